import PyProof.Rows.All
import Wide.All
import OpenK.AllK
import Wide.FinOn
import HandS.ForMost
import HandS.Exc
import HandS.Lambda
import HandS.AnyAll
import HandS.Slots
import HandS.Deep
import HandS.Wide
import HandS.TupAny
import HandS.TupMul
import HandS.Defaults
import HandS.Style
import HandS.Star
import HandS.ExcOwn
import HandS.SortInts
import HandS.SortRule
import HandS.TupSets
import HandS.Conv
import HandS.More
import HandS.TupLen
import HandS.WordsDict
import HandS.Text
import HandS.Codes
import HandS.Small
import HandS.Strs
import HandS.SlotsOwn
import HandS.IsInst
import KE.KDictDisplayH
import HandS.DictComp
import KE.GoesMore
import HandS.IterVal
import HandS.OwnIter
import KE.KDictPairs
import HandS.Words
import HandS.HeadHook1
import HandS.HeadHook2
import HandS.HeadHook3
import HandS.HeadHook4
import HandS.GenOver
import HandS.GenList
import KE.KDictIter
import KE.KExcSuper
import KE.KExcLine
import HandS.ExcInit
import HandS.TryMany
import HandS.ExcField
import HandS.ClsMeth
import HandS.NoneIn
import HandS.Gcd
import KE.KMathGC
import PyProof.PureInt
import HandS.HeadWalk
import HandS.Head0
import HandS.Head1
import HandS.Head2
import HandS.Head3
import PySem.Challenge.RW_groupsover_k74_whole_steps_by_primes_and
set_option Elab.async false
set_option linter.all false
set_option maxRecDepth 100000
set_option maxHeartbeats 8000000
/-! V1: values, objects, results; how they lie in the hand layer's heap. -/
namespace VA
open L2 PySem PySem.Spec PyProof.Rows
/-- a value: tuples, never-changed lists and dicts as trees; changed things by places -/
inductive W where
  | nul | non | bl (b : Bool) | int (i : Int) | str (s : List Nat)
  | tup (xs : List W) | lst (xs : List W) | dct (ks vs : List W)
  | loc (n : Nat) | fn (i : Nat) | cl (i : Nat) | scr (xs : List W)
  | anyi | anyb | rng (n : Nat) | ktp (xs : List W) | ftp (xs : List W)
  deriving Inhabited
inductive Ob where
  | lst (xs : List W) | dct (ks vs : List W) | ins (c : Nat) (fs : List W)
  deriving Inhabited
structure Hpi where
  next : Nat
  objs : List (Nat × Ob)
  deriving Inhabited
inductive R where
  | ok (w : W) (e : List W) (h : Hpi)
  | ret (w : W) (h : Hpi)
  | brk (e : List W) (h : Hpi)
  | cnt (e : List W) (h : Hpi)
  | exc (c : Nat) (fs e : List W) (h : Hpi)
  | bad
  | or (a b : R)
  deriving Inhabited
/-- the addresses of the known defs and classes -/
structure Tab where
  fa : Nat → Addr
  ca : Nat → Addr
  xf : Nat → Str
  tg : List Addr := []
/-- where the places lie; what may be changed -/
structure Rho where
  next : Nat
  pl : Nat → Addr
  mu : Addr → Prop
  plmu : ∀ n, n < next → mu (pl n)
/-- a table of code objects; a code object in such a table -/
def isTb (o : HO) : Prop := ∃ ps, o = .tbl ps
def isC (b : Addr) (o : HO) : Prop := isTb o ∨ ∃ q, o = LamX.CodeO b q
def TbOk (T : Tab) (H : Hp) : Prop := ∀ Z, Z ∈ T.tg → GxR.TabG H Z
theorem TbOk.of {T : Tab} {H H' : Hp} (t : TbOk T H) (k : ∀ b o, H b = some o → isC b o → H' b = some o) : TbOk T H' := fun Z hZ => by
  obtain ⟨ps, e, x⟩ := t Z hZ
  exact ⟨ps, k _ _ e (.inl ⟨ps, rfl⟩), x⟩
abbrev H0 : Hp := fun _ => Option.none
def LstAt (ρ : Rho) (H : Hp) (a : Addr) (vs : List V) : Prop := H a = some (.lst vs) ∧ ¬ ρ.mu a
def ScrAt (K : PySem.W.Frag) (ρ : Rho) (H : Hp) (a : Addr) (vs : List V) : Prop := (Rd H a (.lst vs) ∧ ¬ ρ.mu a) ∨ SqL K H0 a vs
def TupAt (ρ : Rho) (H : Hp) (a : Addr) (vs : List V) : Prop := H a = some (.tup vs) ∧ ¬ ρ.mu a
/-- a tuple of which the object is known -/
def FtpAt (ρ : Rho) (H : Hp) (a : Addr) (vs : List V) : Prop := (∃ o : Obj, H a = some (.frz o (.tup vs)) ∧ o.cls = .type "tuple" ∧ o.dict = Option.none) ∧ ¬ ρ.mu a
/-- a tuple of the text's top -/
def KtpAt (K : PySem.W.Frag) (a : Addr) (vs : List V) : Prop := SqT K H0 a vs
theorem LstAt.sq {K : PySem.W.Frag} {ρ : Rho} {H : Hp} {a : Addr} {vs : List V} (h : LstAt ρ H a vs) : SqL K H a vs := SqL.of h.1
theorem ScrAt.sq {K : PySem.W.Frag} {ρ : Rho} {H : Hp} {a : Addr} {vs : List V} (h : ScrAt K ρ H a vs) : SqL K H a vs := by
  rcases h with ⟨h, _⟩ | h
  · exact .inl h
  · rcases h with ((h | ⟨_, h⟩) | h)
    · cases h
    · cases h
    · exact .inr h
theorem TupAt.sq {K : PySem.W.Frag} {ρ : Rho} {H : Hp} {a : Addr} {vs : List V} (h : TupAt ρ H a vs) : SqT K H a vs := .inl (.inl h.1)
theorem FtpAt.sq {K : PySem.W.Frag} {ρ : Rho} {H : Hp} {a : Addr} {vs : List V} (h : FtpAt ρ H a vs) : SqT K H a vs := by
  obtain ⟨⟨o, h, _⟩, _⟩ := h
  exact .inl (.inr ⟨o, h⟩)
theorem KtpAt.sq {K : PySem.W.Frag} {H : Hp} {a : Addr} {vs : List V} (h : KtpAt K a vs) : SqT K H a vs := by
  rcases h with ((h | ⟨_, h⟩) | h)
  · cases h
  · cases h
  · exact .inr h
/-- a thing that is locked for good -/
def FrzAt (H : Hp) (a : Addr) (u : HO) : Prop := ∃ o : Obj, H a = some (.frz o u)
theorem FrzAt.rd {H : Hp} {a : Addr} {u : HO} (h : FrzAt H a u) : Rd H a u := .inr h
/-- a key of a dict, of a tuple of keys -/
def kOf : W → Option Key
  | .int i => some (.inl i)
  | .str s => some (.inr ⟨s.toArray⟩)
  | _ => Option.none
def ksOf : List W → Option (List Key)
  | [] => some []
  | x :: xs => match kOf x, ksOf xs with
    | some k, some ks => some (k :: ks)
    | _, _ => Option.none
def tOf : W → Option (List Key)
  | .tup xs => ksOf xs
  | _ => Option.none
variable (K : PySem.W.Frag) (T : Tab)
mutual
inductive RW (ρ : Rho) (H : Hp) : W → V → Prop where
  | non : RW ρ H .non .non
  | bl (b : Bool) : RW ρ H (.bl b) (.bl b)
  | int (i : Int) : RW ρ H (.int i) (.int i)
  | str (s : List Nat) : RW ρ H (.str s) (.str ⟨s.toArray⟩)
  | tup {xs : List W} {a : Addr} {vs : List V} (h : TupAt ρ H a vs) (r : RWs ρ H xs vs) : RW ρ H (.tup xs) (.ref a)
  | ftp {xs : List W} {a : Addr} {vs : List V} (h : FtpAt ρ H a vs) (r : RWs ρ H xs vs) : RW ρ H (.ftp xs) (.ref a)
  | ktp {xs : List W} {a : Addr} {vs : List V} (h : KtpAt K a vs) (r : RWs ρ H xs vs) : RW ρ H (.ktp xs) (.ref a)
  | lst {xs : List W} {a : Addr} {vs : List V} (h : LstAt ρ H a vs) (r : RWs ρ H xs vs) : RW ρ H (.lst xs) (.ref a)
  | scr {xs : List W} {a : Addr} {vs : List V} (h : ScrAt K ρ H a vs) (r : RWs ρ H xs vs) : RW ρ H (.scr xs) (.ref a)
  | dctK {ks ws : List W} {a : Addr} {kvs : List (Key × V)} {us : List V} (h : FrzAt H a (.dK kvs)) (m : ¬ ρ.mu a) (hk : ks.map kOf = kvs.map fun p => some p.1) (hu : us = kvs.map fun p => p.2) (r : RWs ρ H ws us) : RW ρ H (.dct ks ws) (.ref a)
  | dctT {ks ws : List W} {a : Addr} {kvs : List (List Key × V)} {us : List V} (h : FrzAt H a (.dT kvs)) (m : ¬ ρ.mu a) (hk : (ks.map tOf = kvs.map fun p => some p.1) ∧ kvs ≠ []) (hu : us = kvs.map fun p => p.2) (r : RWs ρ H ws us) : RW ρ H (.dct ks ws) (.ref a)
  | loc (n : Nat) (h : n < ρ.next) : RW ρ H (.loc n) (.ref (ρ.pl n))
  | fn (i : Nat) : RW ρ H (.fn i) (.ref (T.fa i))
  | cl (i : Nat) : RW ρ H (.cl i) (.ref (T.ca i))
  | anyi (i : Int) : RW ρ H .anyi (.int i)
  | anyb (b : Bool) : RW ρ H .anyb (.bl b)
  | rng (n i : Nat) (h : i < n) : RW ρ H (.rng n) (.int i)
inductive RWs (ρ : Rho) (H : Hp) : List W → List V → Prop where
  | nil : RWs ρ H [] []
  | cons {x : W} {v : V} {xs : List W} {vs : List V} (h : RW ρ H x v) (t : RWs ρ H xs vs) : RWs ρ H (x :: xs) (v :: vs)
end
/-- what a place may become, what stays; P: what else may change -/
structure StpX (P : Addr → Prop) (ρ : Rho) (H : Hp) (ρ' : Rho) (H' : Hp) : Prop where
  le : ρ.next ≤ ρ'.next
  pl : ∀ n, n < ρ.next → ρ'.pl n = ρ.pl n
  fresh : ∀ n, ρ.next ≤ n → n < ρ'.next → H (ρ'.pl n) = Option.none
  up : ∀ a, ρ.mu a → ρ'.mu a
  dn : ∀ a o, H a = some o → ρ'.mu a → ρ.mu a
  hold : ∀ a o, H a = some o → ¬ P a → (∀ n, n < ρ.next → ρ.pl n ≠ a) → ¬ isTb o → H' a = some o
  live : ∀ a o, H a = some o → ∃ o', H' a = some o'
  tb : ∀ T, TbOk T H → TbOk T H'
abbrev Stp := StpX fun _ => False
theorem StpX.keep {P : Addr → Prop} {ρ ρ' : Rho} {H H' : Hp} (s : StpX P ρ H ρ' H') (a : Addr) (o : HO) (h : H a = some o) (p : ¬ P a) (m : ¬ ρ.mu a) (t : ¬ isTb o := by (intro z; obtain ⟨_, z⟩ := z; cases z)) : H' a = some o := s.hold a o h p (fun n hn e => m (e ▸ ρ.plmu n hn)) t
theorem StpX.hld {P : Addr → Prop} {ρ ρ' : Rho} {H H' : Hp} (s : StpX P ρ H ρ' H') (a : Addr) (o : HO) (h : H a = some o) (p : ¬ P a) (n : ∀ n, n < ρ.next → ρ.pl n ≠ a) (t : ¬ isTb o := by (intro z; obtain ⟨_, z⟩ := z; cases z)) : H' a = some o := s.hold a o h p n t
theorem StpX.refl (P : Addr → Prop) (ρ : Rho) (H : Hp) : StpX P ρ H ρ H := ⟨Nat.le_refl _, fun _ _ => rfl, fun n h1 h2 => absurd h2 (by omega), fun _ h => h, fun _ _ _ h => h, fun _ _ h _ _ _ => h, fun a o h => ⟨o, h⟩, fun _ z => z⟩
theorem StpX.trans {P : Addr → Prop} {ρ ρ1 ρ2 : Rho} {H H1 H2 : Hp} (a : StpX P ρ H ρ1 H1) (b : StpX P ρ1 H1 ρ2 H2) : StpX P ρ H ρ2 H2 where
  le := Nat.le_trans a.le b.le
  pl := fun n h => (b.pl n (Nat.lt_of_lt_of_le h a.le)).trans (a.pl n h)
  fresh := fun n h1 h2 => by
    by_cases h : n < ρ1.next
    · rw [b.pl n h]; exact a.fresh n h1 h
    · have z := b.fresh n (by omega) h2
      cases e : H (ρ2.pl n) with
      | none => rfl
      | some o =>
        obtain ⟨o', q⟩ := a.live _ _ e
        rw [q] at z; cases z
  up := fun x h => b.up x (a.up x h)
  dn := fun x o h m => by
    obtain ⟨o', q⟩ := a.live _ _ h
    exact a.dn x o h (b.dn x o' q m)
  hold := fun x o h p m t => by
    have q := a.hold x o h p m t
    refine b.hold x o q p (fun n hn e => ?_) t
    by_cases lt : n < ρ.next
    · exact m n lt ((a.pl n lt).symm.trans e)
    · have z := a.fresh n (by omega) hn
      rw [e, h] at z
      cases z
  live := fun x o h => by
    obtain ⟨o1, q⟩ := a.live _ _ h
    exact b.live _ _ q
  tb := fun T z => b.tb T (a.tb T z)
theorem StpX.imp {P Q : Addr → Prop} {ρ ρ' : Rho} {H H' : Hp} (s : StpX P ρ H ρ' H') (i : ∀ a o, H a = some o → P a → Q a) : StpX Q ρ H ρ' H' := ⟨s.le, s.pl, s.fresh, s.up, s.dn, fun a o h q => s.hold a o h fun p => q (i a o h p), s.live, s.tb⟩
theorem Stp.refl (ρ : Rho) (H : Hp) : Stp ρ H ρ H := StpX.refl _ ρ H
section
variable {K : PySem.W.Frag} {T : Tab} {ρ ρ' : Rho} {H H' : Hp}
theorem _root_.L2.Rd.stp {P : Addr → Prop} {a : Addr} {u : HO} (h : Rd H a u) (s : StpX P ρ H ρ' H') (hP : ∀ a, P a → ρ.mu a) (m : ¬ ρ.mu a) (t : ¬ isTb u := by (intro z; obtain ⟨_, z⟩ := z; cases z)) : Rd H' a u ∧ ¬ ρ'.mu a := by
  rcases h with h | ⟨o, h⟩
  · exact ⟨.inl (s.keep _ _ h (fun p => m (hP a p)) m t), fun z => m (s.dn _ _ h z)⟩
  · exact ⟨.inr ⟨o, s.keep _ _ h (fun p => m (hP a p)) m⟩, fun z => m (s.dn _ _ h z)⟩
theorem FrzAt.stp {P : Addr → Prop} {a : Addr} {u : HO} (h : FrzAt H a u) (s : StpX P ρ H ρ' H') (hP : ∀ a, P a → ρ.mu a) (m : ¬ ρ.mu a) : FrzAt H' a u ∧ ¬ ρ'.mu a := by
  obtain ⟨o, h⟩ := h
  exact ⟨⟨o, s.keep _ _ h (fun p => m (hP a p)) m⟩, fun z => m (s.dn _ _ h z)⟩
theorem LstAt.stepX {P : Addr → Prop} {a : Addr} {vs : List V} (s : StpX P ρ H ρ' H') (hP : ∀ a, P a → ρ.mu a) (h : LstAt ρ H a vs) : LstAt ρ' H' a vs := ⟨s.keep _ _ h.1 (fun p => h.2 (hP a p)) h.2, fun z => h.2 (s.dn _ _ h.1 z)⟩
theorem ScrAt.stepX {P : Addr → Prop} {a : Addr} {vs : List V} (s : StpX P ρ H ρ' H') (hP : ∀ a, P a → ρ.mu a) (h : ScrAt K ρ H a vs) : ScrAt K ρ' H' a vs := h.imp (fun z => z.1.stp s hP z.2) id
theorem TupAt.stepX {P : Addr → Prop} {a : Addr} {vs : List V} (s : StpX P ρ H ρ' H') (hP : ∀ a, P a → ρ.mu a) (h : TupAt ρ H a vs) : TupAt ρ' H' a vs := ⟨s.keep _ _ h.1 (fun p => h.2 (hP a p)) h.2, fun z => h.2 (s.dn _ _ h.1 z)⟩
theorem FtpAt.stepX {P : Addr → Prop} {a : Addr} {vs : List V} (s : StpX P ρ H ρ' H') (hP : ∀ a, P a → ρ.mu a) (h : FtpAt ρ H a vs) : FtpAt ρ' H' a vs := by
  obtain ⟨⟨o, h1, h2⟩, m⟩ := h
  exact ⟨⟨o, s.keep _ _ h1 (fun p => m (hP a p)) m, h2⟩, fun z => m (s.dn _ _ h1 z)⟩
mutual
theorem RW.stepX {P : Addr → Prop} (s : StpX P ρ H ρ' H') (hP : ∀ a, P a → ρ.mu a) : ∀ {w : W} {v : V}, RW K T ρ H w v → RW K T ρ' H' w v
  | _, _, .non => .non
  | _, _, .bl b => .bl b
  | _, _, .int i => .int i
  | _, _, .str x => .str x
  | _, _, .tup h r => .tup (h.stepX s hP) (RWs.stepX s hP r)
  | _, _, .ktp h r => .ktp h (RWs.stepX s hP r)
  | _, _, .ftp h r => .ftp (h.stepX s hP) (RWs.stepX s hP r)
  | _, _, .lst h r => .lst (h.stepX s hP) (RWs.stepX s hP r)
  | _, _, .scr h r => .scr (h.stepX s hP) (RWs.stepX s hP r)
  | _, _, .dctK h m hk hu r => .dctK (h.stp s hP m).1 (h.stp s hP m).2 hk hu (RWs.stepX s hP r)
  | _, _, .dctT h m hk hu r => .dctT (h.stp s hP m).1 (h.stp s hP m).2 hk hu (RWs.stepX s hP r)
  | _, _, .loc n h => by
    have e := s.pl n h
    rw [← e]
    exact .loc n (Nat.lt_of_lt_of_le h s.le)
  | _, _, .fn i => .fn i
  | _, _, .cl i => .cl i
  | _, _, .anyi i => .anyi i
  | _, _, .anyb b => .anyb b
  | _, _, .rng n i h => .rng n i h
theorem RWs.stepX {P : Addr → Prop} (s : StpX P ρ H ρ' H') (hP : ∀ a, P a → ρ.mu a) : ∀ {ws : List W} {vs : List V}, RWs K T ρ H ws vs → RWs K T ρ' H' ws vs
  | _, _, .nil => .nil
  | _, _, .cons h t => .cons (RW.stepX s hP h) (RWs.stepX s hP t)
end
theorem noP {ρ : Rho} : ∀ a, (fun _ : Addr => False) a → ρ.mu a := fun _ h => h.elim
theorem LstAt.step {a : Addr} {vs : List V} (s : Stp ρ H ρ' H') (h : LstAt ρ H a vs) : LstAt ρ' H' a vs := h.stepX s noP
theorem ScrAt.step {a : Addr} {vs : List V} (s : Stp ρ H ρ' H') (h : ScrAt K ρ H a vs) : ScrAt K ρ' H' a vs := h.stepX s noP
theorem TupAt.step {a : Addr} {vs : List V} (s : Stp ρ H ρ' H') (h : TupAt ρ H a vs) : TupAt ρ' H' a vs := h.stepX s noP
theorem FtpAt.step {a : Addr} {vs : List V} (s : Stp ρ H ρ' H') (h : FtpAt ρ H a vs) : FtpAt ρ' H' a vs := h.stepX s noP
theorem RW.step (s : Stp ρ H ρ' H') {w : W} {v : V} (r : RW K T ρ H w v) : RW K T ρ' H' w v := RW.stepX s noP r
theorem RWs.step (s : Stp ρ H ρ' H') {ws : List W} {vs : List V} (r : RWs K T ρ H ws vs) : RWs K T ρ' H' ws vs := RWs.stepX s noP r
/-! fewer things may be changed -/
mutual
theorem RW.sub (e : ρ.next ≤ ρ'.next) (p : ∀ n, n < ρ.next → ρ'.pl n = ρ.pl n) (s : ∀ a, ρ'.mu a → ρ.mu a) : ∀ {w : W} {v : V}, RW K T ρ H w v → RW K T ρ' H w v
  | _, _, .non => .non
  | _, _, .bl b => .bl b
  | _, _, .int i => .int i
  | _, _, .str x => .str x
  | _, _, .tup h r => .tup ⟨h.1, fun q => h.2 (s _ q)⟩ (RWs.sub e p s r)
  | _, _, .ktp h r => .ktp h (RWs.sub e p s r)
  | _, _, .ftp h r => .ftp ⟨h.1, fun q => h.2 (s _ q)⟩ (RWs.sub e p s r)
  | _, _, .lst h r => .lst ⟨h.1, fun q => h.2 (s _ q)⟩ (RWs.sub e p s r)
  | _, _, .scr h r => .scr (h.imp (fun z => ⟨z.1, fun q => z.2 (s _ q)⟩) id) (RWs.sub e p s r)
  | _, _, .dctK h m hk hu r => .dctK h (fun q => m (s _ q)) hk hu (RWs.sub e p s r)
  | _, _, .dctT h m hk hu r => .dctT h (fun q => m (s _ q)) hk hu (RWs.sub e p s r)
  | _, _, .loc n h => by
    rw [← p n h]
    exact .loc n (Nat.lt_of_lt_of_le h e)
  | _, _, .fn i => .fn i
  | _, _, .cl i => .cl i
  | _, _, .anyi i => .anyi i
  | _, _, .anyb b => .anyb b
  | _, _, .rng n i h => .rng n i h
theorem RWs.sub (e : ρ.next ≤ ρ'.next) (p : ∀ n, n < ρ.next → ρ'.pl n = ρ.pl n) (s : ∀ a, ρ'.mu a → ρ.mu a) : ∀ {ws : List W} {vs : List V}, RWs K T ρ H ws vs → RWs K T ρ' H ws vs
  | _, _, .nil => .nil
  | _, _, .cons h t => .cons (RW.sub e p s h) (RWs.sub e p s t)
end
theorem RWs.length : ∀ {ws : List W} {vs : List V}, RWs K T ρ H ws vs → ws.length = vs.length
  | _, _, .nil => rfl
  | _, _, .cons _ t => congrArg (· + 1) t.length
theorem RWs.get : ∀ {ws : List W} {vs : List V} {i : Nat} {w : W}, RWs K T ρ H ws vs → ws[i]? = some w → ∃ v, vs[i]? = some v ∧ RW K T ρ H w v
  | _, _, _, _, .nil, e => absurd e (by simp)
  | _, _, 0, _, .cons h _, e => by simp at e; subst e; exact ⟨_, rfl, h⟩
  | _, _, i + 1, _, .cons _ t, e => by
    obtain ⟨v, e1, r⟩ := RWs.get (i := i) t (by simpa using e)
    exact ⟨v, by simpa using e1, r⟩
theorem RWs.append : ∀ {ws xs : List W} {vs us : List V}, RWs K T ρ H ws vs → RWs K T ρ H xs us → RWs K T ρ H (ws ++ xs) (vs ++ us)
  | _, _, _, _, .nil, b => b
  | _, _, _, _, .cons h t, b => .cons h (t.append b)
theorem RWs.one {w : W} {v : V} (h : RW K T ρ H w v) : RWs K T ρ H [w] [v] := .cons h .nil
theorem RWs.take : ∀ (n : Nat) {ws : List W} {vs : List V}, RWs K T ρ H ws vs → RWs K T ρ H (ws.take n) (vs.take n)
  | 0, _, _, _ => .nil
  | _ + 1, _, _, .nil => .nil
  | n + 1, _, _, .cons h t => .cons h (RWs.take n t)
theorem RWs.drop : ∀ (n : Nat) {ws : List W} {vs : List V}, RWs K T ρ H ws vs → RWs K T ρ H (ws.drop n) (vs.drop n)
  | 0, _, _, h => h
  | _ + 1, _, _, .nil => .nil
  | n + 1, _, _, .cons _ t => RWs.drop n t
theorem RWs.set : ∀ (i : Nat) {ws : List W} {vs : List V} {w : W} {v : V}, RWs K T ρ H ws vs → RW K T ρ H w v → RWs K T ρ H (ws.set i w) (vs.set i v)
  | _, _, _, _, _, .nil, _ => .nil
  | 0, _, _, _, _, .cons _ t, r => .cons r t
  | i + 1, _, _, _, _, .cons h t, r => .cons h (RWs.set i t r)
theorem RWs.eraseIdx : ∀ (i : Nat) {ws : List W} {vs : List V}, RWs K T ρ H ws vs → RWs K T ρ H (ws.eraseIdx i) (vs.eraseIdx i)
  | _, _, _, .nil => .nil
  | 0, _, _, .cons _ t => t
  | i + 1, _, _, .cons h t => .cons h (RWs.eraseIdx i t)
theorem RWs.reverse {ws : List W} {vs : List V} (h : RWs K T ρ H ws vs) : RWs K T ρ H ws.reverse vs.reverse := by
  induction ws generalizing vs with
  | nil => cases h; exact .nil
  | cons x xs ih =>
    cases h with
    | cons h t =>
      simp only [List.reverse_cons]
      exact (ih t).append (.one h)
end
/-- a step in which what may be changed may have changed -/
def StpM (ρ : Rho) (H : Hp) (ρ' : Rho) (H' : Hp) : Prop := ∃ P : Addr → Prop, (∀ a, P a → ρ.mu a) ∧ StpX P ρ H ρ' H'
section
variable {K : PySem.W.Frag} {T : Tab} {ρ ρ' : Rho} {H H' : Hp}
theorem StpX.m {P : Addr → Prop} (s : StpX P ρ H ρ' H') (hP : ∀ a, P a → ρ.mu a) : StpM ρ H ρ' H' := ⟨P, hP, s⟩
theorem StpX.m0 (s : Stp ρ H ρ' H') : StpM ρ H ρ' H' := ⟨_, noP, s⟩
theorem RWs.stepM {ws : List W} {vs : List V} (r : RWs K T ρ H ws vs) (s : StpM ρ H ρ' H') : RWs K T ρ' H' ws vs := by
  obtain ⟨P, hP, s⟩ := s
  exact RWs.stepX s hP r
theorem LstAt.stepM {a : Addr} {vs : List V} (h : LstAt ρ H a vs) (s : StpM ρ H ρ' H') : LstAt ρ' H' a vs := by
  obtain ⟨P, hP, s⟩ := s
  exact h.stepX s hP
theorem ScrAt.stepM {a : Addr} {vs : List V} (h : ScrAt K ρ H a vs) (s : StpM ρ H ρ' H') : ScrAt K ρ' H' a vs := by
  obtain ⟨P, hP, s⟩ := s
  exact h.stepX s hP
theorem TupAt.stepM {a : Addr} {vs : List V} (h : TupAt ρ H a vs) (s : StpM ρ H ρ' H') : TupAt ρ' H' a vs := by
  obtain ⟨P, hP, s⟩ := s
  exact h.stepX s hP
theorem FtpAt.stepM {a : Addr} {vs : List V} (h : FtpAt ρ H a vs) (s : StpM ρ H ρ' H') : FtpAt ρ' H' a vs := by
  obtain ⟨P, hP, s⟩ := s
  exact h.stepX s hP
theorem StpM.keep (s : StpM ρ H ρ' H') {a : Addr} {o : HO} (h : H a = some o) (m : ¬ ρ.mu a) (t : ¬ isTb o := by (intro z; obtain ⟨_, z⟩ := z; cases z)) : H' a = some o := by
  obtain ⟨P, hP, s⟩ := s
  exact s.keep _ _ h (fun p => m (hP a p)) m t
end
end VA
set_option Elab.async false
set_option linter.all false
set_option maxRecDepth 100000
set_option maxHeartbeats 8000000
/-! V2: the places' objects in the heap. -/
namespace VA
open L2 PySem PySem.Spec PyProof.Rows
def getO : List (Nat × Ob) → Nat → Option Ob
  | [], _ => Option.none
  | p :: r, n => match Nat.beq p.1 n with
    | true => some p.2
    | false => getO r n
def putO : List (Nat × Ob) → Nat → Ob → List (Nat × Ob)
  | [], _, _ => []
  | p :: r, n, o => match Nat.beq p.1 n with
    | true => (p.1, o) :: r
    | false => p :: putO r n o
def cutO : List (Nat × Ob) → Nat → List (Nat × Ob)
  | [], _ => []
  | p :: r, n => match Nat.blt p.1 n with
    | true => p :: r
    | false => cutO r n
theorem getO_put_same : ∀ {l : List (Nat × Ob)} {n : Nat} {o u : Ob}, getO (putO l n o) n = some u → u = o
  | [], _, _, _, h => nomatch h
  | p :: r, n, o, u, h => by
    simp only [putO] at h
    cases e : Nat.beq p.1 n with
    | true => rw [e] at h; simp only [getO, e] at h; cases h; rfl
    | false => rw [e] at h; simp only [getO, e] at h; exact getO_put_same h
theorem getO_put_ne : ∀ {l : List (Nat × Ob)} {n m : Nat} {o : Ob}, m ≠ n → getO (putO l n o) m = getO l m
  | [], _, _, _, _ => rfl
  | p :: r, n, m, o, h => by
    simp only [putO]
    cases e : Nat.beq p.1 n with
    | true =>
      have e1 : p.1 = n := Nat.eq_of_beq_eq_true e
      have e2 : Nat.beq p.1 m = false := by
        cases q : Nat.beq p.1 m with
        | false => rfl
        | true => exact absurd ((Nat.eq_of_beq_eq_true q).symm.trans e1) h
      simp only [getO, e2]
    | false =>
      simp only [getO]
      rw [getO_put_ne h]
theorem getO_there : ∀ {l : List (Nat × Ob)} {n : Nat} {o u : Ob}, getO (putO l n o) n = some u → ∃ o', getO l n = some o'
  | [], _, _, _, h => nomatch h
  | p :: r, n, o, u, h => by
    simp only [putO] at h
    cases e : Nat.beq p.1 n with
    | true => exact ⟨p.2, by simp only [getO, e]⟩
    | false => rw [e] at h; simp only [getO, e] at h ⊢; exact getO_there h
/-- sorted by falling ids: what is cut away is not found, all else is -/
theorem getO_cut : ∀ {l : List (Nat × Ob)} {n m : Nat} {o : Ob}, (l.Pairwise fun p q => q.1 < p.1) → getO (cutO l n) m = some o → getO l m = some o
  | [], _, _, _, _, h => nomatch h
  | p :: r, n, m, o, hs, h => by
    simp only [cutO] at h
    cases e : Nat.blt p.1 n with
    | true => rw [e] at h; exact h
    | false =>
      rw [e] at h
      have q := getO_cut (List.pairwise_cons.mp hs).2 h
      have mem : ∀ {l : List (Nat × Ob)} {m : Nat} {o : Ob}, getO l m = some o → ∃ u, (m, u) ∈ l := by
        intro l
        induction l with
        | nil => intro m o h; cases h
        | cons p r ih =>
          intro m o h
          simp only [getO] at h
          cases e : Nat.beq p.1 m with
          | true => exact ⟨p.2, by rw [← Nat.eq_of_beq_eq_true e]; exact List.mem_cons_self⟩
          | false => rw [e] at h; obtain ⟨u, hu⟩ := ih h; exact ⟨u, List.mem_cons_of_mem _ hu⟩
      obtain ⟨u, hu⟩ := mem q
      have lt := (List.pairwise_cons.mp hs).1 _ hu
      have ne : Nat.beq p.1 m = false := by
        cases z : Nat.beq p.1 m with
        | false => rfl
        | true => exact absurd (Nat.eq_of_beq_eq_true z) (by simp only at lt; omega)
      simp only [getO, ne]; exact q
namespace Hpi
def get (h : Hpi) (n : Nat) : Option Ob := getO h.objs n
def put (h : Hpi) (n : Nat) (o : Ob) : Hpi := ⟨h.next, putO h.objs n o⟩
def new (h : Hpi) (o : Ob) : Hpi := ⟨h.next + 1, (h.next, o) :: h.objs⟩
def new2 (h : Hpi) (o : Ob) : Hpi := ⟨h.next + 2, (h.next, o) :: h.objs⟩
end Hpi
variable (K : PySem.W.Frag) (T : Tab)
/-- a dict's description -/
def DctO (ρ : Rho) (H : Hp) (o : HO) (ks ws : List W) : Prop :=
  (∃ kvs us, o = .dK kvs ∧ ks.map kOf = kvs.map (fun p => some p.1) ∧ us = kvs.map (fun p => p.2) ∧ RWs K T ρ H ws us) ∨
  (∃ kvs us, o = .dT kvs ∧ (ks.map tOf = kvs.map (fun p => some p.1) ∧ kvs ≠ []) ∧ us = kvs.map (fun p => p.2) ∧ RWs K T ρ H ws us)
/-- an instance with slots, its own dict at dx -/
def InsAt (H : Hp) (a C dx : Addr) (vs : List (Option V)) : Prop := (H a = some (.ins C dx []) ∧ H dx = some (.own a) ∧ vs = []) ∨ (H a = some (SlX.SlO a C dx vs) ∧ H dx = some (.xd []))
theorem InsAt.slt {H : Hp} {a C dx : Addr} {vs : List (Option V)} (h : InsAt H a C dx vs) : SlX.Slt H a C dx vs := by
  rcases h with ⟨h, _, e⟩ | ⟨h, h2⟩
  · exact .inl ⟨h, e⟩
  · exact .inr ⟨h, h2⟩
def RO (ρ : Rho) (H : Hp) (n : Nat) : Ob → Prop
  | .lst ws => ∃ vs, H (ρ.pl n) = some (.lst vs) ∧ RWs K T ρ H ws vs
  | .dct ks ws => ∃ o, H (ρ.pl n) = some o ∧ DctO K T ρ H o ks ws
  | .ins c fs => n + 1 < ρ.next ∧ ∃ vs, InsAt H (ρ.pl n) (T.ca c) (ρ.pl (n + 1)) vs ∧ ∀ (i : Nat) (w : W), fs[i]? = some w → w ≠ .nul → ∃ v, vs[i]? = some (some v) ∧ RW K T ρ H w v
open Classical in
/-- no tuple, no table, no code object -/
noncomputable def nT : HO → Bool
  | .tup _ => false
  | .tbl _ => false
  | .ext φ => @decide (∃ a C dx vs, HO.ext φ = SlX.SlO a C dx vs) (Classical.propDecidable _)
  | _ => true
theorem nT_slo (a C dx : Addr) (vs : List (Option V)) : nT (SlX.SlO a C dx vs) = true := by
  unfold SlX.SlO nT
  exact @decide_eq_true _ (Classical.propDecidable _) ⟨a, C, dx, vs, by unfold SlX.SlO; rfl⟩
theorem slo_code {a C dx c : Addr} {vs : List (Option V)} {q : Str} : SlX.SlO a C dx vs ≠ LamX.CodeO c q := fun z => by
  unfold SlX.SlO LamX.CodeO at z
  have z := HO.ext.inj z
  let hh : Heap := { objs := Array.replicate (a + c + 1) { cls := .none, data := .fields #[.none, .str q 0] } }
  have get : ∀ b : Nat, b ≤ a + c → hh.get? b = some { cls := .none, data := .fields #[.none, .str q 0] } := fun b hb => by
    have h1 : b < hh.objs.size := by
      show b < (Array.replicate (a + c + 1) _).size
      rw [Array.size_replicate]; omega
    unfold Heap.get?
    have h2 : hh.objs[b]? = some { cls := .none, data := .fields #[.none, .str q 0] } := by
      show (Array.replicate (a + c + 1) _)[b]? = _
      rw [Array.getElem?_replicate, if_pos (by omega)]
    rw [h2]
    first | done | rfl
  have y := congrFun z hh
  have x : ∃ (oc : Obj) (vs : Array Value) (t : Tok), hh.get? c = some oc ∧ oc.data = .fields vs ∧ vs[1]? = some (.str q t) := ⟨_, _, 0, get c (Nat.le_add_left _ _), rfl, rfl⟩
  rw [← y] at x
  obtain ⟨sl, e, _⟩ := x
  rw [get a (Nat.le_add_right _ _)] at e
  cases e
theorem nT_isC {o : HO} (t : nT o = true) (b : Addr) : ¬ isC b o := fun z => by
  rcases z with ⟨ps, z⟩ | ⟨q, z⟩
  · subst z; cases t
  · subst z
    unfold LamX.CodeO nT at t
    obtain ⟨a, C, dx, vs, e⟩ := @of_decide_eq_true _ (Classical.propDecidable _) t
    exact slo_code (c := b) (q := q) (by rw [← e]; unfold LamX.CodeO; rfl)
theorem nT_tb {o : HO} (t : nT o = true) : ¬ isTb o := fun z => nT_isC t 0 (.inl z)
structure RelH (ρ : Rho) (H : Hp) (hp : Hpi) : Prop where
  nx : hp.next = ρ.next
  inj : ∀ i j, i < ρ.next → j < ρ.next → ρ.pl i = ρ.pl j → i = j
  on : ∀ a, ρ.mu a → ∃ o, H a = some o ∧ nT o = true
  srt : hp.objs.Pairwise fun p q => q.1 < p.1
  ob : ∀ n o, hp.get n = some o → n < ρ.next ∧ RO K T ρ H n o
  tb : TbOk T H
/-- the slots -/
structure REnv (ρ : Rho) (H : Hp) (e : List W) (σ : L2.St) : Prop where
  len : e.length = σ.length
  at_ : ∀ (i : Nat) (w : W), e[i]? = some w → w ≠ .nul → ∃ v, σ[i]? = some (some v) ∧ RW K T ρ H w v
section
variable {K : PySem.W.Frag} {T : Tab} {ρ ρ' : Rho} {H H' : Hp} {hp : Hpi}
theorem REnv.step (s : Stp ρ H ρ' H') {e : List W} {σ : L2.St} (r : REnv K T ρ H e σ) : REnv K T ρ' H' e σ := ⟨r.len, fun i w h n => by
  obtain ⟨v, e, q⟩ := r.at_ i w h n
  exact ⟨v, e, q.step s⟩⟩
theorem REnv.set {e : List W} {σ : L2.St} (r : REnv K T ρ H e σ) (i : Nat) {w : W} {v : V} (h : RW K T ρ H w v) : REnv K T ρ H (e.set i w) (σ.set i (some v)) := ⟨by simp [r.len], fun j u hj n => by
  by_cases ij : i = j
  · subst ij
    have hl : i < e.length := by
      have z := (List.getElem?_eq_some_iff.mp hj).1
      simpa using z
    rw [List.getElem?_set_self hl] at hj
    cases hj
    exact ⟨v, by rw [List.getElem?_set_self (by rw [← r.len]; exact hl)], h⟩
  · rw [List.getElem?_set_ne ij] at hj ⊢
    exact r.at_ j u hj n⟩
def wipeW (e : List W) : List Nat → List W
  | [] => e
  | v :: vs => (wipeW e vs).set v .nul
theorem REnv.unset {e : List W} {σ : L2.St} (r : REnv K T ρ H e σ) (i : Nat) : REnv K T ρ H (e.set i .nul) (σ.set i Option.none) := ⟨by simp [r.len], fun j u hj n => by
  by_cases ij : i = j
  · subst ij
    have hl : i < e.length := by
      have z := (List.getElem?_eq_some_iff.mp hj).1
      simpa using z
    rw [List.getElem?_set_self hl] at hj
    cases hj
    exact absurd rfl n
  · rw [List.getElem?_set_ne ij] at hj ⊢
    exact r.at_ j u hj n⟩
theorem REnv.wipe {e : List W} {σ : L2.St} (r : REnv K T ρ H e σ) : ∀ vs : List Nat, REnv K T ρ H (wipeW e vs) (wipe σ vs)
  | [] => r
  | v :: vs => (r.wipe vs).unset v
theorem DctO.step (s : Stp ρ H ρ' H') {o : HO} {ks ws : List W} (h : DctO K T ρ H o ks ws) : DctO K T ρ' H' o ks ws := by
  rcases h with ⟨kvs, us, e, k, u, r⟩ | ⟨kvs, us, e, k, u, r⟩
  · exact .inl ⟨kvs, us, e, k, u, r.step s⟩
  · exact .inr ⟨kvs, us, e, k, u, r.step s⟩
/-- a new thing that is never changed -/
theorem Stp.imm (ρ : Rho) {a : Addr} (o : HO) (h : H a = Option.none) : Stp ρ H ρ (upd H a o) :=
  ⟨Nat.le_refl _, fun _ _ => rfl, fun n h1 h2 => absurd h2 (by omega), fun _ h => h, fun _ _ _ h => h,
   fun b u e _ _ _ => by rw [upd_ne (ne_of_none e h)]; exact e, fun b u e => ⟨u, by rw [upd_ne (ne_of_none e h)]; exact e⟩, fun T t => t.of fun b u e _ => by rw [upd_ne (ne_of_none e h)]; exact e⟩
theorem RelH.imm (r : RelH K T ρ H hp) {a : Addr} (o : HO) (h : H a = Option.none) : RelH K T ρ (upd H a o) hp ∧ ¬ ρ.mu a := by
  have st := Stp.imm ρ o h
  have hm : ¬ ρ.mu a := fun m => by
    obtain ⟨u, e, _⟩ := r.on a m
    rw [h] at e; cases e
  have ne : ∀ n, n < ρ.next → ρ.pl n ≠ a := fun n hn e => hm (e ▸ ρ.plmu n hn)
  refine ⟨⟨r.nx, r.inj, fun b m => ?_, r.srt, fun n u e => ?_, st.tb T r.tb⟩, hm⟩
  · obtain ⟨u, e, t⟩ := r.on b m
    exact ⟨u, by rw [upd_ne (ne_of_none e h)]; exact e, t⟩
  · obtain ⟨hn, x⟩ := r.ob n u e
    refine ⟨hn, ?_⟩
    cases u with
    | lst ws => obtain ⟨vs, e1, q⟩ := x; exact ⟨vs, by rw [upd_ne (ne n hn)]; exact e1, q.step st⟩
    | dct ks ws => obtain ⟨o', e1, q⟩ := x; exact ⟨o', by rw [upd_ne (ne n hn)]; exact e1, q.step st⟩
    | ins c fs =>
      obtain ⟨h2, vs, q, z⟩ := x
      refine ⟨h2, vs, ?_, fun i w e1 n1 => ?_⟩
      · rcases q with ⟨q1, q2, q3⟩ | ⟨q1, q2⟩
        · exact .inl ⟨by rw [upd_ne (ne n hn)]; exact q1, by rw [upd_ne (ne _ h2)]; exact q2, q3⟩
        · exact .inr ⟨by rw [upd_ne (ne n hn)]; exact q1, by rw [upd_ne (ne _ h2)]; exact q2⟩
      · obtain ⟨v, e2, q3⟩ := z i w e1 n1
        exact ⟨v, e2, q3.step st⟩
/-- a thing of a place; the own dict of an instance -/
def mainO : HO → Prop
  | .lst _ => True
  | .dK _ => True
  | .dT _ => True
  | .ins _ _ _ => True
  | .ext φ => ∃ a C dx vs, HO.ext φ = SlX.SlO a C dx vs
  | _ => False
def auxO : HO → Prop
  | .own _ => True
  | .xd _ => True
  | _ => False
theorem main_aux {o : HO} (h : mainO o) : ¬ auxO o := by
  cases o <;> first | exact fun z => z | exact h.elim
theorem aux_nT {o : HO} (h : auxO o) : nT o = true := by
  cases o <;> first | rfl | exact h.elim
theorem main_nT {o : HO} (h : mainO o) : nT o = true := by
  cases o <;> first | rfl | exact h.elim | (obtain ⟨a, C, dx, vs, e⟩ := h; rw [e]; exact nT_slo ..)
theorem main_slo (a C dx : Addr) (vs : List (Option V)) : mainO (SlX.SlO a C dx vs) := by
  unfold SlX.SlO mainO
  exact ⟨a, C, dx, vs, by unfold SlX.SlO; rfl⟩
theorem RO.main {n : Nat} {u : Ob} (x : RO K T ρ H n u) : ∃ o, H (ρ.pl n) = some o ∧ mainO o := by
  cases u with
  | lst ws => obtain ⟨vs, e, _⟩ := x; exact ⟨_, e, trivial⟩
  | dct ks ws =>
    obtain ⟨o, e, h⟩ := x
    rcases h with ⟨_, _, z, _⟩ | ⟨_, _, z, _⟩
    · subst z; exact ⟨_, e, trivial⟩
    · subst z; exact ⟨_, e, trivial⟩
  | ins c fs =>
    obtain ⟨_, vs, h, _⟩ := x
    rcases h with ⟨h, _⟩ | ⟨h, _⟩
    · exact ⟨_, h, trivial⟩
    · exact ⟨_, h, main_slo ..⟩
theorem RO.aux {n c : Nat} {fs : List W} (x : RO K T ρ H n (.ins c fs)) : n + 1 < ρ.next ∧ ∃ o, H (ρ.pl (n + 1)) = some o ∧ auxO o := by
  obtain ⟨h2, vs, h, _⟩ := x
  rcases h with ⟨_, h, _⟩ | ⟨_, h⟩
  · exact ⟨h2, _, h, trivial⟩
  · exact ⟨h2, _, h, trivial⟩
/-- a change at the places P alone -/
structure Chg (ρ : Rho) (H H' : Hp) (P : Nat → Prop) : Prop where
  st : Stp ρ H ρ H'
  same : ∀ m, m < ρ.next → ¬ P m → H' (ρ.pl m) = H (ρ.pl m)
theorem RO.away (c : Chg ρ H H' P) {m : Nat} {u : Ob} (hm : m < ρ.next) (h1 : ¬ P m) (h2 : (∃ c fs, u = .ins c fs) → ¬ P (m + 1)) (x : RO K T ρ H m u) : RO K T ρ H' m u := by
  cases u with
  | lst ws => obtain ⟨vs, e1, q⟩ := x; exact ⟨vs, by rw [c.same m hm h1]; exact e1, q.step c.st⟩
  | dct ks ws => obtain ⟨o', e1, q⟩ := x; exact ⟨o', by rw [c.same m hm h1]; exact e1, q.step c.st⟩
  | ins k fs =>
    obtain ⟨hn, vs, q, z⟩ := x
    have h2 := h2 ⟨k, fs, rfl⟩
    refine ⟨hn, vs, ?_, fun i w e1 n1 => ?_⟩
    · rcases q with ⟨q1, q2, q3⟩ | ⟨q1, q2⟩
      · exact .inl ⟨by rw [c.same m hm h1]; exact q1, by rw [c.same _ hn h2]; exact q2, q3⟩
      · exact .inr ⟨by rw [c.same m hm h1]; exact q1, by rw [c.same _ hn h2]; exact q2⟩
    · obtain ⟨v, e2, q3⟩ := z i w e1 n1
      exact ⟨v, e2, q3.step c.st⟩
theorem RelH.nt (r : RelH K T ρ H hp) {a : Addr} {o : HO} (m : ρ.mu a) (e : H a = some o) : nT o = true := by
  obtain ⟨u, e', t⟩ := r.on a m
  rw [e] at e'
  cases e'
  exact t
theorem RelH.pt (r : RelH K T ρ H hp) {n : Nat} {o : HO} (hn : n < ρ.next) (e : H (ρ.pl n) = some o) : ¬ isTb o := by
  obtain ⟨u, e', t⟩ := r.on (ρ.pl n) (ρ.plmu n hn)
  rw [e] at e'
  cases e'
  exact nT_tb t
/-- a place changed: everything else stays -/
theorem Stp.put (r : RelH K T ρ H hp) {n : Nat} (hn : n < ρ.next) (o : HO) : Chg ρ H (upd H (ρ.pl n) o) (fun m => m = n) := by
  refine ⟨⟨Nat.le_refl _, fun _ _ => rfl, fun n h1 h2 => absurd h2 (by omega), fun _ h => h, fun _ _ _ h => h,
   fun b u e _ m _ => ?_, fun b u e => ?_, fun T' t => ?_⟩, fun m hm ne => ?_⟩
  · have z : b ≠ ρ.pl n := fun z => m n hn z.symm
    rw [upd_ne z]; exact e
  · by_cases z : b = ρ.pl n
    · exact ⟨o, by rw [z, upd_same]⟩
    · exact ⟨u, by rw [upd_ne z]; exact e⟩
  · refine t.of fun b u e c => ?_
    rw [upd_ne fun z => ?_]
    · exact e
    · obtain ⟨u', e', t'⟩ := r.on (ρ.pl n) (ρ.plmu n hn)
      rw [← z, e] at e'
      cases e'
      exact nT_isC t' b c
  · rw [upd_ne fun z => ne (r.inj _ _ hm hn z)]
theorem putO_sorted : ∀ {l : List (Nat × Ob)} (n : Nat) (o : Ob), (l.Pairwise fun p q => q.1 < p.1) → (putO l n o).Pairwise fun p q => q.1 < p.1
  | [], _, _, h => h
  | p :: r, n, o, h => by
    have ⟨h1, h2⟩ := List.pairwise_cons.mp h
    have keys : ∀ {l : List (Nat × Ob)} {q : Nat × Ob}, q ∈ putO l n o → ∃ q', q' ∈ l ∧ q'.1 = q.1 := by
      intro l
      induction l with
      | nil => intro q h; cases h
      | cons p r ih =>
        intro q h
        simp only [putO] at h
        cases e : Nat.beq p.1 n with
        | true =>
          rw [e] at h
          rcases List.mem_cons.mp h with (z | z)
          · exact ⟨p, List.mem_cons_self, by rw [z]⟩
          · exact ⟨q, List.mem_cons_of_mem _ z, rfl⟩
        | false =>
          rw [e] at h
          rcases List.mem_cons.mp h with (z | z)
          · exact ⟨p, List.mem_cons_self, by rw [z]⟩
          · obtain ⟨q', a, b⟩ := ih z; exact ⟨q', List.mem_cons_of_mem _ a, b⟩
    simp only [putO]
    cases e : Nat.beq p.1 n with
    | true => exact List.pairwise_cons.mpr ⟨h1, h2⟩
    | false =>
      refine List.pairwise_cons.mpr ⟨fun q hq => ?_, putO_sorted n o h2⟩
      obtain ⟨q', a, b⟩ := keys hq
      rw [← b]; exact h1 q' a
/-- the heap behind a change at n (a list or a dict there) -/
theorem RelH.put (r : RelH K T ρ H hp) {n : Nat} {old new : Ob} (e : hp.get n = some old) (ho : ∀ c fs, old ≠ .ins c fs) {o : HO} (x : RO K T ρ (upd H (ρ.pl n) o) n new) :
    Stp ρ H ρ (upd H (ρ.pl n) o) ∧ RelH K T ρ (upd H (ρ.pl n) o) (hp.put n new) := by
  obtain ⟨hn, xo⟩ := r.ob n old e
  have c := Stp.put r hn o
  refine ⟨c.st, ⟨r.nx, r.inj, fun a m => ?_, putO_sorted _ _ r.srt, fun m u hu => ?_, c.st.tb T r.tb⟩⟩
  · obtain ⟨q, e, t⟩ := r.on a m
    by_cases z : a = ρ.pl n
    · obtain ⟨o1, e1, m1⟩ := x.main
      rw [z]
      exact ⟨o1, e1, main_nT m1⟩
    · exact ⟨q, by rw [upd_ne z]; exact e, t⟩
  · by_cases mn : m = n
    · subst mn
      have z := getO_put_same hu
      subst z
      exact ⟨hn, x⟩
    · have hu' : hp.get m = some u := (getO_put_ne mn).symm.trans hu
      obtain ⟨hm, y⟩ := r.ob m u hu'
      refine ⟨hm, RO.away c hm mn (fun ⟨k, fs, eu⟩ z => ?_) y⟩
      subst eu
      obtain ⟨_, o1, e1, a1⟩ := y.aux
      obtain ⟨o2, e2, a2⟩ := xo.main
      rw [z, e2] at e1
      cases e1
      exact main_aux a2 a1
end
end VA
set_option Elab.async false
set_option linter.all false
set_option maxRecDepth 100000
set_option maxHeartbeats 8000000
/-! V3: the syntax and its meaning. -/
namespace VA
open L2 PySem PySem.Spec PyProof.Rows
inductive Bop where | add | sub | mul | fdiv | mod | pow
inductive Cop where | eq | ne | lt | le | gt | ge | isn | inn | isin | notin
/-- built-ins with values -/
inductive Bi where | len | abs | min2 | max2 | int1 | str1 | tuple1 | list1 | sorted1 | sum1 | all1 | any1 | dict1 | min1 | max1
inductive Bm where | append | pop1 | get2 | index1 | extend1
inductive Ty where | ty (n : String) | cls (i : Nat)
inductive Tg where | nm (i : Nat) | tp (is : List Nat)
inductive I where
  | cint (i : Int) | cbl (b : Bool) | cstr (s : List Nat) | cnon | gval (w : W)
  | var (i : Nat)
  | nil | cons (a r : I) | star (a r : I)
  | tupl (a : I) | list (m : Bool) (a : I)
  | bin (o : Bop) (a b : I) | neg (a : I) | not (a : I)
  | cmp (o : Cop) (a b : I) | cmp2 (o o' : Cop) (a b c : I)
  | and (a b : I) | or (a b : I) | ife (t a b : I)
  | idx (a b : I) | cut (a lo hi : I) | rev (a : I)
  | fld (a : I) (c i : Nat) | prop (a : I) (c f : Nat)
  | call (keep : Bool) (f : Nat) (a : I) | make (c f : Nat) (a : I) | meth (o : I) (c f : Nat) (a : I) | cmeth (c f : Nat) (a : I)
  | bi (b : Bi) (a : I) | isi (a : I) (t : Ty) | bm (m : Bm) (o a : I)
  | lc (m : Bool) (own : List Nat) (g : Tg) (it ts e : I)
  | lc2 (m : Bool) (own vs1 : List Nat) (g : Tg) (it ts : I) (g1 : Tg) (it1 ts1 e : I)
  | dc (own : List Nat) (g : Tg) (it ts k v : I)
  | dc2 (own vs1 : List Nat) (g : Tg) (it ts : I) (g1 : Tg) (it1 ts1 k v : I)
  | dsp (m : Bool) (a : I) | mrg (a b : I)
  | lstOf (m : Bool) (a : I)  -- list(iterable)
  | tupOf (a : I)
  | yes
  -- what is walked
  | iseq (a : I) | irng1 (a : I) | irng2 (a b : I) | ienum (a : I) | izip (a b : I) | iins (a : I) (c f : Nat) | idct (a : I) | iitems (a : I) | ivals (a : I)
  -- statements
  | skip | seq (a b : I) | set (i : Nat) (a : I) | setT (is : List Nat) (a : I) | par (is : List Nat) (a : I)
  | sfld (o : I) (c i : Nat) (a : I) | sidx (o k a : I) | aug (o : Bop) (i : Nat) (a : I) | augI (o : Bop) (x k a : I)
  | sif (t a b : I) | whl (n : Nat) (t b : I) | loop (g : Tg) (it b : I) | ret (a : I) | expr (a : I) | brk | cnt
/-! ### arithmetic that is done at once -/
def sqN {α : Type} (n : Nat) (k : Nat → α) : α := match n with
  | 0 => k 0
  | m + 1 => k (m + 1)
theorem sqN_eq {α : Type} (n : Nat) (k : Nat → α) : sqN n k = k n := by cases n <;> rfl
def sqI {α : Type} (i : Int) (k : Int → α) : α := match i with
  | .ofNat n => sqN n fun m => k (.ofNat m)
  | .negSucc n => sqN n fun m => k (.negSucc m)
theorem sqI_eq {α : Type} (i : Int) (k : Int → α) : sqI i k = k i := by
  cases i with
  | ofNat n => exact sqN_eq n fun m => k (.ofNat m)
  | negSucc n => exact sqN_eq n fun m => k (.negSucc m)
def sqB {α : Type} (b : Bool) (k : Bool → α) : α := match b with
  | true => k true
  | false => k false
theorem sqB_eq {α : Type} (b : Bool) (k : Bool → α) : sqB b k = k b := by cases b <;> rfl
def ieq (a b : Int) : Bool := match a, b with
  | .ofNat x, .ofNat y => Nat.beq x y
  | .negSucc x, .negSucc y => Nat.beq x y
  | _, _ => false
theorem beq_dec (m n : Nat) : Nat.beq m n = decide (m = n) := by
  cases e : Nat.beq m n with
  | true => rw [Nat.eq_of_beq_eq_true e]; simp
  | false => have := Nat.ne_of_beq_eq_false e; simp [this]
theorem ble_dec (m n : Nat) : Nat.ble m n = decide (m ≤ n) := by
  cases e : Nat.ble m n with
  | true => exact (decide_eq_true (Nat.le_of_ble_eq_true e)).symm
  | false => exact (decide_eq_false fun h => by rw [Nat.ble_eq_true_of_le h] at e; cases e).symm
theorem ieq_eq (a b : Int) : ieq a b = decide (a = b) := by
  cases a with
  | ofNat m =>
    cases b with
    | ofNat n => show Nat.beq m n = _; rw [beq_dec]; exact decide_eq_decide.mpr ⟨fun h => by rw [h], fun h => by injection h⟩
    | negSucc n => exact (decide_eq_false (by intro h; cases h)).symm
  | negSucc m =>
    cases b with
    | ofNat n => exact (decide_eq_false (by intro h; cases h)).symm
    | negSucc n => show Nat.beq m n = _; rw [beq_dec]; exact decide_eq_decide.mpr ⟨fun h => by rw [h], fun h => by injection h⟩
def ile (a b : Int) : Bool := match a, b with
  | .ofNat x, .ofNat y => Nat.ble x y
  | .negSucc x, .negSucc y => Nat.ble y x
  | .negSucc _, .ofNat _y => true
  | .ofNat _, .negSucc _y => false
theorem ile_eq (a b : Int) : ile a b = decide (a ≤ b) := by
  cases a with
  | ofNat m =>
    cases b with
    | ofNat n => show Nat.ble m n = _; rw [ble_dec]; exact decide_eq_decide.mpr (by show m ≤ n ↔ (m : Int) ≤ (n : Int); omega)
    | negSucc n => exact (decide_eq_false (by rw [Int.negSucc_eq]; show ¬ (m : Int) ≤ _; omega)).symm
  | negSucc m =>
    cases b with
    | ofNat n => exact (decide_eq_true (by rw [Int.negSucc_eq]; show _ ≤ (n : Int); omega)).symm
    | negSucc n => show Nat.ble n m = _; rw [ble_dec]; exact decide_eq_decide.mpr (by rw [Int.negSucc_eq, Int.negSucc_eq]; omega)
/-! ### equality of data -/
def all2 {α β : Type} (f : α → β → Bool) : List α → List β → Bool
  | [], [] => true
  | x :: xs, y :: ys => match f x y with
    | true => all2 f xs ys
    | false => false
  | _, _ => false
def allW (f : W → Bool) : List W → Bool
  | [] => true
  | x :: xs => match f x with
    | true => allW f xs
    | false => false
def dep : Nat := 12
def anyW (f : W → Bool) : List W → Bool
  | [] => false
  | x :: xs => match f x with
    | true => true
    | false => anyW f xs
/-! ### lists -/
def lenG {α : Type} : List α → Nat → (Nat → R) → R
  | [], n, k => k n
  | _ :: r, n, k => sqN (n + 1) fun m => lenG r m k
def nthW : List W → Nat → Option W
  | [], _ => Option.none
  | x :: _, 0 => some x
  | _ :: r, n + 1 => nthW r n
theorem nthW_eq : ∀ (l : List W) (n : Nat), nthW l n = l[n]?
  | [], _ => rfl
  | _ :: _, 0 => rfl
  | _ :: r, n + 1 => by simp only [nthW, List.getElem?_cons_succ, nthW_eq r n]
def envW (e : List W) (i : Nat) : W := match nthW e i with
  | some w => w
  | Option.none => .nul
def setK {α : Type} : List W → Nat → W → (List W → α) → α
  | [], _, _, k => k []
  | _ :: r, 0, w, k => k (w :: r)
  | x :: r, n + 1, w, k => setK r n w fun r' => k (x :: r')
theorem setK_eq {α : Type} : ∀ (l : List W) (n : Nat) (w : W) (k : List W → α), setK l n w k = k (l.set n w)
  | [], _, _, _ => rfl
  | _ :: _, 0, _, _ => rfl
  | x :: r, n + 1, w, k => by simp only [setK, setK_eq r]; rfl
def appK {α : Type} : List W → List W → (List W → α) → α
  | [], ys, k => k ys
  | x :: xs, ys, k => appK xs ys fun r => k (x :: r)
theorem appK_eq {α : Type} : ∀ (xs ys : List W) (k : List W → α), appK xs ys k = k (xs ++ ys)
  | [], _, _ => rfl
  | x :: xs, ys, k => by simp only [appK, appK_eq xs]; rfl
def lenN {α : Type} : List α → Nat
  | [] => 0
  | _ :: r => lenN r + 1
theorem lenN_eq {α : Type} : ∀ l : List α, lenN l = l.length
  | [] => rfl
  | _ :: r => congrArg (· + 1) (lenN_eq r)
/-- the place of an index, from behind too -/
def ixW (n : Nat) (i : Int) : Option Nat := match i with
  | .ofNat m => match Nat.blt m n with
    | true => some m
    | false => Option.none
  | .negSucc m => match Nat.blt m n with
    | true => some (n - (m + 1))
    | false => Option.none
/-! ### results in a row -/
noncomputable def bnd (r : R) (k : W → Hpi → R) : R := R.rec (motive := fun _ => R) (fun w _ h => k w h) (fun _ _ => .bad) (fun _ _ => .bad) (fun _ _ => .bad) (fun c fs e h => .exc c fs e h) .bad (fun _ _ a b => .or a b) r
def opt (o : Option W) (e : List W) (h : Hpi) : R := match o with
  | some w => .ok w e h
  | Option.none => .bad
abbrev CallT := Nat → List W → Hpi → R
abbrev D := CallT → List W → Hpi → R
def isT (w : W) (k : Bool → R) : R := match w with
  | .bl b => sqB b k
  | _ => .bad
end VA
set_option Elab.async false
set_option linter.all false
set_option maxRecDepth 100000
set_option maxHeartbeats 8000000
/-! V4: readings; names, constants, operators. -/
namespace VA
noncomputable section
open L2 PySem PySem.Spec PyProof.Rows
variable (K : PySem.W.Frag) (T : Tab)
/-- an exception in the air: its class and what it keeps -/
def RX (ρ : Rho) (H : Hp) (c : Nat) (fs : List W) (cls : Value) (d : Option Addr) : Prop :=
  cls = .ref (T.ca c) ∧ match fs with
  | [] => True
  | w :: _ => ∃ a v, d = some a ∧ H a = some (.xd [(T.xf c, v)]) ∧ ¬ ρ.mu a ∧ RW K T ρ H w v
/-- what is wanted of what an expression gives -/
def FinE (W₀ : WX) (σ : L2.St) (ρ : Rho) (H : Hp) (r : R) (Q : VK) : Prop := R.rec (motive := fun _ => Prop) (fun w _ h => ∀ ρ' H' v, Stp ρ H ρ' H' → RelH K T ρ' H' h → RW K T ρ' H' w v → Q v H') (fun _ _ => False) (fun _ _ => False) (fun _ _ => False)
  (fun c fs _ h => ∀ ρ' H' cls d, Stp ρ H ρ' H' → RelH K T ρ' H' h → RX K T ρ' H' c fs cls d → W₀ cls d σ H') False (fun _ _ a b => a ∧ b) r
def FinA (W₀ : WX) (σ : L2.St) (ρ : Rho) (H : Hp) (r : R) (Q : List V → Hp → Prop) : Prop := R.rec (motive := fun _ => Prop) (fun w _ h => match w with
    | .tup ws => ∀ ρ' H' vs, Stp ρ H ρ' H' → RelH K T ρ' H' h → RWs K T ρ' H' ws vs → Q vs H'
    | _ => False) (fun _ _ => False) (fun _ _ => False) (fun _ _ => False)
  (fun c fs _ h => ∀ ρ' H' cls d, Stp ρ H ρ' H' → RelH K T ρ' H' h → RX K T ρ' H' c fs cls d → W₀ cls d σ H') False (fun _ _ a b => a ∧ b) r
def FinT (W₀ : WX) (σ : L2.St) (ρ : Rho) (H : Hp) (r : R) (Q : Bool → Hp → Prop) : Prop := R.rec (motive := fun _ => Prop) (fun w _ h => match w with
    | .bl b => ∀ ρ' H', Stp ρ H ρ' H' → RelH K T ρ' H' h → Q b H'
    | .anyb => ∀ b ρ' H', Stp ρ H ρ' H' → RelH K T ρ' H' h → Q b H'
    | _ => False) (fun _ _ => False) (fun _ _ => False) (fun _ _ => False)
  (fun c fs _ h => ∀ ρ' H' cls d, Stp ρ H ρ' H' → RelH K T ρ' H' h → RX K T ρ' H' c fs cls d → W₀ cls d σ H') False (fun _ _ a b => a ∧ b) r
variable (ca : CallT)
def tE (W₀ : WX) (d : D) : TE := fun σ H Q => ∃ ρ e h, REnv K T ρ H e σ ∧ RelH K T ρ H h ∧ FinE K T W₀ σ ρ H (d ca e h) Q
def tA (W₀ : WX) (d : D) : TA := fun σ H Q => ∃ ρ e h, REnv K T ρ H e σ ∧ RelH K T ρ H h ∧ FinA K T W₀ σ ρ H (d ca e h) Q
def tT (W₀ : WX) (d : D) : TT := fun σ H Q => ∃ ρ e h, REnv K T ρ H e σ ∧ RelH K T ρ H h ∧ FinT K T W₀ σ ρ H (d ca e h) Q
def SE (X : Cx) (e : Expr) (d : D) : Prop := ∀ W₀, Takes X W₀ → PE X e (tE X.K T ca W₀ d)
def SA (X : Cx) (es : List Expr) (d : D) : Prop := ∀ W₀, Takes X W₀ → PA X es (tA X.K T ca W₀ d)
def ST (X : Cx) (e : Expr) (d : D) : Prop := ∀ W₀, Takes X W₀ → PT X e (tT X.K T ca W₀ d)
section
variable {K : PySem.W.Frag} {T : Tab} {ca : CallT} {W₀ : WX} {σ : L2.St} {ρ ρ' : Rho} {H H' : Hp} {r : R} {Q Q' : VK}
theorem FinE.imp (h : FinE K T W₀ σ ρ H r Q) (q : ∀ v H', Q v H' → Q' v H') : FinE K T W₀ σ ρ H r Q' := by
  induction r with
  | ok w e hp => exact fun ρ' H' v a b c => q _ _ (h ρ' H' v a b c)
  | exc c fs e' hp => exact h
  | or x y ix iy => exact ⟨ix h.1, iy h.2⟩
  | _ => exact h.elim
theorem FinE.step (s : Stp ρ H ρ' H') (h : FinE K T W₀ σ ρ H r Q) : FinE K T W₀ σ ρ' H' r Q := by
  induction r with
  | ok w e hp => exact fun ρ2 H2 v a b c => h ρ2 H2 v (s.trans a) b c
  | exc c fs e' hp => exact fun ρ2 H2 cls d a b c => h ρ2 H2 cls d (s.trans a) b c
  | or x y ix iy => exact ⟨ix h.1, iy h.2⟩
  | _ => exact h.elim
theorem FinA.step {Q : List V → Hp → Prop} (s : Stp ρ H ρ' H') (h : FinA K T W₀ σ ρ H r Q) : FinA K T W₀ σ ρ' H' r Q := by
  induction r with
  | ok w e hp =>
    cases w with
    | tup ws => exact fun ρ2 H2 v a b c => h ρ2 H2 v (s.trans a) b c
    | _ => exact h.elim
  | exc c fs e' hp => exact fun ρ2 H2 cls d a b c => h ρ2 H2 cls d (s.trans a) b c
  | or x y ix iy => exact ⟨ix h.1, iy h.2⟩
  | _ => exact h.elim
theorem FinT.step {Q : Bool → Hp → Prop} (s : Stp ρ H ρ' H') (h : FinT K T W₀ σ ρ H r Q) : FinT K T W₀ σ ρ' H' r Q := by
  induction r with
  | ok w e hp =>
    cases w with
    | bl b => exact fun ρ2 H2 a b => h ρ2 H2 (s.trans a) b
    | anyb => exact fun k ρ2 H2 a b => h k ρ2 H2 (s.trans a) b
    | _ => exact h.elim
  | exc c fs e' hp => exact fun ρ2 H2 cls d a b c => h ρ2 H2 cls d (s.trans a) b c
  | or x y ix iy => exact ⟨ix h.1, iy h.2⟩
  | _ => exact h.elim
theorem fin_bnd {k : W → Hpi → R} (f : FinE K T W₀ σ ρ H (bnd r k) Q) : FinE K T W₀ σ ρ H r fun v H1 => ∃ ρ1 w h1, Stp ρ H ρ1 H1 ∧ RelH K T ρ1 H1 h1 ∧ RW K T ρ1 H1 w v ∧ FinE K T W₀ σ ρ1 H1 (k w h1) Q := by
  induction r with
  | ok w e hp => exact fun ρ' H' v a b c => ⟨ρ', w, hp, a, b, c, FinE.step a f⟩
  | exc c fs e' hp => exact f
  | or x y ix iy => exact ⟨ix f.1, iy f.2⟩
  | _ => exact f.elim
theorem finA_bnd {k : W → Hpi → R} {Q : List V → Hp → Prop} (f : FinA K T W₀ σ ρ H (bnd r k) Q) : FinE K T W₀ σ ρ H r fun v H1 => ∃ ρ1 w h1, Stp ρ H ρ1 H1 ∧ RelH K T ρ1 H1 h1 ∧ RW K T ρ1 H1 w v ∧ FinA K T W₀ σ ρ1 H1 (k w h1) Q := by
  induction r with
  | ok w e hp => exact fun ρ' H' v a b c => ⟨ρ', w, hp, a, b, c, FinA.step a f⟩
  | exc c fs e' hp => exact f
  | or x y ix iy => exact ⟨ix f.1, iy f.2⟩
  | _ => exact f.elim
theorem finT_bnd {k : W → Hpi → R} {Q : Bool → Hp → Prop} (f : FinT K T W₀ σ ρ H (bnd r k) Q) : FinE K T W₀ σ ρ H r fun v H1 => ∃ ρ1 w h1, Stp ρ H ρ1 H1 ∧ RelH K T ρ1 H1 h1 ∧ RW K T ρ1 H1 w v ∧ FinT K T W₀ σ ρ1 H1 (k w h1) Q := by
  induction r with
  | ok w e hp => exact fun ρ' H' v a b c => ⟨ρ', w, hp, a, b, c, FinT.step a f⟩
  | exc c fs e' hp => exact f
  | or x y ix iy => exact ⟨ix f.1, iy f.2⟩
  | _ => exact f.elim
/-- an argument list, then the rest -/
def bndA (r : R) (k : List W → Hpi → R) : R := R.rec (motive := fun _ => R) (fun w _ h => match w with
    | .tup ws => k ws h
    | _ => .bad) (fun _ _ => .bad) (fun _ _ => .bad) (fun _ _ => .bad) (fun c fs e h => .exc c fs e h) .bad (fun _ _ a b => .or a b) r
theorem fin_bndA {k : List W → Hpi → R} (f : FinE K T W₀ σ ρ H (bndA r k) Q) : FinA K T W₀ σ ρ H r fun vs H1 => ∃ ρ1 ws h1, Stp ρ H ρ1 H1 ∧ RelH K T ρ1 H1 h1 ∧ RWs K T ρ1 H1 ws vs ∧ FinE K T W₀ σ ρ1 H1 (k ws h1) Q := by
  induction r with
  | ok w e hp =>
    cases w with
    | tup ws => exact fun ρ' H' v a b c => ⟨ρ', ws, hp, a, b, c, FinE.step a f⟩
    | _ => exact f.elim
  | exc c fs e' hp => exact f
  | or x y ix iy => exact ⟨ix f.1, iy f.2⟩
  | _ => exact f.elim
theorem finA_bndA {k : List W → Hpi → R} {Q : List V → Hp → Prop} (f : FinA K T W₀ σ ρ H (bndA r k) Q) : FinA K T W₀ σ ρ H r fun vs H1 => ∃ ρ1 ws h1, Stp ρ H ρ1 H1 ∧ RelH K T ρ1 H1 h1 ∧ RWs K T ρ1 H1 ws vs ∧ FinA K T W₀ σ ρ1 H1 (k ws h1) Q := by
  induction r with
  | ok w e hp =>
    cases w with
    | tup ws => exact fun ρ' H' v a b c => ⟨ρ', ws, hp, a, b, c, FinA.step a f⟩
    | _ => exact f.elim
  | exc c fs e' hp => exact f
  | or x y ix iy => exact ⟨ix f.1, iy f.2⟩
  | _ => exact f.elim
/-- a test, then the rest -/
def bndT (r : R) (k : Bool → Hpi → R) : R := R.rec (motive := fun _ => R) (fun w _ h => match w with
    | .bl b => sqB b fun b => k b h
    | .anyb => .or (k true h) (k false h)
    | _ => .bad) (fun _ _ => .bad) (fun _ _ => .bad) (fun _ _ => .bad) (fun c fs e h => .exc c fs e h) .bad (fun _ _ a b => .or a b) r
theorem fin_bndT {k : Bool → Hpi → R} (f : FinE K T W₀ σ ρ H (bndT r k) Q) : FinT K T W₀ σ ρ H r fun b H1 => ∃ ρ1 h1, Stp ρ H ρ1 H1 ∧ RelH K T ρ1 H1 h1 ∧ FinE K T W₀ σ ρ1 H1 (k b h1) Q := by
  induction r with
  | ok w e hp =>
    cases w with
    | bl b =>
      have f' : FinE K T W₀ σ ρ H (sqB b fun b => k b hp) Q := f
      rw [sqB_eq] at f'
      exact fun ρ' H' a b => ⟨ρ', hp, a, b, FinE.step a f'⟩
    | anyb =>
      intro b ρ' H' a c
      cases b with
      | true => exact ⟨ρ', hp, a, c, FinE.step a f.1⟩
      | false => exact ⟨ρ', hp, a, c, FinE.step a f.2⟩
    | _ => exact f.elim
  | exc c fs e' hp => exact f
  | or x y ix iy => exact ⟨ix f.1, iy f.2⟩
  | _ => exact f.elim
theorem finT_bndT {k : Bool → Hpi → R} {Q : Bool → Hp → Prop} (f : FinT K T W₀ σ ρ H (bndT r k) Q) : FinT K T W₀ σ ρ H r fun b H1 => ∃ ρ1 h1, Stp ρ H ρ1 H1 ∧ RelH K T ρ1 H1 h1 ∧ FinT K T W₀ σ ρ1 H1 (k b h1) Q := by
  induction r with
  | ok w e hp =>
    cases w with
    | bl b =>
      have f' : FinT K T W₀ σ ρ H (sqB b fun b => k b hp) Q := f
      rw [sqB_eq] at f'
      exact fun ρ' H' a b => ⟨ρ', hp, a, b, FinT.step a f'⟩
    | anyb =>
      intro b ρ' H' a c
      cases b with
      | true => exact ⟨ρ', hp, a, c, FinT.step a f.1⟩
      | false => exact ⟨ρ', hp, a, c, FinT.step a f.2⟩
    | _ => exact f.elim
  | exc c fs e' hp => exact f
  | or x y ix iy => exact ⟨ix f.1, iy f.2⟩
  | _ => exact f.elim
/-- a value that is there -/
theorem fin_ok {w : W} {e : List W} {h : Hpi} (f : FinE K T W₀ σ ρ H (.ok w e h) Q) {ρ' : Rho} {H' : Hp} {v : V} (s : Stp ρ H ρ' H') (r : RelH K T ρ' H' h) (x : RW K T ρ' H' w v) : Q v H' := f ρ' H' v s r x
end
section
variable {X : Cx} {T : Tab} {ca : CallT} {W₀ : WX}
theorem _root_.L2.PE.weak {e : Expr} {t t' : TE} (h : PE X e t) (i : ∀ σ H Q, t' σ H Q → t σ H Q) : PE X e t' := ⟨fun pins s σ H Q I q => h.run pins s σ H Q I (i _ _ _ q)⟩
theorem _root_.L2.PT.weak {e : Expr} {t t' : TT} (h : PT X e t) (i : ∀ σ H Q, t' σ H Q → t σ H Q) : PT X e t' := ⟨fun pins s σ H Q I q => h.run pins s σ H Q I (i _ _ _ q)⟩
theorem _root_.L2.PA.weak {e : List Expr} {t t' : TA} (h : PA X e t) (i : ∀ σ H Q, t' σ H Q → t σ H Q) : PA X e t' := ⟨fun pos pins s σ H Q I q => h.run pos pins s σ H Q I (i _ _ _ q)⟩
/-! ### constants and names -/
def mC (w : W) : D := fun _ e h => .ok w e h
def mVar (i : Nat) : D := fun _ e h => match envW e i with
  | .nul => .bad
  | w => .ok w e h
theorem SE.const {e : Expr} {w : W} {v : V} (p : PE X e (tC v)) (r : ∀ ρ H, RW X.K T ρ H w v) : SE T ca X e (mC w) := fun W₀ _ => p.weak fun σ H Q ⟨ρ, e, h, re, rh, f⟩ => f ρ H v (Stp.refl ρ H) rh (r ρ H)
theorem SE.var {i : Nat} {x : Str} {pos : Pos} (hN : X.N[i]? = some x) (hv : Vis X.env.scope x) (hd : (x == ("__debug__" : Str)) = false) (hcd : (x == ("__classdict__" : Str)) = false) : SE T ca X (.Name x pos) (mVar i) := fun W₀ _ =>
  (pe_var hN hv hd hcd).weak fun σ H Q ⟨ρ, e, h, re, rh, f⟩ => by
    have key : ∀ w, envW e i = w → w ≠ .nul → ∃ v, σ[i]? = some (some v) ∧ RW X.K T ρ H w v := fun w hw hn => by
      unfold envW at hw
      rw [nthW_eq] at hw
      cases q : e[i]? with
      | none => rw [q] at hw; exact absurd hw.symm hn
      | some u => rw [q] at hw; exact re.at_ i w (by rw [q]; exact congrArg some hw) hn
    unfold mVar at f
    cases hw : envW e i with
    | nul => rw [hw] at f; exact f.elim
    | _ => rw [hw] at f; obtain ⟨v, e1, rv⟩ := key _ hw (by intro z; cases z); exact ⟨v, e1, f ρ H v (Stp.refl ρ H) rh rv⟩
/-! ### what a place reads as -/
def res (h : Hpi) (w : W) : W := match w with
  | .loc n => (match h.get n with
    | some (.lst xs) => .lst xs
    | some (.dct ks ws) => .dct ks ws
    | _ => w)
  | _ => w
/-- read: a list, a dict that may be changed later, too -/
def RR (K : PySem.W.Frag) (T : Tab) (ρ : Rho) (H : Hp) (w : W) (v : V) : Prop := match w with
  | .lst xs => ∃ a vs, v = .ref a ∧ H a = some (.lst vs) ∧ RWs K T ρ H xs vs
  | .dct ks ws => ∃ a o, v = .ref a ∧ Rd H a o ∧ DctO K T ρ H o ks ws
  | w => RW K T ρ H w v
theorem RW.rr {K : PySem.W.Frag} {ρ : Rho} {H : Hp} {w : W} {v : V} (h : RW K T ρ H w v) : RR K T ρ H w v := by
  cases h with
  | lst h r => exact ⟨_, _, rfl, h.1, r⟩
  | dctK h m hk hu r => exact ⟨_, _, rfl, h.rd, .inl ⟨_, _, rfl, hk, hu, r⟩⟩
  | dctT h m hk hu r => exact ⟨_, _, rfl, h.rd, .inr ⟨_, _, rfl, hk, hu, r⟩⟩
  | non => exact .non
  | bl b => exact .bl b
  | int i => exact .int i
  | str s => exact .str s
  | tup h r => exact .tup h r
  | loc n h => exact .loc n h
  | fn i => exact .fn i
  | cl i => exact .cl i
  | scr h r => exact .scr h r
  | anyi i => exact .anyi i
  | ktp h r => exact .ktp h r
  | ftp h r => exact .ftp h r
  | anyb b => exact .anyb b
  | rng n i h => exact .rng n i h
theorem RR.res {K : PySem.W.Frag} {ρ : Rho} {H : Hp} {hp : Hpi} {w : W} {v : V} (rh : RelH K T ρ H hp) (h : RW K T ρ H w v) : RR K T ρ H (res hp w) v := by
  cases h with
  | loc n hn =>
    have q : RW K T ρ H (.loc n) (.ref (ρ.pl n)) := .loc n hn
    show RR K T ρ H (match hp.get n with
      | some (.lst xs) => W.lst xs
      | some (.dct ks ws) => .dct ks ws
      | _ => .loc n) _
    cases e : hp.get n with
    | none => exact q
    | some o =>
      obtain ⟨_, x⟩ := rh.ob n o e
      cases o with
      | lst xs =>
        obtain ⟨vs, e1, r⟩ := x
        show RR K T ρ H (.lst xs) _
        exact ⟨_, _, rfl, e1, r⟩
      | dct ks ws =>
        obtain ⟨o', e1, d⟩ := x
        show RR K T ρ H (.dct ks ws) _
        exact ⟨_, _, rfl, .inl e1, d⟩
      | ins c fs => exact q
  | lst h r => exact RW.rr (.lst h r)
  | dctK h m hk hu r => exact RW.rr (.dctK h m hk hu r)
  | dctT h m hk hu r => exact RW.rr (.dctT h m hk hu r)
  | non => exact .non
  | bl b => exact .bl b
  | int i => exact .int i
  | str s => exact .str s
  | tup h r => exact .tup h r
  | fn i => exact .fn i
  | cl i => exact .cl i
  | scr h r => exact .scr h r
  | anyi i => exact .anyi i
  | ktp h r => exact .ktp h r
  | ftp h r => exact .ftp h r
  | anyb b => exact .anyb b
  | rng n i h => exact .rng n i h
/-! ### operators of two values that give a value at once -/
/-- r does what o says -/
def Op2 (K : PySem.W.Frag) (T : Tab) (r : R2) (o : W → W → Option W) : Prop := ∀ (ρ : Rho) (H : Hp) (h : Hpi) (w1 w2 w : W) (x y : V) (Q : VK), o w1 w2 = some w → RelH K T ρ H h → RR K T ρ H w1 x → RR K T ρ H w2 y →
  (∀ H' v, Stp ρ H ρ H' → RelH K T ρ H' h → RW K T ρ H' w v → Q v H') → r x y H Q
def mOp2 (o : W → W → Option W) (a b : D) : D := fun ca e h => bnd (a ca e h) fun w1 h1 => bnd (b ca e h1) fun w2 h2 => opt (o (res h2 w1) (res h2 w2)) e h2
theorem t_op2 {K : PySem.W.Frag} {r : R2} {o : W → W → Option W} (g : Op2 K T r o) {a b : D} {σ : L2.St} {H : Hp} {Q : VK} (h : tE K T ca W₀ (mOp2 o a b) σ H Q) : tOp r (tE K T ca W₀ a) (tE K T ca W₀ b) σ H Q := by
  obtain ⟨ρ, e, h, re, rh, f⟩ := h
  refine ⟨ρ, e, h, re, rh, (fin_bnd f).imp ?_⟩
  rintro x H1 ⟨ρ1, w1, h1, s1, rh1, r1, f1⟩
  refine ⟨ρ1, e, h1, re.step s1, rh1, (fin_bnd f1).imp ?_⟩
  rintro y H2 ⟨ρ2, w2, h2, s2, rh2, r2, f2⟩
  cases q : o (res h2 w1) (res h2 w2) with
  | none => rw [q] at f2; exact f2.elim
  | some w =>
    rw [q] at f2
    exact g ρ2 H2 h2 _ _ w x y Q q rh2 (RR.res rh2 (r1.step s2)) (RR.res rh2 r2) fun H' v s rh' rw' => f2 ρ2 H' v s rh' rw'
theorem SE.bin {op : Operator} {r : R2} {o : W → W → Option W} {a b : Expr} {da db : D} {pos : Pos} (ho : OpR X (binaryOp op) r) (g : Op2 X.K T r o) (ha : SE T ca X a da) (hb : SE T ca X b db) : SE T ca X (.BinOp a op b pos) (mOp2 o da db) := fun W₀ t =>
  (pe_op ho (ha W₀ t) (hb W₀ t)).weak fun _ _ _ h => t_op2 g h
theorem SE.cmp {op : CmpOp} {r : R2} {o : W → W → Option W} {a b : Expr} {da db : D} {pos : Pos} (ho : OpR X (compareOp op) r) (g : Op2 X.K T r o) (ha : SE T ca X a da) (hb : SE T ca X b db) (hm : behindInMarks op b = false) : SE T ca X (.Compare a [op] [b] pos) (mOp2 o da db) := fun W₀ t =>
  (pe_cmpR ho (ha W₀ t) (hb W₀ t) hm).weak fun _ _ _ h => t_op2 g h
/-- as a test -/
theorem tT_tE {K : PySem.W.Frag} {d : D} {σ : L2.St} {H : Hp} {Q : Bool → Hp → Prop} (h : tT K T ca W₀ d σ H Q) : tE K T ca W₀ d σ H fun x H' => ∃ k, x = .bl k ∧ Q k H' := by
  obtain ⟨ρ, e, h, re, rh, f⟩ := h
  refine ⟨ρ, e, h, re, rh, ?_⟩
  generalize d ca e h = r at f ⊢
  induction r with
  | ok w e' hp =>
    cases w with
    | bl b => intro ρ' H' v s r x; cases x; exact ⟨_, rfl, f ρ' H' s r⟩
    | anyb => intro ρ' H' v s r x; cases x; exact ⟨_, rfl, f _ ρ' H' s r⟩
    | _ => exact f.elim
  | exc c fs e' hp => exact f
  | or x y ix iy => exact ⟨ix f.1, iy f.2⟩
  | _ => exact f.elim
theorem ST.cmp {op : CmpOp} {r : R2} {o : W → W → Option W} {a b : Expr} {da db : D} {pos : Pos} (ho : OpR X (compareOp op) r) (g : Op2 X.K T r o) (ha : SE T ca X a da) (hb : SE T ca X b db) (hm : behindInMarks op b = false) : ST T ca X (.Compare a [op] [b] pos) (mOp2 o da db) := fun W₀ t =>
  (pt_cmpR ho (ha W₀ t) (hb W₀ t) hm).weak fun σ H Q h => t_op2 (Q := fun x H' => ∃ k, x = .bl k ∧ Q k H') g (tT_tE h)
/-- any expression whose value is a bool, as a test -/
theorem ST.val {e : Expr} {d : D} (he : SE T ca X e d) (hs : ∀ whole, isTrue e X.env whole = (do let v ← whole; standAt e.pos; holding [v] (truthy v))) : ST T ca X e d := fun W₀ t =>
  (pt_val (he W₀ t) hs).weak fun σ H Q h => tT_tE h
/-- one value -/
def Op1 (K : PySem.W.Frag) (T : Tab) (r : V → Hp → VK → Prop) (o : W → Option W) : Prop := ∀ (ρ : Rho) (H : Hp) (h : Hpi) (w1 w : W) (x : V) (Q : VK), o w1 = some w → RelH K T ρ H h → RR K T ρ H w1 x →
  (∀ H' v, Stp ρ H ρ H' → RelH K T ρ H' h → RW K T ρ H' w v → Q v H') → r x H Q
def mOp1 (o : W → Option W) (a : D) : D := fun ca e h => bnd (a ca e h) fun w1 h1 => opt (o (res h1 w1)) e h1
theorem t_op1 {K : PySem.W.Frag} {r : V → Hp → VK → Prop} {o : W → Option W} (g : Op1 K T r o) {a : D} {σ : L2.St} {H : Hp} {Q : VK} (h : tE K T ca W₀ (mOp1 o a) σ H Q) : tUn r (tE K T ca W₀ a) σ H Q := by
  obtain ⟨ρ, e, h, re, rh, f⟩ := h
  refine ⟨ρ, e, h, re, rh, (fin_bnd f).imp ?_⟩
  rintro x H1 ⟨ρ1, w1, h1, s1, rh1, r1, f1⟩
  cases q : o (res h1 w1) with
  | none => rw [q] at f1; exact f1.elim
  | some w =>
    rw [q] at f1
    exact g ρ1 H1 h1 _ w x Q q rh1 (RR.res rh1 r1) fun H' v s rh' rw' => f1 ρ1 H' v s rh' rw'
theorem SE.un {op : UnaryOp} {r : V → Hp → VK → Prop} {o : W → Option W} {a : Expr} {da : D} {pos : Pos} (ho : UnR X (unaryOp op) r) (g : Op1 X.K T r o) (ha : SE T ca X a da) : SE T ca X (.UnaryOp op a pos) (mOp1 o da) := fun W₀ t =>
  (pe_un ho (ha W₀ t)).weak fun _ _ _ h => t_op1 g h
/-! ### and, or, not, if-else -/
def mNot (a : D) : D := fun ca e h => bndT (a ca e h) fun b h1 => .ok (.bl (match b with | true => false | false => true)) e h1
def mAnd (a b : D) : D := fun ca e h => bndT (a ca e h) fun k h1 => match k with
  | true => b ca e h1
  | false => .ok (.bl false) e h1
def mOr (a b : D) : D := fun ca e h => bndT (a ca e h) fun k h1 => match k with
  | true => .ok (.bl true) e h1
  | false => b ca e h1
def mIf (t a b : D) : D := fun ca e h => bndT (t ca e h) fun k h1 => match k with
  | true => a ca e h1
  | false => b ca e h1
theorem FinT.imp {K : PySem.W.Frag} {σ : L2.St} {ρ : Rho} {H : Hp} {r : R} {Q Q' : Bool → Hp → Prop} (h : FinT K T W₀ σ ρ H r Q) (q : ∀ v H', Q v H' → Q' v H') : FinT K T W₀ σ ρ H r Q' := by
  induction r with
  | ok w e hp =>
    cases w with
    | bl b => exact fun ρ' H' a b => q _ _ (h ρ' H' a b)
    | anyb => exact fun k ρ' H' a b => q _ _ (h k ρ' H' a b)
    | _ => exact h.elim
  | exc c fs e' hp => exact h
  | or x y ix iy => exact ⟨ix h.1, iy h.2⟩
  | _ => exact h.elim
theorem FinA.imp {K : PySem.W.Frag} {σ : L2.St} {ρ : Rho} {H : Hp} {r : R} {Q Q' : List V → Hp → Prop} (h : FinA K T W₀ σ ρ H r Q) (q : ∀ v H', Q v H' → Q' v H') : FinA K T W₀ σ ρ H r Q' := by
  induction r with
  | ok w e hp =>
    cases w with
    | tup ws => exact fun ρ' H' v a b c => q _ _ (h ρ' H' v a b c)
    | _ => exact h.elim
  | exc c fs e' hp => exact h
  | or x y ix iy => exact ⟨ix h.1, iy h.2⟩
  | _ => exact h.elim
theorem ST.not {a : Expr} {da : D} {pos : Pos} (ha : ST T ca X a da) : ST T ca X (.UnaryOp .Not a pos) (mNot da) := fun W₀ t =>
  (pt_not (ha W₀ t)).weak fun σ H Q ⟨ρ, e, h, re, rh, f⟩ => ⟨ρ, e, h, re, rh, (finT_bndT f).imp fun b H1 ⟨ρ1, h1, s1, rh1, f1⟩ => by
    have q := f1 ρ1 H1 (Stp.refl _ _) rh1
    cases b <;> exact q⟩
theorem _root_.L2.PW.weak {e : Expr} {t t' : TT} (h : PW X e t) (i : ∀ σ H Q, t' σ H Q → t σ H Q) : PW X e t' := ⟨fun wh pins s σ H Q I q => h.run wh pins s σ H Q I (i _ _ _ q)⟩
def SW (T : Tab) (ca : CallT) (X : Cx) (e : Expr) (d : D) : Prop := ∀ W₀, Takes X W₀ → PW X e (tT X.K T ca W₀ d)
theorem SW.st {e : Expr} {d : D} (h : SW T ca X e d) : ST T ca X e d := fun W₀ t => (h W₀ t).pt
theorem SW.one {op : BoolOp} {a : Expr} {da : D} {pos : Pos} (ha : ST T ca X a da) : SW T ca X (.BoolOp op [a] pos) da := fun W₀ t => by
  cases op with
  | And => exact pw_and1 (ha W₀ t)
  | Or => exact pw_or1 (ha W₀ t)
theorem SW.and {a b : Expr} {rest : List Expr} {da db : D} {pos : Pos} (ha : ST T ca X a da) (hb : SW T ca X (.BoolOp .And (b :: rest) pos) db) : SW T ca X (.BoolOp .And (a :: b :: rest) pos) (mAnd da db) := fun W₀ t =>
  (pw_and (ha W₀ t) (hb W₀ t)).weak fun σ H Q ⟨ρ, e, h, re, rh, f⟩ => ⟨ρ, e, h, re, rh, (finT_bndT f).imp fun b H1 ⟨ρ1, h1, s1, rh1, f1⟩ => by
    cases b with
    | true => exact ⟨ρ1, e, h1, re.step s1, rh1, f1⟩
    | false => exact f1 ρ1 H1 (Stp.refl _ _) rh1⟩
theorem SW.or {a b : Expr} {rest : List Expr} {da db : D} {pos : Pos} (ha : ST T ca X a da) (hb : SW T ca X (.BoolOp .Or (b :: rest) pos) db) : SW T ca X (.BoolOp .Or (a :: b :: rest) pos) (mOr da db) := fun W₀ t =>
  (pw_or (ha W₀ t) (hb W₀ t)).weak fun σ H Q ⟨ρ, e, h, re, rh, f⟩ => ⟨ρ, e, h, re, rh, (finT_bndT f).imp fun b H1 ⟨ρ1, h1, s1, rh1, f1⟩ => by
    cases b with
    | true => exact f1 ρ1 H1 (Stp.refl _ _) rh1
    | false => exact ⟨ρ1, e, h1, re.step s1, rh1, f1⟩⟩
/-- as values: bools -/
theorem bool_of {K : PySem.W.Frag} {σ : L2.St} {ρ : Rho} {H : Hp} {r : R} {k : Bool → Hpi → R} {Q : VK} (f : FinE K T W₀ σ ρ H (bndT r k) Q) : FinE K T W₀ σ ρ H r fun v H1 => ∃ ρ1 b h1, v = .bl b ∧ Stp ρ H ρ1 H1 ∧ RelH K T ρ1 H1 h1 ∧ FinE K T W₀ σ ρ1 H1 (k b h1) Q := by
  induction r with
  | ok w e hp =>
    cases w with
    | bl b => exact fun ρ' H' v s a x => by cases x; obtain ⟨ρ1, h1, q⟩ := fin_bndT f ρ' H' s a; exact ⟨ρ1, b, h1, rfl, q⟩
    | anyb => exact fun ρ' H' v s a x => by cases x; obtain ⟨ρ1, h1, q⟩ := fin_bndT (r := .ok .anyb e hp) f _ ρ' H' s a; exact ⟨ρ1, _, h1, rfl, q⟩
    | _ => exact f.elim
  | exc c fs e' hp => exact f
  | or x y ix iy => exact ⟨ix f.1, iy f.2⟩
  | _ => exact f.elim
theorem SE.not {a : Expr} {da : D} {pos : Pos} (ha : SE T ca X a da) : SE T ca X (.UnaryOp .Not a pos) (mNot da) := fun W₀ t =>
  (pe_not (ha W₀ t)).weak fun σ H Q ⟨ρ, e, h, re, rh, f⟩ => ⟨ρ, e, h, re, rh, (bool_of f).imp fun v H1 ⟨ρ1, b, h1, ev, s1, rh1, f1⟩ => ⟨b, ev, by
    cases b <;> exact f1 ρ1 H1 _ (Stp.refl _ _) rh1 (.bl _)⟩⟩
theorem SE.one {op : BoolOp} {a : Expr} {da : D} {pos : Pos} (ha : SE T ca X a da) : SE T ca X (.BoolOp op [a] pos) da := fun W₀ t => pe_one (ha W₀ t)
theorem SE.and {a b : Expr} {rest : List Expr} {da db : D} {pos : Pos} (ha : SE T ca X a da) (hb : SE T ca X (.BoolOp .And (b :: rest) pos) db) : SE T ca X (.BoolOp .And (a :: b :: rest) pos) (mAnd da db) := fun W₀ t =>
  (pe_and (ha W₀ t) (hb W₀ t)).weak fun σ H Q ⟨ρ, e, h, re, rh, f⟩ => ⟨ρ, e, h, re, rh, (bool_of f).imp fun v H1 ⟨ρ1, b, h1, ev, s1, rh1, f1⟩ => ⟨b, ev, by
    cases b with
    | true => exact ⟨ρ1, e, h1, re.step s1, rh1, f1⟩
    | false => exact f1 ρ1 H1 _ (Stp.refl _ _) rh1 (.bl _)⟩⟩
theorem SE.or {a b : Expr} {rest : List Expr} {da db : D} {pos : Pos} (ha : SE T ca X a da) (hb : SE T ca X (.BoolOp .Or (b :: rest) pos) db) : SE T ca X (.BoolOp .Or (a :: b :: rest) pos) (mOr da db) := fun W₀ t =>
  (pe_or (ha W₀ t) (hb W₀ t)).weak fun σ H Q ⟨ρ, e, h, re, rh, f⟩ => ⟨ρ, e, h, re, rh, (bool_of f).imp fun v H1 ⟨ρ1, b, h1, ev, s1, rh1, f1⟩ => ⟨b, ev, by
    cases b with
    | true => exact f1 ρ1 H1 _ (Stp.refl _ _) rh1 (.bl _)
    | false => exact ⟨ρ1, e, h1, re.step s1, rh1, f1⟩⟩⟩
theorem SE.ife {t a b : Expr} {dt da db : D} {pos : Pos} (ht : ST T ca X t dt) (ha : SE T ca X a da) (hb : SE T ca X b db) : SE T ca X (.IfExp t a b pos) (mIf dt da db) := fun W₀ tk =>
  (pe_ifExp (ht W₀ tk) (ha W₀ tk) (hb W₀ tk)).weak fun σ H Q ⟨ρ, e, h, re, rh, f⟩ => ⟨ρ, e, h, re, rh, (fin_bndT f).imp fun b H1 ⟨ρ1, h1, s1, rh1, f1⟩ => by
    cases b <;> exact ⟨ρ1, e, h1, re.step s1, rh1, f1⟩⟩
/-! ### argument lists, tuples -/
def mNil : D := fun _ e h => .ok (.tup []) e h
def mCons (a r : D) : D := fun ca e h => bnd (a ca e h) fun w h1 => bndA (r ca e h1) fun ws h2 => .ok (.tup (w :: ws)) e h2
theorem SA.nil : SA T ca X [] mNil := fun W₀ _ => pa_nil.weak fun σ H Q ⟨ρ, e, h, re, rh, f⟩ => f ρ H [] (Stp.refl _ _) rh .nil
theorem SA.cons {e : Expr} {es : List Expr} {da dr : D} (ha : SE T ca X e da) (hr : SA T ca X es dr) (hs : starEach (e :: es) X.env = (false, eval e X.env) :: starEach es X.env) : SA T ca X (e :: es) (mCons da dr) := fun W₀ t =>
  (pa_cons (ha W₀ t) (hr W₀ t) hs).weak fun σ H Q ⟨ρ, e, h, re, rh, f⟩ => ⟨ρ, e, h, re, rh, (finA_bnd f).imp fun v H1 ⟨ρ1, w, h1, s1, rh1, r1, f1⟩ => ⟨ρ1, e, h1, re.step s1, rh1, (finA_bndA f1).imp fun vs H2 ⟨ρ2, ws, h2, s2, rh2, r2, f2⟩ =>
    f2 ρ2 H2 (v :: vs) (Stp.refl _ _) rh2 (.cons (r1.step s2) r2)⟩⟩
end
end
end VA
set_option Elab.async false
set_option linter.all false
set_option maxRecDepth 100000
set_option maxHeartbeats 8000000
/-! V5: what operators do. -/
namespace VA
open L2 PySem PySem.Spec PyProof.Rows
/-! ### data -/
def okS : List Nat → Bool
  | [] => true
  | c :: r => match Nat.blt c 1114112 with
    | true => okS r
    | false => false
def isData : Nat → W → Bool
  | 0, _ => false
  | n + 1, w => match w with
    | .non => true
    | .bl _ => true
    | .int _ => true
    | .str s => okS s
    | .tup xs => allW (isData n) xs
    | .lst xs => allW (isData n) xs
    | .ktp xs => allW (isData n) xs
    | _ => false
def b2w (b : Bool) : Int := match b with
  | true => 1
  | false => 0
/-- == of data -/
def weq : Nat → W → W → Bool
  | 0, _, _ => false
  | n + 1, a, b => match a with
    | .non => (match b with | .non => true | _ => false)
    | .bl x => (match b with
      | .bl y => (match x with | true => y | false => (match y with | true => false | false => true))
      | .int j => ieq (b2w x) j
      | _ => false)
    | .int i => (match b with | .int j => ieq i j | .bl y => ieq i (b2w y) | _ => false)
    | .str s => (match b with | .str t => all2 Nat.beq s t | _ => false)
    | .tup xs => (match b with | .tup ys => all2 (weq n) xs ys | .ktp ys => all2 (weq n) xs ys | _ => false)
    | .ktp xs => (match b with | .tup ys => all2 (weq n) xs ys | .ktp ys => all2 (weq n) xs ys | _ => false)
    | .lst xs => (match b with | .lst ys => all2 (weq n) xs ys | _ => false)
    | _ => false
def mapO {α β : Type} (f : α → Option β) : List α → Option (List β)
  | [] => some []
  | x :: xs => match f x, mapO f xs with
    | some y, some ys => some (y :: ys)
    | _, _ => Option.none
def toD : Nat → W → Option PyData
  | 0, _ => Option.none
  | n + 1, w => match w with
    | .non => some .none
    | .bl b => some (.bool b)
    | .int i => some (.int i)
    | .str s => (match okS s with | true => some (.str ⟨s.toArray⟩) | false => Option.none)
    | .tup xs => (mapO (toD n) xs).map .tuple
    | .lst xs => (mapO (toD n) xs).map .list
    | .ktp xs => (mapO (toD n) xs).map .tuple
    | _ => Option.none
theorem mapO_some {α β : Type} {f : α → Option β} {g : α → Bool} (hg : ∀ x, g x = true → ∃ y, f x = some y) : ∀ {xs : List α}, (∀ x ∈ xs, g x = true) → ∃ ys, mapO f xs = some ys
  | [], _ => ⟨[], rfl⟩
  | x :: xs, h => by
    obtain ⟨y, hy⟩ := hg x (h x List.mem_cons_self)
    obtain ⟨ys, hys⟩ := mapO_some hg (xs := xs) fun z hz => h z (List.mem_cons_of_mem _ hz)
    exact ⟨y :: ys, by simp only [mapO, hy, hys]⟩
theorem allW_eq {f : W → Bool} : ∀ {xs : List W}, allW f xs = true → ∀ x ∈ xs, f x = true
  | [], _, x, hx => by cases hx
  | y :: ys, h, x, hx => by
    simp only [allW] at h
    cases e : f y with
    | false => rw [e] at h; cases h
    | true =>
      rw [e] at h
      rcases List.mem_cons.mp hx with q | q
      · rw [q]; exact e
      · exact allW_eq h x q
theorem isData_toD : ∀ {n : Nat} {w : W}, isData n w = true → ∃ d, toD n w = some d
  | 0, _, h => by cases h
  | n + 1, w, h => by
    cases w with
    | non => exact ⟨_, rfl⟩
    | bl b => exact ⟨_, rfl⟩
    | int i => exact ⟨_, rfl⟩
    | str s => exact ⟨.str ⟨s.toArray⟩, by show (match okS s with | true => _ | false => _) = _; rw [show okS s = true from h]⟩
    | tup xs =>
      obtain ⟨ys, e⟩ := mapO_some (fun x hx => isData_toD hx) (allW_eq (show allW (isData n) xs = true from h))
      exact ⟨.tuple ys, by show (mapO (toD n) xs).map _ = _; rw [e]; rfl⟩
    | lst xs =>
      obtain ⟨ys, e⟩ := mapO_some (fun x hx => isData_toD hx) (allW_eq (show allW (isData n) xs = true from h))
      exact ⟨.list ys, by show (mapO (toD n) xs).map _ = _; rw [e]; rfl⟩
    | ktp xs =>
      obtain ⟨ys, e⟩ := mapO_some (fun x hx => isData_toD hx) (allW_eq (show allW (isData n) xs = true from h))
      exact ⟨.tuple ys, by show (mapO (toD n) xs).map _ = _; rw [e]; rfl⟩
    | _ => cases h
theorem okS_all : ∀ {s : List Nat}, okS s = true → ∀ c ∈ s, c < 1114112
  | [], _, _, h => by cases h
  | d :: r, h, c, hc => by
    simp only [okS] at h
    cases e : Nat.blt d 1114112 with
    | false => rw [e] at h; cases h
    | true =>
      rw [e] at h
      rcases List.mem_cons.mp hc with q | q
      · rw [q]; exact Nat.le_of_ble_eq_true e
      · exact okS_all h c q
/-- what the description says of depth and signs -/
theorem toD_ok : ∀ {n : Nat} {w : W} {d : PyData}, toD n w = some d → d.canLay0 = true ∧ d.depth ≤ n
  | 0, _, _, h => by cases h
  | n + 1, w, d, h => by
    have lists : ∀ {xs : List W} {ds : List PyData}, mapO (toD n) xs = some ds → PyData.canLayAll0 ds = true ∧ PyData.depthAll ds ≤ n := by
      intro xs
      induction xs with
      | nil => intro ds h; cases h; exact ⟨rfl, Nat.zero_le _⟩
      | cons x xs ih =>
        intro ds h
        simp only [mapO] at h
        cases e1 : toD n x with
        | none => rw [e1] at h; cases h
        | some y =>
          cases e2 : mapO (toD n) xs with
          | none => rw [e1, e2] at h; cases h
          | some ys =>
            rw [e1, e2] at h; cases h
            obtain ⟨a1, a2⟩ := toD_ok e1
            obtain ⟨b1, b2⟩ := ih e2
            refine ⟨?_, ?_⟩
            · simp only [PyData.canLayAll0, a1, b1, Bool.and_self]
            · simp only [PyData.depthAll]; omega
    cases w with
    | non => cases h; exact ⟨rfl, Nat.zero_le _⟩
    | bl b => cases h; exact ⟨rfl, Nat.zero_le _⟩
    | int i => cases h; exact ⟨rfl, Nat.zero_le _⟩
    | str s =>
      have h' : (match okS s with | true => some (PyData.str ⟨s.toArray⟩) | false => Option.none) = some d := h
      cases e : okS s with
      | false => rw [e] at h'; cases h'
      | true =>
        rw [e] at h'; cases h'
        refine ⟨?_, Nat.zero_le _⟩
        show (Array.all s.toArray _) = true
        rw [List.all_toArray, List.all_eq_true]
        intro c hc
        exact decide_eq_true (okS_all e c hc)
    | tup xs =>
      have h' : (mapO (toD n) xs).map PyData.tuple = some d := h
      cases e : mapO (toD n) xs with
      | none => rw [e] at h'; exact nomatch h'
      | some ds =>
        rw [e] at h'; cases h'
        obtain ⟨a, b⟩ := lists e
        exact ⟨a, by simp only [PyData.depth]; omega⟩
    | lst xs =>
      have h' : (mapO (toD n) xs).map PyData.list = some d := h
      cases e : mapO (toD n) xs with
      | none => rw [e] at h'; exact nomatch h'
      | some ds =>
        rw [e] at h'; cases h'
        obtain ⟨a, b⟩ := lists e
        exact ⟨a, by simp only [PyData.depth]; omega⟩
    | ktp xs =>
      have h' : (mapO (toD n) xs).map PyData.tuple = some d := h
      cases e : mapO (toD n) xs with
      | none => rw [e] at h'; exact nomatch h'
      | some ds =>
        rw [e] at h'; cases h'
        obtain ⟨a, b⟩ := lists e
        exact ⟨a, by simp only [PyData.depth]; omega⟩
    | _ => cases h
theorem all2_beq : ∀ {s t : List Nat}, all2 Nat.beq s t = decide (s = t)
  | [], [] => rfl
  | [], _ :: _ => rfl
  | _ :: _, [] => rfl
  | a :: s, b :: t => by
    simp only [all2]
    rw [beq_dec]
    by_cases e : a = b
    · subst e
      simp only [decide_true]
      rw [all2_beq]
      by_cases q : s = t
      · subst q; simp
      · simp [q]
    · simp [e]
theorem weq_eqv : ∀ {n : Nat} {a b : W} {d e : PyData}, toD n a = some d → toD n b = some e → weq n a b = PyData.eqv d e
  | 0, _, _, _, _, h, _ => by cases h
  | n + 1, a, b, d, e, h1, h2 => by
    have lists : ∀ {xs ys : List W} {ds es : List PyData}, mapO (toD n) xs = some ds → mapO (toD n) ys = some es → all2 (weq n) xs ys = PyData.eqvAll ds es := by
      intro xs
      induction xs with
      | nil =>
        intro ys ds es h1 h2
        cases h1
        cases ys with
        | nil => cases h2; rfl
        | cons y ys =>
          simp only [mapO] at h2
          split at h2
          · cases h2; rfl
          · cases h2
      | cons x xs ih =>
        intro ys ds es h1 h2
        simp only [mapO] at h1
        split at h1
        · rename_i d' ds' e1 e2
          cases h1
          cases ys with
          | nil => cases h2; rfl
          | cons y ys =>
            simp only [mapO] at h2
            split at h2
            · rename_i e' es' e3 e4
              cases h2
              simp only [all2, PyData.eqvAll]
              rw [weq_eqv e1 e3, ih e2 e4]
              cases PyData.eqv d' e' <;> rfl
            · cases h2
        · cases h1
    have tupD : ∀ {xs : List W} {d : PyData}, toD (n + 1) (.tup xs) = some d → ∃ ds, d = .tuple ds ∧ mapO (toD n) xs = some ds := by
      intro xs d h
      have h' : (mapO (toD n) xs).map PyData.tuple = some d := h
      cases e : mapO (toD n) xs with
      | none => rw [e] at h'; exact nomatch h'
      | some ds => rw [e] at h'; cases h'; exact ⟨ds, rfl, rfl⟩
    have ktpD : ∀ {xs : List W} {d : PyData}, toD (n + 1) (.ktp xs) = some d → ∃ ds, d = .tuple ds ∧ mapO (toD n) xs = some ds := fun h => tupD h
    have lstD : ∀ {xs : List W} {d : PyData}, toD (n + 1) (.lst xs) = some d → ∃ ds, d = .list ds ∧ mapO (toD n) xs = some ds := by
      intro xs d h
      have h' : (mapO (toD n) xs).map PyData.list = some d := h
      cases e : mapO (toD n) xs with
      | none => rw [e] at h'; exact nomatch h'
      | some ds => rw [e] at h'; cases h'; exact ⟨ds, rfl, rfl⟩
    have strD : ∀ {s : List Nat} {d : PyData}, toD (n + 1) (.str s) = some d → d = .str ⟨s.toArray⟩ := by
      intro s d h
      have h' : (match okS s with | true => some (PyData.str ⟨s.toArray⟩) | false => Option.none) = some d := h
      cases e : okS s with
      | false => rw [e] at h'; cases h'
      | true => rw [e] at h'; cases h'; rfl
    have b2 : ∀ x : Bool, b2w x = if x = true then 1 else 0 := fun x => by cases x <;> rfl
    cases a with
    | non =>
      cases h1
      cases b with
      | non => cases h2; rfl
      | bl y => cases h2; rfl
      | int j => cases h2; rfl
      | str t => rw [strD h2]; rfl
      | tup ys => obtain ⟨es, q, _⟩ := tupD h2; rw [q]; rfl
      | lst ys => obtain ⟨es, q, _⟩ := lstD h2; rw [q]; rfl
      | ktp ys => obtain ⟨es, q, _⟩ := ktpD h2; rw [q]; rfl
      | _ => cases h2
    | bl x =>
      cases h1
      cases b with
      | non => cases h2; rfl
      | bl y => cases h2; cases x <;> cases y <;> rfl
      | int j => cases h2; rw [PyData.eqv]; show ieq (b2w x) j = _; rw [ieq_eq, b2, Bool.beq_eq_decide_eq]
      | str t => rw [strD h2]; rfl
      | tup ys => obtain ⟨es, q, _⟩ := tupD h2; rw [q]; rfl
      | lst ys => obtain ⟨es, q, _⟩ := lstD h2; rw [q]; rfl
      | ktp ys => obtain ⟨es, q, _⟩ := ktpD h2; rw [q]; rfl
      | _ => cases h2
    | int i =>
      cases h1
      cases b with
      | non => cases h2; rfl
      | bl y => cases h2; rw [PyData.eqv]; show ieq i (b2w y) = _; rw [ieq_eq, b2, Bool.beq_eq_decide_eq]
      | int j => cases h2; show ieq i j = (i == j); rw [ieq_eq, Bool.beq_eq_decide_eq]
      | str t => rw [strD h2]; rfl
      | tup ys => obtain ⟨es, q, _⟩ := tupD h2; rw [q]; rfl
      | lst ys => obtain ⟨es, q, _⟩ := lstD h2; rw [q]; rfl
      | ktp ys => obtain ⟨es, q, _⟩ := ktpD h2; rw [q]; rfl
      | _ => cases h2
    | str s =>
      rw [strD h1]
      cases b with
      | non => cases h2; rfl
      | bl y => cases h2; rfl
      | int j => cases h2; rfl
      | str t =>
        rw [strD h2]
        show all2 Nat.beq s t = ((⟨s.toArray⟩ : Str) == ⟨t.toArray⟩)
        rw [all2_beq, Bool.beq_eq_decide_eq]
        exact decide_eq_decide.mpr ⟨fun h => by rw [h], fun h => by injection h with h; simpa using congrArg Array.toList h⟩
      | tup ys => obtain ⟨es, q, _⟩ := tupD h2; rw [q]; rfl
      | lst ys => obtain ⟨es, q, _⟩ := lstD h2; rw [q]; rfl
      | ktp ys => obtain ⟨es, q, _⟩ := ktpD h2; rw [q]; rfl
      | _ => cases h2
    | tup xs =>
      obtain ⟨ds, q1, m1⟩ := tupD h1
      rw [q1]
      cases b with
      | non => cases h2; rfl
      | bl y => cases h2; rfl
      | int j => cases h2; rfl
      | str t => rw [strD h2]; rfl
      | tup ys => obtain ⟨es, q, m2⟩ := tupD h2; rw [q]; exact lists m1 m2
      | lst ys => obtain ⟨es, q, _⟩ := lstD h2; rw [q]; rfl
      | ktp ys => obtain ⟨es, q, m2⟩ := ktpD h2; rw [q]; exact lists m1 m2
      | _ => cases h2
    | lst xs =>
      obtain ⟨ds, q1, m1⟩ := lstD h1
      rw [q1]
      cases b with
      | non => cases h2; rfl
      | bl y => cases h2; rfl
      | int j => cases h2; rfl
      | str t => rw [strD h2]; rfl
      | tup ys => obtain ⟨es, q, _⟩ := tupD h2; rw [q]; rfl
      | lst ys => obtain ⟨es, q, m2⟩ := lstD h2; rw [q]; exact lists m1 m2
      | ktp ys => obtain ⟨es, q, _⟩ := ktpD h2; rw [q]; rfl
      | _ => cases h2
    | ktp xs =>
      obtain ⟨ds, q1, m1⟩ := ktpD h1
      rw [q1]
      cases b with
      | non => cases h2; rfl
      | bl y => cases h2; rfl
      | int j => cases h2; rfl
      | str t => rw [strD h2]; rfl
      | tup ys => obtain ⟨es, q, m2⟩ := tupD h2; rw [q]; exact lists m1 m2
      | lst ys => obtain ⟨es, q, _⟩ := lstD h2; rw [q]; rfl
      | ktp ys => obtain ⟨es, q, m2⟩ := ktpD h2; rw [q]; exact lists m1 m2
      | _ => cases h2
    | _ => cases h1
end VA
set_option Elab.async false
set_option linter.all false
set_option maxRecDepth 100000
set_option maxHeartbeats 8000000
/-! V6: operators of two values. -/
namespace VA
open L2 PySem PySem.Spec PyProof.Rows
def lim : Nat := 100000
theorem lim_line : lim ≤ sizeLine := by rw [sizeLine_eq]; decide
def appS : List Nat → List Nat → (List Nat → Option W) → Option W
  | [], ys, k => k ys
  | x :: xs, ys, k => appS xs ys fun r => k (x :: r)
theorem appS_eq : ∀ (xs ys : List Nat) (k : List Nat → Option W), appS xs ys k = k (xs ++ ys)
  | [], _, _ => rfl
  | x :: xs, ys, k => by simp only [appS, appS_eq xs]; rfl
/-- ints of which only a bound is known -/
def upN (w : W) : Option Nat := match w with
  | .int i => (match i with
    | .ofNat n => some (n + 1)
    | .negSucc _ => Option.none)
  | .rng n => some n
  | _ => Option.none
def isI (w : W) : Bool := match w with
  | .int _ => true
  | .rng _ => true
  | .anyi => true
  | _ => false
def addR (a b : W) : Option W := match upN a with
  | some n => (match upN b with
    | some m => sqN (n + m) fun k => some (.rng k)
    | Option.none => Option.none)
  | Option.none => Option.none
def mulR (a b : W) : Option W := match upN a with
  | some n => (match upN b with
    | some m => (match Nat.blt (Nat.log2 n + Nat.log2 m) 1000000 with
      | true => sqN (n * m + 1) fun k => some (.rng k)
      | false => Option.none)
    | Option.none => Option.none)
  | Option.none => Option.none
def anyB (a b : W) : Option W := match isI a with
  | true => (match isI b with
    | true => some .anyb
    | false => Option.none)
  | false => Option.none
def oAdd (a b : W) : Option W := match a with
  | .int i => (match b with
    | .int j => sqI (i + j) fun k => some (.int k)
    | .rng m => addR (.int i) (.rng m)
    | _ => Option.none)
  | .rng n => addR (.rng n) b
  | .str s => (match b with
    | .str t => (match Nat.ble (lenN s + lenN t) lim with
      | true => appS s t fun r => some (.str r)
      | false => Option.none)
    | _ => Option.none)
  | .tup xs => (match b with
    | .tup ys => (match Nat.ble (lenN xs + lenN ys) lim with
      | true => appK xs ys fun r => some (.tup r)
      | false => Option.none)
    | _ => Option.none)
  | .lst xs => (match b with
    | .lst ys => (match Nat.ble (lenN xs + lenN ys) lim with
      | true => appK xs ys fun r => some (.lst r)
      | false => Option.none)
    | _ => Option.none)
  | _ => Option.none
def oSub (a b : W) : Option W := match a with
  | .int i => (match b with
    | .int j => sqI (i - j) fun k => some (.int k)
    | _ => Option.none)
  | _ => Option.none
def repK : Nat → List W → (List W → Option W) → Option W
  | 0, _, k => k []
  | n + 1, xs, k => repK n xs fun r => appK xs r k
theorem repK_eq : ∀ (n : Nat) (xs : List W) (k : List W → Option W), repK n xs k = k (List.replicate n xs).flatten
  | 0, _, _ => rfl
  | n + 1, xs, k => by simp only [repK, repK_eq n, appK_eq, List.replicate_succ, List.flatten_cons]
def oMul (a b : W) : Option W := match a with
  | .rng n => mulR (.rng n) b
  | .int i => (match b with
    | .rng m => mulR (.int i) (.rng m)
    | .int j => (match Nat.blt (Nat.log2 i.natAbs + Nat.log2 j.natAbs) 1000000 with
      | true => sqI (i * j) fun k => some (.int k)
      | false => Option.none)
    | _ => Option.none)
  | .lst xs => (match b with
    | .int j => (match j with
      | .ofNat n => (match Nat.ble (lenN xs * n) lim, Nat.ble n lim with
        | true, true => repK n xs fun r => some (.lst r)
        | _, _ => Option.none)
      | .negSucc _ => Option.none)
    | _ => Option.none)
  | _ => Option.none
def oDiv (a b : W) : Option W := match a with
  | .rng n => (match b with
    | .int j => (match ile 1 j with
      | true => (match Nat.blt (Nat.log2 j.natAbs) 9000 with
        | true => some (.rng n)
        | false => Option.none)
      | false => Option.none)
    | _ => Option.none)
  | .int i => (match b with
    | .int j => (match ile 1 j with
      | true => (match Nat.blt (Nat.log2 j.natAbs) 9000 with
        | true => sqI (i / j) fun k => some (.int k)
        | false => Option.none)
      | false => Option.none)
    | _ => Option.none)
  | _ => Option.none
def modR (b : W) : Option W := match b with
  | .int j => (match ile 1 j with
    | true => sqN j.toNat fun k => some (.rng k)
    | false => Option.none)
  | _ => Option.none
def oMod (a b : W) : Option W := match a with
  | .int i => (match b with
    | .int j => (match ile 1 j with
      | true => sqI (i % j) fun k => some (.int k)
      | false => Option.none)
    | _ => Option.none)
  | _ => (match isI a with
    | true => modR b
    | false => Option.none)
def bitsN (n : Nat) : Nat := match n with
  | 0 => 0
  | m + 1 => Nat.log2 (m + 1) + 1
def oPow (a b : W) : Option W := match a with
  | .int i => (match i with
    | .ofNat m => (match b with
      | .int j => (match j with
        | .ofNat n => (match Nat.ble (bitsN m * n) 134217728 with
          | true => sqI (.ofNat (Nat.pow m n)) fun k => some (.int k)
          | false => Option.none)
        | .negSucc _ => Option.none)
      | _ => Option.none)
    | .negSucc _ => Option.none)
  | _ => Option.none
def oLt (a b : W) : Option W := match a with
  | .int i => (match b with
    | .int j => sqB (ile (i + 1) j) fun k => some (.bl k)
    | _ => anyB (.int i) b)
  | _ => anyB a b
def oLe (a b : W) : Option W := match a with
  | .int i => (match b with
    | .int j => sqB (ile i j) fun k => some (.bl k)
    | _ => anyB (.int i) b)
  | _ => anyB a b
def oGt (a b : W) : Option W := oLt b a
def oGe (a b : W) : Option W := oLe b a
def nB (b : Bool) : Bool := match b with
  | true => false
  | false => true
theorem nB_eq (b : Bool) : nB b = !b := by cases b <;> rfl
def oEq (a b : W) : Option W := match isData dep a with
  | true => (match isData dep b with
    | true => sqB (weq dep a b) fun k => some (.bl k)
    | false => Option.none)
  | false => Option.none
def oNe (a b : W) : Option W := match isData dep a with
  | true => (match isData dep b with
    | true => sqB (nB (weq dep a b)) fun k => some (.bl k)
    | false => Option.none)
  | false => Option.none
def isNon (w : W) : Bool := match w with
  | .non => true
  | _ => false
def oIs (a b : W) : Option W := match b with
  | .non => sqB (isNon a) fun k => some (.bl k)
  | _ => Option.none
def oIsn (a b : W) : Option W := match b with
  | .non => sqB (nB (isNon a)) fun k => some (.bl k)
  | _ => Option.none
section
variable {X : Cx} {K : PySem.W.Frag} {T : Tab} {ρ : Rho} {H : Hp} {h : Hpi}
/-- a new list, a new tuple, never changed -/
theorem new_lst (r : RelH K T ρ H h) {p : Addr} {ws : List W} {vs : List V} (np : H p = Option.none) (x : RWs K T ρ H ws vs) : Stp ρ H ρ (upd H p (.lst vs)) ∧ RelH K T ρ (upd H p (.lst vs)) h ∧ RW K T ρ (upd H p (.lst vs)) (.lst ws) (.ref p) :=
  ⟨Stp.imm ρ _ np, (r.imm _ np).1, .lst ⟨upd_same, (r.imm (.lst vs) np).2⟩ (x.step (Stp.imm ρ _ np))⟩
theorem new_tup (r : RelH K T ρ H h) {p : Addr} {ws : List W} {vs : List V} (np : H p = Option.none) (x : RWs K T ρ H ws vs) : Stp ρ H ρ (upd H p (.tup vs)) ∧ RelH K T ρ (upd H p (.tup vs)) h ∧ RW K T ρ (upd H p (.tup vs)) (.tup ws) (.ref p) :=
  ⟨Stp.imm ρ _ np, (r.imm _ np).1, .tup ⟨upd_same, (r.imm (.tup vs) np).2⟩ (x.step (Stp.imm ρ _ np))⟩
theorem RWs.rep : ∀ (n : Nat) {ws : List W} {vs : List V}, RWs K T ρ H ws vs → RWs K T ρ H (List.replicate n ws).flatten (List.replicate n vs).flatten
  | 0, _, _, _ => .nil
  | n + 1, _, _, h => by
    simp only [List.replicate_succ, List.flatten_cons]
    exact h.append (RWs.rep n h)
theorem str_app (s t : List Nat) : (⟨s.toArray⟩ : Str) ++ ⟨t.toArray⟩ = ⟨(s ++ t).toArray⟩ := by
  show (⟨s.toArray ++ t.toArray⟩ : Str) = _
  simp
theorem str_len (s : List Nat) : (⟨s.toArray⟩ : Str).length = s.length := by
  show s.toArray.size = _
  simp
theorem up_ok {w : W} {n : Nat} {v : V} (e : upN w = some n) (r : RR K T ρ H w v) : ∃ i : Nat, v = .int i ∧ i < n := by
  cases w with
  | int i =>
    cases i with
    | ofNat m => cases e; cases r; exact ⟨m, rfl, Nat.lt_succ_self _⟩
    | negSucc m => cases e
  | rng m => cases e; cases r with
    | rng _ i h => exact ⟨i, rfl, h⟩
  | _ => cases e
theorem isI_ok {w : W} {v : V} (e : isI w = true) (r : RR K T ρ H w v) : ∃ i : Int, v = .int i := by
  cases w with
  | int i => cases r; exact ⟨_, rfl⟩
  | rng m => cases r; exact ⟨_, rfl⟩
  | anyi => cases r; exact ⟨_, rfl⟩
  | _ => cases e
theorem addR_ok {a b w : W} {x y : V} (e : addR a b = some w) (ra : RR K T ρ H a x) (rb : RR K T ρ H b y) : ∃ i j : Int, x = .int i ∧ y = .int j ∧ RW K T ρ H w (.int (i + j)) := by
  unfold addR at e
  cases e1 : upN a with
  | none => rw [e1] at e; cases e
  | some n =>
    cases e2 : upN b with
    | none => rw [e1, e2] at e; cases e
    | some m =>
      rw [e1, e2] at e
      simp only [sqN_eq] at e
      cases e
      obtain ⟨i, rfl, hi⟩ := up_ok e1 ra
      obtain ⟨j, rfl, hj⟩ := up_ok e2 rb
      exact ⟨i, j, rfl, rfl, .rng _ (i + j) (by omega)⟩
theorem log2_mono {a b : Nat} (h : a ≤ b) : Nat.log2 a ≤ Nat.log2 b := by
  by_cases z : a = 0
  · subst z; exact Nat.zero_le _
  · have hb : b ≠ 0 := by omega
    exact (Nat.le_log2 hb).mpr (Nat.le_trans ((Nat.le_log2 z).mp (Nat.le_refl _)) h)
theorem mulR_ok {a b w : W} {x y : V} (e : mulR a b = some w) (ra : RR K T ρ H a x) (rb : RR K T ρ H b y) : ∃ i j : Int, x = .int i ∧ y = .int j ∧ CMulW i j ∧ RW K T ρ H w (.int (i * j)) := by
  unfold mulR at e
  cases e1 : upN a with
  | none => rw [e1] at e; cases e
  | some n =>
    cases e2 : upN b with
    | none => rw [e1, e2] at e; cases e
    | some m =>
      rw [e1, e2] at e
      simp only at e
      cases z : Nat.blt (Nat.log2 n + Nat.log2 m) 1000000 with
      | false => rw [z] at e; cases e
      | true =>
        rw [z] at e
        simp only [sqN_eq] at e
        cases e
        obtain ⟨i, rfl, hi⟩ := up_ok e1 ra
        obtain ⟨j, rfl, hj⟩ := up_ok e2 rb
        have hz : Nat.log2 n + Nat.log2 m < 1000000 := Nat.le_of_ble_eq_true z
        refine ⟨i, j, rfl, rfl, ?_, .rng _ (i * j) (Nat.lt_succ_of_le (Nat.mul_le_mul (Nat.le_of_lt hi) (Nat.le_of_lt hj)))⟩
        have a1 := log2_mono (Nat.le_of_lt hi)
        have a2 := log2_mono (Nat.le_of_lt hj)
        show Nat.log2 i + Nat.log2 j < 1000000
        omega
theorem anyB_ok {a b w : W} {x y : V} (e : anyB a b = some w) (ra : RR K T ρ H a x) (rb : RR K T ρ H b y) : ∃ i j : Int, x = .int i ∧ y = .int j ∧ w = .anyb := by
  unfold anyB at e
  cases e1 : isI a with
  | false => rw [e1] at e; cases e
  | true =>
    cases e2 : isI b with
    | false => rw [e1, e2] at e; cases e
    | true =>
      rw [e1, e2] at e
      cases e
      obtain ⟨i, rfl⟩ := isI_ok e1 ra
      obtain ⟨j, rfl⟩ := isI_ok e2 rb
      exact ⟨i, j, rfl, rfl, rfl⟩
abbrev rAddW (K : PySem.W.Frag) : R2 := fun x y H Q => rI0 (fun i j => .int (i + j)) x y H Q ∨ ((∃ i j, x = V.str i ∧ y = V.str j ∧ i.length + j.length ≤ sizeLine ∧ Q (.str (i ++ j)) H) ∨ (rCatA K x y H Q ∨ rCat x y H Q))
theorem op_addW : OpR X (binaryOp .Add) (rAddW X.K) := op_add.or (op_add_str.or (op_catA.or op_cat))
theorem g_add : Op2 K T (rAddW K) oAdd := by
  intro ρ H h a b w x y Q e rh ra rb q
  cases a with
  | int i =>
    cases b with
    | int j =>
      cases ra; cases rb
      have e' : sqI (i + j) (fun k => some (W.int k)) = some w := e
      rw [sqI_eq] at e'; cases e'
      exact .inl ⟨i, j, rfl, rfl, q H _ (Stp.refl _ _) rh (.int _)⟩
    | rng m =>
      obtain ⟨i, j, e1, e2, r⟩ := addR_ok (a := .int i) (b := .rng m) e ra rb
      exact .inl ⟨i, j, e1, e2, q H _ (Stp.refl _ _) rh r⟩
    | _ => cases e
  | rng n =>
    obtain ⟨i, j, e1, e2, r⟩ := addR_ok (a := .rng n) e ra rb
    exact .inl ⟨i, j, e1, e2, q H _ (Stp.refl _ _) rh r⟩
  | str s =>
    cases b with
    | str t =>
      cases ra; cases rb
      simp only [oAdd, lenN_eq] at e
      cases z : Nat.ble (s.length + t.length) lim with
      | false => rw [z] at e; cases e
      | true =>
        rw [z] at e
        simp only [appS_eq] at e
        cases e
        refine .inr (.inl ⟨_, _, rfl, rfl, ?_, ?_⟩)
        · rw [str_len, str_len]; exact Nat.le_trans (Nat.le_of_ble_eq_true z) lim_line
        · rw [str_app]; exact q H _ (Stp.refl _ _) rh (.str _)
    | _ => cases e
  | tup xs =>
    cases b with
    | tup ys =>
      simp only [oAdd, lenN_eq] at e
      cases z : Nat.ble (xs.length + ys.length) lim with
      | false => rw [z] at e; cases e
      | true =>
        rw [z] at e
        simp only [appK_eq] at e
        cases e
        cases ra with
        | tup ha la =>
          cases rb with
          | tup hb lb =>
            have hl := Nat.le_trans (Nat.le_of_ble_eq_true z) lim_line
            rw [la.length, lb.length] at hl
            refine .inr (.inr (.inl ⟨_, _, _, _, rfl, rfl, ha.sq, hb.sq, hl, fun z1 => ?_, fun z1 z2 => ?_, fun z1 z2 p np => ?_⟩))
            · subst z1; cases la; exact q H _ (Stp.refl _ _) rh (.tup hb lb)
            · subst z2; cases lb; rw [List.append_nil] at q; exact q H _ (Stp.refl _ _) rh (.tup ha la)
            · obtain ⟨a1, a2, a3⟩ := new_tup rh np (la.append lb)
              exact q _ _ a1 a2 a3
    | _ => cases e
  | lst xs =>
    cases b with
    | lst ys =>
      simp only [oAdd, lenN_eq] at e
      cases z : Nat.ble (xs.length + ys.length) lim with
      | false => rw [z] at e; cases e
      | true =>
        rw [z] at e
        simp only [appK_eq] at e
        cases e
        obtain ⟨a, vs, rfl, ha, la⟩ := ra
        obtain ⟨b, us, rfl, hb, lb⟩ := rb
        have hl := Nat.le_trans (Nat.le_of_ble_eq_true z) lim_line
        rw [la.length, lb.length] at hl
        refine .inr (.inr (.inr ⟨_, _, _, _, rfl, rfl, ha, hb, hl, fun p np => ?_⟩))
        obtain ⟨a1, a2, a3⟩ := new_lst rh np (la.append lb)
        exact q _ _ a1 a2 a3
    | _ => cases e
  | _ => cases e
theorem g_sub : Op2 K T (rI0 fun i j => .int (i - j)) oSub := by
  intro ρ H h a b w x y Q e rh ra rb q
  cases a with
  | int i =>
    cases b with
    | int j =>
      cases ra; cases rb
      have e' : sqI (i - j) (fun k => some (W.int k)) = some w := e
      rw [sqI_eq] at e'; cases e'
      exact ⟨i, j, rfl, rfl, q H _ (Stp.refl _ _) rh (.int _)⟩
    | _ => cases e
  | _ => cases e
abbrev rMulW : R2 := fun x y H Q => rI CMulW (fun i j => .int (i * j)) x y H Q ∨ rRep x y H Q
theorem op_mulAll : OpR X (binaryOp .Mult) rMulW := op_mulW.or op_rep
theorem g_mul : Op2 K T rMulW oMul := by
  intro ρ H h a b w x y Q e rh ra rb q
  cases a with
  | int i =>
    cases b with
    | int j =>
      cases ra; cases rb
      simp only [oMul] at e
      cases z : Nat.blt (Nat.log2 i.natAbs + Nat.log2 j.natAbs) 1000000 with
      | false => rw [z] at e; cases e
      | true =>
        rw [z] at e
        simp only [sqI_eq] at e
        cases e
        exact .inl ⟨i, j, rfl, rfl, Nat.le_of_ble_eq_true z, q H _ (Stp.refl _ _) rh (.int _)⟩
    | rng m =>
      obtain ⟨i, j, e1, e2, c, r⟩ := mulR_ok (a := .int i) (b := .rng m) e ra rb
      exact .inl ⟨i, j, e1, e2, c, q H _ (Stp.refl _ _) rh r⟩
    | _ => cases e
  | rng n =>
    obtain ⟨i, j, e1, e2, c, r⟩ := mulR_ok (a := .rng n) e ra rb
    exact .inl ⟨i, j, e1, e2, c, q H _ (Stp.refl _ _) rh r⟩
  | lst xs =>
    cases b with
    | int j =>
      cases j with
      | negSucc n => cases e
      | ofNat n =>
        cases rb
        obtain ⟨a, vs, rfl, ha, la⟩ := ra
        simp only [oMul, lenN_eq] at e
        cases z : Nat.ble (xs.length * n) lim with
        | false => rw [z] at e; cases e
        | true =>
          cases z2 : Nat.ble n lim with
          | false => rw [z, z2] at e; cases e
          | true =>
            rw [z, z2] at e
            simp only [repK_eq] at e
            cases e
            have hl := Nat.le_trans (Nat.le_of_ble_eq_true z) lim_line
            have hn : n ≤ 100000 := Nat.le_of_ble_eq_true z2
            rw [la.length] at hl
            refine .inr ⟨_, _, _, rfl, rfl, ha, ?_, ?_, hl, fun p np => ?_⟩
            · show -(2 ^ 63) ≤ (n : Int); omega
            · show (n : Int) < 2 ^ 63; omega
            · obtain ⟨a1, a2, a3⟩ := new_lst rh np (la.rep n)
              exact q _ _ a1 a2 a3
    | _ => cases e
  | _ => cases e
theorem g_div : Op2 K T (rI CDivW fun i j => .int (i / j)) oDiv := by
  intro ρ H h a b w x y Q e rh ra rb q
  cases a with
  | int i =>
    cases b with
    | int j =>
      cases ra; cases rb
      simp only [oDiv] at e
      cases z : ile 1 j with
      | false => rw [z] at e; cases e
      | true =>
        rw [z] at e
        cases z2 : Nat.blt (Nat.log2 j.natAbs) 9000 with
        | false => rw [z2] at e; cases e
        | true =>
          rw [z2] at e
          simp only [sqI_eq] at e
          cases e
          rw [ile_eq] at z
          have := of_decide_eq_true z
          exact ⟨i, j, rfl, rfl, ⟨by omega, Nat.le_of_ble_eq_true z2⟩, q H _ (Stp.refl _ _) rh (.int _)⟩
    | _ => cases e
  | rng n =>
    cases b with
    | int j =>
      cases rb
      cases ra with
      | rng _ i hi =>
        simp only [oDiv] at e
        cases z : ile 1 j with
        | false => rw [z] at e; cases e
        | true =>
          rw [z] at e
          cases z2 : Nat.blt (Nat.log2 j.natAbs) 9000 with
          | false => rw [z2] at e; cases e
          | true =>
            rw [z2] at e
            cases e
            rw [ile_eq] at z
            have h1 := of_decide_eq_true z
            refine ⟨i, j, rfl, rfl, ⟨by omega, Nat.le_of_ble_eq_true z2⟩, ?_⟩
            obtain ⟨m, rfl⟩ : ∃ m : Nat, j = m := ⟨j.toNat, by omega⟩
            have e3 : (i : Int) / (m : Int) = ((i / m : Nat) : Int) := rfl
            show Q (V.int ((i : Int) / (m : Int))) H
            rw [e3]
            exact q H _ (Stp.refl _ _) rh (.rng _ _ (Nat.lt_of_le_of_lt (Nat.div_le_self _ _) hi))
    | _ => cases e
  | _ => cases e
theorem g_mod : Op2 K T (rI (fun _ j => 0 < j) fun i j => .int (i % j)) oMod := by
  intro ρ H h a b w x y Q e rh ra rb q
  have other : isI a = true → modR b = some w → rI (fun _ j => 0 < j) (fun i j => .int (i % j)) x y H Q := by
    intro ia e
    obtain ⟨i, rfl⟩ := isI_ok ia ra
    cases b with
    | int j =>
      cases rb
      simp only [modR] at e
      cases z : ile 1 j with
      | false => rw [z] at e; cases e
      | true =>
        rw [z] at e
        simp only [sqN_eq] at e
        cases e
        rw [ile_eq] at z
        have h1 := of_decide_eq_true z
        refine ⟨i, j, rfl, rfl, by omega, ?_⟩
        have h2 := Int.emod_nonneg i (show j ≠ 0 by omega)
        have h3 := Int.emod_lt_of_pos i (show 0 < j by omega)
        obtain ⟨m, hm⟩ : ∃ m : Nat, i % j = m := ⟨(i % j).toNat, by omega⟩
        show Q (V.int (i % j)) H
        rw [hm]
        exact q H _ (Stp.refl _ _) rh (.rng _ _ (by omega))
    | _ => cases e
  cases a with
  | int i =>
    cases b with
    | int j =>
      cases ra; cases rb
      simp only [oMod] at e
      cases z : ile 1 j with
      | false => rw [z] at e; cases e
      | true =>
        rw [z] at e
        simp only [sqI_eq] at e
        cases e
        rw [ile_eq] at z
        have := of_decide_eq_true z
        exact ⟨i, j, rfl, rfl, by omega, q H _ (Stp.refl _ _) rh (.int _)⟩
    | _ => cases e
  | rng n => exact other rfl e
  | anyi => exact other rfl e
  | _ => cases e
def CPowW (i j : Int) : Prop := 0 ≤ j ∧ (Builtin.Int.intBits i : Int) * j ≤ 2 ^ 27
theorem op_powW : OpR X (binaryOp .Pow) (rI CPowW fun i j => .int (i ^ j.toNat)) := opI fun _ _ _ _ _ _ _ hc q => pow_int hc.1 hc.2 q
theorem bitsN_eq (n : Nat) : bitsN n = Builtin.Int.intBits (n : Int) := by
  cases n with
  | zero => rfl
  | succ m =>
    unfold Builtin.Int.intBits
    have e : (((m + 1 : Nat) : Int) == 0) = false := beq_eq_false_iff_ne.mpr (by omega)
    rw [if_neg (by rw [e]; exact Bool.false_ne_true)]
    rfl
theorem g_pow : Op2 K T (rI CPowW fun i j => .int (i ^ j.toNat)) oPow := by
  intro ρ H h a b w x y Q e rh ra rb q
  cases a with
  | int i =>
    cases i with
    | negSucc n => cases e
    | ofNat m =>
      cases b with
      | int j =>
        cases j with
        | negSucc n => cases e
        | ofNat n =>
          cases ra; cases rb
          simp only [oPow] at e
          cases z : Nat.ble (bitsN m * n) 134217728 with
          | false => rw [z] at e; cases e
          | true =>
            rw [z] at e
            simp only [sqI_eq] at e
            cases e
            have z' := Nat.le_of_ble_eq_true z
            rw [bitsN_eq] at z'
            refine ⟨_, _, rfl, rfl, ⟨Int.natCast_nonneg n, ?_⟩, ?_⟩
            · show (Builtin.Int.intBits (m : Int) : Int) * (n : Int) ≤ 2 ^ 27
              have z2 : ((Builtin.Int.intBits (m : Int) * n : Nat) : Int) ≤ ((134217728 : Nat) : Int) := Int.ofNat_le.mpr z'
              rw [Int.natCast_mul] at z2
              exact z2
            · have e1 : (Int.ofNat m) ^ (Int.ofNat n).toNat = Int.ofNat (Nat.pow m n) := (Int.natCast_pow m n).symm
              show Q (V.int (Int.ofNat m ^ (Int.ofNat n).toNat)) H
              rw [e1]
              exact q H _ (Stp.refl _ _) rh (.int _)
      | _ => cases e
  | _ => cases e
theorem g_lt : Op2 K T (rI0 fun i j => .bl (decide (i < j))) oLt := by
  intro ρ H h a b w x y Q e rh ra rb q
  have other : anyB a b = some w → rI0 (fun i j => .bl (decide (i < j))) x y H Q := fun e => by
    obtain ⟨i, j, e1, e2, e3⟩ := anyB_ok e ra rb
    subst e3
    exact ⟨i, j, e1, e2, q H _ (Stp.refl _ _) rh (.anyb _)⟩
  cases a with
  | int i =>
    cases b with
    | int j =>
      cases ra; cases rb
      simp only [oLt, sqB_eq, ile_eq] at e
      cases e
      exact ⟨i, j, rfl, rfl, q H _ (Stp.refl _ _) rh (.bl _)⟩
    | _ => exact other e
  | _ => exact other e
theorem g_le : Op2 K T (rI0 fun i j => .bl (decide (i ≤ j))) oLe := by
  intro ρ H h a b w x y Q e rh ra rb q
  have other : anyB a b = some w → rI0 (fun i j => .bl (decide (i ≤ j))) x y H Q := fun e => by
    obtain ⟨i, j, e1, e2, e3⟩ := anyB_ok e ra rb
    subst e3
    exact ⟨i, j, e1, e2, q H _ (Stp.refl _ _) rh (.anyb _)⟩
  cases a with
  | int i =>
    cases b with
    | int j =>
      cases ra; cases rb
      simp only [oLe, sqB_eq, ile_eq] at e
      cases e
      exact ⟨i, j, rfl, rfl, q H _ (Stp.refl _ _) rh (.bl _)⟩
    | _ => exact other e
  | _ => exact other e
theorem g_gt : Op2 K T (rI0 fun i j => .bl (decide (j < i))) oGt := fun ρ H h a b w x y Q e rh ra rb q => by
  obtain ⟨i, j, e1, e2, z⟩ := g_lt (K := K) (T := T) ρ H h b a w y x Q e rh rb ra q
  exact ⟨j, i, e2, e1, z⟩
theorem g_ge : Op2 K T (rI0 fun i j => .bl (decide (j ≤ i))) oGe := fun ρ H h a b w x y Q e rh ra rb q => by
  obtain ⟨i, j, e1, e2, z⟩ := g_le (K := K) (T := T) ρ H h b a w y x Q e rh rb ra q
  exact ⟨j, i, e2, e1, z⟩
mutual
theorem dp_of : ∀ {n : Nat} {w : W} {d : PyData} {v : V}, toD n w = some d → RR K T ρ H w v → Dp K H v d
  | 0, _, _, _, h, _ => by cases h
  | n + 1, w, d, v, h, r => by
    cases w with
    | non => cases h; cases r; exact .non
    | bl b => cases h; cases r; exact .bl b
    | int i => cases h; cases r; exact .int i
    | str s =>
      have h' : (match okS s with | true => some (PyData.str ⟨s.toArray⟩) | false => Option.none) = some d := h
      cases e : okS s with
      | false => rw [e] at h'; cases h'
      | true => rw [e] at h'; cases h'; cases r; exact .str _
    | tup xs =>
      have h' : (mapO (toD n) xs).map PyData.tuple = some d := h
      cases e : mapO (toD n) xs with
      | none => rw [e] at h'; exact nomatch h'
      | some ds =>
        rw [e] at h'; cases h'
        cases r with
        | tup ha la => exact .tup ha.sq (dps_of e la)
    | lst xs =>
      have h' : (mapO (toD n) xs).map PyData.list = some d := h
      cases e : mapO (toD n) xs with
      | none => rw [e] at h'; exact nomatch h'
      | some ds =>
        rw [e] at h'; cases h'
        obtain ⟨a, vs, rfl, ha, la⟩ := r
        exact .lst (SqL.of ha) (dps_of e la)
    | ktp xs =>
      have h' : (mapO (toD n) xs).map PyData.tuple = some d := h
      cases e : mapO (toD n) xs with
      | none => rw [e] at h'; exact nomatch h'
      | some ds =>
        rw [e] at h'; cases h'
        cases r with
        | ktp ha la => exact .tup ha.sq (dps_of e la)
    | _ => cases h
theorem dps_of : ∀ {n : Nat} {ws : List W} {ds : List PyData} {vs : List V}, mapO (toD n) ws = some ds → RWs K T ρ H ws vs → DpAll K H vs ds
  | _, [], _, _, h, r => by cases h; cases r; exact .nil
  | n, w :: ws, ds, vs, h, r => by
    simp only [mapO] at h
    split at h
    · rename_i d' ds' e1 e2
      cases h
      cases r with
      | cons r1 r2 => exact .cons (dp_of e1 r1.rr) (dps_of e2 r2)
    · cases h
end
theorem data_of {w : W} {v : V} (h : isData dep w = true) (r : RR K T ρ H w v) : ∃ d, toD dep w = some d ∧ Dp K H v d ∧ SeqAt.shaped d = true := by
  obtain ⟨d, e⟩ := isData_toD h
  obtain ⟨a, b⟩ := toD_ok e
  refine ⟨d, e, dp_of e r, ?_⟩
  unfold SeqAt.shaped
  rw [a, Bool.true_and]
  exact decide_eq_true (Nat.le_trans b (by decide))
theorem g_eq : Op2 K T (rEqD K) oEq := by
  intro ρ H h a b w x y Q e rh ra rb q
  unfold oEq at e
  cases ha : isData dep a with
  | false => rw [ha] at e; cases e
  | true =>
    cases hb : isData dep b with
    | false => rw [ha, hb] at e; cases e
    | true =>
      rw [ha, hb] at e
      simp only [sqB_eq] at e
      cases e
      obtain ⟨d, e1, d1, s1⟩ := data_of ha ra
      obtain ⟨d', e2, d2, s2⟩ := data_of hb rb
      refine ⟨d, d', d1, d2, s1, s2, ?_⟩
      rw [← weq_eqv e1 e2]
      exact q H _ (Stp.refl _ _) rh (.bl _)
theorem g_ne : Op2 K T (rNeD K) oNe := by
  intro ρ H h a b w x y Q e rh ra rb q
  unfold oNe at e
  cases ha : isData dep a with
  | false => rw [ha] at e; cases e
  | true =>
    cases hb : isData dep b with
    | false => rw [ha, hb] at e; cases e
    | true =>
      rw [ha, hb] at e
      simp only [sqB_eq, nB_eq] at e
      cases e
      obtain ⟨d, e1, d1, s1⟩ := data_of ha ra
      obtain ⟨d', e2, d2, s2⟩ := data_of hb rb
      refine ⟨d, d', d1, d2, s1, s2, ?_⟩
      rw [← weq_eqv e1 e2]
      exact q H _ (Stp.refl _ _) rh (.bl _)
theorem isNon_eq {w : W} {v : V} (r : RR K T ρ H w v) : isNon w = decide (v = .non) := by
  cases w with
  | non => cases r; rfl
  | lst xs => obtain ⟨a, vs, rfl, _⟩ := r; rfl
  | dct ks ws => obtain ⟨a, o, rfl, _⟩ := r; rfl
  | _ => cases r <;> rfl
theorem g_is : Op2 K T (fun x y H Q => y = .non ∧ Q (.bl (decide (x = .non))) H) oIs := by
  intro ρ H h a b w x y Q e rh ra rb q
  cases b with
  | non =>
    simp only [oIs, sqB_eq] at e
    cases e
    cases rb
    refine ⟨rfl, ?_⟩
    rw [← isNon_eq ra]
    exact q H _ (Stp.refl _ _) rh (.bl _)
  | _ => cases e
theorem g_isn : Op2 K T (fun x y H Q => y = .non ∧ Q (.bl (!decide (x = .non))) H) oIsn := by
  intro ρ H h a b w x y Q e rh ra rb q
  cases b with
  | non =>
    simp only [oIsn, sqB_eq, nB_eq] at e
    cases e
    cases rb
    refine ⟨rfl, ?_⟩
    rw [← isNon_eq ra]
    exact q H _ (Stp.refl _ _) rh (.bl _)
  | _ => cases e
end
end VA
set_option Elab.async false
set_option linter.all false
set_option maxRecDepth 100000
set_option maxHeartbeats 8000000
/-! V7: statements, loops, calls. -/
namespace VA
noncomputable section
open L2 PySem PySem.Spec PyProof.Rows
variable (K : PySem.W.Frag) (T : Tab)
/-- what is wanted of what a statement gives -/
def FinS (W₀ : WX) (ρ : Rho) (H : Hp) (r : R) (D : Ends) : Prop := R.rec (motive := fun _ => Prop)
  (fun _ e h => ∀ ρ' H' σ', Stp ρ H ρ' H' → RelH K T ρ' H' h → REnv K T ρ' H' e σ' → D.nx σ' H')
  (fun w h => ∀ ρ' H' v, Stp ρ H ρ' H' → RelH K T ρ' H' h → RW K T ρ' H' w v → D.rt v H')
  (fun e h => ∀ ρ' H' σ', Stp ρ H ρ' H' → RelH K T ρ' H' h → REnv K T ρ' H' e σ' → D.bk σ' H')
  (fun e h => ∀ ρ' H' σ', Stp ρ H ρ' H' → RelH K T ρ' H' h → REnv K T ρ' H' e σ' → D.ct σ' H')
  (fun c fs e h => ∀ ρ' H' σ' cls d, Stp ρ H ρ' H' → RelH K T ρ' H' h → REnv K T ρ' H' e σ' → RX K T ρ' H' c fs cls d → W₀ cls d σ' H')
  False (fun _ _ a b => a ∧ b) r
variable (ca : CallT)
def tS (W₀ : WX) (d : D) : TS := fun D σ H => ∃ ρ e h, REnv K T ρ H e σ ∧ RelH K T ρ H h ∧ FinS K T W₀ ρ H (d ca e h) D
def SS (X : Cx) (st : Stmt) (d : D) : Prop := ∀ W₀, Takes X W₀ → PS X st (tS X.K T ca W₀ d)
def SSs (X : Cx) (sts : List Stmt) (d : D) : Prop := ∀ W₀, Takes X W₀ → PSs X sts (tS X.K T ca W₀ d)
/-! ### what is walked -/
/-- an iterator that gives these values -/
structure Beh (ρ1 : Rho) (H1 : Hp) (J : It) (ws : List W) : Prop where
  go : ∀ (i : Nat) (ρ' : Rho) (H' : Hp), i < ws.length → StpM ρ1 H1 ρ' H' → J.go i H'
  stop : ∀ (ρ' : Rho) (H' : Hp), StpM ρ1 H1 ρ' H' → J.stop ws.length H'
  yld : ∀ (i : Nat) (w : W) (ρ' : Rho) (H' : Hp) (h : Hpi) (x : V) (H'' : Hp), ws[i]? = some w → StpM ρ1 H1 ρ' H' → RelH K T ρ' H' h → J.yld i H' x H'' → Stp ρ' H' ρ' H'' ∧ RelH K T ρ' H'' h ∧ RW K T ρ' H'' w x
def FinI (W₀ : WX) (σ : L2.St) (ρ : Rho) (H : Hp) (r : R) (Q : It → Hp → Prop) : Prop := R.rec (motive := fun _ => Prop) (fun w _ h => match w with
    | .lst ws => ∀ ρ' H' J, Stp ρ H ρ' H' → RelH K T ρ' H' h → Beh K T ρ' H' J ws → Q J H'
    | _ => False) (fun _ _ => False) (fun _ _ => False) (fun _ _ => False)
  (fun c fs _ h => ∀ ρ' H' cls d, Stp ρ H ρ' H' → RelH K T ρ' H' h → RX K T ρ' H' c fs cls d → W₀ cls d σ H') False (fun _ _ a b => a ∧ b) r
def tI (W₀ : WX) (d : D) : TI := fun σ H Q => ∃ ρ e h, REnv K T ρ H e σ ∧ RelH K T ρ H h ∧ FinI K T W₀ σ ρ H (d ca e h) Q
def SI (X : Cx) (tg it : Expr) (d : D) : Prop := ∀ W₀, Takes X W₀ → PI X tg it (tI X.K T ca W₀ d)
/-! ### targets -/
def setsK : List Nat → List W → List W → (List W → R) → R
  | [], [], e, k => k e
  | i :: is, w :: ws, e, k => setK e i w fun e' => setsK is ws e' k
  | _, _, _, _ => .bad
def bindG (g : Tg) (w : W) (e : List W) (k : List W → R) : R := match g with
  | .nm i => setK e i w k
  | .tp is => (match w with
    | .tup ws => setsK is ws e k
    | _ => .bad)
def setsS : List Nat → List V → L2.St → L2.St
  | i :: is, v :: vs, σ => setsS is vs (σ.set i (some v))
  | _, _, σ => σ
/-- the slots behind a target's store -/
def gSets (is : List Nat) : TGs := fun vs σ H Q => vs.length = is.length ∧ Q (setsS is vs σ) H
def tG (K : PySem.W.Frag) : Tg → TG
  | .nm i => gName i
  | .tp is => gTup K is.length (gSets is)
def SG (X : Cx) (tg : Expr) (g : Tg) : Prop := PG X tg (tG X.K g)
def tgs : Tg → List Nat
  | .nm i => [i]
  | .tp is => is
section
variable {K : PySem.W.Frag} {T : Tab} {ca : CallT} {W₀ : WX} {ρ ρ' : Rho} {H H' : Hp} {r : R} {D D' : Ends}
theorem FinS.step (s : Stp ρ H ρ' H') (h : FinS K T W₀ ρ H r D) : FinS K T W₀ ρ' H' r D := by
  induction r with
  | ok w e hp => exact fun ρ2 H2 σ a b c => h ρ2 H2 σ (s.trans a) b c
  | ret w hp => exact fun ρ2 H2 v a b c => h ρ2 H2 v (s.trans a) b c
  | brk e hp => exact fun ρ2 H2 σ a b c => h ρ2 H2 σ (s.trans a) b c
  | cnt e hp => exact fun ρ2 H2 σ a b c => h ρ2 H2 σ (s.trans a) b c
  | exc c fs e hp => exact fun ρ2 H2 σ cls d a b c e => h ρ2 H2 σ cls d (s.trans a) b c e
  | or x y ix iy => exact ⟨ix h.1, iy h.2⟩
  | bad => exact h.elim
theorem FinI.step {σ : L2.St} {Q : It → Hp → Prop} (s : Stp ρ H ρ' H') (h : FinI K T W₀ σ ρ H r Q) : FinI K T W₀ σ ρ' H' r Q := by
  induction r with
  | ok w e hp =>
    cases w with
    | lst ws => exact fun ρ2 H2 J a b c => h ρ2 H2 J (s.trans a) b c
    | _ => exact h.elim
  | exc c fs e hp => exact fun ρ2 H2 cls d a b c => h ρ2 H2 cls d (s.trans a) b c
  | or x y ix iy => exact ⟨ix h.1, iy h.2⟩
  | _ => exact h.elim
/-- an expression in a statement -/
def bndS (r : R) (e : List W) (k : W → Hpi → R) : R := R.rec (motive := fun _ => R) (fun w _ h => k w h) (fun _ _ => .bad) (fun _ _ => .bad) (fun _ _ => .bad) (fun c fs _ h => .exc c fs e h) .bad (fun _ _ a b => .or a b) r
theorem finS_bnd {σ : L2.St} {e : List W} {k : W → Hpi → R} (re : REnv K T ρ H e σ) (f : FinS K T W₀ ρ H (bndS r e k) D) : FinE K T W₀ σ ρ H r fun v H1 => ∃ ρ1 w h1, Stp ρ H ρ1 H1 ∧ RelH K T ρ1 H1 h1 ∧ RW K T ρ1 H1 w v ∧ FinS K T W₀ ρ1 H1 (k w h1) D := by
  induction r with
  | ok w e' hp => exact fun ρ' H' v a b c => ⟨ρ', w, hp, a, b, c, FinS.step a f⟩
  | exc c fs e' hp => exact fun ρ' H' cls d a b x => f ρ' H' σ cls d a b (re.step a) x
  | or x y ix iy => exact ⟨ix f.1, iy f.2⟩
  | _ => exact f.elim
def bndTS (r : R) (e : List W) (k : Bool → Hpi → R) : R := R.rec (motive := fun _ => R) (fun w _ h => match w with
    | .bl b => sqB b fun b => k b h
    | .anyb => .or (k true h) (k false h)
    | _ => .bad) (fun _ _ => .bad) (fun _ _ => .bad) (fun _ _ => .bad) (fun c fs _ h => .exc c fs e h) .bad (fun _ _ a b => .or a b) r
theorem finS_bndT {σ : L2.St} {e : List W} {k : Bool → Hpi → R} (re : REnv K T ρ H e σ) (f : FinS K T W₀ ρ H (bndTS r e k) D) : FinT K T W₀ σ ρ H r fun b H1 => ∃ ρ1 h1, Stp ρ H ρ1 H1 ∧ RelH K T ρ1 H1 h1 ∧ FinS K T W₀ ρ1 H1 (k b h1) D := by
  induction r with
  | ok w e' hp =>
    cases w with
    | bl b =>
      have f' : FinS K T W₀ ρ H (sqB b fun b => k b hp) D := f
      rw [sqB_eq] at f'
      exact fun ρ' H' a b => ⟨ρ', hp, a, b, FinS.step a f'⟩
    | anyb =>
      intro b ρ' H' a c
      cases b with
      | true => exact ⟨ρ', hp, a, c, FinS.step a f.1⟩
      | false => exact ⟨ρ', hp, a, c, FinS.step a f.2⟩
    | _ => exact f.elim
  | exc c fs e' hp => exact fun ρ' H' cls d a b x => f ρ' H' σ cls d a b (re.step a) x
  | or x y ix iy => exact ⟨ix f.1, iy f.2⟩
  | _ => exact f.elim
def bndAS (r : R) (e : List W) (k : List W → Hpi → R) : R := R.rec (motive := fun _ => R) (fun w _ h => match w with
    | .tup ws => k ws h
    | _ => .bad) (fun _ _ => .bad) (fun _ _ => .bad) (fun _ _ => .bad) (fun c fs _ h => .exc c fs e h) .bad (fun _ _ a b => .or a b) r
theorem finS_bndA {σ : L2.St} {e : List W} {k : List W → Hpi → R} (re : REnv K T ρ H e σ) (f : FinS K T W₀ ρ H (bndAS r e k) D) : FinA K T W₀ σ ρ H r fun vs H1 => ∃ ρ1 ws h1, Stp ρ H ρ1 H1 ∧ RelH K T ρ1 H1 h1 ∧ RWs K T ρ1 H1 ws vs ∧ FinS K T W₀ ρ1 H1 (k ws h1) D := by
  induction r with
  | ok w e' hp =>
    cases w with
    | tup ws => exact fun ρ' H' v a b c => ⟨ρ', ws, hp, a, b, c, FinS.step a f⟩
    | _ => exact f.elim
  | exc c fs e' hp => exact fun ρ' H' cls d a b x => f ρ' H' σ cls d a b (re.step a) x
  | or x y ix iy => exact ⟨ix f.1, iy f.2⟩
  | _ => exact f.elim
/-! ### targets -/
theorem finS_sets {k : List W → R} : ∀ {is : List Nat} {ws e : List W} {σ : L2.St} {vs : List V}, RWs K T ρ H ws vs → REnv K T ρ H e σ → FinS K T W₀ ρ H (setsK is ws e k) D → vs.length = is.length ∧ ∃ e', REnv K T ρ H e' (setsS is vs σ) ∧ FinS K T W₀ ρ H (k e') D
  | [], [], e, σ, _, .nil, re, f => ⟨rfl, e, re, f⟩
  | i :: is, w :: ws, e, σ, v :: vs, .cons r t, re, f => by
    have f' : FinS K T W₀ ρ H (setK e i w fun e' => setsK is ws e' k) D := f
    rw [setK_eq] at f'
    obtain ⟨a, b⟩ := finS_sets t (re.set i r) f'
    exact ⟨congrArg (· + 1) a, b⟩
  | [], w :: ws, e, σ, _, _, _, f => f.elim
  | i :: is, [], e, σ, _, _, _, f => f.elim
theorem finS_bind {k : List W → R} {g : Tg} {w : W} {v : V} {e : List W} {σ : L2.St} {Q : L2.St → Hp → Prop} (rw' : RW K T ρ H w v) (re : REnv K T ρ H e σ) (f : FinS K T W₀ ρ H (bindG g w e k) D)
    (q : ∀ e' σ', REnv K T ρ H e' σ' → FinS K T W₀ ρ H (k e') D → Q σ' H) : tG K g v σ H Q := by
  cases g with
  | nm i =>
    have f' : FinS K T W₀ ρ H (setK e i w k) D := f
    rw [setK_eq] at f'
    exact q _ _ (re.set i rw') f'
  | tp is =>
    cases w with
    | tup ws =>
      cases rw' with
      | tup ha la =>
        obtain ⟨hl, e', re', f'⟩ := finS_sets la re f
        exact ⟨_, _, rfl, ha.sq, hl, hl, q e' _ re' f'⟩
    | _ => exact f.elim
end
section
variable {X : Cx} {T : Tab} {ca : CallT}
theorem _root_.L2.PS.weak {e : Stmt} {t t' : TS} (h : PS X e t) (i : ∀ D σ H, t' D σ H → t D σ H) : PS X e t' := ⟨fun pins s σ H D I q => h.run pins s σ H D I (i _ _ _ q)⟩
theorem _root_.L2.PSs.weak {e : List Stmt} {t t' : TS} (h : PSs X e t) (i : ∀ D σ H, t' D σ H → t D σ H) : PSs X e t' := ⟨fun pins s σ H D I q => h.run pins s σ H D I (i _ _ _ q)⟩
theorem _root_.L2.PI.weak {tg it : Expr} {t t' : TI} (h : PI X tg it t) (i : ∀ σ H Q, t' σ H Q → t σ H Q) : PI X tg it t' := ⟨fun pins s σ H R I q => h.run pins s σ H R I (i _ _ _ q)⟩
theorem _root_.L2.PI.or {tg it : Expr} {t u : TI} (h : PI X tg it t) (h' : PI X tg it u) : PI X tg it (fun σ H Q => t σ H Q ∨ u σ H Q) := ⟨fun pins s σ H R I q => q.elim (h.run pins s σ H R I) (h'.run pins s σ H R I)⟩
/-! ### statements -/
def mSkip : D := fun _ e h => .ok .non e h
/-- the next statement -/
def thenR (r : R) (k : List W → Hpi → R) : R := R.rec (motive := fun _ => R) (fun _ e h => k e h) (fun w h => .ret w h) (fun e h => .brk e h) (fun e h => .cnt e h) (fun c fs e h => .exc c fs e h) .bad (fun _ _ a b => .or a b) r
/-- the next turn of a loop -/
def loopR (r : R) (k : List W → Hpi → R) : R := R.rec (motive := fun _ => R) (fun _ e h => k e h) (fun w h => .ret w h) (fun e h => .ok .non e h) (fun e h => k e h) (fun c fs e h => .exc c fs e h) .bad (fun _ _ a b => .or a b) r
def mSeq (a b : D) : D := fun ca e h => thenR (a ca e h) fun e1 h1 => b ca e1 h1
theorem finS_then {K : PySem.W.Frag} {W₀ : WX} {ρ : Rho} {H : Hp} {r : R} {D : Ends} {k : List W → Hpi → R} (f : FinS K T W₀ ρ H (thenR r k) D) : FinS K T W₀ ρ H r { D with nx := fun σ H => ∃ ρ e h, REnv K T ρ H e σ ∧ RelH K T ρ H h ∧ FinS K T W₀ ρ H (k e h) D } := by
  induction r with
  | ok w e1 h1 => exact fun ρ' H' σ' s r x => ⟨ρ', e1, h1, x, r, FinS.step s f⟩
  | or x y ix iy => exact ⟨ix f.1, iy f.2⟩
  | _ => exact f
theorem finS_loop {K : PySem.W.Frag} {W₀ : WX} {ρ : Rho} {H : Hp} {r : R} {D : Ends} {k : List W → Hpi → R} (f : FinS K T W₀ ρ H (loopR r k) D) {Y : L2.St → Hp → Prop} (q : ∀ ρ' H' σ' e h, Stp ρ H ρ' H' → REnv K T ρ' H' e σ' → RelH K T ρ' H' h → FinS K T W₀ ρ' H' (k e h) D → Y σ' H') : FinS K T W₀ ρ H r ⟨Y, D.rt, D.nx, Y⟩ := by
  induction r with
  | ok w e1 h1 => exact fun ρ' H' σ' s r x => q ρ' H' σ' e1 h1 s x r (FinS.step s f)
  | cnt e1 h1 => exact fun ρ' H' σ' s r x => q ρ' H' σ' e1 h1 s x r (FinS.step s f)
  | or x y ix iy => exact ⟨ix f.1, iy f.2⟩
  | _ => exact f
def mSet (i : Nat) (a : D) : D := fun ca e h => bndS (a ca e h) e fun w h1 => setK e i w fun e' => .ok .non e' h1
def mAsg (g : Tg) (a : D) : D := fun ca e h => bndS (a ca e h) e fun w h1 => bindG g w e fun e' => .ok .non e' h1
def mPar (is : List Nat) (a : D) : D := fun ca e h => bndAS (a ca e h) e fun ws h1 => setsK is ws e fun e' => .ok .non e' h1
def mRet (a : D) : D := fun ca e h => bndS (a ca e h) e fun w h1 => .ret w h1
def mRetN : D := fun _ _ h => .ret .non h
def mDrop (a : D) : D := fun ca e h => bndS (a ca e h) e fun _ h1 => .ok .non e h1
def mSif (t a b : D) : D := fun ca e h => bndTS (t ca e h) e fun k h1 => match k with
  | true => a ca e h1
  | false => b ca e h1
def mBrk : D := fun _ e h => .brk e h
def mCnt : D := fun _ e h => .cnt e h
theorem SSs.nil : SSs T ca X [] mSkip := fun W₀ _ => pss_nil.weak fun D σ H ⟨ρ, e, h, re, rh, f⟩ => f ρ H σ (Stp.refl _ _) rh re
theorem SSs.cons {st : Stmt} {rest : List Stmt} {a b : D} (ha : SS T ca X st a) (hb : SSs T ca X rest b) : SSs T ca X (st :: rest) (mSeq a b) := fun W₀ t =>
  (pss_cons (ha W₀ t) (hb W₀ t)).weak fun D σ H ⟨ρ, e, h, re, rh, f⟩ => ⟨ρ, e, h, re, rh, by
    exact finS_then f⟩
theorem SSs.one {st : Stmt} {a : D} (ha : SS T ca X st a) : SSs T ca X [st] a := fun W₀ t => pss_one (ha W₀ t)
theorem SS.pass {pos : Pos} : SS T ca X (.Pass pos) mSkip := fun W₀ _ => ps_pass.weak fun D σ H ⟨ρ, e, h, re, rh, f⟩ => f ρ H σ (Stp.refl _ _) rh re
theorem SS.brk {pos : Pos} : SS T ca X (.Break pos) mBrk := fun W₀ _ => ps_break.weak fun D σ H ⟨ρ, e, h, re, rh, f⟩ => f ρ H σ (Stp.refl _ _) rh re
theorem SS.cnt {pos : Pos} : SS T ca X (.Continue pos) mCnt := fun W₀ _ => ps_continue.weak fun D σ H ⟨ρ, e, h, re, rh, f⟩ => f ρ H σ (Stp.refl _ _) rh re
theorem t_asg {g : Tg} {d : D} {W₀ : WX} {K : PySem.W.Frag} {D : Ends} {σ : L2.St} {H : Hp} (h : tS K T ca W₀ (mAsg g d) D σ H) : tAsg (tE K T ca W₀ d) (tG K g) D σ H := by
  obtain ⟨ρ, e, h, re, rh, f⟩ := h
  refine ⟨ρ, e, h, re, rh, (finS_bnd re f).imp ?_⟩
  rintro v H1 ⟨ρ1, w, h1, s1, rh1, r1, f1⟩
  exact finS_bind r1 (re.step s1) f1 fun e' σ' re' f' => f' ρ1 H1 σ' (Stp.refl _ _) rh1 re'
theorem SS.asg {tg e : Expr} {g : Tg} {d : D} {pos : Pos} (he : SE T ca X e d) (hg : SG X tg g) (hs : swapsWithSole [tg] e pos.line X.env = pure false) (hw : swappedStores [tg] e X.env = pure none) (h1 : (assignEach [tg] X.env).map (·.2) = [assign tg X.env]) :
    SS T ca X (.Assign [tg] e pos) (mAsg g d) := fun W₀ t => (ps_asg (he W₀ t) hg hs hw h1).weak fun _ _ _ h => t_asg h
theorem t_par2 {i j : Nat} {d : D} {W₀ : WX} {K : PySem.W.Frag} {D : Ends} {σ : L2.St} {H : Hp} (h : tS K T ca W₀ (mPar [i, j] d) D σ H) : tPar i j (tA K T ca W₀ d) D σ H := by
  obtain ⟨ρ, e, h, re, rh, f⟩ := h
  refine ⟨ρ, e, h, re, rh, (finS_bndA re f).imp ?_⟩
  rintro vs H1 ⟨ρ1, ws, h1, s1, rh1, r1, f1⟩
  obtain ⟨hl, e', re', f'⟩ := finS_sets r1 (re.step s1) f1
  match vs, hl with
  | [v, u], _ => exact ⟨v, u, rfl, f' ρ1 H1 _ (Stp.refl _ _) rh1 re'⟩
theorem t_par3 {i j l : Nat} {d : D} {W₀ : WX} {K : PySem.W.Frag} {D : Ends} {σ : L2.St} {H : Hp} (h : tS K T ca W₀ (mPar [i, j, l] d) D σ H) : tPar3 i j l (tA K T ca W₀ d) D σ H := by
  obtain ⟨ρ, e, h, re, rh, f⟩ := h
  refine ⟨ρ, e, h, re, rh, (finS_bndA re f).imp ?_⟩
  rintro vs H1 ⟨ρ1, ws, h1, s1, rh1, r1, f1⟩
  obtain ⟨hl, e', re', f'⟩ := finS_sets r1 (re.step s1) f1
  match vs, hl with
  | [v, u, z], _ => exact ⟨v, u, z, rfl, f' ρ1 H1 _ (Stp.refl _ _) rh1 re'⟩
theorem SS.ret {e : Expr} {d : D} {pos : Pos} (he : SE T ca X e d) : SS T ca X (.Return (some e) pos) (mRet d) := fun W₀ t =>
  (ps_ret (he W₀ t)).weak fun D σ H ⟨ρ, e, h, re, rh, f⟩ => ⟨ρ, e, h, re, rh, (finS_bnd re f).imp fun v H1 ⟨ρ1, w, h1, s1, rh1, r1, f1⟩ => f1 ρ1 H1 v (Stp.refl _ _) rh1 r1⟩
theorem SS.retN {pos : Pos} : SS T ca X (.Return none pos) mRetN := fun W₀ _ => ps_retN.weak fun D σ H ⟨ρ, e, h, re, rh, f⟩ => f ρ H _ (Stp.refl _ _) rh .non
theorem SS.expr {e : Expr} {d : D} {pos : Pos} (he : SE T ca X e d) (hs : swapsWith e none pos.line X.env = pure false) : SS T ca X (.Expr e pos) (mDrop d) := fun W₀ t =>
  (ps_expr (he W₀ t) hs).weak fun D σ H ⟨ρ, e, h, re, rh, f⟩ => ⟨ρ, e, h, re, rh, (finS_bnd re f).imp fun v H1 ⟨ρ1, w, h1, s1, rh1, r1, f1⟩ => f1 ρ1 H1 σ (Stp.refl _ _) rh1 (re.step s1)⟩
theorem SS.if_ {c : Expr} {a b : List Stmt} {dc da db : D} {pos : Pos} (hc : ST T ca X c dc) (ha : SSs T ca X a da) (hb : SSs T ca X b db) : SS T ca X (.If c a b pos) (mSif dc da db) := fun W₀ t =>
  (ps_if (hc W₀ t) (ha W₀ t) (hb W₀ t)).weak fun D σ H ⟨ρ, e, h, re, rh, f⟩ => ⟨ρ, e, h, re, rh, (finS_bndT re f).imp fun b H1 ⟨ρ1, h1, s1, rh1, f1⟩ => by
    cases b <;> exact ⟨ρ1, e, h1, re.step s1, rh1, f1⟩⟩
/-! ### while -/
def whl (c b : D) (ca : CallT) : Nat → List W → Hpi → R
  | 0, _, _ => .bad
  | n + 1, e, h => bndTS (c ca e h) e fun k h1 => match k with
    | false => .ok .non e h1
    | true => loopR (b ca e h1) fun e2 h2 => whl c b ca n e2 h2
def mWhl (n : Nat) (c b : D) : D := fun ca e h => whl c b ca n e h
theorem SS.while_ {c : Expr} {body : List Stmt} {dc db : D} {n : Nat} {pos : Pos} (hp : PassesOwn (model X.prog X.w) X.A X.env X.xe) (hc : ST T ca X c dc) (hb : SSs T ca X body db) : SS T ca X (.While c body [] pos) (mWhl n dc db) := fun W₀ t =>
  (ps_while hp (hc W₀ t) (hb W₀ t)).weak fun D σ H ⟨ρ, e, h, re, rh, f⟩ => by
    refine ⟨fun m σ H => ∃ ρ e h, REnv X.K T ρ H e σ ∧ RelH X.K T ρ H h ∧ FinS X.K T W₀ ρ H (whl dc db ca m e h) D, ⟨n, ρ, e, h, re, rh, f⟩, ?_⟩
    rintro m σ H ⟨ρ, e, h, re, rh, f⟩
    cases m with
    | zero => exact f.elim
    | succ m =>
      refine ⟨ρ, e, h, re, rh, (finS_bndT re f).imp fun b H1 ⟨ρ1, h1, s1, rh1, f1⟩ => ?_⟩
      cases b with
      | false => exact f1 ρ1 H1 σ (Stp.refl _ _) rh1 (re.step s1)
      | true =>
        rw [if_pos rfl]
        refine ⟨fun σ' H' => ∃ ρ e h, REnv X.K T ρ H' e σ' ∧ RelH X.K T ρ H' h ∧ FinS X.K T W₀ ρ H' (whl dc db ca m e h) D, fun σ' H' z => ⟨m, Nat.lt_succ_self m, z⟩, ρ1, e, h1, re.step s1, rh1, ?_⟩
        exact finS_loop f1 fun ρ' H' σ' e2 h2 s x r f => ⟨ρ', e2, h2, x, r, f⟩
/-! ### for -/
def loopL (g : Tg) (b : D) (ca : CallT) : List W → List W → Hpi → R
  | [], e, h => .ok .non e h
  | w :: ws, e, h => bindG g w e fun e1 => loopR (b ca e1 h) fun e2 h2 => loopL g b ca ws e2 h2
def bndIS (r : R) (e : List W) (k : List W → Hpi → R) : R := R.rec (motive := fun _ => R) (fun w _ h => match w with
    | .lst ws => k ws h
    | _ => .bad) (fun _ _ => .bad) (fun _ _ => .bad) (fun _ _ => .bad) (fun c fs _ h => .exc c fs e h) .bad (fun _ _ a b => .or a b) r
def mFor (g : Tg) (it b : D) : D := fun ca e h => bndIS (it ca e h) e fun ws h1 => loopL g b ca ws e h1
theorem finS_bndI {K : PySem.W.Frag} {W₀ : WX} {ρ : Rho} {H : Hp} {r : R} {D : Ends} {σ : L2.St} {e : List W} {k : List W → Hpi → R} (re : REnv K T ρ H e σ) (f : FinS K T W₀ ρ H (bndIS r e k) D) : FinI K T W₀ σ ρ H r fun J H1 => ∃ ρ1 ws h1, Stp ρ H ρ1 H1 ∧ RelH K T ρ1 H1 h1 ∧ Beh K T ρ1 H1 J ws ∧ FinS K T W₀ ρ1 H1 (k ws h1) D := by
  induction r with
  | ok w e' hp =>
    cases w with
    | lst ws => exact fun ρ' H' v a b c => ⟨ρ', ws, hp, a, b, c, FinS.step a f⟩
    | _ => exact f.elim
  | exc c fs e' hp => exact fun ρ' H' cls d a b x => f ρ' H' σ cls d a b (re.step a) x
  | or x y ix iy => exact ⟨ix f.1, iy f.2⟩
  | _ => exact f.elim
theorem FinI.imp {K : PySem.W.Frag} {W₀ : WX} {σ : L2.St} {ρ : Rho} {H : Hp} {r : R} {Q Q' : It → Hp → Prop} (h : FinI K T W₀ σ ρ H r Q) (q : ∀ v H', Q v H' → Q' v H') : FinI K T W₀ σ ρ H r Q' := by
  induction r with
  | ok w e hp =>
    cases w with
    | lst ws => exact fun ρ' H' v a b c => q _ _ (h ρ' H' v a b c)
    | _ => exact h.elim
  | exc c fs e' hp => exact h
  | or x y ix iy => exact ⟨ix h.1, iy h.2⟩
  | _ => exact h.elim
theorem SS.for_ {tg it : Expr} {body : List Stmt} {g : Tg} {di db : D} {pos : Pos} (hp : PassesOwn (model X.prog X.w) X.A X.env X.xe) (hc : X.calm = true) (hi : SI T ca X tg it di) (hg : SG X tg g) (hb : SSs T ca X body db)
    (hs : ∀ x, foldedSetIterable it X.env x = pure x) : SS T ca X (.For tg it body [] pos) (mFor g di db) := fun W₀ t =>
  (ps_for hp hc (hi W₀ t) hg (hb W₀ t) hs).weak fun D σ H ⟨ρ, e, h, re, rh, f⟩ => by
    refine ⟨ρ, e, h, re, rh, (finS_bndI re f).imp ?_⟩
    rintro J H1 ⟨ρ1, ws, h1, s1, rh1, bh, f1⟩
    refine ⟨fun i m σ H => m = ws.length - i ∧ i ≤ ws.length ∧ ∃ ρ e h, Stp ρ1 H1 ρ H ∧ REnv X.K T ρ H e σ ∧ RelH X.K T ρ H h ∧ FinS X.K T W₀ ρ H (loopL g db ca (ws.drop i) e h) D, ⟨ws.length, by simp, Nat.zero_le _, ρ1, e, h1, Stp.refl _ _, re.step s1, rh1, f1⟩, ?_⟩
    rintro i m σ H ⟨rfl, hi, ρ, e, h, s, re, rh, f⟩
    by_cases hlt : i < ws.length
    · have ed : ws.drop i = ws[i] :: ws.drop (i + 1) := List.drop_eq_getElem_cons hlt
      rw [ed] at f
      refine .inr ⟨bh.go i ρ H hlt s.m0, fun σ' H' => ∃ ρ e h, Stp ρ1 H1 ρ H' ∧ REnv X.K T ρ H' e σ' ∧ RelH X.K T ρ H' h ∧ FinS X.K T W₀ ρ H' (loopL g db ca (ws.drop (i + 1)) e h) D, fun σ' H' z => ⟨ws.length - (i + 1), by omega, rfl, hlt, z⟩, fun x H' y => ?_⟩
      obtain ⟨s2, rh2, r2⟩ := bh.yld i ws[i] ρ H h x H' (by simp [hlt]) s.m0 rh y
      refine finS_bind r2 (re.step s2) (FinS.step s2 f) fun e' σ' re' f' => ⟨ρ, e', h, re', rh2, ?_⟩
      exact finS_loop f' fun ρ' H'' σ' e2 h2 s' x' r' f => ⟨ρ', e2, h2, (s.trans s2).trans s', x', r', f⟩
    · have ei : i = ws.length := by omega
      subst ei
      rw [List.drop_length] at f
      exact .inl ⟨bh.stop ρ H s.m0, f ρ H σ (Stp.refl _ _) rh re⟩
end
end
end VA
set_option Elab.async false
set_option linter.all false
set_option maxRecDepth 100000
set_option maxHeartbeats 8000000
/-! V8: sources, displays, list comprehensions. -/
namespace VA
noncomputable section
open L2 PySem PySem.Spec PyProof.Rows
section
variable {K : PySem.W.Frag} {T : Tab} {ρ ρ' : Rho} {H H' : Hp}
theorem rws_at {ws : List W} {vs : List V} {i : Nat} {w : W} {v : V} (r : RWs K T ρ H ws vs) (e : ws[i]? = some w) (e' : vs[i]? = some v) : RW K T ρ H w v := by
  obtain ⟨u, e2, x⟩ := r.get e
  rw [e'] at e2; cases e2; exact x
/-- a list that stays -/
theorem beh_lst {a : Addr} {ws : List W} {vs : List V} (st : ∀ (ρ' : Rho) (H' : Hp), StpM ρ H ρ' H' → SqL K H' a vs) (r : RWs K T ρ H ws vs) : Beh K T ρ H (Itl K a) ws where
  go := fun i ρ' H' hi s => by
    have hl := r.length
    exact ⟨vs, vs[i]'(by omega), st ρ' H' s, by simp [show i < vs.length by omega]⟩
  stop := fun ρ' H' s => ⟨vs, st ρ' H' s, by rw [r.length]; exact Nat.le_refl _⟩
  yld := fun i w ρ' H' h x H'' e s rh y => by
    obtain ⟨rfl, y⟩ := y
    exact ⟨Stp.refl _ _, rh, rws_at (r.stepM s) e (y vs (st ρ' _ s))⟩
theorem beh_tup {a : Addr} {ws : List W} {vs : List V} (st : ∀ (ρ' : Rho) (H' : Hp), StpM ρ H ρ' H' → SqT K H' a vs) (r : RWs K T ρ H ws vs) : Beh K T ρ H (Itt K a) ws where
  go := fun i ρ' H' hi s => by
    have hl := r.length
    exact ⟨vs, vs[i]'(by omega), st ρ' H' s, by simp [show i < vs.length by omega]⟩
  stop := fun ρ' H' s => ⟨vs, st ρ' H' s, by rw [r.length]; exact Nat.le_refl _⟩
  yld := fun i w ρ' H' h x H'' e s rh y => by
    obtain ⟨rfl, y⟩ := y
    exact ⟨Stp.refl _ _, rh, rws_at (r.stepM s) e (y vs (st ρ' _ s))⟩
/-- the ints of a range -/
def rngW : Nat → Int → List W
  | 0, _ => []
  | n + 1, i => .int i :: rngW n (i + 1)
theorem rngW_length : ∀ (n : Nat) (i : Int), (rngW n i).length = n
  | 0, _ => rfl
  | n + 1, i => congrArg (· + 1) (rngW_length n (i + 1))
theorem rngW_at : ∀ (n : Nat) (i : Int) (j : Nat) (w : W), (rngW n i)[j]? = some w → w = .int (i + j)
  | 0, _, _, _, h => by cases h
  | n + 1, i, 0, w, h => by
    have h' : some (W.int i) = some w := h
    cases h'
    simp
  | n + 1, i, j + 1, w, h => by
    have h' : (rngW n (i + 1))[j]? = some w := by simpa [rngW] using h
    rw [rngW_at n (i + 1) j w h']
    congr 1
    omega
theorem beh_rng {lo : Int} {n : Nat} : Beh K T ρ H (Itr lo n) (rngW n lo) where
  go := fun i ρ' H' hi s => by rw [rngW_length] at hi; exact hi
  stop := fun ρ' H' s => by rw [rngW_length]; exact Nat.le_refl _
  yld := fun i w ρ' H' h x H'' e s rh y => by
    obtain ⟨rfl, rfl⟩ := y
    rw [rngW_at _ _ _ _ e]
    exact ⟨Stp.refl _ _, rh, .int _⟩
/-- the same, each int done at once -/
def rngK (n : Nat) (i : Int) (k : List W → R) : R := match n with
  | 0 => k []
  | m + 1 => sqI i fun j => rngK m (j + 1) fun r => k (.int j :: r)
theorem rngK_eq : ∀ (n : Nat) (i : Int) (k : List W → R), rngK n i k = k (rngW n i)
  | 0, _, _ => rfl
  | n + 1, i, k => by simp only [rngK, sqI_eq, rngK_eq n]; rfl
end
section
variable {X : Cx} {T : Tab} {ca : CallT}
def toL (w : W) (e : List W) (h : Hpi) : R := match w with
  | .lst ws => .ok (.lst ws) e h
  | .tup ws => .ok (.lst ws) e h
  | .ktp ws => .ok (.lst ws) e h
  | .ftp ws => .ok (.lst ws) e h
  | .scr ws => .ok (.lst ws) e h
  | _ => .bad
/-- (no choice of what is walked: its kind decides the rule) -/
def seqR (r : R) (e : List W) : R := R.rec (motive := fun _ => R) (fun w _ h => toL w e h) (fun _ _ => .bad) (fun _ _ => .bad) (fun _ _ => .bad) (fun c fs e h => .exc c fs e h) .bad (fun _ _ _ _ => .bad) r
def mISeq (a : D) : D := fun ca e h => seqR (a ca e h) e
theorem SI.seq {tg e : Expr} {d : D} (he : SE T ca X e d) : SI T ca X tg e (mISeq d) := fun W₀ t =>
  ((pi_list (he W₀ t)).or (pi_tup (he W₀ t))).weak fun σ H R ⟨ρ, e, h, re, rh, f⟩ => by
    unfold mISeq at f
    cases q : d ca e h with
    | exc c fs e' h' => rw [q] at f; exact .inl ⟨ρ, e, h, re, rh, by rw [q]; exact f⟩
    | ok w e' h1 =>
      rw [q] at f
      have f' : FinI X.K T W₀ σ ρ H (toL w e h1) R := f
      cases w with
      | lst ws =>
        refine .inl ⟨ρ, e, h, re, rh, ?_⟩
        rw [q]
        intro ρ' H' v s r x
        cases x with
        | lst ha la => exact ⟨_, rfl, ⟨_, ha.sq⟩, f' ρ' H' _ s r (beh_lst (fun ρ2 H2 s2 => (ha.stepM s2).sq) la)⟩
      | scr ws =>
        refine .inl ⟨ρ, e, h, re, rh, ?_⟩
        rw [q]
        intro ρ' H' v s r x
        cases x with
        | scr ha la => exact ⟨_, rfl, ⟨_, ha.sq⟩, f' ρ' H' _ s r (beh_lst (fun ρ2 H2 s2 => (ha.stepM s2).sq) la)⟩
      | tup ws =>
        refine .inr ⟨ρ, e, h, re, rh, ?_⟩
        rw [q]
        intro ρ' H' v s r x
        cases x with
        | tup ha la => exact ⟨_, rfl, ⟨_, ha.sq⟩, f' ρ' H' _ s r (beh_tup (fun ρ2 H2 s2 => (ha.stepM s2).sq) la)⟩
      | ftp ws =>
        refine .inr ⟨ρ, e, h, re, rh, ?_⟩
        rw [q]
        intro ρ' H' v s r x
        cases x with
        | ftp ha la => exact ⟨_, rfl, ⟨_, ha.sq⟩, f' ρ' H' _ s r (beh_tup (fun ρ2 H2 s2 => (ha.stepM s2).sq) la)⟩
      | ktp ws =>
        refine .inr ⟨ρ, e, h, re, rh, ?_⟩
        rw [q]
        intro ρ' H' v s r x
        cases x with
        | ktp ha la => exact ⟨_, rfl, ⟨_, ha.sq⟩, f' ρ' H' _ s r (beh_tup (fun ρ2 H2 s2 => ha.sq) la)⟩
      | _ => exact f'.elim
    | _ => rw [q] at f; exact f.elim
/-- a bound of a range: within 62 bits -/
def rgB (i : Int) : Bool := match ile (-4611686018427387904) i with
  | true => ile i 4611686018427387903
  | false => false
theorem rgB_ok {i : Int} (h : rgB i = true) : -(2 ^ 62) ≤ i ∧ i < 2 ^ 62 := by
  unfold rgB at h
  rw [ile_eq, ile_eq] at h
  by_cases h1 : -4611686018427387904 ≤ i
  · rw [decide_eq_true h1] at h
    have h2 := of_decide_eq_true h
    constructor <;> omega
  · rw [decide_eq_false h1] at h; cases h
def rg1 (ws : List W) (e : List W) (h : Hpi) : R := match ws with
  | [.int j] => (match rgB j with
    | true => rngK j.toNat 0 fun r => .ok (.lst r) e h
    | false => .bad)
  | _ => .bad
def rg2 (ws : List W) (e : List W) (h : Hpi) : R := match ws with
  | [.int i, .int j] => (match rgB i, rgB j with
    | true, true => rngK (j - i).toNat i fun r => .ok (.lst r) e h
    | _, _ => .bad)
  | _ => .bad
def mIRng1 (a : D) : D := fun ca e h => bndA (a ca e h) fun ws h1 => rg1 ws e h1
def mIRng2 (a : D) : D := fun ca e h => bndA (a ca e h) fun ws h1 => rg2 ws e h1
theorem finI_bndA {K : PySem.W.Frag} {W₀ : WX} {σ : L2.St} {ρ : Rho} {H : Hp} {r : R} {k : List W → Hpi → R} {Q : It → Hp → Prop} (f : FinI K T W₀ σ ρ H (bndA r k) Q) : FinA K T W₀ σ ρ H r fun vs H1 => ∃ ρ1 ws h1, Stp ρ H ρ1 H1 ∧ RelH K T ρ1 H1 h1 ∧ RWs K T ρ1 H1 ws vs ∧ FinI K T W₀ σ ρ1 H1 (k ws h1) Q := by
  induction r with
  | ok w e hp =>
    cases w with
    | tup ws => exact fun ρ' H' v a b c => ⟨ρ', ws, hp, a, b, c, FinI.step a f⟩
    | _ => exact f.elim
  | exc c fs e hp => exact f
  | or x y ix iy => exact ⟨ix f.1, iy f.2⟩
  | _ => exact f.elim
theorem SI.rng1 {tg a : Expr} {d : D} {p pos : Pos} (hg : Gl X "range") (hm : X.mg "range" = none) (ha : SA T ca X [a] d) (hs : starEach [a] X.env = [(false, eval a X.env)]) : SI T ca X tg (.Call (.Name "range" p) [a] [] pos) (mIRng1 d) := fun W₀ t =>
  (pi_range1 hg hm (ha W₀ t) hs).weak fun σ H R ⟨ρ, e, h, re, rh, f⟩ => ⟨ρ, e, h, re, rh, (finI_bndA f).imp fun vs H1 ⟨ρ1, ws, h1, s1, rh1, r1, f1⟩ => by
    match ws, r1, f1 with
    | [.int j], .cons (.int _) .nil, f1 =>
      have f1' : FinI X.K T W₀ σ ρ1 H1 (match rgB j with | true => rngK j.toNat 0 fun r => .ok (.lst r) e h1 | false => .bad) R := f1
      cases z : rgB j with
      | false => rw [z] at f1'; exact f1'.elim
      | true =>
        rw [z] at f1'
        simp only [rngK_eq] at f1'
        obtain ⟨a1, a2⟩ := rgB_ok z
        exact ⟨j, rfl, a1, a2, f1' ρ1 H1 _ (Stp.refl _ _) rh1 beh_rng⟩⟩
theorem SI.rng2 {tg a b : Expr} {d : D} {p pos : Pos} (hg : Gl X "range") (hm : X.mg "range" = none) (ha : SA T ca X [a, b] d) (hs : starEach [a, b] X.env = [(false, eval a X.env), (false, eval b X.env)]) (hs2 : starEach [b] X.env = [(false, eval b X.env)]) :
    SI T ca X tg (.Call (.Name "range" p) [a, b] [] pos) (mIRng2 d) := fun W₀ t =>
  (pi_range2 hg hm (ha W₀ t) hs hs2).weak fun σ H R ⟨ρ, e, h, re, rh, f⟩ => ⟨ρ, e, h, re, rh, (finI_bndA f).imp fun vs H1 ⟨ρ1, ws, h1, s1, rh1, r1, f1⟩ => by
    match ws, r1, f1 with
    | [.int i, .int j], .cons (.int _) (.cons (.int _) .nil), f1 =>
      have f1' : FinI X.K T W₀ σ ρ1 H1 (match rgB i, rgB j with | true, true => rngK (j - i).toNat i fun r => .ok (.lst r) e h1 | _, _ => .bad) R := f1
      cases z : rgB i with
      | false => rw [z] at f1'; exact f1'.elim
      | true =>
        cases z2 : rgB j with
        | false => rw [z, z2] at f1'; exact f1'.elim
        | true =>
          rw [z, z2] at f1'
          simp only [rngK_eq] at f1'
          obtain ⟨a1, a2⟩ := rgB_ok z
          obtain ⟨b1, b2⟩ := rgB_ok z2
          exact ⟨i, j, rfl, ⟨a1, a2, b1, b2⟩, f1' ρ1 H1 _ (Stp.refl _ _) rh1 beh_rng⟩⟩
/-! ### displays -/
def lenOk (ws : List W) (k : R) : R := match Nat.ble (lenN ws) lim with
  | true => k
  | false => .bad
def mTup (a : D) : D := fun ca e h => bndA (a ca e h) fun ws h1 => lenOk ws (.ok (.tup ws) e h1)
/-- a new list, or one at a place -/
def mkL (m : Bool) (ws : List W) (e : List W) (h : Hpi) : R := match m with
  | false => .ok (.lst ws) e h
  | true => .ok (.loc h.next) e (h.new (.lst ws))
def mLst (m : Bool) (a : D) : D := fun ca e h => bndA (a ca e h) fun ws h1 => lenOk ws (mkL m ws e h1)
theorem lenOk_ok {K : PySem.W.Frag} {W₀ : WX} {σ : L2.St} {ρ : Rho} {H : Hp} {ws : List W} {k : R} {Q : VK} (f : FinE K T W₀ σ ρ H (lenOk ws k) Q) : ws.length ≤ lim ∧ FinE K T W₀ σ ρ H k Q := by
  unfold lenOk at f
  rw [lenN_eq] at f
  cases z : Nat.ble ws.length lim with
  | false => rw [z] at f; exact f.elim
  | true => rw [z] at f; exact ⟨Nat.le_of_ble_eq_true z, f⟩
/-- a new place -/
def Rho.new (ρ : Rho) (p : Addr) : Rho := ⟨ρ.next + 1, fun n => if n = ρ.next then p else ρ.pl n, fun a => ρ.mu a ∨ a = p, fun n hn => by
  by_cases e : n = ρ.next
  · exact .inr (if_pos e)
  · show ρ.mu (if n = ρ.next then p else ρ.pl n) ∨ _
    rw [if_neg e]
    exact .inl (ρ.plmu n (by omega))⟩
theorem Rho.new_at (ρ : Rho) (p : Addr) : (ρ.new p).pl ρ.next = p := if_pos rfl
theorem Rho.new_old (ρ : Rho) (p : Addr) {n : Nat} (h : n < ρ.next) : (ρ.new p).pl n = ρ.pl n := if_neg (Nat.ne_of_lt h)
theorem stp_new (ρ : Rho) {H : Hp} {p : Addr} (o : HO) (np : H p = Option.none) : Stp ρ H (ρ.new p) (upd H p o) :=
  ⟨Nat.le_succ _, fun n h => ρ.new_old p h, fun n h1 h2 => by
    have e : n = ρ.next := by
      have h3 : n < ρ.next + 1 := h2
      omega
    rw [e, ρ.new_at]; exact np, fun a h => .inl h, fun a u e h => h.resolve_right (ne_of_none e np), fun a u e _ _ _ => by rw [upd_ne (ne_of_none e np)]; exact e, fun a u e => ⟨u, by rw [upd_ne (ne_of_none e np)]; exact e⟩, fun T t => t.of fun b u e _ => by rw [upd_ne (ne_of_none e np)]; exact e⟩
theorem relH_new {K : PySem.W.Frag} {ρ : Rho} {H : Hp} {h : Hpi} (r : RelH K T ρ H h) {p : Addr} {o : HO} {ob : Ob} (np : H p = Option.none) (x : RO K T (ρ.new p) (upd H p o) ρ.next ob) : RelH K T (ρ.new p) (upd H p o) (h.new ob) := by
  have st := stp_new ρ o np
  have im := r.imm o np
  have npl : ∀ n, n < ρ.next → ρ.pl n ≠ p := fun n hn e => im.2 (e ▸ ρ.plmu n hn)
  refine ⟨congrArg (· + 1) r.nx, fun i j hi hj e => ?_, fun a ha => ?_, ?_, fun n u e => ?_, st.tb T r.tb⟩
  · have hi' : i < ρ.next + 1 := hi
    have hj' : j < ρ.next + 1 := hj
    by_cases a1 : i < ρ.next
    · by_cases a2 : j < ρ.next
      · rw [ρ.new_old p a1, ρ.new_old p a2] at e; exact r.inj i j a1 a2 e
      · have : j = ρ.next := by omega
        rw [this, ρ.new_at, ρ.new_old p a1] at e; exact absurd e (npl i a1)
    · have e1 : i = ρ.next := by omega
      by_cases a2 : j < ρ.next
      · rw [e1, ρ.new_at, ρ.new_old p a2] at e; exact absurd e.symm (npl j a2)
      · omega
  · rcases ha with ha | ha
    · obtain ⟨u, e, t⟩ := r.on a ha
      exact ⟨u, by rw [upd_ne (ne_of_none e np)]; exact e, t⟩
    · obtain ⟨o1, e1, m1⟩ := x.main
      rw [ρ.new_at] at e1
      rw [ha]
      exact ⟨o1, e1, main_nT m1⟩
  · refine List.pairwise_cons.mpr ⟨fun q hq => ?_, r.srt⟩
    have there : ∀ {l : List (Nat × Ob)} {q : Nat × Ob}, q ∈ l → ∃ u, getO l q.1 = some u := by
      intro l
      induction l with
      | nil => intro q h; cases h
      | cons p r ih =>
        intro q h
        simp only [getO]
        cases e : Nat.beq p.1 q.1 with
        | true => exact ⟨_, rfl⟩
        | false =>
          rcases List.mem_cons.mp h with (z | z)
          · rw [z, Nat.beq_refl] at e; cases e
          · exact ih z
    obtain ⟨u, e⟩ := there hq
    have := (r.ob q.1 u e).1
    have nx := r.nx
    show q.1 < h.next
    omega
  · have e' : (match Nat.beq h.next n with | true => some ob | false => getO h.objs n) = some u := e
    by_cases a : h.next = n
    · rw [a, Nat.beq_refl] at e'
      cases e'
      rw [← a, r.nx]
      exact ⟨Nat.lt_succ_self _, x⟩
    · have ne : Nat.beq h.next n = false := by
        cases q : Nat.beq h.next n with
        | false => rfl
        | true => exact absurd (Nat.eq_of_beq_eq_true q) a
      rw [ne] at e'
      obtain ⟨hn, y⟩ := r.ob n u e'
      refine ⟨Nat.lt_succ_of_lt hn, ?_⟩
      cases u with
      | lst ws => obtain ⟨vs, e1, q⟩ := y; exact ⟨vs, by rw [ρ.new_old p hn, upd_ne (npl n hn)]; exact e1, q.step st⟩
      | dct ks ws => obtain ⟨o', e1, q⟩ := y; exact ⟨o', by rw [ρ.new_old p hn, upd_ne (npl n hn)]; exact e1, q.step st⟩
      | ins c fs =>
        obtain ⟨h2, vs, q, z⟩ := y
        refine ⟨Nat.lt_succ_of_lt h2, vs, ?_, fun i w e1 n1 => ?_⟩
        · rw [ρ.new_old p hn, ρ.new_old p h2]
          rcases q with ⟨q1, q2, q3⟩ | ⟨q1, q2⟩
          · exact .inl ⟨by rw [upd_ne (npl n hn)]; exact q1, by rw [upd_ne (npl _ h2)]; exact q2, q3⟩
          · exact .inr ⟨by rw [upd_ne (npl n hn)]; exact q1, by rw [upd_ne (npl _ h2)]; exact q2⟩
        · obtain ⟨v, e2, q3⟩ := z i w e1 n1
          exact ⟨v, e2, q3.step st⟩
/-- what a new list gives, of either kind -/
theorem mkL_ok {K : PySem.W.Frag} {W₀ : WX} {σ : L2.St} {ρ : Rho} {H : Hp} {m : Bool} {ws e : List W} {h : Hpi} {Q : VK} {vs : List V} (f : FinE K T W₀ σ ρ H (mkL m ws e h) Q) (rh : RelH K T ρ H h) (r : RWs K T ρ H ws vs) {p : Addr} (np : H p = Option.none) : Q (.ref p) (upd H p (.lst vs)) := by
  cases m with
  | false =>
    obtain ⟨a1, a2, a3⟩ := new_lst rh np r
    exact f ρ _ _ a1 a2 a3
  | true =>
    have st := stp_new ρ (.lst vs) np
    have x : RO K T (ρ.new p) (upd H p (.lst vs)) ρ.next (.lst ws) := ⟨vs, by rw [ρ.new_at, upd_same], r.step st⟩
    have rh' := relH_new rh np x
    have q := f (ρ.new p) _ (.ref ((ρ.new p).pl h.next)) st rh' (.loc _ (by show h.next < ρ.next + 1; rw [rh.nx]; exact Nat.lt_succ_self _))
    rw [rh.nx, ρ.new_at] at q
    exact q
theorem SE.tup {es : List Expr} {d : D} {k : Nat} {pos : Pos} (ha : SA T ca X es d) : SE T ca X (.Tuple es k pos) (mTup d) := fun W₀ t =>
  (pe_tup (ha W₀ t)).weak fun σ H Q ⟨ρ, e, h, re, rh, f⟩ => ⟨ρ, e, h, re, rh, (fin_bndA f).imp fun vs H1 ⟨ρ1, ws, h1, s1, rh1, r1, f1⟩ => by
    obtain ⟨hl, f2⟩ := lenOk_ok f1
    refine ⟨by rw [← r1.length]; exact Nat.le_trans hl lim_line, fun p np => ?_⟩
    obtain ⟨a1, a2, a3⟩ := new_tup rh1 np r1
    exact f2 ρ1 _ _ a1 a2 a3⟩
theorem SE.lst {es : List Expr} {d : D} {m : Bool} {pos : Pos} (ha : SA T ca X es d) : SE T ca X (.List es pos) (mLst m d) := fun W₀ t =>
  (pe_lst (ha W₀ t)).weak fun σ H Q ⟨ρ, e, h, re, rh, f⟩ => ⟨ρ, e, h, re, rh, (fin_bndA f).imp fun vs H1 ⟨ρ1, ws, h1, s1, rh1, r1, f1⟩ => by
    obtain ⟨hl, f2⟩ := lenOk_ok f1
    exact ⟨by rw [← r1.length]; exact Nat.le_trans hl lim_line, fun p np => mkL_ok f2 rh1 r1 np⟩⟩
/-- (*a, b) -/
def oSeq (w : W) (k : List W → R) : R := match w with
  | .tup ws => k ws
  | .ktp ws => k ws
  | .lst ws => k ws
  | .scr ws => k ws
  | _ => .bad
def mStar (a r : D) : D := fun ca e h => bnd (a ca e h) fun w h1 => oSeq w fun xs => bndA (r ca e h1) fun ws h2 => appK xs ws fun rs => .ok (.tup rs) e h2
theorem SA.star {e : Expr} {es : List Expr} {da dr : D} {p : Pos} (ha : SE T ca X e da) (hr : SA T ca X es dr) (hs : starEach (.Starred e p :: es) X.env = (true, eval e X.env) :: starEach es X.env) : SA T ca X (.Starred e p :: es) (mStar da dr) := fun W₀ t =>
  (StX.pa_star (ha W₀ t) (hr W₀ t) hs).weak fun σ H Q ⟨ρ, e, h, re, rh, f⟩ => ⟨ρ, e, h, re, rh, (finA_bnd f).imp fun v H1 ⟨ρ1, w, h1, s1, rh1, r1, f1⟩ => by
    have rest : ∀ {a : Addr} {xs : List W} {us : List V}, RWs X.K T ρ1 H1 xs us → FinA X.K T W₀ σ ρ1 H1 (bndA (dr ca e h1) fun ws h2 => appK xs ws fun rs => .ok (.tup rs) e h2) Q → tA X.K T ca W₀ dr σ H1 fun ys H3 => Q (us ++ ys) H3 := fun {a xs us} la g =>
      ⟨ρ1, e, h1, re.step s1, rh1, (finA_bndA g).imp fun ys H2 ⟨ρ2, ws, h2, s2, rh2, r2, f2⟩ => by
        simp only [appK_eq] at f2
        exact f2 ρ2 H2 _ (Stp.refl _ _) rh2 ((la.step s2).append r2)⟩
    cases w with
    | tup xs => cases r1 with
      | tup ha la => exact ⟨_, _, rfl, .inl ha.sq, rest (a := 0) la f1⟩
    | ktp xs => cases r1 with
      | ktp ha la => exact ⟨_, _, rfl, .inl ha.sq, rest (a := 0) la f1⟩
    | lst xs => cases r1 with
      | lst ha la => exact ⟨_, _, rfl, .inr ha.sq, rest (a := 0) la f1⟩
    | scr xs => cases r1 with
      | scr ha la => exact ⟨_, _, rfl, .inr ha.sq, rest (a := 0) la f1⟩
    | _ => exact f1.elim⟩
end
end
end VA
set_option Elab.async false
set_option linter.all false
set_option maxRecDepth 100000
set_option maxHeartbeats 8000000
/-! V9: list comprehensions. -/
namespace VA
noncomputable section
open L2 PySem PySem.Spec PyProof.Rows
/-! ### a thing that is being made -/
def Rho.hd (ρ : Rho) (D : Addr) : Rho := ⟨ρ.next, ρ.pl, fun a => ρ.mu a ∨ a = D, fun n hn => .inl (ρ.plmu n hn)⟩
def Rho.un (ρ : Rho) (D : Addr) (np : ∀ n, n < ρ.next → ρ.pl n ≠ D) : Rho := ⟨ρ.next, ρ.pl, fun a => ρ.mu a ∧ a ≠ D, fun n hn => ⟨ρ.plmu n hn, np n hn⟩⟩
def Rho.add (ρ : Rho) (D : Addr) (m : ρ.mu D) : Rho := ⟨ρ.next + 1, fun n => if n = ρ.next then D else ρ.pl n, ρ.mu, fun n hn => by
  by_cases e : n = ρ.next
  · show ρ.mu (if n = ρ.next then D else ρ.pl n)
    rw [if_pos e]; exact m
  · show ρ.mu (if n = ρ.next then D else ρ.pl n)
    rw [if_neg e]
    exact ρ.plmu n (by omega)⟩
section
variable {K : PySem.W.Frag} {T : Tab} {ρ ρ' : Rho} {H H' : Hp} {D : Addr} {h : Hpi}
theorem stp_hd (ρ : Rho) (o : HO) (nD : H D = Option.none) : Stp ρ H (ρ.hd D) (upd H D o) :=
  ⟨Nat.le_refl _, fun _ _ => rfl, fun n h1 h2 => absurd h2 (by show ¬ n < ρ.next; omega), fun _ h => .inl h, fun a u e h => h.resolve_right (ne_of_none e nD),
   fun a u e _ _ _ => by rw [upd_ne (ne_of_none e nD)]; exact e, fun a u e => ⟨u, by rw [upd_ne (ne_of_none e nD)]; exact e⟩, fun T t => t.of fun b u e _ => by rw [upd_ne (ne_of_none e nD)]; exact e⟩
theorem RO.rho (e : ρ.next ≤ ρ'.next) (p : ∀ n, n < ρ.next → ρ'.pl n = ρ.pl n) (rw' : ∀ w v, RW K T ρ H w v → RW K T ρ' H w v) (rws : ∀ w v, RWs K T ρ H w v → RWs K T ρ' H w v) {n : Nat} {u : Ob} (hn : n < ρ.next) (x : RO K T ρ H n u) : RO K T ρ' H n u := by
  cases u with
  | lst ws => obtain ⟨vs, e1, q⟩ := x; exact ⟨vs, by rw [p n hn]; exact e1, rws _ _ q⟩
  | dct ks ws =>
    obtain ⟨o', e1, q⟩ := x
    refine ⟨o', by rw [p n hn]; exact e1, ?_⟩
    rcases q with ⟨a, b, c, d, f, g⟩ | ⟨a, b, c, d, f, g⟩
    · exact .inl ⟨a, b, c, d, f, rws _ _ g⟩
    · exact .inr ⟨a, b, c, d, f, rws _ _ g⟩
  | ins c fs =>
    obtain ⟨h2, vs, q, z⟩ := x
    refine ⟨Nat.lt_of_lt_of_le h2 e, vs, by rw [p n hn, p _ h2]; exact q, fun i w e1 n1 => ?_⟩
    obtain ⟨v, e2, q3⟩ := z i w e1 n1
    exact ⟨v, e2, rw' _ _ q3⟩
theorem relH_hd (r : RelH K T ρ H h) (o : HO) (ht : nT o = true) (nD : H D = Option.none) : RelH K T (ρ.hd D) (upd H D o) h := by
  obtain ⟨r1, nm⟩ := r.imm o nD
  refine ⟨r1.nx, r1.inj, fun a ha => ?_, r1.srt, fun n u e => ?_, r1.tb⟩
  · rcases ha with ha | ha
    · exact r1.on a ha
    · exact ⟨o, by rw [ha, upd_same], ht⟩
  · obtain ⟨hn, x⟩ := r.ob n u e
    refine ⟨hn, ?_⟩
    have npl : ∀ m, m < ρ.next → ρ.pl m ≠ D := fun m hm z => nm (z ▸ ρ.plmu m hm)
    have st := stp_hd (D := D) ρ o nD
    cases u with
    | lst ws => obtain ⟨vs, e1, q⟩ := x; exact ⟨vs, by show upd H D o (ρ.pl n) = _; rw [upd_ne (npl n hn)]; exact e1, q.step st⟩
    | dct ks ws => obtain ⟨o', e1, q⟩ := x; exact ⟨o', by show upd H D o (ρ.pl n) = _; rw [upd_ne (npl n hn)]; exact e1, q.step st⟩
    | ins c fs =>
      obtain ⟨h2, vs, q, z⟩ := x
      refine ⟨h2, vs, ?_, fun i w e1 n1 => ?_⟩
      · show InsAt (upd H D o) (ρ.pl n) _ (ρ.pl (n + 1)) vs
        rcases q with ⟨q1, q2, q3⟩ | ⟨q1, q2⟩
        · exact .inl ⟨by rw [upd_ne (npl n hn)]; exact q1, by rw [upd_ne (npl _ h2)]; exact q2, q3⟩
        · exact .inr ⟨by rw [upd_ne (npl n hn)]; exact q1, by rw [upd_ne (npl _ h2)]; exact q2⟩
      · obtain ⟨v, e2, q3⟩ := z i w e1 n1
        exact ⟨v, e2, q3.step st⟩
/-- the thing at D is changed: D no place, to be changed -/
theorem stpX_upd {o' o : HO} (m : ρ.mu D) (e : H D = some o') (t : nT o' = true := by first | rfl | assumption) : StpX (fun a => a = D) ρ H ρ (upd H D o) :=
  ⟨Nat.le_refl _, fun _ _ => rfl, fun n h1 h2 => absurd h2 (by omega), fun _ h => h, fun _ _ _ h => h, fun a u q p _ _ => by rw [upd_ne p]; exact q, fun a u q => by
    by_cases z : a = D
    · exact ⟨o, by rw [z, upd_same]⟩
    · exact ⟨u, by rw [upd_ne z]; exact q⟩, fun T tb => tb.of fun b u q c => by
    rw [upd_ne fun z => ?_]
    · exact q
    · rw [z, e] at q
      cases q
      exact nT_isC t b c⟩
theorem relH_upd {o : HO} (ht : nT o = true) (r : RelH K T ρ H h) (m : ρ.mu D) (np : ∀ n, n < ρ.next → ρ.pl n ≠ D) : RelH K T ρ (upd H D o) h := by
  obtain ⟨o', e, tt⟩ := r.on D m
  have st := stpX_upd (o := o) m e tt
  have hP : ∀ a, (fun a => a = D) a → ρ.mu a := fun a z => by rw [show a = D from z]; exact m
  refine ⟨r.nx, r.inj, fun a ha => ?_, r.srt, fun n u e => ?_, st.tb T r.tb⟩
  · obtain ⟨q, e, t⟩ := r.on a ha
    by_cases z : a = D
    · exact ⟨o, by rw [z, upd_same], ht⟩
    · exact ⟨q, by rw [upd_ne z]; exact e, t⟩
  · obtain ⟨hn, x⟩ := r.ob n u e
    refine ⟨hn, ?_⟩
    cases u with
    | lst ws => obtain ⟨vs, e1, q⟩ := x; exact ⟨vs, by rw [upd_ne (np n hn)]; exact e1, RWs.stepX st hP q⟩
    | dct ks ws =>
      obtain ⟨o', e1, q⟩ := x
      refine ⟨o', by rw [upd_ne (np n hn)]; exact e1, ?_⟩
      rcases q with ⟨a, b, c, d, f, g⟩ | ⟨a, b, c, d, f, g⟩
      · exact .inl ⟨a, b, c, d, f, RWs.stepX st hP g⟩
      · exact .inr ⟨a, b, c, d, f, RWs.stepX st hP g⟩
    | ins c fs =>
      obtain ⟨h2, vs, q, z⟩ := x
      refine ⟨h2, vs, ?_, fun i w e1 n1 => ?_⟩
      · rcases q with ⟨q1, q2, q3⟩ | ⟨q1, q2⟩
        · exact .inl ⟨by rw [upd_ne (np n hn)]; exact q1, by rw [upd_ne (np _ h2)]; exact q2, q3⟩
        · exact .inr ⟨by rw [upd_ne (np n hn)]; exact q1, by rw [upd_ne (np _ h2)]; exact q2⟩
      · obtain ⟨v, e2, q3⟩ := z i w e1 n1
        exact ⟨v, e2, RW.stepX st hP q3⟩
/-- seen from ahead of the thing's making -/
theorem stp_over {ρ1 : Rho} {H1 : Hp} (s : Stp ρ1 H1 ρ H) (x : StpX (fun a => a = D) ρ H ρ' H') (nD : H1 D = Option.none) : Stp ρ1 H1 ρ' H' := by
  have s' : StpX (fun a => a = D) ρ1 H1 ρ H := s.imp fun _ _ _ h => h.elim
  exact (s'.trans x).imp fun a o e h => by rw [show a = D from h, nD] at e; cases e
theorem not_place {ρ1 : Rho} {H1 : Hp} (s : Stp ρ1 H1 (ρ1.hd D) H) (x : StpX (fun a => a = D) (ρ1.hd D) H ρ' H') (r : RelH K T ρ1 H1 h) (nD : H1 D = Option.none) {o : HO} (e : H D = some o) : ∀ n, n < ρ'.next → ρ'.pl n ≠ D := fun n hn z => by
  by_cases lt : n < ρ1.next
  · have q := (x.pl n lt).symm.trans z
    have m := ρ1.plmu n lt
    obtain ⟨u, e1, _⟩ := r.on _ m
    have q' : ρ1.pl n = D := q
    rw [q', nD] at e1
    cases e1
  · have q := x.fresh n (by show ρ1.next ≤ n; omega) hn
    rw [z, e] at q
    cases q
/-- it is made: from now on it stays -/
theorem made {ρ1 : Rho} {H1 : Hp} (s : Stp ρ1 H1 ρ H) (r : RelH K T ρ H h) (np : ∀ n, n < ρ.next → ρ.pl n ≠ D) (nD : H1 D = Option.none) (r1 : ∀ a, ρ1.mu a → ∃ o, H1 a = some o ∧ nT o = true) : Stp ρ1 H1 (ρ.un D np) H ∧ RelH K T (ρ.un D np) H h := by
  refine ⟨⟨s.le, s.pl, s.fresh, fun a m => ⟨s.up a m, fun z => ?_⟩, fun a o e m => s.dn a o e m.1, s.hold, s.live, s.tb⟩, ⟨r.nx, r.inj, fun a m => r.on a m.1, r.srt, fun n u e => ?_, r.tb⟩⟩
  · obtain ⟨o, e, _⟩ := r1 a m
    rw [z, nD] at e; cases e
  · obtain ⟨hn, x⟩ := r.ob n u e
    exact ⟨hn, RO.rho (ρ := ρ) (ρ' := ρ.un D np) (Nat.le_refl _) (fun _ _ => rfl) (fun w v q => RW.sub (ρ := ρ) (ρ' := ρ.un D np) (Nat.le_refl _) (fun _ _ => rfl) (fun a (m : ρ.mu a ∧ a ≠ D) => m.1) q) (fun w v q => RWs.sub (ρ := ρ) (ρ' := ρ.un D np) (Nat.le_refl _) (fun _ _ => rfl) (fun a (m : ρ.mu a ∧ a ≠ D) => m.1) q) hn x⟩
/-- it is made, at a place -/
theorem stp_add {ρ1 : Rho} {H1 : Hp} (s : Stp ρ1 H1 ρ H) (m : ρ.mu D) (nD : H1 D = Option.none) : Stp ρ1 H1 (ρ.add D m) H := by
  refine ⟨Nat.le_succ_of_le s.le, fun n hn => ?_, fun n h1 h2 => ?_, s.up, s.dn, s.hold, s.live, s.tb⟩
  · show (if n = ρ.next then D else ρ.pl n) = _
    rw [if_neg (by have := s.le; omega)]; exact s.pl n hn
  · show H1 (if n = ρ.next then D else ρ.pl n) = _
    have h2' : n < ρ.next + 1 := h2
    by_cases e : n = ρ.next
    · rw [if_pos e]; exact nD
    · rw [if_neg e]; exact s.fresh n h1 (by omega)
theorem add_old {m : ρ.mu D} {n : Nat} (hn : n < ρ.next) : (ρ.add D m).pl n = ρ.pl n := if_neg (by omega)
theorem add_new {m : ρ.mu D} : (ρ.add D m).pl ρ.next = D := if_pos rfl
theorem RW.add (m : ρ.mu D) {w : W} {v : V} (q : RW K T ρ H w v) : RW K T (ρ.add D m) H w v := RW.sub (ρ' := ρ.add D m) (Nat.le_succ _) (fun _ hn => add_old hn) (fun _ h => h) q
theorem RWs.add (m : ρ.mu D) {w : List W} {v : List V} (q : RWs K T ρ H w v) : RWs K T (ρ.add D m) H w v := RWs.sub (ρ' := ρ.add D m) (Nat.le_succ _) (fun _ hn => add_old hn) (fun _ h => h) q
theorem srt_new {l : List (Nat × Ob)} {k : Nat} {ob : Ob} (h : l.Pairwise fun p q => q.1 < p.1) (r : ∀ n u, getO l n = some u → n < k) : ((k, ob) :: l).Pairwise fun p q => q.1 < p.1 := by
  refine List.pairwise_cons.mpr ⟨fun q hq => ?_, h⟩
  have there : ∀ {l : List (Nat × Ob)} {q : Nat × Ob}, q ∈ l → ∃ u, getO l q.1 = some u := by
    intro l
    induction l with
    | nil => intro q h; cases h
    | cons p r ih =>
      intro q h
      simp only [getO]
      cases e : Nat.beq p.1 q.1 with
      | true => exact ⟨_, rfl⟩
      | false =>
        rcases List.mem_cons.mp h with (z | z)
        · rw [z, Nat.beq_refl] at e; cases e
        · exact ih z
  obtain ⟨u, e⟩ := there hq
  exact r q.1 u e
theorem getO_new {l : List (Nat × Ob)} {k n : Nat} {ob u : Ob} (e : getO ((k, ob) :: l) n = some u) : (n = k ∧ u = ob) ∨ (n ≠ k ∧ getO l n = some u) := by
  have e' : (match Nat.beq k n with | true => some ob | false => getO l n) = some u := e
  by_cases a : k = n
  · rw [a, Nat.beq_refl] at e'
    cases e'
    exact .inl ⟨a.symm, rfl⟩
  · have ne : Nat.beq k n = false := by
      cases q : Nat.beq k n with
      | false => rfl
      | true => exact absurd (Nat.eq_of_beq_eq_true q) a
    rw [ne] at e'
    exact .inr ⟨fun z => a z.symm, e'⟩
theorem relH_add (r : RelH K T ρ H h) (m : ρ.mu D) (np : ∀ n, n < ρ.next → ρ.pl n ≠ D) {ob : Ob} (x : RO K T (ρ.add D m) H ρ.next ob) : RelH K T (ρ.add D m) H (h.new ob) := by
  refine ⟨congrArg (· + 1) r.nx, fun i j hi hj e => ?_, r.on, srt_new r.srt fun n u e => by rw [r.nx]; exact (r.ob n u e).1, fun n u e => ?_, r.tb⟩
  · have hi' : i < ρ.next + 1 := hi
    have hj' : j < ρ.next + 1 := hj
    by_cases a1 : i < ρ.next
    · by_cases a2 : j < ρ.next
      · rw [add_old a1, add_old a2] at e; exact r.inj i j a1 a2 e
      · have e2 : j = ρ.next := by omega
        rw [e2, add_new, add_old a1] at e; exact absurd e (np i a1)
    · have e1 : i = ρ.next := by omega
      by_cases a2 : j < ρ.next
      · rw [e1, add_new, add_old a2] at e; exact absurd e.symm (np j a2)
      · omega
  · rcases getO_new e with ⟨a, b⟩ | ⟨a, b⟩
    · rw [a, b, r.nx]
      exact ⟨Nat.lt_succ_self _, x⟩
    · obtain ⟨hn, y⟩ := r.ob n u b
      exact ⟨Nat.lt_succ_of_lt hn, RO.rho (Nat.le_succ _) (fun _ hn => add_old hn) (fun w v q => RW.add m q) (fun w v q => RWs.add m q) hn y⟩
end
/-! ### the block's results: no exception leaves it -/
def bndC (r : R) (k : W → Hpi → R) : R := R.rec (motive := fun _ => R) (fun w _ h => k w h) (fun _ _ => .bad) (fun _ _ => .bad) (fun _ _ => .bad) (fun _ _ _ _ => .bad) .bad (fun _ _ a b => .or a b) r
def bndTC (r : R) (k : Bool → Hpi → R) : R := R.rec (motive := fun _ => R) (fun w _ h => match w with
    | .bl b => sqB b fun b => k b h
    | .anyb => .or (k true h) (k false h)
    | _ => .bad) (fun _ _ => .bad) (fun _ _ => .bad) (fun _ _ => .bad) (fun _ _ _ _ => .bad) .bad (fun _ _ a b => .or a b) r
def bndI (r : R) (k : List W → Hpi → R) : R := R.rec (motive := fun _ => R) (fun w _ h => match w with
    | .lst ws => k ws h
    | _ => .bad) (fun _ _ => .bad) (fun _ _ => .bad) (fun _ _ => .bad) (fun c fs e h => .exc c fs e h) .bad (fun _ _ a b => .or a b) r
def bndIC (r : R) (k : List W → Hpi → R) : R := R.rec (motive := fun _ => R) (fun w _ h => match w with
    | .lst ws => k ws h
    | _ => .bad) (fun _ _ => .bad) (fun _ _ => .bad) (fun _ _ => .bad) (fun _ _ _ _ => .bad) .bad (fun _ _ a b => .or a b) r
def wipeK : List Nat → List W → (List W → R) → R
  | [], e, k => k e
  | v :: vs, e, k => wipeK vs e fun e' => setK e' v .nul k
theorem wipeK_eq : ∀ (vs : List Nat) (e : List W) (k : List W → R), wipeK vs e k = k (wipeW e vs)
  | [], _, _ => rfl
  | v :: vs, e, k => by simp only [wipeK, wipeK_eq vs, setK_eq]; rfl
def revK : List W → List W → (List W → R) → R
  | [], ys, k => k ys
  | x :: xs, ys, k => revK xs (x :: ys) k
theorem revK_eq : ∀ (xs ys : List W) (k : List W → R), revK xs ys k = k (xs.reverse ++ ys)
  | [], _, _ => rfl
  | x :: xs, ys, k => by simp only [revK, revK_eq xs, List.reverse_cons, List.append_assoc]; rfl
def lcL (g : Tg) (ts el : D) (ca : CallT) : List W → List W → Hpi → List W → (List W → Hpi → R) → R
  | [], _, h, acc, k => k acc h
  | w :: ws, e, h, acc, k => bindG g w e fun e1 => bndTC (ts ca e1 h) fun b h1 => match b with
    | false => lcL g ts el ca ws e h1 acc k
    | true => bndC (el ca e1 h1) fun v h2 => lcL g ts el ca ws e h2 (v :: acc) k
def mLc (m : Bool) (own : List Nat) (g : Tg) (it ts el : D) : D := fun ca e h => bndI (it ca e h) fun ws h1 => lenOk ws (wipeK own e fun e0 => lcL g ts el ca ws e0 h1 [] fun acc h2 => revK acc [] fun rs => mkL m rs e h2)
abbrev noW : WX := fun _ _ _ _ => False
section
variable {K : PySem.W.Frag} {T : Tab} {W₀ : WX} {σ σ' : L2.St} {ρ ρ' ρ1 : Rho} {H H' H1 : Hp} {r : R} {Q : VK}
theorem fin_bndI {k : List W → Hpi → R} (f : FinE K T W₀ σ ρ H (bndI r k) Q) : FinI K T W₀ σ ρ H r fun J H1 => ∃ ρ1 ws h1, Stp ρ H ρ1 H1 ∧ RelH K T ρ1 H1 h1 ∧ Beh K T ρ1 H1 J ws ∧ FinE K T W₀ σ ρ1 H1 (k ws h1) Q := by
  induction r with
  | ok w e' hp =>
    cases w with
    | lst ws => exact fun ρ' H' v a b c => ⟨ρ', ws, hp, a, b, c, FinE.step a f⟩
    | _ => exact f.elim
  | exc c fs e' hp => exact f
  | or x y ix iy => exact ⟨ix f.1, iy f.2⟩
  | _ => exact f.elim
/-- parts in a block; what is wanted at the end is told of an earlier world -/
theorem fin_bndC {k : W → Hpi → R} (f : FinE K T W₀ σ ρ1 H1 (bndC r k) Q) : FinE K T noW σ' ρ H r fun v H' => ∃ ρ' w h1, Stp ρ H ρ' H' ∧ RelH K T ρ' H' h1 ∧ RW K T ρ' H' w v ∧ FinE K T W₀ σ ρ1 H1 (k w h1) Q := by
  induction r with
  | ok w e hp => exact fun ρ' H' v a b c => ⟨ρ', w, hp, a, b, c, f⟩
  | or x y ix iy => exact ⟨ix f.1, iy f.2⟩
  | _ => exact f.elim
theorem fin_bndTC {k : Bool → Hpi → R} (f : FinE K T W₀ σ ρ1 H1 (bndTC r k) Q) : FinT K T noW σ' ρ H r fun b H' => ∃ ρ' h1, Stp ρ H ρ' H' ∧ RelH K T ρ' H' h1 ∧ FinE K T W₀ σ ρ1 H1 (k b h1) Q := by
  induction r with
  | ok w e hp =>
    cases w with
    | bl b =>
      have f' : FinE K T W₀ σ ρ1 H1 (sqB b fun b => k b hp) Q := f
      rw [sqB_eq] at f'
      exact fun ρ' H' a b => ⟨ρ', hp, a, b, f'⟩
    | anyb =>
      intro b ρ' H' a c
      cases b with
      | true => exact ⟨ρ', hp, a, c, f.1⟩
      | false => exact ⟨ρ', hp, a, c, f.2⟩
    | _ => exact f.elim
  | or x y ix iy => exact ⟨ix f.1, iy f.2⟩
  | _ => exact f.elim
theorem fin_bndIC {k : List W → Hpi → R} (f : FinE K T W₀ σ ρ1 H1 (bndIC r k) Q) : FinI K T noW σ' ρ H r fun J H' => ∃ ρ' ws h1, Stp ρ H ρ' H' ∧ RelH K T ρ' H' h1 ∧ Beh K T ρ' H' J ws ∧ FinE K T W₀ σ ρ1 H1 (k ws h1) Q := by
  induction r with
  | ok w e hp =>
    cases w with
    | lst ws => exact fun ρ' H' v a b c => ⟨ρ', ws, hp, a, b, c, f⟩
    | _ => exact f.elim
  | or x y ix iy => exact ⟨ix f.1, iy f.2⟩
  | _ => exact f.elim
theorem fin_setsC {k : List W → R} : ∀ {is : List Nat} {ws e : List W} {σ' : L2.St} {vs : List V}, RWs K T ρ H ws vs → REnv K T ρ H e σ' → FinE K T W₀ σ ρ1 H1 (setsK is ws e k) Q → vs.length = is.length ∧ ∃ e', REnv K T ρ H e' (setsS is vs σ') ∧ FinE K T W₀ σ ρ1 H1 (k e') Q
  | [], [], e, σ, _, .nil, re, f => ⟨rfl, e, re, f⟩
  | i :: is, w :: ws, e, σ', v :: vs, .cons r t, re, f => by
    have f' : FinE K T W₀ σ ρ1 H1 (setK e i w fun e' => setsK is ws e' k) Q := f
    rw [setK_eq] at f'
    obtain ⟨a, b⟩ := fin_setsC t (re.set i r) f'
    exact ⟨congrArg (· + 1) a, b⟩
  | [], w :: ws, e, σ, _, _, _, f => f.elim
  | i :: is, [], e, σ, _, _, _, f => f.elim
theorem wipe_set {σ : L2.St} {i : Nat} {x : Option V} : ∀ {vs : List Nat}, i ∈ vs → wipe (σ.set i x) vs = wipe σ vs
  | [], h => by cases h
  | v :: vs, h => by
    unfold wipe
    by_cases e : i ∈ vs
    · rw [wipe_set e]
    · have ev : i = v := (List.mem_cons.mp h).resolve_right e
      subst ev
      have key : ∀ {us : List Nat}, i ∉ us → wipe (σ.set i x) us = (wipe σ us).set i x := by
        intro us
        induction us with
        | nil => intro _; rfl
        | cons u us ih =>
          intro h
          have h1 : i ≠ u := fun e => h (by rw [e]; exact List.mem_cons_self)
          unfold wipe
          rw [ih fun m => h (List.mem_cons_of_mem _ m), List.set_comm _ _ h1]
      rw [key e, List.set_set]
theorem wipe_sets {vs : List Nat} : ∀ {is : List Nat} {xs : List V} {σ : L2.St}, (∀ i ∈ is, i ∈ vs) → wipe (setsS is xs σ) vs = wipe σ vs
  | [], _, _, _ => by unfold setsS; rfl
  | i :: is, [], σ, _ => by unfold setsS; rfl
  | i :: is, x :: xs, σ, h => by
    unfold setsS
    rw [wipe_sets fun j hj => h j (List.mem_cons_of_mem _ hj), wipe_set (h i List.mem_cons_self)]
theorem fin_bindC {k : List W → R} {g : Tg} {w : W} {v : V} {e : List W} {vs : List Nat} {Z : L2.St → Hp → Prop} (hg : ∀ i ∈ tgs g, i ∈ vs) (rw' : RW K T ρ H w v) (re : REnv K T ρ H e σ') (f : FinE K T W₀ σ ρ1 H1 (bindG g w e k) Q)
    (q : ∀ e' σ2, wipe σ2 vs = wipe σ' vs → REnv K T ρ H e' σ2 → FinE K T W₀ σ ρ1 H1 (k e') Q → Z σ2 H) : tG K g v σ' H Z := by
  cases g with
  | nm i =>
    have f' : FinE K T W₀ σ ρ1 H1 (setK e i w k) Q := f
    rw [setK_eq] at f'
    exact q _ _ (wipe_set (hg i List.mem_cons_self)) (re.set i rw') f'
  | tp is =>
    cases w with
    | tup ws =>
      cases rw' with
      | tup ha la =>
        obtain ⟨hl, e', re', f'⟩ := fin_setsC la re f
        exact ⟨_, _, rfl, ha.sq, hl, hl, q e' _ (wipe_sets hg) re' f'⟩
    | _ => exact f.elim
theorem wipe_wipe {σ : L2.St} (vs : List Nat) : wipe (wipe σ vs) vs = wipe σ vs := by
  have key : ∀ us : List Nat, (∀ i ∈ us, i ∈ vs) → wipe (wipe σ us) vs = wipe σ vs := by
    intro us
    induction us with
    | nil => intro _; rfl
    | cons u us ih =>
      intro h
      show wipe ((wipe σ us).set u _) vs = _
      rw [wipe_set (h u List.mem_cons_self)]
      exact ih fun i hi => h i (List.mem_cons_of_mem _ hi)
  exact key vs fun _ h => h
end
/-- a clause's tests -/
def STs (T : Tab) (ca : CallT) (X : Cx) (ifs : List Expr) (d : D) : Prop := ∀ W₀, Takes X W₀ → PTs X ifs (tT X.K T ca W₀ d)
theorem _root_.L2.PTs.weak {X : Cx} {e : List Expr} {t t' : TT} (h : PTs X e t) (i : ∀ σ H Q, t' σ H Q → t σ H Q) : PTs X e t' := ⟨fun pins s σ H Q I q => h.run pins s σ H Q I (i _ _ _ q)⟩
theorem STs.nil {X : Cx} {T : Tab} {ca : CallT} : STs T ca X [] (mC (.bl true)) := fun W₀ _ => pts_nil.weak fun σ H Q ⟨ρ, e, h, re, rh, f⟩ => f ρ H (Stp.refl _ _) rh
theorem STs.one {X : Cx} {T : Tab} {ca : CallT} {c : Expr} {d : D} (h : ST T ca X c d) : STs T ca X [c] d := fun W₀ t => pts_one (h W₀ t)
section
variable {X : Cx} {T : Tab} {ca : CallT}
abbrev BlkC (X : Cx) (scope : Scope) (P : Cx → Prop) : Prop := ∀ (s : Shared) (H : Hp) (C : Addr) (cl : List (Str × Addr)) (fp : List Addr), P (X.blk s H scope (compEnvC scope cl C X.env) fp)
theorem t_lc {m : Bool} {own : List Nat} {g : Tg} {di dt de : D} {W₀ : WX} {σ : L2.St} {H : Hp} {Q : VK} (hg : ∀ i ∈ tgs g, i ∈ own) (h : tE X.K T ca W₀ (mLc m own g di dt de) σ H Q) :
    tLc (tI X.K T ca W₀ di) (tG X.K g) (tT X.K T ca noW dt) (tE X.K T ca noW de) own σ H Q := by
  obtain ⟨ρ, e, h, re, rh, f⟩ := h
  refine ⟨ρ, e, h, re, rh, (fin_bndI f).imp ?_⟩
  rintro J H1 ⟨ρ1, ws, h1, s1, rh1, bh, f1⟩ D nD
  obtain ⟨hlen, f2⟩ := lenOk_ok f1
  rw [wipeK_eq] at f2
  have re1 := re.step s1
  have sD := stp_hd (D := D) ρ1 (.lst []) nD
  have mD : ∀ a, (fun a => a = D) a → (ρ1.hd D).mu a := fun a z => .inr z
  refine ⟨fun i m' H => m' = ws.length - i ∧ i ≤ ws.length ∧ ∃ ρ h accW accV, StpX (fun a => a = D) (ρ1.hd D) (upd H1 D (.lst [])) ρ H ∧ RelH X.K T ρ H h ∧ H D = some (.lst accV) ∧ accV.length ≤ i ∧ RWs X.K T ρ H accW.reverse accV ∧
    FinE X.K T W₀ σ ρ1 H1 (lcL g dt de ca (ws.drop i) (wipeW e own) h accW fun acc h2 => revK acc [] fun rs => mkL m rs e h2) Q,
    ⟨ws.length, by simp, Nat.zero_le _, ρ1.hd D, h1, [], [], StpX.refl _ _ _, relH_hd rh1 _ rfl nD, upd_same, Nat.zero_le _, .nil, f2⟩, ?_⟩
  rintro i m' H ⟨rfl, hi, ρ2, h2, accW, accV, x2, rh2, hD, hal, ra, f3⟩
  have np := not_place sD x2 rh1 nD upd_same
  have s12 : Stp ρ1 H1 ρ2 H := stp_over sD x2 nD
  have mu2 : ρ2.mu D := x2.up D (.inr rfl)
  by_cases hlt : i < ws.length
  · have ed : ws.drop i = ws[i] :: ws.drop (i + 1) := List.drop_eq_getElem_cons hlt
    rw [ed] at f3
    refine .inr ⟨bh.go i ρ2 H hlt s12.m0, fun H' => ∃ ρ h accW accV, StpX (fun a => a = D) (ρ1.hd D) (upd H1 D (.lst [])) ρ H' ∧ RelH X.K T ρ H' h ∧ H' D = some (.lst accV) ∧ accV.length ≤ i + 1 ∧ RWs X.K T ρ H' accW.reverse accV ∧
      FinE X.K T W₀ σ ρ1 H1 (lcL g dt de ca (ws.drop (i + 1)) (wipeW e own) h accW fun acc h2 => revK acc [] fun rs => mkL m rs e h2) Q, fun H' z => ⟨ws.length - (i + 1), by omega, rfl, hlt, z⟩, fun x H' y => ?_⟩
    obtain ⟨s3, rh3, r3⟩ := bh.yld i ws[i] ρ2 H h2 x H' (by simp [hlt]) s12.m0 rh2 y
    have any : ∀ {ρ' : Rho} {H'' : Hp}, Stp ρ2 H ρ' H'' → StpX (fun a => a = D) (ρ1.hd D) (upd H1 D (.lst [])) ρ' H'' ∧ H'' D = some (.lst accV) ∧ RWs X.K T ρ' H'' accW.reverse accV := fun {ρ' H''} s =>
      ⟨x2.trans (s.imp fun _ _ _ h => h.elim), s.hld _ _ hD (fun h => h) np, ra.step s⟩
    refine fin_bindC (vs := own) hg r3 (re1.step (s12.trans s3) |>.wipe own) f3 fun e' σ2 hw re' f4 => ⟨hw.trans (wipe_wipe own), ρ2, e', h2, re', rh3, (fin_bndTC f4).imp ?_⟩
    rintro b H4 ⟨ρ4, h4, s4, rh4, f5⟩
    cases b with
    | false =>
      obtain ⟨a1, a2, a3⟩ := any (s3.trans s4)
      rw [if_neg (by decide)]
      exact ⟨ρ4, h4, accW, accV, a1, rh4, a2, by omega, a3, f5⟩
    | true =>
      rw [if_pos rfl]
      refine ⟨ρ4, e', h4, re'.step s4, rh4, (fin_bndC f5).imp ?_⟩
      rintro v H5 ⟨ρ5, w5, h5, s5, rh5, r5, f6⟩
      obtain ⟨a1, a2, a3⟩ := any ((s3.trans s4).trans s5)
      have np5 := not_place sD a1 rh1 nD upd_same
      have mu5 : ρ5.mu D := a1.up D (.inr rfl)
      have xu : StpX (fun a => a = D) ρ5 H5 ρ5 (upd H5 D (.lst (accV ++ [v]))) := stpX_upd mu5 a2
      have hP : ∀ a, (fun a => a = D) a → ρ5.mu a := fun a z => by rw [show a = D from z]; exact mu5
      refine ⟨accV, a2, Nat.lt_of_le_of_lt (Nat.le_trans hal (Nat.le_trans hi hlen)) (by rw [sizeLine_eq]; decide), ρ5, h5, w5 :: accW, accV ++ [v], a1.trans xu, relH_upd rfl rh5 mu5 np5, upd_same, by rw [List.length_append, List.length_singleton]; omega, ?_, f6⟩
      rw [List.reverse_cons]
      exact (RWs.stepX xu hP a3).append (.one (RW.stepX xu hP r5))
  · have ei : i = ws.length := by omega
    subst ei
    rw [List.drop_length] at f3
    refine .inl ⟨bh.stop ρ2 H s12.m0, ?_⟩
    have f4 : FinE X.K T W₀ σ ρ1 H1 (revK accW [] fun rs => mkL m rs e h2) Q := f3
    rw [revK_eq, List.append_nil] at f4
    cases m with
    | false =>
      obtain ⟨s5, rh5⟩ := made s12 rh2 np nD rh1.on
      exact f4 _ H _ s5 rh5 (.lst ⟨hD, fun z => z.2 rfl⟩ (RWs.sub (ρ := ρ2) (ρ' := ρ2.un D np) (Nat.le_refl _) (fun _ _ => rfl) (fun a (m : ρ2.mu a ∧ a ≠ D) => m.1) ra))
    | true =>
      have rh5 := relH_add rh2 mu2 np (ob := .lst accW.reverse) ⟨accV, by rw [add_new]; exact hD, ra.add mu2⟩
      have q := f4 _ H (.ref ((ρ2.add D mu2).pl h2.next)) (stp_add s12 mu2 nD) rh5 (.loc _ (by show h2.next < ρ2.next + 1; rw [rh2.nx]; exact Nat.lt_succ_self _))
      rw [rh2.nx, add_new] at q
      exact q
theorem noTk {X : Cx} : Takes X noW := fun _ _ x => by
  have ⟨_, _, _, _, _, _, _, _, _, _, _, _, _, _, _, _, never⟩ := x
  exact never.elim
theorem SE.lc {m : Bool} {elt tg it : Expr} {ifs : List Expr} {scope : Scope} {own : List (Str × Nat)} {pos : Pos} {g : Tg} {di dt de : D} (hc : X.calm = true) (hN : X.N.Nodup) (ok : BlkOk X.N X.env.scope scope own) (hgo : ∀ i ∈ tgs g, i ∈ own.map (·.2)) (hi : SI T ca X tg it di)
    (hg : BlkC X scope fun B => SG B tg g) (ht : BlkC X scope fun B => STs T ca B ifs dt) (he : BlkC X scope fun B => SE T ca B elt de) (hs : ∀ x, foldedSetIterable it X.env x = pure x) : SE T ca X (.ListComp elt [⟨tg, it, ifs, 0⟩] scope pos) (mLc m (own.map (·.2)) g di dt de) := fun W₀ t =>
  (pe_lc (g := tG X.K g) (tt := tT X.K T ca noW dt) (te := tE X.K T ca noW de) hc hN (hi W₀ t) ok (fun s H C cl fp => hg s H C cl fp) (fun s H C cl fp => ht s H C cl fp noW noTk) (fun s H C cl fp => he s H C cl fp noW noTk) hs).weak fun _ _ _ h => t_lc (X := X) hgo h
end
end
end VA
set_option Elab.async false
set_option linter.all false
set_option maxRecDepth 100000
set_option maxHeartbeats 8000000
/-! V10: calls of defs. -/
namespace VA
noncomputable section
open L2 PySem PySem.Spec PyProof.Rows
/-! ### what a call leaves behind: places made in it may be forgotten -/
mutual
def lowW (n : Nat) : W → Bool
  | .loc m => Nat.blt m n
  | .tup xs => lowWs n xs
  | .lst xs => lowWs n xs
  | .scr xs => lowWs n xs
  | .ktp xs => lowWs n xs
  | .ftp xs => lowWs n xs
  | .dct _ ws => lowWs n ws
  | _ => true
def lowWs (n : Nat) : List W → Bool
  | [] => true
  | x :: xs => match lowW n x with
    | true => lowWs n xs
    | false => false
end
def lowO (n : Nat) (p : Nat × Ob) : Bool := match p.2 with
  | .lst xs => lowWs n xs
  | .dct _ ws => lowWs n ws
  | .ins _ fs => match Nat.blt (p.1 + 1) n with
    | true => lowWs n fs
    | false => false
def lowOs (n : Nat) : List (Nat × Ob) → Bool
  | [] => true
  | p :: r => match lowO n p with
    | true => lowOs n r
    | false => false
def cutR (keep : Bool) (n : Nat) (w : W) (e : List W) (h : Hpi) : R := match keep with
  | true => .ok w e h
  | false => match lowW n w with
    | true => match lowOs n (cutO h.objs n) with
      | true => .ok w e ⟨n, cutO h.objs n⟩
      | false => .bad
    | false => .bad
def Rho.cut (ρ : Rho) (n : Nat) (hn : n ≤ ρ.next) : Rho := ⟨n, ρ.pl, ρ.mu, fun m hm => ρ.plmu m (Nat.lt_of_lt_of_le hm hn)⟩
section
variable {K : PySem.W.Frag} {T : Tab} {ρ ρ' : Rho} {H H' : Hp}
theorem blt_lt {a b : Nat} (h : Nat.blt a b = true) : a < b := Nat.le_of_ble_eq_true h
mutual
theorem RW.low {n : Nat} (hn : n ≤ ρ.next) {w : W} {v : V} (l : lowW n w = true) (x : RW K T ρ H w v) : RW K T (ρ.cut n hn) H w v := by
  cases x with
  | non => exact .non
  | bl b => exact .bl b
  | int i => exact .int i
  | str x => exact .str x
  | tup h r => exact .tup h (RWs.low hn l r)
  | lst h r => exact .lst h (RWs.low hn l r)
  | scr h r => exact .scr h (RWs.low hn l r)
  | ktp h r => exact .ktp h (RWs.low hn l r)
  | ftp h r => exact .ftp h (RWs.low hn l r)
  | dctK h m hk hu r => exact .dctK h m hk hu (RWs.low hn l r)
  | dctT h m hk hu r => exact .dctT h m hk hu (RWs.low hn l r)
  | loc m h => exact RW.loc (ρ := ρ.cut n hn) m (blt_lt (show Nat.blt m n = true from l))
  | fn i => exact .fn i
  | cl i => exact .cl i
  | anyi i => exact .anyi i
  | anyb b => exact .anyb b
  | rng m i h => exact .rng m i h
theorem RWs.low {n : Nat} (hn : n ≤ ρ.next) {ws : List W} {vs : List V} (l : lowWs n ws = true) (x : RWs K T ρ H ws vs) : RWs K T (ρ.cut n hn) H ws vs := by
  cases x with
  | nil => exact .nil
  | @cons x v xs vs h t =>
    unfold lowWs at l
    cases e : lowW n x with
    | false => rw [e] at l; cases l
    | true => rw [e] at l; exact .cons (RW.low hn e h) (RWs.low hn l t)
end
theorem lowWs_at {n : Nat} : ∀ {ws : List W} {i : Nat} {w : W}, lowWs n ws = true → ws[i]? = some w → lowW n w = true
  | [], _, _, _, e => by simp at e
  | x :: xs, i, w, l, e => by
    unfold lowWs at l
    cases q : lowW n x with
    | false => rw [q] at l; cases l
    | true =>
      rw [q] at l
      cases i with
      | zero => simp at e; subst e; exact q
      | succ i => exact lowWs_at l (by simpa using e)
theorem lowOs_at {n : Nat} : ∀ {l : List (Nat × Ob)} {m : Nat} {o : Ob}, lowOs n l = true → getO l m = some o → lowO n (m, o) = true
  | [], _, _, _, e => by cases e
  | p :: r, m, o, l, e => by
    unfold lowOs at l
    cases q : lowO n p with
    | false => rw [q] at l; cases l
    | true =>
      rw [q] at l
      unfold getO at e
      cases z : Nat.beq p.1 m with
      | true =>
        rw [z] at e
        cases e
        rw [← Nat.eq_of_beq_eq_true z]
        exact q
      | false => rw [z] at e; exact lowOs_at l e
theorem cut_srt : ∀ {l : List (Nat × Ob)} {n : Nat}, (l.Pairwise fun p q => q.1 < p.1) → (cutO l n).Pairwise fun p q => q.1 < p.1
  | [], _, h => h
  | p :: r, n, h => by
    unfold cutO
    cases z : Nat.blt p.1 n with
    | true => exact h
    | false => exact cut_srt (List.pairwise_cons.mp h).2
theorem cut_below : ∀ {l : List (Nat × Ob)} {n m : Nat} {o : Ob}, (l.Pairwise fun p q => q.1 < p.1) → getO (cutO l n) m = some o → m < n
  | [], _, _, _, _, e => by cases e
  | p :: r, n, m, o, h, e => by
    unfold cutO at e
    have ⟨h1, h2⟩ := List.pairwise_cons.mp h
    cases z : Nat.blt p.1 n with
    | true =>
      rw [z] at e
      have lt := blt_lt z
      have mem : ∀ {l : List (Nat × Ob)} {m : Nat} {o : Ob}, getO l m = some o → ∃ u, (m, u) ∈ l := by
        intro l
        induction l with
        | nil => intro m o h; cases h
        | cons p r ih =>
          intro m o h
          simp only [getO] at h
          cases e : Nat.beq p.1 m with
          | true => exact ⟨p.2, by rw [← Nat.eq_of_beq_eq_true e]; exact List.mem_cons_self⟩
          | false => rw [e] at h; obtain ⟨u, hu⟩ := ih h; exact ⟨u, List.mem_cons_of_mem _ hu⟩
      obtain ⟨u, hu⟩ := mem e
      rcases List.mem_cons.mp hu with q | q
      · rw [← q] at lt; exact lt
      · exact Nat.lt_trans (h1 _ q) lt
    | false => rw [z] at e; exact cut_below h2 e
theorem stp_cut {n : Nat} {ρ1 : Rho} {H1 : Hp} (s : Stp ρ1 H1 ρ H) (e : n = ρ1.next) (hn : n ≤ ρ.next) : Stp ρ1 H1 (ρ.cut n hn) H := by
  subst e
  exact ⟨Nat.le_refl _, s.pl, fun m h1 h2 => absurd h2 (by show ¬ m < ρ1.next; omega), s.up, s.dn, s.hold, s.live, s.tb⟩
theorem relH_cut {h : Hpi} {n : Nat} (r : RelH K T ρ H h) (hn : n ≤ ρ.next) (lo : lowOs n (cutO h.objs n) = true) : RelH K T (ρ.cut n hn) H ⟨n, cutO h.objs n⟩ := by
  refine ⟨rfl, fun i j hi hj => r.inj i j (Nat.lt_of_lt_of_le hi hn) (Nat.lt_of_lt_of_le hj hn), r.on, cut_srt r.srt, fun m o e => ?_, r.tb⟩
  have e1 := getO_cut r.srt e
  obtain ⟨hm, x⟩ := r.ob m o e1
  have lm := cut_below r.srt e
  have q := lowOs_at lo e
  refine ⟨lm, ?_⟩
  cases o with
  | lst ws => obtain ⟨vs, e2, y⟩ := x; exact ⟨vs, e2, RWs.low hn q y⟩
  | dct ks ws =>
    obtain ⟨o', e2, y⟩ := x
    refine ⟨o', e2, ?_⟩
    rcases y with ⟨a, b, c, d, f, g⟩ | ⟨a, b, c, d, f, g⟩
    · exact .inl ⟨a, b, c, d, f, RWs.low hn q g⟩
    · exact .inr ⟨a, b, c, d, f, RWs.low hn q g⟩
  | ins c fs =>
    obtain ⟨h2, vs, y, z⟩ := x
    have q' : (match Nat.blt (m + 1) n with | true => lowWs n fs | false => false) = true := q
    cases b : Nat.blt (m + 1) n with
    | false => rw [b] at q'; cases q'
    | true =>
      rw [b] at q'
      exact ⟨blt_lt b, vs, y, fun i w e3 n3 => by
        obtain ⟨v, e4, r4⟩ := z i w e3 n3
        exact ⟨v, e4, RW.low hn (lowWs_at q' e3) r4⟩⟩
variable {W₀ : WX} {σ : L2.St} {r : R} {Q : VK}
theorem fin_bnd0 {k : W → Hpi → R} (f : FinE K T W₀ σ ρ H (bnd r k) Q) : FinE K T W₀ σ ρ H r fun v H1 => ∃ ρ1 w h1, Stp ρ H ρ1 H1 ∧ RelH K T ρ1 H1 h1 ∧ RW K T ρ1 H1 w v ∧ FinE K T W₀ σ ρ H (k w h1) Q := by
  induction r with
  | ok w e hp => exact fun ρ' H' v a b c => ⟨ρ', w, hp, a, b, c, f⟩
  | exc c fs e' hp => exact f
  | or x y ix iy => exact ⟨ix f.1, iy f.2⟩
  | _ => exact f.elim
theorem cut_ok {keep : Bool} {n : Nat} {w : W} {e : List W} {h : Hpi} {ρ1 : Rho} {H1 : Hp} {v : V} (f : FinE K T W₀ σ ρ1 H1 (cutR keep n w e h) Q) (en : n = ρ1.next) (s : Stp ρ1 H1 ρ H) (rh : RelH K T ρ H h) (rw' : RW K T ρ H w v) : Q v H := by
  cases keep with
  | true => exact f ρ H v s rh rw'
  | false =>
    have f1 : FinE K T W₀ σ ρ1 H1 (match lowW n w with
      | true => match lowOs n (cutO h.objs n) with
        | true => .ok w e ⟨n, cutO h.objs n⟩
        | false => .bad
      | false => .bad) Q := f
    cases a : lowW n w with
    | false => rw [a] at f1; exact f1.elim
    | true =>
      rw [a] at f1
      cases b : lowOs n (cutO h.objs n) with
      | false => simp only [b] at f1; exact f1.elim
      | true =>
        simp only [b] at f1
        have hn : n ≤ ρ.next := by rw [en]; exact s.le
        exact f1 (ρ.cut n hn) H v (stp_cut s en hn) (relH_cut rh hn b) (RW.low hn a rw')
end
/-! ### a def and its reading -/
/-- the call of the def f with n arguments, as the reading ca tells -/
def spC (K : PySem.W.Frag) (T : Tab) (ca : CallT) (f n : Nat) : Sp := fun vs H Q E => vs.length = n ∧ ∃ ρ ws h, RelH K T ρ H h ∧ RWs K T ρ H ws vs ∧ FinE K T (fun cls d _ H' => E cls d H') [] ρ H (ca f ws h) Q
/-- the def named x may be called -/
structure Cal (T : Tab) (ca : CallT) (X : Cx) (x : Str) (f n : Nat) : Prop where
  gl : X.mg x = some (.ref (T.fa f))
  kp : PySem.W.keepIn X.K (.ref (T.fa f)) = true
  fn : ∃ k fd ps, ps.length = n ∧ FnOk X.prog X.w X.K X.mg X.base (L2.CX X.prog X.w) k (T.fa f) fd ps (spC X.K T ca f n) ∧ Room k X.A ∧ Binds X.K fd ps []
def mCall (keep : Bool) (f n : Nat) (a : D) : D := fun ca e h => bndA (a ca e h) fun ws h1 => match Nat.beq (lenN ws) n with
  | true => bnd (ca f ws h1) fun w h2 => cutR keep h1.next w e h2
  | false => .bad
section
variable {X : Cx} {T : Tab} {ca : CallT}
theorem t_call {K : PySem.W.Frag} {W₀ : WX} {keep : Bool} {f n : Nat} {d : D} {σ : L2.St} {H : Hp} {Q : VK} (h : tE K T ca W₀ (mCall keep f n d) σ H Q) : tCallS (spC K T ca f n) (WE W₀) (tA K T ca W₀ d) σ H Q := by
  obtain ⟨ρ, e, hp, re, rh, f0⟩ := h
  refine ⟨ρ, e, hp, re, rh, (fin_bndA f0).imp ?_⟩
  rintro vs H1 ⟨ρ1, ws, h1, s1, rh1, r1, f1⟩
  rw [lenN_eq] at f1
  cases z : Nat.beq ws.length n with
  | false => rw [z] at f1; exact f1.elim
  | true =>
    rw [z] at f1
    refine ⟨by rw [← r1.length]; exact Nat.eq_of_beq_eq_true z, ρ1, ws, h1, rh1, r1, ?_⟩
    have f2 := fin_bnd0 f1
    have f3 : FinE K T (fun cls d _ H' => WE W₀ σ cls d H') [] ρ1 H1 (ca f ws h1) fun v H2 => ∃ ρ2 w h2, Stp ρ1 H1 ρ2 H2 ∧ RelH K T ρ2 H2 h2 ∧ RW K T ρ2 H2 w v ∧ FinE K T W₀ σ ρ1 H1 (cutR keep h1.next w e h2) Q := f2
    refine f3.imp ?_
    rintro v H2 ⟨ρ2, w, h2, s2, rh2, r2, f4⟩
    exact cut_ok f4 rh1.nx s2 rh2 r2
theorem pe_callS0 {CX : CXT} {k : Nat} {f : Addr} {fd : FuncData} {ps : List Str} {sp : Sp} {E : L2.St → XK} {x : Str} {p pos : Pos} (F : FnOk X.prog X.w X.K X.mg X.base CX k f fd ps sp) (hr : Room k X.A) (hg : Gl X x) (hm : X.mg x = some (.ref f)) (hk : PySem.W.keepIn X.K (.ref f) = true) (hb : Binds X.K fd ps []) (hx : ∀ σ, PassesAt CX X σ (E σ))
    (hdb : (x == ("__debug__" : Str)) = false) : PE X (.Call (.Name x p) [] [] pos) (tCallS sp E tNil) := by
  exact ⟨fun _ _ σ _ _ J w => wpAny_Call_Name_kw (ld_glob J hg hm (PySem.W.callWith_K0 J.kIn hk (run_fnS (us := []) F hr hb (hx σ) J .nil w)) hdb)⟩
theorem SE.call {x : Str} {p pos : Pos} {a : Expr} {es : List Expr} {d : D} {keep : Bool} {f n : Nat} (c : Cal T ca X x f n) (hg : Gl X x) (ha : SA T ca X (a :: es) d) (hdb : (x == ("__debug__" : Str)) = false)
    (he : starEach (a :: es) X.env = (false, eval a X.env) :: starEach es X.env) (hpl : (backTo pos (starEach es X.env)).any (·.1) = false) : SE T ca X (.Call (.Name x p) (a :: es) [] pos) (mCall keep f n d) := fun W₀ t => by
  obtain ⟨k, fd, ps, hl, F, hr, hb⟩ := c.fn
  exact (pe_callS F hr hg c.gl c.kp hb (passAt t) (ha W₀ t) hdb he hpl).weak fun _ _ _ h => t_call h
theorem SE.call0 {x : Str} {p pos : Pos} {keep : Bool} {f : Nat} (c : Cal T ca X x f 0) (hg : Gl X x) (hdb : (x == ("__debug__" : Str)) = false) : SE T ca X (.Call (.Name x p) [] [] pos) (mCall keep f 0 mNil) := fun W₀ t => by
  obtain ⟨k, fd, ps, hl, F, hr, hb⟩ := c.fn
  refine (pe_callS0 F hr hg c.gl c.kp hb (passAt t) hdb).weak fun σ H Q h => ?_
  obtain ⟨ρ, e, hp, re, rh, f⟩ := t_call h
  exact f ρ H [] (Stp.refl _ _) rh .nil
end
/-! ### a def's body -/
def retR (r : R) : R := R.rec (motive := fun _ => R) (fun _ _ h => .ok .non [] h) (fun w h => .ok w [] h) (fun _ _ => .bad) (fun _ _ => .bad) (fun c fs _ h => .exc c fs [] h) .bad (fun _ _ a b => .or a b) r
def padW (ws : List W) (n : Nat) : List W := ws ++ List.replicate (n - ws.length) .nul
section
variable {K : PySem.W.Frag} {T : Tab}
theorem fin_ret {E : XK} {ρ : Rho} {H : Hp} {r : R} {Q : VK} (f : FinE K T (fun cls d _ H' => E cls d H') [] ρ H (retR r) Q) : FinS K T (fun cls d _ H' => E cls d H') ρ H r { nx := fun _ H' => Q .non H', rt := Q } := by
  induction r with
  | ok w e h => exact fun ρ' H' σ' s r x => f ρ' H' .non s r .non
  | ret w h => exact fun ρ' H' v s r x => f ρ' H' v s r x
  | exc c fs e h => exact fun ρ' H' σ' cls d s r _ x => f ρ' H' cls d s r x
  | or x y ix iy => exact ⟨ix f.1, iy f.2⟩
  | _ => exact f.elim
theorem start_env {ρ : Rho} {H : Hp} {ws : List W} {vs : List V} (r : RWs K T ρ H ws vs) (N : List Str) : REnv K T ρ H (padW ws N.length) (L2.start N vs) := by
  have hl := r.length
  refine ⟨by unfold padW L2.start; simp [hl], fun i w e n => ?_⟩
  unfold padW at e
  by_cases h : i < ws.length
  · rw [List.getElem?_append_left h] at e
    obtain ⟨v, e1, q⟩ := r.get e
    refine ⟨v, ?_, q⟩
    unfold L2.start
    rw [List.getElem?_append_left (by simp; omega), List.getElem?_map, e1]
    rfl
  · rw [List.getElem?_append_right (by omega)] at e
    have := List.getElem?_replicate (a := W.nul) (n := N.length - ws.length) (i := i - ws.length)
    rw [this] at e
    split at e
    · cases e; exact absurd rfl n
    · cases e
/-- a def by its body's reading -/
theorem fn_ok {P : Program} {w : World} {mg : Str → Option Value} {base : Heap} {x qual : Str} {params : Arguments} {body : List Stmt} {scope : Scope} {fd : FuncData} {N ps : List Str} {k f n : Nat} {ca ca' : CallT} {d : D}
    (F : FunD K x qual params body scope [] [] (T.fa f) fd) (S : FnScope N ps scope) (hn : ps.length = n) (hca : ∀ ws h, ca' f ws h = retR (d ca (padW ws N.length) h))
    (hbody : ∀ (cdv : Value) (A : Around) (outer : List Env) (s : Shared) (H : Hp) (E : XK), Room k (A.deeper (envOfC qual scope s.heap.objs.size (T.fa f) cdv)) →
      SSs T ca (cxOf (L2.CX P w) P w K mg base N qual scope (T.fa f) cdv A outer s H E) body d) : FnOk P w K mg base (L2.CX P w) (k + 1) (T.fa f) fd ps (spC K T ca' f n) := by
  refine F.ok S (fun vs H Q E h => h.1.trans hn.symm) fun cdv A outer s H vs Q E hr ⟨_, ρ, ws, h, rh, r, q⟩ => ?_
  refine ⟨_, hbody cdv A outer s H E hr (fun cls d _ H => E cls d H) ?_, ρ, padW ws N.length, h, start_env r N, rh, ?_⟩
  · exact takes_of rfl rfl rfl rfl
  · rw [hca] at q
    exact fin_ret q
end
end
end VA
set_option Elab.async false
set_option linter.all false
set_option maxRecDepth 100000
set_option maxHeartbeats 8000000
/-! V11: sorted(..) of tuples of ints of any lengths: of a list, of a dict. -/
namespace VA
open PySem PySem.Spec PyProof.Rows L2 Srt
/-! ### the order of lists of ints -/
def lexL : List Int → List Int → Bool
  | [], [] => false
  | [], _ :: _ => true
  | _ :: _, [] => false
  | x :: xs, y :: ys => if x = y then lexL xs ys else decide (x < y)
theorem lexL_asym : ∀ x y, lexL x y = true → lexL y x = false
  | [], [], h => by cases h
  | [], _ :: _, _ => rfl
  | _ :: _, [], h => by cases h
  | x :: xs, y :: ys, h => by
    unfold lexL at h ⊢
    by_cases e : x = y
    · rw [if_pos e] at h
      rw [if_pos e.symm]
      exact lexL_asym xs ys h
    · rw [if_neg e] at h
      rw [if_neg fun z => e z.symm]
      have := of_decide_eq_true h
      exact decide_eq_false (show ¬ _ by omega)
theorem lexL_tr : ∀ x y z, lexL y x = false → lexL z y = false → lexL z x = false
  | x, y, [], h1, h2 => by
    cases x with
    | nil => rfl
    | cons a as =>
      cases y with
      | nil => cases h1
      | cons b bs => cases h2
  | [], y, c :: cs, _, _ => rfl
  | a :: as, [], c :: cs, h1, h2 => by cases h1
  | a :: as, b :: bs, c :: cs, h1, h2 => by
    unfold lexL at h1 h2 ⊢
    by_cases e1 : b = a
    · rw [if_pos e1] at h1
      by_cases e2 : c = b
      · rw [if_pos e2] at h2
        rw [if_pos (e2.trans e1)]
        exact lexL_tr as bs cs h1 h2
      · rw [if_neg e2] at h2
        rw [if_neg (fun z => e2 (z.trans e1.symm))]
        rw [← e1]; exact h2
    · rw [if_neg e1] at h1
      have l1 := of_decide_eq_false h1
      by_cases e2 : c = b
      · rw [if_neg (fun z => e1 (e2.symm.trans z)), e2]
        exact h1
      · rw [if_neg e2] at h2
        have l2 := of_decide_eq_false h2
        rw [if_neg (by omega)]
        exact decide_eq_false (show ¬ _ by omega)
theorem lexL_eq : ∀ x y, lexL x y = false → lexL y x = false → x = y
  | [], [], _, _ => rfl
  | [], _ :: _, none_, _ => nomatch none_
  | _ :: _, [], _, h => nomatch h
  | x :: xs, y :: ys, h1, h2 => by
    unfold lexL at h1 h2
    by_cases e : x = y
    · rw [if_pos e] at h1
      rw [if_pos e.symm] at h2
      rw [e, lexL_eq xs ys h1 h2]
    · rw [if_neg e] at h1
      rw [if_neg fun z => e z.symm] at h2
      have := of_decide_eq_false h1
      have := of_decide_eq_false h2
      omega
theorem swo_lexL {α : Type} (k : α → List Int) : SrtO.Swo fun v u => lexL (k v) (k u) := ⟨fun x y h => lexL_asym _ _ h, fun x y z h1 h2 => lexL_tr _ _ _ h1 h2⟩
/-! ### the comparisons of the model -/
section
variable {prog : Program} {w : World} {A : Around} {s : Shared} {E : Value → Shared → Prop}
/-- one int below the other, by whichever of the two ways the sort asks -/
theorem one_below (b : Bool) (i j : Int) (t u : Tok) {R : Bool → Shared → Prop} (h : R (decide (i < j)) s) : wpAny (model prog w) A (oneLt' b (.int i t) (.int j u)) R E s := TS.oneLt_ints b h
/-- two tuples of ints, walked from the left: the shorter one is below where it ends first -/
theorem walk_ints {b : Bool} {R : Bool → Shared → Prop} : ∀ {ns ms : List Int} {us vs : List Value} {n : Nat}, IntsAre us ns → IntsAre vs ms → R (lexL ns ms) s → PySem.W.KatLex prog w A b (decide (ns.length < ms.length)) R (us.zip vs) n s
  | [], [], _, _, _, .nil, .nil, r => r
  | [], m :: ms, _, _, _, .nil, .cons _ _ _, r => by
    show R (decide (0 < ms.length + 1)) s
    rw [decide_eq_true (Nat.succ_pos _)]
    exact r
  | k :: ns, [], _, _, _, .cons _ _ _, .nil, r => by
    show R (decide (ns.length + 1 < 0)) s
    rw [decide_eq_false (Nat.not_lt_zero _)]
    exact r
  | k :: ns, m :: ms, _, _, n, .cons _ t hx, .cons _ u hy, r => by
    have shorter : decide ((k :: ns).length < (m :: ms).length) = decide (ns.length < ms.length) := by simp
    rw [shorter]
    apply PySem.W.kat_cons
    apply wpAny_eqBool_int
    by_cases same : k = m
    · subst same
      rw [beq_self_eq_true]
      apply PySem.W.kat_yes
      exact walk_ints hx hy (by unfold lexL at r; rwa [if_pos rfl] at r)
    · rw [beq_eq_false_iff_ne.mpr same]
      apply PySem.W.kat_no
      exact one_below _ k m t u (by unfold lexL at r; rwa [if_neg same] at r)
/-- tuples of ints, none empty -/
def TupsL (g : Heap) (vs : List Value) (k : Value → List Int) : Prop := ∀ v ∈ vs, TS.TupInts g v (k v) ∧ k v ≠ []
theorem TupsL.keeps {g g' : Heap} {vs : List Value} {k : Value → List Int} (x : TupsL g vs k) (kp : ∀ b o, g.get? b = some o → o.cls = .type "tuple" → g'.get? b = some o) : TupsL g' vs k := fun v hv => ⟨(x v hv).1.keeps kp, (x v hv).2⟩
/-- each has a first int -/
theorem TupsL.heads {g : Heap} {k : Value → List Int} : ∀ {vs : List Value}, TupsL g vs k → ∃ fs, PySem.W.KatTups g vs fs ∧ fs.length = vs.length ∧ ∀ f ∈ fs, ∃ i t, f = Value.int i t
  | [], _ => ⟨[], .nil, rfl, by simp⟩
  | v :: vs, x => by
    obtain ⟨fs, kt, len, whole⟩ := TupsL.heads (g := g) (k := k) (vs := vs) fun u hu => x u (.tail _ hu)
    obtain ⟨⟨a, xs, ev, ⟨o, ho, hc, n, hd⟩, all⟩, some_⟩ := x v (.head _)
    match q : xs.toList, k v, all, some_ with
    | [], _, .nil, h => exact absurd rfl h
    | _ :: rest, _, .cons i t _, _ =>
      subst ev
      refine ⟨.int i t :: fs, .cons ho hc hd ?_ kt, congrArg (· + 1) len, fun f hf => ?_⟩
      · have first : xs.toList[0]? = some (Value.int i t) := by rw [q]; rfl
        rwa [Array.getElem?_toList] at first
      · cases hf with
        | head => exact ⟨i, t, rfl⟩
        | tail _ hf => exact whole f hf
theorem TupsL.below {vs : List Value} {k : Value → List Int} (x : TupsL s.heap vs k) : SrtO.Cmp prog w A s (tuples' true) (fun p => p.1 ∈ vs) (SrtO.lt2 fun v u => lexL (k v) (k u)) := fun p q hp hq => by
  obtain ⟨⟨a, xs, e1, ⟨o, ho, hc, n, hd⟩, i⟩, _⟩ := x _ hp
  obtain ⟨⟨a', ys, e2, ⟨o', ho', hc', n', hd'⟩, i'⟩, _⟩ := x _ hq
  show wpAny (model prog w) A (keyLt' (tuples' true) p.1 q.1) (fun r s' => s' = s ∧ r = lexL (k p.1) (k q.1)) (fun _ _ => False) s
  generalize k p.1 = ns at i ⊢
  generalize k q.1 = ms at i' ⊢
  rw [e1, e2]
  apply PySem.W.kat_lt ho hd ho' hd'
  rw [show xs.size = ns.length from i.length ▸ Array.length_toList.symm, show ys.size = ms.length from i'.length ▸ Array.length_toList.symm]
  exact walk_ints i i' ⟨rfl, rfl⟩
/-- they may be sorted, in a list at a -/
theorem TupsL.sortable {a : Addr} {vs : List Value} {k : Value → List Int} (two : 2 ≤ vs.length) (x : TupsL s.heap vs k) {n : Nat} {l : List Value} (ha : s.heap.get? a = some (seqObj "list" l.toArray n)) : SrtO.SortableO prog w A s a vs fun v u => lexL (k v) (k u) := fun g kp => by
  have away : ∀ b o, s.heap.get? b = some o → o.cls = .type "tuple" → g.get? b = some o := fun b o e c => kp b o (fun z => by
    subst z
    rw [ha] at e
    cases e
    exact nomatch Value.type.inj c) e
  have y := x.keeps away
  obtain ⟨fs, kt, len, whole⟩ := y.heads
  refine ⟨tuples' true, fun R E' hR => PySem.W.kat_kind (T := .type "int") kt (by omega) (fun f hf => ?_) rfl ?_, TupsL.below (s := { s with heap := g }) y⟩
  · obtain ⟨i, t, rfl⟩ := whole f hf
    exact .now
  · have other : (Value.type "int" != Value.type "tuple") = true := rfl
    rwa [other]
/-- sorted(x), x anything that is collected to vs: the new list stands somewhere new -/
theorem sorted_by {x : Value} {vs : List Value} {lt : Value → Value → Bool} {Q : Value → Shared → Prop} (O : SrtO.Swo lt) (fits : vs.length ≤ sizeLine)
    (get : ∀ R : List Value → Shared → Prop, (∀ (g : Heap) (tk : Tok), (∀ b o, s.heap.get? b = some o → g.get? b = some o) → R vs { s with heap := g, toks := tk }) → wpAny (model prog w) A.in1 (collect x) R E s)
    (cmp : 2 ≤ vs.length → ∀ (g : Heap) (tk : Tok) (a : Addr), (∀ b o, s.heap.get? b = some o → g.get? b = some o) → g.get? a = some (seqObj "list" vs.toArray 0) → SrtO.SortableO prog w A.in1.in1 { s with heap := g, toks := tk } a vs lt)
    (fin : ∀ (g g2 : Heap) (tk : Tok) (n : Nat) (out : List Value), SrtO.Srtd lt out → SrtO.Stb lt out vs → (∀ b o, s.heap.get? b = some o → g.get? b = some o) → (∀ b o, g.get? b = some o → g2.get? b = some o) → g2.get? g.objs.size = some (seqObj "list" out.toArray n) →
      Q (.ref g.objs.size) { s with heap := g2, toks := tk }) : wpAny (model prog w) A (call (.builtin "sorted") [x]) Q E s := by
  apply Calls.call_function_entry kind_sorted plain_sorted entry_sorted (args_sorted1 x)
  unfold Builtin.«sorted»
  apply wpAny_bind (m := checkCount "sorted" 1 1 _)
  apply wpAny_pure
  apply wpAny_bind
  apply get
  intro g tk kp
  apply wpAny_bind
  apply wpAny_newList _ fits
  have here : (g.push (seqObj "list" vs.toArray 0)).get? g.objs.size = some (seqObj "list" vs.toArray 0) := Heap.get?_push_size _ rfl
  have old : ∀ b o, g.get? b = some o → (g.push (seqObj "list" vs.toArray 0)).get? b = some o := fun b o e => Heap.get?_push_of_some _ e
  apply wpAny_bind
  apply wpAny_holding
  refine wpAny_call_entry (s := { s with heap := g.push (seqObj "list" vs.toArray 0), toks := tk }) slot_list_sort ⟨_, here, rfl⟩ entry_list_sort ?_ (args_list_sort _)
  refine SrtO.list_sort_ord (s := { s with heap := g.push (seqObj "list" vs.toArray 0), toks := tk }) O here fits (fun two => cmp two _ tk _ (fun b o e => old b o (kp b o e)) here) fun out up same => ⟨.none, rfl, ?_⟩
  obtain ⟨n, at_⟩ := sortedHeap_at (vs := vs) (out := out.toArray) here
  refine wpAny_pure ⟨_, rfl, fin g _ tk n out up same kp (fun b o e => ?_) at_⟩
  have lt := Heap.lt_size e
  rw [sortedHeap_old (Nat.ne_of_lt lt) (by rw [size_push']; exact Nat.lt_succ_of_lt lt)]
  exact old b o e
end
/-! ### as rules -/
/-- sorted of a list or a tuple of tuples of ints -/
def rSortL (K : PySem.W.Frag) : List V → Hp → VK → Prop := fun vs H Q => ∃ (a : Addr) (xs : List V) (k : V → List Int), vs = [V.ref a] ∧ SqL K H a xs ∧ (∀ x ∈ xs, (∃ t, x = V.ref t ∧ SqT K H t ((k x).map V.int)) ∧ k x ≠ []) ∧
  ∀ ys p, ys.Perm xs → (ys.Pairwise fun x y => lexL (k y) (k x) = false) → H p = none → Q (.ref p) (upd H p (.lst ys))
/-- sorted of a dict whose keys are tuples of ints -/
def rSortDT : List V → Hp → VK → Prop := fun vs H Q => ∃ (a : Addr) (kvs : List (List Key × V)) (kss : List (List Int)), vs = [V.ref a] ∧ Rd H a (.dT kvs) ∧ kvs.map (·.1) = kss.map (fun ns => ns.map Sum.inl) ∧ (∀ ns ∈ kss, ns ≠ []) ∧
  ∀ (bs : List Addr) (ys : List V) (k : V → List Int) (p : Addr), (∀ b ns, (b, ns) ∈ bs.zip kss → H b = some (.tup (ns.map V.int)) ∧ k (V.ref b) = ns) → bs.length = kss.length → ys.Perm (bs.map V.ref) → (ys.Pairwise fun x y => lexL (k y) (k x) = false) → H p = none → Q (.ref p) (upd H p (.lst ys))
section
variable {X : Cx} {s : Shared} {H : Hp} {σ : L2.St} {pins : List (Addr × Obj)}
/-- the end of a sort of things that lie at addresses: the list in the abstract heap -/
theorem refs_sorted {ads : List Addr} {k : V → List Int} {Q : VK} {g g2 : Heap} {tk : Tok} {n : Nat} {out : List Value} (I : Inv X pins σ H s) (fits : ads.length ≤ sizeLine) (up : SrtO.Srtd (fun v u => lexL (k (backV v)) (k (backV u))) out) (same : out.Perm (ads.map Value.ref))
    (kp : ∀ b o, s.heap.get? b = some o → g.get? b = some o) (kp2 : ∀ b o, g.get? b = some o → g2.get? b = some o) (at_ : g2.get? g.objs.size = some (seqObj "list" out.toArray n))
    (q : ∀ ys p, ys.Perm (ads.map V.ref) → (ys.Pairwise fun x y => lexL (k y) (k x) = false) → H p = none → Q (.ref p) (upd H p (.lst ys))) : EP X pins σ Q (.ref g.objs.size) { s with heap := g2, toks := tk } := by
  have Ig : Inv X pins σ H { s with heap := g, toks := tk } := I.kept kp
  have new : H g.objs.size = none := Ig.hok.fresh (Nat.le_refl _)
  have pm : (out.map backV).Perm (ads.map V.ref) := by
    have z := same.map backV
    rwa [List.map_map] at z
  have isRef : ∀ u ∈ out, ∃ a, u = Value.ref a := fun u hu => by
    obtain ⟨a, _, e⟩ := List.mem_map.mp (same.mem_iff.mp hu)
    exact ⟨a, e.symm⟩
  have laid := Ig.laid (a := g.objs.size) (o := .lst (out.map backV)) (h' := g2) (t' := tk) kp2 (Nat.le_refl _) ⟨by rw [pm.length_eq, List.length_map]; exact fits, out, n, vals_back isRef, at_⟩
  exact ⟨.ref g.objs.size, _, laid, rfl, q _ _ pm (List.pairwise_map.mpr up) new⟩
/-- the values of a list of tracked things -/
theorem refs_of {xs : List V} {us : List Value} (r : Vals xs us) (h : ∀ x ∈ xs, ∃ t, x = V.ref t) : ∃ ads : List Addr, xs = ads.map V.ref ∧ us = ads.map Value.ref := by
  induction r with
  | nil => exact ⟨[], rfl, rfl⟩
  | @cons x u xs us rx _ ih =>
    obtain ⟨ads, e1, e2⟩ := ih fun y hy => h y (.tail _ hy)
    obtain ⟨t, rfl⟩ := h x (.head _)
    have eu : u = Value.ref t := rx
    exact ⟨t :: ads, by rw [e1]; rfl, by rw [e2, eu]; rfl⟩
theorem cr_sortL : CallR X (.builtin "sorted") (rSortL X.K) := fun pins s σ H _ us Q I rv ⟨a, xs, k, e, hs, hx, q⟩ => by
  subst e
  obtain ⟨u, rfl, eu⟩ := vals1 rv
  have eu : u = Value.ref a := eu
  subst eu
  obtain ⟨its, vals, hl, fits⟩ := I.list hs
  obtain ⟨ads, e1, e2⟩ := refs_of vals fun x hx' => (hx x hx').1.elim fun t z => ⟨t, z.1⟩
  subst e1 e2
  rw [List.length_map] at fits
  have tups : TupsL s.heap (ads.map Value.ref) fun u => k (backV u) := fun v hv => by
    obtain ⟨t, ht, rfl⟩ := List.mem_map.mp hv
    obtain ⟨⟨t', e, sq⟩, ne⟩ := hx (V.ref t) (List.mem_map.mpr ⟨t, ht, rfl⟩)
    cases e
    exact ⟨tupI_raw I sq, ne⟩
  refine sorted_by (swo_lexL fun u => k (backV u)) (by rwa [List.length_map]) (fun R hR => ?_) (fun two g tk a' kp ha => ?_) fun g g2 tk n out up same kp kp2 at_ => refs_sorted I fits up same.perm kp kp2 at_ q
  · refine collect_list hl.isList (hR _ s.toks fun b o e => ?_) (by rwa [List.length_map])
    have lt := Heap.lt_size e
    rw [Heap.get?_update_ne _ _ _ _ (Nat.ne_of_lt lt)]
    exact Heap.get?_push_of_some (seqObj "list" #[] 0) e
  · exact TupsL.sortable (s := { s with heap := g, toks := tk }) two (tups.keeps fun b o e _ => kp b o e) ha
theorem paired_zip {α β : Type} {P : α → β → Prop} {xs : List α} {ys : List β} (h : Paired P xs ys) : ∀ q ∈ xs.zip ys, P q.1 q.2 := by
  induction h with
  | nil => intro q hq; cases hq
  | cons hp _ ih =>
    intro q hq
    cases hq with
    | head => exact hp
    | tail _ hq => exact ih q hq
/-- the ints of a tracked tuple -/
def intsAt (H : Hp) (x : V) : List Int := match x with
  | .ref b => (match H b with
    | some (.tup vs) => vs.map fun v => match v with | .int i => i | _ => 0
    | _ => [])
  | _ => []
theorem intsAt_eq {b : Addr} {ns : List Int} (h : H b = some (.tup (ns.map V.int))) : intsAt H (.ref b) = ns := by
  show (match H b with
    | some (.tup vs) => vs.map fun v => match v with | .int i => i | _ => 0
    | _ => []) = ns
  rw [h]
  show (ns.map V.int).map _ = ns
  rw [List.map_map]
  exact List.map_id ns
/-- an entry that a walk over the dict gives is its key's address -/
theorem collected {kk : List (List Key × Addr × Value)} {es : Array DictEntry} {prog : Program} {w : World} (he : es.toList = kk.map (entryOfKey (tupleKind (mixKind prog w)))) {acc : Array Value} (it : ItemsOf (fun i v => ∃ en : DictEntry, es[i]? = some en ∧ v = en.key) acc es.size) :
    acc.toList = (kk.map fun x => x.2.1).map Value.ref := by
  apply List.ext_getElem?
  intro j
  by_cases lt : j < kk.length
  · have lj : j < acc.toList.length := by rw [Array.length_toList, it.1, size_of_entries he]; exact lt
    obtain ⟨en, e1, e2⟩ := it.2 j acc.toList[j] (by rw [← Array.getElem?_toList]; exact List.getElem?_eq_getElem lj)
    rw [entry_at he j, List.getElem?_eq_getElem lt] at e1
    rw [List.getElem?_eq_getElem lj, e2, ← Option.some.inj e1, List.map_map, List.getElem?_map, List.getElem?_eq_getElem lt]
    rfl
  · rw [List.getElem?_eq_none (by rw [Array.length_toList, it.1, size_of_entries he]; omega), List.getElem?_eq_none (by simp; omega)]
theorem cr_sortDT (calm : X.calm = true) : CallR X (.builtin "sorted") rSortDT := fun pins s σ H _ us Q I rv ⟨d, kvs, kss, e, hd, hk, hne, q⟩ => by
  subst e
  obtain ⟨u, rfl, eu⟩ := vals1 rv
  have eu : u = Value.ref d := eu
  subst eu
  have dict : ObjOk X.prog X.w H s.heap d (.dT kvs) := hd.ok I.hok
  obtain ⟨fits, notSys, kk, pr, o, es, ep, ho, exact_, dat, he, _⟩ := dict
  have lens : kvs.length = kk.length ∧ kvs.length = kss.length := ⟨Paired.length pr, by simpa using congrArg List.length hk⟩
  have sz := size_of_entries he
  generalize hads : kk.map (fun x => x.2.1) = ads
  have la : ads.length = kss.length := by rw [← hads, List.length_map]; omega
  have keysAt : IsKeys H kvs ads := hads ▸ isKeys_of pr
  have key : ∀ b ns, (b, ns) ∈ ads.zip kss → H b = some (.tup (ns.map V.int)) := fun b ns hm => by
    obtain ⟨j, hj⟩ := List.mem_iff_getElem?.mp hm
    obtain ⟨j1, j2⟩ := List.getElem?_zip_eq_some.mp hj
    have at_j := congrArg (fun l => l[j]?) hk
    simp only [List.getElem?_map, j2, Option.map_some] at at_j
    obtain ⟨kv, e2, e3⟩ := Option.map_eq_some_iff.mp at_j
    have t : H b = some (.tup (kv.1.map kV)) := paired_zip keysAt (kv, b) (List.mem_iff_getElem?.mpr ⟨j, List.getElem?_zip_eq_some.mpr ⟨e2, j1⟩⟩)
    rw [t, e3, List.map_map]
    rfl
  have tups : TupsL s.heap (ads.map Value.ref) fun u => intsAt H (backV u) := fun v hv => by
    obtain ⟨b, hb, rfl⟩ := List.mem_map.mp hv
    obtain ⟨j, lt, e⟩ := List.mem_iff_getElem.mp hb
    have z : (b, kss[j]'(la ▸ lt)) ∈ ads.zip kss := List.mem_iff_getElem?.mpr ⟨j, List.getElem?_zip_eq_some.mpr ⟨by rw [← e]; exact List.getElem?_eq_getElem lt, List.getElem?_eq_getElem _⟩⟩
    have hb := key _ _ z
    show TS.TupInts s.heap (Value.ref b) (intsAt H (V.ref b)) ∧ intsAt H (V.ref b) ≠ []
    rw [intsAt_eq hb]
    exact ⟨tupI_raw I (.inl (.inl hb)), hne _ (List.getElem_mem _)⟩
  have fits' : ads.length ≤ sizeLine := by omega
  refine sorted_by (swo_lexL fun u => intsAt H (backV u)) (by rwa [List.length_map]) (fun R hR => ?_) (fun two g tk a' kp ha => ?_) fun g g2 tk n out up same kp kp2 at_ =>
    refs_sorted I fits' up same.perm kp kp2 at_ fun ys p => q ads ys (intsAt H) p (fun b ns hm => ⟨key b ns hm, intsAt_eq (key b ns hm)⟩) la
  · refine PySem.W.kdu_collect (A := X.A.in1) (kdl_raw notSys exact_ dat) (I.ok.hd calm) ho (by omega) fun g tk acc kp it => ?_
    rw [collected he it, hads]
    exact hR g tk kp
  · exact TupsL.sortable (s := { s with heap := g, toks := tk }) two (tups.keeps fun b o e _ => kp b o e) ha
end
end VA
set_option Elab.async false
set_option linter.all false
set_option maxRecDepth 100000
set_option maxHeartbeats 8000000
/-! V12: built-in functions of values. -/
namespace VA
noncomputable section
open PySem PySem.Spec PyProof.Rows L2 Srt
/-! ### sorted of a tuple of ints -/
section
variable {prog : Program} {w : World} {A : Around} {s : Shared} {E : Value → Shared → Prop}
/-- what is collected of a tuple: its items, into a list at the heap's end -/
theorem tuple_collected {l : Addr} {vs : List Value} {R : List Value → Shared → Prop} (tup : IsTup s.heap l vs.toArray) (fits : vs.length ≤ sizeLine)
    (hR : ∀ (g : Heap) (tk : Tok), (∀ b o, s.heap.get? b = some o → g.get? b = some o) → R vs { s with heap := g, toks := tk }) : wpAny (model prog w) A (collect (.ref l)) R E s := by
  obtain ⟨o, at_l, isT, n, items⟩ := tup
  let empty : Obj := seqObj "list" #[] 0
  have at_l' : (s.heap.push empty).get? l = some o := Heap.get?_push_of_some _ at_l
  have at_e : (s.heap.push empty).get? s.heap.objs.size = some empty := Heap.get?_push_size _ rfl
  unfold collect
  apply wpAny_bind
  apply wpAny_runValue
  apply codeAny_builtin entry_proto_collect'
  show wpAny _ _ (newList [] >>= fun x => again (.builtin "list.__iadd__" ⟨[x, .ref l], []⟩)) _ _ s
  apply wpAny_bind
  refine wpAny_newList ?_ (Nat.zero_le _)
  apply wpAny_pure
  refine ⟨Code.quiet_builtin _ (by decide +kernel), ?_⟩
  apply codeAny_builtin entry_list_iadd'
  show wpAny _ _ (Builtin.List.listExtendWith (.ref s.heap.objs.size) (.ref l) (.ref s.heap.objs.size)) _ _ { s with heap := s.heap.push empty }
  simp only [Builtin.List.listExtendWith]
  apply wpAny_bind
  refine wpAny_typeOf (T := "tuple") ⟨o, at_l', isT⟩ ?_
  have isSeq : (Value.type "tuple" == Value.type "tuple") = true := rfl
  rw [isSeq, Bool.or_true, if_pos rfl]
  apply wpAny_bind
  apply listItems_at at_l' items
  apply wpAny_bind
  apply listItems_at (xs := #[]) (n := 0) at_e rfl
  rw [if_neg (by simp)]
  apply wpAny_bind
  refine listUpdate_at (xs := #[]) (n := 0) at_e rfl ?_ (Nat.zero_le _) (by simp only [Array.size_append, List.size_toArray, List.length_nil]; omega)
  apply wpAny_pure
  have upd_at := get?_update_seq (h := s.heap.push empty) (a := s.heap.objs.size) (xs := #[]) (n := 0) at_e (· ++ vs.toArray)
  refine wpAny_bind (wpAny_load upd_at ?_)
  have all : ((#[] : Array Value) ++ vs.toArray).toList = vs := by simp
  apply wpAny_pure
  show R ((#[] : Array Value) ++ vs.toArray).toList _
  rw [all]
  refine hR _ s.toks fun b u e => ?_
  rw [Heap.get?_update_ne _ _ _ _ (Nat.ne_of_lt (Heap.lt_size e))]
  exact Heap.get?_push_of_some empty e
end
def rSortTI (K : PySem.W.Frag) : List V → Hp → VK → Prop := fun vs H Q => ∃ (a : Addr) (ns : List Int), vs = [V.ref a] ∧ SqT K H a (ns.map V.int) ∧
  ∀ (out : List Int) (p : Addr), out.Perm ns → out.Pairwise (· ≤ ·) → H p = none → Q (.ref p) (upd H p (.lst (out.map V.int)))
section
variable {X : Cx}
theorem cr_sortTI : CallR X (.builtin "sorted") (rSortTI X.K) := fun pins s σ H _ us Q I rv ⟨a, ns, e, sq, q⟩ => by
  subst e
  obtain ⟨u, rfl, eu⟩ := vals1 rv
  have eu : u = Value.ref a := eu
  subst eu
  obtain ⟨its, vals, tup, fits⟩ := I.tuple sq
  have whole := vals.ints
  have len : its.length ≤ sizeLine := vals.length ▸ fits
  refine sorted_by SrtO.swo_int len (fun R hR => tuple_collected tup len hR) (fun two g tk a' _ _ => SrtO.ints_sortable whole two) fun g g2 tk n out up same kp kp2 at_ => ?_
  obtain ⟨is, pm, asc⟩ := SrtO.ints_out whole up same
  have Ig : Inv X pins σ H { s with heap := g, toks := tk } := I.kept kp
  rw [List.length_map] at fits
  exact ⟨.ref g.objs.size, _, Ig.laid (a := g.objs.size) (o := .lst ((out.map SrtO.iv).map V.int)) (h' := g2) (t' := tk) kp2 (Nat.le_refl _) ⟨by rw [List.length_map, pm.length_eq]; exact fits, out, n, vals_of_ints is, at_⟩, rfl, q _ _ pm asc (Ig.hok.fresh (Nat.le_refl _))⟩
end
/-! ### values in, a value out -/
def RRs (K : PySem.W.Frag) (T : Tab) (ρ : Rho) (H : Hp) : List W → List V → Prop
  | [], [] => True
  | w :: ws, v :: vs => RR K T ρ H w v ∧ RRs K T ρ H ws vs
  | _, _ => False
def resL (h : Hpi) : List W → List W
  | [] => []
  | w :: ws => res h w :: resL h ws
theorem RWs.rrs {K : PySem.W.Frag} {T : Tab} {ρ : Rho} {H : Hp} {hp : Hpi} (rh : RelH K T ρ H hp) : ∀ {ws : List W} {vs : List V}, RWs K T ρ H ws vs → RRs K T ρ H (resL hp ws) vs
  | _, _, .nil => trivial
  | _, _, .cons h t => ⟨RR.res rh h, t.rrs rh⟩
def OpN (K : PySem.W.Frag) (T : Tab) (r : List V → Hp → VK → Prop) (o : List W → Option W) : Prop := ∀ (ρ : Rho) (H : Hp) (h : Hpi) (ws : List W) (w : W) (vs : List V) (Q : VK), o ws = some w → RelH K T ρ H h → RRs K T ρ H ws vs →
  (∀ H' v, Stp ρ H ρ H' → RelH K T ρ H' h → RW K T ρ H' w v → Q v H') → r vs H Q
theorem OpN.or1 {K : PySem.W.Frag} {T : Tab} {r r' : List V → Hp → VK → Prop} {o : List W → Option W} (h : OpN K T r o) : OpN K T (fun vs H Q => r vs H Q ∨ r' vs H Q) o := fun ρ H h' ws w vs Q e rh rr q => .inl (h ρ H h' ws w vs Q e rh rr q)
def mBi (o : List W → Option W) (a : D) : D := fun ca e h => bndA (a ca e h) fun ws h1 => opt (o (resL h1 ws)) e h1
section
variable {X : Cx} {T : Tab} {ca : CallT}
theorem t_bi {K : PySem.W.Frag} {W₀ : WX} {r : List V → Hp → VK → Prop} {o : List W → Option W} (g : OpN K T r o) {d : D} {σ : L2.St} {H : Hp} {Q : VK} (h : tE K T ca W₀ (mBi o d) σ H Q) : tCB r (tA K T ca W₀ d) σ H Q := by
  obtain ⟨ρ, e, hp, re, rh, f⟩ := h
  refine ⟨ρ, e, hp, re, rh, (fin_bndA f).imp ?_⟩
  rintro vs H1 ⟨ρ1, ws, h1, s1, rh1, r1, f1⟩
  cases q : o (resL h1 ws) with
  | none => rw [q] at f1; exact f1.elim
  | some w =>
    rw [q] at f1
    exact g ρ1 H1 h1 _ w vs Q q rh1 (r1.rrs rh1) fun H' v s rh' rw' => f1 ρ1 H' v s rh' rw'
theorem SE.callB {x : Str} {p pos : Pos} {a : Expr} {es : List Expr} {d : D} {id : String} {r : List V → Hp → VK → Prop} {o : List W → Option W} (g : OpN X.K T r o) (hc : CallR X (.builtin id) r) (hg : Gl X x) (hm : X.mg x = none) (hv : bootBuiltins x = some (.builtin id)) (ha : SA T ca X (a :: es) d)
    (hn : x ≠ "__name__") (hdb : (x == ("__debug__" : Str)) = false) (he : starEach (a :: es) X.env = (false, eval a X.env) :: starEach es X.env) (hpl : (backTo pos (starEach es X.env)).any (·.1) = false) : SE T ca X (.Call (.Name x p) (a :: es) [] pos) (mBi o d) := fun W₀ t =>
  (pe_callB hc hg hm hv (ha W₀ t) hn hdb he hpl).weak fun _ _ _ h => t_bi g h
theorem SE.callTy {x : Str} {p pos : Pos} {a : Expr} {es : List Expr} {d : D} {id : String} {r : List V → Hp → VK → Prop} {o : List W → Option W} (g : OpN X.K T r o) (hc : CallR X (.type id) r) (hg : Gl X x) (hm : X.mg x = none) (hv : bootBuiltins x = some (.type id)) (ha : SA T ca X (a :: es) d)
    (hn : x ≠ "__name__") (hdb : (x == ("__debug__" : Str)) = false) (he : starEach (a :: es) X.env = (false, eval a X.env) :: starEach es X.env) (hpl : (backTo pos (starEach es X.env)).any (·.1) = false) : SE T ca X (.Call (.Name x p) (a :: es) [] pos) (mBi o d) := fun W₀ t =>
  (pe_callTy hc hg hm hv (ha W₀ t) hn hdb he hpl).weak fun _ _ _ h => t_bi g h
end
/-! ### the functions -/
def lenI {α : Type} (xs : List α) : Option W := sqN (lenN xs) fun n => some (.int (.ofNat n))
def oLen (ws : List W) : Option W := match ws with
  | [w] => (match w with
    | .tup xs => lenI xs
    | .lst xs => lenI xs
    | .scr xs => lenI xs
    | .ktp xs => lenI xs
    | .ftp xs => lenI xs
    | .dct ks _ => lenI ks
    | .str s => (match Nat.ble (lenN s) lim with
      | true => lenI s
      | false => Option.none)
    | _ => Option.none)
  | _ => Option.none
def oAbs (ws : List W) : Option W := match ws with
  | [w] => (match w with
    | .int i => sqN i.natAbs fun n => some (.int (.ofNat n))
    | .rng n => some (.rng n)
    | .anyi => some .anyi
    | _ => Option.none)
  | _ => Option.none
def oMax2 (ws : List W) : Option W := match ws with
  | [a, b] => (match a with
    | .int i => (match b with
      | .int j => (match ile (i + 1) j with
        | true => some (.int j)
        | false => some (.int i))
      | _ => Option.none)
    | _ => Option.none)
  | _ => Option.none
def oMin2 (ws : List W) : Option W := match ws with
  | [a, b] => (match a with
    | .int i => (match b with
      | .int j => (match ile (j + 1) i with
        | true => some (.int j)
        | false => some (.int i))
      | _ => Option.none)
    | _ => Option.none)
  | _ => Option.none
def dig (c : Nat) : Option Nat := match Nat.ble 48 c with
  | true => (match Nat.ble c 57 with
    | true => some (c - 48)
    | false => Option.none)
  | false => Option.none
def oInt (ws : List W) : Option W := match ws with
  | [w] => (match w with
    | .int i => some (.int i)
    | .rng n => some (.rng n)
    | .anyi => some .anyi
    | .bl b => (match b with
      | true => some (.int 1)
      | false => some (.int 0))
    | .anyb => some (.rng 2)
    | .str s => (match s with
      | [c] => (match dig c with
        | some d => sqN d fun n => some (.int (.ofNat n))
        | Option.none => Option.none)
      | _ => Option.none)
    | _ => Option.none)
  | _ => Option.none
def oTuple (ws : List W) : Option W := match ws with
  | [w] => (match w with
    | .tup xs => some (.tup xs)
    | .ktp xs => some (.ktp xs)
    | .lst xs => some (.tup xs)
    | .scr xs => some (.tup xs)
    | _ => Option.none)
  | _ => Option.none
def oList (ws : List W) : Option W := match ws with
  | [w] => (match w with
    | .tup xs => some (.lst xs)
    | .ktp xs => some (.lst xs)
    | .lst xs => some (.lst xs)
    | .scr xs => some (.lst xs)
    | .dct ks _ => some (.lst ks)
    | _ => Option.none)
  | _ => Option.none
def blsOf : List W → Option (List Bool)
  | [] => some []
  | x :: xs => match x with
    | .bl b => (match blsOf xs with
      | some bs => some (b :: bs)
      | Option.none => Option.none)
    | _ => Option.none
def allB : List Bool → Bool
  | [] => true
  | b :: bs => match b with
    | true => allB bs
    | false => false
def anyBs : List Bool → Bool
  | [] => false
  | b :: bs => match b with
    | true => true
    | false => anyBs bs
def oAll (ws : List W) : Option W := match ws with
  | [w] => (match w with
    | .lst xs => (match blsOf xs with
      | some bs => sqB (allB bs) fun b => some (.bl b)
      | Option.none => Option.none)
    | _ => Option.none)
  | _ => Option.none
def oAny (ws : List W) : Option W := match ws with
  | [w] => (match w with
    | .lst xs => (match blsOf xs with
      | some bs => sqB (anyBs bs) fun b => some (.bl b)
      | Option.none => Option.none)
    | _ => Option.none)
  | _ => Option.none
def oStr (ws : List W) : Option W := match ws with
  | [w] => (match w with
    | .int i => (match i with
      | .ofNat n => (match Nat.blt n 10 with
        | true => sqN (48 + n) fun c => some (.str [c])
        | false => Option.none)
      | .negSucc _ => Option.none)
    | _ => Option.none)
  | _ => Option.none
section
variable {X : Cx} {K : PySem.W.Frag} {T : Tab} {ρ : Rho} {H : Hp} {h : Hpi}
theorem rrs1 {w : W} {vs : List V} (r : RRs K T ρ H [w] vs) : ∃ v, vs = [v] ∧ RR K T ρ H w v := by
  match vs, r with
  | [v], r => exact ⟨v, rfl, r.1⟩
theorem rrs2 {a b : W} {vs : List V} (r : RRs K T ρ H [a, b] vs) : ∃ v u, vs = [v, u] ∧ RR K T ρ H a v ∧ RR K T ρ H b u := by
  match vs, r with
  | [v, u], r => exact ⟨v, u, rfl, r.1, r.2.1⟩
/-- what may be walked as a list or a tuple -/
theorem seq_of {w : W} {xs : List W} {v : V} (hw : w = .tup xs ∨ w = .lst xs ∨ w = .scr xs ∨ w = .ktp xs) (r : RR K T ρ H w v) : ∃ p ys, v = .ref p ∧ (SqL K H p ys ∨ SqT K H p ys) ∧ RWs K T ρ H xs ys := by
  rcases hw with rfl | rfl | rfl | rfl
  · cases r with
    | tup ha la => exact ⟨_, _, rfl, .inr ha.sq, la⟩
  · obtain ⟨a, vs, rfl, ha, la⟩ := r
    exact ⟨_, _, rfl, .inl (SqL.of ha), la⟩
  · cases r with
    | scr ha la => exact ⟨_, _, rfl, .inl ha.sq, la⟩
  · cases r with
    | ktp ha la => exact ⟨_, _, rfl, .inr ha.sq, la⟩
abbrev rLen (K : PySem.W.Frag) : List V → Hp → VK → Prop := fun xs H Q => (∃ p ys, xs = [.ref p] ∧ (SqL K H p ys ∨ SqT K H p ys) ∧ Q (.int ys.length) H) ∨ ((∃ z, xs = [.str z] ∧ z.length ≤ sizeLine ∧ Q (.int z.length) H) ∨
  ((∃ a kvs, xs = [V.ref a] ∧ Rd H a (.dK kvs) ∧ Q (.int (kvs.length : Nat)) H) ∨ ∃ a kvs, xs = [V.ref a] ∧ Rd H a (.dT kvs) ∧ Q (.int (kvs.length : Nat)) H))
theorem cr_len : CallR X (.builtin "len") (rLen X.K) := fun pins s σ H xs us Q I rv h => by
  rcases h with h | h | h | ⟨d, kvs, e, hd, q⟩
  · exact call_len_seq pins s σ H xs us Q I rv h
  · exact call_len_str pins s σ H xs us Q I rv h
  · obtain ⟨d, kvs, e, hd, q⟩ := h
    subst e
    obtain ⟨u, rfl, eu⟩ := vals1 rv
    have eu : u = Value.ref d := eu
    subst eu
    exact d_len I hd fun t _ J => ⟨.int (kvs.length : Nat), H, J, ⟨t, rfl⟩, q⟩
  · subst e
    obtain ⟨u, rfl, eu⟩ := vals1 rv
    have eu : u = Value.ref d := eu
    subst eu
    obtain ⟨few, notSys, kk, pr, dict⟩ := dt_rd I.hok hd
    have same : kvs.length = kk.length := Paired.length pr
    have small : (kk.length : Int) < 2 ^ 63 := by
      have := sizeLine_eq
      omega
    refine call_len_dictH notSys dict small ⟨V.int (kvs.length : Nat), H, I.tok _, ⟨s.toks + 1, ?_⟩, q⟩
    rw [same]
theorem keys_len {κ : Type} {ks : List W} {kvs : List (κ × V)} {f : W → Option κ} (h : ks.map f = kvs.map fun p => some p.1) : ks.length = kvs.length := by
  simpa using congrArg List.length h
theorem lenI_eq {α : Type} {xs : List α} {w : W} (e : lenI xs = some w) : w = .int (xs.length : Nat) := by
  unfold lenI at e
  rw [sqN_eq, lenN_eq] at e
  cases e; rfl
theorem n_len : OpN K T (rLen K) oLen := by
  intro ρ H h ws w vs Q e rh rr q
  match ws, e, rr with
  | [a], e, rr =>
    obtain ⟨v, rfl, r⟩ := rrs1 rr
    have seqs : ∀ xs, (a = .tup xs ∨ a = .lst xs ∨ a = .scr xs ∨ a = .ktp xs) → lenI xs = some w → rLen K [v] H Q := fun xs hw e => by
      obtain ⟨p, ys, rfl, hs, la⟩ := seq_of hw r
      rw [lenI_eq e] at q
      exact .inl ⟨p, ys, rfl, hs, by rw [← la.length]; exact q H _ (Stp.refl _ _) rh (.int _)⟩
    cases a with
    | tup xs => exact seqs xs (.inl rfl) e
    | lst xs => exact seqs xs (.inr (.inl rfl)) e
    | scr xs => exact seqs xs (.inr (.inr (.inl rfl))) e
    | ktp xs => exact seqs xs (.inr (.inr (.inr rfl))) e
    | ftp xs =>
      cases r with
      | ftp ha la =>
        rw [lenI_eq (show lenI xs = some w from e)] at q
        exact .inl ⟨_, _, rfl, .inr ha.sq, by rw [← la.length]; exact q H _ (Stp.refl _ _) rh (.int _)⟩
    | dct ks xs =>
      rw [lenI_eq (show lenI ks = some w from e)] at q
      obtain ⟨p, o, rfl, hr, d⟩ := r
      rcases d with ⟨kvs, us, rfl, hk, _⟩ | ⟨kvs, us, rfl, hk, _⟩
      · exact .inr (.inr (.inl ⟨p, kvs, rfl, hr, by rw [← keys_len hk]; exact q H _ (Stp.refl _ _) rh (.int _)⟩))
      · exact .inr (.inr (.inr ⟨p, kvs, rfl, hr, by rw [← keys_len hk.1]; exact q H _ (Stp.refl _ _) rh (.int _)⟩))
    | str s =>
      cases r
      have e' : (match Nat.ble (lenN s) lim with | true => lenI s | false => Option.none) = some w := e
      cases z : Nat.ble (lenN s) lim with
      | false => rw [z] at e'; cases e'
      | true =>
        rw [z] at e'
        rw [lenI_eq e'] at q
        rw [lenN_eq] at z
        exact .inr (.inl ⟨_, rfl, by rw [str_len]; exact Nat.le_trans (Nat.le_of_ble_eq_true z) lim_line, by rw [str_len]; exact q H _ (Stp.refl _ _) rh (.int _)⟩)
    | _ => cases e
theorem abs_eq (i : Int) : (if i < 0 then -i else i) = ((i.natAbs : Nat) : Int) := by
  split <;> omega
theorem n_abs : OpN K T (fun xs H Q => ∃ i, xs = [.int i] ∧ Q (.int (if i < 0 then -i else i)) H) oAbs := by
  intro ρ H h ws w vs Q e rh rr q
  match ws, e, rr with
  | [a], e, rr =>
    obtain ⟨v, rfl, r⟩ := rrs1 rr
    cases a with
    | int i =>
      cases r
      have e' : sqN i.natAbs (fun n => some (W.int (.ofNat n))) = some w := e
      rw [sqN_eq] at e'; cases e'
      exact ⟨i, rfl, by rw [abs_eq]; exact q H _ (Stp.refl _ _) rh (.int _)⟩
    | rng n =>
      cases e
      cases r with
      | rng _ i hi => exact ⟨_, rfl, by rw [abs_eq]; exact q H _ (Stp.refl _ _) rh (.rng _ i hi)⟩
    | anyi => cases e; cases r; exact ⟨_, rfl, q H _ (Stp.refl _ _) rh (.anyi _)⟩
    | _ => cases e
theorem n_max : OpN K T (fun xs H Q => ∃ i j, xs = [.int i, .int j] ∧ Q (.int (if j > i then j else i)) H) oMax2 := by
  intro ρ H h ws w vs Q e rh rr q
  match ws, e, rr with
  | [a, b], e, rr =>
    obtain ⟨v, u, rfl, r1, r2⟩ := rrs2 rr
    cases a with
    | int i =>
      cases b with
      | int j =>
        cases r1; cases r2
        refine ⟨i, j, rfl, ?_⟩
        have e' : (match ile (i + 1) j with | true => some (W.int j) | false => some (.int i)) = some w := e
        rw [ile_eq] at e'
        by_cases c : j > i
        · rw [decide_eq_true (by omega)] at e'; cases e'
          rw [if_pos c]; exact q H _ (Stp.refl _ _) rh (.int _)
        · rw [decide_eq_false (by omega)] at e'; cases e'
          rw [if_neg c]; exact q H _ (Stp.refl _ _) rh (.int _)
      | _ => cases e
    | _ => cases e
theorem n_min : OpN K T (fun xs H Q => ∃ i j, xs = [.int i, .int j] ∧ Q (.int (if j < i then j else i)) H) oMin2 := by
  intro ρ H h ws w vs Q e rh rr q
  match ws, e, rr with
  | [a, b], e, rr =>
    obtain ⟨v, u, rfl, r1, r2⟩ := rrs2 rr
    cases a with
    | int i =>
      cases b with
      | int j =>
        cases r1; cases r2
        refine ⟨i, j, rfl, ?_⟩
        have e' : (match ile (j + 1) i with | true => some (W.int j) | false => some (.int i)) = some w := e
        rw [ile_eq] at e'
        by_cases c : j < i
        · rw [decide_eq_true (by omega)] at e'; cases e'
          rw [if_pos c]; exact q H _ (Stp.refl _ _) rh (.int _)
        · rw [decide_eq_false (by omega)] at e'; cases e'
          rw [if_neg c]; exact q H _ (Stp.refl _ _) rh (.int _)
      | _ => cases e
    | _ => cases e
abbrev rInt : List V → Hp → VK → Prop := fun xs H Q => ((∃ i, xs = [.int i] ∧ Q (.int i) H) ∨ ∃ k, xs = [.bl k] ∧ Q (.int (if k then 1 else 0)) H) ∨ ∃ a n, xs = [.str a] ∧ PySem.intText? a = some n ∧ a.length ≤ 640 ∧ Q (.int n) H
theorem cr_int : CallR X (.type "int") rInt := call_int1.or call_int_str
theorem dig_ok {c d : Nat} (h : dig c = some d) : PySem.intText? (⟨([c] : List Nat).toArray⟩ : Str) = some ((d : Nat) : Int) := by
  unfold dig at h
  cases a : Nat.ble 48 c with
  | false => rw [a] at h; cases h
  | true =>
    rw [a] at h
    simp only at h
    cases b : Nat.ble c 57 with
    | false => rw [b] at h; cases h
    | true =>
      rw [b] at h
      cases h
      have h1 := Nat.le_of_ble_eq_true a
      have h2 := Nat.le_of_ble_eq_true b
      have z := SX.int_S (a := [c]) (by simp [h1, h2]) (by simp) (by simp)
      have v : NumText.digitsVal [c] = c - 48 := by unfold NumText.digitsVal; simp
      rw [v] at z
      exact z
theorem n_int : OpN K T rInt oInt := by
  intro ρ H h ws w vs Q e rh rr q
  match ws, e, rr with
  | [a], e, rr =>
    obtain ⟨v, rfl, r⟩ := rrs1 rr
    cases a with
    | int i => cases e; cases r; exact .inl (.inl ⟨_, rfl, q H _ (Stp.refl _ _) rh (.int _)⟩)
    | rng n => cases e; exact .inl (.inl (by cases r with | rng _ i hi => exact ⟨_, rfl, q H _ (Stp.refl _ _) rh (.rng _ i hi)⟩))
    | anyi => cases e; cases r; exact .inl (.inl ⟨_, rfl, q H _ (Stp.refl _ _) rh (.anyi _)⟩)
    | bl b => cases r; cases b <;> cases e <;> exact .inl (.inr ⟨_, rfl, q H _ (Stp.refl _ _) rh (.int _)⟩)
    | anyb =>
      cases e
      cases r with
      | anyb b =>
        refine .inl (.inr ⟨b, rfl, ?_⟩)
        cases b with
        | true => exact q H _ (Stp.refl _ _) rh (.rng 2 1 (by decide))
        | false => exact q H _ (Stp.refl _ _) rh (.rng 2 0 (by decide))
    | str s =>
      cases r
      match s, e with
      | [c], e =>
        have e' : (match dig c with | some d => sqN d fun n => some (W.int (.ofNat n)) | Option.none => Option.none) = some w := e
        cases z : dig c with
        | none => rw [z] at e'; cases e'
        | some d =>
          rw [z] at e'
          simp only [sqN_eq] at e'
          cases e'
          exact .inr ⟨_, _, rfl, dig_ok z, by rw [str_len]; show 1 ≤ 640; decide, q H _ (Stp.refl _ _) rh (.int _)⟩
    | _ => cases e
abbrev rTuple (K : PySem.W.Frag) : List V → Hp → VK → Prop := fun xs H Q => ∃ p ys, xs = [.ref p] ∧ ((SqL K H p ys ∧ ∀ l, H l = none → Q (.ref l) (upd H l (.tup ys))) ∨ (SqT K H p ys ∧ Q (.ref p) H))
theorem n_tuple : OpN K T (rTuple K) oTuple := by
  intro ρ H h ws w vs Q e rh rr q
  match ws, e, rr with
  | [a], e, rr =>
    obtain ⟨v, rfl, r⟩ := rrs1 rr
    cases a with
    | tup xs => cases e; cases r with
      | tup ha la => exact ⟨_, _, rfl, .inr ⟨ha.sq, q H _ (Stp.refl _ _) rh (.tup ha la)⟩⟩
    | ktp xs => cases e; cases r with
      | ktp ha la => exact ⟨_, _, rfl, .inr ⟨ha.sq, q H _ (Stp.refl _ _) rh (.ktp ha la)⟩⟩
    | lst xs =>
      cases e
      obtain ⟨p, vs, rfl, ha, la⟩ := r
      refine ⟨_, _, rfl, .inl ⟨SqL.of ha, fun l np => ?_⟩⟩
      obtain ⟨a1, a2, a3⟩ := new_tup rh np la
      exact q _ _ a1 a2 a3
    | scr xs => cases e; cases r with
      | scr ha la =>
        refine ⟨_, _, rfl, .inl ⟨ha.sq, fun l np => ?_⟩⟩
        obtain ⟨a1, a2, a3⟩ := new_tup rh np la
        exact q _ _ a1 a2 a3
    | _ => cases e
end
end
end VA
set_option Elab.async false
set_option linter.all false
set_option maxRecDepth 100000
set_option maxHeartbeats 8000000
/-! V13: list, sorted, all, any, str; looks into dicts. -/
namespace VA
noncomputable section
open PySem PySem.Spec PyProof.Rows L2 Srt
/-! ### sorting -/
def insS {α : Type} (lt : α → α → Bool) (x : α) : List α → List α
  | [] => [x]
  | y :: ys => match lt y x with
    | true => y :: insS lt x ys
    | false => x :: y :: ys
def srtS {α : Type} (lt : α → α → Bool) : List α → List α
  | [] => []
  | x :: xs => insS lt x (srtS lt xs)
theorem insS_perm {α : Type} {lt : α → α → Bool} (x : α) : ∀ l : List α, (insS lt x l).Perm (x :: l)
  | [] => List.Perm.refl _
  | y :: ys => by
    unfold insS
    cases lt y x with
    | true => exact ((insS_perm x ys).cons y).trans (List.Perm.swap x y ys)
    | false => exact List.Perm.refl _
theorem srtS_perm {α : Type} {lt : α → α → Bool} : ∀ l : List α, (srtS lt l).Perm l
  | [] => List.Perm.refl _
  | x :: xs => (insS_perm x _).trans ((srtS_perm xs).cons x)
theorem insS_srt {α : Type} {lt : α → α → Bool} (O : SrtO.Swo lt) (x : α) : ∀ {l : List α}, (l.Pairwise fun a b => lt b a = false) → (insS lt x l).Pairwise fun a b => lt b a = false
  | [], _ => List.pairwise_singleton _ _
  | y :: ys, h => by
    have ⟨h1, h2⟩ := List.pairwise_cons.mp h
    unfold insS
    cases e : lt y x with
    | true =>
      refine List.pairwise_cons.mpr ⟨fun z hz => ?_, insS_srt O x h2⟩
      rcases List.mem_cons.mp ((insS_perm x ys).mem_iff.mp hz) with q | q
      · rw [q]; exact O.asym _ _ e
      · exact h1 z q
    | false =>
      refine List.pairwise_cons.mpr ⟨fun z hz => ?_, h⟩
      rcases List.mem_cons.mp hz with q | q
      · rw [q]; exact e
      · exact O.tr _ _ _ e (h1 z q)
theorem srtS_srt {α : Type} {lt : α → α → Bool} (O : SrtO.Swo lt) : ∀ l : List α, (srtS lt l).Pairwise fun a b => lt b a = false
  | [] => List.Pairwise.nil
  | x :: xs => insS_srt O x (srtS_srt O xs)
theorem srt_uniq {α : Type} {lt : α → α → Bool} (anti : ∀ x y, lt x y = false → lt y x = false → x = y) : ∀ {l m : List α}, l.Perm m → (l.Pairwise fun a b => lt b a = false) → (m.Pairwise fun a b => lt b a = false) → l = m
  | [], m, p, _, _ => by rw [List.nil_perm.mp p]
  | a :: l, [], p, _, _ => by cases List.perm_nil.mp p
  | a :: l, b :: m, p, h1, h2 => by
    obtain ⟨a1, a2⟩ := List.pairwise_cons.mp h1
    obtain ⟨b1, b2⟩ := List.pairwise_cons.mp h2
    have e : a = b := by
      rcases List.mem_cons.mp (p.mem_iff.mp List.mem_cons_self) with q | q
      · exact q
      · rcases List.mem_cons.mp (p.symm.mem_iff.mp List.mem_cons_self) with q2 | q2
        · exact q2.symm
        · exact anti a b (b1 a q) (a1 b q2)
    subst e
    rw [srt_uniq anti p.cons_inv a2 b2]
def ltI (i j : Int) : Bool := ile (i + 1) j
theorem ltI_eq (i j : Int) : ltI i j = decide (i < j) := by
  unfold ltI
  rw [ile_eq]
  exact decide_eq_decide.mpr ⟨by omega, by omega⟩
theorem swo_ltI : SrtO.Swo ltI := ⟨fun x y h => by rw [ltI_eq] at h ⊢; have := of_decide_eq_true h; exact decide_eq_false (by omega), fun x y z h1 h2 => by
  rw [ltI_eq] at h1 h2 ⊢
  have := of_decide_eq_false h1
  have := of_decide_eq_false h2
  exact decide_eq_false (by omega)⟩
theorem ltI_anti (x y : Int) (h1 : ltI x y = false) (h2 : ltI y x = false) : x = y := by
  rw [ltI_eq] at h1 h2
  have := of_decide_eq_false h1
  have := of_decide_eq_false h2
  omega
theorem sortI_uniq {ns ns' : List Int} (p : ns'.Perm ns) (o : ns'.Pairwise (· ≤ ·)) : ns' = srtS ltI ns :=
  srt_uniq ltI_anti (p.trans (srtS_perm ns).symm) (o.imp fun {a b} h => by rw [ltI_eq]; exact decide_eq_false (by omega)) (srtS_srt swo_ltI ns)
theorem sortL_uniq {l l' : List (List Int)} (p : l'.Perm l) (o : l'.Pairwise fun x y => lexL y x = false) : l' = srtS lexL l :=
  srt_uniq lexL_eq (p.trans (srtS_perm l).symm) o (srtS_srt (swo_lexL id) l)
def intsW : List W → Option (List Int)
  | [] => some []
  | x :: xs => match x with
    | .int i => (match intsW xs with
      | some ns => some (i :: ns)
      | Option.none => Option.none)
    | _ => Option.none
def tupsW : List W → Option (List (List Int))
  | [] => some []
  | x :: xs => match x with
    | .tup ys => (match intsW ys with
      | some ns => (match ns with
        | [] => Option.none
        | n :: ns => (match tupsW xs with
          | some nss => some ((n :: ns) :: nss)
          | Option.none => Option.none))
      | Option.none => Option.none)
    | _ => Option.none
def mapI : List Int → List W
  | [] => []
  | i :: is => .int i :: mapI is
theorem mapI_eq : ∀ l : List Int, mapI l = l.map W.int
  | [] => rfl
  | i :: is => by simp only [mapI, mapI_eq is, List.map_cons]
def mapT : List (List Int) → List W
  | [] => []
  | i :: is => .tup (mapI i) :: mapT is
theorem mapT_eq : ∀ l : List (List Int), mapT l = l.map fun ns => W.tup (mapI ns)
  | [] => rfl
  | i :: is => by simp only [mapT, mapT_eq is, List.map_cons]
theorem intsW_eq : ∀ {xs : List W} {ns : List Int}, intsW xs = some ns → xs = mapI ns
  | [], ns, h => by cases h; rfl
  | x :: xs, ns, h => by
    cases x with
    | int i =>
      have h' : (match intsW xs with | some ns => some (i :: ns) | Option.none => Option.none) = some ns := h
      cases e : intsW xs with
      | none => rw [e] at h'; exact nomatch h'
      | some ms => rw [e] at h'; cases h'; rw [intsW_eq e]; rfl
    | _ => cases h
theorem tupsW_eq : ∀ {xs : List W} {nss : List (List Int)}, tupsW xs = some nss → xs = mapT nss ∧ ∀ ns ∈ nss, ns ≠ []
  | [], ns, h => by cases h; exact ⟨rfl, fun ns h => by cases h⟩
  | x :: xs, nss, h => by
    cases x with
    | tup ys =>
      have h' : (match intsW ys with
        | some ns => (match ns with
          | [] => Option.none
          | n :: ns => (match tupsW xs with
            | some nss => some ((n :: ns) :: nss)
            | Option.none => Option.none))
        | Option.none => Option.none) = some nss := h
      cases e : intsW ys with
      | none => rw [e] at h'; exact nomatch h'
      | some ms =>
        rw [e] at h'
        cases ms with
        | nil => cases h'
        | cons m ms =>
          cases e2 : tupsW xs with
          | none => simp only [e2] at h'; cases h'
          | some mss =>
            simp only [e2] at h'
            cases h'
            obtain ⟨a, b⟩ := tupsW_eq e2
            refine ⟨by rw [intsW_eq e, a]; rfl, fun ns hn => ?_⟩
            rcases List.mem_cons.mp hn with q | q
            · rw [q]; exact List.cons_ne_nil _ _
            · exact b ns q
    | _ => cases h
section
variable {X : Cx} {K : PySem.W.Frag} {T : Tab} {ρ : Rho} {H : Hp} {h : Hpi}
theorem rws_ints : ∀ {ns : List Int} {vs : List V}, RWs K T ρ H (mapI ns) vs → vs = ns.map V.int
  | [], _, .nil => rfl
  | n :: ns, _, .cons h t => by cases h; rw [rws_ints t]; rfl
theorem ints_rws : ∀ ns : List Int, RWs K T ρ H (mapI ns) (ns.map V.int)
  | [] => .nil
  | n :: ns => .cons (.int n) (ints_rws ns)
theorem rws_map {f : V → W} : ∀ {ys : List V}, (∀ y ∈ ys, RW K T ρ H (f y) y) → RWs K T ρ H (ys.map f) ys
  | [], _ => .nil
  | y :: ys, h => .cons (h y List.mem_cons_self) (rws_map fun z hz => h z (List.mem_cons_of_mem _ hz))
/-- the ints of a tuple -/
def kTup (H : Hp) (x : V) : List Int := match x with
  | .ref b => (match H b with
    | some (.tup vs) => vs.map fun v => match v with | .int i => i | _ => 0
    | _ => [])
  | _ => []
theorem kTup_at {b : Addr} {ns : List Int} (h : H b = some (.tup (ns.map V.int))) : kTup H (.ref b) = ns := by
  unfold kTup
  simp only [h]
  rw [List.map_map]
  have : ((fun v : V => match v with | .int i => i | _ => 0) ∘ V.int) = id := rfl
  rw [this, List.map_id]
theorem rws_tups : ∀ {nss : List (List Int)} {vs : List V}, RWs K T ρ H (mapT nss) vs → vs.map (kTup H) = nss ∧ ∀ v ∈ vs, ∃ t, v = V.ref t ∧ TupAt ρ H t ((kTup H v).map V.int) ∧ kTup H v ∈ nss
  | [], _, .nil => ⟨rfl, fun v h => by cases h⟩
  | ns :: nss, _, .cons h t => by
    obtain ⟨e1, a1⟩ := rws_tups t
    cases h with
    | tup ha la =>
      have e := rws_ints la
      rw [e] at ha
      have k := kTup_at ha.1
      refine ⟨by rw [List.map_cons, k, e1], fun v hv => ?_⟩
      rcases List.mem_cons.mp hv with q | q
      · rw [q, k]; exact ⟨_, rfl, ha, List.mem_cons_self⟩
      · obtain ⟨t', z1, z2, z3⟩ := a1 v q
        exact ⟨t', z1, z2, List.mem_cons_of_mem _ z3⟩
/-! keys as values -/
theorem kOf_v {w : W} {k : Key} (h : kOf w = some k) : RW K T ρ H w (kV k) := by
  cases w with
  | int i => cases h; exact .int i
  | str s => cases h; exact .str s
  | _ => cases h
theorem kOf_r {w : W} {k : Key} {v : V} (h : kOf w = some k) (r : RR K T ρ H w v) : v = kV k := by
  cases w with
  | int i => cases h; cases r; rfl
  | str s => cases h; cases r; rfl
  | _ => cases h
theorem ksOf_v : ∀ {ws : List W} {ks : List Key}, ksOf ws = some ks → RWs K T ρ H ws (ks.map kV)
  | [], ks, h => by cases h; exact .nil
  | w :: ws, ks, h => by
    simp only [ksOf] at h
    cases e1 : kOf w with
    | none => rw [e1] at h; cases h
    | some k =>
      cases e2 : ksOf ws with
      | none => rw [e1, e2] at h; cases h
      | some ks' => rw [e1, e2] at h; cases h; exact .cons (kOf_v e1) (ksOf_v e2)
theorem ksOf_r : ∀ {ws : List W} {ks : List Key} {vs : List V}, ksOf ws = some ks → RWs K T ρ H ws vs → vs = ks.map kV
  | [], ks, _, h, .nil => by cases h; rfl
  | w :: ws, ks, _, h, .cons r t => by
    simp only [ksOf] at h
    cases e1 : kOf w with
    | none => rw [e1] at h; cases h
    | some k =>
      cases e2 : ksOf ws with
      | none => rw [e1, e2] at h; cases h
      | some ks' => rw [e1, e2] at h; cases h; rw [kOf_r e1 r.rr, ksOf_r e2 t]; rfl
theorem tOf_r {w : W} {k : List Key} {v : V} (h : tOf w = some k) (r : RR K T ρ H w v) : ∃ b, v = .ref b ∧ H b = some (.tup (k.map kV)) := by
  cases w with
  | tup xs => cases r with
    | tup ha la => exact ⟨_, rfl, by rw [← ksOf_r (show ksOf xs = some k from h) la]; exact ha.1⟩
  | _ => cases h
theorem tup_not_mu (rh : RelH K T ρ H h) {b : Addr} {vs : List V} (e : H b = some (.tup vs)) : ¬ ρ.mu b := fun m => by
  obtain ⟨o, e1, t⟩ := rh.on b m
  rw [e] at e1
  cases e1
  cases t
theorem tOf_v (rh : RelH K T ρ H h) {w : W} {k : List Key} {b : Addr} (h' : tOf w = some k) (e : H b = some (.tup (k.map kV))) : RW K T ρ H w (.ref b) := by
  cases w with
  | tup xs => exact .tup ⟨e, tup_not_mu rh e⟩ (ksOf_v (show ksOf xs = some k from h'))
  | _ => cases h'
theorem keysK : ∀ {ks : List W} {kvs : List (Key × V)}, ks.map kOf = kvs.map (fun p => some p.1) → RWs K T ρ H ks (kvs.map fun p => kV p.1)
  | [], [], _ => .nil
  | k :: ks, p :: kvs, e => by
    injection e with e1 e2
    exact .cons (kOf_v e1) (keysK e2)
  | [], _ :: _, e => by cases e
  | _ :: _, [], e => by cases e
theorem keysT (rh : RelH K T ρ H h) : ∀ {ks : List W} {kvs : List (List Key × V)} {bs : List Addr}, ks.map tOf = kvs.map (fun p => some p.1) → IsKeys H kvs bs → RWs K T ρ H ks (bs.map V.ref)
  | [], [], _, _, .nil => .nil
  | k :: ks, p :: kvs, _, e, .cons h t => by
    injection e with e1 e2
    exact .cons (tOf_v rh e1 h) (keysT rh e2 t)
  | [], _ :: _, _, e, _ => by cases e
  | _ :: _, [], _, e, _ => by cases e
abbrev rList (K : PySem.W.Frag) : List V → Hp → VK → Prop := fun xs H Q => (∃ p ys, xs = [.ref p] ∧ (SqL K H p ys ∨ SqT K H p ys) ∧ ∀ l, H l = none → Q (.ref l) (upd H l (.lst ys))) ∨
  ((∃ (a : Addr) (kvs : List (Key × V)), xs = [.ref a] ∧ Rd H a (.dK kvs) ∧ ∀ p, H p = none → Q (.ref p) (upd H p (.lst (kvs.map fun kv => kV kv.1)))) ∨
   (∃ d kvs, xs = [V.ref d] ∧ Rd H d (.dT kvs) ∧ ∀ p bs, H p = none → IsKeys H kvs bs → Q (.ref p) (upd H p (.lst (bs.map V.ref)))))
theorem cr_list (hc : X.calm = true) : CallR X (.type "list") (rList X.K) := call_list_of.or ((call_listD hc).or (call_list_dT hc))
/-- what list(..) has -/
def lstW (w : W) (k : List W → Option W) : Option W := match w with
  | .tup xs => k xs
  | .ktp xs => k xs
  | .lst xs => k xs
  | .scr xs => k xs
  | .dct ks _ => k ks
  | _ => Option.none
theorem n_list : OpN K T (rList K) oList := by
  intro ρ H h ws w vs Q e rh rr q
  match ws, e, rr with
  | [a], e, rr =>
    obtain ⟨v, rfl, r⟩ := rrs1 rr
    have seqs : ∀ xs, (a = .tup xs ∨ a = .lst xs ∨ a = .scr xs ∨ a = .ktp xs) → W.lst xs = w → rList K [v] H Q := fun xs hw e => by
      obtain ⟨p, ys, rfl, hs, la⟩ := seq_of hw r
      subst e
      refine .inl ⟨p, ys, rfl, hs, fun l np => ?_⟩
      obtain ⟨a1, a2, a3⟩ := new_lst rh np la
      exact q _ _ a1 a2 a3
    cases a with
    | tup xs => exact seqs xs (.inl rfl) (Option.some.inj e)
    | lst xs => exact seqs xs (.inr (.inl rfl)) (Option.some.inj e)
    | scr xs => exact seqs xs (.inr (.inr (.inl rfl))) (Option.some.inj e)
    | ktp xs => exact seqs xs (.inr (.inr (.inr rfl))) (Option.some.inj e)
    | dct ks xs =>
      cases e
      obtain ⟨p, o, rfl, hr, d⟩ := r
      rcases d with ⟨kvs, us, rfl, hk, _⟩ | ⟨kvs, us, rfl, hk, _⟩
      · refine .inr (.inl ⟨p, kvs, rfl, hr, fun l np => ?_⟩)
        obtain ⟨a1, a2, a3⟩ := new_lst rh np (keysK hk)
        exact q _ _ a1 a2 a3
      · refine .inr (.inr ⟨p, kvs, rfl, hr, fun l bs np ik => ?_⟩)
        obtain ⟨a1, a2, a3⟩ := new_lst rh np (keysT rh hk.1 ik)
        exact q _ _ a1 a2 a3
    | _ => cases e
end
end
end VA
set_option Elab.async false
set_option linter.all false
set_option maxRecDepth 100000
set_option maxHeartbeats 8000000
/-! V14: sorted, all, any, str; in; subscripts. -/
namespace VA
noncomputable section
open PySem PySem.Spec PyProof.Rows L2 Srt
def frcI : List Int → (List W → Option W) → Option W
  | [], k => k []
  | i :: is, k => sqI i fun j => frcI is fun r => k (.int j :: r)
theorem frcI_eq : ∀ (l : List Int) (k : List W → Option W), frcI l k = k (mapI l)
  | [], _ => rfl
  | i :: is, k => by simp only [frcI, sqI_eq, frcI_eq is]; rfl
def frcT : List (List Int) → (List W → Option W) → Option W
  | [], k => k []
  | i :: is, k => frcI i fun t => frcT is fun r => k (.tup t :: r)
theorem frcT_eq : ∀ (l : List (List Int)) (k : List W → Option W), frcT l k = k (mapT l)
  | [], _ => rfl
  | i :: is, k => by simp only [frcT, frcI_eq, frcT_eq is]; rfl
def sortedL (xs : List W) : Option W := match intsW xs with
  | some ns => frcI (srtS ltI ns) fun r => some (.lst r)
  | Option.none => (match tupsW xs with
    | some nss => frcT (srtS lexL nss) fun r => some (.lst r)
    | Option.none => Option.none)
def oSorted (ws : List W) : Option W := match ws with
  | [w] => (match w with
    | .lst xs => sortedL xs
    | .tup xs => (match intsW xs with
      | some ns => frcI (srtS ltI ns) fun r => some (.lst r)
      | Option.none => Option.none)
    | .dct ks _ => (match Nat.blt (lenN ks) 64 with
      | true => sortedL ks
      | false => Option.none)
    | _ => Option.none)
  | _ => Option.none
section
variable {X : Cx} {K : PySem.W.Frag} {T : Tab} {ρ : Rho} {H : Hp} {h : Hpi}
abbrev rSorted (K : PySem.W.Frag) : List V → Hp → VK → Prop := fun xs H Q => rSortedI K xs H Q ∨ (rSortTI K xs H Q ∨ (rSortL K xs H Q ∨ ((∃ (a : Addr) (kvs : List (Key × V)) (ks : List Int), xs = [.ref a] ∧ Rd H a (.dK kvs) ∧ kvs.map (·.1) = ks.map Sum.inl ∧ ks.length < 64 ∧
    ∀ (ys : List Int) (p : Addr), ys.Perm ks → ys.Pairwise (· ≤ ·) → H p = none → Q (.ref p) (upd H p (.lst (ys.map V.int)))) ∨ rSortDT xs H Q)))
theorem cr_sorted (hc : X.calm = true) : CallR X (.builtin "sorted") (rSorted X.K) := cr_sortedI.or (cr_sortTI.or (cr_sortL.or ((call_sortedDI hc).or (cr_sortDT hc))))
theorem keys_ints : ∀ {ns : List Int} {kvs : List (Key × V)}, (mapI ns).map kOf = kvs.map (fun p => some p.1) → kvs.map (·.1) = ns.map Sum.inl
  | [], [], _ => rfl
  | n :: ns, p :: kvs, e => by
    injection e with e1 e2
    have e1' : some (Sum.inl n : Key) = some p.1 := e1
    injection e1' with e3
    rw [List.map_cons, List.map_cons, keys_ints e2, ← e3]
  | [], _ :: _, e => by cases e
  | _ :: _, [], e => by cases e
theorem ksOf_ints : ∀ ns : List Int, ksOf (mapI ns) = some (ns.map Sum.inl)
  | [] => rfl
  | n :: ns => by
    show (match kOf (.int n), ksOf (mapI ns) with | some k, some ks => some (k :: ks) | _, _ => Option.none) = _
    rw [ksOf_ints ns]
    rfl
theorem keys_tups : ∀ {nss : List (List Int)} {kvs : List (List Key × V)}, (mapT nss).map tOf = kvs.map (fun p => some p.1) → kvs.map (·.1) = nss.map fun ns => ns.map Sum.inl
  | [], [], _ => rfl
  | n :: ns, p :: kvs, e => by
    injection e with e1 e2
    have e1' : ksOf (mapI n) = some p.1 := e1
    rw [ksOf_ints] at e1'
    injection e1' with e3
    rw [List.map_cons, List.map_cons, keys_tups e2, ← e3]
  | [], _ :: _, e => by cases e
  | _ :: _, [], e => by cases e
/-- int keys and a dict of tuples: no key at all -/
theorem keys_none : ∀ {ns : List Int} {kvs : List (List Key × V)}, (mapI ns).map tOf = kvs.map (fun p => some p.1) → ns = [] ∧ kvs = []
  | [], [], _ => ⟨rfl, rfl⟩
  | n :: ns, p :: kvs, e => by
    injection e with e1 e2
    cases e1
  | [], _ :: _, e => by cases e
  | _ :: _, [], e => by cases e
theorem keys_none2 : ∀ {ns : List (List Int)} {kvs : List (Key × V)}, (mapT ns).map kOf = kvs.map (fun p => some p.1) → ns = [] ∧ kvs = []
  | [], [], _ => ⟨rfl, rfl⟩
  | n :: ns, p :: kvs, e => by
    injection e with e1 e2
    cases e1
  | [], _ :: _, e => by cases e
  | _ :: _, [], e => by cases e
theorem mapI_len (ns : List Int) : (mapI ns).length = ns.length := by rw [mapI_eq, List.length_map]
/-- the new list of ints -/
theorem fin_ints (rh : RelH K T ρ H h) {Q : VK} {ns : List Int} {w : W} (e : w = .lst (mapI (srtS ltI ns))) (q : ∀ H' v, Stp ρ H ρ H' → RelH K T ρ H' h → RW K T ρ H' w v → Q v H') {ns' : List Int} {p : Addr} (pm : ns'.Perm ns) (o : ns'.Pairwise (· ≤ ·)) (np : H p = none) : Q (.ref p) (upd H p (.lst (ns'.map V.int))) := by
  subst e
  rw [sortI_uniq pm o]
  obtain ⟨a1, a2, a3⟩ := new_lst rh np (ints_rws (K := K) (T := T) (ρ := ρ) (H := H) (srtS ltI ns))
  exact q _ _ a1 a2 a3
/-- the new list of tuples -/
theorem fin_tups (rh : RelH K T ρ H h) {Q : VK} {nss : List (List Int)} {w : W} (e : w = .lst (mapT (srtS lexL nss))) (q : ∀ H' v, Stp ρ H ρ H' → RelH K T ρ H' h → RW K T ρ H' w v → Q v H') {ys : List V} {k : V → List Int} {p : Addr} (pm : (ys.map k).Perm nss)
    (hy : ∀ y ∈ ys, ∃ t, y = V.ref t ∧ H t = some (.tup ((k y).map V.int))) (o : ys.Pairwise fun x y => lexL (k y) (k x) = false) (np : H p = none) : Q (.ref p) (upd H p (.lst ys)) := by
  subst e
  have e1 : ys.map k = srtS lexL nss := sortL_uniq pm (List.pairwise_map.mpr o)
  have r : RWs K T ρ H (mapT (srtS lexL nss)) ys := by
    rw [← e1, mapT_eq, List.map_map]
    refine rws_map fun y hm => ?_
    obtain ⟨t, rfl, ht⟩ := hy y hm
    exact .tup ⟨ht, tup_not_mu rh ht⟩ (ints_rws _)
  obtain ⟨a1, a2, a3⟩ := new_lst rh np r
  exact q _ _ a1 a2 a3
theorem sortedL_eq {xs : List W} {w : W} (e : sortedL xs = some w) : (∃ ns, xs = mapI ns ∧ w = .lst (mapI (srtS ltI ns))) ∨ ∃ nss, xs = mapT nss ∧ (∀ ns ∈ nss, ns ≠ []) ∧ w = .lst (mapT (srtS lexL nss)) := by
  unfold sortedL at e
  cases e1 : intsW xs with
  | some ns => rw [e1] at e; simp only [frcI_eq] at e; cases e; exact .inl ⟨ns, intsW_eq e1, rfl⟩
  | none =>
    rw [e1] at e
    cases e2 : tupsW xs with
    | none => simp only [e2] at e; cases e
    | some nss =>
      simp only [e2, frcT_eq] at e
      cases e
      obtain ⟨a, b⟩ := tupsW_eq e2
      exact .inr ⟨nss, a, b, rfl⟩
theorem zip_fst {α β : Type} : ∀ {l : List α} {m : List β}, l.length = m.length → ∀ b ∈ l, ∃ n, (b, n) ∈ l.zip m ∧ n ∈ m
  | [], [], _, b, h => by cases h
  | x :: l, y :: m, e, b, h => by
    rcases List.mem_cons.mp h with (q | q)
    · exact ⟨y, by rw [q]; exact List.mem_cons_self, List.mem_cons_self⟩
    · obtain ⟨n, h1, h2⟩ := zip_fst (by simpa using e) b q
      exact ⟨n, List.mem_cons_of_mem _ h1, List.mem_cons_of_mem _ h2⟩
theorem map_zip {α β γ : Type} {f : α → γ} {g : β → γ} : ∀ {l : List α} {m : List β}, l.length = m.length → (∀ a b, (a, b) ∈ l.zip m → f a = g b) → l.map f = m.map g
  | [], [], _, _ => rfl
  | x :: l, y :: m, e, h => by
    rw [List.map_cons, List.map_cons, h x y List.mem_cons_self, map_zip (by simpa using e) fun a b hm => h a b (List.mem_cons_of_mem _ hm)]
theorem n_sorted : OpN K T (rSorted K) oSorted := by
  intro ρ H h ws w vs Q e rh rr q
  match ws, e, rr with
  | [a], e, rr =>
    obtain ⟨v, rfl, r⟩ := rrs1 rr
    cases a with
    | lst xs =>
      obtain ⟨p, ys, rfl, ha, la⟩ := r
      rcases sortedL_eq e with ⟨ns, e1, e2⟩ | ⟨nss, e1, hne, e2⟩
      · rw [e1] at la
        rw [rws_ints la] at ha
        exact .inl ⟨p, ns, rfl, SqL.of ha, fun ns' p' pm o np => fin_ints rh e2 q pm o np⟩
      · rw [e1] at la
        obtain ⟨k1, k2⟩ := rws_tups la
        refine .inr (.inr (.inl ⟨p, ys, kTup H, rfl, SqL.of ha, fun x hx => ?_, fun zs p' pm o np => ?_⟩))
        · obtain ⟨t, z1, z2, z3⟩ := k2 x hx
          exact ⟨⟨t, z1, z2.sq⟩, hne _ z3⟩
        · refine fin_tups rh e2 q (by rw [← k1]; exact pm.map _) (fun y hy => ?_) o np
          obtain ⟨t, z1, z2, z3⟩ := k2 y (pm.mem_iff.mp hy)
          exact ⟨t, z1, z2.1⟩
    | tup xs =>
      cases r with
      | tup ha la =>
        have e' : (match intsW xs with | some ns => frcI (srtS ltI ns) fun r => some (W.lst r) | Option.none => Option.none) = some w := e
        cases e1 : intsW xs with
        | none => rw [e1] at e'; cases e'
        | some ns =>
          rw [e1] at e'
          simp only [frcI_eq] at e'
          rw [intsW_eq e1] at la
          rw [rws_ints la] at ha
          exact .inr (.inl ⟨_, ns, rfl, ha.sq, fun ns' p' pm o np => fin_ints rh (Option.some.inj e').symm q pm o np⟩)
    | dct ks xs =>
      obtain ⟨p, o, rfl, hr, d⟩ := r
      have e' : (match Nat.blt (lenN ks) 64 with | true => sortedL ks | false => Option.none) = some w := e
      cases z : Nat.blt (lenN ks) 64 with
      | false => rw [z] at e'; cases e'
      | true =>
        rw [z] at e'
        rw [lenN_eq] at z
        have z' := blt_lt z
        rcases d with ⟨kvs, us, rfl, hk, _⟩ | ⟨kvs, us, rfl, hk, _⟩
        · have dk : ∀ ns, ks = mapI ns → w = .lst (mapI (srtS ltI ns)) → rSorted K [V.ref p] H Q := fun ns e1 e2 => by
            rw [e1] at hk z'
            exact .inr (.inr (.inr (.inl ⟨p, kvs, ns, rfl, hr, keys_ints hk, by rw [← mapI_len]; exact z', fun ys p' pm o np => fin_ints rh e2 q pm o np⟩)))
          rcases sortedL_eq e' with ⟨ns, e1, e2⟩ | ⟨nss, e1, hne, e2⟩
          · exact dk ns e1 e2
          · rw [e1] at hk
            obtain ⟨a1, a2⟩ := keys_none2 hk
            subst a1
            exact dk [] e1 e2
        · have dt : ∀ nss, ks = mapT nss → (∀ ns ∈ nss, ns ≠ []) → w = .lst (mapT (srtS lexL nss)) → rSorted K [V.ref p] H Q := fun nss e1 hne e2 => by
            rw [e1] at hk
            refine .inr (.inr (.inr (.inr ⟨p, kvs, nss, rfl, hr, keys_tups hk.1, hne, fun bs ys k p' hb hl pm o np => ?_⟩)))
            refine fin_tups rh e2 q ?_ (fun y hy => ?_) o np
            · have m1 : (bs.map V.ref).map k = nss := by
                have m2 := map_zip (f := fun b => k (V.ref b)) (g := id) hl fun a b hm => (hb a b hm).2
                rw [List.map_id] at m2
                rw [List.map_map]; exact m2
              rw [← m1]; exact pm.map _
            · obtain ⟨b, hbm, rfl⟩ := List.mem_map.mp (pm.mem_iff.mp hy)
              obtain ⟨ns, hm, _⟩ := zip_fst hl b hbm
              obtain ⟨h1, h2⟩ := hb b ns hm
              exact ⟨b, rfl, by rw [h2]; exact h1⟩
          rcases sortedL_eq e' with ⟨ns, e1, e2⟩ | ⟨nss, e1, hne, e2⟩
          · rw [e1] at hk
            obtain ⟨a1, a2⟩ := keys_none hk.1
            exact absurd a2 hk.2
          · exact dt nss e1 hne e2
    | _ => cases e
theorem bls_rws : ∀ {xs : List W} {bs : List Bool} {vs : List V}, blsOf xs = some bs → RWs K T ρ H xs vs → vs = bs.map V.bl
  | [], _, _, h, .nil => by cases h; rfl
  | x :: xs, bs, _, h, .cons r t => by
    cases x with
    | bl b =>
      have h' : (match blsOf xs with | some bs => some (b :: bs) | Option.none => Option.none) = some bs := h
      cases e : blsOf xs with
      | none => rw [e] at h'; exact nomatch h'
      | some cs => rw [e] at h'; cases h'; cases r; rw [bls_rws e t]; rfl
    | _ => cases h
theorem allB_eq : ∀ bs : List Bool, allB bs = bs.all id
  | [] => rfl
  | b :: bs => by cases b <;> simp [allB, allB_eq bs]
theorem anyBs_eq : ∀ bs : List Bool, anyBs bs = bs.any id
  | [] => rfl
  | b :: bs => by cases b <;> simp [anyBs, anyBs_eq bs]
theorem n_all : OpN K T (rAll K) oAll := by
  intro ρ H h ws w vs Q e rh rr q
  match ws, e, rr with
  | [a], e, rr =>
    obtain ⟨v, rfl, r⟩ := rrs1 rr
    cases a with
    | lst xs =>
      obtain ⟨p, ys, rfl, ha, la⟩ := r
      have e' : (match blsOf xs with | some bs => sqB (allB bs) fun b => some (W.bl b) | Option.none => Option.none) = some w := e
      cases z : blsOf xs with
      | none => rw [z] at e'; cases e'
      | some bs =>
        rw [z] at e'
        simp only [sqB_eq] at e'
        cases e'
        rw [bls_rws z la] at ha
        exact ⟨p, bs, rfl, SqL.of ha, by rw [← allB_eq]; exact q H _ (Stp.refl _ _) rh (.bl _)⟩
    | _ => cases e
theorem n_any : OpN K T (rAny K) oAny := by
  intro ρ H h ws w vs Q e rh rr q
  match ws, e, rr with
  | [a], e, rr =>
    obtain ⟨v, rfl, r⟩ := rrs1 rr
    cases a with
    | lst xs =>
      obtain ⟨p, ys, rfl, ha, la⟩ := r
      have e' : (match blsOf xs with | some bs => sqB (anyBs bs) fun b => some (W.bl b) | Option.none => Option.none) = some w := e
      cases z : blsOf xs with
      | none => rw [z] at e'; cases e'
      | some bs =>
        rw [z] at e'
        simp only [sqB_eq] at e'
        cases e'
        rw [bls_rws z la] at ha
        exact ⟨p, bs, rfl, SqL.of ha, by rw [← anyBs_eq]; exact q H _ (Stp.refl _ _) rh (.bl _)⟩
    | _ => cases e
theorem n_str : OpN K T (fun xs H Q => ∃ i : Int, xs = [.int i] ∧ i.natAbs.log2 < 1920 ∧ Q (.str (toString i)) H) oStr := by
  intro ρ H h ws w vs Q e rh rr q
  match ws, e, rr with
  | [a], e, rr =>
    obtain ⟨v, rfl, r⟩ := rrs1 rr
    cases a with
    | int i =>
      cases i with
      | negSucc n => cases e
      | ofNat n =>
        cases r
        have e' : (match Nat.blt n 10 with | true => sqN (48 + n) fun c => some (W.str [c]) | false => Option.none) = some w := e
        cases z : Nat.blt n 10 with
        | false => rw [z] at e'; cases e'
        | true =>
          rw [z] at e'
          simp only [sqN_eq] at e'
          cases e'
          have hn := blt_lt z
          refine ⟨_, rfl, ?_, ?_⟩
          · have := log2_mono (show n ≤ 10 by omega)
            show Nat.log2 n < 1920
            have e : Nat.log2 10 = 3 := by decide
            omega
          · have e2 : ((Str.ofString (toString ((n : Nat) : Int))).cps.toList) = [48 + n] := (TL.tl_num n).trans (TL.numL_lt hn)
            have e3 : (Str.ofString (toString ((n : Nat) : Int))) = ⟨([48 + n] : List Nat).toArray⟩ := by
              cases hs : Str.ofString (toString ((n : Nat) : Int)) with
              | mk cps => rw [hs] at e2; simp only at e2; rw [← e2]
            show Q (.str (Str.ofString (toString ((n : Nat) : Int)))) H
            rw [e3]
            exact q H _ (Stp.refl _ _) rh (.str _)
    | _ => cases e
end
end
end VA
set_option Elab.async false
set_option linter.all false
set_option maxRecDepth 100000
set_option maxHeartbeats 8000000
/-! V15: looks into dicts and sequences, stores into them. -/
namespace VA
noncomputable section
open PySem PySem.Spec PyProof.Rows L2 Srt
/-! ### equal keys -/
def keq0 (a b : W) : Bool := match a with
  | .int i => (match b with
    | .int j => ieq i j
    | _ => false)
  | .str s => (match b with
    | .str t => all2 Nat.beq s t
    | _ => false)
  | _ => false
def keq (a b : W) : Bool := match a with
  | .tup xs => (match b with
    | .tup ys => all2 keq0 xs ys
    | _ => false)
  | _ => keq0 a b
theorem keq0_ok {a b : W} {x y : Key} (ha : kOf a = some x) (hb : kOf b = some y) : keq0 a b = decide (x = y) := by
  cases a with
  | int i =>
    cases ha
    cases b with
    | int j => cases hb; show ieq i j = _; rw [ieq_eq]; exact decide_eq_decide.mpr ⟨fun h => by rw [h], fun h => by injection h⟩
    | str t => cases hb; exact (decide_eq_false (by intro h; cases h)).symm
    | _ => cases hb
  | str s =>
    cases ha
    cases b with
    | int j => cases hb; exact (decide_eq_false (by intro h; cases h)).symm
    | str t =>
      cases hb
      show all2 Nat.beq s t = _
      rw [all2_beq]
      exact decide_eq_decide.mpr ⟨fun h => by rw [h], fun h => by
        injection h with h
        injection h with h
        simpa using congrArg Array.toList h⟩
    | _ => cases hb
  | _ => cases ha
theorem keq_k {a b : W} {x y : Key} (ha : kOf a = some x) (hb : kOf b = some y) : keq a b = decide (x = y) := by
  rw [← keq0_ok ha hb]
  cases a with
  | tup xs => cases ha
  | _ => rfl
theorem keqs_ok : ∀ {xs ys : List W} {k l : List Key}, ksOf xs = some k → ksOf ys = some l → all2 keq0 xs ys = decide (k = l)
  | [], [], k, l, h1, h2 => by cases h1; cases h2; rfl
  | [], y :: ys, k, l, h1, h2 => by
    cases h1
    simp only [ksOf] at h2
    split at h2
    · cases h2; rfl
    · cases h2
  | x :: xs, [], k, l, h1, h2 => by
    cases h2
    simp only [ksOf] at h1
    split at h1
    · cases h1; rfl
    · cases h1
  | x :: xs, y :: ys, k, l, h1, h2 => by
    simp only [ksOf] at h1 h2
    split at h1
    · rename_i a as e1 e2
      cases h1
      split at h2
      · rename_i b bs e3 e4
        cases h2
        simp only [all2]
        rw [keq0_ok e1 e3]
        by_cases e : a = b
        · subst e
          rw [decide_eq_true rfl]
          simp only
          rw [keqs_ok e2 e4]
          exact decide_eq_decide.mpr ⟨fun h => by rw [h], fun h => by injection h⟩
        · rw [decide_eq_false e]
          exact (decide_eq_false fun h => e (by injection h)).symm
      · cases h2
    · cases h1
theorem keq_t {a b : W} {x y : List Key} (ha : tOf a = some x) (hb : tOf b = some y) : keq a b = decide (x = y) := by
  cases a with
  | tup xs =>
    cases b with
    | tup ys => exact keqs_ok ha hb
    | _ => cases hb
  | _ => cases ha
/-- the value at a key -/
def lookW : List W → List W → W → Option W
  | k :: ks, ws, x => match ws with
    | w :: ws => (match keq k x with
      | true => some w
      | false => lookW ks ws x)
    | [] => Option.none
  | [], _, _ => Option.none
def hasK : List W → W → Bool
  | [], _ => false
  | k :: ks, x => match keq k x with
    | true => true
    | false => hasK ks x
/-- the value put at a key that is there -/
def repW : List W → List W → W → W → (List W → R) → R
  | k :: ks, ws, x, v, q => match ws with
    | w :: ws => (match keq k x with
      | true => repW ks ws x v fun r => q (v :: r)
      | false => repW ks ws x v fun r => q (w :: r))
    | [] => .bad
  | [], _, _, _, q => q []
/-- a key of the same kind as the dict's -/
def isSm {α : Type} (o : Option α) : Bool := match o with
  | some _ => true
  | Option.none => false
def sameG (ks : List W) (x : W) : Bool := match kOf x with
  | some _ => (match ks with
    | [] => true
    | k :: _ => isSm (kOf k))
  | Option.none => (match tOf x with
    | some _ => (match ks with
      | [] => false
      | k :: _ => isSm (tOf k))
    | Option.none => false)
section
variable {X : Cx} {K : PySem.W.Frag} {T : Tab} {ρ : Rho} {H : Hp} {h : Hpi}
section
variable {κ : Type} [DecidableEq κ] {f : W → Option κ}
theorem look_gen (hf : ∀ {a b : W} {x y : κ}, f a = some x → f b = some y → keq a b = decide (x = y)) {x : W} {k : κ} (hx : f x = some k) : ∀ {ks ws : List W} {kvs : List (κ × V)}, ks.map f = kvs.map (fun p => some p.1) → RWs K T ρ H ws (kvs.map fun p => p.2) →
    (∀ w, lookW ks ws x = some w → ∃ v, valV kvs k = some v ∧ RW K T ρ H w v) ∧ (lookW ks ws x = Option.none → valV kvs k = none)
  | [], _, [], _, _ => ⟨fun w h => (by cases h), fun _ => rfl⟩
  | [], _, _ :: _, e, _ => by cases e
  | _ :: _, _, [], e, _ => by cases e
  | a :: ks, ws, p :: kvs, e, r => by
    injection e with e1 e2
    cases r with
    | @cons w v ws vs rw' rt =>
      simp only [lookW]
      rw [hf e1 hx]
      by_cases c : p.1 = k
      · rw [decide_eq_true c]
        simp only
        rw [valV_pos c]
        exact ⟨fun w' h => (by cases h; exact ⟨_, rfl, rw'⟩), fun h => (by cases h)⟩
      · rw [decide_eq_false c]
        simp only
        rw [valV_neg c]
        exact look_gen hf hx e2 rt
theorem has_gen (hf : ∀ {a b : W} {x y : κ}, f a = some x → f b = some y → keq a b = decide (x = y)) {x : W} {k : κ} (hx : f x = some k) : ∀ {ks : List W} {kvs : List (κ × V)}, ks.map f = kvs.map (fun p => some p.1) → hasK ks x = (valV kvs k).isSome
  | [], [], _ => rfl
  | [], _ :: _, e => by cases e
  | _ :: _, [], e => by cases e
  | a :: ks, p :: kvs, e => by
    injection e with e1 e2
    unfold hasK
    rw [hf e1 hx]
    by_cases c : p.1 = k
    · rw [decide_eq_true c, valV_pos c]; rfl
    · rw [decide_eq_false c, valV_neg c]; exact has_gen hf hx e2
end
theorem isSm_some {α : Type} {o : Option α} (h : isSm o = true) : ∃ x, o = some x := by
  cases o with
  | some x => exact ⟨x, rfl⟩
  | none => cases h
theorem kt_no {w : W} {k : Key} {l : List Key} (h1 : kOf w = some k) (h2 : tOf w = some l) : False := by
  cases w with
  | tup xs => cases h1
  | _ => cases h2
/-- the key's kind fits the dict's -/
theorem same_ok {ks ws : List W} {x : W} {o : HO} {y : V} (g : sameG ks x = true) (d : DctO K T ρ H o ks ws) (rx : RR K T ρ H x y) :
    (∃ kvs k, o = .dK kvs ∧ ks.map kOf = kvs.map (fun p => some p.1) ∧ RWs K T ρ H ws (kvs.map fun p => p.2) ∧ kOf x = some k ∧ y = kV k) ∨
    (∃ kvs k b, o = .dT kvs ∧ ks.map tOf = kvs.map (fun p => some p.1) ∧ RWs K T ρ H ws (kvs.map fun p => p.2) ∧ tOf x = some k ∧ y = .ref b ∧ H b = some (.tup (k.map kV))) := by
  unfold sameG at g
  cases ex : kOf x with
  | some k =>
    rw [ex] at g
    rcases d with ⟨kvs, us, rfl, hk, rfl, r⟩ | ⟨kvs, us, rfl, hk, rfl, r⟩
    · exact .inl ⟨kvs, k, rfl, hk, r, rfl, kOf_r ex rx⟩
    · exfalso
      cases ks with
      | nil =>
        cases kvs with
        | nil => exact hk.2 rfl
        | cons p kvs => have e := hk.1; cases e
      | cons a ks =>
        obtain ⟨z, hz⟩ := isSm_some g
        cases kvs with
        | nil => exact hk.2 rfl
        | cons p kvs =>
          have e := hk.1
          injection e with e1 e2
          exact kt_no hz e1
  | none =>
    rw [ex] at g
    cases et : tOf x with
    | none => simp only [et] at g; cases g
    | some k =>
      simp only [et] at g
      cases ks with
      | nil => cases g
      | cons a ks =>
        obtain ⟨z, hz⟩ := isSm_some g
        rcases d with ⟨kvs, us, rfl, hk, rfl, r⟩ | ⟨kvs, us, rfl, hk, rfl, r⟩
        · exfalso
          cases kvs with
          | nil => cases hk
          | cons p kvs =>
            injection hk with e1 e2
            exact kt_no e1 hz
        · obtain ⟨b, e1, e2⟩ := tOf_r et rx
          exact .inr ⟨kvs, k, b, rfl, hk.1, r, rfl, e1, e2⟩
/-- a look -/
theorem dget_ok {ks ws : List W} {x : W} {a : Addr} {o : HO} {y : V} (g : sameG ks x = true) (ha : Rd H a o) (d : DctO K T ρ H o ks ws) (rx : RR K T ρ H x y) :
    (∀ w, lookW ks ws x = some w → ∃ v, DGet H a y (some v) ∧ RW K T ρ H w v) ∧ ∃ ov, DGet H a y ov ∧ hasK ks x = ov.isSome := by
  rcases same_ok g d rx with ⟨kvs, k, rfl, hk, r, ex, rfl⟩ | ⟨kvs, k, b, rfl, hk, r, ex, rfl, hb⟩
  · refine ⟨fun w hw => ?_, valV kvs k, .inl ⟨kvs, k, ha, rfl, rfl⟩, has_gen keq_k ex hk⟩
    obtain ⟨v, e, rv⟩ := (look_gen keq_k ex hk r).1 w hw
    exact ⟨v, .inl ⟨kvs, k, ha, rfl, e.symm⟩, rv⟩
  · refine ⟨fun w hw => ?_, valV kvs k, .inr ⟨kvs, k, b, ha, rfl, hb, rfl⟩, has_gen keq_t ex hk⟩
    obtain ⟨v, e, rv⟩ := (look_gen keq_t ex hk r).1 w hw
    exact ⟨v, .inr ⟨kvs, k, b, ha, rfl, hb, e.symm⟩, rv⟩
/-! ### in -/
def rInDct : R2 := fun y x H Q => ∃ a o, x = .ref a ∧ DGet H a y o ∧ Q (.bl o.isSome) H
def rNotInDct : R2 := fun y x H Q => ∃ a o, x = .ref a ∧ DGet H a y o ∧ Q (.bl (!o.isSome)) H
theorem op_inDct (hu : X.A.units + 1 < cLine) : OpR X (compareOp .In) rInDct := by
  intro pins s σ H y x iv u Q I ry rx h
  obtain ⟨a, ov, rfl, g, q⟩ := h
  have eu : u = Value.ref a := rx
  subst eu
  exact d_in hu I g ry fun s3 I3 => ⟨.bl ov.isSome, H, I3, rfl, q⟩
theorem op_notInDct (hu : X.A.units + 1 < cLine) : OpR X (compareOp .NotIn) rNotInDct := by
  intro pins s σ H y x iv u Q I ry rx h
  obtain ⟨a, ov, rfl, g, q⟩ := h
  have eu : u = Value.ref a := rx
  subst eu
  exact d_notIn hu I g ry fun s3 I3 => ⟨.bl (!ov.isSome), H, I3, rfl, q⟩
/-- ints, strs, bools, None in a list or a tuple -/
def flat (w : W) : Bool := match w with
  | .int _ => true
  | .str _ => true
  | .bl _ => true
  | .non => true
  | _ => false
def anyEq (x : W) : List W → Bool
  | [] => false
  | y :: ys => match weq dep y x with
    | true => true
    | false => anyEq x ys
def inSeq (x : W) (ys : List W) : Option Bool := match isData dep x with
  | true => (match allW (isData dep) ys with
    | true => some (anyEq x ys)
    | false => Option.none)
  | false => Option.none
def inFlat (x : W) (ys : List W) : Option Bool := match flat x with
  | true => (match allW flat ys with
    | true => some (anyEq x ys)
    | false => Option.none)
  | false => Option.none
def inB (x y : W) : Option Bool := match y with
  | .dct ks _ => (match sameG ks x with
    | true => some (hasK ks x)
    | false => Option.none)
  | .lst ys => inSeq x ys
  | .tup ys => inFlat x ys
  | .ktp ys => inFlat x ys
  | _ => Option.none
def oIn (x y : W) : Option W := match inB x y with
  | some b => sqB b fun b => some (.bl b)
  | Option.none => Option.none
def oNotIn (x y : W) : Option W := match inB x y with
  | some b => sqB (nB b) fun b => some (.bl b)
  | Option.none => Option.none
abbrev rInW (K : PySem.W.Frag) : R2 := fun x y H Q => rInDct x y H Q ∨ (rInD K x y H Q ∨ rIn K false x y H Q)
abbrev rNotInW (K : PySem.W.Frag) : R2 := fun x y H Q => rNotInDct x y H Q ∨ (rNotInD K x y H Q ∨ rIn K true x y H Q)
theorem op_inW (hu : X.A.units + 65 < cLine) : OpR X (compareOp .In) (rInW X.K) := (op_inDct (by omega)).or ((op_inD hu).or op_in_seq)
theorem op_notInW (hu : X.A.units + 65 < cLine) : OpR X (compareOp .NotIn) (rNotInW X.K) := (op_notInDct (by omega)).or ((op_notInD hu).or op_notIn_seq)
theorem any_eqv {x : W} {d : PyData} (hx : toD dep x = some d) : ∀ {ys : List W} {ds : List PyData}, mapO (toD dep) ys = some ds → anyEq x ys = ds.any fun z => PyData.eqv z d
  | [], ds, h => by cases h; rfl
  | y :: ys, ds, h => by
    simp only [mapO] at h
    cases e1 : toD dep y with
    | none => rw [e1] at h; cases h
    | some z =>
      cases e2 : mapO (toD dep) ys with
      | none => rw [e1, e2] at h; cases h
      | some zs =>
        rw [e1, e2] at h
        cases h
        simp only [anyEq, List.any_cons]
        rw [weq_eqv e1 hx, any_eqv hx e2]
        cases PyData.eqv z d <;> rfl
theorem mapO_data : ∀ {ys : List W}, allW (isData dep) ys = true → ∃ ds, mapO (toD dep) ys = some ds := fun {ys} h => mapO_some (g := isData dep) (fun x hx => isData_toD hx) (allW_eq h)
theorem flat_v {w : W} {v : V} (f : flat w = true) (r : RR K T ρ H w v) : flatV v = true := by
  cases w with
  | non => cases r; rfl
  | bl b => cases r; rfl
  | int i => cases r; rfl
  | str s => cases r; rfl
  | _ => cases f
theorem flat_eq {a b : W} {x y : V} (fa : flat a = true) (fb : flat b = true) (ra : RR K T ρ H a x) (rb : RR K T ρ H b y) : weq dep a b = eqV x y := by
  have b2 : ∀ x : Bool, b2w x = if x = true then 1 else 0 := fun x => by cases x <;> rfl
  cases a with
  | non =>
    cases ra
    cases b with
    | non => cases rb; rfl
    | bl c => cases rb; rfl
    | int i => cases rb; rfl
    | str s => cases rb; rfl
    | _ => cases fb
  | bl c =>
    cases ra
    cases b with
    | non => cases rb; rfl
    | bl d => cases rb; cases c <;> cases d <;> rfl
    | int i => cases rb; show ieq (b2w c) i = _; rw [ieq_eq, b2]; show _ = ((if c = true then (1 : Int) else 0) == i); rw [Bool.beq_eq_decide_eq]
    | str s => cases rb; rfl
    | _ => cases fb
  | int i =>
    cases ra
    cases b with
    | non => cases rb; rfl
    | bl d => cases rb; show ieq i (b2w d) = _; rw [ieq_eq, b2]; show _ = (i == (if d = true then (1 : Int) else 0)); rw [Bool.beq_eq_decide_eq]
    | int j => cases rb; show ieq i j = (i == j); rw [ieq_eq, Bool.beq_eq_decide_eq]
    | str s => cases rb; rfl
    | _ => cases fb
  | str s =>
    cases ra
    cases b with
    | non => cases rb; rfl
    | bl d => cases rb; rfl
    | int j => cases rb; rfl
    | str t =>
      cases rb
      show all2 Nat.beq s t = ((⟨s.toArray⟩ : Str) == ⟨t.toArray⟩)
      rw [all2_beq, Bool.beq_eq_decide_eq]
      exact decide_eq_decide.mpr ⟨fun h => by rw [h], fun h => by injection h with h; simpa using congrArg Array.toList h⟩
    | _ => cases fb
  | _ => cases fa
theorem any_flat {x : W} {v : V} (fx : flat x = true) (rx : RR K T ρ H x v) : ∀ {ys : List W} {vs : List V}, allW flat ys = true → RWs K T ρ H ys vs → anyEq x ys = inV v vs ∧ vs.all flatV = true
  | [], _, _, .nil => ⟨rfl, rfl⟩
  | y :: ys, _, h, .cons (v := u) r t => by
    simp only [allW] at h
    cases e : flat y with
    | false => rw [e] at h; cases h
    | true =>
      rw [e] at h
      obtain ⟨a, b⟩ := any_flat fx rx h t
      refine ⟨?_, ?_⟩
      · simp only [anyEq]
        unfold inV at a ⊢
        rw [List.any_cons, flat_eq e fx r.rr rx, a]
        cases eqV u v <;> rfl
      · rw [List.all_cons, flat_v e r.rr, b]; rfl
theorem in_ok {x y : W} {b : Bool} {u v : V} (e : inB x y = some b) (ra : RR K T ρ H x u) (rb : RR K T ρ H y v) :
    (∃ a o, v = .ref a ∧ DGet H a u o ∧ b = o.isSome) ∨ ((∃ d ds, Dp K H u d ∧ Dp K H v (.list ds) ∧ SeqAt.shaped d = true ∧ SeqAt.shaped (.list ds) = true ∧ b = ds.any fun z => PyData.eqv z d) ∨
    ∃ p xs, v = .ref p ∧ (SqL K H p xs ∨ SqT K H p xs) ∧ flatV u = true ∧ xs.all flatV = true ∧ b = inV u xs) := by
  have flatC : ∀ ys, (y = .tup ys ∨ y = .ktp ys) → inFlat x ys = some b → ∃ p xs, v = .ref p ∧ (SqL K H p xs ∨ SqT K H p xs) ∧ flatV u = true ∧ xs.all flatV = true ∧ b = inV u xs := fun ys hy e => by
    unfold inFlat at e
    cases fx : flat x with
    | false => rw [fx] at e; cases e
    | true =>
      rw [fx] at e
      simp only at e
      cases fy : allW flat ys with
      | false => rw [fy] at e; cases e
      | true =>
        rw [fy] at e
        cases e
        obtain ⟨p, xs, rfl, hs, la⟩ := seq_of (hy.elim .inl fun h => .inr (.inr (.inr h))) rb
        obtain ⟨a, c⟩ := any_flat fx ra fy la
        exact ⟨p, xs, rfl, hs, flat_v fx ra, c, a⟩
  cases y with
  | dct ks ws =>
    have e' : (match sameG ks x with | true => some (hasK ks x) | false => Option.none) = some b := e
    cases g : sameG ks x with
    | false => rw [g] at e'; cases e'
    | true =>
      rw [g] at e'
      cases e'
      obtain ⟨a, o, rfl, hr, d⟩ := rb
      obtain ⟨_, ov, h1, h2⟩ := dget_ok g hr d ra
      exact .inl ⟨a, ov, rfl, h1, h2⟩
  | lst ys =>
    have e' : inSeq x ys = some b := e
    unfold inSeq at e'
    cases dx : isData dep x with
    | false => rw [dx] at e'; cases e'
    | true =>
      rw [dx] at e'
      simp only at e'
      cases dy : allW (isData dep) ys with
      | false => rw [dy] at e'; cases e'
      | true =>
        rw [dy] at e'
        cases e'
        obtain ⟨d, e1, d1, s1⟩ := data_of dx ra
        obtain ⟨ds, e2⟩ := mapO_data dy
        obtain ⟨a, vs, rfl, ha, la⟩ := rb
        have e3 : toD (dep + 1) (.lst ys) = some (.list ds) := by
          show (mapO (toD dep) ys).map PyData.list = _
          rw [e2]; rfl
        obtain ⟨c1, c2⟩ := toD_ok e3
        refine .inr (.inl ⟨d, ds, d1, .lst (SqL.of ha) (dps_of e2 la), s1, ?_, any_eqv e1 e2⟩)
        unfold SeqAt.shaped
        rw [c1, Bool.true_and]
        exact decide_eq_true (Nat.le_trans c2 (by decide))
  | tup ys => exact .inr (.inr (flatC ys (.inl rfl) e))
  | ktp ys => exact .inr (.inr (flatC ys (.inr rfl) e))
  | _ => cases e
theorem g_in : Op2 K T (rInW K) oIn := by
  intro ρ H h a b w x y Q e rh ra rb q
  unfold oIn at e
  cases z : inB a b with
  | none => rw [z] at e; cases e
  | some c =>
    rw [z] at e
    simp only [sqB_eq] at e
    cases e
    have fin := q H _ (Stp.refl _ _) rh (.bl c)
    rcases in_ok z ra rb with ⟨p, o, h1, h2, h3⟩ | ⟨d, ds, h1, h2, h3, h4, h5⟩ | ⟨p, xs, h1, h2, h3, h4, h5⟩
    · exact .inl ⟨p, o, h1, h2, by rw [← h3]; exact fin⟩
    · exact .inr (.inl ⟨d, ds, h1, h2, h3, h4, by rw [← h5]; exact fin⟩)
    · exact .inr (.inr ⟨p, xs, h1, h2, h3, h4, by rw [if_neg Bool.false_ne_true, ← h5]; exact fin⟩)
theorem g_notIn : Op2 K T (rNotInW K) oNotIn := by
  intro ρ H h a b w x y Q e rh ra rb q
  unfold oNotIn at e
  cases z : inB a b with
  | none => rw [z] at e; cases e
  | some c =>
    rw [z] at e
    simp only [sqB_eq, nB_eq] at e
    cases e
    have fin := q H _ (Stp.refl _ _) rh (.bl (!c))
    rcases in_ok z ra rb with ⟨p, o, h1, h2, h3⟩ | ⟨d, ds, h1, h2, h3, h4, h5⟩ | ⟨p, xs, h1, h2, h3, h4, h5⟩
    · exact .inl ⟨p, o, h1, h2, by rw [← h3]; exact fin⟩
    · exact .inr (.inl ⟨d, ds, h1, h2, h3, h4, by rw [← h5]; exact fin⟩)
    · exact .inr (.inr ⟨p, xs, h1, h2, h3, h4, by rw [if_pos rfl, ← h5]; exact fin⟩)
end
end
end VA
set_option Elab.async false
set_option linter.all false
set_option maxRecDepth 100000
set_option maxHeartbeats 8000000
/-! V16: subscripts, stores, list methods. -/
namespace VA
noncomputable section
open PySem PySem.Spec PyProof.Rows L2 Srt
section
variable {X : Cx} {K : PySem.W.Frag} {T : Tab} {ca : CallT} {ρ : Rho} {H : Hp} {h : Hpi}
/-! ### a[b] -/
def rIxD : R2 := fun x y H Q => ∃ a v, x = .ref a ∧ DGet H a y (some v) ∧ Q v H
theorem ix_dict (hu : X.A.units + 1 < cLine) : IxR X rIxD := by
  intro _ _ _ _ _ H x _ v _ _ I rx ry ⟨a, w, ex, g, q⟩ hs
  subst ex
  have ev : v = Value.ref a := rx
  subst ev
  exact tail_any (dict_typeIs I g) PySem.F.slot_dict_getitem.lookup (d_getItem hu I g ry fun w' s' I' r' => ⟨w, H, I', r', q⟩) hs
abbrev rIxW (K : PySem.W.Frag) : R2 := fun x y H Q => rIx K x y H Q ∨ rIxD x y H Q
theorem ix_W (hu : X.A.units + 1 < cLine) : IxR X (rIxW X.K) := ix_seq.or (ix_dict hu)
def nthI (xs : List W) (b : W) : Option W := match b with
  | .int i => (match ixW (lenN xs) i with
    | some j => nthW xs j
    | Option.none => Option.none)
  | _ => Option.none
def nthC : List Nat → Nat → Option W
  | [], _ => Option.none
  | c :: _, 0 => some (.str [c])
  | _ :: r, n + 1 => nthC r n
def strIx (s : List Nat) (b : W) : Option W := match b with
  | .int i => (match ixW (lenN s) i with
    | some j => nthC s j
    | Option.none => Option.none)
  | _ => Option.none
def oIdx (a b : W) : Option W := match a with
  | .tup xs => nthI xs b
  | .lst xs => nthI xs b
  | .scr xs => nthI xs b
  | .ktp xs => nthI xs b
  | .ftp xs => nthI xs b
  | .dct ks ws => (match sameG ks b with
    | true => lookW ks ws b
    | false => Option.none)
  | .str s => (match Nat.ble (lenN s) lim with
    | true => strIx s b
    | false => Option.none)
  | _ => Option.none
theorem ixW_ok {n : Nat} {i : Int} {j : Nat} (e : ixW n i = some j) : ixN n i = some j := by
  unfold ixN
  cases i with
  | ofNat m =>
    have e' : (match Nat.blt m n with | true => some m | false => Option.none) = some j := e
    cases z : Nat.blt m n with
    | false => rw [z] at e'; cases e'
    | true =>
      rw [z] at e'
      have e2 := Option.some.inj e'
      subst e2
      have := blt_lt z
      show (if 0 ≤ (m : Int) then (if (m : Int) < n then some ((m : Int).toNat) else none) else _) = _
      rw [if_pos (show (0 : Int) ≤ _ by omega), if_pos (by omega)]
      simp
  | negSucc m =>
    have e' : (match Nat.blt m n with | true => some (n - (m + 1)) | false => Option.none) = some j := e
    cases z : Nat.blt m n with
    | false => rw [z] at e'; cases e'
    | true =>
      rw [z] at e'
      cases e'
      have := blt_lt z
      rw [if_neg (by omega), if_pos (by omega)]
      congr 1
      omega
theorem nthC_eq : ∀ {s : List Nat} {j : Nat} {w : W}, nthC s j = some w → ∃ c, s[j]? = some c ∧ w = .str [c]
  | [], _, _, e => by cases e
  | c :: _, 0, w, e => by cases e; exact ⟨c, rfl, rfl⟩
  | _ :: r, n + 1, w, e => by
    obtain ⟨c, h1, h2⟩ := nthC_eq (s := r) e
    exact ⟨c, by simpa using h1, h2⟩
theorem atI_ok {xs : List W} {vs : List V} {i : Int} {w : W} (la : RWs K T ρ H xs vs) (e : nthI xs (.int i) = some w) : ∃ v, atI vs i = some v ∧ RW K T ρ H w v := by
  have e' : (match ixW (lenN xs) i with | some j => nthW xs j | Option.none => Option.none) = some w := e
  rw [lenN_eq] at e'
  cases z : ixW xs.length i with
  | none => rw [z] at e'; cases e'
  | some j =>
    rw [z] at e'
    simp only [nthW_eq] at e'
    obtain ⟨v, e1, r⟩ := la.get e'
    refine ⟨v, ?_, r⟩
    unfold atI
    rw [← la.length, ixW_ok z]
    exact e1
theorem g_idx : Op2 K T (rIxW K) oIdx := by
  intro ρ H h a b w x y Q e rh ra rb q
  have seqs : ∀ xs, nthI xs b = some w → (∃ p vs, x = .ref p ∧ (SqL K H p vs ∨ SqT K H p vs) ∧ RWs K T ρ H xs vs) → rIxW K x y H Q := fun xs e ⟨p, vs, ex, hs, la⟩ => by
    cases b with
    | int i =>
      cases rb
      obtain ⟨v, e1, r⟩ := atI_ok la e
      have fin := q H v (Stp.refl _ _) rh r
      rcases hs with hs | hs
      · exact .inl (.inl ⟨p, vs, i, v, ex, rfl, hs, e1, fin⟩)
      · exact .inl (.inr (.inl ⟨p, vs, i, v, ex, rfl, hs, e1, fin⟩))
    | _ => cases e
  cases a with
  | tup xs => exact seqs xs e (seq_of (.inl rfl) ra)
  | lst xs => exact seqs xs e (seq_of (.inr (.inl rfl)) ra)
  | scr xs => exact seqs xs e (seq_of (.inr (.inr (.inl rfl))) ra)
  | ktp xs => exact seqs xs e (seq_of (.inr (.inr (.inr rfl))) ra)
  | ftp xs => cases ra with
    | ftp ha la => exact seqs xs e ⟨_, _, rfl, .inr ha.sq, la⟩
  | dct ks ws =>
    have e' : (match sameG ks b with | true => lookW ks ws b | false => Option.none) = some w := e
    cases g : sameG ks b with
    | false => rw [g] at e'; cases e'
    | true =>
      rw [g] at e'
      obtain ⟨p, o, rfl, hr, d⟩ := ra
      obtain ⟨v, h1, h2⟩ := (dget_ok g hr d rb).1 w e'
      exact .inr ⟨p, v, rfl, h1, q H v (Stp.refl _ _) rh h2⟩
  | str s =>
    cases ra
    have e0 : (match Nat.ble (lenN s) lim with
      | true => strIx s b
      | false => Option.none) = some w := e
    rw [lenN_eq] at e0
    cases z : Nat.ble s.length lim with
    | false => rw [z] at e0; cases e0
    | true =>
      rw [z] at e0
      cases b with
      | int i =>
        cases rb
        have e' : (match ixW (lenN s) i with
          | some j => nthC s j
          | Option.none => Option.none) = some w := e0
        rw [lenN_eq] at e'
        cases z2 : ixW s.length i with
        | none => rw [z2] at e'; cases e'
        | some j =>
          rw [z2] at e'
          obtain ⟨c, h1, h2⟩ := nthC_eq e'
          subst h2
          refine .inl (.inr (.inr ⟨_, i, c, rfl, rfl, by rw [str_len]; exact Nat.le_trans (Nat.le_of_ble_eq_true z) lim_line, ?_, q H _ (Stp.refl _ _) rh (.str [c])⟩))
          unfold atI
          show (ixN s.toArray.toList.length i).bind _ = _
          rw [List.toList_toArray, ixW_ok z2]
          exact h1
      | _ => cases e0
  | _ => cases e
theorem SE.idx {a b : Expr} {da db : D} {pos : Pos} (hu : X.A.units + 1 < cLine) (ha : SE T ca X a da) (hb : SE T ca X b db) (hs : PlainIx b) : SE T ca X (.Subscript a b pos) (mOp2 oIdx da db) := fun W₀ t =>
  (pe_ix (ix_W hu) (ha W₀ t) (hb W₀ t) hs).weak fun _ _ _ h => t_op2 g_idx h
/-! ### o[i] = v -/
/-- an empty dict takes its first key: a tuple -/
def rSetD0 : TSet := fun o i v H Q => ∃ a b k, o = .ref a ∧ H a = some (.dK []) ∧ i = .ref b ∧ H b = some (.tup (k.map kV)) ∧ Q (upd H a (.dT [(k, v)]))
theorem set_dict0 (hu : X.A.units + 1 < cLine) : PSet X rSetD0 := by
  intro pins s σ H o i v ov iv u Q I ro ri rv w
  have h := w
  obtain ⟨a, b, k, rfl, e, rfl, eb, q⟩ := h
  obtain rfl : ov = Value.ref a := ro
  have hne : b ≠ a := ne_of eb e (fun z => by cases z)
  obtain ⟨z, hd, vs, rel, o, es, ep, h1, h2, h3, h4, h5, h6⟩ := dk_of I.hok e
  have hv : vs = [] := by cases rel; rfl
  subst hv
  have hes : es.toList = [] := by
    cases hl : es.toList with
    | nil => rfl
    | cons x xs => rw [hl] at h5; cases h5
  have I2 : Inv X pins σ (upd H a (.dT [])) s := by
    have := d_write (a := a) (h' := s.heap) (t' := s.toks) (ob := .dT []) I (by rw [e]; exact True.intro) ⟨rfl, fun _ _ => rfl⟩ ⟨o, h1⟩ ⟨Nat.zero_le _, hd, [], .nil, o, es, ep, h1, h2, h3, hes, List.nodup_nil⟩
    exact this
  have g : DPut (upd H a (.dT [])) a (.ref b) v (upd (upd H a (.dT [])) a (.dT (putK [] k v))) := DPut.t upd_same (by rw [upd_ne hne]; exact eb) (by rw [sizeLine_eq]; decide)
  refine d_setItem hu I2 g ri rv fun s' I' => ⟨_, I', ?_⟩
  rw [upd_upd]
  exact q
abbrev rSetW : TSet := fun o i v H Q => rSetL o i v H Q ∨ (rSetD o i v H Q ∨ rSetD0 o i v H Q)
theorem set_W (hu : X.A.units + 1 < cLine) : PSet X rSetW := by
  intro pins s σ H o i v ov iv u Q I ro ri rv w
  have h := w
  rcases h with h | h | h
  · exact set_list pins s σ H o i v ov iv u Q I ro ri rv h
  · exact set_dict hu pins s σ H o i v ov iv u Q I ro ri rv h
  · exact set_dict0 hu pins s σ H o i v ov iv u Q I ro ri rv h
def okW (w : W) : Bool := match w with
  | .nul => false
  | _ => true
/-- a dict behind a store -/
def putD (ks ws : List W) (x v : W) (k : List W → List W → R) : R := match Nat.blt (lenN ks) lim with
  | true => (match hasK ks x with
    | true => repW ks ws x v fun r => k ks r
    | false => appK ks [x] fun ks' => appK ws [v] fun ws' => k ks' ws')
  | false => .bad
def sameP (ks : List W) (x : W) : Bool := match ks with
  | [] => (match kOf x with
    | some _ => true
    | Option.none => isSm (tOf x))
  | _ => sameG ks x
def setI (h : Hpi) (o k v : W) (q : Hpi → R) : R := match o with
  | .loc n => (match h.get n with
    | some (.lst xs) => (match k with
      | .int i => (match ixW (lenN xs) i with
        | some j => setK xs j v fun r => q (h.put n (.lst r))
        | Option.none => .bad)
      | _ => .bad)
    | some (.dct ks ws) => (match sameP ks k with
      | true => putD ks ws k v fun ks' ws' => q (h.put n (.dct ks' ws'))
      | false => .bad)
    | _ => .bad)
  | _ => .bad
def mSidx (o k a : D) : D := fun ca e h => bndS (a ca e h) e fun v h1 => bndS (o ca e h1) e fun w h2 => bndS (k ca e h2) e fun x h3 => setI h3 w (res h3 x) v fun h4 => .ok .non e h4
section
variable {κ : Type} [DecidableEq κ] {f : W → Option κ}
theorem rep_gen (hf : ∀ {a b : W} {x y : κ}, f a = some x → f b = some y → keq a b = decide (x = y)) {x : W} {k : κ} (hx : f x = some k) {w : W} {v : V} (rv : RW K T ρ H w v) : ∀ {ks ws : List W} {kvs : List (κ × V)} {q : List W → R}, ks.map f = kvs.map (fun p => some p.1) → RWs K T ρ H ws (kvs.map fun p => p.2) →
    ∃ ws', repW ks ws x w q = q ws' ∧ RWs K T ρ H ws' ((kvs.map fun kv => if kv.1 = k then (kv.1, v) else kv).map fun p => p.2)
  | [], _, [], q, _, .nil => ⟨[], rfl, .nil⟩
  | [], _, _ :: _, _, e, _ => by cases e
  | _ :: _, _, [], _, e, _ => by cases e
  | a :: ks, ws, p :: kvs, q, e, r => by
    injection e with e1 e2
    cases r with
    | @cons w0 v0 ws vs rw' rt =>
      simp only [repW]
      rw [hf e1 hx]
      by_cases c : p.1 = k
      · rw [decide_eq_true c]
        obtain ⟨ws', z1, z2⟩ := rep_gen hf hx rv (q := fun r => q (w :: r)) e2 rt
        refine ⟨w :: ws', z1, ?_⟩
        rw [List.map_cons, List.map_cons, if_pos c]
        exact .cons rv z2
      · rw [decide_eq_false c]
        obtain ⟨ws', z1, z2⟩ := rep_gen hf hx rv (q := fun r => q (w0 :: r)) e2 rt
        refine ⟨w0 :: ws', z1, ?_⟩
        rw [List.map_cons, List.map_cons, if_neg c]
        exact .cons rw' z2
theorem keys_rep {k : κ} {v : V} : ∀ {kvs : List (κ × V)}, (kvs.map fun kv => if kv.1 = k then (kv.1, v) else kv).map (fun p => some p.1) = kvs.map fun p => some p.1
  | [] => rfl
  | p :: kvs => by
    rw [List.map_cons, List.map_cons, List.map_cons, keys_rep]
    by_cases c : p.1 = k
    · rw [if_pos c]
    · rw [if_neg c]
/-- the store, as lists -/
theorem put_gen (hf : ∀ {a b : W} {x y : κ}, f a = some x → f b = some y → keq a b = decide (x = y)) {x : W} {k : κ} (hx : f x = some k) {w : W} {v : V} (rv : RW K T ρ H w v) {ks ws : List W} {kvs : List (κ × V)} {q : List W → List W → R} (e : ks.map f = kvs.map (fun p => some p.1)) (r : RWs K T ρ H ws (kvs.map fun p => p.2))
    (hl : Nat.blt (lenN ks) lim = true) : ∃ ks' ws', putD ks ws x w q = q ks' ws' ∧ ks'.map f = (putK kvs k v).map (fun p => some p.1) ∧ RWs K T ρ H ws' ((putK kvs k v).map fun p => p.2) := by
  unfold putD
  rw [hl]
  have hh := has_gen hf hx e
  have ha := valV_any k kvs
  cases c : hasK ks x with
  | true =>
    obtain ⟨ws', z1, z2⟩ := rep_gen hf hx rv (q := fun r => q ks r) e r
    refine ⟨ks, ws', z1, ?_, ?_⟩
    · unfold putK
      rw [if_pos (by rw [ha, ← hh, c])]
      rw [keys_rep]; exact e
    · unfold putK
      rw [if_pos (by rw [ha, ← hh, c])]
      exact z2
  | false =>
    have hn : valV kvs k = none := by
      cases z : valV kvs k with
      | none => rfl
      | some u => rw [z] at hh; rw [hh] at c; cases c
    simp only [appK_eq]
    refine ⟨ks ++ [x], ws ++ [w], rfl, ?_, ?_⟩
    · rw [putK_new v hn, List.map_append, List.map_append, e]
      simp [hx]
    · rw [putK_new v hn, List.map_append]
      exact r.append (.one rv)
end
end
end
end VA
set_option Elab.async false
set_option linter.all false
set_option maxRecDepth 100000
set_option maxHeartbeats 8000000
/-! V17: stores as statements; append, index; tuples of which the object is known. -/
namespace VA
noncomputable section
open PySem PySem.Spec PyProof.Rows L2 Srt
section
variable {X : Cx} {K : PySem.W.Frag} {T : Tab} {ca : CallT} {ρ : Rho} {H : Hp} {h : Hpi}
theorem k_empty {ws : List W} {o : HO} (d : DctO K T ρ H o [] ws) : o = .dK [] ∧ ws = [] := by
  rcases d with ⟨kvs, us, rfl, hk, rfl, r⟩ | ⟨kvs, us, rfl, hk, rfl, r⟩
  · cases kvs with
    | nil => cases r; exact ⟨rfl, rfl⟩
    | cons p kvs => cases hk
  · cases kvs with
    | nil => exact absurd rfl hk.2
    | cons p kvs => have e := hk.1; cases e
/-- the store of a dict, in the heap -/
theorem putD_ok {n : Nat} {ks ws : List W} {x v : W} {W₀ : WX} {D : Ends} {q : List W → List W → R} (rh : RelH K T ρ H h) (g : h.get n = some (.dct ks ws)) (sp : sameP ks x = true) {i u : V} (rx : RR K T ρ H x i) (rv : RW K T ρ H v u) (f : FinS K T W₀ ρ H (putD ks ws x v q) D) {Q : Hp → Prop}
    (fin : ∀ H' ks' ws', Stp ρ H ρ H' → RelH K T ρ H' (h.put n (.dct ks' ws')) → FinS K T W₀ ρ H (q ks' ws') D → Q H') : rSetW (.ref (ρ.pl n)) i u H Q := by
  obtain ⟨hn, o, ho, d⟩ := rh.ob n _ g
  have bl : Nat.blt (lenN ks) lim = true := by
    cases z : Nat.blt (lenN ks) lim with
    | true => rfl
    | false => unfold putD at f; rw [z] at f; exact f.elim
  have hlen : ks.length < sizeLine := by
    rw [lenN_eq] at bl
    have := blt_lt bl
    have := lim_line
    omega
  -- the heap behind, whatever dict it is
  have go : ∀ (o' : HO) (ks' ws' : List W), DctO K T ρ (upd H (ρ.pl n) o') o' ks' ws' → FinS K T W₀ ρ H (q ks' ws') D → Q (upd H (ρ.pl n) o') := fun o' ks' ws' d' f' => by
    obtain ⟨a1, a2⟩ := RelH.put rh g (fun c fs e => by cases e) (new := .dct ks' ws') (o := o') ⟨o', upd_same, d'⟩
    exact fin _ ks' ws' a1 a2 f'
  have st : ∀ o', Stp ρ H ρ (upd H (ρ.pl n) o') := fun o' => (Stp.put rh hn o').st
  have kCase : ∀ (kvs : List (Key × V)) (k : Key), o = .dK kvs → ks.map kOf = kvs.map (fun p => some p.1) → RWs K T ρ H ws (kvs.map fun p => p.2) → kOf x = some k → i = kV k → rSetW (.ref (ρ.pl n)) i u H Q := fun kvs k e hk r ex ei => by
    subst e ei
    obtain ⟨ks', ws', z1, z2, z3⟩ := put_gen keq_k ex rv (q := q) hk r bl
    rw [z1] at f
    exact .inr (.inl ⟨_, _, rfl, DPut.k ho (by rw [← keys_len hk]; exact hlen), go _ ks' ws' (.inl ⟨_, _, rfl, z2, rfl, z3.step (st _)⟩) f⟩)
  have tCase : ∀ (kvs : List (List Key × V)) (k : List Key) (b : Addr), o = .dT kvs → ks.map tOf = kvs.map (fun p => some p.1) → RWs K T ρ H ws (kvs.map fun p => p.2) → tOf x = some k → i = .ref b → H b = some (.tup (k.map kV)) → rSetW (.ref (ρ.pl n)) i u H Q := fun kvs k b e hk r ex ei hb => by
    subst e ei
    obtain ⟨ks', ws', z1, z2, z3⟩ := put_gen keq_t ex rv (q := q) hk r bl
    rw [z1] at f
    refine .inr (.inl ⟨_, _, rfl, DPut.t ho hb (by rw [← keys_len hk]; exact hlen), go _ ks' ws' (.inr ⟨_, _, rfl, ⟨z2, ?_⟩, rfl, z3.step (st _)⟩) f⟩)
    intro e0
    have h1 := valV_put kvs k k u
    rw [e0, if_pos rfl] at h1
    cases h1
  cases ks with
  | cons a ks =>
    rcases same_ok (show sameG (a :: ks) x = true from sp) d rx with ⟨kvs, k, e1, e2, e3, e4, e5⟩ | ⟨kvs, k, b, e1, e2, e3, e4, e5, e6⟩
    · exact kCase kvs k e1 e2 e3 e4 e5
    · exact tCase kvs k b e1 e2 e3 e4 e5 e6
  | nil =>
    obtain ⟨e1, e2⟩ := k_empty d
    subst e2
    have sp' : (match kOf x with | some _ => true | Option.none => isSm (tOf x)) = true := sp
    cases ex : kOf x with
    | some k => exact kCase [] k e1 rfl .nil ex (kOf_r ex rx)
    | none =>
      rw [ex] at sp'
      obtain ⟨k, et⟩ := isSm_some sp'
      obtain ⟨b, eb, hb⟩ := tOf_r et rx
      have f' : FinS K T W₀ ρ H (q [x] [v]) D := f
      refine .inr (.inr ⟨_, b, k, rfl, by rw [← e1]; exact ho, eb, hb, go _ [x] [v] (.inr ⟨[(k, u)], _, rfl, ⟨?_, List.cons_ne_nil _ _⟩, rfl, .one (rv.step (st _))⟩) f'⟩)
      show [tOf x] = _
      rw [et]; rfl
theorem setI_ok {w x v : W} {W₀ : WX} {D : Ends} {q : Hpi → R} (rh : RelH K T ρ H h) {o i u : V} (rw' : RW K T ρ H w o) (rx : RR K T ρ H x i) (rv : RW K T ρ H v u) (f : FinS K T W₀ ρ H (setI h w x v q) D) {Q : Hp → Prop}
    (fin : ∀ H' h', Stp ρ H ρ H' → RelH K T ρ H' h' → FinS K T W₀ ρ H (q h') D → Q H') : rSetW o i u H Q := by
  cases w with
  | loc n =>
    cases rw' with
    | loc _ hn =>
      unfold setI at f
      cases g : h.get n with
      | none => simp only [g] at f; exact f.elim
      | some ob =>
        simp only [g] at f
        cases ob with
        | lst xs =>
          cases x with
          | int j =>
            cases rx
            simp only [lenN_eq] at f
            cases z : ixW xs.length j with
            | none => rw [z] at f; exact f.elim
            | some k =>
              rw [z] at f
              simp only [setK_eq] at f
              obtain ⟨_, vs, ho, la⟩ := rh.ob n _ g
              have st := (Stp.put rh hn (.lst (vs.set k u))).st
              obtain ⟨a1, a2⟩ := RelH.put rh g (fun c fs e => by cases e) (new := .lst (xs.set k v)) (o := .lst (vs.set k u)) ⟨_, upd_same, (la.set k rv).step st⟩
              exact .inl ⟨_, vs, j, k, rfl, rfl, ho, by rw [← la.length]; exact ixW_ok z, fin _ _ a1 a2 f⟩
          | _ => exact f.elim
        | dct ks ws =>
          cases sp : sameP ks x with
          | false => simp only [sp] at f; exact f.elim
          | true =>
            simp only [sp] at f
            exact putD_ok rh g sp rx rv f fun H' ks' ws' s r f' => fin H' _ s r f'
        | ins c fs => exact f.elim
  | _ => exact f.elim
theorem SS.sidx {o i e : Expr} {d1 d2 d3 : D} {pos pos' : Pos} (hu : X.A.units + 1 < cLine) (ho : SE T ca X o d1) (hi : SE T ca X i d2) (he : SE T ca X e d3) (hs : swapsWithSole [.Subscript o i pos'] e pos.line X.env = pure false) (hw : swappedStores [.Subscript o i pos'] e X.env = pure none)
    (h1 : (assignEach [.Subscript o i pos'] X.env).map (·.2) = [assign (.Subscript o i pos') X.env])
    (ha : ∀ v, assign (.Subscript o i pos') X.env v = (do
      let x ← holding [v] (eval o X.env)
      let k ← holding [v, x] (eval i X.env)
      standAt pos'
      holding [v, x, k] (setItem x k v)
      release [v, x, k] [])) : SS T ca X (.Assign [.Subscript o i pos'] e pos) (mSidx d1 d2 d3) := fun W₀ t =>
  (ps_asg (he W₀ t) (pg_sub (ho W₀ t) (hi W₀ t) (set_W hu) ha) hs hw h1).weak fun D σ H ⟨ρ, e, h, re, rh, f⟩ => ⟨ρ, e, h, re, rh, (finS_bnd re f).imp fun v H1 ⟨ρ1, w1, h1, s1, rh1, r1, f1⟩ =>
    ⟨ρ1, e, h1, re.step s1, rh1, (finS_bnd (re.step s1) f1).imp fun ov H2 ⟨ρ2, w2, h2, s2, rh2, r2, f2⟩ =>
      ⟨ρ2, e, h2, (re.step s1).step s2, rh2, (finS_bnd ((re.step s1).step s2) f2).imp fun iv H3 ⟨ρ3, w3, h3, s3, rh3, r3, f3⟩ =>
        setI_ok rh3 (r2.step s3) (RR.res rh3 r3) ((r1.step s2).step s3) f3 fun H' h' s r f' => f' ρ3 H' σ s r ((((re.step s1).step s2).step s3).step s)⟩⟩⟩
/-! ### append -/
def isL (h : Hpi) (w : W) (k : R) : R := match w with
  | .loc n => (match h.get n with
    | some (.lst _) => k
    | _ => .bad)
  | _ => .bad
def appI (h : Hpi) (w : W) (ws : List W) (k : Hpi → R) : R := match w with
  | .loc n => (match h.get n with
    | some (.lst xs) => (match Nat.blt (lenN xs) lim with
      | true => (match ws with
        | [v] => appK xs [v] fun r => k (h.put n (.lst r))
        | _ => .bad)
      | false => .bad)
    | _ => .bad)
  | _ => .bad
def mApp (o a : D) : D := fun ca e h => bnd (o ca e h) fun w h1 => isL h1 w (bndA (a ca e h1) fun ws h2 => appI h2 w ws fun h3 => .ok .non e h3)
theorem SE.append {o a : Expr} {d1 d2 : D} {apos cpos : Pos} (ho : SE T ca X o d1) (ha : SA T ca X [a] d2)
    (hbase : attributeBase o "append" X.env (eval o X.env) = eval o X.env)
    (hfew : ((backTo cpos (starEach [a] X.env)).all (fun x => !x.1) && (backToKw cpos (keywordEach [] X.env)).all (fun x => x.1.isSome)
      && decide (([a] : List Expr).length + ([] : List Keyword).length + (if ([] : List Keyword).isEmpty then 0 else 1) < 30)) = true)
    (hline : (apos.endLine == cpos.line) = true) (hs : starEach [a] X.env = (false, eval a X.env) :: starEach [] X.env) (hplain : (backTo cpos (starEach [] X.env)).any (·.1) = false) :
    SE T ca X (.Call (.Attribute o "append" apos) [a] [] cpos) (mApp d1 d2) := fun W₀ t =>
  (pe_bm (T := "list") (id := "list.append") (r := rAppend) PySem.F.plainAttrs_list PySem.F.slot_list_append PySem.F.type_list_append mt_append (ho W₀ t) (ha W₀ t) hbase hfew hline hs hplain).weak fun σ H Q ⟨ρ, e, h, re, rh, f⟩ =>
    ⟨ρ, e, h, re, rh, (fin_bnd f).imp fun v H1 ⟨ρ1, w, h1, s1, rh1, r1, f1⟩ => by
      cases w with
      | loc n =>
        cases r1 with
        | loc _ hn =>
          unfold isL at f1
          cases g : h1.get n with
          | none => simp only [g] at f1; exact f1.elim
          | some ob =>
            simp only [g] at f1
            cases ob with
            | lst xs =>
              obtain ⟨_, vs, hv, la⟩ := rh1.ob n _ g
              refine ⟨.inl ⟨rfl, vs, SqL.of hv⟩, ρ1, e, h1, re.step s1, rh1, (fin_bndA f1).imp fun us H2 ⟨ρ2, ws, h2, s2, rh2, r2, f2⟩ => ?_⟩
              unfold appI at f2
              have hn2 := Nat.lt_of_lt_of_le hn s2.le
              have ep := s2.pl n hn
              cases g2 : h2.get n with
              | none => simp only [g2] at f2; exact f2.elim
              | some ob2 =>
                simp only [g2] at f2
                cases ob2 with
                | lst ys =>
                  simp only [lenN_eq] at f2
                  cases z : Nat.blt ys.length lim with
                  | false => rw [z] at f2; exact f2.elim
                  | true =>
                    rw [z] at f2
                    match ws, r2, f2 with
                    | [x], .cons (v := u) rx .nil, f2 =>
                      simp only [appK_eq] at f2
                      obtain ⟨_, vs2, hv2, la2⟩ := rh2.ob n _ g2
                      rw [ep] at hv2
                      have st := (Stp.put rh2 hn2 (.lst (vs2 ++ [u]))).st
                      obtain ⟨a1, a2⟩ := RelH.put rh2 g2 (fun c fs e => by cases e) (new := .lst (ys ++ [x])) (o := .lst (vs2 ++ [u])) ⟨_, upd_same, (la2.append (.one rx)).step st⟩
                      rw [ep] at a1 a2
                      have hl := blt_lt z
                      rw [la2.length] at hl
                      exact ⟨_, vs2, u, rfl, rfl, hv2, Nat.lt_of_lt_of_le hl lim_line, f2 ρ2 _ .non a1 a2 .non⟩
                | _ => exact f2.elim
            | _ => exact f1.elim
      | _ => exact f1.elim⟩
end
end
end VA
set_option Elab.async false
set_option linter.all false
set_option maxRecDepth 100000
set_option maxHeartbeats 8000000
/-! V18: index; known tuples; ranges laid out; get. -/
namespace VA
noncomputable section
open PySem PySem.Spec PyProof.Rows L2 Srt
/-! ### the first place of a value -/
def posW (x : W) : List W → Nat → Option Nat
  | [], _ => Option.none
  | y :: ys, n => match weq dep y x with
    | true => some n
    | false => posW x ys (n + 1)
def idxF (x : W) (ys : List W) : Option W := match flat x with
  | true => (match allW flat ys with
    | true => (match posW x ys 0 with
      | some n => sqN n fun m => some (.int (.ofNat m))
      | Option.none => Option.none)
    | false => Option.none)
  | false => Option.none
section
variable {X : Cx} {K : PySem.W.Frag} {T : Tab} {ca : CallT} {ρ : Rho} {H : Hp} {h : Hpi}
theorem posW_ok {x : W} {v : V} (fx : flat x = true) (rx : RR K T ρ H x v) : ∀ {ys : List W} {vs : List V} {n j : Nat}, allW flat ys = true → RWs K T ρ H ys vs → posW x ys n = some j →
    ∃ m z, j = n + m ∧ vs[m]? = some z ∧ eqV z v = true ∧ ∀ (i : Nat) (z' : V), i < m → vs[i]? = some z' → eqV z' v = false
  | [], _, _, _, _, _, e => by cases e
  | y :: ys, _, n, j, h, .cons (v := u) r t, e => by
    simp only [allW] at h
    cases fy : flat y with
    | false => rw [fy] at h; cases h
    | true =>
      rw [fy] at h
      have e' : (match weq dep y x with | true => some n | false => posW x ys (n + 1)) = some j := e
      have q := flat_eq fy fx r.rr rx
      cases z : weq dep y x with
      | true =>
        rw [z] at e'
        cases e'
        exact ⟨0, u, rfl, rfl, by rw [← q, z], fun i z' hi _ => absurd hi (Nat.not_lt_zero _)⟩
      | false =>
        rw [z] at e'
        obtain ⟨m, w, e1, e2, e3, e4⟩ := posW_ok fx rx h t e'
        refine ⟨m + 1, w, by omega, by simpa using e2, e3, fun i z' hi hz => ?_⟩
        cases i with
        | zero => simp at hz; rw [← hz, ← q, z]
        | succ i => exact e4 i z' (by omega) (by simpa using hz)
theorem all_flat : ∀ {ys : List W} {vs : List V}, allW flat ys = true → RWs K T ρ H ys vs → vs.all flatV = true
  | [], _, _, .nil => rfl
  | y :: ys, _, h, .cons r t => by
    simp only [allW] at h
    cases fy : flat y with
    | false => rw [fy] at h; cases h
    | true =>
      rw [fy] at h
      rw [List.all_cons, flat_v fy r.rr, all_flat h t]; rfl
theorem idxF_ok {x : W} {ys : List W} {w : W} {v : V} {vs : List V} (e : idxF x ys = some w) (rx : RR K T ρ H x v) (la : RWs K T ρ H ys vs) :
    ∃ j z, w = .int ((j : Nat) : Int) ∧ flatV v = true ∧ vs.all flatV = true ∧ vs[j]? = some z ∧ eqV z v = true ∧ ∀ (i : Nat) (z' : V), i < j → vs[i]? = some z' → eqV z' v = false := by
  unfold idxF at e
  cases fx : flat x with
  | false => rw [fx] at e; cases e
  | true =>
    rw [fx] at e
    simp only at e
    cases fy : allW flat ys with
    | false => rw [fy] at e; cases e
    | true =>
      rw [fy] at e
      simp only at e
      cases p : posW x ys 0 with
      | none => rw [p] at e; cases e
      | some n =>
        rw [p] at e
        simp only [sqN_eq] at e
        cases e
        obtain ⟨m, z, e1, e2, e3, e4⟩ := posW_ok fx rx fy la p
        have : n = m := by omega
        subst this
        exact ⟨n, z, rfl, flat_v fx rx, all_flat fy la, e2, e3, e4⟩
/-- tuple.index, flat items -/
def rIndexT (K : PySem.W.Frag) : V → List V → Hp → VK → Prop := fun x xs H Q => ∃ (a : Addr) (ys : List V) (y : V) (j : Nat) (z : V), x = V.ref a ∧ xs = [y] ∧ SqT K H a ys ∧ flatV y = true ∧ ys.all flatV = true ∧ ys[j]? = some z ∧ eqV z y = true ∧ (∀ (m : Nat) (z' : V), m < j → ys[m]? = some z' → eqV z' y = false) ∧
  Q (.int (j : Nat)) H
theorem mt_indexT : MtR X "tuple.index" (rIndexT X.K) := fun pins s σ H _ _ v us Q I rx rv ⟨a, ys, y, j, z, e1, e2, sq, fy, fys, at_j, hit, first, q⟩ => by
  subst e1 e2
  have ev : v = Value.ref a := rx
  subst ev
  obtain ⟨u, rfl, ru⟩ := vals1 rv
  obtain ⟨its, vals, ⟨⟨c, dd, dat, sl⟩, ho, hc, n, hd⟩, _⟩ := I.tuple sq
  have hc : c = .type "tuple" := hc
  have hd : dat = .seq its.toArray n := hd
  subst hc hd
  have lens := vals.length
  -- how the item at a place compares
  have told : ∀ (m : Nat) (lt : m < its.toArray.size) (t : V), ys[m]? = some t → eqU y its.toArray[m] = eqV t y := fun m lt t ht => by
    obtain ⟨w, hw, rw'⟩ := vals.get ht
    have same : its.toArray[m] = w := by
      have := List.getElem?_eq_some_iff.mp hw
      simpa using this.2
    rw [same]
    exact eqU_of rw' (flat_at fys ht)
  have inside : j < its.toArray.size := by
    have := (List.getElem?_eq_some_iff.mp at_j).1
    rw [List.size_toArray]; omega
  refine call_meets (s := s) F.slot_tuple_index ⟨_, ho, rfl⟩ F.entry_tuple_index (F.args_tuple_index_2 _ _) (TI.tuple_indexAt a its.toArray n dd sl u (eqU y) j inside (by rw [told j inside z at_j, hit]) fun m lt before => ?_) ⟨ho, fun w hw => mem_eqAt ru fy vals fys w (by simpa using hw), ⟨V.int (j : Nat), H, I.tok _, ⟨_, rfl⟩, q⟩⟩
  have lt' : m < ys.length := by rw [List.size_toArray] at lt; omega
  have ht := List.getElem?_eq_getElem lt'
  rw [told m lt _ ht]
  exact first m _ before ht
/-- a method of a tuple of which the object is known -/
def tBMT (r : V → List V → Hp → VK → Prop) (to : TE) (t : TA) : TE := fun σ H Q => to σ H fun x H1 => (∃ (p : Addr) (o : Obj) (xs : List V), x = .ref p ∧ H1 p = some (.frz o (.tup xs)) ∧ o.cls = .type "tuple" ∧ o.dict = Option.none) ∧ t σ H1 fun xs H2 => r x xs H2 Q
theorem pe_bmT {o e : Expr} {es : List Expr} {to : TE} {t : TA} {name : Str} {apos cpos : Pos} {id : String} {r : V → List V → Hp → VK → Prop} (slot : Slot "tuple" name id) (hty : typeOf (.builtin id) = pure (.type "method_descriptor")) (hm : MtR X id r) (ho : PE X o to) (ha : PA X (e :: es) t)
    (hbase : attributeBase o name X.env (eval o X.env) = eval o X.env)
    (hfew : ((backTo cpos (starEach (e :: es) X.env)).all (fun x => !x.1) && (backToKw cpos (keywordEach [] X.env)).all (fun x => x.1.isSome) && decide ((e :: es).length + ([] : List Keyword).length + (if ([] : List Keyword).isEmpty then 0 else 1) < 30)) = true)
    (hline : (apos.endLine == cpos.line) = true) (hs : starEach (e :: es) X.env = (false, eval e X.env) :: starEach es X.env) (hplain : (backTo cpos (starEach es X.env)).any (·.1) = false) :
    PE X (.Call (.Attribute o name apos) (e :: es) [] cpos) (tBMT r to t) := by
  refine ⟨fun pins s σ H Q I w => ?_⟩
  have h := w
  refine wpAny_Call_method_late hbase hfew hline rfl (thn (ho.run pins s σ H _ I h) fun v s1 ⟨x, H1, J, rv, ⟨p, ob, xs, ex, known, isT, noDict⟩, more⟩ => ?_)
  subst ex
  have ev : v = Value.ref p := rv
  subst ev
  have stands := (J.hok p _ known).1
  have args := ha.run cpos pins s1 σ H1 _ J more
  have plain : ((false, eval e X.env) :: backTo cpos (starEach es X.env)).any (·.1) = false := by rw [List.any_cons, hplain]; rfl
  rw [hs] at args ⊢
  exact ⟨"tuple", id, PySem.F.plainAttrs_tuple, slot, hty, ⟨ob, stands, isT⟩, fun b e2 => by cases e2; exact ⟨ob, stands, noDict⟩,
    Calls.callWith_builtin plain (Calls.evalArgs_plain (thn args fun us s2 ⟨vs, H2, J2, rvs, go⟩ => hm pins s2 σ H2 (.ref p) vs (.ref p) us Q J2 rfl rvs go))⟩
def idx1 (x : W) (ws : List W) (e : List W) (h : Hpi) (ys : List W) : R := match ws with
  | [w] => opt (idxF (res h w) ys) e h
  | _ => .bad
def mIdxL (o a : D) : D := fun ca e h => bnd (o ca e h) fun w h1 => match w with
  | .lst ys => bndA (a ca e h1) fun ws h2 => idx1 w ws e h2 ys
  | _ => .bad
def mIdxT (o a : D) : D := fun ca e h => bnd (o ca e h) fun w h1 => match w with
  | .ftp ys => bndA (a ca e h1) fun ws h2 => idx1 w ws e h2 ys
  | _ => .bad
theorem idx1_ok {W₀ : WX} {σ : L2.St} {Q : VK} {x : W} {ws e ys : List W} {vs us : List V} (f : FinE K T W₀ σ ρ H (idx1 x ws e h ys) Q) (rh : RelH K T ρ H h) (r : RWs K T ρ H ws us) (la : RWs K T ρ H ys vs) :
    ∃ u j z, us = [u] ∧ flatV u = true ∧ vs.all flatV = true ∧ vs[j]? = some z ∧ eqV z u = true ∧ (∀ (i : Nat) (z' : V), i < j → vs[i]? = some z' → eqV z' u = false) ∧ Q (.int (j : Nat)) H := by
  match ws, r, f with
  | [w], .cons (v := u) rw' .nil, f =>
    have f' : FinE K T W₀ σ ρ H (opt (idxF (res h w) ys) e h) Q := f
    cases q : idxF (res h w) ys with
    | none => rw [q] at f'; exact f'.elim
    | some r =>
      rw [q] at f'
      obtain ⟨j, z, rfl, h1, h2, h3, h4, h5⟩ := idxF_ok q (RR.res rh rw') la
      exact ⟨u, j, z, rfl, h1, h2, h3, h4, h5, f' ρ H _ (Stp.refl _ _) rh (.int _)⟩
theorem SE.indexL {o a : Expr} {d1 d2 : D} {apos cpos : Pos} (ho : SE T ca X o d1) (ha : SA T ca X [a] d2)
    (hbase : attributeBase o "index" X.env (eval o X.env) = eval o X.env)
    (hfew : ((backTo cpos (starEach [a] X.env)).all (fun x => !x.1) && (backToKw cpos (keywordEach [] X.env)).all (fun x => x.1.isSome)
      && decide (([a] : List Expr).length + ([] : List Keyword).length + (if ([] : List Keyword).isEmpty then 0 else 1) < 30)) = true)
    (hline : (apos.endLine == cpos.line) = true) (hs : starEach [a] X.env = (false, eval a X.env) :: starEach [] X.env) (hplain : (backTo cpos (starEach [] X.env)).any (·.1) = false) :
    SE T ca X (.Call (.Attribute o "index" apos) [a] [] cpos) (mIdxL d1 d2) := fun W₀ t =>
  (pe_bm (T := "list") (id := "list.index") (r := rIndex X.K) PySem.F.plainAttrs_list PySem.F.slot_list_index PySem.F.type_list_index mt_index (ho W₀ t) (ha W₀ t) hbase hfew hline hs hplain).weak fun σ H Q ⟨ρ, e, h, re, rh, f⟩ =>
    ⟨ρ, e, h, re, rh, (fin_bnd f).imp fun v H1 ⟨ρ1, w, h1, s1, rh1, r1, f1⟩ => by
      cases w with
      | lst ys =>
        cases r1 with
        | lst hA la =>
          refine ⟨.inl ⟨rfl, _, hA.sq⟩, ρ1, e, h1, re.step s1, rh1, (fin_bndA f1).imp fun us H2 ⟨ρ2, ws, h2, s2, rh2, r2, f2⟩ => ?_⟩
          obtain ⟨u, j, z, e1, e2, e3, e4, e5, e6, e7⟩ := idx1_ok f2 rh2 r2 (la.step s2)
          exact ⟨_, _, u, j, z, rfl, e1, (hA.step s2).sq, e2, e3, e4, e5, e6, e7⟩
      | _ => exact f1.elim⟩
theorem SE.indexT {o a : Expr} {d1 d2 : D} {apos cpos : Pos} (ho : SE T ca X o d1) (ha : SA T ca X [a] d2)
    (hbase : attributeBase o "index" X.env (eval o X.env) = eval o X.env)
    (hfew : ((backTo cpos (starEach [a] X.env)).all (fun x => !x.1) && (backToKw cpos (keywordEach [] X.env)).all (fun x => x.1.isSome)
      && decide (([a] : List Expr).length + ([] : List Keyword).length + (if ([] : List Keyword).isEmpty then 0 else 1) < 30)) = true)
    (hline : (apos.endLine == cpos.line) = true) (hs : starEach [a] X.env = (false, eval a X.env) :: starEach [] X.env) (hplain : (backTo cpos (starEach [] X.env)).any (·.1) = false) :
    SE T ca X (.Call (.Attribute o "index" apos) [a] [] cpos) (mIdxT d1 d2) := fun W₀ t =>
  (pe_bmT (r := rIndexT X.K) PySem.F.slot_tuple_index PySem.F.type_tuple_index mt_indexT (ho W₀ t) (ha W₀ t) hbase hfew hline hs hplain).weak fun σ H Q ⟨ρ, e, h, re, rh, f⟩ =>
    ⟨ρ, e, h, re, rh, (fin_bnd f).imp fun v H1 ⟨ρ1, w, h1, s1, rh1, r1, f1⟩ => by
      cases w with
      | ftp ys =>
        cases r1 with
        | ftp hA la =>
          obtain ⟨⟨o, ho, hc, hd⟩, hm⟩ := id hA
          refine ⟨⟨_, o, _, rfl, ho, hc, hd⟩, ρ1, e, h1, re.step s1, rh1, (fin_bndA f1).imp fun us H2 ⟨ρ2, ws, h2, s2, rh2, r2, f2⟩ => ?_⟩
          obtain ⟨u, j, z, e1, e2, e3, e4, e5, e6, e7⟩ := idx1_ok f2 rh2 r2 (la.step s2)
          exact ⟨_, _, u, j, z, rfl, e1, (hA.step s2).sq, e2, e3, e4, e5, e6, e7⟩
      | _ => exact f1.elim⟩
/-! ### tuple(xs), the object known -/
def rTupF (K : PySem.W.Frag) : List V → Hp → VK → Prop := fun xs H Q => ∃ p ys, xs = [.ref p] ∧ SqL K H p ys ∧ ∀ (l : Addr) (o : Obj), H l = none → o.cls = .type "tuple" → o.dict = Option.none → Q (.ref l) (upd H l (.frz o (.tup ys)))
theorem cr_tupF : CallR X (.type "tuple") (rTupF X.K) := fun pins s σ H _ us Q I rv ⟨a, ys, e, sq, q⟩ => by
  subst e
  obtain ⟨u, rfl, eu⟩ := vals1 rv
  have eu : u = Value.ref a := eu
  subst eu
  obtain ⟨its, vals, isL, fits⟩ := I.list sq
  have size : its.toArray.size ≤ sizeLine := by rw [List.size_toArray, ← vals.length]; exact fits
  refine call_tuple_list isL.isList (fun g kp => ?_) size
  -- the new tuple's object is known to the last: no dict stands in it
  let made : Obj := { cls := .type "tuple", data := .seq its.toArray }
  have Ig : Inv X pins σ H { s with heap := g } := I.kept (t' := s.toks) kp
  have laid := Ig.laid (a := g.objs.size) (o := .frz made (.tup ys)) (h' := g.push made) (t' := s.toks) (fun b o e => Heap.get?_push_of_some made e) (Nat.le_refl _) ⟨Heap.get?_push_size g rfl, fits, its, vals, IsTup.new g its.toArray⟩
  exact ⟨.ref g.objs.size, _, laid, rfl, q _ made (Ig.hok.fresh (Nat.le_refl _)) rfl rfl⟩
def oTupF (ws : List W) : Option W := match ws with
  | [w] => (match w with
    | .lst xs => some (.ftp xs)
    | .scr xs => some (.ftp xs)
    | _ => Option.none)
  | _ => Option.none
theorem new_ftp (r : RelH K T ρ H h) {p : Addr} {o : Obj} {ws : List W} {vs : List V} (np : H p = Option.none) (hc : o.cls = .type "tuple") (hd : o.dict = Option.none) (x : RWs K T ρ H ws vs) : Stp ρ H ρ (upd H p (.frz o (.tup vs))) ∧ RelH K T ρ (upd H p (.frz o (.tup vs))) h ∧ RW K T ρ (upd H p (.frz o (.tup vs))) (.ftp ws) (.ref p) :=
  ⟨Stp.imm ρ _ np, (r.imm _ np).1, .ftp ⟨⟨o, upd_same, hc, hd⟩, (r.imm (.frz o (.tup vs)) np).2⟩ (x.step (Stp.imm ρ _ np))⟩
theorem n_tupF : OpN K T (rTupF K) oTupF := by
  intro ρ H h ws w vs Q e rh rr q
  match ws, e, rr with
  | [a], e, rr =>
    obtain ⟨v, rfl, r⟩ := rrs1 rr
    cases a with
    | lst xs =>
      cases e
      obtain ⟨p, vs, rfl, ha, la⟩ := r
      refine ⟨_, _, rfl, SqL.of ha, fun l o np hc hd => ?_⟩
      obtain ⟨a1, a2, a3⟩ := new_ftp rh np hc hd la
      exact q _ _ a1 a2 a3
    | scr xs => cases e; cases r with
      | scr ha la =>
        refine ⟨_, _, rfl, ha.sq, fun l o np hc hd => ?_⟩
        obtain ⟨a1, a2, a3⟩ := new_ftp rh np hc hd la
        exact q _ _ a1 a2 a3
    | _ => cases e
end
end
end VA
set_option Elab.async false
set_option linter.all false
set_option maxRecDepth 100000
set_option maxHeartbeats 8000000
/-! V19: ranges laid out; instances with slots: made, read, set; isinstance. -/
namespace VA
noncomputable section
open PySem PySem.Spec PyProof.Rows L2 Srt
section
variable {X : Cx} {K : PySem.W.Frag} {T : Tab} {ca : CallT} {ρ : Rho} {H : Hp} {h : Hpi}
/-! ### list(range(n)), tuple(range(n)) -/
def tlR (t : Bool) (r e : List W) (h : Hpi) : R := match t with
  | true => .ok (.tup r) e h
  | false => .ok (.lst r) e h
def layR (t : Bool) (w : W) (e : List W) (h : Hpi) : R := match w with
  | .int j => (match rgB j with
    | true => (match Nat.ble j.toNat lim with
      | true => rngK j.toNat 0 fun r => tlR t r e h
      | false => .bad)
    | false => .bad)
  | _ => .bad
def mLayR (t : Bool) (a : D) : D := fun ca e h => bnd (a ca e h) fun w h1 => layR t w e h1
theorem rws_rng : ∀ (n : Nat) (lo : Int), RWs K T ρ H (rngW n lo) ((List.range n).map fun i => V.int (lo + (i : Nat)))
  | 0, _ => .nil
  | n + 1, lo => by
    rw [List.range_succ_eq_map]
    rw [List.map_cons, List.map_map]
    have e : ((fun i : Nat => V.int (lo + (i : Nat))) ∘ Nat.succ) = fun i : Nat => V.int (lo + 1 + (i : Nat)) := by
      funext i
      show V.int (lo + ((i + 1 : Nat) : Int)) = _
      congr 1
      omega
    rw [e]
    have e0 : lo + ((0 : Nat) : Int) = lo := by omega
    rw [e0]
    exact .cons (.int lo) (rws_rng n (lo + 1))
theorem layR_ok {t : Bool} {w : W} {e : List W} {W₀ : WX} {σ : L2.St} {Q : VK} {v : V} (f : FinE K T W₀ σ ρ H (layR t w e h) Q) (r : RW K T ρ H w v) :
    ∃ j, v = .int j ∧ RgOk 0 j ∧ FinE K T W₀ σ ρ H (tlR t (rngW j.toNat 0) e h) Q := by
  cases w with
  | int j =>
    cases r
    unfold layR at f
    cases z : rgB j with
    | false => simp only [z] at f; exact f.elim
    | true =>
      simp only [z] at f
      cases z2 : Nat.ble j.toNat lim with
      | false => simp only [z2] at f; exact f.elim
      | true =>
        simp only [z2, rngK_eq] at f
        obtain ⟨a1, a2⟩ := rgB_ok z
        have := Nat.le_of_ble_eq_true z2
        refine ⟨j, rfl, ⟨by omega, by omega, a1, a2, ?_⟩, f⟩
        have : lim = 100000 := rfl
        have : (j - 0).toNat = j.toNat := by rw [Int.sub_zero]
        omega
  | _ => exact f.elim
theorem rgV_eq (j : Int) : rgV 0 j = (List.range j.toNat).map fun i => V.int (0 + (i : Nat)) := by
  unfold rgV
  rw [Int.sub_zero]
theorem SE.listRg {a : Expr} {d : D} {p p2 pos pos2 : Pos} (hc : X.calm = true) (hg : Gl X "list") (hm : X.mg "list" = none) (hg2 : Gl X "range") (hm2 : X.mg "range" = none) (ha : SE T ca X a d)
    (n1 : starEach [.Call (.Name "range" p2) [a] [] pos2] X.env = (false, eval (.Call (.Name "range" p2) [a] [] pos2) X.env) :: starEach [] X.env) (n2 : starEach [a] X.env = (false, eval a X.env) :: starEach [] X.env) :
    SE T ca X (.Call (.Name "list" p) [.Call (.Name "range" p2) [a] [] pos2] [] pos) (mLayR false d) := fun W₀ t =>
  (pe_listRg hc hg hm (prg_1 hg2 hm2 (ha W₀ t) n2) n1).weak fun σ H Q ⟨ρ, e, h, re, rh, f⟩ => ⟨ρ, e, h, re, rh, (fin_bnd f).imp fun v H1 ⟨ρ1, w, h1, s1, rh1, r1, f1⟩ => by
    obtain ⟨j, rfl, ok, f2⟩ := layR_ok f1 r1
    refine ⟨j, rfl, ok, fun q np => ?_⟩
    rw [rgV_eq]
    obtain ⟨a1, a2, a3⟩ := new_lst rh1 np (rws_rng (K := X.K) (T := T) (ρ := ρ1) (H := H1) j.toNat 0)
    exact f2 _ _ _ a1 a2 a3⟩
theorem SE.tupRg {a : Expr} {d : D} {p p2 pos pos2 : Pos} (hc : X.calm = true) (hg : Gl X "tuple") (hm : X.mg "tuple" = none) (hg2 : Gl X "range") (hm2 : X.mg "range" = none) (ha : SE T ca X a d)
    (n1 : starEach [.Call (.Name "range" p2) [a] [] pos2] X.env = (false, eval (.Call (.Name "range" p2) [a] [] pos2) X.env) :: starEach [] X.env) (n2 : starEach [a] X.env = (false, eval a X.env) :: starEach [] X.env) :
    SE T ca X (.Call (.Name "tuple" p) [.Call (.Name "range" p2) [a] [] pos2] [] pos) (mLayR true d) := fun W₀ t =>
  (pe_tupRg hc hg hm (prg_1 hg2 hm2 (ha W₀ t) n2) n1).weak fun σ H Q ⟨ρ, e, h, re, rh, f⟩ => ⟨ρ, e, h, re, rh, (fin_bnd f).imp fun v H1 ⟨ρ1, w, h1, s1, rh1, r1, f1⟩ => by
    obtain ⟨j, rfl, ok, f2⟩ := layR_ok f1 r1
    refine ⟨j, rfl, ok, fun q np => ?_⟩
    rw [rgV_eq]
    obtain ⟨a1, a2, a3⟩ := new_tup rh1 np (rws_rng (K := X.K) (T := T) (ρ := ρ1) (H := H1) j.toNat 0)
    exact f2 _ _ _ a1 a2 a3⟩
/-! ### classes with slots -/
/-- the class c, its field f in the place i -/
structure Fld (T : Tab) (X : Cx) (c : Nat) (f : Str) (i : Nat) : Prop where
  cls : SlX.SCls X.K (T.ca c)
  slot : ∃ p, SlX.Slot1 X.K (T.ca c) f p i
def getF (h : Hpi) (c i : Nat) (w : W) (e : List W) : R := match w with
  | .loc n => (match h.get n with
    | some (.ins c' fs) => (match Nat.beq c' c with
      | true => (match nthW fs i with
        | some u => (match u with
          | .nul => .bad
          | u => .ok u e h)
        | Option.none => .bad)
      | false => .bad)
    | _ => .bad)
  | _ => .bad
def mFld (c i : Nat) (a : D) : D := fun ca e h => bnd (a ca e h) fun w h1 => getF h1 c i w e
theorem getF_ok {c i : Nat} {w : W} {e : List W} {W₀ : WX} {σ : L2.St} {Q : VK} {v : V} (f : FinE K T W₀ σ ρ H (getF h c i w e) Q) (rh : RelH K T ρ H h) (r : RW K T ρ H w v) :
    ∃ a dx vs u, v = .ref a ∧ SlX.Slt H a (T.ca c) dx vs ∧ vs[i]? = some (some u) ∧ Q u H := by
  cases w with
  | loc n =>
    cases r with
    | loc _ hn =>
      unfold getF at f
      cases g : h.get n with
      | none => simp only [g] at f; exact f.elim
      | some ob =>
        simp only [g] at f
        cases ob with
        | ins c' fs =>
          simp only at f
          cases b : Nat.beq c' c with
          | false => simp only [b] at f; exact f.elim
          | true =>
            simp only [b, nthW_eq] at f
            have ec := Nat.eq_of_beq_eq_true b
            subst ec
            obtain ⟨_, h2, vs, ia, hf⟩ := rh.ob n _ g
            cases q : fs[i]? with
            | none => simp only [q] at f; exact f.elim
            | some u =>
              simp only [q] at f
              have key : u ≠ .nul → FinE K T W₀ σ ρ H (.ok u e h) Q → ∃ a dx vs u, V.ref (ρ.pl n) = .ref a ∧ SlX.Slt H a (T.ca c') dx vs ∧ vs[i]? = some (some u) ∧ Q u H := fun nn f => by
                obtain ⟨x, e1, r1⟩ := hf i u q nn
                exact ⟨_, _, vs, x, rfl, ia.slt, e1, f ρ H x (Stp.refl _ _) rh r1⟩
              cases u with
              | nul => exact f.elim
              | _ => exact key (by intro z; cases z) f
        | _ => exact f.elim
  | _ => exact f.elim
theorem SE.fld {a : Expr} {f : Str} {d : D} {c i : Nat} {pos : Pos} (hf : Fld T X c f i) (ha : SE T ca X a d) (hb : attributeBase a f X.env (eval a X.env) = eval a X.env) : SE T ca X (.Attribute a f pos) (mFld c i d) := fun W₀ t =>
  (SlX.pe_sl (ha W₀ t) hb).weak fun σ H Q ⟨ρ, e, h, re, rh, f1⟩ => ⟨ρ, e, h, re, rh, (fin_bnd f1).imp fun v H1 ⟨ρ1, w, h1, s1, rh1, r1, f2⟩ => by
    obtain ⟨p, hs⟩ := hf.slot
    obtain ⟨x, dx, vs, u, e1, e2, e3, e4⟩ := getF_ok f2 rh1 r1
    exact ⟨x, T.ca c, dx, p, vs, i, u, e1, e2, hf.cls, hs, e3, e4⟩⟩
/-! o.f = v -/
def setF (h : Hpi) (c i : Nat) (w v : W) (k : Hpi → R) : R := match w with
  | .loc n => (match h.get n with
    | some (.ins c' fs) => (match Nat.beq c' c with
      | true => setK fs i v fun fs' => k (h.put n (.ins c fs'))
      | false => .bad)
    | _ => .bad)
  | _ => .bad
def mSfld (c i : Nat) (o a : D) : D := fun ca e h => bndS (a ca e h) e fun v h1 => bndS (o ca e h1) e fun w h2 => setF h2 c i w v fun h3 => .ok .non e h3
/-- an instance changed: it and its dict -/
theorem RelH.putI (r : RelH K T ρ H h) {n c : Nat} {fs fs' : List W} (e : h.get n = some (.ins c fs)) {vs : List (Option V)} (hx : ρ.pl (n + 1) ≠ ρ.pl n)
    (x : Stp ρ H ρ (SlX.slH H (ρ.pl n) (T.ca c) (ρ.pl (n + 1)) vs) → ∀ (i : Nat) (w : W), fs'[i]? = some w → w ≠ .nul → ∃ v, vs[i]? = some (some v) ∧ RW K T ρ (SlX.slH H (ρ.pl n) (T.ca c) (ρ.pl (n + 1)) vs) w v) :
    Stp ρ H ρ (SlX.slH H (ρ.pl n) (T.ca c) (ρ.pl (n + 1)) vs) ∧ RelH K T ρ (SlX.slH H (ρ.pl n) (T.ca c) (ρ.pl (n + 1)) vs) (h.put n (.ins c fs')) := by
  obtain ⟨hn, x0⟩ := r.ob n _ e
  have hn2 := x0.aux.1
  have same : ∀ m, m < ρ.next → ¬ (m = n ∨ m = n + 1) → SlX.slH H (ρ.pl n) (T.ca c) (ρ.pl (n + 1)) vs (ρ.pl m) = H (ρ.pl m) := fun m hm hne =>
    SlX.slH_ne (fun z => hne (.inl (r.inj _ _ hm hn z))) (fun z => hne (.inr (r.inj _ _ hm hn2 z)))
  have c1 : Chg ρ H (SlX.slH H (ρ.pl n) (T.ca c) (ρ.pl (n + 1)) vs) (fun m => m = n ∨ m = n + 1) := by
    refine ⟨⟨Nat.le_refl _, fun _ _ => rfl, fun m h1 h2 => absurd h2 (by omega), fun _ h => h, fun _ _ _ h => h, fun b u e1 _ m _ => ?_, fun b u e1 => ?_, fun T' t => ?_⟩, same⟩
    · rw [SlX.slH_ne (fun z => m n hn z.symm) (fun z => m (n + 1) hn2 z.symm)]; exact e1
    · by_cases z1 : b = ρ.pl n
      · exact ⟨_, by rw [z1]; exact upd_same⟩
      · by_cases z2 : b = ρ.pl (n + 1)
        · refine ⟨.xd [], ?_⟩
          rw [z2]
          unfold SlX.slH
          rw [upd_ne hx, upd_same]
        · exact ⟨u, by rw [SlX.slH_ne z1 z2]; exact e1⟩
    · refine t.of fun b u e1 cc => ?_
      have far : ∀ k, k < ρ.next → b ≠ ρ.pl k := fun k hk z => by
        obtain ⟨u', e', t'⟩ := r.on (ρ.pl k) (ρ.plmu k hk)
        rw [← z, e1] at e'
        cases e'
        exact nT_isC t' b cc
      rw [SlX.slH_ne (far n hn) (far (n + 1) hn2)]; exact e1
  refine ⟨c1.st, r.nx, r.inj, fun a m => ?_, putO_sorted _ _ r.srt, fun m u hu => ?_, c1.st.tb T r.tb⟩
  · obtain ⟨o, e1, t⟩ := r.on a m
    by_cases z1 : a = ρ.pl n
    · exact ⟨SlX.SlO (ρ.pl n) (T.ca c) (ρ.pl (n + 1)) vs, by rw [z1]; exact upd_same, nT_slo ..⟩
    · by_cases z2 : a = ρ.pl (n + 1)
      · refine ⟨.xd [], ?_, rfl⟩
        rw [z2]
        unfold SlX.slH
        rw [upd_ne hx, upd_same]
      · exact ⟨o, by rw [SlX.slH_ne z1 z2]; exact e1, t⟩
  · by_cases mn : m = n
    · subst mn
      have z := getO_put_same hu
      subst z
      refine ⟨hn, hn2, vs, .inr ⟨upd_same, ?_⟩, x c1.st⟩
      unfold SlX.slH
      rw [upd_ne hx, upd_same]
    · have hu' : h.get m = some u := (getO_put_ne mn).symm.trans hu
      obtain ⟨hm, y⟩ := r.ob m u hu'
      have m1 : m ≠ n + 1 := fun z => by
        obtain ⟨o1, e1, a1⟩ := x0.aux.2
        obtain ⟨o2, e2, a2⟩ := y.main
        rw [z, e1] at e2
        cases e2
        exact main_aux a2 a1
      refine ⟨hm, RO.away c1 hm (fun z => z.elim mn m1) (fun ⟨k, fs1, eu⟩ z => ?_) y⟩
      subst eu
      obtain ⟨_, o1, e1, a1⟩ := y.aux
      rcases z with z | z
      · obtain ⟨o2, e2, a2⟩ := x0.main
        rw [z, e2] at e1
        cases e1
        exact main_aux a2 a1
      · exact mn (by omega)
theorem setF_ok {c i : Nat} {w v : W} {W₀ : WX} {D : Ends} {k : Hpi → R} (f : FinS K T W₀ ρ H (setF h c i w v k) D) (rh : RelH K T ρ H h) {o u : V} (r : RW K T ρ H w o) (rv : RW K T ρ H v u) {Q : Hp → Prop}
    (fin : ∀ H' h', Stp ρ H ρ H' → RelH K T ρ H' h' → FinS K T W₀ ρ H (k h') D → Q H') : ∃ a dx vs, o = .ref a ∧ SlX.Slt H a (T.ca c) dx vs ∧ Q (SlX.slH H a (T.ca c) dx (SlX.putS i u vs)) := by
  cases w with
  | loc n =>
    cases r with
    | loc _ hn =>
      unfold setF at f
      cases g : h.get n with
      | none => simp only [g] at f; exact f.elim
      | some ob =>
        simp only [g] at f
        cases ob with
        | ins c' fs =>
          simp only at f
          cases b : Nat.beq c' c with
          | false => simp only [b] at f; exact f.elim
          | true =>
            simp only [b, setK_eq] at f
            have ec := Nat.eq_of_beq_eq_true b
            subst ec
            obtain ⟨_, h2, vs, ia, hf⟩ := rh.ob n _ g
            have hx : ρ.pl (n + 1) ≠ ρ.pl n := fun z => by
              have := rh.inj _ _ h2 hn z
              omega
            obtain ⟨a1, a2⟩ := RelH.putI rh g (fs' := fs.set i v) (vs := SlX.putS i u vs) hx fun st j w hw nn => by
              by_cases ij : i = j
              · subst ij
                have hl : i < fs.length := by
                  have z := (List.getElem?_eq_some_iff.mp hw).1
                  simpa using z
                rw [List.getElem?_set_self hl] at hw
                cases hw
                exact ⟨u, SlX.putS_get _ _ _, rv.step st⟩
              · rw [List.getElem?_set_ne ij] at hw
                obtain ⟨y, e1, r1⟩ := hf j w hw nn
                exact ⟨y, (SlX.putS_ne (fun z => ij z.symm)).mpr e1, r1.step st⟩
            exact ⟨_, _, vs, rfl, ia.slt, fin _ _ a1 a2 f⟩
        | _ => exact f.elim
  | _ => exact f.elim
theorem SS.sfld {o e : Expr} {f : Str} {d1 d2 : D} {c i : Nat} {pos pos' : Pos} (hf : Fld T X c f i) (ho : SE T ca X o d1) (he : SE T ca X e d2) (hs : swapsWith e (some (.Attribute o f pos')) pos.line X.env = pure false) :
    SS T ca X (.Assign [.Attribute o f pos'] e pos) (mSfld c i d1 d2) := fun W₀ t =>
  (SlX.ps_sl (ho W₀ t) (he W₀ t) hs).weak fun D σ H ⟨ρ, e, h, re, rh, f0⟩ => ⟨ρ, e, h, re, rh, (finS_bnd re f0).imp fun v H1 ⟨ρ1, w1, h1, s1, rh1, r1, f1⟩ =>
    ⟨ρ1, e, h1, re.step s1, rh1, (finS_bnd (re.step s1) f1).imp fun ov H2 ⟨ρ2, w2, h2, s2, rh2, r2, f2⟩ => by
      obtain ⟨p, hsl⟩ := hf.slot
      obtain ⟨a, dx, vs, e1, e2, e3⟩ := setF_ok f2 rh2 r2 (r1.step s2) (Q := fun H' => D.nx σ H') fun H' h' s r f' => f' ρ2 H' σ s r (((re.step s1).step s2).step s)
      exact ⟨a, T.ca c, dx, p, vs, i, e1, e2, hf.cls, hsl, e3⟩⟩⟩
end
end
end VA
set_option Elab.async false
set_option linter.all false
set_option maxRecDepth 100000
set_option maxHeartbeats 8000000
/-! V20: instances made; isinstance. -/
namespace VA
noncomputable section
open PySem PySem.Spec PyProof.Rows L2 Srt
section
variable {X : Cx} {K : PySem.W.Frag} {T : Tab} {ca : CallT} {ρ : Rho} {H : Hp} {h : Hpi}
def Rho.new2 (ρ : Rho) (x dx : Addr) : Rho := ⟨ρ.next + 2, fun n => if n = ρ.next then x else if n = ρ.next + 1 then dx else ρ.pl n, fun a => ρ.mu a ∨ a = x ∨ a = dx, fun n hn => by
  by_cases e : n = ρ.next
  · exact .inr (.inl (if_pos e))
  · by_cases e2 : n = ρ.next + 1
    · refine .inr (.inr ?_)
      show (if n = ρ.next then x else if n = ρ.next + 1 then dx else ρ.pl n) = dx
      rw [if_neg e, if_pos e2]
    · show ρ.mu (if n = ρ.next then x else if n = ρ.next + 1 then dx else ρ.pl n) ∨ _
      rw [if_neg e, if_neg e2]
      exact .inl (ρ.plmu n (by omega))⟩
theorem Rho.new2_x (ρ : Rho) (x dx : Addr) : (ρ.new2 x dx).pl ρ.next = x := if_pos rfl
theorem Rho.new2_d (ρ : Rho) (x dx : Addr) : (ρ.new2 x dx).pl (ρ.next + 1) = dx := by
  show (if ρ.next + 1 = ρ.next then x else if ρ.next + 1 = ρ.next + 1 then dx else ρ.pl (ρ.next + 1)) = dx
  rw [if_neg (by omega), if_pos rfl]
theorem Rho.new2_old (ρ : Rho) (x dx : Addr) {n : Nat} (h : n < ρ.next) : (ρ.new2 x dx).pl n = ρ.pl n := by
  show (if n = ρ.next then x else if n = ρ.next + 1 then dx else ρ.pl n) = _
  rw [if_neg (show n ≠ _ by omega), if_neg (by omega)]
def madeH (H : Hp) (C x dx : Addr) : Hp := upd (upd H dx (.own x)) x (.ins C dx [])
theorem madeH_ne {C x dx b : Addr} (h1 : b ≠ x) (h2 : b ≠ dx) : madeH H C x dx b = H b := by
  unfold madeH
  rw [upd_ne h1, upd_ne h2]
theorem stp_new2 (ρ : Rho) {C x dx : Addr} (nx : H x = Option.none) (nd : H dx = Option.none) : Stp ρ H (ρ.new2 x dx) (madeH H C x dx) := by
  have ne : ∀ b u, H b = some u → b ≠ x ∧ b ≠ dx := fun b u e => ⟨ne_of_none e nx, ne_of_none e nd⟩
  refine ⟨Nat.le_add_right _ _, fun n h => ρ.new2_old x dx h, fun n h1 h2 => ?_, fun a h => .inl h, fun a u e h => ?_, fun a u e _ _ _ => ?_, fun a u e => ⟨u, ?_⟩, fun T t => t.of fun a u e _ => ?_⟩
  · have h3 : n < ρ.next + 2 := h2
    by_cases e : n = ρ.next
    · rw [e, ρ.new2_x]; exact nx
    · have e2 : n = ρ.next + 1 := by omega
      rw [e2, ρ.new2_d]; exact nd
  · rcases h with h | h | h
    · exact h
    · exact absurd h (ne a u e).1
    · exact absurd h (ne a u e).2
  · rw [madeH_ne (ne a u e).1 (ne a u e).2]; exact e
  · rw [madeH_ne (ne a u e).1 (ne a u e).2]; exact e
  · rw [madeH_ne (ne a u e).1 (ne a u e).2]; exact e
theorem relH_new2 (r : RelH K T ρ H h) {c ns : Nat} {x dx : Addr} (nx : H x = Option.none) (nd : H dx = Option.none) (hne : dx ≠ x) : RelH K T (ρ.new2 x dx) (madeH H (T.ca c) x dx) (h.new2 (.ins c (List.replicate ns .nul))) := by
  have st := stp_new2 (C := T.ca c) ρ nx nd
  have mx : ¬ ρ.mu x := (r.imm (.lst []) nx).2
  have md : ¬ ρ.mu dx := (r.imm (.lst []) nd).2
  have px : ∀ n, n < ρ.next → ρ.pl n ≠ x := fun n hn e => mx (e ▸ ρ.plmu n hn)
  have pd : ∀ n, n < ρ.next → ρ.pl n ≠ dx := fun n hn e => md (e ▸ ρ.plmu n hn)
  have at_x : madeH H (T.ca c) x dx x = some (.ins (T.ca c) dx []) := upd_same
  have at_d : madeH H (T.ca c) x dx dx = some (.own x) := by unfold madeH; rw [upd_ne hne, upd_same]
  refine ⟨congrArg (· + 2) r.nx, fun i j hi hj e => ?_, fun a ha => ?_, ?_, fun n u e => ?_, st.tb T r.tb⟩
  · have hi' : i < ρ.next + 2 := hi
    have hj' : j < ρ.next + 2 := hj
    have cls : ∀ k, k < ρ.next + 2 → (k < ρ.next ∧ (ρ.new2 x dx).pl k = ρ.pl k) ∨ (k = ρ.next ∧ (ρ.new2 x dx).pl k = x) ∨ (k = ρ.next + 1 ∧ (ρ.new2 x dx).pl k = dx) := fun k hk => by
      by_cases a1 : k < ρ.next
      · exact .inl ⟨a1, ρ.new2_old x dx a1⟩
      · by_cases a2 : k = ρ.next
        · exact .inr (.inl ⟨a2, by rw [a2, ρ.new2_x]⟩)
        · have a3 : k = ρ.next + 1 := by omega
          exact .inr (.inr ⟨a3, by rw [a3, ρ.new2_d]⟩)
    rcases cls i hi' with ⟨a1, a2⟩ | ⟨a1, a2⟩ | ⟨a1, a2⟩ <;> rcases cls j hj' with ⟨b1, b2⟩ | ⟨b1, b2⟩ | ⟨b1, b2⟩ <;> rw [a2, b2] at e
    · exact r.inj i j a1 b1 e
    · exact absurd e (px i a1)
    · exact absurd e (pd i a1)
    · exact absurd e.symm (px j b1)
    · omega
    · exact absurd e.symm hne
    · exact absurd e.symm (pd j b1)
    · exact absurd e hne
    · omega
  · rcases ha with ha | ha | ha
    · obtain ⟨o, e, t⟩ := r.on a ha
      exact ⟨o, by rw [madeH_ne (ne_of_none e nx) (ne_of_none e nd)]; exact e, t⟩
    · exact ⟨_, by rw [ha]; exact at_x, rfl⟩
    · exact ⟨_, by rw [ha]; exact at_d, rfl⟩
  · exact srt_new r.srt fun n u e => by rw [r.nx]; exact (r.ob n u e).1
  · rcases getO_new e with ⟨a, b⟩ | ⟨a, b⟩
    · rw [a, b, r.nx]
      refine ⟨by show ρ.next < ρ.next + 2; omega, by show ρ.next + 1 < ρ.next + 2; omega, [], .inl ⟨?_, ?_, rfl⟩, fun i w hw nn => ?_⟩
      · rw [ρ.new2_x, ρ.new2_d]; exact at_x
      · rw [ρ.new2_x, ρ.new2_d]; exact at_d
      · rw [List.getElem?_replicate] at hw
        split at hw
        · cases hw; exact absurd rfl nn
        · cases hw
    · obtain ⟨hn, y⟩ := r.ob n u b
      refine ⟨Nat.lt_add_right _ hn, ?_⟩
      cases u with
      | lst ws => obtain ⟨vs, e1, q⟩ := y; exact ⟨vs, by rw [ρ.new2_old x dx hn, madeH_ne (px n hn) (pd n hn)]; exact e1, q.step st⟩
      | dct ks ws => obtain ⟨o', e1, q⟩ := y; exact ⟨o', by rw [ρ.new2_old x dx hn, madeH_ne (px n hn) (pd n hn)]; exact e1, q.step st⟩
      | ins k fs =>
        obtain ⟨h2, vs, q, z⟩ := y
        refine ⟨Nat.lt_add_right _ h2, vs, ?_, fun i w e1 n1 => ?_⟩
        · rw [ρ.new2_old x dx hn, ρ.new2_old x dx h2]
          rcases q with ⟨q1, q2, q3⟩ | ⟨q1, q2⟩
          · exact .inl ⟨by rw [madeH_ne (px n hn) (pd n hn)]; exact q1, by rw [madeH_ne (px _ h2) (pd _ h2)]; exact q2, q3⟩
          · exact .inr ⟨by rw [madeH_ne (px n hn) (pd n hn)]; exact q1, by rw [madeH_ne (px _ h2) (pd _ h2)]; exact q2⟩
        · obtain ⟨v, e2, q3⟩ := z i w e1 n1
          exact ⟨v, e2, q3.step st⟩
/-- the class named x may be made: its __init__ is the def f -/
structure Mkc (T : Tab) (ca : CallT) (X : Cx) (x : Str) (c f n : Nat) : Prop where
  gl : X.mg x = some (.ref (T.ca c))
  mkd : Mk X.K (T.ca c) (T.fa f)
  fn : ∃ k fd ps, FnOk X.prog X.w X.K X.mg X.base (L2.CX X.prog X.w) k (T.fa f) fd ps (spC X.K T ca f n) ∧ Room (k + 1) X.A ∧ Binds X.K fd ps []
def nonR (w : W) (k : R) : R := match w with
  | .non => k
  | _ => .bad
def mMake (c f n ns : Nat) (a : D) : D := fun ca e h => bndA (a ca e h) fun ws h1 => match Nat.beq (lenN ws + 1) n with
  | true => bndC (ca f (.loc h1.next :: ws) (h1.new2 (.ins c (List.replicate ns .nul)))) fun w h2 => nonR w (cutR false (h1.next + 2) (.loc h1.next) e h2)
  | false => .bad
abbrev EF : XK := fun _ _ _ => False
theorem pass_false : Passes (L2.CX X.prog X.w) X EF := fun _ _ _ _ _ _ _ c => by
  obtain ⟨_, _, _, _, _, _, _, _, _, _, _, _, hE⟩ := c
  exact hE.elim
theorem t_make {W₀ : WX} {c f n ns : Nat} {d : D} {σ : L2.St} {Q : VK} (h : tE K T ca W₀ (mMake c f n ns d) σ H Q) : tMake (T.ca c) (spC K T ca f n) [] EF (tA K T ca W₀ d) σ H Q := by
  obtain ⟨ρ, e, hp, re, rh, f0⟩ := h
  refine ⟨ρ, e, hp, re, rh, (fin_bndA f0).imp ?_⟩
  rintro vs H1 ⟨ρ1, ws, h1, s1, rh1, r1, f1⟩ x dx nx nd hne
  rw [lenN_eq] at f1
  cases z : Nat.beq (ws.length + 1) n with
  | false => rw [z] at f1; exact f1.elim
  | true =>
    rw [z] at f1
    have st := stp_new2 (C := T.ca c) ρ1 nx nd
    have rn := relH_new2 (c := c) (ns := ns) rh1 nx nd hne
    have f2 := fin_bndC (σ' := []) (ρ := ρ1.new2 x dx) (H := madeH H1 (T.ca c) x dx) (FinE.step st f1)
    have lx : RW K T (ρ1.new2 x dx) (madeH H1 (T.ca c) x dx) (.loc h1.next) (.ref x) := by
      have q : RW K T (ρ1.new2 x dx) (madeH H1 (T.ca c) x dx) (.loc h1.next) (.ref ((ρ1.new2 x dx).pl h1.next)) := .loc _ (by show h1.next < ρ1.next + 2; rw [rh1.nx]; omega)
      rw [rh1.nx, ρ1.new2_x] at q
      rw [rh1.nx]; exact q
    rw [List.append_nil]
    refine ⟨by rw [List.length_cons, ← r1.length]; exact Nat.eq_of_beq_eq_true z, ρ1.new2 x dx, _, _, rn, .cons lx (r1.step st), ?_⟩
    refine FinE.imp (Q := fun v H' => ∃ ρ' w h1', Stp (ρ1.new2 x dx) (madeH H1 (T.ca c) x dx) ρ' H' ∧ RelH K T ρ' H' h1' ∧ RW K T ρ' H' w v ∧ FinE K T W₀ σ (ρ1.new2 x dx) (madeH H1 (T.ca c) x dx) (nonR w (cutR false (h1.next + 2) (.loc h1.next) e h1')) Q) f2 ?_
    rintro v H2 ⟨ρ2, w, h2, s2, rh2, r2, f3⟩
    cases w with
    | non =>
      cases r2
      have f4 : FinE K T W₀ σ (ρ1.new2 x dx) (madeH H1 (T.ca c) x dx) (cutR false (h1.next + 2) (.loc h1.next) e h2) Q := f3
      exact ⟨rfl, cut_ok f4 (congrArg (· + 2) rh1.nx) s2 rh2 (lx.step s2)⟩
    | _ => exact f3.elim
theorem SE.make {x : Str} {p pos : Pos} {a : Expr} {es : List Expr} {d : D} {c f n ns : Nat} (m : Mkc T ca X x c f n) (hg : Gl X x) (ha : SA T ca X (a :: es) d) (hdb : (x == ("__debug__" : Str)) = false)
    (he : starEach (a :: es) X.env = (false, eval a X.env) :: starEach es X.env) (hpl : (backTo pos (starEach es X.env)).any (·.1) = false) : SE T ca X (.Call (.Name x p) (a :: es) [] pos) (mMake c f n ns d) := fun W₀ t => by
  obtain ⟨k, fd, ps, F, hr, hb⟩ := m.fn
  exact (pe_make m.mkd F hr hg m.gl hb .nil pass_false (ha W₀ t) hdb he hpl).weak fun _ _ _ h => t_make h
/-! ### isinstance -/
/-- the kind of a value: its type -/
def tyc (h : Hpi) (w : W) : Option Nat := match w with
  | .non => some 0
  | .bl _ => some 1
  | .anyb => some 1
  | .int _ => some 2
  | .rng _ => some 2
  | .anyi => some 2
  | .str _ => some 3
  | .lst _ => some 4
  | .tup _ => some 5
  | .ftp _ => some 5
  | .loc n => (match h.get n with
    | some (.lst _) => some 4
    | some (.ins c _) => some (c + 10)
    | _ => Option.none)
  | _ => Option.none
def tyVl (T : Tab) (t : Nat) : Value := match t with
  | 0 => .type "NoneType"
  | 1 => .type "bool"
  | 2 => .type "int"
  | 3 => .type "str"
  | 4 => .type "list"
  | 5 => .type "tuple"
  | n + 6 => .ref (T.ca (n - 4))
/-- the class that is asked for -/
structure Isi (T : Tab) (X : Cx) (x : Str) (u : Value) (cv : V) (kit : Nat → Option Bool) : Prop where
  pe : ∀ p, PE X (.Name x p) (tC cv)
  cl : ClsV cv u
  ok : ∀ t b, kit t = some b → PySem.W.kitOne X.K (tyVl T t) u = some b
  own : ∀ c b, kit (c + 10) = some b → SlX.SCls X.K (T.ca c) ∧ SlX.SIsi X.K (T.ca c)
def mIsi (kit : Nat → Option Bool) (a : D) : D := fun ca e h => bnd (a ca e h) fun w h1 => match tyc h1 w with
  | some t => (match kit t with
    | some b => sqB b fun b => .ok (.bl b) e h1
    | Option.none => .bad)
  | Option.none => .bad
abbrev rIsiW (K : PySem.W.Frag) (u : Value) : List V → Hp → VK → Prop := fun xs H Q => rIsi K xs H Q ∨ SlX.rIsiSl K u xs H Q
theorem tyc_ok {x : Str} {u : Value} {cv : V} {kit : Nat → Option Bool} (hi : Isi T X x u cv kit) {w : W} {v : V} {t : Nat} {b : Bool} (rh : RelH X.K T ρ H h) (r : RW X.K T ρ H w v) (et : tyc h w = some t) (ek : kit t = some b) {Q : VK} (q : Q (.bl b) H) : rIsiW X.K u [v, cv] H Q := by
  have base : ∀ ty, TyOf X.K H v ty → tyVl T t = ty → rIsiW X.K u [v, cv] H Q := fun ty h1 h2 => .inl ⟨v, cv, ty, u, b, rfl, hi.cl, .base h1, by rw [← h2]; exact hi.ok t b ek, q⟩
  cases w with
  | non => cases et; cases r; exact base _ .non rfl
  | bl c => cases et; cases r; exact base _ (.bl c) rfl
  | anyb => cases et; cases r; exact base _ (.bl _) rfl
  | int i => cases et; cases r; exact base _ (.int i) rfl
  | rng n => cases et; cases r; exact base _ (.int _) rfl
  | anyi => cases et; cases r; exact base _ (.int _) rfl
  | str s => cases et; cases r; exact base _ (.str _) rfl
  | lst xs => cases et; cases r with
    | lst ha la => exact base _ (.lst ha.1) rfl
  | tup xs => cases et; cases r with
    | tup ha la => exact base _ (.tup ha.1) rfl
  | ftp xs =>
    cases et
    cases r with
    | ftp ha la =>
      obtain ⟨⟨o, ho, _, _⟩, _⟩ := ha
      exact .inl ⟨_, cv, _, u, b, rfl, hi.cl, .fTuple ho, hi.ok 5 b ek, q⟩
  | loc n =>
    cases r with
    | loc _ hn =>
      have et' : (match h.get n with
        | some (.lst _) => some 4
        | some (.ins c _) => some (c + 10)
        | _ => Option.none) = some t := et
      cases g : h.get n with
      | none => rw [g] at et'; cases et'
      | some ob =>
        rw [g] at et'
        cases ob with
        | lst xs =>
          cases et'
          obtain ⟨_, vs, hv, _⟩ := rh.ob n _ g
          exact base _ (.lst hv) rfl
        | ins c fs =>
          cases et'
          obtain ⟨_, h2, vs, ia, _⟩ := rh.ob n _ g
          obtain ⟨k1, k2⟩ := hi.own c b ek
          have e : PySem.W.kitOne X.K (.ref (T.ca c)) u = some b := by
            have z := hi.ok (c + 10) b ek
            have z2 : tyVl T (c + 10) = .ref (T.ca c) := by
              show Value.ref (T.ca (c + 4 - 4)) = _
              rw [Nat.add_sub_cancel]
            rw [z2] at z
            exact z
          have rc : RelV cv u := by
            cases hi.cl with
            | ty n => rfl
            | own C => rfl
          exact .inr ⟨_, T.ca c, _, vs, cv, b, rfl, rc, fun w hw => hi.cl.eq hw, ia.slt, k1, k2, e, q⟩
        | _ => cases et'
  | _ => cases et
theorem SE.isi {x : Str} {p p2 pos : Pos} {a : Expr} {d : D} {u : Value} {cv : V} {kit : Nat → Option Bool} (hi : Isi T X x u cv kit) (hg : Gl X "isinstance") (hm : X.mg "isinstance" = none) (ha : SE T ca X a d)
    (hs : starEach [a, .Name x p2] X.env = (false, eval a X.env) :: starEach [.Name x p2] X.env) (hs2 : starEach [.Name x p2] X.env = (false, eval (.Name x p2) X.env) :: starEach [] X.env) (hpl : (backTo pos (starEach [.Name x p2] X.env)).any (·.1) = false) :
    SE T ca X (.Call (.Name "isinstance" p) [a, .Name x p2] [] pos) (mIsi kit d) := fun W₀ t => by
  have pa : PA X [a, .Name x p2] (tCons (tE X.K T ca W₀ d) (tCons (tC cv) tNil)) := pa_cons (ha W₀ t) (pa_cons (hi.pe p2) pa_nil hs2) hs
  refine (pe_callB (call_isi.or (SlX.call_isiSl u)) hg hm (by decide +kernel) pa (by decide) (by decide) hs hpl).weak fun σ H Q ⟨ρ, e, h, re, rh, f⟩ => ⟨ρ, e, h, re, rh, (fin_bnd f).imp fun v H1 ⟨ρ1, w, h1, s1, rh1, r1, f1⟩ => ?_⟩
  show rIsiW X.K u [v, cv] H1 Q
  cases et : tyc h1 w with
  | none => rw [et] at f1; exact f1.elim
  | some t =>
    rw [et] at f1
    simp only at f1
    cases ek : kit t with
    | none => rw [ek] at f1; exact f1.elim
    | some b =>
      rw [ek] at f1
      simp only [sqB_eq] at f1
      exact tyc_ok hi rh1 r1 et ek (f1 ρ1 H1 _ (Stp.refl _ _) rh1 (.bl b))
end
end
end VA
set_option Elab.async false
set_option linter.all false
set_option maxRecDepth 100000
set_option maxHeartbeats 8000000
/-! V21: dict displays. -/
namespace VA
noncomputable section
open PySem PySem.Spec PyProof.Rows L2 Srt
/-! ### {t: v, ..} with tuples as keys -/
abbrev KB := List Key × Addr × V
def tDispT (trs : List (TE × TE)) : TE := fun σ H Q => ∀ p, H p = none → tPairs trs σ (upd H p (.dT [])) fun ps H2 => H2 p = some (.dT []) ∧ ∃ kbs : List KB, ps = kbs.map (fun q => (V.ref q.2.1, q.2.2)) ∧ (∀ q ∈ kbs, H2 q.2.1 = some (.tup (q.1.map kV))) ∧ kbs.length ≤ 15 ∧
  Q (.ref p) (upd H2 p (.dT (kbs.foldl (fun acc q => putK acc q.1 q.2.2) [])))
section
variable {P : Program} {w : World} {H : Hp} {h : Heap}
theorem carriesT (ok : HOk P w H h) : ∀ {kbs : List KB} {vs : List (Value × Value)}, VV (kbs.map fun q => (V.ref q.2.1, q.2.2)) vs → (∀ q ∈ kbs, H q.2.1 = some (.tup (q.1.map kV))) →
    ∃ xs : List (List Key × Addr × Value), CarriesH (tupleKind (mixKind P w)) h vs xs ∧ Paired (fun (q : KB) x => q.1 = x.1 ∧ q.2.1 = x.2.1 ∧ RelV q.2.2 x.2.2) kbs xs
  | [], _, r, _ => by rw [List.map_nil] at r; cases r; exact ⟨[], True.intro, .nil⟩
  | q :: kbs, _, r, hk => by
    rw [List.map_cons] at r
    cases r with
    | @cons a b as bs hb t =>
      obtain ⟨xs, c, pr⟩ := carriesT ok t fun z hz => hk z (List.mem_cons_of_mem _ hz)
      obtain ⟨b1, b2⟩ := b
      have e1 : b1 = Value.ref q.2.1 := hb.1
      exact ⟨(q.1, q.2.1, b2) :: xs, ⟨e1, rfl, key_of ok (hk q List.mem_cons_self), c⟩, .cons ⟨rfl, rfl, hb.2⟩ pr⟩
theorem kt_all : ∀ {kbs : List KB} {xs : List (List Key × Addr × Value)} {kvs : List (List Key × V)} {ys : List (List Key × Addr × Value)}, Paired (fun (q : KB) x => q.1 = x.1 ∧ q.2.1 = x.2.1 ∧ RelV q.2.2 x.2.2) kbs xs → (∀ q ∈ kbs, H q.2.1 = some (.tup (q.1.map kV))) → KT H kvs ys →
    KT H (kbs.foldl (fun acc q => putK acc q.1 q.2.2) kvs) (storedAllH ys xs)
  | [], _, _, _, .nil, _, r => r
  | q :: kbs, x :: xs, kvs, ys, .cons c t, hk, r => by
    obtain ⟨e1, e2, e3⟩ := c
    have hb := hk q List.mem_cons_self
    have := kt_all (kvs := putK kvs q.1 q.2.2) (ys := storedH ys x.1 x.2.1 x.2.2) t (fun z hz => hk z (List.mem_cons_of_mem _ hz)) (by rw [← e1, ← e2]; exact r.put q.1 hb e3)
    exact this
theorem fold_len {κ : Type} [DecidableEq κ] {α : Type} {f : α → κ} {g : α → V} : ∀ (l : List α) (kvs : List (κ × V)), (l.foldl (fun acc q => putK acc (f q) (g q)) kvs).length ≤ kvs.length + l.length
  | [], _ => Nat.le_refl _
  | q :: l, kvs => by
    have h1 := fold_len (f := f) (g := g) l (putK kvs (f q) (g q))
    have h2 := length_putK kvs (f q) (g q)
    show (l.foldl _ (putK kvs (f q) (g q))).length ≤ _
    rw [List.length_cons]
    omega
end
theorem pe_dispT {X : Cx} {pos : Pos} {keys : List (Option Expr)} {values : List Expr} {trs : List (TE × TE)} (hu : X.A.units + 1 < cLine) (h : PPs X pos keys values trs) (hall : keys.all (·.isSome) = true) (hl : keys.length = values.length) (h0 : keys ≠ [])
    (h15 : keys.length ≤ 15) : PE X (.Dict keys values pos) (tDispT trs) := by
  refine ⟨fun pins s σ H Q I ask => ?_⟩
  have q := ask
  have hn : H _ = none := I.hok.fresh (Nat.le_refl s.heap.objs.size)
  have I1 := I.laid (a := s.heap.objs.size) (o := .dT []) (h' := s.heap.push { cls := .type "dict", data := .dict #[] }) (t' := s.toks) (fun _ _ q => Heap.get?_push_of_some _ q) (Nat.le_refl _) (dt_empty s.heap I.big)
  have hpl := pairTrees_length keys values X.env pos hall hl
  have hne : pairTrees keys values X.env pos ≠ [] := fun he => by
    rw [he] at hpl
    exact h0 (List.length_eq_zero_iff.mp hpl.symm)
  rw [arm_eval_Dict, zip_pairTrees keys values X.env pos hall hl, dictDisplay_pairs _ hne (by omega)]
  refine wpAny_bind (wpAny_standAt (wpAny_bind (wpAny_subDictH (knd := tupleKind (mixKind X.prog X.w)) (Q := fun d s' => wpAny (model X.prog X.w) X.A (pure (Value.ref d)) (EP X pins σ Q) X.xe s') (show X.A.units < cLine by omega) (by omega)
    (thn (h.run pins _ σ _ _ I1 (q _ hn)) fun ws s2 ⟨ps, H2, I2, rel, e, kbs, ep, hk, lk, q2⟩ => ?_))))
  subst ep
  obtain ⟨xs, c, pr⟩ := carriesT (P := X.prog) (w := X.w) I2.hok rel hk
  obtain ⟨z, hd, ys, r0, dd⟩ := dt_of I2.hok e
  cases r0
  refine ⟨xs, c, dd, fun h' tk dd' hs => wpAny_pure ⟨.ref s.heap.objs.size, _, ?_, rfl, q2⟩⟩
  obtain ⟨qo, es, epo, hq, h2, h3, h4, _, h5⟩ := dd'
  have hz : (kbs.foldl (fun acc q => putK acc q.1 q.2.2) ([] : List (List Key × V))).length ≤ sizeLine := by
    have h1 := fold_len (f := fun q : KB => q.1) (g := fun q : KB => q.2.2) kbs []
    rw [List.length_nil] at h1
    rw [sizeLine_eq]; omega
  refine d_write I2 (by rw [e]; exact True.intro) hs ⟨qo, hq⟩ ⟨hz, hd, _, (kt_all pr hk .nil).keeps fun cc ys ec => ?_, qo, es, epo, hq, h2, h3, h4, h5⟩
  exact (upd_ne (ne_of ec e (by intro z; cases z))).trans ec
/-! ### the pairs of a display -/
def pairsV : List V → List (V × V)
  | a :: b :: r => (a, b) :: pairsV r
  | _ => []
section
variable {X : Cx} {K : PySem.W.Frag} {T : Tab} {ca : CallT} {ρ ρ' : Rho} {H H' : Hp} {h : Hpi} {W₀ : WX} {σ : L2.St} {r : R} {Q : VK}
def SPs (T : Tab) (ca : CallT) (X : Cx) (pos : Pos) (keys : List (Option Expr)) (values : List Expr) (d : D) : Prop := ∀ W₀, Takes X W₀ → ∃ trs, PPs X pos keys values trs ∧
  ∀ (ρ : Rho) (e : List W) (h : Hpi) (σ : L2.St) (H : Hp) (Q : List (V × V) → Hp → Prop), REnv X.K T ρ H e σ → RelH X.K T ρ H h → FinA X.K T W₀ σ ρ H (d ca e h) (fun vs H' => Q (pairsV vs) H') → tPairs trs σ H Q
def mPc (k v r : D) : D := fun ca e h => bnd (k ca e h) fun wk h1 => bnd (v ca e h1) fun wv h2 => bndA (r ca e h2) fun ws h3 => .ok (.tup (wk :: wv :: ws)) e h3
theorem SPs.nil {pos : Pos} : SPs T ca X pos [] [] mNil := fun W₀ _ => ⟨[], pps_nil, fun ρ e h σ H Q re rh f => f ρ H [] (Stp.refl _ _) rh .nil⟩
theorem SPs.cons {pos : Pos} {k v : Expr} {ks : List (Option Expr)} {vs : List Expr} {dk dv dr : D} (hk : SE T ca X k dk) (hv : SE T ca X v dv) (hr : SPs T ca X pos ks vs dr) : SPs T ca X pos (some k :: ks) (v :: vs) (mPc dk dv dr) := fun W₀ t => by
  obtain ⟨trs, pp, go⟩ := hr W₀ t
  refine ⟨_, pps_cons (hk W₀ t) (hv W₀ t) pp, fun ρ e h σ H Q re rh f => ⟨ρ, e, h, re, rh, (finA_bnd f).imp fun x H1 ⟨ρ1, w1, h1, s1, rh1, r1, f1⟩ => ⟨ρ1, e, h1, re.step s1, rh1, (finA_bnd f1).imp fun y H2 ⟨ρ2, w2, h2, s2, rh2, r2, f2⟩ =>
    go ρ2 e h2 σ H2 _ ((re.step s1).step s2) rh2 ((finA_bndA f2).imp fun us H3 ⟨ρ3, ws, h3, s3, rh3, r3, f3⟩ => f3 ρ3 H3 (x :: y :: us) (Stp.refl _ _) rh3 (.cons ((r1.step s2).step s3) (.cons (r2.step s3) r3)))⟩⟩⟩
/-! ### a new dict, of either kind -/
def mkD (m : Bool) (ks ws : List W) (e : List W) (h : Hpi) : R := match m with
  | false => .ok (.dct ks ws) e h
  | true => .ok (.loc h.next) e (h.new (.dct ks ws))
/-- a dict that is never changed is locked for good -/
def lockQ (m : Bool) (Q : VK) : VK := match m with
  | true => Q
  | false => fun v H' => ∃ d u, v = .ref d ∧ H' d = some u ∧ Mut (some u) ∧ ∀ od, Q v (upd H' d (.frz od u))
theorem pe_m (m : Bool) {e : Expr} {t : TE} (h : PE X e t) : PE X e (fun σ H Q => t σ H (lockQ m Q)) := by
  cases m with
  | true => exact h
  | false =>
    refine ⟨fun pins s σ H Q I q => thn (h.run pins s σ H _ I q) fun v s1 ⟨x, H1, I1, rx, d, u, ex, hd, mu, go⟩ => ?_⟩
    obtain ⟨od, I2⟩ := I1.lock hd mu
    exact ⟨x, _, I2, rx, go od⟩
theorem DctO.stepX {P : Addr → Prop} (s : StpX P ρ H ρ' H') (hP : ∀ a, P a → ρ.mu a) {o : HO} {ks ws : List W} (h : DctO K T ρ H o ks ws) : DctO K T ρ' H' o ks ws := by
  rcases h with ⟨kvs, us, e, k, u, r⟩ | ⟨kvs, us, e, k, u, r⟩
  · exact .inl ⟨kvs, us, e, k, u, RWs.stepX s hP r⟩
  · exact .inr ⟨kvs, us, e, k, u, RWs.stepX s hP r⟩
theorem DctO.mut {o : HO} {ks ws : List W} (h : DctO K T ρ H o ks ws) : Mut (some o) ∧ nT o = true := by
  rcases h with ⟨kvs, us, rfl, _⟩ | ⟨kvs, us, rfl, _⟩
  · exact ⟨True.intro, rfl⟩
  · exact ⟨True.intro, rfl⟩
theorem fin_mkD {m : Bool} {ks ws e : List W} {h2 : Hpi} {ρ0 ρ1 : Rho} {H0 H1 : Hp} {A : Addr} {o o0 o1 : HO} (f : FinE K T W₀ σ ρ0 H0 (mkD m ks ws e h2) Q) (sD : Stp ρ0 H0 (ρ0.hd A) (upd H0 A o0)) (x1 : StpX (fun a => a = A) (ρ0.hd A) (upd H0 A o0) ρ1 H1) (rh : RelH K T ρ1 H1 h2)
    (np : ∀ n, n < ρ1.next → ρ1.pl n ≠ A) (nA : H0 A = Option.none) (mu : ρ1.mu A) (on0 : ∀ a, ρ0.mu a → ∃ o, H0 a = some o ∧ nT o = true) (hA : H1 A = some o1) (d : DctO K T ρ1 H1 o ks ws) : lockQ m Q (.ref A) (upd H1 A o) := by
  have hP : ∀ a, (fun a => a = A) a → ρ1.mu a := fun a z => by rw [show a = A from z]; exact mu
  obtain ⟨dm, dn⟩ := d.mut
  have n1 := rh.nt mu hA
  cases m with
  | false =>
    refine ⟨A, o, rfl, upd_same, dm, fun od => ?_⟩
    rw [upd_upd]
    have xu := stpX_upd (o := .frz od o) mu hA
    have s := stp_over sD (x1.trans xu) nA
    have rh2 := relH_upd (o := .frz od o) rfl rh mu np
    obtain ⟨s5, rh5⟩ := made s rh2 np nA on0
    have sub : ∀ {ws : List W} {vs : List V}, RWs K T ρ1 H1 ws vs → RWs K T (ρ1.un A np) (upd H1 A (.frz od o)) ws vs := fun r => RWs.sub (ρ := ρ1) (ρ' := ρ1.un A np) (Nat.le_refl _) (fun _ _ => rfl) (fun a (m : ρ1.mu a ∧ a ≠ A) => m.1) (RWs.stepX xu hP r)
    rcases d with ⟨kvs, us, rfl, hk, hu, r⟩ | ⟨kvs, us, rfl, hk, hu, r⟩
    · exact f _ _ _ s5 rh5 (.dctK ⟨od, upd_same⟩ (fun z => z.2 rfl) hk hu (sub r))
    · exact f _ _ _ s5 rh5 (.dctT ⟨od, upd_same⟩ (fun z => z.2 rfl) hk hu (sub r))
  | true =>
    have xu := stpX_upd (o := o) mu hA
    have s := stp_over sD (x1.trans xu) nA
    have rh2 := relH_upd (o := o) dn rh mu np
    have d2 := DctO.stepX xu hP d
    have rh5 := relH_add rh2 mu np (ob := .dct ks ws) ⟨o, by rw [add_new]; exact upd_same, by
      rcases d2 with ⟨kvs, us, e, hk, hu, r⟩ | ⟨kvs, us, e, hk, hu, r⟩
      · exact .inl ⟨kvs, us, e, hk, hu, r.add mu⟩
      · exact .inr ⟨kvs, us, e, hk, hu, r.add mu⟩⟩
    have q := f _ _ (.ref ((ρ1.add A mu).pl h2.next)) (stp_add s mu nA) rh5 (.loc _ (by show h2.next < ρ1.next + 1; rw [rh.nx]; exact Nat.lt_succ_self _))
    rw [rh.nx, add_new] at q
    exact q
def keyT (t : Bool) (k : W) : Bool := match t with
  | true => isSm (tOf k)
  | false => isSm (kOf k)
def bldD (t : Bool) : List W → List W → List W → (List W → List W → R) → R
  | [], ks, ws, q => q ks ws
  | k :: l, ks, ws, q => match l with
    | v :: r => (match keyT t k with
      | true => putD ks ws k v fun ks' ws' => bldD t r ks' ws' q
      | false => .bad)
    | [] => .bad
theorem bld_gen {κ : Type} [DecidableEq κ] {f : W → Option κ} (hf : ∀ {a b : W} {x y : κ}, f a = some x → f b = some y → keq a b = decide (x = y)) {t : Bool} (ht : ∀ k, keyT t k = true → ∃ x, f k = some x) {q : List W → List W → R} {ρ0 : Rho} {H0 : Hp} :
    ∀ {l : List W} {vs : List V} {ks ws : List W} {kvs : List (κ × V)}, RWs K T ρ H l vs → ks.map f = kvs.map (fun p => some p.1) → RWs K T ρ H ws (kvs.map fun p => p.2) → FinE K T W₀ σ ρ0 H0 (bldD t l ks ws q) Q →
    ∃ (trip : List (W × κ × V × V)) (ks' ws' : List W), pairsV vs = trip.map (fun z => (z.2.2.1, z.2.2.2)) ∧ (∀ z ∈ trip, f z.1 = some z.2.1 ∧ RW K T ρ H z.1 z.2.2.1) ∧ trip.length * 2 = l.length ∧ FinE K T W₀ σ ρ0 H0 (q ks' ws') Q ∧
      ks'.map f = (trip.foldl (fun acc z => putK acc z.2.1 z.2.2.2) kvs).map (fun p => some p.1) ∧ RWs K T ρ H ws' ((trip.foldl (fun acc z => putK acc z.2.1 z.2.2.2) kvs).map fun p => p.2)
  | [], _, ks, ws, kvs, .nil, e, r, g => ⟨[], ks, ws, rfl, fun z hz => (by cases hz), rfl, g, e, r⟩
  | [k], _, _, _, _, .cons _ .nil, _, _, g => g.elim
  | k :: v :: l, _, ks, ws, kvs, .cons (v := x) rk (.cons (v := y) rv rl), e, r, g => by
    have g1 : FinE K T W₀ σ ρ0 H0 (match keyT t k with
      | true => putD ks ws k v fun ks' ws' => bldD t l ks' ws' q
      | false => .bad) Q := g
    cases c : keyT t k with
    | false => rw [c] at g1; exact g1.elim
    | true =>
      rw [c] at g1
      obtain ⟨kk, ek⟩ := ht k c
      have bl : Nat.blt (lenN ks) lim = true := by
        cases z : Nat.blt (lenN ks) lim with
        | true => rfl
        | false => unfold putD at g1; rw [z] at g1; exact g1.elim
      obtain ⟨ks', ws', z1, z2, z3⟩ := put_gen hf ek rv (q := fun ks' ws' => bldD t l ks' ws' q) e r bl
      simp only at g1
      rw [z1] at g1
      obtain ⟨trip, ks2, ws2, a1, a2, a3, a4, a5, a6⟩ := bld_gen hf ht rl z2 z3 g1
      refine ⟨(k, kk, x, y) :: trip, ks2, ws2, ?_, fun z hz => ?_, ?_, a4, a5, a6⟩
      · show (x, y) :: pairsV _ = _
        rw [a1]; rfl
      · rcases List.mem_cons.mp hz with q | q
        · rw [q]; exact ⟨ek, rk⟩
        · exact a2 z q
      · rw [List.length_cons, List.length_cons, List.length_cons, ← a3]; omega
/-- an argument list, its end told of an earlier world -/
theorem fin_bndA0 {ρ0 : Rho} {H0 : Hp} {k : List W → Hpi → R} (s0 : Stp ρ0 H0 ρ H) (f : FinE K T W₀ σ ρ0 H0 (bndA r k) Q) : FinA K T W₀ σ ρ H r fun vs H1 => ∃ ρ1 ws h1, Stp ρ H ρ1 H1 ∧ RelH K T ρ1 H1 h1 ∧ RWs K T ρ1 H1 ws vs ∧ FinE K T W₀ σ ρ0 H0 (k ws h1) Q := by
  induction r with
  | ok w e hp =>
    cases w with
    | tup ws => exact fun ρ' H' v a b c => ⟨ρ', ws, hp, a, b, c, f⟩
    | _ => exact f.elim
  | exc c fs e' hp => exact fun ρ' H' cls d a b x => f ρ' H' cls d (s0.trans a) b x
  | or x y ix iy => exact ⟨ix f.1, iy f.2⟩
  | _ => exact f.elim
def mDsp (m t : Bool) (a : D) : D := fun ca e h => bndA (a ca e h) fun ws h1 => match Nat.ble (lenN ws) 30 with
  | true => bldD t ws [] [] fun ks vs => mkD m ks vs e h1
  | false => .bad
theorem SE.dispK {pos : Pos} {keys : List (Option Expr)} {values : List Expr} {m : Bool} {d : D} (hp : SPs T ca X pos keys values d) (hall : keys.all (·.isSome) = true) (hl : keys.length = values.length) (h0 : keys ≠ []) (h15 : keys.length ≤ 15) : SE T ca X (.Dict keys values pos) (mDsp m false d) := fun W₀ t => by
  obtain ⟨trs, pp, go⟩ := hp W₀ t
  refine (pe_m m (pe_disp pp hall hl h0 h15)).weak fun σ H Q ⟨ρ, e, h, re, rh, f⟩ D nD => ?_
  have sD := stp_hd (D := D) ρ (.dK []) nD
  refine go (ρ.hd D) e h σ _ _ (re.step sD) (relH_hd rh _ rfl nD) ((fin_bndA0 sD f).imp fun vs H1 ⟨ρ1, ws, h1, s1, rh1, r1, f1⟩ => ?_)
  have x1 : StpX (fun a => a = D) (ρ.hd D) (upd H D (.dK [])) ρ1 H1 := s1.imp fun _ _ _ h => h.elim
  have np := not_place sD x1 rh nD upd_same
  have hD : H1 D = some (.dK []) := s1.hld _ _ upd_same (fun h => h) fun n hn z => np n (Nat.lt_of_lt_of_le hn s1.le) ((s1.pl n hn).trans z)
  have mu1 : ρ1.mu D := s1.up D (.inr rfl)
  rw [lenN_eq] at f1
  cases zl : Nat.ble ws.length 30 with
  | false => rw [zl] at f1; exact f1.elim
  | true =>
    rw [zl] at f1
    obtain ⟨trip, ks', ws', a1, a2, a3, a4, a5, a6⟩ := bld_gen (kvs := ([] : List (Key × V))) keq_k (t := false) (fun k hk => isSm_some hk) r1 rfl .nil f1
    have h30 := Nat.le_of_ble_eq_true zl
    refine ⟨hD, trip.map (fun z => (z.2.1, z.2.2.2)), ?_, by rw [List.length_map]; omega, ?_⟩
    · rw [a1, List.map_map]
      refine List.map_congr_left fun z hz => ?_
      obtain ⟨e1, e2⟩ := a2 z hz
      show (z.2.2.1, z.2.2.2) = (kV z.2.1, z.2.2.2)
      rw [kOf_r e1 e2.rr]
    · have em : mergeK [] (trip.map fun z => (z.2.1, z.2.2.2)) = trip.foldl (fun acc z => putK acc z.2.1 z.2.2.2) [] := by
        unfold mergeK
        rw [List.foldl_map]
      rw [em]
      exact fin_mkD a4 sD x1 rh1 np nD mu1 rh.on hD (.inl ⟨_, _, rfl, a5, rfl, a6⟩)
end
end
end VA
set_option Elab.async false
set_option linter.all false
set_option maxRecDepth 100000
set_option maxHeartbeats 8000000
/-! V22: displays with tuple keys. -/
namespace VA
noncomputable section
open PySem PySem.Spec PyProof.Rows L2 Srt
section
variable {X : Cx} {K : PySem.W.Frag} {T : Tab} {ca : CallT} {ρ ρ' : Rho} {H H' : Hp} {h : Hpi} {W₀ : WX} {σ : L2.St} {r : R} {Q : VK}
theorem fold_ne {κ : Type} [DecidableEq κ] {α : Type} {f : α → κ} {g : α → V} : ∀ {l : List α} {kvs : List (κ × V)}, (l ≠ [] ∨ kvs ≠ []) → l.foldl (fun acc q => putK acc (f q) (g q)) kvs ≠ []
  | [], kvs, h => h.resolve_left fun z => z rfl
  | q :: l, kvs, _ => fold_ne (f := f) (g := g) (l := l) (.inr fun e => by
      have h1 := valV_put kvs (f q) (f q) (g q)
      have e' : putK kvs (f q) (g q) = [] := e
      rw [e', if_pos rfl] at h1
      cases h1)
theorem kb_list {keq : Bool} : ∀ {trip : List (W × List Key × V × V)}, (∀ z ∈ trip, tOf z.1 = some z.2.1 ∧ RW K T ρ H z.1 z.2.2.1) → ∃ kbs : List KB, trip.map (fun z => (z.2.2.1, z.2.2.2)) = kbs.map (fun q => (V.ref q.2.1, q.2.2)) ∧ (∀ q ∈ kbs, H q.2.1 = some (.tup (q.1.map kV))) ∧ kbs.length = trip.length ∧
      ∀ acc : List (List Key × V), kbs.foldl (fun acc q => putK acc q.1 q.2.2) acc = trip.foldl (fun acc z => putK acc z.2.1 z.2.2.2) acc
  | [], _ => ⟨[], rfl, fun q hq => (by cases hq), rfl, fun _ => rfl⟩
  | z :: trip, h => by
    obtain ⟨kbs, a1, a2, a3, a4⟩ := kb_list (keq := keq) (trip := trip) fun y hy => h y (List.mem_cons_of_mem _ hy)
    obtain ⟨e1, e2⟩ := h z List.mem_cons_self
    obtain ⟨b, eb, hb⟩ := tOf_r e1 e2.rr
    refine ⟨(z.2.1, b, z.2.2.2) :: kbs, ?_, fun q hq => ?_, by rw [List.length_cons, List.length_cons, a3], fun acc => a4 _⟩
    · rw [List.map_cons, List.map_cons, a1, eb]
    · rcases List.mem_cons.mp hq with q' | q'
      · rw [q']; exact hb
      · exact a2 q q'
/-- (an empty dict of tuples is never told) -/
def mDspT (m : Bool) (a : D) : D := fun ca e h => bndA (a ca e h) fun ws h1 => match ws with
  | [] => .bad
  | _ :: _ => (match Nat.ble (lenN ws) 30 with
    | true => bldD true ws [] [] fun ks vs => mkD m ks vs e h1
    | false => .bad)
theorem SE.dispT {pos : Pos} {keys : List (Option Expr)} {values : List Expr} {m : Bool} {d : D} (hu : X.A.units + 1 < cLine) (hp : SPs T ca X pos keys values d) (hall : keys.all (·.isSome) = true) (hl : keys.length = values.length) (h0 : keys ≠ []) (h15 : keys.length ≤ 15) : SE T ca X (.Dict keys values pos) (mDspT m d) := fun W₀ t => by
  obtain ⟨trs, pp, go⟩ := hp W₀ t
  refine (pe_m m (pe_dispT hu pp hall hl h0 h15)).weak fun σ H Q ⟨ρ, e, h, re, rh, f⟩ D nD => ?_
  have sD := stp_hd (D := D) ρ (.dT []) nD
  refine go (ρ.hd D) e h σ _ _ (re.step sD) (relH_hd rh _ rfl nD) ((fin_bndA0 sD f).imp fun vs H1 ⟨ρ1, ws, h1, s1, rh1, r1, f1⟩ => ?_)
  have x1 : StpX (fun a => a = D) (ρ.hd D) (upd H D (.dT [])) ρ1 H1 := s1.imp fun _ _ _ h => h.elim
  have np := not_place sD x1 rh nD upd_same
  have hD : H1 D = some (.dT []) := s1.hld _ _ upd_same (fun h => h) fun n hn z => np n (Nat.lt_of_lt_of_le hn s1.le) ((s1.pl n hn).trans z)
  have mu1 : ρ1.mu D := s1.up D (.inr rfl)
  cases ws with
  | nil => exact f1.elim
  | cons w0 ws =>
    have f2 : FinE X.K T W₀ σ ρ H (match Nat.ble (lenN (w0 :: ws)) 30 with
      | true => bldD true (w0 :: ws) [] [] fun ks vs => mkD m ks vs e h1
      | false => .bad) Q := f1
    rw [lenN_eq] at f2
    cases zl : Nat.ble (w0 :: ws).length 30 with
    | false => rw [zl] at f2; exact f2.elim
    | true =>
      rw [zl] at f2
      obtain ⟨trip, ks', ws', a1, a2, a3, a4, a5, a6⟩ := bld_gen (kvs := ([] : List (List Key × V))) keq_t (t := true) (fun k hk => isSm_some hk) r1 rfl .nil f2
      have h30 := Nat.le_of_ble_eq_true zl
      obtain ⟨kbs, b1, b2, b3, b4⟩ := kb_list (keq := true) a2
      refine ⟨hD, kbs, by rw [a1, b1], b2, by omega, ?_⟩
      rw [b4]
      have ne : trip.foldl (fun acc z => putK acc z.2.1 z.2.2.2) ([] : List (List Key × V)) ≠ [] := fold_ne (f := fun z : W × List Key × V × V => z.2.1) (g := fun z => z.2.2.2) (.inl fun e => by
        rw [e] at a3
        simp at a3)
      exact fin_mkD a4 sD x1 rh1 np nD mu1 rh.on hD (.inr ⟨_, _, rfl, ⟨a5, ne⟩, rfl, a6⟩)
/-! ### the keys of a dict that is never changed -/
theorem beh_dK {A : Addr} {o : Obj} {kvs : List (Key × V)} {ks : List W} (hA : H A = some (.frz o (.dK kvs))) (m : ¬ ρ.mu A) (hk : ks.map kOf = kvs.map fun p => some p.1) : Beh K T ρ H (Itk A o kvs) ks := by
  have hl := keys_len hk
  have st : ∀ ρ' H', StpM ρ H ρ' H' → H' A = some (.frz o (.dK kvs)) := fun ρ' H' s => s.keep hA m
  refine ⟨fun i ρ' H' hi s => ⟨st ρ' H' s, by omega⟩, fun ρ' H' s => ⟨st ρ' H' s, by omega⟩, fun i w ρ' H' h x H'' e s rh y => ?_⟩
  obtain ⟨rfl, k, v, e1, rfl⟩ := y
  refine ⟨Stp.refl _ _, rh, ?_⟩
  have e2 : (ks.map kOf)[i]? = some (kOf w) := by rw [List.getElem?_map, e]; rfl
  rw [hk, List.getElem?_map, e1] at e2
  exact kOf_v (Option.some.inj e2).symm
theorem beh_dT {A : Addr} {o : Obj} {kvs : List (List Key × V)} {ks : List W} (hA : H A = some (.frz o (.dT kvs))) (m : ¬ ρ.mu A) (hk : ks.map tOf = kvs.map fun p => some p.1) : Beh K T ρ H (Itkt A o kvs) ks := by
  have hl := keys_len hk
  have st : ∀ ρ' H', StpM ρ H ρ' H' → H' A = some (.frz o (.dT kvs)) := fun ρ' H' s => s.keep hA m
  refine ⟨fun i ρ' H' hi s => ⟨st ρ' H' s, by omega⟩, fun ρ' H' s => ⟨st ρ' H' s, by omega⟩, fun i w ρ' H' h x H'' e s rh y => ?_⟩
  obtain ⟨rfl, k, v, q, e1, rfl, hq⟩ := y
  refine ⟨Stp.refl _ _, rh, ?_⟩
  have e2 : (ks.map tOf)[i]? = some (tOf w) := by rw [List.getElem?_map, e]; rfl
  rw [hk, List.getElem?_map, e1] at e2
  exact tOf_v rh (Option.some.inj e2).symm hq
def mIDct (a : D) : D := fun ca e h => bnd (a ca e h) fun w h1 => match w with
  | .dct ks _ => .ok (.lst ks) e h1
  | _ => .bad
theorem finI_bnd {k : W → Hpi → R} {Q : It → Hp → Prop} (f : FinI K T W₀ σ ρ H (bnd r k) Q) : FinE K T W₀ σ ρ H r fun v H1 => ∃ ρ1 w h1, Stp ρ H ρ1 H1 ∧ RelH K T ρ1 H1 h1 ∧ RW K T ρ1 H1 w v ∧ FinI K T W₀ σ ρ1 H1 (k w h1) Q := by
  induction r with
  | ok w e hp => exact fun ρ' H' v a b c => ⟨ρ', w, hp, a, b, c, FinI.step a f⟩
  | exc c fs e' hp => exact f
  | or x y ix iy => exact ⟨ix f.1, iy f.2⟩
  | _ => exact f.elim
theorem SI.dct {tg e : Expr} {d : D} (he : SE T ca X e d) : SI T ca X tg e (mIDct d) := fun W₀ t =>
  (pi_keys (he W₀ t)).weak fun σ H R ⟨ρ, e, h, re, rh, f⟩ => ⟨ρ, e, h, re, rh, (finI_bnd f).imp fun v H1 ⟨ρ1, w, h1, s1, rh1, r1, f1⟩ => by
    cases w with
    | dct ks ws =>
      cases r1 with
      | dctK hA m hk hu r =>
        obtain ⟨o, ho⟩ := hA
        exact ⟨_, o, rfl, .inl ⟨_, ho, f1 ρ1 H1 _ (Stp.refl _ _) rh1 (beh_dK ho m hk)⟩⟩
      | dctT hA m hk hu r =>
        obtain ⟨o, ho⟩ := hA
        exact ⟨_, o, rfl, .inr ⟨_, ho, f1 ρ1 H1 _ (Stp.refl _ _) rh1 (beh_dT ho m hk.1)⟩⟩
    | _ => exact f1.elim⟩
end
end
end VA
set_option Elab.async false
set_option linter.all false
set_option maxRecDepth 100000
set_option maxHeartbeats 8000000
/-! V23: list comprehensions of two clauses. -/
namespace VA
noncomputable section
open PySem PySem.Spec PyProof.Rows L2 Srt
def lcL2 (g : Tg) (ts it1 : D) (vs1 : List Nat) (g1 : Tg) (ts1 el : D) (ca : CallT) : List W → List W → Hpi → List W → (List W → Hpi → R) → R
  | [], _, h, acc, k => k acc h
  | w :: ws, e, h, acc, k => bindG g w e fun e1 => bndTC (ts ca e1 h) fun b h1 => match b with
    | false => lcL2 g ts it1 vs1 g1 ts1 el ca ws e h1 acc k
    | true => bndIC (it1 ca e1 h1) fun ws1 h2 => lenOk ws1 (wipeK vs1 e1 fun e2 => lcL g1 ts1 el ca ws1 e2 h2 acc fun acc' h3 => lenOk acc' (lcL2 g ts it1 vs1 g1 ts1 el ca ws e h3 acc' k))
def mLc2 (m : Bool) (own vs1 : List Nat) (g : Tg) (it ts : D) (g1 : Tg) (it1 ts1 el : D) : D := fun ca e h => bndI (it ca e h) fun ws h1 => lenOk ws (wipeK own e fun e0 => lcL2 g ts it1 vs1 g1 ts1 el ca ws e0 h1 [] fun acc h2 => revK acc [] fun rs => mkL m rs e h2)
section
variable {X : Cx} {T : Tab} {ca : CallT}
theorem t_lc2 {m : Bool} {own vs1 : List Nat} {g g1 : Tg} {di dt di1 dt1 de : D} {W₀ : WX} {σ : L2.St} {H : Hp} {Q : VK} (hg : ∀ i ∈ tgs g, i ∈ own) (hg1 : ∀ i ∈ tgs g1, i ∈ vs1) (h : tE X.K T ca W₀ (mLc2 m own vs1 g di dt g1 di1 dt1 de) σ H Q) :
    tLc2 (tI X.K T ca W₀ di) (tG X.K g) (tT X.K T ca noW dt) (tI X.K T ca noW di1) (tG X.K g1) (tT X.K T ca noW dt1) (tE X.K T ca noW de) own vs1 σ H Q := by
  obtain ⟨ρ, e, h, re, rh, f⟩ := h
  refine ⟨ρ, e, h, re, rh, (fin_bndI f).imp ?_⟩
  rintro J H1 ⟨ρ1, ws, h1, s1, rh1, bh, f1⟩ D nD
  obtain ⟨hlen, f2⟩ := lenOk_ok f1
  rw [wipeK_eq] at f2
  have re1 := re.step s1
  have sD := stp_hd (D := D) ρ1 (.lst []) nD
  -- the outer state
  let out : Nat → Hp → Prop := fun i H => ∃ ρ h accW accV, StpX (fun a => a = D) (ρ1.hd D) (upd H1 D (.lst [])) ρ H ∧ RelH X.K T ρ H h ∧ H D = some (.lst accV) ∧ accV.length ≤ lim ∧ RWs X.K T ρ H accW.reverse accV ∧
    FinE X.K T W₀ σ ρ1 H1 (lcL2 g dt di1 vs1 g1 dt1 de ca (ws.drop i) (wipeW e own) h accW fun acc h2 => revK acc [] fun rs => mkL m rs e h2) Q
  refine ⟨fun i m' H => m' = ws.length - i ∧ i ≤ ws.length ∧ out i H, ⟨ws.length, by simp, Nat.zero_le _, ρ1.hd D, h1, [], [], StpX.refl _ _ _, relH_hd rh1 _ rfl nD, upd_same, Nat.zero_le _, .nil, f2⟩, ?_⟩
  rintro i m' H ⟨rfl, hi, ρ2, h2, accW, accV, x2, rh2, hD, hal, ra, f3⟩
  have np := not_place sD x2 rh1 nD upd_same
  have s12 : Stp ρ1 H1 ρ2 H := stp_over sD x2 nD
  have mu2 : ρ2.mu D := x2.up D (.inr rfl)
  by_cases hlt : i < ws.length
  · have ed : ws.drop i = ws[i] :: ws.drop (i + 1) := List.drop_eq_getElem_cons hlt
    rw [ed] at f3
    refine .inr ⟨bh.go i ρ2 H hlt s12.m0, fun H' => out (i + 1) H', fun H' z => ⟨ws.length - (i + 1), by omega, rfl, hlt, z⟩, fun x H' y => ?_⟩
    obtain ⟨s3, rh3, r3⟩ := bh.yld i ws[i] ρ2 H h2 x H' (by simp [hlt]) s12.m0 rh2 y
    have any : ∀ {ρ' : Rho} {H'' : Hp}, Stp ρ2 H ρ' H'' → StpX (fun a => a = D) (ρ1.hd D) (upd H1 D (.lst [])) ρ' H'' ∧ H'' D = some (.lst accV) ∧ RWs X.K T ρ' H'' accW.reverse accV := fun {ρ' H''} s =>
      ⟨x2.trans (s.imp fun _ _ _ h => h.elim), s.hld _ _ hD (fun h => h) np, ra.step s⟩
    refine fin_bindC (vs := own) hg r3 (re1.step (s12.trans s3) |>.wipe own) f3 fun e' σ2 hw re' f4 => ⟨hw.trans (wipe_wipe own), ρ2, e', h2, re', rh3, (fin_bndTC f4).imp ?_⟩
    rintro b H4 ⟨ρ4, h4, s4, rh4, f5⟩
    cases b with
    | false =>
      obtain ⟨a1, a2, a3⟩ := any (s3.trans s4)
      rw [if_neg (by decide)]
      exact ⟨ρ4, h4, accW, accV, a1, rh4, a2, hal, a3, f5⟩
    | true =>
      rw [if_pos rfl]
      have re4 := re'.step s4
      refine ⟨ρ4, e', h4, re4, rh4, (fin_bndIC f5).imp ?_⟩
      rintro J1 H5 ⟨ρ5, ws1, h5, s5, rh5, bh1, f6⟩
      obtain ⟨hlen1, f7⟩ := lenOk_ok f6
      rw [wipeK_eq] at f7
      have re5 := re4.step s5
      obtain ⟨b1, b2, b3⟩ := any ((s3.trans s4).trans s5)
      have npB := not_place sD b1 rh1 nD upd_same
      have muB : ρ5.mu D := b1.up D (.inr rfl)
      -- the inner state
      let inn : Nat → Hp → Prop := fun j H => ∃ ρ h accW accV', StpX (fun a => a = D) ρ5 H5 ρ H ∧ RelH X.K T ρ H h ∧ H D = some (.lst accV') ∧ accV'.length ≤ lim + j ∧ RWs X.K T ρ H accW.reverse accV' ∧
        FinE X.K T W₀ σ ρ1 H1 (lcL g1 dt1 de ca (ws1.drop j) (wipeW e' vs1) h accW fun acc' h3 => lenOk acc' (lcL2 g dt di1 vs1 g1 dt1 de ca (ws.drop (i + 1)) (wipeW e own) h3 acc' fun acc h2 => revK acc [] fun rs => mkL m rs e h2)) Q
      refine ⟨fun j k H => k = ws1.length - j ∧ j ≤ ws1.length ∧ inn j H, ⟨ws1.length, by simp, Nat.zero_le _, ρ5, h5, accW, accV, StpX.refl _ _ _, rh5, b2, hal, b3, f7⟩, ?_⟩
      rintro j k H6 ⟨rfl, hj, ρ6, h6, accW6, accV6, x6, rh6, hD6, hal6, ra6, f8⟩
      have xo : StpX (fun a => a = D) (ρ1.hd D) (upd H1 D (.lst [])) ρ6 H6 := b1.trans x6
      have np6 := not_place sD xo rh1 nD upd_same
      have mu6 : ρ6.mu D := xo.up D (.inr rfl)
      -- a walk over what lies in a heap that the list alone differs from
      by_cases hlt1 : j < ws1.length
      · have ed1 : ws1.drop j = ws1[j] :: ws1.drop (j + 1) := List.drop_eq_getElem_cons hlt1
        rw [ed1] at f8
        have s56 : StpM ρ5 H5 ρ6 H6 := x6.m fun a z => by rw [show a = D from z]; exact muB
        refine .inr ⟨bh1.go j ρ6 H6 hlt1 s56, fun H' => inn (j + 1) H', fun H' z => ⟨ws1.length - (j + 1), by omega, rfl, hlt1, z⟩, fun x1 H7 y1 => ?_⟩
        obtain ⟨s7, rh7, r7⟩ := bh1.yld j ws1[j] ρ6 H6 h6 x1 H7 (by simp [hlt1]) s56 rh6 y1
        have hP5 : ∀ a, (fun a => a = D) a → ρ5.mu a := fun a z => by rw [show a = D from z]; exact muB
        have re6 : REnv X.K T ρ6 H6 (wipeW e' vs1) (wipe σ2 vs1) := by
          have q := re5.wipe vs1
          exact ⟨q.len, fun i w e1 n1 => by
            obtain ⟨v, e2, r⟩ := q.at_ i w e1 n1
            exact ⟨v, e2, RW.stepX x6 hP5 r⟩⟩
        have any6 : ∀ {ρ' : Rho} {H'' : Hp}, Stp ρ6 H6 ρ' H'' → StpX (fun a => a = D) ρ5 H5 ρ' H'' ∧ H'' D = some (.lst accV6) ∧ RWs X.K T ρ' H'' accW6.reverse accV6 := fun {ρ' H''} s =>
          ⟨x6.trans (s.imp fun _ _ _ h => h.elim), s.hld _ _ hD6 (fun h => h) np6, ra6.step s⟩
        refine fin_bindC (vs := vs1) hg1 r7 (re6.step s7) f8 fun e7 σ7 hw7 re7 f9 => ⟨hw7.trans (wipe_wipe vs1), ρ6, e7, h6, re7, rh7, (fin_bndTC f9).imp ?_⟩
        rintro b H8 ⟨ρ8, h8, s8, rh8, f10⟩
        cases b with
        | false =>
          obtain ⟨a1, a2, a3⟩ := any6 (s7.trans s8)
          rw [if_neg (by decide)]
          exact ⟨ρ8, h8, accW6, accV6, a1, rh8, a2, by omega, a3, f10⟩
        | true =>
          rw [if_pos rfl]
          refine ⟨ρ8, e7, h8, re7.step s8, rh8, (fin_bndC f10).imp ?_⟩
          rintro v H9 ⟨ρ9, w9, h9, s9, rh9, r9, f11⟩
          obtain ⟨a1, a2, a3⟩ := any6 ((s7.trans s8).trans s9)
          have xo9 := b1.trans a1
          have np9 := not_place sD xo9 rh1 nD upd_same
          have mu9 : ρ9.mu D := xo9.up D (.inr rfl)
          have xu : StpX (fun a => a = D) ρ9 H9 ρ9 (upd H9 D (.lst (accV6 ++ [v]))) := stpX_upd mu9 a2
          have hP : ∀ a, (fun a => a = D) a → ρ9.mu a := fun a z => by rw [show a = D from z]; exact mu9
          refine ⟨accV6, a2, ?_, ρ9, h9, w9 :: accW6, accV6 ++ [v], a1.trans xu, relH_upd rfl rh9 mu9 np9, upd_same, by rw [List.length_append, List.length_singleton]; omega, ?_, f11⟩
          · rw [sizeLine_eq]
            have : lim = 100000 := rfl
            omega
          · rw [List.reverse_cons]
            exact (RWs.stepX xu hP a3).append (.one (RW.stepX xu hP r9))
      · have ej : j = ws1.length := by omega
        subst ej
        rw [List.drop_length] at f8
        obtain ⟨hl6, f9⟩ := lenOk_ok (show FinE X.K T W₀ σ ρ1 H1 (lenOk accW6 _) Q from f8)
        have l6 : accV6.length ≤ lim := by
          have := ra6.length
          rw [List.length_reverse] at this
          omega
        exact .inl ⟨bh1.stop ρ6 H6 (x6.m fun a z => by rw [show a = D from z]; exact muB), ρ6, h6, accW6, accV6, xo, rh6, hD6, l6, ra6, f9⟩
  · have ei : i = ws.length := by omega
    subst ei
    rw [List.drop_length] at f3
    refine .inl ⟨bh.stop ρ2 H s12.m0, ?_⟩
    have f4 : FinE X.K T W₀ σ ρ1 H1 (revK accW [] fun rs => mkL m rs e h2) Q := f3
    rw [revK_eq, List.append_nil] at f4
    cases m with
    | false =>
      obtain ⟨s5, rh5⟩ := made s12 rh2 np nD rh1.on
      exact f4 _ H _ s5 rh5 (.lst ⟨hD, fun z => z.2 rfl⟩ (RWs.sub (ρ := ρ2) (ρ' := ρ2.un D np) (Nat.le_refl _) (fun _ _ => rfl) (fun a (m : ρ2.mu a ∧ a ≠ D) => m.1) ra))
    | true =>
      have rh5 := relH_add rh2 mu2 np (ob := .lst accW.reverse) ⟨accV, by rw [add_new]; exact hD, ra.add mu2⟩
      have q := f4 _ H (.ref ((ρ2.add D mu2).pl h2.next)) (stp_add s12 mu2 nD) rh5 (.loc _ (by show h2.next < ρ2.next + 1; rw [rh2.nx]; exact Nat.lt_succ_self _))
      rw [rh2.nx, add_new] at q
      exact q
theorem SE.lc2 {m : Bool} {elt tg it tg1 it1 : Expr} {ifs ifs1 : List Expr} {scope : Scope} {own : List (Str × Nat)} {vs1 : List Nat} {pos : Pos} {g g1 : Tg} {di dt di1 dt1 de : D} (hc : X.calm = true) (hN : X.N.Nodup) (ok : BlkOk X.N X.env.scope scope own) (hgo : ∀ i ∈ tgs g, i ∈ own.map (·.2)) (hgo1 : ∀ i ∈ tgs g1, i ∈ vs1) (hv : ∀ i ∈ vs1, i ∈ own.map (·.2))
    (hi : SI T ca X tg it di) (hg : BlkC X scope fun B => SG B tg g) (ht : BlkC X scope fun B => STs T ca B ifs dt) (hi1 : BlkC X scope fun B => SI T ca B tg1 it1 di1) (hg1 : BlkC X scope fun B => SG B tg1 g1) (ht1 : BlkC X scope fun B => STs T ca B ifs1 dt1) (he : BlkC X scope fun B => SE T ca B elt de)
    (hs : ∀ x, foldedSetIterable it X.env x = pure x) (hs1 : ∀ env x, foldedSetIterable it1 env x = pure x) : SE T ca X (.ListComp elt [⟨tg, it, ifs, 0⟩, ⟨tg1, it1, ifs1, 0⟩] scope pos) (mLc2 m (own.map (·.2)) vs1 g di dt g1 di1 dt1 de) := fun W₀ t =>
  (pe_lc2 (g := tG X.K g) (tt := tT X.K T ca noW dt) (wi1 := tI X.K T ca noW di1) (g1 := tG X.K g1) (tt1 := tT X.K T ca noW dt1) (te := tE X.K T ca noW de) hc hN (hi W₀ t) ok hv (fun s H C cl fp => hg s H C cl fp) (fun s H C cl fp => ht s H C cl fp noW noTk) (fun s H C cl fp => hi1 s H C cl fp noW noTk) (fun s H C cl fp => hg1 s H C cl fp)
    (fun s H C cl fp => ht1 s H C cl fp noW noTk) (fun s H C cl fp => he s H C cl fp noW noTk) hs hs1).weak fun _ _ _ h => t_lc2 (X := X) hgo hgo1 h
end
end
end VA
set_option Elab.async false
set_option linter.all false
set_option maxRecDepth 100000
set_option maxHeartbeats 8000000
/-! V24: the reading of a dict comprehension of one clause, keys of either kind. -/
namespace VA
noncomputable section
open PySem PySem.Spec PyProof.Rows L2 Srt
abbrev rSetDD : TSet := fun o i v H Q => rSetD o i v H Q ∨ rSetD0 o i v H Q
/-- what is wanted of a dict comprehension: A is the new dict; Wh says what holds ahead of a turn, with what is left of a measure -/
def tDcW (wi : TI) (g : TG) (tt : TT) (tk tv : TE) (own : List Nat) : TE := fun σ H Q => wi σ H fun J H1 => ∀ A : Addr, H1 A = none →
  ∃ Wh : Nat → Nat → Hp → Prop, (∃ m, Wh 0 m (upd H1 A (.dK []))) ∧ ∀ (i m : Nat) (H2 : Hp), Wh i m H2 →
    (J.stop i H2 ∧ Q (.ref A) H2) ∨
    (J.go i H2 ∧ ∃ Nx : Hp → Prop, (∀ H3, Nx H3 → ∃ m', m' < m ∧ Wh (i + 1) m' H3) ∧
      ∀ (x : V) (H3 : Hp), J.yld i H2 x H3 → g x (wipe σ own) H3 fun σ' H4 => wipe σ' own = wipe σ own ∧
        tt σ' H4 fun b H5 => if b = true then tk σ' H5 fun y H6 => tv σ' H6 fun z H7 => rSetDD (.ref A) y z H7 Nx else Nx H5)
section
variable {X : Cx} {K : PySem.W.Frag} {T : Tab} {ca : CallT} {ρ : Rho} {H : Hp} {h : Hpi}
theorem upd_id {a : Addr} {o : HO} (e : H a = some o) : upd H a o = H := by
  funext b
  by_cases z : b = a
  · rw [z, upd_same, e]
  · exact upd_ne z
/-- a store into a dict that lies at A -/
theorem put_any {A : Addr} {o : HO} {ks ws : List W} {x v : W} {i u : V} (hA : H A = some o) (d : DctO K T ρ H o ks ws) (sp : sameP ks x = true) (bl : Nat.blt (lenN ks) lim = true) (rx : RR K T ρ H x i) (rv : RW K T ρ H v u) (q : List W → List W → R) :
    ∃ o' ks' ws', putD ks ws x v q = q ks' ws' ∧ DctO K T ρ H o' ks' ws' ∧ ∀ Nx : Hp → Prop, Nx (upd H A o') → rSetDD (.ref A) i u H Nx := by
  have hlen : ks.length < sizeLine := by
    rw [lenN_eq] at bl
    have := blt_lt bl
    have := lim_line
    omega
  have ofK : ∀ (kvs : List (Key × V)) (k : Key), o = .dK kvs → ks.map kOf = kvs.map (fun p => some p.1) → RWs K T ρ H ws (kvs.map fun p => p.2) → kOf x = some k → i = kV k →
      ∃ o' ks' ws', putD ks ws x v q = q ks' ws' ∧ DctO K T ρ H o' ks' ws' ∧ ∀ Nx : Hp → Prop, Nx (upd H A o') → rSetDD (.ref A) i u H Nx := fun kvs k e hk r ex ei => by
    subst e ei
    obtain ⟨ks', ws', z1, z2, z3⟩ := put_gen keq_k ex rv (q := q) hk r bl
    exact ⟨_, ks', ws', z1, .inl ⟨_, _, rfl, z2, rfl, z3⟩, fun Nx nx => .inl ⟨_, _, rfl, DPut.k hA (by rw [← keys_len hk]; exact hlen), nx⟩⟩
  cases ks with
  | cons a ks =>
    rcases same_ok (show sameG (a :: ks) x = true from sp) d rx with ⟨kvs, k, e1, e2, e3, e4, e5⟩ | ⟨kvs, k, b, e1, e2, e3, e4, e5, e6⟩
    · exact ofK kvs k e1 e2 e3 e4 e5
    · subst e1 e5
      obtain ⟨ks', ws', z1, z2, z3⟩ := put_gen keq_t e4 rv (q := q) e2 e3 bl
      refine ⟨_, ks', ws', z1, .inr ⟨_, _, rfl, ⟨z2, fun e0 => ?_⟩, rfl, z3⟩, fun Nx nx => .inl ⟨_, _, rfl, DPut.t hA e6 (by rw [← keys_len e2]; exact hlen), nx⟩⟩
      have there := valV_put kvs k k u
      rw [e0, if_pos rfl] at there
      cases there
  | nil =>
    obtain ⟨e1, e2⟩ := k_empty d
    subst e2
    have sp' : (match kOf x with | some _ => true | Option.none => isSm (tOf x)) = true := sp
    cases ex : kOf x with
    | some k => exact ofK [] k e1 rfl .nil ex (kOf_r ex rx)
    | none =>
      rw [ex] at sp'
      obtain ⟨k, et⟩ := isSm_some sp'
      obtain ⟨b, eb, hb⟩ := tOf_r et rx
      refine ⟨.dT [(k, u)], [x], [v], rfl, .inr ⟨[(k, u)], _, rfl, ⟨?_, List.cons_ne_nil _ _⟩, rfl, .one rv⟩, fun Nx nx => .inr ⟨_, b, k, rfl, by rw [← e1]; exact hA, eb, hb, nx⟩⟩
      show [tOf x] = [some k]
      rw [et]
def dcL (g : Tg) (ts kx vx : D) (ca : CallT) : List W → List W → Hpi → List W → List W → (List W → List W → Hpi → R) → R
  | [], _, h, ks, vs, k => k ks vs h
  | w :: l, e, h, ks, vs, k => bindG g w e fun e1 => bndTC (ts ca e1 h) fun b h1 => match b with
    | false => dcL g ts kx vx ca l e h1 ks vs k
    | true => bndC (kx ca e1 h1) fun x h2 => bndC (vx ca e1 h2) fun y h3 => match sameP ks x with
      | true => putD ks vs x y fun ks' vs' => dcL g ts kx vx ca l e h3 ks' vs' k
      | false => .bad
def mDc (m : Bool) (own : List Nat) (g : Tg) (it ts kx vx : D) : D := fun ca e h => bndI (it ca e h) fun ws h1 => wipeK own e fun e0 => dcL g ts kx vx ca ws e0 h1 [] [] fun ks vs h2 => mkD m ks vs e h2
theorem t_dc {m : Bool} {own : List Nat} {g : Tg} {di dt dk dv : D} {W₀ : WX} {σ : L2.St} {Q : VK} (hg : ∀ i ∈ tgs g, i ∈ own) (w : tE X.K T ca W₀ (mDc m own g di dt dk dv) σ H Q) :
    tDcW (tI X.K T ca W₀ di) (tG X.K g) (tT X.K T ca noW dt) (tE X.K T ca noW dk) (tE X.K T ca noW dv) own σ H (lockQ m Q) := by
  obtain ⟨ρ, e, h, re, rh, f⟩ := w
  refine ⟨ρ, e, h, re, rh, (fin_bndI f).imp ?_⟩
  rintro J H1 ⟨ρ1, ws, h1, s1, rh1, bh, f1⟩ A nA
  rw [wipeK_eq] at f1
  have env0 := (re.step s1)
  have sA := stp_hd (D := A) ρ1 (.dK []) nA
  let ahead : Nat → Hp → Prop := fun i H2 => ∃ ρ2 h2 ks vs o, StpX (fun a => a = A) (ρ1.hd A) (upd H1 A (.dK [])) ρ2 H2 ∧ RelH X.K T ρ2 H2 h2 ∧ H2 A = some o ∧ DctO X.K T ρ2 H2 o ks vs ∧
    FinE X.K T W₀ σ ρ1 H1 (dcL g dt dk dv ca (ws.drop i) (wipeW e own) h2 ks vs fun ks vs h3 => mkD m ks vs e h3) Q
  refine ⟨fun i n H2 => n = ws.length - i ∧ i ≤ ws.length ∧ ahead i H2, ⟨ws.length, by simp, Nat.zero_le _, ρ1.hd A, h1, [], [], _, StpX.refl _ _ _, relH_hd rh1 _ rfl nA, upd_same, .inl ⟨[], [], rfl, rfl, rfl, .nil⟩, f1⟩, ?_⟩
  rintro i n H2 ⟨rfl, hi, ρ2, h2, ks, vs, o, x2, rh2, hA, d, f2⟩
  have np := not_place sA x2 rh1 nA upd_same
  have s12 : Stp ρ1 H1 ρ2 H2 := stp_over sA x2 nA
  have mu2 : ρ2.mu A := x2.up A (.inr rfl)
  by_cases lt : i < ws.length
  · rw [List.drop_eq_getElem_cons lt] at f2
    refine .inr ⟨bh.go i ρ2 H2 lt s12.m0, ahead (i + 1), fun H3 z => ⟨ws.length - (i + 1), by omega, rfl, lt, z⟩, fun x H3 y => ?_⟩
    obtain ⟨s3, rh3, r3⟩ := bh.yld i ws[i] ρ2 H2 h2 x H3 (List.getElem?_eq_getElem lt) s12.m0 rh2 y
    -- the dict stays as it is while the turn's parts run
    have stays : ∀ {ρ' : Rho} {H' : Hp}, Stp ρ2 H2 ρ' H' → StpX (fun a => a = A) (ρ1.hd A) (upd H1 A (.dK [])) ρ' H' ∧ H' A = some o ∧ DctO X.K T ρ' H' o ks vs := fun {ρ' H'} s =>
      ⟨x2.trans (s.imp fun _ _ _ z => z.elim), s.hld _ _ hA (fun z => z) np (nT_tb d.mut.2), d.step s⟩
    refine fin_bindC (vs := own) hg r3 ((env0.step (s12.trans s3)).wipe own) f2 fun e' σ' hw re' f3 => ⟨hw.trans (wipe_wipe own), ρ2, e', h2, re', rh3, (fin_bndTC f3).imp ?_⟩
    rintro b H4 ⟨ρ4, h4, s4, rh4, f4⟩
    cases b with
    | false =>
      obtain ⟨a1, a2, a3⟩ := stays (s3.trans s4)
      exact ⟨ρ4, h4, ks, vs, o, a1, rh4, a2, a3, f4⟩
    | true =>
      refine ⟨ρ4, e', h4, re'.step s4, rh4, (fin_bndC f4).imp ?_⟩
      rintro yk H5 ⟨ρ5, wk, h5, s5, rh5, rk, f5⟩
      refine ⟨ρ5, e', h5, (re'.step s4).step s5, rh5, (fin_bndC f5).imp ?_⟩
      rintro yv H6 ⟨ρ6, wv, h6, s6, rh6, rv, f6⟩
      obtain ⟨a1, a2, a3⟩ := stays (((s3.trans s4).trans s5).trans s6)
      cases sp : sameP ks wk with
      | false => rw [sp] at f6; exact f6.elim
      | true =>
        rw [sp] at f6
        cases bl : Nat.blt (lenN ks) lim with
        | false => simp only [putD, bl] at f6; exact f6.elim
        | true =>
          obtain ⟨o', ks', vs', z1, z2, z3⟩ := put_any a2 a3 sp bl (rk.step s6).rr rv fun ks' vs' => dcL g dt dk dv ca (ws.drop (i + 1)) (wipeW e own) h6 ks' vs' fun ks vs h3 => mkD m ks vs e h3
          have f7 : FinE X.K T W₀ σ ρ1 H1 (dcL g dt dk dv ca (ws.drop (i + 1)) (wipeW e own) h6 ks' vs' fun ks vs h3 => mkD m ks vs e h3) Q := by
            rw [← z1]; exact f6
          have np6 := not_place sA a1 rh1 nA upd_same
          have mu6 : ρ6.mu A := a1.up A (.inr rfl)
          have xu := stpX_upd (o := o') mu6 a2 (rh6.nt mu6 a2)
          have hP : ∀ a, (fun a => a = A) a → ρ6.mu a := fun a z => by rw [show a = A from z]; exact mu6
          exact z3 _ ⟨ρ6, h6, ks', vs', o', a1.trans xu, relH_upd z2.mut.2 rh6 mu6 np6, upd_same, DctO.stepX xu hP z2, f7⟩
  · have ei : i = ws.length := by omega
    subst ei
    rw [List.drop_length] at f2
    refine .inl ⟨bh.stop ρ2 H2 s12.m0, ?_⟩
    have fin := fin_mkD f2 sA x2 rh2 np nA mu2 rh1.on hA d
    rw [upd_id hA] at fin
    exact fin
end
end
end VA
set_option Elab.async false
set_option linter.all false
set_option maxRecDepth 100000
set_option maxHeartbeats 8000000
/-! V25: chains of comparisons; the top's constants; choice of a bounded int. -/
namespace VA
noncomputable section
open PySem PySem.Spec PyProof.Rows L2 Srt
section
variable {X : Cx} {K : PySem.W.Frag} {T : Tab} {ca : CallT} {ρ : Rho} {H : Hp} {h : Hpi} {W₀ : WX} {σ : L2.St} {Q : VK}
/-! ### a op b op' c -/
def chnK (w : W) (t f : R) : R := match w with
  | .bl b => (match b with
    | true => t
    | false => f)
  | .anyb => .or t f
  | _ => .bad
def chnO (o : Option W) (t f : R) : R := match o with
  | some w => chnK w t f
  | Option.none => .bad
def mChain (o o' : W → W → Option W) (a b c : D) : D := fun ca e h => bnd (a ca e h) fun w1 h1 => bnd (b ca e h1) fun w2 h2 => chnO (o (res h2 w1) (res h2 w2)) (bnd (c ca e h2) fun w3 h3 => opt (o' (res h3 w2) (res h3 w3)) e h3) (.ok (.bl false) e h2)
theorem t_chain {r r' : R2} {o o' : W → W → Option W} (g : Op2 K T r o) (g' : Op2 K T r' o') {a b c : D} (w : tE K T ca W₀ (mChain o o' a b c) σ H Q) : tChain r r' (tE K T ca W₀ a) (tE K T ca W₀ b) (tE K T ca W₀ c) σ H Q := by
  obtain ⟨ρ, e, h, re, rh, f⟩ := w
  refine ⟨ρ, e, h, re, rh, (fin_bnd f).imp ?_⟩
  rintro x H1 ⟨ρ1, w1, h1, s1, rh1, r1, f1⟩
  refine ⟨ρ1, e, h1, re.step s1, rh1, (fin_bnd f1).imp ?_⟩
  rintro y H2 ⟨ρ2, w2, h2, s2, rh2, r2, f2⟩
  have re2 := (re.step s1).step s2
  cases q : o (res h2 w1) (res h2 w2) with
  | none => rw [q] at f2; exact f2.elim
  | some w =>
    rw [q] at f2
    refine g ρ2 H2 h2 _ _ w x y _ q rh2 (RR.res rh2 (r1.step s2)) (RR.res rh2 r2) fun H3 v s3 rh3 rv => ?_
    -- behind the first comparison
    have yes : FinE K T W₀ σ ρ2 H2 (bnd (c ca e h2) fun w3 h3 => opt (o' (res h3 w2) (res h3 w3)) e h3) Q → tE K T ca W₀ c σ H3 fun z H4 => r' y z H4 Q := fun f3 =>
      ⟨ρ2, e, h2, re2.step s3, rh3, (fin_bnd (FinE.step s3 f3)).imp fun z H4 ⟨ρ4, w3, h4, s4, rh4, r4, f4⟩ => by
        cases q2 : o' (res h4 w2) (res h4 w3) with
        | none => rw [q2] at f4; exact f4.elim
        | some u =>
          rw [q2] at f4
          exact g' ρ4 H4 h4 _ _ u y z Q q2 rh4 (RR.res rh4 ((r2.step s3).step s4)) (RR.res rh4 r4) fun H' v s rh' rv' => f4 ρ4 H' v s rh' rv'⟩
    have no : FinE K T W₀ σ ρ2 H2 (.ok (.bl false) e h2) Q → Q (.bl false) H3 := fun f3 => f3 ρ2 H3 _ s3 rh3 (.bl false)
    cases w with
    | bl k =>
      cases rv
      refine ⟨k, rfl, ?_⟩
      cases k with
      | true => exact yes f2
      | false => exact no f2
    | anyb =>
      cases rv with
      | anyb k =>
        refine ⟨k, rfl, ?_⟩
        cases k with
        | true => exact yes f2.1
        | false => exact no f2.2
    | _ => exact f2.elim
theorem SE.chain {a b c : Expr} {op op' : CmpOp} {r r' : R2} {o o' : W → W → Option W} {da db dc : D} {pos : Pos} (ho : OpR X (compareOp op) r) (g : Op2 X.K T r o) (ho' : OpR X (compareOp op') r') (g' : Op2 X.K T r' o') (ha : SE T ca X a da) (hb : SE T ca X b db) (hc : SE T ca X c dc) (hm : lastMarks [op, op'] [b, c] = false) :
    SE T ca X (.Compare a [op, op'] [b, c] pos) (mChain o o' da db dc) := fun W₀ t => (pe_chain ho ho' (ha W₀ t) (hb W₀ t) (hc W₀ t) hm).weak fun _ _ _ w => t_chain g g' w
theorem ST.chain {a b c : Expr} {op op' : CmpOp} {r r' : R2} {o o' : W → W → Option W} {da db dc : D} {pos : Pos} (ho : OpR X (compareOp op) r) (g : Op2 X.K T r o) (ho' : OpR X (compareOp op') r') (g' : Op2 X.K T r' o') (ha : SE T ca X a da) (hb : SE T ca X b db) (hc : SE T ca X c dc) (hm : lastMarks [op, op'] [b, c] = false) :
    ST T ca X (.Compare a [op, op'] [b, c] pos) (mChain o o' da db dc) := fun W₀ t => (pt_chain ho ho' (ha W₀ t) (hb W₀ t) (hc W₀ t) hm).weak fun _ _ _ w => t_chain (Q := fun x H' => ∃ k, x = .bl k ∧ _) g g' (tT_tE w)
/-! ### a constant of the top -/
structure Glo (T : Tab) (X : Cx) (x : Str) (w : W) : Prop where
  at_ : ∃ (u : Value) (v : V), X.mg x = some u ∧ RelV v u ∧ ∀ ρ H, RW X.K T ρ H w v
theorem SE.glob {x : Str} {w : W} {pos : Pos} (g : Glo T X x w) (hg : Gl X x) (hd : (x == ("__debug__" : Str)) = false) : SE T ca X (.Name x pos) (mC w) := by
  obtain ⟨u, v, e, r, rw'⟩ := g.at_
  exact SE.const (pe_glob hg e r hd) rw'
/-! ### a bounded int is one of its values -/
def rngR : Nat → (Nat → R) → R
  | 0, _ => .bad
  | 1, k => k 0
  | n + 2, k => .or (k (n + 1)) (rngR (n + 1) k)
def forkR (w : W) (e : List W) (h : Hpi) : R := match w with
  | .rng n => rngR n fun i => .ok (.int (.ofNat i)) e h
  | w => .ok w e h
def mFork (a : D) : D := fun ca e h => bnd (a ca e h) fun w h1 => forkR w e h1
theorem rngR_ok {k : Nat → R} : ∀ {n : Nat}, FinE K T W₀ σ ρ H (rngR n k) Q → ∀ i, i < n → FinE K T W₀ σ ρ H (k i) Q
  | 0, _, i, lt => absurd lt (Nat.not_lt_zero i)
  | 1, f, i, lt => by
    have z : i = 0 := by omega
    rw [z]; exact f
  | n + 2, f, i, lt => by
    by_cases z : i = n + 1
    · rw [z]; exact f.1
    · exact rngR_ok f.2 i (by omega)
theorem fork_ok {w : W} {e : List W} {v : V} (f : FinE K T W₀ σ ρ H (forkR w e h) Q) (rh : RelH K T ρ H h) (r : RW K T ρ H w v) : Q v H := by
  cases w with
  | rng n =>
    cases r with
    | rng _ i lt => exact rngR_ok f i lt ρ H _ (Stp.refl _ _) rh (.int _)
  | _ => exact f ρ H v (Stp.refl _ _) rh r
/-- any expression may be told so -/
theorem SE.fork {e : Expr} {d : D} (he : SE T ca X e d) : SE T ca X e (mFork d) := fun W₀ t => (he W₀ t).weak fun _ _ _ ⟨ρ, e, h, re, rh, f⟩ => ⟨ρ, e, h, re, rh, (fin_bnd f).imp fun _ _ ⟨_, _, _, _, rh1, r1, f1⟩ => fork_ok f1 rh1 r1⟩
end
end
end VA
set_option Elab.async false
set_option linter.all false
set_option maxRecDepth 100000
set_option maxHeartbeats 8000000
/-! V26: choices joined: where two ways lead to one state (up to bounded ints). -/
namespace VA
noncomputable section
open PySem PySem.Spec PyProof.Rows L2 Srt
/-! ### the same value -/
def sidL (f : W → W → Bool) : List W → List W → Bool
  | [], [] => true
  | x :: xs, y :: ys => match f x y with
    | true => sidL f xs ys
    | false => false
  | _, _ => false
/-- (keys: ints, strs, tuples of these) -/
def sid : Nat → W → W → Bool
  | 0, _, _ => false
  | n + 1, a, b => match a with
    | .int i => (match b with
      | .int j => ieq i j
      | _ => false)
    | .str s => (match b with
      | .str t => all2 Nat.beq s t
      | _ => false)
    | .tup xs => (match b with
      | .tup ys => sidL (sid n) xs ys
      | _ => false)
    | _ => false
theorem sidL_eq {f : W → W → Bool} (hf : ∀ a b, f a b = true → a = b) : ∀ {xs ys : List W}, sidL f xs ys = true → xs = ys
  | [], [], _ => rfl
  | [], _ :: _, h => nomatch h
  | _ :: _, [], h => nomatch h
  | x :: xs, y :: ys, h => by
    simp only [sidL] at h
    cases e : f x y with
    | false => rw [e] at h; cases h
    | true => rw [e] at h; rw [hf x y e, sidL_eq hf h]
theorem sid_eq : ∀ {n : Nat} {a b : W}, sid n a b = true → a = b
  | 0, _, _, h => nomatch h
  | n + 1, a, b, h => by
    cases a with
    | int i =>
      cases b with
      | int j =>
        have z : ieq i j = true := h
        rw [ieq_eq] at z
        rw [of_decide_eq_true z]
      | _ => exact nomatch h
    | str s =>
      cases b with
      | str t =>
        have z : all2 Nat.beq s t = true := h
        rw [all2_beq] at z
        rw [of_decide_eq_true z]
      | _ => exact nomatch h
    | tup xs =>
      cases b with
      | tup ys => exact congrArg W.tup (sidL_eq (fun _ _ => sid_eq) (show sidL (sid n) xs ys = true from h))
      | _ => exact nomatch h
    | _ => exact nomatch h
/-! ### joins -/
def opL (f : W → W → Option W) : List W → List W → Option (List W)
  | [], [] => some []
  | x :: xs, y :: ys => match f x y with
    | some z => (match opL f xs ys with
      | some zs => some (z :: zs)
      | Option.none => Option.none)
    | Option.none => Option.none
  | _, _ => Option.none
def mxN (a b : Nat) : Nat := match Nat.ble a b with
  | true => b
  | false => a
def onB (b : Bool) (w : W) : Option W := match b with
  | true => some w
  | false => Option.none
def onL (o : Option (List W)) (k : List W → W) : Option W := match o with
  | some xs => some (k xs)
  | Option.none => Option.none
def beqB (a b : Bool) : Bool := match a with
  | true => b
  | false => nB b
def jnW : Nat → W → W → Option W
  | 0, _, _ => Option.none
  | n + 1, a, b => match a with
    | .non => (match b with | .non => some .non | _ => Option.none)
    | .bl x => (match b with | .bl y => onB (beqB x y) (.bl x) | _ => Option.none)
    | .int i => (match b with | .int j => onB (ieq i j) (.int i) | _ => Option.none)
    | .str s => (match b with | .str t => onB (all2 Nat.beq s t) (.str s) | _ => Option.none)
    | .rng x => (match b with | .rng y => some (.rng (mxN x y)) | _ => Option.none)
    | .anyi => (match b with | .anyi => some .anyi | _ => Option.none)
    | .anyb => (match b with | .anyb => some .anyb | _ => Option.none)
    | .loc x => (match b with | .loc y => onB (Nat.beq x y) (.loc x) | _ => Option.none)
    | .cl x => (match b with | .cl y => onB (Nat.beq x y) (.cl x) | _ => Option.none)
    | .fn x => (match b with | .fn y => onB (Nat.beq x y) (.fn x) | _ => Option.none)
    | .tup xs => (match b with | .tup ys => onL (opL (jnW n) xs ys) .tup | _ => Option.none)
    | .lst xs => (match b with | .lst ys => onL (opL (jnW n) xs ys) .lst | _ => Option.none)
    | .ftp xs => (match b with | .ftp ys => onL (opL (jnW n) xs ys) .ftp | _ => Option.none)
    | .ktp xs => (match b with | .ktp ys => onL (opL (jnW n) xs ys) .ktp | _ => Option.none)
    | .scr xs => (match b with | .scr ys => onL (opL (jnW n) xs ys) .scr | _ => Option.none)
    | .dct ks xs => (match b with
      | .dct ls ys => (match sidL (sid n) ks ls with
        | true => onL (opL (jnW n) xs ys) (.dct ks)
        | false => Option.none)
      | _ => Option.none)
    | .nul => Option.none
section
variable {K : PySem.W.Frag} {T : Tab} {ρ : Rho} {H : Hp}
/-- c covers a and b -/
def Cov (K : PySem.W.Frag) (T : Tab) (a b c : W) : Prop := ∀ (ρ : Rho) (H : Hp) (v : V), (RW K T ρ H a v → RW K T ρ H c v) ∧ (RW K T ρ H b v → RW K T ρ H c v)
def CovL (K : PySem.W.Frag) (T : Tab) (a b c : List W) : Prop := ∀ (ρ : Rho) (H : Hp) (v : List V), (RWs K T ρ H a v → RWs K T ρ H c v) ∧ (RWs K T ρ H b v → RWs K T ρ H c v)
theorem covL {f : W → W → Option W} (hf : ∀ a b c, f a b = some c → Cov K T a b c) : ∀ {xs ys zs : List W}, opL f xs ys = some zs → CovL K T xs ys zs
  | [], [], zs, e => by cases e; exact fun _ _ _ => ⟨id, id⟩
  | [], _ :: _, _, e => nomatch e
  | _ :: _, [], _, e => nomatch e
  | x :: xs, y :: ys, zs, e => by
    simp only [opL] at e
    cases e1 : f x y with
    | none => rw [e1] at e; cases e
    | some z =>
      cases e2 : opL f xs ys with
      | none => rw [e1, e2] at e; cases e
      | some zs' =>
        rw [e1, e2] at e
        cases e
        intro ρ H v
        constructor
        · intro r
          cases r with
          | cons h t => exact .cons ((hf x y z e1 ρ H _).1 h) ((covL hf e2 ρ H _).1 t)
        · intro r
          cases r with
          | cons h t => exact .cons ((hf x y z e1 ρ H _).2 h) ((covL hf e2 ρ H _).2 t)
theorem onB_ok {b : Bool} {w c : W} (e : onB b w = some c) : b = true ∧ c = w := by
  cases b with
  | true => cases e; exact ⟨rfl, rfl⟩
  | false => cases e
theorem onL_ok {o : Option (List W)} {k : List W → W} {c : W} (e : onL o k = some c) : ∃ zs, o = some zs ∧ c = k zs := by
  cases o with
  | some zs => cases e; exact ⟨zs, rfl, rfl⟩
  | none => cases e
theorem jnW_ok : ∀ {n : Nat} {a b c : W}, jnW n a b = some c → Cov K T a b c
  | 0, _, _, _, e => nomatch e
  | n + 1, a, b, c, e => by
    have same : a = b → c = a → Cov K T a b c := fun e1 e2 => by subst e1 e2; exact fun _ _ _ => ⟨id, id⟩
    have sub : ∀ {xs ys zs : List W}, opL (jnW n) xs ys = some zs → CovL K T xs ys zs := fun e => covL (fun _ _ _ => jnW_ok) e
    cases a with
    | non =>
      cases b with
      | non => cases e; exact same rfl rfl
      | _ => exact nomatch e
    | bl x =>
      cases b with
      | bl y =>
        obtain ⟨e1, e2⟩ := onB_ok (show onB (beqB x y) (.bl x) = some c from e)
        exact same (by cases x <;> cases y <;> first | rfl | cases e1) e2
      | _ => exact nomatch e
    | int i =>
      cases b with
      | int j =>
        obtain ⟨e1, e2⟩ := onB_ok (show onB (ieq i j) (.int i) = some c from e)
        rw [ieq_eq] at e1
        exact same (by rw [of_decide_eq_true e1]) e2
      | _ => exact nomatch e
    | str s =>
      cases b with
      | str t =>
        obtain ⟨e1, e2⟩ := onB_ok (show onB (all2 Nat.beq s t) (.str s) = some c from e)
        rw [all2_beq] at e1
        exact same (by rw [of_decide_eq_true e1]) e2
      | _ => exact nomatch e
    | loc x =>
      cases b with
      | loc y =>
        obtain ⟨e1, e2⟩ := onB_ok (show onB (Nat.beq x y) (.loc x) = some c from e)
        exact same (by rw [Nat.eq_of_beq_eq_true e1]) e2
      | _ => exact nomatch e
    | cl x =>
      cases b with
      | cl y =>
        obtain ⟨e1, e2⟩ := onB_ok (show onB (Nat.beq x y) (.cl x) = some c from e)
        exact same (by rw [Nat.eq_of_beq_eq_true e1]) e2
      | _ => exact nomatch e
    | fn x =>
      cases b with
      | fn y =>
        obtain ⟨e1, e2⟩ := onB_ok (show onB (Nat.beq x y) (.fn x) = some c from e)
        exact same (by rw [Nat.eq_of_beq_eq_true e1]) e2
      | _ => exact nomatch e
    | anyi =>
      cases b with
      | anyi => cases e; exact same rfl rfl
      | _ => exact nomatch e
    | anyb =>
      cases b with
      | anyb => cases e; exact same rfl rfl
      | _ => exact nomatch e
    | rng x =>
      cases b with
      | rng y =>
        have e' : some (W.rng (mxN x y)) = some c := e
        cases e'
        have m1 : x ≤ mxN x y ∧ y ≤ mxN x y := by
          unfold mxN
          cases z : Nat.ble x y with
          | true => exact ⟨Nat.le_of_ble_eq_true z, Nat.le_refl _⟩
          | false =>
            refine ⟨Nat.le_refl _, Nat.le_of_lt (Nat.lt_of_not_le fun l => ?_)⟩
            rw [Nat.ble_eq_true_of_le l] at z
            cases z
        intro ρ H v
        constructor
        · intro r; cases r with
          | rng _ i lt => exact .rng _ i (Nat.lt_of_lt_of_le lt m1.1)
        · intro r; cases r with
          | rng _ i lt => exact .rng _ i (Nat.lt_of_lt_of_le lt m1.2)
      | _ => exact nomatch e
    | tup xs =>
      cases b with
      | tup ys =>
        obtain ⟨zs, e1, rfl⟩ := onL_ok (show onL (opL (jnW n) xs ys) .tup = some c from e)
        exact fun ρ H v => ⟨fun r => by cases r with | tup ha la => exact .tup ha ((sub e1 ρ H _).1 la), fun r => by cases r with | tup ha la => exact .tup ha ((sub e1 ρ H _).2 la)⟩
      | _ => exact nomatch e
    | lst xs =>
      cases b with
      | lst ys =>
        obtain ⟨zs, e1, rfl⟩ := onL_ok (show onL (opL (jnW n) xs ys) .lst = some c from e)
        exact fun ρ H v => ⟨fun r => by cases r with | lst ha la => exact .lst ha ((sub e1 ρ H _).1 la), fun r => by cases r with | lst ha la => exact .lst ha ((sub e1 ρ H _).2 la)⟩
      | _ => exact nomatch e
    | ftp xs =>
      cases b with
      | ftp ys =>
        obtain ⟨zs, e1, rfl⟩ := onL_ok (show onL (opL (jnW n) xs ys) .ftp = some c from e)
        exact fun ρ H v => ⟨fun r => by cases r with | ftp ha la => exact .ftp ha ((sub e1 ρ H _).1 la), fun r => by cases r with | ftp ha la => exact .ftp ha ((sub e1 ρ H _).2 la)⟩
      | _ => exact nomatch e
    | ktp xs =>
      cases b with
      | ktp ys =>
        obtain ⟨zs, e1, rfl⟩ := onL_ok (show onL (opL (jnW n) xs ys) .ktp = some c from e)
        exact fun ρ H v => ⟨fun r => by cases r with | ktp ha la => exact .ktp ha ((sub e1 ρ H _).1 la), fun r => by cases r with | ktp ha la => exact .ktp ha ((sub e1 ρ H _).2 la)⟩
      | _ => exact nomatch e
    | scr xs =>
      cases b with
      | scr ys =>
        obtain ⟨zs, e1, rfl⟩ := onL_ok (show onL (opL (jnW n) xs ys) .scr = some c from e)
        exact fun ρ H v => ⟨fun r => by cases r with | scr ha la => exact .scr ha ((sub e1 ρ H _).1 la), fun r => by cases r with | scr ha la => exact .scr ha ((sub e1 ρ H _).2 la)⟩
      | _ => exact nomatch e
    | dct ks xs =>
      cases b with
      | dct ls ys =>
        have e0 : (match sidL (sid n) ks ls with | true => onL (opL (jnW n) xs ys) (.dct ks) | false => Option.none) = some c := e
        cases z : sidL (sid n) ks ls with
        | false => rw [z] at e0; cases e0
        | true =>
          rw [z] at e0
          have ek := sidL_eq (fun _ _ => sid_eq) z
          subst ek
          obtain ⟨zs, e1, rfl⟩ := onL_ok e0
          intro ρ H v
          constructor
          · intro r
            cases r with
            | dctK h m hk hu r => exact .dctK h m hk hu ((sub e1 ρ H _).1 r)
            | dctT h m hk hu r => exact .dctT h m hk hu ((sub e1 ρ H _).1 r)
          · intro r
            cases r with
            | dctK h m hk hu r => exact .dctK h m hk hu ((sub e1 ρ H _).2 r)
            | dctT h m hk hu r => exact .dctT h m hk hu ((sub e1 ρ H _).2 r)
      | _ => exact nomatch e
    | nul => exact nomatch e
end
end
end VA
set_option Elab.async false
set_option linter.all false
set_option maxRecDepth 100000
set_option maxHeartbeats 8000000
/-! V27: joins of states; fewer ways. -/
namespace VA
noncomputable section
open PySem PySem.Spec PyProof.Rows L2 Srt
def deep : Nat := 40
/-- slots: a name that is not told on one side is not told -/
def jnS (a b : W) : Option W := match a with
  | .nul => some .nul
  | _ => (match b with
    | .nul => some .nul
    | _ => jnW deep a b)
/-- above all that it may be -/
def nOf (w : W) : Option Nat := match w with
  | .int i => (match i with
    | .ofNat n => some (n + 1)
    | .negSucc _ => Option.none)
  | .rng n => some n
  | _ => Option.none
/-- items of a changed list: other ints are joined, too -/
def jnC (a b : W) : Option W := match jnW deep a b with
  | some c => (match a with
    | .rng _ => (match nOf c with
      | some m => sqN m fun m => some (.rng m)
      | Option.none => Option.none)
    | _ => some c)
  | Option.none => (match nOf a with
    | some x => (match nOf b with
      | some y => sqN (mxN x y) fun m => some (.rng m)
      | Option.none => Option.none)
    | Option.none => Option.none)
def jnO (a b : Ob) : Option Ob := match a with
  | .lst xs => (match b with
    | .lst ys => (match opL jnC xs ys with
      | some zs => some (.lst zs)
      | Option.none => Option.none)
    | _ => Option.none)
  | .dct ks xs => (match b with
    | .dct ls ys => (match sidL (sid deep) ks ls with
      | true => (match opL (jnW deep) xs ys with
        | some zs => some (.dct ks zs)
        | Option.none => Option.none)
      | false => Option.none)
    | _ => Option.none)
  | .ins c xs => (match b with
    | .ins d ys => (match Nat.beq c d with
      | true => (match opL jnS xs ys with
        | some zs => some (.ins c zs)
        | Option.none => Option.none)
      | false => Option.none)
    | _ => Option.none)
def jnOs : List (Nat × Ob) → List (Nat × Ob) → Option (List (Nat × Ob))
  | [], [] => some []
  | p :: ps, q :: qs => match Nat.beq p.1 q.1 with
    | true => (match jnO p.2 q.2 with
      | some o => (match jnOs ps qs with
        | some os => some ((p.1, o) :: os)
        | Option.none => Option.none)
      | Option.none => Option.none)
    | false => Option.none
  | _, _ => Option.none
def jnH (a b : Hpi) : Option Hpi := match Nat.beq a.next b.next with
  | true => (match jnOs a.objs b.objs with
    | some os => some ⟨a.next, os⟩
    | Option.none => Option.none)
  | false => Option.none
section
variable {K : PySem.W.Frag} {T : Tab} {ρ : Rho} {H : Hp}
theorem nOf_ok {w : W} {n m : Nat} (e : nOf w = some n) (le : n ≤ m) {v : V} (r : RW K T ρ H w v) : RW K T ρ H (.rng m) v := by
  cases w with
  | int i =>
    cases i with
    | ofNat k =>
      cases r
      have e' : some (k + 1) = some n := e
      cases e'
      exact .rng m k le
    | negSucc _ => cases e
  | rng k =>
    cases e
    cases r with
    | rng _ i lt => exact .rng m i (Nat.lt_of_lt_of_le lt le)
  | _ => cases e
theorem mxN_le (x y : Nat) : x ≤ mxN x y ∧ y ≤ mxN x y := by
  unfold mxN
  cases z : Nat.ble x y with
  | true => exact ⟨Nat.le_of_ble_eq_true z, Nat.le_refl _⟩
  | false =>
    refine ⟨Nat.le_refl _, Nat.le_of_lt (Nat.lt_of_not_le fun l => ?_)⟩
    rw [Nat.ble_eq_true_of_le l] at z
    cases z
theorem jnC_ok {a b c : W} (e : jnC a b = some c) : Cov K T a b c := by
  unfold jnC at e
  cases z : jnW deep a b with
  | some d =>
    rw [z] at e
    have cov : Cov K T a b d := jnW_ok z
    cases a with
    | rng x =>
      simp only at e
      cases q : nOf d with
      | none => rw [q] at e; nomatch e
      | some m =>
        rw [q] at e
        simp only [sqN_eq] at e
        cases e
        exact fun ρ H v => ⟨fun r => nOf_ok q (Nat.le_refl _) ((cov ρ H v).1 r), fun r => nOf_ok q (Nat.le_refl _) ((cov ρ H v).2 r)⟩
    | _ => cases e; exact cov
  | none =>
    rw [z] at e
    simp only at e
    cases q1 : nOf a with
    | none => rw [q1] at e; cases e
    | some x =>
      rw [q1] at e
      simp only at e
      cases q2 : nOf b with
      | none => rw [q2] at e; cases e
      | some y =>
        rw [q2] at e
        simp only [sqN_eq] at e
        cases e
        exact fun ρ H v => ⟨fun r => nOf_ok q1 (mxN_le x y).1 r, fun r => nOf_ok q2 (mxN_le x y).2 r⟩
theorem jnS_nul {a b c : W} (e : jnS a b = some c) (hc : c ≠ .nul) : a ≠ .nul ∧ b ≠ .nul ∧ jnW deep a b = some c := by
  cases a with
  | nul => cases e; exact absurd rfl hc
  | _ =>
    cases b with
    | nul => cases e; exact absurd rfl hc
    | _ => exact ⟨(by intro z; cases z), (by intro z; cases z), e⟩
theorem opL_at {f : W → W → Option W} : ∀ {xs ys zs : List W}, opL f xs ys = some zs → xs.length = zs.length ∧ ys.length = zs.length ∧ ∀ (i : Nat) (z : W), zs[i]? = some z → ∃ x y, xs[i]? = some x ∧ ys[i]? = some y ∧ f x y = some z
  | [], [], zs, e => by cases e; exact ⟨rfl, rfl, fun i z h => by simp at h⟩
  | [], _ :: _, _, e => nomatch e
  | _ :: _, [], _, e => nomatch e
  | x :: xs, y :: ys, zs, e => by
    simp only [opL] at e
    cases e1 : f x y with
    | none => rw [e1] at e; cases e
    | some z =>
      cases e2 : opL f xs ys with
      | none => rw [e1, e2] at e; cases e
      | some zs' =>
        rw [e1, e2] at e
        cases e
        obtain ⟨l1, l2, at_⟩ := opL_at e2
        refine ⟨congrArg (· + 1) l1, congrArg (· + 1) l2, fun i u h => ?_⟩
        cases i with
        | zero => cases (show some z = some u from h); exact ⟨x, y, rfl, rfl, e1⟩
        | succ i => exact at_ i u (by simpa using h)
theorem jn_env {a b c : List W} (e : opL jnS a b = some c) {σ : L2.St} : (REnv K T ρ H a σ → REnv K T ρ H c σ) ∧ (REnv K T ρ H b σ → REnv K T ρ H c σ) := by
  obtain ⟨l1, l2, at_⟩ := opL_at e
  constructor
  · intro r
    refine ⟨l1.symm.trans r.len, fun i w h n => ?_⟩
    obtain ⟨x, y, h1, h2, h3⟩ := at_ i w h
    obtain ⟨n1, n2, h4⟩ := jnS_nul h3 n
    obtain ⟨v, e1, r1⟩ := r.at_ i x h1 n1
    exact ⟨v, e1, (jnW_ok h4 ρ H v).1 r1⟩
  · intro r
    refine ⟨l2.symm.trans r.len, fun i w h n => ?_⟩
    obtain ⟨x, y, h1, h2, h3⟩ := at_ i w h
    obtain ⟨n1, n2, h4⟩ := jnS_nul h3 n
    obtain ⟨v, e1, r1⟩ := r.at_ i y h2 n2
    exact ⟨v, e1, (jnW_ok h4 ρ H v).2 r1⟩
theorem jn_ob {a b c : Ob} (e : jnO a b = some c) {n : Nat} : (RO K T ρ H n a → RO K T ρ H n c) ∧ (RO K T ρ H n b → RO K T ρ H n c) := by
  have sub : ∀ {xs ys zs : List W}, opL (jnW deep) xs ys = some zs → CovL K T xs ys zs := fun e => covL (fun _ _ _ => jnW_ok) e
  cases a with
  | lst xs =>
    cases b with
    | lst ys =>
      have e' : (match opL jnC xs ys with | some zs => some (Ob.lst zs) | Option.none => Option.none) = some c := e
      cases z : opL jnC xs ys with
      | none => rw [z] at e'; cases e'
      | some zs =>
        rw [z] at e'; cases e'
        have all : CovL K T xs ys zs := covL (fun _ _ _ => jnC_ok) z
        exact ⟨fun ⟨vs, h, r⟩ => ⟨vs, h, (all ρ H vs).1 r⟩, fun ⟨vs, h, r⟩ => ⟨vs, h, (all ρ H vs).2 r⟩⟩
    | _ => exact nomatch e
  | dct ks xs =>
    cases b with
    | dct ls ys =>
      have e' : (match sidL (sid deep) ks ls with
        | true => (match opL (jnW deep) xs ys with
          | some zs => some (Ob.dct ks zs)
          | Option.none => Option.none)
        | false => Option.none) = some c := e
      cases k : sidL (sid deep) ks ls with
      | false => rw [k] at e'; cases e'
      | true =>
        rw [k] at e'
        cases z : opL (jnW deep) xs ys with
        | none => simp only [z] at e'; cases e'
        | some zs =>
          simp only [z] at e'; cases e'
          have ek := sidL_eq (fun _ _ => sid_eq) k
          subst ek
          constructor
          · rintro ⟨o, h, d⟩
            refine ⟨o, h, ?_⟩
            rcases d with ⟨kvs, us, e1, hk, hu, r⟩ | ⟨kvs, us, e1, hk, hu, r⟩
            · exact .inl ⟨kvs, us, e1, hk, hu, (sub z ρ H us).1 r⟩
            · exact .inr ⟨kvs, us, e1, hk, hu, (sub z ρ H us).1 r⟩
          · rintro ⟨o, h, d⟩
            refine ⟨o, h, ?_⟩
            rcases d with ⟨kvs, us, e1, hk, hu, r⟩ | ⟨kvs, us, e1, hk, hu, r⟩
            · exact .inl ⟨kvs, us, e1, hk, hu, (sub z ρ H us).2 r⟩
            · exact .inr ⟨kvs, us, e1, hk, hu, (sub z ρ H us).2 r⟩
    | _ => exact nomatch e
  | ins k xs =>
    cases b with
    | ins d ys =>
      have e' : (match Nat.beq k d with
        | true => (match opL jnS xs ys with
          | some zs => some (Ob.ins k zs)
          | Option.none => Option.none)
        | false => Option.none) = some c := e
      cases q : Nat.beq k d with
      | false => rw [q] at e'; cases e'
      | true =>
        rw [q] at e'
        have ed := Nat.eq_of_beq_eq_true q
        subst ed
        cases z : opL jnS xs ys with
        | none => simp only [z] at e'; cases e'
        | some zs =>
          simp only [z] at e'; cases e'
          obtain ⟨_, _, at_⟩ := opL_at z
          constructor
          · rintro ⟨h2, vs, ia, hf⟩
            refine ⟨h2, vs, ia, fun i w h n => ?_⟩
            obtain ⟨x, y, h1, h3, h4⟩ := at_ i w h
            obtain ⟨n1, n2, h5⟩ := jnS_nul h4 n
            obtain ⟨v, e1, r1⟩ := hf i x h1 n1
            exact ⟨v, e1, (jnW_ok h5 ρ H v).1 r1⟩
          · rintro ⟨h2, vs, ia, hf⟩
            refine ⟨h2, vs, ia, fun i w h n => ?_⟩
            obtain ⟨x, y, h1, h3, h4⟩ := at_ i w h
            obtain ⟨n1, n2, h5⟩ := jnS_nul h4 n
            obtain ⟨v, e1, r1⟩ := hf i y h3 n2
            exact ⟨v, e1, (jnW_ok h5 ρ H v).2 r1⟩
    | _ => exact nomatch e
theorem jnOs_ids : ∀ {a b c : List (Nat × Ob)}, jnOs a b = some c → c.map (·.1) = a.map (·.1) ∧ c.map (·.1) = b.map (·.1) ∧ ∀ (n : Nat) (o : Ob), getO c n = some o → ∃ u v, getO a n = some u ∧ getO b n = some v ∧ jnO u v = some o
  | [], [], c, e => by cases e; exact ⟨rfl, rfl, fun n o h => nomatch h⟩
  | [], _ :: _, _, e => nomatch e
  | _ :: _, [], _, e => nomatch e
  | p :: ps, q :: qs, c, e => by
    simp only [jnOs] at e
    cases k : Nat.beq p.1 q.1 with
    | false => rw [k] at e; cases e
    | true =>
      rw [k] at e
      simp only at e
      cases e1 : jnO p.2 q.2 with
      | none => rw [e1] at e; cases e
      | some o =>
        rw [e1] at e
        simp only at e
        cases e2 : jnOs ps qs with
        | none => rw [e2] at e; cases e
        | some os =>
          rw [e2] at e
          cases e
          have eq := Nat.eq_of_beq_eq_true k
          obtain ⟨i1, i2, at_⟩ := jnOs_ids e2
          refine ⟨congrArg (p.1 :: ·) i1, ?_, fun n u h => ?_⟩
          · rw [List.map_cons, List.map_cons, i2, eq]
          · simp only [getO] at h ⊢
            rw [← eq]
            cases z : Nat.beq p.1 n with
            | true => rw [z] at h; cases h; exact ⟨p.2, q.2, rfl, rfl, e1⟩
            | false => rw [z] at h; exact at_ n u h
theorem jn_hp {a b c : Hpi} (e : jnH a b = some c) : (RelH K T ρ H a → RelH K T ρ H c) ∧ (RelH K T ρ H b → RelH K T ρ H c) := by
  unfold jnH at e
  cases k : Nat.beq a.next b.next with
  | false => rw [k] at e; cases e
  | true =>
    rw [k] at e
    simp only at e
    cases e1 : jnOs a.objs b.objs with
    | none => rw [e1] at e; cases e
    | some os =>
      rw [e1] at e
      cases e
      have eq := Nat.eq_of_beq_eq_true k
      obtain ⟨i1, i2, at_⟩ := jnOs_ids e1
      have srt : ∀ {l : List (Nat × Ob)}, os.map (·.1) = l.map (·.1) → (l.Pairwise fun p q => q.1 < p.1) → os.Pairwise fun p q => q.1 < p.1 := fun {l} e h => by
        have h1 : (l.map (·.1)).Pairwise fun m n => n < m := List.pairwise_map.mpr h
        rw [← e] at h1
        exact List.pairwise_map.mp h1
      constructor
      · intro r
        refine ⟨r.nx, r.inj, r.on, srt i1 r.srt, fun n o h => ?_, r.tb⟩
        obtain ⟨u, v, h1, h2, h3⟩ := at_ n o h
        obtain ⟨lt, x⟩ := r.ob n u h1
        exact ⟨lt, (jn_ob h3).1 x⟩
      · intro r
        refine ⟨eq.trans r.nx, r.inj, r.on, srt i2 r.srt, fun n o h => ?_, r.tb⟩
        obtain ⟨u, v, h1, h2, h3⟩ := at_ n o h
        obtain ⟨lt, x⟩ := r.ob n v h2
        exact ⟨lt, (jn_ob h3).2 x⟩
end
/-! ### leaves -/
def jnR (a b : R) : Option R := match a with
  | .ok w e h => (match b with
    | .ok w' e' h' => (match jnW deep w w' with
      | some w2 => (match opL jnS e e' with
        | some e2 => (match jnH h h' with
          | some h2 => some (.ok w2 e2 h2)
          | Option.none => Option.none)
        | Option.none => Option.none)
      | Option.none => Option.none)
    | _ => Option.none)
  | .ret w h => (match b with
    | .ret w' h' => (match jnW deep w w' with
      | some w2 => (match jnH h h' with
        | some h2 => some (.ret w2 h2)
        | Option.none => Option.none)
      | Option.none => Option.none)
    | _ => Option.none)
  | _ => Option.none
def addL (x : R) : List R → List R
  | [] => [x]
  | y :: ys => match jnR y x with
    | some z => z :: ys
    | Option.none => y :: addL x ys
def lvs (r : R) (acc : List R) : List R := R.rec (motive := fun _ => List R → List R) (fun w e h acc => addL (.ok w e h) acc) (fun w h acc => addL (.ret w h) acc) (fun e h acc => addL (.brk e h) acc) (fun e h acc => addL (.cnt e h) acc) (fun c fs e h acc => addL (.exc c fs e h) acc) (fun acc => addL .bad acc)
  (fun _ _ a b acc => b (a acc)) r acc
def orL : List R → R
  | [] => .bad
  | x :: xs => match xs with
    | [] => x
    | _ :: _ => .or x (orL xs)
def uniq (r : R) : R := match r with
  | .or a b => orL (lvs (.or a b) [])
  | r => r
/-- what may be asked of all ways -/
structure Way (P : R → Prop) : Prop where
  or : ∀ a b, P (.or a b) ↔ P a ∧ P b
  jn : ∀ a b c, jnR a b = some c → P c → P a ∧ P b
section
variable {P : R → Prop}
theorem addL_ok (hw : Way P) {x : R} : ∀ {l : List R}, (∀ y ∈ addL x l, P y) → P x ∧ ∀ y ∈ l, P y
  | [], h => ⟨h x (.head _), fun y hy => nomatch hy⟩
  | y :: ys, h => by
    simp only [addL] at h
    cases e : jnR y x with
    | some z =>
      rw [e] at h
      obtain ⟨a, b⟩ := hw.jn y x z e (h z (.head _))
      refine ⟨b, fun u hu => ?_⟩
      cases hu with
      | head => exact a
      | tail _ hu => exact h u (.tail _ hu)
    | none =>
      rw [e] at h
      obtain ⟨a, b⟩ := addL_ok hw (l := ys) fun u hu => h u (.tail _ hu)
      refine ⟨a, fun u hu => ?_⟩
      cases hu with
      | head => exact h y (.head _)
      | tail _ hu => exact b u hu
theorem lvs_ok (hw : Way P) {r : R} : ∀ {l : List R}, (∀ y ∈ lvs r l, P y) → P r ∧ ∀ y ∈ l, P y := by
  induction r with
  | or a b ia ib =>
    intro l h
    obtain ⟨h1, h2⟩ := ib (l := lvs a l) h
    obtain ⟨h3, h4⟩ := ia h2
    exact ⟨(hw.or a b).mpr ⟨h3, h1⟩, h4⟩
  | _ => intro l h; exact addL_ok hw h
theorem orL_ok (hw : Way P) : ∀ {l : List R}, l ≠ [] → P (orL l) → ∀ y ∈ l, P y
  | [], h, _, _, _ => absurd rfl h
  | [x], _, p, y, hy => by
    cases hy with
    | head => exact p
    | tail _ h => cases h
  | x :: x2 :: xs, _, p, y, hy => by
    obtain ⟨p1, p2⟩ := (hw.or x (orL (x2 :: xs))).mp p
    cases hy with
    | head => exact p1
    | tail _ h => exact orL_ok hw (List.cons_ne_nil _ _) p2 y h
theorem addL_ne {x : R} : ∀ {l : List R}, addL x l ≠ []
  | [] => List.cons_ne_nil _ _
  | y :: ys => by
    simp only [addL]
    cases jnR y x with
    | some z => exact List.cons_ne_nil _ _
    | none => exact List.cons_ne_nil _ _
theorem lvs_ne {r : R} : ∀ {l : List R}, lvs r l ≠ [] := by
  induction r with
  | or a b _ ib => intro l; exact ib (l := lvs a l)
  | _ => intro l; exact addL_ne
theorem uniq_ok (hw : Way P) {r : R} (h : P (uniq r)) : P r := by
  cases r with
  | or a b => exact (lvs_ok hw (orL_ok hw lvs_ne h)).1
  | _ => exact h
end
section
variable {K : PySem.W.Frag} {T : Tab} {ρ : Rho} {H : Hp} {W₀ : WX} {σ : L2.St} {Q : VK} {D : Ends}
theorem jnR_ok {a b c : R} (e : jnR a b = some c) : (∃ w1 w2 w3 e1 e2 e3 h1 h2 h3, a = .ok w1 e1 h1 ∧ b = .ok w2 e2 h2 ∧ c = .ok w3 e3 h3 ∧ jnW deep w1 w2 = some w3 ∧ opL jnS e1 e2 = some e3 ∧ jnH h1 h2 = some h3) ∨
    ∃ w1 w2 w3 h1 h2 h3, a = .ret w1 h1 ∧ b = .ret w2 h2 ∧ c = .ret w3 h3 ∧ jnW deep w1 w2 = some w3 ∧ jnH h1 h2 = some h3 := by
  cases a with
  | ok w1 e1 h1 =>
    cases b with
    | ok w2 e2 h2 =>
      simp only [jnR] at e
      cases z1 : jnW deep w1 w2 with
      | none => rw [z1] at e; cases e
      | some w3 =>
        cases z2 : opL jnS e1 e2 with
        | none => simp only [z1, z2] at e; cases e
        | some e3 =>
          cases z3 : jnH h1 h2 with
          | none => simp only [z1, z2, z3] at e; cases e
          | some h3 =>
            simp only [z1, z2, z3] at e
            cases e
            exact .inl ⟨w1, w2, w3, e1, e2, e3, h1, h2, h3, rfl, rfl, rfl, z1, z2, z3⟩
    | _ => exact nomatch e
  | ret w1 h1 =>
    cases b with
    | ret w2 h2 =>
      simp only [jnR] at e
      cases z1 : jnW deep w1 w2 with
      | none => rw [z1] at e; cases e
      | some w3 =>
        cases z3 : jnH h1 h2 with
        | none => simp only [z1, z3] at e; cases e
        | some h3 =>
          simp only [z1, z3] at e
          cases e
          exact .inr ⟨w1, w2, w3, h1, h2, h3, rfl, rfl, rfl, z1, z3⟩
    | _ => exact nomatch e
  | _ => exact nomatch e
theorem way_E : Way fun r => FinE K T W₀ σ ρ H r Q := ⟨fun _ _ => Iff.rfl, fun a b c e f => by
  rcases jnR_ok e with ⟨w1, w2, w3, e1, e2, e3, h1, h2, h3, rfl, rfl, rfl, z1, z2, z3⟩ | ⟨_, _, _, _, _, _, rfl, rfl, rfl, _, _⟩
  · exact ⟨fun ρ' H' v s r x => f ρ' H' v s ((jn_hp z3).1 r) ((jnW_ok z1 ρ' H' v).1 x), fun ρ' H' v s r x => f ρ' H' v s ((jn_hp z3).2 r) ((jnW_ok z1 ρ' H' v).2 x)⟩
  · exact f.elim⟩
theorem way_S : Way fun r => FinS K T W₀ ρ H r D := ⟨fun _ _ => Iff.rfl, fun a b c e f => by
  rcases jnR_ok e with ⟨w1, w2, w3, e1, e2, e3, h1, h2, h3, rfl, rfl, rfl, z1, z2, z3⟩ | ⟨w1, w2, w3, h1, h2, h3, rfl, rfl, rfl, z1, z3⟩
  · exact ⟨fun ρ' H' σ' s r x => f ρ' H' σ' s ((jn_hp z3).1 r) ((jn_env z2).1 x), fun ρ' H' σ' s r x => f ρ' H' σ' s ((jn_hp z3).2 r) ((jn_env z2).2 x)⟩
  · exact ⟨fun ρ' H' v s r x => f ρ' H' v s ((jn_hp z3).1 r) ((jnW_ok z1 ρ' H' v).1 x), fun ρ' H' v s r x => f ρ' H' v s ((jn_hp z3).2 r) ((jnW_ok z1 ρ' H' v).2 x)⟩⟩
end
section
variable {X : Cx} {T : Tab} {ca : CallT}
/-- fewer ways behind an expression, behind statements -/
def mUniq (a : D) : D := fun ca e h => uniq (a ca e h)
theorem SE.uniq {e : Expr} {d : D} (he : SE T ca X e d) : SE T ca X e (mUniq d) := fun W₀ t => (he W₀ t).weak fun _ _ _ ⟨ρ, e, h, re, rh, f⟩ => ⟨ρ, e, h, re, rh, uniq_ok way_E f⟩
theorem SSs.uniq {l : List Stmt} {d : D} (hs : SSs T ca X l d) : SSs T ca X l (mUniq d) := fun W₀ t => (hs W₀ t).weak fun _ _ _ ⟨ρ, e, h, re, rh, f⟩ => ⟨ρ, e, h, re, rh, uniq_ok way_S f⟩
/-- names that are told no more -/
def frgR (ns : List Nat) (r : R) : R := R.rec (motive := fun _ => R) (fun w e h => wipeK ns e fun e' => .ok w e' h) (fun w h => .ret w h) (fun e h => .brk e h) (fun e h => .cnt e h) (fun c fs e h => .exc c fs e h) .bad (fun _ _ a b => .or a b) r
def mFrg (ns : List Nat) (a : D) : D := fun ca e h => frgR ns (a ca e h)
theorem REnv.less {K : PySem.W.Frag} {ρ : Rho} {H : Hp} {e : List W} {σ : L2.St} (r : REnv K T ρ H e σ) : ∀ ns : List Nat, REnv K T ρ H (wipeW e ns) σ
  | [] => r
  | n :: ns => by
    have q := REnv.less r ns
    show REnv K T ρ H ((wipeW e ns).set n .nul) σ
    refine ⟨by rw [List.length_set]; exact q.len, fun i w h nn => ?_⟩
    by_cases z : n = i
    · subst z
      have lt := (List.getElem?_eq_some_iff.mp h).1
      rw [List.length_set] at lt
      rw [List.getElem?_set_self lt] at h
      cases h
      exact absurd rfl nn
    · rw [List.getElem?_set_ne z] at h
      exact q.at_ i w h nn
theorem SSs.frg {l : List Stmt} {d : D} {ns : List Nat} (hs : SSs T ca X l d) : SSs T ca X l (mFrg ns d) := fun W₀ t => (hs W₀ t).weak fun D σ H ⟨ρ, e, h, re, rh, f⟩ => ⟨ρ, e, h, re, rh, by
  have f' : FinS X.K T W₀ ρ H (frgR ns (d ca e h)) D := f
  generalize d ca e h = r at f' ⊢
  induction r with
  | ok w e1 h1 =>
    have f2 : FinS X.K T W₀ ρ H (wipeK ns e1 fun e' => .ok w e' h1) D := f'
    rw [wipeK_eq] at f2
    exact fun ρ' H' σ' s r x => f2 ρ' H' σ' s r (x.less ns)
  | or a b ia ib => exact ⟨ia f'.1, ib f'.2⟩
  | _ => exact f'⟩
end
end
end VA
set_option Elab.async false
set_option linter.all false
set_option maxRecDepth 100000
set_option maxHeartbeats 8000000
/-! V28: targets; several names at once; enumerate of a list; d.get(k, x). -/
namespace VA
noncomputable section
open PySem PySem.Spec PyProof.Rows L2 Srt
section
variable {X : Cx} {K : PySem.W.Frag} {T : Tab} {ca : CallT} {ρ : Rho} {H : Hp} {h : Hpi}
/-! ### targets -/
theorem SG.name {i : Nat} {x : Str} {pos : Pos} (nd : X.N.Nodup) (at_ : X.N[i]? = some x) (loc : Loc X.env.scope x) (own : X.fn x = true ∨ X.env.scope.names.lookup x = some .local) : SG X (.Name x pos) (.nm i) := pg_name nd at_ loc own
theorem _root_.L2.PGs.less {es : List Expr} {t t' : TGs} (p : PGs X es t) (i : ∀ vs σ H Q, t' vs σ H Q → t vs σ H Q) : PGs X es t' := ⟨fun pins s σ H vs us Q I r q => p.run pins s σ H vs us Q I r (i vs σ H Q q)⟩
theorem names_nil : PGs X [] (gSets []) := pgs_nil.less fun vs σ H Q ⟨len, q⟩ => by
  have e : vs = [] := List.eq_nil_of_length_eq_zero len
  subst e
  exact ⟨rfl, q⟩
theorem names_cons {i : Nat} {is : List Nat} {e : Expr} {es : List Expr} (one : PG X e (gName i)) (more : PGs X es (gSets is)) (sh : (assignEach (e :: es) X.env).map (·.2) = assign e X.env :: (assignEach es X.env).map (·.2)) : PGs X (e :: es) (gSets (i :: is)) :=
  (pgs_cons one more sh).less fun vs σ H Q ⟨len, q⟩ => by
    match vs, len, q with
    | v :: vs, len, q => exact ⟨v, vs, rfl, Nat.succ.inj len, q⟩
theorem SG.tup {es : List Expr} {is : List Nat} {k : Nat} {pos : Pos} (calm : X.calm = true) (all : PGs X es (gSets is)) (len : (assignEach es X.env).length = is.length) (plain : (assignEach es X.env).findIdx? (·.1) = none) : SG X (.Tuple es k pos) (.tp is) := pg_tup calm all len plain
/-! ### a, b = x, y; a, b, c = x, y, z with plain names -/
theorem SS.par2 {i j : Nat} {x y : Str} {a b : Expr} {d : D} {px py pt pt2 pos : Pos} {kt k2 : Nat} (calm : X.calm = true) (nd : X.N.Nodup) (hi : X.N[i]? = some x) (hj : X.N[j]? = some y) (ij : i ≠ j) (lx : X.env.scope.names.lookup x = some .local) (ly : X.env.scope.names.lookup y = some .local) (ha : SA T ca X [a, b] d)
    (swapped : swappedStores [.Tuple [.Name x px, .Name y py] kt pt] (.Tuple [a, b] k2 pt2) X.env = pure (some [x, y])) (sole : swapsWithSole [.Tuple [.Name x px, .Name y py] kt pt] (.Tuple [a, b] k2 pt2) pos.line X.env = pure false) :
    SS T ca X (.Assign [.Tuple [.Name x px, .Name y py] kt pt] (.Tuple [a, b] k2 pt2) pos) (mPar [i, j] d) := fun W₀ t => (ps_par calm nd hi hj ij lx ly (ha W₀ t) swapped sole).weak fun _ _ _ w => t_par2 w
theorem SS.par3 {i j l : Nat} {x y z : Str} {a b c : Expr} {d : D} {px py pz pt pt2 pos : Pos} {kt k2 : Nat} (calm : X.calm = true) (nd : X.N.Nodup) (hi : X.N[i]? = some x) (hj : X.N[j]? = some y) (hl : X.N[l]? = some z) (ij : i ≠ j) (il : i ≠ l) (jl : j ≠ l) (lx : X.env.scope.names.lookup x = some .local)
    (ly : X.env.scope.names.lookup y = some .local) (lz : X.env.scope.names.lookup z = some .local) (ha : SA T ca X [a, b, c] d) (swapped : swappedStores [.Tuple [.Name x px, .Name y py, .Name z pz] kt pt] (.Tuple [a, b, c] k2 pt2) X.env = pure (some [x, y, z]))
    (sole : swapsWithSole [.Tuple [.Name x px, .Name y py, .Name z pz] kt pt] (.Tuple [a, b, c] k2 pt2) pos.line X.env = pure false) :
    SS T ca X (.Assign [.Tuple [.Name x px, .Name y py, .Name z pz] kt pt] (.Tuple [a, b, c] k2 pt2) pos) (mPar [i, j, l] d) := fun W₀ t => (ps_par3 calm nd hi hj hl ij il jl lx ly lz (ha W₀ t) swapped sole).weak fun _ _ _ w => t_par3 w
/-! ### enumerate of a list -/
def enuW : List W → Nat → List W
  | [], _ => []
  | w :: ws, n => .tup [.int (.ofNat n), w] :: enuW ws (n + 1)
theorem enuW_len : ∀ (ws : List W) (n : Nat), (enuW ws n).length = ws.length
  | [], _ => rfl
  | _ :: ws, n => congrArg (· + 1) (enuW_len ws (n + 1))
theorem enuW_at : ∀ {ws : List W} {n i : Nat} {w : W}, (enuW ws n)[i]? = some w → ∃ u, ws[i]? = some u ∧ w = .tup [.int (.ofNat (n + i)), u]
  | [], _, _, _, e => by simp [enuW] at e
  | u :: ws, n, 0, w, e => by cases (show some (W.tup [.int (.ofNat n), u]) = some w from e); exact ⟨u, rfl, rfl⟩
  | _ :: ws, n, i + 1, w, e => by
    obtain ⟨u, h1, h2⟩ := enuW_at (ws := ws) (n := n + 1) (i := i) (by simpa [enuW] using e)
    have z : n + 1 + i = n + (i + 1) := by omega
    rw [z] at h2
    exact ⟨u, (by simpa using h1), h2⟩
theorem beh_enum {a : Addr} {ws : List W} {vs : List V} (st : ∀ (ρ' : Rho) (H' : Hp), StpM ρ H ρ' H' → SqL K H' a vs) (r : RWs K T ρ H ws vs) : Beh K T ρ H (Ite K a) (enuW ws 0) where
  go := fun i ρ' H' lt s => by
    have l1 := r.length
    rw [enuW_len] at lt
    have lt' : i < vs.length := by omega
    exact ⟨vs, vs[i], st ρ' H' s, List.getElem?_eq_getElem lt'⟩
  stop := fun ρ' H' s => ⟨vs, st ρ' H' s, by rw [enuW_len, r.length]; exact Nat.le_refl _⟩
  yld := fun i w ρ' H' h x H'' e s rh y => by
    obtain ⟨p, v, rfl, new, rfl, at_⟩ := y
    obtain ⟨u, h1, rfl⟩ := enuW_at e
    have item : RW K T ρ' H' u v := rws_at (r.stepM s) h1 (at_ vs (st ρ' H' s))
    have both : RWs K T ρ' H' [.int (.ofNat (0 + i)), u] [.int (i : Nat), v] := by
      rw [Nat.zero_add]
      exact .cons (.int _) (.one item)
    exact new_tup rh new both
/-- the same, forced -/
def enuK : List W → Nat → (List W → R) → R
  | [], _, k => k []
  | w :: ws, n, k => sqN n fun m => enuK ws (m + 1) fun r => k (.tup [.int (.ofNat m), w] :: r)
theorem enuK_eq : ∀ (ws : List W) (n : Nat) (k : List W → R), enuK ws n k = k (enuW ws n)
  | [], _, _ => rfl
  | w :: ws, n, k => by simp only [enuK, sqN_eq, enuK_eq ws]; rfl
def enu1 (ws : List W) (e : List W) (h : Hpi) : R := match ws with
  | [w] => (match w with
    | .lst xs => enuK xs 0 fun r => .ok (.lst r) e h
    | .scr xs => enuK xs 0 fun r => .ok (.lst r) e h
    | _ => .bad)
  | _ => .bad
def mIEnu (a : D) : D := fun ca e h => bndA (a ca e h) fun ws h1 => enu1 ws e h1
theorem SI.enum {a : Expr} {d : D} {p pos tpos : Pos} {elts : List Expr} {kk : Nat} (hg : Gl X "enumerate") (hm : X.mg "enumerate" = none) (ha : SA T ca X [a] d) (hs : starEach [a] X.env = [(false, eval a X.env)]) : SI T ca X (.Tuple elts kk tpos) (.Call (.Name "enumerate" p) [a] [] pos) (mIEnu d) := fun W₀ t =>
  (pi_enum hg hm (ha W₀ t) hs).weak fun σ H Rq ⟨ρ, e, h, re, rh, f⟩ => ⟨ρ, e, h, re, rh, (finI_bndA f).imp fun vs H1 ⟨ρ1, ws, h1, s1, rh1, r1, f1⟩ => by
    match ws, r1, f1 with
    | [w], .cons rw' .nil, f1 =>
      cases w with
      | lst xs =>
        cases rw' with
        | lst hA la =>
          have f2 : FinI X.K T W₀ σ ρ1 H1 (enuK xs 0 fun r => .ok (.lst r) e h1) Rq := f1
          rw [enuK_eq] at f2
          exact ⟨_, _, rfl, hA.sq, f2 ρ1 H1 _ (Stp.refl _ _) rh1 (beh_enum (fun _ _ s => (hA.stepM s).sq) la)⟩
      | scr xs =>
        cases rw' with
        | scr hA la =>
          have f2 : FinI X.K T W₀ σ ρ1 H1 (enuK xs 0 fun r => .ok (.lst r) e h1) Rq := f1
          rw [enuK_eq] at f2
          exact ⟨_, _, rfl, hA.sq, f2 ρ1 H1 _ (Stp.refl _ _) rh1 (beh_enum (fun _ _ s => (hA.stepM s).sq) la)⟩
      | _ => exact f1.elim⟩
end
end
end VA
set_option Elab.async false
set_option linter.all false
set_option maxRecDepth 100000
set_option maxHeartbeats 8000000
/-! V29: d.get(k, x) of a dict that never changes. -/
namespace VA
noncomputable section
open L2 PySem PySem.Spec PyProof.Rows Srt
section
variable {X : Cx} {K : PySem.W.Frag} {T : Tab} {ca : CallT} {ρ : Rho} {H : Hp} {h : Hpi}
def getD2 (ks ws : List W) (x y : W) (e : List W) (h : Hpi) : R := match sameG ks x with
  | true => (match hasK ks x with
    | true => opt (lookW ks ws x) e h
    | false => .ok y e h)
  | false => .bad
def ofDct (w : W) (k : List W → List W → R) : R := match w with
  | .dct ks ws => k ks ws
  | _ => .bad
def mGet (o k x : D) : D := fun ca e h => bnd (o ca e h) fun w h1 => ofDct w fun ks ws => bnd (k ca e h1) fun wk h2 => bnd (x ca e h2) fun wx h3 => getD2 ks ws (res h3 wk) wx e h3
theorem dct_there {ks ws : List W} {v : V} (r : RW K T ρ H (.dct ks ws) v) : ∃ a o, v = .ref a ∧ Rd H a o ∧ DctO K T ρ H o ks ws ∧ IsD H a := by
  cases r with
  | dctK f m hk hu r => exact ⟨_, _, rfl, f.rd, .inl ⟨_, _, rfl, hk, hu, r⟩, .inl ⟨_, f.rd⟩⟩
  | dctT f m hk hu r => exact ⟨_, _, rfl, f.rd, .inr ⟨_, _, rfl, hk, hu, r⟩, .inr ⟨_, f.rd⟩⟩
theorem SE.get2 {o k x : Expr} {d1 d2 d3 : D} {apos cpos : Pos} (hu : X.A.units + 1 < cLine) (ho : SE T ca X o d1) (hk : SE T ca X k d2) (hx : SE T ca X x d3) (form : M2 X o "get" apos k x cpos) : SE T ca X (.Call (.Attribute o "get" apos) [k, x] [] cpos) (mGet d1 d2 d3) := fun W₀ t =>
  (pe_dget2 hu (ho W₀ t) (hk W₀ t) (hx W₀ t) form).weak fun σ H Q ⟨ρ, e, h, re, rh, f⟩ => ⟨ρ, e, h, re, rh, (fin_bnd f).imp fun v H1 ⟨ρ1, w, h1, s1, rh1, r1, f1⟩ => by
    cases w with
    | dct ks ws =>
      obtain ⟨a, _, rfl, _, _, isD⟩ := dct_there r1
      refine ⟨a, rfl, isD, ρ1, e, h1, re.step s1, rh1, (fin_bnd (show FinE X.K T W₀ σ ρ1 H1 (bnd (d2 ca e h1) _) Q from f1)).imp fun y H2 ⟨ρ2, wk, h2, s2, rh2, r2, f2⟩ => ?_⟩
      refine ⟨ρ2, e, h2, (re.step s1).step s2, rh2, (fin_bnd f2).imp fun z H3 ⟨ρ3, wx, h3, s3, rh3, r3, f3⟩ => ?_⟩
      obtain ⟨a', o', same, rd, dc, _⟩ := dct_there ((r1.step s2).step s3)
      cases same
      unfold getD2 at f3
      cases g : sameG ks (res h3 wk) with
      | false => rw [g] at f3; exact f3.elim
      | true =>
        rw [g] at f3
        simp only at f3
        obtain ⟨found, ov, there, has⟩ := dget_ok g rd dc (RR.res rh3 (r2.step s3))
        cases b : hasK ks (res h3 wk) with
        | true =>
          rw [b] at f3
          simp only at f3
          cases l : lookW ks ws (res h3 wk) with
          | none => rw [l] at f3; exact f3.elim
          | some u =>
            rw [l] at f3
            obtain ⟨q, dg, rq⟩ := found u l
            exact ⟨some q, dg, f3 ρ3 H3 q (Stp.refl _ _) rh3 rq⟩
        | false =>
          rw [b] at f3 has
          cases ov with
          | some q => cases has
          | none => exact ⟨Option.none, there, f3 ρ3 H3 z (Stp.refl _ _) rh3 r3⟩
    | _ => exact f1.elim⟩
end
end
end VA
set_option Elab.async false
set_option linter.all false
set_option maxRecDepth 100000
set_option maxHeartbeats 8000000
/-! V30: text[c:], c written and not below 0. -/
namespace VA
noncomputable section
open L2 PySem PySem.Spec PyProof.Rows Srt
def dropN : Nat → List Nat → List Nat
  | 0, l => l
  | _ + 1, [] => []
  | n + 1, _ :: l => dropN n l
theorem dropN_eq : ∀ (n : Nat) (l : List Nat), dropN n l = l.drop n
  | 0, _ => rfl
  | _ + 1, [] => rfl
  | n + 1, _ :: l => dropN_eq n l
/-- a text, each sign done at once -/
def frcN : List Nat → (List Nat → R) → R
  | [], k => k []
  | c :: l, k => frcN l fun r => k (c :: r)
theorem frcN_eq : ∀ (l : List Nat) (k : List Nat → R), frcN l k = k l
  | [], _ => rfl
  | c :: l, k => frcN_eq l fun r => k (c :: r)
def fromR (c : Nat) (w : W) (e : List W) (h : Hpi) : R := match w with
  | .str s => (match Nat.ble (lenN s) lim with
    | true => frcN (dropN c s) fun r => .ok (.str r) e h
    | false => .bad)
  | _ => .bad
def mFrom (c : Nat) (a : D) : D := fun ca e h => bnd (a ca e h) fun w h1 => fromR c w e h1
section
variable {X : Cx} {K : PySem.W.Frag} {T : Tab} {ca : CallT} {ρ : Rho} {H : Hp} {h : Hpi}
theorem cut_from (s : List Nat) (c : Nat) : cutS ⟨s.toArray⟩ (some (c : Int)) Option.none = ⟨(s.drop c).toArray⟩ := by
  unfold cutS
  have len : (⟨s.toArray⟩ : Str).length = s.length := str_len s
  simp only [len, HT.sIx_nat, HT.sIx_none]
  by_cases lt : c ≤ s.length
  · rw [Nat.min_eq_left lt]
    show (⟨((s.drop c).take (s.length - c)).toArray⟩ : Str) = _
    rw [List.take_of_length_le (by rw [List.length_drop]; exact Nat.le_refl _)]
  · have e1 : s.drop c = [] := List.drop_eq_nil_of_le (by omega)
    rw [Nat.min_eq_right (by omega), e1, Nat.sub_self, List.take_zero]
theorem SE.from_ {a : Expr} {d : D} {c : Nat} {k : Option Str} {q p2 pos : Pos} {kk : Nat} (ha : SE T ca X a d) : SE T ca X (.Subscript a (.Slice (some (.Constant (.int (c : Int)) kk q)) none none p2) pos) (mFrom c d) := fun W₀ t =>
  (pe_slice sl_str (ha W₀ t) (po_some pe_int) po_none).weak fun σ H Q ⟨ρ, e, h, re, rh, f⟩ => ⟨ρ, e, h, re, rh, (fin_bnd f).imp fun v H1 ⟨ρ1, w, h1, s1, rh1, r1, f1⟩ => by
    cases w with
    | str s =>
      cases r1
      have f2 : FinE X.K T W₀ σ ρ1 H1 (match Nat.ble (lenN s) lim with | true => frcN (dropN c s) fun r => .ok (.str r) e h1 | false => .bad) Q := f1
      rw [lenN_eq] at f2
      cases z : Nat.ble s.length lim with
      | false => rw [z] at f2; exact f2.elim
      | true =>
        rw [z] at f2
        simp only [frcN_eq, dropN_eq] at f2
        refine ⟨(c : Int), rfl, _, rfl, by rw [str_len]; exact Nat.le_trans (Nat.le_of_ble_eq_true z) lim_line, ?_⟩
        rw [cut_from]
        exact f2 ρ1 H1 _ (Stp.refl _ _) rh1 (.str _)
    | _ => exact f1.elim⟩
end
end
end VA
set_option Elab.async false
set_option linter.all false
set_option maxRecDepth 100000
set_option maxHeartbeats 8000000
/-! V31: the loops of a block that makes a dict: one turn, told of any tree behind its tests. -/
namespace VA
noncomputable section
open PySem PySem.Spec PyProof.Rows L2 Srt
/-- one turn; r stands behind the tests -/
def turnOf (e : Expr) (d : Nat) (tg : Expr) (ifs : List Expr) (p : Pos) (it acc : Value) (env : Env) (r : Sem Fin) : Sem Fin :=
  standAt p >>= fun _ => pyNext it >>= fun x => match x with
    | .none => pure (.done .next)
    | .some v => letOwnedTupleGo tg it v >>= fun _ => assign tg env v >>= fun _ =>
      (forIn ifs true fun c b => if b = true then isTrue c env (eval c env) >>= fun k => pure (ForInStep.yield k) else pure (ForInStep.yield b)) >>= fun k => if k = true then r else again (.compLoop e d it acc env)
/-- behind the tests: the loop is gone on with, Nx holds -/
def TurnEnd (B : Cx) (vs : List Nat) (c : Code) (r : Sem Fin) (tb : L2.St → Hp → (Hp → Prop) → Prop) : Prop := ∀ (pins : List (Addr × Obj)) (s : Shared) (σ : L2.St) (H : Hp) (Nx : Hp → Prop), Inv B pins σ H s → tb σ H Nx →
  wpAny (model B.prog B.w) B.A r (fun f s' => f = .again c ∧ ∃ H', Inv B pins (wipe σ vs) H' s' ∧ Nx H') (fun _ _ => False) s
/-- what is wanted of a walk: W holds ahead of a turn -/
def WalkOk (J : It) (g : TG) (tt : TT) (tb : L2.St → Hp → (Hp → Prop) → Prop) (own : List Nat) (σ : L2.St) (W : Nat → Nat → Hp → Prop) (Qe : Hp → Prop) : Prop := ∀ (i m : Nat) (H : Hp), W i m H → (J.stop i H ∧ Qe H) ∨
  (J.go i H ∧ ∃ Nx : Hp → Prop, (∀ H', Nx H' → ∃ m', m' < m ∧ W (i + 1) m' H') ∧ ∀ (x : V) (H' : Hp), J.yld i H x H' → g x (wipe σ own) H' fun σ' H1 => wipe σ' own = wipe σ own ∧ tt σ' H1 fun b H2 => if b = true then tb σ' H2 Nx else Nx H2)
section
variable {B : Cx} {e tg : Expr} {d : Nat} {ifs : List Expr} {p : Pos} {it : Addr} {acc : Value} {r : Sem Fin} {own vs : List Nat} {J : It} {fp : List Addr} {tn : Nat → Heap → Prop} {g : TG} {tt : TT} {tb : L2.St → Hp → (Hp → Prop) → Prop}
  {W : Nat → Nat → Hp → Prop} {Qe : Hp → Prop} {R : Result → Shared → Prop} {pins : List (Addr × Obj)} {σ : L2.St} {H : Hp} {s : Shared}
theorem wipe_sub (sub : ∀ i ∈ vs, i ∈ own) {σ' : L2.St} (h : wipe σ' own = wipe σ own) {j : Nat} {v : V} (q : (wipe σ own)[j]? = some (some v)) : (wipe σ' vs)[j]? = some (some v) := by
  rw [← h] at q
  obtain ⟨q1, q2⟩ := wipe_some q
  rw [wipe_out fun z => q2 (sub j z), q1]
theorem turns (m : Nat) (den : (model B.prog B.w).den (.compLoop e d (.ref it) acc B.env) = (turnOf e d tg ifs p (.ref it) acc B.env r).onRaise fun x => do noteFrame x B.env; theTreesLotGoes x)
    (un : B.A.under (.compLoop e d (.ref it) acc B.env) = B.A) (calm : B.calm = true) (bx : ∀ x s, ¬ B.xe x s) (T : Turn B.prog B.w B.K tg J fp it tn) (pg : PG B tg g) (pt : PTs B ifs tt) (hb : TurnEnd B vs (.compLoop e d (.ref it) acc B.env) r tb) (sub : ∀ i ∈ vs, i ∈ own)
    (wk : WalkOk J g tt tb own σ W Qe) (I : Inv B pins (wipe σ own) H s) (t0 : tn 0 s.heap) (hf : ∀ b ∈ fp, FpOk B pins H b) (w0 : W 0 m H) (fin : ∀ s' H', Inv B pins (wipe σ own) H' s' → Qe H' → R (.ok .next) s') :
    codeAny (model B.prog B.w) B.A (.compLoop e d (.ref it) acc B.env) R s := by
  refine codeAny_loop rfl (fun n s' => ∃ i H', Inv B pins (wipe σ own) H' s' ∧ tn i s'.heap ∧ (∀ b ∈ fp, H' b = none) ∧ W i n H') (fun n s1 ⟨i, H1, I1, t1, n1, w1⟩ => ?_) m ⟨0, H, I, t0, fun b hb => (hf b hb).1, w0⟩
  rw [un, den]
  refine wpAny_noted (wpAny_bind (wpAny_standAt (wpAny_bind ?_)))
  have free : ∀ {G : Hp}, (∀ b ∈ fp, G b = none) → ∀ b ∈ fp, FpOk B pins G b := fun nG b hb => ⟨nG b hb, (hf b hb).2⟩
  rcases wk i n H1 w1 with ⟨stop, q⟩ | ⟨go, Nx, more, step⟩
  · refine wpAny_mono (T.done B rfl rfl rfl calm i pins s1 _ H1 (fun _ _ => False) I1 (free n1) t1 stop) ?_ fun _ _ z => z.elim
    rintro a s2 ⟨rfl, I2⟩
    exact wpAny_pure (fin s2 H1 I2 q)
  · refine wpAny_mono (T.item B rfl rfl rfl calm i pins s1 _ H1 (fun _ _ => False) I1 (free n1) t1 go) ?_ fun _ _ z => z.elim
    rintro a s2 ⟨u, rfl, h2⟩
    refine wpAny_bind (wpAny_mono h2 ?_ fun _ _ z => z.elim)
    rintro _ s3 ⟨x, H3, I3, r3, y3, t3, n3⟩
    have P3 := I3.pinned (free n3) (T.obj _ _ t3)
    refine wpAny_bind (wpAny_mono (pg.run _ s3 _ H3 x u _ P3 r3 (step x H3 y3)) ?_ fun a s z => (bx a s z).elim)
    rintro _ s4 ⟨σ4, H4, I4, w4, q4⟩
    refine wpAny_bind (wpAny_mono (pt.run _ s4 σ4 H4 _ I4 q4) ?_ fun a s z => (bx a s z).elim)
    rintro k s5 ⟨H5, I5, q5⟩
    -- the turn is over
    have over : ∀ {σ6 : L2.St} {s6 : Shared} {H6 : Hp}, Inv B (pins ++ pinsAt fp s3.heap) σ6 H6 s6 → σ6.length = (wipe σ own).length → (∀ (j : Nat) (v : V), (wipe σ own)[j]? = some (some v) → σ6[j]? = some (some v)) → Nx H6 →
        ∃ m', m' < n ∧ ∃ i' H', Inv B pins (wipe σ own) H' s6 ∧ tn i' s6.heap ∧ (∀ b ∈ fp, H' b = none) ∧ W i' m' H' := by
      intro σ6 s6 H6 I6 len know nx
      obtain ⟨m', lt, w6⟩ := more H6 nx
      have held : ∀ b ∈ fp, ∀ o, s3.heap.get? b = some o → s6.heap.get? b = some o ∧ H6 b = none := fun b hb o z => by
        have h := I6.pin (b, o) (List.mem_append_right _ (List.mem_append_right _ (mem_pinsAt hb z)))
        exact ⟨h.1, h.2.1⟩
      refine ⟨m', lt, i + 1, H6, (I6.unpinned (pins := pins)).weak len.symm know, T.keep _ _ _ t3 fun b hb o z => (held b hb o z).1, fun b hb => ?_, w6⟩
      obtain ⟨o, z, _⟩ := T.obj _ _ t3 b hb
      exact (held b hb o z).2
    cases k with
    | false =>
      refine wpAny_pure ⟨rfl, over I5 ?_ (fun j v z => ?_) q5⟩
      · rw [← w4, wipe_length]
      · rw [← w4] at z
        exact (wipe_some z).1
    | true =>
      refine wpAny_mono (hb _ s5 σ4 H5 Nx I5 q5) ?_ fun _ _ z => z.elim
      rintro f s6 ⟨rfl, H6, I6, nx⟩
      refine ⟨rfl, over I6 ?_ (fun j v z => wipe_sub sub w4 z) nx⟩
      rw [← w4, wipe_length, wipe_length]
end
end
end VA
set_option Elab.async false
set_option linter.all false
set_option maxRecDepth 100000
set_option maxHeartbeats 8000000
/-! V32: dict comprehensions of one clause and of two, keys of either kind. -/
namespace VA
noncomputable section
open PySem PySem.Spec PyProof.Rows L2 Srt
section
variable {X : Cx} {pins : List (Addr × Obj)} {σ : L2.St} {H : Hp} {s : Shared} {E : Value → Shared → Prop} {A : Addr}
/-- an empty dict, read as one of tuples -/
theorem inv_asT (I : Inv X pins σ H s) (e : H A = some (.dK [])) : Inv X pins σ (upd H A (.dT [])) s := by
  obtain ⟨_, nm, vs, rel, o, es, ep, g1, g2, g3, _, g5, _⟩ := dk_of I.hok e
  cases rel
  have none_left : es.toList = [] := by
    match q : es.toList, g5 with
    | [], _ => rfl
    | _ :: _, z => cases z
  have new : ObjOk X.prog X.w (upd H A (.dT [])) s.heap A (.dT []) := ⟨Nat.zero_le _, nm, [], .nil, o, es, ep, g1, g2, g3, none_left, List.nodup_nil⟩
  exact d_write (h' := s.heap) (t' := s.toks) I (by rw [e]; trivial) ⟨rfl, fun _ _ => rfl⟩ ⟨o, g1⟩ new
/-- a comprehension's store, the key a tuple -/
theorem dset_t {b : Addr} {kvs : List (List Key × V)} {k : List Key} {z : V} {uz : Value} {Q : Unit → Shared → Prop} (hu : X.A.units + 1 < cLine) (I : Inv X pins σ H s) (e : H A = some (.dT kvs)) (eb : H b = some (.tup (k.map kV))) (hl : kvs.length < sizeLine) (rz : RelV z uz)
    (h : ∀ s', Inv X pins σ (upd H A (.dT (putK kvs k z))) s' → Q () s') : wpAny (model X.prog X.w) X.A (dictSet A (.ref b) uz) Q E s := by
  obtain ⟨_, nm, xs, rel, dd⟩ := dt_of I.hok e
  have small : xs.length ≤ sizeLine := by
    rw [← Paired.length rel]
    exact Nat.le_of_lt hl
  have room : (tupleKind (mixKind X.prog X.w)).room X.A := Nat.lt_of_succ_lt hu
  refine wpAny_dictSet_heap (hsz := small) room (key_of I.hok eb) dd fun h' there same => h _ ?_
  obtain ⟨q, es, ep, p1, p2, p3, p4, _, p6⟩ := there
  have len : (putK kvs k z).length ≤ sizeLine := Nat.le_trans (length_putK kvs k z) hl
  have rel' := (rel.put k eb rz).keeps (H' := upd H A (.dT (putK kvs k z))) fun c ys ec => by
    have away : c ≠ A := ne_of ec e (fun y => nomatch y)
    rw [upd_ne away]; exact ec
  exact d_write I (by rw [e]; trivial) same ⟨q, p1⟩ ⟨len, nm, _, rel', q, es, ep, p1, p2, p3, p4, p6⟩
theorem dset_ok {y z : V} {uy uz : Value} {Nx : Hp → Prop} (hu : X.A.units + 1 < cLine) (I : Inv X pins σ H s) (ry : RelV y uy) (rz : RelV z uz) (h : rSetDD (.ref A) y z H Nx) : wpAny (model X.prog X.w) X.A (dictSet A uy uz) (fun _ s' => ∃ H', Inv X pins σ H' s' ∧ Nx H') E s := by
  rcases h with ⟨a, H', ea, g, nx⟩ | ⟨a, b, k, ea, e, ey, eb, nx⟩
  · cases ea
    rcases g with ⟨kvs, k, e, ey, l, rfl⟩ | ⟨kvs, k, b, e, ey, eb, l, rfl⟩
    · subst ey
      exact d_dictSet I e l ry rz fun s' I' => ⟨_, I', nx⟩
    · subst ey
      cases ry
      exact dset_t hu I e eb l rz fun s' I' => ⟨_, I', nx⟩
  · cases ea
    subst ey
    cases ry
    have away : b ≠ A := ne_of eb e (fun y => nomatch y)
    refine dset_t hu (inv_asT I e) upd_same (by rw [upd_ne away]; exact eb) (by rw [sizeLine_eq]; decide) rz fun s' I' => ⟨_, ?_, nx⟩
    rw [upd_upd] at I'
    exact I'
end
abbrev blkEnv (X : Cx) (s : Shared) (scope : Scope) : Env := compEnvC scope (cellsFrom (s.heap.objs.size + 1) scope.names (cloFrom X.env.cells scope.names [])) s.heap.objs.size X.env
/-- a dict's comprehension, its value used or stored: t says what is wanted of it -/
structure DcEnt (X : Cx) (e it : Expr) (scope : Scope) (t : TE) : Prop where
  run : ∀ (pins : List (Addr × Obj)) (s : Shared) (σ : L2.St) (H : Hp) (Q : VK) (pos : Pos) (use : Option (Value → Sem Unit)) (Qf : Value → Shared → Prop), Inv X pins σ H s → t σ H Q →
    (∀ A C s' m H', Inv X pins σ H' s' → Q (.ref A) H' → s'.heap.Ns C m → FpOk X pins H' C → compPost (model X.prog X.w) X.A X.xe use Qf (.ref A) C (.ok .next) s') → wpAny (model X.prog X.w) X.A (comprehension e scope X.env pos newDict false (eval it X.env) use) Qf X.xe s
/-- a block is begun: st is told of its new dict -/
theorem dc_enter {X : Cx} {pins : List (Addr × Obj)} {s : Shared} {σ : L2.St} {H : Hp} {Q : VK} {kx vx tg iter : Expr} {ifs : List Expr} {rest : List Comprehension} {scope : Scope} {own : List (Str × Nat)} {pos : Pos} {wi : TI} {st : It → Hp → Addr → Prop} {pos' : Pos} {use : Option (Value → Sem Unit)} {Qf : Value → Shared → Prop} (calm : X.calm = true) (hN : X.N.Nodup) (pi : PI X tg iter wi) (ok : BlkOk X.N X.env.scope scope own)
    (hs : ∀ x, foldedSetIterable iter X.env x = pure x)
    (go : ∀ (s3 : Shared) (H3 : Hp) (fp : List Addr) (it A : Addr) (tn : Nat → Heap → Prop) (J : It) (s4 : Shared) (R : Result → Shared → Prop), Inv (X.blk s3 H3 scope (blkEnv X s3 scope) fp) [] (wipe σ (own.map (·.2))) H3 s4 → Turn X.prog X.w X.K tg J fp it tn → tn 0 s4.heap →
      (∀ b ∈ fp, FpOk (X.blk s3 H3 scope (blkEnv X s3 scope) fp) [] H3 b) → st J H3 A → (∀ s' H', Inv (X.blk s3 H3 scope (blkEnv X s3 scope) fp) [] (wipe σ (own.map (·.2))) H' s' → Q (.ref A) H' → R (.ok .next) s') →
      codeAny (model X.prog X.w) X.A (.compLoop (.DictComp kx vx (⟨tg, iter, ifs, 0⟩ :: rest) scope pos) 0 (.ref it) (.ref A) (blkEnv X s3 scope)) R s4)
    (I : Inv X pins σ H s) (h : wi σ H fun J H1 => ∀ A, H1 A = none → st J (upd H1 A (.dK [])) A)
    (post : ∀ A C s' m H', Inv X pins σ H' s' → Q (.ref A) H' → s'.heap.Ns C m → FpOk X pins H' C → compPost (model X.prog X.w) X.A X.xe use Qf (.ref A) C (.ok .next) s') :
    wpAny (model X.prog X.w) X.A (comprehension (.DictComp kx vx (⟨tg, iter, ifs, 0⟩ :: rest) scope pos) scope X.env pos' newDict false (eval iter X.env) use) Qf X.xe s := by
  have cells : ∀ y ∈ scope.names, y.2 = .free → ∃ c, X.env.cells.lookup y.1 = some c := fun y hy e => I.ok.has _ ((ok.free y hy e).elim .inl .inr)
  refine wpAny_comprehension_free (use := use) rfl hs (closure_ok cells) ok.kind (fun y hy e => (ok.uniq y hy).trans (by rw [e])) ?_
  refine thn (pi.run pins s σ H _ I h) fun xv s1 hx => thn hx ?_
  rintro _ s2 ⟨it, fp, tn, J, H2, rfl, I2, T, t2, f2, q⟩
  -- the dict's own place
  have none2 : H2 s2.heap.objs.size = none := I2.hok.fresh (Nat.le_refl _)
  have stA := q s2.heap.objs.size none2
  refine wpAny_newObj_type (hd := by size_fits) (newEnv_comp ?_)
  have I3 : Inv X pins σ (upd H2 s2.heap.objs.size (.dK [])) { s2 with heap := s2.heap.push { cls := .type "dict", data := .dict #[] } } :=
    I2.laid (t' := s2.toks) (fun b o z => Heap.get?_push_of_some _ z) (Nat.le_refl _) (dk_empty s2.heap I2.big)
  have low : ∀ b ∈ fp, b < s2.heap.objs.size := fun b hb => by
    obtain ⟨o, z, _⟩ := T.obj _ _ t2 b hb
    exact Heap.lt_size z
  generalize hA : s2.heap.objs.size = A at stA I3 none2 low ⊢
  generalize hs3 : ({ s2 with heap := s2.heap.push { cls := .type "dict", data := .dict #[] } } : Shared) = s3 at I3
  have size3 : s3.heap.objs.size = A + 1 := by rw [← hs3, ← hA]; exact Heap.size_push ..
  have f3 : ∀ b ∈ fp, FpOk X pins (upd H2 A (.dK [])) b ∧ b < s3.heap.objs.size := fun b hb => by
    have lt := low b hb
    refine ⟨⟨?_, (f2 b hb).2⟩, by rw [size3]; exact Nat.lt_succ_of_lt lt⟩
    rw [upd_ne (Nat.ne_of_lt lt)]; exact (f2 b hb).1
  have t3 : tn 0 s3.heap := T.keep _ _ _ t2 fun b _ o z => by rw [← hs3]; exact Heap.get?_push_of_some _ z
  have I4 := block_start (fp := fp) I3 ok hN f3
  have t4 : tn 0 (pushCells (s3.heap.push { cls := .type "dict", data := .dict #[] }) scope.names) := T.keep _ _ _ t3 fun b _ o z => pushCells_keeps _ _ _ _ (Heap.get?_push_of_some _ z)
  have fB : ∀ b ∈ fp, FpOk (X.blk s3 (upd H2 A (.dK [])) scope (blkEnv X s3 scope) fp) [] (upd H2 A (.dK [])) b := fun b hb =>
    ⟨(f3 b hb).1.1, (I4.ok.exf b hb).1, I4.ok.exfs b hb, .inl hb, fun x c z => (I4.ok.exf b hb).2 x c z, fun p hp => by cases (show p ∈ ([] : List (Addr × Obj)) from hp)⟩
  have away : (upd H2 A (.dK [])) s3.heap.objs.size = none := I3.hok.fresh (Nat.le_refl _)
  have loop := go s3 _ fp it A tn J _ (compPost (model X.prog X.w) X.A X.xe use Qf (.ref A) s3.heap.objs.size) I4 T t4 fB stA fun s' H' I' q' => by
    have back : Inv X pins σ H' s' := I3.call' (ch := fp) I'.os I'.base I'.hok I'.bare fun b hb => ⟨(f3 b hb).1.2.2.2.1, (f3 b hb).1.2.1, (f3 b hb).1.2.2.2.2.1, (f3 b hb).1.2.2.2.2.2⟩
    have noC : H' s3.heap.objs.size = none := I'.free
    obtain ⟨m, ns, _⟩ := I'.loc
    exact post A _ s' m H' back q' ns (I3.fpOk (Nat.le_refl _) noC)
  have code := codeAny_compStart_dict loop (T.self X.A 0 _ _ _ t4 loop)
  subst hs3
  exact code
end
end VA
set_option Elab.async false
set_option linter.all false
set_option maxRecDepth 100000
set_option maxHeartbeats 8000000
/-! V33: readings and rules of dict comprehensions. -/
namespace VA
noncomputable section
open PySem PySem.Spec PyProof.Rows L2 Srt
abbrev ownIx (own : List (Str × Nat)) : List Nat := own.map (·.2)
/-- a turn's pair goes into the dict at A -/
def tbD (tk tv : TE) (A : Addr) : L2.St → Hp → (Hp → Prop) → Prop := fun σ H Nx => tk σ H fun y H1 => tv σ H1 fun z H2 => rSetDD (.ref A) y z H2 Nx
/-- a turn has a walk of its own -/
def tbI (wi1 : TI) (g1 : TG) (tt1 : TT) (tk tv : TE) (vs1 : List Nat) (A : Addr) : L2.St → Hp → (Hp → Prop) → Prop := fun σ H Nx => wi1 σ H fun J H1 => ∃ W : Nat → Nat → Hp → Prop, (∃ m, W 0 m H1) ∧ WalkOk J g1 tt1 (tbD tk tv A) vs1 σ W Nx
def tDcI (wi : TI) (g : TG) (tt : TT) (wi1 : TI) (g1 : TG) (tt1 : TT) (tk tv : TE) (own vs1 : List Nat) : TE := fun σ H Q => wi σ H fun J H1 => ∀ A : Addr, H1 A = none →
  ∃ W : Nat → Nat → Hp → Prop, (∃ m, W 0 m (upd H1 A (.dK []))) ∧ WalkOk J g tt (tbI wi1 g1 tt1 tk tv vs1 A) own σ W fun H' => Q (.ref A) H'
section
variable {B : Cx} {c : Code} {A : Addr}
theorem end_put {kx vx : Expr} {tk tv : TE} {p : Pos} (hu : B.A.units + 1 < cLine) (bx : ∀ x s, ¬ B.xe x s) (pk : PE B kx tk) (pv : PE B vx tv) :
    TurnEnd B [] c ((eval kx B.env >>= fun y => holding [y] (eval vx B.env) >>= fun z => standAt p >>= fun _ => holding [y, z] (dictSet A y z)) >>= fun _ => again c) (tbD tk tv A) := by
  intro pins s σ H Nx I q
  refine wpAny_bind (wpAny_bind (wpAny_mono (pk.run pins s σ H _ I q) ?_ fun a s z => (bx a s z).elim))
  rintro uy s1 ⟨y, H1, I1, ry, q1⟩
  refine wpAny_bind (wpAny_holding (wpAny_mono (pv.run pins s1 σ H1 _ I1 q1) ?_ fun a s z => (bx a s z).elim))
  rintro uz s2 ⟨z, H2, I2, rz, q2⟩
  refine wpAny_bind (wpAny_standAt (wpAny_holding (wpAny_mono (dset_ok hu I2 ry rz q2) ?_ fun _ _ z => z)))
  rintro _ s3 ⟨H3, I3, nx⟩
  exact wpAny_pure ⟨rfl, H3, I3, nx⟩
end
/-- the second clause's loop is begun -/
theorem dc_inner {prog : Program} {w : World} {A : Around} {R : Result → Shared → Prop} {s : Shared} {kx vx tg it0 tg1 it1 : Expr} {ifs ifs1 : List Expr} {scope : Scope} {pos : Pos} {it acc : Value} {env : Env}
    (now : codeAny (model prog w) A (.compLoop (.DictComp kx vx [⟨tg, it0, ifs, 0⟩, ⟨tg1, it1, ifs1, 0⟩] scope pos) 1 it acc env) R s)
    (twice : wpAny (model prog w) A (pyIter it) (fun v s' => codeAny (model prog w) A (.compLoop (.DictComp kx vx [⟨tg, it0, ifs, 0⟩, ⟨tg1, it1, ifs1, 0⟩] scope pos) 1 v acc env) R s') (notedBy (model prog w) A env fun x s' => R (.error x) s') s) :
    codeAny (model prog w) A (.compStart (.DictComp kx vx [⟨tg, it0, ifs, 0⟩, ⟨tg1, it1, ifs1, 0⟩] scope pos) 1 it acc env) R s := by
  apply codeAny_of_tree
  have tree : ∀ c : Code, c = .compStart (.DictComp kx vx [⟨tg, it0, ifs, 0⟩, ⟨tg1, it1, ifs1, 0⟩] scope pos) 1 it acc env → (model prog w).den c = (compStart (.DictComp kx vx [⟨tg, it0, ifs, 0⟩, ⟨tg1, it1, ifs1, 0⟩] scope pos) 1 it acc env).onRaise (fun x => do noteFrame x env; standAt theWindowsPlace) := fun c ec => by
    subst ec; rfl
  rw [tree _ rfl]
  refine wpAny_notedAt ?_
  unfold compStart
  show wpAny _ _ (ask >>= _) _ _ _
  refine wpAny_bind (m := ask) (wpAny_askSetting (wpAny_ite ?_))
  split
  · exact wpAny_pure ⟨rfl, now⟩
  · next =>
    refine wpAny_bind (m := rule _) (wpAny_rule ?_)
    show wpAny _ _ (standAt it1.pos >>= _) _ _ _
    refine wpAny_bind (wpAny_standAt (wpAny_bind (wpAny_mono twice ?_ fun _ _ x => x)))
    exact fun v s' h' => wpAny_pure ⟨rfl, h'⟩
section
variable {B : Cx} {A : Addr}
theorem end_walk {kx vx tg it0 tg1 it1 : Expr} {ifs ifs1 : List Expr} {scope : Scope} {pos : Pos} {it : Addr} {wi1 : TI} {g1 : TG} {tt1 : TT} {tk tv : TE} {vs1 : List Nat} (hu : B.A.units + 1 < cLine) (calm : B.calm = true) (bx : ∀ x s, ¬ B.xe x s) (pi1 : PI B tg1 it1 wi1) (pg1 : PG B tg1 g1) (pt1 : PTs B ifs1 tt1) (pk : PE B kx tk) (pv : PE B vx tv)
    (hs : ∀ x, foldedSetIterable it1 B.env x = pure x) :
    TurnEnd B vs1 (.compLoop (.DictComp kx vx [⟨tg, it0, ifs, 0⟩, ⟨tg1, it1, ifs1, 0⟩] scope pos) 0 (.ref it) (.ref A) B.env)
      (eval it1 B.env >>= fun x => standAt it1.pos >>= fun _ => foldedSetIterable it1 B.env x >>= fun y => holding [y] (pyIter y) >>= fun i => runOwn (.compStart (.DictComp kx vx [⟨tg, it0, ifs, 0⟩, ⟨tg1, it1, ifs1, 0⟩] scope pos) 1 i (.ref A) B.env) B.env >>= fun _ =>
        again (.compLoop (.DictComp kx vx [⟨tg, it0, ifs, 0⟩, ⟨tg1, it1, ifs1, 0⟩] scope pos) 0 (.ref it) (.ref A) B.env)) (tbI wi1 g1 tt1 tk tv vs1 A) := by
  intro pins s σ H Nx I q
  refine wpAny_bind (wpAny_mono (pi1.run pins s σ H _ I q) ?_ fun a s z => (bx a s z).elim)
  intro x s1 h1
  refine wpAny_bind (wpAny_standAt (wpAny_bind (wpAny_of_eq (hs x) (wpAny_bind (wpAny_holding (wpAny_mono h1 ?_ fun a s z => (bx a s z).elim))))))
  rintro _ s2 ⟨i1, fp1, tn1, J1, H2, rfl, I2, T1, t2, f2, W1, ⟨m1, w1⟩, wk1⟩
  have loop := turns (R := fun r s' => match r with
      | .ok _ => ∃ H', Inv B pins (wipe σ vs1) H' s' ∧ Nx H'
      | .error _ => False) (e := .DictComp kx vx [⟨tg, it0, ifs, 0⟩, ⟨tg1, it1, ifs1, 0⟩] scope pos) (d := 1) (p := it1.pos) (acc := .ref A) m1 rfl rfl calm bx T1 pg1 pt1 (end_put hu bx pk pv) (fun _ h => nomatch h) wk1 (I2.weak (wipe_length _ _) fun j v z => (wipe_some z).1) t2 f2 w1 fun s' H' I' nx => ⟨H', I', nx⟩
  refine wpAny_bind (m := runOwn _ _) (wpAny_runOwn ?_)
  rw [Around.mark_none]
  refine codeAny_mono (dc_inner loop (T1.self B.A 0 _ _ _ t2 loop)) fun r s' hr => ?_
  cases r with
  | error _ => exact hr.elim
  | ok f => exact wpAny_pure ⟨rfl, hr⟩
end
section
variable {X : Cx} {T : Tab} {ca : CallT}
theorem pe_ent {X : Cx} {kx vx it : Expr} {tg : Expr} {ifs : List Expr} {rest : List Comprehension} {scope : Scope} {pos : Pos} {t : TE} (n : DcEnt X (.DictComp kx vx (⟨tg, it, ifs, 0⟩ :: rest) scope pos) it scope t) : PE X (.DictComp kx vx (⟨tg, it, ifs, 0⟩ :: rest) scope pos) t := by
  refine ⟨fun pins s σ H Q I h => ?_⟩
  rw [arm_eval_DictComp]
  refine n.run pins s σ H Q _ none _ I h fun A C s' m H' I' q ns fp => ⟨m, ns, fun h'' same => ⟨.ref A, H', ?_, rfl, q⟩⟩
  obtain ⟨k0, k1, k2, k3, k4, k5⟩ := fp
  exact I'.turned (t' := s'.toks) (fun b o nb z => (same.2 b nb).trans z) k0 k1 k3 k4 k5
theorem ent_dc {kx vx tg it : Expr} {ifs : List Expr} {scope : Scope} {own : List (Str × Nat)} {pos : Pos} {wi : TI} {g : Tg} {dt dk dv : D} (hu : X.A.units + 1 < cLine) (calm : X.calm = true) (hN : X.N.Nodup) (ok : BlkOk X.N X.env.scope scope own) (hi : PI X tg it wi)
    (hg : BlkC X scope fun B => SG B tg g) (ht : BlkC X scope fun B => STs T ca B ifs dt) (hk : BlkC X scope fun B => SE T ca B kx dk) (hv : BlkC X scope fun B => SE T ca B vx dv) (hs : ∀ x, foldedSetIterable it X.env x = pure x) :
    DcEnt X (.DictComp kx vx [⟨tg, it, ifs, 0⟩] scope pos) it scope (tDcW wi (tG X.K g) (tT X.K T ca noW dt) (tE X.K T ca noW dk) (tE X.K T ca noW dv) (own.map (·.2))) := by
  refine ⟨fun pins s σ H Q p use Qf I h post => ?_⟩
  refine dc_enter (st := fun J H1 A => ∃ W : Nat → Nat → Hp → Prop, (∃ m, W 0 m H1) ∧ WalkOk J (tG X.K g) (tT X.K T ca noW dt) (tbD (tE X.K T ca noW dk) (tE X.K T ca noW dv) A) (ownIx own) σ W fun H' => Q (.ref A) H') calm hN hi ok hs ?_ I h post
  rintro s3 H3 fp i A tn J s4 R I4 tu t4 f4 ⟨W, ⟨n, w0⟩, wk⟩ fin
  exact turns (B := X.blk s3 H3 scope (blkEnv X s3 scope) fp) (vs := []) n rfl rfl calm (fun _ _ z => z) tu (hg s3 H3 _ _ fp) (ht s3 H3 _ _ fp noW noTk) (end_put (B := X.blk s3 H3 scope (blkEnv X s3 scope) fp) hu (fun _ _ z => z) (hk s3 H3 _ _ fp noW noTk) (hv s3 H3 _ _ fp noW noTk)) (fun _ h => nomatch h) wk I4 t4 f4 w0 fin
theorem SE.dc {m : Bool} {kx vx tg it : Expr} {ifs : List Expr} {scope : Scope} {own : List (Str × Nat)} {pos : Pos} {g : Tg} {di dt dk dv : D} (hu : X.A.units + 1 < cLine) (calm : X.calm = true) (hN : X.N.Nodup) (ok : BlkOk X.N X.env.scope scope own) (hgo : ∀ i ∈ tgs g, i ∈ own.map (·.2)) (hi : SI T ca X tg it di)
    (hg : BlkC X scope fun B => SG B tg g) (ht : BlkC X scope fun B => STs T ca B ifs dt) (hk : BlkC X scope fun B => SE T ca B kx dk) (hv : BlkC X scope fun B => SE T ca B vx dv) (hs : ∀ x, foldedSetIterable it X.env x = pure x) : SE T ca X (.DictComp kx vx [⟨tg, it, ifs, 0⟩] scope pos) (mDc m (own.map (·.2)) g di dt dk dv) := fun W₀ t =>
  (pe_m m (pe_ent (ent_dc hu calm hN ok (hi W₀ t) hg ht hk hv hs))).weak fun _ _ _ h => t_dc hgo h
theorem ent_dcI {kx vx tg it tg1 it1 : Expr} {ifs ifs1 : List Expr} {scope : Scope} {own : List (Str × Nat)} {vs1 : List Nat} {pos : Pos} {wi : TI} {g g1 : Tg} {di1 dt dt1 dk dv : D} (hu : X.A.units + 1 < cLine) (calm : X.calm = true) (hN : X.N.Nodup) (ok : BlkOk X.N X.env.scope scope own) (sub : ∀ i ∈ vs1, i ∈ own.map (·.2)) (hi : PI X tg it wi)
    (hg : BlkC X scope fun B => SG B tg g) (ht : BlkC X scope fun B => STs T ca B ifs dt) (hi1 : BlkC X scope fun B => SI T ca B tg1 it1 di1) (hg1 : BlkC X scope fun B => SG B tg1 g1) (ht1 : BlkC X scope fun B => STs T ca B ifs1 dt1) (hk : BlkC X scope fun B => SE T ca B kx dk) (hv : BlkC X scope fun B => SE T ca B vx dv)
    (hs : ∀ x, foldedSetIterable it X.env x = pure x) (hs1 : ∀ env x, foldedSetIterable it1 env x = pure x) : DcEnt X (.DictComp kx vx [⟨tg, it, ifs, 0⟩, ⟨tg1, it1, ifs1, 0⟩] scope pos) it scope
      (tDcI wi (tG X.K g) (tT X.K T ca noW dt) (tI X.K T ca noW di1) (tG X.K g1) (tT X.K T ca noW dt1) (tE X.K T ca noW dk) (tE X.K T ca noW dv) (own.map (·.2)) vs1) := by
  refine ⟨fun pins s σ H Q p use Qf I h post => ?_⟩
  refine dc_enter (st := fun J H1 A => ∃ W : Nat → Nat → Hp → Prop, (∃ m, W 0 m H1) ∧ WalkOk J (tG X.K g) (tT X.K T ca noW dt) (tbI (tI X.K T ca noW di1) (tG X.K g1) (tT X.K T ca noW dt1) (tE X.K T ca noW dk) (tE X.K T ca noW dv) vs1 A) (ownIx own) σ W fun H' => Q (.ref A) H') calm hN hi ok hs ?_ I h post
  rintro s3 H3 fp i A tn J s4 R I4 tu t4 f4 ⟨W, ⟨n, w0⟩, wk⟩ fin
  exact turns (B := X.blk s3 H3 scope (blkEnv X s3 scope) fp) (vs := vs1) n rfl rfl calm (fun _ _ z => z) tu (hg s3 H3 _ _ fp) (ht s3 H3 _ _ fp noW noTk)
    (end_walk (B := X.blk s3 H3 scope (blkEnv X s3 scope) fp) hu calm (fun _ _ z => z) (hi1 s3 H3 _ _ fp noW noTk) (hg1 s3 H3 _ _ fp) (ht1 s3 H3 _ _ fp noW noTk) (hk s3 H3 _ _ fp noW noTk) (hv s3 H3 _ _ fp noW noTk) (hs1 _)) sub wk I4 t4 f4 w0 fin
end
end
end VA
set_option Elab.async false
set_option linter.all false
set_option maxRecDepth 100000
set_option maxHeartbeats 8000000
/-! V34: dict comprehensions of two clauses. -/
namespace VA
noncomputable section
open PySem PySem.Spec PyProof.Rows L2 Srt
def dcM (g : Tg) (ts it1 : D) (vs1 : List Nat) (g1 : Tg) (ts1 kx vx : D) (ca : CallT) : List W → List W → Hpi → List W → List W → (List W → List W → Hpi → R) → R
  | [], _, h, ks, vs, k => k ks vs h
  | w :: l, e, h, ks, vs, k => bindG g w e fun e1 => bndTC (ts ca e1 h) fun b h1 => match b with
    | false => dcM g ts it1 vs1 g1 ts1 kx vx ca l e h1 ks vs k
    | true => bndIC (it1 ca e1 h1) fun l1 h2 => wipeK vs1 e1 fun e2 => dcL g1 ts1 kx vx ca l1 e2 h2 ks vs fun ks' vs' h3 => dcM g ts it1 vs1 g1 ts1 kx vx ca l e h3 ks' vs' k
def mDc2 (m : Bool) (own vs1 : List Nat) (g : Tg) (it ts : D) (g1 : Tg) (it1 ts1 kx vx : D) : D := fun ca e h => bndI (it ca e h) fun ws h1 => wipeK own e fun e0 => dcM g ts it1 vs1 g1 ts1 kx vx ca ws e0 h1 [] [] fun ks vs h2 => mkD m ks vs e h2
section
variable {X : Cx} {T : Tab} {ca : CallT} {W₀ : WX} {σ0 σ : L2.St} {Q : VK} {A : Addr}
theorem REnv.stepX {P : Addr → Prop} {K : PySem.W.Frag} {ρ ρ' : Rho} {H H' : Hp} {e : List W} {σ : L2.St} (r : REnv K T ρ H e σ) (s : StpX P ρ H ρ' H') (hP : ∀ a, P a → ρ.mu a) : REnv K T ρ' H' e σ :=
  ⟨r.len, fun i w e1 n1 => let ⟨v, e2, q⟩ := r.at_ i w e1 n1; ⟨v, e2, RW.stepX s hP q⟩⟩
/-- a dict that is being made at A, told from the world ahead of it -/
def Mk (K : PySem.W.Frag) (T : Tab) (A : Addr) (ρ1 : Rho) (H1 : Hp) (k : List W → List W → Hpi → Prop) (ρ0 : Rho) (H0 H : Hp) : Prop :=
  ∃ ρ h ks vs o, StpX (fun a => a = A) ρ0 H0 ρ H ∧ RelH K T ρ H h ∧ H A = some o ∧ DctO K T ρ H o ks vs ∧ k ks vs h
theorem walk_d {K : PySem.W.Frag} {own : List Nat} {g : Tg} {dt dk dv : D} (hg : ∀ i ∈ tgs g, i ∈ own) {J : It} {ws e : List W} {k : List W → List W → Hpi → R} {ρ1 ρs ρb : Rho} {H1 Hs Hb : Hp} {hs h1 : Hpi} {ks vs : List W} {o : HO} (rh1 : RelH K T ρ1 H1 h1) (nA : H1 A = Option.none)
    (xs : StpX (fun a => a = A) (ρ1.hd A) (upd H1 A (.dK [])) ρs Hs) (rhs : RelH K T ρs Hs hs) (hA : Hs A = some o) (d : DctO K T ρs Hs o ks vs) (re : REnv K T ρs Hs e σ) (bh : Beh K T ρb Hb J ws) (toB : ∀ ρ' H', StpX (fun a => a = A) ρs Hs ρ' H' → StpM ρb Hb ρ' H')
    (f : FinE K T W₀ σ0 ρ1 H1 (dcL g dt dk dv ca ws (wipeW e own) hs ks vs k) Q) :
    ∃ W : Nat → Nat → Hp → Prop, (∃ m, W 0 m Hs) ∧ WalkOk J (tG K g) (tT K T ca noW dt) (tbD (tE K T ca noW dk) (tE K T ca noW dv) A) own σ W fun H' => Mk K T A ρ1 H1 (fun ks vs h => FinE K T W₀ σ0 ρ1 H1 (k ks vs h) Q) ρs Hs H' := by
  let at_ : Nat → Hp → Prop := fun i => Mk K T A ρ1 H1 (fun ks vs h => FinE K T W₀ σ0 ρ1 H1 (dcL g dt dk dv ca (ws.drop i) (wipeW e own) h ks vs k) Q) ρs Hs
  have sA := stp_hd (D := A) ρ1 (.dK []) nA
  have muS : ρs.mu A := xs.up A (.inr rfl)
  have PS : ∀ a, (fun a => a = A) a → ρs.mu a := fun a z => by rw [show a = A from z]; exact muS
  refine ⟨fun i n H => n = ws.length - i ∧ i ≤ ws.length ∧ at_ i H, ⟨ws.length, by simp, Nat.zero_le _, ρs, hs, ks, vs, o, StpX.refl _ _ _, rhs, hA, d, f⟩, ?_⟩
  rintro i n H2 ⟨rfl, hi, ρ2, h2, ks2, vs2, o2, x2, rh2, hA2, d2, f2⟩
  have xo := xs.trans x2
  have np := not_place sA xo rh1 nA upd_same
  have mu2 : ρ2.mu A := xo.up A (.inr rfl)
  have sB := toB ρ2 H2 x2
  by_cases lt : i < ws.length
  · rw [List.drop_eq_getElem_cons lt] at f2
    refine .inr ⟨bh.go i ρ2 H2 lt sB, at_ (i + 1), fun H3 z => ⟨ws.length - (i + 1), by omega, rfl, lt, z⟩, fun x H3 y => ?_⟩
    obtain ⟨s3, rh3, r3⟩ := bh.yld i ws[i] ρ2 H2 h2 x H3 (List.getElem?_eq_getElem lt) sB rh2 y
    have stays : ∀ {ρ' : Rho} {H' : Hp}, Stp ρ2 H2 ρ' H' → StpX (fun a => a = A) ρs Hs ρ' H' ∧ H' A = some o2 ∧ DctO K T ρ' H' o2 ks2 vs2 := fun {ρ' H'} s =>
      ⟨x2.trans (s.imp fun _ _ _ z => z.elim), s.hld _ _ hA2 (fun z => z) np (nT_tb d2.mut.2), d2.step s⟩
    refine fin_bindC (vs := own) hg r3 (((re.stepX x2 PS).step s3).wipe own) f2 fun e' σ' hw re' f3 => ⟨hw.trans (wipe_wipe own), ρ2, e', h2, re', rh3, (fin_bndTC f3).imp ?_⟩
    rintro b H4 ⟨ρ4, h4, s4, rh4, f4⟩
    cases b with
    | false =>
      obtain ⟨a1, a2, a3⟩ := stays (s3.trans s4)
      exact ⟨ρ4, h4, ks2, vs2, o2, a1, rh4, a2, a3, f4⟩
    | true =>
      refine ⟨ρ4, e', h4, re'.step s4, rh4, (fin_bndC f4).imp ?_⟩
      rintro yk H5 ⟨ρ5, wk, h5, s5, rh5, rk, f5⟩
      refine ⟨ρ5, e', h5, (re'.step s4).step s5, rh5, (fin_bndC f5).imp ?_⟩
      rintro yv H6 ⟨ρ6, wv, h6, s6, rh6, rv, f6⟩
      obtain ⟨a1, a2, a3⟩ := stays (((s3.trans s4).trans s5).trans s6)
      cases sp : sameP ks2 wk with
      | false => rw [sp] at f6; exact f6.elim
      | true =>
        rw [sp] at f6
        cases bl : Nat.blt (lenN ks2) lim with
        | false => simp only [putD, bl] at f6; exact f6.elim
        | true =>
          obtain ⟨o', ks', vs', z1, z2, z3⟩ := put_any a2 a3 sp bl (rk.step s6).rr rv fun ks' vs' => dcL g dt dk dv ca (ws.drop (i + 1)) (wipeW e own) h6 ks' vs' k
          have f7 : FinE K T W₀ σ0 ρ1 H1 (dcL g dt dk dv ca (ws.drop (i + 1)) (wipeW e own) h6 ks' vs' k) Q := by
            rw [← z1]; exact f6
          have xo6 := xs.trans a1
          have np6 := not_place sA xo6 rh1 nA upd_same
          have mu6 : ρ6.mu A := xo6.up A (.inr rfl)
          have xu := stpX_upd (o := o') mu6 a2 (rh6.nt mu6 a2)
          have hP : ∀ a, (fun a => a = A) a → ρ6.mu a := fun a z => by rw [show a = A from z]; exact mu6
          exact z3 _ ⟨ρ6, h6, ks', vs', o', a1.trans xu, relH_upd z2.mut.2 rh6 mu6 np6, upd_same, DctO.stepX xu hP z2, f7⟩
  · have ei : i = ws.length := by omega
    subst ei
    rw [List.drop_length] at f2
    exact .inl ⟨bh.stop ρ2 H2 sB, ρ2, h2, ks2, vs2, o2, x2, rh2, hA2, d2, f2⟩
theorem t_dcI {m : Bool} {own vs1 : List Nat} {g g1 : Tg} {di dt di1 dt1 dk dv : D} {H : Hp} (hg : ∀ i ∈ tgs g, i ∈ own) (hg1 : ∀ i ∈ tgs g1, i ∈ vs1) (w : tE X.K T ca W₀ (mDc2 m own vs1 g di dt g1 di1 dt1 dk dv) σ H Q) :
    tDcI (tI X.K T ca W₀ di) (tG X.K g) (tT X.K T ca noW dt) (tI X.K T ca noW di1) (tG X.K g1) (tT X.K T ca noW dt1) (tE X.K T ca noW dk) (tE X.K T ca noW dv) own vs1 σ H (lockQ m Q) := by
  obtain ⟨ρ, e, h, re, rh, f⟩ := w
  refine ⟨ρ, e, h, re, rh, (fin_bndI f).imp ?_⟩
  rintro J H1 ⟨ρ1, ws, h1, s1, rh1, bh, f1⟩ A nA
  rw [wipeK_eq] at f1
  have sA := stp_hd (D := A) ρ1 (.dK []) nA
  let at_ : Nat → Hp → Prop := fun i => Mk X.K T A ρ1 H1 (fun ks vs h => FinE X.K T W₀ σ ρ1 H1 (dcM g dt di1 vs1 g1 dt1 dk dv ca (ws.drop i) (wipeW e own) h ks vs fun ks vs h3 => mkD m ks vs e h3) Q) (ρ1.hd A) (upd H1 A (.dK []))
  refine ⟨fun i n H2 => n = ws.length - i ∧ i ≤ ws.length ∧ at_ i H2, ⟨ws.length, by simp, Nat.zero_le _, ρ1.hd A, h1, [], [], _, StpX.refl _ _ _, relH_hd rh1 _ rfl nA, upd_same, .inl ⟨[], [], rfl, rfl, rfl, .nil⟩, f1⟩, ?_⟩
  rintro i n H2 ⟨rfl, hi, ρ2, h2, ks, vs, o, x2, rh2, hA, d, f2⟩
  have np := not_place sA x2 rh1 nA upd_same
  have s12 : Stp ρ1 H1 ρ2 H2 := stp_over sA x2 nA
  have mu2 : ρ2.mu A := x2.up A (.inr rfl)
  by_cases lt : i < ws.length
  · rw [List.drop_eq_getElem_cons lt] at f2
    refine .inr ⟨bh.go i ρ2 H2 lt s12.m0, at_ (i + 1), fun H3 z => ⟨ws.length - (i + 1), by omega, rfl, lt, z⟩, fun x H3 y => ?_⟩
    obtain ⟨s3, rh3, r3⟩ := bh.yld i ws[i] ρ2 H2 h2 x H3 (List.getElem?_eq_getElem lt) s12.m0 rh2 y
    have stays : ∀ {ρ' : Rho} {H' : Hp}, Stp ρ2 H2 ρ' H' → StpX (fun a => a = A) (ρ1.hd A) (upd H1 A (.dK [])) ρ' H' ∧ H' A = some o ∧ DctO X.K T ρ' H' o ks vs := fun {ρ' H'} s =>
      ⟨x2.trans (s.imp fun _ _ _ z => z.elim), s.hld _ _ hA (fun z => z) np (nT_tb d.mut.2), d.step s⟩
    refine fin_bindC (vs := own) hg r3 (((re.step s1).step (s12.trans s3)).wipe own) f2 fun e' σ' hw re' f3 => ⟨hw.trans (wipe_wipe own), ρ2, e', h2, re', rh3, (fin_bndTC f3).imp ?_⟩
    rintro b H4 ⟨ρ4, h4, s4, rh4, f4⟩
    cases b with
    | false =>
      obtain ⟨a1, a2, a3⟩ := stays (s3.trans s4)
      exact ⟨ρ4, h4, ks, vs, o, a1, rh4, a2, a3, f4⟩
    | true =>
      refine ⟨ρ4, e', h4, re'.step s4, rh4, (fin_bndIC f4).imp ?_⟩
      rintro J1 H5 ⟨ρ5, l1, h5, s5, rh5, bh1, f5⟩
      rw [wipeK_eq] at f5
      obtain ⟨a1, a2, a3⟩ := stays ((s3.trans s4).trans s5)
      have mu5 : ρ5.mu A := a1.up A (.inr rfl)
      obtain ⟨W, w0, wk⟩ := walk_d (σ := σ') hg1 rh1 nA a1 rh5 a2 a3 ((re'.step s4).step s5) bh1 (fun ρ' H' x => x.m fun a z => by rw [show a = A from z]; exact mu5) f5
      refine ⟨W, w0, fun j m6 H6 w6 => ?_⟩
      rcases wk j m6 H6 w6 with ⟨q1, ρ7, h7, ks7, vs7, o7, x7, q2⟩ | q
      · exact .inl ⟨q1, ρ7, h7, ks7, vs7, o7, a1.trans x7, q2⟩
      · exact .inr q
  · have ei : i = ws.length := by omega
    subst ei
    rw [List.drop_length] at f2
    refine .inl ⟨bh.stop ρ2 H2 s12.m0, ?_⟩
    have fin := fin_mkD f2 sA x2 rh2 np nA mu2 rh1.on hA d
    rw [upd_id hA] at fin
    exact fin
theorem SE.dc2 {m : Bool} {kx vx tg it tg1 it1 : Expr} {ifs ifs1 : List Expr} {scope : Scope} {own : List (Str × Nat)} {vs1 : List Nat} {pos : Pos} {g g1 : Tg} {di dt di1 dt1 dk dv : D} (hu : X.A.units + 1 < cLine) (calm : X.calm = true) (hN : X.N.Nodup) (ok : BlkOk X.N X.env.scope scope own) (hgo : ∀ i ∈ tgs g, i ∈ own.map (·.2)) (hgo1 : ∀ i ∈ tgs g1, i ∈ vs1)
    (sub : ∀ i ∈ vs1, i ∈ own.map (·.2)) (hi : SI T ca X tg it di) (hg : BlkC X scope fun B => SG B tg g) (ht : BlkC X scope fun B => STs T ca B ifs dt) (hi1 : BlkC X scope fun B => SI T ca B tg1 it1 di1) (hg1 : BlkC X scope fun B => SG B tg1 g1) (ht1 : BlkC X scope fun B => STs T ca B ifs1 dt1) (hk : BlkC X scope fun B => SE T ca B kx dk)
    (hv : BlkC X scope fun B => SE T ca B vx dv) (hs : ∀ x, foldedSetIterable it X.env x = pure x) (hs1 : ∀ env x, foldedSetIterable it1 env x = pure x) : SE T ca X (.DictComp kx vx [⟨tg, it, ifs, 0⟩, ⟨tg1, it1, ifs1, 0⟩] scope pos) (mDc2 m (own.map (·.2)) vs1 g di dt g1 di1 dt1 dk dv) := fun W₀ t =>
  (pe_m m (pe_ent (ent_dcI hu calm hN ok sub (hi W₀ t) hg ht hi1 hg1 ht1 hk hv hs hs1))).weak fun _ _ _ h => t_dcI hgo hgo1 h
end
end
end VA
set_option Elab.async false
set_option linter.all false
set_option maxRecDepth 100000
set_option maxHeartbeats 8000000
/-! V35: a name gets a comprehension at once; statements that are never reached. -/
namespace VA
noncomputable section
open PySem PySem.Spec PyProof.Rows L2 Srt
section
variable {X : Cx} {T : Tab} {ca : CallT}
theorem sw_any {e : Expr} {gs : List Comprehension} {scope : Scope} {pos py : Pos} {y : Str} {l : Nat} {env : Env} (form : (∃ x, e = .ListComp x gs scope pos) ∨ ∃ k v, e = .DictComp k v gs scope pos) (hk : env.scope.kind = .function) (hy : env.scope.names.lookup y = some .local) (hl : (py.line == pos.line) = true)
    (ha : (scope.names.any fun (n, k) => n == y && (k == .local || k == .cell)) = false) : swapsWith e (some (.Name y py)) l env = pure true := by
  have b : env.blockKind = .function := by rw [Env.blockKind, hk]; rfl
  have kd : env.kindOf y = some .local := hy
  rcases form with ⟨x, rfl⟩ | ⟨k, v, rfl⟩ <;> (rw [swapsWith]; simp only [b, kd, ha, Expr.pos, hl]; rfl)
/-- name = {..} on one line, the name a local -/
theorem ps_ent {m : Bool} {i : Nat} {y : Str} {py pos spos : Pos} {kx vx tg it : Expr} {ifs : List Expr} {rest : List Comprehension} {scope : Scope} {t : TE} (n : DcEnt X (.DictComp kx vx (⟨tg, it, ifs, 0⟩ :: rest) scope pos) it scope t) (hN : X.N.Nodup) (hy : X.N[i]? = some y) (loc : X.env.scope.names.lookup y = some .local)
    (sw : swapsWith (.DictComp kx vx (⟨tg, it, ifs, 0⟩ :: rest) scope pos) (some (.Name y py)) spos.line X.env = pure true) :
    PS X (.Assign [.Name y py] (.DictComp kx vx (⟨tg, it, ifs, 0⟩ :: rest) scope pos) spos) (tAsg (fun σ H Q => t σ H (lockQ m Q)) (gName i)) := by
  constructor
  intro pins s σ H D I w
  rw [exec_Assign_Name_used _ _ _ _ sw]
  apply wpAny_bind
  apply wpAny_standAt
  apply wpAny_bind
  show wpAny _ X.A (do let _ ← comprehension (.DictComp kx vx (⟨tg, it, ifs, 0⟩ :: rest) scope pos) scope X.env (firstIterPos (⟨tg, it, ifs, 0⟩ :: rest) pos) newDict false (eval it X.env) (some (assign (.Name y py) X.env))) _ _ s
  have w' : t σ H (lockQ m fun x H1 => gName i x σ H1 D.nx) := w
  refine wpAny_bind (thn (n.run pins s σ H _ _ _ (fun _ s' => SP X pins D .next s') I w' ?_) fun _ s' hq => wpAny_pure (wpAny_pure hq))
  intro A C s' k H' I' q ns fp
  show wpAny _ _ (assign (.Name y py) X.env (.ref A)) _ _ _
  obtain ⟨k0, k1, k2, k3, k4, k5⟩ := fp
  refine wpAny_assign_Name (store_ok2 (v := V.ref A) I' hN hy (.inl loc) rfl ?_ (.inr loc))
  rintro s2 I2 ⟨a, same, at_⟩
  have away : C ≠ a := by
    rcases at_ with z | z
    · rw [z]; exact k1
    · exact fun e => k4 y a z e.symm
  refine ⟨k, ns.sameBut same away, fun h3 same3 => ?_⟩
  have I3 := I2.turned (t' := s2.toks) (fun b o nb z => (same3.2 b nb).trans z) k0 k1 k3 k4 k5
  cases m with
  | true => exact ⟨_, H', I3, q⟩
  | false =>
    obtain ⟨d, u, e, hd, mu, go⟩ := q
    obtain ⟨od, I4⟩ := I3.lock hd mu
    exact ⟨_, _, I4, go od⟩
section
variable {m : Bool} {i : Nat} {y : Str} {py pos spos : Pos} {kx vx tg it elt tg1 it1 : Expr} {ifs ifs1 : List Expr} {scope : Scope} {own : List (Str × Nat)} {vs1 : List Nat} {g g1 : Tg} {di dt dk dv de di1 dt1 : D}
theorem SS.setDc (hu : X.A.units + 1 < cLine) (calm : X.calm = true) (hN : X.N.Nodup) (hy : X.N[i]? = some y) (loc : X.env.scope.names.lookup y = some .local) (ok : BlkOk X.N X.env.scope scope own) (hgo : ∀ i ∈ tgs g, i ∈ own.map (·.2)) (sw : swapsWith (.DictComp kx vx [⟨tg, it, ifs, 0⟩] scope pos) (some (.Name y py)) spos.line X.env = pure true)
    (hi : SI T ca X tg it di) (hg : BlkC X scope fun B => SG B tg g) (ht : BlkC X scope fun B => STs T ca B ifs dt) (hk : BlkC X scope fun B => SE T ca B kx dk) (hv : BlkC X scope fun B => SE T ca B vx dv) (hs : ∀ x, foldedSetIterable it X.env x = pure x) :
    SS T ca X (.Assign [.Name y py] (.DictComp kx vx [⟨tg, it, ifs, 0⟩] scope pos) spos) (mAsg (.nm i) (mDc m (own.map (·.2)) g di dt dk dv)) := fun W₀ t =>
  (ps_ent (m := m) (ent_dc hu calm hN ok (hi W₀ t) hg ht hk hv hs) hN hy loc sw).weak fun _ _ _ h => t_dc hgo (t_asg (g := .nm i) h)
theorem SS.setDc2 (hu : X.A.units + 1 < cLine) (calm : X.calm = true) (hN : X.N.Nodup) (hy : X.N[i]? = some y) (loc : X.env.scope.names.lookup y = some .local) (ok : BlkOk X.N X.env.scope scope own) (hgo : ∀ i ∈ tgs g, i ∈ own.map (·.2)) (hgo1 : ∀ i ∈ tgs g1, i ∈ vs1) (sub : ∀ i ∈ vs1, i ∈ own.map (·.2))
    (sw : swapsWith (.DictComp kx vx [⟨tg, it, ifs, 0⟩, ⟨tg1, it1, ifs1, 0⟩] scope pos) (some (.Name y py)) spos.line X.env = pure true) (hi : SI T ca X tg it di) (hg : BlkC X scope fun B => SG B tg g) (ht : BlkC X scope fun B => STs T ca B ifs dt) (hi1 : BlkC X scope fun B => SI T ca B tg1 it1 di1) (hg1 : BlkC X scope fun B => SG B tg1 g1)
    (ht1 : BlkC X scope fun B => STs T ca B ifs1 dt1) (hk : BlkC X scope fun B => SE T ca B kx dk) (hv : BlkC X scope fun B => SE T ca B vx dv) (hs : ∀ x, foldedSetIterable it X.env x = pure x) (hs1 : ∀ env x, foldedSetIterable it1 env x = pure x) :
    SS T ca X (.Assign [.Name y py] (.DictComp kx vx [⟨tg, it, ifs, 0⟩, ⟨tg1, it1, ifs1, 0⟩] scope pos) spos) (mAsg (.nm i) (mDc2 m (own.map (·.2)) vs1 g di dt g1 di1 dt1 dk dv)) := fun W₀ t =>
  (ps_ent (m := m) (ent_dcI hu calm hN ok sub (hi W₀ t) hg ht hi1 hg1 ht1 hk hv hs hs1) hN hy loc sw).weak fun _ _ _ h => t_dcI hgo hgo1 (t_asg (g := .nm i) h)
theorem SS.setLc (calm : X.calm = true) (hN : X.N.Nodup) (hy : X.N[i]? = some y) (loc : X.env.scope.names.lookup y = some .local) (ok : BlkOk X.N X.env.scope scope own) (hgo : ∀ i ∈ tgs g, i ∈ own.map (·.2)) (sw : swapsWith (.ListComp elt [⟨tg, it, ifs, 0⟩] scope pos) (some (.Name y py)) spos.line X.env = pure true)
    (hi : SI T ca X tg it di) (hg : BlkC X scope fun B => SG B tg g) (ht : BlkC X scope fun B => STs T ca B ifs dt) (he : BlkC X scope fun B => SE T ca B elt de) (hs : ∀ x, foldedSetIterable it X.env x = pure x) :
    SS T ca X (.Assign [.Name y py] (.ListComp elt [⟨tg, it, ifs, 0⟩] scope pos) spos) (mAsg (.nm i) (mLc m (own.map (·.2)) g di dt de)) := fun W₀ t =>
  (ps_setLc (g := tG X.K g) (tt := tT X.K T ca noW dt) (te := tE X.K T ca noW de) calm hN hy loc sw (hi W₀ t) ok (fun s H C cl fp => hg s H C cl fp) (fun s H C cl fp => ht s H C cl fp noW noTk) (fun s H C cl fp => he s H C cl fp noW noTk) hs).weak fun _ _ _ h => t_lc hgo (t_asg (g := .nm i) h)
theorem SS.setLc2 (calm : X.calm = true) (hN : X.N.Nodup) (hy : X.N[i]? = some y) (loc : X.env.scope.names.lookup y = some .local) (ok : BlkOk X.N X.env.scope scope own) (hgo : ∀ i ∈ tgs g, i ∈ own.map (·.2)) (hgo1 : ∀ i ∈ tgs g1, i ∈ vs1) (sub : ∀ i ∈ vs1, i ∈ own.map (·.2))
    (sw : swapsWith (.ListComp elt [⟨tg, it, ifs, 0⟩, ⟨tg1, it1, ifs1, 0⟩] scope pos) (some (.Name y py)) spos.line X.env = pure true) (hi : SI T ca X tg it di) (hg : BlkC X scope fun B => SG B tg g) (ht : BlkC X scope fun B => STs T ca B ifs dt) (hi1 : BlkC X scope fun B => SI T ca B tg1 it1 di1) (hg1 : BlkC X scope fun B => SG B tg1 g1)
    (ht1 : BlkC X scope fun B => STs T ca B ifs1 dt1) (he : BlkC X scope fun B => SE T ca B elt de) (hs : ∀ x, foldedSetIterable it X.env x = pure x) (hs1 : ∀ env x, foldedSetIterable it1 env x = pure x) :
    SS T ca X (.Assign [.Name y py] (.ListComp elt [⟨tg, it, ifs, 0⟩, ⟨tg1, it1, ifs1, 0⟩] scope pos) spos) (mAsg (.nm i) (mLc2 m (own.map (·.2)) vs1 g di dt g1 di1 dt1 de)) := fun W₀ t =>
  (ps_setLc2 (g := tG X.K g) (tt := tT X.K T ca noW dt) (wi1 := tI X.K T ca noW di1) (g1 := tG X.K g1) (tt1 := tT X.K T ca noW dt1) (te := tE X.K T ca noW de) calm hN hy loc sw (hi W₀ t) ok sub (fun s H C cl fp => hg s H C cl fp) (fun s H C cl fp => ht s H C cl fp noW noTk) (fun s H C cl fp => hi1 s H C cl fp noW noTk) (fun s H C cl fp => hg1 s H C cl fp)
    (fun s H C cl fp => ht1 s H C cl fp noW noTk) (fun s H C cl fp => he s H C cl fp noW noTk) hs hs1).weak fun _ _ _ h => t_lc2 hgo hgo1 (t_asg (g := .nm i) h)
end
/-- what is never reached -/
def mBad : D := fun _ _ _ => .bad
theorem SS.bad {st : Stmt} : SS T ca X st mBad := fun W₀ t => ⟨fun _ _ _ _ _ _ ⟨_, _, _, _, _, f⟩ => f.elim⟩
theorem SSs.bad {st : List Stmt} : SSs T ca X st mBad := fun W₀ t => ⟨fun _ _ _ _ _ _ ⟨_, _, _, _, _, f⟩ => f.elim⟩
theorem SE.bad {e : Expr} : SE T ca X e mBad := fun W₀ t => ⟨fun _ _ _ _ _ _ ⟨_, _, _, _, _, f⟩ => f.elim⟩
theorem ST.bad {e : Expr} : ST T ca X e mBad := fun W₀ t => ⟨fun _ _ _ _ _ _ ⟨_, _, _, _, _, f⟩ => f.elim⟩
end
end
end VA
set_option Elab.async false
set_option linter.all false
set_option maxRecDepth 100000
set_option maxHeartbeats 8000000
/-! V36: enumerate of a tuple. -/
namespace VA
noncomputable section
open PySem PySem.Spec PyProof.Rows L2 Srt
/-- what enumerate(tuple) makes -/
def enT (t : Addr) (h : Heap) : Heap := (h.push { cls := .type "tuple_iterator", data := .fields #[.ref t, .int 0 0] }).push { cls := .type "enumerate", data := .fields #[.none, .bool false, .ref h.objs.size, rawInt 0, .none, .none] }
theorem meets_enT (t : Addr) (items : Array Value) : Meets (Builtin.«enumerate.__new__» ⟨[.type "enumerate", .ref t], []⟩) (fun _ R s => s.heap.IsTuple t items ∧ R (.ok (.ret (.ref (s.heap.objs.size + 1)))) { s with heap := enT t s.heap }) :=
  Meets.of_wp fun prog w A R s h => by
    rcases s with ⟨hp, g, d, tk, os⟩
    obtain ⟨tup, h⟩ := h
    have same := sub_enumerate
    have tupS : Heap.IsTuple (Shared.heap ⟨hp, g, d, tk, os⟩) t items := tup
    have size : (hp.push { cls := .type "tuple_iterator", data := .fields #[.ref t, .int 0 0] }).objs.size = hp.objs.size + 1 := Heap.size_push ..
    have done : R (.ok (.ret (.ref (hp.push { cls := .type "tuple_iterator", data := .fields #[.ref t, .int 0 0] }).objs.size))) { (⟨hp, g, d, tk, os⟩ : Shared) with heap := enT t hp } := by rw [size]; exact h
    clear h
    wp_walk using wpAny_pyIter_tuple tupS
    refine wpAny_stack_any (fun st => wpAny_pure ?_)
    split
    · rename_i c _ _ _ _ _
      cases (c == Value.type "enumerate") <;> (wp_walk using wpAny_pyIter_tuple tupS; exact ⟨_, rfl, done⟩)
    · wp_walk using wpAny_pyIter_tuple tupS
      exact ⟨_, rfl, done⟩
section
variable {prog : Program} {w : World} {A : Around} {E : Value → Shared → Prop} {s : Shared}
theorem enT_keeps {t : Addr} {h : Heap} {b : Addr} {o : Obj} (e : h.get? b = some o) : (enT t h).get? b = some o := Heap.get?_push_of_some _ (Heap.get?_push_of_some _ e)
theorem enT_there (t : Addr) (h : Heap) : IsEnum (enT t h) (h.objs.size + 1) h.objs.size 0 .none ∧ (enT t h).IsTupleIter h.objs.size t 0 := by
  have size : (h.push { cls := .type "tuple_iterator", data := .fields #[.ref t, .int 0 0] }).objs.size = h.objs.size + 1 := Heap.size_push ..
  refine ⟨?_, ⟨_, Heap.get?_push_of_some _ (Heap.get?_push_size _ rfl), rfl, rfl⟩⟩
  rw [← size]
  refine Heap.get?_push_size _ rfl
theorem call_enT {t : Addr} {items : Array Value} {Q : Value → Shared → Prop} (tup : s.heap.IsTuple t items) (h : Q (.ref (s.heap.objs.size + 1)) { s with heap := enT t s.heap }) : wpAny (model prog w) A (call (.type "enumerate") [.ref t]) Q E s :=
  callType_new F.called_enumerate (by decide) (F.typeCall_enumerate_1 _) (F.newCall_enumerate_1 _) (fun obj => F.args_object_init_2 obj _) F.entry_enumerate_new (meets_enT t items) ⟨tup, ⟨_, (enT_there t s.heap).1, rfl⟩, h⟩
end
/-- a tuple's items, each in a new pair -/
def IteT (K : PySem.W.Frag) (a : Addr) : It where
  go := fun i H => ∃ (xs : List V) (x : V), SqT K H a xs ∧ xs[i]? = some x
  yld := fun i H v H' => ∃ p x, v = .ref p ∧ H p = none ∧ H' = upd H p (.tup [.int (i : Nat), x]) ∧ ∀ xs, SqT K H a xs → xs[i]? = some x
  stop := fun i H => ∃ xs : List V, SqT K H a xs ∧ xs.length = i
theorem turn_enT {P : Program} {w : World} {K : PySem.W.Frag} {elts : List Expr} {kk : Nat} {tpos : Pos} (a e it : Addr) :
    Turn P w K (.Tuple elts kk tpos) (IteT K a) [e, it] e fun i h => (∃ old, IsEnum h e it ((i : Nat) : Int) old) ∧ h.IsTupleIter it a i ∧ e ≠ it := by
  constructor
  case mem => exact List.mem_cons_self
  case obj =>
    rintro i h ⟨⟨old, he⟩, ⟨o, ho, hc, hd⟩, _⟩ b hb
    rcases (List.mem_cons.mp hb : _ ∨ _) with z | z
    · subst z
      exact ⟨_, he, fun v q => nomatch q⟩
    · rw [show _ = _ from List.mem_singleton.mp z]
      exact ⟨o, ho, fun v q => by rw [hd] at q; cases q⟩
  case keep =>
    rintro i h h' ⟨⟨old, he⟩, hi, ne⟩ k
    exact ⟨⟨old, k e List.mem_cons_self _ he⟩, hi.at fun o q => k it (List.mem_cons_of_mem _ List.mem_cons_self) o q, ne⟩
  case self =>
    rintro A i s Q E ⟨⟨old, he⟩, _⟩ q
    exact wpAny_pyIter_enum he q
  case item =>
    intro X hP hw hK calm i pins s σ H E I free st go
    subst hP hw hK
    obtain ⟨⟨old, he⟩, hit, ne⟩ := st
    obtain ⟨xs, x, sq, at_⟩ := go
    obtain ⟨its, vals, tup, fits⟩ := I.tuple sq
    obtain ⟨u, hu, ru⟩ := vals.get at_
    have tup' : s.heap.IsTuple a its.toArray := tup
    have e_lt : e < s.heap.objs.size := Heap.lt_size he
    have it_lt : it < s.heap.objs.size := by obtain ⟨_, z, _⟩ := hit; exact Heap.lt_size z
    have e_a : e ≠ a := fun z => by
      obtain ⟨o, q1, q2, _⟩ := tup'
      rw [← z] at q1
      rw [show s.heap.get? e = some _ from he] at q1
      cases q1
      injection q2 with z
      exact absurd z (by decide)
    have a_it : a ≠ it := fun z => by
      obtain ⟨o, q1, q2, _⟩ := tup'
      obtain ⟨o', p1, p2, _⟩ := hit
      rw [z] at q1
      rw [q1] at p1
      cases p1
      rw [q2] at p2
      injection p2 with z
      exact absurd z (by decide)
    have small : i < its.toArray.size := by
      have := (List.getElem?_eq_some_iff.mp hu).1
      simpa using this
    refine wpAny_pyNext_enum_itemD (Draws.tuple (A := X.A.in1) (I.ok.hd calm) it a a_it its.toArray) he ⟨hit, tup'⟩ small ne (fun z => ?_) fun y h' tk py ho st' hT size keeps => ?_
    · rcases List.mem_cons.mp z with q | q
      · exact ne q
      · exact e_a (List.mem_singleton.mp q)
    have ey : y = u := by
      have z : its.toArray[i]? = some u := by simpa using hu
      rw [z] at py
      exact (Option.some.inj py).symm
    subst ey
    refine ⟨_, rfl, wpAny_letOwnedTupleGo_enum (s := { s with heap := h', toks := tk + 1 }) ho fun h'' he' same => ?_⟩
    have there := (same.2 _ (Nat.ne_of_gt e_lt)).trans hT
    have I1 : Inv X pins σ (upd H s.heap.objs.size (.tup [.int (i : Nat), x])) { s with heap := h'', toks := tk + 1 } := by
      refine I.turnedNew (ch := [e, it]) (fun b ob hb q => ?_) free (Nat.le_refl _) ⟨by show 2 ≤ sizeLine; decide, [.int i tk, y], .cons ⟨_, rfl⟩ (.cons ru .nil), ⟨_, there, rfl, _, rfl⟩⟩
      have b1 : b ≠ e := fun z => hb (by rw [z]; exact List.mem_cons_self)
      have b2 : b ≠ it := fun z => hb (by rw [z]; exact List.mem_cons_of_mem _ List.mem_cons_self)
      exact (same.2 b b1).trans (keeps b ob b1 b2 q)
    have step : (((i + 1 : Nat) : Nat) : Int) = (i : Int) + 1 := by omega
    refine ⟨.ref s.heap.objs.size, _, I1, rfl, ⟨_, x, rfl, I.hok.fresh (Nat.le_refl _), rfl, fun ys hy => by rw [I.tuple_inj hy sq]; exact at_⟩, ⟨⟨y, by rw [step]; exact he'⟩, st'.1.at fun o q => (same.2 it (Ne.symm ne)).trans q, ne⟩, fun b hb => ?_⟩
    have lt : b < s.heap.objs.size := by
      rcases (List.mem_cons.mp hb : _ ∨ _) with z | z
      · rw [z]; exact e_lt
      · rw [List.mem_singleton.mp z]; exact it_lt
    rw [upd_ne (Nat.ne_of_lt lt)]
    exact (free b hb).1
  case done =>
    intro X hP hw hK calm i pins s σ H E I free st stop
    subst hP hw hK
    obtain ⟨⟨old, he⟩, hit, ne⟩ := st
    obtain ⟨xs, sq, len⟩ := stop
    obtain ⟨its, vals, tup, fits⟩ := I.tuple sq
    obtain ⟨f0, f1, f2, f3, f4, f5⟩ := free it (List.mem_cons_of_mem _ List.mem_cons_self)
    have tup' : s.heap.IsTuple a its.toArray := tup
    have a_it : a ≠ it := fun z => by
      obtain ⟨o, q1, q2, _⟩ := tup'
      obtain ⟨o', p1, p2, _⟩ := hit
      rw [z] at q1
      rw [q1] at p1
      cases p1
      rw [q2] at p2
      injection p2 with z
      exact absurd z (by decide)
    have size : its.toArray.size = i := by
      rw [← len, vals.length]
      simp
    refine wpAny_pyNext_enum_endD (Draws.tuple (A := X.A.in1) (I.ok.hd calm) it a a_it its.toArray) he ⟨by rw [size]; exact hit, tup'⟩ fun h' but => ⟨rfl, ?_⟩
    exact I.turned (t' := s.toks) (fun b o nb q => but b o nb q) f0 f1 f3 f4 f5
def iEnT (K : PySem.W.Frag) (ta : TA) : TI := fun σ H R => ta σ H fun vs H1 => ∃ a xs, vs = [.ref a] ∧ SqT K H1 a xs ∧ R (IteT K a) H1
theorem pi_enT {X : Cx} {e : Expr} {ta : TA} {p pos tpos : Pos} {elts : List Expr} {kk : Nat} (hg : Gl X "enumerate") (hm : X.mg "enumerate" = none) (ha : PA X [e] ta) (hs : starEach [e] X.env = [(false, eval e X.env)]) : PI X (.Tuple elts kk tpos) (.Call (.Name "enumerate" p) [e] [] pos) (iEnT X.K ta) := by
  constructor
  intro pins s σ H R I w
  refine Call_ (ld_blt I hg hm boot_enumerate (PyProof.Rows.callWith_type1 (thn (ha.run pos pins s σ H _ I w) ?_) hs rfl))
  rintro us s1 ⟨vs, H1, I1, vals, a, xs, rfl, sq, q⟩
  cases vals with
  | cons r rr =>
    cases rr
    cases r
    obtain ⟨its, _, tup, _⟩ := I1.tuple sq
    have I2 : Inv X pins σ H1 { s1 with heap := enT a s1.heap } := I1.kept (t' := s1.toks) fun b o z => enT_keeps z
    obtain ⟨en, itr⟩ := enT_there a s1.heap
    refine call_enT tup (wpAny_pyIter_enum en ⟨s1.heap.objs.size + 1, [s1.heap.objs.size + 1, s1.heap.objs.size], _, _, H1, rfl, I2, turn_enT a (s1.heap.objs.size + 1) s1.heap.objs.size, ⟨⟨.none, en⟩, itr, Nat.succ_ne_self _⟩, fun b hb => ?_, q⟩)
    have le : s1.heap.objs.size ≤ b := by
      rcases (List.mem_cons.mp hb : _ ∨ _) with z | z
      · rw [z]; exact Nat.le_succ _
      · rw [List.mem_singleton.mp z]; exact Nat.le_refl _
    exact I1.fpOk le (I1.hok.fresh le)
section
variable {X : Cx} {K : PySem.W.Frag} {T : Tab} {ca : CallT} {ρ : Rho} {H : Hp}
theorem beh_enT {a : Addr} {ws : List W} {vs : List V} (st : ∀ (ρ' : Rho) (H' : Hp), StpM ρ H ρ' H' → SqT K H' a vs) (r : RWs K T ρ H ws vs) : Beh K T ρ H (IteT K a) (enuW ws 0) where
  go := fun i ρ' H' lt s => by
    have len := r.length
    rw [enuW_len, len] at lt
    exact ⟨vs, vs[i], st ρ' H' s, List.getElem?_eq_getElem lt⟩
  stop := fun ρ' H' s => ⟨vs, st ρ' H' s, by rw [enuW_len, r.length]⟩
  yld := fun i w ρ' H' h x H'' e s rh y => by
    obtain ⟨p, v, rfl, new, rfl, at_⟩ := y
    obtain ⟨u, h1, rfl⟩ := enuW_at e
    have item : RW K T ρ' H' u v := rws_at (r.stepM s) h1 (at_ vs (st ρ' H' s))
    rw [Nat.zero_add]
    exact new_tup rh new (.cons (.int _) (.one item))
def enu2 (ws : List W) (e : List W) (h : Hpi) : R := match ws with
  | [w] => (match w with
    | .tup xs => enuK xs 0 fun r => .ok (.lst r) e h
    | .ftp xs => enuK xs 0 fun r => .ok (.lst r) e h
    | _ => .bad)
  | _ => .bad
def mIEnT (a : D) : D := fun ca e h => bndA (a ca e h) fun ws h1 => enu2 ws e h1
theorem SI.enumT {a : Expr} {d : D} {p pos tpos : Pos} {elts : List Expr} {kk : Nat} (hg : Gl X "enumerate") (hm : X.mg "enumerate" = none) (ha : SA T ca X [a] d) (hs : starEach [a] X.env = [(false, eval a X.env)]) : SI T ca X (.Tuple elts kk tpos) (.Call (.Name "enumerate" p) [a] [] pos) (mIEnT d) := fun W₀ t =>
  (pi_enT hg hm (ha W₀ t) hs).weak fun σ H Rq ⟨ρ, e, h, re, rh, f⟩ => ⟨ρ, e, h, re, rh, (finI_bndA f).imp fun vs H1 ⟨ρ1, ws, h1, s1, rh1, r1, f1⟩ => by
    match ws, r1, f1 with
    | [w], .cons rw' .nil, f1 =>
      cases w with
      | tup xs =>
        cases rw' with
        | tup hA la =>
          have f2 : FinI X.K T W₀ σ ρ1 H1 (enuK xs 0 fun r => .ok (.lst r) e h1) Rq := f1
          rw [enuK_eq] at f2
          exact ⟨_, _, rfl, hA.sq, f2 ρ1 H1 _ (Stp.refl _ _) rh1 (beh_enT (fun _ _ s => (hA.stepM s).sq) la)⟩
      | ftp xs =>
        cases rw' with
        | ftp hA la =>
          have f2 : FinI X.K T W₀ σ ρ1 H1 (enuK xs 0 fun r => .ok (.lst r) e h1) Rq := f1
          rw [enuK_eq] at f2
          exact ⟨_, _, rfl, hA.sq, f2 ρ1 H1 _ (Stp.refl _ _) rh1 (beh_enT (fun _ _ s => (hA.stepM s).sq) la)⟩
      | _ => exact f1.elim⟩
end
end
end VA
set_option Elab.async false
set_option linter.all false
set_option maxRecDepth 100000
set_option maxHeartbeats 8000000
/-! V37: walking an instance whose own __iter__ gives a tuple's iterator. -/
namespace VA
noncomputable section
open PySem PySem.Spec PyProof.Rows L2 Srt
/-! ### iter(tuple) -/
/-- at p an iterator over the tuple at t, at its start -/
def ItT (t p : Addr) : HO := .ext fun h => h.get? p = some { cls := .type "tuple_iterator", data := .fields #[.ref t, .int 0 0] }
section
variable {X : Cx} {σ : L2.St} {H : Hp} {s : Shared} {pins : List (Addr × Obj)}
theorem call_iterT {prog : Program} {w : World} {A : Around} {E : Value → Shared → Prop} {t : Addr} {items : Array Value} {Q : Value → Shared → Prop} (tup : s.heap.IsTuple t items) (h : Q (.ref s.heap.objs.size) { s with heap := s.heap.push { cls := .type "tuple_iterator", data := .fields #[.ref t, .int 0 0] } }) :
    wpAny (model prog w) A (call (.builtin "iter") [.ref t]) Q E s := by
  apply Calls.call_function_entry (by decide +kernel) (by decide +kernel) PySem.W.kdk_entry_iter (PySem.W.kdk_args_iter _)
  unfold Builtin.«iter»
  apply wpAny_bind (m := someArgs "iter" 1 2 _)
  apply wpAny_of_eq (a := [Value.ref t]) (by first | rfl | kernel_rfl!)
  show wpAny _ _ (pyIter (.ref t) >>= _) _ _ _
  exact wpAny_bind (wpAny_pyIter_tuple tup (wpAny_pure ⟨_, rfl, h⟩))
def rItT (K : PySem.W.Frag) (n : Nat) : List V → Hp → VK → Prop := fun xs H Q => ∃ t zs, xs = [.ref t] ∧ SqT K H t zs ∧ ∀ p, H p = none → n ≤ p → Q (.ref p) (upd H p (ItT t p))
theorem cr_iterT : CallR X (.builtin "iter") (rItT X.K X.s_0.heap.objs.size) := by
  rintro pins s σ H _ us Q I vals ⟨t, zs, rfl, sq, q⟩
  obtain ⟨u, rfl, ru⟩ := vals1 vals
  cases ru
  obtain ⟨its, _, tup, _⟩ := I.tuple sq
  refine call_iterT tup ⟨.ref s.heap.objs.size, _, I.laid (o := ItT t s.heap.objs.size) (t' := s.toks) (fun b o z => Heap.get?_push_of_some _ z) (Nat.le_refl _) ⟨?_, ⟨_, Heap.get?_push_size _ rfl⟩, fun g1 g2 z k => k _ z⟩, rfl, q _ (I.hok.fresh (Nat.le_refl _)) I.sz⟩
  refine Heap.get?_push_size _ rfl
end
/-! ### one call of a def, told at its own state -/
section
variable {P : Program} {w : World} {K : PySem.W.Frag} {mg : Str → Option Value} {base : Heap} {CX : CXT}
theorem run_at {name qual : Str} {params : Arguments} {body : List Stmt} {scope : Scope} {dV kV doc pm cdv ct oc : Value} {an od : Option Addr} {f : Addr} {osl : Array (Option Value)} {N ps : List Str} {k : Nat} (lk : K.lookup f = some ⟨oc, od, .func (PySem.W.fnOf name qual params body scope dV kV doc pm an cdv ct), osl⟩)
    (hcd : PySem.W.codeIn K cdv qual = true) (S : FnScope N ps scope) {A : Around} {outer : List Env} {s : Shared} {H : Hp} {args : Args} {us : List Value} {vs : List V} {Q : VK} {E : XK} (room : Room (k + 1) A) (e0 : Env0 P w K mg base A outer s H)
    (hb : BindsTo s (PySem.W.fnOf name qual params body scope dV kV doc pm an cdv ct) args (ps.zip us)) (vals : Vals vs us) (len : vs.length = ps.length) {t : TS} (ht : PSs (cxOf CX P w K mg base N qual scope f cdv A outer s H E) body t) (q : t { nx := fun _ _ => False, rt := Q } (L2.start N vs) H) : codeAny (model P w) A (.call (.ref f) args) (CR CX outer P w H s Q E) s := by
  have inK : K.In s.heap := e0.mod.kin.keeps fun b o z => (e0.bs b o z).1
  have nolim : s.heap.NoLimit := e0.mod.nolimit.keeps fun b o z => (e0.bs b o z).1
  have kinds : ∀ y ∈ ps.zip us, scope.names.lookup y.1 = some .local ∨ (scope.names.lookup y.1 = some .cell ∧ ((cellsFrom (s.heap.objs.size + 1) scope.names []).lookup y.1).isSome = true) := by
    rintro ⟨n, v⟩ hy
    exact (S.par n (List.of_mem_zip hy).1).imp id fun z => ⟨z, PySem.W.cellsFrom_some _ _ _ (.inl z)⟩
  apply codeAny_call_function room.depth (inK _ _ lk) rfl S.co S.gen rfl (PySem.W.codeRec_of inK hcd)
  apply hb
  apply wpAny_newFunctionEnv_cells S.kind kinds
  rintro _ rfl s1 x
  refine ⟨nolim.keeps x.toInCall.keep, codeAny_func ?_⟩
  have I : Inv (cxOf CX P w K mg base N qual scope f cdv A outer s H E) [] (L2.start N vs) H s1 := inv_start S room.hd e0 len vals x
  refine wpAny_mono (ht.run [] s1 (L2.start N vs) H _ I q) ?_ fun _ _ z => z
  intro fl s' z
  cases fl with
  | ret u =>
    obtain ⟨v, _, H', J, rv, qv⟩ := z
    exact ⟨v, H', J.os, J.bare, J.base, J.hok, rv, qv⟩
  | next =>
    obtain ⟨_, _, _, no⟩ := z
    exact no.elim
  | brk =>
    obtain ⟨_, _, _, no⟩ := z
    exact no.elim
  | cont =>
    obtain ⟨_, _, _, no⟩ := z
    exact no.elim
end
/-- instances of the class c are walked as the tuple in their slot i -/
def Itr_ (T : Tab) (X : Cx) (c i : Nat) : Prop := ∃ f, PySem.W.findIn X.K (.ref (T.ca c)) "__iter__" = some (some (.ref f)) ∧ PySem.W.isFn X.K (.ref f) = true ∧
  ∀ (pins : List (Addr × Obj)) (s : Shared) (σ : L2.St) (H : Hp) (a dx t : Addr) (vs : List (Option V)) (zs : List V), Inv X pins σ H s → SlX.Slt H a (T.ca c) dx vs → vs[i]? = some (some (.ref t)) → SqT X.K H t zs →
    wpAny (model X.prog X.w) X.A (call (.ref f) [.ref a]) (fun u s' => ∃ p, u = .ref p ∧ H p = none ∧ X.s_0.heap.objs.size ≤ p ∧ Inv X pins σ (upd H p (ItT t p)) s') X.xe s
section
variable {X : Cx} {T : Tab} {ca : CallT}
theorem next_there {M : Model} {A : Around} {E : Value → Shared → Prop} {s : Shared} {p t : Addr} {i : Nat} {R : Option Value → Shared → Prop} (it : s.heap.IsTupleIter p t i) (h : ∀ g, R (some g) s) : wpAny M A (specialOf (.ref p) "__next__") R E s := wpAny_specialOf it.typeIs F.slot_tuple_iterator_next.lookup (h _)
def iOwn (K : PySem.W.Frag) (T : Tab) (c i : Nat) (te : TE) : TI := fun σ H R => te σ H fun x H1 => ∃ a dx t vs zs, x = .ref a ∧ SlX.Slt H1 a (T.ca c) dx vs ∧ vs[i]? = some (some (.ref t)) ∧ SqT K H1 t zs ∧ R (Itt K t) H1
theorem pi_own {c i : Nat} {tg e : Expr} {te : TE} (w : Itr_ T X c i) (he : PE X e te) : PI X tg e (iOwn X.K T c i te) := by
  obtain ⟨f, hf, isf, run⟩ := w
  refine ⟨fun pins s σ H R I h => thn (he.run pins s σ H _ I h) ?_⟩
  rintro u s1 ⟨x, H1, I1, rx, a, dx, t, vs, zs, rfl, sl, at_, sq, q⟩
  cases rx
  obtain ⟨m, fr⟩ := I1.fr
  obtain ⟨_, od, _, inst, _⟩ := SlX.slt_inst I1 sl
  refine PySem.W.owit_iter fr I1.ok.mod.kin inst hf isf (thn (run pins s1 σ H1 a dx t vs zs I1 sl at_ sq) ?_)
  rintro v s2 ⟨p, rfl, new, young, I2⟩
  have obj : s2.heap.get? p = some { cls := .type "tuple_iterator", data := .fields #[.ref t, .int 0 0] } := (I2.hok p _ upd_same).1
  have st : s2.heap.IsTupleIter p t 0 := ⟨_, obj, rfl, rfl⟩
  refine next_there st fun g => ?_
  have I3 := ItX.inv_drop I2 (a := p) upd_same
  have fp := ItX.inv_fp I2 (a := p) upd_same young
  rw [ItX.dropH_upd new] at I3 fp
  refine ⟨p, [p], _, _, H1, rfl, I3, turn_tuple t p, st, fun b hb => ?_, q⟩
  rw [List.mem_singleton.mp hb]
  exact fp
/-- an own __iter__: return iter(self.slot) -/
theorem itr_of {c i k : Nat} {f : Addr} {fd : FuncData} {x qual self fld : Str} {params : Arguments} {scope : Scope} {N ps : List Str} {p1 p2 p3 p4 p5 : Pos} (F : FunD X.K x qual params [.Return (some (.Call (.Name "iter" p1) [.Attribute (.Name self p2) fld p3] [] p4)) p5] scope [] [] f fd) (S : FnScope N ps scope) (one : ps.length = 1)
    (hb : Binds X.K fd ps []) (hf : PySem.W.findIn X.K (.ref (T.ca c)) "__iter__" = some (some (.ref f))) (isf : PySem.W.isFn X.K (.ref f) = true) (room : Room (k + 1) X.A) (hd : Fld T X c fld i) (h0 : N[0]? = some self) (vis : Vis scope self) (blt : X.mg "iter" = none) (glo : scope.names.lookup ("iter" : Str) = some NameKind.globalImplicit)
    (n1 : (self == ("__debug__" : Str)) = false) (n2 : (self == ("__classdict__" : Str)) = false) (form : ∀ env : Env, attributeBase (.Name self p2) fld env (eval (.Name self p2) env) = eval (.Name self p2) env) (st : ∀ env : Env, starEach [.Attribute (.Name self p2) fld p3] env = [(false, eval (.Attribute (.Name self p2) fld p3) env)]) : Itr_ T X c i := by
  refine ⟨f, hf, isf, fun pins s σ H a dx t vs zs I sl at_ sq => ?_⟩
  obtain ⟨oc0, od0, dV, kV, doc, pm, an, cdv, ct, sl0, rfl, lk, hcd, _, _⟩ := F.ex
  have bind := hb s [.ref a] I.kIn (by rw [one]; rfl)
  rw [List.append_nil] at bind
  obtain ⟨pp, slot⟩ := hd.slot
  have body : PSs (cxOf (L2.CX X.prog X.w) X.prog X.w X.K X.mg X.base N qual scope f cdv X.A X.stack s H fun _ _ _ => False) [.Return (some (.Call (.Name "iter" p1) [.Attribute (.Name self p2) fld p3] [] p4)) p5] _ :=
    pss_one (ps_ret (pe_callB (r := rItT X.K s.heap.objs.size) cr_iterT glo blt (by rfl) (pa_cons (SlX.pe_sl (pe_var (i := 0) h0 vis n1 n2) (form _)) pa_nil (st _)) (he := st _) (hpl := rfl)))
  have go := run_at lk hcd S (A := X.A) (outer := X.stack) (s := s) (H := H) (args := ⟨[.ref a], []⟩) (us := [.ref a]) (vs := [.ref a]) (Q := fun v H' => ∃ p, v = .ref p ∧ H p = none ∧ s.heap.objs.size ≤ p ∧ H' = upd H p (ItT t p)) (E := fun _ _ _ => False) room I.env0 bind (.cons rfl .nil) (by rw [one]; rfl) body
    ⟨.ref a, by unfold L2.start; rfl, a, T.ca c, dx, pp, vs, i, .ref t, rfl, sl, hd.cls, slot, at_, t, zs, rfl, sq, fun p hp le => ⟨p, rfl, hp, le, rfl⟩⟩
  refine wpAny_call (codeAny_mono go fun r s' hq => ?_)
  cases r with
  | error e =>
    obtain ⟨_, _, _, _, _, _, _, _, _, _, _, _, no⟩ := hq
    exact no.elim
  | ok fl =>
    cases fl with
    | ret u =>
      obtain ⟨v, H', I', rv, p, rfl, hp, le, rfl⟩ := I.after hq
      cases rv
      exact ⟨p, rfl, hp, Nat.le_trans I.sz le, I'⟩
    | next => exact hq.elim
    | brk => exact hq.elim
    | cont => exact hq.elim
/-! ### the reading -/
def ownI (h : Hpi) (c i : Nat) (w : W) (e : List W) : R := match w with
  | .loc n => (match h.get n with
    | some (.ins c' fs) => (match Nat.beq c' c with
      | true => (match nthW fs i with
        | some u => (match u with
          | .tup xs => .ok (.lst xs) e h
          | .ftp xs => .ok (.lst xs) e h
          | _ => .bad)
        | Option.none => .bad)
      | false => .bad)
    | _ => .bad)
  | _ => .bad
def mIOwn (c i : Nat) (a : D) : D := fun ca e h => bnd (a ca e h) fun w h1 => ownI h1 c i w e
theorem SI.own {c i : Nat} {tg e : Expr} {d : D} (w : Itr_ T X c i) (he : SE T ca X e d) : SI T ca X tg e (mIOwn c i d) := fun W₀ t =>
  (pi_own w (he W₀ t)).weak fun σ H Rq ⟨ρ, e, h, re, rh, f⟩ => ⟨ρ, e, h, re, rh, (finI_bnd f).imp fun v H1 ⟨ρ1, w, h1, s1, rh1, r1, f1⟩ => by
    cases w with
    | loc n =>
      cases r1 with
      | loc _ hn =>
        unfold ownI at f1
        cases g : h1.get n with
        | none => simp only [g] at f1; exact f1.elim
        | some ob =>
          simp only [g] at f1
          cases ob with
          | ins c' fs =>
            simp only at f1
            cases b : Nat.beq c' c with
            | false => simp only [b] at f1; exact f1.elim
            | true =>
              simp only [b, nthW_eq] at f1
              have ec := Nat.eq_of_beq_eq_true b
              subst ec
              obtain ⟨_, h2, vs, ia, hf⟩ := rh1.ob n _ g
              cases q : fs[i]? with
              | none => simp only [q] at f1; exact f1.elim
              | some u =>
                simp only [q] at f1
                cases u with
                | tup xs =>
                  obtain ⟨x, e1, rx⟩ := hf i _ q (by intro z; cases z)
                  cases rx with
                  | tup ha la => exact ⟨_, _, _, vs, _, rfl, ia.slt, e1, ha.sq, f1 ρ1 H1 _ (Stp.refl _ _) rh1 (beh_tup (fun _ _ s2 => (ha.stepM s2).sq) la)⟩
                | ftp xs =>
                  obtain ⟨x, e1, rx⟩ := hf i _ q (by intro z; cases z)
                  cases rx with
                  | ftp ha la => exact ⟨_, _, _, vs, _, rfl, ia.slt, e1, ha.sq, f1 ρ1 H1 _ (Stp.refl _ _) rh1 (beh_tup (fun _ _ s2 => (ha.stepM s2).sq) la)⟩
                | _ => exact f1.elim
          | _ => exact f1.elim
    | _ => exact f1.elim⟩
end
end
end VA
set_option Elab.async false
set_option linter.all false
set_option maxRecDepth 100000
set_option maxHeartbeats 8000000
/-! V38: one dict merged into another, as the model does it. -/
namespace VA
noncomputable section
open PySem PySem.Spec PyProof.Rows L2 Srt
section
variable {prog : Program} {w : World} {A : Around} {E : Value → Shared → Prop} {s : Shared} {κ : Type} [DecidableEq κ]
/-- one key put, its hash known: a tuple -/
theorem put_h {knd : HeapKind prog w κ} {d a : Addr} {xs : List (κ × Addr × Value)} {k : κ} {v : Value} {Q : Unit → Shared → Prop} (room : knd.room A) (key : knd.is s.heap k a) (there : s.heap.DictOfH knd d xs) (small : xs.length ≤ sizeLine)
    (q : ∀ h', h'.DictOfH knd d (storedH xs k a v) → Heap.SameBut d s.heap h' → Q () { s with heap := h' }) : wpAny (model prog w) A (dictPut d (knd.hash k) (.ref a) v) Q E s := by
  obtain ⟨o, es, ep, at_, exact_, data, ents, keys, nd⟩ := there
  have len : es.size ≤ sizeLine := by
    have := size_of_entries ents
    omega
  unfold dictPut
  apply wpAny_bind
  refine wpAny_dictFind_heap room key at_ data ents keys nd (fun none_ => ?_) fun j p found => ?_
  · have new := storedH_new (atKey_none_of_get none_) a v
    have out : k ∉ xs.map (·.1) := not_mem_keys_of_get none_
    refine wpAny_updateDictKeys (hz := len) at_ data (q _ ?_ (Heap.SameBut.update ..))
    refine ⟨_, _, ep + 1, Heap.get?_update_self _ at_ (Obj.isFreed_of_dict (Obj.data_mapDictKeys data _)), exact_.mapDictKeys _, Obj.data_mapDictKeys data _, ?_, ?_, ?_⟩
    · rw [new]
      simp [ents, entryOfKey]
    · rw [new]
      intro x hx
      have is_ : knd.is s.heap x.1 x.2.1 := (List.mem_append.mp hx).elim (keys x) fun z => by
        rw [List.mem_singleton.mp z]; exact key
      exact knd.keeps is_ at_ data (Heap.SameBut.update ..)
    · rw [new, List.map_append]
      refine List.nodup_append.mpr ⟨nd, by simp, fun x hx y hy z => out ?_⟩
      rw [List.mem_singleton.mp hy] at z
      rw [← show x = k from z]
      exact hx
  · have old := storedH_old (atKey_of_get nd found) a v
    refine wpAny_updateDict at_ data (q _ ?_ (Heap.SameBut.update ..))
    refine ⟨_, _, ep, Heap.get?_update_self _ at_ (Obj.isFreed_of_dict (Obj.data_mapDict data _)), exact_.mapDict _, Obj.data_mapDict data _, ?_, ?_, ?_⟩
    · rw [old]
      have swap := modify_map_putAt (entryOfKey knd) (fun e : DictEntry => { e with val := v }) k v (fun _ _ => rfl) nd found
      rw [← ents] at swap
      obtain ⟨l⟩ := es
      simpa using swap
    · rw [old]
      intro x hx
      obtain ⟨y, hy, ey⟩ := List.mem_map.mp hx
      subst ey
      have same : (putAt k v y).1 = y.1 ∧ (putAt k v y).2.1 = y.2.1 := by unfold putAt; split <;> exact ⟨rfl, rfl⟩
      rw [same.1, same.2]
      exact knd.keeps (keys y hy) at_ data (Heap.SameBut.update ..)
    · rw [old, keys_map_putAt]
      exact nd
/-- an int, a text -/
theorem put_p {knd : KeyKind prog w κ} {d : Addr} {kvs : List (κ × Value)} {k : κ} {key v : Value} {Q : Unit → Shared → Prop} (is_ : knd.is k key = true) (there : s.heap.DictOf knd d kvs) (small : kvs.length ≤ sizeLine)
    (q : ∀ h', h'.DictOf knd d (stored kvs k v) → Heap.SameBut d s.heap h' → Q () { s with heap := h' }) : wpAny (model prog w) A (dictPut d (knd.hash k) key v) Q E s := by
  obtain ⟨o, es, ep, at_, exact_, data, keys, prs, nd⟩ := there
  have len : es.size ≤ sizeLine := by
    have := prs.length
    simp only [Array.length_toList] at this
    omega
  have where_ : (es.findIdx? fun e => knd.is k e.key) = kvs.findIdx? fun kv => decide (kv.1 = k) := by
    have := prs.findIdx k
    obtain ⟨l⟩ := es
    simpa using this
  unfold dictPut
  apply wpAny_bind
  refine wpAny_dictFind_of is_ at_ data keys ?_
  cases z : es.findIdx? fun e => knd.is k e.key with
  | none =>
    have out : k ∉ kvs.map (·.1) := not_mem_of_findIdx_none (where_ ▸ z)
    have no : ¬ (kvs.any fun kv => decide (kv.1 = k)) = true := fun y => by
      obtain ⟨kv, m, e⟩ := List.any_eq_true.mp y
      exact out (List.mem_map.mpr ⟨kv, m, of_decide_eq_true e⟩)
    have new : stored kvs k v = kvs ++ [(k, v)] := by rw [stored, if_neg no]
    refine wpAny_updateDictKeys (hz := len) at_ data (q _ ?_ (Heap.SameBut.update ..))
    refine ⟨_, _, ep + 1, Heap.get?_update_self _ at_ (Obj.isFreed_of_dict (Obj.data_mapDictKeys data _)), exact_.mapDictKeys _, Obj.data_mapDictKeys data _, keys.push is_ _, ?_, ?_⟩
    · rw [new]
      have more := prs.append is_ (knd.hash k) v
      obtain ⟨l⟩ := es
      simpa using more
    · rw [new, List.map_append]
      refine List.nodup_append.mpr ⟨nd, by simp, fun x hx y hy e => out ?_⟩
      rw [List.mem_singleton.mp hy] at e
      rw [← show x = k from e]
      exact hx
  | some i =>
    have old : stored kvs k v = kvs.map fun kv => if kv.1 = k then (kv.1, v) else kv := by rw [stored, if_pos (any_of_findIdx_some (where_ ▸ z))]
    refine wpAny_updateDict at_ data (q _ ?_ (Heap.SameBut.update ..))
    refine ⟨_, _, ep, Heap.get?_update_self _ at_ (Obj.isFreed_of_dict (Obj.data_mapDict data _)), exact_.mapDict _, Obj.data_mapDict data _, keys.modify _ _, ?_, ?_⟩
    · have z' : (es.toList.findIdx? fun e => knd.is k e.key) = some i := by
        rw [← z]
        obtain ⟨l⟩ := es
        simp
      have swap := prs.modify nd z' v
      obtain ⟨l⟩ := es
      rw [stored, if_pos (any_of_findIdx_some (where_ ▸ z))]
      simpa using swap
    · rw [stored, if_pos (any_of_findIdx_some (where_ ▸ z)), keys_map_store]
      exact nd
end
/-- a key's == is its type's -/
def TellsEq (P : Program) (w : World) (A : Around) (s : Shared) (v : Value) : Prop := ∀ (E : Value → Shared → Prop) (R : Option Value → Shared → Prop), (∀ g, R g s) → wpAny (model P w) A (specialOf v "__eq__") R E s
section
variable {prog : Program} {w : World} {A : Around} {E : Value → Shared → Prop} {s : Shared}
theorem merge_ok {a d : Addr} {oa od : Obj} {es es0 : Array DictEntry} {ep ep0 : Nat} (ha : s.heap.get? a = some oa) (isD : oa.cls = .type "dict") (data : oa.data = .dict es ep) (hd : s.heap.get? d = some od) (data0 : od.data = .dict es0 ep0) (plain : (a == sysModules) = false) (ne : a ≠ d) (I : Nat → Heap → Prop)
    (apart : es0.isEmpty = true → ∀ e ∈ es.toList, ∀ b, e.key = .ref b → TellsEq prog w A s e.key ∧ (es.filter fun x => x.hash == e.hash).size ≤ 1) (start : I 0 s.heap)
    (step : ∀ (i : Nat) (e : DictEntry) (s' : Shared), es[i]? = some e → I i s'.heap → ∀ Q : Unit → Shared → Prop, (∀ h', I (i + 1) h' → Heap.SameBut d s'.heap h' → Q () { s' with heap := h' }) → wpAny (model prog w) A (dictPut d e.hash e.key e.val) Q E s')
    {Q : Unit → Shared → Prop} (q : ∀ h', I es.size h' → Heap.SameBut d s.heap h' → Q () { s with heap := h' }) : wpAny (model prog w) A (mergeMapping d (.ref a) false) Q E s := by
  have ty : s.TypeIs (.ref a) "dict" := ⟨oa, ha, isD⟩
  unfold mergeMapping
  refine wpAny_bind (wpAny_isInstance ty F.sub_dict_dict ?_)
  rw [if_pos rfl]
  refine wpAny_bind (wpAny_specialOf ty F.slot_dict_iter.lookup ?_)
  refine wpAny_bind <| wpAny_pure ?_
  show wpAny _ _ (if (a == sysModules) = true then _ else _) _ _ s
  rw [if_neg (by rw [plain]; exact Bool.false_ne_true)]
  refine wpAny_bind (wpAny_dictEntries hd data0 ?_)
  -- the walk over the places
  have walk : ∀ (f : Nat → PUnit → Sem (ForInStep PUnit)), (∀ j u, f j u = (dictEntries a >>= fun x => match x[j]? with
        | .some e => (holding [e.key, e.val] (dictPut d e.hash e.key e.val) >>= fun _ => dictEpoch a >>= fun t => if (t != ep) = true then ((unsupported "dict.changed-during-merge" : Sem PUnit) >>= fun _ => pure (ForInStep.yield PUnit.unit)) else pure (ForInStep.yield PUnit.unit))
        | _ => ((unsupported "dict.changed-during-merge" : Sem PUnit) >>= fun _ => pure (ForInStep.yield PUnit.unit)))) → wpAny (model prog w) A (forIn (List.range es.size) PUnit.unit f >>= fun _ => pure ()) Q E s := by
    intro f hf
    rw [List.range_eq_range']
    refine wpAny_bind (wpAny_forIn_list _ (fun rest _ s' => ∃ i, i ≤ es.size ∧ rest = List.range' i (es.size - i) ∧ ∃ h', s' = { s with heap := h' } ∧ I i h' ∧ Heap.SameBut d s.heap h') _ ?_ ?_ _ _ ⟨0, Nat.zero_le _, rfl, s.heap, rfl, start, rfl, fun _ _ => rfl⟩)
    · rintro x rest u s' ⟨i, le, er, h', rfl, hi, same⟩
      have lt : i < es.size := by
        rcases (Nat.lt_or_ge i es.size) with z | z
        · exact z
        · rw [Nat.sub_eq_zero_of_le z] at er
          cases er
      have er' : x :: rest = i :: List.range' (i + 1) (es.size - (i + 1)) := by
        rw [er, ← List.range'_succ]
        congr 1
        omega
      injection er' with e1 e2
      subst e1
      have ha' : h'.get? a = some oa := (same.2 a ne).trans ha
      rw [hf]
      refine wpAny_bind (wpAny_dictEntries (s := { s with heap := h' }) ha' data ?_)
      rw [Array.getElem?_eq_getElem lt]
      refine wpAny_bind (wpAny_holding (step x es[x] { s with heap := h' } (Array.getElem?_eq_getElem lt) hi _ fun h'' hi' same' => ?_))
      have ha'' : h''.get? a = some oa := (same'.2 a ne).trans ha'
      refine wpAny_bind (wpAny_dictEpoch (s := { s with heap := h'' }) ha'' data ?_)
      rw [if_neg (by simp)]
      exact wpAny_pure ⟨x + 1, lt, e2, h'', rfl, hi', same'.1.trans same.1, fun b nb => (same'.2 b nb).trans (same.2 b nb)⟩
    · rintro u s' ⟨i, le, er, h', rfl, hi, same⟩
      have ei : i = es.size := by
        rcases (Nat.lt_or_ge i es.size) with z | z
        · rw [show es.size - i = (es.size - i - 1) + 1 by omega, List.range'_succ] at er
          cases er
        · omega
      subst ei
      exact wpAny_pure (q h' hi same)
  by_cases emp : es0.isEmpty = true
  · rw [if_pos emp]
    refine wpAny_bind (wpAny_dictEntries ha data (wpAny_bind ?_))
    rw [← Array.forIn_toList]
    have here := apart emp
    refine wpAny_forIn_list _ (fun rest _ s' => s' = s ∧ ∀ e ∈ rest, e ∈ es.toList) _ ?_ ?_ _ _ ⟨rfl, fun _ z => z⟩
    · rintro e rest u s' ⟨rfl, sub⟩
      have there := here e (sub e List.mem_cons_self)
      have on : s' = s' ∧ ∀ e ∈ rest, e ∈ es.toList := ⟨rfl, fun x z => sub x (List.mem_cons_of_mem _ z)⟩
      cases ek : e.key with
      | ref b =>
        obtain ⟨tells, few⟩ := there b ek
        rw [ek] at tells
        refine wpAny_bind (tells _ _ fun g => ?_)
        split
        · split
          · omega
          · exact wpAny_pure on
        · exact wpAny_pure on
      | _ => exact wpAny_pure on
    · rintro u s' ⟨rfl, _⟩
      exact wpAny_bind (wpAny_dictEntries ha data (wpAny_bind (wpAny_dictEpoch ha data (walk _ fun j u => rfl))))
  · rw [if_neg emp]
    exact wpAny_bind (wpAny_dictEntries ha data (wpAny_bind (wpAny_dictEpoch ha data (walk _ fun j u => rfl))))
end
end
end VA
set_option Elab.async false
set_option linter.all false
set_option maxRecDepth 100000
set_option maxHeartbeats 8000000
/-! V39: a display of two merged dicts. -/
namespace VA
noncomputable section
open PySem PySem.Spec PyProof.Rows L2 Srt
section
variable {prog : Program} {w : World} {A : Around} {E : Value → Shared → Prop} {s : Shared}
abbrev noE : Value → Shared → Prop := fun _ _ => False
theorem display2 {xa xb : Sem Value} {Q : Value → Shared → Prop}
    (h : wpAny (model prog w) A xa (fun m s1 => wpAny (model prog w) A (mergeMapping s.heap.objs.size m false) (fun _ s2 => wpAny (model prog w) A xb (fun m2 s3 => wpAny (model prog w) A (mergeMapping s.heap.objs.size m2 false) (fun _ s4 => Q (.ref s.heap.objs.size) s4) noE s3) E s2) noE s1) E { s with heap := s.heap.push { cls := .type "dict", data := .dict #[] } }) :
    wpAny (model prog w) A (dictDisplay [(none, xa), (none, xb)]) Q E s := by
  unfold dictDisplay
  dsimp only
  rw [List.forIn_cons]
  refine wpAny_bind <| wpAny_bind ?_
  simp only [if_true, List.isEmpty_nil]
  refine wpAny_bind <| wpAny_pure ?_
  refine wpAny_bind <| wpAny_alloc ?_
  refine wpAny_bind (wpAny_holding (wpAny_mono h ?_ fun _ _ z => z))
  intro m s1 h1
  refine wpAny_bind (wpAny_onRaise (wpAny_tryCatch (wpAny_onRaise (wpAny_holding (wpAny_mono h1 ?_ fun _ _ z => z.elim)))))
  intro _ s2 h2
  refine wpAny_pure ?_
  simp only [List.forIn_cons]
  refine wpAny_bind ?_
  simp only [if_true, List.isEmpty_nil]
  refine wpAny_bind <| wpAny_pure ?_
  refine wpAny_bind <| wpAny_pure ?_
  refine wpAny_bind (wpAny_holding (wpAny_mono h2 ?_ fun _ _ z => z))
  intro m2 s3 h3
  refine wpAny_bind (wpAny_onRaise (wpAny_tryCatch (wpAny_onRaise (wpAny_holding (wpAny_mono h3 ?_ fun _ _ z => z.elim)))))
  intro _ s4 h4
  refine wpAny_pure ?_
  simp only [List.forIn_nil]
  refine wpAny_pure ?_
  simp only [if_true, List.isEmpty_nil]
  refine wpAny_bind <| wpAny_pure ?_
  exact wpAny_pure h4
end
end
end VA
set_option Elab.async false
set_option linter.all false
set_option maxRecDepth 100000
set_option maxHeartbeats 8000000
/-! V40: merging, over what is tracked. -/
namespace VA
noncomputable section
open PySem PySem.Spec PyProof.Rows L2 Srt
theorem few_of {α κ : Type} [BEq κ] [LawfulBEq κ] {f : α → κ} : ∀ {l : List α}, (l.map f).Nodup → ∀ e : α, (l.filter fun x => f x == f e).length ≤ 1
  | [], _, _ => Nat.zero_le _
  | x :: l, nd, e => by
    rw [List.map_cons] at nd
    obtain ⟨h1, h2⟩ := List.nodup_cons.mp nd
    rw [List.filter_cons]
    by_cases z : (f x == f e) = true
    · rw [if_pos z]
      have none_ : (l.filter fun y => f y == f e) = [] := List.filter_eq_nil_iff.mpr fun y hy q => h1 (List.mem_map.mpr ⟨y, hy, by rw [eq_of_beq q, eq_of_beq z]⟩)
      rw [none_]
      exact Nat.le_refl _
    · rw [if_neg z]
      exact few_of h2 e
section
variable {X : Cx} {pins : List (Addr × Obj)} {σ : L2.St} {H : Hp} {s : Shared} {E : Value → Shared → Prop} {a D : Addr}
theorem storedH_len {κ : Type} [DecidableEq κ] (xs : List (κ × Addr × Value)) (k : κ) (b : Addr) (v : Value) : (storedH xs k b v).length ≤ xs.length + 1 := by
  unfold storedH
  split
  · rw [List.length_map]; exact Nat.le_succ _
  · rw [List.length_append]; exact Nat.le_refl _
theorem fold_lenH {κ : Type} [DecidableEq κ] : ∀ (l ys : List (κ × Addr × Value)), (l.foldl (fun acc x => storedH acc x.1 x.2.1 x.2.2) ys).length ≤ ys.length + l.length
  | [], _ => Nat.le_refl _
  | x :: l, ys => by
    have h1 := fold_lenH l (storedH ys x.1 x.2.1 x.2.2)
    have h2 := storedH_len ys x.1 x.2.1 x.2.2
    rw [List.length_cons, List.foldl_cons]
    omega
theorem fold_lenP {κ : Type} [DecidableEq κ] : ∀ (l ys : List (κ × Value)), (l.foldl (fun acc x => stored acc x.1 x.2) ys).length ≤ ys.length + l.length
  | [], _ => Nat.le_refl _
  | x :: l, ys => by
    have h1 := fold_lenP l (stored ys x.1 x.2)
    have h2 := stored_length_le ys x.1 x.2
    rw [List.length_cons, List.foldl_cons]
    omega
theorem take_fold {α β : Type} (f : β → α → β) {l : List α} {i : Nat} {x : α} (e : l[i]? = some x) (b : β) : (l.take (i + 1)).foldl f b = f ((l.take i).foldl f b) x := by
  rw [List.take_succ, e, List.foldl_append]
  rfl
theorem kt_fold : ∀ {kvs : List (List Key × V)} {xs : List (List Key × Addr × Value)} {ds : List (List Key × V)} {ys : List (List Key × Addr × Value)}, KT H kvs xs → KT H ds ys → KT H (kvs.foldl (fun acc p => putK acc p.1 p.2) ds) (xs.foldl (fun acc x => storedH acc x.1 x.2.1 x.2.2) ys)
  | [], _, _, _, .nil, r => r
  | p :: kvs, x :: xs, _, _, .cons c t, r => by
    obtain ⟨e1, e2, e3⟩ := c
    have z := r.put p.1 e2 e3
    rw [List.foldl_cons, List.foldl_cons, ← e1]
    exact kt_fold t z
theorem kv_fold {κ : Type} [DecidableEq κ] : ∀ {kvs : List (κ × V)} {xs : List (κ × Value)} {ds : List (κ × V)} {ys : List (κ × Value)}, KV kvs xs → KV ds ys → KV (kvs.foldl (fun acc p => putK acc p.1 p.2) ds) (xs.foldl (fun acc x => stored acc x.1 x.2) ys)
  | [], _, _, _, .nil, r => r
  | p :: kvs, x :: xs, _, _, .cons c t, r => by
    obtain ⟨e1, e3⟩ := c
    have z := KV.put r p.1 e3
    rw [List.foldl_cons, List.foldl_cons, ← e1]
    exact kv_fold t z
theorem mrg_t {kvs ds : List (List Key × V)} {Q : Unit → Shared → Prop} (hu : X.A.units + 1 < cLine) (I : Inv X pins σ H s) (ra : Rd H a (.dT kvs)) (eD : H D = some (.dT ds)) (ne : a ≠ D) (apart : ds = [] → (kvs.map fun p => (tupleKind (mixKind X.prog X.w)).hash p.1).Nodup)
    (fits : ds.length + kvs.length ≤ sizeLine) (q : ∀ s', Inv X pins σ (upd H D (.dT (kvs.foldl (fun acc p => putK acc p.1 p.2) ds))) s' → Q () s') : wpAny (model X.prog X.w) X.A (mergeMapping D (.ref a) false) Q E s := by
  obtain ⟨_, nm, xs, rel, oa, es, ep, p1, p2, p3, p4, p5, p6⟩ := dt_rd I.hok ra
  obtain ⟨_, nmD, ys, relD, od, es0, ep0, d1, d2, d3, d4, d5, d6⟩ := dt_of I.hok eD
  have lx : xs.length = kvs.length := (Paired.length rel).symm
  have ly : ys.length = ds.length := (Paired.length relD).symm
  have size : es.size = xs.length := size_of_entries p4
  refine merge_ok p1 p2.1 p3 d1 d3 nm ne (fun i h => h.DictOfH (tupleKind (mixKind X.prog X.w)) D ((xs.take i).foldl (fun acc x => storedH acc x.1 x.2.1 x.2.2) ys) ∧ ∀ x ∈ xs, (tupleKind (mixKind X.prog X.w)).is h x.1 x.2.1) ?_ ⟨⟨od, es0, ep0, d1, d2, d3, d4, d5, d6⟩, p5⟩ ?_ ?_
  · intro emp e he b eb
    have dn : ds = [] := by
      have z0 : es0.toList = [] := by
        have := Array.isEmpty_iff.mp emp
        rw [this]
      rw [z0] at d4
      have z1 : ys = [] := List.map_eq_nil_iff.mp d4.symm
      rw [z1] at ly
      exact List.length_eq_zero_iff.mp ly.symm
    rw [p4] at he
    obtain ⟨x, hx, ex⟩ := List.mem_map.mp he
    subst ex
    refine ⟨fun E' R hR => ?_, ?_⟩
    · exact wpAny_specialOf (p5 x hx).typeIs F.slot_tuple_eq.lookup (hR _)
    · have hashes : (xs.map fun x => (tupleKind (mixKind X.prog X.w)).hash x.1).Nodup := by
        have z := apart dn
        have same : ∀ {l : List (List Key × V)} {m : List (List Key × Addr × Value)}, KT H l m → l.map (fun p => (tupleKind (mixKind X.prog X.w)).hash p.1) = m.map fun x => (tupleKind (mixKind X.prog X.w)).hash x.1 := by
          intro l m r
          induction r with
          | nil => rfl
          | cons c t ih => rw [List.map_cons, List.map_cons, ih, c.1]
        rw [← same rel]
        exact z
      have one := few_of hashes x
      rw [← Array.length_toList, Array.toList_filter, p4, List.filter_map, List.length_map]
      exact one
  · rintro i e s' he ⟨dd, keys⟩ Q' q'
    have at_ : xs[i]? = (xs[i]?) := rfl
    rw [entry_at p4 i] at he
    cases z : xs[i]? with
    | none => rw [z] at he; cases he
    | some x =>
      rw [z] at he
      have ee : entryOfKey (tupleKind (mixKind X.prog X.w)) x = e := Option.some.inj he
      subst ee
      have mem : x ∈ xs := List.mem_of_getElem? z
      have room : (tupleKind (mixKind X.prog X.w)).room X.A := Nat.lt_of_succ_lt hu
      have il : i < xs.length := (List.getElem?_eq_some_iff.mp z).1
      have small : ((xs.take i).foldl (fun acc x => storedH acc x.1 x.2.1 x.2.2) ys).length ≤ sizeLine := by
        have := fold_lenH (xs.take i) ys
        rw [List.length_take] at this
        omega
      refine put_h (knd := tupleKind (mixKind X.prog X.w)) (k := x.1) (a := x.2.1) (v := x.2.2) room (keys x mem) dd small fun h' dd' same => q' h' ⟨?_, fun y hy => ?_⟩ same
      · rw [take_fold _ z]
        exact dd'
      · obtain ⟨o', es', ep', g1, g2, g3, _⟩ := dd
        exact (tupleKind (mixKind X.prog X.w)).keeps (keys y hy) g1 g3 same
  · rintro h' ⟨dd, _⟩ same
    rw [size, List.take_length] at dd
    obtain ⟨o', es', ep', g1, g2, g3, g4, _, g6⟩ := dd
    have len : (kvs.foldl (fun acc p => putK acc p.1 p.2) ds).length ≤ sizeLine := by
      have := fold_len (f := fun p : List Key × V => p.1) (g := fun p => p.2) kvs ds
      omega
    have rel' := (kt_fold rel relD).keeps (H' := upd H D (.dT (kvs.foldl (fun acc p => putK acc p.1 p.2) ds))) fun c zs ec => by
      have away : c ≠ D := ne_of ec eD (fun y => nomatch y)
      rw [upd_ne away]; exact ec
    exact q _ (d_write (t' := s.toks) I (by rw [eD]; trivial) same ⟨o', g1⟩ ⟨len, nmD, _, rel', o', es', ep', g1, g2, g3, g4, g6⟩)
theorem mrg_k {kvs ds : List (Key × V)} {Q : Unit → Shared → Prop} (I : Inv X pins σ H s) (ra : Rd H a (.dK kvs)) (eD : H D = some (.dK ds)) (ne : a ≠ D) (fits : ds.length + kvs.length ≤ sizeLine) (q : ∀ s', Inv X pins σ (upd H D (.dK (kvs.foldl (fun acc p => putK acc p.1 p.2) ds))) s' → Q () s') :
    wpAny (model X.prog X.w) X.A (mergeMapping D (.ref a) false) Q E s := by
  obtain ⟨_, nm, xs, rel, oa, es, ep, p1, p2, p3, p4, p5, p6⟩ := dk_rd I.hok ra
  obtain ⟨_, nmD, ys, relD, dd0⟩ := dk_of I.hok eD
  have dd0' := dd0
  obtain ⟨od, es0, ep0, d1, d2, d3, d4, d5, d6⟩ := dd0
  have lx : xs.length = kvs.length := (Paired.length rel).symm
  have ly : ys.length = ds.length := (Paired.length relD).symm
  have size : es.size = xs.length := by
    have := p5.length
    simp only [Array.length_toList] at this
    exact this
  have pairs_at : ∀ {l : List DictEntry} {m : List (Key × Value)}, Pairs (mixKind X.prog X.w) l m → ∀ {i : Nat} {e : DictEntry}, l[i]? = some e → ∃ kv, m[i]? = some kv ∧ (mixKind X.prog X.w).is kv.1 e.key = true ∧ e.val = kv.2 := by
    intro l m r
    induction r with
    | nil => intro i e z; simp at z
    | @cons e0 kv0 es kvs h1 h2 t ih =>
      intro i e z
      cases i with
      | zero =>
        simp at z
        subst z
        exact ⟨kv0, by simp, h1, h2⟩
      | succ i => simpa using ih (i := i) (by simpa using z)
  refine merge_ok p1 p2.1 p3 d1 d3 nm ne (fun i h => h.DictOf (mixKind X.prog X.w) D ((xs.take i).foldl (fun acc x => stored acc x.1 x.2) ys)) ?_ dd0' ?_ ?_
  · intro _ e he b eb
    obtain ⟨i, hi⟩ := List.getElem?_of_mem he
    obtain ⟨kv, _, is_, _⟩ := pairs_at p5 hi
    rw [eb] at is_
    rcases keyIs_shape is_ with ⟨_, _, _, z⟩ | ⟨_, _, _, z⟩ <;> cases z
  · rintro i e s' he dd Q' q'
    have he' : es.toList[i]? = some e := by rw [Array.getElem?_toList]; exact he
    obtain ⟨kv, z, is_, ev⟩ := pairs_at p5 he'
    obtain ⟨k', is', eh⟩ := p4 e (Array.mem_toList_iff.mp (List.mem_of_getElem? he'))
    have ek := (mixKind X.prog X.w).inj _ _ _ is_ is'
    have il : i < xs.length := (List.getElem?_eq_some_iff.mp z).1
    have small : ((xs.take i).foldl (fun acc x => stored acc x.1 x.2) ys).length ≤ sizeLine := by
      have := fold_lenP (xs.take i) ys
      rw [List.length_take] at this
      omega
    rw [eh, ← ek, ev]
    refine put_p is_ dd small fun h' dd' same => q' h' ?_ same
    rw [take_fold _ z]
    exact dd'
  · intro h' dd same
    rw [size, List.take_length] at dd
    have len : (kvs.foldl (fun acc p => putK acc p.1 p.2) ds).length ≤ sizeLine := by
      have := fold_len (f := fun p : Key × V => p.1) (g := fun p => p.2) kvs ds
      omega
    have live : ∃ o, h'.get? D = some o := let ⟨o, _, _, g, _⟩ := dd; ⟨o, g⟩
    exact q _ (d_write (t' := s.toks) I (by rw [eD]; trivial) same live (dk_new len nmD (kv_fold rel relD) dd))
end
end
end VA
set_option Elab.async false
set_option linter.all false
set_option maxRecDepth 100000
set_option maxHeartbeats 800000
/-! V41: a tuple's hash, forced. -/
namespace VA
noncomputable section
open PySem PySem.Spec PyProof.Rows L2 Srt
section
variable {m p q t u : Nat}
def stepN (m p q t u a n : Nat) : Nat := (((a + n * p) % m * t) % m + (a + n * p) % m / u) * q % m
def accN (m p q t u : Nat) : List Nat → Nat → Nat
  | [], a => a
  | n :: r, a => accN m p q t u r (stepN m p q t u a n)
theorem foldl_acc : ∀ (l : List Nat) (a : Nat), (∀ n ∈ l, n < m) → (l.map fun n => ((n : Nat) : Int)).foldl (fun acc h =>
      let acc := (acc + (h % (m : Int)).toNat * p) % m
      let acc := (acc * t) % m + acc / u
      (acc * q) % m) a = accN m p q t u l a
  | [], _, _ => rfl
  | n :: r, a, h => by
    have hn := h n List.mem_cons_self
    have e : (((n : Nat) : Int) % (m : Int)).toNat = n := by
      rw [show (((n : Nat) : Int) % (m : Int)) = ((n % m : Nat) : Int) from rfl, Int.toNat_natCast]
      exact Nat.mod_eq_of_lt hn
    rw [List.map_cons, List.foldl_cons]
    dsimp only
    rw [e]
    exact foldl_acc r _ fun m hm => h m (List.mem_cons_of_mem _ hm)
end
theorem small_hash {n : Nat} (h : n < 1000) : hashInt (n : Int) = n := by
  have e : (((n : Int).natAbs : Int) % ((2 ^ 61 - 1 : Nat) : Int)) = n := by
    rw [Int.natAbs_natCast]
    exact Int.emod_eq_of_lt (Int.natCast_nonneg n) (by omega)
  have nn : ¬ ((n : Int) < 0) := by omega
  have ne : ((n : Int) == -1) = false := by
    rw [beq_eq_false_iff_ne]; omega
  have raw : rawHash (n : Int) = n := by
    unfold rawHash
    dsimp only
    rw [e, if_neg nn, if_neg (by rw [ne]; exact Bool.false_ne_true)]
  unfold hashInt
  rw [raw, if_neg (by rw [ne]; exact Bool.false_ne_true)]
def redH (m h : Nat) (b : Nat) : Int := reduceHash (if b == m - 1 then 1546275796 else if b < h then (b : Int) else (b : Int) - m)
theorem hash_tuple {P : Program} {w : World} {ns : List Nat} (h : ∀ n ∈ ns, n < 1000) : (tupleKind (mixKind P w)).hash (ns.map fun n => Sum.inl ((n : Nat) : Int)) =
    redH (2 ^ 64) (2 ^ 63) ((accN (2 ^ 64) 14029467366897019727 11400714785074694791 (2 ^ 31) (2 ^ 33) ns 2870177450012600261 + (ns.length ^^^ (2870177450012600261 ^^^ 3527539))) % 2 ^ 64) := by
  have e : (ns.map fun n => (Sum.inl ((n : Nat) : Int) : Key)).map (keyH w) = ns.map fun n => ((n : Nat) : Int) := by
    rw [List.map_map]
    exact List.map_congr_left fun n hn => small_hash (h n hn)
  have z : (tupleKind (mixKind P w)).hash (ns.map fun n => Sum.inl ((n : Nat) : Int)) = reduceHash (Builtin.Tuple.tupleHashOf ((ns.map fun n => (Sum.inl ((n : Nat) : Int) : Key)).map (keyH w))) := rfl
  rw [z, e]
  unfold Builtin.Tuple.tupleHashOf redH
  dsimp only
  rw [foldl_acc ns _ fun n hn => Nat.lt_of_lt_of_le (h n hn) (by decide), List.length_map]
theorem red_inj {b c : Nat} (hb : b < 2 ^ 64) (hc : c < 2 ^ 64) (nb : b ≠ 2 ^ 64 - 1) (nc : c ≠ 2 ^ 64 - 1) (e : redH (2 ^ 64) (2 ^ 63) b = redH (2 ^ 64) (2 ^ 63) c) : b = c := by
  have one : ∀ {x : Nat}, x < 2 ^ 64 → x ≠ 2 ^ 64 - 1 → redH (2 ^ 64) (2 ^ 63) x = if x < 2 ^ 63 then (x : Int) else (x : Int) - (2 ^ 64 : Nat) := by
    intro x hx nx
    have z : (x == 2 ^ 64 - 1) = false := by
      rw [beq_eq_false_iff_ne]; exact nx
    unfold redH
    rw [if_neg (by rw [z]; exact Bool.false_ne_true)]
    generalize hy : (if x < 2 ^ 63 then (x : Int) else (x : Int) - (2 ^ 64 : Nat)) = y
    have r1 : -(2 ^ 63 : Int) ≤ y ∧ y < 2 ^ 63 ∧ y ≠ -1 := by
      rw [← hy]
      split <;> omega
    unfold reduceHash
    have a1 : decide (-(2 ^ 63 : Int) ≤ y) = true := decide_eq_true r1.1
    have a2 : decide (y < 2 ^ 63) = true := decide_eq_true r1.2.1
    rw [a1, a2]
    have a3 : (y == -1) = false := by
      rw [beq_eq_false_iff_ne]; exact r1.2.2
    rw [Bool.and_self, if_pos rfl, if_neg (by rw [a3]; exact Bool.false_ne_true)]
  rw [one hb nb, one hc nc] at e
  split at e <;> split at e <;> omega
section
variable {α : Type}
def hAcc (m p q t u : Nat) : List Nat → Nat → (Nat → α) → α
  | [], a, k => k a
  | n :: r, a, k => sqN ((a + n * p) % m) fun b => sqN ((b * t) % m + b / u) fun c => sqN (c * q % m) fun d => hAcc m p q t u r d k
theorem hAcc_eq {m p q t u : Nat} : ∀ (l : List Nat) (a : Nat) (k : Nat → α), hAcc m p q t u l a k = k (accN m p q t u l a)
  | [], _, _ => rfl
  | n :: r, a, k => by simp only [hAcc, accN, stepN, sqN_eq, hAcc_eq r]
def natsOf : List W → Option (List Nat)
  | [] => some []
  | x :: xs => match x with
    | .int i => (match i with
      | .ofNat n => (match Nat.blt n 1000 with
        | true => (match natsOf xs with
          | some ns => some (n :: ns)
          | Option.none => Option.none)
        | false => Option.none)
      | .negSucc _ => Option.none)
    | _ => Option.none
theorem natsOf_ok : ∀ {xs : List W} {ns : List Nat}, natsOf xs = some ns → (∀ n ∈ ns, n < 1000) ∧ ksOf xs = some (ns.map fun n => Sum.inl ((n : Nat) : Int))
  | [], _, e => by cases e; exact ⟨fun _ h => (nomatch h), rfl⟩
  | x :: xs, ns, e => by
    cases x with
    | int i =>
      cases i with
      | negSucc n => cases e
      | ofNat n =>
        have e' : (match Nat.blt n 1000 with
          | true => (match natsOf xs with
            | some ns => some (n :: ns)
            | Option.none => Option.none)
          | false => Option.none) = some ns := e
        cases z : Nat.blt n 1000 with
        | false => rw [z] at e'; cases e'
        | true =>
          rw [z] at e'
          cases q : natsOf xs with
          | none => rw [q] at e'; cases e'
          | some ms =>
            rw [q] at e'
            cases e'
            obtain ⟨h1, h2⟩ := natsOf_ok q
            refine ⟨fun m hm => ?_, ?_⟩
            · rcases List.mem_cons.mp hm with y | y
              · rw [y]; exact Nat.le_of_ble_eq_true z
              · exact h1 m y
            · show (match kOf (.int (.ofNat n)), ksOf xs with
                | some k, some ks => some (k :: ks)
                | _, _ => Option.none) = _
              rw [h2]
              rfl
    | _ => cases e
def memN (b : Nat) : List Nat → Bool
  | [] => false
  | c :: r => match Nat.beq b c with
    | true => true
    | false => memN b r
theorem memN_ok {b : Nat} : ∀ {l : List Nat}, memN b l = false → b ∉ l
  | [], _, h => nomatch h
  | c :: r, e, h => by
    simp only [memN] at e
    cases z : Nat.beq b c with
    | true => rw [z] at e; cases e
    | false =>
      rw [z] at e
      rcases List.mem_cons.mp h with y | y
      · exact Nat.ne_of_beq_eq_false z y
      · exact memN_ok e y
/-- the keys' hashes differ -/
def hsK : List W → List Nat → R → R
  | [], _, r => r
  | x :: xs, seen, r => match x with
    | .tup ys => (match natsOf ys with
      | some ns => hAcc 18446744073709551616 14029467366897019727 11400714785074694791 2147483648 8589934592 ns 2870177450012600261 fun a => sqN ((a + (lenN ns ^^^ 2870177450013471926)) % 18446744073709551616) fun b => match Nat.beq b 18446744073709551615 with
        | true => .bad
        | false => (match memN b seen with
          | true => .bad
          | false => hsK xs (b :: seen) r)
      | Option.none => .bad)
    | _ => .bad
end
section
variable {K : PySem.W.Frag} {T : Tab} {W₀ : WX} {σ : L2.St} {ρ : Rho} {H : Hp} {Q : VK}
theorem hsK_go {P : Program} {w : World} : ∀ {ks : List W} {seen : List Nat} {r : R} {kvs : List (List Key × V)}, FinE K T W₀ σ ρ H (hsK ks seen r) Q → ks.map tOf = kvs.map (fun p => some p.1) →
    FinE K T W₀ σ ρ H r Q ∧ ∃ bs : List Nat, (kvs.map fun p => (tupleKind (mixKind P w)).hash p.1) = bs.map (redH (2 ^ 64) (2 ^ 63)) ∧ bs.Nodup ∧ ∀ b ∈ bs, b ∉ seen ∧ b < 2 ^ 64 ∧ b ≠ 2 ^ 64 - 1
  | [], _, _, [], f, _ => ⟨f, [], rfl, List.nodup_nil, fun _ h => nomatch h⟩
  | [], _, _, _ :: _, _, e => nomatch e
  | _ :: _, _, _, [], _, e => nomatch e
  | x :: xs, seen, r, p :: kvs, f, e => by
    injection e with e1 e2
    cases x with
    | tup ys =>
      simp only [hsK] at f
      cases z : natsOf ys with
      | none => rw [z] at f; exact f.elim
      | some ns =>
        rw [z] at f
        obtain ⟨h1, h2⟩ := natsOf_ok z
        simp only [hAcc_eq, sqN_eq, lenN_eq] at f
        have ek : p.1 = ns.map fun n => Sum.inl ((n : Nat) : Int) := by
          have q : tOf (.tup ys) = some (ns.map fun n => Sum.inl ((n : Nat) : Int)) := h2
          rw [q] at e1
          exact (Option.some.inj e1).symm
        generalize hb : (accN 18446744073709551616 14029467366897019727 11400714785074694791 2147483648 8589934592 ns 2870177450012600261 + (ns.length ^^^ 2870177450013471926)) % 18446744073709551616 = b at f
        have lt : b < 2 ^ 64 := by rw [← hb]; exact Nat.mod_lt _ (by decide)
        cases q1 : Nat.beq b 18446744073709551615 with
        | true => rw [q1] at f; exact f.elim
        | false =>
          rw [q1] at f
          cases q2 : memN b seen with
          | true => simp only [q2] at f; exact f.elim
          | false =>
            simp only [q2] at f
            obtain ⟨f', bs, g1, g2, g3⟩ := hsK_go (P := P) (w := w) f e2
            have hash : (tupleKind (mixKind P w)).hash p.1 = redH (2 ^ 64) (2 ^ 63) b := by
              have c1 : (2 ^ 64 : Nat) = 18446744073709551616 := by decide
              have c2 : (2 ^ 31 : Nat) = 2147483648 := by decide
              have c3 : (2 ^ 33 : Nat) = 8589934592 := by decide
              have c4 : (2870177450012600261 ^^^ 3527539 : Nat) = 2870177450013471926 := by decide
              rw [ek, hash_tuple h1, ← hb, c1, c2, c3, c4]
            refine ⟨f', b :: bs, ?_, List.nodup_cons.mpr ⟨fun m => (g3 b m).1 List.mem_cons_self, g2⟩, fun c hc => ?_⟩
            · rw [List.map_cons, List.map_cons, g1, hash]
            · rcases List.mem_cons.mp hc with y | y
              · rw [y]; exact ⟨memN_ok q2, lt, Nat.ne_of_beq_eq_false q1⟩
              · exact ⟨fun m => (g3 c y).1 (List.mem_cons_of_mem _ m), (g3 c y).2⟩
    | _ => exact f.elim
theorem hsK_ok {P : Program} {w : World} {ks : List W} {r : R} {kvs : List (List Key × V)} (f : FinE K T W₀ σ ρ H (hsK ks [] r) Q) (e : ks.map tOf = kvs.map (fun p => some p.1)) : FinE K T W₀ σ ρ H r Q ∧ (kvs.map fun p => (tupleKind (mixKind P w)).hash p.1).Nodup := by
  obtain ⟨f', bs, g1, g2, g3⟩ := hsK_go (P := P) (w := w) f e
  refine ⟨f', ?_⟩
  rw [g1]
  exact List.pairwise_map.mpr (List.Pairwise.imp_of_mem (fun ha hb ne z => ne (red_inj (g3 _ ha).2.1 (g3 _ hb).2.1 (g3 _ ha).2.2 (g3 _ hb).2.2 z)) g2)
end
end
end VA
set_option Elab.async false
set_option linter.all false
set_option maxRecDepth 100000
set_option maxHeartbeats 2000000
/-! V42: {**a, **b}. -/
namespace VA
noncomputable section
open PySem PySem.Spec PyProof.Rows L2 Srt
def tMrgK (ta tb : TE) : TE := fun σ H Q => ∀ D : Addr, H D = none → ta σ (upd H D (.dK [])) fun x H1 => ∃ a kvs, x = .ref a ∧ a ≠ D ∧ Rd H1 a (.dK kvs) ∧ H1 D = some (.dK []) ∧ kvs.length ≤ sizeLine ∧
  tb σ (upd H1 D (.dK (kvs.foldl (fun acc p => putK acc p.1 p.2) []))) fun y H2 => ∃ b kvs2 ds, y = .ref b ∧ b ≠ D ∧ Rd H2 b (.dK kvs2) ∧ H2 D = some (.dK ds) ∧ ds.length + kvs2.length ≤ sizeLine ∧ Q (.ref D) (upd H2 D (.dK (kvs2.foldl (fun acc p => putK acc p.1 p.2) ds)))
def tMrgT (P : Program) (w : World) (ta tb : TE) : TE := fun σ H Q => ∀ D : Addr, H D = none → ta σ (upd H D (.dT [])) fun x H1 => ∃ a kvs, x = .ref a ∧ a ≠ D ∧ Rd H1 a (.dT kvs) ∧ H1 D = some (.dT []) ∧ (kvs.map fun p => (tupleKind (mixKind P w)).hash p.1).Nodup ∧ kvs.length ≤ sizeLine ∧
  tb σ (upd H1 D (.dT (kvs.foldl (fun acc p => putK acc p.1 p.2) []))) fun y H2 => ∃ b ds, y = .ref b ∧ b ≠ D ∧ H2 D = some (.dT ds) ∧
    ((Rd H2 b (.dK []) ∧ Q (.ref D) H2) ∨ ∃ kvs2, Rd H2 b (.dT kvs2) ∧ ds ≠ [] ∧ ds.length + kvs2.length ≤ sizeLine ∧ Q (.ref D) (upd H2 D (.dT (kvs2.foldl (fun acc p => putK acc p.1 p.2) ds))))
section
variable {X : Cx} {ea eb : Expr} {ta tb : TE} {pos : Pos}
/-- an empty dict of ints and texts, merged into a dict of tuples -/
theorem mrg_0 {pins : List (Addr × Obj)} {σ : L2.St} {H : Hp} {s : Shared} {E : Value → Shared → Prop} {a D : Addr} {ds : List (List Key × V)} {Q : Unit → Shared → Prop} (I : Inv X pins σ H s) (ra : Rd H a (.dK [])) (eD : H D = some (.dT ds)) (ne : a ≠ D) (q : Q () s) :
    wpAny (model X.prog X.w) X.A (mergeMapping D (.ref a) false) Q E s := by
  obtain ⟨_, nm, xs, rel, oa, es, ep, p1, p2, p3, p4, p5, p6⟩ := dk_rd I.hok ra
  obtain ⟨_, nmD, ys, relD, od, es0, ep0, d1, d2, d3, d4, d5, d6⟩ := dt_of I.hok eD
  cases rel
  have size : es.size = 0 := by
    have := p5.length
    simp only [Array.length_toList] at this
    exact this
  refine merge_ok p1 p2.1 p3 d1 d3 nm ne (fun i h => h = s.heap) ?_ rfl ?_ ?_
  · intro _ e he
    have z : es.toList = [] := List.length_eq_zero_iff.mp (by rw [Array.length_toList]; exact size)
    rw [z] at he
    cases he
  · intro i e s' he
    have := (Array.getElem?_eq_some_iff.mp he).1
    omega
  · rintro h' rfl _
    exact q
theorem pe_mrgK (pa : PE X ea ta) (pb : PE X eb tb) : PE X (.Dict [none, none] [ea, eb] pos) (tMrgK ta tb) := by
  refine ⟨fun pins s σ H Q I w => ?_⟩
  rw [arm_eval_Dict]
  refine wpAny_bind <| wpAny_standAt ?_
  have new : H s.heap.objs.size = none := I.hok.fresh (Nat.le_refl _)
  have I1 := I.laid (a := s.heap.objs.size) (o := .dK []) (h' := s.heap.push { cls := .type "dict", data := .dict #[] }) (t' := s.toks) (fun _ _ z => Heap.get?_push_of_some _ z) (Nat.le_refl _) (dk_empty s.heap I.big)
  refine display2 (wpAny_bind (thn (pa.run pins _ σ _ _ I1 (w _ new)) ?_))
  rintro u s1 ⟨x, H1, I2, rx, a, kvs, rfl, ne, ra, eD, fits, q⟩
  cases rx
  refine wpAny_bind (wpAny_standAt (wpAny_pure (mrg_k I2 ra eD ne (by simpa using fits) fun s2 I3 => wpAny_bind (thn (pb.run pins s2 σ _ _ I3 q) ?_))))
  rintro u2 s3 ⟨y, H2, I4, ry, b, kvs2, ds, rfl, ne2, rb, eD2, fits2, q2⟩
  cases ry
  exact wpAny_bind (wpAny_standAt (wpAny_pure (mrg_k I4 rb eD2 ne2 fits2 fun s4 I5 => ⟨.ref s.heap.objs.size, _, I5, rfl, q2⟩)))
theorem pe_mrgT (hu : X.A.units + 1 < cLine) (pa : PE X ea ta) (pb : PE X eb tb) : PE X (.Dict [none, none] [ea, eb] pos) (tMrgT X.prog X.w ta tb) := by
  refine ⟨fun pins s σ H Q I w => ?_⟩
  rw [arm_eval_Dict]
  refine wpAny_bind <| wpAny_standAt ?_
  have new : H s.heap.objs.size = none := I.hok.fresh (Nat.le_refl _)
  have I1 := I.laid (a := s.heap.objs.size) (o := .dT []) (h' := s.heap.push { cls := .type "dict", data := .dict #[] }) (t' := s.toks) (fun _ _ z => Heap.get?_push_of_some _ z) (Nat.le_refl _) (dt_empty s.heap I.big)
  refine display2 (wpAny_bind (thn (pa.run pins _ σ _ _ I1 (w _ new)) ?_))
  rintro u s1 ⟨x, H1, I2, rx, a, kvs, rfl, ne, ra, eD, apart, fits, q⟩
  cases rx
  refine wpAny_bind (wpAny_standAt (wpAny_pure (mrg_t hu I2 ra eD ne (fun _ => apart) (by simpa using fits) fun s2 I3 => wpAny_bind (thn (pb.run pins s2 σ _ _ I3 q) ?_))))
  rintro u2 s3 ⟨y, H2, I4, ry, b, ds, rfl, ne2, eD2, q2⟩
  cases ry
  refine wpAny_bind <| wpAny_standAt <| wpAny_pure ?_
  rcases q2 with ⟨rb, q2⟩ | ⟨kvs2, rb, some_, fits2, q2⟩
  · exact mrg_0 I4 rb eD2 ne2 ⟨.ref s.heap.objs.size, H2, I4, rfl, q2⟩
  · exact mrg_t hu I4 rb eD2 ne2 (fun z => absurd z some_) fits2 fun s4 I5 => ⟨.ref s.heap.objs.size, _, I5, rfl, q2⟩
end
/-! ### the reading -/
def dOf (w : W) (k : List W → List W → R) : R := match w with
  | .dct ks vs => k ks vs
  | _ => .bad
/-- all pairs of a dict put into another -/
def foldD : List W → List W → List W → List W → (List W → List W → R) → R
  | [], _, ls, us, k => k ls us
  | x :: ks, vs, ls, us, k => match vs with
    | v :: vs => putD ls us x v fun ls' us' => foldD ks vs ls' us' k
    | [] => .bad
def headK (ks : List W) (r : R) : R := match ks with
  | [] => r
  | x :: _ => (match isSm (kOf x) with
    | true => r
    | false => .bad)
def headT (ks : List W) (r : R) : R := match ks with
  | [] => .bad
  | x :: _ => (match isSm (tOf x) with
    | true => r
    | false => .bad)
def mMrgK (m : Bool) (a b : D) : D := fun ca e h => bndC (a ca e h) fun w1 h1 => dOf w1 fun k1 v1 => headK k1 (lenOk k1 (foldD k1 v1 [] [] fun ls us => bndC (b ca e h1) fun w2 h2 => dOf w2 fun k2 v2 => headK k2 (lenOk k2 (foldD k2 v2 ls us fun ls' us' => mkD m ls' us' e h2))))
def mMrgT (m : Bool) (a b : D) : D := fun ca e h => bndC (a ca e h) fun w1 h1 => dOf w1 fun k1 v1 => headT k1 (hsK k1 [] (lenOk k1 (foldD k1 v1 [] [] fun ls us => bndC (b ca e h1) fun w2 h2 => dOf w2 fun k2 v2 => match k2 with
  | [] => mkD m ls us e h2
  | k :: r => headT (k :: r) (lenOk (k :: r) (foldD (k :: r) v2 ls us fun ls' us' => mkD m ls' us' e h2)))))
section
variable {K : PySem.W.Frag} {T : Tab} {ca : CallT} {W₀ : WX} {σ : L2.St} {ρ ρ0 : Rho} {H H0 : Hp} {Q : VK} {κ : Type} [DecidableEq κ] {f : W → Option κ}
theorem putD_len {ks vs : List W} {x v : W} {k : List W → List W → R} (g : FinE K T W₀ σ ρ0 H0 (putD ks vs x v k) Q) : Nat.blt (lenN ks) lim = true := by
  cases z : Nat.blt (lenN ks) lim with
  | true => rfl
  | false => simp only [putD, z] at g; exact g.elim
theorem foldD_ok (hf : ∀ {a b : W} {x y : κ}, f a = some x → f b = some y → keq a b = decide (x = y)) {k : List W → List W → R} : ∀ {ks vs ls us : List W} {kvs ds : List (κ × V)}, FinE K T W₀ σ ρ0 H0 (foldD ks vs ls us k) Q → ks.map f = kvs.map (fun p => some p.1) → RWs K T ρ H vs (kvs.map fun p => p.2) →
    ls.map f = ds.map (fun p => some p.1) → RWs K T ρ H us (ds.map fun p => p.2) → ∃ ls' us', FinE K T W₀ σ ρ0 H0 (k ls' us') Q ∧ ls'.map f = (kvs.foldl (fun acc p => putK acc p.1 p.2) ds).map (fun p => some p.1) ∧ RWs K T ρ H us' ((kvs.foldl (fun acc p => putK acc p.1 p.2) ds).map fun p => p.2)
  | [], _, ls, us, [], ds, g, _, _, e2, r2 => ⟨ls, us, g, e2, r2⟩
  | [], _, _, _, _ :: _, _, _, e, _, _, _ => nomatch e
  | _ :: _, _, _, _, [], _, _, e, _, _, _ => nomatch e
  | x :: ks, _, ls, us, p :: kvs, ds, g, e, .cons r t, e2, r2 => by
    injection e with e1 e'
    simp only [foldD] at g
    obtain ⟨ls', us', z1, z2, z3⟩ := put_gen hf e1 r (q := fun ls' us' => foldD ks _ ls' us' k) e2 r2 (putD_len g)
    rw [z1] at g
    exact foldD_ok (kvs := kvs) (ds := putK ds p.1 p.2) hf g e' t z2 z3
theorem headK_ok {ks : List W} {r : R} (g : FinE K T W₀ σ ρ0 H0 (headK ks r) Q) : FinE K T W₀ σ ρ0 H0 r Q ∧ ∀ x l, ks = x :: l → ∃ k, kOf x = some k := by
  cases ks with
  | nil => exact ⟨g, fun _ _ z => nomatch z⟩
  | cons x l =>
    cases z : isSm (kOf x) with
    | false => simp only [headK, z] at g; exact g.elim
    | true =>
      simp only [headK, z] at g
      exact ⟨g, fun _ _ e => by cases e; exact isSm_some z⟩
theorem headT_ok {ks : List W} {r : R} (g : FinE K T W₀ σ ρ0 H0 (headT ks r) Q) : FinE K T W₀ σ ρ0 H0 r Q ∧ ∃ x l k, ks = x :: l ∧ tOf x = some k := by
  cases ks with
  | nil => exact g.elim
  | cons x l =>
    cases z : isSm (tOf x) with
    | false => simp only [headT, z] at g; exact g.elim
    | true =>
      simp only [headT, z] at g
      obtain ⟨k, e⟩ := isSm_some z
      exact ⟨g, x, l, k, rfl, e⟩
theorem as_K {ks vs : List W} {v : V} (r : RW K T ρ H (.dct ks vs) v) (hk : ∀ x l, ks = x :: l → ∃ k, kOf x = some k) : ∃ a kvs, v = .ref a ∧ FrzAt H a (.dK kvs) ∧ ks.map kOf = kvs.map (fun p => some p.1) ∧ RWs K T ρ H vs (kvs.map fun p => p.2) := by
  cases r with
  | dctK h m e hu r => subst hu; exact ⟨_, _, rfl, h, e, r⟩
  | @dctT _ _ a kvs us h m e hu r =>
    obtain ⟨e, ne⟩ := e
    cases ks with
    | nil => cases kvs with
      | nil => exact absurd rfl ne
      | cons _ _ => cases e
    | cons x l =>
      obtain ⟨k, hk⟩ := hk x l rfl
      cases kvs with
      | nil => cases e
      | cons p kvs =>
        injection e with e1 _
        exact (kt_no hk e1).elim
theorem as_T {ks vs : List W} {v : V} {x : W} {l : List W} {k : List Key} (r : RW K T ρ H (.dct ks vs) v) (hx : ks = x :: l) (hk : tOf x = some k) : ∃ a kvs, v = .ref a ∧ FrzAt H a (.dT kvs) ∧ ks.map tOf = kvs.map (fun p => some p.1) ∧ kvs ≠ [] ∧ RWs K T ρ H vs (kvs.map fun p => p.2) := by
  subst hx
  cases r with
  | dctT h m e hu r => subst hu; exact ⟨_, _, rfl, h, e.1, e.2, r⟩
  | @dctK _ _ a kvs us h m e hu r =>
    cases kvs with
    | nil => cases e
    | cons p kvs =>
      injection e with e1 _
      exact (kt_no e1 hk).elim
theorem putK_ne {kvs : List (κ × V)} {k : κ} {v : V} : putK kvs k v ≠ [] := fun z => by
  have there := valV_put kvs k k v
  rw [z, if_pos rfl] at there
  cases there
theorem foldP_ne : ∀ {l : List (κ × V)} {ds : List (κ × V)}, l ≠ [] ∨ ds ≠ [] → l.foldl (fun acc p => putK acc p.1 p.2) ds ≠ []
  | [], _, h => h.resolve_left fun z => z rfl
  | p :: l, ds, _ => foldP_ne (l := l) (.inr putK_ne)
end
section
variable {X : Cx} {T : Tab} {ca : CallT} {W₀ : WX} {σ : L2.St} {Q : VK}
/-- behind one merge: the new dict has another object -/
theorem made_o {K : PySem.W.Frag} {ρ0 ρ1 : Rho} {H0 H1 : Hp} {D : Addr} {o0 o1 : HO} {h0 h1 : Hpi} {o : HO} {ks vs : List W} (rh0 : RelH K T ρ0 H0 h0) (nD : H0 D = Option.none) (x1 : StpX (fun a => a = D) (ρ0.hd D) (upd H0 D o0) ρ1 H1) (rh1 : RelH K T ρ1 H1 h1) (hD : H1 D = some o1) (d : DctO K T ρ1 H1 o ks vs) :
    StpX (fun a => a = D) (ρ0.hd D) (upd H0 D o0) ρ1 (upd H1 D o) ∧ RelH K T ρ1 (upd H1 D o) h1 ∧ DctO K T ρ1 (upd H1 D o) o ks vs ∧ (∀ n, n < ρ1.next → ρ1.pl n ≠ D) ∧ ρ1.mu D ∧ ∀ a, (fun a => a = D) a → ρ1.mu a := by
  have np := not_place (stp_hd (D := D) ρ0 o0 nD) x1 rh0 nD upd_same
  have mu : ρ1.mu D := x1.up D (.inr rfl)
  have hP : ∀ a, (fun a => a = D) a → ρ1.mu a := fun a z => by rw [show a = D from z]; exact mu
  have xu := stpX_upd (o := o) mu hD (rh1.nt mu hD)
  exact ⟨x1.trans xu, relH_upd d.mut.2 rh1 mu np, DctO.stepX xu hP d, np, mu, hP⟩
theorem REnv.over {K : PySem.W.Frag} {ρ0 ρ1 : Rho} {H0 H1 : Hp} {D : Addr} {o0 : HO} {e : List W} (re : REnv K T ρ0 H0 e σ) (nD : H0 D = Option.none) (x1 : StpX (fun a => a = D) (ρ0.hd D) (upd H0 D o0) ρ1 H1) : REnv K T ρ1 H1 e σ :=
  (re.step (stp_hd (D := D) ρ0 o0 nD)).stepX x1 fun a z => .inr z
theorem t_mrgK {m : Bool} {da db : D} {H : Hp} (w : tE X.K T ca W₀ (mMrgK m da db) σ H Q) : tMrgK (tE X.K T ca noW da) (tE X.K T ca noW db) σ H (lockQ m Q) := by
  obtain ⟨ρ, e, h, re, rh, f⟩ := w
  intro D nD
  have sD := stp_hd (D := D) ρ (.dK []) nD
  have np0 := not_place sD (StpX.refl _ _ _) rh nD upd_same
  refine ⟨ρ.hd D, e, h, re.step sD, relH_hd rh _ rfl nD, (fin_bndC f).imp ?_⟩
  rintro v1 H1 ⟨ρ1, w1, h1, s1, rh1, r1, f1⟩
  have hD1 : H1 D = some (.dK []) := s1.hld _ _ upd_same (fun z => z) np0
  have x1 : StpX (fun a => a = D) (ρ.hd D) (upd H D (.dK [])) ρ1 H1 := s1.imp fun _ _ _ z => z.elim
  cases w1 with
  | dct k1 v1 =>
    obtain ⟨f2, hk1⟩ := headK_ok (show FinE X.K T W₀ σ ρ H (headK k1 _) Q from f1)
    obtain ⟨a, kvs, rfl, ⟨oa, ha⟩, ek, rv⟩ := as_K r1 hk1
    obtain ⟨len1, f3⟩ := lenOk_ok f2
    obtain ⟨ls, us, f4, el, ru⟩ := foldD_ok (f := kOf) (ds := []) (ls := []) (us := []) keq_k f3 ek rv rfl .nil
    have aD : a ≠ D := fun z => by rw [z, hD1] at ha; cases ha
    obtain ⟨y1, rhy, dy, _, muD, hP1⟩ := made_o (o := .dK (kvs.foldl (fun acc p => putK acc p.1 p.2) [])) rh nD x1 rh1 hD1 (.inl ⟨_, _, rfl, el, rfl, ru⟩)
    have lk1 : kvs.length ≤ sizeLine := by
      have := keys_len ek
      have := lim_line
      omega
    refine ⟨a, kvs, rfl, aD, .inr ⟨oa, ha⟩, hD1, lk1, ρ1, e, h1, re.over nD y1, rhy, (fin_bndC f4).imp ?_⟩
    rintro v2 H2 ⟨ρ2, w2, h2, s2, rh2, r2, f5⟩
    have np1 := not_place sD y1 rh nD upd_same
    have hD2 := s2.hld _ _ (upd_same (H := H1) (a := D)) (fun z => z) np1
    have x2 := y1.trans (s2.imp fun _ _ _ z => z.elim)
    cases w2 with
    | dct k2 v2 =>
      obtain ⟨f6, hk2⟩ := headK_ok (show FinE X.K T W₀ σ ρ H (headK k2 _) Q from f5)
      obtain ⟨b, kvs2, rfl, ⟨ob, hb⟩, ek2, rv2⟩ := as_K r2 hk2
      obtain ⟨len2, f7⟩ := lenOk_ok f6
      have d2 := dy.step s2
      obtain ⟨ls', us', f8, el', ru'⟩ := foldD_ok (f := kOf) keq_k f7 ek2 rv2 el (ru.stepX (stpX_upd muD hD1) hP1 |>.step s2)
      have bD : b ≠ D := fun z => by rw [z, hD2] at hb; cases hb
      refine ⟨b, kvs2, _, rfl, bD, .inr ⟨ob, hb⟩, hD2, ?_, ?_⟩
      · have l1 := keys_len ek2
        have l2 := keys_len ek
        have l3 := fold_len (f := fun p : Key × V => p.1) (g := fun p => p.2) kvs []
        have l4 : (kvs.foldl (fun acc p => putK acc p.1 p.2) []).length ≤ ([] : List (Key × V)).length + kvs.length := l3
        rw [List.length_nil] at l4
        rw [sizeLine_eq]
        have : lim = 100000 := rfl
        omega
      · have np2 := not_place sD x2 rh nD upd_same
        exact fin_mkD f8 sD x2 rh2 np2 nD (x2.up D (.inr rfl)) rh.on hD2 (.inl ⟨_, _, rfl, el', rfl, ru'⟩)
    | _ => exact f5.elim
  | _ => exact f1.elim
theorem SE.mrgK {m : Bool} {ea eb : Expr} {da db : D} {pos : Pos} (ha : SE T ca X ea da) (hb : SE T ca X eb db) : SE T ca X (.Dict [none, none] [ea, eb] pos) (mMrgK m da db) := fun W₀ t =>
  (pe_m m (pe_mrgK (ha noW noTk) (hb noW noTk))).weak fun _ _ _ h => t_mrgK h
theorem t_mrgT {m : Bool} {da db : D} {H : Hp} (w : tE X.K T ca W₀ (mMrgT m da db) σ H Q) : tMrgT X.prog X.w (tE X.K T ca noW da) (tE X.K T ca noW db) σ H (lockQ m Q) := by
  obtain ⟨ρ, e, h, re, rh, f⟩ := w
  intro D nD
  have sD := stp_hd (D := D) ρ (.dT []) nD
  have np0 := not_place sD (StpX.refl _ _ _) rh nD upd_same
  refine ⟨ρ.hd D, e, h, re.step sD, relH_hd rh _ rfl nD, (fin_bndC f).imp ?_⟩
  rintro v1 H1 ⟨ρ1, w1, h1, s1, rh1, r1, f1⟩
  have hD1 : H1 D = some (.dT []) := s1.hld _ _ upd_same (fun z => z) np0
  have x1 : StpX (fun a => a = D) (ρ.hd D) (upd H D (.dT [])) ρ1 H1 := s1.imp fun _ _ _ z => z.elim
  cases w1 with
  | dct k1 v1 =>
    obtain ⟨f2, x0, l0, kk0, hk1, tk1⟩ := headT_ok (show FinE X.K T W₀ σ ρ H (headT k1 _) Q from f1)
    obtain ⟨a, kvs, rfl, ⟨oa, ha⟩, ek, nek, rv⟩ := as_T r1 hk1 tk1
    obtain ⟨f2', apart⟩ := hsK_ok (P := X.prog) (w := X.w) f2 ek
    obtain ⟨len1, f3⟩ := lenOk_ok f2'
    obtain ⟨ls, us, f4, el, ru⟩ := foldD_ok (f := tOf) (ds := []) (ls := []) (us := []) keq_t f3 ek rv rfl .nil
    have aD : a ≠ D := fun z => by rw [z, hD1] at ha; cases ha
    have ne1 : kvs.foldl (fun acc p => putK acc p.1 p.2) [] ≠ [] := foldP_ne (.inl nek)
    obtain ⟨y1, rhy, dy, _, muD, hP1⟩ := made_o (o := .dT (kvs.foldl (fun acc p => putK acc p.1 p.2) [])) rh nD x1 rh1 hD1 (.inr ⟨_, _, rfl, ⟨el, ne1⟩, rfl, ru⟩)
    have lk1 : kvs.length ≤ sizeLine := by
      have := keys_len ek
      have := lim_line
      omega
    refine ⟨a, kvs, rfl, aD, .inr ⟨oa, ha⟩, hD1, apart, lk1, ρ1, e, h1, re.over nD y1, rhy, (fin_bndC f4).imp ?_⟩
    rintro v2 H2 ⟨ρ2, w2, h2, s2, rh2, r2, f5⟩
    have np1 := not_place sD y1 rh nD upd_same
    have hD2 := s2.hld _ _ (upd_same (H := H1) (a := D)) (fun z => z) np1
    have x2 := y1.trans (s2.imp fun _ _ _ z => z.elim)
    have np2 := not_place sD x2 rh nD upd_same
    have d2 := dy.step s2
    have ru2 := ru.stepX (stpX_upd (o := .dT (kvs.foldl (fun acc p => putK acc p.1 p.2) [])) muD hD1) hP1 |>.step s2
    cases w2 with
    | dct k2 v2 =>
      cases k2 with
      | nil =>
        obtain ⟨b, kvs2, rfl, ⟨ob, hb⟩, ek2, rv2⟩ := as_K r2 (fun _ _ z => nomatch z)
        cases kvs2 with
        | cons _ _ => cases ek2
        | nil =>
          have bD : b ≠ D := fun z => by rw [z, hD2] at hb; cases hb
          refine ⟨b, _, rfl, bD, hD2, .inl ⟨.inr ⟨ob, hb⟩, ?_⟩⟩
          have fin := fin_mkD (show FinE X.K T W₀ σ ρ H (mkD m ls us e h2) Q from f5) sD x2 rh2 np2 nD (x2.up D (.inr rfl)) rh.on hD2 d2
          rw [upd_id hD2] at fin
          exact fin
      | cons k0 r0 =>
        obtain ⟨f6, x3, l3, kk3, hk3, tk3⟩ := headT_ok (show FinE X.K T W₀ σ ρ H (headT (k0 :: r0) _) Q from f5)
        obtain ⟨b, kvs2, rfl, ⟨ob, hb⟩, ek2, nek2, rv2⟩ := as_T r2 hk3 tk3
        obtain ⟨len2, f7⟩ := lenOk_ok f6
        obtain ⟨ls', us', f8, el', ru'⟩ := foldD_ok (f := tOf) keq_t f7 ek2 rv2 el ru2
        have bD : b ≠ D := fun z => by rw [z, hD2] at hb; cases hb
        refine ⟨b, _, rfl, bD, hD2, .inr ⟨kvs2, .inr ⟨ob, hb⟩, ne1, ?_, ?_⟩⟩
        · have l1 := keys_len ek2
          have l2 := keys_len ek
          have l4 : (kvs.foldl (fun acc p => putK acc p.1 p.2) []).length ≤ ([] : List (List Key × V)).length + kvs.length := fold_len (f := fun p : List Key × V => p.1) (g := fun p => p.2) kvs []
          rw [List.length_nil] at l4
          rw [sizeLine_eq]
          have : lim = 100000 := rfl
          omega
        · exact fin_mkD f8 sD x2 rh2 np2 nD (x2.up D (.inr rfl)) rh.on hD2 (.inr ⟨_, _, rfl, ⟨el', foldP_ne (.inl nek2)⟩, rfl, ru'⟩)
    | _ => exact f5.elim
  | _ => exact f1.elim
theorem SE.mrgT {m : Bool} {ea eb : Expr} {da db : D} {pos : Pos} (hu : X.A.units + 1 < cLine) (ha : SE T ca X ea da) (hb : SE T ca X eb db) : SE T ca X (.Dict [none, none] [ea, eb] pos) (mMrgT m da db) := fun W₀ t =>
  (pe_m m (pe_mrgT hu (ha noW noTk) (hb noW noTk))).weak fun _ _ _ h => t_mrgT h
end
end
end VA
set_option Elab.async false
set_option linter.all false
set_option maxRecDepth 100000
set_option maxHeartbeats 2000000
/-! V43: dict(pairs), {}, sorted texts. -/
namespace VA
noncomputable section
open PySem PySem.Spec PyProof.Rows L2 Srt
/-! ### dict(pairs), tuples as keys -/
def PrT (K : PySem.W.Frag) (H : Hp) (p : Addr) (q : KB) : Prop := SqT K H p [.ref q.2.1, q.2.2] ∧ H q.2.1 = some (.tup (q.1.map kV))
def rDictT (K : PySem.W.Frag) : List V → Hp → VK → Prop := fun xs H Q => ∃ (a : Addr) (ps : List Addr) (kbs : List KB), xs = [.ref a] ∧ SqL K H a (ps.map V.ref) ∧ Paired (PrT K H) ps kbs ∧ ∀ p, H p = none → Q (.ref p) (upd H p (.dT (kbs.foldl (fun acc q => putK acc q.1 q.2.2) [])))
section
variable {X : Cx} {σ : L2.St} {H : Hp} {s : Shared} {pins : List (Addr × Obj)}
theorem pairsT (I : Inv X pins σ H s) : ∀ {ps : List Addr} {kbs : List KB}, Paired (PrT X.K H) ps kbs → ∃ xs : List (List Key × Addr × Value), Paired (fun (q : KB) x => q.1 = x.1 ∧ q.2.1 = x.2.1 ∧ RelV q.2.2 x.2.2) kbs xs ∧ xs.length = ps.length ∧
    ∀ (j : Nat) (x : List Key × Addr × Value), xs[j]? = some x → ∃ p, ps[j]? = some p ∧ IsTup s.heap p #[.ref x.2.1, x.2.2]
  | _, _, .nil => ⟨[], .nil, rfl, fun j x e => by simp at e⟩
  | _, _, .cons (a := p) (b := q) c t => by
    obtain ⟨xs, rel, len, at_⟩ := pairsT I t
    obtain ⟨its, vals, tup, _⟩ := I.tuple c.1
    obtain ⟨u, y, ei, ru, ry⟩ := vals2 vals
    subst ei
    cases ru
    refine ⟨(q.1, q.2.1, y) :: xs, .cons ⟨rfl, rfl, ry⟩ rel, congrArg (· + 1) len, fun j x e => ?_⟩
    cases j with
    | zero =>
      cases (show some (q.1, q.2.1, y) = some x from e)
      exact ⟨p, rfl, tup⟩
    | succ j => exact at_ j x e
theorem cr_dictT (calm : X.calm = true) (hu : X.A.units + 2 < cLine) : CallR X (.type "dict") (rDictT X.K) := by
  rintro pins s σ H _ us Q I vals ⟨a, ps, kbs, rfl, sq, prs, q⟩
  obtain ⟨u, rfl, ru⟩ := vals1 vals
  cases ru
  obtain ⟨its, iv, plain, fits⟩ := I.list sq
  have ei := refs_at iv
  subst ei
  rw [List.length_map] at fits
  obtain ⟨xs, rel, len, at_⟩ := pairsT I prs
  have keys : ∀ b ∈ kbs, H b.2.1 = some (.tup (b.1.map kV)) := by
    have all : ∀ {ps : List Addr} {kbs : List KB}, Paired (PrT X.K H) ps kbs → ∀ b ∈ kbs, H b.2.1 = some (.tup (b.1.map kV)) := by
      intro ps kbs r
      induction r with
      | nil => exact fun _ h => nomatch h
      | cons c t ih =>
        intro b hb
        rcases (List.mem_cons.mp hb : _ ∨ _) with z | z
        · rw [z]; exact c.2
        · exact ih b z
    exact all prs
  let Ts : Nat → Addr := fun j => (ps[j]?).getD 0
  let prV : List (Value × Value) := xs.map fun x => (.ref x.2.1, x.2.2)
  have lenV : prV.length = ps.length := by rw [List.length_map, len]
  have items : PairItems s.heap (ps.map Value.ref).toArray Ts prV := by
    refine ⟨by simp [lenV], fun j k v e => ?_⟩
    rw [List.getElem?_map] at e
    cases z : xs[j]? with
    | none => rw [z] at e; cases e
    | some x =>
      rw [z] at e
      obtain ⟨p, hp, tup⟩ := at_ j x z
      have ek : (Value.ref x.2.1, x.2.2) = (k, v) := Option.some.inj e
      injection ek with e1 e2
      subst e1 e2
      have ts : Ts j = p := by show (ps[j]?).getD 0 = p; rw [hp]; rfl
      rw [ts]
      exact ⟨by simp [hp], .inl tup⟩
  have xs_at : ∀ x ∈ xs, ∃ b ∈ kbs, b.1 = x.1 ∧ b.2.1 = x.2.1 := by
    have all : ∀ {kbs : List KB} {xs : List (List Key × Addr × Value)}, Paired (fun (q : KB) x => q.1 = x.1 ∧ q.2.1 = x.2.1 ∧ RelV q.2.2 x.2.2) kbs xs → ∀ x ∈ xs, ∃ b ∈ kbs, b.1 = x.1 ∧ b.2.1 = x.2.1 := by
      intro kbs xs r
      induction r with
      | nil => exact fun _ h => nomatch h
      | @cons q x kbs xs c t ih =>
        intro y hy
        rcases List.mem_cons.mp hy with z | z
        · rw [z]; exact ⟨q, List.mem_cons_self, c.1, c.2.1⟩
        · obtain ⟨b, hb, e⟩ := ih y z
          exact ⟨b, List.mem_cons_of_mem _ hb, e⟩
    exact all rel
  have is_ : ∀ x ∈ xs, (tupleKind (mixKind X.prog X.w)).is s.heap x.1 x.2.1 := fun x hx => by
    obtain ⟨b, hb, e1, e2⟩ := xs_at x hx
    rw [← e1, ← e2]
    exact key_of I.hok (keys b hb)
  refine call_dict_pairsH (knd := tupleKind (mixKind X.prog X.w)) (ps := xs) (PairArg.list a _ Ts prV) (I.ok.hd calm) (show X.A.units + 2 < cLine from hu) ⟨plain, items⟩ ⟨by rw [lenV, len], fun i key v e => ?_⟩ (fun h' k x hx => ?_) (by rw [lenV]; exact fits) fun h' tk dd k => ?_
  · have e' : (xs.map fun x => (Value.ref x.2.1, x.2.2))[i]? = some (key, v) := e
    rw [List.getElem?_map] at e'
    cases z : xs[i]? with
    | none => rw [z] at e'; cases e'
    | some x =>
      rw [z] at e'
      injection Option.some.inj e' with e1 e2
      exact ⟨x.1, x.2.1, by rw [← e2], e1.symm⟩
  · obtain ⟨o, its', n, g1, g2, g3, g4⟩ := is_ x hx
    exact ⟨o, its', n, k _ _ (Nat.ne_of_lt (Heap.lt_size g1)) (fun z => nomatch z) g1, g2, g3, g4⟩
  · have nm : (s.heap.objs.size == sysModules) = false := beq_eq_false_iff_ne.mpr (Nat.ne_of_gt I.big)
    have new := I.hok.fresh (Nat.le_refl s.heap.objs.size)
    obtain ⟨o, es, ep, g1, g2, g3, g4, _, g6⟩ := dd
    have fit : (kbs.foldl (fun acc q => putK acc q.1 q.2.2) ([] : List (List Key × V))).length ≤ sizeLine := by
      have h1 := fold_len (f := fun q : KB => q.1) (g := fun q : KB => q.2.2) kbs []
      have h2 := Paired.length prs
      rw [List.length_nil] at h1
      omega
    have rel' := (kt_all rel keys .nil).keeps (H' := upd H s.heap.objs.size (.dT (kbs.foldl (fun acc q => putK acc q.1 q.2.2) []))) fun c zs ec => by
      rw [upd_ne (ne_of_none ec new)]; exact ec
    exact ⟨.ref s.heap.objs.size, _, I.laid (t' := tk) (fun b o e => k b o (fun z => nomatch z) e) (Nat.le_refl _) (show ObjOk X.prog X.w _ _ _ (.dT _) from ⟨fit, nm, _, rel', o, es, ep, g1, g2, g3, g4, g6⟩), rfl, q _ new⟩
end
/-! ### the readings -/
/-- a list of pairs, as keys and values -/
def prsK : List W → (List W → List W → R) → R
  | [], k => k [] []
  | p :: r, k => match p with
    | .tup xs => (match xs with
      | [x, v] => prsK r fun ks vs => k (x :: ks) (v :: vs)
      | _ => .bad)
    | _ => .bad
def prs1 (ws : List W) (k : List W → List W → R) : R := match ws with
  | [w] => (match w with
    | .lst ps => prsK ps k
    | _ => .bad)
  | _ => .bad
def allKO (f : W → Bool) (ks : List W) (r : R) : R := match allW f ks with
  | true => r
  | false => .bad
def mDictK (m : Bool) (a : D) : D := fun ca e h => bndA (a ca e h) fun ws h1 => prs1 ws fun ks vs => allKO (fun w => isSm (kOf w)) ks (foldD ks vs [] [] fun ls us => mkD m ls us e h1)
def mDictT (m : Bool) (a : D) : D := fun ca e h => bndA (a ca e h) fun ws h1 => prs1 ws fun ks vs => headT ks (allKO (fun w => isSm (tOf w)) ks (foldD ks vs [] [] fun ls us => mkD m ls us e h1))
section
variable {X : Cx} {K : PySem.W.Frag} {T : Tab} {ca : CallT} {W₀ : WX} {σ : L2.St} {ρ : Rho} {H : Hp} {Q : VK}
theorem prsK_ok {ρ0 : Rho} {H0 : Hp} : ∀ {ps : List W} {vs : List V} {k : List W → List W → R}, FinE K T W₀ σ ρ0 H0 (prsK ps k) Q → RWs K T ρ H ps vs → ∃ (as : List Addr) (ks us : List W) (xs zs : List V), vs = as.map V.ref ∧ FinE K T W₀ σ ρ0 H0 (k ks us) Q ∧
    RWs K T ρ H ks xs ∧ RWs K T ρ H us zs ∧ as.length = xs.length ∧ as.length = zs.length ∧ ∀ (j : Nat) (p : Addr) (x z : V), as[j]? = some p → xs[j]? = some x → zs[j]? = some z → H p = some (.tup [x, z])
  | [], _, k, f, .nil => ⟨[], [], [], [], [], rfl, f, .nil, .nil, rfl, rfl, fun j p x z e => by simp at e⟩
  | p :: ps, _, k, f, .cons r t => by
    cases p with
    | tup xs =>
      match xs, r, f with
      | [x, v], r, f =>
        have f' : FinE K T W₀ σ ρ0 H0 (prsK ps fun ks us => k (x :: ks) (v :: us)) Q := f
        obtain ⟨as, ks, us, ys, zs, e1, f2, r1, r2, l1, l2, at_⟩ := prsK_ok f' t
        cases r with
        | @tup _ a vs' ha la =>
          cases la with
          | cons rx la =>
            cases la with
            | cons rv la =>
              cases la
              refine ⟨a :: as, x :: ks, v :: us, _ :: ys, _ :: zs, by rw [e1]; rfl, f2, .cons rx r1, .cons rv r2, congrArg (· + 1) l1, congrArg (· + 1) l2, fun j p y z h1 h2 h3 => ?_⟩
              cases j with
              | zero =>
                simp at h1 h2 h3
                subst h1 h2 h3
                exact ha.1
              | succ j => exact at_ j p y z (by simpa using h1) (by simpa using h2) (by simpa using h3)
      | [], _, f => exact f.elim
      | [_], _, f => exact f.elim
      | _ :: _ :: _ :: _, _, f => exact f.elim
    | _ => exact f.elim
theorem prs1_ok {ρ0 : Rho} {H0 : Hp} {ws : List W} {vs : List V} {k : List W → List W → R} (f : FinE K T W₀ σ ρ0 H0 (prs1 ws k) Q) (r : RWs K T ρ H ws vs) : ∃ (a : Addr) (as : List Addr) (ks us : List W) (xs zs : List V), vs = [.ref a] ∧ H a = some (.lst (as.map V.ref)) ∧ FinE K T W₀ σ ρ0 H0 (k ks us) Q ∧
    RWs K T ρ H ks xs ∧ RWs K T ρ H us zs ∧ as.length = xs.length ∧ as.length = zs.length ∧ ∀ (j : Nat) (p : Addr) (x z : V), as[j]? = some p → xs[j]? = some x → zs[j]? = some z → H p = some (.tup [x, z]) := by
  match ws, r, f with
  | [w], .cons rw' .nil, f =>
    cases w with
    | lst ps =>
      cases rw' with
      | lst ha la =>
        obtain ⟨as, ks, us, xs, zs, e1, f2, g⟩ := prsK_ok (show FinE K T W₀ σ ρ0 H0 (prsK ps k) Q from f) la
        subst e1
        exact ⟨_, as, ks, us, xs, zs, rfl, ha.1, f2, g⟩
    | _ => exact f.elim
theorem allKO_ok {ρ0 : Rho} {H0 : Hp} {g : W → Bool} {ks : List W} {r : R} (f : FinE K T W₀ σ ρ0 H0 (allKO g ks r) Q) : FinE K T W₀ σ ρ0 H0 r Q ∧ ∀ x ∈ ks, g x = true := by
  cases z : allW g ks with
  | false => simp only [allKO, z] at f; exact f.elim
  | true => simp only [allKO, z] at f; exact ⟨f, allW_eq z⟩
theorem t_dictK {m : Bool} {d : D} {H : Hp} (w : tE K T ca W₀ (mDictK m d) σ H Q) : tCB (fun xs H Q => ∃ (a : Addr) (ps : List Addr) (kvs : List (Key × V)), xs = [.ref a] ∧ SqL K H a (ps.map V.ref) ∧ Paired (fun p kv => SqT K H p [kV kv.1, kv.2]) ps kvs ∧
    ∀ p, H p = none → Q (.ref p) (upd H p (.dK (mergeK [] kvs)))) (tA K T ca W₀ d) σ H (lockQ m Q) := by
  obtain ⟨ρ, e, h, re, rh, f⟩ := w
  refine ⟨ρ, e, h, re, rh, (fin_bndA f).imp ?_⟩
  rintro vs H1 ⟨ρ1, ws, h1, s1, rh1, r1, f1⟩
  obtain ⟨a, as, ks, us, xs, zs, rfl, ha, f2, rk, ru, l1, l2, at_⟩ := prs1_ok f1 r1
  obtain ⟨f3, keys⟩ := allKO_ok f2
  have build : ∀ {ks us : List W} {xs zs : List V} {as : List Addr}, (∀ x ∈ ks, isSm (kOf x) = true) → RWs K T ρ1 H1 ks xs → RWs K T ρ1 H1 us zs → as.length = xs.length → as.length = zs.length → (∀ (j : Nat) (p : Addr) (x z : V), as[j]? = some p → xs[j]? = some x → zs[j]? = some z → H1 p = some (.tup [x, z])) →
      ∃ kvs : List (Key × V), ks.map kOf = kvs.map (fun p => some p.1) ∧ zs = kvs.map (fun p => p.2) ∧ Paired (fun p kv => SqT K H1 p [kV kv.1, kv.2]) as kvs := by
    intro ks
    induction ks with
    | nil =>
      intro us xs zs as _ r1 r2 l1 l2 _
      cases r1
      have : as = [] := List.length_eq_zero_iff.mp l1
      subst this
      have : zs = [] := List.length_eq_zero_iff.mp l2.symm
      subst this
      exact ⟨[], rfl, rfl, .nil⟩
    | cons x ks ih =>
      intro us xs zs as hk r1 r2 l1 l2 at_
      cases r1 with
      | @cons _ v _ xs rx r1 =>
        cases as with
        | nil => cases l1
        | cons p as =>
          cases zs with
          | nil => cases l2
          | cons z zs =>
            cases r2 with
            | cons rz r2 =>
              obtain ⟨kvs, e1, e2, pr⟩ := ih (fun y hy => hk y (List.mem_cons_of_mem _ hy)) r1 r2 (Nat.succ.inj l1) (Nat.succ.inj l2) fun j p x z a b c => at_ (j + 1) p x z (by simpa using a) (by simpa using b) (by simpa using c)
              obtain ⟨k, ek⟩ := isSm_some (hk x List.mem_cons_self)
              have ev := kOf_r ek rx.rr
              subst ev
              refine ⟨(k, z) :: kvs, by rw [List.map_cons, List.map_cons, e1, ek], by rw [List.map_cons, e2], .cons (.inl (.inl ?_)) pr⟩
              exact at_ 0 p _ z rfl rfl rfl
  obtain ⟨kvs, e1, e2, pr⟩ := build keys rk ru l1 l2 at_
  refine ⟨a, as, kvs, rfl, SqL.of ha, pr, fun D nD => ?_⟩
  rw [e2] at ru
  obtain ⟨ls, us', f4, el, ru'⟩ := foldD_ok (f := kOf) (ds := []) (ls := []) (us := []) keq_k f3 e1 ru rfl .nil
  have sD := stp_hd (D := D) ρ1 (.dK (mergeK [] kvs)) nD
  have fin := fin_mkD f4 sD (StpX.refl _ _ _) (relH_hd rh1 _ rfl nD) (not_place sD (StpX.refl _ _ _) rh1 nD upd_same) nD (.inr rfl) rh1.on upd_same (o := .dK (mergeK [] kvs)) (.inl ⟨_, _, rfl, el, rfl, ru'.step sD⟩)
  rw [upd_upd] at fin
  exact fin
theorem SE.dictK {m : Bool} {p pos : Pos} {a : Expr} {d : D} (calm : X.calm = true) (hg : Gl X "dict") (hm : X.mg "dict" = none) (ha : SA T ca X [a] d) (he : starEach [a] X.env = (false, eval a X.env) :: starEach [] X.env) : SE T ca X (.Call (.Name "dict" p) [a] [] pos) (mDictK m d) := fun W₀ t =>
  (pe_m m (pe_callTy (call_dictP calm) hg hm (by rfl) (ha W₀ t) (by decide) (by decide) he rfl)).weak fun _ _ _ h => t_dictK h
theorem t_dictT {m : Bool} {d : D} {H : Hp} (w : tE K T ca W₀ (mDictT m d) σ H Q) : tCB (rDictT K) (tA K T ca W₀ d) σ H (lockQ m Q) := by
  obtain ⟨ρ, e, h, re, rh, f⟩ := w
  refine ⟨ρ, e, h, re, rh, (fin_bndA f).imp ?_⟩
  rintro vs H1 ⟨ρ1, ws, h1, s1, rh1, r1, f1⟩
  obtain ⟨a, as, ks, us, xs, zs, rfl, ha, f2, rk, ru, l1, l2, at_⟩ := prs1_ok f1 r1
  obtain ⟨f2', x0, l0, k0, hk0, tk0⟩ := headT_ok f2
  obtain ⟨f3, keys⟩ := allKO_ok f2'
  have build : ∀ {ks us : List W} {xs zs : List V} {as : List Addr}, (∀ x ∈ ks, isSm (tOf x) = true) → RWs K T ρ1 H1 ks xs → RWs K T ρ1 H1 us zs → as.length = xs.length → as.length = zs.length → (∀ (j : Nat) (p : Addr) (x z : V), as[j]? = some p → xs[j]? = some x → zs[j]? = some z → H1 p = some (.tup [x, z])) →
      ∃ kbs : List KB, ks.map tOf = (kbs.map fun q => (q.1, q.2.2)).map (fun p => some p.1) ∧ zs = (kbs.map fun q => (q.1, q.2.2)).map (fun p => p.2) ∧ Paired (PrT K H1) as kbs := by
    intro ks
    induction ks with
    | nil =>
      intro us xs zs as _ r1 r2 l1 l2 _
      cases r1
      have : as = [] := List.length_eq_zero_iff.mp l1
      subst this
      have : zs = [] := List.length_eq_zero_iff.mp l2.symm
      subst this
      exact ⟨[], rfl, rfl, .nil⟩
    | cons x ks ih =>
      intro us xs zs as hk r1 r2 l1 l2 at_
      cases r1 with
      | @cons _ v _ xs rx r1 =>
        cases as with
        | nil => cases l1
        | cons p as =>
          cases zs with
          | nil => cases l2
          | cons z zs =>
            cases r2 with
            | cons rz r2 =>
              obtain ⟨kbs, e1, e2, pr⟩ := ih (fun y hy => hk y (List.mem_cons_of_mem _ hy)) r1 r2 (Nat.succ.inj l1) (Nat.succ.inj l2) fun j p x z a b c => at_ (j + 1) p x z (by simpa using a) (by simpa using b) (by simpa using c)
              obtain ⟨k, ek⟩ := isSm_some (hk x List.mem_cons_self)
              obtain ⟨b, ev, hb⟩ := tOf_r ek rx.rr
              subst ev
              refine ⟨(k, b, z) :: kbs, by rw [List.map_cons, List.map_cons, List.map_cons, e1, ek], by rw [List.map_cons, List.map_cons, e2], .cons ⟨.inl (.inl ?_), hb⟩ pr⟩
              exact at_ 0 p _ z rfl rfl rfl
  obtain ⟨kbs, e1, e2, pr⟩ := build keys rk ru l1 l2 at_
  refine ⟨a, as, kbs, rfl, SqL.of ha, pr, fun D nD => ?_⟩
  rw [e2] at ru
  obtain ⟨ls, us', f4, el, ru'⟩ := foldD_ok (f := tOf) (ds := []) (ls := []) (us := []) keq_t f3 e1 ru rfl .nil
  have same : (kbs.map fun q => (q.1, q.2.2)).foldl (fun acc p => putK acc p.1 p.2) ([] : List (List Key × V)) = kbs.foldl (fun acc q => putK acc q.1 q.2.2) [] := List.foldl_map ..
  have some_ : kbs ≠ [] := fun z => by
    rw [hk0, z] at e1
    cases e1
  have ne : kbs.foldl (fun acc q => putK acc q.1 q.2.2) ([] : List (List Key × V)) ≠ [] := by
    rw [← same]
    exact foldP_ne (.inl fun z => some_ (List.map_eq_nil_iff.mp z))
  rw [same] at el ru'
  have sD := stp_hd (D := D) ρ1 (.dT (kbs.foldl (fun acc q => putK acc q.1 q.2.2) [])) nD
  have fin := fin_mkD f4 sD (StpX.refl _ _ _) (relH_hd rh1 _ rfl nD) (not_place sD (StpX.refl _ _ _) rh1 nD upd_same) nD (.inr rfl) rh1.on upd_same (o := .dT (kbs.foldl (fun acc q => putK acc q.1 q.2.2) [])) (.inr ⟨_, _, rfl, ⟨el, ne⟩, rfl, ru'.step sD⟩)
  rw [upd_upd] at fin
  exact fin
theorem SE.dictT {m : Bool} {p pos : Pos} {a : Expr} {d : D} (calm : X.calm = true) (hu : X.A.units + 2 < cLine) (hg : Gl X "dict") (hm : X.mg "dict" = none) (ha : SA T ca X [a] d) (he : starEach [a] X.env = (false, eval a X.env) :: starEach [] X.env) : SE T ca X (.Call (.Name "dict" p) [a] [] pos) (mDictT m d) := fun W₀ t =>
  (pe_m m (pe_callTy (cr_dictT calm hu) hg hm (by rfl) (ha W₀ t) (by decide) (by decide) he rfl)).weak fun _ _ _ h => t_dictT h
/-! ### {} -/
def mDsp0 (m : Bool) : D := fun _ e h => mkD m [] [] e h
theorem SE.disp0 {m : Bool} {pos : Pos} : SE T ca X (.Dict [] [] pos) (mDsp0 m) := fun W₀ _ => (pe_m m pe_dnewK).weak fun σ H Q ⟨ρ, e, h, re, rh, f⟩ D nD => by
  have sD := stp_hd (D := D) ρ (.dK []) nD
  have fin := fin_mkD f sD (StpX.refl _ _ _) (relH_hd rh _ rfl nD) (not_place sD (StpX.refl _ _ _) rh nD upd_same) nD (.inr rfl) rh.on upd_same (o := .dK []) (.inl ⟨[], [], rfl, rfl, rfl, .nil⟩)
  rw [upd_upd] at fin
  exact fin
end
end
end VA
set_option Elab.async false
set_option linter.all false
set_option maxRecDepth 100000
set_option maxHeartbeats 2000000
/-! V44: sorted(d), the keys texts. -/
namespace VA
noncomputable section
open PySem PySem.Spec PyProof.Rows L2 Srt
def ltN : List Nat → List Nat → Bool
  | [], [] => false
  | [], _ :: _ => true
  | _ :: _, [] => false
  | a :: r, b :: t => match Nat.blt a b with
    | true => true
    | false => (match Nat.beq a b with
      | true => ltN r t
      | false => false)
theorem ltN_lex : ∀ x y : List Nat, ltN x y = lexL (x.map Int.ofNat) (y.map Int.ofNat)
  | [], [] => rfl
  | [], _ :: _ => rfl
  | _ :: _, [] => rfl
  | a :: r, b :: t => by
    show (match Nat.blt a b with | true => true | false => (match Nat.beq a b with | true => ltN r t | false => false)) = if Int.ofNat a = Int.ofNat b then lexL (r.map Int.ofNat) (t.map Int.ofNat) else decide (Int.ofNat a < Int.ofNat b)
    by_cases e : a = b
    · subst e
      rw [if_pos rfl]
      have z : Nat.blt a a = false := by
        cases q : Nat.blt a a with
        | false => rfl
        | true => exact absurd (blt_lt q) (Nat.lt_irrefl a)
      rw [z, Nat.beq_refl]
      exact ltN_lex r t
    · have ne : ¬ Int.ofNat a = Int.ofNat b := fun z => e (by injection z)
      rw [if_neg ne]
      cases q : Nat.blt a b with
      | true =>
        have := blt_lt q
        exact (decide_eq_true (show Int.ofNat a < Int.ofNat b from Int.ofNat_lt.mpr this)).symm
      | false =>
        have z : Nat.beq a b = false := by
          cases y : Nat.beq a b with
          | false => rfl
          | true => exact absurd (Nat.eq_of_beq_eq_true y) e
        rw [z]
        have h : ¬ a < b := fun l => by
          rw [show Nat.blt a b = true from Nat.ble_eq_true_of_le l] at q
          cases q
        exact (decide_eq_false (show ¬ Int.ofNat a < Int.ofNat b from fun l => h (Int.ofNat_lt.mp l))).symm
theorem ltN_cps : ∀ x y : List Nat, ltN x y = ltCps x y
  | [], [] => rfl
  | [], _ :: _ => rfl
  | _ :: _, [] => rfl
  | a :: r, b :: t => by
    show (match Nat.blt a b with | true => true | false => (match Nat.beq a b with | true => ltN r t | false => false)) = (decide (a < b) || (a == b && ltCps r t))
    cases q : Nat.blt a b with
    | true => rw [decide_eq_true (blt_lt q)]; rfl
    | false =>
      have h : ¬ a < b := fun l => by
        rw [show Nat.blt a b = true from Nat.ble_eq_true_of_le l] at q
        cases q
      rw [decide_eq_false h]
      cases y : Nat.beq a b with
      | true =>
        have := Nat.eq_of_beq_eq_true y
        subst this
        simp [ltN_cps r t]
      | false =>
        have := Nat.ne_of_beq_eq_false y
        simp [this]
theorem swo_ltN : SrtO.Swo ltN := ⟨fun x y h => by rw [ltN_lex] at h ⊢; exact lexL_asym _ _ h, fun x y z h1 h2 => by rw [ltN_lex] at h1 h2 ⊢; exact lexL_tr _ _ _ h1 h2⟩
theorem ltN_anti (x y : List Nat) (h1 : ltN x y = false) (h2 : ltN y x = false) : x = y := by
  rw [ltN_lex] at h1 h2
  have z := lexL_eq _ _ h1 h2
  have inj : ∀ {a b : List Nat}, a.map Int.ofNat = b.map Int.ofNat → a = b := by
    intro a
    induction a with
    | nil => intro b e; cases b with
      | nil => rfl
      | cons _ _ => cases e
    | cons p a ih => intro b e; cases b with
      | nil => cases e
      | cons q b =>
        injection e with e1 e2
        injection e1 with e1
        rw [e1, ih e2]
  exact inj z
theorem rising_pw : ∀ (p : Str) (l : List Str), risingS p l = true → (p :: l).Pairwise fun a b => ltN b.cps.toList a.cps.toList = false
  | p, [], _ => List.pairwise_singleton _ _
  | p, x :: r, h => by
    have h' : (!ltCps x.cps.toList p.cps.toList && risingS x r) = true := h
    rw [Bool.and_eq_true] at h'
    have ih := rising_pw x r h'.2
    have first : ltN x.cps.toList p.cps.toList = false := by
      rw [ltN_cps]
      cases z : ltCps x.cps.toList p.cps.toList with
      | false => rfl
      | true => rw [z] at h'; cases h'.1
    refine List.pairwise_cons.mpr ⟨fun y hy => ?_, ih⟩
    rcases (List.mem_cons.mp hy : _ ∨ _) with e | hy
    · rw [e]; exact first
    · exact swo_ltN.2 _ _ _ first ((List.pairwise_cons.mp ih).1 y hy)
theorem sortedS_pw : ∀ (l : List Str), sortedS l = true → l.Pairwise fun a b => ltN b.cps.toList a.cps.toList = false
  | [], _ => .nil
  | x :: r, h => rising_pw x r h
def strsW : List W → Option (List (List Nat))
  | [] => some []
  | x :: xs => match x with
    | .str s => (match strsW xs with
      | some l => some (s :: l)
      | Option.none => Option.none)
    | _ => Option.none
def frcS : List (List Nat) → (List W → Option W) → Option W
  | [], k => k []
  | s :: r, k => frcS r fun ws => k (.str s :: ws)
theorem frcS_eq : ∀ (l : List (List Nat)) (k : List W → Option W), frcS l k = k (l.map W.str)
  | [], _ => rfl
  | s :: r, k => by simp only [frcS, frcS_eq r]; rfl
theorem strsW_eq : ∀ {xs : List W} {l : List (List Nat)}, strsW xs = some l → xs = l.map W.str
  | [], l, e => by cases e; rfl
  | x :: xs, l, e => by
    cases x with
    | str s =>
      have e' : (match strsW xs with | some l => some (s :: l) | Option.none => Option.none) = some l := e
      cases z : strsW xs with
      | none => rw [z] at e'; cases e'
      | some m => rw [z] at e'; cases e'; rw [strsW_eq z]; rfl
    | _ => cases e
def oSortS (ws : List W) : Option W := match ws with
  | [w] => (match w with
    | .dct ks _ => (match Nat.blt (lenN ks) 64 with
      | true => (match ks with
        | [] => Option.none
        | ks => (match strsW ks with
          | some l => frcS (srtS ltN l) fun r => some (.lst r)
          | Option.none => Option.none))
      | false => Option.none)
    | _ => Option.none)
  | _ => Option.none
section
variable {X : Cx} {K : PySem.W.Frag} {T : Tab} {ρ : Rho} {H : Hp} {h : Hpi}
abbrev mkS (s : List Nat) : Str := ⟨s.toArray⟩
theorem keys_strs : ∀ {l : List (List Nat)} {kvs : List (Key × V)}, (l.map W.str).map kOf = kvs.map (fun p => some p.1) → kvs.map (·.1) = (l.map mkS).map Sum.inr
  | [], [], _ => rfl
  | [], _ :: _, e => nomatch e
  | _ :: _, [], e => nomatch e
  | s :: l, p :: kvs, e => by
    injection e with e1 e2
    have z : some (Sum.inr (mkS s) : Key) = some p.1 := e1
    rw [List.map_cons, List.map_cons, List.map_cons, keys_strs e2, ← Option.some.inj z]
theorem rws_strs : ∀ l : List (List Nat), RWs K T ρ H (l.map W.str) ((l.map mkS).map V.str)
  | [] => .nil
  | s :: l => .cons (.str s) (rws_strs l)
theorem n_sortS : OpN K T (fun xs H Q => ∃ (a : Addr) (kvs : List (Key × V)) (ks : List Str), xs = [.ref a] ∧ Rd H a (.dK kvs) ∧ kvs.map (·.1) = ks.map Sum.inr ∧ ks.length < 64 ∧
    ∀ ys p, ys.Perm ks → sortedS ys = true → H p = none → Q (.ref p) (upd H p (.lst (ys.map V.str)))) oSortS := by
  intro ρ H h ws w vs Q e rh rr q
  match ws, e, rr with
  | [a], e, rr =>
    obtain ⟨v, rfl, r⟩ := rrs1 rr
    cases a with
    | dct ks xs =>
      obtain ⟨p, o, rfl, hr, d⟩ := r
      cases ks with
      | nil =>
        have e' : (match Nat.blt (lenN ([] : List W)) 64 with | true => (Option.none : Option W) | false => Option.none) = some w := e
        cases e'
      | cons k0 ks0 =>
        have e' : (match Nat.blt (lenN (k0 :: ks0)) 64 with
          | true => (match strsW (k0 :: ks0) with
            | some l => frcS (srtS ltN l) fun r => some (W.lst r)
            | Option.none => Option.none)
          | false => Option.none) = some w := e
        cases z : Nat.blt (lenN (k0 :: ks0)) 64 with
        | false => rw [z] at e'; cases e'
        | true =>
          rw [z] at e'
          rw [lenN_eq] at z
          have small := blt_lt z
          cases y : strsW (k0 :: ks0) with
          | none => rw [y] at e'; cases e'
          | some l =>
            rw [y] at e'
            simp only [frcS_eq] at e'
            have ek := strsW_eq y
            have ew := (Option.some.inj e').symm
            rcases d with ⟨kvs, us, rfl, hk, _⟩ | ⟨kvs, us, rfl, hk, _⟩
            · rw [ek] at hk small
              refine ⟨p, kvs, l.map mkS, rfl, hr, keys_strs hk, by simpa using small, fun ys p' pm so np => ?_⟩
              have pw := sortedS_pw ys so
              have lists : ys.map (fun s => s.cps.toList) = srtS ltN l := by
                refine srt_uniq ltN_anti ?_ (List.pairwise_map.mpr pw) (srtS_srt swo_ltN l)
                have h1 := pm.map fun s : Str => s.cps.toList
                rw [List.map_map] at h1
                have h2 : (l.map ((fun s : Str => s.cps.toList) ∘ mkS)) = l := by
                  rw [show ((fun s : Str => s.cps.toList) ∘ mkS) = id from by funext s; simp]
                  exact List.map_id l
                rw [h2] at h1
                exact h1.trans (srtS_perm l).symm
              have back : ys = (srtS ltN l).map mkS := by
                rw [← lists, List.map_map]
                rw [show (mkS ∘ fun s : Str => s.cps.toList) = id from by funext s; simp]
                exact (List.map_id ys).symm
              subst back
              obtain ⟨a1, a2, a3⟩ := new_lst rh np (rws_strs (K := K) (T := T) (ρ := ρ) (H := H) (srtS ltN l))
              rw [ew] at q
              exact q _ _ a1 a2 a3
            · rw [ek] at hk
              exfalso
              obtain ⟨hk, _⟩ := hk
              cases l with
              | nil => cases ek
              | cons s l => cases kvs with
                | nil => cases hk
                | cons _ _ => injection hk with e1 _; cases e1
    | _ => cases e
end
end
end VA
set_option Elab.async false
set_option linter.all false
set_option maxRecDepth 100000
set_option maxHeartbeats 2000000
/-! V45: calls told in a heap of their own: no place is given, or one instance alone. -/
namespace VA
noncomputable section
open PySem PySem.Spec PyProof.Rows L2 Srt
section
variable {K : PySem.W.Frag} {T : Tab} {ρ ρ1 ρ2 ρ3 : Rho} {H H1 H2 : Hp} {h h1 h2 : Hpi}
theorem FinE.any {W₀ : WX} {σ σ' : L2.St} {r : R} {Q : VK} (f : FinE K T noW σ' ρ H r Q) : FinE K T W₀ σ ρ H r Q := by
  induction r with
  | ok w e hp => exact f
  | exc c fs e hp => exact fun ρ' H' cls d a b x => (f ρ' H' cls d a b x).elim
  | or x y ix iy => exact ⟨ix f.1, iy f.2⟩
  | _ => exact f.elim
theorem RO.mv {n : Nat} {u : Ob} (x : RO K T ρ1 H1 n u) (hn : n < ρ1.next) (pl : ∀ n, n < ρ1.next → ρ3.pl n = ρ1.pl n) (le : ρ1.next ≤ ρ3.next) (tr : ∀ w v, RW K T ρ1 H1 w v → RW K T ρ3 H2 w v) (trs : ∀ w v, RWs K T ρ1 H1 w v → RWs K T ρ3 H2 w v) (at0 : ∀ o, H1 (ρ1.pl n) = some o → H2 (ρ1.pl n) = some o)
    (at1 : (∃ c fs, u = .ins c fs) → ∀ o, H1 (ρ1.pl (n + 1)) = some o → H2 (ρ1.pl (n + 1)) = some o) : RO K T ρ3 H2 n u := by
  cases u with
  | lst ws =>
    obtain ⟨vs, e, q⟩ := x
    exact ⟨vs, by rw [pl n hn]; exact at0 _ e, trs _ _ q⟩
  | dct ks ws =>
    obtain ⟨o, e, q⟩ := x
    refine ⟨o, by rw [pl n hn]; exact at0 _ e, ?_⟩
    rcases q with ⟨a, b, c, d, f, g⟩ | ⟨a, b, c, d, f, g⟩
    · exact .inl ⟨a, b, c, d, f, trs _ _ g⟩
    · exact .inr ⟨a, b, c, d, f, trs _ _ g⟩
  | ins c fs =>
    obtain ⟨lt, vs, q, z⟩ := x
    refine ⟨Nat.lt_of_lt_of_le lt le, vs, ?_, fun i w e n1 => ?_⟩
    · rw [pl n hn, pl _ lt]
      rcases q with ⟨q1, q2, q3⟩ | ⟨q1, q2⟩
      · exact .inl ⟨at0 _ q1, at1 ⟨c, fs, rfl⟩ _ q2, q3⟩
      · exact .inr ⟨at0 _ q1, at1 ⟨c, fs, rfl⟩ _ q2⟩
    · obtain ⟨v, e2, r⟩ := z i w e n1
      exact ⟨v, e2, tr _ _ r⟩
/-- the places of ρ1, what may be changed as in ρ2 -/
def Rho.back (ρ1 ρ2 : Rho) (up : ∀ a, ρ1.mu a → ρ2.mu a) : Rho := ⟨ρ1.next, ρ1.pl, ρ2.mu, fun n hn => up _ (ρ1.plmu n hn)⟩
theorem RW.noPl {w : W} {v : V} (l : lowW 0 w = true) (r : RW K T ρ H w v) (s : ∀ a, ρ3.mu a → ρ.mu a) : RW K T ρ3 H w v :=
  RW.sub (ρ := ρ.cut 0 (Nat.zero_le _)) (Nat.zero_le _) (fun n hn => absurd hn (Nat.not_lt_zero n)) s (RW.low (Nat.zero_le _) l r)
theorem RWs.noPl {ws : List W} {vs : List V} (l : lowWs 0 ws = true) (r : RWs K T ρ H ws vs) (s : ∀ a, ρ3.mu a → ρ.mu a) : RWs K T ρ3 H ws vs :=
  RWs.sub (ρ := ρ.cut 0 (Nat.zero_le _)) (Nat.zero_le _) (fun n hn => absurd hn (Nat.not_lt_zero n)) s (RWs.low (Nat.zero_le _) l r)
theorem relH_none (rh : RelH K T ρ H h) : RelH K T (ρ.cut 0 (Nat.zero_le _)) H ⟨0, []⟩ :=
  ⟨rfl, fun i j hi => absurd hi (Nat.not_lt_zero i), rh.on, .nil, (fun n o e => nomatch e), rh.tb⟩
/-- back from a heap without places -/
theorem back_none (rh1 : RelH K T ρ1 H1 h1) (s : Stp (ρ1.cut 0 (Nat.zero_le _)) H1 ρ2 H2) (rh2 : RelH K T ρ2 H2 h2) : Stp ρ1 H1 (ρ1.back ρ2 s.up) H2 ∧ RelH K T (ρ1.back ρ2 s.up) H2 h1 := by
  have held : ∀ a o, H1 a = some o → ¬ isTb o → H2 a = some o := fun a o e t => s.hold a o e (fun z => z) (fun n hn => absurd hn (Nat.not_lt_zero n)) t
  have st : Stp ρ1 H1 (ρ1.back ρ2 s.up) H2 := ⟨Nat.le_refl _, fun _ _ => rfl, fun n h1 h2 => absurd h2 (Nat.not_lt.mpr h1), s.up, s.dn, fun a o e _ _ t => held a o e t, s.live, s.tb⟩
  refine ⟨st, rh1.nx, rh1.inj, rh2.on, rh1.srt, fun n u e => ?_, st.tb T rh1.tb⟩
  obtain ⟨hn, x⟩ := rh1.ob n u e
  exact ⟨hn, x.mv hn (fun _ _ => rfl) (Nat.le_refl _) (fun _ _ r => r.step st) (fun _ _ r => r.step st) (fun o z => held _ o z (rh1.pt hn z)) fun ⟨c, fs, eu⟩ o z => held _ o z (rh1.pt (by subst eu; exact x.aux.1) z)⟩
end
/-- a call that is given no place -/
def mCallP (f n : Nat) (a : D) : D := fun ca e h => bndA (a ca e h) fun ws h1 => match Nat.beq (lenN ws) n with
  | true => (match lowWs 0 ws with
    | true => bndC (ca f ws ⟨0, []⟩) fun w _ => match lowW 0 w with
      | true => .ok w e h1
      | false => .bad
    | false => .bad)
  | false => .bad
section
variable {X : Cx} {T : Tab} {ca : CallT}
theorem t_callP {K : PySem.W.Frag} {W₀ : WX} {f n : Nat} {d : D} {σ : L2.St} {H : Hp} {Q : VK} (w : tE K T ca W₀ (mCallP f n d) σ H Q) : tCallS (spC K T ca f n) (WE W₀) (tA K T ca W₀ d) σ H Q := by
  obtain ⟨ρ, e, h, re, rh, f0⟩ := w
  refine ⟨ρ, e, h, re, rh, (fin_bndA f0).imp ?_⟩
  rintro vs H1 ⟨ρ1, ws, h1, s1, rh1, r1, f1⟩
  rw [lenN_eq] at f1
  cases z : Nat.beq ws.length n with
  | false => rw [z] at f1; exact f1.elim
  | true =>
    rw [z] at f1
    cases y : lowWs 0 ws with
    | false => simp only [y] at f1; exact f1.elim
    | true =>
      simp only [y] at f1
      refine ⟨by rw [← r1.length]; exact Nat.eq_of_beq_eq_true z, ρ1.cut 0 (Nat.zero_le _), ws, ⟨0, []⟩, relH_none rh1, RWs.low (Nat.zero_le _) y r1, ?_⟩
      refine FinE.any (σ' := []) ((fin_bndC f1).imp ?_)
      rintro v H2 ⟨ρ2, w2, h2, s2, rh2, r2, f2⟩
      cases q : lowW 0 w2 with
      | false => rw [q] at f2; exact f2.elim
      | true =>
        rw [q] at f2
        obtain ⟨st, rh3⟩ := back_none rh1 s2 rh2
        exact f2 _ H2 v st rh3 (r2.noPl q fun a z => z)
theorem SE.callP {x : Str} {p pos : Pos} {a : Expr} {es : List Expr} {d : D} {f n : Nat} (c : Cal T ca X x f n) (hg : Gl X x) (ha : SA T ca X (a :: es) d) (hdb : (x == ("__debug__" : Str)) = false)
    (he : starEach (a :: es) X.env = (false, eval a X.env) :: starEach es X.env) (hpl : (backTo pos (starEach es X.env)).any (·.1) = false) : SE T ca X (.Call (.Name x p) (a :: es) [] pos) (mCallP f n d) := fun W₀ t => by
  obtain ⟨k, fd, ps, hl, F, hr, hb⟩ := c.fn
  exact (pe_callS F hr hg c.gl c.kp hb (passAt t) (ha W₀ t) hdb he hpl).weak fun _ _ _ h => t_callP h
end
/-! ### one instance -/
def Rho.two (ρ : Rho) (p : Nat) (h : p + 1 < ρ.next) : Rho := ⟨2, fun n => match n with
  | 0 => ρ.pl p
  | _ => ρ.pl (p + 1), ρ.mu, fun n _ => match n with
  | 0 => ρ.plmu p (Nat.lt_of_succ_lt h)
  | n + 1 => ρ.plmu (p + 1) h⟩
section
variable {K : PySem.W.Frag} {T : Tab} {ρ ρ1 ρ2 ρ3 : Rho} {H H1 H2 : Hp} {h h1 h2 : Hpi}
theorem relH_two (rh : RelH K T ρ H h) {p c : Nat} {fs : List W} (g : h.get p = some (.ins c fs)) (low : lowWs 0 fs = true) (lt : p + 1 < ρ.next) : RelH K T (ρ.two p lt) H ⟨2, [(0, .ins c fs)]⟩ := by
  obtain ⟨_, _, vs, ia, hf⟩ := rh.ob p _ g
  refine ⟨rfl, fun i j hi hj e => ?_, rh.on, List.pairwise_singleton _ _, fun n o e => ?_, rh.tb⟩
  · have i2 : i < 2 := hi
    have j2 : j < 2 := hj
    match i, j, i2, j2, e with
    | 0, 0, _, _, _ => rfl
    | 1, 1, _, _, _ => rfl
    | 0, 1, _, _, e => exact absurd (rh.inj p (p + 1) (Nat.lt_of_succ_lt lt) lt e) (by omega)
    | 1, 0, _, _, e => exact absurd (rh.inj (p + 1) p lt (Nat.lt_of_succ_lt lt) e) (by omega)
    | n + 2, _, z, _, _ => omega
    | _, n + 2, _, z, _ => omega
  · have e' : (match Nat.beq 0 n with | true => some (Ob.ins c fs) | false => Option.none) = some o := e
    cases z : Nat.beq 0 n with
    | false => rw [z] at e'; cases e'
    | true =>
      rw [z] at e'
      have n0 := Nat.eq_of_beq_eq_true z
      subst n0
      cases e'
      refine ⟨by show 0 < 2; omega, by show 0 + 1 < 2; omega, vs, ia, fun i w e1 n1 => ?_⟩
      obtain ⟨v, e2, r⟩ := hf i w e1 n1
      exact ⟨v, e2, r.noPl (lowWs_at low e1) fun a z => z⟩
/-- back from a heap that holds the instance alone -/
theorem back_two (rh1 : RelH K T ρ1 H1 h1) {p c c' : Nat} {fs fs' : List W} (g : h1.get p = some (.ins c fs)) (lt : p + 1 < ρ1.next) (s : Stp (ρ1.two p lt) H1 ρ2 H2) (rh2 : RelH K T ρ2 H2 h2) (g2 : h2.get 0 = some (.ins c' fs')) (low : lowWs 0 fs' = true) :
    Stp ρ1 H1 (ρ1.back ρ2 s.up) H2 ∧ RelH K T (ρ1.back ρ2 s.up) H2 (h1.put p (.ins c' fs')) := by
  have pn : p < ρ1.next := Nat.lt_of_succ_lt lt
  have held : ∀ a o, H1 a = some o → a ≠ ρ1.pl p → a ≠ ρ1.pl (p + 1) → ¬ isTb o → H2 a = some o := fun a o e n0 n1 t => s.hld a o e (fun z => z) (t := t) fun n hn => by
    have hn' : n < 2 := hn
    match n, hn' with
    | 0, _ => exact fun z => n0 z.symm
    | 1, _ => exact fun z => n1 z.symm
    | n + 2, z => omega
  have st : Stp ρ1 H1 (ρ1.back ρ2 s.up) H2 := ⟨Nat.le_refl _, fun _ _ => rfl, fun n h1 h2 => absurd h2 (Nat.not_lt.mpr h1), s.up, s.dn, fun a o e _ np t => held a o e (fun z => np p pn z.symm) (fun z => np (p + 1) lt z.symm) t, s.live, s.tb⟩
  obtain ⟨_, xp⟩ := rh1.ob p _ g
  refine ⟨st, rh1.nx, rh1.inj, rh2.on, putO_sorted _ _ rh1.srt, fun n u e => ?_, st.tb T rh1.tb⟩
  by_cases np : n = p
  · subst np
    have z := getO_put_same e
    subst z
    obtain ⟨_, l2, vs, ia, hf⟩ := rh2.ob 0 _ g2
    refine ⟨pn, lt, vs, ?_, fun i w e1 n1 => ?_⟩
    · have e0 : ρ2.pl 0 = ρ1.pl n := s.pl 0 (by show 0 < 2; omega)
      have e1 : ρ2.pl 1 = ρ1.pl (n + 1) := s.pl 1 (by show 1 < 2; omega)
      rw [e0, e1] at ia
      exact ia
    · obtain ⟨v, e2, r⟩ := hf i w e1 n1
      exact ⟨v, e2, r.noPl (lowWs_at low e1) fun a z => z⟩
  · have e' : h1.get n = some u := (getO_put_ne np).symm.trans e
    obtain ⟨hn, x⟩ := rh1.ob n u e'
    obtain ⟨om, m1, m2⟩ := x.main
    obtain ⟨op, p1, p2⟩ := xp.main
    obtain ⟨_, oa, a1, a2⟩ := xp.aux
    have n1 : n ≠ p + 1 := fun z => by
      rw [z, a1] at m1
      cases m1
      exact main_aux m2 a2
    refine ⟨hn, x.mv hn (fun _ _ => rfl) (Nat.le_refl _) (fun _ _ r => r.step st) (fun _ _ r => r.step st) (fun o z => held _ o z (fun y => np (rh1.inj _ _ hn pn y)) (fun y => n1 (rh1.inj _ _ hn lt y)) (rh1.pt hn z)) fun ⟨c2, fs2, eu⟩ o z => ?_⟩
    subst eu
    obtain ⟨l3, ob, b1, b2⟩ := x.aux
    have np1 : n + 1 ≠ p := fun y => by
      rw [y, p1] at b1
      cases b1
      exact main_aux p2 b2
    exact held _ o z (fun y => np1 (rh1.inj _ _ l3 pn y)) (fun y => np (Nat.succ.inj (rh1.inj _ _ l3 lt y))) (rh1.pt l3 z)
end
/-- a call that is given one instance alone, as its first argument -/
def mCallG (f n : Nat) (a : D) : D := fun ca e h => bndA (a ca e h) fun ws h1 => match Nat.beq (lenN ws) n with
  | true => (match ws with
    | [] => .bad
    | w :: r => (match w with
      | .loc p => (match h1.get p with
        | some o => (match o with
          | .ins c fs => (match lowWs 0 fs with
            | true => (match lowWs 0 r with
              | true => bndC (ca f (.loc 0 :: r) ⟨2, [(0, .ins c fs)]⟩) fun v h2 => match lowW 0 v with
                | true => (match h2.get 0 with
                  | some o' => (match o' with
                    | .ins c' fs' => (match lowWs 0 fs' with
                      | true => .ok v e (h1.put p (.ins c' fs'))
                      | false => .bad)
                    | _ => .bad)
                  | Option.none => .bad)
                | false => .bad
              | false => .bad)
            | false => .bad)
          | _ => .bad)
        | Option.none => .bad)
      | _ => .bad))
  | false => .bad
section
variable {X : Cx} {T : Tab} {ca : CallT}
theorem t_callG {K : PySem.W.Frag} {W₀ : WX} {f n : Nat} {d : D} {σ : L2.St} {H : Hp} {Q : VK} (w : tE K T ca W₀ (mCallG f n d) σ H Q) : tCallS (spC K T ca f n) (WE W₀) (tA K T ca W₀ d) σ H Q := by
  obtain ⟨ρ, e, h, re, rh, f0⟩ := w
  refine ⟨ρ, e, h, re, rh, (fin_bndA f0).imp ?_⟩
  rintro vs H1 ⟨ρ1, ws, h1, s1, rh1, r1, f1⟩
  rw [lenN_eq] at f1
  cases z : Nat.beq ws.length n with
  | false => rw [z] at f1; exact f1.elim
  | true =>
    rw [z] at f1
    have len : vs.length = n := by rw [← r1.length]; exact Nat.eq_of_beq_eq_true z
    cases r1 with
    | nil => exact f1.elim
    | @cons w0 v0 r vr rw0 rr =>
      simp only at f1
      cases w0 with
      | loc p =>
        cases rw0 with
        | loc _ hp =>
          simp only at f1
          cases g : h1.get p with
          | none => simp only [g] at f1; exact f1.elim
          | some o =>
            simp only [g] at f1
            cases o with
            | ins c fs =>
              simp only at f1
              cases y1 : lowWs 0 fs with
              | false => simp only [y1] at f1; exact f1.elim
              | true =>
                simp only [y1] at f1
                cases y2 : lowWs 0 r with
                | false => simp only [y2] at f1; exact f1.elim
                | true =>
                  simp only [y2] at f1
                  obtain ⟨_, lt, _⟩ := rh1.ob p _ g
                  refine ⟨len, ρ1.two p lt, .loc 0 :: r, _, relH_two rh1 g y1 lt, .cons (RW.loc (ρ := ρ1.two p lt) 0 (by show 0 < 2; omega)) (rr.noPl y2 fun a z => z), ?_⟩
                  refine FinE.any (σ' := []) ((fin_bndC f1).imp ?_)
                  rintro v H2 ⟨ρ2, w2, h2, s2, rh2, r2, f2⟩
                  cases q : lowW 0 w2 with
                  | false => rw [q] at f2; exact f2.elim
                  | true =>
                    rw [q] at f2
                    simp only at f2
                    cases g2 : h2.get 0 with
                    | none => simp only [g2] at f2; exact f2.elim
                    | some o' =>
                      simp only [g2] at f2
                      cases o' with
                      | ins c' fs' =>
                        simp only at f2
                        cases y3 : lowWs 0 fs' with
                        | false => simp only [y3] at f2; exact f2.elim
                        | true =>
                          simp only [y3] at f2
                          obtain ⟨st, rh3⟩ := back_two rh1 g lt s2 rh2 g2 y3
                          exact f2 _ H2 v st rh3 (r2.noPl q fun a z => z)
                      | _ => exact f2.elim
            | _ => exact f1.elim
      | _ => exact f1.elim
theorem SE.callG {x : Str} {p pos : Pos} {a : Expr} {es : List Expr} {d : D} {f n : Nat} (c : Cal T ca X x f n) (hg : Gl X x) (ha : SA T ca X (a :: es) d) (hdb : (x == ("__debug__" : Str)) = false)
    (he : starEach (a :: es) X.env = (false, eval a X.env) :: starEach es X.env) (hpl : (backTo pos (starEach es X.env)).any (·.1) = false) : SE T ca X (.Call (.Name x p) (a :: es) [] pos) (mCallG f n d) := fun W₀ t => by
  obtain ⟨k, fd, ps, hl, F, hr, hb⟩ := c.fn
  exact (pe_callS F hr hg c.gl c.kp hb (passAt t) (ha W₀ t) hdb he hpl).weak fun _ _ _ h => t_callG h
end
/-! ### one changed list -/
def Rho.one (ρ : Rho) (p : Nat) (h : p < ρ.next) : Rho := ⟨1, fun _ => ρ.pl p, ρ.mu, fun _ _ => ρ.plmu p h⟩
section
variable {K : PySem.W.Frag} {T : Tab} {ρ ρ1 ρ2 ρ3 : Rho} {H H1 H2 : Hp} {h h1 h2 : Hpi}
theorem relH_one (rh : RelH K T ρ H h) {p : Nat} {xs : List W} (g : h.get p = some (.lst xs)) (low : lowWs 0 xs = true) (lt : p < ρ.next) : RelH K T (ρ.one p lt) H ⟨1, [(0, .lst xs)]⟩ := by
  obtain ⟨_, vs, e0, r⟩ := rh.ob p _ g
  refine ⟨rfl, fun i j hi hj _ => ?_, rh.on, List.pairwise_singleton _ _, fun n o e => ?_, rh.tb⟩
  · have i1 : i < 1 := hi
    have j1 : j < 1 := hj
    omega
  · have e' : (match Nat.beq 0 n with | true => some (Ob.lst xs) | false => Option.none) = some o := e
    cases z : Nat.beq 0 n with
    | false => rw [z] at e'; cases e'
    | true =>
      rw [z] at e'
      have n0 := Nat.eq_of_beq_eq_true z
      subst n0
      cases e'
      exact ⟨by show 0 < 1; omega, vs, e0, r.noPl low fun a z => z⟩
/-- back from a heap that holds the list alone -/
theorem back_one (rh1 : RelH K T ρ1 H1 h1) {p : Nat} {xs ys : List W} (g : h1.get p = some (.lst xs)) (lt : p < ρ1.next) (s : Stp (ρ1.one p lt) H1 ρ2 H2) (rh2 : RelH K T ρ2 H2 h2) (g2 : h2.get 0 = some (.lst ys)) (low : lowWs 0 ys = true) :
    Stp ρ1 H1 (ρ1.back ρ2 s.up) H2 ∧ RelH K T (ρ1.back ρ2 s.up) H2 (h1.put p (.lst ys)) := by
  have held : ∀ a o, H1 a = some o → a ≠ ρ1.pl p → ¬ isTb o → H2 a = some o := fun a o e n0 t => s.hold a o e (fun z => z) (fun n _ z => n0 z.symm) t
  have st : Stp ρ1 H1 (ρ1.back ρ2 s.up) H2 := ⟨Nat.le_refl _, fun _ _ => rfl, fun n h1 h2 => absurd h2 (Nat.not_lt.mpr h1), s.up, s.dn, fun a o e _ np t => held a o e (fun z => np p lt z.symm) t, s.live, s.tb⟩
  obtain ⟨_, xp⟩ := rh1.ob p _ g
  refine ⟨st, rh1.nx, rh1.inj, rh2.on, putO_sorted _ _ rh1.srt, fun n u e => ?_, st.tb T rh1.tb⟩
  by_cases np : n = p
  · subst np
    have z := getO_put_same e
    subst z
    obtain ⟨_, vs, e0, r⟩ := rh2.ob 0 _ g2
    have pl0 : ρ2.pl 0 = ρ1.pl n := s.pl 0 (by show 0 < 1; omega)
    rw [pl0] at e0
    exact ⟨lt, vs, e0, r.noPl low fun a z => z⟩
  · have e' : h1.get n = some u := (getO_put_ne np).symm.trans e
    obtain ⟨hn, x⟩ := rh1.ob n u e'
    obtain ⟨op, p1, p2⟩ := xp.main
    refine ⟨hn, x.mv hn (fun _ _ => rfl) (Nat.le_refl _) (fun _ _ r => r.step st) (fun _ _ r => r.step st) (fun o z => held _ o z (fun y => np (rh1.inj _ _ hn lt y)) (rh1.pt hn z)) fun ⟨c2, fs2, eu⟩ o z => ?_⟩
    subst eu
    obtain ⟨l3, ob, b1, b2⟩ := x.aux
    have np1 : n + 1 ≠ p := fun y => by
      rw [y, p1] at b1
      cases b1
      exact main_aux p2 b2
    exact held _ o z (fun y => np1 (rh1.inj _ _ l3 lt y)) (rh1.pt l3 z)
end
/-- a call that is given one changed list alone, as its first argument -/
def mCallL (f n : Nat) (a : D) : D := fun ca e h => bndA (a ca e h) fun ws h1 => match Nat.beq (lenN ws) n with
  | true => (match ws with
    | [] => .bad
    | w :: r => (match w with
      | .loc p => (match h1.get p with
        | some o => (match o with
          | .lst xs => (match lowWs 0 xs with
            | true => (match lowWs 0 r with
              | true => bndC (ca f (.loc 0 :: r) ⟨1, [(0, .lst xs)]⟩) fun v h2 => match lowW 0 v with
                | true => (match h2.get 0 with
                  | some o' => (match o' with
                    | .lst ys => (match lowWs 0 ys with
                      | true => .ok v e (h1.put p (.lst ys))
                      | false => .bad)
                    | _ => .bad)
                  | Option.none => .bad)
                | false => .bad
              | false => .bad)
            | false => .bad)
          | _ => .bad)
        | Option.none => .bad)
      | _ => .bad))
  | false => .bad
section
variable {X : Cx} {T : Tab} {ca : CallT}
theorem t_callL {K : PySem.W.Frag} {W₀ : WX} {f n : Nat} {d : D} {σ : L2.St} {H : Hp} {Q : VK} (w : tE K T ca W₀ (mCallL f n d) σ H Q) : tCallS (spC K T ca f n) (WE W₀) (tA K T ca W₀ d) σ H Q := by
  obtain ⟨ρ, e, h, re, rh, f0⟩ := w
  refine ⟨ρ, e, h, re, rh, (fin_bndA f0).imp ?_⟩
  rintro vs H1 ⟨ρ1, ws, h1, s1, rh1, r1, f1⟩
  rw [lenN_eq] at f1
  cases z : Nat.beq ws.length n with
  | false => rw [z] at f1; exact f1.elim
  | true =>
    rw [z] at f1
    have len : vs.length = n := by rw [← r1.length]; exact Nat.eq_of_beq_eq_true z
    cases r1 with
    | nil => exact f1.elim
    | @cons w0 v0 r vr rw0 rr =>
      simp only at f1
      cases w0 with
      | loc p =>
        cases rw0 with
        | loc _ hp =>
          simp only at f1
          cases g : h1.get p with
          | none => simp only [g] at f1; exact f1.elim
          | some o =>
            simp only [g] at f1
            cases o with
            | lst xs =>
              simp only at f1
              cases y1 : lowWs 0 xs with
              | false => simp only [y1] at f1; exact f1.elim
              | true =>
                simp only [y1] at f1
                cases y2 : lowWs 0 r with
                | false => simp only [y2] at f1; exact f1.elim
                | true =>
                  simp only [y2] at f1
                  have lt := (rh1.ob p _ g).1
                  refine ⟨len, ρ1.one p lt, .loc 0 :: r, _, relH_one rh1 g y1 lt, .cons (RW.loc (ρ := ρ1.one p lt) 0 (by show 0 < 1; omega)) (rr.noPl y2 fun a z => z), ?_⟩
                  refine FinE.any (σ' := []) ((fin_bndC f1).imp ?_)
                  rintro v H2 ⟨ρ2, w2, h2, s2, rh2, r2, f2⟩
                  cases q : lowW 0 w2 with
                  | false => rw [q] at f2; exact f2.elim
                  | true =>
                    rw [q] at f2
                    simp only at f2
                    cases g2 : h2.get 0 with
                    | none => simp only [g2] at f2; exact f2.elim
                    | some o' =>
                      simp only [g2] at f2
                      cases o' with
                      | lst ys =>
                        simp only at f2
                        cases y3 : lowWs 0 ys with
                        | false => simp only [y3] at f2; exact f2.elim
                        | true =>
                          simp only [y3] at f2
                          obtain ⟨st, rh3⟩ := back_one rh1 g lt s2 rh2 g2 y3
                          exact f2 _ H2 v st rh3 (r2.noPl q fun a z => z)
                      | _ => exact f2.elim
            | _ => exact f1.elim
      | _ => exact f1.elim
theorem SE.callL {x : Str} {p pos : Pos} {a : Expr} {es : List Expr} {d : D} {f n : Nat} (c : Cal T ca X x f n) (hg : Gl X x) (ha : SA T ca X (a :: es) d) (hdb : (x == ("__debug__" : Str)) = false)
    (he : starEach (a :: es) X.env = (false, eval a X.env) :: starEach es X.env) (hpl : (backTo pos (starEach es X.env)).any (·.1) = false) : SE T ca X (.Call (.Name x p) (a :: es) [] pos) (mCallL f n d) := fun W₀ t => by
  obtain ⟨k, fd, ps, hl, F, hr, hb⟩ := c.fn
  exact (pe_callS F hr hg c.gl c.kp hb (passAt t) (ha W₀ t) hdb he hpl).weak fun _ _ _ h => t_callL h
end
end
end VA
set_option Elab.async false
set_option linter.all false
set_option maxRecDepth 100000
set_option maxHeartbeats 2000000
/-! V46: short words for printed proofs. -/
namespace VA
noncomputable section
open PySem PySem.Spec PyProof.Rows L2 Srt
section
variable {X : Cx} {T : Tab} {ca : CallT} {a b : Expr} {d d1 d2 : D} {p pos : Pos}
abbrev One (X : Cx) (a : Expr) : Prop := starEach [a] X.env = (false, eval a X.env) :: starEach [] X.env
theorem B.len (hg : Gl X "len") (hm : X.mg "len" = none) (ha : SA T ca X [a] d) (he : One X a) : SE T ca X (.Call (.Name "len" p) [a] [] pos) (mBi oLen d) := SE.callB n_len cr_len hg hm (by decide +kernel) ha (by decide) (by decide) he rfl
theorem B.abs (hg : Gl X "abs") (hm : X.mg "abs" = none) (ha : SA T ca X [a] d) (he : One X a) : SE T ca X (.Call (.Name "abs" p) [a] [] pos) (mBi oAbs d) := SE.callB n_abs call_abs hg hm (by decide +kernel) ha (by decide) (by decide) he rfl
theorem B.sorted (calm : X.calm = true) (hg : Gl X "sorted") (hm : X.mg "sorted" = none) (ha : SA T ca X [a] d) (he : One X a) : SE T ca X (.Call (.Name "sorted" p) [a] [] pos) (mBi oSorted d) := SE.callB n_sorted (cr_sorted calm) hg hm (by decide +kernel) ha (by decide) (by decide) he rfl
theorem B.sortS (calm : X.calm = true) (hg : Gl X "sorted") (hm : X.mg "sorted" = none) (ha : SA T ca X [a] d) (he : One X a) : SE T ca X (.Call (.Name "sorted" p) [a] [] pos) (mBi oSortS d) := SE.callB n_sortS (call_sortedD calm) hg hm (by decide +kernel) ha (by decide) (by decide) he rfl
theorem B.all (calm : X.calm = true) (hg : Gl X "all") (hm : X.mg "all" = none) (ha : SA T ca X [a] d) (he : One X a) : SE T ca X (.Call (.Name "all" p) [a] [] pos) (mBi oAll d) := SE.callB n_all (cr_all calm) hg hm (by decide +kernel) ha (by decide) (by decide) he rfl
theorem B.tuple (hg : Gl X "tuple") (hm : X.mg "tuple" = none) (ha : SA T ca X [a] d) (he : One X a) : SE T ca X (.Call (.Name "tuple" p) [a] [] pos) (mBi oTuple d) := SE.callTy n_tuple call_tuple_of hg hm (by decide +kernel) ha (by decide) (by decide) he rfl
theorem B.tupleF (hg : Gl X "tuple") (hm : X.mg "tuple" = none) (ha : SA T ca X [a] d) (he : One X a) : SE T ca X (.Call (.Name "tuple" p) [a] [] pos) (mBi oTupF d) := SE.callTy n_tupF cr_tupF hg hm (by decide +kernel) ha (by decide) (by decide) he rfl
theorem B.list (calm : X.calm = true) (hg : Gl X "list") (hm : X.mg "list" = none) (ha : SA T ca X [a] d) (he : One X a) : SE T ca X (.Call (.Name "list" p) [a] [] pos) (mBi oList d) := SE.callTy n_list (cr_list calm) hg hm (by decide +kernel) ha (by decide) (by decide) he rfl
theorem B.int (hg : Gl X "int") (hm : X.mg "int" = none) (ha : SA T ca X [a] d) (he : One X a) : SE T ca X (.Call (.Name "int" p) [a] [] pos) (mBi oInt d) := SE.callTy n_int cr_int hg hm (by decide +kernel) ha (by decide) (by decide) he rfl
theorem B.str (hg : Gl X "str") (hm : X.mg "str" = none) (ha : SA T ca X [a] d) (he : One X a) : SE T ca X (.Call (.Name "str" p) [a] [] pos) (mBi oStr d) := SE.callTy n_str call_str_int hg hm (by decide +kernel) ha (by decide) (by decide) he rfl
theorem B.max2 (calm : X.calm = true) (hg : Gl X "max") (hm : X.mg "max" = none) (ha : SA T ca X [a, b] d) (he : starEach [a, b] X.env = (false, eval a X.env) :: starEach [b] X.env) (hp : (backTo pos (starEach [b] X.env)).any (·.1) = false) : SE T ca X (.Call (.Name "max" p) [a, b] [] pos) (mBi oMax2 d) := SE.callB n_max (call_max2 calm) hg hm (by decide +kernel) ha (by decide) (by decide) he hp
theorem B.min2 (calm : X.calm = true) (hg : Gl X "min") (hm : X.mg "min" = none) (ha : SA T ca X [a, b] d) (he : starEach [a, b] X.env = (false, eval a X.env) :: starEach [b] X.env) (hp : (backTo pos (starEach [b] X.env)).any (·.1) = false) : SE T ca X (.Call (.Name "min" p) [a, b] [] pos) (mBi oMin2 d) := SE.callB n_min (call_min2 calm) hg hm (by decide +kernel) ha (by decide) (by decide) he hp
theorem C.int {i : Int} {j : Nat} : SE T ca X (.Constant (.int i) j pos) (mC (.int i)) := SE.const pe_int fun _ _ => .int i
theorem C.bl {k : Bool} {j : Nat} : SE T ca X (.Constant (.bool k) j pos) (mC (.bl k)) := SE.const pe_bl fun _ _ => .bl k
theorem C.str {s : List Nat} {z : Str} {j : Nat} (e : z = ⟨s.toArray⟩) : SE T ca X (.Constant (.str z) j pos) (mC (.str s)) := by
  subst e
  exact SE.const pe_str fun _ _ => .str s
def visB (sc : Scope) (x : Str) : Bool := match sc.names.lookup x with
  | some .local => true
  | some .cell => true
  | some .free => true
  | _ => false
theorem vis_by {sc : Scope} {x : Str} (h : visB sc x = true) : Vis sc x := by
  unfold visB at h
  unfold Vis
  split at h
  · exact .inl (by assumption)
  · exact .inr (.inl (by assumption))
  · exact .inr (.inr (by assumption))
  · cases h
def locB (sc : Scope) (x : Str) : Bool := match sc.names.lookup x with
  | some .local => true
  | some .cell => true
  | _ => false
theorem loc_by {sc : Scope} {x : Str} (h : locB sc x = true) : L2.Loc sc x := by
  unfold locB at h
  unfold L2.Loc
  split at h
  · exact .inl (by assumption)
  · exact .inr (by assumption)
  · cases h
theorem C.var {i : Nat} {x : Str} (hN : X.N[i]? = some x) (hv : visB X.env.scope x = true) (hd : (x == ("__debug__" : Str)) = false) (hcd : (x == ("__classdict__" : Str)) = false) : SE T ca X (.Name x pos) (mVar i) := SE.var hN (vis_by hv) hd hcd
theorem G.nm {i : Nat} {x : Str} (nd : X.N.Nodup) (at_ : X.N[i]? = some x) (loc : locB X.env.scope x = true) (own : X.fn x = true ∨ X.env.scope.names.lookup x = some .local) : SG X (.Name x pos) (.nm i) := SG.name nd at_ (loc_by loc) own
theorem cal_of {f n lvl k : Nat} {ps : List Str} {c : List W → Hpi → R} {x : Str} (h : ∃ fd, FnOk X.prog X.w X.K X.mg X.base (L2.CX X.prog X.w) lvl (T.fa f) fd ps (spC X.K T (fun _ => c) f n) ∧ Binds X.K fd ps [] ∧ ps.length = n) (hc : ca f = c) (gl : X.mg x = some (.ref (T.fa f)))
    (kp : PySem.W.keepIn X.K (.ref (T.fa f)) = true) (room : Room k X.A) (le : lvl ≤ k) : Cal T ca X x f n := by
  obtain ⟨fd, F, B, l⟩ := h
  have same : spC X.K T (fun _ => c) f n = spC X.K T ca f n := by unfold spC; rw [hc]
  rw [same] at F
  exact ⟨gl, kp, lvl, fd, ps, l, F, room.mono le, B⟩
theorem mkc_of {f n lvl k cl : Nat} {ps : List Str} {c : List W → Hpi → R} {x : Str} (h : ∃ fd, FnOk X.prog X.w X.K X.mg X.base (L2.CX X.prog X.w) lvl (T.fa f) fd ps (spC X.K T (fun _ => c) f n) ∧ Binds X.K fd ps [] ∧ ps.length = n) (hc : ca f = c) (gl : X.mg x = some (.ref (T.ca cl)))
    (mk : L2.Mk X.K (T.ca cl) (T.fa f)) (room : Room k X.A) (le : lvl + 1 ≤ k) : Mkc T ca X x cl f n := by
  obtain ⟨fd, F, B, l⟩ := h
  have same : spC X.K T (fun _ => c) f n = spC X.K T ca f n := by unfold spC; rw [hc]
  rw [same] at F
  exact ⟨gl, mk, lvl, fd, ps, F, room.mono le, B⟩
theorem hu_ {k : Nat} (hr : Room k X.A) : X.A.units + 1 < cLine := by have := hr.un; omega
theorem hu2_ {k : Nat} (hr : Room k X.A) : X.A.units + 2 < cLine := by have := hr.un; omega
theorem hu64_ {k : Nat} (hr : Room k X.A) : X.A.units + 64 < cLine := by have := hr.un; omega
theorem hu65_ {k : Nat} (hr : Room k X.A) : X.A.units + 65 < cLine := by have := hr.un; omega
end
/-- the arguments, the other slots not told -/
def padF : List W → Nat → (List W → R) → R
  | [], n, k => k (List.replicate n .nul)
  | w :: r, n, k => padF r (n - 1) fun e => k (w :: e)
theorem padF_eq : ∀ (ws : List W) (n : Nat) (k : List W → R), padF ws n k = k (padW ws n)
  | [], n, k => by unfold padW; rw [List.nil_append, List.length_nil, Nat.sub_zero]; rfl
  | w :: r, n, k => by
    unfold padF
    rw [padF_eq r]
    unfold padW
    rw [List.length_cons, List.cons_append, Nat.sub_sub, Nat.add_comm 1]
end
end VA
set_option Elab.async false
set_option linter.all false
set_option maxRecDepth 100000
set_option maxHeartbeats 8000000
/-! V47: fewer ways behind one statement; what is asked of all ways of a result. -/
namespace VA
noncomputable section
open PySem PySem.Spec PyProof.Rows L2 Srt
/-! ### a value done in full before it goes on; a slot read without a leftover -/
def getK (l : List W) (n : Nat) (z : R) (k : W → R) : R := List.rec (motive := fun _ => Nat → R) (fun _ => z) (fun x _ ih n => Nat.rec (motive := fun _ => R) (k x) (fun m _ => ih m) n) l n
theorem getK_eq (z : R) (k : W → R) : ∀ (l : List W) (n : Nat), getK l n z k = (match l[n]? with
    | some w => k w
    | Option.none => z)
  | [], _ => rfl
  | _ :: _, 0 => rfl
  | _ :: r, n + 1 => by
    rw [List.getElem?_cons_succ]
    exact getK_eq z k r n
def mVarK (i : Nat) : D := fun _ e h => getK e i .bad fun w => match w with
  | .nul => .bad
  | _ => .ok w e h
theorem mVarK_eq (i : Nat) : mVarK i = mVar i := by
  funext ca e h
  unfold mVarK mVar envW
  rw [getK_eq, nthW_eq]
  cases e[i]? with
  | none => rfl
  | some w => cases w <;> rfl
def deepK (w : W) : (W → R) → R := W.rec (motive_1 := fun _ => (W → R) → R) (motive_2 := fun _ => (List W → R) → R)
  (fun k => k .nul) (fun k => k .non) (fun b k => sqB b fun b => k (.bl b)) (fun i k => sqI i fun i => k (.int i)) (fun s k => k (.str s))
  (fun _ ih k => ih fun xs => k (.tup xs)) (fun _ ih k => ih fun xs => k (.lst xs)) (fun _ _ ih jh k => ih fun xs => jh fun ys => k (.dct xs ys))
  (fun n k => sqN n fun n => k (.loc n)) (fun i k => k (.fn i)) (fun i k => k (.cl i)) (fun _ ih k => ih fun xs => k (.scr xs))
  (fun k => k .anyi) (fun k => k .anyb) (fun n k => sqN n fun n => k (.rng n)) (fun _ ih k => ih fun xs => k (.ktp xs)) (fun _ ih k => ih fun xs => k (.ftp xs))
  (fun k => k []) (fun _ _ ih jh k => ih fun x => jh fun xs => k (x :: xs)) w
def deepL (ws : List W) : (List W → R) → R := W.rec_1 (motive_1 := fun _ => (W → R) → R) (motive_2 := fun _ => (List W → R) → R)
  (fun k => k .nul) (fun k => k .non) (fun b k => sqB b fun b => k (.bl b)) (fun i k => sqI i fun i => k (.int i)) (fun s k => k (.str s))
  (fun _ ih k => ih fun xs => k (.tup xs)) (fun _ ih k => ih fun xs => k (.lst xs)) (fun _ _ ih jh k => ih fun xs => jh fun ys => k (.dct xs ys))
  (fun n k => sqN n fun n => k (.loc n)) (fun i k => k (.fn i)) (fun i k => k (.cl i)) (fun _ ih k => ih fun xs => k (.scr xs))
  (fun k => k .anyi) (fun k => k .anyb) (fun n k => sqN n fun n => k (.rng n)) (fun _ ih k => ih fun xs => k (.ktp xs)) (fun _ ih k => ih fun xs => k (.ftp xs))
  (fun k => k []) (fun _ _ ih jh k => ih fun x => jh fun xs => k (x :: xs)) ws
theorem deepK_eq (w : W) : ∀ k, deepK w k = k w := by
  refine W.rec (motive_1 := fun w => ∀ k, deepK w k = k w) (motive_2 := fun ws => ∀ k, deepL ws k = k ws) (fun _ => rfl) (fun _ => rfl) (fun b k => sqB_eq b fun b => k (.bl b)) (fun i k => sqI_eq i fun i => k (.int i)) (fun _ _ => rfl)
    (fun _ ih k => ih _) (fun _ ih k => ih _) (fun xs ys ih jh k => ?_) (fun n k => sqN_eq n fun n => k (.loc n)) (fun _ _ => rfl) (fun _ _ => rfl) (fun _ ih k => ih _) (fun _ => rfl) (fun _ => rfl) (fun n k => sqN_eq n fun n => k (.rng n)) (fun _ ih k => ih _) (fun _ ih k => ih _)
    (fun _ => rfl) (fun x xs ih jh k => ?_) w
  · show deepL xs (fun xs => deepL ys fun ys => k (.dct xs ys)) = _
    rw [ih, jh]
  · show deepK x (fun x => deepL xs fun xs => k (x :: xs)) = _
    rw [ih, jh]
def mDeep (d : D) : D := fun ca e h => bnd (d ca e h) fun w h1 => deepK w fun w => .ok w e h1
section
variable {X : Cx} {T : Tab} {ca : CallT}
theorem SE.deep {e : Expr} {d : D} (he : SE T ca X e d) : SE T ca X e (mDeep d) := fun W₀ t => (he W₀ t).weak fun σ H Q ⟨ρ, e, h, re, rh, f⟩ => ⟨ρ, e, h, re, rh, (fin_bnd f).imp fun v H1 ⟨ρ1, w, h1, _, rh1, r1, f1⟩ => by
  rw [deepK_eq] at f1
  exact fin_ok f1 (Stp.refl _ _) rh1 r1⟩
theorem C.varK {i : Nat} {x : Str} {pos : Pos} (hN : X.N[i]? = some x) (hv : visB X.env.scope x = true) (hd : (x == ("__debug__" : Str)) = false) (hcd : (x == ("__classdict__" : Str)) = false) : SE T ca X (.Name x pos) (mVarK i) := by
  rw [mVarK_eq]
  exact C.var hN hv hd hcd
theorem SS.uniq {l : Stmt} {d : D} (hs : SS T ca X l d) : SS T ca X l (mUniq d) := fun W₀ t => (hs W₀ t).weak fun _ _ _ ⟨ρ, e, h, re, rh, f⟩ => ⟨ρ, e, h, re, rh, uniq_ok way_S f⟩
theorem SS.frg {l : Stmt} {d : D} {ns : List Nat} (hs : SS T ca X l d) : SS T ca X l (mFrg ns d) := fun W₀ t => (hs W₀ t).weak fun D σ H ⟨ρ, e, h, re, rh, f⟩ => ⟨ρ, e, h, re, rh, by
  have told : FinS X.K T W₀ ρ H (frgR ns (d ca e h)) D := f
  generalize d ca e h = r at told ⊢
  induction r with
  | or a b ia ib => exact ⟨ia told.1, ib told.2⟩
  | ok w e1 h1 =>
    have f2 : FinS X.K T W₀ ρ H (wipeK ns e1 fun e' => .ok w e' h1) D := told
    rw [wipeK_eq] at f2
    exact fun ρ' H' σ' s r x => f2 ρ' H' σ' s r (x.less ns)
  | _ => exact told⟩
/-- a walk over a tuple that may be one of many -/
def toT (w : W) (e : List W) (h : Hpi) : R := match w with
  | .tup ws => .ok (.lst ws) e h
  | .ktp ws => .ok (.lst ws) e h
  | .ftp ws => .ok (.lst ws) e h
  | _ => .bad
def seqT (r : R) (e : List W) : R := R.rec (motive := fun _ => R) (fun w _ h => toT w e h) (fun _ _ => .bad) (fun _ _ => .bad) (fun _ _ => .bad) (fun c fs e h => .exc c fs e h) .bad (fun _ _ a b => .or a b) r
def mISeqT (a : D) : D := fun ca e h => seqT (a ca e h) e
theorem SI.seqT {tg e : Expr} {d : D} (he : SE T ca X e d) : SI T ca X tg e (mISeqT d) := fun W₀ t =>
  (pi_tup (he W₀ t)).weak fun σ H Q ⟨ρ, e, h, re, rh, f⟩ => by
    refine ⟨ρ, e, h, re, rh, ?_⟩
    have told : FinI X.K T W₀ σ ρ H (VA.seqT (d ca e h) e) Q := f
    clear f
    generalize d ca e h = r at told ⊢
    induction r with
    | or a b ia ib => exact ⟨ia told.1, ib told.2⟩
    | exc c fs e' h' => exact told
    | ok w e' h1 =>
      have walked : FinI X.K T W₀ σ ρ H (toT w e h1) Q := told
      intro ρ' H' v s r x
      cases w with
      | tup ws =>
        cases x with
        | tup held items => exact ⟨_, rfl, ⟨_, held.sq⟩, walked ρ' H' _ s r (beh_tup (fun ρ2 H2 s2 => (held.stepM s2).sq) items)⟩
      | ftp ws =>
        cases x with
        | ftp held items => exact ⟨_, rfl, ⟨_, held.sq⟩, walked ρ' H' _ s r (beh_tup (fun ρ2 H2 s2 => (held.stepM s2).sq) items)⟩
      | ktp ws =>
        cases x with
        | ktp held items => exact ⟨_, rfl, ⟨_, held.sq⟩, walked ρ' H' _ s r (beh_tup (fun ρ2 H2 s2 => held.sq) items)⟩
      | _ => exact walked.elim
    | _ => exact told.elim
end
/-- all ways answer True -/
def allT (r : R) : Bool := R.rec (motive := fun _ => Bool) (fun w _ _ => match w with
  | .bl b => b
  | _ => false) (fun _ _ => false) (fun _ _ => false) (fun _ _ => false) (fun _ _ _ _ => false) false (fun _ _ a b => match a with
  | true => b
  | false => false) r
section
variable {K : PySem.W.Frag} {T : Tab} {ρ : Rho} {H : Hp} {W₀ : WX} {σ : L2.St}
theorem allT_ok {r : R} (h : allT r = true) : FinE K T W₀ σ ρ H r fun v _ => v = .bl true := by
  induction r with
  | ok w e hp =>
    cases w with
    | bl b =>
      have z : b = true := h
      subst z
      intro ρ' H' v s r x
      cases x
      rfl
    | _ => exact absurd h Bool.false_ne_true
  | or a b ia ib =>
    have z : (match allT a with
      | true => allT b
      | false => false) = true := h
    cases y : allT a with
    | true => rw [y] at z; exact ⟨ia y, ib z⟩
    | false => rw [y] at z; cases z
  | _ => exact absurd h Bool.false_ne_true
end
end
end VA
set_option Elab.async false
set_option linter.all false
set_option maxRecDepth 100000
set_option maxHeartbeats 8000000
/-! V48: a def that is given the dice alone and answers True: told in short. -/
namespace VA
noncomputable section
open PySem PySem.Spec PyProof.Rows L2 Srt
/-- at most so much -/
def fitN (w : W) (n : Nat) : Bool := match nOf w with
  | some m => Nat.ble m n
  | Option.none => false
/-- the dice -/
def diceH (a b c : Nat) : Hpi := ⟨1, [(0, .lst [.rng a, .rng b, .rng c])]⟩
def fit3 (a b c : Nat) (xs : List W) : Bool := match xs with
  | [x, y, z] => (match fitN x a with
    | true => (match fitN y b with
      | true => fitN z c
      | false => false)
    | false => false)
  | _ => false
def fitH (a b c : Nat) (h : Hpi) : Bool := match Nat.beq h.next 1 with
  | true => (match h.objs with
    | [p] => (match Nat.beq p.1 0 with
      | true => (match p.2 with
        | .lst xs => fit3 a b c xs
        | _ => false)
      | false => false)
    | _ => false)
  | false => false
/-- every way answers True and leaves the dice within bounds -/
def endsL (a b c : Nat) (r : R) : Bool := R.rec (motive := fun _ => Bool) (fun w _ h => match w with
  | .bl t => (match t with
    | true => fitH a b c h
    | false => false)
  | _ => false) (fun _ _ => false) (fun _ _ => false) (fun _ _ => false) (fun _ _ _ _ => false) false (fun _ _ a b => match a with
  | true => b
  | false => false) r
section
variable {K : PySem.W.Frag} {T : Tab} {ρ : Rho} {H : Hp} {W₀ : WX} {σ : L2.St} {Q : VK} {a b c : Nat}
theorem fitN_ok {w : W} {n : Nat} {v : V} (f : fitN w n = true) (r : RW K T ρ H w v) : RW K T ρ H (.rng n) v := by
  unfold fitN at f
  cases q : nOf w with
  | none => rw [q] at f; cases f
  | some m => rw [q] at f; exact nOf_ok q (Nat.le_of_ble_eq_true f) r
theorem fit3_ok {xs : List W} {vs : List V} (f : fit3 a b c xs = true) (r : RWs K T ρ H xs vs) : RWs K T ρ H [.rng a, .rng b, .rng c] vs := by
  match xs, f, r with
  | [x, y, z], f, .cons rx (.cons ry (.cons rz .nil)) =>
    unfold fit3 at f
    cases fx : fitN x a with
    | false => simp only [fx] at f; cases f
    | true =>
      cases fy : fitN y b with
      | false => simp only [fx, fy] at f; cases f
      | true =>
        simp only [fx, fy] at f
        exact .cons (fitN_ok fx rx) (.cons (fitN_ok fy ry) (.cons (fitN_ok f rz) .nil))
theorem fitH_ok {h : Hpi} (f : fitH a b c h = true) (rh : RelH K T ρ H h) : RelH K T ρ H (diceH a b c) := by
  obtain ⟨n, os⟩ := h
  unfold fitH at f
  cases z1 : Nat.beq n 1 with
  | false => simp only [z1] at f; cases f
  | true =>
    simp only [z1] at f
    have n1 := Nat.eq_of_beq_eq_true z1
    subst n1
    match os, f with
    | [(m, o)], f =>
      cases z2 : Nat.beq m 0 with
      | false => simp only [z2] at f; cases f
      | true =>
        simp only [z2] at f
        have m0 := Nat.eq_of_beq_eq_true z2
        subst m0
        cases o with
        | lst xs =>
          obtain ⟨lt, vs, e0, r⟩ := rh.ob 0 (.lst xs) rfl
          refine ⟨rh.nx, rh.inj, rh.on, List.pairwise_singleton _ _, fun n o e => ?_, rh.tb⟩
          have told : (match Nat.beq 0 n with | true => some (Ob.lst [.rng a, .rng b, .rng c]) | false => Option.none) = some o := e
          cases z : Nat.beq 0 n with
          | false => rw [z] at told; cases told
          | true =>
            rw [z] at told
            have n0 := Nat.eq_of_beq_eq_true z
            subst n0
            cases told
            exact ⟨lt, vs, e0, fit3_ok f r⟩
        | _ => cases f
theorem endsL_ok {r : R} (f : endsL a b c r = true) (q : FinE K T W₀ σ ρ H (.ok (.bl true) [] (diceH a b c)) Q) : FinE K T W₀ σ ρ H r Q := by
  induction r with
  | or x y ix iy =>
    have z : (match endsL a b c x with
      | true => endsL a b c y
      | false => false) = true := f
    cases u : endsL a b c x with
    | true => rw [u] at z; exact ⟨ix u, iy z⟩
    | false => rw [u] at z; cases z
  | ok w e h =>
    cases w with
    | bl t =>
      cases t with
      | true => exact fun ρ' H' v s rh rw' => q ρ' H' v s (fitH_ok (show fitH a b c h = true from f) rh) rw'
      | false => exact absurd f Bool.false_ne_true
    | _ => exact absurd f Bool.false_ne_true
  | _ => exact absurd f Bool.false_ne_true
end
/-- in short: True, for dice within bounds -/
def sumL (a b c a' b' c' : Nat) : List W → Hpi → R := fun ws h => match ws with
  | [w] => (match w with
    | .loc n => (match Nat.beq n 0 with
      | true => (match fitH a b c h with
        | true => .ok (.bl true) [] (diceH a' b' c')
        | false => .bad)
      | false => .bad)
    | _ => .bad)
  | _ => .bad
/-- what is made in a call is forgotten at its end -/
def leave (r : R) : R := bnd r fun w h => cutR false 1 w [] h
theorem sumL_ok {K : PySem.W.Frag} {T : Tab} {cd : List W → Hpi → R} {f a b c a' b' c' : Nat} (ev : endsL a' b' c' (leave (cd [.loc 0] (diceH a b c))) = true) (vs : List V) (H : Hp) (Q : VK) (E : XK) (t : spC K T (fun _ => sumL a b c a' b' c') f 1 vs H Q E) : spC K T (fun _ => cd) f 1 vs H Q E := by
  obtain ⟨len, ρ, ws, h, rh, r, fin⟩ := t
  refine ⟨len, ρ, [.loc 0], diceH a b c, ?_⟩
  match ws, r, fin with
  | [w], r, fin =>
    cases w with
    | loc n =>
      unfold sumL at fin
      cases z : Nat.beq n 0 with
      | false => simp only [z] at fin; exact fin.elim
      | true =>
        simp only [z] at fin
        have n0 := Nat.eq_of_beq_eq_true z
        subst n0
        cases y : fitH a b c h with
        | false => simp only [y] at fin; exact fin.elim
        | true =>
          simp only [y] at fin
          have rh0 := fitH_ok y rh
          refine ⟨rh0, r, ?_⟩
          exact (fin_bnd0 (endsL_ok ev fin)).imp fun v H2 ⟨ρ2, w2, h2, s2, rh2, r2, f2⟩ => cut_ok f2 rh0.nx s2 rh2 r2
    | _ => exact fin.elim
/-! ### the ways of a result, one by one (no way is looked at before its turn) -/
def pickR (r : R) (n : Nat) : R := R.rec (motive := fun _ => Nat → R) (fun w e h _ => .ok w e h) (fun w h _ => .ret w h) (fun e h _ => .brk e h) (fun e h _ => .cnt e h) (fun c fs e h _ => .exc c fs e h) (fun _ => .bad) (fun a _ _ ib n => Nat.rec (motive := fun _ => R) a (fun m _ => ib m) n) r n
def spine (r : R) : Nat := R.rec (motive := fun _ => Nat) (fun _ _ _ => 1) (fun _ _ => 1) (fun _ _ => 1) (fun _ _ => 1) (fun _ _ _ _ => 1) 1 (fun _ _ _ n => n + 1) r
/-- the rest of a def behind its first statement, then its end -/
def goR (k : List W → Hpi → R) (x : R) : R := leave (retR (thenR x k))
theorem ends_by {a b c : Nat} {k : List W → Hpi → R} {r : R} : ∀ {n : Nat}, Nat.ble (spine r) n = true → (∀ i, i < n → endsL a b c (goR k (pickR r i)) = true) → endsL a b c (goR k r) = true := by
  induction r with
  | or x y _ iy =>
    intro n le h
    have le2 : spine y + 1 ≤ n := Nat.le_of_ble_eq_true le
    have h1 : endsL a b c (goR k x) = true := h 0 (by omega)
    have h2 : endsL a b c (goR k y) = true := iy (n := n - 1) (Nat.ble_eq_true_of_le (by omega)) fun i lt => h (i + 1) (by omega)
    show (match endsL a b c (goR k x) with
      | true => endsL a b c (goR k y)
      | false => false) = true
    rw [h1, h2]
  | _ =>
    intro n le h
    have le2 : 1 ≤ n := Nat.le_of_ble_eq_true le
    exact h 0 le2
end
end VA
set_option Elab.async false
set_option linter.all false
set_option maxRecDepth 100000
set_option maxHeartbeats 8000000
/-! V49: what the head tells of classes with slots, of kinds, of constants. -/
namespace VA
noncomputable section
open PySem PySem.Spec PyProof.Rows L2 Srt
section
variable {K : PySem.W.Frag} {C : Addr}
theorem two {a b : Bool} (h : (a && b) = true) : a = true ∧ b = true := Bool.and_eq_true_iff.mp h
def sclsB (K : PySem.W.Frag) (C : Addr) : Bool := PySem.W.plainGet K C Str.empty && (PySem.W.isClsIn K C && (PySem.W.plainOver K C && He.eqO (PySem.W.findIn K (.ref C) "__setattr__") (some (some (.builtin "object.__setattr__")))))
theorem sclsB_ok (h : sclsB K C = true) : SlX.SCls K C := ⟨(two h).1, (two (two h).2).1, (two (two (two h).2).2).1, He.eqO_ok (two (two (two h).2).2).2⟩
def slotB (K : PySem.W.Frag) (C : Addr) (f : Str) (i : Nat) : Bool := He.eqO (PySem.W.findIn K (.ref C) f) (some (some (.ref (He.ma K C f)))) && (He.eqO (PySem.W.specialIn K (.ref (He.ma K C f)) "__get__") (some (some (.builtin "member_descriptor.__get__"))) &&
  (decide (PySem.W.takesIn K (.ref (He.ma K C f)) = some true) && (decide (PySem.W.typeIn K (.ref (He.ma K C f)) = some (.type "member_descriptor")) && (decide (PySem.W.slotIn K (He.ma K C f) C = some i) && decide (i < 1000)))))
theorem slotB_ok {f : Str} {i : Nat} (h : slotB K C f i = true) : SlX.Slot1 K C f (He.ma K C f) i := by
  have h2 := (two h).2
  have h3 := (two h2).2
  have h4 := (two h3).2
  have h5 := (two h4).2
  exact ⟨He.eqO_ok (two h).1, He.eqO_ok (two h2).1, of_decide_eq_true (two h3).1, of_decide_eq_true (two h4).1, of_decide_eq_true (two h5).1, of_decide_eq_true (two h5).2⟩
def sisiB (K : PySem.W.Frag) (C : Addr) : Bool := He.eqO (PySem.W.findIn K (.ref C) "__class__") (some (some (.builtin "object.__class__"))) && (He.eqO (PySem.W.specialIn K (.builtin "object.__class__") "__get__") (some (some (.builtin "getset_descriptor.__get__"))) &&
  (decide (PySem.W.takesIn K (.builtin "object.__class__") = some true) && decide (PySem.W.mroIn K C (.type "object") = some true)))
theorem sisiB_ok (h : sisiB K C = true) : SlX.SIsi K C := ⟨He.eqO_ok (two h).1, He.eqO_ok (two (two h).2).1, of_decide_eq_true (two (two (two h).2).2).1, of_decide_eq_true (two (two (two h).2).2).2⟩
def kitB (K : PySem.W.Frag) (t u : Value) (b : Bool) : Bool := decide (PySem.W.kitOne K t u = some b)
theorem kitB_ok {t u : Value} {b : Bool} (h : kitB K t u b = true) : PySem.W.kitOne K t u = some b := of_decide_eq_true h
end
section
variable {T : Tab} {X : Cx}
theorem glo_int {x : Str} {n : Nat} (h : ∃ t, X.mg x = some (.int (.ofNat n) t)) : Glo T X x (.int (.ofNat n)) := by
  obtain ⟨t, e⟩ := h
  exact ⟨_, .int (.ofNat n), e, ⟨t, rfl⟩, fun _ _ => .int _⟩
theorem natW_rws {ρ : Rho} {H : Hp} : ∀ ns : List Nat, RWs X.K T ρ H (ns.map fun n => .int (.ofNat n)) (ns.map fun n => .int (.ofNat n))
  | [] => .nil
  | n :: r => .cons (.int _) (natW_rws r)
theorem glo_tup {x : Str} {ns : List Nat} {a : Addr} (e : X.mg x = some (.ref a)) (h : SqT X.K H0 a (ns.map fun n => .int (.ofNat n))) : Glo T X x (.ktp (ns.map fun n => .int (.ofNat n))) :=
  ⟨_, .ref a, e, rfl, fun _ _ => .ktp h (natW_rws ns)⟩
/-- the script: a list of ints, nothing else is known -/
def rho0 : Rho := ⟨0, fun _ => 0, fun _ => False, fun n h => absurd h (Nat.not_lt_zero n)⟩
theorem rel0 {K : PySem.W.Frag} {H : Hp} (t : TbOk T H) : RelH K T rho0 H ⟨0, []⟩ := ⟨rfl, fun i _ hi => absurd hi (Nat.not_lt_zero i), fun _ z => z.elim, .nil, (fun _ _ e => nomatch e), t⟩
theorem any_rws {K : PySem.W.Frag} {ρ : Rho} {H : Hp} : ∀ ns : List Int, RWs K T ρ H (List.replicate ns.length .anyi) (ns.map V.int)
  | [] => .nil
  | n :: r => .cons (.anyi n) (any_rws r)
theorem scr_there {K : PySem.W.Frag} {H : Hp} {a : Addr} {ns : List Int} (q : SqL K H a (ns.map V.int)) : RW K T rho0 H (.scr (List.replicate ns.length .anyi)) (.ref a) := by
  refine .scr (vs := ns.map V.int) ?_ (any_rws ns)
  cases q with
  | inl r => exact .inl ⟨r, id⟩
  | inr r => exact .inr (.inr r)
/-- the law, by its answers at all lengths -/
theorem law_sp {K : PySem.W.Frag} {cd : List W → Hpi → R} {f n : Nat} (ev : ((List.range (n + 1)).all fun m => allT (cd [.scr (List.replicate m .anyi)] ⟨0, []⟩)) = true) (H : Hp) (a : Addr) (ns : List Int) (le : ns.length ≤ n) (t : TbOk T H) (q : SqL K H a (ns.map V.int)) :
    spC K T (fun _ => cd) f 1 [.ref a] H (fun v _ => v = .bl true) fun _ _ _ => False :=
  ⟨rfl, rho0, [.scr (List.replicate ns.length .anyi)], ⟨0, []⟩, rel0 t, .cons (scr_there q) .nil, allT_ok (List.all_eq_true.mp ev ns.length (List.mem_range.mpr (Nat.lt_succ_of_le le)))⟩
end
/-- a def that raises nothing -/
def noCX : CXT := fun _ _ _ _ _ _ => False
theorem calm_fn {P : Program} {w : World} {K : PySem.W.Frag} {mg : Str → Option Value} {base : Heap} {k : Nat} {f : Addr} {fd : FuncData} {ps : List Str} {sp : Sp} (F : FnOk P w K mg base (L2.CX P w) k f fd ps sp) : FnOk P w K mg base noCX k f fd ps fun vs H Q _ => sp vs H Q fun _ _ _ => False :=
  ⟨fun vs H Q _ q => F.len vs H Q _ q, fun A outer s H args us vs Q _ hr he hb hv hs => codeAny_mono (F.run A outer s H args us vs Q _ hr he hb hv hs) fun r s' q => by
    cases r with
    | ok fl => cases fl <;> exact q
    | error u =>
      obtain ⟨_, _, _, _, _, _, _, _, _, _, _, _, no⟩ := q
      exact no⟩
theorem all_at {l : List Bool} (h : (l.all fun b => b) = true) (i : Nat) {b : Bool} (e : l[i]? = some b) : b = true := List.all_eq_true.mp h b (List.mem_of_getElem? e)
end
end VA
set_option Elab.async false
set_option linter.all false
set_option maxRecDepth 100000
set_option maxHeartbeats 8000000
/-! V50: next(elt for target in walked if test, None): the generator is woken once. -/
namespace VA
noncomputable section
open PySem PySem.Spec PyProof.Rows L2 Srt
/-- the generator's names: its own ones are forgotten ones of the def, the others are the def's cells -/
structure GNm (N : List Str) (sc gsc : Scope) (own : List Nat) : Prop where
  kind : gsc.kind = .function
  co : gsc.isCoroutine = false
  cell : ∀ y ∈ gsc.names, y.2 ≠ .cell
  dot : gsc.names.lookup (".0" : Str) = some NameKind.local
  loc : ∀ y ∈ gsc.names, y.2 = .local → ∀ i, N[i]? = some y.1 → i ∈ own
  free : ∀ y ∈ gsc.names, y.2 = .free → sc.names.lookup y.1 = some .cell ∨ sc.names.lookup y.1 = some .free
def gnmB (N : List Str) (sc scope : Scope) (own : List Nat) : Bool :=
  decide (scope.kind = .function) && (!scope.isCoroutine && (decide (scope.names.lookup (".0" : Str) = some NameKind.local) && scope.names.all fun y =>
    !decide (y.2 = .cell) && ((!decide (y.2 = .local) || (List.range N.length).all fun i => !decide (N[i]? = some y.1) || own.contains i) && (!decide (y.2 = .free) || (decide (sc.names.lookup y.1 = some .cell) || decide (sc.names.lookup y.1 = some .free))))))
theorem gnm_by {N : List Str} {sc scope : Scope} {own : List Nat} (h : gnmB N sc scope own = true) : GNm N sc scope own := by
  unfold gnmB at h
  simp only [List.all_eq_true, Bool.or_eq_true, Bool.and_eq_true, Bool.not_eq_true', decide_eq_false_iff_not, decide_eq_true_eq] at h
  obtain ⟨h1, h2, h3, h4⟩ := h
  refine ⟨h1, h2, fun y hy => (h4 y hy).1, h3, fun y hy e i hi => ?_, fun y hy e => ?_⟩
  · rcases (h4 y hy).2.1 with z | z
    · exact absurd e z
    · rcases z i (List.mem_range.mpr (List.getElem?_eq_some_iff.mp hi).1) with q | q
      · exact absurd hi q
      · simpa using q
  · rcases (h4 y hy).2.2 with z | z | z
    · exact absurd e z
    · exact .inl z
    · exact .inr z
abbrev gEnv (X : Cx) (scope : Scope) (C : Addr) (code : Value) : Env := genEnv scope (cloFrom X.env.cells scope.names []) C code builtinsNs X.env
/-- the context of the generator's code; made at s -/
def genCx (X : Cx) (A : Around) (s : Shared) (H : Hp) (scope : Scope) (code : Value) (fp : List Addr) : Cx where
  prog := X.prog
  w := X.w
  K := X.K
  mg := X.mg
  base := X.base
  A := A.deeper (gEnv X scope s.heap.objs.size code)
  N := X.N
  s_0 := s
  H_0 := H
  env := gEnv X scope s.heap.objs.size code
  outer := X.stack
  stack := gEnv X scope s.heap.objs.size code :: X.stack
  ex := fp
  fn := fun _ => false
  calm := true
  pn := []
  xe := fun _ _ => False
section
variable {X : Cx} {pins : List (Addr × Obj)} {σ : L2.St} {H : Hp} {s : Shared} {scope : Scope} {own : List Nat}
theorem gen_start {A : Around} {fp : List Addr} {code : Value} {s5 : Shared} {m : Str → Option Value} (I : Inv X pins σ H s) (G : GNm X.N X.env.scope scope own) (hA : A.frames = X.A.frames) (hd : A.handled = none)
    (hfp : ∀ b ∈ fp, FpOk X pins H b ∧ b < s.heap.objs.size) (os : s5.os = s.os) (bare : AllBare s5.gens) (kp : ∀ b o, s.heap.get? b = some o → s5.heap.get? b = some o) (ns : s5.heap.Ns s.heap.objs.size m) :
    Inv (genCx X A s H scope code fp) [] (wipe σ own) H s5 := by
  have has : ∀ y ∈ scope.names, y.2 = .free → ∃ c, X.env.cells.lookup y.1 = some c := fun y hy e => (G.free y hy e).elim (fun k => I.ok.has _ (.inl k)) fun k => I.ok.has _ (.inr k)
  have old : ∀ {y c}, (cloFrom X.env.cells scope.names []).lookup y = some c → X.env.cells.lookup y = some c := fun {y c} e => by
    rcases cloFrom_mem (PySem.mem_of_lookup e) with z | ⟨h1, h2⟩
    · cases z
    · obtain ⟨c1, h3⟩ := has _ h1 rfl
      have h4 : X.env.cells.lookup y = some c1 := h3
      have h5 : c = c1 := by
        have := h2
        rw [h4] at this
        exact this
      rw [h5]
      exact h4
  have look : ∀ {y}, scope.names.lookup y = some .free → ∃ c, (cloFrom X.env.cells scope.names []).lookup y = some c := fun {y} hl =>
    mem_lookup (cloFrom_has (cells := X.env.cells) (acc := []) (show (y, NameKind.free) ∈ scope.names from PySem.mem_of_lookup hl))
  have young : ∀ b ∈ fp, ∀ o, X.base.get? b = some o → False := fun b hb o e => by
    rcases (hfp b hb).1.2.2.2.1 with z | z
    · exact I.ok.noex b o e z
    · exact absurd (Nat.lt_of_lt_of_le (Nat.lt_of_lt_of_le (Heap.lt_size e) I.ok.bsz) z) (Nat.lt_irrefl _)
  have ok : (genCx X A s H scope code fp).Ok := by
    refine ⟨I.ok.mod, G.kind, I.ok.glob, rfl, Nat.le_refl _, fun y z c e1 e2 => I.ok.inj y z c (old e1) (old e2), fun y hy => ?_, fun y c z _ => absurd (show false = true from z) Bool.false_ne_true, fun _ => hd, ?_, .inr ⟨rfl, rfl⟩,
      fun b hb => ⟨Nat.ne_of_lt (hfp b hb).2, fun y c e => (hfp b hb).1.2.2.2.2.1 y c (old e)⟩, I.bs, Nat.le_trans I.ok.bsz I.sz, fun b o e hb => young b hb o e, fun b hb z => ?_, I.stack, I.stkFree⟩
    · rcases (show scope.names.lookup y = some .cell ∨ scope.names.lookup y = some .free from hy) with hy | hy
      · exact absurd rfl (G.cell _ (PySem.mem_of_lookup hy))
      · exact look hy
    · exact Around.frames_deeper (hA.trans I.ok.frames)
    · rcases List.mem_cons.mp (I.stkSub b z) with q | q
      · exact (hfp b hb).1.2.1 q
      · exact (hfp b hb).1.2.2.1 q
  refine ⟨ok, os, bare, Un.kept kp, ⟨m, ns, fun i y v e1 e2 e3 => ?_⟩, fun y c e => ?_, I.hok.fresh (Nat.le_refl _), fun y c e => I.freeC y c (old e), fun p hp => absurd (show p ∈ ([] : List (Addr × Obj)) ++ [] from hp) (by simp), I.hok.kept kp, by rw [wipe_length]; exact I.len⟩
  · have both := wipe_some e2
    have e2 := both.1
    have hne := both.2
    have e3 : Vis scope y := e3
    rcases e3 with k | k | k
    · exact absurd (G.loc _ (PySem.mem_of_lookup k) rfl i e1) hne
    · exact absurd rfl (G.cell _ (PySem.mem_of_lookup k))
    · obtain ⟨m0, _, hl⟩ := I.loc
      have hv : Vis X.env.scope y := (G.free _ (PySem.mem_of_lookup k) rfl).elim (fun z => .inr (.inl z)) fun z => .inr (.inr z)
      obtain ⟨u, r, q⟩ := hl i y v e1 e2 hv
      obtain ⟨c, hc⟩ := look k
      refine ⟨u, r, .inr ⟨.inr k, c, hc, ?_⟩⟩
      have hx := old hc
      rcases q with ⟨z, _⟩ | ⟨_, c3, e4, z⟩
      · have z : X.env.scope.names.lookup y = some .local := z
        rcases G.free _ (PySem.mem_of_lookup k) rfl with z2 | z2 <;> rw [show X.env.scope.names.lookup y = _ from z2] at z <;> cases z
      · rw [hx] at e4
        cases e4
        exact z.keeps kp
  · obtain ⟨v, z⟩ := I.cell y c (old e)
    exact ⟨v, z.keeps kp⟩
end
/-! ### the walk -/
abbrev gCode (elt tg iter : Expr) (ifs : List Expr) (scope : Scope) (pos : Pos) (it : Addr) (env : Env) : Code := .compLoop (.GeneratorExp elt [⟨tg, iter, ifs, 0⟩] scope pos) 0 (.ref it) .none env
/-- what stands when the generator has handed out its first item, or has ended -/
def Woke (B : Cx) (Q : VK) (o : Option Value) (s : Shared) : Prop := ∃ pins σ H x, Inv B pins σ H s ∧ Q x H ∧ match o with
  | none => x = V.non
  | some v => RelV x v
/-- what is wanted of the walk -/
def NxOk (J : It) (g : TG) (tt : TT) (te : TE) (own : List Nat) (σ : L2.St) (W : Nat → Nat → Hp → Prop) (Q : VK) : Prop := ∀ (i m : Nat) (H : Hp), W i m H → (J.stop i H ∧ Q .non H) ∨
  (J.go i H ∧ ∃ Nx : Hp → Prop, (∀ H', Nx H' → ∃ m', m' < m ∧ W (i + 1) m' H') ∧ ∀ (x : V) (H' : Hp), J.yld i H x H' → g x (wipe σ own) H' fun σ' H1 => wipe σ' own = wipe σ own ∧ tt σ' H1 fun b H2 => if b = true then te σ' H2 Q else Nx H2)
section
variable {B : Cx} {elt tg iter : Expr} {ifs : List Expr} {scope : Scope} {pos : Pos} {it : Addr} {own : List Nat} {J : It} {fp : List Addr} {tn : Nat → Heap → Prop} {g : TG} {tt : TT} {te : TE} {W : Nat → Nat → Hp → Prop} {Q : VK} {σ : L2.St} {A : Around}
theorem seg_nx (hA : A.over (gCode elt tg iter ifs scope pos it B.env) [] = B.A) (hx : ∀ u s, ¬ B.xe u s) (hco : B.env.scope.isCoroutine = false) (calm : B.calm = true) (T : Turn B.prog B.w B.K tg J fp it tn) (pg : PG B tg g) (pt : PTs B ifs tt) (pe : PE B elt te)
    (hf : ∀ b ∈ fp, b ≠ B.env.locals ∧ b ∉ B.fs ∧ (b ∈ B.ex ∨ B.s_0.heap.objs.size ≤ b) ∧ (∀ x c, B.env.cells.lookup x = some c → c ≠ b) ∧ ∀ p ∈ B.pn, p.1 ≠ b) (wk : NxOk J g tt te own σ W Q) :
    ∀ (m i : Nat) (H : Hp) (s₀ s : Shared), Inv B [] (wipe σ own) H s → tn i s.heap → (∀ b ∈ fp, H b = none) → W i m H →
      Seg (model B.prog B.w) A (fun _ _ r s1 => r = .ok .next ∧ Woke B Q none s1) (fun _ _ v s1 _ => Woke B Q (some v) s1) 1 s₀ (gCode elt tg iter ifs scope pos it B.env) ((model B.prog B.w).den (gCode elt tg iter ifs scope pos it B.env)) [] s := by
  intro m
  induction m using Nat.strongRecOn
  case ind n ih =>
    intro i H1 s₀ s1 I1 t1 n1 w1
    have fpk : ∀ {G : Hp}, (∀ b ∈ fp, G b = none) → ∀ b ∈ fp, FpOk B [] G b := fun nG b hb => ⟨nG b hb, (hf b hb).1, (hf b hb).2.1, (hf b hb).2.2.1, (hf b hb).2.2.2.1, fun p hp => (hf b hb).2.2.2.2 p (by simpa using hp)⟩
    show Seg _ A _ _ 1 s₀ _ ((compTurn (.GeneratorExp elt [⟨tg, iter, ifs, 0⟩] scope pos) 0 (.ref it) .none B.env).onRaise (leaving B.env)) [] s1
    rw [compTurn_gen]
    rw [Sem.onRaise_eq_wrap]
    refine seg_bind_wrap ?_
    refine wpAny_standAt ?_
    refine seg_bind_wrap ?_
    rw [hA]
    rcases wk i n H1 w1 with ⟨stop, q⟩ | ⟨go, Nx, more, step⟩
    · refine wpAny_mono (T.done B rfl rfl rfl calm i [] s1 _ H1 (fun _ _ => False) I1 (fpk n1) t1 stop) ?_ fun _ _ z => z.elim
      rintro a s2 ⟨rfl, I2⟩
      exact seg_end (.ok .next) ⟨rfl, [], _, H1, _, I2, q, rfl⟩
    · refine wpAny_mono (T.item B rfl rfl rfl calm i [] s1 _ H1 (fun _ _ => False) I1 (fpk n1) t1 go) ?_ fun _ _ z => z.elim
      rintro a s2 ⟨u, rfl, h2⟩
      refine seg_bind_wrap ?_
      rw [hA]
      refine wpAny_mono h2 ?_ fun _ _ z => z.elim
      rintro _ s3 ⟨x, H3, I3, r3, y3, t3, n3⟩
      have P3 := I3.pinned (fpk n3) (T.obj _ _ t3)
      refine seg_bind_wrap ?_
      rw [hA]
      refine wpAny_mono (pg.run _ s3 _ H3 x u _ P3 r3 (step x H3 y3)) ?_ fun a s z => (hx a s z).elim
      rintro _ s4 ⟨σ4, H4, I4, w4, q4⟩
      refine seg_bind_wrap ?_
      rw [hA]
      refine wpAny_mono (pt.run _ s4 σ4 H4 _ I4 q4) ?_ fun a s z => (hx a s z).elim
      rintro k s5 ⟨H5, I5, q5⟩
      cases k with
      | false =>
        obtain ⟨m', lt, w6⟩ := more H5 q5
        have held : ∀ b ∈ fp, ∀ o, s3.heap.get? b = some o → s5.heap.get? b = some o ∧ H5 b = none := fun b hb o z => by
          have h := I5.pin (b, o) (List.mem_append_right _ (List.mem_append_right _ (mem_pinsAt hb z)))
          exact ⟨h.1, h.2.1⟩
        have I6 : Inv B [] (wipe σ own) H5 s5 := (I5.unpinned (pins := [])).weak (by rw [← w4, wipe_length]) fun j v z => by
          rw [← w4] at z
          exact (wipe_some z).1
        refine seg_again rfl (ih m' lt (i + 1) H5 s₀ s5 I6 (T.keep _ _ _ t3 fun b hb o z => (held b hb o z).1) (fun b hb => ?_) w6)
        obtain ⟨o, z, _⟩ := T.obj _ _ t3 b hb
        exact (held b hb o z).2
      | true =>
        have hy : ∀ v, yieldOut B.env v = yieldValue v := fun v => by
          unfold yieldOut
          rw [hco] <;> rfl
        simp only [hy, if_true]
        rw [Sem.bind_eq_wrap']
        rw [Sem.bind_eq_wrap']
        rw [Sem.wrap_wrap]
        rw [Sem.wrap_wrap]
        refine seg_wrap ?_
        rw [hA]
        refine wpAny_mono (pe.run _ s5 σ4 H5 Q I5 q5) ?_ fun a s z => (hx a s z).elim
        rintro v s6 ⟨y, H6, I6, r6, q6⟩
        exact seg_at (seg_yield rfl rfl rfl ⟨_, _, H6, y, I6, q6, r6⟩)
end
end
end VA
set_option Elab.async false
set_option linter.all false
set_option maxRecDepth 100000
set_option maxHeartbeats 8000000
/-! V51: the generator made, woken by next. -/
namespace VA
noncomputable section
open PySem PySem.Spec PyProof.Rows L2 Srt
theorem over_gen {A : Around} {elt tg iter : Expr} {ifs : List Expr} {scope : Scope} {pos : Pos} {it : Addr} {env : Env} : A.over (gCode elt tg iter ifs scope pos it env) [] = A.deeper env := by
  rfl
abbrev sCode (elt tg iter : Expr) (ifs : List Expr) (scope : Scope) (pos : Pos) (it : Addr) (env : Env) : Code := .compStart (.GeneratorExp elt [⟨tg, iter, ifs, 0⟩] scope pos) 0 (.ref it) .none env
section
variable {A : Around} {s : Shared} {E : Value → Shared → Prop}
theorem seg_begin {prog : Program} {w : World} {elt tg iter : Expr} {ifs : List Expr} {scope : Scope} {pos : Pos} {it : Addr} {env : Env} {R : GenEnd} {Y : Protocol} {n : Nat} {s₀ : Shared}
    (self : ∀ (A' : Around) (Q : Value → Shared → Prop) (E : Value → Shared → Prop), Q (.ref it) s → wpAny (model prog w) A' (pyIter (.ref it)) Q E s)
    (loop : Seg (model prog w) A R Y n s₀ (gCode elt tg iter ifs scope pos it env) ((model prog w).den (gCode elt tg iter ifs scope pos it env)) [] s) :
    Seg (model prog w) A R Y n s₀ (sCode elt tg iter ifs scope pos it env) ((model prog w).den (sCode elt tg iter ifs scope pos it env)) [] s := by
  show Seg _ A _ _ _ s₀ _ ((compStart (.GeneratorExp elt [⟨tg, iter, ifs, 0⟩] scope pos) 0 (.ref it) .none env).onRaise (leaving env)) [] s
  unfold compStart
  rw [Sem.onRaise_eq_wrap]
  change Seg _ A _ _ _ s₀ _ ((ask >>= _).wrap _ _ _ _) [] s
  refine seg_bind_wrap ?_
  refine wpAny_askSetting ?_
  split
  · exact seg_again rfl loop
  · first
      | exact seg_bind_wrap (wpAny_rule (seg_bind_wrap (wpAny_standAt (seg_bind_wrap (self _ _ _ (seg_again rfl loop))))))
      | (refine seg_bind_wrap (wpAny_rule ?_); show Seg _ A _ _ _ s₀ _ ((standAt iter.pos >>= _).wrap _ _ _ _) [] s; exact seg_bind_wrap (wpAny_standAt (seg_bind_wrap (self _ _ _ (seg_again rfl loop)))))
/-- next(g, other), g not yet woken -/
theorem call_woken {prog : Program} {w : World} {a : Addr} {g : Nat} {c : Code} {d : Value} {Q : Value → Shared → Prop} {F : Option Value → Shared → Prop} (hh : A.handled = none) (hl : s.heap.NoLimit) (hroom : A.depth < recursionLimit) (hg : s.heap.IsGen a g) (hgs : s.gens[g]? = some (.fresh c))
    (hgo : Seg (model prog w) A.in1.in1 (fun _ _ r s1 => r = .ok .next ∧ F none s1) (fun _ _ v s1 _ => F (some v) s1) 1 (s.setGen g .running) c ((model prog w).den c) [] (s.setGen g .running))
    (h1 : ∀ v s1 x, x.bare = true → F (some v) s1 → Q v (s1.setGen g x)) (h0 : ∀ s1 h', F none s1 → (∀ b o, s1.heap.get? b = some o → h'.get? b = some o) → Q d { s1.setGen g .finished with heap := h' }) :
    wpAny (model prog w) A (call (.builtin "next") [.ref a, d]) Q E s := by
  refine Calls.call_function_entry (by decide +kernel) (by decide +kernel) PySem.W.kdk_entry_next (PySem.W.kdk_args_next2 _ _) ?_
  unfold Builtin.«next»
  refine wpAny_bind (m := someArgs "next" 1 2 _) (wpAny_of_eq (a := [Value.ref a, d]) (by first | rfl | kernel_rfl!) ?_)
  dsimp only
  refine wpAny_bind (wpAny_specialOf (name := Str.ofString "__next__") hg.typeIs slot_gen_next.lookup ?_)
  refine wpAny_ite_split (fun z => absurd z (by decide)) fun _ => ?_
  refine wpAny_bind (wpAny_pyNext_genexpQ (n := 1) (P := fun _ _ s1 => F none s1) (Y := fun _ _ v s1 _ => F (some v) s1) hh hl hroom hg hgs ⟨rfl, hgo⟩ (fun v s1 x hx q => ?_) fun s1 q h' k => ?_)
  · exact wpAny_pure ⟨v, rfl, h1 v s1 x hx q⟩
  · exact wpAny_pure ⟨d, rfl, h0 s1 h' q k⟩
end
/-- next(elt for .. in .. if .., None); the def's table may have grown -/
def tNx (P : Addr) (wi : TI) (g : TG) (tt : TT) (te : TE) (own : List Nat) : TE := fun σ H Q => wi σ H fun J H1 => GxR.TabG H1 P ∧ ∀ H2, GxR.Tabbed P H1 H2 → ∃ W : Nat → Nat → Hp → Prop, (∃ m, W 0 m H2) ∧ NxOk J g tt te own σ W Q
theorem pe_nextg {X : Cx} {c P : Addr} {elt tg iter : Expr} {ifs : List Expr} {scope : Scope} {own : List Nat} {wi : TI} {g : TG} {tt : TT} {te : TE} {k j : Nat} {p pos gpos kpos : Pos} (hr : Room k X.A) (hgl : Gl X "next") (hm : X.mg "next" = Option.none) (TB : GxR.TabB X.base X.mg c P) (hcode : X.env.code = .ref c)
    (G : GNm X.N X.env.scope scope own) (hi : PI X tg iter wi) (hs : ∀ v, genFold iter X.env v = pure v)
    (hg : ∀ (s : Shared) (H : Hp) (code : Value) (fp : List Addr), PG (genCx X X.A.in1.in1 s H scope code fp) tg g) (ht : ∀ (s : Shared) (H : Hp) (code : Value) (fp : List Addr), PTs (genCx X X.A.in1.in1 s H scope code fp) ifs tt)
    (hel : ∀ (s : Shared) (H : Hp) (code : Value) (fp : List Addr), PE (genCx X X.A.in1.in1 s H scope code fp) elt te)
    (he : starEach [.GeneratorExp elt [⟨tg, iter, ifs, 0⟩] scope gpos, .Constant .none j kpos] X.env = (false, eval (.GeneratorExp elt [⟨tg, iter, ifs, 0⟩] scope gpos) X.env) :: (false, eval (.Constant .none j kpos) X.env) :: [] := by rfl) :
    PE X (.Call (.Name "next" p) [.GeneratorExp elt [⟨tg, iter, ifs, 0⟩] scope gpos, .Constant .none j kpos] [] pos) (tNx P wi g tt te own) := by
  refine ⟨fun pins s σ H Q I h => ?_⟩
  refine wpAny_Call_Name_kw (ld_blt (u := .builtin "next") I hgl hm (by first | rfl | decide +kernel) ?_ (by decide) (by decide))
  rw [he]
  refine Calls.callWith_builtin rfl (Calls.evalArgs_plain ?_)
  refine Calls.spliced_cons ?_
  have has : ∀ y ∈ scope.names, y.2 = .free → ∃ c, X.env.cells.lookup y.1 = some c := fun y hy e => (G.free y hy e).elim (fun z => I.ok.has _ (.inl z)) fun z => I.ok.has _ (.inr z)
  refine wpAny_GeneratorExp_make G.co (closure_ok has) G.cell G.dot G.kind (by have := hr.dp; omega) ?_ hs
  refine thn (hi.run pins s σ H _ I h) fun xv s1 h1 => thn h1 fun itv s2 h2 => ?_
  obtain ⟨it, fp, tn, J, H1, rfl, I2, T, t2, f2, ⟨ps, hP, hto⟩, q⟩ := h2
  refine ⟨I2.nolimit, ?_⟩
  have hPs : s2.heap.get? P = some { cls := .none, data := .fields ps } := I2.hok P _ hP
  have hPlt : P < s2.heap.objs.size := Heap.lt_size hPs
  have cd : PySem.W.CodeHd s2.heap c P := TB.code.keeps I2.bk
  have cont : ∀ (code : Value) (h3 : Heap) (tk : Nat) (more : Array Value), Heap.ExtBut P s2.heap h3 → s2.heap.objs.size ≤ h3.objs.size → h3.get? P = some { cls := .none, data := .fields (ps ++ more) } → TriplesOk (ps ++ more).toList →
      wpAny (model X.prog X.w) X.A (builtinsFor X.env.globals X.env.builtins) (fun bi s4 => ∀ h' : Heap, h'.Ns s4.heap.objs.size (fun y => if y = ".0" then some (.ref it) else Option.none) → Heap.SameBut s4.heap.objs.size (s4.heap.push { cls := .type "frame", data := .dict #[] }) h' →
        wpAny (model X.prog X.w) X.A (spliced (backTo pos [(false, eval (.Constant .none j kpos) X.env)])) (fun vs s5 => wpAny (model X.prog X.w) X.A (call (.builtin "next") ([] ++ (Value.ref h'.objs.size :: vs))) (EP X pins σ Q) X.xe s5) X.xe
          { s4 with
            gens := s4.gens.push (.fresh (sCode elt tg iter ifs scope gpos it (genEnv scope (cloFrom X.env.cells scope.names []) s4.heap.objs.size code bi X.env))),
            toks := s4.toks + 1 + 1 + 1,
            heap := h'.push { cls := .type "generator", data := .fields #[.int s4.gens.size 0, .str "<genexpr>" (s4.toks + 1), .str (X.env.qual ++ "<genexpr>") (s4.toks + 1 + 1)] } }) X.xe { s2 with heap := h3, toks := tk } := by
    intro code h3 tk more hx hsz hP3 hto3
    obtain ⟨nb, ob, e1, e2, e3, e4, e5, e6, e7, e8⟩ := TB.bm
    have keep3 : ∀ b u, b ≠ P → s2.heap.get? b = some u → h3.get? b = some u := fun b u hb e => hx b u hb e
    refine wpAny_builtinsFor (m := X.mg) (by rw [I2.ok.glob]; exact (I2.mod.glob.keeps I2.bk).extBut hx TB.gP) e1 e2 (keep3 _ _ e4 (I2.bk _ _ e5)) e6 e7 e8 ?_
    intro h' hns hsb
    generalize hgo : ({ cls := .type "generator", data := .fields #[.int s2.gens.size 0, .str "<genexpr>" (tk + 1), .str (X.env.qual ++ "<genexpr>") (tk + 1 + 1)] } : Obj) = go
    have hgen : ∀ h : Heap, (h.push go).IsGen h.objs.size s2.gens.size := fun h => by
      subst hgo
      exact ⟨_, _, _, Heap.get?_push_size _ rfl, rfl, rfl, rfl⟩
    have I3 : Inv X pins σ (upd H1 P (.tbl (ps ++ more))) { s2 with heap := h3, toks := tk } := GxR.inv_tab (g' := s2.gens) (d' := s2.drawn) (t' := tk) I2 hP keep3 hP3 I2.bare
    obtain ⟨W, ⟨m0, w0⟩, wk⟩ := q _ ⟨⟨_, upd_same, hto3⟩, fun b hb => upd_ne hb⟩
    generalize hH : upd H1 P (.tbl (ps ++ more)) = H2 at I3 w0
    have keep4 : ∀ b o, h3.get? b = some o → h'.get? b = some o := fun b o e => hsb.extBut b o (Nat.ne_of_lt (Heap.lt_size e)) (Heap.get?_push_of_some _ e)
    have keepG : ∀ b o, h3.get? b = some o → (h'.push go).get? b = some o := fun b o e => Heap.get?_push_of_some _ (keep4 b o e)
    have there : ∀ b ∈ fp, b ≠ P ∧ b < s2.heap.objs.size := fun b hb => by
      obtain ⟨o, e, _⟩ := T.obj _ _ t2 b hb
      refine ⟨fun z => ?_, Heap.lt_size e⟩
      have n := (f2 b hb).1
      rw [z, hP] at n
      cases n
    have fpk : ∀ b ∈ fp, FpOk X pins H2 b ∧ b < h3.objs.size := fun b hb => by
      refine ⟨⟨?_, (f2 b hb).2⟩, Nat.lt_of_lt_of_le (there b hb).2 hsz⟩
      rw [← hH, upd_ne (there b hb).1]
      exact (f2 b hb).1
    have t3 : tn 0 (h'.push go) := T.keep _ _ _ t2 fun b hb o e => keepG b o (keep3 b o (there b hb).1 e)
    have bare : AllBare (s2.gens.push (.fresh (sCode elt tg iter ifs scope gpos it (gEnv X scope h3.objs.size code)))) := AllBare.push I2.bare rfl
    have IB : ∀ (tk' : Nat), Inv (genCx X X.A.in1.in1 { s2 with heap := h3, toks := tk } H2 scope code fp) [] (wipe σ own) H2 (({ s2 with gens := s2.gens.push (.fresh (sCode elt tg iter ifs scope gpos it (gEnv X scope h3.objs.size code))), toks := tk', heap := h'.push go } : Shared).setGen s2.gens.size .running) := fun tk' =>
      gen_start I3 G rfl hr.hd fpk rfl (allBare_setGen (s := { s2 with gens := _, toks := tk', heap := h'.push go }) bare rfl) keepG (hns.push _)
    have back : ∀ {o : Option Value} {s' : Shared}, Woke (genCx X X.A.in1.in1 { s2 with heap := h3, toks := tk } H2 scope code fp) Q o s' → ∀ (x : GenState) (h'' : Heap), x.bare = true → (∀ b u, s'.heap.get? b = some u → h''.get? b = some u) →
        ∃ y H', Inv X pins σ H' { s'.setGen s2.gens.size x with heap := h'' } ∧ Q y H' ∧ match o with
          | none => y = V.non
          | some v => RelV y v := fun {o s'} w x h'' hx hk => by
      obtain ⟨pins', σ', H', y, JB, qy, ry⟩ := w
      refine ⟨y, H', ?_, qy, ry⟩
      exact I3.call' (ch := fp) (s' := { s'.setGen s2.gens.size x with heap := h'' }) JB.os (JB.base.trans (Un.kept hk)) (JB.hok.kept hk) (allBare_setGen JB.bare hx) fun b hb => ⟨(fpk b hb).1.2.2.2.1, (fpk b hb).1.2.1, (fpk b hb).1.2.2.2.2.1, (fpk b hb).1.2.2.2.2.2⟩
    show wpAny _ _ (spliced ((false, eval (.Constant .none j kpos) X.env) :: [])) _ _ _
    refine Calls.spliced_cons (Constant_none (Calls.spliced_nil ?_))
    refine call_woken (F := Woke (genCx X X.A.in1.in1 { s2 with heap := h3, toks := tk } H2 scope code fp) Q) hr.hd (I3.nolimit.keeps keepG) (by have := hr.dp; omega) (hgen h') (Array.getElem?_push_size ..) ?_ (fun v s1 x hx w => ?_) fun s1 h'' w hk => ?_
    · refine seg_begin (fun A' Q' E' hq => T.self A' 0 _ Q' E' t3 hq) ?_
      have ib := IB (tk + 1 + 1 + 1)
      refine seg_nx (B := genCx X X.A.in1.in1 { s2 with heap := h3, toks := tk } H2 scope code fp) over_gen (fun _ _ z => z) G.co rfl T (hg _ _ _ _) (ht _ _ _ _) (hel _ _ _ _) (fun b hb => ⟨(ib.ok.exf b hb).1, ib.ok.exfs b hb, .inl hb, (ib.ok.exf b hb).2, fun p hp => absurd (show p ∈ ([] : List (Addr × Obj)) from hp) (by simp)⟩) wk m0 0 H2 _ _ ib t3 (fun b hb => (fpk b hb).1.1) w0
    · obtain ⟨y, H', I', qy, ry⟩ := back w x s1.heap hx fun _ _ e => e
      exact ⟨y, H', I', ry, qy⟩
    · obtain ⟨y, H', I', qy, ry⟩ := back w .finished h'' rfl hk
      obtain rfl : y = V.non := ry
      exact ⟨.non, H', I', rfl, qy⟩
  cases among : codeAmong gpos ps.toList with
  | none =>
    refine wpAny_genexprCodeX hcode (cd.code hPs hto) (cd.tab hPs) among fun c' h' tk hx hge hlt hco' _ htab' _ => ?_
    obtain ⟨oz, vz, f1, tf, fl, tg, inF, tx, tt, op, _, _, _, _, _, _, _, _, _, htr, _⟩ := hco'
    exact cont _ h' tk _ hx (Nat.le_trans hge (Nat.le_of_lt hlt)) htab'.2 htr
  | some cv =>
    refine wpAny_genexprCode_hit hcode (cd.code hPs hto) among ?_
    exact cont cv s2.heap s2.toks #[] (Heap.ExtBut.refl _ _) (Nat.le_refl _) (by simpa using hPs) (by simpa using hto)
end
end VA
set_option Elab.async false
set_option linter.all false
set_option maxRecDepth 100000
set_option maxHeartbeats 8000000
/-! V52: next(elt for .. in .. if .., None), the reading. -/
namespace VA
noncomputable section
open PySem PySem.Spec PyProof.Rows L2 Srt
def nxL (g : Tg) (ts el : D) (ca : CallT) : List W → List W → Hpi → R
  | [], e, h => .ok .non e h
  | w :: ws, e, h => bindG g w e fun e1 => bndTC (ts ca e1 h) fun b h1 => match b with
    | false => nxL g ts el ca ws e h1
    | true => bndC (el ca e1 h1) fun v h2 => .ok v e h2
def mNx (own : List Nat) (g : Tg) (it ts el : D) : D := fun ca e h => bndI (it ca e h) fun ws h1 => wipeK own e fun e0 => nxL g ts el ca ws e0 h1
section
variable {K : PySem.W.Frag} {T : Tab} {ρ : Rho} {H H2 : Hp} {h : Hpi} {P : Addr}
/-- a table has grown -/
theorem stp_tab (tb : GxR.Tabbed P H H2) (t : GxR.TabG H P) : Stp ρ H ρ H2 where
  le := Nat.le_refl _
  pl := fun _ _ => rfl
  fresh := fun n h1 h2 => absurd h2 (Nat.not_lt.mpr h1)
  up := fun _ z => z
  dn := fun _ _ _ z => z
  hold := fun a o e _ _ n => by
    rw [tb.2 a fun z => ?_]
    · exact e
    · obtain ⟨ps, e2, _⟩ := t
      rw [z, e2] at e
      exact n ⟨ps, (Option.some.inj e).symm⟩
  live := fun a o e => by
    by_cases z : a = P
    · obtain ⟨ps, e2, _⟩ := tb.1
      exact ⟨_, by rw [z]; exact e2⟩
    · exact ⟨o, by rw [tb.2 a z]; exact e⟩
  tb := fun T' ok Z hZ => by
    by_cases z : Z = P
    · rw [z]; exact tb.1
    · obtain ⟨ps, e2, q⟩ := ok Z hZ
      exact ⟨ps, by rw [tb.2 Z z]; exact e2, q⟩
theorem relH_tab (r : RelH K T ρ H h) (tb : GxR.Tabbed P H H2) (t : GxR.TabG H P) : RelH K T ρ H2 h := by
  have st : Stp ρ H ρ H2 := stp_tab tb t
  have far : ∀ {b o}, H b = some o → ¬ isTb o → H2 b = some o := fun {b o} e n => by
    rw [tb.2 b fun z => ?_]
    · exact e
    · obtain ⟨ps, e2, _⟩ := t
      rw [z, e2] at e
      exact n ⟨ps, (Option.some.inj e).symm⟩
  refine ⟨r.nx, r.inj, fun a m => ?_, r.srt, fun n u e => ?_, st.tb T r.tb⟩
  · obtain ⟨o, e, q⟩ := r.on a m
    exact ⟨o, far e (nT_tb q), q⟩
  · obtain ⟨hn, x⟩ := r.ob n u e
    refine ⟨hn, ?_⟩
    cases u with
    | lst ws => obtain ⟨vs, e1, q⟩ := x; exact ⟨vs, far e1 (r.pt hn e1), q.step st⟩
    | dct ks ws => obtain ⟨o, e1, q⟩ := x; exact ⟨o, far e1 (r.pt hn e1), q.step st⟩
    | ins c fs =>
      obtain ⟨h2, vs, q, z⟩ := x
      refine ⟨h2, vs, ?_, fun i w e1 n1 => ?_⟩
      · rcases q with ⟨q1, q2, q3⟩ | ⟨q1, q2⟩
        · exact .inl ⟨far q1 (r.pt hn q1), far q2 (r.pt h2 q2), q3⟩
        · exact .inr ⟨far q1 (r.pt hn q1), far q2 (r.pt h2 q2)⟩
      · obtain ⟨v, e2, q3⟩ := z i w e1 n1
        exact ⟨v, e2, q3.step st⟩
end
section
variable {X : Cx} {T : Tab} {ca : CallT}
theorem t_nx {P : Addr} {own : List Nat} {g : Tg} {di dt de : D} {W₀ : WX} {σ : L2.St} {H : Hp} {Q : VK} (hP : P ∈ T.tg) (hg : ∀ i ∈ tgs g, i ∈ own) (h : tE X.K T ca W₀ (mNx own g di dt de) σ H Q) :
    tNx P (tI X.K T ca W₀ di) (tG X.K g) (tT X.K T ca noW dt) (tE X.K T ca noW de) own σ H Q := by
  obtain ⟨ρ, e, h, re, rh, f⟩ := h
  refine ⟨ρ, e, h, re, rh, (fin_bndI f).imp ?_⟩
  rintro J H1 ⟨ρ1, ws, h1, s1, rh1, bh, f1⟩
  refine ⟨rh1.tb P hP, fun H2 tb => ?_⟩
  have st : Stp ρ1 H1 ρ1 H2 := stp_tab tb (rh1.tb P hP)
  have rh2 := relH_tab rh1 tb (rh1.tb P hP)
  rw [wipeK_eq] at f1
  have f2 := FinE.step st f1
  have re2 := re.step (s1.trans st)
  refine ⟨fun i m H => m = ws.length - i ∧ i ≤ ws.length ∧ ∃ ρ h, Stp ρ1 H2 ρ H ∧ RelH X.K T ρ H h ∧ FinE X.K T W₀ σ ρ1 H2 (nxL g dt de ca (ws.drop i) (wipeW e own) h) Q, ⟨ws.length, by simp, Nat.zero_le _, ρ1, h1, Stp.refl _ _, rh2, f2⟩, ?_⟩
  rintro i m H ⟨rfl, hi, ρ3, h3, s3, rh3, f3⟩
  have s13 : Stp ρ1 H1 ρ3 H := st.trans s3
  by_cases hlt : i < ws.length
  · have ed : ws.drop i = ws[i] :: ws.drop (i + 1) := List.drop_eq_getElem_cons hlt
    rw [ed] at f3
    refine .inr ⟨bh.go i ρ3 H hlt s13.m0, fun H' => ∃ ρ h, Stp ρ1 H2 ρ H' ∧ RelH X.K T ρ H' h ∧ FinE X.K T W₀ σ ρ1 H2 (nxL g dt de ca (ws.drop (i + 1)) (wipeW e own) h) Q, fun H' z => ⟨ws.length - (i + 1), by omega, rfl, hlt, z⟩, fun x H' y => ?_⟩
    obtain ⟨s4, rh4, r4⟩ := bh.yld i ws[i] ρ3 H h3 x H' (by simp [hlt]) s13.m0 rh3 y
    refine fin_bindC (vs := own) hg r4 (re2.step (s3.trans s4) |>.wipe own) f3 fun e' σ2 hw re' f4 => ⟨hw.trans (wipe_wipe own), ρ3, e', h3, re', rh4, (fin_bndTC f4).imp ?_⟩
    rintro b H5 ⟨ρ5, h5, s5, rh5, f5⟩
    cases b with
    | false =>
      rw [if_neg (by decide)]
      exact ⟨ρ5, h5, (s3.trans s4).trans s5, rh5, f5⟩
    | true =>
      rw [if_pos rfl]
      refine ⟨ρ5, e', h5, re'.step s5, rh5, (fin_bndC f5).imp ?_⟩
      rintro v H6 ⟨ρ6, w6, h6, s6, rh6, r6, f6⟩
      exact f6 ρ6 H6 v (((s3.trans s4).trans s5).trans s6) rh6 r6
  · have ei : i = ws.length := by omega
    subst ei
    rw [List.drop_length] at f3
    exact .inl ⟨bh.stop ρ3 H s13.m0, f3 ρ3 H .non s3 rh3 .non⟩
abbrev GenC (X : Cx) (scope : Scope) (P : Cx → Prop) : Prop := ∀ (s : Shared) (H : Hp) (code : Value) (fp : List Addr), P (genCx X X.A.in1.in1 s H scope code fp)
theorem SE.nx {c P : Addr} {elt tg it : Expr} {ifs : List Expr} {scope : Scope} {own : List Nat} {p pos gpos kpos : Pos} {j k : Nat} {g : Tg} {di dt de : D} (hr : Room k X.A) (hgl : Gl X "next") (hm : X.mg "next" = Option.none) (TB : GxR.TabB X.base X.mg c P) (hcode : X.env.code = .ref c) (hP : P ∈ T.tg)
    (G : GNm X.N X.env.scope scope own) (hgo : ∀ i ∈ tgs g, i ∈ own) (hi : SI T ca X tg it di) (hs : ∀ v, genFold it X.env v = pure v)
    (hg : GenC X scope fun B => SG B tg g) (ht : GenC X scope fun B => STs T ca B ifs dt) (he : GenC X scope fun B => SE T ca B elt de)
    (hst : starEach [.GeneratorExp elt [⟨tg, it, ifs, 0⟩] scope gpos, .Constant .none j kpos] X.env = (false, eval (.GeneratorExp elt [⟨tg, it, ifs, 0⟩] scope gpos) X.env) :: (false, eval (.Constant .none j kpos) X.env) :: [] := by rfl) :
    SE T ca X (.Call (.Name "next" p) [.GeneratorExp elt [⟨tg, it, ifs, 0⟩] scope gpos, .Constant .none j kpos] [] pos) (mNx own g di dt de) := fun W₀ t =>
  (pe_nextg (g := tG X.K g) (tt := tT X.K T ca noW dt) (te := tE X.K T ca noW de) hr hgl hm TB hcode G (hi W₀ t) hs (fun s H code fp => hg s H code fp) (fun s H code fp => ht s H code fp noW noTk) (fun s H code fp => he s H code fp noW noTk) hst).weak fun _ _ _ h => t_nx (X := X) hP hgo h
end
end
end VA
set_option Elab.async false
set_option linter.all false
set_option maxRecDepth 100000
set_option maxHeartbeats 8000000
/-! V53: class E(B): def __init__(self, x): super().__init__("m"); self.f = x -- made. -/
namespace VA
noncomputable section
open PySem PySem.W PySem.Calls PyProof.Rows
/-- what the text says of such a class, its __init__ at fI -/
structure SupF (P : Program) (K : Frag) (C fI : Addr) (B newId initId : String) (bmB : List Value) (f : Str) (qual : Str) (params : Arguments) (body : List Stmt) (scope : Scope) : Prop where
  ini : findIn K (.ref C) "__init__" = some (some (.ref fI))
  isf : typeIn K (.ref fI) = some (.type "function")
  qi : excInitIn K C bmB newId = true
  sa : findIn K (.ref C) "__setattr__" = some (some (.builtin "object.__setattr__"))
  ov : excOver K C bmB = true
  tk : takerIn K C f = some none
  hd : hasDictIn K C = true
  sub : subIn K (.ref C) (.type B) = some true
  exC : subIn K (.ref C) (.type "BaseException") = some true
  tyC : typeIn K (.ref C) = some (.type "type")
  kC : keepIn K (.ref C) = true
  up : ks_superIn K C C "__init__" = some (some (.builtin initId))
  mr : mroIn K C (.ref C) = some true
  op : nsIn K cStatics "thirdparty.any" = some none
  cl : (clsIn K C).isSome = true
  fn : ∃ oc od osl kV doc pm an cda ct cc, K.lookup fI = some ⟨oc, od, .func (ksFn "__init__" qual params body scope .none kV doc pm an (.ref cda) ct cc), osl⟩ ∧ codeIn K (.ref cda) qual = true ∧
    (∃ ccl cdd vs ccs file tf, K.lookup cda = some ⟨ccl, cdd, .fields vs, ccs⟩ ∧ vs[2]? = some (.str file tf) ∧ ((P.main.file : Str) == file) = true) ∧ ∃ c1 c2 c3, K.lookup cc = some ⟨c1, c2, .cell (some (.ref C)), c3⟩
section
variable {prog : Program} {w : World} {A : Around} {R : Result → Shared → Prop} {hp : Heap} {g : Array GenState} {d : Drawn} {t : Nat} {os : OsState} {K : Frag} {C fI : Addr} {B newId initId : String} {bmB : List Value}
  {a0 a1 f m qual : Str} {params : Arguments} {scope : Scope} {p0 p1 p2 p3 p4 p5 p6 p7 p8 p9 : Pos} {j : Nat} {mg mb : Str → Option Value} {e u : Value} {x t0 : Addr}
theorem sup_run (S : SupF prog K C fI B newId initId bmB f qual params [.Expr (.Call (.Attribute (.Call (.Name "super" p0) [] [] p1) "__init__" p2) [.Constant (.str m) j p3] [] p4) p5, .Assign [.Attribute (.Name a0 p6) f p7] (.Name a1 p8) p9] scope)
    (FB : ExcBaseFacts B newId initId bmB) (KF : KxsFacts B initId) (SF : StoreFacts B bmB "object.__setattr__" "object") (X : K.In hp) (hlim : hp.NoLimit) (hG : hp.Ns mainGlobals mg) (hgs : mg "super" = none) (hB : hp.Ns builtinsNs mb) (hbs : mb "super" = some (.type "super"))
    (htop : (prog.main.scope.names.lookup ("super" : Str)).isSome = false) (hroom : A.depth < recursionLimit)
    (hbind : ∀ (kV doc pm : Value) (an : Option Addr) (cda ct : Value) (cc : Addr), bindArgs (ksFn "__init__" qual params [.Expr (.Call (.Attribute (.Call (.Name "super" p0) [] [] p1) "__init__" p2) [.Constant (.str m) j p3] [] p4) p5, .Assign [.Attribute (.Name a0 p6) f p7] (.Name a1 p8) p9] scope .none kV doc pm an cda ct cc) ⟨[.ref x, u], []⟩ = pure [(a0, .ref x), (a1, u)])
    (hco : scope.isCoroutine = false) (hgen : scope.isGenerator = false) (hk : scope.kind = .function) (hcell : ∀ y ∈ scope.names, y.2 ≠ .cell) (h0 : scope.names.lookup a0 = some .local) (h1 : scope.names.lookup a1 = some .local) (h01 : a0 ≠ a1)
    (hks : scope.names.lookup ("super" : Str) = some .globalImplicit) (hkc : scope.names.lookup ("__class__" : Str) = some .free) (ar : Arg) (har : (params.posonlyargs ++ params.args).head? = some ar) (hara : ar.arg = a0)
    {pl : Env → Sem Bool} (hev : ∀ env : Env, eval (.Call (.Attribute (.Call (.Name "super" p0) [] [] p1) "__init__" p2) [.Constant (.str m) j p3] [] p4) env = (do
      let ov ← attributeBase (.Call (.Name "super" p0) [] [] p1) "__init__" env (eval (.Call (.Name "super" p0) [] [] p1) env)
      standAt p2.atName
      let (f, first) ← holding [ov] (getMethod ov "__init__" (pl env))
      callWith p4 f first (backTo p4 (starEach [.Constant (.str m) j p3] env)) []))
    (hd0 : (a0 == ("__debug__" : Str)) = false) (hd1 : (a1 == ("__debug__" : Str)) = false)
    (hx : ((hp.push (excTup [u])).push (excObj C hp.objs.size none .none)).get? x = some (excObj C hp.objs.size none .none)) (hxe : x = hp.objs.size + 1)
    (fin : ∀ h' t' dx td tk, (∀ b o, hp.get? b = some o → h'.get? b = some o) → h'.get? x = some (excObj C t' (some dx) .none) → h'.get? dx = some (dictOf [⟨PyData.keyHash w.params f, .str f td, u⟩] 1) → hp.get? dx = none → dx ≠ x → R (.ok (.ret .none)) ⟨h', g, d, tk, os⟩) :
    codeAny (model prog w) A (.call (.ref fI) ⟨[.ref x, u], []⟩) R ⟨(hp.push (excTup [u])).push (excObj C hp.objs.size none .none), g, d, t, os⟩ := by
  obtain ⟨oc, od, osl, kV, doc, pm, an, cda, ct, cc, lk, hcd, ⟨ccl, cdd, vs, ccs, file, tf, lc, hvs, hfile⟩, c1, c2, c3, lcc⟩ := S.fn
  have kp2 : ∀ b o, hp.get? b = some o → ((hp.push (excTup [u])).push (excObj C hp.objs.size none .none)).get? b = some o := fun b o e => Heap.get?_push_of_some _ (Heap.get?_push_of_some _ e)
  have X2 : K.In ((hp.push (excTup [u])).push (excObj C hp.objs.size none .none)) := X.keeps kp2
  have ht2 : ((hp.push (excTup [u])).push (excObj C hp.objs.size none .none)).get? hp.objs.size = some (excTup [u]) := by heap_get
  refine ks_codeAny_call_defAt (binds := [(a0, .ref x), (a1, u)]) hroom (X2 _ _ lk) rfl (hlim.keeps kp2) (codeRec_of X2 hcd) rfl (.of_eq (hbind ..)) hcell (fun y hy => ?_) (fun hh hns kp => ?_) hco hgen hk
  · rcases List.mem_cons.mp hy with z | z
    · rw [z]; exact h0
    · rw [List.mem_singleton.mp z]; exact h1
  have nx : hp.get? x = none := by rw [hxe]; exact Heap.get?_none_of_le (Nat.le_succ _)
  have nt : hp.get? hp.objs.size = none := Heap.get?_none_of_le (Nat.le_refl _)
  have szL : ((hp.push (excTup [u])).push (excObj C hp.objs.size none .none)).objs.size = hp.objs.size + 2 := by rw [Heap.size_push, Heap.size_push]
  generalize hL : ((hp.push (excTup [u])).push (excObj C hp.objs.size none .none)).objs.size = L at hns ⊢
  generalize hm : (fun y : Str => ([(a0, Value.ref x), (a1, u)] : List (Str × Value)).reverse.lookup y) = mL at hns
  have m0 : mL a0 = some (.ref x) := by
    subst hm
    show ([(a1, u), (a0, Value.ref x)] : List (Str × Value)).lookup a0 = _
    rw [List.lookup_cons, show (a0 == a1) = false from by simpa using h01, List.lookup_cons, show (a0 == a0) = true from by simp]
  have m1 : mL a1 = some u := by
    subst hm
    show ([(a1, u), (a0, Value.ref x)] : List (Str × Value)).lookup a1 = _
    rw [List.lookup_cons, show (a1 == a1) = true from by simp]
  have F0 : Fr hp L hh mL := ⟨hns, fun b o e => kp b o (kp2 b o e), by rw [← hL, szL]; exact Nat.le_add_right _ _⟩
  have N0 : News hp L hh [(x, excObj C hp.objs.size none .none), (hp.objs.size, excTup [u])] := by
    intro p hpm
    rcases List.mem_cons.mp hpm with z | z
    · rw [z]
      exact ⟨kp _ _ hx, by rw [← hL, szL, hxe]; exact Nat.ne_of_lt (Nat.lt_succ_self _), nx⟩
    · have only := List.mem_singleton.mp z
      rw [only]
      exact ⟨kp _ _ ht2, by rw [← hL, szL]; exact Nat.ne_of_lt (Nat.lt_add_of_pos_right (by decide)), nt⟩
  have Xh : K.In hh := X2.keeps kp
  have hara' : scope.names.lookup ar.arg = some .local := by rw [hara]; exact h0
  have m0' : mL ar.arg = some (.ref x) := by rw [hara]; exact m0
  obtain ⟨cdD, hcD⟩ := Option.isSome_iff_exists.mp S.cl
  obtain ⟨oD, hD1, hD2⟩ : ∃ oD, hh.get? C = some oD ∧ oD.data = .cls cdD := by
    unfold clsIn at hcD
    split at hcD
    · rename_i z ho
      cases hcD
      exact ⟨_, Xh _ _ ho, rfl⟩
    · cases hcD
  have hint : ∀ (L' : Addr), interactive (callEnv (ksFn "__init__" qual params [.Expr (.Call (.Attribute (.Call (.Name "super" p0) [] [] p1) "__init__" p2) [.Constant (.str m) j p3] [] p4) p5, .Assign [.Attribute (.Name a0 p6) f p7] (.Name a1 p8) p9] scope .none kV doc pm an (.ref cda) ct cc) L' fI) = false := fun L' => by
    unfold interactive
    first
      | (show (scope.kind == _ && _) = false; rw [hk]; rfl)
      | (show (scope.kind == _) = false; rw [hk]; rfl)
      | simp [callEnv, newEnv, hk]
  refine ks_wpAt_execs_cons (ks_wpAt_Expr_any (ks_wpAt_MethodCall (ks_wpAt_super_base hks hkc (by decide) rfl (Xh _ _ lk) rfl har rfl (Xh _ _ lc) rfl hvs hfile htop ?_) (hev _)) (hi := hint _))
  have hGh : hh.Ns mainGlobals mg := hG.keeps F0.keep
  have hBh : hh.Ns builtinsNs mb := hB.keeps F0.keep
  refine ks_loadName_global hk hks (loadGlobal_builtin hGh hgs hBh hbs ⟨rfl, ?_⟩)
  refine wpAny_loadName_free hk hkc rfl ⟨_, Xh _ _ lcc, rfl⟩ ?_
  refine wpAny_loadName_local hk hara' hns m0' ?_
  refine ks_wpAny_isType_cls hD1 hD2 (And.intro rfl ?_)
  refine ks_wpAny_call_super hD1 hD2 (N0 _ List.mem_cons_self).1 rfl (fun c e => nomatch e) (looks_mroIn Xh S.mr) (fun h2 e2 k2 => ?_)
  obtain ⟨F2, N2, l2⟩ := ks_newsPush (s := ⟨hh, g, d, t, os⟩) F0 N0 rfl e2 k2
  refine kxs_method KF F2 X N2 List.mem_cons_self (InstAt.of_exc0 N2 (List.mem_cons_of_mem _ List.mem_cons_self)) S.op S.up S.sub (by decide) fun q h3 F3 N3 l3 => ?_
  refine kxs_callWith1 N3 List.mem_cons_self ?_
  show wpAny _ _ (spliced ((false, eval (.Constant (.str m) j p3) _) :: [])) _ _ _
  refine Calls.spliced_cons (Calls.Constant_str (Calls.spliced_nil ⟨kxs_at N3 List.mem_cons_self, ?_⟩))
  have ne3 : ∀ {p : Addr × Obj}, p ∈ [(x, excObj C hp.objs.size none .none), (hp.objs.size, excTup [u])] → p.1 ≠ hh.objs.size := fun h => Nat.ne_of_lt (l2 _ h)
  have xt : hp.objs.size ≠ x := by rw [hxe]; exact Nat.ne_of_lt (Nat.lt_succ_self _)
  refine kxs_call F3 X N3 FB S.qi List.mem_cons_self (UpdF.tail (Nat.ne_of_gt (l3 _ (List.mem_cons_of_mem _ List.mem_cons_self))) (UpdF.tail (Nat.ne_of_gt (l2 _ List.mem_cons_self)) (UpdF.head fun p hpm => by rw [List.mem_singleton.mp hpm]; exact xt))) (by rw [sizeLine_eq]; show 1 ≤ _; omega) fun t' h4 F4 N4 l4 => ?_
  have lx : x < t' := l4 _ (List.mem_cons_of_mem _ (List.mem_cons_of_mem _ List.mem_cons_self))
  refine ks_wpAt_execs_cons (ks_wpAt_Assign_Attr (wpAt_of_wpAny (wpAny_Name (wpAny_loadName_local hk h1 F4.ns m1 ?_) hd1)) rfl)
  refine wpAny_Name (wpAny_loadName_local hk h0 F4.ns m0 ?_) hd0
  refine set_exc0 SF F4 X N4 (List.mem_cons_of_mem _ (List.mem_cons_of_mem _ (List.mem_cons_of_mem _ List.mem_cons_self))) S.sa S.ov S.tk S.hd rfl (UpdF.tail (Nat.ne_of_gt lx) (UpdF.tail (Nat.ne_of_gt (l3 _ (List.mem_cons_of_mem _ List.mem_cons_self))) (UpdF.tail (Nat.ne_of_gt (l2 _ List.mem_cons_self)) (UpdF.head fun p hpm => by rw [List.mem_singleton.mp hpm]; exact xt)))) (by show 1 ≤ 1000; decide) fun dx h5 F5 N5 l5 => ?_
  refine wpAt_of_wpAny (wpAny_execs_nil ?_)
  have lxd : x < dx := l5 _ (List.mem_cons_of_mem _ (List.mem_cons_of_mem _ (List.mem_cons_of_mem _ List.mem_cons_self)))
  have md := N5 _ List.mem_cons_self
  have mx := N5 (x, excObj C t' (some dx) .none) (List.mem_cons_of_mem _ (List.mem_cons_of_mem _ (List.mem_cons_of_mem _ (List.mem_cons_of_mem _ List.mem_cons_self))))
  exact fin h5 t' dx _ _ F5.keep mx.1 md.1 md.2.2 (Nat.ne_of_gt lxd)
end
end
end VA
set_option Elab.async false
set_option linter.all false
set_option maxRecDepth 100000
set_option maxHeartbeats 8000000
/-! V54: E(x) as a made exception. -/
namespace VA
noncomputable section
open PySem PySem.Spec PyProof.Rows L2
theorem one_key {h : Heap} {dx : Addr} {hs : Int} {f : Str} {td : Tok} {u : Value} (e : h.get? dx = some (PySem.W.dictOf [⟨hs, .str f td, u⟩] 1)) : h.Ns1 dx fun y => if y = f then some u else Option.none := by
  refine ⟨_, _, _, e, rfl, fun q hq => ?_, ?_, fun y => ?_⟩
  · have hq : q ∈ [(⟨hs, .str f td, u⟩ : DictEntry)] := by simpa using hq
    rw [List.mem_singleton.mp hq]
    exact ⟨f, td, rfl⟩
  · show List.Pairwise _ [(⟨hs, .str f td, u⟩ : DictEntry)]
    exact List.pairwise_singleton _ _
  · by_cases c : y = f
    · subst c
      simp [nsFind, findBy, Value.isStr]
    · show _ = (if y = f then some u else Option.none)
      rw [if_neg c]
      have c2 : (f == y) = false := by simpa using fun z : f = y => c z.symm
      simp [nsFind, findBy, Value.isStr, c2]
section
variable {X : Cx} {C fI : Addr} {B newId initId : String} {bmB : List Value} {a0 a1 f m qual : Str} {params : Arguments} {scope : Scope} {p0 p1 p2 p3 p4 p5 p6 p7 p8 p9 p pos : Pos} {j k : Nat} {x : Str} {e : Expr} {te : TE}
theorem pmk_sup (S : SupF X.prog X.K C fI B newId initId bmB f qual params [.Expr (.Call (.Attribute (.Call (.Name "super" p0) [] [] p1) "__init__" p2) [.Constant (.str m) j p3] [] p4) p5, .Assign [.Attribute (.Name a0 p6) f p7] (.Name a1 p8) p9] scope)
    (FB : ExcBaseFacts B newId initId bmB) (KF : PySem.W.KxsFacts B initId) (SF : StoreFacts B bmB "object.__setattr__" "object") (hgs : X.mg "super" = Option.none)
    (htop : (X.prog.main.scope.names.lookup ("super" : Str)).isSome = false) (hr : Room (k + 1) X.A)
    (hbind : ∀ (kV doc pm : Value) (an : Option Addr) (cda ct : Value) (cc : Addr) (s u : Value), bindArgs (PySem.W.ksFn "__init__" qual params [.Expr (.Call (.Attribute (.Call (.Name "super" p0) [] [] p1) "__init__" p2) [.Constant (.str m) j p3] [] p4) p5, .Assign [.Attribute (.Name a0 p6) f p7] (.Name a1 p8) p9] scope .none kV doc pm an cda ct cc) ⟨[s, u], []⟩ = pure [(a0, s), (a1, u)])
    (hco : scope.isCoroutine = false) (hgen : scope.isGenerator = false) (hk : scope.kind = .function) (hcell : ∀ y ∈ scope.names, y.2 ≠ .cell) (h0 : scope.names.lookup a0 = some .local) (h1 : scope.names.lookup a1 = some .local) (h01 : a0 ≠ a1)
    (hks : scope.names.lookup ("super" : Str) = some .globalImplicit) (hkc : scope.names.lookup ("__class__" : Str) = some .free) (ar : Arg) (har : (params.posonlyargs ++ params.args).head? = some ar) (hara : ar.arg = a0)
    {pl : Env → Sem Bool} (hev : ∀ env : Env, eval (.Call (.Attribute (.Call (.Name "super" p0) [] [] p1) "__init__" p2) [.Constant (.str m) j p3] [] p4) env = (do
      let ov ← attributeBase (.Call (.Name "super" p0) [] [] p1) "__init__" env (eval (.Call (.Name "super" p0) [] [] p1) env)
      standAt p2.atName
      let (f, first) ← holding [ov] (getMethod ov "__init__" (pl env))
      callWith p4 f first (backTo p4 (starEach [.Constant (.str m) j p3] env)) []))
    (hd0 : (a0 == ("__debug__" : Str)) = false) (hd1 : (a1 == ("__debug__" : Str)) = false) (hg : Gl X x) (hm : X.mg x = some (.ref C)) (he : PE X e te) (hs : starEach [e] X.env = (false, eval e X.env) :: starEach [] X.env := by rfl) (hdb : (x == ("__debug__" : Str)) = false := by decide) :
    PMk X (.Call (.Name x p) [e] [] pos) (fun σ H Q => te σ H fun v H1 => ∀ dx, H1 dx = Option.none → Q (.ref C) (some dx) (upd H1 dx (.xd [(f, v)]))) := by
  intro pins s σ H Q I h
  refine wpAny_Call_Name_kw ?_
  refine ld_glob I hg hm ?_ hdb
  refine PySem.W.callWith_K (h₀ := X.base) I.ok.mod.kin S.kC ?_ hs (by rfl)
  rw [hs]
  change wpAny _ _ (spliced ((false, eval e X.env) :: backTo pos (starEach [] X.env))) _ _ s
  refine Calls.spliced_cons (thn (he.run pins s σ H _ I h) ?_)
  rintro u s1 ⟨v, H1, I1, r1, q1⟩
  refine Calls.spliced_nil (And.intro I1.kIn ?_)
  change wpAny _ _ (call (.ref C) [u]) _ _ _
  obtain ⟨hp, g, dr, tk, os⟩ := s1
  obtain ⟨nm, N', qn, bs, bm, hdct, sn, sub, ab, col, dd, k0, k1, k2, k3, k5, hC, hT⟩ := PySem.W.excInit_of I1.kIn S.qi
  obtain ⟨mb, hmb, hbb⟩ := I1.mod.blt
  have one : 1 ≤ sizeLine := by rw [sizeLine_eq]; omega
  have fresh : H1 (hp.objs.size + 1) = Option.none := I1.hok.fresh (Nat.le_succ _)
  refine wpAny_call (PySem.PX.call_own FB hT hC (PySem.W.looks_findIn I1.kIn S.ini) (fun self => PySem.W.bind_fn I1.kIn self S.isf) one ?_)
  refine sup_run (x := hp.objs.size + 1) S FB KF SF I1.kIn I1.nolimit (I1.mod.glob.keeps I1.bk) hgs (hmb.keeps I1.bk) (by rw [hbb _ (by decide)]; first | rfl | decide +kernel) htop ?_ (fun kV doc pm an cda ct cc => hbind kV doc pm an cda ct cc _ _) hco hgen hk hcell h0 h1 h01 hks hkc ar har hara hev hd0 hd1 (by heap_get) rfl fun h' t' dx td tk' keep hx hd nd ne => ?_
  · exact (hr.make C [u] []).depth
  have hdx : H1 dx = Option.none := I1.hok.gone nd
  refine ⟨rfl, ?_⟩
  have far : ∀ {b : Addr} {o : HO}, H1 b = some o → b ≠ hp.objs.size + 1 ∧ b ≠ dx := fun {b o} z => ⟨ne_of_none z fresh, ne_of_none z hdx⟩
  have old : ∀ {b : Addr} {o : Obj}, hp.get? b = some o → b ≠ hp.objs.size + 1 ∧ b ≠ dx := fun {b o} z => ⟨Nat.ne_of_lt (Nat.lt_succ_of_lt (Heap.lt_size z)), fun y => by rw [y, nd] at z; cases z⟩
  have un : Un (frs X.stack) [] (upd H1 (hp.objs.size + 1) (exo (hp.objs.size + 1) C Option.none)) (upd (upd H1 dx (exd dx [(f, v)])) (hp.objs.size + 1) (exo (hp.objs.size + 1) C (some dx))) hp h' := {
    keep := fun b o z _ _ _ => keep b o z
    slot := fun b o z _ _ _ => ⟨o.slots, keep b o z⟩
    free := fun b o z n _ => by rw [upd_ne (old z).1] at n ⊢; rw [upd_ne (old z).2]; exact n
    there := fun b o z _ => ⟨o, keep b o z⟩
    tups := fun b xs z => by
      by_cases c : b = hp.objs.size + 1
      · rw [c, upd_same] at z; cases z
      · rw [upd_ne c] at z ⊢; rw [upd_ne (far z).2]; exact z
    frzs := fun b o y z => by
      by_cases c : b = hp.objs.size + 1
      · rw [c, upd_same] at z; cases z
      · rw [upd_ne c] at z ⊢; rw [upd_ne (far z).2]; exact z
    tbls := fun b ps z => by
      by_cases c : b = hp.objs.size + 1
      · rw [c, upd_same] at z; cases z
      · rw [upd_ne c] at z ⊢; exact ⟨#[], by rw [upd_ne (far z).2, z]; simp⟩ }
  have hok : HOk X.prog X.w (upd (upd H1 dx (exd dx [(f, v)])) (hp.objs.size + 1) (exo (hp.objs.size + 1) C (some dx))) h' := fun b o z => by
    by_cases c : b = hp.objs.size + 1
    · subst c
      rw [upd_same] at z
      cases z
      exact exo_ok hx
    · rw [upd_ne c] at z
      by_cases c2 : b = dx
      · subst c2
        rw [upd_same] at z
        cases z
        exact exd_ok (one_key hd) (relO_put (fs := []) r1 fun _ => True.intro)
      · rw [upd_ne c2] at z
        refine (I1.hok b o z).stay (fun c u _ y => keep c u y) (fun c y => ?_) fun c xs y => ?_ <;> (rw [upd_ne (far y).1, upd_ne (far y).2]; exact y)
  have q2 := q1 dx hdx
  have same : upd (del (upd (upd H1 dx (exd dx [(f, v)])) (hp.objs.size + 1) (exo (hp.objs.size + 1) C (some dx))) (hp.objs.size + 1)) dx (.xd [(f, v)]) = upd H1 dx (.xd [(f, v)]) := by
    funext b
    by_cases c2 : b = dx
    · rw [c2, upd_same, upd_same]
    · rw [upd_ne c2, upd_ne c2]
      by_cases c : b = hp.objs.size + 1
      · rw [c, del_same, fresh]
      · rw [del_ne c, upd_ne c, upd_ne c2]
  exact mk_end (raises_own S.exC S.tyC) I1 (Nat.le_succ _) (fun _ _ z => z) un hok rfl I1.bare upd_same (by rw [upd_ne ne, upd_same]) hdx (by rw [same]; exact q2)
end
end
end VA
set_option Elab.async false
set_option linter.all false
set_option maxRecDepth 100000
set_option maxHeartbeats 8000000
/-! V55: raise E(x); try: .. except E as n: .. (the suite reads n.f). -/
namespace VA
noncomputable section
open PySem PySem.Spec PyProof.Rows L2 Srt
def mRaise (c : Nat) (a : D) : D := fun ca e h => bndS (a ca e h) e fun w h1 => .exc c [w] e h1
section
variable {X : Cx} {T : Tab} {ca : CallT}
theorem SS.raise {mk ex : Expr} {c : Nat} {da : D} {pos : Pos} (hc : X.calm = true) (he : ∀ te : TE, PE X ex te → PMk X mk fun σ H Q => te σ H fun v H1 => ∀ dx, H1 dx = Option.none → Q (.ref (T.ca c)) (some dx) (upd H1 dx (.xd [(T.xf c, v)]))) (ha : SE T ca X ex da) :
    SS T ca X (.Raise (some mk) none pos) (mRaise c da) := fun W₀ t => (ps_raise hc t (he _ (ha W₀ t))).weak fun D σ H ⟨ρ, e, h, re, rh, f⟩ => ⟨ρ, e, h, re, rh, (finS_bnd re f).imp fun v H1 ⟨ρ1, w, h1, s1, rh1, r1, f1⟩ dx nd => by
      have st := Stp.imm ρ1 (.xd [(T.xf c, v)]) nd
      obtain ⟨rh2, nm⟩ := rh1.imm (.xd [(T.xf c, v)]) nd
      exact f1 ρ1 _ σ _ _ st rh2 (re.step (s1.trans st)) ⟨rfl, dx, v, rfl, upd_same, nm, r1.step st⟩⟩
end
/-! ### the suite: slot i holds the exception, its reading holds the field -/
structure REnvX (K : PySem.W.Frag) (T : Tab) (i : Nat) (a dd : Addr) (f : Str) (ρ : Rho) (H : Hp) (e : List W) (σ : L2.St) : Prop where
  len : e.length = σ.length
  at_ : ∀ (j : Nat) (w : W), j ≠ i → e[j]? = some w → w ≠ .nul → ∃ v, σ[j]? = some (some v) ∧ RW K T ρ H w v
  me : σ[i]? = some (some (.ref a))
  xd : ∃ v w, H dd = some (.xd [(f, v)]) ∧ ¬ ρ.mu dd ∧ e[i]? = some w ∧ RW K T ρ H w v
theorem REnvX.step {K : PySem.W.Frag} {T : Tab} {i : Nat} {a dd : Addr} {f : Str} {ρ ρ' : Rho} {H H' : Hp} {e : List W} {σ : L2.St} (r : REnvX K T i a dd f ρ H e σ) (s : Stp ρ H ρ' H') : REnvX K T i a dd f ρ' H' e σ := by
  obtain ⟨v, w, h1, h2, h3, h4⟩ := r.xd
  exact ⟨r.len, fun j w n h z => let ⟨v, q, y⟩ := r.at_ j w n h z; ⟨v, q, y.step s⟩, r.me, v, w, s.keep _ _ h1 (fun z => z) h2, fun z => h2 (s.dn _ _ h1 z), h3, h4.step s⟩
section
variable (T : Tab) (ca : CallT) (i : Nat) (a dd : Addr) (f : Str)
def tX (K : PySem.W.Frag) (d : D) : TE := fun σ H Q => ∃ ρ e h, REnvX K T i a dd f ρ H e σ ∧ RelH K T ρ H h ∧ FinE K T noW σ ρ H (d ca e h) Q
def tXA (K : PySem.W.Frag) (d : D) : TA := fun σ H Q => ∃ ρ e h, REnvX K T i a dd f ρ H e σ ∧ RelH K T ρ H h ∧ FinA K T noW σ ρ H (d ca e h) Q
/-- an expression in the suite -/
def SX (Y : Cx) (e : Expr) (d : D) : Prop := PE Y e (tX T ca i a dd f Y.K d)
def SXA (Y : Cx) (es : List Expr) (d : D) : Prop := PA Y es (tXA T ca i a dd f Y.K d)
end
section
variable {Y : Cx} {T : Tab} {ca : CallT} {i : Nat} {a dd : Addr} {f : Str}
theorem SX.const {e : Expr} {w : W} {v : V} (p : PE Y e (tC v)) (r : ∀ ρ H, RW Y.K T ρ H w v) : SX T ca i a dd f Y e (mC w) := p.weak fun σ H Q ⟨ρ, e, h, re, rh, k⟩ => k ρ H v (Stp.refl ρ H) rh (r ρ H)
theorem SX.str {s : List Nat} {z : Str} {j : Nat} {pos : Pos} (e : z = ⟨s.toArray⟩) : SX T ca i a dd f Y (.Constant (.str z) j pos) (mC (.str s)) := by
  subst e
  exact SX.const pe_str fun _ _ => .str s
theorem SXA.nil : SXA T ca i a dd f Y [] mNil := pa_nil.weak fun σ H Q ⟨ρ, e, h, re, rh, k⟩ => k ρ H [] (Stp.refl _ _) rh .nil
theorem SXA.cons {e : Expr} {es : List Expr} {da dr : D} (ha : SX T ca i a dd f Y e da) (hr : SXA T ca i a dd f Y es dr) (hs : starEach (e :: es) Y.env = (false, eval e Y.env) :: starEach es Y.env) : SXA T ca i a dd f Y (e :: es) (mCons da dr) :=
  (pa_cons ha hr hs).weak fun σ H Q ⟨ρ, e, h, re, rh, k⟩ => ⟨ρ, e, h, re, rh, (finA_bnd k).imp fun v H1 ⟨ρ1, w, h1, s1, rh1, r1, k1⟩ => ⟨ρ1, e, h1, re.step s1, rh1, (finA_bndA k1).imp fun vs H2 ⟨ρ2, ws, h2, s2, rh2, r2, k2⟩ =>
    k2 ρ2 H2 (v :: vs) (Stp.refl _ _) rh2 (.cons (r1.step s2) r2)⟩⟩
theorem SX.tup {es : List Expr} {d : D} {k : Nat} {pos : Pos} (ha : SXA T ca i a dd f Y es d) : SX T ca i a dd f Y (.Tuple es k pos) (mTup d) :=
  (pe_tup ha).weak fun σ H Q ⟨ρ, e, h, re, rh, q⟩ => ⟨ρ, e, h, re, rh, (fin_bndA q).imp fun vs H1 ⟨ρ1, ws, h1, s1, rh1, r1, q1⟩ => by
    obtain ⟨hl, q2⟩ := lenOk_ok q1
    refine ⟨by rw [← r1.length]; exact Nat.le_trans hl lim_line, fun p np => ?_⟩
    obtain ⟨a1, a2, a3⟩ := new_tup rh1 np r1
    exact q2 ρ1 _ _ a1 a2 a3⟩
end
section
variable {X : Cx} {T : Tab} {ca : CallT} {i : Nat} {a dd C : Addr} {f n : Str} {oe : Obj} {pn : List (Addr × Obj)}
/-- what the class of the caught exception must have -/
def XOk (K : PySem.W.Frag) (C : Addr) (f : Str) : Prop := XfC K C ∧ PySem.W.findIn K (.ref C) f = some Option.none
theorem SX.fld {np pos : Pos} (ok : XOk X.K C f) (hz : Zc (.ref C) (some dd) oe) (hf : ∃ vs, oe.data = .fields vs) (hN : X.N[i]? = some n) (hv : Vis X.env.scope n) (hd : (n == ("__debug__" : Str)) = false) (hcd : (n == ("__classdict__" : Str)) = false)
    (hb : attributeBase (.Name n np) f X.env (eval (.Name n np) X.env) = eval (.Name n np) X.env := by rfl) : SX T ca i a dd f (X.suite a ((a, oe) :: pn)) (.Attribute (.Name n np) f pos) (mVarK i) :=
  (pe_xf ok.1 ok.2 hz hf (pe_var (X := X.suite a ((a, oe) :: pn)) hN hv hd hcd) hb).weak fun σ H Q ⟨ρ, e, h, re, rh, k⟩ => by
    obtain ⟨v, w, h1, h2, h3, h4⟩ := re.xd
    refine ⟨_, re.me, rfl, rfl, dd, _, v, rfl, h1, by simp, ?_⟩
    rw [mVarK_eq] at k
    unfold mVar envW at k
    rw [nthW_eq, h3] at k
    cases w with
    | nul => exact (show False from k).elim
    | _ => exact k ρ H v (Stp.refl _ _) rh h4
end
def tryR (cm : Nat → Option Bool) (i : Nat) (ds : D) (ca : CallT) (r : R) : R := R.rec (motive := fun _ => R) (fun w e h => .ok w e h) (fun w h => .ret w h) (fun e h => .brk e h) (fun e h => .cnt e h)
  (fun c fs e h => match cm c with
    | some true => (match fs with
      | w :: _ => (match Nat.blt i (lenN e) with
        | true => setK e i w fun e1 => bndC (ds ca e1 h) fun v h1 => .ret v h1
        | false => .bad)
      | [] => .bad)
    | some false => .exc c fs e h
    | _ => .bad) .bad (fun _ _ a b => .or a b) r
def mTry (cm : Nat → Option Bool) (i : Nat) (db ds : D) : D := fun ca e h => tryR cm i ds ca (db ca e h)
section
variable {X : Cx} {T : Tab} {ca : CallT}
theorem finS_retC {K : PySem.W.Frag} {W₀ : WX} {σ : L2.St} {ρ : Rho} {H : Hp} {r : R} {D : Ends} (f : FinS K T W₀ ρ H (bndC r fun w h => .ret w h) D) : FinE K T noW σ ρ H r D.rt := by
  induction r with
  | ok w e h => exact fun ρ' H' v a b c => f ρ' H' v a b c
  | or x y ix iy => exact ⟨ix f.1, iy f.2⟩
  | _ => exact f.elim
theorem SS.tryAs {x n f : Str} {c : Value} {i : Nat} {body : List Stmt} {e2 : Expr} {np rp pos' pos : Pos} {db ds : D} {cm : Nat → Option Bool} (hs : X.stack = X.env :: X.outer) (hf : X.env.frame = some X.env.locals) (hN : X.N.Nodup) (hi : X.N[i]? = some n) (hln : X.env.kindOf n = some .local) (hc : Names X x c)
    (hcm : ∀ k b, cm k = some b → PySem.W.exmOne X.K (.ref (T.ca k)) c = some b) (hxf : ∀ k, cm k = some true → XOk X.K (T.ca k) f ∧ T.xf k = f)
    (hb : ∀ (pn : List (Addr × Obj)) (xe : Value → Shared → Prop), PassesOwn (model X.prog X.w) X.A X.env xe → SSs T ca (X.tr pn xe) body db)
    (hsu : ∀ (a dd C : Addr) (oe : Obj) (pn : List (Addr × Obj)), Zc (.ref C) (some dd) oe → (∃ vs, oe.data = .fields vs) → XOk X.K C f → SX T ca i a dd f (X.suite a ((a, oe) :: pn)) e2 ds) :
    SS T ca X (.Try body [.ExceptHandler (some (.Name x np)) (some n) [.Return (some e2) rp] pos'] [] [] pos) (mTry cm i db ds) := fun W₀ t => by
  have su : ∀ (a : Addr) (oe : Obj) (cls : Value) (d : Option Addr) (pn : List (Addr × Obj)), Zc cls d oe → (∃ vs, oe.data = .fields vs) → PSs (X.suite a ((a, oe) :: pn)) [.Return (some e2) rp]
      (fun D σ H => ∃ C dd, cls = .ref C ∧ d = some dd ∧ XOk X.K C f ∧ tX T ca i a dd f X.K ds σ H D.rt) := by
    intro a oe cls d pn hz hd
    refine ⟨fun pins s σ H D I ⟨C, dd, e1, e2, ok, q⟩ => ?_⟩
    subst e1 e2
    exact (pss_one (ps_ret (hsu a dd C oe pn hz hd ok))).run pins s σ H D I q
  refine (ps_try_as hs hf hN hi hln hc t (tb := fun W => tS X.K T ca W db) (fun W pn xe tk po => hb pn xe po W tk) su).weak ?_
  rintro D σ H ⟨ρ, e, h, re, rh, q⟩
  refine ⟨ρ, e, h, re, rh, ?_⟩
  have q : FinS X.K T W₀ ρ H (tryR cm i ds ca (db ca e h)) D := q
  generalize db ca e h = r at q ⊢
  induction r with
  | ok w e h => exact q
  | ret w h => exact q
  | brk e h => exact q
  | cnt e h => exact q
  | bad => exact q.elim
  | or x y ix iy => exact ⟨ix q.1, iy q.2⟩
  | exc k fs e' h' =>
    intro ρ' H' σ' cls d st rh' re' rx
    unfold tryR at q
    simp only at q
    cases ek : cm k with
    | none => rw [ek] at q; exact q.elim
    | some b =>
      refine ⟨b, ?_, fun eb a na => ?_, fun eb => ?_⟩
      · rw [rx.1]; exact hcm k b ek
      · subst eb
        rw [ek] at q
        cases fs with
        | nil => exact q.elim
        | cons w ws =>
          simp only at q
          cases bl : Nat.blt i (lenN e') with
          | false => rw [bl] at q; exact q.elim
          | true =>
            rw [bl] at q
            simp only at q
            rw [setK_eq] at q
            obtain ⟨ec, dd, v, ed, hx, nm, rv⟩ := rx
            obtain ⟨ok, ef⟩ := hxf k ek
            have lt : i < e'.length := by
              have z := blt_lt bl
              rw [lenN_eq] at z
              exact z
            refine ⟨T.ca k, dd, ec, ed, ok, ρ', e'.set i w, h', ⟨by simp [re'.len], fun j u nj hj nn => ?_, ?_, v, w, by rw [← ef]; exact hx, nm, by rw [List.getElem?_set_self lt], rv⟩, rh', finS_retC (D := D) (FinS.step st q)⟩
            · rw [List.getElem?_set_ne (Ne.symm nj)] at hj
              obtain ⟨v2, q2, r2⟩ := re'.at_ j u hj nn
              exact ⟨v2, by rw [List.getElem?_set_ne (Ne.symm nj)]; exact q2, r2⟩
            · rw [List.getElem?_set_self (by rw [← re'.len]; exact lt)]
      · subst eb
        rw [ek] at q
        exact q ρ' H' σ' cls d st rh' re' rx
end
end
end VA
set_option Elab.async false
set_option linter.all false
set_option maxRecDepth 100000
set_option maxHeartbeats 8000000
/-! V56: properties, classmethods, classes in slots, is None, x *= y, a list unpacked, lcm. -/
namespace VA
noncomputable section
open PySem PySem.Spec PyProof.Rows L2 Srt
/-! ### a property of an instance with slots -/
def mProp (c f : Nat) (a : D) : D := fun ca e h => bnd (a ca e h) fun w h1 => match w with
  | .loc p => (match h1.get p with
    | some o => (match o with
      | .ins c' _ => (match Nat.beq c' c with
        | true => bndC (ca f [.loc p] h1) fun v h2 => cutR false h1.next v e h2
        | false => .bad)
      | _ => .bad)
    | Option.none => .bad)
  | _ => .bad
/-- the property f of the class c, its getter the def g -/
structure Prp (T : Tab) (ca : CallT) (X : Cx) (c g : Nat) (f : Str) : Prop where
  cls : SlX.SCls X.K (T.ca c)
  at_ : ∃ p, PySem.W.findIn X.K (.ref (T.ca c)) f = some (some (.ref p)) ∧ PySem.W.specialIn X.K (.ref p) "__get__" = some (some (.builtin "property.__get__")) ∧ PySem.W.takesIn X.K (.ref p) = some true ∧ ∃ rest, PySem.W.recIn X.K p "property" = some (.ref (T.fa g) :: rest)
  fn : ∃ k fd ps, FnOk X.prog X.w X.K X.mg X.base (L2.CX X.prog X.w) k (T.fa g) fd ps (spC X.K T ca g 1) ∧ Room (k + 1) X.A ∧ Binds X.K fd ps []
section
variable {X : Cx} {T : Tab} {ca : CallT}
theorem SE.prop {a : Expr} {f : Str} {d : D} {c g : Nat} {pos : Pos} (P : Prp T ca X c g f) (ha : SE T ca X a d) (hb : attributeBase a f X.env (eval a X.env) = eval a X.env) : SE T ca X (.Attribute a f pos) (mProp c g d) := fun W₀ t => by
  obtain ⟨p, at_, get, tk, rc⟩ := P.at_
  obtain ⟨k, fd, ps, F, hr, hB⟩ := P.fn
  have R := FnOk.raw F hB .nil
  refine (SlX.pe_propSl (E := EF) (ha W₀ t) P.cls at_ get tk rc R hr (fun H s e s' c => ?_) hb).weak fun σ H Q ⟨ρ, e, h, re, rh, q⟩ => ⟨ρ, e, h, re, rh, (fin_bnd q).imp fun v H1 ⟨ρ1, w, h1, s1, rh1, r1, q1⟩ => ?_⟩
  · obtain ⟨_, _, _, _, _, _, _, _, _, _, _, _, never⟩ := c
    exact never
  cases w with
  | loc n =>
    simp only at q1
    cases g1 : h1.get n with
    | none => simp only [g1] at q1; exact q1.elim
    | some o =>
      simp only [g1] at q1
      cases o with
      | ins c' fs =>
        simp only at q1
        cases z : Nat.beq c' c with
        | false => rw [z] at q1; exact q1.elim
        | true =>
          rw [z] at q1
          have ec := Nat.eq_of_beq_eq_true z
          subst ec
          obtain ⟨lt, l2, vs, ia, _⟩ := rh1.ob n _ g1
          cases r1 with
          | loc _ hn =>
            refine ⟨_, _, vs, rfl, ia.slt, ?_⟩
            show spC X.K T ca g 1 ([V.ref (ρ1.pl n)] ++ []) H1 Q EF
            refine ⟨rfl, ρ1, [.loc n], h1, rh1, .cons (.loc n hn) .nil, FinE.any (σ' := []) ((fin_bndC q1).imp ?_)⟩
            rintro v H2 ⟨ρ2, w2, h2, s2, rh2, r2, q2⟩
            exact cut_ok q2 rh1.nx s2 rh2 r2
      | _ => exact q1.elim
  | _ => exact q1.elim
end
/-! ### a classmethod called on its class -/
def mCmet (c f n : Nat) (a : D) : D := fun ca e h => bndA (a ca e h) fun ws h1 => match Nat.beq (lenN ws + 1) n with
  | true => bndC (ca f (.cl c :: ws) h1) fun w h2 => cutR true h1.next w e h2
  | false => .bad
structure Cmt (T : Tab) (ca : CallT) (X : Cx) (x m : Str) (c f n : Nat) : Prop where
  gl : X.mg x = some (.ref (T.ca c))
  rd : ∃ mc p, ClX.CRead X.K (T.ca c) mc ∧ ClX.CMet X.K (T.ca c) mc m p (T.fa f)
  fn : ∃ k fd ps, FnOk X.prog X.w X.K X.mg X.base (L2.CX X.prog X.w) k (T.fa f) fd ps (spC X.K T ca f n) ∧ Room k X.A ∧ Binds X.K fd ps []
section
variable {X : Cx} {T : Tab} {ca : CallT}
theorem SE.cmet {x m : Str} {p pos apos : Pos} {a : Expr} {es : List Expr} {d : D} {c f n : Nat} {pl : Sem Bool} (M : Cmt T ca X x m c f n) (hg : Gl X x) (ha : SA T ca X (a :: es) d) (hdb : (x == ("__debug__" : Str)) = false)
    (he : starEach (a :: es) X.env = (false, eval a X.env) :: starEach es X.env) (hpl : (backTo pos (starEach es X.env)).any (·.1) = false)
    (ht : eval (.Call (.Attribute (.Name x p) m apos) (a :: es) [] pos) X.env = (do
      let ov ← eval (.Name x p) X.env
      standAt apos.atName
      let (f, first) ← holding [ov] (getMethod ov m pl)
      callWith pos f first (backTo pos (starEach (a :: es) X.env)) (backToKw pos (keywordEach [] X.env)))) :
    SE T ca X (.Call (.Attribute (.Name x p) m apos) (a :: es) [] pos) (mCmet c f n d) := fun W₀ t => by
  obtain ⟨mc, pp, rd, cm⟩ := M.rd
  obtain ⟨k, fd, ps, F, hr, hB⟩ := M.fn
  have R := FnOk.raw F hB .nil
  refine (ClX.pe_cmeth (E := EF) (pe_glob (v := .ref (T.ca c)) hg M.gl rfl hdb) rd cm R hr pass_false (ha W₀ t) he hpl ht).weak fun σ H Q ⟨ρ, e, h, re, rh, q⟩ => ⟨rfl, ρ, e, h, re, rh, (fin_bndA q).imp fun vs H1 ⟨ρ1, ws, h1, s1, rh1, r1, q1⟩ => ?_⟩
  rw [lenN_eq] at q1
  cases z : Nat.beq (ws.length + 1) n with
  | false => rw [z] at q1; exact q1.elim
  | true =>
    rw [z] at q1
    show spC X.K T ca f n ((V.ref (T.ca c) :: vs) ++ []) H1 Q EF
    rw [List.append_nil]
    refine ⟨by rw [List.length_cons, ← r1.length]; exact Nat.eq_of_beq_eq_true z, ρ1, .cl c :: ws, h1, rh1, .cons (.cl c) r1, FinE.any (σ' := []) ((fin_bndC q1).imp ?_)⟩
    rintro v H2 ⟨ρ2, w2, h2, s2, rh2, r2, q2⟩
    exact cut_ok q2 rh1.nx s2 rh2 r2
end
/-! ### a class in a slot, called -/
def mMakeL (i c f n ns : Nat) (a : D) : D := fun ca e h => match envW e i with
  | .cl c' => (match Nat.beq c' c with
    | true => mMake c f n ns a ca e h
    | false => .bad)
  | _ => .bad
structure Mkl (T : Tab) (ca : CallT) (X : Cx) (c f n : Nat) : Prop where
  mkd : L2.Mk X.K (T.ca c) (T.fa f)
  fn : ∃ k fd ps, FnOk X.prog X.w X.K X.mg X.base (L2.CX X.prog X.w) k (T.fa f) fd ps (spC X.K T ca f n) ∧ Room (k + 1) X.A ∧ Binds X.K fd ps []
section
variable {X : Cx} {T : Tab} {ca : CallT}
theorem SE.makeL {x : Str} {i : Nat} {p pos : Pos} {a : Expr} {es : List Expr} {d : D} {c f n ns : Nat} (m : Mkl T ca X c f n) (hN : X.N[i]? = some x) (hv : visB X.env.scope x = true) (hd : (x == ("__debug__" : Str)) = false) (hcd : (x == ("__classdict__" : Str)) = false) (ha : SA T ca X (a :: es) d)
    (he : starEach (a :: es) X.env = (false, eval a X.env) :: starEach es X.env) (hpl : (backTo pos (starEach es X.env)).any (·.1) = false) : SE T ca X (.Call (.Name x p) (a :: es) [] pos) (mMakeL i c f n ns d) := fun W₀ t => by
  obtain ⟨k, fd, ps, F, hr, hb⟩ := m.fn
  refine ⟨fun pins s σ H Q I h => ?_⟩
  obtain ⟨ρ, e, hp, re, rh, q⟩ := h
  have key : σ[i]? = some (some (.ref (T.ca c))) ∧ FinE X.K T W₀ σ ρ H (mMake c f n ns d ca e hp) Q := by
    unfold mMakeL envW at q
    rw [nthW_eq] at q
    cases ei : e[i]? with
    | none => simp only [ei] at q; exact q.elim
    | some w =>
      simp only [ei] at q
      cases w with
      | cl c' =>
        simp only at q
        cases z : Nat.beq c' c with
        | false => rw [z] at q; exact q.elim
        | true =>
          rw [z] at q
          have ec := Nat.eq_of_beq_eq_true z
          subst ec
          obtain ⟨v, h1, r⟩ := re.at_ i (.cl c') ei (fun z => nomatch z)
          cases r
          exact ⟨h1, q⟩
      | _ => exact q.elim
  have mk : tMake (T.ca c) (spC X.K T ca f n) [] EF (tA X.K T ca W₀ d) σ H Q := t_make ⟨ρ, e, hp, re, rh, key.2⟩
  refine wpAny_Call_Name_kw (thn ((pe_var (pos := p) hN (vis_by hv) hd hcd).run pins s σ H (fun v H1 => v = .ref (T.ca c) ∧ H1 = H) I ⟨_, key.1, rfl, rfl⟩) fun u s1 ⟨v, H1, I1, r1, q1⟩ => ?_)
  obtain ⟨rfl, rfl⟩ := q1
  cases r1
  refine PySem.W.callWith_K (h₀ := X.base) I.ok.mod.kin m.mkd.kp (thn ((ha W₀ t).run pos pins s1 σ H1 _ I1 mk) fun us s2 ⟨vs, H2, I2, r, q2⟩ => ⟨I2.kIn, ?_⟩) he hpl
  exact run_make m.mkd F hr hb .nil pass_false I2 r q2
end
/-! ### is None -/
def isNB (w : W) : Option Bool := match w with
  | .non => some true
  | .nul => Option.none
  | _ => some false
def mIsN (neg : Bool) (a : D) : D := fun ca e h => bnd (a ca e h) fun w h1 => match isNB w with
  | some b => (match neg with
    | true => (match b with
      | true => .ok (.bl false) e h1
      | false => .ok (.bl true) e h1)
    | false => (match b with
      | true => .ok (.bl true) e h1
      | false => .ok (.bl false) e h1))
  | Option.none => .bad
section
variable {X : Cx} {T : Tab} {ca : CallT} {K : PySem.W.Frag} {ρ : Rho} {H : Hp}
theorem isNB_ok {w : W} {v : V} {b : Bool} (r : RW K T ρ H w v) (e : isNB w = some b) : decide (v = .non) = b := by
  cases r <;> first | (cases e; rfl) | (cases e; exact decide_eq_false fun z => nomatch z)
theorem SE.isN {a : Expr} {d : D} {j : Nat} {p pos : Pos} (ha : SE T ca X a d) (hm : behindInMarks .Is (.Constant .none j p) = false) : SE T ca X (.Compare a [.Is] [.Constant .none j p] pos) (mIsN false d) := fun W₀ t =>
  (pe_cmp (pc_isN (ha W₀ t)) hm).weak fun σ H Q ⟨ρ, e, h, re, rh, q⟩ => ⟨ρ, e, h, re, rh, (fin_bnd q).imp fun v H1 ⟨ρ1, w, h1, s1, rh1, r1, q1⟩ => by
    cases z : isNB w with
    | none => rw [z] at q1; exact q1.elim
    | some b =>
      rw [z] at q1
      rw [isNB_ok r1 z]
      cases b <;> exact q1 ρ1 H1 _ (Stp.refl _ _) rh1 (.bl _)⟩
theorem SE.notN {a : Expr} {d : D} {j : Nat} {p pos : Pos} (ha : SE T ca X a d) (hm : behindInMarks .IsNot (.Constant .none j p) = false) : SE T ca X (.Compare a [.IsNot] [.Constant .none j p] pos) (mIsN true d) := fun W₀ t =>
  (pe_cmp (pc_notN (ha W₀ t)) hm).weak fun σ H Q ⟨ρ, e, h, re, rh, q⟩ => ⟨ρ, e, h, re, rh, (fin_bnd q).imp fun v H1 ⟨ρ1, w, h1, s1, rh1, r1, q1⟩ => by
    cases z : isNB w with
    | none => rw [z] at q1; exact q1.elim
    | some b =>
      rw [z] at q1
      rw [isNB_ok r1 z]
      cases b <;> exact q1 ρ1 H1 _ (Stp.refl _ _) rh1 (.bl _)⟩
theorem C.non {j : Nat} {pos : Pos} : SE T ca X (.Constant .none j pos) (mC .non) := SE.const pe_non fun _ _ => .non
end
end
end VA
set_option Elab.async false
set_option linter.all false
set_option maxRecDepth 100000
set_option maxHeartbeats 8000000
/-! V57: is None as a test, x *= y, a list unpacked, lcm. -/
namespace VA
noncomputable section
open PySem PySem.Spec PyProof.Rows L2 Srt
section
variable {X : Cx} {T : Tab} {ca : CallT}
theorem ST.isN {a : Expr} {d : D} {j : Nat} {p pos : Pos} (ha : SE T ca X a d) (hm : behindInMarks .Is (.Constant .none j p) = false) : ST T ca X (.Compare a [.Is] [.Constant .none j p] pos) (mIsN false d) := fun W₀ t =>
  (pt_cmp (pc_isN (ha W₀ t)) hm).weak fun σ H Q w => by
    obtain ⟨ρ, e, h, re, rh, q⟩ := tT_tE w
    refine ⟨ρ, e, h, re, rh, (fin_bnd q).imp fun v H1 ⟨ρ1, w, h1, s1, rh1, r1, q1⟩ => ?_⟩
    cases z : isNB w with
    | none => rw [z] at q1; exact q1.elim
    | some b =>
      rw [z] at q1
      rw [isNB_ok r1 z]
      cases b <;> exact q1 ρ1 H1 _ (Stp.refl _ _) rh1 (.bl _)
theorem ST.notN {a : Expr} {d : D} {j : Nat} {p pos : Pos} (ha : SE T ca X a d) (hm : behindInMarks .IsNot (.Constant .none j p) = false) : ST T ca X (.Compare a [.IsNot] [.Constant .none j p] pos) (mIsN true d) := fun W₀ t =>
  (pt_cmp (pc_notN (ha W₀ t)) hm).weak fun σ H Q w => by
    obtain ⟨ρ, e, h, re, rh, q⟩ := tT_tE w
    refine ⟨ρ, e, h, re, rh, (fin_bnd q).imp fun v H1 ⟨ρ1, w, h1, s1, rh1, r1, q1⟩ => ?_⟩
    cases z : isNB w with
    | none => rw [z] at q1; exact q1.elim
    | some b =>
      rw [z] at q1
      rw [isNB_ok r1 z]
      cases b <;> exact q1 ρ1 H1 _ (Stp.refl _ _) rh1 (.bl _)
end
/-! ### x *= y -/
def mAugM (i : Nat) (a : D) : D := fun ca e h => match envW e i with
  | .int x => bndS (a ca e h) e fun w h1 => (match w with
    | .int y => (match Nat.blt (Nat.log2 x.natAbs + Nat.log2 y.natAbs) 1000000 with
      | true => sqI (x * y) fun k => setK e i (.int k) fun e' => .ok .non e' h1
      | false => .bad)
    | _ => .bad)
  | _ => .bad
def ipM : TIp := fun x y H Q => ∃ i j, x = .int i ∧ y = .int j ∧ CMulW i j ∧ Q (.int (i * j)) H
section
variable {X : Cx} {T : Tab} {ca : CallT}
theorem ip_mul : PIp X .Mult ipM := by
  intro pn s σ H x y v u Q I r1 r2 h
  obtain ⟨i, j, rfl, rfl, c, q⟩ := h
  obtain ⟨t, rfl⟩ := r1
  obtain ⟨t', rfl⟩ := r2
  exact PySem.P.imul_int ⟨.int _, H, I.tok _, ⟨_, rfl⟩, q⟩ c.ok
theorem SS.augM {i : Nat} {x : Str} {e : Expr} {d : D} {pos' pos : Pos} (nd : X.N.Nodup) (hi : X.N[i]? = some x) (hx : Loc X.env.scope x) (own : X.fn x = true ∨ X.env.scope.names.lookup x = some .local) (he : SE T ca X e d) : SS T ca X (.AugAssign (.Name x pos') .Mult e pos) (mAugM i d) := fun W₀ t =>
  (ps_aug nd hi hx (he W₀ t) ip_mul own).weak fun D σ H ⟨ρ, e, h, re, rh, f⟩ => by
    unfold mAugM envW at f
    rw [nthW_eq] at f
    cases ei : e[i]? with
    | none => simp only [ei] at f; exact f.elim
    | some w0 =>
      simp only [ei] at f
      cases w0 with
      | int k =>
        obtain ⟨v, hv, rv⟩ := re.at_ i (.int k) ei fun z => nomatch z
        cases rv
        refine ⟨_, hv, ρ, e, h, re, rh, (finS_bnd re f).imp ?_⟩
        rintro u H1 ⟨ρ1, w, h1, s1, rh1, r1, f1⟩
        cases w with
        | int y =>
          cases r1
          simp only at f1
          cases z : Nat.blt (Nat.log2 k.natAbs + Nat.log2 y.natAbs) 1000000 with
          | false => rw [z] at f1; exact f1.elim
          | true =>
            rw [z] at f1
            simp only [sqI_eq, setK_eq] at f1
            exact ⟨k, y, rfl, rfl, Nat.le_of_ble_eq_true z, f1 ρ1 H1 _ (Stp.refl _ _) rh1 ((re.step s1).set i (.int _))⟩
        | _ => exact f1.elim
      | _ => exact f.elim
end
/-! ### names for a list's items -/
def mUnl (is : List Nat) (a : D) : D := fun ca e h => bndS (a ca e h) e fun w h1 => match w with
  | .lst ws => setsK is ws e fun e' => .ok .non e' h1
  | _ => .bad
section
variable {X : Cx} {T : Tab} {ca : CallT}
theorem SS.unl {es : List Expr} {e : Expr} {d : D} {is : List Nat} {k : Nat} {tp pos : Pos} (calm : X.calm = true) (he : SE T ca X e d) (all : PGs X es (gSets is)) (len : (assignEach es X.env).length = is.length) (plain : (assignEach es X.env).findIdx? (·.1) = none)
    (hs : swapsWithSole [.Tuple es k tp] e pos.line X.env = pure false) (hw : swappedStores [.Tuple es k tp] e X.env = pure none) (h1 : (assignEach [.Tuple es k tp] X.env).map (·.2) = [assign (.Tuple es k tp) X.env]) :
    SS T ca X (.Assign [.Tuple es k tp] e pos) (mUnl is d) := fun W₀ t => (ps_asg (he W₀ t) (pg_unl calm all len plain) hs hw h1).weak fun D σ H ⟨ρ, e, h, re, rh, f⟩ => ⟨ρ, e, h, re, rh, (finS_bnd re f).imp fun v H1 ⟨ρ1, w, h1, s1, rh1, r1, f1⟩ => by
      cases w with
      | lst ws =>
        cases r1 with
        | lst ha la =>
          obtain ⟨hl, e', re', f2⟩ := finS_sets la (re.step s1) f1
          exact ⟨_, _, rfl, ha.sq, hl, hl, f2 ρ1 H1 _ (Stp.refl _ _) rh1 re'⟩
      | _ => exact f1.elim⟩
end
/-! ### lcm -/
def oLcm (ws : List W) : Option W := match ws with
  | [] => Option.none
  | a :: r => (match r with
    | [] => Option.none
    | b :: r2 => (match r2 with
      | [] => (match a with
        | .int x => (match b with
          | .int y => (match Nat.blt x.natAbs (2 ^ 64) with
            | true => (match Nat.blt y.natAbs (2 ^ 64) with
              | true => sqI (Int.ofNat (x.natAbs.lcm y.natAbs)) fun k => some (.int k)
              | false => Option.none)
            | false => Option.none)
          | _ => Option.none)
        | _ => Option.none)
      | _ => Option.none))
def rLcm : List V → Hp → VK → Prop := fun vs H Q => ∃ a b : Int, vs = [.int a, .int b] ∧ a.natAbs < 2 ^ 64 ∧ b.natAbs < 2 ^ 64 ∧ Q (.int ((a.natAbs.lcm b.natAbs : Nat) : Int)) H
section
variable {X : Cx} {T : Tab} {ca : CallT}
theorem cr_lcm : CallR X (.builtin "math.lcm") rLcm := by
  intro pn s σ H vs us Q I r h
  obtain ⟨a, b, rfl, ha, hb, q⟩ := h
  obtain ⟨ta, tb, rfl⟩ := Vals.int2 r
  exact PySem.W.mc_lcm ha hb fun _ => ⟨.int _, H, I.tok _, ⟨_, rfl⟩, q⟩
def mLcm (a : D) : D := fun ca e h => bndA (a ca e h) fun ws h1 => opt (oLcm ws) e h1
theorem SE.lcm {x : Str} {p pos : Pos} {e : Expr} {es : List Expr} {d : D} (hg : Gl X x) (hm : X.mg x = some (.builtin "math.lcm")) (ha : SA T ca X (e :: es) d) (hdb : (x == ("__debug__" : Str)) = false)
    (he : starEach (e :: es) X.env = (false, eval e X.env) :: starEach es X.env) (hpl : (backTo pos (starEach es X.env)).any (·.1) = false) : SE T ca X (.Call (.Name x p) (e :: es) [] pos) (mLcm d) := fun W₀ t =>
  (pe_callBfun cr_lcm hg hm (ha W₀ t) hdb he hpl).weak fun σ H Q ⟨ρ, e, h, re, rh, f⟩ => ⟨ρ, e, h, re, rh, (fin_bndA f).imp fun vs H1 ⟨ρ1, ws, h1, s1, rh1, r1, f1⟩ => by
    cases z : oLcm ws with
    | none => rw [z] at f1; exact f1.elim
    | some w =>
      rw [z] at f1
      unfold oLcm at z
      split at z
      · cases z
      · rename_i a r
        split at z
        · cases z
        · rename_i b r2
          split at z
          · cases r1 with
            | cons ra rr =>
              cases rr with
              | cons rb rn =>
                cases rn
                cases a with
                | int x =>
                  cases b with
                  | int y =>
                    cases ra
                    cases rb
                    simp only at z
                    cases z1 : Nat.blt x.natAbs (2 ^ 64) with
                    | false => rw [z1] at z; cases z
                    | true =>
                      cases z2 : Nat.blt y.natAbs (2 ^ 64) with
                      | false => rw [z1, z2] at z; cases z
                      | true =>
                        rw [z1, z2] at z
                        simp only [sqI_eq] at z
                        cases z
                        exact ⟨x, y, rfl, blt_lt z1, blt_lt z2, f1 ρ1 H1 _ (Stp.refl _ _) rh1 (.int _)⟩
                  | _ => cases z
                | _ => cases z
          · cases z⟩
end
end
end VA
set_option Elab.async false
set_option linter.all false
set_option maxRecDepth 100000
set_option maxHeartbeats 8000000
/-! V58: short words for the printed proofs; what the head tells of properties, classmethods, exceptions, tables. -/
namespace VA
noncomputable section
open PySem PySem.Spec PyProof.Rows L2 Srt
section
variable {X : Cx} {T : Tab} {ca : CallT}
theorem room_gen {k : Nat} {env : Env} (hr : Room (k + 1) X.A) : Room k (X.A.in1.in1.deeper env) :=
  ⟨hr.hd, by have := hr.dp; show X.A.depth + 1 + 3 * k + 5 < _; omega, by have := hr.un; show X.A.units + 1 + 1 + 3 + 16 * k + 200 < _; omega⟩
theorem same_sp {K : PySem.W.Frag} {f n : Nat} {c : List W → Hpi → R} (hc : ca f = c) : spC K T (fun _ => c) f n = spC K T ca f n := by unfold spC; rw [hc]
theorem prp_of {f c lvl k : Nat} {ps : List Str} {r : List W → Hpi → R} {at_ : Str} (h : ∃ fd, FnOk X.prog X.w X.K X.mg X.base (L2.CX X.prog X.w) lvl (T.fa f) fd ps (spC X.K T (fun _ => r) f 1) ∧ Binds X.K fd ps [] ∧ ps.length = 1) (hc : ca f = r)
    (cls : SlX.SCls X.K (T.ca c)) (rd : ∃ p, PySem.W.findIn X.K (.ref (T.ca c)) at_ = some (some (.ref p)) ∧ PySem.W.specialIn X.K (.ref p) "__get__" = some (some (.builtin "property.__get__")) ∧ PySem.W.takesIn X.K (.ref p) = some true ∧ ∃ rest, PySem.W.recIn X.K p "property" = some (.ref (T.fa f) :: rest))
    (room : Room k X.A) (le : lvl + 1 ≤ k) : Prp T ca X c f at_ := by
  obtain ⟨fd, F, B, _⟩ := h
  rw [same_sp hc] at F
  exact ⟨cls, rd, lvl, fd, ps, F, room.mono le, B⟩
theorem cmt_of {f n c lvl k : Nat} {ps : List Str} {r : List W → Hpi → R} {x m : Str} (h : ∃ fd, FnOk X.prog X.w X.K X.mg X.base (L2.CX X.prog X.w) lvl (T.fa f) fd ps (spC X.K T (fun _ => r) f n) ∧ Binds X.K fd ps [] ∧ ps.length = n) (hc : ca f = r) (gl : X.mg x = some (.ref (T.ca c)))
    (rd : ∃ mc p, ClX.CRead X.K (T.ca c) mc ∧ ClX.CMet X.K (T.ca c) mc m p (T.fa f)) (room : Room k X.A) (le : lvl ≤ k) : Cmt T ca X x m c f n := by
  obtain ⟨fd, F, B, _⟩ := h
  rw [same_sp hc] at F
  exact ⟨gl, rd, lvl, fd, ps, F, room.mono le, B⟩
theorem mkl_of {f n c lvl k : Nat} {ps : List Str} {r : List W → Hpi → R} (h : ∃ fd, FnOk X.prog X.w X.K X.mg X.base (L2.CX X.prog X.w) lvl (T.fa f) fd ps (spC X.K T (fun _ => r) f n) ∧ Binds X.K fd ps [] ∧ ps.length = n) (hc : ca f = r) (mk : L2.Mk X.K (T.ca c) (T.fa f)) (room : Room k X.A) (le : lvl + 1 ≤ k) : Mkl T ca X c f n := by
  obtain ⟨fd, F, B, _⟩ := h
  rw [same_sp hc] at F
  exact ⟨mk, lvl, fd, ps, F, room.mono le, B⟩
theorem glo_str {x : Str} {s : List Nat} (h : ∃ t, X.mg x = some (.str ⟨s.toArray⟩ t)) : Glo T X x (.str s) := by
  obtain ⟨t, e⟩ := h
  exact ⟨_, .str ⟨s.toArray⟩, e, ⟨t, rfl⟩, fun _ _ => .str s⟩
theorem strW_rws {ρ : Rho} {H : Hp} : ∀ ns : List (List Nat), RWs X.K T ρ H (ns.map W.str) (ns.map fun s => V.str ⟨s.toArray⟩)
  | [] => .nil
  | n :: r => .cons (.str n) (strW_rws r)
theorem glo_tupS {x : Str} {ns : List (List Nat)} {a : Addr} (e : X.mg x = some (.ref a)) (h : SqT X.K H0 a (ns.map fun s => V.str ⟨s.toArray⟩)) : Glo T X x (.ktp (ns.map W.str)) :=
  ⟨_, .ref a, e, rfl, fun _ _ => .ktp h (strW_rws ns)⟩
end
/-! ### a def whose code object is known -/
section
variable {P : Program} {w : World} {K : PySem.W.Frag} {T : Tab} {mg : Str → Option Value} {base : Heap}
theorem fn_okC {x qual : Str} {params : Arguments} {body : List Stmt} {scope : Scope} {fd : FuncData} {N ps : List Str} {k f n : Nat} {ca ca' : CallT} {d : D} {p : Str × Option Str}
    (F : FunD K x qual params body scope [] [] (T.fa f) fd) (at_ : T.fa f = He.fAd K p) (S : FnScope N ps scope) (hn : ps.length = n) (hca : ∀ ws h, ca' f ws h = retR (d ca (padW ws N.length) h))
    (hbody : ∀ (A : Around) (outer : List Env) (s : Shared) (H : Hp) (E : XK), Room k (A.deeper (envOfC qual scope s.heap.objs.size (T.fa f) (.ref (He.codeOf K p)))) →
      SSs T ca (cxOf (L2.CX P w) P w K mg base N qual scope (T.fa f) (.ref (He.codeOf K p)) A outer s H E) body d) : FnOk P w K mg base (L2.CX P w) (k + 1) (T.fa f) fd ps (spC K T ca' f n) := by
  obtain ⟨oc, od, dV, kV, doc, pm, an, cdv, ct, osl, rfl, lk, hcd, rest⟩ := F.ex
  obtain ⟨c, rfl⟩ := He.codeIn_ref hcd
  have e : He.codeOf K p = c := He.codeOf_eq (by rw [← at_]; exact lk) rfl
  subst e
  refine L2.fn_of lk hcd S (fun vs H Q E h => h.1.trans hn.symm) fun A outer s H vs Q E hr ⟨_, ρ, ws, h, rh, r, q⟩ => ?_
  refine ⟨_, hbody A outer s H E hr (fun cls d _ H => E cls d H) ?_, ρ, padW ws N.length, h, start_env r N, rh, ?_⟩
  · exact takes_of rfl rfl rfl rfl
  · rw [hca] at q
    exact fin_ret q
end
theorem tabB_g {base : Heap} {mg : Str → Option Value} {c P : Addr} (h : LamX.TabB base mg c P) : GxR.TabB base mg c P := ⟨h.code, h.bm, h.gP⟩
/-! ### the head's Bools -/
/-- a def in a record: a property's getter, a classmethod's def -/
def rcA (K : PySem.W.Frag) (C f : Str) (kind : String) : Addr := match PySem.W.recIn K (He.ma K (He.ga K C) f) kind with
  | some (.ref g :: _) => g
  | _ => 0
def propB (K : PySem.W.Frag) (C f : Str) : Bool := He.eqO (PySem.W.findIn K (.ref (He.ga K C)) f) (some (some (.ref (He.ma K (He.ga K C) f)))) && (He.eqO (PySem.W.specialIn K (.ref (He.ma K (He.ga K C) f)) "__get__") (some (some (.builtin "property.__get__"))) &&
  (decide (PySem.W.takesIn K (.ref (He.ma K (He.ga K C) f)) = some true) && (match PySem.W.recIn K (He.ma K (He.ga K C) f) "property" with
    | some (.ref _ :: _) => true
    | _ => false)))
theorem propB_ok {K : PySem.W.Frag} {C f : Str} (h : propB K C f = true) : ∃ p, PySem.W.findIn K (.ref (He.ga K C)) f = some (some (.ref p)) ∧ PySem.W.specialIn K (.ref p) "__get__" = some (some (.builtin "property.__get__")) ∧ PySem.W.takesIn K (.ref p) = some true ∧ ∃ rest, PySem.W.recIn K p "property" = some (.ref (rcA K C f "property") :: rest) := by
  refine ⟨_, He.eqO_ok (two h).1, He.eqO_ok (two (two h).2).1, of_decide_eq_true (two (two (two h).2).2).1, ?_⟩
  have z := (two (two (two h).2).2).2
  unfold rcA
  split at z
  · rename_i g r e
    rw [e]
    exact ⟨r, rfl⟩
  · cases z
def eqCF (a b : Option PySem.W.CFound) : Bool := match a, b with
  | some (.get x y u v), some (.get x' y' u' v') => decide (x = x') && (decide (y = y') && (decide (u = u') && decide (v = v')))
  | _, _ => false
theorem eqCF_ok {a b : Option PySem.W.CFound} (h : eqCF a b = true) : a = b := by
  unfold eqCF at h
  split at h
  · obtain ⟨h1, h2⟩ := two h
    obtain ⟨h2, h3⟩ := two h2
    obtain ⟨h3, h4⟩ := two h3
    rw [of_decide_eq_true h1, of_decide_eq_true h2, of_decide_eq_true h3, of_decide_eq_true h4]
  · cases h
def cmetB (K : PySem.W.Frag) (C m : Str) : Bool := PySem.W.readsIn K (He.ga K C) (.type "type") && (He.eqO (PySem.W.specialIn K (.ref (He.ga K C)) "__getattribute__") (some (some (.builtin "type.__getattribute__"))) &&
  (eqCF (PySem.W.findCls K (.ref (He.ga K C)) (.type "type") m) (some (.get (.builtin "classmethod.__get__") (.ref (He.ma K (He.ga K C) m)) .none (.ref (He.ga K C)))) && (PySem.W.fnIn K (rcA K C m "classmethod") && (match PySem.W.recIn K (He.ma K (He.ga K C) m) "classmethod" with
    | some (.ref _ :: _) => true
    | _ => false))))
theorem cmetB_ok {K : PySem.W.Frag} {C m : Str} (h : cmetB K C m = true) : ∃ mc p, ClX.CRead K (He.ga K C) mc ∧ ClX.CMet K (He.ga K C) mc m p (rcA K C m "classmethod") := by
  obtain ⟨h1, h⟩ := two h
  obtain ⟨h2, h⟩ := two h
  obtain ⟨h3, h⟩ := two h
  obtain ⟨h4, z⟩ := two h
  refine ⟨_, _, ⟨h1, He.eqO_ok h2⟩, eqCF_ok h3, ?_, h4⟩
  unfold rcA
  split at z
  · rename_i g r e
    rw [e]
    exact ⟨r, rfl⟩
  · cases z
def xokB (K : PySem.W.Frag) (C f : Str) : Bool := xfB K (He.ga K C) && He.eqO (PySem.W.findIn K (.ref (He.ga K C)) f) (some Option.none)
theorem xokB_ok {K : PySem.W.Frag} {C f : Str} (h : xokB K C f = true) : XOk K (He.ga K C) f := ⟨xfB_ok (two h).1, He.eqO_ok (two h).2⟩
def exmB (K : PySem.W.Frag) (C D : Str) (b : Bool) : Bool := decide (PySem.W.exmOne K (.ref (He.ga K C)) (.ref (He.ga K D)) = some b)
theorem exmB_ok {K : PySem.W.Frag} {C D : Str} {b : Bool} (h : exmB K C D b = true) : PySem.W.exmOne K (.ref (He.ga K C)) (.ref (He.ga K D)) = some b := of_decide_eq_true h
end
end VA
set_option Elab.async false
set_option linter.all false
set_option maxRecDepth 100000
set_option maxHeartbeats 8000000
/-! V59: the head's look with defs in records and defs with a __class__ cell. -/
namespace VA
noncomputable section
open PySem PySem.Spec PyProof.Rows L2 Srt
abbrev FnA : Type := Option (Str × Str × Arguments × FuncBody × Scope × Addr × List Str × Addr × Value × Value)
def fnA (K : PySem.W.Frag) (a : Addr) : FnA := match K.lookup a with
  | some ⟨_, _, .func fd, _⟩ => some (fd.name, fd.qualname, fd.params, fd.body, fd.scope, fd.globals, fd.closure.map (·.1), fd.builtins, fd.defaults, fd.kwdefaults)
  | _ => Option.none
/-- one def by a path of one's own; the names of its cells -/
structure DefA where
  ad : PySem.W.Frag → Addr
  name : Str
  qual : Str
  params : Arguments
  body : List Stmt
  scope : Scope
  cls : List Str
def DefA.val (d : DefA) : FnA := some (d.name, d.qual, d.params, .stmts d.body, d.scope, mainGlobals, d.cls, builtinsNs, .none, .none)
def DefA.ok (K : PySem.W.Frag) (d : DefA) : Bool := PySem.W.keepIn K (.ref (d.ad K)) && (match K.lookup (d.ad K) with
  | some ⟨_, _, .func q, _⟩ => PySem.W.codeIn K q.code d.qual
  | _ => false)
section
variable {K : PySem.W.Frag} {d : DefA}
theorem DefA.split (e : fnA K (d.ad K) = d.val) (c : d.ok K = true) : PySem.W.keepIn K (.ref (d.ad K)) = true ∧ ∃ (oc : Value) (od : Option Addr) (osl : Array (Option Value)) (cl : List (Str × Addr)) (doc pm : Value) (an : Option Addr) (cdv ct : Value),
    K.lookup (d.ad K) = some ⟨oc, od, .func (PySem.W.fnX d.name d.qual d.params d.body d.scope cl .none .none doc pm an cdv ct), osl⟩ ∧ cl.map (·.1) = d.cls ∧ PySem.W.codeIn K cdv d.qual = true := by
  obtain ⟨kp, c2⟩ := two c
  refine ⟨kp, ?_⟩
  unfold fnA at e
  cases q : K.lookup (d.ad K) with
  | none => rw [q] at c2; cases c2
  | some o =>
    obtain ⟨oc, od, dt, osl⟩ := o
    rw [q] at c2 e
    cases dt with
    | func fd =>
      obtain ⟨k1, k2, k3, k4, k5, k6, k7, k8, k9, k10, k11, k12, k13, k14, k15⟩ := fd
      have e2 : (some (k1, k2, k3, k4, k5, k6, k7.map (·.1), k15, k8, k9) : FnA) = some (d.name, d.qual, d.params, .stmts d.body, d.scope, mainGlobals, d.cls, builtinsNs, .none, .none) := e
      simp only [Prod.mk.injEq, Option.some.injEq] at e2
      obtain ⟨rfl, rfl, rfl, rfl, rfl, rfl, h7, rfl, rfl, rfl⟩ := e2
      exact ⟨oc, od, osl, k7, k10, k11, k12, k13, k14, rfl, h7, c2⟩
    | _ => cases c2
theorem DefA.funD (e : fnA K (d.ad K) = d.val) (c : d.ok K = true) (h : d.cls = []) : ∃ fd, FunD K d.name d.qual d.params d.body d.scope [] [] (d.ad K) fd := by
  obtain ⟨kp, oc, od, osl, cl, doc, pm, an, cdv, ct, lk, hcl, hcd⟩ := DefA.split e c
  rw [h] at hcl
  have hn : cl = [] := List.map_eq_nil_iff.mp hcl
  subst hn
  exact ⟨_, ⟨oc, od, _, _, doc, pm, an, cdv, ct, osl, rfl, lk, hcd, He.dflB_ok (by first | rfl | decide), He.kwdB_ok (by first | rfl | decide)⟩, kp⟩
end
/-! ### the class of such an exception -/
def fileB (K : PySem.W.Frag) (a C : Addr) (file : Str) : Bool := match K.lookup a with
  | some ⟨_, _, .func q, _⟩ => (match q.code with
    | .ref cc => (match K.lookup cc with
      | some ⟨_, _, .fields vs, _⟩ => (match (vs[2]? : Option Value) with
        | some (Value.str g _) => decide (g = file)
        | _ => false)
      | _ => false)
    | _ => false) && (match q.closure with
      | [(_, cc)] => (match K.lookup cc with
        | some ⟨_, _, .cell (some (.ref D)), _⟩ => decide (D = C)
        | _ => false)
      | _ => false)
  | _ => false
def supB (K : PySem.W.Frag) (C fI : Addr) (B newId initId : String) (bmB : List Value) (f file : Str) : Bool :=
  He.eqO (PySem.W.findIn K (.ref C) "__init__") (some (some (.ref fI))) && (decide (PySem.W.typeIn K (.ref fI) = some (.type "function")) && (PySem.W.excInitIn K C bmB newId && (He.eqO (PySem.W.findIn K (.ref C) "__setattr__") (some (some (.builtin "object.__setattr__"))) && (PySem.W.excOver K C bmB && (He.eqO (PySem.W.findIn K (.ref C) f) (some Option.none) &&
  (PySem.W.hasDictIn K C && (decide (PySem.W.subIn K (.ref C) (.type B) = some true) && (decide (PySem.W.subIn K (.ref C) (.type "BaseException") = some true) && (decide (PySem.W.typeIn K (.ref C) = some (.type "type")) && (PySem.W.keepIn K (.ref C) && (He.eqO (PySem.W.ks_superIn K C C "__init__") (some (some (.builtin initId))) &&
  (decide (PySem.W.mroIn K C (.ref C) = some true) && (He.eqO (PySem.W.nsIn K cStatics "thirdparty.any") (some Option.none) && ((PySem.W.clsIn K C).isSome && fileB K fI C file))))))))))))))
theorem supF_of {P : Program} {K : PySem.W.Frag} {C : Addr} {B newId initId : String} {bmB : List Value} {f file : Str} {d : DefA} (e : fnA K (d.ad K) = d.val) (c : d.ok K = true) (hn : d.name = "__init__") (hc : d.cls = [("__class__" : Str)]) (h : supB K C (d.ad K) B newId initId bmB f file = true) (hP : (P.main.file == file) = true) :
    SupF P K C (d.ad K) B newId initId bmB f d.qual d.params d.body d.scope := by
  obtain ⟨h1, h⟩ := two h
  obtain ⟨h2, h⟩ := two h
  obtain ⟨h3, h⟩ := two h
  obtain ⟨h4, h⟩ := two h
  obtain ⟨h5, h⟩ := two h
  obtain ⟨h6, h⟩ := two h
  obtain ⟨h7, h⟩ := two h
  obtain ⟨h8, h⟩ := two h
  obtain ⟨h9, h⟩ := two h
  obtain ⟨h10, h⟩ := two h
  obtain ⟨h11, h⟩ := two h
  obtain ⟨h12, h⟩ := two h
  obtain ⟨h13, h⟩ := two h
  obtain ⟨h14, h⟩ := two h
  obtain ⟨h15, h16⟩ := two h
  refine ⟨He.eqO_ok h1, of_decide_eq_true h2, h3, He.eqO_ok h4, h5, ?_, h7, of_decide_eq_true h8, of_decide_eq_true h9, of_decide_eq_true h10, h11, He.eqO_ok h12, of_decide_eq_true h13, He.eqO_ok h14, h15, ?_⟩
  · unfold PySem.W.takerIn
    rw [He.eqO_ok h6] <;> rfl
  · obtain ⟨kp, oc, od, osl, cl, doc, pm, an, cdv, ct, lk, hcl, hcd⟩ := DefA.split e c
    rw [hc] at hcl
    rw [hn] at lk
    unfold fileB at h16
    rw [lk] at h16
    obtain ⟨k1, k2⟩ := two h16
    split at k1
    · rename_i c0 ec
      have ec : cdv = .ref c0 := ec
      subst ec
      split at k1
      · rename_i vs ccs q2
        split at k1
        · rename_i g tg q3
          have eg := of_decide_eq_true k1
          subst eg
          split at k2
          · rename_i nm cc ecl
            have ecl : cl = [(nm, cc)] := ecl
            subst ecl
            have enm : nm = "__class__" := by injection hcl
            subst enm
            split at k2
            · rename_i D q4
              have eD := of_decide_eq_true k2
              subst eD
              exact ⟨oc, od, osl, .none, doc, pm, an, c0, ct, cc, lk, hcd, ⟨_, _, vs, _, _, tg, q2, q3, hP⟩, _, _, _, q4⟩
            · cases k2
          · cases k2
        · cases k1
      · cases k1
    · cases k1
/-! ### the look: what the module's names reach, kind by kind -/
abbrev Look : Type := Addr → Option Obj
def keepK (g : Look) (a : Addr) : Bool := match g a with
  | some b => (match b.data with
    | .func _ => true
    | .cls _ => true
    | .seq _ _ => true
    | _ => false)
  | none => false
/-- the values of a dict -/
def valsD (g : Look) (a : Addr) : List Addr := match g a with
  | some b => (match b.data with
    | .dict es _ => es.toList.flatMap fun e => He.refV e.val
    | _ => [])
  | none => []
/-- a def's code object and cells; a class's dict -/
def partsK (g : Look) (a : Addr) : List Addr := match g a with
  | some b => (match b.data with
    | .func fd => He.refV fd.code ++ fd.closure.map (·.2)
    | .cls cd => [cd.ns]
    | _ => [])
  | none => []
/-- .. what a record holds -/
def partsR (g : Look) (a : Addr) : List Addr := match g a with
  | some b => (match b.data with
    | .func fd => He.refV fd.code ++ fd.closure.map (·.2)
    | .fields vs => vs.toList.flatMap He.refV
    | _ => [])
  | none => []
def lev1 (g : Look) : List Addr := (valsD g mainGlobals).filter (keepK g)
def lev2 (g : Look) (l : List Addr) : List Addr := l.flatMap (partsK g)
def lev3 (g : Look) (l : List Addr) : List Addr := l.flatMap (valsD g)
def lev4 (g : Look) (l : List Addr) : List Addr := l.flatMap (partsR g)
def asY (g : Look) : List Addr :=
  let a1 := lev1 g
  let a2 := lev2 g a1
  let a3 := lev3 g a2
  let a4 := lev4 g a3
  mainGlobals :: cStatics :: (a1 ++ (a2 ++ (a3 ++ (a4 ++ lev2 g a4))))
abbrev AlY : Type := (He.AlD × Bool) × List FnA
def obsK (fa : List He.Fa) (fn : List He.DefD) (tf : List He.Defn) (ex : PySem.W.Frag → Bool) (ds : List DefA) (g : Look) (K : PySem.W.Frag) : AlY := ((He.obsD fa fn K, ex K && He.tabsB g tf K), ds.map fun d => fnA K (d.ad K))
/-! each address, each pair done in full -/
def frA {α : Type} : List Addr → (List Addr → α) → α
  | [], k => k []
  | a :: r, k => sqN a fun b => frA r fun q => k (b :: q)
theorem frA_eq {α : Type} : ∀ (l : List Addr) (k : List Addr → α), frA l k = k l
  | [], _ => rfl
  | a :: r, k => by simp only [frA, sqN_eq, frA_eq r]
def frO {α : Type} : PySem.W.Frag → (PySem.W.Frag → α) → α
  | [], k => k []
  | (a, o) :: r, k => frO r fun q => k ((a, o) :: q)
theorem frO_eq {α : Type} : ∀ (l : PySem.W.Frag) (k : PySem.W.Frag → α), frO l k = k l
  | [], _ => rfl
  | (a, o) :: r, k => by simp only [frO, frO_eq r]
def obsY (fa : List He.Fa) (fn : List He.DefD) (tf : List He.Defn) (ex : PySem.W.Frag → Bool) (ds : List DefA) (g : Look) : AlY := frA (asY g) fun as => frO (He.frT g as) fun K => obsK fa fn tf ex ds g K
structure SaysY (fa : List He.Fa) (fn : List He.DefD) (tf : List He.Defn) (ex : PySem.W.Frag → Bool) (ds : List DefA) (h : Heap) (K : PySem.W.Frag) : Prop where
  t : He.SaysD fa fn K
  more : ex K = true
  d : ds.map (fun d => fnA K (d.ad K)) = ds.map DefA.val
  tab : ∀ p ∈ tf, PySem.W.codeHdIn K (He.cT K p).1 (He.cT K p).2 = true ∧ K.lookup (He.cT K p).2 = Option.none ∧ h.get? (He.cT K p).2 = some { cls := .none, data := .fields #[] }
theorem saysY_of {fa : List He.Fa} {fn : List He.DefD} {tf : List He.Defn} {ex : PySem.W.Frag → Bool} {ds : List DefA} {h : Heap} (e : obsY fa fn tf ex ds h.get? = ((He.valD fn, true), ds.map DefA.val)) : SaysY fa fn tf ex ds h (He.frT h.get? (asY h.get?)) := by
  unfold obsY at e
  rw [frA_eq, frO_eq] at e
  have both := two (congrArg (fun z : AlY => z.1.2) e)
  refine ⟨congrArg (fun z : AlY => z.1.1) e, both.1, congrArg (fun z : AlY => z.2) e, fun p hp => ?_⟩
  obtain ⟨head, rest⟩ := two (List.all_eq_true.mp both.2 p hp)
  generalize (He.cT (He.frT h.get? (asY h.get?)) p).2 = z at head rest ⊢
  cases at_ : h.get? z with
  | none => rw [at_] at rest; cases rest
  | some o =>
    rw [at_] at rest
    exact ⟨head, He.frT_none at_ rest, congrArg some (He.emptyTab_eq rest)⟩
def hookY (fa : List He.Fa) (fn : List He.DefD) (tf : List He.Defn) (ex : PySem.W.Frag → Bool) (ds : List DefA) : PySem.W.Hook where
  α := AlY
  obs := fun s => obsY fa fn tf ex ds s.heap.get?
  val := fun _ => ((He.valD fn, true), ds.map DefA.val)
  says := fun _ h => ∃ K : PySem.W.Frag, K.In h ∧ SaysY fa fn tf ex ds h K
  of := fun _ _ e => ⟨_, He.frT_in, saysY_of e⟩
  keeps := fun _ _ _ ⟨K, hK, c⟩ k => ⟨K, PySem.W.Frag.In.keeps hK k, c.t, c.more, c.d, fun p hp => ⟨(c.tab p hp).1, (c.tab p hp).2.1, k _ _ (c.tab p hp).2.2⟩⟩
theorem obsY_eq {fa : List He.Fa} {fn : List He.DefD} {tf : List He.Defn} {ex : PySem.W.Frag → Bool} {ds : List DefA} {g : Look} {s : Shared} (h : ∀ a, g a = s.heap.get? a) : obsY fa fn tf ex ds g = (hookY fa fn tf ex ds).obs s := by
  have same : g = s.heap.get? := funext h
  subst same
  rfl
theorem SaysY.def_ {fa : List He.Fa} {fn : List He.DefD} {tf : List He.Defn} {ex : PySem.W.Frag → Bool} {ds : List DefA} {h : Heap} {K : PySem.W.Frag} (c : SaysY fa fn tf ex ds h K) (i : Nat) {d : DefA} (e : ds[i]? = some d) : fnA K (d.ad K) = d.val := by
  have z : (ds.map fun d => fnA K (d.ad K))[i]? = (ds.map DefA.val)[i]? := by rw [c.d]
  rw [List.getElem?_map, List.getElem?_map, e] at z
  exact Option.some.inj z
end
end VA
set_option Elab.async false
set_option linter.all false
set_option maxRecDepth 100000
set_option maxHeartbeats 8000000
/-! V60: -x of an int; a range laid out in a display. -/
namespace VA
noncomputable section
open PySem PySem.Spec PyProof.Rows L2 Srt
def mNeg (a : D) : D := fun ca e h => bnd (a ca e h) fun w h1 => match w with
  | .int i => sqI (-i) fun k => .ok (.int k) e h1
  | _ => .bad
def mStarR (a b r : D) : D := fun ca e h => bnd (a ca e h) fun w h1 => match w with
  | .int i => (match rgB i with
    | true => bnd (b ca e h1) fun u h2 => (match u with
      | .int j => (match rgB j with
        | true => (match Nat.ble (j - i).toNat lim with
          | true => rngK (j - i).toNat i fun xs => bndA (r ca e h2) fun ws h3 => appK xs ws fun rs => .ok (.tup rs) e h3
          | false => .bad)
        | false => .bad)
      | _ => .bad)
    | false => .bad)
  | _ => .bad
section
variable {X : Cx} {T : Tab} {ca : CallT}
theorem SE.neg {a : Expr} {d : D} {pos : Pos} (ha : SE T ca X a d) : SE T ca X (.UnaryOp .USub a pos) (mNeg d) := fun W₀ t =>
  (pe_un un_neg (ha W₀ t)).weak fun σ H Q ⟨ρ, e, h, re, rh, f⟩ => ⟨ρ, e, h, re, rh, (fin_bnd f).imp fun v H1 ⟨ρ1, w, h1, s1, rh1, r1, f1⟩ => by
    cases w with
    | int i =>
      cases r1
      simp only [sqI_eq] at f1
      exact ⟨i, rfl, f1 ρ1 H1 _ (Stp.refl _ _) rh1 (.int _)⟩
    | _ => exact f1.elim⟩
def tStarR (te : L2.St → Hp → (Int → Int → Hp → Prop) → Prop) (t : TA) : TA := fun σ H Q => te σ H fun a b H1 => RgOk a b ∧ t σ H1 fun ys H2 => Q (rgV a b ++ ys) H2
theorem pa_starR {e : Expr} {es : List Expr} {te : L2.St → Hp → (Int → Int → Hp → Prop) → Prop} {t : TA} {p : Pos} (calm : X.calm = true) (he : PRg X e te) (hr : PA X es t) (hs : starEach (.Starred e p :: es) X.env = (true, eval e X.env) :: starEach es X.env) : PA X (.Starred e p :: es) (tStarR te t) := by
  refine ⟨fun pos pins s σ H Q I h => PySem.W.items_star (thn (he pins s σ H _ I h) ?_) hs⟩
  rintro x s1 ⟨r, a, b, t1, t2, t3, H1, ex, place, I1, small, q⟩
  subst ex
  obtain ⟨b1, b2, b3, b4, b5⟩ := small
  have kind : s1.TypeIs (.ref r) "range" := ⟨_, place, rfl⟩
  unfold PySem.W.StarOf
  unfold notIterableAtAll
  refine wpAny_bind (wpAny_specialOf kind F.slot_range_iter.lookup (wpAny_pure ⟨rfl, ?_⟩))
  refine collect_range (n := (b - a).toNat) (I1.ok.hd calm) place (small_one b1 b2 b3 b4) (rangeSize_nat a b) b5 fun h' tk acc kept items => ?_
  refine thn (hr.run pos pins _ σ H1 _ (I1.kept kept) q) ?_
  rintro us s2 ⟨vs, H2, I2, rel, q2⟩
  exact ⟨_, H2, I2, (vals_rg items).append rel, q2⟩
theorem SA.starR {a b : Expr} {es : List Expr} {da db dr : D} {p p2 pos2 : Pos} (calm : X.calm = true) (hg : Gl X "range") (hm : X.mg "range" = none) (ha : SE T ca X a da) (hb : SE T ca X b db) (hr : SA T ca X es dr)
    (n1 : starEach [a, b] X.env = (false, eval a X.env) :: starEach [b] X.env) (n2 : starEach [b] X.env = (false, eval b X.env) :: starEach [] X.env) (n3 : (backTo pos2 (starEach [b] X.env)).any (·.1) = false)
    (hs : starEach (.Starred (.Call (.Name "range" p2) [a, b] [] pos2) p :: es) X.env = (true, eval (.Call (.Name "range" p2) [a, b] [] pos2) X.env) :: starEach es X.env) :
    SA T ca X (.Starred (.Call (.Name "range" p2) [a, b] [] pos2) p :: es) (mStarR da db dr) := fun W₀ t =>
  (pa_starR calm (prg_2 hg hm (ha W₀ t) (hb W₀ t) n1 n2 n3) (hr W₀ t) hs).weak fun σ H Q ⟨ρ, e, h, re, rh, f⟩ => ⟨ρ, e, h, re, rh, (finA_bnd f).imp fun v H1 ⟨ρ1, w, h1, s1, rh1, r1, f1⟩ => by
    cases w with
    | int i =>
      cases r1
      simp only at f1
      cases z1 : rgB i with
      | false => rw [z1] at f1; exact f1.elim
      | true =>
        rw [z1] at f1
        refine ⟨ρ1, e, h1, re.step s1, rh1, (finA_bnd f1).imp ?_⟩
        rintro u H2 ⟨ρ2, w2, h2, s2, rh2, r2, f2⟩
        cases w2 with
        | int j =>
          cases r2
          simp only at f2
          cases z2 : rgB j with
          | false => rw [z2] at f2; exact f2.elim
          | true =>
            rw [z2] at f2
            simp only at f2
            cases z3 : Nat.ble (j - i).toNat lim with
            | false => rw [z3] at f2; exact f2.elim
            | true =>
              rw [z3] at f2
              simp only [rngK_eq] at f2
              obtain ⟨a1, a2⟩ := rgB_ok z1
              obtain ⟨b1, b2⟩ := rgB_ok z2
              have most := Nat.le_of_ble_eq_true z3
              refine ⟨i, j, rfl, rfl, ⟨a1, a2, b1, b2, Nat.le_trans most (by decide)⟩, ρ2, e, h2, (re.step s1).step s2, rh2, (finA_bndA f2).imp ?_⟩
              rintro ys H3 ⟨ρ3, ws, h3, s3, rh3, r3, f3⟩
              simp only [appK_eq] at f3
              exact f3 ρ3 H3 _ (Stp.refl _ _) rh3 ((rws_rng _ i).append r3)
        | _ => exact f2.elim
    | _ => exact f1.elim⟩
end
end
end VA
set_option Elab.async false
set_option linter.all false
set_option maxRecDepth 100000
set_option maxHeartbeats 8000000
/-! V61: a call without places whose new list is given: never changed from now on. -/
namespace VA
noncomputable section
open PySem PySem.Spec PyProof.Rows L2 Srt
def mCallF (f n : Nat) (a : D) : D := fun ca e h => bndA (a ca e h) fun ws h1 => match Nat.beq (lenN ws) n with
  | true => (match lowWs 0 ws with
    | true => bndC (ca f ws ⟨0, []⟩) fun w h2 => match w with
      | .loc p => (match h2.get p with
        | some o => (match o with
          | .lst xs => (match lowWs 0 xs with
            | true => .ok (.lst xs) e h1
            | false => .bad)
          | _ => .bad)
        | Option.none => .bad)
      | _ => .bad
    | false => .bad)
  | false => .bad
section
variable {K : PySem.W.Frag} {T : Tab} {ρ1 ρ2 : Rho} {H1 H2 : Hp} {h1 h2 : Hpi}
/-- the places of ρ1; what ρ2 may change but for a -/
def Rho.backBut (ρ1 ρ2 : Rho) (a : Addr) (up : ∀ b, ρ1.mu b → ρ2.mu b ∧ b ≠ a) : Rho := ⟨ρ1.next, ρ1.pl, fun b => ρ2.mu b ∧ b ≠ a, fun n hn => up _ (ρ1.plmu n hn)⟩
theorem back_lst (rh1 : RelH K T ρ1 H1 h1) (s : Stp (ρ1.cut 0 (Nat.zero_le _)) H1 ρ2 H2) (rh2 : RelH K T ρ2 H2 h2) {p : Nat} {xs : List W} (lt : p < ρ2.next) (g : h2.get p = some (.lst xs)) (low : lowWs 0 xs = true) :
    ∃ ρ3, Stp ρ1 H1 ρ3 H2 ∧ RelH K T ρ3 H2 h1 ∧ RW K T ρ3 H2 (.lst xs) (.ref (ρ2.pl p)) := by
  have new : H1 (ρ2.pl p) = Option.none := s.fresh p (Nat.zero_le _) lt
  have up : ∀ b, ρ1.mu b → ρ2.mu b ∧ b ≠ ρ2.pl p := fun b m => ⟨s.up b m, fun e => by
    obtain ⟨o, live, _⟩ := rh1.on b m
    rw [e, new] at live
    cases live⟩
  have held : ∀ a o, H1 a = some o → ¬ isTb o → H2 a = some o := fun a o e t => s.hold a o e (fun z => z) (fun n hn => absurd hn (Nat.not_lt_zero n)) t
  have st : Stp ρ1 H1 (ρ1.backBut ρ2 (ρ2.pl p) up) H2 := ⟨Nat.le_refl _, fun _ _ => rfl, fun n a b => absurd b (Nat.not_lt.mpr a), up, fun a o e m => s.dn a o e m.1, fun a o e _ _ t => held a o e t, s.live, s.tb⟩
  obtain ⟨_, vs, at_, items⟩ := rh2.ob p _ g
  refine ⟨_, st, ⟨rh1.nx, rh1.inj, fun b m => rh2.on b m.1, rh1.srt, fun n u e => ?_, st.tb T rh1.tb⟩, .lst ⟨at_, fun m => m.2 rfl⟩ (items.noPl low fun b m => m.1)⟩
  obtain ⟨hn, x⟩ := rh1.ob n u e
  exact ⟨hn, x.mv hn (fun _ _ => rfl) (Nat.le_refl _) (fun _ _ r => r.step st) (fun _ _ r => r.step st) (fun o z => held _ o z (rh1.pt hn z)) fun ⟨c, fs, eu⟩ o z => held _ o z (rh1.pt (by subst eu; exact x.aux.1) z)⟩
end
section
variable {X : Cx} {T : Tab} {ca : CallT}
theorem SE.callF {x : Str} {p pos : Pos} {a : Expr} {es : List Expr} {d : D} {f n : Nat} (c : Cal T ca X x f n) (hg : Gl X x) (ha : SA T ca X (a :: es) d) (hdb : (x == ("__debug__" : Str)) = false)
    (he : starEach (a :: es) X.env = (false, eval a X.env) :: starEach es X.env) (hpl : (backTo pos (starEach es X.env)).any (·.1) = false) : SE T ca X (.Call (.Name x p) (a :: es) [] pos) (mCallF f n d) := fun W₀ t => by
  obtain ⟨k, fd, ps, hl, F, hr, hb⟩ := c.fn
  refine (pe_callS F hr hg c.gl c.kp hb (passAt t) (ha W₀ t) hdb he hpl).weak fun σ H Q ⟨ρ, e, h, re, rh, q0⟩ => ⟨ρ, e, h, re, rh, (fin_bndA q0).imp ?_⟩
  rintro vs H1 ⟨ρ1, ws, h1, s1, rh1, r1, q1⟩
  rw [lenN_eq] at q1
  cases z : Nat.beq ws.length n with
  | false => rw [z] at q1; exact q1.elim
  | true =>
    rw [z] at q1
    cases y : lowWs 0 ws with
    | false => simp only [y] at q1; exact q1.elim
    | true =>
      simp only [y] at q1
      refine ⟨by rw [← r1.length]; exact Nat.eq_of_beq_eq_true z, ρ1.cut 0 (Nat.zero_le _), ws, ⟨0, []⟩, relH_none rh1, RWs.low (Nat.zero_le _) y r1, FinE.any (σ' := []) ((fin_bndC q1).imp ?_)⟩
      rintro v H2 ⟨ρ2, w2, h2, s2, rh2, r2, q2⟩
      cases w2 with
      | loc p =>
        cases r2 with
        | loc _ lt =>
          cases g : h2.get p with
          | none => simp only [g] at q2; exact q2.elim
          | some o =>
            cases o with
            | lst xs =>
              cases l : lowWs 0 xs with
              | false => simp only [g, l] at q2; exact q2.elim
              | true =>
                simp only [g, l] at q2
                obtain ⟨ρ3, st, rh3, r3⟩ := back_lst rh1 s2 rh2 lt g l
                exact q2 ρ3 H2 _ st rh3 r3
            | _ => simp only [g] at q2; exact q2.elim
      | _ => exact q2.elim
end
end
end VA
set_option Elab.async false
set_option linter.all false
set_option maxRecDepth 100000
set_option maxHeartbeats 8000000
/-! V62: a call whose answer at one argument is worked out beforehand. -/
namespace VA
noncomputable section
open PySem PySem.Spec PyProof.Rows L2 Srt
def sidX : Nat → W → W → Bool
  | 0, _, _ => false
  | n + 1, a, b => match a with
    | .int i => (match b with
      | .int j => ieq i j
      | _ => false)
    | .tup xs => (match b with
      | .tup ys => sidL (sidX n) xs ys
      | _ => false)
    | .ftp xs => (match b with
      | .ftp ys => sidL (sidX n) xs ys
      | _ => false)
    | _ => false
theorem sidX_eq : ∀ {n : Nat} {a b : W}, sidX n a b = true → a = b
  | 0, _, _, h => nomatch h
  | n + 1, a, b, h => by
    cases a with
    | int i =>
      cases b with
      | int j =>
        have same : ieq i j = true := h
        rw [ieq_eq] at same
        rw [of_decide_eq_true same]
      | _ => exact nomatch h
    | tup xs =>
      cases b with
      | tup ys => exact congrArg W.tup (sidL_eq (fun _ _ => sidX_eq) (show sidL (sidX n) xs ys = true from h))
      | _ => exact nomatch h
    | ftp xs =>
      cases b with
      | ftp ys => exact congrArg W.ftp (sidL_eq (fun _ _ => sidX_eq) (show sidL (sidX n) xs ys = true from h))
      | _ => exact nomatch h
    | _ => exact nomatch h
/-- no place is there -/
def bare (h : Hpi) : Bool := match Nat.beq h.next 0 with
  | true => (match h.objs with
    | [] => true
    | _ => false)
  | false => false
theorem bare_eq {h : Hpi} (b : bare h = true) : h = ⟨0, []⟩ := by
  obtain ⟨n, os⟩ := h
  unfold bare at b
  cases z : Nat.beq n 0 with
  | false => simp only [z] at b; cases b
  | true =>
    simp only [z] at b
    cases os with
    | nil => rw [Nat.eq_of_beq_eq_true z]
    | cons _ _ => cases b
def okIs (r : R) (w : W) : Bool := R.rec (motive := fun _ => Bool) (fun v e h => match e with
    | [] => (match bare h with
      | true => sidX 5 v w
      | false => false)
    | _ => false) (fun _ _ => false) (fun _ _ => false) (fun _ _ => false) (fun _ _ _ _ => false) false (fun _ _ _ _ => false) r
theorem okIs_eq {r : R} {w : W} (h : okIs r w = true) : r = .ok w [] ⟨0, []⟩ := by
  cases r with
  | ok v e hp =>
    cases e with
    | nil =>
      have q : (match bare hp with | true => sidX 5 v w | false => false) = true := h
      cases z : bare hp with
      | false => rw [z] at q; cases q
      | true =>
        rw [z] at q
        rw [bare_eq z, sidX_eq q]
    | cons _ _ => cases h
  | _ => cases h
def knw (c : List W → Hpi → R) (a b : W) : List W → Hpi → R := fun ws h => match ws with
  | [] => c [] h
  | w :: r => (match r with
    | [] => (match bare h with
      | true => (match sid 5 w a with
        | true => .ok b [] ⟨0, []⟩
        | false => c [w] h)
      | false => c [w] h)
    | u :: q => c (w :: u :: q) h)
theorem knw_eq {c : List W → Hpi → R} {a b : W} (ev : okIs (c [a] ⟨0, []⟩) b = true) : knw c a b = c := by
  funext ws h
  match ws with
  | [] => rfl
  | w :: u :: q => rfl
  | [w] =>
    show (match bare h with | true => (match sid 5 w a with | true => .ok b [] ⟨0, []⟩ | false => c [w] h) | false => c [w] h) = c [w] h
    cases z : bare h with
    | false => rfl
    | true =>
      cases y : sid 5 w a with
      | false => rfl
      | true =>
        rw [bare_eq z, sid_eq y]
        exact (okIs_eq ev).symm
end
end VA
set_option Elab.async false
set_option linter.all false
set_option maxRecDepth 100000
set_option maxHeartbeats 8000000
/-! V63: two short tellings of a def, the first that fits. -/
namespace VA
noncomputable section
open PySem PySem.Spec PyProof.Rows L2 Srt
def noWay (r : R) : Bool := R.rec (motive := fun _ => Bool) (fun _ _ _ => false) (fun _ _ => false) (fun _ _ => false) (fun _ _ => false) (fun _ _ _ _ => false) true (fun _ _ _ _ => false) r
def orS (x y : List W → Hpi → R) : List W → Hpi → R := fun ws h => match noWay (x ws h) with
  | true => y ws h
  | false => x ws h
theorem spC_or {K : PySem.W.Frag} {T : Tab} {x y : List W → Hpi → R} {f n : Nat} {vs : List V} {H : Hp} {Q : VK} {E : XK} (t : spC K T (fun _ => orS x y) f n vs H Q E) : spC K T (fun _ => x) f n vs H Q E ∨ spC K T (fun _ => y) f n vs H Q E := by
  obtain ⟨len, ρ, ws, h, rh, r, fin⟩ := t
  have fin : FinE K T (fun cls d _ H' => E cls d H') [] ρ H (orS x y ws h) Q := fin
  unfold orS at fin
  cases z : noWay (x ws h) with
  | true => rw [z] at fin; exact .inr ⟨len, ρ, ws, h, rh, r, fin⟩
  | false => rw [z] at fin; exact .inl ⟨len, ρ, ws, h, rh, r, fin⟩
end
end VA
set_option Elab.async false
set_option linter.all false
set_option maxRecDepth 100000
set_option maxHeartbeats 8000000
namespace VA
noncomputable section
open PySem PySem.Spec PyProof.Rows L2 Srt
abbrev PP : Program := PySem.Challenge.pw_groupsover_k74_whole_steps_by_primes_and
def top (i : Nat) : Stmt := PP.main.body.getD i (.Pass ⟨0, 0, 0, 0⟩)
def tfL : List He.Defn := [("bar_in", none), ("round_entry", none), ("eight_entry", none)]
def TB (K : PySem.W.Frag) : Tab := ⟨fun i => match i with
  | 0 => He.fAd K ("is_whole_number", none)
  | 1 => He.fAd K ("is_integer", none)
  | 2 => He.fAd K ("is_within", none)
  | 3 => He.fAd K ("is_renaming", none)
  | 4 => He.fAd K ("are_makers", none)
  | 5 => He.fAd K ("renamed", none)
  | 6 => He.fAd K ("all_products", none)
  | 7 => He.fAd K ("product_table", none)
  | 8 => He.fAd K ("Group", some "__init__")
  | 9 => rcA K "Group" "round" "classmethod"
  | 10 => rcA K "Group" "size" "property"
  | 11 => He.fAd K ("order_here", none)
  | 12 => He.fAd K ("power_here", none)
  | 13 => He.fAd K ("conjugate_in", none)
  | 14 => He.fAd K ("closed_by", none)
  | 15 => He.fAd K ("moved_part_in", none)
  | 16 => He.fAd K ("normalizer_in", none)
  | 17 => He.fAd K ("centralizer_in", none)
  | 18 => He.fAd K ("prime_part_in", none)
  | 19 => He.fAd K ("require_group", none)
  | 20 => He.fAd K ("primes_here", none)
  | 21 => He.fAd K ("greatest_power", none)
  | 22 => He.fAd K ("powers_in", none)
  | 23 => He.fAd K ("do_commute", none)
  | 24 => He.fAd K ("is_bar_in", none)
  | 25 => He.fAd K ("bar_in", none)
  | 26 => He.fAd K ("is_eight", none)
  | 27 => He.fAd K ("round_entry", none)
  | 28 => He.fAd K ("eight_entry", none)
  | 29 => He.fAd K ("entry_for", none)
  | 30 => He.fAd K ("paper_here", none)
  | 31 => He.fAd K ("turns_in", none)
  | 32 => He.fAd K ("least_again", none)
  | 33 => He.fAd K ("require_prime_of", none)
  | 34 => He.fAd K ("require_no_bar", none)
  | 35 => He.fAd K ("again_paper", none)
  | 36 => He.fAd K ("prime_turns", none)
  | 37 => He.fAd K ("again_step", none)
  | 38 => He.fAd K ("_law_dice", none)
  | 39 => He.fAd K ("_law_roll", none)
  | 40 => He.fAd K ("_law_one_of", none)
  | 41 => He.fAd K ("_law_behind", none)
  | 42 => He.fAd K ("_law_made", none)
  | 43 => He.fAd K ("_law_group", none)
  | 44 => He.fAd K ("_law_round_moves", none)
  | 45 => He.fAd K ("_law_ready_moves", none)
  | 46 => He.fAd K ("_law_order", none)
  | 47 => He.fAd K ("_law_part", none)
  | 48 => He.fAd K ("_law_gcd", none)
  | 49 => He.fAd K ("_law_again_moves", none)
  | 50 => He.fAd K ("_law_again_group", none)
  | 51 => He.fAd K ("_law_primes_of", none)
  | 52 => He.fAd K ("_law_is_member", none)
  | 53 => He.fAd K ("_law_is_bar", none)
  | 54 => He.fAd K ("_law_has_bar", none)
  | 55 => He.fAd K ("_law_prime_part", none)
  | 56 => He.fAd K ("_law_turns", none)
  | 57 => He.fAd K ("_law_step_of", none)
  | 58 => He.fAd K ("_law_told_step", none)
  | 59 => He.fAd K ("_law_right", none)
  | 60 => He.fAd K ("law", none)
  | _ => 0, fun c => match c with
  | 0 => He.ga K "Group"
  | 1 => He.ga K "ClosedMoves"
  | 2 => He.ga K "Refused"
  | _ => 0, fun c => match c with
  | 2 => "reason"
  | _ => Str.empty, (tfL.map (He.cT K)).map fun c => c.2⟩
theorem tg_25 (K : PySem.W.Frag) : (He.cT K ("bar_in", none)).2 ∈ (TB K).tg := List.mem_iff_getElem?.mpr ⟨0, rfl⟩
theorem tg_27 (K : PySem.W.Frag) : (He.cT K ("round_entry", none)).2 ∈ (TB K).tg := List.mem_iff_getElem?.mpr ⟨1, rfl⟩
theorem tg_28 (K : PySem.W.Frag) : (He.cT K ("eight_entry", none)).2 ∈ (TB K).tg := List.mem_iff_getElem?.mpr ⟨2, rfl⟩
abbrev sy_2 : Stmt := L2.inClass (top 7) 0
def cm_2 (k : Nat) : Option Bool := match k with
  | 2 => some true
  | _ => Option.none
def kit_int (t : Nat) : Option Bool := match t with
  | 1 => some true
  | 2 => some true
  | 5 => some false
  | _ => Option.none
def kit_bool (t : Nat) : Option Bool := match t with
  | 1 => some true
  | 2 => some false
  | 5 => some false
  | _ => Option.none
def kit_tuple (t : Nat) : Option Bool := match t with
  | 5 => some true
  | 2 => some false
  | _ => Option.none
def kit_Group (t : Nat) : Option Bool := match t with
  | 10 => some true
  | _ => Option.none
def kit_ClosedMoves (t : Nat) : Option Bool := match t with
  | 5 => some false
  | _ => Option.none
/-! is_whole_number -/
abbrev st_0 : Stmt := top 14
def N_0 : List Str := ["value"]
def d_0 : D := (mRet (mAnd (mIsi kit_int (mVarK 0)) (mNot (mIsi kit_bool (mVarK 0)))))
def t_0 : CallT := fun f => match f with
  | _ => fun _ _ => .bad
def c_0 : List W → Hpi → R := fun ws h => padF ws 1 fun e => retR (d_0 t_0 e h)
/-! is_integer -/
abbrev st_1 : Stmt := top 15
def N_1 : List Str := ["value"]
def d_1 : D := (mRet (mAnd (mDeep (mCallP 0 1 (mCons (mVarK 0) mNil))) (mOp2 oLt (mBi oAbs (mCons (mVarK 0) mNil)) (mC (.int (.ofNat 1000000000000000000000000000000000000000000000000000000000000))))))
def t_1 : CallT := fun f => match f with
  | 0 => c_0
  | _ => fun _ _ => .bad
def c_1 : List W → Hpi → R := fun ws h => padF ws 1 fun e => retR (d_1 t_1 e h)
/-! is_within -/
abbrev st_2 : Stmt := top 16
def N_2 : List Str := ["value", "least", "most"]
def d_2 : D := (mRet (mAnd (mDeep (mCallP 0 1 (mCons (mVarK 0) mNil))) (mChain oLe oLe (mVarK 1) (mVarK 0) (mVarK 2))))
def t_2 : CallT := fun f => match f with
  | 0 => c_0
  | _ => fun _ _ => .bad
def c_2 : List W → Hpi → R := fun ws h => padF ws 3 fun e => retR (d_2 t_2 e h)
/-! is_renaming -/
abbrev st_3 : Stmt := top 18
def N_3 : List Str := ["value", "place"]
def d_3 : D := (mSeq (mSif (mOr (mNot (mIsi kit_tuple (mVarK 0))) (mNot (mChain oLe oLe (mC (.int (.ofNat 1))) (mBi oLen (mCons (mVarK 0) mNil)) (mC (.int (.ofNat 32)))))) (mRet (mC (.bl false))) mSkip) (mRet (mAnd (mBi oAll (mCons (mLc false [1] (.nm 1) (mISeq (mVarK 0)) (mC (.bl true)) (mDeep (mCallP 1 1 (mCons (mVarK 1) mNil)))) mNil)) (mOp2 oEq (mBi oSorted (mCons (mVarK 0) mNil)) (mLayR false (mBi oLen (mCons (mVarK 0) mNil)))))))
def t_3 : CallT := fun f => match f with
  | 1 => c_1
  | _ => fun _ _ => .bad
def c_3 : List W → Hpi → R := fun ws h => padF ws 2 fun e => retR (d_3 t_3 e h)
/-! are_makers -/
abbrev st_4 : Stmt := top 19
def N_4 : List Str := ["value", "one"]
def d_4 : D := (mSeq (mSif (mOr (mNot (mIsi kit_tuple (mVarK 0))) (mNot (mChain oLe oLe (mC (.int (.ofNat 1))) (mBi oLen (mCons (mVarK 0) mNil)) (mC (.int (.ofNat 4)))))) (mRet (mC (.bl false))) mSkip) (mRet (mBi oAll (mCons (mLc false [1] (.nm 1) (mISeq (mVarK 0)) (mC (.bl true)) (mAnd (mDeep (mCallP 3 1 (mCons (mVarK 1) mNil))) (mOp2 oEq (mBi oLen (mCons (mVarK 1) mNil)) (mBi oLen (mCons (mOp2 oIdx (mVarK 0) (mC (.int (.ofNat 0)))) mNil))))) mNil))))
def t_4 : CallT := fun f => match f with
  | 3 => c_3
  | _ => fun _ _ => .bad
def c_4 : List W → Hpi → R := fun ws h => padF ws 2 fun e => retR (d_4 t_4 e h)
/-! renamed -/
abbrev st_5 : Stmt := top 20
def N_5 : List Str := ["one", "other", "place"]
def d_5 : D := (mRet (mBi oTuple (mCons (mLc false [2] (.nm 2) (mISeq (mVarK 1)) (mC (.bl true)) (mOp2 oIdx (mVarK 0) (mVarK 2))) mNil)))
def t_5 : CallT := fun f => match f with
  | _ => fun _ _ => .bad
def c_5 : List W → Hpi → R := fun ws h => padF ws 3 fun e => retR (d_5 t_5 e h)
/-! all_products -/
abbrev st_6 : Stmt := top 21
def N_6 : List Str := ["makers", "found", "here", "later", "maker", "one"]
def d_6 : D := (mSeq (mAsg (.nm 1) (mDspT false (mPc (mLayR true (mBi oLen (mCons (mOp2 oIdx (mVarK 0) (mC (.int (.ofNat 0)))) mNil))) (mC (.bl true)) mNil))) (mSeq (mAsg (.nm 2) (mBi oList (mCons (mVarK 1) mNil))) (mSeq (mWhl 64 (mOp2 oNe (mVarK 2) (mLst false mNil)) (mSeq (mAsg (.nm 3) (mDc2 false [4, 5] [5] (.nm 4) (mISeq (mVarK 0)) (mC (.bl true)) (.nm 5) (mISeq (mVarK 2)) (mC (.bl true)) (mDeep (mCallP 5 2 (mCons (mVarK 4) (mCons (mVarK 5) mNil)))) (mC (.bl true)))) (mSeq (mAsg (.nm 2) (mLc false [5] (.nm 5) (mIDct (mVarK 3)) (mOp2 oNotIn (mVarK 5) (mVarK 1)) (mVarK 5))) (mSeq (mAsg (.nm 1) (mMrgT false (mVarK 1) (mDc false [5] (.nm 5) (mISeq (mVarK 2)) (mC (.bl true)) (mVarK 5) (mC (.bl true))))) (mSif (mOp2 oGt (mBi oLen (mCons (mVarK 1) mNil)) (mC (.int (.ofNat 32)))) mBad mSkip))))) (mRet (mBi oTuple (mCons (mBi oSorted (mCons (mVarK 1) mNil)) mNil))))))
def t_6 : CallT := fun f => match f with
  | 5 => c_5
  | _ => fun _ _ => .bad
def c_6 : List W → Hpi → R := fun ws h => padF ws 6 fun e => retR (d_6 t_6 e h)
/-! product_table -/
abbrev st_7 : Stmt := top 22
def N_7 : List Str := ["moves", "index", "member", "one", "other"]
def d_7 : D := (mSeq (mAsg (.nm 1) (mDc false [2, 3] (.tp [2, 3]) (mIEnT (mCons (mVarK 0) mNil)) (mC (.bl true)) (mVarK 3) (mVarK 2))) (mRet (mBi oTuple (mCons (mLc false [3] (.nm 3) (mISeq (mVarK 0)) (mC (.bl true)) (mBi oTupF (mCons (mLc false [4] (.nm 4) (mISeq (mVarK 0)) (mC (.bl true)) (mOp2 oIdx (mVarK 1) (mDeep (mCallP 5 2 (mCons (mVarK 3) (mCons (mVarK 4) mNil)))))) mNil))) mNil))))
def t_7 : CallT := fun f => match f with
  | 5 => c_5
  | _ => fun _ _ => .bad
def c_7 : List W → Hpi → R := fun ws h => padF ws 5 fun e => retR (d_7 t_7 e h)
def ka_7 : W := .tup [.tup [.int (.ofNat 0), .int (.ofNat 1), .int (.ofNat 2), .int (.ofNat 3), .int (.ofNat 4), .int (.ofNat 5), .int (.ofNat 6), .int (.ofNat 7), .int (.ofNat 8), .int (.ofNat 9), .int (.ofNat 10), .int (.ofNat 11), .int (.ofNat 12), .int (.ofNat 13), .int (.ofNat 14), .int (.ofNat 15), .int (.ofNat 16), .int (.ofNat 17), .int (.ofNat 18), .int (.ofNat 19), .int (.ofNat 20), .int (.ofNat 21), .int (.ofNat 22), .int (.ofNat 23), .int (.ofNat 24), .int (.ofNat 25), .int (.ofNat 26), .int (.ofNat 27), .int (.ofNat 28), .int (.ofNat 29), .int (.ofNat 30), .int (.ofNat 31)], .tup [.int (.ofNat 1), .int (.ofNat 2), .int (.ofNat 3), .int (.ofNat 4), .int (.ofNat 5), .int (.ofNat 6), .int (.ofNat 7), .int (.ofNat 8), .int (.ofNat 9), .int (.ofNat 10), .int (.ofNat 11), .int (.ofNat 12), .int (.ofNat 13), .int (.ofNat 14), .int (.ofNat 15), .int (.ofNat 16), .int (.ofNat 17), .int (.ofNat 18), .int (.ofNat 19), .int (.ofNat 20), .int (.ofNat 21), .int (.ofNat 22), .int (.ofNat 23), .int (.ofNat 24), .int (.ofNat 25), .int (.ofNat 26), .int (.ofNat 27), .int (.ofNat 28), .int (.ofNat 29), .int (.ofNat 30), .int (.ofNat 31), .int (.ofNat 0)], .tup [.int (.ofNat 2), .int (.ofNat 3), .int (.ofNat 4), .int (.ofNat 5), .int (.ofNat 6), .int (.ofNat 7), .int (.ofNat 8), .int (.ofNat 9), .int (.ofNat 10), .int (.ofNat 11), .int (.ofNat 12), .int (.ofNat 13), .int (.ofNat 14), .int (.ofNat 15), .int (.ofNat 16), .int (.ofNat 17), .int (.ofNat 18), .int (.ofNat 19), .int (.ofNat 20), .int (.ofNat 21), .int (.ofNat 22), .int (.ofNat 23), .int (.ofNat 24), .int (.ofNat 25), .int (.ofNat 26), .int (.ofNat 27), .int (.ofNat 28), .int (.ofNat 29), .int (.ofNat 30), .int (.ofNat 31), .int (.ofNat 0), .int (.ofNat 1)], .tup [.int (.ofNat 3), .int (.ofNat 4), .int (.ofNat 5), .int (.ofNat 6), .int (.ofNat 7), .int (.ofNat 8), .int (.ofNat 9), .int (.ofNat 10), .int (.ofNat 11), .int (.ofNat 12), .int (.ofNat 13), .int (.ofNat 14), .int (.ofNat 15), .int (.ofNat 16), .int (.ofNat 17), .int (.ofNat 18), .int (.ofNat 19), .int (.ofNat 20), .int (.ofNat 21), .int (.ofNat 22), .int (.ofNat 23), .int (.ofNat 24), .int (.ofNat 25), .int (.ofNat 26), .int (.ofNat 27), .int (.ofNat 28), .int (.ofNat 29), .int (.ofNat 30), .int (.ofNat 31), .int (.ofNat 0), .int (.ofNat 1), .int (.ofNat 2)], .tup [.int (.ofNat 4), .int (.ofNat 5), .int (.ofNat 6), .int (.ofNat 7), .int (.ofNat 8), .int (.ofNat 9), .int (.ofNat 10), .int (.ofNat 11), .int (.ofNat 12), .int (.ofNat 13), .int (.ofNat 14), .int (.ofNat 15), .int (.ofNat 16), .int (.ofNat 17), .int (.ofNat 18), .int (.ofNat 19), .int (.ofNat 20), .int (.ofNat 21), .int (.ofNat 22), .int (.ofNat 23), .int (.ofNat 24), .int (.ofNat 25), .int (.ofNat 26), .int (.ofNat 27), .int (.ofNat 28), .int (.ofNat 29), .int (.ofNat 30), .int (.ofNat 31), .int (.ofNat 0), .int (.ofNat 1), .int (.ofNat 2), .int (.ofNat 3)], .tup [.int (.ofNat 5), .int (.ofNat 6), .int (.ofNat 7), .int (.ofNat 8), .int (.ofNat 9), .int (.ofNat 10), .int (.ofNat 11), .int (.ofNat 12), .int (.ofNat 13), .int (.ofNat 14), .int (.ofNat 15), .int (.ofNat 16), .int (.ofNat 17), .int (.ofNat 18), .int (.ofNat 19), .int (.ofNat 20), .int (.ofNat 21), .int (.ofNat 22), .int (.ofNat 23), .int (.ofNat 24), .int (.ofNat 25), .int (.ofNat 26), .int (.ofNat 27), .int (.ofNat 28), .int (.ofNat 29), .int (.ofNat 30), .int (.ofNat 31), .int (.ofNat 0), .int (.ofNat 1), .int (.ofNat 2), .int (.ofNat 3), .int (.ofNat 4)], .tup [.int (.ofNat 6), .int (.ofNat 7), .int (.ofNat 8), .int (.ofNat 9), .int (.ofNat 10), .int (.ofNat 11), .int (.ofNat 12), .int (.ofNat 13), .int (.ofNat 14), .int (.ofNat 15), .int (.ofNat 16), .int (.ofNat 17), .int (.ofNat 18), .int (.ofNat 19), .int (.ofNat 20), .int (.ofNat 21), .int (.ofNat 22), .int (.ofNat 23), .int (.ofNat 24), .int (.ofNat 25), .int (.ofNat 26), .int (.ofNat 27), .int (.ofNat 28), .int (.ofNat 29), .int (.ofNat 30), .int (.ofNat 31), .int (.ofNat 0), .int (.ofNat 1), .int (.ofNat 2), .int (.ofNat 3), .int (.ofNat 4), .int (.ofNat 5)], .tup [.int (.ofNat 7), .int (.ofNat 8), .int (.ofNat 9), .int (.ofNat 10), .int (.ofNat 11), .int (.ofNat 12), .int (.ofNat 13), .int (.ofNat 14), .int (.ofNat 15), .int (.ofNat 16), .int (.ofNat 17), .int (.ofNat 18), .int (.ofNat 19), .int (.ofNat 20), .int (.ofNat 21), .int (.ofNat 22), .int (.ofNat 23), .int (.ofNat 24), .int (.ofNat 25), .int (.ofNat 26), .int (.ofNat 27), .int (.ofNat 28), .int (.ofNat 29), .int (.ofNat 30), .int (.ofNat 31), .int (.ofNat 0), .int (.ofNat 1), .int (.ofNat 2), .int (.ofNat 3), .int (.ofNat 4), .int (.ofNat 5), .int (.ofNat 6)], .tup [.int (.ofNat 8), .int (.ofNat 9), .int (.ofNat 10), .int (.ofNat 11), .int (.ofNat 12), .int (.ofNat 13), .int (.ofNat 14), .int (.ofNat 15), .int (.ofNat 16), .int (.ofNat 17), .int (.ofNat 18), .int (.ofNat 19), .int (.ofNat 20), .int (.ofNat 21), .int (.ofNat 22), .int (.ofNat 23), .int (.ofNat 24), .int (.ofNat 25), .int (.ofNat 26), .int (.ofNat 27), .int (.ofNat 28), .int (.ofNat 29), .int (.ofNat 30), .int (.ofNat 31), .int (.ofNat 0), .int (.ofNat 1), .int (.ofNat 2), .int (.ofNat 3), .int (.ofNat 4), .int (.ofNat 5), .int (.ofNat 6), .int (.ofNat 7)], .tup [.int (.ofNat 9), .int (.ofNat 10), .int (.ofNat 11), .int (.ofNat 12), .int (.ofNat 13), .int (.ofNat 14), .int (.ofNat 15), .int (.ofNat 16), .int (.ofNat 17), .int (.ofNat 18), .int (.ofNat 19), .int (.ofNat 20), .int (.ofNat 21), .int (.ofNat 22), .int (.ofNat 23), .int (.ofNat 24), .int (.ofNat 25), .int (.ofNat 26), .int (.ofNat 27), .int (.ofNat 28), .int (.ofNat 29), .int (.ofNat 30), .int (.ofNat 31), .int (.ofNat 0), .int (.ofNat 1), .int (.ofNat 2), .int (.ofNat 3), .int (.ofNat 4), .int (.ofNat 5), .int (.ofNat 6), .int (.ofNat 7), .int (.ofNat 8)], .tup [.int (.ofNat 10), .int (.ofNat 11), .int (.ofNat 12), .int (.ofNat 13), .int (.ofNat 14), .int (.ofNat 15), .int (.ofNat 16), .int (.ofNat 17), .int (.ofNat 18), .int (.ofNat 19), .int (.ofNat 20), .int (.ofNat 21), .int (.ofNat 22), .int (.ofNat 23), .int (.ofNat 24), .int (.ofNat 25), .int (.ofNat 26), .int (.ofNat 27), .int (.ofNat 28), .int (.ofNat 29), .int (.ofNat 30), .int (.ofNat 31), .int (.ofNat 0), .int (.ofNat 1), .int (.ofNat 2), .int (.ofNat 3), .int (.ofNat 4), .int (.ofNat 5), .int (.ofNat 6), .int (.ofNat 7), .int (.ofNat 8), .int (.ofNat 9)], .tup [.int (.ofNat 11), .int (.ofNat 12), .int (.ofNat 13), .int (.ofNat 14), .int (.ofNat 15), .int (.ofNat 16), .int (.ofNat 17), .int (.ofNat 18), .int (.ofNat 19), .int (.ofNat 20), .int (.ofNat 21), .int (.ofNat 22), .int (.ofNat 23), .int (.ofNat 24), .int (.ofNat 25), .int (.ofNat 26), .int (.ofNat 27), .int (.ofNat 28), .int (.ofNat 29), .int (.ofNat 30), .int (.ofNat 31), .int (.ofNat 0), .int (.ofNat 1), .int (.ofNat 2), .int (.ofNat 3), .int (.ofNat 4), .int (.ofNat 5), .int (.ofNat 6), .int (.ofNat 7), .int (.ofNat 8), .int (.ofNat 9), .int (.ofNat 10)], .tup [.int (.ofNat 12), .int (.ofNat 13), .int (.ofNat 14), .int (.ofNat 15), .int (.ofNat 16), .int (.ofNat 17), .int (.ofNat 18), .int (.ofNat 19), .int (.ofNat 20), .int (.ofNat 21), .int (.ofNat 22), .int (.ofNat 23), .int (.ofNat 24), .int (.ofNat 25), .int (.ofNat 26), .int (.ofNat 27), .int (.ofNat 28), .int (.ofNat 29), .int (.ofNat 30), .int (.ofNat 31), .int (.ofNat 0), .int (.ofNat 1), .int (.ofNat 2), .int (.ofNat 3), .int (.ofNat 4), .int (.ofNat 5), .int (.ofNat 6), .int (.ofNat 7), .int (.ofNat 8), .int (.ofNat 9), .int (.ofNat 10), .int (.ofNat 11)], .tup [.int (.ofNat 13), .int (.ofNat 14), .int (.ofNat 15), .int (.ofNat 16), .int (.ofNat 17), .int (.ofNat 18), .int (.ofNat 19), .int (.ofNat 20), .int (.ofNat 21), .int (.ofNat 22), .int (.ofNat 23), .int (.ofNat 24), .int (.ofNat 25), .int (.ofNat 26), .int (.ofNat 27), .int (.ofNat 28), .int (.ofNat 29), .int (.ofNat 30), .int (.ofNat 31), .int (.ofNat 0), .int (.ofNat 1), .int (.ofNat 2), .int (.ofNat 3), .int (.ofNat 4), .int (.ofNat 5), .int (.ofNat 6), .int (.ofNat 7), .int (.ofNat 8), .int (.ofNat 9), .int (.ofNat 10), .int (.ofNat 11), .int (.ofNat 12)], .tup [.int (.ofNat 14), .int (.ofNat 15), .int (.ofNat 16), .int (.ofNat 17), .int (.ofNat 18), .int (.ofNat 19), .int (.ofNat 20), .int (.ofNat 21), .int (.ofNat 22), .int (.ofNat 23), .int (.ofNat 24), .int (.ofNat 25), .int (.ofNat 26), .int (.ofNat 27), .int (.ofNat 28), .int (.ofNat 29), .int (.ofNat 30), .int (.ofNat 31), .int (.ofNat 0), .int (.ofNat 1), .int (.ofNat 2), .int (.ofNat 3), .int (.ofNat 4), .int (.ofNat 5), .int (.ofNat 6), .int (.ofNat 7), .int (.ofNat 8), .int (.ofNat 9), .int (.ofNat 10), .int (.ofNat 11), .int (.ofNat 12), .int (.ofNat 13)], .tup [.int (.ofNat 15), .int (.ofNat 16), .int (.ofNat 17), .int (.ofNat 18), .int (.ofNat 19), .int (.ofNat 20), .int (.ofNat 21), .int (.ofNat 22), .int (.ofNat 23), .int (.ofNat 24), .int (.ofNat 25), .int (.ofNat 26), .int (.ofNat 27), .int (.ofNat 28), .int (.ofNat 29), .int (.ofNat 30), .int (.ofNat 31), .int (.ofNat 0), .int (.ofNat 1), .int (.ofNat 2), .int (.ofNat 3), .int (.ofNat 4), .int (.ofNat 5), .int (.ofNat 6), .int (.ofNat 7), .int (.ofNat 8), .int (.ofNat 9), .int (.ofNat 10), .int (.ofNat 11), .int (.ofNat 12), .int (.ofNat 13), .int (.ofNat 14)], .tup [.int (.ofNat 16), .int (.ofNat 17), .int (.ofNat 18), .int (.ofNat 19), .int (.ofNat 20), .int (.ofNat 21), .int (.ofNat 22), .int (.ofNat 23), .int (.ofNat 24), .int (.ofNat 25), .int (.ofNat 26), .int (.ofNat 27), .int (.ofNat 28), .int (.ofNat 29), .int (.ofNat 30), .int (.ofNat 31), .int (.ofNat 0), .int (.ofNat 1), .int (.ofNat 2), .int (.ofNat 3), .int (.ofNat 4), .int (.ofNat 5), .int (.ofNat 6), .int (.ofNat 7), .int (.ofNat 8), .int (.ofNat 9), .int (.ofNat 10), .int (.ofNat 11), .int (.ofNat 12), .int (.ofNat 13), .int (.ofNat 14), .int (.ofNat 15)], .tup [.int (.ofNat 17), .int (.ofNat 18), .int (.ofNat 19), .int (.ofNat 20), .int (.ofNat 21), .int (.ofNat 22), .int (.ofNat 23), .int (.ofNat 24), .int (.ofNat 25), .int (.ofNat 26), .int (.ofNat 27), .int (.ofNat 28), .int (.ofNat 29), .int (.ofNat 30), .int (.ofNat 31), .int (.ofNat 0), .int (.ofNat 1), .int (.ofNat 2), .int (.ofNat 3), .int (.ofNat 4), .int (.ofNat 5), .int (.ofNat 6), .int (.ofNat 7), .int (.ofNat 8), .int (.ofNat 9), .int (.ofNat 10), .int (.ofNat 11), .int (.ofNat 12), .int (.ofNat 13), .int (.ofNat 14), .int (.ofNat 15), .int (.ofNat 16)], .tup [.int (.ofNat 18), .int (.ofNat 19), .int (.ofNat 20), .int (.ofNat 21), .int (.ofNat 22), .int (.ofNat 23), .int (.ofNat 24), .int (.ofNat 25), .int (.ofNat 26), .int (.ofNat 27), .int (.ofNat 28), .int (.ofNat 29), .int (.ofNat 30), .int (.ofNat 31), .int (.ofNat 0), .int (.ofNat 1), .int (.ofNat 2), .int (.ofNat 3), .int (.ofNat 4), .int (.ofNat 5), .int (.ofNat 6), .int (.ofNat 7), .int (.ofNat 8), .int (.ofNat 9), .int (.ofNat 10), .int (.ofNat 11), .int (.ofNat 12), .int (.ofNat 13), .int (.ofNat 14), .int (.ofNat 15), .int (.ofNat 16), .int (.ofNat 17)], .tup [.int (.ofNat 19), .int (.ofNat 20), .int (.ofNat 21), .int (.ofNat 22), .int (.ofNat 23), .int (.ofNat 24), .int (.ofNat 25), .int (.ofNat 26), .int (.ofNat 27), .int (.ofNat 28), .int (.ofNat 29), .int (.ofNat 30), .int (.ofNat 31), .int (.ofNat 0), .int (.ofNat 1), .int (.ofNat 2), .int (.ofNat 3), .int (.ofNat 4), .int (.ofNat 5), .int (.ofNat 6), .int (.ofNat 7), .int (.ofNat 8), .int (.ofNat 9), .int (.ofNat 10), .int (.ofNat 11), .int (.ofNat 12), .int (.ofNat 13), .int (.ofNat 14), .int (.ofNat 15), .int (.ofNat 16), .int (.ofNat 17), .int (.ofNat 18)], .tup [.int (.ofNat 20), .int (.ofNat 21), .int (.ofNat 22), .int (.ofNat 23), .int (.ofNat 24), .int (.ofNat 25), .int (.ofNat 26), .int (.ofNat 27), .int (.ofNat 28), .int (.ofNat 29), .int (.ofNat 30), .int (.ofNat 31), .int (.ofNat 0), .int (.ofNat 1), .int (.ofNat 2), .int (.ofNat 3), .int (.ofNat 4), .int (.ofNat 5), .int (.ofNat 6), .int (.ofNat 7), .int (.ofNat 8), .int (.ofNat 9), .int (.ofNat 10), .int (.ofNat 11), .int (.ofNat 12), .int (.ofNat 13), .int (.ofNat 14), .int (.ofNat 15), .int (.ofNat 16), .int (.ofNat 17), .int (.ofNat 18), .int (.ofNat 19)], .tup [.int (.ofNat 21), .int (.ofNat 22), .int (.ofNat 23), .int (.ofNat 24), .int (.ofNat 25), .int (.ofNat 26), .int (.ofNat 27), .int (.ofNat 28), .int (.ofNat 29), .int (.ofNat 30), .int (.ofNat 31), .int (.ofNat 0), .int (.ofNat 1), .int (.ofNat 2), .int (.ofNat 3), .int (.ofNat 4), .int (.ofNat 5), .int (.ofNat 6), .int (.ofNat 7), .int (.ofNat 8), .int (.ofNat 9), .int (.ofNat 10), .int (.ofNat 11), .int (.ofNat 12), .int (.ofNat 13), .int (.ofNat 14), .int (.ofNat 15), .int (.ofNat 16), .int (.ofNat 17), .int (.ofNat 18), .int (.ofNat 19), .int (.ofNat 20)], .tup [.int (.ofNat 22), .int (.ofNat 23), .int (.ofNat 24), .int (.ofNat 25), .int (.ofNat 26), .int (.ofNat 27), .int (.ofNat 28), .int (.ofNat 29), .int (.ofNat 30), .int (.ofNat 31), .int (.ofNat 0), .int (.ofNat 1), .int (.ofNat 2), .int (.ofNat 3), .int (.ofNat 4), .int (.ofNat 5), .int (.ofNat 6), .int (.ofNat 7), .int (.ofNat 8), .int (.ofNat 9), .int (.ofNat 10), .int (.ofNat 11), .int (.ofNat 12), .int (.ofNat 13), .int (.ofNat 14), .int (.ofNat 15), .int (.ofNat 16), .int (.ofNat 17), .int (.ofNat 18), .int (.ofNat 19), .int (.ofNat 20), .int (.ofNat 21)], .tup [.int (.ofNat 23), .int (.ofNat 24), .int (.ofNat 25), .int (.ofNat 26), .int (.ofNat 27), .int (.ofNat 28), .int (.ofNat 29), .int (.ofNat 30), .int (.ofNat 31), .int (.ofNat 0), .int (.ofNat 1), .int (.ofNat 2), .int (.ofNat 3), .int (.ofNat 4), .int (.ofNat 5), .int (.ofNat 6), .int (.ofNat 7), .int (.ofNat 8), .int (.ofNat 9), .int (.ofNat 10), .int (.ofNat 11), .int (.ofNat 12), .int (.ofNat 13), .int (.ofNat 14), .int (.ofNat 15), .int (.ofNat 16), .int (.ofNat 17), .int (.ofNat 18), .int (.ofNat 19), .int (.ofNat 20), .int (.ofNat 21), .int (.ofNat 22)], .tup [.int (.ofNat 24), .int (.ofNat 25), .int (.ofNat 26), .int (.ofNat 27), .int (.ofNat 28), .int (.ofNat 29), .int (.ofNat 30), .int (.ofNat 31), .int (.ofNat 0), .int (.ofNat 1), .int (.ofNat 2), .int (.ofNat 3), .int (.ofNat 4), .int (.ofNat 5), .int (.ofNat 6), .int (.ofNat 7), .int (.ofNat 8), .int (.ofNat 9), .int (.ofNat 10), .int (.ofNat 11), .int (.ofNat 12), .int (.ofNat 13), .int (.ofNat 14), .int (.ofNat 15), .int (.ofNat 16), .int (.ofNat 17), .int (.ofNat 18), .int (.ofNat 19), .int (.ofNat 20), .int (.ofNat 21), .int (.ofNat 22), .int (.ofNat 23)], .tup [.int (.ofNat 25), .int (.ofNat 26), .int (.ofNat 27), .int (.ofNat 28), .int (.ofNat 29), .int (.ofNat 30), .int (.ofNat 31), .int (.ofNat 0), .int (.ofNat 1), .int (.ofNat 2), .int (.ofNat 3), .int (.ofNat 4), .int (.ofNat 5), .int (.ofNat 6), .int (.ofNat 7), .int (.ofNat 8), .int (.ofNat 9), .int (.ofNat 10), .int (.ofNat 11), .int (.ofNat 12), .int (.ofNat 13), .int (.ofNat 14), .int (.ofNat 15), .int (.ofNat 16), .int (.ofNat 17), .int (.ofNat 18), .int (.ofNat 19), .int (.ofNat 20), .int (.ofNat 21), .int (.ofNat 22), .int (.ofNat 23), .int (.ofNat 24)], .tup [.int (.ofNat 26), .int (.ofNat 27), .int (.ofNat 28), .int (.ofNat 29), .int (.ofNat 30), .int (.ofNat 31), .int (.ofNat 0), .int (.ofNat 1), .int (.ofNat 2), .int (.ofNat 3), .int (.ofNat 4), .int (.ofNat 5), .int (.ofNat 6), .int (.ofNat 7), .int (.ofNat 8), .int (.ofNat 9), .int (.ofNat 10), .int (.ofNat 11), .int (.ofNat 12), .int (.ofNat 13), .int (.ofNat 14), .int (.ofNat 15), .int (.ofNat 16), .int (.ofNat 17), .int (.ofNat 18), .int (.ofNat 19), .int (.ofNat 20), .int (.ofNat 21), .int (.ofNat 22), .int (.ofNat 23), .int (.ofNat 24), .int (.ofNat 25)], .tup [.int (.ofNat 27), .int (.ofNat 28), .int (.ofNat 29), .int (.ofNat 30), .int (.ofNat 31), .int (.ofNat 0), .int (.ofNat 1), .int (.ofNat 2), .int (.ofNat 3), .int (.ofNat 4), .int (.ofNat 5), .int (.ofNat 6), .int (.ofNat 7), .int (.ofNat 8), .int (.ofNat 9), .int (.ofNat 10), .int (.ofNat 11), .int (.ofNat 12), .int (.ofNat 13), .int (.ofNat 14), .int (.ofNat 15), .int (.ofNat 16), .int (.ofNat 17), .int (.ofNat 18), .int (.ofNat 19), .int (.ofNat 20), .int (.ofNat 21), .int (.ofNat 22), .int (.ofNat 23), .int (.ofNat 24), .int (.ofNat 25), .int (.ofNat 26)], .tup [.int (.ofNat 28), .int (.ofNat 29), .int (.ofNat 30), .int (.ofNat 31), .int (.ofNat 0), .int (.ofNat 1), .int (.ofNat 2), .int (.ofNat 3), .int (.ofNat 4), .int (.ofNat 5), .int (.ofNat 6), .int (.ofNat 7), .int (.ofNat 8), .int (.ofNat 9), .int (.ofNat 10), .int (.ofNat 11), .int (.ofNat 12), .int (.ofNat 13), .int (.ofNat 14), .int (.ofNat 15), .int (.ofNat 16), .int (.ofNat 17), .int (.ofNat 18), .int (.ofNat 19), .int (.ofNat 20), .int (.ofNat 21), .int (.ofNat 22), .int (.ofNat 23), .int (.ofNat 24), .int (.ofNat 25), .int (.ofNat 26), .int (.ofNat 27)], .tup [.int (.ofNat 29), .int (.ofNat 30), .int (.ofNat 31), .int (.ofNat 0), .int (.ofNat 1), .int (.ofNat 2), .int (.ofNat 3), .int (.ofNat 4), .int (.ofNat 5), .int (.ofNat 6), .int (.ofNat 7), .int (.ofNat 8), .int (.ofNat 9), .int (.ofNat 10), .int (.ofNat 11), .int (.ofNat 12), .int (.ofNat 13), .int (.ofNat 14), .int (.ofNat 15), .int (.ofNat 16), .int (.ofNat 17), .int (.ofNat 18), .int (.ofNat 19), .int (.ofNat 20), .int (.ofNat 21), .int (.ofNat 22), .int (.ofNat 23), .int (.ofNat 24), .int (.ofNat 25), .int (.ofNat 26), .int (.ofNat 27), .int (.ofNat 28)], .tup [.int (.ofNat 30), .int (.ofNat 31), .int (.ofNat 0), .int (.ofNat 1), .int (.ofNat 2), .int (.ofNat 3), .int (.ofNat 4), .int (.ofNat 5), .int (.ofNat 6), .int (.ofNat 7), .int (.ofNat 8), .int (.ofNat 9), .int (.ofNat 10), .int (.ofNat 11), .int (.ofNat 12), .int (.ofNat 13), .int (.ofNat 14), .int (.ofNat 15), .int (.ofNat 16), .int (.ofNat 17), .int (.ofNat 18), .int (.ofNat 19), .int (.ofNat 20), .int (.ofNat 21), .int (.ofNat 22), .int (.ofNat 23), .int (.ofNat 24), .int (.ofNat 25), .int (.ofNat 26), .int (.ofNat 27), .int (.ofNat 28), .int (.ofNat 29)], .tup [.int (.ofNat 31), .int (.ofNat 0), .int (.ofNat 1), .int (.ofNat 2), .int (.ofNat 3), .int (.ofNat 4), .int (.ofNat 5), .int (.ofNat 6), .int (.ofNat 7), .int (.ofNat 8), .int (.ofNat 9), .int (.ofNat 10), .int (.ofNat 11), .int (.ofNat 12), .int (.ofNat 13), .int (.ofNat 14), .int (.ofNat 15), .int (.ofNat 16), .int (.ofNat 17), .int (.ofNat 18), .int (.ofNat 19), .int (.ofNat 20), .int (.ofNat 21), .int (.ofNat 22), .int (.ofNat 23), .int (.ofNat 24), .int (.ofNat 25), .int (.ofNat 26), .int (.ofNat 27), .int (.ofNat 28), .int (.ofNat 29), .int (.ofNat 30)]]
def kb_7 : W := .tup [.ftp [.int (.ofNat 0), .int (.ofNat 1), .int (.ofNat 2), .int (.ofNat 3), .int (.ofNat 4), .int (.ofNat 5), .int (.ofNat 6), .int (.ofNat 7), .int (.ofNat 8), .int (.ofNat 9), .int (.ofNat 10), .int (.ofNat 11), .int (.ofNat 12), .int (.ofNat 13), .int (.ofNat 14), .int (.ofNat 15), .int (.ofNat 16), .int (.ofNat 17), .int (.ofNat 18), .int (.ofNat 19), .int (.ofNat 20), .int (.ofNat 21), .int (.ofNat 22), .int (.ofNat 23), .int (.ofNat 24), .int (.ofNat 25), .int (.ofNat 26), .int (.ofNat 27), .int (.ofNat 28), .int (.ofNat 29), .int (.ofNat 30), .int (.ofNat 31)], .ftp [.int (.ofNat 1), .int (.ofNat 2), .int (.ofNat 3), .int (.ofNat 4), .int (.ofNat 5), .int (.ofNat 6), .int (.ofNat 7), .int (.ofNat 8), .int (.ofNat 9), .int (.ofNat 10), .int (.ofNat 11), .int (.ofNat 12), .int (.ofNat 13), .int (.ofNat 14), .int (.ofNat 15), .int (.ofNat 16), .int (.ofNat 17), .int (.ofNat 18), .int (.ofNat 19), .int (.ofNat 20), .int (.ofNat 21), .int (.ofNat 22), .int (.ofNat 23), .int (.ofNat 24), .int (.ofNat 25), .int (.ofNat 26), .int (.ofNat 27), .int (.ofNat 28), .int (.ofNat 29), .int (.ofNat 30), .int (.ofNat 31), .int (.ofNat 0)], .ftp [.int (.ofNat 2), .int (.ofNat 3), .int (.ofNat 4), .int (.ofNat 5), .int (.ofNat 6), .int (.ofNat 7), .int (.ofNat 8), .int (.ofNat 9), .int (.ofNat 10), .int (.ofNat 11), .int (.ofNat 12), .int (.ofNat 13), .int (.ofNat 14), .int (.ofNat 15), .int (.ofNat 16), .int (.ofNat 17), .int (.ofNat 18), .int (.ofNat 19), .int (.ofNat 20), .int (.ofNat 21), .int (.ofNat 22), .int (.ofNat 23), .int (.ofNat 24), .int (.ofNat 25), .int (.ofNat 26), .int (.ofNat 27), .int (.ofNat 28), .int (.ofNat 29), .int (.ofNat 30), .int (.ofNat 31), .int (.ofNat 0), .int (.ofNat 1)], .ftp [.int (.ofNat 3), .int (.ofNat 4), .int (.ofNat 5), .int (.ofNat 6), .int (.ofNat 7), .int (.ofNat 8), .int (.ofNat 9), .int (.ofNat 10), .int (.ofNat 11), .int (.ofNat 12), .int (.ofNat 13), .int (.ofNat 14), .int (.ofNat 15), .int (.ofNat 16), .int (.ofNat 17), .int (.ofNat 18), .int (.ofNat 19), .int (.ofNat 20), .int (.ofNat 21), .int (.ofNat 22), .int (.ofNat 23), .int (.ofNat 24), .int (.ofNat 25), .int (.ofNat 26), .int (.ofNat 27), .int (.ofNat 28), .int (.ofNat 29), .int (.ofNat 30), .int (.ofNat 31), .int (.ofNat 0), .int (.ofNat 1), .int (.ofNat 2)], .ftp [.int (.ofNat 4), .int (.ofNat 5), .int (.ofNat 6), .int (.ofNat 7), .int (.ofNat 8), .int (.ofNat 9), .int (.ofNat 10), .int (.ofNat 11), .int (.ofNat 12), .int (.ofNat 13), .int (.ofNat 14), .int (.ofNat 15), .int (.ofNat 16), .int (.ofNat 17), .int (.ofNat 18), .int (.ofNat 19), .int (.ofNat 20), .int (.ofNat 21), .int (.ofNat 22), .int (.ofNat 23), .int (.ofNat 24), .int (.ofNat 25), .int (.ofNat 26), .int (.ofNat 27), .int (.ofNat 28), .int (.ofNat 29), .int (.ofNat 30), .int (.ofNat 31), .int (.ofNat 0), .int (.ofNat 1), .int (.ofNat 2), .int (.ofNat 3)], .ftp [.int (.ofNat 5), .int (.ofNat 6), .int (.ofNat 7), .int (.ofNat 8), .int (.ofNat 9), .int (.ofNat 10), .int (.ofNat 11), .int (.ofNat 12), .int (.ofNat 13), .int (.ofNat 14), .int (.ofNat 15), .int (.ofNat 16), .int (.ofNat 17), .int (.ofNat 18), .int (.ofNat 19), .int (.ofNat 20), .int (.ofNat 21), .int (.ofNat 22), .int (.ofNat 23), .int (.ofNat 24), .int (.ofNat 25), .int (.ofNat 26), .int (.ofNat 27), .int (.ofNat 28), .int (.ofNat 29), .int (.ofNat 30), .int (.ofNat 31), .int (.ofNat 0), .int (.ofNat 1), .int (.ofNat 2), .int (.ofNat 3), .int (.ofNat 4)], .ftp [.int (.ofNat 6), .int (.ofNat 7), .int (.ofNat 8), .int (.ofNat 9), .int (.ofNat 10), .int (.ofNat 11), .int (.ofNat 12), .int (.ofNat 13), .int (.ofNat 14), .int (.ofNat 15), .int (.ofNat 16), .int (.ofNat 17), .int (.ofNat 18), .int (.ofNat 19), .int (.ofNat 20), .int (.ofNat 21), .int (.ofNat 22), .int (.ofNat 23), .int (.ofNat 24), .int (.ofNat 25), .int (.ofNat 26), .int (.ofNat 27), .int (.ofNat 28), .int (.ofNat 29), .int (.ofNat 30), .int (.ofNat 31), .int (.ofNat 0), .int (.ofNat 1), .int (.ofNat 2), .int (.ofNat 3), .int (.ofNat 4), .int (.ofNat 5)], .ftp [.int (.ofNat 7), .int (.ofNat 8), .int (.ofNat 9), .int (.ofNat 10), .int (.ofNat 11), .int (.ofNat 12), .int (.ofNat 13), .int (.ofNat 14), .int (.ofNat 15), .int (.ofNat 16), .int (.ofNat 17), .int (.ofNat 18), .int (.ofNat 19), .int (.ofNat 20), .int (.ofNat 21), .int (.ofNat 22), .int (.ofNat 23), .int (.ofNat 24), .int (.ofNat 25), .int (.ofNat 26), .int (.ofNat 27), .int (.ofNat 28), .int (.ofNat 29), .int (.ofNat 30), .int (.ofNat 31), .int (.ofNat 0), .int (.ofNat 1), .int (.ofNat 2), .int (.ofNat 3), .int (.ofNat 4), .int (.ofNat 5), .int (.ofNat 6)], .ftp [.int (.ofNat 8), .int (.ofNat 9), .int (.ofNat 10), .int (.ofNat 11), .int (.ofNat 12), .int (.ofNat 13), .int (.ofNat 14), .int (.ofNat 15), .int (.ofNat 16), .int (.ofNat 17), .int (.ofNat 18), .int (.ofNat 19), .int (.ofNat 20), .int (.ofNat 21), .int (.ofNat 22), .int (.ofNat 23), .int (.ofNat 24), .int (.ofNat 25), .int (.ofNat 26), .int (.ofNat 27), .int (.ofNat 28), .int (.ofNat 29), .int (.ofNat 30), .int (.ofNat 31), .int (.ofNat 0), .int (.ofNat 1), .int (.ofNat 2), .int (.ofNat 3), .int (.ofNat 4), .int (.ofNat 5), .int (.ofNat 6), .int (.ofNat 7)], .ftp [.int (.ofNat 9), .int (.ofNat 10), .int (.ofNat 11), .int (.ofNat 12), .int (.ofNat 13), .int (.ofNat 14), .int (.ofNat 15), .int (.ofNat 16), .int (.ofNat 17), .int (.ofNat 18), .int (.ofNat 19), .int (.ofNat 20), .int (.ofNat 21), .int (.ofNat 22), .int (.ofNat 23), .int (.ofNat 24), .int (.ofNat 25), .int (.ofNat 26), .int (.ofNat 27), .int (.ofNat 28), .int (.ofNat 29), .int (.ofNat 30), .int (.ofNat 31), .int (.ofNat 0), .int (.ofNat 1), .int (.ofNat 2), .int (.ofNat 3), .int (.ofNat 4), .int (.ofNat 5), .int (.ofNat 6), .int (.ofNat 7), .int (.ofNat 8)], .ftp [.int (.ofNat 10), .int (.ofNat 11), .int (.ofNat 12), .int (.ofNat 13), .int (.ofNat 14), .int (.ofNat 15), .int (.ofNat 16), .int (.ofNat 17), .int (.ofNat 18), .int (.ofNat 19), .int (.ofNat 20), .int (.ofNat 21), .int (.ofNat 22), .int (.ofNat 23), .int (.ofNat 24), .int (.ofNat 25), .int (.ofNat 26), .int (.ofNat 27), .int (.ofNat 28), .int (.ofNat 29), .int (.ofNat 30), .int (.ofNat 31), .int (.ofNat 0), .int (.ofNat 1), .int (.ofNat 2), .int (.ofNat 3), .int (.ofNat 4), .int (.ofNat 5), .int (.ofNat 6), .int (.ofNat 7), .int (.ofNat 8), .int (.ofNat 9)], .ftp [.int (.ofNat 11), .int (.ofNat 12), .int (.ofNat 13), .int (.ofNat 14), .int (.ofNat 15), .int (.ofNat 16), .int (.ofNat 17), .int (.ofNat 18), .int (.ofNat 19), .int (.ofNat 20), .int (.ofNat 21), .int (.ofNat 22), .int (.ofNat 23), .int (.ofNat 24), .int (.ofNat 25), .int (.ofNat 26), .int (.ofNat 27), .int (.ofNat 28), .int (.ofNat 29), .int (.ofNat 30), .int (.ofNat 31), .int (.ofNat 0), .int (.ofNat 1), .int (.ofNat 2), .int (.ofNat 3), .int (.ofNat 4), .int (.ofNat 5), .int (.ofNat 6), .int (.ofNat 7), .int (.ofNat 8), .int (.ofNat 9), .int (.ofNat 10)], .ftp [.int (.ofNat 12), .int (.ofNat 13), .int (.ofNat 14), .int (.ofNat 15), .int (.ofNat 16), .int (.ofNat 17), .int (.ofNat 18), .int (.ofNat 19), .int (.ofNat 20), .int (.ofNat 21), .int (.ofNat 22), .int (.ofNat 23), .int (.ofNat 24), .int (.ofNat 25), .int (.ofNat 26), .int (.ofNat 27), .int (.ofNat 28), .int (.ofNat 29), .int (.ofNat 30), .int (.ofNat 31), .int (.ofNat 0), .int (.ofNat 1), .int (.ofNat 2), .int (.ofNat 3), .int (.ofNat 4), .int (.ofNat 5), .int (.ofNat 6), .int (.ofNat 7), .int (.ofNat 8), .int (.ofNat 9), .int (.ofNat 10), .int (.ofNat 11)], .ftp [.int (.ofNat 13), .int (.ofNat 14), .int (.ofNat 15), .int (.ofNat 16), .int (.ofNat 17), .int (.ofNat 18), .int (.ofNat 19), .int (.ofNat 20), .int (.ofNat 21), .int (.ofNat 22), .int (.ofNat 23), .int (.ofNat 24), .int (.ofNat 25), .int (.ofNat 26), .int (.ofNat 27), .int (.ofNat 28), .int (.ofNat 29), .int (.ofNat 30), .int (.ofNat 31), .int (.ofNat 0), .int (.ofNat 1), .int (.ofNat 2), .int (.ofNat 3), .int (.ofNat 4), .int (.ofNat 5), .int (.ofNat 6), .int (.ofNat 7), .int (.ofNat 8), .int (.ofNat 9), .int (.ofNat 10), .int (.ofNat 11), .int (.ofNat 12)], .ftp [.int (.ofNat 14), .int (.ofNat 15), .int (.ofNat 16), .int (.ofNat 17), .int (.ofNat 18), .int (.ofNat 19), .int (.ofNat 20), .int (.ofNat 21), .int (.ofNat 22), .int (.ofNat 23), .int (.ofNat 24), .int (.ofNat 25), .int (.ofNat 26), .int (.ofNat 27), .int (.ofNat 28), .int (.ofNat 29), .int (.ofNat 30), .int (.ofNat 31), .int (.ofNat 0), .int (.ofNat 1), .int (.ofNat 2), .int (.ofNat 3), .int (.ofNat 4), .int (.ofNat 5), .int (.ofNat 6), .int (.ofNat 7), .int (.ofNat 8), .int (.ofNat 9), .int (.ofNat 10), .int (.ofNat 11), .int (.ofNat 12), .int (.ofNat 13)], .ftp [.int (.ofNat 15), .int (.ofNat 16), .int (.ofNat 17), .int (.ofNat 18), .int (.ofNat 19), .int (.ofNat 20), .int (.ofNat 21), .int (.ofNat 22), .int (.ofNat 23), .int (.ofNat 24), .int (.ofNat 25), .int (.ofNat 26), .int (.ofNat 27), .int (.ofNat 28), .int (.ofNat 29), .int (.ofNat 30), .int (.ofNat 31), .int (.ofNat 0), .int (.ofNat 1), .int (.ofNat 2), .int (.ofNat 3), .int (.ofNat 4), .int (.ofNat 5), .int (.ofNat 6), .int (.ofNat 7), .int (.ofNat 8), .int (.ofNat 9), .int (.ofNat 10), .int (.ofNat 11), .int (.ofNat 12), .int (.ofNat 13), .int (.ofNat 14)], .ftp [.int (.ofNat 16), .int (.ofNat 17), .int (.ofNat 18), .int (.ofNat 19), .int (.ofNat 20), .int (.ofNat 21), .int (.ofNat 22), .int (.ofNat 23), .int (.ofNat 24), .int (.ofNat 25), .int (.ofNat 26), .int (.ofNat 27), .int (.ofNat 28), .int (.ofNat 29), .int (.ofNat 30), .int (.ofNat 31), .int (.ofNat 0), .int (.ofNat 1), .int (.ofNat 2), .int (.ofNat 3), .int (.ofNat 4), .int (.ofNat 5), .int (.ofNat 6), .int (.ofNat 7), .int (.ofNat 8), .int (.ofNat 9), .int (.ofNat 10), .int (.ofNat 11), .int (.ofNat 12), .int (.ofNat 13), .int (.ofNat 14), .int (.ofNat 15)], .ftp [.int (.ofNat 17), .int (.ofNat 18), .int (.ofNat 19), .int (.ofNat 20), .int (.ofNat 21), .int (.ofNat 22), .int (.ofNat 23), .int (.ofNat 24), .int (.ofNat 25), .int (.ofNat 26), .int (.ofNat 27), .int (.ofNat 28), .int (.ofNat 29), .int (.ofNat 30), .int (.ofNat 31), .int (.ofNat 0), .int (.ofNat 1), .int (.ofNat 2), .int (.ofNat 3), .int (.ofNat 4), .int (.ofNat 5), .int (.ofNat 6), .int (.ofNat 7), .int (.ofNat 8), .int (.ofNat 9), .int (.ofNat 10), .int (.ofNat 11), .int (.ofNat 12), .int (.ofNat 13), .int (.ofNat 14), .int (.ofNat 15), .int (.ofNat 16)], .ftp [.int (.ofNat 18), .int (.ofNat 19), .int (.ofNat 20), .int (.ofNat 21), .int (.ofNat 22), .int (.ofNat 23), .int (.ofNat 24), .int (.ofNat 25), .int (.ofNat 26), .int (.ofNat 27), .int (.ofNat 28), .int (.ofNat 29), .int (.ofNat 30), .int (.ofNat 31), .int (.ofNat 0), .int (.ofNat 1), .int (.ofNat 2), .int (.ofNat 3), .int (.ofNat 4), .int (.ofNat 5), .int (.ofNat 6), .int (.ofNat 7), .int (.ofNat 8), .int (.ofNat 9), .int (.ofNat 10), .int (.ofNat 11), .int (.ofNat 12), .int (.ofNat 13), .int (.ofNat 14), .int (.ofNat 15), .int (.ofNat 16), .int (.ofNat 17)], .ftp [.int (.ofNat 19), .int (.ofNat 20), .int (.ofNat 21), .int (.ofNat 22), .int (.ofNat 23), .int (.ofNat 24), .int (.ofNat 25), .int (.ofNat 26), .int (.ofNat 27), .int (.ofNat 28), .int (.ofNat 29), .int (.ofNat 30), .int (.ofNat 31), .int (.ofNat 0), .int (.ofNat 1), .int (.ofNat 2), .int (.ofNat 3), .int (.ofNat 4), .int (.ofNat 5), .int (.ofNat 6), .int (.ofNat 7), .int (.ofNat 8), .int (.ofNat 9), .int (.ofNat 10), .int (.ofNat 11), .int (.ofNat 12), .int (.ofNat 13), .int (.ofNat 14), .int (.ofNat 15), .int (.ofNat 16), .int (.ofNat 17), .int (.ofNat 18)], .ftp [.int (.ofNat 20), .int (.ofNat 21), .int (.ofNat 22), .int (.ofNat 23), .int (.ofNat 24), .int (.ofNat 25), .int (.ofNat 26), .int (.ofNat 27), .int (.ofNat 28), .int (.ofNat 29), .int (.ofNat 30), .int (.ofNat 31), .int (.ofNat 0), .int (.ofNat 1), .int (.ofNat 2), .int (.ofNat 3), .int (.ofNat 4), .int (.ofNat 5), .int (.ofNat 6), .int (.ofNat 7), .int (.ofNat 8), .int (.ofNat 9), .int (.ofNat 10), .int (.ofNat 11), .int (.ofNat 12), .int (.ofNat 13), .int (.ofNat 14), .int (.ofNat 15), .int (.ofNat 16), .int (.ofNat 17), .int (.ofNat 18), .int (.ofNat 19)], .ftp [.int (.ofNat 21), .int (.ofNat 22), .int (.ofNat 23), .int (.ofNat 24), .int (.ofNat 25), .int (.ofNat 26), .int (.ofNat 27), .int (.ofNat 28), .int (.ofNat 29), .int (.ofNat 30), .int (.ofNat 31), .int (.ofNat 0), .int (.ofNat 1), .int (.ofNat 2), .int (.ofNat 3), .int (.ofNat 4), .int (.ofNat 5), .int (.ofNat 6), .int (.ofNat 7), .int (.ofNat 8), .int (.ofNat 9), .int (.ofNat 10), .int (.ofNat 11), .int (.ofNat 12), .int (.ofNat 13), .int (.ofNat 14), .int (.ofNat 15), .int (.ofNat 16), .int (.ofNat 17), .int (.ofNat 18), .int (.ofNat 19), .int (.ofNat 20)], .ftp [.int (.ofNat 22), .int (.ofNat 23), .int (.ofNat 24), .int (.ofNat 25), .int (.ofNat 26), .int (.ofNat 27), .int (.ofNat 28), .int (.ofNat 29), .int (.ofNat 30), .int (.ofNat 31), .int (.ofNat 0), .int (.ofNat 1), .int (.ofNat 2), .int (.ofNat 3), .int (.ofNat 4), .int (.ofNat 5), .int (.ofNat 6), .int (.ofNat 7), .int (.ofNat 8), .int (.ofNat 9), .int (.ofNat 10), .int (.ofNat 11), .int (.ofNat 12), .int (.ofNat 13), .int (.ofNat 14), .int (.ofNat 15), .int (.ofNat 16), .int (.ofNat 17), .int (.ofNat 18), .int (.ofNat 19), .int (.ofNat 20), .int (.ofNat 21)], .ftp [.int (.ofNat 23), .int (.ofNat 24), .int (.ofNat 25), .int (.ofNat 26), .int (.ofNat 27), .int (.ofNat 28), .int (.ofNat 29), .int (.ofNat 30), .int (.ofNat 31), .int (.ofNat 0), .int (.ofNat 1), .int (.ofNat 2), .int (.ofNat 3), .int (.ofNat 4), .int (.ofNat 5), .int (.ofNat 6), .int (.ofNat 7), .int (.ofNat 8), .int (.ofNat 9), .int (.ofNat 10), .int (.ofNat 11), .int (.ofNat 12), .int (.ofNat 13), .int (.ofNat 14), .int (.ofNat 15), .int (.ofNat 16), .int (.ofNat 17), .int (.ofNat 18), .int (.ofNat 19), .int (.ofNat 20), .int (.ofNat 21), .int (.ofNat 22)], .ftp [.int (.ofNat 24), .int (.ofNat 25), .int (.ofNat 26), .int (.ofNat 27), .int (.ofNat 28), .int (.ofNat 29), .int (.ofNat 30), .int (.ofNat 31), .int (.ofNat 0), .int (.ofNat 1), .int (.ofNat 2), .int (.ofNat 3), .int (.ofNat 4), .int (.ofNat 5), .int (.ofNat 6), .int (.ofNat 7), .int (.ofNat 8), .int (.ofNat 9), .int (.ofNat 10), .int (.ofNat 11), .int (.ofNat 12), .int (.ofNat 13), .int (.ofNat 14), .int (.ofNat 15), .int (.ofNat 16), .int (.ofNat 17), .int (.ofNat 18), .int (.ofNat 19), .int (.ofNat 20), .int (.ofNat 21), .int (.ofNat 22), .int (.ofNat 23)], .ftp [.int (.ofNat 25), .int (.ofNat 26), .int (.ofNat 27), .int (.ofNat 28), .int (.ofNat 29), .int (.ofNat 30), .int (.ofNat 31), .int (.ofNat 0), .int (.ofNat 1), .int (.ofNat 2), .int (.ofNat 3), .int (.ofNat 4), .int (.ofNat 5), .int (.ofNat 6), .int (.ofNat 7), .int (.ofNat 8), .int (.ofNat 9), .int (.ofNat 10), .int (.ofNat 11), .int (.ofNat 12), .int (.ofNat 13), .int (.ofNat 14), .int (.ofNat 15), .int (.ofNat 16), .int (.ofNat 17), .int (.ofNat 18), .int (.ofNat 19), .int (.ofNat 20), .int (.ofNat 21), .int (.ofNat 22), .int (.ofNat 23), .int (.ofNat 24)], .ftp [.int (.ofNat 26), .int (.ofNat 27), .int (.ofNat 28), .int (.ofNat 29), .int (.ofNat 30), .int (.ofNat 31), .int (.ofNat 0), .int (.ofNat 1), .int (.ofNat 2), .int (.ofNat 3), .int (.ofNat 4), .int (.ofNat 5), .int (.ofNat 6), .int (.ofNat 7), .int (.ofNat 8), .int (.ofNat 9), .int (.ofNat 10), .int (.ofNat 11), .int (.ofNat 12), .int (.ofNat 13), .int (.ofNat 14), .int (.ofNat 15), .int (.ofNat 16), .int (.ofNat 17), .int (.ofNat 18), .int (.ofNat 19), .int (.ofNat 20), .int (.ofNat 21), .int (.ofNat 22), .int (.ofNat 23), .int (.ofNat 24), .int (.ofNat 25)], .ftp [.int (.ofNat 27), .int (.ofNat 28), .int (.ofNat 29), .int (.ofNat 30), .int (.ofNat 31), .int (.ofNat 0), .int (.ofNat 1), .int (.ofNat 2), .int (.ofNat 3), .int (.ofNat 4), .int (.ofNat 5), .int (.ofNat 6), .int (.ofNat 7), .int (.ofNat 8), .int (.ofNat 9), .int (.ofNat 10), .int (.ofNat 11), .int (.ofNat 12), .int (.ofNat 13), .int (.ofNat 14), .int (.ofNat 15), .int (.ofNat 16), .int (.ofNat 17), .int (.ofNat 18), .int (.ofNat 19), .int (.ofNat 20), .int (.ofNat 21), .int (.ofNat 22), .int (.ofNat 23), .int (.ofNat 24), .int (.ofNat 25), .int (.ofNat 26)], .ftp [.int (.ofNat 28), .int (.ofNat 29), .int (.ofNat 30), .int (.ofNat 31), .int (.ofNat 0), .int (.ofNat 1), .int (.ofNat 2), .int (.ofNat 3), .int (.ofNat 4), .int (.ofNat 5), .int (.ofNat 6), .int (.ofNat 7), .int (.ofNat 8), .int (.ofNat 9), .int (.ofNat 10), .int (.ofNat 11), .int (.ofNat 12), .int (.ofNat 13), .int (.ofNat 14), .int (.ofNat 15), .int (.ofNat 16), .int (.ofNat 17), .int (.ofNat 18), .int (.ofNat 19), .int (.ofNat 20), .int (.ofNat 21), .int (.ofNat 22), .int (.ofNat 23), .int (.ofNat 24), .int (.ofNat 25), .int (.ofNat 26), .int (.ofNat 27)], .ftp [.int (.ofNat 29), .int (.ofNat 30), .int (.ofNat 31), .int (.ofNat 0), .int (.ofNat 1), .int (.ofNat 2), .int (.ofNat 3), .int (.ofNat 4), .int (.ofNat 5), .int (.ofNat 6), .int (.ofNat 7), .int (.ofNat 8), .int (.ofNat 9), .int (.ofNat 10), .int (.ofNat 11), .int (.ofNat 12), .int (.ofNat 13), .int (.ofNat 14), .int (.ofNat 15), .int (.ofNat 16), .int (.ofNat 17), .int (.ofNat 18), .int (.ofNat 19), .int (.ofNat 20), .int (.ofNat 21), .int (.ofNat 22), .int (.ofNat 23), .int (.ofNat 24), .int (.ofNat 25), .int (.ofNat 26), .int (.ofNat 27), .int (.ofNat 28)], .ftp [.int (.ofNat 30), .int (.ofNat 31), .int (.ofNat 0), .int (.ofNat 1), .int (.ofNat 2), .int (.ofNat 3), .int (.ofNat 4), .int (.ofNat 5), .int (.ofNat 6), .int (.ofNat 7), .int (.ofNat 8), .int (.ofNat 9), .int (.ofNat 10), .int (.ofNat 11), .int (.ofNat 12), .int (.ofNat 13), .int (.ofNat 14), .int (.ofNat 15), .int (.ofNat 16), .int (.ofNat 17), .int (.ofNat 18), .int (.ofNat 19), .int (.ofNat 20), .int (.ofNat 21), .int (.ofNat 22), .int (.ofNat 23), .int (.ofNat 24), .int (.ofNat 25), .int (.ofNat 26), .int (.ofNat 27), .int (.ofNat 28), .int (.ofNat 29)], .ftp [.int (.ofNat 31), .int (.ofNat 0), .int (.ofNat 1), .int (.ofNat 2), .int (.ofNat 3), .int (.ofNat 4), .int (.ofNat 5), .int (.ofNat 6), .int (.ofNat 7), .int (.ofNat 8), .int (.ofNat 9), .int (.ofNat 10), .int (.ofNat 11), .int (.ofNat 12), .int (.ofNat 13), .int (.ofNat 14), .int (.ofNat 15), .int (.ofNat 16), .int (.ofNat 17), .int (.ofNat 18), .int (.ofNat 19), .int (.ofNat 20), .int (.ofNat 21), .int (.ofNat 22), .int (.ofNat 23), .int (.ofNat 24), .int (.ofNat 25), .int (.ofNat 26), .int (.ofNat 27), .int (.ofNat 28), .int (.ofNat 29), .int (.ofNat 30)]]
def s_7 : List W → Hpi → R := knw c_7 ka_7 kb_7
/-! Group.__init__ -/
abbrev st_8 : Stmt := L2.inClass (top 23) 1
def N_8 : List Str := ["self", "moves", "line"]
def d_8 : D := (mSeq (mSif (mIsi kit_ClosedMoves (mVarK 1)) mBad (mSif (mDeep (mCallP 4 1 (mCons (mVarK 1) mNil))) (mSfld 0 2 (mVarK 0) (mDeep (mCallP 6 1 (mCons (mVarK 1) mNil)))) mBad)) (mSeq (mSfld 0 3 (mVarK 0) (mDeep (mCallP 7 1 (mCons (mFld 0 2 (mVarK 0)) mNil)))) (mSeq (mSfld 0 0 (mVarK 0) (mBi oTuple (mCons (mLc false [2] (.nm 2) (mISeq (mFld 0 3 (mVarK 0))) (mC (.bl true)) (mIdxT (mVarK 2) (mCons (mC (.int (.ofNat 0))) mNil))) mNil))) (mSfld 0 1 (mVarK 0) (mLayR true (mBi oLen (mCons (mFld 0 2 (mVarK 0)) mNil)))))))
def t_8 : CallT := fun f => match f with
  | 4 => c_4
  | 6 => c_6
  | 7 => s_7
  | _ => fun _ _ => .bad
def c_8 : List W → Hpi → R := fun ws h => padF ws 3 fun e => retR (d_8 t_8 e h)
/-! Group.round -/
abbrev st_9 : Stmt := L2.inClass (top 23) 2
def N_9 : List Str := ["cls", "size"]
def d_9 : D := (mSeq (mSif (mNot (mDeep (mCallP 2 3 (mCons (mVarK 1) (mCons (mC (.int (.ofNat 1))) (mCons (mC (.int (.ofNat 32))) mNil)))))) mBad mSkip) (mRet (mMakeL 0 0 8 2 4 (mCons (mTup (mCons (mTup (mStarR (mC (.int (.ofNat 1))) (mVarK 1) (mCons (mC (.int (.ofNat 0))) mNil))) mNil)) mNil))))
def t_9 : CallT := fun f => match f with
  | 2 => c_2
  | 8 => c_8
  | _ => fun _ _ => .bad
def c_9 : List W → Hpi → R := fun ws h => padF ws 2 fun e => retR (d_9 t_9 e h)
/-! Group.size -/
abbrev st_10 : Stmt := L2.inClass (top 23) 4
def N_10 : List Str := ["self"]
def d_10 : D := (mRet (mBi oLen (mCons (mFld 0 2 (mVarK 0)) mNil)))
def t_10 : CallT := fun f => match f with
  | _ => fun _ _ => .bad
def c_10 : List W → Hpi → R := fun ws h => padF ws 1 fun e => retR (d_10 t_10 e h)
/-! order_here -/
abbrev st_11 : Stmt := top 25
def N_11 : List Str := ["group", "member", "found", "here"]
def d_11 : D := (mSeq (mPar [2, 3] (mCons (mC (.int (.ofNat 1))) (mCons (mVarK 1) mNil))) (mSeq (mWhl 64 (mOp2 oNe (mVarK 3) (mC (.int (.ofNat 0)))) (mPar [2, 3] (mCons (mOp2 oAdd (mVarK 2) (mC (.int (.ofNat 1)))) (mCons (mOp2 oIdx (mOp2 oIdx (mFld 0 3 (mVarK 0)) (mVarK 3)) (mVarK 1)) mNil)))) (mRet (mVarK 2))))
def t_11 : CallT := fun f => match f with
  | _ => fun _ _ => .bad
def c_11 : List W → Hpi → R := fun ws h => padF ws 4 fun e => retR (d_11 t_11 e h)
/-! power_here -/
abbrev st_12 : Stmt := top 26
def N_12 : List Str := ["group", "member", "number", "found", "turn"]
def d_12 : D := (mSeq (mAsg (.nm 3) (mC (.int (.ofNat 0)))) (mSeq (mFor (.nm 4) (mIRng1 (mCons (mOp2 oMod (mVarK 2) (mDeep (mCallG 11 2 (mCons (mVarK 0) (mCons (mVarK 1) mNil))))) mNil)) (mAsg (.nm 3) (mOp2 oIdx (mOp2 oIdx (mFld 0 3 (mVarK 0)) (mVarK 3)) (mVarK 1)))) (mRet (mVarK 3))))
def t_12 : CallT := fun f => match f with
  | 11 => c_11
  | _ => fun _ _ => .bad
def c_12 : List W → Hpi → R := fun ws h => padF ws 5 fun e => retR (d_12 t_12 e h)
/-! conjugate_in -/
abbrev st_13 : Stmt := top 27
def N_13 : List Str := ["group", "one", "member"]
def d_13 : D := (mRet (mOp2 oIdx (mOp2 oIdx (mFld 0 3 (mVarK 0)) (mOp2 oIdx (mOp2 oIdx (mFld 0 3 (mVarK 0)) (mVarK 2)) (mVarK 1))) (mOp2 oIdx (mFld 0 0 (mVarK 0)) (mVarK 2))))
def t_13 : CallT := fun f => match f with
  | _ => fun _ _ => .bad
def c_13 : List W → Hpi → R := fun ws h => padF ws 3 fun e => retR (d_13 t_13 e h)
/-! closed_by -/
abbrev st_14 : Stmt := top 28
def N_14 : List Str := ["group", "members", "found", "here", "later", "one", "maker"]
def d_14 : D := (mSeq (mAsg (.tp [2, 3]) (mTup (mCons (mDsp false false (mPc (mC (.int (.ofNat 0))) (mC (.bl true)) mNil)) (mCons (mLst false (mCons (mC (.int (.ofNat 0))) mNil)) mNil)))) (mSeq (mWhl 64 (mOp2 oNe (mVarK 3) (mLst false mNil)) (mSeq (mAsg (.nm 4) (mDc2 false [5, 6] [6] (.nm 5) (mISeq (mVarK 3)) (mC (.bl true)) (.nm 6) (mISeq (mVarK 1)) (mC (.bl true)) (mOp2 oIdx (mOp2 oIdx (mFld 0 3 (mVarK 0)) (mVarK 5)) (mVarK 6)) (mC (.bl true)))) (mSeq (mAsg (.nm 3) (mLc false [5] (.nm 5) (mIDct (mVarK 4)) (mOp2 oNotIn (mVarK 5) (mVarK 2)) (mVarK 5))) (mAsg (.nm 2) (mMrgK false (mVarK 2) (mDc false [5] (.nm 5) (mISeq (mVarK 3)) (mC (.bl true)) (mVarK 5) (mC (.bl true)))))))) (mRet (mBi oTuple (mCons (mBi oSorted (mCons (mVarK 2) mNil)) mNil)))))
def t_14 : CallT := fun f => match f with
  | _ => fun _ _ => .bad
def c_14 : List W → Hpi → R := fun ws h => padF ws 7 fun e => retR (d_14 t_14 e h)
/-! moved_part_in -/
abbrev st_15 : Stmt := top 30
def N_15 : List Str := ["group", "part", "member", "one"]
def d_15 : D := (mRet (mBi oTuple (mCons (mBi oSorted (mCons (mLc false [3] (.nm 3) (mISeq (mVarK 1)) (mC (.bl true)) (mDeep (mCallG 13 3 (mCons (mVarK 0) (mCons (mVarK 3) (mCons (mVarK 2) mNil)))))) mNil)) mNil)))
def t_15 : CallT := fun f => match f with
  | 13 => c_13
  | _ => fun _ _ => .bad
def c_15 : List W → Hpi → R := fun ws h => padF ws 4 fun e => retR (d_15 t_15 e h)
/-! normalizer_in -/
abbrev st_16 : Stmt := top 31
def N_16 : List Str := ["group", "part", "member"]
def d_16 : D := (mRet (mBi oTuple (mCons (mLc false [2] (.nm 2) (mIOwn 0 1 (mVarK 0)) (mOp2 oEq (mDeep (mCallG 15 3 (mCons (mVarK 0) (mCons (mVarK 1) (mCons (mVarK 2) mNil))))) (mVarK 1)) (mVarK 2)) mNil)))
def t_16 : CallT := fun f => match f with
  | 15 => c_15
  | _ => fun _ _ => .bad
def c_16 : List W → Hpi → R := fun ws h => padF ws 3 fun e => retR (d_16 t_16 e h)
/-! centralizer_in -/
abbrev st_17 : Stmt := top 32
def N_17 : List Str := ["group", "part", "table", "member", "one"]
def d_17 : D := (mSeq (mAsg (.nm 2) (mFld 0 3 (mVarK 0))) (mRet (mBi oTuple (mCons (mLc false [3] (.nm 3) (mIOwn 0 1 (mVarK 0)) (mBi oAll (mCons (mLc false [4] (.nm 4) (mISeq (mVarK 1)) (mC (.bl true)) (mOp2 oEq (mOp2 oIdx (mOp2 oIdx (mVarK 2) (mVarK 3)) (mVarK 4)) (mOp2 oIdx (mOp2 oIdx (mVarK 2) (mVarK 4)) (mVarK 3)))) mNil)) (mVarK 3)) mNil))))
def t_17 : CallT := fun f => match f with
  | _ => fun _ _ => .bad
def c_17 : List W → Hpi → R := fun ws h => padF ws 5 fun e => retR (d_17 t_17 e h)
/-! prime_part_in -/
abbrev st_18 : Stmt := top 33
def N_18 : List Str := ["group", "prime", "found", "normal", "more", "one"]
def d_18 : D := (mSeq (mAsg (.nm 2) (mTup (mCons (mC (.int (.ofNat 0))) mNil))) (mSeq (mWhl 64 (mOp2 oEq (mOp2 oMod (mOp2 oDiv (mBi oLen (mCons (mFld 0 2 (mVarK 0)) mNil)) (mBi oLen (mCons (mVarK 2) mNil))) (mVarK 1)) (mC (.int (.ofNat 0)))) (mSeq (mAsg (.nm 3) (mDeep (mCallG 16 2 (mCons (mVarK 0) (mCons (mVarK 2) mNil))))) (mSeq (mAsg (.nm 4) (mLc false [5] (.nm 5) (mISeq (mVarK 3)) (mAnd (mOp2 oNotIn (mVarK 5) (mVarK 2)) (mOp2 oIn (mDeep (mCallG 12 3 (mCons (mVarK 0) (mCons (mVarK 5) (mCons (mVarK 1) mNil))))) (mVarK 2))) (mVarK 5))) (mAsg (.nm 2) (mDeep (mCallG 14 2 (mCons (mVarK 0) (mCons (mTup (mStar (mVarK 2) (mCons (mOp2 oIdx (mVarK 4) (mC (.int (.ofNat 0)))) mNil))) mNil)))))))) (mRet (mVarK 2))))
def t_18 : CallT := fun f => match f with
  | 16 => c_16
  | 12 => c_12
  | 14 => c_14
  | _ => fun _ _ => .bad
def c_18 : List W → Hpi → R := fun ws h => padF ws 6 fun e => retR (d_18 t_18 e h)
/-! require_group -/
abbrev st_19 : Stmt := top 34
def N_19 : List Str := ["value"]
def d_19 : D := (mSif (mNot (mIsi kit_Group (mVarK 0))) mBad mSkip)
def t_19 : CallT := fun f => match f with
  | _ => fun _ _ => .bad
def c_19 : List W → Hpi → R := fun ws h => padF ws 1 fun e => retR (d_19 t_19 e h)
/-! primes_here -/
abbrev st_20 : Stmt := top 41
def N_20 : List Str := ["group", "prime"]
def d_20 : D := (mRet (mLc false [1] (.nm 1) (mISeq (mC (.ktp [.int (.ofNat 2), .int (.ofNat 3), .int (.ofNat 5), .int (.ofNat 7), .int (.ofNat 11), .int (.ofNat 13), .int (.ofNat 17), .int (.ofNat 19), .int (.ofNat 23), .int (.ofNat 29), .int (.ofNat 31)]))) (mOp2 oEq (mOp2 oMod (mProp 0 10 (mVarK 0)) (mVarK 1)) (mC (.int (.ofNat 0)))) (mVarK 1)))
def t_20 : CallT := fun f => match f with
  | 10 => c_10
  | _ => fun _ _ => .bad
def c_20 : List W → Hpi → R := fun ws h => padF ws 2 fun e => retR (d_20 t_20 e h)
/-! greatest_power -/
abbrev st_21 : Stmt := top 42
def N_21 : List Str := ["size", "prime", "found"]
def d_21 : D := (mSeq (mAsg (.nm 2) (mC (.int (.ofNat 1)))) (mSeq (mWhl 64 (mOp2 oEq (mOp2 oMod (mVarK 0) (mOp2 oMul (mVarK 2) (mVarK 1))) (mC (.int (.ofNat 0)))) (mAugM 2 (mVarK 1))) (mRet (mVarK 2))))
def t_21 : CallT := fun f => match f with
  | _ => fun _ _ => .bad
def c_21 : List W → Hpi → R := fun ws h => padF ws 3 fun e => retR (d_21 t_21 e h)
/-! powers_in -/
abbrev st_22 : Stmt := top 43
def N_22 : List Str := ["group", "member", "number"]
def d_22 : D := (mRet (mLc false [2] (.nm 2) (mIRng1 (mCons (mDeep (mCallG 11 2 (mCons (mVarK 0) (mCons (mVarK 1) mNil)))) mNil)) (mC (.bl true)) (mDeep (mCallG 12 3 (mCons (mVarK 0) (mCons (mVarK 1) (mCons (mVarK 2) mNil)))))))
def t_22 : CallT := fun f => match f with
  | 11 => c_11
  | 12 => c_12
  | _ => fun _ _ => .bad
def c_22 : List W → Hpi → R := fun ws h => padF ws 3 fun e => retR (d_22 t_22 e h)
/-! do_commute -/
abbrev st_23 : Stmt := top 44
def N_23 : List Str := ["group", "one", "other"]
def d_23 : D := (mRet (mOp2 oEq (mOp2 oIdx (mOp2 oIdx (mFld 0 3 (mVarK 0)) (mVarK 1)) (mVarK 2)) (mOp2 oIdx (mOp2 oIdx (mFld 0 3 (mVarK 0)) (mVarK 2)) (mVarK 1))))
def t_23 : CallT := fun f => match f with
  | _ => fun _ _ => .bad
def c_23 : List W → Hpi → R := fun ws h => padF ws 3 fun e => retR (d_23 t_23 e h)
/-! is_bar_in -/
abbrev st_24 : Stmt := top 45
def N_24 : List Str := ["group", "one", "other", "prime"]
def d_24 : D := (mSeq (mAsg (.nm 3) (mDeep (mCallG 11 2 (mCons (mVarK 0) (mCons (mVarK 1) mNil))))) (mSeq (mSif (mOr (mOp2 oNotIn (mVarK 3) (mC (.ktp [.int (.ofNat 2), .int (.ofNat 3), .int (.ofNat 5), .int (.ofNat 7), .int (.ofNat 11), .int (.ofNat 13), .int (.ofNat 17), .int (.ofNat 19), .int (.ofNat 23), .int (.ofNat 29), .int (.ofNat 31)]))) (mOp2 oNe (mDeep (mCallG 11 2 (mCons (mVarK 0) (mCons (mVarK 2) mNil)))) (mVarK 3))) (mRet (mC (.bl false))) mSkip) (mRet (mAnd (mDeep (mCallG 23 3 (mCons (mVarK 0) (mCons (mVarK 1) (mCons (mVarK 2) mNil))))) (mOp2 oNotIn (mVarK 2) (mDeep (mCallG 22 2 (mCons (mVarK 0) (mCons (mVarK 1) mNil)))))))))
def t_24 : CallT := fun f => match f with
  | 11 => c_11
  | 23 => c_23
  | 22 => c_22
  | _ => fun _ _ => .bad
def c_24 : List W → Hpi → R := fun ws h => padF ws 4 fun e => retR (d_24 t_24 e h)
/-! bar_in -/
abbrev st_25 : Stmt := top 46
def N_25 : List Str := ["group", "pairs", "one", "other"]
def d_25 : D := (mSeq (mAsg (.nm 1) (mLc2 false [2, 3] [3] (.nm 2) (mIOwn 0 1 (mVarK 0)) (mC (.bl true)) (.nm 3) (mIOwn 0 1 (mVarK 0)) (mC (.bl true)) (mTup (mCons (mVarK 2) (mCons (mVarK 3) mNil))))) (mRet (mNx [2, 3] (.tp [2, 3]) (mISeq (mVarK 1)) (mDeep (mCallG 24 3 (mCons (mVarK 0) (mCons (mVarK 2) (mCons (mVarK 3) mNil))))) (mTup (mCons (mVarK 2) (mCons (mVarK 3) mNil))))))
def t_25 : CallT := fun f => match f with
  | 24 => c_24
  | _ => fun _ _ => .bad
def c_25 : List W → Hpi → R := fun ws h => padF ws 4 fun e => retR (d_25 t_25 e h)
/-! is_eight -/
abbrev st_26 : Stmt := top 47
def N_26 : List Str := ["group", "a", "b", "order", "table"]
def d_26 : D := (mSeq (mAsg (.nm 3) (mDeep (mCallG 11 2 (mCons (mVarK 0) (mCons (mVarK 1) mNil))))) (mSeq (mSif (mOr (mOp2 oLt (mVarK 3) (mC (.int (.ofNat 4)))) (mOr (mOp2 oEq (mOp2 oMod (mVarK 3) (mC (.int (.ofNat 2)))) (mC (.int (.ofNat 1)))) (mOp2 oIn (mVarK 2) (mDeep (mCallG 22 2 (mCons (mVarK 0) (mCons (mVarK 1) mNil))))))) (mRet (mC (.bl false))) mSkip) (mSeq (mAsg (.nm 4) (mFld 0 3 (mVarK 0))) (mRet (mAnd (mOp2 oEq (mOp2 oIdx (mOp2 oIdx (mVarK 4) (mVarK 2)) (mVarK 2)) (mDeep (mCallG 12 3 (mCons (mVarK 0) (mCons (mVarK 1) (mCons (mOp2 oDiv (mVarK 3) (mC (.int (.ofNat 2)))) mNil)))))) (mOp2 oEq (mOp2 oIdx (mOp2 oIdx (mVarK 4) (mVarK 2)) (mVarK 1)) (mOp2 oIdx (mOp2 oIdx (mVarK 4) (mDeep (mCallG 12 3 (mCons (mVarK 0) (mCons (mVarK 1) (mCons (mNeg (mC (.int (.ofNat 1)))) mNil)))))) (mVarK 2))))))))
def t_26 : CallT := fun f => match f with
  | 11 => c_11
  | 22 => c_22
  | 12 => c_12
  | _ => fun _ _ => .bad
def c_26 : List W → Hpi → R := fun ws h => padF ws 5 fun e => retR (d_26 t_26 e h)
/-! round_entry -/
abbrev st_27 : Stmt := top 48
def N_27 : List Str := ["group", "prime", "power", "maker", "one"]
def d_27 : D := (mSeq (mAsg (.nm 2) (mDeep (mCallP 21 2 (mCons (mProp 0 10 (mVarK 0)) (mCons (mVarK 1) mNil))))) (mSeq (mAsg (.nm 3) (mNx [4] (.nm 4) (mIOwn 0 1 (mVarK 0)) (mOp2 oEq (mDeep (mCallG 11 2 (mCons (mVarK 0) (mCons (mVarK 4) mNil)))) (mVarK 2)) (mVarK 4))) (mRet (mIf (mIsN false (mVarK 3)) (mC .non) (mTup (mCons (mVarK 1) (mCons (mC (.str [114, 111, 117, 110, 100])) (mCons (mVarK 3) mNil))))))))
def t_27 : CallT := fun f => match f with
  | 10 => c_10
  | 21 => c_21
  | 11 => c_11
  | _ => fun _ _ => .bad
def c_27 : List W → Hpi → R := fun ws h => padF ws 5 fun e => retR (d_27 t_27 e h)
/-! eight_entry -/
abbrev st_28 : Stmt := top 49
def N_28 : List Str := ["group", "power", "some", "pairs", "found", "one", "a", "b"]
def d_28 : D := (mSeq (mAsg (.nm 1) (mDeep (mCallP 21 2 (mCons (mProp 0 10 (mVarK 0)) (mCons (mC (.int (.ofNat 2))) mNil))))) (mSeq (mAsg (.nm 2) (mLc false [5] (.nm 5) (mIOwn 0 1 (mVarK 0)) (mOp2 oEq (mOp2 oMul (mC (.int (.ofNat 2))) (mDeep (mCallG 11 2 (mCons (mVarK 0) (mCons (mVarK 5) mNil))))) (mVarK 1)) (mVarK 5))) (mSeq (mAsg (.nm 3) (mLc2 false [6, 7] [7] (.nm 6) (mISeq (mVarK 2)) (mC (.bl true)) (.nm 7) (mIOwn 0 1 (mVarK 0)) (mC (.bl true)) (mTup (mCons (mVarK 6) (mCons (mVarK 7) mNil))))) (mSeq (mAsg (.nm 4) (mNx [6, 7] (.tp [6, 7]) (mISeq (mVarK 3)) (mDeep (mCallG 26 3 (mCons (mVarK 0) (mCons (mVarK 6) (mCons (mVarK 7) mNil))))) (mTup (mCons (mVarK 6) (mCons (mVarK 7) mNil))))) (mRet (mIf (mIsN false (mVarK 4)) (mC .non) (mTup (mCons (mC (.int (.ofNat 2))) (mCons (mC (.str [101, 105, 103, 104, 116])) (mCons (mOp2 oIdx (mVarK 4) (mC (.int (.ofNat 0)))) (mCons (mOp2 oIdx (mVarK 4) (mC (.int (.ofNat 1)))) mNil)))))))))))
def t_28 : CallT := fun f => match f with
  | 10 => c_10
  | 21 => c_21
  | 11 => c_11
  | 26 => c_26
  | _ => fun _ _ => .bad
def c_28 : List W → Hpi → R := fun ws h => padF ws 8 fun e => retR (d_28 t_28 e h)
/-! entry_for -/
abbrev st_29 : Stmt := top 50
def N_29 : List Str := ["group", "prime", "found"]
def d_29 : D := (mSeq (mAsg (.nm 2) (mDeep (mCallG 27 2 (mCons (mVarK 0) (mCons (mVarK 1) mNil))))) (mRet (mIf (mAnd (mIsN false (mVarK 2)) (mOp2 oEq (mVarK 1) (mC (.int (.ofNat 2))))) (mDeep (mCallG 28 1 (mCons (mVarK 0) mNil))) (mVarK 2))))
def t_29 : CallT := fun f => match f with
  | 27 => c_27
  | 28 => c_28
  | _ => fun _ _ => .bad
def c_29 : List W → Hpi → R := fun ws h => padF ws 3 fun e => retR (d_29 t_29 e h)
/-! paper_here -/
abbrev st_30 : Stmt := top 51
def N_30 : List Str := ["group", "found", "prime"]
def d_30 : D := (mSeq (mAsg (.nm 1) (mLc false [2] (.nm 2) (mISeq (mDeep (mCallG 20 1 (mCons (mVarK 0) mNil)))) (mC (.bl true)) (mDeep (mCallG 29 2 (mCons (mVarK 0) (mCons (mVarK 2) mNil)))))) (mRet (mIf (mOp2 oIn (mC .non) (mVarK 1)) (mC .non) (mBi oTuple (mCons (mVarK 1) mNil)))))
def t_30 : CallT := fun f => match f with
  | 20 => c_20
  | 29 => c_29
  | _ => fun _ _ => .bad
def c_30 : List W → Hpi → R := fun ws h => padF ws 3 fun e => retR (d_30 t_30 e h)
/-! turns_in -/
abbrev st_31 : Stmt := top 52
def N_31 : List Str := ["group", "prime", "part"]
def d_31 : D := (mSeq (mAsg (.nm 2) (mDeep (mCallG 18 2 (mCons (mVarK 0) (mCons (mVarK 1) mNil))))) (mRet (mOp2 oDiv (mBi oLen (mCons (mDeep (mCallG 16 2 (mCons (mVarK 0) (mCons (mVarK 2) mNil)))) mNil)) (mBi oLen (mCons (mDeep (mCallG 17 2 (mCons (mVarK 0) (mCons (mVarK 2) mNil)))) mNil)))))
def t_31 : CallT := fun f => match f with
  | 18 => c_18
  | 16 => c_16
  | 17 => c_17
  | _ => fun _ _ => .bad
def c_31 : List W → Hpi → R := fun ws h => padF ws 3 fun e => retR (d_31 t_31 e h)
/-! least_again -/
abbrev st_32 : Stmt := top 53
def N_32 : List Str := ["group", "found", "entry"]
def d_32 : D := (mSeq (mAsg (.nm 1) (mC (.int (.ofNat 2)))) (mSeq (mFor (.nm 2) (mISeq (mDeep (mCallG 30 1 (mCons (mVarK 0) mNil)))) (mSif (mOp2 oEq (mOp2 oIdx (mVarK 2) (mC (.int (.ofNat 1)))) (mC (.str [101, 105, 103, 104, 116]))) (mAsg (.nm 1) (mLcm (mCons (mVarK 1) (mCons (mC (.int (.ofNat 4))) mNil)))) (mSif (mOp2 oNe (mOp2 oIdx (mVarK 2) (mC (.int (.ofNat 0)))) (mC (.int (.ofNat 2)))) (mAsg (.nm 1) (mLcm (mCons (mVarK 1) (mCons (mOp2 oMul (mC (.int (.ofNat 2))) (mDeep (mCallG 31 2 (mCons (mVarK 0) (mCons (mOp2 oIdx (mVarK 2) (mC (.int (.ofNat 0)))) mNil))))) mNil)))) mSkip))) (mRet (mVarK 1))))
def t_32 : CallT := fun f => match f with
  | 30 => c_30
  | 31 => c_31
  | _ => fun _ _ => .bad
def c_32 : List W → Hpi → R := fun ws h => padF ws 3 fun e => retR (d_32 t_32 e h)
/-! require_prime_of -/
abbrev st_33 : Stmt := top 54
def N_33 : List Str := ["group", "prime"]
def d_33 : D := (mSeq (mDrop (mDeep (mCallG 19 1 (mCons (mVarK 0) mNil)))) (mSif (mOr (mNot (mDeep (mCallP 1 1 (mCons (mVarK 1) mNil)))) (mOr (mOp2 oNotIn (mVarK 1) (mC (.ktp [.int (.ofNat 2), .int (.ofNat 3), .int (.ofNat 5), .int (.ofNat 7), .int (.ofNat 11), .int (.ofNat 13), .int (.ofNat 17), .int (.ofNat 19), .int (.ofNat 23), .int (.ofNat 29), .int (.ofNat 31)]))) (mOp2 oNe (mOp2 oMod (mProp 0 10 (mVarK 0)) (mVarK 1)) (mC (.int (.ofNat 0)))))) mBad mSkip))
def t_33 : CallT := fun f => match f with
  | 19 => c_19
  | 1 => c_1
  | 10 => c_10
  | _ => fun _ _ => .bad
def c_33 : List W → Hpi → R := fun ws h => padF ws 2 fun e => retR (d_33 t_33 e h)
/-! require_no_bar -/
abbrev st_34 : Stmt := top 55
def N_34 : List Str := ["group"]
def d_34 : D := (mSif (mIsN true (mDeep (mCallG 25 1 (mCons (mVarK 0) mNil)))) (mRaise 2 (mC (.ktp [.str [98, 97, 114]]))) mSkip)
def t_34 : CallT := fun f => match f with
  | 25 => c_25
  | _ => fun _ _ => .bad
def c_34 : List W → Hpi → R := fun ws h => padF ws 1 fun e => retR (d_34 t_34 e h)
/-! again_paper -/
abbrev st_35 : Stmt := top 56
def N_35 : List Str := ["group"]
def d_35 : D := (mSeq (mDrop (mDeep (mCallG 19 1 (mCons (mVarK 0) mNil)))) (mRet (mDeep (mCallG 30 1 (mCons (mVarK 0) mNil)))))
def t_35 : CallT := fun f => match f with
  | 19 => c_19
  | 30 => c_30
  | _ => fun _ _ => .bad
def c_35 : List W → Hpi → R := fun ws h => padF ws 1 fun e => retR (d_35 t_35 e h)
/-! prime_turns -/
abbrev st_36 : Stmt := top 57
def N_36 : List Str := ["group", "prime"]
def d_36 : D := (mSeq (mDrop (mDeep (mCallG 33 2 (mCons (mVarK 0) (mCons (mVarK 1) mNil))))) (mRet (mDeep (mCallG 31 2 (mCons (mVarK 0) (mCons (mVarK 1) mNil))))))
def t_36 : CallT := fun f => match f with
  | 33 => c_33
  | 31 => c_31
  | _ => fun _ _ => .bad
def c_36 : List W → Hpi → R := fun ws h => padF ws 2 fun e => retR (d_36 t_36 e h)
/-! again_step -/
abbrev st_37 : Stmt := top 58
def N_37 : List Str := ["group"]
def d_37 : D := (mSeq (mDrop (mDeep (mCallG 19 1 (mCons (mVarK 0) mNil)))) (mSeq (mDrop (mCall false 34 1 (mCons (mVarK 0) mNil))) (mRet (mDeep (mCallG 32 1 (mCons (mVarK 0) mNil))))))
def t_37 : CallT := fun f => match f with
  | 19 => c_19
  | 34 => c_34
  | 32 => c_32
  | _ => fun _ _ => .bad
def c_37 : List W → Hpi → R := fun ws h => padF ws 1 fun e => retR (d_37 t_37 e h)
/-! _law_dice -/
abbrev st_38 : Stmt := top 60
def N_38 : List Str := ["_law_script", "_law_at", "_law_cell", "_law_great", "_law_left", "_law_mixed"]
def d_38 : D := (mSeq (mAsg (.nm 2) (mOp2 oAdd (mOp2 oMul (mC (.int (.ofNat 101))) (mVarK 1)) (mC (.int (.ofNat 47))))) (mSeq (mSif (mOp2 oLt (mVarK 1) (mBi oLen (mCons (mVarK 0) mNil))) (mAsg (.nm 2) (mOp2 oIdx (mVarK 0) (mVarK 1))) mSkip) (mSeq (mAsg (.nm 3) (mOp2 oMod (mBi oInt (mCons (mBi oAbs (mCons (mVarK 2) mNil)) mNil)) (mOp2 oPow (mOp2 oPow (mC (.int (.ofNat 10))) (mC (.int (.ofNat 60)))) (mC (.int (.ofNat 10)))))) (mSeq (mAsg (.nm 4) (mOp2 oDiv (mVarK 3) (mOp2 oPow (mC (.int (.ofNat 10))) (mC (.int (.ofNat 18)))))) (mSeq (mAsg (.nm 5) (mOp2 oAdd (mOp2 oAdd (mOp2 oAdd (mOp2 oMul (mOp2 oMod (mVarK 3) (mC (.int (.ofNat 2147482621)))) (mC (.int (.ofNat 60497)))) (mOp2 oMul (mC (.int (.ofNat 3541))) (mVarK 1))) (mOp2 oMul (mC (.int (.ofNat 89))) (mBi oInt (mCons (mOp2 oLt (mVarK 2) (mC (.int (.ofNat 0)))) mNil)))) (mC (.int (.ofNat 127))))) (mRet (mLst true (mCons (mVarK 4) (mCons (mOp2 oMod (mVarK 5) (mC (.int (.ofNat 2147482583)))) (mCons (mC (.int (.ofNat 0))) mNil))))))))))
def t_38 : CallT := fun f => match f with
  | _ => fun _ _ => .bad
def c_38 : List W → Hpi → R := fun ws h => padF ws 6 fun e => retR (d_38 t_38 e h)
/-! _law_roll -/
abbrev st_39 : Stmt := top 61
def N_39 : List Str := ["_law_dice_here", "_law_total", "_law_size", "_law_drawn", "_law_one", "_law_two"]
def d_39 : D := (mSeq (mAsg (.nm 2) (mBi oInt (mCons (mVarK 1) mNil))) (mSeq (mSif (mOp2 oGt (mOp2 oIdx (mVarK 0) (mC (.int (.ofNat 0)))) (mC (.int (.ofNat 0)))) (mSeq (mAsg (.nm 3) (mOp2 oMod (mOp2 oIdx (mVarK 0) (mC (.int (.ofNat 0)))) (mVarK 2))) (mSeq (mSidx (mVarK 0) (mC (.int (.ofNat 0))) (mOp2 oDiv (mOp2 oIdx (mVarK 0) (mC (.int (.ofNat 0)))) (mVarK 2))) (mRet (mBi oInt (mCons (mVarK 3) mNil))))) mSkip) (mSeq (mSidx (mVarK 0) (mC (.int (.ofNat 2))) (mOp2 oAdd (mOp2 oIdx (mVarK 0) (mC (.int (.ofNat 2)))) (mC (.int (.ofNat 1))))) (mSeq (mAsg (.nm 4) (mOp2 oMod (mOp2 oAdd (mOp2 oIdx (mVarK 0) (mC (.int (.ofNat 1)))) (mOp2 oMul (mC (.int (.ofNat 1000381))) (mOp2 oIdx (mVarK 0) (mC (.int (.ofNat 2)))))) (mC (.int (.ofNat 2305843009213693951))))) (mSeq (mAsg (.nm 5) (mOp2 oAdd (mOp2 oMul (mOp2 oMod (mOp2 oMul (mVarK 4) (mVarK 4)) (mC (.int (.ofNat 2305843009213693921)))) (mVarK 4)) (mOp2 oMul (mC (.int (.ofNat 9497))) (mOp2 oIdx (mVarK 0) (mC (.int (.ofNat 2))))))) (mSeq (mAsg (.nm 5) (mOp2 oMod (mVarK 5) (mC (.int (.ofNat 2305843009213693907))))) (mRet (mBi oInt (mCons (mOp2 oMod (mOp2 oDiv (mVarK 5) (mC (.int (.ofNat 4096)))) (mVarK 2)) mNil)))))))))
def t_39 : CallT := fun f => match f with
  | _ => fun _ _ => .bad
def c_39 : List W → Hpi → R := fun ws h => padF ws 6 fun e => retR (d_39 t_39 e h)
/-! _law_one_of -/
abbrev st_40 : Stmt := top 62
def N_40 : List Str := ["_law_dice_here", "_law_items"]
def d_40 : D := (mRet (mOp2 oIdx (mVarK 1) (mFork (mUniq (mCall false 39 2 (mCons (mVarK 0) (mCons (mBi oLen (mCons (mVarK 1) mNil)) mNil)))))))
def t_40 : CallT := fun f => match f with
  | 39 => c_39
  | _ => fun _ _ => .bad
def c_40 : List W → Hpi → R := fun ws h => padF ws 2 fun e => retR (d_40 t_40 e h)
/-! _law_behind -/
abbrev st_41 : Stmt := top 63
def N_41 : List Str := ["_law_one", "_law_other", "_law_place"]
def d_41 : D := (mRet (mBi oTuple (mCons (mLc false [2] (.nm 2) (mISeq (mVarK 1)) (mC (.bl true)) (mOp2 oIdx (mVarK 0) (mVarK 2))) mNil)))
def t_41 : CallT := fun f => match f with
  | _ => fun _ _ => .bad
def c_41 : List W → Hpi → R := fun ws h => padF ws 3 fun e => retR (d_41 t_41 e h)
/-! _law_made -/
abbrev st_42 : Stmt := top 64
def N_42 : List Str := ["_law_moves", "_law_idle", "_law_found", "_law_fresh", "_law_later", "_law_one", "_law_move", "_law_more"]
def d_42 : D := (mSeq (mAsg (.nm 1) (mLayR true (mBi oLen (mCons (mOp2 oIdx (mVarK 0) (mC (.int (.ofNat 0)))) mNil)))) (mSeq (mPar [2, 3] (mCons (mDspT true (mPc (mVarK 1) (mC (.int (.ofNat 1))) mNil)) (mCons (mLst false (mCons (mVarK 1) mNil)) mNil))) (mSeq (mWhl 64 (mOp2 oNe (mVarK 3) (mLst false mNil)) (mSeq (mAsg (.nm 4) (mLst true mNil)) (mSeq (mFor (.nm 5) (mISeq (mVarK 3)) (mFor (.nm 6) (mISeq (mVarK 0)) (mSeq (mAsg (.nm 7) (mDeep (mCallP 41 2 (mCons (mVarK 5) (mCons (mVarK 6) mNil))))) (mSif (mOp2 oNotIn (mVarK 7) (mVarK 2)) (mSeq (mSidx (mVarK 2) (mVarK 7) (mC (.int (.ofNat 1)))) (mDrop (mApp (mVarK 4) (mCons (mVarK 7) mNil)))) mSkip)))) (mAsg (.nm 3) (mBi oList (mCons (mVarK 4) mNil)))))) (mRet (mBi oSorted (mCons (mVarK 2) mNil))))))
def t_42 : CallT := fun f => match f with
  | 41 => c_41
  | _ => fun _ _ => .bad
def c_42 : List W → Hpi → R := fun ws h => padF ws 8 fun e => retR (d_42 t_42 e h)
/-! _law_group -/
abbrev st_43 : Stmt := top 65
def N_43 : List Str := ["_law_moves", "_law_every", "_law_place", "_law_table", "_law_back", "_law_one", "_law_line", "_law_at", "_law_other"]
def d_43 : D := (mSeq (mAsg (.nm 1) (mDeep (mCallP 42 1 (mCons (mVarK 0) mNil)))) (mSeq (mAsg (.nm 2) (mDictT false (mCons (mLc false [7, 5] (.tp [7, 5]) (mIEnu (mCons (mVarK 1) mNil)) (mC (.bl true)) (mTup (mCons (mVarK 5) (mCons (mVarK 7) mNil)))) mNil))) (mSeq (mAsg (.nm 3) (mLc false [5] (.nm 5) (mISeq (mVarK 1)) (mC (.bl true)) (mLc false [8] (.nm 8) (mISeq (mVarK 1)) (mC (.bl true)) (mOp2 oIdx (mVarK 2) (mDeep (mCallP 41 2 (mCons (mVarK 5) (mCons (mVarK 8) mNil)))))))) (mSeq (mAsg (.nm 4) (mLc false [6] (.nm 6) (mISeq (mVarK 3)) (mC (.bl true)) (mIdxL (mVarK 6) (mCons (mC (.int (.ofNat 0))) mNil)))) (mRet (mDsp false false (mPc (mC (.str [109, 111, 118, 101, 115])) (mBi oTuple (mCons (mVarK 0) mNil)) (mPc (mC (.str [101, 118, 101, 114, 121])) (mVarK 1) (mPc (mC (.str [115, 105, 122, 101])) (mBi oLen (mCons (mVarK 1) mNil)) (mPc (mC (.str [116, 97, 98, 108, 101])) (mVarK 3) (mPc (mC (.str [98, 97, 99, 107])) (mVarK 4) mNil)))))))))))
def t_43 : CallT := fun f => match f with
  | 42 => c_42
  | 41 => c_41
  | _ => fun _ _ => .bad
def c_43 : List W → Hpi → R := fun ws h => padF ws 9 fun e => retR (d_43 t_43 e h)
/-! _law_round_moves -/
abbrev st_44 : Stmt := top 66
def N_44 : List Str := ["_law_size", "_law_at"]
def d_44 : D := (mRet (mTup (mCons (mBi oTuple (mCons (mLc false [1] (.nm 1) (mIRng1 (mCons (mVarK 0) mNil)) (mC (.bl true)) (mOp2 oMod (mBi oInt (mCons (mOp2 oAdd (mVarK 1) (mC (.int (.ofNat 1)))) mNil)) (mVarK 0))) mNil)) mNil)))
def t_44 : CallT := fun f => match f with
  | _ => fun _ _ => .bad
def c_44 : List W → Hpi → R := fun ws h => padF ws 2 fun e => retR (d_44 t_44 e h)
/-! _law_ready_moves -/
abbrev st_45 : Stmt := top 67
def N_45 : List Str := ["_law_found", "_law_size"]
def d_45 : D := (mSeq (mAsg (.nm 0) (mDictK true (mCons (mLc false [1] (.nm 1) (mIRng2 (mCons (mC (.int (.ofNat 1))) (mCons (mC (.int (.ofNat 9))) mNil))) (mC (.bl true)) (mTup (mCons (mOp2 oAdd (mC (.str [99])) (mBi oStr (mCons (mVarK 1) mNil))) (mCons (mDeep (mCallP 44 1 (mCons (mVarK 1) mNil))) mNil)))) mNil))) (mSeq (mSidx (mVarK 0) (mC (.str [118, 52])) (mTup (mCons (mTup (mCons (mC (.int (.ofNat 1))) (mCons (mC (.int (.ofNat 0))) (mCons (mC (.int (.ofNat 2))) (mCons (mC (.int (.ofNat 3))) mNil))))) (mCons (mTup (mCons (mC (.int (.ofNat 0))) (mCons (mC (.int (.ofNat 1))) (mCons (mC (.int (.ofNat 3))) (mCons (mC (.int (.ofNat 2))) mNil))))) mNil)))) (mSeq (mSidx (mVarK 0) (mC (.str [99, 50, 99, 52])) (mTup (mCons (mTup (mCons (mC (.int (.ofNat 1))) (mCons (mC (.int (.ofNat 0))) (mCons (mC (.int (.ofNat 2))) (mCons (mC (.int (.ofNat 3))) (mCons (mC (.int (.ofNat 4))) (mCons (mC (.int (.ofNat 5))) mNil))))))) (mCons (mTup (mCons (mC (.int (.ofNat 0))) (mCons (mC (.int (.ofNat 1))) (mCons (mC (.int (.ofNat 3))) (mCons (mC (.int (.ofNat 4))) (mCons (mC (.int (.ofNat 5))) (mCons (mC (.int (.ofNat 2))) mNil))))))) mNil)))) (mSeq (mSidx (mVarK 0) (mC (.str [99, 51, 99, 51])) (mTup (mCons (mTup (mCons (mC (.int (.ofNat 1))) (mCons (mC (.int (.ofNat 2))) (mCons (mC (.int (.ofNat 0))) (mCons (mC (.int (.ofNat 3))) (mCons (mC (.int (.ofNat 4))) (mCons (mC (.int (.ofNat 5))) mNil))))))) (mCons (mTup (mCons (mC (.int (.ofNat 0))) (mCons (mC (.int (.ofNat 1))) (mCons (mC (.int (.ofNat 2))) (mCons (mC (.int (.ofNat 4))) (mCons (mC (.int (.ofNat 5))) (mCons (mC (.int (.ofNat 3))) mNil))))))) mNil)))) (mSeq (mSidx (mVarK 0) (mC (.str [115, 51])) (mTup (mCons (mTup (mCons (mC (.int (.ofNat 1))) (mCons (mC (.int (.ofNat 0))) (mCons (mC (.int (.ofNat 2))) mNil)))) (mCons (mTup (mCons (mC (.int (.ofNat 1))) (mCons (mC (.int (.ofNat 2))) (mCons (mC (.int (.ofNat 0))) mNil)))) mNil)))) (mSeq (mSidx (mVarK 0) (mC (.str [100, 52])) (mTup (mCons (mTup (mCons (mC (.int (.ofNat 1))) (mCons (mC (.int (.ofNat 2))) (mCons (mC (.int (.ofNat 3))) (mCons (mC (.int (.ofNat 0))) mNil))))) (mCons (mTup (mCons (mC (.int (.ofNat 0))) (mCons (mC (.int (.ofNat 3))) (mCons (mC (.int (.ofNat 2))) (mCons (mC (.int (.ofNat 1))) mNil))))) mNil)))) (mSeq (mSidx (mVarK 0) (mC (.str [113, 56])) (mTup (mCons (mTup (mCons (mC (.int (.ofNat 1))) (mCons (mC (.int (.ofNat 4))) (mCons (mC (.int (.ofNat 3))) (mCons (mC (.int (.ofNat 6))) (mCons (mC (.int (.ofNat 5))) (mCons (mC (.int (.ofNat 0))) (mCons (mC (.int (.ofNat 7))) (mCons (mC (.int (.ofNat 2))) mNil))))))))) (mCons (mTup (mCons (mC (.int (.ofNat 2))) (mCons (mC (.int (.ofNat 7))) (mCons (mC (.int (.ofNat 4))) (mCons (mC (.int (.ofNat 1))) (mCons (mC (.int (.ofNat 6))) (mCons (mC (.int (.ofNat 3))) (mCons (mC (.int (.ofNat 0))) (mCons (mC (.int (.ofNat 5))) mNil))))))))) mNil)))) (mSeq (mSidx (mVarK 0) (mC (.str [97, 52])) (mTup (mCons (mTup (mCons (mC (.int (.ofNat 1))) (mCons (mC (.int (.ofNat 2))) (mCons (mC (.int (.ofNat 0))) (mCons (mC (.int (.ofNat 3))) mNil))))) (mCons (mTup (mCons (mC (.int (.ofNat 1))) (mCons (mC (.int (.ofNat 0))) (mCons (mC (.int (.ofNat 3))) (mCons (mC (.int (.ofNat 2))) mNil))))) mNil)))) (mSeq (mSidx (mVarK 0) (mC (.str [100, 53])) (mTup (mCons (mTup (mCons (mC (.int (.ofNat 1))) (mCons (mC (.int (.ofNat 2))) (mCons (mC (.int (.ofNat 3))) (mCons (mC (.int (.ofNat 4))) (mCons (mC (.int (.ofNat 0))) mNil)))))) (mCons (mTup (mCons (mC (.int (.ofNat 0))) (mCons (mC (.int (.ofNat 4))) (mCons (mC (.int (.ofNat 3))) (mCons (mC (.int (.ofNat 2))) (mCons (mC (.int (.ofNat 1))) mNil)))))) mNil)))) (mSeq (mSidx (mVarK 0) (mC (.str [100, 54])) (mTup (mCons (mTup (mCons (mC (.int (.ofNat 1))) (mCons (mC (.int (.ofNat 2))) (mCons (mC (.int (.ofNat 3))) (mCons (mC (.int (.ofNat 4))) (mCons (mC (.int (.ofNat 5))) (mCons (mC (.int (.ofNat 0))) mNil))))))) (mCons (mTup (mCons (mC (.int (.ofNat 0))) (mCons (mC (.int (.ofNat 5))) (mCons (mC (.int (.ofNat 4))) (mCons (mC (.int (.ofNat 3))) (mCons (mC (.int (.ofNat 2))) (mCons (mC (.int (.ofNat 1))) mNil))))))) mNil)))) (mRet (mVarK 0))))))))))))
def t_45 : CallT := fun f => match f with
  | 44 => c_44
  | _ => fun _ _ => .bad
def c_45 : List W → Hpi → R := fun ws h => padF ws 2 fun e => retR (d_45 t_45 e h)
/-! _law_order -/
abbrev st_46 : Stmt := top 68
def N_46 : List Str := ["_law_group_here", "_law_member", "_law_found", "_law_here"]
def d_46 : D := (mSeq (mPar [2, 3] (mCons (mC (.int (.ofNat 1))) (mCons (mVarK 1) mNil))) (mSeq (mWhl 64 (mOp2 oNe (mVarK 3) (mC (.int (.ofNat 0)))) (mPar [3, 2] (mCons (mOp2 oIdx (mOp2 oIdx (mOp2 oIdx (mVarK 0) (mC (.str [116, 97, 98, 108, 101]))) (mVarK 3)) (mVarK 1)) (mCons (mOp2 oAdd (mVarK 2) (mC (.int (.ofNat 1)))) mNil)))) (mRet (mVarK 2))))
def t_46 : CallT := fun f => match f with
  | _ => fun _ _ => .bad
def c_46 : List W → Hpi → R := fun ws h => padF ws 4 fun e => retR (d_46 t_46 e h)
/-! _law_part -/
abbrev st_47 : Stmt := top 69
def N_47 : List Str := ["_law_group_here", "_law_makers", "_law_found", "_law_fresh", "_law_later", "_law_one", "_law_maker", "_law_more"]
def d_47 : D := (mSeq (mPar [2, 3] (mCons (mDsp true false (mPc (mC (.int (.ofNat 0))) (mC (.int (.ofNat 1))) mNil)) (mCons (mLst false (mCons (mC (.int (.ofNat 0))) mNil)) mNil))) (mSeq (mWhl 64 (mOp2 oNe (mVarK 3) (mLst false mNil)) (mSeq (mAsg (.nm 4) (mLst true mNil)) (mSeq (mFor (.nm 5) (mISeq (mVarK 3)) (mFor (.nm 6) (mISeq (mVarK 1)) (mSeq (mAsg (.nm 7) (mOp2 oIdx (mOp2 oIdx (mOp2 oIdx (mVarK 0) (mC (.str [116, 97, 98, 108, 101]))) (mVarK 5)) (mVarK 6))) (mSif (mOp2 oNotIn (mVarK 7) (mVarK 2)) (mSeq (mSidx (mVarK 2) (mVarK 7) (mC (.int (.ofNat 1)))) (mDrop (mApp (mVarK 4) (mCons (mVarK 7) mNil)))) mSkip)))) (mAsg (.nm 3) (mBi oList (mCons (mVarK 4) mNil)))))) (mRet (mBi oTuple (mCons (mBi oSorted (mCons (mVarK 2) mNil)) mNil)))))
def t_47 : CallT := fun f => match f with
  | _ => fun _ _ => .bad
def c_47 : List W → Hpi → R := fun ws h => padF ws 8 fun e => retR (d_47 t_47 e h)
/-! _law_gcd -/
abbrev st_48 : Stmt := top 70
def N_48 : List Str := ["_law_one", "_law_other"]
def d_48 : D := (mSeq (mPar [0, 1] (mCons (mBi oAbs (mCons (mVarK 0) mNil)) (mCons (mBi oAbs (mCons (mVarK 1) mNil)) mNil))) (mSeq (mWhl 64 (mOp2 oGt (mVarK 1) (mC (.int (.ofNat 0)))) (mPar [0, 1] (mCons (mVarK 1) (mCons (mOp2 oMod (mVarK 0) (mVarK 1)) mNil)))) (mRet (mVarK 0))))
def t_48 : CallT := fun f => match f with
  | _ => fun _ _ => .bad
def c_48 : List W → Hpi → R := fun ws h => padF ws 2 fun e => retR (d_48 t_48 e h)
/-! _law_again_moves -/
abbrev st_49 : Stmt := top 71
def N_49 : List Str := ["_law_found"]
def d_49 : D := (mSeq (mAsg (.nm 0) (mCall true 45 0 mNil)) (mSeq (mSidx (mVarK 0) (mC (.str [115, 101, 118, 101, 110, 51])) (mTup (mCons (mTup (mCons (mC (.int (.ofNat 1))) (mCons (mC (.int (.ofNat 2))) (mCons (mC (.int (.ofNat 3))) (mCons (mC (.int (.ofNat 4))) (mCons (mC (.int (.ofNat 5))) (mCons (mC (.int (.ofNat 6))) (mCons (mC (.int (.ofNat 0))) mNil)))))))) (mCons (mTup (mCons (mC (.int (.ofNat 0))) (mCons (mC (.int (.ofNat 2))) (mCons (mC (.int (.ofNat 4))) (mCons (mC (.int (.ofNat 6))) (mCons (mC (.int (.ofNat 1))) (mCons (mC (.int (.ofNat 3))) (mCons (mC (.int (.ofNat 5))) mNil)))))))) mNil)))) (mSeq (mSidx (mVarK 0) (mC (.str [102, 105, 118, 101, 52])) (mTup (mCons (mTup (mCons (mC (.int (.ofNat 1))) (mCons (mC (.int (.ofNat 2))) (mCons (mC (.int (.ofNat 3))) (mCons (mC (.int (.ofNat 4))) (mCons (mC (.int (.ofNat 0))) mNil)))))) (mCons (mTup (mCons (mC (.int (.ofNat 0))) (mCons (mC (.int (.ofNat 2))) (mCons (mC (.int (.ofNat 4))) (mCons (mC (.int (.ofNat 1))) (mCons (mC (.int (.ofNat 3))) mNil)))))) mNil)))) (mSeq (mSidx (mVarK 0) (mC (.str [116, 104, 114, 101, 101, 52])) (mTup (mCons (mTup (mCons (mC (.int (.ofNat 1))) (mCons (mC (.int (.ofNat 2))) (mCons (mC (.int (.ofNat 0))) (mCons (mC (.int (.ofNat 3))) (mCons (mC (.int (.ofNat 4))) (mCons (mC (.int (.ofNat 5))) (mCons (mC (.int (.ofNat 6))) mNil)))))))) (mCons (mTup (mCons (mC (.int (.ofNat 0))) (mCons (mC (.int (.ofNat 2))) (mCons (mC (.int (.ofNat 1))) (mCons (mC (.int (.ofNat 4))) (mCons (mC (.int (.ofNat 5))) (mCons (mC (.int (.ofNat 6))) (mCons (mC (.int (.ofNat 3))) mNil)))))))) mNil)))) (mSeq (mSidx (mVarK 0) (mC (.str [99, 51, 115, 51])) (mTup (mCons (mTup (mCons (mC (.int (.ofNat 1))) (mCons (mC (.int (.ofNat 2))) (mCons (mC (.int (.ofNat 0))) (mCons (mC (.int (.ofNat 3))) (mCons (mC (.int (.ofNat 4))) (mCons (mC (.int (.ofNat 5))) mNil))))))) (mCons (mTup (mCons (mC (.int (.ofNat 0))) (mCons (mC (.int (.ofNat 1))) (mCons (mC (.int (.ofNat 2))) (mCons (mC (.int (.ofNat 4))) (mCons (mC (.int (.ofNat 5))) (mCons (mC (.int (.ofNat 3))) mNil))))))) (mCons (mTup (mCons (mC (.int (.ofNat 0))) (mCons (mC (.int (.ofNat 1))) (mCons (mC (.int (.ofNat 2))) (mCons (mC (.int (.ofNat 4))) (mCons (mC (.int (.ofNat 3))) (mCons (mC (.int (.ofNat 5))) mNil))))))) mNil))))) (mRet (mVarK 0)))))))
def t_49 : CallT := fun f => match f with
  | 45 => c_45
  | _ => fun _ _ => .bad
def c_49 : List W → Hpi → R := fun ws h => padF ws 1 fun e => retR (d_49 t_49 e h)
/-! _law_again_group -/
abbrev st_50 : Stmt := top 72
def N_50 : List Str := ["_law_dice_here", "_law_moves"]
def d_50 : D := (mSeq (mAsg (.nm 1) (mCall true 49 0 mNil)) (mRet (mDeep (mCallP 43 1 (mCons (mOp2 oIdx (mVarK 1) (mCall false 40 2 (mCons (mVarK 0) (mCons (mBi oSortS (mCons (mVarK 1) mNil)) mNil)))) mNil)))))
def t_50 : CallT := fun f => match f with
  | 49 => c_49
  | 40 => c_40
  | 43 => c_43
  | _ => fun _ _ => .bad
def c_50 : List W → Hpi → R := fun ws h => padF ws 2 fun e => retR (d_50 t_50 e h)
/-! _law_primes_of -/
abbrev st_51 : Stmt := top 73
def N_51 : List Str := ["_law_number", "_law_found", "_law_left", "_law_prime", "_law_power"]
def d_51 : D := (mSeq (mPar [1, 2, 3] (mCons (mLst true mNil) (mCons (mVarK 0) (mCons (mC (.int (.ofNat 2))) mNil)))) (mSeq (mWhl 64 (mOp2 oGt (mVarK 2) (mC (.int (.ofNat 1)))) (mSeq (mAsg (.nm 4) (mC (.int (.ofNat 1)))) (mSeq (mWhl 64 (mOp2 oEq (mOp2 oMod (mVarK 2) (mVarK 3)) (mC (.int (.ofNat 0)))) (mPar [2, 4] (mCons (mOp2 oDiv (mVarK 2) (mVarK 3)) (mCons (mOp2 oMul (mVarK 4) (mVarK 3)) mNil)))) (mSeq (mSif (mOp2 oGt (mVarK 4) (mC (.int (.ofNat 1)))) (mDrop (mApp (mVarK 1) (mCons (mTup (mCons (mVarK 3) (mCons (mVarK 4) mNil))) mNil))) mSkip) (mAsg (.nm 3) (mOp2 oAdd (mVarK 3) (mC (.int (.ofNat 1))))))))) (mRet (mVarK 1))))
def t_51 : CallT := fun f => match f with
  | _ => fun _ _ => .bad
def c_51 : List W → Hpi → R := fun ws h => padF ws 5 fun e => retR (d_51 t_51 e h)
/-! _law_is_member -/
abbrev st_52 : Stmt := top 74
def N_52 : List Str := ["_law_group_here", "_law_value"]
def d_52 : D := (mRet (mAnd (mIsi kit_int (mVarK 1)) (mAnd (mNot (mIsi kit_bool (mVarK 1))) (mChain oLe oLt (mC (.int (.ofNat 0))) (mVarK 1) (mOp2 oIdx (mVarK 0) (mC (.str [115, 105, 122, 101])))))))
def t_52 : CallT := fun f => match f with
  | _ => fun _ _ => .bad
def c_52 : List W → Hpi → R := fun ws h => padF ws 2 fun e => retR (d_52 t_52 e h)
/-! _law_is_bar -/
abbrev st_53 : Stmt := top 75
def N_53 : List Str := ["_law_group_here", "_law_value", "_law_one", "_law_other", "_law_order_here", "_law_table"]
def d_53 : D := (mSeq (mSif (mOr (mNot (mIsi kit_tuple (mVarK 1))) (mOp2 oNe (mBi oLen (mCons (mVarK 1) mNil)) (mC (.int (.ofNat 2))))) (mRet (mC (.bl false))) mSkip) (mSeq (mSif (mOr (mNot (mDeep (mCallP 52 2 (mCons (mVarK 0) (mCons (mOp2 oIdx (mVarK 1) (mC (.int (.ofNat 0)))) mNil))))) (mNot (mDeep (mCallP 52 2 (mCons (mVarK 0) (mCons (mOp2 oIdx (mVarK 1) (mC (.int (.ofNat 1)))) mNil)))))) (mRet (mC (.bl false))) mSkip) (mSeq (mAsg (.tp [2, 3]) (mVarK 1)) (mSeq (mPar [4, 5] (mCons (mDeep (mCallP 46 2 (mCons (mVarK 0) (mCons (mVarK 2) mNil)))) (mCons (mOp2 oIdx (mVarK 0) (mC (.str [116, 97, 98, 108, 101]))) mNil))) (mSeq (mSif (mOr (mOp2 oNe (mBi oLen (mCons (mDeep (mCallF 51 1 (mCons (mVarK 4) mNil))) mNil)) (mC (.int (.ofNat 1)))) (mOr (mOp2 oNe (mOp2 oIdx (mOp2 oIdx (mDeep (mCallF 51 1 (mCons (mVarK 4) mNil))) (mC (.int (.ofNat 0)))) (mC (.int (.ofNat 0)))) (mVarK 4)) (mOp2 oNe (mDeep (mCallP 46 2 (mCons (mVarK 0) (mCons (mVarK 3) mNil)))) (mVarK 4)))) (mRet (mC (.bl false))) mSkip) (mRet (mAnd (mOp2 oEq (mOp2 oIdx (mOp2 oIdx (mVarK 5) (mVarK 2)) (mVarK 3)) (mOp2 oIdx (mOp2 oIdx (mVarK 5) (mVarK 3)) (mVarK 2))) (mOp2 oNotIn (mVarK 3) (mDeep (mCallP 47 2 (mCons (mVarK 0) (mCons (mLst false (mCons (mVarK 2) mNil)) mNil))))))))))))
def t_53 : CallT := fun f => match f with
  | 52 => c_52
  | 46 => c_46
  | 51 => c_51
  | 47 => c_47
  | _ => fun _ _ => .bad
def c_53 : List W → Hpi → R := fun ws h => padF ws 6 fun e => retR (d_53 t_53 e h)
/-! _law_has_bar -/
abbrev st_54 : Stmt := top 76
def N_54 : List Str := ["_law_group_here", "_law_some", "_law_one", "_law_other"]
def d_54 : D := (mSeq (mAsg (.nm 1) (mLc false [2] (.nm 2) (mIRng1 (mCons (mOp2 oIdx (mVarK 0) (mC (.str [115, 105, 122, 101]))) mNil)) (mOp2 oGt (mVarK 2) (mC (.int (.ofNat 0)))) (mVarK 2))) (mSeq (mFor (.nm 2) (mISeq (mVarK 1)) (mFor (.nm 3) (mISeq (mVarK 1)) (mSif (mDeep (mCallP 53 2 (mCons (mVarK 0) (mCons (mTup (mCons (mVarK 2) (mCons (mVarK 3) mNil))) mNil)))) (mRet (mC (.bl true))) mSkip))) (mRet (mC (.bl false)))))
def t_54 : CallT := fun f => match f with
  | 53 => c_53
  | _ => fun _ _ => .bad
def c_54 : List W → Hpi → R := fun ws h => padF ws 4 fun e => retR (d_54 t_54 e h)
/-! _law_prime_part -/
abbrev st_55 : Stmt := top 77
def N_55 : List Str := ["_law_group_here", "_law_power", "_law_one", "_law_other", "_law_part_here"]
def d_55 : D := (mSeq (mFor (.nm 2) (mIRng1 (mCons (mOp2 oIdx (mVarK 0) (mC (.str [115, 105, 122, 101]))) mNil)) (mFor (.nm 3) (mIRng1 (mCons (mOp2 oAdd (mVarK 2) (mC (.int (.ofNat 1)))) mNil)) (mSeq (mAsg (.nm 4) (mDeep (mCallP 47 2 (mCons (mVarK 0) (mCons (mLst false (mCons (mVarK 2) (mCons (mVarK 3) mNil))) mNil))))) (mSif (mOp2 oEq (mBi oLen (mCons (mVarK 4) mNil)) (mVarK 1)) (mRet (mVarK 4)) mSkip)))) (mRet (mTup (mCons (mC (.int (.ofNat 0))) mNil))))
def t_55 : CallT := fun f => match f with
  | 47 => c_47
  | _ => fun _ _ => .bad
def c_55 : List W → Hpi → R := fun ws h => padF ws 5 fun e => retR (d_55 t_55 e h)
/-! _law_turns -/
abbrev st_56 : Stmt := top 78
def N_56 : List Str := ["_law_group_here", "_law_power", "_law_part_here", "_law_table", "_law_back", "_law_move", "_law_keep", "_law_member", "_law_there", "_law_one"]
def d_56 : D := (mSeq (mAsg (.tp [2, 3, 4]) (mTup (mCons (mDeep (mCallP 55 2 (mCons (mVarK 0) (mCons (mVarK 1) mNil)))) (mCons (mOp2 oIdx (mVarK 0) (mC (.str [116, 97, 98, 108, 101]))) (mCons (mOp2 oIdx (mVarK 0) (mC (.str [98, 97, 99, 107]))) mNil))))) (mSeq (mAsg (.tp [5, 6]) (mTup (mCons (mC (.int (.ofNat 0))) (mCons (mC (.int (.ofNat 0))) mNil)))) (mSeq (mFor (.nm 7) (mIRng1 (mCons (mOp2 oIdx (mVarK 0) (mC (.str [115, 105, 122, 101]))) mNil)) (mSeq (mAsg (.nm 8) (mLc false [9] (.nm 9) (mISeq (mVarK 2)) (mC (.bl true)) (mOp2 oIdx (mOp2 oIdx (mVarK 3) (mOp2 oIdx (mOp2 oIdx (mVarK 3) (mVarK 7)) (mVarK 9))) (mOp2 oIdx (mVarK 4) (mVarK 7))))) (mSeq (mAsg (.nm 5) (mOp2 oAdd (mVarK 5) (mBi oInt (mCons (mOp2 oEq (mBi oTuple (mCons (mBi oSorted (mCons (mVarK 8) mNil)) mNil)) (mVarK 2)) mNil)))) (mAsg (.nm 6) (mOp2 oAdd (mVarK 6) (mBi oInt (mCons (mOp2 oEq (mBi oTuple (mCons (mVarK 8) mNil)) (mVarK 2)) mNil))))))) (mRet (mOp2 oDiv (mVarK 5) (mVarK 6))))))
def t_56 : CallT := fun f => match f with
  | 55 => c_55
  | _ => fun _ _ => .bad
def c_56 : List W → Hpi → R := fun ws h => padF ws 10 fun e => retR (d_56 t_56 e h)
/-! _law_step_of -/
abbrev st_57 : Stmt := top 79
def N_57 : List Str := ["_law_group_here", "_law_found", "_law_prime", "_law_power", "_law_orders", "_law_more", "_law_member"]
def d_57 : D := (mSeq (mAsg (.nm 1) (mC (.int (.ofNat 2)))) (mSeq (mFor (.tp [2, 3]) (mISeq (mDeep (mCallF 51 1 (mCons (mOp2 oIdx (mVarK 0) (mC (.str [115, 105, 122, 101]))) mNil)))) (mSeq (mAsg (.nm 4) (mLc false [6] (.nm 6) (mIRng1 (mCons (mOp2 oIdx (mVarK 0) (mC (.str [115, 105, 122, 101]))) mNil)) (mC (.bl true)) (mDeep (mCallP 46 2 (mCons (mVarK 0) (mCons (mVarK 6) mNil)))))) (mSeq (mAsg (.nm 5) (mIf (mOp2 oGt (mVarK 2) (mC (.int (.ofNat 2)))) (mOp2 oMul (mC (.int (.ofNat 2))) (mDeep (mCallP 56 2 (mCons (mVarK 0) (mCons (mVarK 3) mNil))))) (mIf (mOp2 oIn (mVarK 3) (mVarK 4)) (mC (.int (.ofNat 2))) (mC (.int (.ofNat 4)))))) (mAsg (.nm 1) (mOp2 oDiv (mOp2 oMul (mVarK 1) (mVarK 5)) (mDeep (mCallP 48 2 (mCons (mVarK 1) (mCons (mVarK 5) mNil))))))))) (mRet (mVarK 1))))
def t_57 : CallT := fun f => match f with
  | 51 => c_51
  | 46 => c_46
  | 56 => c_56
  | 48 => c_48
  | _ => fun _ _ => .bad
def c_57 : List W → Hpi → R := fun ws h => padF ws 7 fun e => retR (d_57 t_57 e h)
/-! _law_told_step -/
abbrev st_58 : Stmt := top 80
def N_58 : List Str := ["_law_group_here", "error"]
def d_58 : D := (mTry cm_2 1 (mRet (mTup (mCons (mC (.str [116, 111, 108, 100])) (mCons (mCall false 37 1 (mCons (mVarK 0) mNil)) mNil)))) (mTup (mCons (mC (.str [114, 101, 102, 117, 115, 101, 100])) (mCons (mVarK 1) mNil))))
def t_58 : CallT := fun f => match f with
  | 37 => c_37
  | _ => fun _ _ => .bad
def c_58 : List W → Hpi → R := fun ws h => padF ws 2 fun e => retR (d_58 t_58 e h)
/-! _law_right -/
abbrev st_59 : Stmt := top 81
def N_59 : List Str := ["_law_dice_here", "_law_group_here", "_law_here", "_law_prime", "_law_power"]
def da_59 : D := (mAsg (.nm 1) (mDeep (mCallL 50 1 (mCons (mVarK 0) mNil))))
def db_59 : D := (mSeq (mAsg (.nm 2) (mMake 0 8 2 4 (mCons (mOp2 oIdx (mVarK 1) (mC (.str [109, 111, 118, 101, 115]))) mNil))) (mSeq (mFor (.tp [3, 4]) (mISeq (mDeep (mCallF 51 1 (mCons (mOp2 oIdx (mVarK 1) (mC (.str [115, 105, 122, 101]))) mNil)))) (mSif (mOp2 oNe (mDeep (mCallG 36 2 (mCons (mVarK 2) (mCons (mVarK 3) mNil)))) (mDeep (mCallP 56 2 (mCons (mVarK 1) (mCons (mVarK 4) mNil))))) (mRet (mC (.bl false))) mSkip)) (mSeq (mSif (mDeep (mCallP 54 1 (mCons (mVarK 1) mNil))) (mRet (mAnd (mOp2 oEq (mDeep (mCallG 58 1 (mCons (mVarK 2) mNil))) (mTup (mCons (mC (.str [114, 101, 102, 117, 115, 101, 100])) (mCons (mTup (mCons (mC (.str [98, 97, 114])) mNil)) mNil)))) (mIsN false (mDeep (mCallG 35 1 (mCons (mVarK 2) mNil)))))) mSkip) (mRet (mOp2 oEq (mDeep (mCallG 58 1 (mCons (mVarK 2) mNil))) (mTup (mCons (mC (.str [116, 111, 108, 100])) (mCons (mDeep (mCallP 57 1 (mCons (mVarK 1) mNil))) mNil))))))))
def d_59 : D := mSeq da_59 db_59
def t_59 : CallT := fun f => match f with
  | 50 => c_50
  | 8 => c_8
  | 51 => c_51
  | 36 => c_36
  | 56 => c_56
  | 54 => c_54
  | 58 => c_58
  | 35 => c_35
  | 57 => c_57
  | _ => fun _ _ => .bad
def c_59 : List W → Hpi → R := fun ws h => padF ws 5 fun e => retR (d_59 t_59 e h)
def s_59 : List W → Hpi → R := orS (sumL (10 ^ 600) 2147482583 1 (10 ^ 600) 2147482583 40) (sumL (10 ^ 600) 2147482583 40 (10 ^ 600) 2147482583 80)
def inb_59 : R := da_59 t_59 [.loc 0, .nul, .nul, .nul, .nul] (diceH (10 ^ 600) 2147482583 40)
def in_59 : R := da_59 t_59 [.loc 0, .nul, .nul, .nul, .nul] (diceH (10 ^ 600) 2147482583 1)
/-! law -/
abbrev st_60 : Stmt := top 82
def N_60 : List Str := ["_law_script", "_law_at", "_law_dice_here", "_law_told", "_law_seven", "_law_five", "_law_size", "_law_name"]
def d_60 : D := (mSeq (mFor (.nm 1) (mIRng1 (mCons (mBi oMax2 (mCons (mC (.int (.ofNat 1))) (mCons (mBi oMin2 (mCons (mBi oLen (mCons (mVarK 0) mNil)) (mCons (mC (.int (.ofNat 4))) mNil))) mNil))) mNil)) (mSeq (mAsg (.nm 2) (mCall true 38 2 (mCons (mVarK 0) (mCons (mVarK 1) mNil)))) (mSif (mOr (mNot (mUniq (mDeep (mCallL 59 1 (mCons (mVarK 2) mNil))))) (mNot (mUniq (mDeep (mCallL 59 1 (mCons (mVarK 2) mNil)))))) (mRet (mC (.bl false))) mSkip))) (mSeq (mAsg (.nm 3) (mLc false [6] (.nm 6) (mISeqT (mTup (mCons (mC (.int (.ofNat 1))) (mCons (mC (.int (.ofNat 2))) (mCons (mC (.int (.ofNat 9))) (mCons (mC (.int (.ofNat 32))) mNil)))))) (mC (.bl true)) (mDeep (mCallG 37 1 (mCons (mCmet 0 9 2 (mCons (mVarK 6) mNil)) mNil))))) (mSeq (mUnl [4, 5] (mLc false [7] (.nm 7) (mISeqT (mTup (mCons (mC (.str [115, 101, 118, 101, 110, 51])) (mCons (mC (.str [102, 105, 118, 101, 52])) mNil)))) (mC (.bl true)) (mMake 0 8 2 4 (mCons (mOp2 oIdx (mCall true 49 0 mNil) (mVarK 7)) mNil)))) (mSeq (mSif (mOp2 oNe (mLst false (mCons (mDeep (mCallG 37 1 (mCons (mVarK 4) mNil))) (mCons (mDeep (mCallG 36 2 (mCons (mVarK 4) (mCons (mC (.int (.ofNat 7))) mNil)))) (mCons (mDeep (mCallG 37 1 (mCons (mVarK 5) mNil))) (mCons (mDeep (mCallG 36 2 (mCons (mVarK 5) (mCons (mC (.int (.ofNat 5))) mNil)))) mNil))))) (mLst false (mCons (mC (.int (.ofNat 6))) (mCons (mC (.int (.ofNat 3))) (mCons (mC (.int (.ofNat 8))) (mCons (mC (.int (.ofNat 4))) mNil)))))) (mRet (mC (.bl false))) mSkip) (mRet (mOp2 oEq (mVarK 3) (mOp2 oMul (mLst false (mCons (mC (.int (.ofNat 2))) mNil)) (mC (.int (.ofNat 4))))))))))
def t_60 : CallT := fun f => match f with
  | 38 => c_38
  | 59 => s_59
  | 9 => c_9
  | 37 => c_37
  | 49 => c_49
  | 8 => c_8
  | 36 => c_36
  | _ => fun _ _ => .bad
def c_60 : List W → Hpi → R := fun ws h => padF ws 8 fun e => retR (d_60 t_60 e h)
section
structure Fx (K : PySem.W.Frag) (mg : Str → Option Value) : Prop where
  b_len : mg "len" = none
  b_abs : mg "abs" = none
  b_sorted : mg "sorted" = none
  b_all : mg "all" = none
  b_tuple : mg "tuple" = none
  b_list : mg "list" = none
  b_int : mg "int" = none
  b_str : mg "str" = none
  b_max : mg "max" = none
  b_min : mg "min" = none
  b_range : mg "range" = none
  b_enumerate : mg "enumerate" = none
  b_dict : mg "dict" = none
  b_isinstance : mg "isinstance" = none
  b_iter : mg "iter" = none
  b_next : mg "next" = none
  b_super : mg "super" = none
  g_0 : mg "is_whole_number" = some (.ref ((TB K).fa 0))
  k_0 : PySem.W.keepIn K (.ref ((TB K).fa 0)) = true
  fd_0 : ∃ fd, FunD K "is_whole_number" "is_whole_number" (L2.defArgs st_0) (L2.defBody st_0) (L2.defScope st_0) [] [] ((TB K).fa 0) fd
  g_1 : mg "is_integer" = some (.ref ((TB K).fa 1))
  k_1 : PySem.W.keepIn K (.ref ((TB K).fa 1)) = true
  fd_1 : ∃ fd, FunD K "is_integer" "is_integer" (L2.defArgs st_1) (L2.defBody st_1) (L2.defScope st_1) [] [] ((TB K).fa 1) fd
  g_2 : mg "is_within" = some (.ref ((TB K).fa 2))
  k_2 : PySem.W.keepIn K (.ref ((TB K).fa 2)) = true
  fd_2 : ∃ fd, FunD K "is_within" "is_within" (L2.defArgs st_2) (L2.defBody st_2) (L2.defScope st_2) [] [] ((TB K).fa 2) fd
  g_3 : mg "is_renaming" = some (.ref ((TB K).fa 3))
  k_3 : PySem.W.keepIn K (.ref ((TB K).fa 3)) = true
  fd_3 : ∃ fd, FunD K "is_renaming" "is_renaming" (L2.defArgs st_3) (L2.defBody st_3) (L2.defScope st_3) [] [] ((TB K).fa 3) fd
  g_4 : mg "are_makers" = some (.ref ((TB K).fa 4))
  k_4 : PySem.W.keepIn K (.ref ((TB K).fa 4)) = true
  fd_4 : ∃ fd, FunD K "are_makers" "are_makers" (L2.defArgs st_4) (L2.defBody st_4) (L2.defScope st_4) [] [] ((TB K).fa 4) fd
  g_5 : mg "renamed" = some (.ref ((TB K).fa 5))
  k_5 : PySem.W.keepIn K (.ref ((TB K).fa 5)) = true
  fd_5 : ∃ fd, FunD K "renamed" "renamed" (L2.defArgs st_5) (L2.defBody st_5) (L2.defScope st_5) [] [] ((TB K).fa 5) fd
  g_6 : mg "all_products" = some (.ref ((TB K).fa 6))
  k_6 : PySem.W.keepIn K (.ref ((TB K).fa 6)) = true
  fd_6 : ∃ fd, FunD K "all_products" "all_products" (L2.defArgs st_6) (L2.defBody st_6) (L2.defScope st_6) [] [] ((TB K).fa 6) fd
  g_7 : mg "product_table" = some (.ref ((TB K).fa 7))
  k_7 : PySem.W.keepIn K (.ref ((TB K).fa 7)) = true
  fd_7 : ∃ fd, FunD K "product_table" "product_table" (L2.defArgs st_7) (L2.defBody st_7) (L2.defScope st_7) [] [] ((TB K).fa 7) fd
  k_8 : PySem.W.keepIn K (.ref ((TB K).fa 8)) = true
  fd_8 : ∃ fd, FunD K "__init__" "Group.__init__" (L2.defArgs st_8) (L2.defBody st_8) (L2.defScope st_8) [] [] ((TB K).fa 8) fd
  k_9 : PySem.W.keepIn K (.ref ((TB K).fa 9)) = true
  cm_9 : ∃ mc p, ClX.CRead K ((TB K).ca 0) mc ∧ ClX.CMet K ((TB K).ca 0) mc "round" p ((TB K).fa 9)
  fd_9 : ∃ fd, FunD K "round" "Group.round" (L2.defArgs st_9) (L2.defBody st_9) (L2.defScope st_9) [] [] ((TB K).fa 9) fd
  k_10 : PySem.W.keepIn K (.ref ((TB K).fa 10)) = true
  prp_10 : ∃ p, PySem.W.findIn K (.ref ((TB K).ca 0)) "size" = some (some (.ref p)) ∧ PySem.W.specialIn K (.ref p) "__get__" = some (some (.builtin "property.__get__")) ∧ PySem.W.takesIn K (.ref p) = some true ∧ ∃ rest, PySem.W.recIn K p "property" = some (.ref ((TB K).fa 10) :: rest)
  fd_10 : ∃ fd, FunD K "size" "Group.size" (L2.defArgs st_10) (L2.defBody st_10) (L2.defScope st_10) [] [] ((TB K).fa 10) fd
  g_11 : mg "order_here" = some (.ref ((TB K).fa 11))
  k_11 : PySem.W.keepIn K (.ref ((TB K).fa 11)) = true
  fd_11 : ∃ fd, FunD K "order_here" "order_here" (L2.defArgs st_11) (L2.defBody st_11) (L2.defScope st_11) [] [] ((TB K).fa 11) fd
  g_12 : mg "power_here" = some (.ref ((TB K).fa 12))
  k_12 : PySem.W.keepIn K (.ref ((TB K).fa 12)) = true
  fd_12 : ∃ fd, FunD K "power_here" "power_here" (L2.defArgs st_12) (L2.defBody st_12) (L2.defScope st_12) [] [] ((TB K).fa 12) fd
  g_13 : mg "conjugate_in" = some (.ref ((TB K).fa 13))
  k_13 : PySem.W.keepIn K (.ref ((TB K).fa 13)) = true
  fd_13 : ∃ fd, FunD K "conjugate_in" "conjugate_in" (L2.defArgs st_13) (L2.defBody st_13) (L2.defScope st_13) [] [] ((TB K).fa 13) fd
  g_14 : mg "closed_by" = some (.ref ((TB K).fa 14))
  k_14 : PySem.W.keepIn K (.ref ((TB K).fa 14)) = true
  fd_14 : ∃ fd, FunD K "closed_by" "closed_by" (L2.defArgs st_14) (L2.defBody st_14) (L2.defScope st_14) [] [] ((TB K).fa 14) fd
  g_15 : mg "moved_part_in" = some (.ref ((TB K).fa 15))
  k_15 : PySem.W.keepIn K (.ref ((TB K).fa 15)) = true
  fd_15 : ∃ fd, FunD K "moved_part_in" "moved_part_in" (L2.defArgs st_15) (L2.defBody st_15) (L2.defScope st_15) [] [] ((TB K).fa 15) fd
  g_16 : mg "normalizer_in" = some (.ref ((TB K).fa 16))
  k_16 : PySem.W.keepIn K (.ref ((TB K).fa 16)) = true
  fd_16 : ∃ fd, FunD K "normalizer_in" "normalizer_in" (L2.defArgs st_16) (L2.defBody st_16) (L2.defScope st_16) [] [] ((TB K).fa 16) fd
  g_17 : mg "centralizer_in" = some (.ref ((TB K).fa 17))
  k_17 : PySem.W.keepIn K (.ref ((TB K).fa 17)) = true
  fd_17 : ∃ fd, FunD K "centralizer_in" "centralizer_in" (L2.defArgs st_17) (L2.defBody st_17) (L2.defScope st_17) [] [] ((TB K).fa 17) fd
  g_18 : mg "prime_part_in" = some (.ref ((TB K).fa 18))
  k_18 : PySem.W.keepIn K (.ref ((TB K).fa 18)) = true
  fd_18 : ∃ fd, FunD K "prime_part_in" "prime_part_in" (L2.defArgs st_18) (L2.defBody st_18) (L2.defScope st_18) [] [] ((TB K).fa 18) fd
  g_19 : mg "require_group" = some (.ref ((TB K).fa 19))
  k_19 : PySem.W.keepIn K (.ref ((TB K).fa 19)) = true
  fd_19 : ∃ fd, FunD K "require_group" "require_group" (L2.defArgs st_19) (L2.defBody st_19) (L2.defScope st_19) [] [] ((TB K).fa 19) fd
  g_20 : mg "primes_here" = some (.ref ((TB K).fa 20))
  k_20 : PySem.W.keepIn K (.ref ((TB K).fa 20)) = true
  fd_20 : ∃ fd, FunD K "primes_here" "primes_here" (L2.defArgs st_20) (L2.defBody st_20) (L2.defScope st_20) [] [] ((TB K).fa 20) fd
  g_21 : mg "greatest_power" = some (.ref ((TB K).fa 21))
  k_21 : PySem.W.keepIn K (.ref ((TB K).fa 21)) = true
  fd_21 : ∃ fd, FunD K "greatest_power" "greatest_power" (L2.defArgs st_21) (L2.defBody st_21) (L2.defScope st_21) [] [] ((TB K).fa 21) fd
  g_22 : mg "powers_in" = some (.ref ((TB K).fa 22))
  k_22 : PySem.W.keepIn K (.ref ((TB K).fa 22)) = true
  fd_22 : ∃ fd, FunD K "powers_in" "powers_in" (L2.defArgs st_22) (L2.defBody st_22) (L2.defScope st_22) [] [] ((TB K).fa 22) fd
  g_23 : mg "do_commute" = some (.ref ((TB K).fa 23))
  k_23 : PySem.W.keepIn K (.ref ((TB K).fa 23)) = true
  fd_23 : ∃ fd, FunD K "do_commute" "do_commute" (L2.defArgs st_23) (L2.defBody st_23) (L2.defScope st_23) [] [] ((TB K).fa 23) fd
  g_24 : mg "is_bar_in" = some (.ref ((TB K).fa 24))
  k_24 : PySem.W.keepIn K (.ref ((TB K).fa 24)) = true
  fd_24 : ∃ fd, FunD K "is_bar_in" "is_bar_in" (L2.defArgs st_24) (L2.defBody st_24) (L2.defScope st_24) [] [] ((TB K).fa 24) fd
  g_25 : mg "bar_in" = some (.ref ((TB K).fa 25))
  k_25 : PySem.W.keepIn K (.ref ((TB K).fa 25)) = true
  fd_25 : ∃ fd, FunD K "bar_in" "bar_in" (L2.defArgs st_25) (L2.defBody st_25) (L2.defScope st_25) [] [] ((TB K).fa 25) fd
  g_26 : mg "is_eight" = some (.ref ((TB K).fa 26))
  k_26 : PySem.W.keepIn K (.ref ((TB K).fa 26)) = true
  fd_26 : ∃ fd, FunD K "is_eight" "is_eight" (L2.defArgs st_26) (L2.defBody st_26) (L2.defScope st_26) [] [] ((TB K).fa 26) fd
  g_27 : mg "round_entry" = some (.ref ((TB K).fa 27))
  k_27 : PySem.W.keepIn K (.ref ((TB K).fa 27)) = true
  fd_27 : ∃ fd, FunD K "round_entry" "round_entry" (L2.defArgs st_27) (L2.defBody st_27) (L2.defScope st_27) [] [] ((TB K).fa 27) fd
  g_28 : mg "eight_entry" = some (.ref ((TB K).fa 28))
  k_28 : PySem.W.keepIn K (.ref ((TB K).fa 28)) = true
  fd_28 : ∃ fd, FunD K "eight_entry" "eight_entry" (L2.defArgs st_28) (L2.defBody st_28) (L2.defScope st_28) [] [] ((TB K).fa 28) fd
  g_29 : mg "entry_for" = some (.ref ((TB K).fa 29))
  k_29 : PySem.W.keepIn K (.ref ((TB K).fa 29)) = true
  fd_29 : ∃ fd, FunD K "entry_for" "entry_for" (L2.defArgs st_29) (L2.defBody st_29) (L2.defScope st_29) [] [] ((TB K).fa 29) fd
  g_30 : mg "paper_here" = some (.ref ((TB K).fa 30))
  k_30 : PySem.W.keepIn K (.ref ((TB K).fa 30)) = true
  fd_30 : ∃ fd, FunD K "paper_here" "paper_here" (L2.defArgs st_30) (L2.defBody st_30) (L2.defScope st_30) [] [] ((TB K).fa 30) fd
  g_31 : mg "turns_in" = some (.ref ((TB K).fa 31))
  k_31 : PySem.W.keepIn K (.ref ((TB K).fa 31)) = true
  fd_31 : ∃ fd, FunD K "turns_in" "turns_in" (L2.defArgs st_31) (L2.defBody st_31) (L2.defScope st_31) [] [] ((TB K).fa 31) fd
  g_32 : mg "least_again" = some (.ref ((TB K).fa 32))
  k_32 : PySem.W.keepIn K (.ref ((TB K).fa 32)) = true
  fd_32 : ∃ fd, FunD K "least_again" "least_again" (L2.defArgs st_32) (L2.defBody st_32) (L2.defScope st_32) [] [] ((TB K).fa 32) fd
  g_33 : mg "require_prime_of" = some (.ref ((TB K).fa 33))
  k_33 : PySem.W.keepIn K (.ref ((TB K).fa 33)) = true
  fd_33 : ∃ fd, FunD K "require_prime_of" "require_prime_of" (L2.defArgs st_33) (L2.defBody st_33) (L2.defScope st_33) [] [] ((TB K).fa 33) fd
  g_34 : mg "require_no_bar" = some (.ref ((TB K).fa 34))
  k_34 : PySem.W.keepIn K (.ref ((TB K).fa 34)) = true
  fd_34 : ∃ fd, FunD K "require_no_bar" "require_no_bar" (L2.defArgs st_34) (L2.defBody st_34) (L2.defScope st_34) [] [] ((TB K).fa 34) fd
  g_35 : mg "again_paper" = some (.ref ((TB K).fa 35))
  k_35 : PySem.W.keepIn K (.ref ((TB K).fa 35)) = true
  fd_35 : ∃ fd, FunD K "again_paper" "again_paper" (L2.defArgs st_35) (L2.defBody st_35) (L2.defScope st_35) [] [] ((TB K).fa 35) fd
  g_36 : mg "prime_turns" = some (.ref ((TB K).fa 36))
  k_36 : PySem.W.keepIn K (.ref ((TB K).fa 36)) = true
  fd_36 : ∃ fd, FunD K "prime_turns" "prime_turns" (L2.defArgs st_36) (L2.defBody st_36) (L2.defScope st_36) [] [] ((TB K).fa 36) fd
  g_37 : mg "again_step" = some (.ref ((TB K).fa 37))
  k_37 : PySem.W.keepIn K (.ref ((TB K).fa 37)) = true
  fd_37 : ∃ fd, FunD K "again_step" "again_step" (L2.defArgs st_37) (L2.defBody st_37) (L2.defScope st_37) [] [] ((TB K).fa 37) fd
  g_38 : mg "_law_dice" = some (.ref ((TB K).fa 38))
  k_38 : PySem.W.keepIn K (.ref ((TB K).fa 38)) = true
  fd_38 : ∃ fd, FunD K "_law_dice" "_law_dice" (L2.defArgs st_38) (L2.defBody st_38) (L2.defScope st_38) [] [] ((TB K).fa 38) fd
  g_39 : mg "_law_roll" = some (.ref ((TB K).fa 39))
  k_39 : PySem.W.keepIn K (.ref ((TB K).fa 39)) = true
  fd_39 : ∃ fd, FunD K "_law_roll" "_law_roll" (L2.defArgs st_39) (L2.defBody st_39) (L2.defScope st_39) [] [] ((TB K).fa 39) fd
  g_40 : mg "_law_one_of" = some (.ref ((TB K).fa 40))
  k_40 : PySem.W.keepIn K (.ref ((TB K).fa 40)) = true
  fd_40 : ∃ fd, FunD K "_law_one_of" "_law_one_of" (L2.defArgs st_40) (L2.defBody st_40) (L2.defScope st_40) [] [] ((TB K).fa 40) fd
  g_41 : mg "_law_behind" = some (.ref ((TB K).fa 41))
  k_41 : PySem.W.keepIn K (.ref ((TB K).fa 41)) = true
  fd_41 : ∃ fd, FunD K "_law_behind" "_law_behind" (L2.defArgs st_41) (L2.defBody st_41) (L2.defScope st_41) [] [] ((TB K).fa 41) fd
  g_42 : mg "_law_made" = some (.ref ((TB K).fa 42))
  k_42 : PySem.W.keepIn K (.ref ((TB K).fa 42)) = true
  fd_42 : ∃ fd, FunD K "_law_made" "_law_made" (L2.defArgs st_42) (L2.defBody st_42) (L2.defScope st_42) [] [] ((TB K).fa 42) fd
  g_43 : mg "_law_group" = some (.ref ((TB K).fa 43))
  k_43 : PySem.W.keepIn K (.ref ((TB K).fa 43)) = true
  fd_43 : ∃ fd, FunD K "_law_group" "_law_group" (L2.defArgs st_43) (L2.defBody st_43) (L2.defScope st_43) [] [] ((TB K).fa 43) fd
  g_44 : mg "_law_round_moves" = some (.ref ((TB K).fa 44))
  k_44 : PySem.W.keepIn K (.ref ((TB K).fa 44)) = true
  fd_44 : ∃ fd, FunD K "_law_round_moves" "_law_round_moves" (L2.defArgs st_44) (L2.defBody st_44) (L2.defScope st_44) [] [] ((TB K).fa 44) fd
  g_45 : mg "_law_ready_moves" = some (.ref ((TB K).fa 45))
  k_45 : PySem.W.keepIn K (.ref ((TB K).fa 45)) = true
  fd_45 : ∃ fd, FunD K "_law_ready_moves" "_law_ready_moves" (L2.defArgs st_45) (L2.defBody st_45) (L2.defScope st_45) [] [] ((TB K).fa 45) fd
  g_46 : mg "_law_order" = some (.ref ((TB K).fa 46))
  k_46 : PySem.W.keepIn K (.ref ((TB K).fa 46)) = true
  fd_46 : ∃ fd, FunD K "_law_order" "_law_order" (L2.defArgs st_46) (L2.defBody st_46) (L2.defScope st_46) [] [] ((TB K).fa 46) fd
  g_47 : mg "_law_part" = some (.ref ((TB K).fa 47))
  k_47 : PySem.W.keepIn K (.ref ((TB K).fa 47)) = true
  fd_47 : ∃ fd, FunD K "_law_part" "_law_part" (L2.defArgs st_47) (L2.defBody st_47) (L2.defScope st_47) [] [] ((TB K).fa 47) fd
  g_48 : mg "_law_gcd" = some (.ref ((TB K).fa 48))
  k_48 : PySem.W.keepIn K (.ref ((TB K).fa 48)) = true
  fd_48 : ∃ fd, FunD K "_law_gcd" "_law_gcd" (L2.defArgs st_48) (L2.defBody st_48) (L2.defScope st_48) [] [] ((TB K).fa 48) fd
  g_49 : mg "_law_again_moves" = some (.ref ((TB K).fa 49))
  k_49 : PySem.W.keepIn K (.ref ((TB K).fa 49)) = true
  fd_49 : ∃ fd, FunD K "_law_again_moves" "_law_again_moves" (L2.defArgs st_49) (L2.defBody st_49) (L2.defScope st_49) [] [] ((TB K).fa 49) fd
  g_50 : mg "_law_again_group" = some (.ref ((TB K).fa 50))
  k_50 : PySem.W.keepIn K (.ref ((TB K).fa 50)) = true
  fd_50 : ∃ fd, FunD K "_law_again_group" "_law_again_group" (L2.defArgs st_50) (L2.defBody st_50) (L2.defScope st_50) [] [] ((TB K).fa 50) fd
  g_51 : mg "_law_primes_of" = some (.ref ((TB K).fa 51))
  k_51 : PySem.W.keepIn K (.ref ((TB K).fa 51)) = true
  fd_51 : ∃ fd, FunD K "_law_primes_of" "_law_primes_of" (L2.defArgs st_51) (L2.defBody st_51) (L2.defScope st_51) [] [] ((TB K).fa 51) fd
  g_52 : mg "_law_is_member" = some (.ref ((TB K).fa 52))
  k_52 : PySem.W.keepIn K (.ref ((TB K).fa 52)) = true
  fd_52 : ∃ fd, FunD K "_law_is_member" "_law_is_member" (L2.defArgs st_52) (L2.defBody st_52) (L2.defScope st_52) [] [] ((TB K).fa 52) fd
  g_53 : mg "_law_is_bar" = some (.ref ((TB K).fa 53))
  k_53 : PySem.W.keepIn K (.ref ((TB K).fa 53)) = true
  fd_53 : ∃ fd, FunD K "_law_is_bar" "_law_is_bar" (L2.defArgs st_53) (L2.defBody st_53) (L2.defScope st_53) [] [] ((TB K).fa 53) fd
  g_54 : mg "_law_has_bar" = some (.ref ((TB K).fa 54))
  k_54 : PySem.W.keepIn K (.ref ((TB K).fa 54)) = true
  fd_54 : ∃ fd, FunD K "_law_has_bar" "_law_has_bar" (L2.defArgs st_54) (L2.defBody st_54) (L2.defScope st_54) [] [] ((TB K).fa 54) fd
  g_55 : mg "_law_prime_part" = some (.ref ((TB K).fa 55))
  k_55 : PySem.W.keepIn K (.ref ((TB K).fa 55)) = true
  fd_55 : ∃ fd, FunD K "_law_prime_part" "_law_prime_part" (L2.defArgs st_55) (L2.defBody st_55) (L2.defScope st_55) [] [] ((TB K).fa 55) fd
  g_56 : mg "_law_turns" = some (.ref ((TB K).fa 56))
  k_56 : PySem.W.keepIn K (.ref ((TB K).fa 56)) = true
  fd_56 : ∃ fd, FunD K "_law_turns" "_law_turns" (L2.defArgs st_56) (L2.defBody st_56) (L2.defScope st_56) [] [] ((TB K).fa 56) fd
  g_57 : mg "_law_step_of" = some (.ref ((TB K).fa 57))
  k_57 : PySem.W.keepIn K (.ref ((TB K).fa 57)) = true
  fd_57 : ∃ fd, FunD K "_law_step_of" "_law_step_of" (L2.defArgs st_57) (L2.defBody st_57) (L2.defScope st_57) [] [] ((TB K).fa 57) fd
  g_58 : mg "_law_told_step" = some (.ref ((TB K).fa 58))
  k_58 : PySem.W.keepIn K (.ref ((TB K).fa 58)) = true
  fd_58 : ∃ fd, FunD K "_law_told_step" "_law_told_step" (L2.defArgs st_58) (L2.defBody st_58) (L2.defScope st_58) [] [] ((TB K).fa 58) fd
  g_59 : mg "_law_right" = some (.ref ((TB K).fa 59))
  k_59 : PySem.W.keepIn K (.ref ((TB K).fa 59)) = true
  fd_59 : ∃ fd, FunD K "_law_right" "_law_right" (L2.defArgs st_59) (L2.defBody st_59) (L2.defScope st_59) [] [] ((TB K).fa 59) fd
  g_60 : mg "law" = some (.ref ((TB K).fa 60))
  k_60 : PySem.W.keepIn K (.ref ((TB K).fa 60)) = true
  fd_60 : ∃ fd, FunD K "law" "law" (L2.defArgs st_60) (L2.defBody st_60) (L2.defScope st_60) [] [] ((TB K).fa 60) fd
  gc_0 : mg "Group" = some (.ref ((TB K).ca 0))
  scls_0 : SlX.SCls K ((TB K).ca 0)
  mk_0 : L2.Mk K ((TB K).ca 0) ((TB K).fa 8)
  fld_0_0 : ∀ {X : Cx}, X.K = K → Fld (TB K) X 0 "own_inverses" 0
  fld_0_1 : ∀ {X : Cx}, X.K = K → Fld (TB K) X 0 "own_members" 1
  fld_0_2 : ∀ {X : Cx}, X.K = K → Fld (TB K) X 0 "own_moves" 2
  fld_0_3 : ∀ {X : Cx}, X.K = K → Fld (TB K) X 0 "own_table" 3
  gc_1 : mg "ClosedMoves" = some (.ref ((TB K).ca 1))
  fld_1_0 : ∀ {X : Cx}, X.K = K → Fld (TB K) X 1 "own_closed" 0
  m_lcm : mg "lcm" = some (.builtin "math.lcm")
  gc_2 : mg "Refused" = some (.ref ((TB K).ca 2))
  xok_2 : XOk K ((TB K).ca 2) "reason"
  exm_2 : PySem.W.exmOne K (.ref ((TB K).ca 2)) (.ref ((TB K).ca 2)) = some true
  isi_int : ∀ {X : Cx}, X.K = K → X.mg = mg → Gl X "int" → Isi (TB K) X "int" (.type "int") (.ty "int") kit_int
  isi_bool : ∀ {X : Cx}, X.K = K → X.mg = mg → Gl X "bool" → Isi (TB K) X "bool" (.type "bool") (.ty "bool") kit_bool
  isi_tuple : ∀ {X : Cx}, X.K = K → X.mg = mg → Gl X "tuple" → Isi (TB K) X "tuple" (.type "tuple") (.ty "tuple") kit_tuple
  isi_Group : ∀ {X : Cx}, X.K = K → X.mg = mg → Gl X "Group" → Isi (TB K) X "Group" (.ref ((TB K).ca 0)) (.ref ((TB K).ca 0)) kit_Group
  isi_ClosedMoves : ∀ {X : Cx}, X.K = K → X.mg = mg → Gl X "ClosedMoves" → Isi (TB K) X "ClosedMoves" (.ref ((TB K).ca 1)) (.ref ((TB K).ca 1)) kit_ClosedMoves
  c_SIXTY_DIGITS : ∀ {X : Cx}, X.K = K → X.mg = mg → Glo (TB K) X "SIXTY_DIGITS" (.int (.ofNat 1000000000000000000000000000000000000000000000000000000000000))
  c_MAX_PLACES : ∀ {X : Cx}, X.K = K → X.mg = mg → Glo (TB K) X "MAX_PLACES" (.int (.ofNat 32))
  c_MAX_SIZE : ∀ {X : Cx}, X.K = K → X.mg = mg → Glo (TB K) X "MAX_SIZE" (.int (.ofNat 32))
  c_MOST_MAKERS : ∀ {X : Cx}, X.K = K → X.mg = mg → Glo (TB K) X "MOST_MAKERS" (.int (.ofNat 4))
  c_LEAST_EIGHT : ∀ {X : Cx}, X.K = K → X.mg = mg → Glo (TB K) X "LEAST_EIGHT" (.int (.ofNat 4))
  c_ROUND_WORD : ∀ {X : Cx}, X.K = K → X.mg = mg → Glo (TB K) X "ROUND_WORD" (.str [114, 111, 117, 110, 100])
  c_EIGHT_WORD : ∀ {X : Cx}, X.K = K → X.mg = mg → Glo (TB K) X "EIGHT_WORD" (.str [101, 105, 103, 104, 116])
  c_BAR_REASON : ∀ {X : Cx}, X.K = K → X.mg = mg → Glo (TB K) X "BAR_REASON" (.ktp [.str [98, 97, 114]])
  c_SMALL_PRIMES : ∀ {X : Cx}, X.K = K → X.mg = mg → Glo (TB K) X "SMALL_PRIMES" (.ktp [.int (.ofNat 2), .int (.ofNat 3), .int (.ofNat 5), .int (.ofNat 7), .int (.ofNat 11), .int (.ofNat 13), .int (.ofNat 17), .int (.ofNat 19), .int (.ofNat 23), .int (.ofNat 29), .int (.ofNat 31)])
  itr : ∀ {X : Cx} {k : Nat}, X.K = K → X.mg = mg → Room k X.A → 1 ≤ k → Itr_ (TB K) X 0 1
structure Zx (P : Program) (K : PySem.W.Frag) (mg : Str → Option Value) (base : Heap) : Prop where
  tb_25 : GxR.TabB base mg (He.cT K ("bar_in", none)).1 (He.cT K ("bar_in", none)).2
  tb_27 : GxR.TabB base mg (He.cT K ("round_entry", none)).1 (He.cT K ("round_entry", none)).2
  tb_28 : GxR.TabB base mg (He.cT K ("eight_entry", none)).1 (He.cT K ("eight_entry", none)).2
  sup_2 : SupF P K ((TB K).ca 2) (He.fAd K ("Refused", some "__init__")) "ArithmeticError" "ArithmeticError.__new__" "ArithmeticError.__init__" [.type "ArithmeticError", .type "Exception", .type "BaseException", .type "object"] "reason" "Refused.__init__" (L2.defArgs sy_2) (L2.defBody sy_2) (L2.defScope sy_2)
  htop : (P.main.scope.names.lookup ("super" : Str)).isSome = false
end
theorem cmok_2 {K : PySem.W.Frag} {mg : Str → Option Value} (F : Fx K mg) : ∀ k b, cm_2 k = some b → PySem.W.exmOne K (.ref ((TB K).ca k)) (.ref ((TB K).ca 2)) = some b := fun k b e => by
  unfold cm_2 at e
  split at e
  · cases e
    exact F.exm_2
  · cases e
theorem cmx_2 {K : PySem.W.Frag} {mg : Str → Option Value} (F : Fx K mg) : ∀ k, cm_2 k = some true → XOk K ((TB K).ca k) "reason" ∧ (TB K).xf k = "reason" := fun k e => by
  unfold cm_2 at e
  split at e
  · exact ⟨F.xok_2, rfl⟩
  · cases e
theorem pmk_2 {X : Cx} {k : Nat} {e : Expr} {te : TE} {p pos : Pos} (F : Fx X.K X.mg) (Z : Zx X.prog X.K X.mg X.base) (hr : Room (k + 1) X.A) (hg : Gl X "Refused") (he : PE X e te) (hs : starEach [e] X.env = (false, eval e X.env) :: starEach [] X.env := by rfl) :
    PMk X (.Call (.Name "Refused" p) [e] [] pos) (fun σ H Q => te σ H fun v H1 => ∀ dx, H1 dx = Option.none → Q (.ref ((TB X.K).ca 2)) (some dx) (upd H1 dx (.xd [("reason", v)]))) :=
  pmk_sup Z.sup_2 PySem.F.excBase_ArithmeticError PySem.W.kxs_ArithmeticError PySem.F.store_ArithmeticError F.b_super Z.htop hr (fun _ _ _ _ _ _ _ _ _ => by first | rfl | kernel_rfl) rfl rfl rfl (by decide) rfl rfl (by decide) rfl rfl _ rfl rfl (fun _ => by rfl) rfl rfl hg F.gc_2 he hs rfl
end
end VA
set_option Elab.async false
set_option linter.all false
set_option maxRecDepth 1000000
set_option maxHeartbeats 0
namespace VA
open PySem
noncomputable section
theorem ev_7 : okIs (c_7 [ka_7] ⟨0, []⟩) kb_7 = true := by decide +kernel
theorem ev_59_0 : endsL (10 ^ 600) 2147482583 40 (goR (db_59 t_59) (pickR in_59 0)) = true := by decide +kernel
theorem ev_59_1 : endsL (10 ^ 600) 2147482583 40 (goR (db_59 t_59) (pickR in_59 1)) = true := by decide +kernel
theorem ev_59_2 : endsL (10 ^ 600) 2147482583 40 (goR (db_59 t_59) (pickR in_59 2)) = true := by decide +kernel
theorem ev_59_3 : endsL (10 ^ 600) 2147482583 40 (goR (db_59 t_59) (pickR in_59 3)) = true := by decide +kernel
theorem ev_59_4 : endsL (10 ^ 600) 2147482583 40 (goR (db_59 t_59) (pickR in_59 4)) = true := by decide +kernel
theorem ev_59_5 : endsL (10 ^ 600) 2147482583 40 (goR (db_59 t_59) (pickR in_59 5)) = true := by decide +kernel
theorem ev_59_6 : endsL (10 ^ 600) 2147482583 40 (goR (db_59 t_59) (pickR in_59 6)) = true := by decide +kernel
theorem ev_59_7 : endsL (10 ^ 600) 2147482583 40 (goR (db_59 t_59) (pickR in_59 7)) = true := by decide +kernel
theorem ev_59_8 : endsL (10 ^ 600) 2147482583 40 (goR (db_59 t_59) (pickR in_59 8)) = true := by decide +kernel
theorem ev_59_9 : endsL (10 ^ 600) 2147482583 40 (goR (db_59 t_59) (pickR in_59 9)) = true := by decide +kernel
theorem ev_59_10 : endsL (10 ^ 600) 2147482583 40 (goR (db_59 t_59) (pickR in_59 10)) = true := by decide +kernel
theorem ev_59_11 : endsL (10 ^ 600) 2147482583 40 (goR (db_59 t_59) (pickR in_59 11)) = true := by decide +kernel
theorem ev_59_12 : endsL (10 ^ 600) 2147482583 40 (goR (db_59 t_59) (pickR in_59 12)) = true := by decide +kernel
theorem ev_59_13 : endsL (10 ^ 600) 2147482583 40 (goR (db_59 t_59) (pickR in_59 13)) = true := by decide +kernel
theorem ev_59_14 : endsL (10 ^ 600) 2147482583 40 (goR (db_59 t_59) (pickR in_59 14)) = true := by decide +kernel
theorem ev_59_15 : endsL (10 ^ 600) 2147482583 40 (goR (db_59 t_59) (pickR in_59 15)) = true := by decide +kernel
theorem ev_59_16 : endsL (10 ^ 600) 2147482583 40 (goR (db_59 t_59) (pickR in_59 16)) = true := by decide +kernel
theorem ev_59_17 : endsL (10 ^ 600) 2147482583 40 (goR (db_59 t_59) (pickR in_59 17)) = true := by decide +kernel
theorem ev_59_18 : endsL (10 ^ 600) 2147482583 40 (goR (db_59 t_59) (pickR in_59 18)) = true := by decide +kernel
theorem ev_59_19 : endsL (10 ^ 600) 2147482583 40 (goR (db_59 t_59) (pickR in_59 19)) = true := by decide +kernel
theorem ev_59_20 : endsL (10 ^ 600) 2147482583 40 (goR (db_59 t_59) (pickR in_59 20)) = true := by decide +kernel
theorem ln_59 : Nat.ble (spine in_59) 21 = true := by decide +kernel
theorem ev_59 : endsL (10 ^ 600) 2147482583 40 (leave (c_59 [.loc 0] (diceH (10 ^ 600) 2147482583 1))) = true := by
  have same : c_59 [.loc 0] (diceH (10 ^ 600) 2147482583 1) = retR (thenR in_59 (db_59 t_59)) := by
    unfold c_59
    rw [padF_eq]
    rfl
  rw [same]
  refine ends_by (k := db_59 t_59) ln_59 fun i lt => ?_
  match i, lt with
  | 0, _ => exact ev_59_0
  | 1, _ => exact ev_59_1
  | 2, _ => exact ev_59_2
  | 3, _ => exact ev_59_3
  | 4, _ => exact ev_59_4
  | 5, _ => exact ev_59_5
  | 6, _ => exact ev_59_6
  | 7, _ => exact ev_59_7
  | 8, _ => exact ev_59_8
  | 9, _ => exact ev_59_9
  | 10, _ => exact ev_59_10
  | 11, _ => exact ev_59_11
  | 12, _ => exact ev_59_12
  | 13, _ => exact ev_59_13
  | 14, _ => exact ev_59_14
  | 15, _ => exact ev_59_15
  | 16, _ => exact ev_59_16
  | 17, _ => exact ev_59_17
  | 18, _ => exact ev_59_18
  | 19, _ => exact ev_59_19
  | 20, _ => exact ev_59_20
  | _ + 21, lt => omega
theorem evb_59_0 : endsL (10 ^ 600) 2147482583 80 (goR (db_59 t_59) (pickR inb_59 0)) = true := by decide +kernel
theorem evb_59_1 : endsL (10 ^ 600) 2147482583 80 (goR (db_59 t_59) (pickR inb_59 1)) = true := by decide +kernel
theorem evb_59_2 : endsL (10 ^ 600) 2147482583 80 (goR (db_59 t_59) (pickR inb_59 2)) = true := by decide +kernel
theorem evb_59_3 : endsL (10 ^ 600) 2147482583 80 (goR (db_59 t_59) (pickR inb_59 3)) = true := by decide +kernel
theorem evb_59_4 : endsL (10 ^ 600) 2147482583 80 (goR (db_59 t_59) (pickR inb_59 4)) = true := by decide +kernel
theorem evb_59_5 : endsL (10 ^ 600) 2147482583 80 (goR (db_59 t_59) (pickR inb_59 5)) = true := by decide +kernel
theorem evb_59_6 : endsL (10 ^ 600) 2147482583 80 (goR (db_59 t_59) (pickR inb_59 6)) = true := by decide +kernel
theorem evb_59_7 : endsL (10 ^ 600) 2147482583 80 (goR (db_59 t_59) (pickR inb_59 7)) = true := by decide +kernel
theorem evb_59_8 : endsL (10 ^ 600) 2147482583 80 (goR (db_59 t_59) (pickR inb_59 8)) = true := by decide +kernel
theorem evb_59_9 : endsL (10 ^ 600) 2147482583 80 (goR (db_59 t_59) (pickR inb_59 9)) = true := by decide +kernel
theorem evb_59_10 : endsL (10 ^ 600) 2147482583 80 (goR (db_59 t_59) (pickR inb_59 10)) = true := by decide +kernel
theorem evb_59_11 : endsL (10 ^ 600) 2147482583 80 (goR (db_59 t_59) (pickR inb_59 11)) = true := by decide +kernel
theorem evb_59_12 : endsL (10 ^ 600) 2147482583 80 (goR (db_59 t_59) (pickR inb_59 12)) = true := by decide +kernel
theorem evb_59_13 : endsL (10 ^ 600) 2147482583 80 (goR (db_59 t_59) (pickR inb_59 13)) = true := by decide +kernel
theorem evb_59_14 : endsL (10 ^ 600) 2147482583 80 (goR (db_59 t_59) (pickR inb_59 14)) = true := by decide +kernel
theorem evb_59_15 : endsL (10 ^ 600) 2147482583 80 (goR (db_59 t_59) (pickR inb_59 15)) = true := by decide +kernel
theorem evb_59_16 : endsL (10 ^ 600) 2147482583 80 (goR (db_59 t_59) (pickR inb_59 16)) = true := by decide +kernel
theorem evb_59_17 : endsL (10 ^ 600) 2147482583 80 (goR (db_59 t_59) (pickR inb_59 17)) = true := by decide +kernel
theorem evb_59_18 : endsL (10 ^ 600) 2147482583 80 (goR (db_59 t_59) (pickR inb_59 18)) = true := by decide +kernel
theorem evb_59_19 : endsL (10 ^ 600) 2147482583 80 (goR (db_59 t_59) (pickR inb_59 19)) = true := by decide +kernel
theorem evb_59_20 : endsL (10 ^ 600) 2147482583 80 (goR (db_59 t_59) (pickR inb_59 20)) = true := by decide +kernel
theorem lnb_59 : Nat.ble (spine inb_59) 21 = true := by decide +kernel
theorem evb_59 : endsL (10 ^ 600) 2147482583 80 (leave (c_59 [.loc 0] (diceH (10 ^ 600) 2147482583 40))) = true := by
  have same : c_59 [.loc 0] (diceH (10 ^ 600) 2147482583 40) = retR (thenR inb_59 (db_59 t_59)) := by
    unfold c_59
    rw [padF_eq]
    rfl
  rw [same]
  refine ends_by (k := db_59 t_59) lnb_59 fun i lt => ?_
  match i, lt with
  | 0, _ => exact evb_59_0
  | 1, _ => exact evb_59_1
  | 2, _ => exact evb_59_2
  | 3, _ => exact evb_59_3
  | 4, _ => exact evb_59_4
  | 5, _ => exact evb_59_5
  | 6, _ => exact evb_59_6
  | 7, _ => exact evb_59_7
  | 8, _ => exact evb_59_8
  | 9, _ => exact evb_59_9
  | 10, _ => exact evb_59_10
  | 11, _ => exact evb_59_11
  | 12, _ => exact evb_59_12
  | 13, _ => exact evb_59_13
  | 14, _ => exact evb_59_14
  | 15, _ => exact evb_59_15
  | 16, _ => exact evb_59_16
  | 17, _ => exact evb_59_17
  | 18, _ => exact evb_59_18
  | 19, _ => exact evb_59_19
  | 20, _ => exact evb_59_20
  | _ + 21, lt => omega
end
end VA
set_option Elab.async false
set_option linter.all false
set_option maxRecDepth 100000
set_option maxHeartbeats 8000000
namespace VA
noncomputable section
open PySem PySem.Spec PyProof.Rows L2 Srt
theorem sc_0 : FnScope N_0 ["value"] (L2.defScope st_0) := ⟨rfl, rfl, rfl, by decide +kernel, rfl, by decide +kernel, by decide +kernel⟩
theorem w_0 {P : Program} {w : World} {K : PySem.W.Frag} {mg : Str → Option Value} {base : Heap} (F : Fx K mg) (Z : Zx P K mg base) : ∃ fd, FnOk P w K mg base (L2.CX P w) 1 ((TB K).fa 0) fd ["value"] (spC K (TB K) (fun _ => c_0) 0 1) ∧ Binds K fd ["value"] [] ∧ (["value"] : List Str).length = 1 := by
  obtain ⟨fd, FD⟩ := F.fd_0
  refine ⟨fd, fn_ok (ca := t_0) (ca' := fun _ => c_0) FD sc_0 rfl (fun ws h => padF_eq _ _ _) ?_, FD.bindsN fun _ _ _ _ _ _ us hl => match us, hl with | [_], _ => rfl, rfl⟩
  intro cdv A outer s H E hr
  exact (SSs.one (SS.ret (SE.and (SE.isi (F.isi_int rfl rfl rfl) rfl F.b_isinstance (C.varK rfl rfl rfl rfl) rfl rfl rfl) (SE.one (SE.not (SE.isi (F.isi_bool rfl rfl rfl) rfl F.b_isinstance (C.varK rfl rfl rfl rfl) rfl rfl rfl))))))
theorem sc_1 : FnScope N_1 ["value"] (L2.defScope st_1) := ⟨rfl, rfl, rfl, by decide +kernel, rfl, by decide +kernel, by decide +kernel⟩
theorem w_1 {P : Program} {w : World} {K : PySem.W.Frag} {mg : Str → Option Value} {base : Heap} (F : Fx K mg) (Z : Zx P K mg base) : ∃ fd, FnOk P w K mg base (L2.CX P w) 2 ((TB K).fa 1) fd ["value"] (spC K (TB K) (fun _ => c_1) 1 1) ∧ Binds K fd ["value"] [] ∧ (["value"] : List Str).length = 1 := by
  obtain ⟨fd, FD⟩ := F.fd_1
  refine ⟨fd, fn_ok (ca := t_1) (ca' := fun _ => c_1) FD sc_1 rfl (fun ws h => padF_eq _ _ _) ?_, FD.bindsN fun _ _ _ _ _ _ us hl => match us, hl with | [_], _ => rfl, rfl⟩
  intro cdv A outer s H E hr
  exact (SSs.one (SS.ret (SE.and (SE.deep (SE.callP (cal_of (w_0 F Z) rfl F.g_0 F.k_0 hr (by decide)) rfl (SA.cons (C.varK rfl rfl rfl rfl) SA.nil rfl) rfl rfl rfl)) (SE.one (SE.cmp op_lt g_lt (B.abs rfl F.b_abs (SA.cons (C.varK rfl rfl rfl rfl) SA.nil rfl) rfl) (SE.glob (F.c_SIXTY_DIGITS rfl rfl) rfl rfl) rfl)))))
theorem sc_2 : FnScope N_2 ["value", "least", "most"] (L2.defScope st_2) := ⟨rfl, rfl, rfl, by decide +kernel, rfl, by decide +kernel, by decide +kernel⟩
theorem w_2 {P : Program} {w : World} {K : PySem.W.Frag} {mg : Str → Option Value} {base : Heap} (F : Fx K mg) (Z : Zx P K mg base) : ∃ fd, FnOk P w K mg base (L2.CX P w) 2 ((TB K).fa 2) fd ["value", "least", "most"] (spC K (TB K) (fun _ => c_2) 2 3) ∧ Binds K fd ["value", "least", "most"] [] ∧ (["value", "least", "most"] : List Str).length = 3 := by
  obtain ⟨fd, FD⟩ := F.fd_2
  refine ⟨fd, fn_ok (ca := t_2) (ca' := fun _ => c_2) FD sc_2 rfl (fun ws h => padF_eq _ _ _) ?_, FD.bindsN fun _ _ _ _ _ _ us hl => match us, hl with | [_, _, _], _ => rfl, rfl⟩
  intro cdv A outer s H E hr
  exact (SSs.one (SS.ret (SE.and (SE.deep (SE.callP (cal_of (w_0 F Z) rfl F.g_0 F.k_0 hr (by decide)) rfl (SA.cons (C.varK rfl rfl rfl rfl) SA.nil rfl) rfl rfl rfl)) (SE.one (SE.chain op_le g_le op_le g_le (C.varK rfl rfl rfl rfl) (C.varK rfl rfl rfl rfl) (C.varK rfl rfl rfl rfl) rfl)))))
theorem sc_3 : FnScope N_3 ["value"] (L2.defScope st_3) := ⟨rfl, rfl, rfl, by decide +kernel, rfl, by decide +kernel, by decide +kernel⟩
theorem w_3 {P : Program} {w : World} {K : PySem.W.Frag} {mg : Str → Option Value} {base : Heap} (F : Fx K mg) (Z : Zx P K mg base) : ∃ fd, FnOk P w K mg base (L2.CX P w) 3 ((TB K).fa 3) fd ["value"] (spC K (TB K) (fun _ => c_3) 3 1) ∧ Binds K fd ["value"] [] ∧ (["value"] : List Str).length = 1 := by
  obtain ⟨fd, FD⟩ := F.fd_3
  refine ⟨fd, fn_ok (ca := t_3) (ca' := fun _ => c_3) FD sc_3 rfl (fun ws h => padF_eq _ _ _) ?_, FD.bindsN fun _ _ _ _ _ _ us hl => match us, hl with | [_], _ => rfl, rfl⟩
  intro cdv A outer s H E hr
  exact (SSs.cons (SS.if_ (SW.st (SW.or (ST.not (ST.val (SE.isi (F.isi_tuple rfl rfl rfl) rfl F.b_isinstance (C.varK rfl rfl rfl rfl) rfl rfl rfl) fun _ => rfl)) (SW.one (ST.not (ST.chain op_le g_le op_le g_le C.int (B.len rfl F.b_len (SA.cons (C.varK rfl rfl rfl rfl) SA.nil rfl) rfl) (SE.glob (F.c_MAX_PLACES rfl rfl) rfl rfl) rfl))))) (SSs.one (SS.ret C.bl)) SSs.nil) (SSs.one (SS.ret (SE.and (B.all rfl rfl F.b_all (SA.cons (SE.lc rfl sc_3.nd (blkOk_by (own := [("place", 1)]) rfl) (by decide) (SI.seq (C.varK rfl rfl rfl rfl)) (fun _ _ _ _ _ => (G.nm sc_3.nd rfl rfl (.inr rfl))) (fun _ _ _ _ _ => STs.nil) (fun _ _ _ _ _ => (SE.deep (SE.callP (cal_of (w_1 F Z) rfl F.g_1 F.k_1 hr (by decide)) rfl (SA.cons (C.varK rfl rfl rfl rfl) SA.nil rfl) rfl rfl rfl))) fun _ => rfl) SA.nil rfl) rfl) (SE.one (SE.cmp (op_eqD (hu64_ hr)) g_eq (B.sorted rfl rfl F.b_sorted (SA.cons (C.varK rfl rfl rfl rfl) SA.nil rfl) rfl) (SE.listRg rfl rfl F.b_list rfl F.b_range (B.len rfl F.b_len (SA.cons (C.varK rfl rfl rfl rfl) SA.nil rfl) rfl) rfl rfl) rfl))))))
theorem sc_4 : FnScope N_4 ["value"] (L2.defScope st_4) := ⟨rfl, rfl, rfl, by decide +kernel, rfl, by decide +kernel, by decide +kernel⟩
theorem w_4 {P : Program} {w : World} {K : PySem.W.Frag} {mg : Str → Option Value} {base : Heap} (F : Fx K mg) (Z : Zx P K mg base) : ∃ fd, FnOk P w K mg base (L2.CX P w) 4 ((TB K).fa 4) fd ["value"] (spC K (TB K) (fun _ => c_4) 4 1) ∧ Binds K fd ["value"] [] ∧ (["value"] : List Str).length = 1 := by
  obtain ⟨fd, FD⟩ := F.fd_4
  refine ⟨fd, fn_ok (ca := t_4) (ca' := fun _ => c_4) FD sc_4 rfl (fun ws h => padF_eq _ _ _) ?_, FD.bindsN fun _ _ _ _ _ _ us hl => match us, hl with | [_], _ => rfl, rfl⟩
  intro cdv A outer s H E hr
  exact (SSs.cons (SS.if_ (SW.st (SW.or (ST.not (ST.val (SE.isi (F.isi_tuple rfl rfl rfl) rfl F.b_isinstance (C.varK rfl rfl rfl rfl) rfl rfl rfl) fun _ => rfl)) (SW.one (ST.not (ST.chain op_le g_le op_le g_le C.int (B.len rfl F.b_len (SA.cons (C.varK rfl rfl rfl rfl) SA.nil rfl) rfl) (SE.glob (F.c_MOST_MAKERS rfl rfl) rfl rfl) rfl))))) (SSs.one (SS.ret C.bl)) SSs.nil) (SSs.one (SS.ret (B.all rfl rfl F.b_all (SA.cons (SE.lc rfl sc_4.nd (blkOk_by (own := [("one", 1)]) rfl) (by decide) (SI.seq (C.varK rfl rfl rfl rfl)) (fun _ _ _ _ _ => (G.nm sc_4.nd rfl rfl (.inr rfl))) (fun _ _ _ _ _ => STs.nil) (fun _ _ _ _ _ => (SE.and (SE.deep (SE.callP (cal_of (w_3 F Z) rfl F.g_3 F.k_3 hr (by decide)) rfl (SA.cons (C.varK rfl rfl rfl rfl) SA.nil rfl) rfl rfl rfl)) (SE.one (SE.cmp (op_eqD (hu64_ hr)) g_eq (B.len rfl F.b_len (SA.cons (C.varK rfl rfl rfl rfl) SA.nil rfl) rfl) (B.len rfl F.b_len (SA.cons (SE.idx (hu_ hr) (C.varK rfl rfl rfl rfl) C.int fun _ _ => rfl) SA.nil rfl) rfl) rfl)))) fun _ => rfl) SA.nil rfl) rfl))))
theorem sc_5 : FnScope N_5 ["one", "other"] (L2.defScope st_5) := ⟨rfl, rfl, rfl, by decide +kernel, rfl, by decide +kernel, by decide +kernel⟩
theorem w_5 {P : Program} {w : World} {K : PySem.W.Frag} {mg : Str → Option Value} {base : Heap} (F : Fx K mg) (Z : Zx P K mg base) : ∃ fd, FnOk P w K mg base (L2.CX P w) 1 ((TB K).fa 5) fd ["one", "other"] (spC K (TB K) (fun _ => c_5) 5 2) ∧ Binds K fd ["one", "other"] [] ∧ (["one", "other"] : List Str).length = 2 := by
  obtain ⟨fd, FD⟩ := F.fd_5
  refine ⟨fd, fn_ok (ca := t_5) (ca' := fun _ => c_5) FD sc_5 rfl (fun ws h => padF_eq _ _ _) ?_, FD.bindsN fun _ _ _ _ _ _ us hl => match us, hl with | [_, _], _ => rfl, rfl⟩
  intro cdv A outer s H E hr
  exact (SSs.one (SS.ret (B.tuple rfl F.b_tuple (SA.cons (SE.lc rfl sc_5.nd (blkOk_by (own := [("place", 2)]) rfl) (by decide) (SI.seq (C.varK rfl rfl rfl rfl)) (fun _ _ _ _ _ => (G.nm sc_5.nd rfl rfl (.inr rfl))) (fun _ _ _ _ _ => STs.nil) (fun _ _ _ _ _ => (SE.idx (hu_ hr) (C.varK rfl rfl rfl rfl) (C.varK rfl rfl rfl rfl) fun _ _ => rfl)) fun _ => rfl) SA.nil rfl) rfl)))
end
end VA
set_option Elab.async false
set_option linter.all false
set_option maxRecDepth 100000
set_option maxHeartbeats 8000000
namespace VA
noncomputable section
open PySem PySem.Spec PyProof.Rows L2 Srt
theorem sc_6 : FnScope N_6 ["makers"] (L2.defScope st_6) := ⟨rfl, rfl, rfl, by decide +kernel, rfl, by decide +kernel, by decide +kernel⟩
theorem w_6 {P : Program} {w : World} {K : PySem.W.Frag} {mg : Str → Option Value} {base : Heap} (F : Fx K mg) (Z : Zx P K mg base) : ∃ fd, FnOk P w K mg base (L2.CX P w) 2 ((TB K).fa 6) fd ["makers"] (spC K (TB K) (fun _ => c_6) 6 1) ∧ Binds K fd ["makers"] [] ∧ (["makers"] : List Str).length = 1 := by
  obtain ⟨fd, FD⟩ := F.fd_6
  refine ⟨fd, fn_ok (ca := t_6) (ca' := fun _ => c_6) FD sc_6 rfl (fun ws h => padF_eq _ _ _) ?_, FD.bindsN fun _ _ _ _ _ _ us hl => match us, hl with | [_], _ => rfl, rfl⟩
  intro cdv A outer s H E hr
  exact (SSs.cons (SS.asg (SE.dispT (hu_ hr) (SPs.cons (SE.tupRg rfl rfl F.b_tuple rfl F.b_range (B.len rfl F.b_len (SA.cons (SE.idx (hu_ hr) (C.varK rfl rfl rfl rfl) C.int fun _ _ => rfl) SA.nil rfl) rfl) rfl rfl) C.bl SPs.nil) rfl rfl (by simp) (by simp)) (G.nm sc_6.nd rfl rfl (.inl rfl)) rfl rfl rfl) (SSs.cons (SS.asg (B.list rfl rfl F.b_list (SA.cons (C.varK rfl rfl rfl rfl) SA.nil rfl) rfl) (G.nm sc_6.nd rfl rfl (.inl rfl)) rfl rfl rfl) (SSs.cons (SS.while_ (passes_of rfl) (ST.cmp (op_neD (hu64_ hr)) g_ne (C.varK rfl rfl rfl rfl) (SE.lst SA.nil) rfl) (SSs.cons (SS.setDc2 (hu_ hr) rfl sc_6.nd rfl rfl (blkOk_by (own := [("maker", 4), ("one", 5)]) rfl) (by decide) (by decide) (by decide) (sw_any (.inr ⟨_, _, rfl⟩) rfl rfl rfl rfl) (SI.seq (C.varK rfl rfl rfl rfl)) (fun _ _ _ _ _ => (G.nm sc_6.nd rfl rfl (.inr rfl))) (fun _ _ _ _ _ => STs.nil) (fun _ _ _ _ _ => (SI.seq (C.varK rfl rfl rfl rfl))) (fun _ _ _ _ _ => (G.nm sc_6.nd rfl rfl (.inr rfl))) (fun _ _ _ _ _ => STs.nil) (fun _ _ _ _ _ => (SE.deep (SE.callP (cal_of (w_5 F Z) rfl F.g_5 F.k_5 hr (by decide)) rfl (SA.cons (C.varK rfl rfl rfl rfl) (SA.cons (C.varK rfl rfl rfl rfl) SA.nil rfl) rfl) rfl rfl rfl))) (fun _ _ _ _ _ => C.bl) (fun _ => rfl) fun _ _ => rfl) (SSs.cons (SS.asg (SE.lc rfl sc_6.nd (blkOk_by (own := [("one", 5)]) rfl) (by decide) (SI.dct (C.varK rfl rfl rfl rfl)) (fun _ _ _ _ _ => (G.nm sc_6.nd rfl rfl (.inr rfl))) (fun _ _ _ _ _ => (STs.one (ST.cmp (op_notInW (hu65_ hr)) g_notIn (C.varK rfl rfl rfl rfl) (C.varK rfl rfl rfl rfl) rfl))) (fun _ _ _ _ _ => (C.varK rfl rfl rfl rfl)) fun _ => rfl) (G.nm sc_6.nd rfl rfl (.inl rfl)) rfl rfl rfl) (SSs.cons (SS.asg (SE.mrgT (hu_ hr) (C.varK rfl rfl rfl rfl) (SE.dc (hu_ hr) rfl sc_6.nd (blkOk_by (own := [("one", 5)]) rfl) (by decide) (SI.seq (C.varK rfl rfl rfl rfl)) (fun _ _ _ _ _ => (G.nm sc_6.nd rfl rfl (.inr rfl))) (fun _ _ _ _ _ => STs.nil) (fun _ _ _ _ _ => (C.varK rfl rfl rfl rfl)) (fun _ _ _ _ _ => C.bl) fun _ => rfl)) (G.nm sc_6.nd rfl rfl (.inl rfl)) rfl rfl rfl) (SSs.one (SS.if_ (ST.cmp op_gt g_gt (B.len rfl F.b_len (SA.cons (C.varK rfl rfl rfl rfl) SA.nil rfl) rfl) (SE.glob (F.c_MAX_SIZE rfl rfl) rfl rfl) rfl) SSs.bad SSs.nil)))))) (SSs.one (SS.ret (B.tuple rfl F.b_tuple (SA.cons (B.sorted rfl rfl F.b_sorted (SA.cons (C.varK rfl rfl rfl rfl) SA.nil rfl) rfl) SA.nil rfl) rfl))))))
theorem sc_7 : FnScope N_7 ["moves"] (L2.defScope st_7) := ⟨rfl, rfl, rfl, by decide +kernel, rfl, by decide +kernel, by decide +kernel⟩
theorem w_7 {P : Program} {w : World} {K : PySem.W.Frag} {mg : Str → Option Value} {base : Heap} (F : Fx K mg) (Z : Zx P K mg base) : ∃ fd, FnOk P w K mg base (L2.CX P w) 2 ((TB K).fa 7) fd ["moves"] (spC K (TB K) (fun _ => c_7) 7 1) ∧ Binds K fd ["moves"] [] ∧ (["moves"] : List Str).length = 1 := by
  obtain ⟨fd, FD⟩ := F.fd_7
  refine ⟨fd, fn_ok (ca := t_7) (ca' := fun _ => c_7) FD sc_7 rfl (fun ws h => padF_eq _ _ _) ?_, FD.bindsN fun _ _ _ _ _ _ us hl => match us, hl with | [_], _ => rfl, rfl⟩
  intro cdv A outer s H E hr
  exact (SSs.cons (SS.asg (SE.dc (hu_ hr) rfl sc_7.nd (blkOk_by (own := [("member", 2), ("one", 3)]) rfl) (by decide) (SI.enumT rfl F.b_enumerate (SA.cons (C.varK rfl rfl rfl rfl) SA.nil rfl) rfl) (fun _ _ _ _ _ => (SG.tup rfl (names_cons (G.nm sc_7.nd rfl rfl (.inr rfl)) (names_cons (G.nm sc_7.nd rfl rfl (.inr rfl)) names_nil rfl) rfl) rfl rfl)) (fun _ _ _ _ _ => STs.nil) (fun _ _ _ _ _ => (C.varK rfl rfl rfl rfl)) (fun _ _ _ _ _ => (C.varK rfl rfl rfl rfl)) fun _ => rfl) (G.nm sc_7.nd rfl rfl (.inl rfl)) rfl rfl rfl) (SSs.one (SS.ret (B.tuple rfl F.b_tuple (SA.cons (SE.lc rfl sc_7.nd (blkOk_by (own := [("one", 3)]) rfl) (by decide) (SI.seq (C.varK rfl rfl rfl rfl)) (fun _ _ _ _ _ => (G.nm sc_7.nd rfl rfl (.inl rfl))) (fun _ _ _ _ _ => STs.nil) (fun _ _ _ _ _ => (B.tupleF rfl F.b_tuple (SA.cons (SE.lc rfl sc_7.nd (blkOk_by (own := [("other", 4)]) rfl) (by decide) (SI.seq (C.varK rfl rfl rfl rfl)) (fun _ _ _ _ _ => (G.nm sc_7.nd rfl rfl (.inr rfl))) (fun _ _ _ _ _ => STs.nil) (fun _ _ _ _ _ => (SE.idx (hu_ hr) (C.varK rfl rfl rfl rfl) (SE.deep (SE.callP (cal_of (w_5 F Z) rfl F.g_5 F.k_5 hr (by decide)) rfl (SA.cons (C.varK rfl rfl rfl rfl) (SA.cons (C.varK rfl rfl rfl rfl) SA.nil rfl) rfl) rfl rfl rfl)) fun _ _ => rfl)) fun _ => rfl) SA.nil rfl) rfl)) fun _ => rfl) SA.nil rfl) rfl))))
theorem w_7s {P : Program} {w : World} {K : PySem.W.Frag} {mg : Str → Option Value} {base : Heap} (F : Fx K mg) (Z : Zx P K mg base) : ∃ fd, FnOk P w K mg base (L2.CX P w) 2 ((TB K).fa 7) fd ["moves"] (spC K (TB K) (fun _ => s_7) 7 1) ∧ Binds K fd ["moves"] [] ∧ (["moves"] : List Str).length = 1 := by
  have same : s_7 = c_7 := knw_eq ev_7
  rw [same]
  exact w_7 F Z
theorem sc_8 : FnScope N_8 ["self", "moves"] (L2.defScope st_8) := ⟨rfl, rfl, rfl, by decide +kernel, rfl, by decide +kernel, by decide +kernel⟩
theorem w_8 {P : Program} {w : World} {K : PySem.W.Frag} {mg : Str → Option Value} {base : Heap} (F : Fx K mg) (Z : Zx P K mg base) : ∃ fd, FnOk P w K mg base (L2.CX P w) 5 ((TB K).fa 8) fd ["self", "moves"] (spC K (TB K) (fun _ => c_8) 8 2) ∧ Binds K fd ["self", "moves"] [] ∧ (["self", "moves"] : List Str).length = 2 := by
  obtain ⟨fd, FD⟩ := F.fd_8
  refine ⟨fd, fn_ok (ca := t_8) (ca' := fun _ => c_8) FD sc_8 rfl (fun ws h => padF_eq _ _ _) ?_, FD.bindsN fun _ _ _ _ _ _ us hl => match us, hl with | [_, _], _ => rfl, rfl⟩
  intro cdv A outer s H E hr
  exact (SSs.cons (SS.if_ (ST.val (SE.isi (F.isi_ClosedMoves rfl rfl rfl) rfl F.b_isinstance (C.varK rfl rfl rfl rfl) rfl rfl rfl) fun _ => rfl) (SSs.one SS.bad) (SSs.one (SS.if_ (ST.val (SE.deep (SE.callP (cal_of (w_4 F Z) rfl F.g_4 F.k_4 hr (by decide)) rfl (SA.cons (C.varK rfl rfl rfl rfl) SA.nil rfl) rfl rfl rfl)) fun _ => rfl) (SSs.one (SS.sfld (F.fld_0_2 rfl) (C.varK rfl rfl rfl rfl) (SE.deep (SE.callP (cal_of (w_6 F Z) rfl F.g_6 F.k_6 hr (by decide)) rfl (SA.cons (C.varK rfl rfl rfl rfl) SA.nil rfl) rfl rfl rfl)) rfl)) (SSs.one SS.bad)))) (SSs.cons (SS.sfld (F.fld_0_3 rfl) (C.varK rfl rfl rfl rfl) (SE.deep (SE.callP (cal_of (w_7s F Z) rfl F.g_7 F.k_7 hr (by decide)) rfl (SA.cons (SE.fld (F.fld_0_2 rfl) (C.varK rfl rfl rfl rfl) rfl) SA.nil rfl) rfl rfl rfl)) rfl) (SSs.cons (SS.sfld (F.fld_0_0 rfl) (C.varK rfl rfl rfl rfl) (B.tuple rfl F.b_tuple (SA.cons (SE.lc rfl sc_8.nd (blkOk_by (own := [("line", 2)]) rfl) (by decide) (SI.seq (SE.fld (F.fld_0_3 rfl) (C.varK rfl rfl rfl rfl) rfl)) (fun _ _ _ _ _ => (G.nm sc_8.nd rfl rfl (.inr rfl))) (fun _ _ _ _ _ => STs.nil) (fun _ _ _ _ _ => (SE.indexT (C.varK rfl rfl rfl rfl) (SA.cons C.int SA.nil rfl) rfl rfl rfl rfl rfl)) fun _ => rfl) SA.nil rfl) rfl) rfl) (SSs.one (SS.sfld (F.fld_0_1 rfl) (C.varK rfl rfl rfl rfl) (SE.tupRg rfl rfl F.b_tuple rfl F.b_range (B.len rfl F.b_len (SA.cons (SE.fld (F.fld_0_2 rfl) (C.varK rfl rfl rfl rfl) rfl) SA.nil rfl) rfl) rfl rfl) rfl)))))
theorem sc_9 : FnScope N_9 ["cls", "size"] (L2.defScope st_9) := ⟨rfl, rfl, rfl, by decide +kernel, rfl, by decide +kernel, by decide +kernel⟩
theorem w_9 {P : Program} {w : World} {K : PySem.W.Frag} {mg : Str → Option Value} {base : Heap} (F : Fx K mg) (Z : Zx P K mg base) : ∃ fd, FnOk P w K mg base (L2.CX P w) 7 ((TB K).fa 9) fd ["cls", "size"] (spC K (TB K) (fun _ => c_9) 9 2) ∧ Binds K fd ["cls", "size"] [] ∧ (["cls", "size"] : List Str).length = 2 := by
  obtain ⟨fd, FD⟩ := F.fd_9
  refine ⟨fd, fn_ok (ca := t_9) (ca' := fun _ => c_9) FD sc_9 rfl (fun ws h => padF_eq _ _ _) ?_, FD.bindsN fun _ _ _ _ _ _ us hl => match us, hl with | [_, _], _ => rfl, rfl⟩
  intro cdv A outer s H E hr
  exact (SSs.cons (SS.if_ (ST.not (ST.val (SE.deep (SE.callP (cal_of (w_2 F Z) rfl F.g_2 F.k_2 hr (by decide)) rfl (SA.cons (C.varK rfl rfl rfl rfl) (SA.cons C.int (SA.cons (SE.glob (F.c_MAX_SIZE rfl rfl) rfl rfl) SA.nil rfl) rfl) rfl) rfl rfl rfl)) fun _ => rfl)) SSs.bad SSs.nil) (SSs.one (SS.ret (SE.makeL (mkl_of (w_8 F Z) rfl F.mk_0 hr (by decide)) rfl rfl rfl rfl (SA.cons (SE.tup (SA.cons (SE.tup (SA.starR rfl rfl F.b_range C.int (C.varK rfl rfl rfl rfl) (SA.cons C.int SA.nil rfl) rfl rfl rfl rfl)) SA.nil rfl)) SA.nil rfl) rfl rfl))))
theorem sc_10 : FnScope N_10 ["self"] (L2.defScope st_10) := ⟨rfl, rfl, rfl, by decide +kernel, rfl, by decide +kernel, by decide +kernel⟩
theorem w_10 {P : Program} {w : World} {K : PySem.W.Frag} {mg : Str → Option Value} {base : Heap} (F : Fx K mg) (Z : Zx P K mg base) : ∃ fd, FnOk P w K mg base (L2.CX P w) 1 ((TB K).fa 10) fd ["self"] (spC K (TB K) (fun _ => c_10) 10 1) ∧ Binds K fd ["self"] [] ∧ (["self"] : List Str).length = 1 := by
  obtain ⟨fd, FD⟩ := F.fd_10
  refine ⟨fd, fn_ok (ca := t_10) (ca' := fun _ => c_10) FD sc_10 rfl (fun ws h => padF_eq _ _ _) ?_, FD.bindsN fun _ _ _ _ _ _ us hl => match us, hl with | [_], _ => rfl, rfl⟩
  intro cdv A outer s H E hr
  exact (SSs.one (SS.ret (B.len rfl F.b_len (SA.cons (SE.fld (F.fld_0_2 rfl) (C.varK rfl rfl rfl rfl) rfl) SA.nil rfl) rfl)))
theorem sc_11 : FnScope N_11 ["group", "member"] (L2.defScope st_11) := ⟨rfl, rfl, rfl, by decide +kernel, rfl, by decide +kernel, by decide +kernel⟩
theorem w_11 {P : Program} {w : World} {K : PySem.W.Frag} {mg : Str → Option Value} {base : Heap} (F : Fx K mg) (Z : Zx P K mg base) : ∃ fd, FnOk P w K mg base (L2.CX P w) 1 ((TB K).fa 11) fd ["group", "member"] (spC K (TB K) (fun _ => c_11) 11 2) ∧ Binds K fd ["group", "member"] [] ∧ (["group", "member"] : List Str).length = 2 := by
  obtain ⟨fd, FD⟩ := F.fd_11
  refine ⟨fd, fn_ok (ca := t_11) (ca' := fun _ => c_11) FD sc_11 rfl (fun ws h => padF_eq _ _ _) ?_, FD.bindsN fun _ _ _ _ _ _ us hl => match us, hl with | [_, _], _ => rfl, rfl⟩
  intro cdv A outer s H E hr
  exact (SSs.cons (SS.par2 rfl sc_11.nd rfl rfl (by decide) rfl rfl (SA.cons C.int (SA.cons (C.varK rfl rfl rfl rfl) SA.nil rfl) rfl) rfl rfl) (SSs.cons (SS.while_ (passes_of rfl) (ST.cmp (op_neD (hu64_ hr)) g_ne (C.varK rfl rfl rfl rfl) C.int rfl) (SSs.one (SS.par2 rfl sc_11.nd rfl rfl (by decide) rfl rfl (SA.cons (SE.bin op_addW g_add (C.varK rfl rfl rfl rfl) C.int) (SA.cons (SE.idx (hu_ hr) (SE.idx (hu_ hr) (SE.fld (F.fld_0_3 rfl) (C.varK rfl rfl rfl rfl) rfl) (C.varK rfl rfl rfl rfl) fun _ _ => rfl) (C.varK rfl rfl rfl rfl) fun _ _ => rfl) SA.nil rfl) rfl) rfl rfl))) (SSs.one (SS.ret (C.varK rfl rfl rfl rfl)))))
end
end VA
set_option Elab.async false
set_option linter.all false
set_option maxRecDepth 100000
set_option maxHeartbeats 8000000
namespace VA
noncomputable section
open PySem PySem.Spec PyProof.Rows L2 Srt
theorem sc_12 : FnScope N_12 ["group", "member", "number"] (L2.defScope st_12) := ⟨rfl, rfl, rfl, by decide +kernel, rfl, by decide +kernel, by decide +kernel⟩
theorem w_12 {P : Program} {w : World} {K : PySem.W.Frag} {mg : Str → Option Value} {base : Heap} (F : Fx K mg) (Z : Zx P K mg base) : ∃ fd, FnOk P w K mg base (L2.CX P w) 2 ((TB K).fa 12) fd ["group", "member", "number"] (spC K (TB K) (fun _ => c_12) 12 3) ∧ Binds K fd ["group", "member", "number"] [] ∧ (["group", "member", "number"] : List Str).length = 3 := by
  obtain ⟨fd, FD⟩ := F.fd_12
  refine ⟨fd, fn_ok (ca := t_12) (ca' := fun _ => c_12) FD sc_12 rfl (fun ws h => padF_eq _ _ _) ?_, FD.bindsN fun _ _ _ _ _ _ us hl => match us, hl with | [_, _, _], _ => rfl, rfl⟩
  intro cdv A outer s H E hr
  exact (SSs.cons (SS.asg C.int (G.nm sc_12.nd rfl rfl (.inl rfl)) rfl rfl rfl) (SSs.cons (SS.for_ (passes_of rfl) rfl (SI.rng1 rfl F.b_range (SA.cons (SE.bin op_mod g_mod (C.varK rfl rfl rfl rfl) (SE.deep (SE.callG (cal_of (w_11 F Z) rfl F.g_11 F.k_11 hr (by decide)) rfl (SA.cons (C.varK rfl rfl rfl rfl) (SA.cons (C.varK rfl rfl rfl rfl) SA.nil rfl) rfl) rfl rfl rfl))) SA.nil rfl) rfl) (G.nm sc_12.nd rfl rfl (.inl rfl)) (SSs.one (SS.asg (SE.idx (hu_ hr) (SE.idx (hu_ hr) (SE.fld (F.fld_0_3 rfl) (C.varK rfl rfl rfl rfl) rfl) (C.varK rfl rfl rfl rfl) fun _ _ => rfl) (C.varK rfl rfl rfl rfl) fun _ _ => rfl) (G.nm sc_12.nd rfl rfl (.inl rfl)) rfl rfl rfl)) fun _ => rfl) (SSs.one (SS.ret (C.varK rfl rfl rfl rfl)))))
theorem sc_13 : FnScope N_13 ["group", "one", "member"] (L2.defScope st_13) := ⟨rfl, rfl, rfl, by decide +kernel, rfl, by decide +kernel, by decide +kernel⟩
theorem w_13 {P : Program} {w : World} {K : PySem.W.Frag} {mg : Str → Option Value} {base : Heap} (F : Fx K mg) (Z : Zx P K mg base) : ∃ fd, FnOk P w K mg base (L2.CX P w) 1 ((TB K).fa 13) fd ["group", "one", "member"] (spC K (TB K) (fun _ => c_13) 13 3) ∧ Binds K fd ["group", "one", "member"] [] ∧ (["group", "one", "member"] : List Str).length = 3 := by
  obtain ⟨fd, FD⟩ := F.fd_13
  refine ⟨fd, fn_ok (ca := t_13) (ca' := fun _ => c_13) FD sc_13 rfl (fun ws h => padF_eq _ _ _) ?_, FD.bindsN fun _ _ _ _ _ _ us hl => match us, hl with | [_, _, _], _ => rfl, rfl⟩
  intro cdv A outer s H E hr
  exact (SSs.one (SS.ret (SE.idx (hu_ hr) (SE.idx (hu_ hr) (SE.fld (F.fld_0_3 rfl) (C.varK rfl rfl rfl rfl) rfl) (SE.idx (hu_ hr) (SE.idx (hu_ hr) (SE.fld (F.fld_0_3 rfl) (C.varK rfl rfl rfl rfl) rfl) (C.varK rfl rfl rfl rfl) fun _ _ => rfl) (C.varK rfl rfl rfl rfl) fun _ _ => rfl) fun _ _ => rfl) (SE.idx (hu_ hr) (SE.fld (F.fld_0_0 rfl) (C.varK rfl rfl rfl rfl) rfl) (C.varK rfl rfl rfl rfl) fun _ _ => rfl) fun _ _ => rfl)))
theorem sc_14 : FnScope N_14 ["group", "members"] (L2.defScope st_14) := ⟨rfl, rfl, rfl, by decide +kernel, rfl, by decide +kernel, by decide +kernel⟩
theorem w_14 {P : Program} {w : World} {K : PySem.W.Frag} {mg : Str → Option Value} {base : Heap} (F : Fx K mg) (Z : Zx P K mg base) : ∃ fd, FnOk P w K mg base (L2.CX P w) 1 ((TB K).fa 14) fd ["group", "members"] (spC K (TB K) (fun _ => c_14) 14 2) ∧ Binds K fd ["group", "members"] [] ∧ (["group", "members"] : List Str).length = 2 := by
  obtain ⟨fd, FD⟩ := F.fd_14
  refine ⟨fd, fn_ok (ca := t_14) (ca' := fun _ => c_14) FD sc_14 rfl (fun ws h => padF_eq _ _ _) ?_, FD.bindsN fun _ _ _ _ _ _ us hl => match us, hl with | [_, _], _ => rfl, rfl⟩
  intro cdv A outer s H E hr
  exact (SSs.cons (SS.asg (SE.tup (SA.cons (SE.dispK (SPs.cons C.int C.bl SPs.nil) rfl rfl (by simp) (by simp)) (SA.cons (SE.lst (SA.cons C.int SA.nil rfl)) SA.nil rfl) rfl)) (SG.tup rfl (names_cons (G.nm sc_14.nd rfl rfl (.inl rfl)) (names_cons (G.nm sc_14.nd rfl rfl (.inl rfl)) names_nil rfl) rfl) rfl rfl) rfl rfl rfl) (SSs.cons (SS.while_ (passes_of rfl) (ST.cmp (op_neD (hu64_ hr)) g_ne (C.varK rfl rfl rfl rfl) (SE.lst SA.nil) rfl) (SSs.cons (SS.setDc2 (hu_ hr) rfl sc_14.nd rfl rfl (blkOk_by (own := [("one", 5), ("maker", 6)]) rfl) (by decide) (by decide) (by decide) (sw_any (.inr ⟨_, _, rfl⟩) rfl rfl rfl rfl) (SI.seq (C.varK rfl rfl rfl rfl)) (fun _ _ _ _ _ => (G.nm sc_14.nd rfl rfl (.inr rfl))) (fun _ _ _ _ _ => STs.nil) (fun _ _ _ _ _ => (SI.seq (C.varK rfl rfl rfl rfl))) (fun _ _ _ _ _ => (G.nm sc_14.nd rfl rfl (.inr rfl))) (fun _ _ _ _ _ => STs.nil) (fun _ _ _ _ _ => (SE.idx (hu_ hr) (SE.idx (hu_ hr) (SE.fld (F.fld_0_3 rfl) (C.varK rfl rfl rfl rfl) rfl) (C.varK rfl rfl rfl rfl) fun _ _ => rfl) (C.varK rfl rfl rfl rfl) fun _ _ => rfl)) (fun _ _ _ _ _ => C.bl) (fun _ => rfl) fun _ _ => rfl) (SSs.cons (SS.setLc rfl sc_14.nd rfl rfl (blkOk_by (own := [("one", 5)]) rfl) (by decide) (sw_any (.inl ⟨_, rfl⟩) rfl rfl rfl rfl) (SI.dct (C.varK rfl rfl rfl rfl)) (fun _ _ _ _ _ => (G.nm sc_14.nd rfl rfl (.inr rfl))) (fun _ _ _ _ _ => (STs.one (ST.cmp (op_notInW (hu65_ hr)) g_notIn (C.varK rfl rfl rfl rfl) (C.varK rfl rfl rfl rfl) rfl))) (fun _ _ _ _ _ => (C.varK rfl rfl rfl rfl)) fun _ => rfl) (SSs.one (SS.asg (SE.mrgK (C.varK rfl rfl rfl rfl) (SE.dc (hu_ hr) rfl sc_14.nd (blkOk_by (own := [("one", 5)]) rfl) (by decide) (SI.seq (C.varK rfl rfl rfl rfl)) (fun _ _ _ _ _ => (G.nm sc_14.nd rfl rfl (.inr rfl))) (fun _ _ _ _ _ => STs.nil) (fun _ _ _ _ _ => (C.varK rfl rfl rfl rfl)) (fun _ _ _ _ _ => C.bl) fun _ => rfl)) (G.nm sc_14.nd rfl rfl (.inl rfl)) rfl rfl rfl))))) (SSs.one (SS.ret (B.tuple rfl F.b_tuple (SA.cons (B.sorted rfl rfl F.b_sorted (SA.cons (C.varK rfl rfl rfl rfl) SA.nil rfl) rfl) SA.nil rfl) rfl)))))
theorem sc_15 : FnScope N_15 ["group", "part", "member"] (L2.defScope st_15) := ⟨rfl, rfl, rfl, by decide +kernel, rfl, by decide +kernel, by decide +kernel⟩
theorem w_15 {P : Program} {w : World} {K : PySem.W.Frag} {mg : Str → Option Value} {base : Heap} (F : Fx K mg) (Z : Zx P K mg base) : ∃ fd, FnOk P w K mg base (L2.CX P w) 2 ((TB K).fa 15) fd ["group", "part", "member"] (spC K (TB K) (fun _ => c_15) 15 3) ∧ Binds K fd ["group", "part", "member"] [] ∧ (["group", "part", "member"] : List Str).length = 3 := by
  obtain ⟨fd, FD⟩ := F.fd_15
  refine ⟨fd, fn_ok (ca := t_15) (ca' := fun _ => c_15) FD sc_15 rfl (fun ws h => padF_eq _ _ _) ?_, FD.bindsN fun _ _ _ _ _ _ us hl => match us, hl with | [_, _, _], _ => rfl, rfl⟩
  intro cdv A outer s H E hr
  exact (SSs.one (SS.ret (B.tuple rfl F.b_tuple (SA.cons (B.sorted rfl rfl F.b_sorted (SA.cons (SE.lc rfl sc_15.nd (blkOk_by (own := [("one", 3)]) rfl) (by decide) (SI.seq (C.varK rfl rfl rfl rfl)) (fun _ _ _ _ _ => (G.nm sc_15.nd rfl rfl (.inr rfl))) (fun _ _ _ _ _ => STs.nil) (fun _ _ _ _ _ => (SE.deep (SE.callG (cal_of (w_13 F Z) rfl F.g_13 F.k_13 hr (by decide)) rfl (SA.cons (C.varK rfl rfl rfl rfl) (SA.cons (C.varK rfl rfl rfl rfl) (SA.cons (C.varK rfl rfl rfl rfl) SA.nil rfl) rfl) rfl) rfl rfl rfl))) fun _ => rfl) SA.nil rfl) rfl) SA.nil rfl) rfl)))
theorem sc_16 : FnScope N_16 ["group", "part"] (L2.defScope st_16) := ⟨rfl, rfl, rfl, by decide +kernel, rfl, by decide +kernel, by decide +kernel⟩
theorem w_16 {P : Program} {w : World} {K : PySem.W.Frag} {mg : Str → Option Value} {base : Heap} (F : Fx K mg) (Z : Zx P K mg base) : ∃ fd, FnOk P w K mg base (L2.CX P w) 3 ((TB K).fa 16) fd ["group", "part"] (spC K (TB K) (fun _ => c_16) 16 2) ∧ Binds K fd ["group", "part"] [] ∧ (["group", "part"] : List Str).length = 2 := by
  obtain ⟨fd, FD⟩ := F.fd_16
  refine ⟨fd, fn_ok (ca := t_16) (ca' := fun _ => c_16) FD sc_16 rfl (fun ws h => padF_eq _ _ _) ?_, FD.bindsN fun _ _ _ _ _ _ us hl => match us, hl with | [_, _], _ => rfl, rfl⟩
  intro cdv A outer s H E hr
  exact (SSs.one (SS.ret (B.tuple rfl F.b_tuple (SA.cons (SE.lc rfl sc_16.nd (blkOk_by (own := [("member", 2)]) rfl) (by decide) (SI.own (F.itr rfl rfl hr (by decide)) (C.varK rfl rfl rfl rfl)) (fun _ _ _ _ _ => (G.nm sc_16.nd rfl rfl (.inr rfl))) (fun _ _ _ _ _ => (STs.one (ST.cmp (op_eqD (hu64_ hr)) g_eq (SE.deep (SE.callG (cal_of (w_15 F Z) rfl F.g_15 F.k_15 hr (by decide)) rfl (SA.cons (C.varK rfl rfl rfl rfl) (SA.cons (C.varK rfl rfl rfl rfl) (SA.cons (C.varK rfl rfl rfl rfl) SA.nil rfl) rfl) rfl) rfl rfl rfl)) (C.varK rfl rfl rfl rfl) rfl))) (fun _ _ _ _ _ => (C.varK rfl rfl rfl rfl)) fun _ => rfl) SA.nil rfl) rfl)))
theorem sc_17 : FnScope N_17 ["group", "part"] (L2.defScope st_17) := ⟨rfl, rfl, rfl, by decide +kernel, rfl, by decide +kernel, by decide +kernel⟩
theorem w_17 {P : Program} {w : World} {K : PySem.W.Frag} {mg : Str → Option Value} {base : Heap} (F : Fx K mg) (Z : Zx P K mg base) : ∃ fd, FnOk P w K mg base (L2.CX P w) 2 ((TB K).fa 17) fd ["group", "part"] (spC K (TB K) (fun _ => c_17) 17 2) ∧ Binds K fd ["group", "part"] [] ∧ (["group", "part"] : List Str).length = 2 := by
  obtain ⟨fd, FD⟩ := F.fd_17
  refine ⟨fd, fn_ok (ca := t_17) (ca' := fun _ => c_17) FD sc_17 rfl (fun ws h => padF_eq _ _ _) ?_, FD.bindsN fun _ _ _ _ _ _ us hl => match us, hl with | [_, _], _ => rfl, rfl⟩
  intro cdv A outer s H E hr
  exact (SSs.cons (SS.asg (SE.fld (F.fld_0_3 rfl) (C.varK rfl rfl rfl rfl) rfl) (G.nm sc_17.nd rfl rfl (.inl rfl)) rfl rfl rfl) (SSs.one (SS.ret (B.tuple rfl F.b_tuple (SA.cons (SE.lc rfl sc_17.nd (blkOk_by (own := [("member", 3)]) rfl) (by decide) (SI.own (F.itr rfl rfl hr (by decide)) (C.varK rfl rfl rfl rfl)) (fun _ _ _ _ _ => (G.nm sc_17.nd rfl rfl (.inl rfl))) (fun _ _ _ _ _ => (STs.one (ST.val (B.all rfl rfl F.b_all (SA.cons (SE.lc rfl sc_17.nd (blkOk_by (own := [("one", 4)]) rfl) (by decide) (SI.seq (C.varK rfl rfl rfl rfl)) (fun _ _ _ _ _ => (G.nm sc_17.nd rfl rfl (.inr rfl))) (fun _ _ _ _ _ => STs.nil) (fun _ _ _ _ _ => (SE.cmp (op_eqD (hu64_ hr)) g_eq (SE.idx (hu_ hr) (SE.idx (hu_ hr) (C.varK rfl rfl rfl rfl) (C.varK rfl rfl rfl rfl) fun _ _ => rfl) (C.varK rfl rfl rfl rfl) fun _ _ => rfl) (SE.idx (hu_ hr) (SE.idx (hu_ hr) (C.varK rfl rfl rfl rfl) (C.varK rfl rfl rfl rfl) fun _ _ => rfl) (C.varK rfl rfl rfl rfl) fun _ _ => rfl) rfl)) fun _ => rfl) SA.nil rfl) rfl) fun _ => rfl))) (fun _ _ _ _ _ => (C.varK rfl rfl rfl rfl)) fun _ => rfl) SA.nil rfl) rfl))))
end
end VA
set_option Elab.async false
set_option linter.all false
set_option maxRecDepth 100000
set_option maxHeartbeats 8000000
namespace VA
noncomputable section
open PySem PySem.Spec PyProof.Rows L2 Srt
theorem sc_18 : FnScope N_18 ["group", "prime"] (L2.defScope st_18) := ⟨rfl, rfl, rfl, by decide +kernel, rfl, by decide +kernel, by decide +kernel⟩
theorem w_18 {P : Program} {w : World} {K : PySem.W.Frag} {mg : Str → Option Value} {base : Heap} (F : Fx K mg) (Z : Zx P K mg base) : ∃ fd, FnOk P w K mg base (L2.CX P w) 4 ((TB K).fa 18) fd ["group", "prime"] (spC K (TB K) (fun _ => c_18) 18 2) ∧ Binds K fd ["group", "prime"] [] ∧ (["group", "prime"] : List Str).length = 2 := by
  obtain ⟨fd, FD⟩ := F.fd_18
  refine ⟨fd, fn_ok (ca := t_18) (ca' := fun _ => c_18) FD sc_18 rfl (fun ws h => padF_eq _ _ _) ?_, FD.bindsN fun _ _ _ _ _ _ us hl => match us, hl with | [_, _], _ => rfl, rfl⟩
  intro cdv A outer s H E hr
  exact (SSs.cons (SS.asg (SE.tup (SA.cons C.int SA.nil rfl)) (G.nm sc_18.nd rfl rfl (.inl rfl)) rfl rfl rfl) (SSs.cons (SS.while_ (passes_of rfl) (ST.cmp (op_eqD (hu64_ hr)) g_eq (SE.bin op_mod g_mod (SE.bin op_fdivW g_div (B.len rfl F.b_len (SA.cons (SE.fld (F.fld_0_2 rfl) (C.varK rfl rfl rfl rfl) rfl) SA.nil rfl) rfl) (B.len rfl F.b_len (SA.cons (C.varK rfl rfl rfl rfl) SA.nil rfl) rfl)) (C.varK rfl rfl rfl rfl)) C.int rfl) (SSs.cons (SS.asg (SE.deep (SE.callG (cal_of (w_16 F Z) rfl F.g_16 F.k_16 hr (by decide)) rfl (SA.cons (C.varK rfl rfl rfl rfl) (SA.cons (C.varK rfl rfl rfl rfl) SA.nil rfl) rfl) rfl rfl rfl)) (G.nm sc_18.nd rfl rfl (.inl rfl)) rfl rfl rfl) (SSs.cons (SS.setLc rfl sc_18.nd rfl rfl (blkOk_by (own := [("one", 5)]) rfl) (by decide) (sw_any (.inl ⟨_, rfl⟩) rfl rfl rfl rfl) (SI.seq (C.varK rfl rfl rfl rfl)) (fun _ _ _ _ _ => (G.nm sc_18.nd rfl rfl (.inr rfl))) (fun _ _ _ _ _ => (STs.one (SW.st (SW.and (ST.cmp (op_notInW (hu65_ hr)) g_notIn (C.varK rfl rfl rfl rfl) (C.varK rfl rfl rfl rfl) rfl) (SW.one (ST.cmp (op_inW (hu65_ hr)) g_in (SE.deep (SE.callG (cal_of (w_12 F Z) rfl F.g_12 F.k_12 hr (by decide)) rfl (SA.cons (C.varK rfl rfl rfl rfl) (SA.cons (C.varK rfl rfl rfl rfl) (SA.cons (C.varK rfl rfl rfl rfl) SA.nil rfl) rfl) rfl) rfl rfl rfl)) (C.varK rfl rfl rfl rfl) rfl)))))) (fun _ _ _ _ _ => (C.varK rfl rfl rfl rfl)) fun _ => rfl) (SSs.one (SS.asg (SE.deep (SE.callG (cal_of (w_14 F Z) rfl F.g_14 F.k_14 hr (by decide)) rfl (SA.cons (C.varK rfl rfl rfl rfl) (SA.cons (SE.tup (SA.star (C.varK rfl rfl rfl rfl) (SA.cons (SE.idx (hu_ hr) (C.varK rfl rfl rfl rfl) C.int fun _ _ => rfl) SA.nil rfl) rfl)) SA.nil rfl) rfl) rfl rfl rfl)) (G.nm sc_18.nd rfl rfl (.inl rfl)) rfl rfl rfl))))) (SSs.one (SS.ret (C.varK rfl rfl rfl rfl)))))
theorem sc_19 : FnScope N_19 ["value"] (L2.defScope st_19) := ⟨rfl, rfl, rfl, by decide +kernel, rfl, by decide +kernel, by decide +kernel⟩
theorem w_19 {P : Program} {w : World} {K : PySem.W.Frag} {mg : Str → Option Value} {base : Heap} (F : Fx K mg) (Z : Zx P K mg base) : ∃ fd, FnOk P w K mg base (L2.CX P w) 1 ((TB K).fa 19) fd ["value"] (spC K (TB K) (fun _ => c_19) 19 1) ∧ Binds K fd ["value"] [] ∧ (["value"] : List Str).length = 1 := by
  obtain ⟨fd, FD⟩ := F.fd_19
  refine ⟨fd, fn_ok (ca := t_19) (ca' := fun _ => c_19) FD sc_19 rfl (fun ws h => padF_eq _ _ _) ?_, FD.bindsN fun _ _ _ _ _ _ us hl => match us, hl with | [_], _ => rfl, rfl⟩
  intro cdv A outer s H E hr
  exact (SSs.one (SS.if_ (ST.not (ST.val (SE.isi (F.isi_Group rfl rfl rfl) rfl F.b_isinstance (C.varK rfl rfl rfl rfl) rfl rfl rfl) fun _ => rfl)) SSs.bad SSs.nil))
theorem sc_20 : FnScope N_20 ["group"] (L2.defScope st_20) := ⟨rfl, rfl, rfl, by decide +kernel, rfl, by decide +kernel, by decide +kernel⟩
theorem w_20 {P : Program} {w : World} {K : PySem.W.Frag} {mg : Str → Option Value} {base : Heap} (F : Fx K mg) (Z : Zx P K mg base) : ∃ fd, FnOk P w K mg base (L2.CX P w) 3 ((TB K).fa 20) fd ["group"] (spC K (TB K) (fun _ => c_20) 20 1) ∧ Binds K fd ["group"] [] ∧ (["group"] : List Str).length = 1 := by
  obtain ⟨fd, FD⟩ := F.fd_20
  refine ⟨fd, fn_ok (ca := t_20) (ca' := fun _ => c_20) FD sc_20 rfl (fun ws h => padF_eq _ _ _) ?_, FD.bindsN fun _ _ _ _ _ _ us hl => match us, hl with | [_], _ => rfl, rfl⟩
  intro cdv A outer s H E hr
  exact (SSs.one (SS.ret (SE.lc rfl sc_20.nd (blkOk_by (own := [("prime", 1)]) rfl) (by decide) (SI.seq (SE.glob (F.c_SMALL_PRIMES rfl rfl) rfl rfl)) (fun _ _ _ _ _ => (G.nm sc_20.nd rfl rfl (.inr rfl))) (fun _ _ _ _ _ => (STs.one (ST.cmp (op_eqD (hu64_ hr)) g_eq (SE.bin op_mod g_mod (SE.prop (prp_of (w_10 F Z) rfl F.scls_0 F.prp_10 hr (by decide)) (C.varK rfl rfl rfl rfl) rfl) (C.varK rfl rfl rfl rfl)) C.int rfl))) (fun _ _ _ _ _ => (C.varK rfl rfl rfl rfl)) fun _ => rfl)))
theorem sc_21 : FnScope N_21 ["size", "prime"] (L2.defScope st_21) := ⟨rfl, rfl, rfl, by decide +kernel, rfl, by decide +kernel, by decide +kernel⟩
theorem w_21 {P : Program} {w : World} {K : PySem.W.Frag} {mg : Str → Option Value} {base : Heap} (F : Fx K mg) (Z : Zx P K mg base) : ∃ fd, FnOk P w K mg base (L2.CX P w) 1 ((TB K).fa 21) fd ["size", "prime"] (spC K (TB K) (fun _ => c_21) 21 2) ∧ Binds K fd ["size", "prime"] [] ∧ (["size", "prime"] : List Str).length = 2 := by
  obtain ⟨fd, FD⟩ := F.fd_21
  refine ⟨fd, fn_ok (ca := t_21) (ca' := fun _ => c_21) FD sc_21 rfl (fun ws h => padF_eq _ _ _) ?_, FD.bindsN fun _ _ _ _ _ _ us hl => match us, hl with | [_, _], _ => rfl, rfl⟩
  intro cdv A outer s H E hr
  exact (SSs.cons (SS.asg C.int (G.nm sc_21.nd rfl rfl (.inl rfl)) rfl rfl rfl) (SSs.cons (SS.while_ (passes_of rfl) (ST.cmp (op_eqD (hu64_ hr)) g_eq (SE.bin op_mod g_mod (C.varK rfl rfl rfl rfl) (SE.bin op_mulAll g_mul (C.varK rfl rfl rfl rfl) (C.varK rfl rfl rfl rfl))) C.int rfl) (SSs.one (SS.augM sc_21.nd rfl (loc_by rfl) (.inl rfl) (C.varK rfl rfl rfl rfl)))) (SSs.one (SS.ret (C.varK rfl rfl rfl rfl)))))
theorem sc_22 : FnScope N_22 ["group", "member"] (L2.defScope st_22) := ⟨rfl, rfl, rfl, by decide +kernel, rfl, by decide +kernel, by decide +kernel⟩
theorem w_22 {P : Program} {w : World} {K : PySem.W.Frag} {mg : Str → Option Value} {base : Heap} (F : Fx K mg) (Z : Zx P K mg base) : ∃ fd, FnOk P w K mg base (L2.CX P w) 3 ((TB K).fa 22) fd ["group", "member"] (spC K (TB K) (fun _ => c_22) 22 2) ∧ Binds K fd ["group", "member"] [] ∧ (["group", "member"] : List Str).length = 2 := by
  obtain ⟨fd, FD⟩ := F.fd_22
  refine ⟨fd, fn_ok (ca := t_22) (ca' := fun _ => c_22) FD sc_22 rfl (fun ws h => padF_eq _ _ _) ?_, FD.bindsN fun _ _ _ _ _ _ us hl => match us, hl with | [_, _], _ => rfl, rfl⟩
  intro cdv A outer s H E hr
  exact (SSs.one (SS.ret (SE.lc rfl sc_22.nd (blkOk_by (own := [("number", 2)]) rfl) (by decide) (SI.rng1 rfl F.b_range (SA.cons (SE.deep (SE.callG (cal_of (w_11 F Z) rfl F.g_11 F.k_11 hr (by decide)) rfl (SA.cons (C.varK rfl rfl rfl rfl) (SA.cons (C.varK rfl rfl rfl rfl) SA.nil rfl) rfl) rfl rfl rfl)) SA.nil rfl) rfl) (fun _ _ _ _ _ => (G.nm sc_22.nd rfl rfl (.inr rfl))) (fun _ _ _ _ _ => STs.nil) (fun _ _ _ _ _ => (SE.deep (SE.callG (cal_of (w_12 F Z) rfl F.g_12 F.k_12 hr (by decide)) rfl (SA.cons (C.varK rfl rfl rfl rfl) (SA.cons (C.varK rfl rfl rfl rfl) (SA.cons (C.varK rfl rfl rfl rfl) SA.nil rfl) rfl) rfl) rfl rfl rfl))) fun _ => rfl)))
theorem sc_23 : FnScope N_23 ["group", "one", "other"] (L2.defScope st_23) := ⟨rfl, rfl, rfl, by decide +kernel, rfl, by decide +kernel, by decide +kernel⟩
theorem w_23 {P : Program} {w : World} {K : PySem.W.Frag} {mg : Str → Option Value} {base : Heap} (F : Fx K mg) (Z : Zx P K mg base) : ∃ fd, FnOk P w K mg base (L2.CX P w) 1 ((TB K).fa 23) fd ["group", "one", "other"] (spC K (TB K) (fun _ => c_23) 23 3) ∧ Binds K fd ["group", "one", "other"] [] ∧ (["group", "one", "other"] : List Str).length = 3 := by
  obtain ⟨fd, FD⟩ := F.fd_23
  refine ⟨fd, fn_ok (ca := t_23) (ca' := fun _ => c_23) FD sc_23 rfl (fun ws h => padF_eq _ _ _) ?_, FD.bindsN fun _ _ _ _ _ _ us hl => match us, hl with | [_, _, _], _ => rfl, rfl⟩
  intro cdv A outer s H E hr
  exact (SSs.one (SS.ret (SE.cmp (op_eqD (hu64_ hr)) g_eq (SE.idx (hu_ hr) (SE.idx (hu_ hr) (SE.fld (F.fld_0_3 rfl) (C.varK rfl rfl rfl rfl) rfl) (C.varK rfl rfl rfl rfl) fun _ _ => rfl) (C.varK rfl rfl rfl rfl) fun _ _ => rfl) (SE.idx (hu_ hr) (SE.idx (hu_ hr) (SE.fld (F.fld_0_3 rfl) (C.varK rfl rfl rfl rfl) rfl) (C.varK rfl rfl rfl rfl) fun _ _ => rfl) (C.varK rfl rfl rfl rfl) fun _ _ => rfl) rfl)))
end
end VA
set_option Elab.async false
set_option linter.all false
set_option maxRecDepth 100000
set_option maxHeartbeats 8000000
namespace VA
noncomputable section
open PySem PySem.Spec PyProof.Rows L2 Srt
theorem sc_24 : FnScope N_24 ["group", "one", "other"] (L2.defScope st_24) := ⟨rfl, rfl, rfl, by decide +kernel, rfl, by decide +kernel, by decide +kernel⟩
theorem w_24 {P : Program} {w : World} {K : PySem.W.Frag} {mg : Str → Option Value} {base : Heap} (F : Fx K mg) (Z : Zx P K mg base) : ∃ fd, FnOk P w K mg base (L2.CX P w) 4 ((TB K).fa 24) fd ["group", "one", "other"] (spC K (TB K) (fun _ => c_24) 24 3) ∧ Binds K fd ["group", "one", "other"] [] ∧ (["group", "one", "other"] : List Str).length = 3 := by
  obtain ⟨fd, FD⟩ := F.fd_24
  refine ⟨fd, fn_ok (ca := t_24) (ca' := fun _ => c_24) FD sc_24 rfl (fun ws h => padF_eq _ _ _) ?_, FD.bindsN fun _ _ _ _ _ _ us hl => match us, hl with | [_, _, _], _ => rfl, rfl⟩
  intro cdv A outer s H E hr
  exact (SSs.cons (SS.asg (SE.deep (SE.callG (cal_of (w_11 F Z) rfl F.g_11 F.k_11 hr (by decide)) rfl (SA.cons (C.varK rfl rfl rfl rfl) (SA.cons (C.varK rfl rfl rfl rfl) SA.nil rfl) rfl) rfl rfl rfl)) (G.nm sc_24.nd rfl rfl (.inl rfl)) rfl rfl rfl) (SSs.cons (SS.if_ (SW.st (SW.or (ST.cmp (op_notInW (hu65_ hr)) g_notIn (C.varK rfl rfl rfl rfl) (SE.glob (F.c_SMALL_PRIMES rfl rfl) rfl rfl) rfl) (SW.one (ST.cmp (op_neD (hu64_ hr)) g_ne (SE.deep (SE.callG (cal_of (w_11 F Z) rfl F.g_11 F.k_11 hr (by decide)) rfl (SA.cons (C.varK rfl rfl rfl rfl) (SA.cons (C.varK rfl rfl rfl rfl) SA.nil rfl) rfl) rfl rfl rfl)) (C.varK rfl rfl rfl rfl) rfl)))) (SSs.one (SS.ret C.bl)) SSs.nil) (SSs.one (SS.ret (SE.and (SE.deep (SE.callG (cal_of (w_23 F Z) rfl F.g_23 F.k_23 hr (by decide)) rfl (SA.cons (C.varK rfl rfl rfl rfl) (SA.cons (C.varK rfl rfl rfl rfl) (SA.cons (C.varK rfl rfl rfl rfl) SA.nil rfl) rfl) rfl) rfl rfl rfl)) (SE.one (SE.cmp (op_notInW (hu65_ hr)) g_notIn (C.varK rfl rfl rfl rfl) (SE.deep (SE.callG (cal_of (w_22 F Z) rfl F.g_22 F.k_22 hr (by decide)) rfl (SA.cons (C.varK rfl rfl rfl rfl) (SA.cons (C.varK rfl rfl rfl rfl) SA.nil rfl) rfl) rfl rfl rfl)) rfl)))))))
theorem sc_25 : FnScope N_25 ["group"] (L2.defScope st_25) := ⟨rfl, rfl, rfl, by decide +kernel, rfl, by decide +kernel, by decide +kernel⟩
theorem w_25 {P : Program} {w : World} {K : PySem.W.Frag} {mg : Str → Option Value} {base : Heap} (F : Fx K mg) (Z : Zx P K mg base) : ∃ fd, FnOk P w K mg base (L2.CX P w) 6 ((TB K).fa 25) fd ["group"] (spC K (TB K) (fun _ => c_25) 25 1) ∧ Binds K fd ["group"] [] ∧ (["group"] : List Str).length = 1 := by
  obtain ⟨fd, FD⟩ := F.fd_25
  refine ⟨fd, fn_okC (p := ("bar_in", none)) (ca := t_25) (ca' := fun _ => c_25) FD rfl sc_25 rfl (fun ws h => padF_eq _ _ _) ?_, FD.bindsN fun _ _ _ _ _ _ us hl => match us, hl with | [_], _ => rfl, rfl⟩
  intro A outer s H E hr
  exact (SSs.cons (SS.setLc2 rfl sc_25.nd rfl rfl (blkOk_by (own := [("one", 2), ("other", 3)]) rfl) (by decide) (by decide) (by decide) (sw_any (.inl ⟨_, rfl⟩) rfl rfl rfl rfl) (SI.own (F.itr rfl rfl hr (by decide)) (C.varK rfl rfl rfl rfl)) (fun _ _ _ _ _ => (G.nm sc_25.nd rfl rfl (.inr rfl))) (fun _ _ _ _ _ => STs.nil) (fun _ _ _ _ _ => (SI.own (F.itr rfl rfl hr (by decide)) (C.varK rfl rfl rfl rfl))) (fun _ _ _ _ _ => (G.nm sc_25.nd rfl rfl (.inr rfl))) (fun _ _ _ _ _ => STs.nil) (fun _ _ _ _ _ => (SE.tup (SA.cons (C.varK rfl rfl rfl rfl) (SA.cons (C.varK rfl rfl rfl rfl) SA.nil rfl) rfl))) (fun _ => rfl) fun _ _ => rfl) (SSs.one (SS.ret (SE.nx hr rfl F.b_next Z.tb_25 rfl (tg_25 K) (gnm_by (own := [2, 3]) rfl) (by decide) (SI.seq (C.varK rfl rfl rfl rfl)) (fun _ => rfl) (fun _ _ _ _ => (SG.tup rfl (names_cons (G.nm sc_25.nd rfl rfl (.inr rfl)) (names_cons (G.nm sc_25.nd rfl rfl (.inr rfl)) names_nil rfl) rfl) rfl rfl)) (fun _ _ _ _ => (STs.one (ST.val (SE.deep (SE.callG (cal_of (w_24 F Z) rfl F.g_24 F.k_24 (room_gen hr) (by decide)) rfl (SA.cons (C.varK rfl rfl rfl rfl) (SA.cons (C.varK rfl rfl rfl rfl) (SA.cons (C.varK rfl rfl rfl rfl) SA.nil rfl) rfl) rfl) rfl rfl rfl)) fun _ => rfl))) (fun _ _ _ _ => (SE.tup (SA.cons (C.varK rfl rfl rfl rfl) (SA.cons (C.varK rfl rfl rfl rfl) SA.nil rfl) rfl)))))))
theorem sc_26 : FnScope N_26 ["group", "a", "b"] (L2.defScope st_26) := ⟨rfl, rfl, rfl, by decide +kernel, rfl, by decide +kernel, by decide +kernel⟩
theorem w_26 {P : Program} {w : World} {K : PySem.W.Frag} {mg : Str → Option Value} {base : Heap} (F : Fx K mg) (Z : Zx P K mg base) : ∃ fd, FnOk P w K mg base (L2.CX P w) 4 ((TB K).fa 26) fd ["group", "a", "b"] (spC K (TB K) (fun _ => c_26) 26 3) ∧ Binds K fd ["group", "a", "b"] [] ∧ (["group", "a", "b"] : List Str).length = 3 := by
  obtain ⟨fd, FD⟩ := F.fd_26
  refine ⟨fd, fn_ok (ca := t_26) (ca' := fun _ => c_26) FD sc_26 rfl (fun ws h => padF_eq _ _ _) ?_, FD.bindsN fun _ _ _ _ _ _ us hl => match us, hl with | [_, _, _], _ => rfl, rfl⟩
  intro cdv A outer s H E hr
  exact (SSs.cons (SS.asg (SE.deep (SE.callG (cal_of (w_11 F Z) rfl F.g_11 F.k_11 hr (by decide)) rfl (SA.cons (C.varK rfl rfl rfl rfl) (SA.cons (C.varK rfl rfl rfl rfl) SA.nil rfl) rfl) rfl rfl rfl)) (G.nm sc_26.nd rfl rfl (.inl rfl)) rfl rfl rfl) (SSs.cons (SS.if_ (SW.st (SW.or (ST.cmp op_lt g_lt (C.varK rfl rfl rfl rfl) (SE.glob (F.c_LEAST_EIGHT rfl rfl) rfl rfl) rfl) (SW.or (ST.cmp (op_eqD (hu64_ hr)) g_eq (SE.bin op_mod g_mod (C.varK rfl rfl rfl rfl) C.int) C.int rfl) (SW.one (ST.cmp (op_inW (hu65_ hr)) g_in (C.varK rfl rfl rfl rfl) (SE.deep (SE.callG (cal_of (w_22 F Z) rfl F.g_22 F.k_22 hr (by decide)) rfl (SA.cons (C.varK rfl rfl rfl rfl) (SA.cons (C.varK rfl rfl rfl rfl) SA.nil rfl) rfl) rfl rfl rfl)) rfl))))) (SSs.one (SS.ret C.bl)) SSs.nil) (SSs.cons (SS.asg (SE.fld (F.fld_0_3 rfl) (C.varK rfl rfl rfl rfl) rfl) (G.nm sc_26.nd rfl rfl (.inl rfl)) rfl rfl rfl) (SSs.one (SS.ret (SE.and (SE.cmp (op_eqD (hu64_ hr)) g_eq (SE.idx (hu_ hr) (SE.idx (hu_ hr) (C.varK rfl rfl rfl rfl) (C.varK rfl rfl rfl rfl) fun _ _ => rfl) (C.varK rfl rfl rfl rfl) fun _ _ => rfl) (SE.deep (SE.callG (cal_of (w_12 F Z) rfl F.g_12 F.k_12 hr (by decide)) rfl (SA.cons (C.varK rfl rfl rfl rfl) (SA.cons (C.varK rfl rfl rfl rfl) (SA.cons (SE.bin op_fdivW g_div (C.varK rfl rfl rfl rfl) C.int) SA.nil rfl) rfl) rfl) rfl rfl rfl)) rfl) (SE.one (SE.cmp (op_eqD (hu64_ hr)) g_eq (SE.idx (hu_ hr) (SE.idx (hu_ hr) (C.varK rfl rfl rfl rfl) (C.varK rfl rfl rfl rfl) fun _ _ => rfl) (C.varK rfl rfl rfl rfl) fun _ _ => rfl) (SE.idx (hu_ hr) (SE.idx (hu_ hr) (C.varK rfl rfl rfl rfl) (SE.deep (SE.callG (cal_of (w_12 F Z) rfl F.g_12 F.k_12 hr (by decide)) rfl (SA.cons (C.varK rfl rfl rfl rfl) (SA.cons (C.varK rfl rfl rfl rfl) (SA.cons (SE.neg C.int) SA.nil rfl) rfl) rfl) rfl rfl rfl)) fun _ _ => rfl) (C.varK rfl rfl rfl rfl) fun _ _ => rfl) rfl))))))))
theorem sc_27 : FnScope N_27 ["group", "prime"] (L2.defScope st_27) := ⟨rfl, rfl, rfl, by decide +kernel, rfl, by decide +kernel, by decide +kernel⟩
theorem w_27 {P : Program} {w : World} {K : PySem.W.Frag} {mg : Str → Option Value} {base : Heap} (F : Fx K mg) (Z : Zx P K mg base) : ∃ fd, FnOk P w K mg base (L2.CX P w) 3 ((TB K).fa 27) fd ["group", "prime"] (spC K (TB K) (fun _ => c_27) 27 2) ∧ Binds K fd ["group", "prime"] [] ∧ (["group", "prime"] : List Str).length = 2 := by
  obtain ⟨fd, FD⟩ := F.fd_27
  refine ⟨fd, fn_okC (p := ("round_entry", none)) (ca := t_27) (ca' := fun _ => c_27) FD rfl sc_27 rfl (fun ws h => padF_eq _ _ _) ?_, FD.bindsN fun _ _ _ _ _ _ us hl => match us, hl with | [_, _], _ => rfl, rfl⟩
  intro A outer s H E hr
  exact (SSs.cons (SS.asg (SE.deep (SE.callP (cal_of (w_21 F Z) rfl F.g_21 F.k_21 hr (by decide)) rfl (SA.cons (SE.prop (prp_of (w_10 F Z) rfl F.scls_0 F.prp_10 hr (by decide)) (C.varK rfl rfl rfl rfl) rfl) (SA.cons (C.varK rfl rfl rfl rfl) SA.nil rfl) rfl) rfl rfl rfl)) (G.nm sc_27.nd rfl rfl (.inl rfl)) rfl rfl rfl) (SSs.cons (SS.asg (SE.nx hr rfl F.b_next Z.tb_27 rfl (tg_27 K) (gnm_by (own := [4]) rfl) (by decide) (SI.own (F.itr rfl rfl hr (by decide)) (C.varK rfl rfl rfl rfl)) (fun _ => rfl) (fun _ _ _ _ => (G.nm sc_27.nd rfl rfl (.inr rfl))) (fun _ _ _ _ => (STs.one (ST.cmp (op_eqD (hu64_ (room_gen hr))) g_eq (SE.deep (SE.callG (cal_of (w_11 F Z) rfl F.g_11 F.k_11 (room_gen hr) (by decide)) rfl (SA.cons (C.varK rfl rfl rfl rfl) (SA.cons (C.varK rfl rfl rfl rfl) SA.nil rfl) rfl) rfl rfl rfl)) (C.varK rfl rfl rfl rfl) rfl))) (fun _ _ _ _ => (C.varK rfl rfl rfl rfl))) (G.nm sc_27.nd rfl rfl (.inl rfl)) rfl rfl rfl) (SSs.one (SS.ret (SE.ife (ST.isN (C.varK rfl rfl rfl rfl) rfl) C.non (SE.tup (SA.cons (C.varK rfl rfl rfl rfl) (SA.cons (SE.glob (F.c_ROUND_WORD rfl rfl) rfl rfl) (SA.cons (C.varK rfl rfl rfl rfl) SA.nil rfl) rfl) rfl)))))))
theorem sc_28 : FnScope N_28 ["group"] (L2.defScope st_28) := ⟨rfl, rfl, rfl, by decide +kernel, rfl, by decide +kernel, by decide +kernel⟩
theorem w_28 {P : Program} {w : World} {K : PySem.W.Frag} {mg : Str → Option Value} {base : Heap} (F : Fx K mg) (Z : Zx P K mg base) : ∃ fd, FnOk P w K mg base (L2.CX P w) 6 ((TB K).fa 28) fd ["group"] (spC K (TB K) (fun _ => c_28) 28 1) ∧ Binds K fd ["group"] [] ∧ (["group"] : List Str).length = 1 := by
  obtain ⟨fd, FD⟩ := F.fd_28
  refine ⟨fd, fn_okC (p := ("eight_entry", none)) (ca := t_28) (ca' := fun _ => c_28) FD rfl sc_28 rfl (fun ws h => padF_eq _ _ _) ?_, FD.bindsN fun _ _ _ _ _ _ us hl => match us, hl with | [_], _ => rfl, rfl⟩
  intro A outer s H E hr
  exact (SSs.cons (SS.asg (SE.deep (SE.callP (cal_of (w_21 F Z) rfl F.g_21 F.k_21 hr (by decide)) rfl (SA.cons (SE.prop (prp_of (w_10 F Z) rfl F.scls_0 F.prp_10 hr (by decide)) (C.varK rfl rfl rfl rfl) rfl) (SA.cons C.int SA.nil rfl) rfl) rfl rfl rfl)) (G.nm sc_28.nd rfl rfl (.inl rfl)) rfl rfl rfl) (SSs.cons (SS.setLc rfl sc_28.nd rfl rfl (blkOk_by (own := [("one", 5)]) rfl) (by decide) (sw_any (.inl ⟨_, rfl⟩) rfl rfl rfl rfl) (SI.own (F.itr rfl rfl hr (by decide)) (C.varK rfl rfl rfl rfl)) (fun _ _ _ _ _ => (G.nm sc_28.nd rfl rfl (.inr rfl))) (fun _ _ _ _ _ => (STs.one (ST.cmp (op_eqD (hu64_ hr)) g_eq (SE.bin op_mulAll g_mul C.int (SE.deep (SE.callG (cal_of (w_11 F Z) rfl F.g_11 F.k_11 hr (by decide)) rfl (SA.cons (C.varK rfl rfl rfl rfl) (SA.cons (C.varK rfl rfl rfl rfl) SA.nil rfl) rfl) rfl rfl rfl))) (C.varK rfl rfl rfl rfl) rfl))) (fun _ _ _ _ _ => (C.varK rfl rfl rfl rfl)) fun _ => rfl) (SSs.cons (SS.setLc2 rfl sc_28.nd rfl rfl (blkOk_by (own := [("a", 6), ("b", 7)]) rfl) (by decide) (by decide) (by decide) (sw_any (.inl ⟨_, rfl⟩) rfl rfl rfl rfl) (SI.seq (C.varK rfl rfl rfl rfl)) (fun _ _ _ _ _ => (G.nm sc_28.nd rfl rfl (.inr rfl))) (fun _ _ _ _ _ => STs.nil) (fun _ _ _ _ _ => (SI.own (F.itr rfl rfl hr (by decide)) (C.varK rfl rfl rfl rfl))) (fun _ _ _ _ _ => (G.nm sc_28.nd rfl rfl (.inr rfl))) (fun _ _ _ _ _ => STs.nil) (fun _ _ _ _ _ => (SE.tup (SA.cons (C.varK rfl rfl rfl rfl) (SA.cons (C.varK rfl rfl rfl rfl) SA.nil rfl) rfl))) (fun _ => rfl) fun _ _ => rfl) (SSs.cons (SS.asg (SE.nx hr rfl F.b_next Z.tb_28 rfl (tg_28 K) (gnm_by (own := [6, 7]) rfl) (by decide) (SI.seq (C.varK rfl rfl rfl rfl)) (fun _ => rfl) (fun _ _ _ _ => (SG.tup rfl (names_cons (G.nm sc_28.nd rfl rfl (.inr rfl)) (names_cons (G.nm sc_28.nd rfl rfl (.inr rfl)) names_nil rfl) rfl) rfl rfl)) (fun _ _ _ _ => (STs.one (ST.val (SE.deep (SE.callG (cal_of (w_26 F Z) rfl F.g_26 F.k_26 (room_gen hr) (by decide)) rfl (SA.cons (C.varK rfl rfl rfl rfl) (SA.cons (C.varK rfl rfl rfl rfl) (SA.cons (C.varK rfl rfl rfl rfl) SA.nil rfl) rfl) rfl) rfl rfl rfl)) fun _ => rfl))) (fun _ _ _ _ => (SE.tup (SA.cons (C.varK rfl rfl rfl rfl) (SA.cons (C.varK rfl rfl rfl rfl) SA.nil rfl) rfl)))) (G.nm sc_28.nd rfl rfl (.inl rfl)) rfl rfl rfl) (SSs.one (SS.ret (SE.ife (ST.isN (C.varK rfl rfl rfl rfl) rfl) C.non (SE.tup (SA.cons C.int (SA.cons (SE.glob (F.c_EIGHT_WORD rfl rfl) rfl rfl) (SA.cons (SE.idx (hu_ hr) (C.varK rfl rfl rfl rfl) C.int fun _ _ => rfl) (SA.cons (SE.idx (hu_ hr) (C.varK rfl rfl rfl rfl) C.int fun _ _ => rfl) SA.nil rfl) rfl) rfl) rfl)))))))))
theorem sc_29 : FnScope N_29 ["group", "prime"] (L2.defScope st_29) := ⟨rfl, rfl, rfl, by decide +kernel, rfl, by decide +kernel, by decide +kernel⟩
theorem w_29 {P : Program} {w : World} {K : PySem.W.Frag} {mg : Str → Option Value} {base : Heap} (F : Fx K mg) (Z : Zx P K mg base) : ∃ fd, FnOk P w K mg base (L2.CX P w) 7 ((TB K).fa 29) fd ["group", "prime"] (spC K (TB K) (fun _ => c_29) 29 2) ∧ Binds K fd ["group", "prime"] [] ∧ (["group", "prime"] : List Str).length = 2 := by
  obtain ⟨fd, FD⟩ := F.fd_29
  refine ⟨fd, fn_ok (ca := t_29) (ca' := fun _ => c_29) FD sc_29 rfl (fun ws h => padF_eq _ _ _) ?_, FD.bindsN fun _ _ _ _ _ _ us hl => match us, hl with | [_, _], _ => rfl, rfl⟩
  intro cdv A outer s H E hr
  exact (SSs.cons (SS.asg (SE.deep (SE.callG (cal_of (w_27 F Z) rfl F.g_27 F.k_27 hr (by decide)) rfl (SA.cons (C.varK rfl rfl rfl rfl) (SA.cons (C.varK rfl rfl rfl rfl) SA.nil rfl) rfl) rfl rfl rfl)) (G.nm sc_29.nd rfl rfl (.inl rfl)) rfl rfl rfl) (SSs.one (SS.ret (SE.ife (SW.st (SW.and (ST.isN (C.varK rfl rfl rfl rfl) rfl) (SW.one (ST.cmp (op_eqD (hu64_ hr)) g_eq (C.varK rfl rfl rfl rfl) C.int rfl)))) (SE.deep (SE.callG (cal_of (w_28 F Z) rfl F.g_28 F.k_28 hr (by decide)) rfl (SA.cons (C.varK rfl rfl rfl rfl) SA.nil rfl) rfl rfl rfl)) (C.varK rfl rfl rfl rfl)))))
end
end VA
set_option Elab.async false
set_option linter.all false
set_option maxRecDepth 100000
set_option maxHeartbeats 8000000
namespace VA
noncomputable section
open PySem PySem.Spec PyProof.Rows L2 Srt
theorem sc_30 : FnScope N_30 ["group"] (L2.defScope st_30) := ⟨rfl, rfl, rfl, by decide +kernel, rfl, by decide +kernel, by decide +kernel⟩
theorem w_30 {P : Program} {w : World} {K : PySem.W.Frag} {mg : Str → Option Value} {base : Heap} (F : Fx K mg) (Z : Zx P K mg base) : ∃ fd, FnOk P w K mg base (L2.CX P w) 8 ((TB K).fa 30) fd ["group"] (spC K (TB K) (fun _ => c_30) 30 1) ∧ Binds K fd ["group"] [] ∧ (["group"] : List Str).length = 1 := by
  obtain ⟨fd, FD⟩ := F.fd_30
  refine ⟨fd, fn_ok (ca := t_30) (ca' := fun _ => c_30) FD sc_30 rfl (fun ws h => padF_eq _ _ _) ?_, FD.bindsN fun _ _ _ _ _ _ us hl => match us, hl with | [_], _ => rfl, rfl⟩
  intro cdv A outer s H E hr
  exact (SSs.cons (SS.setLc rfl sc_30.nd rfl rfl (blkOk_by (own := [("prime", 2)]) rfl) (by decide) (sw_any (.inl ⟨_, rfl⟩) rfl rfl rfl rfl) (SI.seq (SE.deep (SE.callG (cal_of (w_20 F Z) rfl F.g_20 F.k_20 hr (by decide)) rfl (SA.cons (C.varK rfl rfl rfl rfl) SA.nil rfl) rfl rfl rfl))) (fun _ _ _ _ _ => (G.nm sc_30.nd rfl rfl (.inr rfl))) (fun _ _ _ _ _ => STs.nil) (fun _ _ _ _ _ => (SE.deep (SE.callG (cal_of (w_29 F Z) rfl F.g_29 F.k_29 hr (by decide)) rfl (SA.cons (C.varK rfl rfl rfl rfl) (SA.cons (C.varK rfl rfl rfl rfl) SA.nil rfl) rfl) rfl rfl rfl))) fun _ => rfl) (SSs.one (SS.ret (SE.ife (ST.cmp (op_inW (hu65_ hr)) g_in C.non (C.varK rfl rfl rfl rfl) rfl) C.non (B.tuple rfl F.b_tuple (SA.cons (C.varK rfl rfl rfl rfl) SA.nil rfl) rfl)))))
theorem sc_31 : FnScope N_31 ["group", "prime"] (L2.defScope st_31) := ⟨rfl, rfl, rfl, by decide +kernel, rfl, by decide +kernel, by decide +kernel⟩
theorem w_31 {P : Program} {w : World} {K : PySem.W.Frag} {mg : Str → Option Value} {base : Heap} (F : Fx K mg) (Z : Zx P K mg base) : ∃ fd, FnOk P w K mg base (L2.CX P w) 5 ((TB K).fa 31) fd ["group", "prime"] (spC K (TB K) (fun _ => c_31) 31 2) ∧ Binds K fd ["group", "prime"] [] ∧ (["group", "prime"] : List Str).length = 2 := by
  obtain ⟨fd, FD⟩ := F.fd_31
  refine ⟨fd, fn_ok (ca := t_31) (ca' := fun _ => c_31) FD sc_31 rfl (fun ws h => padF_eq _ _ _) ?_, FD.bindsN fun _ _ _ _ _ _ us hl => match us, hl with | [_, _], _ => rfl, rfl⟩
  intro cdv A outer s H E hr
  exact (SSs.cons (SS.asg (SE.deep (SE.callG (cal_of (w_18 F Z) rfl F.g_18 F.k_18 hr (by decide)) rfl (SA.cons (C.varK rfl rfl rfl rfl) (SA.cons (C.varK rfl rfl rfl rfl) SA.nil rfl) rfl) rfl rfl rfl)) (G.nm sc_31.nd rfl rfl (.inl rfl)) rfl rfl rfl) (SSs.one (SS.ret (SE.bin op_fdivW g_div (B.len rfl F.b_len (SA.cons (SE.deep (SE.callG (cal_of (w_16 F Z) rfl F.g_16 F.k_16 hr (by decide)) rfl (SA.cons (C.varK rfl rfl rfl rfl) (SA.cons (C.varK rfl rfl rfl rfl) SA.nil rfl) rfl) rfl rfl rfl)) SA.nil rfl) rfl) (B.len rfl F.b_len (SA.cons (SE.deep (SE.callG (cal_of (w_17 F Z) rfl F.g_17 F.k_17 hr (by decide)) rfl (SA.cons (C.varK rfl rfl rfl rfl) (SA.cons (C.varK rfl rfl rfl rfl) SA.nil rfl) rfl) rfl rfl rfl)) SA.nil rfl) rfl)))))
theorem sc_32 : FnScope N_32 ["group"] (L2.defScope st_32) := ⟨rfl, rfl, rfl, by decide +kernel, rfl, by decide +kernel, by decide +kernel⟩
theorem w_32 {P : Program} {w : World} {K : PySem.W.Frag} {mg : Str → Option Value} {base : Heap} (F : Fx K mg) (Z : Zx P K mg base) : ∃ fd, FnOk P w K mg base (L2.CX P w) 9 ((TB K).fa 32) fd ["group"] (spC K (TB K) (fun _ => c_32) 32 1) ∧ Binds K fd ["group"] [] ∧ (["group"] : List Str).length = 1 := by
  obtain ⟨fd, FD⟩ := F.fd_32
  refine ⟨fd, fn_ok (ca := t_32) (ca' := fun _ => c_32) FD sc_32 rfl (fun ws h => padF_eq _ _ _) ?_, FD.bindsN fun _ _ _ _ _ _ us hl => match us, hl with | [_], _ => rfl, rfl⟩
  intro cdv A outer s H E hr
  exact (SSs.cons (SS.asg C.int (G.nm sc_32.nd rfl rfl (.inl rfl)) rfl rfl rfl) (SSs.cons (SS.for_ (passes_of rfl) rfl (SI.seq (SE.deep (SE.callG (cal_of (w_30 F Z) rfl F.g_30 F.k_30 hr (by decide)) rfl (SA.cons (C.varK rfl rfl rfl rfl) SA.nil rfl) rfl rfl rfl))) (G.nm sc_32.nd rfl rfl (.inl rfl)) (SSs.one (SS.if_ (ST.cmp (op_eqD (hu64_ hr)) g_eq (SE.idx (hu_ hr) (C.varK rfl rfl rfl rfl) C.int fun _ _ => rfl) (SE.glob (F.c_EIGHT_WORD rfl rfl) rfl rfl) rfl) (SSs.one (SS.asg (SE.lcm rfl F.m_lcm (SA.cons (C.varK rfl rfl rfl rfl) (SA.cons C.int SA.nil rfl) rfl) rfl rfl rfl) (G.nm sc_32.nd rfl rfl (.inl rfl)) rfl rfl rfl)) (SSs.one (SS.if_ (ST.cmp (op_neD (hu64_ hr)) g_ne (SE.idx (hu_ hr) (C.varK rfl rfl rfl rfl) C.int fun _ _ => rfl) C.int rfl) (SSs.one (SS.asg (SE.lcm rfl F.m_lcm (SA.cons (C.varK rfl rfl rfl rfl) (SA.cons (SE.bin op_mulAll g_mul C.int (SE.deep (SE.callG (cal_of (w_31 F Z) rfl F.g_31 F.k_31 hr (by decide)) rfl (SA.cons (C.varK rfl rfl rfl rfl) (SA.cons (SE.idx (hu_ hr) (C.varK rfl rfl rfl rfl) C.int fun _ _ => rfl) SA.nil rfl) rfl) rfl rfl rfl))) SA.nil rfl) rfl) rfl rfl rfl) (G.nm sc_32.nd rfl rfl (.inl rfl)) rfl rfl rfl)) SSs.nil)))) fun _ => rfl) (SSs.one (SS.ret (C.varK rfl rfl rfl rfl)))))
theorem sc_33 : FnScope N_33 ["group", "prime"] (L2.defScope st_33) := ⟨rfl, rfl, rfl, by decide +kernel, rfl, by decide +kernel, by decide +kernel⟩
theorem w_33 {P : Program} {w : World} {K : PySem.W.Frag} {mg : Str → Option Value} {base : Heap} (F : Fx K mg) (Z : Zx P K mg base) : ∃ fd, FnOk P w K mg base (L2.CX P w) 3 ((TB K).fa 33) fd ["group", "prime"] (spC K (TB K) (fun _ => c_33) 33 2) ∧ Binds K fd ["group", "prime"] [] ∧ (["group", "prime"] : List Str).length = 2 := by
  obtain ⟨fd, FD⟩ := F.fd_33
  refine ⟨fd, fn_ok (ca := t_33) (ca' := fun _ => c_33) FD sc_33 rfl (fun ws h => padF_eq _ _ _) ?_, FD.bindsN fun _ _ _ _ _ _ us hl => match us, hl with | [_, _], _ => rfl, rfl⟩
  intro cdv A outer s H E hr
  exact (SSs.cons (SS.expr (SE.deep (SE.callG (cal_of (w_19 F Z) rfl F.g_19 F.k_19 hr (by decide)) rfl (SA.cons (C.varK rfl rfl rfl rfl) SA.nil rfl) rfl rfl rfl)) rfl) (SSs.one (SS.if_ (SW.st (SW.or (ST.not (ST.val (SE.deep (SE.callP (cal_of (w_1 F Z) rfl F.g_1 F.k_1 hr (by decide)) rfl (SA.cons (C.varK rfl rfl rfl rfl) SA.nil rfl) rfl rfl rfl)) fun _ => rfl)) (SW.or (ST.cmp (op_notInW (hu65_ hr)) g_notIn (C.varK rfl rfl rfl rfl) (SE.glob (F.c_SMALL_PRIMES rfl rfl) rfl rfl) rfl) (SW.one (ST.cmp (op_neD (hu64_ hr)) g_ne (SE.bin op_mod g_mod (SE.prop (prp_of (w_10 F Z) rfl F.scls_0 F.prp_10 hr (by decide)) (C.varK rfl rfl rfl rfl) rfl) (C.varK rfl rfl rfl rfl)) C.int rfl))))) SSs.bad SSs.nil)))
theorem sc_34 : FnScope N_34 ["group"] (L2.defScope st_34) := ⟨rfl, rfl, rfl, by decide +kernel, rfl, by decide +kernel, by decide +kernel⟩
theorem w_34 {P : Program} {w : World} {K : PySem.W.Frag} {mg : Str → Option Value} {base : Heap} (F : Fx K mg) (Z : Zx P K mg base) : ∃ fd, FnOk P w K mg base (L2.CX P w) 7 ((TB K).fa 34) fd ["group"] (spC K (TB K) (fun _ => c_34) 34 1) ∧ Binds K fd ["group"] [] ∧ (["group"] : List Str).length = 1 := by
  obtain ⟨fd, FD⟩ := F.fd_34
  refine ⟨fd, fn_ok (ca := t_34) (ca' := fun _ => c_34) FD sc_34 rfl (fun ws h => padF_eq _ _ _) ?_, FD.bindsN fun _ _ _ _ _ _ us hl => match us, hl with | [_], _ => rfl, rfl⟩
  intro cdv A outer s H E hr
  exact (SSs.one (SS.if_ (ST.notN (SE.deep (SE.callG (cal_of (w_25 F Z) rfl F.g_25 F.k_25 hr (by decide)) rfl (SA.cons (C.varK rfl rfl rfl rfl) SA.nil rfl) rfl rfl rfl)) rfl) (SSs.one (SS.raise rfl (fun te he => pmk_2 F Z hr rfl he) (SE.glob (F.c_BAR_REASON rfl rfl) rfl rfl))) SSs.nil))
theorem sc_35 : FnScope N_35 ["group"] (L2.defScope st_35) := ⟨rfl, rfl, rfl, by decide +kernel, rfl, by decide +kernel, by decide +kernel⟩
theorem w_35 {P : Program} {w : World} {K : PySem.W.Frag} {mg : Str → Option Value} {base : Heap} (F : Fx K mg) (Z : Zx P K mg base) : ∃ fd, FnOk P w K mg base (L2.CX P w) 9 ((TB K).fa 35) fd ["group"] (spC K (TB K) (fun _ => c_35) 35 1) ∧ Binds K fd ["group"] [] ∧ (["group"] : List Str).length = 1 := by
  obtain ⟨fd, FD⟩ := F.fd_35
  refine ⟨fd, fn_ok (ca := t_35) (ca' := fun _ => c_35) FD sc_35 rfl (fun ws h => padF_eq _ _ _) ?_, FD.bindsN fun _ _ _ _ _ _ us hl => match us, hl with | [_], _ => rfl, rfl⟩
  intro cdv A outer s H E hr
  exact (SSs.cons (SS.expr (SE.deep (SE.callG (cal_of (w_19 F Z) rfl F.g_19 F.k_19 hr (by decide)) rfl (SA.cons (C.varK rfl rfl rfl rfl) SA.nil rfl) rfl rfl rfl)) rfl) (SSs.one (SS.ret (SE.deep (SE.callG (cal_of (w_30 F Z) rfl F.g_30 F.k_30 hr (by decide)) rfl (SA.cons (C.varK rfl rfl rfl rfl) SA.nil rfl) rfl rfl rfl)))))
end
end VA
set_option Elab.async false
set_option linter.all false
set_option maxRecDepth 100000
set_option maxHeartbeats 8000000
namespace VA
noncomputable section
open PySem PySem.Spec PyProof.Rows L2 Srt
theorem sc_36 : FnScope N_36 ["group", "prime"] (L2.defScope st_36) := ⟨rfl, rfl, rfl, by decide +kernel, rfl, by decide +kernel, by decide +kernel⟩
theorem w_36 {P : Program} {w : World} {K : PySem.W.Frag} {mg : Str → Option Value} {base : Heap} (F : Fx K mg) (Z : Zx P K mg base) : ∃ fd, FnOk P w K mg base (L2.CX P w) 6 ((TB K).fa 36) fd ["group", "prime"] (spC K (TB K) (fun _ => c_36) 36 2) ∧ Binds K fd ["group", "prime"] [] ∧ (["group", "prime"] : List Str).length = 2 := by
  obtain ⟨fd, FD⟩ := F.fd_36
  refine ⟨fd, fn_ok (ca := t_36) (ca' := fun _ => c_36) FD sc_36 rfl (fun ws h => padF_eq _ _ _) ?_, FD.bindsN fun _ _ _ _ _ _ us hl => match us, hl with | [_, _], _ => rfl, rfl⟩
  intro cdv A outer s H E hr
  exact (SSs.cons (SS.expr (SE.deep (SE.callG (cal_of (w_33 F Z) rfl F.g_33 F.k_33 hr (by decide)) rfl (SA.cons (C.varK rfl rfl rfl rfl) (SA.cons (C.varK rfl rfl rfl rfl) SA.nil rfl) rfl) rfl rfl rfl)) rfl) (SSs.one (SS.ret (SE.deep (SE.callG (cal_of (w_31 F Z) rfl F.g_31 F.k_31 hr (by decide)) rfl (SA.cons (C.varK rfl rfl rfl rfl) (SA.cons (C.varK rfl rfl rfl rfl) SA.nil rfl) rfl) rfl rfl rfl)))))
theorem sc_37 : FnScope N_37 ["group"] (L2.defScope st_37) := ⟨rfl, rfl, rfl, by decide +kernel, rfl, by decide +kernel, by decide +kernel⟩
theorem w_37 {P : Program} {w : World} {K : PySem.W.Frag} {mg : Str → Option Value} {base : Heap} (F : Fx K mg) (Z : Zx P K mg base) : ∃ fd, FnOk P w K mg base (L2.CX P w) 10 ((TB K).fa 37) fd ["group"] (spC K (TB K) (fun _ => c_37) 37 1) ∧ Binds K fd ["group"] [] ∧ (["group"] : List Str).length = 1 := by
  obtain ⟨fd, FD⟩ := F.fd_37
  refine ⟨fd, fn_ok (ca := t_37) (ca' := fun _ => c_37) FD sc_37 rfl (fun ws h => padF_eq _ _ _) ?_, FD.bindsN fun _ _ _ _ _ _ us hl => match us, hl with | [_], _ => rfl, rfl⟩
  intro cdv A outer s H E hr
  exact (SSs.cons (SS.expr (SE.deep (SE.callG (cal_of (w_19 F Z) rfl F.g_19 F.k_19 hr (by decide)) rfl (SA.cons (C.varK rfl rfl rfl rfl) SA.nil rfl) rfl rfl rfl)) rfl) (SSs.cons (SS.expr (SE.call (cal_of (w_34 F Z) rfl F.g_34 F.k_34 hr (by decide)) rfl (SA.cons (C.varK rfl rfl rfl rfl) SA.nil rfl) rfl rfl rfl) rfl) (SSs.one (SS.ret (SE.deep (SE.callG (cal_of (w_32 F Z) rfl F.g_32 F.k_32 hr (by decide)) rfl (SA.cons (C.varK rfl rfl rfl rfl) SA.nil rfl) rfl rfl rfl))))))
theorem sc_38 : FnScope N_38 ["_law_script", "_law_at"] (L2.defScope st_38) := ⟨rfl, rfl, rfl, by decide +kernel, rfl, by decide +kernel, by decide +kernel⟩
theorem w_38 {P : Program} {w : World} {K : PySem.W.Frag} {mg : Str → Option Value} {base : Heap} (F : Fx K mg) (Z : Zx P K mg base) : ∃ fd, FnOk P w K mg base (L2.CX P w) 1 ((TB K).fa 38) fd ["_law_script", "_law_at"] (spC K (TB K) (fun _ => c_38) 38 2) ∧ Binds K fd ["_law_script", "_law_at"] [] ∧ (["_law_script", "_law_at"] : List Str).length = 2 := by
  obtain ⟨fd, FD⟩ := F.fd_38
  refine ⟨fd, fn_ok (ca := t_38) (ca' := fun _ => c_38) FD sc_38 rfl (fun ws h => padF_eq _ _ _) ?_, FD.bindsN fun _ _ _ _ _ _ us hl => match us, hl with | [_, _], _ => rfl, rfl⟩
  intro cdv A outer s H E hr
  exact (SSs.cons (SS.asg (SE.bin op_addW g_add (SE.bin op_mulAll g_mul C.int (C.varK rfl rfl rfl rfl)) C.int) (G.nm sc_38.nd rfl rfl (.inl rfl)) rfl rfl rfl) (SSs.cons (SS.if_ (ST.cmp op_lt g_lt (C.varK rfl rfl rfl rfl) (B.len rfl F.b_len (SA.cons (C.varK rfl rfl rfl rfl) SA.nil rfl) rfl) rfl) (SSs.one (SS.asg (SE.idx (hu_ hr) (C.varK rfl rfl rfl rfl) (C.varK rfl rfl rfl rfl) fun _ _ => rfl) (G.nm sc_38.nd rfl rfl (.inl rfl)) rfl rfl rfl)) SSs.nil) (SSs.cons (SS.asg (SE.bin op_mod g_mod (B.int rfl F.b_int (SA.cons (B.abs rfl F.b_abs (SA.cons (C.varK rfl rfl rfl rfl) SA.nil rfl) rfl) SA.nil rfl) rfl) (SE.bin op_powW g_pow (SE.bin op_powW g_pow C.int C.int) C.int)) (G.nm sc_38.nd rfl rfl (.inl rfl)) rfl rfl rfl) (SSs.cons (SS.asg (SE.bin op_fdivW g_div (C.varK rfl rfl rfl rfl) (SE.bin op_powW g_pow C.int C.int)) (G.nm sc_38.nd rfl rfl (.inl rfl)) rfl rfl rfl) (SSs.cons (SS.asg (SE.bin op_addW g_add (SE.bin op_addW g_add (SE.bin op_addW g_add (SE.bin op_mulAll g_mul (SE.bin op_mod g_mod (C.varK rfl rfl rfl rfl) C.int) C.int) (SE.bin op_mulAll g_mul C.int (C.varK rfl rfl rfl rfl))) (SE.bin op_mulAll g_mul C.int (B.int rfl F.b_int (SA.cons (SE.cmp op_lt g_lt (C.varK rfl rfl rfl rfl) C.int rfl) SA.nil rfl) rfl))) C.int) (G.nm sc_38.nd rfl rfl (.inl rfl)) rfl rfl rfl) (SSs.one (SS.ret (SE.lst (SA.cons (C.varK rfl rfl rfl rfl) (SA.cons (SE.bin op_mod g_mod (C.varK rfl rfl rfl rfl) C.int) (SA.cons C.int SA.nil rfl) rfl) rfl)))))))))
theorem sc_39 : FnScope N_39 ["_law_dice_here", "_law_total"] (L2.defScope st_39) := ⟨rfl, rfl, rfl, by decide +kernel, rfl, by decide +kernel, by decide +kernel⟩
theorem w_39 {P : Program} {w : World} {K : PySem.W.Frag} {mg : Str → Option Value} {base : Heap} (F : Fx K mg) (Z : Zx P K mg base) : ∃ fd, FnOk P w K mg base (L2.CX P w) 1 ((TB K).fa 39) fd ["_law_dice_here", "_law_total"] (spC K (TB K) (fun _ => c_39) 39 2) ∧ Binds K fd ["_law_dice_here", "_law_total"] [] ∧ (["_law_dice_here", "_law_total"] : List Str).length = 2 := by
  obtain ⟨fd, FD⟩ := F.fd_39
  refine ⟨fd, fn_ok (ca := t_39) (ca' := fun _ => c_39) FD sc_39 rfl (fun ws h => padF_eq _ _ _) ?_, FD.bindsN fun _ _ _ _ _ _ us hl => match us, hl with | [_, _], _ => rfl, rfl⟩
  intro cdv A outer s H E hr
  exact (SSs.cons (SS.asg (B.int rfl F.b_int (SA.cons (C.varK rfl rfl rfl rfl) SA.nil rfl) rfl) (G.nm sc_39.nd rfl rfl (.inl rfl)) rfl rfl rfl) (SSs.cons (SS.if_ (ST.cmp op_gt g_gt (SE.idx (hu_ hr) (C.varK rfl rfl rfl rfl) C.int fun _ _ => rfl) C.int rfl) (SSs.cons (SS.asg (SE.bin op_mod g_mod (SE.idx (hu_ hr) (C.varK rfl rfl rfl rfl) C.int fun _ _ => rfl) (C.varK rfl rfl rfl rfl)) (G.nm sc_39.nd rfl rfl (.inl rfl)) rfl rfl rfl) (SSs.cons (SS.sidx (hu_ hr) (C.varK rfl rfl rfl rfl) C.int (SE.bin op_fdivW g_div (SE.idx (hu_ hr) (C.varK rfl rfl rfl rfl) C.int fun _ _ => rfl) (C.varK rfl rfl rfl rfl)) rfl rfl rfl fun _ => rfl) (SSs.one (SS.ret (B.int rfl F.b_int (SA.cons (C.varK rfl rfl rfl rfl) SA.nil rfl) rfl))))) SSs.nil) (SSs.cons (SS.sidx (hu_ hr) (C.varK rfl rfl rfl rfl) C.int (SE.bin op_addW g_add (SE.idx (hu_ hr) (C.varK rfl rfl rfl rfl) C.int fun _ _ => rfl) C.int) rfl rfl rfl fun _ => rfl) (SSs.cons (SS.asg (SE.bin op_mod g_mod (SE.bin op_addW g_add (SE.idx (hu_ hr) (C.varK rfl rfl rfl rfl) C.int fun _ _ => rfl) (SE.bin op_mulAll g_mul C.int (SE.idx (hu_ hr) (C.varK rfl rfl rfl rfl) C.int fun _ _ => rfl))) C.int) (G.nm sc_39.nd rfl rfl (.inl rfl)) rfl rfl rfl) (SSs.cons (SS.asg (SE.bin op_addW g_add (SE.bin op_mulAll g_mul (SE.bin op_mod g_mod (SE.bin op_mulAll g_mul (C.varK rfl rfl rfl rfl) (C.varK rfl rfl rfl rfl)) C.int) (C.varK rfl rfl rfl rfl)) (SE.bin op_mulAll g_mul C.int (SE.idx (hu_ hr) (C.varK rfl rfl rfl rfl) C.int fun _ _ => rfl))) (G.nm sc_39.nd rfl rfl (.inl rfl)) rfl rfl rfl) (SSs.cons (SS.asg (SE.bin op_mod g_mod (C.varK rfl rfl rfl rfl) C.int) (G.nm sc_39.nd rfl rfl (.inl rfl)) rfl rfl rfl) (SSs.one (SS.ret (B.int rfl F.b_int (SA.cons (SE.bin op_mod g_mod (SE.bin op_fdivW g_div (C.varK rfl rfl rfl rfl) C.int) (C.varK rfl rfl rfl rfl)) SA.nil rfl) rfl)))))))))
theorem sc_40 : FnScope N_40 ["_law_dice_here", "_law_items"] (L2.defScope st_40) := ⟨rfl, rfl, rfl, by decide +kernel, rfl, by decide +kernel, by decide +kernel⟩
theorem w_40 {P : Program} {w : World} {K : PySem.W.Frag} {mg : Str → Option Value} {base : Heap} (F : Fx K mg) (Z : Zx P K mg base) : ∃ fd, FnOk P w K mg base (L2.CX P w) 2 ((TB K).fa 40) fd ["_law_dice_here", "_law_items"] (spC K (TB K) (fun _ => c_40) 40 2) ∧ Binds K fd ["_law_dice_here", "_law_items"] [] ∧ (["_law_dice_here", "_law_items"] : List Str).length = 2 := by
  obtain ⟨fd, FD⟩ := F.fd_40
  refine ⟨fd, fn_ok (ca := t_40) (ca' := fun _ => c_40) FD sc_40 rfl (fun ws h => padF_eq _ _ _) ?_, FD.bindsN fun _ _ _ _ _ _ us hl => match us, hl with | [_, _], _ => rfl, rfl⟩
  intro cdv A outer s H E hr
  exact (SSs.one (SS.ret (SE.idx (hu_ hr) (C.varK rfl rfl rfl rfl) (SE.fork (SE.uniq (SE.call (cal_of (w_39 F Z) rfl F.g_39 F.k_39 hr (by decide)) rfl (SA.cons (C.varK rfl rfl rfl rfl) (SA.cons (B.len rfl F.b_len (SA.cons (C.varK rfl rfl rfl rfl) SA.nil rfl) rfl) SA.nil rfl) rfl) rfl rfl rfl))) fun _ _ => rfl)))
theorem sc_41 : FnScope N_41 ["_law_one", "_law_other"] (L2.defScope st_41) := ⟨rfl, rfl, rfl, by decide +kernel, rfl, by decide +kernel, by decide +kernel⟩
theorem w_41 {P : Program} {w : World} {K : PySem.W.Frag} {mg : Str → Option Value} {base : Heap} (F : Fx K mg) (Z : Zx P K mg base) : ∃ fd, FnOk P w K mg base (L2.CX P w) 1 ((TB K).fa 41) fd ["_law_one", "_law_other"] (spC K (TB K) (fun _ => c_41) 41 2) ∧ Binds K fd ["_law_one", "_law_other"] [] ∧ (["_law_one", "_law_other"] : List Str).length = 2 := by
  obtain ⟨fd, FD⟩ := F.fd_41
  refine ⟨fd, fn_ok (ca := t_41) (ca' := fun _ => c_41) FD sc_41 rfl (fun ws h => padF_eq _ _ _) ?_, FD.bindsN fun _ _ _ _ _ _ us hl => match us, hl with | [_, _], _ => rfl, rfl⟩
  intro cdv A outer s H E hr
  exact (SSs.one (SS.ret (B.tuple rfl F.b_tuple (SA.cons (SE.lc rfl sc_41.nd (blkOk_by (own := [("_law_place", 2)]) rfl) (by decide) (SI.seq (C.varK rfl rfl rfl rfl)) (fun _ _ _ _ _ => (G.nm sc_41.nd rfl rfl (.inr rfl))) (fun _ _ _ _ _ => STs.nil) (fun _ _ _ _ _ => (SE.idx (hu_ hr) (C.varK rfl rfl rfl rfl) (C.varK rfl rfl rfl rfl) fun _ _ => rfl)) fun _ => rfl) SA.nil rfl) rfl)))
end
end VA
set_option Elab.async false
set_option linter.all false
set_option maxRecDepth 100000
set_option maxHeartbeats 8000000
namespace VA
noncomputable section
open PySem PySem.Spec PyProof.Rows L2 Srt
theorem sc_42 : FnScope N_42 ["_law_moves"] (L2.defScope st_42) := ⟨rfl, rfl, rfl, by decide +kernel, rfl, by decide +kernel, by decide +kernel⟩
theorem w_42 {P : Program} {w : World} {K : PySem.W.Frag} {mg : Str → Option Value} {base : Heap} (F : Fx K mg) (Z : Zx P K mg base) : ∃ fd, FnOk P w K mg base (L2.CX P w) 2 ((TB K).fa 42) fd ["_law_moves"] (spC K (TB K) (fun _ => c_42) 42 1) ∧ Binds K fd ["_law_moves"] [] ∧ (["_law_moves"] : List Str).length = 1 := by
  obtain ⟨fd, FD⟩ := F.fd_42
  refine ⟨fd, fn_ok (ca := t_42) (ca' := fun _ => c_42) FD sc_42 rfl (fun ws h => padF_eq _ _ _) ?_, FD.bindsN fun _ _ _ _ _ _ us hl => match us, hl with | [_], _ => rfl, rfl⟩
  intro cdv A outer s H E hr
  exact (SSs.cons (SS.asg (SE.tupRg rfl rfl F.b_tuple rfl F.b_range (B.len rfl F.b_len (SA.cons (SE.idx (hu_ hr) (C.varK rfl rfl rfl rfl) C.int fun _ _ => rfl) SA.nil rfl) rfl) rfl rfl) (G.nm sc_42.nd rfl rfl (.inl rfl)) rfl rfl rfl) (SSs.cons (SS.par2 rfl sc_42.nd rfl rfl (by decide) rfl rfl (SA.cons (SE.dispT (hu_ hr) (SPs.cons (C.varK rfl rfl rfl rfl) C.int SPs.nil) rfl rfl (by simp) (by simp)) (SA.cons (SE.lst (SA.cons (C.varK rfl rfl rfl rfl) SA.nil rfl)) SA.nil rfl) rfl) rfl rfl) (SSs.cons (SS.while_ (passes_of rfl) (ST.cmp (op_neD (hu64_ hr)) g_ne (C.varK rfl rfl rfl rfl) (SE.lst SA.nil) rfl) (SSs.cons (SS.asg (SE.lst SA.nil) (G.nm sc_42.nd rfl rfl (.inl rfl)) rfl rfl rfl) (SSs.cons (SS.for_ (passes_of rfl) rfl (SI.seq (C.varK rfl rfl rfl rfl)) (G.nm sc_42.nd rfl rfl (.inl rfl)) (SSs.one (SS.for_ (passes_of rfl) rfl (SI.seq (C.varK rfl rfl rfl rfl)) (G.nm sc_42.nd rfl rfl (.inl rfl)) (SSs.cons (SS.asg (SE.deep (SE.callP (cal_of (w_41 F Z) rfl F.g_41 F.k_41 hr (by decide)) rfl (SA.cons (C.varK rfl rfl rfl rfl) (SA.cons (C.varK rfl rfl rfl rfl) SA.nil rfl) rfl) rfl rfl rfl)) (G.nm sc_42.nd rfl rfl (.inl rfl)) rfl rfl rfl) (SSs.one (SS.if_ (ST.cmp (op_notInW (hu65_ hr)) g_notIn (C.varK rfl rfl rfl rfl) (C.varK rfl rfl rfl rfl) rfl) (SSs.cons (SS.sidx (hu_ hr) (C.varK rfl rfl rfl rfl) (C.varK rfl rfl rfl rfl) C.int rfl rfl rfl fun _ => rfl) (SSs.one (SS.expr (SE.append (C.varK rfl rfl rfl rfl) (SA.cons (C.varK rfl rfl rfl rfl) SA.nil rfl) rfl rfl rfl rfl rfl) rfl))) SSs.nil))) fun _ => rfl)) fun _ => rfl) (SSs.one (SS.asg (B.list rfl rfl F.b_list (SA.cons (C.varK rfl rfl rfl rfl) SA.nil rfl) rfl) (G.nm sc_42.nd rfl rfl (.inl rfl)) rfl rfl rfl))))) (SSs.one (SS.ret (B.sorted rfl rfl F.b_sorted (SA.cons (C.varK rfl rfl rfl rfl) SA.nil rfl) rfl))))))
theorem sc_43 : FnScope N_43 ["_law_moves"] (L2.defScope st_43) := ⟨rfl, rfl, rfl, by decide +kernel, rfl, by decide +kernel, by decide +kernel⟩
theorem w_43 {P : Program} {w : World} {K : PySem.W.Frag} {mg : Str → Option Value} {base : Heap} (F : Fx K mg) (Z : Zx P K mg base) : ∃ fd, FnOk P w K mg base (L2.CX P w) 3 ((TB K).fa 43) fd ["_law_moves"] (spC K (TB K) (fun _ => c_43) 43 1) ∧ Binds K fd ["_law_moves"] [] ∧ (["_law_moves"] : List Str).length = 1 := by
  obtain ⟨fd, FD⟩ := F.fd_43
  refine ⟨fd, fn_ok (ca := t_43) (ca' := fun _ => c_43) FD sc_43 rfl (fun ws h => padF_eq _ _ _) ?_, FD.bindsN fun _ _ _ _ _ _ us hl => match us, hl with | [_], _ => rfl, rfl⟩
  intro cdv A outer s H E hr
  exact (SSs.cons (SS.asg (SE.deep (SE.callP (cal_of (w_42 F Z) rfl F.g_42 F.k_42 hr (by decide)) rfl (SA.cons (C.varK rfl rfl rfl rfl) SA.nil rfl) rfl rfl rfl)) (G.nm sc_43.nd rfl rfl (.inl rfl)) rfl rfl rfl) (SSs.cons (SS.asg (SE.dictT rfl (hu2_ hr) rfl F.b_dict (SA.cons (SE.lc rfl sc_43.nd (blkOk_by (own := [("_law_at", 7), ("_law_one", 5)]) rfl) (by decide) (SI.enum rfl F.b_enumerate (SA.cons (C.varK rfl rfl rfl rfl) SA.nil rfl) rfl) (fun _ _ _ _ _ => (SG.tup rfl (names_cons (G.nm sc_43.nd rfl rfl (.inr rfl)) (names_cons (G.nm sc_43.nd rfl rfl (.inr rfl)) names_nil rfl) rfl) rfl rfl)) (fun _ _ _ _ _ => STs.nil) (fun _ _ _ _ _ => (SE.tup (SA.cons (C.varK rfl rfl rfl rfl) (SA.cons (C.varK rfl rfl rfl rfl) SA.nil rfl) rfl))) fun _ => rfl) SA.nil rfl) rfl) (G.nm sc_43.nd rfl rfl (.inl rfl)) rfl rfl rfl) (SSs.cons (SS.setLc rfl sc_43.nd rfl rfl (blkOk_by (own := [("_law_one", 5)]) rfl) (by decide) (sw_any (.inl ⟨_, rfl⟩) rfl rfl rfl rfl) (SI.seq (C.varK rfl rfl rfl rfl)) (fun _ _ _ _ _ => (G.nm sc_43.nd rfl rfl (.inl rfl))) (fun _ _ _ _ _ => STs.nil) (fun _ _ _ _ _ => (SE.lc rfl sc_43.nd (blkOk_by (own := [("_law_other", 8)]) rfl) (by decide) (SI.seq (C.varK rfl rfl rfl rfl)) (fun _ _ _ _ _ => (G.nm sc_43.nd rfl rfl (.inr rfl))) (fun _ _ _ _ _ => STs.nil) (fun _ _ _ _ _ => (SE.idx (hu_ hr) (C.varK rfl rfl rfl rfl) (SE.deep (SE.callP (cal_of (w_41 F Z) rfl F.g_41 F.k_41 hr (by decide)) rfl (SA.cons (C.varK rfl rfl rfl rfl) (SA.cons (C.varK rfl rfl rfl rfl) SA.nil rfl) rfl) rfl rfl rfl)) fun _ _ => rfl)) fun _ => rfl)) fun _ => rfl) (SSs.cons (SS.setLc rfl sc_43.nd rfl rfl (blkOk_by (own := [("_law_line", 6)]) rfl) (by decide) (sw_any (.inl ⟨_, rfl⟩) rfl rfl rfl rfl) (SI.seq (C.varK rfl rfl rfl rfl)) (fun _ _ _ _ _ => (G.nm sc_43.nd rfl rfl (.inr rfl))) (fun _ _ _ _ _ => STs.nil) (fun _ _ _ _ _ => (SE.indexL (C.varK rfl rfl rfl rfl) (SA.cons C.int SA.nil rfl) rfl rfl rfl rfl rfl)) fun _ => rfl) (SSs.one (SS.ret (SE.dispK (SPs.cons (C.str rfl) (B.tuple rfl F.b_tuple (SA.cons (C.varK rfl rfl rfl rfl) SA.nil rfl) rfl) (SPs.cons (C.str rfl) (C.varK rfl rfl rfl rfl) (SPs.cons (C.str rfl) (B.len rfl F.b_len (SA.cons (C.varK rfl rfl rfl rfl) SA.nil rfl) rfl) (SPs.cons (C.str rfl) (C.varK rfl rfl rfl rfl) (SPs.cons (C.str rfl) (C.varK rfl rfl rfl rfl) SPs.nil))))) rfl rfl (by simp) (by simp))))))))
theorem sc_44 : FnScope N_44 ["_law_size"] (L2.defScope st_44) := ⟨rfl, rfl, rfl, by decide +kernel, rfl, by decide +kernel, by decide +kernel⟩
theorem w_44 {P : Program} {w : World} {K : PySem.W.Frag} {mg : Str → Option Value} {base : Heap} (F : Fx K mg) (Z : Zx P K mg base) : ∃ fd, FnOk P w K mg base (L2.CX P w) 1 ((TB K).fa 44) fd ["_law_size"] (spC K (TB K) (fun _ => c_44) 44 1) ∧ Binds K fd ["_law_size"] [] ∧ (["_law_size"] : List Str).length = 1 := by
  obtain ⟨fd, FD⟩ := F.fd_44
  refine ⟨fd, fn_ok (ca := t_44) (ca' := fun _ => c_44) FD sc_44 rfl (fun ws h => padF_eq _ _ _) ?_, FD.bindsN fun _ _ _ _ _ _ us hl => match us, hl with | [_], _ => rfl, rfl⟩
  intro cdv A outer s H E hr
  exact (SSs.one (SS.ret (SE.tup (SA.cons (B.tuple rfl F.b_tuple (SA.cons (SE.lc rfl sc_44.nd (blkOk_by (own := [("_law_at", 1)]) rfl) (by decide) (SI.rng1 rfl F.b_range (SA.cons (C.varK rfl rfl rfl rfl) SA.nil rfl) rfl) (fun _ _ _ _ _ => (G.nm sc_44.nd rfl rfl (.inr rfl))) (fun _ _ _ _ _ => STs.nil) (fun _ _ _ _ _ => (SE.bin op_mod g_mod (B.int rfl F.b_int (SA.cons (SE.bin op_addW g_add (C.varK rfl rfl rfl rfl) C.int) SA.nil rfl) rfl) (C.varK rfl rfl rfl rfl))) fun _ => rfl) SA.nil rfl) rfl) SA.nil rfl))))
theorem sc_45 : FnScope N_45 [] (L2.defScope st_45) := ⟨rfl, rfl, rfl, by decide +kernel, rfl, by decide +kernel, by decide +kernel⟩
theorem w_45 {P : Program} {w : World} {K : PySem.W.Frag} {mg : Str → Option Value} {base : Heap} (F : Fx K mg) (Z : Zx P K mg base) : ∃ fd, FnOk P w K mg base (L2.CX P w) 2 ((TB K).fa 45) fd [] (spC K (TB K) (fun _ => c_45) 45 0) ∧ Binds K fd [] [] ∧ ([] : List Str).length = 0 := by
  obtain ⟨fd, FD⟩ := F.fd_45
  refine ⟨fd, fn_ok (ca := t_45) (ca' := fun _ => c_45) FD sc_45 rfl (fun ws h => padF_eq _ _ _) ?_, FD.bindsN fun _ _ _ _ _ _ us hl => match us, hl with | [], _ => rfl, rfl⟩
  intro cdv A outer s H E hr
  exact (SSs.cons (SS.asg (SE.dictK rfl rfl F.b_dict (SA.cons (SE.lc rfl sc_45.nd (blkOk_by (own := [("_law_size", 1)]) rfl) (by decide) (SI.rng2 rfl F.b_range (SA.cons C.int (SA.cons C.int SA.nil rfl) rfl) rfl rfl) (fun _ _ _ _ _ => (G.nm sc_45.nd rfl rfl (.inr rfl))) (fun _ _ _ _ _ => STs.nil) (fun _ _ _ _ _ => (SE.tup (SA.cons (SE.bin op_addW g_add (C.str rfl) (B.str rfl F.b_str (SA.cons (C.varK rfl rfl rfl rfl) SA.nil rfl) rfl)) (SA.cons (SE.deep (SE.callP (cal_of (w_44 F Z) rfl F.g_44 F.k_44 hr (by decide)) rfl (SA.cons (C.varK rfl rfl rfl rfl) SA.nil rfl) rfl rfl rfl)) SA.nil rfl) rfl))) fun _ => rfl) SA.nil rfl) rfl) (G.nm sc_45.nd rfl rfl (.inl rfl)) rfl rfl rfl) (SSs.cons (SS.sidx (hu_ hr) (C.varK rfl rfl rfl rfl) (C.str rfl) (SE.tup (SA.cons (SE.tup (SA.cons C.int (SA.cons C.int (SA.cons C.int (SA.cons C.int SA.nil rfl) rfl) rfl) rfl)) (SA.cons (SE.tup (SA.cons C.int (SA.cons C.int (SA.cons C.int (SA.cons C.int SA.nil rfl) rfl) rfl) rfl)) SA.nil rfl) rfl)) rfl rfl rfl fun _ => rfl) (SSs.cons (SS.sidx (hu_ hr) (C.varK rfl rfl rfl rfl) (C.str rfl) (SE.tup (SA.cons (SE.tup (SA.cons C.int (SA.cons C.int (SA.cons C.int (SA.cons C.int (SA.cons C.int (SA.cons C.int SA.nil rfl) rfl) rfl) rfl) rfl) rfl)) (SA.cons (SE.tup (SA.cons C.int (SA.cons C.int (SA.cons C.int (SA.cons C.int (SA.cons C.int (SA.cons C.int SA.nil rfl) rfl) rfl) rfl) rfl) rfl)) SA.nil rfl) rfl)) rfl rfl rfl fun _ => rfl) (SSs.cons (SS.sidx (hu_ hr) (C.varK rfl rfl rfl rfl) (C.str rfl) (SE.tup (SA.cons (SE.tup (SA.cons C.int (SA.cons C.int (SA.cons C.int (SA.cons C.int (SA.cons C.int (SA.cons C.int SA.nil rfl) rfl) rfl) rfl) rfl) rfl)) (SA.cons (SE.tup (SA.cons C.int (SA.cons C.int (SA.cons C.int (SA.cons C.int (SA.cons C.int (SA.cons C.int SA.nil rfl) rfl) rfl) rfl) rfl) rfl)) SA.nil rfl) rfl)) rfl rfl rfl fun _ => rfl) (SSs.cons (SS.sidx (hu_ hr) (C.varK rfl rfl rfl rfl) (C.str rfl) (SE.tup (SA.cons (SE.tup (SA.cons C.int (SA.cons C.int (SA.cons C.int SA.nil rfl) rfl) rfl)) (SA.cons (SE.tup (SA.cons C.int (SA.cons C.int (SA.cons C.int SA.nil rfl) rfl) rfl)) SA.nil rfl) rfl)) rfl rfl rfl fun _ => rfl) (SSs.cons (SS.sidx (hu_ hr) (C.varK rfl rfl rfl rfl) (C.str rfl) (SE.tup (SA.cons (SE.tup (SA.cons C.int (SA.cons C.int (SA.cons C.int (SA.cons C.int SA.nil rfl) rfl) rfl) rfl)) (SA.cons (SE.tup (SA.cons C.int (SA.cons C.int (SA.cons C.int (SA.cons C.int SA.nil rfl) rfl) rfl) rfl)) SA.nil rfl) rfl)) rfl rfl rfl fun _ => rfl) (SSs.cons (SS.sidx (hu_ hr) (C.varK rfl rfl rfl rfl) (C.str rfl) (SE.tup (SA.cons (SE.tup (SA.cons C.int (SA.cons C.int (SA.cons C.int (SA.cons C.int (SA.cons C.int (SA.cons C.int (SA.cons C.int (SA.cons C.int SA.nil rfl) rfl) rfl) rfl) rfl) rfl) rfl) rfl)) (SA.cons (SE.tup (SA.cons C.int (SA.cons C.int (SA.cons C.int (SA.cons C.int (SA.cons C.int (SA.cons C.int (SA.cons C.int (SA.cons C.int SA.nil rfl) rfl) rfl) rfl) rfl) rfl) rfl) rfl)) SA.nil rfl) rfl)) rfl rfl rfl fun _ => rfl) (SSs.cons (SS.sidx (hu_ hr) (C.varK rfl rfl rfl rfl) (C.str rfl) (SE.tup (SA.cons (SE.tup (SA.cons C.int (SA.cons C.int (SA.cons C.int (SA.cons C.int SA.nil rfl) rfl) rfl) rfl)) (SA.cons (SE.tup (SA.cons C.int (SA.cons C.int (SA.cons C.int (SA.cons C.int SA.nil rfl) rfl) rfl) rfl)) SA.nil rfl) rfl)) rfl rfl rfl fun _ => rfl) (SSs.cons (SS.sidx (hu_ hr) (C.varK rfl rfl rfl rfl) (C.str rfl) (SE.tup (SA.cons (SE.tup (SA.cons C.int (SA.cons C.int (SA.cons C.int (SA.cons C.int (SA.cons C.int SA.nil rfl) rfl) rfl) rfl) rfl)) (SA.cons (SE.tup (SA.cons C.int (SA.cons C.int (SA.cons C.int (SA.cons C.int (SA.cons C.int SA.nil rfl) rfl) rfl) rfl) rfl)) SA.nil rfl) rfl)) rfl rfl rfl fun _ => rfl) (SSs.cons (SS.sidx (hu_ hr) (C.varK rfl rfl rfl rfl) (C.str rfl) (SE.tup (SA.cons (SE.tup (SA.cons C.int (SA.cons C.int (SA.cons C.int (SA.cons C.int (SA.cons C.int (SA.cons C.int SA.nil rfl) rfl) rfl) rfl) rfl) rfl)) (SA.cons (SE.tup (SA.cons C.int (SA.cons C.int (SA.cons C.int (SA.cons C.int (SA.cons C.int (SA.cons C.int SA.nil rfl) rfl) rfl) rfl) rfl) rfl)) SA.nil rfl) rfl)) rfl rfl rfl fun _ => rfl) (SSs.one (SS.ret (C.varK rfl rfl rfl rfl)))))))))))))
theorem sc_46 : FnScope N_46 ["_law_group_here", "_law_member"] (L2.defScope st_46) := ⟨rfl, rfl, rfl, by decide +kernel, rfl, by decide +kernel, by decide +kernel⟩
theorem w_46 {P : Program} {w : World} {K : PySem.W.Frag} {mg : Str → Option Value} {base : Heap} (F : Fx K mg) (Z : Zx P K mg base) : ∃ fd, FnOk P w K mg base (L2.CX P w) 1 ((TB K).fa 46) fd ["_law_group_here", "_law_member"] (spC K (TB K) (fun _ => c_46) 46 2) ∧ Binds K fd ["_law_group_here", "_law_member"] [] ∧ (["_law_group_here", "_law_member"] : List Str).length = 2 := by
  obtain ⟨fd, FD⟩ := F.fd_46
  refine ⟨fd, fn_ok (ca := t_46) (ca' := fun _ => c_46) FD sc_46 rfl (fun ws h => padF_eq _ _ _) ?_, FD.bindsN fun _ _ _ _ _ _ us hl => match us, hl with | [_, _], _ => rfl, rfl⟩
  intro cdv A outer s H E hr
  exact (SSs.cons (SS.par2 rfl sc_46.nd rfl rfl (by decide) rfl rfl (SA.cons C.int (SA.cons (C.varK rfl rfl rfl rfl) SA.nil rfl) rfl) rfl rfl) (SSs.cons (SS.while_ (passes_of rfl) (ST.cmp (op_neD (hu64_ hr)) g_ne (C.varK rfl rfl rfl rfl) C.int rfl) (SSs.one (SS.par2 rfl sc_46.nd rfl rfl (by decide) rfl rfl (SA.cons (SE.idx (hu_ hr) (SE.idx (hu_ hr) (SE.idx (hu_ hr) (C.varK rfl rfl rfl rfl) (C.str rfl) fun _ _ => rfl) (C.varK rfl rfl rfl rfl) fun _ _ => rfl) (C.varK rfl rfl rfl rfl) fun _ _ => rfl) (SA.cons (SE.bin op_addW g_add (C.varK rfl rfl rfl rfl) C.int) SA.nil rfl) rfl) rfl rfl))) (SSs.one (SS.ret (C.varK rfl rfl rfl rfl)))))
theorem sc_47 : FnScope N_47 ["_law_group_here", "_law_makers"] (L2.defScope st_47) := ⟨rfl, rfl, rfl, by decide +kernel, rfl, by decide +kernel, by decide +kernel⟩
theorem w_47 {P : Program} {w : World} {K : PySem.W.Frag} {mg : Str → Option Value} {base : Heap} (F : Fx K mg) (Z : Zx P K mg base) : ∃ fd, FnOk P w K mg base (L2.CX P w) 1 ((TB K).fa 47) fd ["_law_group_here", "_law_makers"] (spC K (TB K) (fun _ => c_47) 47 2) ∧ Binds K fd ["_law_group_here", "_law_makers"] [] ∧ (["_law_group_here", "_law_makers"] : List Str).length = 2 := by
  obtain ⟨fd, FD⟩ := F.fd_47
  refine ⟨fd, fn_ok (ca := t_47) (ca' := fun _ => c_47) FD sc_47 rfl (fun ws h => padF_eq _ _ _) ?_, FD.bindsN fun _ _ _ _ _ _ us hl => match us, hl with | [_, _], _ => rfl, rfl⟩
  intro cdv A outer s H E hr
  exact (SSs.cons (SS.par2 rfl sc_47.nd rfl rfl (by decide) rfl rfl (SA.cons (SE.dispK (SPs.cons C.int C.int SPs.nil) rfl rfl (by simp) (by simp)) (SA.cons (SE.lst (SA.cons C.int SA.nil rfl)) SA.nil rfl) rfl) rfl rfl) (SSs.cons (SS.while_ (passes_of rfl) (ST.cmp (op_neD (hu64_ hr)) g_ne (C.varK rfl rfl rfl rfl) (SE.lst SA.nil) rfl) (SSs.cons (SS.asg (SE.lst SA.nil) (G.nm sc_47.nd rfl rfl (.inl rfl)) rfl rfl rfl) (SSs.cons (SS.for_ (passes_of rfl) rfl (SI.seq (C.varK rfl rfl rfl rfl)) (G.nm sc_47.nd rfl rfl (.inl rfl)) (SSs.one (SS.for_ (passes_of rfl) rfl (SI.seq (C.varK rfl rfl rfl rfl)) (G.nm sc_47.nd rfl rfl (.inl rfl)) (SSs.cons (SS.asg (SE.idx (hu_ hr) (SE.idx (hu_ hr) (SE.idx (hu_ hr) (C.varK rfl rfl rfl rfl) (C.str rfl) fun _ _ => rfl) (C.varK rfl rfl rfl rfl) fun _ _ => rfl) (C.varK rfl rfl rfl rfl) fun _ _ => rfl) (G.nm sc_47.nd rfl rfl (.inl rfl)) rfl rfl rfl) (SSs.one (SS.if_ (ST.cmp (op_notInW (hu65_ hr)) g_notIn (C.varK rfl rfl rfl rfl) (C.varK rfl rfl rfl rfl) rfl) (SSs.cons (SS.sidx (hu_ hr) (C.varK rfl rfl rfl rfl) (C.varK rfl rfl rfl rfl) C.int rfl rfl rfl fun _ => rfl) (SSs.one (SS.expr (SE.append (C.varK rfl rfl rfl rfl) (SA.cons (C.varK rfl rfl rfl rfl) SA.nil rfl) rfl rfl rfl rfl rfl) rfl))) SSs.nil))) fun _ => rfl)) fun _ => rfl) (SSs.one (SS.asg (B.list rfl rfl F.b_list (SA.cons (C.varK rfl rfl rfl rfl) SA.nil rfl) rfl) (G.nm sc_47.nd rfl rfl (.inl rfl)) rfl rfl rfl))))) (SSs.one (SS.ret (B.tuple rfl F.b_tuple (SA.cons (B.sorted rfl rfl F.b_sorted (SA.cons (C.varK rfl rfl rfl rfl) SA.nil rfl) rfl) SA.nil rfl) rfl)))))
end
end VA
set_option Elab.async false
set_option linter.all false
set_option maxRecDepth 100000
set_option maxHeartbeats 8000000
namespace VA
noncomputable section
open PySem PySem.Spec PyProof.Rows L2 Srt
theorem sc_48 : FnScope N_48 ["_law_one", "_law_other"] (L2.defScope st_48) := ⟨rfl, rfl, rfl, by decide +kernel, rfl, by decide +kernel, by decide +kernel⟩
theorem w_48 {P : Program} {w : World} {K : PySem.W.Frag} {mg : Str → Option Value} {base : Heap} (F : Fx K mg) (Z : Zx P K mg base) : ∃ fd, FnOk P w K mg base (L2.CX P w) 1 ((TB K).fa 48) fd ["_law_one", "_law_other"] (spC K (TB K) (fun _ => c_48) 48 2) ∧ Binds K fd ["_law_one", "_law_other"] [] ∧ (["_law_one", "_law_other"] : List Str).length = 2 := by
  obtain ⟨fd, FD⟩ := F.fd_48
  refine ⟨fd, fn_ok (ca := t_48) (ca' := fun _ => c_48) FD sc_48 rfl (fun ws h => padF_eq _ _ _) ?_, FD.bindsN fun _ _ _ _ _ _ us hl => match us, hl with | [_, _], _ => rfl, rfl⟩
  intro cdv A outer s H E hr
  exact (SSs.cons (SS.par2 rfl sc_48.nd rfl rfl (by decide) rfl rfl (SA.cons (B.abs rfl F.b_abs (SA.cons (C.varK rfl rfl rfl rfl) SA.nil rfl) rfl) (SA.cons (B.abs rfl F.b_abs (SA.cons (C.varK rfl rfl rfl rfl) SA.nil rfl) rfl) SA.nil rfl) rfl) rfl rfl) (SSs.cons (SS.while_ (passes_of rfl) (ST.cmp op_gt g_gt (C.varK rfl rfl rfl rfl) C.int rfl) (SSs.one (SS.par2 rfl sc_48.nd rfl rfl (by decide) rfl rfl (SA.cons (C.varK rfl rfl rfl rfl) (SA.cons (SE.bin op_mod g_mod (C.varK rfl rfl rfl rfl) (C.varK rfl rfl rfl rfl)) SA.nil rfl) rfl) rfl rfl))) (SSs.one (SS.ret (C.varK rfl rfl rfl rfl)))))
theorem sc_49 : FnScope N_49 [] (L2.defScope st_49) := ⟨rfl, rfl, rfl, by decide +kernel, rfl, by decide +kernel, by decide +kernel⟩
theorem w_49 {P : Program} {w : World} {K : PySem.W.Frag} {mg : Str → Option Value} {base : Heap} (F : Fx K mg) (Z : Zx P K mg base) : ∃ fd, FnOk P w K mg base (L2.CX P w) 3 ((TB K).fa 49) fd [] (spC K (TB K) (fun _ => c_49) 49 0) ∧ Binds K fd [] [] ∧ ([] : List Str).length = 0 := by
  obtain ⟨fd, FD⟩ := F.fd_49
  refine ⟨fd, fn_ok (ca := t_49) (ca' := fun _ => c_49) FD sc_49 rfl (fun ws h => padF_eq _ _ _) ?_, FD.bindsN fun _ _ _ _ _ _ us hl => match us, hl with | [], _ => rfl, rfl⟩
  intro cdv A outer s H E hr
  exact (SSs.cons (SS.asg (SE.call0 (cal_of (w_45 F Z) rfl F.g_45 F.k_45 hr (by decide)) rfl rfl) (G.nm sc_49.nd rfl rfl (.inl rfl)) rfl rfl rfl) (SSs.cons (SS.sidx (hu_ hr) (C.varK rfl rfl rfl rfl) (C.str rfl) (SE.tup (SA.cons (SE.tup (SA.cons C.int (SA.cons C.int (SA.cons C.int (SA.cons C.int (SA.cons C.int (SA.cons C.int (SA.cons C.int SA.nil rfl) rfl) rfl) rfl) rfl) rfl) rfl)) (SA.cons (SE.tup (SA.cons C.int (SA.cons C.int (SA.cons C.int (SA.cons C.int (SA.cons C.int (SA.cons C.int (SA.cons C.int SA.nil rfl) rfl) rfl) rfl) rfl) rfl) rfl)) SA.nil rfl) rfl)) rfl rfl rfl fun _ => rfl) (SSs.cons (SS.sidx (hu_ hr) (C.varK rfl rfl rfl rfl) (C.str rfl) (SE.tup (SA.cons (SE.tup (SA.cons C.int (SA.cons C.int (SA.cons C.int (SA.cons C.int (SA.cons C.int SA.nil rfl) rfl) rfl) rfl) rfl)) (SA.cons (SE.tup (SA.cons C.int (SA.cons C.int (SA.cons C.int (SA.cons C.int (SA.cons C.int SA.nil rfl) rfl) rfl) rfl) rfl)) SA.nil rfl) rfl)) rfl rfl rfl fun _ => rfl) (SSs.cons (SS.sidx (hu_ hr) (C.varK rfl rfl rfl rfl) (C.str rfl) (SE.tup (SA.cons (SE.tup (SA.cons C.int (SA.cons C.int (SA.cons C.int (SA.cons C.int (SA.cons C.int (SA.cons C.int (SA.cons C.int SA.nil rfl) rfl) rfl) rfl) rfl) rfl) rfl)) (SA.cons (SE.tup (SA.cons C.int (SA.cons C.int (SA.cons C.int (SA.cons C.int (SA.cons C.int (SA.cons C.int (SA.cons C.int SA.nil rfl) rfl) rfl) rfl) rfl) rfl) rfl)) SA.nil rfl) rfl)) rfl rfl rfl fun _ => rfl) (SSs.cons (SS.sidx (hu_ hr) (C.varK rfl rfl rfl rfl) (C.str rfl) (SE.tup (SA.cons (SE.tup (SA.cons C.int (SA.cons C.int (SA.cons C.int (SA.cons C.int (SA.cons C.int (SA.cons C.int SA.nil rfl) rfl) rfl) rfl) rfl) rfl)) (SA.cons (SE.tup (SA.cons C.int (SA.cons C.int (SA.cons C.int (SA.cons C.int (SA.cons C.int (SA.cons C.int SA.nil rfl) rfl) rfl) rfl) rfl) rfl)) (SA.cons (SE.tup (SA.cons C.int (SA.cons C.int (SA.cons C.int (SA.cons C.int (SA.cons C.int (SA.cons C.int SA.nil rfl) rfl) rfl) rfl) rfl) rfl)) SA.nil rfl) rfl) rfl)) rfl rfl rfl fun _ => rfl) (SSs.one (SS.ret (C.varK rfl rfl rfl rfl))))))))
theorem sc_50 : FnScope N_50 ["_law_dice_here"] (L2.defScope st_50) := ⟨rfl, rfl, rfl, by decide +kernel, rfl, by decide +kernel, by decide +kernel⟩
theorem w_50 {P : Program} {w : World} {K : PySem.W.Frag} {mg : Str → Option Value} {base : Heap} (F : Fx K mg) (Z : Zx P K mg base) : ∃ fd, FnOk P w K mg base (L2.CX P w) 4 ((TB K).fa 50) fd ["_law_dice_here"] (spC K (TB K) (fun _ => c_50) 50 1) ∧ Binds K fd ["_law_dice_here"] [] ∧ (["_law_dice_here"] : List Str).length = 1 := by
  obtain ⟨fd, FD⟩ := F.fd_50
  refine ⟨fd, fn_ok (ca := t_50) (ca' := fun _ => c_50) FD sc_50 rfl (fun ws h => padF_eq _ _ _) ?_, FD.bindsN fun _ _ _ _ _ _ us hl => match us, hl with | [_], _ => rfl, rfl⟩
  intro cdv A outer s H E hr
  exact (SSs.cons (SS.asg (SE.call0 (cal_of (w_49 F Z) rfl F.g_49 F.k_49 hr (by decide)) rfl rfl) (G.nm sc_50.nd rfl rfl (.inl rfl)) rfl rfl rfl) (SSs.one (SS.ret (SE.deep (SE.callP (cal_of (w_43 F Z) rfl F.g_43 F.k_43 hr (by decide)) rfl (SA.cons (SE.idx (hu_ hr) (C.varK rfl rfl rfl rfl) (SE.call (cal_of (w_40 F Z) rfl F.g_40 F.k_40 hr (by decide)) rfl (SA.cons (C.varK rfl rfl rfl rfl) (SA.cons (B.sortS rfl rfl F.b_sorted (SA.cons (C.varK rfl rfl rfl rfl) SA.nil rfl) rfl) SA.nil rfl) rfl) rfl rfl rfl) fun _ _ => rfl) SA.nil rfl) rfl rfl rfl)))))
theorem sc_51 : FnScope N_51 ["_law_number"] (L2.defScope st_51) := ⟨rfl, rfl, rfl, by decide +kernel, rfl, by decide +kernel, by decide +kernel⟩
theorem w_51 {P : Program} {w : World} {K : PySem.W.Frag} {mg : Str → Option Value} {base : Heap} (F : Fx K mg) (Z : Zx P K mg base) : ∃ fd, FnOk P w K mg base (L2.CX P w) 1 ((TB K).fa 51) fd ["_law_number"] (spC K (TB K) (fun _ => c_51) 51 1) ∧ Binds K fd ["_law_number"] [] ∧ (["_law_number"] : List Str).length = 1 := by
  obtain ⟨fd, FD⟩ := F.fd_51
  refine ⟨fd, fn_ok (ca := t_51) (ca' := fun _ => c_51) FD sc_51 rfl (fun ws h => padF_eq _ _ _) ?_, FD.bindsN fun _ _ _ _ _ _ us hl => match us, hl with | [_], _ => rfl, rfl⟩
  intro cdv A outer s H E hr
  exact (SSs.cons (SS.par3 rfl sc_51.nd rfl rfl rfl (by decide) (by decide) (by decide) rfl rfl rfl (SA.cons (SE.lst SA.nil) (SA.cons (C.varK rfl rfl rfl rfl) (SA.cons C.int SA.nil rfl) rfl) rfl) rfl rfl) (SSs.cons (SS.while_ (passes_of rfl) (ST.cmp op_gt g_gt (C.varK rfl rfl rfl rfl) C.int rfl) (SSs.cons (SS.asg C.int (G.nm sc_51.nd rfl rfl (.inl rfl)) rfl rfl rfl) (SSs.cons (SS.while_ (passes_of rfl) (ST.cmp (op_eqD (hu64_ hr)) g_eq (SE.bin op_mod g_mod (C.varK rfl rfl rfl rfl) (C.varK rfl rfl rfl rfl)) C.int rfl) (SSs.one (SS.par2 rfl sc_51.nd rfl rfl (by decide) rfl rfl (SA.cons (SE.bin op_fdivW g_div (C.varK rfl rfl rfl rfl) (C.varK rfl rfl rfl rfl)) (SA.cons (SE.bin op_mulAll g_mul (C.varK rfl rfl rfl rfl) (C.varK rfl rfl rfl rfl)) SA.nil rfl) rfl) rfl rfl))) (SSs.cons (SS.if_ (ST.cmp op_gt g_gt (C.varK rfl rfl rfl rfl) C.int rfl) (SSs.one (SS.expr (SE.append (C.varK rfl rfl rfl rfl) (SA.cons (SE.tup (SA.cons (C.varK rfl rfl rfl rfl) (SA.cons (C.varK rfl rfl rfl rfl) SA.nil rfl) rfl)) SA.nil rfl) rfl rfl rfl rfl rfl) rfl)) SSs.nil) (SSs.one (SS.asg (SE.bin op_addW g_add (C.varK rfl rfl rfl rfl) C.int) (G.nm sc_51.nd rfl rfl (.inl rfl)) rfl rfl rfl)))))) (SSs.one (SS.ret (C.varK rfl rfl rfl rfl)))))
theorem sc_52 : FnScope N_52 ["_law_group_here", "_law_value"] (L2.defScope st_52) := ⟨rfl, rfl, rfl, by decide +kernel, rfl, by decide +kernel, by decide +kernel⟩
theorem w_52 {P : Program} {w : World} {K : PySem.W.Frag} {mg : Str → Option Value} {base : Heap} (F : Fx K mg) (Z : Zx P K mg base) : ∃ fd, FnOk P w K mg base (L2.CX P w) 1 ((TB K).fa 52) fd ["_law_group_here", "_law_value"] (spC K (TB K) (fun _ => c_52) 52 2) ∧ Binds K fd ["_law_group_here", "_law_value"] [] ∧ (["_law_group_here", "_law_value"] : List Str).length = 2 := by
  obtain ⟨fd, FD⟩ := F.fd_52
  refine ⟨fd, fn_ok (ca := t_52) (ca' := fun _ => c_52) FD sc_52 rfl (fun ws h => padF_eq _ _ _) ?_, FD.bindsN fun _ _ _ _ _ _ us hl => match us, hl with | [_, _], _ => rfl, rfl⟩
  intro cdv A outer s H E hr
  exact (SSs.one (SS.ret (SE.and (SE.isi (F.isi_int rfl rfl rfl) rfl F.b_isinstance (C.varK rfl rfl rfl rfl) rfl rfl rfl) (SE.and (SE.not (SE.isi (F.isi_bool rfl rfl rfl) rfl F.b_isinstance (C.varK rfl rfl rfl rfl) rfl rfl rfl)) (SE.one (SE.chain op_le g_le op_lt g_lt C.int (C.varK rfl rfl rfl rfl) (SE.idx (hu_ hr) (C.varK rfl rfl rfl rfl) (C.str rfl) fun _ _ => rfl) rfl))))))
theorem sc_53 : FnScope N_53 ["_law_group_here", "_law_value"] (L2.defScope st_53) := ⟨rfl, rfl, rfl, by decide +kernel, rfl, by decide +kernel, by decide +kernel⟩
theorem w_53 {P : Program} {w : World} {K : PySem.W.Frag} {mg : Str → Option Value} {base : Heap} (F : Fx K mg) (Z : Zx P K mg base) : ∃ fd, FnOk P w K mg base (L2.CX P w) 2 ((TB K).fa 53) fd ["_law_group_here", "_law_value"] (spC K (TB K) (fun _ => c_53) 53 2) ∧ Binds K fd ["_law_group_here", "_law_value"] [] ∧ (["_law_group_here", "_law_value"] : List Str).length = 2 := by
  obtain ⟨fd, FD⟩ := F.fd_53
  refine ⟨fd, fn_ok (ca := t_53) (ca' := fun _ => c_53) FD sc_53 rfl (fun ws h => padF_eq _ _ _) ?_, FD.bindsN fun _ _ _ _ _ _ us hl => match us, hl with | [_, _], _ => rfl, rfl⟩
  intro cdv A outer s H E hr
  exact (SSs.cons (SS.if_ (SW.st (SW.or (ST.not (ST.val (SE.isi (F.isi_tuple rfl rfl rfl) rfl F.b_isinstance (C.varK rfl rfl rfl rfl) rfl rfl rfl) fun _ => rfl)) (SW.one (ST.cmp (op_neD (hu64_ hr)) g_ne (B.len rfl F.b_len (SA.cons (C.varK rfl rfl rfl rfl) SA.nil rfl) rfl) C.int rfl)))) (SSs.one (SS.ret C.bl)) SSs.nil) (SSs.cons (SS.if_ (SW.st (SW.or (ST.not (ST.val (SE.deep (SE.callP (cal_of (w_52 F Z) rfl F.g_52 F.k_52 hr (by decide)) rfl (SA.cons (C.varK rfl rfl rfl rfl) (SA.cons (SE.idx (hu_ hr) (C.varK rfl rfl rfl rfl) C.int fun _ _ => rfl) SA.nil rfl) rfl) rfl rfl rfl)) fun _ => rfl)) (SW.one (ST.not (ST.val (SE.deep (SE.callP (cal_of (w_52 F Z) rfl F.g_52 F.k_52 hr (by decide)) rfl (SA.cons (C.varK rfl rfl rfl rfl) (SA.cons (SE.idx (hu_ hr) (C.varK rfl rfl rfl rfl) C.int fun _ _ => rfl) SA.nil rfl) rfl) rfl rfl rfl)) fun _ => rfl))))) (SSs.one (SS.ret C.bl)) SSs.nil) (SSs.cons (SS.asg (C.varK rfl rfl rfl rfl) (SG.tup rfl (names_cons (G.nm sc_53.nd rfl rfl (.inl rfl)) (names_cons (G.nm sc_53.nd rfl rfl (.inl rfl)) names_nil rfl) rfl) rfl rfl) rfl rfl rfl) (SSs.cons (SS.par2 rfl sc_53.nd rfl rfl (by decide) rfl rfl (SA.cons (SE.deep (SE.callP (cal_of (w_46 F Z) rfl F.g_46 F.k_46 hr (by decide)) rfl (SA.cons (C.varK rfl rfl rfl rfl) (SA.cons (C.varK rfl rfl rfl rfl) SA.nil rfl) rfl) rfl rfl rfl)) (SA.cons (SE.idx (hu_ hr) (C.varK rfl rfl rfl rfl) (C.str rfl) fun _ _ => rfl) SA.nil rfl) rfl) rfl rfl) (SSs.cons (SS.if_ (SW.st (SW.or (ST.cmp (op_neD (hu64_ hr)) g_ne (B.len rfl F.b_len (SA.cons (SE.deep (SE.callF (cal_of (w_51 F Z) rfl F.g_51 F.k_51 hr (by decide)) rfl (SA.cons (C.varK rfl rfl rfl rfl) SA.nil rfl) rfl rfl rfl)) SA.nil rfl) rfl) C.int rfl) (SW.or (ST.cmp (op_neD (hu64_ hr)) g_ne (SE.idx (hu_ hr) (SE.idx (hu_ hr) (SE.deep (SE.callF (cal_of (w_51 F Z) rfl F.g_51 F.k_51 hr (by decide)) rfl (SA.cons (C.varK rfl rfl rfl rfl) SA.nil rfl) rfl rfl rfl)) C.int fun _ _ => rfl) C.int fun _ _ => rfl) (C.varK rfl rfl rfl rfl) rfl) (SW.one (ST.cmp (op_neD (hu64_ hr)) g_ne (SE.deep (SE.callP (cal_of (w_46 F Z) rfl F.g_46 F.k_46 hr (by decide)) rfl (SA.cons (C.varK rfl rfl rfl rfl) (SA.cons (C.varK rfl rfl rfl rfl) SA.nil rfl) rfl) rfl rfl rfl)) (C.varK rfl rfl rfl rfl) rfl))))) (SSs.one (SS.ret C.bl)) SSs.nil) (SSs.one (SS.ret (SE.and (SE.cmp (op_eqD (hu64_ hr)) g_eq (SE.idx (hu_ hr) (SE.idx (hu_ hr) (C.varK rfl rfl rfl rfl) (C.varK rfl rfl rfl rfl) fun _ _ => rfl) (C.varK rfl rfl rfl rfl) fun _ _ => rfl) (SE.idx (hu_ hr) (SE.idx (hu_ hr) (C.varK rfl rfl rfl rfl) (C.varK rfl rfl rfl rfl) fun _ _ => rfl) (C.varK rfl rfl rfl rfl) fun _ _ => rfl) rfl) (SE.one (SE.cmp (op_notInW (hu65_ hr)) g_notIn (C.varK rfl rfl rfl rfl) (SE.deep (SE.callP (cal_of (w_47 F Z) rfl F.g_47 F.k_47 hr (by decide)) rfl (SA.cons (C.varK rfl rfl rfl rfl) (SA.cons (SE.lst (SA.cons (C.varK rfl rfl rfl rfl) SA.nil rfl)) SA.nil rfl) rfl) rfl rfl rfl)) rfl))))))))))
end
end VA
set_option Elab.async false
set_option linter.all false
set_option maxRecDepth 100000
set_option maxHeartbeats 8000000
namespace VA
noncomputable section
open PySem PySem.Spec PyProof.Rows L2 Srt
theorem sc_54 : FnScope N_54 ["_law_group_here"] (L2.defScope st_54) := ⟨rfl, rfl, rfl, by decide +kernel, rfl, by decide +kernel, by decide +kernel⟩
theorem w_54 {P : Program} {w : World} {K : PySem.W.Frag} {mg : Str → Option Value} {base : Heap} (F : Fx K mg) (Z : Zx P K mg base) : ∃ fd, FnOk P w K mg base (L2.CX P w) 3 ((TB K).fa 54) fd ["_law_group_here"] (spC K (TB K) (fun _ => c_54) 54 1) ∧ Binds K fd ["_law_group_here"] [] ∧ (["_law_group_here"] : List Str).length = 1 := by
  obtain ⟨fd, FD⟩ := F.fd_54
  refine ⟨fd, fn_ok (ca := t_54) (ca' := fun _ => c_54) FD sc_54 rfl (fun ws h => padF_eq _ _ _) ?_, FD.bindsN fun _ _ _ _ _ _ us hl => match us, hl with | [_], _ => rfl, rfl⟩
  intro cdv A outer s H E hr
  exact (SSs.cons (SS.setLc rfl sc_54.nd rfl rfl (blkOk_by (own := [("_law_one", 2)]) rfl) (by decide) (sw_any (.inl ⟨_, rfl⟩) rfl rfl rfl rfl) (SI.rng1 rfl F.b_range (SA.cons (SE.idx (hu_ hr) (C.varK rfl rfl rfl rfl) (C.str rfl) fun _ _ => rfl) SA.nil rfl) rfl) (fun _ _ _ _ _ => (G.nm sc_54.nd rfl rfl (.inr rfl))) (fun _ _ _ _ _ => (STs.one (ST.cmp op_gt g_gt (C.varK rfl rfl rfl rfl) C.int rfl))) (fun _ _ _ _ _ => (C.varK rfl rfl rfl rfl)) fun _ => rfl) (SSs.cons (SS.for_ (passes_of rfl) rfl (SI.seq (C.varK rfl rfl rfl rfl)) (G.nm sc_54.nd rfl rfl (.inl rfl)) (SSs.one (SS.for_ (passes_of rfl) rfl (SI.seq (C.varK rfl rfl rfl rfl)) (G.nm sc_54.nd rfl rfl (.inl rfl)) (SSs.one (SS.if_ (ST.val (SE.deep (SE.callP (cal_of (w_53 F Z) rfl F.g_53 F.k_53 hr (by decide)) rfl (SA.cons (C.varK rfl rfl rfl rfl) (SA.cons (SE.tup (SA.cons (C.varK rfl rfl rfl rfl) (SA.cons (C.varK rfl rfl rfl rfl) SA.nil rfl) rfl)) SA.nil rfl) rfl) rfl rfl rfl)) fun _ => rfl) (SSs.one (SS.ret C.bl)) SSs.nil)) fun _ => rfl)) fun _ => rfl) (SSs.one (SS.ret C.bl))))
theorem sc_55 : FnScope N_55 ["_law_group_here", "_law_power"] (L2.defScope st_55) := ⟨rfl, rfl, rfl, by decide +kernel, rfl, by decide +kernel, by decide +kernel⟩
theorem w_55 {P : Program} {w : World} {K : PySem.W.Frag} {mg : Str → Option Value} {base : Heap} (F : Fx K mg) (Z : Zx P K mg base) : ∃ fd, FnOk P w K mg base (L2.CX P w) 2 ((TB K).fa 55) fd ["_law_group_here", "_law_power"] (spC K (TB K) (fun _ => c_55) 55 2) ∧ Binds K fd ["_law_group_here", "_law_power"] [] ∧ (["_law_group_here", "_law_power"] : List Str).length = 2 := by
  obtain ⟨fd, FD⟩ := F.fd_55
  refine ⟨fd, fn_ok (ca := t_55) (ca' := fun _ => c_55) FD sc_55 rfl (fun ws h => padF_eq _ _ _) ?_, FD.bindsN fun _ _ _ _ _ _ us hl => match us, hl with | [_, _], _ => rfl, rfl⟩
  intro cdv A outer s H E hr
  exact (SSs.cons (SS.for_ (passes_of rfl) rfl (SI.rng1 rfl F.b_range (SA.cons (SE.idx (hu_ hr) (C.varK rfl rfl rfl rfl) (C.str rfl) fun _ _ => rfl) SA.nil rfl) rfl) (G.nm sc_55.nd rfl rfl (.inl rfl)) (SSs.one (SS.for_ (passes_of rfl) rfl (SI.rng1 rfl F.b_range (SA.cons (SE.bin op_addW g_add (C.varK rfl rfl rfl rfl) C.int) SA.nil rfl) rfl) (G.nm sc_55.nd rfl rfl (.inl rfl)) (SSs.cons (SS.asg (SE.deep (SE.callP (cal_of (w_47 F Z) rfl F.g_47 F.k_47 hr (by decide)) rfl (SA.cons (C.varK rfl rfl rfl rfl) (SA.cons (SE.lst (SA.cons (C.varK rfl rfl rfl rfl) (SA.cons (C.varK rfl rfl rfl rfl) SA.nil rfl) rfl)) SA.nil rfl) rfl) rfl rfl rfl)) (G.nm sc_55.nd rfl rfl (.inl rfl)) rfl rfl rfl) (SSs.one (SS.if_ (ST.cmp (op_eqD (hu64_ hr)) g_eq (B.len rfl F.b_len (SA.cons (C.varK rfl rfl rfl rfl) SA.nil rfl) rfl) (C.varK rfl rfl rfl rfl) rfl) (SSs.one (SS.ret (C.varK rfl rfl rfl rfl))) SSs.nil))) fun _ => rfl)) fun _ => rfl) (SSs.one (SS.ret (SE.tup (SA.cons C.int SA.nil rfl)))))
theorem sc_56 : FnScope N_56 ["_law_group_here", "_law_power"] (L2.defScope st_56) := ⟨rfl, rfl, rfl, by decide +kernel, rfl, by decide +kernel, by decide +kernel⟩
theorem w_56 {P : Program} {w : World} {K : PySem.W.Frag} {mg : Str → Option Value} {base : Heap} (F : Fx K mg) (Z : Zx P K mg base) : ∃ fd, FnOk P w K mg base (L2.CX P w) 3 ((TB K).fa 56) fd ["_law_group_here", "_law_power"] (spC K (TB K) (fun _ => c_56) 56 2) ∧ Binds K fd ["_law_group_here", "_law_power"] [] ∧ (["_law_group_here", "_law_power"] : List Str).length = 2 := by
  obtain ⟨fd, FD⟩ := F.fd_56
  refine ⟨fd, fn_ok (ca := t_56) (ca' := fun _ => c_56) FD sc_56 rfl (fun ws h => padF_eq _ _ _) ?_, FD.bindsN fun _ _ _ _ _ _ us hl => match us, hl with | [_, _], _ => rfl, rfl⟩
  intro cdv A outer s H E hr
  exact (SSs.cons (SS.asg (SE.tup (SA.cons (SE.deep (SE.callP (cal_of (w_55 F Z) rfl F.g_55 F.k_55 hr (by decide)) rfl (SA.cons (C.varK rfl rfl rfl rfl) (SA.cons (C.varK rfl rfl rfl rfl) SA.nil rfl) rfl) rfl rfl rfl)) (SA.cons (SE.idx (hu_ hr) (C.varK rfl rfl rfl rfl) (C.str rfl) fun _ _ => rfl) (SA.cons (SE.idx (hu_ hr) (C.varK rfl rfl rfl rfl) (C.str rfl) fun _ _ => rfl) SA.nil rfl) rfl) rfl)) (SG.tup rfl (names_cons (G.nm sc_56.nd rfl rfl (.inl rfl)) (names_cons (G.nm sc_56.nd rfl rfl (.inl rfl)) (names_cons (G.nm sc_56.nd rfl rfl (.inl rfl)) names_nil rfl) rfl) rfl) rfl rfl) rfl rfl rfl) (SSs.cons (SS.asg (SE.tup (SA.cons C.int (SA.cons C.int SA.nil rfl) rfl)) (SG.tup rfl (names_cons (G.nm sc_56.nd rfl rfl (.inl rfl)) (names_cons (G.nm sc_56.nd rfl rfl (.inl rfl)) names_nil rfl) rfl) rfl rfl) rfl rfl rfl) (SSs.cons (SS.for_ (passes_of rfl) rfl (SI.rng1 rfl F.b_range (SA.cons (SE.idx (hu_ hr) (C.varK rfl rfl rfl rfl) (C.str rfl) fun _ _ => rfl) SA.nil rfl) rfl) (G.nm sc_56.nd rfl rfl (.inl rfl)) (SSs.cons (SS.setLc rfl sc_56.nd rfl rfl (blkOk_by (own := [("_law_one", 9)]) rfl) (by decide) (sw_any (.inl ⟨_, rfl⟩) rfl rfl rfl rfl) (SI.seq (C.varK rfl rfl rfl rfl)) (fun _ _ _ _ _ => (G.nm sc_56.nd rfl rfl (.inr rfl))) (fun _ _ _ _ _ => STs.nil) (fun _ _ _ _ _ => (SE.idx (hu_ hr) (SE.idx (hu_ hr) (C.varK rfl rfl rfl rfl) (SE.idx (hu_ hr) (SE.idx (hu_ hr) (C.varK rfl rfl rfl rfl) (C.varK rfl rfl rfl rfl) fun _ _ => rfl) (C.varK rfl rfl rfl rfl) fun _ _ => rfl) fun _ _ => rfl) (SE.idx (hu_ hr) (C.varK rfl rfl rfl rfl) (C.varK rfl rfl rfl rfl) fun _ _ => rfl) fun _ _ => rfl)) fun _ => rfl) (SSs.cons (SS.asg (SE.bin op_addW g_add (C.varK rfl rfl rfl rfl) (B.int rfl F.b_int (SA.cons (SE.cmp (op_eqD (hu64_ hr)) g_eq (B.tuple rfl F.b_tuple (SA.cons (B.sorted rfl rfl F.b_sorted (SA.cons (C.varK rfl rfl rfl rfl) SA.nil rfl) rfl) SA.nil rfl) rfl) (C.varK rfl rfl rfl rfl) rfl) SA.nil rfl) rfl)) (G.nm sc_56.nd rfl rfl (.inl rfl)) rfl rfl rfl) (SSs.one (SS.asg (SE.bin op_addW g_add (C.varK rfl rfl rfl rfl) (B.int rfl F.b_int (SA.cons (SE.cmp (op_eqD (hu64_ hr)) g_eq (B.tuple rfl F.b_tuple (SA.cons (C.varK rfl rfl rfl rfl) SA.nil rfl) rfl) (C.varK rfl rfl rfl rfl) rfl) SA.nil rfl) rfl)) (G.nm sc_56.nd rfl rfl (.inl rfl)) rfl rfl rfl)))) fun _ => rfl) (SSs.one (SS.ret (SE.bin op_fdivW g_div (C.varK rfl rfl rfl rfl) (C.varK rfl rfl rfl rfl)))))))
theorem sc_57 : FnScope N_57 ["_law_group_here"] (L2.defScope st_57) := ⟨rfl, rfl, rfl, by decide +kernel, rfl, by decide +kernel, by decide +kernel⟩
theorem w_57 {P : Program} {w : World} {K : PySem.W.Frag} {mg : Str → Option Value} {base : Heap} (F : Fx K mg) (Z : Zx P K mg base) : ∃ fd, FnOk P w K mg base (L2.CX P w) 4 ((TB K).fa 57) fd ["_law_group_here"] (spC K (TB K) (fun _ => c_57) 57 1) ∧ Binds K fd ["_law_group_here"] [] ∧ (["_law_group_here"] : List Str).length = 1 := by
  obtain ⟨fd, FD⟩ := F.fd_57
  refine ⟨fd, fn_ok (ca := t_57) (ca' := fun _ => c_57) FD sc_57 rfl (fun ws h => padF_eq _ _ _) ?_, FD.bindsN fun _ _ _ _ _ _ us hl => match us, hl with | [_], _ => rfl, rfl⟩
  intro cdv A outer s H E hr
  exact (SSs.cons (SS.asg C.int (G.nm sc_57.nd rfl rfl (.inl rfl)) rfl rfl rfl) (SSs.cons (SS.for_ (passes_of rfl) rfl (SI.seq (SE.deep (SE.callF (cal_of (w_51 F Z) rfl F.g_51 F.k_51 hr (by decide)) rfl (SA.cons (SE.idx (hu_ hr) (C.varK rfl rfl rfl rfl) (C.str rfl) fun _ _ => rfl) SA.nil rfl) rfl rfl rfl))) (SG.tup rfl (names_cons (G.nm sc_57.nd rfl rfl (.inl rfl)) (names_cons (G.nm sc_57.nd rfl rfl (.inl rfl)) names_nil rfl) rfl) rfl rfl) (SSs.cons (SS.setLc rfl sc_57.nd rfl rfl (blkOk_by (own := [("_law_member", 6)]) rfl) (by decide) (sw_any (.inl ⟨_, rfl⟩) rfl rfl rfl rfl) (SI.rng1 rfl F.b_range (SA.cons (SE.idx (hu_ hr) (C.varK rfl rfl rfl rfl) (C.str rfl) fun _ _ => rfl) SA.nil rfl) rfl) (fun _ _ _ _ _ => (G.nm sc_57.nd rfl rfl (.inr rfl))) (fun _ _ _ _ _ => STs.nil) (fun _ _ _ _ _ => (SE.deep (SE.callP (cal_of (w_46 F Z) rfl F.g_46 F.k_46 hr (by decide)) rfl (SA.cons (C.varK rfl rfl rfl rfl) (SA.cons (C.varK rfl rfl rfl rfl) SA.nil rfl) rfl) rfl rfl rfl))) fun _ => rfl) (SSs.cons (SS.asg (SE.ife (ST.cmp op_gt g_gt (C.varK rfl rfl rfl rfl) C.int rfl) (SE.bin op_mulAll g_mul C.int (SE.deep (SE.callP (cal_of (w_56 F Z) rfl F.g_56 F.k_56 hr (by decide)) rfl (SA.cons (C.varK rfl rfl rfl rfl) (SA.cons (C.varK rfl rfl rfl rfl) SA.nil rfl) rfl) rfl rfl rfl))) (SE.ife (ST.cmp (op_inW (hu65_ hr)) g_in (C.varK rfl rfl rfl rfl) (C.varK rfl rfl rfl rfl) rfl) C.int C.int)) (G.nm sc_57.nd rfl rfl (.inl rfl)) rfl rfl rfl) (SSs.one (SS.asg (SE.bin op_fdivW g_div (SE.bin op_mulAll g_mul (C.varK rfl rfl rfl rfl) (C.varK rfl rfl rfl rfl)) (SE.deep (SE.callP (cal_of (w_48 F Z) rfl F.g_48 F.k_48 hr (by decide)) rfl (SA.cons (C.varK rfl rfl rfl rfl) (SA.cons (C.varK rfl rfl rfl rfl) SA.nil rfl) rfl) rfl rfl rfl))) (G.nm sc_57.nd rfl rfl (.inl rfl)) rfl rfl rfl)))) fun _ => rfl) (SSs.one (SS.ret (C.varK rfl rfl rfl rfl)))))
theorem sc_58 : FnScope N_58 ["_law_group_here"] (L2.defScope st_58) := ⟨rfl, rfl, rfl, by decide +kernel, rfl, by decide +kernel, by decide +kernel⟩
theorem w_58 {P : Program} {w : World} {K : PySem.W.Frag} {mg : Str → Option Value} {base : Heap} (F : Fx K mg) (Z : Zx P K mg base) : ∃ fd, FnOk P w K mg base (L2.CX P w) 11 ((TB K).fa 58) fd ["_law_group_here"] (spC K (TB K) (fun _ => c_58) 58 1) ∧ Binds K fd ["_law_group_here"] [] ∧ (["_law_group_here"] : List Str).length = 1 := by
  obtain ⟨fd, FD⟩ := F.fd_58
  refine ⟨fd, fn_ok (ca := t_58) (ca' := fun _ => c_58) FD sc_58 rfl (fun ws h => padF_eq _ _ _) ?_, FD.bindsN fun _ _ _ _ _ _ us hl => match us, hl with | [_], _ => rfl, rfl⟩
  intro cdv A outer s H E hr
  exact (SSs.one (SS.tryAs rfl rfl sc_58.nd rfl rfl ⟨rfl, rfl, .inl F.gc_2⟩ (cmok_2 F) (cmx_2 F) (fun pn xe po => (SSs.one (SS.ret (SE.tup (SA.cons (C.str rfl) (SA.cons (SE.call (cal_of (w_37 F Z) rfl F.g_37 F.k_37 hr (by decide)) rfl (SA.cons (C.varK rfl rfl rfl rfl) SA.nil rfl) rfl rfl rfl) SA.nil rfl) rfl))))) (fun a dd C oe pn hz hf ok => (SX.tup (SXA.cons (SX.str rfl) (SXA.cons (SX.fld ok hz hf rfl (vis_by rfl) rfl rfl) SXA.nil rfl) rfl)))))
theorem sc_59 : FnScope N_59 ["_law_dice_here"] (L2.defScope st_59) := ⟨rfl, rfl, rfl, by decide +kernel, rfl, by decide +kernel, by decide +kernel⟩
theorem w_59 {P : Program} {w : World} {K : PySem.W.Frag} {mg : Str → Option Value} {base : Heap} (F : Fx K mg) (Z : Zx P K mg base) : ∃ fd, FnOk P w K mg base (L2.CX P w) 12 ((TB K).fa 59) fd ["_law_dice_here"] (spC K (TB K) (fun _ => c_59) 59 1) ∧ Binds K fd ["_law_dice_here"] [] ∧ (["_law_dice_here"] : List Str).length = 1 := by
  obtain ⟨fd, FD⟩ := F.fd_59
  refine ⟨fd, fn_ok (ca := t_59) (ca' := fun _ => c_59) FD sc_59 rfl (fun ws h => padF_eq _ _ _) ?_, FD.bindsN fun _ _ _ _ _ _ us hl => match us, hl with | [_], _ => rfl, rfl⟩
  intro cdv A outer s H E hr
  exact (SSs.cons (SS.asg (SE.deep (SE.callL (cal_of (w_50 F Z) rfl F.g_50 F.k_50 hr (by decide)) rfl (SA.cons (C.varK rfl rfl rfl rfl) SA.nil rfl) rfl rfl rfl)) (G.nm sc_59.nd rfl rfl (.inl rfl)) rfl rfl rfl) (SSs.cons (SS.asg (SE.make (mkc_of (w_8 F Z) rfl F.gc_0 F.mk_0 hr (by decide)) rfl (SA.cons (SE.idx (hu_ hr) (C.varK rfl rfl rfl rfl) (C.str rfl) fun _ _ => rfl) SA.nil rfl) rfl rfl rfl) (G.nm sc_59.nd rfl rfl (.inl rfl)) rfl rfl rfl) (SSs.cons (SS.for_ (passes_of rfl) rfl (SI.seq (SE.deep (SE.callF (cal_of (w_51 F Z) rfl F.g_51 F.k_51 hr (by decide)) rfl (SA.cons (SE.idx (hu_ hr) (C.varK rfl rfl rfl rfl) (C.str rfl) fun _ _ => rfl) SA.nil rfl) rfl rfl rfl))) (SG.tup rfl (names_cons (G.nm sc_59.nd rfl rfl (.inl rfl)) (names_cons (G.nm sc_59.nd rfl rfl (.inl rfl)) names_nil rfl) rfl) rfl rfl) (SSs.one (SS.if_ (ST.cmp (op_neD (hu64_ hr)) g_ne (SE.deep (SE.callG (cal_of (w_36 F Z) rfl F.g_36 F.k_36 hr (by decide)) rfl (SA.cons (C.varK rfl rfl rfl rfl) (SA.cons (C.varK rfl rfl rfl rfl) SA.nil rfl) rfl) rfl rfl rfl)) (SE.deep (SE.callP (cal_of (w_56 F Z) rfl F.g_56 F.k_56 hr (by decide)) rfl (SA.cons (C.varK rfl rfl rfl rfl) (SA.cons (C.varK rfl rfl rfl rfl) SA.nil rfl) rfl) rfl rfl rfl)) rfl) (SSs.one (SS.ret C.bl)) SSs.nil)) fun _ => rfl) (SSs.cons (SS.if_ (ST.val (SE.deep (SE.callP (cal_of (w_54 F Z) rfl F.g_54 F.k_54 hr (by decide)) rfl (SA.cons (C.varK rfl rfl rfl rfl) SA.nil rfl) rfl rfl rfl)) fun _ => rfl) (SSs.one (SS.ret (SE.and (SE.cmp (op_eqD (hu64_ hr)) g_eq (SE.deep (SE.callG (cal_of (w_58 F Z) rfl F.g_58 F.k_58 hr (by decide)) rfl (SA.cons (C.varK rfl rfl rfl rfl) SA.nil rfl) rfl rfl rfl)) (SE.tup (SA.cons (C.str rfl) (SA.cons (SE.tup (SA.cons (C.str rfl) SA.nil rfl)) SA.nil rfl) rfl)) rfl) (SE.one (SE.isN (SE.deep (SE.callG (cal_of (w_35 F Z) rfl F.g_35 F.k_35 hr (by decide)) rfl (SA.cons (C.varK rfl rfl rfl rfl) SA.nil rfl) rfl rfl rfl)) rfl))))) SSs.nil) (SSs.one (SS.ret (SE.cmp (op_eqD (hu64_ hr)) g_eq (SE.deep (SE.callG (cal_of (w_58 F Z) rfl F.g_58 F.k_58 hr (by decide)) rfl (SA.cons (C.varK rfl rfl rfl rfl) SA.nil rfl) rfl rfl rfl)) (SE.tup (SA.cons (C.str rfl) (SA.cons (SE.deep (SE.callP (cal_of (w_57 F Z) rfl F.g_57 F.k_57 hr (by decide)) rfl (SA.cons (C.varK rfl rfl rfl rfl) SA.nil rfl) rfl rfl rfl)) SA.nil rfl) rfl)) rfl)))))))
theorem w_59s {P : Program} {w : World} {K : PySem.W.Frag} {mg : Str → Option Value} {base : Heap} (F : Fx K mg) (Z : Zx P K mg base) : ∃ fd, FnOk P w K mg base (L2.CX P w) 12 ((TB K).fa 59) fd ["_law_dice_here"] (spC K (TB K) (fun _ => s_59) 59 1) ∧ Binds K fd ["_law_dice_here"] [] ∧ (["_law_dice_here"] : List Str).length = 1 := by
  obtain ⟨fd, held, binds, len⟩ := w_59 F Z
  exact ⟨fd, held.imp (fun vs H Q E t => (spC_or t).elim (sumL_ok ev_59 vs H Q E) (sumL_ok evb_59 vs H Q E)), binds, len⟩
end
end VA
set_option Elab.async false
set_option linter.all false
set_option maxRecDepth 100000
set_option maxHeartbeats 8000000
namespace VA
noncomputable section
open PySem PySem.Spec PyProof.Rows L2 Srt
theorem sc_60 : FnScope N_60 ["_law_script"] (L2.defScope st_60) := ⟨rfl, rfl, rfl, by decide +kernel, rfl, by decide +kernel, by decide +kernel⟩
theorem w_law {P : Program} {w : World} {K : PySem.W.Frag} {mg : Str → Option Value} {base : Heap} {fd : FuncData} (F : Fx K mg) (Z : Zx P K mg base) (FD : FunD K "law" "law" (L2.defArgs st_60) (L2.defBody st_60) (L2.defScope st_60) [] [] ((TB K).fa 60) fd) : FnOk P w K mg base (L2.CX P w) 13 ((TB K).fa 60) fd ["_law_script"] (spC K (TB K) (fun _ => c_60) 60 1) := by
  refine fn_ok (ca := t_60) (ca' := fun _ => c_60) FD sc_60 rfl (fun ws h => padF_eq _ _ _) ?_
  intro cdv A outer s H E hr
  exact (SSs.cons (SS.for_ (passes_of rfl) rfl (SI.rng1 rfl F.b_range (SA.cons (B.max2 rfl rfl F.b_max (SA.cons C.int (SA.cons (B.min2 rfl rfl F.b_min (SA.cons (B.len rfl F.b_len (SA.cons (C.varK rfl rfl rfl rfl) SA.nil rfl) rfl) (SA.cons C.int SA.nil rfl) rfl) rfl rfl) SA.nil rfl) rfl) rfl rfl) SA.nil rfl) rfl) (G.nm sc_60.nd rfl rfl (.inl rfl)) (SSs.cons (SS.asg (SE.call (cal_of (w_38 F Z) rfl F.g_38 F.k_38 hr (by decide)) rfl (SA.cons (C.varK rfl rfl rfl rfl) (SA.cons (C.varK rfl rfl rfl rfl) SA.nil rfl) rfl) rfl rfl rfl) (G.nm sc_60.nd rfl rfl (.inl rfl)) rfl rfl rfl) (SSs.one (SS.if_ (SW.st (SW.or (ST.not (ST.val (SE.uniq (SE.deep (SE.callL (cal_of (w_59s F Z) rfl F.g_59 F.k_59 hr (by decide)) rfl (SA.cons (C.varK rfl rfl rfl rfl) SA.nil rfl) rfl rfl rfl))) fun _ => rfl)) (SW.one (ST.not (ST.val (SE.uniq (SE.deep (SE.callL (cal_of (w_59s F Z) rfl F.g_59 F.k_59 hr (by decide)) rfl (SA.cons (C.varK rfl rfl rfl rfl) SA.nil rfl) rfl rfl rfl))) fun _ => rfl))))) (SSs.one (SS.ret C.bl)) SSs.nil))) fun _ => rfl) (SSs.cons (SS.setLc rfl sc_60.nd rfl rfl (blkOk_by (own := [("_law_size", 6)]) rfl) (by decide) (sw_any (.inl ⟨_, rfl⟩) rfl rfl rfl rfl) (SI.seqT (SE.tup (SA.cons C.int (SA.cons C.int (SA.cons C.int (SA.cons C.int SA.nil rfl) rfl) rfl) rfl))) (fun _ _ _ _ _ => (G.nm sc_60.nd rfl rfl (.inr rfl))) (fun _ _ _ _ _ => STs.nil) (fun _ _ _ _ _ => (SE.deep (SE.callG (cal_of (w_37 F Z) rfl F.g_37 F.k_37 hr (by decide)) rfl (SA.cons (SE.cmet (cmt_of (w_9 F Z) rfl F.gc_0 F.cm_9 hr (by decide)) rfl (SA.cons (C.varK rfl rfl rfl rfl) SA.nil rfl) rfl rfl rfl rfl) SA.nil rfl) rfl rfl rfl))) fun _ => rfl) (SSs.cons (SS.unl rfl (SE.lc rfl sc_60.nd (blkOk_by (own := [("_law_name", 7)]) rfl) (by decide) (SI.seqT (SE.tup (SA.cons (C.str rfl) (SA.cons (C.str rfl) SA.nil rfl) rfl))) (fun _ _ _ _ _ => (G.nm sc_60.nd rfl rfl (.inr rfl))) (fun _ _ _ _ _ => STs.nil) (fun _ _ _ _ _ => (SE.make (mkc_of (w_8 F Z) rfl F.gc_0 F.mk_0 hr (by decide)) rfl (SA.cons (SE.idx (hu_ hr) (SE.call0 (cal_of (w_49 F Z) rfl F.g_49 F.k_49 hr (by decide)) rfl rfl) (C.varK rfl rfl rfl rfl) fun _ _ => rfl) SA.nil rfl) rfl rfl rfl)) fun _ => rfl) (names_cons (G.nm sc_60.nd rfl rfl (.inl rfl)) (names_cons (G.nm sc_60.nd rfl rfl (.inl rfl)) names_nil rfl) rfl) rfl rfl rfl rfl rfl) (SSs.cons (SS.if_ (ST.cmp (op_neD (hu64_ hr)) g_ne (SE.lst (SA.cons (SE.deep (SE.callG (cal_of (w_37 F Z) rfl F.g_37 F.k_37 hr (by decide)) rfl (SA.cons (C.varK rfl rfl rfl rfl) SA.nil rfl) rfl rfl rfl)) (SA.cons (SE.deep (SE.callG (cal_of (w_36 F Z) rfl F.g_36 F.k_36 hr (by decide)) rfl (SA.cons (C.varK rfl rfl rfl rfl) (SA.cons C.int SA.nil rfl) rfl) rfl rfl rfl)) (SA.cons (SE.deep (SE.callG (cal_of (w_37 F Z) rfl F.g_37 F.k_37 hr (by decide)) rfl (SA.cons (C.varK rfl rfl rfl rfl) SA.nil rfl) rfl rfl rfl)) (SA.cons (SE.deep (SE.callG (cal_of (w_36 F Z) rfl F.g_36 F.k_36 hr (by decide)) rfl (SA.cons (C.varK rfl rfl rfl rfl) (SA.cons C.int SA.nil rfl) rfl) rfl rfl rfl)) SA.nil rfl) rfl) rfl) rfl)) (SE.lst (SA.cons C.int (SA.cons C.int (SA.cons C.int (SA.cons C.int SA.nil rfl) rfl) rfl) rfl)) rfl) (SSs.one (SS.ret C.bl)) SSs.nil) (SSs.one (SS.ret (SE.cmp (op_eqD (hu64_ hr)) g_eq (C.varK rfl rfl rfl rfl) (SE.bin op_mulAll g_mul (SE.lst (SA.cons C.int SA.nil rfl)) C.int) rfl)))))))
end
end VA
set_option Elab.async false
set_option linter.all false
set_option maxRecDepth 100000
set_option maxHeartbeats 0
namespace VA
open PySem PySem.Spec PyProof.Rows L2
abbrev sx_0 : Stmt := L2.inClass (top 23) 11
def dt_0 : He.DefD := ⟨("is_whole_number", none), "is_whole_number", "is_whole_number", L2.defArgs st_0, L2.defBody st_0, L2.defScope st_0, [], []⟩
def dt_1 : He.DefD := ⟨("is_integer", none), "is_integer", "is_integer", L2.defArgs st_1, L2.defBody st_1, L2.defScope st_1, [], []⟩
def dt_2 : He.DefD := ⟨("is_within", none), "is_within", "is_within", L2.defArgs st_2, L2.defBody st_2, L2.defScope st_2, [], []⟩
def dt_3 : He.DefD := ⟨("is_renaming", none), "is_renaming", "is_renaming", L2.defArgs st_3, L2.defBody st_3, L2.defScope st_3, [], []⟩
def dt_4 : He.DefD := ⟨("are_makers", none), "are_makers", "are_makers", L2.defArgs st_4, L2.defBody st_4, L2.defScope st_4, [], []⟩
def dt_5 : He.DefD := ⟨("renamed", none), "renamed", "renamed", L2.defArgs st_5, L2.defBody st_5, L2.defScope st_5, [], []⟩
def dt_6 : He.DefD := ⟨("all_products", none), "all_products", "all_products", L2.defArgs st_6, L2.defBody st_6, L2.defScope st_6, [], []⟩
def dt_7 : He.DefD := ⟨("product_table", none), "product_table", "product_table", L2.defArgs st_7, L2.defBody st_7, L2.defScope st_7, [], []⟩
def dt_8 : He.DefD := ⟨("Group", some "__init__"), "__init__", "Group.__init__", L2.defArgs st_8, L2.defBody st_8, L2.defScope st_8, [], []⟩
def dt_9 : He.DefD := ⟨("order_here", none), "order_here", "order_here", L2.defArgs st_11, L2.defBody st_11, L2.defScope st_11, [], []⟩
def dt_10 : He.DefD := ⟨("power_here", none), "power_here", "power_here", L2.defArgs st_12, L2.defBody st_12, L2.defScope st_12, [], []⟩
def dt_11 : He.DefD := ⟨("conjugate_in", none), "conjugate_in", "conjugate_in", L2.defArgs st_13, L2.defBody st_13, L2.defScope st_13, [], []⟩
def dt_12 : He.DefD := ⟨("closed_by", none), "closed_by", "closed_by", L2.defArgs st_14, L2.defBody st_14, L2.defScope st_14, [], []⟩
def dt_13 : He.DefD := ⟨("moved_part_in", none), "moved_part_in", "moved_part_in", L2.defArgs st_15, L2.defBody st_15, L2.defScope st_15, [], []⟩
def dt_14 : He.DefD := ⟨("normalizer_in", none), "normalizer_in", "normalizer_in", L2.defArgs st_16, L2.defBody st_16, L2.defScope st_16, [], []⟩
def dt_15 : He.DefD := ⟨("centralizer_in", none), "centralizer_in", "centralizer_in", L2.defArgs st_17, L2.defBody st_17, L2.defScope st_17, [], []⟩
def dt_16 : He.DefD := ⟨("prime_part_in", none), "prime_part_in", "prime_part_in", L2.defArgs st_18, L2.defBody st_18, L2.defScope st_18, [], []⟩
def dt_17 : He.DefD := ⟨("require_group", none), "require_group", "require_group", L2.defArgs st_19, L2.defBody st_19, L2.defScope st_19, [], []⟩
def dt_18 : He.DefD := ⟨("primes_here", none), "primes_here", "primes_here", L2.defArgs st_20, L2.defBody st_20, L2.defScope st_20, [], []⟩
def dt_19 : He.DefD := ⟨("greatest_power", none), "greatest_power", "greatest_power", L2.defArgs st_21, L2.defBody st_21, L2.defScope st_21, [], []⟩
def dt_20 : He.DefD := ⟨("powers_in", none), "powers_in", "powers_in", L2.defArgs st_22, L2.defBody st_22, L2.defScope st_22, [], []⟩
def dt_21 : He.DefD := ⟨("do_commute", none), "do_commute", "do_commute", L2.defArgs st_23, L2.defBody st_23, L2.defScope st_23, [], []⟩
def dt_22 : He.DefD := ⟨("is_bar_in", none), "is_bar_in", "is_bar_in", L2.defArgs st_24, L2.defBody st_24, L2.defScope st_24, [], []⟩
def dt_23 : He.DefD := ⟨("bar_in", none), "bar_in", "bar_in", L2.defArgs st_25, L2.defBody st_25, L2.defScope st_25, [], []⟩
def dt_24 : He.DefD := ⟨("is_eight", none), "is_eight", "is_eight", L2.defArgs st_26, L2.defBody st_26, L2.defScope st_26, [], []⟩
def dt_25 : He.DefD := ⟨("round_entry", none), "round_entry", "round_entry", L2.defArgs st_27, L2.defBody st_27, L2.defScope st_27, [], []⟩
def dt_26 : He.DefD := ⟨("eight_entry", none), "eight_entry", "eight_entry", L2.defArgs st_28, L2.defBody st_28, L2.defScope st_28, [], []⟩
def dt_27 : He.DefD := ⟨("entry_for", none), "entry_for", "entry_for", L2.defArgs st_29, L2.defBody st_29, L2.defScope st_29, [], []⟩
def dt_28 : He.DefD := ⟨("paper_here", none), "paper_here", "paper_here", L2.defArgs st_30, L2.defBody st_30, L2.defScope st_30, [], []⟩
def dt_29 : He.DefD := ⟨("turns_in", none), "turns_in", "turns_in", L2.defArgs st_31, L2.defBody st_31, L2.defScope st_31, [], []⟩
def dt_30 : He.DefD := ⟨("least_again", none), "least_again", "least_again", L2.defArgs st_32, L2.defBody st_32, L2.defScope st_32, [], []⟩
def dt_31 : He.DefD := ⟨("require_prime_of", none), "require_prime_of", "require_prime_of", L2.defArgs st_33, L2.defBody st_33, L2.defScope st_33, [], []⟩
def dt_32 : He.DefD := ⟨("require_no_bar", none), "require_no_bar", "require_no_bar", L2.defArgs st_34, L2.defBody st_34, L2.defScope st_34, [], []⟩
def dt_33 : He.DefD := ⟨("again_paper", none), "again_paper", "again_paper", L2.defArgs st_35, L2.defBody st_35, L2.defScope st_35, [], []⟩
def dt_34 : He.DefD := ⟨("prime_turns", none), "prime_turns", "prime_turns", L2.defArgs st_36, L2.defBody st_36, L2.defScope st_36, [], []⟩
def dt_35 : He.DefD := ⟨("again_step", none), "again_step", "again_step", L2.defArgs st_37, L2.defBody st_37, L2.defScope st_37, [], []⟩
def dt_36 : He.DefD := ⟨("_law_dice", none), "_law_dice", "_law_dice", L2.defArgs st_38, L2.defBody st_38, L2.defScope st_38, [], []⟩
def dt_37 : He.DefD := ⟨("_law_roll", none), "_law_roll", "_law_roll", L2.defArgs st_39, L2.defBody st_39, L2.defScope st_39, [], []⟩
def dt_38 : He.DefD := ⟨("_law_one_of", none), "_law_one_of", "_law_one_of", L2.defArgs st_40, L2.defBody st_40, L2.defScope st_40, [], []⟩
def dt_39 : He.DefD := ⟨("_law_behind", none), "_law_behind", "_law_behind", L2.defArgs st_41, L2.defBody st_41, L2.defScope st_41, [], []⟩
def dt_40 : He.DefD := ⟨("_law_made", none), "_law_made", "_law_made", L2.defArgs st_42, L2.defBody st_42, L2.defScope st_42, [], []⟩
def dt_41 : He.DefD := ⟨("_law_group", none), "_law_group", "_law_group", L2.defArgs st_43, L2.defBody st_43, L2.defScope st_43, [], []⟩
def dt_42 : He.DefD := ⟨("_law_round_moves", none), "_law_round_moves", "_law_round_moves", L2.defArgs st_44, L2.defBody st_44, L2.defScope st_44, [], []⟩
def dt_43 : He.DefD := ⟨("_law_ready_moves", none), "_law_ready_moves", "_law_ready_moves", L2.defArgs st_45, L2.defBody st_45, L2.defScope st_45, [], []⟩
def dt_44 : He.DefD := ⟨("_law_order", none), "_law_order", "_law_order", L2.defArgs st_46, L2.defBody st_46, L2.defScope st_46, [], []⟩
def dt_45 : He.DefD := ⟨("_law_part", none), "_law_part", "_law_part", L2.defArgs st_47, L2.defBody st_47, L2.defScope st_47, [], []⟩
def dt_46 : He.DefD := ⟨("_law_gcd", none), "_law_gcd", "_law_gcd", L2.defArgs st_48, L2.defBody st_48, L2.defScope st_48, [], []⟩
def dt_47 : He.DefD := ⟨("_law_again_moves", none), "_law_again_moves", "_law_again_moves", L2.defArgs st_49, L2.defBody st_49, L2.defScope st_49, [], []⟩
def dt_48 : He.DefD := ⟨("_law_again_group", none), "_law_again_group", "_law_again_group", L2.defArgs st_50, L2.defBody st_50, L2.defScope st_50, [], []⟩
def dt_49 : He.DefD := ⟨("_law_primes_of", none), "_law_primes_of", "_law_primes_of", L2.defArgs st_51, L2.defBody st_51, L2.defScope st_51, [], []⟩
def dt_50 : He.DefD := ⟨("_law_is_member", none), "_law_is_member", "_law_is_member", L2.defArgs st_52, L2.defBody st_52, L2.defScope st_52, [], []⟩
def dt_51 : He.DefD := ⟨("_law_is_bar", none), "_law_is_bar", "_law_is_bar", L2.defArgs st_53, L2.defBody st_53, L2.defScope st_53, [], []⟩
def dt_52 : He.DefD := ⟨("_law_has_bar", none), "_law_has_bar", "_law_has_bar", L2.defArgs st_54, L2.defBody st_54, L2.defScope st_54, [], []⟩
def dt_53 : He.DefD := ⟨("_law_prime_part", none), "_law_prime_part", "_law_prime_part", L2.defArgs st_55, L2.defBody st_55, L2.defScope st_55, [], []⟩
def dt_54 : He.DefD := ⟨("_law_turns", none), "_law_turns", "_law_turns", L2.defArgs st_56, L2.defBody st_56, L2.defScope st_56, [], []⟩
def dt_55 : He.DefD := ⟨("_law_step_of", none), "_law_step_of", "_law_step_of", L2.defArgs st_57, L2.defBody st_57, L2.defScope st_57, [], []⟩
def dt_56 : He.DefD := ⟨("_law_told_step", none), "_law_told_step", "_law_told_step", L2.defArgs st_58, L2.defBody st_58, L2.defScope st_58, [], []⟩
def dt_57 : He.DefD := ⟨("_law_right", none), "_law_right", "_law_right", L2.defArgs st_59, L2.defBody st_59, L2.defScope st_59, [], []⟩
def dt_58 : He.DefD := ⟨("law", none), "law", "law", L2.defArgs st_60, L2.defBody st_60, L2.defScope st_60, [], []⟩
def dt_59 : He.DefD := ⟨("Group", some "__iter__"), "__iter__", "Group.__iter__", L2.defArgs sx_0, L2.defBody sx_0, L2.defScope sx_0, [], []⟩
def da_0 : DefA := ⟨fun K => rcA K "Group" "round" "classmethod", "round", "Group.round", L2.defArgs st_9, L2.defBody st_9, L2.defScope st_9, []⟩
def da_1 : DefA := ⟨fun K => rcA K "Group" "size" "property", "size", "Group.size", L2.defArgs st_10, L2.defBody st_10, L2.defScope st_10, []⟩
def da_2 : DefA := ⟨fun K => He.fAd K ("Refused", some "__init__"), "__init__", "Refused.__init__", L2.defArgs sy_2, L2.defBody sy_2, L2.defScope sy_2, ["__class__"]⟩
def dsL : List DefA := [da_0, da_1, da_2]
def fnL : List He.DefD := [dt_0, dt_1, dt_2, dt_3, dt_4, dt_5, dt_6, dt_7, dt_8, dt_9, dt_10, dt_11, dt_12, dt_13, dt_14, dt_15, dt_16, dt_17, dt_18, dt_19, dt_20, dt_21, dt_22, dt_23, dt_24, dt_25, dt_26, dt_27, dt_28, dt_29, dt_30, dt_31, dt_32, dt_33, dt_34, dt_35, dt_36, dt_37, dt_38, dt_39, dt_40, dt_41, dt_42, dt_43, dt_44, dt_45, dt_46, dt_47, dt_48, dt_49, dt_50, dt_51, dt_52, dt_53, dt_54, dt_55, dt_56, dt_57, dt_58, dt_59]
def fa_0 : List He.Fa := [.glo "is_whole_number", .glo "is_integer", .glo "is_within", .glo "is_renaming", .glo "are_makers", .glo "renamed", .glo "all_products", .glo "product_table", .glo "order_here", .glo "power_here", .glo "conjugate_in", .glo "closed_by", .glo "moved_part_in", .glo "normalizer_in", .glo "centralizer_in", .glo "prime_part_in"]
def fa_1 : List He.Fa := [.glo "require_group", .glo "primes_here", .glo "greatest_power", .glo "powers_in", .glo "do_commute", .glo "is_bar_in", .glo "bar_in", .glo "is_eight", .glo "round_entry", .glo "eight_entry", .glo "entry_for", .glo "paper_here", .glo "turns_in", .glo "least_again", .glo "require_prime_of", .glo "require_no_bar"]
def fa_2 : List He.Fa := [.glo "again_paper", .glo "prime_turns", .glo "again_step", .glo "_law_dice", .glo "_law_roll", .glo "_law_one_of", .glo "_law_behind", .glo "_law_made", .glo "_law_group", .glo "_law_round_moves", .glo "_law_ready_moves", .glo "_law_order", .glo "_law_part", .glo "_law_gcd", .glo "_law_again_moves", .glo "_law_again_group"]
def fa_3 : List He.Fa := [.glo "_law_primes_of", .glo "_law_is_member", .glo "_law_is_bar", .glo "_law_has_bar", .glo "_law_prime_part", .glo "_law_turns", .glo "_law_step_of", .glo "_law_told_step", .glo "_law_right", .glo "law", .glo "Group", .glo "ClosedMoves", .free "len", .free "abs", .free "sorted", .free "all"]
def fa_4 : List He.Fa := [.free "tuple", .free "list", .free "int", .free "str", .free "max", .free "min", .free "range", .free "enumerate", .free "dict", .free "isinstance", .free "iter", .free "next", .free "super", .free "bool", .int "SIXTY_DIGITS" 1000000000000000000000000000000000000000000000000000000000000, .int "MAX_PLACES" 32]
def fa_5 : List He.Fa := [.int "MAX_SIZE" 32, .int "MOST_MAKERS" 4, .int "LEAST_EIGHT" 4, .str "ROUND_WORD" "round", .str "EIGHT_WORD" "eight", .glo "BAR_REASON", .glo "SMALL_PRIMES", .glo "Refused", .mkr "Group", .meth "Group" "__iter__"]
def faL : List He.Fa := fa_0 ++ fa_1 ++ fa_2 ++ fa_3 ++ fa_4 ++ fa_5
def ex_0 (K : PySem.W.Frag) : List Bool := [sclsB K (He.ga K "Group"), slotB K (He.ga K "Group") "own_inverses" 0, slotB K (He.ga K "Group") "own_members" 1, slotB K (He.ga K "Group") "own_moves" 2, slotB K (He.ga K "Group") "own_table" 3, sclsB K (He.ga K "ClosedMoves"), slotB K (He.ga K "ClosedMoves") "own_closed" 0, kitB K (.type "bool") (.type "int") true]
def ex_1 (K : PySem.W.Frag) : List Bool := [kitB K (.type "int") (.type "int") true, kitB K (.type "tuple") (.type "int") false, kitB K (.type "bool") (.type "bool") true, kitB K (.type "int") (.type "bool") false, kitB K (.type "tuple") (.type "bool") false, kitB K (.type "tuple") (.type "tuple") true, kitB K (.type "int") (.type "tuple") false, sisiB K (He.ga K "Group")]
def ex_2 (K : PySem.W.Frag) : List Bool := [kitB K (.ref (He.ga K "Group")) (.ref (He.ga K "Group")) true, kitB K (.type "tuple") (.ref (He.ga K "ClosedMoves")) false, He.tupB K "BAR_REASON" [.str "bar"], He.tupB K "SMALL_PRIMES" [.int 2, .int 3, .int 5, .int 7, .int 11, .int 13, .int 17, .int 19, .int 23, .int 29, .int 31], DefA.ok K da_0, DefA.ok K da_1, DefA.ok K da_2, propB K "Group" "size"]
def ex_3 (K : PySem.W.Frag) : List Bool := [cmetB K "Group" "round", supB K (He.ga K "Refused") (He.fAd K ("Refused", some "__init__")) "ArithmeticError" "ArithmeticError.__new__" "ArithmeticError.__init__" [.type "ArithmeticError", .type "Exception", .type "BaseException", .type "object"] "reason" PP.main.file, xokB K "Refused" "reason", exmB K "Refused" "Refused" true, He.eqO (PySem.W.nsIn K mainGlobals "lcm") (some (some (.builtin "math.lcm")))]
def exL (K : PySem.W.Frag) : List Bool := ex_0 K ++ ex_1 K ++ ex_2 K ++ ex_3 K
def exB (K : PySem.W.Frag) : Bool := (exL K).all fun b => b
abbrev RowL : PySem.W.OpenRow := PySem.W.OpenLaw.row PySem.Challenge.rw_groupsover_k74_whole_steps_by_primes_and
abbrev qv : Program := PySem.W.view RowL.prog [0, 82]
abbrev hk : PySem.W.Hook := hookY faL fnL tfL exB dsL
def ob (s : PySem.W.SharedT) : AlY := obsY faL fnL tfL exB dsL (HandSHeadRun.getT s)
theorem ob_eq (s : PySem.W.SharedT) : ob s = hk.obs s.abs := obsY_eq (HandSHeadRun.getT_eq s)
def names0 : List PySem.Str := ["_wall", "OverError", "InvalidGroup", "InvalidNumber", "TooMany", "Refused", "MAX_SIZE", "MAX_PLACES", "MOST_MAKERS", "SIXTY_DIGITS", "SMALL_PRIMES", "is_whole_number", "is_integer", "is_within", "require_integer", "is_renaming"]
def names1 : List PySem.Str := ["are_makers", "renamed", "all_products", "product_table", "Group", "ClosedMoves", "order_here", "power_here", "conjugate_in", "closed_by", "is_group_member", "moved_part_in", "normalizer_in", "centralizer_in", "prime_part_in", "require_group"]
def names2 : List PySem.Str := ["require_group_member", "ROUND_WORD", "EIGHT_WORD", "LEAST_EIGHT", "BAR_REASON", "primes_here", "greatest_power", "powers_in", "do_commute", "is_bar_in", "bar_in", "is_eight", "round_entry", "eight_entry", "entry_for", "paper_here"]
def names3 : List PySem.Str := ["turns_in", "least_again", "require_prime_of", "require_no_bar", "again_paper", "prime_turns", "again_step", "_law_dice", "_law_roll", "_law_one_of", "_law_behind", "_law_made", "_law_group", "_law_round_moves", "_law_ready_moves", "_law_order"]
def names4 : List PySem.Str := ["_law_part", "_law_gcd", "_law_again_moves", "_law_again_group", "_law_primes_of", "_law_is_member", "_law_is_bar", "_law_has_bar", "_law_prime_part", "_law_turns", "_law_step_of", "_law_told_step", "_law_right"]
def namesL : List PySem.Str := names0 ++ names1 ++ names2 ++ names3 ++ names4
theorem run (w : World) : HandSHeadRun.RunEqI RowL qv hk ob 9000 namesL w := by
  unfold HandSHeadRun.RunEqI
  kernel_rfl
end VA
set_option Elab.async false
set_option linter.all false
set_option maxRecDepth 100000
set_option maxHeartbeats 0
namespace VA
open PySem PySem.Spec PyProof.Rows L2
theorem ev_law : ((List.range 64).all fun m => allT (c_60 [.scr (List.replicate m .anyi)] ⟨0, []⟩)) = true := by decide +kernel
section
variable {w : World} {h : Heap} {mg : Str → Option Value} {K : PySem.W.Frag}
theorem fx (X0 : K.In h) (G : h.Ns mainGlobals mg) (c : SaysY faL fnL tfL exB dsL h K) : Fx K mg := by
  have d : He.SaysD faL fnL K := c.t
  have e : exB K = true := c.more
  have glo : ∀ (i : Nat) {x : Str}, faL[i]? = some (.glo x) → mg x = some (.ref (He.ga K x)) := fun i x q => He.glo_ok X0 G (d.fact i q)
  have free : ∀ (i : Nat) {x : Str}, faL[i]? = some (.free x) → mg x = none := fun i x q => He.free_ok X0 G (d.fact i q)
  exact {
    b_len := (free 60 rfl),
    b_abs := (free 61 rfl),
    b_sorted := (free 62 rfl),
    b_all := (free 63 rfl),
    b_tuple := (free 64 rfl),
    b_list := (free 65 rfl),
    b_int := (free 66 rfl),
    b_str := (free 67 rfl),
    b_max := (free 68 rfl),
    b_min := (free 69 rfl),
    b_range := (free 70 rfl),
    b_enumerate := (free 71 rfl),
    b_dict := (free 72 rfl),
    b_isinstance := (free 73 rfl),
    b_iter := (free 74 rfl),
    b_next := (free 75 rfl),
    b_super := (free 76 rfl),
    g_0 := (glo 0 rfl),
    k_0 := ((d.def_ 0 (d := dt_0) rfl).elim fun _ z => z.kp),
    fd_0 := (d.def_ 0 (d := dt_0) rfl),
    g_1 := (glo 1 rfl),
    k_1 := ((d.def_ 1 (d := dt_1) rfl).elim fun _ z => z.kp),
    fd_1 := (d.def_ 1 (d := dt_1) rfl),
    g_2 := (glo 2 rfl),
    k_2 := ((d.def_ 2 (d := dt_2) rfl).elim fun _ z => z.kp),
    fd_2 := (d.def_ 2 (d := dt_2) rfl),
    g_3 := (glo 3 rfl),
    k_3 := ((d.def_ 3 (d := dt_3) rfl).elim fun _ z => z.kp),
    fd_3 := (d.def_ 3 (d := dt_3) rfl),
    g_4 := (glo 4 rfl),
    k_4 := ((d.def_ 4 (d := dt_4) rfl).elim fun _ z => z.kp),
    fd_4 := (d.def_ 4 (d := dt_4) rfl),
    g_5 := (glo 5 rfl),
    k_5 := ((d.def_ 5 (d := dt_5) rfl).elim fun _ z => z.kp),
    fd_5 := (d.def_ 5 (d := dt_5) rfl),
    g_6 := (glo 6 rfl),
    k_6 := ((d.def_ 6 (d := dt_6) rfl).elim fun _ z => z.kp),
    fd_6 := (d.def_ 6 (d := dt_6) rfl),
    g_7 := (glo 7 rfl),
    k_7 := ((d.def_ 7 (d := dt_7) rfl).elim fun _ z => z.kp),
    fd_7 := (d.def_ 7 (d := dt_7) rfl),
    k_8 := ((d.def_ 8 (d := dt_8) rfl).elim fun _ z => z.kp),
    fd_8 := (d.def_ 8 (d := dt_8) rfl),
    k_9 := ((DefA.split (c.def_ 0 (d := da_0) rfl) (all_at e 20 rfl)).1),
    fd_9 := (DefA.funD (c.def_ 0 (d := da_0) rfl) (all_at e 20 rfl) rfl),
    cm_9 := (cmetB_ok (all_at e 24 rfl)),
    k_10 := ((DefA.split (c.def_ 1 (d := da_1) rfl) (all_at e 21 rfl)).1),
    fd_10 := (DefA.funD (c.def_ 1 (d := da_1) rfl) (all_at e 21 rfl) rfl),
    prp_10 := (propB_ok (all_at e 23 rfl)),
    g_11 := (glo 8 rfl),
    k_11 := ((d.def_ 9 (d := dt_9) rfl).elim fun _ z => z.kp),
    fd_11 := (d.def_ 9 (d := dt_9) rfl),
    g_12 := (glo 9 rfl),
    k_12 := ((d.def_ 10 (d := dt_10) rfl).elim fun _ z => z.kp),
    fd_12 := (d.def_ 10 (d := dt_10) rfl),
    g_13 := (glo 10 rfl),
    k_13 := ((d.def_ 11 (d := dt_11) rfl).elim fun _ z => z.kp),
    fd_13 := (d.def_ 11 (d := dt_11) rfl),
    g_14 := (glo 11 rfl),
    k_14 := ((d.def_ 12 (d := dt_12) rfl).elim fun _ z => z.kp),
    fd_14 := (d.def_ 12 (d := dt_12) rfl),
    g_15 := (glo 12 rfl),
    k_15 := ((d.def_ 13 (d := dt_13) rfl).elim fun _ z => z.kp),
    fd_15 := (d.def_ 13 (d := dt_13) rfl),
    g_16 := (glo 13 rfl),
    k_16 := ((d.def_ 14 (d := dt_14) rfl).elim fun _ z => z.kp),
    fd_16 := (d.def_ 14 (d := dt_14) rfl),
    g_17 := (glo 14 rfl),
    k_17 := ((d.def_ 15 (d := dt_15) rfl).elim fun _ z => z.kp),
    fd_17 := (d.def_ 15 (d := dt_15) rfl),
    g_18 := (glo 15 rfl),
    k_18 := ((d.def_ 16 (d := dt_16) rfl).elim fun _ z => z.kp),
    fd_18 := (d.def_ 16 (d := dt_16) rfl),
    g_19 := (glo 16 rfl),
    k_19 := ((d.def_ 17 (d := dt_17) rfl).elim fun _ z => z.kp),
    fd_19 := (d.def_ 17 (d := dt_17) rfl),
    g_20 := (glo 17 rfl),
    k_20 := ((d.def_ 18 (d := dt_18) rfl).elim fun _ z => z.kp),
    fd_20 := (d.def_ 18 (d := dt_18) rfl),
    g_21 := (glo 18 rfl),
    k_21 := ((d.def_ 19 (d := dt_19) rfl).elim fun _ z => z.kp),
    fd_21 := (d.def_ 19 (d := dt_19) rfl),
    g_22 := (glo 19 rfl),
    k_22 := ((d.def_ 20 (d := dt_20) rfl).elim fun _ z => z.kp),
    fd_22 := (d.def_ 20 (d := dt_20) rfl),
    g_23 := (glo 20 rfl),
    k_23 := ((d.def_ 21 (d := dt_21) rfl).elim fun _ z => z.kp),
    fd_23 := (d.def_ 21 (d := dt_21) rfl),
    g_24 := (glo 21 rfl),
    k_24 := ((d.def_ 22 (d := dt_22) rfl).elim fun _ z => z.kp),
    fd_24 := (d.def_ 22 (d := dt_22) rfl),
    g_25 := (glo 22 rfl),
    k_25 := ((d.def_ 23 (d := dt_23) rfl).elim fun _ z => z.kp),
    fd_25 := (d.def_ 23 (d := dt_23) rfl),
    g_26 := (glo 23 rfl),
    k_26 := ((d.def_ 24 (d := dt_24) rfl).elim fun _ z => z.kp),
    fd_26 := (d.def_ 24 (d := dt_24) rfl),
    g_27 := (glo 24 rfl),
    k_27 := ((d.def_ 25 (d := dt_25) rfl).elim fun _ z => z.kp),
    fd_27 := (d.def_ 25 (d := dt_25) rfl),
    g_28 := (glo 25 rfl),
    k_28 := ((d.def_ 26 (d := dt_26) rfl).elim fun _ z => z.kp),
    fd_28 := (d.def_ 26 (d := dt_26) rfl),
    g_29 := (glo 26 rfl),
    k_29 := ((d.def_ 27 (d := dt_27) rfl).elim fun _ z => z.kp),
    fd_29 := (d.def_ 27 (d := dt_27) rfl),
    g_30 := (glo 27 rfl),
    k_30 := ((d.def_ 28 (d := dt_28) rfl).elim fun _ z => z.kp),
    fd_30 := (d.def_ 28 (d := dt_28) rfl),
    g_31 := (glo 28 rfl),
    k_31 := ((d.def_ 29 (d := dt_29) rfl).elim fun _ z => z.kp),
    fd_31 := (d.def_ 29 (d := dt_29) rfl),
    g_32 := (glo 29 rfl),
    k_32 := ((d.def_ 30 (d := dt_30) rfl).elim fun _ z => z.kp),
    fd_32 := (d.def_ 30 (d := dt_30) rfl),
    g_33 := (glo 30 rfl),
    k_33 := ((d.def_ 31 (d := dt_31) rfl).elim fun _ z => z.kp),
    fd_33 := (d.def_ 31 (d := dt_31) rfl),
    g_34 := (glo 31 rfl),
    k_34 := ((d.def_ 32 (d := dt_32) rfl).elim fun _ z => z.kp),
    fd_34 := (d.def_ 32 (d := dt_32) rfl),
    g_35 := (glo 32 rfl),
    k_35 := ((d.def_ 33 (d := dt_33) rfl).elim fun _ z => z.kp),
    fd_35 := (d.def_ 33 (d := dt_33) rfl),
    g_36 := (glo 33 rfl),
    k_36 := ((d.def_ 34 (d := dt_34) rfl).elim fun _ z => z.kp),
    fd_36 := (d.def_ 34 (d := dt_34) rfl),
    g_37 := (glo 34 rfl),
    k_37 := ((d.def_ 35 (d := dt_35) rfl).elim fun _ z => z.kp),
    fd_37 := (d.def_ 35 (d := dt_35) rfl),
    g_38 := (glo 35 rfl),
    k_38 := ((d.def_ 36 (d := dt_36) rfl).elim fun _ z => z.kp),
    fd_38 := (d.def_ 36 (d := dt_36) rfl),
    g_39 := (glo 36 rfl),
    k_39 := ((d.def_ 37 (d := dt_37) rfl).elim fun _ z => z.kp),
    fd_39 := (d.def_ 37 (d := dt_37) rfl),
    g_40 := (glo 37 rfl),
    k_40 := ((d.def_ 38 (d := dt_38) rfl).elim fun _ z => z.kp),
    fd_40 := (d.def_ 38 (d := dt_38) rfl),
    g_41 := (glo 38 rfl),
    k_41 := ((d.def_ 39 (d := dt_39) rfl).elim fun _ z => z.kp),
    fd_41 := (d.def_ 39 (d := dt_39) rfl),
    g_42 := (glo 39 rfl),
    k_42 := ((d.def_ 40 (d := dt_40) rfl).elim fun _ z => z.kp),
    fd_42 := (d.def_ 40 (d := dt_40) rfl),
    g_43 := (glo 40 rfl),
    k_43 := ((d.def_ 41 (d := dt_41) rfl).elim fun _ z => z.kp),
    fd_43 := (d.def_ 41 (d := dt_41) rfl),
    g_44 := (glo 41 rfl),
    k_44 := ((d.def_ 42 (d := dt_42) rfl).elim fun _ z => z.kp),
    fd_44 := (d.def_ 42 (d := dt_42) rfl),
    g_45 := (glo 42 rfl),
    k_45 := ((d.def_ 43 (d := dt_43) rfl).elim fun _ z => z.kp),
    fd_45 := (d.def_ 43 (d := dt_43) rfl),
    g_46 := (glo 43 rfl),
    k_46 := ((d.def_ 44 (d := dt_44) rfl).elim fun _ z => z.kp),
    fd_46 := (d.def_ 44 (d := dt_44) rfl),
    g_47 := (glo 44 rfl),
    k_47 := ((d.def_ 45 (d := dt_45) rfl).elim fun _ z => z.kp),
    fd_47 := (d.def_ 45 (d := dt_45) rfl),
    g_48 := (glo 45 rfl),
    k_48 := ((d.def_ 46 (d := dt_46) rfl).elim fun _ z => z.kp),
    fd_48 := (d.def_ 46 (d := dt_46) rfl),
    g_49 := (glo 46 rfl),
    k_49 := ((d.def_ 47 (d := dt_47) rfl).elim fun _ z => z.kp),
    fd_49 := (d.def_ 47 (d := dt_47) rfl),
    g_50 := (glo 47 rfl),
    k_50 := ((d.def_ 48 (d := dt_48) rfl).elim fun _ z => z.kp),
    fd_50 := (d.def_ 48 (d := dt_48) rfl),
    g_51 := (glo 48 rfl),
    k_51 := ((d.def_ 49 (d := dt_49) rfl).elim fun _ z => z.kp),
    fd_51 := (d.def_ 49 (d := dt_49) rfl),
    g_52 := (glo 49 rfl),
    k_52 := ((d.def_ 50 (d := dt_50) rfl).elim fun _ z => z.kp),
    fd_52 := (d.def_ 50 (d := dt_50) rfl),
    g_53 := (glo 50 rfl),
    k_53 := ((d.def_ 51 (d := dt_51) rfl).elim fun _ z => z.kp),
    fd_53 := (d.def_ 51 (d := dt_51) rfl),
    g_54 := (glo 51 rfl),
    k_54 := ((d.def_ 52 (d := dt_52) rfl).elim fun _ z => z.kp),
    fd_54 := (d.def_ 52 (d := dt_52) rfl),
    g_55 := (glo 52 rfl),
    k_55 := ((d.def_ 53 (d := dt_53) rfl).elim fun _ z => z.kp),
    fd_55 := (d.def_ 53 (d := dt_53) rfl),
    g_56 := (glo 53 rfl),
    k_56 := ((d.def_ 54 (d := dt_54) rfl).elim fun _ z => z.kp),
    fd_56 := (d.def_ 54 (d := dt_54) rfl),
    g_57 := (glo 54 rfl),
    k_57 := ((d.def_ 55 (d := dt_55) rfl).elim fun _ z => z.kp),
    fd_57 := (d.def_ 55 (d := dt_55) rfl),
    g_58 := (glo 55 rfl),
    k_58 := ((d.def_ 56 (d := dt_56) rfl).elim fun _ z => z.kp),
    fd_58 := (d.def_ 56 (d := dt_56) rfl),
    g_59 := (glo 56 rfl),
    k_59 := ((d.def_ 57 (d := dt_57) rfl).elim fun _ z => z.kp),
    fd_59 := (d.def_ 57 (d := dt_57) rfl),
    g_60 := (glo 57 rfl),
    k_60 := ((d.def_ 58 (d := dt_58) rfl).elim fun _ z => z.kp),
    fd_60 := (d.def_ 58 (d := dt_58) rfl),
    m_lcm := (PySem.W.mg_of X0 G (He.eqO_ok (all_at e 28 rfl))),
    gc_2 := (glo 87 rfl),
    xok_2 := (xokB_ok (all_at e 26 rfl)),
    exm_2 := (exmB_ok (all_at e 27 rfl)),
    scls_0 := (sclsB_ok (all_at e 0 rfl)),
    gc_0 := (glo 58 rfl),
    mk_0 := (He.mkr_ok (d.fact 88 (f := .mkr "Group") rfl)),
    fld_0_0 := (fun {X} eK => by
      subst eK
      exact ⟨sclsB_ok (all_at e 0 rfl), _, slotB_ok (all_at e 1 rfl)⟩),
    fld_0_1 := (fun {X} eK => by
      subst eK
      exact ⟨sclsB_ok (all_at e 0 rfl), _, slotB_ok (all_at e 2 rfl)⟩),
    fld_0_2 := (fun {X} eK => by
      subst eK
      exact ⟨sclsB_ok (all_at e 0 rfl), _, slotB_ok (all_at e 3 rfl)⟩),
    fld_0_3 := (fun {X} eK => by
      subst eK
      exact ⟨sclsB_ok (all_at e 0 rfl), _, slotB_ok (all_at e 4 rfl)⟩),
    gc_1 := (glo 59 rfl),
    fld_1_0 := (fun {X} eK => by
      subst eK
      exact ⟨sclsB_ok (all_at e 5 rfl), _, slotB_ok (all_at e 6 rfl)⟩),
    isi_int := (fun {X} eK em hg => by
      subst eK
      refine ⟨fun p => pe_bltn hg (by rw [em]; exact free 66 rfl) rfl rfl, .ty _, fun t b q => ?_, fun c b q => ?_⟩
      · unfold kit_int at q
        split at q
        · cases q; exact kitB_ok (all_at e 7 rfl)
        · cases q; exact kitB_ok (all_at e 8 rfl)
        · cases q; exact kitB_ok (all_at e 9 rfl)
        · cases q
      · exfalso
        unfold kit_int at q
        split at q <;> first | omega | cases q),
    isi_bool := (fun {X} eK em hg => by
      subst eK
      refine ⟨fun p => pe_bltn hg (by rw [em]; exact free 77 rfl) rfl rfl, .ty _, fun t b q => ?_, fun c b q => ?_⟩
      · unfold kit_bool at q
        split at q
        · cases q; exact kitB_ok (all_at e 10 rfl)
        · cases q; exact kitB_ok (all_at e 11 rfl)
        · cases q; exact kitB_ok (all_at e 12 rfl)
        · cases q
      · exfalso
        unfold kit_bool at q
        split at q <;> first | omega | cases q),
    isi_tuple := (fun {X} eK em hg => by
      subst eK
      refine ⟨fun p => pe_bltn hg (by rw [em]; exact free 64 rfl) rfl rfl, .ty _, fun t b q => ?_, fun c b q => ?_⟩
      · unfold kit_tuple at q
        split at q
        · cases q; exact kitB_ok (all_at e 13 rfl)
        · cases q; exact kitB_ok (all_at e 14 rfl)
        · cases q
      · exfalso
        unfold kit_tuple at q
        split at q <;> first | omega | cases q),
    isi_Group := (fun {X} eK em hg => by
      subst eK
      refine ⟨fun p => pe_glob hg (by rw [em]; exact glo 58 rfl) rfl, .own _, fun t b q => ?_, fun c b q => ?_⟩
      · unfold kit_Group at q
        split at q
        · cases q; exact kitB_ok (all_at e 16 rfl)
        · cases q
      · unfold kit_Group at q
        split at q
        · rename_i z; have c0 : c = 0 := by omega
          subst c0
          exact ⟨sclsB_ok (all_at e 0 rfl), sisiB_ok (all_at e 15 rfl)⟩
        · cases q),
    isi_ClosedMoves := (fun {X} eK em hg => by
      subst eK
      refine ⟨fun p => pe_glob hg (by rw [em]; exact glo 59 rfl) rfl, .own _, fun t b q => ?_, fun c b q => ?_⟩
      · unfold kit_ClosedMoves at q
        split at q
        · cases q; exact kitB_ok (all_at e 17 rfl)
        · cases q
      · exfalso
        unfold kit_ClosedMoves at q
        split at q <;> first | omega | cases q),
    c_SIXTY_DIGITS := (fun {X} eK em => glo_int (by rw [em]; exact He.int_ok X0 G (d.fact 78 (f := .int "SIXTY_DIGITS" 1000000000000000000000000000000000000000000000000000000000000) rfl))),
    c_MAX_PLACES := (fun {X} eK em => glo_int (by rw [em]; exact He.int_ok X0 G (d.fact 79 (f := .int "MAX_PLACES" 32) rfl))),
    c_MAX_SIZE := (fun {X} eK em => glo_int (by rw [em]; exact He.int_ok X0 G (d.fact 80 (f := .int "MAX_SIZE" 32) rfl))),
    c_MOST_MAKERS := (fun {X} eK em => glo_int (by rw [em]; exact He.int_ok X0 G (d.fact 81 (f := .int "MOST_MAKERS" 4) rfl))),
    c_LEAST_EIGHT := (fun {X} eK em => glo_int (by rw [em]; exact He.int_ok X0 G (d.fact 82 (f := .int "LEAST_EIGHT" 4) rfl))),
    c_ROUND_WORD := (fun {X} eK em => glo_str (by rw [em]; exact He.str_ok X0 G (d.fact 83 (f := .str "ROUND_WORD" "round") rfl))),
    c_EIGHT_WORD := (fun {X} eK em => glo_str (by rw [em]; exact He.str_ok X0 G (d.fact 84 (f := .str "EIGHT_WORD" "eight") rfl))),
    c_BAR_REASON := (fun {X} eK em => by
      subst eK
      exact glo_tupS (ns := [[98, 97, 114]]) (by rw [em]; exact glo 85 rfl) (He.tupB_ok (vs := [.str "bar"]) (all_at e 18 rfl) H0)),
    c_SMALL_PRIMES := (fun {X} eK em => by
      subst eK
      exact glo_tup (ns := [2, 3, 5, 7, 11, 13, 17, 19, 23, 29, 31]) (by rw [em]; exact glo 86 rfl) (He.tupB_ok (vs := [.int 2, .int 3, .int 5, .int 7, .int 11, .int 13, .int 17, .int 19, .int 23, .int 29, .int 31]) (all_at e 19 rfl) H0)),
    itr := (fun {X} k eK em room le => by
      subst eK
      obtain ⟨fd, FD⟩ := d.def_ 59 (d := dt_59) rfl
      have M := He.meth_ok (d.fact 89 (f := .meth "Group" "__iter__") rfl)
      exact itr_of (k := 0) (N := ["self"]) (ps := ["self"]) FD ⟨rfl, rfl, rfl, by decide +kernel, rfl, by decide +kernel, by decide +kernel⟩ rfl (FD.bindsN fun _ _ _ _ _ _ us hl => match us, hl with | [_], _ => rfl) M.at_ M.fn (room.mono le) ⟨sclsB_ok (all_at e 0 rfl), _, slotB_ok (all_at e 2 rfl)⟩ rfl (vis_by rfl) (by rw [em]; exact free 74 rfl) rfl rfl rfl (fun _ => rfl) (fun _ => rfl)) }
theorem zx {base : Heap} (X0 : K.In h) (G : h.Ns mainGlobals mg) (c : SaysY faL fnL tfL exB dsL h K) (tb : ∀ p ∈ tfL.map (He.cT K), LamX.TabB base mg p.1 p.2) : Zx RowL.prog K mg base := by
  have e : exB K = true := c.more
  exact {
    tb_25 := tabB_g (tb _ (List.mem_map.mpr ⟨("bar_in", none), List.mem_iff_getElem?.mpr ⟨0, rfl⟩, rfl⟩)),
    tb_27 := tabB_g (tb _ (List.mem_map.mpr ⟨("round_entry", none), List.mem_iff_getElem?.mpr ⟨1, rfl⟩, rfl⟩)),
    tb_28 := tabB_g (tb _ (List.mem_map.mpr ⟨("eight_entry", none), List.mem_iff_getElem?.mpr ⟨2, rfl⟩, rfl⟩)),
    sup_2 := supF_of (d := da_2) (c.def_ 2 (d := da_2) rfl) (all_at e 22 rfl) rfl rfl (all_at e 25 rfl) (by decide +kernel),
    htop := by decide +kernel }
theorem tb_ok {H : Hp} (t : ∀ p ∈ tfL.map (He.cT K), H p.2 = some (.tbl #[])) : TbOk (TB K) H := fun Z hZ => by
  obtain ⟨p, hp, rfl⟩ := List.mem_map.mp hZ
  exact ⟨#[], t p hp, by trivial⟩
theorem facts {f : Addr} (X0 : K.In h) (G : h.Ns mainGlobals mg) (at_ : mg ("law" : Str) = some (.ref f)) (c : SaysY faL fnL tfL exB dsL h K) : LamX.LawAtS PySem.Challenge.rw_groupsover_k74_whole_steps_by_primes_and w K noCX 13 63 "_law_script" mg f h := by
  have F := fx X0 G c
  obtain ⟨fd, FD⟩ := c.t.def_ 58 (d := dt_58) rfl
  have same := at_.symm.trans F.g_60
  cases same
  have b := FunD.bindsA (ps := ["_law_script"]) FD fun _ _ _ _ _ _ us hl => match us, hl with | [_], _ => rfl
  refine ⟨fd, tfL.map (He.cT K), fun vs H Q _ => spC K (TB K) (fun _ => c_60) 60 1 vs H Q fun _ _ _ => False, ?_, ?_, ?_, fun s v => b s [v] rfl, fun H a ns hl _ hT hS => law_sp ev_law H a ns hl (tb_ok hT) hS, fun base _ _ tb => calm_fn (w_law F (zx X0 G c tb) FD)⟩
  · intro p hp
    obtain ⟨at1, hq, rfl⟩ := List.mem_map.mp hp
    exact (c.tab at1 hq).2.2
  · intro p hp
    obtain ⟨at1, hq, rfl⟩ := List.mem_map.mp hp
    exact (c.tab at1 hq).2.1
  · intro p hp
    obtain ⟨at1, hq, rfl⟩ := List.mem_map.mp hp
    exact PySem.W.codeHd_of_K X0 (c.tab at1 hq).1
end
end VA
open PySem PySem.W PySem.Calls PyProof.Rows
theorem PySem.Challenge.cw_groupsover_k74_whole_steps_by_primes_and_holds : PySem.Challenge.rw_groupsover_k74_whole_steps_by_primes_and.Holds := by
  w_on; o_law
  refine HandSHeadRun.head_imp (r := OpenLaw.row PySem.Challenge.rw_groupsover_k74_whole_steps_by_primes_and) (q := view (OpenLaw.row PySem.Challenge.rw_groupsover_k74_whole_steps_by_primes_and).prog [0, 82]) (H := VA.hk) (ob := VA.ob) (M := 9000) (loose := VA.namesL) (d := HandSHeadRun.topDef (OpenLaw.row PySem.Challenge.rw_groupsover_k74_whole_steps_by_primes_and).prog 82) (kwd := []) VA.ob_eq
     VA.run (by kernel_rfl) (by kernel_rfl) (by kernel_rfl) (by rfl) (by first | assumption | decide +kernel) (by decide +kernel) ⟨rfl, rfl, rfl, rfl, rfl, by decide +kernel⟩ ?hw ?hc
  case hw => w_witness2
  case hc =>
    refine LamX.walk_ofTsE (l := PySem.Challenge.rw_groupsover_k74_whole_steps_by_primes_and) (n := 63) (k := 13) (x := "_law_script") (CX := fun _ => VA.noCX) rfl (by decide) (by kernel_rfl) ⟨rfl, by decide, by decide⟩ ?F (fun _ _ _ _ _ z => z)
    intro w mg fa h Y G named
    obtain ⟨K, KX, c⟩ := Y
    have at_ : mg ("law" : PySem.Str) = some (.ref fa) := by
      have same : (HandSHeadRun.topDef (OpenLaw.row PySem.Challenge.rw_groupsover_k74_whole_steps_by_primes_and).prog 82).name = ("law" : PySem.Str) := by kernel_rfl
      rw [← same]
      exact named
    exact ⟨K, KX, VA.facts KX G at_ c⟩
