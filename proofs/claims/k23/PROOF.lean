import PyProof.Rows.All
import Wide.All
import OpenK.AllK
import Wide.FinOn
import HandS.ForMost
import HandS.ForExc
import HandS.TryOnly
import HandS.TryMany
import HandS.Flow
import HandS.Style
import HandS.TupMul
import HandS.TupAny
import HandS.IsInst
import HandS.Zip
import HandS.Rev
import HandS.Wide
import HandS.Conv
import KE.KDictKeyed
import KE.SortData
import KE.DataCmp
import HandS.More
import HandS.RaiseMore
import KE.KIndexOf
import HandS.HeadHook1
import PyProof.ExcBaseAll.ValueError
import KE.GoesMore
import KE.GoesZip
import KE.GoesEnum
import HandS.Text
import HandS.WordsDict
import HandS.Iter
import KE.KDictWalk
import HandS.SetKeys
import PyProof.DictMoreH
import HandS.DictComp
import KE.KDictDisplayH
import KE.KDictCopyH
import HandS.SortInts
import KE.DataMinMax
import HandS.Strs
import HandS.CallLocal
import HandS.ExcIs
import HandS.HotCalls
import KE.KExcStr
import HandS.ExcValue
import HandS.Defaults
import HandS.Head0
import HandS.Head1
import HandS.Head2
import HandS.HeadEnd
import HandS.HeadHook2
import PySem.Challenge.RW_cardtold_k23_errors_and_their_classes
section
set_option Elab.async false
set_option linter.all false
set_option maxRecDepth 100000
set_option maxHeartbeats 4000000
namespace Dn
open PySem PySem.Spec PyProof.Rows L2

/-! values as trees; what is changed in place stands in a small heap of its own -/
inductive W where
  | non | bl (b : Bool) | int (i : Int) | str (x : Str)
  | tup (xs : List W) | lst (xs : List W) | dct (ks vs : List W)
  | ref (n : Nat) | glo (x : Str) | scr (xs : List W)
  | erx (c : Str) | err (c : Str) (xs : List W) | any
  deriving Inhabited

inductive AO where
  | lst (xs : List W) | dct (ks vs : List W) | ins (c : Str) (ns : List Str) (vs : List W) | fdct (ks vs : List W)

abbrev AH := List AO
abbrev Env := List (Option W)

inductive Res (α : Type) where
  | ok (a : α) (h : AH) | exc (c : Str) (h : AH) | stuck

def Res.bind {α β : Type} (r : Res α) (f : α → AH → Res β) : Res β := match r with
  | .ok a h => f a h
  | .exc c h => .exc c h
  | .stuck => .stuck

@[simp] theorem Res.bind_ok {α β : Type} (a : α) (h : AH) (f : α → AH → Res β) : (Res.ok a h).bind f = f a h := rfl
@[simp] theorem Res.bind_exc {α β : Type} (c : Str) (h : AH) (f : α → AH → Res β) : (Res.exc c h : Res α).bind f = .exc c h := rfl
@[simp] theorem Res.bind_stuck {α β : Type} (f : α → AH → Res β) : (Res.stuck : Res α).bind f = .stuck := rfl

/-! the relation to the layer's values -/
/-- the addresses of the small heap's cells; and those that a running comprehension holds -/
structure Rho where
  cells : List Addr
  prot : List Addr
def Rho.all (ρ : Rho) : List Addr := ρ.cells ++ ρ.prot
def Rho.push (ρ : Rho) (p : Addr) : Rho := ⟨ρ.cells ++ [p], ρ.prot⟩
/-- the module, as the relation sees it -/
structure Md where
  P : Program
  w : World
  K : PySem.W.Frag
  mg : Str → Option Value

def KT (K : PySem.W.Frag) (a : Addr) (xs : List V) : Prop := ∃ (o : Obj) (its : Array Value) (n : Nat), K.lookup a = some o ∧ o.cls = .type "tuple" ∧ o.data = .seq its n ∧ its.size ≤ sizeLine ∧ Vals xs its.toList
def KL (K : PySem.W.Frag) (a : Addr) (xs : List V) : Prop := ∃ (o : Obj) (its : Array Value) (n : Nat), K.lookup a = some o ∧ o.cls = .type "list" ∧ o.dict = none ∧ o.data = .seq its n ∧ its.size ≤ sizeLine ∧ Vals xs its.toList
/-- a tuple: its very object is known (without a dict of its own) -/
def TupAt (M : Md) (ρ : Rho) (H : Hp) (a : Addr) (vs : List V) : Prop := (∃ o, H a = some (.frz o (.tup vs)) ∧ o.dict = none) ∧ a ∉ ρ.all
def LstAt (M : Md) (ρ : Rho) (H : Hp) (a : Addr) (vs : List V) : Prop := H a = some (.lst vs) ∧ a ∉ ρ.all
/-- the script: read alone -/
def ScrAt (M : Md) (ρ : Rho) (H : Hp) (a : Addr) (vs : List V) : Prop := (Rd H a (.lst vs) ∧ a ∉ ρ.all) ∨ KL M.K a vs

theorem TupAt.sq {M : Md} {ρ : Rho} {H : Hp} {a : Addr} {vs : List V} (h : TupAt M ρ H a vs) : SqT M.K H a vs := let ⟨⟨o, e, _⟩, _⟩ := h; .inl (.inr ⟨o, e⟩)
theorem LstAt.sq {M : Md} {ρ : Rho} {H : Hp} {a : Addr} {vs : List V} (h : LstAt M ρ H a vs) : SqL M.K H a vs := .inl (.inl h.1)
theorem ScrAt.sq {M : Md} {ρ : Rho} {H : Hp} {a : Addr} {vs : List V} (h : ScrAt M ρ H a vs) : SqL M.K H a vs := by
  rcases h with ⟨h, _⟩ | h
  · exact .inl h
  · exact .inr h

/-- a dict whose keys are tuples -/
def DF (P : Program) (w : World) (a : Addr) (xs : List (NestedKey × Addr × Value)) : Heap → Prop := fun h => ∃ o es ep, h.get? a = some o ∧ o.ExactDict ∧ o.data = .dict es ep ∧ es.toList = xs.map (entryOfKey (nestedKind P w)) ∧ (xs.map (·.1)).Nodup
def keyW : W → Option Key
  | .int i => some (.inl i)
  | .str x => some (.inr x)
  | _ => none

/-- what may be known more closely behind a step: the very object of a dict -/
def Dictish : HO → Prop
  | .dK _ => True
  | .ext _ => True
  | _ => False
def Kp (o : HO) (x : Option HO) : Prop := x = some o ∨ (Dictish o ∧ ∃ od, x = some (.frz od o))
theorem Kp.rfl' {o : HO} : Kp o (some o) := .inl rfl
theorem Kp.exact {o : HO} {x : Option HO} (h : Kp o x) (hn : ¬ Dictish o) : x = some o := h.resolve_right fun z => hn z.1
theorem Kp.ne {o : HO} {x : Option HO} (h : Kp o x) : x ≠ none := by
  rcases h with h | ⟨_, od, h⟩ <;> rw [h] <;> exact fun z => nomatch z
theorem Kp.rd {H' : Hp} {a : Addr} {o : HO} (h : Kp o (H' a)) : Rd H' a o := by
  rcases h with h | ⟨_, od, h⟩
  · exact .inl h
  · exact .inr ⟨od, h⟩
theorem Rd.kp {H H' : Hp} {a : Addr} {u : HO} (r : Rd H a u) (k : ∀ o, H a = some o → Kp o (H' a)) : Rd H' a u := by
  rcases r with r | ⟨od, r⟩
  · exact (k _ r).rd
  · exact .inr ⟨od, (k _ r).exact fun z => z.elim⟩
theorem Rd.ne {H : Hp} {a : Addr} {u : HO} (r : Rd H a u) : H a ≠ none := by
  rcases r with r | ⟨od, r⟩ <;> rw [r] <;> exact fun z => nomatch z
/-- the frame: what a step leaves as it was -/
structure Fr (ρ : Rho) (H : Hp) (ρ' : Rho) (H' : Hp) : Prop where
  keep : ∀ a o, H a = some o → a ∉ ρ.cells → Kp o (H' a)
  newC : ∀ a, a ∈ ρ'.cells → a ∈ ρ.cells ∨ H a = none
  newP : ∀ a, a ∈ ρ'.prot → a ∈ ρ.prot ∨ H a = none
  hold : ∀ a, a ∈ ρ.prot → a ∈ ρ'.prot
  pre : ∀ (n : Nat) (a : Addr), ρ.cells[n]? = some a → ρ'.cells[n]? = some a
  there : ∀ a, H a ≠ none → H' a ≠ none
  /-- what is known to the object stays so -/
  frzs : ∀ a od u, H a = some (.frz od u) → H' a = some (.frz od u)
  /-- what is held stays just so -/
  just : ∀ a o, a ∈ ρ.prot → H a = some o → H' a = some o
def NoFz (x : Option HO) : Prop := ∀ od u, x ≠ some (.frz od u)
theorem NoFz.of {x : Option HO} {o : HO} (e : x = some o) (h : ∀ od u, o ≠ .frz od u) : NoFz x := fun od u z => by
  rw [e] at z
  cases z
  exact h od u rfl

theorem Rho.mem_all {ρ : Rho} {a : Addr} : a ∈ ρ.all ↔ a ∈ ρ.cells ∨ a ∈ ρ.prot := List.mem_append
theorem Fr.new {ρ ρ' : Rho} {H H' : Hp} (f : Fr ρ H ρ' H') (a : Addr) (h : a ∈ ρ'.all) : a ∈ ρ.all ∨ H a = none := by
  rcases Rho.mem_all.mp h with h | h
  · exact (f.newC a h).imp (fun z => Rho.mem_all.mpr (.inl z)) id
  · exact (f.newP a h).imp (fun z => Rho.mem_all.mpr (.inr z)) id
theorem Fr.keepA {ρ ρ' : Rho} {H H' : Hp} (f : Fr ρ H ρ' H') {a : Addr} {o : HO} (h : H a = some o) (hn : a ∉ ρ.all) : Kp o (H' a) := f.keep a o h fun z => hn (Rho.mem_all.mpr (.inl z))
theorem Fr.refl (ρ : Rho) (H : Hp) : Fr ρ H ρ H := ⟨fun _ _ h _ => .inl h, fun _ h => .inl h, fun _ h => .inl h, fun _ h => h, fun _ _ h => h, fun _ h => h, fun _ _ _ h => h, fun _ _ _ h => h⟩
theorem Fr.trans {ρ ρ1 ρ2 : Rho} {H H1 H2 : Hp} (a : Fr ρ H ρ1 H1) (b : Fr ρ1 H1 ρ2 H2) : Fr ρ H ρ2 H2 where
  keep := fun x o h hn => by
    have hn1 : x ∉ ρ1.cells := fun hm => (a.newC x hm).elim hn fun e => by rw [e] at h; cases h
    rcases a.keep x o h hn with q | ⟨d, od, q⟩
    · exact b.keep x o q hn1
    · exact .inr ⟨d, od, (b.keep x _ q hn1).exact fun z => z.elim⟩
  newC := fun x hm => (b.newC x hm).elim (a.newC x) fun e => by
    by_cases hx : H x = none
    · exact .inr hx
    · exact absurd e (a.there x hx)
  newP := fun x hm => (b.newP x hm).elim (a.newP x) fun e => by
    by_cases hx : H x = none
    · exact .inr hx
    · exact absurd e (a.there x hx)
  hold := fun x h => b.hold x (a.hold x h)
  pre := fun n x h => b.pre n x (a.pre n x h)
  there := fun x h => b.there x (a.there x h)
  frzs := fun x od u h => b.frzs x od u (a.frzs x od u h)
  just := fun x o hp h => b.just x o (a.hold x hp) (a.just x o hp h)
theorem Fr.upd {ρ : Rho} {H : Hp} {p : Addr} {o : HO} (hp : H p = none) : Fr ρ H ρ (upd H p o) where
  keep := fun a u h _ => by rw [upd_ne (fun e => by rw [e, hp] at h; cases h)]; exact .inl h
  newC := fun _ h => .inl h
  newP := fun _ h => .inl h
  hold := fun _ h => h
  pre := fun _ _ h => h
  there := fun a h => by
    by_cases e : a = p
    · subst e; rw [upd_same]; exact fun z => nomatch z
    · rw [upd_ne e]; exact h
  frzs := fun a od u h => by rw [upd_ne (fun e => by rw [e, hp] at h; cases h)]; exact h
  just := fun a u _ h => by rw [upd_ne (fun e => by rw [e, hp] at h; cases h)]; exact h
/-- what the relation of values needs of a step -/
structure Fr0 (ρ : Rho) (H : Hp) (ρ' : Rho) (H' : Hp) : Prop where
  keepA : ∀ {a : Addr} {o : HO}, H a = some o → a ∉ ρ.all → Kp o (H' a)
  new : ∀ a, a ∈ ρ'.all → a ∈ ρ.all ∨ H a = none
  pre : ∀ (n : Nat) (a : Addr), ρ.cells[n]? = some a → ρ'.cells[n]? = some a
  frzs : ∀ a od u, H a = some (.frz od u) → H' a = some (.frz od u)
theorem Fr.weak {ρ ρ' : Rho} {H H' : Hp} (f : Fr ρ H ρ' H') : Fr0 ρ H ρ' H' := ⟨fun h hn => f.keepA h hn, f.new, f.pre, f.frzs⟩
theorem TupAt.mono0 {M : Md} {ρ ρ' : Rho} {H H' : Hp} {a : Addr} {vs : List V} (f : Fr0 ρ H ρ' H') (h : TupAt M ρ H a vs) : TupAt M ρ' H' a vs := by
  obtain ⟨⟨o, h1, h2⟩, hn⟩ := h
  exact ⟨⟨o, (f.keepA h1 hn).exact fun z => z.elim, h2⟩, fun hm => (f.new a hm).elim hn fun e => by rw [e] at h1; cases h1⟩
theorem LstAt.mono0 {M : Md} {ρ ρ' : Rho} {H H' : Hp} {a : Addr} {vs : List V} (f : Fr0 ρ H ρ' H') (h : LstAt M ρ H a vs) : LstAt M ρ' H' a vs :=
  ⟨(f.keepA h.1 h.2).exact fun z => z.elim, fun hm => (f.new a hm).elim h.2 fun e => by have := h.1; rw [e] at this; cases this⟩
theorem ScrAt.mono0 {M : Md} {ρ ρ' : Rho} {H H' : Hp} {a : Addr} {vs : List V} (f : Fr0 ρ H ρ' H') (h : ScrAt M ρ H a vs) : ScrAt M ρ' H' a vs := by
  rcases h with ⟨h | ⟨o, h⟩, hn⟩ | h
  · exact .inl ⟨.inl ((f.keepA h hn).exact fun z => z.elim), fun hm => (f.new a hm).elim hn fun e => by rw [e] at h; cases h⟩
  · exact .inl ⟨.inr ⟨o, (f.keepA h hn).exact fun z => z.elim⟩, fun hm => (f.new a hm).elim hn fun e => by rw [e] at h; cases h⟩
  · exact .inr h

/-- keys and values of a dict with flat keys -/
def kvOf : List W → List V → Option (List (Key × V))
  | [], [] => some []
  | k :: ks, v :: vs => match keyW k, kvOf ks vs with
    | some q, some r => some ((q, v) :: r)
    | _, _ => none
  | _, _ => none

mutual
/-- what a nested key is -/
def nkW : W → Option NestedKey
  | .non => some .none
  | .bl b => some (.num (if b then 1 else 0))
  | .int i => some (.num i)
  | .str x => some (.text x)
  | .tup xs => (nkWs xs).map NestedKey.tup
  | _ => none
def nkWs : List W → Option (List NestedKey)
  | [] => some []
  | x :: xs => match nkW x, nkWs xs with
    | some k, some r => some (k :: r)
    | _, _ => none
end

/-- an error's class -/
def excV (M : Md) (c : Str) : Value := match M.mg c with
  | some u => u
  | none => (bootBuiltins c).getD .none
/-- an error's own object -/
def ErrAt (M : Md) (ρ : Rho) (H : Hp) (a : Addr) (c : Str) (oe : Obj) (fl : Array Value) : Prop := a ∉ ρ.all ∧ H a = some (.frz oe (.own a)) ∧ oe.cls = excV M c ∧ oe.dict = none ∧ oe.data = .fields fl
mutual
def RW (M : Md) (ρ : Rho) (H : Hp) : W → V → Prop
  | .non, v => v = .non
  | .bl b, v => v = .bl b
  | .int i, v => v = .int i
  | .str x, v => v = .str x
  | .tup ws, v => ∃ a vs, v = .ref a ∧ TupAt M ρ H a vs ∧ RWs M ρ H ws vs
  | .lst ws, v => ∃ a vs, v = .ref a ∧ LstAt M ρ H a vs ∧ RWs M ρ H ws vs
  | .dct ks ws, v => ∃ a vs, v = .ref a ∧ a ∉ ρ.all ∧ RWs M ρ H ws vs ∧
      ((∃ kvs, kvOf ks vs = some kvs ∧ Rd H a (.dK kvs)) ∨
       ∃ xs, Rd H a (.ext (DF M.P M.w a xs)) ∧ (a == sysModules) = false ∧ xs.length ≤ sizeLine ∧ nkWs ks = some (xs.map (·.1)) ∧
         RWs M ρ H ks (xs.map fun x => V.ref x.2.1) ∧ Vals vs (xs.map (·.2.2)))
  | .ref n, v => ∃ a, v = .ref a ∧ ρ.cells[n]? = some a
  | .glo x, v => ∃ a, v = .ref a ∧ M.mg x = some (.ref a)
  | .scr ws, v => ∃ a vs, v = .ref a ∧ ScrAt M ρ H a vs ∧ RWs M ρ H ws vs
  | .erx c, v => ∃ a oe fl, v = .ref a ∧ ErrAt M ρ H a c oe fl
  | .err c ws, v => ∃ a oe fl t vs, v = .ref a ∧ ErrAt M ρ H a c oe fl ∧ fl[0]? = some (.ref t) ∧ TupAt M ρ H t vs ∧ RWs M ρ H ws vs
  | .any, v => ∃ a, v = .ref a
def RWs (M : Md) (ρ : Rho) (H : Hp) : List W → List V → Prop
  | [], vs => vs = []
  | w :: ws, vs => ∃ v r, vs = v :: r ∧ RW M ρ H w v ∧ RWs M ρ H ws r
end

theorem ErrAt.mono0 {M : Md} {ρ ρ' : Rho} {H H' : Hp} {a : Addr} {c : Str} {oe : Obj} {fl : Array Value} (f : Fr0 ρ H ρ' H') (h : ErrAt M ρ H a c oe fl) : ErrAt M ρ' H' a c oe fl := by
  obtain ⟨hn, h1, h2⟩ := h
  exact ⟨fun hm => (f.new a hm).elim hn fun e => by (rw [e] at h1; cases h1), (f.keepA h1 hn).exact fun z => z.elim, h2⟩
mutual
theorem RW.mono0 {M : Md} {ρ ρ' : Rho} {H H' : Hp} (f : Fr0 ρ H ρ' H') : ∀ (w : W) (v : V), RW M ρ H w v → RW M ρ' H' w v
  | .non, v, h => by simpa [RW] using h
  | .bl b, v, h => by simpa [RW] using h
  | .int i, v, h => by simpa [RW] using h
  | .str x, v, h => by simpa [RW] using h
  | .tup ws, v, h => by
    rw [RW] at h ⊢
    obtain ⟨a, vs, e, h1, h2⟩ := h
    exact ⟨a, vs, e, h1.mono0 f, RWs.mono0 f ws vs h2⟩
  | .lst ws, v, h => by
    rw [RW] at h ⊢
    obtain ⟨a, vs, e, h1, h2⟩ := h
    exact ⟨a, vs, e, h1.mono0 f, RWs.mono0 f ws vs h2⟩
  | .dct ks ws, v, h => by
    rw [RW] at h ⊢
    obtain ⟨a, vs, e, hn, h2, h3⟩ := h
    have ne : H a ≠ none → a ∉ ρ'.all := fun q hm => (f.new a hm).elim hn q
    rcases h3 with ⟨kvs, e1, e2⟩ | ⟨xs, e1, e2, e3, e4, e5, e6⟩
    · exact ⟨a, vs, e, ne (Rd.ne e2), RWs.mono0 f ws vs h2, .inl ⟨kvs, e1, Rd.kp e2 fun o q => f.keepA q hn⟩⟩
    · exact ⟨a, vs, e, ne (Rd.ne e1), RWs.mono0 f ws vs h2, .inr ⟨xs, Rd.kp e1 fun o q => f.keepA q hn, e2, e3, e4, RWs.mono0 f ks _ e5, e6⟩⟩
  | .ref n, v, h => by
    rw [RW] at h ⊢
    obtain ⟨a, e, h⟩ := h
    exact ⟨a, e, f.pre n a h⟩
  | .glo x, v, h => by simpa [RW] using h
  | .scr ws, v, h => by
    rw [RW] at h ⊢
    obtain ⟨a, vs, e, h1, h2⟩ := h
    exact ⟨a, vs, e, h1.mono0 f, RWs.mono0 f ws vs h2⟩
  | .erx c, v, h => by
    rw [RW] at h ⊢
    obtain ⟨a, oe, fl, e, h1⟩ := h
    exact ⟨a, oe, fl, e, h1.mono0 f⟩
  | .err c ws, v, h => by
    rw [RW] at h ⊢
    obtain ⟨a, oe, fl, t, vs, e, h1, h2, h3, h4⟩ := h
    exact ⟨a, oe, fl, t, vs, e, h1.mono0 f, h2, h3.mono0 f, RWs.mono0 f ws vs h4⟩
  | .any, v, h => by simpa [RW] using h
theorem RWs.mono0 {M : Md} {ρ ρ' : Rho} {H H' : Hp} (f : Fr0 ρ H ρ' H') : ∀ (ws : List W) (vs : List V), RWs M ρ H ws vs → RWs M ρ' H' ws vs
  | [], vs, h => by simpa [RWs] using h
  | w :: ws, vs, h => by
    rw [RWs] at h ⊢
    obtain ⟨v, r, e, h1, h2⟩ := h
    exact ⟨v, r, e, RW.mono0 f w v h1, RWs.mono0 f ws r h2⟩
end
theorem TupAt.mono {M : Md} {ρ ρ' : Rho} {H H' : Hp} {a : Addr} {vs : List V} (f : Fr ρ H ρ' H') (h : TupAt M ρ H a vs) : TupAt M ρ' H' a vs := h.mono0 f.weak
theorem LstAt.mono {M : Md} {ρ ρ' : Rho} {H H' : Hp} {a : Addr} {vs : List V} (f : Fr ρ H ρ' H') (h : LstAt M ρ H a vs) : LstAt M ρ' H' a vs := h.mono0 f.weak
theorem RW.mono {M : Md} {ρ ρ' : Rho} {H H' : Hp} (f : Fr ρ H ρ' H') (w : W) (v : V) (h : RW M ρ H w v) : RW M ρ' H' w v := RW.mono0 f.weak w v h
theorem RWs.mono {M : Md} {ρ ρ' : Rho} {H H' : Hp} (f : Fr ρ H ρ' H') (ws : List W) (vs : List V) (h : RWs M ρ H ws vs) : RWs M ρ' H' ws vs := RWs.mono0 f.weak ws vs h
theorem RWs.length {M : Md} {ρ : Rho} {H : Hp} : ∀ {ws : List W} {vs : List V}, RWs M ρ H ws vs → vs.length = ws.length
  | [], vs, h => by rw [RWs] at h; rw [h]; rfl
  | w :: ws, vs, h => by
    rw [RWs] at h
    obtain ⟨v, r, e, _, h2⟩ := h
    rw [e, List.length_cons, List.length_cons, RWs.length h2]
theorem RWs.append {M : Md} {ρ : Rho} {H : Hp} : ∀ {ws us : List W} {vs xs : List V}, RWs M ρ H ws vs → RWs M ρ H us xs → RWs M ρ H (ws ++ us) (vs ++ xs)
  | [], us, vs, xs, h, h' => by rw [RWs] at h; rw [h]; exact h'
  | w :: ws, us, vs, xs, h, h' => by
    rw [RWs] at h
    obtain ⟨v, r, e, h1, h2⟩ := h
    subst e
    rw [List.cons_append, RWs]
    exact ⟨v, _, rfl, h1, RWs.append h2 h'⟩
theorem RWs.get {M : Md} {ρ : Rho} {H : Hp} : ∀ {ws : List W} {vs : List V} {i : Nat} {w : W}, RWs M ρ H ws vs → ws[i]? = some w → ∃ v, vs[i]? = some v ∧ RW M ρ H w v
  | [], _, _, _, _, e => by simp at e
  | w :: ws, vs, 0, _, h, e => by
    rw [RWs] at h
    obtain ⟨v, r, rfl, h1, h2⟩ := h
    simp at e; subst e
    exact ⟨v, rfl, h1⟩
  | w :: ws, vs, i + 1, x, h, e => by
    rw [RWs] at h
    obtain ⟨v, r, rfl, h1, h2⟩ := h
    obtain ⟨u, q1, q2⟩ := RWs.get (i := i) (w := x) h2 (by simpa using e)
    exact ⟨u, by simpa using q1, q2⟩
theorem RWs.take {M : Md} {ρ : Rho} {H : Hp} : ∀ {ws : List W} {vs : List V} (n : Nat), RWs M ρ H ws vs → RWs M ρ H (ws.take n) (vs.take n)
  | _, _, 0, _ => by simp [RWs]
  | [], vs, n + 1, h => by rw [RWs] at h; subst h; simp [RWs]
  | w :: ws, vs, n + 1, h => by
    rw [RWs] at h
    obtain ⟨v, r, rfl, h1, h2⟩ := h
    rw [List.take_succ_cons, List.take_succ_cons, RWs]
    exact ⟨v, _, rfl, h1, RWs.take n h2⟩
theorem RWs.drop {M : Md} {ρ : Rho} {H : Hp} : ∀ {ws : List W} {vs : List V} (n : Nat), RWs M ρ H ws vs → RWs M ρ H (ws.drop n) (vs.drop n)
  | _, _, 0, h => h
  | [], vs, n + 1, h => by rw [RWs] at h; subst h; simp [RWs]
  | w :: ws, vs, n + 1, h => by
    rw [RWs] at h
    obtain ⟨v, r, rfl, h1, h2⟩ := h
    exact RWs.drop n h2
theorem RWs.set {M : Md} {ρ : Rho} {H : Hp} {w : W} {v : V} (r : RW M ρ H w v) : ∀ {ws : List W} {vs : List V} (i : Nat), RWs M ρ H ws vs → RWs M ρ H (ws.set i w) (vs.set i v)
  | [], vs, i, h => by rw [RWs] at h; subst h; simp [RWs]
  | x :: ws, vs, 0, h => by
    rw [RWs] at h
    obtain ⟨u, q, rfl, h1, h2⟩ := h
    rw [List.set_cons_zero, List.set_cons_zero, RWs]
    exact ⟨_, _, rfl, r, h2⟩
  | x :: ws, vs, i + 1, h => by
    rw [RWs] at h
    obtain ⟨u, q, rfl, h1, h2⟩ := h
    rw [List.set_cons_succ, List.set_cons_succ, RWs]
    exact ⟨_, _, rfl, h1, RWs.set r i h2⟩
theorem RWs.reverse {M : Md} {ρ : Rho} {H : Hp} : ∀ {ws : List W} {vs : List V}, RWs M ρ H ws vs → RWs M ρ H ws.reverse vs.reverse
  | [], vs, h => by rw [RWs] at h; subst h; simp [RWs]
  | w :: ws, vs, h => by
    rw [RWs] at h
    obtain ⟨v, r, rfl, h1, h2⟩ := h
    rw [List.reverse_cons, List.reverse_cons]
    exact RWs.append (RWs.reverse h2) (by rw [RWs]; exact ⟨v, [], rfl, h1, by rw [RWs]⟩)
theorem RWs.eraseIdx {M : Md} {ρ : Rho} {H : Hp} : ∀ {ws : List W} {vs : List V} (i : Nat), RWs M ρ H ws vs → RWs M ρ H (ws.eraseIdx i) (vs.eraseIdx i)
  | [], vs, i, h => by rw [RWs] at h; subst h; simp [RWs]
  | x :: ws, vs, 0, h => by
    rw [RWs] at h
    obtain ⟨u, q, rfl, h1, h2⟩ := h
    exact h2
  | x :: ws, vs, i + 1, h => by
    rw [RWs] at h
    obtain ⟨u, q, rfl, h1, h2⟩ := h
    rw [List.eraseIdx_cons_succ, List.eraseIdx_cons_succ, RWs]
    exact ⟨_, _, rfl, h1, RWs.eraseIdx i h2⟩
theorem RWs.nil {M : Md} {ρ : Rho} {H : Hp} : RWs M ρ H [] [] := by rw [RWs]
theorem RWs.cons {M : Md} {ρ : Rho} {H : Hp} {w : W} {v : V} {ws : List W} {vs : List V} (h : RW M ρ H w v) (t : RWs M ρ H ws vs) : RWs M ρ H (w :: ws) (v :: vs) := by rw [RWs]; exact ⟨v, vs, rfl, h, t⟩
theorem RWs.snoc {M : Md} {ρ : Rho} {H : Hp} {w : W} {v : V} {ws : List W} {vs : List V} (t : RWs M ρ H ws vs) (h : RW M ρ H w v) : RWs M ρ H (ws ++ [w]) (vs ++ [v]) := t.append (.cons h .nil)

/-! the small heap against the layer's heap -/
def RO (M : Md) (ρ : Rho) (H : Hp) (a : Addr) : AO → Prop
  | .lst ws => ∃ vs, H a = some (.lst vs) ∧ RWs M ρ H ws vs
  | .dct ks ws => ∃ vs, RWs M ρ H ws vs ∧
      ((∃ kvs, kvOf ks vs = some kvs ∧ H a = some (.dK kvs)) ∨
       ∃ xs, H a = some (.ext (DF M.P M.w a xs)) ∧ (a == sysModules) = false ∧ xs.length ≤ sizeLine ∧ nkWs ks = some (xs.map (·.1)) ∧
         RWs M ρ H ks (xs.map fun x => V.ref x.2.1) ∧ Vals vs (xs.map (·.2.2)))
  | .ins c ns ws => ∃ C dx fs, M.mg c = some (.ref C) ∧ H a = some (.ins C dx fs) ∧ fs.map (·.1) = ns ∧ RWs M ρ H ws (fs.map (·.2))
  | .fdct ks ws => ∃ vs, RWs M ρ H ws vs ∧
      ((∃ kvs, kvOf ks vs = some kvs ∧ ∃ od, H a = some (.frz od (.dK kvs))) ∨
       ∃ xs, (∃ od, H a = some (.frz od (.ext (DF M.P M.w a xs)))) ∧ (a == sysModules) = false ∧ xs.length ≤ sizeLine ∧ nkWs ks = some (xs.map (·.1)) ∧
         RWs M ρ H ks (xs.map fun x => V.ref x.2.1) ∧ Vals vs (xs.map (·.2.2)))
structure RelH (M : Md) (ρ : Rho) (H : Hp) (ah : AH) : Prop where
  len : ρ.cells.length = ah.length
  nd : ρ.cells.Nodup
  sep : ∀ a ∈ ρ.cells, a ∉ ρ.prot
  there : ∀ a ∈ ρ.all, H a ≠ none
  cell : ∀ (n : Nat) a o, ρ.cells[n]? = some a → ah[n]? = some o → RO M ρ H a o

theorem RO.mono0 {M : Md} {ρ ρ' : Rho} {H H' : Hp} {a : Addr} {o : AO} (f : Fr0 ρ H ρ' H') (e : H' a = H a) (h : RO M ρ H a o) : RO M ρ' H' a o := by
  cases o with
  | lst ws => obtain ⟨vs, h1, h2⟩ := h; exact ⟨vs, e.trans h1, RWs.mono0 f _ _ h2⟩
  | dct ks ws =>
    obtain ⟨vs, h1, ⟨kvs, h2, h3⟩ | ⟨xs, h2, h3, h4, h5, h6, h7⟩⟩ := h
    · exact ⟨vs, RWs.mono0 f _ _ h1, .inl ⟨kvs, h2, e.trans h3⟩⟩
    · exact ⟨vs, RWs.mono0 f _ _ h1, .inr ⟨xs, e.trans h2, h3, h4, h5, RWs.mono0 f _ _ h6, h7⟩⟩
  | ins c ns ws => obtain ⟨C, dx, fs, h1, h2, h3, h4⟩ := h; exact ⟨C, dx, fs, h1, e.trans h2, h3, RWs.mono0 f _ _ h4⟩
  | fdct ks ws =>
    obtain ⟨vs, h1, ⟨kvs, h2, od, h3⟩ | ⟨xs, ⟨od, h2⟩, h3, h4, h5, h6, h7⟩⟩ := h
    · exact ⟨vs, RWs.mono0 f _ _ h1, .inl ⟨kvs, h2, od, e.trans h3⟩⟩
    · exact ⟨vs, RWs.mono0 f _ _ h1, .inr ⟨xs, ⟨od, e.trans h2⟩, h3, h4, h5, RWs.mono0 f _ _ h6, h7⟩⟩
theorem RO.mono {M : Md} {ρ ρ' : Rho} {H H' : Hp} {a : Addr} {o : AO} (f : Fr ρ H ρ' H') (e : H' a = H a) (h : RO M ρ H a o) : RO M ρ' H' a o := h.mono0 f.weak e
theorem RelH.fresh {M : Md} {ρ : Rho} {H : Hp} {ah : AH} (R : RelH M ρ H ah) {p : Addr} (hp : H p = none) : p ∉ ρ.all := fun hm => R.there p hm hp
theorem Rho.cell_all {ρ : Rho} {n : Nat} {a : Addr} (h : ρ.cells[n]? = some a) : a ∈ ρ.all := Rho.mem_all.mpr (.inl (List.mem_of_getElem? h))
/-- a new object that is not to be changed -/
theorem RelH.upd {M : Md} {ρ : Rho} {H : Hp} {ah : AH} (R : RelH M ρ H ah) {p : Addr} {o : HO} (hp : H p = none) : RelH M ρ (upd H p o) ah where
  len := R.len
  nd := R.nd
  sep := R.sep
  there := fun a ha => (Fr.upd (ρ := ρ) hp).there a (R.there a ha)
  cell := fun n a ob h1 h2 => (R.cell n a ob h1 h2).mono (Fr.upd hp) (upd_ne (fun e => R.fresh hp (e ▸ Rho.cell_all h1)))
theorem Rho.push_get {ρ : Rho} {p : Addr} {n : Nat} {a : Addr} (h : ρ.cells[n]? = some a) : (ρ.push p).cells[n]? = some a := by
  show (ρ.cells ++ [p])[n]? = some a
  rw [List.getElem?_append_left (List.getElem?_eq_some_iff.mp h).1]
  exact h
theorem Rho.push_cells {ρ : Rho} {p a : Addr} : a ∈ (ρ.push p).cells ↔ a ∈ ρ.cells ∨ a = p := by
  show a ∈ ρ.cells ++ [p] ↔ _
  rw [List.mem_append, List.mem_singleton]
theorem Fr.push {ρ : Rho} {H : Hp} {p : Addr} {o : HO} (hp : H p = none) : Fr ρ H (ρ.push p) (L2.upd H p o) where
  keep := fun a u h hn => (Fr.upd (ρ := ρ) hp).keep a u h hn
  newC := fun a h => (Rho.push_cells.mp h).elim .inl fun h => .inr (by rw [h]; exact hp)
  newP := fun _ h => .inl h
  hold := fun _ h => h
  pre := fun n a h => Rho.push_get h
  there := (Fr.upd (ρ := ρ) hp).there
  frzs := (Fr.upd (ρ := ρ) hp).frzs
  just := fun a u _ h => by rw [upd_ne (fun e => by rw [e, hp] at h; cases h)]; exact h
theorem cells_push {M : Md} {ρ ρ' : Rho} {H H' : Hp} {ah : AH} {p : Addr} {ob : AO} (hl : ρ.cells.length = ah.length) (hc : ρ'.cells = ρ.cells ++ [p]) (old : ∀ (n : Nat) a o, ρ.cells[n]? = some a → ah[n]? = some o → RO M ρ' H' a o) (new : RO M ρ' H' p ob) :
    ∀ (n : Nat) a o, ρ'.cells[n]? = some a → (ah ++ [ob])[n]? = some o → RO M ρ' H' a o := fun n a u h1 h2 => by
  rw [hc] at h1
  by_cases hn : n < ρ.cells.length
  · rw [List.getElem?_append_left hn] at h1
    rw [List.getElem?_append_left (by rw [← hl]; exact hn)] at h2
    exact old n a u h1 h2
  · have e : n = ρ.cells.length := by
      have := (List.getElem?_eq_some_iff.mp h1).1
      rw [List.length_append, List.length_singleton] at this
      omega
    subst e
    rw [List.getElem?_append_right (Nat.le_refl _), Nat.sub_self] at h1
    rw [hl, List.getElem?_append_right (Nat.le_refl _), Nat.sub_self] at h2
    simp at h1 h2
    subst h1 h2
    exact new
/-- a new object that may be changed -/
theorem RelH.push {M : Md} {ρ : Rho} {H : Hp} {ah : AH} {p : Addr} {o : HO} {ob : AO} (R : RelH M ρ H ah) (hp : H p = none) (h : RO M (ρ.push p) (L2.upd H p o) p ob) : RelH M (ρ.push p) (L2.upd H p o) (ah ++ [ob]) where
  len := by
    show (ρ.cells ++ [p]).length = _
    rw [List.length_append, List.length_append, R.len]; rfl
  nd := List.nodup_append.mpr ⟨R.nd, by simp, fun a ha b hb => by
    rw [List.mem_singleton.mp hb]
    exact fun e => R.fresh hp (Rho.mem_all.mpr (.inl (e ▸ ha)))⟩
  sep := fun a ha hq => (Rho.push_cells.mp ha).elim (fun h => R.sep a h hq) fun e => R.fresh hp (Rho.mem_all.mpr (.inr (e ▸ hq)))
  there := fun a ha => by
    rcases Rho.mem_all.mp ha with ha | ha
    · rcases Rho.push_cells.mp ha with h | h
      · exact (Fr.upd (ρ := ρ) hp).there a (R.there a (Rho.mem_all.mpr (.inl h)))
      · rw [h, upd_same]; exact fun z => nomatch z
    · exact (Fr.upd (ρ := ρ) hp).there a (R.there a (Rho.mem_all.mpr (.inr ha)))
  cell := cells_push (H := H) R.len rfl (fun n a u h1 h2 => (R.cell n a u h1 h2).mono (Fr.push hp) (upd_ne (fun e => R.fresh hp (e ▸ Rho.cell_all h1)))) h
theorem Fr.write {ρ : Rho} {H : Hp} {a : Addr} {o : HO} (ha : a ∈ ρ.cells) (hp : a ∉ ρ.prot) (hh : H a ≠ none) (nf : NoFz (H a)) : Fr ρ H ρ (L2.upd H a o) where
  keep := fun b u h hn => by rw [upd_ne (fun (e : b = a) => hn (by rw [e]; exact ha))]; exact .inl h
  newC := fun _ h => .inl h
  newP := fun _ h => .inl h
  hold := fun _ h => h
  pre := fun _ _ h => h
  there := fun b h => by
    by_cases e : b = a
    · subst e; rw [upd_same]; exact fun z => nomatch z
    · rw [upd_ne e]; exact h
  frzs := fun b od u h => by rw [upd_ne (fun (e : b = a) => nf od u (by rw [← e]; exact h))]; exact h
  just := fun b u hb h => by rw [upd_ne (fun (e : b = a) => hp (e ▸ hb))]; exact h
/-- an object is changed -/
theorem RelH.write {M : Md} {ρ : Rho} {H : Hp} {ah : AH} {n : Nat} {a : Addr} {o : HO} {ob : AO} (R : RelH M ρ H ah) (ha : ρ.cells[n]? = some a) (nf : NoFz (H a)) (h : RO M ρ (L2.upd H a o) a ob) : RelH M ρ (L2.upd H a o) (ah.set n ob) where
  len := by rw [List.length_set]; exact R.len
  nd := R.nd
  sep := R.sep
  there := fun b hb => (Fr.write (List.mem_of_getElem? ha) (R.sep a (List.mem_of_getElem? ha)) (R.there a (Rho.cell_all ha)) nf).there b (R.there b hb)
  cell := fun m b u h1 h2 => by
    by_cases e : m = n
    · subst e
      rw [ha] at h1; cases h1
      rw [List.getElem?_set_self (by rw [← R.len]; exact (List.getElem?_eq_some_iff.mp ha).1)] at h2
      cases h2
      exact h
    · rw [List.getElem?_set_ne (Ne.symm e)] at h2
      refine (R.cell m b u h1 h2).mono (Fr.write (List.mem_of_getElem? ha) (R.sep a (List.mem_of_getElem? ha)) (R.there a (Rho.cell_all ha)) nf) (upd_ne fun q => e ?_)
      subst q
      obtain ⟨l1, e1⟩ := List.getElem?_eq_some_iff.mp ha
      obtain ⟨l2, e2⟩ := List.getElem?_eq_some_iff.mp h1
      exact (List.getElem_inj R.nd).mp (e2.trans e1.symm)
theorem RelH.at_ref {M : Md} {ρ : Rho} {H : Hp} {ah : AH} (R : RelH M ρ H ah) {n : Nat} {o : AO} (h : ah[n]? = some o) : ∃ a, ρ.cells[n]? = some a ∧ RO M ρ H a o := by
  have l : n < ρ.cells.length := by rw [R.len]; exact (List.getElem?_eq_some_iff.mp h).1
  exact ⟨ρ.cells[n], by simp [l], R.cell n _ o (by simp [l]) h⟩

/-- the slots -/
structure REnv (M : Md) (ρ : Rho) (H : Hp) (env : Env) (σ : L2.St) : Prop where
  len : σ.length = env.length
  at_ : ∀ (i : Nat) (w : W), env[i]? = some (some w) → ∃ v, σ[i]? = some (some v) ∧ RW M ρ H w v
theorem REnv.mono {M : Md} {ρ ρ' : Rho} {H H' : Hp} {env : Env} {σ : L2.St} (f : Fr ρ H ρ' H') (h : REnv M ρ H env σ) : REnv M ρ' H' env σ :=
  ⟨h.len, fun i w e => let ⟨v, q, r⟩ := h.at_ i w e; ⟨v, q, RW.mono f w v r⟩⟩
theorem REnv.set {M : Md} {ρ : Rho} {H : Hp} {env : Env} {σ : L2.St} (h : REnv M ρ H env σ) {i : Nat} {w : W} {v : V} (r : RW M ρ H w v) : REnv M ρ H (env.set i (some w)) (σ.set i (some v)) :=
  ⟨by rw [List.length_set, List.length_set]; exact h.len, fun j u e => by
    by_cases q : i = j
    · subst q
      by_cases l : i < env.length
      · rw [List.getElem?_set_self l] at e
        cases e
        exact ⟨v, by rw [List.getElem?_set_self (by rw [h.len]; exact l)], r⟩
      · rw [List.getElem?_eq_none (by rw [List.length_set]; omega)] at e; cases e
    · rw [List.getElem?_set_ne q] at e ⊢
      exact h.at_ j u e⟩
theorem REnv.forget {M : Md} {ρ : Rho} {H : Hp} {env : Env} {σ : L2.St} (h : REnv M ρ H env σ) {env' : Env} (l : env'.length = env.length) (w : ∀ (i : Nat) x, env'[i]? = some (some x) → env[i]? = some (some x)) : REnv M ρ H env' σ :=
  ⟨h.len.trans l.symm, fun i x e => h.at_ i x (w i x e)⟩
theorem REnv.mono0 {M : Md} {ρ ρ' : Rho} {H H' : Hp} {env : Env} {σ : L2.St} (f : Fr0 ρ H ρ' H') (h : REnv M ρ H env σ) : REnv M ρ' H' env σ :=
  ⟨h.len, fun i w e => let ⟨v, q, r⟩ := h.at_ i w e; ⟨v, q, RW.mono0 f w v r⟩⟩
/-- a held object changes -/
theorem Fr0.held {ρ : Rho} {H : Hp} {D : Addr} {o : HO} (hD : D ∈ ρ.prot) (nf : NoFz (H D)) : Fr0 ρ H ρ (L2.upd H D o) where
  keepA := fun {a u} h hn => by rw [upd_ne (fun (e : a = D) => hn (Rho.mem_all.mpr (.inr (e ▸ hD))))]; exact .inl h
  new := fun _ h => .inl h
  pre := fun _ _ h => h
  frzs := fun b od u h => by rw [upd_ne (fun (e : b = D) => nf od u (by rw [← e]; exact h))]; exact h
theorem RelH.held {M : Md} {ρ : Rho} {H : Hp} {ah : AH} {D : Addr} {o : HO} (R : RelH M ρ H ah) (hD : D ∈ ρ.prot) (nf : NoFz (H D)) : RelH M ρ (L2.upd H D o) ah where
  len := R.len
  nd := R.nd
  sep := R.sep
  there := fun a ha => by
    by_cases e : a = D
    · subst e; rw [upd_same]; exact fun z => nomatch z
    · rw [upd_ne e]; exact R.there a ha
  cell := fun n a ob h1 h2 => (R.cell n a ob h1 h2).mono0 (Fr0.held hD nf) (upd_ne fun e => R.sep a (List.mem_of_getElem? h1) (e ▸ hD))
/-- an object that is new since H changes -/
theorem Fr.late {ρ ρ' : Rho} {H H' : Hp} {D : Addr} {o : HO} (f : Fr ρ H ρ' H') (hD : H D = none) : Fr ρ H ρ' (L2.upd H' D o) where
  keep := fun a u h hn => by rw [upd_ne (fun e => by rw [e, hD] at h; cases h)]; exact f.keep a u h hn
  newC := f.newC
  newP := f.newP
  hold := f.hold
  pre := f.pre
  there := fun a h => by
    by_cases e : a = D
    · subst e; rw [upd_same]; exact fun z => nomatch z
    · rw [upd_ne e]; exact f.there a h
  frzs := fun a od u h => by rw [upd_ne (fun e => by rw [e, hD] at h; cases h)]; exact f.frzs a od u h
  just := fun a u hb h => by rw [upd_ne (fun e => by rw [e, hD] at h; cases h)]; exact f.just a u hb h
def Rho.hold (ρ : Rho) (D : Addr) : Rho := ⟨ρ.cells, D :: ρ.prot⟩
def Rho.let_ (ρ : Rho) (D : Addr) : Rho := ⟨ρ.cells, ρ.prot.filter fun a => decide (a ≠ D)⟩
theorem Rho.mem_let {ρ : Rho} {D a : Addr} : a ∈ (ρ.let_ D).prot ↔ a ∈ ρ.prot ∧ a ≠ D := by
  show a ∈ ρ.prot.filter (fun a => decide (a ≠ D)) ↔ _
  rw [List.mem_filter]
  simp
theorem Fr.holdNew {ρ : Rho} {H : Hp} {D : Addr} {o : HO} (hD : H D = none) : Fr ρ H (ρ.hold D) (L2.upd H D o) where
  keep := (Fr.upd (ρ := ρ) hD).keep
  newC := fun _ h => .inl h
  newP := fun a h => (List.mem_cons.mp h).elim (fun e => .inr (e ▸ hD)) .inl
  hold := fun _ h => List.mem_cons_of_mem _ h
  pre := fun _ _ h => h
  there := (Fr.upd (ρ := ρ) hD).there
  frzs := (Fr.upd (ρ := ρ) hD).frzs
  just := fun a u _ h => by rw [upd_ne (fun e => by rw [e, hD] at h; cases h)]; exact h
theorem RelH.holdNew {M : Md} {ρ : Rho} {H : Hp} {ah : AH} {D : Addr} {o : HO} (R : RelH M ρ H ah) (hD : H D = none) : RelH M (ρ.hold D) (L2.upd H D o) ah where
  len := R.len
  nd := R.nd
  sep := fun a ha hp => (List.mem_cons.mp hp).elim (fun e => R.fresh hD (Rho.mem_all.mpr (.inl (e ▸ ha)))) (R.sep a ha)
  there := fun a ha => by
    by_cases e : a = D
    · subst e; rw [upd_same]; exact fun z => nomatch z
    · rw [upd_ne e]
      refine R.there a (Rho.mem_all.mpr ?_)
      rcases Rho.mem_all.mp ha with h | h
      · exact .inl h
      · exact .inr ((List.mem_cons.mp h).resolve_left e)
  cell := fun n a ob h1 h2 => (R.cell n a ob h1 h2).mono (Fr.holdNew hD) (upd_ne fun e => R.fresh hD (e ▸ Rho.cell_all h1))
/-- the held object is let go -/
theorem Fr0.let_ {ρ : Rho} {H : Hp} (D : Addr) : Fr0 ρ H (ρ.let_ D) H where
  keepA := fun h _ => .inl h
  new := fun a h => .inl (Rho.mem_all.mpr ((Rho.mem_all.mp h).imp id fun z => (Rho.mem_let.mp z).1))
  pre := fun _ _ h => h
  frzs := fun _ _ _ h => h
theorem RelH.let_ {M : Md} {ρ : Rho} {H : Hp} {ah : AH} (R : RelH M ρ H ah) (D : Addr) : RelH M (ρ.let_ D) H ah where
  len := R.len
  nd := R.nd
  sep := fun a ha hp => R.sep a ha (Rho.mem_let.mp hp).1
  there := fun a ha => R.there a (Rho.mem_all.mpr ((Rho.mem_all.mp ha).imp id fun z => (Rho.mem_let.mp z).1))
  cell := fun n a ob h1 h2 => (R.cell n a ob h1 h2).mono0 (Fr0.let_ D) rfl
theorem Fr.let_ {ρ ρ' : Rho} {H H' : Hp} {D : Addr} (f : Fr ρ H ρ' H') (hD : D ∉ ρ.prot) : Fr ρ H (ρ'.let_ D) H' where
  keep := f.keep
  newC := f.newC
  newP := fun a h => f.newP a (Rho.mem_let.mp h).1
  hold := fun a h => Rho.mem_let.mpr ⟨f.hold a h, fun e => hD (e ▸ h)⟩
  pre := f.pre
  there := f.there
  frzs := f.frzs
  just := f.just
/-- .. and becomes a cell -/
theorem Fr0.adopt {ρ : Rho} {H : Hp} {D : Addr} (hD : D ∈ ρ.prot) : Fr0 ρ H ((ρ.let_ D).push D) H where
  keepA := fun h _ => .inl h
  new := fun a h => .inl (Rho.mem_all.mpr (by
    rcases Rho.mem_all.mp h with h | h
    · exact (Rho.push_cells.mp h).imp id fun (e : a = D) => by rw [e]; exact hD
    · exact .inr (Rho.mem_let.mp h).1))
  pre := fun _ _ h => Rho.push_get h
  frzs := fun _ _ _ h => h
theorem RelH.adopt {M : Md} {ρ : Rho} {H : Hp} {ah : AH} {D : Addr} {ob : AO} (R : RelH M ρ H ah) (hD : D ∈ ρ.prot) (h : RO M ((ρ.let_ D).push D) H D ob) : RelH M ((ρ.let_ D).push D) H (ah ++ [ob]) where
  len := by
    show (ρ.cells ++ [D]).length = _
    rw [List.length_append, List.length_append, R.len]; rfl
  nd := List.nodup_append.mpr ⟨R.nd, by simp, fun a ha b hb => by
    rw [List.mem_singleton.mp hb]
    exact fun e => R.sep a ha (e ▸ hD)⟩
  sep := fun a ha hq => (Rho.push_cells.mp ha).elim (fun h => R.sep a h (Rho.mem_let.mp hq).1) fun e => (Rho.mem_let.mp hq).2 e
  there := fun a ha => (Fr0.adopt (H := H) hD).new a ha |>.elim (R.there a) fun e => by
    rcases Rho.mem_all.mp ha with z | z
    · rcases Rho.push_cells.mp z with z | z
      · exact R.there a (Rho.mem_all.mpr (.inl z))
      · exact R.there a (Rho.mem_all.mpr (.inr (z ▸ hD)))
    · exact R.there a (Rho.mem_all.mpr (.inr (Rho.mem_let.mp z).1))
  cell := cells_push (H := H) R.len rfl (fun n a u h1 h2 => (R.cell n a u h1 h2).mono0 (Fr0.adopt hD) rfl) h
theorem Fr.adopt {ρ ρ' : Rho} {H H' : Hp} {D : Addr} (f : Fr ρ H ρ' H') (hD : H D = none) (hp : D ∉ ρ.prot) : Fr ρ H ((ρ'.let_ D).push D) H' where
  keep := f.keep
  newC := fun a h => (Rho.push_cells.mp h).elim (f.newC a) fun (e : a = D) => .inr (by rw [e]; exact hD)
  newP := (f.let_ hp).newP
  hold := (f.let_ hp).hold
  pre := fun n a h => Rho.push_get (f.pre n a h)
  there := f.there
  frzs := f.frzs
  just := f.just
end Dn
end
section
set_option Elab.async false
set_option linter.all false
set_option maxRecDepth 100000
set_option maxHeartbeats 4000000
namespace Dn
open PySem PySem.Spec PyProof.Rows L2

abbrev mdOf (X : Cx) : Md := ⟨X.prog, X.w, X.K, X.mg⟩

def OutG {α β : Type} (M : Md) (R : Rho → Hp → α → β → Prop) (ρ : Rho) (H : Hp) (r : Res α) (Q : β → Hp → Prop) (E : XK) : Prop := match r with
  | .ok a ah => ∀ ρ' b H', Fr ρ H ρ' H' → RelH M ρ' H' ah → R ρ' H' a b → Q b H'
  | .exc c ah => ∀ ρ' H', Fr ρ H ρ' H' → RelH M ρ' H' ah → E (excV M c) none H'
  | .stuck => False
theorem OutG.frame {α β : Type} {M : Md} {R : Rho → Hp → α → β → Prop} {ρ ρ1 : Rho} {H H1 : Hp} {r : Res α} {Q : β → Hp → Prop} {E : XK} (f : Fr ρ H ρ1 H1) (o : OutG M R ρ H r Q E) : OutG M R ρ1 H1 r Q E := by
  cases r with
  | ok a ah => exact fun ρ' b H' f' => o ρ' b H' (f.trans f')
  | exc c ah => exact fun ρ' H' f' => o ρ' H' (f.trans f')
  | stuck => exact o
theorem OutG.mono {α β : Type} {M : Md} {R : Rho → Hp → α → β → Prop} {ρ : Rho} {H : Hp} {r : Res α} {Q Q' : β → Hp → Prop} {E : XK} (o : OutG M R ρ H r Q E) (h : ∀ b H', Q b H' → Q' b H') : OutG M R ρ H r Q' E := by
  cases r with
  | ok a ah => exact fun ρ' b H' f rh rr => h _ _ (o ρ' b H' f rh rr)
  | exc c ah => exact o
  | stuck => exact o

def tE (M : Md) (Wx : WX) (f : Env → AH → Res W) : TE := fun σ H Q => ∃ ρ env ah, REnv M ρ H env σ ∧ RelH M ρ H ah ∧ OutG M (RW M) ρ H (f env ah) Q (WE Wx σ)
def tT (M : Md) (Wx : WX) (f : Env → AH → Res Bool) : TT := fun σ H Q => ∃ ρ env ah, REnv M ρ H env σ ∧ RelH M ρ H ah ∧ OutG M (fun _ _ a b => a = b) ρ H (f env ah) Q (WE Wx σ)
def tA (M : Md) (Wx : WX) (f : Env → AH → Res (List W)) : TA := fun σ H Q => ∃ ρ env ah, REnv M ρ H env σ ∧ RelH M ρ H ah ∧ OutG M (RWs M) ρ H (f env ah) Q (WE Wx σ)

section
variable {M : Md} {Wx : WX} {σ : L2.St} {H : Hp} {ρ : Rho} {env : Env} {ah : AH} {α β : Type} {R : Rho → Hp → α → β → Prop} {Q : β → Hp → Prop}
theorem tE_then {fa : Env → AH → Res W} {k : W → AH → Res α} (re : REnv M ρ H env σ) (rh : RelH M ρ H ah) (o : OutG M R ρ H ((fa env ah).bind k) Q (WE Wx σ)) :
    tE M Wx fa σ H fun v H1 => ∃ ρ1 ah1 w, Fr ρ H ρ1 H1 ∧ RelH M ρ1 H1 ah1 ∧ RW M ρ1 H1 w v ∧ OutG M R ρ1 H1 (k w ah1) Q (WE Wx σ) := by
  refine ⟨ρ, env, ah, re, rh, ?_⟩
  generalize fa env ah = r at o
  cases r with
  | ok w a => exact fun ρ1 v H1 f r1 rw1 => ⟨ρ1, a, w, f, r1, rw1, OutG.frame f o⟩
  | exc c a => exact o
  | stuck => exact o
theorem tT_then {fa : Env → AH → Res Bool} {k : Bool → AH → Res α} (re : REnv M ρ H env σ) (rh : RelH M ρ H ah) (o : OutG M R ρ H ((fa env ah).bind k) Q (WE Wx σ)) :
    tT M Wx fa σ H fun v H1 => ∃ ρ1 ah1, Fr ρ H ρ1 H1 ∧ RelH M ρ1 H1 ah1 ∧ OutG M R ρ1 H1 (k v ah1) Q (WE Wx σ) := by
  refine ⟨ρ, env, ah, re, rh, ?_⟩
  generalize fa env ah = r at o
  cases r with
  | ok w a =>
    intro ρ1 v H1 f r1 rw1
    have e : w = v := rw1
    subst e
    exact ⟨ρ1, a, f, r1, OutG.frame f o⟩
  | exc c a => exact o
  | stuck => exact o
theorem tA_then {fa : Env → AH → Res (List W)} {k : List W → AH → Res α} (re : REnv M ρ H env σ) (rh : RelH M ρ H ah) (o : OutG M R ρ H ((fa env ah).bind k) Q (WE Wx σ)) :
    tA M Wx fa σ H fun v H1 => ∃ ρ1 ah1 w, Fr ρ H ρ1 H1 ∧ RelH M ρ1 H1 ah1 ∧ RWs M ρ1 H1 w v ∧ OutG M R ρ1 H1 (k w ah1) Q (WE Wx σ) := by
  refine ⟨ρ, env, ah, re, rh, ?_⟩
  generalize fa env ah = r at o
  cases r with
  | ok w a => exact fun ρ1 v H1 f r1 rw1 => ⟨ρ1, a, w, f, r1, rw1, OutG.frame f o⟩
  | exc c a => exact o
  | stuck => exact o
theorem tE.mono {f : Env → AH → Res W} {Q Q' : VK} (h : tE M Wx f σ H Q) (hq : ∀ v H', Q v H' → Q' v H') : tE M Wx f σ H Q' :=
  let ⟨ρ, env, ah, re, rh, o⟩ := h; ⟨ρ, env, ah, re, rh, o.mono hq⟩
theorem tT.mono {f : Env → AH → Res Bool} {Q Q' : Bool → Hp → Prop} (h : tT M Wx f σ H Q) (hq : ∀ v H', Q v H' → Q' v H') : tT M Wx f σ H Q' :=
  let ⟨ρ, env, ah, re, rh, o⟩ := h; ⟨ρ, env, ah, re, rh, o.mono hq⟩
theorem tA.mono {f : Env → AH → Res (List W)} {Q Q' : List V → Hp → Prop} (h : tA M Wx f σ H Q) (hq : ∀ v H', Q v H' → Q' v H') : tA M Wx f σ H Q' :=
  let ⟨ρ, env, ah, re, rh, o⟩ := h; ⟨ρ, env, ah, re, rh, o.mono hq⟩
end
theorem PE_imp {X : Cx} {e : Expr} {t t' : TE} (h : PE X e t) (hi : ∀ σ H Q, t' σ H Q → t σ H Q) : PE X e t' := ⟨fun pins s σ H Q I q => h.run pins s σ H Q I (hi _ _ _ q)⟩
theorem PT_imp {X : Cx} {e : Expr} {t t' : TT} (h : PT X e t) (hi : ∀ σ H Q, t' σ H Q → t σ H Q) : PT X e t' := ⟨fun pins s σ H Q I q => h.run pins s σ H Q I (hi _ _ _ q)⟩
theorem PW_imp {X : Cx} {e : Expr} {t t' : TT} (h : PW X e t) (hi : ∀ σ H Q, t' σ H Q → t σ H Q) : PW X e t' := ⟨fun w pins s σ H Q I q => h.run w pins s σ H Q I (hi _ _ _ q)⟩
theorem PA_imp {X : Cx} {e : List Expr} {t t' : TA} (h : PA X e t) (hi : ∀ σ H Q, t' σ H Q → t σ H Q) : PA X e t' := ⟨fun p pins s σ H Q I q => h.run p pins s σ H Q I (hi _ _ _ q)⟩
theorem PS_imp {X : Cx} {e : Stmt} {t t' : TS} (h : PS X e t) (hi : ∀ D σ H, t' D σ H → t D σ H) : PS X e t' := ⟨fun pins s σ H D I q => h.run pins s σ H D I (hi _ _ _ q)⟩
theorem PSs_imp {X : Cx} {e : List Stmt} {t t' : TS} (h : PSs X e t) (hi : ∀ D σ H, t' D σ H → t D σ H) : PSs X e t' := ⟨fun pins s σ H D I q => h.run pins s σ H D I (hi _ _ _ q)⟩

/-! ### the combinators (expressions) -/
abbrev DE := Env → AH → Res W
abbrev DT := Env → AH → Res Bool
abbrev DA := Env → AH → Res (List W)
def ofO {α : Type} (o : Option α) (h : AH) : Res α := match o with
  | some a => .ok a h
  | none => .stuck
@[simp] theorem ofO_some {α : Type} (a : α) (h : AH) : ofO (some a) h = .ok a h := rfl
@[simp] theorem ofO_none {α : Type} (h : AH) : ofO (none : Option α) h = .stuck := rfl
def dVar (i : Nat) : DE := fun env h => match env[i]? with
  | some (some w) => .ok w h
  | _ => .stuck
def dC (w : W) : DE := fun _ h => .ok w h
def dBin (g : W → W → AH → Option W) (a b : DE) : DE := fun env h => (a env h).bind fun x h1 => (b env h1).bind fun y h2 => ofO (g x y h2) h2
def dUn (g : W → AH → Option W) (a : DE) : DE := fun env h => (a env h).bind fun x h1 => ofO (g x h1) h1
def dAnd (a b : DE) : DE := fun env h => (a env h).bind fun x h1 => match x with
  | .bl true => b env h1
  | .bl false => .ok (.bl false) h1
  | _ => .stuck
def dOr (a b : DE) : DE := fun env h => (a env h).bind fun x h1 => match x with
  | .bl true => .ok (.bl true) h1
  | .bl false => b env h1
  | _ => .stuck
def dNot (a : DE) : DE := fun env h => (a env h).bind fun x h1 => match x with
  | .bl b => .ok (.bl !b) h1
  | _ => .stuck
def dIf (c : DT) (a b : DE) : DE := fun env h => (c env h).bind fun k h1 => if k then a env h1 else b env h1
def dNil : DA := fun _ h => .ok [] h
def dCons (a : DE) (r : DA) : DA := fun env h => (a env h).bind fun x h1 => (r env h1).bind fun xs h2 => .ok (x :: xs) h2
def line : Nat := 16777216
theorem line_eq : line = sizeLine := by rw [sizeLine_eq]; rfl
def dTup (a : DA) : DE := fun env h => (a env h).bind fun xs h1 => if xs.length ≤ line then .ok (.tup xs) h1 else .stuck
/-- a new list: to stay (false), or to be changed (true) -/
def allocL (m : Bool) (xs : List W) (h : AH) : Res W := if m then .ok (.ref h.length) (h ++ [.lst xs]) else .ok (.lst xs) h
def dLst (m : Bool) (a : DA) : DE := fun env h => (a env h).bind fun xs h1 => if xs.length ≤ line then allocL m xs h1 else .stuck
/-- tests -/
def tVal (a : DE) : DT := fun env h => (a env h).bind fun x h1 => match x with
  | .bl b => .ok b h1
  | _ => .stuck
def tNot' (a : DT) : DT := fun env h => (a env h).bind fun b h1 => .ok (!b) h1
def tAnd' (a b : DT) : DT := fun env h => (a env h).bind fun k h1 => if k then b env h1 else .ok false h1
def tOr' (a b : DT) : DT := fun env h => (a env h).bind fun k h1 => if k then .ok true h1 else b env h1

/-! ### their soundness -/
section
variable {X : Cx} {Wx : WX} {e a b c : Expr} {es : List Expr} {pos p p' : Pos} {fa fb fc : DE}
theorem r_var {i : Nat} {x : Str} (hN : X.N[i]? = some x) (hv : Vis X.env.scope x) (hd : (x == ("__debug__" : Str)) = false) (hcd : (x == ("__classdict__" : Str)) = false) : PE X (.Name x p) (tE (mdOf X) Wx (dVar i)) := by
  refine PE_imp (pe_var hN hv hd hcd) fun σ H Q ⟨ρ, env, ah, re, rh, o⟩ => ?_
  unfold dVar at o
  split at o
  · rename_i w e
    obtain ⟨v, e1, r⟩ := re.at_ i w e
    exact ⟨v, e1, o ρ v H (Fr.refl _ _) rh r⟩
  · exact o.elim
theorem c_of {M : Md} {w : W} {v : V} {σ : L2.St} {H : Hp} {Q : VK} (h : tE M Wx (dC w) σ H Q) (r : ∀ ρ H, RW M ρ H w v) : Q v H := by
  obtain ⟨ρ, env, ah, re, rh, o⟩ := h
  exact o ρ v H (Fr.refl _ _) rh (r ρ H)
theorem r_int {i : Int} {j : Nat} : PE X (.Constant (.int i) j p) (tE (mdOf X) Wx (dC (.int i))) := PE_imp pe_int fun σ H Q h => c_of h fun _ _ => by rw [RW]
theorem r_bl {i : Bool} {j : Nat} : PE X (.Constant (.bool i) j p) (tE (mdOf X) Wx (dC (.bl i))) := PE_imp pe_bl fun σ H Q h => c_of h fun _ _ => by rw [RW]
theorem r_non {j : Nat} : PE X (.Constant .none j p) (tE (mdOf X) Wx (dC .non)) := PE_imp pe_non fun σ H Q h => c_of h fun _ _ => by rw [RW]
theorem r_str {x : Str} {j : Nat} : PE X (.Constant (.str x) j p) (tE (mdOf X) Wx (dC (.str x))) := PE_imp pe_str fun σ H Q h => c_of h fun _ _ => by rw [RW]
/-- a module's constant -/
theorem r_glob {x : Str} {w : W} {v : V} {u : Value} (hg : Gl X x) (hm : X.mg x = some u) (rv : RelV v u) (r : ∀ ρ H, RW (mdOf X) ρ H w v) (hd : (x == ("__debug__" : Str)) = false) : PE X (.Name x p) (tE (mdOf X) Wx (dC w)) :=
  PE_imp (pe_glob hg hm rv hd) fun σ H Q h => c_of h r

/-- an operator by values, sound -/
def OpOk (X : Cx) (f : Value → Value → Sem Value) (g : W → W → AH → Option W) : Prop :=
  ∀ (pins : List (Addr × Obj)) (s : Shared) (σ : L2.St) (H : Hp) (x y : V) (v u : Value) (Q : VK) (ρ : Rho) (w1 w2 r : W) (ah : AH), Inv X pins σ H s → RelV x v → RelV y u → RelH (mdOf X) ρ H ah → RW (mdOf X) ρ H w1 x → RW (mdOf X) ρ H w2 y → g w1 w2 ah = some r →
    (∀ z H', Fr ρ H ρ H' → RelH (mdOf X) ρ H' ah → RW (mdOf X) ρ H' r z → Q z H') → wpAny (model X.prog X.w) X.A (f v u) (EP X pins σ Q) X.xe s
def rOp (M : Md) (g : W → W → AH → Option W) : R2 := fun x y H Q => ∃ ρ w1 w2 r ah, RelH M ρ H ah ∧ RW M ρ H w1 x ∧ RW M ρ H w2 y ∧ g w1 w2 ah = some r ∧ ∀ z H', Fr ρ H ρ H' → RelH M ρ H' ah → RW M ρ H' r z → Q z H'
theorem OpOk.r {f : Value → Value → Sem Value} {g : W → W → AH → Option W} (h : OpOk X f g) : OpR X f (rOp (mdOf X) g) := by
  intro pins s σ H x y v u Q I rx ry ⟨ρ, w1, w2, r, ah, rh, r1, r2, e, q⟩
  exact h pins s σ H x y v u Q ρ w1 w2 r ah I rx ry rh r1 r2 e q
theorem bin_reading {M : Md} {g : W → W → AH → Option W} {σ : L2.St} {H : Hp} {Q : VK} (h : tE M Wx (dBin g fa fb) σ H Q) : tOp (rOp M g) (tE M Wx fa) (tE M Wx fb) σ H Q := by
  obtain ⟨ρ, env, ah, re, rh, o⟩ := h
  refine (tE_then re rh o).mono fun x H1 ⟨ρ1, ah1, w1, f1, rh1, rw1, o1⟩ => ?_
  refine (tE_then (re.mono f1) rh1 o1).mono fun y H2 ⟨ρ2, ah2, w2, f2, rh2, rw2, o2⟩ => ?_
  generalize hg : g w1 w2 ah2 = r at o2
  cases r with
  | none => exact o2.elim
  | some r => exact ⟨ρ2, w1, w2, r, ah2, rh2, RW.mono f2 _ _ rw1, rw2, hg, fun z H' f rr rz => o2 ρ2 z H' f rr rz⟩
theorem r_bin {op : Operator} {g : W → W → AH → Option W} (ho : OpOk X (binaryOp op) g) (ha : PE X a (tE (mdOf X) Wx fa)) (hb : PE X b (tE (mdOf X) Wx fb)) : PE X (.BinOp a op b p) (tE (mdOf X) Wx (dBin g fa fb)) :=
  PE_imp (pe_op ho.r ha hb) fun σ H Q h => bin_reading h
theorem r_cmp {op : CmpOp} {g : W → W → AH → Option W} (ho : OpOk X (compareOp op) g) (ha : PE X a (tE (mdOf X) Wx fa)) (hb : PE X b (tE (mdOf X) Wx fb)) (hm : behindInMarks op b = false) : PE X (.Compare a [op] [b] p) (tE (mdOf X) Wx (dBin g fa fb)) :=
  PE_imp (pe_cmpR ho.r ha hb hm) fun σ H Q h => bin_reading h
/-- a < b < c -/
def dChain (g g' : W → W → AH → Option W) (a b c : DE) : DE := fun env h => (a env h).bind fun x h1 => (b env h1).bind fun y h2 => match g x y h2 with
  | some (.bl true) => (c env h2).bind fun z h3 => ofO (g' y z h3) h3
  | some (.bl false) => .ok (.bl false) h2
  | _ => .stuck
theorem chain_reading {M : Md} {g g' : W → W → AH → Option W} {σ : L2.St} {H : Hp} {Q : VK} (h : tE M Wx (dChain g g' fa fb fc) σ H Q) : tChain (rOp M g) (rOp M g') (tE M Wx fa) (tE M Wx fb) (tE M Wx fc) σ H Q := by
  obtain ⟨ρ, env, ah, re, rh, o⟩ := h
  refine (tE_then re rh o).mono fun x H1 ⟨ρ1, ah1, w1, f1, rh1, rw1, o1⟩ => ?_
  refine (tE_then (re.mono f1) rh1 o1).mono fun y H2 ⟨ρ2, ah2, w2, f2, rh2, rw2, o2⟩ => ?_
  have re2 := (re.mono f1).mono f2
  generalize hg : g w1 w2 ah2 = r at o2
  rcases r with _ | r
  · exact o2.elim
  · refine ⟨ρ2, w1, w2, r, ah2, rh2, RW.mono f2 _ _ rw1, rw2, hg, fun z H3 f3 rh3 rz => ?_⟩
    cases r with
    | bl k =>
      rw [RW] at rz
      refine ⟨k, rz, ?_⟩
      cases k with
      | true =>
        show if true = true then _ else _
        rw [if_pos rfl]
        refine (tE_then (re2.mono f3) rh3 (OutG.frame f3 o2)).mono fun z' H4 ⟨ρ4, ah4, w4, f4, rh4, rw4, o4⟩ => ?_
        generalize hg' : g' w2 w4 ah4 = r' at o4
        cases r' with
        | none => exact o4.elim
        | some r' => exact ⟨ρ4, w2, w4, r', ah4, rh4, RW.mono f4 _ _ (RW.mono f3 _ _ rw2), rw4, hg', fun z H' f rr rz => o4 ρ4 z H' f rr rz⟩
      | false =>
        show if false = true then _ else _
        rw [if_neg Bool.false_ne_true]
        exact o2 ρ2 _ H3 f3 rh3 (by rw [RW])
    | _ => exact o2.elim
theorem r_chain {op op' : CmpOp} {g g' : W → W → AH → Option W} (ho : OpOk X (compareOp op) g) (ho' : OpOk X (compareOp op') g') (ha : PE X a (tE (mdOf X) Wx fa)) (hb : PE X b (tE (mdOf X) Wx fb)) (hc : PE X c (tE (mdOf X) Wx fc))
    (hm : lastMarks [op, op'] [b, c] = false) : PE X (.Compare a [op, op'] [b, c] p) (tE (mdOf X) Wx (dChain g g' fa fb fc)) :=
  PE_imp (pe_chain ho.r ho'.r ha hb hc hm) fun σ H Q h => chain_reading h
theorem r_tchain {op op' : CmpOp} {g g' : W → W → AH → Option W} (ho : OpOk X (compareOp op) g) (ho' : OpOk X (compareOp op') g') (ha : PE X a (tE (mdOf X) Wx fa)) (hb : PE X b (tE (mdOf X) Wx fb)) (hc : PE X c (tE (mdOf X) Wx fc))
    (hm : lastMarks [op, op'] [b, c] = false) : PT X (.Compare a [op, op'] [b, c] p) (tT (mdOf X) Wx (tVal (dChain g g' fa fb fc))) :=
  PT_imp (pt_chain ho.r ho'.r ha hb hc hm) fun σ H Q ⟨ρ, env, ah, re, rh, o⟩ => by
    refine chain_reading ((tE_then re rh o).mono fun x H1 ⟨ρ1, ah1, w1, f1, rh1, rw1, o1⟩ => ?_)
    cases w1 with
    | bl k =>
      rw [RW] at rw1
      exact ⟨k, rw1, o1 ρ1 _ H1 (Fr.refl _ _) rh1 rfl⟩
    | _ => exact o1.elim
theorem r_and1 {op : BoolOp} (ha : PE X a (tE (mdOf X) Wx fa)) : PE X (.BoolOp op [a] p) (tE (mdOf X) Wx fa) := pe_one ha
theorem r_and (ha : PE X a (tE (mdOf X) Wx fa)) (hb : PE X (.BoolOp .And (b :: es) p) (tE (mdOf X) Wx fb)) : PE X (.BoolOp .And (a :: b :: es) p) (tE (mdOf X) Wx (dAnd fa fb)) :=
  PE_imp (pe_and ha hb) fun σ H Q ⟨ρ, env, ah, re, rh, o⟩ => by
    refine (tE_then re rh o).mono fun x H1 ⟨ρ1, ah1, w1, f1, rh1, rw1, o1⟩ => ?_
    cases w1 with
    | bl k =>
      rw [RW] at rw1
      refine ⟨k, rw1, ?_⟩
      cases k with
      | true => exact iteT ⟨ρ1, env, ah1, re.mono f1, rh1, o1⟩
      | false => exact iteF (o1 ρ1 _ H1 (Fr.refl _ _) rh1 (by rw [RW]))
    | _ => exact o1.elim
theorem r_or (ha : PE X a (tE (mdOf X) Wx fa)) (hb : PE X (.BoolOp .Or (b :: es) p) (tE (mdOf X) Wx fb)) : PE X (.BoolOp .Or (a :: b :: es) p) (tE (mdOf X) Wx (dOr fa fb)) :=
  PE_imp (pe_or ha hb) fun σ H Q ⟨ρ, env, ah, re, rh, o⟩ => by
    refine (tE_then re rh o).mono fun x H1 ⟨ρ1, ah1, w1, f1, rh1, rw1, o1⟩ => ?_
    cases w1 with
    | bl k =>
      rw [RW] at rw1
      refine ⟨k, rw1, ?_⟩
      cases k with
      | true => exact iteT (o1 ρ1 _ H1 (Fr.refl _ _) rh1 (by rw [RW]))
      | false => exact iteF ⟨ρ1, env, ah1, re.mono f1, rh1, o1⟩
    | _ => exact o1.elim
theorem r_not (ha : PE X a (tE (mdOf X) Wx fa)) : PE X (.UnaryOp .Not a p) (tE (mdOf X) Wx (dNot fa)) :=
  PE_imp (pe_not ha) fun σ H Q ⟨ρ, env, ah, re, rh, o⟩ => by
    refine (tE_then re rh o).mono fun x H1 ⟨ρ1, ah1, w1, f1, rh1, rw1, o1⟩ => ?_
    cases w1 with
    | bl k =>
      rw [RW] at rw1
      exact ⟨k, rw1, o1 ρ1 _ H1 (Fr.refl _ _) rh1 (by rw [RW])⟩
    | _ => exact o1.elim
theorem r_if {fc : DT} (hc : PT X c (tT (mdOf X) Wx fc)) (ha : PE X a (tE (mdOf X) Wx fa)) (hb : PE X b (tE (mdOf X) Wx fb)) : PE X (.IfExp c a b p) (tE (mdOf X) Wx (dIf fc fa fb)) :=
  PE_imp (pe_ifExp hc ha hb) fun σ H Q ⟨ρ, env, ah, re, rh, o⟩ => by
    refine (tT_then re rh o).mono fun k H1 ⟨ρ1, ah1, f1, rh1, o1⟩ => ?_
    cases k with
    | true => exact iteT ⟨ρ1, env, ah1, re.mono f1, rh1, o1⟩
    | false => exact iteF ⟨ρ1, env, ah1, re.mono f1, rh1, o1⟩
/-! tests -/
theorem r_tval (ha : PE X a (tE (mdOf X) Wx fa)) (he : ∀ whole, isTrue a X.env whole = (do let v ← whole; standAt a.pos; holding [v] (truthy v))) : PT X a (tT (mdOf X) Wx (Dn.tVal fa)) :=
  PT_imp (pt_val ha he) fun σ H Q ⟨ρ, env, ah, re, rh, o⟩ => by
    refine (tE_then re rh o).mono fun x H1 ⟨ρ1, ah1, w1, f1, rh1, rw1, o1⟩ => ?_
    cases w1 with
    | bl k =>
      rw [RW] at rw1
      exact ⟨k, rw1, o1 ρ1 _ H1 (Fr.refl _ _) rh1 rfl⟩
    | _ => exact o1.elim
theorem r_tcmp {op : CmpOp} {g : W → W → AH → Option W} (ho : OpOk X (compareOp op) g) (ha : PE X a (tE (mdOf X) Wx fa)) (hb : PE X b (tE (mdOf X) Wx fb)) (hm : behindInMarks op b = false) : PT X (.Compare a [op] [b] p) (tT (mdOf X) Wx (Dn.tVal (dBin g fa fb))) :=
  PT_imp (pt_cmpR ho.r ha hb hm) fun σ H Q ⟨ρ, env, ah, re, rh, o⟩ => by
    refine bin_reading ((tE_then re rh o).mono fun x H1 ⟨ρ1, ah1, w1, f1, rh1, rw1, o1⟩ => ?_)
    cases w1 with
    | bl k =>
      rw [RW] at rw1
      exact ⟨k, rw1, o1 ρ1 _ H1 (Fr.refl _ _) rh1 rfl⟩
    | _ => exact o1.elim
theorem r_tnot {fa : DT} (ha : PT X a (tT (mdOf X) Wx fa)) : PT X (.UnaryOp .Not a p) (tT (mdOf X) Wx (Dn.tNot' fa)) :=
  PT_imp (pt_not ha) fun σ H Q ⟨ρ, env, ah, re, rh, o⟩ =>
    (tT_then re rh o).mono fun k H1 ⟨ρ1, ah1, f1, rh1, o1⟩ => o1 ρ1 _ H1 (Fr.refl _ _) rh1 rfl
theorem r_tand1 {fa : DT} (ha : PT X a (tT (mdOf X) Wx fa)) : PW X (.BoolOp .And [a] p) (tT (mdOf X) Wx fa) := pw_and1 ha
theorem r_tor1 {fa : DT} (ha : PT X a (tT (mdOf X) Wx fa)) : PW X (.BoolOp .Or [a] p) (tT (mdOf X) Wx fa) := pw_or1 ha
theorem r_tand {fa fb : DT} (ha : PT X a (tT (mdOf X) Wx fa)) (hb : PW X (.BoolOp .And (b :: es) p) (tT (mdOf X) Wx fb)) : PW X (.BoolOp .And (a :: b :: es) p) (tT (mdOf X) Wx (tAnd' fa fb)) :=
  PW_imp (pw_and ha hb) fun σ H Q ⟨ρ, env, ah, re, rh, o⟩ => by
    refine (tT_then re rh o).mono fun k H1 ⟨ρ1, ah1, f1, rh1, o1⟩ => ?_
    cases k with
    | true => exact iteT ⟨ρ1, env, ah1, re.mono f1, rh1, o1⟩
    | false => exact iteF (o1 ρ1 _ H1 (Fr.refl _ _) rh1 rfl)
theorem r_tor {fa fb : DT} (ha : PT X a (tT (mdOf X) Wx fa)) (hb : PW X (.BoolOp .Or (b :: es) p) (tT (mdOf X) Wx fb)) : PW X (.BoolOp .Or (a :: b :: es) p) (tT (mdOf X) Wx (tOr' fa fb)) :=
  PW_imp (pw_or ha hb) fun σ H Q ⟨ρ, env, ah, re, rh, o⟩ => by
    refine (tT_then re rh o).mono fun k H1 ⟨ρ1, ah1, f1, rh1, o1⟩ => ?_
    cases k with
    | true => exact iteT (o1 ρ1 _ H1 (Fr.refl _ _) rh1 rfl)
    | false => exact iteF ⟨ρ1, env, ah1, re.mono f1, rh1, o1⟩
/-! argument lists, displays -/
variable {fs : DA}
theorem r_nil : PA X [] (tA (mdOf X) Wx dNil) := PA_imp pa_nil fun σ H Q ⟨ρ, env, ah, re, rh, o⟩ => o ρ [] H (Fr.refl _ _) rh (by rw [RWs])
theorem r_cons (ha : PE X e (tE (mdOf X) Wx fa)) (hr : PA X es (tA (mdOf X) Wx fs)) (hs : starEach (e :: es) X.env = (false, eval e X.env) :: starEach es X.env) : PA X (e :: es) (tA (mdOf X) Wx (dCons fa fs)) :=
  PA_imp (pa_cons ha hr hs) fun σ H Q ⟨ρ, env, ah, re, rh, o⟩ =>
    (tE_then re rh o).mono fun x H1 ⟨ρ1, ah1, w1, f1, rh1, rw1, o1⟩ =>
      (tA_then (re.mono f1) rh1 o1).mono fun xs H2 ⟨ρ2, ah2, w2, f2, rh2, rw2, o2⟩ =>
        o2 ρ2 _ H2 (Fr.refl _ _) rh2 (.cons (RW.mono f2 _ _ rw1) rw2)
/-- what is wanted of a new tuple -/
def NewT (H : Hp) (vs : List V) (Q : VK) : Prop := ∀ p o, H p = none → o.dict = none → Q (.ref p) (upd H p (.frz o (.tup vs)))
theorem laidT {pins : List (Addr × Obj)} {σ : L2.St} {H : Hp} {s : Shared} {vs : List V} {its : List Value} {Q : VK} {t' : Nat} (I : Inv X pins σ H s) (rv : Vals vs its) (hz : vs.length ≤ sizeLine) (q : NewT H vs Q) :
    EP X pins σ Q (.ref s.heap.objs.size) { s with heap := s.heap.push { cls := .type "tuple", data := .seq its.toArray }, toks := t' } :=
  ⟨.ref s.heap.objs.size, _, I.laid (t' := t') (o := .frz { cls := .type "tuple", data := .seq its.toArray } (.tup vs)) (fun _ _ e => Heap.get?_push_of_some _ e) (Nat.le_refl _) ⟨Heap.get?_push_size _ rfl, hz, its, rv, IsTup.new _ _⟩, rfl, q _ _ (I.hok.fresh (Nat.le_refl _)) rfl⟩
theorem rw_newTup {M : Md} {ρ : Rho} {H : Hp} {ah : AH} {p : Addr} {o : Obj} {ws : List W} {vs : List V} (rh : RelH M ρ H ah) (hp : H p = none) (ho : o.dict = none) (r : RWs M ρ H ws vs) : RW M ρ (upd H p (.frz o (.tup vs))) (.tup ws) (.ref p) := by
  rw [RW]
  exact ⟨p, vs, rfl, ⟨⟨o, upd_same, ho⟩, rh.fresh hp⟩, RWs.mono (Fr.upd hp) _ _ r⟩
/-- a new tuple laid -/
theorem newT_out {M : Md} {ρ : Rho} {H : Hp} {ah : AH} {ws : List W} {vs : List V} {Q : VK} (rh : RelH M ρ H ah) (r : RWs M ρ H ws vs) (q : ∀ z H', Fr ρ H ρ H' → RelH M ρ H' ah → RW M ρ H' (.tup ws) z → Q z H') : NewT H vs Q :=
  fun _ _ hp ho => q _ _ (Fr.upd hp) (rh.upd hp) (rw_newTup rh hp ho r)
theorem rw_newLst {M : Md} {ρ : Rho} {H : Hp} {ah : AH} {p : Addr} {ws : List W} {vs : List V} (rh : RelH M ρ H ah) (hp : H p = none) (r : RWs M ρ H ws vs) : RW M ρ (upd H p (.lst vs)) (.lst ws) (.ref p) := by
  rw [RW]
  exact ⟨p, vs, rfl, ⟨upd_same, rh.fresh hp⟩, RWs.mono (Fr.upd hp) _ _ r⟩
/-- a new list laid -/
theorem alloc_out {M : Md} {ρ : Rho} {H : Hp} {ah : AH} {m : Bool} {ws : List W} {vs : List V} {Q : VK} {E : XK} (rh : RelH M ρ H ah) (r : RWs M ρ H ws vs) (o : OutG M (RW M) ρ H (allocL m ws ah) Q E) :
    ∀ p, H p = none → Q (.ref p) (upd H p (.lst vs)) := by
  intro p hp
  cases m with
  | false => exact o ρ _ _ (Fr.upd hp) (rh.upd hp) (rw_newLst rh hp r)
  | true =>
    have o' : ∀ ρ' b H', Fr ρ H ρ' H' → RelH M ρ' H' (ah ++ [.lst ws]) → RW M ρ' H' (.ref ah.length) b → Q b H' := o
    refine o' (ρ.push p) _ _ (Fr.push hp) (rh.push hp ⟨vs, upd_same, RWs.mono (Fr.push hp) _ _ r⟩) ?_
    rw [RW]
    exact ⟨p, rfl, by rw [← rh.len]; show (ρ.cells ++ [p])[ρ.cells.length]? = some p; simp⟩
theorem r_tup {j : Nat} (h : PA X es (tA (mdOf X) Wx fs)) : PE X (.Tuple es j p) (tE (mdOf X) Wx (dTup fs)) := by
  refine ⟨fun pins s σ H Q I ⟨ρ, env, ah, re, rh, o⟩ => ?_⟩
  refine wpAny_Tuple_spliced (thn (h.run p pins s σ H _ I (tA_then re rh o)) fun us s1 ⟨vs, H1, I1, rv, ρ1, ah1, w1, f1, rh1, rw1, o1⟩ => ?_)
  by_cases hl : w1.length ≤ line
  · rw [if_pos hl] at o1
    have hz : vs.length ≤ sizeLine := by rw [rw1.length, ← line_eq]; exact hl
    exact ⟨by rw [← rv.length]; exact hz, laidT I1 rv hz (newT_out rh1 rw1 fun z H' f r rz => o1 ρ1 z H' f r rz)⟩
  · rw [if_neg hl] at o1
    exact o1.elim
theorem r_lst {m : Bool} (h : PA X es (tA (mdOf X) Wx fs)) : PE X (.List es p) (tE (mdOf X) Wx (dLst m fs)) :=
  PE_imp (pe_lst h) fun σ H Q ⟨ρ, env, ah, re, rh, o⟩ => by
    refine (tA_then re rh o).mono fun xs H1 ⟨ρ1, ah1, w1, f1, rh1, rw1, o1⟩ => ?_
    by_cases hl : w1.length ≤ line
    · rw [if_pos hl] at o1
      exact ⟨by rw [rw1.length, ← line_eq]; exact hl, alloc_out rh1 rw1 o1⟩
    · rw [if_neg hl] at o1
      exact o1.elim
end
end Dn
end
section
set_option Elab.async false
set_option linter.all false
set_option maxRecDepth 100000
set_option maxHeartbeats 4000000
namespace Dn
open PySem PySem.Spec PyProof.Rows L2

/-! ### data -/
mutual
def toD : W → PyData
  | .non => .none
  | .bl b => .bool b
  | .int i => .int i
  | .str x => .str x
  | .tup xs => .tuple (toDs xs)
  | .lst xs => .list (toDs xs)
  | .dct _ _ | .ref _ | .glo _ | .scr _ | .erx _ | .err _ _ | .any => .none
def toDs : List W → List PyData
  | [] => []
  | x :: xs => toD x :: toDs xs
end
theorem toDs_map : ∀ xs : List W, toDs xs = xs.map toD
  | [] => rfl
  | x :: xs => by rw [toDs, toDs_map xs]; rfl
/-- plain data, of a depth below n -/
def sh : Nat → W → Bool
  | _, .non => true
  | _, .bl _ => true
  | _, .int _ => true
  | _, .str x => SeqAt.shaped (.str x)
  | n + 1, .tup xs => xs.all (sh n)
  | n + 1, .lst xs => xs.all (sh n)
  | _, _ => false
theorem sh_list {n : Nat} (ih : ∀ w, sh n w = true → (toD w).canLay0 = true ∧ (toD w).depth ≤ n) : ∀ xs : List W, xs.all (sh n) = true → PyData.canLayAll0 (toDs xs) = true ∧ PyData.depthAll (toDs xs) ≤ n
  | [], _ => ⟨rfl, by simp [toDs, PyData.depthAll]⟩
  | x :: xs, h => by
    rw [List.all_cons, Bool.and_eq_true] at h
    obtain ⟨h1, h2⟩ := ih x h.1
    obtain ⟨h3, h4⟩ := sh_list ih xs h.2
    rw [toDs]
    refine ⟨by rw [PyData.canLayAll0, h1, h3]; rfl, ?_⟩
    rw [PyData.depthAll]
    omega
theorem sh_ok : ∀ (n : Nat) (w : W), sh n w = true → (toD w).canLay0 = true ∧ (toD w).depth ≤ n
  | n, .non, _ => ⟨rfl, by simp [toD, PyData.depth]⟩
  | n, .bl _, _ => ⟨rfl, by simp [toD, PyData.depth]⟩
  | n, .int _, _ => ⟨rfl, by simp [toD, PyData.depth]⟩
  | n, .str x, h => ⟨SeqAt.canLay_of_shaped (d := .str x) (by simpa [sh] using h), by simp [toD, PyData.depth]⟩
  | n + 1, .tup xs, h => by
    obtain ⟨h1, h2⟩ := sh_list (sh_ok n) xs (by simpa [sh] using h)
    rw [toD]
    exact ⟨by rw [PyData.canLay0]; exact h1, by rw [PyData.depth]; omega⟩
  | n + 1, .lst xs, h => by
    obtain ⟨h1, h2⟩ := sh_list (sh_ok n) xs (by simpa [sh] using h)
    rw [toD]
    exact ⟨by rw [PyData.canLay0]; exact h1, by rw [PyData.depth]; omega⟩
  | 0, .tup _, h => by simp [sh] at h
  | 0, .lst _, h => by simp [sh] at h
  | 0, .dct _ _, h => by simp [sh] at h
  | n + 1, .dct _ _, h => by simp [sh] at h
  | 0, .ref _, h => by simp [sh] at h
  | n + 1, .ref _, h => by simp [sh] at h
  | 0, .glo _, h => by simp [sh] at h
  | n + 1, .glo _, h => by simp [sh] at h
  | 0, .scr _, h => by simp [sh] at h
  | n + 1, .scr _, h => by simp [sh] at h
  | 0, .erx _, h => by simp [sh] at h
  | n + 1, .erx _, h => by simp [sh] at h
  | 0, .err _ _, h => by simp [sh] at h
  | n + 1, .err _ _, h => by simp [sh] at h
  | 0, .any, h => by simp [sh] at h
  | n + 1, .any, h => by simp [sh] at h
theorem sh_shaped {n : Nat} {w : W} (h : sh n w = true) (hn : n ≤ 64) : SeqAt.shaped (toD w) = true := by
  obtain ⟨h1, h2⟩ := sh_ok n w h
  unfold SeqAt.shaped
  rw [h1, decide_eq_true (by omega : (toD w).depth ≤ 64)]
  rfl
theorem dp_list {M : Md} {ρ : Rho} {H : Hp} {n : Nat} (ih : ∀ w v, sh n w = true → RW M ρ H w v → Dp M.K H v (toD w)) : ∀ (ws : List W) (vs : List V), ws.all (sh n) = true → RWs M ρ H ws vs → DpAll M.K H vs (toDs ws)
  | [], vs, _, r => by rw [RWs] at r; subst r; rw [toDs]; exact .nil
  | w :: ws, vs, h, r => by
    rw [List.all_cons, Bool.and_eq_true] at h
    rw [RWs] at r
    obtain ⟨v, t, rfl, r1, r2⟩ := r
    rw [toDs]
    exact .cons (ih w v h.1 r1) (dp_list ih ws t h.2 r2)
theorem sh_dp {M : Md} {ρ : Rho} {H : Hp} : ∀ (n : Nat) (w : W) (v : V), sh n w = true → RW M ρ H w v → Dp M.K H v (toD w)
  | n, .non, v, _, r => by rw [RW] at r; subst r; exact .non
  | n, .bl b, v, _, r => by rw [RW] at r; subst r; exact .bl b
  | n, .int i, v, _, r => by rw [RW] at r; subst r; exact .int i
  | n, .str x, v, _, r => by rw [RW] at r; subst r; exact .str x
  | n + 1, .tup xs, v, h, r => by
    rw [RW] at r
    obtain ⟨a, vs, rfl, r1, r2⟩ := r
    rw [toD]
    exact .tup r1.sq (dp_list (sh_dp n) xs vs (by simpa [sh] using h) r2)
  | n + 1, .lst xs, v, h, r => by
    rw [RW] at r
    obtain ⟨a, vs, rfl, r1, r2⟩ := r
    rw [toD]
    exact .lst r1.sq (dp_list (sh_dp n) xs vs (by simpa [sh] using h) r2)
  | 0, .tup _, v, h, _ => by simp [sh] at h
  | 0, .lst _, v, h, _ => by simp [sh] at h
  | 0, .dct _ _, v, h, _ => by simp [sh] at h
  | n + 1, .dct _ _, v, h, _ => by simp [sh] at h
  | 0, .ref _, v, h, _ => by simp [sh] at h
  | n + 1, .ref _, v, h, _ => by simp [sh] at h
  | 0, .glo _, v, h, _ => by simp [sh] at h
  | n + 1, .glo _, v, h, _ => by simp [sh] at h
  | 0, .scr _, v, h, _ => by simp [sh] at h
  | n + 1, .scr _, v, h, _ => by simp [sh] at h
  | 0, .erx _, v, h, _ => by simp [sh] at h
  | n + 1, .erx _, v, h, _ => by simp [sh] at h
  | 0, .err _ _, v, h, _ => by simp [sh] at h
  | n + 1, .err _ _, v, h, _ => by simp [sh] at h
  | 0, .any, v, h, _ => by simp [sh] at h
  | n + 1, .any, v, h, _ => by simp [sh] at h
/-- a changeable list as it stands -/
def res (h : AH) : W → W
  | .ref n => match h[n]? with
    | some (.lst xs) => .lst xs
    | _ => .ref n
  | w => w
def lstOf (h : AH) (w : W) : Option (List W) := match res h w with
  | .lst xs => some xs
  | _ => none
theorem lstOf_at {M : Md} {ρ : Rho} {H : Hp} {ah : AH} {w : W} {v : V} {ws : List W} (R : RelH M ρ H ah) (r : RW M ρ H w v) (e : lstOf ah w = some ws) : ∃ a vs, v = .ref a ∧ SqL M.K H a vs ∧ RWs M ρ H ws vs := by
  unfold lstOf res at e
  cases w with
  | lst xs =>
    simp at e; subst e
    rw [RW] at r
    obtain ⟨a, vs, rfl, r1, r2⟩ := r
    exact ⟨a, vs, rfl, r1.sq, r2⟩
  | ref n =>
    rw [RW] at r
    obtain ⟨a, rfl, r1⟩ := r
    cases q : ah[n]? with
    | none => simp [q] at e
    | some o =>
      cases o with
      | lst xs =>
        simp [q] at e; subst e
        obtain ⟨vs, h1, h2⟩ := R.cell n a _ r1 q
        exact ⟨a, vs, rfl, SqL.of h1, h2⟩
      | _ => simp [q] at e
  | _ => simp at e
theorem res_dp {M : Md} {ρ : Rho} {H : Hp} {ah : AH} {w : W} {v : V} {n : Nat} (R : RelH M ρ H ah) (r : RW M ρ H w v) (s : sh n (res ah w) = true) : Dp M.K H v (toD (res ah w)) := by
  cases w with
  | ref m =>
    cases q : ah[m]? with
    | none => simp [res, q] at s; cases n <;> simp [sh] at s
    | some o =>
      cases o with
      | lst xs =>
        rw [RW] at r
        obtain ⟨a, rfl, r1⟩ := r
        obtain ⟨vs, h1, h2⟩ := R.cell m a _ r1 q
        have e : res ah (.ref m) = .lst xs := by simp [res, q]
        rw [e] at s ⊢
        cases n with
        | zero => simp [sh] at s
        | succ n =>
          rw [toD]
          exact .lst (SqL.of h1) (dp_list (sh_dp n) xs vs (by simpa [sh] using s) h2)
      | _ => simp [res, q] at s; cases n <;> simp [sh] at s
  | _ => exact sh_dp n _ v s r

/-! ### operators by values -/
def lenOk (xs : List W) : Bool := decide (xs.length ≤ line)
def addV : W → W → AH → Option W
  | .int i, .int j, _ => some (.int (i + j))
  | .str x, .str y, _ => if x.length + y.length ≤ line then some (.str (x ++ y)) else none
  | .tup xs, .tup ys, _ => if xs.length + ys.length ≤ line then some (.tup (xs ++ ys)) else none
  | _, _, _ => none
def subV : W → W → AH → Option W
  | .int i, .int j, _ => some (.int (i - j))
  | _, _, _ => none
def modV : W → W → AH → Option W
  | .int i, .int j, _ => if 0 < j then some (.int (i % j)) else none
  | _, _, _ => none
def fdivV : W → W → AH → Option W
  | .int i, .int j, _ => if 0 < j ∧ j.toNat < 1073741824 then some (.int (i / j)) else none
  | _, _, _ => none
def powV : W → W → AH → Option W
  | .int i, .int j, _ => if 0 ≤ j ∧ j.toNat ≤ 1000000 ∧ i.natAbs < 2 ^ 64 then some (.int (i ^ j.toNat)) else none
  | _, _, _ => none
def negV : W → AH → Option W
  | .int i, _ => some (.int (-i))
  | _, _ => none
def dl : Nat := 20
def eqV' (w1 w2 : W) (h : AH) : Option W := if sh dl (res h w1) = true ∧ sh dl (res h w2) = true then some (.bl (PyData.eqv (toD (res h w1)) (toD (res h w2)))) else none
def neV' (w1 w2 : W) (h : AH) : Option W := if sh dl (res h w1) = true ∧ sh dl (res h w2) = true then some (.bl (!PyData.eqv (toD (res h w1)) (toD (res h w2)))) else none
def isTup : W → Bool
  | .tup _ => true
  | _ => false
def ltV : W → W → AH → Option W
  | .int i, .int j, _ => some (.bl (decide (i < j)))
  | w1, w2, h => if sh dl (res h w1) = true ∧ sh dl (res h w2) = true ∧ PySem.W.alike (toD (res h w1)) (toD (res h w2)) = true ∧ isTup w1 = true then some (.bl (PySem.W.dataLt (toD (res h w1)) (toD (res h w2)))) else none
def leV : W → W → AH → Option W
  | .int i, .int j, _ => some (.bl (decide (i ≤ j)))
  | _, _, _ => none
def gtV : W → W → AH → Option W
  | .int i, .int j, _ => some (.bl (decide (j < i)))
  | _, _, _ => none
def geV : W → W → AH → Option W
  | .int i, .int j, _ => some (.bl (decide (j ≤ i)))
  | _, _, _ => none
def isNone : W → Bool
  | .non => true
  | _ => false
def isV (w1 w2 : W) (_ : AH) : Option W := match w2 with
  | .non => some (.bl (isNone w1))
  | _ => none
def isntV (w1 w2 : W) (_ : AH) : Option W := match w2 with
  | .non => some (.bl (!isNone w1))
  | _ => none

section
variable {X : Cx}
theorem ok_add : OpOk X (binaryOp .Add) addV := by
  intro pins s σ H x y v u Q ρ w1 w2 r ah I rx ry rh r1 r2 e q
  unfold addV at e
  split at e
  · cases e
    rw [RW] at r1 r2; subst r1 r2
    exact op_add pins s σ H _ _ v u Q I rx ry ⟨_, _, rfl, rfl, q _ _ (Fr.refl _ _) rh (by rw [RW])⟩
  · split at e
    · rename_i hl
      cases e
      rw [RW] at r1 r2; subst r1 r2
      exact op_add_str pins s σ H _ _ v u Q I rx ry ⟨_, _, rfl, rfl, by rw [← line_eq]; exact hl, q _ _ (Fr.refl _ _) rh (by rw [RW])⟩
    · cases e
  · split at e
    · rename_i xs ys hl
      cases e
      rw [RW] at r1 r2
      obtain ⟨a, vs, rfl, h1, h2⟩ := r1
      obtain ⟨b, us, rfl, h3, h4⟩ := r2
      cases rx
      cases ry
      obtain ⟨its, i1, p1, _⟩ := I.tuple h1.sq
      obtain ⟨its2, i2, p2, _⟩ := I.tuple h3.sq
      by_cases hx : vs = []
      · subst hx
        have e0 : xs = [] := List.length_eq_zero_iff.mp (by rw [← h2.length]; rfl)
        subst e0
        cases i1
        refine cat_tup0 p1 p2 ⟨.ref b, H, I, rfl, q _ _ (Fr.refl _ _) rh ?_⟩
        rw [List.nil_append, RW]
        exact ⟨b, us, rfl, h3, h4⟩
      · have hz : (vs ++ us).length ≤ sizeLine := by rw [List.length_append, h2.length, h4.length, ← line_eq]; exact hl
        refine HT.cat_tup p1 p2 (fun z => hx (i1.nil_iff.mp z)) (fun z => ⟨.ref a, H, I, rfl, q _ _ (Fr.refl _ _) rh ?_⟩) (fun _ => laidT I (i1.append i2) hz (newT_out rh (h2.append h4) q)) (by rw [← i1.length, ← i2.length, ← List.length_append]; exact hz)
        have z0 : us = [] := i2.nil_iff.mp z
        subst z0
        have e0 : ys = [] := List.length_eq_zero_iff.mp (by rw [← h4.length]; rfl)
        subst e0
        rw [List.append_nil, RW]
        exact ⟨a, vs, rfl, h1, h2⟩
    · cases e
  · cases e
theorem ok_sub : OpOk X (binaryOp .Sub) subV := by
  intro pins s σ H x y v u Q ρ w1 w2 r ah I rx ry rh r1 r2 e q
  unfold subV at e
  split at e
  · cases e
    rw [RW] at r1 r2; subst r1 r2
    exact op_sub pins s σ H _ _ v u Q I rx ry ⟨_, _, rfl, rfl, q _ _ (Fr.refl _ _) rh (by rw [RW])⟩
  · cases e
theorem ok_mod : OpOk X (binaryOp .Mod) modV := by
  intro pins s σ H x y v u Q ρ w1 w2 r ah I rx ry rh r1 r2 e q
  unfold modV at e
  split at e
  · split at e
    · rename_i hl
      cases e
      rw [RW] at r1 r2; subst r1 r2
      exact op_mod pins s σ H _ _ v u Q I rx ry ⟨_, _, rfl, rfl, hl, q _ _ (Fr.refl _ _) rh (by rw [RW])⟩
    · cases e
  · cases e
theorem ok_fdiv : OpOk X (binaryOp .FloorDiv) fdivV := by
  intro pins s σ H x y v u Q ρ w1 w2 r ah I rx ry rh r1 r2 e q
  unfold fdivV at e
  split at e
  · split at e
    · rename_i hl
      cases e
      rw [RW] at r1 r2; subst r1 r2
      exact op_fdiv pins s σ H _ _ v u Q I rx ry ⟨_, _, rfl, rfl, ⟨hl.1, by omega⟩, q _ _ (Fr.refl _ _) rh (by rw [RW])⟩
    · cases e
  · cases e
theorem ok_pow : OpOk X (binaryOp .Pow) powV := by
  intro pins s σ H x y v u Q ρ w1 w2 r ah I rx ry rh r1 r2 e q
  unfold powV at e
  split at e
  · split at e
    · rename_i hl
      cases e
      rw [RW] at r1 r2; subst r1 r2
      exact op_pow pins s σ H _ _ v u Q I rx ry ⟨_, _, rfl, rfl, ⟨hl.1, by omega, hl.2.2⟩, q _ _ (Fr.refl _ _) rh (by rw [RW])⟩
    · cases e
  · cases e
theorem ok_eq (hu : X.A.units + 64 < cLine) : OpOk X (compareOp .Eq) eqV' := by
  intro pins s σ H x y v u Q ρ w1 w2 r ah I rx ry rh r1 r2 e q
  unfold eqV' at e
  split at e
  · rename_i hs
    cases e
    exact op_eqD hu pins s σ H x y v u Q I rx ry ⟨_, _, res_dp rh r1 hs.1, res_dp rh r2 hs.2, sh_shaped hs.1 (by decide), sh_shaped hs.2 (by decide), q _ _ (Fr.refl _ _) rh (by rw [RW])⟩
  · cases e
theorem ok_ne (hu : X.A.units + 64 < cLine) : OpOk X (compareOp .NotEq) neV' := by
  intro pins s σ H x y v u Q ρ w1 w2 r ah I rx ry rh r1 r2 e q
  unfold neV' at e
  split at e
  · rename_i hs
    cases e
    exact op_neD hu pins s σ H x y v u Q I rx ry ⟨_, _, res_dp rh r1 hs.1, res_dp rh r2 hs.2, sh_shaped hs.1 (by decide), sh_shaped hs.2 (by decide), q _ _ (Fr.refl _ _) rh (by rw [RW])⟩
  · cases e
theorem ok_lt (hu : X.A.units + 64 < cLine) : OpOk X (compareOp .Lt) ltV := by
  intro pins s σ H x y v u Q ρ w1 w2 r ah I rx ry rh r1 r2 e q
  unfold ltV at e
  split at e
  · cases e
    rw [RW] at r1 r2; subst r1 r2
    exact op_lt pins s σ H _ _ v u Q I rx ry ⟨_, _, rfl, rfl, q _ _ (Fr.refl _ _) rh (by rw [RW])⟩
  · split at e
    · rename_i hs
      cases e
      obtain ⟨h1, h2, h3, h4⟩ := hs
      obtain ⟨as, ra⟩ := Dp.reads I _ x v (res_dp rh r1 h1) rx
      obtain ⟨bs, rb⟩ := Dp.reads I _ y u (res_dp rh r2 h2) ry
      have d1 := (sh_ok dl _ h1).2
      refine PySem.W.lt_data ra rb h3 ?_ (by have : dl = 20 := rfl; omega) ⟨.bl _, H, I, rfl, q _ _ (Fr.refl _ _) rh (by rw [RW])⟩
      cases w1 with
      | tup xs => simp [res, toD]
      | _ => simp [isTup] at h4
    · cases e
theorem ok_le : OpOk X (compareOp .LtE) leV := by
  intro pins s σ H x y v u Q ρ w1 w2 r ah I rx ry rh r1 r2 e q
  unfold leV at e
  split at e
  · cases e
    rw [RW] at r1 r2; subst r1 r2
    exact op_le pins s σ H _ _ v u Q I rx ry ⟨_, _, rfl, rfl, q _ _ (Fr.refl _ _) rh (by rw [RW])⟩
  · cases e
theorem ok_gt : OpOk X (compareOp .Gt) gtV := by
  intro pins s σ H x y v u Q ρ w1 w2 r ah I rx ry rh r1 r2 e q
  unfold gtV at e
  split at e
  · cases e
    rw [RW] at r1 r2; subst r1 r2
    exact op_gt pins s σ H _ _ v u Q I rx ry ⟨_, _, rfl, rfl, q _ _ (Fr.refl _ _) rh (by rw [RW])⟩
  · cases e
theorem ok_ge : OpOk X (compareOp .GtE) geV := by
  intro pins s σ H x y v u Q ρ w1 w2 r ah I rx ry rh r1 r2 e q
  unfold geV at e
  split at e
  · cases e
    rw [RW] at r1 r2; subst r1 r2
    exact op_ge pins s σ H _ _ v u Q I rx ry ⟨_, _, rfl, rfl, q _ _ (Fr.refl _ _) rh (by rw [RW])⟩
  · cases e
theorem isNone_rw {M : Md} {ρ : Rho} {H : Hp} {w : W} {v : V} (r : RW M ρ H w v) : decide (v = .non) = isNone w := by
  cases w with
  | non => rw [RW] at r; subst r; rfl
  | bl b => rw [RW] at r; subst r; rfl
  | int b => rw [RW] at r; subst r; rfl
  | str b => rw [RW] at r; subst r; rfl
  | tup xs => rw [RW] at r; obtain ⟨a, vs, rfl, _⟩ := r; rfl
  | lst xs => rw [RW] at r; obtain ⟨a, vs, rfl, _⟩ := r; rfl
  | dct ks xs => rw [RW] at r; obtain ⟨a, vs, rfl, _⟩ := r; rfl
  | ref n => rw [RW] at r; obtain ⟨a, rfl, _⟩ := r; rfl
  | glo n => rw [RW] at r; obtain ⟨a, rfl, _⟩ := r; rfl
  | scr xs => rw [RW] at r; obtain ⟨a, vs, rfl, _⟩ := r; rfl
  | erx n => rw [RW] at r; obtain ⟨a, oe, fl, rfl, _⟩ := r; rfl
  | err n xs => rw [RW] at r; obtain ⟨a, oe, fl, t, vs, rfl, _⟩ := r; rfl
  | any => rw [RW] at r; obtain ⟨a, rfl⟩ := r; rfl
theorem ok_is : OpOk X (compareOp .Is) isV := by
  intro pins s σ H x y v u Q ρ w1 w2 r ah I rx ry rh r1 r2 e q
  unfold isV at e
  split at e
  · cases e
    rw [RW] at r2; subst r2
    exact op_isN pins s σ H _ _ v u Q I rx ry ⟨rfl, q _ _ (Fr.refl _ _) rh (by rw [RW, isNone_rw r1])⟩
  · cases e
theorem ok_isnt : OpOk X (compareOp .IsNot) isntV := by
  intro pins s σ H x y v u Q ρ w1 w2 r ah I rx ry rh r1 r2 e q
  unfold isntV at e
  split at e
  · cases e
    rw [RW] at r2; subst r2
    exact op_notN pins s σ H _ _ v u Q I rx ry ⟨rfl, q _ _ (Fr.refl _ _) rh (by rw [RW, isNone_rw r1])⟩
  · cases e
end
end Dn
end
section
set_option Elab.async false
set_option linter.all false
set_option maxRecDepth 100000
set_option maxHeartbeats 4000000
namespace Dn
open PySem PySem.Spec PyProof.Rows L2
theorem tuple_mul_same (l : Addr) (items : Array Value) (n : Nat) (dd : Option Addr) (sl : Array (Option Value)) (x : Int) (u : Tok) (c0 : (decide (x < -(2 ^ 63)) || decide (x ≥ 2 ^ 63)) = false) (c1 : (items.isEmpty || x == 1) = true) :
    Meets (Builtin.«tuple.__mul__» ⟨[.ref l, .int x u], []⟩) (fun _ R s => s.heap.get? l = some { cls := .type "tuple", dict := dd, data := .seq items n, slots := sl } ∧ R (.ok (.ret (Value.ref l))) s) :=
  .of_wp fun prog w A R s h => by
    obtain ⟨hp, g, d, tk, os⟩ := s
    obtain ⟨hl, h⟩ := h
    have f1 := AutoSeq1.idx_int
    wp_walk using wpAny_loadPart' hl
    repeat (first
      | (refine wpAny_ite_false (decide_eq_false (by rw [c0]; exact Bool.false_ne_true)) ?_; wp_walk using wpAny_loadPart' hl)
      | (refine wpAny_ite_true (decide_eq_true (by rw [c1])) ?_; wp_walk using wpAny_loadPart' hl))
    exact ⟨_, rfl, h⟩
theorem tuple_mul_zero (l : Addr) (items : Array Value) (n : Nat) (dd : Option Addr) (sl : Array (Option Value)) (x : Int) (u : Tok) (c0 : (decide (x < -(2 ^ 63)) || decide (x ≥ 2 ^ 63)) = false) (c1 : (items.isEmpty || x == 1) = false) (c2 : (decide (x ≤ 0) || items.isEmpty) = true) :
    Meets (Builtin.«tuple.__mul__» ⟨[.ref l, .int x u], []⟩) (fun _ R s => s.heap.get? l = some { cls := .type "tuple", dict := dd, data := .seq items n, slots := sl } ∧
      R (.ok (.ret (Value.ref s.heap.objs.size))) { s with heap := s.heap.push { cls := Value.type "tuple", data := Data.seq #[] }, toks := s.toks }) :=
  .of_wp fun prog w A R s h => by
    obtain ⟨hp, g, d, tk, os⟩ := s
    obtain ⟨hl, h⟩ := h
    have f1 := AutoSeq1.idx_int
    wp_walk using wpAny_loadPart' hl
    repeat (first
      | (refine wpAny_ite_false (decide_eq_false (by rw [c0]; exact Bool.false_ne_true)) ?_; wp_walk using wpAny_loadPart' hl)
      | (refine wpAny_ite_false (decide_eq_false (by rw [c1]; exact Bool.false_ne_true)) ?_; wp_walk using wpAny_loadPart' hl)
      | (refine wpAny_ite_true (decide_eq_true (by rw [c2])) ?_; wp_walk using wpAny_loadPart' hl))
    exact ⟨_, rfl, h⟩
end Dn
namespace Dn
open PySem PySem.Spec PyProof.Rows L2 HT
/-- the items of a slice with a step -/
def pickS {α : Type} (xs : List α) (lo hi : Option Int) (st : Int) : List α :=
  (List.range (Builtin.Slice.slicePlaces (Builtin.Slice.sliceAdjust lo hi st xs.length).1 (Builtin.Slice.sliceAdjust lo hi st xs.length).2 st)).filterMap fun (m : Nat) => xs[((Builtin.Slice.sliceAdjust lo hi st xs.length).1 + (m : Int) * st).toNat]?
theorem sliceApplied_step {prog : Program} {w : World} {A : Around} {E : Value → Shared → Prop} {s : Shared} {sl : Addr} {vl vu vs : Value} {lo hi : Option Int} {st : Int} {n : Nat} {Q : Int × Int × Nat → Shared → Prop} (hs : s.heap.IsSliceOf sl vl vu vs) (pl : IsPart vl lo) (pu : IsPart vu hi) (ps : IsPart vs (some st)) (h0 : st ≠ 0)
    (h : Q ((Builtin.Slice.sliceAdjust lo hi st (n : Int)).1, st, Builtin.Slice.slicePlaces (Builtin.Slice.sliceAdjust lo hi st (n : Int)).1 (Builtin.Slice.sliceAdjust lo hi st (n : Int)).2 st) s) : wpAny (model prog w) A (Builtin.Slice.sliceApplied (.ref sl) (pure (n : Int))) Q E s := by
  obtain ⟨os, hos, hcs, hds⟩ := id hs
  unfold Builtin.Slice.sliceApplied Builtin.Slice.sliceFields
  refine wpAny_bind (wpAny_bind (wpAny_field hos hds (x := vl) rfl (wpAny_bind (wpAny_field hos hds (x := vu) rfl (wpAny_bind (wpAny_field hos hds (x := vs) rfl (wpAny_pure ?_)))))))
  refine wpAny_bind (slicePart_ ps ?_)
  show wpAny _ _ (if (st == 0) = true then _ else _) _ _ s
  rw [if_neg (by simpa using h0)]
  refine wpAny_bind (slicePart_ pl (wpAny_bind (slicePart_ pu (wpAny_bind (wpAny_pure ?_)))))
  exact wpAny_pure h
theorem pickS_length {α : Type} (xs : List α) (lo hi : Option Int) (st : Int) : (pickS xs lo hi st).length ≤ Builtin.Slice.slicePlaces (Builtin.Slice.sliceAdjust lo hi st xs.length).1 (Builtin.Slice.sliceAdjust lo hi st xs.length).2 st := by
  unfold pickS
  refine Nat.le_trans (List.length_filterMap_le _ _) ?_
  rw [List.length_range]
  exact Nat.le_refl _
theorem getItem_tuple_step {prog : Program} {w : World} {A : Around} {E : Value → Shared → Prop} {s : Shared} {t sl : Addr} {items : Array Value} {vl vu vs : Value} {lo hi : Option Int} {st : Int} {Q : Value → Shared → Prop} (ht : IsTup s.heap t items) (hs : s.heap.IsSliceOf sl vl vu vs) (pl : IsPart vl lo) (pu : IsPart vu hi) (ps : IsPart vs (some st)) (h0 : st ≠ 0) (h1 : st ≠ 1)
    (hz : (pickS items.toList lo hi st).length ≤ sizeLine)
    (h : Q (.ref s.heap.objs.size) { s with heap := s.heap.push { cls := .type "tuple", data := .seq (pickS items.toList lo hi st).toArray } }) : wpAny (model prog w) A (getItem (.ref t) (.ref sl)) Q E s := by
  obtain ⟨os, hos, hcs, hds⟩ := id hs
  have hTs : s.TypeIs (.ref sl) "slice" := ⟨os, hos, hcs⟩
  have htake : sizeOk (.seq (pickS items.toList lo hi st).toArray) := by
    show (pickS items.toList lo hi st).toArray.size ≤ sizeLine
    rw [List.size_toArray]
    exact hz
  unfold getItem
  try with_reducible refine wpAny_holding ?_
  first | refine wpAny_bind (wpAny_pure ?_) | skip
  refine wpAny_bind (wpAny_sequenceKey ht.typeIs (by decide) ?_)
  refine wpAny_bind (wpAny_callSpecial?_slot (name := Str.ofString "__getitem__") ht.typeIs PyProof.Rows.slot_tuple_getitem
    (wpAny_call_entry PyProof.Rows.slot_tuple_getitem ht.typeIs entry_tuple_getitem ?_ (args_tuple_getitem _ _)))
  show wpAny _ _ (Builtin.Tuple.tupleItemsOf (.ref t) >>= _) _ _ s
  refine wpAny_bind (tupleItemsOf_ ht ?_)
  refine wpAny_bind (wpAny_typeOf hTs ?_)
  rw [if_pos (by decide)]
  refine wpAny_bind (sliceApplied_step hs pl pu ps h0 ?_)
  have hpick : ((List.range (Builtin.Slice.slicePlaces (Builtin.Slice.sliceAdjust lo hi st (items.size : Int)).1 (Builtin.Slice.sliceAdjust lo hi st (items.size : Int)).2 st)).filterMap fun (m : Nat) => items[((Builtin.Slice.sliceAdjust lo hi st (items.size : Int)).1 + (m : Int) * st).toNat]?).toArray = (pickS items.toList lo hi st).toArray := by
    unfold pickS
    rw [Array.length_toList]
    simp
  show wpAny _ _ (if (((Builtin.Slice.sliceAdjust lo hi st (items.size : Int)).1 == 0 && st == 1 && (Builtin.Slice.slicePlaces (Builtin.Slice.sliceAdjust lo hi st (items.size : Int)).1 (Builtin.Slice.sliceAdjust lo hi st (items.size : Int)).2 st) == items.size) = true) then _ else _) _ _ s
  rw [if_neg (by simp [h1]), hpick]
  first
    | exact wpAny_bind (m := Builtin.Tuple.tupleExact _) (wpAny_newObj_type (wpAny_pure ⟨_, rfl, wpAny_pure h⟩) htake)
    | exact wpAny_bind (m := Builtin.Tuple.tupleExact _) (wpAny_newObj_type (wpAny_bind (wpAny_pure (wpAny_pure ⟨_, rfl, wpAny_pure h⟩))) htake)
    | exact wpAny_bind (wpAny_bind (m := Builtin.Tuple.tupleExact _) (wpAny_newObj_type (wpAny_pure (wpAny_pure ⟨_, rfl, wpAny_pure h⟩)) htake))
    | exact wpAny_bind (wpAny_bind (m := Builtin.Tuple.tupleExact _) (wpAny_newObj_type (wpAny_pure ⟨_, rfl, wpAny_pure h⟩) htake))
end Dn
end
section
set_option Elab.async false
set_option linter.all false
set_option maxRecDepth 100000
set_option maxHeartbeats 4000000
namespace Dn
open PySem PySem.Spec PyProof.Rows L2

theorem OpOk.orElse {X : Cx} {f : Value → Value → Sem Value} {g g' : W → W → AH → Option W} (h : OpOk X f g) (h' : OpOk X f g') : OpOk X f (fun x y a => (g x y a).or (g' x y a)) := by
  intro pins s σ H x y v u Q ρ w1 w2 r ah I rx ry rh r1 r2 e q
  cases hg : g w1 w2 ah with
  | some r' =>
    simp only [hg, Option.some_or, Option.some.injEq] at e
    subst e
    exact h pins s σ H x y v u Q ρ w1 w2 _ ah I rx ry rh r1 r2 hg q
  | none =>
    simp only [hg, Option.none_or] at e
    exact h' pins s σ H x y v u Q ρ w1 w2 r ah I rx ry rh r1 r2 e q

def mulV : W → W → AH → Option W
  | .int i, .int j, _ => if i.natAbs < 2 ^ 64 ∨ j.natAbs < 2 ^ 64 then some (.int (i * j)) else none
  | .str x, .int k, _ => if k = 0 then some (.str ⟨#[]⟩) else if k = 1 then some (.str x) else none
  | .tup xs, .int k, _ => if k.natAbs ≤ 1000 ∧ xs.length ≤ 1000 then some (.tup (List.replicate k.toNat xs).flatten) else none
  | .lst xs, .int k, _ => if k.natAbs ≤ 1000 ∧ xs.length ≤ 1000 then some (.lst (List.replicate k.toNat xs).flatten) else none
  | _, _, _ => none
theorem RWs.rep {M : Md} {ρ : Rho} {H : Hp} {ws : List W} {vs : List V} (h : RWs M ρ H ws vs) : ∀ k : Nat, RWs M ρ H (List.replicate k ws).flatten (List.replicate k vs).flatten
  | 0 => by simp [RWs]
  | k + 1 => by
    rw [List.replicate_succ, List.flatten_cons, List.replicate_succ, List.flatten_cons]
    exact h.append (h.rep k)
section
variable {X : Cx}
theorem tup_mul_road {prog : Program} {w : World} {A : Around} {E : Value → Shared → Prop} {s : Shared} {l : Addr} {k : Int} {t : Tok} {its : List Value} {n : Nat} {dd : Option Addr} {sl : Array (Option Value)} {Q : Value → Shared → Prop} (P : Heap → Value × Heap)
    (ho : s.heap.get? l = some { cls := .type "tuple", dict := dd, data := .seq its.toArray n, slots := sl })
    (m : Meets (Builtin.«tuple.__mul__» ⟨[.ref l, .int k t], []⟩) (fun _ R s' => s'.heap.get? l = some { cls := .type "tuple", dict := dd, data := .seq its.toArray n, slots := sl } ∧ R (.ok (.ret (P s'.heap).1)) { s' with heap := (P s'.heap).2, toks := s'.toks }))
    (q : Q (P s.heap).1 { s with heap := (P s.heap).2, toks := s.toks }) : wpAny (model prog w) A (binaryOp .Mult (.ref l) (.int k t)) Q E s := by
  refine wpAny_binaryOp_repeat_ref (T := "tuple") (U := "int") (by decide) ⟨_, ho, rfl⟩ (fun z => typeIs_int z k t) noFill_tuple_mul F.fills_int_mul F.slot_int_rmul
    repeat_tuple F.slot_int_index.lookup ?_
  refine call_meets F.slot_int_rmul (typeIs_int s k t) F.entry_int_rmul (F.args_int_rmul_2 _ _) (int_rmul_tuple k t l its.toArray n dd sl) ⟨ho, rfl, ⟨_, ho, rfl⟩, ?_⟩
  exact call_meets F.slot_tuple_mul ⟨_, ho, rfl⟩ F.entry_tuple_mul (F.args_tuple_mul_2 _ _) m ⟨ho, q⟩
theorem op_repT1 {pins : List (Addr × Obj)} {s : Shared} {σ : L2.St} {H : Hp} {l : Addr} {k : Int} {xs : List V} {v u : Value} {Q : VK} (I : Inv X pins σ H s) (rx : RelV (.ref l) v) (ry : RelV (.int k) u) (hT : SqT X.K H l xs) (h1 : -1000 ≤ k) (h2 : k ≤ 1000)
    (q1 : xs = [] ∨ k = 1 → Q (.ref l) H) (q2 : xs ≠ [] → k ≠ 1 → NewT H (List.replicate k.toNat xs).flatten Q) (hz : xs.length ≤ 1000) : wpAny (model X.prog X.w) X.A (binaryOp .Mult v u) (EP X pins σ Q) X.xe s := by
  cases rx
  obtain ⟨t, rfl⟩ := ry
  obtain ⟨its, r, ⟨⟨cls, dd, data, sl⟩, ho, hc, n, hd⟩, hs⟩ := I.tuple hT
  simp only at hc hd
  subst hc hd
  have hle : its.length = xs.length := r.length.symm
  have c0 : (decide (k < -(2 ^ 63)) || decide (k ≥ 2 ^ 63)) = false := by
    rw [decide_eq_false (by omega), decide_eq_false (by omega)] <;> rfl
  have same : (its.toArray.isEmpty || k == 1) = true → (xs = [] ∨ k = 1) → wpAny (model X.prog X.w) X.A (binaryOp .Mult (.ref l) (.int k t)) (EP X pins σ Q) X.xe s := fun c1 hq =>
    tup_mul_road (fun h => (.ref l, h)) ho (tuple_mul_same l its.toArray n dd sl k t c0 c1) ⟨.ref l, H, I, rfl, q1 hq⟩
  by_cases hx : xs = []
  · have e0 : its = [] := List.length_eq_zero_iff.mp (by rw [hle, hx]; rfl)
    exact same (by rw [e0]; rfl) (.inl hx)
  · have hn : its ≠ [] := fun e => hx (by
      rw [e] at hle
      exact List.eq_nil_of_length_eq_zero hle.symm)
    have hi : its.toArray.isEmpty = false := by
      cases its with
      | nil => exact absurd rfl hn
      | cons a b => rfl
    by_cases hk1 : k = 1
    · exact same (by rw [hk1, hi]; rfl) (.inr hk1)
    · have c1 : (its.toArray.isEmpty || k == 1) = false := by
        rw [hi, Bool.false_or]
        exact beq_eq_false_iff_ne.mpr hk1
      have flen : (List.replicate k.toNat its).flatten.length ≤ sizeLine := by
        rw [PyProof.Rows.lm_len_rep_flat, hle, sizeLine_eq]
        have : k.toNat * xs.length ≤ 1000 * 1000 := Nat.mul_le_mul (by omega) hz
        omega
      have hlen : (List.replicate k.toNat xs).flatten.length ≤ sizeLine := by
        rw [(r.rep k.toNat).length]; exact flen
      have fin := laidT (t' := s.toks) I (r.rep k.toNat) hlen (q2 hx hk1)
      by_cases hk0 : k ≤ 0
      · have c2 : (decide (k ≤ 0) || its.toArray.isEmpty) = true := by
          rw [decide_eq_true hk0]; rfl
        have e0 : k.toNat = 0 := by omega
        rw [e0] at fin
        exact tup_mul_road (fun h => (.ref h.objs.size, h.push { cls := .type "tuple", data := .seq #[] })) ho (tuple_mul_zero l its.toArray n dd sl k t c0 c1 c2) fin
      · have c2 : (decide (k ≤ 0) || its.toArray.isEmpty) = false := by
          rw [hi, Bool.or_false]
          exact decide_eq_false hk0
        have hsz0 : its.toArray.size = xs.length := by rw [List.size_toArray, hle]
        have hm : ((its.toArray.size : Nat) : Int) * k ≤ 1000000 := by
          rw [hsz0]
          have : ((xs.length : Nat) : Int) * k ≤ 1000 * k := Int.mul_le_mul_of_nonneg_right (by omega) (by omega)
          omega
        have c4 : Builtin.Tuple.tupleTooMany (((its.toArray.size : Nat) : Int) * k) = false := by
          unfold Builtin.Tuple.tupleTooMany
          rw [sizeLine_eq]
          exact decide_eq_false (by omega)
        have m := tuple_mulW l its.toArray n dd sl k t c0 c1 c2 (by omega) c4 (by rw [size_rep, List.size_toArray]; exact flen)
        rw [size_rep] at m
        exact tup_mul_road (fun h => (.ref h.objs.size, h.push { cls := .type "tuple", data := .seq (List.replicate k.toNat its).flatten.toArray })) ho m fin
theorem ok_mul : OpOk X (binaryOp .Mult) mulV := by
  intro pins s σ H x y v u Q ρ w1 w2 r ah I rx ry rh r1 r2 e q
  unfold mulV at e
  split at e
  · split at e
    · rename_i hl
      cases e
      rw [RW] at r1; rw [RW] at r2; subst r1 r2
      exact op_mul pins s σ H _ _ v u Q I rx ry ⟨_, _, rfl, rfl, hl.imp (fun z => ⟨by omega, by omega⟩) (fun z => ⟨by omega, by omega⟩), q _ _ (Fr.refl _ _) rh (by rw [RW])⟩
    · cases e
  · rename_i z k
    rw [RW] at r1; rw [RW] at r2; subst r1 r2
    obtain ⟨t, rfl⟩ := rx
    obtain ⟨t', rfl⟩ := ry
    split at e
    · rename_i hk
      cases e
      subst hk
      exact PySem.P.mul_str_none (by omega) (by omega) ⟨.str _, H, I.tok _, ⟨_, rfl⟩, q _ _ (Fr.refl _ _) rh (by rw [RW]; rfl)⟩
    · split at e
      · rename_i hk
        cases e
        subst hk
        refine PySem.P.mul_str (by decide) (fun _ h => by simp at h) (fun _ h => by simp at h) ?_
        rw [if_neg (by omega), if_pos (by simp)]
        exact ⟨.str _, H, I, ⟨_, rfl⟩, q _ _ (Fr.refl _ _) rh (by rw [RW])⟩
      · cases e
  · split at e
    · rename_i xs k hl
      cases e
      rw [RW] at r1; rw [RW] at r2; subst r2
      obtain ⟨a, vs, rfl, h1, h2⟩ := r1
      have hle := h2.length
      refine op_repT1 I rx ry h1.sq (by omega) (by omega) (fun hz => ?_) (fun _ _ => newT_out rh (h2.rep _) q) (by omega)
      refine q _ _ (Fr.refl _ _) rh ?_
      rw [RW]
      refine ⟨a, vs, rfl, h1, ?_⟩
      rcases hz with hz | hz
      · have e0 : xs = [] := List.length_eq_zero_iff.mp (by rw [← hle, hz]; rfl)
        rw [e0]
        have : (List.replicate k.toNat ([] : List W)).flatten = [] := by simp
        rw [this, hz]
        exact .nil
      · rw [hz]
        simpa using h2
    · cases e
  · split at e
    · rename_i xs k hl
      cases e
      rw [RW] at r1; rw [RW] at r2; subst r2
      obtain ⟨a, vs, rfl, h1, h2⟩ := r1
      have hle := h2.length
      refine op_rep pins s σ H _ _ v u Q I rx ry ⟨a, k, vs, rfl, rfl, h1.1, by omega, by omega, ?_, fun p hp => q _ _ (Fr.upd hp) (rh.upd hp) (rw_newLst rh hp (h2.rep _))⟩
      rw [sizeLine_eq]
      have a1 : vs.length * k.toNat ≤ 1000 * 1000 := Nat.mul_le_mul (by omega) (by omega)
      omega
    · cases e
  · cases e

/-! lists added -/
def catV (w1 w2 : W) (h : AH) : Option (List W) := match lstOf h w1, lstOf h w2 with
  | some xs, some ys => if xs.length + ys.length ≤ line then some (xs ++ ys) else none
  | _, _ => none
/-- an operator that lays a new list -/
def OpOkL (X : Cx) (f : Value → Value → Sem Value) (g : W → W → AH → Option (List W)) : Prop :=
  ∀ (pins : List (Addr × Obj)) (s : Shared) (σ : L2.St) (H : Hp) (x y : V) (v u : Value) (Q : VK) (ρ : Rho) (w1 w2 : W) (r : List W) (ah : AH), Inv X pins σ H s → RelV x v → RelV y u → RelH (mdOf X) ρ H ah → RW (mdOf X) ρ H w1 x → RW (mdOf X) ρ H w2 y → g w1 w2 ah = some r →
    (∀ vs p, H p = none → RWs (mdOf X) ρ H r vs → Q (.ref p) (upd H p (.lst vs))) → wpAny (model X.prog X.w) X.A (f v u) (EP X pins σ Q) X.xe s
theorem lstOf_tr {M : Md} {ρ : Rho} {H : Hp} {ah : AH} {w : W} {v : V} {ws : List W} (R : RelH M ρ H ah) (r : RW M ρ H w v) (e : lstOf ah w = some ws) : ∃ a vs, v = .ref a ∧ H a = some (.lst vs) ∧ RWs M ρ H ws vs := by
  unfold lstOf res at e
  cases w with
  | lst xs =>
    simp at e; subst e
    rw [RW] at r
    obtain ⟨a, vs, rfl, r1, r2⟩ := r
    exact ⟨a, vs, rfl, r1.1, r2⟩
  | ref n =>
    rw [RW] at r
    obtain ⟨a, rfl, r1⟩ := r
    cases q : ah[n]? with
    | none => simp [q] at e
    | some o =>
      cases o with
      | lst xs =>
        simp [q] at e; subst e
        obtain ⟨vs, h1, h2⟩ := R.cell n a _ r1 q
        exact ⟨a, vs, rfl, h1, h2⟩
      | _ => simp [q] at e
  | _ => simp at e
theorem ok_cat : OpOkL X (binaryOp .Add) catV := by
  intro pins s σ H x y v u Q ρ w1 w2 r ah I rx ry rh r1 r2 e q
  unfold catV at e
  split at e
  · rename_i xs ys e1 e2
    split at e
    · rename_i hl
      cases e
      obtain ⟨a, vs, rfl, h1, h2⟩ := lstOf_tr rh r1 e1
      obtain ⟨b, us, rfl, h3, h4⟩ := lstOf_tr rh r2 e2
      exact op_cat pins s σ H _ _ v u Q I rx ry ⟨a, b, vs, us, rfl, rfl, h1, h3, by rw [h2.length, h4.length, ← line_eq]; exact hl, fun p hp => q _ p hp (h2.append h4)⟩
    · cases e
  · cases e
/-- + of any kind: numbers, texts, tuples; or lists, the sum new -/
def dAdd (m : Bool) (a b : DE) : DE := fun env h => (a env h).bind fun x h1 => (b env h1).bind fun y h2 => match addV x y h2 with
  | some r => .ok r h2
  | none => match catV x y h2 with
    | some r => allocL m r h2
    | none => .stuck
theorem r_add {Wx : WX} {a b : Expr} {p : Pos} {fa fb : DE} {m : Bool} (ha : PE X a (tE (mdOf X) Wx fa)) (hb : PE X b (tE (mdOf X) Wx fb)) : PE X (.BinOp a .Add b p) (tE (mdOf X) Wx (dAdd m fa fb)) := by
  have ho : OpR X (binaryOp .Add) (fun x y H Q => ∃ ρ w1 w2 ah, RelH (mdOf X) ρ H ah ∧ RW (mdOf X) ρ H w1 x ∧ RW (mdOf X) ρ H w2 y ∧
      ((∃ r, addV w1 w2 ah = some r ∧ ∀ z H', Fr ρ H ρ H' → RelH (mdOf X) ρ H' ah → RW (mdOf X) ρ H' r z → Q z H') ∨ ∃ r, catV w1 w2 ah = some r ∧ ∀ vs p, H p = none → RWs (mdOf X) ρ H r vs → Q (.ref p) (upd H p (.lst vs)))) := by
    intro pins s σ H x y v u Q I rx ry ⟨ρ, w1, w2, ah, rh, r1, r2, h⟩
    rcases h with ⟨r, e, q⟩ | ⟨r, e, q⟩
    · exact ok_add pins s σ H x y v u Q ρ w1 w2 r ah I rx ry rh r1 r2 e q
    · exact ok_cat pins s σ H x y v u Q ρ w1 w2 r ah I rx ry rh r1 r2 e q
  refine PE_imp (pe_op ho ha hb) fun σ H Q ⟨ρ, env, ah, re, rh, o⟩ => ?_
  refine (tE_then re rh o).mono fun x H1 ⟨ρ1, ah1, w1, f1, rh1, rw1, o1⟩ => ?_
  refine (tE_then (re.mono f1) rh1 o1).mono fun y H2 ⟨ρ2, ah2, w2, f2, rh2, rw2, o2⟩ => ?_
  refine ⟨ρ2, w1, w2, ah2, rh2, RW.mono f2 _ _ rw1, rw2, ?_⟩
  generalize hg : addV w1 w2 ah2 = r at o2
  cases r with
  | some r => exact .inl ⟨r, rfl, fun z H' f rr rz => o2 ρ2 z H' f rr rz⟩
  | none =>
    generalize hc : catV w1 w2 ah2 = r' at o2
    cases r' with
    | some r' => exact .inr ⟨r', rfl, fun vs p hp rr => alloc_out rh2 rr o2 p hp⟩
    | none => exact o2.elim

/-! ### in, not in -/
def seqOf (h : AH) (w : W) : Option (List W) := match w with
  | .tup xs => some xs
  | w => lstOf h w
def anyEq (x : W) (xs : List W) : Bool := xs.any fun z => PyData.eqv (toD z) (toD x)
def inV (neg : Bool) (x y : W) (h : AH) : Option W := match x, y with
  | .str z, .str t => match z.cps.toList with
    | [c] => some (.bl (neg != decide (c ∈ t.cps.toList)))
    | _ => none
  | x, y => match seqOf h y with
    | some xs => if sh dl x = true ∧ xs.all (sh dl) = true then some (.bl (neg != anyEq x xs)) else none
    | none => none
theorem anyEq_map (x : W) (xs : List W) : anyEq x xs = (toDs xs).any fun z => PyData.eqv z (toD x) := by
  rw [toDs_map, List.any_map]; rfl
theorem seqOf_dp {M : Md} {ρ : Rho} {H : Hp} {ah : AH} {w : W} {v : V} {ws : List W} {n : Nat} (R : RelH M ρ H ah) (r : RW M ρ H w v) (e : seqOf ah w = some ws) (s : ws.all (sh n) = true) : Dp M.K H v (.list (toDs ws)) ∨ Dp M.K H v (.tuple (toDs ws)) := by
  unfold seqOf at e
  split at e
  · cases e
    rw [RW] at r
    obtain ⟨a, vs, rfl, r1, r2⟩ := r
    exact .inr (.tup r1.sq (dp_list (sh_dp n) _ vs s r2))
  · obtain ⟨a, vs, rfl, h1, h2⟩ := lstOf_at R r e
    exact .inl (.lst h1 (dp_list (sh_dp n) _ vs s h2))
theorem bneF (b : Bool) : (false != b) = b := by cases b <;> rfl
theorem bneT (b : Bool) : (true != b) = !b := by cases b <;> rfl
theorem str1 {z : Str} {c : Nat} (h : z.cps.toList = [c]) : z = ⟨#[c]⟩ := by
  obtain ⟨⟨l⟩⟩ := z
  simp at h
  rw [h]
theorem ok_in (hu : X.A.units + 65 < cLine) : OpOk X (compareOp .In) (inV false) := by
  intro pins s σ H x y v u Q ρ w1 w2 r ah I rx ry rh r1 r2 e q
  unfold inV at e
  split at e
  · rw [RW] at r1; rw [RW] at r2; subst r1 r2
    split at e
    · rename_i c hc
      cases e
      rw [str1 hc] at rx
      exact op_in_sign pins s σ H _ _ v u Q I rx ry ⟨c, _, rfl, rfl, q _ _ (Fr.refl _ _) rh (by rw [RW, bneF])⟩
    · cases e
  · split at e
    · rename_i hq
      split at e
      · rename_i hs
        cases e
        obtain ⟨as, ra⟩ := Dp.reads I _ x v (sh_dp dl _ _ hs.1 r1) rx
        have sd := sh_shaped hs.1 (by decide)
        have sx := (sh_list (sh_ok dl) _ hs.2).1
        have fin : EP X pins σ Q (.bool ((toDs _).any fun z => PyData.eqv z (toD w1))) s := ⟨.bl _, H, I, rfl, q _ _ (Fr.refl _ _) rh (by rw [RW, bneF, anyEq_map])⟩
        rcases seqOf_dp rh r2 hq hs.2 with hd | hd
        · obtain ⟨bs, rb⟩ := Dp.reads I _ y u hd ry
          exact SeqAt.in_list_reads rb ra sx (SeqAt.canLay_of_shaped sd) (PyProof.Rows.room_in_shaped sd hu) fin
        · obtain ⟨bs, rb⟩ := Dp.reads I _ y u hd ry
          exact SeqAt.in_tuple_reads rb ra sx (SeqAt.canLay_of_shaped sd) (PyProof.Rows.room_in_shaped sd hu) fin
      · cases e
    · cases e
theorem ok_notIn (hu : X.A.units + 65 < cLine) : OpOk X (compareOp .NotIn) (inV true) := by
  intro pins s σ H x y v u Q ρ w1 w2 r ah I rx ry rh r1 r2 e q
  unfold inV at e
  split at e
  · rw [RW] at r1; rw [RW] at r2; subst r1 r2
    split at e
    · rename_i c hc
      cases e
      rw [str1 hc] at rx
      exact op_notIn_sign pins s σ H _ _ v u Q I rx ry ⟨c, _, rfl, rfl, q _ _ (Fr.refl _ _) rh (by rw [RW, bneT])⟩
    · cases e
  · split at e
    · rename_i hq
      split at e
      · rename_i hs
        cases e
        obtain ⟨as, ra⟩ := Dp.reads I _ x v (sh_dp dl _ _ hs.1 r1) rx
        have sd := sh_shaped hs.1 (by decide)
        have sx := (sh_list (sh_ok dl) _ hs.2).1
        have fin : EP X pins σ Q (.bool (!(toDs _).any fun z => PyData.eqv z (toD w1))) s := ⟨.bl _, H, I, rfl, q _ _ (Fr.refl _ _) rh (by rw [RW, bneT, anyEq_map])⟩
        rcases seqOf_dp rh r2 hq hs.2 with hd | hd
        · obtain ⟨bs, rb⟩ := Dp.reads I _ y u hd ry
          exact SeqAt.notIn_list_reads rb ra sx (SeqAt.canLay_of_shaped sd) (PyProof.Rows.room_in_shaped sd hu) fin
        · obtain ⟨bs, rb⟩ := Dp.reads I _ y u hd ry
          exact SeqAt.notIn_tuple_reads rb ra sx (SeqAt.canLay_of_shaped sd) (PyProof.Rows.room_in_shaped sd hu) fin
      · cases e
    · cases e
end
end Dn
end
section
set_option Elab.async false
set_option linter.all false
set_option maxRecDepth 100000
set_option maxHeartbeats 4000000
namespace Dn
open PySem PySem.Spec PyProof.Rows L2

/-! ### items -/
def getI {α : Type} (xs : List α) (i : Int) : Option α := if 0 ≤ i then xs[i.toNat]? else if -(xs.length : Int) ≤ i then xs[(i + xs.length).toNat]? else none
theorem getI_atI {α : Type} {xs : List α} {i : Int} {v : α} (h : getI xs i = some v) : atI xs i = some v := by
  unfold getI at h
  unfold atI ixN
  by_cases h0 : 0 ≤ i
  · rw [if_pos h0] at h ⊢
    have hl := (List.getElem?_eq_some_iff.mp h).1
    rw [if_pos (by omega)]
    exact h
  · rw [if_neg h0] at h ⊢
    by_cases h1 : -(xs.length : Int) ≤ i
    · rw [if_pos h1] at h ⊢
      exact h
    · rw [if_neg h1] at h
      cases h
theorem RWs.getI {M : Md} {ρ : Rho} {H : Hp} {ws : List W} {vs : List V} {i : Int} {w : W} (r : RWs M ρ H ws vs) (h : Dn.getI ws i = some w) : ∃ v, atI vs i = some v ∧ RW M ρ H w v := by
  have hl := r.length
  unfold Dn.getI at h
  by_cases h0 : 0 ≤ i
  · rw [if_pos h0] at h
    obtain ⟨v, e, rv⟩ := r.get h
    refine ⟨v, getI_atI ?_, rv⟩
    unfold Dn.getI
    rw [if_pos h0]
    exact e
  · rw [if_neg h0] at h
    by_cases h1 : -(ws.length : Int) ≤ i
    · rw [if_pos h1] at h
      obtain ⟨v, e, rv⟩ := r.get h
      refine ⟨v, getI_atI ?_, rv⟩
      unfold Dn.getI
      rw [if_neg h0, hl, if_pos h1]
      exact e
    · rw [if_neg h1] at h
      cases h
/-- the items of what may be read by a place -/
def itemsOf (h : AH) (w : W) : Option (List W) := match w with
  | .tup xs => some xs
  | .scr xs => some xs
  | w => lstOf h w
theorem itemsOf_at {M : Md} {ρ : Rho} {H : Hp} {ah : AH} {w : W} {v : V} {ws : List W} (R : RelH M ρ H ah) (r : RW M ρ H w v) (e : itemsOf ah w = some ws) : ∃ a vs, v = .ref a ∧ (SqL M.K H a vs ∨ SqT M.K H a vs) ∧ RWs M ρ H ws vs := by
  unfold itemsOf at e
  split at e
  · cases e
    rw [RW] at r
    obtain ⟨a, vs, rfl, r1, r2⟩ := r
    exact ⟨a, vs, rfl, .inr r1.sq, r2⟩
  · cases e
    rw [RW] at r
    obtain ⟨a, vs, rfl, r1, r2⟩ := r
    exact ⟨a, vs, rfl, .inl r1.sq, r2⟩
  · obtain ⟨a, vs, rfl, h1, h2⟩ := lstOf_at R r e
    exact ⟨a, vs, rfl, .inl h1, h2⟩
def idxV (w i : W) (h : AH) : Option W := match itemsOf h w, i with
  | some xs, .int k => getI xs k
  | _, _ => none
/-- a subscript by values, sound -/
def IxOk (X : Cx) (g : W → W → AH → Option W) : Prop := IxR X (rOp (mdOf X) g)
theorem IxOk.r {X : Cx} {g : W → W → AH → Option W} (h : IxOk X g) : IxR X (rOp (mdOf X) g) := h
theorem IxOk.orElse {X : Cx} {g g' : W → W → AH → Option W} (h : IxOk X g) (h' : IxOk X g') : IxOk X (fun x y a => (g x y a).or (g' x y a)) := by
  intro ve se pins s σ H x y v u Q I rx ry ⟨ρ, w1, w2, r, ah, rh, r1, r2, e, q⟩ hs
  cases hg : g w1 w2 ah with
  | some r' =>
    simp only [hg, Option.some_or, Option.some.injEq] at e
    subst e
    exact h ve se pins s σ H x y v u Q I rx ry ⟨ρ, w1, w2, _, ah, rh, r1, r2, hg, q⟩ hs
  | none =>
    simp only [hg, Option.none_or] at e
    exact h' ve se pins s σ H x y v u Q I rx ry ⟨ρ, w1, w2, r, ah, rh, r1, r2, e, q⟩ hs
section
variable {X : Cx} {Wx : WX} {a b : Expr} {p p2 : Pos} {fa fb : DE}
theorem ok_idx : IxOk X idxV := by
  intro ve se pins s σ H x y v u Q I rx ry ⟨ρ, w1, w2, r, ah, rh, r1, r2, e, q⟩ hsub
  unfold idxV at e
  split at e
  · rename_i xs k hi
    rw [RW] at r2; subst r2
    obtain ⟨l, vs, rfl, hs, rr⟩ := itemsOf_at rh r1 hi
    obtain ⟨z, ez, rz⟩ := rr.getI e
    refine ix_seq ve se pins s σ H _ _ v u Q I rx ry ?_ hsub
    rcases hs with hs | hs
    · exact .inl ⟨l, vs, k, z, rfl, rfl, hs, ez, q _ _ (Fr.refl _ _) rh rz⟩
    · exact .inr (.inl ⟨l, vs, k, z, rfl, rfl, hs, ez, q _ _ (Fr.refl _ _) rh rz⟩)
  · cases e
theorem r_idx {g : W → W → AH → Option W} (hg : IxOk X g) (ha : PE X a (tE (mdOf X) Wx fa)) (hb : PE X b (tE (mdOf X) Wx fb)) (hs : PlainIx b) : PE X (.Subscript a b p) (tE (mdOf X) Wx (dBin g fa fb)) :=
  PE_imp (pe_ix hg.r ha hb hs) fun σ H Q h => bin_reading h

/-! ### slices -/
def cutW {α : Type} (xs : List α) (lo hi : Option Int) : List α := (xs.drop (HT.sIx xs.length 0 lo)).take (HT.sIx xs.length xs.length hi - HT.sIx xs.length 0 lo)
theorem RWs.cut {M : Md} {ρ : Rho} {H : Hp} {ws : List W} {vs : List V} (lo hi : Option Int) (r : RWs M ρ H ws vs) : RWs M ρ H (cutW ws lo hi) (cutV vs lo hi) := by
  unfold cutW cutV
  rw [r.length]
  exact (r.drop _).take _
/-- a part of a slice -/
abbrev DO := Env → AH → Res (Option Int)
def oNone : DO := fun _ h => .ok none h
def oSome (a : DE) : DO := fun env h => (a env h).bind fun x h1 => match x with
  | .int i => .ok (some i) h1
  | _ => .stuck
def tO (M : Md) (Wx : WX) (f : DO) : TO := fun σ H Q => ∃ ρ env ah, REnv M ρ H env σ ∧ RelH M ρ H ah ∧ OutG M (fun _ _ a b => a = b) ρ H (f env ah) Q (WE Wx σ)
theorem tO.mono {M : Md} {σ : L2.St} {H : Hp} {f : DO} {Q Q' : Option Int → Hp → Prop} (h : tO M Wx f σ H Q) (hq : ∀ v H', Q v H' → Q' v H') : tO M Wx f σ H Q' :=
  let ⟨ρ, env, ah, re, rh, o⟩ := h; ⟨ρ, env, ah, re, rh, o.mono hq⟩
theorem tO_then {M : Md} {σ : L2.St} {H : Hp} {ρ : Rho} {env : Env} {ah : AH} {α β : Type} {R : Rho → Hp → α → β → Prop} {Q : β → Hp → Prop} {fo : DO} {k : Option Int → AH → Res α} (re : REnv M ρ H env σ) (rh : RelH M ρ H ah) (o : OutG M R ρ H ((fo env ah).bind k) Q (WE Wx σ)) :
    tO M Wx fo σ H fun v H1 => ∃ ρ1 ah1, Fr ρ H ρ1 H1 ∧ RelH M ρ1 H1 ah1 ∧ OutG M R ρ1 H1 (k v ah1) Q (WE Wx σ) := by
  refine ⟨ρ, env, ah, re, rh, ?_⟩
  generalize fo env ah = r at o
  cases r with
  | ok w a =>
    intro ρ1 v H1 f r1 rw1
    have e : w = v := rw1
    subst e
    exact ⟨ρ1, a, f, r1, OutG.frame f o⟩
  | exc c a => exact o
  | stuck => exact o
theorem r_oNone : PO X none (tO (mdOf X) Wx oNone) := ⟨fun pins s σ H Q I ⟨ρ, env, ah, re, rh, o⟩ => po_none.run pins s σ H Q I (o ρ _ H (Fr.refl _ _) rh rfl)⟩
theorem r_oSome (ha : PE X a (tE (mdOf X) Wx fa)) : PO X (some a) (tO (mdOf X) Wx (oSome fa)) := ⟨fun pins s σ H Q I ⟨ρ, env, ah, re, rh, o⟩ => by
  refine (po_some ha).run pins s σ H Q I ((tE_then re rh o).mono fun x H1 ⟨ρ1, ah1, w1, f1, rh1, rw1, o1⟩ => ?_)
  cases w1 with
  | int i =>
    rw [RW] at rw1
    exact ⟨i, rw1, o1 ρ1 _ H1 (Fr.refl _ _) rh1 rfl⟩
  | _ => exact o1.elim⟩
def sliceV (m : Bool) (w : W) (lo hi : Option Int) (h : AH) : Res W := match w with
  | .tup xs => .ok (.tup (cutW xs lo hi)) h
  | .str z => if z.length ≤ line then .ok (.str (cutS z lo hi)) h else .stuck
  | w => match lstOf h w with
    | some xs => allocL m (cutW xs lo hi) h
    | none => .stuck
def dSl (m : Bool) (a : DE) (lo hi : DO) : DE := fun env h => (a env h).bind fun x h1 => (lo env h1).bind fun l h2 => (hi env h2).bind fun u h3 => sliceV m x l u h3
theorem cutV_whole (xs : List V) (lo hi : Option Int) (h : HT.sIx xs.length 0 lo = 0 ∧ HT.sIx xs.length xs.length hi = xs.length) : cutV xs lo hi = xs := by
  unfold cutV
  rw [h.1, h.2, List.drop_zero, Nat.sub_zero, List.take_length]
theorem sl_W : SlR X (fun x lo hi H Q => ∃ ρ w ah m E, RelH (mdOf X) ρ H ah ∧ RW (mdOf X) ρ H w x ∧ OutG (mdOf X) (RW (mdOf X)) ρ H (sliceV m w lo hi ah) Q E) := by
  intro pins s σ H x v vl vu lo hi sl Q I rx hs pl pu ⟨ρ, w, ah, m, E, rh, r, o⟩
  unfold sliceV at o
  split at o
  · rw [RW] at r
    obtain ⟨a, vs, rfl, r1, r2⟩ := r
    have q : ∀ z H', Fr ρ H ρ H' → RelH (mdOf X) ρ H' ah → RW (mdOf X) ρ H' (.tup (cutW _ lo hi)) z → Q z H' := fun z H' f rr rz => o ρ z H' f rr rz
    cases rx
    obtain ⟨its, rv, ht, hz⟩ := I.tuple r1.sq
    have hlen : its.toArray.size = vs.length := by rw [List.size_toArray]; exact rv.length.symm
    refine ⟨"tuple", _, PyProof.Rows.slot_tuple_getitem.lookup, ht.typeIs, ?_⟩
    by_cases hw : HT.sIx vs.length 0 lo = 0 ∧ HT.sIx vs.length vs.length hi = vs.length
    · refine getItem_tuple_whole ht hs pl pu (by rw [hlen]; exact hw) ⟨.ref a, H, I, rfl, q _ _ (Fr.refl _ _) rh ?_⟩
      have q2 := r2.cut lo hi
      rw [cutV_whole vs lo hi hw] at q2
      rw [RW]
      exact ⟨a, vs, rfl, r1, q2⟩
    · refine HT.getItem_tuple_cut ht hs pl pu (by rw [hlen]; exact hw) ?_ (by rw [hlen]; exact hz)
      rw [hlen]
      exact laidT (t' := s.toks) I ((rv.drop (HT.sIx vs.length 0 lo)).take _) (Nat.le_trans (cutV_length vs lo hi) hz) (newT_out rh (r2.cut lo hi) q)
  · rw [RW] at r; subst r
    split at o
    · rename_i hl
      exact sl_str pins s σ H _ v vl vu lo hi sl Q I rx hs pl pu ⟨_, rfl, by rw [← line_eq]; exact hl, o ρ _ H (Fr.refl _ _) rh (by rw [RW])⟩
    · exact o.elim
  · split at o
    · rename_i xs hq
      obtain ⟨a, vs, rfl, h1, h2⟩ := lstOf_at rh r hq
      exact sl_list pins s σ H _ v vl vu lo hi sl Q I rx hs pl pu ⟨a, vs, rfl, h1, alloc_out rh (h2.cut lo hi) o⟩
    · exact o.elim
theorem r_slice {m : Bool} {lo hi : Option Expr} {fl fh : DO} (ha : PE X a (tE (mdOf X) Wx fa)) (hl : PO X lo (tO (mdOf X) Wx fl)) (hh : PO X hi (tO (mdOf X) Wx fh)) : PE X (.Subscript a (.Slice lo hi none p2) p) (tE (mdOf X) Wx (dSl m fa fl fh)) :=
  PE_imp (pe_slice sl_W ha hl hh) fun σ H Q ⟨ρ, env, ah, re, rh, o⟩ =>
    (tE_then re rh o).mono fun x H1 ⟨ρ1, ah1, w1, f1, rh1, rw1, o1⟩ =>
      (tO_then (re.mono f1) rh1 o1).mono fun l H2 ⟨ρ2, ah2, f2, rh2, o2⟩ =>
        (tO_then ((re.mono f1).mono f2) rh2 o2).mono fun u H3 ⟨ρ3, ah3, f3, rh3, o3⟩ =>
          ⟨ρ3, w1, ah3, m, _, rh3, RW.mono f3 _ _ (RW.mono f2 _ _ rw1), o3⟩
/-! a step -/
theorem RWs.pickS {M : Md} {ρ : Rho} {H : Hp} {ws : List W} {vs : List V} (lo hi : Option Int) (st : Int) (r : RWs M ρ H ws vs) : RWs M ρ H (Dn.pickS ws lo hi st) (Dn.pickS vs lo hi st) := by
  unfold Dn.pickS
  rw [r.length]
  generalize List.range _ = ns
  induction ns with
  | nil => exact .nil
  | cons n ns ih =>
    rw [List.filterMap_cons, List.filterMap_cons]
    cases hq : ws[((Builtin.Slice.sliceAdjust lo hi st (ws.length : Int)).1 + (n : Int) * st).toNat]? with
    | none =>
      have : vs[((Builtin.Slice.sliceAdjust lo hi st (ws.length : Int)).1 + (n : Int) * st).toNat]? = none := by
        rw [List.getElem?_eq_none_iff] at hq ⊢
        rw [r.length]
        exact hq
      rw [this]
      exact ih
    | some w =>
      obtain ⟨v, e, rv⟩ := r.get hq
      rw [e]
      exact .cons rv ih
def stepV (m : Bool) (w : W) (lo hi : Option Int) (st : Int) (h : AH) : Res W := match w with
  | .tup xs => if st ≠ 0 ∧ st ≠ 1 ∧ (pickS xs lo hi st).length ≤ line then .ok (.tup (pickS xs lo hi st)) h else .stuck
  | w => match lstOf h w with
    | some xs => if lo = none ∧ hi = none ∧ st = -1 then allocL m xs.reverse h else .stuck
    | none => .stuck
theorem slicePick_rev (its : List Value) : slicePick its.toArray none none (some (-1)) = its.reverse.toArray := by
  unfold slicePick sliceBounds sliceRange
  simp only [List.size_toArray, Option.getD_some]
  have hc : (if (its.length : Int) - 1 > -1 then ((its.length : Int) - 1 - -1 - -1 - 1) / -(-1) else 0).toNat = its.length := by
    split
    · rw [show -(-1 : Int) = 1 from rfl, Int.ediv_one]; omega
    · omega
  rw [show ((if (-1 : Int) > 0 then (0 : Int) else (its.length : Int) - 1)) = (its.length : Int) - 1 from rfl, show ((if (-1 : Int) > 0 then (its.length : Int) else -1)) = -1 from rfl]
  rw [if_neg (show ¬ (-1 : Int) > 0 by decide), hc, List.filterMap_map]
  congr 1
  have : ∀ (l : List Nat) (f : Nat → Option Value) (g : Nat → Value), (∀ k ∈ l, f k = some (g k)) → l.filterMap f = l.map g := by
    intro l f g h
    induction l with
    | nil => rfl
    | cons x l ih => rw [List.filterMap_cons, h x (by simp), List.map_cons, ih fun k hk => h k (by simp [hk])]
  rw [this _ _ (fun k => its.reverse[k]?.getD .none)]
  · apply List.ext_getElem
    · simp
    · intro i h1 h2
      simp at h1 h2 ⊢
      simp [h1]
  · intro k hk
    have hk := List.mem_range.mp hk
    simp only [Function.comp]
    have e : ((its.length : Int) - 1 + -1 * (k : Int)).toNat = its.length - 1 - k := by omega
    rw [e]
    simp [hk, List.getElem?_eq_getElem, show its.length - 1 - k < its.length by omega]
def dStep (a : DE) (lo hi : DO) (st : DO) : DE := fun env h => (a env h).bind fun x h1 => (lo env h1).bind fun l h2 => (hi env h2).bind fun u h3 => (st env h3).bind fun o h4 => match o with
  | some k => stepV false x l u k h4
  | none => .stuck
theorem r_step {lo hi : Option Expr} {ste : Expr} {fl fh fs : DO} (ha : PE X a (tE (mdOf X) Wx fa)) (hl : PO X lo (tO (mdOf X) Wx fl)) (hh : PO X hi (tO (mdOf X) Wx fh)) (hst : PO X (some ste) (tO (mdOf X) Wx fs)) : PE X (.Subscript a (.Slice lo hi (some ste) p2) p) (tE (mdOf X) Wx (dStep fa fl fh fs)) := by
  refine ⟨fun pins s σ H Q I ⟨ρ, env, ah, re, rh, o⟩ => ?_⟩
  refine Subscript_ (thn (ha.run pins s σ H _ I (tE_then re rh o)) fun v s1 ⟨x, H1, I1, r1, ρ1, ah1, w1, f1, rh1, rw1, o1⟩ => ?_)
  refine wpAny_Slice (thn (hl.run pins s1 σ H1 _ I1 (tO_then (re.mono f1) rh1 o1)) fun vl s2 ⟨l, H2, I2, pl, ρ2, ah2, f2, rh2, o2⟩ => ?_)
  have re2 := (re.mono f1).mono f2
  refine thn (hh.run pins s2 σ H2 _ I2 (tO_then re2 rh2 o2)) fun vu s3 ⟨u, H3, I3, pu, ρ3, ah3, f3, rh3, o3⟩ => ?_
  refine thn (hst.run pins s3 σ H3 _ I3 (tO_then (re2.mono f3) rh3 o3)) fun vs s4 ⟨ok, H4, I4, ps, ρ4, ah4, f4, rh4, o4⟩ => ?_
  cases ok with
  | none => exact o4.elim
  | some st =>
    have o4 : OutG (mdOf X) (RW (mdOf X)) ρ4 H4 (stepV false w1 l u st ah4) Q (WE Wx σ) := o4
    have rw4 := RW.mono f4 _ _ (RW.mono f3 _ _ (RW.mono f2 _ _ rw1))
    have I5 : Inv X pins σ H4 { s4 with heap := s4.heap.push { cls := .type "slice", data := .fields #[vl, vu, vs] } } := I4.kept (t' := s4.toks) fun b ob q => Heap.get?_push_of_some _ q
    unfold stepV at o4
    split at o4
    · rename_i xs
      split at o4
      · rename_i hk
        rw [RW] at rw4
        obtain ⟨t, ys, rfl, h1, h2⟩ := rw4
        cases r1
        obtain ⟨its, r, ht, hz⟩ := I5.tuple h1.sq
        have hpk := h2.pickS l u st
        have rv : Vals (pickS ys l u st) (pickS its l u st) := by
          unfold pickS
          rw [r.length]
          generalize List.range _ = ns
          induction ns with
          | nil => exact .nil
          | cons n ns ih =>
            rw [List.filterMap_cons, List.filterMap_cons]
            cases hq : ys[((Builtin.Slice.sliceAdjust l u st (its.length : Int)).1 + (n : Int) * st).toNat]? with
            | none =>
              rw [r.none_of hq]
              exact ih
            | some w =>
              obtain ⟨v, e, rv⟩ := r.get hq
              rw [e]
              exact .cons rv ih
        show wpAny (model X.prog X.w) X.A (subscriptTail a (.Slice lo hi (some ste) p2) (.ref t) (.ref s4.heap.objs.size)) (EP X pins σ Q) X.xe { s4 with heap := s4.heap.push { cls := .type "slice", data := .fields #[vl, vu, vs] } }
        refine tail_any (ops := [.ref t, .ref s4.heap.objs.size]) ht.typeIs (PyProof.Rows.slot_tuple_getitem.lookup) ?_ (by with_unfolding_all rfl)
        have hlen : (pickS its l u st).length ≤ sizeLine := by rw [← rv.length, hpk.length, ← line_eq]; exact hk.2.2
        refine getItem_tuple_step ht (Heap.IsSliceOf.new _ vl vu vs) pl pu ps hk.1 hk.2.1 hlen ?_
        exact laidT (t' := s4.toks) I5 rv (by rw [rv.length]; exact hlen) (newT_out rh4 hpk fun z H' f rr rz => o4 ρ4 z H' f rr rz)
      · exact o4.elim
    · split at o4
      · rename_i xs hq
        split at o4
        · rename_i hk
          have o5 := o4
          obtain ⟨rfl, rfl, rfl⟩ := hk
          obtain ⟨la, ys, rfl, h1, h2⟩ := lstOf_at rh4 rw4 hq
          cases r1
          obtain ⟨its, r, ht, hz⟩ := I5.list h1
          have hlen := r.length
          show wpAny (model X.prog X.w) X.A (subscriptTail a (.Slice lo hi (some ste) p2) (.ref la) (.ref s4.heap.objs.size)) (EP X pins σ Q) X.xe { s4 with heap := s4.heap.push { cls := .type "slice", data := .fields #[vl, vu, vs] } }
          refine tail_any (ops := [.ref la, .ref s4.heap.objs.size]) ht.isList.typeIs (slot_list_getitem.lookup) ?_ (by with_unfolding_all rfl)
          refine wpAny_getItem_list_slice ht.isList (Heap.IsSliceOf.new _ vl vu vs) pl pu ps (by simp) ?_ (by rw [List.size_toArray] <;> omega)
          rw [slicePick_rev]
          refine ⟨.ref _, _, I5.laid (t' := s4.toks) (o := .lst ys.reverse) (fun b ob q => Heap.get?_push_of_some _ q) (Nat.le_refl _) ?_, rfl, alloc_out rh4 h2.reverse o5 _ (I5.hok.fresh (Nat.le_refl _))⟩
          exact ⟨by rw [List.length_reverse]; exact hz, _, 0, r.reverse, Heap.get?_push_size _ rfl⟩
        · exact o4.elim
      · exact o4.elim
/-- xs[::-1], a list -/
def dRevL (m : Bool) (a : DE) : DE := fun env h => (a env h).bind fun x h1 => match x with
  | .tup xs => if xs.length ≤ line then .ok (.tup xs.reverse) h1 else .stuck
  | x => match lstOf h1 x with
    | some xs => allocL m xs.reverse h1
    | none => .stuck
end
end Dn
end
section
set_option Elab.async false
set_option linter.all false
set_option maxRecDepth 100000
set_option maxHeartbeats 4000000
namespace Dn
open PySem PySem.Spec PyProof.Rows L2

/-! ### calls of what is built in, by values -/
def CallOk (X : Cx) (f : Value) (g : List W → AH → Option W) : Prop :=
  ∀ (pins : List (Addr × Obj)) (s : Shared) (σ : L2.St) (H : Hp) (vs : List V) (us : List Value) (Q : VK) (ρ : Rho) (ws : List W) (r : W) (ah : AH), Inv X pins σ H s → Vals vs us → RelH (mdOf X) ρ H ah → RWs (mdOf X) ρ H ws vs → g ws ah = some r →
    (∀ z H', Fr ρ H ρ H' → RelH (mdOf X) ρ H' ah → RW (mdOf X) ρ H' r z → Q z H') → wpAny (model X.prog X.w) X.A (call f us) (EP X pins σ Q) X.xe s
def rCall (M : Md) (g : List W → AH → Option W) : List V → Hp → VK → Prop := fun xs H Q => ∃ ρ ws r ah, RelH M ρ H ah ∧ RWs M ρ H ws xs ∧ g ws ah = some r ∧ ∀ z H', Fr ρ H ρ H' → RelH M ρ H' ah → RW M ρ H' r z → Q z H'
theorem CallOk.r {X : Cx} {f : Value} {g : List W → AH → Option W} (h : CallOk X f g) : CallR X f (rCall (mdOf X) g) := by
  intro pins s σ H xs us Q I rx ⟨ρ, ws, r, ah, rh, r1, e, q⟩
  exact h pins s σ H xs us Q ρ ws r ah I rx rh r1 e q
theorem CallOk.orElse {X : Cx} {f : Value} {g g' : List W → AH → Option W} (h : CallOk X f g) (h' : CallOk X f g') : CallOk X f (fun x a => (g x a).or (g' x a)) := by
  intro pins s σ H vs us Q ρ ws r ah I rx rh r1 e q
  cases hg : g ws ah with
  | some r' =>
    simp only [hg, Option.some_or, Option.some.injEq] at e
    subst e
    exact h pins s σ H vs us Q ρ ws _ ah I rx rh r1 hg q
  | none =>
    simp only [hg, Option.none_or] at e
    exact h' pins s σ H vs us Q ρ ws r ah I rx rh r1 e q
/-- .. that lay a new list -/
def CallOkL (X : Cx) (f : Value) (g : List W → AH → Option (List W)) : Prop :=
  ∀ (pins : List (Addr × Obj)) (s : Shared) (σ : L2.St) (H : Hp) (vs : List V) (us : List Value) (Q : VK) (ρ : Rho) (ws : List W) (r : List W) (ah : AH), Inv X pins σ H s → Vals vs us → RelH (mdOf X) ρ H ah → RWs (mdOf X) ρ H ws vs → g ws ah = some r →
    (∀ zs p, H p = none → RWs (mdOf X) ρ H r zs → Q (.ref p) (upd H p (.lst zs))) → wpAny (model X.prog X.w) X.A (call f us) (EP X pins σ Q) X.xe s
def rCallL (M : Md) (g : List W → AH → Option (List W)) : List V → Hp → VK → Prop := fun xs H Q => ∃ ρ ws r ah, RelH M ρ H ah ∧ RWs M ρ H ws xs ∧ g ws ah = some r ∧ ∀ zs p, H p = none → RWs M ρ H r zs → Q (.ref p) (upd H p (.lst zs))
theorem CallOkL.r {X : Cx} {f : Value} {g : List W → AH → Option (List W)} (h : CallOkL X f g) : CallR X f (rCallL (mdOf X) g) := by
  intro pins s σ H xs us Q I rx ⟨ρ, ws, r, ah, rh, r1, e, q⟩
  exact h pins s σ H xs us Q ρ ws r ah I rx rh r1 e q
theorem CallOkL.orElse {X : Cx} {f : Value} {g g' : List W → AH → Option (List W)} (h : CallOkL X f g) (h' : CallOkL X f g') : CallOkL X f (fun x a => (g x a).or (g' x a)) := by
  intro pins s σ H vs us Q ρ ws r ah I rx rh r1 e q
  cases hg : g ws ah with
  | some r' =>
    simp only [hg, Option.some_or, Option.some.injEq] at e
    subst e
    exact h pins s σ H vs us Q ρ ws _ ah I rx rh r1 hg q
  | none =>
    simp only [hg, Option.none_or] at e
    exact h' pins s σ H vs us Q ρ ws r ah I rx rh r1 e q
def dCall (g : List W → AH → Option W) (a : DA) : DE := fun env h => (a env h).bind fun ws h1 => ofO (g ws h1) h1
def dCallL (m : Bool) (g : List W → AH → Option (List W)) (a : DA) : DE := fun env h => (a env h).bind fun ws h1 => match g ws h1 with
  | some r => allocL m r h1
  | none => .stuck
section
variable {X : Cx} {Wx : WX} {x : Str} {p pos : Pos} {e : Expr} {es : List Expr} {fs : DA} {id T : String}
theorem call_reading {M : Md} {g : List W → AH → Option W} {σ : L2.St} {H : Hp} {Q : VK} (h : tE M Wx (dCall g fs) σ H Q) : tCB (rCall M g) (tA M Wx fs) σ H Q := by
  obtain ⟨ρ, env, ah, re, rh, o⟩ := h
  refine (tA_then re rh o).mono fun x H1 ⟨ρ1, ah1, w1, f1, rh1, rw1, o1⟩ => ?_
  generalize hg : g w1 ah1 = r at o1
  cases r with
  | none => exact o1.elim
  | some r => exact ⟨ρ1, w1, r, ah1, rh1, rw1, hg, fun z H' f rr rz => o1 ρ1 z H' f rr rz⟩
theorem callL_reading {M : Md} {m : Bool} {g : List W → AH → Option (List W)} {σ : L2.St} {H : Hp} {Q : VK} (h : tE M Wx (dCallL m g fs) σ H Q) : tCB (rCallL M g) (tA M Wx fs) σ H Q := by
  obtain ⟨ρ, env, ah, re, rh, o⟩ := h
  refine (tA_then re rh o).mono fun x H1 ⟨ρ1, ah1, w1, f1, rh1, rw1, o1⟩ => ?_
  generalize hg : g w1 ah1 = r at o1
  cases r with
  | none => exact o1.elim
  | some r => exact ⟨ρ1, w1, r, ah1, rh1, rw1, hg, fun zs p hp rr => alloc_out rh1 rr o1 p hp⟩
/-- no star among the arguments -/
def noStar : List Expr → Bool
  | [] => true
  | .Starred _ _ :: _ => false
  | _ :: r => noStar r
theorem noStar_cons {e : Expr} {es : List Expr} (h : noStar (e :: es) = true) (env : PySem.Env) : starEach (e :: es) env = (false, eval e env) :: starEach es env ∧ noStar es = true := by
  cases e <;> first | exact ⟨rfl, h⟩ | (simp [noStar] at h)
theorem noStar_any : ∀ {es : List Expr} (h : noStar es = true) (env : PySem.Env) (pos : Pos), (backTo pos (starEach es env)).any (·.1) = false
  | [], _, _, _ => rfl
  | e :: es, h, env, pos => by
    obtain ⟨h1, h2⟩ := noStar_cons h env
    rw [h1]
    have := noStar_any h2 env pos
    unfold backTo at this ⊢
    rw [List.map_cons, List.any_cons, this]
    rfl
theorem r_callB {g : List W → AH → Option W} (hc : CallOk X (.builtin id) g) (hg : Gl X x) (hm : X.mg x = none) (hv : bootBuiltins x = some (.builtin id)) (ha : PA X (e :: es) (tA (mdOf X) Wx fs)) (hn : x ≠ "__name__") (hdb : (x == ("__debug__" : Str)) = false) (hs : noStar (e :: es) = true) :
    PE X (.Call (.Name x p) (e :: es) [] pos) (tE (mdOf X) Wx (dCall g fs)) :=
  PE_imp (pe_callB hc.r hg hm hv ha hn hdb (noStar_cons hs _).1 (noStar_any (noStar_cons hs X.env).2 _ _)) fun σ H Q h => call_reading h
theorem r_callTy {g : List W → AH → Option W} (hc : CallOk X (.type T) g) (hg : Gl X x) (hm : X.mg x = none) (hv : bootBuiltins x = some (.type T)) (ha : PA X (e :: es) (tA (mdOf X) Wx fs)) (hn : x ≠ "__name__") (hdb : (x == ("__debug__" : Str)) = false) (hs : noStar (e :: es) = true) :
    PE X (.Call (.Name x p) (e :: es) [] pos) (tE (mdOf X) Wx (dCall g fs)) :=
  PE_imp (pe_callTy hc.r hg hm hv ha hn hdb (noStar_cons hs _).1 (noStar_any (noStar_cons hs X.env).2 _ _)) fun σ H Q h => call_reading h
theorem r_callBL {m : Bool} {g : List W → AH → Option (List W)} (hc : CallOkL X (.builtin id) g) (hg : Gl X x) (hm : X.mg x = none) (hv : bootBuiltins x = some (.builtin id)) (ha : PA X (e :: es) (tA (mdOf X) Wx fs)) (hn : x ≠ "__name__") (hdb : (x == ("__debug__" : Str)) = false) (hs : noStar (e :: es) = true) :
    PE X (.Call (.Name x p) (e :: es) [] pos) (tE (mdOf X) Wx (dCallL m g fs)) :=
  PE_imp (pe_callB hc.r hg hm hv ha hn hdb (noStar_cons hs _).1 (noStar_any (noStar_cons hs X.env).2 _ _)) fun σ H Q h => callL_reading h
theorem r_callTyL {m : Bool} {g : List W → AH → Option (List W)} (hc : CallOkL X (.type T) g) (hg : Gl X x) (hm : X.mg x = none) (hv : bootBuiltins x = some (.type T)) (ha : PA X (e :: es) (tA (mdOf X) Wx fs)) (hn : x ≠ "__name__") (hdb : (x == ("__debug__" : Str)) = false) (hs : noStar (e :: es) = true) :
    PE X (.Call (.Name x p) (e :: es) [] pos) (tE (mdOf X) Wx (dCallL m g fs)) :=
  PE_imp (pe_callTy hc.r hg hm hv ha hn hdb (noStar_cons hs _).1 (noStar_any (noStar_cons hs X.env).2 _ _)) fun σ H Q h => callL_reading h

/-! len, int, bool, str, min, max, all, any, tuple, list -/
def gLen : List W → AH → Option W
  | [.str z], _ => if z.length ≤ line then some (.int z.length) else none
  | [w], h => match itemsOf h w with
    | some xs => some (.int xs.length)
    | none => none
  | _, _ => none
def gInt : List W → AH → Option W
  | [.int i], _ => some (.int i)
  | [.bl b], _ => some (.int (if b then 1 else 0))
  | [.str a], _ => if a.length ≤ 640 then (PySem.intText? a).map W.int else none
  | _, _ => none
def gBool : List W → AH → Option W
  | [.int i], _ => some (.bl (i != 0))
  | [.bl b], _ => some (.bl b)
  | _, _ => none
def gStr : List W → AH → Option W
  | [.int i], _ => if i.natAbs.log2 < 1920 then some (.str (PySem.Str.ofString (toString i))) else none
  | [.str x], _ => some (.str x)
  | _, _ => none
def gMin2 : List W → AH → Option W
  | [.int i, .int j], _ => some (.int (if j < i then j else i))
  | _, _ => none
def gMax2 : List W → AH → Option W
  | [.int i, .int j], _ => some (.int (if j > i then j else i))
  | _, _ => none
def blsOf : List W → Option (List Bool)
  | [] => some []
  | .bl b :: r => (blsOf r).map (b :: ·)
  | _ => none
def gAll : List W → AH → Option W
  | [w], h => match lstOf h w with
    | some xs => (blsOf xs).map fun bs => .bl (bs.all _root_.id)
    | none => none
  | _, _ => none
def gAny : List W → AH → Option W
  | [w], h => match lstOf h w with
    | some xs => (blsOf xs).map fun bs => .bl (bs.any _root_.id)
    | none => none
  | _, _ => none
def gTuple : List W → AH → Option W
  | [.tup xs], _ => some (.tup xs)
  | [w], h => match lstOf h w with
    | some xs => some (.tup xs)
    | none => none
  | _, _ => none
def gList : List W → AH → Option (List W)
  | [w], h => match w with
    | .tup xs => some xs
    | w => lstOf h w
  | _, _ => none
theorem rws1 {M : Md} {ρ : Rho} {H : Hp} {w : W} {vs : List V} (r : RWs M ρ H [w] vs) : ∃ v, vs = [v] ∧ RW M ρ H w v := by
  rw [RWs] at r
  obtain ⟨v, t, rfl, h1, h2⟩ := r
  rw [RWs] at h2
  subst h2
  exact ⟨v, rfl, h1⟩
theorem rws2 {M : Md} {ρ : Rho} {H : Hp} {w z : W} {vs : List V} (r : RWs M ρ H [w, z] vs) : ∃ v u, vs = [v, u] ∧ RW M ρ H w v ∧ RW M ρ H z u := by
  rw [RWs] at r
  obtain ⟨v, t, rfl, h1, h2⟩ := r
  obtain ⟨u, rfl, h3⟩ := rws1 h2
  exact ⟨v, u, rfl, h1, h3⟩
theorem ok_len : CallOk X (.builtin "len") gLen := by
  intro pins s σ H vs us Q ρ ws r ah I rx rh r1 e q
  unfold gLen at e
  split at e
  · split at e
    · rename_i hl
      cases e
      obtain ⟨v, rfl, h⟩ := rws1 r1
      rw [RW] at h; subst h
      exact call_len pins s σ H _ us Q I rx ⟨_, _, rfl, ⟨by rw [← line_eq]; exact hl, rfl⟩, q _ _ (Fr.refl _ _) rh (by rw [RW])⟩
    · cases e
  · split at e
    · rename_i xs hi
      cases e
      obtain ⟨v, rfl, h⟩ := rws1 r1
      obtain ⟨a, ys, rfl, hs, rr⟩ := itemsOf_at rh h hi
      refine call_len pins s σ H _ us Q I rx ⟨_, xs.length, rfl, ?_, q _ _ (Fr.refl _ _) rh (by rw [RW])⟩
      rcases hs with hs | hs
      · exact .inl ⟨ys, hs, rr.length.symm⟩
      · exact .inr ⟨ys, hs, rr.length.symm⟩
    · cases e
  · cases e
theorem ok_int : CallOk X (.type "int") gInt := by
  intro pins s σ H vs us Q ρ ws r ah I rx rh r1 e q
  unfold gInt at e
  split at e
  · cases e
    obtain ⟨v, rfl, h⟩ := rws1 r1
    rw [RW] at h; subst h
    exact call_int1 pins s σ H _ us Q I rx (.inl ⟨_, rfl, q _ _ (Fr.refl _ _) rh (by rw [RW])⟩)
  · cases e
    obtain ⟨v, rfl, h⟩ := rws1 r1
    rw [RW] at h; subst h
    exact call_int1 pins s σ H _ us Q I rx (.inr ⟨_, rfl, q _ _ (Fr.refl _ _) rh (by rw [RW])⟩)
  · split at e
    · rename_i hl
      obtain ⟨n, hn, rfl⟩ := Option.map_eq_some_iff.mp e
      obtain ⟨v, rfl, h⟩ := rws1 r1
      rw [RW] at h; subst h
      exact call_int_str pins s σ H _ us Q I rx ⟨_, _, rfl, hn, hl, q _ _ (Fr.refl _ _) rh (by rw [RW])⟩
    · cases e
  · cases e
theorem ok_bool : CallOk X (.type "bool") gBool := by
  intro pins s σ H vs us Q ρ ws r ah I rx rh r1 e q
  unfold gBool at e
  split at e
  · cases e
    obtain ⟨v, rfl, h⟩ := rws1 r1
    rw [RW] at h; subst h
    exact call_bool1 pins s σ H _ us Q I rx (.inl ⟨_, rfl, q _ _ (Fr.refl _ _) rh (by rw [RW])⟩)
  · cases e
    obtain ⟨v, rfl, h⟩ := rws1 r1
    rw [RW] at h; subst h
    exact call_bool1 pins s σ H _ us Q I rx (.inr ⟨_, rfl, q _ _ (Fr.refl _ _) rh (by rw [RW])⟩)
  · cases e
theorem ok_min2 (hc : X.calm = true) : CallOk X (.builtin "min") gMin2 := by
  intro pins s σ H vs us Q ρ ws r ah I rx rh r1 e q
  unfold gMin2 at e
  split at e
  · cases e
    obtain ⟨v, u, rfl, h, h'⟩ := rws2 r1
    rw [RW] at h; rw [RW] at h'; subst h h'
    exact call_min2 hc pins s σ H _ us Q I rx ⟨_, _, rfl, q _ _ (Fr.refl _ _) rh (by rw [RW])⟩
  · cases e
theorem ok_max2 (hc : X.calm = true) : CallOk X (.builtin "max") gMax2 := by
  intro pins s σ H vs us Q ρ ws r ah I rx rh r1 e q
  unfold gMax2 at e
  split at e
  · cases e
    obtain ⟨v, u, rfl, h, h'⟩ := rws2 r1
    rw [RW] at h; rw [RW] at h'; subst h h'
    exact call_max2 hc pins s σ H _ us Q I rx ⟨_, _, rfl, q _ _ (Fr.refl _ _) rh (by rw [RW])⟩
  · cases e
theorem bls_vals {M : Md} {ρ : Rho} {H : Hp} : ∀ {ws : List W} {vs : List V} {bs : List Bool}, RWs M ρ H ws vs → blsOf ws = some bs → vs = bs.map V.bl
  | [], vs, bs, r, e => by rw [RWs] at r; subst r; cases e; rfl
  | w :: ws, vs, bs, r, e => by
    rw [RWs] at r
    obtain ⟨v, t, rfl, h1, h2⟩ := r
    cases w with
    | bl b =>
      rw [blsOf] at e
      obtain ⟨bs', e', rfl⟩ := Option.map_eq_some_iff.mp e
      rw [RW] at h1
      rw [h1, bls_vals h2 e']
      rfl
    | _ => simp [blsOf] at e
theorem ok_all (hc : X.calm = true) : CallOk X (.builtin "all") gAll := by
  intro pins s σ H vs us Q ρ ws r ah I rx rh r1 e q
  unfold gAll at e
  split at e
  · split at e
    · rename_i xs hi
      obtain ⟨bs, eb, rfl⟩ := Option.map_eq_some_iff.mp e
      obtain ⟨v, rfl, h⟩ := rws1 r1
      obtain ⟨a, ys, rfl, hs, rr⟩ := lstOf_at rh h hi
      have := bls_vals rr eb
      subst this
      exact cr_all hc pins s σ H _ us Q I rx ⟨a, bs, rfl, hs, q _ _ (Fr.refl _ _) rh (by rw [RW])⟩
    · cases e
  · cases e
theorem ok_any (hc : X.calm = true) : CallOk X (.builtin "any") gAny := by
  intro pins s σ H vs us Q ρ ws r ah I rx rh r1 e q
  unfold gAny at e
  split at e
  · split at e
    · rename_i xs hi
      obtain ⟨bs, eb, rfl⟩ := Option.map_eq_some_iff.mp e
      obtain ⟨v, rfl, h⟩ := rws1 r1
      obtain ⟨a, ys, rfl, hs, rr⟩ := lstOf_at rh h hi
      have := bls_vals rr eb
      subst this
      exact cr_any hc pins s σ H _ us Q I rx ⟨a, bs, rfl, hs, q _ _ (Fr.refl _ _) rh (by rw [RW])⟩
    · cases e
  · cases e
theorem ok_tuple : CallOk X (.type "tuple") gTuple := by
  intro pins s σ H vs us Q ρ ws r ah I rx rh r1 e q
  unfold gTuple at e
  split at e
  · cases e
    obtain ⟨v, rfl, h⟩ := rws1 r1
    have h' := h
    rw [RW] at h'
    obtain ⟨a, ys, rfl, h1, h2⟩ := h'
    exact call_tupleT pins s σ H _ us Q I rx ⟨a, ys, rfl, h1.sq, q _ _ (Fr.refl _ _) rh h⟩
  · split at e
    · rename_i xs hi
      cases e
      obtain ⟨v, rfl, h⟩ := rws1 r1
      obtain ⟨a, ys, rfl, h1, h2⟩ := lstOf_at rh h hi
      obtain ⟨u, rfl, ru⟩ := vals1 rx
      cases ru
      obtain ⟨its, rv, pl, hz⟩ := I.list h1
      have hl := rv.length
      refine call_tuple_list pl.isList (fun h' kp => ?_) (by rw [List.size_toArray]; omega)
      exact laidT (t' := s.toks) (I.kept (h' := h') (t' := s.toks) kp) rv hz (newT_out rh h2 q)
    · cases e
  · cases e
theorem ok_list : CallOkL X (.type "list") gList := by
  intro pins s σ H vs us Q ρ ws r ah I rx rh r1 e q
  unfold gList at e
  split at e
  · obtain ⟨v, rfl, h⟩ := rws1 r1
    split at e
    · cases e
      rw [RW] at h
      obtain ⟨a, ys, rfl, h1, h2⟩ := h
      exact call_list_of pins s σ H _ us Q I rx ⟨a, ys, rfl, .inr h1.sq, fun p hp => q _ p hp h2⟩
    · obtain ⟨a, ys, rfl, h1, h2⟩ := lstOf_at rh h e
      exact call_list_of pins s σ H _ us Q I rx ⟨a, ys, rfl, .inl h1, fun p hp => q _ p hp h2⟩
  · cases e
/-! ranges -/
def rgW (a b : Int) : List W := (List.range (b - a).toNat).map fun i => W.int (a + (i : Nat))
def rgOk (a b : Int) : Bool := Nat.ble a.natAbs (2 ^ 61) && (Nat.ble b.natAbs (2 ^ 61) && Nat.ble (b - a).toNat (2 ^ 24))
theorem rws_rg {M : Md} {ρ : Rho} {H : Hp} (a b : Int) : RWs M ρ H (rgW a b) (rgV a b) := by
  unfold rgW rgV
  generalize List.range _ = ns
  induction ns with
  | nil => exact .nil
  | cons n ns ih => exact .cons (by rw [RW]) ih
/-- the bounds of a range, by its arguments -/
def rgArgs : List W → Option (Int × Int)
  | [.int j] => some (0, j)
  | [.int i, .int j] => some (i, j)
  | _ => none
end
end Dn
end
section
set_option Elab.async false
set_option linter.all false
set_option maxRecDepth 100000
set_option maxHeartbeats 4000000
namespace Dn
open PySem PySem.Spec PyProof.Rows L2

/-! ### methods of what is built in -/
def MtOk (X : Cx) (id : String) (g : W → List W → AH → Option (W × AH)) : Prop :=
  ∀ (pins : List (Addr × Obj)) (s : Shared) (σ : L2.St) (H : Hp) (x : V) (vs : List V) (v : Value) (us : List Value) (Q : VK) (ρ : Rho) (w : W) (ws : List W) (r : W) (ah ah' : AH), Inv X pins σ H s → RelV x v → Vals vs us → RelH (mdOf X) ρ H ah → RW (mdOf X) ρ H w x → RWs (mdOf X) ρ H ws vs → g w ws ah = some (r, ah') →
    (∀ z H', Fr ρ H ρ H' → RelH (mdOf X) ρ H' ah' → RW (mdOf X) ρ H' r z → Q z H') → wpAny (model X.prog X.w) X.A (call (.builtin id) (v :: us)) (EP X pins σ Q) X.xe s
def rMt (M : Md) (g : W → List W → AH → Option (W × AH)) : V → List V → Hp → VK → Prop := fun x xs H Q => ∃ ρ w ws r ah ah', RelH M ρ H ah ∧ RW M ρ H w x ∧ RWs M ρ H ws xs ∧ g w ws ah = some (r, ah') ∧ ∀ z H', Fr ρ H ρ H' → RelH M ρ H' ah' → RW M ρ H' r z → Q z H'
theorem MtOk.r {X : Cx} {id : String} {g : W → List W → AH → Option (W × AH)} (h : MtOk X id g) : MtR X id (rMt (mdOf X) g) := by
  intro pins s σ H x xs v us Q I rx rxs ⟨ρ, w, ws, r, ah, ah', rh, r1, r2, e, q⟩
  exact h pins s σ H x xs v us Q ρ w ws r ah ah' I rx rxs rh r1 r2 e q
theorem MtOk.orElse {X : Cx} {id : String} {g g' : W → List W → AH → Option (W × AH)} (h : MtOk X id g) (h' : MtOk X id g') : MtOk X id (fun x y a => (g x y a).or (g' x y a)) := by
  intro pins s σ H x vs v us Q ρ w ws r ah ah' I rx rxs rh r1 r2 e q
  cases hg : g w ws ah with
  | some r' =>
    simp only [hg, Option.some_or, Option.some.injEq] at e
    subst e
    exact h pins s σ H x vs v us Q ρ w ws r ah ah' I rx rxs rh r1 r2 hg q
  | none =>
    simp only [hg, Option.none_or] at e
    exact h' pins s σ H x vs v us Q ρ w ws r ah ah' I rx rxs rh r1 r2 e q
/-- the value is of that built-in type, without a dict of its own -/
def TyB (T : String) (v : Value) (s : Shared) : Prop := s.TypeIs v T ∧ ∀ a, v = .ref a → ∃ ob, s.heap.get? a = some ob ∧ ob.dict = none
/-- the receiver is of that type -/
def tyW (T : String) (h : AH) (w : W) : Bool := match w with
  | .str _ => T == "str"
  | .lst _ => T == "list"
  | .tup _ => T == "tuple"
  | .ref n => match h[n]? with
    | some (.lst _) => T == "list"
    | _ => false
  | _ => false
def dMt (T : String) (g : W → List W → AH → Option (W × AH)) (o : DE) (a : DA) : DE := fun env h => (o env h).bind fun x h1 => if tyW T h1 x = true then (a env h1).bind fun ws h2 => match g x ws h2 with
  | some (r, h3) => .ok r h3
  | none => .stuck
  else .stuck
theorem tyW_ok {X : Cx} {pins : List (Addr × Obj)} {σ : L2.St} {s : Shared} {ρ : Rho} {H : Hp} {ah : AH} {T : String} {w : W} {v : V} {u : Value} (I : Inv X pins σ H s) (R : RelH (mdOf X) ρ H ah) (r : RW (mdOf X) ρ H w v) (ru : RelV v u) (h : tyW T ah w = true) : TyB T u s := by
  unfold tyW at h
  split at h
  · rw [RW] at r; subst r
    have e : T = "str" := by simpa using h
    subst e
    exact tyV_is I ru rfl
  · rw [RW] at r
    obtain ⟨a, vs, rfl, h1, h2⟩ := r
    have e : T = "list" := by simpa using h
    subst e
    exact tyV_is I ru (.inl ⟨rfl, vs, h1.sq⟩)
  · rw [RW] at r
    obtain ⟨a, vs, rfl, ⟨⟨o, h1, h3⟩, hn⟩, h2⟩ := r
    have e : T = "tuple" := by simpa using h
    subst e
    cases ru
    obtain ⟨g, _, its, rv, o', g', gc, _⟩ := I.hok a _ h1
    rw [g] at g'
    cases g'
    exact ⟨⟨o, g, gc⟩, fun b hb => by cases hb; exact ⟨o, g, h3⟩⟩
  · rw [RW] at r
    obtain ⟨a, rfl, h1⟩ := r
    split at h
    · rename_i q
      obtain ⟨vs, h2, h3⟩ := R.cell _ a _ h1 q
      have e : T = "list" := by simpa using h
      subst e
      exact tyV_is I ru (.inl ⟨rfl, vs, SqL.of h2⟩)
    · cases h
  · cases h
def plainBase : Expr → Bool
  | .Call (.Name _ _) [] [] _ => false
  | _ => true
theorem plainBase_ok {o : Expr} (h : plainBase o = true) (attr : Str) (env : PySem.Env) (whole : Sem Value) : attributeBase o attr env whole = whole := by
  unfold attributeBase
  split
  · simp [plainBase] at h
  · rfl
section
variable {X : Cx} {Wx : WX} {o e : Expr} {es : List Expr} {name : Str} {apos cpos p pos : Pos} {T id : String} {fo : DE} {fs : DA}
theorem few_ok {es : List Expr} (hs : noStar es = true) (env : PySem.Env) (pos : Pos) (hl : es.length < 30) : ((backTo pos (starEach es env)).all (fun x => !x.1) && (backToKw pos (keywordEach [] env)).all (fun x => x.1.isSome)
      && decide (es.length + ([] : List Keyword).length + (if ([] : List Keyword).isEmpty then 0 else 1) < 30)) = true := by
  have h1 : (backTo pos (starEach es env)).all (fun x => !x.1) = true := by
    have := noStar_any hs env pos
    rw [List.all_eq_not_any_not]
    simpa using this
  rw [h1]
  have h2 : decide (es.length + ([] : List Keyword).length + (if ([] : List Keyword).isEmpty then 0 else 1) < 30) = true := by
    simp
    omega
  rw [h2]
  rfl
theorem r_mt {g : W → List W → AH → Option (W × AH)} (pa : PlainAttrs T) (slot : Slot T name id) (hty : typeOf (.builtin id) = pure (.type "method_descriptor")) (hm : MtOk X id g) (ho : PE X o (tE (mdOf X) Wx fo)) (ha : PA X (e :: es) (tA (mdOf X) Wx fs))
    (hb : plainBase o = true) (hl : (e :: es).length < 30) (hline : (apos.endLine == cpos.line) = true) (hs : noStar (e :: es) = true) : PE X (.Call (.Attribute o name apos) (e :: es) [] cpos) (tE (mdOf X) Wx (dMt T g fo fs)) := by
  refine ⟨fun pins s σ H Q I ⟨ρ, env, ah, re, rh, q0⟩ => ?_⟩
  refine wpAny_Call_method_late (plainBase_ok hb _ _ _) (few_ok hs _ _ hl) hline rfl (thn (ho.run pins s σ H _ I (tE_then re rh q0)) fun v s1 ⟨x, H1, I1, r1, ρ1, ah1, w1, f1, rh1, rw1, o1⟩ => ?_)
  split at o1
  · rename_i ht
    obtain ⟨h1, h2⟩ := tyW_ok I1 rh1 rw1 r1 ht
    refine ⟨T, id, pa, slot, hty, h1, h2, ?_⟩
    have hA := ha.run cpos pins s1 σ H1 _ I1 (tA_then (re.mono f1) rh1 o1)
    rw [(noStar_cons hs X.env).1] at hA ⊢
    refine Calls.callWith_builtin (by show (false || (backTo cpos (starEach es X.env)).any (·.1)) = false; rw [noStar_any (noStar_cons hs X.env).2] <;> rfl) (Calls.evalArgs_plain (thn hA fun us s2 ⟨vs, H2, I2, r2, ρ2, ah2, w2, f2, rh2, rw2, o2⟩ => ?_))
    generalize hg : g w1 w2 ah2 = r at o2
    rcases r with _ | ⟨r, h3⟩
    · exact o2.elim
    · exact hm pins s2 σ H2 x vs v us Q ρ2 w1 w2 r ah2 h3 I2 r1 r2 rh2 (RW.mono f2 _ _ rw1) rw2 hg fun z H' f rr rz => o2 ρ2 z H' f rr rz
  · exact o1.elim
theorem r_mt0 {g : W → List W → AH → Option (W × AH)} (pa : PlainAttrs T) (slot : Slot T name id) (hty : typeOf (.builtin id) = pure (.type "method_descriptor")) (hm : MtOk X id g) (ho : PE X o (tE (mdOf X) Wx fo))
    (hb : plainBase o = true) (hline : (apos.endLine == cpos.line) = true) : PE X (.Call (.Attribute o name apos) [] [] cpos) (tE (mdOf X) Wx (dMt T g fo dNil)) := by
  refine ⟨fun pins s σ H Q I ⟨ρ, env, ah, re, rh, q0⟩ => ?_⟩
  refine wpAny_Call_method0_late (plainBase_ok hb _ _ _) hline (thn (ho.run pins s σ H _ I (tE_then re rh q0)) fun v s1 ⟨x, H1, I1, r1, ρ1, ah1, w1, f1, rh1, rw1, o1⟩ => ?_)
  split at o1
  · rename_i ht
    obtain ⟨h1, h2⟩ := tyW_ok I1 rh1 rw1 r1 ht
    refine ⟨T, id, pa, slot, hty, h1, h2, Calls.callWith_builtin rfl (PySem.evalArgs_none ?_)⟩
    change OutG _ _ ρ1 H1 (match g w1 [] ah1 with
      | some (r, h3) => .ok r h3
      | none => .stuck) _ _ at o1
    generalize hg : g w1 [] ah1 = r at o1
    rcases r with _ | ⟨r, h3⟩
    · exact o1.elim
    · exact hm pins s1 σ H1 x [] v [] Q ρ1 w1 [] r ah1 h3 I1 r1 .nil rh1 rw1 .nil hg fun z H' f rr rz => o1 ρ1 z H' f rr rz
  · exact o1.elim

/-! lists -/
def mAppend (w : W) (ws : List W) (h : AH) : Option (W × AH) := match w, ws with
  | .ref n, [x] => match h[n]? with
    | some (.lst xs) => if xs.length < line then some (.non, h.set n (.lst (xs ++ [x]))) else none
    | _ => none
  | _, _ => none
def mInsert (w : W) (ws : List W) (h : AH) : Option (W × AH) := match w, ws with
  | .ref n, [.int i, x] => match h[n]? with
    | some (.lst xs) => if xs.length < line ∧ 0 ≤ i ∧ i.toNat < 2 ^ 62 then some (.non, h.set n (.lst (xs.take i.toNat ++ [x] ++ xs.drop i.toNat))) else none
    | _ => none
  | _, _ => none
def mPop (w : W) (ws : List W) (h : AH) : Option (W × AH) := match w, ws with
  | .ref n, [.int i] => match h[n]? with
    | some (.lst xs) => if 0 ≤ i ∧ i.toNat < 2 ^ 61 then match xs[i.toNat]? with
      | some y => some (y, h.set n (.lst (xs.eraseIdx i.toNat)))
      | none => none
      else none
    | _ => none
  | _, _ => none
def mReverse (w : W) (ws : List W) (h : AH) : Option (W × AH) := match w, ws with
  | .ref n, [] => match h[n]? with
    | some (.lst xs) => some (.non, h.set n (.lst xs.reverse))
    | _ => none
  | _, _ => none
def mCount (w : W) (ws : List W) (h : AH) : Option (W × AH) := match lstOf h w, ws with
  | some xs, [x] => if sh dl x = true ∧ xs.all (sh dl) = true then some (.int (xs.countP fun z => PyData.eqv (toD z) (toD x)), h) else none
  | _, _ => none
def intsOf : List W → Option (List Int)
  | [] => some []
  | .int i :: r => (intsOf r).map (i :: ·)
  | _ => none
def mIndex (w : W) (ws : List W) (h : AH) : Option (W × AH) := match w, ws with
  | .tup xs, [.int k] => match intsOf xs with
    | some ns => if k ∈ ns then some (.int (ns.idxOf k : Nat), h) else none
    | none => none
  | _, _ => none
theorem ref_at {M : Md} {ρ : Rho} {H : Hp} {ah : AH} {n : Nat} {v : V} {xs : List W} (R : RelH M ρ H ah) (r : RW M ρ H (.ref n) v) (e : ah[n]? = some (.lst xs)) : ∃ a vs, v = .ref a ∧ ρ.cells[n]? = some a ∧ H a = some (.lst vs) ∧ RWs M ρ H xs vs := by
  rw [RW] at r
  obtain ⟨a, rfl, h⟩ := r
  obtain ⟨vs, h1, h2⟩ := R.cell n a _ h e
  exact ⟨a, vs, rfl, h, h1, h2⟩
/-- a list changed -/
theorem lst_write {M : Md} {ρ : Rho} {H : Hp} {ah : AH} {n : Nat} {a : Addr} {ws : List W} {vs : List V} (R : RelH M ρ H ah) (ha : ρ.cells[n]? = some a) (hl : ∃ us, H a = some (.lst us)) (r : RWs M ρ H ws vs) : Fr ρ H ρ (upd H a (.lst vs)) ∧ RelH M ρ (upd H a (.lst vs)) (ah.set n (.lst ws)) := by
  have hm := List.mem_of_getElem? ha
  have nf : NoFz (H a) := let ⟨us, e⟩ := hl; NoFz.of e fun _ _ z => nomatch z
  have f : Fr ρ H ρ (upd H a (.lst vs)) := Fr.write hm (R.sep a hm) (R.there a (Rho.cell_all ha)) nf
  exact ⟨f, R.write ha nf ⟨vs, upd_same, RWs.mono f _ _ r⟩⟩
theorem ok_append : MtOk X "list.append" mAppend := by
  intro pins s σ H x vs v us Q ρ w ws r ah ah' I rx rxs rh r1 r2 e q
  unfold mAppend at e
  split at e
  · split at e
    · rename_i hq
      split at e
      · rename_i hl
        cases e
        obtain ⟨a, ys, rfl, ha, h1, h2⟩ := ref_at rh r1 hq
        obtain ⟨y, rfl, ry⟩ := rws1 r2
        obtain ⟨f, R⟩ := lst_write rh ha ⟨_, h1⟩ (h2.snoc ry)
        exact mt_append pins s σ H _ _ v us Q I rx rxs ⟨a, ys, y, rfl, rfl, h1, by rw [h2.length, ← line_eq]; exact hl, q _ _ f R (by rw [RW])⟩
      · cases e
    · cases e
  · cases e
theorem ok_insert : MtOk X "list.insert" mInsert := by
  intro pins s σ H x vs v us Q ρ w ws r ah ah' I rx rxs rh r1 r2 e q
  unfold mInsert at e
  split at e
  · split at e
    · rename_i hq
      split at e
      · rename_i hl
        cases e
        obtain ⟨a, ys, rfl, ha, h1, h2⟩ := ref_at rh r1 hq
        obtain ⟨i, y, rfl, ri, ry⟩ := rws2 r2
        rw [RW] at ri; subst ri
        obtain ⟨f, R⟩ := lst_write rh ha ⟨_, h1⟩ (((h2.take _).append (.cons ry .nil)).append (h2.drop _))
        exact mt_insert pins s σ H _ _ v us Q I rx rxs ⟨a, ys, _, y, rfl, rfl, h1, by rw [h2.length, ← line_eq]; exact hl.1, hl.2.1, by omega, q _ _ f R (by rw [RW])⟩
      · cases e
    · cases e
  · cases e
theorem ok_pop : MtOk X "list.pop" mPop := by
  intro pins s σ H x vs v us Q ρ w ws r ah ah' I rx rxs rh r1 r2 e q
  unfold mPop at e
  split at e
  · split at e
    · rename_i hq
      split at e
      · rename_i hl
        split at e
        · rename_i y hy
          cases e
          obtain ⟨a, ys, rfl, ha, h1, h2⟩ := ref_at rh r1 hq
          obtain ⟨i, rfl, ri⟩ := rws1 r2
          rw [RW] at ri; subst ri
          obtain ⟨z, hz, rz⟩ := h2.get hy
          obtain ⟨f, R⟩ := lst_write rh ha ⟨_, h1⟩ (h2.eraseIdx _)
          have hlt := (List.getElem?_eq_some_iff.mp hz).1
          refine mt_popAt pins s σ H _ _ v us Q I rx rxs ⟨a, ys, _, _, z, rfl, rfl, h1, by omega, by omega, ?_, hz, q _ _ f R (RW.mono f _ _ rz)⟩
          exact (ixN_seq (by unfold ixN; rw [if_pos hl.1, if_pos (by omega)])).1
        · cases e
      · cases e
    · cases e
  · cases e
theorem ok_reverse : MtOk X "list.reverse" mReverse := by
  intro pins s σ H x vs v us Q ρ w ws r ah ah' I rx rxs rh r1 r2 e q
  unfold mReverse at e
  split at e
  · split at e
    · rename_i hq
      cases e
      obtain ⟨a, ys, rfl, ha, h1, h2⟩ := ref_at rh r1 hq
      rw [RWs] at r2; subst r2
      obtain ⟨f, R⟩ := lst_write rh ha ⟨_, h1⟩ h2.reverse
      exact mt_reverse pins s σ H _ _ v us Q I rx rxs ⟨a, ys, rfl, rfl, h1, q _ _ f R (by rw [RW])⟩
    · cases e
  · cases e
theorem ok_count (hu : X.A.units + 65 < cLine) : MtOk X "list.count" mCount := by
  intro pins s σ H x vs v us Q ρ w ws r ah ah' I rx rxs rh r1 r2 e q
  unfold mCount at e
  split at e
  · rename_i xs y hx
    split at e
    · rename_i hs
      cases e
      obtain ⟨z, rfl, rz⟩ := rws1 r2
      obtain ⟨uz, rfl, ru⟩ := rxs.one
      obtain ⟨as, ra⟩ := Dp.reads I _ z uz (sh_dp dl _ _ hs.1 rz) ru
      have sd := sh_shaped hs.1 (by decide)
      obtain ⟨a, ys, rfl, h1, h2⟩ := lstOf_at rh r1 hx
      cases rx
      obtain ⟨its, rv, ⟨⟨cls, dd, data, sl⟩, n, ho, hc, hdn, hd⟩, hlen⟩ := I.list h1
      simp only at hc hd
      subst hc hd
      have dall := dp_list (sh_dp dl) _ ys hs.2 h2
      obtain ⟨bs, rb⟩ := Dp.readsAll I _ ys its dall rv
      have cl := (sh_list (sh_ok dl) _ hs.2).1
      have hmap : its.map (SeqAt.readOf s.heap) = toDs xs := SeqAt.readsAll_map _ its bs cl rb
      refine call_meets PySem.F.slot_list_count ⟨_, ho, rfl⟩ PySem.F.entry_list_count (PySem.F.args_list_count_2 _ _)
        (SeqAt.list_countAt a its.toArray n dd sl uz (fun u => PyData.eqv (SeqAt.readOf s.heap u) (toD y))) ⟨ho, SeqAt.items_eqAt (vs := its.toArray) (show ReadsAll s.heap its.toArray.toList _ bs from rb) ra cl (SeqAt.canLay_of_shaped sd) (PyProof.Rows.room_in_shaped sd hu), ?_⟩
      refine ⟨.int (xs.countP fun z => PyData.eqv (toD z) (toD y) : Nat), H, I.tok _, ⟨s.toks, ?_⟩, q _ _ (Fr.refl _ _) rh (by rw [RW])⟩
      have e2 : its.countP (fun u => PyData.eqv (SeqAt.readOf s.heap u) (toD y)) = xs.countP fun z => PyData.eqv (toD z) (toD y) := by
        have h3 : (its.map (SeqAt.readOf s.heap)).countP (fun d => PyData.eqv d (toD y)) = (xs.map toD).countP (fun d => PyData.eqv d (toD y)) := by rw [hmap, toDs_map]
        rw [List.countP_map, List.countP_map] at h3
        exact h3
      show Value.int ((its.toArray.toList.countP _ : Nat) : Int) s.toks = _
      rw [← e2]
    · cases e
  · cases e
theorem ints_vals {M : Md} {ρ : Rho} {H : Hp} : ∀ {ws : List W} {vs : List V} {ns : List Int}, RWs M ρ H ws vs → intsOf ws = some ns → vs = ns.map V.int
  | [], vs, ns, r, e => by rw [RWs] at r; subst r; cases e; rfl
  | w :: ws, vs, ns, r, e => by
    rw [RWs] at r
    obtain ⟨v, t, rfl, h1, h2⟩ := r
    cases w with
    | int b =>
      rw [intsOf] at e
      obtain ⟨bs', e', rfl⟩ := Option.map_eq_some_iff.mp e
      rw [RW] at h1
      rw [h1, ints_vals h2 e']
      rfl
    | _ => simp [intsOf] at e
theorem ok_index : MtOk X "tuple.index" mIndex := by
  intro pins s σ H x vs v us Q ρ w ws r ah ah' I rx rxs rh r1 r2 e q
  unfold mIndex at e
  split at e
  · split at e
    · rename_i ns hn
      split at e
      · rename_i hk
        cases e
        rw [RW] at r1
        obtain ⟨a, ys, rfl, h1, h2⟩ := r1
        have := ints_vals h2 hn
        subst this
        obtain ⟨z, rfl, rz⟩ := rws1 r2
        rw [RW] at rz; subst rz
        obtain ⟨uz, rfl, ⟨t, rfl⟩⟩ := rxs.one
        cases rx
        obtain ⟨its, rv, ht, hz⟩ := I.tuple h1.sq
        exact SeqAt.tuple_index_ints ht (Vals.ints rv) hk ⟨.int _, H, I.tok _, ⟨_, rfl⟩, q _ _ (Fr.refl _ _) rh (by rw [RW])⟩
      · cases e
    · cases e
  · cases e
theorem ok_str : CallOk X (.type "str") gStr := by
  intro pins s σ H vs us Q ρ ws r ah I rx rh r1 e q
  unfold gStr at e
  split at e
  · split at e
    · rename_i hl
      cases e
      obtain ⟨v, rfl, h⟩ := rws1 r1
      rw [RW] at h; subst h
      exact call_str_int pins s σ H _ us Q I rx ⟨_, rfl, hl, q _ _ (Fr.refl _ _) rh (by rw [RW])⟩
    · cases e
  · cases e
    obtain ⟨v, rfl, h⟩ := rws1 r1
    rw [RW] at h; subst h
    exact SkE.call_str_str pins s σ H _ us Q I rx ⟨_, rfl, q _ _ (Fr.refl _ _) rh (by rw [RW])⟩
  · cases e

/-! ### list(range(..)), tuple(range(..)) -/
def dRg (k : Int → Int → AH → Res W) (a : DA) : DE := fun env h => (a env h).bind fun ws h1 => match rgArgs ws with
  | some (i, j) => if rgOk i j = true then k i j h1 else .stuck
  | none => .stuck
theorem prg_A {es : List Expr} {fs : DA} (hr : X.mg "range" = none) (hg : Gl X "range") (ha : PA X es (tA (mdOf X) Wx fs)) (hs : noStar es = true) (hne : es.length = 1 ∨ es.length = 2) :
    PRg X (.Call (.Name "range" p) es [] pos) (fun σ H Q => tA (mdOf X) Wx fs σ H fun vs H1 => ∃ i j, (vs = [.int j] ∧ i = 0 ∨ vs = [.int i, .int j]) ∧ Q i j H1) := by
  match es, hne with
  | [a], _ =>
    intro pins s σ H Q I h
    refine Call_ (ld_blt I hg hr boot_range (PyProof.Rows.callWith_type1 (thn (ha.run pos pins s σ H _ I h) fun us s1 ⟨vs, H1, I1, r1, q1⟩ => ?_) (noStar_cons hs _).1 (noStar_any (noStar_cons hs X.env).2 _ _)))
    obtain ⟨i, j, e, q⟩ := q1
    rcases e with ⟨rfl, rfl⟩ | rfl
    · obtain ⟨u, rfl, ⟨t, rfl⟩⟩ := r1.one
      exact call_range_1 ⟨s1.heap.objs.size, 0, j, _, _, _, H1, rfl, IsRange.new .., I1.kept fun b o e => Heap.get?_push_of_some _ e, q⟩
    · obtain ⟨u, u2, rfl, ⟨t, rfl⟩, ⟨t2, rfl⟩⟩ := r1.two
      exact call_range_2 ⟨s1.heap.objs.size, i, j, _, _, _, H1, rfl, IsRange.new .., I1.kept fun b o e => Heap.get?_push_of_some _ e, q⟩
  | [a, b], _ =>
    intro pins s σ H Q I h
    refine Call_ (ld_blt I hg hr boot_range (PyProof.Rows.callWith_type1 (thn (ha.run pos pins s σ H _ I h) fun us s1 ⟨vs, H1, I1, r1, q1⟩ => ?_) (noStar_cons hs _).1 (noStar_any (noStar_cons hs X.env).2 _ _)))
    obtain ⟨i, j, e, q⟩ := q1
    rcases e with ⟨rfl, rfl⟩ | rfl
    · obtain ⟨u, rfl, ⟨t, rfl⟩⟩ := r1.one
      exact call_range_1 ⟨s1.heap.objs.size, 0, j, _, _, _, H1, rfl, IsRange.new .., I1.kept fun b o e => Heap.get?_push_of_some _ e, q⟩
    · obtain ⟨u, u2, rfl, ⟨t, rfl⟩, ⟨t2, rfl⟩⟩ := r1.two
      exact call_range_2 ⟨s1.heap.objs.size, i, j, _, _, _, H1, rfl, IsRange.new .., I1.kept fun b o e => Heap.get?_push_of_some _ e, q⟩
theorem rgOk_Ok {i j : Int} (h : rgOk i j = true) : RgOk i j := by
  unfold rgOk at h
  rw [Bool.and_eq_true_iff, Bool.and_eq_true_iff] at h
  have h1 := Nat.le_of_ble_eq_true h.1
  have h2 := Nat.le_of_ble_eq_true h.2.1
  have h3 := Nat.le_of_ble_eq_true h.2.2
  have q : -(2 ^ 62) ≤ i ∧ i < 2 ^ 62 ∧ -(2 ^ 62) ≤ j ∧ j < 2 ^ 62 ∧ (j - i).toNat ≤ 2 ^ 24 := ⟨by omega, by omega, by omega, by omega, h3⟩
  simpa [RgOk] using q
theorem rgArgs_rw {M : Md} {ρ : Rho} {H : Hp} {ws : List W} {vs : List V} {i j : Int} (r : RWs M ρ H ws vs) (e : rgArgs ws = some (i, j)) : vs = [.int j] ∧ i = 0 ∨ vs = [.int i, .int j] := by
  unfold rgArgs at e
  split at e
  · cases e
    obtain ⟨v, rfl, h⟩ := rws1 r
    rw [RW] at h; subst h
    exact .inl ⟨rfl, rfl⟩
  · cases e
    obtain ⟨v, u, rfl, h, h'⟩ := rws2 r
    rw [RW] at h; rw [RW] at h'; subst h h'
    exact .inr rfl
  · cases e
theorem r_listRg {m : Bool} {es : List Expr} {fs : DA} {p2 pos2 : Pos} (hc : X.calm = true) (hgl : Gl X "list") (hml : X.mg "list" = none) (hr : X.mg "range" = none) (hg : Gl X "range") (ha : PA X es (tA (mdOf X) Wx fs)) (hs : noStar es = true) (hne : es.length = 1 ∨ es.length = 2) :
    PE X (.Call (.Name "list" p2) [.Call (.Name "range" p) es [] pos] [] pos2) (tE (mdOf X) Wx (dRg (fun i j h => allocL m (rgW i j) h) fs)) :=
  PE_imp (pe_listRg hc hgl hml (prg_A hr hg ha hs hne)) fun σ H Q ⟨ρ, env, ah, re, rh, o⟩ =>
    (tA_then re rh o).mono fun x H1 ⟨ρ1, ah1, w1, f1, rh1, rw1, o1⟩ => by
      split at o1
      · rename_i i j hij
        split at o1
        · rename_i hk
          exact ⟨i, j, rgArgs_rw rw1 hij, rgOk_Ok hk, alloc_out rh1 (rws_rg i j) o1⟩
        · exact o1.elim
      · exact o1.elim
theorem r_tupRg {es : List Expr} {fs : DA} {p2 pos2 : Pos} (hc : X.calm = true) (hgl : Gl X "tuple") (hml : X.mg "tuple" = none) (hr : X.mg "range" = none) (hg : Gl X "range") (ha : PA X es (tA (mdOf X) Wx fs)) (hs : noStar es = true) (hne : es.length = 1 ∨ es.length = 2) :
    PE X (.Call (.Name "tuple" p2) [.Call (.Name "range" p) es [] pos] [] pos2) (tE (mdOf X) Wx (dRg (fun i j h => .ok (.tup (rgW i j)) h) fs)) := by
  refine ⟨fun pins s σ H Q I ⟨ρ, env, ah, re, rh, q0⟩ => ?_⟩
  have h0 := prg_A (p := p) (pos := pos) hr hg ha hs hne pins s σ H (fun a b H1 => ∃ ρ1 ah1, RelH (mdOf X) ρ1 H1 ah1 ∧ rgOk a b = true ∧ ∀ z H', Fr ρ1 H1 ρ1 H' → RelH (mdOf X) ρ1 H' ah1 → RW (mdOf X) ρ1 H' (.tup (rgW a b)) z → Q z H') I ((tA_then re rh q0).mono fun vs H1 ⟨ρ1, ah1, w1, f1, rh1, rw1, o1⟩ => by
    split at o1
    · rename_i i j hij
      split at o1
      · rename_i hk
        exact ⟨i, j, rgArgs_rw rw1 hij, ρ1, ah1, rh1, hk, fun z H' f rr rz => o1 ρ1 z H' f rr rz⟩
      · exact o1.elim
    · exact o1.elim)
  refine Call_ (ld_blt I hgl hml boot_tuple (PyProof.Rows.callWith_type1 (args_cons (thn h0 fun x s1 ⟨r, a, b, t, u, v, H1, ex, hir, I1, hq⟩ => args_nil ?_) rfl) rfl))
  obtain ⟨ρ1, ah1, rh1, hk, q⟩ := hq
  subst ex
  obtain ⟨b1, b2, b3, b4, b5⟩ := rgOk_Ok hk
  refine call_tuple_range (n := (b - a).toNat) (I1.ok.hd hc) hir (small_one b1 b2 b3 b4) (rangeSize_nat a b) b5 fun h' tk acc hk hi => ?_
  have z := laidT (t' := tk) (I1.kept (h' := h') (t' := tk) hk) (vals_rg hi) (by rw [rgV_length, sizeLine_eq]; omega) (newT_out rh1 (rws_rg a b) q)
  rw [Array.toArray_toList] at z
  exact z
end
end Dn
end
section
set_option Elab.async false
set_option linter.all false
set_option maxRecDepth 100000
set_option maxHeartbeats 4000000
namespace Dn
open PySem PySem.Spec PyProof.Rows L2

/-! ### isinstance of a built-in type -/
def typeW (h : AH) : W → Option String
  | .non => some "NoneType"
  | .bl _ => some "bool"
  | .int _ => some "int"
  | .str _ => some "str"
  | .tup _ => some "tuple"
  | .lst _ => some "list"
  | .ref n => match h[n]? with
    | some (.lst _) => some "list"
    | _ => none
  | _ => none
/-- the built-in types that are asked for -/
inductive BT where
  | int | bool | str | tuple | list
  deriving DecidableEq
def BT.name : BT → String
  | .int => "int"
  | .bool => "bool"
  | .str => "str"
  | .tuple => "tuple"
  | .list => "list"
def isB (T : BT) (h : AH) (w : W) : Option Bool := match T, w with
  | .int, .int _ => some true
  | .int, .bl _ => some true
  | .bool, .bl _ => some true
  | .str, .str _ => some true
  | .tuple, .tup _ => some true
  | .list, .lst _ => some true
  | T, .ref n => match h[n]? with
    | some (.lst _) => some (decide (T = .list))
    | _ => none
  | _, .dct _ _ => none
  | _, .glo _ => none
  | _, .scr _ => none
  | _, .erx _ => none
  | _, .err _ _ => none
  | _, .any => none
  | _, _ => some false
def dIsi (T : BT) (a : DE) : DE := fun env h => (a env h).bind fun x h1 => match isB T h1 x with
  | some b => .ok (.bl b) h1
  | none => .stuck
theorem tyx_of {M : Md} {ρ : Rho} {H : Hp} {ah : AH} {w : W} {v : V} {t : String} (R : RelH M ρ H ah) (r : RW M ρ H w v) (e : typeW ah w = some t) : TyX M.K H v (.type t) := by
  cases w with
  | non => cases e; rw [RW] at r; subst r; exact .base .non
  | bl b => cases e; rw [RW] at r; subst r; exact .base (.bl b)
  | int b => cases e; rw [RW] at r; subst r; exact .base (.int b)
  | str b => cases e; rw [RW] at r; subst r; exact .base (.str b)
  | tup xs =>
    cases e; rw [RW] at r
    obtain ⟨a, vs, rfl, ⟨⟨o, h1, h3⟩, hn⟩, h2⟩ := r
    exact .fTuple h1
  | lst xs =>
    cases e; rw [RW] at r
    obtain ⟨a, vs, rfl, h1, h2⟩ := r
    exact .base (.lst h1.1)
  | ref n =>
    rw [RW] at r
    obtain ⟨a, rfl, h1⟩ := r
    unfold typeW at e
    simp only at e
    split at e
    · rename_i q
      cases e
      obtain ⟨vs, h2, h3⟩ := R.cell _ a _ h1 q
      exact .base (.lst h2)
    · cases e
  | dct _ _ => cases e
  | glo _ => cases e
  | scr _ => cases e
  | _ => cases e
theorem isB_kit {K : PySem.W.Frag} {T : BT} {h : AH} {w : W} {b : Bool} (e : isB T h w = some b) : ∃ t, typeW h w = some t ∧ PySem.W.kitOne K (.type t) (.type T.name) = some b := by
  unfold isB at e
  split at e
  case h_7 =>
    split at e
    · rename_i q
      cases e
      rename_i n _ _ _ xs
      refine ⟨"list", by simp [typeW, q], kit_ty ?_⟩
      cases T <;> decide +kernel
    · cases e
  all_goals first
    | (cases e; done)
    | (cases e; exact ⟨_, rfl, kit_ty (by decide +kernel)⟩)
    | skip
  cases e
  rename_i w1 w2 w3 w4 w5 w6 w7 w8 w9 w10
  cases w with
  | non => exact ⟨_, rfl, kit_ty (by cases T <;> decide +kernel)⟩
  | bl b => cases T <;> first | exact ⟨_, rfl, kit_ty (by decide +kernel)⟩ | simp_all
  | int b => cases T <;> first | exact ⟨_, rfl, kit_ty (by decide +kernel)⟩ | simp_all
  | str b => cases T <;> first | exact ⟨_, rfl, kit_ty (by decide +kernel)⟩ | simp_all
  | tup b => cases T <;> first | exact ⟨_, rfl, kit_ty (by decide +kernel)⟩ | simp_all
  | lst b => cases T <;> first | exact ⟨_, rfl, kit_ty (by decide +kernel)⟩ | simp_all
  | _ => simp_all
section
variable {X : Cx} {Wx : WX} {e : Expr} {p p1 p2 : Pos} {fe : DE}
theorem boot_ty (T : BT) : bootBuiltins (PySem.Str.ofString T.name) = some (.type T.name) := by cases T <;> decide +kernel
theorem r_isi {T : BT} (he : PE X e (tE (mdOf X) Wx fe)) (hg : Gl X "isinstance") (hm : X.mg "isinstance" = none) (hgT : Gl X (PySem.Str.ofString T.name)) (hmT : X.mg (PySem.Str.ofString T.name) = none) (hs : noStar [e] = true) :
    PE X (.Call (.Name "isinstance" p) [e, .Name (PySem.Str.ofString T.name) p1] [] p2) (tE (mdOf X) Wx (dIsi T fe)) := by
  have pT : PE X (.Name (PySem.Str.ofString T.name) p1) (tC (.ty T.name)) := pe_bltn hgT hmT (boot_ty T) rfl (by cases T <;> decide) (by cases T <;> decide)
  have hst : noStar [e, .Name (PySem.Str.ofString T.name) p1] = true := by
    cases e <;> first | rfl | (simp [noStar] at hs)
  have hst1 : noStar [Expr.Name (PySem.Str.ofString T.name) p1] = true := rfl
  refine PE_imp (pe_callB call_isi hg hm (by decide +kernel) (pa_cons he (pa_cons pT pa_nil) (noStar_cons hst _).1) (by decide) (by decide) (noStar_cons hst _).1 (noStar_any hst1 _ _)) fun σ H Q ⟨ρ, env, ah, re, rh, o⟩ => ?_
  refine (tE_then re rh o).mono fun x H1 ⟨ρ1, ah1, w1, f1, rh1, rw1, o1⟩ => ?_
  generalize hb : isB T ah1 w1 = r at o1
  cases r with
  | none => exact o1.elim
  | some b =>
    obtain ⟨t, ht, hk⟩ := isB_kit (K := X.K) hb
    exact ⟨x, .ty T.name, .type t, .type T.name, b, rfl, .ty _, tyx_of rh1 rw1 ht, hk, o1 ρ1 _ H1 (Fr.refl _ _) rh1 (by rw [RW])⟩
end
end Dn
end
section
set_option Elab.async false
set_option linter.all false
set_option maxRecDepth 100000
set_option maxHeartbeats 4000000
namespace Dn
open PySem PySem.Spec PyProof.Rows L2

/-! ### calls of own functions -/
abbrev Calls := Nat → List W → AH → Res W
def spI (M : Md) (n : Nat) (g : List W → AH → Res W) : Sp := fun vs H Q E => vs.length = n ∧ ∃ ρ ws ah, RelH M ρ H ah ∧ RWs M ρ H ws vs ∧ OutG M (RW M) ρ H (g ws ah) Q E
def dOwn (Γ : Calls) (i n : Nat) (a : DA) : DE := fun env h => (a env h).bind fun ws h1 => if ws.length = n then Γ i ws h1 else .stuck
section
variable {X : Cx} {Wx : WX} {x : Str} {p pos : Pos} {e : Expr} {es : List Expr} {fs : DA} {k i n : Nat} {Γ : Calls} {f : Addr} {fd : FuncData} {ps : List Str}
theorem r_own (F : FnOk X.prog X.w X.K X.mg X.base (L2.CX X.prog X.w) k f fd ps (spI (mdOf X) n (Γ i))) (hr : Room k X.A) (hg : Gl X x) (hm : X.mg x = some (.ref f)) (hk : PySem.W.keepIn X.K (.ref f) = true) (hb : Binds X.K fd ps []) (tk : Takes X Wx)
    (ha : PA X (e :: es) (tA (mdOf X) Wx fs)) (hdb : (x == ("__debug__" : Str)) = false) (hs : noStar (e :: es) = true) : PE X (.Call (.Name x p) (e :: es) [] pos) (tE (mdOf X) Wx (dOwn Γ i n fs)) :=
  PE_imp (pe_callS F hr hg hm hk hb (fun σ => passAt tk σ) ha hdb (noStar_cons hs _).1 (noStar_any (noStar_cons hs X.env).2 _ _)) fun σ H Q ⟨ρ, env, ah, re, rh, o⟩ =>
    (tA_then re rh o).mono fun vs H1 ⟨ρ1, ah1, w1, f1, rh1, rw1, o1⟩ => by
      split at o1
      · rename_i hl
        exact ⟨by rw [rw1.length]; exact hl, ρ1, w1, ah1, rh1, rw1, o1⟩
      · exact o1.elim
theorem r_own0 (F : FnOk X.prog X.w X.K X.mg X.base (L2.CX X.prog X.w) k f fd ps (spI (mdOf X) 0 (Γ i))) (hr : Room k X.A) (hg : Gl X x) (hm : X.mg x = some (.ref f)) (hk : PySem.W.keepIn X.K (.ref f) = true) (hb : Binds X.K fd ps []) (tk : Takes X Wx)
    (hdb : (x == ("__debug__" : Str)) = false) : PE X (.Call (.Name x p) [] [] pos) (tE (mdOf X) Wx (dOwn Γ i 0 dNil)) := by
  refine ⟨fun pins s σ H Q I ⟨ρ, env, ah, re, rh, o⟩ => ?_⟩
  refine wpAny_Call_Name_kw (ld_glob I hg hm ?_ hdb)
  exact PySem.W.callWith_K0 I.kIn hk (run_fnS (us := []) (vs := []) (E := WE Wx) F hr hb (passAt tk σ) I .nil ⟨rfl, ρ, [], ah, rh, .nil, o⟩)
end

/-! ### statements -/
inductive SRes where
  | nx (env : Env) (h : AH) | ret (w : W) (h : AH) | brk (env : Env) (h : AH) | ct (env : Env) (h : AH) | exc (c : Str) (env : Env) (h : AH) | stuck
abbrev DS := Env → AH → SRes
def SOut (M : Md) (Wx : WX) (ρ : Rho) (H : Hp) (r : SRes) (D : Ends) : Prop := match r with
  | .nx env h => ∀ ρ' σ' H', Fr ρ H ρ' H' → REnv M ρ' H' env σ' → RelH M ρ' H' h → D.nx σ' H'
  | .ret w h => ∀ ρ' v H', Fr ρ H ρ' H' → RelH M ρ' H' h → RW M ρ' H' w v → D.rt v H'
  | .brk env h => ∀ ρ' σ' H', Fr ρ H ρ' H' → REnv M ρ' H' env σ' → RelH M ρ' H' h → D.bk σ' H'
  | .ct env h => ∀ ρ' σ' H', Fr ρ H ρ' H' → REnv M ρ' H' env σ' → RelH M ρ' H' h → D.ct σ' H'
  | .exc c env h => ∀ ρ' σ' H', Fr ρ H ρ' H' → REnv M ρ' H' env σ' → RelH M ρ' H' h → Wx (excV M c) none σ' H'
  | .stuck => False
theorem SOut.frame {M : Md} {Wx : WX} {ρ ρ1 : Rho} {H H1 : Hp} {r : SRes} {D : Ends} (f : Fr ρ H ρ1 H1) (o : SOut M Wx ρ H r D) : SOut M Wx ρ1 H1 r D := by
  cases r with
  | nx env h => exact fun ρ' σ' H' f' => o ρ' σ' H' (f.trans f')
  | ret w h => exact fun ρ' v H' f' => o ρ' v H' (f.trans f')
  | brk env h => exact fun ρ' σ' H' f' => o ρ' σ' H' (f.trans f')
  | ct env h => exact fun ρ' σ' H' f' => o ρ' σ' H' (f.trans f')
  | exc c env h => exact fun ρ' σ' H' f' => o ρ' σ' H' (f.trans f')
  | stuck => exact o
def tS (M : Md) (Wx : WX) (f : DS) : TS := fun D σ H => ∃ ρ env ah, REnv M ρ H env σ ∧ RelH M ρ H ah ∧ SOut M Wx ρ H (f env ah) D
/-- an expression's outcome, gone on with -/
def Res.toS {α : Type} (r : Res α) (env : Env) (f : α → AH → SRes) : SRes := match r with
  | .ok a h => f a h
  | .exc c h => .exc c env h
  | .stuck => .stuck
@[simp] theorem Res.toS_ok {α : Type} (a : α) (h : AH) (env : Env) (f : α → AH → SRes) : (Res.ok a h).toS env f = f a h := rfl
@[simp] theorem Res.toS_exc {α : Type} (c : Str) (h : AH) (env : Env) (f : α → AH → SRes) : (Res.exc c h : Res α).toS env f = .exc c env h := rfl
@[simp] theorem Res.toS_stuck {α : Type} (env : Env) (f : α → AH → SRes) : (Res.stuck : Res α).toS env f = .stuck := rfl
/-- a statement's outcome, gone on with -/
def SRes.then (r : SRes) (f : Env → AH → SRes) : SRes := match r with
  | .nx env h => f env h
  | r => r
@[simp] theorem SRes.then_nx (env : Env) (h : AH) (f : Env → AH → SRes) : (SRes.nx env h).then f = f env h := rfl
@[simp] theorem SRes.then_ret (w : W) (h : AH) (f : Env → AH → SRes) : (SRes.ret w h).then f = .ret w h := rfl
@[simp] theorem SRes.then_brk (env : Env) (h : AH) (f : Env → AH → SRes) : (SRes.brk env h).then f = .brk env h := rfl
@[simp] theorem SRes.then_ct (env : Env) (h : AH) (f : Env → AH → SRes) : (SRes.ct env h).then f = .ct env h := rfl
@[simp] theorem SRes.then_exc (c : Str) (env : Env) (h : AH) (f : Env → AH → SRes) : (SRes.exc c env h).then f = .exc c env h := rfl
@[simp] theorem SRes.then_stuck (f : Env → AH → SRes) : SRes.stuck.then f = .stuck := rfl

section
variable {M : Md} {Wx : WX} {σ : L2.St} {H : Hp} {ρ : Rho} {env : Env} {ah : AH} {D : Ends}
theorem tE_toS {fa : DE} {k : W → AH → SRes} (re : REnv M ρ H env σ) (rh : RelH M ρ H ah) (o : SOut M Wx ρ H ((fa env ah).toS env k) D) :
    tE M Wx fa σ H fun v H1 => ∃ ρ1 ah1 w, Fr ρ H ρ1 H1 ∧ RelH M ρ1 H1 ah1 ∧ RW M ρ1 H1 w v ∧ SOut M Wx ρ1 H1 (k w ah1) D := by
  refine ⟨ρ, env, ah, re, rh, ?_⟩
  generalize fa env ah = r at o
  cases r with
  | ok w a => exact fun ρ1 v H1 f r1 rw1 => ⟨ρ1, a, w, f, r1, rw1, SOut.frame f o⟩
  | exc c a => exact fun ρ' H' f r => o ρ' σ H' f (re.mono f) r
  | stuck => exact o
theorem tT_toS {fa : DT} {k : Bool → AH → SRes} (re : REnv M ρ H env σ) (rh : RelH M ρ H ah) (o : SOut M Wx ρ H ((fa env ah).toS env k) D) :
    tT M Wx fa σ H fun v H1 => ∃ ρ1 ah1, Fr ρ H ρ1 H1 ∧ RelH M ρ1 H1 ah1 ∧ SOut M Wx ρ1 H1 (k v ah1) D := by
  refine ⟨ρ, env, ah, re, rh, ?_⟩
  generalize fa env ah = r at o
  cases r with
  | ok w a =>
    intro ρ1 v H1 f r1 rw1
    have e : w = v := rw1
    subst e
    exact ⟨ρ1, a, f, r1, SOut.frame f o⟩
  | exc c a => exact fun ρ' H' f r => o ρ' σ H' f (re.mono f) r
  | stuck => exact o
theorem tA_toS {fa : DA} {k : List W → AH → SRes} (re : REnv M ρ H env σ) (rh : RelH M ρ H ah) (o : SOut M Wx ρ H ((fa env ah).toS env k) D) :
    tA M Wx fa σ H fun v H1 => ∃ ρ1 ah1 w, Fr ρ H ρ1 H1 ∧ RelH M ρ1 H1 ah1 ∧ RWs M ρ1 H1 w v ∧ SOut M Wx ρ1 H1 (k w ah1) D := by
  refine ⟨ρ, env, ah, re, rh, ?_⟩
  generalize fa env ah = r at o
  cases r with
  | ok w a => exact fun ρ1 v H1 f r1 rw1 => ⟨ρ1, a, w, f, r1, rw1, SOut.frame f o⟩
  | exc c a => exact fun ρ' H' f r => o ρ' σ H' f (re.mono f) r
  | stuck => exact o
end

/-! the statements' combinators -/
def sNext : DS := fun env h => .nx env h
def sSeq (a b : DS) : DS := fun env h => (a env h).then b
def sExpr (a : DE) : DS := fun env h => (a env h).toS env fun _ h1 => .nx env h1
def sRet (a : DE) : DS := fun env h => (a env h).toS env fun w h1 => .ret w h1
def sIf (c : DT) (a b : DS) : DS := fun env h => (c env h).toS env fun k h1 => if k then a env h1 else b env h1
def sRaise (c : Str) : DS := fun env h => .exc c env h
/-- targets: what is stored -/
abbrev DG := W → Env → AH → SRes
def gSet (i : Nat) : DG := fun w env h => .nx (env.set i (some w)) h
abbrev DGs := List W → Env → AH → SRes
def gsNil : DGs := fun ws env h => match ws with
  | [] => .nx env h
  | _ => .stuck
def gsCons (g : DG) (r : DGs) : DGs := fun ws env h => match ws with
  | w :: us => (g w env h).then (r us)
  | [] => .stuck
def gTupW (r : DGs) : DG := fun w env h => match w with
  | .tup ws => r ws env h
  | _ => .stuck
def sAsg (a : DE) (g : DG) : DS := fun env h => (a env h).toS env fun w h1 => g w env h1
def tG (M : Md) (Wx : WX) (g : DG) : TG := fun v σ H Q => ∃ ρ env ah w, REnv M ρ H env σ ∧ RelH M ρ H ah ∧ RW M ρ H w v ∧ SOut M Wx ρ H (g w env ah) ⟨Q, fun _ _ => False, fun _ _ => False, fun _ _ => False⟩
def tGs (M : Md) (Wx : WX) (g : DGs) : TGs := fun vs σ H Q => ∃ ρ env ah ws, REnv M ρ H env σ ∧ RelH M ρ H ah ∧ RWs M ρ H ws vs ∧ SOut M Wx ρ H (g ws env ah) ⟨Q, fun _ _ => False, fun _ _ => False, fun _ _ => False⟩
/-- a target's outcome is the next or nothing -/
def OnlyNx (r : SRes) : Prop := match r with
  | .nx _ _ => True
  | .stuck => True
  | _ => False
section
variable {X : Cx} {Wx : WX} {st : Stmt} {rest : List Stmt} {e : Expr} {es : List Expr} {pos p : Pos} {fa : DE} {fs gs : DS} {ft : DT}
theorem r_pass : PS X (.Pass p) (tS (mdOf X) Wx sNext) := PS_imp ps_pass fun D σ H ⟨ρ, env, ah, re, rh, o⟩ => o ρ σ H (Fr.refl _ _) re rh
theorem r_doc {x : Str} {j : Nat} {p' : Pos} : PS X (.Expr (.Constant (.str x) j p) p') (tS (mdOf X) Wx sNext) := PS_imp ps_doc fun D σ H ⟨ρ, env, ah, re, rh, o⟩ => o ρ σ H (Fr.refl _ _) re rh
theorem r_snil : PSs X [] (tS (mdOf X) Wx sNext) := PSs_imp pss_nil fun D σ H ⟨ρ, env, ah, re, rh, o⟩ => o ρ σ H (Fr.refl _ _) re rh
theorem seq_reading {M : Md} {D : Ends} {σ : L2.St} {H : Hp} (h : tS M Wx (sSeq fs gs) D σ H) : tSeq (tS M Wx fs) (tS M Wx gs) D σ H := by
  obtain ⟨ρ, env, ah, re, rh, o⟩ := h
  refine ⟨ρ, env, ah, re, rh, ?_⟩
  unfold sSeq at o
  generalize fs env ah = r at o
  cases r with
  | nx env1 h1 => exact fun ρ' σ' H' f re' rh' => ⟨ρ', env1, h1, re', rh', SOut.frame f o⟩
  | ret w h => exact o
  | brk env h => exact o
  | ct env h => exact o
  | exc c env h => exact o
  | stuck => exact o
theorem r_scons (h1 : PS X st (tS (mdOf X) Wx fs)) (h2 : PSs X rest (tS (mdOf X) Wx gs)) : PSs X (st :: rest) (tS (mdOf X) Wx (sSeq fs gs)) := PSs_imp (pss_cons h1 h2) fun D σ H h => seq_reading h
theorem r_expr (he : PE X e (tE (mdOf X) Wx fa)) (hs : swapsWith e none p.line X.env = pure false) : PS X (.Expr e p) (tS (mdOf X) Wx (sExpr fa)) :=
  PS_imp (ps_expr he hs) fun D σ H ⟨ρ, env, ah, re, rh, o⟩ => (tE_toS re rh o).mono fun v H1 ⟨ρ1, ah1, w, f, r, rw, o1⟩ => o1 ρ1 σ H1 (Fr.refl _ _) (re.mono f) r
theorem r_ret (he : PE X e (tE (mdOf X) Wx fa)) : PS X (.Return (some e) p) (tS (mdOf X) Wx (sRet fa)) :=
  PS_imp (ps_ret he) fun D σ H ⟨ρ, env, ah, re, rh, o⟩ => (tE_toS re rh o).mono fun v H1 ⟨ρ1, ah1, w, f, r, rw, o1⟩ => o1 ρ1 v H1 (Fr.refl _ _) r rw
theorem r_sif {c : Expr} {a b : List Stmt} (hc : PT X c (tT (mdOf X) Wx ft)) (ha : PSs X a (tS (mdOf X) Wx fs)) (hb : PSs X b (tS (mdOf X) Wx gs)) : PS X (.If c a b p) (tS (mdOf X) Wx (sIf ft fs gs)) :=
  PS_imp (ps_if hc ha hb) fun D σ H ⟨ρ, env, ah, re, rh, o⟩ => (tT_toS re rh o).mono fun k H1 ⟨ρ1, ah1, f, r, o1⟩ => by
    cases k with
    | true => exact iteT ⟨ρ1, env, ah1, re.mono f, r, o1⟩
    | false => exact iteF ⟨ρ1, env, ah1, re.mono f, r, o1⟩
theorem r_gname {i : Nat} {x : Str} (hN : X.N.Nodup) (hi : X.N[i]? = some x) (hx : Loc X.env.scope x) (hf : X.fn x = true ∨ X.env.scope.names.lookup x = some .local) : PG X (.Name x p) (tG (mdOf X) Wx (gSet i)) := by
  refine ⟨fun pins s σ H v u Q I r ⟨ρ, env, ah, w, re, rh, rw, o⟩ => ?_⟩
  exact (pg_name hN hi hx hf).run pins s σ H v u Q I r (o ρ _ H (Fr.refl _ _) (re.set rw) rh)
theorem r_gsnil : PGs X [] (tGs (mdOf X) Wx gsNil) := by
  refine ⟨fun pins s σ H vs us Q I r ⟨ρ, env, ah, ws, re, rh, rw, o⟩ => ?_⟩
  unfold gsNil at o
  split at o
  · rw [RWs] at rw
    exact pgs_nil.run pins s σ H vs us Q I r ⟨rw, o ρ _ H (Fr.refl _ _) re rh⟩
  · exact o.elim
theorem r_gscons {g : DG} {gr : DGs} (h1 : PG X e (tG (mdOf X) Wx g)) (h2 : PGs X es (tGs (mdOf X) Wx gr)) (hn : ∀ w env h, OnlyNx (g w env h)) (hs : (assignEach (e :: es) X.env).map (·.2) = assign e X.env :: (assignEach es X.env).map (·.2)) : PGs X (e :: es) (tGs (mdOf X) Wx (gsCons g gr)) := by
  refine ⟨fun pins s σ H vs us Q I r ⟨ρ, env, ah, ws, re, rh, rw, o⟩ => ?_⟩
  unfold gsCons at o
  split at o
  · rename_i w wr
    rw [RWs] at rw
    obtain ⟨v, vr, rfl, rw1, rw2⟩ := rw
    refine (pgs_cons h1 h2 hs).run pins s σ H _ us Q I r ⟨v, vr, rfl, ρ, env, ah, w, re, rh, rw1, ?_⟩
    have hn' := hn w env ah
    generalize g w env ah = q at o hn'
    cases q with
    | nx env1 h1 => exact fun ρ' σ' H' f re' rh' => ⟨ρ', env1, h1, wr, re', rh', RWs.mono f _ _ rw2, SOut.frame f o⟩
    | stuck => exact o
    | _ => exact hn'.elim
  · exact o.elim
theorem r_gtup {k n : Nat} {gr : DGs} (hc : X.calm = true) (h : PGs X es (tGs (mdOf X) Wx gr)) (hl : ∀ (M : Md) ρ H ws vs env ah Q, RWs M ρ H ws vs → SOut M Wx ρ H (gr ws env ah) Q → ws.length = n) (hn : (assignEach es X.env).length = n) (hst : (assignEach es X.env).findIdx? (·.1) = none) : PG X (.Tuple es k p) (tG (mdOf X) Wx (gTupW gr)) := by
  refine ⟨fun pins s σ H v u Q I r ⟨ρ, env, ah, w, re, rh, rw, o⟩ => ?_⟩
  unfold gTupW at o
  split at o
  · have rw' := rw
    rw [RW] at rw'
    obtain ⟨a, vs, rfl, h1, h2⟩ := rw'
    exact (pg_tup hc h hn hst).run pins s σ H _ u Q I r ⟨a, vs, rfl, h1.sq, by rw [h2.length]; exact hl _ _ _ _ _ _ _ _ h2 o, ρ, env, ah, _, re, rh, h2, o⟩
  · exact o.elim
theorem r_asg {tg : Expr} {g : DG} (he : PE X e (tE (mdOf X) Wx fa)) (hg : PG X tg (tG (mdOf X) Wx g)) (hn : ∀ w env h, OnlyNx (g w env h)) (hs : swapsWithSole [tg] e p.line X.env = pure false) (hw : swappedStores [tg] e X.env = pure none) (h1 : (assignEach [tg] X.env).map (·.2) = [assign tg X.env]) :
    PS X (.Assign [tg] e p) (tS (mdOf X) Wx (sAsg fa g)) :=
  PS_imp (ps_asg he hg hs hw h1) fun D σ H ⟨ρ, env, ah, re, rh, o⟩ => (tE_toS re rh o).mono fun v H1 ⟨ρ1, ah1, w, f, r, rw, o1⟩ => by
    refine ⟨ρ1, env, ah1, w, re.mono f, r, rw, ?_⟩
    have hn' := hn w env ah1
    generalize g w env ah1 = q at o1 hn'
    cases q with
    | nx env1 h1 => exact o1
    | stuck => exact o1
    | _ => exact hn'.elim
end
end Dn
end
section
set_option Elab.async false
set_option linter.all false
set_option maxRecDepth 100000
set_option maxHeartbeats 4000000
namespace Dn
open PySem PySem.Spec PyProof.Rows L2

/-! ### what is walked -/
mutual
def W.beq : W → W → Bool
  | .non, .non => true
  | .bl a, .bl b => a == b
  | .int a, .int b => decide (a = b)
  | .str a, .str b => decide (a = b)
  | .tup a, .tup b => W.beqs a b
  | .lst a, .lst b => W.beqs a b
  | .dct a c, .dct b d => W.beqs a b && W.beqs c d
  | .ref a, .ref b => a == b
  | .glo a, .glo b => decide (a = b)
  | .scr a, .scr b => W.beqs a b
  | .erx a, .erx b => decide (a = b)
  | .err a c, .err b d => decide (a = b) && W.beqs c d
  | .any, .any => true
  | _, _ => false
def W.beqs : List W → List W → Bool
  | [], [] => true
  | a :: as, b :: bs => W.beq a b && W.beqs as bs
  | _, _ => false
end
mutual
@[simp] theorem W.beq_self : ∀ a : W, W.beq a a = true
  | .non => rfl
  | .bl a => by simp [W.beq]
  | .int a => by simp [W.beq]
  | .str a => by simp [W.beq]
  | .tup a => by rw [W.beq]; exact W.beqs_self a
  | .lst a => by rw [W.beq]; exact W.beqs_self a
  | .dct a c => by rw [W.beq, W.beqs_self a, W.beqs_self c]; rfl
  | .ref a => by simp [W.beq]
  | .glo a => by simp [W.beq]
  | .scr a => by rw [W.beq]; exact W.beqs_self a
  | .erx a => by simp [W.beq]
  | .err a c => by rw [W.beq, W.beqs_self c]; simp
  | .any => rfl
@[simp] theorem W.beqs_self : ∀ a : List W, W.beqs a a = true
  | [] => rfl
  | a :: as => by rw [W.beqs, W.beq_self a, W.beqs_self as]; rfl
end
mutual
theorem W.eq_of_beq : ∀ a b : W, W.beq a b = true → a = b
  | .non, b, h => by cases b <;> simp [W.beq] at h <;> rfl
  | .bl a, b, h => by cases b <;> simp [W.beq] at h; rw [h]
  | .int a, b, h => by cases b <;> simp [W.beq] at h; rw [h]
  | .str a, b, h => by cases b <;> simp [W.beq] at h; rw [h]
  | .tup a, b, h => by cases b <;> simp [W.beq] at h; rw [W.eq_of_beqs a _ h]
  | .lst a, b, h => by cases b <;> simp [W.beq] at h; rw [W.eq_of_beqs a _ h]
  | .dct a c, b, h => by cases b <;> simp [W.beq] at h; rw [W.eq_of_beqs a _ h.1, W.eq_of_beqs c _ h.2]
  | .ref a, b, h => by cases b <;> simp [W.beq] at h; rw [h]
  | .glo a, b, h => by cases b <;> simp [W.beq] at h; rw [h]
  | .scr a, b, h => by cases b <;> simp [W.beq] at h; rw [W.eq_of_beqs a _ h]
  | .erx a, b, h => by cases b <;> simp [W.beq] at h; rw [h]
  | .err a c, b, h => by cases b <;> simp [W.beq] at h; rw [h.1, W.eq_of_beqs c _ h.2]
  | .any, b, h => by cases b <;> simp [W.beq] at h <;> rfl
theorem W.eq_of_beqs : ∀ a b : List W, W.beqs a b = true → a = b
  | [], b, h => by cases b <;> simp [W.beqs] at h <;> rfl
  | a :: as, b, h => by
    cases b with
    | nil => simp [W.beqs] at h
    | cons b bs => simp [W.beqs] at h; rw [W.eq_of_beq a b h.1, W.eq_of_beqs as bs h.2]
end
/-- the items, and what must still stand at each turn -/
structure Src where
  items : List W
  chk : AH → Bool
  /-- the items are pairs that nobody holds -/
  raw : Bool := false
def chkT : AH → Bool := fun _ => true
def chkL (n : Nat) (xs : List W) : AH → Bool := fun h => match h[n]? with
  | some (.lst ys) => W.beqs ys xs
  | _ => false
abbrev DI := Env → AH → Res Src
/-- what comes at a turn -/
def YR (M : Md) (raw : Bool) (ρ : Rho) (H : Hp) (w : W) (v : V) : Prop := match raw with
  | false => RW M ρ H w v
  | true => ∃ ws T vs, w = .tup ws ∧ v = .ref T ∧ SqT M.K H T vs ∧ RWs M ρ H ws vs
/-- what an iterator of the layer does at a turn -/
theorem Fr0.trans {ρ ρ1 ρ2 : Rho} {H H1 H2 : Hp} (a : Fr0 ρ H ρ1 H1) (b : Fr0 ρ1 H1 ρ2 H2) : Fr0 ρ H ρ2 H2 where
  keepA := fun {x o} h hn => by
    have hn1 : x ∉ ρ1.all := fun hm => (a.new _ hm).elim hn fun e => by rw [e] at h; cases h
    rcases a.keepA h hn with q | ⟨d, od, q⟩
    · exact b.keepA q hn1
    · exact .inr ⟨d, od, (b.keepA q hn1).exact fun z => z.elim⟩
  new := fun x hx => by
    by_cases hm : x ∈ ρ.all
    · exact .inl hm
    · refine .inr ?_
      rcases b.new x hx with z | z
      · exact (a.new x z).resolve_left hm
      · cases q : H x with
        | none => rfl
        | some o =>
          exact absurd z (a.keepA q hm).ne
  pre := fun n x h => b.pre n x (a.pre n x h)
  frzs := fun x od u h => b.frzs x od u (a.frzs x od u h)
def ItOk (M : Md) (ρ : Rho) (H : Hp) (src : Src) (J : It) : Prop :=
  ∀ ρ' H' ah', Fr0 ρ H ρ' H' → RelH M ρ' H' ah' → src.chk ah' = true → ∀ i,
    (src.items.length = i → J.stop i H') ∧
    (∀ w, src.items[i]? = some w → J.go i H' ∧ ∀ v H'', J.yld i H' v H'' → Fr ρ' H' ρ' H'' ∧ RelH M ρ' H'' ah' ∧ YR M src.raw ρ' H'' w v)
def tI (M : Md) (Wx : WX) (f : DI) : TI := fun σ H R => ∃ ρ env ah, REnv M ρ H env σ ∧ RelH M ρ H ah ∧ OutG M (ItOk M) ρ H (f env ah) R (WE Wx σ)
/-- the items of a list, a tuple, a text -/
def srcOf (h : AH) (w : W) : Option Src := match w with
  | .tup xs => some { items := xs, chk := chkT }
  | .lst xs => some { items := xs, chk := chkT }
  | .str z => some { items := z.cps.toList.map fun c => .str ⟨#[c]⟩, chk := chkT }
  | .ref n => match h[n]? with
    | some (.lst xs) => some { items := xs, chk := chkL n xs }
    | _ => none
  | _ => none
def iE (a : DE) : DI := fun env h => (a env h).bind fun w h1 => ofO (srcOf h1 w) h1
def iRg (a : DA) : DI := fun env h => (a env h).bind fun ws h1 => match rgArgs ws with
  | some (i, j) => if rgOk i j = true then .ok { items := rgW i j, chk := chkT } h1 else .stuck
  | none => .stuck
theorem itOk_list {M : Md} {ρ : Rho} {H : Hp} {a : Addr} {ws : List W} {vs : List V} {chk : AH → Bool} (h : ∀ ρ' H' ah', Fr0 ρ H ρ' H' → RelH M ρ' H' ah' → chk ah' = true → ∃ vs', SqL M.K H' a vs' ∧ RWs M ρ' H' ws vs' ∧ ∀ ys, SqL M.K H' a ys → ys = vs') : ItOk M ρ H { items := ws, chk := chk } (Itl M.K a) := by
  intro ρ' H' ah' f R hc i
  obtain ⟨vs', h1, h2, h3⟩ := h ρ' H' ah' f R hc
  refine ⟨fun hi => ⟨vs', h1, by rw [h2.length]; exact Nat.le_of_eq hi⟩, fun w e => ?_⟩
  obtain ⟨v, ev, rv⟩ := h2.get e
  refine ⟨⟨vs', v, h1, ev⟩, fun v' H'' ⟨e', hy⟩ => ?_⟩
  subst e'
  have := hy vs' h1
  rw [ev] at this
  cases this
  exact ⟨Fr.refl _ _, R, rv⟩
theorem sqL_tr {K : PySem.W.Frag} {H : Hp} {a : Addr} {vs ys : List V} (h : H a = some (.lst vs)) (hk : K.lookup a = none ∨ True) (hs : SqL K H a ys) (nk : K.lookup a = none) : ys = vs := by
  rcases hs with (e | ⟨o, e⟩) | ⟨o, its, n, e, _⟩
  · rw [h] at e; cases e; rfl
  · rw [h] at e; cases e
  · rw [nk] at e; cases e
section
variable {X : Cx} {Wx : WX} {tg e : Expr} {es : List Expr} {p pos : Pos} {fe : DE} {fs : DA}
theorem noK_of {pins : List (Addr × Obj)} {σ : L2.St} {H : Hp} {s : Shared} {a : Addr} (I : Inv X pins σ H s) (h : H a ≠ none) : X.K.lookup a = none := by
  cases q : X.K.lookup a with
  | none => rfl
  | some o => exact absurd (I.bs a o (I.ok.mod.kin a o q)).2 h
theorem tup_K {M : Md} {ρ : Rho} {H : Hp} {a : Addr} {vs ys : List V} (h : TupAt M ρ H a vs) (nk : M.K.lookup a = none) (hs : SqT M.K H a ys) : ys = vs := by
  obtain ⟨⟨o, h1, _⟩, _⟩ := h
  rcases hs with (e | ⟨o', e⟩) | ⟨o', its, n, e, _⟩
  · rw [h1] at e; cases e
  · rw [h1] at e; cases e; rfl
  · rw [nk] at e; cases e
/-- for .. in a list, a tuple, a text -/
theorem r_iE (he : PE X e (tE (mdOf X) Wx fe)) : PI X tg e (tI (mdOf X) Wx (iE fe)) := by
  refine ⟨fun pins s σ H R I ⟨ρ, env, ah, re, rh, o⟩ => ?_⟩
  refine thn (he.run pins s σ H _ I (tE_then re rh o)) fun v s1 ⟨x, H1, I1, r1, ρ1, ah1, w, f1, rh1, rw1, o1⟩ => ?_
  generalize hs : srcOf ah1 w = sr at o1
  cases sr with
  | none => exact o1.elim
  | some src =>
    have lay : ∀ (a : Addr) (vs : List V), SqL X.K H1 a vs → ItOk (mdOf X) ρ1 H1 src (Itl X.K a) → x = .ref a → wpAny (model X.prog X.w) X.A (pyIter v) (PIE X pins σ tg R) X.xe s1 := fun a vs hq hi ex => by
      subst ex
      have e1 : v = .ref a := r1
      subst e1
      obtain ⟨its, rv, p, hz⟩ := I1.list hq
      refine wpAny_pyIter_list p.isList ?_
      refine ⟨s1.heap.objs.size, [s1.heap.objs.size], _, Itl X.K a, H1, rfl, I1.kept (t' := s1.toks) fun b o e => Heap.get?_push_of_some _ e, turn_list a _, ⟨_, Heap.get?_push_size _ rfl, rfl, rfl⟩, fun b hb => ?_, o1 ρ1 _ H1 (Fr.refl _ _) rh1 hi⟩
      obtain rfl : b = s1.heap.objs.size := by simpa using hb
      exact I1.fpOk (Nat.le_refl _) (I1.hok.fresh (Nat.le_refl _))
    unfold srcOf at hs
    split at hs
    · cases hs
      have rw1' := rw1
      rw [RW] at rw1'
      obtain ⟨a, vs, rfl, h1, h2⟩ := rw1'
      have e1 : v = .ref a := r1
      subst e1
      obtain ⟨its, rv, p, hz⟩ := I1.tuple h1.sq
      have nk : X.K.lookup a = none := noK_of I1 (by obtain ⟨⟨o, q, _⟩, _⟩ := h1; rw [q]; exact fun z => nomatch z)
      refine wpAny_pyIter_tuple (show s1.heap.IsTuple a its.toArray from p) ?_
      refine ⟨s1.heap.objs.size, [s1.heap.objs.size], _, Itt X.K a, H1, rfl, I1.kept (t' := s1.toks) fun b o e => Heap.get?_push_of_some _ e, turn_tuple a _, ⟨_, Heap.get?_push_size _ rfl, rfl, rfl⟩, fun b hb => ?_, o1 ρ1 _ H1 (Fr.refl _ _) rh1 fun ρ' H' ah' f R' hc i => ?_⟩
      · obtain rfl : b = s1.heap.objs.size := by simpa using hb
        exact I1.fpOk (Nat.le_refl _) (I1.hok.fresh (Nat.le_refl _))
      · have h1' := h1.mono0 f
        have h2' := RWs.mono0 f _ _ h2
        refine ⟨fun hi => ⟨vs, h1'.sq, by rw [h2.length]; exact Nat.le_of_eq hi⟩, fun w e => ?_⟩
        obtain ⟨v, ev, rv⟩ := h2'.get e
        refine ⟨⟨vs, v, h1'.sq, ev⟩, fun v' H'' ⟨e', hy⟩ => ?_⟩
        subst e'
        have := hy vs h1'.sq
        rw [ev] at this
        cases this
        exact ⟨Fr.refl _ _, R', rv⟩
    · cases hs
      have rw1' := rw1
      rw [RW] at rw1'
      obtain ⟨a, vs, rfl, h1, h2⟩ := rw1'
      have nk : X.K.lookup a = none := noK_of I1 (by rw [h1.1]; exact fun z => nomatch z)
      refine lay a vs h1.sq (itOk_list (vs := vs) fun ρ' H' ah' f R' _ => ⟨vs, (h1.mono0 f).sq, RWs.mono0 f _ _ h2, fun ys hy => sqL_tr (h1.mono0 f).1 (.inr trivial) hy nk⟩) rfl
    · cases hs
      rename_i z
      rw [RW] at rw1
      subst rw1
      obtain ⟨t, rfl⟩ := r1
      have q := o1 ρ1 (Its z) H1 (Fr.refl _ _) rh1 fun ρ' H' ah' f R' hc i => by
        refine ⟨fun hi => ?_, fun w e => ?_⟩
        · show z.cps.size ≤ i
          exact Nat.le_of_eq (by simpa using hi)
        · obtain ⟨c, hc', rfl⟩ := List.getElem?_map .. ▸ e |> Option.map_eq_some_iff.mp
          have hi : z.cps[i]? = some c := by rw [← Array.getElem?_toList]; exact hc'
          refine ⟨(Array.getElem?_eq_some_iff.mp hi).1, fun v' H'' ⟨e', c', h1, h2⟩ => ?_⟩
          subst e'
          rw [hi] at h1
          cases h1
          exact ⟨Fr.refl _ _, R', by show RW _ _ _ _ _; rw [RW]; exact h2⟩
      cases ha : z.cps.all (· < 128)
      · exact wpAny_pyIter_wide ha (pi_one (tk := s1.toks) I1 _ (turn_str _ z t "str_iterator" (.inr rfl)) ⟨_, Heap.get?_push_size _ rfl, rfl, rfl⟩ q)
      · exact wpAny_pyIter_ascii ha (pi_one (tk := s1.toks) I1 _ (turn_str _ z t "str_ascii_iterator" (.inl rfl)) ⟨_, Heap.get?_push_size _ rfl, rfl, rfl⟩ q)
    · split at hs
      · rename_i q
        cases hs
        have rw1' := rw1
        rw [RW] at rw1'
        obtain ⟨a, rfl, h1⟩ := rw1'
        obtain ⟨vs, h2, h3⟩ := rh1.cell _ a _ h1 q
        have nk : X.K.lookup a = none := noK_of I1 (by rw [h2]; exact fun z => nomatch z)
        refine lay a vs (SqL.of h2) (itOk_list (vs := vs) fun ρ' H' ah' f R' hc => ?_) rfl
        unfold chkL at hc
        split at hc
        · rename_i q'
          obtain ⟨vs', h2', h3'⟩ := R'.cell _ a _ (f.pre _ _ h1) q'
          rw [W.eq_of_beqs _ _ hc] at h3'
          exact ⟨vs', SqL.of h2', h3', fun ys hy => sqL_tr h2' (.inr trivial) hy nk⟩
        · cases hc
      · cases hs
    · cases hs
/-- for .. in range(..) -/
theorem r_iRg (hr : X.mg "range" = none) (hg : Gl X "range") (ha : PA X es (tA (mdOf X) Wx fs)) (hs : noStar es = true) (hne : es.length = 1 ∨ es.length = 2) : PI X tg (.Call (.Name "range" p) es [] pos) (tI (mdOf X) Wx (iRg fs)) := by
  refine ⟨fun pins s σ H R I ⟨ρ, env, ah, re, rh, o⟩ => ?_⟩
  have fin : ∀ (i j : Int) (H1 : Hp) (ρ1 : Rho) (ah1 : AH), RelH (mdOf X) ρ1 H1 ah1 → OutG (mdOf X) (ItOk (mdOf X)) ρ1 H1 (.ok { items := rgW i j, chk := chkT } ah1) R (WE Wx σ) → R (Itr i (j - i).toNat) H1 := fun i j H1 ρ1 ah1 rh1 o1 =>
    o1 ρ1 _ H1 (Fr.refl _ _) rh1 fun ρ' H' ah' f R' hc k => by
      refine ⟨fun hi => ?_, fun w e => ?_⟩
      · show (j - i).toNat ≤ k
        exact Nat.le_of_eq (by simpa [rgW] using hi)
      · unfold rgW at e
        rw [List.getElem?_map] at e
        obtain ⟨m, hm, rfl⟩ := Option.map_eq_some_iff.mp e
        have hk : k < (j - i).toNat := by simpa using (List.getElem?_eq_some_iff.mp hm).1
        have : m = k := by
          rw [List.getElem?_range hk] at hm
          cases hm; rfl
        subst this
        refine ⟨hk, fun v' H'' ⟨e', h2⟩ => ?_⟩
        subst e'
        exact ⟨Fr.refl _ _, R', by show RW _ _ _ _ _; rw [RW]; exact h2⟩
  have red : ∀ vs H1, (∃ ρ1 ah1 w, Fr ρ H ρ1 H1 ∧ RelH (mdOf X) ρ1 H1 ah1 ∧ RWs (mdOf X) ρ1 H1 w vs ∧ OutG (mdOf X) (ItOk (mdOf X)) ρ1 H1 (match rgArgs w with
      | some (i, j) => if rgOk i j = true then .ok { items := rgW i j, chk := chkT } ah1 else .stuck
      | none => .stuck) R (WE Wx σ)) → ∃ i j, (vs = [.int j] ∧ i = 0 ∨ vs = [.int i, .int j]) ∧ RgOk i j ∧ R (Itr i (j - i).toNat) H1 := fun vs H1 ⟨ρ1, ah1, w1, f1, rh1, rw1, o1⟩ => by
    split at o1
    · rename_i i j hij
      split at o1
      · rename_i hk
        exact ⟨i, j, rgArgs_rw rw1 hij, rgOk_Ok hk, fin i j H1 ρ1 ah1 rh1 o1⟩
      · exact o1.elim
    · exact o1.elim
  have h0 := (tA_then re rh o).mono red
  refine Call_ (ld_blt I hg hr boot_range ?_)
  match es, hne with
  | [a], _ =>
    refine PyProof.Rows.callWith_type1 (thn (ha.run pos pins s σ H _ I h0) fun us s1 ⟨vs, H1, I1, r1, i, j, e, ⟨b1, b2, b3, b4, b5⟩, q⟩ => ?_) (noStar_cons hs _).1 (noStar_any (noStar_cons hs X.env).2 _ _)
    rcases e with ⟨rfl, rfl⟩ | rfl
    · obtain ⟨u, rfl, ⟨t, rfl⟩⟩ := r1.one
      exact call_range_1 (range_it I1 b1 b2 b3 b4 q)
    · obtain ⟨u, u2, rfl, ⟨t, rfl⟩, ⟨t2, rfl⟩⟩ := r1.two
      exact call_range_2 (range_it I1 b1 b2 b3 b4 q)
  | [a, b], _ =>
    refine PyProof.Rows.callWith_type1 (thn (ha.run pos pins s σ H _ I h0) fun us s1 ⟨vs, H1, I1, r1, i, j, e, ⟨b1, b2, b3, b4, b5⟩, q⟩ => ?_) (noStar_cons hs _).1 (noStar_any (noStar_cons hs X.env).2 _ _)
    rcases e with ⟨rfl, rfl⟩ | rfl
    · obtain ⟨u, rfl, ⟨t, rfl⟩⟩ := r1.one
      exact call_range_1 (range_it I1 b1 b2 b3 b4 q)
    · obtain ⟨u, u2, rfl, ⟨t, rfl⟩, ⟨t2, rfl⟩⟩ := r1.two
      exact call_range_2 (range_it I1 b1 b2 b3 b4 q)

/-! ### targets of a walk: a name, or some names for a tuple -/
inductive Tgt where
  | one (i : Nat) | tup (is : List Nat)
def setAll : List Nat → List W → Env → Env
  | i :: is, w :: ws, env => setAll is ws (env.set i (some w))
  | _, _, env => env
def Tgt.set (t : Tgt) (w : W) (env : Env) : Option Env := match t, w with
  | .one i, w => some (env.set i (some w))
  | .tup is, .tup ws => if ws.length = is.length then some (setAll is ws env) else none
  | _, _ => none
def Tgt.slots : Tgt → List Nat
  | .one i => [i]
  | .tup is => is
def Tgt.raw : Tgt → Bool
  | .one _ => false
  | .tup _ => true
def tgS : List Nat → TGs
  | [] => gNil
  | i :: is => gCons (gName i) (tgS is)
def tgR (K : PySem.W.Frag) : Tgt → TG
  | .one i => gName i
  | .tup is => gTup K is.length (tgS is)
theorem tgS_ok {M : Md} {ρ : Rho} {H : Hp} {Q : L2.St → Hp → Prop} : ∀ (is : List Nat) (ws : List W) (vs : List V) (env : Env) (σ : L2.St), ws.length = is.length → RWs M ρ H ws vs → REnv M ρ H env σ →
    (∀ σ', REnv M ρ H (setAll is ws env) σ' → (∀ ks : List Nat, (∀ i ∈ is, i ∈ ks) → wipe σ' ks = wipe σ ks) → Q σ' H) → tgS is vs σ H Q
  | [], ws, vs, env, σ, hl, r, re, q => by
    have e : ws = [] := List.length_eq_zero_iff.mp hl
    subst e
    rw [RWs] at r
    exact ⟨r, q σ re fun _ _ => rfl⟩
  | i :: is, ws, vs, env, σ, hl, r, re, q => by
    cases ws with
    | nil => cases hl
    | cons w ws =>
      rw [RWs] at r
      obtain ⟨v, vr, rfl, r1, r2⟩ := r
      refine ⟨v, vr, rfl, tgS_ok is ws vr _ _ (by simpa using hl) r2 (re.set r1) fun σ' re' hw => q σ' re' fun ks hk => ?_⟩
      rw [hw ks fun j hj => hk j (List.mem_cons_of_mem _ hj)]
      exact wipe_set (hk i List.mem_cons_self)
where
  wipe_set {σ : L2.St} {i : Nat} {x : Option V} : ∀ {ks : List Nat}, i ∈ ks → wipe (σ.set i x) ks = wipe σ ks
    | [], h => by cases h
    | k :: ks, h => by
      unfold wipe
      by_cases hi : i ∈ ks
      · rw [wipe_set hi]
      · have e : i = k := by
          rcases List.mem_cons.mp h with h | h
          · exact h
          · exact absurd h hi
        subst e
        have : ∀ {ks : List Nat}, i ∉ ks → wipe (σ.set i x) ks = (wipe σ ks).set i x := fun {ks} hk => by
          induction ks with
          | nil => rfl
          | cons k ks ih =>
            unfold wipe
            rw [ih fun z => hk (List.mem_cons_of_mem _ z), List.set_comm _ _ (fun z : i = k => hk (z ▸ List.mem_cons_self))]
        rw [this hi, List.set_set]
theorem wipe_set1 {σ : L2.St} {i : Nat} {x : Option V} {ks : List Nat} (h : i ∈ ks) : wipe (σ.set i x) ks = wipe σ ks := tgS_ok.wipe_set h
theorem tgR_ok {M : Md} {ρ : Rho} {H : Hp} {Q : L2.St → Hp → Prop} {t : Tgt} {w : W} {v : V} {raw : Bool} {env env' : Env} {σ : L2.St} (y : YR M raw ρ H w v) (hr : raw = true → t.raw = true) (e : t.set w env = some env') (re : REnv M ρ H env σ)
    (q : ∀ σ', REnv M ρ H env' σ' → (∀ ks : List Nat, (∀ i ∈ t.slots, i ∈ ks) → wipe σ' ks = wipe σ ks) → Q σ' H) : tgR M.K t v σ H Q := by
  unfold Tgt.set at e
  split at e
  · cases e
    cases raw with
    | true => cases hr rfl
    | false => exact q _ (re.set y) fun ks hk => wipe_set1 (hk _ List.mem_cons_self)
  · split at e
    · rename_i ws hl
      cases e
      have y' : ∃ T vs, v = .ref T ∧ SqT M.K H T vs ∧ RWs M ρ H ws vs := by
        cases raw with
        | true =>
          obtain ⟨ws', T, vs, e1, e2, e3, e4⟩ := y
          cases e1
          exact ⟨T, vs, e2, e3, e4⟩
        | false =>
          have y : RW M ρ H (.tup ws) v := y
          rw [RW] at y
          obtain ⟨a, vs, e1, h1, h2⟩ := y
          exact ⟨a, vs, e1, h1.sq, h2⟩
      obtain ⟨T, vs, e1, h1, h2⟩ := y'
      exact ⟨T, vs, e1, h1, by rw [h2.length]; exact hl, tgS_ok _ _ _ _ _ hl h2 re q⟩
    · cases e
  · cases e

/-! ### for -/
def forL (t : Tgt) (body : DS) (chk : AH → Bool) : List W → Env → AH → SRes
  | [], env, h => .nx env h
  | x :: xs, env, h => match t.set x env with
    | none => .stuck
    | some env1 => match body env1 h with
      | .nx env' h' => if chk h' = true then forL t body chk xs env' h' else .stuck
      | .ct env' h' => if chk h' = true then forL t body chk xs env' h' else .stuck
      | .brk env' h' => .nx env' h'
      | .ret w h' => .ret w h'
      | .exc c env' h' => .exc c env' h'
      | .stuck => .stuck
/-- what a walk may begin with -/
def okSrc (t : Tgt) (src : Src) (h : AH) : Bool := src.chk h && (!src.raw || t.raw)
def sFor (i : DI) (t : Tgt) (body : DS) : DS := fun env h => (i env h).toS env fun src h1 => if okSrc t src h1 = true then forL t body src.chk src.items env h1 else .stuck
theorem okSrc_iff {t : Tgt} {src : Src} {h : AH} (e : okSrc t src h = true) : src.chk h = true ∧ (src.raw = true → t.raw = true) := by
  unfold okSrc at e
  rw [Bool.and_eq_true] at e
  refine ⟨e.1, fun z => ?_⟩
  have := e.2
  rw [z] at this
  simpa using this
theorem tI_toS {M : Md} {σ : L2.St} {H : Hp} {ρ : Rho} {env : Env} {ah : AH} {D : Ends} {fi : DI} {k : Src → AH → SRes} (re : REnv M ρ H env σ) (rh : RelH M ρ H ah) (o : SOut M Wx ρ H ((fi env ah).toS env k) D) :
    tI M Wx fi σ H fun J H1 => ∃ ρ1 ah1 src, Fr ρ H ρ1 H1 ∧ RelH M ρ1 H1 ah1 ∧ ItOk M ρ1 H1 src J ∧ SOut M Wx ρ1 H1 (k src ah1) D := by
  refine ⟨ρ, env, ah, re, rh, ?_⟩
  generalize fi env ah = r at o
  cases r with
  | ok w a => exact fun ρ1 v H1 f r1 rw1 => ⟨ρ1, a, w, f, r1, rw1, SOut.frame f o⟩
  | exc c a => exact fun ρ' H' f r => o ρ' σ H' f (re.mono f) r
  | stuck => exact o
theorem tI_then {M : Md} {σ : L2.St} {H : Hp} {ρ : Rho} {env : Env} {ah : AH} {α β : Type} {R : Rho → Hp → α → β → Prop} {Q : β → Hp → Prop} {fi : DI} {k : Src → AH → Res α} (re : REnv M ρ H env σ) (rh : RelH M ρ H ah) (o : OutG M R ρ H ((fi env ah).bind k) Q (WE Wx σ)) :
    tI M Wx fi σ H fun J H1 => ∃ ρ1 ah1 src, Fr ρ H ρ1 H1 ∧ RelH M ρ1 H1 ah1 ∧ ItOk M ρ1 H1 src J ∧ OutG M R ρ1 H1 (k src ah1) Q (WE Wx σ) := by
  refine ⟨ρ, env, ah, re, rh, ?_⟩
  generalize fi env ah = r at o
  cases r with
  | ok w a => exact fun ρ1 v H1 f r1 rw1 => ⟨ρ1, a, w, f, r1, rw1, OutG.frame f o⟩
  | exc c a => exact o
  | stuck => exact o
theorem ItOk.mono {M : Md} {ρ ρ1 : Rho} {H H1 : Hp} {src : Src} {J : It} (f : Fr ρ H ρ1 H1) (h : ItOk M ρ H src J) : ItOk M ρ1 H1 src J := fun ρ' H' ah' f' => h ρ' H' ah' (f.weak.trans f')
theorem tI.mono {M : Md} {σ : L2.St} {H : Hp} {f : DI} {R R' : It → Hp → Prop} (h : tI M Wx f σ H R) (hq : ∀ v H', R v H' → R' v H') : tI M Wx f σ H R' :=
  let ⟨ρ, env, ah, re, rh, o⟩ := h; ⟨ρ, env, ah, re, rh, o.mono hq⟩
/-- a loop's invariant: what is left to be done of the walk -/
theorem for_reading {M : Md} {fi : DI} {t : Tgt} {body : DS} {D : Ends} {σ : L2.St} {H : Hp} (h : tS M Wx (sFor fi t body) D σ H) : tFor (tI M Wx fi) (tgR M.K t) (tS M Wx body) D σ H := by
  obtain ⟨ρ, env, ah, re, rh, o⟩ := h
  refine (tI_toS re rh o).mono fun J H1 ⟨ρ1, ah1, src, f1, rh1, it, o1⟩ => ?_
  have hc : okSrc t src ah1 = true := by
    by_cases hc : okSrc t src ah1 = true
    · exact hc
    · rw [if_neg hc] at o1
      exact o1.elim
  rw [if_pos hc] at o1
  obtain ⟨hc, hraw⟩ := okSrc_iff hc
  obtain ⟨items, chk, raw⟩ := src
  refine ⟨fun i m σ' H' => m = items.length - i ∧ i ≤ items.length ∧ ∃ ρ' env' ah', Fr ρ1 H1 ρ' H' ∧ REnv M ρ' H' env' σ' ∧ RelH M ρ' H' ah' ∧ chk ah' = true ∧ SOut M Wx ρ' H' (forL t body chk (items.drop i) env' ah') D,
    ⟨items.length, by simp, Nat.zero_le _, ρ1, env, ah1, Fr.refl _ _, re.mono f1, rh1, hc, o1⟩, ?_⟩
  rintro i m σ' H' ⟨rfl, hi, ρ', env', ah', f', re', rh', hc', o'⟩
  obtain ⟨stop, go⟩ := it ρ' H' ah' f'.weak rh' hc' i
  by_cases hlt : i < items.length
  · have hx : items[i]? = some items[i] := by simp [hlt]
    obtain ⟨hgo, hy⟩ := go _ hx
    refine .inr ⟨hgo, fun σ3 H3 => ∃ ρ3 env3 ah3, Fr ρ1 H1 ρ3 H3 ∧ REnv M ρ3 H3 env3 σ3 ∧ RelH M ρ3 H3 ah3 ∧ chk ah3 = true ∧ SOut M Wx ρ3 H3 (forL t body chk (items.drop (i + 1)) env3 ah3) D,
      fun σ3 H3 n3 => ⟨items.length - (i + 1), by omega, rfl, hlt, n3⟩, fun v H2 yv => ?_⟩
    obtain ⟨f2, rh2, rv⟩ := hy v H2 yv
    rw [List.drop_eq_getElem_cons hlt, forL] at o'
    generalize hg : t.set items[i] env' = q at o'
    cases q with
    | none => exact o'.elim
    | some env4 =>
      refine tgR_ok rv hraw hg (re'.mono f2) fun σ4 re4 _ => ?_
      refine ⟨ρ', env4, ah', re4, rh2, ?_⟩
      have f02 := f'.trans f2
      have o4 := SOut.frame f2 o'
      simp only at o4
      generalize body env4 ah' = q at o4
      cases q with
      | nx env5 h5 =>
        intro ρ5 σ5 H5 f5 re5 rh5
        by_cases hc5 : chk h5 = true
        · simp only [hc5, if_true] at o4
          exact ⟨ρ5, env5, h5, f02.trans f5, re5, rh5, hc5, SOut.frame f5 o4⟩
        · simp only [hc5] at o4
          exact o4.elim
      | ct env5 h5 =>
        intro ρ5 σ5 H5 f5 re5 rh5
        by_cases hc5 : chk h5 = true
        · simp only [hc5, if_true] at o4
          exact ⟨ρ5, env5, h5, f02.trans f5, re5, rh5, hc5, SOut.frame f5 o4⟩
        · simp only [hc5] at o4
          exact o4.elim
      | brk env5 h5 => exact o4
      | ret w h5 => exact o4
      | exc c env5 h5 => exact o4
      | stuck => exact o4
  · have e : i = items.length := by omega
    subst e
    rw [List.drop_length, forL] at o'
    exact .inl ⟨stop rfl, o' ρ' σ' H' (Fr.refl _ _) re' rh'⟩
theorem r_for {iter : Expr} {body : List Stmt} {fi : DI} {t : Tgt} {fb : DS} (hp : PassesOwn (model X.prog X.w) X.A X.env X.xe) (hc : X.calm = true) (hi : PI X tg iter (tI (mdOf X) Wx fi)) (hg : PG X tg (tgR X.K t)) (hb : PSs X body (tS (mdOf X) Wx fb))
    (hs : ∀ x, foldedSetIterable iter X.env x = pure x) : PS X (.For tg iter body [] pos) (tS (mdOf X) Wx (sFor fi t fb)) :=
  PS_imp (ps_for hp hc hi hg hb hs) fun D σ H h => for_reading h
/-! ### while, for at most so many turns -/
def whileL (c : DT) (body : DS) : Nat → Env → AH → SRes
  | 0, _, _ => .stuck
  | n + 1, env, h => (c env h).toS env fun k h1 => if k = true then match body env h1 with
      | .nx env' h' => whileL c body n env' h'
      | .ct env' h' => whileL c body n env' h'
      | .brk env' h' => .nx env' h'
      | .ret w h' => .ret w h'
      | .exc c env' h' => .exc c env' h'
      | .stuck => .stuck
    else .nx env h1
def turns : Nat := 5000
def sWhile (c : DT) (body : DS) : DS := fun env h => whileL c body turns env h
theorem r_while {c : Expr} {body : List Stmt} {fc : DT} {fb : DS} (hp : PassesOwn (model X.prog X.w) X.A X.env X.xe) (hc : PT X c (tT (mdOf X) Wx fc)) (hb : PSs X body (tS (mdOf X) Wx fb)) : PS X (.While c body [] pos) (tS (mdOf X) Wx (sWhile fc fb)) :=
  PS_imp (ps_while hp hc hb) fun D σ H ⟨ρ, env, ah, re, rh, o⟩ => by
    refine ⟨fun m σ' H' => ∃ ρ' env' ah', REnv (mdOf X) ρ' H' env' σ' ∧ RelH (mdOf X) ρ' H' ah' ∧ SOut (mdOf X) Wx ρ' H' (whileL fc fb m env' ah') D, ⟨turns, ρ, env, ah, re, rh, o⟩, ?_⟩
    rintro m σ' H' ⟨ρ', env', ah', re', rh', o'⟩
    cases m with
    | zero => exact o'.elim
    | succ m =>
      rw [whileL] at o'
      refine (tT_toS re' rh' o').mono fun k H1 ⟨ρ1, ah1, f1, rh1, o1⟩ => ?_
      cases k with
      | false => exact iteF (o1 ρ1 σ' H1 (Fr.refl _ _) (re'.mono f1) rh1)
      | true =>
        refine iteT ⟨fun σ3 H3 => ∃ ρ3 env3 ah3, REnv (mdOf X) ρ3 H3 env3 σ3 ∧ RelH (mdOf X) ρ3 H3 ah3 ∧ SOut (mdOf X) Wx ρ3 H3 (whileL fc fb m env3 ah3) D, fun σ3 H3 n3 => ⟨m, Nat.lt_succ_self _, n3⟩, ρ1, env', ah1, re'.mono f1, rh1, ?_⟩
        rw [if_pos rfl] at o1
        generalize fb env' ah1 = q at o1
        cases q with
        | nx env5 h5 => exact fun ρ5 σ5 H5 f5 re5 rh5 => ⟨ρ5, env5, h5, re5, rh5, SOut.frame f5 o1⟩
        | ct env5 h5 => exact fun ρ5 σ5 H5 f5 re5 rh5 => ⟨ρ5, env5, h5, re5, rh5, SOut.frame f5 o1⟩
        | brk env5 h5 => exact o1
        | ret w h5 => exact o1
        | exc c env5 h5 => exact o1
        | stuck => exact o1
end
end Dn
end
section
set_option Elab.async false
set_option linter.all false
set_option maxRecDepth 100000
set_option maxHeartbeats 4000000
namespace Dn
open PySem PySem.Spec PyProof.Rows L2

/-! ### list comprehensions -/
def Res.bindN {α β : Type} (r : Res α) (f : α → AH → Res β) : Res β := match r with
  | .ok a h => f a h
  | _ => .stuck
@[simp] theorem Res.bindN_ok {α β : Type} (a : α) (h : AH) (f : α → AH → Res β) : (Res.ok a h).bindN f = f a h := rfl
@[simp] theorem Res.bindN_exc {α β : Type} (c : Str) (h : AH) (f : α → AH → Res β) : (Res.exc c h : Res α).bindN f = .stuck := rfl
@[simp] theorem Res.bindN_stuck {α β : Type} (f : α → AH → Res β) : (Res.stuck : Res α).bindN f = .stuck := rfl
def lcL (t : Tgt) (c : DT) (e : DE) (chk : AH → Bool) (env : Env) : List W → List W → AH → Res (List W)
  | [], acc, h => .ok acc h
  | x :: xs, acc, h => match t.set x env with
    | none => .stuck
    | some env1 => (c env1 h).bindN fun k h1 => if k = true then (e env1 h1).bindN fun y h2 => if (chk h2 && decide (acc.length < line)) = true then lcL t c e chk env xs (acc ++ [y]) h2 else .stuck
      else if chk h1 = true then lcL t c e chk env xs acc h1 else .stuck
def wipeE (env : Env) : List Nat → Env
  | [] => env
  | v :: vs => (wipeE env vs).set v none
def subL (a b : List Nat) : Bool := a.all fun i => b.contains i
def yesT : DT := fun _ h => .ok true h
def dLc (m : Bool) (i : DI) (t : Tgt) (c : DT) (e : DE) (vs : List Nat) : DE := fun env h => (i env h).bind fun src h1 => if (okSrc t src h1 && subL t.slots vs) = true then (lcL t c e src.chk (wipeE env vs) src.items [] h1).bind fun ys h2 => allocL m ys h2 else .stuck
theorem wipeE_some {env : Env} {i : Nat} {w : W} : ∀ {vs : List Nat}, (wipeE env vs)[i]? = some (some w) → env[i]? = some (some w) ∧ i ∉ vs
  | [], h => ⟨h, by simp⟩
  | v :: vs, h => by
    unfold wipeE at h
    by_cases hi : v = i
    · subst hi
      by_cases hv : v < (wipeE env vs).length
      · rw [List.getElem?_set_self hv] at h; cases h
      · rw [List.getElem?_eq_none (by rw [List.length_set]; omega)] at h; cases h
    · rw [List.getElem?_set_ne hi] at h
      obtain ⟨h1, h2⟩ := wipeE_some h
      refine ⟨h1, fun hm => ?_⟩
      rcases List.mem_cons.mp hm with e | e
      · exact hi e.symm
      · exact h2 e
theorem wipeE_length (env : Env) : ∀ vs : List Nat, (wipeE env vs).length = env.length
  | [] => rfl
  | v :: vs => by unfold wipeE; rw [List.length_set, wipeE_length env vs]
theorem REnv.wipe {M : Md} {ρ : Rho} {H : Hp} {env : Env} {σ : L2.St} (vs : List Nat) (h : REnv M ρ H env σ) : REnv M ρ H (wipeE env vs) (L2.wipe σ vs) :=
  ⟨by rw [wipe_length, wipeE_length]; exact h.len, fun i w e => by
    obtain ⟨h1, h2⟩ := wipeE_some e
    obtain ⟨v, q, r⟩ := h.at_ i w h1
    exact ⟨v, by rw [wipe_out h2]; exact q, r⟩⟩
theorem wipe_in {σ : L2.St} {i : Nat} : ∀ {vs : List Nat}, i ∈ vs → (L2.wipe σ vs)[i]? = if i < σ.length then some none else none
  | v :: vs, h => by
    unfold L2.wipe
    by_cases hi : v = i
    · subst hi
      by_cases hl : v < σ.length
      · rw [List.getElem?_set_self (by rw [wipe_length]; exact hl), if_pos hl]
      · rw [List.getElem?_eq_none (by rw [List.length_set, wipe_length]; omega), if_neg hl]
    · rw [List.getElem?_set_ne hi]
      exact wipe_in ((List.mem_cons.mp h).resolve_left fun e => hi e.symm)
theorem wipe_idem (σ : L2.St) (vs : List Nat) : L2.wipe (L2.wipe σ vs) vs = L2.wipe σ vs := by
  apply List.ext_getElem?
  intro i
  by_cases hi : i ∈ vs
  · rw [wipe_in hi, wipe_in hi, wipe_length]
  · rw [wipe_out hi]
section
variable {X : Cx} {Wx : WX} {tg iter elt : Expr} {ifs : List Expr} {pos : Pos}
abbrev noW : WX := fun _ _ _ _ => False
theorem lc_reading {M : Md} {m : Bool} {fi : DI} {t : Tgt} {c : DT} {e : DE} {vs : List Nat} {σ : L2.St} {H : Hp} {Q : VK} (h : tE M Wx (dLc m fi t c e vs) σ H Q) : tLc (tI M Wx fi) (tgR M.K t) (tT M noW c) (tE M noW e) vs σ H Q := by
  obtain ⟨ρ, env, ah, re, rh, o⟩ := h
  refine (tI_then re rh o).mono fun J H1 ⟨ρ1, ah1, src, f1, rh1, it, o1⟩ => ?_
  intro D hD
  have hcs : okSrc t src ah1 = true ∧ subL t.slots vs = true := by
    by_cases hc : (okSrc t src ah1 && subL t.slots vs) = true
    · exact Bool.and_eq_true_iff.mp hc
    · rw [if_neg hc] at o1
      exact o1.elim
  rw [if_pos (by rw [hcs.1, hcs.2]; rfl)] at o1
  obtain ⟨hc, hraw⟩ := okSrc_iff hcs.1
  have hsub : ∀ i ∈ t.slots, i ∈ vs := fun i hi => by simpa using List.all_eq_true.mp hcs.2 i hi
  obtain ⟨items, chk, raw⟩ := src
  have hDp : D ∉ ρ1.prot := fun z => rh1.fresh hD (Rho.mem_all.mpr (.inr z))
  have reW := (re.mono f1).wipe vs
  refine ⟨fun i k H' => k = items.length - i ∧ i ≤ items.length ∧ ∃ ρ' ah' acc av, Fr ρ1 H1 ρ' H' ∧ REnv M ρ' H' (wipeE env vs) (L2.wipe σ vs) ∧ RelH M ρ' H' ah' ∧ chk ah' = true ∧ D ∈ ρ'.prot ∧ H' D = some (.lst av) ∧ RWs M ρ' H' acc av ∧
      OutG M (RW M) ρ1 H1 ((lcL t c e chk (wipeE env vs) (items.drop i) acc ah').bind fun ys h2 => allocL m ys h2) Q (WE Wx σ),
    ⟨items.length, by simp, Nat.zero_le _, ρ1.hold D, ah1, [], [], Fr.holdNew hD, reW.mono (Fr.holdNew hD), rh1.holdNew hD, hc, List.mem_cons_self, upd_same, .nil, o1⟩, ?_⟩
  rintro i k H' ⟨rfl, hi, ρ', ah', acc, av, f', re', rh', hc', hp', hD', ra', o'⟩
  obtain ⟨stop, go⟩ := it ρ' H' ah' f'.weak rh' hc' i
  have hcell : ∀ {ρ2 : Rho} {H2 : Hp} {ah2 : AH}, Fr ρ' H' ρ2 H2 → RelH M ρ2 H2 ah2 → H2 D = some (.lst av) ∧ D ∈ ρ2.prot := fun f r =>
    ⟨(f.keep D _ hD' fun z => rh'.sep D z hp').exact fun z => z.elim, f.hold D hp'⟩
  by_cases hlt : i < items.length
  · have hx : items[i]? = some items[i] := by simp [hlt]
    obtain ⟨hgo, hy⟩ := go _ hx
    refine .inr ⟨hgo, fun H3 => i + 1 ≤ items.length ∧ ∃ ρ3 ah3 acc3 av3, Fr ρ1 H1 ρ3 H3 ∧ REnv M ρ3 H3 (wipeE env vs) (L2.wipe σ vs) ∧ RelH M ρ3 H3 ah3 ∧ chk ah3 = true ∧ D ∈ ρ3.prot ∧ H3 D = some (.lst av3) ∧ RWs M ρ3 H3 acc3 av3 ∧
      OutG M (RW M) ρ1 H1 ((lcL t c e chk (wipeE env vs) (items.drop (i + 1)) acc3 ah3).bind fun ys h2 => allocL m ys h2) Q (WE Wx σ), fun H3 n3 => ⟨items.length - (i + 1), by omega, rfl, n3⟩, fun v H2 yv => ?_⟩
    obtain ⟨f2, rh2, rv⟩ := hy v H2 yv
    rw [List.drop_eq_getElem_cons hlt, lcL] at o'
    generalize hg : t.set items[i] (wipeE env vs) = q at o'
    cases q with
    | none => exact o'.elim
    | some env4 =>
      refine tgR_ok rv hraw hg (re'.mono f2) fun σ4 re4 hw => ⟨by rw [hw vs hsub, wipe_idem], ?_⟩
      simp only at o'
      refine ⟨ρ', env4, ah', re4, rh2, ?_⟩
      generalize c env4 ah' = r at o'
      cases r with
      | exc _ _ => exact o'.elim
      | stuck => exact o'.elim
      | ok k h1 =>
        intro ρ3 b H3 f3 rh3 eb
        have eb : k = b := eb
        subst eb
        rw [Res.bindN_ok] at o'
        have f03 := (f'.trans f2).trans f3
        obtain ⟨d3, p3⟩ := hcell (f2.trans f3) rh3
        cases k with
        | false =>
          rw [if_neg Bool.false_ne_true] at o'
          refine iteF ⟨hlt, ρ3, h1, acc, av, f03, re'.mono (f2.trans f3), rh3, ?_⟩
          by_cases hc3 : chk h1 = true
          · rw [if_pos hc3] at o'
            exact ⟨hc3, p3, d3, RWs.mono (f2.trans f3) _ _ ra', o'⟩
          · rw [if_neg hc3] at o'
            exact o'.elim
        | true =>
          rw [if_pos rfl] at o'
          refine iteT ⟨ρ3, env4, h1, re4.mono f3, rh3, ?_⟩
          generalize e env4 h1 = r at o'
          cases r with
          | exc _ _ => exact o'.elim
          | stuck => exact o'.elim
          | ok y h2 =>
            intro ρ4 yv H4 f4 rh4 ry
            rw [Res.bindN_ok] at o'
            obtain ⟨d4, p4⟩ := hcell ((f2.trans f3).trans f4) rh4
            have ra4 := RWs.mono ((f2.trans f3).trans f4) _ _ ra'
            by_cases hc4 : (chk h2 && decide (acc.length < line)) = true
            · rw [if_pos hc4] at o'
              obtain ⟨hc4, hl4⟩ := Bool.and_eq_true_iff.mp hc4
              have hl4 : acc.length < line := of_decide_eq_true hl4
              have nfD : NoFz (H4 D) := NoFz.of d4 fun _ _ z => nomatch z
              have hld := Fr0.held (H := H4) (o := .lst (av ++ [yv])) p4 nfD
              refine ⟨av, d4, by rw [ra4.length, ← line_eq]; exact hl4, hlt, ρ4, h2, acc ++ [y], av ++ [yv], (f03.trans f4).late hD, ?_, rh4.held p4 nfD, hc4, p4, upd_same, RWs.mono0 hld _ _ (ra4.snoc ry), o'⟩
              exact (re'.mono ((f2.trans f3).trans f4)).mono0 hld
            · rw [if_neg hc4] at o'
              exact o'.elim
  · have e' : i = items.length := by omega
    subst e'
    rw [List.drop_length, lcL, Res.bind_ok] at o'
    refine .inl ⟨stop rfl, ?_⟩
    cases m with
    | false =>
      have o2 : ∀ ρ2 b H2, Fr ρ1 H1 ρ2 H2 → RelH M ρ2 H2 ah' → RW M ρ2 H2 (.lst acc) b → Q b H2 := o'
      refine o2 (ρ'.let_ D) (.ref D) H' (f'.let_ hDp) (rh'.let_ D) ?_
      rw [RW]
      refine ⟨D, av, rfl, ⟨hD', fun z => ?_⟩, RWs.mono0 (Fr0.let_ D) _ _ ra'⟩
      rcases Rho.mem_all.mp z with z | z
      · exact rh'.sep D z hp'
      · exact (Rho.mem_let.mp z).2 rfl
    | true =>
      have o2 : ∀ ρ2 b H2, Fr ρ1 H1 ρ2 H2 → RelH M ρ2 H2 (ah' ++ [.lst acc]) → RW M ρ2 H2 (.ref ah'.length) b → Q b H2 := o'
      refine o2 ((ρ'.let_ D).push D) (.ref D) H' (f'.adopt hD hDp) (rh'.adopt hp' ⟨av, hD', RWs.mono0 (Fr0.adopt hp') _ _ ra'⟩) ?_
      rw [RW]
      refine ⟨D, rfl, ?_⟩
      show (ρ'.cells ++ [D])[ah'.length]? = some D
      rw [← rh'.len]
      simp
theorem r_pts0 : PTs X [] (tT (mdOf X) Wx yesT) := ⟨fun pins s σ H Q I ⟨ρ, env, ah, re, rh, o⟩ => pts_nil.run pins s σ H Q I (o ρ true H (Fr.refl _ _) rh rfl)⟩
/-- the block of a comprehension -/
abbrev blkAt (X : Cx) (scope : Scope) (s : Shared) (H : Hp) (C : Addr) (cl : List (Str × Addr)) (fp : List Addr) : Cx := X.blk s H scope (compEnvC scope cl C X.env) fp
theorem r_lc {m : Bool} {fi : DI} {t : Tgt} {fc : DT} {fe : DE} {scope : Scope} {own : List (Str × Nat)} (hc : X.calm = true) (hN : X.N.Nodup) (hi : PI X tg iter (tI (mdOf X) Wx fi)) (ok : BlkOk X.N X.env.scope scope own)
    (hg : ∀ s H C cl fp, PG (blkAt X scope s H C cl fp) tg (tgR X.K t)) (ht : ∀ s H C cl fp, PTs (blkAt X scope s H C cl fp) ifs (tT (mdOf X) noW fc)) (he : ∀ s H C cl fp, PE (blkAt X scope s H C cl fp) elt (tE (mdOf X) noW fe)) (hs : ∀ x, foldedSetIterable iter X.env x = pure x) :
    PE X (.ListComp elt [⟨tg, iter, ifs, 0⟩] scope pos) (tE (mdOf X) Wx (dLc m fi t fc fe (own.map (·.2)))) :=
  PE_imp (pe_lc hc hN hi ok hg ht he hs) fun σ H Q h => lc_reading h
/-- name = [..] -/
theorem r_setLc {i : Nat} {y : Str} {py spos : Pos} {m : Bool} {fi : DI} {t : Tgt} {fc : DT} {fe : DE} {scope : Scope} {own : List (Str × Nat)} (hc : X.calm = true) (hN : X.N.Nodup) (hy : X.N[i]? = some y) (hyl : X.env.scope.names.lookup y = some .local)
    (hsw : swapsWith (.ListComp elt [⟨tg, iter, ifs, 0⟩] scope pos) (some (.Name y py)) spos.line X.env = pure true) (hi : PI X tg iter (tI (mdOf X) Wx fi)) (ok : BlkOk X.N X.env.scope scope own)
    (hg : ∀ s H C cl fp, PG (blkAt X scope s H C cl fp) tg (tgR X.K t)) (ht : ∀ s H C cl fp, PTs (blkAt X scope s H C cl fp) ifs (tT (mdOf X) noW fc)) (he : ∀ s H C cl fp, PE (blkAt X scope s H C cl fp) elt (tE (mdOf X) noW fe)) (hs : ∀ x, foldedSetIterable iter X.env x = pure x) :
    PS X (.Assign [.Name y py] (.ListComp elt [⟨tg, iter, ifs, 0⟩] scope pos) spos) (tS (mdOf X) Wx (sAsg (dLc m fi t fc fe (own.map (·.2))) (gSet i))) :=
  PS_imp (ps_setLc hc hN hy hyl hsw hi ok hg ht he hs) fun D σ H ⟨ρ, env, ah, re, rh, o⟩ => by
    refine lc_reading (Wx := Wx) (m := m) ((tE_toS re rh o).mono fun v H1 ⟨ρ1, ah1, w, f, r, rw, o1⟩ => ?_)
    exact o1 ρ1 _ H1 (Fr.refl _ _) ((re.mono f).set rw) r
end
end Dn
end
section
set_option Elab.async false
set_option linter.all false
set_option maxRecDepth 100000
set_option maxHeartbeats 4000000
namespace Dn
open PySem PySem.Spec PyProof.Rows L2

/-! ### a callee's own cells, given up -/
mutual
def W.under (m : Nat) : W → Bool
  | .ref n => decide (n < m)
  | .tup xs => W.unders m xs
  | .lst xs => W.unders m xs
  | .dct ks vs => W.unders m ks && W.unders m vs
  | .scr xs => W.unders m xs
  | .err _ xs => W.unders m xs
  | _ => true
def W.unders (m : Nat) : List W → Bool
  | [] => true
  | x :: xs => W.under m x && W.unders m xs
end
theorem down_all {ρ ρ' : Rho} {H H' : Hp} (f : Fr ρ H ρ' H') {a : Addr} (h : a ∉ ρ'.all) : a ∉ ρ.all := fun hm => by
  rcases Rho.mem_all.mp hm with z | z
  · obtain ⟨n, hn⟩ := List.getElem?_of_mem z
    exact h (Rho.mem_all.mpr (.inl (List.mem_of_getElem? (f.pre n a hn))))
  · exact h (Rho.mem_all.mpr (.inr (f.hold a z)))
theorem pre_get {ρ ρ' : Rho} {H H' : Hp} (f : Fr ρ H ρ' H') {n : Nat} {a : Addr} (h : ρ'.cells[n]? = some a) (hn : n < ρ.cells.length) : ρ.cells[n]? = some a := by
  have e : ρ.cells[n]? = some ρ.cells[n] := by simp [hn]
  have := f.pre n _ e
  rw [h] at this
  cases this
  exact e
mutual
theorem RW.down {M : Md} {ρ ρ' : Rho} {H H' : Hp} (f : Fr ρ H ρ' H') : ∀ (w : W) (v : V), W.under ρ.cells.length w = true → RW M ρ' H' w v → RW M ρ H' w v
  | .non, v, _, h => by simpa [RW] using h
  | .bl b, v, _, h => by simpa [RW] using h
  | .int i, v, _, h => by simpa [RW] using h
  | .str x, v, _, h => by simpa [RW] using h
  | .tup ws, v, u, h => by
    rw [RW] at h ⊢
    rw [W.under] at u
    obtain ⟨a, vs, e, ⟨h1, hn⟩, h2⟩ := h
    exact ⟨a, vs, e, ⟨h1, down_all f hn⟩, RWs.down f ws vs u h2⟩
  | .lst ws, v, u, h => by
    rw [RW] at h ⊢
    rw [W.under] at u
    obtain ⟨a, vs, e, ⟨h1, hn⟩, h2⟩ := h
    exact ⟨a, vs, e, ⟨h1, down_all f hn⟩, RWs.down f ws vs u h2⟩
  | .dct ks ws, v, u, h => by
    rw [RW] at h ⊢
    rw [W.under, Bool.and_eq_true_iff] at u
    obtain ⟨a, vs, e, hn, h2, h3⟩ := h
    refine ⟨a, vs, e, down_all f hn, RWs.down f ws vs u.2 h2, ?_⟩
    rcases h3 with h3 | ⟨xs, e1, e2, e3, e4, e5, e6⟩
    · exact .inl h3
    · exact .inr ⟨xs, e1, e2, e3, e4, RWs.down f ks _ u.1 e5, e6⟩
  | .ref n, v, u, h => by
    rw [RW] at h ⊢
    rw [W.under] at u
    obtain ⟨a, e, h⟩ := h
    exact ⟨a, e, pre_get f h (of_decide_eq_true u)⟩
  | .glo x, v, _, h => by simpa [RW] using h
  | .scr ws, v, u, h => by
    rw [RW] at h ⊢
    rw [W.under] at u
    obtain ⟨a, vs, e, h1, h2⟩ := h
    refine ⟨a, vs, e, ?_, RWs.down f ws vs u h2⟩
    rcases h1 with ⟨h1, hn⟩ | h1
    · exact .inl ⟨h1, down_all f hn⟩
    · exact .inr h1
  | .erx c, v, _, h => by
    rw [RW] at h ⊢
    obtain ⟨a, oe, fl, e, hn, h1⟩ := h
    exact ⟨a, oe, fl, e, down_all f hn, h1⟩
  | .err c ws, v, u, h => by
    rw [RW] at h ⊢
    rw [W.under] at u
    obtain ⟨a, oe, fl, t, vs, e, ⟨hn, h1⟩, h2, ⟨h3, hn3⟩, h4⟩ := h
    exact ⟨a, oe, fl, t, vs, e, ⟨down_all f hn, h1⟩, h2, ⟨h3, down_all f hn3⟩, RWs.down f ws vs u h4⟩
  | .any, v, _, h => by simpa [RW] using h
theorem RWs.down {M : Md} {ρ ρ' : Rho} {H H' : Hp} (f : Fr ρ H ρ' H') : ∀ (ws : List W) (vs : List V), W.unders ρ.cells.length ws = true → RWs M ρ' H' ws vs → RWs M ρ H' ws vs
  | [], vs, _, h => by simpa [RWs] using h
  | w :: ws, vs, u, h => by
    rw [RWs] at h ⊢
    rw [W.unders, Bool.and_eq_true_iff] at u
    obtain ⟨v, r, e, h1, h2⟩ := h
    exact ⟨v, r, e, RW.down f w v u.1 h1, RWs.down f ws r u.2 h2⟩
end
mutual
theorem RW.under_of {M : Md} {ρ : Rho} {H : Hp} : ∀ (w : W) (v : V), RW M ρ H w v → W.under ρ.cells.length w = true
  | .non, v, _ => rfl
  | .bl b, v, _ => rfl
  | .int i, v, _ => rfl
  | .str x, v, _ => rfl
  | .tup ws, v, h => by
    rw [RW] at h
    rw [W.under]
    obtain ⟨a, vs, e, _, h2⟩ := h
    exact RWs.unders_of ws vs h2
  | .lst ws, v, h => by
    rw [RW] at h
    rw [W.under]
    obtain ⟨a, vs, e, _, h2⟩ := h
    exact RWs.unders_of ws vs h2
  | .dct ks ws, v, h => by
    rw [RW] at h
    rw [W.under, Bool.and_eq_true_iff]
    obtain ⟨a, vs, e, hn, h2, h3⟩ := h
    refine ⟨?_, RWs.unders_of ws vs h2⟩
    rcases h3 with ⟨kvs, h3, _⟩ | ⟨xs, e1, e2, e3, e4, e5, e6⟩
    · exact kv_under ks vs kvs h3
    · exact RWs.unders_of ks _ e5
  | .ref n, v, h => by
    rw [RW] at h
    rw [W.under]
    obtain ⟨a, e, h⟩ := h
    exact decide_eq_true (List.getElem?_eq_some_iff.mp h).1
  | .glo x, v, _ => rfl
  | .scr ws, v, h => by
    rw [RW] at h
    rw [W.under]
    obtain ⟨a, vs, e, _, h2⟩ := h
    exact RWs.unders_of ws vs h2
  | .erx c, v, _ => rfl
  | .err c ws, v, h => by
    rw [RW] at h
    rw [W.under]
    obtain ⟨a, oe, fl, t, vs, e, _, _, _, h4⟩ := h
    exact RWs.unders_of ws vs h4
  | .any, v, _ => rfl
theorem RWs.unders_of {M : Md} {ρ : Rho} {H : Hp} : ∀ (ws : List W) (vs : List V), RWs M ρ H ws vs → W.unders ρ.cells.length ws = true
  | [], vs, _ => rfl
  | w :: ws, vs, h => by
    rw [RWs] at h
    rw [W.unders, Bool.and_eq_true_iff]
    obtain ⟨v, r, e, h1, h2⟩ := h
    exact ⟨RW.under_of w v h1, RWs.unders_of ws r h2⟩
theorem kv_under {m : Nat} : ∀ (ks : List W) (vs : List V) (kvs : List (Key × V)), kvOf ks vs = some kvs → W.unders m ks = true
  | [], vs, kvs, h => rfl
  | k :: ks, [], kvs, h => by simp [kvOf] at h
  | k :: ks, v :: vs, kvs, h => by
    rw [kvOf] at h
    split at h
    · rename_i q r h1 h2
      rw [W.unders, Bool.and_eq_true_iff]
      refine ⟨?_, kv_under ks vs r h2⟩
      unfold keyW at h1
      split at h1 <;> first | rfl | cases h1
    · cases h
end
def AO.beq : AO → AO → Bool
  | .lst a, .lst b => W.beqs a b
  | .dct a b, .dct c d => W.beqs a c && W.beqs b d
  | .ins a b c, .ins d e f => decide (a = d) && (decide (b = e) && W.beqs c f)
  | .fdct a b, .fdct c d => W.beqs a c && W.beqs b d
  | _, _ => false
def AH.beq : AH → AH → Bool
  | [], [] => true
  | a :: as, b :: bs => AO.beq a b && AH.beq as bs
  | _, _ => false
@[simp] theorem AO.beq_self (a : AO) : AO.beq a a = true := by cases a <;> simp [AO.beq]
@[simp] theorem AH.beq_self : ∀ a : AH, AH.beq a a = true
  | [] => rfl
  | a :: as => by rw [AH.beq, AO.beq_self, AH.beq_self as]; rfl
theorem AO.eq_of_beq {a b : AO} (h : AO.beq a b = true) : a = b := by
  cases a <;> cases b <;> simp [AO.beq] at h
  · rw [W.eq_of_beqs _ _ h]
  · rw [W.eq_of_beqs _ _ h.1, W.eq_of_beqs _ _ h.2]
  · rw [h.1, h.2.1, W.eq_of_beqs _ _ h.2.2]
  · rw [W.eq_of_beqs _ _ h.1, W.eq_of_beqs _ _ h.2]
theorem AH.eq_of_beq : ∀ {a b : AH}, AH.beq a b = true → a = b
  | [], [], _ => rfl
  | a :: as, b :: bs, h => by
    rw [AH.beq, Bool.and_eq_true_iff] at h
    rw [AO.eq_of_beq h.1, AH.eq_of_beq h.2]
  | [], _ :: _, h => by cases h
  | _ :: _, [], h => by cases h
/-! what comes back, by value: cells from m on are the callee's own -/
def mapO (f : W → Option W) : List W → Option (List W)
  | [] => some []
  | w :: ws => match f w, mapO f ws with
    | some x, some xs => some (x :: xs)
    | _, _ => none
def frz (h : AH) (m : Nat) : Nat → W → Option W
  | 0, w => if W.under 0 w then some w else none
  | d + 1, w => if W.under 0 w then some w else match w with
    | .ref n => if m ≤ n then match h[n]? with
        | some (.lst ws) => (mapO (frz h m d) ws).map W.lst
        | some (.dct ks ws) => if W.unders 0 ks then (mapO (frz h m d) ws).map (W.dct ks) else none
        | some (.fdct ks ws) => if W.unders 0 ks then (mapO (frz h m d) ws).map (W.dct ks) else none
        | _ => none
      else none
    | .tup ws => (mapO (frz h m d) ws).map W.tup
    | .lst ws => (mapO (frz h m d) ws).map W.lst
    | .dct ks ws => if W.unders 0 ks then (mapO (frz h m d) ws).map (W.dct ks) else none
    | _ => none
mutual
theorem W.under_mono {m n : Nat} (h : m ≤ n) : ∀ w : W, W.under m w = true → W.under n w = true
  | .non, _ => rfl
  | .bl _, _ => rfl
  | .int _, _ => rfl
  | .str _, _ => rfl
  | .tup ws, u => by rw [W.under] at u ⊢; exact W.unders_mono h ws u
  | .lst ws, u => by rw [W.under] at u ⊢; exact W.unders_mono h ws u
  | .dct ks ws, u => by rw [W.under, Bool.and_eq_true_iff] at u ⊢; exact ⟨W.unders_mono h ks u.1, W.unders_mono h ws u.2⟩
  | .ref k, u => by rw [W.under] at u ⊢; exact decide_eq_true (Nat.lt_of_lt_of_le (of_decide_eq_true u) h)
  | .glo _, _ => rfl
  | .scr ws, u => by rw [W.under] at u ⊢; exact W.unders_mono h ws u
  | .erx _, _ => rfl
  | .err _ ws, u => by rw [W.under] at u ⊢; exact W.unders_mono h ws u
  | .any, _ => rfl
theorem W.unders_mono {m n : Nat} (h : m ≤ n) : ∀ ws : List W, W.unders m ws = true → W.unders n ws = true
  | [], _ => rfl
  | w :: ws, u => by rw [W.unders, Bool.and_eq_true_iff] at u ⊢; exact ⟨W.under_mono h w u.1, W.unders_mono h ws u.2⟩
end
theorem own_cell {M : Md} {ρ ρ' : Rho} {H H' : Hp} {h2 : AH} (f : Fr ρ H ρ' H') (R : RelH M ρ' H' h2) {n : Nat} {a : Addr} (hc : ρ'.cells[n]? = some a) (hn : ρ.cells.length ≤ n) : a ∉ ρ.all := fun hm => by
  rcases Rho.mem_all.mp hm with z | z
  · obtain ⟨j, hj⟩ := List.getElem?_of_mem z
    have hj' := f.pre j a hj
    obtain ⟨l1, e1⟩ := List.getElem?_eq_some_iff.mp hj'
    obtain ⟨l2, e2⟩ := List.getElem?_eq_some_iff.mp hc
    have := (List.getElem_inj R.nd).mp (e1.trans e2.symm)
    have := (List.getElem?_eq_some_iff.mp hj).1
    omega
  · exact R.sep a (List.mem_of_getElem? hc) (f.hold a z)
theorem mapO_ok {M : Md} {ρ ρ' : Rho} {H' : Hp} {g : W → Option W} (hg : ∀ (w w' : W) (v : V), g w = some w' → RW M ρ' H' w v → RW M ρ H' w' v) : ∀ (ws ws' : List W) (vs : List V), mapO g ws = some ws' → RWs M ρ' H' ws vs → RWs M ρ H' ws' vs
  | [], ws', vs, e, r => by
    unfold mapO at e
    cases e
    rw [RWs] at r ⊢
    exact r
  | w :: ws, ws', vs, e, r => by
    unfold mapO at e
    split at e
    · rename_i x xs h1 h3
      cases e
      rw [RWs] at r ⊢
      obtain ⟨v, r', ev, q1, q2⟩ := r
      exact ⟨v, r', ev, hg w x v h1 q1, mapO_ok hg ws xs r' h3 q2⟩
    · cases e
theorem frz_ok {M : Md} {ρ ρ' : Rho} {H H' : Hp} {h2 : AH} {m : Nat} (hm : m = ρ.cells.length) (f : Fr ρ H ρ' H') (R : RelH M ρ' H' h2) : ∀ (d : Nat) (w w' : W) (v : V), frz h2 m d w = some w' → RW M ρ' H' w v → RW M ρ H' w' v
  | 0, w, w', v, e, r => by
    unfold frz at e
    split at e
    · cases e; rename_i u; exact RW.down f w v (W.under_mono (Nat.zero_le _) w u) r
    · cases e
  | d + 1, w, w', v, e, r => by
    unfold frz at e
    split at e
    · cases e; rename_i u; exact RW.down f w v (W.under_mono (Nat.zero_le _) w u) r
    · split at e
      · rename_i n _
        split at e
        · rename_i hn
          rw [RW] at r
          obtain ⟨a, ev, hc⟩ := r
          have ho := own_cell f R hc (hm ▸ hn)
          split at e
          · rename_i ws hq
            obtain ⟨ys, hy, rfl⟩ := Option.map_eq_some_iff.mp e
            obtain ⟨vs, h1, h3⟩ := R.cell n a _ hc hq
            rw [RW]
            exact ⟨a, vs, ev, ⟨h1, ho⟩, mapO_ok (fun w w' v => frz_ok hm f R d w w' v) ws ys vs hy h3⟩
          · rename_i ks ws hq
            split at e
            · rename_i uk
              obtain ⟨ys, hy, rfl⟩ := Option.map_eq_some_iff.mp e
              obtain ⟨vs, h1, h3⟩ := R.cell n a _ hc hq
              rw [RW]
              refine ⟨a, vs, ev, ho, mapO_ok (fun w w' v => frz_ok hm f R d w w' v) ws ys vs hy h1, ?_⟩
              rcases h3 with ⟨kvs, h3, h4⟩ | ⟨xs, e1, e2, e3, e4, e5, e6⟩
              · exact .inl ⟨kvs, h3, .inl h4⟩
              · exact .inr ⟨xs, .inl e1, e2, e3, e4, RWs.down f ks _ (W.unders_mono (Nat.zero_le _) ks uk) e5, e6⟩
            · cases e
          · rename_i ks ws hq
            split at e
            · rename_i uk
              obtain ⟨ys, hy, rfl⟩ := Option.map_eq_some_iff.mp e
              obtain ⟨vs, h1, h3⟩ := R.cell n a _ hc hq
              rw [RW]
              refine ⟨a, vs, ev, ho, mapO_ok (fun w w' v => frz_ok hm f R d w w' v) ws ys vs hy h1, ?_⟩
              rcases h3 with ⟨kvs, h3, h4⟩ | ⟨xs, e1, e2, e3, e4, e5, e6⟩
              · exact .inl ⟨kvs, h3, .inr h4⟩
              · exact .inr ⟨xs, .inr e1, e2, e3, e4, RWs.down f ks _ (W.unders_mono (Nat.zero_le _) ks uk) e5, e6⟩
            · cases e
          · cases e
        · cases e
      · rename_i ws _
        obtain ⟨ys, hy, rfl⟩ := Option.map_eq_some_iff.mp e
        rw [RW] at r ⊢
        obtain ⟨a, vs, ev, ⟨h1, hn⟩, h2⟩ := r
        exact ⟨a, vs, ev, ⟨h1, down_all f hn⟩, mapO_ok (fun w w' v => frz_ok hm f R d w w' v) ws ys vs hy h2⟩
      · rename_i ws _
        obtain ⟨ys, hy, rfl⟩ := Option.map_eq_some_iff.mp e
        rw [RW] at r ⊢
        obtain ⟨a, vs, ev, ⟨h1, hn⟩, h2⟩ := r
        exact ⟨a, vs, ev, ⟨h1, down_all f hn⟩, mapO_ok (fun w w' v => frz_ok hm f R d w w' v) ws ys vs hy h2⟩
      · rename_i ks ws _
        split at e
        · rename_i uk
          obtain ⟨ys, hy, rfl⟩ := Option.map_eq_some_iff.mp e
          rw [RW] at r ⊢
          obtain ⟨a, vs, ev, hn, h2, h3⟩ := r
          refine ⟨a, vs, ev, down_all f hn, mapO_ok (fun w w' v => frz_ok hm f R d w w' v) ws ys vs hy h2, ?_⟩
          rcases h3 with h3 | ⟨xs, e1, e2, e3, e4, e5, e6⟩
          · exact .inl h3
          · exact .inr ⟨xs, e1, e2, e3, e4, RWs.down f ks _ (W.unders_mono (Nat.zero_le _) ks uk) e5, e6⟩
        · cases e
      · cases e
/-- behind a call that left the caller's cells as they were -/
theorem fr_back {ρ ρ' : Rho} {H H' : Hp} (f : Fr ρ H ρ' H') : Fr ρ H ρ H' where
  keep := f.keep
  newC := fun _ h => .inl h
  newP := fun _ h => .inl h
  hold := fun _ h => h
  pre := fun _ _ h => h
  there := f.there
  frzs := f.frzs
  just := f.just
theorem relH_back {M : Md} {ρ ρ' : Rho} {H H' : Hp} {h h2 : AH} (f : Fr ρ H ρ' H') (R : RelH M ρ H h) (R2 : RelH M ρ' H' h2) (e : h2.take h.length = h) : RelH M ρ H' h where
  len := R.len
  nd := R.nd
  sep := R.sep
  there := fun a ha => f.there a (R.there a ha)
  cell := fun n a o h1 h3 => by
    have hn := (List.getElem?_eq_some_iff.mp h3).1
    have q : h2[n]? = some o := by rw [← h3, ← e, List.getElem?_take_of_lt hn]
    have r2 := R2.cell n a o (f.pre n a h1) q
    have r1 := R.cell n a o h1 h3
    cases o with
    | lst ws =>
      obtain ⟨vs, z1, z2⟩ := r2
      obtain ⟨vs', y1, y2⟩ := r1
      exact ⟨vs, z1, RWs.down f ws vs (RWs.unders_of ws vs' y2) z2⟩
    | dct ks ws =>
      obtain ⟨vs, z1, z2⟩ := r2
      obtain ⟨vs', y1, y2⟩ := r1
      refine ⟨vs, RWs.down f ws vs (RWs.unders_of ws vs' y1) z1, ?_⟩
      rcases z2 with z2 | ⟨xs, e1, e2, e3, e4, e5, e6⟩
      · exact .inl z2
      · refine .inr ⟨xs, e1, e2, e3, e4, RWs.down f ks _ ?_ e5, e6⟩
        rcases y2 with ⟨kvs, y2, _⟩ | ⟨xs', _, _, _, _, e5', _⟩
        · exact kv_under ks vs' kvs y2
        · exact RWs.unders_of ks _ e5'
    | fdct ks ws =>
      obtain ⟨vs, z1, z2⟩ := r2
      obtain ⟨vs', y1, y2⟩ := r1
      refine ⟨vs, RWs.down f ws vs (RWs.unders_of ws vs' y1) z1, ?_⟩
      rcases z2 with z2 | ⟨xs, e1, e2, e3, e4, e5, e6⟩
      · exact .inl z2
      · refine .inr ⟨xs, e1, e2, e3, e4, RWs.down f ks _ ?_ e5, e6⟩
        rcases y2 with ⟨kvs, y2, _⟩ | ⟨xs', _, _, _, _, e5', _⟩
        · exact kv_under ks vs' kvs y2
        · exact RWs.unders_of ks _ e5'
    | ins c ns ws =>
      obtain ⟨C, dx, fs, z1, z2, z3, z4⟩ := r2
      obtain ⟨C', dx', fs', y1, y2, y3, y4⟩ := r1
      exact ⟨C, dx, fs, z1, z2, z3, RWs.down f ws _ (RWs.unders_of ws _ y4) z4⟩

/-! ### a def -/
structure FnT where
  n : Nat
  slots : Nat
  pure : Bool
  body : Calls → DS
def start0 (slots : Nat) (ws : List W) : Env := ws.map some ++ List.replicate (slots - ws.length) none
def fin (p : Bool) (w : W) (h h2 : AH) : Res W := if p = true then
    (if AH.beq (h2.take h.length) h = true then match frz h2 h.length 3 w with
      | some w' => .ok w' h
      | none => .stuck
    else .stuck)
  else .ok w h2
def finX (p : Bool) (c : Str) (h h2 : AH) : Res W := if p = true then
    (if AH.beq (h2.take h.length) h = true then .exc c h else .stuck)
  else .exc c h2
def fnRun (p : Bool) (slots : Nat) (b : DS) (ws : List W) (h : AH) : Res W := match b (start0 slots ws) h with
  | .nx _ h2 => fin p .non h h2
  | .ret w h2 => fin p w h h2
  | .exc c _ h2 => finX p c h h2
  | _ => .stuck
def callK (T : Nat → Option FnT) : Nat → Calls
  | 0 => fun _ _ _ => .stuck
  | k + 1 => fun i ws h => match T i with
    | some f => fnRun f.pure f.slots (f.body (callK T k)) ws h
    | none => .stuck
theorem rws_map_some {M : Md} {ρ : Rho} {H : Hp} : ∀ {ws : List W} {vs : List V} {i : Nat} {w : W}, RWs M ρ H ws vs → (ws.map some)[i]? = some (some w) → ∃ v, (vs.map some)[i]? = some (some v) ∧ RW M ρ H w v := fun {ws vs i w} r e => by
  rw [List.getElem?_map] at e
  cases q : ws[i]? with
  | none => rw [q] at e; cases e
  | some x =>
    rw [q] at e; cases e
    obtain ⟨v, h1, h2⟩ := r.get q
    exact ⟨v, by rw [List.getElem?_map, h1]; rfl, h2⟩
theorem REnv.start {M : Md} {ρ : Rho} {H : Hp} {ws : List W} {vs : List V} {N : List Str} (r : RWs M ρ H ws vs) : REnv M ρ H (start0 N.length ws) (L2.start N vs) where
  len := by
    unfold start0 L2.start
    simp only [List.length_append, List.length_map, List.length_replicate, r.length]
  at_ := fun i w e => by
    unfold start0 at e
    unfold L2.start
    by_cases hi : i < ws.length
    · rw [List.getElem?_append_left (by simpa using hi)] at e
      obtain ⟨v, h1, h2⟩ := rws_map_some r e
      exact ⟨v, by rw [List.getElem?_append_left (by simpa [r.length] using hi)]; exact h1, h2⟩
    · rw [List.getElem?_append_right (by simpa using hi), List.getElem?_replicate] at e
      split at e <;> cases e
/-- a def's body keeps what fnRun says -/
theorem fn_reading {M : Md} {E : XK} {ρ : Rho} {H : Hp} {ws : List W} {vs : List V} {ah : AH} {N : List Str} {p : Bool} {b : DS} {Q : VK} (rh : RelH M ρ H ah) (r : RWs M ρ H ws vs) (o : OutG M (RW M) ρ H (fnRun p N.length b ws ah) Q E) :
    tS M (fun cls d _ H' => E cls d H') b { nx := fun _ H' => Q .non H', rt := Q } (L2.start N vs) H := by
  refine ⟨ρ, _, ah, REnv.start r, rh, ?_⟩
  unfold fnRun at o
  have fk : ∀ {w : W} {h2 : AH}, OutG M (RW M) ρ H (fin p w ah h2) Q E → ∀ ρ' v H', Fr ρ H ρ' H' → RelH M ρ' H' h2 → RW M ρ' H' w v → Q v H' := fun {w h2} o ρ' v H' f r2 rv => by
    unfold fin at o
    split at o
    · split at o
      · rename_i hb
        have eb := AH.eq_of_beq hb
        split at o
        · rename_i w' hz
          exact o ρ v H' (fr_back f) (relH_back f rh r2 eb) (frz_ok rh.len.symm f r2 3 w w' v hz rv)
        · exact o.elim
      · exact o.elim
    · exact o ρ' v H' f r2 rv
  generalize b (start0 N.length ws) ah = q at o
  cases q with
  | nx env h2 => exact fun ρ' σ' H' f re' r2 => fk o ρ' .non H' f r2 (by rw [RW])
  | ret w h2 => exact fun ρ' v H' f r2 rv => fk o ρ' v H' f r2 rv
  | exc c env h2 =>
    intro ρ' σ' H' f re' r2
    simp only [finX] at o
    split at o
    · split at o
      · rename_i hb
        exact o ρ H' (fr_back f) (relH_back f rh r2 (AH.eq_of_beq hb))
      · exact o.elim
    · exact o ρ' H' f r2
  | brk env h => exact o.elim
  | ct env h => exact o.elim
  | stuck => exact o.elim
end Dn
end
section
set_option Elab.async false
set_option linter.all false
set_option maxRecDepth 100000
set_option maxHeartbeats 4000000
namespace Dn
open PySem PySem.Spec PyProof.Rows L2

/-! ### a, b = x, y stored from the right (names on one row, no cells) -/
def swpN (sc : Scope) (line : Nat) : List Expr → Option (List Str)
  | [] => some []
  | .Name x p :: es => if sc.names.lookup x == some NameKind.local && p.line == line then (swpN sc line es).map (x :: ·) else none
  | _ :: _ => none
theorem swpN_fm {env : PySem.Env} {line : Nat} : ∀ {ts : List Expr} {ns : List Str}, swpN env.scope line ts = some ns → ts.filterMap (fun
    | .Name id pos => if env.kindOf id == some .local && pos.line == line then some id else none
    | _ => none) = ns ∧ ns.length = ts.length
  | [], ns, h => by cases h; exact ⟨rfl, rfl⟩
  | e :: es, ns, h => by
    cases e with
    | Name x p =>
      unfold swpN at h
      split at h
      · rename_i hc
        obtain ⟨r, hr, rfl⟩ := Option.map_eq_some_iff.mp h
        obtain ⟨q1, q2⟩ := swpN_fm hr
        refine ⟨?_, by rw [List.length_cons, List.length_cons, q2]⟩
        rw [List.filterMap_cons]
        have : (env.kindOf x == some NameKind.local && p.line == line) = true := hc
        simp only [this, if_true]
        rw [q1]
      · cases h
    | _ => cases h
/-- which names are stored so -/
def swp (sc : Scope) (ts vs : List Expr) : Option (List Str) :=
  if (ts.length == 2 || ts.length == 3) && vs.length == ts.length && noStar vs then
    match swpN sc ((ts.head?.map (·.pos.line)).getD 0) ts with
    | some ns => if ns.eraseDups.length == ns.length && !(vs.all (foldedForSure 8)) && !(vs.all (constantsAlone 8)) then some ns else none
    | none => none
  else none
theorem noStar_any2 : ∀ {vs : List Expr}, noStar vs = true → (vs.any fun | .Starred .. => true | _ => false) = false
  | [], _ => rfl
  | e :: es, h => by
    have h2 : noStar es = true := by
      cases e <;> first | exact h | (simp [noStar] at h) | simpa [noStar] using h
    rw [List.any_cons, noStar_any2 h2]
    cases e <;> first | rfl | (simp [noStar] at h)
theorem fm_test {l ns : List Str} {n : Nat} (h : l = ns) (h1 : ns.length = n) (h2 : ns.eraseDups.length = ns.length) : (l.length != n || l.eraseDups.length != l.length) = false := by
  subst h
  rw [h1] at h2 ⊢
  rw [h2]
  simp
theorem blockKind_fn {env : PySem.Env} (hk : env.scope.kind = .function) : env.blockKind = .function := by
  unfold Env.blockKind
  rw [hk]
  rfl
theorem swp_ok {env : PySem.Env} {ts vs : List Expr} {kt k2 : Nat} {pt pt2 : Pos} {ns : List Str} (hk : env.scope.kind = .function) (h : swp env.scope ts vs = some ns) : swappedStores [.Tuple ts kt pt] (.Tuple vs k2 pt2) env = pure (some ns) := by
  have hb := blockKind_fn hk
  unfold swp at h
  split at h
  · rename_i hc
    rw [Bool.and_eq_true_iff, Bool.and_eq_true_iff] at hc
    obtain ⟨⟨c1, c2⟩, c3⟩ := hc
    split at h
    · rename_i ns' hn
      split at h
      · rename_i hd
        cases h
        rw [Bool.and_eq_true_iff, Bool.and_eq_true_iff] at hd
        obtain ⟨⟨d1, d2⟩, d3⟩ := hd
        obtain ⟨q1, q2⟩ := swpN_fm (env := env) hn
        have e1 : vs.length = ts.length := by simpa using c2
        have e2 : ns.eraseDups.length = ns.length := by simpa using d1
        have d2' : vs.all (foldedForSure 8) = false := by simpa using d2
        have d3' : vs.all (constantsAlone 8) = false := by simpa using d3
        unfold swappedStores
        simp only
        split
        · rename_i z
          rw [c1, hb, e1] at z
          simp at z
        · split
          · rename_i z
            exact absurd (z.symm.trans (noStar_any2 c3)) (by decide)
          · split
            · rename_i z
              exact absurd (z.symm.trans (fm_test q1 q2 e2)) (by decide)
            · rw [if_neg (by rw [d2']; decide), if_neg (by rw [d3']; decide)]
              exact congrArg (fun z => pure (some z)) q1
      · cases h
    · cases h
  · cases h
/-- .. and where none are -/
def locAt (sc : Scope) (line : Nat) : Expr → Bool
  | .Name x p => sc.names.lookup x == some NameKind.local && p.line == line
  | _ => false
def swpNo (sc : Scope) (ts vs : List Expr) : Bool := !((ts.length == 2 || ts.length == 3) && vs.length == ts.length) || vs.all (foldedForSure 8) || !(ts.all (locAt sc ((ts.head?.map (·.pos.line)).getD 0)))
theorem fm_short {env : PySem.Env} {line : Nat} : ∀ {ts : List Expr}, ((ts.filterMap fun
    | .Name id pos => if env.kindOf id == some .local && pos.line == line then some id else none
    | _ => none).length ≤ ts.length) ∧ (ts.all (locAt env.scope line) = false → (ts.filterMap fun
    | .Name id pos => if env.kindOf id == some .local && pos.line == line then some id else none
    | _ => none).length < ts.length)
  | [] => ⟨Nat.le_refl _, fun h => by cases h⟩
  | e :: es => by
    obtain ⟨h1, h2⟩ := fm_short (env := env) (line := line) (ts := es)
    rw [List.filterMap_cons, List.length_cons]
    cases e with
    | Name x p =>
      by_cases hc : (env.kindOf x == some NameKind.local && p.line == line) = true
      · simp only [hc, if_true, List.length_cons]
        refine ⟨by omega, fun h => ?_⟩
        have : es.all (locAt env.scope line) = false := by
          rw [List.all_cons] at h
          have q : locAt env.scope line (.Name x p) = true := hc
          rw [q] at h
          simpa using h
        have := h2 this
        omega
      · simp only [hc]
        exact ⟨by simp only [Bool.false_eq_true, if_false]; omega, fun _ => by simp only [Bool.false_eq_true, if_false]; omega⟩
    | _ => exact ⟨by simp only; omega, fun _ => by simp only; omega⟩
theorem ne_test {a b : Nat} {c : Bool} (h : a < b) : (a != b || c) = true := by
  have : (a != b) = true := by simpa using Nat.ne_of_lt h
  rw [this]; rfl
theorem swpNo_ok {env : PySem.Env} {ts vs : List Expr} {kt k2 : Nat} {pt pt2 : Pos} (h : swpNo env.scope ts vs = true) : swappedStores [.Tuple ts kt pt] (.Tuple vs k2 pt2) env = pure none := by
  unfold swappedStores
  simp only
  split
  · rfl
  · rename_i c1
    split
    · rfl
    · unfold swpNo at h
      rw [Bool.or_eq_true_iff, Bool.or_eq_true_iff] at h
      split
      · rfl
      · rename_i c2
        rcases h with (h | h) | h
        · exfalso
          apply c1
          have : ((ts.length == 2 || ts.length == 3) && vs.length == ts.length) = false := by rw [Bool.not_eq_true'] at h; exact h
          rcases Bool.and_eq_false_iff.mp this with z | z
          · rw [z]; rfl
          · have z' : (vs.length != ts.length) = true := by simpa using z
            rw [z']; simp
        · rw [if_pos h]
        · exfalso
          apply c2
          have := (fm_short (env := env) (line := (ts.head?.map (·.pos.line)).getD 0) (ts := ts)).2 (by rw [Bool.not_eq_true'] at h; exact h)
          exact ne_test this
theorem swapped_other {env : PySem.Env} {ts : List Expr} {e : Expr} {kt : Nat} {pt : Pos} (h : (match e with | .Tuple .. => false | _ => true) = true) : swappedStores [.Tuple ts kt pt] e env = pure none := by
  cases e <;> first | rfl | cases h
theorem swapped_name {env : PySem.Env} {x : Str} {e : Expr} {p : Pos} : swappedStores [.Name x p] e env = pure none := by
  cases e <;> rfl
theorem swapped_sub {env : PySem.Env} {o i : Expr} {e : Expr} {p : Pos} : swappedStores [.Subscript o i p] e env = pure none := by
  cases e <;> rfl
/-- a comprehension -/
def isComp : Expr → Bool
  | .ListComp .. => true
  | .SetComp .. => true
  | .DictComp .. => true
  | _ => false
theorem swaps_no {env : PySem.Env} {e : Expr} {t : Option Expr} {line : Nat} (h : isComp e = false) : swapsWith e t line env = pure false := by
  cases e <;> first | rfl | cases h
theorem swaps_tg {env : PySem.Env} {e t : Expr} {line : Nat} (h : (match t with | .Name .. => false | _ => true) = true) : swapsWith e (some t) line env = pure false := by
  cases e <;> first | rfl | (cases t <;> first | rfl | cases h)

section
variable {X : Cx} {Wx : WX} {fs : DA} {pos : Pos}
def sPar2 (i j : Nat) (a : DA) : DS := fun env h => (a env h).toS env fun ws h1 => match ws with
  | [x, y] => .nx ((env.set i (some x)).set j (some y)) h1
  | _ => .stuck
def sPar3 (i j l : Nat) (a : DA) : DS := fun env h => (a env h).toS env fun ws h1 => match ws with
  | [x, y, z] => .nx (((env.set i (some x)).set j (some y)).set l (some z)) h1
  | _ => .stuck
theorem r_par2 {i j : Nat} {x y : Str} {a b : Expr} {px py pt : Pos} {kt k2 pt2} (hc : X.calm = true) (hN : X.N.Nodup) (hi : X.N[i]? = some x) (hj : X.N[j]? = some y) (hij : i ≠ j)
    (hx : X.env.scope.names.lookup x = some .local) (hy : X.env.scope.names.lookup y = some .local) (ha : PA X [a, b] (tA (mdOf X) Wx fs))
    (hw : swappedStores [.Tuple [.Name x px, .Name y py] kt pt] (.Tuple [a, b] k2 pt2) X.env = pure (some [x, y])) :
    PS X (.Assign [.Tuple [.Name x px, .Name y py] kt pt] (.Tuple [a, b] k2 pt2) pos) (tS (mdOf X) Wx (sPar2 i j fs)) :=
  PS_imp (ps_par hc hN hi hj hij hx hy ha hw) fun D σ H ⟨ρ, env, ah, re, rh, o⟩ =>
    (tA_toS re rh o).mono fun vs H1 ⟨ρ1, ah1, ws, f, r, rw, o1⟩ => by
      split at o1
      · obtain ⟨v, u, rfl, r1, r2⟩ := rws2 rw
        exact ⟨v, u, rfl, o1 ρ1 _ H1 (Fr.refl _ _) (((re.mono f).set r1).set r2) r⟩
      · exact o1.elim
theorem rws3 {M : Md} {ρ : Rho} {H : Hp} {a b c : W} {vs : List V} (r : RWs M ρ H [a, b, c] vs) : ∃ x y z, vs = [x, y, z] ∧ RW M ρ H a x ∧ RW M ρ H b y ∧ RW M ρ H c z := by
  rw [RWs] at r
  obtain ⟨x, r', rfl, r1, r⟩ := r
  obtain ⟨y, z, rfl, r2, r3⟩ := rws2 r
  exact ⟨x, y, z, rfl, r1, r2, r3⟩
theorem r_par3 {i j l : Nat} {x y z : Str} {a b c : Expr} {px py pz pt : Pos} {kt k2 pt2} (hc : X.calm = true) (hN : X.N.Nodup) (hi : X.N[i]? = some x) (hj : X.N[j]? = some y) (hl : X.N[l]? = some z) (hij : i ≠ j) (hil : i ≠ l) (hjl : j ≠ l)
    (hx : X.env.scope.names.lookup x = some .local) (hy : X.env.scope.names.lookup y = some .local) (hz : X.env.scope.names.lookup z = some .local) (ha : PA X [a, b, c] (tA (mdOf X) Wx fs))
    (hw : swappedStores [.Tuple [.Name x px, .Name y py, .Name z pz] kt pt] (.Tuple [a, b, c] k2 pt2) X.env = pure (some [x, y, z])) :
    PS X (.Assign [.Tuple [.Name x px, .Name y py, .Name z pz] kt pt] (.Tuple [a, b, c] k2 pt2) pos) (tS (mdOf X) Wx (sPar3 i j l fs)) :=
  PS_imp (ps_par3 hc hN hi hj hl hij hil hjl hx hy hz ha hw) fun D σ H ⟨ρ, env, ah, re, rh, o⟩ =>
    (tA_toS re rh o).mono fun vs H1 ⟨ρ1, ah1, ws, f, r, rw, o1⟩ => by
      split at o1
      · obtain ⟨u, v, w, rfl, r1, r2, r3⟩ := rws3 rw
        exact ⟨u, v, w, rfl, o1 ρ1 _ H1 (Fr.refl _ _) ((((re.mono f).set r1).set r2).set r3) r⟩
      · exact o1.elim

/-! targets that are names -/
def namesOf (N : List Str) (sc : Scope) : List Expr → Option (List Nat)
  | [] => some []
  | .Name x p :: es => match N.findIdx? (· == x), namesOf N sc es with
    | some i, some is => if sc.names.lookup x == some NameKind.local || sc.names.lookup x == some NameKind.cell then some (i :: is) else none
    | _, _ => none
  | _ :: _ => none
theorem idx_at {N : List Str} {x : Str} {i : Nat} (h : N.findIdx? (· == x) = some i) : N[i]? = some x := by
  obtain ⟨h1, h2, _⟩ := List.findIdx?_eq_some_iff_getElem.mp h
  rw [List.getElem?_eq_getElem h1]
  exact congrArg some (beq_iff_eq.mp h2)
/-- names that may be stored to -/
def TgOk (X : Cx) (sc : Scope) : Prop := ∀ x, (sc.names.lookup x = some .local ∨ sc.names.lookup x = some .cell) → Loc X.env.scope x ∧ (X.fn x = true ∨ X.env.scope.names.lookup x = some .local)
theorem loc_of {X : Cx} {sc : Scope} (hf : TgOk X sc) {x : Str} (h : (sc.names.lookup x == some NameKind.local || sc.names.lookup x == some NameKind.cell) = true) : Loc X.env.scope x ∧ (X.fn x = true ∨ X.env.scope.names.lookup x = some .local) := by
  rw [Bool.or_eq_true_iff] at h
  rcases h with h | h
  · exact hf x (.inl (beq_iff_eq.mp h))
  · exact hf x (.inr (beq_iff_eq.mp h))
theorem names_pgs (hN : X.N.Nodup) {sc : Scope} (hf : TgOk X sc) : ∀ {es : List Expr} {is : List Nat}, namesOf X.N sc es = some is → PGs X es (tgS is) ∧ PGs X es (tGs (mdOf X) Wx (is.foldr (fun i r => gsCons (gSet i) r) gsNil)) ∧ (assignEach es X.env).length = is.length ∧ (assignEach es X.env).findIdx? (·.1) = none ∧ es.length = is.length
  | [], is, h => by
    cases h
    exact ⟨pgs_nil, r_gsnil, rfl, rfl, rfl⟩
  | e :: es, is, h => by
    cases e with
    | Name x p =>
      unfold namesOf at h
      split at h
      · rename_i i is' h1 h2
        split at h
        · rename_i hk
          cases h
          obtain ⟨q1, q2, q3, q4, q5⟩ := names_pgs hN hf h2
          obtain ⟨l1, l2⟩ := loc_of hf hk
          refine ⟨pgs_cons (pg_name hN (idx_at h1) l1 l2) q1 rfl, r_gscons (r_gname hN (idx_at h1) l1 l2) q2 (fun _ _ _ => trivial) rfl, ?_, ?_, by rw [List.length_cons, List.length_cons, q5]⟩
          · show ((false, assign (.Name x p) X.env) :: assignEach es X.env).length = _
            rw [List.length_cons, List.length_cons, q3]
          · show ((false, assign (.Name x p) X.env) :: assignEach es X.env).findIdx? (·.1) = none
            rw [List.findIdx?_cons, q4]
            rfl
        · cases h
      · cases h
    | _ => cases h
/-- a walk's target -/
def tgtOf (N : List Str) (sc : Scope) : Expr → Option Tgt
  | .Name x p => match namesOf N sc [.Name x p] with
    | some [i] => some (.one i)
    | _ => none
  | .Tuple es _ _ => (namesOf N sc es).map Tgt.tup
  | _ => none
theorem one_name {N : List Str} {sc : Scope} {x : Str} {p : Pos} {i : Nat} (h : namesOf N sc [.Name x p] = some [i]) : N[i]? = some x ∧ (sc.names.lookup x == some NameKind.local || sc.names.lookup x == some NameKind.cell) = true := by
  unfold namesOf at h
  split at h
  · rename_i j is h1 h2
    split at h
    · rename_i hk
      cases h
      exact ⟨idx_at h1, hk⟩
    · cases h
  · cases h
theorem tgt_ok (hc : X.calm = true) (hN : X.N.Nodup) {sc : Scope} (hf : TgOk X sc) {e : Expr} {t : Tgt} (h : tgtOf X.N sc e = some t) : PG X e (tgR X.K t) := by
  unfold tgtOf at h
  split at h
  · split at h
    · rename_i h1
      cases h
      obtain ⟨q1, q2⟩ := one_name h1
      obtain ⟨l1, l2⟩ := loc_of hf q2
      exact pg_name hN q1 l1 l2
    · cases h
  · obtain ⟨is, h1, rfl⟩ := Option.map_eq_some_iff.mp h
    obtain ⟨q1, _, q3, q4, _⟩ := names_pgs (Wx := fun _ _ _ _ => False) hN hf h1
    exact pg_tup hc q1 q3 q4
  · cases h
def gNames (is : List Nat) : DGs := is.foldr (fun i r => gsCons (gSet i) r) gsNil
theorem gNames_len {M : Md} {Wx : WX} : ∀ (is : List Nat) {ρ : Rho} {H : Hp} {ws : List W} {vs : List V} {env : Env} {ah : AH} {Q}, RWs M ρ H ws vs → SOut M Wx ρ H (gNames is ws env ah) Q → ws.length = is.length
  | [], ρ, H, ws, vs, env, ah, Q, r, o => by
    cases ws with
    | nil => rfl
    | cons w ws => exact o.elim
  | i :: is, ρ, H, ws, vs, env, ah, Q, r, o => by
    cases ws with
    | nil => exact o.elim
    | cons w ws =>
      rw [RWs] at r
      obtain ⟨v, r', rfl, r1, r2⟩ := r
      rw [List.length_cons, List.length_cons, gNames_len is (env := env.set i (some w)) r2 o]
theorem gNames_nx (is : List Nat) : ∀ (ws : List W) (env : Env) (h : AH), OnlyNx (gNames is ws env h) := by
  induction is with
  | nil => intro ws env h; cases ws <;> trivial
  | cons i is ih =>
    intro ws env h
    cases ws with
    | nil => trivial
    | cons w ws => exact ih ws _ h
theorem r_gtupN (hc : X.calm = true) (hN : X.N.Nodup) {sc : Scope} (hf : TgOk X sc) {es : List Expr} {is : List Nat} {k : Nat} {p : Pos} (h : namesOf X.N sc es = some is) : PG X (.Tuple es k p) (tG (mdOf X) Wx (gTupW (gNames is))) := by
  obtain ⟨_, q2, q3, q4, _⟩ := names_pgs (Wx := Wx) hN hf h
  exact r_gtup (n := is.length) hc q2 (fun M ρ H ws vs env ah Q r o => gNames_len is r o) q3 q4
end
end Dn
end
section
set_option Elab.async false
set_option linter.all false
set_option maxRecDepth 100000
set_option maxHeartbeats 4000000
namespace Dn
open PySem PySem.Spec PyProof.Rows L2
/-! ### errors of the program's own -/
/-- a class of errors, as a module knows it -/
def ExcK (K : PySem.W.Frag) (mg : Str → Option Value) (x : Str) : Prop := ∃ C, mg x = some (.ref C) ∧ PySem.W.excIn K C He.veBase "ValueError.__new__" = true ∧ PySem.W.keepIn K (.ref C) = true ∧ PySem.W.subIn K (.ref C) (.type "BaseException") = some true ∧ PySem.W.typeIn K (.ref C) = some (.type "type")

theorem r_raise {X : Cx} {Wx : WX} {x m : Str} {j : Nat} {p p2 pos pos' : Pos} (hc : X.calm = true) (tk : Takes X Wx) (hx : ExcK X.K X.mg x) (hg : Gl X x) (hdb : (x == ("__debug__" : Str)) = false) :
    PS X (.Raise (some (.Call (.Name x p) [.Constant (.str m) j p2] [] pos)) none pos') (tS (mdOf X) Wx (sRaise x)) := by
  obtain ⟨C, gC, q, kC, s1, t1⟩ := hx
  refine PS_imp (ps_raise hc tk (pmk_own PySem.F.excBase_ValueError q gC kC (raises_own s1 t1) hg hdb)) fun D σ H ⟨ρ, env, ah, re, rh, o⟩ => ?_
  have := o ρ σ H (Fr.refl _ _) re rh
  have e : excV (mdOf X) x = .ref C := by
    show (match X.mg x with | some u => u | none => _) = _
    rw [gC]
  rw [e] at this
  exact this
end Dn
end
section
set_option Elab.async false
set_option linter.all false
set_option maxRecDepth 100000
set_option maxHeartbeats 4000000
namespace Dn
open PySem PySem.Spec PyProof.Rows L2
/-- the first clause that takes an error -/
def hdl (sub : Str → Str → Option Bool) : List (Str × DS) → Str → Env → AH → SRes
  | [], c, env, h => .exc c env h
  | (y, s) :: r, c, env, h => match sub c y with
    | some true => s env h
    | some false => hdl sub r c env h
    | none => .stuck
def sTry (sub : Str → Str → Option Bool) (b : DS) (hs : List (Str × DS)) : DS := fun env h => match b env h with
  | .exc c env' h' => hdl sub hs c env' h'
  | r => r
def SubOk (M : Md) (sub : Str → Str → Option Bool) : Prop := ∀ c y b, sub c y = some b → PySem.W.exmOne M.K (excV M c) (excV M y) = some b
def hsOf (M : Md) (Wx : WX) (hs : List (Str × DS)) : List (Value × (Addr → Value → Option Addr → TS)) := hs.map fun p => (excV M p.1, fun _ _ _ => tS M Wx p.2)
theorem hdl_ok {M : Md} {Wx : WX} {sub : Str → Str → Option Bool} (hS : SubOk M sub) {ρ : Rho} {σ : L2.St} {H : Hp} {env : Env} {h : AH} {c : Str} {D : Ends} (re : REnv M ρ H env σ) (rh : RelH M ρ H h) :
    ∀ hs : List (Str × DS), SOut M Wx ρ H (hdl sub hs c env h) D → wMany M.K Wx D (hsOf M Wx hs) (excV M c) none σ H
  | [], o => o ρ σ H (Fr.refl _ _) re rh
  | (y, s) :: r, o => by
    unfold hdl at o
    split at o
    · rename_i e
      exact ⟨true, hS c y true e, (fun _ a ha => ⟨ρ, env, h, re, rh, o⟩), (fun z => by cases z)⟩
    · rename_i e
      exact ⟨false, hS c y false e, (fun z => by cases z), (fun _ => hdl_ok hS re rh r o)⟩
    · exact o.elim
theorem r_try {X : Cx} {Wx : WX} {sub : Str → Str → Option Bool} {b : DS} {hs : List (Str × DS)} {body : List Stmt} {h₀ : ExceptHandler} {hds : List ExceptHandler} {pos : Pos} (hst : X.stack = X.env :: X.outer) (hf : X.env.frame = some X.env.locals) (tk : Takes X Wx) (hS : SubOk (mdOf X) sub)
    (hb : ∀ (W : WX) (pn : List (Addr × Obj)) (xe : Value → Shared → Prop), Takes (X.tr pn xe) W → PassesOwn (model X.prog X.w) X.A X.env xe → PSs (X.tr pn xe) body (tS (mdOf X) W b))
    (hh : HdsOk X (h₀ :: hds) (hsOf (mdOf X) Wx hs)) : PS X (.Try body (h₀ :: hds) [] [] pos) (tS (mdOf X) Wx (sTry sub b hs)) := by
  refine PS_imp (ps_try_many (tb := fun W => tS (mdOf X) W b) hst hf tk hb hh) fun D σ H ⟨ρ, env, ah, re, rh, o⟩ => ⟨ρ, env, ah, re, rh, ?_⟩
  unfold sTry at o
  cases e : b env ah with
  | exc c env' h' =>
    rw [e] at o
    intro ρ' σ' H' f re' rh'
    exact hdl_ok hS re' rh' hs (SOut.frame f o)
  | _ => rw [e] at o; exact o
end Dn
end
section
set_option Elab.async false
set_option linter.all false
set_option maxRecDepth 100000
set_option maxHeartbeats 4000000
namespace Dn
open PySem PySem.Spec PyProof.Rows L2

/-! ### pairs that are walked: enumerate(..), zip(.., ..), over lists and tuples -/
def ItAt (k : Bool) (h : Heap) (it l : Addr) (i : Nat) : Prop := match k with
  | true => h.IsTupleIter it l i
  | false => h.IsListIter it l i
def SeqOn (k : Bool) (h : Heap) (l : Addr) (items : Array Value) : Prop := match k with
  | true => h.IsTuple l items
  | false => h.IsList l items
def SK (K : PySem.W.Frag) (k : Bool) (H : Hp) (a : Addr) (xs : List V) : Prop := match k with
  | true => SqT K H a xs
  | false => SqL K H a xs
def itObj (k : Bool) (l : Addr) : Obj := match k with
  | true => { cls := .type "tuple_iterator", data := .fields #[.ref l, .int 0 0] }
  | false => { cls := .type "list_iterator", data := .fields #[.ref l, .int 0 0] }
theorem drawsK {P : Program} {w : World} {A : Around} (hh : A.handled = none) (k : Bool) (it l : Addr) (hne : l ≠ it) (items : Array Value) :
    Draws P w A it [it, l] items.size (fun i v => items[i]? = some v) (fun i h => ItAt k h it l i ∧ SeqOn k h l items) := by
  cases k
  · exact Draws.list hh it l hne items
  · exact Draws.tuple hh it l hne items
theorem beginsK (k : Bool) (l : Addr) (items : Array Value) : Begins (.ref l) (itObj k l) fun h => SeqOn k h l items := by
  cases k
  · exact begins_list l items
  · exact begins_tuple l items
theorem ItAt.at {k : Bool} {h h' : Heap} {it l : Addr} {i : Nat} (x : ItAt k h it l i) (e : ∀ o, h.get? it = some o → h'.get? it = some o) : ItAt k h' it l i := by
  cases k
  · exact Heap.IsListIter.at x e
  · exact Heap.IsTupleIter.at x e
theorem ItAt.obj {k : Bool} {h : Heap} {it l : Addr} {i : Nat} (x : ItAt k h it l i) : ∃ o, h.get? it = some o ∧ ∀ v, o.data ≠ .cell v := by
  cases k
  · obtain ⟨o, ho, hc, hd⟩ := x
    exact ⟨o, ho, fun v q => by rw [hd] at q; cases q⟩
  · obtain ⟨o, ho, hc, hd⟩ := x
    exact ⟨o, ho, fun v q => by rw [hd] at q; cases q⟩
theorem ItAt.first {k : Bool} {h : Heap} {it l : Addr} (e : h.get? it = some (itObj k l)) : ItAt k h it l 0 := by
  cases k
  · exact ⟨_, e, rfl, rfl⟩
  · exact ⟨_, e, rfl, rfl⟩
section
variable {X : Cx} {pins : List (Addr × Obj)} {σ : L2.St} {H : Hp} {s : Shared} {a : Addr} {xs ys : List V} {k : Bool}
theorem invSeq (I : Inv X pins σ H s) (h : SK X.K k H a xs) : ∃ its : List Value, Vals xs its ∧ SeqOn k s.heap a its.toArray := by
  cases k
  · obtain ⟨its, r, p, _⟩ := I.list h
    exact ⟨its, r, p.isList⟩
  · obtain ⟨its, r, p, _⟩ := I.tuple h
    exact ⟨its, r, p⟩
theorem SeqOn.lt {h : Heap} {items : Array Value} (p : SeqOn k h a items) : a < h.objs.size := by
  cases k
  · obtain ⟨o, ho, _⟩ := p
    exact Heap.lt_size ho
  · obtain ⟨o, ho, _⟩ := p
    exact Heap.lt_size ho
theorem seqInj (I : Inv X pins σ H s) (h : SK X.K k H a xs) (h' : SK X.K k H a ys) : xs = ys := by
  cases k
  · exact I.list_inj h h'
  · exact I.tuple_inj h h'
end
/-- enumerate(..) -/
def ItE (K : PySem.W.Frag) (k : Bool) (a : Addr) : It :=
  ⟨fun i H => ∃ (xs : List V) (x : V), SK K k H a xs ∧ xs[i]? = some x,
   fun i H v H' => ∃ T x, v = .ref T ∧ H T = none ∧ H' = upd H T (.tup [.int (i : Nat), x]) ∧ ∀ xs, SK K k H a xs → xs[i]? = some x,
   fun i H => ∃ xs : List V, SK K k H a xs ∧ xs.length ≤ i⟩
/-- zip(.., ..) -/
def ItZ (K : PySem.W.Frag) (k j : Bool) (a b : Addr) : It :=
  ⟨fun i H => ∃ (xs ys : List V) (x y : V), SK K k H a xs ∧ SK K j H b ys ∧ xs[i]? = some x ∧ ys[i]? = some y,
   fun i H v H' => ∃ T x y, v = .ref T ∧ H T = none ∧ H' = upd H T (.tup [x, y]) ∧ (∀ xs, SK K k H a xs → xs[i]? = some x) ∧ ∀ ys, SK K j H b ys → ys[i]? = some y,
   fun i H => ∃ xs ys : List V, SK K k H a xs ∧ SK K j H b ys ∧ i ≤ xs.length ∧ i ≤ ys.length ∧ (i = xs.length ∨ i = ys.length)⟩
theorem turnE {P : Program} {w : World} {K : PySem.W.Frag} {elts : List Expr} {kk : Nat} {tpos : Pos} {k : Bool} {a e it : Addr} :
    Turn P w K (.Tuple elts kk tpos) (ItE K k a) [e, it] e (fun i h => (∃ old, IsEnum h e it ((i : Nat) : Int) old) ∧ ItAt k h it a i ∧ e ≠ it) where
  mem := by simp
  obj := fun i h st b hb => by
    obtain ⟨⟨old, he⟩, hi, _⟩ := st
    rcases (show b = e ∨ b = it by simpa using hb) with z | z <;> rw [z]
    · exact ⟨_, he, fun v q => nomatch q⟩
    · exact hi.obj
  keep := fun i h h' ⟨⟨old, he⟩, hi, hne⟩ kp => ⟨⟨old, kp e (by simp) _ he⟩, hi.at fun o q => kp it (by simp) o q, hne⟩
  item := by
    intro X hP hw hK hc i pins s σ H E I hf ⟨⟨old, he⟩, hit, hne⟩ ⟨xs, x, hq, hx⟩
    subst hP hw hK
    obtain ⟨its, rv, p⟩ := invSeq I hq
    obtain ⟨u, hu, ru⟩ := rv.get hx
    have lE : e < s.heap.objs.size := Heap.lt_size he
    have lI : it < s.heap.objs.size := let ⟨_, q, _⟩ := hit.obj; Heap.lt_size q
    have nIa : a ≠ it := fun q => by
      have h1 := (hf it (by simp)).1
      cases k
      · obtain ⟨o, ho, hcl, _⟩ := p
        obtain ⟨o', ho', hcl', _⟩ := hit
        rw [q, ho'] at ho; cases ho; rw [hcl'] at hcl; simp at hcl
      · obtain ⟨o, ho, hcl, _⟩ := p
        obtain ⟨o', ho', hcl', _⟩ := hit
        rw [q, ho'] at ho; cases ho; rw [hcl'] at hcl; simp at hcl
    have nEa : e ≠ a := fun q => by
      cases k
      · obtain ⟨o, ho, hcl, _⟩ := p
        rw [← q, he] at ho; cases ho; simp at hcl
      · obtain ⟨o, ho, hcl, _⟩ := p
        rw [← q, he] at ho; cases ho; simp at hcl
    have hlt : i < its.toArray.size := by
      have := (List.getElem?_eq_some_iff.mp hu).1
      simpa using this
    refine wpAny_pyNext_enum_itemD (drawsK (A := X.A.in1) (I.ok.hd hc) k it a nIa its.toArray) he ⟨hit, p⟩ hlt hne (by simp [hne, nEa]) fun y h' tk hy ho hst hT hsz hk => ?_
    have ey : y = u := by
      have : its[i]? = some y := by simpa using hy
      rw [hu] at this; cases this; rfl
    subst ey
    refine ⟨_, rfl, wpAny_letOwnedTupleGo_enum (s := { s with heap := h', toks := tk + 1 }) ho fun h2 he2 sb => ?_⟩
    have hT2 : h2.get? s.heap.objs.size = some { cls := .type "tuple", data := .seq #[.int i tk, y] } := (sb.2 _ (Nat.ne_of_gt lE)).trans hT
    have new : ObjOk X.prog X.w (upd H s.heap.objs.size (.tup [.int (i : Nat), x])) h2 s.heap.objs.size (.tup [.int (i : Nat), x]) :=
      ⟨by rw [← line_eq]; show 2 ≤ 16777216; decide, [.int i tk, y], .cons ⟨_, rfl⟩ (.cons ru .nil), ⟨_, hT2, rfl, _, rfl⟩⟩
    have I1 : Inv X pins σ (upd H s.heap.objs.size (.tup [.int (i : Nat), x])) { s with heap := h2, toks := tk + 1 } :=
      I.turnedNew (ch := [e, it]) (fun b ob hb q => (sb.2 b (fun z => hb (by simp [z]))).trans (hk b ob (fun z => hb (by simp [z])) (fun z => hb (by simp [z])) q)) hf (Nat.le_refl _) new
    refine ⟨.ref s.heap.objs.size, _, I1, rfl, ⟨_, x, rfl, I.hok.fresh (Nat.le_refl _), rfl, fun zs hz => by rw [seqInj I hz hq]; exact hx⟩, ⟨⟨y, ?_⟩, hst.1.at fun o q => (sb.2 it (Ne.symm hne)).trans q, hne⟩, fun b hb => ?_⟩
    · have e1 : ((i + 1 : Nat) : Int) = (i : Int) + 1 := by omega
      rw [e1]
      simpa using he2
    · have hb' : b < s.heap.objs.size := by
        rcases (show b = e ∨ b = it by simpa using hb) with z | z <;> rw [z] <;> assumption
      rw [upd_ne (Nat.ne_of_lt hb')]
      exact (hf b hb).1
  done := by
    intro X hP hw hK hc i pins s σ H E I hf ⟨⟨old, he⟩, hit, hne⟩ ⟨xs, hq, hx⟩
    subst hP hw hK
    obtain ⟨its, rv, p⟩ := invSeq I hq
    obtain ⟨f0, f1, f2, f3, f4, f5⟩ := hf it (by simp)
    have hl := rv.length
    have nIa : a ≠ it := fun q => by
      cases k
      · obtain ⟨o, ho, hcl, _⟩ := p
        obtain ⟨o', ho', hcl', _⟩ := hit
        rw [q, ho'] at ho; cases ho; rw [hcl'] at hcl; simp at hcl
      · obtain ⟨o, ho, hcl, _⟩ := p
        obtain ⟨o', ho', hcl', _⟩ := hit
        rw [q, ho'] at ho; cases ho; rw [hcl'] at hcl; simp at hcl
    have fin : ∀ h', Heap.ExtBut it s.heap h' → (none : Option Value) = none ∧ Inv X pins σ H { s with heap := h' } := fun h' eb => ⟨rfl, I.turned (t' := s.toks) (fun b o hb q => eb b o hb q) f0 f1 f3 f4 f5⟩
    cases k
    · have hnone : its.toArray[i]? = none := by simp; omega
      exact wpAny_pyNext_enum_end (I.ok.hd hc) he hit p hnone fin
    · have hnone : its.toArray[i]? = none := by simp; omega
      have hT : s.TypeIs (.ref e) "enumerate" := ⟨_, he, rfl⟩
      unfold pyNext
      refine wpAny_bind (wpAny_attempt (wpAny_callSpecial?_slot (name := Str.ofString "__next__") hT F.slot_enumerate_next (wpAny_call_entry F.slot_enumerate_next hT F.entry_enumerate_next ?_ (F.args_enumerate_next_1 _))))
      show wpAny _ _ (field (.ref e) 2 >>= _) _ _ _
      refine wpAny_bind (wpAny_field he rfl (x := .ref it) rfl ?_)
      refine wpAny_bind (wpAny_nextOf_tuple_end (I.ok.hd hc) hit p hnone fun h' x he' hx' => ?_)
      obtain ⟨o, ho, hc'⟩ := hx'
      refine wpAny_bind (wpAny_isInstance (T := "StopIteration") (b := true) ⟨o, ho, hc'⟩ isSubtype_stop ?_)
      exact wpAny_pure (fin _ he')
  self := fun A i s Q E st h => let ⟨⟨_, he⟩, _⟩ := st; wpAny_pyIter_enum he h
theorem seq_ne {k j : Bool} {h : Heap} {it l b : Addr} {i : Nat} {items : Array Value} (p : SeqOn k h l items) (q : ItAt j h it b i) : l ≠ it := fun e => by
  obtain ⟨o, ho, hcl, _⟩ : ∃ o, h.get? l = some o ∧ (o.cls = .type "list" ∨ o.cls = .type "tuple") ∧ True := by
    cases k
    · obtain ⟨o, ho, hcl, _⟩ := p; exact ⟨o, ho, .inl hcl, trivial⟩
    · obtain ⟨o, ho, hcl, _⟩ := p; exact ⟨o, ho, .inr hcl, trivial⟩
  obtain ⟨o', ho', hcl'⟩ : ∃ o, h.get? it = some o ∧ (o.cls = .type "list_iterator" ∨ o.cls = .type "tuple_iterator") := by
    cases j
    · obtain ⟨o, ho, hcl, _⟩ := q; exact ⟨o, ho, .inl hcl⟩
    · obtain ⟨o, ho, hcl, _⟩ := q; exact ⟨o, ho, .inr hcl⟩
  rw [e, ho'] at ho
  cases ho
  rcases hcl with z | z <;> rcases hcl' with z' | z' <;> · rw [z] at z'; simp at z'
/-- a walk's own records lie apart -/
structure Apart (z TI TO i1 i2 : Addr) : Prop where
  a : TI ≠ z
  b : TO ≠ z
  c : TI ≠ TO
  d : TI ≠ i1
  e : TI ≠ i2
  f : z ≠ i1
  g : z ≠ i2
  h : TO ≠ i1
  i : TO ≠ i2
  j : i1 ≠ i2
theorem Apart.sep {h : Heap} {k j : Bool} {z TI TO i1 i2 a b : Addr} {n m : Nat} {x y u v : Value} {xs ys : Array Value} (D : Apart z TI TO i1 i2) (hz : IsZip h z TI TO .none) (hO : IsTupOf2 h TO x y) (h1 : ItAt k h i1 a n) (h2 : ItAt j h i2 b m)
    (p1 : SeqOn k h a xs) (p2 : SeqOn j h b ys) (nT1 : a ≠ TO) (nT2 : b ≠ TO) : ZipSep2 z TI TO i1 i2 [i1, a] [i2, b] := by
  have nz : ∀ {k l items}, SeqOn k h l items → l ≠ z := fun {k l items} p e => by
    cases k
    · obtain ⟨o, ho, hcl, _⟩ := p; rw [e, hz] at ho; cases ho; simp at hcl
    · obtain ⟨o, ho, hcl, _⟩ := p; rw [e, hz] at ho; cases ho; simp at hcl
  have m1 := seq_ne p1 h1
  have m2 := seq_ne p1 h2
  have m3 := seq_ne p2 h1
  have m4 := seq_ne p2 h2
  have m5 := nz p1
  have m6 := nz p2
  exact { TIz := D.a, TOz := D.b, TITO := D.c, TIi1 := D.d, mem1 := (by simp), zf1 := (by simp [D.f, m5.symm]), Tf1 := (by simp [D.h, nT1.symm]), TIi2 := D.e, mem2 := (by simp), zf2 := (by simp [D.g, m6.symm]), Tf2 := (by simp [D.i, nT2.symm]), sep1_2 := (by simp [D.j, m3.symm]), sep2_1 := (by simp [D.j.symm, m2.symm]) }
theorem turnZ {P : Program} {w : World} {K : PySem.W.Frag} {elts : List Expr} {kk : Nat} {tpos : Pos} {k j : Bool} {a b z TI TO i1 i2 : Addr} (D : Apart z TI TO i1 i2) (na : a ≠ TO) (nb : b ≠ TO) :
    Turn P w K (.Tuple elts kk tpos) (ItZ K k j a b) [z, TI, TO, i1, i2] z (fun i h => IsZip h z TI TO .none ∧ IsTupOf2 h TI (.ref i1) (.ref i2) ∧ (∃ x y, IsTupOf2 h TO x y) ∧ ItAt k h i1 a i ∧ ItAt j h i2 b i) where
  mem := by simp
  obj := fun i h st c hc => by
    obtain ⟨hz, hI, ⟨x, y, hO⟩, h1, h2⟩ := st
    rcases (show c = z ∨ c = TI ∨ c = TO ∨ c = i1 ∨ c = i2 by simpa using hc) with q | q | q | q | q <;> rw [q]
    · exact ⟨_, hz, fun v q => nomatch q⟩
    · exact ⟨_, hI, fun v q => nomatch q⟩
    · exact ⟨_, hO, fun v q => nomatch q⟩
    · exact h1.obj
    · exact h2.obj
  keep := fun i h h' ⟨hz, hI, ⟨x, y, hO⟩, h1, h2⟩ kp => ⟨kp z (by simp) _ hz, kp TI (by simp) _ hI, ⟨x, y, kp TO (by simp) _ hO⟩, h1.at fun o q => kp i1 (by simp) o q, h2.at fun o q => kp i2 (by simp) o q⟩
  item := by
    intro X hP hw hK hc i pins s σ H E I hf ⟨hz, hI, ⟨x0, y0, hO⟩, h1, h2⟩ ⟨xs, ys, x, y, hqx, hqy, hx, hy⟩
    subst hP hw hK
    obtain ⟨its, rv, p⟩ := invSeq I hqx
    obtain ⟨its2, rv2, p2⟩ := invSeq I hqy
    obtain ⟨u, hu, ru⟩ := rv.get hx
    obtain ⟨u2, hu2, ru2⟩ := rv2.get hy
    have S := D.sep (u := u) (v := u) hz hO h1 h2 p p2 na nb
    have lt1 : i < its.toArray.size := by simpa using (List.getElem?_eq_some_iff.mp hu).1
    have lt2 : i < its2.toArray.size := by simpa using (List.getElem?_eq_some_iff.mp hu2).1
    have hzl : z < s.heap.objs.size := Heap.lt_size hz
    refine wpAny_pyNext_zipD2_item S (drawsK (A := X.A.in1) (I.ok.hd hc) k i1 a (seq_ne p h1) its.toArray) (drawsK (A := X.A.in1) (I.ok.hd hc) j i2 b (seq_ne p2 h2) its2.toArray) hz hI hO ⟨h1, p⟩ ⟨h2, p2⟩ lt1 lt2 fun v1 v2 h' tk y1 y2 z' O' st1 st2 hT hsz hk => ?_
    have e1 : v1 = u := by
      have : its[i]? = some v1 := by simpa using y1
      rw [hu] at this; cases this; rfl
    have e2 : v2 = u2 := by
      have : its2[i]? = some v2 := by simpa using y2
      rw [hu2] at this; cases this; rfl
    subst e1 e2
    refine ⟨_, rfl, wpAny_letOwnedTupleGo_zip (s := { s with heap := h', toks := tk }) z' fun h'' z'' sb => ?_⟩
    have hT2 : h''.get? s.heap.objs.size = some { cls := .type "tuple", data := .seq #[v1, v2] } := (sb.2 _ (Nat.ne_of_gt hzl)).trans hT
    have new : ObjOk X.prog X.w (upd H s.heap.objs.size (.tup [x, y])) h'' s.heap.objs.size (.tup [x, y]) :=
      ⟨by rw [← line_eq]; show 2 ≤ 16777216; decide, [v1, v2], .cons ru (.cons ru2 .nil), ⟨_, hT2, rfl, _, rfl⟩⟩
    have I1 : Inv X pins σ (upd H s.heap.objs.size (.tup [x, y])) { s with heap := h'', toks := tk } :=
      I.turnedNew (t' := tk) (ch := [z, TI, TO, i1, i2]) (fun c o hb q => (sb.2 c (fun q' => hb (by simp [q']))).trans (hk c o (fun q' => hb (by simp [q'])) (fun q' => hb (by simp [q'])) (fun q' => hb (by simp [q'])) (fun q' => hb (by simp [q'])) q)) hf (Nat.le_refl _) new
    refine ⟨.ref s.heap.objs.size, _, I1, rfl, ⟨_, x, y, rfl, I.hok.fresh (Nat.le_refl _), rfl, fun l hl => by rw [seqInj I hl hqx]; exact hx, fun l hl => by rw [seqInj I hl hqy]; exact hy⟩, ⟨z'', ?_, ⟨v1, v2, ?_⟩, ?_, ?_⟩, fun c hcm => ?_⟩
    · exact (sb.2 _ D.a).trans (hk _ _ D.a D.c D.d D.e hI)
    · exact (sb.2 _ D.b).trans O'
    · exact st1.1.at fun o q => (sb.2 _ D.f.symm).trans q
    · exact st2.1.at fun o q => (sb.2 _ D.g.symm).trans q
    · have hlt : c < s.heap.objs.size := by
        rcases (show c = z ∨ c = TI ∨ c = TO ∨ c = i1 ∨ c = i2 by simpa using hcm) with q | q | q | q | q <;> rw [q]
        · exact hzl
        · exact Heap.lt_size hI
        · exact Heap.lt_size hO
        · exact let ⟨_, q, _⟩ := h1.obj; Heap.lt_size q
        · exact let ⟨_, q, _⟩ := h2.obj; Heap.lt_size q
      rw [upd_ne (Nat.ne_of_lt hlt)]
      exact (hf c hcm).1
  done := by
    intro X hP hw hK hc i pins s σ H E I hf ⟨hz, hI, ⟨x0, y0, hO⟩, h1, h2⟩ ⟨xs, ys, hqx, hqy, he1, he2, hend⟩
    subst hP hw hK
    obtain ⟨its, rv, p⟩ := invSeq I hqx
    obtain ⟨its2, rv2, p2⟩ := invSeq I hqy
    have l1 := rv.length
    have l2 := rv2.length
    have S := D.sep (u := x0) (v := x0) hz hO h1 h2 p p2 na nb
    have fin : ∀ (h' : Heap) (tk : Tok), (∀ c o, c ≠ z → c ≠ TO → c ≠ i1 → c ≠ i2 → s.heap.get? c = some o → h'.get? c = some o) → (none : Option Value) = none ∧ Inv X pins σ H { s with heap := h', toks := tk } := fun h' tk hk => ⟨rfl, I.turnedL (t' := tk) (ch := [z, TI, TO, i1, i2]) (fun c o hb q =>
      hk c o (fun q' => hb (by simp [q'])) (fun q' => hb (by simp [q'])) (fun q' => hb (by simp [q'])) (fun q' => hb (by simp [q'])) q) hf⟩
    exact wpAny_pyNext_zipD2_end S (drawsK (A := X.A.in1) (I.ok.hd hc) k i1 a (seq_ne p h1) its.toArray) (drawsK (A := X.A.in1) (I.ok.hd hc) j i2 b (seq_ne p2 h2) its2.toArray) hz hI hO ⟨h1, p⟩ ⟨h2, p2⟩ (by simp; omega) (by simp; omega) (by simp; omega) fin
  self := fun A i s Q E st h => wpAny_pyIter_zip st.1 h
/-! ### the walks begin -/
theorem meetsEnum {v : Value} {o : Obj} {G : Heap → Prop} (B : Begins v o G) :
    Meets (Builtin.«enumerate.__new__» ⟨[.type "enumerate", v], []⟩) (fun _ R s => G s.heap ∧ R (.ok (.ret (.ref (s.heap.push o).objs.size))) { s with heap := (s.heap.push o).push { cls := .type "enumerate", data := .fields #[.none, .bool false, .ref s.heap.objs.size, rawInt 0, .none, .none] } }) :=
  .of_wp fun P w A R s h => by
    obtain ⟨hp, g, d, tk, os⟩ := s
    obtain ⟨hG, h⟩ := h
    have sub := sub_enumerate
    have it : ∀ {A' : Around} {E : Value → Shared → Prop} {Q : Value → Shared → Prop}, Q (.ref hp.objs.size) ⟨hp.push o, g, d, tk, os⟩ → wpAny (model P w) A' (pyIter v) Q E ⟨hp, g, d, tk, os⟩ := fun q => B.iter P w _ _ ⟨hp, g, d, tk, os⟩ _ hG q
    wp_walk using it
    refine wpAny_stack_any fun st => wpAny_pure ?_
    split
    · rename_i c _ _ _ _ _
      cases (c == Value.type "enumerate") <;> (wp_walk using it; exact ⟨_, rfl, h⟩)
    · wp_walk using it
      exact ⟨_, rfl, h⟩
theorem callEnum {P : Program} {w : World} {A : Around} {E : Value → Shared → Prop} {s : Shared} {v : Value} {o : Obj} {G : Heap → Prop} {Q : Value → Shared → Prop} (B : Begins v o G) (hG : G s.heap)
    (h : ∀ h', IsEnum h' (s.heap.objs.size + 1) s.heap.objs.size 0 .none → h'.get? s.heap.objs.size = some o → (∀ b o, s.heap.get? b = some o → h'.get? b = some o) → Q (.ref (s.heap.objs.size + 1)) { s with heap := h' }) :
    wpAny (model P w) A (call (.type "enumerate") [v]) Q E s := by
  refine callType_new F.called_enumerate (by decide) (F.typeCall_enumerate_1 _) (F.newCall_enumerate_1 _) (fun obj => F.args_object_init_2 obj _) F.entry_enumerate_new (meetsEnum B) ⟨hG, ?_⟩
  have hz : (s.heap.push o).objs.size = s.heap.objs.size + 1 := Heap.size_push ..
  show _ ∧ _
  rw [hz]
  have he : IsEnum ((s.heap.push o).push { cls := .type "enumerate", data := .fields #[.none, .bool false, .ref s.heap.objs.size, rawInt 0, .none, .none] }) (s.heap.objs.size + 1) s.heap.objs.size 0 .none := by
    have q := Heap.get?_push_size (s.heap.push o) (o := { cls := .type "enumerate", data := .fields #[.none, .bool false, .ref s.heap.objs.size, rawInt 0, .none, .none] }) rfl
    rwa [hz] at q
  exact ⟨⟨_, he, rfl⟩, h _ he (Heap.get?_push_of_some _ (Heap.get?_push_size _ B.free)) fun b o x => Heap.get?_push_of_some _ (Heap.get?_push_of_some _ x)⟩
/-- a sequence that may be walked beside another -/
def sqSrc (h : AH) (w : W) : Option Src := match w with
  | .tup xs => some { items := xs, chk := chkT }
  | .lst xs => some { items := xs, chk := chkT }
  | .ref n => match h[n]? with
    | some (.lst xs) => some { items := xs, chk := chkL n xs }
    | _ => none
  | _ => none
def Fix (M : Md) (ρ : Rho) (H : Hp) (src : Src) (k : Bool) (a : Addr) : Prop := ∀ ρ' H' ah', Fr0 ρ H ρ' H' → RelH M ρ' H' ah' → src.chk ah' = true → ∃ vs, SK M.K k H' a vs ∧ RWs M ρ' H' src.items vs ∧ ∀ ys, SK M.K k H' a ys → ys = vs
theorem Fix.mono {M : Md} {ρ ρ1 : Rho} {H H1 : Hp} {src : Src} {k : Bool} {a : Addr} (f : Fr ρ H ρ1 H1) (h : Fix M ρ H src k a) : Fix M ρ1 H1 src k a := fun ρ' H' ah' f' => h ρ' H' ah' (f.weak.trans f')
section
variable {X : Cx} {Wx : WX} {pins : List (Addr × Obj)} {σ : L2.St} {s : Shared} {ρ : Rho} {H : Hp} {ah : AH} {w : W} {x : V} {src : Src}
theorem sq_fix (I : Inv X pins σ H s) (r : RW (mdOf X) ρ H w x) (R : RelH (mdOf X) ρ H ah) (e : sqSrc ah w = some src) : src.chk ah = true ∧ src.raw = false ∧ ∃ a k, x = .ref a ∧ (∃ vs, SK X.K k H a vs) ∧ Fix (mdOf X) ρ H src k a := by
  unfold sqSrc at e
  split at e
  · cases e
    rw [RW] at r
    obtain ⟨a, vs, rfl, h1, h2⟩ := r
    have nk : X.K.lookup a = none := noK_of I (by obtain ⟨⟨o, q, _⟩, _⟩ := h1; rw [q]; exact fun z => nomatch z)
    exact ⟨rfl, rfl, a, true, rfl, ⟨vs, h1.sq⟩, fun ρ' H' ah' f R' _ => ⟨vs, (h1.mono0 f).sq, RWs.mono0 f _ _ h2, fun ys hy => tup_K (h1.mono0 f) nk hy⟩⟩
  · cases e
    rw [RW] at r
    obtain ⟨a, vs, rfl, h1, h2⟩ := r
    have nk : X.K.lookup a = none := noK_of I (by rw [h1.1]; exact fun z => nomatch z)
    exact ⟨rfl, rfl, a, false, rfl, ⟨vs, h1.sq⟩, fun ρ' H' ah' f R' _ => ⟨vs, (h1.mono0 f).sq, RWs.mono0 f _ _ h2, fun ys hy => sqL_tr (h1.mono0 f).1 (.inr trivial) hy nk⟩⟩
  · split at e
    · rename_i n _ xs q
      cases e
      rw [RW] at r
      obtain ⟨a, rfl, h1⟩ := r
      obtain ⟨vs, h2, h3⟩ := R.cell _ a _ h1 q
      have nk : X.K.lookup a = none := noK_of I (by rw [h2]; exact fun z => nomatch z)
      refine ⟨?_, rfl, a, false, rfl, ⟨vs, SqL.of h2⟩, fun ρ' H' ah' f R' hc => ?_⟩
      · show chkL n xs ah = true
        unfold chkL
        rw [q]
        exact W.beqs_self _
      · replace hc : chkL n xs ah' = true := hc
        unfold chkL at hc
        split at hc
        · rename_i q'
          obtain ⟨vs', h2', h3'⟩ := R'.cell _ a _ (f.pre _ _ h1) q'
          rw [W.eq_of_beqs _ _ hc] at h3'
          exact ⟨vs', SqL.of h2', h3', fun ys hy => sqL_tr h2' (.inr trivial) hy nk⟩
        · cases hc
    · cases e
  · cases e
def enW (xs : List W) : List W := xs.zipIdx.map fun p => .tup [.int (p.2 : Nat), p.1]
def zpW (xs ys : List W) : List W := List.zipWith (fun x y => .tup [x, y]) xs ys
/-- for .. in enumerate(..) -/
def iEn (a : DE) : DI := fun env h => (a env h).bind fun w h1 => match sqSrc h1 w with
  | some src => .ok { items := enW src.items, chk := src.chk, raw := true } h1
  | none => .stuck
def iZp (a : DA) : DI := fun env h => (a env h).bind fun ws h1 => match ws with
  | [x, y] => match sqSrc h1 x, sqSrc h1 y with
    | some s1, some s2 => .ok { items := zpW s1.items s2.items, chk := fun h => s1.chk h && s2.chk h, raw := true } h1
    | _, _ => .stuck
  | _ => .stuck
theorem enW_get {xs : List W} {i : Nat} {w : W} (h : (enW xs)[i]? = some w) : ∃ x, xs[i]? = some x ∧ w = .tup [.int (i : Nat), x] := by
  unfold enW at h
  rw [List.getElem?_map] at h
  obtain ⟨p, hp, rfl⟩ := Option.map_eq_some_iff.mp h
  rw [List.getElem?_zipIdx] at hp
  obtain ⟨x, hx, rfl⟩ := Option.map_eq_some_iff.mp hp
  exact ⟨x, hx, by simp⟩
theorem raw_new {M : Md} {ρ : Rho} {H : Hp} {ah : AH} {T : Addr} {ws : List W} {vs : List V} (R : RelH M ρ H ah) (hT : H T = none) (r : RWs M ρ H ws vs) : Fr ρ H ρ (upd H T (.tup vs)) ∧ RelH M ρ (upd H T (.tup vs)) ah ∧ YR M true ρ (upd H T (.tup vs)) (.tup ws) (.ref T) :=
  ⟨Fr.upd hT, R.upd hT, ws, T, vs, rfl, rfl, .inl (.inl upd_same), RWs.mono (Fr.upd hT) _ _ r⟩
theorem itE_ok {M : Md} {ρ : Rho} {H : Hp} {src : Src} {k : Bool} {a : Addr} (h : Fix M ρ H src k a) : ItOk M ρ H { items := enW src.items, chk := src.chk, raw := true } (ItE M.K k a) := by
  intro ρ' H' ah' f R hc i
  obtain ⟨vs, h1, h2, h3⟩ := h ρ' H' ah' f R hc
  refine ⟨fun hi => ⟨vs, h1, by rw [h2.length]; exact Nat.le_of_eq (by simpa [enW] using hi)⟩, fun w e => ?_⟩
  obtain ⟨x, hx, rfl⟩ := enW_get e
  obtain ⟨v, ev, rv⟩ := h2.get hx
  refine ⟨⟨vs, v, h1, ev⟩, fun v' H'' ⟨T, y, e1, e2, e3, e4⟩ => ?_⟩
  subst e1 e3
  have := e4 vs h1
  rw [ev] at this
  cases this
  exact raw_new R e2 (.cons (by rw [RW]) (.cons rv .nil))
theorem itZ_ok {M : Md} {ρ : Rho} {H : Hp} {s1 s2 : Src} {k j : Bool} {a b : Addr} (g : Fix M ρ H s1 k a) (h : Fix M ρ H s2 j b) : ItOk M ρ H { items := zpW s1.items s2.items, chk := fun h => s1.chk h && s2.chk h, raw := true } (ItZ M.K k j a b) := by
  intro ρ' H' ah' f R hc i
  obtain ⟨c1, c2⟩ := Bool.and_eq_true_iff.mp hc
  obtain ⟨vs, h1, h2, h3⟩ := g ρ' H' ah' f R c1
  obtain ⟨us, g1, g2, g3⟩ := h ρ' H' ah' f R c2
  have l1 := h2.length
  have l2 := g2.length
  refine ⟨fun hi => ⟨vs, us, h1, g1, ?_⟩, fun w e => ?_⟩
  · have : min s1.items.length s2.items.length = i := by simpa [zpW] using hi
    omega
  · have e' : (zpW s1.items s2.items)[i]? = some w := e
    unfold zpW at e'
    rw [List.getElem?_zipWith] at e'
    obtain ⟨x, y, hx, hy, rfl⟩ : ∃ x y, s1.items[i]? = some x ∧ s2.items[i]? = some y ∧ w = .tup [x, y] := by
      split at e'
      · rename_i x y q1 q2
        cases e'
        exact ⟨_, _, q1, q2, rfl⟩
      · cases e'
    obtain ⟨v, ev, rv⟩ := h2.get hx
    obtain ⟨u, eu, ru⟩ := g2.get hy
    refine ⟨⟨vs, us, v, u, h1, g1, ev, eu⟩, fun v' H'' ⟨T, y1, y2, e1, e2, e3, e4, e5⟩ => ?_⟩
    subst e1 e3
    have q1 := e4 vs h1
    have q2 := e5 us g1
    rw [ev] at q1
    rw [eu] at q2
    cases q1
    cases q2
    exact raw_new R e2 (.cons rv (.cons ru .nil))
variable {e : Expr} {es : List Expr} {p pos tpos : Pos} {elts : List Expr} {kk : Nat} {fe : DE} {fs : DA}
theorem r_iEn (hm : X.mg "enumerate" = none) (hg : Gl X "enumerate") (he : PE X e (tE (mdOf X) Wx fe)) (hs : noStar [e] = true) : PI X (.Tuple elts kk tpos) (.Call (.Name "enumerate" p) [e] [] pos) (tI (mdOf X) Wx (iEn fe)) := by
  refine ⟨fun pins s σ H R I ⟨ρ, env, ah, re, rh, o⟩ => ?_⟩
  obtain ⟨hst, _⟩ := noStar_cons hs X.env
  have ha : PA X [e] (tA (mdOf X) Wx (dCons fe dNil)) := r_cons he r_nil hst
  have o' : OutG (mdOf X) (ItOk (mdOf X)) ρ H ((dCons fe dNil env ah).bind fun ws h1 => match ws with
    | [w] => match sqSrc h1 w with
      | some src => .ok { items := enW src.items, chk := src.chk, raw := true } h1
      | none => .stuck
    | _ => .stuck) R (WE Wx σ) := by
    have q : (dCons fe dNil env ah).bind (fun ws h1 => match ws with
      | [w] => match sqSrc h1 w with
        | some src => (.ok { items := enW src.items, chk := src.chk, raw := true } h1 : Res Src)
        | none => .stuck
      | _ => .stuck) = iEn fe env ah := by
      unfold dCons dNil iEn
      cases fe env ah <;> rfl
    rw [q]
    exact o
  refine Call_ (ld_blt I hg hm boot_enumerate (PyProof.Rows.callWith_type1 (thn (ha.run pos pins s σ H _ I (tA_then re rh o')) fun us s1 ⟨vs, H1, I1, r1, ρ1, ah1, ws, f1, rh1, rw1, o1⟩ => ?_) hst rfl))
  split at o1
  · rename_i w
    obtain ⟨v, rfl, rv⟩ := rws1 rw1
    split at o1
    · rename_i src hsr
      obtain ⟨c, _, a, k, rfl, ⟨ys, hq⟩, fx⟩ := sq_fix I1 rv rh1 hsr
      obtain rfl := Vals.ref1 r1
      obtain ⟨its, rv', pq⟩ := invSeq I1 hq
      refine callEnum (beginsK k a its.toArray) pq fun h' hE hO hk => wpAny_pyIter_enum hE ?_
      have I2 : Inv X pins σ H1 { s1 with heap := h' } := I1.kept (t' := s1.toks) hk
      refine ⟨s1.heap.objs.size + 1, [s1.heap.objs.size + 1, s1.heap.objs.size], _, _, H1, rfl, I2, turnE (k := k) (a := a) (e := s1.heap.objs.size + 1) (it := s1.heap.objs.size), ⟨⟨.none, hE⟩, ItAt.first hO, Nat.succ_ne_self _⟩, fun b hb => ?_, o1 ρ1 _ H1 (Fr.refl _ _) rh1 (itE_ok fx)⟩
      have hle : s1.heap.objs.size ≤ b := by
        rcases (show b = s1.heap.objs.size + 1 ∨ b = s1.heap.objs.size by simpa using hb) with z | z <;> rw [z]
        · exact Nat.le_add_right _ _
        · exact Nat.le_refl _
      exact I1.fpOk hle (I1.hok.fresh hle)
    · exact o1.elim
  · exact o1.elim
theorem apart_new (n : Nat) : Apart (n + 4) (n + 2) (n + 3) n (n + 1) := ⟨(by omega : (n + 2 : Nat) ≠ n + 4), (by omega : (n + 3 : Nat) ≠ n + 4), (by omega : (n + 2 : Nat) ≠ n + 3), (by omega : (n + 2 : Nat) ≠ n), (by omega : (n + 2 : Nat) ≠ n + 1), (by omega : (n + 4 : Nat) ≠ n), (by omega : (n + 4 : Nat) ≠ n + 1), (by omega : (n + 3 : Nat) ≠ n), (by omega : (n + 3 : Nat) ≠ n + 1), (by omega : (n : Nat) ≠ n + 1)⟩
theorem r_iZp {e2 : Expr} (hm : X.mg "zip" = none) (hg : Gl X "zip") (ha : PA X [e, e2] (tA (mdOf X) Wx fs)) (hs : noStar [e, e2] = true) : PI X (.Tuple elts kk tpos) (.Call (.Name "zip" p) [e, e2] [] pos) (tI (mdOf X) Wx (iZp fs)) := by
  refine ⟨fun pins s σ H R I ⟨ρ, env, ah, re, rh, o⟩ => ?_⟩
  obtain ⟨hst, hs2⟩ := noStar_cons hs X.env
  refine Call_ (ld_blt I hg hm PyProof.Rows.boot_zip (PyProof.Rows.callWith_type1 (thn (ha.run pos pins s σ H _ I (tA_then re rh o)) fun us s1 ⟨vs, H1, I1, r1, ρ1, ah1, ws, f1, rh1, rw1, o1⟩ => ?_) hst (noStar_any hs2 X.env pos)))
  split at o1
  · rename_i x y
    obtain ⟨u, v, rfl, ru, rv⟩ := rws2 rw1
    split at o1
    · rename_i sr1 sr2 h1 h2
      obtain ⟨_, _, a, k, rfl, ⟨xs, hqx⟩, fx⟩ := sq_fix I1 ru rh1 h1
      obtain ⟨_, _, b, j, rfl, ⟨ys, hqy⟩, fy⟩ := sq_fix I1 rv rh1 h2
      cases r1 with
      | cons r rr =>
        cases rr with
        | cons r' rr =>
          cases rr
          cases r
          cases r'
          obtain ⟨its, rx, px⟩ := invSeq I1 hqx
          obtain ⟨its2, ry, py⟩ := invSeq I1 hqy
          have la : a < s1.heap.objs.size := px.lt
          have lb : b < s1.heap.objs.size := py.lt
          refine zip_begins2 (beginsK k a its.toArray) (beginsK j b its2.toArray) px py fun h' hz hI hO h1 h2 hsz hk => wpAny_pyIter_zip hz ?_
          have I2 : Inv X pins σ H1 { s1 with heap := h' } := I1.kept (t' := s1.toks) hk
          have nO : ∀ {c : Addr}, c < s1.heap.objs.size → c ≠ s1.heap.objs.size + 3 := fun {c} h e => absurd e (Nat.ne_of_lt (Nat.lt_of_lt_of_le h (Nat.le_add_right _ _)))
          refine ⟨s1.heap.objs.size + 4, [s1.heap.objs.size + 4, s1.heap.objs.size + 2, s1.heap.objs.size + 3, s1.heap.objs.size, s1.heap.objs.size + 1], _, _, H1, rfl, I2, turnZ (k := k) (j := j) (a := a) (b := b) (apart_new s1.heap.objs.size) (nO la) (nO lb), ⟨hz, hI, ⟨_, _, hO⟩, ItAt.first h1, ItAt.first h2⟩, fun c hcm => ?_, o1 ρ1 _ H1 (Fr.refl _ _) rh1 (itZ_ok fx fy)⟩
          have hle : s1.heap.objs.size ≤ c := by
            rcases (show c = s1.heap.objs.size + 4 ∨ c = s1.heap.objs.size + 2 ∨ c = s1.heap.objs.size + 3 ∨ c = s1.heap.objs.size ∨ c = s1.heap.objs.size + 1 by simpa using hcm) with z | z | z | z | z <;> rw [z]
            · exact Nat.le_add_right _ _
            · exact Nat.le_add_right _ _
            · exact Nat.le_add_right _ _
            · exact Nat.le_refl _
            · exact Nat.le_add_right _ _
          exact I1.fpOk hle (I1.hok.fresh hle)
    · exact o1.elim
  · exact o1.elim
end
end Dn
end
section
set_option Elab.async false
set_option linter.all false
set_option maxRecDepth 100000
set_option maxHeartbeats 4000000
namespace Dn
open PySem PySem.Spec PyProof.Rows L2

/-! ### keys -/
def nkD : Nat → W → Bool
  | _, .non => true
  | _, .int _ => true
  | _, .str _ => true
  | n + 1, .tup xs => xs.all (nkD n)
  | _, _ => false
theorem nkDs_ok {n : Nat} (ih : ∀ w, nkD n w = true → ∃ k, nkW w = some k ∧ k.depth ≤ n) : ∀ ws : List W, ws.all (nkD n) = true → ∃ ks, nkWs ws = some ks ∧ NestedKey.depthAll ks ≤ n
  | [], _ => ⟨[], rfl, Nat.zero_le _⟩
  | w :: ws, h => by
    rw [List.all_cons, Bool.and_eq_true_iff] at h
    obtain ⟨k, e, d⟩ := ih w h.1
    obtain ⟨ks, e', d'⟩ := nkDs_ok ih ws h.2
    exact ⟨k :: ks, by rw [nkWs, e, e'], by rw [NestedKey.depthAll]; exact Nat.max_le.mpr ⟨d, d'⟩⟩
theorem nkD_ok : ∀ (n : Nat) (w : W), nkD n w = true → ∃ k, nkW w = some k ∧ k.depth ≤ n
  | n, .non, _ => ⟨.none, rfl, by simp [NestedKey.depth]⟩
  | n, .int i, _ => ⟨.num i, rfl, by simp [NestedKey.depth]⟩
  | n, .str x, _ => ⟨.text x, rfl, by simp [NestedKey.depth]⟩
  | n + 1, .tup xs, h => by
    rw [nkD] at h
    obtain ⟨ks, e, d⟩ := nkDs_ok (nkD_ok n) xs h
    exact ⟨.tup ks, by rw [nkW, e]; rfl, by rw [NestedKey.depth]; omega⟩
  | 0, .tup xs, h => by simp [nkD] at h
  | n, .bl _, h => by cases n <;> simp [nkD] at h
  | n, .lst _, h => by cases n <;> simp [nkD] at h
  | n, .dct _ _, h => by cases n <;> simp [nkD] at h
  | n, .ref _, h => by cases n <;> simp [nkD] at h
  | n, .glo _, h => by cases n <;> simp [nkD] at h
  | n, .scr _, h => by cases n <;> simp [nkD] at h
  | n, .erx _, h => by cases n <;> simp [nkD] at h
  | n, .err _ _, h => by cases n <;> simp [nkD] at h
  | n, .any, h => by cases n <;> simp [nkD] at h
theorem nkWs_inj {n : Nat} (ih : ∀ a b k, nkD n a = true → nkD n b = true → nkW a = some k → nkW b = some k → a = b) : ∀ (as bs : List W) ks, as.all (nkD n) = true → bs.all (nkD n) = true → nkWs as = some ks → nkWs bs = some ks → as = bs
  | [], [], _, _, _, _, _ => rfl
  | [], b :: bs, ks, _, _, h1, h2 => by
    rw [nkWs] at h1
    cases h1
    rw [nkWs] at h2
    split at h2 <;> cases h2
  | a :: as, [], ks, _, _, h1, h2 => by
    rw [nkWs] at h2
    cases h2
    rw [nkWs] at h1
    split at h1 <;> cases h1
  | a :: as, b :: bs, ks, d1, d2, h1, h2 => by
    rw [List.all_cons, Bool.and_eq_true_iff] at d1 d2
    rw [nkWs] at h1 h2
    split at h1
    · rename_i k r e1 e2
      cases h1
      split at h2
      · rename_i k' r' e3 e4
        cases h2
        rw [ih a b _ d1.1 d2.1 e1 e3, nkWs_inj ih as bs _ d1.2 d2.2 e2 e4]
      · cases h2
    · cases h1
theorem nkW_inj : ∀ (n : Nat) (a b : W) (k : NestedKey), nkD n a = true → nkD n b = true → nkW a = some k → nkW b = some k → a = b := by
  intro n
  induction n with
  | zero =>
    intro a b k d1 d2 h1 h2
    cases a <;> simp [nkD] at d1 <;> cases b <;> simp [nkD] at d2 <;> simp [nkW] at h1 h2 <;> first | rfl | (subst h1; simp at h2) <;> (try (rw [h2]))
  | succ n ih =>
    intro a b k d1 d2 h1 h2
    cases a with
    | tup as => cases b with
      | tup bs =>
        rw [nkD] at d1 d2
        rw [nkW] at h1 h2
        obtain ⟨ks, e, rfl⟩ := Option.map_eq_some_iff.mp h1
        obtain ⟨ks', e', q⟩ := Option.map_eq_some_iff.mp h2
        cases q
        rw [nkWs_inj ih as bs _ d1 d2 e e']
      | _ =>
        rw [nkW] at h1
        obtain ⟨ks, e, rfl⟩ := Option.map_eq_some_iff.mp h1
        simp [nkW] at h2
        try simp [nkD] at d2
    | _ =>
      cases b with
      | tup bs =>
        rw [nkW] at h2
        obtain ⟨ks, e, rfl⟩ := Option.map_eq_some_iff.mp h2
        simp [nkW] at h1
        try simp [nkD] at d1
      | _ => simp [nkD] at d1 <;> simp [nkD] at d2 <;> simp [nkW] at h1 h2 <;> first | rfl | (subst h1; simp at h2) <;> (try (rw [h2]))
def flatB : W → Bool
  | .int _ => true
  | .str _ => true
  | _ => false
def nestB : W → Bool
  | .tup xs => nkD 8 (.tup xs)
  | _ => false
def kdOk (ks : List W) (k : W) : Bool := (flatB k && ks.all flatB) || (nestB k && ks.all nestB)
def dGet : List W → List W → W → Option W
  | k' :: ks, w :: ws, k => if W.beq k' k then some w else dGet ks ws k
  | _, _, _ => none
def dPutK : List W → W → List W
  | k' :: ks, k => if W.beq k' k then k' :: ks else k' :: dPutK ks k
  | [], k => [k]
def dPutV : List W → List W → W → W → List W
  | k' :: ks, w :: ws, k, v => if W.beq k' k then v :: ws else w :: dPutV ks ws k v
  | _, _, _, v => [v]
theorem beq_iff {a b : W} : W.beq a b = true ↔ a = b := ⟨W.eq_of_beq a b, fun e => by rw [e]; exact W.beq_self b⟩
theorem flat_key {k : W} (h : flatB k = true) : ∃ q, keyW k = some q ∧ ∀ (M : Md) ρ H v, RW M ρ H k v → v = kV q := by
  cases k with
  | int i => exact ⟨.inl i, rfl, fun M ρ H v r => by rw [RW] at r; exact r⟩
  | str x => exact ⟨.inr x, rfl, fun M ρ H v r => by rw [RW] at r; exact r⟩
  | _ => cases h
theorem key_inj {a b : W} {q : Key} (h1 : keyW a = some q) (h2 : keyW b = some q) : a = b := by
  cases a <;> simp [keyW] at h1 <;> cases b <;> simp [keyW] at h2 <;> subst h1 <;> simp at h2 <;> rw [h2]
theorem key_flat {k : W} {q : Key} (h : keyW k = some q) : flatB k = true := by
  cases k <;> first | rfl | (simp [keyW] at h)
/-! the table with flat keys -/
theorem kv_cons {k : W} {ks : List W} {vs : List V} {kvs : List (Key × V)} (h : kvOf (k :: ks) vs = some kvs) : ∃ q v vs' r, vs = v :: vs' ∧ keyW k = some q ∧ kvOf ks vs' = some r ∧ kvs = (q, v) :: r := by
  cases vs with
  | nil => simp [kvOf] at h
  | cons v vs =>
    rw [kvOf] at h
    split at h
    · rename_i q r e1 e2
      cases h
      exact ⟨q, v, vs, r, rfl, e1, e2, rfl⟩
    · cases h
theorem kv_get {M : Md} {ρ : Rho} {H : Hp} {k : W} {q : Key} (hk : keyW k = some q) : ∀ {ks ws : List W} {vs : List V} {kvs : List (Key × V)}, kvOf ks vs = some kvs → RWs M ρ H ws vs → match dGet ks ws k with
    | some w => ∃ v, valV kvs q = some v ∧ RW M ρ H w v
    | none => valV kvs q = none
  | [], ws, vs, kvs, h, r => by
    have e : kvs = [] := by
      cases vs with
      | nil => simp [kvOf] at h; exact h
      | cons v vs => simp [kvOf] at h
    subst e
    simp [dGet, valV]
  | k' :: ks, ws, vs, kvs, h, r => by
    obtain ⟨q', v, vs', r', rfl, e1, e2, rfl⟩ := kv_cons h
    cases ws with
    | nil => rw [RWs] at r; cases r
    | cons w ws =>
      rw [RWs] at r
      obtain ⟨v', r'', ev, r1, r2⟩ := r
      cases ev
      rw [dGet]
      by_cases hb : W.beq k' k = true
      · rw [if_pos hb]
        have := beq_iff.mp hb
        subst this
        rw [hk] at e1
        cases e1
        exact ⟨v, valV_pos (p := (q, v)) rfl, r1⟩
      · rw [if_neg hb]
        have ne : ¬ q' = q := fun e => hb (beq_iff.mpr (key_inj (q := q) (by rw [← e]; exact e1) hk))
        rw [valV_neg (p := (q', v)) ne]
        exact kv_get hk e2 r2
theorem kv_keys : ∀ {ks : List W} {vs : List V} {kvs : List (Key × V)}, kvOf ks vs = some kvs → ks.map keyW = kvs.map (fun p => some p.1)
  | [], vs, kvs, h => by
    cases vs with
    | nil => simp [kvOf] at h; subst h; rfl
    | cons v vs => simp [kvOf] at h
  | k :: ks, vs, kvs, h => by
    obtain ⟨q, v, vs', r, rfl, e1, e2, rfl⟩ := kv_cons h
    rw [List.map_cons, List.map_cons, e1, kv_keys e2]
theorem putK_cons_eq {q : Key} {x y : V} {r : List (Key × V)} (hn : (((q, x) :: r).map (·.1)).Nodup) : putK ((q, x) :: r) q y = (q, y) :: r := by
  unfold putK
  rw [if_pos (by simp)]
  rw [List.map_cons, if_pos rfl]
  congr 1
  refine (List.map_congr_left fun p hp => ?_).trans (List.map_id r)
  rw [if_neg]
  · rfl
  · intro e
    have : q ∉ r.map (·.1) := (List.nodup_cons.mp hn).1
    exact this (e ▸ List.mem_map_of_mem hp)
theorem putK_cons_ne {q q' : Key} {x y : V} {r : List (Key × V)} (ne : ¬ q' = q) : putK ((q', x) :: r) q y = (q', x) :: putK r q y := by
  unfold putK
  rw [List.any_cons]
  have : decide (q' = q) = false := decide_eq_false ne
  simp only [this, Bool.false_or]
  split
  · rw [List.map_cons, if_neg ne]
  · rfl
theorem kv_put {M : Md} {ρ : Rho} {H : Hp} {k w : W} {q : Key} {x : V} (hk : keyW k = some q) (rx : RW M ρ H w x) : ∀ {ks ws : List W} {vs : List V} {kvs : List (Key × V)}, kvOf ks vs = some kvs → (kvs.map (·.1)).Nodup → RWs M ρ H ws vs →
    ∃ us, RWs M ρ H (dPutV ks ws k w) us ∧ kvOf (dPutK ks k) us = some (putK kvs q x)
  | [], ws, vs, kvs, h, hn, r => by
    cases vs with
    | cons v vs => simp [kvOf] at h
    | nil =>
      simp [kvOf] at h
      subst h
      refine ⟨[x], ?_, ?_⟩
      · unfold dPutV
        exact .cons rx .nil
      · show kvOf [k] [x] = _
        simp [kvOf, hk, putK]
  | k' :: ks, ws, vs, kvs, h, hn, r => by
    obtain ⟨q', v, vs', r', rfl, e1, e2, rfl⟩ := kv_cons h
    cases ws with
    | nil => rw [RWs] at r; cases r
    | cons u ws =>
      rw [RWs] at r
      obtain ⟨v', r'', ev, r1, r2⟩ := r
      cases ev
      rw [dPutV, dPutK]
      by_cases hb : W.beq k' k = true
      · rw [if_pos hb, if_pos hb]
        have := beq_iff.mp hb
        subst this
        rw [hk] at e1
        cases e1
        refine ⟨x :: vs', .cons rx r2, ?_⟩
        rw [putK_cons_eq hn, kvOf, hk, e2]
      · rw [if_neg hb, if_neg hb]
        have ne : ¬ q' = q := fun e => hb (beq_iff.mpr (key_inj (q := q) (by rw [← e]; exact e1) hk))
        obtain ⟨us, h1, h2⟩ := kv_put hk rx e2 (List.nodup_cons.mp hn).2 r2
        refine ⟨v :: us, .cons r1 h1, ?_⟩
        rw [putK_cons_ne ne, kvOf, e1, h2]
/-! the table with nested keys -/
theorem nk_cons {k : W} {ks : List W} {xs : List (NestedKey × Addr × Value)} (h : nkWs (k :: ks) = some (xs.map (·.1))) : ∃ x r, xs = x :: r ∧ nkW k = some x.1 ∧ nkWs ks = some (r.map (·.1)) := by
  rw [nkWs] at h
  split at h
  · rename_i q r e1 e2
    cases xs with
    | nil => simp at h
    | cons x xs =>
      simp at h
      exact ⟨x, xs, rfl, by rw [e1, h.1], by rw [e2, h.2]⟩
  · cases h
theorem nk_nil {xs : List (NestedKey × Addr × Value)} (h : nkWs [] = some (xs.map (·.1))) : xs = [] := by
  rw [nkWs] at h
  cases xs with
  | nil => rfl
  | cons x xs => simp at h
theorem atKey_pos {x : NestedKey × Addr × Value} {r : List (NestedKey × Addr × Value)} {q : NestedKey} (e : x.1 = q) : atKey (x :: r) q = some x.2 := by simp [atKey, List.find?_cons, e]
theorem atKey_neg {x : NestedKey × Addr × Value} {r : List (NestedKey × Addr × Value)} {q : NestedKey} (e : ¬ x.1 = q) : atKey (x :: r) q = atKey r q := by simp [atKey, List.find?_cons, e]
theorem nk_get {M : Md} {ρ : Rho} {H : Hp} {k : W} {q : NestedKey} (hd : nkD 8 k = true) (hk : nkW k = some q) : ∀ {ks ws : List W} {vs : List V} {xs : List (NestedKey × Addr × Value)}, ks.all (nkD 8) = true → nkWs ks = some (xs.map (·.1)) → RWs M ρ H ws vs → Vals vs (xs.map (·.2.2)) → match dGet ks ws k with
    | some w => ∃ v p, atKey xs q = some p ∧ RelV v p.2 ∧ RW M ρ H w v
    | none => atKey xs q = none
  | [], ws, vs, xs, _, h, r, rv => by
    rw [nk_nil h]
    simp [dGet, atKey]
  | k' :: ks, ws, vs, xs, d, h, r, rv => by
    rw [List.all_cons, Bool.and_eq_true_iff] at d
    obtain ⟨x, xr, rfl, e1, e2⟩ := nk_cons h
    cases rv with
    | @cons v _ vs' _ rv1 rv2 =>
      cases ws with
      | nil => rw [RWs] at r; cases r
      | cons w ws =>
        rw [RWs] at r
        obtain ⟨v', r'', ev, r1, r2⟩ := r
        cases ev
        rw [dGet]
        by_cases hb : W.beq k' k = true
        · rw [if_pos hb]
          have := beq_iff.mp hb
          subst this
          rw [hk] at e1
          cases e1
          exact ⟨v, x.2, atKey_pos rfl, rv1, r1⟩
        · rw [if_neg hb]
          have ne : ¬ x.1 = q := fun e => hb (beq_iff.mpr (nkW_inj 8 k' k q d.1 hd (by rw [← e]; exact e1) hk))
          rw [atKey_neg ne]
          exact nk_get hd hk d.2 e2 r2 rv2
theorem storedH_pos {x : NestedKey × Addr × Value} {r : List (NestedKey × Addr × Value)} {q : NestedKey} {a : Addr} {u : Value} (hn : ((x :: r).map (·.1)).Nodup) (e : x.1 = q) : storedH (x :: r) q a u = (x.1, x.2.1, u) :: r := by
  rw [storedH_old (atKey_pos e), List.map_cons, map_putAt_of_not_mem r q u (e ▸ (List.nodup_cons.mp hn).1), putAt, if_pos e]
theorem storedH_neg {x : NestedKey × Addr × Value} {r : List (NestedKey × Addr × Value)} {q : NestedKey} {a : Addr} {u : Value} (e : ¬ x.1 = q) : storedH (x :: r) q a u = x :: storedH r q a u := by
  unfold storedH
  rw [atKey_neg e]
  split
  · rw [List.map_cons, putAt, if_neg e]
  · rfl
theorem nk_put {M : Md} {ρ : Rho} {H : Hp} {k w : W} {q : NestedKey} {x : V} {a : Addr} {u : Value} (hd : nkD 8 k = true) (hk : nkW k = some q) (ra : RW M ρ H k (.ref a)) (rx : RW M ρ H w x) (ru : RelV x u) :
    ∀ {ks ws : List W} {vs : List V} {xs : List (NestedKey × Addr × Value)}, ks.all (nkD 8) = true → nkWs ks = some (xs.map (·.1)) → (xs.map (·.1)).Nodup → RWs M ρ H ws vs → Vals vs (xs.map (·.2.2)) → RWs M ρ H ks (xs.map fun x => V.ref x.2.1) →
    ∃ us, RWs M ρ H (dPutV ks ws k w) us ∧ nkWs (dPutK ks k) = some ((storedH xs q a u).map (·.1)) ∧ RWs M ρ H (dPutK ks k) ((storedH xs q a u).map fun x => V.ref x.2.1) ∧ Vals us ((storedH xs q a u).map (·.2.2))
  | [], ws, vs, xs, _, h, hn, r, rv, rk => by
    rw [nk_nil h]
    refine ⟨[x], ?_, ?_, ?_, ?_⟩
    · unfold dPutV
      exact .cons rx .nil
    · show nkWs [k] = _
      simp [nkWs, hk, storedH, atKey]
    · exact .cons ra .nil
    · exact .cons ru .nil
  | k' :: ks, ws, vs, xs, d, h, hn, r, rv, rk => by
    rw [List.all_cons, Bool.and_eq_true_iff] at d
    obtain ⟨y, xr, rfl, e1, e2⟩ := nk_cons h
    cases rv with
    | @cons v _ vs' _ rv1 rv2 =>
      cases ws with
      | nil => rw [RWs] at r; cases r
      | cons w' ws =>
        rw [RWs] at r
        obtain ⟨v', r'', ev, r1, r2⟩ := r
        cases ev
        have rk' := rk
        rw [List.map_cons, RWs] at rk'
        obtain ⟨kv, kr, ek, rk1, rk2⟩ := rk'
        cases ek
        rw [dPutV, dPutK]
        by_cases hb : W.beq k' k = true
        · rw [if_pos hb, if_pos hb]
          have := beq_iff.mp hb
          subst this
          rw [hk] at e1
          cases e1
          rw [storedH_pos hn rfl]
          exact ⟨x :: vs', .cons rx r2, by rw [nkWs, hk, e2]; rfl, .cons rk1 rk2, .cons ru rv2⟩
        · rw [if_neg hb, if_neg hb]
          have ne : ¬ y.1 = q := fun e => hb (beq_iff.mpr (nkW_inj 8 k' k q d.1 hd (by rw [← e]; exact e1) hk))
          rw [storedH_neg ne]
          obtain ⟨us, h1, h2, h3, h4⟩ := nk_put hd hk ra rx ru d.2 e2 (List.nodup_cons.mp hn).2 r2 rv2 rk2
          exact ⟨v :: us, .cons r1 h1, by rw [nkWs, e1, h2]; rfl, .cons rk1 h3, .cons rv1 h4⟩
end Dn
end
section
set_option Elab.async false
set_option linter.all false
set_option maxRecDepth 100000
set_option maxHeartbeats 4000000
namespace Dn
open PySem PySem.Spec PyProof.Rows L2

def dctOf (h : AH) (w : W) : Option (List W × List W) := match w with
  | .dct ks ws => some (ks, ws)
  | .ref n => match h[n]? with
    | some (.dct ks ws) => some (ks, ws)
    | some (.fdct ks ws) => some (ks, ws)
    | _ => none
  | _ => none
/-- a dict stands at a -/
def DR (M : Md) (ρ : Rho) (H : Hp) (a : Addr) (ks ws : List W) : Prop := ∃ vs, RWs M ρ H ws vs ∧
  ((∃ kvs, kvOf ks vs = some kvs ∧ Rd H a (.dK kvs)) ∨
   ∃ xs, Rd H a (.ext (DF M.P M.w a xs)) ∧ (a == sysModules) = false ∧ xs.length ≤ sizeLine ∧ nkWs ks = some (xs.map (·.1)) ∧ RWs M ρ H ks (xs.map fun x => V.ref x.2.1) ∧ Vals vs (xs.map (·.2.2)))
theorem DR.cell {M : Md} {ρ : Rho} {H : Hp} {a : Addr} {ks ws : List W} (h : RO M ρ H a (.dct ks ws)) : DR M ρ H a ks ws ∧ Mut (H a) := by
  obtain ⟨vs, h1, ⟨kvs, h2, h3⟩ | ⟨xs, h2, h3⟩⟩ := h
  · exact ⟨⟨vs, h1, .inl ⟨kvs, h2, .inl h3⟩⟩, by rw [h3]; trivial⟩
  · exact ⟨⟨vs, h1, .inr ⟨xs, .inl h2, h3⟩⟩, by rw [h2]; trivial⟩
theorem DR.cellF {M : Md} {ρ : Rho} {H : Hp} {a : Addr} {ks ws : List W} (h : RO M ρ H a (.fdct ks ws)) : DR M ρ H a ks ws := by
  obtain ⟨vs, h1, ⟨kvs, h2, h3⟩ | ⟨xs, h2, h3⟩⟩ := h
  · exact ⟨vs, h1, .inl ⟨kvs, h2, .inr h3⟩⟩
  · exact ⟨vs, h1, .inr ⟨xs, .inr h2, h3⟩⟩
theorem dct_at {M : Md} {ρ : Rho} {H : Hp} {ah : AH} {w : W} {v : V} {ks ws : List W} (R : RelH M ρ H ah) (r : RW M ρ H w v) (e : dctOf ah w = some (ks, ws)) : ∃ a, v = .ref a ∧ DR M ρ H a ks ws := by
  unfold dctOf at e
  split at e
  · cases e
    rw [RW] at r
    obtain ⟨a, vs, rfl, _, h1, h2⟩ := r
    exact ⟨a, rfl, vs, h1, h2⟩
  · split at e
    · rename_i q
      cases e
      rw [RW] at r
      obtain ⟨a, rfl, h1⟩ := r
      exact ⟨a, rfl, (DR.cell (R.cell _ a _ h1 q)).1⟩
    · rename_i q
      cases e
      rw [RW] at r
      obtain ⟨a, rfl, h1⟩ := r
      exact ⟨a, rfl, DR.cellF (R.cell _ a _ h1 q)⟩
    · cases e
  · cases e
theorem DR.mono {M : Md} {ρ ρ' : Rho} {H H' : Hp} {a : Addr} {ks ws : List W} (f : Fr ρ H ρ' H') (e : ∀ o, H a = some o → Kp o (H' a)) (d : DR M ρ H a ks ws) : DR M ρ' H' a ks ws := by
  obtain ⟨vs, h1, ⟨kvs, h2, h3⟩ | ⟨xs, h2, h3, h4, h5, h6, h7⟩⟩ := d
  · exact ⟨vs, RWs.mono f _ _ h1, .inl ⟨kvs, h2, Rd.kp h3 e⟩⟩
  · exact ⟨vs, RWs.mono f _ _ h1, .inr ⟨xs, Rd.kp h2 e, h3, h4, h5, RWs.mono f _ _ h6, h7⟩⟩
/-- a key, by its object -/
theorem key_all {M : Md} {ρ : Rho} {H : Hp} {h : Heap} {n : Nat} (ih : ∀ (k : W) (q : NestedKey) (v : V) (u : Value), nkD n k = true → nkW k = some q → RW M ρ H k v → RelV v u → NestedIs h q u) :
    ∀ (ks : List W) (qs : List NestedKey) (vs : List V) (us : List Value), ks.all (nkD n) = true → nkWs ks = some qs → RWs M ρ H ks vs → Vals vs us → NestedAll h qs us
  | [], qs, vs, us, _, e, r, rv => by
    rw [nkWs] at e
    cases e
    rw [RWs] at r
    subst r
    cases rv
    exact .nil
  | k :: ks, qs, vs, us, d, e, r, rv => by
    rw [List.all_cons, Bool.and_eq_true_iff] at d
    rw [nkWs] at e
    split at e
    · rename_i q qr e1 e2
      cases e
      rw [RWs] at r
      obtain ⟨v, r', rfl, r1, r2⟩ := r
      cases rv with
      | cons rv1 rv2 => exact .cons (ih k q v _ d.1 e1 r1 rv1) (key_all ih ks qr r' _ d.2 e2 r2 rv2)
    · cases e
theorem key_is {M : Md} {ρ : Rho} {H : Hp} {h : Heap} {P : Program} {w : World} (ok : HOk P w H h) : ∀ (n : Nat) (k : W) (q : NestedKey) (v : V) (u : Value), nkD n k = true → nkW k = some q → RW M ρ H k v → RelV v u → NestedIs h q u
  | n, .non, q, v, u, d, e, r, rv => by
    rw [nkW] at e
    cases e
    rw [RW] at r
    subst r
    cases (show u = .none from rv)
    exact .none
  | n, .int i, q, v, u, d, e, r, rv => by
    rw [nkW] at e
    cases e
    rw [RW] at r
    subst r
    obtain ⟨t, rfl⟩ := rv
    exact .int i t
  | n, .str x, q, v, u, d, e, r, rv => by
    rw [nkW] at e
    cases e
    rw [RW] at r
    subst r
    obtain ⟨t, rfl⟩ := rv
    exact .text x t
  | n + 1, .tup ks, q, v, u, d, e, r, rv => by
    rw [nkD] at d
    rw [nkW] at e
    obtain ⟨qs, e1, rfl⟩ := Option.map_eq_some_iff.mp e
    rw [RW] at r
    obtain ⟨a, vs, rfl, ⟨⟨o, h1, _⟩, _⟩, h2⟩ := r
    cases (show u = .ref a from rv)
    obtain ⟨g, _, its, rI, o', g', c', n', d'⟩ := ok a _ h1
    exact .tup g' c' d' (key_all (fun k q v u => key_is ok n k q v u) ks qs vs _ d e1 h2 (by simpa using rI))
  | 0, .tup _, _, _, _, d, _, _, _ => by simp [nkD] at d
  | n, .bl _, _, _, _, h, _, _, _ => by cases n <;> simp [nkD] at h
  | n, .lst _, _, _, _, h, _, _, _ => by cases n <;> simp [nkD] at h
  | n, .dct _ _, _, _, _, h, _, _, _ => by cases n <;> simp [nkD] at h
  | n, .ref _, _, _, _, h, _, _, _ => by cases n <;> simp [nkD] at h
  | n, .glo _, _, _, _, h, _, _, _ => by cases n <;> simp [nkD] at h
  | n, .scr _, _, _, _, h, _, _, _ => by cases n <;> simp [nkD] at h
  | n, .erx _, _, _, _, h, _, _, _ => by cases n <;> simp [nkD] at h
  | n, .err _ _, _, _, _, h, _, _, _ => by cases n <;> simp [nkD] at h
  | n, .any, _, _, _, h, _, _, _ => by cases n <;> simp [nkD] at h
theorem nest_is {M : Md} {ρ : Rho} {H : Hp} {h : Heap} {P : Program} {w : World} (ok : HOk P w H h) {k : W} {v : V} {u : Value} (d : nestB k = true) (r : RW M ρ H k v) (rv : RelV v u) : ∃ a q, v = .ref a ∧ u = .ref a ∧ nkW k = some q ∧ nkD 8 k = true ∧ (nestedKind P w).is h q a := by
  cases k with
  | tup xs =>
    have d' : nkD 8 (.tup xs) = true := d
    obtain ⟨q, e, l⟩ := nkD_ok 8 _ d'
    have r0 := r
    rw [RW] at r
    obtain ⟨a, vs, rfl, _⟩ := r
    cases (show u = .ref a from rv)
    exact ⟨a, q, rfl, rfl, e, d', key_is ok 8 _ q _ _ d' e r0 rfl, l⟩
  | _ => cases d
theorem nest_all {ks : List W} (h : ks.all nestB = true) : ks.all (nkD 8) = true := List.all_eq_true.mpr fun k hk => by
  have := List.all_eq_true.mp h k hk
  cases k with
  | tup xs => exact this
  | _ => cases this
section
variable {X : Cx} {pins : List (Addr × Obj)} {σ : L2.St} {H : Hp} {s : Shared} {ρ : Rho} {a : Addr} {ks ws : List W}
theorem es_nil {es : Array DictEntry} (h : es.toList = []) : es = #[] := by
  cases es with
  | mk l => simp at h; rw [h]
/-- seen as a table with flat keys -/
theorem DR.flat (I : Inv X pins σ H s) (d : DR (mdOf X) ρ H a ks ws) (hf : ks.all flatB = true) : (a == sysModules) = false ∧ ∃ vs kvs us, RWs (mdOf X) ρ H ws vs ∧ kvOf ks vs = some kvs ∧ kvs.length ≤ sizeLine ∧ KV kvs us ∧ s.heap.DictOf (mixKind X.prog X.w) a us := by
  obtain ⟨vs, r, ⟨kvs, e, h⟩ | ⟨xs, h, hs, hl, e, rk, rv⟩⟩ := d
  · obtain ⟨z, hd, us, rel, dd⟩ := dk_rd I.hok h
    exact ⟨hd, vs, kvs, us, r, e, z, rel, dd⟩
  · have e0 : ks = [] := by
      cases ks with
      | nil => rfl
      | cons k ks =>
        obtain ⟨x, xr, rfl, _, _⟩ := nk_cons e
        rw [List.map_cons, RWs] at rk
        obtain ⟨kv, kr, ek, rk1, _⟩ := rk
        cases ek
        rw [List.all_cons, Bool.and_eq_true_iff] at hf
        obtain ⟨q, _, hq⟩ := flat_key hf.1
        have := hq _ _ _ _ rk1
        cases q <;> cases this
    subst e0
    have ex := nk_nil e
    subst ex
    cases rv
    obtain ⟨⟨o, es, ep, g1, g2, g3, g4, _⟩, _⟩ := rd_of I.hok h
    refine ⟨hs, [], [], [], r, rfl, Nat.zero_le _, .nil, o, es, ep, g1, g2, g3, ?_, ?_, List.nodup_nil⟩
    · rw [es_nil g4]
      intro e he
      simp at he
    · rw [es_nil g4]
      exact .nil
/-- seen as a table with nested keys -/
theorem DR.nest (I : Inv X pins σ H s) (d : DR (mdOf X) ρ H a ks ws) (hf : ks.all nestB = true) : (a == sysModules) = false ∧ ∃ vs xs, RWs (mdOf X) ρ H ws vs ∧ xs.length ≤ sizeLine ∧ nkWs ks = some (xs.map (·.1)) ∧ RWs (mdOf X) ρ H ks (xs.map fun x => V.ref x.2.1) ∧ Vals vs (xs.map (·.2.2)) ∧ s.heap.DictOfH (nestedKind X.prog X.w) a xs := by
  obtain ⟨vs, r, ⟨kvs, e, h⟩ | ⟨xs, h, hs, hl, e, rk, rv⟩⟩ := d
  · obtain ⟨z, hd, us, rel, dd⟩ := dk_rd I.hok h
    have e0 : ks = [] := by
      cases ks with
      | nil => rfl
      | cons k ks =>
        obtain ⟨q, v, vs', r', _, e1, _, _⟩ := kv_cons e
        rw [List.all_cons, Bool.and_eq_true_iff] at hf
        have z1 := key_flat e1
        have z2 := hf.1
        exfalso
        cases k <;> first | (simp [flatB] at z1; done) | (simp [nestB] at z2; done)
    subst e0
    have ek : kvs = [] ∧ vs = [] := by
      cases vs with
      | nil => simp [kvOf] at e; exact ⟨e, rfl⟩
      | cons v vs => simp [kvOf] at e
    obtain ⟨rfl, rfl⟩ := ek
    cases rel
    obtain ⟨o, es, ep, g1, g2, g3, _, g4, _⟩ := dd
    refine ⟨hd, [], [], r, Nat.zero_le _, rfl, by rw [RWs]; rfl, .nil, o, es, ep, g1, g2, g3, ?_, fun x hx => by simp at hx, List.nodup_nil⟩
    have hl := g4.length
    have : es.toList = [] := List.eq_nil_of_length_eq_zero hl
    rw [this]; rfl
  · obtain ⟨⟨o, es, ep, g1, g2, g3, g4, g5⟩, _⟩ := rd_of I.hok h
    refine ⟨hs, vs, xs, r, hl, e, rk, rv, o, es, ep, g1, g2, g3, g4, fun x hx => ?_, g5⟩
    have aux : ∀ {ks : List W} {xs : List (NestedKey × Addr × Value)}, ks.all nestB = true → nkWs ks = some (xs.map (·.1)) → RWs (mdOf X) ρ H ks (xs.map fun x => V.ref x.2.1) → ∀ x ∈ xs, (nestedKind X.prog X.w).is s.heap x.1 x.2.1 := by
      intro ks
      induction ks with
      | nil => intro xs _ e _ x hx; rw [nk_nil e] at hx; simp at hx
      | cons k ks ih =>
        intro xs hf e rk x hx
        obtain ⟨y, yr, rfl, e1, e2⟩ := nk_cons e
        rw [List.map_cons, RWs] at rk
        obtain ⟨kv, kr, ek, rk1, rk2⟩ := rk
        cases ek
        rw [List.all_cons, Bool.and_eq_true_iff] at hf
        rcases List.mem_cons.mp hx with z | z
        · subst z
          obtain ⟨a', q, e3, _, e4, _, hi⟩ := nest_is I.hok hf.1 rk1 rfl
          cases e3
          rw [e1] at e4
          cases e4
          exact hi
        · exact ih hf.2 e2 rk2 x z
    exact aux hf e rk x hx
theorem DR.typeIs (I : Inv X pins σ H s) (d : DR (mdOf X) ρ H a ks ws) : s.TypeIs (.ref a) "dict" := by
  obtain ⟨vs, r, ⟨kvs, e, h⟩ | ⟨xs, h, hs, hl, e, rk, rv⟩⟩ := d
  · obtain ⟨z, hd, us, rel, dd⟩ := dk_rd I.hok h
    exact dd.typeIs
  · obtain ⟨⟨o, es, ep, g1, g2, g3, g4, g5⟩, _⟩ := rd_of I.hok h
    exact ⟨o, g1, g2.1⟩
theorem kdOk_or {ks : List W} {k : W} (h : kdOk ks k = true) : (flatB k = true ∧ ks.all flatB = true) ∨ (nestB k = true ∧ ks.all nestB = true) := by
  unfold kdOk at h
  rw [Bool.or_eq_true_iff, Bool.and_eq_true_iff, Bool.and_eq_true_iff] at h
  exact h
/-- d[k], there -/
theorem d_item {A : Around} {E : Value → Shared → Prop} {Q : Value → Shared → Prop} {k r : W} {y : V} {u : Value} (hu : A.units + 9 < cLine) (I : Inv X pins σ H s) (d : DR (mdOf X) ρ H a ks ws) (hk : kdOk ks k = true) (rk : RW (mdOf X) ρ H k y) (ry : RelV y u) (e : dGet ks ws k = some r)
    (h : ∀ v z s', Inv X pins σ H s' → RelV v z → RW (mdOf X) ρ H r v → Q z s') : wpAny (model X.prog X.w) A (getItem (.ref a) u) Q E s := by
  rcases kdOk_or hk with ⟨h1, h2⟩ | ⟨h1, h2⟩
  · obtain ⟨q, hq, hv⟩ := flat_key h1
    have := hv _ _ _ _ rk
    subst this
    obtain ⟨_, vs, kvs, us, r1, r2, _, rel, dd⟩ := d.flat I h2
    have g := kv_get hq r2 r1
    rw [e] at g
    obtain ⟨v, g1, g2⟩ := g
    obtain ⟨z, hz, rz⟩ := RelO.some_of (v := v) (o := valueAt us q) (by rw [← g1]; exact rel.val q)
    exact wpAny_getItem_of (kV_is ry) dd.mapOf hz (h v z _ (I.tok _) rz g2)
  · obtain ⟨b, q, rfl, rfl, e1, e2, hi⟩ := nest_is I.hok h1 rk ry
    obtain ⟨_, vs, xs, r1, _, r2, r3, r4, dd⟩ := d.nest I h2
    have g := nk_get e2 e1 (nest_all h2) r2 r1 r4
    rw [e] at g
    obtain ⟨v, p, g1, g2, g3⟩ := g
    exact wpAny_getItem_heap (by show A.in1.units + 8 < cLine; rw [Around.in1_units]; omega) hi dd g1 (h v p.2 _ (I.tok _) g2 g3)
theorem d_has {A : Around} {E : Value → Shared → Prop} {Q : Value → Shared → Prop} {k : W} {y : V} {u : Value} (hu : A.units + 9 < cLine) (I : Inv X pins σ H s) (d : DR (mdOf X) ρ H a ks ws) (hk : kdOk ks k = true) (rk : RW (mdOf X) ρ H k y) (ry : RelV y u)
    (h : ∀ s', Inv X pins σ H s' → Q (.bool (dGet ks ws k).isSome) s') : wpAny (model X.prog X.w) A (compareOp .In u (.ref a)) Q E s := by
  rcases kdOk_or hk with ⟨h1, h2⟩ | ⟨h1, h2⟩
  · obtain ⟨q, hq, hv⟩ := flat_key h1
    have := hv _ _ _ _ rk
    subst this
    obtain ⟨hd, vs, kvs, us, r1, r2, _, rel, dd⟩ := d.flat I h2
    refine wpAny_in_of (kV_is ry) hd dd.mapOf ?_
    have g := kv_get hq r2 r1
    have hv := (rel.val q).isSome_eq
    rw [← hv]
    have : (valV kvs q).isSome = (dGet ks ws k).isSome := by
      cases e : dGet ks ws k with
      | none => rw [e] at g; simp only at g; rw [g]; rfl
      | some w => rw [e] at g; obtain ⟨v, g1, _⟩ := g; rw [g1]; rfl
    rw [this]
    exact h _ (I.tok _)
  · obtain ⟨b, q, rfl, rfl, e1, e2, hi⟩ := nest_is I.hok h1 rk ry
    obtain ⟨hd, vs, xs, r1, _, r2, r3, r4, dd⟩ := d.nest I h2
    refine wpAny_in_heap (by show A.in1.units + 8 < cLine; rw [Around.in1_units]; omega) hi hd dd ?_
    have g := nk_get e2 e1 (nest_all h2) r2 r1 r4
    have : (atKey xs q).isSome = (dGet ks ws k).isSome := by
      cases e : dGet ks ws k with
      | none => rw [e] at g; simp only at g; rw [g]; rfl
      | some w => rw [e] at g; obtain ⟨v, p, g1, _⟩ := g; rw [g1]; rfl
    rw [this]
    exact h _ (I.tok _)
theorem d_hasnt {A : Around} {E : Value → Shared → Prop} {Q : Value → Shared → Prop} {k : W} {y : V} {u : Value} (hu : A.units + 9 < cLine) (I : Inv X pins σ H s) (d : DR (mdOf X) ρ H a ks ws) (hk : kdOk ks k = true) (rk : RW (mdOf X) ρ H k y) (ry : RelV y u)
    (h : ∀ s', Inv X pins σ H s' → Q (.bool (!(dGet ks ws k).isSome)) s') : wpAny (model X.prog X.w) A (compareOp .NotIn u (.ref a)) Q E s := by
  rcases kdOk_or hk with ⟨h1, h2⟩ | ⟨h1, h2⟩
  · obtain ⟨q, hq, hv⟩ := flat_key h1
    have := hv _ _ _ _ rk
    subst this
    obtain ⟨hd, vs, kvs, us, r1, r2, _, rel, dd⟩ := d.flat I h2
    refine wpAny_notIn_of (kV_is ry) hd dd.mapOf ?_
    have g := kv_get hq r2 r1
    have hv := (rel.val q).isSome_eq
    rw [← hv]
    have : (valV kvs q).isSome = (dGet ks ws k).isSome := by
      cases e : dGet ks ws k with
      | none => rw [e] at g; simp only at g; rw [g]; rfl
      | some w => rw [e] at g; obtain ⟨v, g1, _⟩ := g; rw [g1]; rfl
    rw [this]
    exact h _ (I.tok _)
  · obtain ⟨b, q, rfl, rfl, e1, e2, hi⟩ := nest_is I.hok h1 rk ry
    obtain ⟨hd, vs, xs, r1, _, r2, r3, r4, dd⟩ := d.nest I h2
    refine wpAny_notIn_heap (by show A.in1.units + 8 < cLine; rw [Around.in1_units]; omega) hi hd dd ?_
    have g := nk_get e2 e1 (nest_all h2) r2 r1 r4
    have : (atKey xs q).isSome = (dGet ks ws k).isSome := by
      cases e : dGet ks ws k with
      | none => rw [e] at g; simp only at g; rw [g]; rfl
      | some w => rw [e] at g; obtain ⟨v, p, g1, _⟩ := g; rw [g1]; rfl
    rw [this]
    exact h _ (I.tok _)
theorem dPutK_len (k : W) : ∀ ks : List W, (dPutK ks k).length ≤ ks.length + 1
  | [] => by simp [dPutK]
  | k' :: ks => by
    rw [dPutK]
    split
    · simp
    · have := dPutK_len k ks
      simp
      omega
theorem nk_len : ∀ {ks : List W} {qs : List NestedKey}, nkWs ks = some qs → qs.length = ks.length
  | [], qs, e => by rw [nkWs] at e; cases e; rfl
  | k :: ks, qs, e => by
    rw [nkWs] at e
    split at e
    · rename_i q r _ e2
      cases e
      simp [nk_len e2]
    · cases e
theorem kv_len : ∀ {ks : List W} {vs : List V} {kvs : List (Key × V)}, kvOf ks vs = some kvs → kvs.length = ks.length
  | [], vs, kvs, h => by
    cases vs with
    | nil => simp [kvOf] at h; subst h; rfl
    | cons v vs => simp [kvOf] at h
  | k :: ks, vs, kvs, h => by
    obtain ⟨q, v, vs', r, rfl, e1, e2, rfl⟩ := kv_cons h
    simp [kv_len e2]
/-- d[k] = v -/
theorem d_store {A : Around} {E : Value → Shared → Prop} {Q : Unit → Shared → Prop} {ah : AH} {n : Nat} {k w : W} {y v : V} {u z : Value} (hu : A.units + 9 < cLine) (I : Inv X pins σ H s) (R : RelH (mdOf X) ρ H ah) (hc : ρ.cells[n]? = some a) (hd : ah[n]? = some (.dct ks ws)) (hk : kdOk ks k = true) (hl : ks.length < line)
    (rk : RW (mdOf X) ρ H k y) (ry : RelV y u) (rw : RW (mdOf X) ρ H w v) (rz : RelV v z)
    (h : ∀ H' s', Inv X pins σ H' s' → Fr ρ H ρ H' → RelH (mdOf X) ρ H' (ah.set n (.dct (dPutK ks k) (dPutV ks ws k w))) → Q () s') : wpAny (model X.prog X.w) A (setItem (.ref a) u z) Q E s := by
  obtain ⟨d, mu⟩ : DR (mdOf X) ρ H a ks ws ∧ Mut (H a) := DR.cell (R.cell n a _ hc hd)
  have nf : NoFz (H a) := fun od u z => by rw [z] at mu; exact mu
  have fr : ∀ ob, Fr ρ H ρ (upd H a ob) := fun ob => Fr.write (List.mem_of_getElem? hc) (R.sep a (List.mem_of_getElem? hc)) (R.there a (Rho.cell_all hc)) nf
  rcases kdOk_or hk with ⟨h1, h2⟩ | ⟨h1, h2⟩
  · obtain ⟨q, hq, hv⟩ := flat_key h1
    have := hv _ _ _ _ rk
    subst this
    obtain ⟨hs, vs, kvs, us, r1, r2, hz, rel, dd⟩ := d.flat I h2
    have hz' : us.length ≤ sizeLine := by rw [← rel.length]; exact hz
    have hn : (kvs.map (·.1)).Nodup := by
      rw [rel.keys]
      obtain ⟨_, _, _, _, _, _, _, _, hn⟩ := dd
      exact hn
    refine wpAny_setItem_pairs (hsz := hz') (kV_is ry) dd fun h' dd' hb => ?_
    obtain ⟨xs, g1, g2⟩ := kv_put hq rw r2 hn r1
    have hl' : (putK kvs q v).length ≤ sizeLine := by
      rw [kv_len g2, ← line_eq]
      exact Nat.le_trans (dPutK_len k ks) hl
    have he : ∃ o, h'.get? a = some o := let ⟨o, _, _, ho, _⟩ := dd'; ⟨o, ho⟩
    refine h (upd H a (.dK (putK kvs q v))) _ (d_write I mu hb he (dk_new hl' hs (rel.put q rz) dd')) (fr _) (R.write hc nf ?_)
    exact ⟨xs, RWs.mono (fr _) _ _ g1, .inl ⟨_, g2, upd_same⟩⟩
  · obtain ⟨b, q, rfl, rfl, e1, e2, hi⟩ := nest_is I.hok h1 rk ry
    obtain ⟨hs, vs, xs, r1, hz, r2, r3, r4, dd⟩ := d.nest I h2
    have hn : (xs.map (·.1)).Nodup := by
      obtain ⟨_, _, _, _, _, _, _, _, hn⟩ := dd
      exact hn
    refine wpAny_setItem_heap (hsz := hz) (by show A.in1.units + 8 < cLine; rw [Around.in1_units]; omega) hi dd fun h' dd' hb => ?_
    obtain ⟨us, g1, g2, g3, g4⟩ := nk_put (u := z) e2 e1 rk rw rz (nest_all h2) r2 hn r1 r4 r3
    have hl' : (storedH xs q b z).length ≤ sizeLine := by
      have := nk_len g2
      rw [List.length_map] at this
      rw [this, ← line_eq]
      exact Nat.le_trans (dPutK_len k ks) hl
    obtain ⟨o, es, ep, f1, f2, f3, f4, f5, f6⟩ := dd'
    have new : ObjOk X.prog X.w (upd H a (.ext (DF X.prog X.w a (storedH xs q b z)))) h' a (.ext (DF X.prog X.w a (storedH xs q b z))) :=
      ⟨⟨o, es, ep, f1, f2, f3, f4, f6⟩, ⟨o, f1⟩, fun h1 h2 ⟨o, es, ep, p1, p2, p3, p4, p5⟩ hk => ⟨o, es, ep, hk o p1, p2, p3, p4, p5⟩⟩
    refine h (upd H a (.ext (DF X.prog X.w a (storedH xs q b z)))) _ (d_write I mu hb ⟨o, f1⟩ new) (fr _) (R.write hc nf ?_)
    exact ⟨us, RWs.mono (fr _) _ _ g1, .inr ⟨_, upd_same, hs, hl', g2, RWs.mono (fr _) _ _ g3, g4⟩⟩
end
end Dn
end
section
set_option Elab.async false
set_option linter.all false
set_option maxRecDepth 100000
set_option maxHeartbeats 4000000
namespace Dn
open PySem PySem.Spec PyProof.Rows L2

section
variable {X : Cx} {pins : List (Addr × Obj)} {σ : L2.St} {H : Hp} {s : Shared} {ρ : Rho} {a : Addr} {ks ws : List W}
theorem kv_flat {M : Md} {ρ : Rho} {H : Hp} : ∀ {ks : List W} {vs : List V} {kvs : List (Key × V)}, kvOf ks vs = some kvs → RWs M ρ H ks (kvs.map fun p => kV p.1) ∧ vs = kvs.map (·.2)
  | [], vs, kvs, h => by
    cases vs with
    | nil => simp [kvOf] at h; subst h; exact ⟨.nil, rfl⟩
    | cons v vs => simp [kvOf] at h
  | k :: ks, vs, kvs, h => by
    obtain ⟨q, v, vs', r, rfl, e1, e2, rfl⟩ := kv_cons h
    obtain ⟨h1, h2⟩ := kv_flat (M := M) (ρ := ρ) (H := H) e2
    refine ⟨.cons ?_ h1, by rw [h2]; rfl⟩
    cases k <;> simp [keyW] at e1 <;> subst e1 <;> (rw [RW]; rfl)
theorem keyIs_rel {q : Key} {v : Value} (h : keyIs q v = true) : RelV (kV q) v := by
  rcases keyIs_shape h with ⟨i, t, rfl, rfl⟩ | ⟨x, t, rfl, rfl⟩
  · exact ⟨t, rfl⟩
  · exact ⟨t, rfl⟩
theorem pairs_rel {P : Program} {w : World} : ∀ {kvs : List (Key × V)} {us : List (Key × Value)} {es : List DictEntry}, KV kvs us → Pairs (mixKind P w) es us → Vals (kvs.map fun p => kV p.1) (es.map (·.key)) ∧ Vals (kvs.map (·.2)) (es.map (·.val))
  | [], us, es, r, p => by
    cases r
    cases p
    exact ⟨.nil, .nil⟩
  | kv :: kvs, us, es, r, p => by
    cases r with
    | cons h t =>
      cases p with
      | cons p1 p2 p3 =>
        obtain ⟨q1, q2⟩ := pairs_rel t p3
        refine ⟨.cons ?_ q1, .cons ?_ q2⟩
        · show RelV (kV kv.1) _
          rw [h.1]
          exact keyIs_rel p1
        · have h2 := h.2
          rw [← p2] at h2
          exact h2
theorem refs_rel : ∀ xs : List (NestedKey × Addr × Value), Vals (xs.map fun x => V.ref x.2.1) (xs.map fun x => Value.ref x.2.1)
  | [] => .nil
  | _ :: xs => .cons rfl (refs_rel xs)
/-- seen as its entries -/
theorem DR.rawv (I : Inv X pins σ H s) (d : DR (mdOf X) ρ H a ks ws) : ∃ es ep vs, (a == sysModules) = false ∧ s.heap.DictRaw a es ep ∧ es.size = ks.length ∧ ks.length ≤ sizeLine ∧ RWs (mdOf X) ρ H ws vs ∧ Vals vs (es.toList.map (·.val)) ∧ ∃ ys, RWs (mdOf X) ρ H ks ys ∧ Vals ys (es.toList.map (·.key)) := by
  obtain ⟨vs, r, ⟨kvs, e, h⟩ | ⟨xs, h, hs, hl, e, rk, rv⟩⟩ := d
  · obtain ⟨z, hd, us, rel, o, es, ep, g1, g2, g3, _, g4, _⟩ := dk_rd I.hok h
    obtain ⟨f1, f2⟩ := kv_flat (M := mdOf X) (ρ := ρ) (H := H) e
    obtain ⟨p1, p2⟩ := pairs_rel rel g4
    have l := kv_len e
    refine ⟨es, ep, vs, hd, ⟨o, g1, g2, g3⟩, ?_, by rw [← l]; exact z, r, by rw [f2]; exact p2, _, f1, p1⟩
    rw [← Array.length_toList, g4.length, ← rel.length, l]
  · obtain ⟨⟨o, es, ep, g1, g2, g3, g4, g5⟩, _⟩ := rd_of I.hok h
    have l := nk_len e
    rw [List.length_map] at l
    refine ⟨es, ep, vs, hs, ⟨o, g1, g2, g3⟩, ?_, by rw [← l]; exact hl, r, ?_, _, rk, ?_⟩
    · rw [← Array.length_toList, g4, List.length_map, l]
    · rw [g4, List.map_map]
      exact rv
    · rw [g4, List.map_map]
      show Vals (xs.map fun x => V.ref x.2.1) (xs.map fun x => Value.ref x.2.1)
      exact refs_rel xs
end
/-! ### o[i] = v -/
def setV (o i w : W) (h : AH) : Option AH := match o with
  | .ref n => match h[n]? with
    | some (.lst xs) => match i with
      | .int k => (ixN xs.length k).map fun j => h.set n (.lst (xs.set j w))
      | _ => none
    | some (.dct ks ws) => if kdOk ks i = true ∧ ks.length < line then some (h.set n (.dct (dPutK ks i) (dPutV ks ws i w))) else none
    | _ => none
  | _ => none
def gSubS (fo fi : DE) : DG := fun w env h => match fo env h with
  | .ok o h1 => match fi env h1 with
    | .ok i h2 => match setV o i w h2 with
      | some h3 => .nx env h3
      | none => .stuck
    | _ => .stuck
  | _ => .stuck
theorem gSubS_nx (fo fi : DE) : ∀ w env h, OnlyNx (gSubS fo fi w env h) := fun w env h => by
  unfold gSubS
  split
  · split
    · split
      · trivial
      · trivial
    · trivial
  · trivial
def rSetS (M : Md) : TSet := fun o i v H Q => ∃ ρ wo wi w ah ah', RelH M ρ H ah ∧ RW M ρ H wo o ∧ RW M ρ H wi i ∧ RW M ρ H w v ∧ setV wo wi w ah = some ah' ∧ ∀ H', Fr ρ H ρ H' → RelH M ρ H' ah' → Q H'
section
variable {X : Cx} {Wx : WX} {o i : Expr} {pos : Pos} {fo fi : DE}
theorem set_S (hu : X.A.units + 65 < cLine) : PSet X (rSetS (mdOf X)) := by
  intro pins s σ H o i v ov iv u Q I ro ri rv ⟨ρ, wo, wi, w, ah, ah', rh, r1, r2, r3, e, q⟩
  unfold setV at e
  split at e
  · split at e
    · rename_i n _ xs hn
      split at e
      · rename_i k
        obtain ⟨j, hj, rfl⟩ := Option.map_eq_some_iff.mp e
        rw [RW] at r1
        obtain ⟨a, rfl, hc⟩ := r1
        obtain ⟨vs, h2, h3⟩ := rh.cell _ a _ hc hn
        rw [RW] at r2
        subst r2
        obtain ⟨f, r⟩ := lst_write rh hc ⟨_, h2⟩ (RWs.set r3 j h3)
        exact set_list pins s σ H _ _ v ov iv u Q I ro ri rv ⟨a, vs, k, j, rfl, rfl, h2, by rw [h3.length]; exact hj, q _ f r⟩
      · cases e
    · rename_i n _ ks ws hn
      split at e
      · rename_i hk
        cases e
        rw [RW] at r1
        obtain ⟨a, rfl, hc⟩ := r1
        cases (show ov = .ref a from ro)
        exact d_store (by omega) I rh hc hn hk.1 hk.2 r2 ri r3 rv fun H' s' I' f r => ⟨H', I', q H' f r⟩
      · cases e
    · cases e
  · cases e
theorem r_gsub (hu : X.A.units + 65 < cLine) (ho : PE X o (tE (mdOf X) Wx fo)) (hi : PE X i (tE (mdOf X) Wx fi)) (ha : ∀ v, assign (.Subscript o i pos) X.env v = (do
      let ov ← holding [v] (eval o X.env)
      let iv ← holding [v, ov] (eval i X.env)
      standAt pos
      holding [v, ov, iv] (setItem ov iv v)
      release [v, ov, iv] [])) : PG X (.Subscript o i pos) (tG (mdOf X) Wx (gSubS fo fi)) := by
  refine ⟨fun pins s σ H v u Q I r ⟨ρ, env, ah, w, re, rh, rw, oo⟩ => (pg_sub ho hi (set_S hu) ha).run pins s σ H v u Q I r ?_⟩
  unfold gSubS at oo
  split at oo
  · rename_i x1 h1 e1
    refine ⟨ρ, env, ah, re, rh, ?_⟩
    rw [e1]
    intro ρ1 v1 H1 f1 rh1 rv1
    split at oo
    · rename_i x2 h2 e2
      refine ⟨ρ1, env, h1, re.mono f1, rh1, ?_⟩
      rw [e2]
      intro ρ2 v2 H2 f2 rh2 rv2
      split at oo
      · rename_i h3 e3
        refine ⟨ρ2, x1, x2, w, h2, h3, rh2, RW.mono f2 _ _ rv1, rv2, RW.mono (f1.trans f2) _ _ rw, e3, fun H3 f3 rh3 => ?_⟩
        exact oo ρ2 σ H3 ((f1.trans f2).trans f3) (((re.mono f1).mono f2).mono f3) rh3
      · exact oo.elim
    · exact oo.elim
  · exact oo.elim
/-! ### dicts: d[k], k in d, len(d), {} -/
def idxD (w i : W) (h : AH) : Option W := match dctOf h w with
  | some (ks, ws) => if kdOk ks i = true then dGet ks ws i else none
  | none => none
theorem ok_idxD (hu : X.A.units + 65 < cLine) : IxOk X idxD := by
  intro ve se pins s σ H x y v u Q I rx ry ⟨ρ, w1, w2, r, ah, rh, r1, r2, e, q⟩ hsub
  unfold idxD at e
  split at e
  · rename_i ks ws hd
    split at e
    · rename_i hk
      obtain ⟨a, rfl, d⟩ := dct_at rh r1 hd
      cases (show v = .ref a from rx)
      exact tail_any (d.typeIs I) slot_dict_getitem.lookup (d_item (by omega) I d hk r2 ry e fun z u s' I' rz rw => ⟨z, H, I', rz, q z H (Fr.refl _ _) rh rw⟩) hsub
    · cases e
  · cases e
def inD (neg : Bool) (x y : W) (h : AH) : Option W := match dctOf h y with
  | some (ks, ws) => if kdOk ks x = true then some (.bl (neg != (dGet ks ws x).isSome)) else none
  | none => none
theorem ok_inD (hu : X.A.units + 65 < cLine) : OpOk X (compareOp .In) (inD false) := by
  intro pins s σ H x y v u Q ρ w1 w2 r ah I rx ry rh r1 r2 e q
  unfold inD at e
  split at e
  · rename_i ks ws hd
    split at e
    · rename_i hk
      cases e
      obtain ⟨a, rfl, d⟩ := dct_at rh r2 hd
      cases (show u = .ref a from ry)
      exact d_has (by omega) I d hk r1 rx fun s' I' => ⟨.bl _, H, I', rfl, q _ H (Fr.refl _ _) rh (by rw [RW, bneF])⟩
    · cases e
  · cases e
theorem ok_notInD (hu : X.A.units + 65 < cLine) : OpOk X (compareOp .NotIn) (inD true) := by
  intro pins s σ H x y v u Q ρ w1 w2 r ah I rx ry rh r1 r2 e q
  unfold inD at e
  split at e
  · rename_i ks ws hd
    split at e
    · rename_i hk
      cases e
      obtain ⟨a, rfl, d⟩ := dct_at rh r2 hd
      cases (show u = .ref a from ry)
      exact d_hasnt (by omega) I d hk r1 rx fun s' I' => ⟨.bl _, H, I', rfl, q _ H (Fr.refl _ _) rh (by rw [RW, bneT])⟩
    · cases e
  · cases e
def gLenD : List W → AH → Option W
  | [w], h => match dctOf h w with
    | some (ks, _) => some (.int ks.length)
    | none => none
  | _, _ => none
theorem ok_lenD : CallOk X (.builtin "len") gLenD := by
  intro pins s σ H vs us Q ρ ws r ah I rv rh rw e q
  unfold gLenD at e
  split at e
  · rename_i w
    obtain ⟨v, rfl, r1⟩ := rws1 rw
    split at e
    · rename_i ks ws' hd
      cases e
      obtain ⟨a, rfl, d⟩ := dct_at rh r1 hd
      cases rv with
      | cons rr rs =>
        cases rs
        cases rr
        obtain ⟨es, ep, vs', hs, hm, l1, hz, _⟩ := d.rawv I
        have l2 : es.size ≤ sizeLine := by rw [l1]; exact hz
        refine PyProof.Rows.call_len_slot (n := es.size) hm.typeIs F.slot_dict_len (fun Q' hq => call_len_raw hs hm hq) (by omega) (by rw [sizeLine_eq] at l2; omega) ?_
        rw [l1]
        exact ⟨.int ks.length, H, I.tok _, ⟨_, rfl⟩, q _ H (Fr.refl _ _) rh (by rw [RW])⟩
    · cases e
  · cases e
def dDict0 : DE := fun _ h => .ok (.ref h.length) (h ++ [.dct [] []])
theorem r_dict0 : PE X (.Dict [] [] pos) (tE (mdOf X) Wx dDict0) :=
  PE_imp pe_dnewK fun σ H Q ⟨ρ, env, ah, re, rh, o⟩ p hp => by
    refine o (ρ.push p) _ _ (Fr.push hp) (rh.push hp ⟨[], .nil, .inl ⟨[], rfl, upd_same⟩⟩) ?_
    rw [RW]
    exact ⟨p, rfl, by rw [← rh.len]; show (ρ.cells ++ [p])[ρ.cells.length]? = some p; simp⟩
/-! ### - a -/
theorem r_neg {e : Expr} {fa : DE} (he : PE X e (tE (mdOf X) Wx fa)) : PE X (.UnaryOp .USub e pos) (tE (mdOf X) Wx (dUn negV fa)) := by
  refine PE_imp (pe_un un_neg he) fun σ H Q ⟨ρ, env, ah, re, rh, o⟩ => ?_
  refine (tE_then re rh o).mono fun x H1 ⟨ρ1, ah1, w1, f1, rh1, rw1, o1⟩ => ?_
  cases w1 with
  | int i =>
    rw [RW] at rw1
    exact ⟨i, rw1, o1 ρ1 _ H1 (Fr.refl _ _) rh1 (by rw [RW])⟩
  | _ => exact o1.elim
end

/-! ### s.upper() -/
def mUpper (w : W) (ws : List W) (h : AH) : Option (W × AH) := match w, ws with
  | .str x, [] => if x.length ≤ 1000000 then some (.str (Txt.upper x), h) else none
  | _, _ => none
theorem ok_upper {X : Cx} : MtOk X "str.upper" mUpper := by
  intro pins s σ H x vs v us Q ρ w ws r ah ah' I rx rv rh r1 rw e q
  unfold mUpper at e
  split at e
  · split at e
    · rename_i hl
      cases e
      rw [RW] at r1
      subst r1
      rw [RWs] at rw
      subst rw
      exact mt_upper pins s σ H _ _ v us Q I rx rv ⟨_, rfl, rfl, by omega, q _ H (Fr.refl _ _) rh (by rw [RW])⟩
    · cases e
  · cases e
def idxW (w i : W) (h : AH) : Option W := (idxV w i h).or (idxD w i h)
theorem ok_idxW {X : Cx} (hu : X.A.units + 65 < cLine) : IxOk X idxW := ok_idx.orElse (ok_idxD hu)
def inW (neg : Bool) (x y : W) (h : AH) : Option W := (inV neg x y h).or (inD neg x y h)
theorem ok_inW {X : Cx} (hu : X.A.units + 65 < cLine) : OpOk X (compareOp .In) (inW false) := (ok_in hu).orElse (ok_inD hu)
theorem ok_notInW {X : Cx} (hu : X.A.units + 65 < cLine) : OpOk X (compareOp .NotIn) (inW true) := (ok_notIn hu).orElse (ok_notInD hu)
def gLenW (ws : List W) (h : AH) : Option W := (gLen ws h).or (gLenD ws h)
theorem ok_lenW {X : Cx} : CallOk X (.builtin "len") gLenW := ok_len.orElse ok_lenD
end Dn
end
section
set_option Elab.async false
set_option linter.all false
set_option maxRecDepth 100000
set_option maxHeartbeats 4000000
namespace Dn
open PySem PySem.Spec PyProof.Rows L2
/-! ### walks of a dict: its very object is known from here on -/
def FzAt (H : Hp) (d : Addr) (o : Obj) : Prop := ∃ u, H d = some (.frz o u)
def ItY (d : Addr) (o : Obj) (ys : List V) (n : Nat) : It :=
  ⟨fun i H => FzAt H d o ∧ i < n, fun i H x H' => H' = H ∧ ys[i]? = some x, fun i H => FzAt H d o ∧ n ≤ i⟩
def ItP (d : Addr) (o : Obj) (ks vs : List V) (n : Nat) : It :=
  ⟨fun i H => FzAt H d o ∧ i < n, fun i H x H' => ∃ T k v, ks[i]? = some k ∧ vs[i]? = some v ∧ x = .ref T ∧ H T = none ∧ H' = upd H T (.tup [k, v]), fun i H => FzAt H d o ∧ n ≤ i⟩
theorem vals_at {ys : List V} {es : Array DictEntry} {f : DictEntry → Value} (r : Vals ys (es.toList.map f)) {i : Nat} (hi : i < es.size) : ∃ x, ys[i]? = some x ∧ RelV x (f es[i]) := by
  have l := r.length
  rw [List.length_map] at l
  have l2 : es.toList.length = es.size := Array.length_toList
  have hy : ys[i]? = some (ys[i]'(by omega)) := List.getElem?_eq_getElem (by omega)
  obtain ⟨u, hu, ru⟩ := r.get hy
  rw [List.getElem?_map, Array.getElem?_toList, Array.getElem?_eq_getElem hi] at hu
  cases hu
  exact ⟨_, hy, ru⟩
section
variable {P : Program} {w : World} {K : PySem.W.Frag} {tg : Expr} {d : Addr} {o : Obj} {es : Array DictEntry} {ep : Nat}
theorem raw_of {X : Cx} {pins : List (Addr × Obj)} {σ : L2.St} {H : Hp} {s : Shared} (I : Inv X pins σ H s) (h : FzAt H d o) (hx : o.ExactDict) (hod : o.data = .dict es ep) : s.heap.DictRaw d es ep := by
  obtain ⟨u, e⟩ := h
  exact ⟨o, (I.hok d _ e).1, hx, hod⟩
theorem turnK {ys : List V} (it : Addr) (hx : o.ExactDict) (hod : o.data = .dict es ep) (rk : Vals ys (es.toList.map (·.key))) : Turn P w K tg (ItY d o ys es.size) [it] it (fun i h => h.IsKeyIter it d i es.size ep) where
  mem := by simp
  obj := fun i h st b hb => by
    have e : b = it := by simpa using hb
    subst e
    obtain ⟨oi, e, c, dd⟩ := st
    exact ⟨oi, e, fun v z => by rw [dd] at z; cases z⟩
  keep := fun i h h' st k => st.at fun oi e => k it (by simp) oi e
  item := by
    intro X hP hw hK hc i pins s σ H E I hf st hg
    subst hP hw hK
    obtain ⟨hd, hi⟩ := hg
    obtain ⟨f0, f1, f2, f3, f4, f5⟩ := hf it (by simp)
    obtain ⟨x, hxi, rx⟩ := vals_at rk hi
    refine wpAny_pyNext_keys_item_raw st (raw_of I hd hx hod) hi fun h' st' sb => ?_
    have I1 : Inv X pins σ H { s with heap := h' } := I.turned (t' := s.toks) (fun b ob hb e => (sb.2 b hb).trans e) f0 f1 f3 f4 f5
    obtain ⟨oi, e, c, dd⟩ := id st'
    exact ⟨_, rfl, go_of (s := { s with heap := h' }) e c dd (by decide) ⟨x, H, I1, rx, ⟨rfl, hxi⟩, st', fun b hb => (hf b hb).1⟩⟩
  done := by
    intro X hP hw hK hc i pins s σ H E I hf st hg
    subst hP hw hK
    obtain ⟨hd, hi⟩ := hg
    obtain ⟨f0, f1, f2, f3, f4, f5⟩ := hf it (by simp)
    exact wpAny_pyNext_keys_end_raw (I.ok.hd hc) st (raw_of I hd hx hod) hi fun h' eb => ⟨rfl, I.turned (t' := s.toks) (fun b ob hb e => eb b ob hb e) f0 f1 f3 f4 f5⟩
  self := fun A i s Q E st h => by
    refine wpAny_pyIter_slot st.typeIs F.slot_dict_keyiterator_iter (wpAny_call_entry F.slot_dict_keyiterator_iter st.typeIs F.entry_dict_keyiterator_iter ?_ (F.args_dict_keyiterator_iter_1 _))
    show wpAny _ _ (ret (.ref it)) _ _ s
    exact wpAny_pure ⟨_, rfl, "dict_keyiterator", _, st.typeIs, F.slot_dict_keyiterator_next.lookup, h⟩
theorem turnVs {ys : List V} (it : Addr) (hx : o.ExactDict) (hod : o.data = .dict es ep) (rk : Vals ys (es.toList.map (·.val))) : Turn P w K tg (ItY d o ys es.size) [it] it (fun i h => h.IsValIter it d i es.size ep) where
  mem := by simp
  obj := fun i h st b hb => by
    have e : b = it := by simpa using hb
    subst e
    obtain ⟨oi, e, c, dd⟩ := st
    exact ⟨oi, e, fun v z => by rw [dd] at z; cases z⟩
  keep := fun i h h' st k => st.at fun oi e => k it (by simp) oi e
  item := by
    intro X hP hw hK hc i pins s σ H E I hf st hg
    subst hP hw hK
    obtain ⟨hd, hi⟩ := hg
    obtain ⟨f0, f1, f2, f3, f4, f5⟩ := hf it (by simp)
    obtain ⟨x, hxi, rx⟩ := vals_at rk hi
    refine wpAny_pyNext_values_item_raw st (raw_of I hd hx hod) hi fun h' st' sb => ?_
    have I1 : Inv X pins σ H { s with heap := h' } := I.turned (t' := s.toks) (fun b ob hb e => (sb.2 b hb).trans e) f0 f1 f3 f4 f5
    obtain ⟨oi, e, c, dd⟩ := id st'
    exact ⟨_, rfl, go_of (s := { s with heap := h' }) e c dd (by decide) ⟨x, H, I1, rx, ⟨rfl, hxi⟩, st', fun b hb => (hf b hb).1⟩⟩
  done := by
    intro X hP hw hK hc i pins s σ H E I hf st hg
    subst hP hw hK
    obtain ⟨hd, hi⟩ := hg
    obtain ⟨f0, f1, f2, f3, f4, f5⟩ := hf it (by simp)
    exact wpAny_pyNext_values_end_raw (I.ok.hd hc) st (raw_of I hd hx hod) hi fun h' eb => ⟨rfl, I.turned (t' := s.toks) (fun b ob hb e => eb b ob hb e) f0 f1 f3 f4 f5⟩
  self := fun A i s Q E st h => wpAny_pyIter_valiter st h
theorem turnPs {ks vs : List V} {elts : List Expr} {kk : Nat} {tpos : Pos} (it : Addr) (hx : o.ExactDict) (hod : o.data = .dict es ep) (rk : Vals ks (es.toList.map (·.key))) (rv : Vals vs (es.toList.map (·.val))) :
    Turn P w K (.Tuple elts kk tpos) (ItP d o ks vs es.size) [it] it (fun i h => ∃ ok ov, IsItemIter h it d i es.size ep ok ov) where
  mem := by simp
  obj := fun i h st b hb => by
    have e : b = it := by simpa using hb
    subst e
    obtain ⟨ok, ov, e⟩ := st
    exact ⟨_, e, fun v z => nomatch z⟩
  keep := fun i h h' st k => let ⟨ok, ov, e⟩ := st; ⟨ok, ov, k it (by simp) _ e⟩
  item := by
    intro X hP hw hK hc i pins s σ H E I hf st hg
    subst hP hw hK
    obtain ⟨hd, hi⟩ := hg
    obtain ⟨x, hxi, rx⟩ := vals_at rk hi
    obtain ⟨y, hyi, ry⟩ := vals_at rv hi
    obtain ⟨ok, ov, he⟩ := st
    have hlt : it < s.heap.objs.size := Heap.lt_size he
    refine wpAny_pyNext_items_item_raw he (raw_of I hd hx hod) hi fun h' ho hT hz hk => ?_
    refine ⟨_, rfl, wpAny_letOwnedTupleGo_items (s := { s with heap := h' }) ho fun h'' he' sb => ?_⟩
    have hT2 : h''.get? s.heap.objs.size = some { cls := .type "tuple", data := .seq #[es[i].key, es[i].val] } := (sb.2 _ (Nat.ne_of_gt hlt)).trans hT
    have new : ObjOk X.prog X.w (upd H s.heap.objs.size (.tup [x, y])) h'' s.heap.objs.size (.tup [x, y]) :=
      ⟨by show 2 ≤ sizeLine; decide, [es[i].key, es[i].val], .cons rx (.cons ry .nil), ⟨_, hT2, rfl, _, rfl⟩⟩
    have I1 : Inv X pins σ (upd H s.heap.objs.size (.tup [x, y])) { s with heap := h'' } :=
      I.turnedNew (t' := s.toks) (ch := [it]) (fun b ob hb e => (sb.2 b (by simpa using hb)).trans (hk b ob (by simpa using hb) e)) hf (Nat.le_refl _) new
    refine ⟨.ref s.heap.objs.size, _, I1, rfl, ⟨_, x, y, hxi, hyi, rfl, I.hok.fresh (Nat.le_refl _), rfl⟩, ⟨es[i].key, es[i].val, he'⟩, fun b hb => ?_⟩
    have e : b = it := by simpa using hb
    rw [e, upd_ne (Nat.ne_of_lt hlt)]
    exact (hf it (by simp)).1
  done := by
    intro X hP hw hK hc i pins s σ H E I hf st hg
    subst hP hw hK
    obtain ⟨hd, hi⟩ := hg
    obtain ⟨f0, f1, f2, f3, f4, f5⟩ := hf it (by simp)
    obtain ⟨ok, ov, he⟩ := st
    exact wpAny_pyNext_items_end_raw (I.ok.hd hc) he (raw_of I hd hx hod) hi fun h' eb => ⟨rfl, I.turned (t' := s.toks) (fun b ob hb e => eb b ob hb e) f0 f1 f3 f4 f5⟩
  self := fun A i s Q E st h => let ⟨_, _, e⟩ := st; PySem.W.kcp_self e h
end
/-! ### what a walk makes of a dict -/
def frzC (w : W) (h : AH) : AH := match w with
  | .ref n => match h[n]? with
    | some (.dct ks ws) => h.set n (.fdct ks ws)
    | _ => h
  | _ => h
theorem Fr.freeze {ρ : Rho} {H : Hp} {a : Addr} {u : HO} {od : Obj} (hd : H a = some u) (du : Dictish u) (hp : a ∉ ρ.prot) : Fr ρ H ρ (L2.upd H a (.frz od u)) where
  keep := fun b o h hn => by
    by_cases e : b = a
    · subst e
      rw [hd] at h
      cases h
      exact .inr ⟨du, od, upd_same⟩
    · rw [upd_ne e]; exact .inl h
  newC := fun _ h => .inl h
  newP := fun _ h => .inl h
  hold := fun _ h => h
  pre := fun _ _ h => h
  there := fun b h => by
    by_cases e : b = a
    · subst e; rw [upd_same]; exact fun z => nomatch z
    · rw [upd_ne e]; exact h
  frzs := fun b o v h => by
    have e : b ≠ a := fun e => by
      subst e
      rw [hd] at h
      cases h
      exact du.elim
    rw [upd_ne e]; exact h
  just := fun b o hb h => by rw [upd_ne (fun (e : b = a) => hp (e ▸ hb))]; exact h
theorem RelH.freeze {M : Md} {ρ : Rho} {H : Hp} {ah : AH} {a : Addr} {u : HO} {od : Obj} (R : RelH M ρ H ah) (hd : H a = some u) (du : Dictish u) (ha : a ∉ ρ.all) : RelH M ρ (L2.upd H a (.frz od u)) ah where
  len := R.len
  nd := R.nd
  sep := R.sep
  there := fun b hb => (Fr.freeze (ρ := ρ) (od := od) hd du fun z => ha (Rho.mem_all.mpr (.inr z))).there b (R.there b hb)
  cell := fun n b ob h1 h2 => (R.cell n b ob h1 h2).mono (Fr.freeze hd du fun z => ha (Rho.mem_all.mpr (.inr z))) (upd_ne fun e => ha (e ▸ Rho.cell_all h1))
section
variable {X : Cx} {pins : List (Addr × Obj)} {σ : L2.St} {H : Hp} {s : Shared} {ρ : Rho} {ah : AH}
theorem freeze {w : W} {v : V} {ks ws : List W} (I : Inv X pins σ H s) (R : RelH (mdOf X) ρ H ah) (r : RW (mdOf X) ρ H w v) (e : dctOf ah w = some (ks, ws)) :
    ∃ a od H', v = .ref a ∧ Inv X pins σ H' s ∧ Fr ρ H ρ H' ∧ RelH (mdOf X) ρ H' (frzC w ah) ∧ FzAt H' a od ∧ DR (mdOf X) ρ H' a ks ws := by
  have lockIt : ∀ a u, H a = some u → Dictish u → ∃ od, Inv X pins σ (upd H a (.frz od u)) s := fun a u h du => I.lock h (by cases u <;> first | exact du.elim | trivial)
  unfold dctOf at e
  split at e
  · cases e
    rw [RW] at r
    obtain ⟨a, vs, rfl, hn, h1, h2⟩ := r
    have d : DR (mdOf X) ρ H a ks ws := ⟨vs, h1, h2⟩
    have hp : a ∉ ρ.prot := fun z => hn (Rho.mem_all.mpr (.inr z))
    rcases h2 with ⟨kvs, e1, q | ⟨od, q⟩⟩ | ⟨xs, q | ⟨od, q⟩, _⟩
    · obtain ⟨od, I2⟩ := lockIt a _ q trivial
      exact ⟨a, od, _, rfl, I2, Fr.freeze q trivial hp, R.freeze q trivial hn, ⟨_, upd_same⟩, d.mono (Fr.freeze q trivial hp) fun o ho => (Fr.freeze (ρ := ρ) q trivial hp).keepA ho hn⟩
    · exact ⟨a, od, H, rfl, I, Fr.refl _ _, R, ⟨_, q⟩, d⟩
    · obtain ⟨od, I2⟩ := lockIt a _ q trivial
      exact ⟨a, od, _, rfl, I2, Fr.freeze q trivial hp, R.freeze q trivial hn, ⟨_, upd_same⟩, d.mono (Fr.freeze q trivial hp) fun o ho => (Fr.freeze (ρ := ρ) q trivial hp).keepA ho hn⟩
    · exact ⟨a, od, H, rfl, I, Fr.refl _ _, R, ⟨_, q⟩, d⟩
  · rename_i n
    split at e
    · rename_i q
      cases e
      rw [RW] at r
      obtain ⟨a, rfl, h1⟩ := r
      have c := R.cell _ a _ h1 q
      obtain ⟨d, mu⟩ := DR.cell c
      have nf : NoFz (H a) := fun od u z => by rw [z] at mu; exact mu
      have fz : frzC (.ref n) ah = ah.set n (.fdct ks ws) := by simp only [frzC, q]
      rw [fz]
      obtain ⟨vs, h1', h2⟩ := c
      have fr : ∀ od u, H a = some u → Dictish u → Fr ρ H ρ (upd H a (.frz od u)) := fun od u hu du => Fr.freeze hu du (R.sep a (List.mem_of_getElem? h1))
      rcases h2 with ⟨kvs, e1, q2⟩ | ⟨xs, q2, e2, e3, e4, e5, e6⟩
      · obtain ⟨od, I2⟩ := lockIt a _ q2 trivial
        have f := fr od _ q2 trivial
        refine ⟨a, od, _, rfl, I2, f, R.write h1 nf ⟨vs, RWs.mono f _ _ h1', .inl ⟨kvs, e1, od, upd_same⟩⟩, ⟨_, upd_same⟩, ⟨vs, RWs.mono f _ _ h1', .inl ⟨kvs, e1, .inr ⟨od, upd_same⟩⟩⟩⟩
      · obtain ⟨od, I2⟩ := lockIt a _ q2 trivial
        have f := fr od _ q2 trivial
        refine ⟨a, od, _, rfl, I2, f, R.write h1 nf ⟨vs, RWs.mono f _ _ h1', .inr ⟨xs, ⟨od, upd_same⟩, e2, e3, e4, RWs.mono f _ _ e5, e6⟩⟩, ⟨_, upd_same⟩, ⟨vs, RWs.mono f _ _ h1', .inr ⟨xs, .inr ⟨od, upd_same⟩, e2, e3, e4, RWs.mono f _ _ e5, e6⟩⟩⟩
    · rename_i q
      cases e
      rw [RW] at r
      obtain ⟨a, rfl, h1⟩ := r
      have c := R.cell _ a _ h1 q
      have d := DR.cellF c
      have fz : frzC (.ref n) ah = ah := by simp only [frzC, q]
      rw [fz]
      obtain ⟨vs, h1', ⟨kvs, e1, od, q2⟩ | ⟨xs, ⟨od, q2⟩, _⟩⟩ := c
      · exact ⟨a, od, H, rfl, I, Fr.refl _ _, R, ⟨_, q2⟩, d⟩
      · exact ⟨a, od, H, rfl, I, Fr.refl _ _, R, ⟨_, q2⟩, d⟩
    · cases e
  · cases e
/-- seen as the entries of its very object -/
theorem entries {a : Addr} {ks ws : List W} {o : Obj} (I : Inv X pins σ H s) (fz : FzAt H a o) (d : DR (mdOf X) ρ H a ks ws) : ∃ es ep ys vs, (a == sysModules) = false ∧ o.ExactDict ∧ o.data = .dict es ep ∧ es.size = ks.length ∧ ks.length ≤ sizeLine ∧ ws.length = ks.length ∧ RWs (mdOf X) ρ H ks ys ∧ RWs (mdOf X) ρ H ws vs ∧ Vals ys (es.toList.map (·.key)) ∧ Vals vs (es.toList.map (·.val)) := by
  obtain ⟨es, ep, vs, hs, ⟨o', g1, g2, g3⟩, l1, l2, r1, r2, ys, r3, r4⟩ := d.rawv I
  obtain ⟨u, e⟩ := fz
  have := (I.hok a _ e).1
  rw [g1] at this
  cases this
  refine ⟨es, ep, ys, vs, hs, g2, g3, l1, l2, ?_, r3, r1, r4, r2⟩
  have a1 := r1.length
  have a2 := r2.length
  rw [List.length_map] at a2
  have a3 : es.toList.length = es.size := Array.length_toList
  omega
end
/-- for .. in d; d.values(); d.items() -/
def iDk (a : DE) : DI := fun env h => (a env h).bind fun w h1 => match dctOf h1 w with
  | some (ks, _) => .ok { items := ks, chk := chkT } (frzC w h1)
  | none => .stuck
def iDv (a : DE) : DI := fun env h => (a env h).bind fun w h1 => match dctOf h1 w with
  | some (_, ws) => .ok { items := ws, chk := chkT } (frzC w h1)
  | none => .stuck
def iDi (a : DE) : DI := fun env h => (a env h).bind fun w h1 => match dctOf h1 w with
  | some (ks, ws) => .ok { items := zpW ks ws, chk := chkT, raw := true } (frzC w h1)
  | none => .stuck
theorem itY_ok {M : Md} {ρ : Rho} {H : Hp} {d : Addr} {o : Obj} {ws : List W} {ys : List V} {n : Nat} (fz : FzAt H d o) (r : RWs M ρ H ws ys) (hn : ws.length = n) : ItOk M ρ H { items := ws, chk := chkT } (ItY d o ys n) := by
  intro ρ' H' ah' f R hc i
  have fz' : FzAt H' d o := let ⟨u, e⟩ := fz; ⟨u, f.frzs _ _ _ e⟩
  have r' := RWs.mono0 f _ _ r
  refine ⟨fun hi => ⟨fz', by subst hi; exact Nat.le_of_eq hn.symm⟩, fun w e => ?_⟩
  obtain ⟨v, ev, rv⟩ := r'.get e
  have hlt := (List.getElem?_eq_some_iff.mp e).1
  refine ⟨⟨fz', by rw [← hn]; exact hlt⟩, fun v' H'' ⟨e', hy⟩ => ?_⟩
  subst e'
  rw [ev] at hy
  cases hy
  exact ⟨Fr.refl _ _, R, rv⟩
theorem itP_ok {M : Md} {ρ : Rho} {H : Hp} {d : Addr} {o : Obj} {ks ws : List W} {ys vs : List V} {n : Nat} (fz : FzAt H d o) (rk : RWs M ρ H ks ys) (r : RWs M ρ H ws vs) (hk : ks.length = n) (hn : ws.length = n) : ItOk M ρ H { items := zpW ks ws, chk := chkT, raw := true } (ItP d o ys vs n) := by
  intro ρ' H' ah' f R hc i
  have fz' : FzAt H' d o := let ⟨u, e⟩ := fz; ⟨u, f.frzs _ _ _ e⟩
  have r' := RWs.mono0 f _ _ r
  have rk' := RWs.mono0 f _ _ rk
  refine ⟨fun hi => ⟨fz', ?_⟩, fun w e => ?_⟩
  · have : min ks.length ws.length = i := by simpa [zpW] using hi
    omega
  · have e' : (zpW ks ws)[i]? = some w := e
    unfold zpW at e'
    rw [List.getElem?_zipWith] at e'
    obtain ⟨x, y, hx, hy, rfl⟩ : ∃ x y, ks[i]? = some x ∧ ws[i]? = some y ∧ w = .tup [x, y] := by
      split at e'
      · rename_i x y q1 q2
        cases e'
        exact ⟨_, _, q1, q2, rfl⟩
      · cases e'
    obtain ⟨v, ev, rv⟩ := rk'.get hx
    obtain ⟨u, eu, ru⟩ := r'.get hy
    have hlt := (List.getElem?_eq_some_iff.mp hx).1
    refine ⟨⟨fz', by omega⟩, fun v' H'' ⟨T, k, z, e1, e2, e3, e4, e5⟩ => ?_⟩
    subst e3 e5
    rw [ev] at e1
    rw [eu] at e2
    cases e1
    cases e2
    exact raw_new R e4 (.cons rv (.cons ru .nil))
section
variable {X : Cx} {Wx : WX} {tg e : Expr} {fe : DE} {apos cpos : Pos}
theorem r_iDk (he : PE X e (tE (mdOf X) Wx fe)) : PI X tg e (tI (mdOf X) Wx (iDk fe)) := by
  refine ⟨fun pins s σ H R I ⟨ρ, env, ah, re, rh, o⟩ => ?_⟩
  refine thn (he.run pins s σ H _ I (tE_then re rh o)) fun v s1 ⟨x, H1, I1, r1, ρ1, ah1, w, f1, rh1, rw1, o1⟩ => ?_
  split at o1
  · rename_i ks ws hq
    obtain ⟨a, od, H2, rfl, I2, f2, rh2, fz, d⟩ := freeze I1 rh1 rw1 hq
    obtain ⟨es, ep, ys, vs, hs, hx, hod, l1, l2, l3, k1, k2, k3, k4⟩ := entries I2 fz d
    obtain rfl : v = Value.ref a := r1
    refine wpAny_pyIter_dict_raw hs (raw_of I2 fz hx hod) (pi_one (tk := s1.toks) I2 _ (turnK _ hx hod k3) ⟨_, Heap.get?_push_size _ rfl, rfl, rfl⟩ (o1 ρ1 _ H2 f2 rh2 (itY_ok fz k1 l1.symm)))
  · exact o1.elim
theorem r_iDv (he : PE X e (tE (mdOf X) Wx fe)) (hb : plainBase e = true) (hline : (apos.endLine == cpos.line) = true) : PI X tg (.Call (.Attribute e "values" apos) [] [] cpos) (tI (mdOf X) Wx (iDv fe)) := by
  refine ⟨fun pins s σ H R I ⟨ρ, env, ah, re, rh, o⟩ => ?_⟩
  refine wpAny_Call_method (T := "dict") (id := "dict.values") (plainBase_ok hb _ _ _) rfl hline F.plainAttrs_dict F.slot_dict_values F.type_dict_values (thn (he.run pins s σ H _ I (tE_then re rh o)) fun v s1 ⟨x, H1, I1, r1, ρ1, ah1, w, f1, rh1, rw1, o1⟩ => ?_)
  split at o1
  · rename_i ks ws hq
    obtain ⟨a, od, H2, rfl, I2, f2, rh2, fz, d⟩ := freeze I1 rh1 rw1 hq
    obtain ⟨es, ep, ys, vs, hs, hx, hod, l1, l2, l3, k1, k2, k3, k4⟩ := entries I2 fz d
    obtain rfl : v = Value.ref a := r1
    have raw := raw_of I2 fz hx hod
    have hnd : ∃ o, s1.heap.get? a = some o ∧ o.dict = none := by
      obtain ⟨u, q⟩ := fz
      exact ⟨od, (I2.hok a _ q).1, hx.2.1⟩
    refine ⟨raw.typeIs, fun b e => by cases e; exact hnd, ?_⟩
    have I3 : Inv X pins σ H2 { s1 with heap := s1.heap.push { cls := .type "dict_values", data := .fields #[.ref a] } } := I2.kept (t' := s1.toks) fun b ob q => Heap.get?_push_of_some _ q
    have raw3 : (s1.heap.push { cls := .type "dict_values", data := .fields #[.ref a] }).DictRaw a es ep := raw.at fun o q => Heap.get?_push_of_some _ q
    have fin : wpAny (model X.prog X.w) X.A (pyIter (.ref s1.heap.objs.size)) (PIE X pins σ tg R) X.xe { s1 with heap := s1.heap.push { cls := .type "dict_values", data := .fields #[.ref a] } } := by
      refine wpAny_pyIter_values_raw (d := a) ⟨_, Heap.get?_push_size _ rfl, rfl, rfl⟩ raw3 (pi_one (tk := s1.toks) I3 _ (turnVs _ hx hod k4) ⟨_, Heap.get?_push_size _ rfl, rfl, rfl⟩ (o1 ρ1 _ H2 f2 rh2 (itY_ok fz k2 (l3.trans l1.symm))))
    show wpAny _ _ (callWith cpos (.builtin "dict.values") [.ref a] [] []) _ X.xe s1
    exact method_meetsIn F.slot_dict_values F.entry_dict_values rfl (PySem.evalArgs_none ⟨rfl, raw.typeIs, F.args_dict_values_1 _, _, meets_dict_values_raw a hs, ⟨es, ep, raw⟩, fin⟩)
  · exact o1.elim
theorem r_iDi {elts : List Expr} {kk : Nat} {tpos : Pos} (he : PE X e (tE (mdOf X) Wx fe)) (hb : plainBase e = true) (hline : (apos.endLine == cpos.line) = true) : PI X (.Tuple elts kk tpos) (.Call (.Attribute e "items" apos) [] [] cpos) (tI (mdOf X) Wx (iDi fe)) := by
  refine ⟨fun pins s σ H R I ⟨ρ, env, ah, re, rh, o⟩ => ?_⟩
  refine wpAny_Call_method (T := "dict") (id := "dict.items") (plainBase_ok hb _ _ _) rfl hline F.plainAttrs_dict F.slot_dict_items F.type_dict_items (thn (he.run pins s σ H _ I (tE_then re rh o)) fun v s1 ⟨x, H1, I1, r1, ρ1, ah1, w, f1, rh1, rw1, o1⟩ => ?_)
  split at o1
  · rename_i ks ws hq
    obtain ⟨a, od, H2, rfl, I2, f2, rh2, fz, d⟩ := freeze I1 rh1 rw1 hq
    obtain ⟨es, ep, ys, vs, hs, hx, hod, l1, l2, l3, k1, k2, k3, k4⟩ := entries I2 fz d
    obtain rfl : v = Value.ref a := r1
    have raw := raw_of I2 fz hx hod
    have hnd : ∃ o, s1.heap.get? a = some o ∧ o.dict = none := by
      obtain ⟨u, q⟩ := fz
      exact ⟨od, (I2.hok a _ q).1, hx.2.1⟩
    refine ⟨raw.typeIs, fun b e => by cases e; exact hnd, ?_⟩
    have I3 : Inv X pins σ H2 { s1 with heap := s1.heap.push { cls := .type "dict_items", data := .fields #[.ref a] } } := I2.kept (t' := s1.toks) fun b ob q => Heap.get?_push_of_some _ q
    have raw3 : (s1.heap.push { cls := .type "dict_items", data := .fields #[.ref a] }).DictRaw a es ep := raw.at fun o q => Heap.get?_push_of_some _ q
    have fin : wpAny (model X.prog X.w) X.A (pyIter (.ref s1.heap.objs.size)) (PIE X pins σ (.Tuple elts kk tpos) R) X.xe { s1 with heap := s1.heap.push { cls := .type "dict_items", data := .fields #[.ref a] } } := by
      refine wpAny_pyIter_items_raw (d := a) ⟨_, Heap.get?_push_size _ rfl, rfl, rfl⟩ raw3 (pi_one (tk := s1.toks) I3 _ (turnPs _ hx hod k3 k4) ⟨.none, .none, Heap.get?_push_size _ rfl⟩ (o1 ρ1 _ H2 f2 rh2 (itP_ok fz k1 k2 l1.symm (l3.trans l1.symm))))
    show wpAny _ _ (callWith cpos (.builtin "dict.items") [.ref a] [] []) _ X.xe s1
    exact method_meetsIn F.slot_dict_items F.entry_dict_items rfl (PySem.evalArgs_none ⟨rfl, raw.typeIs, F.args_dict_items_1 _, _, meets_dict_items_raw a hs, ⟨es, ep, raw⟩, fin⟩)
  · exact o1.elim
end
end Dn
end
section
set_option Elab.async false
set_option linter.all false
set_option maxRecDepth 100000
set_option maxHeartbeats 4000000
namespace Dn
open PySem PySem.Spec PyProof.Rows L2
/-! ### d.get(k, x), d.setdefault(k, x) -/
section
variable {X : Cx} {pins : List (Addr × Obj)} {σ : L2.St} {H : Hp} {s : Shared} {ρ : Rho} {a : Addr} {ks ws : List W}
theorem DR.dictNone (I : Inv X pins σ H s) (d : DR (mdOf X) ρ H a ks ws) : ∃ o, s.heap.get? a = some o ∧ o.dict = none := by
  obtain ⟨es, ep, vs, hs, ⟨o, g1, g2, g3⟩, _⟩ := d.rawv I
  exact ⟨o, g1, g2.2.1⟩
theorem d_getOr {A : Around} {E : Value → Shared → Prop} {Q : Value → Shared → Prop} {k wx : W} {y vx : V} {u r : Value} (hu : A.units + 9 < cLine) (I : Inv X pins σ H s) (d : DR (mdOf X) ρ H a ks ws) (hk : kdOk ks k = true) (rk : RW (mdOf X) ρ H k y) (ry : RelV y u) (rx : RW (mdOf X) ρ H wx vx) (rr : RelV vx r)
    (h : ∀ v z s', Inv X pins σ H s' → RelV v z → RW (mdOf X) ρ H ((dGet ks ws k).getD wx) v → Q z s') : wpAny (model X.prog X.w) A (call (.builtin "dict.get") [.ref a, u, r]) Q E s := by
  rcases kdOk_or hk with ⟨h1, h2⟩ | ⟨h1, h2⟩
  · obtain ⟨q, hq, hv⟩ := flat_key h1
    have := hv _ _ _ _ rk
    subst this
    obtain ⟨hd, vs, kvs, us, r1, r2, _, rel, dd⟩ := d.flat I h2
    have g := kv_get hq r2 r1
    have rv := rel.val q
    refine call_meetsIn F.slot_dict_get dd.typeIs F.entry_dict_get (F.args_dict_get_3 _ _ _) (meets_dict_get_default (mixKind X.prog X.w) a (kV_is ry) hd r) ⟨_, dd.mapOf, ?_⟩
    cases e : dGet ks ws k with
    | none =>
      rw [e] at g
      simp only at g
      rw [g] at rv
      cases e2 : valueAt us q with
      | none => exact h _ _ _ (I.tok _) rr (by rw [e]; exact rx)
      | some z => rw [e2] at rv; exact rv.elim
    | some w =>
      rw [e] at g
      obtain ⟨v, g1, g2⟩ := g
      rw [g1] at rv
      cases e2 : valueAt us q with
      | none => rw [e2] at rv; exact rv.elim
      | some z => rw [e2] at rv; exact h v z _ (I.tok _) rv (by rw [e]; exact g2)
  · obtain ⟨b, q, rfl, rfl, e1, e2, hi⟩ := nest_is I.hok h1 rk ry
    obtain ⟨hd, vs, xs, r1, _, r2, r3, r4, dd⟩ := d.nest I h2
    have g := nk_get e2 e1 (nest_all h2) r2 r1 r4
    refine call_meetsIn F.slot_dict_get dd.typeIs F.entry_dict_get (F.args_dict_get_3 _ _ _) (meetsH_dict_get_default (nestedKind X.prog X.w) a b hd r) ⟨by show A.in1.units + 8 < cLine; rw [Around.in1_units]; omega, q, xs, hi, dd, ?_⟩
    cases e : dGet ks ws k with
    | none =>
      rw [e] at g
      simp only at g
      rw [g]
      exact h _ _ _ (I.tok _) rr (by rw [e]; exact rx)
    | some w =>
      rw [e] at g
      obtain ⟨v, p, g1, g2, g3⟩ := g
      rw [g1]
      exact h v p.2 _ (I.tok _) g2 (by rw [e]; exact g3)
/-- d.setdefault(k, x) -/
theorem d_setdef {A : Around} {E : Value → Shared → Prop} {Q : Value → Shared → Prop} {ah : AH} {n : Nat} {k w : W} {y v : V} {u z : Value} (hu : A.units + 9 < cLine) (I : Inv X pins σ H s) (R : RelH (mdOf X) ρ H ah) (hc : ρ.cells[n]? = some a) (hd : ah[n]? = some (.dct ks ws)) (hk : kdOk ks k = true) (hl : ks.length < line)
    (rk : RW (mdOf X) ρ H k y) (ry : RelV y u) (rw : RW (mdOf X) ρ H w v) (rz : RelV v z)
    (h1 : ∀ r x t s', dGet ks ws k = some r → Inv X pins σ H s' → RelV x t → RW (mdOf X) ρ H r x → Q t s')
    (h2 : ∀ H' s', dGet ks ws k = none → Inv X pins σ H' s' → Fr ρ H ρ H' → RelH (mdOf X) ρ H' (ah.set n (.dct (dPutK ks k) (dPutV ks ws k w))) → Q z s') : wpAny (model X.prog X.w) A (call (.builtin "dict.setdefault") [.ref a, u, z]) Q E s := by
  obtain ⟨d, mu⟩ : DR (mdOf X) ρ H a ks ws ∧ Mut (H a) := DR.cell (R.cell n a _ hc hd)
  have nf : NoFz (H a) := fun od u z => by rw [z] at mu; exact mu
  have fr : ∀ ob, Fr ρ H ρ (upd H a ob) := fun ob => Fr.write (List.mem_of_getElem? hc) (R.sep a (List.mem_of_getElem? hc)) (R.there a (Rho.cell_all hc)) nf
  rcases kdOk_or hk with ⟨k1, k2⟩ | ⟨k1, k2⟩
  · obtain ⟨q, hq, hv⟩ := flat_key k1
    have := hv _ _ _ _ rk
    subst this
    obtain ⟨hs, vs, kvs, us, r1, r2, hz, rel, dd⟩ := d.flat I k2
    have hz' : us.length ≤ sizeLine := by rw [← rel.length]; exact hz
    have hn : (kvs.map (·.1)).Nodup := by
      rw [rel.keys]
      obtain ⟨_, _, _, _, _, _, _, _, hn⟩ := dd
      exact hn
    have g := kv_get hq r2 r1
    have rv := rel.val q
    refine call_meetsIn F.slot_dict_setdefault dd.typeIs F.entry_dict_setdefault (F.args_dict_setdefault_3 _ _ _) (kt_meets_setdefault (mixKind X.prog X.w) a (kV_is ry) hs z) ⟨us, dd, hz', fun t ht => ?_, fun hnn h' dd' hb => ?_⟩
    · rw [ht] at rv
      cases e : dGet ks ws k with
      | none => rw [e] at g; simp only at g; rw [g] at rv; exact rv.elim
      | some w' =>
        rw [e] at g
        obtain ⟨x, g1, g2⟩ := g
        rw [g1] at rv
        exact h1 w' x t _ e (I.tok _) rv g2
    · rw [hnn] at rv
      have e : dGet ks ws k = none := by
        cases e : dGet ks ws k with
        | none => rfl
        | some w' =>
          rw [e] at g
          obtain ⟨x, g1, g2⟩ := g
          rw [g1] at rv
          exact rv.elim
      obtain ⟨xs, g1, g2⟩ := kv_put hq rw r2 hn r1
      have hl' : (putK kvs q v).length ≤ sizeLine := by
        rw [kv_len g2, ← line_eq]
        exact Nat.le_trans (dPutK_len k ks) hl
      have he : ∃ o, h'.get? a = some o := let ⟨o, _, _, ho, _⟩ := dd'; ⟨o, ho⟩
      refine h2 (upd H a (.dK (putK kvs q v))) _ e (d_write I mu hb he (dk_new hl' hs (rel.put q rz) dd')) (fr _) (R.write hc nf ?_)
      exact ⟨xs, RWs.mono (fr _) _ _ g1, .inl ⟨_, g2, upd_same⟩⟩
  · obtain ⟨b, q, rfl, rfl, e1, e2, hi⟩ := nest_is I.hok k1 rk ry
    obtain ⟨hs, vs, xs, r1, hz, r2, r3, r4, dd⟩ := d.nest I k2
    have hn : (xs.map (·.1)).Nodup := by
      obtain ⟨_, _, _, _, _, _, _, _, hn⟩ := dd
      exact hn
    have g := nk_get e2 e1 (nest_all k2) r2 r1 r4
    refine call_setdefault_heap (hsz := hz) (by show A.in1.units + 8 < cLine; rw [Around.in1_units]; omega) hi hs dd (fun p hp => ?_) fun hnn h' dd' hb => ?_
    · cases e : dGet ks ws k with
      | none => rw [e] at g; simp only at g; rw [g] at hp; cases hp
      | some w' =>
        rw [e] at g
        obtain ⟨x, p', g1, g2, g3⟩ := g
        rw [g1] at hp
        cases hp
        exact h1 w' x _ _ e (I.tok _) g2 g3
    · have e : dGet ks ws k = none := by
        cases e : dGet ks ws k with
        | none => rfl
        | some w' =>
          rw [e] at g
          obtain ⟨x, p', g1, _⟩ := g
          rw [g1] at hnn
          cases hnn
      obtain ⟨us, g1, g2, g3, g4⟩ := nk_put (u := z) e2 e1 rk rw rz (nest_all k2) r2 hn r1 r4 r3
      have hl' : (storedH xs q b z).length ≤ sizeLine := by
        have := nk_len g2
        rw [List.length_map] at this
        rw [this, ← line_eq]
        exact Nat.le_trans (dPutK_len k ks) hl
      obtain ⟨o, es, ep, f1, f2, f3, f4, f5, f6⟩ := dd'
      have new : ObjOk X.prog X.w (upd H a (.ext (DF X.prog X.w a (storedH xs q b z)))) h' a (.ext (DF X.prog X.w a (storedH xs q b z))) :=
        ⟨⟨o, es, ep, f1, f2, f3, f4, f6⟩, ⟨o, f1⟩, fun h1 h2 ⟨o, es, ep, p1, p2, p3, p4, p5⟩ hk => ⟨o, es, ep, hk o p1, p2, p3, p4, p5⟩⟩
      refine h2 (upd H a (.ext (DF X.prog X.w a (storedH xs q b z)))) _ e (d_write I mu hb ⟨o, f1⟩ new) (fr _) (R.write hc nf ?_)
      exact ⟨us, RWs.mono (fr _) _ _ g1, .inr ⟨_, upd_same, hs, hl', g2, RWs.mono (fr _) _ _ g3, g4⟩⟩
end
def mGet (w : W) (ws : List W) (h : AH) : Option (W × AH) := match ws with
  | [k, x] => match dctOf h w with
    | some (ks, vs) => if kdOk ks k = true then some ((dGet ks vs k).getD x, h) else none
    | none => none
  | _ => none
def mSetd (w : W) (ws : List W) (h : AH) : Option (W × AH) := match w, ws with
  | .ref n, [k, x] => match h[n]? with
    | some (.dct ks vs) => if kdOk ks k = true ∧ ks.length < line then match dGet ks vs k with
        | some r => some (r, h)
        | none => some (x, h.set n (.dct (dPutK ks k) (dPutV ks vs k x)))
      else none
    | _ => none
  | _, _ => none
/-- a dict's methods -/
def dMtD (g : W → List W → AH → Option (W × AH)) (o : DE) (a : DA) : DE := fun env h => (o env h).bind fun x h1 => match dctOf h1 x with
  | some _ => (a env h1).bind fun ws h2 => match g x ws h2 with
    | some (r, h3) => .ok r h3
    | none => .stuck
  | none => .stuck
section
variable {X : Cx} {Wx : WX} {o e : Expr} {es : List Expr} {name : Str} {apos cpos p pos : Pos} {id : String} {fo : DE} {fs : DA}
theorem ok_get (hu : X.A.units + 65 < cLine) : MtOk X "dict.get" mGet := by
  intro pins s σ H x vs v us Q ρ w ws r ah ah' I rx rxs rh r1 r2 e q
  unfold mGet at e
  split at e
  · rename_i k wx
    split at e
    · rename_i ks zs hq
      split at e
      · rename_i hk
        cases e
        obtain ⟨a, rfl, d⟩ := dct_at rh r1 hq
        obtain ⟨y, vx, rfl, ry, rxx⟩ := rws2 r2
        cases rxs with
        | @cons _ u _ us' c1 c2 => cases c2 with
          | @cons _ u2 _ us2 c3 c4 =>
            cases c4
            obtain rfl : v = Value.ref a := rx
            exact d_getOr (by omega) I d hk ry c1 rxx c3 fun v z s' I' rv rw => ⟨v, H, I', rv, q v H (Fr.refl _ _) rh rw⟩
      · cases e
    · cases e
  · cases e
theorem ok_setd (hu : X.A.units + 65 < cLine) : MtOk X "dict.setdefault" mSetd := by
  intro pins s σ H x vs v us Q ρ w ws r ah ah' I rx rxs rh r1 r2 e q
  unfold mSetd at e
  split at e
  · rename_i n k wx
    split at e
    · rename_i ks zs hq
      split at e
      · rename_i hk
        rw [RW] at r1
        obtain ⟨a, rfl, hc⟩ := r1
        obtain ⟨y, vx, rfl, ry, rxx⟩ := rws2 r2
        cases rxs with
        | @cons _ u _ us' c1 c2 => cases c2 with
          | @cons _ u2 _ us2 c3 c4 =>
            cases c4
            obtain rfl : v = Value.ref a := rx
            refine d_setdef (by omega) I rh hc hq hk.1 hk.2 ry c1 rxx c3 (fun r' x' t s' e1 I' rt rw => ?_) fun H' s' e1 I' f R => ?_
            · rw [e1] at e
              cases e
              exact ⟨x', H, I', rt, q x' H (Fr.refl _ _) rh rw⟩
            · rw [e1] at e
              cases e
              exact ⟨vx, H', I', c3, q vx H' f R (RW.mono f _ _ rxx)⟩
      · cases e
    · cases e
  · cases e
theorem r_mtD {g : W → List W → AH → Option (W × AH)} (slot : Slot "dict" name id) (hty : typeOf (.builtin id) = pure (.type "method_descriptor")) (hm : MtOk X id g) (ho : PE X o (tE (mdOf X) Wx fo)) (ha : PA X (e :: es) (tA (mdOf X) Wx fs))
    (hb : plainBase o = true) (hl : (e :: es).length < 30) (hline : (apos.endLine == cpos.line) = true) (hs : noStar (e :: es) = true) : PE X (.Call (.Attribute o name apos) (e :: es) [] cpos) (tE (mdOf X) Wx (dMtD g fo fs)) := by
  refine ⟨fun pins s σ H Q I ⟨ρ, env, ah, re, rh, q0⟩ => ?_⟩
  refine wpAny_Call_method_late (plainBase_ok hb _ _ _) (few_ok hs _ _ hl) hline rfl (thn (ho.run pins s σ H _ I (tE_then re rh q0)) fun v s1 ⟨x, H1, I1, r1, ρ1, ah1, w1, f1, rh1, rw1, o1⟩ => ?_)
  split at o1
  · rename_i kw ht
    obtain ⟨ks, zs⟩ := kw
    obtain ⟨a, rfl, d⟩ := dct_at rh1 rw1 ht
    obtain rfl : v = Value.ref a := r1
    refine ⟨"dict", id, F.plainAttrs_dict, slot, hty, d.typeIs I1, (fun b e => by cases e; exact d.dictNone I1), ?_⟩
    have hA := ha.run cpos pins s1 σ H1 _ I1 (tA_then (re.mono f1) rh1 o1)
    rw [(noStar_cons hs X.env).1] at hA ⊢
    refine Calls.callWith_builtin (by show (false || (backTo cpos (starEach es X.env)).any (·.1)) = false; rw [noStar_any (noStar_cons hs X.env).2] <;> rfl) (Calls.evalArgs_plain (thn hA fun us s2 ⟨vs, H2, I2, r2, ρ2, ah2, w2, f2, rh2, rw2, o2⟩ => ?_))
    generalize hg : g w1 w2 ah2 = r at o2
    rcases r with _ | ⟨r, h3⟩
    · exact o2.elim
    · exact hm pins s2 σ H2 (.ref a) vs (.ref a) us Q ρ2 w1 w2 r ah2 h3 I2 rfl r2 rh2 (RW.mono f2 _ _ rw1) rw2 hg fun z H' f rr rz => o2 ρ2 z H' f rr rz
  · exact o1.elim
end
end Dn
end
section
set_option Elab.async false
set_option linter.all false
set_option maxRecDepth 100000
set_option maxHeartbeats 4000000
namespace Dn
open PySem PySem.Spec PyProof.Rows L2
/-! ### a dict that is being made: D is held -/
/-- what stands at D behind a store -/
structure Put (X : Cx) (ρ : Rho) (H : Hp) (D : Addr) (ks ws : List W) (k w : W) (o : HO) : Prop where
  di : Dictish o
  ro : ∀ H', H' D = some o → (∀ us vs, RWs (mdOf X) ρ H us vs → RWs (mdOf X) ρ H' us vs) → RO (mdOf X) ρ H' D (.dct (dPutK ks k) (dPutV ks ws k w))
section
variable {X : Cx} {pins : List (Addr × Obj)} {σ : L2.St} {H : Hp} {s : Shared} {ρ : Rho} {D : Addr} {ks ws : List W}
theorem d_put {A : Around} {E : Value → Shared → Prop} {Q : Unit → Shared → Prop} {k w : W} {y v : V} {u z : Value} (hu : A.units + 9 < cLine) (I : Inv X pins σ H s) (c : RO (mdOf X) ρ H D (.dct ks ws)) (hk : kdOk ks k = true) (hl : ks.length < line)
    (rk : RW (mdOf X) ρ H k y) (ry : RelV y u) (rw : RW (mdOf X) ρ H w v) (rz : RelV v z)
    (h : ∀ o s', Inv X pins σ (upd H D o) s' → Put X ρ H D ks ws k w o → Q () s') : wpAny (model X.prog X.w) A (dictSet D u z) Q E s := by
  obtain ⟨d, mu⟩ := DR.cell c
  rcases kdOk_or hk with ⟨h1, h2⟩ | ⟨h1, h2⟩
  · obtain ⟨q, hq, hv⟩ := flat_key h1
    have := hv _ _ _ _ rk
    subst this
    obtain ⟨hs, vs, kvs, us, r1, r2, hz, rel, dd⟩ := d.flat I h2
    have hz' : us.length ≤ sizeLine := by rw [← rel.length]; exact hz
    have hn : (kvs.map (·.1)).Nodup := by
      rw [rel.keys]
      obtain ⟨_, _, _, _, _, _, _, _, hn⟩ := dd
      exact hn
    refine wpAny_dictSet_pairs (hsz := hz') (kV_is ry) dd fun h' dd' hb => ?_
    obtain ⟨xs, g1, g2⟩ := kv_put hq rw r2 hn r1
    have hl' : (putK kvs q v).length ≤ sizeLine := by
      rw [kv_len g2, ← line_eq]
      exact Nat.le_trans (dPutK_len k ks) hl
    have he : ∃ o, h'.get? D = some o := let ⟨o, _, _, ho, _⟩ := dd'; ⟨o, ho⟩
    exact h (.dK (putK kvs q v)) _ (d_write I mu hb he (dk_new hl' hs (rel.put q rz) dd')) ⟨trivial, fun H' e cr => ⟨xs, cr _ _ g1, .inl ⟨_, g2, e⟩⟩⟩
  · obtain ⟨b, q, rfl, rfl, e1, e2, hi⟩ := nest_is I.hok h1 rk ry
    obtain ⟨hs, vs, xs, r1, hz, r2, r3, r4, dd⟩ := d.nest I h2
    have hn : (xs.map (·.1)).Nodup := by
      obtain ⟨_, _, _, _, _, _, _, _, hn⟩ := dd
      exact hn
    refine wpAny_dictSet_heap (hsz := hz) (by show A.units + 8 < cLine; omega) hi dd fun h' dd' hb => ?_
    obtain ⟨us, g1, g2, g3, g4⟩ := nk_put (u := z) e2 e1 rk rw rz (nest_all h2) r2 hn r1 r4 r3
    have hl' : (storedH xs q b z).length ≤ sizeLine := by
      have := nk_len g2
      rw [List.length_map] at this
      rw [this, ← line_eq]
      exact Nat.le_trans (dPutK_len k ks) hl
    obtain ⟨o, es, ep, f1, f2, f3, f4, f5, f6⟩ := dd'
    have new : ObjOk X.prog X.w (upd H D (.ext (DF X.prog X.w D (storedH xs q b z)))) h' D (.ext (DF X.prog X.w D (storedH xs q b z))) :=
      ⟨⟨o, es, ep, f1, f2, f3, f4, f6⟩, ⟨o, f1⟩, fun h1 h2 ⟨o, es, ep, p1, p2, p3, p4, p5⟩ hk => ⟨o, es, ep, hk o p1, p2, p3, p4, p5⟩⟩
    exact h (.ext (DF X.prog X.w D (storedH xs q b z))) _ (d_write I mu hb ⟨o, f1⟩ new) ⟨trivial, fun H' e cr => ⟨us, cr _ _ g1, .inr ⟨_, e, hs, hl', g2, cr _ _ g3, g4⟩⟩⟩
end
/-- the turn's store, as a reading -/
def tPut (X : Cx) (D : Addr) (y z : V) (H : Hp) (Nx : Hp → Prop) : Prop := ∃ ρ ks ws k w, RO (mdOf X) ρ H D (.dct ks ws) ∧ kdOk ks k = true ∧ ks.length < line ∧ RW (mdOf X) ρ H k y ∧ RW (mdOf X) ρ H w z ∧ ∀ o, Put X ρ H D ks ws k w o → Nx (upd H D o)
def tDcW (X : Cx) (wi : TI) (g : TG) (tt : TT) (tk tv : TE) (vs : List Nat) : TE := fun σ H Q => wi σ H fun J H1 => ∀ D, H1 D = none → ∃ W : Nat → Nat → Hp → Prop, (∃ m, W 0 m (upd H1 D (.dK []))) ∧ ∀ i m H, W i m H →
  (J.stop i H ∧ Q (.ref D) H) ∨ (J.go i H ∧ ∃ Nx : Hp → Prop, (∀ H', Nx H' → ∃ m', m' < m ∧ W (i + 1) m' H') ∧ ∀ x H', J.yld i H x H' → g x (wipe σ vs) H' fun σ2 H2 => wipe σ2 vs = wipe σ vs ∧ tt σ2 H2 fun b H3 =>
    if b = true then tk σ2 H3 fun y H4 => tv σ2 H4 fun z H5 => tPut X D y z H5 Nx else Nx H3)
section
variable {X : Cx}
/-- {k: v for ..}: each turn stores at D -/
theorem dcW_core {pins : List (Addr × Obj)} {s : Shared} {σ : L2.St} {H : Hp} {Q : VK} {kx vx tg iter : Expr} {ifs : List Expr} {scope : Scope} {own : List (Str × Nat)} {pos pos' : Pos} {wi : TI} {g : TG} {tt : TT} {tk tv : TE} {use : Option (Value → Sem Unit)} {Qf : Value → Shared → Prop}
    (hu : X.A.units + 65 < cLine) (hc : X.calm = true) (hN : X.N.Nodup) (I : Inv X pins σ H s) (hi : PI X tg iter wi) (ok : BlkOk X.N X.env.scope scope own)
    (hg : ∀ s H C cl fp, PG (blkAt X scope s H C cl fp) tg g) (ht : ∀ s H C cl fp, PTs (blkAt X scope s H C cl fp) ifs tt) (hk : ∀ s H C cl fp, PE (blkAt X scope s H C cl fp) kx tk) (he : ∀ s H C cl fp, PE (blkAt X scope s H C cl fp) vx tv) (hs : ∀ x, foldedSetIterable iter X.env x = pure x)
    (h : tDcW X wi g tt tk tv (own.map (·.2)) σ H Q)
    (hRR : ∀ D C s' m H', Inv X pins σ H' s' → Q (.ref D) H' → s'.heap.Ns C m → FpOk X pins H' C → compPost (model X.prog X.w) X.A X.xe use Qf (.ref D) C (.ok .next) s') :
    wpAny (model X.prog X.w) X.A (comprehension (.DictComp kx vx [⟨tg, iter, ifs, 0⟩] scope pos) scope X.env pos' newDict false (eval iter X.env) use) Qf X.xe s := by
  have free : ∀ y ∈ scope.names, y.2 = .free → ∃ c, X.env.cells.lookup y.1 = some c := fun y hy e => (ok.free y hy e).elim (fun k => I.ok.has _ (.inl k)) fun k => I.ok.has _ (.inr k)
  refine wpAny_comprehension_free (use := use) rfl hs (closure_ok free) ok.kind (fun y hy e => by rw [ok.uniq y hy, e])
    (thn (hi.run pins s σ H _ I h) fun _ s1 hx => thn hx fun _ s2 ⟨it, fp, tn, J, H2, e, I2, T, st2, f2, q⟩ => ?_)
  subst e
  refine wpAny_newObj_type (newEnv_comp ?_)
  generalize hD : s2.heap.objs.size = D
  have hDn : H2 D = none := I2.hok.fresh (Nat.le_of_eq hD)
  obtain ⟨W, ⟨m0, w0⟩, turn⟩ := q D hDn
  generalize hs3 : ({ s2 with heap := s2.heap.push { cls := .type "dict", data := .dict #[] } } : Shared) = s3
  have h3 : s3.heap = s2.heap.push { cls := .type "dict", data := .dict #[] } := by rw [← hs3]
  have I3 : Inv X pins σ (upd H2 D (.dK [])) s3 := by
    rw [← hs3]
    exact I2.laid (t' := s2.toks) (fun b o e => Heap.get?_push_of_some _ e) (Nat.le_of_eq hD) (by rw [← hD]; exact dk_empty s2.heap I2.big)
  have f3 : ∀ b ∈ fp, FpOk X pins (upd H2 D (.dK [])) b ∧ b < s3.heap.objs.size := fun b hb => by
    obtain ⟨o, e, _⟩ := T.obj _ _ st2 b hb
    have hlt : b < s2.heap.objs.size := Heap.lt_size e
    refine ⟨⟨by rw [upd_ne (by rw [← hD]; exact Nat.ne_of_lt hlt)]; exact (f2 b hb).1, (f2 b hb).2⟩, by rw [h3, Heap.size_push]; exact Nat.lt_succ_of_lt hlt⟩
  have st3 : tn 0 s3.heap := T.keep _ _ _ st2 fun b _ o e => by rw [h3]; exact Heap.get?_push_of_some _ e
  have I4 := block_start I3 ok hN f3
  have pg := hg s3 (upd H2 D (.dK [])) s3.heap.objs.size (cellsFrom (s3.heap.objs.size + 1) scope.names (cloFrom X.env.cells scope.names [])) fp
  have pt := ht s3 (upd H2 D (.dK [])) s3.heap.objs.size (cellsFrom (s3.heap.objs.size + 1) scope.names (cloFrom X.env.cells scope.names [])) fp
  have pk := hk s3 (upd H2 D (.dK [])) s3.heap.objs.size (cellsFrom (s3.heap.objs.size + 1) scope.names (cloFrom X.env.cells scope.names [])) fp
  have pe := he s3 (upd H2 D (.dK [])) s3.heap.objs.size (cellsFrom (s3.heap.objs.size + 1) scope.names (cloFrom X.env.cells scope.names [])) fp
  show codeAny _ _ (.compStart (.DictComp kx vx [⟨tg, iter, ifs, 0⟩] scope pos) 0 (.ref it) (.ref D) (compEnvC scope (cellsFrom (s3.heap.objs.size + 1) scope.names (cloFrom X.env.cells scope.names [])) s3.heap.objs.size X.env)) (compPost (model X.prog X.w) X.A X.xe use Qf (.ref D) s3.heap.objs.size) { s3 with heap := pushCells (s3.heap.push { cls := .type "dict", data := .dict #[] }) scope.names }
  have nfp : ∀ b ∈ fp, (upd H2 D (.dK [])) b = none := fun b hb => (f3 b hb).1.1
  unfold blkAt at pg pt pk pe
  generalize hce : compEnvC scope (cellsFrom (s3.heap.objs.size + 1) scope.names (cloFrom X.env.cells scope.names [])) s3.heap.objs.size X.env = ce at I4 pg pt pk pe ⊢
  have cL : ce.locals = s3.heap.objs.size := by subst hce; rfl
  generalize hH3 : upd H2 D (.dK []) = H3 at I3 I4 pg pt pk pe w0 nfp f3
  generalize hs4 : ({ s3 with heap := pushCells (s3.heap.push { cls := .type "dict", data := .dict #[] }) scope.names } : Shared) = s4 at I4 ⊢
  have st4 : tn 0 s4.heap := T.keep _ _ _ st3 fun b _ o e => by rw [← hs4]; exact pushCells_keeps _ _ _ _ (Heap.get?_push_of_some _ e)
  have stat : ∀ {σ' : L2.St} {H' : Hp} {s' : Shared}, Inv (X.blk s3 H3 scope ce fp) [] σ' H' s' → (∀ b ∈ fp, H' b = none) → ∀ b ∈ fp, FpOk (X.blk s3 H3 scope ce fp) [] H' b := fun {σ' H' s'} I' hn b hb =>
    ⟨hn b hb, (I'.ok.exf b hb).1, I'.ok.exfs b hb, .inl hb, fun x c e => (I'.ok.exf b hb).2 x c e, fun p hp => absurd (show p ∈ ([] : List (Addr × Obj)) ++ [] from hp) (by simp)⟩
  have loop : codeAny (model X.prog X.w) X.A (.compLoop (.DictComp kx vx [⟨tg, iter, ifs, 0⟩] scope pos) 0 (.ref it) (.ref D) ce) (compPost (model X.prog X.w) X.A X.xe use Qf (.ref D) s3.heap.objs.size) s4 := by
    refine compLoop_anyD (fun n s' => ∃ i H', Inv (X.blk s3 H3 scope ce fp) [] (L2.wipe σ (own.map (·.2))) H' s' ∧ tn i s'.heap ∧ (∀ b ∈ fp, H' b = none) ∧ W i n H') ?_ m0 ⟨0, H3, I4, st4, nfp, w0⟩
    rintro n s5 ⟨i, H5, I5, st5, n5, w5⟩
    rcases turn i n H5 w5 with ⟨stop, qq⟩ | ⟨go, Nx, hNx, step⟩
    · refine thnF (T.done (X.blk s3 H3 scope ce fp) rfl rfl rfl hc i [] s5 _ H5 (fun _ _ => False) I5 (stat I5 n5) st5 stop) fun r s6 ⟨hr, I6⟩ => ?_
      subst hr
      have I7 : Inv X pins σ H5 s6 := I3.call' (ch := fp) I6.os I6.base I6.hok I6.bare fun b hb => ⟨(f3 b hb).1.2.2.2.1, (f3 b hb).1.2.1, (f3 b hb).1.2.2.2.2.1, (f3 b hb).1.2.2.2.2.2⟩
      have nC : H5 s3.heap.objs.size = none := by
        have z : H5 ce.locals = none := I6.free
        rwa [cL] at z
      obtain ⟨m, hn, _⟩ := I6.loc
      have hn : s6.heap.Ns ce.locals m := hn
      rw [cL] at hn
      exact hRR D s3.heap.objs.size s6 m H5 I7 qq hn (I3.fpOk (Nat.le_refl _) nC)
    · refine thnF (T.item (X.blk s3 H3 scope ce fp) rfl rfl rfl hc i [] s5 _ H5 (fun _ _ => False) I5 (stat I5 n5) st5 go) fun r s6 ⟨u, hr, h6⟩ => ?_
      subst hr
      refine thnF h6 fun _ s7 ⟨x, H7, I7, r7, y7, st7, n7⟩ => ?_
      have I7' := I7.pinned (stat I7 n7) (T.obj _ _ st7)
      refine thnF (pg.run _ s7 _ H7 x u _ I7' r7 (step x H7 y7)) fun _ s8 ⟨σ8, H8, I8, hw8, q8⟩ => thnF (pt.run _ s8 σ8 H8 _ I8 q8) fun b s9 ⟨H9, I9, q9⟩ => ?_
      have fin : ∀ {s' : Shared} {H' : Hp}, Inv (X.blk s3 H3 scope ce fp) ([] ++ pinsAt fp s7.heap) σ8 H' s' → Nx H' → ∃ m, m < n ∧ ∃ i H', Inv (X.blk s3 H3 scope ce fp) [] (L2.wipe σ (own.map (·.2))) H' s' ∧ tn i s'.heap ∧ (∀ b ∈ fp, H' b = none) ∧ W i m H' := fun {s' H'} I' nx => by
        obtain ⟨m', hm, w'⟩ := hNx H' nx
        have pin' : ∀ b ∈ fp, ∀ o, s7.heap.get? b = some o → s'.heap.get? b = some o ∧ H' b = none := fun b hb o e =>
          let z := I'.pin (b, o) (List.mem_append_right _ (List.mem_append_right _ (mem_pinsAt hb e)))
          ⟨z.1, z.2.1⟩
        have hl : (L2.wipe σ (own.map (·.2))).length = σ8.length := by rw [← hw8, wipe_length]
        refine ⟨m', hm, i + 1, H', (I'.unpinned (pins := [])).weak hl (fun j v e => ?_), T.keep _ _ _ st7 fun b hb o e => (pin' b hb o e).1, fun b hb => ?_, w'⟩
        · rw [← hw8] at e
          exact (wipe_some e).1
        · obtain ⟨o, e, _⟩ := T.obj _ _ st7 b hb
          exact (pin' b hb o e).2
      cases b with
      | false =>
        simp only [Bool.false_eq_true, if_false] at q9 ⊢
        exact fin I9 q9
      | true =>
        simp only [if_true] at q9 ⊢
        refine thnF (pk.run _ s9 σ8 H9 _ I9 q9) fun z s10 ⟨yk, H10, I10, r10, q10⟩ => thnF (pe.run _ s10 σ8 H10 _ I10 q10) fun z2 s11 ⟨yv, H11, I11, r11, ρ, ks, ws, k, w, c, hk', hl', rk, rw, nx⟩ => ?_
        exact d_put (X := X.blk s3 H3 scope ce fp) (by show X.A.units + 9 < cLine; omega) I11 c hk' hl' rk r10 rw r11 fun o s12 I12 pp => fin I12 (nx o ⟨pp.di, pp.ro⟩)
  exact codeAny_compStart_dict loop (T.self X.A 0 _ _ _ st4 loop)
theorem pe_dcW {kx vx tg iter : Expr} {ifs : List Expr} {scope : Scope} {own : List (Str × Nat)} {pos : Pos} {wi : TI} {g : TG} {tt : TT} {tk tv : TE} (hu : X.A.units + 65 < cLine) (hc : X.calm = true) (hN : X.N.Nodup) (hi : PI X tg iter wi) (ok : BlkOk X.N X.env.scope scope own)
    (hg : ∀ s H C cl fp, PG (blkAt X scope s H C cl fp) tg g) (ht : ∀ s H C cl fp, PTs (blkAt X scope s H C cl fp) ifs tt) (hk : ∀ s H C cl fp, PE (blkAt X scope s H C cl fp) kx tk) (he : ∀ s H C cl fp, PE (blkAt X scope s H C cl fp) vx tv) (hs : ∀ x, foldedSetIterable iter X.env x = pure x) :
    PE X (.DictComp kx vx [⟨tg, iter, ifs, 0⟩] scope pos) (tDcW X wi g tt tk tv (own.map (·.2))) := by
  refine ⟨fun pins s σ H Q I h => ?_⟩
  rw [arm_eval_DictComp]
  refine dcW_core hu hc hN I hi ok hg ht hk he hs h fun D C s' m H' I' q hn f => ⟨m, hn, fun h'' sb => ?_⟩
  obtain ⟨f0, f1, f2, f3, f4, f5⟩ := f
  exact ⟨.ref D, H', I'.turned (t' := s'.toks) (fun b o hb e => (sb.2 b hb).trans e) f0 f1 f3 f4 f5, rfl, q⟩
end
end Dn
end
section
set_option Elab.async false
set_option linter.all false
set_option maxRecDepth 100000
set_option maxHeartbeats 4000000
namespace Dn
open PySem PySem.Spec PyProof.Rows L2
/-! ### dict comprehensions -/
def dcL (t : Tgt) (c : DT) (fk fv : DE) (chk : AH → Bool) (env : Env) : List W → List W → List W → AH → Res (List W × List W)
  | [], ks, ws, h => .ok (ks, ws) h
  | x :: xs, ks, ws, h => match t.set x env with
    | none => .stuck
    | some env1 => (c env1 h).bindN fun b h1 => if b = true then (fk env1 h1).bindN fun k h2 => (fv env1 h2).bindN fun y h3 => if (chk h3 && (kdOk ks k && decide (ks.length < line))) = true then dcL t c fk fv chk env xs (dPutK ks k) (dPutV ks ws k y) h3 else .stuck
      else if chk h1 = true then dcL t c fk fv chk env xs ks ws h1 else .stuck
def dcEnd (p : List W × List W) (h2 : AH) : Res W := .ok (.ref h2.length) (h2 ++ [.dct p.1 p.2])
def dDc (i : DI) (t : Tgt) (c : DT) (fk fv : DE) (vs : List Nat) : DE := fun env h => (i env h).bind fun src h1 => if (okSrc t src h1 && subL t.slots vs) = true then (dcL t c fk fv src.chk (wipeE env vs) src.items [] [] h1).bind dcEnd else .stuck
theorem ro_dict {M : Md} {ρ : Rho} {H : Hp} {D : Addr} {ks ws : List W} (h : RO M ρ H D (.dct ks ws)) : ∃ u, H D = some u ∧ Dictish u := by
  obtain ⟨vs, h1, ⟨kvs, h2, h3⟩ | ⟨xs, h2, h3⟩⟩ := h
  · exact ⟨_, h3, trivial⟩
  · exact ⟨_, h2, trivial⟩
section
variable {X : Cx} {Wx : WX} {tg iter kx vx : Expr} {ifs : List Expr} {pos : Pos}
theorem dc_reading {fi : DI} {t : Tgt} {c : DT} {fk fv : DE} {vs : List Nat} {σ : L2.St} {H : Hp} {Q : VK} (h : tE (mdOf X) Wx (dDc fi t c fk fv vs) σ H Q) : tDcW X (tI (mdOf X) Wx fi) (tgR X.K t) (tT (mdOf X) noW c) (tE (mdOf X) noW fk) (tE (mdOf X) noW fv) vs σ H Q := by
  obtain ⟨ρ, env, ah, re, rh, o⟩ := h
  refine (tI_then re rh o).mono fun J H1 ⟨ρ1, ah1, src, f1, rh1, it, o1⟩ => ?_
  intro D hD
  have hcs : okSrc t src ah1 = true ∧ subL t.slots vs = true := by
    by_cases hc : (okSrc t src ah1 && subL t.slots vs) = true
    · exact Bool.and_eq_true_iff.mp hc
    · rw [if_neg hc] at o1
      exact o1.elim
  rw [if_pos (by rw [hcs.1, hcs.2]; rfl)] at o1
  obtain ⟨hc, hraw⟩ := okSrc_iff hcs.1
  have hsub : ∀ i ∈ t.slots, i ∈ vs := fun i hi => by simpa using List.all_eq_true.mp hcs.2 i hi
  obtain ⟨items, chk, raw⟩ := src
  have hDp : D ∉ ρ1.prot := fun z => rh1.fresh hD (Rho.mem_all.mpr (.inr z))
  have reW := (re.mono f1).wipe vs
  refine ⟨fun i k H' => k = items.length - i ∧ i ≤ items.length ∧ ∃ ρ' ah' ks ws, Fr ρ1 H1 ρ' H' ∧ REnv (mdOf X) ρ' H' (wipeE env vs) (L2.wipe σ vs) ∧ RelH (mdOf X) ρ' H' ah' ∧ chk ah' = true ∧ D ∈ ρ'.prot ∧ RO (mdOf X) ρ' H' D (.dct ks ws) ∧
      OutG (mdOf X) (RW (mdOf X)) ρ1 H1 ((dcL t c fk fv chk (wipeE env vs) (items.drop i) ks ws ah').bind dcEnd) Q (WE Wx σ),
    ⟨items.length, by simp, Nat.zero_le _, ρ1.hold D, ah1, [], [], Fr.holdNew hD, reW.mono (Fr.holdNew hD), rh1.holdNew hD, hc, List.mem_cons_self, ⟨[], .nil, .inl ⟨[], rfl, upd_same⟩⟩, o1⟩, ?_⟩
  rintro i k H' ⟨rfl, hi, ρ', ah', ks, ws, f', re', rh', hc', hp', hD', o'⟩
  obtain ⟨stop, go⟩ := it ρ' H' ah' f'.weak rh' hc' i
  obtain ⟨u0, hu0, du0⟩ := ro_dict hD'
  have hcell : ∀ {ρ2 : Rho} {H2 : Hp} {ah2 : AH}, Fr ρ' H' ρ2 H2 → RelH (mdOf X) ρ2 H2 ah2 → RO (mdOf X) ρ2 H2 D (.dct ks ws) ∧ D ∈ ρ2.prot ∧ NoFz (H2 D) := fun {ρ2 H2 ah2} f r => by
    have e : H2 D = H' D := by rw [hu0]; exact f.just D _ hp' hu0
    refine ⟨hD'.mono f e, f.hold D hp', ?_⟩
    rw [e, hu0]
    intro od u z
    cases z
    exact du0
  by_cases hlt : i < items.length
  · have hx : items[i]? = some items[i] := by simp [hlt]
    obtain ⟨hgo, hy⟩ := go _ hx
    refine .inr ⟨hgo, fun H3 => i + 1 ≤ items.length ∧ ∃ ρ3 ah3 ks3 ws3, Fr ρ1 H1 ρ3 H3 ∧ REnv (mdOf X) ρ3 H3 (wipeE env vs) (L2.wipe σ vs) ∧ RelH (mdOf X) ρ3 H3 ah3 ∧ chk ah3 = true ∧ D ∈ ρ3.prot ∧ RO (mdOf X) ρ3 H3 D (.dct ks3 ws3) ∧
      OutG (mdOf X) (RW (mdOf X)) ρ1 H1 ((dcL t c fk fv chk (wipeE env vs) (items.drop (i + 1)) ks3 ws3 ah3).bind dcEnd) Q (WE Wx σ), fun H3 n3 => ⟨items.length - (i + 1), by omega, rfl, n3⟩, fun v H2 yv => ?_⟩
    obtain ⟨f2, rh2, rv⟩ := hy v H2 yv
    rw [List.drop_eq_getElem_cons hlt, dcL] at o'
    generalize hg : t.set items[i] (wipeE env vs) = q at o'
    cases q with
    | none => exact o'.elim
    | some env4 =>
      refine tgR_ok rv hraw hg (re'.mono f2) fun σ4 re4 hw => ⟨by rw [hw vs hsub, wipe_idem], ?_⟩
      simp only at o'
      refine ⟨ρ', env4, ah', re4, rh2, ?_⟩
      generalize c env4 ah' = r at o'
      cases r with
      | exc _ _ => exact o'.elim
      | stuck => exact o'.elim
      | ok k h1 =>
        intro ρ3 b H3 f3 rh3 eb
        have eb : k = b := eb
        subst eb
        rw [Res.bindN_ok] at o'
        have f03 := (f'.trans f2).trans f3
        cases k with
        | false =>
          rw [if_neg Bool.false_ne_true] at o'
          obtain ⟨d3, p3, _⟩ := hcell (f2.trans f3) rh3
          refine iteF ⟨hlt, ρ3, h1, ks, ws, f03, re'.mono (f2.trans f3), rh3, ?_⟩
          by_cases hc3 : chk h1 = true
          · rw [if_pos hc3] at o'
            exact ⟨hc3, p3, d3, o'⟩
          · rw [if_neg hc3] at o'
            exact o'.elim
        | true =>
          rw [if_pos rfl] at o'
          refine iteT ⟨ρ3, env4, h1, re4.mono f3, rh3, ?_⟩
          generalize fk env4 h1 = r at o'
          cases r with
          | exc _ _ => exact o'.elim
          | stuck => exact o'.elim
          | ok kw h2 =>
            intro ρ4 yk H4 f4 rh4 rk
            rw [Res.bindN_ok] at o'
            refine ⟨ρ4, env4, h2, re4.mono (f3.trans f4), rh4, ?_⟩
            generalize fv env4 h2 = r at o'
            cases r with
            | exc _ _ => exact o'.elim
            | stuck => exact o'.elim
            | ok y h3 =>
              intro ρ5 yv H5 f5 rh5 ry
              rw [Res.bindN_ok] at o'
              have f25 := ((f2.trans f3).trans f4).trans f5
              obtain ⟨d5, p5, nf5⟩ := hcell f25 rh5
              by_cases hc5 : (chk h3 && (kdOk ks kw && decide (ks.length < line))) = true
              · rw [if_pos hc5] at o'
                obtain ⟨hc5, hc6⟩ := Bool.and_eq_true_iff.mp hc5
                obtain ⟨hk5, hl5⟩ := Bool.and_eq_true_iff.mp hc6
                refine ⟨ρ5, ks, ws, kw, y, d5, hk5, of_decide_eq_true hl5, RW.mono f5 _ _ rk, ry, fun o pp => ?_⟩
                have hld := Fr0.held (H := H5) (o := o) p5 nf5
                exact ⟨hlt, ρ5, h3, _, _, (f'.trans f25).late hD, (re'.mono f25).mono0 hld, rh5.held p5 nf5, hc5, p5, pp.ro _ upd_same (fun us vs => RWs.mono0 hld us vs), o'⟩
              · rw [if_neg hc5] at o'
                exact o'.elim
  · have e' : i = items.length := by omega
    subst e'
    rw [List.drop_length, dcL, Res.bind_ok] at o'
    refine .inl ⟨stop rfl, ?_⟩
    have o2 : ∀ ρ2 b H2, Fr ρ1 H1 ρ2 H2 → RelH (mdOf X) ρ2 H2 (ah' ++ [AO.dct ks ws]) → RW (mdOf X) ρ2 H2 (.ref ah'.length) b → Q b H2 := o'
    refine o2 ((ρ'.let_ D).push D) (.ref D) H' (f'.adopt hD hDp) (rh'.adopt hp' (hD'.mono0 (Fr0.adopt hp') rfl)) ?_
    rw [RW]
    refine ⟨D, rfl, ?_⟩
    show (ρ'.cells ++ [D])[ah'.length]? = some D
    rw [← rh'.len]
    simp
theorem r_dc {fi : DI} {t : Tgt} {fc : DT} {fk fv : DE} {scope : Scope} {own : List (Str × Nat)} (hu : X.A.units + 65 < cLine) (hc : X.calm = true) (hN : X.N.Nodup) (hi : PI X tg iter (tI (mdOf X) Wx fi)) (ok : BlkOk X.N X.env.scope scope own)
    (hg : ∀ s H C cl fp, PG (blkAt X scope s H C cl fp) tg (tgR X.K t)) (ht : ∀ s H C cl fp, PTs (blkAt X scope s H C cl fp) ifs (tT (mdOf X) noW fc)) (hk : ∀ s H C cl fp, PE (blkAt X scope s H C cl fp) kx (tE (mdOf X) noW fk)) (he : ∀ s H C cl fp, PE (blkAt X scope s H C cl fp) vx (tE (mdOf X) noW fv)) (hs : ∀ x, foldedSetIterable iter X.env x = pure x) :
    PE X (.DictComp kx vx [⟨tg, iter, ifs, 0⟩] scope pos) (tE (mdOf X) Wx (dDc fi t fc fk fv (own.map (·.2)))) :=
  PE_imp (pe_dcW hu hc hN hi ok hg ht hk he hs) fun σ H Q h => dc_reading h
/-- {k: v}, k a tuple -/
def dDisp1 (fk fv : DE) : DE := fun env h => (fk env h).bind fun k h1 => (fv env h1).bind fun v h2 => if nestB k = true then .ok (.ref h2.length) (h2 ++ [.dct [k] [v]]) else .stuck
theorem r_disp1 {ke ve : Expr} {fk fv : DE} (hu : X.A.units + 65 < cLine) (hk : PE X ke (tE (mdOf X) Wx fk)) (hv : PE X ve (tE (mdOf X) Wx fv)) : PE X (.Dict [some ke] [ve] pos) (tE (mdOf X) Wx (dDisp1 fk fv)) := by
  refine ⟨fun pins s σ H Q I ⟨ρ, env, ah, re, rh, o⟩ => ?_⟩
  obtain ⟨D, hD⟩ : ∃ D, D = s.heap.objs.size := ⟨_, rfl⟩
  have hDn : H D = none := I.hok.fresh (Nat.le_of_eq hD.symm)
  have I1 : Inv X pins σ (upd H D (.dK [])) { s with heap := s.heap.push { cls := .type "dict", data := .dict #[] } } := by
    rw [hD]
    exact I.laid (o := .dK []) (h' := s.heap.push { cls := .type "dict", data := .dict #[] }) (t' := s.toks) (fun _ _ q => Heap.get?_push_of_some _ q) (Nat.le_refl _) (dk_empty s.heap I.big)
  have hDp : D ∉ ρ.prot := fun z => rh.fresh hDn (Rho.mem_all.mpr (.inr z))
  have f0 : Fr ρ H (ρ.hold D) (upd H D (.dK [])) := Fr.holdNew hDn
  have hz := zip_pairTrees [some ke] [ve] X.env pos rfl rfl
  have ne : pairTrees [some ke] [ve] X.env pos ≠ [] := fun z => nomatch z
  rw [arm_eval_Dict, hz, dictDisplay_pairs _ ne (by show 1 < 17; decide)]
  refine wpAny_bind (wpAny_standAt (wpAny_bind (wpAny_subDictH (knd := nestedKind X.prog X.w) (Q := fun d s' => wpAny (model X.prog X.w) X.A (pure (Value.ref d)) (EP X pins σ Q) X.xe s') (by show X.A.units + 8 < cLine; omega) (by show 1 ≤ 15; decide) ?_)))
  rw [← hD]
  have rd1 : tE (mdOf X) Wx fk σ (upd H D (.dK [])) (fun x H1 => ∃ ρ1 h1 k, Fr (ρ.hold D) (upd H D (.dK [])) ρ1 H1 ∧ RelH (mdOf X) ρ1 H1 h1 ∧ RW (mdOf X) ρ1 H1 k x ∧ OutG (mdOf X) (RW (mdOf X)) ρ H ((fv env h1).bind fun v h2 => if nestB k = true then .ok (.ref h2.length) (h2 ++ [.dct [k] [v]]) else .stuck) Q (WE Wx σ)) := by
    refine ⟨ρ.hold D, env, ah, re.mono f0, rh.holdNew hDn, ?_⟩
    unfold dDisp1 at o
    generalize fk env ah = r at o
    cases r with
    | ok k h1 => exact fun ρ1 x H1 f1 r1 rk => ⟨ρ1, h1, k, f1, r1, rk, o⟩
    | exc c a => exact fun ρ' H' f' r' => o ρ' H' (f0.trans f') r'
    | stuck => exact o
  refine pairTrees_cons_walk (thn (hk.run pins _ σ _ _ I1 rd1) fun u s1 ⟨x, H1, I2, rx, ρ1, ah1, k, f1, rh1, rk, o1⟩ => ?_)
  have rd2 : tE (mdOf X) Wx fv σ H1 (fun x H2 => ∃ ρ2 h2 v, Fr ρ1 H1 ρ2 H2 ∧ RelH (mdOf X) ρ2 H2 h2 ∧ RW (mdOf X) ρ2 H2 v x ∧ OutG (mdOf X) (RW (mdOf X)) ρ H (if nestB k = true then .ok (.ref h2.length) (h2 ++ [.dct [k] [v]]) else .stuck) Q (WE Wx σ)) := by
    refine ⟨ρ1, env, ah1, (re.mono f0).mono f1, rh1, ?_⟩
    generalize fv env ah1 = r at o1
    cases r with
    | ok v h2 => exact fun ρ2 x H2 f2 r2 rv => ⟨ρ2, h2, v, f2, r2, rv, o1⟩
    | exc c a => exact fun ρ' H' f' r' => o1 ρ' H' ((f0.trans f1).trans f') r'
    | stuck => exact o1
  refine thn (hv.run pins s1 σ H1 _ I2 rd2) fun z s2 ⟨y, H2, I3, ry, ρ2, ah2, v, f2, rh2, rv, o2⟩ => ?_
  split at o2
  · rename_i hn
    have f12 := f1.trans f2
    have hDh : D ∈ (ρ.hold D).prot := List.mem_cons_self
    have e2 : H2 D = some (.dK []) := f12.just D _ hDh upd_same
    have p2 : D ∈ ρ2.prot := f12.hold D hDh
    have c : RO (mdOf X) ρ2 H2 D (.dct [] []) := ⟨[], .nil, .inl ⟨[], rfl, e2⟩⟩
    obtain ⟨d, mu⟩ := DR.cell c
    have nf : NoFz (H2 D) := NoFz.of e2 fun _ _ z => nomatch z
    have rk2 := RW.mono f2 _ _ rk
    obtain ⟨b, q, e3, e4, e5, e6, hi⟩ := nest_is I3.hok hn rk2 rx
    subst e3 e4
    obtain ⟨hs, vs, xs, r1, hz, r2, r3, r4, dd⟩ := d.nest I3 rfl
    have hx0 := nk_nil r2
    subst hx0
    refine pairTrees_nil_walk ⟨[(q, b, z)], ⟨rfl, rfl, hi, trivial⟩, dd, fun h' tk dd' hb => wpAny_pure ?_⟩
    have dd' : h'.DictOfH (nestedKind X.prog X.w) D [(q, b, z)] := dd'
    obtain ⟨ob, es, ep, g1, g2, g3, g4, g5, g6⟩ := dd'
    have new : ObjOk X.prog X.w (upd H2 D (.ext (DF X.prog X.w D [(q, b, z)]))) h' D (.ext (DF X.prog X.w D [(q, b, z)])) :=
      ⟨⟨ob, es, ep, g1, g2, g3, g4, g6⟩, ⟨ob, g1⟩, fun h1 h2 ⟨o, es, ep, p1, p2, p3, p4, p5⟩ hk => ⟨o, es, ep, hk o p1, p2, p3, p4, p5⟩⟩
    have I4 := d_write (t' := tk) I3 mu hb ⟨ob, g1⟩ new
    have hld := Fr0.held (H := H2) (o := .ext (DF X.prog X.w D [(q, b, z)])) p2 nf
    have ro : RO (mdOf X) ρ2 (upd H2 D (.ext (DF X.prog X.w D [(q, b, z)]))) D (.dct [k] [v]) := by
      refine ⟨[y], RWs.mono0 hld _ _ (.cons rv .nil), .inr ⟨[(q, b, z)], upd_same, hs, by show 1 ≤ sizeLine; decide, ?_, RWs.mono0 hld _ _ (.cons rk2 .nil), .cons ry .nil⟩⟩
      show nkWs [k] = some [q]
      rw [nkWs, e5]
      rfl
    have fall := (f0.trans f12).late (o := .ext (DF X.prog X.w D [(q, b, z)])) hDn
    have o3 : ∀ ρ' b' H', Fr ρ H ρ' H' → RelH (mdOf X) ρ' H' (ah2 ++ [.dct [k] [v]]) → RW (mdOf X) ρ' H' (.ref ah2.length) b' → Q b' H' := o2
    refine ⟨.ref D, _, I4, rfl, o3 ((ρ2.let_ D).push D) (.ref D) _ (fall.adopt hDn hDp) ((rh2.held p2 nf).adopt p2 (ro.mono0 (Fr0.adopt p2) rfl)) ?_⟩
    rw [RW]
    refine ⟨D, rfl, ?_⟩
    show (ρ2.cells ++ [D])[ah2.length]? = some D
    rw [← rh2.len]
    simp
  · exact o2.elim
end
end Dn
end
section
set_option Elab.async false
set_option linter.all false
set_option maxRecDepth 100000
set_option maxHeartbeats 4000000
namespace Dn
open PySem PySem.Spec PyProof.Rows L2
/-! ### len(set(xs)), xs a list of whole numbers -/
def ddI (ns : List Int) : List Int := PyProof.Rows.firstMet (fun i => ns.getD i 0) ns.length
def gLenSet (w : W) (h : AH) : Option W := match lstOf h w with
  | some xs => match intsOf xs with
    | some ns => if ns.length ≤ 4000 then some (.int ((ddI ns).length : Nat)) else none
    | none => none
  | none => none
section
variable {X : Cx} {Wx : WX} {a : Expr} {fa : DE} {p p2 q pos : Pos}
theorem r_lenSet (hg : Gl X "len") (hm : X.mg "len" = none) (hg2 : Gl X "set") (hm2 : X.mg "set" = none) (ha : PE X a (tE (mdOf X) Wx fa)) (hc : X.calm = true) (hs : noStar [a] = true) :
    PE X (.Call (.Name "len" p) [.Call (.Name "set" p2) [a] [] q] [] pos) (tE (mdOf X) Wx (dUn gLenSet fa)) := by
  refine ⟨fun pins s σ H Q I ⟨ρ, env, ah, re, rh, o⟩ => ?_⟩
  have na : starEach [a] X.env = (false, eval a X.env) :: starEach [] X.env := (noStar_cons hs X.env).1
  refine Call_ (ld_blt I hg hm boot_len ?_)
  refine PyProof.Rows.callWith_builtin1 (PyProof.Rows.args_cons ?_ rfl) rfl rfl
  refine Call_ (ld_blt I hg2 hm2 boot_set ?_)
  refine PyProof.Rows.callWith_type1 (PyProof.Rows.args_cons (thn (ha.run pins s σ H _ I (tE_then re rh o)) fun v s1 ⟨x, H1, I1, r1, ρ1, ah1, w, f1, rh1, rw1, o1⟩ => PyProof.Rows.args_nil ?_) na) na rfl
  unfold gLenSet at o1
  split at o1
  · rename_i xs hi
    split at o1
    · rename_i ns hn
      split at o1
      · rename_i hl
        obtain ⟨l, ys, rfl, hq, rr⟩ := lstOf_at rh1 rw1 hi
        have := ints_vals rr hn
        subst this
        obtain rfl : v = Value.ref l := r1
        obtain ⟨its, r, pl, hz⟩ := I1.list hq
        have hlen : its.toArray.size = ns.length := by rw [List.size_toArray, ← r.length, List.length_map]
        refine call_set_list (I1.ok.hd hc) pl.isList (by simpa using RZ.intsAre_vals r) (by rw [hlen]; unfold scanBound; omega) fun h' tk hS hk => ?_
        refine PyProof.Rows.args_nil ?_
        rw [hlen] at hS
        obtain ⟨o, es, ep, t, ho, hex, hd, _, _, _, hf, hn2⟩ := hS
        have I2 : Inv X pins σ H1 { s1 with heap := h', toks := tk } := I1.kept fun b o e => hk b o (Heap.lt_size e) e
        have l2 : es.size = (ddI ns).length := hn2
        have l3 : (ddI ns).length ≤ ns.length := PyProof.Rows.firstMet_length_le _ _
        exact call_len_set ho hex hd hf (by rw [l2]; omega) ⟨.int ((ddI ns).length : Nat), H1, I2.tok _, ⟨_, by rw [l2]⟩, o1 ρ1 _ H1 (Fr.refl _ _) rh1 (by rw [RW])⟩
      · exact o1.elim
    · exact o1.elim
  · exact o1.elim
end
end Dn
end
section
set_option Elab.async false
set_option linter.all false
set_option maxRecDepth 100000
set_option maxHeartbeats 4000000
namespace Dn
open PySem PySem.Spec PyProof.Rows L2
/-! ### sorted(xs), sorted(d) -/
def neTup : W → Bool
  | .tup (_ :: _) => true
  | _ => false
def noTup : W → Bool
  | .tup _ => false
  | .non => false
  | _ => true
def srtOk (xs : List W) : Bool := decide (xs.length ≤ line) && (decide (xs.length ≤ 1) || (xs.all (sh dl) && (xs.all (fun x => xs.all fun y => PySem.W.alike (toD x) (toD y)) && (xs.all neTup || xs.all noTup))))
def srtW (xs : List W) : List W := xs.mergeSort (PySem.W.dataLe false toD)
def gSort : List W → AH → Option (List W)
  | [w], h => match lstOf h w with
    | some xs => if srtOk xs = true then some (srtW xs) else none
    | none => match dctOf h w with
      | some (ks, _) => if srtOk ks = true then some (srtW ks) else none
      | none => none
  | _, _ => none
theorem each_of {R : Value → W → Prop} {M : Md} {ρ : Rho} {H : Hp} (h : ∀ (w : W) (y : V) (v : Value), RW M ρ H w y → RelV y v → R v w) : ∀ {ws : List W} {ys : List V} {vs : List Value}, RWs M ρ H ws ys → Vals ys vs → PySem.W.EachIs R vs ws
  | [], ys, vs, r, v => by
    rw [RWs] at r
    subst r
    cases v
    exact .nil
  | w :: ws, ys, vs, r, v => by
    rw [RWs] at r
    obtain ⟨y, ys', rfl, r1, r2⟩ := r
    cases v with
    | cons v1 v2 => exact .cons (h _ _ _ r1 v1) (each_of h r2 v2)
theorem each_all {R R' : Value → W → Prop} : ∀ {vs : List Value} {ws : List W}, PySem.W.EachIs R vs ws → (∀ v w, w ∈ ws → R v w → R' v w) → PySem.W.EachIs R' vs ws
  | _, _, .nil, _ => .nil
  | _, _, .cons h1 t, h => .cons (h _ _ (by simp) h1) (each_all t fun v w hw => h v w (by simp [hw]))
theorem each_back {M : Md} {ρ : Rho} {H : Hp} : ∀ {vs : List Value} {ws : List W}, PySem.W.EachIs (fun v w => ∃ y, RW M ρ H w y ∧ RelV y v) vs ws → ∃ ys, RWs M ρ H ws ys ∧ Vals ys vs
  | _, _, .nil => ⟨[], by rw [RWs], .nil⟩
  | _, _, .cons ⟨y, r, v⟩ t => by
    obtain ⟨ys, r2, v2⟩ := each_back t
    exact ⟨y :: ys, by rw [RWs]; exact ⟨y, ys, rfl, r, r2⟩, .cons v v2⟩
theorem srt1 {xs : List W} (h : xs.length ≤ 1) : srtW xs = xs :=
  match xs, h with
  | [], _ => by unfold srtW; simp
  | [x], _ => by unfold srtW; simp
section
variable {X : Cx} {pins : List (Addr × Obj)} {σ : L2.St} {H : Hp} {s1 : Shared} {ρ : Rho} {Q : VK}
theorem sort_tail {vs : List Value} {ys : List V} {ws : List W} {P : PySem.Fin → Shared → Prop} {E' : Value → Shared → Prop} (hu : X.A.units + 64 < cLine) (I1 : Inv X pins σ H s1) (rv : Vals ys vs) (rw_ : RWs (mdOf X) ρ H ws ys) (ok : srtOk ws = true) (q : ∀ zs p, H p = none → RWs (mdOf X) ρ H (srtW ws) zs → Q (.ref p) (upd H p (.lst zs)))
    (hP : ∀ v s', EP X pins σ Q v s' → P (.done (.ret v)) s') :
    wpAny (model X.prog X.w) X.A.in1 (newList vs >>= fun l => holding [l] (call (.builtin "list.sort") [l] []) >>= fun _ => ret l) P E' s1 := by
  unfold srtOk at ok
  rw [Bool.and_eq_true_iff] at ok
  obtain ⟨ok1, ok⟩ := ok
  have ok1 := of_decide_eq_true ok1
  have lv : vs.length = ws.length := by rw [← rv.length, rw_.length]
  have lz : vs.length ≤ sizeLine := by rw [lv]; exact ok1
  refine wpAny_bind (wpAny_newList ?_ lz)
  have hoL : (s1.heap.push (seqObj "list" vs.toArray 0)).get? s1.heap.objs.size = some (seqObj "list" vs.toArray 0) := Heap.get?_push_size _ rfl
  show wpAny _ _ _ _ _ { s1 with heap := s1.heap.push (seqObj "list" vs.toArray 0) }
  have fin : ∀ (out : List Value) (zs : List V), out.length = vs.length → RWs (mdOf X) ρ H (srtW ws) zs → Vals zs out → P (.done (.ret (.ref s1.heap.objs.size))) { s1 with heap := sortedHeap (s1.heap.push (seqObj "list" vs.toArray 0)) s1.heap.objs.size vs out.toArray } := fun out zs lo rz vz => by
    obtain ⟨e', he'⟩ := PyProof.Rows.sortedHeap_at (vs := vs) (out := out.toArray) hoL
    refine hP _ _ ⟨.ref s1.heap.objs.size, upd H s1.heap.objs.size (.lst zs), I1.laid (t' := s1.toks) (fun b u e => ?_) (Nat.le_refl _)
      (show ObjOk X.prog X.w _ _ _ (.lst zs) from ⟨by rw [vz.length, lo]; exact lz, out, e', vz, he'⟩), rfl, q zs _ (I1.hok.fresh (Nat.le_refl _)) rz⟩
    have hb : b < s1.heap.objs.size := Heap.lt_size e
    rw [PyProof.Rows.sortedHeap_old (Nat.ne_of_lt hb) (by rw [size_push']; exact Nat.lt_succ_of_lt hb)]
    exact Heap.get?_push_of_some _ e
  by_cases l1 : ws.length ≤ 1
  · refine wpAny_bind (wpAny_holding (wpAny_call_entry PyProof.Rows.slot_list_sort ⟨_, hoL, rfl⟩ PyProof.Rows.entry_list_sort
      (SrtO.list_sort_ord (s := { s1 with heap := s1.heap.push (seqObj "list" vs.toArray 0) }) SrtO.swo_int hoL lz (fun h2 => absurd h2 (by omega)) fun out h1 h2 => ⟨_, rfl, ?_⟩) (PyProof.Rows.args_list_sort _)))
    have e : out = vs := by
      have p := h2.perm
      match vs, lv with
      | [], _ => exact List.perm_nil.mp p
      | [v], _ => exact List.perm_singleton.mp p
      | _ :: _ :: _, lv => simp at lv; omega
    subst e
    exact wpAny_pure (fin out ys rfl (by rw [srt1 l1]; exact rw_) rv)
  · rw [decide_eq_false l1, Bool.false_or, Bool.and_eq_true_iff, Bool.and_eq_true_iff] at ok
    obtain ⟨a1, a2, a3⟩ := ok
    have hal : PySem.W.AllAlike (ws.map toD) := by
      intro d hd d' hd'
      obtain ⟨x, hx, rfl⟩ := List.mem_map.mp hd
      obtain ⟨y, hy, rfl⟩ := List.mem_map.mp hd'
      exact List.all_eq_true.mp (List.all_eq_true.mp a2 x hx) y hy
    have hk : PySem.W.Sortable (ws.map toD) := by
      rcases Bool.or_eq_true_iff.mp a3 with z | z
      · refine .inl fun d hd => ?_
        obtain ⟨x, hx, rfl⟩ := List.mem_map.mp hd
        have := List.all_eq_true.mp z x hx
        match x, this with
        | .tup (y :: r), _ => exact ⟨toD y, toDs r, by simp [toD, toDs]⟩
      · refine .inr fun d hd => ?_
        obtain ⟨x, hx, rfl⟩ := List.mem_map.mp hd
        have n := List.all_eq_true.mp z x hx
        have s := List.all_eq_true.mp a1 x hx
        cases x <;> simp [noTup, dl, sh] at n s <;> simp [toD]
    have e : PySem.W.EachIs (fun v w => ∃ y, RW (mdOf X) ρ H w y ∧ RelV y v) vs ws := each_of (fun w y v r rv => ⟨y, r, rv⟩) rw_ rv
    have er' : PySem.W.EachIs (fun v b => ∃ as, Reads (PySem.W.sortingHeap (s1.heap.push (seqObj "list" vs.toArray 0)) s1.heap.objs.size vs) v (toD b) as) vs ws := each_all e fun v w hw ⟨y, r, rl⟩ => by
      obtain ⟨as, ra⟩ := Dp.reads I1 _ y v (sh_dp dl _ _ (List.all_eq_true.mp a1 w hw) r) rl
      exact ⟨as, PyProof.Rows.Reads.keeps (fun b o e => PySem.W.sortingHeap_old (Nat.ne_of_lt (Heap.lt_size e)) (Heap.get?_push_of_some _ e)) ra⟩
    refine wpAny_bind (wpAny_holding (wpAny_call_entry PyProof.Rows.slot_list_sort ⟨_, hoL, rfl⟩ PyProof.Rows.entry_list_sort
      (PySem.W.list_sort_vals (s := { s1 with heap := s1.heap.push (seqObj "list" vs.toArray 0) }) (κ := PySem.W.dataKind (PySem.W.sortingHeap (s1.heap.push (seqObj "list" vs.toArray 0)) s1.heap.objs.size vs) (ws.map toD)) hoL
        (PySem.W.SortsAt.data (s := { s1 with heap := PySem.W.sortingHeap (s1.heap.push (seqObj "list" vs.toArray 0)) s1.heap.objs.size vs }) (PySem.W.each_map (R := fun v d => ∃ as, Reads (PySem.W.sortingHeap (s1.heap.push (seqObj "list" vs.toArray 0)) s1.heap.objs.size vs) v d as) toD er') hal hk fun d hd => ?_) lz ⟨_, rfl, ?_⟩) (PyProof.Rows.args_list_sort _)))
    · obtain ⟨b, hb, rfl⟩ := List.mem_map.mp hd
      have := (sh_ok dl _ (List.all_eq_true.mp a1 b hb)).2
      have : dl = 20 := rfl
      show X.A.units + 1 + 1 + _ < _
      omega
    · obtain ⟨zs, rz, vz⟩ := each_back (PySem.W.sortVals_data false e er' hal)
      exact wpAny_pure (fin _ zs (PySem.W.sortVals_length false rfl) rz vz)
theorem ok_sorted (hu : X.A.units + 64 < cLine) (hc : X.calm = true) : CallOkL X (.builtin "sorted") gSort := by
  intro pins s σ H vs us Q ρ ws r ah I rx rh r1 e q
  unfold gSort at e
  split at e
  · obtain ⟨v, rfl, h⟩ := rws1 r1
    split at e
    · rename_i xs hl
      split at e
      · rename_i ok
        cases e
        obtain ⟨a, ys, rfl, h1, h2⟩ := lstOf_at rh h hl
        obtain ⟨its, rv, pl, hz⟩ := I.list h1
        rw [Vals.ref1 rx]
        refine Calls.call_function_entry PyProof.Rows.kind_sorted PyProof.Rows.plain_sorted PyProof.Rows.entry_sorted (PyProof.Rows.args_sorted1 _) ?_
        unfold Builtin.«sorted»
        refine wpAny_bind (m := checkCount "sorted" 1 1 _) (wpAny_pure ?_)
        refine wpAny_bind (collect_list pl.isList ?_ (by rw [← rv.length]; exact hz))
        have I1 : Inv X pins σ H { s with heap := (s.heap.push (seqObj "list" #[] 0)).update s.heap.objs.size (Obj.mapSeq (· ++ its.toArray)) } := I.kept (t' := s.toks) fun b o e => by
          rw [Heap.get?_update_ne _ _ _ _ (Nat.ne_of_lt (Heap.lt_size e))]
          exact Heap.get?_push_of_some _ e
        exact sort_tail hu I1 rv h2 ok q fun v s' h => ⟨_, rfl, h⟩
      · cases e
    · split at e
      · rename_i ks ws' hd
        split at e
        · rename_i ok
          cases e
          obtain ⟨a, rfl, d⟩ := dct_at rh h hd
          obtain ⟨es, ep, vs, hs, ⟨o', g1, g2, g3⟩, l1, l2, r1, r2, ys, r3, r4⟩ := d.rawv I
          rw [Vals.ref1 rx]
          refine Calls.call_function_entry PyProof.Rows.kind_sorted PyProof.Rows.plain_sorted PyProof.Rows.entry_sorted (PyProof.Rows.args_sorted1 _) ?_
          unfold Builtin.«sorted»
          refine wpAny_bind (m := checkCount "sorted" 1 1 _) (wpAny_pure ?_)
          refine wpAny_bind (PySem.W.kdu_collect (A := X.A.in1) (PySem.KdlSrc.rawDict (es := es) (ep := ep) hs) (I.ok.hd hc) ⟨o', g1, g2, g3⟩ (by rw [l1]; exact l2) fun h' tk acc hk hacc => ?_)
          have I1 : Inv X pins σ H { s with heap := h', toks := tk } := I.kept hk
          have ek : acc.toList = es.toList.map (·.key) := by
            apply List.ext_getElem?
            intro j
            rw [List.getElem?_map, Array.getElem?_toList, Array.getElem?_toList]
            by_cases hj : j < acc.size
            · have e1 : acc[j]? = some acc[j] := Array.getElem?_eq_getElem hj
              obtain ⟨hj', e2⟩ := hacc.2 j acc[j] e1
              rw [e1, e2, Array.getElem?_eq_getElem hj']
              rfl
            · have hn := hacc.1
              rw [Array.getElem?_eq_none (by omega), Array.getElem?_eq_none (by omega)]
              rfl
          exact sort_tail hu I1 (by rw [ek]; exact r4) r3 ok q fun v s' h => ⟨_, rfl, h⟩
        · cases e
      · cases e
  · cases e
end
/-! ### min(xs), xs a list of data -/
mutual
theorem toD_inj : ∀ (x y : W) (n m : Nat), sh n x = true → sh m y = true → toD x = toD y → x = y
  | .non, y, n, m, _, h, e => by cases y <;> simp [toD] at e ⊢ <;> (cases m <;> simp [sh] at h)
  | .bl b, y, n, m, _, h, e => by cases y <;> simp [toD] at e ⊢ <;> first | exact e | (cases m <;> simp [sh] at h)
  | .int i, y, n, m, _, h, e => by cases y <;> simp [toD] at e ⊢ <;> first | exact e | (cases m <;> simp [sh] at h)
  | .str z, y, n, m, _, h, e => by cases y <;> simp [toD] at e ⊢ <;> first | exact e | (cases m <;> simp [sh] at h)
  | .tup xs, y, 0, m, h, _, e => by simp [sh] at h
  | .tup xs, y, n + 1, m, h1, h, e => by
    cases y with
    | tup ys =>
      cases m with
      | zero => simp [sh] at h
      | succ m =>
        rw [toD, toD] at e
        injection e with e
        rw [toDs_inj xs ys n m h1 h e]
    | _ => simp [toD] at e <;> (cases m <;> simp [sh] at h)
  | .lst xs, y, 0, m, h, _, e => by simp [sh] at h
  | .lst xs, y, n + 1, m, h1, h, e => by
    cases y with
    | lst ys =>
      cases m with
      | zero => simp [sh] at h
      | succ m =>
        rw [toD, toD] at e
        injection e with e
        rw [toDs_inj xs ys n m h1 h e]
    | _ => simp [toD] at e <;> (cases m <;> simp [sh] at h)
  | .dct _ _, y, n, m, h, _, e => by cases n <;> simp [sh] at h
  | .ref _, y, n, m, h, _, e => by cases n <;> simp [sh] at h
  | .glo _, y, n, m, h, _, e => by cases n <;> simp [sh] at h
  | .scr _, y, n, m, h, _, e => by cases n <;> simp [sh] at h
  | .erx _, y, n, m, h, _, e => by cases n <;> simp [sh] at h
  | .err _ _, y, n, m, h, _, e => by cases n <;> simp [sh] at h
  | .any, y, n, m, h, _, e => by cases n <;> simp [sh] at h
theorem toDs_inj : ∀ (xs ys : List W) (n m : Nat), xs.all (sh n) = true → ys.all (sh m) = true → toDs xs = toDs ys → xs = ys
  | [], [], _, _, _, _, _ => rfl
  | [], y :: ys, _, _, _, _, e => by simp [toDs] at e
  | x :: xs, [], _, _, _, _, e => by simp [toDs] at e
  | x :: xs, y :: ys, n, m, h1, h2, e => by
    rw [toDs, toDs] at e
    injection e with e1 e2
    simp only [List.all_cons, Bool.and_eq_true_iff] at h1 h2
    rw [toD_inj x y n m h1.1 h2.1 e1, toDs_inj xs ys n m h1.2 h2.2 e2]
end
def minW (x : W) (xs : List W) : W := xs.foldl (fun a y => if PySem.W.dataLt (toD y) (toD a) = true then y else a) x
def notNon : W → Bool
  | .non => false
  | _ => true
def minOk (xs : List W) : Bool := xs.all (sh dl) && (xs.all (fun x => xs.all fun y => PySem.W.alike (toD x) (toD y)) && xs.all notNon)
def gMinL : List W → AH → Option W
  | [w], h => match lstOf h w with
    | some (x :: xs) => if minOk (x :: xs) = true then some (minW x xs) else none
    | _ => none
  | _, _ => none
theorem minW_toD : ∀ (xs : List W) (x : W), toD (minW x xs) = PySem.W.minD (toD x) (toDs xs)
  | [], x => rfl
  | y :: xs, x => by
    have ih := minW_toD xs (if PySem.W.dataLt (toD y) (toD x) = true then y else x)
    unfold minW PySem.W.minD at *
    rw [toDs, List.foldl_cons, List.foldl_cons, ih]
    congr 1
    split <;> rfl
theorem minW_mem : ∀ (xs : List W) (x : W), minW x xs ∈ x :: xs
  | [], x => by simp [minW]
  | y :: xs, x => by
    have ih := minW_mem xs (if PySem.W.dataLt (toD y) (toD x) = true then y else x)
    unfold minW at *
    rw [List.foldl_cons]
    rcases List.mem_cons.mp ih with e | e
    · rw [e]; split <;> simp
    · simp [e]
theorem toDs_map' : ∀ xs : List W, toDs xs = xs.map toD
  | [] => by simp [toDs]
  | x :: xs => by rw [toDs, toDs_map' xs]; rfl
theorem ok_minL {X : Cx} (hu : X.A.units + 64 < cLine) (hc : X.calm = true) : CallOk X (.builtin "min") gMinL := by
  intro pins s σ H vs us Q ρ ws r ah I rx rh r1 e q
  unfold gMinL at e
  split at e
  · obtain ⟨v, rfl, h⟩ := rws1 r1
    split at e
    · rename_i x xs hl
      split at e
      · rename_i ok
        cases e
        unfold minOk at ok
        rw [Bool.and_eq_true_iff, Bool.and_eq_true_iff] at ok
        obtain ⟨a1, a2, a3⟩ := ok
        obtain ⟨a, ys, rfl, h1, h2⟩ := lstOf_at rh h hl
        obtain ⟨its, rv, pl, hz⟩ := I.list h1
        rw [Vals.ref1 rx]
        have e : PySem.W.EachIs (fun v w => ∃ as, Reads s.heap v (toD w) as) its (x :: xs) := each_all (each_of (R := fun v w => ∃ y, RW (mdOf X) ρ H w y ∧ RelV y v) (fun w y v r rv => ⟨y, r, rv⟩) h2 rv) fun v w hw ⟨y, r, rl⟩ => Dp.reads I _ y v (sh_dp dl _ _ (List.all_eq_true.mp a1 w hw) r) rl
        obtain ⟨as, ra⟩ := PySem.W.each_readsAll toD e
        have ra : ReadsAll s.heap its.toArray.toList (toD x :: toDs xs) as := by rw [toDs_map' xs]; simpa using ra
        have al : PySem.W.AlikeAll (toD x :: toDs xs) := by
          have em : toD x :: toDs xs = (x :: xs).map toD := by rw [toDs_map' xs]; rfl
          rw [em]
          constructor
          · intro d hd d' hd'
            obtain ⟨y, hy, rfl⟩ := List.mem_map.mp hd
            obtain ⟨z, hz, rfl⟩ := List.mem_map.mp hd'
            exact List.all_eq_true.mp (List.all_eq_true.mp a2 y hy) z hz
          · intro d hd
            obtain ⟨y, hy, rfl⟩ := List.mem_map.mp hd
            have n := List.all_eq_true.mp a3 y hy
            have s := List.all_eq_true.mp a1 y hy
            cases y <;> simp [notNon, dl, sh] at n s <;> simp [toD]
        have dp : PyData.depthAll (toD x :: toDs xs) ≤ dl := by
          have := (sh_list (sh_ok dl) (x :: xs) a1).2
          rwa [toDs] at this
        refine PySem.W.min_list_data (I.ok.hd hc) pl.isList ra al (by have : dl = 20 := rfl; omega) fun i v h' tk bs hv hr hk => ?_
        have hv : its[i]? = some v := by simpa using hv
        have hi : i < (x :: xs).length := by
          rw [← h2.length, rv.length]
          exact (List.getElem?_eq_some_iff.mp hv).1
        obtain ⟨y, hy, rw'⟩ := h2.get (List.getElem?_eq_getElem hi)
        obtain ⟨u, hu', ry⟩ := rv.get hy
        rw [hv] at hu'
        cases hu'
        have sw := List.all_eq_true.mp a1 _ (List.getElem_mem hi)
        obtain ⟨bs', rb⟩ := Dp.reads I _ y v (sh_dp dl _ _ sw rw') ry
        have un := (Reads.unique (PyProof.Rows.Reads.keeps hk rb) _ _ hr).1
        rw [← minW_toD] at un
        have same := toD_inj _ _ dl dl sw (List.all_eq_true.mp a1 _ (minW_mem xs x)) un
        rw [same] at rw'
        exact ⟨y, H, I.kept hk, ry, q _ _ (Fr.refl _ _) rh rw'⟩
      · cases e
    · cases e
  · cases e
/-! ### list(d.values()) -/
def dLv (m : Bool) (a : DE) : DE := fun env h => (a env h).bind fun w h1 => match dctOf h1 w with
  | some (_, ws) => allocL m ws h1
  | none => .stuck
section
variable {X : Cx} {Wx : WX} {e : Expr} {fe : DE} {p apos cpos pos : Pos} {m : Bool}
theorem r_listVals (hg : Gl X "list") (hm : X.mg "list" = none) (he : PE X e (tE (mdOf X) Wx fe)) (hc : X.calm = true) (hb : plainBase e = true) (hline : (apos.endLine == cpos.line) = true) :
    PE X (.Call (.Name "list" p) [.Call (.Attribute e "values" apos) [] [] cpos] [] pos) (tE (mdOf X) Wx (dLv m fe)) := by
  refine ⟨fun pins s σ H Q I ⟨ρ, env, ah, re, rh, o⟩ => ?_⟩
  refine Call_ (ld_blt I hg hm (show bootBuiltins ("list" : Str) = some (.type "list") by decide +kernel) ?_)
  refine PyProof.Rows.callWith_type1 (PyProof.Rows.args_cons ?_ rfl) rfl rfl
  refine wpAny_Call_method (T := "dict") (id := "dict.values") (plainBase_ok hb _ _ _) rfl hline F.plainAttrs_dict F.slot_dict_values F.type_dict_values (thn (he.run pins s σ H _ I (tE_then re rh o)) fun v s1 ⟨x, H1, I1, r1, ρ1, ah1, w, f1, rh1, rw1, o1⟩ => ?_)
  split at o1
  · rename_i ks ws hq
    obtain ⟨a, rfl, d⟩ := dct_at rh1 rw1 hq
    obtain ⟨es, ep, vs, hs, raw, l1, l2, k1, k2, ys, k3, k4⟩ := d.rawv I1
    obtain rfl : v = Value.ref a := r1
    have hnd : ∃ o, s1.heap.get? a = some o ∧ o.dict = none := by
      obtain ⟨o, g1, g2, _⟩ := raw
      exact ⟨o, g1, g2.2.1⟩
    refine ⟨raw.typeIs, fun b e => by cases e; exact hnd, ?_⟩
    have I3 : Inv X pins σ H1 { s1 with heap := s1.heap.push { cls := .type "dict_values", data := .fields #[.ref a] } } := I1.kept (t' := s1.toks) fun b ob q => Heap.get?_push_of_some _ q
    have raw3 : (s1.heap.push { cls := .type "dict_values", data := .fields #[.ref a] }).DictRaw a es ep := raw.at fun o q => Heap.get?_push_of_some _ q
    have view : ({ s1 with heap := s1.heap.push { cls := .type "dict_values", data := .fields #[.ref a] } } : Shared).heap.IsValuesView s1.heap.objs.size a := ⟨_, Heap.get?_push_size _ rfl, rfl, rfl⟩
    show wpAny _ _ (callWith cpos (.builtin "dict.values") [.ref a] [] []) _ X.xe s1
    refine method_meetsIn F.slot_dict_values F.entry_dict_values rfl (PySem.evalArgs_none ⟨rfl, raw.typeIs, F.args_dict_values_1 _, _, meets_dict_values_raw a hs, ⟨es, ep, raw⟩, ?_⟩)
    refine PyProof.Rows.args_nil ?_
    refine PySem.W.kdl_call (PySem.KdlSrc.rawValues (es := es) (ep := ep)) (I1.ok.hd hc) ⟨view, raw3⟩ (by rw [l1]; exact l2) fun h' tk acc' c' hk hS hacc => ?_
    have ek : acc'.toList = es.toList.map (·.val) := by
      apply List.ext_getElem?
      intro j
      rw [List.getElem?_map, Array.getElem?_toList, Array.getElem?_toList]
      by_cases hj : j < acc'.size
      · have e1 : acc'[j]? = some acc'[j] := Array.getElem?_eq_getElem hj
        obtain ⟨hj', e2⟩ := hacc.2 j acc'[j] e1
        rw [e1, e2, Array.getElem?_eq_getElem hj']
        rfl
      · have hn := hacc.1
        rw [Array.getElem?_eq_none (by omega), Array.getElem?_eq_none (by omega)]
        rfl
    have lv : vs.length ≤ sizeLine := by
      rw [k2.length, List.length_map, Array.length_toList, l1]
      exact l2
    have hp := I3.hok.fresh (Nat.le_refl _)
    exact ⟨.ref _, _, I3.laid (t' := tk) (fun b u e => hk b u e) (Nat.le_refl _) (show ObjOk X.prog X.w _ _ _ (.lst vs) from ⟨lv, acc'.toList, c', by rw [ek]; exact k2, by rw [Array.toArray_toList]; exact hS⟩), rfl, alloc_out rh1 k1 o1 _ hp⟩
  · exact o1.elim
end
end Dn
end
section
set_option Elab.async false
set_option linter.all false
set_option maxRecDepth 100000
set_option maxHeartbeats 4000000
namespace Dn
open PySem PySem.Spec PyProof.Rows L2
/-! ### sorted(set(xs)), xs a list of whole numbers -/
section
variable {pr : Program} {wo : World} {Ar : Around} {Rs : Result → Shared → Prop} {It : Addr} {fa wa : List Addr} {Gn : Array GenState → Array GenState → Prop} {m : Nat} {Pv : Nat → Value → Prop} {Sy : Nat → Shared → Prop}
abbrev seenB (vf : Nat → Int) (i : Nat) : Int → Bool := fun c => (firstMet vf i).any (· == c)
theorem sr_loop (Wk : WalksS pr wo Ar.in1 It fa wa Gn m Pv Sy) (st : Addr) (apart : st ∉ fa) (vf : Nat → Int) (isInt : ∀ i v, Pv i v → ∃ tk, v = .int (vf i) tk) (room : m + 1 < scanBound) :
    ∀ (left i : Nat) (sh : Shared), m - i = left → i ≤ m → Sy i sh → SetR wo sh.heap st (seenB vf i) (firstMet vf i).length →
      (∀ sh', Moved (st :: wa) Gn sh sh' → SetR wo sh'.heap st (seenB vf m) (firstMet vf m).length → Rs (.ok (.ret .none)) sh') →
      codeAny (model pr wo) Ar (.builtin "set.update.loop" ⟨[.ref st, .ref It], []⟩) Rs sh := by
  have notW : st ∉ wa := fun z => apart (Wk.sub _ z)
  have wide : ∀ b ∈ wa, b ∈ st :: wa := fun b z => List.mem_cons_of_mem _ z
  intro left
  induction left with
  | zero =>
    intro i sh e1 e2 here table fin
    obtain rfl : i = m := by omega
    refine codeAny_builtin PyProof.Rows.F.entry_set_update_loop ?_
    rw [Around.under_plainId PyProof.Rows.F.plain_set_update_loop _]
    show wpAny _ Ar.in1 (pyNext (.ref It) >>= _) _ _ sh
    refine wpAny_bind (Wk.done sh _ _ here fun sh' mv => ?_)
    show wpAny _ Ar.in1 (ret Value.none) _ _ sh'
    exact wpAny_pure (fin sh' (mv.mono wide) (table.at fun o e => mv.heap st o notW e))
  | succ left ih =>
    intro i sh e1 e2 here table fin
    have lt : i < m := by omega
    refine codeAny_builtin PyProof.Rows.F.entry_set_update_loop ?_
    rw [Around.under_plainId PyProof.Rows.F.plain_set_update_loop _]
    show wpAny _ Ar.in1 (pyNext (.ref It) >>= _) _ _ sh
    refine wpAny_bind (Wk.item i sh _ _ lt here fun x sh' px here' mv => ?_)
    obtain ⟨tk, rfl⟩ := isInt i x px
    have table' : SetR wo sh'.heap st (seenB vf i) (firstMet vf i).length := table.at fun o e => mv.heap st o notW e
    show wpAny _ Ar.in1 (holding [Value.int (vf i) tk] (setAdd st (.int (vf i) tk)) >>= _) _ _ sh'
    refine wpAny_bind (wpAny_holding ?_)
    unfold setAdd
    refine wpAny_holding ?_
    refine wpAny_bind ((intKind pr wo).pyHash (intKind_is pr wo (vf i) tk) ?_)
    have rm : (firstMet vf i).length + 1 < scanBound := by have := firstMet_length_le vf i; omega
    refine setR_add_hashed (P := pr) (s := { sh' with toks := sh'.toks + 1 }) table' rm fun hp same table2 => ?_
    have table3 : SetR wo hp st (seenB vf (i + 1)) (firstMet vf (i + 1)).length := by
      have e : (if seenB vf i (vf i) = true then (firstMet vf i).length else (firstMet vf i).length + 1) = (firstMet vf (i + 1)).length := by
        rw [firstMet_succ, step_length]
      rw [← e]
      exact table2.congr fun c => by show seenB vf (i + 1) c = _; unfold seenB; rw [firstMet_succ, step_any]
    have keepsT : ∀ b : Addr, b ≠ st → hp.get? b = sh'.heap.get? b := fun b z => same.2 b z
    refine wpAny_pure ⟨plainId_quiet PyProof.Rows.F.plain_set_update_loop _, ih (i + 1) _ (by omega) lt (Wk.frame _ sh' _ _ here' (Nat.le_succ _) fun b hb o e => ?_) table3 fun sh2 mv2 table4 => ?_⟩
    · rw [keepsT b fun z => apart (z ▸ hb)]; exact e
    · refine fin sh2 (Moved.trans Wk.gtrans ((mv.mono wide).then_heap (Nat.le_succ _) fun b o hb e => ?_) mv2) table4
      rw [keepsT b fun z => hb (by rw [z]; exact List.mem_cons_self)]; exact e
end
section
variable {pr : Program} {wo : World} {Ar : Around} {Er : Value → Shared → Prop} {sh : Shared}
abbrev ledOf (wo : World) : Bool := !wo.params.followText "set-order"
abbrev freshSet (wo : World) : Obj := { cls := .type "set", dict := none, data := .set #[] 0 (.fresh 0 0 (ledOf wo)) }
theorem sr_new (x : Value) {Q1 : Value → Shared → Prop} (q : Q1 (.ref sh.heap.objs.size) { sh with heap := sh.heap.push (freshSet wo) }) :
    codeAny (model pr wo) Ar (.call (.builtin "set.__new__") ⟨[.type "set", x], []⟩) (wants Q1 Er) sh := by
  refine codeAny_of_tree ?_
  show wpAny _ Ar.in1 (do checkBuiltinCall "set.__new__" ⟨[.type "set", x], []⟩; again (.builtin "set.__new__" ⟨[.type "set", x], []⟩)) _ _ sh
  refine wpAny_bind (wpAny_of_eq (PySem.F.newCall_set_1 x) (wpAny_pure ⟨plainId_quiet PySem.F.plain_set_new _, codeAny_builtin PySem.F.entry_set_new ?_⟩))
  rw [Around.under_plainId PySem.F.plain_set_new _]
  unfold Builtin.«set.__new__» Builtin.Frozenset.newClass
  have selfS := sub_set_self
  obtain ⟨h0, g0, d0, t0, o0⟩ := sh
  dsimp only
  wp_walk
  refine wpAny_askSetting (wpAny_pure ?_)
  dsimp only
  simp only [newObj]
  refine wpAny_bind (wpAny_alloc (wpAny_pure ?_))
  exact wpAny_pure q
set_option maxRecDepth 100000 in
set_option maxHeartbeats 3200000 in
/-- set(xs) with its table -/
theorem sr_of_list {li : Addr} {its : Array Value} {ns : List Int} {Q : Value → Shared → Prop} (calm : Ar.handled = none) (hl : sh.heap.IsList li its) (hi : IntsAre its.toList ns) (room : its.size + 1 < scanBound)
    (q : ∀ (hp : Heap) (tk : Nat), SetR wo hp sh.heap.objs.size (seenB (fun i => ns.getD i 0) its.size) (firstMet (fun i => ns.getD i 0) its.size).length → (∀ b o, b < sh.heap.objs.size → sh.heap.get? b = some o → hp.get? b = some o) → Q (.ref sh.heap.objs.size) { sh with heap := hp, toks := tk }) :
    wpAny (model pr wo) Ar (call (.type "set") [.ref li]) Q Er sh := by
  obtain ⟨cc, tt, mro1⟩ := PySem.F.called_set.mro
  have made1 := PySem.F.called_set.made
  have sub1 := PySem.F.called_set.sub
  refine wpAny_call (codeAny_of_tree ?_)
  show wpAny _ _ (callAny (.type "set") _) _ _ _
  refine wpAny_pure ⟨Code.quiet_builtin _ (by decide +kernel), codeAny_builtin PySem.F.entry_type_call ?_⟩
  rw [Around.under_plain (weight_type_call_type "set" [.ref li] []) rfl]
  have nt1 := PySem.F.called_set.notType
  have cr1 := PySem.F.called_set.canCreate
  have tc1 := PySem.F.typeCall_set_1 (.ref li)
  repeat (any_goals (first | assumption | wp_step))
  refine codeAny_mono (sr_new (.ref li) (Er := Er) (Q1 := fun ob sh1 => ob = .ref sh.heap.objs.size ∧ sh1 = { sh with heap := sh.heap.push (freshSet wo) }) ⟨rfl, rfl⟩) fun rr sh1 hr => ?_
  cases rr with
  | error e => exact hr
  | ok fl =>
    cases fl with
    | ret ob =>
      obtain ⟨rfl, rfl⟩ := hr
      have there : (sh.heap.push (freshSet wo)).get? sh.heap.objs.size = some (freshSet wo) := Heap.get?_push_size _ rfl
      have isSet : Shared.TypeIs { sh with heap := sh.heap.push (freshSet wo) } (.ref sh.heap.objs.size) "set" := ⟨_, there, rfl⟩
      have li1 := PySem.F.called_set.init.lookup
      have bi1 := PySem.F.called_set.init.bind (.ref sh.heap.objs.size)
      repeat (any_goals (first | assumption | wp_step))
      refine codeAny_mono (codeAny_call_builtin (R := wants (fun rv sh2 => rv = .none ∧ ∃ hp tk, sh2 = { sh with heap := hp, toks := tk } ∧
          SetR wo hp sh.heap.objs.size (seenB (fun i => ns.getD i 0) its.size) (firstMet (fun i => ns.getD i 0) its.size).length ∧
          (∀ b o, b < sh.heap.objs.size → sh.heap.get? b = some o → hp.get? b = some o)) Er) PySem.F.called_set.init.plain PySem.F.entry_set_init (check_set_init_1 isSet ?_)) fun r2 sh2 hr2 => ?_
      · obtain ⟨lo, glo, lc, ln, ld⟩ := hl
        obtain ⟨lcls, ldict, ldata, lslots⟩ := lo
        simp only at lc ld
        subst lc; subst ld
        have glo2 : (sh.heap.push (freshSet wo)).get? li = some { cls := .type "list", dict := ldict, data := .seq its ln, slots := lslots } := Heap.get?_push_of_some _ glo
        have sub2 := PySem.F.sub_list_set
        have sub3 := PySem.F.sub_list_frozenset
        have notD : (Value.type "list" == Value.type "dict") = false := by decide
        have isL : (sh.heap.push (freshSet wo)).IsList li its := ⟨_, glo2, rfl, ln, rfl⟩
        unfold Builtin.«set.__init__» noKeywords Builtin.Frozenset.updateFrom
        generalize hP : pyIter = IT
        wp_walk
        subst hP
        refine wpAny_pyIter_list isL ?_
        refine wpAny_bind (wpAny_runValue ?_)
        have liLt : li < sh.heap.objs.size := Heap.lt_size glo
        have calm3 : Ar.in1.in1.in1.handled = none := by simp [calm]
        have liNe : li ≠ (sh.heap.push (freshSet wo)).objs.size := by
          rw [Heap.size_push]; exact Nat.ne_of_lt (Nat.lt_succ_of_lt liLt)
        have apart : sh.heap.objs.size ∉ [(sh.heap.push (freshSet wo)).objs.size, li] := by
          rw [Heap.size_push]
          intro z
          rcases List.mem_cons.mp z with z | z
          · exact absurd z (Nat.ne_of_lt (Nat.lt_succ_self _))
          · exact absurd (List.mem_singleton.mp z) (Nat.ne_of_gt liLt)
        refine sr_loop ((Walks.list calm3 _ li liNe its).toS) sh.heap.objs.size apart (fun i => ns.getD i 0) (fun i v hv => IntsAre.int_at hi i v (by rw [Array.getElem?_toList]; exact hv)) room (its.size - 0) 0 _ (by omega) (Nat.zero_le _) ⟨⟨_, Heap.get?_push_size _ rfl, rfl, rfl⟩, (isL.push _)⟩ ?tab ?fin
        case tab => exact (setR_fresh (h := sh.heap) wo).at fun o e => Heap.get?_push_of_some _ e
        case fin =>
          intro sh3 mv table
          obtain ⟨h3, g3, d3, t3, o3⟩ := sh3
          obtain rfl : g3 = sh.gens := mv.gens
          obtain rfl : d3 = sh.drawn := mv.drawn
          obtain rfl : o3 = sh.os := mv.os
          show wpAny _ _ _ _ _ _
          refine wpAny_pure ?_
          show wpAny _ _ (ret Value.none) _ _ _
          refine wpAny_pure ⟨rfl, h3, t3, rfl, table, fun b o hb e => ?_⟩
          refine mv.heap b o (fun z => ?_) (Heap.get?_push_of_some _ (Heap.get?_push_of_some _ e))
          rcases List.mem_cons.mp z with z | z
          · exact absurd z (Nat.ne_of_lt hb)
          · have z := List.mem_singleton.mp z
            rw [Heap.size_push] at z
            exact absurd z (Nat.ne_of_lt (Nat.lt_succ_of_lt hb))
      · cases r2 with
        | error e => exact hr2
        | ok fl2 =>
          cases fl2 with
          | ret rv =>
            obtain ⟨rfl, hp, tk, rfl, table, keep⟩ := hr2
            repeat (any_goals (first | assumption | wp_step))
            exact q _ _ table keep
          | _ => exact hr2.elim
    | _ => exact hr.elim
end
/-- whole numbers, each once, ascending -/
def srtI (ns : List Int) : List Int := (ddI ns).mergeSort (fun a b => decide (a ≤ b))
theorem srtI_perm (ns : List Int) : (srtI ns).Perm (ddI ns) := List.mergeSort_perm _ _
theorem srtI_sorted (ns : List Int) : (srtI ns).Pairwise (fun a b => a ≤ b) := by
  have := List.pairwise_mergeSort (le := fun a b : Int => decide (a ≤ b)) (fun a b c h1 h2 => by simp at h1 h2 ⊢; omega) (fun a b => by simp; omega) (ddI ns)
  exact this.imp fun h => by simpa using h
theorem up_uniq : ∀ {l l' : List Int}, l.Pairwise (· < ·) → l'.Pairwise (· < ·) → (∀ k, k ∈ l ↔ k ∈ l') → l = l'
  | [], [], _, _, _ => rfl
  | [], y :: l', _, _, h => by have := (h y).mpr (by simp); cases this
  | x :: l, [], _, _, h => by have := (h x).mp (by simp); cases this
  | x :: l, y :: l', h1, h2, h => by
    obtain ⟨a1, a2⟩ := List.pairwise_cons.mp h1
    obtain ⟨b1, b2⟩ := List.pairwise_cons.mp h2
    have e : x = y := by
      rcases List.mem_cons.mp ((h x).mp (by simp)) with e | e
      · exact e
      · rcases List.mem_cons.mp ((h y).mpr (by simp)) with f | f
        · exact f.symm
        · have := b1 x e
          have := a1 y f
          omega
    subst e
    rw [up_uniq a2 b2 fun k => ?_]
    constructor
    · intro hk
      rcases List.mem_cons.mp ((h k).mp (by simp [hk])) with e | e
      · have := a1 k hk; omega
      · exact e
    · intro hk
      rcases List.mem_cons.mp ((h k).mpr (by simp [hk])) with e | e
      · have := b1 k hk; omega
      · exact e
theorem srtI_up (ns : List Int) (nd : (ddI ns).Nodup) : (srtI ns).Pairwise (· < ·) := by
  have n2 : (srtI ns).Nodup := (srtI_perm ns).nodup_iff.mpr nd
  have s := srtI_sorted ns
  rw [List.nodup_iff_pairwise_ne] at n2
  exact (List.Pairwise.and s n2).imp fun h => by have := h.1; have := h.2; omega
theorem ddI_nodup (ns : List Int) : (ddI ns).Nodup := by
  unfold ddI
  generalize ns.length = n
  induction n with
  | zero => exact List.nodup_nil
  | succ n ih =>
    rw [firstMet_succ]
    unfold step_dedup
    split
    · exact ih
    · rename_i hn
      rw [List.nodup_append]
      refine ⟨ih, by simp, fun x hx y hy e => hn ?_⟩
      rw [List.mem_singleton.mp hy] at e
      rw [List.any_eq_true]
      exact ⟨x, hx, by simp [e]⟩
def gSortSet (w : W) (h : AH) : Option (List W) := match lstOf h w with
  | some xs => match intsOf xs with
    | some ns => if ns.length ≤ 4000 ∧ (ddI ns).length < 64 then some ((srtI ns).map W.int) else none
    | none => none
  | none => none
/-- an operator on one value that makes a list -/
def dUnL (m : Bool) (g : W → AH → Option (List W)) (a : DE) : DE := fun env h => (a env h).bind fun x h1 => match g x h1 with
  | some r => allocL m r h1
  | none => .stuck
section
variable {X : Cx} {Wx : WX} {a : Expr} {fa : DE} {p p2 q pos : Pos}
theorem r_sortSet {m : Bool} (hg : Gl X "sorted") (hm : X.mg "sorted" = none) (hg2 : Gl X "set") (hm2 : X.mg "set" = none) (ha : PE X a (tE (mdOf X) Wx fa)) (hc : X.calm = true) (hs : noStar [a] = true) :
    PE X (.Call (.Name "sorted" p) [.Call (.Name "set" p2) [a] [] q] [] pos) (tE (mdOf X) Wx (dUnL m gSortSet fa)) := by
  refine ⟨fun pins s σ H Q I ⟨ρ, env, ah, re, rh, o⟩ => ?_⟩
  have na : starEach [a] X.env = (false, eval a X.env) :: starEach [] X.env := (noStar_cons hs X.env).1
  refine Call_ (ld_blt I hg hm boot_sorted ?_)
  refine PyProof.Rows.callWith_builtin1 (PyProof.Rows.args_cons ?_ rfl) rfl rfl
  refine Call_ (ld_blt I hg2 hm2 boot_set ?_)
  refine PyProof.Rows.callWith_type1 (PyProof.Rows.args_cons (thn (ha.run pins s σ H _ I (tE_then re rh o)) fun v s1 ⟨x, H1, I1, r1, ρ1, ah1, w, f1, rh1, rw1, o1⟩ => PyProof.Rows.args_nil ?_) na) na rfl
  unfold gSortSet at o1
  split at o1
  · rename_i r0 hr0
    split at hr0
    · rename_i xs hi
      split at hr0
      · rename_i ns hn
        split at hr0
        · rename_i hl
          cases hr0
          obtain ⟨l, ys, rfl, hq, rr⟩ := lstOf_at rh1 rw1 hi
          have := ints_vals rr hn
          subst this
          obtain rfl : v = Value.ref l := r1
          obtain ⟨its, r, pl, hz⟩ := I1.list hq
          have hlen : its.toArray.size = ns.length := by rw [List.size_toArray, ← r.length, List.length_map]
          refine sr_of_list (I1.ok.hd hc) pl.isList (by simpa using RZ.intsAre_vals r) (by rw [hlen]; unfold scanBound; omega) fun h' tk hS hk => ?_
          refine PyProof.Rows.args_nil ?_
          rw [hlen] at hS
          have I2 : Inv X pins σ H1 { s1 with heap := h', toks := tk } := I1.kept fun b o e => hk b o (Heap.lt_size e) e
          generalize hs2 : ({ s1 with heap := h', toks := tk } : Shared) = s2 at I2 ⊢
          have hS2 : SetR X.w s2.heap s1.heap.objs.size (seenB (fun i => ns.getD i 0) ns.length) (firstMet (fun i => ns.getD i 0) ns.length).length := by rw [← hs2]; exact hS
          clear hS hk I1 hs2
          refine sorted_set (s := s2) hS2 (I2.ok.hd hc) hl.2 fun s' pp out c zs k g oo hp hgt hz2 up mem len => ?_
          have e1 : zs = srtI ns := up_uniq up (srtI_up ns (ddI_nodup ns)) fun y => by
            rw [mem, (srtI_perm ns).mem_iff]
            show (ddI ns).any (· == y) = true ↔ _
            simp
          subst e1
          have hlen2 : ((srtI ns).map V.int).length ≤ sizeLine := by rw [List.length_map, len, sizeLine_eq]; have := hl.2; unfold ddI at this; omega
          have fresh : H1 pp = none := I2.hok.fresh hp
          have J : Inv X pins σ (upd H1 pp (.lst ((srtI ns).map V.int))) { s2 with heap := s'.heap, gens := s'.gens, drawn := s'.drawn, toks := s'.toks } :=
            I2.call (ch := []) (Un.laid k hp fresh) (I2.hok.laid k hp ⟨hlen2, out.toList, c, vals_of_ints hz2, hgt⟩) (by rw [g]; exact I2.bare) (fun _ z => nomatch z)
          have e2 : s' = { s2 with heap := s'.heap, gens := s'.gens, drawn := s'.drawn, toks := s'.toks } := by
            cases s'
            cases s2
            cases oo
            rfl
          rw [e2]
          have wss : RWs (mdOf X) ρ1 H1 ((srtI ns).map W.int) ((srtI ns).map V.int) := by
            generalize srtI ns = zz
            induction zz with
            | nil => exact .nil
            | cons z zz ih => exact .cons (by rw [RW]) ih
          exact ⟨.ref pp, _, J, rfl, alloc_out rh1 wss o1 pp fresh⟩
        · cases hr0
      · cases hr0
    · cases hr0
  · exact o1.elim
end
end Dn
end
section
set_option Elab.async false
set_option linter.all false
set_option maxRecDepth 100000
set_option maxHeartbeats 4000000
namespace Dn
open PySem PySem.Spec PyProof.Rows L2
/-! ### sep.join(xs), text.split(sep) -/
def strsOf : List W → Option (List Str)
  | [] => some []
  | .str x :: r => (strsOf r).map (x :: ·)
  | _ => none
theorem strs_vals {M : Md} {ρ : Rho} {H : Hp} : ∀ {ws : List W} {vs : List V} {xs : List Str}, RWs M ρ H ws vs → strsOf ws = some xs → vs = xs.map V.str
  | [], vs, xs, r, e => by rw [RWs] at r; subst r; cases e; rfl
  | w :: ws, vs, xs, r, e => by
    rw [RWs] at r
    obtain ⟨v, t, rfl, h1, h2⟩ := r
    cases w with
    | str b =>
      rw [strsOf] at e
      obtain ⟨bs', e', rfl⟩ := Option.map_eq_some_iff.mp e
      rw [RW] at h1
      rw [h1, strs_vals h2 e']
      rfl
    | _ => simp [strsOf] at e
theorem strs_rws {M : Md} {ρ : Rho} {H : Hp} : ∀ (xs : List Str), RWs M ρ H (xs.map W.str) (xs.map V.str)
  | [] => .nil
  | x :: xs => .cons (by rw [RW]) (strs_rws xs)
def mJoin (w : W) (ws : List W) (h : AH) : Option (W × AH) := match w, ws with
  | .str a, [y] => match lstOf h y with
    | some zs => match strsOf zs with
      | some xs => if (xs.map (·.length)).sum + xs.length * a.length ≤ 16777216 then some (.str (Txt.join a xs), h) else none
      | none => none
    | none => none
  | _, _ => none
def mSplit (w : W) (ws : List W) (h : AH) : Option (W × AH) := match w, ws with
  | .str a, [.str b] => if (b.length == 0) = false ∧ a.length + 2 ≤ line then some (.lst ((Txt.split a b).map W.str), h) else none
  | _, _ => none
section
variable {X : Cx}
theorem ok_join : MtOk X "str.join" mJoin := by
  intro pins s σ H x vs v us Q ρ w ws r ah ah' I rx rxs rh r1 r2 e q
  unfold mJoin at e
  split at e
  · split at e
    · rename_i zs hz
      split at e
      · rename_i xs hx
        split at e
        · rename_i hl
          cases e
          rw [RW] at r1; subst r1
          obtain ⟨z, rfl, rz⟩ := rws1 r2
          obtain ⟨p, ys, rfl, h1, h2⟩ := lstOf_at rh rz hz
          have := strs_vals h2 hx
          subst this
          exact mt_join pins s σ H _ _ v us Q I rx rxs ⟨_, p, xs, rfl, rfl, .inl h1, hl, q _ _ (Fr.refl _ _) rh (by rw [RW])⟩
        · cases e
      · cases e
    · cases e
  · cases e
theorem ok_split : MtOk X "str.split" mSplit := by
  intro pins s σ H x vs v us Q ρ w ws r ah ah' I rx rxs rh r1 r2 e q
  unfold mSplit at e
  split at e
  · split at e
    · rename_i hl
      cases e
      rw [RW] at r1; subst r1
      obtain ⟨z, rfl, rz⟩ := rws1 r2
      rw [RW] at rz; subst rz
      refine mt_split pins s σ H _ _ v us Q I rx rxs ⟨_, _, rfl, rfl, hl.1, by rw [← line_eq]; exact hl.2, fun p hp => ?_⟩
      exact q _ _ (Fr.upd hp) (rh.upd hp) (rw_newLst rh hp (strs_rws _))
    · cases e
  · cases e
end
/-! ### displays of dicts whose keys are written whole numbers or texts -/
def dVals : List DE → Env → AH → Res (List W)
  | [], _, h => .ok [] h
  | f :: fs, env, h => (f env h).bind fun x h1 => (dVals fs env h1).bind fun xs h2 => .ok (x :: xs) h2
def dDispN (ps : List (W × DE)) : DE := fun env h => (dVals (ps.map (·.2)) env h).bind fun vs h1 => .ok (.ref h1.length) (h1 ++ [.dct (ps.map (·.1)) vs])
/-- keys that are written -/
def keyC : Expr → Option W
  | .Constant (.int i) _ _ => some (.int i)
  | .Constant (.str x) _ _ => some (.str x)
  | _ => none
theorem putK_new {k : Key} {v : V} {kvs : List (Key × V)} (h : k ∉ kvs.map (·.1)) : putK kvs k v = kvs ++ [(k, v)] := by
  unfold putK
  rw [if_neg]
  intro z
  obtain ⟨x, hx, e⟩ := List.any_eq_true.mp z
  exact h (List.mem_map.mpr ⟨x, hx, by simpa using e⟩)
theorem mergeK_new : ∀ (more kvs : List (Key × V)), ((kvs ++ more).map (·.1)).Nodup → mergeK kvs more = kvs ++ more
  | [], kvs, _ => by simp [mergeK]
  | (k, v) :: r, kvs, h => by
    have nk : k ∉ kvs.map (·.1) := by
      rw [List.map_append, List.nodup_append] at h
      exact fun z => h.2.2 k z k (by simp) rfl
    show mergeK (putK kvs k v) r = _
    rw [putK_new nk, mergeK_new r (kvs ++ [(k, v)]) (by simpa using h)]
    simp
def keysOf : List W → Option (List Key)
  | [] => some []
  | w :: ws => match keyW w, keysOf ws with
    | some k, some ks => some (k :: ks)
    | _, _ => none
theorem keyC_rw {e : Expr} {w : W} (h : keyC e = some w) : ∃ k : Key, keyW w = some k ∧ ∀ M ρ H, RW M ρ H w (kV k) := by
  unfold keyC at h
  split at h
  · cases h
    exact ⟨.inl _, rfl, fun M ρ H => by rw [RW]; rfl⟩
  · cases h
    exact ⟨.inr _, rfl, fun M ρ H => by rw [RW]; rfl⟩
  · cases h
section
variable {X : Cx} {Wx : WX}
theorem r_keyC {e : Expr} {w : W} (h : keyC e = some w) : PE X e (tE (mdOf X) Wx (dC w)) := by
  unfold keyC at h
  split at h
  · cases h; exact r_int
  · cases h; exact r_str
  · cases h
/-- the values of a display, read -/
theorem vals_read {ρb : Rho} {Hb : Hp} {Q : VK} {σ : L2.St} {env : Env} : ∀ (ps : List (W × DE)) (ks : List Key) (ρ : Rho) (H : Hp) (ah : AH) (cont : List W → AH → Res W) (Z : List (V × V) → Hp → Prop), keysOf (ps.map (·.1)) = some ks → (∀ p ∈ ps, ∃ k, keyW p.1 = some k ∧ ∀ M ρ H, RW M ρ H p.1 (kV k)) → REnv (mdOf X) ρ H env σ → RelH (mdOf X) ρ H ah → Fr ρb Hb ρ H →
    OutG (mdOf X) (RW (mdOf X)) ρb Hb ((dVals (ps.map (·.2)) env ah).bind cont) Q (WE Wx σ) →
    (∀ prs H2, (∃ (vs : List V) (ρ2 : Rho) (ah2 : AH) (ws : List W), prs = (ks.zip vs).map (fun kv => (kV kv.1, kv.2)) ∧ vs.length = ks.length ∧ Fr ρ H ρ2 H2 ∧ RelH (mdOf X) ρ2 H2 ah2 ∧ RWs (mdOf X) ρ2 H2 ws vs ∧ OutG (mdOf X) (RW (mdOf X)) ρb Hb (cont ws ah2) Q (WE Wx σ)) → Z prs H2) →
    tPairs (ps.map fun p => (tE (mdOf X) Wx (dC p.1), tE (mdOf X) Wx p.2)) σ H Z
  | [], ks, ρ, H, ah, cont, Z, hk, _, re, rh, fb, o, hz => by
    cases hk
    exact hz _ _ ⟨[], ρ, ah, [], rfl, rfl, Fr.refl _ _, rh, .nil, o⟩
  | (w, f) :: ps, ks, ρ, H, ah, cont, Z, hk, hr, re, rh, fb, o, hz => by
    obtain ⟨k, k1, k2⟩ := hr (w, f) (by simp)
    obtain ⟨ks', rfl, hk'⟩ : ∃ ks', ks = k :: ks' ∧ keysOf (ps.map (·.1)) = some ks' := by
      simp only [List.map_cons, keysOf] at hk
      rw [k1] at hk
      cases e : keysOf (ps.map (·.1)) with
      | none => rw [e] at hk; cases hk
      | some ks' => rw [e] at hk; cases hk; exact ⟨ks', rfl, rfl⟩
    refine ⟨ρ, env, ah, re, rh, fun ρ1 x H1 f1 rh1 rx => ?_⟩
    have ex : x = kV k := by
      have := k2 (mdOf X) ρ1 H1
      have rx : RW (mdOf X) ρ1 H1 w x := rx
      cases w with
      | int i => rw [RW] at rx this; rw [rx, this]
      | str y => rw [RW] at rx this; rw [rx, this]
      | _ => simp [keyW] at k1
    subst ex
    have o1 : OutG (mdOf X) (RW (mdOf X)) ρb Hb ((f env ah).bind fun y h1 => (dVals (ps.map (·.2)) env h1).bind fun ys h2 => cont (y :: ys) h2) Q (WE Wx σ) := by
      have e : ∀ r : Res W, ((r.bind fun x h1 => (dVals (ps.map (·.2)) env h1).bind fun xs h2 => Res.ok (x :: xs) h2).bind cont) = r.bind fun y h1 => (dVals (ps.map (·.2)) env h1).bind fun ys h2 => cont (y :: ys) h2 := fun r => by
        cases r with
        | ok y h1 =>
          simp only [Res.bind_ok]
          cases dVals (ps.map (·.2)) env h1 <;> rfl
        | exc c h1 => rfl
        | stuck => rfl
      rw [← e]
      exact o
    refine ⟨ρ1, env, ah, re.mono f1, rh1, ?_⟩
    change OutG (mdOf X) (RW (mdOf X)) ρ1 H1 (f env ah) _ _
    generalize f env ah = r at o1 ⊢
    cases r with
    | exc c a => exact fun ρ' H' f' r' => o1 ρ' H' ((fb.trans f1).trans f') r'
    | stuck => exact o1
    | ok y' ah2 =>
      intro ρ2 y H2 f2 rh2 ry
      refine vals_read ps ks' ρ2 H2 ah2 (fun ys h2 => cont (y' :: ys) h2) _ hk' (fun p hp => hr p (by simp [hp])) ((re.mono f1).mono f2) rh2 ((fb.trans f1).trans f2) o1 fun prs H3 ⟨vs, ρ3, ah3, ws, e1, e2, f3, rh3, rws, o3⟩ => ?_
      exact hz _ _ ⟨y :: vs, ρ3, ah3, y' :: ws, by rw [e1]; rfl, by simp [e2], (f1.trans f2).trans f3, rh3, .cons (RW.mono f3 _ _ ry) rws, o3⟩
/-- each key written, each value known -/
inductive Disp (X : Cx) (Wx : WX) : List (Option Expr) → List Expr → List (W × DE) → Prop where
  | nil : Disp X Wx [] [] []
  | cons {k v : Expr} {ks : List (Option Expr)} {vs : List Expr} {w : W} {f : DE} {ps : List (W × DE)} (hk : keyC k = some w) (hv : PE X v (tE (mdOf X) Wx f)) (t : Disp X Wx ks vs ps) : Disp X Wx (some k :: ks) (v :: vs) ((w, f) :: ps)
theorem Disp.pps {pos : Pos} : ∀ {ks : List (Option Expr)} {vs : List Expr} {ps : List (W × DE)}, Disp X Wx ks vs ps → PPs X pos ks vs (ps.map fun p => (tE (mdOf X) Wx (dC p.1), tE (mdOf X) Wx p.2))
  | _, _, _, .nil => pps_nil
  | _, _, _, .cons hk hv t => pps_cons (r_keyC hk) hv t.pps
theorem Disp.facts : ∀ {ks : List (Option Expr)} {vs : List Expr} {ps : List (W × DE)}, Disp X Wx ks vs ps → ks.all (·.isSome) = true ∧ ks.length = vs.length ∧ ks.length = ps.length ∧ (∀ p ∈ ps, ∃ k, keyW p.1 = some k ∧ ∀ M ρ H, RW M ρ H p.1 (kV k))
  | _, _, _, .nil => ⟨rfl, rfl, rfl, fun p hp => nomatch hp⟩
  | _, _, _, .cons hk hv t => by
    obtain ⟨h1, h2, h3, h4⟩ := t.facts
    refine ⟨by simpa using h1, by simp [h2], by simp [h3], fun p hp => ?_⟩
    rcases List.mem_cons.mp hp with rfl | hp
    · exact keyC_rw hk
    · exact h4 p hp
theorem keysOf_some : ∀ {ps : List (W × DE)}, (∀ p ∈ ps, ∃ k, keyW p.1 = some k ∧ ∀ M ρ H, RW M ρ H p.1 (kV k)) → ∃ ks, keysOf (ps.map (·.1)) = some ks ∧ ks.length = ps.length
  | [], _ => ⟨[], rfl, rfl⟩
  | p :: ps, h => by
    obtain ⟨k, k1, _⟩ := h p (by simp)
    obtain ⟨ks, e, l⟩ := keysOf_some (ps := ps) fun q hq => h q (by simp [hq])
    exact ⟨k :: ks, by simp only [List.map_cons, keysOf, k1, e], by simp [l]⟩
theorem keysOf_nodup : ∀ {ws : List W} {ks : List Key}, keysOf ws = some ks → ws.Nodup → ks.Nodup
  | [], _, e, _ => by cases e; exact List.nodup_nil
  | w :: ws, ks, e, h => by
    simp only [keysOf] at e
    cases k1 : keyW w with
    | none => rw [k1] at e; cases e
    | some k =>
      cases e2 : keysOf ws with
      | none => rw [k1, e2] at e; cases e
      | some ks' =>
        rw [k1, e2] at e
        cases e
        obtain ⟨h1, h2⟩ := List.nodup_cons.mp h
        refine List.nodup_cons.mpr ⟨fun z => h1 ?_, keysOf_nodup e2 h2⟩
        have : ∀ {ws : List W} {ks : List Key}, keysOf ws = some ks → k ∈ ks → w ∈ ws := fun {ws} => by
          induction ws with
          | nil => intro ks e hm; cases e; cases hm
          | cons x xs ih =>
            intro ks e hm
            simp only [keysOf] at e
            cases x1 : keyW x with
            | none => rw [x1] at e; cases e
            | some kx =>
              cases x2 : keysOf xs with
              | none => rw [x1, x2] at e; cases e
              | some kxs =>
                rw [x1, x2] at e
                cases e
                rcases List.mem_cons.mp hm with z | z
                · subst z
                  have : w = x := by
                    cases w <;> simp [keyW] at k1 <;> cases x <;> simp [keyW] at x1 <;> subst k1 <;> simp at x1 <;> rw [x1]
                  rw [this]; simp
                · exact List.mem_cons_of_mem _ (ih x2 z)
        exact this e2 z
theorem kvOf_zip : ∀ {ws : List W} {ks : List Key} {vs : List V}, keysOf ws = some ks → vs.length = ks.length → kvOf ws vs = some (ks.zip vs)
  | [], _, [], e, _ => by cases e; rfl
  | [], _, _ :: _, e, h => by cases e; simp at h
  | w :: ws, ks, vs, e, h => by
    simp only [keysOf] at e
    cases k1 : keyW w with
    | none => rw [k1] at e; cases e
    | some k =>
      cases e2 : keysOf ws with
      | none => rw [k1, e2] at e; cases e
      | some ks' =>
        rw [k1, e2] at e
        cases e
        cases vs with
        | nil => simp at h
        | cons v vs =>
          rw [kvOf, k1, kvOf_zip e2 (by simpa using h)]
          rfl
theorem r_dispN {keys : List (Option Expr)} {values : List Expr} {ps : List (W × DE)} {pos : Pos} (d : Disp X Wx keys values ps) (h0 : ps ≠ []) (h15 : ps.length ≤ 15) (nd : (ps.map (·.1)).Nodup) : PE X (.Dict keys values pos) (tE (mdOf X) Wx (dDispN ps)) := by
  obtain ⟨f1, f2, f3, f4⟩ := d.facts
  have k0 : keys ≠ [] := fun z => by rw [z] at f3; exact h0 (List.eq_nil_of_length_eq_zero f3.symm)
  refine PE_imp (pe_disp d.pps f1 f2 k0 (by omega)) fun σ H Q ⟨ρ, env, ah, re, rh, o⟩ => ?_
  intro D hD
  obtain ⟨ks, hk, kl⟩ := keysOf_some f4
  have hDp : D ∉ ρ.prot := fun z => rh.fresh hD (Rho.mem_all.mpr (.inr z))
  have f0 : Fr ρ H (ρ.hold D) (upd H D (.dK [])) := Fr.holdNew hD
  refine vals_read ps ks (ρ.hold D) (upd H D (.dK [])) ah (fun vs h1 => Res.ok (W.ref h1.length) (h1 ++ [AO.dct (ps.map (·.1)) vs])) _ hk f4 (re.mono f0) (rh.holdNew hD) f0 o ?_
  rintro prs H2 ⟨vs, ρ2, ah2, ws, e1, e2, fr, rh2, rws, o2⟩
  have hDh : D ∈ (ρ.hold D).prot := List.mem_cons_self
  have ed : H2 D = some (.dK []) := fr.just D _ hDh upd_same
  have p2 : D ∈ ρ2.prot := fr.hold D hDh
  have zn : (ks.zip vs).map (·.1) = ks := by
    rw [List.map_fst_zip]; omega
  have ndk : ((ks.zip vs).map (·.1)).Nodup := by rw [zn]; exact keysOf_nodup hk nd
  refine ⟨ed, ks.zip vs, e1, by rw [List.length_zip]; omega, ?_⟩
  rw [mergeK_new (ks.zip vs) [] (by simpa using ndk), List.nil_append]
  have nf : NoFz (H2 D) := NoFz.of ed fun _ _ z => nomatch z
  have hld := Fr0.held (H := H2) (o := .dK (ks.zip vs)) p2 nf
  have ro : RO (mdOf X) ρ2 (upd H2 D (.dK (ks.zip vs))) D (.dct (ps.map (·.1)) ws) := ⟨vs, RWs.mono0 hld _ _ rws, .inl ⟨ks.zip vs, kvOf_zip hk e2, upd_same⟩⟩
  have fall := (f0.trans fr).late (o := .dK (ks.zip vs)) hD
  have o3 : ∀ ρ' b' H', Fr ρ H ρ' H' → RelH (mdOf X) ρ' H' (ah2 ++ [.dct (ps.map (·.1)) ws]) → RW (mdOf X) ρ' H' (.ref ah2.length) b' → Q b' H' := o2
  refine o3 ((ρ2.let_ D).push D) (.ref D) _ (fall.adopt hD hDp) ((rh2.held p2 nf).adopt p2 (ro.mono0 (Fr0.adopt p2) rfl)) ?_
  rw [RW]
  refine ⟨D, rfl, ?_⟩
  show (ρ2.cells ++ [D])[ah2.length]? = some D
  rw [← rh2.len]
  simp
end
end Dn
end
section
set_option Elab.async false
set_option linter.all false
set_option maxRecDepth 100000
set_option maxHeartbeats 4000000
namespace Dn
open PySem PySem.Spec PyProof.Rows L2

/-! ### an except suite that raises nothing: the error is an object like others -/
abbrev hotX (X : Cx) (a : Addr) : Cx := { X with A := X.A.mark (some (.ref a)), calm := false, xe := fun _ _ => False }
theorem ok_hotX {X : Cx} (ok : X.Ok) (a : Addr) : (hotX X a).Ok :=
  ⟨ok.mod, ok.kind, ok.glob, ok.blt, ok.above, ok.inj, ok.has, ok.cab, (fun z => absurd (show false = true from z) Bool.false_ne_true), ok.frames, ok.stk, ok.exf, ok.bs, ok.bsz, ok.noex, ok.exfs, ok.funs, ok.frf⟩
section
variable {X : Cx} {pins : List (Addr × Obj)} {σ : L2.St} {H : Hp} {s : Shared}
theorem inv_hotX (I : Inv X pins σ H s) (a : Addr) : Inv (hotX X a) pins σ H s := ⟨ok_hotX I.ok a, I.os, I.bare, I.base, I.loc, I.cell, I.free, I.freeC, I.pin, I.hok, I.len⟩
theorem inv_unhot {a : Addr} (I : Inv (hotX X a) pins σ H s) (ok : X.Ok) : Inv X pins σ H s := ⟨ok, I.os, I.bare, I.base, I.loc, I.cell, I.free, I.freeC, I.pin, I.hok, I.len⟩
/-- an object that is new since the entry is tracked -/
theorem inv_track {a : Addr} {oe : Obj} (I : Inv X pins σ H s) (ha : s.heap.get? a = some oe) (na : H a = none) (n0 : X.s_0.heap.get? a = none) (nL : a ≠ X.env.locals)
    (nC : ∀ x c, X.env.cells.lookup x = some c → c ≠ a) (np : ∀ p ∈ X.pn ++ pins, p.1 ≠ a) : Inv X pins σ (upd H a (.frz oe (.own a))) s := by
  have ne0 : ∀ b o, X.s_0.heap.get? b = some o → b ≠ a := fun b o e z => by rw [z, n0] at e; cases e
  have neH : ∀ b o, H b = some o → b ≠ a := fun b o e z => by rw [z, na] at e; cases e
  refine ⟨I.ok, I.os, I.bare, ⟨I.base.keep, I.base.slot, fun b o e n hx => ?_, I.base.there, fun b xs e => ?_, fun b o u e => ?_, fun b ps e => ?_⟩, I.loc, I.cell, ?_, fun x c e => ?_, fun p hp => ?_, fun b u e => ?_, I.len⟩
  · rw [upd_ne (ne0 b o e)]; exact I.base.free b o e n hx
  · have q := I.base.tups b xs e
    rw [upd_ne (neH b _ q)]; exact q
  · have q := I.base.frzs b o u e
    rw [upd_ne (neH b _ q)]; exact q
  · obtain ⟨m, q⟩ := I.base.tbls b ps e
    exact ⟨m, by rw [upd_ne (neH b _ q)]; exact q⟩
  · rw [upd_ne (Ne.symm nL)]; exact I.free
  · rw [upd_ne (nC x c e)]; exact I.freeC x c e
  · obtain ⟨h1, h2, h3⟩ := I.pin p hp
    exact ⟨h1, by rw [upd_ne (np p hp)]; exact h2, h3⟩
  · by_cases hb : b = a
    · subst hb
      rw [upd_same] at e
      cases e
      exact ⟨ha, oe, ha⟩
    · rw [upd_ne hb] at e
      exact (I.hok b u e).stay (fun c v _ q => q) (fun c q => by rw [upd_ne (neH c _ q)]; exact q) fun c xs q => by rw [upd_ne (neH c _ q)]; exact q
end

/-- what the clause 'except x as n' wishes: slot i is n's; the suite returns -/
def wAsT (K : PySem.W.Frag) (c : Value) (i : Nat) (ts : TS) (Wout : WX) (D : Ends) : WX := fun cls d σ H =>
  ∃ b, PySem.W.exmOne K cls c = some b ∧
    (b = true → d = none ∧ ∀ (a : Addr) (oe : Obj) (fl : Array Value), H a = none → oe.cls = cls → oe.dict = none → oe.data = .fields fl →
      ts { nx := fun _ _ => False, rt := D.rt, bk := fun _ _ => False, ct := fun _ _ => False } (σ.set i (some (.ref a))) (upd H a (.frz oe (.own a)))) ∧
    (b = false → Wout cls d σ H)
section
variable {X : Cx} {x n : Str} {c : Value} {i : Nat} {body suite : List Stmt} {b₀ : Stmt} {np pos pos' : Pos} {tb : WX → TS} {ts : TS} {Wout : WX}
theorem ps_try_asT (hs : X.stack = X.env :: X.outer) (hf : X.env.frame = some X.env.locals) (hex : X.ex = []) (hN : X.N.Nodup) (hi : X.N[i]? = some n) (hln : X.env.kindOf n = some .local) (hc : Names X x c) (tk : Takes X Wout)
    (hb : ∀ (W : WX) (pn : List (Addr × Obj)) (xe : Value → Shared → Prop), Takes (X.tr pn xe) W → PassesOwn (model X.prog X.w) X.A X.env xe → PSs (X.tr pn xe) body (tb W))
    (hsu : ∀ (a : Addr), PSs (hotX X a) (b₀ :: suite) ts) :
    PS X (.Try body [.ExceptHandler (some (.Name x np)) (some n) (b₀ :: suite) pos'] [] [] pos) (fun D σ H => tb (wAsT X.K c i ts Wout D) D σ H) := by
  refine ⟨fun pins s σ H D I h => ?_⟩
  have ok := I.ok
  have hfr : X.A.frames = some (X.env :: X.outer) := by rw [ok.frames, hs]
  have hloc : Loc X.env.scope n := .inl hln
  refine wpAny_Try_except ?_
  refine wpAny_mono ((hb (wAsT X.K c i ts Wout D) (X.pn ++ pins) (fun e s₁ => wpAny (model X.prog X.w) X.A (noteFrame e X.env) (fun _ s₂ => wpAny (model X.prog X.w) X.A (setFlight e none) (fun _ s₃ =>
    wpAny (model X.prog X.w) X.A (handleBy e X.env [.ExceptHandler (some (.Name x np)) (some n) (b₀ :: suite) pos']) (SP X pins D) X.xe s₃) X.xe s₂) X.xe s₁) (fun u s' xx => ?_) PassesOwn.looking).run [] s σ H D (I.toTry _) h) (fun f s1 hsp => ?_) (fun e s1 he => he)
  · obtain ⟨a, B, sI, pins', σ', H', cls, d, rfl, J', nb, up, sky, na, os, ag, b, hb1, hyes, hno⟩ := xx
    have J : Inv X pins σ' H' sI := J'.ofTry ok
    have sky' : Sky B (X.env :: X.outer) a (Zc cls d) X.env.locals s'.heap := by rw [← hs]; exact sky
    show wpAny (model X.prog X.w) X.A (noteFrame (.ref a) X.env) _ _ _
    refine Sky.land Zc.steady hfr hf sky' fun h3 fl3 up3 => ?_
    have J3 : Inv X pins σ' H' { s' with heap := h3 } := J.landed nb fl3.1 (up.trans up3) os ag
    obtain ⟨oe3, vs3, he3, hz3, hd3⟩ := fl3.there
    have notFr : ∀ {h : Heap} {o : Obj} {vs : Array Value}, h.FunFrames B (X.env :: X.outer) → h.get? a = some o → o.data = .fields vs → a ∉ frs (X.env :: X.outer) := fun {h o vs} ff e dd hm => by
      obtain ⟨_, o', e', hnf⟩ := ff.mem hm
      rw [e] at e'; cases e'
      exact hnf _ dd
    have nfr := notFr fl3.2.2.1 he3 hd3
    have nL : a ≠ X.env.locals := fun z => nfr (List.mem_filterMap.mpr ⟨X.env, List.mem_cons_self, by rw [hf, z]⟩)
    have nF : a ∉ X.fs := fun hm => by
      obtain ⟨e, he, q⟩ := List.mem_filterMap.mp hm
      exact nfr (List.mem_filterMap.mpr ⟨e, List.mem_cons_of_mem _ he, q⟩)
    have nI : sI.heap.get? a = none := by
      cases e : sI.heap.get? a with
      | none => rfl
      | some o =>
        have q := nb a o e (by rw [hs]; exact nfr)
        rw [fl3.2.1] at q
        cases q
    have n0 : X.s_0.heap.get? a = none := by
      cases e : X.s_0.heap.get? a with
      | none => rfl
      | some o =>
        obtain ⟨o', q⟩ := J.base.there a o e (by rw [hex]; exact fun z => nomatch z)
        rw [nI] at q
        cases q
    have nC : ∀ y cc, X.env.cells.lookup y = some cc → cc ≠ a := fun y cc e z => by
      obtain ⟨v, o, q, _⟩ := J.cell y cc e
      rw [z, nI] at q
      cases q
    have nP : ∀ p ∈ X.pn ++ pins, p.1 ≠ a := fun p hp z => by
      have q := (J.pin p hp).1
      rw [z, nI] at q
      cases q
    have S3 := inv_hotX J3 a
    refine wpAny_handleBy_cons (codeAny_handlers_test ?_) (by intro q; cases q)
    have LT : PySem.W.Looks (model X.prog X.w) h3 (typeOf (.ref a)) cls := fun A Q E s k q => wpAny_typeOf_ref (k _ _ he3) (by rw [hz3.1]; exact q)
    have LM := PySem.W.exm_one (M := model X.prog X.w) (J3.kIn) LT hb1
    have test : ∀ {Q : Value → Shared → Prop} {E : Value → Shared → Prop}, Q c { s' with heap := h3 } → wpAny (model X.prog X.w) (X.A.mark (some (.ref a))) (eval (.Name x np) X.env) Q E { s' with heap := h3 } := fun {Q E} q => by
      obtain ⟨hg, hdbg, hm | ⟨hm, hv, hnn⟩⟩ := hc
      · exact ld_glob (X := hotX X a) S3 hg hm q hdbg
      · exact ld_blt (X := hotX X a) S3 hg hm hv q hnn hdbg
    refine test (LM.here ?_)
    cases b with
    | true =>
      obtain ⟨hdn, hyes⟩ := hyes rfl
      refine codeAny_handlers_suite_as ?_
      refine HandSPX.lands_againZ fl3 fun h4 fl4 up4 => ?_
      have J4 : Inv X pins σ' H' { s' with heap := h4 } := J.landed nb fl4.1 ((up.trans up3).trans up4) os ag
      obtain ⟨oe4, vs4, he4, hz4, hd4⟩ := fl4.there
      have S4 := inv_hotX (inv_track J4 he4 na n0 nL nC nP) a
      refine store_ok (X := hotX X a) (v := .ref a) S4 hN hi hloc rfl (fun s5 S5 => ?_) (.inr hln)
      refine wpAny_mono ((hsu a).run pins s5 _ _ _ S5 (hyes a oe4 vs4 na hz4.1 (hz4.2.trans hdn) hd4)) (fun f s6 hsp => ?_) (fun _ _ z => False.elim z)
      cases f with
      | next =>
        obtain ⟨σ6, H6, S6, q6⟩ := hsp
        exact q6.elim
      | brk =>
        obtain ⟨σ6, H6, S6, q6⟩ := hsp
        exact q6.elim
      | cont =>
        obtain ⟨σ6, H6, S6, q6⟩ := hsp
        exact q6.elim
      | ret u =>
        obtain ⟨v6, σ6, H6, S6, r6, q6⟩ := hsp
        exact gone_ok (inv_unhot S6 ok) hN hi hln fun s7 J7 => ⟨_, _, _, J7, r6, q6⟩
    | false =>
      show wpAny _ X.A (handleBy (.ref a) X.env []) _ _ _
      refine wpAny_handleBy_nil ?_
      obtain ⟨k1, k2, k3, oe, vs, T, oT, ts', he, hz, hd, h1, hr⟩ := id fl3
      unfold PySem.passOn
      refine wpAny_bind (wpAny_field he hd h1 ?_)
      rw [if_neg (show ¬ ((Value.ref T == Value.none) = true) from by simp)]
      have fin : wpAny (model X.prog X.w) X.A (setFlight (.ref a) X.env.frame) (fun _ s4 => wpAny (model X.prog X.w) X.A (throw (.ref a) : Sem Flow) (SP X pins D) X.xe s4) X.xe { s' with heap := h3 } := by
        rw [hf]
        refine HandSPX.setFlight_upZ fl3 fun h4 hh4 up4 => wpAny_throw (tk _ _ ?_)
        exact ⟨a, B, sI, pins, σ', H', cls, d, rfl, J, nb, (up.trans up3).trans up4, .inr (.inr (by rw [hs]; exact hh4)), na, os, ag, hno rfl⟩
      first
        | exact wpAny_bind (wpAny_pure (wpAny_bind fin))
        | exact wpAny_bind fin
  · cases f with
    | next =>
      obtain ⟨σ', H', J', q⟩ := hsp
      exact wpAny_execs_nil ⟨σ', H', J'.ofTry ok, q⟩
    | brk =>
      obtain ⟨σ', H', J', q⟩ := hsp
      exact ⟨σ', H', J'.ofTry ok, q⟩
    | cont =>
      obtain ⟨σ', H', J', q⟩ := hsp
      exact ⟨σ', H', J'.ofTry ok, q⟩
    | ret u =>
      obtain ⟨v, σ', H', J', r, q⟩ := hsp
      exact ⟨v, σ', H', J'.ofTry ok, r, q⟩
end
/-- nothing is raised -/
abbrev wF : WX := fun _ _ _ _ => False
def sTryAs (sub : Str → Str → Option Bool) (b : DS) (y : Str) (i : Nat) (s : DS) : DS := fun env h => match b env h with
  | .exc c env' h' => match sub c y with
    | some true => match s (env'.set i (some (.erx c))) h' with
      | .ret w h2 => .ret w h2
      | _ => .stuck
    | some false => .exc c env' h'
    | none => .stuck
  | r => r
theorem r_tryAs {X : Cx} {Wx : WX} {sub : Str → Str → Option Bool} {b s : DS} {body suite : List Stmt} {b₀ : Stmt} {x n : Str} {i : Nat} {np pos pos' : Pos} (hst : X.stack = X.env :: X.outer) (hf : X.env.frame = some X.env.locals) (hex : X.ex = []) (hN : X.N.Nodup) (hi : X.N[i]? = some n) (hln : X.env.kindOf n = some .local)
    (hc : Names X x (excV (mdOf X) x)) (tk : Takes X Wx) (hS : SubOk (mdOf X) sub)
    (hb : ∀ (W : WX) (pn : List (Addr × Obj)) (xe : Value → Shared → Prop), Takes (X.tr pn xe) W → PassesOwn (model X.prog X.w) X.A X.env xe → PSs (X.tr pn xe) body (tS (mdOf X) W b))
    (hsu : ∀ a : Addr, PSs (hotX X a) (b₀ :: suite) (tS (mdOf X) wF s)) : PS X (.Try body [.ExceptHandler (some (.Name x np)) (some n) (b₀ :: suite) pos'] [] [] pos) (tS (mdOf X) Wx (sTryAs sub b x i s)) := by
  refine PS_imp (ps_try_asT (tb := fun W => tS (mdOf X) W b) hst hf hex hN hi hln hc tk hb hsu) fun D σ H ⟨ρ, env, ah, re, rh, o⟩ => ⟨ρ, env, ah, re, rh, ?_⟩
  unfold sTryAs at o
  cases e : b env ah with
  | exc c env' h' =>
    rw [e] at o
    intro ρ' σ' H' f re' rh'
    have o := SOut.frame f o
    simp only at o
    split at o
    · rename_i e1
      refine ⟨true, hS c x true e1, (fun _ => ⟨rfl, fun a oe fl na h1 h2 h3 => ?_⟩), (fun z => by cases z)⟩
      have fu : Fr ρ' H' ρ' (upd H' a (.frz oe (.own a))) := Fr.upd na
      refine ⟨ρ', _, h', (re'.mono fu).set (i := i) (w := .erx c) ?_, rh'.upd na, ?_⟩
      · rw [RW]
        exact ⟨a, oe, fl, rfl, rh'.fresh na, upd_same, h1, h2, h3⟩
      · have o := SOut.frame fu o
        generalize s (env'.set i (some (.erx c))) h' = r at o ⊢
        cases r with
        | ret w h2 => exact o
        | _ => exact o.elim
    · rename_i e1
      exact ⟨false, hS c x false e1, (fun z => by cases z), (fun _ => o ρ' σ' H' (Fr.refl _ _) re' rh')⟩
    · exact o.elim
  | _ => rw [e] at o; exact o
end Dn
end
section
set_option Elab.async false
set_option linter.all false
set_option maxRecDepth 100000
set_option maxHeartbeats 4000000
namespace Dn
open PySem PySem.Spec PyProof.Rows L2

/-! ### a def that raises nothing, called while an error is handled -/
abbrev noCX : CXT := fun _ _ _ _ _ _ => False
structure FnN (P : Program) (w : World) (K : PySem.W.Frag) (mg : Str → Option Value) (base : Heap) (j : Nat) (f : Addr) (fd : FuncData) (ps : List Str) (sp : Sp) : Prop where
  len : ∀ vs H Q E, sp vs H Q E → vs.length = ps.length
  run : ∀ (A : Around) (outer : List PySem.Env) (s : Shared) (H : Hp) (args : Args) (us : List Value) (vs : List V) (Q : VK), L2H.RoomH j A → Env0 P w K mg base A outer s H → BindsTo s fd args (ps.zip us) → Vals vs us → sp vs H Q (fun _ _ _ => False) →
    codeAny (model P w) A (.call (.ref f) args) (CR noCX outer P w H s Q (fun _ _ _ => False)) s
def cxN (P : Program) (w : World) (K : PySem.W.Frag) (mg : Str → Option Value) (base : Heap) (N : List Str) (qual : Str) (scope : Scope) (f : Addr) (cd : Value) (A : Around) (outer : List PySem.Env) (s : Shared) (H : Hp) : Cx :=
  { cxOf noCX P w K mg base N qual scope f cd A outer s H (fun _ _ _ => False) with calm := false, xe := fun _ _ => False }
theorem inv_startN {P : Program} {w : World} {K : PySem.W.Frag} {mg : Str → Option Value} {base : Heap} {N ps : List Str} {qual : Str} {scope : Scope} {f : Addr} {cd : Value} {A : Around} {outer : List PySem.Env} {s s1 : Shared} {H : Hp} {us : List Value} {vs : List V}
    (S : FnScope N ps scope) (e0 : Env0 P w K mg base A outer s H) (hl : vs.length = ps.length) (r : Vals vs us)
    (x : InCallC s s.heap.objs.size (bindL (envOfC qual scope s.heap.objs.size f cd).kindOf (ps.zip us) fun _ => none) (cellsFrom (s.heap.objs.size + 1) scope.names []) (bindC (envOfC qual scope s.heap.objs.size f cd).kindOf (ps.zip us) fun _ => none) s1) :
    Inv (cxN P w K mg base N qual scope f cd A outer s H) [] (L2.start N vs) H s1 := by
  have hpl : ps.length ≤ N.length := by have := congrArg List.length S.pre; rw [List.length_take] at this; omega
  obtain ⟨h1, tk, rfl, hk⟩ := x.done
  have noA : ∀ b : Addr, b ∉ (cxN P w K mg base N qual scope f cd A outer s H).ex := fun b z => absurd (show b ∈ ([] : List Addr) from z) (by simp)
  refine ⟨⟨e0.mod, S.kind, rfl, rfl, Nat.le_refl _, fun y z c h1 h2 => ?_, fun y hy => ?_, fun y c _ h => ?_, (fun z => Bool.noConfusion (show false = true from z)), Around.frames_deeper e0.frames, .inr ⟨rfl, rfl⟩, fun b z => absurd z (noA b), e0.bs, e0.bsz, fun b _ _ => noA b, fun b z => absurd z (noA b), e0.funs, e0.frf⟩,
    rfl, e0.bare, Un.kept hk, ⟨_, x.toInCall.ns, fun i y v h1 h2 h3 => ?_⟩, fun y c h => ⟨_, x.cell y c h⟩, e0.hok.fresh (Nat.le_refl _), fun y c h => ?_, fun p hp => absurd (show p ∈ ([] : List (Addr × Obj)) from hp) (by simp), e0.hok.kept hk, ?_⟩
  · exact name_of_addr x.apart (PySem.mem_of_lookup h1) (PySem.mem_of_lookup h2)
  · have hy : scope.names.lookup y = some .cell ∨ scope.names.lookup y = some .free := hy
    rcases hy with hy | hy
    · exact cell_has hy
    · exact absurd rfl (S.nofree _ (PySem.mem_of_lookup hy))
  · exact Nat.le_of_lt (x.above y c (PySem.mem_of_lookup h))
  · have hi : i < vs.length := by
      unfold L2.start at h2
      by_cases hi : i < vs.length
      · exact hi
      · rw [List.getElem?_append_right (by simpa using hi)] at h2
        rw [List.getElem?_replicate] at h2
        split at h2 <;> cases h2
    have ha : vs[i]? = some v := by
      unfold L2.start at h2
      rw [List.getElem?_append_left (by simpa using hi), List.getElem?_map] at h2
      cases e : vs[i]? with
      | none => rw [e] at h2; cases h2
      | some a => rw [e] at h2; cases h2; rfl
    obtain ⟨u, hu, rv⟩ := r.get ha
    have hp : ps[i]? = some y := by
      rw [← S.pre, List.getElem?_take_of_lt (by omega)]; exact h1
    have ndP : ps.Nodup := by rw [← S.pre]; exact S.nd.sublist (List.take_sublist _ _)
    refine ⟨u, rv, ?_⟩
    rcases S.par y (List.mem_of_getElem? hp) with k | k
    · exact .inl ⟨k, bindL_get ndP hp hu k⟩
    · obtain ⟨c, e⟩ := cell_has (n := s.heap.objs.size + 1) k
      refine .inr ⟨.inl k, c, e, ?_⟩
      have q := x.cell y c e
      rw [bindC_get ndP hp hu (by show scope.names.lookup y ≠ _; rw [k]; decide)] at q
      exact q
  · exact e0.hok.fresh (Nat.le_of_lt (x.above y c (PySem.mem_of_lookup h)))
  · unfold L2.start
    show _ = N.length
    rw [List.length_append, List.length_map, List.length_replicate]
    omega
theorem fn_ofN {P : Program} {w : World} {K : PySem.W.Frag} {mg : Str → Option Value} {base : Heap} {f : Addr} {name qual : Str} {params : Arguments} {body : List Stmt} {scope : Scope} {dV kV doc pm cdv ct oc : Value} {an od : Option Addr}
    {osl : Array (Option Value)} {N ps : List Str} {sp : Sp} (lk : K.lookup f = some ⟨oc, od, .func (PySem.W.fnOf name qual params body scope dV kV doc pm an cdv ct), osl⟩) (hcd : PySem.W.codeIn K cdv qual = true) (S : FnScope N ps scope)
    (len : ∀ vs H Q E, sp vs H Q E → vs.length = ps.length)
    (hbody : ∀ (A : Around) (outer : List PySem.Env) (s : Shared) (H : Hp) (vs : List V) (Q : VK), L2H.RoomH 0 (A.deeper (envOfC qual scope s.heap.objs.size f cdv)) → sp vs H Q (fun _ _ _ => False) →
      ∃ t, PSs (cxN P w K mg base N qual scope f cdv A outer s H) body t ∧ t { nx := fun _ H' => Q .non H', rt := Q } (L2.start N vs) H) :
    FnN P w K mg base 1 f (PySem.W.fnOf name qual params body scope dV kV doc pm an cdv ct) ps sp := by
  refine ⟨len, fun A outer s H args us vs Q hr e0 hb r hsp => ?_⟩
  have hl := len _ _ _ _ hsp
  have KX : K.In s.heap := e0.mod.kin.keeps fun b o e => (e0.bs b o e).1
  have lim : s.heap.NoLimit := e0.mod.nolimit.keeps fun b o e => (e0.bs b o e).1
  have hkind : ∀ y ∈ ps.zip us, scope.names.lookup y.1 = some .local ∨ (scope.names.lookup y.1 = some .cell ∧ ((cellsFrom (s.heap.objs.size + 1) scope.names []).lookup y.1).isSome = true) := fun ⟨n, v⟩ hy => by
    rcases S.par n (List.of_mem_zip hy).1 with q | q
    · exact .inl q
    · exact .inr ⟨q, PySem.W.cellsFrom_some _ _ _ (.inl q)⟩
  refine codeAny_call_function hr.depth (KX _ _ lk) rfl S.co S.gen rfl (PySem.W.codeRec_of KX hcd) (hb _ _ _ _ ?_)
  refine wpAny_newFunctionEnv_cells S.kind hkind fun env he s1 x => ?_
  subst he
  refine ⟨lim.keeps x.toInCall.keep, codeAny_func ?_⟩
  obtain ⟨t, ht, hq⟩ := hbody A outer s H vs Q (hr.deeper _) hsp
  have I : Inv (cxN P w K mg base N qual scope f cdv A outer s H) [] (L2.start N vs) H s1 := inv_startN S e0 hl r x
  refine wpAny_mono (ht.run [] s1 (L2.start N vs) H _ I hq) (fun fl s' hs => ?_) fun e s' hs => False.elim hs
  have fin : ∀ {σ' : L2.St} {H' : Hp} {v : V} {u : Value}, Inv (cxN P w K mg base N qual scope f cdv A outer s H) [] σ' H' s' → RelV v u → Q v H' → CE outer P w H s Q u s' :=
    fun {σ' H' v u} J rv q => ⟨v, H', J.os, J.bare, J.base, J.hok, rv, q⟩
  cases fl with
  | ret u =>
    obtain ⟨v, σ', H', J, rv, q⟩ := hs
    exact fin J rv q
  | next =>
    obtain ⟨σ', H', J, q⟩ := hs
    exact fin (v := V.non) (u := Value.none) J rfl q
  | brk =>
    obtain ⟨_, _, _, q⟩ := hs
    exact False.elim q
  | cont =>
    obtain ⟨_, _, _, q⟩ := hs
    exact False.elim q
theorem funN_ok {P : Program} {w : World} {K : PySem.W.Frag} {mg : Str → Option Value} {base : Heap} {x qual : Str} {params : Arguments} {body : List Stmt} {scope : Scope} {dvs : List V} {kws : List (Str × V)} {f : Addr} {fd : FuncData} {N ps : List Str} {sp : Sp} (F : FunD K x qual params body scope dvs kws f fd) (S : FnScope N ps scope) (len : ∀ vs H Q E, sp vs H Q E → vs.length = ps.length)
    (hbody : ∀ (cdv : Value) (A : Around) (outer : List PySem.Env) (s : Shared) (H : Hp) (vs : List V) (Q : VK), L2H.RoomH 0 (A.deeper (envOfC qual scope s.heap.objs.size f cdv)) → sp vs H Q (fun _ _ _ => False) →
      ∃ t, PSs (cxN P w K mg base N qual scope f cdv A outer s H) body t ∧ t { nx := fun _ H' => Q .non H', rt := Q } (L2.start N vs) H) : FnN P w K mg base 1 f fd ps sp := by
  obtain ⟨oc, od, dV, kV, doc, pm, an, cdv, ct, osl, rfl, lk, hcd, _, _⟩ := F.ex
  exact fn_ofN lk hcd S len fun A outer s H vs Q hr hsp => hbody cdv A outer s H vs Q hr hsp
section
variable {X : Cx} {Wx : WX} {x : Str} {p pos : Pos} {e : Expr} {es : List Expr} {fs : DA} {fe : DE} {k i n : Nat} {Γ : Calls} {f : Addr} {fd : FuncData} {ps : List Str}
theorem r_ownN {j : Nat} (F : FnN X.prog X.w X.K X.mg X.base j f fd ps (spI (mdOf X) n (Γ i))) (hr : L2H.RoomH j X.A) (hg : Gl X x) (hm : X.mg x = some (.ref f)) (hk : PySem.W.keepIn X.K (.ref f) = true) (hb : Binds X.K fd ps [])
    (ha : PA X (e :: es) (tA (mdOf X) wF fs)) (hdb : (x == ("__debug__" : Str)) = false) (hs : noStar (e :: es) = true) : PE X (.Call (.Name x p) (e :: es) [] pos) (tE (mdOf X) wF (dOwn Γ i n fs)) := by
  refine ⟨fun pins s σ H Q I ⟨ρ, env, ah, re, rh, o⟩ => ?_⟩
  refine wpAny_Call_Name_kw (ld_glob I hg hm ?_ hdb)
  refine PySem.W.callWith_K (h₀ := X.base) I.ok.mod.kin hk (thn (ha.run pos pins s σ H _ I (tA_then re rh o)) fun us s1 ⟨vs, H1, I1, r, q⟩ => ⟨I1.kIn, ?_⟩) (noStar_cons hs _).1 (noStar_any (noStar_cons hs X.env).2 _ _)
  obtain ⟨ρ1, ah1, w1, f1, rh1, rw1, o1⟩ := q
  split at o1
  · rename_i hl
    have hlen : vs.length = n := by rw [rw1.length]; exact hl
    have hsp : spI (mdOf X) n (Γ i) vs H1 Q (fun _ _ _ => False) := ⟨hlen, ρ1, w1, ah1, rh1, rw1, o1⟩
    have hl2 : us.length = ps.length := by rw [← r.length]; exact F.len _ _ _ _ hsp
    have b := hb s1 us I1.kIn (by rw [List.append_nil]; exact hl2)
    rw [List.append_nil] at b
    refine wpAny_call (codeAny_mono (F.run X.A X.stack s1 H1 ⟨us, []⟩ us vs Q hr I1.env0 b r hsp) fun r' s' hq => ?_)
    cases r' with
    | error e => exact False.elim hq
    | ok fl =>
      cases fl with
      | ret u => exact I1.after hq
      | next => exact False.elim hq
      | brk => exact False.elim hq
      | cont => exact False.elim hq
  · exact o1.elim

/-! ### a call of a local name that holds a def -/
def dCallV (Γ : Calls) (tab : List (Str × (Nat × Nat))) (j : Nat) (a : DA) : DE := fun env h => match env[j]? with
  | some (some (.glo y)) => match tab.lookup y with
    | some (i, n) => (a env h).bind fun ws h1 => if ws.length = n then Γ i ws h1 else .stuck
    | none => .stuck
  | _ => .stuck
theorem r_callV {tab : List (Str × (Nat × Nat))} {j : Nat} (hN : X.N[j]? = some x) (hv : Vis X.env.scope x) (hr : Room k X.A) (tk : Takes X Wx)
    (ho : ∀ y i n, tab.lookup y = some (i, n) → ∃ f fd ps, FnOk X.prog X.w X.K X.mg X.base (L2.CX X.prog X.w) k f fd ps (spI (mdOf X) n (Γ i)) ∧ X.mg y = some (.ref f) ∧ PySem.W.keepIn X.K (.ref f) = true ∧ Binds X.K fd ps [])
    (ha : PA X (e :: es) (tA (mdOf X) Wx fs)) (hdb : (x == ("__debug__" : Str)) = false) (hcd : (x == ("__classdict__" : Str)) = false) (hs : noStar (e :: es) = true) : PE X (.Call (.Name x p) (e :: es) [] pos) (tE (mdOf X) Wx (dCallV Γ tab j fs)) := by
  refine ⟨fun pins s σ H Q I ⟨ρ, env, ah, re, rh, o⟩ => ?_⟩
  unfold dCallV at o
  split at o
  · rename_i y hy
    split at o
    · rename_i i n ht
      obtain ⟨f, fd, ps, F, hm, hk, hb⟩ := ho y i n ht
      obtain ⟨v, hv1, rv⟩ := re.at_ j _ hy
      rw [RW] at rv
      obtain ⟨a, rfl, hma⟩ := rv
      have ea : a = f := by
        have hma : X.mg y = some (.ref a) := hma
        rw [hm] at hma
        cases hma
        rfl
      subst ea
      refine wpAny_Call_Name_kw (thn ((pe_var (pos := p) hN hv hdb hcd).run pins s σ H (fun v H1 => v = .ref a ∧ H1 = H) I ⟨.ref a, hv1, rfl, rfl⟩) fun u s1 ⟨v, H1, I1, r1, q1⟩ => ?_)
      obtain ⟨rfl, rfl⟩ := q1
      cases r1
      refine PySem.W.callWith_K (h₀ := X.base) I.ok.mod.kin hk (thn (ha.run pos pins s1 σ _ _ I1 (tA_then re rh o)) fun us s2 ⟨vs, H2, I2, r, q⟩ => ⟨I2.kIn, ?_⟩) (noStar_cons hs _).1 (noStar_any (noStar_cons hs X.env).2 _ _)
      obtain ⟨ρ1, ah1, w1, f1, rh1, rw1, o1⟩ := q
      split at o1
      · rename_i hl
        exact run_fnS (E := WE Wx) F hr hb (passAt tk σ) I2 r ⟨by rw [rw1.length]; exact hl, ρ1, w1, ah1, rh1, rw1, o1⟩
      · exact o1.elim
    · exact o.elim
  · exact o.elim

/-! ### errors as values -/
/-- what is known of a class of errors -/
def ExcY (K : PySem.W.Frag) (mg : Str → Option Value) (x : Str) : Prop := ∃ D, mg x = some (.ref D) ∧ PySem.W.excIn K D He.veBase "ValueError.__new__" = true ∧ PySem.W.keepIn K (.ref D) = true ∧ L2.ExcC K D ∧
    PySem.W.findIn K (.ref D) "__str__" = some (some (.builtin "BaseException.__str__")) ∧ PySem.W.subIn K (.ref D) (.type "BaseException") = some true
theorem excV_at {M : Md} {x : Str} {D : Addr} (h : M.mg x = some (.ref D)) : excV M x = .ref D := by
  unfold excV
  rw [h]
def dErr (x : Str) (a : DE) : DE := fun env h => (a env h).bind fun w h1 => .ok (.err x [w]) h1
theorem r_mkErr (hx : ExcY X.K X.mg x) (hg : Gl X x) (hdb : (x == ("__debug__" : Str)) = false) (he : PE X e (tE (mdOf X) Wx fe)) (hs : noStar [e] = true) : PE X (.Call (.Name x p) [e] [] pos) (tE (mdOf X) Wx (dErr x fe)) := by
  obtain ⟨C, gC, q, kC, _⟩ := hx
  refine ⟨fun pins s σ H Q I ⟨ρ, env, ah, re, rh, o⟩ => ?_⟩
  refine wpAny_Call_Name_kw (ld_glob I hg gC ?_ hdb)
  have hst : starEach [e] X.env = (false, eval e X.env) :: starEach [] X.env := (noStar_cons hs X.env).1
  refine PySem.W.callWith_K (h₀ := X.base) I.ok.mod.kin kC ?_ hst (by rfl)
  rw [hst]
  show wpAny _ _ (spliced ((false, eval e X.env) :: backTo pos (starEach [] X.env))) _ _ s
  refine Calls.spliced_cons (thn (he.run pins s σ H _ I (tE_then re rh o)) fun u s1 ⟨v, H1, I1, r1, ρ1, ah1, w1, f1, rh1, rw1, o1⟩ => ?_)
  refine Calls.spliced_nil ⟨I1.kIn, ?_⟩
  show wpAny _ _ (call (.ref C) [u]) _ _ _
  obtain ⟨bm, N, nm, qn, bs, hdct, sn, sub, ab, col, dd, k0, k1, k2, k3, k5, mN, hC, hN, hni, T⟩ := exc_obj I1.kIn q
  refine wpAny_call_exc_subT PySem.F.excBase_ValueError T hC hN hni (fun h' a hm => ?_) (by show 1 ≤ sizeLine; rw [sizeLine_eq]; omega)
  obtain ⟨t, ga, nt, gt⟩ := hm.there
  have na : H1 a = none := I1.hok.gone hm.new
  have nt1 : H1 t = none := I1.hok.gone nt
  have nat : t ≠ a := fun z => by
    rw [z, ga] at gt
    cases gt
  obtain ⟨G, g1, g2⟩ := restrict h' fun b => decide (b ≠ a)
  have ga0 : G.get? a = none := g2 a (decide_eq_false fun z => z rfl)
  have gb : ∀ b, b ≠ a → G.get? b = h'.get? b := fun b hb => g1 b (decide_eq_true hb)
  have hz : ([v] : List V).length ≤ sizeLine := by show 1 ≤ sizeLine; rw [sizeLine_eq]; omega
  have rv : Vals [v] [u] := .cons r1 .nil
  have I2 := I1.laidN (h' := G) (a := t) (o := .frz { cls := .type "tuple", data := .seq [u].toArray } (.tup [v])) (t' := s1.toks) (fun b ob e => by
      have hb : b ≠ a := fun z => by rw [z, hm.new] at e; cases e
      rw [gb b hb]
      exact hm.keeps b ob e) nt nt1 ⟨by rw [gb t nat]; exact gt, hz, [u], rv, ⟨_, by rw [gb t nat]; exact gt, rfl, _, rfl⟩⟩
  have na2 : (upd H1 t (.frz { cls := .type "tuple", data := .seq [u].toArray } (.tup [v]))) a = none := by rw [upd_ne (Ne.symm nat)]; exact na
  have I3 := I2.laidN (h' := h') (a := a) (o := .frz { cls := .ref C, data := .fields #[.ref t, .none, .none, .none, .bool false, .none] } (.own a)) (t' := s1.toks) (fun b ob e => by
      have hb : b ≠ a := fun z => by rw [z] at e; rw [ga0] at e; cases e
      rw [← gb b hb]
      exact e) ga0 na2 ⟨ga, _, ga⟩
  have f2 : Fr ρ1 H1 ρ1 (upd H1 t (.frz { cls := .type "tuple", data := .seq [u].toArray } (.tup [v]))) := Fr.upd nt1
  have f3 : Fr ρ1 (upd H1 t (.frz { cls := .type "tuple", data := .seq [u].toArray } (.tup [v]))) ρ1 _ := Fr.upd (o := .frz { cls := .ref C, data := .fields #[.ref t, .none, .none, .none, .bool false, .none] } (.own a)) na2
  refine ⟨.ref a, _, I3, rfl, o1 ρ1 _ _ (f2.trans f3) ((rh1.upd nt1).upd na2) ?_⟩
  rw [RW]
  refine ⟨a, _, _, t, [v], rfl, ⟨rh1.fresh na, upd_same, (excV_at (M := mdOf X) gC).symm, rfl, rfl⟩, rfl, ⟨⟨_, by rw [upd_ne nat, upd_same], rfl⟩, rh1.fresh nt1⟩, ?_⟩
  exact .cons (RW.mono (f2.trans f3) _ _ rw1) .nil

/-- isinstance of an error -/
def dIsX (sub : Str → Option Bool) (a : DE) : DE := fun env h => (a env h).bind fun w h1 => match w with
  | .erx c => match sub c with
    | some b => .ok (.bl b) h1
    | none => .stuck
  | .err c _ => match sub c with
    | some b => .ok (.bl b) h1
    | none => .stuck
  | _ => .stuck
def rIsX (K : PySem.W.Frag) : List V → Hp → VK → Prop := fun xs H Q => ∃ (a : Addr) (oe : Obj) (fl : Array Value) (D : Addr) (c : V) (cv : Value) (b : Bool), xs = [.ref a, c] ∧ H a = some (.frz oe (.own a)) ∧ oe.cls = .ref D ∧ oe.dict = none ∧ oe.data = .fields fl ∧ L2.ExcC K D ∧ (∀ u, RelV c u → u = cv) ∧ PySem.W.kitOne K (.ref D) cv = some b ∧ Q (.bl b) H
theorem call_isX : CallR X (.builtin "isinstance") (rIsX X.K) := by
  intro pins s σ H xs us Q I r h
  obtain ⟨a, oe, fl, D, c, cv, b, rfl, ha, h1, h2, h3, C, hcv, e, q⟩ := h
  cases r with
  | cons rx rr =>
    cases rr with
    | cons rt rr =>
      cases rr
      cases rx
      have ec := hcv _ rt
      subst ec
      obtain ⟨hget, _⟩ := I.hok a _ ha
      have J : PySem.W.InstAt s.heap a oe D none := by
        obtain ⟨oc, od, oda, osl⟩ := oe
        dsimp only at h1 h2 h3
        subst h1 h2 h3
        exact ⟨hget, rfl, rfl, trivial⟩
      exact PySem.W.kia_one (PySem.W.handS_kitx_exc C.hg C.hk C.hs C.hd C.ha C.hn C.ht C.hm) I.kIn J e (fun z => nomatch z) fun tk => ⟨.bl b, H, I.kept (t' := tk) fun _ _ z => z, rfl, q⟩
theorem r_isX {sub : Str → Option Bool} {y : Str} {c : V} {cv : Value} {p1 : Pos} (he : PE X e (tE (mdOf X) Wx fe)) (hg : Gl X "isinstance") (hm : X.mg "isinstance" = none) (hy : PE X (.Name y p1) (tC c)) (hcv : ∀ u, RelV c u → u = cv)
    (hsub : ∀ x b, sub x = some b → ExcY X.K X.mg x ∧ PySem.W.kitOne X.K (excV (mdOf X) x) cv = some b) (hs : noStar [e] = true) :
    PE X (.Call (.Name "isinstance" p) [e, .Name y p1] [] pos) (tE (mdOf X) Wx (dIsX sub fe)) := by
  have hst : noStar [e, .Name y p1] = true := by
    cases e <;> first | rfl | (simp [noStar] at hs)
  have hst1 : noStar [Expr.Name y p1] = true := rfl
  refine PE_imp (pe_callB call_isX hg hm (by decide +kernel) (pa_cons he (pa_cons hy pa_nil) (noStar_cons hst _).1) (by decide) (by decide) (noStar_cons hst _).1 (noStar_any hst1 _ _)) fun σ H Q ⟨ρ, env, ah, re, rh, o⟩ => ?_
  refine (tE_then re rh o).mono fun v H1 ⟨ρ1, ah1, w1, f1, rh1, rw1, o1⟩ => ?_
  have go : ∀ {x : Str} {a : Addr} {oe : Obj} {fl : Array Value}, v = .ref a → ErrAt (mdOf X) ρ1 H1 a x oe fl → OutG (mdOf X) (RW (mdOf X)) ρ1 H1 (match sub x with
    | some b => Res.ok (W.bl b) ah1
    | none => .stuck) Q (WE Wx σ) → rIsX X.K [v, c] H1 Q := fun {x a oe fl} ev hE o2 => by
    split at o2
    · rename_i b hb
      obtain ⟨⟨D, gD, _, _, C, _⟩, hk⟩ := hsub x b hb
      obtain ⟨_, e1, e2, e3, e4⟩ := hE
      rw [excV_at (M := mdOf X) gD] at e2 hk
      exact ⟨a, oe, fl, D, c, cv, b, by rw [ev], e1, e2, e3, e4, C, hcv, hk, o2 ρ1 _ H1 (Fr.refl _ _) rh1 (by rw [RW])⟩
    · exact o2.elim
  cases w1 with
  | erx x =>
    rw [RW] at rw1
    obtain ⟨a, oe, fl, ev, hE⟩ := rw1
    exact go ev hE o1
  | err x ws =>
    rw [RW] at rw1
    obtain ⟨a, oe, fl, t, vs, ev, hE, _⟩ := rw1
    exact go ev hE o1
  | _ => exact o1.elim

/-- str of an error -/
def dStrE (xs : List Str) (a : DE) : DE := fun env h => (a env h).bind fun w h1 => match w with
  | .err c [.str m] => if xs.contains c = true then .ok (.str m) h1 else .stuck
  | _ => .stuck
def rStrE (K : PySem.W.Frag) : List V → Hp → VK → Prop := fun xs H Q => ∃ (a : Addr) (oe : Obj) (fl : Array Value) (D t : Addr) (m : Str), xs = [.ref a] ∧ H a = some (.frz oe (.own a)) ∧ oe.cls = .ref D ∧ oe.data = .fields fl ∧ fl[0]? = some (.ref t) ∧ (∃ ot, H t = some (.frz ot (.tup [.str m]))) ∧
  PySem.W.findIn K (.ref D) "__str__" = some (some (.builtin "BaseException.__str__")) ∧ PySem.W.subIn K (.ref D) (.type "BaseException") = some true ∧ Q (.str m) H
theorem call_strE (hu : X.A.units + 2 < cLine) : CallR X (.type "str") (rStrE X.K) := by
  intro pins s σ H xs us Q I r h
  obtain ⟨a, oe, fl, D, t, m, rfl, ha, h1, h3, h4, ⟨ot, ht⟩, h5, h6, q⟩ := h
  obtain ⟨u, rfl, rfl⟩ := vals1 r
  obtain ⟨hget, _⟩ := I.hok a _ ha
  obtain ⟨its, rv, ⟨o, g1, g2, n, g3⟩, _⟩ := I.tuple (xs := [.str m]) (.inl (.inr ⟨ot, ht⟩))
  obtain ⟨u, rfl, tk, rfl⟩ := vals1 rv
  exact PySem.P.str_of_C_one hu ⟨I.kIn, oe, fl, hget, h1, h3, h4⟩ ⟨o, n, g1, g2, g3⟩ h5 h6 ⟨.str m, H, I, ⟨tk, rfl⟩, q⟩
theorem r_strE {xs : List Str} (hu : X.A.units + 2 < cLine) (hX : ∀ c, xs.contains c = true → ExcY X.K X.mg c) (he : PE X e (tE (mdOf X) Wx fe)) (hg : Gl X "str") (hm : X.mg "str" = none) (hs : noStar [e] = true) : PE X (.Call (.Name "str" p) [e] [] pos) (tE (mdOf X) Wx (dStrE xs fe)) := by
  refine PE_imp (pe_callTy (call_strE hu) hg hm (by decide +kernel) (pa_cons he pa_nil (noStar_cons hs _).1) (by decide) (by decide) (noStar_cons hs _).1 (noStar_any (noStar_cons hs X.env).2 _ _)) fun σ H Q ⟨ρ, env, ah, re, rh, o⟩ => ?_
  refine (tE_then re rh o).mono fun v H1 ⟨ρ1, ah1, w1, f1, rh1, rw1, o1⟩ => ?_
  split at o1
  · rename_i c m
    split at o1
    case isFalse => exact o1.elim
    rename_i hc
    obtain ⟨D, gD, _, _, _, h5, h6⟩ := hX c hc
    rw [RW] at rw1
    obtain ⟨a, oe, fl, t, vs, rfl, ⟨_, e1, e2, e3, e4⟩, e5, ⟨⟨ot, e6, _⟩, _⟩, e7⟩ := rw1
    rw [excV_at (M := mdOf X) gD] at e2
    rw [RWs] at e7
    obtain ⟨v1, r1, rfl, q1, q2⟩ := e7
    rw [RW] at q1
    rw [RWs] at q2
    subst q1 q2
    exact ⟨a, oe, fl, D, t, m, rfl, e1, e2, e4, e5, ⟨ot, e6⟩, h5, h6, o1 ρ1 _ H1 (Fr.refl _ _) rh1 (by rw [RW])⟩
  · exact o1.elim
end
end Dn
end
section
set_option Elab.async false
set_option linter.all false
set_option maxRecDepth 100000
set_option maxHeartbeats 4000000
namespace Dn
open PySem PySem.Spec PyProof.Rows L2

/-! ### d.update(e): other keys -/
def nodupW : List W → Bool
  | [] => true
  | w :: ws => !(ws.any fun x => W.beq x w) && nodupW ws
theorem nodupW_ok : ∀ {ws : List W}, nodupW ws = true → ws.Nodup
  | [], _ => List.nodup_nil
  | w :: ws, h => by
    rw [nodupW, Bool.and_eq_true_iff] at h
    refine List.nodup_cons.mpr ⟨fun z => ?_, nodupW_ok h.2⟩
    have : (ws.any fun x => W.beq x w) = true := List.any_eq_true.mpr ⟨w, z, W.beq_self w⟩
    rw [this] at h
    cases h.1
def mUpd (w : W) (ws : List W) (h : AH) : Option (W × AH) := match w, ws with
  | .ref n, [.ref m] => match h[n]?, h[m]? with
    | some (.dct ks vs), some (.dct ks' vs') => if n ≠ m ∧ (ks.all flatB = true ∧ ks'.all flatB = true) ∧ nodupW (ks ++ ks') = true ∧ (ks ++ ks').length ≤ line then some (.non, h.set n (.dct (ks ++ ks') (vs ++ vs'))) else none
    | _, _ => none
  | _, _ => none
theorem kvOf_append : ∀ {ks : List W} {vs : List V} {kvs : List (Key × V)} {ks' : List W} {vs' : List V} {kvs' : List (Key × V)}, kvOf ks vs = some kvs → kvOf ks' vs' = some kvs' → kvOf (ks ++ ks') (vs ++ vs') = some (kvs ++ kvs')
  | [], vs, kvs, ks', vs', kvs', h, h' => by
    cases vs with
    | nil => simp [kvOf] at h; subst h; exact h'
    | cons v vs => simp [kvOf] at h
  | k :: ks, vs, kvs, ks', vs', kvs', h, h' => by
    obtain ⟨q, v, vs0, r, rfl, e1, e2, rfl⟩ := kv_cons h
    have ih := kvOf_append e2 h'
    show kvOf (k :: (ks ++ ks')) (v :: (vs0 ++ vs')) = _
    rw [kvOf, e1, ih]
    rfl
theorem kvOf_keys : ∀ {ks : List W} {vs : List V} {kvs : List (Key × V)}, kvOf ks vs = some kvs → keysOf ks = some (kvs.map (·.1))
  | [], vs, kvs, h => by
    cases vs with
    | nil => simp [kvOf] at h; subst h; rfl
    | cons v vs => simp [kvOf] at h
  | k :: ks, vs, kvs, h => by
    obtain ⟨q, v, vs0, r, rfl, e1, e2, rfl⟩ := kv_cons h
    rw [keysOf, e1, kvOf_keys e2]
    rfl
theorem kvOf_len : ∀ {ks : List W} {vs : List V} {kvs : List (Key × V)}, kvOf ks vs = some kvs → kvs.length = ks.length := fun h => kv_len h
section
variable {X : Cx}
theorem ok_upd : MtOk X "dict.update" mUpd := by
  intro pins s σ H x xs v us Q ρ w ws r ah ah' I rx rxs rh r1 r2 e q
  unfold mUpd at e
  split at e
  case h_2 => cases e
  rename_i n m
  split at e
  case h_2 => cases e
  rename_i ks ws1 ks' ws2 hn hm
  split at e
  case isFalse => cases e
  rename_i hc
  obtain ⟨c1, ⟨c2, c3⟩, c4, c5⟩ := hc
  cases e
  rw [RW] at r1
  obtain ⟨a, rfl, ha⟩ := r1
  rw [RWs] at r2
  obtain ⟨y, r', rfl, r2, r3⟩ := r2
  rw [RW] at r2
  obtain ⟨b, rfl, hb⟩ := r2
  rw [RWs] at r3
  subst r3
  obtain ⟨u, rfl, ru⟩ := vals1 rxs
  cases rx
  cases ru
  have nab : a ≠ b := fun z => by
    subst z
    obtain ⟨l1, e1⟩ := List.getElem?_eq_some_iff.mp ha
    obtain ⟨l2, e2⟩ := List.getElem?_eq_some_iff.mp hb
    exact c1 ((List.getElem_inj rh.nd).mp (e1.trans e2.symm))
  obtain ⟨d1, mu⟩ : DR (mdOf X) ρ H a ks ws1 ∧ Mut (H a) := DR.cell (rh.cell n a _ ha hn)
  obtain ⟨d2, _⟩ : DR (mdOf X) ρ H b ks' ws2 ∧ Mut (H b) := DR.cell (rh.cell m b _ hb hm)
  have nf : NoFz (H a) := fun od u z => by rw [z] at mu; exact mu
  have fr : ∀ ob, Fr ρ H ρ (upd H a ob) := fun ob => Fr.write (List.mem_of_getElem? ha) (rh.sep a (List.mem_of_getElem? ha)) (rh.there a (Rho.cell_all ha)) nf
  obtain ⟨hs, vs1, kvs1, us1, p1, p2, hz1, rel1, dd1⟩ := d1.flat I c2
  obtain ⟨hs2, vs2, kvs2, us2, q1, q2, hz2, rel2, dd2⟩ := d2.flat I c3
  have e3 := kvOf_append p2 q2
  have hl : kvs1.length + kvs2.length ≤ sizeLine := by
    rw [kvOf_len p2, kvOf_len q2, ← line_eq, ← List.length_append]
    exact c5
  have hnd : ((kvs1 ++ kvs2).map (·.1)).Nodup := keysOf_nodup (kvOf_keys e3) (nodupW_ok c4)
  have em : mergeK kvs1 kvs2 = kvs1 ++ kvs2 := mergeK_new kvs2 kvs1 hnd
  refine call_meetsIn F.slot_dict_update dd1.typeIs F.entry_dict_update (F.args_dict_update_2 _ _) (meets_dict_update (mixKind X.prog X.w) a b nab hs2) ⟨us1, us2, dd1, dd2, by rw [← rel1.length, ← rel2.length]; exact hl, fun h' dd' _ hb' => ?_⟩
  have he : ∃ o, h'.get? a = some o := let ⟨o, _, _, ho, _⟩ := dd'; ⟨o, ho⟩
  have hl' : (mergeK kvs1 kvs2).length ≤ sizeLine := by rw [em, List.length_append]; exact hl
  refine ⟨.non, upd H a (.dK (mergeK kvs1 kvs2)), d_write I mu hb' he (dk_new hl' hs (KV.merge rel2 rel1) dd'), rfl, q _ _ (fr _) (rh.write ha nf ?_) (by rw [RW])⟩
  exact ⟨vs1 ++ vs2, RWs.mono (fr _) _ _ (p1.append q1), .inl ⟨_, e3, by rw [upd_same, em]⟩⟩
end
end Dn
end
section
set_option Elab.async false
set_option linter.all false
set_option maxRecDepth 100000
set_option maxHeartbeats 4000000
namespace Dn
open PySem PySem.Spec PyProof.Rows L2
/-! ### two walks in one comprehension -/
def lcL2 (t : Tgt) (c : DT) (fi : DI) (t1 : Tgt) (c1 : DT) (e : DE) (vs1 : List Nat) (chk : AH → Bool) (env : Env) : List W → List W → AH → Res (List W)
  | [], acc, h => .ok acc h
  | x :: xs, acc, h => match t.set x env with
    | none => .stuck
    | some env1 => (c env1 h).bindN fun k h1 => if k = true then
        (fi env1 h1).bindN fun src1 h2 => if okSrc t1 src1 h2 = true then
          (lcL t1 c1 e src1.chk (wipeE env1 vs1) src1.items acc h2).bindN fun acc' h3 => if chk h3 = true then lcL2 t c fi t1 c1 e vs1 chk env xs acc' h3 else .stuck
        else .stuck
      else if chk h1 = true then lcL2 t c fi t1 c1 e vs1 chk env xs acc h1 else .stuck
def dLc2 (m : Bool) (i : DI) (t : Tgt) (c : DT) (i1 : DI) (t1 : Tgt) (c1 : DT) (e : DE) (vs vs1 : List Nat) : DE := fun env h => (i env h).bind fun src h1 => if (okSrc t src h1 && (subL t.slots vs && subL t1.slots vs1)) = true then (lcL2 t c i1 t1 c1 e vs1 src.chk (wipeE env vs) src.items [] h1).bind fun ys h2 => allocL m ys h2 else .stuck
section
variable {X : Cx} {Wx : WX} {tg iter tg1 iter1 elt : Expr} {ifs ifs1 : List Expr} {pos : Pos}
theorem lc2_reading {M : Md} {m : Bool} {fi fi1 : DI} {t t1 : Tgt} {c c1 : DT} {e : DE} {vs vs1 : List Nat} {σ : L2.St} {H : Hp} {Q : VK} (h : tE M Wx (dLc2 m fi t c fi1 t1 c1 e vs vs1) σ H Q) :
    tLc2 (tI M Wx fi) (tgR M.K t) (tT M noW c) (tI M noW fi1) (tgR M.K t1) (tT M noW c1) (tE M noW e) vs vs1 σ H Q := by
  obtain ⟨ρ, env, ah, re, rh, o⟩ := h
  refine (tI_then re rh o).mono fun J H1 ⟨ρ1, ah1, src, f1, rh1, it, o1⟩ => ?_
  intro D hD
  have hcs : okSrc t src ah1 = true ∧ subL t.slots vs = true ∧ subL t1.slots vs1 = true := by
    by_cases hc : (okSrc t src ah1 && (subL t.slots vs && subL t1.slots vs1)) = true
    · rw [Bool.and_eq_true_iff, Bool.and_eq_true_iff] at hc
      exact hc
    · rw [if_neg hc] at o1
      exact o1.elim
  rw [if_pos (by rw [hcs.1, hcs.2.1, hcs.2.2]; rfl)] at o1
  obtain ⟨hc, hraw⟩ := okSrc_iff hcs.1
  have hsub : ∀ i ∈ t.slots, i ∈ vs := fun i hi => by simpa using List.all_eq_true.mp hcs.2.1 i hi
  have hsub1 : ∀ i ∈ t1.slots, i ∈ vs1 := fun i hi => by simpa using List.all_eq_true.mp hcs.2.2 i hi
  obtain ⟨items, chk, raw⟩ := src
  have hDp : D ∉ ρ1.prot := fun z => rh1.fresh hD (Rho.mem_all.mpr (.inr z))
  have reW := (re.mono f1).wipe vs
  refine ⟨fun i k H' => k = items.length - i ∧ i ≤ items.length ∧ ∃ ρ' ah' acc av, Fr ρ1 H1 ρ' H' ∧ REnv M ρ' H' (wipeE env vs) (L2.wipe σ vs) ∧ RelH M ρ' H' ah' ∧ chk ah' = true ∧ D ∈ ρ'.prot ∧ H' D = some (.lst av) ∧ RWs M ρ' H' acc av ∧
      OutG M (RW M) ρ1 H1 ((lcL2 t c fi1 t1 c1 e vs1 chk (wipeE env vs) (items.drop i) acc ah').bind fun ys h2 => allocL m ys h2) Q (WE Wx σ),
    ⟨items.length, by simp, Nat.zero_le _, ρ1.hold D, ah1, [], [], Fr.holdNew hD, reW.mono (Fr.holdNew hD), rh1.holdNew hD, hc, List.mem_cons_self, upd_same, .nil, o1⟩, ?_⟩
  rintro i k H' ⟨rfl, hi, ρ', ah', acc, av, f', re', rh', hc', hp', hD', ra', o'⟩
  obtain ⟨stop, go⟩ := it ρ' H' ah' f'.weak rh' hc' i
  have hcell : ∀ {ρ2 : Rho} {H2 : Hp} {ah2 : AH}, Fr ρ' H' ρ2 H2 → RelH M ρ2 H2 ah2 → H2 D = some (.lst av) ∧ D ∈ ρ2.prot := fun f r =>
    ⟨(f.keep D _ hD' fun z => rh'.sep D z hp').exact fun z => z.elim, f.hold D hp'⟩
  by_cases hlt : i < items.length
  · have hx : items[i]? = some items[i] := by simp [hlt]
    obtain ⟨hgo, hy⟩ := go _ hx
    refine .inr ⟨hgo, fun H3 => i + 1 ≤ items.length ∧ ∃ ρ3 ah3 acc3 av3, Fr ρ1 H1 ρ3 H3 ∧ REnv M ρ3 H3 (wipeE env vs) (L2.wipe σ vs) ∧ RelH M ρ3 H3 ah3 ∧ chk ah3 = true ∧ D ∈ ρ3.prot ∧ H3 D = some (.lst av3) ∧ RWs M ρ3 H3 acc3 av3 ∧
      OutG M (RW M) ρ1 H1 ((lcL2 t c fi1 t1 c1 e vs1 chk (wipeE env vs) (items.drop (i + 1)) acc3 ah3).bind fun ys h2 => allocL m ys h2) Q (WE Wx σ), fun H3 n3 => ⟨items.length - (i + 1), by omega, rfl, n3⟩, fun v H2 yv => ?_⟩
    obtain ⟨f2, rh2, rv⟩ := hy v H2 yv
    rw [List.drop_eq_getElem_cons hlt, lcL2] at o'
    generalize hg : t.set items[i] (wipeE env vs) = q at o'
    cases q with
    | none => exact o'.elim
    | some env4 =>
      refine tgR_ok rv hraw hg (re'.mono f2) fun σ4 re4 hw => ⟨by rw [hw vs hsub, wipe_idem], ?_⟩
      simp only at o'
      refine ⟨ρ', env4, ah', re4, rh2, ?_⟩
      generalize c env4 ah' = r at o'
      cases r with
      | exc _ _ => exact o'.elim
      | stuck => exact o'.elim
      | ok k h1 =>
        intro ρ3 b H3 f3 rh3 eb
        have eb : k = b := eb
        subst eb
        rw [Res.bindN_ok] at o'
        have f03 := (f'.trans f2).trans f3
        obtain ⟨d3, p3⟩ := hcell (f2.trans f3) rh3
        cases k with
        | false =>
          rw [if_neg Bool.false_ne_true] at o'
          refine iteF ⟨hlt, ρ3, h1, acc, av, f03, re'.mono (f2.trans f3), rh3, ?_⟩
          by_cases hc3 : chk h1 = true
          · rw [if_pos hc3] at o'
            exact ⟨hc3, p3, d3, RWs.mono (f2.trans f3) _ _ ra', o'⟩
          · rw [if_neg hc3] at o'
            exact o'.elim
        | true =>
          rw [if_pos rfl] at o'
          refine iteT ⟨ρ3, env4, h1, re4.mono f3, rh3, ?_⟩
          generalize fi1 env4 h1 = r at o'
          cases r with
          | exc _ _ => exact o'.elim
          | stuck => exact o'.elim
          | ok src1 h2 =>
            intro ρ4 J1 H4 f4 rh4 it1
            rw [Res.bindN_ok] at o'
            have hcs1 : okSrc t1 src1 h2 = true := by
              by_cases hc : okSrc t1 src1 h2 = true
              · exact hc
              · rw [if_neg hc] at o'
                exact o'.elim
            rw [if_pos hcs1] at o'
            obtain ⟨hc1, hraw1⟩ := okSrc_iff hcs1
            obtain ⟨items1, chk1, raw1⟩ := src1
            have fs := (f2.trans f3).trans f4
            obtain ⟨d4, p4⟩ := hcell fs rh4
            refine ⟨fun j l H' => l = items1.length - j ∧ j ≤ items1.length ∧ ∃ ρ' ah' acc av, Fr ρ1 H1 ρ' H' ∧ Fr0 ρ4 H4 ρ' H' ∧ REnv M ρ' H' (wipeE env vs) (L2.wipe σ vs) ∧ REnv M ρ' H' (wipeE env4 vs1) (L2.wipe σ4 vs1) ∧ RelH M ρ' H' ah' ∧ chk1 ah' = true ∧ D ∈ ρ'.prot ∧ H' D = some (.lst av) ∧ RWs M ρ' H' acc av ∧
              OutG M (RW M) ρ1 H1 (((lcL t1 c1 e chk1 (wipeE env4 vs1) (items1.drop j) acc ah').bindN fun acc' h3 => if chk h3 = true then lcL2 t c fi1 t1 c1 e vs1 chk (wipeE env vs) (items.drop (i + 1)) acc' h3 else .stuck).bind fun ys h2 => allocL m ys h2) Q (WE Wx σ),
              ⟨items1.length, by simp, Nat.zero_le _, ρ4, h2, acc, av, f'.trans fs, (Fr.refl _ _).weak, re'.mono fs, (re4.mono (f3.trans f4)).wipe vs1, rh4, hc1, p4, d4, RWs.mono fs _ _ ra', o'⟩, ?_⟩
            rintro j l H5 ⟨rfl, hj, ρ5, ah5, acc5, av5, f05, f45, re5, re5', rh5, hc5, hp5, hD5, ra5, o5⟩
            obtain ⟨stop1, go1⟩ := it1 ρ5 H5 ah5 f45 rh5 hc5 j
            have hcell5 : ∀ {ρ2 : Rho} {H2 : Hp} {ah2 : AH}, Fr ρ5 H5 ρ2 H2 → RelH M ρ2 H2 ah2 → H2 D = some (.lst av5) ∧ D ∈ ρ2.prot := fun f r =>
              ⟨(f.keep D _ hD5 fun z => rh5.sep D z hp5).exact fun z => z.elim, f.hold D hp5⟩
            by_cases hlt1 : j < items1.length
            · have hx1 : items1[j]? = some items1[j] := by simp [hlt1]
              obtain ⟨hgo1, hy1⟩ := go1 _ hx1
              refine .inr ⟨hgo1, fun H3 => j + 1 ≤ items1.length ∧ ∃ ρ' ah' acc av, Fr ρ1 H1 ρ' H3 ∧ Fr0 ρ4 H4 ρ' H3 ∧ REnv M ρ' H3 (wipeE env vs) (L2.wipe σ vs) ∧ REnv M ρ' H3 (wipeE env4 vs1) (L2.wipe σ4 vs1) ∧ RelH M ρ' H3 ah' ∧ chk1 ah' = true ∧ D ∈ ρ'.prot ∧ H3 D = some (.lst av) ∧ RWs M ρ' H3 acc av ∧
                OutG M (RW M) ρ1 H1 (((lcL t1 c1 e chk1 (wipeE env4 vs1) (items1.drop (j + 1)) acc ah').bindN fun acc' h3 => if chk h3 = true then lcL2 t c fi1 t1 c1 e vs1 chk (wipeE env vs) (items.drop (i + 1)) acc' h3 else .stuck).bind fun ys h2 => allocL m ys h2) Q (WE Wx σ),
                fun H3 n3 => ⟨items1.length - (j + 1), by omega, rfl, n3⟩, fun v1 H6 yv1 => ?_⟩
              obtain ⟨f6, rh6, rv6⟩ := hy1 v1 H6 yv1
              rw [List.drop_eq_getElem_cons hlt1, lcL] at o5
              generalize hg1 : t1.set items1[j] (wipeE env4 vs1) = q at o5
              cases q with
              | none => exact o5.elim
              | some env7 =>
                refine tgR_ok rv6 hraw1 hg1 (re5'.mono f6) fun σ7 re7 hw7 => ⟨by rw [hw7 vs1 hsub1, wipe_idem], ?_⟩
                simp only at o5
                refine ⟨ρ5, env7, ah5, re7, rh6, ?_⟩
                generalize c1 env7 ah5 = r at o5
                cases r with
                | exc _ _ => exact o5.elim
                | stuck => exact o5.elim
                | ok k1 h7 =>
                  intro ρ7 b H7 f7 rh7 eb
                  have eb : k1 = b := eb
                  subst eb
                  rw [Res.bindN_ok] at o5
                  have f57 := f6.trans f7
                  obtain ⟨d7, p7⟩ := hcell5 f57 rh7
                  cases k1 with
                  | false =>
                    rw [if_neg Bool.false_ne_true] at o5
                    refine iteF ⟨hlt1, ρ7, h7, acc5, av5, f05.trans f57, f45.trans f57.weak, re5.mono f57, re5'.mono f57, rh7, ?_⟩
                    by_cases hc7 : chk1 h7 = true
                    · rw [if_pos hc7] at o5
                      exact ⟨hc7, p7, d7, RWs.mono f57 _ _ ra5, o5⟩
                    · rw [if_neg hc7] at o5
                      exact o5.elim
                  | true =>
                    rw [if_pos rfl] at o5
                    refine iteT ⟨ρ7, env7, h7, re7.mono f7, rh7, ?_⟩
                    generalize e env7 h7 = r at o5
                    cases r with
                    | exc _ _ => exact o5.elim
                    | stuck => exact o5.elim
                    | ok y h8 =>
                      intro ρ8 yv H8 f8 rh8 ry
                      rw [Res.bindN_ok] at o5
                      have f58 := f57.trans f8
                      obtain ⟨d8, p8⟩ := hcell5 f58 rh8
                      have ra8 := RWs.mono f58 _ _ ra5
                      by_cases hc8 : (chk1 h8 && decide (acc5.length < line)) = true
                      · rw [if_pos hc8] at o5
                        obtain ⟨hc8, hl8⟩ := Bool.and_eq_true_iff.mp hc8
                        have hl8 : acc5.length < line := of_decide_eq_true hl8
                        have nfD : NoFz (H8 D) := NoFz.of d8 fun _ _ z => nomatch z
                        have hld := Fr0.held (H := H8) (o := .lst (av5 ++ [yv])) p8 nfD
                        have h4D : H4 D = some (.lst av) := d4
                        refine ⟨av5, d8, by rw [ra8.length, ← line_eq]; exact hl8, hlt1, ρ8, h8, acc5 ++ [y], av5 ++ [yv], (f05.trans f58).late hD, ?_, ?_, ?_, rh8.held p8 nfD, hc8, p8, upd_same, RWs.mono0 hld _ _ (ra8.snoc ry), o5⟩
                        · exact (f45.trans f58.weak).trans hld
                        · exact (re5.mono f58).mono0 hld
                        · exact (re5'.mono f58).mono0 hld
                      · rw [if_neg hc8] at o5
                        exact o5.elim
            · have e' : j = items1.length := by omega
              subst e'
              rw [List.drop_length, lcL, Res.bindN_ok] at o5
              refine .inl ⟨stop1 rfl, hlt, ρ5, ah5, acc5, av5, f05, re5, rh5, ?_⟩
              by_cases hc9 : chk ah5 = true
              · rw [if_pos hc9] at o5
                exact ⟨hc9, hp5, hD5, ra5, o5⟩
              · rw [if_neg hc9] at o5
                exact o5.elim
  · have e' : i = items.length := by omega
    subst e'
    rw [List.drop_length, lcL2, Res.bind_ok] at o'
    refine .inl ⟨stop rfl, ?_⟩
    cases m with
    | false =>
      have o2 : ∀ ρ2 b H2, Fr ρ1 H1 ρ2 H2 → RelH M ρ2 H2 ah' → RW M ρ2 H2 (.lst acc) b → Q b H2 := o'
      refine o2 (ρ'.let_ D) (.ref D) H' (f'.let_ hDp) (rh'.let_ D) ?_
      rw [RW]
      refine ⟨D, av, rfl, ⟨hD', fun z => ?_⟩, RWs.mono0 (Fr0.let_ D) _ _ ra'⟩
      rcases Rho.mem_all.mp z with z | z
      · exact rh'.sep D z hp'
      · exact (Rho.mem_let.mp z).2 rfl
    | true =>
      have o2 : ∀ ρ2 b H2, Fr ρ1 H1 ρ2 H2 → RelH M ρ2 H2 (ah' ++ [.lst acc]) → RW M ρ2 H2 (.ref ah'.length) b → Q b H2 := o'
      refine o2 ((ρ'.let_ D).push D) (.ref D) H' (f'.adopt hD hDp) (rh'.adopt hp' ⟨av, hD', RWs.mono0 (Fr0.adopt hp') _ _ ra'⟩) ?_
      rw [RW]
      refine ⟨D, rfl, ?_⟩
      show (ρ'.cells ++ [D])[ah'.length]? = some D
      rw [← rh'.len]
      simp
abbrev PIat (X : Cx) (scope : Scope) (tg1 iter1 : Expr) (wi : TI) : Prop := ∀ s H C cl fp, PI (blkAt X scope s H C cl fp) tg1 iter1 wi
theorem r_lc2 {m : Bool} {fi fi1 : DI} {t t1 : Tgt} {fc fc1 : DT} {fe : DE} {scope : Scope} {own : List (Str × Nat)} {vs1 : List Nat} (hc : X.calm = true) (hN : X.N.Nodup) (hi : PI X tg iter (tI (mdOf X) Wx fi)) (ok : BlkOk X.N X.env.scope scope own) (hv : ∀ i ∈ vs1, i ∈ own.map (·.2))
    (hg : ∀ s H C cl fp, PG (blkAt X scope s H C cl fp) tg (tgR X.K t)) (ht : ∀ s H C cl fp, PTs (blkAt X scope s H C cl fp) ifs (tT (mdOf X) noW fc)) (hi1 : PIat X scope tg1 iter1 (tI (mdOf X) noW fi1)) (hg1 : ∀ s H C cl fp, PG (blkAt X scope s H C cl fp) tg1 (tgR X.K t1)) (ht1 : ∀ s H C cl fp, PTs (blkAt X scope s H C cl fp) ifs1 (tT (mdOf X) noW fc1))
    (he : ∀ s H C cl fp, PE (blkAt X scope s H C cl fp) elt (tE (mdOf X) noW fe)) (hs : ∀ x, foldedSetIterable iter X.env x = pure x) (hs1 : ∀ env x, foldedSetIterable iter1 env x = pure x) :
    PE X (.ListComp elt [⟨tg, iter, ifs, 0⟩, ⟨tg1, iter1, ifs1, 0⟩] scope pos) (tE (mdOf X) Wx (dLc2 m fi t fc fi1 t1 fc1 fe (own.map (·.2)) vs1)) :=
  PE_imp (pe_lc2 hc hN hi ok hv hg ht hi1 hg1 ht1 he hs hs1) fun σ H Q h => lc2_reading h
theorem r_setLc2 {i : Nat} {y : Str} {py spos : Pos} {m : Bool} {fi fi1 : DI} {t t1 : Tgt} {fc fc1 : DT} {fe : DE} {scope : Scope} {own : List (Str × Nat)} {vs1 : List Nat} (hc : X.calm = true) (hN : X.N.Nodup) (hy : X.N[i]? = some y) (hyl : X.env.scope.names.lookup y = some .local)
    (hsw : swapsWith (.ListComp elt [⟨tg, iter, ifs, 0⟩, ⟨tg1, iter1, ifs1, 0⟩] scope pos) (some (.Name y py)) spos.line X.env = pure true) (hi : PI X tg iter (tI (mdOf X) Wx fi)) (ok : BlkOk X.N X.env.scope scope own) (hv : ∀ i ∈ vs1, i ∈ own.map (·.2))
    (hg : ∀ s H C cl fp, PG (blkAt X scope s H C cl fp) tg (tgR X.K t)) (ht : ∀ s H C cl fp, PTs (blkAt X scope s H C cl fp) ifs (tT (mdOf X) noW fc)) (hi1 : PIat X scope tg1 iter1 (tI (mdOf X) noW fi1)) (hg1 : ∀ s H C cl fp, PG (blkAt X scope s H C cl fp) tg1 (tgR X.K t1)) (ht1 : ∀ s H C cl fp, PTs (blkAt X scope s H C cl fp) ifs1 (tT (mdOf X) noW fc1))
    (he : ∀ s H C cl fp, PE (blkAt X scope s H C cl fp) elt (tE (mdOf X) noW fe)) (hs : ∀ x, foldedSetIterable iter X.env x = pure x) (hs1 : ∀ env x, foldedSetIterable iter1 env x = pure x) :
    PS X (.Assign [.Name y py] (.ListComp elt [⟨tg, iter, ifs, 0⟩, ⟨tg1, iter1, ifs1, 0⟩] scope pos) spos) (tS (mdOf X) Wx (sAsg (dLc2 m fi t fc fi1 t1 fc1 fe (own.map (·.2)) vs1) (gSet i))) :=
  PS_imp (ps_setLc2 hc hN hy hyl hsw hi ok hv hg ht hi1 hg1 ht1 he hs hs1) fun D σ H ⟨ρ, env, ah, re, rh, o⟩ => by
    refine lc2_reading (Wx := Wx) (m := m) ((tE_toS re rh o).mono fun v H1 ⟨ρ1, ah1, w, f, r, rw, o1⟩ => ?_)
    exact o1 ρ1 _ H1 (Fr.refl _ _) ((re.mono f).set rw) r
end
end Dn
end
section
set_option Elab.async false
set_option linter.all false
set_option maxRecDepth 100000
set_option maxHeartbeats 4000000
namespace Dn
open PySem PySem.Spec PyProof.Rows L2

/-! ### from the text to what it does -/
structure Cc where
  sc : Scope
  ts : Scope
  N : List Str
  mt : List (Str × Nat)
  mret : Nat
structure Gs where
  own : List (Str × (Nat × Nat))
  /-- those whose result is to be changed -/
  own2 : List (Str × (Nat × Nat))
  /-- those that are values -/
  fv : List (Str × (Nat × Nat))
  /-- those that are called in except suites -/
  hot : List (Str × (Nat × Nat))
  con : List (Str × W)
  /-- errors that are raised and caught; that are values -/
  exs : List Str
  exv : List Str
  strx : Bool
structure Gd extends Gs where
  Γ : Calls
def stuckE : DE := fun _ _ => .stuck
def stuckT : DT := fun _ _ => .stuck
def stuckA : DA := fun _ _ => .stuck
def stuckI : DI := fun _ _ => .stuck
def stuckS : DS := fun _ _ => .stuck
structure Cm where
  E : Cc → Nat → Expr → DE
  T : Cc → Expr → DT
  A : Cc → List Nat → List Expr → DA
  I : Cc → Expr → Expr → DI
  S : Cc → Stmt → DS
  SS : Cc → List Stmt → DS
def odd (m : Nat) : Bool := m % 2 == 1
def isGl (C : Cc) (x : Str) : Bool := C.sc.names.lookup x == some NameKind.globalImplicit
def isVis (C : Cc) (x : Str) : Bool := C.sc.names.lookup x == some NameKind.local || C.sc.names.lookup x == some NameKind.cell || C.sc.names.lookup x == some NameKind.free
def nameE (G : Gd) (C : Cc) (x : Str) : DE :=
  if x == ("__debug__" : Str) || x == ("__classdict__" : Str) then stuckE
  else if isVis C x then match C.N.findIdx? (· == x) with
    | some i => dVar i
    | none => stuckE
  else if isGl C x then match G.con.lookup x with
    | some w => dC w
    | none => stuckE
  else stuckE
def cmpV : CmpOp → (W → W → AH → Option W)
  | .Eq => eqV'
  | .NotEq => neV'
  | .Lt => ltV
  | .LtE => leV
  | .Gt => gtV
  | .GtE => geV
  | .Is => isV
  | .IsNot => isntV
  | .In => inW false
  | .NotIn => inW true
def constE : Const → DE
  | .int i => dC (.int i)
  | .bool b => dC (.bl b)
  | .none => dC .non
  | .str x => dC (.str x)
  | _ => stuckE
def binE (op : Operator) (m : Nat) (a b : DE) : DE := match op with
  | .Add => dAdd (odd m) a b
  | .Sub => dBin subV a b
  | .Mult => dBin mulV a b
  | .Mod => dBin modV a b
  | .FloorDiv => dBin fdivV a b
  | .Pow => dBin powV a b
  | _ => stuckE
/-- not a slice, not a tuple, not a constant: what is written in [..] -/
def plainIxB : Expr → Bool
  | .Name _ _ => true
  | .Constant (.int _) _ _ => true
  | .Constant (.str _) _ _ => true
  | .BinOp .. => true
  | .UnaryOp .. => true
  | .Call .. => true
  | .Subscript .. => true
  | _ => false
def btOf (x : Str) : Option BT :=
  if x == PySem.Str.ofString BT.int.name then some .int
  else if x == PySem.Str.ofString BT.bool.name then some .bool
  else if x == PySem.Str.ofString BT.str.name then some .str
  else if x == PySem.Str.ofString BT.tuple.name then some .tuple
  else if x == PySem.Str.ofString BT.list.name then some .list
  else none
/-- f(range(..)) -/
def rangeArg (C : Cc) : List Expr → Option (List Expr)
  | [.Call (.Name y _) es [] _] => if y == ("range" : Str) && isGl C y && noStar es && (es.length == 1 || es.length == 2) then some es else none
  | _ => none
def isiArg (C : Cc) : List Expr → Option (Expr × BT)
  | [e, .Name y _] => if isGl C y && noStar [e] then (btOf y).map fun T => (e, T) else none
  | _ => none
/-- len(set(..)) -/
def setArg (C : Cc) : List Expr → Option Expr
  | [.Call (.Name y _) [a] [] _] => if y == ("set" : Str) && isGl C y && noStar [a] then some a else none
  | _ => none
/-- list(d.values()) -/
def lvArg : List Expr → Option Expr
  | [.Call (.Attribute o x apos) [] [] cpos] => if x == ("values" : Str) && plainBase o && (apos.endLine == cpos.line) then some o else none
  | _ => none
/-- the built-in names that are taken -/
inductive Bi where
  | len | int | bool | str | min | max | all | any | tuple | list | isi | sorted
def biOf0 (x : Str) : Option Bi :=
  if x == ("len" : Str) then some .len
  else if x == ("int" : Str) then some .int
  else if x == ("isinstance" : Str) then some .isi
  else if x == ("list" : Str) then some .list
  else if x == ("tuple" : Str) then some .tuple
  else if x == ("min" : Str) then some .min
  else if x == ("max" : Str) then some .max
  else if x == ("all" : Str) then some .all
  else if x == ("any" : Str) then some .any
  else if x == ("bool" : Str) then some .bool
  else if x == ("str" : Str) then some .str
  else none
def biOf (x : Str) : Option Bi := if x == ("sorted" : Str) then some .sorted else biOf0 x
def kTup : Int → Int → AH → Res W := fun i j h => .ok (.tup (rgW i j)) h
def kLst (m : Bool) : Int → Int → AH → Res W := fun i j h => allocL m (rgW i j) h
def bltE (r : Cm) (C : Cc) (m : Nat) (b : Bi) (args : List Expr) : DE := match args with
  | [] => stuckE
  | _ :: _ => match b with
    | .len => match setArg C args with
      | some a => dUn gLenSet (r.E C 0 a)
      | none => dCall gLenW (r.A C [] args)
    | .int => dCall gInt (r.A C [] args)
    | .bool => dCall gBool (r.A C [] args)
    | .str => dCall gStr (r.A C [] args)
    | .min => match args with
      | [_] => dCall gMinL (r.A C [] args)
      | _ => dCall gMin2 (r.A C [] args)
    | .sorted => match setArg C args with
      | some a => dUnL (odd m) gSortSet (r.E C 0 a)
      | none => dCallL (odd m) gSort (r.A C [] args)
    | .max => dCall gMax2 (r.A C [] args)
    | .all => dCall gAll (r.A C [] args)
    | .any => dCall gAny (r.A C [] args)
    | .tuple => match rangeArg C args with
      | some es => dRg kTup (r.A C [] es)
      | none => dCall gTuple (r.A C [] args)
    | .list => match rangeArg C args with
      | some es => dRg (kLst (odd m)) (r.A C [] es)
      | none => match lvArg args with
        | some o => dLv (odd m) (r.E C 0 o)
        | none => dCallL (odd m) gList (r.A C [] args)
    | .isi => match isiArg C args with
      | some (e, T) => dIsi T (r.E C 0 e)
      | none => stuckE
def subI (xs : List Str) (y : Str) : Str → Option Bool := fun c => if (xs.contains c && xs.contains y) = true then some (decide (c = y) || decide (y = ("TrickError" : Str))) else none
def subVE (xs : List Str) : Str → Option Bool := fun c => if xs.contains c = true then some true else none
/-- isinstance(e, an error's class) -/
def isxArg (G : Gd) (C : Cc) : List Expr → Option (Expr × Option Str)
  | [e, .Name y _] => if isGl C y && noStar [e] && !(y == ("__debug__" : Str)) then (if G.exv.contains y then some (e, some y) else if y == ("ValueError" : Str) && !G.exv.isEmpty then some (e, none) else none) else none
  | _ => none
def isxE (G : Gd) (r : Cm) (C : Cc) : Expr × Option Str → DE
  | (e, some y) => dIsX (subI G.exv y) (r.E C 0 e)
  | (e, none) => dIsX (subVE G.exv) (r.E C 0 e)
def ownOf2 (G : Gd) (m : Nat) (x : Str) : Option (Nat × Nat) := if odd m then (match G.own2.lookup x with
    | some p => some p
    | none => G.own.lookup x) else G.own.lookup x
/-- names of the module that are no defs of the text -/
def otherE (G : Gd) (r : Cm) (C : Cc) (m : Nat) (x : Str) (args : List Expr) : DE :=
  if G.exv.contains x then match args with
    | [a] => dErr x (r.E C 0 a)
    | _ => stuckE
  else if x == ("isinstance" : Str) && (isxArg G C args).isSome then match isxArg G C args with
    | some p => isxE G r C p
    | none => stuckE
  else if G.strx && x == ("str" : Str) then match args with
    | [a] => dStrE G.exv (r.E C 0 a)
    | _ => stuckE
  else match biOf x with
    | some b => bltE r C m b args
    | none => stuckE
def callE (G : Gd) (r : Cm) (C : Cc) (m : Nat) (x : Str) (args : List Expr) : DE :=
  if noStar args && !(x == ("__debug__" : Str)) then
    if isGl C x then match ownOf2 G m x with
      | some (i, n) => match args with
        | [] => if n = 0 then dOwn G.Γ i 0 dNil else stuckE
        | _ :: _ => dOwn G.Γ i n (r.A C [] args)
      | none => otherE G r C m x args
    else if isVis C x && !(x == ("__classdict__" : Str)) then match C.N.findIdx? (· == x), args with
      | some j, _ :: _ => dCallV G.Γ G.fv j (r.A C [] args)
      | _, _ => stuckE
    else stuckE
  else stuckE
inductive Mb where
  | append | insert | pop | reverse | count | index | upper | get | setd | join | split | update
def mbOf0 (x : Str) : Option Mb :=
  if x == ("append" : Str) then some .append
  else if x == ("count" : Str) then some .count
  else if x == ("index" : Str) then some .index
  else if x == ("insert" : Str) then some .insert
  else if x == ("pop" : Str) then some .pop
  else if x == ("reverse" : Str) then some .reverse
  else if x == ("upper" : Str) then some .upper
  else if x == ("get" : Str) then some .get
  else if x == ("setdefault" : Str) then some .setd
  else if x == ("join" : Str) then some .join
  else if x == ("split" : Str) then some .split
  else none
def mbOf (x : Str) : Option Mb := if x == ("update" : Str) then some .update else mbOf0 x
def methE (r : Cm) (C : Cc) (o : Expr) (x : Str) (args : List Expr) (ok : Bool) : DE :=
  if plainBase o && ok && noStar args && decide (args.length < 30) then match mbOf x, args with
    | some .append, _ :: _ => dMt "list" mAppend (r.E C 0 o) (r.A C [] args)
    | some .insert, _ :: _ => dMt "list" mInsert (r.E C 0 o) (r.A C [] args)
    | some .pop, _ :: _ => dMt "list" mPop (r.E C 0 o) (r.A C [] args)
    | some .count, _ :: _ => dMt "list" mCount (r.E C 0 o) (r.A C [] args)
    | some .index, _ :: _ => dMt "tuple" mIndex (r.E C 0 o) (r.A C [] args)
    | some .get, _ :: _ => dMtD mGet (r.E C 0 o) (r.A C [] args)
    | some .setd, _ :: _ => dMtD mSetd (r.E C 0 o) (r.A C [] args)
    | some .update, _ :: _ => dMtD mUpd (r.E C 0 o) (r.A C [] args)
    | some .join, _ :: _ => dMt "str" mJoin (r.E C 0 o) (r.A C [] args)
    | some .split, _ :: _ => dMt "str" mSplit (r.E C 0 o) (r.A C [] args)
    | some .reverse, [] => dMt "list" mReverse (r.E C 0 o) dNil
    | some .upper, [] => dMt "str" mUpper (r.E C 0 o) dNil
    | _, _ => stuckE
  else stuckE
/-! a comprehension's block -/
def relab (scope sc : Scope) : Scope := { scope with names := scope.names.map fun (n, k) => if (k == .free && sc.kind == .function && sc.names.lookup n == some .cell) then (n, .cell) else (n, k) }
def ownOf (N : List Str) (names : List (Str × NameKind)) : List (Str × Nat) := names.filterMap fun y => if y.2 == NameKind.local || y.2 == NameKind.cell then (N.findIdx? (· == y.1)).map fun i => (y.1, i) else none
def blkB (N : List Str) (sc scope : Scope) (own : List (Str × Nat)) : Bool :=
  decide (scope.kind = .function) && (scope.names.all fun y => scope.names.lookup y.1 == some y.2) && (own.all fun p => N[p.2]? == some p.1) &&
  (scope.names.all fun y => !(y.2 == NameKind.free) || (sc.names.lookup y.1 == some NameKind.cell || sc.names.lookup y.1 == some NameKind.free)) &&
  (scope.names.all fun y => !(y.2 == NameKind.local || y.2 == NameKind.cell) || ((own.map (·.1)).contains y.1 || !(N.contains y.1)))
def notSet : Expr → Bool
  | .Set .. => false
  | _ => true
def inBlk (C : Cc) (scope : Scope) : Cc := { C with sc := relab scope C.sc, ts := scope }
def ifsT (r : Cm) (C : Cc) : List Expr → DT
  | [] => yesT
  | [c] => r.T C c
  | _ => stuckT
def lcE (r : Cm) (C : Cc) (m : Nat) (elt : Expr) (gens : List Comprehension) (scope : Scope) : DE := match gens with
  | [⟨tg, iter, ifs, 0⟩] => match tgtOf C.N scope tg with
    | some t => if blkB C.N C.sc scope (ownOf C.N scope.names) && notSet iter then
        dLc (odd m) (r.I C tg iter) t (ifsT r (inBlk C scope) ifs) (r.E (inBlk C scope) (m / 2) elt) ((ownOf C.N scope.names).map (·.2))
      else stuckE
    | none => stuckE
  | [⟨tg, iter, ifs, 0⟩, ⟨tg1, iter1, ifs1, 0⟩] => match tgtOf C.N scope tg, tgtOf C.N scope tg1 with
    | some t, some t1 => if blkB C.N C.sc scope (ownOf C.N scope.names) && (notSet iter && (notSet iter1 && subL t1.slots ((ownOf C.N scope.names).map (·.2)))) then
        dLc2 (odd m) (r.I C tg iter) t (ifsT r (inBlk C scope) ifs) (r.I (inBlk C scope) tg1 iter1) t1 (ifsT r (inBlk C scope) ifs1) (r.E (inBlk C scope) (m / 2) elt) ((ownOf C.N scope.names).map (·.2)) t1.slots
      else stuckE
    | _, _ => stuckE
  | _ => stuckE
def dcE (r : Cm) (C : Cc) (kx vx : Expr) (gens : List Comprehension) (scope : Scope) : DE := match gens with
  | [⟨tg, iter, ifs, 0⟩] => match tgtOf C.N scope tg with
    | some t => if blkB C.N C.sc scope (ownOf C.N scope.names) && notSet iter then
        dDc (r.I C tg iter) t (ifsT r (inBlk C scope) ifs) (r.E (inBlk C scope) 0 kx) (r.E (inBlk C scope) 0 vx) ((ownOf C.N scope.names).map (·.2))
      else stuckE
    | none => stuckE
  | _ => stuckE
/-- the pairs of a display with written keys -/
def dispP (r : Cm) (C : Cc) : List (Option Expr) → List Expr → Option (List (W × DE))
  | [], [] => some []
  | some k :: ks, v :: vs => match keyC k, dispP r C ks vs with
    | some w, some ps => some ((w, r.E C 0 v) :: ps)
    | _, _ => none
  | _, _ => none
def nodupB : List W → Bool
  | [] => true
  | w :: ws => !(ws.any fun x => W.beq x w) && nodupB ws
def dispOk (ps : List (W × DE)) : Bool := !ps.isEmpty && (decide (ps.length ≤ 15) && nodupB (ps.map (·.1)))
def dispE (r : Cm) (C : Cc) (ks : List (Option Expr)) (vs : List Expr) : DE := match dispP r C ks vs with
  | some ps => if dispOk ps = true then dDispN ps else stuckE
  | none => stuckE
def optE (r : Cm) (C : Cc) : Option Expr → DO
  | none => oNone
  | some e => oSome (r.E C 0 e)
def subE (r : Cm) (C : Cc) (m : Nat) (a i : Expr) : DE := match i with
  | .Slice lo hi none _ => dSl (odd m) (r.E C 0 a) (optE r C lo) (optE r C hi)
  | .Slice lo hi (some st) _ => dStep (r.E C 0 a) (optE r C lo) (optE r C hi) (optE r C (some st))
  | i => if plainIxB i then dBin idxW (r.E C 0 a) (r.E C 0 i) else stuckE
def stepE (G : Gd) (r : Cm) (C : Cc) (m : Nat) (e : Expr) : DE := match e with
  | .Name x _ => nameE G C x
  | .Constant c _ _ => constE c
  | .BinOp a op b _ => binE op m (r.E C (m - m % 2) a) (r.E C (m - m % 2) b)
  | .UnaryOp .Not a _ => dNot (r.E C 0 a)
  | .UnaryOp .USub a _ => dUn negV (r.E C 0 a)
  | .Dict [] [] _ => dDict0
  | .Dict [some k] [v] _ => match keyC k with
    | some _ => dispE r C [some k] [v]
    | none => dDisp1 (r.E C 0 k) (r.E C 0 v)
  | .Dict ks vs _ => dispE r C ks vs
  | .BoolOp op [a] _ => r.E C 0 a
  | .BoolOp .And (a :: b :: es) p => dAnd (r.E C 0 a) (r.E C 0 (.BoolOp .And (b :: es) p))
  | .BoolOp .Or (a :: b :: es) p => dOr (r.E C 0 a) (r.E C 0 (.BoolOp .Or (b :: es) p))
  | .Compare a [op] [b] _ => if behindInMarks op b then stuckE else dBin (cmpV op) (r.E C 0 a) (r.E C 0 b)
  | .Compare a [op, op'] [b, c] _ => if lastMarks [op, op'] [b, c] then stuckE else dChain (cmpV op) (cmpV op') (r.E C 0 a) (r.E C 0 b) (r.E C 0 c)
  | .IfExp c a b _ => dIf (r.T C c) (r.E C m a) (r.E C m b)
  | .Tuple es _ _ => if noStar es then dTup (r.A C (es.map fun _ => m / 2) es) else stuckE
  | .List es _ => if noStar es then dLst (odd m) (r.A C (es.map fun _ => m / 2) es) else stuckE
  | .Subscript a i _ => subE r C m a i
  | .Call (.Name x _) args [] _ => callE G r C m x args
  | .Call (.Attribute o x apos) args [] cpos => methE r C o x args (apos.endLine == cpos.line)
  | .ListComp elt gens scope _ => lcE r C m elt gens scope
  | .DictComp kx vx gens scope _ => dcE r C kx vx gens scope
  | _ => stuckE
def valT : Expr → Bool
  | .Name .. => true
  | .Constant .. => true
  | .Call .. => true
  | .Subscript .. => true
  | .BinOp .. => true
  | _ => false
def stepT (r : Cm) (C : Cc) (e : Expr) : DT := match e with
  | .UnaryOp .Not a _ => tNot' (r.T C a)
  | .BoolOp op [a] _ => r.T C a
  | .BoolOp .And (a :: b :: es) p => tAnd' (r.T C a) (r.T C (.BoolOp .And (b :: es) p))
  | .BoolOp .Or (a :: b :: es) p => tOr' (r.T C a) (r.T C (.BoolOp .Or (b :: es) p))
  | .Compare a [op] [b] _ => if behindInMarks op b then stuckT else tVal (dBin (cmpV op) (r.E C 0 a) (r.E C 0 b))
  | .Compare a [op, op'] [b, c] _ => if lastMarks [op, op'] [b, c] then stuckT else tVal (dChain (cmpV op) (cmpV op') (r.E C 0 a) (r.E C 0 b) (r.E C 0 c))
  | e => if valT e then tVal (r.E C 0 e) else stuckT
def stepA (r : Cm) (C : Cc) (ms : List Nat) (es : List Expr) : DA := match es with
  | [] => dNil
  | e :: es => if noStar [e] then dCons (r.E C (ms.headD 0) e) (r.A C ms.tail es) else stuckA
/-- enumerate(..), zip(.., ..), where pairs are taken apart -/
def enumArg (C : Cc) (tg e : Expr) : Option Expr := match tg, e with
  | .Tuple _ _ _, .Call (.Name y _) [a] [] _ => if y == ("enumerate" : Str) && isGl C y && noStar [a] then some a else none
  | _, _ => none
def zipArg (C : Cc) (tg e : Expr) : Option (Expr × Expr) := match tg, e with
  | .Tuple _ _ _, .Call (.Name y _) [a, b] [] _ => if y == ("zip" : Str) && isGl C y && noStar [a, b] then some (a, b) else none
  | _, _ => none
def mutOf (C : Cc) (x : Str) : Nat := (C.mt.lookup x).getD 0
/-- d.items(), d.values(), a name that is known to be a dict -/
def itemsArg (tg e : Expr) : Option Expr := match tg, e with
  | .Tuple _ _ _, .Call (.Attribute o x apos) [] [] cpos => if x == ("items" : Str) && plainBase o && (apos.endLine == cpos.line) then some o else none
  | _, _ => none
def valsArg (e : Expr) : Option Expr := match e with
  | .Call (.Attribute o x apos) [] [] cpos => if x == ("values" : Str) && plainBase o && (apos.endLine == cpos.line) then some o else none
  | _ => none
def dictArg (C : Cc) (e : Expr) : Bool := match e with
  | .Name x _ => decide (1073741824 ≤ mutOf C x)
  | _ => false
def stepI (r : Cm) (C : Cc) (tg e : Expr) : DI := match enumArg C tg e with
  | some a => iEn (r.E C 0 a)
  | none => match zipArg C tg e with
    | some (a, b) => iZp (r.A C [] [a, b])
    | none => match rangeArg C [e] with
      | some es => iRg (r.A C [] es)
      | none => match itemsArg tg e with
        | some o => iDi (r.E C 0 o)
        | none => match valsArg e with
          | some o => iDv (r.E C 0 o)
          | none => if dictArg C e = true then iDk (r.E C 0 e) else iE (r.E C 0 e)
def idx1 (C : Cc) (x : Str) : Option Nat := if C.ts.names.lookup x == some NameKind.local || C.ts.names.lookup x == some NameKind.cell then C.N.findIdx? (· == x) else none
def nameMut (C : Cc) : Expr → Nat
  | .Name x _ => mutOf C x
  | _ => 0
def parS (r : Cm) (C : Cc) (ts vs : List Expr) : List Str → DS
  | [x, y] => match ts, vs, C.N.findIdx? (· == x), C.N.findIdx? (· == y) with
    | [.Name x' _, .Name y' _], [a, b], some i, some j => if x' == x && y' == y && i != j && C.sc.names.lookup x == some NameKind.local && C.sc.names.lookup y == some NameKind.local then sPar2 i j (r.A C [mutOf C x, mutOf C y] [a, b]) else stuckS
    | _, _, _, _ => stuckS
  | [x, y, z] => match ts, vs, C.N.findIdx? (· == x), C.N.findIdx? (· == y), C.N.findIdx? (· == z) with
    | [.Name x' _, .Name y' _, .Name z' _], [a, b, c], some i, some j, some l => if x' == x && y' == y && z' == z && i != j && i != l && j != l && C.sc.names.lookup x == some NameKind.local && C.sc.names.lookup y == some NameKind.local && C.sc.names.lookup z == some NameKind.local then sPar3 i j l (r.A C [mutOf C x, mutOf C y, mutOf C z] [a, b, c]) else stuckS
    | _, _, _, _, _ => stuckS
  | _ => stuckS
/-- a class of errors -/
def isX (G : Gd) (x : Str) : Bool := G.exs.contains x
def exOk (G : Gd) (C : Cc) (x : Str) : Bool := isGl C x && (isX G x && !(x == ("__debug__" : Str)))
def subX (xs : List Str) (c y : Str) : Option Bool := if (xs.contains c && xs.contains y) = true then some (decide (c = y) || decide (y = ("TrickError" : Str))) else none
def subG (G : Gd) : Str → Str → Option Bool := subX G.exs
def hdlS (G : Gd) (C : Cc) : List ExceptHandler → Option (List (Str × DS))
  | [] => some []
  | .ExceptHandler (some (.Name x _)) none [.Return (some (.Constant c _ _)) _] _ :: r => if exOk G C x = true then (hdlS G C r).map fun l => (x, sSeq (sRet (constE c)) sNext) :: l else none
  | _ => none
def asgS (r : Cm) (C : Cc) (tg e : Expr) : DS := match tg with
  | .Name x _ => match idx1 C x with
    | some i => match e with
      | .ListComp elt gens scope _ => sAsg (lcE r C (mutOf C x) elt gens scope) (gSet i)
      | e => if isComp e then stuckS else sAsg (r.E C (mutOf C x) e) (gSet i)
    | none => stuckS
  | .Tuple ts _ _ => match e with
    | .Tuple vs _ _ => match swp C.sc ts vs with
      | some ns => parS r C ts vs ns
      | none => if swpNo C.sc ts vs && noStar vs then match namesOf C.N C.ts ts with
          | some is => sAsg (dTup (r.A C (ts.map (nameMut C)) vs)) (gTupW (gNames is))
          | none => stuckS
        else stuckS
    | e => match namesOf C.N C.ts ts with
      | some is => sAsg (r.E C 0 e) (gTupW (gNames is))
      | none => stuckS
  | .Subscript o i _ => if plainIxB i then sAsg (r.E C (nameMut C o / 2) e) (gSubS (r.E C 0 o) (r.E C 0 i)) else stuckS
  | _ => stuckS
def stepSS (r : Cm) (C : Cc) (ss : List Stmt) : DS := match ss with
  | [] => sNext
  | s :: ss => sSeq (r.S C s) (r.SS C ss)
/-! what raises nothing: an except suite, and the defs that it calls -/
def hCallE (G : Gd) (r : Cm) (C : Cc) (x : Str) (args : List Expr) : DE :=
  if noStar args && !(x == ("__debug__" : Str)) && isGl C x then match G.hot.lookup x with
    | some (i, n) => match args with
      | [] => stuckE
      | _ :: _ => dOwn G.Γ i n (r.A C [] args)
    | none => if x == ("isinstance" : Str) then match isxArg G C args with
        | some p => isxE G r C p
        | none => stuckE
      else stuckE
  else stuckE
def hStepE (G : Gd) (r : Cm) (C : Cc) (m : Nat) (e : Expr) : DE := match e with
  | .Name x _ => nameE G C x
  | .Constant c _ _ => constE c
  | .BinOp a .Add b _ => dAdd (odd m) (r.E C (m - m % 2) a) (r.E C (m - m % 2) b)
  | .Compare a [.Eq] [b] _ => if behindInMarks .Eq b then stuckE else dBin eqV' (r.E C 0 a) (r.E C 0 b)
  | .IfExp c a b _ => dIf (r.T C c) (r.E C m a) (r.E C m b)
  | .List es _ => if noStar es then dLst (odd m) (r.A C (es.map fun _ => m / 2) es) else stuckE
  | .Subscript a (.Slice lo hi none _) _ => dSl (odd m) (r.E C 0 a) (optE r C lo) (optE r C hi)
  | .Call (.Name x _) args [] _ => hCallE G r C x args
  | _ => stuckE
def hStepT (r : Cm) (C : Cc) (e : Expr) : DT := if valT e then tVal (r.E C 0 e) else stuckT
def hStepS (r : Cm) (C : Cc) (st : Stmt) : DS := match st with
  | .Expr (.Constant (.str _) _ _) _ => sNext
  | .Return (some e) _ => sRet (r.E C C.mret e)
  | .If c a b _ => sIf (r.T C c) (r.SS C a) (r.SS C b)
  | .Assign [.Name x _] e _ => match idx1 C x with
    | some i => if isComp e then stuckS else sAsg (r.E C (mutOf C x) e) (gSet i)
    | none => stuckS
  | _ => stuckS
def compN (G : Gd) : Nat → Cm
  | 0 => ⟨fun _ _ _ => stuckE, fun _ _ => stuckT, fun _ _ _ => stuckA, fun _ _ _ => stuckI, fun _ _ => stuckS, fun _ _ => stuckS⟩
  | n + 1 => let r := compN G n
    ⟨hStepE G r, hStepT r, stepA r, fun _ _ _ => stuckI, hStepS r, stepSS r⟩
def hotD : Nat := 24
/-- try: body, except x as n: suite -/
def tryAs (G : Gd) (r : Cm) (C : Cc) (x n : Str) (body suite : List Stmt) : DS :=
  if exOk G C x && C.sc.names.lookup n == some NameKind.local then match C.N.findIdx? (· == n) with
    | some i => sTryAs (subG G) (r.SS C body) x i ((compN G hotD).SS C suite)
    | none => stuckS
  else stuckS
def stepS (G : Gd) (r : Cm) (C : Cc) (st : Stmt) : DS := match st with
  | .Raise (some (.Call (.Name x _) [.Constant (.str _) _ _] [] _)) none _ => if exOk G C x = true then sRaise x else stuckS
  | .Try body [.ExceptHandler (some (.Name x _)) (some n) (b₀ :: suite) _] [] [] _ => tryAs G r C x n body (b₀ :: suite)
  | .Try body (h₀ :: hds) [] [] _ => match hdlS G C (h₀ :: hds) with
    | some l => sTry (subG G) (r.SS C body) l
    | none => stuckS
  | .Pass _ => sNext
  | .Expr (.Constant (.str _) _ _) _ => sNext
  | .Expr e _ => if isComp e then stuckS else sExpr (r.E C 0 e)
  | .Return (some e) _ => sRet (r.E C C.mret e)
  | .If c a b _ => sIf (r.T C c) (r.SS C a) (r.SS C b)
  | .For tg iter body [] _ => match tgtOf C.N C.ts tg with
    | some t => if notSet iter then sFor (r.I C tg iter) t (r.SS C body) else stuckS
    | none => stuckS
  | .While c body [] _ => sWhile (r.T C c) (r.SS C body)
  | .Assign [tg] e _ => asgS r C tg e
  | _ => stuckS
def comp (G : Gd) : Nat → Cm
  | 0 => ⟨fun _ _ _ => stuckE, fun _ _ => stuckT, fun _ _ _ => stuckA, fun _ _ _ => stuckI, fun _ _ => stuckS, fun _ _ => stuckS⟩
  | n + 1 => let r := comp G n
    ⟨stepE G r, stepT r, stepA r, stepI r, stepS G r, stepSS r⟩
end Dn
end
section
set_option Elab.async false
set_option linter.all false
set_option maxRecDepth 100000
set_option maxHeartbeats 4000000
namespace Dn
open PySem PySem.Spec PyProof.Rows L2

/-! ### the text does what is told -/
/-- the defs of a table keep their promises -/
def OwnsOk (Γ : Calls) (tab : List (Str × (Nat × Nat))) (k : Nat) (P : Program) (w : World) (K : PySem.W.Frag) (mg : Str → Option Value) (base : Heap) : Prop :=
  ∀ x i n, tab.lookup x = some (i, n) → ∃ f fd ps, FnOk P w K mg base (L2.CX P w) k f fd ps (spI ⟨P, w, K, mg⟩ n (Γ i)) ∧ mg x = some (.ref f) ∧ PySem.W.keepIn K (.ref f) = true ∧ Binds K fd ps []
def HotsOk (Γ : Calls) (tab : List (Str × (Nat × Nat))) (k : Nat) (P : Program) (w : World) (K : PySem.W.Frag) (mg : Str → Option Value) (base : Heap) : Prop :=
  ∀ x i n, tab.lookup x = some (i, n) → ∃ f fd ps, FnN P w K mg base k f fd ps (spI ⟨P, w, K, mg⟩ n (Γ i)) ∧ mg x = some (.ref f) ∧ PySem.W.keepIn K (.ref f) = true ∧ Binds K fd ps []
/-- errors as values -/
structure ErrsOk (xs : List Str) (P : Program) (w : World) (K : PySem.W.Frag) (mg : Str → Option Value) : Prop where
  exy : ∀ x, xs.contains x = true → ExcY K mg x
  kit : ∀ c y, xs.contains c = true → xs.contains y = true → PySem.W.kitOne K (excV ⟨P, w, K, mg⟩ c) (excV ⟨P, w, K, mg⟩ y) = some (decide (c = y) || decide (y = ("TrickError" : Str)))
  kitV : ∀ c, xs.contains c = true → PySem.W.kitOne K (excV ⟨P, w, K, mg⟩ c) (.type "ValueError") = some true
structure ModOk (G : Gd) (k : Nat) (P : Program) (w : World) (K : PySem.W.Frag) (mg : Str → Option Value) (base : Heap) : Prop where
  own : OwnsOk G.Γ G.own k P w K mg base
  own2 : OwnsOk G.Γ G.own2 k P w K mg base
  fv : OwnsOk G.Γ G.fv k P w K mg base
  hot : HotsOk G.Γ G.hot k P w K mg base
  ers : ErrsOk G.exv P w K mg
  con : ∀ x w', G.con.lookup x = some w' → ∃ u v, mg x = some u ∧ RelV v u ∧ ∀ ρ H, RW ⟨P, w, K, mg⟩ ρ H w' v
  free : ∀ x, x ∈ [("len" : Str), "int", "isinstance", "list", "tuple", "min", "max", "all", "any", "bool", "str", "range", "enumerate", "zip", "sorted", "set", "ValueError"] → mg x = none
  exc : ∀ x, isX G x = true → ExcK K mg x
  sub : ∀ c y, isX G c = true → isX G y = true → PySem.W.exmOne K (excV ⟨P, w, K, mg⟩ c) (excV ⟨P, w, K, mg⟩ y) = some (decide (c = y) || decide (y = ("TrickError" : Str)))
/-- where a def's body stands -/
structure FnX (X : Cx) : Prop where
  kind : X.env.scope.kind = .function
  ex : X.ex = []
  st : X.stack = X.env :: X.outer
  fr : X.env.frame = some X.env.locals
structure Ck (G : Gd) (k : Nat) (C : Cc) (X : Cx) (Wx : WX) : Prop where
  sc : X.env.scope = C.sc
  N : X.N = C.N
  nd : C.N.Nodup
  calm : X.calm = true
  tg : TgOk X C.ts
  room : Room k X.A
  tk : Takes X Wx
  mod : ModOk G k X.prog X.w X.K X.mg X.base
structure CmOk (G : Gd) (k : Nat) (r : Cm) : Prop where
  E : ∀ C X Wx m e, Ck G k C X Wx → PE X e (tE (mdOf X) Wx (r.E C m e))
  T : ∀ C X Wx e, Ck G k C X Wx → PT X e (tT (mdOf X) Wx (r.T C e))
  TW : ∀ C X Wx op es p, Ck G k C X Wx → PW X (.BoolOp op es p) (tT (mdOf X) Wx (r.T C (.BoolOp op es p)))
  A : ∀ C X Wx ms es, Ck G k C X Wx → PA X es (tA (mdOf X) Wx (r.A C ms es))
  I : ∀ C X Wx tg e, Ck G k C X Wx → PI X tg e (tI (mdOf X) Wx (r.I C tg e))
  S : ∀ C X Wx s, Ck G k C X Wx → PassesOwn (model X.prog X.w) X.A X.env X.xe → FnX X → PS X s (tS (mdOf X) Wx (r.S C s))
  SS : ∀ C X Wx s, Ck G k C X Wx → PassesOwn (model X.prog X.w) X.A X.env X.xe → FnX X → PSs X s (tS (mdOf X) Wx (r.SS C s))
section
variable {X : Cx} {Wx : WX} {G : Gd} {k : Nat} {C : Cc} {r : Cm}
theorem k_E {e : Expr} : PE X e (tE (mdOf X) Wx stuckE) := ⟨fun pins s σ H Q I ⟨ρ, env, ah, re, rh, o⟩ => o.elim⟩
theorem k_T {e : Expr} : PT X e (tT (mdOf X) Wx stuckT) := ⟨fun pins s σ H Q I ⟨ρ, env, ah, re, rh, o⟩ => o.elim⟩
theorem k_W {e : Expr} : PW X e (tT (mdOf X) Wx stuckT) := ⟨fun _ pins s σ H Q I ⟨ρ, env, ah, re, rh, o⟩ => o.elim⟩
theorem k_A {es : List Expr} : PA X es (tA (mdOf X) Wx stuckA) := ⟨fun _ pins s σ H Q I ⟨ρ, env, ah, re, rh, o⟩ => o.elim⟩
theorem k_I {tg e : Expr} : PI X tg e (tI (mdOf X) Wx stuckI) := ⟨fun pins s σ H Q I ⟨ρ, env, ah, re, rh, o⟩ => o.elim⟩
theorem k_S {s : Stmt} : PS X s (tS (mdOf X) Wx stuckS) := ⟨fun pins s σ H D I ⟨ρ, env, ah, re, rh, o⟩ => o.elim⟩
theorem k_SS {s : List Stmt} : PSs X s (tS (mdOf X) Wx stuckS) := ⟨fun pins s σ H D I ⟨ρ, env, ah, re, rh, o⟩ => o.elim⟩
theorem Ck.gl (c : Ck G k C X Wx) {x : Str} (h : isGl C x = true) : Gl X x := by
  show X.env.scope.names.lookup x = _
  rw [c.sc]
  exact beq_iff_eq.mp h
theorem Ck.vis (c : Ck G k C X Wx) {x : Str} (h : isVis C x = true) : Vis X.env.scope x := by
  unfold isVis at h
  rw [Bool.or_eq_true_iff, Bool.or_eq_true_iff] at h
  unfold Vis
  rw [c.sc]
  rcases h with (h | h) | h
  · exact .inl (beq_iff_eq.mp h)
  · exact .inr (.inl (beq_iff_eq.mp h))
  · exact .inr (.inr (beq_iff_eq.mp h))
theorem k_name (c : Ck G k C X Wx) (x : Str) (p : Pos) : PE X (.Name x p) (tE (mdOf X) Wx (nameE G C x)) := by
  unfold nameE
  split
  · exact k_E
  · rename_i hd
    have hd : (x == ("__debug__" : Str)) = false ∧ (x == ("__classdict__" : Str)) = false := by
      cases h1 : (x == ("__debug__" : Str)) <;> cases h2 : (x == ("__classdict__" : Str)) <;> simp [h1, h2] at hd ⊢
    split
    · rename_i hv
      split
      · rename_i i hi
        exact r_var (by rw [c.N]; exact idx_at hi) (c.vis hv) hd.1 hd.2
      · exact k_E
    · split
      · rename_i hg
        split
        · rename_i w hw
          obtain ⟨u, v, h1, h2, h3⟩ := c.mod.con x w hw
          exact r_glob (c.gl hg) h1 h2 h3 hd.1
        · exact k_E
      · exact k_E
theorem k_const (cn : Const) (j : Nat) (p : Pos) : PE X (.Constant cn j p) (tE (mdOf X) Wx (constE cn)) := by
  cases cn <;> first | exact r_int | exact r_bl | exact r_non | exact r_str | exact k_E
theorem Ck.un (c : Ck G k C X Wx) : X.A.units + 65 < cLine := by have := c.room.un; omega
theorem k_cmp (c : Ck G k C X Wx) (op : CmpOp) : OpOk X (compareOp op) (cmpV op) := by
  have := c.un
  cases op
  · exact ok_eq (by omega)
  · exact ok_ne (by omega)
  · exact ok_lt (by omega)
  · exact ok_le
  · exact ok_gt
  · exact ok_ge
  · exact ok_is
  · exact ok_isnt
  · exact ok_inW this
  · exact ok_notInW this
theorem k_bin {op : Operator} {m : Nat} {a b : Expr} {p : Pos} {fa fb : DE} (ha : PE X a (tE (mdOf X) Wx fa)) (hb : PE X b (tE (mdOf X) Wx fb)) : PE X (.BinOp a op b p) (tE (mdOf X) Wx (binE op m fa fb)) := by
  cases op <;> first | exact r_add ha hb | exact r_bin ok_sub ha hb | exact r_bin ok_mul ha hb | exact r_bin ok_mod ha hb | exact r_bin ok_fdiv ha hb | exact r_bin ok_pow ha hb | exact k_E
theorem k_ix {e : Expr} (h : plainIxB e = true) : PlainIx e := by
  intro o i
  cases e with
  | Constant c j p => cases c <;> first | rfl | cases h
  | _ => first | rfl | cases h
theorem k_range (c : Ck G k C X Wx) {args es : List Expr} (h : rangeArg C args = some es) : ∃ y p pos, args = [.Call (.Name y p) es [] pos] ∧ y = ("range" : Str) ∧ isGl C y = true ∧ noStar es = true ∧ (es.length = 1 ∨ es.length = 2) := by
  unfold rangeArg at h
  split at h
  · split at h
    · rename_i hc
      cases h
      simp only [Bool.and_eq_true_iff, Bool.or_eq_true_iff, beq_iff_eq] at hc
      exact ⟨_, _, _, rfl, hc.1.1.1, hc.1.1.2, hc.1.2, hc.2⟩
    · cases h
  · cases h
theorem k_isi {args : List Expr} {e : Expr} {T : BT} (h : isiArg C args = some (e, T)) : ∃ p, args = [e, .Name (PySem.Str.ofString T.name) p] ∧ isGl C (PySem.Str.ofString T.name) = true ∧ noStar [e] = true := by
  unfold isiArg at h
  split at h
  · split at h
    · rename_i hc
      rw [Bool.and_eq_true_iff] at hc
      obtain ⟨T', h1, h2⟩ := Option.map_eq_some_iff.mp h
      cases h2
      rename_i y p
      have e : y = PySem.Str.ofString T.name := by
        unfold btOf at h1
        repeat' (first | (split at h1; · (rename_i q; cases h1; exact beq_iff_eq.mp q)) | cases h1)
      subst e
      exact ⟨p, rfl, hc.1, hc.2⟩
    · cases h
  · cases h
theorem k_set {args : List Expr} {a : Expr} (h : setArg C args = some a) : ∃ p pos, args = [.Call (.Name ("set" : Str) p) [a] [] pos] ∧ isGl C ("set" : Str) = true ∧ noStar [a] = true := by
  unfold setArg at h
  split at h
  · split at h
    · rename_i hc
      cases h
      simp only [Bool.and_eq_true_iff, beq_iff_eq] at hc
      obtain ⟨⟨h1, h2⟩, h3⟩ := hc
      subst h1
      exact ⟨_, _, rfl, h2, h3⟩
    · cases h
  · cases h
theorem k_lv {args : List Expr} {o : Expr} (h : lvArg args = some o) : ∃ apos cpos, args = [.Call (.Attribute o "values" apos) [] [] cpos] ∧ plainBase o = true ∧ (apos.endLine == cpos.line) = true := by
  unfold lvArg at h
  split at h
  · split at h
    · rename_i hc
      cases h
      simp only [Bool.and_eq_true_iff] at hc
      obtain ⟨⟨h1, h2⟩, h3⟩ := hc
      have h1 := beq_iff_eq.mp h1
      subst h1
      exact ⟨_, _, rfl, h2, h3⟩
    · cases h
  · cases h
def biName : Bi → Str
  | .len => "len"
  | .int => "int"
  | .isi => "isinstance"
  | .list => "list"
  | .tuple => "tuple"
  | .min => "min"
  | .max => "max"
  | .all => "all"
  | .any => "any"
  | .bool => "bool"
  | .str => "str"
  | .sorted => "sorted"
theorem bi_free0 {x : Str} {b : Bi} (h : biOf0 x = some b) : x = biName b := by
  unfold biOf0 at h
  repeat' (first | (split at h; · (rename_i q; cases h; exact beq_iff_eq.mp q)) | cases h)
theorem bi_free {x : Str} {b : Bi} (h : biOf x = some b) : x = biName b := by
  unfold biOf at h
  split at h
  · rename_i q
    cases h
    exact beq_iff_eq.mp q
  · exact bi_free0 h
theorem Ck.mgfree (c : Ck G k C X Wx) {x : Str} (h : x ∈ [("len" : Str), "int", "isinstance", "list", "tuple", "min", "max", "all", "any", "bool", "str", "range", "enumerate", "zip", "sorted", "set", "ValueError"]) : X.mg x = none := c.mod.free x h
theorem k_blt (R : CmOk G k r) (c : Ck G k C X Wx) {m : Nat} {b : Bi} {x : Str} {args : List Expr} {p pos : Pos} (h : biOf x = some b) (hg : isGl C x = true) (hs : noStar args = true) : PE X (.Call (.Name x p) args [] pos) (tE (mdOf X) Wx (bltE r C m b args)) := by
  have ex := bi_free h
  unfold bltE
  split
  · exact k_E
  · rename_i e es
    have hA := R.A C X Wx [] (e :: es) c
    have g := c.gl hg
    cases b
    case len =>
      have ex : x = ("len" : Str) := ex
      subst ex
      simp only
      split
      · rename_i a ha
        obtain ⟨p2, q2, e1, e2, e3⟩ := k_set ha
        rw [e1]
        exact r_lenSet g (c.mgfree (by simp)) (c.gl e2) (c.mgfree (by simp)) (R.E C X Wx 0 a c) c.calm e3
      · exact r_callB ok_lenW g (c.mgfree (by simp)) (by decide +kernel) hA (by decide) (by decide) hs
    case int => have ex : x = ("int" : Str) := ex; subst ex; exact r_callTy ok_int g (c.mgfree (by simp)) (by decide +kernel) hA (by decide) (by decide) hs
    case bool => have ex : x = ("bool" : Str) := ex; subst ex; exact r_callTy ok_bool g (c.mgfree (by simp)) (by decide +kernel) hA (by decide) (by decide) hs
    case str => have ex : x = ("str" : Str) := ex; subst ex; exact r_callTy ok_str g (c.mgfree (by simp)) (by decide +kernel) hA (by decide) (by decide) hs
    case min =>
      have ex : x = ("min" : Str) := ex
      subst ex
      simp only
      split
      · exact r_callB (ok_minL (by have := c.un; omega) c.calm) g (c.mgfree (by simp)) (by decide +kernel) hA (by decide) (by decide) hs
      · exact r_callB (ok_min2 c.calm) g (c.mgfree (by simp)) (by decide +kernel) hA (by decide) (by decide) hs
    case sorted =>
      have ex : x = ("sorted" : Str) := ex
      subst ex
      simp only
      split
      · rename_i a ha
        obtain ⟨p2, q2, e1, e2, e3⟩ := k_set ha
        rw [e1]
        exact r_sortSet g (c.mgfree (by simp)) (c.gl e2) (c.mgfree (by simp)) (R.E C X Wx 0 a c) c.calm e3
      · exact r_callBL (ok_sorted (by have := c.un; omega) c.calm) g (c.mgfree (by simp)) (by decide +kernel) hA (by decide) (by decide) hs
    case max => have ex : x = ("max" : Str) := ex; subst ex; exact r_callB (ok_max2 c.calm) g (c.mgfree (by simp)) (by decide +kernel) hA (by decide) (by decide) hs
    case all => have ex : x = ("all" : Str) := ex; subst ex; exact r_callB (ok_all c.calm) g (c.mgfree (by simp)) (by decide +kernel) hA (by decide) (by decide) hs
    case any => have ex : x = ("any" : Str) := ex; subst ex; exact r_callB (ok_any c.calm) g (c.mgfree (by simp)) (by decide +kernel) hA (by decide) (by decide) hs
    case tuple =>
      have ex : x = ("tuple" : Str) := ex
      subst ex
      simp only
      split
      · rename_i es' hr
        obtain ⟨y, p1, p2, e1, e2, e3, e4, e5⟩ := k_range c hr
        subst e2
        rw [e1]
        exact r_tupRg c.calm g (c.mgfree (by simp)) (c.mgfree (by simp)) (c.gl e3) (R.A C X Wx [] es' c) e4 e5
      · exact r_callTy ok_tuple g (c.mgfree (by simp)) (by decide +kernel) hA (by decide) (by decide) hs
    case list =>
      have ex : x = ("list" : Str) := ex
      subst ex
      simp only
      split
      · rename_i es' hr
        obtain ⟨y, p1, p2, e1, e2, e3, e4, e5⟩ := k_range c hr
        subst e2
        rw [e1]
        exact r_listRg c.calm g (c.mgfree (by simp)) (c.mgfree (by simp)) (c.gl e3) (R.A C X Wx [] es' c) e4 e5
      · split
        · rename_i o ho
          obtain ⟨apos, cpos, e1, e2, e3⟩ := k_lv ho
          rw [e1]
          exact r_listVals g (c.mgfree (by simp)) (R.E C X Wx 0 o c) c.calm e2 e3
        · exact r_callTyL ok_list g (c.mgfree (by simp)) (by decide +kernel) hA (by decide) (by decide) hs
    case isi =>
      have ex : x = ("isinstance" : Str) := ex
      subst ex
      simp only
      split
      · rename_i e' T hi
        obtain ⟨p1, e1, e2, e3⟩ := k_isi hi
        rw [e1]
        exact r_isi (R.E C X Wx 0 e' c) g (c.mgfree (by simp)) (c.gl e2) (c.mgfree (by cases T <;> decide)) e3
      · exact k_E
theorem ownOf2_or {G : Gd} {m : Nat} {x : Str} {p : Nat × Nat} (h : ownOf2 G m x = some p) : G.own2.lookup x = some p ∨ G.own.lookup x = some p := by
  unfold ownOf2 at h
  split at h
  · split at h
    · rename_i q e
      cases h
      exact .inl e
    · exact .inr h
  · exact .inr h
theorem isx_ok {G : Gd} {C : Cc} {args : List Expr} {e : Expr} {o : Option Str} (h : isxArg G C args = some (e, o)) : ∃ y p, args = [e, .Name y p] ∧ isGl C y = true ∧ noStar [e] = true ∧ (y == ("__debug__" : Str)) = false ∧ ((o = some y ∧ G.exv.contains y = true) ∨ (o = none ∧ y = ("ValueError" : Str))) := by
  unfold isxArg at h
  split at h
  · rename_i e' y p
    split at h
    · rename_i hc
      simp only [Bool.and_eq_true_iff] at hc
      obtain ⟨⟨h1, h2⟩, h3⟩ := hc
      have h3 : (y == ("__debug__" : Str)) = false := by simpa using h3
      split at h
      · rename_i hy
        cases h
        exact ⟨y, p, rfl, h1, h2, h3, .inl ⟨rfl, hy⟩⟩
      · split at h
        · rename_i hv
          cases h
          rw [Bool.and_eq_true_iff] at hv
          exact ⟨y, p, rfl, h1, h2, h3, .inr ⟨rfl, beq_iff_eq.mp hv.1⟩⟩
        · cases h
    · cases h
  · cases h
/-- isinstance of an error, in any context -/
theorem k_isx {X : Cx} {Wx : WX} {G : Gd} {k : Nat} {C : Cc} {r : Cm} (hgl : ∀ x, isGl C x = true → Gl X x) (mod : ModOk G k X.prog X.w X.K X.mg X.base) (hE : ∀ e, PE X e (tE (mdOf X) Wx (r.E C 0 e))) {args : List Expr} {q : Expr × Option Str} {p pos : Pos} (hg : isGl C "isinstance" = true) (h : isxArg G C args = some q) :
    PE X (.Call (.Name "isinstance" p) args [] pos) (tE (mdOf X) Wx (isxE G r C q)) := by
  obtain ⟨e, o⟩ := q
  obtain ⟨y, p1, rfl, h1, h2, h3, h4⟩ := isx_ok h
  have hm : X.mg "isinstance" = none := mod.free _ (by simp)
  rcases h4 with ⟨rfl, hy⟩ | ⟨rfl, rfl⟩
  · obtain ⟨D, gD, _⟩ := mod.ers.exy y hy
    refine r_isX (c := .ref D) (cv := .ref D) (hE e) (hgl _ hg) hm (pe_glob (hgl _ h1) gD rfl h3) (fun u z => z) (fun x b hb => ?_) h2
    unfold subI at hb
    split at hb
    · rename_i hc
      rw [Bool.and_eq_true_iff] at hc
      cases hb
      refine ⟨mod.ers.exy x hc.1, ?_⟩
      have := mod.ers.kit x y hc.1 hc.2
      rw [excV_at (M := mdOf X) (x := y) gD] at this
      exact this
    · cases hb
  · refine r_isX (c := .ty "ValueError") (cv := .type "ValueError") (hE e) (hgl _ hg) hm (pe_bltn (hgl _ h1) (mod.free _ (by simp)) (by decide +kernel) rfl (by decide) (by decide)) (fun u z => z) (fun x b hb => ?_) h2
    unfold subVE at hb
    split at hb
    · rename_i hc
      cases hb
      exact ⟨mod.ers.exy x hc, mod.ers.kitV x hc⟩
    · cases hb
theorem k_other (R : CmOk G k r) (c : Ck G k C X Wx) {m : Nat} {x : Str} {args : List Expr} {p pos : Pos} (h1 : isGl C x = true) (h2 : noStar args = true) (h3 : (x == ("__debug__" : Str)) = false) : PE X (.Call (.Name x p) args [] pos) (tE (mdOf X) Wx (otherE G r C m x args)) := by
  unfold otherE
  split
  · rename_i hx
    split
    · exact r_mkErr (c.mod.ers.exy x hx) (c.gl h1) h3 (R.E C X Wx 0 _ c) h2
    · exact k_E
  · split
    · rename_i hx
      rw [Bool.and_eq_true_iff] at hx
      have ex := beq_iff_eq.mp hx.1
      subst ex
      split
      · rename_i q hq
        exact k_isx (fun x h => c.gl h) c.mod (fun e => R.E C X Wx 0 e c) h1 hq
      · exact k_E
    · split
      · rename_i hx
        rw [Bool.and_eq_true_iff] at hx
        have ex := beq_iff_eq.mp hx.2
        subst ex
        split
        · exact r_strE (by have := c.un; omega) (fun y hy => c.mod.ers.exy y hy) (R.E C X Wx 0 _ c) (c.gl h1) (c.mgfree (by simp)) h2
        · exact k_E
      · split
        · rename_i b hb
          exact k_blt R c hb h1 h2
        · exact k_E
theorem k_call (R : CmOk G k r) (c : Ck G k C X Wx) {m : Nat} {x : Str} {args : List Expr} {p pos : Pos} : PE X (.Call (.Name x p) args [] pos) (tE (mdOf X) Wx (callE G r C m x args)) := by
  unfold callE
  split
  · rename_i hc
    rw [Bool.and_eq_true_iff] at hc
    obtain ⟨h2, h3⟩ := hc
    have h3 : (x == ("__debug__" : Str)) = false := by simpa using h3
    split
    · rename_i h1
      split
      · rename_i i n ho
        obtain ⟨f, fd, ps, F, hm, hk, hb⟩ := (ownOf2_or ho).elim (c.mod.own2 x i n) (c.mod.own x i n)
        split
        · split
          · rename_i hn
            subst hn
            exact r_own0 F c.room (c.gl h1) hm hk hb c.tk h3
          · exact k_E
        · exact r_own F c.room (c.gl h1) hm hk hb c.tk (R.A C X Wx [] _ c) h3 h2
      · exact k_other R c h1 h2 h3
    · split
      · rename_i hv
        rw [Bool.and_eq_true_iff] at hv
        have hcd : (x == ("__classdict__" : Str)) = false := by simpa using hv.2
        split
        · rename_i j _ _ hj
          exact r_callV (by rw [c.N]; exact idx_at hj) (c.vis hv.1) c.room c.tk c.mod.fv (R.A C X Wx [] _ c) h3 hcd h2
        · exact k_E
      · exact k_E
  · exact k_E
def mbName : Mb → Str
  | .append => "append"
  | .insert => "insert"
  | .pop => "pop"
  | .reverse => "reverse"
  | .count => "count"
  | .index => "index"
  | .upper => "upper"
  | .get => "get"
  | .setd => "setdefault"
  | .join => "join"
  | .split => "split"
  | .update => "update"
theorem mb_name0 {x : Str} {b : Mb} (h : mbOf0 x = some b) : x = mbName b := by
  unfold mbOf0 at h
  repeat' (first | (split at h; · (rename_i q; cases h; exact beq_iff_eq.mp q)) | cases h)
theorem mb_name {x : Str} {b : Mb} (h : mbOf x = some b) : x = mbName b := by
  unfold mbOf at h
  split at h
  · rename_i q
    cases h
    exact beq_iff_eq.mp q
  · exact mb_name0 h
theorem k_meth (R : CmOk G k r) (c : Ck G k C X Wx) {o : Expr} {x : Str} {args : List Expr} {apos cpos : Pos} : PE X (.Call (.Attribute o x apos) args [] cpos) (tE (mdOf X) Wx (methE r C o x args (apos.endLine == cpos.line))) := by
  unfold methE
  split
  · rename_i hc
    simp only [Bool.and_eq_true_iff] at hc
    obtain ⟨⟨⟨h1, h2⟩, h3⟩, h4⟩ := hc
    have h4 := of_decide_eq_true h4
    have hO := R.E C X Wx 0 o c
    split
    · rename_i e es hb _
      have hA := R.A C X Wx [] (e :: es) c
      have ex : x = ("append" : Str) := mb_name hb; subst ex
      exact r_mt F.plainAttrs_list F.slot_list_append F.type_list_append ok_append hO hA h1 h4 h2 h3
    · rename_i e es hb _
      have hA := R.A C X Wx [] (e :: es) c
      have ex : x = ("insert" : Str) := mb_name hb; subst ex
      exact r_mt F.plainAttrs_list F.slot_list_insert F.type_list_insert ok_insert hO hA h1 h4 h2 h3
    · rename_i e es hb _
      have hA := R.A C X Wx [] (e :: es) c
      have ex : x = ("pop" : Str) := mb_name hb; subst ex
      exact r_mt F.plainAttrs_list F.slot_list_pop F.type_list_pop ok_pop hO hA h1 h4 h2 h3
    · rename_i e es hb _
      have hA := R.A C X Wx [] (e :: es) c
      have ex : x = ("count" : Str) := mb_name hb; subst ex
      exact r_mt F.plainAttrs_list F.slot_list_count F.type_list_count (ok_count c.un) hO hA h1 h4 h2 h3
    · rename_i e es hb _
      have hA := R.A C X Wx [] (e :: es) c
      have ex : x = ("index" : Str) := mb_name hb; subst ex
      exact r_mt F.plainAttrs_tuple F.slot_tuple_index F.type_tuple_index ok_index hO hA h1 h4 h2 h3
    · rename_i e es hb _
      have hA := R.A C X Wx [] (e :: es) c
      have ex : x = ("get" : Str) := mb_name hb; subst ex
      exact r_mtD F.slot_dict_get F.type_dict_get (ok_get c.un) hO hA h1 h4 h2 h3
    · rename_i e es hb _
      have hA := R.A C X Wx [] (e :: es) c
      have ex : x = ("setdefault" : Str) := mb_name hb; subst ex
      exact r_mtD F.slot_dict_setdefault F.type_dict_setdefault (ok_setd c.un) hO hA h1 h4 h2 h3
    · rename_i e es hb _
      have hA := R.A C X Wx [] (e :: es) c
      have ex : x = ("update" : Str) := mb_name hb; subst ex
      exact r_mtD F.slot_dict_update F.type_dict_update ok_upd hO hA h1 h4 h2 h3
    · rename_i e es hb _
      have hA := R.A C X Wx [] (e :: es) c
      have ex : x = ("join" : Str) := mb_name hb; subst ex
      exact r_mt F.plainAttrs_str F.slot_str_join F.type_str_join ok_join hO hA h1 h4 h2 h3
    · rename_i e es hb _
      have hA := R.A C X Wx [] (e :: es) c
      have ex : x = ("split" : Str) := mb_name hb; subst ex
      exact r_mt F.plainAttrs_str F.slot_str_split F.type_str_split ok_split hO hA h1 h4 h2 h3
    · rename_i hb _
      have ex : x = ("reverse" : Str) := mb_name hb; subst ex
      exact r_mt0 F.plainAttrs_list F.slot_list_reverse F.type_list_reverse ok_reverse hO h1 h2
    · rename_i hb _
      have ex : x = ("upper" : Str) := mb_name hb; subst ex
      exact r_mt0 F.plainAttrs_str F.slot_str_upper F.type_str_upper ok_upper hO h1 h2
    · exact k_E
  · exact k_E
end
end Dn
end
section
set_option Elab.async false
set_option linter.all false
set_option maxRecDepth 100000
set_option maxHeartbeats 4000000
namespace Dn
open PySem PySem.Spec PyProof.Rows L2
section
variable {X : Cx} {Wx : WX} {G : Gd} {k : Nat} {C : Cc} {r : Cm}
theorem relab_eq {scope : Scope} {env : PySem.Env} : relabel scope env = relab scope env.scope := rfl
theorem relab_cell {sc : Scope} : ∀ {names : List (Str × NameKind)} {x : Str}, names.lookup x = some .cell →
    (names.map fun (n, k) => if (k == NameKind.free && sc.kind == .function && sc.names.lookup n == some .cell) then (n, NameKind.cell) else (n, k)).lookup x = some .cell
  | [], _, h => by simp at h
  | (n, k) :: r, x, h => by
    have ih := @relab_cell sc r x
    show List.lookup x ((if (k == NameKind.free && sc.kind == .function && sc.names.lookup n == some .cell) = true then (n, NameKind.cell) else (n, k)) :: _) = _
    cases hx : x == n with
    | true =>
      simp only [List.lookup_cons, hx] at h
      cases h
      simp [List.lookup_cons, hx]
    | false =>
      simp only [List.lookup_cons, hx] at h
      split <;> simp only [List.lookup_cons, hx] <;> exact ih h
theorem relab_local {sc : Scope} : ∀ {names : List (Str × NameKind)} {x : Str}, names.lookup x = some .local →
    (names.map fun (n, k) => if (k == NameKind.free && sc.kind == .function && sc.names.lookup n == some .cell) then (n, NameKind.cell) else (n, k)).lookup x = some .local
  | [], _, h => by simp at h
  | (n, k) :: r, x, h => by
    have ih := @relab_local sc r x
    show List.lookup x ((if (k == NameKind.free && sc.kind == .function && sc.names.lookup n == some .cell) = true then (n, NameKind.cell) else (n, k)) :: _) = _
    cases hx : x == n with
    | true =>
      simp only [List.lookup_cons, hx] at h
      cases h
      simp [List.lookup_cons, hx]
    | false =>
      simp only [List.lookup_cons, hx] at h
      split <;> simp only [List.lookup_cons, hx] <;> exact ih h
theorem Ck.blk (c : Ck G k C X Wx) (scope : Scope) (s : Shared) (H : Hp) (D : Addr) (cl : List (Str × Addr)) (fp : List Addr) : Ck G k (inBlk C scope) (blkAt X scope s H D cl fp) noW where
  sc := by
    show relabel scope X.env = relab scope C.sc
    rw [relab_eq, c.sc]
  N := c.N
  nd := c.nd
  calm := c.calm
  tg := fun x hx => by
    show (Loc (relabel scope X.env) x) ∧ ((scope.names.lookup x == some .cell) = true ∨ (relabel scope X.env).names.lookup x = some .local)
    rw [relab_eq]
    rcases hx with h | h
    · have q : (relab scope X.env.scope).names.lookup x = some .local := relab_local h
      exact ⟨.inl q, .inr q⟩
    · have q : (relab scope X.env.scope).names.lookup x = some .cell := relab_cell h
      have h' : scope.names.lookup x = some .cell := h
      exact ⟨.inr q, .inl (by rw [h']; rfl)⟩
  room := c.room
  tk := fun u s' ⟨a, B, sI, pins, σ, H, cls, d, e, I, nb, up, sky, na, os, ag, w⟩ => w.elim
  mod := c.mod
theorem blkB_ok {N : List Str} {sc scope : Scope} {own : List (Str × Nat)} (h : blkB N sc scope own = true) : BlkOk N sc scope own := by
  unfold blkB at h
  simp only [Bool.and_eq_true_iff] at h
  obtain ⟨⟨⟨⟨h1, h2⟩, h3⟩, h4⟩, h5⟩ := h
  refine ⟨of_decide_eq_true h1, fun y hy => beq_iff_eq.mp (List.all_eq_true.mp h2 y hy), fun p hp => beq_iff_eq.mp (List.all_eq_true.mp h3 p hp), fun y hy e => ?_, fun y hy e => ?_⟩
  · have := List.all_eq_true.mp h4 y hy
    rw [e] at this
    simpa using this
  · have := List.all_eq_true.mp h5 y hy
    rw [Bool.or_eq_true_iff] at this
    rcases this with z | z
    · rcases e with e | e <;> rw [e] at z <;> simp at z
    · rw [Bool.or_eq_true_iff] at z
      rcases z with z | z
      · exact .inl (List.contains_iff_mem.mp z)
      · refine .inr fun hm => ?_
        rw [List.contains_iff_mem.mpr hm] at z
        cases z
theorem k_pts (R : CmOk G k r) (c : Ck G k C X Wx) (ifs : List Expr) : PTs X ifs (tT (mdOf X) Wx (ifsT r C ifs)) := by
  unfold ifsT
  split
  · exact r_pts0
  · exact pts_one (R.T C X Wx _ c)
  · exact ⟨fun pins s σ H Q I ⟨ρ, env, ah, re, rh, o⟩ => o.elim⟩
theorem notSet_ok {e : Expr} {env : PySem.Env} (h : notSet e = true) : ∀ x, foldedSetIterable e env x = pure x := fun x => by
  cases e <;> first | rfl | cases h
theorem k_lc (R : CmOk G k r) (c : Ck G k C X Wx) {m : Nat} {elt : Expr} {gens : List Comprehension} {scope : Scope} {pos : Pos} : PE X (.ListComp elt gens scope pos) (tE (mdOf X) Wx (lcE r C m elt gens scope)) := by
  unfold lcE
  split
  · rename_i tg iter ifs
    split
    · rename_i t ht
      split
      · rename_i hb
        rw [Bool.and_eq_true_iff] at hb
        have ok := blkB_ok hb.1
        refine r_lc (scope := scope) c.calm (by rw [c.N]; exact c.nd) (R.I C X Wx tg iter c) (by rw [c.N, c.sc]; exact ok) (fun s H D cl fp => ?_) (fun s H D cl fp => ?_) (fun s H D cl fp => ?_) (notSet_ok hb.2)
        · have c' := c.blk scope s H D cl fp
          exact tgt_ok (X := blkAt X scope s H D cl fp) c'.calm (by rw [c'.N]; exact c'.nd) c'.tg (by rw [c'.N]; exact ht)
        · exact k_pts R (c.blk scope s H D cl fp) ifs
        · exact R.E _ _ _ _ _ (c.blk scope s H D cl fp)
      · exact k_E
    · exact k_E
  · rename_i tg iter ifs tg1 iter1 ifs1
    split
    · rename_i t t1 ht ht1
      split
      · rename_i hb
        rw [Bool.and_eq_true_iff, Bool.and_eq_true_iff, Bool.and_eq_true_iff] at hb
        have ok := blkB_ok hb.1
        have hv : ∀ i ∈ t1.slots, i ∈ (ownOf C.N scope.names).map (·.2) := fun i hi => by simpa using List.all_eq_true.mp hb.2.2.2 i hi
        refine r_lc2 (scope := scope) c.calm (by rw [c.N]; exact c.nd) (R.I C X Wx tg iter c) (by rw [c.N, c.sc]; exact ok) hv (fun s H D cl fp => ?_) (fun s H D cl fp => ?_) (fun s H D cl fp => ?_) (fun s H D cl fp => ?_) (fun s H D cl fp => ?_) (fun s H D cl fp => ?_) (notSet_ok hb.2.1) (fun env => notSet_ok hb.2.2.1)
        · have c' := c.blk scope s H D cl fp
          exact tgt_ok (X := blkAt X scope s H D cl fp) c'.calm (by rw [c'.N]; exact c'.nd) c'.tg (by rw [c'.N]; exact ht)
        · exact k_pts R (c.blk scope s H D cl fp) ifs
        · exact R.I _ _ _ _ _ (c.blk scope s H D cl fp)
        · have c' := c.blk scope s H D cl fp
          exact tgt_ok (X := blkAt X scope s H D cl fp) c'.calm (by rw [c'.N]; exact c'.nd) c'.tg (by rw [c'.N]; exact ht1)
        · exact k_pts R (c.blk scope s H D cl fp) ifs1
        · exact R.E _ _ _ _ _ (c.blk scope s H D cl fp)
      · exact k_E
    · exact k_E
  · exact k_E
theorem dispP_ok (R : CmOk G k r) (c : Ck G k C X Wx) : ∀ {ks : List (Option Expr)} {vs : List Expr} {ps : List (W × DE)}, dispP r C ks vs = some ps → Disp X Wx ks vs ps
  | [], [], _, h => by cases h; exact .nil
  | [], _ :: _, _, h => by simp [dispP] at h
  | none :: _, _, _, h => by simp [dispP] at h
  | some _ :: _, [], _, h => by simp [dispP] at h
  | some a :: ks, v :: vs, ps, h => by
    simp only [dispP] at h
    cases h1 : keyC a with
    | none => rw [h1] at h; cases h
    | some w =>
      cases h2 : dispP r C ks vs with
      | none => rw [h1, h2] at h; cases h
      | some ps' =>
        rw [h1, h2] at h
        cases h
        exact .cons h1 (R.E C X Wx 0 v c) (dispP_ok R c h2)
theorem nodupB_ok : ∀ {ws : List W}, nodupB ws = true → ws.Nodup
  | [], _ => List.nodup_nil
  | w :: ws, h => by
    rw [nodupB, Bool.and_eq_true_iff] at h
    refine List.nodup_cons.mpr ⟨fun z => ?_, nodupB_ok h.2⟩
    have : (ws.any fun x => W.beq x w) = true := List.any_eq_true.mpr ⟨w, z, W.beq_self w⟩
    rw [this] at h
    cases h.1
theorem k_disp (R : CmOk G k r) (c : Ck G k C X Wx) {ks : List (Option Expr)} {vs : List Expr} {pos : Pos} : PE X (.Dict ks vs pos) (tE (mdOf X) Wx (dispE r C ks vs)) := by
  unfold dispE
  split
  · rename_i ps hp
    split
    · rename_i hok
      unfold dispOk at hok
      rw [Bool.and_eq_true_iff, Bool.and_eq_true_iff] at hok
      refine r_dispN (dispP_ok R c hp) (fun z => ?_) (of_decide_eq_true hok.2.1) (nodupB_ok hok.2.2)
      subst z
      cases hok.1
    · exact k_E
  · exact k_E
theorem k_dc (R : CmOk G k r) (c : Ck G k C X Wx) {kx vx : Expr} {gens : List Comprehension} {scope : Scope} {pos : Pos} : PE X (.DictComp kx vx gens scope pos) (tE (mdOf X) Wx (dcE r C kx vx gens scope)) := by
  unfold dcE
  split
  · rename_i tg iter ifs
    split
    · rename_i t ht
      split
      · rename_i hb
        rw [Bool.and_eq_true_iff] at hb
        have ok := blkB_ok hb.1
        refine r_dc (scope := scope) c.un c.calm (by rw [c.N]; exact c.nd) (R.I C X Wx tg iter c) (by rw [c.N, c.sc]; exact ok) (fun s H D cl fp => ?_) (fun s H D cl fp => ?_) (fun s H D cl fp => ?_) (fun s H D cl fp => ?_) (notSet_ok hb.2)
        · have c' := c.blk scope s H D cl fp
          exact tgt_ok (X := blkAt X scope s H D cl fp) c'.calm (by rw [c'.N]; exact c'.nd) c'.tg (by rw [c'.N]; exact ht)
        · exact k_pts R (c.blk scope s H D cl fp) ifs
        · exact R.E _ _ _ _ _ (c.blk scope s H D cl fp)
        · exact R.E _ _ _ _ _ (c.blk scope s H D cl fp)
      · exact k_E
    · exact k_E
  · exact k_E
/-- name = [..] -/
theorem k_setLc (R : CmOk G k r) (c : Ck G k C X Wx) {m i : Nat} {y : Str} {elt : Expr} {gens : List Comprehension} {scope : Scope} {pos py spos : Pos} (hi : C.N[i]? = some y) (hy : X.env.scope.names.lookup y = some .local)
    (hsw : swapsWith (.ListComp elt gens scope pos) (some (.Name y py)) spos.line X.env = pure true) : PS X (.Assign [.Name y py] (.ListComp elt gens scope pos) spos) (tS (mdOf X) Wx (sAsg (lcE r C m elt gens scope) (gSet i))) := by
  have kS : PS X (.Assign [.Name y py] (.ListComp elt gens scope pos) spos) (tS (mdOf X) Wx (sAsg stuckE (gSet i))) := ⟨fun pins s σ H D I ⟨ρ, env, ah, re, rh, o⟩ => o.elim⟩
  unfold lcE
  split
  · rename_i tg iter ifs
    split
    · rename_i t ht
      split
      · rename_i hb
        rw [Bool.and_eq_true_iff] at hb
        have ok := blkB_ok hb.1
        refine r_setLc (scope := scope) c.calm (by rw [c.N]; exact c.nd) (by rw [c.N]; exact hi) hy hsw (R.I C X Wx tg iter c) (by rw [c.N, c.sc]; exact ok) (fun s H D cl fp => ?_) (fun s H D cl fp => ?_) (fun s H D cl fp => ?_) (notSet_ok hb.2)
        · have c' := c.blk scope s H D cl fp
          exact tgt_ok (X := blkAt X scope s H D cl fp) c'.calm (by rw [c'.N]; exact c'.nd) c'.tg (by rw [c'.N]; exact ht)
        · exact k_pts R (c.blk scope s H D cl fp) ifs
        · exact R.E _ _ _ _ _ (c.blk scope s H D cl fp)
      · exact kS
    · exact kS
  · rename_i tg iter ifs tg1 iter1 ifs1
    split
    · rename_i t t1 ht ht1
      split
      · rename_i hb
        rw [Bool.and_eq_true_iff, Bool.and_eq_true_iff, Bool.and_eq_true_iff] at hb
        have ok := blkB_ok hb.1
        have hv : ∀ i ∈ t1.slots, i ∈ (ownOf C.N scope.names).map (·.2) := fun i hi => by simpa using List.all_eq_true.mp hb.2.2.2 i hi
        refine r_setLc2 (scope := scope) c.calm (by rw [c.N]; exact c.nd) (by rw [c.N]; exact hi) hy hsw (R.I C X Wx tg iter c) (by rw [c.N, c.sc]; exact ok) hv (fun s H D cl fp => ?_) (fun s H D cl fp => ?_) (fun s H D cl fp => ?_) (fun s H D cl fp => ?_) (fun s H D cl fp => ?_) (fun s H D cl fp => ?_) (notSet_ok hb.2.1) (fun env => notSet_ok hb.2.2.1)
        · have c' := c.blk scope s H D cl fp
          exact tgt_ok (X := blkAt X scope s H D cl fp) c'.calm (by rw [c'.N]; exact c'.nd) c'.tg (by rw [c'.N]; exact ht)
        · exact k_pts R (c.blk scope s H D cl fp) ifs
        · exact R.I _ _ _ _ _ (c.blk scope s H D cl fp)
        · have c' := c.blk scope s H D cl fp
          exact tgt_ok (X := blkAt X scope s H D cl fp) c'.calm (by rw [c'.N]; exact c'.nd) c'.tg (by rw [c'.N]; exact ht1)
        · exact k_pts R (c.blk scope s H D cl fp) ifs1
        · exact R.E _ _ _ _ _ (c.blk scope s H D cl fp)
      · exact kS
    · exact kS
  · exact kS
theorem k_opt (R : CmOk G k r) (c : Ck G k C X Wx) (o : Option Expr) : PO X o (tO (mdOf X) Wx (optE r C o)) := by
  cases o with
  | none => exact r_oNone
  | some e => exact r_oSome (R.E C X Wx 0 e c)
theorem k_sub (R : CmOk G k r) (c : Ck G k C X Wx) {m : Nat} {a i : Expr} {p : Pos} : PE X (.Subscript a i p) (tE (mdOf X) Wx (subE r C m a i)) := by
  have hA := R.E C X Wx 0 a c
  unfold subE
  split
  · exact r_slice hA (k_opt R c _) (k_opt R c _)
  · exact r_step hA (k_opt R c _) (k_opt R c _) (k_opt R c _)
  · split
    · rename_i hp
      exact r_idx (ok_idxW c.un) hA (R.E C X Wx 0 i c) (k_ix hp)
    · exact k_E
theorem k_stepE (R : CmOk G k r) (c : Ck G k C X Wx) (m : Nat) (e : Expr) : PE X e (tE (mdOf X) Wx (stepE G r C m e)) := by
  have hE := fun m e => R.E C X Wx m e c
  unfold stepE
  split
  · exact k_name c _ _
  · exact k_const _ _ _
  · exact k_bin (hE _ _) (hE _ _)
  · exact r_not (hE _ _)
  · exact r_neg (hE _ _)
  · exact r_dict0
  · rename_i kk vv pp
    cases hk : keyC kk with
    | some w => simp only; exact k_disp R c
    | none => simp only; exact r_disp1 c.un (hE _ _) (hE _ _)
  · exact k_disp R c
  · exact r_and1 (hE _ _)
  · exact r_and (hE _ _) (hE _ _)
  · exact r_or (hE _ _) (hE _ _)
  · split
    · exact k_E
    · rename_i hb
      exact r_cmp (k_cmp c _) (hE _ _) (hE _ _) (by simpa using hb)
  · split
    · exact k_E
    · rename_i hb
      exact r_chain (k_cmp c _) (k_cmp c _) (hE _ _) (hE _ _) (hE _ _) (by simpa using hb)
  · exact r_if (R.T C X Wx _ c) (hE _ _) (hE _ _)
  · split
    · exact r_tup (R.A C X Wx _ _ c)
    · exact k_E
  · split
    · exact r_lst (R.A C X Wx _ _ c)
    · exact k_E
  · exact k_sub R c
  · exact k_call R c
  · exact k_meth R c
  · exact k_lc R c
  · exact k_dc R c
  · exact k_E
theorem valT_ok {e : Expr} (h : valT e = true) {env : PySem.Env} : ∀ whole, isTrue e env whole = (do let v ← whole; standAt e.pos; holding [v] (truthy v)) := fun whole => by
  cases e <;> first | rfl | cases h
theorem k_stepW (R : CmOk G k r) (c : Ck G k C X Wx) (op : BoolOp) (es : List Expr) (p : Pos) : PW X (.BoolOp op es p) (tT (mdOf X) Wx (stepT r C (.BoolOp op es p))) := by
  unfold stepT
  split
  · rename_i h; cases h
  · rename_i op' a p' h
    cases h
    cases op
    · exact r_tand1 (R.T C X Wx _ c)
    · exact r_tor1 (R.T C X Wx _ c)
  · rename_i h
    cases h
    exact r_tand (R.T C X Wx _ c) (R.TW C X Wx _ _ _ c)
  · rename_i h
    cases h
    exact r_tor (R.T C X Wx _ c) (R.TW C X Wx _ _ _ c)
  · rename_i h; cases h
  · rename_i h; cases h
  · exact k_W
theorem k_stepT (R : CmOk G k r) (c : Ck G k C X Wx) (e : Expr) : PT X e (tT (mdOf X) Wx (stepT r C e)) := by
  by_cases hb : ∃ op es p, e = .BoolOp op es p
  · obtain ⟨op, es, p, rfl⟩ := hb
    exact (k_stepW R c op es p).pt
  · unfold stepT
    split
    · exact r_tnot (R.T C X Wx _ c)
    · exact absurd ⟨_, _, _, rfl⟩ hb
    · exact absurd ⟨_, _, _, rfl⟩ hb
    · exact absurd ⟨_, _, _, rfl⟩ hb
    · split
      · exact k_T
      · rename_i hm
        exact r_tcmp (k_cmp c _) (R.E C X Wx _ _ c) (R.E C X Wx _ _ c) (by simpa using hm)
    · split
      · exact k_T
      · rename_i hm
        exact r_tchain (k_cmp c _) (k_cmp c _) (R.E C X Wx _ _ c) (R.E C X Wx _ _ c) (R.E C X Wx _ _ c) (by simpa using hm)
    · split
      · rename_i hv
        exact r_tval (R.E C X Wx _ _ c) (valT_ok hv)
      · exact k_T
theorem k_stepA (R : CmOk G k r) (c : Ck G k C X Wx) (ms : List Nat) (es : List Expr) : PA X es (tA (mdOf X) Wx (stepA r C ms es)) := by
  unfold stepA
  split
  · exact r_nil
  · rename_i e es
    split
    · rename_i hs
      refine r_cons (R.E C X Wx _ _ c) (R.A C X Wx _ _ c) ?_
      cases e <;> first | rfl | cases hs
    · exact k_A
theorem k_enum {tg e a : Expr} (h : enumArg C tg e = some a) : ∃ es kk tp p pos, tg = .Tuple es kk tp ∧ e = .Call (.Name "enumerate" p) [a] [] pos ∧ isGl C "enumerate" = true ∧ noStar [a] = true := by
  unfold enumArg at h
  split at h
  · split at h
    · rename_i hc
      cases h
      simp only [Bool.and_eq_true_iff, beq_iff_eq] at hc
      obtain ⟨⟨h1, h2⟩, h3⟩ := hc
      subst h1
      exact ⟨_, _, _, _, _, rfl, rfl, h2, h3⟩
    · cases h
  · cases h
theorem k_zip {tg e a b : Expr} (h : zipArg C tg e = some (a, b)) : ∃ es kk tp p pos, tg = .Tuple es kk tp ∧ e = .Call (.Name "zip" p) [a, b] [] pos ∧ isGl C "zip" = true ∧ noStar [a, b] = true := by
  unfold zipArg at h
  split at h
  · split at h
    · rename_i hc
      cases h
      simp only [Bool.and_eq_true_iff, beq_iff_eq] at hc
      obtain ⟨⟨h1, h2⟩, h3⟩ := hc
      subst h1
      exact ⟨_, _, _, _, _, rfl, rfl, h2, h3⟩
    · cases h
  · cases h
theorem k_items {tg e o : Expr} (h : itemsArg tg e = some o) : ∃ es kk tp apos cpos, tg = .Tuple es kk tp ∧ e = .Call (.Attribute o ("items" : Str) apos) [] [] cpos ∧ plainBase o = true ∧ (apos.endLine == cpos.line) = true := by
  unfold itemsArg at h
  split at h
  · split at h
    · rename_i hc
      cases h
      simp only [Bool.and_eq_true_iff] at hc
      obtain ⟨⟨h1, h2⟩, h3⟩ := hc
      have h1 := beq_iff_eq.mp h1
      subst h1
      exact ⟨_, _, _, _, _, rfl, rfl, h2, h3⟩
    · cases h
  · cases h
theorem k_vals {e o : Expr} (h : valsArg e = some o) : ∃ apos cpos, e = .Call (.Attribute o ("values" : Str) apos) [] [] cpos ∧ plainBase o = true ∧ (apos.endLine == cpos.line) = true := by
  unfold valsArg at h
  split at h
  · split at h
    · rename_i hc
      cases h
      simp only [Bool.and_eq_true_iff] at hc
      obtain ⟨⟨h1, h2⟩, h3⟩ := hc
      have h1 := beq_iff_eq.mp h1
      subst h1
      exact ⟨_, _, rfl, h2, h3⟩
    · cases h
  · cases h
theorem k_stepI (R : CmOk G k r) (c : Ck G k C X Wx) (tg e : Expr) : PI X tg e (tI (mdOf X) Wx (stepI r C tg e)) := by
  unfold stepI
  split
  · rename_i a h
    obtain ⟨es, kk, tp, p, pos, rfl, rfl, h1, h2⟩ := k_enum h
    exact r_iEn (c.mgfree (by simp)) (c.gl h1) (R.E C X Wx 0 a c) h2
  · split
    · rename_i a b h
      obtain ⟨es, kk, tp, p, pos, rfl, rfl, h1, h2⟩ := k_zip h
      exact r_iZp (c.mgfree (by simp)) (c.gl h1) (R.A C X Wx [] [a, b] c) h2
    · split
      · rename_i es h
        obtain ⟨y, p1, p2, e1, e2, e3, e4, e5⟩ := k_range c h
        cases e1
        subst e2
        exact r_iRg (c.mgfree (by simp)) (c.gl e3) (R.A C X Wx [] es c) e4 e5
      · split
        · rename_i o h
          obtain ⟨es, kk, tp, apos, cpos, rfl, rfl, h1, h2⟩ := k_items h
          exact r_iDi (R.E C X Wx 0 o c) h1 h2
        · split
          · rename_i o h
            obtain ⟨apos, cpos, rfl, h1, h2⟩ := k_vals h
            exact r_iDv (R.E C X Wx 0 o c) h1 h2
          · split
            · exact r_iDk (R.E C X Wx 0 e c)
            · exact r_iE (R.E C X Wx 0 e c)
end
end Dn
end
section
set_option Elab.async false
set_option linter.all false
set_option maxRecDepth 100000
set_option maxHeartbeats 4000000
namespace Dn
open PySem PySem.Spec PyProof.Rows L2
section
variable {X : Cx} {Wx : WX} {G : Gd} {k : Nat} {C : Cc} {r : Cm}
theorem noSt2 {a b : Expr} (h : noStar [a, b] = true) : True := trivial
theorem swp_star {sc : Scope} {ts vs : List Expr} {ns : List Str} (h : swp sc ts vs = some ns) : noStar vs = true := by
  unfold swp at h
  split at h
  · rename_i hc
    rw [Bool.and_eq_true_iff] at hc
    exact hc.2
  · cases h
theorem beq_of {a b : Str} (h : (a == b) = true) : a = b := beq_iff_eq.mp h
theorem k_par (R : CmOk G k r) (c : Ck G k C X Wx) (hk : X.env.scope.kind = .function) {ts vs : List Expr} {ns : List Str} {kt k2 : Nat} {pt pt2 pos : Pos} (h : swp C.sc ts vs = some ns) : PS X (.Assign [.Tuple ts kt pt] (.Tuple vs k2 pt2) pos) (tS (mdOf X) Wx (parS r C ts vs ns)) := by
  have hw : swappedStores [.Tuple ts kt pt] (.Tuple vs k2 pt2) X.env = pure (some ns) := swp_ok hk (by rw [c.sc]; exact h)
  have nd : X.N.Nodup := by rw [c.N]; exact c.nd
  unfold parS
  split
  · split
    · rename_i x' p1 y' p2 a b i j hi hj
      split
      · rename_i hc
        simp only [Bool.and_eq_true_iff] at hc
        obtain ⟨⟨⟨⟨h1, h2⟩, h3⟩, h4⟩, h5⟩ := hc
        have := beq_of h1; subst this
        have := beq_of h2; subst this
        exact r_par2 c.calm nd (by rw [c.N]; exact idx_at hi) (by rw [c.N]; exact idx_at hj) (by simpa using h3) (by rw [c.sc]; exact beq_iff_eq.mp h4) (by rw [c.sc]; exact beq_iff_eq.mp h5) (R.A C X Wx _ _ c) hw
      · exact k_S
    · exact k_S
  · split
    · rename_i x' p1 y' p2 z' p3 a b d i j l hi hj hl
      split
      · rename_i hc
        simp only [Bool.and_eq_true_iff] at hc
        obtain ⟨⟨⟨⟨⟨⟨⟨⟨h1, h2⟩, h3⟩, h4⟩, h5⟩, h6⟩, h7⟩, h8⟩, h9⟩ := hc
        have := beq_of h1; subst this
        have := beq_of h2; subst this
        have := beq_of h3; subst this
        exact r_par3 c.calm nd (by rw [c.N]; exact idx_at hi) (by rw [c.N]; exact idx_at hj) (by rw [c.N]; exact idx_at hl) (by simpa using h4) (by simpa using h5) (by simpa using h6) (by rw [c.sc]; exact beq_iff_eq.mp h7) (by rw [c.sc]; exact beq_iff_eq.mp h8) (by rw [c.sc]; exact beq_iff_eq.mp h9) (R.A C X Wx _ _ c) hw
      · exact k_S
    · exact k_S
  · exact k_S
theorem k_gtup (c : Ck G k C X Wx) {ts : List Expr} {is : List Nat} {kt : Nat} {pt : Pos} (h : namesOf C.N C.ts ts = some is) : PG X (.Tuple ts kt pt) (tG (mdOf X) Wx (gTupW (gNames is))) :=
  r_gtupN c.calm (by rw [c.N]; exact c.nd) c.tg (by rw [c.N]; exact h)
theorem gTupW_nx (is : List Nat) : ∀ (w : W) (env : Env) (h : AH), OnlyNx (gTupW (gNames is) w env h) := fun w env h => by
  unfold gTupW
  cases w <;> first | trivial | exact gNames_nx is _ env h
theorem swapsN {env : PySem.Env} {e : Expr} {y : Str} {py : Pos} {line : Nat} (hk : env.blockKind = .function) : swapsWith e (some (.Name y py)) line env = pure false ∨ ((∃ elt gens scope pos, e = .ListComp elt gens scope pos) ∧ env.scope.names.lookup y = some .local ∧ swapsWith e (some (.Name y py)) line env = pure true) ∨ (isComp e = true ∧ ¬ ∃ elt gens scope pos, e = .ListComp elt gens scope pos) := by
  cases e with
  | ListComp elt gens scope pos =>
    show (pure (env.blockKind == .function && env.kindOf y == some .local && py.line == pos.line && !(scope.names.any fun (n, k) => n == y && (k == .local || k == .cell))) : Sem Bool) = pure false ∨ _
    generalize hb : (env.blockKind == .function && env.kindOf y == some .local && py.line == pos.line && !(scope.names.any fun (n, k) => n == y && (k == .local || k == .cell))) = b
    cases b with
    | false => exact .inl rfl
    | true =>
      refine .inr (.inl ⟨⟨_, _, _, _, rfl⟩, ?_, ?_⟩)
      · simp only [Bool.and_eq_true_iff] at hb
        exact beq_iff_eq.mp hb.1.1.2
      · show (pure (env.blockKind == .function && env.kindOf y == some .local && py.line == pos.line && !(scope.names.any fun (n, k) => n == y && (k == .local || k == .cell))) : Sem Bool) = pure true
        rw [hb]
  | SetComp _ _ _ _ => exact .inr (.inr ⟨rfl, fun ⟨_, _, _, _, z⟩ => nomatch z⟩)
  | DictComp _ _ _ _ _ => exact .inr (.inr ⟨rfl, fun ⟨_, _, _, _, z⟩ => nomatch z⟩)
  | _ => exact .inl rfl
theorem swaps_lc {env : PySem.Env} {elt : Expr} {gens : List Comprehension} {scope : Scope} {pos : Pos} {y : Str} {py : Pos} {line : Nat} : swapsWith (.ListComp elt gens scope pos) (some (.Name y py)) line env = pure false ∨ (env.scope.names.lookup y = some .local ∧ swapsWith (.ListComp elt gens scope pos) (some (.Name y py)) line env = pure true) := by
  show (pure (env.blockKind == .function && env.kindOf y == some .local && py.line == pos.line && !(scope.names.any fun (n, k) => n == y && (k == .local || k == .cell))) : Sem Bool) = pure false ∨ _
  generalize hb : (env.blockKind == .function && env.kindOf y == some .local && py.line == pos.line && !(scope.names.any fun (n, k) => n == y && (k == .local || k == .cell))) = b
  cases b with
  | false => exact .inl rfl
  | true =>
    refine .inr ⟨?_, ?_⟩
    · simp only [Bool.and_eq_true_iff] at hb
      exact beq_iff_eq.mp hb.1.1.2
    · show (pure (env.blockKind == .function && env.kindOf y == some .local && py.line == pos.line && !(scope.names.any fun (n, k) => n == y && (k == .local || k == .cell))) : Sem Bool) = pure true
      rw [hb]
theorem idx1_ok (c : Ck G k C X Wx) {x : Str} {i : Nat} (h : idx1 C x = some i) : C.N[i]? = some x ∧ Loc X.env.scope x ∧ (X.fn x = true ∨ X.env.scope.names.lookup x = some .local) := by
  unfold idx1 at h
  split at h
  · rename_i hk
    exact ⟨idx_at h, loc_of c.tg hk⟩
  · cases h
theorem swS {t e : Expr} {line : Nat} {env : PySem.Env} (h : swapsWith e (some t) line env = pure false) : swapsWithSole [t] e line env = pure false := h
theorem k_asg (R : CmOk G k r) (c : Ck G k C X Wx) (hk : X.env.scope.kind = .function) {tg e : Expr} {pos : Pos} : PS X (.Assign [tg] e pos) (tS (mdOf X) Wx (asgS r C tg e)) := by
  have nd : X.N.Nodup := by rw [c.N]; exact c.nd
  unfold asgS
  split
  · rename_i x px
    split
    · rename_i i hi
      obtain ⟨q1, q2, q3⟩ := idx1_ok c hi
      have hg : PG X (.Name x px) (tG (mdOf X) Wx (gSet i)) := r_gname nd (by rw [c.N]; exact q1) q2 q3
      split
      · rename_i elt gens scope pos'
        rcases swaps_lc (env := X.env) (elt := elt) (gens := gens) (scope := scope) (pos := pos') (y := x) (py := px) (line := pos.line) with h | ⟨h1, h2⟩
        · exact r_asg (k_lc R c) hg (fun _ _ _ => trivial) h swapped_name rfl
        · exact k_setLc R c q1 h1 h2
      · split
        · exact k_S
        · rename_i hc
          exact r_asg (R.E C X Wx _ _ c) hg (fun _ _ _ => trivial) (swS (swaps_no (by simpa using hc))) swapped_name rfl
    · exact k_S
  · rename_i ts kt pt
    split
    · rename_i vs k2 pt2
      split
      · rename_i ns h
        exact k_par R c hk h
      · split
        · rename_i hn
          rw [Bool.and_eq_true_iff] at hn
          split
          · rename_i is his
            exact r_asg (r_tup (R.A C X Wx _ _ c)) (k_gtup c his) (gTupW_nx is) (swS (swaps_tg rfl)) (swpNo_ok (by rw [c.sc]; exact hn.1)) rfl
          · exact k_S
        · exact k_S
    · rename_i hne
      split
      · rename_i is his
        refine r_asg (R.E C X Wx _ _ c) (k_gtup c his) (gTupW_nx is) (swS (swaps_tg rfl)) (swapped_other ?_) rfl
        cases e <;> first | rfl | exact absurd rfl (hne _ _ _)
      · exact k_S
  · rename_i o i p
    split
    · rename_i hp
      refine r_asg (R.E C X Wx _ e c) (r_gsub c.un (R.E C X Wx 0 o c) (R.E C X Wx 0 i c) ?_) (gSubS_nx _ _) (swS (swaps_tg rfl)) swapped_sub rfl
      intro v
      cases i with
      | Constant cc j p => cases cc <;> first | rfl | cases hp
      | _ => first | rfl | cases hp
    · exact k_S
  · exact k_S
theorem exOk_iff {G : Gd} {C : Cc} {x : Str} (h : exOk G C x = true) : isGl C x = true ∧ isX G x = true ∧ (x == ("__debug__" : Str)) = false := by
  unfold exOk at h
  rw [Bool.and_eq_true_iff, Bool.and_eq_true_iff] at h
  exact ⟨h.1, h.2.1, by simpa using h.2.2⟩
theorem k_hdl (c : Ck G k C X Wx) : ∀ (hds : List ExceptHandler) (l : List (Str × DS)), hdlS G C hds = some l → HdsOk X hds (hsOf (mdOf X) Wx l)
  | [], l, h => by
    cases h
    exact .nil
  | hd :: r, l, h => by
    unfold hdlS at h
    split at h
    · rename_i e; cases e
    · rename_i x _ cn _ _ _ _ r' e
      cases e
      split at h
      · rename_i he
        obtain ⟨l', hl, rfl⟩ := Option.map_eq_some_iff.mp h
        obtain ⟨h1, h2, h3⟩ := exOk_iff he
        obtain ⟨A, gA, _⟩ := c.mod.exc _ h2
        refine HdsOk.cons ⟨c.gl h1, h3, .inl ?_⟩ (fun a oe cls d pn _ _ => ?_) (k_hdl c _ _ hl)
        · show X.mg x = some (match X.mg x with | some u => u | none => _)
          rw [gA]
        · exact r_scons (r_ret (k_const cn _ _)) r_snil
      · cases h
    · cases h
/-! what raises nothing -/
structure CkN (G : Gd) (k : Nat) (C : Cc) (X : Cx) : Prop where
  sc : X.env.scope = C.sc
  N : X.N = C.N
  nd : C.N.Nodup
  tg : TgOk X C.ts
  un : X.A.units + 65 < cLine
  room : L2H.RoomH k X.A ∨ G.hot = []
  mod : ModOk G k X.prog X.w X.K X.mg X.base
structure CmNOk (G : Gd) (k : Nat) (r : Cm) : Prop where
  E : ∀ C X m e, CkN G k C X → PE X e (tE (mdOf X) wF (r.E C m e))
  T : ∀ C X e, CkN G k C X → PT X e (tT (mdOf X) wF (r.T C e))
  A : ∀ C X ms es, CkN G k C X → PA X es (tA (mdOf X) wF (r.A C ms es))
  S : ∀ C X s, CkN G k C X → PS X s (tS (mdOf X) wF (r.S C s))
  SS : ∀ C X s, CkN G k C X → PSs X s (tS (mdOf X) wF (r.SS C s))
section
variable {X : Cx} {G : Gd} {k : Nat} {C : Cc} {r : Cm}
theorem CkN.gl (c : CkN G k C X) {x : Str} (h : isGl C x = true) : Gl X x := by
  show X.env.scope.names.lookup x = _
  rw [c.sc]
  exact beq_iff_eq.mp h
theorem CkN.vis (c : CkN G k C X) {x : Str} (h : isVis C x = true) : Vis X.env.scope x := by
  unfold isVis at h
  rw [Bool.or_eq_true_iff, Bool.or_eq_true_iff] at h
  unfold Vis
  rw [c.sc]
  rcases h with (h | h) | h
  · exact .inl (beq_iff_eq.mp h)
  · exact .inr (.inl (beq_iff_eq.mp h))
  · exact .inr (.inr (beq_iff_eq.mp h))
theorem n_name (c : CkN G k C X) (x : Str) (p : Pos) : PE X (.Name x p) (tE (mdOf X) wF (nameE G C x)) := by
  unfold nameE
  split
  · exact k_E
  · rename_i hd
    have hd : (x == ("__debug__" : Str)) = false ∧ (x == ("__classdict__" : Str)) = false := by
      cases h1 : (x == ("__debug__" : Str)) <;> cases h2 : (x == ("__classdict__" : Str)) <;> simp [h1, h2] at hd ⊢
    split
    · rename_i hv
      split
      · rename_i i hi
        exact r_var (by rw [c.N]; exact idx_at hi) (c.vis hv) hd.1 hd.2
      · exact k_E
    · split
      · rename_i hg
        split
        · rename_i w hw
          obtain ⟨u, v, h1, h2, h3⟩ := c.mod.con x w hw
          exact r_glob (c.gl hg) h1 h2 h3 hd.1
        · exact k_E
      · exact k_E
theorem n_call (R : CmNOk G k r) (c : CkN G k C X) {x : Str} {args : List Expr} {p pos : Pos} : PE X (.Call (.Name x p) args [] pos) (tE (mdOf X) wF (hCallE G r C x args)) := by
  unfold hCallE
  split
  · rename_i hc
    rw [Bool.and_eq_true_iff, Bool.and_eq_true_iff] at hc
    obtain ⟨⟨h2, h3⟩, h1⟩ := hc
    have h3 : (x == ("__debug__" : Str)) = false := by simpa using h3
    split
    · rename_i i n ho
      obtain ⟨f, fd, ps, F, hm, hk, hb⟩ := c.mod.hot x i n ho
      split
      · exact k_E
      · rcases c.room with hr | hr
        · exact r_ownN F hr (c.gl h1) hm hk hb (R.A C X [] _ c) h3 h2
        · rw [hr] at ho
          cases ho
    · split
      · rename_i hx
        have ex := beq_iff_eq.mp hx
        subst ex
        split
        · rename_i q hq
          exact k_isx (fun x h => c.gl h) c.mod (fun e => R.E C X 0 e c) h1 hq
        · exact k_E
      · exact k_E
  · exact k_E
theorem n_opt (R : CmNOk G k r) (c : CkN G k C X) (o : Option Expr) : PO X o (tO (mdOf X) wF (optE r C o)) := by
  cases o with
  | none => exact r_oNone
  | some e => exact r_oSome (R.E C X 0 e c)
theorem n_stepE (R : CmNOk G k r) (c : CkN G k C X) (m : Nat) (e : Expr) : PE X e (tE (mdOf X) wF (hStepE G r C m e)) := by
  have hE := fun m e => R.E C X m e c
  unfold hStepE
  split
  · exact n_name c _ _
  · exact k_const _ _ _
  · exact r_add (hE _ _) (hE _ _)
  · split
    · exact k_E
    · rename_i hb
      exact r_cmp (ok_eq (by have := c.un; omega)) (hE _ _) (hE _ _) (by simpa using hb)
  · exact r_if (R.T C X _ c) (hE _ _) (hE _ _)
  · split
    · exact r_lst (R.A C X _ _ c)
    · exact k_E
  · exact r_slice (hE _ _) (n_opt R c _) (n_opt R c _)
  · exact n_call R c
  · exact k_E
theorem n_stepT (R : CmNOk G k r) (c : CkN G k C X) (e : Expr) : PT X e (tT (mdOf X) wF (hStepT r C e)) := by
  unfold hStepT
  split
  · rename_i hv
    exact r_tval (R.E C X _ _ c) (valT_ok hv)
  · exact k_T
theorem n_stepA (R : CmNOk G k r) (c : CkN G k C X) (ms : List Nat) (es : List Expr) : PA X es (tA (mdOf X) wF (stepA r C ms es)) := by
  unfold stepA
  split
  · exact r_nil
  · rename_i e es
    split
    · rename_i hs
      refine r_cons (R.E C X _ _ c) (R.A C X _ _ c) ?_
      cases e <;> first | rfl | cases hs
    · exact k_A
theorem n_stepS (R : CmNOk G k r) (c : CkN G k C X) (s : Stmt) : PS X s (tS (mdOf X) wF (hStepS r C s)) := by
  unfold hStepS
  split
  · exact r_doc
  · exact r_ret (R.E C X _ _ c)
  · exact r_sif (R.T C X _ c) (R.SS C X _ c) (R.SS C X _ c)
  · rename_i x px e pos
    split
    · rename_i i hi
      split
      · exact k_S
      · rename_i hc
        have h : C.N[i]? = some x ∧ Loc X.env.scope x ∧ (X.fn x = true ∨ X.env.scope.names.lookup x = some .local) := by
          unfold idx1 at hi
          split at hi
          · rename_i hk
            exact ⟨idx_at hi, loc_of c.tg hk⟩
          · cases hi
        exact r_asg (R.E C X _ _ c) (r_gname (by rw [c.N]; exact c.nd) (by rw [c.N]; exact h.1) h.2.1 h.2.2) (fun _ _ _ => trivial) (swS (swaps_no (by simpa using hc))) swapped_name rfl
    · exact k_S
  · exact k_S
theorem n_stepSS (R : CmNOk G k r) (c : CkN G k C X) (s : List Stmt) : PSs X s (tS (mdOf X) wF (stepSS r C s)) := by
  unfold stepSS
  split
  · exact r_snil
  · exact r_scons (R.S C X _ c) (R.SS C X _ c)
theorem compN_ok (G : Gd) (k : Nat) : ∀ n, CmNOk G k (compN G n)
  | 0 => ⟨fun _ _ _ _ _ => k_E, fun _ _ _ _ => k_T, fun _ _ _ _ _ => k_A, fun _ _ _ _ => k_S, fun _ _ _ _ => k_SS⟩
  | n + 1 => by
    have R := compN_ok G k n
    exact ⟨fun C X m e c => n_stepE R c m e, fun C X e c => n_stepT R c e, fun C X ms es c => n_stepA R c ms es, fun C X s c => n_stepS R c s, fun C X s c => n_stepSS R c s⟩
end
/-- the suite of an except clause -/
theorem Ck.hot (c : Ck G k C X Wx) (a : Addr) : CkN G k C (hotX X a) :=
  ⟨c.sc, c.N, c.nd, c.tg, c.un, .inl ⟨c.room.dp, c.room.un⟩, c.mod⟩
theorem k_tryAs (R : CmOk G k r) (c : Ck G k C X Wx) (hp : PassesOwn (model X.prog X.w) X.A X.env X.xe) (hk : FnX X) {body suite : List Stmt} {b₀ : Stmt} {x n : Str} {np pos pos' : Pos} : PS X (.Try body [.ExceptHandler (some (.Name x np)) (some n) (b₀ :: suite) pos'] [] [] pos) (tS (mdOf X) Wx (tryAs G r C x n body (b₀ :: suite))) := by
  unfold tryAs
  split
  · rename_i hc
    rw [Bool.and_eq_true_iff] at hc
    obtain ⟨h1, h2, h3⟩ := exOk_iff hc.1
    split
    · rename_i i hi
      obtain ⟨A, gA, _⟩ := c.mod.exc _ h2
      refine r_tryAs hk.st hk.fr hk.ex (by rw [c.N]; exact c.nd) (by rw [c.N]; exact idx_at hi) ?_ ⟨c.gl h1, h3, .inl ?_⟩ c.tk (fun a b q e => ?_) (fun W pn xe tk hp' => R.SS C (X.tr pn xe) W _ ⟨c.sc, c.N, c.nd, c.calm, c.tg, c.room, tk, c.mod⟩ hp' ⟨hk.kind, hk.ex, hk.st, hk.fr⟩) (fun a => (compN_ok G k hotD).SS C (hotX X a) _ (c.hot a))
      · show X.env.scope.names.lookup n = some .local
        rw [c.sc]
        exact beq_iff_eq.mp hc.2
      · rw [gA]
        exact congrArg some (excV_at (M := mdOf X) gA).symm
      · unfold subG subX at e
        split at e
        · rename_i hb
          rw [Bool.and_eq_true_iff] at hb
          cases e
          exact c.mod.sub _ _ hb.1 hb.2
        · cases e
    · exact k_S
  · exact k_S
theorem k_stepS (R : CmOk G k r) (c : Ck G k C X Wx) (hp : PassesOwn (model X.prog X.w) X.A X.env X.xe) (hk : FnX X) (s : Stmt) : PS X s (tS (mdOf X) Wx (stepS G r C s)) := by
  have hE := fun m e => R.E C X Wx m e c
  have hSS := fun s => R.SS C X Wx s c hp hk
  unfold stepS
  split
  · split
    · rename_i he
      obtain ⟨h1, h2, h3⟩ := exOk_iff he
      exact r_raise c.calm c.tk (c.mod.exc _ h2) (c.gl h1) h3
    · exact k_S
  · exact k_tryAs R c hp hk
  · split
    · rename_i l hl
      refine r_try hk.st hk.fr c.tk (fun a b q e => ?_) (fun W pn xe tk hp' => R.SS C (X.tr pn xe) W _ ⟨c.sc, c.N, c.nd, c.calm, c.tg, c.room, tk, c.mod⟩ hp' ⟨hk.kind, hk.ex, hk.st, hk.fr⟩) (k_hdl c _ _ hl)
      unfold subG subX at e
      split at e
      · rename_i hb
        rw [Bool.and_eq_true_iff] at hb
        cases e
        exact c.mod.sub _ _ hb.1 hb.2
      · cases e
    · exact k_S
  · exact r_pass
  · exact r_doc
  · split
    · exact k_S
    · rename_i hc
      exact r_expr (hE _ _) (swaps_no (by simpa using hc))
  · exact r_ret (hE _ _)
  · exact r_sif (R.T C X Wx _ c) (hSS _) (hSS _)
  · split
    · rename_i t ht
      split
      · rename_i hn
        exact r_for hp c.calm (R.I C X Wx _ _ c) (tgt_ok c.calm (by rw [c.N]; exact c.nd) c.tg (by rw [c.N]; exact ht)) (hSS _) (notSet_ok hn)
      · exact k_S
    · exact k_S
  · exact r_while hp (R.T C X Wx _ c) (hSS _)
  · exact k_asg R c hk.kind
  · exact k_S
theorem k_stepSS (R : CmOk G k r) (c : Ck G k C X Wx) (hp : PassesOwn (model X.prog X.w) X.A X.env X.xe) (hk : FnX X) (s : List Stmt) : PSs X s (tS (mdOf X) Wx (stepSS r C s)) := by
  unfold stepSS
  split
  · exact r_snil
  · exact r_scons (R.S C X Wx _ c hp hk) (R.SS C X Wx _ c hp hk)
theorem comp_ok (G : Gd) (k : Nat) : ∀ n, CmOk G k (comp G n)
  | 0 => ⟨fun _ _ _ _ _ _ => k_E, fun _ _ _ _ _ => k_T, fun _ _ _ _ _ _ _ => k_W, fun _ _ _ _ _ _ => k_A, fun _ _ _ _ _ _ => k_I, fun _ _ _ _ _ _ _ => k_S, fun _ _ _ _ _ _ _ => k_SS⟩
  | n + 1 => by
    have R := comp_ok G k n
    exact ⟨fun C X Wx m e c => k_stepE R c m e, fun C X Wx e c => k_stepT R c e, fun C X Wx op es p c => k_stepW R c op es p, fun C X Wx ms es c => k_stepA R c ms es, fun C X Wx tg e c => k_stepI R c tg e, fun C X Wx s c hp hk => k_stepS R c hp hk s, fun C X Wx s c hp hk => k_stepSS R c hp hk s⟩
end

/-! ### a program's table of defs -/
/-- a def: its place in the table, its name, arguments, body, scope; its names; what is to be changed in place; whether its own cells stay -/
structure FnD where
  ix : Nat
  x : Str
  qual : Str
  params : Arguments
  body : List Stmt
  scope : Scope
  n : Nat
  N : List Str
  mt : List (Str × Nat)
  mret : Nat
  pure : Bool
def FnD.cc (f : FnD) : Cc := ⟨f.scope, f.scope, f.N, f.mt, f.mret⟩
/-- names and places -/
def ownT (fs : List FnD) : List (Str × (Nat × Nat)) := fs.map fun f => (f.x, (f.ix, f.n))
def deep : Nat := 60
def FnD.t (gs : Gs) (f : FnD) : FnT := ⟨f.n, f.N.length, f.pure, fun Γ => (comp ⟨gs, Γ⟩ deep).SS f.cc f.body⟩
/-- what the written part says of the defs -/
structure DefOk (K : PySem.W.Frag) (mg : Str → Option Value) (f : FnD) : Prop where
  ex : ∃ a fd, FunD K f.x f.qual f.params f.body f.scope [] [] a fd ∧ mg f.x = some (.ref a) ∧ Binds K fd (f.N.take f.n) []
  sc : FnScope f.N (f.N.take f.n) f.scope
  len : f.n ≤ f.N.length
section
variable {P : Program} {w : World} {K : PySem.W.Frag} {mg : Str → Option Value} {base : Heap}
theorem tgOk_fn {CX : CXT} {N : List Str} {qual : Str} {scope : Scope} {f : Addr} {cd : Value} {A : Around} {outer : List PySem.Env} {s : Shared} {H : Hp} {E : XK} : TgOk (cxOf CX P w K mg base N qual scope f cd A outer s H E) scope := fun x hx => ⟨hx, .inl rfl⟩
theorem tgOk_fnN {N : List Str} {qual : Str} {scope : Scope} {f : Addr} {cd : Value} {A : Around} {outer : List PySem.Env} {s : Shared} {H : Hp} : TgOk (cxN P w K mg base N qual scope f cd A outer s H) scope := fun x hx => ⟨hx, .inl rfl⟩
/-- one def at one level -/
theorem def_ok {G : Gd} {k : Nat} {f : FnD} (D : DefOk K mg f) (hm : ModOk G k P w K mg base) : ∃ a fd, FnOk P w K mg base (L2.CX P w) (k + 1) a fd (f.N.take f.n) (spI ⟨P, w, K, mg⟩ f.n fun ws h => fnRun f.pure f.N.length ((comp G deep).SS f.cc f.body) ws h) ∧ mg f.x = some (.ref a) ∧ PySem.W.keepIn K (.ref a) = true ∧ Binds K fd (f.N.take f.n) [] := by
  obtain ⟨a, fd, F, g, b⟩ := D.ex
  have hl : (f.N.take f.n).length = f.n := by rw [List.length_take]; exact Nat.min_eq_left D.len
  refine ⟨a, fd, F.ok D.sc (fun vs H Q E h => by rw [hl]; exact h.1) fun cdv A outer s H vs Q E hr h => ?_, g, F.kp, b⟩
  obtain ⟨hn, ρ, ws, ah, rh, rw, o⟩ := h
  refine ⟨_, (comp_ok G k deep).SS f.cc _ (fun cls d _ H' => E cls d H') f.body ⟨rfl, rfl, D.sc.nd, rfl, tgOk_fn, hr, takes_of rfl rfl rfl rfl, hm⟩ (passes_of rfl) ⟨D.sc.kind, rfl, rfl, rfl⟩, ?_⟩
  exact fn_reading rh rw o
/-- the same, called while an error is handled (it calls none) -/
theorem def_okN {G : Gd} {k : Nat} {f : FnD} (D : DefOk K mg f) (hm : ModOk G k P w K mg base) (hG : G.hot = []) : ∃ a fd, FnN P w K mg base 1 a fd (f.N.take f.n) (spI ⟨P, w, K, mg⟩ f.n fun ws h => fnRun f.pure f.N.length ((compN G hotD).SS f.cc f.body) ws h) ∧ mg f.x = some (.ref a) ∧ PySem.W.keepIn K (.ref a) = true ∧ Binds K fd (f.N.take f.n) [] := by
  obtain ⟨a, fd, F, g, b⟩ := D.ex
  have hl : (f.N.take f.n).length = f.n := by rw [List.length_take]; exact Nat.min_eq_left D.len
  refine ⟨a, fd, funN_ok F D.sc (fun vs H Q E h => by rw [hl]; exact h.1) fun cdv A outer s H vs Q hr h => ?_, g, F.kp, b⟩
  obtain ⟨hn, ρ, ws, ah, rh, rw, o⟩ := h
  refine ⟨_, (compN_ok G k hotD).SS f.cc _ f.body ⟨rfl, rfl, D.sc.nd, tgOk_fnN, ?_, .inr hG, hm⟩, ?_⟩
  · have := hr.un
    show (A.deeper _).units + 65 < cLine
    omega
  · exact fn_reading rh rw o
theorem own_get : ∀ {fs : List FnD} {x : Str} {i n : Nat}, (ownT fs).lookup x = some (i, n) → ∃ f, f ∈ fs ∧ f.ix = i ∧ f.x = x ∧ f.n = n
  | [], x, i, n, h => by simp [ownT] at h
  | f :: fs, x, i, n, h => by
    unfold ownT at h
    rw [List.map_cons, List.lookup_cons] at h
    cases hx : x == f.x with
    | true =>
      rw [hx] at h
      cases h
      exact ⟨f, by simp, rfl, (beq_iff_eq.mp hx).symm, rfl⟩
    | false =>
      rw [hx] at h
      obtain ⟨f', q1, q2, q3, q4⟩ := own_get (fs := fs) h
      exact ⟨f', List.mem_cons_of_mem _ q1, q2, q3, q4⟩
/-- what is given of the module, whatever the level -/
structure ModB (gs : Gs) (P : Program) (w : World) (K : PySem.W.Frag) (mg : Str → Option Value) : Prop where
  ers : ErrsOk gs.exv P w K mg
  con : ∀ x w', gs.con.lookup x = some w' → ∃ u v, mg x = some u ∧ RelV v u ∧ ∀ ρ H, RW ⟨P, w, K, mg⟩ ρ H w' v
  free : ∀ x, x ∈ [("len" : Str), "int", "isinstance", "list", "tuple", "min", "max", "all", "any", "bool", "str", "range", "enumerate", "zip", "sorted", "set", "ValueError"] → mg x = none
  exc : ∀ x, gs.exs.contains x = true → ExcK K mg x
  sub : ∀ c y, gs.exs.contains c = true → gs.exs.contains y = true → PySem.W.exmOne K (excV ⟨P, w, K, mg⟩ c) (excV ⟨P, w, K, mg⟩ y) = some (decide (c = y) || decide (y = ("TrickError" : Str)))
/-- the tables -/
structure Tabs (gs : Gs) (fs fs2 vs hs : List FnD) (T : Nat → Option FnT) : Prop where
  hT : ∀ f ∈ fs, T f.ix = some (f.t gs)
  own : gs.own = ownT fs
  own2 : gs.own2 = ownT fs2
  s2 : ∀ f ∈ fs2, f ∈ fs
  fv : gs.fv = ownT vs
  sv : ∀ f ∈ vs, f ∈ fs
  hot : gs.hot = ownT hs
  sh : ∀ f ∈ hs, f ∈ fs ∧ ∀ Γ, (compN ⟨{ gs with hot := [] }, Γ⟩ hotD).SS f.cc f.body = (comp ⟨gs, Γ⟩ deep).SS f.cc f.body
section
variable {gs : Gs} {fs fs2 vs hs : List FnD} {T : Nat → Option FnT}
theorem call_at (TB : Tabs gs fs fs2 vs hs T) {f : FnD} (hf : f ∈ fs) (k : Nat) (ws : List W) (ah : AH) : callK T (k + 1) f.ix ws ah = fnRun f.pure f.N.length ((comp ⟨gs, callK T k⟩ deep).SS f.cc f.body) ws ah := by
  show (match T f.ix with
    | some f => fnRun f.pure f.slots (f.body (callK T k)) ws ah
    | none => .stuck) = _
  rw [TB.hT f hf]
  rfl
theorem owns0 (D : ∀ f ∈ fs, DefOk K mg f) {gs' : List FnD} (hs : ∀ f ∈ gs', f ∈ fs) : OwnsOk (callK T 0) (ownT gs') 0 P w K mg base := fun x i n h => by
  obtain ⟨f, q1, q2, q3, q4⟩ := own_get h
  obtain ⟨a, fd, F, g, b⟩ := (D f (hs f q1)).ex
  refine ⟨a, fd, f.N.take f.n, ⟨fun vs H Q E h => ?_, fun A outer s H args us vs Q E hr he hb hv h => ?_⟩, q3 ▸ g, F.kp, b⟩
  · obtain ⟨hn, ρ, ws, ah, rh, rw, o⟩ := h
    exact o.elim
  · obtain ⟨hn, ρ, ws, ah, rh, rw, o⟩ := h
    exact o.elim
theorem ownsS (TB : Tabs gs fs fs2 vs hs T) (D : ∀ f ∈ fs, DefOk K mg f) {k : Nat} (hm : ModOk ⟨gs, callK T k⟩ k P w K mg base) {gs' : List FnD} (hs : ∀ f ∈ gs', f ∈ fs) : OwnsOk (callK T (k + 1)) (ownT gs') (k + 1) P w K mg base := fun x i n h => by
  obtain ⟨f, q1, q2, q3, q4⟩ := own_get h
  obtain ⟨a, fd, F, g, kp, b⟩ := def_ok (D f (hs f q1)) hm
  refine ⟨a, fd, _, F.imp fun vs H Q E h => ?_, q3 ▸ g, kp, b⟩
  obtain ⟨hn, ρ, ws, ah, rh, rw, o⟩ := h
  refine ⟨by rw [q4]; exact hn, ρ, ws, ah, rh, rw, ?_⟩
  have o' : OutG ⟨P, w, K, mg⟩ (RW ⟨P, w, K, mg⟩) ρ H (callK T (k + 1) i ws ah) Q E := o
  rw [← q2, call_at TB (hs f q1)] at o'
  exact o'
theorem FnN.imp {j k : Nat} {f : Addr} {fd : FuncData} {ps : List Str} {sp sp' : Sp} (F : FnN P w K mg base j f fd ps sp) (hk : j ≤ k) (h : ∀ vs H Q E, sp' vs H Q E → sp vs H Q E) : FnN P w K mg base k f fd ps sp' :=
  ⟨fun vs H Q E q => F.len vs H Q E (h _ _ _ _ q), fun A outer s H args us vs Q hr he hb hv hs => F.run A outer s H args us vs Q (hr.mono hk) he hb hv (h _ _ _ _ hs)⟩
/-- a level without what is called in except suites -/
theorem ModOk.cold {k : Nat} {Γ : Calls} (m : ModOk ⟨gs, Γ⟩ k P w K mg base) : ModOk ⟨{ gs with hot := [] }, Γ⟩ k P w K mg base :=
  ⟨m.own, m.own2, m.fv, (fun x i n h => by cases h), m.ers, m.con, m.free, m.exc, m.sub⟩
/-- all defs, level by level -/
theorem mod_ok (TB : Tabs gs fs fs2 vs hs T) (D : ∀ f ∈ fs, DefOk K mg f) (B : ModB gs P w K mg) : ∀ k, ModOk ⟨gs, callK T k⟩ k P w K mg base
  | 0 => by
    refine ⟨?_, ?_, ?_, fun x i n h => ?_, B.ers, B.con, B.free, B.exc, B.sub⟩
    · show OwnsOk (callK T 0) gs.own 0 P w K mg base
      rw [TB.own]; exact owns0 D fun f h => h
    · show OwnsOk (callK T 0) gs.own2 0 P w K mg base
      rw [TB.own2]; exact owns0 D TB.s2
    · show OwnsOk (callK T 0) gs.fv 0 P w K mg base
      rw [TB.fv]; exact owns0 D TB.sv
    · have h : gs.hot.lookup x = some (i, n) := h
      rw [TB.hot] at h
      obtain ⟨f, q1, q2, q3, q4⟩ := own_get h
      obtain ⟨a, fd, F, g, b⟩ := (D f (TB.sh f q1).1).ex
      refine ⟨a, fd, f.N.take f.n, ⟨fun vs H Q E h => ?_, fun A outer s H args us vs Q hr he hb hv h => ?_⟩, q3 ▸ g, F.kp, b⟩
      · obtain ⟨hn, ρ, ws, ah, rh, rw, o⟩ := h
        exact o.elim
      · obtain ⟨hn, ρ, ws, ah, rh, rw, o⟩ := h
        exact o.elim
  | k + 1 => by
    have hm := mod_ok TB D B k
    refine ⟨?_, ?_, ?_, fun x i n h => ?_, B.ers, B.con, B.free, B.exc, B.sub⟩
    · show OwnsOk (callK T (k + 1)) gs.own (k + 1) P w K mg base
      rw [TB.own]; exact ownsS TB D hm fun f h => h
    · show OwnsOk (callK T (k + 1)) gs.own2 (k + 1) P w K mg base
      rw [TB.own2]; exact ownsS TB D hm TB.s2
    · show OwnsOk (callK T (k + 1)) gs.fv (k + 1) P w K mg base
      rw [TB.fv]; exact ownsS TB D hm TB.sv
    · have h : gs.hot.lookup x = some (i, n) := h
      rw [TB.hot] at h
      obtain ⟨f, q1, q2, q3, q4⟩ := own_get h
      obtain ⟨hf, he⟩ := TB.sh f q1
      obtain ⟨a, fd, F, g, kp, b⟩ := def_okN (D f hf) hm.cold rfl
      refine ⟨a, fd, _, F.imp (by omega) fun vs H Q E h => ?_, q3 ▸ g, kp, b⟩
      obtain ⟨hn, ρ, ws, ah, rh, rw, o⟩ := h
      refine ⟨by rw [q4]; exact hn, ρ, ws, ah, rh, rw, ?_⟩
      have o' : OutG ⟨P, w, K, mg⟩ (RW ⟨P, w, K, mg⟩) ρ H (callK T (k + 1) i ws ah) Q E := o
      rw [← q2, call_at TB hf, ← he] at o'
      exact o'
end
end
end Dn
end
section
set_option Elab.async false
set_option linter.all false
set_option maxRecDepth 100000
set_option maxHeartbeats 4000000
namespace Dn
open PySem PySem.Spec PyProof.Rows L2

/-! ### the end of a law -/
theorem walk_end {l : PySem.W.OpenLaw} {n k : Nat} {q : Program} {loose : List Str} {XP : (Str → Option Value) → Heap → Prop} {YP : World → Heap → Prop} {d : DefRec} {CX : World → CXT} {x : Str}
    (hn : l.most = some n) (hn2 : n ≤ sizeLine) (hdf : d.params.defaults = []) (hr : Room k callerA)
    (F : ∀ (w : World) (mg : Str → Option Value) (fa : Addr) (h : Heap), YP w h → h.Ns mainGlobals mg → mg d.name = some (.ref fa) →
      ∃ (K : PySem.W.Frag) (fd : FuncData) (sp : Sp), K.In h ∧ (∀ (s : Shared) (u : Value), BindsTo s fd ⟨[u], []⟩ [(x, u)]) ∧
        (∀ (H : Hp) (a : Addr) (ns : List Int), ns.length ≤ n → Only H → SqL K H a (ns.map V.int) → sp [.ref a] H (fun v _ => v = .bl true) fun _ _ _ => False) ∧
        ∀ base : Heap, K.In base → base.Ns mainGlobals mg → FnOk l.prog w K mg base (CX w) k fa fd [x] sp)
    (hCX : ∀ (w : World) (H : Hp) (s : Shared) (e : Value) (s' : Shared), CX w [] H s (fun _ _ _ => False) e s' → False) :
    PySem.W.WalkO q loose XP YP l.row.toRowW d [] (fun f vs => PySem.call f vs) := by
  refine Att.attach_call hn hdf fun w s0 s1 mg mb fa o pm cd doc a vs ns G Y ho hd hcd hmg hobj hints hlen hg => ?_
  obtain ⟨K, fd, sp, KX, hb, hsp, hF⟩ := F w mg fa _ Y G.T.g hmg
  exact law_call KX G.T.g G.T.b G.T.builtins G.T.nolimit hg hobj hints (Nat.le_trans hlen hn2) hr hF hb (fun H hO hS => hsp H a ns hlen hO hS) fun H e s' z => hCX w H s1 e s' z
theorem cx_end {P : Program} (w : World) (H : Hp) (s : Shared) (e : Value) (s' : Shared) (z : L2.CX P w [] H s (fun _ _ _ => False) e s') : False := by
  obtain ⟨a, B, H', cls, d, e, f, g, h, i, j, kk, ff⟩ := z
  exact ff
theorem rws_ints {M : Md} {ρ : Rho} {H : Hp} : ∀ ns : List Int, RWs M ρ H (ns.map W.int) (ns.map V.int)
  | [] => .nil
  | n :: ns => .cons (by rw [RW]) (rws_ints ns)
theorem relH_nil {M : Md} {H : Hp} : RelH M ⟨[], []⟩ H [] where
  len := rfl
  nd := List.nodup_nil
  sep := fun a h => absurd h (by simp)
  there := fun a h => absurd h (by simp [Rho.all])
  cell := fun n a o h => by simp at h
/-- the script -/
def scrW (ns : List Int) : W := .scr (ns.map W.int)
theorem script_sp {M : Md} {K : PySem.W.Frag} {g : List W → AH → Res W} {H : Hp} {a : Addr} {ns : List Int} (hK : M.K = K) (hS : SqL K H a (ns.map V.int)) (hg : ∃ h, g [scrW ns] [] = .ok (.bl true) h) : spI M 1 g [.ref a] H (fun v _ => v = .bl true) fun _ _ _ => False := by
  obtain ⟨h, hg⟩ := hg
  refine ⟨rfl, ⟨[], []⟩, [scrW ns], [], relH_nil, .cons ?_ .nil, ?_⟩
  · unfold scrW
    rw [RW]
    refine ⟨a, _, rfl, ?_, rws_ints ns⟩
    subst hK
    rcases hS with h | h
    · exact .inl ⟨h, fun z => absurd z (by simp [Rho.all])⟩
    · exact .inr h
  · rw [hg]
    intro ρ' b H' f r rw
    rw [RW] at rw
    exact rw
theorem look_zip : ∀ (ps : List Str) (us : List Value) (z : List (Str × Value)), us.length = ps.length → (∀ q ∈ ps.zip us, z.lookup q.1 = some q.2) → ps.filterMap (fun n => (z.lookup n).map fun v => (n, v)) = ps.zip us
  | [], [], z, _, _ => rfl
  | [], _ :: _, z, h, _ => by simp at h
  | _ :: _, [], z, h, _ => by simp at h
  | p :: ps, u :: us, z, h, hz => by
    rw [List.zip_cons_cons, List.filterMap_cons]
    have h1 := hz (p, u) (by simp)
    simp only at h1
    rw [h1]
    simp only [Option.map_some]
    rw [look_zip ps us z (by simpa using h) fun q hq => hz q (by simp [hq])]
theorem zip_look : ∀ (ps : List Str) (us : List Value), ps.Nodup → ∀ q ∈ ps.zip us, (ps.zip us).lookup q.1 = some q.2
  | [], us, _, q, hq => by simp at hq
  | _ :: _, [], _, q, hq => by simp at hq
  | p :: ps, u :: us, hn, q, hq => by
    rw [List.zip_cons_cons] at hq ⊢
    rw [List.nodup_cons] at hn
    rcases List.mem_cons.mp hq with e | hm
    · subst e; simp [List.lookup_cons]
    · have : q.1 ∈ ps := (List.of_mem_zip hm).1
      have ne : (q.1 == p) = false := by
        cases e : q.1 == p with
        | false => rfl
        | true => exact absurd (by rw [← beq_iff_eq.mp e]; exact this) hn.1
      rw [List.lookup_cons, ne]
      exact zip_look ps us hn.2 q hm
theorem zip_has (ps : List Str) (us : List Value) (hl : us.length = ps.length) {m : Str} (hm : m ∈ ps) : ∃ u, (m, u) ∈ ps.zip us := by
  obtain ⟨i, hi, e⟩ := List.getElem_of_mem hm
  refine ⟨us[i], List.mem_iff_getElem?.mpr ⟨i, ?_⟩⟩
  rw [List.getElem?_zip_eq_some]
  exact ⟨by rw [List.getElem?_eq_getElem hi, e], by rw [List.getElem?_eq_getElem (by omega)]⟩
theorem miss_nil (ps : List Str) (us : List Value) (hn : ps.Nodup) (hl : us.length = ps.length) (n : Nat) : ((ps.take n).filter fun m => ((ps.zip us).lookup m).isNone) = [] := by
  rw [List.filter_eq_nil_iff]
  intro m hm
  have hm' : m ∈ ps := List.mem_of_mem_take hm
  obtain ⟨u, hq⟩ := zip_has ps us hl hm'
  have := zip_look ps us hn _ hq
  simp only at this
  rw [this]
  simp
theorem bind_simple {fd : FuncData} {as : List Arg} {ps : List Str} {us : List Value} (h1 : fd.params = ⟨[], as, none, [], [], none, []⟩) (hp : as.map (·.arg) = ps) (hn : ps.Nodup) (hd : fd.defaults = .none) (hl : us.length = ps.length) : bindArgs fd ⟨us, []⟩ = pure (ps.zip us) := by
  unfold bindArgs
  rw [h1, hd]
  simp only [List.map_nil, List.nil_append, hp]
  have e1 : seqItems? Value.none = pure none := rfl
  have m := miss_nil ps us hn hl
  have l := look_zip ps us _ hl (zip_look ps us hn)
  simp [e1, m, l, hl]
  intro x hx hno
  obtain ⟨u, hq⟩ := zip_has ps us hl hx
  exact absurd hq (hno u)
/-! ### a law's head, by its table -/
def FnD.d (f : FnD) : He.DefD := ⟨(f.x, none), f.x, f.qual, f.params, f.body, f.scope, [], []⟩
def simpleB (f : FnD) : Bool := f.params.posonlyargs.isEmpty && f.params.vararg.isNone && f.params.kwonlyargs.isEmpty && f.params.kw_defaults.isEmpty && f.params.kwarg.isNone && f.params.defaults.isEmpty && decide (f.params.args.map (·.arg) = f.N.take f.n)
def scB (f : FnD) : Bool := decide (f.scope.kind = .function) && !f.scope.isCoroutine && !f.scope.isGenerator && decide f.N.Nodup &&
  ((f.N.take f.n).all fun x => f.scope.names.lookup x == some NameKind.local || f.scope.names.lookup x == some NameKind.cell) && (f.scope.names.all fun y => !(y.2 == NameKind.free)) && decide (f.n ≤ f.N.length)
theorem scB_ok {f : FnD} (h : scB f = true) : FnScope f.N (f.N.take f.n) f.scope ∧ f.n ≤ f.N.length := by
  unfold scB at h
  simp only [Bool.and_eq_true_iff] at h
  obtain ⟨⟨⟨⟨⟨⟨h1, h2⟩, h3⟩, h4⟩, h5⟩, h6⟩, h7⟩ := h
  have hl : f.n ≤ f.N.length := of_decide_eq_true h7
  refine ⟨⟨of_decide_eq_true h1, by simpa using h2, by simpa using h3, of_decide_eq_true h4, ?_, fun x hx => ?_, fun y hy e => ?_⟩, hl⟩
  · rw [List.length_take, Nat.min_eq_left hl]
  · have := List.all_eq_true.mp h5 x hx
    rw [Bool.or_eq_true_iff] at this
    exact this.imp beq_iff_eq.mp beq_iff_eq.mp
  · have := List.all_eq_true.mp h6 y hy
    rw [e] at this
    cases this
theorem simple_binds {K : PySem.W.Frag} {f : FnD} {a : Addr} {fd : FuncData} (h : simpleB f = true) (hn : f.N.Nodup) (F : FunD K f.x f.qual f.params f.body f.scope [] [] a fd) : Binds K fd (f.N.take f.n) [] := by
  unfold simpleB at h
  simp only [Bool.and_eq_true_iff] at h
  obtain ⟨⟨⟨⟨⟨⟨h1, h2⟩, h3⟩, h4⟩, h5⟩, h6⟩, h7⟩ := h
  refine F.bindsN fun kV doc pm an cdv ct us hl => ?_
  refine bind_simple (as := f.params.args) ?_ (of_decide_eq_true h7) ((List.take_sublist _ _).nodup hn) rfl hl
  show f.params = _
  generalize f.params = p at h1 h2 h3 h4 h5 h6 ⊢
  obtain ⟨p1, p2, p3, p4, p5, p6, p7⟩ := p
  simp at h1 h2 h3 h4 h5 h6
  subst h1 h2 h3 h4 h5 h6
  rfl
theorem simple_one {K : PySem.W.Frag} {f : FnD} {a : Addr} {fd : FuncData} {x : Str} (h : simpleB f = true) (hn : f.N.Nodup) (hx : f.N.take f.n = [x]) (F : FunD K f.x f.qual f.params f.body f.scope [] [] a fd) (s : Shared) (u : Value) : BindsTo s fd ⟨[u], []⟩ [(x, u)] := by
  unfold simpleB at h
  simp only [Bool.and_eq_true_iff] at h
  obtain ⟨⟨⟨⟨⟨⟨h1, h2⟩, h3⟩, h4⟩, h5⟩, h6⟩, h7⟩ := h
  refine F.bindsA (ps := [x]) (fun kV doc pm an cdv ct us hl => ?_) s [u] rfl
  refine bind_simple (as := f.params.args) ?_ ((of_decide_eq_true h7).trans hx) (by simp) rfl hl
  show f.params = _
  generalize f.params = p at h1 h2 h3 h4 h5 h6 ⊢
  obtain ⟨p1, p2, p3, p4, p5, p6, p7⟩ := p
  simp at h1 h2 h3 h4 h5 h6
  subst h1 h2 h3 h4 h5 h6
  rfl
/-- a constant of the module -/
inductive Cst where
  | int (x : Str) (i : Int) | str (x z : Str) | exc (x : Str) | fn (x : Str)
def Cst.fa : Cst → He.Fa
  | .int x i => .int x i
  | .str x z => .str x z
  | .exc x => .exc x
  | .fn x => .glo x
def Cst.con : Cst → Str × W
  | .int x i => (x, .int i)
  | .str x z => (x, .str z)
  | .exc x => (x, .glo x)
  | .fn x => (x, .glo x)
def excsOf : List Cst → List Str
  | [] => []
  | .exc x :: r => x :: excsOf r
  | _ :: r => excsOf r
def freeNames : List Str := ["len", "int", "isinstance", "list", "tuple", "min", "max", "all", "any", "bool", "str", "range", "enumerate", "zip", "sorted", "set", "ValueError"]
def faOf (fs : List FnD) (cs : List Cst) : List He.Fa := fs.map (fun f => .glo f.x) ++ (cs.map Cst.fa ++ (freeNames.map He.Fa.free ++ ((excsOf cs).map He.Fa.glo ++ (excsOf cs).flatMap fun x => (excsOf cs).map fun y => He.Fa.exm x y (decide (x = y) || decide (y = ("TrickError" : Str))))))
theorem SaysD.mem_fact {fa : List He.Fa} {fn : List He.DefD} {K : PySem.W.Frag} (c : He.SaysD fa fn K) {f : He.Fa} (h : f ∈ fa) : f.ok K = true := by
  obtain ⟨i, hi⟩ := List.getElem?_of_mem h
  exact c.fact i hi
/-- what else is read off the heap -/
inductive XFa where
  | exc (x : Str) | kit (x y : Str) (b : Bool) | kitV (x : Str)
def XFa.ok (K : PySem.W.Frag) : XFa → Bool
  | .exc x => He.eqO (PySem.W.findIn K (.ref (He.ga K x)) "__getattribute__") (some (some (.builtin "BaseException.__getattribute__"))) && (He.eqO (PySem.W.findIn K (.ref (He.ga K x)) "__getattr__") (some none) && (decide (PySem.W.subIn K (.ref (He.ga K x)) (.type "BaseException") = some true) &&
      (PySem.W.hasDictIn K (He.ga K x) && (He.eqO (PySem.W.findIn K (.ref (He.ga K x)) "__class__") (some (some (.builtin "object.__class__"))) && (He.eqO (PySem.W.specialIn K (.builtin "object.__class__") "__get__") (some (some (.builtin "getset_descriptor.__get__"))) &&
      (decide (PySem.W.takesIn K (.builtin "object.__class__") = some true) && (decide (PySem.W.mroIn K (He.ga K x) (.type "object") = some true) && He.eqO (PySem.W.findIn K (.ref (He.ga K x)) "__str__") (some (some (.builtin "BaseException.__str__"))))))))))
  | .kit x y b => decide (PySem.W.kitOne K (.ref (He.ga K x)) (.ref (He.ga K y)) = some b)
  | .kitV x => decide (PySem.W.kitOne K (.ref (He.ga K x)) (.type "ValueError") = some true)
def fxOf (xs : List Str) : List XFa := xs.map XFa.exc ++ (xs.map XFa.kitV ++ xs.flatMap fun x => xs.map fun y => XFa.kit x y (decide (x = y) || decide (y = ("TrickError" : Str))))
def fxB (fx : List XFa) (K : PySem.W.Frag) : Bool := fx.all fun f => f.ok K
abbrev AlX : Type := He.AlD × Bool
def obsXG (n : Nat) (fa : List He.Fa) (fn : List He.DefD) (fx : List XFa) (g : Addr → Option Obj) : AlX := (He.obsDG n fa fn g, fxB fx (He.frG g (He.asD g n)))
def hookX (n : Nat) (fa : List He.Fa) (fn : List He.DefD) (fx : List XFa) : PySem.W.Hook where
  α := AlX
  obs := fun s => obsXG n fa fn fx s.heap.get?
  val := fun _ => (He.valD fn, true)
  says := fun _ h => ∃ K : PySem.W.Frag, K.In h ∧ He.SaysD fa fn K ∧ fxB fx K = true
  of := fun _ _ e => ⟨_, He.frG_in, congrArg (fun z : AlX => z.1) e, congrArg (fun z : AlX => z.2) e⟩
  keeps := fun _ _ _ ⟨K, hK, c⟩ k => ⟨K, PySem.W.Frag.In.keeps hK k, c⟩
theorem obsXG_eq {n : Nat} {fa : List He.Fa} {fn : List He.DefD} {fx : List XFa} {g : Addr → Option Obj} {s : Shared} (h : ∀ a, g a = s.heap.get? a) : obsXG n fa fn fx g = (hookX n fa fn fx).obs s := by
  have e : g = s.heap.get? := funext h
  rw [e] <;> rfl
theorem con_lookup : ∀ {cs : List Cst} {x : Str} {w : W}, (cs.map Cst.con).lookup x = some w → ∃ c ∈ cs, c.con = (x, w)
  | [], x, w, h => by simp at h
  | c :: cs, x, w, h => by
    rw [List.map_cons, show c.con = (c.con.1, c.con.2) from rfl, List.lookup_cons] at h
    cases e : x == c.con.1 with
    | true =>
      rw [e] at h
      cases h
      exact ⟨c, by simp, by rw [beq_iff_eq.mp e]⟩
    | false =>
      rw [e] at h
      obtain ⟨c', q, r⟩ := con_lookup h
      exact ⟨c', List.mem_cons_of_mem _ q, r⟩
theorem excs_mem : ∀ {cs : List Cst} {x : Str}, Cst.exc x ∈ cs ↔ x ∈ excsOf cs
  | [], x => by simp [excsOf]
  | c :: cs, x => by
    have ih := @excs_mem cs x
    cases c <;> simp [excsOf, ih]
def okB (fs : List FnD) : Bool := fs.all fun f => scB f && simpleB f
section
variable {P : Program} {w : World} {K : PySem.W.Frag} {h : Heap} {mg : Str → Option Value} {fs : List FnD} {cs : List Cst}
theorem def_of (X : K.In h) (G : h.Ns mainGlobals mg) (c : He.SaysD (faOf fs cs) (fs.map FnD.d) K) (hb : okB fs = true) {f : FnD} (hf : f ∈ fs) : (∃ a fd, FunD K f.x f.qual f.params f.body f.scope [] [] a fd ∧ mg f.x = some (.ref a)) ∧ scB f = true ∧ simpleB f = true := by
  have hb' := List.all_eq_true.mp hb f hf
  rw [Bool.and_eq_true_iff] at hb'
  obtain ⟨i, hi⟩ := List.getElem?_of_mem hf
  obtain ⟨fd, F⟩ := c.def_ i (d := f.d) (by rw [List.getElem?_map, hi]; rfl)
  have g := He.glo_ok X G (SaysD.mem_fact c (f := .glo f.x) (List.mem_append_left _ (List.mem_map.mpr ⟨f, hf, rfl⟩)))
  exact ⟨⟨_, fd, F, g⟩, hb'⟩
theorem defs_ok (X : K.In h) (G : h.Ns mainGlobals mg) (c : He.SaysD (faOf fs cs) (fs.map FnD.d) K) (hb : okB fs = true) : ∀ f ∈ fs, DefOk K mg f := fun f hf => by
  obtain ⟨⟨a, fd, F, g⟩, h1, h2⟩ := def_of X G c hb hf
  obtain ⟨sc, hl⟩ := scB_ok h1
  exact ⟨⟨a, fd, F, g, simple_binds h2 sc.nd F⟩, sc, hl⟩
theorem cst_fact (c : He.SaysD (faOf fs cs) (fs.map FnD.d) K) {z : Cst} (hm : z ∈ cs) : z.fa.ok K = true :=
  SaysD.mem_fact c (List.mem_append_right _ (List.mem_append_left _ (List.mem_map.mpr ⟨z, hm, rfl⟩)))
theorem glo_exc (X : K.In h) (G : h.Ns mainGlobals mg) (c : He.SaysD (faOf fs cs) (fs.map FnD.d) K) {x : Str} (hm : x ∈ excsOf cs) : mg x = some (.ref (He.ga K x)) :=
  He.glo_ok X G (SaysD.mem_fact c (f := .glo x) (List.mem_append_right _ (List.mem_append_right _ (List.mem_append_right _ (List.mem_append_left _ (List.mem_map.mpr ⟨x, hm, rfl⟩))))))
theorem con_ok (X : K.In h) (G : h.Ns mainGlobals mg) (c : He.SaysD (faOf fs cs) (fs.map FnD.d) K) (x : Str) (w' : W) (e : (cs.map Cst.con).lookup x = some w') : ∃ u v, mg x = some u ∧ RelV v u ∧ ∀ ρ H, RW ⟨P, w, K, mg⟩ ρ H w' v := by
  obtain ⟨z, hm, ez⟩ := con_lookup e
  have f := cst_fact c hm
  cases z with
  | int y i =>
    cases ez
    obtain ⟨t, g⟩ := He.int_ok X G f
    exact ⟨_, .int i, g, ⟨t, rfl⟩, fun ρ H => by rw [RW]⟩
  | str y z =>
    cases ez
    obtain ⟨t, g⟩ := He.str_ok X G f
    exact ⟨_, .str z, g, ⟨t, rfl⟩, fun ρ H => by rw [RW]⟩
  | exc y =>
    cases ez
    have g := glo_exc X G c (excs_mem.mp hm)
    exact ⟨_, .ref _, g, rfl, fun ρ H => by rw [RW]; exact ⟨_, rfl, g⟩⟩
  | fn y =>
    cases ez
    have g := He.glo_ok X G f
    exact ⟨_, .ref _, g, rfl, fun ρ H => by rw [RW]; exact ⟨_, rfl, g⟩⟩
theorem exc_ok' (X : K.In h) (G : h.Ns mainGlobals mg) (c : He.SaysD (faOf fs cs) (fs.map FnD.d) K) {x : Str} (hm : x ∈ excsOf cs) : ExcK K mg x := by
  obtain ⟨q1, q2, q3, q4⟩ := He.exc_ok (cst_fact c (excs_mem.mpr hm))
  exact ⟨_, glo_exc X G c hm, q1, q2, q3, q4⟩
theorem excV_exc (X : K.In h) (G : h.Ns mainGlobals mg) (c : He.SaysD (faOf fs cs) (fs.map FnD.d) K) {x : Str} (hm : x ∈ excsOf cs) : excV ⟨P, w, K, mg⟩ x = .ref (He.ga K x) := excV_at (M := ⟨P, w, K, mg⟩) (glo_exc X G c hm)
theorem sub_ok' (X : K.In h) (G : h.Ns mainGlobals mg) (c : He.SaysD (faOf fs cs) (fs.map FnD.d) K) {x y : Str} (hx : x ∈ excsOf cs) (hy : y ∈ excsOf cs) : PySem.W.exmOne K (excV ⟨P, w, K, mg⟩ x) (excV ⟨P, w, K, mg⟩ y) = some (decide (x = y) || decide (y = ("TrickError" : Str))) := by
  have q := He.exm_ok (SaysD.mem_fact c (f := .exm x y (decide (x = y) || decide (y = ("TrickError" : Str)))) (List.mem_append_right _ (List.mem_append_right _ (List.mem_append_right _ (List.mem_append_right _ (List.mem_flatMap.mpr ⟨x, hx, List.mem_map.mpr ⟨y, hy, rfl⟩⟩))))))
  rw [excV_exc X G c hx, excV_exc X G c hy]
  exact q
theorem free_ok' (X : K.In h) (G : h.Ns mainGlobals mg) (c : He.SaysD (faOf fs cs) (fs.map FnD.d) K) (x : Str) (hx : x ∈ freeNames) : mg x = none :=
  He.free_ok X G (SaysD.mem_fact c (f := .free x) (List.mem_append_right _ (List.mem_append_right _ (List.mem_append_left _ (List.mem_map.mpr ⟨x, hx, rfl⟩)))))
theorem ers_ok (X : K.In h) (G : h.Ns mainGlobals mg) (c : He.SaysD (faOf fs cs) (fs.map FnD.d) K) {xs : List Str} (cx : fxB (fxOf xs) K = true) (hxs : ∀ x ∈ xs, x ∈ excsOf cs) : ErrsOk xs P w K mg where
  exy := fun x hx => by
    have hx := List.contains_iff_mem.mp hx
    have hm := hxs x hx
    obtain ⟨q1, q2, q3, q4⟩ := He.exc_ok (cst_fact c (excs_mem.mpr hm))
    have f : (XFa.exc x).ok K = true := List.all_eq_true.mp cx _ (List.mem_append_left _ (List.mem_map.mpr ⟨x, hx, rfl⟩))
    obtain ⟨f1, f⟩ := He.ba f
    obtain ⟨f2, f⟩ := He.ba f
    obtain ⟨f3, f⟩ := He.ba f
    obtain ⟨f4, f⟩ := He.ba f
    obtain ⟨f5, f⟩ := He.ba f
    obtain ⟨f6, f⟩ := He.ba f
    obtain ⟨f7, f⟩ := He.ba f
    obtain ⟨f8, f9⟩ := He.ba f
    exact ⟨_, glo_exc X G c hm, q1, q2, ⟨He.eqO_ok f1, He.eqO_ok f2, of_decide_eq_true f3, f4, He.eqO_ok f5, He.eqO_ok f6, of_decide_eq_true f7, of_decide_eq_true f8⟩, He.eqO_ok f9, q3⟩
  kit := fun x y hx hy => by
    have hx := List.contains_iff_mem.mp hx
    have hy := List.contains_iff_mem.mp hy
    have f : (XFa.kit x y (decide (x = y) || decide (y = ("TrickError" : Str)))).ok K = true := List.all_eq_true.mp cx _ (List.mem_append_right _ (List.mem_append_right _ (List.mem_flatMap.mpr ⟨x, hx, List.mem_map.mpr ⟨y, hy, rfl⟩⟩)))
    rw [excV_exc X G c (hxs x hx), excV_exc X G c (hxs y hy)]
    exact of_decide_eq_true f
  kitV := fun x hx => by
    have hx := List.contains_iff_mem.mp hx
    have f : (XFa.kitV x).ok K = true := List.all_eq_true.mp cx _ (List.mem_append_right _ (List.mem_append_left _ (List.mem_map.mpr ⟨x, hx, rfl⟩)))
    rw [excV_exc X G c (hxs x hx)]
    exact of_decide_eq_true f
end
theorem callK_at {T : Nat → Option FnT} {i : Nat} {f : FnT} (h : T i = some f) (k : Nat) (ws : List W) (ah : AH) : callK T (k + 1) i ws ah = fnRun f.pure f.slots (f.body (callK T k)) ws ah := by
  show (match T i with
    | some f => fnRun f.pure f.slots (f.body (callK T k)) ws ah
    | none => .stuck) = _
  rw [h]
/-- the law's def keeps its promise -/
theorem law_fn {P : Program} {w : World} {K : PySem.W.Frag} {h : Heap} {mg : Str → Option Value} {gs : Gs} {fs fs2 vs hs : List FnD} {cs : List Cst} {fl : FnD} {fa : Addr} {x : Str} {T : Nat → Option FnT} (k : Nat) (X : K.In h) (G : h.Ns mainGlobals mg) (c : He.SaysD (faOf fs cs) (fs.map FnD.d) K) (cx : fxB (fxOf gs.exv) K = true)
    (hb : okB fs = true) (TB : Tabs gs fs fs2 vs hs T) (hcon : gs.con = cs.map Cst.con) (hexs : gs.exs = excsOf cs) (hexv : (gs.exv.all fun y => (excsOf cs).contains y) = true)
    (hfl : fl ∈ fs) (hn : fl.n = 1) (hx : fl.N.take fl.n = [x]) (hm : mg fl.x = some (.ref fa)) :
    ∃ fd : FuncData, (∀ (s : Shared) (u : Value), BindsTo s fd ⟨[u], []⟩ [(x, u)]) ∧ ∀ base : Heap, K.In base → base.Ns mainGlobals mg → FnOk P w K mg base (L2.CX P w) (k + 1) fa fd [x] (spI ⟨P, w, K, mg⟩ 1 (callK T (k + 1) fl.ix)) := by
  obtain ⟨⟨a, fd, F, g⟩, h1, h2⟩ := def_of X G c hb hfl
  obtain ⟨sc, _⟩ := scB_ok h1
  rw [g] at hm
  cases hm
  refine ⟨fd, fun s u => simple_one h2 sc.nd hx F s u, fun base Kb Gb => ?_⟩
  have D := defs_ok X G c hb
  have B : ModB gs P w K mg := ⟨ers_ok X G c cx fun y hy => List.contains_iff_mem.mp (List.all_eq_true.mp hexv y hy), by rw [hcon]; exact con_ok X G c, free_ok' X G c, fun y hy => exc_ok' X G c (by rw [hexs] at hy; exact List.contains_iff_mem.mp hy), fun a b ha hb => sub_ok' X G c (by rw [hexs] at ha; exact List.contains_iff_mem.mp ha) (by rw [hexs] at hb; exact List.contains_iff_mem.mp hb)⟩
  have M := mod_ok (base := base) TB D B k
  have l1 : (fl.N.take fl.n).length = 1 := by rw [hx]; rfl
  rw [← hx]
  refine F.ok sc (fun vs H Q E h => by rw [l1]; exact h.1) fun cdv A outer s H vs Q E hr h => ?_
  obtain ⟨hv, ρ, ws, ah, rh, rw, o⟩ := h
  refine ⟨_, (comp_ok _ k deep).SS fl.cc _ (fun cls d _ H' => E cls d H') fl.body ⟨rfl, rfl, sc.nd, rfl, tgOk_fn, hr, takes_of rfl rfl rfl rfl, M⟩ (passes_of rfl) ⟨sc.kind, rfl, rfl, rfl⟩, ?_⟩
  rw [call_at TB hfl] at o
  exact fn_reading rh rw o
end Dn
end
section
set_option Elab.async false
set_option linter.all false
set_option maxRecDepth 100000
set_option maxHeartbeats 4000000
namespace Dn
open PySem PySem.Spec PyProof.Rows L2
/-- is_number -/
def d0_is_number (Γ : Calls) : DS :=
  (sSeq (sRet (dAnd (dIsi BT.int (dVar 0)) (dAnd (dNot (dIsi BT.bool (dVar 0))) (dChain leV leV (dVar 1) (dVar 0) (dVar 2)))))
  sNext)
def f0 : FnT := ⟨3, 3, true, d0_is_number⟩
/-- is_many -/
def d1_is_many (Γ : Calls) : DS :=
  (sSeq (sRet (dOr (dAnd (dIsi BT.str (dVar 0)) (dBin eqV' (dVar 0) (dC (.str "that")))) (dOwn Γ 0 3 (dCons (dVar 0) (dCons (dVar 1) (dCons (dC (.int 40)) dNil))))))
  sNext)
def f1 : FnT := ⟨2, 2, true, d1_is_many⟩
/-- is_rest -/
def d2_is_rest (Γ : Calls) : DS :=
  (sSeq (sRet (dAnd (dIsi BT.str (dVar 0)) (dBin (inW false) (dVar 0) (dTup (dCons (dC (.str "on")) (dCons (dC (.str "under")) dNil))))))
  sNext)
def f2 : FnT := ⟨1, 1, true, d2_is_rest⟩
/-- is_step -/
def d3_is_step (Γ : Calls) : DS :=
  (sSeq (sIf (tOr' (tNot' (Dn.tVal (dIsi BT.tuple (dVar 0)))) (tOr' (Dn.tVal (dBin eqV' (dVar 0) (dTup dNil))) (tNot' (Dn.tVal (dIsi BT.str (dBin idxW (dVar 0) (dC (.int 0)))))))) (sSeq (sRet (dC (.bl false)))
  sNext) sNext)
  (sSeq (sPar2 1 2 (dCons (dBin idxW (dVar 0) (dC (.int 0))) (dCons (dSl false (dVar 0) (oSome (dC (.int 1))) oNone) dNil)))
  (sSeq (sIf (Dn.tVal (dBin (inW false) (dVar 1) (dTup (dCons (dC (.str "free")) (dCons (dC (.str "away")) (dCons (dC (.str "turn")) dNil)))))) (sSeq (sRet (dBin eqV' (dVar 2) (dTup dNil)))
  sNext) sNext)
  (sSeq (sIf (Dn.tVal (dBin (inW false) (dVar 1) (dTup (dCons (dC (.str "cut")) (dCons (dC (.str "look")) dNil))))) (sSeq (sRet (dAnd (dBin eqV' (dCall gLenW (dCons (dVar 2) dNil)) (dC (.int 1))) (dOwn Γ 1 2 (dCons (dBin idxW (dVar 2) (dC (.int 0))) (dCons (dCall gInt (dCons (dBin eqV' (dVar 1) (dC (.str "look"))) dNil)) dNil)))))
  sNext) sNext)
  (sSeq (sIf (Dn.tVal (dBin neV' (dCall gLenW (dCons (dVar 2) dNil)) (dC (.int 2)))) (sSeq (sRet (dC (.bl false)))
  sNext) sNext)
  (sSeq (sIf (Dn.tVal (dBin (inW false) (dVar 1) (dTup (dCons (dC (.str "name")) (dCons (dC (.str "think")) dNil))))) (sSeq (sRet (dAnd (dOwn Γ 0 3 (dCons (dBin idxW (dVar 2) (dC (.int 0))) (dCons (dC (.int 1)) (dCons (dC (.int 40)) dNil)))) (dOwn Γ 0 3 (dCons (dBin idxW (dVar 2) (dC (.int 1))) (dCons (dBin idxW (dVar 2) (dC (.int 0))) (dCons (dCall gMin2 (dCons (dC (.int 40)) (dCons (dAdd false (dBin idxW (dVar 2) (dC (.int 0))) (dC (.int 5))) dNil))) dNil))))))
  sNext) sNext)
  (sSeq (sIf (Dn.tVal (dBin eqV' (dVar 1) (dC (.str "deal")))) (sSeq (sRet (dAnd (dOwn Γ 1 2 (dCons (dBin idxW (dVar 2) (dC (.int 0))) (dCons (dC (.int 0)) dNil))) (dOwn Γ 2 1 (dCons (dBin idxW (dVar 2) (dC (.int 1))) dNil))))
  sNext) sNext)
  (sSeq (sRet (dAnd (dBin eqV' (dVar 1) (dC (.str "piles"))) (dAnd (dOwn Γ 0 3 (dCons (dBin idxW (dVar 2) (dC (.int 0))) (dCons (dC (.int 2)) (dCons (dC (.int 6)) dNil)))) (dOwn Γ 0 3 (dCons (dBin idxW (dVar 2) (dC (.int 1))) (dCons (dC (.int 0)) (dCons (dBin subV (dBin idxW (dVar 2) (dC (.int 0))) (dC (.int 1))) dNil)))))))
  sNext))))))))
def f3 : FnT := ⟨1, 3, true, d3_is_step⟩
/-- stands_well -/
def d4_stands_well (Γ : Calls) : DS :=
  (sSeq (sPar2 2 3 (dCons (dBin idxW (dVar 0) (dVar 1)) (dCons (dLc false (iE (dSl false (dVar 0) oNone (oSome (dVar 1)))) (.one 4) yesT (dBin idxW (dVar 4) (dC (.int 0))) [4]) dNil)))
  (sSeq (sIf (tAnd' (Dn.tVal (dBin eqV' (dBin idxW (dVar 2) (dC (.int 0))) (dC (.str "look")))) (tNot' (Dn.tVal (dCall gAll (dCons (dLc false (iE (dVar 3)) (.one 5) yesT (dBin (inW false) (dVar 5) (dTup (dCons (dC (.str "name")) (dCons (dC (.str "think")) dNil)))) [5]) dNil))))) (sSeq (sRet (dC (.bl false)))
  sNext) sNext)
  (sSeq (sRet (dOr (dBin (inW true) (dC (.str "that")) (dSl false (dVar 2) (oSome (dC (.int 1))) (oSome (dC (.int 2))))) (dOr (dBin (inW false) (dC (.str "name")) (dVar 3)) (dBin (inW false) (dC (.str "think")) (dVar 3)))))
  sNext)))
def f4 : FnT := ⟨2, 6, true, d4_stands_well⟩
/-- is_trick -/
def d5_is_trick (Γ : Calls) : DS :=
  (sSeq (sIf (tOr' (tNot' (Dn.tVal (dIsi BT.tuple (dVar 0)))) (tOr' (Dn.tVal (dBin gtV (dCall gLenW (dCons (dVar 0) dNil)) (dC (.int 8)))) (tNot' (Dn.tVal (dCall gAll (dCons (dLc false (iE (dVar 0)) (.one 1) yesT (dOwn Γ 3 1 (dCons (dVar 1) dNil)) [1]) dNil)))))) (sSeq (sRet (dC (.bl false)))
  sNext) sNext)
  (sSeq (sAsg (dLc false (iE (dVar 0)) (.one 1) yesT (dBin idxW (dVar 1) (dC (.int 0))) [1]) (gSet 2))
  (sSeq (sIf (tOr' (Dn.tVal (dBin gtV (dMt "list" mCount (dVar 2) (dCons (dC (.str "free")) dNil)) (dC (.int 2)))) (tOr' (Dn.tVal (dBin gtV (dAdd false (dMt "list" mCount (dVar 2) (dCons (dC (.str "name")) dNil)) (dMt "list" mCount (dVar 2) (dCons (dC (.str "think")) dNil))) (dC (.int 2)))) (Dn.tVal (dBin gtV (dMt "list" mCount (dVar 2) (dCons (dC (.str "look")) dNil)) (dC (.int 1)))))) (sSeq (sRet (dC (.bl false)))
  sNext) sNext)
  (sSeq (sRet (dCall gAll (dCons (dLc false (iRg (dCons (dCall gLenW (dCons (dVar 0) dNil)) dNil)) (.one 3) yesT (dOwn Γ 4 2 (dCons (dVar 0) (dCons (dVar 3) dNil))) [3]) dNil)))
  sNext))))
def f5 : FnT := ⟨1, 4, true, d5_is_trick⟩
/-- need_trick -/
def d6_need_trick (Γ : Calls) : DS :=
  (sSeq (sIf (tNot' (Dn.tVal (dOwn Γ 5 1 (dCons (dVar 0) dNil)))) (sSeq (sRaise "InvalidTrick")
  sNext) sNext)
  sNext)
def f6 : FnT := ⟨1, 1, true, d6_need_trick⟩
/-- need_size -/
def d7_need_size (Γ : Calls) : DS :=
  (sSeq (sIf (tNot' (Dn.tVal (dOwn Γ 0 3 (dCons (dVar 0) (dCons (dC (.int 2)) (dCons (dC (.int 40)) dNil)))))) (sSeq (sRaise "InvalidSize")
  sNext) sNext)
  sNext)
def f7 : FnT := ⟨1, 1, true, d7_need_size⟩
/-- has_look -/
def d8_has_look (Γ : Calls) : DS :=
  (sSeq (sRet (dBin (inW false) (dC (.str "look")) (dLc false (iE (dVar 0)) (.one 1) yesT (dBin idxW (dVar 1) (dC (.int 0))) [1])))
  sNext)
def f8 : FnT := ⟨1, 2, true, d8_has_look⟩
/-- asking -/
def d9_asking (Γ : Calls) : DS :=
  (sSeq (sRet (dLc false (iE (dVar 0)) (.one 1) (Dn.tVal (dBin (inW false) (dBin idxW (dVar 1) (dC (.int 0))) (dTup (dCons (dC (.str "free")) (dCons (dC (.str "name")) (dCons (dC (.str "think")) dNil)))))) (dVar 1) [1]))
  sNext)
def f9 : FnT := ⟨1, 2, true, d9_asking⟩
/-- hidden_of -/
def d10_hidden_of (Γ : Calls) : DS :=
  (sSeq (sRet (dLc false (iEn (dVar 0)) (.tup [1, 2]) (Dn.tVal (dBin (inW false) (dBin idxW (dVar 2) (dC (.int 0))) (dTup (dCons (dC (.str "free")) (dCons (dC (.str "think")) dNil))))) (dVar 1) [1, 2]))
  sNext)
def f10 : FnT := ⟨1, 3, true, d10_hidden_of⟩
/-- choices_of -/
def d11_choices_of (Γ : Calls) : DS :=
  (sSeq (sRet (dIf (Dn.tVal (dBin eqV' (dBin idxW (dVar 0) (dC (.int 0))) (dC (.str "free")))) (dRg (kLst false) (dCons (dVar 1) dNil)) (dRg (kLst false) (dCons (dBin idxW (dVar 0) (dC (.int 1))) (dCons (dAdd false (dBin idxW (dVar 0) (dC (.int 2))) (dC (.int 1))) dNil)))))
  sNext)
def f11 : FnT := ⟨2, 2, true, d11_choices_of⟩
/-- is_run_of -/
def d12_is_run_of (Γ : Calls) : DS :=
  (sSeq (sIf (tOr' (tNot' (Dn.tVal (dIsi BT.tuple (dVar 2)))) (tOr' (Dn.tVal (dBin neV' (dCall gLenW (dCons (dVar 2) dNil)) (dC (.int 2)))) (tNot' (Dn.tVal (dIsi BT.tuple (dBin idxW (dVar 2) (dC (.int 1)))))))) (sSeq (sRet (dC (.bl false)))
  sNext) sNext)
  (sSeq (sPar2 3 4 (dCons (dBin idxW (dVar 2) (dC (.int 0))) (dCons (dOwn Γ 9 1 (dCons (dVar 0) dNil)) dNil)))
  (sSeq (sIf (tOr' (tAnd' (Dn.tVal (dOwn Γ 8 1 (dCons (dVar 0) dNil))) (Dn.tVal (dBin isntV (dVar 3) (dC .non)))) (tAnd' (tNot' (Dn.tVal (dOwn Γ 8 1 (dCons (dVar 0) dNil)))) (tNot' (Dn.tVal (dOwn Γ 0 3 (dCons (dVar 3) (dCons (dC (.int 0)) (dCons (dBin subV (dVar 1) (dC (.int 1))) dNil)))))))) (sSeq (sRet (dC (.bl false)))
  sNext) sNext)
  (sSeq (sIf (tOr' (Dn.tVal (dBin neV' (dCall gLenW (dCons (dBin idxW (dVar 2) (dC (.int 1))) dNil)) (dCall gLenW (dCons (dVar 4) dNil)))) (tNot' (Dn.tVal (dCall gAll (dCons (dLc false (iE (dBin idxW (dVar 2) (dC (.int 1)))) (.one 5) yesT (dOwn Γ 0 3 (dCons (dVar 5) (dCons (dC (.int 0)) (dCons (dC (.int 40)) dNil)))) [5]) dNil))))) (sSeq (sRet (dC (.bl false)))
  sNext) sNext)
  (sSeq (sRet (dCall gAll (dCons (dLc false (iZp (dCons (dVar 4) (dCons (dBin idxW (dVar 2) (dC (.int 1))) dNil))) (.tup [6, 5]) yesT (dBin (inW false) (dVar 5) (dOwn Γ 11 2 (dCons (dVar 6) (dCons (dVar 1) dNil)))) [6, 5]) dNil)))
  sNext)))))
def f12 : FnT := ⟨3, 7, true, d12_is_run_of⟩
/-- is_run -/
def d13_is_run (Γ : Calls) : DS :=
  (sSeq (sExpr (dOwn Γ 6 1 (dCons (dVar 0) dNil)))
  (sSeq (sExpr (dOwn Γ 7 1 (dCons (dVar 1) dNil)))
  (sSeq (sRet (dOwn Γ 12 3 (dCons (dVar 0) (dCons (dVar 1) (dCons (dVar 2) dNil)))))
  sNext)))
def f13 : FnT := ⟨3, 3, true, d13_is_run⟩
/-- asked -/
def d14_asked (Γ : Calls) : DS :=
  (sSeq (sExpr (dOwn Γ 6 1 (dCons (dVar 0) dNil)))
  (sSeq (sRet (dOwn Γ 9 1 (dCons (dVar 0) dNil)))
  sNext))
def f14 : FnT := ⟨1, 1, true, d14_asked⟩
/-- hidden -/
def d15_hidden (Γ : Calls) : DS :=
  (sSeq (sExpr (dOwn Γ 6 1 (dCons (dVar 0) dNil)))
  (sSeq (sRet (dOwn Γ 10 1 (dCons (dVar 0) dNil)))
  sNext))
def f15 : FnT := ⟨1, 1, true, d15_hidden⟩
/-- _law_bag -/
def d16_law_bag (Γ : Calls) : DS :=
  (sSeq (sAsg (dIf (Dn.tVal (dBin ltV (dVar 1) (dCall gLenW (dCons (dVar 0) dNil)))) (dBin idxW (dVar 0) (dVar 1)) (dC (.int 0))) (gSet 2))
  (sSeq (sAsg (dIf (Dn.tVal (dBin geV (dVar 2) (dBin powV (dC (.int 10)) (dC (.int 18))))) (dCall gInt (dCons (dVar 2) dNil)) (dC (.int 0))) (gSet 3))
  (sSeq (sRet (dLst true (dCons (dVar 3) (dCons (dBin modV (dCall gInt (dCons (dAdd false (dAdd false (dBin mulV (dCall gInt (dCons (dVar 2) dNil)) (dC (.int 31))) (dBin mulV (dC (.int 7001)) (dVar 1))) (dC (.int 5))) dNil)) (dC (.int 1000000007))) (dCons (dAdd false (dC (.int 1)) (dVar 1)) dNil)))))
  sNext)))
def f16 : FnT := ⟨2, 4, false, d16_law_bag⟩
/-- _law_take -/
def d17_law_take (Γ : Calls) : DS :=
  (sSeq (sIf (Dn.tVal (dBin gtV (dBin idxW (dVar 0) (dC (.int 0))) (dC (.int 0)))) (sSeq (sAsg (dBin modV (dCall gInt (dCons (dBin idxW (dVar 0) (dC (.int 0))) dNil)) (dVar 1)) (gSet 2))
  (sSeq (sAsg (dBin fdivV (dCall gInt (dCons (dBin idxW (dVar 0) (dC (.int 0))) dNil)) (dVar 1)) (gSubS (dVar 0) (dC (.int 0))))
  (sSeq (sRet (dVar 2))
  sNext))) sNext)
  (sSeq (sAsg (dBin modV (dCall gInt (dCons (dAdd false (dBin mulV (dBin idxW (dVar 0) (dC (.int 2))) (dC (.int 69069))) (dC (.int 5))) dNil)) (dC (.int 4294967291))) (gSubS (dVar 0) (dC (.int 2))))
  (sSeq (sAsg (dBin modV (dBin powV (dCall gInt (dCons (dAdd false (dBin idxW (dVar 0) (dC (.int 1))) (dBin idxW (dVar 0) (dC (.int 2)))) dNil)) (dC (.int 2))) (dC (.int 2147483543))) (gSubS (dVar 0) (dC (.int 1))))
  (sSeq (sRet (dBin modV (dCall gInt (dCons (dBin fdivV (dCall gInt (dCons (dBin idxW (dVar 0) (dC (.int 1))) dNil)) (dC (.int 97))) dNil)) (dVar 1)))
  sNext))))
def f17 : FnT := ⟨2, 3, false, d17_law_take⟩
/-- _law_of -/
def d18_law_of (Γ : Calls) : DS :=
  (sSeq (sRet (dBin idxW (dVar 1) (dOwn Γ 17 2 (dCons (dVar 0) (dCons (dCall gLenW (dCons (dVar 1) dNil)) dNil)))))
  sNext)
def f18 : FnT := ⟨2, 2, false, d18_law_of⟩
/-- _law_step -/
def d19_law_step (Γ : Calls) : DS :=
  (sSeq (sPar2 3 4 (dCons (dOwn Γ 17 2 (dCons (dVar 0) (dCons (dC (.int 12)) dNil))) (dCons (dOwn Γ 18 2 (dCons (dVar 0) (dCons (dLst false (dCons (dC (.int 0)) (dCons (dC (.int 1)) (dCons (dC (.int 2)) (dCons (dC (.int 3)) (dCons (dBin subV (dVar 1) (dC (.int 1))) (dCons (dVar 1) (dCons (dC (.int 40)) (dCons (dOwn Γ 17 2 (dCons (dVar 0) (dCons (dC (.int 41)) dNil))) dNil))))))))) dNil))) dNil)))
  (sSeq (sAsg (dIf (tAnd' (Dn.tVal (dVar 2)) (Dn.tVal (dBin gtV (dOwn Γ 17 2 (dCons (dVar 0) (dCons (dC (.int 3)) dNil))) (dC (.int 0))))) (dC (.str "that")) (dVar 4)) (gSet 4))
  (sSeq (sIf (Dn.tVal (dBin ltV (dVar 3) (dC (.int 2)))) (sSeq (sRet (dTup (dCons (dC (.str "cut")) (dCons (dVar 4) dNil))))
  sNext) sNext)
  (sSeq (sIf (Dn.tVal (dBin ltV (dVar 3) (dC (.int 5)))) (sSeq (sRet (dTup (dCons (dC (.str "deal")) (dCons (dVar 4) (dCons (dOwn Γ 18 2 (dCons (dVar 0) (dCons (dLst false (dCons (dC (.str "on")) (dCons (dC (.str "under")) dNil))) dNil))) dNil)))))
  sNext) sNext)
  (sSeq (sIf (Dn.tVal (dBin ltV (dVar 3) (dC (.int 9)))) (sSeq (sAsg (dOwn Γ 18 2 (dCons (dVar 0) (dCons (dLst false (dCons (dC (.int 2)) (dCons (dC (.int 2)) (dCons (dC (.int 3)) (dCons (dC (.int 3)) (dCons (dC (.int 4)) (dCons (dC (.int 6)) dNil))))))) dNil))) (gSet 5))
  (sSeq (sRet (dTup (dCons (dC (.str "piles")) (dCons (dVar 5) (dCons (dOwn Γ 17 2 (dCons (dVar 0) (dCons (dVar 5) dNil))) dNil)))))
  sNext)) sNext)
  (sSeq (sRet (dTup (dCons (dOwn Γ 18 2 (dCons (dVar 0) (dCons (dLst false (dCons (dC (.str "away")) (dCons (dC (.str "turn")) dNil))) dNil))) dNil)))
  sNext))))))
def f19 : FnT := ⟨3, 6, false, d19_law_step⟩
/-- _law_asking -/
def d20_law_asking (Γ : Calls) : DS :=
  (sSeq (sAsg (dOwn Γ 18 2 (dCons (dVar 0) (dCons (dLst false (dCons (dC (.int 1)) (dCons (dC (.int 1)) (dCons (dC (.int 2)) (dCons (dC (.int 5)) (dCons (dC (.int 35)) dNil)))))) dNil))) (gSet 1))
  (sSeq (sRet (dTup (dCons (dOwn Γ 18 2 (dCons (dVar 0) (dCons (dLst false (dCons (dC (.str "name")) (dCons (dC (.str "think")) (dCons (dC (.str "think")) dNil)))) dNil))) (dCons (dVar 1) (dCons (dAdd false (dVar 1) (dOwn Γ 17 2 (dCons (dVar 0) (dCons (dC (.int 4)) dNil)))) dNil)))))
  sNext))
def f20 : FnT := ⟨1, 2, false, d20_law_asking⟩
/-- _law_trick -/
def d21_law_trick (Γ : Calls) : DS :=
  (sSeq (sPar3 3 4 5 (dCons (dTup dNil) (dCons (dLst false dNil) (dCons (dC (.bl false)) dNil))))
  (sSeq (sIf (Dn.tVal (dBin eqV' (dOwn Γ 17 2 (dCons (dVar 0) (dCons (dC (.int 3)) dNil))) (dC (.int 0)))) (sSeq (sPar2 3 5 (dCons (dTup (dCons (dOwn Γ 20 1 (dCons (dVar 0) dNil)) dNil)) (dCons (dC (.bl true)) dNil)))
  (sSeq (sIf (Dn.tVal (dBin eqV' (dOwn Γ 17 2 (dCons (dVar 0) (dCons (dC (.int 2)) dNil))) (dC (.int 0)))) (sSeq (sAsg (dAdd false (dVar 3) (dTup (dCons (dTup (dCons (dC (.str "look")) (dCons (dOwn Γ 18 2 (dCons (dVar 0) (dCons (dLst false (dCons (dC (.str "that")) (dCons (dC (.str "that")) (dCons (dAdd false (dC (.int 1)) (dOwn Γ 17 2 (dCons (dVar 0) (dCons (dC (.int 9)) dNil)))) dNil)))) dNil))) dNil))) dNil))) (gSet 3))
  sNext) sNext)
  sNext)) sNext)
  (sSeq (sFor (iRg (dCons (dOwn Γ 17 2 (dCons (dVar 0) (dCons (dAdd false (dVar 2) (dC (.int 1))) dNil))) dNil)) (.one 6) (sSeq (sAsg (dLc false (iE (dVar 3)) (.one 7) yesT (dBin idxW (dVar 7) (dC (.int 0))) [7]) (gSet 4))
  (sSeq (sAsg (dOwn Γ 17 2 (dCons (dVar 0) (dCons (dC (.int 9)) dNil))) (gSet 8))
  (sSeq (sIf (tAnd' (Dn.tVal (dBin eqV' (dVar 8) (dC (.int 0)))) (Dn.tVal (dBin ltV (dMt "list" mCount (dVar 4) (dCons (dC (.str "free")) dNil)) (dC (.int 1))))) (sSeq (sAsg (dAdd false (dVar 3) (dTup (dCons (dTup (dCons (dC (.str "free")) dNil)) dNil))) (gSet 3))
  sNext) (sSeq (sIf (tAnd' (Dn.tVal (dBin eqV' (dVar 8) (dC (.int 1)))) (Dn.tVal (dBin ltV (dAdd false (dMt "list" mCount (dVar 4) (dCons (dC (.str "name")) dNil)) (dMt "list" mCount (dVar 4) (dCons (dC (.str "think")) dNil))) (dC (.int 2))))) (sSeq (sPar2 3 5 (dCons (dAdd false (dVar 3) (dTup (dCons (dOwn Γ 20 1 (dCons (dVar 0) dNil)) dNil))) (dCons (dC (.bl true)) dNil)))
  sNext) (sSeq (sAsg (dAdd false (dVar 3) (dTup (dCons (dOwn Γ 19 3 (dCons (dVar 0) (dCons (dVar 1) (dCons (dVar 5) dNil)))) dNil))) (gSet 3))
  sNext))
  sNext))
  sNext))))
  (sSeq (sRet (dSl false (dVar 3) oNone (oSome (dC (.int 8)))))
  sNext))))
def f21 : FnT := ⟨3, 9, false, d21_law_trick⟩
/-- _law_asked -/
def d22_law_asked (Γ : Calls) : DS :=
  (sSeq (sRet (dLc false (iE (dVar 0)) (.one 1) (Dn.tVal (dBin (inW false) (dBin idxW (dVar 1) (dC (.int 0))) (dLst false (dCons (dC (.str "free")) (dCons (dC (.str "name")) (dCons (dC (.str "think")) dNil)))))) (dVar 1) [1]))
  sNext)
def f22 : FnT := ⟨1, 2, true, d22_law_asked⟩
/-- _law_run -/
def d23_law_run (Γ : Calls) : DS :=
  (sSeq (sAsg (dCall gTuple (dCons (dLc false (iE (dOwn Γ 22 1 (dCons (dVar 1) dNil))) (.one 4) yesT (dOwn Γ 18 2 (dCons (dVar 0) (dCons (dOwn Γ 11 2 (dCons (dVar 4) (dCons (dVar 2) dNil))) dNil))) [4]) dNil)) (gSet 3))
  (sSeq (sRet (dTup (dCons (dIf (Dn.tVal (dOwn Γ 8 1 (dCons (dVar 1) dNil))) (dC .non) (dOwn Γ 17 2 (dCons (dVar 0) (dCons (dVar 2) dNil)))) (dCons (dVar 3) dNil))))
  sNext))
def f23 : FnT := ⟨3, 5, false, d23_law_run⟩
/-- _law_any_value -/
def d24_law_any_value (Γ : Calls) : DS :=
  (sSeq (sAsg (dOwn Γ 17 2 (dCons (dVar 0) (dCons (dC (.int 8)) dNil))) (gSet 2))
  (sSeq (sIf (tOr' (Dn.tVal (dBin ltV (dVar 2) (dC (.int 5)))) (Dn.tVal (dBin eqV' (dVar 1) (dC (.int 0))))) (sSeq (sAsg (dLst false (dCons (dC (.int 0)) (dCons (dUn negV (dC (.int 1))) (dCons (dC (.int 1)) (dCons (dC (.int 2)) (dCons (dC (.int 5)) (dCons (dC (.int 40)) (dCons (dC (.int 41)) (dCons (dC (.bl true)) (dCons (dC (.bl false)) (dCons (dC .non) (dCons (dC (.str "")) (dCons (dC (.str "that")) (dCons (dC (.str "on")) (dCons (dC (.str "under")) (dCons (dC (.str "cut")) (dCons (dC (.str "free")) dNil))))))))))))))))) (gSet 3))
  (sSeq (sRet (dOwn Γ 18 2 (dCons (dVar 0) (dCons (dAdd false (dVar 3) (dLst false (dCons (dBin powV (dC (.int 10)) (dC (.int 30))) (dCons (dTup dNil) (dCons (dLst false dNil) (dCons (dTup (dCons (dC (.str "turn")) dNil)) (dCons (dTup (dCons (dC (.str "away")) dNil)) (dCons (dTup (dCons (dC (.str "cut")) (dCons (dC (.int 3)) dNil))) (dCons (dTup (dCons (dC (.str "look")) (dCons (dC (.str "that")) dNil))) dNil))))))))) dNil))))
  sNext)) sNext)
  (sSeq (sAsg (dLc false (iRg (dCons (dOwn Γ 17 2 (dCons (dVar 0) (dCons (dC (.int 5)) dNil))) dNil)) (.one 5) yesT (dOwn Γ 24 2 (dCons (dVar 0) (dCons (dBin subV (dVar 1) (dC (.int 1))) dNil))) [5]) (gSet 4))
  (sSeq (sRet (dBin idxW (dLst false (dCons (dVar 4) (dCons (dCall gTuple (dCons (dVar 4) dNil)) (dCons (dCall gTuple (dCons (dVar 4) dNil)) dNil)))) (dBin subV (dVar 2) (dC (.int 5)))))
  sNext))))
def f24 : FnT := ⟨2, 6, false, d24_law_any_value⟩
/-- _law_spoiled -/
def d25_law_spoiled (Γ : Calls) : DS :=
  (sSeq (sIf (tOr' (tNot' (Dn.tVal (dIsi BT.tuple (dVar 1)))) (tOr' (Dn.tVal (dBin eqV' (dVar 1) (dTup dNil))) (Dn.tVal (dBin eqV' (dOwn Γ 17 2 (dCons (dVar 0) (dCons (dC (.int 6)) dNil))) (dC (.int 0)))))) (sSeq (sAsg (dLst false (dCons (dOwn Γ 24 2 (dCons (dVar 0) (dCons (dC (.int 1)) dNil))) (dCons (dLst false (dCons (dVar 1) dNil)) dNil))) (gSet 2))
  (sSeq (sIf (Dn.tVal (dIsi BT.int (dVar 1))) (sSeq (sAsg (dAdd false (dVar 2) (dLst false (dCons (dAdd false (dCall gInt (dCons (dVar 1) dNil)) (dC (.int 1))) (dCons (dBin subV (dCall gInt (dCons (dVar 1) dNil)) (dC (.int 1))) (dCons (dAdd false (dCall gInt (dCons (dVar 1) dNil)) (dC (.int 6))) (dCons (dC (.bl true)) dNil)))))) (gSet 2))
  sNext) sNext)
  (sSeq (sIf (Dn.tVal (dIsi BT.str (dVar 1))) (sSeq (sAsg (dAdd false (dVar 2) (dLst false (dCons (dAdd false (dVar 1) (dC (.str "s"))) (dCons (dMt "str" mUpper (dVar 1) dNil) (dCons (dC (.str "deal")) (dCons (dC (.str "piles")) (dCons (dC (.str "name")) (dCons (dC (.str "think")) dNil)))))))) (gSet 2))
  sNext) sNext)
  (sSeq (sRet (dOwn Γ 18 2 (dCons (dVar 0) (dCons (dVar 2) dNil))))
  sNext)))) sNext)
  (sSeq (sPar2 3 4 (dCons (dOwn Γ 17 2 (dCons (dVar 0) (dCons (dCall gLenW (dCons (dVar 1) dNil)) dNil))) (dCons (dOwn Γ 17 2 (dCons (dVar 0) (dCons (dC (.int 8)) dNil))) dNil)))
  (sSeq (sIf (Dn.tVal (dBin eqV' (dVar 4) (dC (.int 0)))) (sSeq (sRet (dAdd false (dSl false (dVar 1) oNone (oSome (dVar 3))) (dSl false (dVar 1) (oSome (dAdd false (dVar 3) (dC (.int 1)))) oNone)))
  sNext) sNext)
  (sSeq (sIf (Dn.tVal (dBin eqV' (dVar 4) (dC (.int 1)))) (sSeq (sRet (dAdd false (dAdd false (dSl false (dVar 1) oNone (oSome (dVar 3))) (dBin mulV (dSl false (dVar 1) (oSome (dVar 3)) (oSome (dAdd false (dVar 3) (dC (.int 1))))) (dC (.int 2)))) (dSl false (dVar 1) (oSome (dAdd false (dVar 3) (dC (.int 1)))) oNone)))
  sNext) sNext)
  (sSeq (sIf (Dn.tVal (dBin eqV' (dVar 4) (dC (.int 2)))) (sSeq (sRet (dStep (dVar 1) oNone oNone (oSome (dUn negV (dC (.int 1))))))
  sNext) sNext)
  (sSeq (sIf (Dn.tVal (dBin eqV' (dVar 4) (dC (.int 3)))) (sSeq (sRet (dCallL false gList (dCons (dVar 1) dNil)))
  sNext) sNext)
  (sSeq (sRet (dAdd false (dAdd false (dSl false (dVar 1) oNone (oSome (dVar 3))) (dTup (dCons (dOwn Γ 25 2 (dCons (dVar 0) (dCons (dBin idxW (dVar 1) (dVar 3)) dNil))) dNil))) (dSl false (dVar 1) (oSome (dAdd false (dVar 3) (dC (.int 1)))) oNone)))
  sNext)))))))
def f25 : FnT := ⟨2, 5, false, d25_law_spoiled⟩
/-- _law_is_step -/
def d26_law_is_step (Γ : Calls) : DS :=
  (sSeq (sIf (tOr' (tNot' (Dn.tVal (dIsi BT.tuple (dVar 0)))) (tOr' (Dn.tVal (dBin eqV' (dVar 0) (dTup dNil))) (tNot' (Dn.tVal (dIsi BT.str (dBin idxW (dVar 0) (dC (.int 0)))))))) (sSeq (sRet (dC (.bl false)))
  sNext) sNext)
  (sSeq (sIf (Dn.tVal (dBin (inW false) (dBin idxW (dVar 0) (dC (.int 0))) (dLst false (dCons (dC (.str "free")) (dCons (dC (.str "away")) (dCons (dC (.str "turn")) dNil)))))) (sSeq (sRet (dBin eqV' (dCall gLenW (dCons (dVar 0) dNil)) (dC (.int 1))))
  sNext) sNext)
  (sSeq (sIf (Dn.tVal (dBin (inW false) (dBin idxW (dVar 0) (dC (.int 0))) (dLst false (dCons (dC (.str "cut")) (dCons (dC (.str "look")) dNil))))) (sSeq (sAsg (dCall gInt (dCons (dBin eqV' (dBin idxW (dVar 0) (dC (.int 0))) (dC (.str "look"))) dNil)) (gSet 1))
  (sSeq (sIf (tAnd' (Dn.tVal (dBin eqV' (dCall gLenW (dCons (dVar 0) dNil)) (dC (.int 2)))) (Dn.tVal (dBin eqV' (dSl false (dVar 0) (oSome (dC (.int 1))) oNone) (dTup (dCons (dC (.str "that")) dNil))))) (sSeq (sRet (dC (.bl true)))
  sNext) sNext)
  (sSeq (sRet (dAnd (dBin eqV' (dCall gLenW (dCons (dVar 0) dNil)) (dC (.int 2))) (dOwn Γ 0 3 (dCons (dBin idxW (dVar 0) (dC (.int 1))) (dCons (dVar 1) (dCons (dC (.int 40)) dNil))))))
  sNext))) sNext)
  (sSeq (sIf (Dn.tVal (dBin neV' (dCall gLenW (dCons (dVar 0) dNil)) (dC (.int 3)))) (sSeq (sRet (dC (.bl false)))
  sNext) sNext)
  (sSeq (sIf (Dn.tVal (dBin (inW false) (dBin idxW (dVar 0) (dC (.int 0))) (dLst false (dCons (dC (.str "name")) (dCons (dC (.str "think")) dNil))))) (sSeq (sIf (tNot' (Dn.tVal (dOwn Γ 0 3 (dCons (dBin idxW (dVar 0) (dC (.int 1))) (dCons (dC (.int 1)) (dCons (dC (.int 40)) dNil)))))) (sSeq (sRet (dC (.bl false)))
  sNext) sNext)
  (sSeq (sRet (dOwn Γ 0 3 (dCons (dBin idxW (dVar 0) (dC (.int 2))) (dCons (dBin idxW (dVar 0) (dC (.int 1))) (dCons (dCall gMin2 (dCons (dC (.int 40)) (dCons (dAdd false (dCall gInt (dCons (dBin idxW (dVar 0) (dC (.int 1))) dNil)) (dC (.int 5))) dNil))) dNil)))))
  sNext)) sNext)
  (sSeq (sIf (Dn.tVal (dBin eqV' (dBin idxW (dVar 0) (dC (.int 0))) (dC (.str "deal")))) (sSeq (sIf (tOr' (tNot' (Dn.tVal (dIsi BT.str (dBin idxW (dVar 0) (dC (.int 2)))))) (Dn.tVal (dBin (inW true) (dBin idxW (dVar 0) (dC (.int 2))) (dLst false (dCons (dC (.str "on")) (dCons (dC (.str "under")) dNil)))))) (sSeq (sRet (dC (.bl false)))
  sNext) sNext)
  (sSeq (sRet (dOr (dOwn Γ 0 3 (dCons (dBin idxW (dVar 0) (dC (.int 1))) (dCons (dC (.int 0)) (dCons (dC (.int 40)) dNil)))) (dBin eqV' (dSl false (dVar 0) (oSome (dC (.int 1))) (oSome (dC (.int 2)))) (dTup (dCons (dC (.str "that")) dNil)))))
  sNext)) sNext)
  (sSeq (sIf (tOr' (Dn.tVal (dBin neV' (dBin idxW (dVar 0) (dC (.int 0))) (dC (.str "piles")))) (tNot' (Dn.tVal (dOwn Γ 0 3 (dCons (dBin idxW (dVar 0) (dC (.int 1))) (dCons (dC (.int 2)) (dCons (dC (.int 6)) dNil))))))) (sSeq (sRet (dC (.bl false)))
  sNext) sNext)
  (sSeq (sRet (dOwn Γ 0 3 (dCons (dBin idxW (dVar 0) (dC (.int 2))) (dCons (dC (.int 0)) (dCons (dBin subV (dCall gInt (dCons (dBin idxW (dVar 0) (dC (.int 1))) dNil)) (dC (.int 1))) dNil)))))
  sNext))))))))
def f26 : FnT := ⟨1, 2, true, d26_law_is_step⟩
/-- _law_is_trick -/
def d27_law_is_trick (Γ : Calls) : DS :=
  (sSeq (sIf (tOr' (tNot' (Dn.tVal (dIsi BT.tuple (dVar 0)))) (Dn.tVal (dBin gtV (dCall gLenW (dCons (dVar 0) dNil)) (dC (.int 8))))) (sSeq (sRet (dC (.bl false)))
  sNext) sNext)
  (sSeq (sIf (Dn.tVal (dBin neV' (dLc false (iE (dVar 0)) (.one 1) (tNot' (Dn.tVal (dOwn Γ 26 1 (dCons (dVar 1) dNil)))) (dVar 1) [1]) (dLst false dNil))) (sSeq (sRet (dC (.bl false)))
  sNext) sNext)
  (sSeq (sAsg (dTup (dCons (dC (.int 0)) (dCons (dC (.int 0)) (dCons (dC (.int 0)) dNil)))) (gTupW (gNames [2, 3, 4])))
  (sSeq (sFor (iRg (dCons (dCall gLenW (dCons (dVar 0) dNil)) dNil)) (.one 5) (sSeq (sAsg (dBin idxW (dBin idxW (dVar 0) (dVar 5)) (dC (.int 0))) (gSet 6))
  (sSeq (sAsg (dLc false (iE (dSl false (dVar 0) oNone (oSome (dVar 5)))) (.one 1) (Dn.tVal (dBin (inW true) (dBin idxW (dVar 1) (dC (.int 0))) (dLst false (dCons (dC (.str "name")) (dCons (dC (.str "think")) dNil))))) (dVar 1) [1]) (gSet 7))
  (sSeq (sIf (tAnd' (Dn.tVal (dBin eqV' (dVar 6) (dC (.str "look")))) (Dn.tVal (dBin neV' (dVar 7) (dLst false dNil)))) (sSeq (sRet (dC (.bl false)))
  sNext) sNext)
  (sSeq (sIf (tAnd' (Dn.tVal (dBin (inW false) (dC (.str "that")) (dBin idxW (dVar 0) (dVar 5)))) (Dn.tVal (dBin eqV' (dVar 2) (dC (.int 0))))) (sSeq (sRet (dC (.bl false)))
  sNext) sNext)
  (sSeq (sAsg (dAdd false (dVar 2) (dCall gInt (dCons (dBin (inW false) (dVar 6) (dLst false (dCons (dC (.str "name")) (dCons (dC (.str "think")) dNil)))) dNil))) (gSet 2))
  (sSeq (sPar2 3 4 (dCons (dAdd false (dVar 3) (dCall gInt (dCons (dBin eqV' (dVar 6) (dC (.str "free"))) dNil))) (dCons (dAdd false (dVar 4) (dCall gInt (dCons (dBin eqV' (dVar 6) (dC (.str "look"))) dNil))) dNil)))
  sNext)))))))
  (sSeq (sRet (dAnd (dBin ltV (dVar 2) (dC (.int 3))) (dAnd (dBin ltV (dVar 3) (dC (.int 3))) (dBin ltV (dVar 4) (dC (.int 2))))))
  sNext)))))
def f27 : FnT := ⟨1, 8, true, d27_law_is_trick⟩
/-- _law_is_run -/
def d28_law_is_run (Γ : Calls) : DS :=
  (sSeq (sIf (tOr' (tNot' (Dn.tVal (dIsi BT.tuple (dVar 2)))) (tOr' (Dn.tVal (dBin neV' (dCall gLenW (dCons (dVar 2) dNil)) (dC (.int 2)))) (tNot' (Dn.tVal (dIsi BT.tuple (dBin idxW (dVar 2) (dC (.int 1)))))))) (sSeq (sRet (dC (.bl false)))
  sNext) sNext)
  (sSeq (sIf (Dn.tVal (dBin neV' (dOwn Γ 8 1 (dCons (dVar 0) dNil)) (dBin isV (dBin idxW (dVar 2) (dC (.int 0))) (dC .non)))) (sSeq (sRet (dC (.bl false)))
  sNext) sNext)
  (sSeq (sIf (tAnd' (Dn.tVal (dBin isntV (dBin idxW (dVar 2) (dC (.int 0))) (dC .non))) (tNot' (Dn.tVal (dOwn Γ 0 3 (dCons (dBin idxW (dVar 2) (dC (.int 0))) (dCons (dC (.int 0)) (dCons (dBin subV (dVar 1) (dC (.int 1))) dNil))))))) (sSeq (sRet (dC (.bl false)))
  sNext) sNext)
  (sSeq (sAsg (dOwn Γ 22 1 (dCons (dVar 0) dNil)) (gSet 3))
  (sSeq (sIf (tOr' (Dn.tVal (dBin neV' (dCall gLenW (dCons (dVar 3) dNil)) (dCall gLenW (dCons (dBin idxW (dVar 2) (dC (.int 1))) dNil)))) (Dn.tVal (dBin neV' (dLc false (iE (dBin idxW (dVar 2) (dC (.int 1)))) (.one 4) (tNot' (Dn.tVal (dOwn Γ 0 3 (dCons (dVar 4) (dCons (dC (.int 0)) (dCons (dC (.int 40)) dNil)))))) (dVar 4) [4]) (dLst false dNil)))) (sSeq (sRet (dC (.bl false)))
  sNext) sNext)
  (sSeq (sRet (dBin eqV' (dLc false (iRg (dCons (dCall gLenW (dCons (dVar 3) dNil)) dNil)) (.one 5) (Dn.tVal (dBin (inW true) (dBin idxW (dBin idxW (dVar 2) (dC (.int 1))) (dVar 5)) (dOwn Γ 11 2 (dCons (dBin idxW (dVar 3) (dVar 5)) (dCons (dVar 1) dNil))))) (dVar 5) [5]) (dLst false dNil)))
  sNext))))))
def f28 : FnT := ⟨3, 6, true, d28_law_is_run⟩
/-- _law_told_right -/
def d29_law_told_right (Γ : Calls) : DS :=
  (sSeq (sRet (dAnd (dIsi BT.bool (dVar 0)) (dBin eqV' (dVar 0) (dVar 1))))
  sNext)
def f29 : FnT := ⟨2, 2, true, d29_law_told_right⟩
/-- law -/
def d30_law (Γ : Calls) : DS :=
  (sSeq (sFor (iRg (dCons (dCall gMax2 (dCons (dC (.int 4)) (dCons (dCall gMin2 (dCons (dC (.int 9)) (dCons (dAdd false (dCall gLenW (dCons (dVar 0) dNil)) (dC (.int 3))) dNil))) dNil))) dNil)) (.one 1) (sSeq (sAsg (dOwn Γ 16 2 (dCons (dVar 0) (dCons (dVar 1) dNil))) (gSet 2))
  (sSeq (sAsg (dAdd false (dC (.int 2)) (dOwn Γ 17 2 (dCons (dVar 2) (dCons (dC (.int 39)) dNil)))) (gSet 3))
  (sSeq (sAsg (dOwn Γ 21 3 (dCons (dVar 2) (dCons (dVar 3) (dCons (dC (.int 7)) dNil)))) (gSet 4))
  (sSeq (sAsg (dOwn Γ 23 3 (dCons (dVar 2) (dCons (dVar 4) (dCons (dVar 3) dNil)))) (gSet 5))
  (sSeq (sFor (iRg (dCons (dC (.int 10)) dNil)) (.one 6) (sSeq (sAsg (dOwn Γ 18 2 (dCons (dVar 2) (dCons (dLst false (dCons (dVar 4) (dCons (dOwn Γ 25 2 (dCons (dVar 2) (dCons (dVar 4) dNil))) (dCons (dOwn Γ 25 2 (dCons (dVar 2) (dCons (dVar 4) dNil))) (dCons (dOwn Γ 24 2 (dCons (dVar 2) (dCons (dC (.int 2)) dNil))) dNil))))) dNil))) (gSet 7))
  (sSeq (sIf (tNot' (Dn.tVal (dOwn Γ 29 2 (dCons (dOwn Γ 5 1 (dCons (dVar 7) dNil)) (dCons (dOwn Γ 27 1 (dCons (dVar 7) dNil)) dNil))))) (sSeq (sRet (dC (.bl false)))
  sNext) sNext)
  (sSeq (sAsg (dOwn Γ 18 2 (dCons (dVar 2) (dCons (dLst false (dCons (dVar 5) (dCons (dOwn Γ 25 2 (dCons (dVar 2) (dCons (dVar 5) dNil))) (dCons (dOwn Γ 25 2 (dCons (dVar 2) (dCons (dVar 5) dNil))) (dCons (dOwn Γ 24 2 (dCons (dVar 2) (dCons (dC (.int 2)) dNil))) dNil))))) dNil))) (gSet 7))
  (sSeq (sIf (tNot' (Dn.tVal (dOwn Γ 29 2 (dCons (dOwn Γ 13 3 (dCons (dVar 4) (dCons (dVar 3) (dCons (dVar 7) dNil)))) (dCons (dOwn Γ 28 3 (dCons (dVar 4) (dCons (dVar 3) (dCons (dVar 7) dNil)))) dNil))))) (sSeq (sRet (dC (.bl false)))
  sNext) sNext)
  sNext)))))
  (sSeq (sAsg (dLc false (iRg (dCons (dCall gLenW (dCons (dVar 4) dNil)) dNil)) (.one 9) (Dn.tVal (dBin (inW false) (dBin idxW (dBin idxW (dVar 4) (dVar 9)) (dC (.int 0))) (dLst false (dCons (dC (.str "free")) (dCons (dC (.str "think")) dNil))))) (dVar 9) [9]) (gSet 8))
  (sSeq (sIf (tOr' (Dn.tVal (dBin neV' (dOwn Γ 14 1 (dCons (dVar 4) dNil)) (dOwn Γ 22 1 (dCons (dVar 4) dNil)))) (Dn.tVal (dBin neV' (dOwn Γ 15 1 (dCons (dVar 4) dNil)) (dVar 8)))) (sSeq (sRet (dC (.bl false)))
  sNext) sNext)
  sNext))))))))
  (sSeq (sAsg (dLst true (dCons (dTup dNil) (dCons (dBin mulV (dTup (dCons (dTup (dCons (dC (.str "turn")) dNil)) dNil)) (dC (.int 8))) (dCons (dBin mulV (dTup (dCons (dTup (dCons (dC (.str "turn")) dNil)) dNil)) (dC (.int 9))) (dCons (dBin mulV (dTup (dCons (dTup (dCons (dC (.str "free")) dNil)) dNil)) (dC (.int 2))) (dCons (dBin mulV (dTup (dCons (dTup (dCons (dC (.str "free")) dNil)) dNil)) (dC (.int 3))) (dCons (dTup (dCons (dTup (dCons (dC (.str "look")) (dCons (dC (.int 40)) dNil))) dNil)) (dCons (dTup (dCons (dTup (dCons (dC (.str "look")) (dCons (dC (.int 0)) dNil))) dNil)) dNil)))))))) (gSet 10))
  (sSeq (sAsg (dAdd true (dVar 10) (dLst false (dCons (dTup (dCons (dTup (dCons (dC (.str "cut")) (dCons (dC (.int 0)) dNil))) dNil)) (dCons (dTup (dCons (dTup (dCons (dC (.str "cut")) (dCons (dC (.int 41)) dNil))) dNil)) (dCons (dTup (dCons (dTup (dCons (dC (.str "cut")) (dCons (dC (.str "that")) dNil))) dNil)) (dCons (dTup (dCons (dTup (dCons (dC (.str "name")) (dCons (dC (.int 35)) (dCons (dC (.int 40)) dNil)))) (dCons (dTup (dCons (dC (.str "cut")) (dCons (dC (.str "that")) dNil))) dNil))) dNil)))))) (gSet 10))
  (sSeq (sAsg (dAdd true (dVar 10) (dLst false (dCons (dTup (dCons (dTup (dCons (dC (.str "think")) (dCons (dC (.int 36)) (dCons (dC (.int 41)) dNil)))) dNil)) (dCons (dTup (dCons (dTup (dCons (dC (.str "think")) (dCons (dC (.int 1)) (dCons (dC (.int 6)) dNil)))) dNil)) (dCons (dTup (dCons (dTup (dCons (dC (.str "think")) (dCons (dC (.int 1)) (dCons (dC (.int 7)) dNil)))) dNil)) (dCons (dBin mulV (dTup (dCons (dTup (dCons (dC (.str "name")) (dCons (dC (.int 1)) (dCons (dC (.int 1)) dNil)))) dNil)) (dC (.int 2))) dNil)))))) (gSet 10))
  (sSeq (sAsg (dAdd true (dVar 10) (dLst false (dCons (dBin mulV (dTup (dCons (dTup (dCons (dC (.str "name")) (dCons (dC (.int 1)) (dCons (dC (.int 1)) dNil)))) dNil)) (dC (.int 3))) (dCons (dTup (dCons (dTup (dCons (dC (.str "turn")) dNil)) (dCons (dTup (dCons (dC (.str "look")) (dCons (dC (.int 1)) dNil))) dNil))) (dCons (dBin mulV (dTup (dCons (dTup (dCons (dC (.str "look")) (dCons (dC (.int 1)) dNil))) dNil)) (dC (.int 2))) (dCons (dTup (dCons (dTup (dCons (dC (.str "piles")) (dCons (dC (.int 6)) (dCons (dC (.int 5)) dNil)))) dNil)) dNil)))))) (gSet 10))
  (sSeq (sAsg (dAdd true (dVar 10) (dLst false (dCons (dTup (dCons (dTup (dCons (dC (.str "piles")) (dCons (dC (.int 7)) (dCons (dC (.int 0)) dNil)))) dNil)) (dCons (dTup (dCons (dTup (dCons (dC (.str "piles")) (dCons (dC (.int 2)) (dCons (dC (.int 2)) dNil)))) dNil)) (dCons (dTup (dCons (dTup (dCons (dC (.str "deal")) (dCons (dC (.int 3)) (dCons (dC (.str "off")) dNil)))) dNil)) dNil))))) (gSet 10))
  (sSeq (sExpr (dMt "list" mAppend (dVar 10) (dCons (dTup (dCons (dTup (dCons (dC (.str "deal")) (dCons (dC (.str "that")) (dCons (dC (.str "on")) dNil)))) (dCons (dTup (dCons (dC (.str "name")) (dCons (dC (.int 1)) (dCons (dC (.int 2)) dNil)))) dNil))) dNil)))
  (sSeq (sRet (dBin eqV' (dLc false (iE (dVar 10)) (.one 11) (Dn.tVal (dBin neV' (dOwn Γ 5 1 (dCons (dVar 11) dNil)) (dOwn Γ 27 1 (dCons (dVar 11) dNil)))) (dVar 11) [11]) (dLst false dNil)))
  sNext))))))))
def f30 : FnT := ⟨1, 12, true, d30_law⟩
/-- first_deck -/
def d31_first_deck (Γ : Calls) : DS :=
  (sSeq (sRet (dRg kTup (dCons (dVar 0) dNil)))
  sNext)
def f31 : FnT := ⟨1, 1, true, d31_first_deck⟩
/-- cut_deck -/
def d32_cut_deck (Γ : Calls) : DS :=
  (sSeq (sAsg (dBin modV (dVar 1) (dCall gLenW (dCons (dVar 0) dNil))) (gSet 1))
  (sSeq (sRet (dAdd false (dSl false (dVar 0) (oSome (dVar 1)) oNone) (dSl false (dVar 0) oNone (oSome (dVar 1)))))
  sNext))
def f32 : FnT := ⟨2, 2, true, d32_cut_deck⟩
/-- dealt_deck -/
def d33_dealt_deck (Γ : Calls) : DS :=
  (sSeq (sPar2 3 4 (dCons (dStep (dSl false (dVar 0) oNone (oSome (dVar 1))) oNone oNone (oSome (dUn negV (dC (.int 1))))) (dCons (dSl false (dVar 0) (oSome (dVar 1)) oNone) dNil)))
  (sSeq (sRet (dIf (Dn.tVal (dBin eqV' (dVar 2) (dC (.str "on")))) (dAdd false (dVar 4) (dVar 3)) (dAdd false (dVar 3) (dVar 4))))
  sNext))
def f33 : FnT := ⟨3, 5, true, d33_dealt_deck⟩
/-- piled_deck -/
def d34_piled_deck (Γ : Calls) : DS :=
  (sSeq (sAsg (dLc false (iRg (dCons (dVar 1) dNil)) (.one 5) (Dn.tVal (dBin neV' (dVar 5) (dVar 3))) (dStep (dStep (dVar 0) (oSome (dVar 5)) oNone (oSome (dVar 1))) oNone oNone (oSome (dUn negV (dC (.int 1))))) [5]) (gSet 4))
  (sSeq (sAsg (dTup dNil) (gSet 6))
  (sSeq (sFor (iE (dAdd false (dAdd false (dSl false (dVar 4) oNone (oSome (dVar 2))) (dLst false (dCons (dStep (dStep (dVar 0) (oSome (dVar 3)) oNone (oSome (dVar 1))) oNone oNone (oSome (dUn negV (dC (.int 1))))) dNil))) (dSl false (dVar 4) (oSome (dVar 2)) oNone))) (.one 5) (sSeq (sAsg (dAdd false (dVar 6) (dVar 5)) (gSet 6))
  sNext))
  (sSeq (sRet (dVar 6))
  sNext))))
def f34 : FnT := ⟨4, 7, true, d34_piled_deck⟩
/-- away_deck -/
def d35_away_deck (Γ : Calls) : DS :=
  (sSeq (sAsg (dTup dNil) (gSet 1))
  (sSeq (sWhile (Dn.tVal (dBin gtV (dCall gLenW (dCons (dVar 0) dNil)) (dC (.int 1)))) (sSeq (sAsg (dAdd false (dSl false (dVar 0) (oSome (dC (.int 1))) (oSome (dC (.int 2)))) (dVar 1)) (gSet 1))
  (sSeq (sAsg (dAdd false (dSl false (dVar 0) (oSome (dC (.int 2))) oNone) (dSl false (dVar 0) oNone (oSome (dC (.int 1))))) (gSet 0))
  sNext)))
  (sSeq (sRet (dAdd false (dVar 0) (dVar 1)))
  sNext)))
def f35 : FnT := ⟨1, 2, true, d35_away_deck⟩
/-- number_of -/
def d36_number_of (Γ : Calls) : DS :=
  (sSeq (sRet (dIf (Dn.tVal (dBin eqV' (dVar 0) (dC (.str "that")))) (dVar 1) (dVar 0)))
  sNext)
def f36 : FnT := ⟨2, 2, true, d36_number_of⟩
/-- done_by -/
def d37_done_by (Γ : Calls) : DS :=
  (sSeq (sIf (Dn.tVal (dBin eqV' (dBin idxW (dVar 1) (dC (.int 0))) (dC (.str "cut")))) (sSeq (sRet (dOwn Γ 32 2 (dCons (dVar 0) (dCons (dOwn Γ 36 2 (dCons (dBin idxW (dVar 1) (dC (.int 1))) (dCons (dVar 2) dNil))) dNil))))
  sNext) sNext)
  (sSeq (sIf (Dn.tVal (dBin eqV' (dBin idxW (dVar 1) (dC (.int 0))) (dC (.str "deal")))) (sSeq (sRet (dOwn Γ 33 3 (dCons (dVar 0) (dCons (dOwn Γ 36 2 (dCons (dBin idxW (dVar 1) (dC (.int 1))) (dCons (dVar 2) dNil))) (dCons (dBin idxW (dVar 1) (dC (.int 2))) dNil)))))
  sNext) sNext)
  (sSeq (sIf (Dn.tVal (dBin eqV' (dBin idxW (dVar 1) (dC (.int 0))) (dC (.str "away")))) (sSeq (sRet (dOwn Γ 35 1 (dCons (dVar 0) dNil)))
  sNext) sNext)
  (sSeq (sRet (dIf (Dn.tVal (dBin eqV' (dBin idxW (dVar 1) (dC (.int 0))) (dC (.str "turn")))) (dStep (dVar 0) oNone oNone (oSome (dUn negV (dC (.int 1))))) (dVar 0)))
  sNext))))
def f37 : FnT := ⟨3, 3, true, d37_done_by⟩
/-- card_looked_at -/
def d38_card_looked_at (Γ : Calls) : DS :=
  (sSeq (sRet (dBin subV (dCall gMin2 (dCons (dOwn Γ 36 2 (dCons (dBin idxW (dVar 0) (dC (.int 1))) (dCons (dVar 2) dNil))) (dCons (dVar 1) dNil))) (dC (.int 1))))
  sNext)
def f38 : FnT := ⟨3, 3, true, d38_card_looked_at⟩
/-- walked -/
def d39_walked (Γ : Calls) : DS :=
  (sSeq (sPar3 3 4 5 (dCons (dOwn Γ 31 1 (dCons (dVar 1) dNil)) (dCons (dTup dNil) (dCons (dBin idxW (dVar 2) (dC (.int 0))) dNil))))
  (sSeq (sPar2 6 7 (dCons (dBin idxW (dVar 2) (dC (.int 1))) (dCons (dC .non) dNil)))
  (sSeq (sFor (iE (dVar 0)) (.one 8) (sSeq (sIf (Dn.tVal (dBin (inW false) (dBin idxW (dVar 8) (dC (.int 0))) (dTup (dCons (dC (.str "name")) (dCons (dC (.str "think")) dNil))))) (sSeq (sPar2 7 6 (dCons (dBin idxW (dVar 6) (dC (.int 0))) (dCons (dSl false (dVar 6) (oSome (dC (.int 1))) oNone) dNil)))
  (sSeq (sAsg (dAdd false (dVar 4) (dBin mulV (dTup (dCons (dVar 7) dNil)) (dCall gInt (dCons (dBin eqV' (dBin idxW (dVar 8) (dC (.int 0))) (dC (.str "name"))) dNil)))) (gSet 4))
  sNext)) (sSeq (sIf (Dn.tVal (dBin eqV' (dBin idxW (dVar 8) (dC (.int 0))) (dC (.str "free")))) (sSeq (sPar2 3 6 (dCons (dOwn Γ 32 2 (dCons (dVar 3) (dCons (dBin idxW (dVar 6) (dC (.int 0))) dNil))) (dCons (dSl false (dVar 6) (oSome (dC (.int 1))) oNone) dNil)))
  sNext) (sSeq (sIf (Dn.tVal (dBin eqV' (dBin idxW (dVar 8) (dC (.int 0))) (dC (.str "look")))) (sSeq (sAsg (dOwn Γ 38 3 (dCons (dVar 8) (dCons (dVar 1) (dCons (dVar 7) dNil)))) (gSet 5))
  sNext) (sSeq (sIf (Dn.tVal (dBin eqV' (dBin idxW (dVar 8) (dC (.int 0))) (dC (.str "piles")))) (sSeq (sAsg (dBin modV (dMt "tuple" mIndex (dVar 3) (dCons (dVar 5) dNil)) (dBin idxW (dVar 8) (dC (.int 1)))) (gSet 9))
  (sSeq (sPar2 3 4 (dCons (dOwn Γ 34 4 (dCons (dVar 3) (dCons (dBin idxW (dVar 8) (dC (.int 1))) (dCons (dBin idxW (dVar 8) (dC (.int 2))) (dCons (dVar 9) dNil))))) (dCons (dAdd false (dVar 4) (dTup (dCons (dVar 9) dNil))) dNil)))
  sNext)) (sSeq (sAsg (dOwn Γ 37 3 (dCons (dVar 3) (dCons (dVar 8) (dCons (dVar 7) dNil)))) (gSet 3))
  sNext))
  sNext))
  sNext))
  sNext))
  sNext))
  (sSeq (sRet (dTup (dCons (dVar 3) (dCons (dVar 4) (dCons (dVar 5) dNil)))))
  sNext))))
def f39 : FnT := ⟨3, 10, true, d39_walked⟩
/-- need_run -/
def d40_need_run (Γ : Calls) : DS :=
  (sSeq (sExpr (dOwn Γ 6 1 (dCons (dVar 0) dNil)))
  (sSeq (sExpr (dOwn Γ 7 1 (dCons (dVar 1) dNil)))
  (sSeq (sIf (tNot' (Dn.tVal (dOwn Γ 12 3 (dCons (dVar 0) (dCons (dVar 1) (dCons (dVar 2) dNil)))))) (sSeq (sRaise "InvalidRun")
  sNext) sNext)
  sNext)))
def f40 : FnT := ⟨3, 3, true, d40_need_run⟩
/-- deck_behind -/
def d41_deck_behind (Γ : Calls) : DS :=
  (sSeq (sExpr (dOwn Γ 40 3 (dCons (dVar 0) (dCons (dVar 1) (dCons (dVar 2) dNil)))))
  (sSeq (sRet (dBin idxW (dOwn Γ 39 3 (dCons (dVar 0) (dCons (dVar 1) (dCons (dVar 2) dNil)))) (dC (.int 0))))
  sNext))
def f41 : FnT := ⟨3, 3, true, d41_deck_behind⟩
/-- answers -/
def d42_answers (Γ : Calls) : DS :=
  (sSeq (sExpr (dOwn Γ 40 3 (dCons (dVar 0) (dCons (dVar 1) (dCons (dVar 2) dNil)))))
  (sSeq (sRet (dBin idxW (dOwn Γ 39 3 (dCons (dVar 0) (dCons (dVar 1) (dCons (dVar 2) dNil)))) (dC (.int 1))))
  sNext))
def f42 : FnT := ⟨3, 3, true, d42_answers⟩
/-- card_of -/
def d43_card_of (Γ : Calls) : DS :=
  (sSeq (sExpr (dOwn Γ 40 3 (dCons (dVar 0) (dCons (dVar 1) (dCons (dVar 2) dNil)))))
  (sSeq (sRet (dBin idxW (dOwn Γ 39 3 (dCons (dVar 0) (dCons (dVar 1) (dCons (dVar 2) dNil)))) (dC (.int 2))))
  sNext))
def f43 : FnT := ⟨3, 3, true, d43_card_of⟩
/-- place_of -/
def d44_place_of (Γ : Calls) : DS :=
  (sSeq (sExpr (dOwn Γ 40 3 (dCons (dVar 0) (dCons (dVar 1) (dCons (dVar 2) dNil)))))
  (sSeq (sAsg (dOwn Γ 39 3 (dCons (dVar 0) (dCons (dVar 1) (dCons (dVar 2) dNil)))) (gTupW (gNames [3, 4, 5])))
  (sSeq (sRet (dMt "tuple" mIndex (dVar 3) (dCons (dVar 5) dNil)))
  sNext)))
def f44 : FnT := ⟨3, 6, true, d44_place_of⟩
/-- _law_cut -/
def d45_law_cut (Γ : Calls) : DS :=
  (sSeq (sFor (iRg (dCons (dVar 1) dNil)) (.one 2) (sSeq (sAsg (dAdd false (dSl false (dVar 0) (oSome (dC (.int 1))) oNone) (dSl false (dVar 0) oNone (oSome (dC (.int 1))))) (gSet 0))
  sNext))
  (sSeq (sRet (dVar 0))
  sNext))
def f45 : FnT := ⟨2, 3, true, d45_law_cut⟩
/-- _law_dealt -/
def d46_law_dealt (Γ : Calls) : DS :=
  (sSeq (sPar2 3 4 (dCons (dLst true dNil) (dCons (dCallL true gList (dCons (dVar 0) dNil)) dNil)))
  (sSeq (sWhile (tAnd' (Dn.tVal (dBin neV' (dVar 4) (dLst false dNil))) (Dn.tVal (dBin ltV (dCall gLenW (dCons (dVar 3) dNil)) (dVar 1)))) (sSeq (sExpr (dMt "list" mInsert (dVar 3) (dCons (dC (.int 0)) (dCons (dMt "list" mPop (dVar 4) (dCons (dC (.int 0)) dNil)) dNil))))
  sNext))
  (sSeq (sRet (dIf (Dn.tVal (dBin eqV' (dVar 2) (dC (.str "on")))) (dCall gTuple (dCons (dAdd false (dVar 4) (dVar 3)) dNil)) (dCall gTuple (dCons (dAdd false (dVar 3) (dVar 4)) dNil))))
  sNext)))
def f46 : FnT := ⟨3, 5, true, d46_law_dealt⟩
/-- _law_piles -/
def d47_law_piles (Γ : Calls) : DS :=
  (sSeq (sAsg (dLc false (iRg (dCons (dVar 1) dNil)) (.one 3) yesT (dLst true dNil) [3]) (gSet 2))
  (sSeq (sFor (iRg (dCons (dCall gLenW (dCons (dVar 0) dNil)) dNil)) (.one 4) (sSeq (sExpr (dMt "list" mInsert (dBin idxW (dVar 2) (dBin modV (dCall gInt (dCons (dVar 4) dNil)) (dVar 1))) (dCons (dC (.int 0)) (dCons (dBin idxW (dVar 0) (dVar 4)) dNil))))
  sNext))
  (sSeq (sRet (dVar 2))
  sNext)))
def f47 : FnT := ⟨2, 5, true, d47_law_piles⟩
/-- _law_taken -/
def d48_law_taken (Γ : Calls) : DS :=
  (sSeq (sAsg (dTup (dCons (dOwn Γ 47 2 (dCons (dVar 0) (dCons (dVar 1) dNil))) (dCons (dLst false dNil) dNil))) (gTupW (gNames [4, 5])))
  (sSeq (sAsg (dLc true (iRg (dCons (dVar 1) dNil)) (.one 7) (Dn.tVal (dBin neV' (dVar 7) (dVar 3))) (dBin idxW (dVar 4) (dVar 7)) [7]) (gSet 6))
  (sSeq (sExpr (dMt "list" mInsert (dVar 6) (dCons (dVar 2) (dCons (dBin idxW (dVar 4) (dVar 3)) dNil))))
  (sSeq (sFor (iE (dVar 6)) (.one 8) (sSeq (sAsg (dAdd false (dVar 5) (dVar 8)) (gSet 5))
  sNext))
  (sSeq (sRet (dCall gTuple (dCons (dVar 5) dNil)))
  sNext)))))
def f48 : FnT := ⟨4, 9, true, d48_law_taken⟩
/-- _law_away -/
def d49_law_away (Γ : Calls) : DS :=
  (sSeq (sPar2 1 2 (dCons (dLst true dNil) (dCons (dCallL true gList (dCons (dVar 0) dNil)) dNil)))
  (sSeq (sWhile (Dn.tVal (dBin gtV (dCall gLenW (dCons (dVar 2) dNil)) (dC (.int 1)))) (sSeq (sExpr (dMt "list" mAppend (dVar 2) (dCons (dMt "list" mPop (dVar 2) (dCons (dC (.int 0)) dNil)) dNil)))
  (sSeq (sExpr (dMt "list" mInsert (dVar 1) (dCons (dC (.int 0)) (dCons (dMt "list" mPop (dVar 2) (dCons (dC (.int 0)) dNil)) dNil))))
  sNext)))
  (sSeq (sRet (dCall gTuple (dCons (dAdd false (dVar 2) (dVar 1)) dNil)))
  sNext)))
def f49 : FnT := ⟨1, 3, true, d49_law_away⟩
/-- _law_simple -/
def d50_law_simple (Γ : Calls) : DS :=
  (sSeq (sIf (Dn.tVal (dBin eqV' (dBin idxW (dVar 1) (dC (.int 0))) (dC (.str "turn")))) (sSeq (sRet (dStep (dVar 0) oNone oNone (oSome (dUn negV (dC (.int 1))))))
  sNext) sNext)
  (sSeq (sIf (Dn.tVal (dBin eqV' (dBin idxW (dVar 1) (dC (.int 0))) (dC (.str "away")))) (sSeq (sRet (dOwn Γ 49 1 (dCons (dVar 0) dNil)))
  sNext) sNext)
  (sSeq (sAsg (dIf (Dn.tVal (dBin eqV' (dBin idxW (dVar 1) (dC (.int 1))) (dC (.str "that")))) (dVar 2) (dBin idxW (dVar 1) (dC (.int 1)))) (gSet 3))
  (sSeq (sRet (dIf (Dn.tVal (dBin eqV' (dBin idxW (dVar 1) (dC (.int 0))) (dC (.str "cut")))) (dOwn Γ 45 2 (dCons (dVar 0) (dCons (dVar 3) dNil))) (dOwn Γ 46 3 (dCons (dVar 0) (dCons (dVar 3) (dCons (dBin idxW (dVar 1) (dC (.int 2))) dNil))))))
  sNext))))
def f50 : FnT := ⟨3, 4, true, d50_law_simple⟩
/-- _law_walk -/
def d51_law_walk (Γ : Calls) : DS :=
  (sSeq (sAsg (dTup (dCons (dRg kTup (dCons (dVar 1) dNil)) (dCons (dBin idxW (dVar 2) (dC (.int 0))) (dCons (dC .non) (dCons (dLst true dNil) dNil))))) (gTupW (gNames [3, 4, 5, 6])))
  (sSeq (sPar2 7 8 (dCons (dCallL true gList (dCons (dBin idxW (dVar 2) (dC (.int 1))) dNil)) (dCons dDict0 dNil)))
  (sSeq (sFor (iRg (dCons (dCall gLenW (dCons (dVar 0) dNil)) dNil)) (.one 9) (sSeq (sAsg (dBin idxW (dVar 0) (dVar 9)) (gSet 10))
  (sSeq (sIf (Dn.tVal (dBin (inW false) (dBin idxW (dVar 10) (dC (.int 0))) (dLst false (dCons (dC (.str "name")) (dCons (dC (.str "think")) dNil))))) (sSeq (sAsg (dMt "list" mPop (dVar 7) (dCons (dC (.int 0)) dNil)) (gSet 5))
  (sSeq (sAsg (dAdd true (dVar 6) (dBin mulV (dLst false (dCons (dVar 5) dNil)) (dCall gInt (dCons (dBin eqV' (dBin idxW (dVar 10) (dC (.int 0))) (dC (.str "name"))) dNil)))) (gSet 6))
  (sSeq (sAsg (dVar 5) (gSubS (dVar 8) (dVar 9)))
  sNext))) (sSeq (sIf (Dn.tVal (dBin eqV' (dBin idxW (dVar 10) (dC (.int 0))) (dC (.str "free")))) (sSeq (sAsg (dMt "list" mPop (dVar 7) (dCons (dC (.int 0)) dNil)) (gSubS (dVar 8) (dVar 9)))
  (sSeq (sAsg (dOwn Γ 45 2 (dCons (dVar 3) (dCons (dBin idxW (dVar 8) (dVar 9)) dNil))) (gSet 3))
  sNext)) (sSeq (sIf (Dn.tVal (dBin eqV' (dBin idxW (dVar 10) (dC (.int 0))) (dC (.str "look")))) (sSeq (sAsg (dIf (Dn.tVal (dBin eqV' (dBin idxW (dVar 10) (dC (.int 1))) (dC (.str "that")))) (dVar 5) (dBin idxW (dVar 10) (dC (.int 1)))) (gSet 11))
  (sSeq (sAsg (dBin idxW (dSl false (dVar 3) oNone (oSome (dVar 11))) (dUn negV (dC (.int 1)))) (gSet 4))
  sNext)) (sSeq (sIf (Dn.tVal (dBin eqV' (dBin idxW (dVar 10) (dC (.int 0))) (dC (.str "piles")))) (sSeq (sAsg (dOwn Γ 47 2 (dCons (dVar 3) (dCons (dBin idxW (dVar 10) (dC (.int 1))) dNil))) (gSet 12))
  (sSeq (sAsg (dBin idxW (dLc false (iRg (dCons (dBin idxW (dVar 10) (dC (.int 1))) dNil)) (.one 14) (Dn.tVal (dBin (inW false) (dVar 4) (dBin idxW (dVar 12) (dVar 14)))) (dVar 14) [14]) (dC (.int 0))) (gSet 13))
  (sSeq (sAsg (dOwn Γ 48 4 (dCons (dVar 3) (dCons (dBin idxW (dVar 10) (dC (.int 1))) (dCons (dBin idxW (dVar 10) (dC (.int 2))) (dCons (dVar 13) dNil))))) (gSet 3))
  (sSeq (sExpr (dMt "list" mAppend (dVar 6) (dCons (dVar 13) dNil)))
  sNext)))) (sSeq (sAsg (dOwn Γ 50 3 (dCons (dVar 3) (dCons (dVar 10) (dCons (dVar 5) dNil)))) (gSet 3))
  sNext))
  sNext))
  sNext))
  sNext))
  sNext)))
  (sSeq (sRet (dTup (dCons (dVar 3) (dCons (dCall gTuple (dCons (dVar 6) dNil)) (dCons (dVar 4) (dCons (dVar 8) dNil))))))
  sNext))))
def f51 : FnT := ⟨3, 15, true, d51_law_walk⟩
/-- law -/
def d52_law (Γ : Calls) : DS :=
  (sSeq (sFor (iRg (dCons (dCall gMax2 (dCons (dC (.int 4)) (dCons (dCall gMin2 (dCons (dC (.int 10)) (dCons (dAdd false (dCall gLenW (dCons (dVar 0) dNil)) (dC (.int 3))) dNil))) dNil))) dNil)) (.one 1) (sSeq (sAsg (dOwn Γ 16 2 (dCons (dVar 0) (dCons (dVar 1) dNil))) (gSet 2))
  (sSeq (sAsg (dOwn Γ 18 2 (dCons (dVar 2) (dCons (dLst false (dCons (dC (.int 2)) (dCons (dC (.int 3)) (dCons (dC (.int 5)) (dCons (dC (.int 40)) (dCons (dAdd false (dC (.int 2)) (dOwn Γ 17 2 (dCons (dVar 2) (dCons (dC (.int 39)) dNil)))) (dCons (dAdd false (dC (.int 2)) (dOwn Γ 17 2 (dCons (dVar 2) (dCons (dC (.int 39)) dNil)))) dNil))))))) dNil))) (gSet 3))
  (sSeq (sAsg (dOwn Γ 21 3 (dCons (dVar 2) (dCons (dVar 3) (dCons (dC (.int 8)) dNil)))) (gSet 4))
  (sSeq (sFor (iRg (dCons (dC (.int 4)) dNil)) (.one 5) (sSeq (sAsg (dOwn Γ 23 3 (dCons (dVar 2) (dCons (dVar 4) (dCons (dVar 3) dNil)))) (gSet 6))
  (sSeq (sAsg (dOwn Γ 51 3 (dCons (dVar 4) (dCons (dVar 3) (dCons (dVar 6) dNil)))) (gTupW (gNames [7, 8, 9, 10])))
  (sSeq (sIf (tOr' (Dn.tVal (dBin neV' (dOwn Γ 41 3 (dCons (dVar 4) (dCons (dVar 3) (dCons (dVar 6) dNil)))) (dVar 7))) (Dn.tVal (dBin neV' (dOwn Γ 42 3 (dCons (dVar 4) (dCons (dVar 3) (dCons (dVar 6) dNil)))) (dVar 8)))) (sSeq (sRet (dC (.bl false)))
  sNext) sNext)
  (sSeq (sIf (tOr' (Dn.tVal (dBin neV' (dOwn Γ 43 3 (dCons (dVar 4) (dCons (dVar 3) (dCons (dVar 6) dNil)))) (dVar 9))) (Dn.tVal (dBin neV' (dOwn Γ 44 3 (dCons (dVar 4) (dCons (dVar 3) (dCons (dVar 6) dNil)))) (dMt "tuple" mIndex (dVar 7) (dCons (dVar 9) dNil))))) (sSeq (sRet (dC (.bl false)))
  sNext) sNext)
  sNext)))))
  sNext)))))
  (sSeq (sRet (dC (.bl true)))
  sNext))
def f52 : FnT := ⟨1, 11, true, d52_law⟩
/-- is_fixed -/
def d53_is_fixed (Γ : Calls) : DS :=
  (sSeq (sRet (dAnd (dBin eqV' (dOwn Γ 9 1 (dCons (dVar 0) dNil)) (dLst false dNil)) (dCall gAll (dCons (dLc false (iE (dVar 0)) (.one 1) yesT (dBin (inW true) (dBin idxW (dVar 1) (dC (.int 0))) (dTup (dCons (dC (.str "piles")) (dCons (dC (.str "look")) dNil)))) [1]) dNil))))
  sNext)
def f53 : FnT := ⟨1, 2, true, d53_is_fixed⟩
/-- deck_by -/
def d54_deck_by (Γ : Calls) : DS :=
  (sSeq (sFor (iE (dVar 0)) (.one 2) (sSeq (sAsg (dOwn Γ 37 3 (dCons (dVar 1) (dCons (dVar 2) (dCons (dC .non) dNil)))) (gSet 1))
  sNext))
  (sSeq (sRet (dVar 1))
  sNext))
def f54 : FnT := ⟨2, 3, true, d54_deck_by⟩
/-- least_common -/
def d55_least_common (Γ : Calls) : DS :=
  (sSeq (sAsg (dVar 0) (gSet 2))
  (sSeq (sWhile (Dn.tVal (dBin neV' (dBin modV (dVar 2) (dVar 1)) (dC (.int 0)))) (sSeq (sAsg (dAdd false (dVar 2) (dVar 0)) (gSet 2))
  sNext))
  (sSeq (sRet (dVar 2))
  sNext)))
def f55 : FnT := ⟨2, 3, true, d55_least_common⟩
/-- comes_back -/
def d56_comes_back (Γ : Calls) : DS :=
  (sSeq (sExpr (dOwn Γ 6 1 (dCons (dVar 0) dNil)))
  (sSeq (sExpr (dOwn Γ 7 1 (dCons (dVar 1) dNil)))
  (sSeq (sIf (tNot' (Dn.tVal (dOwn Γ 53 1 (dCons (dVar 0) dNil)))) (sSeq (sRaise "NotFixed")
  sNext) sNext)
  (sSeq (sPar3 2 3 4 (dCons (dOwn Γ 54 2 (dCons (dVar 0) (dCons (dOwn Γ 31 1 (dCons (dVar 1) dNil)) dNil))) (dCons (dRg (kLst false) (dCons (dVar 1) dNil)) (dCons (dC (.int 1)) dNil))))
  (sSeq (sWhile (Dn.tVal (dBin neV' (dVar 3) (dLst false dNil))) (sSeq (sPar2 5 6 (dCons (dBin idxW (dVar 2) (dBin idxW (dVar 3) (dC (.int 0)))) (dCons (dC (.int 1)) dNil)))
  (sSeq (sAsg (dLst false (dCons (dBin idxW (dVar 3) (dC (.int 0))) dNil)) (gSet 7))
  (sSeq (sWhile (Dn.tVal (dBin neV' (dVar 5) (dBin idxW (dVar 3) (dC (.int 0))))) (sSeq (sAsg (dAdd false (dVar 7) (dLst false (dCons (dVar 5) dNil))) (gSet 7))
  (sSeq (sPar2 5 6 (dCons (dBin idxW (dVar 2) (dVar 5)) (dCons (dAdd false (dVar 6) (dC (.int 1))) dNil)))
  sNext)))
  (sSeq (sAsg (dLc false (iE (dVar 3)) (.one 8) (Dn.tVal (dBin (inW true) (dVar 8) (dVar 7))) (dVar 8) [8]) (gSet 3))
  (sSeq (sAsg (dOwn Γ 55 2 (dCons (dVar 4) (dCons (dVar 6) dNil))) (gSet 4))
  sNext))))))
  (sSeq (sRet (dVar 4))
  sNext))))))
def f56 : FnT := ⟨2, 9, true, d56_comes_back⟩
/-- _law_ring -/
def d57_law_ring (Γ : Calls) : DS :=
  (sSeq (sPar2 2 3 (dCons (dMt "tuple" mIndex (dVar 0) (dCons (dVar 1) dNil)) (dCons (dC (.int 1)) dNil)))
  (sSeq (sWhile (Dn.tVal (dBin neV' (dVar 2) (dVar 1))) (sSeq (sPar2 2 3 (dCons (dMt "tuple" mIndex (dVar 0) (dCons (dVar 2) dNil)) (dCons (dAdd false (dVar 3) (dC (.int 1))) dNil)))
  sNext))
  (sSeq (sRet (dVar 3))
  sNext)))
def f57 : FnT := ⟨2, 4, true, d57_law_ring⟩
/-- _law_refused -/
def d58_law_refused (Γ : Calls) : DS :=
  (sSeq (sTry (subX ["InvalidTrick", "InvalidSize", "InvalidRun", "NotFixed"]) (sSeq (sExpr (dOwn Γ 56 2 (dCons (dVar 0) (dCons (dVar 1) dNil))))
  sNext) [("NotFixed", (sSeq (sRet (dC (.bl true)))
  sNext))])
  (sSeq (sRet (dC (.bl false)))
  sNext))
def f58 : FnT := ⟨2, 2, true, d58_law_refused⟩
/-- law -/
def d59_law (Γ : Calls) : DS :=
  (sSeq (sFor (iRg (dCons (dCall gMax2 (dCons (dC (.int 4)) (dCons (dCall gMin2 (dCons (dC (.int 9)) (dCons (dAdd false (dCall gLenW (dCons (dVar 0) dNil)) (dC (.int 3))) dNil))) dNil))) dNil)) (.one 1) (sSeq (sAsg (dOwn Γ 16 2 (dCons (dVar 0) (dCons (dVar 1) dNil))) (gSet 2))
  (sSeq (sAsg (dAdd false (dC (.int 2)) (dOwn Γ 17 2 (dCons (dVar 2) (dCons (dC (.int 39)) dNil)))) (gSet 3))
  (sSeq (sAsg (dCall gTuple (dCons (dLc false (iRg (dCons (dOwn Γ 17 2 (dCons (dVar 2) (dCons (dC (.int 7)) dNil))) dNil)) (.one 5) yesT (dOwn Γ 19 3 (dCons (dVar 2) (dCons (dVar 3) (dCons (dC (.bl false)) dNil)))) [5]) dNil)) (gSet 4))
  (sSeq (sAsg (dCall gTuple (dCons (dLc false (iE (dVar 4)) (.one 6) (Dn.tVal (dBin neV' (dBin idxW (dVar 6) (dC (.int 0))) (dC (.str "piles")))) (dVar 6) [6]) dNil)) (gSet 4))
  (sSeq (sAsg (dBin idxW (dOwn Γ 51 3 (dCons (dVar 4) (dCons (dVar 3) (dCons (dTup (dCons (dC (.int 0)) (dCons (dTup dNil) dNil))) dNil)))) (dC (.int 0))) (gSet 7))
  (sSeq (sAsg (dLc false (iRg (dCons (dVar 3) dNil)) (.one 9) yesT (dOwn Γ 57 2 (dCons (dVar 7) (dCons (dVar 9) dNil))) [9]) (gSet 8))
  (sSeq (sAsg (dOwn Γ 56 2 (dCons (dVar 4) (dCons (dVar 3) dNil))) (gSet 10))
  (sSeq (sAsg (dLc false (iE (dVar 8)) (.one 12) (Dn.tVal (dBin neV' (dBin modV (dCall gInt (dCons (dVar 10) dNil)) (dVar 12)) (dC (.int 0)))) (dVar 12) [12]) (gSet 11))
  (sSeq (sIf (tOr' (tNot' (Dn.tVal (dIsi BT.int (dVar 10)))) (Dn.tVal (dBin neV' (dVar 11) (dLst false dNil)))) (sSeq (sRet (dC (.bl false)))
  sNext) sNext)
  (sSeq (sFor (iE (dLst false (dCons (dC (.int 2)) (dCons (dC (.int 3)) (dCons (dC (.int 5)) (dCons (dC (.int 7)) (dCons (dC (.int 11)) (dCons (dC (.int 13)) (dCons (dC (.int 17)) (dCons (dC (.int 19)) (dCons (dC (.int 23)) (dCons (dC (.int 29)) (dCons (dC (.int 31)) (dCons (dC (.int 37)) dNil)))))))))))))) (.one 13) (sSeq (sAsg (dLc false (iE (dVar 8)) (.one 12) (Dn.tVal (dBin neV' (dBin modV (dCall gInt (dCons (dBin fdivV (dVar 10) (dVar 13)) dNil)) (dVar 12)) (dC (.int 0)))) (dVar 12) [12]) (gSet 11))
  (sSeq (sIf (tAnd' (Dn.tVal (dBin eqV' (dBin modV (dCall gInt (dCons (dVar 10) dNil)) (dVar 13)) (dC (.int 0)))) (Dn.tVal (dBin eqV' (dVar 11) (dLst false dNil)))) (sSeq (sRet (dC (.bl false)))
  sNext) sNext)
  sNext)))
  (sSeq (sAsg (dCall gTuple (dCons (dLc false (iE (dVar 7)) (.one 15) yesT (dBin idxW (dVar 7) (dVar 15)) [15]) dNil)) (gSet 14))
  (sSeq (sIf (tAnd' (Dn.tVal (dBin ltV (dCall gLenW (dCons (dVar 4) dNil)) (dC (.int 5)))) (Dn.tVal (dBin neV' (dOwn Γ 41 3 (dCons (dBin mulV (dVar 4) (dC (.int 2))) (dCons (dVar 3) (dCons (dTup (dCons (dC (.int 0)) (dCons (dTup dNil) dNil))) dNil)))) (dVar 14)))) (sSeq (sRet (dC (.bl false)))
  sNext) sNext)
  (sSeq (sFor (iE (dLst false (dCons (dTup (dCons (dC (.str "free")) dNil)) (dCons (dTup (dCons (dC (.str "name")) (dCons (dC (.int 1)) (dCons (dC (.int 2)) dNil)))) (dCons (dTup (dCons (dC (.str "think")) (dCons (dC (.int 3)) (dCons (dC (.int 3)) dNil)))) (dCons (dTup (dCons (dC (.str "piles")) (dCons (dC (.int 2)) (dCons (dC (.int 0)) dNil)))) dNil)))))) (.one 6) (sSeq (sIf (tNot' (Dn.tVal (dOwn Γ 58 2 (dCons (dAdd false (dSl false (dVar 4) oNone (oSome (dC (.int 7)))) (dTup (dCons (dVar 6) dNil))) (dCons (dVar 3) dNil))))) (sSeq (sRet (dC (.bl false)))
  sNext) sNext)
  sNext))
  (sSeq (sIf (tNot' (Dn.tVal (dOwn Γ 58 2 (dCons (dAdd false (dTup (dCons (dTup (dCons (dC (.str "look")) (dCons (dC (.int 1)) dNil))) dNil)) (dSl false (dVar 4) oNone (oSome (dC (.int 7))))) (dCons (dVar 3) dNil))))) (sSeq (sRet (dC (.bl false)))
  sNext) sNext)
  sNext)))))))))))))))
  (sSeq (sRet (dBin eqV' (dOwn Γ 56 2 (dCons (dTup (dCons (dTup (dCons (dC (.str "away")) dNil)) dNil)) (dCons (dC (.int 5)) dNil))) (dC (.int 2))))
  sNext))
def f59 : FnT := ⟨1, 16, true, d59_law⟩
/-- need_most -/
def d60_need_most (Γ : Calls) : DS :=
  (sSeq (sIf (tNot' (Dn.tVal (dOwn Γ 0 3 (dCons (dVar 0) (dCons (dC (.int 2)) (dCons (dC (.int 40)) dNil)))))) (sSeq (sRaise "InvalidNumber")
  sNext) sNext)
  sNext)
def f60 : FnT := ⟨1, 1, true, d60_need_most⟩
/-- all_choices -/
def d61_all_choices (Γ : Calls) : DS :=
  (sSeq (sAsg (dLst false (dCons (dTup dNil) dNil)) (gSet 2))
  (sSeq (sFor (iE (dOwn Γ 9 1 (dCons (dVar 0) dNil))) (.one 3) (sSeq (sAsg (dLc2 false (iE (dVar 2)) (.one 4) yesT (iE (dOwn Γ 11 2 (dCons (dVar 3) (dCons (dVar 1) dNil)))) (.one 5) yesT (dAdd false (dVar 4) (dTup (dCons (dVar 5) dNil))) [4, 5] [5]) (gSet 2))
  sNext))
  (sSeq (sRet (dVar 2))
  sNext)))
def f61 : FnT := ⟨2, 6, true, d61_all_choices⟩
/-- first_parting -/
def d62_first_parting (Γ : Calls) : DS :=
  (sSeq (sPar2 3 4 (dCons (dOwn Γ 61 2 (dCons (dVar 0) (dCons (dVar 2) dNil))) (dCons (dIf (Dn.tVal (dOwn Γ 8 1 (dCons (dVar 0) dNil))) (dLst false (dCons (dC .non) dNil)) (dRg (kLst false) (dCons (dVar 2) dNil))) dNil)))
  (sSeq (sFor (iE (dVar 4)) (.one 5) (sSeq (sFor (iE (dVar 3)) (.one 6) (sSeq (sIf (Dn.tVal (dBin neV' (dBin idxW (dOwn Γ 39 3 (dCons (dVar 0) (dCons (dVar 2) (dCons (dTup (dCons (dVar 5) (dCons (dVar 6) dNil))) dNil)))) (dC (.int 0))) (dBin idxW (dOwn Γ 39 3 (dCons (dVar 1) (dCons (dVar 2) (dCons (dTup (dCons (dVar 5) (dCons (dVar 6) dNil))) dNil)))) (dC (.int 0))))) (sSeq (sRet (dTup (dCons (dVar 5) (dCons (dVar 6) dNil))))
  sNext) sNext)
  sNext))
  sNext))
  (sSeq (sRet (dC .non))
  sNext)))
def f62 : FnT := ⟨3, 7, true, d62_first_parting⟩
/-- need_tricks -/
def d63_need_tricks (Γ : Calls) : DS :=
  (sSeq (sExpr (dOwn Γ 6 1 (dCons (dVar 0) dNil)))
  (sSeq (sExpr (dOwn Γ 6 1 (dCons (dVar 1) dNil)))
  sNext))
def f63 : FnT := ⟨2, 2, true, d63_need_tricks⟩
/-- need_same -/
def d64_need_same (Γ : Calls) : DS :=
  (sSeq (sIf (tOr' (Dn.tVal (dBin neV' (dOwn Γ 9 1 (dCons (dVar 0) dNil)) (dOwn Γ 9 1 (dCons (dVar 1) dNil)))) (Dn.tVal (dBin neV' (dOwn Γ 8 1 (dCons (dVar 0) dNil)) (dOwn Γ 8 1 (dCons (dVar 1) dNil))))) (sSeq (sRaise "Unlike")
  sNext) sNext)
  sNext)
def f64 : FnT := ⟨2, 2, true, d64_need_same⟩
/-- alike -/
def d65_alike (Γ : Calls) : DS :=
  (sSeq (sExpr (dOwn Γ 63 2 (dCons (dVar 0) (dCons (dVar 1) dNil))))
  (sSeq (sExpr (dOwn Γ 7 1 (dCons (dVar 2) dNil)))
  (sSeq (sExpr (dOwn Γ 64 2 (dCons (dVar 0) (dCons (dVar 1) dNil))))
  (sSeq (sRet (dBin isV (dOwn Γ 62 3 (dCons (dVar 0) (dCons (dVar 1) (dCons (dVar 2) dNil)))) (dC .non)))
  sNext))))
def f65 : FnT := ⟨3, 3, true, d65_alike⟩
/-- parting -/
def d66_parting (Γ : Calls) : DS :=
  (sSeq (sExpr (dOwn Γ 63 2 (dCons (dVar 0) (dCons (dVar 1) dNil))))
  (sSeq (sExpr (dOwn Γ 7 1 (dCons (dVar 2) dNil)))
  (sSeq (sExpr (dOwn Γ 64 2 (dCons (dVar 0) (dCons (dVar 1) dNil))))
  (sSeq (sRet (dOwn Γ 62 3 (dCons (dVar 0) (dCons (dVar 1) (dCons (dVar 2) dNil)))))
  sNext))))
def f66 : FnT := ⟨3, 3, true, d66_parting⟩
/-- alike_sizes -/
def d67_alike_sizes (Γ : Calls) : DS :=
  (sSeq (sExpr (dOwn Γ 63 2 (dCons (dVar 0) (dCons (dVar 1) dNil))))
  (sSeq (sExpr (dOwn Γ 60 1 (dCons (dVar 2) dNil)))
  (sSeq (sExpr (dOwn Γ 64 2 (dCons (dVar 0) (dCons (dVar 1) dNil))))
  (sSeq (sRet (dLc false (iE (dRg (kLst false) (dCons (dC (.int 2)) (dCons (dAdd false (dVar 2) (dC (.int 1))) dNil)))) (.one 3) (Dn.tVal (dBin isV (dOwn Γ 62 3 (dCons (dVar 0) (dCons (dVar 1) (dCons (dVar 3) dNil)))) (dC .non))) (dVar 3) [3]))
  sNext))))
def f67 : FnT := ⟨3, 4, true, d67_alike_sizes⟩
/-- _law_all_runs -/
def d68_law_all_runs (Γ : Calls) : DS :=
  (sSeq (sAsg (dLst false (dCons (dTup dNil) dNil)) (gSet 2))
  (sSeq (sFor (iE (dOwn Γ 22 1 (dCons (dVar 0) dNil))) (.one 3) (sSeq (sAsg (dLst false dNil) (gSet 4))
  (sSeq (sFor (iE (dVar 2)) (.one 5) (sSeq (sAsg (dAdd false (dVar 4) (dLc false (iE (dOwn Γ 11 2 (dCons (dVar 3) (dCons (dVar 1) dNil)))) (.one 6) yesT (dAdd false (dVar 5) (dTup (dCons (dVar 6) dNil))) [6])) (gSet 4))
  sNext))
  (sSeq (sAsg (dVar 4) (gSet 2))
  sNext))))
  (sSeq (sAsg (dIf (Dn.tVal (dOwn Γ 8 1 (dCons (dVar 0) dNil))) (dLst false (dCons (dC .non) dNil)) (dRg (kLst false) (dCons (dVar 1) dNil))) (gSet 7))
  (sSeq (sAsg (dLst false dNil) (gSet 8))
  (sSeq (sFor (iE (dVar 7)) (.one 9) (sSeq (sAsg (dAdd false (dVar 8) (dLc false (iE (dVar 2)) (.one 5) yesT (dTup (dCons (dVar 9) (dCons (dVar 5) dNil))) [5])) (gSet 8))
  sNext))
  (sSeq (sRet (dVar 8))
  sNext))))))
def f68 : FnT := ⟨2, 10, true, d68_law_all_runs⟩
/-- _law_many_runs -/
def d69_law_many_runs (Γ : Calls) : DS :=
  (sSeq (sAsg (dIf (Dn.tVal (dOwn Γ 8 1 (dCons (dVar 0) dNil))) (dC (.int 1)) (dVar 1)) (gSet 2))
  (sSeq (sFor (iE (dOwn Γ 22 1 (dCons (dVar 0) dNil))) (.one 3) (sSeq (sAsg (dCall gInt (dCons (dBin mulV (dVar 2) (dCall gLenW (dCons (dOwn Γ 11 2 (dCons (dVar 3) (dCons (dVar 1) dNil))) dNil))) dNil)) (gSet 2))
  sNext))
  (sSeq (sRet (dVar 2))
  sNext)))
def f69 : FnT := ⟨2, 4, true, d69_law_many_runs⟩
/-- _law_small -/
def d70_law_small (Γ : Calls) : DS :=
  (sSeq (sAsg (dAdd false (dC (.int 2)) (dOwn Γ 17 2 (dCons (dVar 0) (dCons (dBin subV (dVar 1) (dC (.int 1))) dNil)))) (gSet 2))
  (sSeq (sAsg (dOwn Γ 21 3 (dCons (dVar 0) (dCons (dVar 2) (dCons (dC (.int 4)) dNil)))) (gSet 3))
  (sSeq (sWhile (Dn.tVal (dBin gtV (dOwn Γ 69 2 (dCons (dVar 3) (dCons (dVar 2) dNil))) (dC (.int 600)))) (sSeq (sAsg (dSl false (dVar 3) oNone (oSome (dUn negV (dC (.int 1))))) (gSet 3))
  sNext))
  (sSeq (sRet (dTup (dCons (dVar 2) (dCons (dVar 3) dNil))))
  sNext))))
def f70 : FnT := ⟨2, 4, false, d70_law_small⟩
/-- _law_other -/
def d71_law_other (Γ : Calls) : DS :=
  (sSeq (sPar2 3 4 (dCons (dOwn Γ 17 2 (dCons (dVar 0) (dCons (dAdd false (dCall gLenW (dCons (dVar 1) dNil)) (dC (.int 1))) dNil))) (dCons (dOwn Γ 17 2 (dCons (dVar 0) (dCons (dC (.int 4)) dNil))) dNil)))
  (sSeq (sIf (Dn.tVal (dBin eqV' (dVar 4) (dC (.int 0)))) (sSeq (sRet (dAdd false (dAdd false (dSl false (dVar 1) oNone (oSome (dVar 3))) (dTup (dCons (dTup (dCons (dC (.str "turn")) dNil)) (dCons (dTup (dCons (dC (.str "turn")) dNil)) dNil)))) (dSl false (dVar 1) (oSome (dVar 3)) oNone)))
  sNext) sNext)
  (sSeq (sIf (Dn.tVal (dBin eqV' (dVar 4) (dC (.int 1)))) (sSeq (sRet (dAdd false (dAdd false (dSl false (dVar 1) oNone (oSome (dVar 3))) (dTup (dCons (dTup (dCons (dC (.str "cut")) (dCons (dVar 2) dNil))) (dCons (dTup (dCons (dC (.str "deal")) (dCons (dC (.int 0)) (dCons (dC (.str "on")) dNil)))) dNil)))) (dSl false (dVar 1) (oSome (dVar 3)) oNone)))
  sNext) sNext)
  (sSeq (sAsg (dLc false (iRg (dCons (dCall gLenW (dCons (dVar 1) dNil)) dNil)) (.one 6) (Dn.tVal (dBin (inW false) (dBin idxW (dBin idxW (dVar 1) (dVar 6)) (dC (.int 0))) (dLst false (dCons (dC (.str "cut")) (dCons (dC (.str "deal")) (dCons (dC (.str "piles")) (dCons (dC (.str "away")) (dCons (dC (.str "turn")) dNil)))))))) (dVar 6) [6]) (gSet 5))
  (sSeq (sIf (Dn.tVal (dBin eqV' (dVar 5) (dLst false dNil))) (sSeq (sRet (dAdd false (dVar 1) (dTup (dCons (dTup (dCons (dC (.str "turn")) dNil)) dNil))))
  sNext) sNext)
  (sSeq (sAsg (dOwn Γ 18 2 (dCons (dVar 0) (dCons (dVar 5) dNil))) (gSet 3))
  (sSeq (sAsg (dBin mulV (dTup (dCons (dOwn Γ 19 3 (dCons (dVar 0) (dCons (dVar 2) (dCons (dC (.bl false)) dNil)))) dNil)) (dOwn Γ 17 2 (dCons (dVar 0) (dCons (dC (.int 2)) dNil)))) (gSet 7))
  (sSeq (sRet (dAdd false (dAdd false (dSl false (dVar 1) oNone (oSome (dVar 3))) (dVar 7)) (dSl false (dVar 1) (oSome (dAdd false (dVar 3) (dC (.int 1)))) oNone)))
  sNext))))))))
def f71 : FnT := ⟨3, 8, false, d71_law_other⟩
/-- _law_first -/
def d72_law_first (Γ : Calls) : DS :=
  (sSeq (sFor (iE (dOwn Γ 68 2 (dCons (dVar 0) (dCons (dVar 2) dNil)))) (.one 3) (sSeq (sIf (Dn.tVal (dBin neV' (dBin idxW (dOwn Γ 51 3 (dCons (dVar 0) (dCons (dVar 2) (dCons (dVar 3) dNil)))) (dC (.int 0))) (dBin idxW (dOwn Γ 51 3 (dCons (dVar 1) (dCons (dVar 2) (dCons (dVar 3) dNil)))) (dC (.int 0))))) (sSeq (sRet (dVar 3))
  sNext) sNext)
  sNext))
  (sSeq (sRet (dC .non))
  sNext))
def f72 : FnT := ⟨3, 4, true, d72_law_first⟩
/-- _law_refused -/
def d73_law_refused (Γ : Calls) : DS :=
  (sSeq (sTry (subX ["InvalidTrick", "InvalidSize", "InvalidNumber", "Unlike"]) (sSeq (sExpr (dOwn Γ 65 3 (dCons (dVar 0) (dCons (dVar 1) (dCons (dVar 2) dNil)))))
  sNext) [("Unlike", (sSeq (sRet (dC (.bl true)))
  sNext))])
  (sSeq (sRet (dC (.bl false)))
  sNext))
def f73 : FnT := ⟨3, 3, true, d73_law_refused⟩
/-- law -/
def d74_law (Γ : Calls) : DS :=
  (sSeq (sFor (iRg (dCons (dCall gMax2 (dCons (dC (.int 3)) (dCons (dCall gMin2 (dCons (dC (.int 6)) (dCons (dAdd false (dCall gLenW (dCons (dVar 0) dNil)) (dC (.int 2))) dNil))) dNil))) dNil)) (.one 1) (sSeq (sAsg (dOwn Γ 16 2 (dCons (dVar 0) (dCons (dVar 1) dNil))) (gSet 2))
  (sSeq (sAsg (dOwn Γ 70 2 (dCons (dVar 2) (dCons (dC (.int 12)) dNil))) (gTupW (gNames [3, 4])))
  (sSeq (sAsg (dIf (tNot' (Dn.tVal (dOwn Γ 8 1 (dCons (dVar 4) dNil)))) (dSl false (dVar 4) oNone (oSome (dC (.int 6)))) (dSl false (dVar 4) oNone (oSome (dC (.int 5))))) (gSet 4))
  (sSeq (sAsg (dAdd false (dAdd false (dSl false (dVar 4) oNone (oSome (dC (.int 2)))) (dTup (dCons (dTup (dCons (dC (.str "turn")) dNil)) dNil))) (dSl false (dVar 4) (oSome (dC (.int 2))) oNone)) (gSet 5))
  (sSeq (sIf (tNot' (Dn.tVal (dOwn Γ 8 1 (dCons (dVar 4) dNil)))) (sSeq (sAsg (dOwn Γ 71 3 (dCons (dVar 2) (dCons (dVar 4) (dCons (dVar 3) dNil)))) (gSet 5))
  sNext) sNext)
  (sSeq (sIf (tNot' (Dn.tVal (dOwn Γ 27 1 (dCons (dVar 5) dNil)))) (sSeq (sAsg (dVar 4) (gSet 5))
  sNext) sNext)
  (sSeq (sPar2 6 7 (dCons (dOwn Γ 72 3 (dCons (dVar 4) (dCons (dVar 5) (dCons (dVar 3) dNil)))) (dCons (dOwn Γ 65 3 (dCons (dVar 4) (dCons (dVar 5) (dCons (dVar 3) dNil)))) dNil)))
  (sSeq (sIf (tOr' (tNot' (Dn.tVal (dIsi BT.bool (dVar 7)))) (Dn.tVal (dBin neV' (dVar 7) (dBin isV (dVar 6) (dC .non))))) (sSeq (sRet (dC (.bl false)))
  sNext) sNext)
  (sSeq (sIf (Dn.tVal (dBin neV' (dOwn Γ 66 3 (dCons (dVar 4) (dCons (dVar 5) (dCons (dVar 3) dNil)))) (dVar 6))) (sSeq (sRet (dC (.bl false)))
  sNext) sNext)
  (sSeq (sAsg (dLc false (iRg (dCons (dC (.int 2)) (dCons (dC (.int 7)) dNil))) (.one 9) (Dn.tVal (dBin isV (dOwn Γ 72 3 (dCons (dVar 4) (dCons (dVar 5) (dCons (dVar 9) dNil)))) (dC .non))) (dVar 9) [9]) (gSet 8))
  (sSeq (sIf (tOr' (Dn.tVal (dBin neV' (dOwn Γ 67 3 (dCons (dVar 4) (dCons (dVar 5) (dCons (dC (.int 6)) dNil)))) (dVar 8))) (tNot' (Dn.tVal (dOwn Γ 65 3 (dCons (dVar 4) (dCons (dVar 4) (dCons (dVar 3) dNil))))))) (sSeq (sRet (dC (.bl false)))
  sNext) sNext)
  (sSeq (sAsg (dAdd false (dVar 4) (dTup (dCons (dTup (dCons (dC (.str "name")) (dCons (dC (.int 7)) (dCons (dC (.int 7)) dNil)))) dNil))) (gSet 10))
  (sSeq (sIf (tAnd' (Dn.tVal (dOwn Γ 27 1 (dCons (dVar 10) dNil))) (tNot' (Dn.tVal (dOwn Γ 73 3 (dCons (dVar 4) (dCons (dVar 10) (dCons (dVar 3) dNil))))))) (sSeq (sRet (dC (.bl false)))
  sNext) sNext)
  sNext))))))))))))))
  (sSeq (sRet (dBin eqV' (dOwn Γ 67 3 (dCons (dTup (dCons (dTup (dCons (dC (.str "cut")) (dCons (dC (.int 7)) dNil))) dNil)) (dCons (dTup (dCons (dTup (dCons (dC (.str "cut")) (dCons (dC (.int 1)) dNil))) dNil)) (dCons (dC (.int 12)) dNil)))) (dLst false (dCons (dC (.int 2)) (dCons (dC (.int 3)) (dCons (dC (.int 6)) dNil))))))
  sNext))
def f74 : FnT := ⟨1, 11, true, d74_law⟩
/-- need_wish -/
def d75_need_wish (Γ : Calls) : DS :=
  (sSeq (sIf (tOr' (tNot' (Dn.tVal (dIsi BT.str (dVar 0)))) (Dn.tVal (dBin (inW true) (dVar 0) (dTup (dCons (dC (.str "place")) (dCons (dC (.str "card")) dNil)))))) (sSeq (sRaise "InvalidWish")
  sNext) sNext)
  sNext)
def f75 : FnT := ⟨1, 1, true, d75_need_wish⟩
/-- need_piles -/
def d76_need_piles (Γ : Calls) : DS :=
  (sSeq (sIf (tNot' (Dn.tVal (dOwn Γ 0 3 (dCons (dVar 0) (dCons (dC (.int 2)) (dCons (dC (.int 6)) dNil)))))) (sSeq (sRaise "InvalidNumber")
  sNext) sNext)
  (sSeq (sExpr (dOwn Γ 7 1 (dCons (dVar 1) dNil)))
  sNext))
def f76 : FnT := ⟨2, 2, true, d76_need_piles⟩
/-- rounds_of -/
def d77_rounds_of (Γ : Calls) : DS :=
  (sSeq (sAsg (dTup (dCons (dC (.int 0)) (dCons (dC (.int 1)) dNil))) (gTupW (gNames [2, 3])))
  (sSeq (sWhile (Dn.tVal (dBin ltV (dVar 3) (dVar 1))) (sSeq (sPar2 2 3 (dCons (dAdd false (dVar 2) (dC (.int 1))) (dCons (dBin mulV (dVar 3) (dVar 0)) dNil)))
  sNext))
  (sSeq (sRet (dVar 2))
  sNext)))
def f77 : FnT := ⟨2, 4, true, d77_rounds_of⟩
/-- fewest_rounds -/
def d78_fewest_rounds (Γ : Calls) : DS :=
  (sSeq (sExpr (dOwn Γ 76 2 (dCons (dVar 0) (dCons (dVar 1) dNil))))
  (sSeq (sRet (dOwn Γ 77 2 (dCons (dVar 0) (dCons (dVar 1) dNil))))
  sNext))
def f78 : FnT := ⟨2, 2, true, d78_fewest_rounds⟩
/-- first_states -/
def d79_first_states (Γ : Calls) : DS :=
  (sSeq (sIf (Dn.tVal (dOwn Γ 8 1 (dCons (dVar 0) dNil))) (sSeq (sRet (dDisp1 (dTup (dCons (dTup dNil) (dCons (dC .non) (dCons (dC .non) (dCons (dC .non) dNil))))) (dTup (dCons (dC .non) (dCons (dTup dNil) dNil)))))
  sNext) sNext)
  (sSeq (sRet (dDc (iRg (dCons (dVar 1) dNil)) (.one 2) yesT (dTup (dCons (dTup dNil) (dCons (dC .non) (dCons (dVar 2) (dCons (dVar 2) dNil))))) (dTup (dCons (dVar 2) (dCons (dTup dNil) dNil))) [2]))
  sNext))
def f79 : FnT := ⟨2, 3, true, d79_first_states⟩
/-- asked_rows -/
def d80_asked_rows (Γ : Calls) : DS :=
  (sSeq (sAsg (dVar 3) (gTupW (gNames [5, 6, 7, 8])))
  (sSeq (sAsg (dLst true dNil) (gSet 9))
  (sSeq (sFor (iE (dOwn Γ 11 2 (dCons (dVar 0) (dCons (dVar 1) dNil)))) (.one 10) (sSeq (sAsg (dIf (Dn.tVal (dBin eqV' (dBin idxW (dVar 0) (dC (.int 0))) (dC (.str "free")))) (dBin modV (dBin subV (dVar 8) (dVar 10)) (dVar 1)) (dVar 8)) (gSet 11))
  (sSeq (sAsg (dAdd false (dVar 5) (dBin mulV (dTup (dCons (dVar 10) dNil)) (dCall gInt (dCons (dOr (dVar 2) (dBin eqV' (dBin idxW (dVar 0) (dC (.int 0))) (dC (.str "name")))) dNil)))) (gSet 12))
  (sSeq (sAsg (dIf (Dn.tVal (dBin eqV' (dBin idxW (dVar 0) (dC (.int 0))) (dC (.str "free")))) (dVar 6) (dVar 10)) (gSet 13))
  (sSeq (sExpr (dMt "list" mAppend (dVar 9) (dCons (dTup (dCons (dTup (dCons (dVar 12) (dCons (dVar 13) (dCons (dVar 7) (dCons (dVar 11) dNil))))) (dCons (dTup (dCons (dBin idxW (dVar 4) (dC (.int 0))) (dCons (dAdd false (dBin idxW (dVar 4) (dC (.int 1))) (dTup (dCons (dVar 10) dNil))) dNil))) dNil))) dNil)))
  sNext)))))
  (sSeq (sRet (dVar 9))
  sNext))))
def f80 : FnT := ⟨5, 14, true, d80_asked_rows⟩
/-- next_state -/
def d81_next_state (Γ : Calls) : DS :=
  (sSeq (sAsg (dVar 2) (gTupW (gNames [3, 4, 5, 6])))
  (sSeq (sIf (Dn.tVal (dBin eqV' (dBin idxW (dVar 0) (dC (.int 0))) (dC (.str "look")))) (sSeq (sAsg (dOwn Γ 38 3 (dCons (dVar 0) (dCons (dVar 1) (dCons (dVar 4) dNil)))) (gSet 5))
  (sSeq (sRet (dTup (dCons (dVar 3) (dCons (dVar 4) (dCons (dVar 5) (dCons (dVar 5) dNil))))))
  sNext)) sNext)
  (sSeq (sIf (Dn.tVal (dBin eqV' (dBin idxW (dVar 0) (dC (.int 0))) (dC (.str "piles")))) (sSeq (sAsg (dBin modV (dVar 6) (dBin idxW (dVar 0) (dC (.int 1)))) (gSet 7))
  (sSeq (sAsg (dOwn Γ 34 4 (dCons (dOwn Γ 31 1 (dCons (dVar 1) dNil)) (dCons (dBin idxW (dVar 0) (dC (.int 1))) (dCons (dBin idxW (dVar 0) (dC (.int 2))) (dCons (dVar 7) dNil))))) (gSet 8))
  (sSeq (sRet (dTup (dCons (dAdd false (dVar 3) (dTup (dCons (dVar 7) dNil))) (dCons (dVar 4) (dCons (dVar 5) (dCons (dMt "tuple" mIndex (dVar 8) (dCons (dVar 6) dNil)) dNil))))))
  sNext))) sNext)
  (sSeq (sRet (dTup (dCons (dVar 3) (dCons (dVar 4) (dCons (dVar 5) (dCons (dMt "tuple" mIndex (dOwn Γ 37 3 (dCons (dOwn Γ 31 1 (dCons (dVar 1) dNil)) (dCons (dVar 0) (dCons (dVar 4) dNil)))) (dCons (dVar 6) dNil)) dNil))))))
  sNext))))
def f81 : FnT := ⟨3, 9, true, d81_next_state⟩
/-- all_states -/
def d82_all_states (Γ : Calls) : DS :=
  (sSeq (sAsg (dOwn Γ 79 2 (dCons (dVar 0) (dCons (dVar 1) dNil))) (gSet 3))
  (sSeq (sFor (iEn (dVar 0)) (.tup [4, 5]) (sSeq (sAsg dDict0 (gSet 6))
  (sSeq (sFor (iDi (dVar 3)) (.tup [7, 8]) (sSeq (sIf (Dn.tVal (dBin (inW false) (dBin idxW (dVar 5) (dC (.int 0))) (dTup (dCons (dC (.str "free")) (dCons (dC (.str "name")) (dCons (dC (.str "think")) dNil)))))) (sSeq (sAsg (dOwn Γ 80 5 (dCons (dVar 5) (dCons (dVar 1) (dCons (dBin (inW false) (dVar 4) (dVar 2)) (dCons (dVar 7) (dCons (dVar 8) dNil)))))) (gSet 9))
  sNext) (sSeq (sAsg (dLst false (dCons (dTup (dCons (dOwn Γ 81 3 (dCons (dVar 5) (dCons (dVar 1) (dCons (dVar 7) dNil)))) (dCons (dVar 8) dNil))) dNil)) (gSet 9))
  sNext))
  (sSeq (sFor (iE (dVar 9)) (.tup [10, 11]) (sSeq (sIf (tOr' (Dn.tVal (dBin (inW true) (dVar 10) (dVar 6))) (Dn.tVal (dBin ltV (dVar 11) (dBin idxW (dVar 6) (dVar 10))))) (sSeq (sAsg (dVar 11) (gSubS (dVar 6) (dVar 10)))
  sNext) sNext)
  sNext))
  sNext)))
  (sSeq (sAsg (dVar 6) (gSet 3))
  sNext))))
  (sSeq (sRet (dVar 3))
  sNext)))
def f82 : FnT := ⟨3, 12, true, d82_all_states⟩
/-- target_of -/
def d83_target_of (Γ : Calls) : DS :=
  (sSeq (sRet (dIf (Dn.tVal (dBin eqV' (dVar 1) (dC (.str "place")))) (dBin idxW (dVar 0) (dC (.int 3))) (dBin idxW (dVar 0) (dC (.int 2)))))
  sNext)
def f83 : FnT := ⟨2, 2, true, d83_target_of⟩
/-- runs_by_answers -/
def d84_runs_by_answers (Γ : Calls) : DS :=
  (sSeq (sAsg dDict0 (gSet 4))
  (sSeq (sFor (iDi (dOwn Γ 82 3 (dCons (dVar 0) (dCons (dVar 1) (dCons (dVar 3) dNil))))) (.tup [5, 6]) (sSeq (sAsg (dMtD mSetd (dVar 4) (dCons (dBin idxW (dVar 5) (dC (.int 0))) (dCons dDict0 dNil))) (gSet 7))
  (sSeq (sAsg (dOwn Γ 83 2 (dCons (dVar 5) (dCons (dVar 2) dNil))) (gSet 8))
  (sSeq (sIf (tOr' (Dn.tVal (dBin (inW true) (dVar 8) (dVar 7))) (Dn.tVal (dBin ltV (dVar 6) (dBin idxW (dVar 7) (dVar 8))))) (sSeq (sAsg (dVar 6) (gSubS (dVar 7) (dVar 8)))
  sNext) sNext)
  sNext))))
  (sSeq (sRet (dVar 4))
  sNext)))
def f84 : FnT := ⟨4, 9, true, d84_runs_by_answers⟩
/-- is_told -/
def d85_is_told (Γ : Calls) : DS :=
  (sSeq (sRet (dCall gAll (dCons (dLc false (iDv (dOwn Γ 84 4 (dCons (dVar 0) (dCons (dVar 1) (dCons (dVar 2) (dCons (dVar 3) dNil)))))) (.one 4) yesT (dBin eqV' (dCall gLenW (dCons (dVar 4) dNil)) (dC (.int 1))) [4]) dNil)))
  sNext)
def f85 : FnT := ⟨4, 5, true, d85_is_told⟩
/-- need_all -/
def d86_need_all (Γ : Calls) : DS :=
  (sSeq (sExpr (dOwn Γ 6 1 (dCons (dVar 0) dNil)))
  (sSeq (sExpr (dOwn Γ 7 1 (dCons (dVar 1) dNil)))
  (sSeq (sExpr (dOwn Γ 75 1 (dCons (dVar 2) dNil)))
  sNext)))
def f86 : FnT := ⟨3, 3, true, d86_need_all⟩
/-- tells -/
def d87_tells (Γ : Calls) : DS :=
  (sSeq (sExpr (dOwn Γ 86 3 (dCons (dVar 0) (dCons (dVar 1) (dCons (dVar 2) dNil)))))
  (sSeq (sRet (dOwn Γ 85 4 (dCons (dVar 0) (dCons (dVar 1) (dCons (dVar 2) (dCons (dTup dNil) dNil))))))
  sNext))
def f87 : FnT := ⟨3, 3, true, d87_tells⟩
/-- working_sizes -/
def d88_working_sizes (Γ : Calls) : DS :=
  (sSeq (sExpr (dOwn Γ 6 1 (dCons (dVar 0) dNil)))
  (sSeq (sExpr (dOwn Γ 75 1 (dCons (dVar 1) dNil)))
  (sSeq (sExpr (dOwn Γ 60 1 (dCons (dVar 2) dNil)))
  (sSeq (sRet (dLc false (iE (dRg (kLst false) (dCons (dC (.int 2)) (dCons (dAdd false (dVar 2) (dC (.int 1))) dNil)))) (.one 3) (Dn.tVal (dOwn Γ 85 4 (dCons (dVar 0) (dCons (dVar 3) (dCons (dVar 1) (dCons (dTup dNil) dNil)))))) (dVar 3) [3]))
  sNext))))
def f88 : FnT := ⟨3, 4, true, d88_working_sizes⟩
/-- _law_power -/
def d89_law_power (Γ : Calls) : DS :=
  (sSeq (sAsg (dC (.int 1)) (gSet 2))
  (sSeq (sFor (iRg (dCons (dVar 1) dNil)) (.one 3) (sSeq (sAsg (dCall gInt (dCons (dBin mulV (dVar 2) (dVar 0)) dNil)) (gSet 2))
  sNext))
  (sSeq (sRet (dVar 2))
  sNext)))
def f89 : FnT := ⟨2, 4, true, d89_law_power⟩
/-- law -/
def d90_law (Γ : Calls) : DS :=
  (sSeq (sFor (iRg (dCons (dCall gMax2 (dCons (dC (.int 2)) (dCons (dCall gMin2 (dCons (dC (.int 5)) (dCons (dAdd false (dCall gLenW (dCons (dVar 0) dNil)) (dC (.int 2))) dNil))) dNil))) dNil)) (.one 1) (sSeq (sAsg (dOwn Γ 16 2 (dCons (dVar 0) (dCons (dVar 1) dNil))) (gSet 2))
  (sSeq (sAsg (dTup (dCons (dAdd false (dC (.int 2)) (dOwn Γ 17 2 (dCons (dVar 2) (dCons (dC (.int 5)) dNil)))) (dCons (dAdd false (dC (.int 1)) (dOwn Γ 17 2 (dCons (dVar 2) (dCons (dC (.int 4)) dNil)))) dNil))) (gTupW (gNames [3, 4])))
  (sSeq (sAsg (dCall gTuple (dCons (dLc false (iRg (dCons (dVar 4) dNil)) (.one 6) yesT (dTup (dCons (dC (.str "piles")) (dCons (dVar 3) (dCons (dOwn Γ 17 2 (dCons (dVar 2) (dCons (dVar 3) dNil))) dNil)))) [6]) dNil)) (gSet 5))
  (sSeq (sAsg (dOwn Γ 89 2 (dCons (dVar 3) (dCons (dVar 4) dNil))) (gSet 7))
  (sSeq (sFor (iE (dLst false (dCons (dC (.int 2)) (dCons (dC (.int 3)) (dCons (dAdd false (dC (.int 2)) (dOwn Γ 17 2 (dCons (dVar 2) (dCons (dC (.int 39)) dNil)))) (dCons (dCall gMin2 (dCons (dC (.int 40)) (dCons (dVar 7) dNil))) (dCons (dCall gMin2 (dCons (dC (.int 40)) (dCons (dAdd false (dVar 7) (dC (.int 1))) dNil))) (dCons (dC (.int 40)) dNil)))))))) (.one 8) (sSeq (sFor (iE (dLst false (dCons (dC (.str "card")) (dCons (dC (.str "place")) dNil)))) (.one 9) (sSeq (sIf (Dn.tVal (dBin neV' (dOwn Γ 87 3 (dCons (dVar 5) (dCons (dVar 8) (dCons (dVar 9) dNil)))) (dBin leV (dVar 8) (dVar 7)))) (sSeq (sRet (dC (.bl false)))
  sNext) sNext)
  sNext))
  (sSeq (sAsg (dOwn Γ 78 2 (dCons (dVar 3) (dCons (dVar 8) dNil))) (gSet 10))
  (sSeq (sIf (tOr' (Dn.tVal (dBin ltV (dOwn Γ 89 2 (dCons (dVar 3) (dCons (dVar 10) dNil))) (dVar 8))) (Dn.tVal (dBin geV (dOwn Γ 89 2 (dCons (dVar 3) (dCons (dBin subV (dVar 10) (dC (.int 1))) dNil))) (dVar 8)))) (sSeq (sRet (dC (.bl false)))
  sNext) sNext)
  sNext))))
  (sSeq (sAsg (dAdd false (dC (.int 2)) (dOwn Γ 17 2 (dCons (dVar 2) (dCons (dC (.int 20)) dNil)))) (gSet 11))
  (sSeq (sIf (Dn.tVal (dBin neV' (dOwn Γ 88 3 (dCons (dVar 5) (dCons (dC (.str "card")) (dCons (dVar 11) dNil)))) (dLc false (iRg (dCons (dC (.int 2)) (dCons (dAdd false (dVar 11) (dC (.int 1))) dNil))) (.one 8) (Dn.tVal (dBin leV (dVar 8) (dVar 7))) (dVar 8) [8]))) (sSeq (sRet (dC (.bl false)))
  sNext) sNext)
  sNext))))))))
  (sSeq (sRet (dC (.bl true)))
  sNext))
def f90 : FnT := ⟨1, 12, true, d90_law⟩
/-- _law_groups -/
def d91_law_groups (Γ : Calls) : DS :=
  (sSeq (sAsg dDict0 (gSet 3))
  (sSeq (sFor (iE (dOwn Γ 68 2 (dCons (dVar 0) (dCons (dVar 1) dNil)))) (.one 4) (sSeq (sAsg (dOwn Γ 51 3 (dCons (dVar 0) (dCons (dVar 1) (dCons (dVar 4) dNil)))) (gTupW (gNames [5, 6, 7, 8])))
  (sSeq (sIf (Dn.tVal (dBin neV' (dVar 2) (dTup dNil))) (sSeq (sPar2 6 9 (dCons (dTup dNil) (dCons (dCallL true gList (dCons (dVar 6) dNil)) dNil)))
  (sSeq (sFor (iRg (dCons (dCall gLenW (dCons (dVar 0) dNil)) dNil)) (.one 10) (sSeq (sIf (Dn.tVal (dBin (inW false) (dVar 10) (dVar 2))) (sSeq (sAsg (dAdd false (dVar 6) (dTup (dCons (dBin idxW (dVar 8) (dVar 10)) dNil))) (gSet 6))
  sNext) (sSeq (sIf (Dn.tVal (dBin (inW false) (dBin idxW (dBin idxW (dVar 0) (dVar 10)) (dC (.int 0))) (dLst false (dCons (dC (.str "name")) (dCons (dC (.str "piles")) dNil))))) (sSeq (sAsg (dAdd false (dVar 6) (dTup (dCons (dMt "list" mPop (dVar 9) (dCons (dC (.int 0)) dNil)) dNil))) (gSet 6))
  sNext) sNext)
  sNext))
  sNext))
  sNext)) sNext)
  (sSeq (sAsg (dAdd false (dMtD mGet (dVar 3) (dCons (dVar 6) (dCons (dLst false dNil) dNil))) (dLst false (dCons (dTup (dCons (dVar 4) (dCons (dMt "tuple" mIndex (dVar 5) (dCons (dVar 7) dNil)) (dCons (dVar 7) dNil)))) dNil))) (gSubS (dVar 3) (dVar 6)))
  sNext))))
  (sSeq (sRet (dVar 3))
  sNext)))
def f91 : FnT := ⟨3, 11, true, d91_law_groups⟩
/-- _law_told_by -/
def d92_law_told_by (Γ : Calls) : DS :=
  (sSeq (sAsg (dIf (Dn.tVal (dBin eqV' (dVar 1) (dC (.str "place")))) (dC (.int 1)) (dC (.int 2))) (gSet 2))
  (sSeq (sRet (dBin eqV' (dLc false (iDk (dVar 0)) (.one 3) (Dn.tVal (dBin gtV (dUn gLenSet (dLc false (iE (dBin idxW (dVar 0) (dVar 3))) (.one 4) yesT (dBin idxW (dVar 4) (dVar 2)) [4])) (dC (.int 1)))) (dVar 3) [3]) (dLst false dNil)))
  sNext))
def f92 : FnT := ⟨2, 5, true, d92_law_told_by⟩
/-- law -/
def d93_law (Γ : Calls) : DS :=
  (sSeq (sFor (iRg (dCons (dCall gMax2 (dCons (dC (.int 3)) (dCons (dCall gMin2 (dCons (dC (.int 7)) (dCons (dAdd false (dCall gLenW (dCons (dVar 0) dNil)) (dC (.int 2))) dNil))) dNil))) dNil)) (.one 1) (sSeq (sAsg (dOwn Γ 16 2 (dCons (dVar 0) (dCons (dVar 1) dNil))) (gSet 2))
  (sSeq (sAsg (dOwn Γ 70 2 (dCons (dVar 2) (dCons (dC (.int 14)) dNil))) (gTupW (gNames [3, 4])))
  (sSeq (sAsg (dOwn Γ 91 3 (dCons (dVar 4) (dCons (dVar 3) (dCons (dTup dNil) dNil)))) (gSet 5))
  (sSeq (sFor (iE (dLst false (dCons (dC (.str "place")) (dCons (dC (.str "card")) dNil)))) (.one 6) (sSeq (sAsg (dOwn Γ 87 3 (dCons (dVar 4) (dCons (dVar 3) (dCons (dVar 6) dNil)))) (gSet 7))
  (sSeq (sIf (tOr' (tNot' (Dn.tVal (dIsi BT.bool (dVar 7)))) (Dn.tVal (dBin neV' (dVar 7) (dOwn Γ 92 2 (dCons (dVar 5) (dCons (dVar 6) dNil)))))) (sSeq (sRet (dC (.bl false)))
  sNext) sNext)
  sNext)))
  sNext)))))
  (sSeq (sRet (dC (.bl true)))
  sNext))
def f93 : FnT := ⟨1, 8, true, d93_law⟩
/-- law -/
def d94_law (Γ : Calls) : DS :=
  (sSeq (sFor (iRg (dCons (dCall gMax2 (dCons (dC (.int 2)) (dCons (dCall gMin2 (dCons (dC (.int 4)) (dCons (dAdd false (dCall gLenW (dCons (dVar 0) dNil)) (dC (.int 2))) dNil))) dNil))) dNil)) (.one 1) (sSeq (sAsg (dOwn Γ 16 2 (dCons (dVar 0) (dCons (dVar 1) dNil))) (gSet 2))
  (sSeq (sAsg (dOwn Γ 70 2 (dCons (dVar 2) (dCons (dC (.int 10)) dNil))) (gTupW (gNames [3, 4])))
  (sSeq (sAsg (dCall gMin2 (dCons (dAdd false (dVar 3) (dC (.int 1))) (dCons (dC (.int 10)) dNil))) (gSet 5))
  (sSeq (sFor (iE (dLst false (dCons (dC (.str "place")) (dCons (dC (.str "card")) dNil)))) (.one 6) (sSeq (sAsg (dLc false (iRg (dCons (dC (.int 2)) (dCons (dAdd false (dVar 5) (dC (.int 1))) dNil))) (.one 8) (Dn.tVal (dOwn Γ 92 2 (dCons (dOwn Γ 91 3 (dCons (dVar 4) (dCons (dVar 8) (dCons (dTup dNil) dNil)))) (dCons (dVar 6) dNil)))) (dVar 8) [8]) (gSet 7))
  (sSeq (sIf (Dn.tVal (dBin neV' (dOwn Γ 88 3 (dCons (dVar 4) (dCons (dVar 6) (dCons (dVar 5) dNil)))) (dVar 7))) (sSeq (sRet (dC (.bl false)))
  sNext) sNext)
  sNext)))
  sNext)))))
  (sSeq (sRet (dC (.bl true)))
  sNext))
def f94 : FnT := ⟨1, 9, true, d94_law⟩
/-- needless -/
def d95_needless (Γ : Calls) : DS :=
  (sSeq (sExpr (dOwn Γ 86 3 (dCons (dVar 0) (dCons (dVar 1) (dCons (dVar 2) dNil)))))
  (sSeq (sAsg (dLst true dNil) (gSet 3))
  (sSeq (sFor (iRg (dCons (dCall gLenW (dCons (dVar 0) dNil)) dNil)) (.one 4) (sSeq (sAsg (dAdd false (dSl false (dVar 0) oNone (oSome (dVar 4))) (dSl false (dVar 0) (oSome (dAdd false (dVar 4) (dC (.int 1)))) oNone)) (gSet 5))
  (sSeq (sIf (tAnd' (Dn.tVal (dOwn Γ 5 1 (dCons (dVar 5) dNil))) (Dn.tVal (dOwn Γ 85 4 (dCons (dVar 5) (dCons (dVar 1) (dCons (dVar 2) (dCons (dTup dNil) dNil))))))) (sSeq (sExpr (dMt "list" mAppend (dVar 3) (dCons (dVar 4) dNil)))
  sNext) sNext)
  sNext)))
  (sSeq (sRet (dVar 3))
  sNext))))
def f95 : FnT := ⟨3, 6, true, d95_needless⟩
/-- law -/
def d96_law (Γ : Calls) : DS :=
  (sSeq (sFor (iRg (dCons (dCall gMax2 (dCons (dC (.int 2)) (dCons (dCall gMin2 (dCons (dC (.int 5)) (dCons (dAdd false (dCall gLenW (dCons (dVar 0) dNil)) (dC (.int 2))) dNil))) dNil))) dNil)) (.one 1) (sSeq (sAsg (dOwn Γ 16 2 (dCons (dVar 0) (dCons (dVar 1) dNil))) (gSet 2))
  (sSeq (sAsg (dOwn Γ 70 2 (dCons (dVar 2) (dCons (dC (.int 10)) dNil))) (gTupW (gNames [3, 4])))
  (sSeq (sIf (Dn.tVal (dBin eqV' (dOwn Γ 17 2 (dCons (dVar 2) (dCons (dC (.int 2)) dNil))) (dC (.int 0)))) (sSeq (sAsg (dCall gTuple (dCons (dLc false (iRg (dCons (dC (.int 2)) dNil)) (.one 6) yesT (dTup (dCons (dC (.str "piles")) (dCons (dC (.int 3)) (dCons (dOwn Γ 17 2 (dCons (dVar 2) (dCons (dC (.int 3)) dNil))) dNil)))) [6]) dNil)) (gSet 5))
  (sSeq (sAsg (dSl false (dAdd false (dVar 4) (dVar 5)) oNone (oSome (dC (.int 8)))) (gSet 4))
  sNext)) sNext)
  (sSeq (sFor (iE (dLst false (dCons (dC (.str "place")) (dCons (dC (.str "card")) dNil)))) (.one 7) (sSeq (sAsg (dLst true dNil) (gSet 8))
  (sSeq (sFor (iRg (dCons (dCall gLenW (dCons (dVar 4) dNil)) dNil)) (.one 9) (sSeq (sAsg (dAdd false (dSl false (dVar 4) oNone (oSome (dVar 9))) (dSl false (dVar 4) (oSome (dAdd false (dVar 9) (dC (.int 1)))) oNone)) (gSet 10))
  (sSeq (sIf (tAnd' (Dn.tVal (dOwn Γ 27 1 (dCons (dVar 10) dNil))) (Dn.tVal (dOwn Γ 92 2 (dCons (dOwn Γ 91 3 (dCons (dVar 10) (dCons (dVar 3) (dCons (dTup dNil) dNil)))) (dCons (dVar 7) dNil))))) (sSeq (sExpr (dMt "list" mAppend (dVar 8) (dCons (dVar 9) dNil)))
  sNext) sNext)
  sNext)))
  (sSeq (sIf (Dn.tVal (dBin neV' (dOwn Γ 95 3 (dCons (dVar 4) (dCons (dVar 3) (dCons (dVar 7) dNil)))) (dVar 8))) (sSeq (sRet (dC (.bl false)))
  sNext) sNext)
  sNext))))
  sNext)))))
  (sSeq (sRet (dC (.bl true)))
  sNext))
def f96 : FnT := ⟨1, 11, true, d96_law⟩
/-- clash -/
def d97_clash (Γ : Calls) : DS :=
  (sSeq (sExpr (dOwn Γ 86 3 (dCons (dVar 0) (dCons (dVar 1) (dCons (dVar 2) dNil)))))
  (sSeq (sAsg (dLst true dNil) (gSet 3))
  (sSeq (sFor (iDv (dOwn Γ 84 4 (dCons (dVar 0) (dCons (dVar 1) (dCons (dVar 2) (dCons (dTup dNil) dNil)))))) (.one 4) (sSeq (sIf (Dn.tVal (dBin gtV (dCall gLenW (dCons (dVar 4) dNil)) (dC (.int 1)))) (sSeq (sAsg (dCallL false gSort (dCons (dLv false (dVar 4)) dNil)) (gSet 5))
  (sSeq (sExpr (dMt "list" mAppend (dVar 3) (dCons (dTup (dCons (dBin idxW (dVar 5) (dC (.int 0))) (dCons (dBin idxW (dVar 5) (dC (.int 1))) dNil))) dNil)))
  sNext)) sNext)
  sNext))
  (sSeq (sRet (dIf (Dn.tVal (dBin neV' (dVar 3) (dLst false dNil))) (dCall gMinL (dCons (dVar 3) dNil)) (dC .non)))
  sNext))))
def f97 : FnT := ⟨3, 6, true, d97_clash⟩
/-- _law_first -/
def d98_law_first (Γ : Calls) : DS :=
  (sSeq (sAsg (dLst true dNil) (gSet 2))
  (sSeq (sFor (iDk (dVar 0)) (.one 3) (sSeq (sAsg (dLc false (iE (dBin idxW (dVar 0) (dVar 3))) (.one 5) yesT (dTup (dCons (dBin idxW (dVar 5) (dC (.int 0))) (dCons (dBin idxW (dVar 5) (dVar 1)) dNil))) [5]) (gSet 4))
  (sSeq (sAsg (dLc false (iE (dVar 4)) (.tup [7, 8]) (Dn.tVal (dBin neV' (dVar 8) (dBin idxW (dBin idxW (dVar 4) (dC (.int 0))) (dC (.int 1))))) (dVar 7) [7, 8]) (gSet 6))
  (sSeq (sIf (Dn.tVal (dBin neV' (dVar 6) (dLst false dNil))) (sSeq (sExpr (dMt "list" mAppend (dVar 2) (dCons (dTup (dCons (dBin idxW (dBin idxW (dVar 4) (dC (.int 0))) (dC (.int 0))) (dCons (dBin idxW (dVar 6) (dC (.int 0))) dNil))) dNil)))
  sNext) sNext)
  sNext))))
  (sSeq (sRet (dIf (Dn.tVal (dBin neV' (dVar 2) (dLst false dNil))) (dCall gMinL (dCons (dVar 2) dNil)) (dC .non)))
  sNext)))
def f98 : FnT := ⟨2, 9, true, d98_law_first⟩
/-- law -/
def d99_law (Γ : Calls) : DS :=
  (sSeq (sFor (iRg (dCons (dCall gMax2 (dCons (dC (.int 3)) (dCons (dCall gMin2 (dCons (dC (.int 7)) (dCons (dAdd false (dCall gLenW (dCons (dVar 0) dNil)) (dC (.int 2))) dNil))) dNil))) dNil)) (.one 1) (sSeq (sAsg (dOwn Γ 16 2 (dCons (dVar 0) (dCons (dVar 1) dNil))) (gSet 2))
  (sSeq (sAsg (dOwn Γ 70 2 (dCons (dVar 2) (dCons (dC (.int 12)) dNil))) (gTupW (gNames [3, 4])))
  (sSeq (sAsg (dOwn Γ 91 3 (dCons (dVar 4) (dCons (dVar 3) (dCons (dTup dNil) dNil)))) (gSet 5))
  (sSeq (sFor (iE (dLst false (dCons (dTup (dCons (dC (.str "place")) (dCons (dC (.int 1)) dNil))) (dCons (dTup (dCons (dC (.str "card")) (dCons (dC (.int 2)) dNil))) dNil)))) (.tup [6, 7]) (sSeq (sAsg (dOwn Γ 98 2 (dCons (dVar 5) (dCons (dVar 7) dNil))) (gSet 8))
  (sSeq (sIf (tOr' (Dn.tVal (dBin neV' (dOwn Γ 97 3 (dCons (dVar 4) (dCons (dVar 3) (dCons (dVar 6) dNil)))) (dVar 8))) (Dn.tVal (dBin neV' (dOwn Γ 87 3 (dCons (dVar 4) (dCons (dVar 3) (dCons (dVar 6) dNil)))) (dBin isV (dVar 8) (dC .non))))) (sSeq (sRet (dC (.bl false)))
  sNext) sNext)
  sNext)))
  sNext)))))
  (sSeq (sRet (dC (.bl true)))
  sNext))
def f99 : FnT := ⟨1, 9, true, d99_law⟩
/-- lots_of -/
def d100_lots_of (Γ : Calls) : DS :=
  (sSeq (sAsg (dLst false (dCons (dTup dNil) dNil)) (gSet 1))
  (sSeq (sFor (iE (dVar 0)) (.one 2) (sSeq (sAsg (dAdd false (dVar 1) (dLc false (iE (dVar 1)) (.one 3) yesT (dAdd false (dVar 3) (dTup (dCons (dVar 2) dNil))) [3])) (gSet 1))
  sNext))
  (sSeq (sRet (dLc false (iE (dCallL false gSort (dCons (dLc false (iE (dVar 1)) (.one 3) yesT (dTup (dCons (dCall gLenW (dCons (dVar 3) dNil)) (dCons (dVar 3) dNil))) [3]) dNil))) (.tup [4, 3]) yesT (dVar 3) [4, 3]))
  sNext)))
def f100 : FnT := ⟨1, 5, true, d100_lots_of⟩
/-- open_lots -/
def d101_open_lots (Γ : Calls) : DS :=
  (sSeq (sExpr (dOwn Γ 86 3 (dCons (dVar 0) (dCons (dVar 1) (dCons (dVar 2) dNil)))))
  (sSeq (sAsg (dLst true dNil) (gSet 3))
  (sSeq (sFor (iE (dOwn Γ 100 1 (dCons (dOwn Γ 10 1 (dCons (dVar 0) dNil)) dNil))) (.one 4) (sSeq (sAsg (dCall gAny (dCons (dLc false (iE (dVar 3)) (.one 7) yesT (dCall gAll (dCons (dLc false (iE (dVar 7)) (.one 6) yesT (dBin (inW false) (dVar 6) (dVar 4)) [6]) dNil)) [7]) dNil)) (gSet 5))
  (sSeq (sIf (tAnd' (tNot' (Dn.tVal (dVar 5))) (Dn.tVal (dOwn Γ 85 4 (dCons (dVar 0) (dCons (dVar 1) (dCons (dVar 2) (dCons (dVar 4) dNil))))))) (sSeq (sExpr (dMt "list" mAppend (dVar 3) (dCons (dVar 4) dNil)))
  sNext) sNext)
  sNext)))
  (sSeq (sRet (dCallL false gSort (dCons (dVar 3) dNil)))
  sNext))))
def f101 : FnT := ⟨3, 8, true, d101_open_lots⟩
/-- _law_more -/
def d102_law_more (Γ : Calls) : DS :=
  (sSeq (sAsg (dLc false (iE (dVar 1)) (.one 3) yesT (dBin idxW (dVar 3) (dC (.int 0))) [3]) (gSet 2))
  (sSeq (sIf (tAnd' (Dn.tVal (dBin ltV (dMt "list" mCount (dVar 2) (dCons (dC (.str "free")) dNil)) (dC (.int 2)))) (Dn.tVal (dBin ltV (dCall gLenW (dCons (dVar 1) dNil)) (dC (.int 7))))) (sSeq (sAsg (dAdd false (dTup (dCons (dTup (dCons (dC (.str "free")) dNil)) dNil)) (dBin mulV (dTup (dCons (dTup (dCons (dC (.str "piles")) (dCons (dC (.int 3)) (dCons (dC (.int 1)) dNil)))) dNil)) (dOwn Γ 17 2 (dCons (dVar 0) (dCons (dC (.int 2)) dNil))))) (gSet 4))
  (sSeq (sIf (Dn.tVal (dOwn Γ 8 1 (dCons (dVar 1) dNil))) (sSeq (sRet (dAdd false (dVar 1) (dSl false (dVar 4) oNone (oSome (dBin subV (dC (.int 8)) (dCall gLenW (dCons (dVar 1) dNil)))))))
  sNext) sNext)
  (sSeq (sRet (dAdd false (dAdd false (dSl false (dVar 4) oNone (oSome (dC (.int 1)))) (dVar 1)) (dSl false (dVar 4) (oSome (dC (.int 1))) (oSome (dBin subV (dC (.int 8)) (dCall gLenW (dCons (dVar 1) dNil)))))))
  sNext))) sNext)
  (sSeq (sRet (dVar 1))
  sNext)))
def f102 : FnT := ⟨2, 5, false, d102_law_more⟩
/-- law -/
def d103_law (Γ : Calls) : DS :=
  (sSeq (sFor (iRg (dCons (dCall gMax2 (dCons (dC (.int 2)) (dCons (dCall gMin2 (dCons (dC (.int 5)) (dCons (dAdd false (dCall gLenW (dCons (dVar 0) dNil)) (dC (.int 2))) dNil))) dNil))) dNil)) (.one 1) (sSeq (sAsg (dOwn Γ 16 2 (dCons (dVar 0) (dCons (dVar 1) dNil))) (gSet 2))
  (sSeq (sAsg (dOwn Γ 70 2 (dCons (dVar 2) (dCons (dC (.int 8)) dNil))) (gTupW (gNames [3, 4])))
  (sSeq (sAsg (dOwn Γ 102 2 (dCons (dVar 2) (dCons (dVar 4) dNil))) (gSet 4))
  (sSeq (sIf (Dn.tVal (dBin gtV (dOwn Γ 69 2 (dCons (dVar 4) (dCons (dVar 3) dNil))) (dC (.int 1500)))) (sSeq (sAsg (dTup (dCons (dTup (dCons (dC (.str "think")) (dCons (dC (.int 1)) (dCons (dC (.int 3)) dNil)))) (dCons (dTup (dCons (dC (.str "look")) (dCons (dC (.str "that")) dNil))) (dCons (dTup (dCons (dC (.str "free")) dNil)) (dCons (dTup (dCons (dC (.str "deal")) (dCons (dC (.str "that")) (dCons (dC (.str "on")) dNil)))) dNil))))) (gSet 4))
  sNext) sNext)
  (sSeq (sAsg (dLc false (iRg (dCons (dCall gLenW (dCons (dVar 4) dNil)) dNil)) (.one 6) (Dn.tVal (dBin (inW false) (dBin idxW (dBin idxW (dVar 4) (dVar 6)) (dC (.int 0))) (dLst false (dCons (dC (.str "free")) (dCons (dC (.str "think")) dNil))))) (dVar 6) [6]) (gSet 5))
  (sSeq (sFor (iE (dLst false (dCons (dC (.str "place")) (dCons (dC (.str "card")) dNil)))) (.one 7) (sSeq (sAsg (dLst true dNil) (gSet 8))
  (sSeq (sFor (iE (dOwn Γ 100 1 (dCons (dVar 5) dNil))) (.one 9) (sSeq (sAsg (dLc false (iE (dVar 8)) (.one 11) (Dn.tVal (dBin eqV' (dLc false (iE (dVar 11)) (.one 6) (Dn.tVal (dBin (inW true) (dVar 6) (dVar 9))) (dVar 6) [6]) (dLst false dNil))) (dVar 11) [11]) (gSet 10))
  (sSeq (sIf (tAnd' (Dn.tVal (dBin eqV' (dVar 10) (dLst false dNil))) (Dn.tVal (dOwn Γ 92 2 (dCons (dOwn Γ 91 3 (dCons (dVar 4) (dCons (dVar 3) (dCons (dVar 9) dNil)))) (dCons (dVar 7) dNil))))) (sSeq (sExpr (dMt "list" mAppend (dVar 8) (dCons (dVar 9) dNil)))
  sNext) sNext)
  sNext)))
  (sSeq (sIf (Dn.tVal (dBin neV' (dOwn Γ 101 3 (dCons (dVar 4) (dCons (dVar 3) (dCons (dVar 7) dNil)))) (dCallL false gSort (dCons (dVar 8) dNil)))) (sSeq (sRet (dC (.bl false)))
  sNext) sNext)
  sNext))))
  sNext)))))))
  (sSeq (sRet (dC (.bl true)))
  sNext))
def f103 : FnT := ⟨1, 12, true, d103_law⟩
/-- law -/
def d104_law (Γ : Calls) : DS :=
  (sSeq (sFor (iRg (dCons (dCall gMax2 (dCons (dC (.int 3)) (dCons (dCall gMin2 (dCons (dC (.int 6)) (dCons (dAdd false (dCall gLenW (dCons (dVar 0) dNil)) (dC (.int 2))) dNil))) dNil))) dNil)) (.one 1) (sSeq (sAsg (dOwn Γ 16 2 (dCons (dVar 0) (dCons (dVar 1) dNil))) (gSet 2))
  (sSeq (sAsg (dAdd false (dC (.int 2)) (dOwn Γ 17 2 (dCons (dVar 2) (dCons (dC (.int 11)) dNil)))) (gSet 3))
  (sSeq (sAsg (dOwn Γ 21 3 (dCons (dVar 2) (dCons (dVar 3) (dCons (dC (.int 5)) dNil)))) (gSet 4))
  (sSeq (sAsg (dCall gTuple (dCons (dLc false (iE (dVar 4)) (.one 6) yesT (dIf (Dn.tVal (dBin eqV' (dBin idxW (dVar 6) (dC (.int 0))) (dC (.str "think")))) (dAdd false (dTup (dCons (dC (.str "name")) dNil)) (dSl false (dVar 6) (oSome (dC (.int 1))) oNone)) (dVar 6)) [6]) dNil)) (gSet 5))
  (sSeq (sFor (iE (dLst false (dCons (dC (.str "place")) (dCons (dC (.str "card")) dNil)))) (.one 7) (sSeq (sIf (tAnd' (Dn.tVal (dOwn Γ 87 3 (dCons (dVar 4) (dCons (dVar 3) (dCons (dVar 7) dNil))))) (tNot' (Dn.tVal (dOwn Γ 87 3 (dCons (dVar 5) (dCons (dVar 3) (dCons (dVar 7) dNil))))))) (sSeq (sRet (dC (.bl false)))
  sNext) sNext)
  (sSeq (sAsg (dOwn Γ 101 3 (dCons (dVar 4) (dCons (dVar 3) (dCons (dVar 7) dNil)))) (gSet 8))
  (sSeq (sIf (tOr' (Dn.tVal (dBin neV' (dBin (inW false) (dTup dNil) (dVar 8)) (dOwn Γ 87 3 (dCons (dVar 4) (dCons (dVar 3) (dCons (dVar 7) dNil)))))) (tAnd' (Dn.tVal (dOwn Γ 87 3 (dCons (dVar 4) (dCons (dVar 3) (dCons (dVar 7) dNil))))) (Dn.tVal (dBin neV' (dVar 8) (dLst false (dCons (dTup dNil) dNil)))))) (sSeq (sRet (dC (.bl false)))
  sNext) sNext)
  (sSeq (sIf (Dn.tVal (dBin neV' (dBin isV (dOwn Γ 97 3 (dCons (dVar 4) (dCons (dVar 3) (dCons (dVar 7) dNil)))) (dC .non)) (dOwn Γ 87 3 (dCons (dVar 4) (dCons (dVar 3) (dCons (dVar 7) dNil)))))) (sSeq (sRet (dC (.bl false)))
  sNext) sNext)
  sNext)))))
  (sSeq (sAsg (dAdd false (dVar 4) (dTup (dCons (dTup (dCons (dC (.str "piles")) (dCons (dC (.int 2)) (dCons (dOwn Γ 17 2 (dCons (dVar 2) (dCons (dC (.int 2)) dNil))) dNil)))) dNil))) (gSet 9))
  (sSeq (sIf (tAnd' (Dn.tVal (dOwn Γ 87 3 (dCons (dVar 4) (dCons (dVar 3) (dCons (dC (.str "card")) dNil))))) (tNot' (Dn.tVal (dOwn Γ 87 3 (dCons (dVar 9) (dCons (dVar 3) (dCons (dC (.str "card")) dNil))))))) (sSeq (sRet (dC (.bl false)))
  sNext) sNext)
  sNext))))))))
  (sSeq (sRet (dC (.bl true)))
  sNext))
def f104 : FnT := ⟨1, 10, true, d104_law⟩
/-- all_answers -/
def d105_all_answers (Γ : Calls) : DS :=
  (sSeq (sExpr (dOwn Γ 6 1 (dCons (dVar 0) dNil)))
  (sSeq (sExpr (dOwn Γ 7 1 (dCons (dVar 1) dNil)))
  (sSeq (sRet (dCallL false gSort (dCons (dOwn Γ 84 4 (dCons (dVar 0) (dCons (dVar 1) (dCons (dC (.str "place")) (dCons (dTup dNil) dNil))))) dNil)))
  sNext)))
def f105 : FnT := ⟨2, 2, true, d105_all_answers⟩
/-- open_by -/
def d106_open_by (Γ : Calls) : DS :=
  (sSeq (sExpr (dOwn Γ 86 3 (dCons (dVar 0) (dCons (dVar 1) (dCons (dVar 2) dNil)))))
  (sSeq (sAsg (dOwn Γ 84 4 (dCons (dVar 0) (dCons (dVar 1) (dCons (dVar 2) (dCons (dTup dNil) dNil))))) (gSet 4))
  (sSeq (sIf (tOr' (tNot' (Dn.tVal (dIsi BT.tuple (dVar 3)))) (tNot' (Dn.tVal (dCall gAll (dCons (dLc false (iE (dVar 3)) (.one 5) yesT (dIsi BT.int (dVar 5)) [5]) dNil))))) (sSeq (sRaise "InvalidAnswers")
  sNext) sNext)
  (sSeq (sIf (tOr' (Dn.tVal (dCall gAny (dCons (dLc false (iE (dVar 3)) (.one 5) yesT (dIsi BT.bool (dVar 5)) [5]) dNil))) (Dn.tVal (dBin (inW true) (dVar 3) (dVar 4)))) (sSeq (sRaise "InvalidAnswers")
  sNext) sNext)
  (sSeq (sRet (dCallL false gSort (dCons (dBin idxW (dVar 4) (dVar 3)) dNil)))
  sNext)))))
def f106 : FnT := ⟨4, 6, true, d106_open_by⟩
/-- _law_refused -/
def d107_law_refused (Γ : Calls) : DS :=
  (sSeq (sTry (subX ["InvalidTrick", "InvalidSize", "InvalidWish", "InvalidAnswers"]) (sSeq (sExpr (dOwn Γ 106 4 (dCons (dVar 0) (dCons (dVar 1) (dCons (dC (.str "card")) (dCons (dVar 2) dNil))))))
  sNext) [("InvalidAnswers", (sSeq (sRet (dC (.bl true)))
  sNext))])
  (sSeq (sRet (dC (.bl false)))
  sNext))
def f107 : FnT := ⟨3, 3, true, d107_law_refused⟩
/-- law -/
def d108_law (Γ : Calls) : DS :=
  (sSeq (sFor (iRg (dCons (dCall gMax2 (dCons (dC (.int 3)) (dCons (dCall gMin2 (dCons (dC (.int 7)) (dCons (dAdd false (dCall gLenW (dCons (dVar 0) dNil)) (dC (.int 2))) dNil))) dNil))) dNil)) (.one 1) (sSeq (sAsg (dOwn Γ 16 2 (dCons (dVar 0) (dCons (dVar 1) dNil))) (gSet 2))
  (sSeq (sAsg (dOwn Γ 70 2 (dCons (dVar 2) (dCons (dC (.int 14)) dNil))) (gTupW (gNames [3, 4])))
  (sSeq (sAsg (dOwn Γ 91 3 (dCons (dVar 4) (dCons (dVar 3) (dCons (dTup dNil) dNil)))) (gSet 5))
  (sSeq (sIf (Dn.tVal (dBin neV' (dOwn Γ 105 2 (dCons (dVar 4) (dCons (dVar 3) dNil))) (dCallL false gSort (dCons (dVar 5) dNil)))) (sSeq (sRet (dC (.bl false)))
  sNext) sNext)
  (sSeq (sFor (iE (dSl false (dCallL false gSort (dCons (dVar 5) dNil)) oNone (oSome (dC (.int 20))))) (.one 6) (sSeq (sFor (iE (dLst false (dCons (dTup (dCons (dC (.str "place")) (dCons (dC (.int 1)) dNil))) (dCons (dTup (dCons (dC (.str "card")) (dCons (dC (.int 2)) dNil))) dNil)))) (.tup [7, 8]) (sSeq (sIf (Dn.tVal (dBin neV' (dOwn Γ 106 4 (dCons (dVar 4) (dCons (dVar 3) (dCons (dVar 7) (dCons (dVar 6) dNil))))) (dUnL false gSortSet (dLc false (iE (dBin idxW (dVar 5) (dVar 6))) (.one 9) yesT (dBin idxW (dVar 9) (dVar 8)) [9])))) (sSeq (sRet (dC (.bl false)))
  sNext) sNext)
  sNext))
  sNext))
  (sSeq (sAsg (dAdd false (dBin idxW (dCallL false gSort (dCons (dVar 5) dNil)) (dC (.int 0))) (dTup (dCons (dC (.int 0)) dNil))) (gSet 10))
  (sSeq (sFor (iE (dLst false (dCons (dC .non) (dCons (dC (.str "")) (dCons (dCallL false gList (dCons (dVar 10) dNil)) (dCons (dVar 10) (dCons (dAdd false (dBin mulV (dTup (dCons (dC (.int 41)) dNil)) (dCall gLenW (dCons (dBin idxW (dCallL false gSort (dCons (dVar 5) dNil)) (dC (.int 0))) dNil))) (dTup (dCons (dC (.int 41)) dNil))) (dCons (dTup (dCons (dC (.str "a")) dNil)) (dCons (dC (.int 5)) dNil))))))))) (.one 11) (sSeq (sIf (tNot' (Dn.tVal (dOwn Γ 107 3 (dCons (dVar 4) (dCons (dVar 3) (dCons (dVar 11) dNil)))))) (sSeq (sRet (dC (.bl false)))
  sNext) sNext)
  sNext))
  sNext))))))))
  (sSeq (sRet (dC (.bl true)))
  sNext))
def f108 : FnT := ⟨1, 12, true, d108_law⟩
/-- law -/
def d109_law (Γ : Calls) : DS :=
  (sSeq (sFor (iRg (dCons (dCall gMax2 (dCons (dC (.int 3)) (dCons (dCall gMin2 (dCons (dC (.int 7)) (dCons (dAdd false (dCall gLenW (dCons (dVar 0) dNil)) (dC (.int 2))) dNil))) dNil))) dNil)) (.one 1) (sSeq (sAsg (dOwn Γ 16 2 (dCons (dVar 0) (dCons (dVar 1) dNil))) (gSet 2))
  (sSeq (sAsg (dOwn Γ 18 2 (dCons (dVar 2) (dCons (dLst false (dCons (dC (.int 2)) (dCons (dC (.int 5)) (dCons (dC (.int 9)) (dCons (dAdd false (dC (.int 2)) (dOwn Γ 17 2 (dCons (dVar 2) (dCons (dC (.int 39)) dNil)))) dNil))))) dNil))) (gSet 3))
  (sSeq (sAsg (dCall gTuple (dCons (dLc false (iE (dOwn Γ 21 3 (dCons (dVar 2) (dCons (dVar 3) (dCons (dC (.int 7)) dNil))))) (.one 5) (Dn.tVal (dBin (inW true) (dBin idxW (dVar 5) (dC (.int 0))) (dLst false (dCons (dC (.str "free")) (dCons (dC (.str "look")) dNil))))) (dVar 5) [5]) dNil)) (gSet 4))
  (sSeq (sAsg (dCall gTuple (dCons (dLc false (iE (dVar 4)) (.one 5) yesT (dIf (Dn.tVal (dBin eqV' (dBin idxW (dVar 5) (dC (.int 0))) (dC (.str "think")))) (dAdd false (dTup (dCons (dC (.str "name")) dNil)) (dSl false (dVar 5) (oSome (dC (.int 1))) oNone)) (dVar 5)) [5]) dNil)) (gSet 4))
  (sSeq (sIf (tOr' (Dn.tVal (dBin neV' (dOwn Γ 15 1 (dCons (dVar 4) dNil)) (dLst false dNil))) (Dn.tVal (dBin neV' (dOwn Γ 87 3 (dCons (dVar 4) (dCons (dVar 3) (dCons (dC (.str "place")) dNil)))) (dOwn Γ 87 3 (dCons (dVar 4) (dCons (dVar 3) (dCons (dC (.str "card")) dNil))))))) (sSeq (sRet (dC (.bl false)))
  sNext) sNext)
  (sSeq (sFor (iE (dSl false (dOwn Γ 105 2 (dCons (dVar 4) (dCons (dVar 3) dNil))) oNone (oSome (dC (.int 12))))) (.one 6) (sSeq (sPar2 7 8 (dCons (dOwn Γ 106 4 (dCons (dVar 4) (dCons (dVar 3) (dCons (dC (.str "place")) (dCons (dVar 6) dNil))))) (dCons (dOwn Γ 106 4 (dCons (dVar 4) (dCons (dVar 3) (dCons (dC (.str "card")) (dCons (dVar 6) dNil))))) dNil)))
  (sSeq (sIf (tOr' (Dn.tVal (dBin neV' (dCall gLenW (dCons (dVar 7) dNil)) (dCall gLenW (dCons (dVar 8) dNil)))) (tOr' (Dn.tVal (dBin neV' (dVar 7) (dUnL false gSortSet (dVar 7)))) (Dn.tVal (dBin neV' (dVar 8) (dUnL false gSortSet (dVar 8)))))) (sSeq (sRet (dC (.bl false)))
  sNext) sNext)
  sNext)))
  (sSeq (sIf (Dn.tVal (dBin neV' (dBin isV (dOwn Γ 97 3 (dCons (dVar 4) (dCons (dVar 3) (dCons (dC (.str "place")) dNil)))) (dC .non)) (dBin isV (dOwn Γ 97 3 (dCons (dVar 4) (dCons (dVar 3) (dCons (dC (.str "card")) dNil)))) (dC .non)))) (sSeq (sRet (dC (.bl false)))
  sNext) sNext)
  sNext))))))))
  (sSeq (sRet (dC (.bl true)))
  sNext))
def f109 : FnT := ⟨1, 9, true, d109_law⟩
/-- places_behind -/
def d110_places_behind (Γ : Calls) : DS :=
  (sSeq (sAsg (dLst true dNil) (gSet 4))
  (sSeq (sFor (iE (dVar 3)) (.one 5) (sSeq (sAsg (dOwn Γ 34 4 (dCons (dOwn Γ 31 1 (dCons (dVar 1) dNil)) (dCons (dVar 0) (dCons (dVar 2) (dCons (dBin modV (dVar 5) (dVar 0)) dNil))))) (gSet 6))
  (sSeq (sExpr (dMt "list" mAppend (dVar 4) (dCons (dMt "tuple" mIndex (dVar 6) (dCons (dVar 5) dNil)) dNil)))
  sNext)))
  (sSeq (sRet (dVar 4))
  sNext)))
def f110 : FnT := ⟨4, 7, true, d110_places_behind⟩
/-- taking_ups -/
def d111_taking_ups (Γ : Calls) : DS :=
  (sSeq (sExpr (dOwn Γ 76 2 (dCons (dVar 0) (dCons (dVar 1) dNil))))
  (sSeq (sIf (tNot' (Dn.tVal (dOwn Γ 0 3 (dCons (dVar 2) (dCons (dC (.int 0)) (dCons (dBin subV (dVar 1) (dC (.int 1))) dNil)))))) (sSeq (sRaise "InvalidPlace")
  sNext) sNext)
  (sSeq (sAsg (dLst false (dCons (dTup (dCons (dTup dNil) (dCons (dRg (kLst false) (dCons (dVar 1) dNil)) dNil))) dNil)) (gSet 3))
  (sSeq (sFor (iRg (dCons (dOwn Γ 77 2 (dCons (dVar 0) (dCons (dVar 1) dNil))) dNil)) (.one 4) (sSeq (sAsg (dLst true dNil) (gSet 5))
  (sSeq (sFor (iE (dVar 3)) (.tup [6, 7]) (sSeq (sFor (iRg (dCons (dVar 0) dNil)) (.one 8) (sSeq (sExpr (dMt "list" mAppend (dVar 5) (dCons (dTup (dCons (dAdd false (dVar 6) (dTup (dCons (dVar 8) dNil))) (dCons (dOwn Γ 110 4 (dCons (dVar 0) (dCons (dVar 1) (dCons (dVar 8) (dCons (dVar 7) dNil))))) dNil))) dNil)))
  sNext))
  sNext))
  (sSeq (sAsg (dVar 5) (gSet 3))
  sNext))))
  (sSeq (sRet (dLc false (iE (dVar 3)) (.tup [6, 7]) (Dn.tVal (dCall gAll (dCons (dLc false (iE (dVar 7)) (.one 9) yesT (dBin eqV' (dVar 9) (dVar 2)) [9]) dNil))) (dVar 6) [6, 7]))
  sNext)))))
def f111 : FnT := ⟨3, 10, true, d111_taking_ups⟩
/-- _law_ways -/
def d112_law_ways (Γ : Calls) : DS :=
  (sSeq (sAsg (dLst false (dCons (dTup dNil) dNil)) (gSet 2))
  (sSeq (sFor (iRg (dCons (dVar 1) dNil)) (.one 3) (sSeq (sAsg (dLst false dNil) (gSet 4))
  (sSeq (sFor (iE (dVar 2)) (.one 5) (sSeq (sAsg (dAdd false (dVar 4) (dLc false (iRg (dCons (dVar 0) dNil)) (.one 6) yesT (dAdd false (dVar 5) (dTup (dCons (dVar 6) dNil))) [6])) (gSet 4))
  sNext))
  (sSeq (sAsg (dVar 4) (gSet 2))
  sNext))))
  (sSeq (sRet (dVar 2))
  sNext)))
def f112 : FnT := ⟨2, 7, true, d112_law_ways⟩
/-- _law_ends -/
def d113_law_ends (Γ : Calls) : DS :=
  (sSeq (sAsg (dCall gTuple (dCons (dLc false (iE (dVar 2)) (.one 4) yesT (dTup (dCons (dC (.str "piles")) (dCons (dVar 0) (dCons (dVar 4) dNil)))) [4]) dNil)) (gSet 3))
  (sSeq (sRet (dLc false (iRg (dCons (dVar 1) dNil)) (.one 5) yesT (dMt "tuple" mIndex (dBin idxW (dOwn Γ 51 3 (dCons (dVar 3) (dCons (dVar 1) (dCons (dTup (dCons (dVar 5) (dCons (dTup dNil) dNil))) dNil)))) (dC (.int 0))) (dCons (dVar 5) dNil)) [5]))
  sNext))
def f113 : FnT := ⟨3, 6, true, d113_law_ends⟩
/-- _law_outcome -/
def d114_law_outcome (Γ : Calls) : DS :=
  (sSeq (sTry (subX ["InvalidTrick", "InvalidSize", "InvalidWish", "InvalidAnswers", "InvalidNumber", "InvalidPlace"]) (sSeq (sRet (dOwn Γ 111 3 (dCons (dVar 0) (dCons (dVar 1) (dCons (dVar 2) dNil)))))
  sNext) [("InvalidNumber", (sSeq (sRet (dC (.str "number")))
  sNext)), ("InvalidSize", (sSeq (sRet (dC (.str "size")))
  sNext)), ("InvalidPlace", (sSeq (sRet (dC (.str "place")))
  sNext))])
  sNext)
def f114 : FnT := ⟨3, 3, true, d114_law_outcome⟩
/-- law -/
def d115_law (Γ : Calls) : DS :=
  (sSeq (sFor (iRg (dCons (dCall gMax2 (dCons (dC (.int 2)) (dCons (dCall gMin2 (dCons (dC (.int 4)) (dCons (dAdd false (dCall gLenW (dCons (dVar 0) dNil)) (dC (.int 2))) dNil))) dNil))) dNil)) (.one 1) (sSeq (sAsg (dOwn Γ 16 2 (dCons (dVar 0) (dCons (dVar 1) dNil))) (gSet 2))
  (sSeq (sAsg (dAdd false (dC (.int 2)) (dOwn Γ 17 2 (dCons (dVar 2) (dCons (dC (.int 5)) dNil)))) (gSet 3))
  (sSeq (sAsg (dAdd false (dC (.int 2)) (dOwn Γ 17 2 (dCons (dVar 2) (dCons (dMtD mGet (dDispN [((.int 2), (dC (.int 15))), ((.int 3), (dC (.int 26)))]) (dCons (dVar 3) (dCons (dC (.int 29)) dNil))) dNil)))) (gSet 4))
  (sSeq (sAsg (dLc false (iE (dOwn Γ 112 2 (dCons (dVar 3) (dCons (dOwn Γ 78 2 (dCons (dVar 3) (dCons (dVar 4) dNil))) dNil)))) (.one 6) yesT (dTup (dCons (dVar 6) (dCons (dOwn Γ 113 3 (dCons (dVar 3) (dCons (dVar 4) (dCons (dVar 6) dNil)))) dNil))) [6]) (gSet 5))
  (sSeq (sFor (iE (dLst false (dCons (dOwn Γ 17 2 (dCons (dVar 2) (dCons (dVar 4) dNil))) (dCons (dOwn Γ 18 2 (dCons (dVar 2) (dCons (dLst false (dCons (dC (.int 0)) (dCons (dBin subV (dVar 4) (dC (.int 1))) (dCons (dBin fdivV (dVar 4) (dC (.int 2))) dNil)))) dNil))) dNil)))) (.one 7) (sSeq (sAsg (dLc false (iE (dVar 5)) (.tup [6, 9]) (Dn.tVal (dBin eqV' (dVar 9) (dBin mulV (dLst false (dCons (dVar 7) dNil)) (dVar 4)))) (dVar 6) [6, 9]) (gSet 8))
  (sSeq (sAsg (dOwn Γ 114 3 (dCons (dVar 3) (dCons (dVar 4) (dCons (dVar 7) dNil)))) (gSet 10))
  (sSeq (sIf (Dn.tVal (dBin neV' (dVar 10) (dVar 8))) (sSeq (sRet (dC (.bl false)))
  sNext) sNext)
  (sSeq (sFor (iE (dSl false (dVar 8) oNone (oSome (dC (.int 1))))) (.one 6) (sSeq (sAsg (dCall gTuple (dCons (dLc false (iE (dVar 6)) (.one 12) yesT (dTup (dCons (dC (.str "piles")) (dCons (dVar 3) (dCons (dVar 12) dNil)))) [12]) dNil)) (gSet 11))
  (sSeq (sAsg (dBin idxW (dOwn Γ 51 3 (dCons (dVar 11) (dCons (dVar 4) (dCons (dTup (dCons (dC (.int 0)) (dCons (dTup dNil) dNil))) dNil)))) (dC (.int 1))) (gSet 13))
  (sSeq (sIf (tOr' (tNot' (Dn.tVal (dOwn Γ 87 3 (dCons (dVar 11) (dCons (dVar 4) (dCons (dC (.str "place")) dNil)))))) (Dn.tVal (dBin neV' (dOwn Γ 106 4 (dCons (dVar 11) (dCons (dVar 4) (dCons (dC (.str "place")) (dCons (dVar 13) dNil))))) (dLst false (dCons (dVar 7) dNil))))) (sSeq (sRet (dC (.bl false)))
  sNext) sNext)
  sNext))))
  sNext)))))
  (sSeq (sAsg (dLst false (dCons (dOwn Γ 114 3 (dCons (dC (.int 7)) (dCons (dC (.int 1)) (dCons (dC (.int 0)) dNil)))) (dCons (dOwn Γ 114 3 (dCons (dC (.int 2)) (dCons (dC (.int 41)) (dCons (dC (.int 0)) dNil)))) (dCons (dOwn Γ 114 3 (dCons (dC (.int 2)) (dCons (dC (.int 4)) (dCons (dC (.int 4)) dNil)))) dNil)))) (gSet 14))
  (sSeq (sIf (Dn.tVal (dBin neV' (dVar 14) (dLst false (dCons (dC (.str "number")) (dCons (dC (.str "size")) (dCons (dC (.str "place")) dNil)))))) (sSeq (sRet (dC (.bl false)))
  sNext) sNext)
  sNext))))))))
  (sSeq (sRet (dAnd (dBin eqV' (dOwn Γ 111 3 (dCons (dC (.int 3)) (dCons (dC (.int 27)) (dCons (dC (.int 0)) dNil)))) (dLst false (dCons (dTup (dCons (dC (.int 0)) (dCons (dC (.int 2)) (dCons (dC (.int 0)) dNil)))) dNil))) (dBin eqV' (dOwn Γ 111 3 (dCons (dC (.int 3)) (dCons (dC (.int 27)) (dCons (dC (.int 13)) dNil)))) (dLst false (dCons (dTup (dCons (dC (.int 1)) (dCons (dC (.int 1)) (dCons (dC (.int 1)) dNil)))) dNil)))))
  sNext))
def f115 : FnT := ⟨1, 15, true, d115_law⟩
/-- joined -/
def d116_joined (Γ : Calls) : DS :=
  (sSeq (sRet (dIf (Dn.tVal (dBin gtV (dCall gLenW (dCons (dVar 0) dNil)) (dC (.int 0)))) (dMt "str" mJoin (dC (.str ",")) (dCons (dLc false (iE (dVar 0)) (.one 1) yesT (dCall gStr (dCons (dVar 1) dNil)) [1]) dNil)) (dC (.str "-"))))
  sNext)
def f116 : FnT := ⟨1, 2, true, d116_joined⟩
/-- board -/
def d117_board (Γ : Calls) : DS :=
  (sSeq (sExpr (dOwn Γ 6 1 (dCons (dVar 0) dNil)))
  (sSeq (sExpr (dOwn Γ 7 1 (dCons (dVar 1) dNil)))
  (sSeq (sPar2 2 3 (dCons (dLst true dNil) (dCons (dOwn Γ 84 4 (dCons (dVar 0) (dCons (dVar 1) (dCons (dC (.str "place")) (dCons (dTup dNil) dNil))))) dNil)))
  (sSeq (sFor (iE (dCallL false gSort (dCons (dVar 3) dNil))) (.one 4) (sSeq (sAsg (dCallL false gSort (dCons (dBin idxW (dVar 3) (dVar 4)) dNil)) (gSet 5))
  (sSeq (sExpr (dMt "list" mAppend (dVar 2) (dCons (dAdd false (dAdd false (dAdd false (dOwn Γ 116 1 (dCons (dVar 4) dNil)) (dC (.str ": "))) (dOwn Γ 116 1 (dCons (dVar 5) dNil))) (dBin mulV (dC (.str " told")) (dCall gInt (dCons (dBin eqV' (dCall gLenW (dCons (dVar 5) dNil)) (dC (.int 1))) dNil)))) dNil)))
  sNext)))
  (sSeq (sRet (dVar 2))
  sNext)))))
def f117 : FnT := ⟨2, 6, true, d117_board⟩
/-- law -/
def d118_law (Γ : Calls) : DS :=
  (sSeq (sFor (iRg (dCons (dCall gMax2 (dCons (dC (.int 3)) (dCons (dCall gMin2 (dCons (dC (.int 7)) (dCons (dAdd false (dCall gLenW (dCons (dVar 0) dNil)) (dC (.int 2))) dNil))) dNil))) dNil)) (.one 1) (sSeq (sAsg (dOwn Γ 16 2 (dCons (dVar 0) (dCons (dVar 1) dNil))) (gSet 2))
  (sSeq (sAsg (dOwn Γ 70 2 (dCons (dVar 2) (dCons (dC (.int 14)) dNil))) (gTupW (gNames [3, 4])))
  (sSeq (sPar2 5 6 (dCons (dOwn Γ 91 3 (dCons (dVar 4) (dCons (dVar 3) (dCons (dTup dNil) dNil)))) (dCons (dLst true dNil) dNil)))
  (sSeq (sFor (iE (dCallL false gSort (dCons (dVar 5) dNil))) (.one 7) (sSeq (sAsg (dUnL false gSortSet (dLc false (iE (dBin idxW (dVar 5) (dVar 7))) (.one 9) yesT (dBin idxW (dVar 9) (dC (.int 1))) [9])) (gSet 8))
  (sSeq (sAsg (dIf (Dn.tVal (dBin neV' (dVar 7) (dTup dNil))) (dMt "str" mJoin (dC (.str ",")) (dCons (dLc false (iE (dVar 7)) (.one 11) yesT (dCall gStr (dCons (dVar 11) dNil)) [11]) dNil)) (dC (.str "-"))) (gSet 10))
  (sSeq (sExpr (dMt "list" mAppend (dVar 6) (dCons (dAdd false (dAdd false (dAdd false (dVar 10) (dC (.str ": "))) (dMt "str" mJoin (dC (.str ",")) (dCons (dLc false (iE (dVar 8)) (.one 12) yesT (dCall gStr (dCons (dVar 12) dNil)) [12]) dNil))) (dBin mulV (dC (.str " told")) (dCall gInt (dCons (dBin eqV' (dCall gLenW (dCons (dVar 8) dNil)) (dC (.int 1))) dNil)))) dNil)))
  sNext))))
  (sSeq (sIf (Dn.tVal (dBin neV' (dOwn Γ 117 2 (dCons (dVar 4) (dCons (dVar 3) dNil))) (dVar 6))) (sSeq (sRet (dC (.bl false)))
  sNext) sNext)
  sNext))))))
  (sSeq (sRet (dC (.bl true)))
  sNext))
def f118 : FnT := ⟨1, 13, true, d118_law⟩
/-- text_of -/
def d119_text_of (Γ : Calls) : DS :=
  (sSeq (sRet (dMt "str" mJoin (dC (.str "\n")) (dCons (dLc false (iE (dVar 0)) (.one 2) yesT (dMt "str" mJoin (dC (.str " ")) (dCons (dLc false (iE (dVar 2)) (.one 1) yesT (dCall gStr (dCons (dVar 1) dNil)) [1]) dNil)) [2]) dNil)))
  sNext)
def f119 : FnT := ⟨1, 3, true, d119_text_of⟩
/-- part_of -/
def d120_part_of (Γ : Calls) : DS :=
  (sSeq (sIf (tAnd' (Dn.tVal (dBin neV' (dVar 0) (dC (.str "")))) (tAnd' (Dn.tVal (dBin leV (dCall gLenW (dCons (dVar 0) dNil)) (dC (.int 2)))) (Dn.tVal (dCall gAll (dCons (dLc false (iE (dVar 0)) (.one 1) yesT (dBin (inW false) (dVar 1) (dC (.str "0123456789"))) [1]) dNil))))) (sSeq (sRet (dCall gInt (dCons (dVar 0) dNil)))
  sNext) sNext)
  (sSeq (sRet (dVar 0))
  sNext))
def f120 : FnT := ⟨1, 2, true, d120_part_of⟩
/-- trick_read -/
def d121_trick_read (Γ : Calls) : DS :=
  (sSeq (sIf (tNot' (Dn.tVal (dIsi BT.str (dVar 0)))) (sSeq (sRaise "InvalidText")
  sNext) sNext)
  (sSeq (sAsg (dTup dNil) (gSet 1))
  (sSeq (sFor (iE (dIf (Dn.tVal (dBin neV' (dVar 0) (dC (.str "")))) (dMt "str" mSplit (dVar 0) (dCons (dC (.str "\n")) dNil)) (dLst false dNil))) (.one 2) (sSeq (sAsg (dAdd false (dVar 1) (dTup (dCons (dCall gTuple (dCons (dLc false (iE (dMt "str" mSplit (dVar 2) (dCons (dC (.str " ")) dNil))) (.one 3) yesT (dOwn Γ 120 1 (dCons (dVar 3) dNil)) [3]) dNil)) dNil))) (gSet 1))
  sNext))
  (sSeq (sIf (tOr' (tNot' (Dn.tVal (dOwn Γ 5 1 (dCons (dVar 1) dNil)))) (Dn.tVal (dBin neV' (dOwn Γ 119 1 (dCons (dVar 1) dNil)) (dVar 0)))) (sSeq (sRaise "InvalidText")
  sNext) sNext)
  (sSeq (sRet (dVar 1))
  sNext)))))
def f121 : FnT := ⟨1, 4, true, d121_trick_read⟩
/-- trick_text -/
def d122_trick_text (Γ : Calls) : DS :=
  (sSeq (sExpr (dOwn Γ 6 1 (dCons (dVar 0) dNil)))
  (sSeq (sRet (dOwn Γ 119 1 (dCons (dVar 0) dNil)))
  sNext))
def f122 : FnT := ⟨1, 1, true, d122_trick_text⟩
/-- read_trick -/
def d123_read_trick (Γ : Calls) : DS :=
  (sSeq (sRet (dOwn Γ 121 1 (dCons (dVar 0) dNil)))
  sNext)
def f123 : FnT := ⟨1, 1, true, d123_read_trick⟩
/-- _law_text -/
def d124_law_text (Γ : Calls) : DS :=
  (sSeq (sAsg (dLst true dNil) (gSet 1))
  (sSeq (sFor (iE (dVar 0)) (.one 2) (sSeq (sExpr (dMt "list" mAppend (dVar 1) (dCons (dMt "str" mJoin (dC (.str " ")) (dCons (dLc false (iE (dVar 2)) (.one 3) yesT (dCall gStr (dCons (dVar 3) dNil)) [3]) dNil)) dNil)))
  sNext))
  (sSeq (sRet (dMt "str" mJoin (dC (.str "\n")) (dCons (dVar 1) dNil)))
  sNext)))
def f124 : FnT := ⟨1, 4, true, d124_law_text⟩
/-- _law_reads -/
def d125_law_reads (Γ : Calls) : DS :=
  (sSeq (sTry (subX ["InvalidTrick", "InvalidText"]) (sSeq (sRet (dOwn Γ 123 1 (dCons (dVar 0) dNil)))
  sNext) [("InvalidText", (sSeq (sRet (dC (.str "error")))
  sNext))])
  sNext)
def f125 : FnT := ⟨1, 1, true, d125_law_reads⟩
/-- _law_bent -/
def d126_law_bent (Γ : Calls) : DS :=
  (sSeq (sPar2 2 3 (dCons (dOwn Γ 17 2 (dCons (dVar 0) (dCons (dC (.int 5)) dNil))) (dCons (dMt "str" mSplit (dVar 1) (dCons (dC (.str "\n")) dNil)) dNil)))
  (sSeq (sAsg (dOwn Γ 17 2 (dCons (dVar 0) (dCons (dCall gLenW (dCons (dVar 3) dNil)) dNil))) (gSet 4))
  (sSeq (sAsg (dMt "str" mSplit (dBin idxW (dVar 3) (dVar 4)) (dCons (dC (.str " ")) dNil)) (gSet 5))
  (sSeq (sAsg (dOwn Γ 17 2 (dCons (dVar 0) (dCons (dCall gLenW (dCons (dVar 5) dNil)) dNil))) (gSet 6))
  (sSeq (sAsg (dOwn Γ 18 2 (dCons (dVar 0) (dCons (dLst false (dCons (dC (.str "")) (dCons (dC (.str "0")) (dCons (dC (.str "1")) (dCons (dC (.str "41")) (dCons (dC (.str "07")) (dCons (dC (.str "that")) (dCons (dC (.str "on")) (dCons (dC (.str "cut")) (dCons (dC (.str "free")) (dCons (dC (.str "turn")) (dCons (dC (.str "piles")) (dCons (dC (.str "x")) dNil))))))))))))) dNil))) (gSet 7))
  (sSeq (sIf (Dn.tVal (dBin eqV' (dVar 2) (dC (.int 0)))) (sSeq (sAsg (dAdd false (dAdd false (dSl false (dVar 5) oNone (oSome (dVar 6))) (dLst false (dCons (dVar 7) dNil))) (dSl false (dVar 5) (oSome (dAdd false (dVar 6) (dC (.int 1)))) oNone)) (gSet 5))
  sNext) (sSeq (sIf (Dn.tVal (dBin eqV' (dVar 2) (dC (.int 1)))) (sSeq (sAsg (dAdd false (dAdd false (dSl false (dVar 5) oNone (oSome (dVar 6))) (dLst false (dCons (dVar 7) dNil))) (dSl false (dVar 5) (oSome (dVar 6)) oNone)) (gSet 5))
  sNext) (sSeq (sIf (Dn.tVal (dBin eqV' (dVar 2) (dC (.int 2)))) (sSeq (sAsg (dAdd false (dSl false (dVar 5) oNone (oSome (dVar 6))) (dSl false (dVar 5) (oSome (dAdd false (dVar 6) (dC (.int 1)))) oNone)) (gSet 5))
  sNext) (sSeq (sIf (Dn.tVal (dBin eqV' (dVar 2) (dC (.int 3)))) (sSeq (sRet (dMt "str" mJoin (dC (.str "\n")) (dCons (dAdd false (dAdd false (dSl false (dVar 3) oNone (oSome (dVar 4))) (dLst false (dCons (dOwn Γ 18 2 (dCons (dVar 0) (dCons (dAdd false (dVar 3) (dLst false (dCons (dC (.str "away")) (dCons (dC (.str "")) (dCons (dC (.str "cut 07")) dNil))))) dNil))) dNil))) (dSl false (dVar 3) (oSome (dVar 4)) oNone)) dNil)))
  sNext) (sSeq (sRet (dOwn Γ 18 2 (dCons (dVar 0) (dCons (dLst false (dCons (dAdd false (dVar 1) (dC (.str "\n"))) (dCons (dAdd false (dC (.str " ")) (dVar 1)) (dCons (dAdd false (dVar 1) (dC (.str " "))) (dCons (dMt "str" mUpper (dVar 1) dNil) (dCons (dMt "str" mJoin (dC (.str "\n")) (dCons (dStep (dVar 3) oNone oNone (oSome (dUn negV (dC (.int 1))))) dNil)) dNil)))))) dNil))))
  sNext))
  sNext))
  sNext))
  sNext))
  (sSeq (sRet (dMt "str" mJoin (dC (.str "\n")) (dCons (dAdd false (dAdd false (dSl false (dVar 3) oNone (oSome (dVar 4))) (dLst false (dCons (dMt "str" mJoin (dC (.str " ")) (dCons (dVar 5) dNil)) dNil))) (dSl false (dVar 3) (oSome (dAdd false (dVar 4) (dC (.int 1)))) oNone)) dNil)))
  sNext)))))))
def f126 : FnT := ⟨2, 8, false, d126_law_bent⟩
/-- law -/
def d127_law (Γ : Calls) : DS :=
  (sSeq (sFor (iRg (dCons (dCall gMax2 (dCons (dC (.int 4)) (dCons (dCall gMin2 (dCons (dC (.int 10)) (dCons (dAdd false (dCall gLenW (dCons (dVar 0) dNil)) (dC (.int 3))) dNil))) dNil))) dNil)) (.one 1) (sSeq (sAsg (dOwn Γ 16 2 (dCons (dVar 0) (dCons (dVar 1) dNil))) (gSet 2))
  (sSeq (sAsg (dOwn Γ 21 3 (dCons (dVar 2) (dCons (dC (.int 9)) (dCons (dC (.int 8)) dNil)))) (gSet 3))
  (sSeq (sAsg (dOwn Γ 124 1 (dCons (dVar 3) dNil)) (gSet 4))
  (sSeq (sIf (tOr' (Dn.tVal (dBin neV' (dOwn Γ 122 1 (dCons (dVar 3) dNil)) (dVar 4))) (Dn.tVal (dBin neV' (dOwn Γ 123 1 (dCons (dVar 4) dNil)) (dVar 3)))) (sSeq (sRet (dC (.bl false)))
  sNext) sNext)
  (sSeq (sFor (iRg (dCons (dC (.int 12)) dNil)) (.one 5) (sSeq (sAsg (dOwn Γ 126 2 (dCons (dVar 2) (dCons (dVar 4) dNil))) (gSet 6))
  (sSeq (sAsg (dOwn Γ 125 1 (dCons (dVar 6) dNil)) (gSet 7))
  (sSeq (sIf (tAnd' (Dn.tVal (dBin neV' (dVar 7) (dC (.str "error")))) (tOr' (tNot' (Dn.tVal (dOwn Γ 27 1 (dCons (dVar 7) dNil)))) (Dn.tVal (dBin neV' (dOwn Γ 124 1 (dCons (dVar 7) dNil)) (dVar 6))))) (sSeq (sRet (dC (.bl false)))
  sNext) sNext)
  sNext))))
  (sSeq (sFor (iE (dLst false (dCons (dC .non) (dCons (dC (.int 5)) (dCons (dC (.bl true)) (dCons (dLst false (dCons (dVar 4) dNil)) (dCons (dTup (dCons (dVar 4) dNil)) (dCons (dAdd false (dVar 4) (dC (.str "\nturn\nx"))) (dCons (dC (.str " ")) dNil))))))))) (.one 6) (sSeq (sIf (Dn.tVal (dBin neV' (dOwn Γ 125 1 (dCons (dVar 6) dNil)) (dC (.str "error")))) (sSeq (sRet (dC (.bl false)))
  sNext) sNext)
  sNext))
  sNext)))))))
  (sSeq (sIf (tOr' (Dn.tVal (dBin neV' (dOwn Γ 125 1 (dCons (dC (.str "")) dNil)) (dTup dNil))) (Dn.tVal (dBin neV' (dOwn Γ 125 1 (dCons (dC (.str "think 1 5\nlook that")) dNil)) (dTup (dCons (dTup (dCons (dC (.str "think")) (dCons (dC (.int 1)) (dCons (dC (.int 5)) dNil)))) (dCons (dTup (dCons (dC (.str "look")) (dCons (dC (.str "that")) dNil))) dNil)))))) (sSeq (sRet (dC (.bl false)))
  sNext) sNext)
  (sSeq (sAsg (dLst false (dCons (dC (.str "cut 07")) (dCons (dC (.str "cut")) (dCons (dC (.str "cut 41")) (dCons (dC (.str "piles 2 2")) (dCons (dC (.str "deal 1")) (dCons (dC (.str "deal on 1")) (dCons (dC (.str "turn ")) (dCons (dC (.str "look that")) dNil))))))))) (gSet 8))
  (sSeq (sAsg (dAdd false (dVar 8) (dLst false (dCons (dC (.str "free\nfree\nfree")) (dCons (dC (.str "\n")) dNil)))) (gSet 8))
  (sSeq (sRet (dBin eqV' (dLc false (iE (dVar 8)) (.one 6) (Dn.tVal (dBin neV' (dOwn Γ 125 1 (dCons (dVar 6) dNil)) (dC (.str "error")))) (dVar 6) [6]) (dLst false dNil)))
  sNext)))))
def f127 : FnT := ⟨1, 9, true, d127_law⟩
/-- _law_lists -/
def d128_law_lists (Γ : Calls) : DS :=
  (sSeq (sAsg (dLst false (dCons (dOwn Γ 14 1 (dCons (dVar 0) dNil)) (dCons (dOwn Γ 15 1 (dCons (dVar 0) dNil)) (dCons (dOwn Γ 105 2 (dCons (dVar 0) (dCons (dVar 1) dNil))) (dCons (dOwn Γ 88 3 (dCons (dVar 0) (dCons (dC (.str "card")) (dCons (dVar 1) dNil)))) dNil))))) (gSet 2))
  (sSeq (sAsg (dAdd false (dVar 2) (dLst false (dCons (dOwn Γ 101 3 (dCons (dVar 0) (dCons (dVar 1) (dCons (dC (.str "place")) dNil)))) (dCons (dOwn Γ 95 3 (dCons (dVar 0) (dCons (dVar 1) (dCons (dC (.str "card")) dNil)))) (dCons (dOwn Γ 117 2 (dCons (dVar 0) (dCons (dVar 1) dNil))) dNil))))) (gSet 2))
  (sSeq (sAsg (dAdd false (dVar 2) (dLst false (dCons (dOwn Γ 111 3 (dCons (dC (.int 2)) (dCons (dVar 1) (dCons (dC (.int 0)) dNil)))) (dCons (dOwn Γ 67 3 (dCons (dTup (dCons (dTup (dCons (dC (.str "turn")) dNil)) dNil)) (dCons (dTup (dCons (dTup (dCons (dC (.str "cut")) (dCons (dC (.int 1)) dNil))) dNil)) (dCons (dVar 1) dNil)))) dNil)))) (gSet 2))
  (sSeq (sRet (dAdd false (dVar 2) (dLst false (dCons (dOwn Γ 106 4 (dCons (dVar 0) (dCons (dVar 1) (dCons (dC (.str "place")) (dCons (dBin idxW (dOwn Γ 105 2 (dCons (dVar 0) (dCons (dVar 1) dNil))) (dC (.int 0))) dNil))))) dNil))))
  sNext))))
def f128 : FnT := ⟨2, 3, true, d128_law_lists⟩
/-- law -/
def d129_law (Γ : Calls) : DS :=
  (sSeq (sFor (iRg (dCons (dCall gMax2 (dCons (dC (.int 2)) (dCons (dCall gMin2 (dCons (dC (.int 4)) (dCons (dAdd false (dCall gLenW (dCons (dVar 0) dNil)) (dC (.int 2))) dNil))) dNil))) dNil)) (.one 1) (sSeq (sAsg (dOwn Γ 16 2 (dCons (dVar 0) (dCons (dVar 1) dNil))) (gSet 2))
  (sSeq (sAsg (dAdd false (dC (.int 2)) (dOwn Γ 17 2 (dCons (dVar 2) (dCons (dC (.int 8)) dNil)))) (gSet 3))
  (sSeq (sAsg (dOwn Γ 21 3 (dCons (dVar 2) (dCons (dVar 3) (dCons (dC (.int 4)) dNil)))) (gSet 4))
  (sSeq (sAsg (dOwn Γ 128 2 (dCons (dVar 4) (dCons (dVar 3) dNil))) (gSet 5))
  (sSeq (sIf (Dn.tVal (dBin neV' (dLc false (iE (dVar 5)) (.one 6) (tNot' (Dn.tVal (dIsi BT.list (dVar 6)))) (dVar 6) [6]) (dLst false dNil))) (sSeq (sRet (dC (.bl false)))
  sNext) sNext)
  (sSeq (sAsg (dLc false (iE (dVar 5)) (.one 6) yesT (dCall gTuple (dCons (dVar 6) dNil)) [6]) (gSet 7))
  (sSeq (sFor (iE (dVar 5)) (.one 6) (sSeq (sExpr (dMt "list" mAppend (dVar 6) (dCons (dC .non) dNil)))
  (sSeq (sExpr (dMt "list" mReverse (dVar 6) dNil))
  sNext)))
  (sSeq (sIf (Dn.tVal (dBin neV' (dLc false (iE (dOwn Γ 128 2 (dCons (dVar 4) (dCons (dVar 3) dNil)))) (.one 6) yesT (dCall gTuple (dCons (dVar 6) dNil)) [6]) (dVar 7))) (sSeq (sRet (dC (.bl false)))
  sNext) sNext)
  sNext)))))))))
  (sSeq (sRet (dC (.bl true)))
  sNext))
def f129 : FnT := ⟨1, 8, true, d129_law⟩
/-- _law_all_errors -/
def d130_law_all_errors (Γ : Calls) : DS :=
  (sSeq (sAsg (dLst false (dCons (dErr "InvalidTrick" (dVar 0)) (dCons (dErr "InvalidSize" (dVar 0)) (dCons (dErr "InvalidWish" (dVar 0)) (dCons (dErr "InvalidRun" (dVar 0)) (dCons (dErr "InvalidAnswers" (dVar 0)) dNil)))))) (gSet 1))
  (sSeq (sAsg (dAdd false (dVar 1) (dLst false (dCons (dErr "InvalidNumber" (dVar 0)) (dCons (dErr "InvalidPlace" (dVar 0)) (dCons (dErr "InvalidCard" (dVar 0)) (dCons (dErr "InvalidStep" (dVar 0)) dNil)))))) (gSet 1))
  (sSeq (sRet (dAdd false (dVar 1) (dLst false (dCons (dErr "InvalidText" (dVar 0)) (dCons (dErr "Unlike" (dVar 0)) (dCons (dErr "NotFixed" (dVar 0)) (dCons (dErr "NothingToUndo" (dVar 0)) dNil)))))))
  sNext)))
def f130 : FnT := ⟨1, 2, true, d130_law_all_errors⟩
/-- _law_kinds -/
def d131_law_kinds (Γ : Calls) : DS :=
  (sSeq (sAsg (dLst false (dCons (dIsX (subI ["TrickError", "InvalidTrick", "InvalidSize", "InvalidWish", "InvalidRun", "InvalidAnswers", "InvalidNumber", "InvalidPlace", "InvalidCard", "InvalidStep", "InvalidText", "Unlike", "NotFixed", "NothingToUndo"] "InvalidTrick") (dVar 0)) (dCons (dIsX (subI ["TrickError", "InvalidTrick", "InvalidSize", "InvalidWish", "InvalidRun", "InvalidAnswers", "InvalidNumber", "InvalidPlace", "InvalidCard", "InvalidStep", "InvalidText", "Unlike", "NotFixed", "NothingToUndo"] "InvalidSize") (dVar 0)) (dCons (dIsX (subI ["TrickError", "InvalidTrick", "InvalidSize", "InvalidWish", "InvalidRun", "InvalidAnswers", "InvalidNumber", "InvalidPlace", "InvalidCard", "InvalidStep", "InvalidText", "Unlike", "NotFixed", "NothingToUndo"] "InvalidWish") (dVar 0)) dNil)))) (gSet 1))
  (sSeq (sAsg (dAdd false (dVar 1) (dLst false (dCons (dIsX (subI ["TrickError", "InvalidTrick", "InvalidSize", "InvalidWish", "InvalidRun", "InvalidAnswers", "InvalidNumber", "InvalidPlace", "InvalidCard", "InvalidStep", "InvalidText", "Unlike", "NotFixed", "NothingToUndo"] "InvalidRun") (dVar 0)) (dCons (dIsX (subI ["TrickError", "InvalidTrick", "InvalidSize", "InvalidWish", "InvalidRun", "InvalidAnswers", "InvalidNumber", "InvalidPlace", "InvalidCard", "InvalidStep", "InvalidText", "Unlike", "NotFixed", "NothingToUndo"] "InvalidAnswers") (dVar 0)) dNil)))) (gSet 1))
  (sSeq (sAsg (dAdd false (dVar 1) (dLst false (dCons (dIsX (subI ["TrickError", "InvalidTrick", "InvalidSize", "InvalidWish", "InvalidRun", "InvalidAnswers", "InvalidNumber", "InvalidPlace", "InvalidCard", "InvalidStep", "InvalidText", "Unlike", "NotFixed", "NothingToUndo"] "InvalidNumber") (dVar 0)) (dCons (dIsX (subI ["TrickError", "InvalidTrick", "InvalidSize", "InvalidWish", "InvalidRun", "InvalidAnswers", "InvalidNumber", "InvalidPlace", "InvalidCard", "InvalidStep", "InvalidText", "Unlike", "NotFixed", "NothingToUndo"] "InvalidPlace") (dVar 0)) dNil)))) (gSet 1))
  (sSeq (sAsg (dAdd false (dVar 1) (dLst false (dCons (dIsX (subI ["TrickError", "InvalidTrick", "InvalidSize", "InvalidWish", "InvalidRun", "InvalidAnswers", "InvalidNumber", "InvalidPlace", "InvalidCard", "InvalidStep", "InvalidText", "Unlike", "NotFixed", "NothingToUndo"] "InvalidCard") (dVar 0)) (dCons (dIsX (subI ["TrickError", "InvalidTrick", "InvalidSize", "InvalidWish", "InvalidRun", "InvalidAnswers", "InvalidNumber", "InvalidPlace", "InvalidCard", "InvalidStep", "InvalidText", "Unlike", "NotFixed", "NothingToUndo"] "InvalidStep") (dVar 0)) (dCons (dIsX (subI ["TrickError", "InvalidTrick", "InvalidSize", "InvalidWish", "InvalidRun", "InvalidAnswers", "InvalidNumber", "InvalidPlace", "InvalidCard", "InvalidStep", "InvalidText", "Unlike", "NotFixed", "NothingToUndo"] "InvalidText") (dVar 0)) dNil))))) (gSet 1))
  (sSeq (sRet (dAdd false (dVar 1) (dLst false (dCons (dIsX (subI ["TrickError", "InvalidTrick", "InvalidSize", "InvalidWish", "InvalidRun", "InvalidAnswers", "InvalidNumber", "InvalidPlace", "InvalidCard", "InvalidStep", "InvalidText", "Unlike", "NotFixed", "NothingToUndo"] "Unlike") (dVar 0)) (dCons (dIsX (subI ["TrickError", "InvalidTrick", "InvalidSize", "InvalidWish", "InvalidRun", "InvalidAnswers", "InvalidNumber", "InvalidPlace", "InvalidCard", "InvalidStep", "InvalidText", "Unlike", "NotFixed", "NothingToUndo"] "NotFixed") (dVar 0)) (dCons (dIsX (subI ["TrickError", "InvalidTrick", "InvalidSize", "InvalidWish", "InvalidRun", "InvalidAnswers", "InvalidNumber", "InvalidPlace", "InvalidCard", "InvalidStep", "InvalidText", "Unlike", "NotFixed", "NothingToUndo"] "NothingToUndo") (dVar 0)) dNil))))))
  sNext)))))
def f131 : FnT := ⟨1, 2, true, d131_law_kinds⟩
/-- _law_raised_right -/
def d132_law_raised_right (Γ : Calls) : DS :=
  (sSeq (sTryAs (subX ["TrickError", "InvalidTrick", "InvalidSize", "InvalidWish", "InvalidRun", "InvalidAnswers", "InvalidNumber", "InvalidPlace", "InvalidCard", "InvalidStep", "InvalidText", "Unlike", "NotFixed", "NothingToUndo"]) (sSeq (sExpr (dOwn Γ 14 1 (dCons (dVar 0) dNil)))
  sNext) "TrickError" 1 (sSeq (sRet (dBin eqV' (dSl false (dOwn Γ 131 1 (dCons (dVar 1) dNil)) oNone (oSome (dC (.int 2)))) (dLst false (dCons (dC (.bl true)) (dCons (dC (.bl false)) dNil)))))
  sNext))
  (sSeq (sRet (dC (.bl false)))
  sNext))
def f132 : FnT := ⟨1, 2, true, d132_law_raised_right⟩
/-- law -/
def d133_law (Γ : Calls) : DS :=
  (sSeq (sFor (iRg (dCons (dCall gMax2 (dCons (dC (.int 3)) (dCons (dCall gMin2 (dCons (dC (.int 6)) (dCons (dAdd false (dCall gLenW (dCons (dVar 0) dNil)) (dC (.int 2))) dNil))) dNil))) dNil)) (.one 1) (sSeq (sAsg (dOwn Γ 16 2 (dCons (dVar 0) (dCons (dVar 1) dNil))) (gSet 2))
  (sSeq (sAsg (dOwn Γ 18 2 (dCons (dVar 2) (dCons (dLst false (dCons (dC (.str "")) (dCons (dC (.str "a message")) (dCons (dC (.str "x y")) dNil)))) dNil))) (gSet 3))
  (sSeq (sIf (tNot' (Dn.tVal (dOwn Γ 132 1 (dCons (dOwn Γ 18 2 (dCons (dVar 2) (dCons (dLst false (dCons (dC .non) (dCons (dC (.int 5)) (dCons (dTup (dCons (dC (.str "turn")) dNil)) (dCons (dLst false (dCons (dTup (dCons (dC (.str "turn")) dNil)) dNil)) dNil))))) dNil))) dNil)))) (sSeq (sRet (dC (.bl false)))
  sNext) sNext)
  (sSeq (sAsg (dOwn Γ 130 1 (dCons (dVar 3) dNil)) (gSet 4))
  (sSeq (sFor (iRg (dCons (dCall gLenW (dCons (dVar 4) dNil)) dNil)) (.one 5) (sSeq (sIf (tOr' (Dn.tVal (dBin neV' (dOwn Γ 131 1 (dCons (dBin idxW (dVar 4) (dVar 5)) dNil)) (dLc false (iRg (dCons (dCall gLenW (dCons (dVar 4) dNil)) dNil)) (.one 6) yesT (dBin eqV' (dVar 6) (dVar 5)) [6]))) (Dn.tVal (dBin neV' (dStrE ["TrickError", "InvalidTrick", "InvalidSize", "InvalidWish", "InvalidRun", "InvalidAnswers", "InvalidNumber", "InvalidPlace", "InvalidCard", "InvalidStep", "InvalidText", "Unlike", "NotFixed", "NothingToUndo"] (dBin idxW (dVar 4) (dVar 5))) (dVar 3)))) (sSeq (sRet (dC (.bl false)))
  sNext) sNext)
  (sSeq (sIf (tOr' (tNot' (Dn.tVal (dIsX (subI ["TrickError", "InvalidTrick", "InvalidSize", "InvalidWish", "InvalidRun", "InvalidAnswers", "InvalidNumber", "InvalidPlace", "InvalidCard", "InvalidStep", "InvalidText", "Unlike", "NotFixed", "NothingToUndo"] "TrickError") (dBin idxW (dVar 4) (dVar 5))))) (tNot' (Dn.tVal (dIsX (subVE ["TrickError", "InvalidTrick", "InvalidSize", "InvalidWish", "InvalidRun", "InvalidAnswers", "InvalidNumber", "InvalidPlace", "InvalidCard", "InvalidStep", "InvalidText", "Unlike", "NotFixed", "NothingToUndo"]) (dBin idxW (dVar 4) (dVar 5)))))) (sSeq (sRet (dC (.bl false)))
  sNext) sNext)
  sNext)))
  sNext))))))
  (sSeq (sRet (dC (.bl true)))
  sNext))
def f133 : FnT := ⟨1, 7, true, d133_law⟩
/-- asking_2 -/
def d134_asking_2 (Γ : Calls) : DS :=
  (sSeq (sRet (dLc true (iE (dVar 0)) (.one 1) (Dn.tVal (dBin (inW false) (dBin idxW (dVar 1) (dC (.int 0))) (dTup (dCons (dC (.str "free")) (dCons (dC (.str "name")) (dCons (dC (.str "think")) dNil)))))) (dVar 1) [1]))
  sNext)
def f134 : FnT := ⟨1, 2, false, d134_asking_2⟩
/-- asked_2 -/
def d135_asked_2 (Γ : Calls) : DS :=
  (sSeq (sExpr (dOwn Γ 6 1 (dCons (dVar 0) dNil)))
  (sSeq (sRet (dOwn Γ 134 1 (dCons (dVar 0) dNil)))
  sNext))
def f135 : FnT := ⟨1, 1, false, d135_asked_2⟩
/-- hidden_of_2 -/
def d136_hidden_of_2 (Γ : Calls) : DS :=
  (sSeq (sRet (dLc true (iEn (dVar 0)) (.tup [1, 2]) (Dn.tVal (dBin (inW false) (dBin idxW (dVar 2) (dC (.int 0))) (dTup (dCons (dC (.str "free")) (dCons (dC (.str "think")) dNil))))) (dVar 1) [1, 2]))
  sNext)
def f136 : FnT := ⟨1, 3, false, d136_hidden_of_2⟩
/-- hidden_2 -/
def d137_hidden_2 (Γ : Calls) : DS :=
  (sSeq (sExpr (dOwn Γ 6 1 (dCons (dVar 0) dNil)))
  (sSeq (sRet (dOwn Γ 136 1 (dCons (dVar 0) dNil)))
  sNext))
def f137 : FnT := ⟨1, 1, false, d137_hidden_2⟩
/-- all_answers_2 -/
def d138_all_answers_2 (Γ : Calls) : DS :=
  (sSeq (sExpr (dOwn Γ 6 1 (dCons (dVar 0) dNil)))
  (sSeq (sExpr (dOwn Γ 7 1 (dCons (dVar 1) dNil)))
  (sSeq (sRet (dCallL true gSort (dCons (dOwn Γ 84 4 (dCons (dVar 0) (dCons (dVar 1) (dCons (dC (.str "place")) (dCons (dTup dNil) dNil))))) dNil)))
  sNext)))
def f138 : FnT := ⟨2, 2, false, d138_all_answers_2⟩
/-- working_sizes_2 -/
def d139_working_sizes_2 (Γ : Calls) : DS :=
  (sSeq (sExpr (dOwn Γ 6 1 (dCons (dVar 0) dNil)))
  (sSeq (sExpr (dOwn Γ 75 1 (dCons (dVar 1) dNil)))
  (sSeq (sExpr (dOwn Γ 60 1 (dCons (dVar 2) dNil)))
  (sSeq (sRet (dLc true (iE (dRg (kLst false) (dCons (dC (.int 2)) (dCons (dAdd false (dVar 2) (dC (.int 1))) dNil)))) (.one 3) (Dn.tVal (dOwn Γ 85 4 (dCons (dVar 0) (dCons (dVar 3) (dCons (dVar 1) (dCons (dTup dNil) dNil)))))) (dVar 3) [3]))
  sNext))))
def f139 : FnT := ⟨3, 4, false, d139_working_sizes_2⟩
/-- open_lots_2 -/
def d140_open_lots_2 (Γ : Calls) : DS :=
  (sSeq (sExpr (dOwn Γ 86 3 (dCons (dVar 0) (dCons (dVar 1) (dCons (dVar 2) dNil)))))
  (sSeq (sAsg (dLst true dNil) (gSet 3))
  (sSeq (sFor (iE (dOwn Γ 100 1 (dCons (dOwn Γ 10 1 (dCons (dVar 0) dNil)) dNil))) (.one 4) (sSeq (sAsg (dCall gAny (dCons (dLc false (iE (dVar 3)) (.one 7) yesT (dCall gAll (dCons (dLc false (iE (dVar 7)) (.one 6) yesT (dBin (inW false) (dVar 6) (dVar 4)) [6]) dNil)) [7]) dNil)) (gSet 5))
  (sSeq (sIf (tAnd' (tNot' (Dn.tVal (dVar 5))) (Dn.tVal (dOwn Γ 85 4 (dCons (dVar 0) (dCons (dVar 1) (dCons (dVar 2) (dCons (dVar 4) dNil))))))) (sSeq (sExpr (dMt "list" mAppend (dVar 3) (dCons (dVar 4) dNil)))
  sNext) sNext)
  sNext)))
  (sSeq (sRet (dCallL true gSort (dCons (dVar 3) dNil)))
  sNext))))
def f140 : FnT := ⟨3, 8, false, d140_open_lots_2⟩
/-- needless_2 -/
def d141_needless_2 (Γ : Calls) : DS :=
  (sSeq (sExpr (dOwn Γ 86 3 (dCons (dVar 0) (dCons (dVar 1) (dCons (dVar 2) dNil)))))
  (sSeq (sAsg (dLst true dNil) (gSet 3))
  (sSeq (sFor (iRg (dCons (dCall gLenW (dCons (dVar 0) dNil)) dNil)) (.one 4) (sSeq (sAsg (dAdd false (dSl false (dVar 0) oNone (oSome (dVar 4))) (dSl false (dVar 0) (oSome (dAdd false (dVar 4) (dC (.int 1)))) oNone)) (gSet 5))
  (sSeq (sIf (tAnd' (Dn.tVal (dOwn Γ 5 1 (dCons (dVar 5) dNil))) (Dn.tVal (dOwn Γ 85 4 (dCons (dVar 5) (dCons (dVar 1) (dCons (dVar 2) (dCons (dTup dNil) dNil))))))) (sSeq (sExpr (dMt "list" mAppend (dVar 3) (dCons (dVar 4) dNil)))
  sNext) sNext)
  sNext)))
  (sSeq (sRet (dVar 3))
  sNext))))
def f141 : FnT := ⟨3, 6, false, d141_needless_2⟩
/-- board_2 -/
def d142_board_2 (Γ : Calls) : DS :=
  (sSeq (sExpr (dOwn Γ 6 1 (dCons (dVar 0) dNil)))
  (sSeq (sExpr (dOwn Γ 7 1 (dCons (dVar 1) dNil)))
  (sSeq (sPar2 2 3 (dCons (dLst true dNil) (dCons (dOwn Γ 84 4 (dCons (dVar 0) (dCons (dVar 1) (dCons (dC (.str "place")) (dCons (dTup dNil) dNil))))) dNil)))
  (sSeq (sFor (iE (dCallL false gSort (dCons (dVar 3) dNil))) (.one 4) (sSeq (sAsg (dCallL false gSort (dCons (dBin idxW (dVar 3) (dVar 4)) dNil)) (gSet 5))
  (sSeq (sExpr (dMt "list" mAppend (dVar 2) (dCons (dAdd false (dAdd false (dAdd false (dOwn Γ 116 1 (dCons (dVar 4) dNil)) (dC (.str ": "))) (dOwn Γ 116 1 (dCons (dVar 5) dNil))) (dBin mulV (dC (.str " told")) (dCall gInt (dCons (dBin eqV' (dCall gLenW (dCons (dVar 5) dNil)) (dC (.int 1))) dNil)))) dNil)))
  sNext)))
  (sSeq (sRet (dVar 2))
  sNext)))))
def f142 : FnT := ⟨2, 6, false, d142_board_2⟩
/-- taking_ups_2 -/
def d143_taking_ups_2 (Γ : Calls) : DS :=
  (sSeq (sExpr (dOwn Γ 76 2 (dCons (dVar 0) (dCons (dVar 1) dNil))))
  (sSeq (sIf (tNot' (Dn.tVal (dOwn Γ 0 3 (dCons (dVar 2) (dCons (dC (.int 0)) (dCons (dBin subV (dVar 1) (dC (.int 1))) dNil)))))) (sSeq (sRaise "InvalidPlace")
  sNext) sNext)
  (sSeq (sAsg (dLst false (dCons (dTup (dCons (dTup dNil) (dCons (dRg (kLst false) (dCons (dVar 1) dNil)) dNil))) dNil)) (gSet 3))
  (sSeq (sFor (iRg (dCons (dOwn Γ 77 2 (dCons (dVar 0) (dCons (dVar 1) dNil))) dNil)) (.one 4) (sSeq (sAsg (dLst true dNil) (gSet 5))
  (sSeq (sFor (iE (dVar 3)) (.tup [6, 7]) (sSeq (sFor (iRg (dCons (dVar 0) dNil)) (.one 8) (sSeq (sExpr (dMt "list" mAppend (dVar 5) (dCons (dTup (dCons (dAdd false (dVar 6) (dTup (dCons (dVar 8) dNil))) (dCons (dOwn Γ 110 4 (dCons (dVar 0) (dCons (dVar 1) (dCons (dVar 8) (dCons (dVar 7) dNil))))) dNil))) dNil)))
  sNext))
  sNext))
  (sSeq (sAsg (dVar 5) (gSet 3))
  sNext))))
  (sSeq (sRet (dLc true (iE (dVar 3)) (.tup [6, 7]) (Dn.tVal (dCall gAll (dCons (dLc false (iE (dVar 7)) (.one 9) yesT (dBin eqV' (dVar 9) (dVar 2)) [9]) dNil))) (dVar 6) [6, 7]))
  sNext)))))
def f143 : FnT := ⟨3, 10, false, d143_taking_ups_2⟩
/-- alike_sizes_2 -/
def d144_alike_sizes_2 (Γ : Calls) : DS :=
  (sSeq (sExpr (dOwn Γ 63 2 (dCons (dVar 0) (dCons (dVar 1) dNil))))
  (sSeq (sExpr (dOwn Γ 60 1 (dCons (dVar 2) dNil)))
  (sSeq (sExpr (dOwn Γ 64 2 (dCons (dVar 0) (dCons (dVar 1) dNil))))
  (sSeq (sRet (dLc true (iE (dRg (kLst false) (dCons (dC (.int 2)) (dCons (dAdd false (dVar 2) (dC (.int 1))) dNil)))) (.one 3) (Dn.tVal (dBin isV (dOwn Γ 62 3 (dCons (dVar 0) (dCons (dVar 1) (dCons (dVar 3) dNil)))) (dC .non))) (dVar 3) [3]))
  sNext))))
def f144 : FnT := ⟨3, 4, false, d144_alike_sizes_2⟩
/-- open_by_2 -/
def d145_open_by_2 (Γ : Calls) : DS :=
  (sSeq (sExpr (dOwn Γ 86 3 (dCons (dVar 0) (dCons (dVar 1) (dCons (dVar 2) dNil)))))
  (sSeq (sAsg (dOwn Γ 84 4 (dCons (dVar 0) (dCons (dVar 1) (dCons (dVar 2) (dCons (dTup dNil) dNil))))) (gSet 4))
  (sSeq (sIf (tOr' (tNot' (Dn.tVal (dIsi BT.tuple (dVar 3)))) (tNot' (Dn.tVal (dCall gAll (dCons (dLc false (iE (dVar 3)) (.one 5) yesT (dIsi BT.int (dVar 5)) [5]) dNil))))) (sSeq (sRaise "InvalidAnswers")
  sNext) sNext)
  (sSeq (sIf (tOr' (Dn.tVal (dCall gAny (dCons (dLc false (iE (dVar 3)) (.one 5) yesT (dIsi BT.bool (dVar 5)) [5]) dNil))) (Dn.tVal (dBin (inW true) (dVar 3) (dVar 4)))) (sSeq (sRaise "InvalidAnswers")
  sNext) sNext)
  (sSeq (sRet (dCallL true gSort (dCons (dBin idxW (dVar 4) (dVar 3)) dNil)))
  sNext)))))
def f145 : FnT := ⟨4, 6, false, d145_open_by_2⟩
/-- _law_lists -/
def d146_law_lists (Γ : Calls) : DS :=
  (sSeq (sAsg (dLst false (dCons (dOwn Γ 135 1 (dCons (dVar 0) dNil)) (dCons (dOwn Γ 137 1 (dCons (dVar 0) dNil)) (dCons (dOwn Γ 138 2 (dCons (dVar 0) (dCons (dVar 1) dNil))) (dCons (dOwn Γ 139 3 (dCons (dVar 0) (dCons (dC (.str "card")) (dCons (dVar 1) dNil)))) dNil))))) (gSet 2))
  (sSeq (sAsg (dAdd false (dVar 2) (dLst false (dCons (dOwn Γ 140 3 (dCons (dVar 0) (dCons (dVar 1) (dCons (dC (.str "place")) dNil)))) (dCons (dOwn Γ 141 3 (dCons (dVar 0) (dCons (dVar 1) (dCons (dC (.str "card")) dNil)))) (dCons (dOwn Γ 142 2 (dCons (dVar 0) (dCons (dVar 1) dNil))) dNil))))) (gSet 2))
  (sSeq (sAsg (dAdd false (dVar 2) (dLst false (dCons (dOwn Γ 143 3 (dCons (dC (.int 2)) (dCons (dVar 1) (dCons (dC (.int 0)) dNil)))) (dCons (dOwn Γ 144 3 (dCons (dTup (dCons (dTup (dCons (dC (.str "turn")) dNil)) dNil)) (dCons (dTup (dCons (dTup (dCons (dC (.str "cut")) (dCons (dC (.int 1)) dNil))) dNil)) (dCons (dVar 1) dNil)))) dNil)))) (gSet 2))
  (sSeq (sRet (dAdd false (dVar 2) (dLst false (dCons (dOwn Γ 145 4 (dCons (dVar 0) (dCons (dVar 1) (dCons (dC (.str "place")) (dCons (dBin idxW (dOwn Γ 105 2 (dCons (dVar 0) (dCons (dVar 1) dNil))) (dC (.int 0))) dNil))))) dNil))))
  sNext))))
def f146 : FnT := ⟨2, 3, false, d146_law_lists⟩
/-- law -/
def d147_law (Γ : Calls) : DS :=
  (sSeq (sFor (iRg (dCons (dCall gMax2 (dCons (dC (.int 2)) (dCons (dCall gMin2 (dCons (dC (.int 4)) (dCons (dAdd false (dCall gLenW (dCons (dVar 0) dNil)) (dC (.int 2))) dNil))) dNil))) dNil)) (.one 1) (sSeq (sAsg (dOwn Γ 16 2 (dCons (dVar 0) (dCons (dVar 1) dNil))) (gSet 2))
  (sSeq (sAsg (dAdd false (dC (.int 2)) (dOwn Γ 17 2 (dCons (dVar 2) (dCons (dC (.int 8)) dNil)))) (gSet 3))
  (sSeq (sAsg (dOwn Γ 21 3 (dCons (dVar 2) (dCons (dVar 3) (dCons (dC (.int 4)) dNil)))) (gSet 4))
  (sSeq (sAsg (dOwn Γ 146 2 (dCons (dVar 4) (dCons (dVar 3) dNil))) (gSet 5))
  (sSeq (sIf (Dn.tVal (dBin neV' (dLc false (iE (dVar 5)) (.one 6) (tNot' (Dn.tVal (dIsi BT.list (dVar 6)))) (dVar 6) [6]) (dLst false dNil))) (sSeq (sRet (dC (.bl false)))
  sNext) sNext)
  (sSeq (sAsg (dLc false (iE (dVar 5)) (.one 6) yesT (dCall gTuple (dCons (dVar 6) dNil)) [6]) (gSet 7))
  (sSeq (sFor (iE (dVar 5)) (.one 6) (sSeq (sExpr (dMt "list" mAppend (dVar 6) (dCons (dC .non) dNil)))
  (sSeq (sExpr (dMt "list" mReverse (dVar 6) dNil))
  sNext)))
  (sSeq (sIf (Dn.tVal (dBin neV' (dLc false (iE (dOwn Γ 146 2 (dCons (dVar 4) (dCons (dVar 3) dNil)))) (.one 6) yesT (dCall gTuple (dCons (dVar 6) dNil)) [6]) (dVar 7))) (sSeq (sRet (dC (.bl false)))
  sNext) sNext)
  sNext)))))))))
  (sSeq (sRet (dC (.bl true)))
  sNext))
def f147 : FnT := ⟨1, 8, true, d147_law⟩
/-- _law_error_word -/
def d148_law_error_word (Γ : Calls) : DS :=
  (sSeq (sIf (Dn.tVal (dIsX (subI ["TrickError", "InvalidTrick", "InvalidSize", "InvalidWish", "InvalidRun", "InvalidAnswers", "InvalidNumber", "InvalidPlace", "Unlike", "NotFixed"] "InvalidTrick") (dVar 0))) (sSeq (sRet (dC (.str "trick")))
  sNext) sNext)
  (sSeq (sIf (Dn.tVal (dIsX (subI ["TrickError", "InvalidTrick", "InvalidSize", "InvalidWish", "InvalidRun", "InvalidAnswers", "InvalidNumber", "InvalidPlace", "Unlike", "NotFixed"] "InvalidSize") (dVar 0))) (sSeq (sRet (dC (.str "size")))
  sNext) sNext)
  (sSeq (sIf (Dn.tVal (dIsX (subI ["TrickError", "InvalidTrick", "InvalidSize", "InvalidWish", "InvalidRun", "InvalidAnswers", "InvalidNumber", "InvalidPlace", "Unlike", "NotFixed"] "InvalidWish") (dVar 0))) (sSeq (sRet (dC (.str "wish")))
  sNext) sNext)
  (sSeq (sIf (Dn.tVal (dIsX (subI ["TrickError", "InvalidTrick", "InvalidSize", "InvalidWish", "InvalidRun", "InvalidAnswers", "InvalidNumber", "InvalidPlace", "Unlike", "NotFixed"] "InvalidRun") (dVar 0))) (sSeq (sRet (dC (.str "run")))
  sNext) sNext)
  (sSeq (sIf (Dn.tVal (dIsX (subI ["TrickError", "InvalidTrick", "InvalidSize", "InvalidWish", "InvalidRun", "InvalidAnswers", "InvalidNumber", "InvalidPlace", "Unlike", "NotFixed"] "InvalidAnswers") (dVar 0))) (sSeq (sRet (dC (.str "answers")))
  sNext) sNext)
  (sSeq (sIf (Dn.tVal (dIsX (subI ["TrickError", "InvalidTrick", "InvalidSize", "InvalidWish", "InvalidRun", "InvalidAnswers", "InvalidNumber", "InvalidPlace", "Unlike", "NotFixed"] "InvalidNumber") (dVar 0))) (sSeq (sRet (dC (.str "number")))
  sNext) sNext)
  (sSeq (sIf (Dn.tVal (dIsX (subI ["TrickError", "InvalidTrick", "InvalidSize", "InvalidWish", "InvalidRun", "InvalidAnswers", "InvalidNumber", "InvalidPlace", "Unlike", "NotFixed"] "InvalidPlace") (dVar 0))) (sSeq (sRet (dC (.str "place")))
  sNext) sNext)
  (sSeq (sRet (dIf (Dn.tVal (dIsX (subI ["TrickError", "InvalidTrick", "InvalidSize", "InvalidWish", "InvalidRun", "InvalidAnswers", "InvalidNumber", "InvalidPlace", "Unlike", "NotFixed"] "Unlike") (dVar 0))) (dC (.str "unlike")) (dC (.str "other"))))
  sNext))))))))
def f148 : FnT := ⟨1, 1, true, d148_law_error_word⟩
/-- _law_calls -/
def d149_law_calls (Γ : Calls) : DS :=
  (sSeq (sAsg (dDispN [((.str "asked"), (dTup (dCons (dC (.glo "asked")) (dCons (dLst false (dCons (dC (.str "trick")) dNil)) dNil)))), ((.str "hidden"), (dTup (dCons (dC (.glo "hidden")) (dCons (dLst false (dCons (dC (.str "trick")) dNil)) dNil)))), ((.str "trick_text"), (dTup (dCons (dC (.glo "trick_text")) (dCons (dLst false (dCons (dC (.str "trick")) dNil)) dNil))))]) (gSet 0))
  (sSeq (sExpr (dMtD mUpd (dVar 0) (dCons (dDispN [((.str "is_run"), (dTup (dCons (dC (.glo "is_run")) (dCons (dLst false (dCons (dC (.str "trick")) (dCons (dC (.str "size")) (dCons (dC (.str "any")) dNil)))) dNil)))), ((.str "board"), (dTup (dCons (dC (.glo "board")) (dCons (dLst false (dCons (dC (.str "trick")) (dCons (dC (.str "size")) dNil))) dNil))))]) dNil)))
  (sSeq (sExpr (dMtD mUpd (dVar 0) (dCons (dDispN [((.str "all_answers"), (dTup (dCons (dC (.glo "all_answers")) (dCons (dLst false (dCons (dC (.str "trick")) (dCons (dC (.str "size")) dNil))) dNil)))), ((.str "comes_back"), (dTup (dCons (dC (.glo "comes_back")) (dCons (dLst false (dCons (dC (.str "trick")) (dCons (dC (.str "size")) dNil))) dNil))))]) dNil)))
  (sSeq (sFor (iE (dLst false (dCons (dTup (dCons (dC (.str "deck_behind")) (dCons (dC (.glo "deck_behind")) dNil))) (dCons (dTup (dCons (dC (.str "answers")) (dCons (dC (.glo "answers")) dNil))) (dCons (dTup (dCons (dC (.str "card_of")) (dCons (dC (.glo "card_of")) dNil))) dNil))))) (.tup [1, 2]) (sSeq (sAsg (dTup (dCons (dVar 2) (dCons (dLst false (dCons (dC (.str "trick")) (dCons (dC (.str "size")) (dCons (dC (.str "run")) dNil)))) dNil))) (gSubS (dVar 0) (dVar 1)))
  sNext))
  (sSeq (sAsg (dTup (dCons (dC (.glo "place_of")) (dCons (dLst false (dCons (dC (.str "trick")) (dCons (dC (.str "size")) (dCons (dC (.str "run")) dNil)))) dNil))) (gSubS (dVar 0) (dC (.str "place_of"))))
  (sSeq (sFor (iE (dLst false (dCons (dTup (dCons (dC (.str "tells")) (dCons (dC (.glo "tells")) dNil))) (dCons (dTup (dCons (dC (.str "clash")) (dCons (dC (.glo "clash")) dNil))) (dCons (dTup (dCons (dC (.str "open_lots")) (dCons (dC (.glo "open_lots")) dNil))) (dCons (dTup (dCons (dC (.str "needless")) (dCons (dC (.glo "needless")) dNil))) dNil)))))) (.tup [1, 2]) (sSeq (sAsg (dTup (dCons (dVar 2) (dCons (dLst false (dCons (dC (.str "trick")) (dCons (dC (.str "size")) (dCons (dC (.str "wish")) dNil)))) dNil))) (gSubS (dVar 0) (dVar 1)))
  sNext))
  (sSeq (sAsg (dTup (dCons (dC (.glo "open_by")) (dCons (dLst false (dCons (dC (.str "trick")) (dCons (dC (.str "size")) (dCons (dC (.str "wish")) (dCons (dC (.str "answers")) dNil))))) dNil))) (gSubS (dVar 0) (dC (.str "open_by"))))
  (sSeq (sAsg (dTup (dCons (dC (.glo "working_sizes")) (dCons (dLst false (dCons (dC (.str "trick")) (dCons (dC (.str "wish")) (dCons (dC (.str "number")) dNil)))) dNil))) (gSubS (dVar 0) (dC (.str "working_sizes"))))
  (sSeq (sAsg (dTup (dCons (dC (.glo "fewest_rounds")) (dCons (dLst false (dCons (dC (.str "number")) (dCons (dC (.str "size")) dNil))) dNil))) (gSubS (dVar 0) (dC (.str "fewest_rounds"))))
  (sSeq (sAsg (dTup (dCons (dC (.glo "taking_ups")) (dCons (dLst false (dCons (dC (.str "number")) (dCons (dC (.str "size")) (dCons (dC (.str "place")) dNil)))) dNil))) (gSubS (dVar 0) (dC (.str "taking_ups"))))
  (sSeq (sFor (iE (dLst false (dCons (dTup (dCons (dC (.str "alike")) (dCons (dC (.glo "alike")) dNil))) (dCons (dTup (dCons (dC (.str "parting")) (dCons (dC (.glo "parting")) dNil))) dNil)))) (.tup [1, 2]) (sSeq (sAsg (dTup (dCons (dVar 2) (dCons (dLst false (dCons (dC (.str "trick")) (dCons (dC (.str "trick")) (dCons (dC (.str "size")) dNil)))) dNil))) (gSubS (dVar 0) (dVar 1)))
  sNext))
  (sSeq (sAsg (dTup (dCons (dC (.glo "alike_sizes")) (dCons (dLst false (dCons (dC (.str "trick")) (dCons (dC (.str "trick")) (dCons (dC (.str "number")) dNil)))) dNil))) (gSubS (dVar 0) (dC (.str "alike_sizes"))))
  (sSeq (sRet (dVar 0))
  sNext)))))))))))))
def f149 : FnT := ⟨0, 3, true, d149_law_calls⟩
/-- _law_values -/
def d150_law_values (Γ : Calls) : DS :=
  (sSeq (sAsg (dDispN [((.str "trick"), (dTup (dCons (dVar 0) (dCons (dLst false (dCons (dC .non) (dCons (dCallL false gList (dCons (dVar 0) dNil)) (dCons (dTup (dCons (dC (.str "turn")) dNil)) (dCons (dTup (dCons (dTup (dCons (dC (.str "turn")) (dCons (dC (.int 1)) dNil))) dNil)) (dCons (dTup (dCons (dTup (dCons (dC (.str "cut")) (dCons (dC (.str "that")) dNil))) dNil)) dNil)))))) dNil)))), ((.str "any"), (dTup (dCons (dC .non) (dCons (dLst false dNil) dNil))))]) (gSet 2))
  (sSeq (sAsg (dTup (dCons (dVar 1) (dCons (dLst false (dCons (dC .non) (dCons (dC (.int 1)) (dCons (dC (.int 41)) (dCons (dC (.bl true)) (dCons (dC (.str "5")) dNil)))))) dNil))) (gSubS (dVar 2) (dC (.str "size"))))
  (sSeq (sAsg (dTup (dCons (dC (.str "place")) (dCons (dLst false (dCons (dC .non) (dCons (dC (.str "")) (dCons (dC (.str "Place")) (dCons (dC (.int 5)) (dCons (dTup (dCons (dC (.str "card")) dNil)) dNil)))))) dNil))) (gSubS (dVar 2) (dC (.str "wish"))))
  (sSeq (sAsg (dTup (dCons (dTup (dCons (dC (.int 0)) (dCons (dTup dNil) dNil))) (dCons (dLst false (dCons (dC .non) (dCons (dTup (dCons (dC (.int 0)) dNil)) (dCons (dTup (dCons (dVar 1) (dCons (dTup dNil) dNil))) (dCons (dTup (dCons (dC (.int 0)) (dCons (dTup (dCons (dC (.int 1)) dNil)) dNil))) (dCons (dLst false (dCons (dC (.int 0)) (dCons (dTup dNil) dNil))) (dCons (dTup (dCons (dC .non) (dCons (dTup dNil) dNil))) dNil))))))) dNil))) (gSubS (dVar 2) (dC (.str "run"))))
  (sSeq (sAsg (dTup (dCons (dTup dNil) (dCons (dLst false (dCons (dC .non) (dCons (dLst false dNil) (dCons (dTup (dCons (dC (.int 0)) (dCons (dC (.int 0)) dNil))) (dCons (dC (.str "")) (dCons (dTup (dCons (dC (.str "a")) dNil)) dNil)))))) dNil))) (gSubS (dVar 2) (dC (.str "answers"))))
  (sSeq (sAsg (dTup (dCons (dC (.int 3)) (dCons (dLst false (dCons (dC .non) (dCons (dC (.int 1)) (dCons (dC (.int 41)) (dCons (dC (.bl true)) (dCons (dC (.str "2")) dNil)))))) dNil))) (gSubS (dVar 2) (dC (.str "number"))))
  (sSeq (sAsg (dTup (dCons (dC (.int 0)) (dCons (dLst false (dCons (dC .non) (dCons (dVar 1) (dCons (dUn negV (dC (.int 1))) (dCons (dC (.bl true)) dNil))))) dNil))) (gSubS (dVar 2) (dC (.str "place"))))
  (sSeq (sRet (dVar 2))
  sNext))))))))
def f150 : FnT := ⟨2, 3, true, d150_law_values⟩
/-- _law_call_told -/
def d151_law_call_told (Γ : Calls) : DS :=
  (sSeq (sTryAs (subX ["TrickError", "InvalidTrick", "InvalidSize", "InvalidWish", "InvalidRun", "InvalidAnswers", "InvalidNumber", "InvalidPlace", "Unlike", "NotFixed"]) (sSeq (sIf (Dn.tVal (dBin eqV' (dCall gLenW (dCons (dVar 1) dNil)) (dC (.int 1)))) (sSeq (sExpr (dCallV Γ [("place_of", (44, 3)), ("open_by", (106, 4)), ("working_sizes", (88, 3)), ("fewest_rounds", (78, 2)), ("taking_ups", (111, 3)), ("alike_sizes", (67, 3)), ("asked", (14, 1)), ("hidden", (15, 1)), ("trick_text", (122, 1)), ("deck_behind", (41, 3)), ("answers", (42, 3)), ("card_of", (43, 3)), ("tells", (87, 3)), ("clash", (97, 3)), ("open_lots", (101, 3)), ("needless", (95, 3)), ("alike", (65, 3)), ("parting", (66, 3)), ("is_run", (13, 3)), ("board", (117, 2)), ("all_answers", (105, 2)), ("comes_back", (56, 2))] 0 (dCons (dBin idxW (dVar 1) (dC (.int 0))) dNil)))
  sNext) (sSeq (sIf (Dn.tVal (dBin eqV' (dCall gLenW (dCons (dVar 1) dNil)) (dC (.int 2)))) (sSeq (sExpr (dCallV Γ [("place_of", (44, 3)), ("open_by", (106, 4)), ("working_sizes", (88, 3)), ("fewest_rounds", (78, 2)), ("taking_ups", (111, 3)), ("alike_sizes", (67, 3)), ("asked", (14, 1)), ("hidden", (15, 1)), ("trick_text", (122, 1)), ("deck_behind", (41, 3)), ("answers", (42, 3)), ("card_of", (43, 3)), ("tells", (87, 3)), ("clash", (97, 3)), ("open_lots", (101, 3)), ("needless", (95, 3)), ("alike", (65, 3)), ("parting", (66, 3)), ("is_run", (13, 3)), ("board", (117, 2)), ("all_answers", (105, 2)), ("comes_back", (56, 2))] 0 (dCons (dBin idxW (dVar 1) (dC (.int 0))) (dCons (dBin idxW (dVar 1) (dC (.int 1))) dNil))))
  sNext) (sSeq (sIf (Dn.tVal (dBin eqV' (dCall gLenW (dCons (dVar 1) dNil)) (dC (.int 3)))) (sSeq (sExpr (dCallV Γ [("place_of", (44, 3)), ("open_by", (106, 4)), ("working_sizes", (88, 3)), ("fewest_rounds", (78, 2)), ("taking_ups", (111, 3)), ("alike_sizes", (67, 3)), ("asked", (14, 1)), ("hidden", (15, 1)), ("trick_text", (122, 1)), ("deck_behind", (41, 3)), ("answers", (42, 3)), ("card_of", (43, 3)), ("tells", (87, 3)), ("clash", (97, 3)), ("open_lots", (101, 3)), ("needless", (95, 3)), ("alike", (65, 3)), ("parting", (66, 3)), ("is_run", (13, 3)), ("board", (117, 2)), ("all_answers", (105, 2)), ("comes_back", (56, 2))] 0 (dCons (dBin idxW (dVar 1) (dC (.int 0))) (dCons (dBin idxW (dVar 1) (dC (.int 1))) (dCons (dBin idxW (dVar 1) (dC (.int 2))) dNil)))))
  sNext) (sSeq (sExpr (dCallV Γ [("place_of", (44, 3)), ("open_by", (106, 4)), ("working_sizes", (88, 3)), ("fewest_rounds", (78, 2)), ("taking_ups", (111, 3)), ("alike_sizes", (67, 3)), ("asked", (14, 1)), ("hidden", (15, 1)), ("trick_text", (122, 1)), ("deck_behind", (41, 3)), ("answers", (42, 3)), ("card_of", (43, 3)), ("tells", (87, 3)), ("clash", (97, 3)), ("open_lots", (101, 3)), ("needless", (95, 3)), ("alike", (65, 3)), ("parting", (66, 3)), ("is_run", (13, 3)), ("board", (117, 2)), ("all_answers", (105, 2)), ("comes_back", (56, 2))] 0 (dCons (dBin idxW (dVar 1) (dC (.int 0))) (dCons (dBin idxW (dVar 1) (dC (.int 1))) (dCons (dBin idxW (dVar 1) (dC (.int 2))) (dCons (dBin idxW (dVar 1) (dC (.int 3))) dNil))))))
  sNext))
  sNext))
  sNext))
  sNext) "TrickError" 2 (sSeq (sRet (dOwn Γ 148 1 (dCons (dVar 2) dNil)))
  sNext))
  (sSeq (sRet (dC (.str "none")))
  sNext))
def f151 : FnT := ⟨2, 3, true, d151_law_call_told⟩
/-- law -/
def d152_law (Γ : Calls) : DS :=
  (sSeq (sFor (iRg (dCons (dCall gMax2 (dCons (dC (.int 4)) (dCons (dCall gMin2 (dCons (dC (.int 7)) (dCons (dAdd false (dCall gLenW (dCons (dVar 0) dNil)) (dC (.int 3))) dNil))) dNil))) dNil)) (.one 1) (sSeq (sAsg (dOwn Γ 16 2 (dCons (dVar 0) (dCons (dVar 1) dNil))) (gSet 2))
  (sSeq (sAsg (dAdd false (dC (.int 2)) (dOwn Γ 17 2 (dCons (dVar 2) (dCons (dC (.int 8)) dNil)))) (gSet 3))
  (sSeq (sAsg (dCall gTuple (dCons (dLc false (iRg (dCons (dOwn Γ 17 2 (dCons (dVar 2) (dCons (dC (.int 4)) dNil))) dNil)) (.one 5) yesT (dOwn Γ 18 2 (dCons (dVar 2) (dCons (dLst false (dCons (dTup (dCons (dC (.str "turn")) dNil)) (dCons (dTup (dCons (dC (.str "away")) dNil)) (dCons (dTup (dCons (dC (.str "cut")) (dCons (dC (.int 2)) dNil))) dNil)))) dNil))) [5]) dNil)) (gSet 4))
  (sSeq (sAsg (dTup (dCons (dOwn Γ 150 2 (dCons (dVar 4) (dCons (dVar 3) dNil))) (dCons (dOwn Γ 149 0 dNil) dNil))) (gTupW (gNames [6, 7])))
  (sSeq (sFor (iE (dCallL false gSort (dCons (dLc false (iDk (dVar 7)) (.one 9) yesT (dCall gStr (dCons (dVar 9) dNil)) [9]) dNil))) (.one 8) (sSeq (sAsg (dBin idxW (dVar 7) (dVar 8)) (gTupW (gNames [10, 11])))
  (sSeq (sPar2 12 13 (dCons (dLc true (iE (dVar 11)) (.one 14) yesT (dBin idxW (dBin idxW (dVar 6) (dVar 14)) (dC (.int 0))) [14]) (dCons (dC (.str "none")) dNil)))
  (sSeq (sAsg (dLst false (dCons (dOwn Γ 17 2 (dCons (dVar 2) (dCons (dCall gLenW (dCons (dVar 11) dNil)) dNil))) (dCons (dOwn Γ 17 2 (dCons (dVar 2) (dCons (dCall gLenW (dCons (dVar 11) dNil)) dNil))) dNil))) (gSet 15))
  (sSeq (sFor (iE (dLst false (dCons (dCall gMax2 (dCons (dBin idxW (dVar 15) (dC (.int 0))) (dCons (dBin idxW (dVar 15) (dC (.int 1))) dNil))) (dCons (dCall gMin2 (dCons (dBin idxW (dVar 15) (dC (.int 0))) (dCons (dBin idxW (dVar 15) (dC (.int 1))) dNil))) dNil)))) (.one 16) (sSeq (sIf (Dn.tVal (dBin neV' (dBin idxW (dBin idxW (dVar 6) (dBin idxW (dVar 11) (dVar 16))) (dC (.int 1))) (dLst false dNil))) (sSeq (sAsg (dOwn Γ 18 2 (dCons (dVar 2) (dCons (dBin idxW (dBin idxW (dVar 6) (dBin idxW (dVar 11) (dVar 16))) (dC (.int 1))) dNil))) (gSubS (dVar 12) (dVar 16)))
  (sSeq (sAsg (dBin idxW (dVar 11) (dVar 16)) (gSet 13))
  sNext)) sNext)
  sNext))
  (sSeq (sIf (Dn.tVal (dBin neV' (dOwn Γ 151 2 (dCons (dVar 10) (dCons (dVar 12) dNil))) (dVar 13))) (sSeq (sRet (dC (.bl false)))
  sNext) sNext)
  sNext))))))
  (sSeq (sAsg (dTup (dCons (dTup (dCons (dC (.str "free")) dNil)) dNil)) (gSet 17))
  (sSeq (sIf (Dn.tVal (dBin neV' (dOwn Γ 151 2 (dCons (dC (.glo "alike")) (dCons (dLst false (dCons (dVar 4) (dCons (dVar 17) (dCons (dVar 3) dNil)))) dNil))) (dC (.str "unlike")))) (sSeq (sRet (dC (.bl false)))
  sNext) sNext)
  (sSeq (sIf (Dn.tVal (dBin neV' (dOwn Γ 151 2 (dCons (dC (.glo "alike")) (dCons (dLst false (dCons (dVar 4) (dCons (dVar 17) (dCons (dC (.int 1)) dNil)))) dNil))) (dC (.str "size")))) (sSeq (sRet (dC (.bl false)))
  sNext) sNext)
  (sSeq (sIf (Dn.tVal (dBin neV' (dOwn Γ 151 2 (dCons (dC (.glo "alike_sizes")) (dCons (dLst false (dCons (dVar 17) (dCons (dVar 4) (dCons (dC (.int 41)) dNil)))) dNil))) (dC (.str "number")))) (sSeq (sRet (dC (.bl false)))
  sNext) sNext)
  sNext))))))))))
  (sSeq (sRet (dC (.bl true)))
  sNext))
def f152 : FnT := ⟨1, 18, true, d152_law⟩
def Tb : Nat → Option FnT
  | 0 => some f0
  | 1 => some f1
  | 2 => some f2
  | 3 => some f3
  | 4 => some f4
  | 5 => some f5
  | 6 => some f6
  | 7 => some f7
  | 8 => some f8
  | 9 => some f9
  | 10 => some f10
  | 11 => some f11
  | 12 => some f12
  | 13 => some f13
  | 14 => some f14
  | 15 => some f15
  | 16 => some f16
  | 17 => some f17
  | 18 => some f18
  | 19 => some f19
  | 20 => some f20
  | 21 => some f21
  | 22 => some f22
  | 23 => some f23
  | 24 => some f24
  | 25 => some f25
  | 26 => some f26
  | 27 => some f27
  | 28 => some f28
  | 29 => some f29
  | 30 => some f30
  | 31 => some f31
  | 32 => some f32
  | 33 => some f33
  | 34 => some f34
  | 35 => some f35
  | 36 => some f36
  | 37 => some f37
  | 38 => some f38
  | 39 => some f39
  | 40 => some f40
  | 41 => some f41
  | 42 => some f42
  | 43 => some f43
  | 44 => some f44
  | 45 => some f45
  | 46 => some f46
  | 47 => some f47
  | 48 => some f48
  | 49 => some f49
  | 50 => some f50
  | 51 => some f51
  | 52 => some f52
  | 53 => some f53
  | 54 => some f54
  | 55 => some f55
  | 56 => some f56
  | 57 => some f57
  | 58 => some f58
  | 59 => some f59
  | 60 => some f60
  | 61 => some f61
  | 62 => some f62
  | 63 => some f63
  | 64 => some f64
  | 65 => some f65
  | 66 => some f66
  | 67 => some f67
  | 68 => some f68
  | 69 => some f69
  | 70 => some f70
  | 71 => some f71
  | 72 => some f72
  | 73 => some f73
  | 74 => some f74
  | 75 => some f75
  | 76 => some f76
  | 77 => some f77
  | 78 => some f78
  | 79 => some f79
  | 80 => some f80
  | 81 => some f81
  | 82 => some f82
  | 83 => some f83
  | 84 => some f84
  | 85 => some f85
  | 86 => some f86
  | 87 => some f87
  | 88 => some f88
  | 89 => some f89
  | 90 => some f90
  | 91 => some f91
  | 92 => some f92
  | 93 => some f93
  | 94 => some f94
  | 95 => some f95
  | 96 => some f96
  | 97 => some f97
  | 98 => some f98
  | 99 => some f99
  | 100 => some f100
  | 101 => some f101
  | 102 => some f102
  | 103 => some f103
  | 104 => some f104
  | 105 => some f105
  | 106 => some f106
  | 107 => some f107
  | 108 => some f108
  | 109 => some f109
  | 110 => some f110
  | 111 => some f111
  | 112 => some f112
  | 113 => some f113
  | 114 => some f114
  | 115 => some f115
  | 116 => some f116
  | 117 => some f117
  | 118 => some f118
  | 119 => some f119
  | 120 => some f120
  | 121 => some f121
  | 122 => some f122
  | 123 => some f123
  | 124 => some f124
  | 125 => some f125
  | 126 => some f126
  | 127 => some f127
  | 128 => some f128
  | 129 => some f129
  | 130 => some f130
  | 131 => some f131
  | 132 => some f132
  | 133 => some f133
  | 134 => some f134
  | 135 => some f135
  | 136 => some f136
  | 137 => some f137
  | 138 => some f138
  | 139 => some f139
  | 140 => some f140
  | 141 => some f141
  | 142 => some f142
  | 143 => some f143
  | 144 => some f144
  | 145 => some f145
  | 146 => some f146
  | 147 => some f147
  | 148 => some f148
  | 149 => some f149
  | 150 => some f150
  | 151 => some f151
  | 152 => some f152
  | _ => none
end Dn
end
section
set_option Elab.async false
set_option linter.all false
set_option maxRecDepth 100000
set_option maxHeartbeats 4000000
namespace Dn
open PySem PySem.Spec PyProof.Rows L2

/-! ### what is computed, as a condition -/
def Wp {α : Type} (r : Res α) (Q : α → AH → Prop) : Prop := match r with
  | .ok a h => Q a h
  | _ => False
def Ws (r : SRes) (N : Env → AH → Prop) (R : W → AH → Prop) : Prop := match r with
  | .nx env h => N env h
  | .ret w h => R w h
  | _ => False
section
variable {α β : Type} {Q : α → AH → Prop} {N : Env → AH → Prop} {R : W → AH → Prop}
@[simp] theorem Wp_ok (a : α) (h : AH) : Wp (.ok a h) Q = Q a h := rfl
@[simp] theorem Wp_stuck : Wp (.stuck : Res α) Q = False := rfl
@[simp] theorem Wp_exc (c : Str) (h : AH) : Wp (.exc c h : Res α) Q = False := rfl
@[simp] theorem Wp_bind (r : Res β) (f : β → AH → Res α) : Wp (r.bind f) Q = Wp r fun a h => Wp (f a h) Q := by cases r <;> rfl
@[simp] theorem Wp_bindN (r : Res β) (f : β → AH → Res α) : Wp (r.bindN f) Q = Wp r fun a h => Wp (f a h) Q := by cases r <;> rfl
theorem Wp_mono {r : Res α} {Q Q' : α → AH → Prop} (h : Wp r Q) (hq : ∀ a h', Q a h' → Q' a h') : Wp r Q' := by
  cases r with
  | ok a h' => exact hq a h' h
  | _ => exact h
theorem Wp_eq {r : Res α} {a : α} {h' : AH} (e : r = .ok a h') (q : Q a h') : Wp r Q := by rw [e]; exact q
theorem Wp_iff {r : Res α} : Wp r Q ↔ ∃ a h', r = .ok a h' ∧ Q a h' := by
  cases r with
  | ok a h => exact ⟨fun q => ⟨a, h, rfl, q⟩, fun ⟨a', h', e, q⟩ => by cases e; exact q⟩
  | exc c h => exact ⟨fun q => q.elim, fun ⟨a', h', e, q⟩ => by cases e⟩
  | stuck => exact ⟨fun q => q.elim, fun ⟨a', h', e, q⟩ => by cases e⟩
theorem eq_of_Wp {r : Res α} {a : α} {h : AH} (q : Wp r fun a' h' => a' = a ∧ h' = h) : r = .ok a h := by
  obtain ⟨a', h', e, rfl, rfl⟩ := Wp_iff.mp q
  exact e
@[simp] theorem Ws_nx (e : Env) (h : AH) : Ws (.nx e h) N R = N e h := rfl
@[simp] theorem Ws_ret (w : W) (h : AH) : Ws (.ret w h) N R = R w h := rfl
@[simp] theorem Ws_stuck : Ws .stuck N R = False := rfl
@[simp] theorem Ws_toS (r : Res α) (env : Env) (f : α → AH → SRes) : Ws (r.toS env f) N R = Wp r fun a h => Ws (f a h) N R := by cases r <;> rfl
@[simp] theorem Ws_then (r : SRes) (f : Env → AH → SRes) : Ws (r.then f) N R = Ws r (fun e h => Ws (f e h) N R) R := by cases r <;> rfl
theorem Ws_mono {r : SRes} {N' : Env → AH → Prop} {R' : W → AH → Prop} (h : Ws r N R) (hn : ∀ e h, N e h → N' e h) (hr : ∀ w h, R w h → R' w h) : Ws r N' R' := by
  cases r with
  | nx e h' => exact hn e h' h
  | ret w h' => exact hr w h' h
  | _ => exact h
@[simp] theorem Wp_ite (c : Prop) [Decidable c] (a b : Res α) : Wp (if c then a else b) Q = if c then Wp a Q else Wp b Q := by split <;> rfl
@[simp] theorem Ws_ite (c : Prop) [Decidable c] (a b : SRes) : Ws (if c then a else b) N R = if c then Ws a N R else Ws b N R := by split <;> rfl
/-! the combinators, by their conditions -/
theorem Wp_ofO (o : Option α) (h : AH) : Wp (ofO o h) Q = match o with
  | some a => Q a h
  | none => False := by cases o <;> rfl
end
def andW (x : W) (A B : Res W) : Res W := match x with
  | .bl true => A
  | .bl false => B
  | _ => .stuck
@[simp] theorem andW_bl (b : Bool) (A B : Res W) : andW (.bl b) A B = if b = true then A else B := by cases b <;> rfl
def rgSrc (i j : Int) (h : AH) : Res Src := if rgOk i j = true then .ok { items := rgW i j, chk := chkT } h else .stuck
def rgRun (k : Int → Int → AH → Res W) (i j : Int) (h : AH) : Res W := if rgOk i j = true then k i j h else .stuck
theorem rgSrc_ok {i j : Int} (e : rgOk i j = true) (h : AH) : rgSrc i j h = .ok { items := rgW i j, chk := chkT } h := by unfold rgSrc; rw [if_pos e]
theorem rgRun_ok {k : Int → Int → AH → Res W} {i j : Int} (e : rgOk i j = true) (h : AH) : rgRun k i j h = k i j h := by unfold rgRun; rw [if_pos e]
/-! what the text does, opened -/
section
variable {a b c : DE} {t t' : DT} {s : DA} {env : Env} {h : AH}
@[simp] theorem o_dVar (i : Nat) : dVar i env h = match env[i]? with
  | some (some w) => .ok w h
  | _ => .stuck := rfl
@[simp] theorem o_dC (w : W) : dC w env h = .ok w h := rfl
@[simp] theorem o_dBin (g : W → W → AH → Option W) : dBin g a b env h = (a env h).bind fun x h1 => (b env h1).bind fun y h2 => ofO (g x y h2) h2 := rfl
@[simp] theorem o_dUn (g : W → AH → Option W) : dUn g a env h = (a env h).bind fun x h1 => ofO (g x h1) h1 := rfl
@[simp] theorem o_dAnd : dAnd a b env h = (a env h).bind fun x h1 => andW x (b env h1) (.ok (.bl false) h1) := by
  unfold dAnd andW
  rfl
@[simp] theorem o_dOr : dOr a b env h = (a env h).bind fun x h1 => andW x (.ok (.bl true) h1) (b env h1) := by
  unfold dOr andW
  rfl
@[simp] theorem o_dNot : dNot a env h = (a env h).bind fun x h1 => match x with
  | .bl b => .ok (.bl !b) h1
  | _ => .stuck := rfl
@[simp] theorem o_dIf : dIf t a b env h = (t env h).bind fun k h1 => if k then a env h1 else b env h1 := rfl
@[simp] theorem o_dNil : dNil env h = .ok [] h := rfl
@[simp] theorem o_dCons : dCons a s env h = (a env h).bind fun x h1 => (s env h1).bind fun xs h2 => .ok (x :: xs) h2 := rfl
@[simp] theorem o_dTup : dTup s env h = (s env h).bind fun xs h1 => if xs.length ≤ line then .ok (.tup xs) h1 else .stuck := rfl
@[simp] theorem o_dLst (m : Bool) : dLst m s env h = (s env h).bind fun xs h1 => if xs.length ≤ line then allocL m xs h1 else .stuck := rfl
@[simp] theorem o_allocF (xs : List W) : allocL false xs h = .ok (.lst xs) h := rfl
@[simp] theorem o_allocT (xs : List W) : allocL true xs h = .ok (.ref h.length) (h ++ [.lst xs]) := rfl
@[simp] theorem o_tVal : Dn.tVal a env h = (a env h).bind fun x h1 => match x with
  | .bl b => .ok b h1
  | _ => .stuck := rfl
@[simp] theorem o_tNot : tNot' t env h = (t env h).bind fun b h1 => .ok (!b) h1 := rfl
@[simp] theorem o_tAnd : tAnd' t t' env h = (t env h).bind fun k h1 => if k then t' env h1 else .ok false h1 := rfl
@[simp] theorem o_tOr : tOr' t t' env h = (t env h).bind fun k h1 => if k then .ok true h1 else t' env h1 := rfl
@[simp] theorem o_yes : yesT env h = .ok true h := rfl
@[simp] theorem o_dChain (g g' : W → W → AH → Option W) : dChain g g' a b c env h = (a env h).bind fun x h1 => (b env h1).bind fun y h2 => match g x y h2 with
  | some (.bl true) => (c env h2).bind fun z h3 => ofO (g' y z h3) h3
  | some (.bl false) => .ok (.bl false) h2
  | _ => .stuck := rfl
@[simp] theorem o_dCall (g : List W → AH → Option W) : dCall g s env h = (s env h).bind fun ws h1 => ofO (g ws h1) h1 := rfl
@[simp] theorem o_dCallL (m : Bool) (g : List W → AH → Option (List W)) : dCallL m g s env h = (s env h).bind fun ws h1 => match g ws h1 with
  | some r => allocL m r h1
  | none => .stuck := rfl
@[simp] theorem o_dAdd (m : Bool) : dAdd m a b env h = (a env h).bind fun x h1 => (b env h1).bind fun y h2 => match addV x y h2 with
  | some r => .ok r h2
  | none => match catV x y h2 with
    | some r => allocL m r h2
    | none => .stuck := rfl
@[simp] theorem o_dRg (k : Int → Int → AH → Res W) : dRg k s env h = (s env h).bind fun ws h1 => match rgArgs ws with
  | some (i, j) => rgRun k i j h1
  | none => .stuck := rfl
@[simp] theorem o_kTup (i j : Int) : kTup i j h = .ok (.tup (rgW i j)) h := rfl
@[simp] theorem o_kLst (m : Bool) (i j : Int) : kLst m i j h = allocL m (rgW i j) h := rfl
@[simp] theorem o_dIsi (T : BT) : dIsi T a env h = (a env h).bind fun x h1 => match isB T h1 x with
  | some b => .ok (.bl b) h1
  | none => .stuck := rfl
@[simp] theorem o_dOwn (Γ : Calls) (i n : Nat) : dOwn Γ i n s env h = (s env h).bind fun ws h1 => if ws.length = n then Γ i ws h1 else .stuck := rfl
@[simp] theorem o_dMt (T : String) (g : W → List W → AH → Option (W × AH)) : dMt T g a s env h = (a env h).bind fun x h1 => if tyW T h1 x = true then (s env h1).bind fun ws h2 => match g x ws h2 with
  | some (r, h3) => .ok r h3
  | none => .stuck
  else .stuck := rfl
@[simp] theorem o_dDict0 : dDict0 env h = .ok (.ref h.length) (h ++ [.dct [] []]) := rfl
@[simp] theorem o_oNone : oNone env h = .ok none h := rfl
@[simp] theorem o_oSome : oSome a env h = (a env h).bind fun x h1 => match x with
  | .int i => .ok (some i) h1
  | _ => .stuck := rfl
@[simp] theorem o_dSl (m : Bool) (lo hi : DO) : dSl m a lo hi env h = (a env h).bind fun x h1 => (lo env h1).bind fun l h2 => (hi env h2).bind fun u h3 => sliceV m x l u h3 := rfl
@[simp] theorem o_dStep (lo hi st : DO) : dStep a lo hi st env h = (a env h).bind fun x h1 => (lo env h1).bind fun l h2 => (hi env h2).bind fun u h3 => (st env h3).bind fun o h4 => match o with
  | some k => stepV false x l u k h4
  | none => .stuck := rfl
@[simp] theorem o_iEn : iEn a env h = (a env h).bind fun w h1 => match sqSrc h1 w with
  | some src => .ok { items := enW src.items, chk := src.chk, raw := true } h1
  | none => .stuck := rfl
@[simp] theorem o_iZp : iZp s env h = (s env h).bind fun ws h1 => match ws with
  | [x, y] => match sqSrc h1 x, sqSrc h1 y with
    | some s1, some s2 => .ok { items := zpW s1.items s2.items, chk := fun h => s1.chk h && s2.chk h, raw := true } h1
    | _, _ => .stuck
  | _ => .stuck := rfl
@[simp] theorem o_iRg : iRg s env h = (s env h).bind fun ws h1 => match rgArgs ws with
  | some (i, j) => rgSrc i j h1
  | none => .stuck := rfl
@[simp] theorem o_iE : iE a env h = (a env h).bind fun w h1 => ofO (srcOf h1 w) h1 := rfl
@[simp] theorem o_dLc (m : Bool) (i : DI) (t : Tgt) (c : DT) (e : DE) (vs : List Nat) : dLc m i t c e vs env h = (i env h).bind fun src h1 => if (okSrc t src h1 && subL t.slots vs) = true then (lcL t c e src.chk (wipeE env vs) src.items [] h1).bind fun ys h2 => allocL m ys h2 else .stuck := rfl
/-! statements -/
variable {u v : DS}
@[simp] theorem o_sNext : sNext env h = .nx env h := rfl
@[simp] theorem o_sSeq : sSeq u v env h = (u env h).then v := rfl
@[simp] theorem o_sExpr : sExpr a env h = (a env h).toS env fun _ h1 => .nx env h1 := rfl
@[simp] theorem o_sRet : sRet a env h = (a env h).toS env fun w h1 => .ret w h1 := rfl
@[simp] theorem o_sIf : sIf t u v env h = (t env h).toS env fun k h1 => if k then u env h1 else v env h1 := rfl
@[simp] theorem o_sAsg (g : DG) : sAsg a g env h = (a env h).toS env fun w h1 => g w env h1 := rfl
@[simp] theorem o_sPar2 (i j : Nat) : sPar2 i j s env h = (s env h).toS env fun ws h1 => match ws with
  | [x, y] => .nx ((env.set i (some x)).set j (some y)) h1
  | _ => .stuck := rfl
@[simp] theorem o_sPar3 (i j l : Nat) : sPar3 i j l s env h = (s env h).toS env fun ws h1 => match ws with
  | [x, y, z] => .nx (((env.set i (some x)).set j (some y)).set l (some z)) h1
  | _ => .stuck := rfl
@[simp] theorem o_gSet (i : Nat) (w : W) : gSet i w env h = .nx (env.set i (some w)) h := rfl
@[simp] theorem o_gNil : gNames [] [] env h = .nx env h := rfl
@[simp] theorem o_gCons (i : Nat) (is : List Nat) (w : W) (ws : List W) : gNames (i :: is) (w :: ws) env h = gNames is ws (env.set i (some w)) h := rfl
@[simp] theorem o_gTupW (is : List Nat) (ws : List W) : gTupW (gNames is) (.tup ws) env h = gNames is ws env h := rfl
@[simp] theorem o_gSubS (fo fi : DE) (w : W) : gSubS fo fi w env h = match fo env h with
  | .ok o h1 => match fi env h1 with
    | .ok i h2 => match setV o i w h2 with
      | some h3 => .nx env h3
      | none => .stuck
    | _ => .stuck
  | _ => .stuck := rfl
@[simp] theorem o_sFor (i : DI) (t : Tgt) (body : DS) : sFor i t body env h = (i env h).toS env fun src h1 => if okSrc t src h1 = true then forL t body src.chk src.items env h1 else .stuck := rfl
@[simp] theorem o_setOne (i : Nat) (w : W) : (Tgt.one i).set w env = some (env.set i (some w)) := rfl
end
@[simp] theorem toS_ok {α : Type} (a : α) (h : AH) (env : Env) (f : α → AH → SRes) : (Res.ok a h).toS env f = f a h := rfl
@[simp] theorem then_nx (e : Env) (h : AH) (f : Env → AH → SRes) : (SRes.nx e h).then f = f e h := rfl
@[simp] theorem then_ret (w : W) (h : AH) (f : Env → AH → SRes) : (SRes.ret w h).then f = .ret w h := rfl
@[simp] theorem bindN_ok {α β : Type} (a : α) (h : AH) (f : α → AH → Res β) : (Res.ok a h).bindN f = f a h := rfl
/-! values -/
section
variable {h : AH}
@[simp] theorem v_add (i j : Int) : addV (.int i) (.int j) h = some (.int (i + j)) := rfl
@[simp] theorem v_sub (i j : Int) : subV (.int i) (.int j) h = some (.int (i - j)) := rfl
@[simp] theorem v_lt (i j : Int) : ltV (.int i) (.int j) h = some (.bl (decide (i < j))) := rfl
@[simp] theorem v_le (i j : Int) : leV (.int i) (.int j) h = some (.bl (decide (i ≤ j))) := rfl
@[simp] theorem v_gt (i j : Int) : gtV (.int i) (.int j) h = some (.bl (decide (j < i))) := rfl
@[simp] theorem v_ge (i j : Int) : geV (.int i) (.int j) h = some (.bl (decide (j ≤ i))) := rfl
@[simp] theorem v_neg (i : Int) : negV (.int i) h = some (.int (-i)) := rfl
@[simp] theorem v_int (i : Int) : gInt [.int i] h = some (.int i) := rfl
@[simp] theorem v_intB (b : Bool) : gInt [.bl b] h = some (.int (if b then 1 else 0)) := rfl
theorem v_mod {i j : Int} (hj : 0 < j) : modV (.int i) (.int j) h = some (.int (i % j)) := by show (if 0 < j then _ else _) = _; rw [if_pos hj]
theorem v_fdiv {i j : Int} (h0 : 0 < j) (h1 : j < 1073741824) : fdivV (.int i) (.int j) h = some (.int (i / j)) := by show (if 0 < j ∧ j.toNat < 1073741824 then _ else _) = _; rw [if_pos ⟨h0, by omega⟩]
theorem v_mulL {i j : Int} (h0 : -(2 ^ 64) < i) (h1 : i < 2 ^ 64) : mulV (.int i) (.int j) h = some (.int (i * j)) := by
  show (if i.natAbs < 2 ^ 64 ∨ j.natAbs < 2 ^ 64 then _ else _) = _
  rw [if_pos (.inl (by omega))]
theorem v_mulR {i j : Int} (h0 : -(2 ^ 64) < j) (h1 : j < 2 ^ 64) : mulV (.int i) (.int j) h = some (.int (i * j)) := by
  show (if i.natAbs < 2 ^ 64 ∨ j.natAbs < 2 ^ 64 then _ else _) = _
  rw [if_pos (.inr (by omega))]
theorem v_pow {i j : Int} (h0 : 0 ≤ j) (h1 : j ≤ 1000000) (h2 : i.natAbs < 2 ^ 64) : powV (.int i) (.int j) h = some (.int (i ^ j.toNat)) := by
  show (if 0 ≤ j ∧ j.toNat ≤ 1000000 ∧ i.natAbs < 2 ^ 64 then _ else _) = _
  rw [if_pos ⟨h0, by omega, h2⟩]
@[simp] theorem res_ref (n : Nat) : res h (.ref n) = match h[n]? with
  | some (.lst xs) => .lst xs
  | _ => .ref n := rfl
@[simp] theorem res_int (i : Int) : res h (.int i) = .int i := rfl
@[simp] theorem res_bl (i : Bool) : res h (.bl i) = .bl i := rfl
@[simp] theorem res_str (i : Str) : res h (.str i) = .str i := rfl
@[simp] theorem res_non : res h .non = .non := rfl
@[simp] theorem res_tup (i : List W) : res h (.tup i) = .tup i := rfl
@[simp] theorem res_lst (i : List W) : res h (.lst i) = .lst i := rfl
@[simp] theorem shI (n : Nat) (i : Int) : sh n (.int i) = true := by cases n <;> rfl
@[simp] theorem shB (n : Nat) (i : Bool) : sh n (.bl i) = true := by cases n <;> rfl
@[simp] theorem shN (n : Nat) : sh n .non = true := by cases n <;> rfl
@[simp] theorem shT (n : Nat) (xs : List W) : sh (n + 1) (.tup xs) = xs.all (sh n) := rfl
@[simp] theorem shL (n : Nat) (xs : List W) : sh (n + 1) (.lst xs) = xs.all (sh n) := rfl
end
@[simp] theorem toD_int (i : Int) : toD (.int i) = .int i := by rw [toD]
@[simp] theorem toD_bl (i : Bool) : toD (.bl i) = .bool i := by rw [toD]
@[simp] theorem toD_str (i : Str) : toD (.str i) = .str i := by rw [toD]
@[simp] theorem toD_non : toD .non = .none := by rw [toD]
@[simp] theorem toD_tup (xs : List W) : toD (.tup xs) = .tuple (toDs xs) := by rw [toD]
@[simp] theorem toD_lst (xs : List W) : toD (.lst xs) = .list (toDs xs) := by rw [toD]
@[simp] theorem toDs_nil : toDs [] = [] := by rw [toDs]
@[simp] theorem toDs_cons (x : W) (xs : List W) : toDs (x :: xs) = toD x :: toDs xs := by rw [toDs]
@[simp] theorem eqv_int (i j : Int) : PyData.eqv (.int i) (.int j) = decide (i = j) := by rw [PyData.eqv]; rfl
@[simp] theorem eqv_str (i j : Str) : PyData.eqv (.str i) (.str j) = decide (i = j) := by rw [PyData.eqv]; rfl
@[simp] theorem eqv_bool (i j : Bool) : PyData.eqv (.bool i) (.bool j) = decide (i = j) := by rw [PyData.eqv]; cases i <;> cases j <;> rfl
@[simp] theorem eqv_tup (xs ys : List PyData) : PyData.eqv (.tuple xs) (.tuple ys) = PyData.eqvAll xs ys := by rw [PyData.eqv]
@[simp] theorem eqv_lst (xs ys : List PyData) : PyData.eqv (.list xs) (.list ys) = PyData.eqvAll xs ys := by rw [PyData.eqv]
@[simp] theorem eqvAll_nil : PyData.eqvAll [] [] = true := by rw [PyData.eqvAll]
@[simp] theorem eqvAll_cons (x y : PyData) (xs ys : List PyData) : PyData.eqvAll (x :: xs) (y :: ys) = (PyData.eqv x y && PyData.eqvAll xs ys) := by rw [PyData.eqvAll]
@[simp] theorem eqvAll_nc (y : PyData) (ys : List PyData) : PyData.eqvAll [] (y :: ys) = false := by rw [PyData.eqvAll]
@[simp] theorem eqvAll_cn (y : PyData) (ys : List PyData) : PyData.eqvAll (y :: ys) [] = false := by rw [PyData.eqvAll]
/-! calls -/
theorem callK_ge {T : Nat → Option FnT} {i k : Nat} {f : FnT} (h : T i = some f) (hk : 1 ≤ k) (ws : List W) (ah : AH) : callK T k i ws ah = fnRun f.pure f.slots (f.body (callK T (k - 1))) ws ah := by
  obtain ⟨k, rfl⟩ : ∃ k', k = k' + 1 := ⟨k - 1, by omega⟩
  exact callK_at h k ws ah
theorem fnRun_wp {p : Bool} {slots : Nat} {b : DS} {ws : List W} {h : AH} {Q : W → AH → Prop} (hb : Ws (b (start0 slots ws) h) (fun _ h2 => Wp (fin p .non h h2) Q) (fun w h2 => Wp (fin p w h h2) Q)) : Wp (fnRun p slots b ws h) Q := by
  unfold fnRun
  cases hr : b (start0 slots ws) h with
  | nx e h2 => rw [hr] at hb; exact hb
  | ret w h2 => rw [hr] at hb; exact hb
  | _ => rw [hr] at hb; exact hb.elim
@[simp] theorem fin_false (w : W) (h h2 : AH) : fin false w h h2 = .ok w h2 := rfl
@[simp] theorem fin_true {w : W} {h : AH} (g : AH) (hw : W.under 0 w = true) : fin true w h (h ++ g) = .ok w h := by
  unfold fin
  rw [if_pos rfl, List.take_left, AH.beq_self, if_pos rfl]
  have : frz (h ++ g) h.length 3 w = some w := by
    unfold frz
    rw [if_pos hw]
  rw [this]
@[simp] theorem fin_self {w : W} {h : AH} (hw : W.under 0 w = true) : fin true w h h = .ok w h := by
  have := fin_true (h := h) [] hw
  rwa [List.append_nil] at this
end Dn
end
section
set_option Elab.async false
set_option linter.all false
set_option maxRecDepth 100000
set_option maxHeartbeats 4000000
namespace Dn
open PySem PySem.Spec PyProof.Rows L2
/-! ### lists that are made -/
theorem lc_pure {t : Tgt} {c : DT} {e : DE} {chk : AH → Bool} {env : Env} {h : AH} (hc : chk h = true) (f : W → Option W) : ∀ (xs acc : List W), acc.length + xs.length ≤ line →
    (∀ x ∈ xs, ∃ env1 b, t.set x env = some env1 ∧ c env1 h = .ok b h ∧ (if b = true then ∃ y, e env1 h = .ok y h ∧ f x = some y else f x = none)) → lcL t c e chk env xs acc h = .ok (acc ++ xs.filterMap f) h
  | [], acc, _, _ => by simp [lcL]
  | x :: xs, acc, hl, hx => by
    obtain ⟨env1, b, h1, h2, h3⟩ := hx x (by simp)
    have hl' : acc.length + (xs.length + 1) ≤ line := hl
    rw [lcL, h1]
    simp only [h2, bindN_ok]
    cases b with
    | true =>
      rw [if_pos rfl] at h3
      obtain ⟨y, h3, h4⟩ := h3
      have hlt : acc.length < line := by omega
      simp only [h3, bindN_ok, if_true, hc, Bool.true_and, decide_eq_true hlt]
      rw [lc_pure hc f xs (acc ++ [y]) (by simp; omega) fun z hz => hx z (by simp [hz]), List.filterMap_cons, h4]
      simp
    | false =>
      rw [if_neg Bool.false_ne_true] at h3
      simp only [Bool.false_eq_true, if_false, hc, if_true]
      rw [lc_pure hc f xs acc (by omega) fun z hz => hx z (by simp [hz]), List.filterMap_cons, h3]
/-- every item by itself -/
theorem lc_map {t : Tgt} {e : DE} {chk : AH → Bool} {env : Env} {h : AH} (hc : chk h = true) (f : W → W) {xs : List W} (hl : xs.length ≤ line) (hx : ∀ x ∈ xs, ∃ env1, t.set x env = some env1 ∧ e env1 h = .ok (f x) h) : lcL t yesT e chk env xs [] h = .ok (xs.map f) h := by
  rw [lc_pure hc (fun x => some (f x)) xs [] (by simpa using hl) fun x hm => ?_]
  · simp
  · obtain ⟨env1, h1, h2⟩ := hx x hm
    exact ⟨env1, true, h1, rfl, by rw [if_pos rfl]; exact ⟨_, h2, rfl⟩⟩
/-- items that are chosen -/
theorem lc_filter {t : Tgt} {c : DT} {e : DE} {chk : AH → Bool} {env : Env} {h : AH} (hc : chk h = true) (p : W → Bool) (f : W → W) {xs : List W} (hl : xs.length ≤ line) (hx : ∀ x ∈ xs, ∃ env1, t.set x env = some env1 ∧ c env1 h = .ok (p x) h ∧ (p x = true → e env1 h = .ok (f x) h)) : lcL t c e chk env xs [] h = .ok ((xs.filter p).map f) h := by
  rw [lc_pure hc (fun x => if p x = true then some (f x) else none) xs [] (by simpa using hl) fun x hm => ?_]
  · congr 1
    rw [List.nil_append]
    clear hx hl
    induction xs with
    | nil => rfl
    | cons x xs ih =>
      rw [List.filterMap_cons, List.filter_cons]
      cases p x <;> simp [ih]
  · obtain ⟨env1, h1, h2, h3⟩ := hx x hm
    refine ⟨env1, p x, h1, h2, ?_⟩
    cases hp : p x with
    | true => exact ⟨f x, h3 hp, by simp⟩
    | false => simp
/-- where a turn changes the heap -/
theorem lc_inv {t : Tgt} {e : DE} {chk : AH → Bool} {env : Env} (I : Nat → List W → AH → Prop) {Q : List W → AH → Prop} {xs : List W} : ∀ (i : Nat) (acc : List W) (h : AH), I i acc h → i ≤ xs.length → acc.length + (xs.length - i) ≤ line →
    (∀ j acc h x, I j acc h → xs[j]? = some x → ∃ env1, t.set x env = some env1 ∧ Wp (e env1 h) fun y h' => chk h' = true ∧ I (j + 1) (acc ++ [y]) h') → (∀ acc h, I xs.length acc h → Q acc h) → Wp (lcL t yesT e chk env (xs.drop i) acc h) Q := by
  intro i
  generalize hn : xs.length - i = n
  induction n generalizing i with
  | zero =>
    intro acc h hi hle hl hx hq
    have : i = xs.length := by omega
    subst this
    rw [List.drop_length, lcL]
    exact hq acc h hi
  | succ n ih =>
    intro acc h hi hle hl hx hq
    have hlt : i < xs.length := by omega
    rw [List.drop_eq_getElem_cons hlt, lcL]
    obtain ⟨env1, h1, h2⟩ := hx i acc h xs[i] hi (by simp [hlt])
    rw [h1]
    simp only [o_yes, bindN_ok, if_true, Wp_bindN]
    refine Wp_mono h2 fun y h' ⟨c1, c2⟩ => ?_
    have hlt' : acc.length < line := by omega
    rw [c1, decide_eq_true hlt', Bool.true_and, if_pos rfl]
    exact ih (i + 1) (by omega) (acc ++ [y]) h' c2 (by omega) (by simp; omega) hx hq
/-! ### loops -/
theorem for_inv {t : Tgt} {body : DS} {chk : AH → Bool} (I : Nat → Env → AH → Prop) {N : Env → AH → Prop} {R : W → AH → Prop} {xs : List W} (step : ∀ j env h x, I j env h → xs[j]? = some x → ∃ env1, t.set x env = some env1 ∧ Ws (body env1 h) (fun e' h' => chk h' = true ∧ I (j + 1) e' h') R) (fin : ∀ env h, I xs.length env h → N env h) :
    ∀ (i : Nat) (env : Env) (h : AH), I i env h → i ≤ xs.length → Ws (forL t body chk (xs.drop i) env h) N R := by
  intro i
  generalize hn : xs.length - i = n
  induction n generalizing i with
  | zero =>
    intro env h hi hle
    have : i = xs.length := by omega
    subst this
    rw [List.drop_length, forL]
    exact fin env h hi
  | succ n ih =>
    intro env h hi hle
    have hlt : i < xs.length := by omega
    rw [List.drop_eq_getElem_cons hlt, forL]
    obtain ⟨env1, h1, h2⟩ := step i env h xs[i] hi (by simp [hlt])
    rw [h1]
    simp only
    generalize body env1 h = r at h2
    cases r with
    | nx e' h' =>
      obtain ⟨c1, c2⟩ := h2
      simp only [c1, if_true]
      exact ih (i + 1) (by omega) e' h' c2 (by omega)
    | ret w h' => exact h2
    | _ => exact h2.elim
theorem for_all {t : Tgt} {body : DS} {chk : AH → Bool} (I : Nat → Env → AH → Prop) {N : Env → AH → Prop} {R : W → AH → Prop} {xs : List W} {env : Env} {h : AH} (h0 : I 0 env h) (step : ∀ j env h x, I j env h → xs[j]? = some x → ∃ env1, t.set x env = some env1 ∧ Ws (body env1 h) (fun e' h' => chk h' = true ∧ I (j + 1) e' h') R)
    (fin : ∀ env h, I xs.length env h → N env h) : Ws (forL t body chk xs env h) N R := by
  have := for_inv I step fin 0 env h h0 (Nat.zero_le _)
  simpa using this
/-- while, by a measure -/
theorem while_inv {c : DT} {body : DS} (I : Env → AH → Prop) (m : Env → AH → Nat) {N : Env → AH → Prop} {R : W → AH → Prop} (step : ∀ env h, I env h → Wp (c env h) fun b h1 => if b = true then Ws (body env h1) (fun e' h' => I e' h' ∧ m e' h' < m env h) R else N env h1) :
    ∀ (n : Nat) (env : Env) (h : AH), I env h → m env h < n → Ws (whileL c body n env h) N R := by
  intro n
  induction n with
  | zero => intro env h hi hm; omega
  | succ n ih =>
    intro env h hi hm
    rw [whileL, Ws_toS]
    refine Wp_mono (step env h hi) fun b h1 hb => ?_
    cases b with
    | false =>
      simp only [Bool.false_eq_true, if_false] at hb ⊢
      exact hb
    | true =>
      simp only [if_true] at hb ⊢
      generalize body env h1 = r at hb
      cases r with
      | nx e' h' => exact ih e' h' hb.1 (Nat.lt_of_lt_of_le hb.2 (Nat.le_of_lt_succ hm))
      | ret w h' => exact hb
      | _ => exact hb.elim
theorem while_all {c : DT} {body : DS} (I : Env → AH → Prop) (m : Env → AH → Nat) {N : Env → AH → Prop} {R : W → AH → Prop} {env : Env} {h : AH} (h0 : I env h) (hm : m env h < turns) (step : ∀ env h, I env h → Wp (c env h) fun b h1 => if b = true then Ws (body env h1) (fun e' h' => I e' h' ∧ m e' h' < m env h) R else N env h1) : Ws (sWhile c body env h) N R :=
  while_inv I m step turns env h h0 hm
/-! ### what is walked -/
@[simp] theorem src_tup (xs : List W) (h : AH) : srcOf h (.tup xs) = some { items := xs, chk := chkT } := rfl
@[simp] theorem src_lst (xs : List W) (h : AH) : srcOf h (.lst xs) = some { items := xs, chk := chkT } := rfl
@[simp] theorem sq_tup (xs : List W) (h : AH) : sqSrc h (.tup xs) = some { items := xs, chk := chkT } := rfl
@[simp] theorem sq_lst (xs : List W) (h : AH) : sqSrc h (.lst xs) = some { items := xs, chk := chkT } := rfl
@[simp] theorem okSrc_one (i : Nat) (xs : List W) (h : AH) : okSrc (.one i) { items := xs, chk := chkT } h = true := rfl
@[simp] theorem okSrc_tup (is : List Nat) (xs : List W) (h : AH) : okSrc (.tup is) { items := xs, chk := chkT } h = true := rfl
@[simp] theorem chkT_def (h : AH) : chkT h = true := rfl
@[simp] theorem rg1 (j : Int) : rgArgs [.int j] = some (0, j) := rfl
@[simp] theorem rg2 (i j : Int) : rgArgs [.int i, .int j] = some (i, j) := rfl
theorem rgOk_of {i j : Int} (h0 : -1000000 ≤ i) (h1 : i ≤ 1000000) (h2 : -1000000 ≤ j) (h3 : j ≤ 1000000) : rgOk i j = true := by
  unfold rgOk
  rw [Bool.and_eq_true_iff, Bool.and_eq_true_iff]
  exact ⟨Nat.ble_eq_true_of_le (by omega), Nat.ble_eq_true_of_le (by omega), Nat.ble_eq_true_of_le (by omega)⟩
@[simp] theorem rgW_len (i j : Int) : (rgW i j).length = (j - i).toNat := by simp [rgW]
theorem rgW_get {i j : Int} {n : Nat} {x : W} (h : (rgW i j)[n]? = some x) : x = .int (i + (n : Nat)) ∧ (n : Int) < j - i := by
  unfold rgW at h
  rw [List.getElem?_map] at h
  obtain ⟨m, hm, rfl⟩ := Option.map_eq_some_iff.mp h
  have hn := (List.getElem?_eq_some_iff.mp hm).1
  rw [List.length_range] at hn
  rw [List.getElem?_range hn] at hm
  cases hm
  exact ⟨rfl, by omega⟩
theorem rgW_nat (n : Nat) : rgW 0 (n : Int) = (List.range n).map fun i => W.int (i : Nat) := by
  unfold rgW
  have : ((n : Int) - 0).toNat = n := by omega
  rw [this]
  refine List.map_congr_left fun i _ => ?_
  rw [Int.zero_add]
theorem idx_ref {h : AH} {n : Nat} {xs : List W} (e : h[n]? = some (.lst xs)) (i : Int) : idxW (.ref n) (.int i) h = getI xs i := by
  have d : dctOf h (.ref n) = none := by simp [dctOf, e]
  simp [idxW, idxV, idxD, itemsOf, lstOf, e, d]
@[simp] theorem idx_lst {h : AH} {xs : List W} (i : Int) : idxW (.lst xs) (.int i) h = getI xs i := by simp [idxW, idxV, idxD, itemsOf, lstOf, dctOf]
@[simp] theorem idx_tup {h : AH} {xs : List W} (i : Int) : idxW (.tup xs) (.int i) h = getI xs i := by simp [idxW, idxV, idxD, itemsOf, dctOf]
@[simp] theorem idx_scr {h : AH} {xs : List W} (i : Int) : idxW (.scr xs) (.int i) h = getI xs i := by simp [idxW, idxV, idxD, itemsOf, dctOf]
theorem set_ref {h : AH} {n : Nat} {xs : List W} (e : h[n]? = some (.lst xs)) (i : Int) (w : W) : setV (.ref n) (.int i) w h = (ixN xs.length i).map fun j => h.set n (.lst (xs.set j w)) := by simp [setV, e]
theorem getI_nat {α : Type} (xs : List α) (i : Nat) : getI xs (i : Int) = xs[i]? := by simp [getI]
@[simp] theorem len_tup (xs : List W) (h : AH) : gLenW [.tup xs] h = some (.int xs.length) := by simp [gLenW, gLen, itemsOf]
@[simp] theorem len_lst (xs : List W) (h : AH) : gLenW [.lst xs] h = some (.int xs.length) := by simp [gLenW, gLen, itemsOf, lstOf]
@[simp] theorem len_scr (xs : List W) (h : AH) : gLenW [.scr xs] h = some (.int xs.length) := by simp [gLenW, gLen, itemsOf]
theorem eq_sh {x y : W} {h : AH} (hx : sh dl x = true) (hy : sh dl y = true) : eqV' x y h = some (.bl (PyData.eqv (toD x) (toD y))) := by
  have rx : res h x = x := by cases x <;> first | rfl | (simp [dl, sh] at hx)
  have ry : res h y = y := by cases y <;> first | rfl | (simp [dl, sh] at hy)
  unfold eqV'
  rw [rx, ry, if_pos ⟨hx, hy⟩]
theorem ne_sh {x y : W} {h : AH} (hx : sh dl x = true) (hy : sh dl y = true) : neV' x y h = some (.bl (!PyData.eqv (toD x) (toD y))) := by
  have rx : res h x = x := by cases x <;> first | rfl | (simp [dl, sh] at hx)
  have ry : res h y = y := by cases y <;> first | rfl | (simp [dl, sh] at hy)
  unfold neV'
  rw [rx, ry, if_pos ⟨hx, hy⟩]
theorem in_tup {x : W} {xs : List W} {h : AH} {neg : Bool} (hx : sh dl x = true) (hy : xs.all (sh dl) = true) : inW neg x (.tup xs) h = some (.bl (neg != anyEq x xs)) := by
  unfold inW inV
  cases x <;> simp_all [seqOf, dl, sh]
theorem in_lst {x : W} {xs : List W} {h : AH} {neg : Bool} (hx : sh dl x = true) (hy : xs.all (sh dl) = true) : inW neg x (.lst xs) h = some (.bl (neg != anyEq x xs)) := by
  unfold inW inV
  cases x <;> simp_all [seqOf, lstOf, dl, sh]
@[simp] theorem anyEq_nil (x : W) : anyEq x [] = false := rfl
@[simp high] theorem anyEq_str (x y : Str) (ys : List W) : anyEq (.str x) (.str y :: ys) = (decide (x = y) || anyEq (.str x) ys) := by
  simp [anyEq]
  rw [show (decide (y = x)) = decide (x = y) from decide_eq_decide.mpr eq_comm]
@[simp] theorem anyEq_cons (x y : W) (ys : List W) : anyEq x (y :: ys) = (PyData.eqv (toD y) (toD x) || anyEq x ys) := by simp [anyEq]
@[simp] theorem isB_int (T : BT) (i : Int) (h : AH) : isB T h (.int i) = some (decide (T = .int)) := by cases T <;> rfl
@[simp] theorem isB_bl (T : BT) (i : Bool) (h : AH) : isB T h (.bl i) = some (decide (T = .int ∨ T = .bool)) := by cases T <;> rfl
@[simp] theorem isB_str (T : BT) (i : Str) (h : AH) : isB T h (.str i) = some (decide (T = .str)) := by cases T <;> rfl
@[simp] theorem isB_non (T : BT) (h : AH) : isB T h .non = some false := by cases T <;> rfl
@[simp] theorem isB_tup (T : BT) (i : List W) (h : AH) : isB T h (.tup i) = some (decide (T = .tuple)) := by cases T <;> rfl
@[simp] theorem isB_lst (T : BT) (i : List W) (h : AH) : isB T h (.lst i) = some (decide (T = .list)) := by cases T <;> rfl
@[simp] theorem un_int (m : Nat) (i : Int) : W.under m (.int i) = true := (rfl)
@[simp] theorem un_bl (m : Nat) (i : Bool) : W.under m (.bl i) = true := (rfl)
@[simp] theorem un_str (m : Nat) (i : Str) : W.under m (.str i) = true := (rfl)
@[simp] theorem un_non (m : Nat) : W.under m .non = true := (rfl)
@[simp] theorem un_tup (m : Nat) (xs : List W) : W.under m (.tup xs) = W.unders m xs := by rw [W.under]
@[simp] theorem un_lst (m : Nat) (xs : List W) : W.under m (.lst xs) = W.unders m xs := by rw [W.under]
@[simp] theorem uns_nil (m : Nat) : W.unders m [] = true := by rw [W.unders]
@[simp] theorem uns_cons (m : Nat) (x : W) (xs : List W) : W.unders m (x :: xs) = (W.under m x && W.unders m xs) := by rw [W.unders]
theorem uns_iff {m : Nat} : ∀ {xs : List W}, W.unders m xs = true ↔ ∀ x ∈ xs, W.under m x = true
  | [] => by simp
  | x :: xs => by simp [uns_iff (xs := xs)]
theorem sh_under : ∀ (n : Nat) (w : W), sh n w = true → W.under 0 w = true
  | _, .non, _ => rfl
  | _, .bl _, _ => rfl
  | _, .int _, _ => rfl
  | _, .str _, _ => rfl
  | n + 1, .tup xs, h => by
    rw [un_tup, uns_iff]
    intro x hx
    exact sh_under n x (List.all_eq_true.mp h x hx)
  | n + 1, .lst xs, h => by
    rw [un_lst, uns_iff]
    intro x hx
    exact sh_under n x (List.all_eq_true.mp h x hx)
  | 0, .tup _, h => by simp [sh] at h
  | 0, .lst _, h => by simp [sh] at h
  | n, .dct _ _, h => by cases n <;> simp [sh] at h
  | n, .ref _, h => by cases n <;> simp [sh] at h
  | n, .glo _, h => by cases n <;> simp [sh] at h
  | n, .scr _, h => by cases n <;> simp [sh] at h
  | n, .erx _, h => by cases n <;> simp [sh] at h
  | n, .err _ _, h => by cases n <;> simp [sh] at h
  | n, .any, h => by cases n <;> simp [sh] at h
@[simp] theorem shT19 (xs : List W) : sh dl (.tup xs) = xs.all (sh 19) := rfl
@[simp] theorem shL19 (xs : List W) : sh dl (.lst xs) = xs.all (sh 19) := rfl
@[simp] theorem eqvAll_e (xs : List W) : PyData.eqvAll (toDs xs) [] = xs.isEmpty := by cases xs <;> simp
theorem cutW_1 {α : Type} (x : α) (xs : List α) : cutW (x :: xs) (some 1) none = xs := by
  simp [cutW, HT.sIx]
theorem cutW_to {α : Type} (xs : List α) (i : Nat) : cutW xs none (some (i : Int)) = xs.take i := by
  unfold cutW
  rw [HT.sIx_none, HT.sIx_nat, List.drop_zero, Nat.sub_zero]
  by_cases h : i ≤ xs.length
  · rw [Nat.min_eq_left h]
  · rw [Nat.min_eq_right (by omega), List.take_length, List.take_of_length_le (by omega)]
theorem cutW_from {α : Type} (xs : List α) (i : Nat) : cutW xs (some (i : Int)) none = xs.drop i := by
  unfold cutW
  rw [HT.sIx_none, HT.sIx_nat]
  by_cases h : i ≤ xs.length
  · rw [Nat.min_eq_left h, List.take_of_length_le (by simp)]
  · rw [Nat.min_eq_right (by omega)]
    simp
    omega
theorem cutW_mid {α : Type} (xs : List α) (i j : Nat) : cutW xs (some (i : Int)) (some (j : Int)) = (xs.drop i).take (j - i) := by
  unfold cutW
  rw [HT.sIx_nat, HT.sIx_nat]
  by_cases h : i ≤ xs.length
  · rw [Nat.min_eq_left h]
    by_cases h' : j ≤ xs.length
    · rw [Nat.min_eq_left h']
    · rw [Nat.min_eq_right (by omega), List.take_of_length_le (by simp), List.take_of_length_le (by simp; omega)]
  · rw [Nat.min_eq_right (by omega : xs.length ≤ i), List.drop_of_length_le (Nat.le_refl _), List.drop_of_length_le (by omega)]
    simp
@[simp] theorem sl_tup (m : Bool) (xs : List W) (lo hi : Option Int) (h : AH) : sliceV m (.tup xs) lo hi h = .ok (.tup (cutW xs lo hi)) h := rfl
@[simp] theorem sl_lst (m : Bool) (xs : List W) (lo hi : Option Int) (h : AH) : sliceV m (.lst xs) lo hi h = allocL m (cutW xs lo hi) h := rfl
end Dn
end
section
set_option Elab.async false
set_option linter.all false
set_option maxRecDepth 100000
set_option maxHeartbeats 4000000
namespace Dn
open PySem PySem.Spec PyProof.Rows L2

/-! ### what is drawn -/
def BagOk (o : AO) : Prop := ∃ a b c : Int, o = .lst [.int a, .int b, .int c] ∧ 0 ≤ a ∧ 0 ≤ b ∧ b < 2147483543 ∧ 0 ≤ c ∧ c < 4294967291
def St (n : Nat) (h : AH) : Prop := ∃ o, h[n]? = some o ∧ BagOk o
structure Same (n : Nat) (h h' : AH) : Prop where
  len : h'.length = h.length
  at_ : ∀ i, i ≠ n → h'[i]? = h[i]?
theorem Same.refl (n : Nat) (h : AH) : Same n h h := ⟨rfl, fun _ _ => rfl⟩
theorem Same.trans {n : Nat} {h h1 h2 : AH} (a : Same n h h1) (b : Same n h1 h2) : Same n h h2 := ⟨b.len.trans a.len, fun i hi => (b.at_ i hi).trans (a.at_ i hi)⟩
theorem Same.set (n : Nat) (h : AH) (o : AO) : Same n h (h.set n o) := ⟨List.length_set, fun i hi => List.getElem?_set_ne (Ne.symm hi)⟩
theorem St.set {n : Nat} {h : AH} {o : AO} (s : St n h) (b : BagOk o) : St n (h.set n o) := by
  obtain ⟨o', e, _⟩ := s
  exact ⟨o, List.getElem?_set_self (List.getElem?_eq_some_iff.mp e).1, b⟩
theorem w_take {k n : Nat} {m : Int} {h : AH} {Q : W → AH → Prop} (hk : 1 ≤ k) (hs : St n h) (h0 : 0 < m) (h1 : m < 1073741824) (q : ∀ v h', 0 ≤ v → v < m → St n h' → Same n h h' → Q (.int v) h') : Wp (callK Tb k 17 [.ref n, .int m] h) Q := by
  rw [callK_ge (f := f17) rfl hk]
  refine fnRun_wp ?_
  obtain ⟨o, e, a, b, c, rfl, ha, hb, hb1, hc, hc1⟩ := id hs
  have hl := (List.getElem?_eq_some_iff.mp e).1
  have I1 := fun (x : List W) (i : Int) => idx_ref (h := h.set n (.lst x)) (List.getElem?_set_self hl) i
  have S1 := fun (x : List W) (i : Int) (w : W) => set_ref (h := h.set n (.lst x)) (List.getElem?_set_self hl) i w
  simp only [f17, d17_law_take, start0]
  simp [idx_ref e, set_ref e, Wp_ofO, getI, v_mod h0, v_fdiv h0 h1, ixN]
  split
  · rename_i hp
    refine q _ _ (Int.emod_nonneg _ (by omega)) (Int.emod_lt_of_pos _ h0) (hs.set ?_) (Same.set _ _ _)
    exact ⟨a / m, b, c, rfl, Int.ediv_nonneg ha (by omega), hb, hb1, hc, hc1⟩
  · rw [v_mulR (by decide) (by decide)]
    simp [v_mod, I1, S1, set_ref e, idx_ref e, Wp_ofO, getI, ixN]
    have hc' := Int.emod_nonneg (c * 69069 + 5) (show (4294967291 : Int) ≠ 0 by decide)
    have hc1' := Int.emod_lt_of_pos (c * 69069 + 5) (show (0 : Int) < 4294967291 by decide)
    rw [v_pow (by decide) (by decide) (by omega)]
    simp [v_mod h0, v_mod, v_fdiv, I1, S1, set_ref e, idx_ref e, Wp_ofO, getI, ixN]
    refine q _ _ (Int.emod_nonneg _ (by omega)) (Int.emod_lt_of_pos _ h0) (hs.set ?_) (Same.set _ _ _)
    have hb' := Int.emod_nonneg ((b + (c * 69069 + 5) % 4294967291) ^ 2) (show (2147483543 : Int) ≠ 0 by decide)
    have hb1' := Int.emod_lt_of_pos ((b + (c * 69069 + 5) % 4294967291) ^ 2) (show (0 : Int) < 2147483543 by decide)
    exact ⟨a, _, _, rfl, ha, hb', hb1', hc', hc1'⟩
/-- what may be asked for by place -/
theorem w_of {k n : Nat} {xs : List W} {h : AH} {Q : W → AH → Prop} (hk : 2 ≤ k) (hs : St n h) (h0 : xs ≠ []) (h1 : xs.length < 1073741824) (q : ∀ x h', x ∈ xs → St n h' → Same n h h' → Q x h') : Wp (callK Tb k 18 [.ref n, .lst xs] h) Q := by
  rw [callK_ge (f := f18) rfl (by omega)]
  refine fnRun_wp ?_
  have hp : 0 < xs.length := List.length_pos_iff.mpr h0
  simp only [f18, d18_law_of, start0]
  simp [Wp_ofO, gLenW, gLen, itemsOf, lstOf]
  refine w_take (by omega) hs (by omega) (by omega) fun v h' v0 v1 s' sm => ?_
  obtain ⟨i, rfl⟩ : ∃ i : Nat, v = i := ⟨v.toNat, by omega⟩
  have hi : i < xs.length := by omega
  simp [idx_lst, getI, hi]
  exact q _ _ (List.getElem_mem hi) s' sm
end Dn
end
section
set_option Elab.async false
set_option linter.all false
set_option maxRecDepth 100000
namespace Dn
open PySem
theorem sh_str (n : Nat) {x : Str} (h : SeqAt.shaped (.str x) = true) : sh n (.str x) = true := by cases n <;> exact h
@[simp] theorem ne_cut_free : (("cut" : Str) = "free") = False := eq_false (by decide +kernel)
@[simp] theorem ne_cut_name : (("cut" : Str) = "name") = False := eq_false (by decide +kernel)
@[simp] theorem ne_cut_think : (("cut" : Str) = "think") = False := eq_false (by decide +kernel)
@[simp] theorem ne_cut_look : (("cut" : Str) = "look") = False := eq_false (by decide +kernel)
@[simp] theorem ne_cut_deal : (("cut" : Str) = "deal") = False := eq_false (by decide +kernel)
@[simp] theorem ne_cut_piles : (("cut" : Str) = "piles") = False := eq_false (by decide +kernel)
@[simp] theorem ne_cut_away : (("cut" : Str) = "away") = False := eq_false (by decide +kernel)
@[simp] theorem ne_cut_turn : (("cut" : Str) = "turn") = False := eq_false (by decide +kernel)
@[simp] theorem ne_cut_that : (("cut" : Str) = "that") = False := eq_false (by decide +kernel)
@[simp] theorem ne_cut_on : (("cut" : Str) = "on") = False := eq_false (by decide +kernel)
@[simp] theorem ne_cut_under : (("cut" : Str) = "under") = False := eq_false (by decide +kernel)
@[simp] theorem ne_cut_place : (("cut" : Str) = "place") = False := eq_false (by decide +kernel)
@[simp] theorem ne_cut_card : (("cut" : Str) = "card") = False := eq_false (by decide +kernel)
@[simp] theorem ne_free_cut : (("free" : Str) = "cut") = False := eq_false (by decide +kernel)
@[simp] theorem ne_free_name : (("free" : Str) = "name") = False := eq_false (by decide +kernel)
@[simp] theorem ne_free_think : (("free" : Str) = "think") = False := eq_false (by decide +kernel)
@[simp] theorem ne_free_look : (("free" : Str) = "look") = False := eq_false (by decide +kernel)
@[simp] theorem ne_free_deal : (("free" : Str) = "deal") = False := eq_false (by decide +kernel)
@[simp] theorem ne_free_piles : (("free" : Str) = "piles") = False := eq_false (by decide +kernel)
@[simp] theorem ne_free_away : (("free" : Str) = "away") = False := eq_false (by decide +kernel)
@[simp] theorem ne_free_turn : (("free" : Str) = "turn") = False := eq_false (by decide +kernel)
@[simp] theorem ne_free_that : (("free" : Str) = "that") = False := eq_false (by decide +kernel)
@[simp] theorem ne_free_on : (("free" : Str) = "on") = False := eq_false (by decide +kernel)
@[simp] theorem ne_free_under : (("free" : Str) = "under") = False := eq_false (by decide +kernel)
@[simp] theorem ne_free_place : (("free" : Str) = "place") = False := eq_false (by decide +kernel)
@[simp] theorem ne_free_card : (("free" : Str) = "card") = False := eq_false (by decide +kernel)
@[simp] theorem ne_name_cut : (("name" : Str) = "cut") = False := eq_false (by decide +kernel)
@[simp] theorem ne_name_free : (("name" : Str) = "free") = False := eq_false (by decide +kernel)
@[simp] theorem ne_name_think : (("name" : Str) = "think") = False := eq_false (by decide +kernel)
@[simp] theorem ne_name_look : (("name" : Str) = "look") = False := eq_false (by decide +kernel)
@[simp] theorem ne_name_deal : (("name" : Str) = "deal") = False := eq_false (by decide +kernel)
@[simp] theorem ne_name_piles : (("name" : Str) = "piles") = False := eq_false (by decide +kernel)
@[simp] theorem ne_name_away : (("name" : Str) = "away") = False := eq_false (by decide +kernel)
@[simp] theorem ne_name_turn : (("name" : Str) = "turn") = False := eq_false (by decide +kernel)
@[simp] theorem ne_name_that : (("name" : Str) = "that") = False := eq_false (by decide +kernel)
@[simp] theorem ne_name_on : (("name" : Str) = "on") = False := eq_false (by decide +kernel)
@[simp] theorem ne_name_under : (("name" : Str) = "under") = False := eq_false (by decide +kernel)
@[simp] theorem ne_name_place : (("name" : Str) = "place") = False := eq_false (by decide +kernel)
@[simp] theorem ne_name_card : (("name" : Str) = "card") = False := eq_false (by decide +kernel)
@[simp] theorem ne_think_cut : (("think" : Str) = "cut") = False := eq_false (by decide +kernel)
@[simp] theorem ne_think_free : (("think" : Str) = "free") = False := eq_false (by decide +kernel)
@[simp] theorem ne_think_name : (("think" : Str) = "name") = False := eq_false (by decide +kernel)
@[simp] theorem ne_think_look : (("think" : Str) = "look") = False := eq_false (by decide +kernel)
@[simp] theorem ne_think_deal : (("think" : Str) = "deal") = False := eq_false (by decide +kernel)
@[simp] theorem ne_think_piles : (("think" : Str) = "piles") = False := eq_false (by decide +kernel)
@[simp] theorem ne_think_away : (("think" : Str) = "away") = False := eq_false (by decide +kernel)
@[simp] theorem ne_think_turn : (("think" : Str) = "turn") = False := eq_false (by decide +kernel)
@[simp] theorem ne_think_that : (("think" : Str) = "that") = False := eq_false (by decide +kernel)
@[simp] theorem ne_think_on : (("think" : Str) = "on") = False := eq_false (by decide +kernel)
@[simp] theorem ne_think_under : (("think" : Str) = "under") = False := eq_false (by decide +kernel)
@[simp] theorem ne_think_place : (("think" : Str) = "place") = False := eq_false (by decide +kernel)
@[simp] theorem ne_think_card : (("think" : Str) = "card") = False := eq_false (by decide +kernel)
@[simp] theorem ne_look_cut : (("look" : Str) = "cut") = False := eq_false (by decide +kernel)
@[simp] theorem ne_look_free : (("look" : Str) = "free") = False := eq_false (by decide +kernel)
@[simp] theorem ne_look_name : (("look" : Str) = "name") = False := eq_false (by decide +kernel)
@[simp] theorem ne_look_think : (("look" : Str) = "think") = False := eq_false (by decide +kernel)
@[simp] theorem ne_look_deal : (("look" : Str) = "deal") = False := eq_false (by decide +kernel)
@[simp] theorem ne_look_piles : (("look" : Str) = "piles") = False := eq_false (by decide +kernel)
@[simp] theorem ne_look_away : (("look" : Str) = "away") = False := eq_false (by decide +kernel)
@[simp] theorem ne_look_turn : (("look" : Str) = "turn") = False := eq_false (by decide +kernel)
@[simp] theorem ne_look_that : (("look" : Str) = "that") = False := eq_false (by decide +kernel)
@[simp] theorem ne_look_on : (("look" : Str) = "on") = False := eq_false (by decide +kernel)
@[simp] theorem ne_look_under : (("look" : Str) = "under") = False := eq_false (by decide +kernel)
@[simp] theorem ne_look_place : (("look" : Str) = "place") = False := eq_false (by decide +kernel)
@[simp] theorem ne_look_card : (("look" : Str) = "card") = False := eq_false (by decide +kernel)
@[simp] theorem ne_deal_cut : (("deal" : Str) = "cut") = False := eq_false (by decide +kernel)
@[simp] theorem ne_deal_free : (("deal" : Str) = "free") = False := eq_false (by decide +kernel)
@[simp] theorem ne_deal_name : (("deal" : Str) = "name") = False := eq_false (by decide +kernel)
@[simp] theorem ne_deal_think : (("deal" : Str) = "think") = False := eq_false (by decide +kernel)
@[simp] theorem ne_deal_look : (("deal" : Str) = "look") = False := eq_false (by decide +kernel)
@[simp] theorem ne_deal_piles : (("deal" : Str) = "piles") = False := eq_false (by decide +kernel)
@[simp] theorem ne_deal_away : (("deal" : Str) = "away") = False := eq_false (by decide +kernel)
@[simp] theorem ne_deal_turn : (("deal" : Str) = "turn") = False := eq_false (by decide +kernel)
@[simp] theorem ne_deal_that : (("deal" : Str) = "that") = False := eq_false (by decide +kernel)
@[simp] theorem ne_deal_on : (("deal" : Str) = "on") = False := eq_false (by decide +kernel)
@[simp] theorem ne_deal_under : (("deal" : Str) = "under") = False := eq_false (by decide +kernel)
@[simp] theorem ne_deal_place : (("deal" : Str) = "place") = False := eq_false (by decide +kernel)
@[simp] theorem ne_deal_card : (("deal" : Str) = "card") = False := eq_false (by decide +kernel)
@[simp] theorem ne_piles_cut : (("piles" : Str) = "cut") = False := eq_false (by decide +kernel)
@[simp] theorem ne_piles_free : (("piles" : Str) = "free") = False := eq_false (by decide +kernel)
@[simp] theorem ne_piles_name : (("piles" : Str) = "name") = False := eq_false (by decide +kernel)
@[simp] theorem ne_piles_think : (("piles" : Str) = "think") = False := eq_false (by decide +kernel)
@[simp] theorem ne_piles_look : (("piles" : Str) = "look") = False := eq_false (by decide +kernel)
@[simp] theorem ne_piles_deal : (("piles" : Str) = "deal") = False := eq_false (by decide +kernel)
@[simp] theorem ne_piles_away : (("piles" : Str) = "away") = False := eq_false (by decide +kernel)
@[simp] theorem ne_piles_turn : (("piles" : Str) = "turn") = False := eq_false (by decide +kernel)
@[simp] theorem ne_piles_that : (("piles" : Str) = "that") = False := eq_false (by decide +kernel)
@[simp] theorem ne_piles_on : (("piles" : Str) = "on") = False := eq_false (by decide +kernel)
@[simp] theorem ne_piles_under : (("piles" : Str) = "under") = False := eq_false (by decide +kernel)
@[simp] theorem ne_piles_place : (("piles" : Str) = "place") = False := eq_false (by decide +kernel)
@[simp] theorem ne_piles_card : (("piles" : Str) = "card") = False := eq_false (by decide +kernel)
@[simp] theorem ne_away_cut : (("away" : Str) = "cut") = False := eq_false (by decide +kernel)
@[simp] theorem ne_away_free : (("away" : Str) = "free") = False := eq_false (by decide +kernel)
@[simp] theorem ne_away_name : (("away" : Str) = "name") = False := eq_false (by decide +kernel)
@[simp] theorem ne_away_think : (("away" : Str) = "think") = False := eq_false (by decide +kernel)
@[simp] theorem ne_away_look : (("away" : Str) = "look") = False := eq_false (by decide +kernel)
@[simp] theorem ne_away_deal : (("away" : Str) = "deal") = False := eq_false (by decide +kernel)
@[simp] theorem ne_away_piles : (("away" : Str) = "piles") = False := eq_false (by decide +kernel)
@[simp] theorem ne_away_turn : (("away" : Str) = "turn") = False := eq_false (by decide +kernel)
@[simp] theorem ne_away_that : (("away" : Str) = "that") = False := eq_false (by decide +kernel)
@[simp] theorem ne_away_on : (("away" : Str) = "on") = False := eq_false (by decide +kernel)
@[simp] theorem ne_away_under : (("away" : Str) = "under") = False := eq_false (by decide +kernel)
@[simp] theorem ne_away_place : (("away" : Str) = "place") = False := eq_false (by decide +kernel)
@[simp] theorem ne_away_card : (("away" : Str) = "card") = False := eq_false (by decide +kernel)
@[simp] theorem ne_turn_cut : (("turn" : Str) = "cut") = False := eq_false (by decide +kernel)
@[simp] theorem ne_turn_free : (("turn" : Str) = "free") = False := eq_false (by decide +kernel)
@[simp] theorem ne_turn_name : (("turn" : Str) = "name") = False := eq_false (by decide +kernel)
@[simp] theorem ne_turn_think : (("turn" : Str) = "think") = False := eq_false (by decide +kernel)
@[simp] theorem ne_turn_look : (("turn" : Str) = "look") = False := eq_false (by decide +kernel)
@[simp] theorem ne_turn_deal : (("turn" : Str) = "deal") = False := eq_false (by decide +kernel)
@[simp] theorem ne_turn_piles : (("turn" : Str) = "piles") = False := eq_false (by decide +kernel)
@[simp] theorem ne_turn_away : (("turn" : Str) = "away") = False := eq_false (by decide +kernel)
@[simp] theorem ne_turn_that : (("turn" : Str) = "that") = False := eq_false (by decide +kernel)
@[simp] theorem ne_turn_on : (("turn" : Str) = "on") = False := eq_false (by decide +kernel)
@[simp] theorem ne_turn_under : (("turn" : Str) = "under") = False := eq_false (by decide +kernel)
@[simp] theorem ne_turn_place : (("turn" : Str) = "place") = False := eq_false (by decide +kernel)
@[simp] theorem ne_turn_card : (("turn" : Str) = "card") = False := eq_false (by decide +kernel)
@[simp] theorem ne_that_cut : (("that" : Str) = "cut") = False := eq_false (by decide +kernel)
@[simp] theorem ne_that_free : (("that" : Str) = "free") = False := eq_false (by decide +kernel)
@[simp] theorem ne_that_name : (("that" : Str) = "name") = False := eq_false (by decide +kernel)
@[simp] theorem ne_that_think : (("that" : Str) = "think") = False := eq_false (by decide +kernel)
@[simp] theorem ne_that_look : (("that" : Str) = "look") = False := eq_false (by decide +kernel)
@[simp] theorem ne_that_deal : (("that" : Str) = "deal") = False := eq_false (by decide +kernel)
@[simp] theorem ne_that_piles : (("that" : Str) = "piles") = False := eq_false (by decide +kernel)
@[simp] theorem ne_that_away : (("that" : Str) = "away") = False := eq_false (by decide +kernel)
@[simp] theorem ne_that_turn : (("that" : Str) = "turn") = False := eq_false (by decide +kernel)
@[simp] theorem ne_that_on : (("that" : Str) = "on") = False := eq_false (by decide +kernel)
@[simp] theorem ne_that_under : (("that" : Str) = "under") = False := eq_false (by decide +kernel)
@[simp] theorem ne_that_place : (("that" : Str) = "place") = False := eq_false (by decide +kernel)
@[simp] theorem ne_that_card : (("that" : Str) = "card") = False := eq_false (by decide +kernel)
@[simp] theorem ne_on_cut : (("on" : Str) = "cut") = False := eq_false (by decide +kernel)
@[simp] theorem ne_on_free : (("on" : Str) = "free") = False := eq_false (by decide +kernel)
@[simp] theorem ne_on_name : (("on" : Str) = "name") = False := eq_false (by decide +kernel)
@[simp] theorem ne_on_think : (("on" : Str) = "think") = False := eq_false (by decide +kernel)
@[simp] theorem ne_on_look : (("on" : Str) = "look") = False := eq_false (by decide +kernel)
@[simp] theorem ne_on_deal : (("on" : Str) = "deal") = False := eq_false (by decide +kernel)
@[simp] theorem ne_on_piles : (("on" : Str) = "piles") = False := eq_false (by decide +kernel)
@[simp] theorem ne_on_away : (("on" : Str) = "away") = False := eq_false (by decide +kernel)
@[simp] theorem ne_on_turn : (("on" : Str) = "turn") = False := eq_false (by decide +kernel)
@[simp] theorem ne_on_that : (("on" : Str) = "that") = False := eq_false (by decide +kernel)
@[simp] theorem ne_on_under : (("on" : Str) = "under") = False := eq_false (by decide +kernel)
@[simp] theorem ne_on_place : (("on" : Str) = "place") = False := eq_false (by decide +kernel)
@[simp] theorem ne_on_card : (("on" : Str) = "card") = False := eq_false (by decide +kernel)
@[simp] theorem ne_under_cut : (("under" : Str) = "cut") = False := eq_false (by decide +kernel)
@[simp] theorem ne_under_free : (("under" : Str) = "free") = False := eq_false (by decide +kernel)
@[simp] theorem ne_under_name : (("under" : Str) = "name") = False := eq_false (by decide +kernel)
@[simp] theorem ne_under_think : (("under" : Str) = "think") = False := eq_false (by decide +kernel)
@[simp] theorem ne_under_look : (("under" : Str) = "look") = False := eq_false (by decide +kernel)
@[simp] theorem ne_under_deal : (("under" : Str) = "deal") = False := eq_false (by decide +kernel)
@[simp] theorem ne_under_piles : (("under" : Str) = "piles") = False := eq_false (by decide +kernel)
@[simp] theorem ne_under_away : (("under" : Str) = "away") = False := eq_false (by decide +kernel)
@[simp] theorem ne_under_turn : (("under" : Str) = "turn") = False := eq_false (by decide +kernel)
@[simp] theorem ne_under_that : (("under" : Str) = "that") = False := eq_false (by decide +kernel)
@[simp] theorem ne_under_on : (("under" : Str) = "on") = False := eq_false (by decide +kernel)
@[simp] theorem ne_under_place : (("under" : Str) = "place") = False := eq_false (by decide +kernel)
@[simp] theorem ne_under_card : (("under" : Str) = "card") = False := eq_false (by decide +kernel)
@[simp] theorem ne_place_cut : (("place" : Str) = "cut") = False := eq_false (by decide +kernel)
@[simp] theorem ne_place_free : (("place" : Str) = "free") = False := eq_false (by decide +kernel)
@[simp] theorem ne_place_name : (("place" : Str) = "name") = False := eq_false (by decide +kernel)
@[simp] theorem ne_place_think : (("place" : Str) = "think") = False := eq_false (by decide +kernel)
@[simp] theorem ne_place_look : (("place" : Str) = "look") = False := eq_false (by decide +kernel)
@[simp] theorem ne_place_deal : (("place" : Str) = "deal") = False := eq_false (by decide +kernel)
@[simp] theorem ne_place_piles : (("place" : Str) = "piles") = False := eq_false (by decide +kernel)
@[simp] theorem ne_place_away : (("place" : Str) = "away") = False := eq_false (by decide +kernel)
@[simp] theorem ne_place_turn : (("place" : Str) = "turn") = False := eq_false (by decide +kernel)
@[simp] theorem ne_place_that : (("place" : Str) = "that") = False := eq_false (by decide +kernel)
@[simp] theorem ne_place_on : (("place" : Str) = "on") = False := eq_false (by decide +kernel)
@[simp] theorem ne_place_under : (("place" : Str) = "under") = False := eq_false (by decide +kernel)
@[simp] theorem ne_place_card : (("place" : Str) = "card") = False := eq_false (by decide +kernel)
@[simp] theorem ne_card_cut : (("card" : Str) = "cut") = False := eq_false (by decide +kernel)
@[simp] theorem ne_card_free : (("card" : Str) = "free") = False := eq_false (by decide +kernel)
@[simp] theorem ne_card_name : (("card" : Str) = "name") = False := eq_false (by decide +kernel)
@[simp] theorem ne_card_think : (("card" : Str) = "think") = False := eq_false (by decide +kernel)
@[simp] theorem ne_card_look : (("card" : Str) = "look") = False := eq_false (by decide +kernel)
@[simp] theorem ne_card_deal : (("card" : Str) = "deal") = False := eq_false (by decide +kernel)
@[simp] theorem ne_card_piles : (("card" : Str) = "piles") = False := eq_false (by decide +kernel)
@[simp] theorem ne_card_away : (("card" : Str) = "away") = False := eq_false (by decide +kernel)
@[simp] theorem ne_card_turn : (("card" : Str) = "turn") = False := eq_false (by decide +kernel)
@[simp] theorem ne_card_that : (("card" : Str) = "that") = False := eq_false (by decide +kernel)
@[simp] theorem ne_card_on : (("card" : Str) = "on") = False := eq_false (by decide +kernel)
@[simp] theorem ne_card_under : (("card" : Str) = "under") = False := eq_false (by decide +kernel)
@[simp] theorem ne_card_place : (("card" : Str) = "place") = False := eq_false (by decide +kernel)
@[simp] theorem shw_cut (n : Nat) : sh n (.str "cut") = true := sh_str n (by decide +kernel)
@[simp] theorem shw_free (n : Nat) : sh n (.str "free") = true := sh_str n (by decide +kernel)
@[simp] theorem shw_name (n : Nat) : sh n (.str "name") = true := sh_str n (by decide +kernel)
@[simp] theorem shw_think (n : Nat) : sh n (.str "think") = true := sh_str n (by decide +kernel)
@[simp] theorem shw_look (n : Nat) : sh n (.str "look") = true := sh_str n (by decide +kernel)
@[simp] theorem shw_deal (n : Nat) : sh n (.str "deal") = true := sh_str n (by decide +kernel)
@[simp] theorem shw_piles (n : Nat) : sh n (.str "piles") = true := sh_str n (by decide +kernel)
@[simp] theorem shw_away (n : Nat) : sh n (.str "away") = true := sh_str n (by decide +kernel)
@[simp] theorem shw_turn (n : Nat) : sh n (.str "turn") = true := sh_str n (by decide +kernel)
@[simp] theorem shw_that (n : Nat) : sh n (.str "that") = true := sh_str n (by decide +kernel)
@[simp] theorem shw_on (n : Nat) : sh n (.str "on") = true := sh_str n (by decide +kernel)
@[simp] theorem shw_under (n : Nat) : sh n (.str "under") = true := sh_str n (by decide +kernel)
@[simp] theorem shw_place (n : Nat) : sh n (.str "place") = true := sh_str n (by decide +kernel)
@[simp] theorem shw_card (n : Nat) : sh n (.str "card") = true := sh_str n (by decide +kernel)
end Dn
end
section
set_option Elab.async false
set_option linter.all false
set_option maxRecDepth 100000
set_option maxHeartbeats 4000000
namespace Dn
open PySem PySem.Spec PyProof.Rows L2

/-! ### what a trick is, on values -/
def isNumW (v : W) (lo hi : Int) : Bool := match v with
  | .int i => decide (lo ≤ i) && decide (i ≤ hi)
  | _ => false
theorem s_number {k : Nat} {v : W} {lo hi : Int} {h : AH} {n : Nat} (hk : 1 ≤ k) (hv : sh n v = true) : callK Tb k 0 [v, .int lo, .int hi] h = .ok (.bl (isNumW v lo hi)) h := by
  refine eq_of_Wp ?_
  rw [callK_ge (f := f0) rfl hk]
  refine fnRun_wp ?_
  simp only [f0, d0_is_number, start0]
  cases v with
  | int i =>
    simp [Wp_ofO]
    by_cases h1 : lo ≤ i
    · simp [h1, Wp_ofO, isNumW]
    · simp [h1, Wp_ofO, isNumW]
  | bl b => simp [Wp_ofO, isNumW]
  | str b => simp [Wp_ofO, isNumW]
  | non => simp [Wp_ofO, isNumW]
  | tup b => simp [Wp_ofO, isNumW]
  | lst b => simp [Wp_ofO, isNumW]
  | dct _ _ => cases n <;> simp [sh] at hv
  | ref _ => cases n <;> simp [sh] at hv
  | glo _ => cases n <;> simp [sh] at hv
  | scr _ => cases n <;> simp [sh] at hv
  | erx _ => cases n <;> simp [sh] at hv
  | err _ _ => cases n <;> simp [sh] at hv
  | any => cases n <;> simp [sh] at hv
def isManyW (v : W) (lo : Int) : Bool := match v with
  | .str s => decide (s = "that")
  | v => isNumW v lo 40
theorem sh_up : ∀ (n : Nat) (w : W), sh n w = true → sh (n + 1) w = true
  | _, .non, _ => rfl
  | _, .bl _, _ => rfl
  | _, .int _, _ => rfl
  | n, .str x, h => by cases n <;> exact h
  | n + 1, .tup xs, h => List.all_eq_true.mpr fun x hx => sh_up n x (List.all_eq_true.mp h x hx)
  | n + 1, .lst xs, h => List.all_eq_true.mpr fun x hx => sh_up n x (List.all_eq_true.mp h x hx)
  | 0, .tup _, h => by simp [sh] at h
  | 0, .lst _, h => by simp [sh] at h
  | n, .dct _ _, h => by cases n <;> simp [sh] at h
  | n, .ref _, h => by cases n <;> simp [sh] at h
  | n, .glo _, h => by cases n <;> simp [sh] at h
  | n, .scr _, h => by cases n <;> simp [sh] at h
  | n, .erx _, h => by cases n <;> simp [sh] at h
  | n, .err _ _, h => by cases n <;> simp [sh] at h
  | n, .any, h => by cases n <;> simp [sh] at h
theorem sh_le {n m : Nat} (h : n ≤ m) {w : W} (hw : sh n w = true) : sh m w = true := by
  induction h with
  | refl => exact hw
  | step _ ih => exact sh_up _ _ ih
theorem sh_dl {n : Nat} (h : n ≤ 20) {w : W} (hw : sh n w = true) : sh dl w = true := sh_le h hw
theorem s_many {k : Nat} {v : W} {lo : Int} {h : AH} {n : Nat} (hk : 2 ≤ k) (hn : n ≤ 20) (hv : sh n v = true) : callK Tb k 1 [v, .int lo] h = .ok (.bl (isManyW v lo)) h := by
  refine eq_of_Wp ?_
  rw [callK_ge (f := f1) rfl (by omega)]
  refine fnRun_wp ?_
  have e := fun lo => s_number (k := k - 1) (v := v) (lo := lo) (hi := 40) (h := h) (by omega) hv
  have q := eq_sh (h := h) (sh_dl hn hv) (shw_that dl)
  simp only [f1, d1_is_many, start0]
  cases v with
  | str s =>
    simp [q, Wp_ofO, e, isManyW, isNumW]
  | dct _ _ => cases n <;> simp [sh] at hv
  | ref _ => cases n <;> simp [sh] at hv
  | glo _ => cases n <;> simp [sh] at hv
  | scr _ => cases n <;> simp [sh] at hv
  | erx _ => cases n <;> simp [sh] at hv
  | err _ _ => cases n <;> simp [sh] at hv
  | any => cases n <;> simp [sh] at hv
  | _ => simp [Wp_ofO, e, isManyW]
def isRestW (v : W) : Bool := match v with
  | .str s => decide (s = "on") || decide (s = "under")
  | _ => false
theorem s_rest {k : Nat} {v : W} {h : AH} {n : Nat} (hk : 1 ≤ k) (hn : n ≤ 20) (hv : sh n v = true) : callK Tb k 2 [v] h = .ok (.bl (isRestW v)) h := by
  refine eq_of_Wp ?_
  rw [callK_ge (f := f2) rfl (by omega)]
  refine fnRun_wp ?_
  have q := in_tup (h := h) (neg := false) (xs := [.str "on", .str "under"]) (sh_dl hn hv) (by simp)
  simp only [f2, d2_is_rest, start0]
  cases v with
  | str s => simp [q, Wp_ofO, isRestW, line]
  | dct _ _ => cases n <;> simp [sh] at hv
  | ref _ => cases n <;> simp [sh] at hv
  | glo _ => cases n <;> simp [sh] at hv
  | scr _ => cases n <;> simp [sh] at hv
  | erx _ => cases n <;> simp [sh] at hv
  | err _ _ => cases n <;> simp [sh] at hv
  | any => cases n <;> simp [sh] at hv
  | _ => simp [Wp_ofO, isRestW]
def isStepW (v : W) : Bool := match v with
  | .tup (.str s :: ps) =>
    if s = "free" ∨ s = "away" ∨ s = "turn" then ps.isEmpty
    else if s = "cut" ∨ s = "look" then match ps with
      | [p] => isManyW p (if s = "look" then 1 else 0)
      | _ => false
    else match ps with
      | [p, q] => if s = "name" ∨ s = "think" then (match p with
          | .int i => isNumW p 1 40 && isNumW q i (if i + 5 < 40 then i + 5 else 40)
          | _ => false)
        else if s = "deal" then isManyW p 0 && isRestW q
        else decide (s = "piles") && (match p with
          | .int i => isNumW p 2 6 && isNumW q 0 (i - 1)
          | _ => false)
      | _ => false
  | _ => false
theorem s_step {k : Nat} {v : W} {h : AH} {n : Nat} (hk : 3 ≤ k) (hn : n ≤ 20) (hv : sh n v = true) : callK Tb k 3 [v] h = .ok (.bl (isStepW v)) h := by
  refine eq_of_Wp ?_
  rw [callK_ge (f := f3) rfl (by omega)]
  refine fnRun_wp ?_
  have q0 := eq_sh (h := h) (sh_dl hn hv) (y := .tup []) (by simp)
  simp only [f3, d3_is_step, start0]
  cases v with
  | tup xs =>
    cases xs with
    | nil => simp [Wp_ofO, q0, isStepW, line]
    | cons x ps =>
      obtain ⟨n, rfl⟩ : ∃ m, n = m + 1 := by cases n with
        | zero => simp [sh] at hv
        | succ m => exact ⟨m, rfl⟩
      rw [shT, List.all_cons, Bool.and_eq_true_iff] at hv
      have hps : ∀ p ∈ ps, sh 19 p = true := fun p hp => sh_le (by omega) (List.all_eq_true.mp hv.2 p hp)
      have hpa : ps.all (sh 19) = true := List.all_eq_true.mpr hps
      cases x with
      | str s =>
        have hs : sh dl (.str s) = true := sh_dl (by omega) hv.1
        simp [Wp_ofO, q0, line, getI, sliceV, in_tup hs, cutW_1, eq_sh, hpa, hs]
        by_cases w1 : s = "free" ∨ s = "away" ∨ s = "turn"
        · have qp := eq_sh (h := h) (x := .tup ps) (y := .tup []) hpa rfl
          simp [w1, isStepW, qp]
        · simp only [w1, if_false]
          by_cases w2 : s = "cut" ∨ s = "look"
          · simp only [w2, if_true]
            cases ps with
            | nil => simp [isStepW, w1, w2]
            | cons p ps =>
              cases ps with
              | nil =>
                have hp := hps p (by simp)
                have e := fun lo => s_many (n := 19) (k := k - 1) (v := p) (lo := lo) (h := h) (by omega) (by omega) hp
                simp [isStepW, w1, w2, Wp_ofO, eq_sh, hs, e]
              | cons q ps =>
                have hz : (((q :: ps).length + 1 : Nat) : Int) ≠ 1 := by simp; omega
                simp [isStepW, w1, w2, Wp_ofO, eq_sh]
                omega
          · simp only [w2, if_false]
            have e := fun p hp lo hi => s_number (n := 19) (k := k - 1) (v := p) (lo := lo) (hi := hi) (h := h) (by omega) (hps p hp)
            have e2 := fun p hp lo => s_many (n := 19) (k := k - 1) (v := p) (lo := lo) (h := h) (by omega) (by omega) (hps p hp)
            have e3 := fun p hp => s_rest (n := 19) (k := k - 1) (v := p) (h := h) (by omega) (by omega) (hps p hp)
            match ps with
            | [] => simp [isStepW, w1, w2, Wp_ofO, ne_sh]
            | [p] => simp [isStepW, w1, w2, Wp_ofO, ne_sh]
            | p :: q :: r :: ps =>
              simp [isStepW, w1, w2, Wp_ofO, ne_sh]
              omega
            | [p, q] =>
              have hp := e p (by simp)
              have hq := e q (by simp)
              have hp2 := e2 p (by simp)
              have hq3 := e3 q (by simp)
              simp [isStepW, w1, w2, Wp_ofO, ne_sh, hp, hq, hp2, hq3, eq_sh, hs]
              by_cases w3 : s = "name" ∨ s = "think"
              · simp [w3]
                cases p with
                | int i =>
                  by_cases w4 : isNumW (.int i) 1 40 = true
                  · simp [w4, hq, gMin2]
                  · simp [w4]
                | _ => simp [isNumW]
              · simp only [w3, if_false]
                by_cases w4 : s = "deal"
                · simp [w4]
                  by_cases w5 : isManyW p 0 = true <;> simp [w5, hq3]
                · simp only [w4, if_false]
                  by_cases w5 : s = "piles"
                  · simp [w5]
                    cases p with
                    | int i =>
                      by_cases w6 : isNumW (.int i) 2 6 = true
                      · simp [w6, hq]
                      · simp [w6]
                    | _ => simp [isNumW]
                  · simp [w5]
      | dct _ _ => cases n <;> simp [sh] at hv
      | ref _ => cases n <;> simp [sh] at hv
      | glo _ => cases n <;> simp [sh] at hv
      | scr _ => cases n <;> simp [sh] at hv
      | erx _ => cases n <;> simp [sh] at hv
      | err _ _ => cases n <;> simp [sh] at hv
      | any => cases n <;> simp [sh] at hv
      | _ => simp [Wp_ofO, q0, isStepW, line, getI]
  | dct _ _ => cases n <;> simp [sh] at hv
  | ref _ => cases n <;> simp [sh] at hv
  | glo _ => cases n <;> simp [sh] at hv
  | scr _ => cases n <;> simp [sh] at hv
  | erx _ => cases n <;> simp [sh] at hv
  | err _ _ => cases n <;> simp [sh] at hv
  | any => cases n <;> simp [sh] at hv
  | _ => simp [Wp_ofO, isStepW]
end Dn
end
section
set_option Elab.async false
set_option linter.all false
set_option maxRecDepth 100000
set_option maxHeartbeats 4000000
namespace Dn
open PySem PySem.Spec PyProof.Rows L2
theorem many_eq {n : Nat} {p : W} {lo : Int} (h : sh n p = true) : (PyData.eqv (toD p) (.str "that") || isNumW p lo 40) = isManyW p lo := by
  cases p with
  | str z => simp [isManyW, isNumW]
  | dct _ _ => cases n <;> simp [sh] at h
  | ref _ => cases n <;> simp [sh] at h
  | glo _ => cases n <;> simp [sh] at h
  | scr _ => cases n <;> simp [sh] at h
  | erx _ => cases n <;> simp [sh] at h
  | err _ _ => cases n <;> simp [sh] at h
  | any => cases n <;> simp [sh] at h
  | _ => simp [isManyW, PyData.eqv]
theorem s_lstep {k : Nat} {v : W} {h : AH} {n : Nat} (hk : 3 ≤ k) (hn : n ≤ 20) (hv : sh n v = true) : callK Tb k 26 [v] h = .ok (.bl (isStepW v)) h := by
  refine eq_of_Wp ?_
  rw [callK_ge (f := f26) rfl (by omega)]
  refine fnRun_wp ?_
  have q0 := eq_sh (h := h) (sh_dl hn hv) (y := .tup []) (by simp)
  simp only [f26, d26_law_is_step, start0]
  cases v with
  | tup xs =>
    cases xs with
    | nil => simp [Wp_ofO, q0, isStepW, line]
    | cons x ps =>
      obtain ⟨n, rfl⟩ : ∃ m, n = m + 1 := by cases n with
        | zero => simp [sh] at hv
        | succ m => exact ⟨m, rfl⟩
      rw [shT, List.all_cons, Bool.and_eq_true_iff] at hv
      have hps : ∀ p ∈ ps, sh 19 p = true := fun p hp => sh_le (by omega) (List.all_eq_true.mp hv.2 p hp)
      have hpa : ps.all (sh 19) = true := List.all_eq_true.mpr hps
      cases x with
      | str s =>
        have hs : sh dl (.str s) = true := sh_dl (by omega) hv.1
        simp [Wp_ofO, q0, line, getI, sliceV, in_lst hs, cutW_1, eq_sh, hpa, hs]
        by_cases w1 : s = "free" ∨ s = "away" ∨ s = "turn"
        · simp [w1, isStepW, eq_sh]
          cases ps with
          | nil => rfl
          | cons p ps => simp; omega
        · simp only [w1, if_false]
          have e := fun p hp lo hi => s_number (n := 19) (k := k - 1) (v := p) (lo := lo) (hi := hi) (h := h) (by omega) (hps p hp)
          by_cases w2 : s = "cut" ∨ s = "look"
          · simp only [w2, if_true]
            cases ps with
            | nil => simp [isStepW, w1, w2, Wp_ofO, eq_sh]
            | cons p ps =>
              cases ps with
              | nil =>
                have hp := e p (by simp)
                have h19 := hps p (by simp)
                have qp := eq_sh (h := h) (x := .tup [p]) (y := .tup [.str "that"]) (by simp [h19]) (by simp)
                simp [isStepW, w1, w2, Wp_ofO, eq_sh, hs, qp, hp]
                rw [← many_eq h19]
                by_cases hz : PyData.eqv (toD p) (.str "that") = true <;> simp [hz]
              | cons q ps =>
                simp [isStepW, w1, w2, Wp_ofO, eq_sh]
                omega
          · simp only [w2, if_false]
            match ps with
            | [] => simp [isStepW, w1, w2, Wp_ofO, ne_sh]
            | [p] => simp [isStepW, w1, w2, Wp_ofO, ne_sh]
            | p :: q :: r :: ps =>
              simp [isStepW, w1, w2, Wp_ofO, ne_sh]
              omega
            | [p, q] =>
              have hp := e p (by simp)
              have hq := e q (by simp)
              have h19 := hps p (by simp)
              have q19 := hps q (by simp)
              have qq := eq_sh (h := h) (x := .tup [p]) (y := .tup [.str "that"]) (by simp [h19]) (by simp)
              have in3 := in_lst (h := h) (neg := true) (x := q) (xs := [.str "on", .str "under"]) (sh_dl (by omega) q19) (by simp)
              have ct : cutW [W.str s, p, q] (some 1) (some 2) = [p] := cutW_mid _ 1 2
              simp [isStepW, w1, w2, Wp_ofO, ne_sh, hp, hq, eq_sh, hs]
              by_cases w3 : s = "name" ∨ s = "think"
              · simp [w3]
                cases p with
                | int i =>
                  by_cases w4 : isNumW (.int i) 1 40 = true
                  · simp [w4, hq, gMin2]
                  · simp [w4]
                | _ => simp [isNumW]
              · simp only [w3, if_false]
                by_cases w4 : s = "deal"
                · subst w4
                  simp
                  cases q with
                  | str z =>
                    simp [in3, Wp_ofO, isRestW]
                    by_cases w5 : z = "on" ∨ z = "under"
                    · rcases w5 with rfl | rfl <;> simp [hp, ct, qq, Wp_ofO, ← many_eq h19] <;> by_cases w6 : isNumW p 0 40 = true <;> simp [w6, ct, qq, Wp_ofO]
                    · have w5' := not_or.mp w5
                      simp [w5'.1, w5'.2]
                  | dct _ _ => simp [sh] at q19
                  | ref _ => simp [sh] at q19
                  | glo _ => simp [sh] at q19
                  | scr _ => simp [sh] at q19
                  | erx _ => simp [sh] at q19
                  | err _ _ => simp [sh] at q19
                  | any => simp [sh] at q19
                  | _ => simp [isRestW]
                · simp only [w4, if_false]
                  by_cases w5 : s = "piles"
                  · simp [w5]
                    cases p with
                    | int i =>
                      by_cases w6 : isNumW (.int i) 2 6 = true
                      · simp [w6, hq]
                      · simp [w6]
                    | _ => simp [isNumW]
                  · simp [w5]
      | dct _ _ => cases n <;> simp [sh] at hv
      | ref _ => cases n <;> simp [sh] at hv
      | glo _ => cases n <;> simp [sh] at hv
      | scr _ => cases n <;> simp [sh] at hv
      | erx _ => cases n <;> simp [sh] at hv
      | err _ _ => cases n <;> simp [sh] at hv
      | any => cases n <;> simp [sh] at hv
      | _ => simp [Wp_ofO, q0, isStepW, line, getI]
  | dct _ _ => cases n <;> simp [sh] at hv
  | ref _ => cases n <;> simp [sh] at hv
  | glo _ => cases n <;> simp [sh] at hv
  | scr _ => cases n <;> simp [sh] at hv
  | erx _ => cases n <;> simp [sh] at hv
  | err _ _ => cases n <;> simp [sh] at hv
  | any => cases n <;> simp [sh] at hv
  | _ => simp [Wp_ofO, isStepW]
end Dn
end
section
set_option Elab.async false
set_option linter.all false
set_option maxRecDepth 100000
set_option maxHeartbeats 4000000
namespace Dn
open PySem PySem.Spec PyProof.Rows L2
def wd : W → Str
  | .tup (.str s :: _) => s
  | _ => ""
def isNT (x : W) : Bool := decide (wd x = "name") || decide (wd x = "think")
def thatB : W → Bool
  | .tup (_ :: p :: _) => PyData.eqv (toD p) (.str "that")
  | _ => false
def wellB (xs : List W) (i : Nat) : Bool := match xs[i]? with
  | some x => !(decide (wd x = "look") && !((xs.take i).all isNT)) && (!thatB x || (xs.take i).any isNT)
  | none => true
def isTrickW : W → Bool
  | .tup xs => decide (xs.length ≤ 8) && xs.all isStepW && (decide (xs.countP (fun x => decide (wd x = "free")) ≤ 2) && decide (xs.countP isNT ≤ 2) && decide (xs.countP (fun x => decide (wd x = "look")) ≤ 1)) && (List.range xs.length).all (wellB xs)
  | _ => false
theorem step_shape {x : W} (h : isStepW x = true) : ∃ s ps, x = .tup (.str s :: ps) ∧ wd x = s := by
  cases x with
  | tup xs =>
    cases xs with
    | nil => simp [isStepW] at h
    | cons y ps => cases y with
      | str s => exact ⟨s, ps, rfl, rfl⟩
      | _ => simp [isStepW] at h
  | _ => simp [isStepW] at h
theorem wd_get {x : W} {h : AH} (hx : isStepW x = true) : idxW x (.int 0) h = some (.str (wd x)) := by
  obtain ⟨s, ps, rfl, e⟩ := step_shape hx
  simp [getI, e]
theorem thatB_cut {x : W} {h : AH} (hx : isStepW x = true) (hs : sh dl x = true) : ∃ ys, sliceV false x (some 1) (some 2) h = .ok (.tup ys) h ∧ inW true (.str "that") (.tup ys) h = some (.bl (!thatB x)) := by
  obtain ⟨s, ps, rfl, e⟩ := step_shape hx
  refine ⟨(cutW (.str s :: ps) (some 1) (some 2)), rfl, ?_⟩
  have hh : ∀ p ∈ ps, sh 19 p = true := by
    rw [shT19, List.all_cons, Bool.and_eq_true_iff] at hs
    exact fun p hp => List.all_eq_true.mp hs.2 p hp
  have ct : cutW (.str s :: ps) (some 1) (some 2) = ps.take 1 := by
    have := cutW_mid (W.str s :: ps) 1 2
    simpa using this
  rw [ct]
  cases ps with
  | nil =>
    rw [in_tup (by simp) (by simp)]
    rfl
  | cons p ps =>
    have hp := hh p (by simp)
    rw [in_tup (by simp) (by simp [sh_dl (by decide) hp])]
    simp [thatB]
/-- the words ahead -/
def wds (xs : List W) : List W := xs.map fun x => .str (wd x)
theorem wds_sh (xs : List W) (h : xs.all isStepW = true) (hs : xs.all (sh 19) = true) : (wds xs).all (sh dl) = true := by
  refine List.all_eq_true.mpr fun w hw => ?_
  obtain ⟨x, hx, rfl⟩ := List.mem_map.mp hw
  obtain ⟨s, ps, rfl, e⟩ := step_shape (List.all_eq_true.mp h x hx)
  have := List.all_eq_true.mp hs _ hx
  rw [e]
  rw [shT, List.all_cons, Bool.and_eq_true_iff] at this
  exact sh_dl (by decide) this.1
theorem anyEq_wds (z : Str) : ∀ xs : List W, anyEq (.str z) (wds xs) = xs.any fun x => decide (wd x = z)
  | [] => rfl
  | x :: xs => by
    show anyEq (.str z) (.str (wd x) :: wds xs) = _
    rw [anyEq_str, anyEq_wds z xs, List.any_cons]
    congr 1
    exact decide_eq_decide.mpr eq_comm
theorem count_wds (z : Str) : ∀ xs : List W, ((wds xs).countP fun w => PyData.eqv (toD w) (.str z)) = xs.countP fun x => decide (wd x = z)
  | [] => rfl
  | x :: xs => by
    show ((W.str (wd x) :: wds xs).countP _) = _
    rw [List.countP_cons, List.countP_cons, count_wds z xs]
    simp
theorem blsOf_map {α : Type} (f : α → Bool) : ∀ xs : List α, blsOf (xs.map fun x => W.bl (f x)) = some (xs.map f)
  | [] => rfl
  | x :: xs => by simp [blsOf, blsOf_map f xs]
theorem all_map {α : Type} (f : α → Bool) (xs : List α) (h : AH) : gAll [.lst (xs.map fun x => W.bl (f x))] h = some (.bl (xs.all f)) := by
  simp [gAll, lstOf, blsOf_map, List.all_map]
theorem any_map {α : Type} (f : α → Bool) (xs : List α) (h : AH) : gAny [.lst (xs.map fun x => W.bl (f x))] h = some (.bl (xs.any f)) := by
  simp [gAny, lstOf, blsOf_map, List.any_map]
theorem mCount_wds {xs : List W} {z : Str} {h : AH} (h1 : xs.all isStepW = true) (hs : xs.all (sh 19) = true) (hz : sh dl (.str z) = true) : mCount (.lst (wds xs)) [.str z] h = some (.int (xs.countP fun x => decide (wd x = z)), h) := by
  unfold mCount
  simp only [lstOf, res_lst]
  rw [if_pos ⟨hz, wds_sh xs h1 hs⟩]
  simp only [toD_str, count_wds]
theorem wd_sh {x : W} (hx : isStepW x = true) (hs : sh 19 x = true) : sh dl (.str (wd x)) = true := by
  obtain ⟨s, ps, rfl, e'⟩ := step_shape hx
  rw [e']
  rw [shT, List.all_cons, Bool.and_eq_true_iff] at hs
  exact sh_dl (by decide) hs.1
theorem s_well {k : Nat} {xs : List W} {i : Nat} {h : AH} (hk : 1 ≤ k) (hl : xs.length ≤ 100) (h1 : xs.all isStepW = true) (hs : xs.all (sh 19) = true) (hi : i < xs.length) : callK Tb k 4 [.tup xs, .int i] h = .ok (.bl (wellB xs i)) h := by
  refine eq_of_Wp ?_
  rw [callK_ge (f := f4) rfl (by omega)]
  refine fnRun_wp ?_
  have hx := List.all_eq_true.mp h1 xs[i] (List.getElem_mem hi)
  have hxs := List.all_eq_true.mp hs xs[i] (List.getElem_mem hi)
  have t1 : (xs.take i).all isStepW = true := List.all_eq_true.mpr fun x hm => List.all_eq_true.mp h1 x (List.mem_of_mem_take hm)
  have t2 : (xs.take i).all (sh 19) = true := List.all_eq_true.mpr fun x hm => List.all_eq_true.mp hs x (List.mem_of_mem_take hm)
  have tl : (xs.take i).length ≤ line := by simp [line]; omega
  have hc : cutW xs none (some (i : Int)) = xs.take i := cutW_to xs i
  have hw : wellB xs i = (!(decide (wd xs[i] = "look") && !((xs.take i).all isNT)) && (!thatB xs[i] || (xs.take i).any isNT)) := by simp [wellB, hi]
  rw [hw]
  generalize xs.take i = ys at t1 t2 tl hc ⊢
  have e1 : ∀ env : Env, 5 ≤ env.length → lcL (.one 4) yesT (dBin idxW (dVar 4) (dC (.int 0))) chkT env ys [] h = .ok (wds ys) h := fun env he => by
    refine lc_map rfl (fun x => .str (wd x)) tl fun x hm => ⟨_, rfl, ?_⟩
    have := wd_get (h := h) (List.all_eq_true.mp t1 x hm)
    simp [show 4 < env.length by omega, this]
  have e2 : ∀ env : Env, 6 ≤ env.length → lcL (.one 5) yesT (dBin (inW false) (dVar 5) (dTup (dCons (dC (.str "name")) (dCons (dC (.str "think")) dNil)))) chkT env (wds ys) [] h = .ok (ys.map fun x => .bl (isNT x)) h := fun env he => by
    have := lc_map (t := .one 5) (e := dBin (inW false) (dVar 5) (dTup (dCons (dC (.str "name")) (dCons (dC (.str "think")) dNil)))) (chk := chkT) (env := env) (h := h) rfl (fun w => .bl (anyEq w [.str "name", .str "think"])) (xs := wds ys) (by simpa [wds] using tl) fun w hm => ⟨_, rfl, ?_⟩
    · rw [this]
      congr 1
      rw [wds, List.map_map]
      refine List.map_congr_left fun x _ => ?_
      simp [isNT, eq_comm]
    · have hw := List.all_eq_true.mp (wds_sh _ t1 t2) w hm
      simp [show 5 < env.length by omega, line, in_tup hw]
  have n1 := in_lst (h := h) (neg := false) (x := .str "name") (xs := wds ys) (by simp) (wds_sh _ t1 t2)
  have n2 := in_lst (h := h) (neg := false) (x := .str "think") (xs := wds ys) (by simp) (wds_sh _ t1 t2)
  have q1 := eq_sh (h := h) (x := .str (wd xs[i])) (y := .str "look") (wd_sh hx hxs) (by simp)
  obtain ⟨zs, c1, c2⟩ := thatB_cut (h := h) hx (sh_up 19 _ hxs)
  rw [anyEq_wds] at n1 n2
  have an : ys.any isNT = ((ys.any fun x => decide (wd x = "name")) || ys.any fun x => decide (wd x = "think")) := by
    clear n1 n2 e1 e2 hc t1 t2 tl
    induction ys with
    | nil => rfl
    | cons y ys ih =>
      rw [List.any_cons, List.any_cons, List.any_cons, ih]
      unfold isNT
      cases decide (wd y = "name") <;> cases decide (wd y = "think") <;> simp
  rw [an]
  have e3 := all_map isNT ys h
  generalize ys.all isNT = A at e3 ⊢
  generalize (ys.any fun x => decide (wd x = "name")) = B at n1 ⊢
  generalize (ys.any fun x => decide (wd x = "think")) = D at n2 ⊢
  generalize thatB xs[i] = F at c2 ⊢
  simp only [f4, d4_stands_well, start0]
  simp [Wp_ofO, getI, hi, hc, subL, Tgt.slots, e1, e2, wipeE, wd_get hx, q1, e3, c1, c2, n1, n2]
  by_cases hl : wd xs[i] = "look" <;> cases A <;> cases B <;> cases D <;> cases F <;> simp [hl]
/-- words.count -/
theorem nt_count : ∀ xs : List W, (xs.countP fun x => decide (wd x = "name")) + (xs.countP fun x => decide (wd x = "think")) = xs.countP isNT
  | [] => rfl
  | x :: xs => by
    rw [List.countP_cons, List.countP_cons, List.countP_cons, ← nt_count xs]
    unfold isNT
    by_cases h1 : wd x = "name"
    · simp [h1]; omega
    · by_cases h2 : wd x = "think" <;> simp [h1, h2] <;> omega
theorem s_trick {k : Nat} {v : W} {h : AH} {n : Nat} (hk : 4 ≤ k) (hn : n ≤ 20) (hv : sh n v = true) (hsz : ∀ xs, v = .tup xs → xs.length ≤ 1000) : callK Tb k 5 [v] h = .ok (.bl (isTrickW v)) h := by
  refine eq_of_Wp ?_
  rw [callK_ge (f := f5) rfl (by omega)]
  refine fnRun_wp ?_
  simp only [f5, d5_is_trick, start0]
  cases v with
  | tup xs =>
    have hl := hsz xs rfl
    obtain ⟨n, rfl⟩ : ∃ m, n = m + 1 := by cases n with
      | zero => simp [sh] at hv
      | succ m => exact ⟨m, rfl⟩
    rw [shT] at hv
    have hxs : xs.all (sh 19) = true := List.all_eq_true.mpr fun p hp => sh_le (by omega) (List.all_eq_true.mp hv p hp)
    have tl : xs.length ≤ line := by simp [line]; omega
    have e1 : ∀ env : Env, 2 ≤ env.length → lcL (.one 1) yesT (dOwn (callK Tb (k - 1)) 3 1 (dCons (dVar 1) dNil)) chkT env xs [] h = .ok (xs.map fun x => .bl (isStepW x)) h := fun env he => by
      refine lc_map rfl (fun x => .bl (isStepW x)) tl fun x hm => ⟨_, rfl, ?_⟩
      have := s_step (k := k - 1) (h := h) (n := 19) (by omega) (by omega) (List.all_eq_true.mp hxs x hm)
      simp [show 1 < env.length by omega, this]
    have e3 := all_map isStepW xs h
    by_cases h8 : xs.length ≤ 8
    · by_cases hst : xs.all isStepW = true
      · have e2 : ∀ env : Env, 2 ≤ env.length → lcL (.one 1) yesT (dBin idxW (dVar 1) (dC (.int 0))) chkT env xs [] h = .ok (wds xs) h := fun env he => by
          refine lc_map rfl (fun x => .str (wd x)) tl fun x hm => ⟨_, rfl, ?_⟩
          have := wd_get (h := h) (List.all_eq_true.mp hst x hm)
          simp [show 1 < env.length by omega, this]
        have m1 := mCount_wds (h := h) (z := "free") hst hxs (by simp)
        have m2 := mCount_wds (h := h) (z := "name") hst hxs (by simp)
        have m3 := mCount_wds (h := h) (z := "think") hst hxs (by simp)
        have m4 := mCount_wds (h := h) (z := "look") hst hxs (by simp)
        have e4 : ∀ env : Env, 4 ≤ env.length → env[0]? = some (some (.tup xs)) → lcL (.one 3) yesT (dOwn (callK Tb (k - 1)) 4 2 (dCons (dVar 0) (dCons (dVar 3) dNil))) chkT env (rgW 0 (xs.length : Int)) [] h = .ok ((List.range xs.length).map fun i => .bl (wellB xs i)) h := fun env he h0 => by
          have := lc_map (t := .one 3) (e := dOwn (callK Tb (k - 1)) 4 2 (dCons (dVar 0) (dCons (dVar 3) dNil))) (chk := chkT) (env := env) (h := h) rfl (fun w => match w with
            | .int i => .bl (wellB xs i.toNat)
            | w => w) (xs := rgW 0 (xs.length : Int)) (by simpa [line] using tl) fun x hm => ⟨_, rfl, ?_⟩
          · rw [this, rgW_nat, List.map_map]
            congr 1
          · rw [rgW_nat] at hm
            obtain ⟨i, hi, rfl⟩ := List.mem_map.mp hm
            have hi' : i < xs.length := by simpa using hi
            have := s_well (k := k - 1) (h := h) (by omega) (by omega) hst hxs hi'
            simp [show 3 < env.length by omega, h0, this]
        have e5 := all_map (wellB xs) (List.range xs.length) h
        have rg := rgOk_of (i := 0) (j := (xs.length : Int)) (by omega) (by omega) (by omega) (by omega)
        rw [show isTrickW (.tup xs) = (decide (xs.countP (fun x => decide (wd x = "free")) ≤ 2) && decide (xs.countP isNT ≤ 2) && decide (xs.countP (fun x => decide (wd x = "look")) ≤ 1) && (List.range xs.length).all (wellB xs)) by
          have ht : isTrickW (.tup xs) = (decide (xs.length ≤ 8) && xs.all isStepW && (decide (xs.countP (fun x => decide (wd x = "free")) ≤ 2) && decide (xs.countP isNT ≤ 2) && decide (xs.countP (fun x => decide (wd x = "look")) ≤ 1)) && (List.range xs.length).all (wellB xs)) := rfl
          rw [ht, hst, decide_eq_true h8]
          simp only [Bool.true_and]]
        have nt := nt_count xs
        generalize (List.range xs.length).all (wellB xs) = A at e5 ⊢
        generalize xs.countP (fun x => decide (wd x = "free")) = B at m1 ⊢
        generalize xs.countP (fun x => decide (wd x = "look")) = D at m4 ⊢
        generalize xs.countP (fun x => decide (wd x = "name")) = F at m2 nt
        generalize xs.countP (fun x => decide (wd x = "think")) = J at m3 nt
        generalize xs.countP isNT = L at nt ⊢
        rw [hst] at e3
        simp [Wp_ofO, subL, Tgt.slots, e1, e2, wipeE, e3, h8, m1, m2, m3, m4, rgSrc_ok rg, tyW]
        have f4 := e4 [some (.tup xs), none, some (.lst (wds xs)), none] (by simp) rfl
        rw [if_neg (show ¬ (8 : Int) < xs.length by omega)]
        by_cases hB : B ≤ 2
        · rw [if_neg (show ¬ (2 : Int) < B by omega)]
          by_cases hL : L ≤ 2
          · rw [if_neg (show ¬ (2 : Int) < F + J by omega)]
            by_cases hD : D ≤ 1
            · rw [if_neg (show ¬ (1 : Int) < D by omega), f4]
              simp [e5, hB, hL, hD]
            · rw [if_pos (show (1 : Int) < D by omega)]
              exact fun _ _ z => absurd z hD
          · rw [if_pos (show (2 : Int) < F + J by omega)]
            exact fun _ z => absurd z hL
        · rw [if_pos (show (2 : Int) < B by omega)]
          exact fun z => absurd z hB
      · have hst' : xs.all isStepW = false := by simpa using hst
        rw [hst'] at e3
        simp [Wp_ofO, subL, Tgt.slots, e1, wipeE, e3, h8, isTrickW, hst']
    · have h8' : 8 < xs.length := by omega
      simp [Wp_ofO, h8', h8, isTrickW, show ¬ ((xs.length : Int) ≤ 8) by omega]
  | dct _ _ => cases n <;> simp [sh] at hv
  | ref _ => cases n <;> simp [sh] at hv
  | glo _ => cases n <;> simp [sh] at hv
  | scr _ => cases n <;> simp [sh] at hv
  | erx _ => cases n <;> simp [sh] at hv
  | err _ _ => cases n <;> simp [sh] at hv
  | any => cases n <;> simp [sh] at hv
  | _ => simp [Wp_ofO, isTrickW]
end Dn
end
section
set_option Elab.async false
set_option linter.all false
set_option maxRecDepth 100000
set_option maxHeartbeats 4000000
namespace Dn
open PySem PySem.Spec PyProof.Rows L2
/-- "that" among all parts of a step -/
theorem that_in {x : W} {h : AH} (hx : isStepW x = true) (hs : sh 19 x = true) : inW false (.str "that") x h = some (.bl (thatB x)) := by
  obtain ⟨s, ps, rfl, e⟩ := step_shape hx
  have hs' := hs
  rw [shT, List.all_cons, Bool.and_eq_true_iff] at hs
  have hh : ∀ p ∈ ps, sh 18 p = true := fun p hp => List.all_eq_true.mp hs.2 p hp
  rw [in_tup (by simp) (by
    rw [List.all_cons, Bool.and_eq_true_iff]
    exact ⟨sh_dl (by decide) hs.1, List.all_eq_true.mpr fun p hp => sh_dl (by decide) (hh p hp)⟩)]
  rw [anyEq_str]
  have hne : ("that" : Str) ≠ s := by
    rintro rfl
    simp [isStepW] at hx
    match ps, hx with
    | [], h => simp at h
    | [p], h => simp at h
    | [p, q], h => simp at h
    | _ :: _ :: _ :: _, h => simp at h
  rw [decide_eq_false hne]
  match ps, hx, hh with
  | [], _, _ => simp [thatB]
  | [p], _, _ => simp [thatB]
  | [p, q], hx, hh =>
    have q18 := hh q (by simp)
    have : PyData.eqv (toD q) (.str "that") = false := by
      simp only [isStepW] at hx
      have key : (isRestW q = true) ∨ (∃ lo hi, isNumW q lo hi = true) := by
        split at hx
        · simp at hx
        · split at hx
          · simp at hx
          · split at hx
            · split at hx
              · rw [Bool.and_eq_true_iff] at hx; exact .inr ⟨_, _, hx.2⟩
              · cases hx
            · split at hx
              · rw [Bool.and_eq_true_iff] at hx; exact .inl hx.2
              · rw [Bool.and_eq_true_iff] at hx
                have hx := hx.2
                split at hx
                · rw [Bool.and_eq_true_iff] at hx; exact .inr ⟨_, _, hx.2⟩
                · cases hx
      rcases key with k | ⟨lo, hi, k⟩
      · cases q with
        | str z =>
          simp [isRestW] at k
          rcases k with rfl | rfl <;> simp
        | _ => simp [isRestW] at k
      · cases q with
        | int i => simp [PyData.eqv]
        | _ => simp [isNumW] at k
    simp [thatB, this]
  | p :: q :: r :: ps, hx, _ =>
    exfalso
    simp [isStepW] at hx
theorem filter_all (p : W → Bool) : ∀ ys : List W, (ys.filter fun x => !p x).isEmpty = ys.all p
  | [] => rfl
  | y :: ys => by
    rw [List.filter_cons, List.all_cons]
    cases p y <;> simp [filter_all p ys]
theorem s_ltrick {k : Nat} {v : W} {h : AH} {n : Nat} (hk : 4 ≤ k) (hn : n ≤ 20) (hv : sh n v = true) (hsz : ∀ xs, v = .tup xs → xs.length ≤ 1000) : callK Tb k 27 [v] h = .ok (.bl (isTrickW v)) h := by
  refine eq_of_Wp ?_
  rw [callK_ge (f := f27) rfl (by omega)]
  refine fnRun_wp ?_
  simp only [f27, d27_law_is_trick, start0]
  cases v with
  | tup xs =>
    have hl := hsz xs rfl
    obtain ⟨n, rfl⟩ : ∃ m, n = m + 1 := by cases n with
      | zero => simp [sh] at hv
      | succ m => exact ⟨m, rfl⟩
    rw [shT] at hv
    have hxs : xs.all (sh 19) = true := List.all_eq_true.mpr fun p hp => sh_le (by omega) (List.all_eq_true.mp hv p hp)
    have tl : xs.length ≤ line := Nat.le_trans hl (by decide)
    by_cases h8 : xs.length ≤ 8
    · have e1 : ∀ env : Env, 2 ≤ env.length → lcL (.one 1) (tNot' (Dn.tVal (dOwn (callK Tb (k - 1)) 26 1 (dCons (dVar 1) dNil)))) (dVar 1) chkT env xs [] h = .ok (xs.filter fun x => !isStepW x) h := fun env he => by
        have := lc_filter (t := .one 1) (c := tNot' (Dn.tVal (dOwn (callK Tb (k - 1)) 26 1 (dCons (dVar 1) dNil)))) (e := dVar 1) (chk := chkT) (env := env) (h := h) rfl (fun x => !isStepW x) (fun x => x) tl fun x hm => ⟨_, rfl, ?_, fun _ => ?_⟩
        · rw [this, List.map_id']
        · have := s_lstep (k := k - 1) (h := h) (n := 19) (by omega) (by omega) (List.all_eq_true.mp hxs x hm)
          simp [show 1 < env.length by omega, this]
        · simp [show 1 < env.length by omega]
      have fsh : (xs.filter fun x => !isStepW x).all (sh 19) = true := List.all_eq_true.mpr fun x hx => List.all_eq_true.mp hxs x (List.mem_filter.mp hx).1
      have q1 := ne_sh (h := h) (x := .lst (xs.filter fun x => !isStepW x)) (y := .lst []) fsh rfl
      by_cases hst : xs.all isStepW = true
      · have f0 : (xs.filter fun x => !isStepW x) = [] := by
          rw [List.filter_eq_nil_iff]
          intro x hx
          simp [List.all_eq_true.mp hst x hx]
        rw [f0] at q1 e1
        have rg := rgOk_of (i := 0) (j := (xs.length : Int)) (by omega) (by omega) (by omega) (by omega)
        simp [Wp_ofO, subL, Tgt.slots, e1, wipeE, h8, rgSrc_ok rg, q1, line]
        rw [if_neg (show ¬ (8 : Int) < xs.length by omega)]
        refine for_all (fun j env h' => h' = h ∧ ∃ y z w, env = [some (.tup xs), none, some (.int ((xs.take j).countP isNT : Nat)), some (.int ((xs.take j).countP (fun x => decide (wd x = "free")) : Nat)), some (.int ((xs.take j).countP (fun x => decide (wd x = "look")) : Nat)), y, z, w] ∧ ∀ i < j, wellB xs i = true) ⟨rfl, none, none, none, by simp, fun i hi => by omega⟩ ?_ ?_
        · rintro j env h' x ⟨rfl, y, z, w, rfl, hw⟩ hx
          obtain ⟨rfl, hj⟩ := rgW_get hx
          have hj' : j < xs.length := by omega
          refine ⟨_, rfl, ?_⟩
          have t1 : (xs.take j).all isStepW = true := List.all_eq_true.mpr fun x hm => List.all_eq_true.mp hst x (List.mem_of_mem_take hm)
          have t2 : (xs.take j).all (sh 19) = true := List.all_eq_true.mpr fun x hm => List.all_eq_true.mp hxs x (List.mem_of_mem_take hm)
          have xst := List.all_eq_true.mp hst xs[j] (List.getElem_mem hj')
          have x19 := List.all_eq_true.mp hxs xs[j] (List.getElem_mem hj')
          have hc : cutW xs none (some (j : Int)) = xs.take j := cutW_to xs j
          have tl2 : (xs.take j).length ≤ line := by rw [List.length_take]; omega
          have hw1 : wellB xs j = (!(decide (wd xs[j] = "look") && !((xs.take j).all isNT)) && (!thatB xs[j] || (xs.take j).any isNT)) := by simp [wellB, hj']
          have ht : xs.take (j + 1) = xs.take j ++ [xs[j]] := by rw [List.take_succ, List.getElem?_eq_getElem hj']; rfl
          have hbad : wellB xs j = false → isTrickW (.tup xs) = false := fun z => by
            have : (List.range xs.length).all (wellB xs) = false := by
              cases q : (List.range xs.length).all (wellB xs) with
              | false => rfl
              | true =>
                have := List.all_eq_true.mp q j (by simpa using hj')
                rw [z] at this
                cases this
            simp only [isTrickW, this, Bool.and_false]
          have c0 : ∀ p : W → Bool, (xs.take (j + 1)).countP p = (xs.take j).countP p + (if p xs[j] = true then 1 else 0) := fun p => by
            rw [ht, List.countP_append, List.countP_singleton]
          have c1 := c0 isNT
          have c2 := c0 fun x => decide (wd x = "free")
          have c3 := c0 fun x => decide (wd x = "look")
          have any0 : (xs.take j).any isNT = !decide ((xs.take j).countP isNT = 0) := by
            cases q : (xs.take j).any isNT with
            | false =>
              have : (xs.take j).countP isNT = 0 := by
                rw [List.countP_eq_zero]
                intro a ha
                have := List.any_eq_false.mp q a ha
                simpa using this
              simp [this]
            | true =>
              obtain ⟨a, ha, hb⟩ := List.any_eq_true.mp q
              have : (xs.take j).countP isNT ≠ 0 := fun z => by
                have := List.countP_eq_zero.mp z a ha
                exact this hb
              simp [this]
          rw [any0] at hw1
          have hw2 : ∀ i < j + 1, wellB xs j = true → wellB xs i = true := fun i hi z => by
            by_cases e : i = j
            · rw [e]; exact z
            · exact hw i (by omega)
          clear hw
          generalize (xs.take j).countP isNT = A at *
          generalize (xs.take j).countP (fun x => decide (wd x = "free")) = B at *
          generalize (xs.take j).countP (fun x => decide (wd x = "look")) = D at *
          generalize xs.take j = ys at *
          have e2 : ∀ env : Env, 2 ≤ env.length → lcL (.one 1) (Dn.tVal (dBin (inW true) (dBin idxW (dVar 1) (dC (.int 0))) (dLst false (dCons (dC (.str "name")) (dCons (dC (.str "think")) dNil))))) (dVar 1) chkT env ys [] h' = .ok (ys.filter fun x => !isNT x) h' := fun env he => by
            have := lc_filter (t := .one 1) (c := Dn.tVal (dBin (inW true) (dBin idxW (dVar 1) (dC (.int 0))) (dLst false (dCons (dC (.str "name")) (dCons (dC (.str "think")) dNil))))) (e := dVar 1) (chk := chkT) (env := env) (h := h') rfl (fun x => !isNT x) (fun x => x) tl2 fun x hm => ⟨_, rfl, ?_, fun _ => ?_⟩
            · rw [this, List.map_id']
            · have w1 := wd_get (h := h') (List.all_eq_true.mp t1 x hm)
              have w2 := in_lst (h := h') (neg := true) (x := .str (wd x)) (xs := [.str "name", .str "think"]) (wd_sh (List.all_eq_true.mp t1 x hm) (List.all_eq_true.mp t2 x hm)) (by simp)
              simp [show 1 < env.length by omega, w1, line, w2, isNT]
            · simp [show 1 < env.length by omega]
          have fsh2 : (ys.filter fun x => !isNT x).all (sh 19) = true := List.all_eq_true.mpr fun x hx => List.all_eq_true.mp t2 x (List.mem_filter.mp hx).1
          have q3 := ne_sh (h := h') (x := .lst (ys.filter fun x => !isNT x)) (y := .lst []) fsh2 rfl
          have q5 : (ys.filter fun x => !isNT x).isEmpty = ys.all isNT := by
            exact filter_all isNT ys
          simp only [toD_lst, toDs_nil, eqv_lst, eqvAll_e, q5] at q3
          have hwd := wd_sh xst x19
          have q4 := eq_sh (h := h') (x := .str (wd xs[j])) (y := .str "look") hwd (by simp)
          have q6 := eq_sh (h := h') (x := .str (wd xs[j])) (y := .str "free") hwd (by simp)
          have q7 := in_lst (h := h') (neg := false) (x := .str (wd xs[j])) (xs := [.str "name", .str "think"]) hwd (by simp)
          have q8 := that_in (h := h') xst x19
          have q9 := wd_get (h := h') xst
          have q10 := eq_sh (h := h') (x := .int (A : Nat)) (y := .int 0) (by simp) (by simp)
          generalize ys.all isNT = F at *
          generalize (ys.filter fun x => !isNT x) = zs at *
          have gI : getI xs (j : Int) = some xs[j] := by simp [getI, hj']
          simp [Wp_ofO, gI, hc, subL, Tgt.slots, wipeE, e2, q3, q4, q6, q7, q8, q9, q10, line]
          have good : wellB xs j = true → ((((A : Int) + if wd xs[j] = "name" ∨ wd xs[j] = "think" then 1 else 0) = ((xs.take (j + 1)).countP isNT : Nat) ∧ ((B : Int) + if wd xs[j] = "free" then 1 else 0) = ((xs.take (j + 1)).countP (fun x => decide (wd x = "free")) : Nat) ∧
              ((D : Int) + if wd xs[j] = "look" then 1 else 0) = ((xs.take (j + 1)).countP (fun x => decide (wd x = "look")) : Nat)) ∧ ∀ i : Nat, i < j + 1 → wellB xs i = true) := fun z => by
            refine ⟨⟨?_, ?_, ?_⟩, fun i hi => hw2 i hi z⟩
            · rw [c1]
              by_cases e : wd xs[j] = "name" ∨ wd xs[j] = "think"
              · have : isNT xs[j] = true := by simpa [isNT] using e
                rw [if_pos e, if_pos this]; simp
              · have : ¬ isNT xs[j] = true := by simpa [isNT] using e
                rw [if_neg e, if_neg this]; simp
            · rw [c2]
              by_cases e : wd xs[j] = "free" <;> simp [e]
            · rw [c3]
              by_cases e : wd xs[j] = "look" <;> simp [e]
          by_cases el : wd xs[j] = "look"
          · rw [if_pos el]
            cases F with
            | false =>
              rw [if_neg Bool.false_ne_true]
              exact hbad (by rw [hw1]; simp [el])
            | true =>
              rw [if_pos rfl]
              cases eT : thatB xs[j] with
              | false =>
                rw [if_neg Bool.false_ne_true]
                exact good (by rw [hw1]; simp [eT])
              | true =>
                rw [if_pos rfl]
                by_cases eA : A = 0
                · rw [if_pos eA]
                  exact hbad (by rw [hw1]; simp [eT, eA])
                · rw [if_neg eA]
                  exact good (by rw [hw1]; simp [eT, eA])
          · rw [if_neg el]
            cases eT : thatB xs[j] with
            | false =>
              rw [if_neg Bool.false_ne_true]
              exact good (by rw [hw1]; simp [eT, el])
            | true =>
              rw [if_pos rfl]
              by_cases eA : A = 0
              · rw [if_pos eA]
                exact hbad (by rw [hw1]; simp [eT, eA])
              · rw [if_neg eA]
                exact good (by rw [hw1]; simp [eT, eA, el])
        · rintro env h' ⟨rfl, y, z, w, rfl, hw⟩
          have e : (rgW 0 (xs.length : Int)).length = xs.length := by rw [rgW_len]; omega
          rw [e] at hw ⊢
          have hall : (List.range xs.length).all (wellB xs) = true := List.all_eq_true.mpr fun i hi => hw i (by simpa using hi)
          simp only [List.take_length]
          have ht : isTrickW (.tup xs) = (decide (xs.length ≤ 8) && xs.all isStepW && (decide (xs.countP (fun x => decide (wd x = "free")) ≤ 2) && decide (xs.countP isNT ≤ 2) && decide (xs.countP (fun x => decide (wd x = "look")) ≤ 1)) && (List.range xs.length).all (wellB xs)) := rfl
          rw [ht, hall, hst, decide_eq_true h8]
          generalize xs.countP isNT = A
          generalize xs.countP (fun x => decide (wd x = "free")) = B
          generalize xs.countP (fun x => decide (wd x = "look")) = D
          simp [Wp_ofO]
          by_cases hA : A ≤ 2
          · by_cases hB : B ≤ 2
            · by_cases hD : D ≤ 1
              · simp [hA, hB, hD, show (A : Int) < 3 by omega, show (B : Int) < 3 by omega, show (D : Int) < 2 by omega]
              · simp [hA, hB, hD, show (A : Int) < 3 by omega, show (B : Int) < 3 by omega, show ¬ (D : Int) < 2 by omega]
            · simp [hA, hB, show (A : Int) < 3 by omega, show ¬ (B : Int) < 3 by omega]
          · simp [hA, show ¬ (A : Int) < 3 by omega]
      · have f1 : (xs.filter fun x => !isStepW x) ≠ [] := fun z => hst (List.all_eq_true.mpr fun x hx => by
          have := List.filter_eq_nil_iff.mp z x hx
          simpa using this)
        have hst' : xs.all isStepW = false := by simpa using hst
        have q2 : (xs.filter fun x => !isStepW x).isEmpty = false := by simpa using f1
        simp only [toD_lst, toDs_nil, eqv_lst, eqvAll_e, q2] at q1
        simp [Wp_ofO, subL, Tgt.slots, e1, wipeE, h8, q1, isTrickW, hst', line]
    · have h8' : 8 < xs.length := by omega
      simp [Wp_ofO, h8', h8, isTrickW, show ¬ ((xs.length : Int) ≤ 8) by omega]
  | dct _ _ => cases n <;> simp [sh] at hv
  | ref _ => cases n <;> simp [sh] at hv
  | glo _ => cases n <;> simp [sh] at hv
  | scr _ => cases n <;> simp [sh] at hv
  | erx _ => cases n <;> simp [sh] at hv
  | err _ _ => cases n <;> simp [sh] at hv
  | any => cases n <;> simp [sh] at hv
  | _ => simp [Wp_ofO, isTrickW]
end Dn
end
section
set_option Elab.async false
set_option linter.all false
set_option maxRecDepth 100000
set_option maxHeartbeats 4000000
namespace Dn
open PySem PySem.Spec PyProof.Rows L2
def lookB (xs : List W) : Bool := xs.any fun x => decide (wd x = "look")
def isAsk (x : W) : Bool := decide (wd x = "free") || (decide (wd x = "name") || decide (wd x = "think"))
def isHid (x : W) : Bool := decide (wd x = "free") || decide (wd x = "think")
/-- a list of steps as the functions want it -/
structure Steps (xs : List W) : Prop where
  st : xs.all isStepW = true
  sh : xs.all (sh 19) = true
  len : xs.length ≤ 100
theorem Steps.lt {xs : List W} (h : Steps xs) : xs.length ≤ line := Nat.le_trans h.len (by decide)
theorem s_look {k : Nat} {xs : List W} {h : AH} (hk : 1 ≤ k) (H : Steps xs) : callK Tb k 8 [.tup xs] h = .ok (.bl (lookB xs)) h := by
  refine eq_of_Wp ?_
  rw [callK_ge (f := f8) rfl (by omega)]
  refine fnRun_wp ?_
  have e1 : ∀ env : Env, 2 ≤ env.length → lcL (.one 1) yesT (dBin idxW (dVar 1) (dC (.int 0))) chkT env xs [] h = .ok (wds xs) h := fun env he => by
    refine lc_map rfl (fun x => .str (wd x)) H.lt fun x hm => ⟨_, rfl, ?_⟩
    have := wd_get (h := h) (List.all_eq_true.mp H.st x hm)
    simp [show 1 < env.length by omega, this]
  have n1 := in_lst (h := h) (neg := false) (x := .str "look") (xs := wds xs) (by simp) (wds_sh _ H.st H.sh)
  rw [anyEq_wds] at n1
  unfold lookB
  generalize (xs.any fun x => decide (wd x = "look")) = B at n1 ⊢
  simp only [f8, d8_has_look, start0]
  simp [Wp_ofO, subL, Tgt.slots, e1, wipeE, n1]
theorem ask_cond {x : W} {h : AH} {neg : Bool} (hx : isStepW x = true) (hs : sh 19 x = true) : inW neg (.str (wd x)) (.tup [.str "free", .str "name", .str "think"]) h = some (.bl (neg != isAsk x)) := by
  rw [in_tup (wd_sh hx hs) (by simp)]
  simp [isAsk]
theorem ask_condL {x : W} {h : AH} {neg : Bool} (hx : isStepW x = true) (hs : sh 19 x = true) : inW neg (.str (wd x)) (.lst [.str "free", .str "name", .str "think"]) h = some (.bl (neg != isAsk x)) := by
  rw [in_lst (wd_sh hx hs) (by simp)]
  simp [isAsk]
theorem Steps.filter {xs : List W} (H : Steps xs) (p : W → Bool) : Steps (xs.filter p) :=
  ⟨List.all_eq_true.mpr fun x hx => List.all_eq_true.mp H.st x (List.mem_filter.mp hx).1, List.all_eq_true.mpr fun x hx => List.all_eq_true.mp H.sh x (List.mem_filter.mp hx).1, Nat.le_trans (List.length_filter_le _ _) H.len⟩
theorem Steps.under {xs : List W} (H : Steps xs) : W.unders 0 xs = true := uns_iff.mpr fun x hx => sh_under 19 x (List.all_eq_true.mp H.sh x hx)
theorem s_asking {k : Nat} {xs : List W} {h : AH} (hk : 1 ≤ k) (H : Steps xs) : callK Tb k 9 [.tup xs] h = .ok (.lst (xs.filter isAsk)) h := by
  refine eq_of_Wp ?_
  rw [callK_ge (f := f9) rfl (by omega)]
  refine fnRun_wp ?_
  have e1 : ∀ env : Env, 2 ≤ env.length → lcL (.one 1) (Dn.tVal (dBin (inW false) (dBin idxW (dVar 1) (dC (.int 0))) (dTup (dCons (dC (.str "free")) (dCons (dC (.str "name")) (dCons (dC (.str "think")) dNil)))))) (dVar 1) chkT env xs [] h = .ok (xs.filter isAsk) h := fun env he => by
    have := lc_filter (t := .one 1) (c := Dn.tVal (dBin (inW false) (dBin idxW (dVar 1) (dC (.int 0))) (dTup (dCons (dC (.str "free")) (dCons (dC (.str "name")) (dCons (dC (.str "think")) dNil)))))) (e := dVar 1) (chk := chkT) (env := env) (h := h) rfl isAsk (fun x => x) H.lt fun x hm => ⟨_, rfl, ?_, fun _ => ?_⟩
    · rw [this, List.map_id']
    · have w1 := wd_get (h := h) (List.all_eq_true.mp H.st x hm)
      have w2 := ask_cond (h := h) (neg := false) (List.all_eq_true.mp H.st x hm) (List.all_eq_true.mp H.sh x hm)
      simp [show 1 < env.length by omega, w1, line, w2]
    · simp [show 1 < env.length by omega]
  have u := (H.filter isAsk).under
  simp only [f9, d9_asking, start0]
  simp [Wp_ofO, subL, Tgt.slots, e1, wipeE, u]
theorem s_lasked {k : Nat} {xs : List W} {h : AH} (hk : 1 ≤ k) (H : Steps xs) : callK Tb k 22 [.tup xs] h = .ok (.lst (xs.filter isAsk)) h := by
  refine eq_of_Wp ?_
  rw [callK_ge (f := f22) rfl (by omega)]
  refine fnRun_wp ?_
  have e1 : ∀ env : Env, 2 ≤ env.length → lcL (.one 1) (Dn.tVal (dBin (inW false) (dBin idxW (dVar 1) (dC (.int 0))) (dLst false (dCons (dC (.str "free")) (dCons (dC (.str "name")) (dCons (dC (.str "think")) dNil)))))) (dVar 1) chkT env xs [] h = .ok (xs.filter isAsk) h := fun env he => by
    have := lc_filter (t := .one 1) (c := Dn.tVal (dBin (inW false) (dBin idxW (dVar 1) (dC (.int 0))) (dLst false (dCons (dC (.str "free")) (dCons (dC (.str "name")) (dCons (dC (.str "think")) dNil)))))) (e := dVar 1) (chk := chkT) (env := env) (h := h) rfl isAsk (fun x => x) H.lt fun x hm => ⟨_, rfl, ?_, fun _ => ?_⟩
    · rw [this, List.map_id']
    · have w1 := wd_get (h := h) (List.all_eq_true.mp H.st x hm)
      have w2 := ask_condL (h := h) (neg := false) (List.all_eq_true.mp H.st x hm) (List.all_eq_true.mp H.sh x hm)
      simp [show 1 < env.length by omega, w1, line, w2]
    · simp [show 1 < env.length by omega]
  have u := (H.filter isAsk).under
  simp only [f22, d22_law_asked, start0]
  simp [Wp_ofO, subL, Tgt.slots, e1, wipeE, u]
/-- the indexes of hidden steps -/
def hidW (xs : List W) : List W := (xs.zipIdx.filter fun p => isHid p.1).map fun p => .int (p.2 : Nat)
theorem s_hidden {k : Nat} {xs : List W} {h : AH} (hk : 1 ≤ k) (H : Steps xs) : callK Tb k 10 [.tup xs] h = .ok (.lst (hidW xs)) h := by
  refine eq_of_Wp ?_
  rw [callK_ge (f := f10) rfl (by omega)]
  refine fnRun_wp ?_
  have e1 : ∀ env : Env, 3 ≤ env.length → lcL (.tup [1, 2]) (Dn.tVal (dBin (inW false) (dBin idxW (dVar 2) (dC (.int 0))) (dTup (dCons (dC (.str "free")) (dCons (dC (.str "think")) dNil))))) (dVar 1) chkT env (enW xs) [] h = .ok (hidW xs) h := fun env he => by
    have := lc_filter (t := .tup [1, 2]) (c := Dn.tVal (dBin (inW false) (dBin idxW (dVar 2) (dC (.int 0))) (dTup (dCons (dC (.str "free")) (dCons (dC (.str "think")) dNil))))) (e := dVar 1) (chk := chkT) (env := env) (h := h) rfl (fun w => match w with
      | .tup [_, x] => isHid x
      | _ => false) (fun w => match w with
      | .tup [i, _] => i
      | _ => w) (xs := enW xs) (by simpa [enW] using H.lt) fun w hm => ?_
    · rw [this]
      congr 1
      unfold enW hidW
      rw [List.filter_map, List.map_map]
      rfl
    · unfold enW at hm
      obtain ⟨p, hp, rfl⟩ := List.mem_map.mp hm
      have hx : p.1 ∈ xs := (List.mem_zipIdx' hp).2 ▸ List.getElem_mem _
      refine ⟨_, rfl, ?_, fun _ => ?_⟩
      · have w1 := wd_get (h := h) (List.all_eq_true.mp H.st _ hx)
        have w2 := in_tup (h := h) (neg := false) (x := .str (wd p.1)) (xs := [.str "free", .str "think"]) (wd_sh (List.all_eq_true.mp H.st _ hx) (List.all_eq_true.mp H.sh _ hx)) (by simp)
        simp [setAll, show 2 < env.length by omega, w1, line, w2, isHid]
      · simp [setAll, show 1 < env.length by omega, show 2 < env.length by omega]
  have u : W.unders 0 (hidW xs) = true := uns_iff.mpr fun x hx => by
    obtain ⟨p, _, rfl⟩ := List.mem_map.mp hx
    simp
  simp only [f10, d10_hidden_of, start0]
  simp [Wp_ofO, subL, Tgt.slots, Tgt.raw, okSrc, e1, wipeE, u]
/-- what may be chosen -/
def chW (x : W) (size : Int) : List W := if wd x = "free" then rgW 0 size else match x with
  | .tup [_, .int lo, .int hi] => rgW lo (hi + 1)
  | _ => []
theorem ask_shape {x : W} (hx : isStepW x = true) (ha : isAsk x = true) (hf : wd x ≠ "free") : ∃ lo hi, x = .tup [.str (wd x), .int lo, .int hi] ∧ 1 ≤ lo ∧ lo ≤ hi ∧ hi ≤ 40 ∧ hi ≤ lo + 5 := by
  obtain ⟨s, ps, rfl, e⟩ := step_shape hx
  rw [e] at hf ⊢
  have hs : s = "name" ∨ s = "think" := by
    simp [isAsk, e, hf] at ha
    exact ha
  have h1 : ¬ (s = "free" ∨ s = "away" ∨ s = "turn") := by rcases hs with rfl | rfl <;> simp
  have h2 : ¬ (s = "cut" ∨ s = "look") := by rcases hs with rfl | rfl <;> simp
  simp only [isStepW, h1, h2, if_false, hs, if_true] at hx
  match ps, hx with
  | [], hx => cases hx
  | [_], hx => cases hx
  | _ :: _ :: _ :: _, hx => cases hx
  | [p, q], hx =>
    cases p with
    | int lo =>
      simp only [Bool.and_eq_true_iff] at hx
      cases q with
      | int hi =>
        simp [isNumW] at hx
        refine ⟨lo, hi, rfl, hx.1.1, hx.2.1, ?_, ?_⟩ <;> (have := hx.2.2; split at this <;> omega)
      | _ => simp [isNumW] at hx
    | _ => cases hx
theorem rgW_under (a b : Int) : W.unders 0 (rgW a b) = true := uns_iff.mpr fun x hx => by
  unfold rgW at hx
  obtain ⟨p, _, rfl⟩ := List.mem_map.mp hx
  simp
theorem s_choices {k : Nat} {x : W} {size : Int} {h : AH} (hk : 1 ≤ k) (hx : isStepW x = true) (hs : sh 19 x = true) (ha : isAsk x = true) (h0 : 0 ≤ size) (h1 : size ≤ 1000) : callK Tb k 11 [x, .int size] h = .ok (.lst (chW x size)) h := by
  refine eq_of_Wp ?_
  rw [callK_ge (f := f11) rfl (by omega)]
  refine fnRun_wp ?_
  have w1 := wd_get (h := h) hx
  have q := eq_sh (h := h) (x := .str (wd x)) (y := .str "free") (wd_sh hx hs) (by simp)
  simp only [f11, d11_choices_of, start0]
  by_cases hf : wd x = "free"
  · have rg := rgOk_of (i := 0) (j := size) (by omega) (by omega) (by omega) (by omega)
    rw [hf] at q w1
    simp [Wp_ofO, w1, q, hf, rgRun_ok rg, chW, rgW_under]
  · obtain ⟨lo, hi, e, a1, a2, a3, a4⟩ := ask_shape hx ha hf
    have rg := rgOk_of (i := lo) (j := hi + 1) (by omega) (by omega) (by omega) (by omega)
    have c : chW x size = rgW lo (hi + 1) := by
      unfold chW
      rw [if_neg hf, e]
    rw [c]
    generalize wd x = s at *
    subst e
    simp [Wp_ofO, w1, q, hf, rgRun_ok rg, rgW_under, getI]
theorem s_need {k : Nat} {v : W} {h : AH} {n : Nat} (hk : 5 ≤ k) (hn : n ≤ 20) (hv : sh n v = true) (hsz : ∀ xs, v = .tup xs → xs.length ≤ 1000) (ht : isTrickW v = true) : callK Tb k 6 [v] h = .ok .non h := by
  refine eq_of_Wp ?_
  rw [callK_ge (f := f6) rfl (by omega)]
  refine fnRun_wp ?_
  have e := s_trick (k := k - 1) (h := h) (by omega) hn hv hsz
  simp only [f6, d6_need_trick, start0]
  simp [e, ht]
theorem s_needsize {k : Nat} {z : Int} {h : AH} (hk : 2 ≤ k) (h0 : 2 ≤ z) (h1 : z ≤ 40) : callK Tb k 7 [.int z] h = .ok .non h := by
  refine eq_of_Wp ?_
  rw [callK_ge (f := f7) rfl (by omega)]
  refine fnRun_wp ?_
  have e := s_number (k := k - 1) (v := .int z) (lo := 2) (hi := 40) (h := h) (n := 1) (by omega) (by simp)
  simp only [f7, d7_need_size, start0]
  simp [e, isNumW, h0, h1]
end Dn
end
section
set_option Elab.async false
set_option linter.all false
set_option maxRecDepth 100000
set_option maxHeartbeats 4000000
namespace Dn
open PySem PySem.Spec PyProof.Rows L2
def okCh (size : Int) (step o : W) : Bool := match o with
  | .int i => if wd step = "free" then decide (0 ≤ i) && decide (i < size) else match step with
    | .tup [_, .int lo, .int hi] => decide (lo ≤ i) && decide (i ≤ hi)
    | _ => false
  | _ => false
def okChs (size : Int) : List W → List W → Bool
  | s :: ss, o :: os => okCh size s o && okChs size ss os
  | _, _ => true
def isRunW (xs : List W) (size : Int) : W → Bool
  | .tup [c, .tup os] => (if lookB xs = true then isNone c else isNumW c 0 (size - 1)) && (decide (os.length = (xs.filter isAsk).length) && os.all fun o => isNumW o 0 40) && okChs size (xs.filter isAsk) os
  | _ => false
theorem isRunW_tup (xs : List W) (size : Int) (c : W) (os : List W) : isRunW xs size (.tup [c, .tup os]) = ((if lookB xs = true then isNone c else isNumW c 0 (size - 1)) && (decide (os.length = (xs.filter isAsk).length) && os.all fun o => isNumW o 0 40) && okChs size (xs.filter isAsk) os) := rfl
theorem anyEq_rg (i a b : Int) : anyEq (.int i) (rgW a b) = (decide (a ≤ i) && decide (i < b)) := by
  unfold anyEq rgW
  rw [List.any_map]
  by_cases h : a ≤ i ∧ i < b
  · rw [decide_eq_true h.1, decide_eq_true h.2]
    refine List.any_eq_true.mpr ⟨(i - a).toNat, by simp; omega, ?_⟩
    simp
    omega
  · have : (decide (a ≤ i) && decide (i < b)) = false := by
      by_cases h1 : a ≤ i
      · have : ¬ i < b := fun z => h ⟨h1, z⟩
        simp [h1, this]
      · simp [h1]
    rw [this]
    refine List.any_eq_false.mpr fun n hn => ?_
    simp at hn ⊢
    omega
theorem chW_sh (x : W) (size : Int) : (chW x size).all (sh dl) = true := by
  refine List.all_eq_true.mpr fun w hw => ?_
  have : ∃ i : Int, w = .int i := by
    unfold chW at hw
    split at hw
    · unfold rgW at hw
      obtain ⟨n, _, rfl⟩ := List.mem_map.mp hw
      exact ⟨_, rfl⟩
    · split at hw
      · unfold rgW at hw
        obtain ⟨n, _, rfl⟩ := List.mem_map.mp hw
        exact ⟨_, rfl⟩
      · cases hw
  obtain ⟨i, rfl⟩ := this
  simp
theorem in_ch {x o : W} {size lo hi : Int} {h : AH} {neg : Bool} (hx : isStepW x = true) (ha : isAsk x = true) (ho : isNumW o lo hi = true) : inW neg o (.lst (chW x size)) h = some (.bl (neg != okCh size x o)) := by
  cases o with
  | int i =>
    rw [in_lst (by simp) (chW_sh x size)]
    congr 3
    unfold chW okCh
    by_cases hf : wd x = "free"
    · simp only [hf, if_true]
      exact anyEq_rg i 0 size
    · simp only [hf, if_false]
      obtain ⟨a, b, e, _⟩ := ask_shape hx ha hf
      rw [e]
      simp only
      rw [anyEq_rg]
      congr 1
      exact decide_eq_decide.mpr (by omega)
  | _ => simp [isNumW] at ho
theorem isnt_none (w : W) (h : AH) : isntV w .non h = some (.bl (!isNone w)) := rfl
theorem is_none (w : W) (h : AH) : isV w .non h = some (.bl (isNone w)) := rfl
theorem okChs_all (size : Int) : ∀ (ss os : List W), okChs size ss os = ((List.zip ss os).all fun p => okCh size p.1 p.2)
  | [], _ => by simp [okChs]
  | _ :: _, [] => by simp [okChs]
  | s :: ss, o :: os => by simp [okChs, okChs_all size ss os]
theorem zpW_eq (ss os : List W) : zpW ss os = (List.zip ss os).map fun p => .tup [p.1, p.2] := by
  unfold zpW
  rw [List.zip, List.map_zipWith]
/-- what a value must be to be looked at further -/
theorem run_shape {v : W} {n : Nat} (hv : sh n v = true) : (∃ c os, v = .tup [c, .tup os]) ∨ (∃ xs, v = .tup xs ∧ xs.length ≠ 2) ∨ (∃ c d, v = .tup [c, d] ∧ ∀ os, d ≠ .tup os) ∨ (∀ xs, v ≠ .tup xs) := by
  cases v with
  | tup xs =>
    match xs with
    | [] => exact .inr (.inl ⟨_, rfl, by simp⟩)
    | [_] => exact .inr (.inl ⟨_, rfl, by simp⟩)
    | _ :: _ :: _ :: _ => exact .inr (.inl ⟨_, rfl, by simp⟩)
    | [c, d] =>
      cases d with
      | tup os => exact .inl ⟨_, _, rfl⟩
      | _ => exact .inr (.inr (.inl ⟨_, _, rfl, by simp⟩))
  | _ => exact .inr (.inr (.inr (by simp)))
theorem isB_ntup {d : W} {n : Nat} {h : AH} (hd : sh n d = true) (hn : ∀ os, d ≠ .tup os) : isB .tuple h d = some false := by
  cases d with
  | tup os => exact absurd rfl (hn os)
  | dct _ _ => cases n <;> simp [sh] at hd
  | ref _ => cases n <;> simp [sh] at hd
  | glo _ => cases n <;> simp [sh] at hd
  | scr _ => cases n <;> simp [sh] at hd
  | erx _ => cases n <;> simp [sh] at hd
  | err _ _ => cases n <;> simp [sh] at hd
  | any => cases n <;> simp [sh] at hd
  | _ => simp
theorem isRun_ntup {xs : List W} {size : Int} {v : W} (hn : ∀ xs, v ≠ .tup xs) : isRunW xs size v = false := by
  cases v with
  | tup os => exact absurd rfl (hn os)
  | _ => rfl
theorem s_isrun {k : Nat} {xs : List W} {size : Int} {v : W} {h : AH} (hk : 3 ≤ k) (H : Steps xs) (h0 : 0 ≤ size) (h1 : size ≤ 1000) (hv : sh 19 v = true) (hl : ∀ c os, v = .tup [c, .tup os] → os.length ≤ 1000) : callK Tb k 12 [.tup xs, .int size, v] h = .ok (.bl (isRunW xs size v)) h := by
  refine eq_of_Wp ?_
  rw [callK_ge (f := f12) rfl (by omega)]
  refine fnRun_wp ?_
  have a1 := s_asking (k := k - 1) (h := h) (by omega) H
  have a2 := s_look (k := k - 1) (h := h) (by omega) H
  simp only [f12, d12_is_run_of, start0]
  rcases run_shape hv with ⟨c, os, rfl⟩ | ⟨ys, rfl, hy⟩ | ⟨c, d, rfl, hd⟩ | hn
  · have os1 := hl c os rfl
    rw [shT, List.all_cons, List.all_cons, Bool.and_eq_true_iff, Bool.and_eq_true_iff] at hv
    have hos : ∀ o ∈ os, sh 19 o = true := fun o ho => sh_le (by omega : 17 ≤ 19) (List.all_eq_true.mp hv.2.1 o ho)
    have hc : sh 18 c = true := hv.1
    have n0 := fun hi => s_number (k := k - 1) (v := c) (lo := 0) (hi := hi) (h := h) (n := 18) (by omega) hc
    have tl : os.length ≤ line := Nat.le_trans os1 (by decide)
    have e1 : ∀ env : Env, 6 ≤ env.length → lcL (.one 5) yesT (dOwn (callK Tb (k - 1)) 0 3 (dCons (dVar 5) (dCons (dC (.int 0)) (dCons (dC (.int 40)) dNil)))) chkT env os [] h = .ok (os.map fun o => .bl (isNumW o 0 40)) h := fun env he => by
      refine lc_map rfl (fun o => .bl (isNumW o 0 40)) tl fun o hm => ⟨_, rfl, ?_⟩
      have := s_number (k := k - 1) (v := o) (lo := 0) (hi := 40) (h := h) (n := 19) (by omega) (hos o hm)
      simp [show 5 < env.length by omega, this]
    have Ha := H.filter isAsk
    have hask : ∀ x ∈ xs.filter isAsk, isAsk x = true := fun x hx => (List.mem_filter.mp hx).2
    rw [isRunW_tup]
    generalize xs.filter isAsk = ss at a1 Ha hask ⊢
    generalize lookB xs = L at a2 ⊢
    have e3 := all_map (fun o => isNumW o 0 40) os h
    by_cases hall : (os.all fun o => isNumW o 0 40) = true
    · have e2 : ∀ env : Env, 7 ≤ env.length → env[1]? = some (some (.int size)) → lcL (.tup [6, 5]) yesT (dBin (inW false) (dVar 5) (dOwn (callK Tb (k - 1)) 11 2 (dCons (dVar 6) (dCons (dVar 1) dNil)))) (fun _ => true) env (zpW ss os) [] h = .ok ((List.zip ss os).map fun p => .bl (okCh size p.1 p.2)) h := fun env he h1' => by
        have := lc_map (t := .tup [6, 5]) (e := dBin (inW false) (dVar 5) (dOwn (callK Tb (k - 1)) 11 2 (dCons (dVar 6) (dCons (dVar 1) dNil)))) (chk := fun _ => true) (env := env) (h := h) rfl (fun w => match w with
          | .tup [s, o] => .bl (okCh size s o)
          | _ => w) (xs := zpW ss os) (by rw [zpW_eq, List.length_map, List.length_zip]; omega) fun w hm => ?_
        · rw [this, zpW_eq, List.map_map]
          rfl
        · rw [zpW_eq] at hm
          obtain ⟨p, hp, rfl⟩ := List.mem_map.mp hm
          obtain ⟨hs, ho⟩ := List.of_mem_zip hp
          refine ⟨_, rfl, ?_⟩
          have c1 := s_choices (k := k - 1) (size := size) (h := h) (by omega) (List.all_eq_true.mp Ha.st _ hs) (List.all_eq_true.mp Ha.sh _ hs) (hask _ hs) h0 h1
          have c2 := in_ch (size := size) (h := h) (neg := false) (List.all_eq_true.mp Ha.st _ hs) (hask _ hs) (List.all_eq_true.mp hall _ ho)
          simp [setAll, show 5 < env.length by omega, show 6 < env.length by omega, h1', Wp_ofO, c1, c2]
      have e4 := all_map (fun p : W × W => okCh size p.1 p.2) (List.zip ss os) h
      rw [← okChs_all] at e4
      rw [hall] at e3 ⊢
      have q2 := ne_sh (h := h) (x := .int (os.length : Nat)) (y := .int (ss.length : Nat)) (by simp) (by simp)
      generalize okChs size ss os = O at e4 ⊢
      simp [Wp_ofO, getI, a1, a2, ne_sh, isnt_none, n0, q2, subL, Tgt.slots, e1, e3, wipeE]
      have g2 := e2 [some (.tup xs), some (.int size), some (.tup [c, .tup os]), some c, some (.lst ss), none, none] (by simp) rfl
      by_cases hle : os.length = ss.length
      · cases L <;> cases hcn : isNone c <;> cases hcb : isNumW c 0 (size - 1) <;> simp [hle, okSrc, Tgt.raw, g2, e4, hcn, hcb]
      · have hle' : ¬ (os.length : Int) = ss.length := by omega
        cases L <;> cases hcn : isNone c <;> cases hcb : isNumW c 0 (size - 1) <;> simp [hle, hle', hcn, hcb]
    · have hall' : (os.all fun o => isNumW o 0 40) = false := by simpa using hall
      rw [hall'] at e3 ⊢
      have q2 := ne_sh (h := h) (x := .int (os.length : Nat)) (y := .int (ss.length : Nat)) (by simp) (by simp)
      simp [Wp_ofO, getI, a1, a2, ne_sh, isnt_none, n0, q2, subL, Tgt.slots, e1, e3, wipeE]
  · have : (ys.length : Int) ≠ 2 := by omega
    have e : isRunW xs size (.tup ys) = false := by
      unfold isRunW
      match ys, hy with
      | [], _ => rfl
      | [_], _ => rfl
      | [_, _], h => simp at h
      | _ :: d :: _ :: _, _ => cases d <;> rfl
    simp [Wp_ofO, ne_sh, this, e]
  · have e : isRunW xs size (.tup [c, d]) = false := by
      cases d with
      | tup os => exact absurd rfl (hd os)
      | _ => rfl
    rw [shT, List.all_cons, List.all_cons, Bool.and_eq_true_iff, Bool.and_eq_true_iff] at hv
    have b := isB_ntup (h := h) hv.2.1 hd
    simp [Wp_ofO, ne_sh, getI, e, b]
  · have e := isRun_ntup (xs := xs) (size := size) hn
    have b := isB_ntup (h := h) hv hn
    simp [Wp_ofO, b, e]
theorem isRun_len {xs ys : List W} {size : Int} (hy : ys.length ≠ 2) : isRunW xs size (.tup ys) = false := by
  unfold isRunW
  match ys, hy with
  | [], _ => rfl
  | [_], _ => rfl
  | [_, _], h => simp at h
  | _ :: d :: _ :: _, _ => cases d <;> rfl
def okAt (size : Int) (ss os : List W) : W → Bool
  | .int i => okCh size (ss.getD i.toNat .non) (os.getD i.toNat .non)
  | _ => true
theorem okChs_at (size : Int) {ss os : List W} (hl : os.length = ss.length) : okChs size ss os = (rgW 0 (ss.length : Int)).all (okAt size ss os) := by
  rw [okChs_all, rgW_nat, List.all_map]
  rw [Bool.eq_iff_iff, List.all_eq_true, List.all_eq_true]
  constructor
  · intro h i hi
    have hi' : i < ss.length := by simpa using hi
    have := h (ss[i], os[i]) (by
      refine List.mem_iff_getElem?.mpr ⟨i, ?_⟩
      rw [List.getElem?_zip_eq_some]
      exact ⟨by simp [hi'], by simp [show i < os.length by omega]⟩)
    simpa [okAt, hi', show i < os.length by omega] using this
  · intro h p hp
    obtain ⟨i, hi⟩ := List.mem_iff_getElem?.mp hp
    obtain ⟨s, o⟩ := p
    rw [List.getElem?_zip_eq_some] at hi
    have l1 := (List.getElem?_eq_some_iff.mp hi.1).1
    have := h i (by simpa using l1)
    simp only [Function.comp, okAt, Int.toNat_natCast, List.getD_eq_getElem?_getD, hi.1, hi.2, Option.getD_some] at this
    exact this
theorem rg_sh (a b : Int) (p : W → Bool) : ((rgW a b).filter p).all (sh 19) = true := List.all_eq_true.mpr fun x hx => by
  have := (List.mem_filter.mp hx).1
  unfold rgW at this
  obtain ⟨n, _, rfl⟩ := List.mem_map.mp this
  simp
theorem s_lisrun {k : Nat} {xs : List W} {size : Int} {v : W} {h : AH} (hk : 3 ≤ k) (H : Steps xs) (h0 : 0 ≤ size) (h1 : size ≤ 1000) (hv : sh 19 v = true) (hl : ∀ c os, v = .tup [c, .tup os] → os.length ≤ 1000) : callK Tb k 28 [.tup xs, .int size, v] h = .ok (.bl (isRunW xs size v)) h := by
  refine eq_of_Wp ?_
  rw [callK_ge (f := f28) rfl (by omega)]
  refine fnRun_wp ?_
  have a1 := s_lasked (k := k - 1) (h := h) (by omega) H
  have a2 := s_look (k := k - 1) (h := h) (by omega) H
  simp only [f28, d28_law_is_run, start0]
  rcases run_shape hv with ⟨c, os, rfl⟩ | ⟨ys, rfl, hy⟩ | ⟨c, d, rfl, hd⟩ | hn
  · have os1 := hl c os rfl
    rw [shT, List.all_cons, List.all_cons, Bool.and_eq_true_iff, Bool.and_eq_true_iff] at hv
    have hos : ∀ o ∈ os, sh 19 o = true := fun o ho => sh_le (by omega : 17 ≤ 19) (List.all_eq_true.mp hv.2.1 o ho)
    have hc : sh 18 c = true := hv.1
    have n0 := fun hi => s_number (k := k - 1) (v := c) (lo := 0) (hi := hi) (h := h) (n := 18) (by omega) hc
    have tl : os.length ≤ line := Nat.le_trans os1 (by decide)
    have e1 : ∀ env : Env, 5 ≤ env.length → lcL (.one 4) (tNot' (Dn.tVal (dOwn (callK Tb (k - 1)) 0 3 (dCons (dVar 4) (dCons (dC (.int 0)) (dCons (dC (.int 40)) dNil)))))) (dVar 4) chkT env os [] h = .ok (os.filter fun o => !isNumW o 0 40) h := fun env he => by
      have := lc_filter (t := .one 4) (c := tNot' (Dn.tVal (dOwn (callK Tb (k - 1)) 0 3 (dCons (dVar 4) (dCons (dC (.int 0)) (dCons (dC (.int 40)) dNil)))))) (e := dVar 4) (chk := chkT) (env := env) (h := h) rfl (fun o => !isNumW o 0 40) (fun x => x) tl fun o hm => ⟨_, rfl, ?_, fun _ => ?_⟩
      · rw [this, List.map_id']
      · have := s_number (k := k - 1) (v := o) (lo := 0) (hi := 40) (h := h) (n := 19) (by omega) (hos o hm)
        simp [show 4 < env.length by omega, this]
      · simp [show 4 < env.length by omega]
    have fsh : (os.filter fun o => !isNumW o 0 40).all (sh 19) = true := List.all_eq_true.mpr fun x hx => hos x (List.mem_filter.mp hx).1
    have q1 := ne_sh (h := h) (x := .lst (os.filter fun o => !isNumW o 0 40)) (y := .lst []) fsh rfl
    simp only [toD_lst, toDs_nil, eqv_lst, eqvAll_e, filter_all (fun o => isNumW o 0 40)] at q1
    have Ha := H.filter isAsk
    have hask : ∀ x ∈ xs.filter isAsk, isAsk x = true := fun x hx => (List.mem_filter.mp hx).2
    have nn : isNone c = true → isNumW c 0 (size - 1) = false := by cases c <;> simp [isNone, isNumW]
    rw [isRunW_tup]
    generalize xs.filter isAsk = ss at a1 Ha hask ⊢
    generalize lookB xs = L at a2 ⊢
    have q2 := ne_sh (h := h) (x := .int (ss.length : Nat)) (y := .int (os.length : Nat)) (by simp) (by simp)
    have q0 := ne_sh (h := h) (x := .bl L) (y := .bl (isNone c)) (by simp) (by simp)
    by_cases hle : os.length = ss.length
    · by_cases hall : (os.all fun o => isNumW o 0 40) = true
      · have e2 : ∀ env : Env, 6 ≤ env.length → env[1]? = some (some (.int size)) → env[2]? = some (some (.tup [c, .tup os])) → env[3]? = some (some (.lst ss)) → lcL (.one 5) (Dn.tVal (dBin (inW true) (dBin idxW (dBin idxW (dVar 2) (dC (.int 1))) (dVar 5)) (dOwn (callK Tb (k - 1)) 11 2 (dCons (dBin idxW (dVar 3) (dVar 5)) (dCons (dVar 1) dNil))))) (dVar 5) chkT env (rgW 0 (ss.length : Int)) [] h = .ok ((rgW 0 (ss.length : Int)).filter fun w => !okAt size ss os w) h := fun env he b1 b2 b3 => by
          have := lc_filter (t := .one 5) (c := Dn.tVal (dBin (inW true) (dBin idxW (dBin idxW (dVar 2) (dC (.int 1))) (dVar 5)) (dOwn (callK Tb (k - 1)) 11 2 (dCons (dBin idxW (dVar 3) (dVar 5)) (dCons (dVar 1) dNil))))) (e := dVar 5) (chk := chkT) (env := env) (h := h) rfl (fun w => !okAt size ss os w) (fun x => x) (xs := rgW 0 (ss.length : Int)) (by rw [rgW_len]; have := Ha.lt; omega) fun w hm => ⟨_, rfl, ?_, fun _ => ?_⟩
          · rw [this, List.map_id']
          · rw [rgW_nat] at hm
            obtain ⟨i, hi, rfl⟩ := List.mem_map.mp hm
            have hi' : i < ss.length := by simpa using hi
            have hi2 : i < os.length := by omega
            have m1 := List.getElem_mem hi'
            have m2 := List.getElem_mem hi2
            have c1 := s_choices (k := k - 1) (size := size) (h := h) (by omega) (List.all_eq_true.mp Ha.st _ m1) (List.all_eq_true.mp Ha.sh _ m1) (hask _ m1) h0 h1
            have c2 := in_ch (size := size) (h := h) (neg := true) (List.all_eq_true.mp Ha.st _ m1) (hask _ m1) (List.all_eq_true.mp hall _ m2)
            simp [show 5 < env.length by omega, b1, b2, b3, Wp_ofO, getI, hi', hi2, c1, c2, okAt]
          · simp [show 5 < env.length by omega]
        have q3 := eq_sh (h := h) (x := .lst ((rgW 0 (ss.length : Int)).filter fun w => !okAt size ss os w)) (y := .lst []) (rg_sh _ _ _) rfl
        simp only [toD_lst, toDs_nil, eqv_lst, eqvAll_e, filter_all (okAt size ss os)] at q3
        rw [← okChs_at size hle] at q3
        have rg := rgOk_of (i := 0) (j := (ss.length : Int)) (by omega) (by have := Ha.len; omega) (by omega) (by have := Ha.len; omega)
        have g2 := e2 [some (.tup xs), some (.int size), some (.tup [c, .tup os]), some (.lst ss), none, none] (by simp) rfl rfl rfl
        rw [hall] at q1 ⊢
        generalize okChs size ss os = O at q3 ⊢
        cases L <;> cases hcn : isNone c <;> cases hcb : isNumW c 0 (size - 1) <;> simp [Wp_ofO, getI, a1, a2, ne_sh, isnt_none, is_none, n0, q0, q2, subL, Tgt.slots, e1, q1, q3, wipeE, hcn, hcb, hle, line, rgSrc_ok rg, g2]
        all_goals (rw [nn hcn] at hcb; cases hcb)
      · have hall' : (os.all fun o => isNumW o 0 40) = false := by simpa using hall
        rw [hall'] at q1 ⊢
        cases L <;> cases hcn : isNone c <;> cases hcb : isNumW c 0 (size - 1) <;> simp [Wp_ofO, getI, a1, a2, ne_sh, isnt_none, is_none, n0, q0, q2, subL, Tgt.slots, e1, q1, wipeE, hcn, hcb, hle, line]
        all_goals (rw [nn hcn] at hcb; cases hcb)
    · have hle' : ¬ (ss.length : Int) = os.length := by omega
      cases L <;> cases hcn : isNone c <;> cases hcb : isNumW c 0 (size - 1) <;> simp [Wp_ofO, getI, a1, a2, ne_sh, isnt_none, is_none, n0, q0, q2, hcn, hcb, hle, hle', line]
      all_goals (rw [nn hcn] at hcb; cases hcb)
  · have : (ys.length : Int) ≠ 2 := by omega
    simp [Wp_ofO, ne_sh, this, isRun_len hy]
  · have e : isRunW xs size (.tup [c, d]) = false := by
      cases d with
      | tup os => exact absurd rfl (hd os)
      | _ => rfl
    rw [shT, List.all_cons, List.all_cons, Bool.and_eq_true_iff, Bool.and_eq_true_iff] at hv
    have b := isB_ntup (h := h) hv.2.1 hd
    simp [Wp_ofO, ne_sh, getI, e, b]
  · have e := isRun_ntup (xs := xs) (size := size) hn
    have b := isB_ntup (h := h) hv hn
    simp [Wp_ofO, b, e]
end Dn
end
section
set_option Elab.async false
set_option linter.all false
set_option maxRecDepth 100000
set_option maxHeartbeats 4000000
namespace Dn
open PySem PySem.Spec PyProof.Rows L2
/-! ### tricks that are drawn -/
def Wds : List Str := ["cut", "free", "name", "think", "look", "deal", "piles", "away", "turn", "that", "on", "under"]
/-- numbers, None and known words, in tuples -/
def nw : Nat → W → Bool
  | _, .non => true
  | _, .int _ => true
  | _, .str x => Wds.contains x
  | n + 1, .tup xs => decide (xs.length ≤ 100) && xs.all (nw n)
  | _, _ => false
theorem wds_shaped : ∀ x ∈ Wds, SeqAt.shaped (.str x) = true := by decide +kernel
theorem nw_sh : ∀ (n : Nat) (w : W), nw n w = true → sh n w = true
  | n, .non, _ => by cases n <;> rfl
  | n, .int _, _ => by cases n <;> rfl
  | n, .str x, h => by
    have : x ∈ Wds := by cases n <;> exact List.contains_iff_mem.mp h
    exact sh_str n (wds_shaped x this)
  | n + 1, .tup xs, h => by
    rw [nw, Bool.and_eq_true_iff] at h
    rw [shT]
    exact List.all_eq_true.mpr fun x hx => nw_sh n x (List.all_eq_true.mp h.2 x hx)
  | 0, .tup _, h => by simp [nw] at h
  | n, .bl _, h => by cases n <;> simp [nw] at h
  | n, .lst _, h => by cases n <;> simp [nw] at h
  | n, .dct _ _, h => by cases n <;> simp [nw] at h
  | n, .ref _, h => by cases n <;> simp [nw] at h
  | n, .glo _, h => by cases n <;> simp [nw] at h
  | n, .scr _, h => by cases n <;> simp [nw] at h
  | n, .erx _, h => by cases n <;> simp [nw] at h
  | n, .err _ _, h => by cases n <;> simp [nw] at h
  | n, .any, h => by cases n <;> simp [nw] at h
@[simp] theorem nwI (n : Nat) (i : Int) : nw n (.int i) = true := by cases n <;> rfl
@[simp] theorem nwN (n : Nat) : nw n .non = true := by cases n <;> rfl
theorem nwS (n : Nat) {x : Str} (h : x ∈ Wds) : nw n (.str x) = true := by cases n <;> exact List.contains_iff_mem.mpr h
/-- a step that is neither asking nor a look -/
structure Plain (named : Bool) (x : W) : Prop where
  st : isStepW x = true
  nw : nw 1 x = true
  nf : wd x ≠ "free"
  nl : wd x ≠ "look"
  nt : isNT x = false
  that : thatB x = true → named = true
/-- so many cards -/
structure Many (named : Bool) (w : W) : Prop where
  ok : isManyW w 0 = true
  nw : nw 0 w = true
  that : PyData.eqv (toD w) (.str "that") = true → named = true
theorem many_int {named : Bool} {i : Int} (h0 : 0 ≤ i) (h1 : i ≤ 40) : Many named (.int i) := ⟨by simp [isManyW, isNumW, h0, h1], by simp, by simp [PyData.eqv]⟩
theorem many_that : Many true (.str "that") := ⟨by simp [isManyW], nwS 0 (by decide +kernel), fun _ => rfl⟩
theorem Ws_cut {a b : DS} {env : Env} {h : AH} {N : Env → AH → Prop} {R : W → AH → Prop} (P : Env → AH → Prop) (h1 : Ws (a env h) P R) (h2 : ∀ e h', P e h' → Ws (b e h') N R) : Ws (sSeq a b env h) N R := by
  rw [o_sSeq, Ws_then]
  exact Ws_mono h1 h2 fun _ _ r => r
theorem plain_cut {named : Bool} {w : W} (m : Many named w) : Plain named (.tup [.str "cut", w]) where
  st := by simp [isStepW, m.ok]
  nw := by
    rw [nw, Bool.and_eq_true_iff]
    exact ⟨by simp, by simp [nwS 0 (show ("cut" : Str) ∈ Wds by decide +kernel), m.nw]⟩
  nf := by simp [wd]
  nl := by simp [wd]
  nt := by simp [isNT, wd]
  that := fun h => m.that (by simpa [thatB] using h)
theorem plain_deal {named : Bool} {w r : W} (m : Many named w) (hr : r ∈ [W.str "on", W.str "under"]) : Plain named (.tup [.str "deal", w, r]) where
  st := by
    simp at hr
    rcases hr with rfl | rfl <;> simp [isStepW, m.ok, isRestW]
  nw := by
    rw [nw, Bool.and_eq_true_iff]
    simp at hr
    rcases hr with rfl | rfl
    · exact ⟨by simp, by simp [nwS 0 (show ("deal" : Str) ∈ Wds by decide +kernel), m.nw, nwS 0 (show ("on" : Str) ∈ Wds by decide +kernel)]⟩
    · exact ⟨by simp, by simp [nwS 0 (show ("deal" : Str) ∈ Wds by decide +kernel), m.nw, nwS 0 (show ("under" : Str) ∈ Wds by decide +kernel)]⟩
  nf := by simp [wd]
  nl := by simp [wd]
  nt := by simp [isNT, wd]
  that := fun h => m.that (by simpa [thatB] using h)
theorem plain_piles {named : Bool} {p q : Int} (h0 : 2 ≤ p) (h1 : p ≤ 6) (h2 : 0 ≤ q) (h3 : q < p) : Plain named (.tup [.str "piles", .int p, .int q]) where
  st := by simp [isStepW, isNumW, h0, h1, h2]; omega
  nw := by
    rw [nw, Bool.and_eq_true_iff]
    exact ⟨by simp, by simp [nwS 0 (show ("piles" : Str) ∈ Wds by decide +kernel)]⟩
  nf := by simp [wd]
  nl := by simp [wd]
  nt := by simp [isNT, wd]
  that := fun h => by simp [thatB, PyData.eqv] at h
theorem plain_word {named : Bool} {w : W} (hw : w ∈ [W.str "away", W.str "turn"]) : Plain named (.tup [w]) where
  st := by
    simp at hw
    rcases hw with rfl | rfl <;> simp [isStepW]
  nw := by
    rw [nw, Bool.and_eq_true_iff]
    simp at hw
    rcases hw with rfl | rfl
    · exact ⟨by simp, by simp [nwS 0 (show ("away" : Str) ∈ Wds by decide +kernel)]⟩
    · exact ⟨by simp, by simp [nwS 0 (show ("turn" : Str) ∈ Wds by decide +kernel)]⟩
  nf := by
    simp at hw
    rcases hw with rfl | rfl <;> simp [wd]
  nl := by
    simp at hw
    rcases hw with rfl | rfl <;> simp [wd]
  nt := by
    simp at hw
    rcases hw with rfl | rfl <;> simp [isNT, wd]
  that := fun h => by simp [thatB] at h
theorem w_step {k n : Nat} {size : Int} {named : Bool} {h : AH} {Q : W → AH → Prop} (hk : 3 ≤ k) (hs : St n h) (h2 : 2 ≤ size) (h40 : size ≤ 40) (q : ∀ x h', Plain named x → St n h' → Same n h h' → Q x h') : Wp (callK Tb k 19 [.ref n, .int size, .bl named] h) Q := by
  rw [callK_ge (f := f19) rfl (by omega)]
  refine fnRun_wp ?_
  simp only [f19, d19_law_step, start0]
  obtain ⟨P, hP⟩ : ∃ P : Env → AH → Prop, P = fun e h' => ∃ v w, e = [some (.ref n), some (.int size), some (.bl named), some (.int v), some w, none] ∧ 0 ≤ v ∧ v < 12 ∧ Many named w ∧ St n h' ∧ Same n h h' := ⟨_, rfl⟩
  refine Ws_cut P ?_ ?_
  · simp [Wp_ofO, line]
    refine w_take (by omega) hs (by decide) (by decide) fun v h1 v0 v1 s1 m1 => ?_
    refine w_take (by omega) s1 (by decide) (by decide) fun u h3 u0 u1 s3 m3 => ?_
    refine w_of (by omega) s3 (by simp) (by simp) fun w h4 hw s4 m4 => ?_
    have hm : Many named w := by
      simp only [List.mem_cons, List.not_mem_nil, or_false] at hw
      rcases hw with rfl | rfl | rfl | rfl | rfl | rfl | rfl | rfl <;> exact many_int (by omega) (by omega)
    rw [hP]
    exact ⟨v, w, rfl, v0, v1, hm, s4, m1.trans (m3.trans m4)⟩
  · rw [hP]
    rintro e h1 ⟨v, w, rfl, v0, v1, hm, s1, m1⟩
    clear hP P
    obtain ⟨P, hP⟩ : ∃ P : Env → AH → Prop, P = fun e h' => ∃ w, e = [some (.ref n), some (.int size), some (.bl named), some (.int v), some w, none] ∧ Many named w ∧ St n h' ∧ Same n h h' := ⟨_, rfl⟩
    refine Ws_cut P ?_ ?_
    · cases named with
      | false =>
        simp [Wp_ofO]
        rw [hP]
        exact ⟨w, rfl, hm, s1, m1⟩
      | true =>
        simp [Wp_ofO]
        refine w_take (by omega) s1 (by decide) (by decide) fun u h3 u0 u1 s3 m3 => ?_
        by_cases hu : 0 < u
        · simp [hu]
          rw [hP]
          exact ⟨_, rfl, many_that, s3, m1.trans m3⟩
        · simp [hu]
          rw [hP]
          exact ⟨w, rfl, hm, s3, m1.trans m3⟩
    · clear s1 m1 hm w
      rw [hP]
      rintro e h3 ⟨w, rfl, hm, s3, m3⟩
      simp [Wp_ofO, line]
      split
      · exact q _ _ (plain_cut hm) s3 m3
      · split
        · refine w_of (by omega) s3 (by simp) (by simp) fun r h4 hr s4 m4 => ?_
          exact q _ _ (plain_deal hm hr) s4 (m3.trans m4)
        · split
          · refine w_of (by omega) s3 (by simp) (by simp) fun r h4 hr s4 m4 => ?_
            have : ∃ p : Int, r = .int p ∧ 2 ≤ p ∧ p ≤ 6 := by
              simp only [List.mem_cons, List.not_mem_nil, or_false] at hr
              rcases hr with rfl | rfl | rfl | rfl | rfl | rfl <;> exact ⟨_, rfl, by decide, by decide⟩
            obtain ⟨p, rfl, p0, p1⟩ := this
            refine w_take (by omega) s4 (by omega) (by omega) fun u h5 u0 u1 s5 m5 => ?_
            exact q _ _ (plain_piles p0 p1 u0 u1) s5 (m3.trans (m4.trans m5))
          · refine w_of (by omega) s3 (by simp) (by simp) fun r h4 hr s4 m4 => ?_
            exact q _ _ (plain_word hr) s4 (m3.trans m4)
/-- a step that asks for a number -/
structure Asks (x : W) : Prop where
  st : isStepW x = true
  nw : nw 1 x = true
  nf : wd x ≠ "free"
  nl : wd x ≠ "look"
  nt : isNT x = true
  that : thatB x = false
theorem asks_mk {s : W} {a b : Int} (hs : s ∈ [W.str "name", W.str "think", W.str "think"]) (h0 : 1 ≤ a) (h1 : a ≤ b) (h2 : b ≤ a + 3) (h3 : a ≤ 35) : Asks (.tup [s, .int a, .int b]) := by
  have h : s = .str "name" ∨ s = .str "think" := by simpa using hs
  have w0 : nw 0 s = true := by rcases h with rfl | rfl <;> exact nwS 0 (by decide +kernel)
  refine ⟨?_, ?_, ?_, ?_, ?_, ?_⟩
  · rcases h with rfl | rfl <;> (simp [isStepW, isNumW, h0, h1]; split <;> omega)
  · rw [nw, Bool.and_eq_true_iff]
    exact ⟨by simp, by simp [w0]⟩
  · rcases h with rfl | rfl <;> simp [wd]
  · rcases h with rfl | rfl <;> simp [wd]
  · rcases h with rfl | rfl <;> simp [isNT, wd]
  · simp [thatB, PyData.eqv]
theorem w_asking {k n : Nat} {h : AH} {Q : W → AH → Prop} (hk : 3 ≤ k) (hs : St n h) (q : ∀ x h', Asks x → St n h' → Same n h h' → Q x h') : Wp (callK Tb k 20 [.ref n] h) Q := by
  rw [callK_ge (f := f20) rfl (by omega)]
  refine fnRun_wp ?_
  simp only [f20, d20_law_asking, start0]
  simp [Wp_ofO, line]
  refine w_of (by omega) hs (by simp) (by simp) fun r h1 hr s1 m1 => ?_
  have : ∃ p : Int, r = .int p ∧ 1 ≤ p ∧ p ≤ 35 := by
    simp only [List.mem_cons, List.not_mem_nil, or_false] at hr
    rcases hr with rfl | rfl | rfl | rfl | rfl <;> exact ⟨_, rfl, by decide, by decide⟩
  obtain ⟨p, rfl, p0, p1⟩ := this
  refine w_of (by omega) s1 (by simp) (by simp) fun r h2 hr s2 m2 => ?_
  refine w_take (by omega) s2 (by decide) (by decide) fun u h3 u0 u1 s3 m3 => ?_
  simp
  exact q _ _ (asks_mk hr p0 (by omega) (by omega) p1) s3 (m1.trans (m2.trans m3))
end Dn
end
section
set_option Elab.async false
set_option linter.all false
set_option maxRecDepth 100000
set_option maxHeartbeats 4000000
namespace Dn
open PySem PySem.Spec PyProof.Rows L2
structure TI (t : List W) (named : Bool) : Prop where
  st : ∀ x ∈ t, isStepW x = true
  nw : ∀ x ∈ t, nw 1 x = true
  cf : t.countP (fun x => decide (wd x = "free")) ≤ 1
  cn : t.countP isNT ≤ 2
  cl : t.countP (fun x => decide (wd x = "look")) ≤ 1
  wl : ∀ i < t.length, wellB t i = true
  nm : named = true → t.any isNT = true
theorem wellB_append {t : List W} {x : W} {i : Nat} (hi : i < t.length) : wellB (t ++ [x]) i = wellB t i := by
  unfold wellB
  rw [List.getElem?_append_left hi, List.take_append_of_le_length (by omega)]
theorem wellB_last {t : List W} {x : W} : wellB (t ++ [x]) t.length = (!(decide (wd x = "look") && !(t.all isNT)) && (!thatB x || t.any isNT)) := by
  unfold wellB
  rw [List.getElem?_append_right (Nat.le_refl _), Nat.sub_self, List.take_left]
  rfl
theorem TI.snoc {t : List W} {named named' : Bool} {x : W} (T : TI t named) (hx : isStepW x = true) (hn : Dn.nw 1 x = true) (h1 : wd x = "free" → t.countP (fun x => decide (wd x = "free")) < 1) (h2 : isNT x = true → t.countP isNT < 2) (h3 : wd x = "look" → t.countP (fun x => decide (wd x = "look")) < 1 ∧ t.all isNT = true)
    (h4 : thatB x = true → t.any isNT = true) (h5 : named' = true → isNT x = true ∨ t.any isNT = true) : TI (t ++ [x]) named' where
  st := fun y hy => by
    rcases List.mem_append.mp hy with h | h
    · exact T.st y h
    · rw [List.mem_singleton.mp h]; exact hx
  nw := fun y hy => by
    rcases List.mem_append.mp hy with h | h
    · exact T.nw y h
    · rw [List.mem_singleton.mp h]; exact hn
  cf := by
    rw [List.countP_append, List.countP_singleton]
    have := T.cf
    by_cases e : wd x = "free"
    · have := h1 e
      simp only [e, decide_true, if_true]
      omega
    · simp only [e, decide_false, Bool.false_eq_true, if_false]
      omega
  cn := by
    rw [List.countP_append, List.countP_singleton]
    have := T.cn
    by_cases e : isNT x = true
    · have := h2 e
      rw [if_pos e]
      omega
    · rw [if_neg e]
      omega
  cl := by
    rw [List.countP_append, List.countP_singleton]
    have := T.cl
    by_cases e : wd x = "look"
    · have := (h3 e).1
      simp only [e, decide_true, if_true]
      omega
    · simp only [e, decide_false, Bool.false_eq_true, if_false]
      omega
  wl := fun i hi => by
    rw [List.length_append, List.length_singleton] at hi
    by_cases e : i = t.length
    · subst e
      rw [wellB_last]
      have a : (decide (wd x = "look") && !(t.all isNT)) = false := by
        by_cases e : wd x = "look"
        · simp only [(h3 e).2, Bool.not_true, Bool.and_false]
        · simp only [e, decide_false, Bool.false_and]
      rw [a]
      cases e : thatB x with
      | false => rfl
      | true => simp only [h4 e]; rfl
    · rw [wellB_append (by omega)]
      exact T.wl i (by omega)
  nm := fun z => by
    rw [List.any_append]
    rcases h5 z with e | e
    · simp [e]
    · simp [e]
theorem TI.nil : TI [] false := ⟨fun _ h => by simp at h, fun _ h => by simp at h, by simp, by simp, by simp, fun i h => by simp at h, fun h => by cases h⟩
/-- a trick that was drawn -/
structure Tk (t : List W) : Prop where
  is : isTrickW (.tup t) = true
  nw : ∀ x ∈ t, nw 1 x = true
  len : t.length ≤ 8
theorem Tk.st {t : List W} (T : Tk t) : t.all isStepW = true := by
  have := T.is
  simp only [isTrickW, Bool.and_eq_true_iff] at this
  exact this.1.1.2
theorem Tk.steps {t : List W} (T : Tk t) : Steps t := ⟨T.st, List.all_eq_true.mpr fun x hx => sh_le (by decide) (nw_sh 1 x (T.nw x hx)), Nat.le_trans T.len (by decide)⟩
theorem TI.tk {t : List W} {named : Bool} (T : TI t named) : Tk (t.take 8) where
  is := by
    have sub : ∀ p : W → Bool, (t.take 8).countP p ≤ t.countP p := fun p => List.Sublist.countP_le (List.take_sublist 8 t)
    simp only [isTrickW, Bool.and_eq_true_iff]
    refine ⟨⟨⟨decide_eq_true (by simp; omega), List.all_eq_true.mpr fun x hx => T.st x (List.mem_of_mem_take hx)⟩, ⟨decide_eq_true (Nat.le_trans (sub _) (Nat.le_trans T.cf (by decide))), decide_eq_true (Nat.le_trans (sub _) T.cn)⟩, decide_eq_true (Nat.le_trans (sub _) T.cl)⟩, List.all_eq_true.mpr fun i hi => ?_⟩
    have hi' : i < t.length ∧ i < 8 := by simp at hi; omega
    have := T.wl i hi'.1
    unfold wellB at this ⊢
    rw [List.getElem?_take_of_lt hi'.2, List.take_take, Nat.min_eq_left (by omega)]
    exact this
  nw := fun x hx => T.nw x (List.mem_of_mem_take hx)
  len := by simp; omega
theorem look_step {w : W} {u : Int} (hw : w ∈ [W.str "that", W.str "that", W.int (1 + u)]) (u0 : 0 ≤ u) (u1 : u < 9) : isStepW (.tup [.str "look", w]) = true ∧ nw 1 (.tup [.str "look", w]) = true := by
  have h : w = .str "that" ∨ w = .int (1 + u) := by simpa using hw
  have w0 : nw 0 w = true := by
    rcases h with rfl | rfl
    · exact nwS 0 (by decide +kernel)
    · simp
  constructor
  · rcases h with rfl | rfl
    · simp [isStepW, isManyW]
    · simp [isStepW, isManyW, isNumW]; omega
  · rw [nw, Bool.and_eq_true_iff]
    exact ⟨by simp, by simp [w0, nwS 0 (show ("look" : Str) ∈ Wds by decide +kernel)]⟩
theorem w_trick {k n : Nat} {size most : Int} {h : AH} {Q : W → AH → Prop} (hk : 4 ≤ k) (hs : St n h) (h2 : 2 ≤ size) (h40 : size ≤ 40) (m0 : 0 ≤ most) (m1 : most ≤ 50) (q : ∀ t h', Tk t → St n h' → Same n h h' → Q (.tup t) h') : Wp (callK Tb k 21 [.ref n, .int size, .int most] h) Q := by
  rw [callK_ge (f := f21) rfl (by omega)]
  refine fnRun_wp ?_
  simp only [f21, d21_law_trick, start0]
  obtain ⟨P, hP⟩ : ∃ P : Env → AH → Prop, P = fun e h' => ∃ t named ws, e = [some (.ref n), some (.int size), some (.int most), some (.tup t), ws, some (.bl named), none, none, none] ∧ TI t named ∧ t.length ≤ 2 ∧ St n h' ∧ Same n h h' := ⟨_, rfl⟩
  refine Ws_cut (fun e h' => e = [some (.ref n), some (.int size), some (.int most), some (.tup []), some (.lst []), some (.bl false), none, none, none] ∧ h' = h) ?_ ?_
  · simp [line]
  rintro e h' ⟨rfl, e0⟩
  obtain rfl := e0.symm
  refine Ws_cut P ?_ ?_
  · simp [Wp_ofO, line]
    refine w_take (by omega) hs (by decide) (by decide) fun v h1 v0 v1 s1 a1 => ?_
    have e1 := eq_sh (h := h1) (x := .int v) (y := .int 0) (by simp) (by simp)
    simp [e1]
    split
    · refine w_asking (by omega) s1 fun x h3 hx s3 a3 => ?_
      have T1 : TI [x] true := by
        have := TI.nil.snoc (named' := true) hx.st hx.nw (fun e => absurd e hx.nf) (fun _ => by simp) (fun e => absurd e hx.nl) (fun e => by rw [hx.that] at e; cases e) (fun _ => .inl hx.nt)
        simpa using this
      refine w_take (by omega) s3 (by decide) (by decide) fun u h4 u0 u1 s4 a4 => ?_
      have e2 := eq_sh (h := h4) (x := .int u) (y := .int 0) (by simp) (by simp)
      simp [e2]
      split
      · refine w_take (by omega) s4 (by decide) (by decide) fun z h5 z0 z1 s5 a5 => ?_
        simp
        refine w_of (by omega) s5 (by simp) (by simp) fun w h6 hw s6 a6 => ?_
        obtain ⟨l1, l2⟩ := look_step hw z0 z1
        have T2 : TI ([x] ++ [.tup [.str "look", w]]) true := T1.snoc (named' := true) l1 l2 (fun e => by simp [wd] at e) (fun e => by simp [isNT, wd] at e) (fun _ => ⟨by simp [hx.nl], by simp [hx.nt]⟩) (fun _ => by simp [hx.nt]) (fun _ => .inr (by simp [hx.nt]))
        simp [addV, line]
        rw [hP]
        exact ⟨_, true, _, rfl, T2, by simp, s6, a1.trans (a3.trans (a4.trans (a5.trans a6)))⟩
      · rw [hP]
        exact ⟨_, true, _, rfl, T1, by simp, s4, a1.trans (a3.trans a4)⟩
    · rw [hP]
      exact ⟨_, false, _, rfl, TI.nil, by simp, s1, a1⟩
  · rw [hP]
    clear hP P
    rintro e h1 ⟨t, named, ws, rfl, T, tl, s1, a1⟩
    obtain ⟨P2, hP2⟩ : ∃ P2 : Env → AH → Prop, P2 = fun e h' => ∃ t named a b c d, e = [some (.ref n), some (.int size), some (.int most), some (.tup t), a, some (.bl named), b, c, d] ∧ TI t named ∧ St n h' ∧ Same n h h' := ⟨_, rfl⟩
    refine Ws_cut P2 ?_ ?_
    · simp [Wp_ofO]
      refine w_take (by omega) s1 (by omega) (by omega) fun v h3 v0 v1 s3 a3 => ?_
      have rg := rgOk_of (i := 0) (j := v) (by omega) (by omega) (by omega) (by omega)
      simp [rgSrc_ok rg]
      refine for_all (fun j e h' => ∃ t named a b c d, e = [some (.ref n), some (.int size), some (.int most), some (.tup t), a, some (.bl named), b, c, d] ∧ TI t named ∧ t.length ≤ 2 + j ∧ St n h' ∧ Same n h h') ⟨t, named, _, _, _, _, rfl, T, by omega, s3, a1.trans a3⟩ ?_ ?_
      · clear T tl named t ws s1 s3 a1 a3 h1 h3
        rintro j e h1 x ⟨t, named, a, b, c, d, rfl, T, tl, s1, a1⟩ hx
        obtain ⟨rfl, hj⟩ := rgW_get hx
        have hj' : (j : Int) < 51 := by omega
        refine ⟨_, rfl, ?_⟩
        have tst : t.all isStepW = true := List.all_eq_true.mpr T.st
        have tsh : t.all (sh 19) = true := List.all_eq_true.mpr fun x hx => sh_le (by decide) (nw_sh 1 x (T.nw x hx))
        have tll : t.length ≤ line := Nat.le_trans (show t.length ≤ 100 by omega) (by decide)
        have e1 : ∀ env : Env, 8 ≤ env.length → lcL (.one 7) yesT (dBin idxW (dVar 7) (dC (.int 0))) chkT env t [] h1 = .ok (wds t) h1 := fun env he => by
          refine lc_map rfl (fun x => .str (wd x)) tll fun x hm => ⟨_, rfl, ?_⟩
          have := wd_get (h := h1) (T.st x hm)
          simp [show 7 < env.length by omega, this]
        obtain ⟨P, hP⟩ : ∃ P : Env → AH → Prop, P = fun e h' => ∃ t named a b c d, e = [some (.ref n), some (.int size), some (.int most), some (.tup t), a, some (.bl named), b, c, d] ∧ TI t named ∧ t.length ≤ 2 + (j + 1) ∧ St n h' ∧ Same n h h' := ⟨_, rfl⟩
        have goal : ∀ e h', (chkT h' = true ∧ ∃ t named a b c d, e = [some (.ref n), some (.int size), some (.int most), some (.tup t), a, some (.bl named), b, c, d] ∧ TI t named ∧ t.length ≤ 2 + (j + 1) ∧ St n h' ∧ Same n h h') ↔ P e h' := fun e h' => by rw [hP]; exact ⟨fun z => z.2, fun z => ⟨rfl, z⟩⟩
        simp only [goal]
        simp [Wp_ofO, subL, Tgt.slots, e1, wipeE]
        refine w_take (by omega) s1 (by decide) (by decide) fun w h3 w0 w1 s3 a3 => ?_
        have c1 := mCount_wds (h := h3) (z := "free") tst tsh (by simp)
        have c2 := mCount_wds (h := h3) (z := "name") tst tsh (by simp)
        have c3 := mCount_wds (h := h3) (z := "think") tst tsh (by simp)
        have nt := nt_count t
        have q1 := eq_sh (h := h3) (x := .int w) (y := .int 0) (by simp) (by simp)
        have q2 := eq_sh (h := h3) (x := .int w) (y := .int 1) (by simp) (by simp)
        have hfree : isStepW (.tup [.str "free"]) = true ∧ nw 1 (.tup [.str "free"]) = true := ⟨by simp [isStepW], by
          rw [nw, Bool.and_eq_true_iff]
          exact ⟨by simp, by simp [nwS 0 (show ("free" : Str) ∈ Wds by decide +kernel)]⟩⟩
        have tadd : ∀ y : W, addV (.tup t) (.tup [y]) h3 = some (.tup (t ++ [y])) := fun y => by
          show (if t.length + [y].length ≤ line then _ else _) = _
          rw [if_pos]
          exact Nat.le_trans (show t.length + 1 ≤ 101 by omega) (by decide)
        have tadd' : ∀ (y : W) (h6 : AH), addV (.tup t) (.tup [y]) h6 = some (.tup (t ++ [y])) := fun y h6 => tadd y
        have fin : ∀ (y : W) (nm : Bool) (h6 : AH), TI (t ++ [y]) nm → St n h6 → Same n h3 h6 → P [some (.ref n), some (.int size), some (.int most), some (.tup (t ++ [y])), some (.lst (wds t)), some (.bl nm), some (.int (j : Nat)), c, some (.int w)] h6 := fun y nm h6 T6 s6 a6 => by
          rw [hP]
          exact ⟨_, nm, _, _, _, _, rfl, T6, by simp; omega, s6, a1.trans (a3.trans a6)⟩
        have hplain : Wp (callK Tb (k - 1) 19 [.ref n, .int size, .bl named] h3) fun a h => Wp (match addV (.tup t) (.tup [a]) h with
            | some r => Res.ok r h
            | none => match catV (.tup t) (.tup [a]) h with
              | some r => Res.ok (.lst r) h
              | none => Res.stuck) fun a h => P [some (.ref n), some (.int size), some (.int most), some a, some (.lst (wds t)), some (.bl named), some (.int (j : Nat)), c, some (.int w)] h := by
          refine w_step (by omega) s3 h2 h40 fun y h6 py s6 a6 => ?_
          simp only [tadd', Wp_ok]
          exact fin y named h6 (T.snoc py.st py.nw (fun e => absurd e py.nf) (fun e => by rw [py.nt] at e; cases e) (fun e => absurd e py.nl) (fun e => T.nm (py.that e)) (fun e => .inr (T.nm e))) s6 a6
        simp [q1, q2, c1, c2, c3, tyW, Wp_ofO, line]
        generalize hF : t.countP (fun x => decide (wd x = "free")) = F at *
        generalize hA : t.countP (fun x => decide (wd x = "name")) = A at *
        generalize hB : t.countP (fun x => decide (wd x = "think")) = B at *
        have hask : (A : Int) + B < 2 → Wp (callK Tb (k - 1) 20 [.ref n] h3) fun a h => Wp (match addV (.tup t) (.tup [a]) h with
            | some r => Res.ok r h
            | none => match catV (.tup t) (.tup [a]) h with
              | some r => Res.ok (.lst r) h
              | none => Res.stuck) fun a h => P [some (.ref n), some (.int size), some (.int most), some a, some (.lst (wds t)), some (.bl true), some (.int (j : Nat)), c, some (.int w)] h := fun hlt => by
          refine w_asking (by omega) s3 fun y h6 py s6 a6 => ?_
          simp only [tadd', Wp_ok]
          exact fin y true h6 (T.snoc py.st py.nw (fun e => absurd e py.nf) (fun _ => by omega) (fun e => absurd e py.nl) (fun e => by rw [py.that] at e; cases e) (fun _ => .inl py.nt)) s6 a6
        split
        · split
          · rename_i hlt
            simp only [tadd', Wp_ok]
            exact fin _ named h3 (T.snoc hfree.1 hfree.2 (fun _ => by rw [hF]; omega) (fun e => by simp [isNT, wd] at e) (fun e => by simp [wd] at e) (fun e => by simp [thatB] at e) (fun e => .inr (T.nm e))) s3 (Same.refl _ _)
          · split
            · split
              · rename_i hlt
                exact hask hlt
              · exact hplain
            · exact hplain
        · split
          · split
            · rename_i hlt
              exact hask hlt
            · exact hplain
          · exact hplain
      · rintro e h4 ⟨t, named, a, b, c, d, rfl, T, _, s4, a4⟩
        rw [hP2]
        exact ⟨t, named, a, b, c, d, rfl, T, s4, a4⟩
    · rw [hP2]
      rintro e h5 ⟨t, named, a, b, c, d, rfl, T, s5, a5⟩
      have ct : cutW t none (some 8) = t.take 8 := cutW_to t 8
      simp [Wp_ofO, ct]
      exact q _ _ T.tk s5 a5
end Dn
end
section
set_option Elab.async false
set_option linter.all false
set_option maxRecDepth 100000
set_option maxHeartbeats 4000000
namespace Dn
open PySem PySem.Spec PyProof.Rows L2
/-! ### values that are drawn -/
def gd : Nat → W → Bool
  | _, .non => true
  | _, .bl _ => true
  | _, .int _ => true
  | _, .str x => SeqAt.shaped (.str x)
  | n + 1, .tup xs => decide (xs.length ≤ 200) && xs.all (gd n)
  | n + 1, .lst xs => decide (xs.length ≤ 200) && xs.all (gd n)
  | _, _ => false
@[simp] theorem gdI (n : Nat) (i : Int) : gd n (.int i) = true := by cases n <;> rfl
@[simp] theorem gdN (n : Nat) : gd n .non = true := by cases n <;> rfl
@[simp] theorem gdB (n : Nat) (b : Bool) : gd n (.bl b) = true := by cases n <;> rfl
@[simp] theorem gdT (n : Nat) (xs : List W) : gd (n + 1) (.tup xs) = (decide (xs.length ≤ 200) && xs.all (gd n)) := rfl
@[simp] theorem gdL (n : Nat) (xs : List W) : gd (n + 1) (.lst xs) = (decide (xs.length ≤ 200) && xs.all (gd n)) := rfl
theorem gdS (n : Nat) {x : Str} (h : SeqAt.shaped (.str x) = true) : gd n (.str x) = true := by cases n <;> exact h
theorem gd_sh : ∀ (n : Nat) (w : W), gd n w = true → sh n w = true
  | n, .non, _ => by cases n <;> rfl
  | n, .bl _, _ => by cases n <;> rfl
  | n, .int _, _ => by cases n <;> rfl
  | n, .str x, h => sh_str n (by cases n <;> exact h)
  | n + 1, .tup xs, h => by
    rw [gdT, Bool.and_eq_true_iff] at h
    rw [shT]
    exact List.all_eq_true.mpr fun x hx => gd_sh n x (List.all_eq_true.mp h.2 x hx)
  | n + 1, .lst xs, h => by
    rw [gdL, Bool.and_eq_true_iff] at h
    rw [shL]
    exact List.all_eq_true.mpr fun x hx => gd_sh n x (List.all_eq_true.mp h.2 x hx)
  | 0, .tup _, h => by simp [gd] at h
  | 0, .lst _, h => by simp [gd] at h
  | n, .dct _ _, h => by cases n <;> simp [gd] at h
  | n, .ref _, h => by cases n <;> simp [gd] at h
  | n, .glo _, h => by cases n <;> simp [gd] at h
  | n, .scr _, h => by cases n <;> simp [gd] at h
  | n, .erx _, h => by cases n <;> simp [gd] at h
  | n, .err _ _, h => by cases n <;> simp [gd] at h
  | n, .any, h => by cases n <;> simp [gd] at h
theorem gd_up : ∀ (n : Nat) (w : W), gd n w = true → gd (n + 1) w = true
  | n, .non, _ => by cases n <;> rfl
  | n, .bl _, _ => by cases n <;> rfl
  | n, .int _, _ => by cases n <;> rfl
  | n, .str x, h => gdS (n + 1) (by cases n <;> exact h)
  | n + 1, .tup xs, h => by
    rw [gdT, Bool.and_eq_true_iff] at h
    rw [gdT, Bool.and_eq_true_iff]
    exact ⟨h.1, List.all_eq_true.mpr fun x hx => gd_up n x (List.all_eq_true.mp h.2 x hx)⟩
  | n + 1, .lst xs, h => by
    rw [gdL, Bool.and_eq_true_iff] at h
    rw [gdL, Bool.and_eq_true_iff]
    exact ⟨h.1, List.all_eq_true.mpr fun x hx => gd_up n x (List.all_eq_true.mp h.2 x hx)⟩
  | 0, .tup _, h => by simp [gd] at h
  | 0, .lst _, h => by simp [gd] at h
  | n, .dct _ _, h => by cases n <;> simp [gd] at h
  | n, .ref _, h => by cases n <;> simp [gd] at h
  | n, .glo _, h => by cases n <;> simp [gd] at h
  | n, .scr _, h => by cases n <;> simp [gd] at h
  | n, .erx _, h => by cases n <;> simp [gd] at h
  | n, .err _ _, h => by cases n <;> simp [gd] at h
  | n, .any, h => by cases n <;> simp [gd] at h
theorem gd_le {n m : Nat} (h : n ≤ m) {w : W} (hw : gd n w = true) : gd m w = true := by
  induction h with
  | refl => exact hw
  | step _ ih => exact gd_up _ _ ih
theorem nw_gd : ∀ (n : Nat) (w : W), nw n w = true → gd n w = true
  | n, .non, _ => by cases n <;> rfl
  | n, .int _, _ => by cases n <;> rfl
  | n, .str x, h => gdS n (wds_shaped x (by cases n <;> exact List.contains_iff_mem.mp h))
  | n + 1, .tup xs, h => by
    rw [nw, Bool.and_eq_true_iff] at h
    rw [gdT, Bool.and_eq_true_iff]
    exact ⟨decide_eq_true (by have := of_decide_eq_true h.1; omega), List.all_eq_true.mpr fun x hx => nw_gd n x (List.all_eq_true.mp h.2 x hx)⟩
  | 0, .tup _, h => by simp [nw] at h
  | n, .bl _, h => by cases n <;> simp [nw] at h
  | n, .lst _, h => by cases n <;> simp [nw] at h
  | n, .dct _ _, h => by cases n <;> simp [nw] at h
  | n, .ref _, h => by cases n <;> simp [nw] at h
  | n, .glo _, h => by cases n <;> simp [nw] at h
  | n, .scr _, h => by cases n <;> simp [nw] at h
  | n, .erx _, h => by cases n <;> simp [nw] at h
  | n, .err _ _, h => by cases n <;> simp [nw] at h
  | n, .any, h => by cases n <;> simp [nw] at h
/-- a run that was drawn -/
theorem chW_ne {x : W} {size : Int} (hx : isStepW x = true) (ha : isAsk x = true) (h0 : 1 ≤ size) (h1 : size ≤ 1000) : chW x size ≠ [] ∧ (chW x size).length < 2000 ∧ ∀ w ∈ chW x size, ∃ i : Int, w = .int i := by
  have hints : ∀ a b : Int, ∀ w ∈ rgW a b, ∃ i : Int, w = .int i := fun a b w hw => by
    unfold rgW at hw
    obtain ⟨n, _, rfl⟩ := List.mem_map.mp hw
    exact ⟨_, rfl⟩
  unfold chW
  by_cases hf : wd x = "free"
  · simp only [hf, if_true]
    refine ⟨fun z => ?_, by rw [rgW_len]; omega, hints _ _⟩
    have := congrArg List.length z
    rw [rgW_len] at this
    simp at this
    omega
  · simp only [hf, if_false]
    obtain ⟨lo, hi, e, a1, a2, a3, a4⟩ := ask_shape hx ha hf
    rw [e]
    refine ⟨fun z => ?_, by simp only [rgW_len]; omega, hints _ _⟩
    have := congrArg List.length z
    simp only [rgW_len, List.length_nil] at this
    omega
theorem w_run {k n : Nat} {t : List W} {size : Int} {h : AH} {Q : W → AH → Prop} (hk : 3 ≤ k) (hs : St n h) (T : Tk t) (h2 : 2 ≤ size) (h40 : size ≤ 40) (q : ∀ c os h', nw 2 (.tup [c, .tup os]) = true → (∀ o ∈ os, ∃ i : Int, o = .int i) → St n h' → Same n h h' → Q (.tup [c, .tup os]) h') : Wp (callK Tb k 23 [.ref n, .tup t, .int size] h) Q := by
  rw [callK_ge (f := f23) rfl (by omega)]
  refine fnRun_wp ?_
  have H := T.steps
  have a1 := s_lasked (k := k - 1) (h := h) (by omega) H
  have Ha := H.filter isAsk
  have hask : ∀ x ∈ t.filter isAsk, isAsk x = true := fun x hx => (List.mem_filter.mp hx).2
  have hl8 : (t.filter isAsk).length ≤ 8 := Nat.le_trans (List.length_filter_le _ _) T.len
  simp only [f23, d23_law_run, start0]
  simp [Wp_ofO, a1, subL, Tgt.slots, wipeE]
  refine lc_inv (xs := t.filter isAsk) (fun j acc h' => acc.length = j ∧ (∀ o ∈ acc, ∃ i : Int, o = .int i) ∧ St n h' ∧ Same n h h') 0 [] h ⟨rfl, fun _ z => by simp at z, hs, Same.refl _ _⟩ (Nat.zero_le _) (by have := Ha.lt; simp; omega) ?_ ?_
  · rintro j acc h1 x ⟨l1, l2, s1, m1⟩ hx
    have hm : x ∈ t.filter isAsk := List.mem_of_getElem? hx
    refine ⟨_, rfl, ?_⟩
    have c1 := s_choices (k := k - 1) (size := size) (h := h1) (by omega) (List.all_eq_true.mp Ha.st _ hm) (List.all_eq_true.mp Ha.sh _ hm) (hask _ hm) (by omega) (by omega)
    obtain ⟨n1, n2, n3⟩ := chW_ne (size := size) (List.all_eq_true.mp Ha.st _ hm) (hask _ hm) (by omega) (by omega)
    simp [c1]
    refine w_of (by omega) s1 n1 (by omega) fun y h2 hy s2 m2 => ?_
    refine ⟨by omega, fun o ho => ?_, s2, m1.trans m2⟩
    rcases ho with ho | ho
    · exact l2 o ho
    · rw [ho]; exact n3 y hy
  · rintro acc h1 ⟨l1, l2, s1, m1⟩
    have hgt : ∀ h : AH, gTuple [.lst acc] h = some (.tup acc) := fun h => by simp [gTuple, lstOf]
    have a2 := s_look (k := k - 1) (h := h1) (by omega) H
    have nwa : nw 1 (.tup acc) = true := by
      rw [nw, Bool.and_eq_true_iff]
      refine ⟨decide_eq_true (by omega), List.all_eq_true.mpr fun o ho => ?_⟩
      obtain ⟨i, rfl⟩ := l2 o ho
      simp
    simp [hgt, a2, line]
    split
    · refine q .non acc h1 ?_ l2 s1 m1
      rw [nw, Bool.and_eq_true_iff]
      exact ⟨by simp, by simp [nwa]⟩
    · refine w_take (by omega) s1 (by omega) (by omega) fun v h3 v0 v1 s3 m3 => ?_
      refine q (.int v) acc h3 ?_ l2 s3 (m1.trans m3)
      rw [nw, Bool.and_eq_true_iff]
      exact ⟨by simp, by simp [nwa]⟩
def anyBase : List W := [.int 0, .int (-1), .int 1, .int 2, .int 5, .int 40, .int 41, .bl true, .bl false, .non, .str "", .str "that", .str "on", .str "under", .str "cut", .str "free", .int (10 ^ 30), .tup [], .lst [], .tup [.str "turn"], .tup [.str "away"], .tup [.str "cut", .int 3], .tup [.str "look", .str "that"]]
theorem anyBase_gd : anyBase.all (gd 1) = true := by decide +kernel
theorem w_any {n : Nat} : ∀ (d : Nat) {k : Nat} {h : AH} {Q : W → AH → Prop}, 3 + d ≤ k → St n h → (∀ r h', gd (d + 1) r = true → St n h' → Same n h h' → Q r h') → Wp (callK Tb k 24 [.ref n, .int d] h) Q := by
  intro d
  induction d with
  | zero =>
    intro k h Q hk hs q
    rw [callK_ge (f := f24) rfl (by omega)]
    refine fnRun_wp ?_
    simp only [f24, d24_law_any_value, start0]
    simp [Wp_ofO, line]
    refine w_take (by omega) hs (by decide) (by decide) fun v h1 v0 v1 s1 m1 => ?_
    have e1 := eq_sh (h := h1) (x := .int 0) (y := .int 0) (by simp) (by simp)
    simp [e1, Wp_ofO, line, v_pow, catV, lstOf, addV]
    refine w_of (by omega) s1 (by simp) (by simp) fun r h2 hr s2 m2 => ?_
    exact q r h2 (List.all_eq_true.mp anyBase_gd r hr) s2 (m1.trans m2)
  | succ d ih =>
    intro k h Q hk hs q
    rw [callK_ge (f := f24) rfl (by omega)]
    refine fnRun_wp ?_
    simp only [f24, d24_law_any_value, start0]
    simp [Wp_ofO, line]
    refine w_take (by omega) hs (by decide) (by decide) fun v h1 v0 v1 s1 m1 => ?_
    have e1 := eq_sh (h := h1) (x := .int ((d : Int) + 1)) (y := .int 0) (by simp) (by simp)
    have hne : ¬ ((d : Int) + 1 = 0) := by omega
    simp [e1, hne, Wp_ofO, line, v_pow, catV, lstOf, addV]
    split
    · refine w_of (by omega) s1 (by simp) (by simp) fun r h2 hr s2 m2 => ?_
      exact q r h2 (gd_le (by omega) (List.all_eq_true.mp anyBase_gd r hr)) s2 (m1.trans m2)
    · rename_i hv5
      refine w_take (by omega) s1 (by decide) (by decide) fun u h2 u0 u1 s2 m2 => ?_
      have rg := rgOk_of (i := 0) (j := u) (by omega) (by omega) (by omega) (by omega)
      simp [rgSrc_ok rg, subL, Tgt.slots, wipeE]
      refine lc_inv (xs := rgW 0 u) (fun j acc h' => acc.length = j ∧ acc.all (gd (d + 1)) = true ∧ St n h' ∧ Same n h h') 0 [] h2 ⟨rfl, rfl, s2, m1.trans m2⟩ (Nat.zero_le _) (by rw [rgW_len]; show 0 + _ ≤ 16777216; omega) ?_ ?_
      · rintro j acc h3 x ⟨l1, l2, s3, m3⟩ hx
        refine ⟨_, rfl, ?_⟩
        simp [Wp_ofO]
        refine ih (by omega) s3 fun r h4 hr s4 m4 => ?_
        refine ⟨by omega, ?_, s4, m3.trans m4⟩
        exact ⟨fun y hy => List.all_eq_true.mp l2 y hy, hr⟩
      · rintro acc h3 ⟨l1, l2, s3, m3⟩
        rw [rgW_len] at l1
        have hgt : ∀ h : AH, gTuple [.lst acc] h = some (.tup acc) := fun h => by simp [gTuple, lstOf]
        have g1 : gd (d + 1 + 1) (.tup acc) = true := by
          rw [gdT, Bool.and_eq_true_iff]
          exact ⟨decide_eq_true (by omega), l2⟩
        have g2 : gd (d + 1 + 1) (.lst acc) = true := by
          rw [gdL, Bool.and_eq_true_iff]
          exact ⟨decide_eq_true (by omega), l2⟩
        have hv : v = 5 ∨ v = 6 ∨ v = 7 := by omega
        rcases hv with rfl | rfl | rfl
        · simp [hgt, line, getI]
          exact q _ h3 g2 s3 m3
        · simp [hgt, line, getI]
          exact q _ h3 g1 s3 m3
        · simp [hgt, line, getI]
          exact q _ h3 g1 s3 m3
end Dn
end
section
set_option Elab.async false
set_option linter.all false
set_option maxRecDepth 100000
set_option maxHeartbeats 4000000
namespace Dn
open PySem PySem.Spec PyProof.Rows L2
/-! ### values that are spoiled -/
def spA (Γ : Calls) : DS := (sSeq (sAsg (dLst false (dCons (dOwn Γ 24 2 (dCons (dVar 0) (dCons (dC (.int 1)) dNil))) (dCons (dLst false (dCons (dVar 1) dNil)) dNil))) (gSet 2))
  (sSeq (sIf (Dn.tVal (dIsi BT.int (dVar 1))) (sSeq (sAsg (dAdd false (dVar 2) (dLst false (dCons (dAdd false (dCall gInt (dCons (dVar 1) dNil)) (dC (.int 1))) (dCons (dBin subV (dCall gInt (dCons (dVar 1) dNil)) (dC (.int 1))) (dCons (dAdd false (dCall gInt (dCons (dVar 1) dNil)) (dC (.int 6))) (dCons (dC (.bl true)) dNil)))))) (gSet 2))
  sNext) sNext)
  (sSeq (sIf (Dn.tVal (dIsi BT.str (dVar 1))) (sSeq (sAsg (dAdd false (dVar 2) (dLst false (dCons (dAdd false (dVar 1) (dC (.str "s"))) (dCons (dMt "str" mUpper (dVar 1) dNil) (dCons (dC (.str "deal")) (dCons (dC (.str "piles")) (dCons (dC (.str "name")) (dCons (dC (.str "think")) dNil)))))))) (gSet 2))
  sNext) sNext)
  (sSeq (sRet (dOwn Γ 18 2 (dCons (dVar 0) (dCons (dVar 2) dNil))))
  sNext))))
def spB (Γ : Calls) : DS := (sSeq (sPar2 3 4 (dCons (dOwn Γ 17 2 (dCons (dVar 0) (dCons (dCall gLenW (dCons (dVar 1) dNil)) dNil))) (dCons (dOwn Γ 17 2 (dCons (dVar 0) (dCons (dC (.int 8)) dNil))) dNil)))
  (sSeq (sIf (Dn.tVal (dBin eqV' (dVar 4) (dC (.int 0)))) (sSeq (sRet (dAdd false (dSl false (dVar 1) oNone (oSome (dVar 3))) (dSl false (dVar 1) (oSome (dAdd false (dVar 3) (dC (.int 1)))) oNone)))
  sNext) sNext)
  (sSeq (sIf (Dn.tVal (dBin eqV' (dVar 4) (dC (.int 1)))) (sSeq (sRet (dAdd false (dAdd false (dSl false (dVar 1) oNone (oSome (dVar 3))) (dBin mulV (dSl false (dVar 1) (oSome (dVar 3)) (oSome (dAdd false (dVar 3) (dC (.int 1))))) (dC (.int 2)))) (dSl false (dVar 1) (oSome (dAdd false (dVar 3) (dC (.int 1)))) oNone)))
  sNext) sNext)
  (sSeq (sIf (Dn.tVal (dBin eqV' (dVar 4) (dC (.int 2)))) (sSeq (sRet (dStep (dVar 1) oNone oNone (oSome (dUn negV (dC (.int 1))))))
  sNext) sNext)
  (sSeq (sIf (Dn.tVal (dBin eqV' (dVar 4) (dC (.int 3)))) (sSeq (sRet (dCallL false gList (dCons (dVar 1) dNil)))
  sNext) sNext)
  (sSeq (sRet (dAdd false (dAdd false (dSl false (dVar 1) oNone (oSome (dVar 3))) (dTup (dCons (dOwn Γ 25 2 (dCons (dVar 0) (dCons (dBin idxW (dVar 1) (dVar 3)) dNil))) dNil))) (dSl false (dVar 1) (oSome (dAdd false (dVar 3) (dC (.int 1)))) oNone)))
  sNext))))))
theorem sp_eq (Γ : Calls) : d25_law_spoiled Γ = sSeq (sIf (tOr' (tNot' (Dn.tVal (dIsi BT.tuple (dVar 1)))) (tOr' (Dn.tVal (dBin eqV' (dVar 1) (dTup dNil))) (Dn.tVal (dBin eqV' (dOwn Γ 17 2 (dCons (dVar 0) (dCons (dC (.int 6)) dNil))) (dC (.int 0)))))) (spA Γ) sNext) (spB Γ) := rfl
theorem w_any1 {n k : Nat} {h : AH} {Q : W → AH → Prop} (hk : 4 ≤ k) (hs : St n h) (q : ∀ r h', gd 2 r = true → St n h' → Same n h h' → Q r h') : Wp (callK Tb k 24 [.ref n, .int 1] h) Q := w_any (d := 1) hk hs q
theorem w_any2 {n k : Nat} {h : AH} {Q : W → AH → Prop} (hk : 5 ≤ k) (hs : St n h) (q : ∀ r h', gd 3 r = true → St n h' → Same n h h' → Q r h') : Wp (callK Tb k 24 [.ref n, .int 2] h) Q := w_any (d := 2) hk hs q
theorem wds_s : ∀ x ∈ Wds, SeqAt.shaped (.str (x ++ "s")) = true ∧ SeqAt.shaped (.str (Txt.upper x)) = true ∧ x.length ≤ 100 := by decide +kernel
theorem wds_l : ("s" : Str).length = 1 := by decide +kernel
theorem sp_some {m : Nat} {n k : Nat} {v : W} {some' : List W} {h : AH} {Q : W → AH → Prop} (hk : 2 ≤ k) (hs : St n h) (h0 : some' ≠ []) (h1 : some'.length ≤ 100) (ha : ∀ x ∈ some', gd (m + 2) x = true) (q : ∀ r h', gd (m + 2) r = true → St n h' → Same n h h' → Q r h') : Wp (callK Tb k 18 [.ref n, .lst some'] h) Q :=
  w_of hk hs h0 (by omega) fun r h2 hr s2 m2 => q r h2 (ha r hr) s2 m2
theorem gd_one {m : Nat} {v : W} (h : nw m v = true) : gd (m + 2) (.lst [v]) = true := by
  rw [gdL, Bool.and_eq_true_iff]
  exact ⟨by simp, by simp [gd_up m v (nw_gd m v h)]⟩
theorem sp_A {n k m : Nat} {v : W} {h : AH} {N : Env → AH → Prop} {Q : W → AH → Prop} (hk : 4 ≤ k) (hs : St n h) (hv : nw m v = true) (q : ∀ r h', gd (m + 2) r = true → St n h' → Same n h h' → Q r h') : Ws (spA (callK Tb k) [some (.ref n), some v, none, none, none] h) N Q := by
  have g1 := gd_one hv
  unfold spA
  cases v with
  | non =>
    simp [Wp_ofO, line]
    refine w_any1 hk hs fun r h1 hr s1 m1 => ?_
    have hr' : gd (m + 2) r = true := gd_le (by omega) hr
    refine sp_some (m := m) (v := .non) (by omega) s1 (by simp) (by simp) ?_ fun r h2 hr2 s2 m2 => q r h2 hr2 s2 (m1.trans m2)
    intro x hx
    simp at hx
    rcases hx with rfl | rfl
    · exact hr'
    · exact g1
  | int i =>
    simp [Wp_ofO, line]
    refine w_any1 hk hs fun r h1 hr s1 m1 => ?_
    have hr' : gd (m + 2) r = true := gd_le (by omega) hr
    simp [Wp_ofO, line, addV, catV, lstOf]
    refine sp_some (m := m) (v := .int i) (by omega) s1 (by simp) (by simp) ?_ fun r h2 hr2 s2 m2 => q r h2 hr2 s2 (m1.trans m2)
    intro x hx
    simp at hx
    rcases hx with rfl | rfl | rfl | rfl | rfl | rfl
    · exact hr'
    · exact g1
    all_goals simp
  | str i =>
    have hi : i ∈ Wds := by cases m <;> exact List.contains_iff_mem.mp hv
    obtain ⟨u1, u2, u3⟩ := wds_s i hi
    have b1 : i.length + ("s" : Str).length ≤ line := by rw [wds_l]; show _ ≤ 16777216; omega
    have b2 : i.length ≤ 1000000 := by omega
    have b3 := fun h : AH => show tyW "str" h (.str i) = true from rfl
    simp [Wp_ofO, line]
    refine w_any1 hk hs fun r h1 hr s1 m1 => ?_
    have hr' : gd (m + 2) r = true := gd_le (by omega) hr
    simp [Wp_ofO, addV, catV, lstOf, b1, mUpper, b2, b3]
    simp [line]
    refine sp_some (m := m) (v := .str i) (by omega) s1 (by simp) (by simp) ?_ fun r h2 hr2 s2 m2 => q r h2 hr2 s2 (m1.trans m2)
    intro x hx
    simp at hx
    rcases hx with rfl | rfl | rfl | rfl | rfl | rfl | rfl | rfl
    · exact hr'
    · exact g1
    · exact gdS _ u1
    · exact gdS _ u2
    all_goals exact gdS _ (by decide +kernel)
  | tup xs =>
    simp [Wp_ofO, line]
    refine w_any1 hk hs fun r h1 hr s1 m1 => ?_
    have hr' : gd (m + 2) r = true := gd_le (by omega) hr
    refine sp_some (m := m) (v := .non) (by omega) s1 (by simp) (by simp) ?_ fun r h2 hr2 s2 m2 => q r h2 hr2 s2 (m1.trans m2)
    intro x hx
    simp at hx
    rcases hx with rfl | rfl
    · exact hr'
    · exact g1
  | bl b => cases m <;> simp [nw] at hv
  | lst b => cases m <;> simp [nw] at hv
  | dct _ _ => cases m <;> simp [nw] at hv
  | ref _ => cases m <;> simp [nw] at hv
  | glo _ => cases m <;> simp [nw] at hv
  | scr _ => cases m <;> simp [nw] at hv
  | erx _ => cases m <;> simp [nw] at hv
  | err _ _ => cases m <;> simp [nw] at hv
  | any => cases m <;> simp [nw] at hv
theorem pick_len {α : Type} (xs : List α) : (pickS xs none none (-1)).length ≤ xs.length := by
  refine Nat.le_trans (pickS_length _ _ _ _) ?_
  simp [Builtin.Slice.slicePlaces, Builtin.Slice.sliceAdjust]
  split <;> omega
theorem pick_mem {α : Type} {xs : List α} {lo hi : Option Int} {st : Int} {x : α} (h : x ∈ pickS xs lo hi st) : x ∈ xs := by
  unfold pickS at h
  obtain ⟨m, _, hm⟩ := List.mem_filterMap.mp h
  exact List.mem_of_getElem? hm
theorem v_addT {xs ys : List W} {h : AH} (hl : xs.length + ys.length ≤ 10000) : addV (.tup xs) (.tup ys) h = some (.tup (xs ++ ys)) := by
  have : xs.length + ys.length ≤ line := by show _ ≤ 16777216; omega
  simp only [addV, this, if_true]
theorem v_mul2 {xs : List W} {h : AH} (hl : xs.length ≤ 1000) : mulV (.tup xs) (.int 2) h = some (.tup (xs ++ xs)) := by
  show (if _ then some (W.tup (List.replicate 2 xs).flatten) else none) = _
  rw [if_pos ⟨by decide, hl⟩]
  simp [List.replicate_succ]
theorem v_rev {xs : List W} {h : AH} (hl : xs.length ≤ 1000) : stepV false (.tup xs) none none (-1) h = .ok (.tup (pickS xs none none (-1))) h := by
  have := pick_len xs
  show (if _ then _ else _) = _
  rw [if_pos ⟨by decide, by decide, by show _ ≤ 16777216; omega⟩]
theorem w_spoiled {n : Nat} : ∀ (m : Nat) {v : W} {k : Nat} {h : AH} {Q : W → AH → Prop}, m ≤ 9 → 5 + m ≤ k → nw m v = true → St n h → (∀ r h', gd (m + 2) r = true → St n h' → Same n h h' → Q r h') → Wp (callK Tb k 25 [.ref n, v] h) Q := by
  intro m
  induction m with
  | zero =>
    intro v k h Q h9 hk hv hs q
    rw [callK_ge (f := f25) rfl (by omega)]
    refine fnRun_wp ?_
    simp only [f25, sp_eq, start0]
    have A := fun h N (hs : St n h) q => sp_A (N := N) (k := k - 1) (h := h) (Q := Q) (by omega) hs hv q
    have hb : ∀ h, ∃ b, isB .tuple h v = some b ∧ b = false := fun h => by
      cases v <;> first | exact ⟨_, rfl, rfl⟩ | (simp [nw] at hv)
    obtain ⟨b, hb, rfl⟩ := hb h
    simp [hb, Wp_ofO]
    exact A h _ hs q
  | succ m ih =>
    intro v k h Q h9 hk hv hs q
    rw [callK_ge (f := f25) rfl (by omega)]
    refine fnRun_wp ?_
    simp only [f25, sp_eq, start0]
    have A := fun h N (hs : St n h) q => sp_A (N := N) (k := k - 1) (h := h) (Q := Q) (by omega) hs hv q
    by_cases ht : ∃ x xs, v = .tup (x :: xs)
    · obtain ⟨x, xs, rfl⟩ := ht
      rw [nw, Bool.and_eq_true_iff] at hv
      obtain ⟨hl, hall⟩ := hv
      have hl := of_decide_eq_true hl
      generalize hys : x :: xs = ys at *
      have hne : ys ≠ [] := by rw [← hys]; simp
      clear hys x xs
      have gall : ∀ y ∈ ys, gd (m + 2) y = true := fun y hy => gd_le (by omega) (nw_gd m y (List.all_eq_true.mp hall y hy))
      have shv : sh dl (.tup ys) = true := sh_le (n := m + 1) (by show m + 1 ≤ 20; omega) (nw_sh (m + 1) _ (by rw [nw, Bool.and_eq_true_iff]; exact ⟨decide_eq_true hl, hall⟩))
      have e0 := fun h => eq_sh (h := h) (x := .tup ys) (y := .tup []) shv (by simp)
      have e0' : PyData.eqv (toD (.tup ys)) (toD (.tup [])) = false := by
        cases ys with
        | nil => exact absurd rfl hne
        | cons => simp [PyData.eqv]
      rw [e0'] at e0
      refine Ws_cut (fun e h' => e = [some (.ref n), some (.tup ys), none, none, none] ∧ St n h' ∧ Same n h h') ?_ ?_
      · simp [Wp_ofO, e0, line]
        refine w_take (by omega) hs (by decide) (by decide) fun u h1 u0 u1 s1 m1 => ?_
        have e1 := eq_sh (h := h1) (x := .int u) (y := .int 0) (by simp) (by simp)
        simp [e1]
        split
        · exact A h1 _ s1 fun r h' hr s' m' => q r h' hr s' (m1.trans m')
        · exact ⟨s1, m1⟩
      rintro e h1 ⟨rfl, s1, m1⟩
      unfold spB
      have hp : 0 < ys.length := List.length_pos_iff.mpr hne
      have hgt := fun (zs : List W) (h : AH) (hz : zs.length ≤ 200) (hm : ∀ z ∈ zs, gd (m + 2) z = true) => show gd (m + 1 + 2) (.tup zs) = true by
        rw [gdT, Bool.and_eq_true_iff]
        exact ⟨decide_eq_true hz, List.all_eq_true.mpr hm⟩
      obtain ⟨P, hP⟩ : ∃ P : Env → AH → Prop, P = fun e h' => ∃ i w : Nat, e = [some (.ref n), some (.tup ys), none, some (.int i), some (.int w)] ∧ i < ys.length ∧ St n h' ∧ Same n h h' := ⟨_, rfl⟩
      refine Ws_cut P ?_ ?_
      · simp [Wp_ofO]
        refine w_take (by omega) s1 (by omega) (by omega) fun u h2 u0 u1 s2 m2 => ?_
        refine w_take (by omega) s2 (by omega) (by omega) fun w h3 w0 w1 s3 m3 => ?_
        rw [hP]
        obtain ⟨i, rfl⟩ : ∃ i : Nat, u = i := ⟨u.toNat, by omega⟩
        obtain ⟨j, rfl⟩ : ∃ i : Nat, w = i := ⟨w.toNat, by omega⟩
        exact ⟨i, j, rfl, by omega, s3, m1.trans (m2.trans m3)⟩
      clear s1 m1
      rw [hP]
      rintro e h1 ⟨i, w, rfl, hi, s1, m1⟩
      clear hP P
      have c1 : ((i : Int) + 1) = ((i + 1 : Nat) : Int) := by omega
      have e1 := fun j : Int => eq_sh (h := h1) (x := .int w) (y := .int j) (by simp) (by simp)
      have t1 := cutW_to ys i
      have t2 := cutW_from ys (i + 1)
      have t3 := cutW_mid ys i (i + 1)
      rw [← c1] at t2 t3
      have l1 : (ys.take i).length = i := by simp; omega
      have l2 : (ys.drop (i + 1)).length = ys.length - (i + 1) := by simp
      have l3 : ((ys.drop i).take (i + 1 - i)).length = 1 := by simp; omega
      have k1 : ∀ y ∈ ys.take i, gd (m + 2) y = true := fun y hy => gall y (List.mem_of_mem_take hy)
      have k2 : ∀ y ∈ ys.drop (i + 1), gd (m + 2) y = true := fun y hy => gall y (List.mem_of_mem_drop hy)
      have k3 : ∀ y ∈ (ys.drop i).take (i + 1 - i), gd (m + 2) y = true := fun y hy => gall y (List.mem_of_mem_drop (List.mem_of_mem_take hy))
      have p1 := pick_len ys
      have p2 : ∀ y ∈ pickS ys none none (-1), gd (m + 2) y = true := fun y hy => gall y (pick_mem hy)
      obtain ⟨y, hy⟩ : ∃ y, ys[i]? = some y := ⟨_, List.getElem?_eq_getElem hi⟩
      have hnw : nw m y = true := List.all_eq_true.mp hall y (List.mem_of_getElem? hy)
      have p3 := v_rev (xs := ys) (h := h1) (by omega)
      generalize ys.take i = a at *
      generalize ys.drop (i + 1) = b at *
      generalize (ys.drop i).take (i + 1 - i) = c at *
      generalize pickS ys none none (-1) = d at *
      have q' := fun zs hz hm => q (.tup zs) h1 (hgt zs h1 hz hm) s1 m1
      have f1 := fun h => v_addT (h := h) (xs := a) (ys := b) (by omega)
      have f2 := fun h => v_mul2 (h := h) (xs := c) (by omega)
      have f3 := fun h => v_addT (h := h) (xs := a) (ys := c ++ c) (by simp; omega)
      have f4 := fun h => v_addT (h := h) (xs := a ++ (c ++ c)) (ys := b) (by simp; omega)
      have f5 := fun h w => v_addT (h := h) (xs := a) (ys := [w]) (by simp; omega)
      have f6 := fun h w => v_addT (h := h) (xs := a ++ [w]) (ys := b) (by simp; omega)
      simp only [o_sSeq]
      simp [Wp_ofO, e1, t1, t2, t3, f1, f2, f3, p3, gList, getI_nat, hy]
      split
      · refine q' _ (by simp; omega) fun z hz => ?_
        rcases List.mem_append.mp hz with hz | hz
        · exact k1 z hz
        · exact k2 z hz
      · split
        · simp [Wp_ofO, f4]
          refine q' _ (by simp; omega) fun z hz => ?_
          rcases List.mem_append.mp hz with hz | hz
          · exact k1 z hz
          · rcases List.mem_append.mp hz with hz | hz
            · exact k3 z hz
            · rcases List.mem_append.mp hz with hz | hz
              · exact k3 z hz
              · exact k2 z hz
        · split
          · exact q' _ (by omega) p2
          · split
            · refine q _ h1 ?_ s1 m1
              rw [gdL, Bool.and_eq_true_iff]
              exact ⟨decide_eq_true (by omega), List.all_eq_true.mpr gall⟩
            · refine ih (by omega) (by omega) hnw s1 fun r h2 hr s2 m2 => ?_
              simp [Wp_ofO, line, f5, f6]
              refine q _ h2 (hgt _ h2 (by simp; omega) fun z hz => ?_) s2 (m1.trans m2)
              rcases List.mem_append.mp hz with hz | hz
              · exact k1 z hz
              · rcases List.mem_cons.mp hz with rfl | hz
                · exact hr
                · exact k2 z hz
    · refine Ws_cut (fun _ _ => False) ?_ (fun _ _ hf => hf.elim)
      by_cases h0 : v = .tup []
      · subst h0
        have e1 := eq_sh (h := h) (x := .tup []) (y := .tup []) (by simp) (by simp)
        simp [Wp_ofO, e1, line, PyData.eqv]
        exact A h _ hs q
      · have hb : ∃ b, isB .tuple h v = some b ∧ b = false := by
          cases v with
          | tup xs => cases xs with
            | nil => exact absurd rfl h0
            | cons x xs => exact absurd ⟨x, xs, rfl⟩ ht
          | _ => first | exact ⟨_, rfl, rfl⟩ | (simp [nw] at hv)
        obtain ⟨b, hb, rfl⟩ := hb
        simp [hb, Wp_ofO]
        exact A h _ hs q
end Dn
end
section
set_option Elab.async false
set_option linter.all false
set_option maxRecDepth 100000
set_option maxHeartbeats 4000000
namespace Dn
open PySem PySem.Spec PyProof.Rows L2
theorem s_told {k : Nat} {b : Bool} {h : AH} (hk : 1 ≤ k) : callK Tb k 29 [.bl b, .bl b] h = .ok (.bl true) h := by
  refine eq_of_Wp ?_
  rw [callK_ge (f := f29) rfl hk]
  refine fnRun_wp ?_
  have e := eq_sh (h := h) (x := .bl b) (y := .bl b) (by simp) (by simp)
  simp only [f29, d29_law_told_right, start0]
  simp [e, Wp_ofO]
theorem s_run {k : Nat} {xs : List W} {size : Int} {v : W} {h : AH} (hk : 6 ≤ k) (ht : Tk xs) (h0 : 2 ≤ size) (h1 : size ≤ 40) (hv : sh 19 v = true) (hl : ∀ c os, v = .tup [c, .tup os] → os.length ≤ 1000) : callK Tb k 13 [.tup xs, .int size, v] h = .ok (.bl (isRunW xs size v)) h := by
  refine eq_of_Wp ?_
  rw [callK_ge (f := f13) rfl (by omega)]
  refine fnRun_wp ?_
  have hsh : sh 2 (.tup xs) = true := nw_sh 2 (.tup xs) (by rw [nw, Bool.and_eq_true_iff]; exact ⟨decide_eq_true (by have := ht.len; omega), List.all_eq_true.mpr ht.nw⟩)
  have e1 := s_need (k := k - 1) (h := h) (n := 2) (by omega) (by decide) hsh (fun ys e => by cases e; have := ht.len; omega) ht.is
  have e2 := s_needsize (k := k - 1) (h := h) (z := size) (by omega) h0 h1
  have e3 := s_isrun (k := k - 1) (size := size) (h := h) (by omega) ht.steps (by omega) (by omega) hv hl
  simp only [f13, d13_is_run, start0]
  simp [e1, e2, e3, Wp_ofO]
theorem tk_sh {xs : List W} (ht : Tk xs) : sh 2 (.tup xs) = true := nw_sh 2 (.tup xs) (by rw [nw, Bool.and_eq_true_iff]; exact ⟨decide_eq_true (by have := ht.len; omega), List.all_eq_true.mpr ht.nw⟩)
theorem s_need' {k : Nat} {xs : List W} {h : AH} (hk : 5 ≤ k) (ht : Tk xs) : callK Tb k 6 [.tup xs] h = .ok .non h :=
  s_need (n := 2) hk (by decide) (tk_sh ht) (fun ys e => by cases e; have := ht.len; omega) ht.is
theorem s_asked {k : Nat} {xs : List W} {h : AH} (hk : 6 ≤ k) (ht : Tk xs) : callK Tb k 14 [.tup xs] h = .ok (.lst (xs.filter isAsk)) h := by
  refine eq_of_Wp ?_
  rw [callK_ge (f := f14) rfl (by omega)]
  refine fnRun_wp ?_
  have e1 := s_need' (k := k - 1) (h := h) (by omega) ht
  have e3 := s_asking (k := k - 1) (h := h) (by omega) ht.steps
  have u := (ht.steps.filter isAsk).under
  simp only [f14, d14_asked, start0]
  simp [e1, e3, Wp_ofO, u]
theorem hid_under (xs : List W) : W.unders 0 (hidW xs) = true := uns_iff.mpr fun x hx => by
  obtain ⟨p, _, rfl⟩ := List.mem_map.mp hx
  simp
theorem s_hid {k : Nat} {xs : List W} {h : AH} (hk : 6 ≤ k) (ht : Tk xs) : callK Tb k 15 [.tup xs] h = .ok (.lst (hidW xs)) h := by
  refine eq_of_Wp ?_
  rw [callK_ge (f := f15) rfl (by omega)]
  refine fnRun_wp ?_
  have e1 := s_need' (k := k - 1) (h := h) (by omega) ht
  have e3 := s_hidden (k := k - 1) (h := h) (by omega) ht.steps
  have u := hid_under xs
  simp only [f15, d15_hidden, start0]
  simp [e1, e3, Wp_ofO, u]
theorem w_bag {k : Nat} {ns : List Int} {i : Nat} {h : AH} {Q : W → AH → Prop} (hk : 1 ≤ k) (hi : i ≤ 1000) (q : ∀ h', St h.length h' → h'.length = h.length + 1 → (∀ j, j < h.length → h'[j]? = h[j]?) → Q (.ref h.length) h') : Wp (callK Tb k 16 [scrW ns, .int i] h) Q := by
  rw [callK_ge (f := f16) rfl hk]
  refine fnRun_wp ?_
  simp only [f16, d16_law_bag, start0]
  have m1 := fun (x : Int) h => v_mulR (h := h) (i := x) (j := 31) (by decide) (by decide)
  have m2 := fun (x : Int) h => v_mulL (h := h) (i := 7001) (j := x) (by decide) (by decide)
  have hp := fun h : AH => v_pow (h := h) (i := 10) (j := 18) (by decide) (by decide) (by decide)
  have key : ∀ x : Int, Q (.ref h.length) (h ++ [.lst [.int (if 10 ^ 18 ≤ x then x else 0), .int ((x * 31 + 7001 * (i : Int) + 5) % 1000000007), .int (1 + (i : Int))]]) := fun x => by
    have b1 : (0 : Int) ≤ (if 10 ^ 18 ≤ x then x else 0) := by
      split
      · have : (0 : Int) ≤ 10 ^ 18 := by decide
        omega
      · exact Int.le_refl 0
    have b2 := Int.emod_nonneg (x * 31 + 7001 * (i : Int) + 5) (show (1000000007 : Int) ≠ 0 by decide)
    have b3 := Int.emod_lt_of_pos (x * 31 + 7001 * (i : Int) + 5) (show (0 : Int) < 1000000007 by decide)
    exact q _ ⟨_, List.getElem?_concat_length, _, _, _, rfl, b1, b2, by omega, by omega, by omega⟩ (by simp) fun j hj => by rw [List.getElem?_append_left hj]
  refine Ws_cut (fun e h' => h' = h ∧ ∃ x : Int, e = [some (scrW ns), some (.int i), some (.int x), none]) ?_ ?_
  · unfold scrW
    by_cases hlt : i < ns.length
    · simp [Wp_ofO, getI_nat, hlt]
    · simp [Wp_ofO, getI_nat, hlt]
  rintro e h1 ⟨rfl, x, rfl⟩
  refine Ws_cut (fun e h' => h' = h1 ∧ e = [some (scrW ns), some (.int i), some (.int x), some (.int (if 10 ^ 18 ≤ x then x else 0))]) ?_ ?_
  · simp [Wp_ofO, hp]
    split <;> omega
  rintro e h2 ⟨rfl, rfl⟩
  simp [Wp_ofO, m1, m2, v_mod, line]
  exact key x
end Dn
end
section
set_option Elab.async false
set_option linter.all false
set_option maxRecDepth 100000
set_option maxHeartbeats 4000000
namespace Dn
open PySem PySem.Spec PyProof.Rows L2
section
variable {a : DE} {s : DA} {b u : DS} {env : Env} {h : AH}
@[simp] theorem o_dErr (x : Str) : dErr x a env h = (a env h).bind fun w h1 => .ok (.err x [w]) h1 := rfl
@[simp] theorem o_dIsX (sub : Str → Option Bool) : dIsX sub a env h = (a env h).bind fun w h1 => match w with
  | .erx c => match sub c with
    | some b => .ok (.bl b) h1
    | none => .stuck
  | .err c _ => match sub c with
    | some b => .ok (.bl b) h1
    | none => .stuck
  | _ => .stuck := rfl
@[simp] theorem o_dStrE (xs : List Str) : dStrE xs a env h = (a env h).bind fun w h1 => match w with
  | .err c [.str m] => if xs.contains c = true then .ok (.str m) h1 else .stuck
  | _ => .stuck := rfl
@[simp] theorem o_sTryAs (sub : Str → Str → Option Bool) (y : Str) (i : Nat) : sTryAs sub b y i u env h = match b env h with
  | .exc c env' h' => match sub c y with
    | some true => match u (env'.set i (some (.erx c))) h' with
      | .ret w h2 => .ret w h2
      | _ => .stuck
    | some false => .exc c env' h'
    | none => .stuck
  | r => r := rfl
end
/-- a value that is no trick -/
theorem s_need_x {k : Nat} {v : W} {h : AH} {n : Nat} (hk : 5 ≤ k) (hn : n ≤ 20) (hv : sh n v = true) (hsz : ∀ xs, v = .tup xs → xs.length ≤ 1000) (ht : isTrickW v = false) : callK Tb k 6 [v] h = .exc "InvalidTrick" h := by
  have e := s_trick (k := k - 1) (h := h) (by omega) hn hv hsz
  rw [ht] at e
  rw [callK_ge (f := f6) rfl (by omega)]
  unfold fnRun
  simp only [f6, d6_need_trick, start0]
  simp [e, sRaise, SRes.then, finX, AH.beq_self]

/-! ### errors of each class -/
def erNames : List Str := ["InvalidTrick", "InvalidSize", "InvalidWish", "InvalidRun", "InvalidAnswers", "InvalidNumber", "InvalidPlace", "InvalidCard", "InvalidStep", "InvalidText", "Unlike", "NotFixed", "NothingToUndo"]
def erW (m : Str) : List W := erNames.map fun c => .err c [.str m]
def erBits (i : Nat) : List W := (List.range 13).map fun j => .bl (decide (j = i))
theorem erBits_un (i : Nat) : W.under 0 (.lst (erBits i)) = true := by
  rw [un_lst, uns_iff]
  intro x hx
  obtain ⟨j, _, rfl⟩ := List.mem_map.mp hx
  rfl
section
variable {k : Nat} {h : AH}
theorem s_errs {m : Str} (hk : 1 ≤ k) : callK Tb k 130 [.str m] h = .ok (.lst (erW m)) h := by
  rw [callK_ge (f := f130) rfl hk]
  have e : f130.body (callK Tb (k - 1)) (start0 f130.slots [.str m]) h = .ret (.lst (erW m)) h := by kernel_rfl
  unfold fnRun
  rw [e]
  have : W.under 0 (.lst (erW m)) = true := by kernel_rfl
  exact fin_self this
theorem kinds_at {w : W} {i : Nat} (hk : 1 ≤ k) (e : f131.body (callK Tb (k - 1)) (start0 f131.slots [w]) h = .ret (.lst (erBits i)) h) : callK Tb k 131 [w] h = .ok (.lst (erBits i)) h := by
  rw [callK_ge (f := f131) rfl hk]
  unfold fnRun
  rw [e]
  exact fin_self (erBits_un i)
theorem s_kinds {m : Str} {i : Nat} {w : W} (hk : 1 ≤ k) (hi : (erW m)[i]? = some w) : callK Tb k 131 [w] h = .ok (.lst (erBits i)) h := by
  have hl := (List.getElem?_eq_some_iff.mp hi).1
  have hl : i < 13 := by simpa [erW, erNames] using hl
  refine kinds_at hk ?_
  rcases i with _ | _ | _ | _ | _ | _ | _ | _ | _ | _ | _ | _ | _ | i <;> first | (cases hi; kernel_rfl) | omega
theorem s_kindsX (hk : 1 ≤ k) : callK Tb k 131 [.erx "InvalidTrick"] h = .ok (.lst (erBits 0)) h := kinds_at hk (by kernel_rfl)
end
end Dn
end
section
set_option Elab.async false
set_option linter.all false
set_option maxRecDepth 100000
set_option maxHeartbeats 4000000
namespace Dn
open PySem PySem.Spec PyProof.Rows L2
theorem gd_tl {n : Nat} {v : W} (h : gd n v = true) : ∀ xs, v = .tup xs → xs.length ≤ 1000 := fun xs e => by
  subst e
  cases n with
  | zero => simp [gd] at h
  | succ n =>
    rw [gdT, Bool.and_eq_true_iff] at h
    have := of_decide_eq_true h.1
    omega
theorem gd_tl2 {n : Nat} {v : W} (h : gd n v = true) : ∀ c os, v = .tup [c, .tup os] → os.length ≤ 1000 := fun c os e => by
  subst e
  cases n with
  | zero => simp [gd] at h
  | succ n =>
    rw [gdT, Bool.and_eq_true_iff] at h
    exact gd_tl (List.all_eq_true.mp h.2 (.tup os) (by simp)) os rfl
theorem tk_nw {xs : List W} (ht : Tk xs) : nw 2 (.tup xs) = true := by
  rw [nw, Bool.and_eq_true_iff]
  exact ⟨decide_eq_true (by have := ht.len; omega), List.all_eq_true.mpr ht.nw⟩
theorem eqv_rf : ∀ (n : Nat) (w : W), sh n w = true → PyData.eqv (toD w) (toD w) = true
  | n, .non, _ => by simp [PyData.eqv]
  | n, .bl _, _ => by simp
  | n, .int _, _ => by simp
  | n, .str x, h => by simp
  | n + 1, .tup xs, h => by
    rw [shT] at h
    simp
    have : ∀ xs : List W, xs.all (sh n) = true → PyData.eqvAll (toDs xs) (toDs xs) = true := fun xs => by
      induction xs with
      | nil => simp
      | cons x xs ih => intro h; simp at h; simp [eqv_rf n x h.1, ih (by simpa using h.2)]
    exact this xs h
  | n + 1, .lst xs, h => by
    rw [shL] at h
    simp
    have : ∀ xs : List W, xs.all (sh n) = true → PyData.eqvAll (toDs xs) (toDs xs) = true := fun xs => by
      induction xs with
      | nil => simp
      | cons x xs ih => intro h; simp at h; simp [eqv_rf n x h.1, ih (by simpa using h.2)]
    exact this xs h
  | 0, .tup _, h => by simp [sh] at h
  | 0, .lst _, h => by simp [sh] at h
  | n, .dct _ _, h => by cases n <;> simp [sh] at h
  | n, .ref _, h => by cases n <;> simp [sh] at h
  | n, .glo _, h => by cases n <;> simp [sh] at h
  | n, .scr _, h => by cases n <;> simp [sh] at h
  | n, .erx _, h => by cases n <;> simp [sh] at h
  | n, .err _ _, h => by cases n <;> simp [sh] at h
  | n, .any, h => by cases n <;> simp [sh] at h
theorem ne_self {x : W} {h : AH} (hx : sh dl x = true) : neV' x x h = some (.bl false) := by rw [ne_sh hx hx, eqv_rf _ _ hx]; rfl
theorem eq_self {x : W} {h : AH} (hx : sh dl x = true) : eqV' x x h = some (.bl true) := by rw [eq_sh hx hx, eqv_rf _ _ hx]
def lawTurn (Γ : Calls) : DS := (sSeq (sAsg (dOwn Γ 18 2 (dCons (dVar 2) (dCons (dLst false (dCons (dVar 4) (dCons (dOwn Γ 25 2 (dCons (dVar 2) (dCons (dVar 4) dNil))) (dCons (dOwn Γ 25 2 (dCons (dVar 2) (dCons (dVar 4) dNil))) (dCons (dOwn Γ 24 2 (dCons (dVar 2) (dCons (dC (.int 2)) dNil))) dNil))))) dNil))) (gSet 7))
  (sSeq (sIf (tNot' (Dn.tVal (dOwn Γ 29 2 (dCons (dOwn Γ 5 1 (dCons (dVar 7) dNil)) (dCons (dOwn Γ 27 1 (dCons (dVar 7) dNil)) dNil))))) (sSeq (sRet (dC (.bl false)))
  sNext) sNext)
  (sSeq (sAsg (dOwn Γ 18 2 (dCons (dVar 2) (dCons (dLst false (dCons (dVar 5) (dCons (dOwn Γ 25 2 (dCons (dVar 2) (dCons (dVar 5) dNil))) (dCons (dOwn Γ 25 2 (dCons (dVar 2) (dCons (dVar 5) dNil))) (dCons (dOwn Γ 24 2 (dCons (dVar 2) (dCons (dC (.int 2)) dNil))) dNil))))) dNil))) (gSet 7))
  (sSeq (sIf (tNot' (Dn.tVal (dOwn Γ 29 2 (dCons (dOwn Γ 13 3 (dCons (dVar 4) (dCons (dVar 3) (dCons (dVar 7) dNil)))) (dCons (dOwn Γ 28 3 (dCons (dVar 4) (dCons (dVar 3) (dCons (dVar 7) dNil)))) dNil))))) (sSeq (sRet (dC (.bl false)))
  sNext) sNext)
  sNext))))
/-- one drawn value, from a value that is as it should be -/
theorem w_drawn {k n : Nat} {v : W} {h : AH} {Q : W → AH → Prop} (hk : 10 ≤ k) (hv : nw 2 v = true) (hs : St n h) (q : ∀ r h', gd 5 r = true → St n h' → Q r h') :
    Wp (callK Tb k 25 [.ref n, v] h) fun a h => Wp (callK Tb k 25 [.ref n, v] h) fun b h => Wp (callK Tb k 24 [.ref n, .int 2] h) fun c h => Wp (callK Tb k 18 [.ref n, .lst [v, a, b, c]] h) Q := by
  refine w_spoiled 2 (by omega) (by omega) hv hs fun a h1 ga s1 _ => ?_
  refine w_spoiled 2 (by omega) (by omega) hv s1 fun b h2 gb s2 _ => ?_
  refine w_any2 (by omega) s2 fun c h3 gc s3 _ => ?_
  refine w_of (by omega) s3 (by simp) (by simp) fun r h4 hr s4 _ => ?_
  refine q r h4 ?_ s4
  simp at hr
  rcases hr with rfl | rfl | rfl | rfl
  · exact gd_le (by omega) (nw_gd 2 _ hv)
  · exact gd_le (by omega) ga
  · exact gd_le (by omega) gb
  · exact gd_le (by omega) gc
theorem w_turn {k n : Nat} {a1 a6 a7 a8 a9 a10 a11 : Option W} {s : W} {t : List W} {c : W} {os : List W} {size : Int} {h : AH} {R : W → AH → Prop} {N : Env → AH → Prop} (hk : 10 ≤ k) (hs : St n h) (T : Tk t) (h2 : 2 ≤ size) (h40 : size ≤ 40) (hr : nw 2 (.tup [c, .tup os]) = true)
    (q : ∀ b h', St n h' → N [some s, a1, some (.ref n), some (.int size), some (.tup t), some (.tup [c, .tup os]), a6, b, a8, a9, a10, a11] h') : Ws (lawTurn (callK Tb k) [some s, a1, some (.ref n), some (.int size), some (.tup t), some (.tup [c, .tup os]), a6, a7, a8, a9, a10, a11] h) N R := by
  have tnw := tk_nw T
  generalize hrr : W.tup [c, .tup os] = rr at *
  unfold lawTurn
  obtain ⟨P, hP⟩ : ∃ P : Env → AH → Prop, P = fun e h' => ∃ r, gd 5 r = true ∧ St n h' ∧ e = [some s, a1, some (.ref n), some (.int size), some (.tup t), some rr, a6, some r, a8, a9, a10, a11] := ⟨_, rfl⟩
  refine Ws_cut P ?_ ?_
  · simp [Wp_ofO, line]
    refine w_drawn hk tnw hs fun r h1 gr s1 => ?_
    rw [hP]
    exact ⟨r, gr, s1, rfl⟩
  rw [hP]
  rintro e h1 ⟨r, gr, s1, rfl⟩
  refine Ws_cut P ?_ ?_
  · have e1 := s_trick (k := k) (h := h1) (by omega) (by decide) (gd_sh 5 r gr) (gd_tl gr)
    have e2 := s_ltrick (k := k) (h := h1) (by omega) (by decide) (gd_sh 5 r gr) (gd_tl gr)
    have e3 := s_told (k := k) (b := isTrickW r) (h := h1) (by omega)
    simp [Wp_ofO, e1, e2, e3]
    rw [hP]
    exact ⟨r, gr, s1, rfl⟩
  clear gr s1 r
  rw [hP]
  rintro e h1 ⟨r, gr, s1, rfl⟩
  refine Ws_cut P ?_ ?_
  · simp [Wp_ofO, line]
    refine w_drawn hk hr s1 fun r h1 gr s1 => ?_
    rw [hP]
    exact ⟨r, gr, s1, rfl⟩
  clear gr s1 r
  rw [hP]
  rintro e h1 ⟨r, gr, s1, rfl⟩
  have e1 := s_run (k := k) (h := h1) (by omega) T h2 h40 (sh_le (by decide) (gd_sh 5 r gr)) (gd_tl2 gr)
  have e2 := s_lisrun (k := k) (h := h1) (size := size) (by omega) T.steps (by omega) (by omega) (sh_le (by decide) (gd_sh 5 r gr)) (gd_tl2 gr)
  have e3 := s_told (k := k) (b := isRunW t size r) (h := h1) (by omega)
  simp [Wp_ofO, e1, e2, e3]
  exact q _ _ s1
def lawHid (Γ : Calls) : DS := (sSeq (sAsg (dLc false (iRg (dCons (dCall gLenW (dCons (dVar 4) dNil)) dNil)) (.one 9) (Dn.tVal (dBin (inW false) (dBin idxW (dBin idxW (dVar 4) (dVar 9)) (dC (.int 0))) (dLst false (dCons (dC (.str "free")) (dCons (dC (.str "think")) dNil))))) (dVar 9) [9]) (gSet 8))
  (sSeq (sIf (tOr' (Dn.tVal (dBin neV' (dOwn Γ 14 1 (dCons (dVar 4) dNil)) (dOwn Γ 22 1 (dCons (dVar 4) dNil)))) (Dn.tVal (dBin neV' (dOwn Γ 15 1 (dCons (dVar 4) dNil)) (dVar 8)))) (sSeq (sRet (dC (.bl false)))
  sNext) sNext)
  sNext))
theorem hid_rg (t : List W) : hidW t = (rgW 0 (t.length : Int)).filter fun w => match w with
    | .int i => (match t[i.toNat]? with
      | some x => isHid x
      | none => false)
    | _ => false := by
  have e : t.zipIdx = (List.range t.length).map fun i => (t[i]?.getD .non, i) := by
    refine List.ext_getElem (by simp) fun i h1 h2 => ?_
    have : i < t.length := by simpa using h1
    simp [this]
  unfold hidW
  rw [rgW_nat, e, List.filter_map, List.filter_map, List.map_map]
  refine congrArg _ (List.filter_congr fun i hi => ?_)
  have hi : i < t.length := List.mem_range.mp hi
  simp [hi]
theorem w_hid {k : Nat} {a0 a1 a2 a3 a5 a6 a7 a8 a9 a10 a11 : Option W} {t : List W} {h : AH} {R : W → AH → Prop} {N : Env → AH → Prop} (hk : 10 ≤ k) (T : Tk t)
    (q : ∀ b, N [a0, a1, a2, a3, some (.tup t), a5, a6, a7, b, a9, a10, a11] h) : Ws (lawHid (callK Tb k) [a0, a1, a2, a3, some (.tup t), a5, a6, a7, a8, a9, a10, a11] h) N R := by
  unfold lawHid
  obtain ⟨P, hP⟩ : ∃ P : Env → AH → Prop, P = fun e h' => h' = h ∧ e = [a0, a1, a2, a3, some (.tup t), a5, a6, a7, some (.lst (hidW t)), a9, a10, a11] := ⟨_, rfl⟩
  refine Ws_cut P ?_ ?_
  · have rg := rgOk_of (i := 0) (j := (t.length : Int)) (by omega) (by omega) (by omega) (by have := T.len; omega)
    have := lc_filter (t := .one 9) (c := Dn.tVal (dBin (inW false) (dBin idxW (dBin idxW (dVar 4) (dVar 9)) (dC (.int 0))) (dLst false (dCons (dC (.str "free")) (dCons (dC (.str "think")) dNil))))) (e := dVar 9) (chk := chkT) (env := [a0, a1, a2, a3, some (.tup t), a5, a6, a7, a8, none, a10, a11]) (h := h) rfl (fun w => match w with
      | .int i => (match t[i.toNat]? with
        | some x => isHid x
        | none => false)
      | _ => false) (fun x => x) (xs := rgW 0 (t.length : Int)) (by rw [rgW_len]; have := T.len; show _ ≤ 16777216; omega) fun w hm => ?_
    · rw [List.map_id', ← hid_rg] at this
      simp [Wp_ofO, rgSrc_ok rg, subL, Tgt.slots, wipeE, this]
      rw [hP]
      exact ⟨rfl, rfl⟩
    · obtain ⟨j, hj⟩ := List.mem_iff_getElem?.mp hm
      obtain ⟨rfl, hlt⟩ := rgW_get hj
      have hlt' : j < t.length := by omega
      have hx : t[j] ∈ t := List.getElem_mem _
      refine ⟨_, rfl, ?_, fun _ => rfl⟩
      have st := List.all_eq_true.mp T.steps.st _ hx
      have w1 := wd_get (h := h) st
      have w2 := in_lst (h := h) (neg := false) (x := .str (wd t[j])) (xs := [.str "free", .str "think"]) (wd_sh st (List.all_eq_true.mp T.steps.sh _ hx)) (by simp)
      simp [w1, line, w2, isHid, getI_nat, hlt', Wp_ofO, ofO]
  rw [hP]
  rintro e h1 ⟨rfl, rfl⟩
  have e1 := s_asked (k := k) (h := h1) (by omega) T
  have e2 := s_lasked (k := k) (h := h1) (by omega) T.steps
  have e3 := s_hid (k := k) (h := h1) (by omega) T
  have sh1 : sh dl (.lst (t.filter isAsk)) = true := (T.steps.filter isAsk).sh
  have sh2 : sh dl (.lst (hidW t)) = true := List.all_eq_true.mpr fun x hx => by
    obtain ⟨p, _, rfl⟩ := List.mem_map.mp hx
    simp
  have n1 := ne_self (h := h1) sh1
  have n2 := ne_self (h := h1) sh2
  simp [Wp_ofO, e1, e2, e3, n1, n2]
  exact q _
end Dn
end
section
set_option Elab.async false
set_option linter.all false
set_option maxRecDepth 100000
set_option maxHeartbeats 1000000
namespace Dn
open PySem PySem.Spec PyProof.Rows L2
def p23_0 (Γ : Calls) : DS := (sAsg (dOwn Γ 16 2 (dCons (dVar 0) (dCons (dVar 1) dNil))) (gSet 2))
def p23_1 (Γ : Calls) : DS := (sAsg (dOwn Γ 18 2 (dCons (dVar 2) (dCons (dLst false (dCons (dC (.str "")) (dCons (dC (.str "a message")) (dCons (dC (.str "x y")) dNil)))) dNil))) (gSet 3))
def p23_2 (Γ : Calls) : DS := (sIf (tNot' (Dn.tVal (dOwn Γ 132 1 (dCons (dOwn Γ 18 2 (dCons (dVar 2) (dCons (dLst false (dCons (dC .non) (dCons (dC (.int 5)) (dCons (dTup (dCons (dC (.str "turn")) dNil)) (dCons (dLst false (dCons (dTup (dCons (dC (.str "turn")) dNil)) dNil)) dNil))))) dNil))) dNil)))) (sSeq (sRet (dC (.bl false))) sNext) sNext)
def p23_3 (Γ : Calls) : DS := (sAsg (dOwn Γ 130 1 (dCons (dVar 3) dNil)) (gSet 4))
def p23_4 (Γ : Calls) : DS := (sFor (iRg (dCons (dCall gLenW (dCons (dVar 4) dNil)) dNil)) (.one 5) (sSeq (sIf (tOr' (Dn.tVal (dBin neV' (dOwn Γ 131 1 (dCons (dBin idxW (dVar 4) (dVar 5)) dNil)) (dLc false (iRg (dCons (dCall gLenW (dCons (dVar 4) dNil)) dNil)) (.one 6) yesT (dBin eqV' (dVar 6) (dVar 5)) [6]))) (Dn.tVal (dBin neV' (dStrE [ "TrickError" , "InvalidTrick" , "InvalidSize" , "InvalidWish" , "InvalidRun" , "InvalidAnswers" , "InvalidNumber" , "InvalidPlace" , "InvalidCard" , "InvalidStep" , "InvalidText" , "Unlike" , "NotFixed" , "NothingToUndo" ] (dBin idxW (dVar 4) (dVar 5))) (dVar 3)))) (sSeq (sRet (dC (.bl false))) sNext) sNext) (sSeq (sIf (tOr' (tNot' (Dn.tVal (dIsX (subI [ "TrickError" , "InvalidTrick" , "InvalidSize" , "InvalidWish" , "InvalidRun" , "InvalidAnswers" , "InvalidNumber" , "InvalidPlace" , "InvalidCard" , "InvalidStep" , "InvalidText" , "Unlike" , "NotFixed" , "NothingToUndo" ] "TrickError") (dBin idxW (dVar 4) (dVar 5))))) (tNot' (Dn.tVal (dIsX (subVE [ "TrickError" , "InvalidTrick" , "InvalidSize" , "InvalidWish" , "InvalidRun" , "InvalidAnswers" , "InvalidNumber" , "InvalidPlace" , "InvalidCard" , "InvalidStep" , "InvalidText" , "Unlike" , "NotFixed" , "NothingToUndo" ]) (dBin idxW (dVar 4) (dVar 5)))))) (sSeq (sRet (dC (.bl false))) sNext) sNext) sNext)))
def p23Body (Γ : Calls) : DS := (sSeq (p23_0 Γ) (sSeq (p23_1 Γ) (sSeq (p23_2 Γ) (sSeq (p23_3 Γ) (sSeq (p23_4 Γ) sNext)))))
theorem p23_eq (Γ : Calls) : d133_law Γ = (sSeq (sFor (iRg (dCons (dCall gMax2 (dCons (dC (.int 3)) (dCons (dCall gMin2 (dCons (dC (.int 6)) (dCons (dAdd false (dCall gLenW (dCons (dVar 0) dNil)) (dC (.int 2))) dNil))) dNil))) dNil)) (.one 1) (p23Body Γ)) (sSeq (sRet (dC (.bl true))) sNext)) := rfl
section
variable {k : Nat} {h : AH}
/-- what is no trick is refused by an error of one class -/
theorem s_raised {v : W} (hk : 8 ≤ k) (hv : sh 20 v = true) (hsz : ∀ xs, v = .tup xs → xs.length ≤ 1000) (ht : isTrickW v = false) : callK Tb k 132 [v] h = .ok (.bl true) h := by
  have e0 := s_need_x (k := k - 1 - 1) (h := h) (n := 20) (by omega) (by omega) hv hsz ht
  have e1 : callK Tb (k - 1) 14 [v] h = .exc "InvalidTrick" h := by
    rw [callK_ge (f := f14) rfl (by omega)]
    unfold fnRun
    simp only [f14, d14_asked, start0]
    simp [e0, SRes.then, finX, AH.beq_self]
  have e2 := s_kindsX (k := k - 1) (h := h) (by omega)
  have s1 : subX ["TrickError", "InvalidTrick", "InvalidSize", "InvalidWish", "InvalidRun", "InvalidAnswers", "InvalidNumber", "InvalidPlace", "InvalidCard", "InvalidStep", "InvalidText", "Unlike", "NotFixed", "NothingToUndo"] "InvalidTrick" "TrickError" = some true := by kernel_rfl
  have s2 : ∀ h : AH, sliceV false (.lst (erBits 0)) none (some 2) h = .ok (.lst [.bl true, .bl false]) h := fun h => by kernel_rfl
  have s3 : eqV' (.lst [.bl true, .bl false]) (.lst [.bl true, .bl false]) h = some (.bl true) := by
    rw [eq_sh (by simp) (by simp)]
    simp
  rw [callK_ge (f := f132) rfl (by omega)]
  unfold fnRun
  simp only [f132, d132_law_raised_right, start0]
  simp [e1, e2, s1, s2, s3, SRes.then, ofO, line]
end
def erL : List Str := ["TrickError", "InvalidTrick", "InvalidSize", "InvalidWish", "InvalidRun", "InvalidAnswers", "InvalidNumber", "InvalidPlace", "InvalidCard", "InvalidStep", "InvalidText", "Unlike", "NotFixed", "NothingToUndo"]
def p23A (Γ : Calls) : DS := sIf (tOr' (Dn.tVal (dBin neV' (dOwn Γ 131 1 (dCons (dBin idxW (dVar 4) (dVar 5)) dNil)) (dLc false (iRg (dCons (dCall gLenW (dCons (dVar 4) dNil)) dNil)) (.one 6) yesT (dBin eqV' (dVar 6) (dVar 5)) [6]))) (Dn.tVal (dBin neV' (dStrE erL (dBin idxW (dVar 4) (dVar 5))) (dVar 3)))) (sSeq (sRet (dC (.bl false))) sNext) sNext
def p23B : DS := sIf (tOr' (tNot' (Dn.tVal (dIsX (subI erL "TrickError") (dBin idxW (dVar 4) (dVar 5))))) (tNot' (Dn.tVal (dIsX (subVE erL) (dBin idxW (dVar 4) (dVar 5)))))) (sSeq (sRet (dC (.bl false))) sNext) sNext
theorem p23_4_eq (Γ : Calls) : p23_4 Γ = sFor (iRg (dCons (dCall gLenW (dCons (dVar 4) dNil)) dNil)) (.one 5) (sSeq (p23A Γ) (sSeq p23B sNext)) := rfl
theorem er_facts : ∀ c ∈ erNames, erL.contains c = true ∧ subI erL "TrickError" c = some true ∧ subVE erL c = some true := by decide +kernel
theorem er_at {m : Str} {i : Nat} (hi : i < 13) : ∃ c, (erW m)[i]? = some (.err c [.str m]) ∧ c ∈ erNames := by
  have hl : i < erNames.length := by simpa [erNames] using hi
  exact ⟨erNames[i], by simp [erW, hl], List.getElem_mem hl⟩
theorem erBits_sh (i : Nat) : sh 20 (.lst (erBits i)) = true := by
  show (erBits i).all (sh 19) = true
  refine List.all_eq_true.mpr fun x hx => ?_
  obtain ⟨j, _, rfl⟩ := List.mem_map.mp hx
  simp
section
variable {k i : Nat} {m : Str} {a0 a1 a2 a6 : Option W} {h : AH}
theorem p23_A (hk : 1 ≤ k) (hi : i < 13) (hm : sh 20 (.str m) = true) : Ws (p23A (callK Tb k) [a0, a1, a2, some (.str m), some (.lst (erW m)), some (.int i), a6] h) (fun e' h' => h' = h ∧ e' = [a0, a1, a2, some (.str m), some (.lst (erW m)), some (.int i), a6]) (fun _ _ => False) := by
  obtain ⟨c, hw, hc⟩ := er_at (m := m) hi
  obtain ⟨d1, d2, d3⟩ := er_facts c hc
  have k1 := s_kinds (k := k) (h := h) (m := m) (i := i) hk hw
  have hl : (erW m).length = 13 := by simp [erW, erNames]
  have rg := rgOk_of (i := 0) (j := 13) (by omega) (by omega) (by omega) (by omega)
  have L : ∀ b6, lcL (.one 6) yesT (dBin eqV' (dVar 6) (dVar 5)) chkT [a0, a1, a2, some (.str m), some (.lst (erW m)), some (.int i), b6] (rgW 0 13) [] h = .ok (erBits i) h := fun b6 => by
    rw [lc_map rfl (fun x => match x with | .int z => .bl (decide (z = (i : Int))) | _ => .non) (by simp [line]) fun x hx => ?_]
    · rw [show rgW 0 13 = rgW 0 ((13 : Nat) : Int) from rfl, rgW_nat, List.map_map]
      unfold erBits
      congr 1
      refine List.map_congr_left fun j _ => ?_
      simp
      omega
    · obtain ⟨j, hj⟩ := List.getElem?_of_mem hx
      obtain ⟨rfl, _⟩ := rgW_get hj
      refine ⟨_, rfl, ?_⟩
      have q := eq_sh (h := h) (x := .int (0 + (j : Nat))) (y := .int (i : Nat)) (by simp) (by simp)
      simp at q
      simp [q]
  have n1 : neV' (.lst (erBits i)) (.lst (erBits i)) h = some (.bl false) := ne_self (erBits_sh i)
  have n2 : neV' (.str m) (.str m) h = some (.bl false) := ne_self hm
  have ix : ∀ h : AH, idxW (.lst (erW m)) (.int i) h = some (.err c [.str m]) := fun h => by rw [idx_lst, getI_nat]; exact hw
  generalize erW m = es at *
  generalize erBits i = bs at *
  unfold p23A
  simp [ix, k1, hl, L, rgSrc_ok rg, n1, n2, Wp_ofO, wipeE, subL, Tgt.slots, List.contains_iff_mem.mp d1]
theorem p23_B (hi : i < 13) : Ws (p23B [a0, a1, a2, some (.str m), some (.lst (erW m)), some (.int i), a6] h) (fun e' h' => h' = h ∧ e' = [a0, a1, a2, some (.str m), some (.lst (erW m)), some (.int i), a6]) (fun _ _ => False) := by
  obtain ⟨c, hw, hc⟩ := er_at (m := m) hi
  obtain ⟨d1, d2, d3⟩ := er_facts c hc
  have ix : ∀ h : AH, idxW (.lst (erW m)) (.int i) h = some (.err c [.str m]) := fun h => by rw [idx_lst, getI_nat]; exact hw
  generalize erW m = es at *
  unfold p23B
  simp [ix, d2, d3, Wp_ofO]
theorem p23_4' {a5 : Option W} (hk : 1 ≤ k) (hm : sh 20 (.str m) = true) : Ws (p23_4 (callK Tb k) [a0, a1, a2, some (.str m), some (.lst (erW m)), a5, a6] h) (fun e' h' => ∃ c5, e' = [a0, a1, a2, some (.str m), some (.lst (erW m)), c5, a6]) (fun _ _ => False) := by
  have hl : ∀ h, gLenW [.lst (erW m)] h = some (.int 13) := fun h => by rw [len_lst]; simp [erW, erNames]
  have rg := rgOk_of (i := 0) (j := 13) (by omega) (by omega) (by omega) (by omega)
  rw [p23_4_eq]
  obtain ⟨P, hP⟩ : ∃ P : Env → AH → Prop, P = fun e' _ => ∃ c5, e' = [a0, a1, a2, some (.str m), some (.lst (erW m)), c5, a6] := ⟨_, rfl⟩
  have hq : (fun (e' : Env) (_ : AH) => ∃ c5, e' = [a0, a1, a2, some (.str m), some (.lst (erW m)), c5, a6]) = P := hP.symm
  rw [hq]
  simp only [o_sFor, o_iRg, o_dCons, o_dCall, o_dVar, o_dNil]
  simp [hl, Wp_ofO, rgSrc_ok rg]
  refine for_all (fun _ => P) (by rw [hP]; exact ⟨_, rfl⟩) ?_ (fun _ _ z => z)
  intro j e h5 x z hx
  rw [hP] at z
  obtain ⟨c5, rfl⟩ := z
  obtain ⟨rfl, hj⟩ := rgW_get hx
  have hj : j < 13 := by omega
  rw [show (0 : Int) + (j : Nat) = (j : Nat) from Int.zero_add _]
  refine ⟨_, rfl, ?_⟩
  simp only [List.set]
  refine Ws_cut _ (Ws_mono (p23_A (i := j) hk hj hm) (fun _ _ z => z) fun _ _ z => z.elim) ?_
  rintro e h6 ⟨rfl, rfl⟩
  refine Ws_cut _ (Ws_mono (p23_B (i := j) hj) (fun _ _ z => z) fun _ _ z => z.elim) ?_
  rintro e h7 ⟨rfl, rfl⟩
  rw [hP]
  simp
end
theorem k23_body {k i : Nat} {ns : List Int} {h : AH} {b2 b3 b4 b5 b6 : Option W} {N : Env → AH → Prop} {R : W → AH → Prop} (hk : 10 ≤ k) (hi : i ≤ 100) (q : ∀ c2 c3 c4 c5 c6 h', N [some (scrW ns), some (.int i), c2, c3, c4, c5, c6] h') : Ws (p23Body (callK Tb k) [some (scrW ns), some (.int i), b2, b3, b4, b5, b6] h) N R := by
  unfold p23Body
  refine Ws_cut (fun e h' => St h.length h' ∧ e = [some (scrW ns), some (.int i), some (.ref h.length), b3, b4, b5, b6]) ?_ ?_
  · unfold p23_0
    simp
    refine w_bag (by omega) (by omega) fun h' s _ _ => ?_
    simp
    exact s
  rintro e h1 ⟨s1, rfl⟩
  generalize h.length = n at s1
  refine Ws_cut (fun e h' => St n h' ∧ ∃ m : Str, sh 20 (.str m) = true ∧ e = [some (scrW ns), some (.int i), some (.ref n), some (.str m), b4, b5, b6]) ?_ ?_
  · unfold p23_1
    simp [line]
    refine w_of (by omega) s1 (by simp) (by simp) fun x h' hx s2 _ => ?_
    simp at hx
    rcases hx with rfl | rfl | rfl
    · simp
      refine ⟨s2, ?_⟩
      decide +kernel
    · simp
      refine ⟨s2, ?_⟩
      decide +kernel
    · simp
      refine ⟨s2, ?_⟩
      decide +kernel
  rintro e h2 ⟨s2, m, hm, rfl⟩
  refine Ws_cut (fun e h' => St n h' ∧ e = [some (scrW ns), some (.int i), some (.ref n), some (.str m), b4, b5, b6]) ?_ ?_
  · unfold p23_2
    simp [line]
    refine w_of (by omega) s2 (by simp) (by simp) fun x h' hx s3 _ => ?_
    have r : callK Tb k 132 [x] h' = .ok (.bl true) h' := by
      simp at hx
      rcases hx with rfl | rfl | rfl | rfl
      · exact s_raised (by omega) (by simp) (fun _ z => by cases z) (by decide +kernel)
      · exact s_raised (by omega) (by simp) (fun _ z => by cases z) (by decide +kernel)
      · exact s_raised (by omega) (by decide +kernel) (fun _ z => by cases z; simp) (by decide +kernel)
      · exact s_raised (by omega) (by decide +kernel) (fun _ z => by cases z) (by decide +kernel)
    simp [r]
    exact s3
  rintro e h3 ⟨s3, rfl⟩
  refine Ws_cut (fun e h' => e = [some (scrW ns), some (.int i), some (.ref n), some (.str m), some (.lst (erW m)), b5, b6]) ?_ ?_
  · unfold p23_3
    have r := s_errs (k := k) (h := h3) (m := m) (by omega)
    simp [r]
  rintro e h4 rfl
  refine Ws_cut _ (Ws_mono (p23_4' (by omega) hm) (fun _ _ z => z) fun _ _ z => z.elim) ?_
  rintro e h5 ⟨c5, rfl⟩
  simp
  exact q _ _ _ _ _ _
theorem k23_main (ns : List Int) (hl : ns.length ≤ 63) : ∃ h, callK Tb 40 133 [scrW ns] [] = .ok (.bl true) h := by
  have : Wp (callK Tb 40 133 [scrW ns] []) fun w _ => w = .bl true := by
    rw [callK_ge (f := f133) rfl (by decide)]
    refine fnRun_wp ?_
    simp only [f133, p23_eq, start0]
    obtain ⟨I, hI⟩ : ∃ I : Env → AH → Prop, I = fun e h' => ∃ b1 b2 b3 b4 b5 b6, e = [some (scrW ns), b1, b2, b3, b4, b5, b6] := ⟨_, rfl⟩
    refine Ws_cut I ?_ ?_
    · have hlen : ∀ h, gLenW [scrW ns] h = some (.int ns.length) := fun h => by simp [scrW]
      obtain ⟨m, hm, hmb⟩ : ∃ m : Int, (if 3 < (if (ns.length : Int) + 2 < 6 then (ns.length : Int) + 2 else 6) then (if (ns.length : Int) + 2 < 6 then (ns.length : Int) + 2 else 6) else 3) = m ∧ 0 ≤ m ∧ m ≤ 100 := by
        refine ⟨_, rfl, ?_⟩
        split <;> split <;> omega
      have rg := rgOk_of (i := 0) (j := m) (by omega) (by omega) (by omega) (by omega)
      simp only [o_sFor, o_iRg, o_dCons, o_dCall, o_dC, o_dAdd, o_dVar, o_dNil, Res.bind]
      simp [hlen, Wp_ofO, gMin2, gMax2]
      rw [hm, rgSrc_ok rg]
      simp
      refine for_all (fun _ => I) (by rw [hI]; exact ⟨_, _, _, _, _, _, rfl⟩) ?_ (fun _ _ z => z)
      intro j e h5 x z hx
      rw [hI] at z
      obtain ⟨rfl, hj⟩ := rgW_get hx
      obtain ⟨b1, b2, b3, b4, b5, b6, rfl⟩ := z
      refine ⟨_, rfl, ?_⟩
      rw [show (0 : Int) + (j : Nat) = (j : Nat) from Int.zero_add _]
      refine k23_body (by decide) (by omega) fun c2 c3 c4 c5 c6 h' => ⟨rfl, ?_⟩
      rw [hI]
      exact ⟨_, _, _, _, _, _, rfl⟩
    rw [hI]
    rintro e h1 ⟨b1, b2, b3, b4, b5, b6, rfl⟩
    have f : frz h1 0 3 (W.bl true) = some (W.bl true) := rfl
    simp [fin, f, Wp_ofO]
  obtain ⟨w, h, e, rfl⟩ := Wp_iff.mp this
  exact ⟨h, e⟩
end Dn
end
set_option Elab.async false
set_option linter.all false
set_option maxRecDepth 100000
set_option maxHeartbeats 4000000
namespace Dn.Lk23
open PySem PySem.Spec PyProof.Rows L2 Dn
def top (i : Nat) : Stmt := PySem.Challenge.pw_cardtold_k23_errors_and_their_classes.main.body.getD i (.Pass ⟨0, 0, 0, 0⟩)
def g0 : FnD := ⟨0, "is_number", "is_number", defArgs (top 30), defBody (top 30), defScope (top 30), 3, ["value", "low", "high"], [], 0, true⟩
def g1 : FnD := ⟨1, "is_many", "is_many", defArgs (top 31), defBody (top 31), defScope (top 31), 2, ["value", "low"], [], 0, true⟩
def g2 : FnD := ⟨2, "is_rest", "is_rest", defArgs (top 32), defBody (top 32), defScope (top 32), 1, ["value"], [], 0, true⟩
def g3 : FnD := ⟨3, "is_step", "is_step", defArgs (top 33), defBody (top 33), defScope (top 33), 1, ["value", "word", "parts"], [], 0, true⟩
def g4 : FnD := ⟨4, "stands_well", "stands_well", defArgs (top 34), defBody (top 34), defScope (top 34), 2, ["trick", "index", "step", "ahead", "one", "word"], [], 0, true⟩
def g5 : FnD := ⟨5, "is_trick", "is_trick", defArgs (top 35), defBody (top 35), defScope (top 35), 1, ["value", "step", "words", "index"], [], 0, true⟩
def g6 : FnD := ⟨6, "need_trick", "need_trick", defArgs (top 36), defBody (top 36), defScope (top 36), 1, ["value"], [], 0, true⟩
def g7 : FnD := ⟨9, "asking", "asking", defArgs (top 37), defBody (top 37), defScope (top 37), 1, ["trick", "step"], [], 0, true⟩
def g8 : FnD := ⟨14, "asked", "asked", defArgs (top 38), defBody (top 38), defScope (top 38), 1, ["trick"], [], 0, true⟩
def g9 : FnD := ⟨16, "_law_bag", "_law_bag", defArgs (top 40), defBody (top 40), defScope (top 40), 2, ["_law_script", "_law_k", "_law_cell", "_law_great"], [], 1, false⟩
def g10 : FnD := ⟨17, "_law_take", "_law_take", defArgs (top 41), defBody (top 41), defScope (top 41), 2, ["_law_bag_here", "_law_many", "_law_found"], [("_law_bag_here", 1)], 0, false⟩
def g11 : FnD := ⟨18, "_law_of", "_law_of", defArgs (top 42), defBody (top 42), defScope (top 42), 2, ["_law_bag_here", "_law_some"], [("_law_bag_here", 1)], 0, false⟩
def g12 : FnD := ⟨130, "_law_all_errors", "_law_all_errors", defArgs (top 43), defBody (top 43), defScope (top 43), 1, ["_law_text", "_law_found"], [], 0, true⟩
def g13 : FnD := ⟨131, "_law_kinds", "_law_kinds", defArgs (top 44), defBody (top 44), defScope (top 44), 1, ["_law_error", "_law_found"], [], 0, true⟩
def g14 : FnD := ⟨132, "_law_raised_right", "_law_raised_right", defArgs (top 45), defBody (top 45), defScope (top 45), 1, ["_law_value", "e"], [], 0, true⟩
def g15 : FnD := ⟨133, "law", "law", defArgs (top 46), defBody (top 46), defScope (top 46), 1, ["_law_script", "_law_k", "_law_bag_here", "_law_text", "_law_some", "_law_at", "_law_one"], [("_law_bag_here", 1)], 0, true⟩
def fs : List FnD := [g0, g1, g2, g3, g4, g5, g6, g7, g8, g9, g10, g11, g12, g13, g14, g15]
def fs2 : List FnD := []
def fv : List FnD := []
def hs : List FnD := [g13]
def cs : List Cst := (([.str "CUT" "cut", .str "FREE" "free", .str "NAME" "name", .str "THINK" "think", .str "LOOK" "look", .str "DEAL" "deal", .str "PILES" "piles", .str "AWAY" "away", .str "TURN" "turn", .str "THAT" "that", .str "ON" "on", .str "UNDER" "under", .int "MOST_STEPS" 8, .int "MOST" 40, .exc "TrickError", .exc "InvalidTrick", .exc "InvalidSize", .exc "InvalidWish", .exc "InvalidRun", .exc "InvalidAnswers"] : (List Cst)) ++ ([.exc "InvalidNumber", .exc "InvalidPlace", .exc "InvalidCard", .exc "InvalidStep", .exc "InvalidText", .exc "Unlike", .exc "NotFixed", .exc "NothingToUndo"] : (List Cst)))
def gs : Gs := ⟨ownT fs, ownT fs2, ownT fv, ownT hs, cs.map Cst.con, ["TrickError", "InvalidTrick", "InvalidSize", "InvalidWish", "InvalidRun", "InvalidAnswers", "InvalidNumber", "InvalidPlace", "InvalidCard", "InvalidStep", "InvalidText", "Unlike", "NotFixed", "NothingToUndo"], ["TrickError", "InvalidTrick", "InvalidSize", "InvalidWish", "InvalidRun", "InvalidAnswers", "InvalidNumber", "InvalidPlace", "InvalidCard", "InvalidStep", "InvalidText", "Unlike", "NotFixed", "NothingToUndo"], true⟩
theorem t0 : f0 = g0.t gs := by kernel_rfl
theorem t1 : f1 = g1.t gs := by kernel_rfl
theorem t2 : f2 = g2.t gs := by kernel_rfl
theorem t3 : f3 = g3.t gs := by kernel_rfl
theorem t4 : f4 = g4.t gs := by kernel_rfl
theorem t5 : f5 = g5.t gs := by kernel_rfl
theorem t6 : f6 = g6.t gs := by kernel_rfl
theorem t7 : f9 = g7.t gs := by kernel_rfl
theorem t8 : f14 = g8.t gs := by kernel_rfl
theorem t9 : f16 = g9.t gs := by kernel_rfl
theorem t10 : f17 = g10.t gs := by kernel_rfl
theorem t11 : f18 = g11.t gs := by kernel_rfl
theorem t12 : f130 = g12.t gs := by kernel_rfl
theorem t13 : f131 = g13.t gs := by kernel_rfl
theorem t14 : f132 = g14.t gs := by kernel_rfl
theorem t15 : f133 = g15.t gs := by kernel_rfl
theorem hT : ∀ f ∈ fs, Tb f.ix = some (f.t gs) := by
  intro f hf
  unfold fs at hf
  simp only [List.mem_cons, List.not_mem_nil, or_false] at hf
  rcases hf with rfl | rfl | rfl | rfl | rfl | rfl | rfl | rfl | rfl | rfl | rfl | rfl | rfl | rfl | rfl | rfl
  · exact congrArg some t0
  · exact congrArg some t1
  · exact congrArg some t2
  · exact congrArg some t3
  · exact congrArg some t4
  · exact congrArg some t5
  · exact congrArg some t6
  · exact congrArg some t7
  · exact congrArg some t8
  · exact congrArg some t9
  · exact congrArg some t10
  · exact congrArg some t11
  · exact congrArg some t12
  · exact congrArg some t13
  · exact congrArg some t14
  · exact congrArg some t15
theorem s2 : ∀ f ∈ fs2, f ∈ fs := by
  intro f hf
  cases hf
theorem sv : ∀ f ∈ fv, f ∈ fs := by
  intro f hf
  cases hf
theorem sh : ∀ f ∈ hs, f ∈ fs ∧ ∀ Γ, (compN ⟨{ gs with hot := [] }, Γ⟩ hotD).SS f.cc f.body = (comp ⟨gs, Γ⟩ deep).SS f.cc f.body := by
  intro f hf
  unfold hs at hf
  simp only [List.mem_cons, List.not_mem_nil, or_false] at hf
  subst hf
  · exact ⟨List.mem_of_getElem? (i := 13) rfl, fun Γ => by kernel_rfl⟩
theorem TB : Tabs gs fs fs2 fv hs Tb := ⟨hT, rfl, rfl, s2, rfl, sv, rfl, sh⟩
theorem okB_fs : okB fs = true := by decide +kernel
def loose0 : List PySem.Str := ["TrickError", "InvalidTrick", "InvalidSize", "InvalidWish", "InvalidRun", "InvalidAnswers", "InvalidNumber", "InvalidPlace", "InvalidCard", "InvalidStep", "InvalidText", "Unlike", "NotFixed", "NothingToUndo", "CUT", "FREE", "NAME", "THINK", "LOOK", "DEAL", "PILES", "AWAY", "TURN", "THAT", "ON", "UNDER", "MOST_STEPS", "MOST", "is_number", "is_many"]
def loose1 : List PySem.Str := ["is_rest", "is_step", "stands_well", "is_trick", "need_trick", "asking", "asked", "_law_bag", "_law_take", "_law_of", "_law_all_errors", "_law_kinds", "_law_raised_right"]
def loose : List PySem.Str := loose0 ++ loose1
abbrev R : PySem.W.OpenRow := PySem.W.OpenLaw.row PySem.Challenge.rw_cardtold_k23_errors_and_their_classes
def fa : List He.Fa := faOf fs cs
def fn : List He.DefD := fs.map FnD.d
def fx : List XFa := fxOf gs.exv
abbrev hk : PySem.W.Hook := hookX 4 fa fn fx
def ob (s : PySem.W.SharedT) : AlX := obsXG 4 fa fn fx (HandSHeadRun.getT s)
theorem ob_eq (s : PySem.W.SharedT) : ob s = hk.obs s.abs := obsXG_eq (HandSHeadRun.getT_eq s)
theorem run (w : World) : HandSHeadRun.RunEq R (PySem.W.view R.prog [46]) hk ob 9000 loose w := by
  intro os
  kernel_rfl
end Dn.Lk23
open PySem PySem.W PySem.Calls PyProof.Rows Dn
set_option maxRecDepth 100000 in
set_option maxHeartbeats 8000000 in
theorem PySem.Challenge.cw_cardtold_k23_errors_and_their_classes_holds : PySem.Challenge.rw_cardtold_k23_errors_and_their_classes.Holds := by
  w_on; o_law
  refine HandSHeadRun.head_any (r := OpenLaw.row PySem.Challenge.rw_cardtold_k23_errors_and_their_classes) (q := view (OpenLaw.row PySem.Challenge.rw_cardtold_k23_errors_and_their_classes).prog [46]) (H := Dn.Lk23.hk) (ob := Dn.Lk23.ob) (M := 9000) (loose := Dn.Lk23.loose) (d := HandSHeadRun.topDef (OpenLaw.row PySem.Challenge.rw_cardtold_k23_errors_and_their_classes).prog 46) (kwd := []) Dn.Lk23.ob_eq
    (by kernel_rfl) (fun s => by kernel_rfl) Dn.Lk23.run (by kernel_rfl) (by kernel_rfl) (by kernel_rfl) (by rfl) (by first | assumption | decide +kernel) (by decide +kernel) ⟨rfl, rfl, rfl, rfl, rfl, by decide +kernel⟩ ?hw ?hc
  case hw => w_witness2
  case hc =>
    refine Dn.walk_end (l := PySem.Challenge.rw_cardtold_k23_errors_and_their_classes) (n := 63) (k := 40) (x := "_law_script") (CX := fun w => L2.CX PySem.Challenge.pw_cardtold_k23_errors_and_their_classes w) rfl (by decide) (by kernel_rfl) ⟨by decide, by decide, by decide⟩ ?F (fun w H s e s' z => Dn.cx_end w H s e s' z)
    intro w mg fa h Y G hmg0
    obtain ⟨K, KX, c, cx⟩ := Y
    have hmg : mg ("law" : PySem.Str) = some (.ref fa) := by
      have e : (HandSHeadRun.topDef (OpenLaw.row PySem.Challenge.rw_cardtold_k23_errors_and_their_classes).prog 46).name = ("law" : PySem.Str) := by kernel_rfl
      rw [← e]
      exact hmg0
    obtain ⟨fd, hb, hF⟩ := Dn.law_fn (P := (PySem.Challenge.rw_cardtold_k23_errors_and_their_classes).prog) (w := w) (fl := Dn.Lk23.g15) 39 KX G c cx Dn.Lk23.okB_fs Dn.Lk23.TB rfl rfl (by decide +kernel) (by unfold Dn.Lk23.fs; simp) rfl rfl hmg
    exact ⟨K, fd, _, KX, hb, fun H a ns hl _ hS => Dn.script_sp (M := ⟨(PySem.Challenge.rw_cardtold_k23_errors_and_their_classes).prog, w, K, mg⟩) rfl hS (Dn.k23_main ns hl), hF⟩
