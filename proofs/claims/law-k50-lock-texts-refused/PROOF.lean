import PyProof.Rows.All
import Wide.All
import OpenK.AllK
import Wide.FinOn
import HandS.ForMost
import HandS.Deep
import KE.KDictKeyed
import HandS.ForExc
import HandS.Wide
import HandS.TupAny
import HandS.TupLe
import HandS.TupMul
import HandS.TryOnly
import KE.GoesMore
import KE.GoesEnum
import HandS.Dict
import KE.DataCmp
import KE.SortData
import PyProof.ReprRoads
import PyProof.ReprLen
import HandS.More
import HandS.EndBits
import HandS.Text
import HandS.IsInst
import KE.KDictPairs
import HandS.RaiseMore
import HandS.DictTup
import HandS.Iter
import PyProof.StrOps2
import KE.KIntText
import PyProof.StrLawsChain
import HandS.ExcIs
import HandS.ExcValue
import HandS.ReplaceLit
import HandS.ReplaceDef
import PySem.Challenge.RW_wishyard_k50_lock_texts_refused
set_option Elab.async false
set_option linter.all false
set_option maxRecDepth 100000
set_option maxHeartbeats 4000000
namespace Wy
open PySem PySem.Spec PyProof.Rows L2

/-! ### data -/
/-- data by value; lv, dv: a list, a dict that nobody changes any more; rl: a list that is handed in; ref: the n-th object that may be changed; fn: a function with what it captured -/
inductive D where
  | non | bl (b : Bool) | int (i : Int) | str (x : Str) | tup (l : List D) | lv (l : List D) | rl (l : List D) | dv (tk : Bool) (ks vs : List D) | ref (n : Nat) | fn (f : Str) (cs : List D)

mutual
def D.beq : D → D → Bool
  | .non, .non => true
  | .bl a, .bl b => decide (a = b)
  | .int a, .int b => decide (a = b)
  | .str a, .str b => decide (a = b)
  | .tup a, .tup b => D.beqs a b
  | .lv a, .lv b => D.beqs a b
  | .rl a, .rl b => D.beqs a b
  | .dv t a c, .dv u b d => decide (t = u) && (D.beqs a b && D.beqs c d)
  | .ref a, .ref b => decide (a = b)
  | .fn a c, .fn b d => decide (a = b) && D.beqs c d
  | _, _ => false
def D.beqs : List D → List D → Bool
  | [], [] => true
  | a :: as, b :: bs => D.beq a b && D.beqs as bs
  | _, _ => false
end
mutual
theorem D.beq_self : ∀ a : D, D.beq a a = true
  | .non => rfl
  | .bl _ => by simp [D.beq]
  | .int _ => by simp [D.beq]
  | .str _ => by simp [D.beq]
  | .tup a => by simp [D.beq, D.beqs_self a]
  | .lv a => by simp [D.beq, D.beqs_self a]
  | .rl a => by simp [D.beq, D.beqs_self a]
  | .dv _ a b => by simp [D.beq, D.beqs_self a, D.beqs_self b]
  | .ref _ => by simp [D.beq]
  | .fn _ a => by simp [D.beq, D.beqs_self a]
theorem D.beqs_self : ∀ a : List D, D.beqs a a = true
  | [] => by simp [D.beqs]
  | a :: as => by simp [D.beqs, D.beq_self a, D.beqs_self as]
end
mutual
theorem D.eq_of : ∀ a b : D, D.beq a b = true → a = b
  | .non, b, h => by cases b <;> simp_all [D.beq]
  | .bl _, b, h => by cases b <;> simp_all [D.beq]
  | .int _, b, h => by cases b <;> simp_all [D.beq]
  | .str _, b, h => by cases b <;> simp_all [D.beq]
  | .tup a, b, h => by
    cases b <;> simp [D.beq] at h
    rw [D.eqs_of a _ h]
  | .lv a, b, h => by
    cases b <;> simp [D.beq] at h
    rw [D.eqs_of a _ h]
  | .rl a, b, h => by
    cases b <;> simp [D.beq] at h
    rw [D.eqs_of a _ h]
  | .dv _ a c, b, h => by
    cases b <;> simp [D.beq] at h
    obtain ⟨h1, h2, h3⟩ := h
    rw [h1, D.eqs_of a _ h2, D.eqs_of c _ h3]
  | .ref _, b, h => by cases b <;> simp_all [D.beq]
  | .fn _ a, b, h => by
    cases b <;> simp [D.beq] at h
    rw [h.1, D.eqs_of a _ h.2]
theorem D.eqs_of : ∀ a b : List D, D.beqs a b = true → a = b
  | [], b, h => by cases b <;> simp_all [D.beqs]
  | a :: as, b, h => by
    cases b <;> simp [D.beqs] at h
    rw [D.eq_of a _ h.1, D.eqs_of as _ h.2]
end
instance : DecidableEq D := fun a b => if h : D.beq a b = true then isTrue (D.eq_of a b h) else isFalse fun e => h (by subst e; exact D.beq_self a)

/-- an object that may be changed -/
inductive Ob where
  | lst (l : List D)
  | dct (tk : Bool) (kvs : List (D × D))
  | ins (C : Str) (fs : List (Str × D))
  deriving DecidableEq

abbrev DH := List Ob
/-- what comes: a value; an exception of the class C with its fields; nothing is told -/
inductive Re (α : Type) where
  | ok (a : α) (h : DH)
  | ex (C : Str) (fs : List (Str × D)) (h : DH)
  | bad
abbrev M (α : Type) := DH → Re α
def M.ret {α : Type} (a : α) : M α := fun h => .ok a h
def M.bad {α : Type} : M α := fun _ => .bad
def M.bind {α β : Type} (m : M α) (k : α → M β) : M β := fun h => match m h with
  | .ok a h' => k a h'
  | .ex C fs h' => .ex C fs h'
  | .bad => .bad
instance : Monad M where
  pure := M.ret
  bind := M.bind
@[simp] theorem pure_ap {α : Type} (a : α) (h : DH) : (pure a : M α) h = .ok a h := rfl
theorem bind_ap {α β : Type} (m : M α) (k : α → M β) (h : DH) : (m >>= k) h = match m h with
  | .ok a h' => k a h'
  | .ex C fs h' => .ex C fs h'
  | .bad => .bad := rfl
theorem bind_ok {α β : Type} {m : M α} {k : α → M β} {h h' : DH} {a : α} (e : m h = .ok a h') : (m >>= k) h = k a h' := by rw [bind_ap, e]
@[simp] theorem bad_ap {α : Type} (h : DH) : (M.bad : M α) h = .bad := rfl

/-! no object is named in it -/
mutual
def D.pur : D → Bool
  | .tup l => D.purs l
  | .lv l => D.purs l
  | .rl l => D.purs l
  | .dv _ ks vs => D.purs ks && D.purs vs
  | .ref _ => false
  | .fn _ l => D.purs l
  | _ => true
def D.purs : List D → Bool
  | [] => true
  | a :: as => a.pur && D.purs as
end
/-! the objects that are named in it are below n -/
mutual
def D.under (n : Nat) : D → Bool
  | .tup l => D.unders n l
  | .lv l => D.unders n l
  | .rl l => D.unders n l
  | .dv _ ks vs => D.unders n ks && D.unders n vs
  | .ref i => decide (i < n)
  | .fn _ l => D.unders n l
  | _ => true
def D.unders (n : Nat) : List D → Bool
  | [] => true
  | a :: as => a.under n && D.unders n as
end
mutual
theorem D.under_of_pur {n : Nat} : ∀ d : D, d.pur = true → d.under n = true
  | .non, _ | .bl _, _ | .int _, _ | .str _, _ => by simp [D.under]
  | .tup l, h => by simp [D.under]; exact D.unders_of_purs l (by simpa [D.pur] using h)
  | .lv l, h => by simp [D.under]; exact D.unders_of_purs l (by simpa [D.pur] using h)
  | .rl l, h => by simp [D.under]; exact D.unders_of_purs l (by simpa [D.pur] using h)
  | .dv _ a b, h => by
    have h' : D.purs a = true ∧ D.purs b = true := by simpa [D.pur] using h
    simp [D.under]; exact ⟨D.unders_of_purs a h'.1, D.unders_of_purs b h'.2⟩
  | .ref _, h => by simp [D.pur] at h
  | .fn _ l, h => by simp [D.under]; exact D.unders_of_purs l (by simpa [D.pur] using h)
theorem D.unders_of_purs {n : Nat} : ∀ l : List D, D.purs l = true → D.unders n l = true
  | [], _ => by simp [D.unders]
  | a :: as, h => by
    have h' : a.pur = true ∧ D.purs as = true := by simpa [D.purs] using h
    simp [D.unders]; exact ⟨D.under_of_pur a h'.1, D.unders_of_purs as h'.2⟩
end

/-- a def's own objects are gone where nobody names them -/
def cut (m : M D) : M D := fun h => match m h with
  | .ok d h' => if h'.take h.length = h ∧ d.under h.length = true then .ok d h else .ok d h'
  | .ex C fs h' => if h'.take h.length = h ∧ D.unders h.length (fs.map (·.2)) = true then .ex C fs h else .ex C fs h'
  | .bad => .bad
theorem cut_ok {m : M D} {h g : DH} {d : D} (e : m h = .ok d (h ++ g)) (p : d.pur = true) : cut m h = .ok d h := by
  unfold cut
  rw [e]
  have t : (h ++ g).take h.length = h := by simp
  simp [t, D.under_of_pur d p]

/-! ### data read as the library's data -/
/-- how an object's list is read -/
def toPG (r : Nat → Option (List PyData)) : D → Option PyData
  | .non => some .none
  | .bl b => some (.bool b)
  | .int i => some (.int i)
  | .str x => some (.str x)
  | .tup l => (toPGs r l).map .tuple
  | .lv l => (toPGs r l).map .list
  | .rl l => (toPGs r l).map .list
  | .ref n => (r n).map .list
  | .dv _ _ _ => none
  | .fn _ _ => none
where toPGs (r : Nat → Option (List PyData)) : List D → Option (List PyData)
  | [] => some []
  | a :: as => match toPG r a, toPGs r as with
    | some p, some ps => some (p :: ps)
    | _, _ => none
def toPs (h : DH) : Nat → List D → Option (List PyData)
  | 0, l => toPG.toPGs (fun _ => none) l
  | k + 1, l => toPG.toPGs (fun n => match h[n]? with
    | some (.lst l) => toPs h k l
    | _ => none) l
def toP (h : DH) (d : D) : Option PyData := toPG (fun n => match h[n]? with
    | some (.lst l) => toPs h 3 l
    | _ => none) d

/-- a key of a dict of tuples -/
def toK : D → Option NestedKey
  | .non => some .none
  | .bl b => some (.num (if b then 1 else 0))
  | .int i => some (.num i)
  | .str x => some (.text x)
  | .tup l => (toKs l).map .tup
  | _ => none
where toKs : List D → Option (List NestedKey)
  | [] => some []
  | a :: as => match toK a, toKs as with
    | some p, some ps => some (p :: ps)
    | _, _ => none
/-- a key of a dict of ints and texts -/
def toKey : D → Option Key
  | .int i => some (.inl i)
  | .str x => some (.inr x)
  | _ => none
end Wy

set_option Elab.async false
set_option linter.all false
set_option maxRecDepth 100000
set_option maxHeartbeats 4000000
namespace Wy
open PySem PySem.Spec PyProof.Rows L2

/-! ### what stands for what -/
/-- own classes by names; classes of exceptions by names; what a function's object says -/
structure Tb where
  cls : Str → Addr → Prop
  exc : Str → Value → Prop
  fnR : Hp → Str → Addr → List V → Prop
structure Gx where
  P : Program
  w : World
  K : PySem.W.Frag
  T : Tb
abbrev gx (X : Cx) (T : Tb) : Gx := ⟨X.prog, X.w, X.K, T⟩

/-- a dict whose keys are tuples: the key, where it stands, its value -/
def TDO (P : Program) (w : World) (a : Addr) (xs : List (NestedKey × Addr × V)) : HO := .ext fun h => (a == sysModules) = false ∧ xs.length ≤ sizeLine ∧ (xs.map (·.1)).Nodup ∧ (∀ x ∈ xs, x.1.depth ≤ 8) ∧ ∃ (o : Obj) (es : Array DictEntry) (ep : Nat) (ys : List (NestedKey × Addr × Value)),
  h.get? a = some o ∧ o.ExactDict ∧ o.data = .dict es ep ∧ es.toList = ys.map (entryOfKey (nestedKind P w)) ∧ Paired (fun (p : NestedKey × Addr × V) (q : NestedKey × Addr × Value) => p.1 = q.1 ∧ p.2.1 = q.2.1 ∧ RelV p.2.2 q.2.2) xs ys

/-- where the objects that may be changed stand; hid: objects that are being made (nobody names them) -/
structure Rg where
  l : List Addr
  hid : List Addr
def Rg.add (ρ : Rg) (p : Addr) : Rg := ⟨ρ.l ++ [p], ρ.hid⟩
/-- it is neither one that may be changed nor a hidden one -/
def Rg.Out (ρ : Rg) (a : Addr) : Prop := a ∉ ρ.l ∧ a ∉ ρ.hid
/-- a list that nobody writes: tracked but not in ρ, or of the written part -/
def Ro (K : PySem.W.Frag) (ρ : Rg) (H : Hp) (a : Addr) (xs : List V) : Prop := (ρ.Out a ∧ Rd H a (.lst xs)) ∨ ∀ H' : Hp, SqL K H' a xs
/-- all items are pairs -/
def D.isPair : D → Bool
  | .tup l => decide (l.length = 2)
  | _ => false
def pairsD (l : List D) : Bool := l.all D.isPair
/-- a tuple's object bears no dict of its own -/
def PlT (K : PySem.W.Frag) (H : Hp) (a : Addr) : Prop := (∃ o xs, H a = some (.frz o (.tup xs)) ∧ o.dict = none) ∨ ∃ o, K.lookup a = some o ∧ o.dict = none
mutual
inductive RV (G : Gx) (ρ : Rg) (H : Hp) : D → V → Prop
  | non : RV G ρ H .non .non
  | bl (b : Bool) : RV G ρ H (.bl b) (.bl b)
  | int (i : Int) : RV G ρ H (.int i) (.int i)
  | str (x : Str) : PyData.strOk x = true → RV G ρ H (.str x) (.str x)
  | tup {l : List D} {a : Addr} {xs : List V} : SqT G.K H a xs → RVs G ρ H l xs → (pairsD l = true → PlT G.K H a) → RV G ρ H (.tup l) (.ref a)
  | lv {l : List D} {a : Addr} {xs : List V} : ρ.Out a → H a = some (.lst xs) → RVs G ρ H l xs → RV G ρ H (.lv l) (.ref a)
  | rl {l : List D} {a : Addr} {xs : List V} : Ro G.K ρ H a xs → RVs G ρ H l xs → RV G ρ H (.rl l) (.ref a)
  | ref {n : Nat} {a : Addr} : ρ.l[n]? = some a → RV G ρ H (.ref n) (.ref a)
  | dvk {ks vs : List D} {a : Addr} {kvs : List (Key × V)} {us : List V} : ρ.Out a → H a = some (.dK kvs) → ks.map toKey = kvs.map (fun p => some p.1) → us = kvs.map (·.2) → RVs G ρ H vs us → RV G ρ H (.dv false ks vs) (.ref a)
  | dvt {ks vs : List D} {a : Addr} {xs : List (NestedKey × Addr × V)} {ts us : List V} : ρ.Out a → H a = some (TDO G.P G.w a xs) → ts = xs.map (fun x => .ref x.2.1) → RVs G ρ H ks ts → ks.map toK = xs.map (fun x => some x.1) →
      us = xs.map (·.2.2) → RVs G ρ H vs us → RV G ρ H (.dv true ks vs) (.ref a)
  | fn {f : Str} {cs : List D} {a : Addr} {us : List V} (fp : List Addr) : (∀ b ∈ fp, ρ.Out b ∧ (H b).isSome = true) → (∀ H' : Hp, (∀ b ∈ fp, H' b = H b) → G.T.fnR H' f a us) → RVs G ρ H cs us → RV G ρ H (.fn f cs) (.ref a)
inductive RVs (G : Gx) (ρ : Rg) (H : Hp) : List D → List V → Prop
  | nil : RVs G ρ H [] []
  | cons {d : D} {v : V} {ds : List D} {vs : List V} : RV G ρ H d v → RVs G ρ H ds vs → RVs G ρ H (d :: ds) (v :: vs)
end

section
variable {G : Gx} {ρ ρ' : Rg} {H H' : Hp}
theorem RVs.len : ∀ {ds : List D} {vs : List V}, RVs G ρ H ds vs → ds.length = vs.length
  | _, _, .nil => rfl
  | _, _, .cons _ t => by simp [RVs.len t]
theorem RVs.app : ∀ {ds es : List D} {vs us : List V}, RVs G ρ H ds vs → RVs G ρ H es us → RVs G ρ H (ds ++ es) (vs ++ us)
  | _, _, _, _, .nil, s => s
  | _, _, _, _, .cons r t, s => .cons r (RVs.app t s)
theorem RVs.get : ∀ {ds : List D} {vs : List V} {i : Nat} {d : D}, RVs G ρ H ds vs → ds[i]? = some d → ∃ v, vs[i]? = some v ∧ RV G ρ H d v
  | _, _, i, _, .nil, e => by simp at e
  | _, _, 0, _, .cons r t, e => by simp at e; subst e; exact ⟨_, rfl, r⟩
  | _, _, i + 1, _, .cons r t, e => by
    obtain ⟨v, h1, h2⟩ := RVs.get (i := i) t (by simpa using e)
    exact ⟨v, by simpa using h1, h2⟩
theorem RVs.get' : ∀ {ds : List D} {vs : List V} {i : Nat} {v : V}, RVs G ρ H ds vs → vs[i]? = some v → ∃ d, ds[i]? = some d ∧ RV G ρ H d v
  | _, _, i, _, .nil, e => by simp at e
  | _, _, 0, _, .cons r t, e => by simp at e; subst e; exact ⟨_, rfl, r⟩
  | _, _, i + 1, _, .cons r t, e => by
    obtain ⟨v, h1, h2⟩ := RVs.get' (i := i) t (by simpa using e)
    exact ⟨v, by simpa using h1, h2⟩
theorem RVs.of {ds : List D} : ∀ {vs : List V}, ds.length = vs.length → (∀ (i : Nat) d v, ds[i]? = some d → vs[i]? = some v → RV G ρ H d v) → RVs G ρ H ds vs := by
  induction ds with
  | nil => intro vs e _; cases vs with
    | nil => exact .nil
    | cons _ _ => simp at e
  | cons d ds ih => intro vs e h; cases vs with
    | nil => simp at e
    | cons v vs => exact .cons (h 0 d v rfl rfl) (ih (by simpa using e) fun i d' v' h1 h2 => h (i + 1) d' v' (by simpa using h1) (by simpa using h2))
theorem RVs.take {ds : List D} {vs : List V} (n : Nat) (r : RVs G ρ H ds vs) : RVs G ρ H (ds.take n) (vs.take n) := by
  induction n generalizing ds vs with
  | zero => simpa using RVs.nil
  | succ n ih => cases r with
    | nil => exact .nil
    | cons r t => exact .cons r (ih t)
theorem RVs.drop {ds : List D} {vs : List V} (n : Nat) (r : RVs G ρ H ds vs) : RVs G ρ H (ds.drop n) (vs.drop n) := by
  induction n generalizing ds vs with
  | zero => simpa using r
  | succ n ih => cases r with
    | nil => simpa using RVs.nil
    | cons r t => simpa using ih t
theorem RVs.set {ds : List D} {vs : List V} {d : D} {v : V} (q : RV G ρ H d v) (i : Nat) (r : RVs G ρ H ds vs) : RVs G ρ H (ds.set i d) (vs.set i v) := by
  induction i generalizing ds vs with
  | zero => cases r with
    | nil => exact .nil
    | cons r t => exact .cons q t
  | succ n ih => cases r with
    | nil => exact .nil
    | cons r t => exact .cons r (ih t)
theorem RVs.rev {ds : List D} {vs : List V} (r : RVs G ρ H ds vs) : RVs G ρ H ds.reverse vs.reverse := by
  induction ds generalizing vs with
  | nil => cases r; exact .nil
  | cons d ds ih => cases r with
    | cons r t => simpa using RVs.app (ih t) (.cons r .nil)
theorem RVs.one {d : D} {vs : List V} (r : RVs G ρ H [d] vs) : ∃ v, vs = [v] ∧ RV G ρ H d v := by
  cases r with
  | cons r t => cases t; exact ⟨_, rfl, r⟩
theorem RVs.two {d e : D} {vs : List V} (r : RVs G ρ H [d, e] vs) : ∃ v u, vs = [v, u] ∧ RV G ρ H d v ∧ RV G ρ H e u := by
  cases r with
  | cons r t => cases t with
    | cons s t => cases t; exact ⟨_, _, rfl, r, s⟩
theorem RVs.three {d e f : D} {vs : List V} (r : RVs G ρ H [d, e, f] vs) : ∃ v u w, vs = [v, u, w] ∧ RV G ρ H d v ∧ RV G ρ H e u ∧ RV G ρ H f w := by
  cases r with
  | cons r t => cases t with
    | cons s t => cases t with
      | cons q t => cases t; exact ⟨_, _, _, rfl, r, s, q⟩

/-- what may have changed: the objects of ρ, and new ones -/
structure Stp (ρ : Rg) (H : Hp) (ρ' : Rg) (H' : Hp) : Prop where
  pre : ρ.l <+: ρ'.l
  hid : ρ'.hid = ρ.hid
  new : ∀ b ∈ ρ'.l, b ∈ ρ.l ∨ H b = none
  old : ∀ b o, H b = some o → b ∉ ρ.l → H' b = some o
theorem Stp.refl : Stp ρ H ρ H := ⟨List.prefix_refl _, rfl, fun _ h => .inl h, fun _ _ h _ => h⟩
theorem Stp.trans {ρ1 ρ2 : Rg} {H1 H2 : Hp} (a : Stp ρ H ρ1 H1) (b : Stp ρ1 H1 ρ2 H2) : Stp ρ H ρ2 H2 := by
  have key : ∀ c o, H c = some o → c ∉ ρ.l → c ∉ ρ1.l := fun c o e n hc => by
    rcases a.new c hc with z | z
    · exact n z
    · rw [e] at z; cases z
  refine ⟨a.pre.trans b.pre, b.hid.trans a.hid, fun c hc => ?_, fun c o e n => b.old c o (a.old c o e n) (key c o e n)⟩
  rcases b.new c hc with z | z
  · exact a.new c z
  · cases q : H c with
    | none => exact .inr rfl
    | some o =>
      by_cases n : c ∈ ρ.l
      · exact .inl n
      · rw [a.old c o q n] at z; cases z
theorem Stp.laid {p : Addr} {o : HO} (hp : H p = none) : Stp ρ H ρ (upd H p o) := ⟨List.prefix_refl _, rfl, fun _ h => .inl h, fun b x e _ => by rw [upd_ne (ne_of_none e hp)]; exact e⟩
theorem Stp.mk1 {p : Addr} {o : HO} (hp : H p = none) : Stp ρ H (ρ.add p) (upd H p o) := by
  refine ⟨List.prefix_append _ _, rfl, fun b h => ?_, fun b x e _ => by rw [upd_ne (ne_of_none e hp)]; exact e⟩
  rcases List.mem_append.mp h with h1 | h1
  · exact .inl h1
  · exact .inr (by simp at h1; rw [h1]; exact hp)
theorem Stp.wr {p : Addr} {o : HO} (hp : p ∈ ρ.l) : Stp ρ H ρ (upd H p o) := ⟨List.prefix_refl _, rfl, fun _ h => .inl h, fun b x e n => by rw [upd_ne (fun z => n (by rw [z]; exact hp))]; exact e⟩

/-- the objects of ρ are such as may be written -/
def Muts (ρ : Rg) (H : Hp) : Prop := ∀ a, a ∈ ρ.l ∨ a ∈ ρ.hid → Mut (H a)
theorem mut_some {o : Option HO} (h : Mut o) : o.isSome = true := by
  cases o with
  | none => exact h.elim
  | some _ => rfl
/-- what a thing hangs on stays -/
structure Mv (ρ : Rg) (H : Hp) (ρ' : Rg) (H' : Hp) : Prop where
  get : ∀ (n : Nat) (a : Addr), ρ.l[n]? = some a → ρ'.l[n]? = some a
  out : ∀ a, ρ.Out a → (H a).isSome = true → ρ'.Out a
  old : ∀ a o, H a = some o → ρ.Out a → H' a = some o

theorem Stp.notin (s : Stp ρ H ρ' H') {b : Addr} (n : b ∉ ρ.l) (e : (H b).isSome = true) : b ∉ ρ'.l := fun h => by
  rcases s.new b h with z | z
  · exact n z
  · rw [z] at e; cases e
theorem Stp.out (s : Stp ρ H ρ' H') {b : Addr} (n : ρ.Out b) (e : (H b).isSome = true) : ρ'.Out b := ⟨s.notin n.1 e, by rw [s.hid]; exact n.2⟩
theorem Stp.keep (s : Stp ρ H ρ' H') {b : Addr} (n : b ∉ ρ.l) (e : (H b).isSome = true) : H' b = H b := by
  cases q : H b with
  | none => rw [q] at e; cases e
  | some o => exact s.old b o q n
theorem pre_get {α : Type} {l l' : List α} {i : Nat} {x : α} (h : l <+: l') (e : l[i]? = some x) : l'[i]? = some x := by
  obtain ⟨t, rfl⟩ := h
  rw [List.getElem?_append_left (List.getElem?_eq_some_iff.mp e).1]
  exact e
theorem Stp.mv (s : Stp ρ H ρ' H') : Mv ρ H ρ' H' := ⟨fun _ _ e => pre_get s.pre e, fun _ n e => s.out n e, fun _ _ e n => s.old _ _ e n.1⟩
theorem Mv.rd (s : Mv ρ H ρ' H') {b : Addr} {u : HO} (n : ρ.Out b) (r : Rd H b u) : Rd H' b u := by
  rcases r with r | ⟨o, r⟩
  · exact .inl (s.old b _ r n)
  · exact .inr ⟨o, s.old b _ r n⟩
theorem Mv.sqT {K : PySem.W.Frag} {a : Addr} {xs : List V} (s : Mv ρ H ρ' H') (m : Muts ρ H) (h : SqT K H a xs) : SqT K H' a xs := by
  rcases h with h | h
  · have no : ∀ z : a ∈ ρ.l ∨ a ∈ ρ.hid, False := fun z => by
      have q := m a z
      rcases h with h | ⟨o, h⟩
      · rw [h] at q; exact q
      · rw [h] at q; exact q
    exact .inl (s.rd ⟨fun z => no (.inl z), fun z => no (.inr z)⟩ h)
  · exact .inr h
theorem Mv.plT {K : PySem.W.Frag} {a : Addr} (s : Mv ρ H ρ' H') (m : Muts ρ H) (h : PlT K H a) : PlT K H' a := by
  rcases h with ⟨o, xs, h, d⟩ | h
  · have no : ∀ z : a ∈ ρ.l ∨ a ∈ ρ.hid, False := fun z => by
      have q := m a z
      rw [h] at q; exact q
    exact .inl ⟨o, xs, s.old a _ h ⟨fun z => no (.inl z), fun z => no (.inr z)⟩, d⟩
  · exact .inr h
theorem Mv.keep (s : Mv ρ H ρ' H') {b : Addr} (n : ρ.Out b) (e : (H b).isSome = true) : H' b = H b := by
  cases q : H b with
  | none => rw [q] at e; cases e
  | some o => exact s.old b o q n
theorem Mv.ro {K : PySem.W.Frag} {a : Addr} {xs : List V} (s : Mv ρ H ρ' H') (h : Ro K ρ H a xs) : Ro K ρ' H' a xs := by
  rcases h with ⟨n, h⟩ | h
  · refine .inl ⟨s.out a n ?_, s.rd n h⟩
    rcases h with h | ⟨o, h⟩ <;> (rw [h]; rfl)
  · exact .inr h
theorem Ro.sqL {K : PySem.W.Frag} {a : Addr} {xs : List V} (h : Ro K ρ H a xs) : SqL K H a xs := by
  rcases h with ⟨_, h⟩ | h
  · exact .inl h
  · exact h H
theorem Ro.of_sqL {K : PySem.W.Frag} {a : Addr} {xs : List V} (n : ρ.Out a) (h : SqL K H a xs) : Ro K ρ H a xs := by
  rcases h with h | h
  · exact .inl ⟨n, h⟩
  · exact .inr fun _ => .inr h
mutual
theorem RV.mv (s : Mv ρ H ρ' H') (m : Muts ρ H) : ∀ (d : D) (v : V), RV G ρ H d v → RV G ρ' H' d v
  | _, _, .non => .non
  | _, _, .bl b => .bl b
  | _, _, .int i => .int i
  | _, _, .str x h => .str x h
  | _, _, .tup h r p => .tup (s.sqT m h) (RVs.mv s m _ _ r) fun e => s.plT m (p e)
  | _, _, .lv n e r => .lv (s.out _ n (by rw [e]; rfl)) (s.old _ _ e n) (RVs.mv s m _ _ r)
  | _, _, .rl h r => .rl (s.ro h) (RVs.mv s m _ _ r)
  | _, _, .ref e => .ref (s.get _ _ e)
  | _, _, .dvk n e k u r => .dvk (s.out _ n (by rw [e]; rfl)) (s.old _ _ e n) k u (RVs.mv s m _ _ r)
  | _, _, .dvt n e t rk k u r => .dvt (s.out _ n (by rw [e]; rfl)) (s.old _ _ e n) t (RVs.mv s m _ _ rk) k u (RVs.mv s m _ _ r)
  | _, _, .fn fp hb hf r => .fn fp (fun b h => ⟨s.out b (hb b h).1 (hb b h).2, by rw [s.keep (hb b h).1 (hb b h).2]; exact (hb b h).2⟩)
      (fun H2 h2 => hf H2 fun b h => (h2 b h).trans (s.keep (hb b h).1 (hb b h).2)) (RVs.mv s m _ _ r)
theorem RVs.mv (s : Mv ρ H ρ' H') (m : Muts ρ H) : ∀ (ds : List D) (vs : List V), RVs G ρ H ds vs → RVs G ρ' H' ds vs
  | _, _, .nil => .nil
  | _, _, .cons r t => .cons (RV.mv s m _ _ r) (RVs.mv s m _ _ t)
end
theorem RV.mono (s : Stp ρ H ρ' H') (m : Muts ρ H) (d : D) (v : V) (r : RV G ρ H d v) : RV G ρ' H' d v := RV.mv s.mv m d v r
theorem RVs.mono (s : Stp ρ H ρ' H') (m : Muts ρ H) (ds : List D) (vs : List V) (r : RVs G ρ H ds vs) : RVs G ρ' H' ds vs := RVs.mv s.mv m ds vs r

/-! ### the heap of data and the tracked one -/
def ObR (G : Gx) (ρ : Rg) (H : Hp) (a : Addr) : Ob → Prop
  | .lst l => ∃ xs, H a = some (.lst xs) ∧ RVs G ρ H l xs
  | .dct false kvs => ∃ (ks : List (Key × V)) (us : List V), H a = some (.dK ks) ∧ kvs.map (fun p => toKey p.1) = ks.map (fun p => some p.1) ∧ us = ks.map (·.2) ∧ RVs G ρ H (kvs.map (·.2)) us
  | .dct true kvs => ∃ (xs : List (NestedKey × Addr × V)) (ts us : List V), H a = some (TDO G.P G.w a xs) ∧ ts = xs.map (fun x => V.ref x.2.1) ∧ RVs G ρ H (kvs.map (·.1)) ts ∧
      kvs.map (fun p => toK p.1) = xs.map (fun x => some x.1) ∧ us = xs.map (·.2.2) ∧ RVs G ρ H (kvs.map (·.2)) us
  | .ins C fs => ∃ (Ca dx : Addr) (vs : List (Str × V)) (us : List V), G.T.cls C Ca ∧ H a = some (.ins Ca dx vs) ∧ vs.map (·.1) = fs.map (·.1) ∧ us = vs.map (·.2) ∧ RVs G ρ H (fs.map (·.2)) us
structure Rep (G : Gx) (ρ : Rg) (hd : DH) (H : Hp) : Prop where
  len : ρ.l.length = hd.length
  nd : ρ.l.Nodup
  hid : ∀ a ∈ ρ.hid, Mut (H a) ∧ a ∉ ρ.l
  ob : ∀ (n : Nat) (a : Addr) (o : Ob), ρ.l[n]? = some a → hd[n]? = some o → ObR G ρ H a o
theorem ObR.mut {a : Addr} : ∀ {o : Ob}, ObR G ρ H a o → Mut (H a)
  | .lst _, ⟨_, e, _⟩ => by rw [e]; trivial
  | .dct false _, ⟨_, _, e, _⟩ => by rw [e]; trivial
  | .dct true _, ⟨_, _, _, e, _⟩ => by rw [e]; trivial
  | .ins _ _, ⟨_, _, _, _, _, e, _⟩ => by rw [e]; trivial
theorem ObR.mono {a : Addr} (s : Mv ρ H ρ' H') (m : Muts ρ H) (e : H' a = H a) : ∀ {o : Ob}, ObR G ρ H a o → ObR G ρ' H' a o
  | .lst _, ⟨xs, e1, r⟩ => ⟨xs, e.trans e1, RVs.mv s m _ _ r⟩
  | .dct false _, ⟨ks, us, e1, k, u, r⟩ => ⟨ks, us, e.trans e1, k, u, RVs.mv s m _ _ r⟩
  | .dct true _, ⟨xs, ts, us, e1, t, rt, k, u, r⟩ => ⟨xs, ts, us, e.trans e1, t, RVs.mv s m _ _ rt, k, u, RVs.mv s m _ _ r⟩
  | .ins _ _, ⟨Ca, dx, vs, us, c, e1, n, u, r⟩ => ⟨Ca, dx, vs, us, c, e.trans e1, n, u, RVs.mv s m _ _ r⟩
variable {hd hd' : DH}
theorem Rep.at (r : Rep G ρ hd H) {n : Nat} {o : Ob} (e : hd[n]? = some o) : ∃ a, ρ.l[n]? = some a ∧ ObR G ρ H a o := by
  have h : n < ρ.l.length := by rw [r.len]; exact (List.getElem?_eq_some_iff.mp e).1
  exact ⟨ρ.l[n], List.getElem?_eq_getElem h, r.ob n _ o (List.getElem?_eq_getElem h) e⟩
theorem Rep.muts (r : Rep G ρ hd H) : Muts ρ H := fun a ha => by
  rcases ha with ha | ha
  case inr => exact (r.hid a ha).1
  obtain ⟨n, hn, e⟩ := List.getElem_of_mem ha
  have h : n < hd.length := by rw [← r.len]; exact hn
  exact (r.ob n a hd[n] (by rw [← e]; exact List.getElem?_eq_getElem hn) (List.getElem?_eq_getElem h)).mut
theorem Rep.some' (r : Rep G ρ hd H) {a : Addr} (h : a ∈ ρ.l) : (H a).isSome = true := by
  exact mut_some (r.muts a (.inl h))
/-- the objects stand as they stood -/
theorem Rep.same (r : Rep G ρ hd H) (s : Stp ρ H ρ H') (k : ∀ a ∈ ρ.l, H' a = H a) : Rep G ρ hd H' :=
  ⟨r.len, r.nd, fun a ha => ⟨by rw [s.keep (r.hid a ha).2 (mut_some (r.hid a ha).1)]; exact (r.hid a ha).1, (r.hid a ha).2⟩, fun n a o h1 h2 => (r.ob n a o h1 h2).mono s.mv r.muts (k a (List.mem_of_getElem? h1))⟩
theorem Rep.laid (r : Rep G ρ hd H) {p : Addr} {o : HO} (hp : H p = none) : Rep G ρ hd (upd H p o) :=
  r.same (Stp.laid hp) fun a h => upd_ne fun z => by have q := r.some' h; rw [z, hp] at q; cases q
/-- what isn't tracked yet is neither an object of ρ nor a hidden one -/
theorem Rep.out (r : Rep G ρ hd H) {p : Addr} (hp : H p = none) : ρ.Out p := ⟨fun z => (by have q := r.some' z; rw [hp] at q; cases q), fun z => (by have q := (r.hid p z).1; rw [hp] at q; exact q)⟩
/-- a new object -/
theorem Rep.mk1 (r : Rep G ρ hd H) {p : Addr} {o : HO} {ob : Ob} (hp : H p = none) (q : ObR G (ρ.add p) (upd H p o) p ob) : Rep G (ρ.add p) (hd ++ [ob]) (upd H p o) := by
  have hn : p ∉ ρ.l := fun z => by have q := r.some' z; rw [hp] at q; cases q
  have hz : ∀ a ∈ (ρ.add p).hid, Mut (upd H p o a) ∧ a ∉ (ρ.add p).l := fun a ha => by
    obtain ⟨h1, h2⟩ := r.hid a ha
    have ne : a ≠ p := fun z => by rw [z, hp] at h1; exact h1
    exact ⟨by rw [upd_ne ne]; exact h1, fun z => (List.mem_append.mp z).elim h2 fun z => ne (by simpa using z)⟩
  refine ⟨by simp [Rg.add, r.len], ?_, hz, fun n a o' h1 h2 => ?_⟩
  · show (ρ.l ++ [p]).Nodup
    rw [List.nodup_append]
    exact ⟨r.nd, by simp, fun x hx y hy z => by simp at hy; subst hy; subst z; exact hn hx⟩
  · have h1 : (ρ.l ++ [p])[n]? = some a := h1
    by_cases c : n < ρ.l.length
    · rw [List.getElem?_append_left c] at h1
      rw [List.getElem?_append_left (by rw [← r.len]; exact c)] at h2
      exact (r.ob n a o' h1 h2).mono (Stp.mk1 hp).mv r.muts (upd_ne fun z => hn (by rw [← z]; exact List.mem_of_getElem? h1))
    · have e : n = ρ.l.length := by
        have := (List.getElem?_eq_some_iff.mp h1).1
        simp at this
        omega
      subst e
      rw [List.getElem?_append_right (Nat.le_refl _)] at h1
      rw [List.getElem?_append_right (by rw [r.len]; exact Nat.le_refl _), r.len] at h2
      simp at h1 h2
      subst h1; subst h2
      exact q
/-- an object is changed -/
theorem Rep.wr (r : Rep G ρ hd H) {n : Nat} {p : Addr} {o : HO} {ob : Ob} (hp : ρ.l[n]? = some p) (q : ObR G ρ (upd H p o) p ob) : Rep G ρ (hd.set n ob) (upd H p o) := by
  have hz : ∀ a ∈ ρ.hid, Mut (upd H p o a) ∧ a ∉ ρ.l := fun a ha => by
    obtain ⟨h1, h2⟩ := r.hid a ha
    exact ⟨by rw [upd_ne fun z => h2 (by rw [z]; exact List.mem_of_getElem? hp)]; exact h1, h2⟩
  refine ⟨by simp [r.len], r.nd, hz, fun m a o' h1 h2 => ?_⟩
  by_cases c : m = n
  · subst c
    rw [hp] at h1; cases h1
    have hm : m < hd.length := by rw [← r.len]; exact (List.getElem?_eq_some_iff.mp hp).1
    rw [List.getElem?_set_self hm] at h2; cases h2
    exact q
  · rw [List.getElem?_set_ne (Ne.symm c)] at h2
    refine (r.ob m a o' h1 h2).mono (Stp.wr (List.mem_of_getElem? hp)).mv r.muts (upd_ne fun z => c ?_)
    obtain ⟨h3, e3⟩ := List.getElem?_eq_some_iff.mp h1
    obtain ⟨h4, e4⟩ := List.getElem?_eq_some_iff.mp hp
    exact (List.getElem_inj r.nd).mp (by rw [e3, e4]; exact z)

/-! ### slots -/
abbrev SD := List (Option D)
def RSt (G : Gx) (ρ : Rg) (H : Hp) (sd : SD) (σ : L2.St) : Prop := sd.length = σ.length ∧ ∀ (i : Nat) d, sd[i]? = some (some d) → ∃ v, σ[i]? = some (some v) ∧ RV G ρ H d v
theorem RSt.mono {sd : SD} {σ : L2.St} (s : Stp ρ H ρ' H') (m : Muts ρ H) (r : RSt G ρ H sd σ) : RSt G ρ' H' sd σ := ⟨r.1, fun i d e =>
  let ⟨v, e1, q⟩ := r.2 i d e
  ⟨v, e1, RV.mono s m _ _ q⟩⟩
theorem RSt.set {sd : SD} {σ : L2.St} {i : Nat} {d : D} {v : V} (r : RSt G ρ H sd σ) (q : RV G ρ H d v) : RSt G ρ H (sd.set i (some d)) (σ.set i (some v)) := ⟨by simp [r.1], fun j d' e => by
  by_cases c : j = i
  · subst c
    have hj : j < sd.length := by
      have := (List.getElem?_eq_some_iff.mp e).1
      simpa using this
    rw [List.getElem?_set_self hj] at e; cases e
    exact ⟨v, List.getElem?_set_self (by rw [← r.1]; exact hj), q⟩
  · rw [List.getElem?_set_ne (Ne.symm c)] at e
    obtain ⟨v', e1, q'⟩ := r.2 j d' e
    exact ⟨v', by rw [List.getElem?_set_ne (Ne.symm c)]; exact e1, q'⟩⟩
end
end Wy

set_option Elab.async false
set_option linter.all false
set_option maxRecDepth 100000
set_option maxHeartbeats 4000000
namespace Wy
open PySem PySem.Spec PyProof.Rows L2

/-! ### readings -/
/-- an exception's class and fields -/
def ExR (G : Gx) (ρ : Rg) (H : Hp) (C : Str) (fs : List (Str × D)) (c : Value) (dd : Option Addr) : Prop :=
  G.T.exc C c ∧ ((fs = [] ∧ dd = none) ∨ ∃ d vs us, fs ≠ [] ∧ dd = some d ∧ ρ.Out d ∧ H d = some (.xd vs) ∧ vs.map (·.1) = fs.map (·.1) ∧ us = vs.map (·.2) ∧ RVs G ρ H (fs.map (·.2)) us)
section
variable {α β γ δ : Type}
def Res (G : Gx) (W : WX) (σ : L2.St) (R : Rg → Hp → α → β → Prop) (ρ : Rg) (H : Hp) (r : Re α) (Q : β → Hp → Prop) : Prop := match r with
  | .ok a hd => ∀ ρ' H' b, Rep G ρ' hd H' → Stp ρ H ρ' H' → R ρ' H' a b → Q b H'
  | .ex C fs hd => ∀ ρ' H' c dd, Rep G ρ' hd H' → Stp ρ H ρ' H' → ExR G ρ' H' C fs c dd → W c dd σ H'
  | .bad => False
def tG (G : Gx) (W : WX) (R : Rg → Hp → α → β → Prop) (m : SD → M α) (σ : L2.St) (H : Hp) (Q : β → Hp → Prop) : Prop :=
  ∃ ρ hd sd, Rep G ρ hd H ∧ RSt G ρ H sd σ ∧ Res G W σ R ρ H (m sd hd) Q
/-- where one is, with a thing -/
def At (G : Gx) (σ : L2.St) (R : Rg → Hp → α → β → Prop) (ρ : Rg) (hd : DH) (sd : SD) (H : Hp) (a : α) (b : β) : Prop := Rep G ρ hd H ∧ RSt G ρ H sd σ ∧ R ρ H a b
variable {G : Gx} {W : WX} {R : Rg → Hp → α → β → Prop} {R2 : Rg → Hp → γ → δ → Prop} {σ : L2.St} {H H' : Hp} {ρ ρ' : Rg} {Q : δ → Hp → Prop}
theorem Res.from {r : Re γ} (s : Stp ρ H ρ' H') (h : Res G W σ R2 ρ H r Q) : Res G W σ R2 ρ' H' r Q := by
  cases r with
  | ok a hd => exact fun ρ2 H2 b r2 s2 q => h ρ2 H2 b r2 (s.trans s2) q
  | ex C fs hd => exact fun ρ2 H2 c dd r2 s2 q => h ρ2 H2 c dd r2 (s.trans s2) q
  | bad => exact h
theorem Res.then {r : Re γ} {Q' : δ → Hp → Prop} (h : Res G W σ R2 ρ H r Q) (f : ∀ b H', Q b H' → Q' b H') : Res G W σ R2 ρ H r Q' := by
  cases r with
  | ok a hd => exact fun ρ2 H2 b r2 s2 q => f _ _ (h ρ2 H2 b r2 s2 q)
  | ex C fs hd => exact h
  | bad => exact h
theorem tG_then {m : SD → M γ} {Q' : δ → Hp → Prop} (h : tG G W R2 m σ H Q) (f : ∀ b H', Q b H' → Q' b H') : tG G W R2 m σ H Q' :=
  let ⟨ρ, hd, sd, r, st, h⟩ := h
  ⟨ρ, hd, sd, r, st, h.then f⟩
/-- one thing, then what hangs on it -/
theorem tG_bind {m : SD → M α} {k : SD → α → M γ} (h : tG G W R2 (fun s => m s >>= k s) σ H Q) :
    tG G W R m σ H fun b H' => ∃ ρ hd sd a, At G σ R ρ hd sd H' a b ∧ Res G W σ R2 ρ H' (k sd a hd) Q := by
  obtain ⟨ρ, hd, sd, r, st, h⟩ := h
  refine ⟨ρ, hd, sd, r, st, ?_⟩
  have h : Res G W σ R2 ρ H ((m sd >>= k sd) hd) Q := h
  rw [bind_ap] at h
  cases e : m sd hd with
  | ok a hd' =>
    rw [e] at h
    exact fun ρ' H' b r' s' q => ⟨ρ', hd', sd, a, ⟨r', st.mono s' r.muts, q⟩, h.from s'⟩
  | ex C fs hd' => rw [e] at h; exact h
  | bad => rw [e] at h; exact h
theorem tG_bind' {m : SD → M α} {k : SD → α → M γ} (h : tG G W R2 (fun s => m s >>= k s) σ H Q) :
    tG G W R m σ H fun b H' => ∃ ρ hd sd a, At G σ R ρ hd sd H' a b ∧ (∃ h0, m sd h0 = .ok a hd) ∧ Res G W σ R2 ρ H' (k sd a hd) Q := by
  obtain ⟨ρ, hd, sd, r, st, h⟩ := h
  refine ⟨ρ, hd, sd, r, st, ?_⟩
  have h : Res G W σ R2 ρ H ((m sd >>= k sd) hd) Q := h
  rw [bind_ap] at h
  cases e : m sd hd with
  | ok a hd' =>
    rw [e] at h
    exact fun ρ' H' b r' s' q => ⟨ρ', hd', sd, a, ⟨r', st.mono s' r.muts, q⟩, ⟨hd, e⟩, h.from s'⟩
  | ex C fs hd' => rw [e] at h; exact h
  | bad => rw [e] at h; exact h
/-- from where one is -/
theorem At.go {α' β' : Type} {R' : Rg → Hp → α' → β' → Prop} {a : α} {b : β} {hd : DH} {sd : SD} (c : At G σ R ρ hd sd H a b) (mono : ∀ ρ ρ' H H' a b, Stp ρ H ρ' H' → Muts ρ H → R ρ H a b → R ρ' H' a b)
    {m : SD → M α'} {k : SD → α' → M γ} (h : Res G W σ R2 ρ H ((m sd >>= k sd) hd) Q) :
    tG G W R' m σ H fun b' H' => ∃ ρ hd sd a', At G σ R ρ hd sd H' a b ∧ At G σ R' ρ hd sd H' a' b' ∧ Res G W σ R2 ρ H' (k sd a' hd) Q := by
  obtain ⟨r, st, q⟩ := c
  refine ⟨ρ, hd, sd, r, st, ?_⟩
  rw [bind_ap] at h
  cases e : m sd hd with
  | ok a' hd' =>
    rw [e] at h
    exact fun ρ' H' b' r' s' q' => ⟨ρ', hd', sd, a', ⟨r', st.mono s' r.muts, mono _ _ _ _ _ _ s' r.muts q⟩, ⟨r', st.mono s' r.muts, q'⟩, h.from s'⟩
  | ex C fs hd' => rw [e] at h; exact h
  | bad => rw [e] at h; exact h
end
def RB : Rg → Hp → Bool → Bool → Prop := fun _ _ a b => a = b
abbrev tE (G : Gx) (W : WX) (m : SD → M D) : TE := tG G W (RV G) m
abbrev tT (G : Gx) (W : WX) (m : SD → M Bool) : TT := tG G W RB m
abbrev tA (G : Gx) (W : WX) (m : SD → M (List D)) : TA := tG G W (RVs G) m
theorem rv_mono {G : Gx} : ∀ ρ ρ' H H' a b, Stp ρ H ρ' H' → Muts ρ H → RV G ρ H a b → RV G ρ' H' a b := fun _ _ _ _ _ _ s m r => RV.mono s m _ _ r
theorem rvs_mono {G : Gx} : ∀ ρ ρ' H H' a b, Stp ρ H ρ' H' → Muts ρ H → RVs G ρ H a b → RVs G ρ' H' a b := fun _ _ _ _ _ _ s m r => RVs.mono s m _ _ r
theorem rb_mono : ∀ ρ ρ' H H' a b, Stp ρ H ρ' H' → Muts ρ H → RB ρ H a b → RB ρ' H' a b := fun _ _ _ _ _ _ _ _ r => r

section
variable {X : Cx} {T : Tb} {W : WX} {e a b c : Expr} {es : List Expr} {pos : Pos}
abbrev PEm (X : Cx) (T : Tb) (W : WX) (e : Expr) (m : SD → M D) : Prop := PE X e (tE (gx X T) W m)
abbrev PTm (X : Cx) (T : Tb) (W : WX) (e : Expr) (m : SD → M Bool) : Prop := PT X e (tT (gx X T) W m)
abbrev PAm (X : Cx) (T : Tb) (W : WX) (es : List Expr) (m : SD → M (List D)) : Prop := PA X es (tA (gx X T) W m)
theorem weakE {t t' : TE} (h : PE X e t) (w : ∀ σ H Q, t' σ H Q → t σ H Q) : PE X e t' := ⟨fun pins s σ H Q I q => h.run pins s σ H Q I (w _ _ _ q)⟩
theorem weakT {t t' : TT} (h : PT X e t) (w : ∀ σ H Q, t' σ H Q → t σ H Q) : PT X e t' := ⟨fun pins s σ H Q I q => h.run pins s σ H Q I (w _ _ _ q)⟩
theorem weakA {t t' : TA} (h : PA X es t) (w : ∀ σ H Q, t' σ H Q → t σ H Q) : PA X es t' := ⟨fun p pins s σ H Q I q => h.run p pins s σ H Q I (w _ _ _ q)⟩
theorem weakS {st : Stmt} {t t' : TS} (h : PS X st t) (w : ∀ D σ H, t' D σ H → t D σ H) : PS X st t' := ⟨fun pins s σ H D I q => h.run pins s σ H D I (w _ _ _ q)⟩
theorem weakSs {st : List Stmt} {t t' : TS} (h : PSs X st t) (w : ∀ D σ H, t' D σ H → t D σ H) : PSs X st t' := ⟨fun pins s σ H D I q => h.run pins s σ H D I (w _ _ _ q)⟩

/-! ### names, constants -/
def mVar (i : Nat) : SD → M D := fun s => match s[i]? with
  | some (some d) => pure d
  | _ => M.bad
def mC (d : D) : SD → M D := fun _ => pure d
theorem em_of (h : PE X e (tVar i)) : PEm X T W e (mVar i) := weakE h fun σ H Q ⟨ρ, hd, sd, r, st, h⟩ => by
  unfold mVar at h
  cases e : sd[i]? with
  | none => rw [e] at h; exact h.elim
  | some o => cases o with
    | none => rw [e] at h; exact h.elim
    | some d =>
      rw [e] at h
      obtain ⟨v, e1, q⟩ := st.2 i d e
      exact ⟨v, e1, h ρ H v r .refl q⟩
theorem em_const {v : V} {d : D} (h : PE X e (tC v)) (rv : ∀ ρ H, RV (gx X T) ρ H d v) : PEm X T W e (mC d) := weakE h fun σ H Q ⟨ρ, hd, sd, r, st, h⟩ => h ρ H v r .refl (rv _ _)

/-! ### argument lists, displays -/
def mNil : SD → M (List D) := fun _ => pure []
def mCons (m : SD → M D) (ml : SD → M (List D)) : SD → M (List D) := fun s => m s >>= fun d => ml s >>= fun ds => pure (d :: ds)
theorem am_nil : PAm X T W [] mNil := weakA pa_nil fun σ H Q ⟨ρ, hd, sd, r, st, h⟩ => h ρ H [] r .refl .nil
theorem am_cons {m : SD → M D} {ml : SD → M (List D)} (he : PEm X T W e m) (hr : PAm X T W es ml) (hs : starEach (e :: es) X.env = (false, eval e X.env) :: starEach es X.env) : PAm X T W (e :: es) (mCons m ml) :=
  weakA (pa_cons he hr hs) fun σ H Q h => by
    refine tG_then (tG_bind (R := RV (gx X T)) (k := fun s d => ml s >>= fun ds => pure (d :: ds)) h) fun v H1 ⟨ρ1, hd1, sd1, d1, c1, h1⟩ => ?_
    refine tG_then (c1.go (R' := RVs (gx X T)) rv_mono (m := ml) (k := fun _ ds => pure (d1 :: ds)) h1) fun vs H2 ⟨ρ2, hd2, sd2, ds, ⟨r2, st2, q⟩, ⟨_, _, q2⟩, h2⟩ => ?_
    exact h2 ρ2 H2 (v :: vs) r2 .refl (.cons q q2)
/-- a list's length is known -/
def Len (n : Nat) (ml : SD → M (List D)) : Prop := ∀ s h ds h', ml s h = .ok ds h' → ds.length = n
theorem len_nil : Len 0 mNil := fun s h ds h' e => by cases e; rfl
theorem len_cons {m : SD → M D} {ml : SD → M (List D)} {n : Nat} (l : Len n ml) : Len (n + 1) (mCons m ml) := fun s h ds h' e => by
  unfold mCons at e
  rw [bind_ap] at e
  cases e1 : m s h with
  | ok d h1 =>
    rw [e1] at e
    simp only [bind_ap] at e
    cases e2 : ml s h1 with
    | ok es h2 =>
      rw [e2] at e
      cases e
      simp [l _ _ _ _ e2]
    | ex C fs h2 => rw [e2] at e; cases e
    | bad => rw [e2] at e; cases e
  | ex C fs h1 => rw [e1] at e; cases e
  | bad => rw [e1] at e; cases e
/-- a new tuple, its object plain -/
def NewT (xs : List V) (H : Hp) (Q : VK) : Prop := ∀ p o, H p = none → o.dict = none → Q (.ref p) (upd H p (.frz o (.tup xs)))
theorem laidT {X : Cx} {pins : List (Addr × Obj)} {σ : L2.St} {H : Hp} {s : Shared} {xs : List V} {its : List Value} {Q : VK} (I : Inv X pins σ H s) (r : Vals xs its) (z : xs.length ≤ sizeLine) (q : NewT xs H Q) :
    EP X pins σ Q (.ref s.heap.objs.size) { s with heap := s.heap.push { cls := .type "tuple", data := .seq its.toArray } } :=
  ⟨.ref s.heap.objs.size, _, I.laid (t' := s.toks) (o := .frz { cls := .type "tuple", data := .seq its.toArray } (.tup xs)) (fun _ _ e => Heap.get?_push_of_some _ e) (Nat.le_refl _) ⟨Heap.get?_push_size _ rfl, z, its, r, ⟨_, Heap.get?_push_size _ rfl, rfl, _, rfl⟩⟩, rfl, q _ _ (I.hok.fresh (Nat.le_refl _)) rfl⟩
theorem newT_rv {G : Gx} {W : WX} {σ : L2.St} {ρ : Rg} {H : Hp} {hd : DH} {ds : List D} {xs : List V} {Q : VK} (r : Rep G ρ hd H) (q : RVs G ρ H ds xs) (h : Res G W σ (RV G) ρ H (.ok (.tup ds) hd) Q) : NewT xs H Q := fun p o hp ho =>
  h ρ _ (.ref p) (r.laid hp) (.laid hp) (.tup (.inl (.inr ⟨o, upd_same⟩)) (RVs.mono (.laid hp) r.muts _ _ q) fun _ => .inl ⟨o, xs, upd_same, ho⟩)
def tTupX (t : TA) : TE := fun σ H Q => t σ H fun xs H1 => xs.length ≤ sizeLine ∧ NewT xs H1 Q
theorem pe_tupX {X : Cx} {es : List Expr} {t : TA} {k : Nat} {pos : Pos} (h : PA X es t) : PE X (.Tuple es k pos) (tTupX t) :=
  ⟨fun pins s σ H Q I hq => wpAny_Tuple_spliced (thn (h.run pos pins s σ H _ I hq) fun us s1 ⟨xs, H1, I1, r, z, q⟩ => ⟨by rw [← r.length]; exact z, laidT I1 r z q⟩)⟩
def mTup (ml : SD → M (List D)) : SD → M D := fun s => ml s >>= fun ds => pure (.tup ds)
theorem em_tup {ml : SD → M (List D)} {n k : Nat} (h : PAm X T W es ml) (l : Len n ml) (hn : n ≤ sizeLine) : PEm X T W (.Tuple es k pos) (mTup ml) :=
  weakE (pe_tupX h) fun σ H Q h => by
    refine tG_then (tG_bind' (R := RVs (gx X T)) (k := fun s ds => pure (D.tup ds)) h) fun vs H1 ⟨ρ1, hd1, sd1, ds, ⟨r, st, q⟩, ⟨h0, e0⟩, h1⟩ => ⟨?_, newT_rv r q h1⟩
    rw [← q.len, l _ _ _ _ e0]; exact hn
/-- a new list: one that will be changed, or not -/
def mkL (mt : Bool) (ds : List D) : M D := fun h => if ds.length ≤ sizeLine then (if mt then .ok (.ref h.length) (h ++ [.lst ds]) else .ok (.lv ds) h) else .bad
theorem mkL_res {G : Gx} {σ : L2.St} {ρ : Rg} {H : Hp} {hd : DH} {mt : Bool} {ds : List D} {vs : List V} {Q : VK} (r : Rep G ρ hd H) (q : RVs G ρ H ds vs) (h : Res G W σ (RV G) ρ H (mkL mt ds hd) Q) :
    vs.length ≤ sizeLine ∧ ∀ p, H p = none → Q (.ref p) (upd H p (.lst vs)) := by
  unfold mkL at h
  by_cases z : ds.length ≤ sizeLine
  · rw [if_pos z] at h
    refine ⟨by rw [← q.len]; exact z, fun p hp => ?_⟩
    cases mt with
    | true =>
      refine h (ρ.add p) _ (.ref p) (r.mk1 hp ⟨vs, upd_same, RVs.mono (.mk1 hp) r.muts _ _ q⟩) (.mk1 hp) (.ref ?_)
      rw [← r.len]; simp [Rg.add]
    | false =>
      exact h ρ _ (.ref p) (r.laid hp) (.laid hp) (.lv (r.out hp) upd_same (RVs.mono (.laid hp) r.muts _ _ q))
  · rw [if_neg z] at h; exact h.elim
def mLst (mt : Bool) (ml : SD → M (List D)) : SD → M D := fun s => ml s >>= mkL mt
theorem em_lst {ml : SD → M (List D)} {mt : Bool} (h : PAm X T W es ml) : PEm X T W (.List es pos) (mLst mt ml) :=
  weakE (pe_lst h) fun σ H Q h => tG_then (tG_bind (R := RVs (gx X T)) (k := fun s ds => mkL mt ds) h) fun vs H1 ⟨ρ1, hd1, sd1, ds, c, h1⟩ => mkL_res c.1 c.2.2 h1

/-! ### operators -/
/-- what an operator by values gives -/
def R2m (X : Cx) (T : Tb) (r : R2) (f : D → D → M D) : Prop := ∀ (W : WX) (ρ : Rg) (hd : DH) (H : Hp) (d e : D) (x y : V) (σ : L2.St) (Q : VK), Rep (gx X T) ρ hd H → RV (gx X T) ρ H d x → RV (gx X T) ρ H e y →
  Res (gx X T) W σ (RV (gx X T)) ρ H (f d e hd) Q → r x y H Q
def m2 (f : D → D → M D) (ma mb : SD → M D) : SD → M D := fun s => ma s >>= fun d => mb s >>= fun e => f d e
theorem op_go {r : R2} {f : D → D → M D} {ma mb : SD → M D} (hf : R2m X T r f) : ∀ σ H Q, tE (gx X T) W (m2 f ma mb) σ H Q → tOp r (tE (gx X T) W ma) (tE (gx X T) W mb) σ H Q := fun σ H Q h => by
  refine tG_then (tG_bind (R := RV (gx X T)) (k := fun s d => mb s >>= fun e => f d e) h) fun x H1 ⟨ρ1, hd1, sd1, d1, c1, h1⟩ => ?_
  refine tG_then (c1.go (R' := RV (gx X T)) rv_mono (m := mb) (k := fun _ e => f d1 e) h1) fun y H2 ⟨ρ2, hd2, sd2, e2, ⟨r2, st2, q⟩, ⟨_, _, q2⟩, h2⟩ => ?_
  exact hf W ρ2 hd2 H2 d1 e2 x y σ Q r2 q q2 h2
theorem em_op {op : Operator} {r : R2} {f : D → D → M D} {ma mb : SD → M D} (ho : OpR X (binaryOp op) r) (hf : R2m X T r f) (ha : PEm X T W a ma) (hb : PEm X T W b mb) : PEm X T W (.BinOp a op b pos) (m2 f ma mb) :=
  weakE (pe_op ho ha hb) (op_go hf)
theorem em_cmp {op : CmpOp} {r : R2} {f : D → D → M D} {ma mb : SD → M D} (ho : OpR X (compareOp op) r) (hf : R2m X T r f) (ha : PEm X T W a ma) (hb : PEm X T W b mb) (hm : behindInMarks op b = false) : PEm X T W (.Compare a [op] [b] pos) (m2 f ma mb) :=
  weakE (pe_cmpR ho ha hb hm) (op_go hf)
/-- a test by a value -/
def mTest (m : SD → M D) : SD → M Bool := fun s => m s >>= fun d => match d with
  | .bl b => pure b
  | _ => M.bad
theorem test_go {m : SD → M D} : ∀ σ H Q, tT (gx X T) W (mTest m) σ H Q → tTest (tE (gx X T) W m) σ H Q := fun σ H Q h => by
  refine tG_then (tG_bind (R := RV (gx X T)) (k := fun s d => match d with
    | .bl b => pure b
    | _ => M.bad) h) fun x H1 ⟨ρ1, hd1, sd1, d1, ⟨r, st, q⟩, h1⟩ => ?_
  cases d1 with
  | bl b => cases q; exact ⟨b, rfl, h1 ρ1 H1 b r .refl rfl⟩
  | _ => exact h1.elim
theorem tm_cmp {op : CmpOp} {r : R2} {f : D → D → M D} {ma mb : SD → M D} (ho : OpR X (compareOp op) r) (hf : R2m X T r f) (ha : PEm X T W a ma) (hb : PEm X T W b mb) (hm : behindInMarks op b = false) : PTm X T W (.Compare a [op] [b] pos) (mTest (m2 f ma mb)) := by
  refine weakT (pt_cmpR ho ha hb hm) fun σ H Q h => ?_
  have h := test_go σ H Q h
  exact op_go hf σ H _ h
/-- the answer of a rule: a value without objects -/
theorem ans {G : Gx} {σ : L2.St} {ρ : Rg} {H : Hp} {hd : DH} {Q : VK} {d : D} {v : V} (r : Rep G ρ hd H) (q : RV G ρ H d v) (h : Res G W σ (RV G) ρ H (.ok d hd) Q) : Q v H := h ρ H v r .refl q
end
end Wy

set_option Elab.async false
set_option linter.all false
set_option maxRecDepth 100000
set_option maxHeartbeats 4000000
namespace Wy
open PySem PySem.Spec PyProof.Rows L2

/-! ### lists and tuples read -/
def listOf (h : DH) : D → Option (List D)
  | .lv l => some l
  | .ref n => match h[n]? with
    | some (.lst l) => some l
    | _ => none
  | _ => none
def rlistOf (h : DH) : D → Option (List D)
  | .rl l => some l
  | d => listOf h d
def seqOf (h : DH) : D → Option (List D)
  | .tup l => some l
  | d => rlistOf h d
section
variable {G : Gx} {ρ : Rg} {H : Hp} {hd : DH}
theorem listOf_rv (r : Rep G ρ hd H) {d : D} {v : V} {l : List D} (q : RV G ρ H d v) (e : listOf hd d = some l) : ∃ a xs, v = .ref a ∧ H a = some (.lst xs) ∧ RVs G ρ H l xs := by
  cases d with
  | lv l' =>
    cases e
    cases q with
    | lv n h rs => exact ⟨_, _, rfl, h, rs⟩
  | ref n =>
    cases q with
    | ref h =>
      have e : (match hd[n]? with
        | some (.lst l) => some l
        | _ => none) = some l := e
      cases c : hd[n]? with
      | none => rw [c] at e; cases e
      | some o => cases o with
        | lst l' =>
          rw [c] at e; cases e
          obtain ⟨xs, h1, rs⟩ := r.ob n _ _ h c
          exact ⟨_, xs, rfl, h1, rs⟩
        | dct _ _ => rw [c] at e; cases e
        | ins _ _ => rw [c] at e; cases e
  | _ => cases e
theorem rlistOf_rv (r : Rep G ρ hd H) {d : D} {v : V} {l : List D} (q : RV G ρ H d v) (e : rlistOf hd d = some l) : ∃ a xs, v = .ref a ∧ SqL G.K H a xs ∧ RVs G ρ H l xs := by
  cases d with
  | rl l' =>
    cases e
    cases q with
    | rl h rs => exact ⟨_, _, rfl, h.sqL, rs⟩
  | _ =>
    obtain ⟨a, xs, e1, e2, rs⟩ := listOf_rv r q e
    exact ⟨a, xs, e1, .of e2, rs⟩
theorem seqOf_rv (r : Rep G ρ hd H) {d : D} {v : V} {l : List D} (q : RV G ρ H d v) (e : seqOf hd d = some l) : ∃ a xs, v = .ref a ∧ (SqL G.K H a xs ∨ SqT G.K H a xs) ∧ RVs G ρ H l xs := by
  cases d with
  | tup l' =>
    cases e
    cases q with
    | tup h rs _ => exact ⟨_, _, rfl, .inr h, rs⟩
  | _ =>
    obtain ⟨a, xs, e1, e2, rs⟩ := rlistOf_rv r q e
    exact ⟨a, xs, e1, .inl e2, rs⟩
end

/-! ### tuple * int, to a million items -/
def rRepB (K : PySem.W.Frag) : R2 := fun x y H Q => ∃ l k xs, x = .ref l ∧ y = .int k ∧ SqT K H l xs ∧ xs ≠ [] ∧ 2 ≤ k ∧ k * (xs.length : Nat) ≤ 1000000 ∧ NewT (List.replicate k.toNat xs).flatten H Q
theorem op_repB {X : Cx} : OpR X (binaryOp .Mult) (rRepB X.K) := fun pins s σ H x y v u Q I rx ry ⟨l, k, xs, ex, ey, hT, hne, h1, h2, q⟩ => by
  subst ex; subst ey
  cases rx
  obtain ⟨t, rfl⟩ := ry
  obtain ⟨its, r, ⟨⟨cls, dd, data, sl⟩, ho, hc, n, hd⟩, hs⟩ := I.tuple hT
  dsimp only at hc hd
  subst hc; subst hd
  have hlen : xs.length = its.length := r.length
  have pos : 0 < its.length := by rw [← hlen]; exact List.length_pos_iff.mpr hne
  have hsz0 : its.toArray.size = its.length := List.size_toArray ..
  have emp : its.toArray.isEmpty = false := by simp [Array.isEmpty, Nat.pos_iff_ne_zero.mp pos]
  have kn : ((k.toNat : Nat) : Int) = k := Int.toNat_of_nonneg (by omega)
  have pr : ((its.toArray.size : Nat) : Int) * k ≤ 1000000 := by rw [hsz0, ← hlen, Int.mul_comm]; exact h2
  have km : k ≤ 1000000 := by
    have h3 : (1 : Int) * k ≤ ((its.toArray.size : Nat) : Int) * k := Int.mul_le_mul_of_nonneg_right (by rw [hsz0]; omega) (by omega)
    omega
  have flat : ∀ {β : Type} (ys : List β), ys.length = its.length → (List.replicate k.toNat ys).flatten.length ≤ sizeLine := fun ys e => by
    rw [lm_len_rep_flat, e, sizeLine_eq]
    have : ((k.toNat * its.length : Nat) : Int) ≤ 1000000 := by
      rw [Int.natCast_mul, kn, Int.mul_comm, ← hsz0]; exact pr
    omega
  have tm : Builtin.Tuple.tupleTooMany (((its.toArray.size : Nat) : Int) * k) = false := by
    unfold Builtin.Tuple.tupleTooMany
    rw [sizeLine_eq]
    exact decide_eq_false (by omega)
  have mul := tuple_mulW l its.toArray n dd sl k t (by rw [decide_eq_false (by omega), decide_eq_false (by omega)]; rfl) (by rw [emp, Bool.false_or]; exact beq_eq_false_iff_ne.mpr (by omega)) (by rw [emp, Bool.or_false]; exact decide_eq_false (by omega)) (by omega) tm
    (by rw [size_rep, List.size_toArray]; exact flat its rfl)
  refine wpAny_binaryOp_repeat_ref (T := "tuple") (U := "int") (by decide) ⟨_, ho, rfl⟩ (fun s' => typeIs_int s' k t) noFill_tuple_mul F.fills_int_mul F.slot_int_rmul repeat_tuple F.slot_int_index.lookup
    (call_meets F.slot_int_rmul (typeIs_int s k t) F.entry_int_rmul (F.args_int_rmul_2 _ _) (int_rmul_tuple k t l its.toArray n dd sl) ⟨ho, rfl, ⟨_, ho, rfl⟩, call_meets F.slot_tuple_mul ⟨_, ho, rfl⟩ F.entry_tuple_mul (F.args_tuple_mul_2 _ _) mul ⟨ho, ?_⟩⟩)
  rw [size_rep]
  exact laidT I (r.rep k.toNat) (flat xs hlen) q
/-! ### arithmetic -/
def okS (x : Str) : Prop := PyData.strOk x = true
theorem okS_app {x y : Str} (h : okS x) (h' : okS y) : okS (x ++ y) := by
  unfold okS PyData.strOk at *
  show Array.all (x.cps ++ y.cps) _ = true
  simp at *
  exact ⟨h, h'⟩
instance {i j : Int} : Decidable (CMul i j) := by unfold CMul; infer_instance
instance {i j : Int} : Decidable (CMulW i j) := by unfold CMulW; infer_instance
instance {i j : Int} : Decidable (CDivW i j) := by unfold CDivW; infer_instance
instance {i j : Int} : Decidable (CPow i j) := by unfold CPow; infer_instance
def opAdd (mt : Bool) (d e : D) : M D := fun h => match d, e with
  | .int i, .int j => .ok (.int (i + j)) h
  | .str x, .str y => if x.length + y.length ≤ sizeLine then .ok (.str (x ++ y)) h else .bad
  | .tup a, .tup b => if a.length + b.length ≤ sizeLine then .ok (.tup (a ++ b)) h else .bad
  | d, e => match listOf h d, listOf h e with
    | some a, some b => mkL mt (a ++ b) h
    | _, _ => .bad
def opSub (d e : D) : M D := match d, e with
  | .int i, .int j => pure (.int (i - j))
  | _, _ => M.bad
def opMul (d e : D) : M D := match d, e with
  | .int i, .int j => if CMul i j ∨ CMulW i j then pure (.int (i * j)) else M.bad
  | .tup l, .int k => if l ≠ [] ∧ 2 ≤ k ∧ k * (l.length : Nat) ≤ 1000000 then pure (.tup (List.replicate k.toNat l).flatten) else M.bad
  | _, _ => M.bad
def opFdiv (d e : D) : M D := match d, e with
  | .int i, .int j => if CDivW i j then pure (.int (i / j)) else M.bad
  | _, _ => M.bad
def opMod (d e : D) : M D := match d, e with
  | .int i, .int j => if 0 < j then pure (.int (i % j)) else M.bad
  | _, _ => M.bad
def opPow (d e : D) : M D := match d, e with
  | .int i, .int j => if CPow i j then pure (.int (i ^ j.toNat)) else M.bad
  | _, _ => M.bad

section
variable {X : Cx} {T : Tb}
/-- of two rules the one that serves -/
theorem R2m.or {r r' : R2} {f g : D → D → M D} (p : D → D → DH → Bool) (h : R2m X T r f) (h' : R2m X T r' g) : R2m X T (fun x y H Q => r x y H Q ∨ r' x y H Q) (fun d e hd => if p d e hd = true then f d e hd else g d e hd) := by
  intro W ρ hd H d e x y σ Q rr q q' z
  by_cases c : p d e hd = true
  · exact .inl (h W ρ hd H d e x y σ Q rr q q' (by simpa [c] using z))
  · exact .inr (h' W ρ hd H d e x y σ Q rr q q' (by simpa [c] using z))
theorem R2m.eq {r : R2} {f g : D → D → M D} (h : R2m X T r f) (e : ∀ d d' hd, f d d' hd = g d d' hd) : R2m X T r g := by
  have : f = g := by funext d d' hd; exact e d d' hd
  exact this ▸ h
theorem r_sub : R2m X T (rI0 fun i j => .int (i - j)) opSub := by
  intro W ρ hd H d e x y σ Q r q q' z
  cases d <;> cases e <;> first | exact z.elim | skip
  cases q; cases q'
  exact ⟨_, _, rfl, rfl, ans r (.int _) z⟩
theorem r_fdiv : R2m X T (rI CDivW fun i j => .int (i / j)) opFdiv := by
  intro W ρ hd H d e x y σ Q r q q' z
  cases d <;> cases e <;> first | exact z.elim | skip
  rename_i i j
  cases q; cases q'
  unfold opFdiv at z
  by_cases c : CDivW i j
  · simp only [c, if_true] at z
    exact ⟨_, _, rfl, rfl, c, ans r (.int _) z⟩
  · simp only [c, if_false] at z; exact z.elim
theorem r_mod : R2m X T (rI (fun _ j => 0 < j) fun i j => .int (i % j)) opMod := by
  intro W ρ hd H d e x y σ Q r q q' z
  cases d <;> cases e <;> first | exact z.elim | skip
  rename_i i j
  cases q; cases q'
  unfold opMod at z
  by_cases c : 0 < j
  · simp only [c, if_true] at z
    exact ⟨_, _, rfl, rfl, c, ans r (.int _) z⟩
  · simp only [c, if_false] at z; exact z.elim
theorem r_pow : R2m X T (rI CPow fun i j => .int (i ^ j.toNat)) opPow := by
  intro W ρ hd H d e x y σ Q r q q' z
  cases d <;> cases e <;> first | exact z.elim | skip
  rename_i i j
  cases q; cases q'
  unfold opPow at z
  by_cases c : CPow i j
  · simp only [c, if_true] at z
    exact ⟨_, _, rfl, rfl, c, ans r (.int _) z⟩
  · simp only [c, if_false] at z; exact z.elim
abbrev rMulAny (K : PySem.W.Frag) : R2 := fun x y H Q => (rI CMul (fun i j => .int (i * j)) x y H Q ∨ rI CMulW (fun i j => .int (i * j)) x y H Q) ∨ rRepB K x y H Q
theorem op_mulAny : OpR X (binaryOp .Mult) (rMulAny X.K) := (op_mul.or op_mulW).or op_repB
theorem rvs_flat {G : Gx} {ρ : Rg} {H : Hp} {l : List D} {xs : List V} (r : RVs G ρ H l xs) : ∀ n : Nat, RVs G ρ H (List.replicate n l).flatten (List.replicate n xs).flatten
  | 0 => .nil
  | n + 1 => by
    rw [List.replicate_succ, List.replicate_succ, List.flatten_cons, List.flatten_cons]
    exact r.app (rvs_flat r n)
theorem r_mul : R2m X T (rMulAny X.K) opMul := by
  intro W ρ hd H d e x y σ Q r q q' z
  cases d <;> cases e <;> first | exact z.elim | skip
  · rename_i i j
    cases q; cases q'
    unfold opMul at z
    by_cases c : CMul i j ∨ CMulW i j
    · simp only [c, if_true] at z
      rcases c with c | c
      · exact .inl (.inl ⟨_, _, rfl, rfl, c, ans r (.int _) z⟩)
      · exact .inl (.inr ⟨_, _, rfl, rfl, c, ans r (.int _) z⟩)
    · simp only [c, if_false] at z; exact z.elim
  · rename_i l k
    cases q'
    unfold opMul at z
    by_cases c : l ≠ [] ∧ 2 ≤ k ∧ k * (l.length : Nat) ≤ 1000000
    · simp only [c, if_true, ne_eq, not_false_eq_true, and_self] at z
      obtain ⟨c1, c2, c3⟩ := c
      cases q with
      | tup h rs _ =>
        refine .inr ⟨_, k, _, rfl, rfl, h, ?_, c2, by rw [← rs.len]; exact c3, newT_rv r (rvs_flat rs _) z⟩
        · intro e
          have := rs.len
          rw [e] at this
          exact c1 (List.length_eq_zero_iff.mp this)
    · simp only [c, if_false] at z; exact z.elim
/-- t + u, the new one plain -/
def rCatX (K : PySem.W.Frag) : R2 := fun x y H Q => ∃ a b xs ys, x = .ref a ∧ y = .ref b ∧ SqT K H a xs ∧ SqT K H b ys ∧ xs.length + ys.length ≤ sizeLine ∧ (xs = [] → Q (.ref b) H) ∧ (xs ≠ [] → ys = [] → Q (.ref a) H) ∧ (xs ≠ [] → ys ≠ [] → NewT (xs ++ ys) H Q)
theorem op_catX : OpR X (binaryOp .Add) (rCatX X.K) := by
  rintro pins s σ H x y v u Q I rx ry ⟨a, b, xs, ys, rfl, rfl, ha, hb, hz, q0, q1, q2⟩
  cases rx; cases ry
  obtain ⟨its, r1, p1, _⟩ := I.tuple ha
  obtain ⟨its2, r2, p2, _⟩ := I.tuple hb
  by_cases hx : xs = []
  · subst hx
    cases r1
    exact cat_tup0 p1 p2 ⟨.ref b, H, I, rfl, q0 rfl⟩
  · exact HT.cat_tup p1 p2 (fun z => hx (r1.nil_iff.mp z)) (fun z => ⟨.ref a, H, I, rfl, q1 hx (r2.nil_iff.mp z)⟩) (fun z => laidT I (r1.append r2) (by rw [List.length_append]; exact hz) (q2 hx fun w => z (r2.nil_iff.mpr w))) (by rw [← r1.length, ← r2.length]; exact hz)
/-- ints, texts, tuples, lists -/
abbrev rAddAny (K : PySem.W.Frag) : R2 := fun x y H Q => ((rI0 (fun i j => .int (i + j)) x y H Q ∨ (∃ i j, x = .str i ∧ y = .str j ∧ i.length + j.length ≤ sizeLine ∧ Q (.str (i ++ j)) H)) ∨ rCatX K x y H Q) ∨ rCat x y H Q
theorem op_addAny : OpR X (binaryOp .Add) (rAddAny X.K) := ((op_add.or op_add_str).or op_catX).or op_cat
theorem RVs.nil_iff {G : Gx} {ρ : Rg} {H : Hp} {l : List D} {xs : List V} (r : RVs G ρ H l xs) : xs = [] ↔ l = [] := by
  cases r <;> simp
theorem r_add (mt : Bool) : R2m X T (rAddAny X.K) (opAdd mt) := by
  intro W ρ hd H d e x y σ Q r q q' z
  have lists : Res (gx X T) W σ (RV (gx X T)) ρ H (match listOf hd d, listOf hd e with
    | some a, some b => mkL mt (a ++ b) hd
    | _, _ => .bad) Q → rAddAny X.K x y H Q := fun z => by
    cases e1 : listOf hd d with
    | none => rw [e1] at z; exact z.elim
    | some a => cases e2 : listOf hd e with
      | none => rw [e1, e2] at z; exact z.elim
      | some b =>
        rw [e1, e2] at z
        obtain ⟨p, xs, rfl, hp, rs⟩ := listOf_rv r q e1
        obtain ⟨p', ys, rfl, hp', rs'⟩ := listOf_rv r q' e2
        obtain ⟨z1, z2⟩ := mkL_res r (rs.app rs') z
        exact .inr ⟨p, p', xs, ys, rfl, rfl, hp, hp', by simpa using z1, z2⟩
  cases d with
  | int i =>
    cases e with
    | int j => cases q; cases q'; exact .inl (.inl (.inl ⟨_, _, rfl, rfl, ans r (.int _) z⟩))
    | _ => exact lists z
  | str a =>
    cases e with
    | str b =>
      cases q with
      | str _ h1 => cases q' with
        | str _ h2 =>
          unfold opAdd at z
          by_cases c : a.length + b.length ≤ sizeLine
          · simp only [c, if_true] at z
            exact .inl (.inl (.inr ⟨_, _, rfl, rfl, c, ans r (.str _ (okS_app h1 h2)) z⟩))
          · simp only [c, if_false] at z; exact z.elim
    | _ => exact lists z
  | tup a =>
    cases e with
    | tup b =>
      cases q with
      | tup h1 r1 p1 => cases q' with
        | tup h2 r2 p2 =>
          unfold opAdd at z
          by_cases c : a.length + b.length ≤ sizeLine
          · simp only [c, if_true] at z
            refine .inl (.inr ⟨_, _, _, _, rfl, rfl, h1, h2, by rw [← r1.len, ← r2.len]; exact c, fun e => ?_, fun _ e => ?_, fun _ _ => newT_rv r (r1.app r2) z⟩)
            · rw [r1.nil_iff] at e; subst e
              exact ans r (.tup h2 r2 p2) z
            · rw [r2.nil_iff] at e; subst e
              rw [List.append_nil] at z
              exact ans r (.tup h1 r1 p1) z
          · simp only [c, if_false] at z; exact z.elim
    | _ => exact lists z
  | _ => exact lists z
end

/-! ### data as the library's data -/
theorem toPG_rv {G : Gx} {ρ : Rg} {H : Hp} (r : Nat → Option (List PyData)) (hr : ∀ n ps a, r n = some ps → ρ.l[n]? = some a → ∃ xs, SqL G.K H a xs ∧ DpAll G.K H xs ps ∧ PyData.canLayAll0 ps = true) :
    (∀ (d : D) (v : V) (p : PyData), RV G ρ H d v → toPG r d = some p → Dp G.K H v p ∧ p.canLay0 = true) ∧
    (∀ (ds : List D) (vs : List V) (ps : List PyData), RVs G ρ H ds vs → toPG.toPGs r ds = some ps → DpAll G.K H vs ps ∧ PyData.canLayAll0 ps = true) := by
  have go : ∀ n : Nat, (∀ (d : D), sizeOf d < n → ∀ (v : V) (p : PyData), RV G ρ H d v → toPG r d = some p → Dp G.K H v p ∧ p.canLay0 = true) ∧
    (∀ (ds : List D), sizeOf ds < n → ∀ (vs : List V) (ps : List PyData), RVs G ρ H ds vs → toPG.toPGs r ds = some ps → DpAll G.K H vs ps ∧ PyData.canLayAll0 ps = true) := by
    intro n
    induction n with
    | zero => exact ⟨fun _ h => absurd h (Nat.not_lt_zero _), fun _ h => absurd h (Nat.not_lt_zero _)⟩
    | succ n ih =>
      refine ⟨fun d hn v p q e => ?_, fun ds hn vs ps q e => ?_⟩
      · cases d with
        | non => cases q; simp only [toPG] at e; cases e; exact ⟨.non, by simp [PyData.canLay0]⟩
        | bl b => cases q; simp only [toPG] at e; cases e; exact ⟨.bl b, by simp [PyData.canLay0]⟩
        | int i => cases q; simp only [toPG] at e; cases e; exact ⟨.int i, by simp [PyData.canLay0]⟩
        | str x => cases q with | str _ h => simp only [toPG] at e; cases e; exact ⟨.str x, by simpa [PyData.canLay0] using h⟩
        | tup l =>
          simp only [toPG] at e
          obtain ⟨ps, e1, rfl⟩ := Option.map_eq_some_iff.mp e
          cases q with
          | tup h rs _ =>
            obtain ⟨h1, h2⟩ := ih.2 l (by simp at hn; omega) _ _ rs e1
            exact ⟨.tup h h1, by simpa [PyData.canLay0] using h2⟩
        | lv l =>
          simp only [toPG] at e
          obtain ⟨ps, e1, rfl⟩ := Option.map_eq_some_iff.mp e
          cases q with
          | lv _ h rs =>
            obtain ⟨h1, h2⟩ := ih.2 l (by simp at hn; omega) _ _ rs e1
            exact ⟨.lst (.of h) h1, by simpa [PyData.canLay0] using h2⟩
        | rl l =>
          simp only [toPG] at e
          obtain ⟨ps, e1, rfl⟩ := Option.map_eq_some_iff.mp e
          cases q with
          | rl h rs =>
            obtain ⟨h1, h2⟩ := ih.2 l (by simp at hn; omega) _ _ rs e1
            exact ⟨.lst h.sqL h1, by simpa [PyData.canLay0] using h2⟩
        | dv _ _ _ => simp only [toPG] at e; cases e
        | fn _ _ => simp only [toPG] at e; cases e
        | ref m =>
          simp only [toPG] at e
          obtain ⟨ps, e1, rfl⟩ := Option.map_eq_some_iff.mp e
          cases q with
          | ref h =>
            obtain ⟨xs, h1, h2, h3⟩ := hr m ps _ e1 h
            exact ⟨.lst h1 h2, by simpa [PyData.canLay0] using h3⟩
      · cases ds with
        | nil => cases q; simp only [toPG.toPGs] at e; cases e; exact ⟨.nil, by simp [PyData.canLayAll0]⟩
        | cons d ds =>
          cases q with
          | cons q1 q2 =>
            simp only [toPG.toPGs] at e
            cases e1 : toPG r d with
            | none => rw [e1] at e; cases e
            | some p => cases e2 : toPG.toPGs r ds with
              | none => rw [e1, e2] at e; cases e
              | some ps' =>
                rw [e1, e2] at e; cases e
                obtain ⟨h1, h2⟩ := ih.1 d (by simp at hn; omega) _ _ q1 e1
                obtain ⟨h3, h4⟩ := ih.2 ds (by simp at hn; omega) _ _ q2 e2
                exact ⟨.cons h1 h3, by simp [PyData.canLayAll0, h2, h4]⟩
  exact ⟨fun d v p => (go (sizeOf d + 1)).1 d (Nat.lt_succ_self _) v p, fun ds vs ps => (go (sizeOf ds + 1)).2 ds (Nat.lt_succ_self _) vs ps⟩
theorem toPs_rv {G : Gx} {ρ : Rg} {H : Hp} {hd : DH} (r : Rep G ρ hd H) : ∀ (k : Nat) (ds : List D) (vs : List V) (ps : List PyData), RVs G ρ H ds vs → toPs hd k ds = some ps → DpAll G.K H vs ps ∧ PyData.canLayAll0 ps = true
  | 0, ds, vs, ps, q, e => (toPG_rv (fun _ => none) fun _ _ _ z => by cases z).2 ds vs ps q e
  | k + 1, ds, vs, ps, q, e => (toPG_rv (fun n => match hd[n]? with
    | some (.lst l) => toPs hd k l
    | _ => none) fun n ps a z h => by
      cases c : hd[n]? with
      | none => rw [c] at z; cases z
      | some o => cases o with
        | lst l =>
          rw [c] at z
          obtain ⟨xs, h1, rs⟩ := r.ob n a _ h c
          obtain ⟨h2, h3⟩ := toPs_rv r k l xs ps rs z
          exact ⟨xs, .of h1, h2, h3⟩
        | dct _ _ => rw [c] at z; cases z
        | ins _ _ => rw [c] at z; cases z).2 ds vs ps q e
theorem toP_rv {G : Gx} {ρ : Rg} {H : Hp} {hd : DH} (r : Rep G ρ hd H) {d : D} {v : V} {p : PyData} (q : RV G ρ H d v) (e : toP hd d = some p) : Dp G.K H v p ∧ p.canLay0 = true :=
  (toPG_rv (fun n => match hd[n]? with
    | some (.lst l) => toPs hd 3 l
    | _ => none) fun n ps a z h => by
      cases c : hd[n]? with
      | none => rw [c] at z; cases z
      | some o => cases o with
        | lst l =>
          rw [c] at z
          obtain ⟨xs, h1, rs⟩ := r.ob n a _ h c
          obtain ⟨h2, h3⟩ := toPs_rv r 3 l xs ps rs z
          exact ⟨xs, .of h1, h2, h3⟩
        | dct _ _ => rw [c] at z; cases z
        | ins _ _ => rw [c] at z; cases z).1 d v p q e
theorem shaped_of {p : PyData} (h : p.canLay0 = true) (h2 : p.depth ≤ 64) : SeqAt.shaped p = true := by
  unfold SeqAt.shaped
  rw [h, decide_eq_true h2]
  rfl

/-! ### comparisons -/
def eqM (neg : Bool) (d e : D) : M D := fun h => match toP h d, toP h e with
  | some p, some q => if p.depth ≤ 64 ∧ q.depth ≤ 64 then .ok (.bl (if neg then !PyData.eqv p q else PyData.eqv p q)) h else .bad
  | _, _ => .bad
section
variable {X : Cx} {T : Tb}
theorem r_eq : R2m X T (rEqD X.K) (eqM false) := by
  intro W ρ hd H d e x y σ Q r q q' z
  unfold eqM at z
  cases e1 : toP hd d with
  | none => rw [e1] at z; exact z.elim
  | some p => cases e2 : toP hd e with
    | none => rw [e1, e2] at z; exact z.elim
    | some p' =>
      rw [e1, e2] at z
      by_cases c : p.depth ≤ 64 ∧ p'.depth ≤ 64
      · simp only [c, and_self, if_true] at z
        obtain ⟨h1, h2⟩ := toP_rv r q e1
        obtain ⟨h3, h4⟩ := toP_rv r q' e2
        exact ⟨p, p', h1, h3, shaped_of h2 c.1, shaped_of h4 c.2, ans r (.bl _) z⟩
      · simp only [c, if_false] at z; exact z.elim
theorem r_ne : R2m X T (rNeD X.K) (eqM true) := by
  intro W ρ hd H d e x y σ Q r q q' z
  unfold eqM at z
  cases e1 : toP hd d with
  | none => rw [e1] at z; exact z.elim
  | some p => cases e2 : toP hd e with
    | none => rw [e1, e2] at z; exact z.elim
    | some p' =>
      rw [e1, e2] at z
      by_cases c : p.depth ≤ 64 ∧ p'.depth ≤ 64
      · simp only [c, and_self, if_true] at z
        obtain ⟨h1, h2⟩ := toP_rv r q e1
        obtain ⟨h3, h4⟩ := toP_rv r q' e2
        exact ⟨p, p', h1, h3, shaped_of h2 c.1, shaped_of h4 c.2, ans r (.bl _) z⟩
      · simp only [c, if_false] at z; exact z.elim
end
end Wy

set_option Elab.async false
set_option linter.all false
set_option maxRecDepth 100000
set_option maxHeartbeats 4000000
namespace Wy
open PySem PySem.Spec PyProof.Rows L2

section
variable {X : Cx} {T : Tb} {W : WX} {e a b c : Expr} {es : List Expr} {pos p : Pos}

/-! ### subscripts -/
def ixM (d e : D) : M D := fun h => match e with
  | .int i => match d with
    | .str z => if z.length ≤ sizeLine then match atI z.cps.toList i with
      | some c => .ok (.str ⟨#[c]⟩) h
      | none => .bad else .bad
    | d => match seqOf h d with
      | some l => match atI l i with
        | some x => .ok x h
        | none => .bad
      | none => .bad
  | _ => .bad
theorem atI_rv {G : Gx} {ρ : Rg} {H : Hp} {l : List D} {xs : List V} {i : Int} {x : D} (r : RVs G ρ H l xs) (h : atI l i = some x) : ∃ v, atI xs i = some v ∧ RV G ρ H x v := by
  unfold atI at *
  rw [← r.len]
  cases e : ixN l.length i with
  | none => rw [e] at h; cases h
  | some j => rw [e] at h; exact r.get h
theorem okS_one {z : Str} {i : Nat} {c : Nat} (h : okS z) (e : z.cps.toList[i]? = some c) : okS ⟨#[c]⟩ := by
  unfold okS PyData.strOk at *
  simp at *
  obtain ⟨hi, e⟩ := Array.getElem?_eq_some_iff.mp e
  have := h i hi
  omega
theorem r_ix : R2m X T (rIx X.K) ixM := by
  intro W ρ hd H d e x y σ Q r q q' z
  unfold ixM at z
  cases e with
  | int i =>
    cases q'
    have seq : Res (gx X T) W σ (RV (gx X T)) ρ H (match seqOf hd d with
      | some l => match atI l i with
        | some x => Re.ok x hd
        | none => .bad
      | none => .bad) Q → rIx X.K x (.int i) H Q := fun z => by
      cases e1 : seqOf hd d with
      | none => rw [e1] at z; exact z.elim
      | some l =>
        rw [e1] at z
        obtain ⟨a, xs, rfl, hs, rs⟩ := seqOf_rv r q e1
        cases e2 : atI l i with
        | none => simp only [e2] at z; exact z.elim
        | some u =>
          simp only [e2] at z
          obtain ⟨v, hv, rv⟩ := atI_rv rs e2
          rcases hs with hs | hs
          · exact .inl ⟨a, xs, i, v, rfl, rfl, hs, hv, ans r rv z⟩
          · exact .inr (.inl ⟨a, xs, i, v, rfl, rfl, hs, hv, ans r rv z⟩)
    cases d with
    | str s =>
      cases q with
      | str _ ho =>
        by_cases c : s.length ≤ sizeLine
        · simp only [c, if_true] at z
          cases e2 : atI s.cps.toList i with
          | none => simp only [e2] at z; exact z.elim
          | some u =>
            simp only [e2] at z
            refine .inr (.inr ⟨s, i, u, rfl, rfl, c, e2, ans r (.str _ ?_) z⟩)
            unfold atI at e2
            obtain ⟨j, _, e3⟩ := Option.bind_eq_some_iff.mp e2
            exact okS_one ho e3
        · simp only [c, if_false] at z; exact z.elim
    | _ => exact seq z
  | _ => exact z.elim
theorem em_ix {ma mb : SD → M D} (ha : PEm X T W a ma) (hb : PEm X T W b mb) (hs : PlainIx b) : PEm X T W (.Subscript a b pos) (m2 ixM ma mb) := weakE (pe_ix ix_seq ha hb hs) (op_go r_ix)

/-! ### slices -/
def mPart (m : Option (SD → M D)) : SD → M (Option Int) := match m with
  | none => fun _ => pure none
  | some m => fun s => m s >>= fun d => match d with
    | .int i => pure (some i)
    | _ => M.bad
def RO : Rg → Hp → Option Int → Option Int → Prop := fun _ _ a b => a = b
theorem ro_mono : ∀ ρ ρ' H H' a b, Stp ρ H ρ' H' → Muts ρ H → RO ρ H a b → RO ρ' H' a b := fun _ _ _ _ _ _ _ _ r => r
abbrev POm (X : Cx) (T : Tb) (W : WX) (e : Option Expr) (m : Option (SD → M D)) : Prop := PO X e (tG (gx X T) W RO (mPart m))
theorem om_none : POm X T W none none := ⟨fun pins s σ H Q I ⟨ρ, hd, sd, r, st, h⟩ => po_none.run pins s σ H Q I (h ρ H none r .refl rfl)⟩
theorem om_some {m : SD → M D} (h : PEm X T W e m) : POm X T W (some e) (some m) := ⟨fun pins s σ H Q I h' => (po_some h).run pins s σ H Q I (by
  refine tG_then (tG_bind (R := RV (gx X T)) (k := fun _ d => match d with
    | .int i => pure (some i)
    | _ => M.bad) h') fun v H1 ⟨ρ1, hd1, sd1, d, ⟨r, st, q⟩, h1⟩ => ?_
  cases d with
  | int i => cases q; exact ⟨i, rfl, h1 ρ1 H1 (some i) r .refl rfl⟩
  | _ => exact h1.elim)⟩
def cutD (l : List D) (lo hi : Option Int) : List D := (l.drop (HT.sIx l.length 0 lo)).take (HT.sIx l.length l.length hi - HT.sIx l.length 0 lo)
def slM (mt : Bool) (d : D) (lo hi : Option Int) : M D := fun h => match d with
  | .str z => if z.length ≤ sizeLine then .ok (.str (cutS z lo hi)) h else .bad
  | .tup l => .ok (.tup (cutD l lo hi)) h
  | d => match rlistOf h d with
    | some l => mkL mt (cutD l lo hi) h
    | none => .bad
theorem cut_rv {G : Gx} {ρ : Rg} {H : Hp} {l : List D} {xs : List V} {lo hi : Option Int} (r : RVs G ρ H l xs) : RVs G ρ H (cutD l lo hi) (cutV xs lo hi) := by
  unfold cutD cutV
  rw [← r.len]
  exact (r.drop _).take _
theorem okS_sub {z : Str} {l : List Nat} (h : okS z) (e : ∀ c ∈ l, c ∈ z.cps.toList) : okS ⟨l.toArray⟩ := by
  unfold okS PyData.strOk at *
  simp only [Array.all_eq_true', List.mem_toArray, decide_eq_true_eq] at *
  intro c hc
  exact h c (Array.mem_toList_iff.mp (e c hc))
theorem okS_cut {z : Str} {lo hi : Option Int} (h : okS z) : okS (cutS z lo hi) := okS_sub h fun c hc => List.mem_of_mem_drop (List.mem_of_mem_take hc)
/-- t[lo:hi], the new one plain -/
def rSlX (K : PySem.W.Frag) : V → Option Int → Option Int → Hp → VK → Prop := fun x lo hi H Q => ∃ a xs, x = .ref a ∧ SqT K H a xs ∧
  (HT.sIx xs.length 0 lo = 0 ∧ HT.sIx xs.length xs.length hi = xs.length → Q (.ref a) H) ∧ (¬ (HT.sIx xs.length 0 lo = 0 ∧ HT.sIx xs.length xs.length hi = xs.length) → NewT (cutV xs lo hi) H Q)
theorem sl_tupX : SlR X (rSlX X.K) := by
  rintro pins s σ H x v vl vu lo hi sl Q I rx hs pl pu ⟨a, xs, rfl, hx, q1, q2⟩
  cases rx
  obtain ⟨its, r, ht, hz⟩ := I.tuple hx
  have hlen : its.toArray.size = xs.length := by rw [List.size_toArray]; exact r.length.symm
  refine ⟨"tuple", _, PyProof.Rows.slot_tuple_getitem.lookup, ht.typeIs, ?_⟩
  by_cases hw : HT.sIx xs.length 0 lo = 0 ∧ HT.sIx xs.length xs.length hi = xs.length
  · exact getItem_tuple_whole ht hs pl pu (by rw [hlen]; exact hw) ⟨.ref a, H, I, rfl, q1 hw⟩
  · refine HT.getItem_tuple_cut ht hs pl pu (by rw [hlen]; exact hw) ?_ (by rw [hlen]; exact hz)
    rw [hlen]
    exact laidT (xs := cutV xs lo hi) I ((r.drop (HT.sIx xs.length 0 lo)).take (HT.sIx xs.length xs.length hi - HT.sIx xs.length 0 lo)) (Nat.le_trans (cutV_length xs lo hi) hz) (q2 hw)
abbrev rSlAny (K : PySem.W.Frag) : V → Option Int → Option Int → Hp → VK → Prop := fun x lo hi H Q => rSlL K x lo hi H Q ∨ (rSlX K x lo hi H Q ∨ rSlS x lo hi H Q)
theorem sl_any : SlR X (rSlAny X.K) := sl_list.or (sl_tupX.or sl_str)
theorem rc_sl {mt : Bool} {ρ : Rg} {hd : DH} {H : Hp} {d : D} {x : V} {lo hi : Option Int} {σ : L2.St} {Q : VK} (r : Rep (gx X T) ρ hd H) (q : RV (gx X T) ρ H d x) (z : Res (gx X T) W σ (RV (gx X T)) ρ H (slM mt d lo hi hd) Q) : rSlAny X.K x lo hi H Q := by
  unfold slM at z
  have lists : Res (gx X T) W σ (RV (gx X T)) ρ H (match rlistOf hd d with
    | some l => mkL mt (cutD l lo hi) hd
    | none => .bad) Q → rSlAny X.K x lo hi H Q := fun z => by
    cases e1 : rlistOf hd d with
    | none => rw [e1] at z; exact z.elim
    | some l =>
      rw [e1] at z
      obtain ⟨p, xs, rfl, hp, rs⟩ := rlistOf_rv r q e1
      exact .inl ⟨p, xs, rfl, hp, (mkL_res r (cut_rv rs) z).2⟩
  cases d with
  | str s =>
    cases q with
    | str _ ho =>
      by_cases c : s.length ≤ sizeLine
      · simp only [c, if_true] at z
        exact .inr (.inr ⟨s, rfl, c, ans r (.str _ (okS_cut ho)) z⟩)
      · simp only [c, if_false] at z; exact z.elim
  | tup l =>
    cases q with
    | tup h rs pt =>
      refine .inr (.inl ⟨_, _, rfl, h, fun ⟨h1, h2⟩ => ?_, fun _ => newT_rv r (cut_rv rs) z⟩)
      · have e : cutD l lo hi = l := by
          unfold cutD
          rw [rs.len, h1, h2, ← rs.len]
          simp
        have z : Res (gx X T) W σ (RV (gx X T)) ρ H (.ok (.tup (cutD l lo hi)) hd) Q := z
        rw [e] at z
        exact ans r (.tup h rs pt) z
  | _ => exact lists z
def mSl (mt : Bool) (m : SD → M D) (l h : Option (SD → M D)) : SD → M D := fun s => m s >>= fun d => mPart l s >>= fun lo => mPart h s >>= fun hi => slM mt d lo hi
theorem em_sl {mt : Bool} {m : SD → M D} {lo hi : Option Expr} {ml mh : Option (SD → M D)} {p2 : Pos} (he : PEm X T W e m) (hl : POm X T W lo ml) (hh : POm X T W hi mh) : PEm X T W (.Subscript e (.Slice lo hi none p2) pos) (mSl mt m ml mh) :=
  weakE (pe_slice sl_any he hl hh) fun σ H Q h => by
    refine tG_then (tG_bind (R := RV (gx X T)) (k := fun s d => mPart ml s >>= fun lo => mPart mh s >>= fun hi => slM mt d lo hi) h) fun x H1 ⟨ρ1, hd1, sd1, d, c1, h1⟩ => ?_
    refine tG_then (c1.go (R' := RO) rv_mono (m := mPart ml) (k := fun s lo => mPart mh s >>= fun hi => slM mt d lo hi) h1) fun l H2 ⟨ρ2, hd2, sd2, lo, c2, ⟨_, _, e1⟩, h2⟩ => ?_
    obtain rfl : lo = l := e1
    refine tG_then (c2.go (R' := RO) rv_mono (m := mPart mh) (k := fun _ hi => slM mt d lo hi) h2) fun u H3 ⟨ρ3, hd3, sd3, hi, ⟨r, _, q⟩, ⟨_, _, e2⟩, h3⟩ => ?_
    obtain rfl : hi = u := e2
    exact rc_sl r q h3

/-! ### calls of built-ins -/
def Cm (X : Cx) (T : Tb) (r : List V → Hp → VK → Prop) (f : List D → M D) : Prop := ∀ (W : WX) (ρ : Rg) (hd : DH) (H : Hp) (ds : List D) (vs : List V) (σ : L2.St) (Q : VK), Rep (gx X T) ρ hd H → RVs (gx X T) ρ H ds vs →
  Res (gx X T) W σ (RV (gx X T)) ρ H (f ds hd) Q → r vs H Q
theorem CallR.or {f : Value} {r r' : List V → Hp → VK → Prop} (h : CallR X f r) (h' : CallR X f r') : CallR X f (fun xs H Q => r xs H Q ∨ r' xs H Q) := by
  intro pins s σ H xs us Q I rv q
  rcases q with q | q
  · exact h pins s σ H xs us Q I rv q
  · exact h' pins s σ H xs us Q I rv q
def mCall (f : List D → M D) (ml : SD → M (List D)) : SD → M D := fun s => ml s >>= f
theorem call_go {r : List V → Hp → VK → Prop} {f : List D → M D} {ml : SD → M (List D)} (hf : Cm X T r f) : ∀ σ H Q, tE (gx X T) W (mCall f ml) σ H Q → tCB r (tA (gx X T) W ml) σ H Q := fun σ H Q h =>
  tG_then (tG_bind (R := RVs (gx X T)) (k := fun _ ds => f ds) h) fun vs H1 ⟨ρ1, hd1, sd1, ds, ⟨r1, _, q⟩, h1⟩ => hf W ρ1 hd1 H1 ds vs σ Q r1 q h1
theorem em_callB {id : String} {x : Str} {r : List V → Hp → VK → Prop} {f : List D → M D} {ml : SD → M (List D)} (hc : CallR X (.builtin id) r) (hf : Cm X T r f) (hg : Gl X x) (hm : X.mg x = none) (hv : bootBuiltins x = some (.builtin id)) (ha : PAm X T W (e :: es) ml)
    (hn : x ≠ "__name__") (hdb : (x == ("__debug__" : Str)) = false) (he : starEach (e :: es) X.env = (false, eval e X.env) :: starEach es X.env) (hpl : (backTo pos (starEach es X.env)).any (·.1) = false) : PEm X T W (.Call (.Name x p) (e :: es) [] pos) (mCall f ml) :=
  weakE (pe_callB hc hg hm hv ha hn hdb he hpl) (call_go hf)
theorem em_callT {id : String} {x : Str} {r : List V → Hp → VK → Prop} {f : List D → M D} {ml : SD → M (List D)} (hc : CallR X (.type id) r) (hf : Cm X T r f) (hg : Gl X x) (hm : X.mg x = none) (hv : bootBuiltins x = some (.type id)) (ha : PAm X T W (e :: es) ml)
    (hn : x ≠ "__name__") (hdb : (x == ("__debug__" : Str)) = false) (he : starEach (e :: es) X.env = (false, eval e X.env) :: starEach es X.env) (hpl : (backTo pos (starEach es X.env)).any (·.1) = false) : PEm X T W (.Call (.Name x p) (e :: es) [] pos) (mCall f ml) :=
  weakE (pe_callTy hc hg hm hv ha hn hdb he hpl) (call_go hf)
def one (f : D → M D) : List D → M D
  | [d] => f d
  | _ => M.bad
theorem one_res {G : Gx} {ρ : Rg} {H : Hp} {hd : DH} {f : D → M D} {ds : List D} {vs : List V} {σ : L2.St} {Q : VK} (q : RVs G ρ H ds vs) (z : Res G W σ (RV G) ρ H (one f ds hd) Q) : ∃ d v, ds = [d] ∧ vs = [v] ∧ RV G ρ H d v ∧ Res G W σ (RV G) ρ H (f d hd) Q := by
  cases ds with
  | nil => exact z.elim
  | cons d t => cases t with
    | nil =>
      obtain ⟨v, rfl, q1⟩ := q.one
      exact ⟨d, v, rfl, rfl, q1, z⟩
    | cons _ _ => exact z.elim
def two (f : D → D → M D) : List D → M D
  | [d, e] => f d e
  | _ => M.bad
theorem two_res {G : Gx} {ρ : Rg} {H : Hp} {hd : DH} {f : D → D → M D} {ds : List D} {vs : List V} {σ : L2.St} {Q : VK} (q : RVs G ρ H ds vs) (z : Res G W σ (RV G) ρ H (two f ds hd) Q) :
    ∃ d e v u, ds = [d, e] ∧ vs = [v, u] ∧ RV G ρ H d v ∧ RV G ρ H e u ∧ Res G W σ (RV G) ρ H (f d e hd) Q := by
  cases ds with
  | nil => exact z.elim
  | cons d t => cases t with
    | nil => exact z.elim
    | cons e t => cases t with
      | nil =>
        obtain ⟨v, u, rfl, q1, q2⟩ := q.two
        exact ⟨d, e, v, u, rfl, rfl, q1, q2, z⟩
      | cons _ _ => exact z.elim
/-- len -/
def len1 : D → M D := fun d h => match d with
  | .str z => if z.length ≤ sizeLine then .ok (.int z.length) h else .bad
  | d => match seqOf h d with
    | some l => .ok (.int l.length) h
    | none => .bad
abbrev rLenAny (K : PySem.W.Frag) : List V → Hp → VK → Prop := fun xs H Q => (∃ p ys, xs = [.ref p] ∧ (SqL K H p ys ∨ SqT K H p ys) ∧ Q (.int ys.length) H) ∨ (∃ z, xs = [.str z] ∧ z.length ≤ sizeLine ∧ Q (.int z.length) H)
theorem c_len : Cm X T (rLenAny X.K) (one len1) := by
  intro W ρ hd H ds vs σ Q r q z
  obtain ⟨d, v, rfl, rfl, q, z⟩ := one_res q z
  unfold len1 at z
  have seq : Res (gx X T) W σ (RV (gx X T)) ρ H (match seqOf hd d with
      | some l => Re.ok (.int l.length) hd
      | none => .bad) Q → rLenAny X.K [v] H Q := fun z => by
    cases e1 : seqOf hd d with
    | none => rw [e1] at z; exact z.elim
    | some l =>
      rw [e1] at z
      obtain ⟨p, xs, rfl, hp, rs⟩ := seqOf_rv r q e1
      refine .inl ⟨p, xs, rfl, hp, ?_⟩
      rw [← rs.len]
      exact ans r (.int _) z
  cases d with
  | str s =>
    cases q
    by_cases c : s.length ≤ sizeLine
    · simp only [c, if_true] at z
      exact .inr ⟨s, rfl, c, ans r (.int _) z⟩
    · simp only [c, if_false] at z; exact z.elim
  | _ => exact seq z
theorem b_len : CallR X (.builtin "len") (rLenAny X.K) := CallR.or call_len_seq call_len_str
/-- tuple, list -/
def tup1 : D → M D := fun d h => match seqOf h d with
    | some l => .ok (.tup l) h
    | none => .bad
abbrev rTupX (K : PySem.W.Frag) : List V → Hp → VK → Prop := fun xs H Q => ∃ p ys, xs = [.ref p] ∧ ((SqL K H p ys ∧ NewT ys H Q) ∨ (SqT K H p ys ∧ Q (.ref p) H))
theorem call_tupX : CallR X (.type "tuple") (rTupX X.K) := by
  rintro pins s σ H xs us Q I r ⟨p, ys, rfl, h⟩
  obtain ⟨u, rfl, rx⟩ := vals1 r
  cases rx
  rcases h with ⟨hq, q⟩ | ⟨hq, q⟩
  · obtain ⟨its, r', pl, hz⟩ := I.list hq
    have hlen := r'.length
    exact call_tuple_list pl.isList (fun h' kp => laidT (I.kept (t' := s.toks) kp) r' hz q) (by simp only [List.size_toArray] <;> omega)
  · obtain ⟨its, r', pl, hz⟩ := I.tuple hq
    exact call_tuple_same pl ⟨.ref p, H, I, rfl, q⟩
theorem c_tup : Cm X T (rTupX X.K) (one tup1) := by
  intro W ρ hd H ds vs σ Q r q z
  obtain ⟨d, v, rfl, rfl, q, z⟩ := one_res q z
  unfold tup1 at z
  have lists : ∀ l, rlistOf hd d = some l → Res (gx X T) W σ (RV (gx X T)) ρ H (.ok (.tup l) hd) Q → rTupX X.K [v] H Q := fun l e1 z => by
    obtain ⟨p, xs, rfl, hp, rs⟩ := rlistOf_rv r q e1
    exact ⟨p, xs, rfl, .inl ⟨hp, newT_rv r rs z⟩⟩
  cases d with
  | tup l =>
    cases q with
    | tup hp rs pt => exact ⟨_, _, rfl, .inr ⟨hp, ans r (.tup hp rs pt) z⟩⟩
  | _ =>
    revert z
    generalize e1 : seqOf hd _ = o
    intro z
    cases o with
    | none => exact z.elim
    | some l => exact lists l e1 z
def list1 (mt : Bool) : D → M D := fun d h => match seqOf h d with
    | some l => mkL mt l h
    | none => .bad
abbrev rListAny (K : PySem.W.Frag) : List V → Hp → VK → Prop := fun xs H Q => ∃ p ys, xs = [.ref p] ∧ (SqL K H p ys ∨ SqT K H p ys) ∧ ∀ l, H l = none → Q (.ref l) (upd H l (.lst ys))
theorem c_list (mt : Bool) : Cm X T (rListAny X.K) (one (list1 mt)) := by
  intro W ρ hd H ds vs σ Q r q z
  obtain ⟨d, v, rfl, rfl, q, z⟩ := one_res q z
  unfold list1 at z
  cases e1 : seqOf hd d with
  | none => simp only [e1] at z; exact z.elim
  | some l =>
    simp only [e1] at z
    obtain ⟨p, xs, rfl, hp, rs⟩ := seqOf_rv r q e1
    exact ⟨p, xs, rfl, hp, (mkL_res r rs z).2⟩
/-- min, max of two ints; int -/
def min2 : D → D → M D := fun d e => match d, e with
  | .int i, .int j => pure (.int (if j < i then j else i))
  | _, _ => M.bad
def max2 : D → D → M D := fun d e => match d, e with
  | .int i, .int j => pure (.int (if j > i then j else i))
  | _, _ => M.bad
theorem c_min : Cm X T (fun xs H Q => ∃ i j, xs = [.int i, .int j] ∧ Q (.int (if j < i then j else i)) H) (two min2) := by
  intro W ρ hd H ds vs σ Q r q z
  obtain ⟨d, e, v, u, rfl, rfl, q1, q2, z⟩ := two_res q z
  cases d <;> cases e <;> first | exact z.elim | skip
  cases q1; cases q2
  exact ⟨_, _, rfl, ans r (.int _) z⟩
theorem c_max : Cm X T (fun xs H Q => ∃ i j, xs = [.int i, .int j] ∧ Q (.int (if j > i then j else i)) H) (two max2) := by
  intro W ρ hd H ds vs σ Q r q z
  obtain ⟨d, e, v, u, rfl, rfl, q1, q2, z⟩ := two_res q z
  cases d <;> cases e <;> first | exact z.elim | skip
  cases q1; cases q2
  exact ⟨_, _, rfl, ans r (.int _) z⟩
def int1 : D → M D := fun d => match d with
  | .int i => pure (.int i)
  | .bl b => pure (.int (if b then 1 else 0))
  | _ => M.bad
theorem c_int : Cm X T (fun xs H Q => (∃ i, xs = [.int i] ∧ Q (.int i) H) ∨ ∃ k, xs = [.bl k] ∧ Q (.int (if k then 1 else 0)) H) (one int1) := by
  intro W ρ hd H ds vs σ Q r q z
  obtain ⟨d, v, rfl, rfl, q, z⟩ := one_res q z
  cases d <;> first | exact z.elim | skip
  · cases q; exact .inr ⟨_, rfl, ans r (.int _) z⟩
  · cases q; exact .inl ⟨_, rfl, ans r (.int _) z⟩
end
end Wy

set_option Elab.async false
set_option linter.all false
set_option maxRecDepth 100000
set_option maxHeartbeats 4000000
namespace Wy
open PySem PySem.Spec PyProof.Rows L2

section
variable {X : Cx} {T : Tb} {W : WX} {e a b c o : Expr} {es : List Expr} {pos p : Pos}

/-! ### methods of built-in types -/
def Mm (X : Cx) (T : Tb) (r : V → List V → Hp → VK → Prop) (f : D → List D → M D) : Prop := ∀ (W : WX) (ρ : Rg) (hd : DH) (H : Hp) (d : D) (x : V) (ds : List D) (vs : List V) (σ : L2.St) (Q : VK), Rep (gx X T) ρ hd H → RV (gx X T) ρ H d x →
  RVs (gx X T) ρ H ds vs → Res (gx X T) W σ (RV (gx X T)) ρ H (f d ds hd) Q → r x vs H Q
/-- which type a value has -/
inductive Ty | list | str | dict
def Ty.nm : Ty → String
  | .list => "list"
  | .str => "str"
  | .dict => "dict"
def tyM (t : Ty) (d : D) : M Unit := fun h => match t with
  | .list => match rlistOf h d with
    | some _ => .ok () h
    | none => .bad
  | .str => match d with
    | .str _ => .ok () h
    | _ => .bad
  | .dict => match d with
    | .dv false _ _ => .ok () h
    | .ref n => match h[n]? with
      | some (.dct false _) => .ok () h
      | _ => .bad
    | _ => .bad
theorem tyM_res {G : Gx} {ρ : Rg} {H : Hp} {hd : DH} {t : Ty} {d : D} {x : V} {α β : Type} {k : M α} {R : Rg → Hp → α → β → Prop} {σ : L2.St} {Q : β → Hp → Prop} (r : Rep G ρ hd H) (q : RV G ρ H d x) (z : Res G W σ R ρ H ((tyM t d >>= fun _ => k) hd) Q) :
    tyV G.K t.nm x H ∧ Res G W σ R ρ H (k hd) Q := by
  rw [bind_ap] at z
  unfold tyM at z
  cases t with
  | list =>
    cases e : rlistOf hd d with
    | none => simp only [e] at z; exact z.elim
    | some l =>
      simp only [e] at z
      obtain ⟨a, xs, rfl, h, _⟩ := rlistOf_rv r q e
      exact ⟨.inl ⟨rfl, xs, h⟩, z⟩
  | str =>
    cases d <;> first | exact z.elim | skip
    cases q
    exact ⟨rfl, z⟩
  | dict =>
    cases d with
    | dv tk ks vs =>
      cases tk with
      | false => cases q with
        | dvk _ h _ _ _ => exact ⟨.inr (.inr (.inl ⟨rfl, .inl ⟨_, h⟩⟩)), z⟩
      | true => exact z.elim
    | ref n =>
      cases q with
      | ref hn =>
        cases c : hd[n]? with
        | none => simp only [c] at z; exact z.elim
        | some ob => cases ob with
          | dct tk kvs => cases tk with
            | false =>
              simp only [c] at z
              obtain ⟨ks, us, h, _⟩ := r.ob n _ _ hn c
              exact ⟨.inr (.inr (.inl ⟨rfl, .inl ⟨_, h⟩⟩)), z⟩
            | true => simp only [c] at z; exact z.elim
          | lst _ => simp only [c] at z; exact z.elim
          | ins _ _ => simp only [c] at z; exact z.elim
    | _ => exact z.elim
def mMeth (t : Ty) (f : D → List D → M D) (mo : SD → M D) (ml : SD → M (List D)) : SD → M D := fun s => mo s >>= fun d => tyM t d >>= fun _ => ml s >>= fun ds => f d ds
theorem em_bm {t : Ty} {name : Str} {id : String} {r : V → List V → Hp → VK → Prop} {f : D → List D → M D} {mo : SD → M D} {ml : SD → M (List D)} {apos cpos : Pos} (pa : PlainAttrs t.nm) (slot : Slot t.nm name id) (hty : typeOf (.builtin id) = pure (.type "method_descriptor")) (hm : MtR X id r) (hf : Mm X T r f)
    (ho : PEm X T W o mo) (ha : PAm X T W (e :: es) ml) (hbase : attributeBase o name X.env (eval o X.env) = eval o X.env)
    (hfew : ((backTo cpos (starEach (e :: es) X.env)).all (fun x => !x.1) && (backToKw cpos (keywordEach [] X.env)).all (fun x => x.1.isSome) && decide ((e :: es).length + ([] : List Keyword).length + (if ([] : List Keyword).isEmpty then 0 else 1) < 30)) = true)
    (hline : (apos.endLine == cpos.line) = true) (hs : starEach (e :: es) X.env = (false, eval e X.env) :: starEach es X.env) (hplain : (backTo cpos (starEach es X.env)).any (·.1) = false) : PEm X T W (.Call (.Attribute o name apos) (e :: es) [] cpos) (mMeth t f mo ml) :=
  weakE (pe_bm pa slot hty hm ho ha hbase hfew hline hs hplain) fun σ H Q h => by
    refine tG_then (tG_bind (R := RV (gx X T)) (k := fun s d => tyM t d >>= fun _ => ml s >>= fun ds => f d ds) h) fun x H1 ⟨ρ1, hd1, sd1, d1, c1, h1⟩ => ?_
    obtain ⟨ty, h1⟩ := tyM_res (k := ml sd1 >>= fun ds => f d1 ds) c1.1 c1.2.2 h1
    refine ⟨ty, ?_⟩
    refine tG_then (c1.go (R' := RVs (gx X T)) rv_mono (m := ml) (k := fun _ ds => f d1 ds) h1) fun vs H2 ⟨ρ2, hd2, sd2, ds, ⟨r2, _, q⟩, ⟨_, _, q2⟩, h2⟩ => ?_
    exact hf W ρ2 hd2 H2 d1 x ds vs σ Q r2 q q2 h2
theorem em_bm0 {t : Ty} {name : Str} {id : String} {r : V → List V → Hp → VK → Prop} {f : D → List D → M D} {mo : SD → M D} {apos cpos : Pos} (pa : PlainAttrs t.nm) (slot : Slot t.nm name id) (hty : typeOf (.builtin id) = pure (.type "method_descriptor")) (hm : MtR X id r) (hf : Mm X T r f)
    (ho : PEm X T W o mo) (hbase : attributeBase o name X.env (eval o X.env) = eval o X.env) (hline : (apos.endLine == cpos.line) = true) : PEm X T W (.Call (.Attribute o name apos) [] [] cpos) (mMeth t f mo mNil) :=
  weakE (pe_bm0 pa slot hty hm ho hbase hline) fun σ H Q h => by
    refine tG_then (tG_bind (R := RV (gx X T)) (k := fun s d => tyM t d >>= fun _ => mNil s >>= fun ds => f d ds) h) fun x H1 ⟨ρ1, hd1, sd1, d1, c1, h1⟩ => ?_
    obtain ⟨ty, h1⟩ := tyM_res (k := f d1 []) c1.1 c1.2.2 h1
    exact ⟨ty, hf W ρ1 hd1 H1 d1 x [] [] σ Q c1.1 c1.2.2 .nil h1⟩

/-- a list that is changed -/
def mutL (d : D) (f : List D → Option (List D × D)) : M D := fun h => match d with
  | .ref n => match h[n]? with
    | some (.lst l) => match f l with
      | some (l', x) => .ok x (h.set n (.lst l'))
      | none => .bad
    | _ => .bad
  | _ => .bad
theorem mutL_res {G : Gx} {ρ : Rg} {H : Hp} {hd : DH} {d : D} {v : V} {f : List D → Option (List D × D)} {σ : L2.St} {Q : VK} (r : Rep G ρ hd H) (q : RV G ρ H d v) (z : Res G W σ (RV G) ρ H (mutL d f hd) Q) :
    ∃ a l xs l' x, v = .ref a ∧ H a = some (.lst xs) ∧ RVs G ρ H l xs ∧ f l = some (l', x) ∧ ∀ xs' u, RVs G ρ H l' xs' → RV G ρ H x u → Q u (upd H a (.lst xs')) := by
  unfold mutL at z
  cases d <;> first | exact z.elim | skip
  rename_i n
  cases q with
  | ref hn =>
    rename_i a
    cases c : hd[n]? with
    | none => simp only [c] at z; exact z.elim
    | some ob => cases ob with
      | lst l =>
        simp only [c] at z
        obtain ⟨xs, h, rs⟩ := r.ob n _ _ hn c
        cases e : f l with
        | none => simp only [e] at z; exact z.elim
        | some w =>
          obtain ⟨l', x⟩ := w
          simp only [e] at z
          refine ⟨a, l, xs, l', x, rfl, h, rs, e, fun xs' u r1 r2 => ?_⟩
          have s : Stp ρ H ρ (upd H a (.lst xs')) := .wr (List.mem_of_getElem? hn)
          exact z ρ _ u (r.wr hn ⟨xs', upd_same, RVs.mono s r.muts _ _ r1⟩) s (RV.mono s r.muts _ _ r2)
      | dct _ _ => simp only [c] at z; exact z.elim
      | ins _ _ => simp only [c] at z; exact z.elim
def fAppend (d : D) (ds : List D) : M D := match ds with
  | [y] => mutL d fun l => if l.length < sizeLine then some (l ++ [y], .non) else none
  | _ => M.bad
theorem m_append : Mm X T rAppend fAppend := by
  intro W ρ hd H d x ds vs σ Q r q qs z
  match ds, qs, z with
  | [], _, z => exact z.elim
  | _ :: _ :: _, _, z => exact z.elim
  | [y], qs, z =>
    obtain ⟨u, rfl, qy⟩ := qs.one
    obtain ⟨a, l, xs, l', z', rfl, h, rs, e, fin⟩ := mutL_res r q z
    by_cases c : l.length < sizeLine
    · rw [if_pos c] at e
      cases e
      exact ⟨a, xs, u, rfl, rfl, h, by rw [← rs.len]; exact c, fin _ _ (rs.app (.cons qy .nil)) .non⟩
    · rw [if_neg c] at e; cases e
def fInsert (d : D) (ds : List D) : M D := match ds with
  | [.int i, y] => mutL d fun l => if l.length < sizeLine ∧ 0 ≤ i ∧ i < 2 ^ 63 then some (l.take i.toNat ++ [y] ++ l.drop i.toNat, .non) else none
  | _ => M.bad
theorem m_insert : Mm X T (fun x vs H Q => ∃ (l : Addr) (xs : List V) (i : Int) (y : V), x = .ref l ∧ vs = [.int i, y] ∧ H l = some (.lst xs) ∧ xs.length < sizeLine ∧ 0 ≤ i ∧ i < 2 ^ 63 ∧ Q .non (upd H l (.lst (xs.take i.toNat ++ [y] ++ xs.drop i.toNat)))) fInsert := by
  intro W ρ hd H d x ds vs σ Q r q qs z
  unfold fInsert at z
  split at z
  · rename_i i y
    obtain ⟨u, w, rfl, qi, qy⟩ := qs.two
    cases qi
    obtain ⟨a, l, xs, l', z', rfl, h, rs, e, fin⟩ := mutL_res r q z
    by_cases c : l.length < sizeLine ∧ 0 ≤ i ∧ i < 2 ^ 63
    · rw [if_pos c] at e
      cases e
      exact ⟨a, xs, i, w, rfl, rfl, h, by rw [← rs.len]; exact c.1, c.2.1, c.2.2, fin _ _ (((rs.take _).app (.cons qy .nil)).app (rs.drop _)) .non⟩
    · rw [if_neg c] at e; cases e
  · exact z.elim
/-- the first place of an equal one -/
def fstEq (p : PyData) : List PyData → Option Nat
  | [] => none
  | q :: qs => if PyData.eqv q p = true then some 0 else (fstEq p qs).map (· + 1)
theorem fstEq_at {p : PyData} : ∀ {l : List PyData} {j : Nat}, fstEq p l = some j → (∃ z, l[j]? = some z ∧ PyData.eqv z p = true) ∧ ∀ (m : Nat) z', m < j → l[m]? = some z' → PyData.eqv z' p = false
  | [], j, h => by cases h
  | q :: qs, j, h => by
    unfold fstEq at h
    by_cases c : PyData.eqv q p = true
    · rw [if_pos c] at h; cases h
      exact ⟨⟨q, rfl, c⟩, fun m z' hm => absurd hm (Nat.not_lt_zero _)⟩
    · rw [if_neg c] at h
      obtain ⟨i, h1, rfl⟩ := Option.map_eq_some_iff.mp h
      obtain ⟨⟨z, h2, h3⟩, h4⟩ := fstEq_at h1
      refine ⟨⟨z, by simpa using h2, h3⟩, fun m z' hm e => ?_⟩
      cases m with
      | zero =>
        have e : q = z' := by simpa using e
        subst e
        simpa using c
      | succ m => exact h4 m z' (by omega) (by simpa using e)
def fIndex (d : D) (ds : List D) : M D := fun h => match ds with
  | [y] => match toP h d, toP h y with
    | some (.list ps), some p => if (PyData.list ps).depth ≤ 64 ∧ p.depth ≤ 64 then match fstEq p ps with
      | some j => .ok (.int (j : Nat)) h
      | none => .bad else .bad
    | _, _ => .bad
  | _ => .bad
theorem m_index : Mm X T (rIndexD X.K) fIndex := by
  intro W ρ hd H d x ds vs σ Q r q qs z
  unfold fIndex at z
  match ds, qs, z with
  | [], _, z => exact z.elim
  | _ :: _ :: _, _, z => exact z.elim
  | [y], qs, z =>
    obtain ⟨u, rfl, qy⟩ := qs.one
    cases e1 : toP hd d with
    | none => simp only [e1] at z; exact z.elim
    | some P => cases e2 : toP hd y with
      | none => simp only [e1, e2] at z; cases P <;> exact z.elim
      | some p =>
        simp only [e1, e2] at z
        cases P <;> first | exact z.elim | skip
        rename_i ps
        by_cases c : (PyData.list ps).depth ≤ 64 ∧ p.depth ≤ 64
        · simp only [c, and_self, if_true] at z
          cases e3 : fstEq p ps with
          | none => simp only [e3] at z; exact z.elim
          | some j =>
            simp only [e3] at z
            obtain ⟨h1, h2⟩ := toP_rv r q e1
            obtain ⟨h3, h4⟩ := toP_rv r qy e2
            obtain ⟨⟨w, h5, h6⟩, h7⟩ := fstEq_at e3
            cases h1 with
            | lst hs ha => exact ⟨_, u, p, ps, j, w, rfl, rfl, .lst hs ha, h3, shaped_of h2 c.1, shaped_of h4 c.2, h5, h6, h7, ans r (.int _) z⟩
        · simp only [c, if_false] at z; exact z.elim
end
end Wy

set_option Elab.async false
set_option linter.all false
set_option maxRecDepth 100000
set_option maxHeartbeats 4000000
namespace Wy
open PySem PySem.Spec PyProof.Rows L2

/-! ### statements -/
inductive Fl where
  | nx (s : SD)
  | rt (d : D)
  | bk (s : SD)
  | ct (s : SD)
/-- a wish that doesn't look at the slots -/
abbrev WC (E : XK) : WX := fun c d _ H => E c d H
def ResS (G : Gx) (E : XK) (ρ : Rg) (H : Hp) (r : Re Fl) (D : Ends) : Prop := match r with
  | .ok (.nx s) hd => ∀ ρ' H' σ', Rep G ρ' hd H' → Stp ρ H ρ' H' → RSt G ρ' H' s σ' → D.nx σ' H'
  | .ok (.rt d) hd => ∀ ρ' H' v, Rep G ρ' hd H' → Stp ρ H ρ' H' → RV G ρ' H' d v → D.rt v H'
  | .ok (.bk s) hd => ∀ ρ' H' σ', Rep G ρ' hd H' → Stp ρ H ρ' H' → RSt G ρ' H' s σ' → D.bk σ' H'
  | .ok (.ct s) hd => ∀ ρ' H' σ', Rep G ρ' hd H' → Stp ρ H ρ' H' → RSt G ρ' H' s σ' → D.ct σ' H'
  | .ex C fs hd => ∀ ρ' H' c dd, Rep G ρ' hd H' → Stp ρ H ρ' H' → ExR G ρ' H' C fs c dd → E c dd H'
  | .bad => False
def tS (G : Gx) (E : XK) (m : SD → M Fl) : TS := fun D σ H => ∃ ρ hd sd, Rep G ρ hd H ∧ RSt G ρ H sd σ ∧ ResS G E ρ H (m sd hd) D
section
variable {G : Gx} {E : XK} {ρ ρ' : Rg} {H H' : Hp} {D D' : Ends} {σ : L2.St}
theorem ResS.from {r : Re Fl} (s : Stp ρ H ρ' H') (h : ResS G E ρ H r D) : ResS G E ρ' H' r D := by
  cases r with
  | ok f hd => cases f with
    | nx _ => exact fun ρ2 H2 v r2 s2 q => h ρ2 H2 v r2 (s.trans s2) q
    | rt _ => exact fun ρ2 H2 v r2 s2 q => h ρ2 H2 v r2 (s.trans s2) q
    | bk _ => exact fun ρ2 H2 v r2 s2 q => h ρ2 H2 v r2 (s.trans s2) q
    | ct _ => exact fun ρ2 H2 v r2 s2 q => h ρ2 H2 v r2 (s.trans s2) q
  | ex C fs hd => exact fun ρ2 H2 c dd r2 s2 q => h ρ2 H2 c dd r2 (s.trans s2) q
  | bad => exact h
/-- an expression, then a statement's end -/
theorem tS_bind {α β : Type} {R : Rg → Hp → α → β → Prop} {m : SD → M α} {k : SD → α → M Fl} (h : tS G E (fun s => m s >>= k s) D σ H) :
    tG G (WC E) R m σ H fun b H' => ∃ ρ hd sd a, At G σ R ρ hd sd H' a b ∧ ResS G E ρ H' (k sd a hd) D := by
  obtain ⟨ρ, hd, sd, r, st, h⟩ := h
  refine ⟨ρ, hd, sd, r, st, ?_⟩
  have h : ResS G E ρ H ((m sd >>= k sd) hd) D := h
  rw [bind_ap] at h
  cases e : m sd hd with
  | ok a hd' =>
    rw [e] at h
    exact fun ρ' H' b r' s' q => ⟨ρ', hd', sd, a, ⟨r', st.mono s' r.muts, q⟩, h.from s'⟩
  | ex C fs hd' => rw [e] at h; exact h
  | bad => rw [e] at h; exact h
def mSeq (m k : SD → M Fl) : SD → M Fl := fun s => m s >>= fun f => match f with
  | .nx s' => k s'
  | f => pure f
theorem seq_go {m k : SD → M Fl} (h : tS G E (mSeq m k) D σ H) : tSeq (tS G E m) (tS G E k) D σ H := by
  obtain ⟨ρ, hd, sd, r, st, h⟩ := h
  refine ⟨ρ, hd, sd, r, st, ?_⟩
  unfold mSeq at h
  rw [bind_ap] at h
  cases e : m sd hd with
  | ok f hd' =>
    rw [e] at h
    cases f with
    | nx s => exact fun ρ' H' σ' r' s' q => ⟨ρ', hd', s, r', q, ResS.from s' h⟩
    | rt d => exact h
    | bk s => exact h
    | ct s => exact h
  | ex C fs hd' => rw [e] at h; exact h
  | bad => rw [e] at h; exact h
end
def mNext : SD → M Fl := fun s => pure (.nx s)
section
variable {X : Cx} {T : Tb} {E : XK} {e a b c o : Expr} {es : List Expr} {st : Stmt} {sts : List Stmt} {pos p : Pos}
abbrev PSm (X : Cx) (T : Tb) (E : XK) (st : Stmt) (m : SD → M Fl) : Prop := PS X st (tS (gx X T) E m)
abbrev PSsm (X : Cx) (T : Tb) (E : XK) (sts : List Stmt) (m : SD → M Fl) : Prop := PSs X sts (tS (gx X T) E m)
theorem sm_nil : PSsm X T E [] mNext := weakSs pss_nil fun D σ H ⟨ρ, hd, sd, r, s, h⟩ => h ρ H σ r .refl s
theorem sm_cons {m k : SD → M Fl} (h1 : PSm X T E st m) (h2 : PSsm X T E sts k) : PSsm X T E (st :: sts) (mSeq m k) := weakSs (pss_cons h1 h2) fun D σ H h => seq_go h
def mBrk : SD → M Fl := fun s => pure (.bk s)
def mCnt : SD → M Fl := fun s => pure (.ct s)
theorem sm_pass : PSm X T E (.Pass pos) mNext := weakS ps_pass fun D σ H ⟨ρ, hd, sd, r, s, h⟩ => h ρ H σ r .refl s
theorem sm_brk : PSm X T E (.Break pos) mBrk := weakS ps_break fun D σ H ⟨ρ, hd, sd, r, s, h⟩ => h ρ H σ r .refl s
theorem sm_cnt : PSm X T E (.Continue pos) mCnt := weakS ps_continue fun D σ H ⟨ρ, hd, sd, r, s, h⟩ => h ρ H σ r .refl s
theorem sm_doc {x : Str} {j : Nat} {p' : Pos} : PSm X T E (.Expr (.Constant (.str x) j pos) p') mNext := weakS ps_doc fun D σ H ⟨ρ, hd, sd, r, s, h⟩ => h ρ H σ r .refl s
def mExpr (m : SD → M D) : SD → M Fl := fun s => m s >>= fun _ => pure (.nx s)
theorem sm_expr {m : SD → M D} (he : PEm X T (WC E) e m) (hs : swapsWith e none pos.line X.env = pure false) : PSm X T E (.Expr e pos) (mExpr m) :=
  weakS (ps_expr he hs) fun D σ H h => tG_then (tS_bind (R := RV (gx X T)) (k := fun s _ => pure (Fl.nx s)) h) fun v H1 ⟨ρ1, hd1, sd1, d, ⟨r, s, q⟩, h1⟩ => h1 ρ1 H1 σ r .refl s
def mRet (m : SD → M D) : SD → M Fl := fun s => m s >>= fun d => pure (.rt d)
theorem sm_ret {m : SD → M D} (he : PEm X T (WC E) e m) : PSm X T E (.Return (some e) pos) (mRet m) :=
  weakS (ps_ret he) fun D σ H h => tG_then (tS_bind (R := RV (gx X T)) (k := fun _ d => pure (Fl.rt d)) h) fun v H1 ⟨ρ1, hd1, sd1, d, ⟨r, s, q⟩, h1⟩ => h1 ρ1 H1 v r .refl q
def mRetN : SD → M Fl := fun _ => pure (.rt .non)
theorem sm_retN : PSm X T E (.Return none pos) mRetN := weakS ps_retN fun D σ H ⟨ρ, hd, sd, r, s, h⟩ => h ρ H .non r .refl .non
def mIf (t : SD → M Bool) (m k : SD → M Fl) : SD → M Fl := fun s => t s >>= fun b => if b = true then m s else k s
theorem sm_if {t : SD → M Bool} {m k : SD → M Fl} {s1 s2 : List Stmt} (ht : PTm X T (WC E) c t) (h1 : PSsm X T E s1 m) (h2 : PSsm X T E s2 k) : PSm X T E (.If c s1 s2 pos) (mIf t m k) :=
  weakS (ps_if ht h1 h2) fun D σ H h => tG_then (tS_bind (R := RB) (k := fun s b => if b = true then m s else k s) h) fun v H1 ⟨ρ1, hd1, sd1, d, ⟨r, s, q⟩, h1⟩ => by
    obtain rfl : d = v := q
    cases d with
    | true => exact ⟨ρ1, hd1, sd1, r, s, h1⟩
    | false => exact ⟨ρ1, hd1, sd1, r, s, h1⟩

/-! ### targets -/
theorem RVs.inv {G : Gx} {ρ : Rg} {H : Hp} {d : D} {ds : List D} {vs : List V} (q : RVs G ρ H (d :: ds) vs) : ∃ v us, vs = v :: us ∧ RV G ρ H d v ∧ RVs G ρ H ds us := by
  cases q with
  | cons q qs => exact ⟨_, _, rfl, q, qs⟩
/-- nothing is raised -/
def quiet {α : Type} (m : M α) : M α := fun h => match m h with
  | .ok a h' => .ok a h'
  | _ => .bad
def RS (G : Gx) : Rg → Hp → SD → L2.St → Prop := RSt G
def tT' (G : Gx) (E : XK) (m : D → SD → M SD) : TG := fun v σ H Q => ∃ ρ hd sd d, Rep G ρ hd H ∧ RSt G ρ H sd σ ∧ RV G ρ H d v ∧ Res G (WC E) σ (RSt G) ρ H (m d sd hd) Q
abbrev PGm (X : Cx) (T : Tb) (E : XK) (tg : Expr) (m : D → SD → M SD) : Prop := PG X tg (tT' (gx X T) E m)
theorem weakG {tg : Expr} {t t' : TG} (h : PG X tg t) (w : ∀ v σ H Q, t' v σ H Q → t v σ H Q) : PG X tg t' := ⟨fun pins s σ H v u Q I r q => h.run pins s σ H v u Q I r (w _ _ _ _ q)⟩
def gNm (i : Nat) : D → SD → M SD := fun d s => pure (s.set i (some d))
theorem gm_name {i : Nat} {x : Str} (hN : X.N.Nodup) (hi : X.N[i]? = some x) (hx : Loc X.env.scope x) (hf : X.fn x = true ∨ X.env.scope.names.lookup x = some .local) : PGm X T E (.Name x pos) (gNm i) :=
  weakG (pg_name hN hi hx hf) fun v σ H Q ⟨ρ, hd, sd, d, r, s, q, h⟩ => h ρ H (σ.set i (some v)) r .refl (s.set q)
abbrev PGsm (X : Cx) (T : Tb) (E : XK) (tgs : List Expr) (m : List D → SD → M SD) : Prop := PGs X tgs (fun vs σ H Q => ∃ ρ hd sd ds, Rep (gx X T) ρ hd H ∧ RSt (gx X T) ρ H sd σ ∧ RVs (gx X T) ρ H ds vs ∧ Res (gx X T) (WC E) σ (RSt (gx X T)) ρ H (m ds sd hd) Q)
theorem weakGs {tgs : List Expr} {t t' : TGs} (h : PGs X tgs t) (w : ∀ v σ H Q, t' v σ H Q → t v σ H Q) : PGs X tgs t' := ⟨fun pins s σ H v u Q I r q => h.run pins s σ H v u Q I r (w _ _ _ _ q)⟩
def gsNil : List D → SD → M SD := fun ds s => match ds with
  | [] => pure s
  | _ => M.bad
def gsCons (g : D → SD → M SD) (gs : List D → SD → M SD) : List D → SD → M SD := fun ds s => match ds with
  | d :: ds => g d s >>= gs ds
  | [] => M.bad
theorem gsm_nil : PGsm X T E [] gsNil := weakGs pgs_nil fun vs σ H Q ⟨ρ, hd, sd, ds, r, s, q, h⟩ => by
  cases ds with
  | nil => cases q; exact ⟨rfl, h ρ H σ r .refl s⟩
  | cons _ _ => exact h.elim
theorem gsm_cons {tg : Expr} {tgs : List Expr} {g : D → SD → M SD} {gs : List D → SD → M SD} (h1 : PGm X T E tg g) (h2 : PGsm X T E tgs gs) (hs : (assignEach (tg :: tgs) X.env).map (·.2) = assign tg X.env :: (assignEach tgs X.env).map (·.2)) : PGsm X T E (tg :: tgs) (gsCons g gs) :=
  weakGs (pgs_cons h1 h2 hs) fun vs σ H Q ⟨ρ, hd, sd, ds, r, s, q, h⟩ => by
    cases ds with
    | nil => exact h.elim
    | cons d ds =>
      obtain ⟨v, vs, rfl, q, qs⟩ := q.inv
      refine ⟨v, vs, rfl, ρ, hd, sd, d, r, s, q, ?_⟩
      · have h : Res (gx X T) (WC E) σ (RSt (gx X T)) ρ H ((g d sd >>= gs ds) hd) Q := h
        rw [bind_ap] at h
        cases e : g d sd hd with
        | ok s' hd' =>
          rw [e] at h
          exact fun ρ' H' σ' r' st' q' => ⟨ρ', hd', s', ds, r', q', RVs.mono st' r.muts _ _ qs, h.from st'⟩
        | ex C fs hd' => rw [e] at h; exact h
        | bad => rw [e] at h; exact h
def gTp (n : Nat) (gs : List D → SD → M SD) : D → SD → M SD := fun d s => match d with
  | .tup ds => if ds.length = n then gs ds s else M.bad
  | _ => M.bad
theorem gm_tup {tgs : List Expr} {k n : Nat} {gs : List D → SD → M SD} (hc : X.calm = true) (h : PGsm X T E tgs gs) (hn : (assignEach tgs X.env).length = n) (hst : (assignEach tgs X.env).findIdx? (·.1) = none) : PGm X T E (.Tuple tgs k pos) (gTp n gs) :=
  weakG (pg_tup hc h hn hst) fun v σ H Q ⟨ρ, hd, sd, d, r, s, q, z⟩ => by
    unfold gTp at z
    cases d <;> first | exact z.elim | skip
    rename_i l
    cases q with
    | tup h1 rs =>
      by_cases c : l.length = n
      · simp only [c, if_true] at z
        exact ⟨_, _, rfl, h1, by rw [← rs.len]; exact c, ρ, hd, sd, l, r, s, rs, z⟩
      · simp only [c, if_false] at z; exact z.elim
def mAsg (m : SD → M D) (g : D → SD → M SD) : SD → M Fl := fun s => m s >>= fun d => g d s >>= fun s' => pure (.nx s')
theorem asg_go {m : SD → M D} {g : D → SD → M SD} : ∀ D σ H, tS (gx X T) E (mAsg m g) D σ H → tAsg (tE (gx X T) (WC E) m) (tT' (gx X T) E g) D σ H := fun D σ H h =>
  tG_then (tS_bind (R := RV (gx X T)) (k := fun s d => g d s >>= fun s' => pure (Fl.nx s')) h) fun v H1 ⟨ρ1, hd1, sd1, d, ⟨r, s, q⟩, h1⟩ => by
    refine ⟨ρ1, hd1, sd1, d, r, s, q, ?_⟩
    rw [bind_ap] at h1
    cases e : g d sd1 hd1 with
    | ok s' hd' =>
      rw [e] at h1
      exact fun ρ' H' σ' r' st' q' => h1 ρ' H' σ' r' st' q'
    | ex C fs hd' => rw [e] at h1; exact h1
    | bad => rw [e] at h1; exact h1
theorem sm_asg {tg : Expr} {m : SD → M D} {g : D → SD → M SD} (he : PEm X T (WC E) e m) (hg : PGm X T E tg g) (hs : swapsWithSole [tg] e pos.line X.env = pure false) (hw : swappedStores [tg] e X.env = pure none) (h1 : (assignEach [tg] X.env).map (·.2) = [assign tg X.env]) :
    PSm X T E (.Assign [tg] e pos) (mAsg m g) := weakS (ps_asg he hg hs hw h1) asg_go
/-- o[i] = e -/
def gSb (mo mi : SD → M D) (f : D → D → D → M Unit) : D → SD → M SD := fun v s => mo s >>= fun o => mi s >>= fun i => quiet (f o i v) >>= fun _ => pure s
def Stm (X : Cx) (T : Tb) (t : TSet) (f : D → D → D → M Unit) : Prop := ∀ (ρ : Rg) (hd : DH) (H : Hp) (d e u : D) (x y z : V) (Q : Hp → Prop), Rep (gx X T) ρ hd H → RV (gx X T) ρ H d x → RV (gx X T) ρ H e y → RV (gx X T) ρ H u z →
  (match f d e u hd with
    | .ok _ hd' => ∀ H', Rep (gx X T) ρ hd' H' → Stp ρ H ρ H' → Q H'
    | _ => False) → t x y z H Q
def RVX (G : Gx) : Rg → Hp → D × D → V × V → Prop := fun ρ H a b => RV G ρ H a.1 b.1 ∧ RV G ρ H a.2 b.2
theorem gm_sub {mo mi : SD → M D} {t : TSet} {f : D → D → D → M Unit} (ho : PEm X T (WC E) o mo) (hi : PEm X T (WC E) a mi) (hs : PSet X t) (hf : Stm X T t f)
    (ha : ∀ v, assign (.Subscript o a pos) X.env v = (do
      let ov ← holding [v] (eval o X.env)
      let iv ← holding [v, ov] (eval a X.env)
      standAt pos
      holding [v, ov, iv] (setItem ov iv v)
      release [v, ov, iv] [])) : PGm X T E (.Subscript o a pos) (gSb mo mi f) :=
  weakG (pg_sub ho hi hs ha) fun v σ H Q ⟨ρ, hd, sd, d, r, s, q, h⟩ => by
    have c0 : At (gx X T) σ (RV (gx X T)) ρ hd sd H d v := ⟨r, s, q⟩
    refine tG_then (c0.go (R' := RV (gx X T)) rv_mono (m := mo) (k := fun s o => mi s >>= fun i => quiet (f o i d) >>= fun _ => pure s) (R2 := RSt (gx X T)) h) fun x H1 ⟨ρ1, hd1, sd1, o1, c1, c1', h1⟩ => ?_
    have c2 : At (gx X T) σ (RVX (gx X T)) ρ1 hd1 sd1 H1 (d, o1) (v, x) := ⟨c1.1, c1.2.1, c1.2.2, c1'.2.2⟩
    refine tG_then (c2.go (R' := RV (gx X T)) (fun ρ ρ' H H' a b s m r => ⟨RV.mono s m _ _ r.1, RV.mono s m _ _ r.2⟩) (m := mi) (k := fun s i => quiet (f o1 i d) >>= fun _ => pure s) (R2 := RSt (gx X T)) h1) fun y H2 ⟨ρ2, hd2, sd2, i2, c3, c3', h2⟩ => ?_
    refine hf ρ2 hd2 H2 o1 i2 d x y v _ c3.1 c3.2.2.2 c3'.2.2 c3.2.2.1 ?_
    rw [bind_ap] at h2
    unfold quiet at h2
    cases e : f o1 i2 d hd2 with
    | ok u hd' =>
      rw [e] at h2
      exact fun H' r' st' => h2 ρ2 H' σ r' st' (c3.2.1.mono st' c3.1.muts)
    | ex C fs hd' => rw [e] at h2; exact h2.elim
    | bad => rw [e] at h2; exact h2
end
end Wy

set_option Elab.async false
set_option linter.all false
set_option maxRecDepth 100000
set_option maxHeartbeats 4000000
namespace Wy
open PySem PySem.Spec PyProof.Rows L2

/-! ### what is walked -/
/-- the items, and whether they still are the thing's -/
abbrev Src := List D × (DH → Bool)
def Feeds (G : Gx) (ρ0 : Rg) (H0 : Hp) (x : Src) (J : It) : Prop := ∀ (ρ : Rg) (hd : DH) (H : Hp) (i : Nat), Rep G ρ hd H → Mv ρ0 H0 ρ H → x.2 hd = true →
  (∀ d, x.1[i]? = some d → J.go i H ∧ ∀ v H', J.yld i H v H' → Rep G ρ hd H' ∧ Stp ρ H ρ H' ∧ RV G ρ H' d v) ∧ (x.1[i]? = none → J.stop i H)
abbrev PIm (X : Cx) (T : Tb) (W : WX) (tg it : Expr) (mi : SD → M Src) : Prop := PI X tg it (fun σ H R => tG (gx X T) W (Feeds (gx X T)) mi σ H R)
def loopM (g : D → SD → M SD) (body : SD → M Fl) (chk : DH → Bool) : List D → SD → M Fl
  | [], s => fun h => if chk h = true then .ok (.nx s) h else .bad
  | d :: ds, s => fun h => if chk h = true then (match g d s h with
    | .ok s1 h1 => match body s1 h1 with
      | .ok (.nx s') h' => loopM g body chk ds s' h'
      | .ok (.ct s') h' => loopM g body chk ds s' h'
      | .ok (.bk s') h' => .ok (.nx s') h'
      | .ok (.rt d) h' => .ok (.rt d) h'
      | .ex C fs h' => .ex C fs h'
      | .bad => .bad
    | .ex C fs h' => .ex C fs h'
    | .bad => .bad) else .bad
def mFor (mi : SD → M Src) (g : D → SD → M SD) (body : SD → M Fl) : SD → M Fl := fun s => mi s >>= fun x => loopM g body x.2 x.1 s
theorem drop_some {α : Type} {l : List α} {i : Nat} {x : α} (h : l[i]? = some x) : l.drop i = x :: l.drop (i + 1) := by
  obtain ⟨h1, h2⟩ := List.getElem?_eq_some_iff.mp h
  rw [List.drop_eq_getElem_cons h1, h2]
theorem drop_none {α : Type} {l : List α} {i : Nat} (h : l[i]? = none) : l.drop i = [] := List.drop_eq_nil_iff.mpr (List.getElem?_eq_none_iff.mp h)
section
variable {X : Cx} {T : Tb} {E : XK} {e a b c o : Expr} {es : List Expr} {st : Stmt} {sts : List Stmt} {pos p : Pos}
theorem for_go {mi : SD → M Src} {g : D → SD → M SD} {body : SD → M Fl} : ∀ D σ H, tS (gx X T) E (mFor mi g body) D σ H → tFor (fun σ H R => tG (gx X T) (WC E) (Feeds (gx X T)) mi σ H R) (tT' (gx X T) E g) (tS (gx X T) E body) D σ H := fun D σ H h => by
  refine tG_then (tS_bind (R := Feeds (gx X T)) (k := fun s x => loopM g body x.2 x.1 s) h) fun J H1 ⟨ρ1, hd1, sd1, x, ⟨r1, s1, fd⟩, h1⟩ => ?_
  refine ⟨fun i m σ H => ∃ ρ hd sd, Rep (gx X T) ρ hd H ∧ RSt (gx X T) ρ H sd σ ∧ Stp ρ1 H1 ρ H ∧ m = x.1.length - i ∧ ResS (gx X T) E ρ H (loopM g body x.2 (x.1.drop i) sd hd) D, ⟨_, ρ1, hd1, sd1, r1, s1, .refl, rfl, by simpa using h1⟩, ?_⟩
  rintro i m σ2 H2 ⟨ρ2, hd2, sd2, r2, s2, st2, rfl, h2⟩
  cases ei : x.1[i]? with
  | none =>
    rw [drop_none ei] at h2
    unfold loopM at h2
    by_cases c : x.2 hd2 = true
    · rw [if_pos c] at h2
      exact .inl ⟨(fd ρ2 hd2 H2 i r2 st2.mv c).2 ei, h2 ρ2 H2 σ2 r2 .refl s2⟩
    · rw [if_neg c] at h2; exact h2.elim
  | some d =>
    rw [drop_some ei] at h2
    unfold loopM at h2
    by_cases c : x.2 hd2 = true
    · rw [if_pos c] at h2
      obtain ⟨go, yl⟩ := (fd ρ2 hd2 H2 i r2 st2.mv c).1 d ei
      have hi := (List.getElem?_eq_some_iff.mp ei).1
      refine .inr ⟨go, _, fun σ' H' n => ⟨x.1.length - (i + 1), by omega, n⟩, fun v H3 y => ?_⟩
      obtain ⟨r3, st3, q3⟩ := yl v H3 y
      refine ⟨ρ2, hd2, sd2, d, r3, s2.mono st3 r2.muts, q3, ?_⟩
      cases eg : g d sd2 hd2 with
      | ok s4 hd4 =>
        simp only [eg] at h2
        intro ρ5 H5 σ5 r5 st5 s5
        refine ⟨ρ5, hd4, s4, r5, s5, ?_⟩
        have t5 : Stp ρ2 H2 ρ5 H5 := st3.trans st5
        cases eb : body s4 hd4 with
        | ok f hd6 =>
          simp only [eb] at h2
          cases f with
          | nx s6 => exact fun ρ7 H7 σ7 r7 st7 s7 => ⟨ρ7, hd6, s6, r7, s7, st2.trans (t5.trans st7), rfl, ResS.from (t5.trans st7) h2⟩
          | ct s6 => exact fun ρ7 H7 σ7 r7 st7 s7 => ⟨ρ7, hd6, s6, r7, s7, st2.trans (t5.trans st7), rfl, ResS.from (t5.trans st7) h2⟩
          | bk s6 => exact fun ρ7 H7 σ7 r7 st7 s7 => h2 ρ7 H7 σ7 r7 (t5.trans st7) s7
          | rt d6 => exact fun ρ7 H7 v7 r7 st7 q7 => h2 ρ7 H7 v7 r7 (t5.trans st7) q7
        | ex C fs hd6 =>
          simp only [eb] at h2
          exact fun ρ7 H7 c7 dd r7 st7 q7 => h2 ρ7 H7 c7 dd r7 (t5.trans st7) q7
        | bad => simp only [eb] at h2; exact h2.elim
      | ex C fs hd4 =>
        simp only [eg] at h2
        exact fun ρ7 H7 c7 dd r7 st7 q7 => h2 ρ7 H7 c7 dd r7 (st3.trans st7) q7
      | bad => simp only [eg] at h2; exact h2.elim
    · rw [if_neg c] at h2; exact h2.elim
theorem sm_for {tg it : Expr} {mi : SD → M Src} {g : D → SD → M SD} {body : SD → M Fl} (hp : PassesOwn (model X.prog X.w) X.A X.env X.xe) (hc : X.calm = true) (hi : PIm X T (WC E) tg it mi) (hg : PGm X T E tg g) (hb : PSsm X T E sts body)
    (hs : ∀ x, foldedSetIterable it X.env x = pure x) : PSm X T E (.For tg it sts [] pos) (mFor mi g body) := weakS (ps_for hp hc hi hg hb hs) for_go
/-- while, so many turns at most -/
def whileM (t : SD → M Bool) (body : SD → M Fl) : Nat → SD → M Fl
  | 0, _ => M.bad
  | n + 1, s => t s >>= fun b => if b = true then (body s >>= fun f => match f with
    | .nx s' => whileM t body n s'
    | .ct s' => whileM t body n s'
    | .bk s' => pure (.nx s')
    | .rt d => pure (.rt d)) else pure (.nx s)
theorem while_go {t : SD → M Bool} {body : SD → M Fl} {n : Nat} : ∀ D σ H, tS (gx X T) E (whileM t body n) D σ H → tWhile (tT (gx X T) (WC E) t) (tS (gx X T) E body) D σ H := fun D σ H h => by
  refine ⟨fun m σ H => tS (gx X T) E (whileM t body m) D σ H, ⟨n, h⟩, fun m σ H h => ?_⟩
  cases m with
  | zero => obtain ⟨_, _, _, _, _, h⟩ := h; exact h.elim
  | succ m =>
    refine tG_then (tS_bind (R := RB) (k := fun s b => if b = true then (body s >>= fun f => match f with
    | .nx s' => whileM t body m s'
    | .ct s' => whileM t body m s'
    | .bk s' => pure (.nx s')
    | .rt d => pure (.rt d)) else pure (.nx s)) h) fun b H1 ⟨ρ1, hd1, sd1, b', ⟨r, s, q⟩, h1⟩ => ?_
    obtain rfl : b' = b := q
    cases b' with
    | false => exact h1 ρ1 H1 σ r .refl s
    | true =>
      refine ⟨fun σ' H' => tS (gx X T) E (whileM t body m) D σ' H', fun σ' H' n => ⟨m, Nat.lt_succ_self _, n⟩, ρ1, hd1, sd1, r, s, ?_⟩
      simp only [if_true, bind_ap] at h1
      cases e : body sd1 hd1 with
      | ok f hd2 =>
        rw [e] at h1
        cases f with
        | nx s' => exact fun ρ' H' σ' r' st' q' => ⟨ρ', hd2, s', r', q', ResS.from st' h1⟩
        | ct s' => exact fun ρ' H' σ' r' st' q' => ⟨ρ', hd2, s', r', q', ResS.from st' h1⟩
        | bk s' => exact h1
        | rt d => exact h1
      | ex C fs hd2 => rw [e] at h1; exact h1
      | bad => rw [e] at h1; exact h1
theorem sm_while {t : SD → M Bool} {body : SD → M Fl} {n : Nat} (hp : PassesOwn (model X.prog X.w) X.A X.env X.xe) (ht : PTm X T (WC E) c t) (hb : PSsm X T E sts body) : PSm X T E (.While c sts [] pos) (whileM t body n) := weakS (ps_while hp ht hb) while_go

/-! ### tests -/
variable {W : WX}
def mNot (t : SD → M Bool) : SD → M Bool := fun s => t s >>= fun b => pure (!b)
theorem tm_not {t : SD → M Bool} (h : PTm X T W a t) : PTm X T W (.UnaryOp .Not a pos) (mNot t) :=
  weakT (pt_not h) fun σ H Q h => tG_then (tG_bind (R := RB) (k := fun _ b => pure (!b)) h) fun b H1 ⟨ρ1, hd1, sd1, b', ⟨r, _, q⟩, h1⟩ => by
    obtain rfl : b' = b := q
    exact h1 ρ1 H1 _ r .refl rfl
/-- a row of tests -/
abbrev PWm (X : Cx) (T : Tb) (W : WX) (e : Expr) (m : SD → M Bool) : Prop := PW X e (tT (gx X T) W m)
theorem weakW {t t' : TT} (h : PW X e t) (w : ∀ σ H Q, t' σ H Q → t σ H Q) : PW X e t' := ⟨fun wh pins s σ H Q I q => h.run wh pins s σ H Q I (w _ _ _ q)⟩
def mAndT (t u : SD → M Bool) : SD → M Bool := fun s => t s >>= fun b => if b = true then u s else pure false
def mOrT (t u : SD → M Bool) : SD → M Bool := fun s => t s >>= fun b => if b = true then pure true else u s
theorem wm_and1 {t : SD → M Bool} (h : PTm X T W a t) : PWm X T W (.BoolOp .And [a] pos) t := pw_and1 h
theorem wm_or1 {t : SD → M Bool} (h : PTm X T W a t) : PWm X T W (.BoolOp .Or [a] pos) t := pw_or1 h
theorem wm_and {t u : SD → M Bool} {rest : List Expr} (h1 : PTm X T W a t) (h2 : PWm X T W (.BoolOp .And (b :: rest) pos) u) : PWm X T W (.BoolOp .And (a :: b :: rest) pos) (mAndT t u) :=
  weakW (pw_and h1 h2) fun σ H Q h => tG_then (tG_bind (R := RB) (k := fun s b => if b = true then u s else pure false) h) fun b H1 ⟨ρ1, hd1, sd1, b', ⟨r, s, q⟩, h1⟩ => by
    obtain rfl : b' = b := q
    cases b' with
    | true => exact ⟨ρ1, hd1, sd1, r, s, h1⟩
    | false => exact h1 ρ1 H1 _ r .refl rfl
theorem wm_or {t u : SD → M Bool} {rest : List Expr} (h1 : PTm X T W a t) (h2 : PWm X T W (.BoolOp .Or (b :: rest) pos) u) : PWm X T W (.BoolOp .Or (a :: b :: rest) pos) (mOrT t u) :=
  weakW (pw_or h1 h2) fun σ H Q h => tG_then (tG_bind (R := RB) (k := fun s b => if b = true then pure true else u s) h) fun b H1 ⟨ρ1, hd1, sd1, b', ⟨r, s, q⟩, h1⟩ => by
    obtain rfl : b' = b := q
    cases b' with
    | true => exact h1 ρ1 H1 _ r .refl rfl
    | false => exact ⟨ρ1, hd1, sd1, r, s, h1⟩
/-- an expression's value as a test -/
theorem tm_val {m : SD → M D} (h : PEm X T W e m) (he : ∀ whole, isTrue e X.env whole = (do let v ← whole; standAt e.pos; holding [v] (truthy v))) : PTm X T W e (mTest m) := weakT (pt_val h he) test_go
/-- .. of any kind -/
def truM (d : D) : M Bool := fun h => match d with
  | .non => .ok false h
  | .bl b => .ok b h
  | .int i => .ok (i != 0) h
  | .str z => if z.length ≤ sizeLine then .ok ((z.length : Int) != 0) h else .bad
  | d => match seqOf h d with
    | some l => .ok (!l.isEmpty) h
    | none => .bad
def mTruth (m : SD → M D) : SD → M Bool := fun s => m s >>= truM
theorem tm_truth {m : SD → M D} (h : PEm X T W e m) (he : ∀ whole, isTrue e X.env whole = (do let v ← whole; standAt e.pos; holding [v] (truthy v))) : PTm X T W e (mTruth m) :=
  weakT (pt_truth h he) fun σ H Q h => tG_then (tG_bind (R := RV (gx X T)) (k := fun _ d => truM d) h) fun v H1 ⟨ρ1, hd1, sd1, d, ⟨r, s, q⟩, h1⟩ => by
    unfold truM at h1
    have seq : Res (gx X T) W σ RB ρ1 H1 (match seqOf hd1 d with
        | some l => Re.ok (!l.isEmpty) hd1
        | none => .bad) Q → ∃ k, TruV X.K v H1 k ∧ Q k H1 := fun z => by
      cases e1 : seqOf hd1 d with
      | none => rw [e1] at z; exact z.elim
      | some l =>
        rw [e1] at z
        obtain ⟨p, xs, rfl, hp, rs⟩ := seqOf_rv r q e1
        have ee : (!l.isEmpty) = !xs.isEmpty := by
          have := rs.nil_iff
          cases l <;> cases xs <;> simp_all
        refine ⟨!l.isEmpty, ?_, z ρ1 H1 _ r .refl rfl⟩
        rcases hp with hp | hp
        · exact .inl ⟨xs, hp, ee⟩
        · exact .inr (.inl ⟨xs, hp, ee⟩)
    cases d with
    | non => cases q; exact ⟨_, rfl, h1 ρ1 H1 _ r .refl rfl⟩
    | bl b => cases q; exact ⟨_, rfl, h1 ρ1 H1 _ r .refl rfl⟩
    | int i => cases q; exact ⟨_, rfl, h1 ρ1 H1 _ r .refl rfl⟩
    | str z =>
      cases q
      by_cases c : z.length ≤ sizeLine
      · simp only [c, if_true] at h1
        exact ⟨_, ⟨c, rfl⟩, h1 ρ1 H1 _ r .refl rfl⟩
      · simp only [c, if_false] at h1; exact h1.elim
    | _ => exact seq h1
/-- a if t else b -/
def mIte {α : Type} (t : SD → M Bool) (m k : SD → M α) : SD → M α := fun s => t s >>= fun b => if b = true then m s else k s
theorem em_ite {t : SD → M Bool} {m k : SD → M D} (ht : PTm X T W c t) (h1 : PEm X T W a m) (h2 : PEm X T W b k) : PEm X T W (.IfExp c a b pos) (mIte t m k) :=
  weakE (pe_ifExp ht h1 h2) fun σ H Q h => tG_then (tG_bind (R := RB) (k := fun s b => if b = true then m s else k s) h) fun b H1 ⟨ρ1, hd1, sd1, b', ⟨r, s, q⟩, h1⟩ => by
    obtain rfl : b' = b := q
    cases b' with
    | true => exact ⟨ρ1, hd1, sd1, r, s, h1⟩
    | false => exact ⟨ρ1, hd1, sd1, r, s, h1⟩
/-- and, or, not as values that are truths -/
def mNotV (t : SD → M D) : SD → M D := fun s => t s >>= fun d => match d with
  | .bl b => pure (.bl (!b))
  | _ => M.bad
theorem em_notB {m : SD → M D} (h : PEm X T W a m) : PEm X T W (.UnaryOp .Not a pos) (mNotV m) :=
  weakE (pe_not h) fun σ H Q h => tG_then (tG_bind (R := RV (gx X T)) (k := fun _ d => match d with
  | .bl b => pure (D.bl (!b))
  | _ => M.bad) h) fun v H1 ⟨ρ1, hd1, sd1, d, ⟨r, s, q⟩, h1⟩ => by
    cases d with
    | bl b => cases q; exact ⟨b, rfl, ans r (.bl _) h1⟩
    | _ => exact h1.elim
def mAndV (t u : SD → M D) : SD → M D := fun s => t s >>= fun d => match d with
  | .bl true => u s
  | .bl false => pure (.bl false)
  | _ => M.bad
def mOrV (t u : SD → M D) : SD → M D := fun s => t s >>= fun d => match d with
  | .bl true => pure (.bl true)
  | .bl false => u s
  | _ => M.bad
theorem em_one {op : BoolOp} {m : SD → M D} (h : PEm X T W a m) : PEm X T W (.BoolOp op [a] pos) m := pe_one h
theorem em_and {m k : SD → M D} {rest : List Expr} (h1 : PEm X T W a m) (h2 : PEm X T W (.BoolOp .And (b :: rest) pos) k) : PEm X T W (.BoolOp .And (a :: b :: rest) pos) (mAndV m k) :=
  weakE (pe_and h1 h2) fun σ H Q h => tG_then (tG_bind (R := RV (gx X T)) (k := fun s d => match d with
  | .bl true => k s
  | .bl false => pure (D.bl false)
  | _ => M.bad) h) fun v H1 ⟨ρ1, hd1, sd1, d, ⟨r, s, q⟩, h1⟩ => by
    cases d with
    | bl b => cases q; cases b with
      | true => exact ⟨true, rfl, ρ1, hd1, sd1, r, s, h1⟩
      | false => exact ⟨false, rfl, ans r (.bl _) h1⟩
    | _ => exact h1.elim
theorem em_or {m k : SD → M D} {rest : List Expr} (h1 : PEm X T W a m) (h2 : PEm X T W (.BoolOp .Or (b :: rest) pos) k) : PEm X T W (.BoolOp .Or (a :: b :: rest) pos) (mOrV m k) :=
  weakE (pe_or h1 h2) fun σ H Q h => tG_then (tG_bind (R := RV (gx X T)) (k := fun s d => match d with
  | .bl true => pure (D.bl true)
  | .bl false => k s
  | _ => M.bad) h) fun v H1 ⟨ρ1, hd1, sd1, d, ⟨r, s, q⟩, h1⟩ => by
    cases d with
    | bl b => cases q; cases b with
      | true => exact ⟨true, rfl, ans r (.bl _) h1⟩
      | false => exact ⟨false, rfl, ρ1, hd1, sd1, r, s, h1⟩
    | _ => exact h1.elim
end
end Wy

set_option Elab.async false
set_option linter.all false
set_option maxRecDepth 100000
set_option maxHeartbeats 4000000
namespace Wy
open PySem PySem.Spec PyProof.Rows L2

/-! ### enumerate of a tuple -/
section
open PySem.Builtin
set_option maxHeartbeats 2000000 in
theorem enum_new1 {v : Value} {o : Obj} {Hh : Heap → Prop} (B : Begins v o Hh) :
    Meets (Builtin.«enumerate.__new__» ⟨[.type "enumerate", v], []⟩) (fun _ R s => Hh s.heap ∧
      R (.ok (.ret (.ref (s.heap.push o).objs.size))) { s with heap := (s.heap.push o).push { cls := .type "enumerate", data := .fields #[.none, .bool false, .ref s.heap.objs.size, rawInt 0, .none, .none] } }) :=
  .of_wp fun prog w A R s h => by
    obtain ⟨hp, g, d, tk, os⟩ := s
    obtain ⟨h1, h⟩ := h
    have hsub := sub_enumerate
    have q1 : ∀ {A' : Around} {E : Value → Shared → Prop} {Q : Value → Shared → Prop}, Q (.ref hp.objs.size) ⟨hp.push o, g, d, tk, os⟩ → wpAny (model prog w) A' (pyIter v) Q E ⟨hp, g, d, tk, os⟩ := fun q => B.iter prog w _ _ ⟨hp, g, d, tk, os⟩ _ h1 q
    wp_walk using q1
    refine wpAny_stack_any fun st => wpAny_pure ?_
    split
    · rename_i c _ _ _ _ _
      cases (c == Value.type "enumerate") <;> (wp_walk using q1; exact ⟨_, rfl, h⟩)
    · wp_walk using q1
      exact ⟨_, rfl, h⟩
theorem enum_call1 {prog : Program} {w : World} {A : Around} {E : Value → Shared → Prop} {s : Shared} {v : Value} {o : Obj} {Hh : Heap → Prop} {Q : Value → Shared → Prop} (B : Begins v o Hh) (h1 : Hh s.heap)
    (h : ∀ h', IsEnum h' (s.heap.objs.size + 1) s.heap.objs.size 0 .none → h'.get? s.heap.objs.size = some o → (∀ b o, s.heap.get? b = some o → h'.get? b = some o) → Q (.ref (s.heap.objs.size + 1)) { s with heap := h' }) :
    wpAny (model prog w) A (call (.type "enumerate") [v]) Q E s := by
  refine callType_new F.called_enumerate (by decide) (F.typeCall_enumerate_1 _) (F.newCall_enumerate_1 _) (fun obj => F.args_object_init_2 obj _) F.entry_enumerate_new (enum_new1 B) ⟨h1, ?_⟩
  have hz : (s.heap.push o).objs.size = s.heap.objs.size + 1 := Heap.size_push ..
  show _ ∧ _
  rw [hz]
  have he : IsEnum ((s.heap.push o).push { cls := .type "enumerate", data := .fields #[.none, .bool false, .ref s.heap.objs.size, rawInt 0, .none, .none] }) (s.heap.objs.size + 1) s.heap.objs.size 0 .none := by
    have q := Heap.get?_push_size (s.heap.push o) (o := { cls := .type "enumerate", data := .fields #[.none, .bool false, .ref s.heap.objs.size, rawInt 0, .none, .none] }) rfl
    rw [hz] at q
    exact q
  exact ⟨⟨_, he, rfl⟩, h _ he (Heap.get?_push_of_some _ (Heap.get?_push_size _ B.free)) fun b o x => Heap.get?_push_of_some _ (Heap.get?_push_of_some _ x)⟩
end
/-- the turns over a tuple, with their numbers -/
def IteT (K : PySem.W.Frag) (a : Addr) : It :=
  ⟨fun i H => ∃ (xs : List V) (x : V), SqT K H a xs ∧ xs[i]? = some x, fun i H v H' => ∃ T x, v = .ref T ∧ H T = none ∧ H' = upd H T (.tup [.int (i : Nat), x]) ∧ ∀ xs, SqT K H a xs → xs[i]? = some x, fun i H => ∃ xs : List V, SqT K H a xs ∧ xs.length ≤ i⟩
theorem turn_enumT {P : Program} {w : World} {K : PySem.W.Frag} {elts : List Expr} {kk : Nat} {tpos : Pos} (a e it : Addr) :
    Turn P w K (.Tuple elts kk tpos) (IteT K a) [e, it] e (fun i h => (∃ old, IsEnum h e it ((i : Nat) : Int) old) ∧ h.IsTupleIter it a i ∧ e ≠ it) where
  mem := by simp
  obj := fun i h st b hb => by
    obtain ⟨⟨old, he⟩, ⟨o, ho, hc, hd⟩, _⟩ := st
    have e' : b = e ∨ b = it := by simpa using hb
    rcases e' with rfl | rfl
    · exact ⟨_, he, fun v q => nomatch q⟩
    · exact ⟨o, ho, fun v q => by rw [hd] at q; cases q⟩
  keep := fun i h h' st k => by
    obtain ⟨⟨old, he⟩, hi, hne⟩ := st
    exact ⟨⟨old, k e (by simp) _ he⟩, hi.at fun o q => k it (by simp) o q, hne⟩
  item := by
    intro X hP hw hK hc i pins s σ H E I hf st hg
    subst hP; subst hw; subst hK
    obtain ⟨⟨old, he⟩, hit, hne⟩ := st
    obtain ⟨xs, x, hq, hx⟩ := hg
    obtain ⟨its, rv, p, hz⟩ := I.tuple hq
    obtain ⟨u, hu, ru⟩ := rv.get hx
    have hel : e < s.heap.objs.size := Heap.lt_size he
    have hil : it < s.heap.objs.size := by obtain ⟨_, q, _⟩ := hit; exact Heap.lt_size q
    have ti : s.heap.IsTuple a its.toArray := p
    have nai : a ≠ it := fun z => by
      obtain ⟨o1, q1, c1, _⟩ := ti
      obtain ⟨o2, q2, c2, _⟩ := hit
      rw [z, q2] at q1; cases q1
      exact absurd (Value.type.inj (c2.symm.trans c1)) (by decide)
    have nae : e ∉ [it, a] := fun z => by
      rcases List.mem_cons.mp z with z | z
      · exact hne z
      · have z : e = a := by simpa using z
        obtain ⟨o1, q1, c1, _⟩ := ti
        have q2 : s.heap.get? e = _ := he
        rw [z, q1] at q2; cases q2
        exact absurd (Value.type.inj c1) (by decide)
    have hn : i < its.toArray.size := by
      have := (List.getElem?_eq_some_iff.mp hu).1
      simpa using this
    refine wpAny_pyNext_enum_itemD (Draws.tuple (A := X.A.in1) (show X.A.in1.handled = none from I.ok.hd hc) it a nai its.toArray) he ⟨hit, ti⟩ hn hne nae fun y h' tk hy ho hit' hT hsz hk => ?_
    have ey : y = u := by
      rw [show its.toArray[i]? = its[i]? by simp] at hy
      rw [hy] at hu
      exact Option.some.inj hu
    subst ey
    refine ⟨_, rfl, wpAny_letOwnedTupleGo_enum (s := { s with heap := h', toks := tk + 1 }) ho fun h'' he' sb => ?_⟩
    have hT2 : h''.get? s.heap.objs.size = some { cls := .type "tuple", data := .seq #[.int i tk, y] } := (sb.2 _ (Nat.ne_of_gt hel)).trans hT
    have new : ObjOk X.prog X.w (upd H s.heap.objs.size (.tup [.int (i : Nat), x])) h'' s.heap.objs.size (.tup [.int (i : Nat), x]) :=
      ⟨by show 2 ≤ sizeLine; decide, [.int i tk, y], .cons ⟨_, rfl⟩ (.cons ru .nil), ⟨_, hT2, rfl, _, rfl⟩⟩
    have I1 : Inv X pins σ (upd H s.heap.objs.size (.tup [.int (i : Nat), x])) { s with heap := h'', toks := tk + 1 } :=
      I.turnedNew (ch := [e, it]) (fun b ob hb q => (sb.2 b (fun z => hb (by simp [z]))).trans (hk b ob (fun z => hb (by simp [z])) (fun z => hb (by simp [z])) q)) hf (Nat.le_refl _) new
    refine ⟨.ref s.heap.objs.size, _, I1, rfl, ⟨_, x, rfl, I.hok.fresh (Nat.le_refl _), rfl, fun ys hy => by rw [I.tuple_inj hy hq]; exact hx⟩, ⟨⟨y, ?_⟩, hit'.1.at fun o q => (sb.2 it (Ne.symm hne)).trans q, hne⟩, fun b hb => ?_⟩
    · have e1 : ((i + 1 : Nat) : Int) = (i : Int) + 1 := by omega
      rw [e1]
      exact he'
    · have e' : b = e ∨ b = it := by simpa using hb
      have hb' : b < s.heap.objs.size := by rcases e' with z | z <;> (rw [z]; assumption)
      rw [upd_ne (Nat.ne_of_lt hb')]
      exact (hf b hb).1
  done := by
    intro X hP hw hK hc i pins s σ H E I hf st hg
    subst hP; subst hw; subst hK
    obtain ⟨⟨old, he⟩, hit, hne⟩ := st
    obtain ⟨xs, hq, hx⟩ := hg
    obtain ⟨its, rv, p, hz⟩ := I.tuple hq
    obtain ⟨f0, f1, f2, f3, f4, f5⟩ := hf it (by simp)
    have ti : s.heap.IsTuple a its.toArray := p
    have nai : a ≠ it := fun z => by
      obtain ⟨o1, q1, c1, _⟩ := ti
      obtain ⟨o2, q2, c2, _⟩ := hit
      rw [z, q2] at q1; cases q1
      exact absurd (Value.type.inj (c2.symm.trans c1)) (by decide)
    have hT : s.TypeIs (.ref e) "enumerate" := ⟨_, he, rfl⟩
    unfold pyNext
    refine wpAny_bind (wpAny_attempt (wpAny_callSpecial?_slot (name := Str.ofString "__next__") hT F.slot_enumerate_next (wpAny_call_entry F.slot_enumerate_next hT F.entry_enumerate_next ?_ (F.args_enumerate_next_1 _))))
    show wpAny _ _ (field (.ref e) 2 >>= _) _ _ _
    refine wpAny_bind (wpAny_field he rfl (x := .ref it) rfl ?_)
    refine wpAny_bind (wpAny_nextOf_tuple_end (I.ok.hd hc) hit ti (by simp; have := rv.length; omega) fun h' x he' hx' => ?_)
    obtain ⟨o, ho, hcl⟩ := hx'
    refine wpAny_bind (wpAny_isInstance (T := "StopIteration") (b := true) ⟨o, ho, hcl⟩ isSubtype_stop ?_)
    exact wpAny_pure ⟨rfl, I.turned (t' := s.toks) (fun b o hb q => he' b o hb q) f0 f1 f3 f4 f5⟩
  self := fun A i s Q E st h => by
    obtain ⟨⟨_, he⟩, _⟩ := st
    exact wpAny_pyIter_enum he h
def iEnumA (K : PySem.W.Frag) (ta : TA) : TI := fun σ H R => ta σ H fun vs H1 => ∃ a, vs = [.ref a] ∧ (((∃ xs, SqL K H1 a xs) ∧ R (Ite K a) H1) ∨ ((∃ xs, SqT K H1 a xs) ∧ R (IteT K a) H1))
theorem pi_enumA {X : Cx} {e : Expr} {ta : TA} {p pos tpos : Pos} {elts : List Expr} {kk : Nat} (hg : Gl X "enumerate") (hm : X.mg "enumerate" = none) (ha : PA X [e] ta) (hs : starEach [e] X.env = [(false, eval e X.env)]) :
    PI X (.Tuple elts kk tpos) (.Call (.Name "enumerate" p) [e] [] pos) (iEnumA X.K ta) := by
  refine ⟨fun pins s σ H R I h => ?_⟩
  refine Call_ (ld_blt I hg hm boot_enumerate (PyProof.Rows.callWith_type1 (thn (ha.run pos pins s σ H _ I h) fun us s1 ⟨vs, H1, I1, r1, a, ex, q1⟩ => ?_) hs rfl))
  subst ex
  cases r1 with
  | cons r rr =>
    cases rr; cases r
    have hfp : ∀ (h' : Heap), (∀ b o, s1.heap.get? b = some o → h'.get? b = some o) → ∀ b ∈ [s1.heap.objs.size + 1, s1.heap.objs.size], FpOk X pins H1 b := fun h' hk b hb => by
      have hle : s1.heap.objs.size ≤ b := by
        have e' : b = s1.heap.objs.size + 1 ∨ b = s1.heap.objs.size := by simpa using hb
        omega
      exact I1.fpOk hle (I1.hok.fresh hle)
    rcases q1 with ⟨⟨xs, hq⟩, q⟩ | ⟨⟨xs, hq⟩, q⟩
    · obtain ⟨its, rv, p', hz⟩ := I1.list hq
      refine call_enumerate_list p'.isList fun h' he hit hsz hk => wpAny_pyIter_enum he ?_
      exact ⟨s1.heap.objs.size + 1, [s1.heap.objs.size + 1, s1.heap.objs.size], _, _, H1, rfl, I1.kept (t' := s1.toks) hk, turn_enum a (s1.heap.objs.size + 1) s1.heap.objs.size, ⟨⟨.none, he⟩, hit, Nat.succ_ne_self _⟩, hfp h' hk, q⟩
    · obtain ⟨its, rv, p', hz⟩ := I1.tuple hq
      refine enum_call1 (begins_tuple a its.toArray) p' fun h' he hit hk => wpAny_pyIter_enum he ?_
      exact ⟨s1.heap.objs.size + 1, [s1.heap.objs.size + 1, s1.heap.objs.size], _, _, H1, rfl, I1.kept (t' := s1.toks) hk, turn_enumT a (s1.heap.objs.size + 1) s1.heap.objs.size, ⟨⟨.none, he⟩, ⟨_, hit, rfl, rfl⟩, Nat.succ_ne_self _⟩, hfp h' hk, q⟩
end Wy

set_option Elab.async false
set_option linter.all false
set_option maxRecDepth 100000
set_option maxHeartbeats 4000000
namespace Wy
open PySem PySem.Spec PyProof.Rows L2

/-! ### sources -/
def iSeq (K : PySem.W.Frag) (tl : TE) : TI := fun σ H R => tl σ H fun x H1 => ∃ a, x = .ref a ∧ (((∃ xs, SqL K H1 a xs) ∧ R (Itl K a) H1) ∨ ((∃ xs, SqT K H1 a xs) ∧ R (Itt K a) H1))
section
variable {X : Cx} {T : Tb} {W : WX} {e a b c o tg : Expr} {es : List Expr} {pos p : Pos}
theorem pi_seq {l : Expr} {tl : TE} (hl : PE X l tl) : PI X tg l (iSeq X.K tl) := by
  refine ⟨fun pins s σ H R I h => thn (hl.run pins s σ H _ I h) fun v s1 ⟨x, H1, I1, r1, a, ex, q1⟩ => ?_⟩
  subst ex
  cases r1
  have hfp : ∀ b ∈ [s1.heap.objs.size], FpOk X pins H1 b := fun b hb => by
    obtain rfl : b = s1.heap.objs.size := by simpa using hb
    exact I1.fpOk (Nat.le_refl _) (I1.hok.fresh (Nat.le_refl _))
  rcases q1 with ⟨⟨xs, hq⟩, q⟩ | ⟨⟨xs, hq⟩, q⟩
  · obtain ⟨its, rv, p', hz⟩ := I1.list hq
    refine wpAny_pyIter_list p'.isList ?_
    exact ⟨_, [s1.heap.objs.size], _, _, H1, rfl, I1.kept (t' := s1.toks) fun b o e => Heap.get?_push_of_some _ e, turn_list a _, ⟨_, Heap.get?_push_size _ rfl, rfl, rfl⟩, hfp, q⟩
  · obtain ⟨its, rv, p', hz⟩ := I1.tuple hq
    refine wpAny_pyIter_tuple (show s1.heap.IsTuple a its.toArray from p') ?_
    exact ⟨_, [s1.heap.objs.size], _, _, H1, rfl, I1.kept (t' := s1.toks) fun b o e => Heap.get?_push_of_some _ e, turn_tuple a _, ⟨_, Heap.get?_push_size _ rfl, rfl, rfl⟩, hfp, q⟩
theorem weakI {it : Expr} {t t' : TI} (h : PI X tg it t) (w : ∀ σ H R, t' σ H R → t σ H R) : PI X tg it t' := ⟨fun pins s σ H R I q => h.run pins s σ H R I (w _ _ _ q)⟩
/-- the thing still is the same sequence -/
def stays (d : D) (l : List D) (h : DH) : Bool := match seqOf h d with
  | some l' => D.beqs l' l
  | none => false
theorem stays_eq {d : D} {l : List D} {h : DH} (e : stays d l h = true) : seqOf h d = some l := by
  unfold stays at e
  cases c : seqOf h d with
  | none => rw [c] at e; cases e
  | some l' => rw [c] at e; rw [D.eqs_of _ _ e]
theorem stays_of {d : D} {l : List D} {h : DH} (e : seqOf h d = some l) : stays d l h = true := by
  unfold stays
  rw [e]
  exact D.beqs_self l
theorem seq_kind (d : D) : (∃ l, d = .tup l) ∨ ∀ h, seqOf h d = rlistOf h d := by
  cases d <;> first | exact .inl ⟨_, rfl⟩ | exact .inr fun _ => rfl
def seqSrc (d : D) : M Src := fun h => match seqOf h d with
  | some l => .ok (l, stays d l) h
  | none => .bad
def srcSeq (m : SD → M D) : SD → M Src := fun s => m s >>= seqSrc
theorem im_seq {l : Expr} {m : SD → M D} (hl : PEm X T W l m) : PIm X T W tg l (srcSeq m) :=
  weakI (pi_seq hl) fun σ H R h => by
    refine tG_then (tG_bind (R := RV (gx X T)) (k := fun _ d => seqSrc d) h) fun v H1 ⟨ρ1, hd1, sd1, d, ⟨r, st, q⟩, h1⟩ => ?_
    unfold seqSrc at h1
    cases e1 : seqOf hd1 d with
    | none => rw [e1] at h1; exact h1.elim
    | some l =>
      rw [e1] at h1
      have m1 := r.muts
      rcases seq_kind d with ⟨l', rfl⟩ | hk
      · cases e1
        cases q with
        | tup hs rs =>
          refine ⟨_, rfl, .inr ⟨⟨_, hs⟩, h1 ρ1 H1 _ r .refl fun ρ hd H i r2 mv ck => ?_⟩⟩
          have hs2 := mv.sqT m1 hs
          have rs2 := RVs.mv mv m1 _ _ rs
          refine ⟨fun d ed => ?_, fun ed => ⟨_, hs2, by rw [← rs2.len]; exact List.getElem?_eq_none_iff.mp ed⟩⟩
          obtain ⟨y, ey, ry⟩ := rs2.get ed
          refine ⟨⟨_, y, hs2, ey⟩, fun v H' ⟨e', f'⟩ => ?_⟩
          subst e'
          cases (f' _ hs2).symm.trans ey
          exact ⟨r2, .refl, ry⟩
      · rw [hk] at e1
        obtain ⟨a, xs, rfl, hs, rs⟩ := rlistOf_rv r q e1
        refine ⟨a, rfl, .inl ⟨⟨xs, hs⟩, h1 ρ1 H1 _ r .refl fun ρ hd H i r2 mv ck => ?_⟩⟩
        have q2 := RV.mv mv m1 _ _ q
        have e3 := stays_eq ck
        rw [hk] at e3
        obtain ⟨a', ys, e2, hs2, rs2⟩ := rlistOf_rv r2 q2 e3
        cases e2
        refine ⟨fun d ed => ?_, fun ed => ⟨ys, hs2, by rw [← rs2.len]; exact List.getElem?_eq_none_iff.mp ed⟩⟩
        obtain ⟨y, ey, ry⟩ := rs2.get ed
        refine ⟨⟨ys, y, hs2, ey⟩, fun v H' ⟨e', f'⟩ => ?_⟩
        subst e'
        cases (f' ys hs2).symm.trans ey
        exact ⟨r2, .refl, ry⟩
/-- enumerate -/
def numbered (l : List D) : List D := l.zipIdx.map fun x => .tup [.int (x.2 : Nat), x.1]
theorem numbered_get {l : List D} {i : Nat} : (numbered l)[i]? = (l[i]?).map fun d => D.tup [.int (i : Nat), d] := by
  unfold numbered
  rw [List.getElem?_map, List.getElem?_zipIdx]
  cases l[i]? <;> simp
def enumSrc (ds : List D) : M Src := fun h => match ds with
  | [d] => match seqOf h d with
    | some l => .ok (numbered l, stays d l) h
    | none => .bad
  | _ => .bad
def srcEnum (ml : SD → M (List D)) : SD → M Src := fun s => ml s >>= enumSrc
theorem im_enum {ml : SD → M (List D)} {elts : List Expr} {kk : Nat} {tpos : Pos} (hg : Gl X "enumerate") (hm : X.mg "enumerate" = none) (ha : PAm X T W [e] ml) (hs : starEach [e] X.env = [(false, eval e X.env)]) : PIm X T W (.Tuple elts kk tpos) (.Call (.Name "enumerate" p) [e] [] pos) (srcEnum ml) :=
  weakI (pi_enumA hg hm ha hs) fun σ H R h => by
    refine tG_then (tG_bind (R := RVs (gx X T)) (k := fun _ ds => enumSrc ds) h) fun vs H1 ⟨ρ1, hd1, sd1, ds, ⟨r, st, q⟩, h1⟩ => ?_
    unfold enumSrc at h1
    match ds, q, h1 with
    | [], _, h1 => exact h1.elim
    | _ :: _ :: _, _, h1 => exact h1.elim
    | [d], qs, h1 =>
      obtain ⟨v, rfl, q1⟩ := qs.one
      clear q
      have q := q1
      clear q1
      cases e1 : seqOf hd1 d with
      | none => simp only [e1] at h1; exact h1.elim
      | some l =>
        simp only [e1] at h1
        have m1 := r.muts
        have pair : ∀ {ρ : Rg} {hd : DH} {H : Hp} {xs : List V} {i : Nat} {d : D}, Rep (gx X T) ρ hd H → RVs (gx X T) ρ H l xs → (numbered l)[i]? = some d → ∃ d' y, d = .tup [.int (i : Nat), d'] ∧ xs[i]? = some y ∧
            ∀ p, H p = none → Rep (gx X T) ρ hd (upd H p (.tup [.int (i : Nat), y])) ∧ Stp ρ H ρ (upd H p (.tup [.int (i : Nat), y])) ∧ RV (gx X T) ρ (upd H p (.tup [.int (i : Nat), y])) d (.ref p) := fun {ρ hd H xs i d} r rs ed => by
          rw [numbered_get] at ed
          obtain ⟨d', e2, rfl⟩ := Option.map_eq_some_iff.mp ed
          obtain ⟨y, ey, ry⟩ := rs.get e2
          exact ⟨d', y, rfl, ey, fun p hp => ⟨r.laid hp, .laid hp, .tup (.of upd_same) (.cons (.int _) (.cons (RV.mono (.laid hp) r.muts _ _ ry) .nil)) fun z => by simp [pairsD, D.isPair] at z⟩⟩
        have stop : ∀ {i : Nat}, (numbered l)[i]? = none → l.length ≤ i := fun {i} ed => by
          rw [numbered_get] at ed
          exact List.getElem?_eq_none_iff.mp (Option.map_eq_none_iff.mp ed)
        rcases seq_kind d with ⟨l', rfl⟩ | hk
        · cases e1
          cases q with
          | tup hs rs =>
            refine ⟨_, rfl, .inr ⟨⟨_, hs⟩, h1 ρ1 H1 _ r .refl fun ρ hd H i r2 mv ck => ?_⟩⟩
            have hs2 := mv.sqT m1 hs
            have rs2 := RVs.mv mv m1 _ _ rs
            refine ⟨fun d ed => ?_, fun ed => ⟨_, hs2, by rw [← rs2.len]; exact stop ed⟩⟩
            obtain ⟨d', y, rfl, ey, fin⟩ := pair r2 rs2 ed
            refine ⟨⟨_, y, hs2, ey⟩, fun v H' ⟨p, z, e', hp, eh, f'⟩ => ?_⟩
            subst e'
            cases (f' _ hs2).symm.trans ey
            subst eh
            exact fin p hp
        · rw [hk] at e1
          obtain ⟨a, xs, rfl, hs, rs⟩ := rlistOf_rv r q e1
          refine ⟨a, rfl, .inl ⟨⟨xs, hs⟩, h1 ρ1 H1 _ r .refl fun ρ hd H i r2 mv ck => ?_⟩⟩
          have q2 := RV.mv mv m1 _ _ q
          have e3 := stays_eq ck
          rw [hk] at e3
          obtain ⟨a', ys, e2, hs2, rs2⟩ := rlistOf_rv r2 q2 e3
          cases e2
          refine ⟨fun d ed => ?_, fun ed => ⟨ys, hs2, by rw [← rs2.len]; exact stop ed⟩⟩
          obtain ⟨d', y, rfl, ey, fin⟩ := pair r2 rs2 ed
          refine ⟨⟨ys, y, hs2, ey⟩, fun v H' ⟨p, z, e', hp, eh, f'⟩ => ?_⟩
          subst e'
          cases (f' ys hs2).symm.trans ey
          subst eh
          exact fin p hp
/-- range -/
def count (lo : Int) (n : Nat) : List D := (List.range n).map fun (i : Nat) => D.int (lo + i)
theorem count_get {lo : Int} {n i : Nat} {d : D} : (count lo n)[i]? = some d ↔ i < n ∧ d = .int (lo + i) := by
  unfold count
  rw [List.getElem?_map]
  by_cases c : i < n
  · rw [List.getElem?_range c]
    simp [c, eq_comm]
  · rw [List.getElem?_eq_none (by simpa using c)]
    simp [c]
theorem feeds_range {G : Gx} {ρ : Rg} {H : Hp} {lo : Int} {n : Nat} {ck : DH → Bool} : Feeds G ρ H (count lo n, ck) (Itr lo n) := fun ρ2 hd2 H2 i r2 mv _ => by
  refine ⟨fun d ed => ?_, fun ed => ?_⟩
  · obtain ⟨h1, rfl⟩ := count_get.mp ed
    refine ⟨h1, fun v H' ⟨e1, e2⟩ => ?_⟩
    subst e1; subst e2
    exact ⟨r2, .refl, .int _⟩
  · show n ≤ i
    have : ¬ i < n := fun c => by
      have := count_get.mpr ⟨c, (rfl : (D.int (lo + i)) = .int (lo + i))⟩
      rw [ed] at this; cases this
    omega
def fine (i : Int) : Prop := -(2 ^ 62) ≤ i ∧ i < 2 ^ 62
instance {i : Int} : Decidable (fine i) := by unfold fine; infer_instance
def rngSrc (ds : List D) : M Src := match ds with
  | [.int j] => if fine j then pure (count 0 j.toNat, fun _ => true) else M.bad
  | [.int i, .int j] => if fine i ∧ fine j then pure (count i (j - i).toNat, fun _ => true) else M.bad
  | _ => M.bad
def srcRng (ml : SD → M (List D)) : SD → M Src := fun s => ml s >>= rngSrc
theorem im_rng1 {ml : SD → M (List D)} (hg : Gl X "range") (hm : X.mg "range" = none) (ha : PAm X T W [a] ml) (l : Len 1 ml) (hs : starEach [a] X.env = [(false, eval a X.env)]) : PIm X T W tg (.Call (.Name "range" p) [a] [] pos) (srcRng ml) :=
  weakI (pi_range1 hg hm ha hs) fun σ H R h => by
    refine tG_then (tG_bind' (R := RVs (gx X T)) (k := fun _ ds => rngSrc ds) h) fun vs H1 ⟨ρ1, hd1, sd1, ds, ⟨r, st, q⟩, ⟨h0, e0⟩, h1⟩ => ?_
    have hl := l _ _ _ _ e0
    match ds, q, hl, h1 with
    | [d], qs, hl, h1 =>
      obtain ⟨v, rfl, q⟩ := qs.one
      clear hl
      cases d <;> first | exact h1.elim | skip
      rename_i j
      cases q
      unfold rngSrc at h1
      by_cases c : fine j
      · simp only [c, if_true] at h1
        exact ⟨j, rfl, c.1, c.2, h1 ρ1 H1 _ r .refl feeds_range⟩
      · simp only [c, if_false] at h1; exact h1.elim
theorem im_rng2 {ml : SD → M (List D)} (hg : Gl X "range") (hm : X.mg "range" = none) (ha : PAm X T W [a, b] ml) (l : Len 2 ml) (hs : starEach [a, b] X.env = [(false, eval a X.env), (false, eval b X.env)]) (hs2 : starEach [b] X.env = [(false, eval b X.env)]) : PIm X T W tg (.Call (.Name "range" p) [a, b] [] pos) (srcRng ml) :=
  weakI (pi_range2 hg hm ha hs hs2) fun σ H R h => by
    refine tG_then (tG_bind' (R := RVs (gx X T)) (k := fun _ ds => rngSrc ds) h) fun vs H1 ⟨ρ1, hd1, sd1, ds, ⟨r, st, q⟩, ⟨h0, e0⟩, h1⟩ => ?_
    have hl := l _ _ _ _ e0
    match ds, q, hl, h1 with
    | [d, d'], qs, hl, h1 =>
      clear hl
      obtain ⟨v, u, rfl, q, q'⟩ := qs.two
      cases d <;> first | exact h1.elim | skip
      cases d' <;> first | exact h1.elim | skip
      rename_i i j
      cases q; cases q'
      unfold rngSrc at h1
      by_cases c : fine i ∧ fine j
      · simp only [c, and_self, if_true] at h1
        exact ⟨i, j, rfl, ⟨c.1.1, c.1.2, c.2.1, c.2.2⟩, h1 ρ1 H1 _ r .refl feeds_range⟩
      · simp only [c, if_false] at h1; exact h1.elim
end
end Wy

set_option Elab.async false
set_option linter.all false
set_option maxRecDepth 100000
set_option maxHeartbeats 4000000
namespace Wy
open PySem PySem.Spec PyProof.Rows L2

/-! ### comprehensions -/
mutual
inductive CT where
  | nm (i : Nat)
  | tp (l : CTs)
inductive CTs where
  | nil
  | cons (a : CT) (l : CTs)
end
def CTs.len : CTs → Nat
  | .nil => 0
  | .cons _ l => l.len + 1
mutual
def gOf (K : PySem.W.Frag) : CT → TG
  | .nm i => gName i
  | .tp l => gTup K l.len (gsOf K l)
def gsOf (K : PySem.W.Frag) : CTs → TGs
  | .nil => gNil
  | .cons a l => gCons (gOf K a) (gsOf K l)
end
mutual
def CT.slots : CT → List Nat
  | .nm i => [i]
  | .tp l => l.slots
def CTs.slots : CTs → List Nat
  | .nil => []
  | .cons a l => a.slots ++ l.slots
end
mutual
def bindT : CT → D → SD → Option SD
  | .nm i, d, s => some (s.set i (some d))
  | .tp l, .tup ds, s => bindTs l ds s
  | .tp _, _, _ => none
def bindTs : CTs → List D → SD → Option SD
  | .nil, [], s => some s
  | .cons a l, d :: ds, s => match bindT a d s with
    | some s' => bindTs l ds s'
    | none => none
  | _, _, _ => none
end
def wipeD (s : SD) : List Nat → SD
  | [] => s
  | v :: vs => (wipeD s vs).set v none
theorem wipe_set' {σ : L2.St} {i : Nat} {x : Option V} : ∀ vs : List Nat, wipe (σ.set i x) vs = if i ∈ vs then wipe σ vs else (wipe σ vs).set i x
  | [] => by simp [wipe]
  | v :: vs => by
    unfold wipe
    rw [wipe_set' vs]
    by_cases h : i ∈ vs
    · simp [h]
    · by_cases e : i = v
      · subst e; simp [h]
      · simp only [h, if_false, List.mem_cons, e, false_or]
        rw [List.set_comm _ _ (fun z => e z)]
theorem wipe_set {σ : L2.St} {i : Nat} {x : Option V} {vs : List Nat} (h : i ∈ vs) : wipe (σ.set i x) vs = wipe σ vs := by rw [wipe_set', if_pos h]
theorem wipe_sub {σ : L2.St} {vs : List Nat} : ∀ us : List Nat, (∀ i ∈ us, i ∈ vs) → wipe (wipe σ us) vs = wipe σ vs
  | [], _ => rfl
  | u :: us, h => by
    show wipe ((wipe σ us).set u none) vs = _
    rw [wipe_set (h u (by simp)), wipe_sub us fun i hi => h i (by simp [hi])]
section
variable {G : Gx} {ρ : Rg} {H : Hp} {hd : DH}
theorem RSt.wipe {sd : SD} {σ : L2.St} (r : RSt G ρ H sd σ) : ∀ vs : List Nat, RSt G ρ H (wipeD sd vs) (L2.wipe σ vs)
  | [] => r
  | v :: vs => by
    have ih := RSt.wipe r vs
    unfold wipeD L2.wipe
    refine ⟨by simp [ih.1], fun i d e => ?_⟩
    by_cases c : i = v
    · subst c
      by_cases hi : i < (wipeD sd vs).length
      · rw [List.getElem?_set_self hi] at e; cases e
      · rw [List.getElem?_eq_none (by simpa using hi)] at e; cases e
    · rw [List.getElem?_set_ne (Ne.symm c)] at e ⊢
      exact ih.2 i d e
mutual
theorem bnd {K : PySem.W.Frag} (hK : G.K = K) {vs : List Nat} : ∀ (t : CT) (d : D) (v : V) (sd sd' : SD) (σ : L2.St) (Q : L2.St → Hp → Prop), (∀ i ∈ t.slots, i ∈ vs) → RSt G ρ H sd σ → RV G ρ H d v → bindT t d sd = some sd' →
    (∀ σ', RSt G ρ H sd' σ' → wipe σ' vs = wipe σ vs → Q σ' H) → gOf K t v σ H Q
  | .nm i, d, v, sd, sd', σ, Q, hs, r, q, e, fin => by
    unfold bindT at e
    cases e
    unfold gOf
    exact fin _ (r.set q) (wipe_set (hs i (by simp [CT.slots])))
  | .tp l, d, v, sd, sd', σ, Q, hs, r, q, e, fin => by
    cases d <;> first | (simp [bindT] at e; done) | skip
    rename_i ds
    unfold bindT at e
    cases q with
    | tup h rs =>
      unfold gOf
      exact ⟨_, _, rfl, by rw [← hK]; exact h, by rw [← rs.len]; exact bnd_len l ds sd sd' e, bnds hK l ds _ sd sd' σ Q (by simpa [CT.slots] using hs) r rs e fin⟩
theorem bnds {K : PySem.W.Frag} (hK : G.K = K) {vs : List Nat} : ∀ (t : CTs) (ds : List D) (us : List V) (sd sd' : SD) (σ : L2.St) (Q : L2.St → Hp → Prop), (∀ i ∈ t.slots, i ∈ vs) → RSt G ρ H sd σ → RVs G ρ H ds us → bindTs t ds sd = some sd' →
    (∀ σ', RSt G ρ H sd' σ' → wipe σ' vs = wipe σ vs → Q σ' H) → gsOf K t us σ H Q
  | .nil, ds, us, sd, sd', σ, Q, hs, r, q, e, fin => by
    cases ds with
    | nil => cases q; unfold bindTs at e; cases e; unfold gsOf; exact ⟨rfl, fin σ r rfl⟩
    | cons _ _ => simp [bindTs] at e
  | .cons a l, ds, us, sd, sd', σ, Q, hs, r, q, e, fin => by
    cases ds with
    | nil => simp [bindTs] at e
    | cons d ds =>
      obtain ⟨v, us, rfl, q1, q2⟩ := q.inv
      unfold bindTs at e
      cases e1 : bindT a d sd with
      | none => rw [e1] at e; cases e
      | some s1 =>
        rw [e1] at e
        unfold gsOf
        refine ⟨v, us, rfl, bnd hK a d v sd s1 σ _ (fun i hi => hs i (by simp [CTs.slots, hi])) r q1 e1 fun σ1 r1 w1 => ?_⟩
        exact bnds hK l ds us s1 sd' σ1 Q (fun i hi => hs i (by simp [CTs.slots, hi])) r1 q2 e fun σ2 r2 w2 => fin σ2 r2 (w2.trans w1)
theorem bnd_len : ∀ (t : CTs) (ds : List D) (sd sd' : SD), bindTs t ds sd = some sd' → ds.length = t.len
  | .nil, [], _, _, _ => rfl
  | .nil, _ :: _, _, _, e => by simp [bindTs] at e
  | .cons _ _, [], _, _, e => by simp [bindTs] at e
  | .cons a l, d :: ds, sd, sd', e => by
    unfold bindTs at e
    cases e1 : bindT a d sd with
    | none => rw [e1] at e; cases e
    | some s1 =>
      rw [e1] at e
      simp [CTs.len, bnd_len l ds s1 sd' e]
end
/-- the new list is hidden while it is made -/
def Rg.hide (ρ : Rg) (a : Addr) : Rg := ⟨ρ.l, a :: ρ.hid⟩
def Rg.show (ρ : Rg) : Rg := ⟨ρ.l, ρ.hid.tail⟩
theorem Rep.hide (r : Rep G ρ hd H) {p : Addr} {xs : List V} (hp : H p = none) : Mv ρ H (ρ.hide p) (upd H p (.lst xs)) ∧ Rep G (ρ.hide p) hd (upd H p (.lst xs)) := by
  have m : Mv ρ H (ρ.hide p) (upd H p (.lst xs)) := ⟨fun _ _ e => e, fun a n e => ⟨n.1, fun z => by
    rcases List.mem_cons.mp z with z | z
    · rw [z, hp] at e; cases e
    · exact n.2 z⟩, fun a o e _ => by rw [upd_ne (ne_of_none e hp)]; exact e⟩
  refine ⟨m, r.len, r.nd, fun a ha => ?_, fun n a o h1 h2 => (r.ob n a o h1 h2).mono m r.muts (upd_ne fun z => ?_)⟩
  · rcases List.mem_cons.mp ha with rfl | ha
    · exact ⟨by rw [upd_same]; trivial, (r.out hp).1⟩
    · have ne : a ≠ p := fun z => by
        have q := (r.hid a ha).1
        rw [z, hp] at q; exact q
      exact ⟨by rw [upd_ne ne]; exact (r.hid a ha).1, (r.hid a ha).2⟩
  · have q := r.some' (List.mem_of_getElem? h1)
    rw [z, hp] at q; cases q
/-- it grows -/
theorem Rep.grow (r : Rep G ρ hd H) {p : Addr} {o : HO} (hp : p ∈ ρ.hid) (mu : Mut (some o)) : Mv ρ H ρ (upd H p o) ∧ Rep G ρ hd (upd H p o) := by
  have m : Mv ρ H ρ (upd H p o) := ⟨fun _ _ e => e, fun _ n _ => n, fun a o' e n => by rw [upd_ne fun z => n.2 (by rw [z]; exact hp)]; exact e⟩
  refine ⟨m, r.len, r.nd, fun a ha => ⟨?_, (r.hid a ha).2⟩, fun n a o' h1 h2 => (r.ob n a o' h1 h2).mono m r.muts (upd_ne fun z => (r.hid p hp).2 (by rw [← z]; exact List.mem_of_getElem? h1))⟩
  by_cases e : a = p
  · rw [e, upd_same]; exact mu
  · rw [upd_ne e]; exact (r.hid a ha).1
/-- it is shown: as a thing that nobody changes, or as an object -/
theorem Rep.unhide {p : Addr} {hid : List Addr} (r : Rep G ρ hd H) (e : ρ.hid = p :: hid) : Mv ρ H ⟨ρ.l, hid⟩ H ∧ Rep G ⟨ρ.l, hid⟩ hd H := by
  have m : Mv ρ H ⟨ρ.l, hid⟩ H := ⟨fun _ _ e => e, fun a n _ => ⟨n.1, fun z => n.2 (by rw [e]; exact List.mem_cons_of_mem _ z)⟩, fun _ _ e _ => e⟩
  exact ⟨m, r.len, r.nd, fun a ha => r.hid a (by rw [e]; exact List.mem_cons_of_mem _ ha), fun n a o h1 h2 => (r.ob n a o h1 h2).mono m r.muts rfl⟩
theorem Rep.unhideM {p : Addr} {hid : List Addr} {l : List D} {xs : List V} (r : Rep G ρ hd H) (e : ρ.hid = p :: hid) (np : p ∉ hid) (hp : H p = some (.lst xs)) (rs : RVs G ρ H l xs) : Rep G ⟨ρ.l ++ [p], hid⟩ (hd ++ [.lst l]) H := by
  have pl : p ∉ ρ.l := (r.hid p (by rw [e]; exact List.mem_cons_self)).2
  have m : Mv ρ H ⟨ρ.l ++ [p], hid⟩ H := ⟨fun n a e => by
    show (ρ.l ++ [p])[n]? = some a
    rw [List.getElem?_append_left (List.getElem?_eq_some_iff.mp e).1]; exact e, fun a n _ => ⟨fun z => by
      rcases List.mem_append.mp z with z | z
      · exact n.1 z
      · exact n.2 (by rw [e]; simp at z; rw [z]; exact List.mem_cons_self), fun z => n.2 (by rw [e]; exact List.mem_cons_of_mem _ z)⟩, fun _ _ e _ => e⟩
  refine ⟨by simp [r.len], ?_, fun a ha => ?_, fun n a o h1 h2 => ?_⟩
  · show (ρ.l ++ [p]).Nodup
    rw [List.nodup_append]
    exact ⟨r.nd, by simp, fun x hx y hy z => by simp at hy; subst hy; subst z; exact pl hx⟩
  · have q := r.hid a (by rw [e]; exact List.mem_cons_of_mem _ ha)
    refine ⟨q.1, fun z => ?_⟩
    rcases List.mem_append.mp z with z | z
    · exact q.2 z
    · exact np (by simp at z; rw [← z]; exact ha)
  · have h1 : (ρ.l ++ [p])[n]? = some a := h1
    by_cases c : n < ρ.l.length
    · rw [List.getElem?_append_left c] at h1
      rw [List.getElem?_append_left (by rw [← r.len]; exact c)] at h2
      exact (r.ob n a o h1 h2).mono m r.muts rfl
    · have en : n = ρ.l.length := by
        have := (List.getElem?_eq_some_iff.mp h1).1
        simp at this
        omega
      subst en
      rw [List.getElem?_append_right (Nat.le_refl _)] at h1
      rw [List.getElem?_append_right (by rw [r.len]; exact Nat.le_refl _), r.len] at h2
      simp at h1 h2
      subst h1; subst h2
      exact ⟨xs, hp, RVs.mv m r.muts _ _ rs⟩
end

def compR (t : CT) (tt : SD → M Bool) (te : SD → M D) (chk : DH → Bool) (s0 : SD) : List D → M (List D)
  | [] => fun h => if chk h = true then .ok [] h else .bad
  | d :: ds => fun h => if chk h = true then (match bindT t d s0 with
    | some s => match tt s h with
      | .ok true h1 => match te s h1 with
        | .ok y h2 => match compR t tt te chk s0 ds h2 with
          | .ok ys h3 => .ok (y :: ys) h3
          | _ => .bad
        | _ => .bad
      | .ok false h1 => compR t tt te chk s0 ds h1
      | _ => .bad
    | none => .bad) else .bad
def endL (mt : Bool) (acc : List D) (r : Re (List D)) : Re D := match r with
  | .ok ys h => mkL mt (acc ++ ys) h
  | _ => .bad
def mComp (vs : List Nat) (t : CT) (tt : SD → M Bool) (te : SD → M D) (mt : Bool) (mi : SD → M Src) : SD → M D := fun s => mi s >>= fun x h => endL mt [] (compR t tt te x.2 (wipeD s vs) x.1 h)
abbrev W0 : WX := fun _ _ _ _ => False
section
variable {X : Cx} {T : Tb} {E : XK} {W : WX}
theorem stp_hid {ρ ρ' : Rg} {H H' : Hp} {h : List Addr} (s : Stp ρ H ρ' H') : Stp ⟨ρ.l, h⟩ H ⟨ρ'.l, h⟩ H' := ⟨s.pre, rfl, s.new, s.old⟩
theorem stp_upd {ρ ρ' : Rg} {H H' : Hp} {p : Addr} {o : HO} (s : Stp ρ H ρ' H') (hp : H p = none) : Stp ρ H ρ' (upd H' p o) := ⟨s.pre, s.hid, s.new, fun b x e n => by rw [upd_ne (ne_of_none e hp)]; exact s.old b x e n⟩
theorem mkL_len {G : Gx} {σ : L2.St} {ρ : Rg} {H : Hp} {mt : Bool} {ds : List D} {h : DH} {Q : VK} (z : Res G W σ (RV G) ρ H (mkL mt ds h) Q) : ds.length ≤ sizeLine := by
  unfold mkL at z
  by_cases c : ds.length ≤ sizeLine
  · exact c
  · rw [if_neg c] at z; exact z.elim
theorem lc_go {vs : List Nat} {t : CT} {tt : SD → M Bool} {te : SD → M D} {mt : Bool} {mi : SD → M Src} (hs : ∀ i ∈ t.slots, i ∈ vs) : ∀ σ H Q, tE (gx X T) W (mComp vs t tt te mt mi) σ H Q →
    tLc (fun σ H R => tG (gx X T) W (Feeds (gx X T)) mi σ H R) (gOf X.K t) (tT (gx X T) W0 tt) (tE (gx X T) W0 te) vs σ H Q := fun σ H Q h => by
  refine tG_then (tG_bind (R := Feeds (gx X T)) (k := fun s x h => endL mt [] (compR t tt te x.2 (wipeD s vs) x.1 h)) h) fun J H1 ⟨ρ1, hd1, sd1, x, ⟨r1, s1, fd⟩, h1⟩ => ?_
  intro L hL
  have nL : L ∉ ρ1.hid := (r1.out hL).2
  refine ⟨fun i m H => ∃ ρ hd acc xs, Rep (gx X T) ρ hd H ∧ ρ.hid = L :: ρ1.hid ∧ Stp ρ1 H1 ⟨ρ.l, ρ1.hid⟩ H ∧ RSt (gx X T) ρ H (wipeD sd1 vs) (wipe σ vs) ∧ H L = some (.lst xs) ∧ RVs (gx X T) ρ H acc xs ∧ m = x.1.length - i ∧
    Res (gx X T) W σ (RV (gx X T)) ρ1 H1 (endL mt acc (compR t tt te x.2 (wipeD sd1 vs) (x.1.drop i) hd)) Q, ⟨x.1.length, ?_⟩, ?_⟩
  · obtain ⟨m0, r0⟩ := r1.hide (xs := []) hL
    refine ⟨ρ1.hide L, hd1, [], [], r0, rfl, stp_upd .refl hL, ?_, upd_same, .nil, rfl, by simpa using h1⟩
    have q := s1.wipe vs
    exact ⟨q.1, fun i d e => by
      obtain ⟨v, e1, q1⟩ := q.2 i d e
      exact ⟨v, e1, RV.mv m0 r1.muts _ _ q1⟩⟩
  · rintro i m H2 ⟨ρ2, hd2, acc, xs, r2, eh, st2, s2, eL, rs2, rfl, h2⟩
    have lL : L ∉ ρ2.l := (r2.hid L (by rw [eh]; exact List.mem_cons_self)).2
    have mv2 : Mv ρ1 H1 ρ2 H2 := ⟨st2.mv.get, fun a n e => ⟨(st2.out n e).1, fun z => by
      rw [eh] at z
      rcases List.mem_cons.mp z with z | z
      · rw [z, hL] at e; cases e
      · exact n.2 z⟩, st2.mv.old⟩
    cases ei : x.1[i]? with
    | none =>
      rw [drop_none ei] at h2
      unfold compR at h2
      by_cases c : x.2 hd2 = true
      · rw [if_pos c] at h2
        have h2 : Res (gx X T) W σ (RV (gx X T)) ρ1 H1 (mkL mt (acc ++ []) hd2) Q := h2
        rw [List.append_nil] at h2
        have hz := mkL_len h2
        unfold mkL at h2
        rw [if_pos hz] at h2
        refine .inl ⟨(fd ρ2 hd2 H2 i r2 mv2 c).2 ei, ?_⟩
        cases mt with
        | true =>
          have r3 := r2.unhideM eh nL eL rs2
          have st3 : Stp ρ1 H1 ⟨ρ2.l ++ [L], ρ1.hid⟩ H2 := ⟨st2.pre.trans (List.prefix_append _ _), rfl, fun b hb => by
            rcases List.mem_append.mp hb with z | z
            · exact st2.new b z
            · exact .inr (by simp at z; rw [z]; exact hL), st2.old⟩
          refine h2 _ H2 (.ref L) r3 st3 (.ref ?_)
          show (ρ2.l ++ [L])[hd2.length]? = some L
          rw [← r2.len]; simp
        | false =>
          obtain ⟨m3, r3⟩ := r2.unhide eh
          exact h2 _ H2 (.ref L) r3 st2 (.lv ⟨lL, nL⟩ eL (RVs.mv m3 r2.muts _ _ rs2))
      · rw [if_neg c] at h2; exact h2.elim
    | some d =>
      rw [drop_some ei] at h2
      unfold compR at h2
      have hi := (List.getElem?_eq_some_iff.mp ei).1
      by_cases c : x.2 hd2 = true
      · rw [if_pos c] at h2
        obtain ⟨go, yl⟩ := (fd ρ2 hd2 H2 i r2 mv2 c).1 d ei
        refine .inr ⟨go, _, fun H' n => ⟨x.1.length - (i + 1), by omega, n⟩, fun v H3 y => ?_⟩
        obtain ⟨r3, st3, q3⟩ := yl v H3 y
        cases eb : bindT t d (wipeD sd1 vs) with
        | none => simp only [eb] at h2; exact h2.elim
        | some s =>
          simp only [eb] at h2
          refine bnd (G := gx X T) rfl t d v _ s (wipe σ vs) _ hs (s2.mono st3 r2.muts) q3 eb fun σ4 s4 w4 => ⟨w4.trans (wipe_sub vs fun _ h => h), ?_⟩
          refine ⟨ρ2, hd2, s, r3, s4, ?_⟩
          -- what stays behind a part of the turn
          have later : ∀ {ρ' hd' H'}, Rep (gx X T) ρ' hd' H' → Stp ρ2 H2 ρ' H' → Stp ρ1 H1 ⟨ρ'.l, ρ1.hid⟩ H' ∧ RSt (gx X T) ρ' H' (wipeD sd1 vs) (wipe σ vs) ∧ H' L = some (.lst xs) ∧ RVs (gx X T) ρ' H' acc xs ∧ ρ'.hid = L :: ρ1.hid := fun {ρ' hd' H'} r' st' =>
            ⟨st2.trans (stp_hid st'), s2.mono st' r2.muts, st'.old _ _ eL lL, RVs.mono st' r2.muts _ _ rs2, st'.hid.trans eh⟩
          cases et : tt s hd2 with
          | ok b hd5 =>
            intro ρ5 H5 b' r5 st5 e5
            obtain rfl : b = b' := e5
            have st5' : Stp ρ2 H2 ρ5 H5 := st3.trans st5
            cases b with
            | false =>
              simp only [et] at h2
              obtain ⟨l1, l2, l3, l4, l5⟩ := later r5 st5'
              exact ⟨ρ5, hd5, acc, xs, r5, l5, l1, l2, l3, l4, rfl, h2⟩
            | true =>
              simp only [et] at h2
              refine ⟨ρ5, hd5, s, r5, s4.mono st5 r3.muts, ?_⟩
              cases ee : te s hd5 with
              | ok yd hd6 =>
                simp only [ee] at h2
                intro ρ6 H6 yv r6 st6 q6
                obtain ⟨l1, l2, l3, l4, l5⟩ := later r6 (st5'.trans st6)
                cases er : compR t tt te x.2 (wipeD sd1 vs) (x.1.drop (i + 1)) hd6 with
                | ok ys hd7 =>
                  rw [er] at h2
                  have h2 : Res (gx X T) W σ (RV (gx X T)) ρ1 H1 (mkL mt (acc ++ yd :: ys) hd7) Q := h2
                  have hz := mkL_len h2
                  obtain ⟨m7, r7⟩ := r6.grow (p := L) (o := .lst (xs ++ [yv])) (by rw [l5]; exact List.mem_cons_self) trivial
                  refine ⟨xs, l3, by rw [← l4.len]; simp at hz; omega, ρ6, hd6, acc ++ [yd], xs ++ [yv], r7, l5, stp_upd l1 hL, ⟨l2.1, fun j d' e' => ?_⟩, upd_same, RVs.mv m7 r6.muts _ _ (l4.app (.cons q6 .nil)), rfl, ?_⟩
                  · obtain ⟨v', e1, q1⟩ := l2.2 j d' e'
                    exact ⟨v', e1, RV.mv m7 r6.muts _ _ q1⟩
                  · rw [er]
                    show Res (gx X T) W σ (RV (gx X T)) ρ1 H1 (mkL mt ((acc ++ [yd]) ++ ys) hd7) Q
                    rw [List.append_assoc]
                    exact h2
                | ex C fs hd7 => rw [er] at h2; exact h2.elim
                | bad => rw [er] at h2; exact h2.elim
              | ex C fs hd6 => simp only [ee] at h2; exact h2.elim
              | bad => simp only [ee] at h2; exact h2.elim
          | ex C fs hd5 => simp only [et] at h2; exact h2.elim
          | bad => simp only [et] at h2; exact h2.elim
      · rw [if_neg c] at h2; exact h2.elim
end
end Wy

set_option Elab.async false
set_option linter.all false
set_option maxRecDepth 100000
set_option maxHeartbeats 4000000
namespace Wy
open PySem PySem.Spec PyProof.Rows L2

section
variable {X : Cx} {T : Tb} {E : XK} {W : WX} {e elt tg iter : Expr} {es ifs : List Expr} {scope : Scope} {own : List (Str × Nat)} {pos p : Pos}
/-! ### comprehensions, the rules -/
def mYes : SD → M Bool := fun _ => pure true
theorem tms_nil : PTs X [] (tT (gx X T) W mYes) := ⟨fun pins s σ H Q I ⟨ρ, hd, sd, r, st, h⟩ => (pts_nil (X := X)).run pins s σ H Q I (h ρ H true r .refl rfl)⟩
theorem tms_one {c : Expr} {t : SD → M Bool} (h : PTm X T W c t) : PTs X [c] (tT (gx X T) W t) := pts_one h
theorem em_comp {t : CT} {tt : SD → M Bool} {te : SD → M D} {mt : Bool} {mi : SD → M Src} (hc : X.calm = true) (hN : X.N.Nodup) (hi : PIm X T W tg iter mi) (ok : BlkOk X.N X.env.scope scope own) (hs : ∀ i ∈ t.slots, i ∈ own.map (·.2))
    (hg : ∀ (s : Shared) (H : Hp) (C : Addr) (cl : List (Str × Addr)) (fp : List Addr), PG (X.blk s H scope (compEnvC scope cl C X.env) fp) tg (gOf X.K t))
    (ht : ∀ (s : Shared) (H : Hp) (C : Addr) (cl : List (Str × Addr)) (fp : List Addr), PTs (X.blk s H scope (compEnvC scope cl C X.env) fp) ifs (tT (gx X T) W0 tt))
    (he : ∀ (s : Shared) (H : Hp) (C : Addr) (cl : List (Str × Addr)) (fp : List Addr), PE (X.blk s H scope (compEnvC scope cl C X.env) fp) elt (tE (gx X T) W0 te))
    (hf : ∀ x, foldedSetIterable iter X.env x = pure x) : PEm X T W (.ListComp elt [⟨tg, iter, ifs, 0⟩] scope pos) (mComp (own.map (·.2)) t tt te mt mi) :=
  weakE (pe_lc hc hN hi ok hg ht he hf) (lc_go hs)
/-- name = [..] on one line -/
theorem sm_comp {i : Nat} {y : Str} {py spos : Pos} {t : CT} {tt : SD → M Bool} {te : SD → M D} {mt : Bool} {mi : SD → M Src} (hc : X.calm = true) (hN : X.N.Nodup) (hy : X.N[i]? = some y) (hyl : X.env.scope.names.lookup y = some .local)
    (hsw : swapsWith (.ListComp elt [⟨tg, iter, ifs, 0⟩] scope pos) (some (.Name y py)) spos.line X.env = pure true) (hi : PIm X T (WC E) tg iter mi) (ok : BlkOk X.N X.env.scope scope own) (hs : ∀ i ∈ t.slots, i ∈ own.map (·.2))
    (hg : ∀ (s : Shared) (H : Hp) (C : Addr) (cl : List (Str × Addr)) (fp : List Addr), PG (X.blk s H scope (compEnvC scope cl C X.env) fp) tg (gOf X.K t))
    (ht : ∀ (s : Shared) (H : Hp) (C : Addr) (cl : List (Str × Addr)) (fp : List Addr), PTs (X.blk s H scope (compEnvC scope cl C X.env) fp) ifs (tT (gx X T) W0 tt))
    (he : ∀ (s : Shared) (H : Hp) (C : Addr) (cl : List (Str × Addr)) (fp : List Addr), PE (X.blk s H scope (compEnvC scope cl C X.env) fp) elt (tE (gx X T) W0 te))
    (hf : ∀ x, foldedSetIterable iter X.env x = pure x) : PSm X T E (.Assign [.Name y py] (.ListComp elt [⟨tg, iter, ifs, 0⟩] scope pos) spos) (mAsg (mComp (own.map (·.2)) t tt te mt mi) (gNm i)) :=
  weakS (ps_setLc hc hN hy hyl hsw hi ok hg ht he hf) fun D σ H h => by
    have h := asg_go D σ H h
    refine lc_go hs σ H _ (tG_then h fun v H1 ⟨ρ, hd, sd, d, r, st, q, z⟩ => ?_)
    exact z ρ H1 _ r .refl (st.set q)
end

/-! ### what a def promises -/
def spOf (G : Gx) (n : Nat) (F : List D → M D) : Sp := fun vs H Q E => ∃ ρ hd ds, Rep G ρ hd H ∧ RVs G ρ H ds vs ∧ ds.length = n ∧ Res G (WC E) [] (RV G) ρ H (F ds hd) Q
theorem res_wish {G : Gx} {W : WX} {σ : L2.St} {ρ : Rg} {H : Hp} {r : Re D} {Q : VK} (h : Res G W σ (RV G) ρ H r Q) : Res G (WC (WE W σ)) [] (RV G) ρ H r Q := by
  cases r <;> exact h
section
variable {X : Cx} {T : Tb} {E : XK} {W : WX} {e : Expr} {es : List Expr} {pos p : Pos}
theorem em_call {F : List D → M D} {ml : SD → M (List D)} {n k : Nat} {f : Addr} {fd : FuncData} {ps : List Str} {x : Str} (Fo : FnOk X.prog X.w X.K X.mg X.base (L2.CX X.prog X.w) k f fd ps (spOf (gx X T) n F)) (hr : Room k X.A) (hg : Gl X x) (hm : X.mg x = some (.ref f)) (hk : PySem.W.keepIn X.K (.ref f) = true)
    (hb : Binds X.K fd ps []) (tk : Takes X W) (ha : PAm X T W (e :: es) ml) (l : Len n ml) (hdb : (x == ("__debug__" : Str)) = false) (he : starEach (e :: es) X.env = (false, eval e X.env) :: starEach es X.env) (hpl : (backTo pos (starEach es X.env)).any (·.1) = false) :
    PEm X T W (.Call (.Name x p) (e :: es) [] pos) (mCall F ml) :=
  weakE (pe_callS (E := WE W) Fo hr hg hm hk hb (fun σ => passAt tk σ) ha hdb he hpl) fun σ H Q h =>
    tG_then (tG_bind' (R := RVs (gx X T)) (k := fun _ ds => F ds) h) fun vs H1 ⟨ρ1, hd1, sd1, ds, ⟨r1, _, q⟩, ⟨h0, e0⟩, h1⟩ => ⟨ρ1, hd1, ds, r1, q, l _ _ _ _ e0, res_wish h1⟩
theorem em_call0 {F : List D → M D} {k : Nat} {f : Addr} {fd : FuncData} {ps : List Str} {x : Str} (Fo : FnOk X.prog X.w X.K X.mg X.base (L2.CX X.prog X.w) k f fd ps (spOf (gx X T) 0 F)) (hr : Room k X.A) (hg : Gl X x) (hm : X.mg x = some (.ref f)) (hk : PySem.W.keepIn X.K (.ref f) = true)
    (hb : Binds X.K fd ps []) (tk : Takes X W) (hdb : (x == ("__debug__" : Str)) = false) : PEm X T W (.Call (.Name x p) [] [] pos) (mCall F mNil) :=
  ⟨fun pins s σ H Q I h => by
    refine wpAny_Call_Name_kw (ld_glob I hg hm ?_ hdb)
    obtain ⟨ρ, hd, sd, r, st, h⟩ := h
    refine PySem.W.callWith_K0 I.kIn hk (run_fnS (us := []) (vs := []) Fo hr hb (E := WE W) (passAt tk σ) I .nil ⟨ρ, hd, [], r, .nil, rfl, res_wish h⟩)⟩
end
/-- the slots at a def's entry -/
def slots0 (n : Nat) (ds : List D) : SD := ds.map some ++ List.replicate (n - ds.length) none
def endF (f : Fl) : M D := match f with
  | .nx _ => pure .non
  | .rt d => pure d
  | _ => M.bad
/-- what a def gives: its body from its arguments -/
def denF (n : Nat) (m : SD → M Fl) : List D → M D := fun ds => cut (m (slots0 n ds) >>= endF)
theorem rst_start {G : Gx} {ρ : Rg} {H : Hp} {ds : List D} {vs : List V} {N : List Str} (q : RVs G ρ H ds vs) : RSt G ρ H (slots0 N.length ds) (L2.start N vs) := by
  unfold slots0 L2.start
  refine ⟨by simp [q.len], fun i d e => ?_⟩
  by_cases c : i < ds.length
  · rw [List.getElem?_append_left (by simpa using c), List.getElem?_map] at e
    obtain ⟨d', e1, e2⟩ := Option.map_eq_some_iff.mp e
    cases e2
    obtain ⟨v, e3, r⟩ := q.get e1
    exact ⟨v, by rw [List.getElem?_append_left (by rw [List.length_map, ← q.len]; exact c), List.getElem?_map, e3]; rfl, r⟩
  · rw [List.getElem?_append_right (by simpa using c), List.getElem?_replicate] at e
    split at e <;> cases e
section
variable {G : Gx} {ρ ρ' : Rg} {H H' : Hp} {hd : DH}
theorem keys_under {n : Nat} : ∀ {ks : List D} {xs : List (Option Key)}, (ks.map toKey = xs) → (∀ x ∈ xs, x.isSome = true) → D.unders n ks = true
  | [], _, _, _ => by simp [D.unders]
  | a :: as, xs, k, h => by
    cases xs with
    | nil => simp at k
    | cons b bs =>
      simp at k
      have hb := h b (by simp)
      have : a.under n = true := by
        rw [← k.1] at hb
        cases a <;> simp [toKey] at hb <;> simp [D.under]
      simp [D.unders, this]
      exact keys_under k.2 fun x hx => h x (by simp [hx])
mutual
theorem RV.under : ∀ (d : D) (v : V), RV G ρ H d v → d.under ρ.l.length = true
  | _, _, .non | _, _, .bl _ | _, _, .int _ | _, _, .str _ _ => by simp [D.under]
  | _, _, .tup _ r _ => by simpa [D.under] using RVs.under _ _ r
  | _, _, .lv _ _ r => by simpa [D.under] using RVs.under _ _ r
  | _, _, .rl _ r => by simpa [D.under] using RVs.under _ _ r
  | _, _, .ref e => by simpa [D.under] using (List.getElem?_eq_some_iff.mp e).1
  | _, _, .dvk (kvs := kvs) _ _ k _ r => by simp [D.under, keys_under k (by intro x hx; obtain ⟨p, _, rfl⟩ := List.mem_map.mp hx; rfl), RVs.under _ _ r]
  | _, _, .dvt _ _ _ rk _ _ r => by simp [D.under, RVs.under _ _ rk, RVs.under _ _ r]
  | _, _, .fn _ _ _ r => by simpa [D.under] using RVs.under _ _ r
theorem RVs.under : ∀ (ds : List D) (vs : List V), RVs G ρ H ds vs → D.unders ρ.l.length ds = true
  | _, _, .nil => by simp [D.unders]
  | _, _, .cons r t => by simp [D.unders, RV.under _ _ r, RVs.under _ _ t]
end
mutual
theorem RV.back (ho : ∀ a, ρ'.Out a → ρ.Out a) (pre : ρ.l <+: ρ'.l) : ∀ (d : D) (v : V), RV G ρ' H' d v → d.under ρ.l.length = true → RV G ρ H' d v
  | _, _, .non, _ => .non
  | _, _, .bl b, _ => .bl b
  | _, _, .int i, _ => .int i
  | _, _, .str x h, _ => .str x h
  | _, _, .tup h r p, u => .tup h (RVs.back ho pre _ _ r (by simpa [D.under] using u)) p
  | _, _, .lv n e r, u => .lv (ho _ n) e (RVs.back ho pre _ _ r (by simpa [D.under] using u))
  | _, _, .rl h r, u => .rl (h.imp (fun q => ⟨ho _ q.1, q.2⟩) id) (RVs.back ho pre _ _ r (by simpa [D.under] using u))
  | .ref n, _, .ref e, u => .ref (by
      have hn : n < ρ.l.length := by simpa [D.under] using u
      obtain ⟨t, ht⟩ := pre
      rw [← ht, List.getElem?_append_left hn] at e
      exact e)
  | _, _, .dvk n e k u r, w => .dvk (ho _ n) e k u (RVs.back ho pre _ _ r (by simp [D.under] at w; exact w.2))
  | _, _, .dvt n e t rk k u r, w => .dvt (ho _ n) e t (RVs.back ho pre _ _ rk (by simp [D.under] at w; exact w.1)) k u (RVs.back ho pre _ _ r (by simp [D.under] at w; exact w.2))
  | _, _, .fn fp hb hf r, u => .fn fp (fun b h => ⟨ho b (hb b h).1, (hb b h).2⟩) hf (RVs.back ho pre _ _ r (by simpa [D.under] using u))
theorem RVs.back (ho : ∀ a, ρ'.Out a → ρ.Out a) (pre : ρ.l <+: ρ'.l) : ∀ (ds : List D) (vs : List V), RVs G ρ' H' ds vs → D.unders ρ.l.length ds = true → RVs G ρ H' ds vs
  | _, _, .nil, _ => .nil
  | _, _, .cons r t, u => .cons (RV.back ho pre _ _ r (by simp [D.unders] at u; exact u.1)) (RVs.back ho pre _ _ t (by simp [D.unders] at u; exact u.2))
end
/-- the names of an object's things -/
def Ob.under (n : Nat) : Ob → Bool
  | .lst l => D.unders n l
  | .dct _ kvs => D.unders n (kvs.map (·.1)) && D.unders n (kvs.map (·.2))
  | .ins _ fs => D.unders n (fs.map (·.2))
theorem ObR.under {a : Addr} : ∀ {o : Ob}, ObR G ρ H a o → o.under ρ.l.length = true
  | .lst _, ⟨_, _, r⟩ => RVs.under _ _ r
  | .dct false kvs, ⟨ks, us, _, k, _, r⟩ => by
    have h1 : D.unders ρ.l.length (kvs.map (·.1)) = true := keys_under (xs := ks.map fun p => some p.1) (by rw [List.map_map]; exact k) (by intro x hx; obtain ⟨p, _, rfl⟩ := List.mem_map.mp hx; rfl)
    simp only [Ob.under, h1, RVs.under _ _ r, Bool.and_self]
  | .dct true kvs, ⟨xs, ts, us, _, _, rk, _, _, r⟩ => by simp only [Ob.under, RVs.under _ _ rk, RVs.under _ _ r, Bool.and_self]
  | .ins _ _, ⟨_, _, _, _, _, _, _, _, r⟩ => RVs.under _ _ r
theorem ObR.back (ho : ∀ a, ρ'.Out a → ρ.Out a) (pre : ρ.l <+: ρ'.l) {a : Addr} : ∀ {o : Ob}, ObR G ρ' H' a o → o.under ρ.l.length = true → ObR G ρ H' a o
  | .lst _, ⟨xs, e, r⟩, u => ⟨xs, e, RVs.back ho pre _ _ r u⟩
  | .dct false kvs, ⟨ks, us, e, k, u', r⟩, u => ⟨ks, us, e, k, u', RVs.back ho pre _ _ r (by simp [Ob.under] at u; exact u.2)⟩
  | .dct true kvs, ⟨xs, ts, us, e, t, rk, k, u', r⟩, u => ⟨xs, ts, us, e, t, RVs.back ho pre _ _ rk (by simp [Ob.under] at u; exact u.1), k, u', RVs.back ho pre _ _ r (by simp [Ob.under] at u; exact u.2)⟩
  | .ins _ _, ⟨Ca, dx, vs, us, c, e, n, u', r⟩, u => ⟨Ca, dx, vs, us, c, e, n, u', RVs.back ho pre _ _ r u⟩
/-- back to the objects that were there -/
theorem Rep.back {hd' : DH} (r : Rep G ρ hd H) (r' : Rep G ρ' hd' H') (s : Stp ρ H ρ' H') (e : hd'.take hd.length = hd) : Rep G ρ hd H' ∧ Stp ρ H ρ H' ∧ (∀ a, ρ'.Out a → ρ.Out a) := by
  have ho : ∀ a, ρ'.Out a → ρ.Out a := fun a n => ⟨fun z => n.1 (s.pre.subset z), by rw [← s.hid]; exact n.2⟩
  refine ⟨⟨r.len, r.nd, fun a ha => ⟨(r'.hid a (by rw [s.hid]; exact ha)).1, (r.hid a ha).2⟩, fun n a o h1 h2 => ?_⟩, ⟨List.prefix_refl _, rfl, fun _ h => .inl h, s.old⟩, ho⟩
  have h3 : hd'[n]? = some o := by
    rw [← e, List.getElem?_take] at h2
    split at h2
    · exact h2
    · cases h2
  exact (r'.ob n a o (pre_get s.pre h1) h3).back ho s.pre (r.ob n a o h1 h2).under
theorem cut_res {W : WX} {σ : L2.St} {m : M D} {Q : VK} (r : Rep G ρ hd H) (h : Res G W σ (RV G) ρ H (cut m hd) Q) : Res G W σ (RV G) ρ H (m hd) Q := by
  unfold cut at h
  cases e : m hd with
  | ok d hd' =>
    simp only [e] at h
    by_cases c : hd'.take hd.length = hd ∧ d.under hd.length = true
    · rw [if_pos c] at h
      intro ρ2 H2 v r2 s2 q2
      obtain ⟨b1, b2, b3⟩ := r.back r2 s2 c.1
      exact h ρ H2 v b1 b2 (RV.back b3 s2.pre _ _ q2 (by rw [r.len]; exact c.2))
    · rw [if_neg c] at h; exact h
  | ex C fs hd' =>
    simp only [e] at h
    by_cases c : hd'.take hd.length = hd ∧ D.unders hd.length (fs.map (·.2)) = true
    · rw [if_pos c] at h
      intro ρ2 H2 cl dd r2 s2 q2
      obtain ⟨b1, b2, b3⟩ := r.back r2 s2 c.1
      refine h ρ H2 cl dd b1 b2 ⟨q2.1, ?_⟩
      rcases q2.2 with q | ⟨d, vs, us, e0, e1, n, e2, e3, e4, rs⟩
      · exact .inl q
      · exact .inr ⟨d, vs, us, e0, e1, b3 d n, e2, e3, e4, RVs.back b3 s2.pre _ _ rs (by rw [r.len]; exact c.2)⟩
    · rw [if_neg c] at h; exact h
  | bad => simp only [e] at h; exact h
end
/-- THE RULE for a def -/
theorem def_ok {P : Program} {w : World} {K : PySem.W.Frag} {mg : Str → Option Value} {base : Heap} {T : Tb} {x qual : Str} {st : Stmt} {f : Addr} {fd : FuncData} {N ps : List Str} {k n : Nat} {m : SD → M Fl} (F : Fun K x qual st f fd) (S : FnScope N ps (defScope st)) (hn : ps.length = n)
    (body : ∀ (cdv : Value) (A : Around) (outer : List Env) (s : Shared) (H : Hp) (E : XK), Room k (A.deeper (envOfC qual (defScope st) s.heap.objs.size f cdv)) → PSsm (cxOf (L2.CX P w) P w K mg base N qual (defScope st) f cdv A outer s H E) T E (defBody st) m) :
    FnOk P w K mg base (L2.CX P w) (k + 1) f fd ps (spOf ⟨P, w, K, T⟩ n (denF N.length m)) := by
  refine F.okX S (fun vs H Q E ⟨ρ, hd, ds, r, q, l, h⟩ => by rw [← q.len, l, hn]) (fun cdv A outer s H vs Q E hr h => ⟨_, body cdv A outer s H E hr, ?_⟩)
  obtain ⟨ρ, hd, ds, r, q, l, h⟩ := h
  refine ⟨ρ, hd, slots0 N.length ds, r, rst_start q, ?_⟩
  have h := cut_res r h
  rw [bind_ap] at h
  cases e : m (slots0 N.length ds) hd with
  | ok fl hd' =>
    rw [e] at h
    cases fl with
    | nx s' => exact fun ρ' H' σ' r' s' q' => h ρ' H' .non r' s' .non
    | rt d => exact h
    | bk _ => exact h.elim
    | ct _ => exact h.elim
  | ex C fs hd' => rw [e] at h; exact h
  | bad => rw [e] at h; exact h
end Wy

set_option Elab.async false
set_option linter.all false
set_option maxRecDepth 100000
set_option maxHeartbeats 4000000
namespace Wy
open PySem PySem.Spec PyProof.Rows L2

/-! ### dicts whose keys are tuples -/
def dlook {κ : Type} [DecidableEq κ] (f : D → Option κ) (k : κ) : List (D × D) → Option D
  | [] => none
  | p :: r => if f p.1 = some k then some p.2 else dlook f k r
def dput {κ : Type} [DecidableEq κ] (f : D → Option κ) (k : κ) (kd v : D) (kvs : List (D × D)) : List (D × D) :=
  if (dlook f k kvs).isSome = true then kvs.map (fun p => if f p.1 = some k then (p.1, v) else p) else kvs ++ [(kd, v)]
section
variable {X : Cx} {T : Tb} {pins : List (Addr × Obj)} {σ : L2.St} {H : Hp} {s : Shared} {ρ : Rg} {hd : DH}
mutual
theorem rv_key (I : Inv X pins σ H s) : ∀ (d : D) (v : V) (u : Value) (k : NestedKey), RV (gx X T) ρ H d v → toK d = some k → RelV v u → NestedIs s.heap k u
  | _, _, u, k, .non, e, r => by simp [toK] at e; subst e; cases r; exact .none
  | _, _, u, k, .bl b, e, r => by simp [toK] at e; subst e; cases r; exact .bool rfl
  | _, _, u, k, .int i, e, r => by simp [toK] at e; subst e; obtain ⟨t, rfl⟩ := r; exact .int i t
  | _, _, u, k, .str x _, e, r => by simp [toK] at e; subst e; obtain ⟨t, rfl⟩ := r; exact .text x t
  | _, _, u, k, .tup hs rs _, e, r => by
    simp only [toK] at e
    obtain ⟨ks, e1, rfl⟩ := Option.map_eq_some_iff.mp e
    cases r
    obtain ⟨its, rv, ⟨o, ho, hc, n, hdt⟩, _⟩ := I.tuple hs
    exact .tup ho hc hdt (by simpa using rv_keys I _ _ its ks rs e1 rv)
  | _, _, u, k, .lv _ _ _, e, r => by simp [toK] at e
  | _, _, u, k, .rl _ _, e, r => by simp [toK] at e
  | _, _, u, k, .ref _, e, r => by simp [toK] at e
  | _, _, u, k, .dvk _ _ _ _ _, e, r => by simp [toK] at e
  | _, _, u, k, .dvt _ _ _ _ _ _ _, e, r => by simp [toK] at e
  | _, _, u, k, .fn _ _ _ _, e, r => by simp [toK] at e
theorem rv_keys (I : Inv X pins σ H s) : ∀ (ds : List D) (vs : List V) (us : List Value) (ks : List NestedKey), RVs (gx X T) ρ H ds vs → toK.toKs ds = some ks → Vals vs us → NestedAll s.heap ks us
  | _, _, us, ks, .nil, e, r => by simp [toK.toKs] at e; subst e; cases r; exact .nil
  | _, _, us, ks, .cons (d := d) (ds := ds) q qs, e, r => by
    simp only [toK.toKs] at e
    cases e1 : toK d with
    | none => rw [e1] at e; cases e
    | some k => cases e2 : toK.toKs ds with
      | none => rw [e1, e2] at e; cases e
      | some ks' =>
        rw [e1, e2] at e; cases e
        cases r with
        | cons r1 r2 => exact .cons (rv_key I _ _ _ k q e1 r1) (rv_keys I _ _ _ ks' qs e2 r2)
end
/-- a dict of tuples, tracked -/
structure TD (X : Cx) (T : Tb) (ρ : Rg) (H : Hp) (a : Addr) (kvs : List (D × D)) (xs : List (NestedKey × Addr × V)) : Prop where
  at_ : H a = some (TDO X.prog X.w a xs)
  keys : RVs (gx X T) ρ H (kvs.map (·.1)) (xs.map fun x => V.ref x.2.1)
  kk : kvs.map (fun p => toK p.1) = xs.map (fun x => some x.1)
  vals : RVs (gx X T) ρ H (kvs.map (·.2)) (xs.map (·.2.2))
abbrev PT3 : List (NestedKey × Addr × V) → List (NestedKey × Addr × Value) → Prop := Paired (fun (p : NestedKey × Addr × V) (q : NestedKey × Addr × Value) => p.1 = q.1 ∧ p.2.1 = q.2.1 ∧ RelV p.2.2 q.2.2)
theorem td_is (I : Inv X pins σ H s) : ∀ {kvs : List (D × D)} {xs : List (NestedKey × Addr × V)} {ys : List (NestedKey × Addr × Value)}, RVs (gx X T) ρ H (kvs.map (·.1)) (xs.map fun x => V.ref x.2.1) → kvs.map (fun p => toK p.1) = xs.map (fun x => some x.1) →
    PT3 xs ys → (∀ x ∈ xs, x.1.depth ≤ 8) → ∀ y ∈ ys, (nestedKind X.prog X.w).is s.heap y.1 y.2.1
  | [], xs, ys, rk, kk, p, hz => by
    cases xs with
    | nil => cases p; intro y hy; cases hy
    | cons _ _ => simp at kk
  | kv :: kvs, xs, ys, rk, kk, p, hz => by
    cases p with
    | nil => simp at kk
    | cons p1 p2 =>
      rename_i x y xs ys
      simp only [List.map_cons, List.cons.injEq] at kk
      obtain ⟨v, us, e, q1, q2⟩ := RVs.inv rk
      simp only [List.map_cons, List.cons.injEq] at e
      obtain ⟨rfl, rfl⟩ := e
      intro z hz'
      rcases List.mem_cons.mp hz' with rfl | hz'
      · refine ⟨rv_key I _ _ _ _ q1 (by rw [kk.1, p1.1]) ?_, by rw [← p1.1]; exact hz x (by simp)⟩
        rw [p1.2.1]
        rfl
      · exact td_is I q2 kk.2 p2 (fun x hx => hz x (by simp [hx])) z hz'
theorem TD.of (I : Inv X pins σ H s) {a : Addr} {kvs : List (D × D)} {xs : List (NestedKey × Addr × V)} (t : TD X T ρ H a kvs xs) :
    (a == sysModules) = false ∧ xs.length ≤ sizeLine ∧ (xs.map (·.1)).Nodup ∧ (∀ x ∈ xs, x.1.depth ≤ 8) ∧ ∃ ys, PT3 xs ys ∧ s.heap.DictOfH (nestedKind X.prog X.w) a ys := by
  have h := I.hok a _ t.at_
  obtain ⟨⟨h1, h2, h3, h4, o, es, ep, ys, ho, hc, hdt, he, hp⟩, _⟩ := h
  refine ⟨h1, h2, h3, h4, ys, hp, o, es, ep, ho, hc, hdt, he, td_is I t.keys t.kk hp h4, ?_⟩
  have e : ∀ {xs ys}, PT3 xs ys → xs.map (·.1) = ys.map (·.1) := fun {xs ys} p => by
    induction p with
    | nil => rfl
    | cons h _ ih => simp [h.1, ih]
  rw [← e hp]; exact h3
theorem td_look {k : NestedKey} : ∀ {kvs : List (D × D)} {xs : List (NestedKey × Addr × V)} {ys : List (NestedKey × Addr × Value)}, kvs.map (fun p => toK p.1) = xs.map (fun x => some x.1) → RVs (gx X T) ρ H (kvs.map (·.2)) (xs.map (·.2.2)) → PT3 xs ys →
    match dlook toK k kvs with
    | some d => ∃ q v, atKey ys k = some q ∧ RelV v q.2 ∧ RV (gx X T) ρ H d v
    | none => atKey ys k = none
  | [], xs, ys, kk, rv, p => by
    cases xs with
    | nil => cases p; rfl
    | cons _ _ => simp at kk
  | kv :: kvs, xs, ys, kk, rv, p => by
    cases p with
    | nil => simp at kk
    | cons p1 p2 =>
      rename_i x y xs ys
      simp only [List.map_cons, List.cons.injEq] at kk
      obtain ⟨v, us, e, q1, q2⟩ := RVs.inv rv
      simp only [List.map_cons, List.cons.injEq] at e
      obtain ⟨rfl, rfl⟩ := e
      unfold dlook
      by_cases c : x.1 = k
      · rw [if_pos (by rw [kk.1, c])]
        exact ⟨y.2, _, by simp [atKey, List.find?_cons, ← p1.1, c], p1.2.2, q1⟩
      · rw [if_neg (by rw [kk.1]; simpa using c)]
        have ih := td_look (k := k) kk.2 q2 p2
        have ea : atKey (y :: ys) k = atKey ys k := by simp [atKey, List.find?_cons, ← p1.1, c]
        rw [ea]
        exact ih
end
end Wy

set_option Elab.async false
set_option linter.all false
set_option maxRecDepth 100000
set_option maxHeartbeats 4000000
namespace Wy
open PySem PySem.Spec PyProof.Rows L2

/-! ### reading a dict -/
/-- a dict of tuples at a, asked at x -/
def TGet (X : Cx) (H : Hp) (a : Addr) (x : V) (o : Option V) : Prop := ∃ b k, x = .ref b ∧ ∀ pins σ s, Inv X pins σ H s → (a == sysModules) = false ∧ (nestedKind X.prog X.w).is s.heap k b ∧ ∃ ys, s.heap.DictOfH (nestedKind X.prog X.w) a ys ∧ match o with
  | none => atKey ys k = none
  | some v => ∃ q, atKey ys k = some q ∧ RelV v q.2
def DAny (X : Cx) (H : Hp) (a : Addr) (x : V) (o : Option V) : Prop := DGet H a x o ∨ TGet X H a x o
section
variable {X : Cx} {T : Tb}
abbrev rInDc (X : Cx) : R2 := fun x y H Q => ∃ a o, y = .ref a ∧ DAny X H a x o ∧ Q (.bl o.isSome) H
abbrev rNotInDc (X : Cx) : R2 := fun x y H Q => ∃ a o, y = .ref a ∧ DAny X H a x o ∧ Q (.bl (!o.isSome)) H
theorem room8 {A : Around} (hu : A.units + 10 < cLine) {P : Program} {w : World} : (nestedKind P w).room A.in1 := by
  show A.units + 1 + 8 < cLine
  omega
theorem op_inDc (hu : X.A.units + 10 < cLine) : OpR X (compareOp .In) (rInDc X) := by
  intro pins s σ H x y v u Q I rx ry h
  obtain ⟨a, o, rfl, h, q⟩ := h
  cases ry
  rcases h with h | ⟨b, k, rfl, h⟩
  · exact d_in (by omega) I h rx fun s' I' => ⟨.bl o.isSome, H, I', rfl, q⟩
  · cases rx
    obtain ⟨hd, hk, ys, hm, ho⟩ := h pins σ s I
    have e : (atKey ys k).isSome = o.isSome := by
      cases o with
      | none => rw [show atKey ys k = none from ho]; rfl
      | some v => obtain ⟨q, e, _⟩ := ho; rw [e]; rfl
    exact wpAny_in_heap (knd := nestedKind X.prog X.w) (room8 hu) hk hd hm ⟨.bl o.isSome, H, I.tok _, by rw [e]; rfl, q⟩
theorem op_notInDc (hu : X.A.units + 10 < cLine) : OpR X (compareOp .NotIn) (rNotInDc X) := by
  intro pins s σ H x y v u Q I rx ry h
  obtain ⟨a, o, rfl, h, q⟩ := h
  cases ry
  rcases h with h | ⟨b, k, rfl, h⟩
  · exact d_notIn (by omega) I h rx fun s' I' => ⟨.bl (!o.isSome), H, I', rfl, q⟩
  · cases rx
    obtain ⟨hd, hk, ys, hm, ho⟩ := h pins σ s I
    have e : (atKey ys k).isSome = o.isSome := by
      cases o with
      | none => rw [show atKey ys k = none from ho]; rfl
      | some v => obtain ⟨q, e, _⟩ := ho; rw [e]; rfl
    exact wpAny_notIn_heap (knd := nestedKind X.prog X.w) (room8 hu) hk hd hm ⟨.bl (!o.isSome), H, I.tok _, by rw [e]; rfl, q⟩
abbrev rIxDc (X : Cx) : R2 := fun x y H Q => ∃ a v, x = .ref a ∧ DAny X H a y (some v) ∧ Q v H
theorem ix_dc (hu : X.A.units + 10 < cLine) : IxR X (rIxDc X) := by
  intro value slice pins s σ H x y v u Q I rx ry h hs
  obtain ⟨a, w, rfl, h, q⟩ := h
  cases rx
  rcases h with h | ⟨b, k, rfl, h⟩
  · exact tail_any (dict_typeIs I h) PySem.F.slot_dict_getitem.lookup (d_getItem (by omega) I h ry fun w' s' I' rw' => ⟨w, H, I', rw', q⟩) hs
  · cases ry
    obtain ⟨hd, hk, ys, hm, p, e, r⟩ := h pins σ s I
    exact tail_any hm.typeIs PySem.F.slot_dict_getitem.lookup (wpAny_getItem_heap (knd := nestedKind X.prog X.w) (room8 hu) hk hm e ⟨w, H, I.tok _, r, q⟩) hs
end

/-! ### the dict of a thing -/
def dictOf (h : DH) : D → Option (Bool × List (D × D))
  | .dv tk ks vs => some (tk, ks.zip vs)
  | .ref n => match h[n]? with
    | some (.dct tk kvs) => some (tk, kvs)
    | _ => none
  | _ => none
def KD (X : Cx) (T : Tb) (ρ : Rg) (H : Hp) (a : Addr) (kvs : List (D × D)) : Prop := ∃ ks, H a = some (.dK ks) ∧ kvs.map (fun p => toKey p.1) = ks.map (fun p => some p.1) ∧ RVs (gx X T) ρ H (kvs.map (·.2)) (ks.map (·.2))
section
variable {X : Cx} {T : Tb} {pins : List (Addr × Obj)} {σ : L2.St} {H : Hp} {s : Shared} {ρ : Rg} {hd : DH}
theorem dictOf_rv (r : Rep (gx X T) ρ hd H) {d : D} {v : V} {kvs : List (D × D)} {tk : Bool} (q : RV (gx X T) ρ H d v) (e : dictOf hd d = some (tk, kvs)) : ∃ a, v = .ref a ∧ (tk = false → KD X T ρ H a kvs) ∧ (tk = true → ∃ xs, TD X T ρ H a kvs xs) := by
  cases d <;> first | cases e | skip
  · rename_i ks vs
    cases q with
    | dvk n h k u rs =>
      rename_i a kx us
      refine ⟨_, rfl, fun _ => ⟨kx, h, ?_, ?_⟩, fun z => by cases z⟩
      · have hl : ks.length = vs.length := by rw [rs.len, u, List.length_map, ← List.length_map (f := toKey), k, List.length_map]
        rw [← k]
        rw [show (fun p : D × D => toKey p.1) = toKey ∘ (·.1) from rfl, ← List.map_map, List.map_fst_zip (by omega)]
      · have hl : ks.length = vs.length := by rw [rs.len, u, List.length_map, ← List.length_map (f := toKey), k, List.length_map]
        rw [List.map_snd_zip (by omega), ← u]
        exact rs
    | dvt n h t rk k u rs =>
      rename_i a xs ts us
      have hl : ks.length = vs.length := by rw [rs.len, u, List.length_map, ← List.length_map (f := toK), k, List.length_map]
      refine ⟨_, rfl, (fun z => by cases z), fun _ => ⟨xs, h, ?_, ?_, ?_⟩⟩
      · rw [List.map_fst_zip (by omega), ← t]; exact rk
      · rw [show (fun p : D × D => toK p.1) = toK ∘ (·.1) from rfl, ← List.map_map, List.map_fst_zip (by omega)]; exact k
      · rw [List.map_snd_zip (by omega), ← u]; exact rs
  · rename_i n
    cases q with
    | ref hn =>
      unfold dictOf at e
      cases c : hd[n]? with
      | none => simp only [c] at e; cases e
      | some ob => cases ob with
        | lst _ => simp only [c] at e; cases e
        | ins _ _ => simp only [c] at e; cases e
        | dct tk' kvs' =>
          simp only [c] at e
          cases e
          have o := r.ob n _ _ hn c
          cases tk with
          | false =>
            obtain ⟨ks, us, h, k, u, rs⟩ := o
            exact ⟨_, rfl, fun _ => ⟨ks, h, k, by rw [← u]; exact rs⟩, fun z => by cases z⟩
          | true =>
            obtain ⟨xs, ts, us, h, t, rk, k, u, rs⟩ := o
            exact ⟨_, rfl, (fun z => by cases z), fun _ => ⟨xs, h, by rw [← t]; exact rk, k, by rw [← u]; exact rs⟩⟩
theorem toKey_kV {d : D} {v : V} {k : Key} (q : RV (gx X T) ρ H d v) (e : toKey d = some k) : v = kV k := by
  cases d <;> first | cases e | skip
  · cases q; rfl
  · cases q; rfl
theorem toKey_mk {d : D} {v : V} {k : Key} (q : RV (gx X T) ρ H d v) (e : toKey d = some k) : toKey d = some k ∧ v = kV k := ⟨e, toKey_kV q e⟩
theorem kd_look {k : Key} : ∀ {kvs : List (D × D)} {ks : List (Key × V)}, kvs.map (fun p => toKey p.1) = ks.map (fun x => some x.1) → RVs (gx X T) ρ H (kvs.map (·.2)) (ks.map (·.2)) →
    match dlook toKey k kvs with
    | some d => ∃ v, valV ks k = some v ∧ RV (gx X T) ρ H d v
    | none => valV ks k = none
  | [], ks, kk, rv => by
    cases ks with
    | nil => rfl
    | cons _ _ => simp at kk
  | kv :: kvs, ks, kk, rv => by
    cases ks with
    | nil => simp at kk
    | cons x ks =>
      simp only [List.map_cons, List.cons.injEq] at kk
      obtain ⟨v, us, e, q1, q2⟩ := RVs.inv rv
      simp only [List.map_cons, List.cons.injEq] at e
      obtain ⟨rfl, rfl⟩ := e
      unfold dlook
      by_cases c : x.1 = k
      · rw [if_pos (by rw [kk.1, c])]
        exact ⟨x.2, by simp [valV, List.find?_cons, c], q1⟩
      · rw [if_neg (by rw [kk.1]; simpa using c)]
        have ih := kd_look (k := k) kk.2 q2
        have ea : valV (x :: ks) k = valV ks k := by simp [valV, List.find?_cons, c]
        rw [ea]
        exact ih
def RVo (G : Gx) (ρ : Rg) (H : Hp) : Option D → Option V → Prop
  | none, o => o = none
  | some z, o => ∃ w, o = some w ∧ RV G ρ H z w
/-- what a dict has at a key -/
def dGet (h : DH) (d y : D) : Option (Option D) := match dictOf h d with
  | some (false, kvs) => (toKey y).map fun k => dlook toKey k kvs
  | some (true, kvs) => match y with
    | .tup _ => (toK y).bind fun k => if k.depth ≤ 8 then some (dlook toK k kvs) else none
    | _ => none
  | none => none
theorem dGet_rv (r : Rep (gx X T) ρ hd H) {d y : D} {v u : V} {o : Option D} (q : RV (gx X T) ρ H d v) (q' : RV (gx X T) ρ H y u) (e : dGet hd d y = some o) : ∃ a o', v = .ref a ∧ DAny X H a u o' ∧ RVo (gx X T) ρ H o o' := by
  unfold dGet at e
  cases c : dictOf hd d with
  | none => rw [c] at e; cases e
  | some p =>
    obtain ⟨tk, kvs⟩ := p
    obtain ⟨a, rfl, h1, h2⟩ := dictOf_rv r q c
    rw [c] at e
    cases tk with
    | false =>
      simp only [] at e
      obtain ⟨k, e1, e2⟩ := Option.map_eq_some_iff.mp e
      obtain ⟨ks, ha, kk, rs⟩ := h1 rfl
      obtain rfl := toKey_kV q' e1
      have l := kd_look (k := k) kk rs
      refine ⟨a, valV ks k, rfl, .inl (.k ha), ?_⟩
      rw [← e2]
      cases c2 : dlook toKey k kvs with
      | none => rw [c2] at l; exact l
      | some z => rw [c2] at l; obtain ⟨w, e2, rw'⟩ := l; exact ⟨w, e2, rw'⟩
    | true =>
      cases y <;> first | cases e | skip
      rename_i l
      simp only [] at e
      obtain ⟨k, e1, e2⟩ := Option.bind_eq_some_iff.mp e
      by_cases dz : k.depth ≤ 8
      · rw [if_pos dz] at e2
        cases e2
        obtain ⟨xs, td⟩ := h2 rfl
        cases q' with
        | tup hs rs pt =>
          rename_i b us
          have key : ∀ {pins σ s}, Inv X pins σ H s → (nestedKind X.prog X.w).is s.heap k b := fun I => ⟨rv_key I _ _ _ k (.tup hs rs pt) e1 rfl, dz⟩
          cases c2 : dlook toK k kvs with
          | none =>
            refine ⟨a, none, rfl, .inr ⟨b, k, rfl, fun pins σ s I => ?_⟩, rfl⟩
            obtain ⟨t1, t2, t3, t4, ys, p, dd⟩ := td.of I
            have l := td_look (k := k) td.kk td.vals p
            rw [c2] at l
            exact ⟨t1, key I, ys, dd, l⟩
          | some z =>
            have lv : ∃ w, RV (gx X T) ρ H z w ∧ ∀ {ys}, PT3 xs ys → ∃ q, atKey ys k = some q ∧ RelV w q.2 := by
              have : ∀ {kvs : List (D × D)} {xs : List (NestedKey × Addr × V)}, kvs.map (fun p => toK p.1) = xs.map (fun x => some x.1) → RVs (gx X T) ρ H (kvs.map (·.2)) (xs.map (·.2.2)) → dlook toK k kvs = some z → ∃ w, RV (gx X T) ρ H z w ∧ ∀ {ys}, PT3 xs ys → ∃ q, atKey ys k = some q ∧ RelV w q.2 := by
                intro kvs
                induction kvs with
                | nil => intro xs kk rv e; cases e
                | cons kv kvs ih =>
                  intro xs kk rv e
                  cases xs with
                  | nil => simp at kk
                  | cons x xs =>
                    simp only [List.map_cons, List.cons.injEq] at kk
                    obtain ⟨v, us, e', q1, q2⟩ := RVs.inv rv
                    simp only [List.map_cons, List.cons.injEq] at e'
                    obtain ⟨rfl, rfl⟩ := e'
                    unfold dlook at e
                    by_cases c : x.1 = k
                    · rw [if_pos (by rw [kk.1, c])] at e
                      cases e
                      refine ⟨_, q1, fun {ys} p => ?_⟩
                      cases p with
                      | cons p1 p2 => exact ⟨_, by simp [atKey, List.find?_cons, ← p1.1, c], p1.2.2⟩
                    · rw [if_neg (by rw [kk.1]; simpa using c)] at e
                      obtain ⟨w, r1, r2⟩ := ih kk.2 q2 e
                      refine ⟨w, r1, fun {ys} p => ?_⟩
                      cases p with
                      | cons p1 p2 =>
                        rename_i y ys
                        rw [show atKey (y :: ys) k = atKey ys k by simp [atKey, List.find?_cons, ← p1.1, c]]
                        exact r2 p2
              exact this td.kk td.vals c2
            obtain ⟨w, rw', hw⟩ := lv
            refine ⟨a, some w, rfl, .inr ⟨b, k, rfl, fun pins σ s I => ?_⟩, w, rfl, rw'⟩
            obtain ⟨t1, t2, t3, t4, ys, p, dd⟩ := td.of I
            exact ⟨t1, key I, ys, dd, hw p⟩
      · rw [if_neg dz] at e2; cases e2
end
end Wy

set_option Elab.async false
set_option linter.all false
set_option maxRecDepth 100000
set_option maxHeartbeats 4000000
namespace Wy
open PySem PySem.Spec PyProof.Rows L2

/-! ### writing a dict -/
def putT (xs : List (NestedKey × Addr × V)) (k : NestedKey) (b : Addr) (v : V) : List (NestedKey × Addr × V) := if xs.any (fun x => decide (x.1 = k)) = true then xs.map (fun x => if x.1 = k then (x.1, x.2.1, v) else x) else xs ++ [(k, b, v)]
theorem pt_any {k : NestedKey} {xs : List (NestedKey × Addr × V)} {ys : List (NestedKey × Addr × Value)} (p : PT3 xs ys) : xs.any (fun x => decide (x.1 = k)) = (atKey ys k).isSome := by
  induction p with
  | nil => rfl
  | cons h _ ih =>
    rename_i x y xs ys _
    by_cases c : x.1 = k
    · simp [atKey, List.find?_cons, ← h.1, c]
    · rw [show atKey (y :: ys) k = atKey ys k by simp [atKey, List.find?_cons, ← h.1, c], ← ih]
      simp [c]
theorem pt_put {k : NestedKey} {b : Addr} {v : V} {u : Value} {xs : List (NestedKey × Addr × V)} {ys : List (NestedKey × Addr × Value)} (p : PT3 xs ys) (rv : RelV v u) : PT3 (putT xs k b v) (storedH ys k b u) := by
  unfold putT storedH
  rw [pt_any p]
  by_cases c : (atKey ys k).isSome = true
  · rw [if_pos c, if_pos c]
    clear c
    induction p with
    | nil => exact .nil
    | cons h _ ih =>
      refine .cons ?_ ih
      rename_i x y xs ys _
      unfold putAt
      dsimp only
      by_cases c : x.1 = k
      · rw [if_pos c, if_pos (by rw [← h.1]; exact c)]; exact ⟨h.1, h.2.1, rv⟩
      · rw [if_neg c, if_neg (by rw [← h.1]; exact c)]; exact h
  · rw [if_neg c, if_neg c]
    clear c
    induction p with
    | nil => exact .cons ⟨rfl, rfl, rv⟩ .nil
    | cons h _ ih => exact .cons h ih
theorem pt_keys {xs : List (NestedKey × Addr × V)} {ys : List (NestedKey × Addr × Value)} (p : PT3 xs ys) : xs.map (·.1) = ys.map (·.1) := by
  induction p with
  | nil => rfl
  | cons h _ ih => simp [h.1, ih]
theorem pt_len {xs : List (NestedKey × Addr × V)} {ys : List (NestedKey × Addr × Value)} (p : PT3 xs ys) : xs.length = ys.length := by
  have := congrArg List.length (pt_keys p)
  simpa using this
theorem putT_len {xs : List (NestedKey × Addr × V)} {k : NestedKey} {b : Addr} {v : V} : (putT xs k b v).length ≤ xs.length + 1 := by
  unfold putT
  split <;> simp
theorem putT_all {p : NestedKey → Prop} {xs : List (NestedKey × Addr × V)} {k : NestedKey} {b : Addr} {v : V} (h : ∀ x ∈ xs, p x.1) (hk : p k) : ∀ x ∈ putT xs k b v, p x.1 := by
  unfold putT
  split
  · intro x hx
    obtain ⟨y, hy, rfl⟩ := List.mem_map.mp hx
    split
    · exact h y hy
    · exact h y hy
  · intro x hx
    rcases List.mem_append.mp hx with hx | hx
    · exact h x hx
    · simp at hx; subst hx; exact hk
def rSetT (X : Cx) : TSet := fun o i v H Q => ∃ a b k xs, o = .ref a ∧ i = .ref b ∧ H a = some (TDO X.prog X.w a xs) ∧ xs.length < sizeLine ∧ k.depth ≤ 8 ∧
  (∀ pins σ s, Inv X pins σ H s → NestedIs s.heap k (.ref b) ∧ ∀ ys, PT3 xs ys → ∀ y ∈ ys, (nestedKind X.prog X.w).is s.heap y.1 y.2.1) ∧ Q (upd H a (TDO X.prog X.w a (putT xs k b v)))
theorem ext_ok {P : Program} {w : World} {H : Hp} {h : Heap} {a : Addr} {xs : List (NestedKey × Addr × V)} {ys : List (NestedKey × Addr × Value)} (hd : (a == sysModules) = false) (hz : xs.length ≤ sizeLine) (hk : ∀ x ∈ xs, x.1.depth ≤ 8) (p : PT3 xs ys) (dd : h.DictOfH (nestedKind P w) a ys) :
    ObjOk P w H h a (TDO P w a xs) := by
  obtain ⟨o, es, ep, ho, hc, hdt, he, his, hnd⟩ := dd
  refine ⟨⟨hd, hz, by rw [pt_keys p]; exact hnd, hk, o, es, ep, ys, ho, hc, hdt, he, p⟩, ⟨o, ho⟩, fun h1 h2 q k => ?_⟩
  obtain ⟨q1, q2, q3, q4, o', es', ep', ys', q5, q6⟩ := q
  exact ⟨q1, q2, q3, q4, o', es', ep', ys', k o' q5, q6⟩
section
variable {X : Cx} {T : Tb}
theorem set_tdict (hu : X.A.units + 10 < cLine) : PSet X (rSetT X) := by
  intro pins s σ H o i v ov iv u Q I ro ri rv h
  obtain ⟨a, b, k, xs, rfl, rfl, ha, hz, dk, key, q⟩ := h
  cases ro; cases ri
  obtain ⟨k1, k2⟩ := key pins σ s I
  obtain ⟨⟨h1, h2, h3, h4, ob, es, ep, ys, ho, hc, hdt, he, hp⟩, _⟩ := I.hok a _ ha
  have dd : s.heap.DictOfH (nestedKind X.prog X.w) a ys := ⟨ob, es, ep, ho, hc, hdt, he, k2 ys hp, by rw [← pt_keys hp]; exact h3⟩
  refine wpAny_setItem_heap (knd := nestedKind X.prog X.w) (hsz := by rw [← pt_len hp]; exact h2) (room8 hu) ⟨k1, dk⟩ dd fun h' dd' hs => ⟨_, ?_, q⟩
  have he : ∃ q, h'.get? a = some q := let ⟨q, _, _, hq, _⟩ := dd'; ⟨q, hq⟩
  refine d_write I (by rw [ha]; exact True.intro) hs he (ext_ok h1 ?_ (putT_all (p := fun z => z.depth ≤ 8) h4 dk) (pt_put hp rv) dd')
  have := putT_len (xs := xs) (k := k) (b := b) (v := v)
  omega
def rSetKD : TSet := fun o i v H Q => ∃ a H', o = .ref a ∧ DPut H a i v H' ∧ Q H'
theorem set_kdict (hu : X.A.units + 10 < cLine) : PSet X rSetKD := by
  intro pins s σ H o i v ov iv u Q I ro ri rv h
  obtain ⟨a, H', rfl, h, q⟩ := h
  cases ro
  exact d_setItem (by omega) I h ri rv fun s' I' => ⟨H', I', q⟩
theorem PSet.or {t t' : TSet} (h : PSet X t) (h' : PSet X t') : PSet X (fun o i v H Q => t o i v H Q ∨ t' o i v H Q) := by
  intro pins s σ H o i v ov iv u Q I ro ri rv q
  rcases q with q | q
  · exact h pins s σ H o i v ov iv u Q I ro ri rv q
  · exact h' pins s σ H o i v ov iv u Q I ro ri rv q
abbrev rSetAny (X : Cx) : TSet := fun o i v H Q => rSetL o i v H Q ∨ (rSetKD o i v H Q ∨ rSetT X o i v H Q)
theorem set_any (hu : X.A.units + 10 < cLine) : PSet X (rSetAny X) := PSet.or set_list (PSet.or (set_kdict hu) (set_tdict hu))
/-- o[i] = v -/
def setM (o i v : D) : M Unit := fun h => match o with
  | .ref n => match h[n]? with
    | some (.lst l) => match i with
      | .int k => match ixN l.length k with
        | some j => .ok () (h.set n (.lst (l.set j v)))
        | none => .bad
      | _ => .bad
    | some (.dct false kvs) => match toKey i with
      | some k => if kvs.length < sizeLine then .ok () (h.set n (.dct false (dput toKey k i v kvs))) else .bad
      | none => .bad
    | some (.dct true kvs) => match i with
      | .tup _ => match toK i with
        | some k => if kvs.length < sizeLine ∧ k.depth ≤ 8 then .ok () (h.set n (.dct true (dput toK k i v kvs))) else .bad
        | none => .bad
      | _ => .bad
    | _ => .bad
  | _ => .bad
theorem dlook_any {κ : Type} [DecidableEq κ] {f : D → Option κ} {k : κ} {ks : List κ} : ∀ {kvs : List (D × D)}, kvs.map (fun p => f p.1) = ks.map some → (dlook f k kvs).isSome = ks.any (fun x => decide (x = k)) := by
  induction ks with
  | nil => intro kvs e; cases kvs <;> simp_all [dlook]
  | cons x ks ih =>
    intro kvs e
    cases kvs with
    | nil => simp at e
    | cons p kvs =>
      simp only [List.map_cons, List.cons.injEq] at e
      unfold dlook
      by_cases c : x = k
      · rw [if_pos (by rw [e.1, c])]; simp [c]
      · rw [if_neg (by rw [e.1]; simpa using c), ih e.2]; simp [c]
variable {ρ : Rg} {hd : DH} {H : Hp}
theorem vals_put {G : Gx} {κ α : Type} [DecidableEq κ] {f : D → Option κ} {k : κ} {y e : D} {v : V} {g : α → κ} {gv : α → V} {st : α → α} {nw : α} (hg : ∀ x, g (st x) = g x) (hs : ∀ x, g x = k → gv (st x) = v) (hs' : ∀ x, g x ≠ k → gv (st x) = gv x) (hn : g nw = k) (hv : gv nw = v) (fy : f y = some k) {xs : List α}
    {kvs : List (D × D)} (kk : kvs.map (fun p => f p.1) = xs.map (fun x => some (g x))) (rs : RVs G ρ H (kvs.map (·.2)) (xs.map gv)) (re : RV G ρ H e v) :
    (dput f k y e kvs).map (fun p => f p.1) = (if xs.any (fun x => decide (g x = k)) = true then xs.map st else xs ++ [nw]).map (fun x => some (g x)) ∧
    RVs G ρ H ((dput f k y e kvs).map (·.2)) ((if xs.any (fun x => decide (g x = k)) = true then xs.map st else xs ++ [nw]).map gv) := by
  have ea : (dlook f k kvs).isSome = xs.any (fun x => decide (g x = k)) := by
    rw [dlook_any (ks := xs.map g) (by rw [kk, List.map_map]; rfl), List.any_map]; rfl
  unfold dput
  rw [ea]
  by_cases c : xs.any (fun x => decide (g x = k)) = true
  · rw [if_pos c, if_pos c]
    clear ea c
    induction xs generalizing kvs with
    | nil => cases kvs with
      | nil => exact ⟨rfl, .nil⟩
      | cons _ _ => simp at kk
    | cons x xs ih => cases kvs with
      | nil => simp at kk
      | cons p kvs =>
        simp only [List.map_cons, List.cons.injEq] at kk
        obtain ⟨u, us, e', q1, q2⟩ := RVs.inv rs
        simp only [List.map_cons, List.cons.injEq] at e'
        obtain ⟨rfl, rfl⟩ := e'
        obtain ⟨h1, h2⟩ := ih kk.2 q2
        by_cases c : g x = k
        · rw [List.map_cons, List.map_cons, List.map_cons, if_pos (by rw [kk.1, c]), List.map_cons]
          exact ⟨by rw [h1]; simp [kk.1, hg], .cons (by rw [hs x c]; exact re) h2⟩
        · rw [List.map_cons, List.map_cons, List.map_cons, if_neg (by rw [kk.1]; simpa using c), List.map_cons]
          exact ⟨by rw [h1]; simp [kk.1, hg], .cons (by rw [hs' x c]; exact q1) h2⟩
  · rw [if_neg c, if_neg c]
    refine ⟨by rw [List.map_append, List.map_append, kk]; simp [fy, hn], ?_⟩
    rw [List.map_append, List.map_append]
    exact rs.app (.cons (by rw [hv]; exact re) .nil)
theorem keys_put {G : Gx} {y e : D} {v : V} {b : Addr} {k : NestedKey} (fy : toK y = some k) {xs : List (NestedKey × Addr × V)} {kvs : List (D × D)} (kk : kvs.map (fun p => toK p.1) = xs.map (fun x => some x.1)) (rs : RVs G ρ H (kvs.map (·.1)) (xs.map fun x => V.ref x.2.1)) (re : RV G ρ H y (.ref b)) :
    RVs G ρ H ((dput toK k y e kvs).map (·.1)) ((putT xs k b v).map fun x => V.ref x.2.1) := by
  have ea : (dlook toK k kvs).isSome = xs.any (fun x => decide (x.1 = k)) := by
    rw [dlook_any (ks := xs.map (·.1)) (by rw [kk, List.map_map]; rfl), List.any_map]; rfl
  unfold dput putT
  rw [ea]
  by_cases c : xs.any (fun x => decide (x.1 = k)) = true
  · rw [if_pos c, if_pos c, List.map_map, List.map_map]
    rw [show ((fun p : D × D => p.1) ∘ fun p => if toK p.1 = some k then (p.1, e) else p) = (fun p => p.1) by funext p; simp only [Function.comp]; split <;> rfl]
    rw [show ((fun x : NestedKey × Addr × V => V.ref x.2.1) ∘ fun x => if x.1 = k then (x.1, x.2.1, v) else x) = (fun x => V.ref x.2.1) by funext p; simp only [Function.comp]; split <;> rfl]
    exact rs
  · rw [if_neg c, if_neg c, List.map_append, List.map_append]
    exact rs.app (.cons re .nil)
theorem s_any : Stm X T (rSetAny X) setM := by
  intro ρ hd H d e u x y z Q r q qi qv h
  unfold setM at h
  cases d <;> first | exact h.elim | skip
  rename_i n
  cases q with
  | ref hn =>
    rename_i a
    have hmem := List.mem_of_getElem? hn
    cases c : hd[n]? with
    | none => simp only [c] at h
    | some ob => cases ob with
      | ins _ _ => simp only [c] at h
      | lst l =>
        simp only [c] at h
        cases e <;> first | exact h.elim | skip
        rename_i k
        cases qi
        obtain ⟨xs, ha, rs⟩ := r.ob n _ _ hn c
        cases cj : ixN l.length k with
        | none => simp only [cj] at h
        | some j =>
          simp only [cj] at h
          have s : Stp ρ H ρ (upd H a (.lst (xs.set j z))) := .wr hmem
          exact .inl ⟨a, xs, k, j, rfl, rfl, ha, by rw [← rs.len]; exact cj, h _ (r.wr hn ⟨_, upd_same, RVs.mono s r.muts _ _ (rs.set qv j)⟩) s⟩
      | dct tk kvs => cases tk with
        | false =>
          simp only [c] at h
          obtain ⟨ks, us, ha, kk, eu, rs⟩ := r.ob n _ _ hn c
          subst eu
          cases ck : toKey e with
          | none => simp only [ck] at h
          | some k =>
            simp only [ck] at h
            by_cases cz : kvs.length < sizeLine
            · rw [if_pos cz] at h
              obtain rfl := toKey_kV qi ck
              have hl : ks.length = kvs.length := by have := congrArg List.length kk; simpa using this.symm
              have s : Stp ρ H ρ (upd H a (.dK (putK ks k z))) := .wr hmem
              obtain ⟨v1, v2⟩ := vals_put (f := toKey) (k := k) (y := e) (e := u) (v := z) (g := fun x : Key × V => x.1) (gv := fun x : Key × V => x.2) (st := fun kv => if kv.1 = k then (kv.1, z) else kv) (nw := (k, z))
                (by intro x; split <;> rfl) (by intro x hx; simp [hx]) (by intro x hx; simp [hx]) rfl rfl ck kk rs qv
              refine .inr (.inl ⟨a, _, rfl, .k ha (by rw [hl]; exact cz), h _ (r.wr hn ⟨putK ks k z, _, upd_same, v1, rfl, RVs.mono s r.muts _ _ v2⟩) s⟩)
            · rw [if_neg cz] at h; exact h.elim
        | true =>
          simp only [c] at h
          cases e <;> first | exact h.elim | skip
          rename_i l
          obtain ⟨xs, ts, us, ha, et, rk, kk, eu, rs⟩ := r.ob n _ _ hn c
          subst eu; subst et
          cases ck : toK (.tup l) with
          | none => simp only [ck] at h
          | some k =>
            simp only [ck] at h
            by_cases cz : kvs.length < sizeLine ∧ k.depth ≤ 8
            · rw [if_pos cz] at h
              have hl : xs.length = kvs.length := by have := congrArg List.length kk; simpa using this.symm
              cases qi with
              | tup hs rts pt =>
                rename_i b ws
                have qi : RV (gx X T) ρ H (.tup l) (.ref b) := .tup hs rts pt
                have s : Stp ρ H ρ (upd H a (TDO X.prog X.w a (putT xs k b z))) := .wr hmem
                obtain ⟨v1, v2⟩ := vals_put (f := toK) (k := k) (y := .tup l) (e := u) (v := z) (g := fun x : NestedKey × Addr × V => x.1) (gv := fun x : NestedKey × Addr × V => x.2.2) (st := fun x => if x.1 = k then (x.1, x.2.1, z) else x) (nw := (k, b, z))
                  (by intro x; split <;> rfl) (by intro x hx; simp [hx]) (by intro x hx; simp [hx]) rfl rfl ck kk rs qv
                have v3 := keys_put (v := z) (e := u) ck kk rk qi
                refine .inr (.inr ⟨a, b, k, xs, rfl, rfl, ha, by rw [hl]; exact cz.1, cz.2, fun pins σ s I => ⟨rv_key I _ _ _ k qi ck rfl, fun ys p => ?_⟩, h _ (r.wr hn ⟨putT xs k b z, _, _, upd_same, rfl, RVs.mono s r.muts _ _ v3, v1, rfl, RVs.mono s r.muts _ _ v2⟩) s⟩)
                obtain ⟨_, _, _, h4, _⟩ := TD.of I ⟨ha, rk, kk, rs⟩
                exact td_is I rk kk p h4
            · rw [if_neg cz] at h; exact h.elim
end
/-! ### {} -/
section
variable {X : Cx} {T : Tb} {W : WX} {pos : Pos}
def tDNew (tk : Bool) (X : Cx) : TE := fun _ H Q => ∀ p, H p = none → Q (.ref p) (upd H p (if tk then TDO X.prog X.w p [] else .dK []))
theorem pe_dnew {tk : Bool} : PE X (.Dict [] [] pos) (tDNew tk X) := ⟨fun pins s σ H Q I h => by
  cases tk with
  | false => exact wpAny_Dict_empty ⟨.ref s.heap.objs.size, _, I.laid (a := s.heap.objs.size) (o := .dK []) (t' := s.toks) (fun _ _ q => Heap.get?_push_of_some _ q) (Nat.le_refl _) (dk_empty s.heap I.big), rfl, h _ (I.hok.fresh (Nat.le_refl _))⟩
  | true =>
    refine wpAny_Dict_empty ⟨.ref s.heap.objs.size, _, I.laid (a := s.heap.objs.size) (o := TDO X.prog X.w s.heap.objs.size []) (t' := s.toks) (fun _ _ q => Heap.get?_push_of_some _ q) (Nat.le_refl _) ?_, rfl, h _ (I.hok.fresh (Nat.le_refl _))⟩
    exact ext_ok (beq_eq_false_iff_ne.mpr (Ne.symm (Nat.ne_of_lt I.big))) (Nat.zero_le _) (by simp) .nil (Heap.DictOfH.new s.heap)⟩
def mDct (tk : Bool) : SD → M D := fun _ h => .ok (.ref h.length) (h ++ [.dct tk []])
theorem em_dct : ∀ {tk : Bool}, PEm X T W (.Dict [] [] pos) (mDct tk)
  | false => weakE (pe_dnew (tk := false)) fun σ H Q ⟨ρ, hd, sd, r, st, h⟩ p hp =>
    h (ρ.add p) (upd H p (.dK [])) (.ref p) (r.mk1 hp ⟨[], [], upd_same, rfl, rfl, .nil⟩) (.mk1 hp) (.ref (by rw [← r.len]; simp [Rg.add]))
  | true => weakE (pe_dnew (tk := true)) fun σ H Q ⟨ρ, hd, sd, r, st, h⟩ p hp =>
    h (ρ.add p) (upd H p (TDO X.prog X.w p [])) (.ref p) (r.mk1 hp ⟨[], [], [], upd_same, rfl, .nil, rfl, rfl, .nil⟩) (.mk1 hp) (.ref (by rw [← r.len]; simp [Rg.add]))
end
end Wy

set_option Elab.async false
set_option linter.all false
set_option maxRecDepth 100000
set_option maxHeartbeats 4000000
namespace Wy
open PySem PySem.Spec PyProof.Rows L2

/-! ### in, not in -/
section
variable {X : Cx} {T : Tb} {W : WX} {a b : Expr} {pos : Pos}
def rInT (K : PySem.W.Frag) (neg : Bool) : R2 := fun x y H Q => ∃ d ds, Dp K H x d ∧ Dp K H y (.tuple ds) ∧ SeqAt.shaped d = true ∧ SeqAt.shaped (.tuple ds) = true ∧ Q (.bl (neg ^^ ds.any fun z => PyData.eqv z d)) H
theorem op_inT (hu : X.A.units + 65 < cLine) : OpR X (compareOp .In) (rInT X.K false) := by
  intro pins s σ H x y v u Q I rx ry h
  obtain ⟨d, ds, hd, he, sd, se, q⟩ := h
  obtain ⟨as, r1⟩ := Dp.reads I d x v hd rx
  obtain ⟨bs, r2⟩ := Dp.reads I (.tuple ds) y u he ry
  exact SeqAt.in_tuple_reads r2 r1 (SeqAt.canLay_of_shaped se) (SeqAt.canLay_of_shaped sd) (room_in_shaped sd hu) ⟨.bl (ds.any fun z => PyData.eqv z d), H, I, rfl, by simpa using q⟩
theorem op_notInT (hu : X.A.units + 65 < cLine) : OpR X (compareOp .NotIn) (rInT X.K true) := by
  intro pins s σ H x y v u Q I rx ry h
  obtain ⟨d, ds, hd, he, sd, se, q⟩ := h
  obtain ⟨as, r1⟩ := Dp.reads I d x v hd rx
  obtain ⟨bs, r2⟩ := Dp.reads I (.tuple ds) y u he ry
  exact SeqAt.notIn_tuple_reads r2 r1 (SeqAt.canLay_of_shaped se) (SeqAt.canLay_of_shaped sd) (room_in_shaped sd hu) ⟨.bl (!ds.any fun z => PyData.eqv z d), H, I, rfl, by simpa using q⟩
def inStr (i j : Str) : Bool := !(Builtin.Str.occurrences j i 0 j.length 1).isEmpty
/-- is x in y -/
def inQ (h : DH) (x y : D) : Option Bool := match y with
  | .str j => match x with
    | .str i => some (inStr i j)
    | _ => none
  | y => match dictOf h y with
    | some _ => (dGet h y x).map (·.isSome)
    | none => match toP h y, toP h x with
      | some (.list ps), some p => if (PyData.list ps).depth ≤ 64 ∧ p.depth ≤ 64 then some (ps.any fun z => PyData.eqv z p) else none
      | some (.tuple ps), some p => if (PyData.tuple ps).depth ≤ 64 ∧ p.depth ≤ 64 then some (ps.any fun z => PyData.eqv z p) else none
      | _, _ => none
def inM (neg : Bool) (x y : D) : M D := fun h => match inQ h x y with
  | some b => .ok (.bl (neg ^^ b)) h
  | none => .bad
abbrev rInAll (X : Cx) : R2 := fun x y H Q => (rInD X.K x y H Q ∨ rInT X.K false x y H Q) ∨ ((∃ i j, x = .str i ∧ y = .str j ∧ Q (.bl (!(Builtin.Str.occurrences j i 0 j.length 1).isEmpty)) H) ∨ rInDc X x y H Q)
abbrev rNotInAll (X : Cx) : R2 := fun x y H Q => (rNotInD X.K x y H Q ∨ rInT X.K true x y H Q) ∨ ((∃ i j, x = .str i ∧ y = .str j ∧ Q (.bl (!(!(Builtin.Str.occurrences j i 0 j.length 1).isEmpty))) H) ∨ rNotInDc X x y H Q)
theorem op_inAll (hu : X.A.units + 65 < cLine) : OpR X (compareOp .In) (rInAll X) := ((op_inD hu).or (op_inT hu)).or (op_in_str.or (op_inDc (by omega)))
theorem op_notInAll (hu : X.A.units + 65 < cLine) : OpR X (compareOp .NotIn) (rNotInAll X) := ((op_notInD hu).or (op_notInT hu)).or (op_notin_str.or (op_notInDc (by omega)))
theorem inQ_res {ρ : Rg} {hd : DH} {H : Hp} {d e : D} {x y : V} {b : Bool} (r : Rep (gx X T) ρ hd H) (q : RV (gx X T) ρ H d x) (q' : RV (gx X T) ρ H e y) (h : inQ hd d e = some b) :
    (∃ p ps, Dp X.K H x p ∧ (Dp X.K H y (.list ps) ∧ SeqAt.shaped (.list ps) = true ∨ Dp X.K H y (.tuple ps) ∧ SeqAt.shaped (.tuple ps) = true) ∧ SeqAt.shaped p = true ∧ b = ps.any fun z => PyData.eqv z p) ∨
    (∃ i j, x = .str i ∧ y = .str j ∧ b = inStr i j) ∨ ∃ a o, y = .ref a ∧ DAny X H a x o ∧ b = o.isSome := by
  have data : (match dictOf hd e with
    | some _ => (dGet hd e d).map (·.isSome)
    | none => match toP hd e, toP hd d with
      | some (.list ps), some p => if (PyData.list ps).depth ≤ 64 ∧ p.depth ≤ 64 then some (ps.any fun z => PyData.eqv z p) else none
      | some (.tuple ps), some p => if (PyData.tuple ps).depth ≤ 64 ∧ p.depth ≤ 64 then some (ps.any fun z => PyData.eqv z p) else none
      | _, _ => none) = some b → (∃ p ps, Dp X.K H x p ∧ (Dp X.K H y (.list ps) ∧ SeqAt.shaped (.list ps) = true ∨ Dp X.K H y (.tuple ps) ∧ SeqAt.shaped (.tuple ps) = true) ∧ SeqAt.shaped p = true ∧ b = ps.any fun z => PyData.eqv z p) ∨ (∃ i j, x = .str i ∧ y = .str j ∧ b = inStr i j) ∨ ∃ a o, y = .ref a ∧ DAny X H a x o ∧ b = o.isSome := fun h => by
    cases c : dictOf hd e with
    | some kv =>
      rw [c] at h
      obtain ⟨o, e1, e2⟩ := Option.map_eq_some_iff.mp h
      obtain ⟨a, o', rfl, g, ro⟩ := dGet_rv r q' q e1
      refine .inr (.inr ⟨a, o', rfl, g, ?_⟩)
      rw [← e2]
      cases o with
      | none => rw [show o' = none from ro]; rfl
      | some z => obtain ⟨w, e3, _⟩ := ro; rw [e3]; rfl
    | none =>
      rw [c] at h
      cases e1 : toP hd e with
      | none => simp only [e1] at h; cases h
      | some P => cases e2 : toP hd d with
        | none => simp only [e1, e2] at h; cases P <;> cases h
        | some p =>
          simp only [e1, e2] at h
          obtain ⟨h1, h2⟩ := toP_rv r q' e1
          obtain ⟨h3, h4⟩ := toP_rv r q e2
          cases P <;> first | cases h | skip
          · rename_i ps
            by_cases cz : (PyData.list ps).depth ≤ 64 ∧ p.depth ≤ 64
            · simp only [cz, and_self, if_true] at h
              cases h
              exact .inl ⟨p, ps, h3, .inl ⟨h1, shaped_of h2 cz.1⟩, shaped_of h4 cz.2, rfl⟩
            · simp only [cz, if_false] at h; cases h
          · rename_i ps
            by_cases cz : (PyData.tuple ps).depth ≤ 64 ∧ p.depth ≤ 64
            · simp only [cz, and_self, if_true] at h
              cases h
              exact .inl ⟨p, ps, h3, .inr ⟨h1, shaped_of h2 cz.1⟩, shaped_of h4 cz.2, rfl⟩
            · simp only [cz, if_false] at h; cases h
  cases e with
  | str j =>
    cases d <;> first | cases h | skip
    cases q; cases q'
    exact .inr (.inl ⟨_, _, rfl, rfl, rfl⟩)
  | _ => exact data h
theorem r_in : R2m X T (rInAll X) (inM false) := by
  intro W ρ hd H d e x y σ Q r q q' z
  unfold inM at z
  cases c : inQ hd d e with
  | none => rw [c] at z; exact z.elim
  | some b =>
    rw [c] at z
    have hq := ans r (.bl _) z
    rcases inQ_res r q q' c with ⟨p, ps, h1, h2 | h2, h3, rfl⟩ | ⟨i, j, rfl, rfl, rfl⟩ | ⟨a, o, rfl, g, rfl⟩
    · exact .inl (.inl ⟨p, ps, h1, h2.1, h3, h2.2, by simpa using hq⟩)
    · exact .inl (.inr ⟨p, ps, h1, h2.1, h3, h2.2, by simpa using hq⟩)
    · exact .inr (.inl ⟨i, j, rfl, rfl, by simpa [inStr] using hq⟩)
    · exact .inr (.inr ⟨a, o, rfl, g, by simpa using hq⟩)
theorem r_notIn : R2m X T (rNotInAll X) (inM true) := by
  intro W ρ hd H d e x y σ Q r q q' z
  unfold inM at z
  cases c : inQ hd d e with
  | none => rw [c] at z; exact z.elim
  | some b =>
    rw [c] at z
    have hq := ans r (.bl _) z
    rcases inQ_res r q q' c with ⟨p, ps, h1, h2 | h2, h3, rfl⟩ | ⟨i, j, rfl, rfl, rfl⟩ | ⟨a, o, rfl, g, rfl⟩
    · exact .inl (.inl ⟨p, ps, h1, h2.1, h3, h2.2, by simpa using hq⟩)
    · exact .inl (.inr ⟨p, ps, h1, h2.1, h3, h2.2, by simpa using hq⟩)
    · exact .inr (.inl ⟨i, j, rfl, rfl, by simpa [inStr] using hq⟩)
    · exact .inr (.inr ⟨a, o, rfl, g, by simpa using hq⟩)

/-! ### o[i], dicts as well -/
def ixA (d e : D) : M D := fun h => match dictOf h d with
  | some _ => match dGet h d e with
    | some (some v) => .ok v h
    | _ => .bad
  | none => ixM d e h
abbrev rIxAll (X : Cx) : R2 := fun x y H Q => rIx X.K x y H Q ∨ rIxDc X x y H Q
theorem r_ixA : R2m X T (rIxAll X) ixA := by
  intro W ρ hd H d e x y σ Q r q q' z
  unfold ixA at z
  cases c : dictOf hd d with
  | none => rw [c] at z; exact .inl (r_ix W ρ hd H d e x y σ Q r q q' z)
  | some kv =>
    rw [c] at z
    cases e1 : dGet hd d e with
    | none => simp only [e1] at z; exact z.elim
    | some o => cases o with
      | none => simp only [e1] at z; exact z.elim
      | some v =>
        simp only [e1] at z
        obtain ⟨a, o', rfl, g, w, rfl, rw'⟩ := dGet_rv r q q' e1
        exact .inr ⟨a, w, rfl, g, ans r rw' z⟩
theorem em_ixA {ma mb : SD → M D} (hu : X.A.units + 10 < cLine) (ha : PEm X T W a ma) (hb : PEm X T W b mb) (hs : PlainIx b) : PEm X T W (.Subscript a b pos) (m2 ixA ma mb) := weakE (pe_ix (ix_seq.or (ix_dc hu)) ha hb hs) (op_go r_ixA)

/-! ### <, >, <=, >= -/
inductive Or4 | lt | gt | le | ge
def Or4.op : Or4 → CmpOp
  | .lt => .Lt
  | .gt => .Gt
  | .le => .LtE
  | .ge => .GtE
def Or4.p : Or4 → PyData → PyData → Bool
  | .lt, x, y => PySem.W.dataLt x y
  | .gt, x, y => PySem.W.dataLt y x
  | .le, x, y => !PySem.W.dataLt y x
  | .ge, x, y => !PySem.W.dataLt x y
def Or4.i : Or4 → Int → Int → Bool
  | .lt, x, y => decide (x < y)
  | .gt, x, y => decide (y < x)
  | .le, x, y => decide (x ≤ y)
  | .ge, x, y => decide (y ≤ x)
theorem Or4.p_int (o : Or4) (i j : Int) : o.p (.int i) (.int j) = o.i i j := by
  cases o <;> simp only [Or4.p, Or4.i, PySem.W.dataLt_int]
  · by_cases h : j < i <;> simp [h] <;> omega
  · by_cases h : i < j <;> simp [h] <;> omega
def isNoneP : PyData → Bool
  | .none => true
  | _ => false
def rOrd (K : PySem.W.Frag) (o : Or4) : R2 := fun x y H Q => ∃ d e, Dp K H x d ∧ Dp K H y e ∧ PySem.W.alike d e = true ∧ isNoneP d = false ∧ d.depth ≤ 64 ∧ Q (.bl (o.p d e)) H
theorem op_ord (hu : X.A.units + 65 < cLine) : ∀ o : Or4, OpR X (compareOp o.op) (rOrd X.K o) := by
  intro o pins s σ H x y v u Q I rx ry h
  obtain ⟨d, e, hd, he, al, nn, dz, q⟩ := h
  obtain ⟨as, r1⟩ := Dp.reads I d x v hd rx
  obtain ⟨bs, r2⟩ := Dp.reads I e y u he ry
  have nn : d ≠ .none := fun z => by subst z; cases nn
  have hu' : X.A.units + min d.depth e.depth < cLine := by omega
  cases o
  · exact PySem.W.lt_data r1 r2 al nn hu' ⟨.bl _, H, I, rfl, q⟩
  · exact PySem.W.gt_data r1 r2 al nn hu' ⟨.bl _, H, I, rfl, q⟩
  · exact PySem.W.le_data r1 r2 al nn hu' ⟨.bl _, H, I, rfl, q⟩
  · exact PySem.W.ge_data r1 r2 al nn hu' ⟨.bl _, H, I, rfl, q⟩
def ordM (o : Or4) (x y : D) : M D := fun h => match toP h x, toP h y with
  | some p, some q => if PySem.W.alike p q = true ∧ isNoneP p = false ∧ p.depth ≤ 64 then .ok (.bl (o.p p q)) h else .bad
  | _, _ => .bad
theorem ordM_int (o : Or4) (i j : Int) (h : DH) : ordM o (.int i) (.int j) h = .ok (.bl (o.i i j)) h := by
  show (if PySem.W.alike (.int i) (.int j) = true ∧ isNoneP (.int i) = false ∧ (PyData.int i).depth ≤ 64 then Re.ok (D.bl (o.p (.int i) (.int j))) h else .bad) = _
  rw [if_pos ⟨by simp [PySem.W.alike], rfl, by simp [PyData.depth]⟩, o.p_int]
theorem r_ord (o : Or4) : R2m X T (rOrd X.K o) (ordM o) := by
  intro W ρ hd H d e x y σ Q r q q' z
  unfold ordM at z
  cases e1 : toP hd d with
  | none => rw [e1] at z; exact z.elim
  | some p => cases e2 : toP hd e with
    | none => rw [e1, e2] at z; exact z.elim
    | some p' =>
      rw [e1, e2] at z
      dsimp only at z
      obtain ⟨h1, _⟩ := toP_rv r q e1
      obtain ⟨h3, _⟩ := toP_rv r q' e2
      by_cases c : PySem.W.alike p p' = true ∧ isNoneP p = false ∧ p.depth ≤ 64
      · rw [if_pos c] at z
        exact ⟨p, p', h1, h3, c.1, c.2.1, c.2.2, ans r (.bl _) z⟩
      · rw [if_neg c] at z; exact z.elim

/-! ### is None, is True -/
def isM (neg : Bool) (x y : D) : M D := fun h => match x, y with
  | .bl a, .bl b => .ok (.bl (neg ^^ decide (a = b))) h
  | x, .non => .ok (.bl (neg ^^ decide (x = .non))) h
  | _, _ => .bad
theorem non_iff {ρ : Rg} {H : Hp} {d : D} {x : V} (q : RV (gx X T) ρ H d x) : (x = .non) ↔ d = .non := by
  cases q <;> simp
abbrev rIs : R2 := fun x y H Q => (y = .non ∧ Q (.bl (decide (x = .non))) H) ∨ ∃ a b, x = .bl a ∧ y = .bl b ∧ Q (.bl (decide (a = b))) H
abbrev rIsNot : R2 := fun x y H Q => (y = .non ∧ Q (.bl (!decide (x = .non))) H) ∨ ∃ a b, x = .bl a ∧ y = .bl b ∧ Q (.bl (!decide (a = b))) H
theorem op_isA : OpR X (compareOp .Is) rIs := op_isN.or op_is_bl
theorem op_isNotA : OpR X (compareOp .IsNot) rIsNot := op_notN.or op_isnot_bl
theorem r_isA : R2m X T rIs (isM false) := by
  intro W ρ hd H d e x y σ Q r q q' z
  unfold isM at z
  split at z
  · cases q; cases q'
    exact .inr ⟨_, _, rfl, rfl, by simpa using ans r (.bl _) z⟩
  · cases q'
    have := non_iff q
    refine .inl ⟨rfl, ?_⟩
    have h := ans r (.bl _) z
    simp only [Bool.false_xor] at h
    rw [show decide (x = V.non) = decide (d = D.non) by simp [this]]
    exact h
  · exact z.elim
theorem r_isNotA : R2m X T rIsNot (isM true) := by
  intro W ρ hd H d e x y σ Q r q q' z
  unfold isM at z
  split at z
  · cases q; cases q'
    exact .inr ⟨_, _, rfl, rfl, by simpa using ans r (.bl _) z⟩
  · cases q'
    have := non_iff q
    refine .inl ⟨rfl, ?_⟩
    have h := ans r (.bl _) z
    simp only [Bool.true_xor] at h
    rw [show decide (x = V.non) = decide (d = D.non) by simp [this]]
    exact h
  · exact z.elim
end
end Wy

set_option Elab.async false
set_option linter.all false
set_option maxRecDepth 100000
set_option maxHeartbeats 4000000
namespace Wy
open PySem PySem.Spec PyProof.Rows L2

/-! ### sorted -/
section
variable {X : Cx} {T : Tb}
def sortZ {β : Type} (xs : List β) (ps : List PyData) : List β := ((xs.zip ps).mergeSort (PySem.W.dataLe false (·.2))).map (·.1)
def rSortedD (K : PySem.W.Frag) : List V → Hp → VK → Prop := fun vs H Q => ∃ a xs ps, vs = [V.ref a] ∧ SqL K H a xs ∧ DpAll K H xs ps ∧ PySem.W.AllAlike ps ∧ PySem.W.Sortable ps ∧ (∀ p ∈ ps, p.depth ≤ 64) ∧
  ∀ p, H p = none → Q (.ref p) (upd H p (.lst (sortZ xs ps)))
theorem DpAll.len {K : PySem.W.Frag} {H : Hp} : ∀ {xs : List V} {ps : List PyData}, DpAll K H xs ps → xs.length = ps.length
  | _, _, .nil => rfl
  | _, _, .cons _ t => by simp [DpAll.len t]
theorem vals_each {R : Value → V × PyData → Prop} (h : ∀ v b, R v b → RelV b.1 v) : ∀ {out : List Value} {bs : List (V × PyData)}, PySem.W.EachIs R out bs → Vals (bs.map (·.1)) out
  | _, _, .nil => .nil
  | _, _, .cons r t => .cons (h _ _ r) (vals_each h t)
theorem each_zip {pins : List (Addr × Obj)} {σ : L2.St} {H : Hp} {s : Shared} (I : Inv X pins σ H s) : ∀ {xs : List V} {us : List Value} {ps : List PyData}, Vals xs us → DpAll X.K H xs ps →
    PySem.W.EachIs (fun v (b : V × PyData) => RelV b.1 v) us (xs.zip ps) ∧ PySem.W.EachIs (fun v (b : V × PyData) => ∃ as, Reads s.heap v b.2 as) us (xs.zip ps)
  | [], _, _, .nil, d => by cases d; exact ⟨.nil, .nil⟩
  | x :: xs, u :: us, _, .cons r t, d => by
    cases d with
    | cons d1 d2 =>
      obtain ⟨h1, h2⟩ := each_zip I t d2
      exact ⟨.cons r h1, .cons (Dp.reads I _ x u d1 r) h2⟩
theorem cr_sortedD (hu : X.A.units + 70 < cLine) : CallR X (.builtin "sorted") (rSortedD X.K) := by
  intro pins s σ H vs us Q I r h
  obtain ⟨a, xs, ps, rfl, hs, hd, al, so, dz, q⟩ := h
  obtain ⟨its, rv, hl, hz⟩ := I.list hs
  rw [Vals.ref1 r]
  obtain ⟨e1, e2⟩ := each_zip I rv hd
  have hlen := DpAll.len hd
  have em : (xs.zip ps).map (·.2) = ps := List.map_snd_zip (by omega)
  refine PySem.W.sorted_data (bs := xs.zip ps) (enc := fun b => b.2) (R := fun v b => RelV b.1 v) hl.isList e1 e2 (by rw [em]; exact al) (by rw [em]; exact so) (by rw [List.length_zip]; omega) (fun b hb => ?_) fun out ho eo => ?_
  · have := dz b.2 (by rw [← em]; exact List.mem_map_of_mem hb)
    omega
  · obtain ⟨ep, he'⟩ := PyProof.Rows.sortedAll_at s.heap its out.toArray
    have vo : Vals (sortZ xs ps) out := vals_each (fun _ _ h => h) eo
    refine ⟨.ref (s.heap.objs.size + 1), upd H (s.heap.objs.size + 1) (.lst (sortZ xs ps)), I.laid (t' := s.toks) (fun _ _ => PyProof.Rows.sortedAll_old) (Nat.le_succ _) ⟨?_, out, ep, vo, he'⟩, rfl, q _ (I.hok.fresh (Nat.le_succ _))⟩
    rw [vo.length, ho, List.length_zip]
    omega
def allAlike (ps : List PyData) : Bool := ps.all fun p => ps.all fun q => PySem.W.alike p q
def isTup1 : PyData → Bool
  | .tuple (_ :: _) => true
  | _ => false
def noTup : PyData → Bool
  | .tuple _ => false
  | .none => false
  | _ => true
def sortable (ps : List PyData) : Bool := ps.all isTup1 || ps.all noTup
theorem allAlike_of {ps : List PyData} (h : allAlike ps = true) : PySem.W.AllAlike ps := fun d hd d' hd' => by
  unfold allAlike at h
  exact List.all_eq_true.mp (List.all_eq_true.mp h d hd) d' hd'
theorem sortable_of {ps : List PyData} (h : sortable ps = true) : PySem.W.Sortable ps := by
  unfold sortable at h
  rcases Bool.or_eq_true _ _ ▸ h with h | h
  · refine .inl fun d hd => ?_
    have := List.all_eq_true.mp h d hd
    unfold isTup1 at this
    split at this
    · exact ⟨_, _, rfl⟩
    · cases this
  · refine .inr fun d hd => ?_
    have := List.all_eq_true.mp h d hd
    constructor
    · rintro rfl; cases this
    · rintro xs rfl; cases this
theorem sortZ_rv {G : Gx} {ρ : Rg} {H : Hp} {l : List D} {xs : List V} {ps : List PyData} (hl : l.length = ps.length) (r : RVs G ρ H l xs) : RVs G ρ H (sortZ l ps) (sortZ xs ps) := by
  have key : ∀ {β : Type} (f : (D × V) × PyData → β × PyData) (h : ∀ z, (f z).2 = z.2) (g : List β), g.zip ps = ((l.zip xs).zip ps).map f → sortZ g ps = (((l.zip xs).zip ps).mergeSort (PySem.W.dataLe false (·.2))).map (fun z => (f z).1) := by
    intro β f h g e
    unfold sortZ
    rw [e, ← List.map_mergeSort (r := PySem.W.dataLe false (·.2)) (s := PySem.W.dataLe false (·.2)) (f := f), List.map_map]
    · rfl
    · intro a _ b _
      simp only [PySem.W.dataLe_eq, h]
  have el := r.len
  have e1 : l.zip ps = ((l.zip xs).zip ps).map (fun z => (z.1.1, z.2)) := by
    have : l = (l.zip xs).map (·.1) := (List.map_fst_zip (by omega)).symm
    conv => lhs; rw [this]
    rw [List.zip_map_left]; rfl
  have e2 : xs.zip ps = ((l.zip xs).zip ps).map (fun z => (z.1.2, z.2)) := by
    have : xs = (l.zip xs).map (·.2) := (List.map_snd_zip (by omega)).symm
    conv => lhs; rw [this]
    rw [List.zip_map_left]; rfl
  rw [key (fun z => (z.1.1, z.2)) (fun _ => rfl) l e1, key (fun z => (z.1.2, z.2)) (fun _ => rfl) xs e2]
  dsimp only
  have all : ∀ z ∈ ((l.zip xs).zip ps).mergeSort (PySem.W.dataLe false (·.2)), RV G ρ H z.1.1 z.1.2 := fun z hz => by
    have hz : z ∈ (l.zip xs).zip ps := (List.mergeSort_perm _ _).mem_iff.mp hz
    have h1 : z.1 ∈ l.zip xs := (List.of_mem_zip (a := z.1) (b := z.2) hz).1
    obtain ⟨i, hi, e⟩ := List.getElem_of_mem h1
    have hi1 : i < l.length := by simp at hi; omega
    obtain ⟨v, ev, rv⟩ := r.get (List.getElem?_eq_getElem hi1)
    have hi2 : i < xs.length := by omega
    rw [List.getElem?_eq_getElem hi2] at ev
    cases ev
    rw [← e, List.getElem_zip]
    exact rv
  generalize ((l.zip xs).zip ps).mergeSort (PySem.W.dataLe false (·.2)) = zs at all
  induction zs with
  | nil => exact .nil
  | cons z zs ih => exact .cons (all z (by simp)) (ih fun w hw => all w (by simp [hw]))
theorem sortZ_len {β : Type} {xs : List β} {ps : List PyData} (h : xs.length = ps.length) : (sortZ xs ps).length = xs.length := by
  unfold sortZ
  rw [List.length_map, List.length_mergeSort, List.length_zip]
  omega
def sorted1 (mt : Bool) : D → M D := fun d h => match rlistOf h d with
  | some l => match toPs h 4 l with
    | some ps => if allAlike ps = true ∧ sortable ps = true ∧ PyData.depthAll ps ≤ 64 then mkL mt (sortZ l ps) h else .bad
    | none => .bad
  | none => .bad
theorem depth_mem {p : PyData} : ∀ {ps : List PyData}, p ∈ ps → p.depth ≤ PyData.depthAll ps
  | q :: qs, h => by
    rcases List.mem_cons.mp h with rfl | h
    · simp only [PyData.depthAll]; omega
    · have := depth_mem h
      simp only [PyData.depthAll]; omega
theorem c_sorted (mt : Bool) : Cm X T (rSortedD X.K) (one (sorted1 mt)) := by
  intro W ρ hd H ds vs σ Q r q z
  obtain ⟨d, v, rfl, rfl, q, z⟩ := one_res q z
  unfold sorted1 at z
  cases e1 : rlistOf hd d with
  | none => simp only [e1] at z; exact z.elim
  | some l =>
    simp only [e1] at z
    cases e2 : toPs hd 4 l with
    | none => simp only [e2] at z; exact z.elim
    | some ps =>
      simp only [e2] at z
      by_cases c : allAlike ps = true ∧ sortable ps = true ∧ PyData.depthAll ps ≤ 64
      · rw [if_pos c] at z
        obtain ⟨p, xs, rfl, hp, rs⟩ := rlistOf_rv r q e1
        obtain ⟨hd', h2⟩ := toPs_rv r 4 _ _ _ rs e2
        have hl : l.length = ps.length := rs.len.trans (DpAll.len hd')
        obtain ⟨z1, z2⟩ := mkL_res r (sortZ_rv hl rs) z
        refine ⟨p, xs, ps, rfl, hp, hd', allAlike_of c.1, sortable_of c.2.1, fun p hp => ?_, z2⟩
        have := depth_mem hp
        have h3 := c.2.2
        omega
      · rw [if_neg c] at z; exact z.elim

/-! ### repr -/
def rReprD (K : PySem.W.Frag) : List V → Hp → VK → Prop := fun vs H Q => ∃ x p, vs = [x] ∧ Dp K H x p ∧ p.canLay0 = true ∧ p.showable = true ∧ p.depth ≤ 64 ∧ p.shown.length ≤ sizeLine ∧ Q (.str p.shown) H
theorem cr_repr (hg : X.A.guards = some []) (hu : X.A.units + 70 < cLine) : CallR X (.builtin "repr") (rReprD X.K) := by
  intro pins s σ H vs us Q I r h
  obtain ⟨x, p, rfl, hd, hc, hs, dz, hz, q⟩ := h
  obtain ⟨u, rfl, rx⟩ := vals1 r
  obtain ⟨as, rd⟩ := Dp.reads I p x u hd rx
  have fin : ∀ {h' : Heap} {t : Tok} {tk : Nat}, (∀ b o, s.heap.get? b = some o → h'.get? b = some o) → EP X pins σ Q (.str p.shown t) { s with heap := h', toks := tk } := fun k => ⟨.str p.shown, H, I.kept k, ⟨_, rfl⟩, q⟩
  cases hd with
  | non => cases rx; exact PySem.P.repr_of_none (fin fun _ _ e => e)
  | bl b => cases rx; exact PySem.P.repr_of_bool (fin fun _ _ e => e)
  | int i =>
    obtain ⟨t, rfl⟩ := rx
    exact PySem.P.repr_of_int (by simpa [PyData.showable] using hs) (fin fun _ _ e => e)
  | str y =>
    obtain ⟨t, rfl⟩ := rx
    exact PySem.P.repr_of_str (fin fun _ _ e => e) (hsz := hz)
  | lst h1 h2 =>
    cases rx
    exact repr_of_reads' rd hs (fun hx => by rw [PyData.hasDict_of_canLay _ hc] at hx; cases hx) hg (by omega) (fun _ _ e => e) (fun h' u tk k => fin k) (hsz := hz)
  | tup h1 h2 =>
    cases rx
    exact repr_of_reads' rd hs (fun hx => by rw [PyData.hasDict_of_canLay _ hc] at hx; cases hx) hg (by omega) (fun _ _ e => e) (fun h' u tk k => fin k) (hsz := hz)
def repr1 : D → M D := fun d h => match toP h d with
  | some p => if p.showable = true ∧ p.depth ≤ 64 ∧ p.shown.length ≤ sizeLine ∧ PyData.strOk p.shown = true then .ok (.str p.shown) h else .bad
  | none => .bad
theorem c_repr : Cm X T (rReprD X.K) (one repr1) := by
  intro W ρ hd H ds vs σ Q r q z
  obtain ⟨d, v, rfl, rfl, q, z⟩ := one_res q z
  unfold repr1 at z
  cases e1 : toP hd d with
  | none => simp only [e1] at z; exact z.elim
  | some p =>
    simp only [e1] at z
    by_cases c : p.showable = true ∧ p.depth ≤ 64 ∧ p.shown.length ≤ sizeLine ∧ PyData.strOk p.shown = true
    · rw [if_pos c] at z
      obtain ⟨h1, h2⟩ := toP_rv r q e1
      exact ⟨v, p, rfl, h1, h2, c.1, c.2.1, c.2.2.1, ans r (.str _ c.2.2.2) z⟩
    · rw [if_neg c] at z; exact z.elim
end
end Wy

set_option Elab.async false
set_option linter.all false
set_option maxRecDepth 100000
set_option maxHeartbeats 4000000
namespace Wy
open PySem PySem.Spec PyProof.Rows L2

/-! ### the words that a generated walk is written in -/
/-- built-ins that the text doesn't shadow -/
structure Bu (mg : Str → Option Value) : Prop where
  len : mg "len" = none
  tuple : mg "tuple" = none
  list : mg "list" = none
  min : mg "min" = none
  max : mg "max" = none
  int : mg "int" = none
  str : mg "str" = none
  repr : mg "repr" = none
  sorted : mg "sorted" = none
  enumerate : mg "enumerate" = none
  range : mg "range" = none
structure Cxt (X : Cx) (k : Nat) : Prop where
  calm : X.calm = true
  nd : X.N.Nodup
  room : Room k X.A
  bu : Bu X.mg
section
variable {X : Cx} {k : Nat}
theorem Cxt.u65 (c : Cxt X k) : X.A.units + 65 < cLine := by have := c.room.un; omega
theorem Cxt.u70 (c : Cxt X k) : X.A.units + 70 < cLine := by have := c.room.un; omega
theorem Cxt.u64 (c : Cxt X k) : X.A.units + 64 < cLine := by have := c.room.un; omega
theorem Cxt.u10 (c : Cxt X k) : X.A.units + 10 < cLine := by have := c.room.un; omega
theorem Cxt.blk (c : Cxt X k) {s : Shared} {H : Hp} {sc : Scope} {e : Env} {fp : List Addr} : Cxt (X.blk s H sc e fp) k := ⟨c.calm, c.nd, c.room, c.bu⟩
theorem takes0 : Takes X W0 := fun u s' ⟨_, _, _, _, _, _, _, _, _, _, _, _, _, _, _, _, w⟩ => w.elim
end
class LenC (n : outParam Nat) (ml : SD → M (List D)) : Prop where
  len : Len n ml
instance : LenC 0 mNil := ⟨len_nil⟩
instance {m : SD → M D} {ml : SD → M (List D)} {n : Nat} [h : LenC n ml] : LenC (n + 1) (mCons m ml) := ⟨len_cons h.len⟩

section
variable {X : Cx} {T : Tb} {E : XK} {W : WX} {k : Nat} {e a b c o : Expr} {es : List Expr} {st : Stmt} {sts : List Stmt} {pos p : Pos}
/-! values -/
theorem v (i : Nat) {x : Str} (hN : X.N[i]? = some x := by rfl) (hv : Vis X.env.scope x := by first | exact Or.inl rfl | exact Or.inr (Or.inl rfl) | exact Or.inr (Or.inr rfl)) (hd : (x == ("__debug__" : Str)) = false := by decide)
    (hcd : (x == ("__classdict__" : Str)) = false := by decide) : PEm X T W (.Name x pos) (mVar i) := em_of (pe_var hN hv hd hcd)
theorem kI {i : Int} {j : Nat} : PEm X T W (.Constant (.int i) j pos) (mC (.int i)) := em_const pe_int fun _ _ => .int i
theorem kS {x : Str} {j : Nat} (h : PyData.strOk x = true := by decide +kernel) : PEm X T W (.Constant (.str x) j pos) (mC (.str x)) := em_const pe_str fun _ _ => .str x h
theorem kB {x : Bool} {j : Nat} : PEm X T W (.Constant (.bool x) j pos) (mC (.bl x)) := em_const pe_bl fun _ _ => .bl x
theorem kN {j : Nat} : PEm X T W (.Constant .none j pos) (mC .non) := em_const pe_non fun _ _ => .non
theorem ac {m : SD → M D} {ml : SD → M (List D)} (he : PEm X T W e m) (hr : PAm X T W es ml) (hs : starEach (e :: es) X.env = (false, eval e X.env) :: starEach es X.env := by rfl) : PAm X T W (e :: es) (mCons m ml) := am_cons he hr hs
theorem tp {ml : SD → M (List D)} {n j : Nat} [l : LenC n ml] (h : PAm X T W es ml) (hn : n ≤ sizeLine := by decide) : PEm X T W (.Tuple es j pos) (mTup ml) := em_tup h l.len hn
/-! operators -/
theorem oAdd {mt : Bool} {ma mb : SD → M D} (ha : PEm X T W a ma) (hb : PEm X T W b mb) : PEm X T W (.BinOp a .Add b pos) (m2 (opAdd mt) ma mb) := em_op op_addAny (r_add mt) ha hb
theorem oSub {ma mb : SD → M D} (ha : PEm X T W a ma) (hb : PEm X T W b mb) : PEm X T W (.BinOp a .Sub b pos) (m2 opSub ma mb) := em_op op_sub r_sub ha hb
theorem oMul {ma mb : SD → M D} (ha : PEm X T W a ma) (hb : PEm X T W b mb) : PEm X T W (.BinOp a .Mult b pos) (m2 opMul ma mb) := em_op op_mulAny r_mul ha hb
theorem oFdv {ma mb : SD → M D} (ha : PEm X T W a ma) (hb : PEm X T W b mb) : PEm X T W (.BinOp a .FloorDiv b pos) (m2 opFdiv ma mb) := em_op op_fdivW r_fdiv ha hb
theorem oMod {ma mb : SD → M D} (ha : PEm X T W a ma) (hb : PEm X T W b mb) : PEm X T W (.BinOp a .Mod b pos) (m2 opMod ma mb) := em_op op_mod r_mod ha hb
theorem oPow {ma mb : SD → M D} (ha : PEm X T W a ma) (hb : PEm X T W b mb) : PEm X T W (.BinOp a .Pow b pos) (m2 opPow ma mb) := em_op op_pow r_pow ha hb
/-! comparisons, as values and as tests -/
theorem oEq (c : Cxt X k) {ma mb : SD → M D} (ha : PEm X T W a ma) (hb : PEm X T W b mb) : PEm X T W (.Compare a [.Eq] [b] pos) (m2 (eqM false) ma mb) := em_cmp (op_eqD c.u64) r_eq ha hb (nomark _)
theorem oNe (c : Cxt X k) {ma mb : SD → M D} (ha : PEm X T W a ma) (hb : PEm X T W b mb) : PEm X T W (.Compare a [.NotEq] [b] pos) (m2 (eqM true) ma mb) := em_cmp (op_neD c.u64) r_ne ha hb (nomark _)
theorem oLt (c : Cxt X k) {ma mb : SD → M D} (ha : PEm X T W a ma) (hb : PEm X T W b mb) : PEm X T W (.Compare a [.Lt] [b] pos) (m2 (ordM .lt) ma mb) := em_cmp (op_ord c.u65 .lt) (r_ord .lt) ha hb (nomark _)
theorem oGt (c : Cxt X k) {ma mb : SD → M D} (ha : PEm X T W a ma) (hb : PEm X T W b mb) : PEm X T W (.Compare a [.Gt] [b] pos) (m2 (ordM .gt) ma mb) := em_cmp (op_ord c.u65 .gt) (r_ord .gt) ha hb (nomark _)
theorem oLe (c : Cxt X k) {ma mb : SD → M D} (ha : PEm X T W a ma) (hb : PEm X T W b mb) : PEm X T W (.Compare a [.LtE] [b] pos) (m2 (ordM .le) ma mb) := em_cmp (op_ord c.u65 .le) (r_ord .le) ha hb (nomark _)
theorem oGe (c : Cxt X k) {ma mb : SD → M D} (ha : PEm X T W a ma) (hb : PEm X T W b mb) : PEm X T W (.Compare a [.GtE] [b] pos) (m2 (ordM .ge) ma mb) := em_cmp (op_ord c.u65 .ge) (r_ord .ge) ha hb (nomark _)
theorem oIn (c : Cxt X k) {ma mb : SD → M D} (ha : PEm X T W a ma) (hb : PEm X T W b mb) (hm : behindInMarks .In b = false := by with_unfolding_all rfl) : PEm X T W (.Compare a [.In] [b] pos) (m2 (inM false) ma mb) := em_cmp (op_inAll c.u65) r_in ha hb hm
theorem oNi (c : Cxt X k) {ma mb : SD → M D} (ha : PEm X T W a ma) (hb : PEm X T W b mb) (hm : behindInMarks .NotIn b = false := by with_unfolding_all rfl) : PEm X T W (.Compare a [.NotIn] [b] pos) (m2 (inM true) ma mb) := em_cmp (op_notInAll c.u65) r_notIn ha hb hm
theorem oIs {ma mb : SD → M D} (ha : PEm X T W a ma) (hb : PEm X T W b mb) : PEm X T W (.Compare a [.Is] [b] pos) (m2 (isM false) ma mb) := em_cmp op_isA r_isA ha hb (nomark _)
theorem oNs {ma mb : SD → M D} (ha : PEm X T W a ma) (hb : PEm X T W b mb) : PEm X T W (.Compare a [.IsNot] [b] pos) (m2 (isM true) ma mb) := em_cmp op_isNotA r_isNotA ha hb (nomark _)
theorem tEq (c : Cxt X k) {ma mb : SD → M D} (ha : PEm X T W a ma) (hb : PEm X T W b mb) : PTm X T W (.Compare a [.Eq] [b] pos) (mTest (m2 (eqM false) ma mb)) := tm_cmp (op_eqD c.u64) r_eq ha hb (nomark _)
theorem tNe (c : Cxt X k) {ma mb : SD → M D} (ha : PEm X T W a ma) (hb : PEm X T W b mb) : PTm X T W (.Compare a [.NotEq] [b] pos) (mTest (m2 (eqM true) ma mb)) := tm_cmp (op_neD c.u64) r_ne ha hb (nomark _)
theorem tLt (c : Cxt X k) {ma mb : SD → M D} (ha : PEm X T W a ma) (hb : PEm X T W b mb) : PTm X T W (.Compare a [.Lt] [b] pos) (mTest (m2 (ordM .lt) ma mb)) := tm_cmp (op_ord c.u65 .lt) (r_ord .lt) ha hb (nomark _)
theorem tGt (c : Cxt X k) {ma mb : SD → M D} (ha : PEm X T W a ma) (hb : PEm X T W b mb) : PTm X T W (.Compare a [.Gt] [b] pos) (mTest (m2 (ordM .gt) ma mb)) := tm_cmp (op_ord c.u65 .gt) (r_ord .gt) ha hb (nomark _)
theorem tLe (c : Cxt X k) {ma mb : SD → M D} (ha : PEm X T W a ma) (hb : PEm X T W b mb) : PTm X T W (.Compare a [.LtE] [b] pos) (mTest (m2 (ordM .le) ma mb)) := tm_cmp (op_ord c.u65 .le) (r_ord .le) ha hb (nomark _)
theorem tGe (c : Cxt X k) {ma mb : SD → M D} (ha : PEm X T W a ma) (hb : PEm X T W b mb) : PTm X T W (.Compare a [.GtE] [b] pos) (mTest (m2 (ordM .ge) ma mb)) := tm_cmp (op_ord c.u65 .ge) (r_ord .ge) ha hb (nomark _)
theorem tIn (c : Cxt X k) {ma mb : SD → M D} (ha : PEm X T W a ma) (hb : PEm X T W b mb) (hm : behindInMarks .In b = false := by with_unfolding_all rfl) : PTm X T W (.Compare a [.In] [b] pos) (mTest (m2 (inM false) ma mb)) := tm_cmp (op_inAll c.u65) r_in ha hb hm
theorem tNi (c : Cxt X k) {ma mb : SD → M D} (ha : PEm X T W a ma) (hb : PEm X T W b mb) (hm : behindInMarks .NotIn b = false := by with_unfolding_all rfl) : PTm X T W (.Compare a [.NotIn] [b] pos) (mTest (m2 (inM true) ma mb)) := tm_cmp (op_notInAll c.u65) r_notIn ha hb hm
theorem tIs {ma mb : SD → M D} (ha : PEm X T W a ma) (hb : PEm X T W b mb) : PTm X T W (.Compare a [.Is] [b] pos) (mTest (m2 (isM false) ma mb)) := tm_cmp op_isA r_isA ha hb (nomark _)
theorem tNs {ma mb : SD → M D} (ha : PEm X T W a ma) (hb : PEm X T W b mb) : PTm X T W (.Compare a [.IsNot] [b] pos) (mTest (m2 (isM true) ma mb)) := tm_cmp op_isNotA r_isNotA ha hb (nomark _)
theorem tTr {m : SD → M D} (h : PEm X T W e m) (he : ∀ whole, isTrue e X.env whole = (do let v ← whole; standAt e.pos; holding [v] (truthy v)) := by intro _; rfl) : PTm X T W e (mTruth m) := tm_truth h he
theorem tBo {m : SD → M Bool} (h : PWm X T W e m) : PTm X T W e m := h.pt
/-! parts -/
theorem oIx (c : Cxt X k) {ma mb : SD → M D} (ha : PEm X T W a ma) (hb : PEm X T W b mb) (hs : PlainIx b := by exact fun _ _ => rfl) : PEm X T W (.Subscript a b pos) (m2 ixA ma mb) := em_ixA c.u10 ha hb hs
/-! calls -/
theorem cLen (c : Cxt X k) {ml : SD → M (List D)} (ha : PAm X T W (e :: es) ml) (hg : Gl X "len" := by rfl) (he : starEach (e :: es) X.env = (false, eval e X.env) :: starEach es X.env := by rfl) (hpl : (backTo pos (starEach es X.env)).any (·.1) = false := by rfl) : PEm X T W (.Call (.Name "len" p) (e :: es) [] pos) (mCall (one len1) ml) :=
  em_callB b_len c_len hg c.bu.len PySem.boot_len ha (by decide) (by decide) he hpl
theorem cTup (c : Cxt X k) {ml : SD → M (List D)} (ha : PAm X T W (e :: es) ml) (hg : Gl X "tuple" := by rfl) (he : starEach (e :: es) X.env = (false, eval e X.env) :: starEach es X.env := by rfl) (hpl : (backTo pos (starEach es X.env)).any (·.1) = false := by rfl) : PEm X T W (.Call (.Name "tuple" p) (e :: es) [] pos) (mCall (one tup1) ml) :=
  em_callT call_tupX c_tup hg c.bu.tuple rfl ha (by decide) (by decide) he hpl
theorem cLst {mt : Bool} (c : Cxt X k) {ml : SD → M (List D)} (ha : PAm X T W (e :: es) ml) (hg : Gl X "list" := by rfl) (he : starEach (e :: es) X.env = (false, eval e X.env) :: starEach es X.env := by rfl) (hpl : (backTo pos (starEach es X.env)).any (·.1) = false := by rfl) : PEm X T W (.Call (.Name "list" p) (e :: es) [] pos) (mCall (one (list1 mt)) ml) :=
  em_callT call_list_of (c_list mt) hg c.bu.list rfl ha (by decide) (by decide) he hpl
theorem cInt (c : Cxt X k) {ml : SD → M (List D)} (ha : PAm X T W (e :: es) ml) (hg : Gl X "int" := by rfl) (he : starEach (e :: es) X.env = (false, eval e X.env) :: starEach es X.env := by rfl) (hpl : (backTo pos (starEach es X.env)).any (·.1) = false := by rfl) : PEm X T W (.Call (.Name "int" p) (e :: es) [] pos) (mCall (one int1) ml) :=
  em_callT call_int1 c_int hg c.bu.int rfl ha (by decide) (by decide) he hpl
theorem cMin (c : Cxt X k) {ml : SD → M (List D)} (ha : PAm X T W (e :: es) ml) (hg : Gl X "min" := by rfl) (he : starEach (e :: es) X.env = (false, eval e X.env) :: starEach es X.env := by rfl) (hpl : (backTo pos (starEach es X.env)).any (·.1) = false := by rfl) : PEm X T W (.Call (.Name "min" p) (e :: es) [] pos) (mCall (two min2) ml) :=
  em_callB (call_min2 c.calm) c_min hg c.bu.min rfl ha (by decide) (by decide) he hpl
theorem cMax (c : Cxt X k) {ml : SD → M (List D)} (ha : PAm X T W (e :: es) ml) (hg : Gl X "max" := by rfl) (he : starEach (e :: es) X.env = (false, eval e X.env) :: starEach es X.env := by rfl) (hpl : (backTo pos (starEach es X.env)).any (·.1) = false := by rfl) : PEm X T W (.Call (.Name "max" p) (e :: es) [] pos) (mCall (two max2) ml) :=
  em_callB (call_max2 c.calm) c_max hg c.bu.max rfl ha (by decide) (by decide) he hpl
theorem cSrt {mt : Bool} (c : Cxt X k) {ml : SD → M (List D)} (ha : PAm X T W (e :: es) ml) (hg : Gl X "sorted" := by rfl) (he : starEach (e :: es) X.env = (false, eval e X.env) :: starEach es X.env := by rfl) (hpl : (backTo pos (starEach es X.env)).any (·.1) = false := by rfl) : PEm X T W (.Call (.Name "sorted" p) (e :: es) [] pos) (mCall (one (sorted1 mt)) ml) :=
  em_callB (cr_sortedD c.u70) (c_sorted mt) hg c.bu.sorted rfl ha (by decide) (by decide) he hpl
theorem cRpr (c : Cxt X k) (hgu : X.A.guards = some []) {ml : SD → M (List D)} (ha : PAm X T W (e :: es) ml) (hg : Gl X "repr" := by rfl) (he : starEach (e :: es) X.env = (false, eval e X.env) :: starEach es X.env := by rfl) (hpl : (backTo pos (starEach es X.env)).any (·.1) = false := by rfl) : PEm X T W (.Call (.Name "repr" p) (e :: es) [] pos) (mCall (one repr1) ml) :=
  em_callB (cr_repr hgu c.u70) c_repr hg c.bu.repr rfl ha (by decide) (by decide) he hpl
/-! defs -/
/-- a def of the text that does F -/
structure DefOk (P : Program) (w : World) (K : PySem.W.Frag) (mg : Str → Option Value) (base : Heap) (T : Tb) (x : Str) (k n : Nat) (F : List D → M D) : Prop where
  ex : ∃ (f : Addr) (fd : FuncData) (ps : List Str), mg x = some (.ref f) ∧ PySem.W.keepIn K (.ref f) = true ∧ Binds K fd ps [] ∧ FnOk P w K mg base (L2.CX P w) k f fd ps (spOf ⟨P, w, K, T⟩ n F)
theorem cF {x : Str} {n j : Nat} {F : List D → M D} {ml : SD → M (List D)} [l : LenC n ml] (c : Cxt X k) (tk : Takes X W) (d : DefOk X.prog X.w X.K X.mg X.base T x j n F) (ha : PAm X T W (e :: es) ml) (hj : j ≤ k := by decide) (hg : Gl X x := by rfl) (hdb : (x == ("__debug__" : Str)) = false := by decide)
    (he : starEach (e :: es) X.env = (false, eval e X.env) :: starEach es X.env := by rfl) (hpl : (backTo pos (starEach es X.env)).any (·.1) = false := by rfl) : PEm X T W (.Call (.Name x p) (e :: es) [] pos) (mCall F ml) := by
  obtain ⟨f, fd, ps, hm, hk, hb, Fo⟩ := d.ex
  exact em_call (Fo.mono hj) c.room hg hm hk hb tk ha l.len hdb he hpl
theorem cF0 {x : Str} {j : Nat} {F : List D → M D} (c : Cxt X k) (tk : Takes X W) (d : DefOk X.prog X.w X.K X.mg X.base T x j 0 F) (hj : j ≤ k := by decide) (hg : Gl X x := by rfl) (hdb : (x == ("__debug__" : Str)) = false := by decide) : PEm X T W (.Call (.Name x p) [] [] pos) (mCall F mNil) := by
  obtain ⟨f, fd, ps, hm, hk, hb, Fo⟩ := d.ex
  exact em_call0 (Fo.mono hj) c.room hg hm hk hb tk hdb
/-! methods -/
theorem mAppend {ml : SD → M (List D)} {mo : SD → M D} {apos cpos : Pos} (ho : PEm X T W o mo) (ha : PAm X T W (e :: es) ml) (hbase : attributeBase o "append" X.env (eval o X.env) = eval o X.env := by rfl)
    (hfew : ((backTo cpos (starEach (e :: es) X.env)).all (fun x => !x.1) && (backToKw cpos (keywordEach [] X.env)).all (fun x => x.1.isSome) && decide ((e :: es).length + ([] : List Keyword).length + (if ([] : List Keyword).isEmpty then 0 else 1) < 30)) = true := by rfl)
    (hline : (apos.endLine == cpos.line) = true := by decide) (hs : starEach (e :: es) X.env = (false, eval e X.env) :: starEach es X.env := by rfl) (hplain : (backTo cpos (starEach es X.env)).any (·.1) = false := by rfl) : PEm X T W (.Call (.Attribute o "append" apos) (e :: es) [] cpos) (mMeth .list fAppend mo ml) :=
  em_bm (t := .list) PySem.F.plainAttrs_list PySem.F.slot_list_append PySem.F.type_list_append mt_append m_append ho ha hbase hfew hline hs hplain
end
end Wy

set_option Elab.async false
set_option linter.all false
set_option maxRecDepth 100000
set_option maxHeartbeats 4000000
namespace Wy
open PySem PySem.Spec PyProof.Rows L2

/-! ### what a def hands out: its own objects become values where nobody changes them -/
mutual
def frzG (r : Nat → Option D) : D → Option D
  | .tup l => (frzGs r l).map .tup
  | .lv l => (frzGs r l).map .lv
  | .rl l => (frzGs r l).map .rl
  | .dv tk ks vs => match frzGs r ks, frzGs r vs with
    | some ks', some vs' => if tk = false then (if ks' = ks then some (.dv false ks vs') else none) else (if ks'.map toK = ks.map toK then some (.dv true ks' vs') else none)
    | _, _ => none
  | .ref i => r i
  | .fn f cs => (frzGs r cs).map (.fn f)
  | d => some d
def frzGs (r : Nat → Option D) : List D → Option (List D)
  | [] => some []
  | a :: as => match frzG r a, frzGs r as with
    | some b, some bs => some (b :: bs)
    | _, _ => none
end
def frz (h : DH) (n : Nat) : Nat → Nat → Option D
  | 0, i => if i < n then some (.ref i) else none
  | k + 1, i => if i < n then some (.ref i) else match h[i]? with
    | some (.lst l) => (frzGs (frz h n k) l).map .lv
    | some (.dct false kvs) => (frzGs (frz h n k) (kvs.map (·.2))).map (.dv false (kvs.map (·.1)))
    | some (.dct true kvs) => match frzGs (frz h n k) (kvs.map (·.1)), frzGs (frz h n k) (kvs.map (·.2)) with
      | some ks, some vs => if ks.map toK = kvs.map (fun p => toK p.1) then some (.dv true ks vs) else none
      | _, _ => none
    | _ => none
/-- z: the result's own objects become values -/
def out (z : Bool) (h : DH) (n : Nat) (d : D) : Option D := if z = true then frzG (frz h n 4) d else if d.under n = true then some d else none
def cutZ (z : Bool) (m : M D) : M D := fun h => match m h with
  | .ok d h' => if (h'.take h.length).all (Ob.under h.length) = true ∧ h.length ≤ h'.length then (match out z h' h.length d with
    | some d' => .ok d' (h'.take h.length)
    | none => .ok d h') else .ok d h'
  | .ex C fs h' => if (h'.take h.length).all (Ob.under h.length) = true ∧ h.length ≤ h'.length ∧ D.unders h.length (fs.map (·.2)) = true then .ex C fs (h'.take h.length) else .ex C fs h'
  | .bad => .bad
section
variable {G : Gx} {ρ ρ' : Rg} {H H' : Hp} {hd hd' : DH}
theorem Stp.outs (s : Stp ρ H ρ' H') : ∀ a, ρ'.Out a → ρ.Out a := fun a n => ⟨fun z => n.1 (s.pre.subset z), by rw [← s.hid]; exact n.2⟩
/-- back to so many objects -/
theorem Rep.back' (r : Rep G ρ hd H) (r' : Rep G ρ' hd' H') (s : Stp ρ H ρ' H') (e : (hd'.take hd.length).all (Ob.under hd.length) = true) (hl : hd.length ≤ hd'.length) : Rep G ρ (hd'.take hd.length) H' ∧ Stp ρ H ρ H' := by
  refine ⟨⟨by rw [List.length_take]; have := r.len; omega, r.nd, fun a ha => ⟨(r'.hid a (by rw [s.hid]; exact ha)).1, (r.hid a ha).2⟩, fun n a o h1 h2 => ?_⟩, ⟨List.prefix_refl _, rfl, fun _ h => .inl h, s.old⟩⟩
  have u : o.under ρ.l.length = true := by rw [r.len]; exact List.all_eq_true.mp e o (List.mem_of_getElem? h2)
  have h3 : hd'[n]? = some o := by
    rw [List.getElem?_take] at h2
    split at h2
    · exact h2
    · cases h2
  exact (r'.ob n a o (pre_get s.pre h1) h3).back s.outs s.pre u
mutual
theorem frzG_pair {r : Nat → Option D} (hp : ∀ i d, r i = some d → d.isPair = false) : ∀ (d d' : D), frzG r d = some d' → d'.isPair = d.isPair
  | .tup l, d', e => by
    simp only [frzG] at e
    obtain ⟨l', e1, rfl⟩ := Option.map_eq_some_iff.mp e
    simp only [D.isPair, frzGs_len hp l l' e1]
  | .lv l, d', e => by
    simp only [frzG] at e
    obtain ⟨l', e1, rfl⟩ := Option.map_eq_some_iff.mp e
    rfl
  | .rl l, d', e => by
    simp only [frzG] at e
    obtain ⟨l', e1, rfl⟩ := Option.map_eq_some_iff.mp e
    rfl
  | .fn f cs, d', e => by
    simp only [frzG] at e
    obtain ⟨l', e1, rfl⟩ := Option.map_eq_some_iff.mp e
    rfl
  | .ref i, d', e => by
    simp only [frzG] at e
    rw [hp i d' e]; rfl
  | .dv tk ks vs, d', e => by
    simp only [frzG] at e
    split at e
    · split at e
      · split at e <;> cases e; rfl
      · split at e <;> cases e; rfl
    · cases e
  | .non, d', e | .bl _, d', e | .int _, d', e | .str _, d', e => by simp [frzG] at e; subst e; rfl
theorem frzGs_len {r : Nat → Option D} (hp : ∀ i d, r i = some d → d.isPair = false) : ∀ (l l' : List D), frzGs r l = some l' → l'.length = l.length
  | [], l', e => by simp [frzGs] at e; subst e; rfl
  | a :: as, l', e => by
    simp only [frzGs] at e
    cases e1 : frzG r a with
    | none => rw [e1] at e; cases e
    | some b => cases e2 : frzGs r as with
      | none => rw [e1, e2] at e; cases e
      | some bs => rw [e1, e2] at e; cases e; simp [frzGs_len hp as bs e2]
end
theorem frzGs_pairs {r : Nat → Option D} (hp : ∀ i d, r i = some d → d.isPair = false) : ∀ (l l' : List D), frzGs r l = some l' → pairsD l' = pairsD l
  | [], l', e => by simp [frzGs] at e; subst e; rfl
  | a :: as, l', e => by
    simp only [frzGs] at e
    cases e1 : frzG r a with
    | none => rw [e1] at e; cases e
    | some b => cases e2 : frzGs r as with
      | none => rw [e1, e2] at e; cases e
      | some bs =>
        rw [e1, e2] at e; cases e
        have ih := frzGs_pairs hp as bs e2
        unfold pairsD at ih ⊢
        simp only [List.all_cons, ih, frzG_pair hp a b e1]
mutual
theorem RV.frzG {r : Nat → Option D} (hp : ∀ i d, r i = some d → d.isPair = false) (ho : ∀ a, ρ'.Out a → ρ.Out a) (hr : ∀ i a d, ρ'.l[i]? = some a → r i = some d → RV G ρ H' d (.ref a)) : ∀ (d : D) (v : V) (d' : D), RV G ρ' H' d v → frzG r d = some d' → RV G ρ H' d' v
  | _, _, d', .non, e => by simp [Wy.frzG] at e; subst e; exact .non
  | _, _, d', .bl b, e => by simp [Wy.frzG] at e; subst e; exact .bl b
  | _, _, d', .int i, e => by simp [Wy.frzG] at e; subst e; exact .int i
  | _, _, d', .str x h, e => by simp [Wy.frzG] at e; subst e; exact .str x h
  | _, _, d', .tup h rs pt, e => by
    simp only [Wy.frzG] at e
    obtain ⟨l, e1, rfl⟩ := Option.map_eq_some_iff.mp e
    exact .tup h (RVs.frzG hp ho hr _ _ l rs e1) fun z => pt (by rw [← frzGs_pairs hp _ _ e1]; exact z)
  | _, _, d', .lv n h rs, e => by
    simp only [Wy.frzG] at e
    obtain ⟨l, e1, rfl⟩ := Option.map_eq_some_iff.mp e
    exact .lv (ho _ n) h (RVs.frzG hp ho hr _ _ l rs e1)
  | _, _, d', .rl h rs, e => by
    simp only [Wy.frzG] at e
    obtain ⟨l, e1, rfl⟩ := Option.map_eq_some_iff.mp e
    exact .rl (h.imp (fun q => ⟨ho _ q.1, q.2⟩) id) (RVs.frzG hp ho hr _ _ l rs e1)
  | .ref n, _, d', .ref h, e => by
    simp only [Wy.frzG] at e
    exact hr n _ d' h e
  | .dv false ks vs, _, d', .dvk n h k u rs, e => by
    simp only [Wy.frzG] at e
    cases e1 : frzGs r ks with
    | none => rw [e1] at e; cases e
    | some ks' => cases e2 : frzGs r vs with
      | none => rw [e1, e2] at e; cases e
      | some vs' =>
        rw [e1, e2] at e
        simp only [if_true] at e
        by_cases c : ks' = ks
        · rw [if_pos c] at e; cases e
          exact .dvk (ho _ n) h k u (RVs.frzG hp ho hr _ _ vs' rs e2)
        · rw [if_neg c] at e; cases e
  | .dv true ks vs, _, d', .dvt n h t rk k u rs, e => by
    simp only [Wy.frzG] at e
    cases e1 : frzGs r ks with
    | none => rw [e1] at e; cases e
    | some ks' => cases e2 : frzGs r vs with
      | none => rw [e1, e2] at e; cases e
      | some vs' =>
        rw [e1, e2] at e
        simp only [Bool.true_eq_false, if_false] at e
        by_cases c : ks'.map toK = ks.map toK
        · rw [if_pos c] at e; cases e
          exact .dvt (ho _ n) h t (RVs.frzG hp ho hr _ _ ks' rk e1) (c.trans k) u (RVs.frzG hp ho hr _ _ vs' rs e2)
        · rw [if_neg c] at e; cases e
  | _, _, d', .fn fp hb hf rs, e => by
    simp only [Wy.frzG] at e
    obtain ⟨l, e1, rfl⟩ := Option.map_eq_some_iff.mp e
    exact .fn fp (fun b h => ⟨ho b (hb b h).1, (hb b h).2⟩) hf (RVs.frzG hp ho hr _ _ l rs e1)
theorem RVs.frzG {r : Nat → Option D} (hp : ∀ i d, r i = some d → d.isPair = false) (ho : ∀ a, ρ'.Out a → ρ.Out a) (hr : ∀ i a d, ρ'.l[i]? = some a → r i = some d → RV G ρ H' d (.ref a)) : ∀ (ds : List D) (vs : List V) (ds' : List D), RVs G ρ' H' ds vs → frzGs r ds = some ds' → RVs G ρ H' ds' vs
  | _, _, ds', .nil, e => by simp [Wy.frzGs] at e; subst e; exact .nil
  | _, _, ds', .cons (d := d) (ds := ds) q qs, e => by
    simp only [Wy.frzGs] at e
    cases e1 : Wy.frzG r d with
    | none => rw [e1] at e; cases e
    | some b => cases e2 : frzGs r ds with
      | none => rw [e1, e2] at e; cases e
      | some bs =>
        rw [e1, e2] at e; cases e
        exact .cons (RV.frzG hp ho hr _ _ b q e1) (RVs.frzG hp ho hr _ _ bs qs e2)
end
theorem frz_pair {h : DH} {n : Nat} (k : Nat) : ∀ i d, frz h n k i = some d → d.isPair = false := fun i d e => by
  cases k with
  | zero => unfold frz at e; split at e <;> cases e; rfl
  | succ k =>
    unfold frz at e
    split at e
    · cases e; rfl
    · split at e
      · obtain ⟨l', _, rfl⟩ := Option.map_eq_some_iff.mp e; rfl
      · obtain ⟨l', _, rfl⟩ := Option.map_eq_some_iff.mp e; rfl
      · split at e
        · split at e <;> cases e; rfl
        · cases e
      · cases e
theorem frz_rv (r : Rep G ρ' hd' H') (pre : ρ.l <+: ρ'.l) (hz : ρ.hid = ρ'.hid) (ho : ∀ a, ρ'.Out a → ρ.Out a) : ∀ (k i : Nat) (a : Addr) (d : D), ρ'.l[i]? = some a → frz hd' ρ.l.length k i = some d → RV G ρ H' d (.ref a) := by
  have small : ∀ (i : Nat) (a : Addr), i < ρ.l.length → ρ'.l[i]? = some a → RV G ρ H' (.ref i) (.ref a) := fun i a c e => .ref (by
    obtain ⟨t, ht⟩ := pre
    rw [← ht, List.getElem?_append_left c] at e
    exact e)
  have big : ∀ (i : Nat) (a : Addr), ¬ i < ρ.l.length → ρ'.l[i]? = some a → ρ.Out a := fun i a c e => by
    refine ⟨fun z => ?_, fun z => ?_⟩
    · obtain ⟨j, hj, ej⟩ := List.getElem_of_mem z
      have e2 : ρ'.l[j]? = some a := pre_get pre (by rw [List.getElem?_eq_getElem hj, ej])
      obtain ⟨h3, e3⟩ := List.getElem?_eq_some_iff.mp e
      obtain ⟨h4, e4⟩ := List.getElem?_eq_some_iff.mp e2
      have := (List.getElem_inj (h₀ := h3) (h₁ := h4) r.nd).mp (by rw [e3, e4])
      omega
    · exact (r.hid a (by rw [← hz]; exact z)).2 (List.mem_of_getElem? e)
  intro k
  induction k with
  | zero =>
    intro i a d e ef
    unfold frz at ef
    by_cases c : i < ρ.l.length
    · rw [if_pos c] at ef; cases ef; exact small i a c e
    · rw [if_neg c] at ef; cases ef
  | succ k ih =>
    intro i a d e ef
    unfold frz at ef
    by_cases c : i < ρ.l.length
    · rw [if_pos c] at ef; cases ef; exact small i a c e
    · rw [if_neg c] at ef
      cases eo : hd'[i]? with
      | none => rw [eo] at ef; cases ef
      | some o =>
        rw [eo] at ef
        have q := r.ob i a o e eo
        cases o with
        | ins _ _ => cases ef
        | lst l =>
          obtain ⟨l', e1, rfl⟩ := Option.map_eq_some_iff.mp ef
          obtain ⟨xs, h, rs⟩ := q
          exact .lv (big i a c e) h (RVs.frzG (frz_pair k) ho (fun j b z h1 h2 => ih j b z h1 h2) _ _ l' rs e1)
        | dct tk kvs => cases tk with
          | false =>
            obtain ⟨l', e1, rfl⟩ := Option.map_eq_some_iff.mp ef
            obtain ⟨ks, us, h, kk, eu, rs⟩ := q
            exact .dvk (big i a c e) h (by rw [List.map_map]; exact kk) eu (RVs.frzG (frz_pair k) ho (fun j b z h1 h2 => ih j b z h1 h2) _ _ l' rs e1)
          | true =>
            obtain ⟨xs, ts, us, h, et, rk, kk, eu, rs⟩ := q
            cases e1 : frzGs (frz hd' ρ.l.length k) (kvs.map (·.1)) with
            | none => simp only [e1] at ef; cases ef
            | some ks' => cases e2 : frzGs (frz hd' ρ.l.length k) (kvs.map (·.2)) with
              | none => simp only [e1, e2] at ef; cases ef
              | some vs' =>
                simp only [e1, e2] at ef
                by_cases ck : ks'.map toK = kvs.map (fun p => toK p.1)
                · rw [if_pos ck] at ef; cases ef
                  exact .dvt (big i a c e) h et (RVs.frzG (frz_pair k) ho (fun j b z h1 h2 => ih j b z h1 h2) _ _ ks' rk e1) (ck.trans kk) eu (RVs.frzG (frz_pair k) ho (fun j b z h1 h2 => ih j b z h1 h2) _ _ vs' rs e2)
                · rw [if_neg ck] at ef; cases ef
theorem cutZ_res {W : WX} {σ : L2.St} {z : Bool} {m : M D} {Q : VK} (r : Rep G ρ hd H) (h : Res G W σ (RV G) ρ H (cutZ z m hd) Q) : Res G W σ (RV G) ρ H (m hd) Q := by
  unfold cutZ at h
  cases e : m hd with
  | ok d hd' =>
    simp only [e] at h
    by_cases c : (hd'.take hd.length).all (Ob.under hd.length) = true ∧ hd.length ≤ hd'.length
    · rw [if_pos c] at h
      cases eo : out z hd' hd.length d with
      | none => simp only [eo] at h; exact h
      | some d' =>
        simp only [eo] at h
        intro ρ2 H2 v r2 s2 q2
        obtain ⟨b1, b2⟩ := r.back' r2 s2 c.1 c.2
        refine h ρ H2 v b1 b2 ?_
        unfold out at eo
        cases z with
        | true =>
          rw [if_pos rfl, ← r.len] at eo
          exact RV.frzG (frz_pair 4) s2.outs (fun i a d h1 h2 => frz_rv r2 s2.pre s2.hid.symm s2.outs 4 i a d h1 h2) _ _ d' q2 eo
        | false =>
          rw [if_neg (by decide)] at eo
          by_cases cu : d.under hd.length = true
          · rw [if_pos cu] at eo; cases eo
            exact RV.back s2.outs s2.pre _ _ q2 (by rw [r.len]; exact cu)
          · rw [if_neg cu] at eo; cases eo
    · rw [if_neg c] at h; exact h
  | ex C fs hd' =>
    simp only [e] at h
    by_cases c : (hd'.take hd.length).all (Ob.under hd.length) = true ∧ hd.length ≤ hd'.length ∧ D.unders hd.length (fs.map (·.2)) = true
    · rw [if_pos c] at h
      intro ρ2 H2 cl dd r2 s2 q2
      obtain ⟨b1, b2⟩ := r.back' r2 s2 c.1 c.2.1
      refine h ρ H2 cl dd b1 b2 ⟨q2.1, ?_⟩
      rcases q2.2 with q | ⟨d, vs, us, e0, e1, n, e2, e3, e4, rs⟩
      · exact .inl q
      · exact .inr ⟨d, vs, us, e0, e1, s2.outs d n, e2, e3, e4, RVs.back s2.outs s2.pre _ _ rs (by rw [r.len]; exact c.2.2)⟩
    · rw [if_neg c] at h; exact h
  | bad => simp only [e] at h; exact h
end
/-- what a def gives: n slots; z: the result's own objects become values -/
def den (z : Bool) (n : Nat) (m : SD → M Fl) : List D → M D := fun ds => cutZ z (m (slots0 n ds) >>= endF)
theorem den_body {X : Cx} {T : Tb} {E : XK} {P : Program} {w : World} {K : PySem.W.Frag} {N : List Str} {z : Bool} {n : Nat} {m : SD → M Fl} {vs : List V} {H : Hp} {Q : VK} (hn : N.length = n) (sp : spOf ⟨P, w, K, T⟩ l (den z n m) vs H Q E) :
    tS ⟨P, w, K, T⟩ E m { nx := fun _ H' => Q .non H', rt := Q } (L2.start N vs) H := by
  obtain ⟨ρ, hd, ds, r, q, l, h⟩ := sp
  subst hn
  refine ⟨ρ, hd, slots0 N.length ds, r, rst_start q, ?_⟩
  have h := cutZ_res r h
  rw [bind_ap] at h
  cases e : m (slots0 N.length ds) hd with
  | ok fl hd' =>
    rw [e] at h
    cases fl with
    | nx s' => exact fun ρ' H' σ' r' s' q' => h ρ' H' .non r' s' .non
    | rt d => exact h
    | bk _ => exact h.elim
    | ct _ => exact h.elim
  | ex C fs hd' => rw [e] at h; exact h
  | bad => rw [e] at h; exact h
/-- a def's object as the top has left it -/
def FunAt (K : PySem.W.Frag) (mg : Str → Option Value) (x : Str) (st : Stmt) : Prop := ∃ f fd, mg x = some (.ref f) ∧ Fun K x x st f fd
abbrev CO (P : Program) (w : World) (K : PySem.W.Frag) (mg : Str → Option Value) (base : Heap) (N : List Str) (x : Str) (st : Stmt) (f : Addr) (cdv : Value) (A : Around) (outer : List Env) (s : Shared) (H : Hp) (E : XK) : Cx := cxOf (L2.CX P w) P w K mg base N x (defScope st) f cdv A outer s H E
/-- THE RULE for a def -/
theorem def_is {P : Program} {w : World} {K : PySem.W.Frag} {mg : Str → Option Value} {base : Heap} {T : Tb} {x : Str} {st : Stmt} {N ps : List Str} {k l n : Nat} {z : Bool} {m : SD → M Fl} (Fn : FunAt K mg x st) (S : FnScope N ps (defScope st)) (bu : Bu mg)
    (hb : ∀ (kV doc pm : Value) (an : Option Addr) (cdv ct : Value) (us : List Value), us.length = ps.length → bindArgs (PySem.W.fnOf x x (defArgs st) (defBody st) (defScope st) .none kV doc pm an cdv ct) ⟨us, []⟩ = pure (ps.zip us))
    (body : ∀ (f : Addr) (cdv : Value) (A : Around) (outer : List Env) (s : Shared) (H : Hp) (E : XK), Cxt (CO P w K mg base N x st f cdv A outer s H E) k → Takes (CO P w K mg base N x st f cdv A outer s H E) (WC E) →
      PassesOwn (model P w) (CO P w K mg base N x st f cdv A outer s H E).A (CO P w K mg base N x st f cdv A outer s H E).env (CO P w K mg base N x st f cdv A outer s H E).xe → PSsm (CO P w K mg base N x st f cdv A outer s H E) T E (defBody st) m)
    (hl : ps.length = l := by rfl) (hn : N.length = n := by rfl) : DefOk P w K mg base T x (k + 1) l (den z n m) := by
  obtain ⟨f, fd, hm, F⟩ := Fn
  refine ⟨f, fd, ps, hm, F.kp, F.binds hb, ?_⟩
  refine F.okX S (fun vs H Q E ⟨ρ, hd, ds, r, q, l', h⟩ => by rw [← q.len, l', hl]) (fun cdv A outer s H vs Q E hr h => ⟨_, body f cdv A outer s H E ⟨rfl, S.nd, hr, bu⟩ (takes_of rfl rfl rfl rfl) (passes_of rfl), ?_⟩)
  exact den_body (X := CO P w K mg base N x st f cdv A outer s H E) hn h
end Wy

set_option Elab.async false
set_option linter.all false
set_option maxRecDepth 100000
set_option maxHeartbeats 4000000
namespace Wy
open PySem PySem.Spec PyProof.Rows L2

section
variable {X : Cx} {T : Tb} {E : XK} {W : WX} {k : Nat} {e a b c o it tg elt : Expr} {es tgs ifs : List Expr} {st : Stmt} {sts s1 s2 : List Stmt} {pos p p2 : Pos} {scope : Scope}
/-! statements -/
theorem sA {m : SD → M D} {g : D → SD → M SD} (he : PEm X T (WC E) e m) (hg : PGm X T E tg g) (hs : swapsWithSole [tg] e pos.line X.env = pure false := by rfl) (hw : swappedStores [tg] e X.env = pure none := by rfl) (h1 : (assignEach [tg] X.env).map (·.2) = [assign tg X.env] := by rfl) :
    PSm X T E (.Assign [tg] e pos) (mAsg m g) := sm_asg he hg hs hw h1
theorem sX {m : SD → M D} (he : PEm X T (WC E) e m) (hs : swapsWith e none pos.line X.env = pure false := by rfl) : PSm X T E (.Expr e pos) (mExpr m) := sm_expr he hs
theorem sF {mi : SD → M Src} {g : D → SD → M SD} {body : SD → M Fl} (c : Cxt X k) (hp : PassesOwn (model X.prog X.w) X.A X.env X.xe) (hi : PIm X T (WC E) tg it mi) (hg : PGm X T E tg g) (hb : PSsm X T E sts body) (hs : ∀ x, foldedSetIterable it X.env x = pure x := by intro _; rfl) :
    PSm X T E (.For tg it sts [] pos) (mFor mi g body) := sm_for hp c.calm hi hg hb hs
/-! targets -/
theorem gN (c : Cxt X k) {i : Nat} {x : Str} (hi : X.N[i]? = some x := by rfl) (hx : Loc X.env.scope x := by first | exact .inl rfl | exact .inr rfl) (hf : X.fn x = true ∨ X.env.scope.names.lookup x = some .local := by first | exact .inl rfl | exact .inr rfl) : PGm X T E (.Name x pos) (gNm i) := gm_name c.nd hi hx hf
theorem gs0 : PGsm X T E [] gsNil := gsm_nil
theorem gs1 {g : D → SD → M SD} {gs : List D → SD → M SD} (h1 : PGm X T E tg g) (h2 : PGsm X T E tgs gs) (hs : (assignEach (tg :: tgs) X.env).map (·.2) = assign tg X.env :: (assignEach tgs X.env).map (·.2) := by rfl) : PGsm X T E (tg :: tgs) (gsCons g gs) := gsm_cons h1 h2 hs
theorem gT (c : Cxt X k) {j n : Nat} {gs : List D → SD → M SD} (h : PGsm X T E tgs gs) (hn : (assignEach tgs X.env).length = n := by rfl) (hst : (assignEach tgs X.env).findIdx? (·.1) = none := by rfl) : PGm X T E (.Tuple tgs j pos) (gTp n gs) := gm_tup c.calm h hn hst
theorem gS (c : Cxt X k) {mo mi : SD → M D} (ho : PEm X T (WC E) o mo) (hi : PEm X T (WC E) a mi) (ha : ∀ v, assign (.Subscript o a pos) X.env v = (do
      let ov ← holding [v] (eval o X.env)
      let iv ← holding [v, ov] (eval a X.env)
      standAt pos
      holding [v, ov, iv] (setItem ov iv v)
      release [v, ov, iv] []) := by intro _; rfl) : PGm X T E (.Subscript o a pos) (gSb mo mi setM) := gm_sub ho hi (set_any c.u10) s_any ha
/-! what is walked -/
theorem iS {m : SD → M D} (hl : PEm X T W it m) : PIm X T W tg it (srcSeq m) := im_seq hl
theorem iE (c : Cxt X k) {elts : List Expr} {kk : Nat} {tpos : Pos} {ml : SD → M (List D)} (ha : PAm X T W [e] ml) (hg : Gl X "enumerate" := by rfl) (hs : starEach [e] X.env = [(false, eval e X.env)] := by rfl) : PIm X T W (.Tuple elts kk tpos) (.Call (.Name "enumerate" p) [e] [] pos) (srcEnum ml) := im_enum hg c.bu.enumerate ha hs
theorem iR (c : Cxt X k) {ml : SD → M (List D)} [l : LenC 1 ml] (ha : PAm X T W [a] ml) (hg : Gl X "range" := by rfl) (hs : starEach [a] X.env = [(false, eval a X.env)] := by rfl) : PIm X T W tg (.Call (.Name "range" p) [a] [] pos) (srcRng ml) := im_rng1 hg c.bu.range ha l.len hs
theorem iR2 (c : Cxt X k) {ml : SD → M (List D)} [l : LenC 2 ml] (ha : PAm X T W [a, b] ml) (hg : Gl X "range" := by rfl) (hs : starEach [a, b] X.env = [(false, eval a X.env), (false, eval b X.env)] := by rfl) (hs2 : starEach [b] X.env = [(false, eval b X.env)] := by rfl) : PIm X T W tg (.Call (.Name "range" p) [a, b] [] pos) (srcRng ml) :=
  im_rng2 hg c.bu.range ha l.len hs hs2
/-! comprehensions -/
abbrev CB (X : Cx) (scope : Scope) (s : Shared) (H : Hp) (C : Addr) (cl : List (Str × Addr)) (fp : List Addr) : Cx := X.blk s H scope (compEnvC scope cl C X.env) fp
theorem xC {own : List (Str × Nat)} {vs : List Nat} {t : CT} {tt : SD → M Bool} {te : SD → M D} {mt : Bool} {mi : SD → M Src} (c : Cxt X k) (hi : PIm X T W tg it mi) (ok : BlkOk X.N X.env.scope scope own)
    (hg : ∀ (s : Shared) (H : Hp) (C : Addr) (cl : List (Str × Addr)) (fp : List Addr), Cxt (CB X scope s H C cl fp) k → PG (CB X scope s H C cl fp) tg (gOf X.K t))
    (ht : ∀ (s : Shared) (H : Hp) (C : Addr) (cl : List (Str × Addr)) (fp : List Addr), Cxt (CB X scope s H C cl fp) k → PTs (CB X scope s H C cl fp) ifs (tT (gx X T) W0 tt))
    (he : ∀ (s : Shared) (H : Hp) (C : Addr) (cl : List (Str × Addr)) (fp : List Addr), Cxt (CB X scope s H C cl fp) k → PE (CB X scope s H C cl fp) elt (tE (gx X T) W0 te))
    (hs : ∀ i ∈ t.slots, i ∈ vs := by decide) (hv : own.map (·.2) = vs := by rfl) (hf : ∀ x, foldedSetIterable it X.env x = pure x := by intro _; rfl) : PEm X T W (.ListComp elt [⟨tg, it, ifs, 0⟩] scope pos) (mComp vs t tt te mt mi) := by
  subst hv
  exact em_comp c.calm c.nd hi ok hs (fun s H C cl fp => hg s H C cl fp c.blk) (fun s H C cl fp => ht s H C cl fp c.blk) (fun s H C cl fp => he s H C cl fp c.blk) hf
theorem sC {own : List (Str × Nat)} {vs : List Nat} {i : Nat} {y : Str} {py spos : Pos} {t : CT} {tt : SD → M Bool} {te : SD → M D} {mt : Bool} {mi : SD → M Src} (c : Cxt X k) (hi : PIm X T (WC E) tg it mi) (ok : BlkOk X.N X.env.scope scope own)
    (hg : ∀ (s : Shared) (H : Hp) (C : Addr) (cl : List (Str × Addr)) (fp : List Addr), Cxt (CB X scope s H C cl fp) k → PG (CB X scope s H C cl fp) tg (gOf X.K t))
    (ht : ∀ (s : Shared) (H : Hp) (C : Addr) (cl : List (Str × Addr)) (fp : List Addr), Cxt (CB X scope s H C cl fp) k → PTs (CB X scope s H C cl fp) ifs (tT (gx X T) W0 tt))
    (he : ∀ (s : Shared) (H : Hp) (C : Addr) (cl : List (Str × Addr)) (fp : List Addr), Cxt (CB X scope s H C cl fp) k → PE (CB X scope s H C cl fp) elt (tE (gx X T) W0 te))
    (hy : X.N[i]? = some y := by rfl) (hyl : X.env.scope.names.lookup y = some .local := by rfl) (hsw : swapsWith (.ListComp elt [⟨tg, it, ifs, 0⟩] scope pos) (some (.Name y py)) spos.line X.env = pure true := by rfl)
    (hs : ∀ i ∈ t.slots, i ∈ vs := by decide) (hv : own.map (·.2) = vs := by rfl) (hf : ∀ x, foldedSetIterable it X.env x = pure x := by intro _; rfl) : PSm X T E (.Assign [.Name y py] (.ListComp elt [⟨tg, it, ifs, 0⟩] scope pos) spos) (mAsg (mComp vs t tt te mt mi) (gNm i)) := by
  subst hv
  exact sm_comp c.calm c.nd hy hyl hsw hi ok hs (fun s H C cl fp => hg s H C cl fp c.blk) (fun s H C cl fp => ht s H C cl fp c.blk) (fun s H C cl fp => he s H C cl fp c.blk) hf
theorem cgN {K : PySem.W.Frag} (c : Cxt X k) {i : Nat} {x : Str} (hi : X.N[i]? = some x := by rfl) (hx : Loc X.env.scope x := by first | exact .inl rfl | exact .inr rfl) (hf : X.fn x = true ∨ X.env.scope.names.lookup x = some .local := by first | exact .inl rfl | exact .inr rfl) : PG X (.Name x pos) (gOf K (.nm i)) := pg_name c.nd hi hx hf
theorem cgs0 {K : PySem.W.Frag} : PGs X [] (gsOf K .nil) := pgs_nil
theorem cgs1 {K : PySem.W.Frag} {t : CT} {l : CTs} (h1 : PG X tg (gOf K t)) (h2 : PGs X tgs (gsOf K l)) (hs : (assignEach (tg :: tgs) X.env).map (·.2) = assign tg X.env :: (assignEach tgs X.env).map (·.2) := by rfl) : PGs X (tg :: tgs) (gsOf K (.cons t l)) := pgs_cons h1 h2 hs
theorem cgT (c : Cxt X k) {j : Nat} {l : CTs} (h : PGs X tgs (gsOf X.K l)) (hn : (assignEach tgs X.env).length = l.len := by rfl) (hst : (assignEach tgs X.env).findIdx? (·.1) = none := by rfl) : PG X (.Tuple tgs j pos) (gOf X.K (.tp l)) := pg_tup c.calm h hn hst
/-! blocks -/
def blkB (N : List Str) (sc scope : Scope) (own : List (Str × Nat)) : Bool :=
  (match scope.kind with
    | .function => true
    | _ => false) && scope.names.all (fun y => decide (scope.names.lookup y.1 = some y.2)) && own.all (fun p => decide (N[p.2]? = some p.1)) &&
  scope.names.all (fun y => decide (y.2 = .free → sc.names.lookup y.1 = some .cell ∨ sc.names.lookup y.1 = some .free)) &&
  scope.names.all (fun y => decide (y.2 = .local ∨ y.2 = .cell → y.1 ∈ own.map (·.1) ∨ y.1 ∉ N))
theorem blk_mk {N : List Str} {sc scope : Scope} {own : List (Str × Nat)} (h : blkB N sc scope own = true) : BlkOk N sc scope own := by
  unfold blkB at h
  simp only [Bool.and_eq_true, List.all_eq_true, decide_eq_true_eq] at h
  obtain ⟨⟨⟨⟨h1, h2⟩, h3⟩, h4⟩, h5⟩ := h
  refine ⟨?_, h2, h3, h4, h5⟩
  cases e : scope.kind <;> rw [e] at h1 <;> first | rfl | cases h1
/-! -x -/
def opNeg : D → M D
  | .int i => pure (.int (-i))
  | _ => M.bad
def mNeg (m : SD → M D) : SD → M D := fun s => m s >>= opNeg
theorem oNeg {m : SD → M D} (h : PEm X T W e m) : PEm X T W (.UnaryOp .USub e pos) (mNeg m) :=
  weakE (pe_un un_neg h) fun σ H Q h => tG_then (tG_bind (R := RV (gx X T)) (k := fun _ d => opNeg d) h) fun v H1 ⟨ρ1, hd1, sd1, d, ⟨r, _, q⟩, h1⟩ => by
    cases d <;> first | exact h1.elim | skip
    cases q
    exact ⟨_, rfl, ans r (.int _) h1⟩
/-! more methods -/
theorem mInsert {ml : SD → M (List D)} {mo : SD → M D} {apos cpos : Pos} (ho : PEm X T W o mo) (ha : PAm X T W (e :: es) ml) (hbase : attributeBase o "insert" X.env (eval o X.env) = eval o X.env := by rfl)
    (hfew : ((backTo cpos (starEach (e :: es) X.env)).all (fun x => !x.1) && (backToKw cpos (keywordEach [] X.env)).all (fun x => x.1.isSome) && decide ((e :: es).length + ([] : List Keyword).length + (if ([] : List Keyword).isEmpty then 0 else 1) < 30)) = true := by rfl)
    (hline : (apos.endLine == cpos.line) = true := by decide) (hs : starEach (e :: es) X.env = (false, eval e X.env) :: starEach es X.env := by rfl) (hplain : (backTo cpos (starEach es X.env)).any (·.1) = false := by rfl) : PEm X T W (.Call (.Attribute o "insert" apos) (e :: es) [] cpos) (mMeth .list fInsert mo ml) :=
  em_bm (t := .list) PySem.F.plainAttrs_list PySem.F.slot_list_insert PySem.F.type_list_insert mt_insert m_insert ho ha hbase hfew hline hs hplain
theorem mIndex {ml : SD → M (List D)} {mo : SD → M D} {apos cpos : Pos} (c : Cxt X k) (ho : PEm X T W o mo) (ha : PAm X T W (e :: es) ml) (hbase : attributeBase o "index" X.env (eval o X.env) = eval o X.env := by rfl)
    (hfew : ((backTo cpos (starEach (e :: es) X.env)).all (fun x => !x.1) && (backToKw cpos (keywordEach [] X.env)).all (fun x => x.1.isSome) && decide ((e :: es).length + ([] : List Keyword).length + (if ([] : List Keyword).isEmpty then 0 else 1) < 30)) = true := by rfl)
    (hline : (apos.endLine == cpos.line) = true := by decide) (hs : starEach (e :: es) X.env = (false, eval e X.env) :: starEach es X.env := by rfl) (hplain : (backTo cpos (starEach es X.env)).any (·.1) = false := by rfl) : PEm X T W (.Call (.Attribute o "index" apos) (e :: es) [] cpos) (mMeth .list fIndex mo ml) :=
  em_bm (t := .list) PySem.F.plainAttrs_list PySem.F.slot_list_index PySem.F.type_list_index (mt_indexD c.u65) m_index ho ha hbase hfew hline hs hplain
end
end Wy

set_option Elab.async false
set_option linter.all false
set_option maxRecDepth 100000
set_option maxHeartbeats 4000000
namespace Wy
open PySem PySem.Spec PyProof.Rows L2

/-! ### the law's own call: at the ground, where nothing is under way -/
section
variable {P : Program} {w : World} {K : PySem.W.Frag} {mg mb : Str → Option Value} {base : Heap} {T : Tb}
/-- a call's outcome, from the flow that its body leaves -/
theorem leave_def {X : Cx} {outer : List Env} {H : Hp} {s : Shared} {Q : VK} (hX : ∀ {σ' : L2.St} {H' : Hp} {s' : Shared}, Inv X [] σ' H' s' → s'.os = s.os ∧ AllBare s'.gens ∧ Un (frs outer) [] H H' s.heap s'.heap ∧ HOk P w H' s'.heap) {σ' : L2.St} {H' : Hp} {s' : Shared} {v : V} {u : Value} (J : Inv X [] σ' H' s') (rv : RelV v u) (q : Q v H') :
    CE outer P w H s Q u s' := let ⟨a, b, c, d⟩ := hX J; ⟨v, H', a, b, c, d, rv, q⟩
theorem fn_at {A : Around} {outer : List Env} {s : Shared} {H : Hp} {x : Str} {st : Stmt} {f : Addr} {fd : FuncData} {N ps : List Str} {k : Nat} {args : Args} {us : List Value} {vs : List V} {Q : VK} {E : XK} {m : SD → M Fl} (F : Fun K x x st f fd) (S : FnScope N ps (defScope st)) (bu : Bu mg)
    (hr : Room (k + 1) A) (e0 : Env0 P w K mg base A outer s H) (hb : BindsTo s fd args (ps.zip us)) (r : Vals vs us) (hl : vs.length = ps.length)
    (body : ∀ cdv : Value, Cxt (CO P w K mg base N x st f cdv A outer s H E) k → Takes (CO P w K mg base N x st f cdv A outer s H E) (WC E) →
      PassesOwn (model P w) (CO P w K mg base N x st f cdv A outer s H E).A (CO P w K mg base N x st f cdv A outer s H E).env (CO P w K mg base N x st f cdv A outer s H E).xe → PSsm (CO P w K mg base N x st f cdv A outer s H E) T E (defBody st) m)
    (hq : tS ⟨P, w, K, T⟩ E m { nx := fun _ H' => Q .non H', rt := Q } (L2.start N vs) H) : codeAny (model P w) A (.call (.ref f) args) (CR (L2.CX P w) outer P w H s Q E) s := by
  obtain ⟨oc, od, kV, doc, pm, an, cdv, ct, osl, rfl, lk, hcd⟩ := F.ex
  have grow : ∀ (b : Addr) (o : Obj), base.get? b = some o → s.heap.get? b = some o := fun b o e => (e0.bs b o e).1
  have KX := e0.mod.kin.keeps grow
  have kinds : ∀ y ∈ ps.zip us, (defScope st).names.lookup y.1 = some .local ∨ ((defScope st).names.lookup y.1 = some .cell ∧ ((cellsFrom (s.heap.objs.size + 1) (defScope st).names []).lookup y.1).isSome = true) := fun y hy =>
    (S.par y.1 (List.of_mem_zip (a := y.1) (b := y.2) hy).1).imp id fun q => ⟨q, PySem.W.cellsFrom_some _ _ _ (.inl q)⟩
  refine codeAny_call_function hr.depth (KX _ _ lk) rfl S.co S.gen rfl (PySem.W.codeRec_of KX hcd) (hb _ _ _ _ (wpAny_newFunctionEnv_cells S.kind kinds fun env he s1 x1 => ?_))
  subst he
  refine ⟨(e0.mod.nolimit.keeps grow).keeps x1.toInCall.keep, codeAny_func ?_⟩
  have walk := body cdv ⟨rfl, S.nd, hr.deeper _, bu⟩ (takes_of rfl rfl rfl rfl) (passes_of rfl)
  refine wpAny_mono (walk.run [] s1 (L2.start N vs) H _ (inv_start S hr.hd e0 hl r x1) hq) (fun fl s' h => ?_) fun _ _ h => h
  have last : ∀ {σ' : L2.St} {H' : Hp} {v : V} {u : Value}, Inv (CO P w K mg base N x st f cdv A outer s H E) [] σ' H' s' → RelV v u → Q v H' → CE outer P w H s Q u s' := fun J rv q => leave_def (fun J => ⟨J.os, J.bare, J.base, J.hok⟩) J rv q
  match fl, h with
  | .next, h => obtain ⟨_, _, J, q⟩ := h; exact last (v := V.non) (u := Value.none) J rfl q
  | .ret u, h => obtain ⟨v, _, _, J, rv, q⟩ := h; exact last J rv q
  | .brk, h => obtain ⟨_, _, _, q⟩ := h; exact q.elim
  | .cont, h => obtain ⟨_, _, _, q⟩ := h; exact q.elim
/-- nothing is tracked but the script, and it stays -/
def Scr (H : Hp) (a : Addr) (o : Obj) (ns : List Int) : Prop := (∀ b, b ≠ a → H b = none) ∧ (H a = none ∨ H a = some (.frz o (.lst (ns.map V.int))))
/-- the ground as a call's surroundings -/
theorem ground_env {s : Shared} {H : Hp} {a : Addr} {o : Obj} {ns : List Int} (KX : K.In s.heap) (hns : s.heap.Ns mainGlobals mg) (hb : s.heap.Ns builtinsNs mb) (hbb : ∀ x : Str, x ≠ "__name__" → mb x = bootBuiltins x) (hlim : s.heap.NoLimit) (hg : s.gens = #[])
    (ha : s.heap.get? a = some o) (hod : ∀ es ep, o.data ≠ .dict es ep) (hS : Scr H a o ns) (hK : H a ≠ none → K.lookup a = none) (hok : HOk P w H s.heap) :
    K.In (hidT s.heap H) ∧ (hidT s.heap H).Ns mainGlobals mg ∧ Env0 P w K mg (hidT s.heap H) callerA [] s H := by
  have only : ∀ b, H b ≠ none → b = a := fun b hb => Classical.byContradiction fun n => hb (hS.1 b n)
  have stay : ∀ {b : Addr} {ob : Obj}, s.heap.get? b = some ob → (b = a → H a = none) → (hidT s.heap H).get? b = some ob := fun {b ob} e n => hidT_get e (Classical.byContradiction fun z => by
    obtain rfl := only b z
    exact z (n rfl))
  have names : ∀ {b : Addr} {m : Str → Option Value}, s.heap.Ns b m → (hidT s.heap H).Ns b m := fun {b m} ⟨ob, es, ep, e, d, r⟩ => ⟨ob, es, ep, stay e (fun z => by
    subst z
    rw [ha] at e; cases e
    exact absurd d (hod es ep)), d, r⟩
  have KB : K.In (hidT s.heap H) := fun b ob e => stay (KX b ob e) fun z => Classical.byContradiction fun n => by
    subst z
    rw [hK n] at e; cases e
  refine ⟨KB, names hns, rfl, ⟨KB, names hns, ⟨mb, names hb, hbb⟩, hlim.imp fun mc h => ⟨names h.1, h.2⟩⟩, fun b ob e => of_hidT e, Nat.le_of_eq (hidT_size _ _), trivial, fun b hb => (List.not_mem_nil hb).elim, hok, .of_eq hg⟩
/-- what the law's call leaves -/
theorem ground_end {s s' : Shared} {H : Hp} {a : Addr} {o : Obj} {ns : List Int} {r : Result} (hS : Scr H a o ns) (hok : HOk P w H s.heap) (h : CR (L2.CX P w) [] P w H s (fun v _ => v = .bl true) (fun _ _ _ => False) r s') : r = .ok (.ret (.bool true)) ∧ OldK s.heap s'.heap ∧ s'.os = s.os ∧ AllBare s'.gens := by
  match r, h with
  | .error e, h => obtain ⟨_, _, _, _, _, _, _, _, _, _, _, _, h⟩ := h; exact h.elim
  | .ok .next, h => exact h.elim
  | .ok .brk, h => exact h.elim
  | .ok .cont, h => exact h.elim
  | .ok (.ret u), h =>
    obtain ⟨v, H', os, bare, un, hok', rv, q⟩ := h
    obtain rfl : v = .bl true := q
    obtain rfl : u = Value.bool true := rv
    refine ⟨rfl, OldK.of_keep fun b ob e => ?_, os, bare⟩
    by_cases hb : H b = none
    · exact un.keep b ob e hb (List.not_mem_nil) (List.not_mem_nil)
    · have : b = a := Classical.byContradiction fun n => hb (hS.1 b n)
      subst this
      rcases hS.2 with z | z
      · exact absurd z hb
      · have e1 := (hok b _ z).1
        rw [e] at e1; cases e1
        exact (hok' b _ (un.frzs b _ _ z)).1
end
end Wy
namespace Wy
open PySem PySem.Spec PyProof.Rows L2
theorem rep_nil {G : Gx} {H : Hp} : Rep G ⟨[], []⟩ [] H := ⟨rfl, List.nodup_nil, fun a h => (List.not_mem_nil h).elim, fun n a o h => by simp at h⟩
theorem rvs_ints {G : Gx} {ρ : Rg} {H : Hp} : ∀ ns : List Int, RVs G ρ H (ns.map .int) (ns.map V.int)
  | [] => .nil
  | i :: r => .cons (.int i) (rvs_ints r)
/-- THE HEAD of a law: k_head's goal from the walk of the law's def and the plain law -/
theorem walk_law {l : PySem.W.OpenLaw} {n k : Nat} {q : Program} {loose : List Str} {XP : (Str → Option Value) → Heap → Prop} {YP : World → Heap → Prop} {d : DefRec} {K : Params → PySem.W.Frag} {x lw : Str} {st : Stmt} {N : List Str} {m : SD → M Fl}
    (hn : l.most = some n) (hn2 : n ≤ sizeLine) (hdf : d.params.defaults = []) (hr : Room (k + 1) callerA) (hY : ∀ (w : World) (h : Heap), YP w h → (K w.params).In h) (S : FnScope N [x] (defScope st))
    (F : ∀ (w : World) (mg : Str → Option Value) (fa : Addr) (h : Heap), (K w.params).In h → h.Ns mainGlobals mg → mg d.name = some (.ref fa) →
      ∃ (fd : FuncData) (T : Tb), Fun (K w.params) lw lw st fa fd ∧ Bu mg ∧ (∀ (s : Shared) (u : Value), BindsTo s fd ⟨[u], []⟩ [(x, u)]) ∧
        ∀ base : Heap, (K w.params).In base → base.Ns mainGlobals mg → ∀ (cdv : Value) (A : Around) (outer : List Env) (s : Shared) (H : Hp) (E : XK), (CO l.prog w (K w.params) mg base N lw st fa cdv A outer s H E).A.guards = some [] → Cxt (CO l.prog w (K w.params) mg base N lw st fa cdv A outer s H E) k →
          Takes (CO l.prog w (K w.params) mg base N lw st fa cdv A outer s H E) (WC E) → PassesOwn (model l.prog w) (CO l.prog w (K w.params) mg base N lw st fa cdv A outer s H E).A (CO l.prog w (K w.params) mg base N lw st fa cdv A outer s H E).env (CO l.prog w (K w.params) mg base N lw st fa cdv A outer s H E).xe →
          PSsm (CO l.prog w (K w.params) mg base N lw st fa cdv A outer s H E) T E (defBody st) m)
    (plain : ∀ ns : List Int, ns.length ≤ n → (∀ z ∈ ns, Builtin.Int.intBits z ≤ 1048576) → ∃ hd, den true N.length m [.rl (ns.map .int)] [] = .ok (.bl true) hd) : PySem.W.WalkO q loose XP YP l.row.toRowW d [] (fun f vs => PySem.call f vs) := by
  refine Att.attach_callB hn hdf fun w s₀ s₁ mg mb fa o pm cd doc a vs ns G Y ho hd hcd hmg hobj hints hlen hbits hg => ?_
  have KX := hY w _ Y
  obtain ⟨fd, T, Fn, bu, hb, hF⟩ := F w mg fa _ KX G.T.g hmg
  have rv := vals_ints hints
  obtain ⟨hde, pl⟩ := plain ns hlen hbits
  have core : ∀ H : Hp, Scr H a { cls := .type "list", data := .seq vs.toArray } ns → (H a ≠ none → (K w.params).lookup a = none) → HOk l.prog w H s₁.heap → (∀ ρ : Rg, ρ = ⟨[], []⟩ → Ro (K w.params) ρ H a (ns.map V.int)) →
      codeAny (model l.prog w) callerA (.call (.ref fa) ⟨[.ref a], []⟩) (fun r s' => r = .ok (.ret (.bool true)) ∧ OldK s₁.heap s'.heap ∧ s'.os = s₁.os ∧ AllBare s'.gens) s₁ := fun H hS hK hok ro => by
    obtain ⟨kb, nb, e0⟩ := ground_env (P := l.prog) (w := w) KX G.T.g G.T.b G.T.builtins G.T.nolimit hg hobj (fun es ep z => by cases z) hS hK hok
    have sp : spOf ⟨l.prog, w, K w.params, T⟩ 1 (den true N.length m) [V.ref a] H (fun v _ => v = .bl true) (fun _ _ _ => False) := ⟨⟨[], []⟩, [], [.rl (ns.map .int)], rep_nil, .cons (.rl (ro _ rfl) (rvs_ints ns)) .nil, rfl, by
      rw [pl]
      intro ρ' H' b _ _ rb
      cases rb
      rfl⟩
    exact codeAny_mono (fn_at (vs := [V.ref a]) (us := [.ref a]) (ps := [x]) Fn S bu hr e0 (hb s₁ (.ref a)) (.cons rfl .nil) rfl (fun cdv c tk hp => hF _ kb nb cdv callerA [] s₁ H _ rfl c tk hp)
      (den_body (X := CO l.prog w (K w.params) mg (hidT s₁.heap H) N lw st fa .none callerA [] s₁ H (fun _ _ _ => False)) rfl sp)) fun r s' h => ground_end hS hok h
  cases hk : (K w.params).lookup a with
  | some ob =>
    have e := KX a ob hk
    rw [hobj] at e
    cases e
    refine core (fun _ => none) ⟨fun _ _ => rfl, .inl rfl⟩ (fun z => absurd rfl z) (fun b u z => by cases z) fun ρ _ => .inr fun H' => .inr ⟨_, vs.toArray, _, hk, rfl, rfl, rfl, ?_, by simpa using rv⟩
    rw [List.size_toArray, hints.length]
    exact Nat.le_trans hlen hn2
  | none =>
    have at_ : ∀ b, b ≠ a → (if b = a then some (HO.frz { cls := .type "list", data := .seq vs.toArray } (.lst (ns.map V.int))) else none) = none := fun b n => if_neg n
    refine core (fun b => if b = a then some (.frz { cls := .type "list", data := .seq vs.toArray } (.lst (ns.map V.int))) else none) ⟨at_, .inr (if_pos rfl)⟩ (fun _ => hk) (fun b u z => ?_) fun ρ e => .inl ⟨by subst e; exact ⟨List.not_mem_nil, List.not_mem_nil⟩, .inr ⟨_, if_pos rfl⟩⟩
    by_cases hb : b = a
    · subst hb
      have z' := (if_pos rfl).symm.trans z
      cases z'
      exact ⟨hobj, by rw [List.length_map]; exact Nat.le_trans hlen hn2, vs, _, rv, hobj⟩
    · have z' := (at_ b hb).symm.trans z
      cases z'
end Wy

set_option Elab.async false
set_option linter.all false
set_option maxRecDepth 100000
set_option maxHeartbeats 4000000
namespace Wy
open PySem PySem.Spec PyProof.Rows L2

/-! ### plain facts: data as values -/
mutual
def ofP : PyData → D
  | .none => .non
  | .bool b => .bl b
  | .int i => .int i
  | .str x => .str x
  | .list xs => .lv (ofPs xs)
  | .tuple xs => .tup (ofPs xs)
  | .dict _ => .non
def ofPs : List PyData → List D
  | [] => []
  | x :: xs => ofP x :: ofPs xs
end
theorem ofPs_map : ∀ l : List PyData, ofPs l = l.map ofP
  | [] => rfl
  | x :: xs => by simp [ofPs, ofPs_map xs]
/-- data of short numbers and good texts -/
def fineP : PyData → Bool
  | .none => true
  | .bool _ => true
  | .int i => decide (i.natAbs < 10 ^ 12)
  | .str x => PyData.strOk x
  | .list xs => fineAll xs
  | .tuple xs => fineAll xs
  | .dict _ => false
where fineAll : List PyData → Bool
  | [] => true
  | x :: xs => fineP x && fineAll xs
theorem fineAll_iff : ∀ {l : List PyData}, fineP.fineAll l = true ↔ ∀ p ∈ l, fineP p = true
  | [] => by simp [fineP.fineAll]
  | x :: xs => by simp [fineP.fineAll, fineAll_iff (l := xs)]
mutual
theorem toPG_ofP {r : Nat → Option (List PyData)} : ∀ p : PyData, p.canLay0 = true → toPG r (ofP p) = some p
  | .none, _ => rfl
  | .bool _, _ => rfl
  | .int _, _ => rfl
  | .str _, _ => rfl
  | .list xs, h => by simp only [ofP, toPG, toPGs_ofP xs (by simpa [PyData.canLay0] using h), Option.map_some]
  | .tuple xs, h => by simp only [ofP, toPG, toPGs_ofP xs (by simpa [PyData.canLay0] using h), Option.map_some]
  | .dict _, h => by simp [PyData.canLay0] at h
theorem toPGs_ofP {r : Nat → Option (List PyData)} : ∀ l : List PyData, PyData.canLayAll0 l = true → toPG.toPGs r (ofPs l) = some l
  | [], _ => rfl
  | x :: xs, h => by
    simp only [PyData.canLayAll0, Bool.and_eq_true] at h
    simp only [ofPs, toPG.toPGs, toPG_ofP x h.1, toPGs_ofP xs h.2]
end
mutual
theorem lay_fine : ∀ p : PyData, fineP p = true → p.canLay0 = true
  | .none, _ => rfl
  | .bool _, _ => rfl
  | .int _, _ => rfl
  | .str _, h => by simpa [PyData.canLay0, fineP] using h
  | .list xs, h => by simpa [PyData.canLay0] using lays_fine xs (by simpa [fineP] using h)
  | .tuple xs, h => by simpa [PyData.canLay0] using lays_fine xs (by simpa [fineP] using h)
  | .dict _, h => by simp [fineP] at h
theorem lays_fine : ∀ l : List PyData, fineP.fineAll l = true → PyData.canLayAll0 l = true
  | [], _ => rfl
  | x :: xs, h => by
    simp only [fineP.fineAll, Bool.and_eq_true] at h
    simp only [PyData.canLayAll0, lay_fine x h.1, lays_fine xs h.2, Bool.and_self]
end
theorem log_small {n : Nat} (h : n < 10 ^ 12) : n.log2 < 1920 := by
  by_cases z : n = 0
  · subst z; decide
  · have := (Nat.log2_lt z (k := 1920)).mpr (Nat.lt_trans h (by decide +kernel))
    exact this
mutual
theorem show_fine : ∀ p : PyData, fineP p = true → p.showable = true ∧ p.intsShort 13 = true
  | .none, _ => ⟨rfl, rfl⟩
  | .bool _, _ => ⟨rfl, rfl⟩
  | .int i, h => by
    have h : i.natAbs < 10 ^ 12 := by simpa [fineP] using h
    exact ⟨by simp only [PyData.showable]; exact decide_eq_true (log_small h), by simp only [PyData.intsShort]; exact decide_eq_true (PyData.shown_int_le h)⟩
  | .str _, _ => ⟨rfl, rfl⟩
  | .list xs, h => by simpa [PyData.showable, PyData.intsShort] using shows_fine xs (by simpa [fineP] using h)
  | .tuple xs, h => by simpa [PyData.showable, PyData.intsShort] using shows_fine xs (by simpa [fineP] using h)
  | .dict _, h => by simp [fineP] at h
theorem shows_fine : ∀ l : List PyData, fineP.fineAll l = true → PyData.showableAll l = true ∧ PyData.intsShortAll 13 l = true
  | [], _ => ⟨rfl, rfl⟩
  | x :: xs, h => by
    simp only [fineP.fineAll, Bool.and_eq_true] at h
    simp only [PyData.showableAll, PyData.intsShortAll, show_fine x h.1, shows_fine xs h.2, Bool.and_self, and_self]
end

/-! ### what is shown is a good text -/
def cpOk (l : List Nat) : Prop := ∀ c ∈ l, c < 0x110000
theorem okS_iff {x : Str} : PyData.strOk x = true ↔ cpOk x.cps.toList := by
  unfold PyData.strOk cpOk
  rw [← Array.all_toList, List.all_eq_true]
  simp
theorem cps_app (x y : Str) : (x ++ y).cps.toList = x.cps.toList ++ y.cps.toList := by
  show (x.cps ++ y.cps).toList = _
  simp
theorem ok_app {x y : Str} (h : PyData.strOk x = true) (h' : PyData.strOk y = true) : PyData.strOk (x ++ y) = true := by
  rw [okS_iff, cps_app]
  intro c hc
  rcases List.mem_append.mp hc with hc | hc
  · exact okS_iff.mp h c hc
  · exact okS_iff.mp h' c hc
theorem char_ok (c : Char) : c.toNat < 0x110000 := by
  have := c.valid
  rcases this with h | h
  · exact Nat.lt_trans h (by decide)
  · exact h.2
theorem ok_of (s : String) : PyData.strOk (Str.ofString s) = true := by
  rw [okS_iff]
  intro c hc
  rw [Str.ofString_eq_toList] at hc
  obtain ⟨ch, _, rfl⟩ := List.mem_map.mp (by simpa only [List.toList_toArray] using hc)
  exact char_ok ch
theorem reprChar_ok {q c : Nat} (hc : c < 0x110000) (hq : q < 0x110000) : cpOk (Builtin.Str.reprChar q c) := by
  have hex : ∀ w, cpOk (List.replicate (w - (Nat.toDigits 16 c).length) 48 ++ (Nat.toDigits 16 c).map Char.toNat) := fun w x hx => by
    rcases List.mem_append.mp hx with hx | hx
    · rw [List.eq_of_mem_replicate hx]; decide
    · obtain ⟨ch, _, rfl⟩ := List.mem_map.mp hx
      exact char_ok ch
  have two : ∀ a b, a < 0x110000 → b < 0x110000 → cpOk [a, b] := fun a b ha hb x hx => by
    simp at hx
    rcases hx with rfl | rfl <;> assumption
  unfold Builtin.Str.reprChar
  dsimp only
  have join : ∀ {l m : List Nat}, cpOk l → cpOk m → cpOk (l ++ m) := fun hl hm x hx => (List.mem_append.mp hx).elim (hl x) (hm x)
  have hex' : ∀ w, cpOk (List.replicate (w - ((Nat.toDigits 16 c).map Char.toNat).length) 48 ++ (Nat.toDigits 16 c).map Char.toNat) := fun w => by rw [List.length_map]; exact hex w
  split
  · exact two _ _ (by decide) hc
  split
  · exact two _ _ (by decide) (by decide)
  split
  · exact two _ _ (by decide) (by decide)
  split
  · exact two _ _ (by decide) (by decide)
  split
  · intro x hx; simp at hx; subst hx; exact hc
  split
  · exact join (two _ _ (by decide) (by decide)) (hex' 2)
  split
  · exact join (two _ _ (by decide) (by decide)) (hex' 4)
  · exact join (two _ _ (by decide) (by decide)) (hex' 8)
theorem fold_ok {q : Nat} (hq : q < 0x110000) : ∀ (l : List Nat) (acc : Array Nat), cpOk l → cpOk acc.toList → cpOk (l.foldl (fun out c => out ++ (Builtin.Str.reprChar q c).toArray) acc).toList
  | [], acc, _, h => h
  | c :: l, acc, hl, h => fold_ok hq l _ (fun x hx => hl x (List.mem_cons_of_mem _ hx)) (by
    intro x hx
    simp at hx
    rcases hx with hx | hx
    · exact h x (by simpa using hx)
    · exact reprChar_ok (hl c (by simp)) hq x hx)
theorem reprText_ok {x : Str} (h : PyData.strOk x = true) : PyData.strOk (reprText x) = true := by
  have hq : reprQuote x < 0x110000 := by
    unfold reprQuote
    split <;> decide
  rw [okS_iff]
  unfold reprText
  intro c hc
  simp only [Array.toList_push, List.mem_append, List.mem_singleton] at hc
  rcases hc with hc | hc
  · refine fold_ok hq x.cps.toList #[reprQuote x] (okS_iff.mp h) ?_ c (by rw [← Array.foldl_toList] at hc; exact hc)
    intro y hy
    simp at hy
    subst hy
    exact hq
  · subst hc; exact hq
theorem textFrom_ok : ∀ (ts : List Str) (k : Nat) (acc : Str), (∀ t ∈ ts, PyData.strOk t = true) → PyData.strOk acc = true → PyData.strOk (textFrom k acc ts) = true
  | [], k, acc, _, h => h
  | t :: r, k, acc, ht, h => by
    unfold textFrom
    exact textFrom_ok r (k + 1) _ (fun x hx => ht x (List.mem_cons_of_mem _ hx)) (ok_app (ok_app h (by split <;> exact ok_of _)) (ht t (by simp)))
theorem join_ok {sep : Str} (hs : PyData.strOk sep = true) : ∀ ts : List Str, (∀ t ∈ ts, PyData.strOk t = true) → PyData.strOk (Str.join sep ts) = true
  | [], _ => ok_of ""
  | [x], h => h x (by simp)
  | x :: y :: r, h => by
    show PyData.strOk (x ++ sep ++ Str.join sep (y :: r)) = true
    exact ok_app (ok_app (h x (by simp)) hs) (join_ok hs (y :: r) fun t ht => h t (List.mem_cons_of_mem _ ht))
mutual
theorem shown_ok : ∀ p : PyData, p.canLay0 = true → PyData.strOk p.shown = true
  | .none, _ => by simp only [PyData.shown]; exact ok_of _
  | .bool b, _ => by simp only [PyData.shown]; split <;> exact ok_of _
  | .int i, _ => by simp only [PyData.shown]; exact ok_of _
  | .str x, h => by simp only [PyData.shown]; exact reprText_ok (by simpa [PyData.canLay0] using h)
  | .list xs, h => by
    simp only [PyData.shown, listText]
    exact ok_app (textFrom_ok _ _ _ (showns_ok xs (by simpa [PyData.canLay0] using h)) (ok_of _)) (ok_of _)
  | .tuple xs, h => by
    simp only [PyData.shown, tupleText]
    exact ok_app (ok_app (ok_of _) (join_ok (ok_of _) _ (showns_ok xs (by simpa [PyData.canLay0] using h)))) (by split <;> exact ok_of _)
  | .dict _, h => by simp [PyData.canLay0] at h
theorem showns_ok : ∀ l : List PyData, PyData.canLayAll0 l = true → ∀ t ∈ PyData.shownAll l, PyData.strOk t = true
  | [], _, t, ht => by simp [PyData.shownAll] at ht
  | x :: xs, h, t, ht => by
    simp only [PyData.canLayAll0, Bool.and_eq_true] at h
    simp only [PyData.shownAll, List.mem_cons] at ht
    rcases ht with rfl | ht
    · exact shown_ok x h.1
    · exact showns_ok xs h.2 t ht
end
theorem repr1_ok {d : D} {h : DH} {p : PyData} (e : toP h d = some p) (f : fineP p = true) (hd : p.depth ≤ 64) (hw : p.weight ≤ 2 ^ 20) : repr1 d h = .ok (.str p.shown) h := by
  unfold repr1
  rw [e]
  obtain ⟨h1, h2⟩ := show_fine p f
  have h3 := lay_fine p f
  simp only [h1, hd, PyData.shown_fits (by decide) (by decide) (PyData.leavesShort_of_canLay0 13 p h3 h2) hw, shown_ok p h3, and_self, if_true]
end Wy

set_option Elab.async false
set_option linter.all false
set_option maxRecDepth 100000
set_option maxHeartbeats 4000000
namespace Wy
open PySem PySem.Spec PyProof.Rows L2

/-! ### keys and == -/
def keyP : PyData → NestedKey
  | .none => .none
  | .bool b => .num (if b then 1 else 0)
  | .int i => .num i
  | .str x => .text x
  | .tuple xs => .tup (keyPs xs)
  | .list _ => .none
  | .dict _ => .none
where keyPs : List PyData → List NestedKey
  | [] => []
  | x :: xs => keyP x :: keyPs xs
/-- data that may be keys: no lists, no dicts -/
def hashP : PyData → Bool
  | .list _ => false
  | .dict _ => false
  | .tuple xs => hashPs xs
  | _ => true
where hashPs : List PyData → Bool
  | [] => true
  | x :: xs => hashP x && hashPs xs
mutual
theorem toK_ofP : ∀ p : PyData, hashP p = true → toK (ofP p) = some (keyP p)
  | .none, _ => rfl
  | .bool _, _ => rfl
  | .int _, _ => rfl
  | .str _, _ => rfl
  | .list _, h => by simp [hashP] at h
  | .dict _, h => by simp [hashP] at h
  | .tuple xs, h => by simp only [ofP, toK, toKs_ofP xs (by simpa [hashP] using h), Option.map_some, keyP]
theorem toKs_ofP : ∀ l : List PyData, hashP.hashPs l = true → toK.toKs (ofPs l) = some (keyP.keyPs l)
  | [], _ => rfl
  | x :: xs, h => by
    simp only [hashP.hashPs, Bool.and_eq_true] at h
    simp only [ofPs, toK.toKs, toK_ofP x h.1, toKs_ofP xs h.2, keyP.keyPs]
end
mutual
theorem key_eqv : ∀ p q : PyData, hashP p = true → hashP q = true → (keyP p = keyP q ↔ PyData.eqv p q = true)
  | .none, q, _, hq => by cases q <;> simp_all [keyP, PyData.eqv, hashP]
  | .bool a, q, _, hq => by cases q <;> simp_all [keyP, PyData.eqv, hashP] <;> (try cases a) <;> (try rename_i b; cases b) <;> simp
  | .int a, q, _, hq => by cases q <;> simp_all [keyP, PyData.eqv, hashP]
  | .str a, q, _, hq => by cases q <;> simp_all [keyP, PyData.eqv, hashP]
  | .list _, q, h, _ => by simp [hashP] at h
  | .dict _, q, h, _ => by simp [hashP] at h
  | .tuple xs, q, h, hq => by
    cases q with
    | tuple ys => simp only [keyP, PyData.eqv, NestedKey.tup.injEq, keys_eqv xs ys (by simpa [hashP] using h) (by simpa [hashP] using hq)]
    | _ => simp_all [keyP, PyData.eqv, hashP]
theorem keys_eqv : ∀ xs ys : List PyData, hashP.hashPs xs = true → hashP.hashPs ys = true → (keyP.keyPs xs = keyP.keyPs ys ↔ PyData.eqvAll xs ys = true)
  | [], ys, _, _ => by cases ys <;> simp [keyP.keyPs, PyData.eqvAll]
  | x :: xs, ys, h, hq => by
    cases ys with
    | nil => simp [keyP.keyPs, PyData.eqvAll]
    | cons y ys =>
      simp only [hashP.hashPs, Bool.and_eq_true] at h hq
      simp only [keyP.keyPs, PyData.eqvAll, List.cons.injEq, Bool.and_eq_true, key_eqv x y h.1 hq.1, keys_eqv xs ys h.2 hq.2]
end
mutual
theorem key_depth : ∀ p : PyData, hashP p = true → (keyP p).depth = p.depth
  | .none, _ | .bool _, _ | .int _, _ | .str _, _ => by simp [keyP, NestedKey.depth, PyData.depth]
  | .list _, h => by simp [hashP] at h
  | .dict _, h => by simp [hashP] at h
  | .tuple xs, h => by simp only [keyP, NestedKey.depth, PyData.depth, keys_depth xs (by simpa [hashP] using h)]
theorem keys_depth : ∀ l : List PyData, hashP.hashPs l = true → NestedKey.depthAll (keyP.keyPs l) = PyData.depthAll l
  | [], _ => by simp [keyP.keyPs, NestedKey.depthAll, PyData.depthAll]
  | x :: xs, h => by
    simp only [hashP.hashPs, Bool.and_eq_true] at h
    simp only [keyP.keyPs, NestedKey.depthAll, PyData.depthAll, key_depth x h.1, keys_depth xs h.2]
end
/-! ### the first equal one -/
theorem fstEq_append {q o : PyData} : ∀ {pre : List PyData}, fstEq q (pre ++ [o]) = match fstEq q pre with
    | some i => some i
    | none => if PyData.eqv o q = true then some pre.length else none
  | [] => by
    simp only [List.nil_append, fstEq]
    split <;> simp_all
  | p :: pre => by
    simp only [List.cons_append, fstEq, fstEq_append (pre := pre)]
    by_cases c : PyData.eqv p q = true
    · simp [c]
    · simp only [c]
      cases fstEq q pre with
      | some i => simp
      | none => by_cases c2 : PyData.eqv o q = true <;> simp [c2]
theorem fstEq_any {q : PyData} : ∀ {l : List PyData}, (fstEq q l).isSome = l.any fun z => PyData.eqv z q
  | [] => rfl
  | p :: l => by
    simp only [fstEq, List.any_cons]
    by_cases c : PyData.eqv p q = true
    · simp [c]
    · simp [c, fstEq_any (l := l)]
theorem fstEq_lt {q : PyData} : ∀ {l : List PyData} {i : Nat}, fstEq q l = some i → i < l.length
  | [], i, h => by cases h
  | p :: l, i, h => by
    unfold fstEq at h
    by_cases c : PyData.eqv p q = true
    · rw [if_pos c] at h; cases h; simp
    · rw [if_neg c] at h
      obtain ⟨j, h1, rfl⟩ := Option.map_eq_some_iff.mp h
      have := fstEq_lt h1
      simp; omega
/-! ### loops -/
section
variable {g : D → SD → M SD} {body : SD → M Fl} {chk : DH → Bool} {I : List D → SD → DH → Prop} {R : D → DH → Prop}
/-- a loop by what holds ahead of the rest of the things -/
theorem loop_run (stop : ∀ s h, I [] s h → chk h = true) (step : ∀ d ds s h, I (d :: ds) s h → chk h = true ∧ ∃ s1 h1, g d s h = .ok s1 h1 ∧
      ((∃ s2 h2, (body s1 h1 = .ok (.nx s2) h2 ∨ body s1 h1 = .ok (.ct s2) h2) ∧ I ds s2 h2) ∨ ∃ v h2, body s1 h1 = .ok (.rt v) h2 ∧ R v h2)) :
    ∀ ds s h, I ds s h → (∃ s' h', loopM g body chk ds s h = .ok (.nx s') h' ∧ I [] s' h') ∨ ∃ v h', loopM g body chk ds s h = .ok (.rt v) h' ∧ R v h'
  | [], s, h, i => .inl ⟨s, h, by unfold loopM; rw [if_pos (stop s h i)], i⟩
  | d :: ds, s, h, i => by
    obtain ⟨c, s1, h1, e1, q⟩ := step d ds s h i
    unfold loopM
    rw [if_pos c, e1]
    dsimp only
    rcases q with ⟨s2, h2, e2 | e2, i2⟩ | ⟨v, h2, e2, r⟩
    · rw [e2]; exact loop_run stop step ds s2 h2 i2
    · rw [e2]; exact loop_run stop step ds s2 h2 i2
    · rw [e2]; exact .inr ⟨v, h2, rfl, r⟩
theorem loop_all (stop : ∀ s h, I [] s h → chk h = true) (step : ∀ d ds s h, I (d :: ds) s h → chk h = true ∧ ∃ s1 h1, g d s h = .ok s1 h1 ∧ ∃ s2 h2, body s1 h1 = .ok (.nx s2) h2 ∧ I ds s2 h2) (ds : List D) (s : SD) (h : DH) (i : I ds s h) :
    ∃ s' h', loopM g body chk ds s h = .ok (.nx s') h' ∧ I [] s' h' := by
  rcases loop_run (R := fun _ _ => False) stop (fun d ds s h i => by
    obtain ⟨c, s1, h1, e1, s2, h2, e2, i2⟩ := step d ds s h i
    exact ⟨c, s1, h1, e1, .inl ⟨s2, h2, .inl e2, i2⟩⟩) ds s h i with q | ⟨_, _, _, q⟩
  · exact q
  · exact q.elim
end
/-! ### defs -/
/-- all objects hold values that name no object -/
def Pur (h : DH) : Prop := ∀ o ∈ h, ∀ n, Ob.under n o = true
theorem Pur.all {h : DH} (p : Pur h) {n : Nat} : (h.all (Ob.under n)) = true := List.all_eq_true.mpr fun o ho => p o ho n
theorem pur_nil : Pur [] := fun o h => (List.not_mem_nil h).elim
theorem Pur.app {h g : DH} (a : Pur h) (b : Pur g) : Pur (h ++ g) := fun o ho => (List.mem_append.mp ho).elim (a o) (b o)
theorem Pur.set {h : DH} (a : Pur h) {n : Nat} {o : Ob} (b : ∀ n, Ob.under n o = true) : Pur (h.set n o) := fun o' ho => by
  rcases List.mem_or_eq_of_mem_set ho with h1 | rfl
  · exact a o' h1
  · exact b
theorem den_val {z : Bool} {n : Nat} {m : SD → M Fl} {ds : List D} {h h' : DH} {d d' : D} (e : m (slots0 n ds) h = .ok (.rt d) h') (p : Pur (h'.take h.length)) (l : h.length ≤ h'.length) (o : out z h' h.length d = some d') : den z n m ds h = .ok d' (h'.take h.length) := by
  unfold den cutZ
  rw [bind_ap, e]
  dsimp only [endF, pure_ap]
  rw [if_pos ⟨p.all, l⟩, o]
theorem den_none {z : Bool} {n : Nat} {m : SD → M Fl} {ds : List D} {h h' : DH} {s : SD} (e : m (slots0 n ds) h = .ok (.nx s) h') (p : Pur (h'.take h.length)) (l : h.length ≤ h'.length) : den z n m ds h = .ok .non (h'.take h.length) := by
  unfold den cutZ
  rw [bind_ap, e]
  dsimp only [endF, pure_ap]
  rw [if_pos ⟨p.all, l⟩]
  cases z <;> rfl
mutual
theorem frz_pur {r : Nat → Option D} : ∀ p : PyData, frzG r (ofP p) = some (ofP p)
  | .none | .bool _ | .int _ | .str _ | .dict _ => rfl
  | .list xs => by simp only [ofP, frzG, frzs_pur xs, Option.map_some]
  | .tuple xs => by simp only [ofP, frzG, frzs_pur xs, Option.map_some]
theorem frzs_pur {r : Nat → Option D} : ∀ l : List PyData, frzGs r (ofPs l) = some (ofPs l)
  | [] => rfl
  | x :: xs => by simp only [ofPs, frzGs, frz_pur x, frzs_pur xs]
end
mutual
theorem ofP_under {n : Nat} : ∀ p : PyData, (ofP p).under n = true
  | .none | .bool _ | .int _ | .str _ | .dict _ => by simp [ofP, D.under]
  | .list xs => by simp only [ofP, D.under, ofPs_under xs]
  | .tuple xs => by simp only [ofP, D.under, ofPs_under xs]
theorem ofPs_under {n : Nat} : ∀ l : List PyData, D.unders n (ofPs l) = true
  | [] => by simp [ofPs, D.unders]
  | x :: xs => by simp only [ofPs, D.unders, ofP_under x, ofPs_under xs, Bool.and_self]
end
theorem out_ofP {z : Bool} {h : DH} {n : Nat} (p : PyData) : out z h n (ofP p) = some (ofP p) := by
  unfold out
  cases z
  · rw [if_neg (by decide), if_pos (ofP_under p)]
  · rw [if_pos rfl, frz_pur]
/-- an own list is handed out -/
theorem out_lst {h g : DH} {l : List PyData} : out true (h ++ .lst (ofPs l) :: g) h.length (.ref h.length) = some (.lv (ofPs l)) := by
  unfold out
  rw [if_pos rfl]
  simp only [frzG, frz]
  rw [if_neg (Nat.lt_irrefl _), List.getElem?_append_right (Nat.le_refl _), Nat.sub_self]
  simp only [List.getElem?_cons_zero, frzs_pur, Option.map_some]
end Wy

set_option Elab.async false
set_option linter.all false
set_option maxRecDepth 100000
set_option maxHeartbeats 4000000
namespace Wy
open PySem PySem.Spec PyProof.Rows L2

/-! ### how the denotations run -/
/-- after a result -/
def Re.then {α β : Type} (r : Re α) (k : α → DH → Re β) : Re β := match r with
  | .ok a h => k a h
  | .ex C fs h => .ex C fs h
  | .bad => .bad
section
variable {α β : Type} {a : α} {h : DH} {k : α → DH → Re β} {s : SD} {m : SD → M D} {ml : SD → M (List D)} {t u : SD → M Bool} {f g : SD → M Fl}
theorem byT {α : Sort _} {a b : α} (h : a = b) : a = b := Eq.trans h (Eq.trans rfl rfl)
@[simp] theorem then_ok : (Re.ok a h).then k = k a h := byT rfl
@[simp] theorem then_ex {C : Str} {fs : List (Str × D)} : (Re.ex C fs h : Re α).then k = .ex C fs h := byT rfl
@[simp] theorem then_bad : (Re.bad : Re α).then k = .bad := byT rfl
@[simp] theorem ev_bind {m : M α} {k : α → M β} : (m >>= k) h = (m h).then k := by
  rw [bind_ap]; cases m h <;> rfl
theorem bind_fun {m : M α} {k : α → M β} : (m >>= k) = fun h => (m h).then k := funext fun h => ev_bind
@[simp] theorem ev_seq : mSeq f g s h = (f s h).then fun x h' => match x with
    | .nx s' => g s' h'
    | x => .ok x h' := by
  unfold mSeq; rw [ev_bind]; cases f s h with
  | ok x h' => cases x <;> rfl
  | ex C fs h' => rfl
  | bad => rfl
@[simp] theorem ev_next : mNext s h = .ok (.nx s) h := rfl
@[simp] theorem ev_asg {g : D → SD → M SD} : mAsg m g s h = (m s h).then fun d h' => (g d s h').then fun s' h'' => .ok (.nx s') h'' := by
  unfold mAsg; simp only [bind_fun]; rfl
@[simp] theorem ev_expr : mExpr m s h = (m s h).then fun _ h' => .ok (.nx s) h' := by unfold mExpr; simp only [ev_bind]; rfl
@[simp] theorem ev_ret : mRet m s h = (m s h).then fun d h' => .ok (.rt d) h' := by unfold mRet; simp only [ev_bind]; rfl
@[simp] theorem ev_retN : mRetN s h = .ok (.rt .non) h := rfl
@[simp] theorem ev_brk : mBrk s h = .ok (.bk s) h := rfl
@[simp] theorem ev_cnt : mCnt s h = .ok (.ct s) h := rfl
@[simp] theorem ev_if : mIf t f g s h = (t s h).then fun b h' => if b = true then f s h' else g s h' := by
  unfold mIf; rw [ev_bind]; cases t s h with
  | ok b h' => cases b <;> rfl
  | ex C fs h' => rfl
  | bad => rfl
@[simp] theorem ev_ite {m k : SD → M α} : mIte t m k s h = (t s h).then fun b h' => if b = true then m s h' else k s h' := by
  unfold mIte; rw [ev_bind]; cases t s h with
  | ok b h' => cases b <;> rfl
  | ex C fs h' => rfl
  | bad => rfl
@[simp] theorem ev_c {d : D} : mC d s h = .ok d h := rfl
theorem ev_v {i : Nat} : mVar i s h = match s[i]? with
    | some (some d) => .ok d h
    | _ => .bad := by
  unfold mVar
  cases s[i]? with
  | none => rfl
  | some o => cases o <;> rfl
@[simp] theorem ev_v0 {d : D} {s : SD} : mVar 0 (some d :: s) h = .ok d h := rfl
@[simp] theorem ev_vS {i : Nat} {x : Option D} {s : SD} : mVar (i + 1) (x :: s) h = mVar i s h := by
  rw [ev_v, ev_v, List.getElem?_cons_succ]
@[simp] theorem ev_nil : mNil s h = .ok [] h := rfl
@[simp] theorem ev_cons : mCons m ml s h = (m s h).then fun d h1 => (ml s h1).then fun ds h2 => .ok (d :: ds) h2 := by unfold mCons; simp only [bind_fun]; rfl
@[simp] theorem ev_tup : mTup ml s h = (ml s h).then fun ds h' => .ok (.tup ds) h' := by unfold mTup; simp only [ev_bind]; rfl
@[simp] theorem ev_lst {mt : Bool} : mLst mt ml s h = (ml s h).then fun ds h' => mkL mt ds h' := by unfold mLst; simp only [ev_bind]
@[simp] theorem ev_m2 {o : D → D → M D} {ma mb : SD → M D} : m2 o ma mb s h = (ma s h).then fun d h1 => (mb s h1).then fun e h2 => o d e h2 := by unfold m2; simp only [bind_fun]
@[simp] theorem ev_test : mTest m s h = (m s h).then fun d h' => match d with
    | .bl b => .ok b h'
    | _ => .bad := by
  unfold mTest; rw [ev_bind]; cases m s h with
  | ok d h' => cases d <;> rfl
  | ex C fs h' => rfl
  | bad => rfl
@[simp] theorem ev_call {F : List D → M D} : mCall F ml s h = (ml s h).then fun ds h' => F ds h' := by unfold mCall; simp only [ev_bind]
@[simp] theorem ev_one {o : D → M D} {d : D} : one o [d] h = o d h := byT rfl
@[simp] theorem ev_two {o : D → D → M D} {d e : D} : two o [d, e] h = o d e h := byT rfl
@[simp] theorem ev_not : mNot t s h = (t s h).then fun b h' => .ok (!b) h' := by unfold mNot; simp only [ev_bind]; rfl
@[simp] theorem ev_andT : mAndT t u s h = (t s h).then fun b h' => if b = true then u s h' else .ok false h' := by
  unfold mAndT; rw [ev_bind]; cases t s h with
  | ok b h' => cases b <;> rfl
  | ex C fs h' => rfl
  | bad => rfl
@[simp] theorem ev_orT : mOrT t u s h = (t s h).then fun b h' => if b = true then .ok true h' else u s h' := by
  unfold mOrT; rw [ev_bind]; cases t s h with
  | ok b h' => cases b <;> rfl
  | ex C fs h' => rfl
  | bad => rfl
@[simp] theorem ev_andV {m k : SD → M D} : mAndV m k s h = (m s h).then fun d h' => match d with
    | .bl true => k s h'
    | .bl false => .ok (.bl false) h'
    | _ => .bad := by
  unfold mAndV; rw [ev_bind]; cases m s h with
  | ok d h' => cases d <;> first | rfl | (rename_i b; cases b <;> rfl)
  | ex C fs h' => rfl
  | bad => rfl
@[simp] theorem ev_orV {m k : SD → M D} : mOrV m k s h = (m s h).then fun d h' => match d with
    | .bl true => .ok (.bl true) h'
    | .bl false => k s h'
    | _ => .bad := by
  unfold mOrV; rw [ev_bind]; cases m s h with
  | ok d h' => cases d <;> first | rfl | (rename_i b; cases b <;> rfl)
  | ex C fs h' => rfl
  | bad => rfl
@[simp] theorem ev_notV : mNotV m s h = (m s h).then fun d h' => match d with
    | .bl b => .ok (.bl (!b)) h'
    | _ => .bad := by
  unfold mNotV; rw [ev_bind]; cases m s h with
  | ok d h' => cases d <;> rfl
  | ex C fs h' => rfl
  | bad => rfl
@[simp] theorem ev_truth : mTruth m s h = (m s h).then fun d h' => truM d h' := by unfold mTruth; simp only [ev_bind]
@[simp] theorem ev_gNm {i : Nat} {d : D} : gNm i d s h = .ok (s.set i (some d)) h := rfl
@[simp] theorem ev_gSb {mo mi : SD → M D} {o : D → D → D → M Unit} {v : D} : gSb mo mi o v s h = (mo s h).then fun x h1 => (mi s h1).then fun y h2 => match o x y v h2 with
    | .ok _ h3 => .ok s h3
    | _ => .bad := by
  unfold gSb quiet; simp only [bind_fun]
  congr 1; funext x h1; congr 1; funext y h2
  cases o x y v h2 <;> rfl
@[simp] theorem ev_gTp {n : Nat} {gs : List D → SD → M SD} {ds : List D} : gTp n gs (.tup ds) s h = if ds.length = n then gs ds s h else .bad := by
  unfold gTp; dsimp only; split <;> rfl
@[simp] theorem ev_gs0 : gsNil [] s h = .ok s h := rfl
@[simp] theorem ev_gs1 {g : D → SD → M SD} {gs : List D → SD → M SD} {d : D} {ds : List D} : gsCons g gs (d :: ds) s h = (g d s h).then fun s' h' => gs ds s' h' := by unfold gsCons; simp only [bind_fun]
@[simp] theorem ev_meth {ty : Ty} {o : D → List D → M D} {mo : SD → M D} : mMeth ty o mo ml s h = (mo s h).then fun d h1 => (tyM ty d h1).then fun _ h2 => (ml s h2).then fun ds h3 => o d ds h3 := by unfold mMeth; simp only [bind_fun]
@[simp] theorem ev_for {mi : SD → M Src} {g : D → SD → M SD} {b : SD → M Fl} : mFor mi g b s h = (mi s h).then fun x h' => loopM g b x.2 x.1 s h' := by unfold mFor; simp only [ev_bind]
@[simp] theorem ev_srcSeq : srcSeq m s h = (m s h).then fun d h' => seqSrc d h' := by unfold srcSeq; simp only [ev_bind]
@[simp] theorem ev_srcEnum : srcEnum ml s h = (ml s h).then fun ds h' => enumSrc ds h' := by unfold srcEnum; simp only [ev_bind]
@[simp] theorem ev_srcRng : srcRng ml s h = (ml s h).then fun ds h' => rngSrc ds h' := by unfold srcRng; simp only [ev_bind]
@[simp] theorem ev_sl {mt : Bool} {l u : Option (SD → M D)} : mSl mt m l u s h = (m s h).then fun d h1 => (mPart l s h1).then fun lo h2 => (mPart u s h2).then fun hi h3 => slM mt d lo hi h3 := by unfold mSl; simp only [bind_fun]
@[simp] theorem ev_part0 : mPart none s h = .ok none h := rfl
@[simp] theorem ev_part1 : mPart (some m) s h = (m s h).then fun d h' => match d with
    | .int i => .ok (some i) h'
    | _ => .bad := by
  unfold mPart; dsimp only; rw [ev_bind]; cases m s h with
  | ok d h' => cases d <;> rfl
  | ex C fs h' => rfl
  | bad => rfl
@[simp] theorem ev_neg : mNeg m s h = (m s h).then fun d h' => opNeg d h' := by unfold mNeg; simp only [ev_bind]
@[simp] theorem ev_dct {tk : Bool} : mDct tk s h = .ok (.ref h.length) (h ++ [.dct tk []]) := rfl
theorem ev_comp {vs : List Nat} {ct : CT} {tt : SD → M Bool} {te : SD → M D} {mt : Bool} {mi : SD → M Src} : mComp vs ct tt te mt mi s h = (mi s h).then fun x h' => endL mt [] (compR ct tt te x.2 (wipeD s vs) x.1 h') := by unfold mComp; simp only [ev_bind]
end
@[simp] theorem lt_int' {i j : Int} {h : DH} : ordM .lt (.int i) (.int j) h = .ok (.bl (decide (i < j))) h := ordM_int _ _ _ _
@[simp] theorem gt_int' {i j : Int} {h : DH} : ordM .gt (.int i) (.int j) h = .ok (.bl (decide (j < i))) h := ordM_int _ _ _ _
@[simp] theorem le_int' {i j : Int} {h : DH} : ordM .le (.int i) (.int j) h = .ok (.bl (decide (i ≤ j))) h := ordM_int _ _ _ _
@[simp] theorem ge_int' {i j : Int} {h : DH} : ordM .ge (.int i) (.int j) h = .ok (.bl (decide (j ≤ i))) h := ordM_int _ _ _ _
@[simp] theorem add_int' {mt : Bool} {i j : Int} {h : DH} : opAdd mt (.int i) (.int j) h = .ok (.int (i + j)) h := rfl
@[simp] theorem sub_int' {i j : Int} {h : DH} : opSub (.int i) (.int j) h = .ok (.int (i - j)) h := rfl
theorem mul_int' {i j : Int} {h : DH} (c : CMul i j) : opMul (.int i) (.int j) h = .ok (.int (i * j)) h := by
  unfold opMul; dsimp only; rw [if_pos (.inl c)]; rfl
theorem mod_int' {i j : Int} {h : DH} (c : 0 < j) : opMod (.int i) (.int j) h = .ok (.int (i % j)) h := by
  unfold opMod; dsimp only; rw [if_pos c]; rfl
theorem fdiv_int' {i j : Int} {h : DH} (c : CDivW i j) : opFdiv (.int i) (.int j) h = .ok (.int (i / j)) h := by
  unfold opFdiv; dsimp only; rw [if_pos c]; rfl
theorem pow_int' {i j : Int} {h : DH} (c : CPow i j) : opPow (.int i) (.int j) h = .ok (.int (i ^ j.toNat)) h := by
  unfold opPow; dsimp only; rw [if_pos c]; rfl
theorem cdiv {i j : Int} (h : 0 < j) (h2 : j < 2 ^ 31) : CDivW i j := ⟨h, by
  have : j.natAbs < 2 ^ 31 := by omega
  by_cases z : j.natAbs = 0
  · rw [z]; decide
  · exact Nat.lt_trans ((Nat.log2_lt z).mpr this) (by decide)⟩
theorem cmul_l {i j : Int} (h : -(2 ^ 64) < i) (h2 : i < 2 ^ 64) : CMul i j := .inl ⟨h, h2⟩
theorem cmul_r {i j : Int} (h : -(2 ^ 64) < j) (h2 : j < 2 ^ 64) : CMul i j := .inr ⟨h, h2⟩
theorem toP_pur {h : DH} {p : PyData} (f : p.canLay0 = true) : toP h (ofP p) = some p := toPG_ofP p f
theorem eq_ofP {neg : Bool} {h : DH} {p q : PyData} (f : p.canLay0 = true) (g : q.canLay0 = true) (d : p.depth ≤ 64) (d' : q.depth ≤ 64) : eqM neg (ofP p) (ofP q) h = .ok (.bl (if neg then !PyData.eqv p q else PyData.eqv p q)) h := by
  unfold eqM
  rw [toP_pur f, toP_pur g]
  dsimp only
  rw [if_pos ⟨d, d'⟩]
@[simp] theorem eq_int' {neg : Bool} {i j : Int} {h : DH} : eqM neg (.int i) (.int j) h = .ok (.bl (if neg then !decide (i = j) else decide (i = j))) h := by
  have := eq_ofP (neg := neg) (h := h) (p := .int i) (q := .int j) rfl rfl (by simp [PyData.depth]) (by simp [PyData.depth])
  simpa [ofP, PyData.eqv, Bool.beq_eq_decide_eq] using this
theorem eq_str' {neg : Bool} {i j : Str} {h : DH} (a : PyData.strOk i = true) (b : PyData.strOk j = true) : eqM neg (.str i) (.str j) h = .ok (.bl (if neg then !decide (i = j) else decide (i = j))) h := by
  have := eq_ofP (neg := neg) (h := h) (p := .str i) (q := .str j) (by simpa [PyData.canLay0] using a) (by simpa [PyData.canLay0] using b) (by simp [PyData.depth]) (by simp [PyData.depth])
  simpa [ofP, PyData.eqv, Bool.beq_eq_decide_eq] using this
@[simp] theorem mul_r' {i j : Int} {h : DH} (a : -18446744073709551616 < j) (b : j < 18446744073709551616) : opMul (.int i) (.int j) h = .ok (.int (i * j)) h := mul_int' (cmul_r (by simpa using a) (by simpa using b))
@[simp] theorem mul_l' {i j : Int} {h : DH} (a : -18446744073709551616 < i) (b : i < 18446744073709551616) : opMul (.int i) (.int j) h = .ok (.int (i * j)) h := mul_int' (cmul_l (by simpa using a) (by simpa using b))
@[simp] theorem mod_p' {i j : Int} {h : DH} (c : 0 < j) : opMod (.int i) (.int j) h = .ok (.int (i % j)) h := mod_int' c
@[simp] theorem fdiv_p' {i j : Int} {h : DH} (c : 0 < j) (d : j < 2147483648) : opFdiv (.int i) (.int j) h = .ok (.int (i / j)) h := fdiv_int' (cdiv c (by simpa using d))
/-! things by places -/
theorem atI_nat' {α : Type} {l : List α} {j : Nat} {x : α} (h : l[j]? = some x) : atI l (j : Int) = some x := by
  obtain ⟨h1, h2⟩ := List.getElem?_eq_some_iff.mp h
  unfold atI ixN
  rw [if_pos (by omega), if_pos (by omega)]
  simpa using h
@[simp] theorem ix_tup {l : List D} {i : Int} {h : DH} : ixA (.tup l) (.int i) h = match atI l i with
    | some x => .ok x h
    | none => .bad := rfl
@[simp] theorem ix_lv {l : List D} {i : Int} {h : DH} : ixA (.lv l) (.int i) h = match atI l i with
    | some x => .ok x h
    | none => .bad := rfl
@[simp] theorem ix_rl {l : List D} {i : Int} {h : DH} : ixA (.rl l) (.int i) h = match atI l i with
    | some x => .ok x h
    | none => .bad := rfl
theorem ix_ref {l : List D} {n : Nat} {i : Int} {h : DH} (e : h[n]? = some (.lst l)) : ixA (.ref n) (.int i) h = match atI l i with
    | some x => .ok x h
    | none => .bad := by
  unfold ixA dictOf ixM seqOf rlistOf listOf
  simp only [e] <;> cases atI l i <;> rfl
@[simp] theorem atI_0 {α : Type} {x : α} {l : List α} : atI (x :: l) 0 = some x := atI_nat' (j := 0) rfl
@[simp] theorem atI_1 {α : Type} {x y : α} {l : List α} : atI (x :: y :: l) 1 = some y := atI_nat' (j := 1) rfl
@[simp] theorem atI_2 {α : Type} {x y z : α} {l : List α} : atI (x :: y :: z :: l) 2 = some z := atI_nat' (j := 2) rfl
@[simp] theorem ixN_0 {n : Nat} : ixN (n + 1) 0 = some 0 := by unfold ixN; rw [if_pos (by omega), if_pos (by omega)]; rfl
@[simp] theorem ixN_1 {n : Nat} : ixN (n + 1 + 1) 1 = some 1 := by unfold ixN; rw [if_pos (by omega), if_pos (by omega)]; rfl
@[simp] theorem len_tup {l : List D} {h : DH} : len1 (.tup l) h = .ok (.int l.length) h := rfl
@[simp] theorem len_lv {l : List D} {h : DH} : len1 (.lv l) h = .ok (.int l.length) h := rfl
@[simp] theorem len_rl {l : List D} {h : DH} : len1 (.rl l) h = .ok (.int l.length) h := rfl
theorem len_ref {l : List D} {n : Nat} {h : DH} (e : h[n]? = some (.lst l)) : len1 (.ref n) h = .ok (.int l.length) h := by
  unfold len1 seqOf rlistOf listOf
  simp only [e]
theorem set_ref {l : List D} {n : Nat} {i : Int} {j : Nat} {v : D} {h : DH} (e : h[n]? = some (.lst l)) (ej : ixN l.length i = some j) : setM (.ref n) (.int i) v h = .ok () (h.set n (.lst (l.set j v))) := by
  unfold setM
  simp only [e, ej]
theorem mkL_t {ds : List D} {h : DH} (z : ds.length ≤ sizeLine) : mkL true ds h = .ok (.ref h.length) (h ++ [.lst ds]) := by unfold mkL; rw [if_pos z, if_pos rfl]
theorem mkL_f {ds : List D} {h : DH} (z : ds.length ≤ sizeLine) : mkL false ds h = .ok (.lv ds) h := by unfold mkL; rw [if_pos z, if_neg (by decide)]
theorem app_ref {l : List D} {n : Nat} {y : D} {h : DH} (e : h[n]? = some (.lst l)) (z : l.length < sizeLine) : fAppend (.ref n) [y] h = .ok .non (h.set n (.lst (l ++ [y]))) := by
  unfold fAppend mutL
  simp only [e, if_pos z]
theorem ty_ref {l : List D} {n : Nat} {h : DH} (e : h[n]? = some (.lst l)) : tyM .list (.ref n) h = .ok () h := by
  unfold tyM rlistOf listOf
  simp only [e]
end Wy

set_option Elab.async false
set_option linter.all false
set_option maxRecDepth 100000
set_option maxHeartbeats 4000000
namespace Wy
open PySem PySem.Spec PyProof.Rows L2

/-! ### defs, once more: heaps in two parts -/
theorem Pur.left {h g : DH} (p : Pur (h ++ g)) : Pur h := fun o ho => p o (List.mem_append_left _ ho)
theorem pur_lst {l : List PyData} : ∀ n, Ob.under n (.lst (ofPs l)) = true := fun n => ofPs_under l
theorem Pur.cons {o : Ob} {g : DH} (a : ∀ n, Ob.under n o = true) (b : Pur g) : Pur (o :: g) := fun o' ho => by
  rcases List.mem_cons.mp ho with rfl | ho
  · exact a
  · exact b o' ho
theorem den_app {z : Bool} {n : Nat} {m : SD → M Fl} {ds : List D} {h h' g : DH} {p : PyData} (e : m (slots0 n ds) h = .ok (.rt (ofP p)) (h' ++ g)) (pu : Pur h') (l : h'.length = h.length) : den z n m ds h = .ok (ofP p) h' := by
  have t : (h' ++ g).take h.length = h' := by rw [← l]; simp
  have := den_val (z := z) e (by rw [t]; exact pu) (by simp; omega) (out_ofP p)
  rw [t] at this
  exact this
theorem den_eq {z : Bool} {n : Nat} {m : SD → M Fl} {ds : List D} {h h' : DH} {p : PyData} (e : m (slots0 n ds) h = .ok (.rt (ofP p)) h') (pu : Pur h') (l : h'.length = h.length) : den z n m ds h = .ok (ofP p) h' := den_app (g := []) (by rw [List.append_nil]; exact e) pu l
theorem den_lst {n : Nat} {m : SD → M Fl} {ds : List D} {h h' g : DH} {l : List PyData} (e : m (slots0 n ds) h = .ok (.rt (.ref h.length)) (h' ++ .lst (ofPs l) :: g)) (pu : Pur h') (hl : h'.length = h.length) : den true n m ds h = .ok (.lv (ofPs l)) h' := by
  have t : (h' ++ .lst (ofPs l) :: g).take h.length = h' := by rw [← hl]; simp
  have o : out true (h' ++ .lst (ofPs l) :: g) h.length (.ref h.length) = some (.lv (ofPs l)) := by
    have := out_lst (h := h') (g := g) (l := l)
    rw [hl] at this
    exact this
  have := den_val (z := true) e (by rw [t]; exact pu) (by simp; omega) o
  rw [t] at this
  exact this
theorem at_len {h g : DH} {o : Ob} {k : Nat} (l : h.length = k) : (h ++ o :: g)[k]? = some o := by
  rw [List.getElem?_append_right (by omega), ← l, Nat.sub_self]; rfl
theorem set_len {h g : DH} {o o' : Ob} {k : Nat} (l : h.length = k) : (h ++ o :: g).set k o' = h ++ o' :: g := by
  rw [List.set_append_right _ _ (by omega), ← l, Nat.sub_self]; rfl
theorem at_last {h : DH} {o : Ob} : (h ++ [o])[h.length]? = some o := at_len rfl
theorem set_last {h : DH} {o o' : Ob} : (h ++ [o]).set h.length o' = h ++ [o'] := set_len rfl
/-! lists of data in objects -/
theorem toPs_ofPs {h : DH} {l : List PyData} (c : PyData.canLayAll0 l = true) : ∀ k, toPs h k (ofPs l) = some l
  | 0 => toPGs_ofP l c
  | k + 1 => toPGs_ofP l c
theorem toP_ref {h : DH} {k : Nat} {l : List PyData} (e : h[k]? = some (.lst (ofPs l))) (c : PyData.canLayAll0 l = true) : toP h (.ref k) = some (.list l) := by
  unfold toP toPG
  simp only [e, toPs_ofPs c, Option.map_some]
theorem in_list {neg : Bool} {h : DH} {d y : D} {l : List PyData} {p : PyData} (ey : toP h y = some (.list l)) (ed : toP h d = some p) (nd : dictOf h y = none) (ns : ∀ x, y ≠ .str x) (z : (PyData.list l).depth ≤ 64) (z' : p.depth ≤ 64) :
    inM neg d y h = .ok (.bl (neg ^^ l.any fun x => PyData.eqv x p)) h := by
  unfold inM inQ
  cases y <;> first | exact absurd rfl (ns _) | (simp only [nd, ey, ed, z, z', and_self, if_true])
theorem in_ref {neg : Bool} {h : DH} {k : Nat} {l : List PyData} {p : PyData} (e : h[k]? = some (.lst (ofPs l))) (c : PyData.canLayAll0 l = true) (f : p.canLay0 = true) (z : (PyData.list l).depth ≤ 64) (z' : p.depth ≤ 64) :
    inM neg (ofP p) (.ref k) h = .ok (.bl (neg ^^ l.any fun x => PyData.eqv x p)) h :=
  in_list (toP_ref e c) (toP_pur f) (by unfold dictOf; simp only [e]) (fun _ h => by cases h) z z'
theorem ofPs_append (l m : List PyData) : ofPs (l ++ m) = ofPs l ++ ofPs m := by simp [ofPs_map]
theorem ofPs_len (l : List PyData) : (ofPs l).length = l.length := by simp [ofPs_map]
theorem ofPs_get {l : List PyData} {i : Nat} : (ofPs l)[i]? = (l[i]?).map ofP := by simp [ofPs_map]
theorem app_ofP {h : DH} {k : Nat} {l : List PyData} {p : PyData} (e : h[k]? = some (.lst (ofPs l))) (z : l.length < sizeLine) : fAppend (.ref k) [ofP p] h = .ok .non (h.set k (.lst (ofPs (l ++ [p])))) := by
  rw [app_ref e (by rw [ofPs_len]; exact z), ofPs_append]; rfl
theorem lays_iff : ∀ {l : List PyData}, PyData.canLayAll0 l = true ↔ ∀ p ∈ l, p.canLay0 = true
  | [] => by simp [PyData.canLayAll0]
  | x :: xs => by simp [PyData.canLayAll0, lays_iff (l := xs)]
theorem depthAll_le {k : Nat} : ∀ {l : List PyData}, (∀ p ∈ l, p.depth ≤ k) → PyData.depthAll l ≤ k
  | [], _ => by simp [PyData.depthAll]
  | x :: xs, h => by
    have h1 := h x (by simp)
    have h2 := depthAll_le (l := xs) fun p hp => h p (List.mem_cons_of_mem _ hp)
    simp only [PyData.depthAll]; omega
theorem weightAll_le {k : Nat} : ∀ {l : List PyData}, (∀ p ∈ l, p.weight ≤ k) → PyData.weightAll l ≤ (k + 1) * l.length
  | [], _ => by simp [PyData.weightAll]
  | x :: xs, h => by
    have h1 := h x (by simp)
    have h2 := weightAll_le (l := xs) fun p hp => h p (List.mem_cons_of_mem _ hp)
    simp only [PyData.weightAll, List.length_cons, Nat.mul_add]; omega
/-! sorting -/
def sortP (ps : List PyData) : List PyData := sortZ ps ps
theorem sortZ_map {α β : Type} (f : α → β) (xs : List α) (ps : List PyData) : sortZ (xs.map f) ps = (sortZ xs ps).map f := by
  unfold sortZ
  rw [List.zip_map_left, List.map_map]
  have : ((xs.zip ps).map (Prod.map f id)).mergeSort (PySem.W.dataLe false (·.2)) = ((xs.zip ps).mergeSort (PySem.W.dataLe false (·.2))).map (Prod.map f id) := by
    rw [← List.map_mergeSort (r := PySem.W.dataLe false (·.2)) (s := PySem.W.dataLe false (·.2)) (f := Prod.map f id)]
    intro a _ b _
    simp only [PySem.W.dataLe_eq, Prod.map_snd, id]
  rw [this, List.map_map]
  rfl
theorem sortP_mem {ps : List PyData} {p : PyData} : p ∈ sortP ps ↔ p ∈ ps := by
  unfold sortP sortZ
  rw [((List.mergeSort_perm _ _).map _).mem_iff]
  have : (ps.zip ps).map (·.1) = ps := List.map_fst_zip (Nat.le_refl _)
  rw [this]
theorem sortP_len (ps : List PyData) : (sortP ps).length = ps.length := sortZ_len rfl
theorem sorted_ref {h : DH} {k : Nat} {l : List PyData} (e : h[k]? = some (.lst (ofPs l))) (c : PyData.canLayAll0 l = true) (a : allAlike l = true) (s : sortable l = true) (d : PyData.depthAll l ≤ 64) (z : l.length ≤ sizeLine) : sorted1 false (.ref k) h = .ok (.lv (ofPs (sortP l))) h := by
  unfold sorted1 rlistOf listOf
  simp only [e, toPs_ofPs c, a, s, d, and_self, if_true]
  have es : sortZ (ofPs l) l = ofPs (sortP l) := by rw [ofPs_map, sortZ_map, ofPs_map]; rfl
  rw [es]
  exact mkL_f (by rw [ofPs_len, sortP_len]; exact z)
@[simp] theorem tup1_lv {l : List D} {h : DH} : tup1 (.lv l) h = .ok (.tup l) h := rfl
@[simp] theorem tup1_tup {l : List D} {h : DH} : tup1 (.tup l) h = .ok (.tup l) h := rfl
theorem tup1_ref {l : List D} {k : Nat} {h : DH} (e : h[k]? = some (.lst l)) : tup1 (.ref k) h = .ok (.tup l) h := by
  unfold tup1 seqOf rlistOf listOf
  simp only [e]
theorem rng_ok {j : Int} {h : DH} (f : fine j) : rngSrc [.int j] h = .ok (count 0 j.toNat, fun _ => true) h := by
  unfold rngSrc
  simp only [f, if_true]; rfl
theorem count_len {lo : Int} {n : Nat} : (count lo n).length = n := by simp [count]
end Wy

set_option Elab.async false
set_option linter.all false
set_option maxRecDepth 100000
set_option maxHeartbeats 4000000
namespace Wy
open PySem PySem.Spec PyProof.Rows L2

section
variable {X : Cx} {T : Tb} {W : WX} {k : Nat} {e a b c o : Expr} {es : List Expr} {pos p : Pos}
/-! ### dict(pairs) -/
theorem call_dictT (hcalm : X.calm = true) : CallR X (.type "dict") (fun xs H Q => ∃ (a : Addr) (ps : List Addr) (kvs : List (Key × V)), xs = [.ref a] ∧ SqT X.K H a (ps.map V.ref) ∧ PlT X.K H a ∧ Paired (fun p kv => SqT X.K H p [kV kv.1, kv.2]) ps kvs ∧
    ∀ p, H p = none → Q (.ref p) (upd H p (.dK (mergeK [] kvs)))) := by
  rintro pins s σ H xs us Q I r ⟨a, ps, kvs, rfl, hT, hpl, hp, q⟩
  obtain ⟨u, rfl, rx⟩ := vals1 r
  cases rx
  obtain ⟨its, rv, ⟨o, ho, hc, n, hdat⟩, hz⟩ := I.tuple hT
  have hd : o.dict = none := by
    rcases hpl with ⟨o', xs', h, d⟩ | ⟨o', h, d⟩
    · have h1 := (I.hok a _ h).1
      rw [ho] at h1; cases h1; exact d
    · have h1 := I.kIn a _ h
      rw [ho] at h1; cases h1; exact d
  have ei := refs_at rv
  subst ei
  rw [List.length_map] at hz
  obtain ⟨prs, rel, hl, hpr⟩ := pairs_of I hp
  obtain ⟨pvs, epv, hpv⟩ : ∃ pvs : List (Value × Value), pvs.length = prs.length ∧ ∀ (j : Nat) (kk vv : Value), pvs[j]? = some (kk, vv) → ∃ (b : Addr) (q : Key × Value), ps[j]? = some b ∧ prs[j]? = some q ∧ IsTup s.heap b #[kk, vv] ∧ keyIs q.1 kk = true ∧ q.2 = vv := by
    have : ∀ j (h : j < prs.length), ∃ (b : Addr) (u : Value), ps[j]? = some b ∧ IsTup s.heap b #[u, prs[j].2] ∧ keyIs prs[j].1 u = true := fun j h => hpr j _ (List.getElem?_eq_getElem h)
    refine ⟨(List.range prs.length).attach.map fun j => ((this j.1 (List.mem_range.mp j.2)).choose_spec.choose, (prs[j.1]'(List.mem_range.mp j.2)).2), by simp, fun j kk vv e => ?_⟩
    rw [List.getElem?_map, List.getElem?_attach] at e
    obtain ⟨x, e1, e2⟩ := Option.map_eq_some_iff.mp e
    obtain ⟨i, hi⟩ := x
    have hij : i = j := by
      have h3 := (Option.pmap_eq_some_iff.mp e1)
      obtain ⟨a', b', h4, h5⟩ := h3
      cases h5
      have := List.getElem?_eq_some_iff.mp h4
      obtain ⟨h6, h7⟩ := this
      simpa using h7.symm
    subst hij
    cases e2
    have hs := (this i (List.mem_range.mp hi)).choose_spec.choose_spec
    exact ⟨_, _, hs.1, List.getElem?_eq_getElem (List.mem_range.mp hi), hs.2.1, hs.2.2, rfl⟩
  have P := PySem.PairArg.tuple (prog := X.prog) (w := X.w) a (ps.map Value.ref).toArray (fun j => ps.getD j 0) pvs
  refine PySem.call_dict_pairs (knd := mixKind X.prog X.w) (kvs := prs) P (I.ok.hd hcalm) ⟨⟨o, n, ho, hc, hd, hdat⟩, by simp; omega, fun j kk vv e => ?_⟩ ⟨epv.symm, fun i key v e => ?_⟩ (by rw [epv, hl]; exact hz) fun h' tk hd' hk => ?_
  · obtain ⟨b, q, e1, e2, e3, e4, e5⟩ := hpv j kk vv e
    refine ⟨by simp [e1], .inl ?_⟩
    show s.heap.IsTuple (ps.getD j 0) _
    rw [List.getD_eq_getElem?_getD, e1]
    exact e3
  · obtain ⟨b, q, e1, e2, e3, e4, e5⟩ := hpv i key v e
    exact ⟨q.1, by rw [e2, ← e5], e4⟩
  · have hm : (s.heap.objs.size == sysModules) = false := beq_eq_false_iff_ne.mpr (Nat.ne_of_gt I.big)
    have hlen : (mergeK [] kvs).length ≤ sizeLine := by
      refine Nat.le_trans (length_mergeK kvs []) ?_
      rw [List.length_nil, Nat.zero_add, rel.length, hl]
      exact hz
    exact ⟨.ref s.heap.objs.size, upd H s.heap.objs.size (.dK (mergeK [] kvs)), I.laid (t' := tk) (fun b o e => hk b o (by simp) e) (Nat.le_refl _) (show ObjOk X.prog X.w _ _ _ (.dK (mergeK [] kvs)) from ⟨hlen, hm, merged [] prs, KV.merge rel .nil, hd'⟩), rfl, q _ (I.hok.fresh (Nat.le_refl _))⟩
/-- pairs, with keys that are ints or texts -/
def prOf : List D → Option (List (Key × D × D))
  | [] => some []
  | .tup [k, v] :: r => match toKey k, prOf r with
    | some kk, some q => some ((kk, k, v) :: q)
    | _, _ => none
  | _ :: _ => none
def mrgD (acc : List (D × D)) (l : List (Key × D × D)) : List (D × D) := l.foldl (fun acc p => dput toKey p.1 p.2.1 p.2.2 acc) acc
def mkD (mt : Bool) (kvs : List (D × D)) : M D := fun h => if mt = true then .ok (.ref h.length) (h ++ [.dct false kvs]) else .ok (.dv false (kvs.map (·.1)) (kvs.map (·.2))) h
def dict1 (mt : Bool) : D → M D := fun d h => match seqOf h d with
  | some l => match prOf l with
    | some q => mkD mt (mrgD [] q) h
    | none => .bad
  | none => match dictOf h d with
    | some (false, kvs) => mkD mt kvs h
    | _ => .bad
variable {ρ : Rg} {hd : DH} {H : Hp}
theorem prOf_pairs : ∀ {l : List D} {q : List (Key × D × D)}, prOf l = some q → pairsD l = true
  | [], _, _ => rfl
  | d :: r, q, e => by
    unfold prOf at e
    split at e
    · rename_i heq; cases heq
    · rename_i kd vd r' heq
      cases heq
      split at e
      · rename_i h1 h2
        have := prOf_pairs h2
        unfold pairsD at this ⊢
        simp only [List.all_cons, this, Bool.and_true]
        rfl
      · cases e
    · cases e
theorem prOf_rv {G : Gx} : ∀ {l : List D} {q : List (Key × D × D)} {xs : List V}, prOf l = some q → RVs G ρ H l xs → ∃ (ps : List Addr) (kvs : List (Key × V)), xs = ps.map V.ref ∧ Paired (fun p kv => SqT G.K H p [kV kv.1, kv.2]) ps kvs ∧ kvs.map (·.1) = q.map (·.1) ∧ q.map (fun p => toKey p.2.1) = q.map (fun p => some p.1) ∧ RVs G ρ H (q.map (·.2.2)) (kvs.map (·.2))
  | [], q, xs, e, r => by
    cases e; cases r
    exact ⟨[], [], rfl, .nil, rfl, rfl, .nil⟩
  | d :: l, q, xs, e, r => by
    unfold prOf at e
    split at e
    · rename_i heq; cases heq
    · rename_i kd vd r' heq
      cases heq
      split at e
      · rename_i kk qq h1 h2
        cases e
        obtain ⟨v, us, rfl, r1, r2⟩ := r.inv
        obtain ⟨ps, kvs, rfl, h3, h4, h5, h6⟩ := prOf_rv h2 r2
        cases r1 with
        | tup hs rs pt =>
          obtain ⟨x, y, rfl, rx, ry⟩ := rs.two
          rename_i a
          have ek : x = kV kk := by
            cases kd <;> first | cases h1 | skip
            · cases rx; rfl
            · cases rx; rfl
          subst ek
          exact ⟨a :: ps, (kk, y) :: kvs, rfl, .cons hs h3, by simp [h4], by simp [h1, h5], .cons ry h6⟩
      · cases e
    · cases e
theorem mrg_rv {G : Gx} : ∀ {q : List (Key × D × D)} {kvs : List (Key × V)} {acc : List (D × D)} {bs : List (Key × V)}, kvs.map (·.1) = q.map (·.1) → q.map (fun p => toKey p.2.1) = q.map (fun p => some p.1) → RVs G ρ H (q.map (·.2.2)) (kvs.map (·.2)) →
    acc.map (fun p => toKey p.1) = bs.map (fun p => some p.1) → RVs G ρ H (acc.map (·.2)) (bs.map (·.2)) → (mrgD acc q).map (fun p => toKey p.1) = (mergeK bs kvs).map (fun p => some p.1) ∧ RVs G ρ H ((mrgD acc q).map (·.2)) ((mergeK bs kvs).map (·.2))
  | [], kvs, acc, bs, e1, e2, r, a1, a2 => by
    cases kvs with
    | nil => exact ⟨a1, a2⟩
    | cons _ _ => cases e1
  | p :: q, kvs, acc, bs, e1, e2, r, a1, a2 => by
    cases kvs with
    | nil => cases e1
    | cons kv kvs =>
      simp only [List.map_cons, List.cons.injEq] at e1 e2
      obtain ⟨v, us, e3, r1, r2⟩ := r.inv
      simp only [List.map_cons, List.cons.injEq] at e3
      obtain ⟨rfl, rfl⟩ := e3
      obtain ⟨v1, v2⟩ := vals_put (f := toKey) (k := p.1) (y := p.2.1) (e := p.2.2) (v := kv.2) (g := fun x : Key × V => x.1) (gv := fun x : Key × V => x.2) (st := fun x => if x.1 = p.1 then (x.1, kv.2) else x) (nw := (p.1, kv.2))
        (by intro x; split <;> rfl) (by intro x hx; simp [hx]) (by intro x hx; simp [hx]) rfl rfl e2.1 a1 a2 r1
      have ep : putK bs kv.1 kv.2 = (if bs.any (fun x => decide (x.1 = p.1)) = true then bs.map (fun x => if x.1 = p.1 then (x.1, kv.2) else x) else bs ++ [(p.1, kv.2)]) := by
        rw [e1.1]; rfl
      rw [← ep] at v1 v2
      exact mrg_rv (acc := dput toKey p.1 p.2.1 p.2.2 acc) (bs := putK bs kv.1 kv.2) e1.2 e2.2 r2 v1 v2
theorem mkD_res {G : Gx} {σ : L2.St} {mt : Bool} {kvs : List (D × D)} {ks : List (Key × V)} {Q : VK} (r : Rep G ρ hd H) (kk : kvs.map (fun p => toKey p.1) = ks.map (fun p => some p.1)) (rs : RVs G ρ H (kvs.map (·.2)) (ks.map (·.2))) (h : Res G W σ (RV G) ρ H (mkD mt kvs hd) Q) :
    ∀ p, H p = none → Q (.ref p) (upd H p (.dK ks)) := fun p hp => by
  unfold mkD at h
  cases mt with
  | true => exact h (ρ.add p) _ (.ref p) (r.mk1 hp ⟨ks, _, upd_same, kk, rfl, RVs.mono (.mk1 hp) r.muts _ _ rs⟩) (.mk1 hp) (.ref (by rw [← r.len]; simp [Rg.add]))
  | false => exact h ρ _ (.ref p) (r.laid hp) (.laid hp) (.dvk (r.out hp) upd_same (by rw [List.map_map]; exact kk) rfl (RVs.mono (.laid hp) r.muts _ _ rs))
abbrev rDict (X : Cx) : List V → Hp → VK → Prop := fun xs H Q => (∃ (a : Addr) (ps : List Addr) (kvs : List (Key × V)), xs = [.ref a] ∧ SqL X.K H a (ps.map V.ref) ∧ Paired (fun p kv => SqT X.K H p [kV kv.1, kv.2]) ps kvs ∧ ∀ p, H p = none → Q (.ref p) (upd H p (.dK (mergeK [] kvs)))) ∨
  ((∃ (a : Addr) (ps : List Addr) (kvs : List (Key × V)), xs = [.ref a] ∧ SqT X.K H a (ps.map V.ref) ∧ PlT X.K H a ∧ Paired (fun p kv => SqT X.K H p [kV kv.1, kv.2]) ps kvs ∧ ∀ p, H p = none → Q (.ref p) (upd H p (.dK (mergeK [] kvs)))) ∨
   (∃ (a : Addr) (kvs : List (Key × V)), xs = [.ref a] ∧ Rd H a (.dK kvs) ∧ ∀ p, H p = none → Q (.ref p) (upd H p (.dK kvs))))
theorem call_dictX (c : X.calm = true) : CallR X (.type "dict") (rDict X) := CallR.or (call_dictP c) (CallR.or (call_dictT c) call_dictD)
theorem c_dict (mt : Bool) : Cm X T (rDict X) (one (dict1 mt)) := by
  intro W ρ hd H ds vs σ Q r q z
  obtain ⟨d, v, rfl, rfl, q, z⟩ := one_res q z
  unfold dict1 at z
  cases e1 : seqOf hd d with
  | none =>
    simp only [e1] at z
    cases e2 : dictOf hd d with
    | none => simp only [e2] at z; exact z.elim
    | some kv =>
      obtain ⟨tk, kvs⟩ := kv
      cases tk with
      | true => simp only [e2] at z; exact z.elim
      | false =>
        simp only [e2] at z
        obtain ⟨a, rfl, h1, _⟩ := dictOf_rv r q e2
        obtain ⟨ks, ha, kk, rs⟩ := h1 rfl
        exact .inr (.inr ⟨a, ks, rfl, .inl ha, mkD_res r kk rs z⟩)
  | some l =>
    simp only [e1] at z
    cases e2 : prOf l with
    | none => simp only [e2] at z; exact z.elim
    | some pq =>
      simp only [e2] at z
      have fin : ∀ {xs : List V}, RVs (gx X T) ρ H l xs → ∃ (ps : List Addr) (kvs : List (Key × V)), xs = ps.map V.ref ∧ Paired (fun p kv => SqT X.K H p [kV kv.1, kv.2]) ps kvs ∧ ∀ p, H p = none → Q (.ref p) (upd H p (.dK (mergeK [] kvs))) := fun rs => by
        obtain ⟨ps, kvs, h1, h2, h3, h4, h5⟩ := prOf_rv e2 rs
        obtain ⟨m1, m2⟩ := mrg_rv (acc := []) (bs := []) h3 h4 h5 rfl .nil
        exact ⟨ps, kvs, h1, h2, mkD_res r m1 m2 z⟩
      rcases seq_kind d with ⟨l', rfl⟩ | hk
      · cases e1
        cases q with
        | tup hs rs pt =>
          obtain ⟨ps, kvs, rfl, h2, h3⟩ := fin rs
          exact .inr (.inl ⟨_, ps, kvs, rfl, hs, pt (prOf_pairs e2), h2, h3⟩)
      · rw [hk] at e1
        obtain ⟨a, xs, rfl, hs, rs⟩ := rlistOf_rv r q e1
        obtain ⟨ps, kvs, rfl, h2, h3⟩ := fin rs
        exact .inl ⟨_, ps, kvs, rfl, hs, h2, h3⟩
end
end Wy

set_option Elab.async false
set_option linter.all false
set_option maxRecDepth 100000
set_option maxHeartbeats 4000000
namespace Wy
open PySem PySem.Spec PyProof.Rows L2

section
variable {X : Cx} {T : Tb} {W : WX} {k : Nat} {e a b c o : Expr} {es : List Expr} {pos p : Pos}
/-! ### all, any -/
def bls : List D → Option (List Bool)
  | [] => some []
  | .bl b :: r => (bls r).map (b :: ·)
  | _ :: _ => none
theorem bls_rv {G : Gx} {ρ : Rg} {H : Hp} : ∀ {l : List D} {q : List Bool} {xs : List V}, bls l = some q → RVs G ρ H l xs → xs = q.map V.bl
  | [], q, xs, e, r => by cases e; cases r; rfl
  | d :: l, q, xs, e, r => by
    unfold bls at e
    cases d <;> first | cases e | skip
    obtain ⟨q', e1, rfl⟩ := Option.map_eq_some_iff.mp e
    obtain ⟨v, us, rfl, r1, r2⟩ := r.inv
    cases r1
    rw [bls_rv e1 r2]; rfl
def all1 : D → M D := fun d h => match (rlistOf h d).bind bls with
  | some q => .ok (.bl (q.all id)) h
  | none => .bad
def any1 : D → M D := fun d h => match (rlistOf h d).bind bls with
  | some q => .ok (.bl (q.any id)) h
  | none => .bad
theorem c_all : Cm X T (rAll X.K) (one all1) := by
  intro W ρ hd H ds vs σ Q r q z
  obtain ⟨d, v, rfl, rfl, q, z⟩ := one_res q z
  unfold all1 at z
  cases e : (rlistOf hd d).bind bls with
  | none => rw [e] at z; exact z.elim
  | some bs =>
    rw [e] at z
    obtain ⟨l, e1, e2⟩ := Option.bind_eq_some_iff.mp e
    obtain ⟨a, xs, rfl, hs, rs⟩ := rlistOf_rv r q e1
    exact ⟨a, bs, rfl, by rw [← bls_rv e2 rs]; exact hs, ans r (.bl _) z⟩
theorem c_any : Cm X T (rAny X.K) (one any1) := by
  intro W ρ hd H ds vs σ Q r q z
  obtain ⟨d, v, rfl, rfl, q, z⟩ := one_res q z
  unfold any1 at z
  cases e : (rlistOf hd d).bind bls with
  | none => rw [e] at z; exact z.elim
  | some bs =>
    rw [e] at z
    obtain ⟨l, e1, e2⟩ := Option.bind_eq_some_iff.mp e
    obtain ⟨a, xs, rfl, hs, rs⟩ := rlistOf_rv r q e1
    exact ⟨a, bs, rfl, by rw [← bls_rv e2 rs]; exact hs, ans r (.bl _) z⟩
/-! ### str -/
def str1 : D → M D := fun d h => match d with
  | .int i => if i.natAbs.log2 < 1920 then .ok (.str (toString i)) h else .bad
  | .str x => .ok (.str x) h
  | _ => .bad
theorem c_str : Cm X T (fun xs H Q => (∃ i, xs = [.int i] ∧ i.natAbs.log2 < 1920 ∧ Q (.str (toString i)) H) ∨ ∃ a, xs = [.str a] ∧ Q (.str a) H) (one str1) := by
  intro W ρ hd H ds vs σ Q r q z
  obtain ⟨d, v, rfl, rfl, q, z⟩ := one_res q z
  unfold str1 at z
  match d, q, z with
  | .int i, q, z =>
    cases q
    dsimp only at z
    by_cases c : i.natAbs.log2 < 1920
    · rw [if_pos c] at z
      exact .inl ⟨i, rfl, c, ans r (.str _ (ok_of _)) z⟩
    · rw [if_neg c] at z; exact z.elim
  | .str x, q, z =>
    cases q with
    | str _ hx => exact .inr ⟨_, rfl, ans r (.str _ hx) z⟩
/-! ### join, split -/
def strL : List D → Option (List Str)
  | [] => some []
  | .str x :: r => (strL r).map (x :: ·)
  | _ :: _ => none
theorem strL_rv {G : Gx} {ρ : Rg} {H : Hp} : ∀ {l : List D} {q : List Str} {xs : List V}, strL l = some q → RVs G ρ H l xs → xs = q.map V.str
  | [], q, xs, e, r => by cases e; cases r; rfl
  | d :: l, q, xs, e, r => by
    unfold strL at e
    cases d <;> first | cases e | skip
    obtain ⟨q', e1, rfl⟩ := Option.map_eq_some_iff.mp e
    obtain ⟨v, us, rfl, r1, r2⟩ := r.inv
    cases r1
    rw [strL_rv e1 r2]; rfl
def fJoin (d : D) (ds : List D) : M D := fun h => match d, ds with
  | .str a, [y] => match (seqOf h y).bind strL with
    | some ys => if (ys.map (·.length)).sum + ys.length * a.length ≤ 16777216 ∧ PyData.strOk (Txt.join a ys) = true then .ok (.str (Txt.join a ys)) h else .bad
    | none => .bad
  | _, _ => .bad
theorem m_join : Mm X T (fun x xs H Q => ∃ a p, ∃ ys : List Str, x = .str a ∧ xs = [.ref p] ∧ (SqL X.K H p (ys.map V.str) ∨ SqT X.K H p (ys.map V.str)) ∧ (ys.map (·.length)).sum + ys.length * a.length ≤ 16777216 ∧ Q (.str (Txt.join a ys)) H) fJoin := by
  intro W ρ hd H d x ds vs σ Q r q qs z
  unfold fJoin at z
  cases d <;> first | exact z.elim | skip
  rename_i a
  cases q
  match ds, qs, z with
  | [], _, z => exact z.elim
  | _ :: _ :: _, _, z => exact z.elim
  | [y], qs, z =>
    obtain ⟨u, rfl, qy⟩ := qs.one
    dsimp only at z
    cases e : (seqOf hd y).bind strL with
    | none => rw [e] at z; exact z.elim
    | some ys =>
      rw [e] at z
      dsimp only at z
      obtain ⟨l, e1, e2⟩ := Option.bind_eq_some_iff.mp e
      obtain ⟨p, xs, rfl, hs, rs⟩ := seqOf_rv r qy e1
      have es := strL_rv e2 rs
      subst es
      by_cases c : (ys.map (·.length)).sum + ys.length * a.length ≤ 16777216 ∧ PyData.strOk (Txt.join a ys) = true
      · rw [if_pos c] at z
        exact ⟨a, p, ys, rfl, rfl, hs, c.1, ans r (.str _ c.2) z⟩
      · rw [if_neg c] at z; exact z.elim
def fSplit (mt : Bool) (d : D) (ds : List D) : M D := fun h => match d, ds with
  | .str a, [.str b] => if (b.length == 0) = false ∧ a.length + 2 ≤ sizeLine ∧ (Txt.split a b).all PyData.strOk = true then mkL mt ((Txt.split a b).map .str) h else .bad
  | _, _ => .bad
theorem rvs_strs {G : Gx} {ρ : Rg} {H : Hp} : ∀ {l : List Str}, l.all PyData.strOk = true → RVs G ρ H (l.map .str) (l.map V.str)
  | [], _ => .nil
  | x :: l, h => by
    simp only [List.all_cons, Bool.and_eq_true] at h
    exact .cons (.str x h.1) (rvs_strs h.2)
theorem m_split (mt : Bool) : Mm X T (fun x xs H Q => ∃ a b, x = .str a ∧ xs = [.str b] ∧ (b.length == 0) = false ∧ a.length + 2 ≤ sizeLine ∧ rNewStrs (Txt.split a b) H Q) (fSplit mt) := by
  intro W ρ hd H d x ds vs σ Q r q qs z
  unfold fSplit at z
  split at z
  · rename_i a b
    cases q
    obtain ⟨u, rfl, qy⟩ := qs.one
    cases qy
    by_cases c : (b.length == 0) = false ∧ a.length + 2 ≤ sizeLine ∧ (Txt.split a b).all PyData.strOk = true
    · rw [if_pos c] at z
      exact ⟨a, b, rfl, rfl, c.1, c.2.1, (mkL_res r (rvs_strs c.2.2) z).2⟩
    · rw [if_neg c] at z; exact z.elim
  · exact z.elim
/-! ### a < b < c -/
def mChain (f g : D → D → M D) (ma mb mc : SD → M D) : SD → M D := fun s => ma s >>= fun d => mb s >>= fun e => f d e >>= fun t => match t with
  | .bl true => mc s >>= fun x => g e x
  | .bl false => pure (.bl false)
  | _ => M.bad
theorem chain_go {r r' : R2} {f g : D → D → M D} {ma mb mc : SD → M D} (hf : R2m X T r f) (hg : R2m X T r' g) : ∀ σ H Q, tE (gx X T) W (mChain f g ma mb mc) σ H Q → tChain r r' (tE (gx X T) W ma) (tE (gx X T) W mb) (tE (gx X T) W mc) σ H Q := fun σ H Q h => by
  refine tG_then (tG_bind (R := RV (gx X T)) (k := fun s d => mb s >>= fun e => f d e >>= fun t => match t with
    | .bl true => mc s >>= fun x => g e x
    | .bl false => pure (.bl false)
    | _ => M.bad) h) fun x H1 ⟨ρ1, hd1, sd1, d1, c1, h1⟩ => ?_
  refine tG_then (c1.go (R' := RV (gx X T)) rv_mono (m := mb) (k := fun s e => f d1 e >>= fun t => match t with
    | .bl true => mc s >>= fun x => g e x
    | .bl false => pure (.bl false)
    | _ => M.bad) h1) fun y H2 ⟨ρ2, hd2, sd2, e2, c2, ⟨c2r, c2s, q2⟩, h2⟩ => ?_
  refine hf W ρ2 hd2 H2 d1 e2 x y σ _ c2.1 c2.2.2 q2 ?_
  rw [bind_ap] at h2
  cases ef : f d1 e2 hd2 with
  | ex C fs hd3 => rw [ef] at h2; exact h2
  | bad => rw [ef] at h2; exact h2
  | ok t hd3 =>
    rw [ef] at h2
    dsimp only at h2
    intro ρ3 H3 v r3 s3 q3
    cases t with
    | bl bb =>
      cases q3
      refine ⟨bb, rfl, ?_⟩
      cases bb with
      | true =>
        rw [if_pos rfl]
        have cy : At (gx X T) σ (RV (gx X T)) ρ3 hd3 sd2 H3 e2 y := ⟨r3, c2s.mono s3 c2.1.muts, RV.mono s3 c2.1.muts _ _ q2⟩
        refine tG_then (cy.go (R' := RV (gx X T)) rv_mono (m := mc) (k := fun _ x => g e2 x) (R2 := RV (gx X T)) (h2.from s3)) fun z H4 ⟨ρ4, hd4, sd4, e4, c4, ⟨_, _, q4⟩, h4⟩ => ?_
        exact hg W ρ4 hd4 H4 e2 e4 y z σ Q c4.1 c4.2.2 q4 h4
      | false =>
        rw [if_neg (by decide)]
        exact h2 ρ3 H3 _ r3 s3 (.bl false)
    | _ => exact h2.elim
theorem em_chain {op op' : CmpOp} {r r' : R2} {f g : D → D → M D} {ma mb mc : SD → M D} (ho : OpR X (compareOp op) r) (ho' : OpR X (compareOp op') r') (hf : R2m X T r f) (hg : R2m X T r' g) (ha : PEm X T W a ma) (hb : PEm X T W b mb) (hc : PEm X T W c mc) (hm : lastMarks [op, op'] [b, c] = false := by with_unfolding_all rfl) :
    PEm X T W (.Compare a [op, op'] [b, c] pos) (mChain f g ma mb mc) := weakE (pe_chain ho ho' ha hb hc hm) (chain_go hf hg)
theorem tm_chain {op op' : CmpOp} {r r' : R2} {f g : D → D → M D} {ma mb mc : SD → M D} (ho : OpR X (compareOp op) r) (ho' : OpR X (compareOp op') r') (hf : R2m X T r f) (hg : R2m X T r' g) (ha : PEm X T W a ma) (hb : PEm X T W b mb) (hc : PEm X T W c mc) (hm : lastMarks [op, op'] [b, c] = false := by with_unfolding_all rfl) :
    PTm X T W (.Compare a [op, op'] [b, c] pos) (mTest (mChain f g ma mb mc)) := weakT (pt_chain ho ho' ha hb hc hm) fun σ H Q h => chain_go hf hg σ H _ (test_go σ H Q h)
/-! ### isinstance(x, T), T a built-in type -/
def tyOf (h : DH) : D → Option String
  | .non => some "NoneType"
  | .bl _ => some "bool"
  | .int _ => some "int"
  | .str _ => some "str"
  | .tup _ => some "tuple"
  | .lv _ => some "list"
  | .rl _ => some "list"
  | .dv false _ _ => some "dict"
  | .ref n => match h[n]? with
    | some (.lst _) => some "list"
    | some (.dct false _) => some "dict"
    | _ => none
  | _ => none
theorem tyOf_rv {ρ : Rg} {hd : DH} {H : Hp} {d : D} {x : V} {t : String} (r : Rep (gx X T) ρ hd H) (q : RV (gx X T) ρ H d x) (e : tyOf hd d = some t) : TyX X.K H x (.type t) := by
  have sqL : ∀ {a xs}, SqL X.K H a xs → TyX X.K H (.ref a) (.type "list") := fun {a xs} h => by
    rcases h with (h | ⟨o, h⟩) | ⟨o, its, n, h, hc, _⟩
    · exact .base (.lst h)
    · exact .base (.frz h)
    · exact .kList h hc
  cases d with
  | non => cases e; cases q; exact .base .non
  | bl b => cases e; cases q; exact .base (.bl _)
  | int i => cases e; cases q; exact .base (.int _)
  | str x => cases e; cases q; exact .base (.str _)
  | tup l =>
    cases e
    cases q with
    | tup h rs pt =>
      rcases h with (h | ⟨o, h⟩) | ⟨o, its, n, h, hc, _⟩
      · exact .base (.tup h)
      · exact .fTuple h
      · exact .kTuple h hc
  | lv l =>
    cases e
    cases q with
    | lv n h rs => exact .base (.lst h)
  | rl l =>
    cases e
    cases q with
    | rl h rs => exact sqL h.sqL
  | dv tk ks vs =>
    cases tk with
    | true => cases e
    | false =>
      cases e
      cases q with
      | dvk n h k u rs => exact .base (.dK h)
  | ref n =>
    cases q with
    | ref hn =>
      unfold tyOf at e
      cases c : hd[n]? with
      | none => simp only [c] at e; cases e
      | some o => cases o with
        | lst l =>
          simp only [c] at e; cases e
          obtain ⟨xs, h, _⟩ := r.ob n _ _ hn c
          exact .base (.lst h)
        | ins _ _ => simp only [c] at e; cases e
        | dct tk kvs => cases tk with
          | true => simp only [c] at e; cases e
          | false =>
            simp only [c] at e; cases e
            obtain ⟨ks, us, h, _⟩ := r.ob n _ _ hn c
            exact .base (.dK h)
  | fn f cs => cases e
def isiM (t : String) (d : D) : M D := fun h => match (tyOf h d).bind fun a => kitB a t with
  | some b => .ok (.bl b) h
  | none => .bad
def mIsi (t : String) (m : SD → M D) : SD → M D := fun s => m s >>= isiM t
theorem em_isi {t : String} {x : Str} {m : SD → M D} {q : Pos} (hg : Gl X "isinstance") (hm : X.mg "isinstance" = none) (hgt : Gl X x) (hmt : X.mg x = none) (hv : bootBuiltins x = some (.type t)) (ha : PEm X T W a m) (hn : x ≠ "__name__") (hdb : (x == ("__debug__" : Str)) = false)
    (he : starEach [a, .Name x q] X.env = (false, eval a X.env) :: starEach [.Name x q] X.env) (he2 : starEach [.Name x q] X.env = (false, eval (.Name x q) X.env) :: starEach [] X.env) (hpl : (backTo pos (starEach [.Name x q] X.env)).any (·.1) = false) : PEm X T W (.Call (.Name "isinstance" p) [a, .Name x q] [] pos) (mIsi t m) := by
  have ty : PE X (.Name x q) (tC (.ty t)) := ⟨fun _ _ _ H _ I h => ld_blt I hgt hmt hv ⟨.ty t, H, I, rfl, h⟩ hn hdb⟩
  refine weakE (pe_callB call_isi hg hm rfl (pa_cons ha (pa_cons ty pa_nil he2) he) (by decide) (by decide) he hpl) fun σ H Q h => ?_
  refine tG_then (tG_bind (R := RV (gx X T)) (k := fun _ d => isiM t d) h) fun v H1 ⟨ρ1, hd1, sd1, d, ⟨r, st, qv⟩, h1⟩ => ?_
  unfold isiM at h1
  cases e : (tyOf hd1 d).bind fun a => kitB a t with
  | none => rw [e] at h1; exact h1.elim
  | some b =>
    rw [e] at h1
    obtain ⟨u, e1, e2⟩ := Option.bind_eq_some_iff.mp e
    exact ⟨v, .ty t, .type u, .type t, b, rfl, .ty t, tyOf_rv r qv e1, kit_ty e2, ans r (.bl b) h1⟩
/-! ### constants of the text -/
theorem gI {x : Str} {i : Int} (hm : ∃ t, X.mg x = some (.int i t)) (hg : Gl X x := by rfl) (hd : (x == ("__debug__" : Str)) = false := by decide) : PEm X T W (.Name x pos) (mC (.int i)) := by
  obtain ⟨t, hm⟩ := hm
  exact em_const (pe_glob (v := .int i) hg hm ⟨t, rfl⟩ hd) fun _ _ => .int i
theorem gSt {x y : Str} (hm : ∃ t, X.mg x = some (.str y t)) (hg : Gl X x := by rfl) (hd : (x == ("__debug__" : Str)) = false := by decide) (h : PyData.strOk y = true := by decide +kernel) : PEm X T W (.Name x pos) (mC (.str y)) := by
  obtain ⟨t, hm⟩ := hm
  exact em_const (pe_glob (v := .str y) hg hm ⟨t, rfl⟩ hd) fun _ _ => .str y h
end
end Wy

set_option Elab.async false
set_option linter.all false
set_option maxRecDepth 100000
set_option maxHeartbeats 4000000
namespace Wy
open PySem PySem.Spec PyProof.Rows L2 SkE

/-! ### words for the further rules -/
/-- further built-ins that the text doesn't shadow -/
structure Bu2 (mg : Str → Option Value) : Prop where
  all : mg "all" = none
  any : mg "any" = none
  dict : mg "dict" = none
  isinstance : mg "isinstance" = none
  bool : mg "bool" = none
  set : mg "set" = none
  sum : mg "sum" = none
  abs : mg "abs" = none
section
variable {X : Cx} {T : Tb} {E : XK} {W : WX} {k : Nat} {e a b c o : Expr} {es : List Expr} {pos p : Pos}
theorem cAll (c : Cxt X k) (u : Bu2 X.mg) {ml : SD → M (List D)} (ha : PAm X T W (e :: es) ml) (hg : Gl X "all" := by rfl) (he : starEach (e :: es) X.env = (false, eval e X.env) :: starEach es X.env := by rfl) (hpl : (backTo pos (starEach es X.env)).any (·.1) = false := by rfl) : PEm X T W (.Call (.Name "all" p) (e :: es) [] pos) (mCall (one all1) ml) :=
  em_callB (cr_all c.calm) c_all hg u.all rfl ha (by decide) (by decide) he hpl
theorem cAny (c : Cxt X k) (u : Bu2 X.mg) {ml : SD → M (List D)} (ha : PAm X T W (e :: es) ml) (hg : Gl X "any" := by rfl) (he : starEach (e :: es) X.env = (false, eval e X.env) :: starEach es X.env := by rfl) (hpl : (backTo pos (starEach es X.env)).any (·.1) = false := by rfl) : PEm X T W (.Call (.Name "any" p) (e :: es) [] pos) (mCall (one any1) ml) :=
  em_callB (cr_any c.calm) c_any hg u.any rfl ha (by decide) (by decide) he hpl
theorem cStr (c : Cxt X k) {ml : SD → M (List D)} (ha : PAm X T W (e :: es) ml) (hg : Gl X "str" := by rfl) (he : starEach (e :: es) X.env = (false, eval e X.env) :: starEach es X.env := by rfl) (hpl : (backTo pos (starEach es X.env)).any (·.1) = false := by rfl) : PEm X T W (.Call (.Name "str" p) (e :: es) [] pos) (mCall (one str1) ml) :=
  em_callT (CallR.or call_str_int call_str_str) c_str hg c.bu.str rfl ha (by decide) (by decide) he hpl
theorem cDct {mt : Bool} (c : Cxt X k) (u : Bu2 X.mg) {ml : SD → M (List D)} (ha : PAm X T W (e :: es) ml) (hg : Gl X "dict" := by rfl) (he : starEach (e :: es) X.env = (false, eval e X.env) :: starEach es X.env := by rfl) (hpl : (backTo pos (starEach es X.env)).any (·.1) = false := by rfl) : PEm X T W (.Call (.Name "dict" p) (e :: es) [] pos) (mCall (one (dict1 mt)) ml) :=
  em_callT (call_dictX c.calm) (c_dict mt) hg u.dict rfl ha (by decide) (by decide) he hpl
theorem cIsi {t : String} {x : Str} {m : SD → M D} {q : Pos} (u : Bu2 X.mg) (hmt : X.mg x = none) (ha : PEm X T W a m) (hv : bootBuiltins x = some (.type t) := by decide +kernel) (hg : Gl X "isinstance" := by rfl) (hgt : Gl X x := by rfl) (hn : x ≠ "__name__" := by decide) (hdb : (x == ("__debug__" : Str)) = false := by decide)
    (he : starEach [a, .Name x q] X.env = (false, eval a X.env) :: starEach [.Name x q] X.env := by rfl) (he2 : starEach [.Name x q] X.env = (false, eval (.Name x q) X.env) :: starEach [] X.env := by rfl) (hpl : (backTo pos (starEach [.Name x q] X.env)).any (·.1) = false := by rfl) : PEm X T W (.Call (.Name "isinstance" p) [a, .Name x q] [] pos) (mIsi t m) :=
  em_isi hg u.isinstance hgt hmt hv ha hn hdb he he2 hpl
theorem mJoin {ml : SD → M (List D)} {mo : SD → M D} {apos cpos : Pos} (ho : PEm X T W o mo) (ha : PAm X T W (e :: es) ml) (hbase : attributeBase o "join" X.env (eval o X.env) = eval o X.env := by rfl)
    (hfew : ((backTo cpos (starEach (e :: es) X.env)).all (fun x => !x.1) && (backToKw cpos (keywordEach [] X.env)).all (fun x => x.1.isSome) && decide ((e :: es).length + ([] : List Keyword).length + (if ([] : List Keyword).isEmpty then 0 else 1) < 30)) = true := by rfl)
    (hline : (apos.endLine == cpos.line) = true := by decide) (hs : starEach (e :: es) X.env = (false, eval e X.env) :: starEach es X.env := by rfl) (hplain : (backTo cpos (starEach es X.env)).any (·.1) = false := by rfl) : PEm X T W (.Call (.Attribute o "join" apos) (e :: es) [] cpos) (mMeth .str fJoin mo ml) :=
  em_bm (t := .str) PySem.F.plainAttrs_str PySem.F.slot_str_join PySem.F.type_str_join mt_join m_join ho ha hbase hfew hline hs hplain
theorem mSplit {mt : Bool} {ml : SD → M (List D)} {mo : SD → M D} {apos cpos : Pos} (ho : PEm X T W o mo) (ha : PAm X T W (e :: es) ml) (hbase : attributeBase o "split" X.env (eval o X.env) = eval o X.env := by rfl)
    (hfew : ((backTo cpos (starEach (e :: es) X.env)).all (fun x => !x.1) && (backToKw cpos (keywordEach [] X.env)).all (fun x => x.1.isSome) && decide ((e :: es).length + ([] : List Keyword).length + (if ([] : List Keyword).isEmpty then 0 else 1) < 30)) = true := by rfl)
    (hline : (apos.endLine == cpos.line) = true := by decide) (hs : starEach (e :: es) X.env = (false, eval e X.env) :: starEach es X.env := by rfl) (hplain : (backTo cpos (starEach es X.env)).any (·.1) = false := by rfl) : PEm X T W (.Call (.Attribute o "split" apos) (e :: es) [] cpos) (mMeth .str (fSplit mt) mo ml) :=
  em_bm (t := .str) PySem.F.plainAttrs_str PySem.F.slot_str_split PySem.F.type_str_split mt_split (m_split mt) ho ha hbase hfew hline hs hplain
/-- an operator of order as a rule, by its name -/
inductive Ch | o (x : Or4) | eq | ne
def Ch.op : Ch → CmpOp
  | .o x => x.op
  | .eq => .Eq
  | .ne => .NotEq
def Ch.m : Ch → D → D → M D
  | .o x => ordM x
  | .eq => eqM false
  | .ne => eqM true
theorem oCh (c' : Cxt X k) (x y : Or4) {ma mb mc : SD → M D} (ha : PEm X T W a ma) (hb : PEm X T W b mb) (hc : PEm X T W c mc) (hm : lastMarks [x.op, y.op] [b, c] = false := by with_unfolding_all rfl) : PEm X T W (.Compare a [x.op, y.op] [b, c] pos) (mChain (ordM x) (ordM y) ma mb mc) := em_chain (op_ord c'.u65 x) (op_ord c'.u65 y) (r_ord x) (r_ord y) ha hb hc hm
theorem tCh (c' : Cxt X k) (x y : Or4) {ma mb mc : SD → M D} (ha : PEm X T W a ma) (hb : PEm X T W b mb) (hc : PEm X T W c mc) (hm : lastMarks [x.op, y.op] [b, c] = false := by with_unfolding_all rfl) : PTm X T W (.Compare a [x.op, y.op] [b, c] pos) (mTest (mChain (ordM x) (ordM y) ma mb mc)) := tm_chain (op_ord c'.u65 x) (op_ord c'.u65 y) (r_ord x) (r_ord y) ha hb hc hm
end
end Wy

set_option Elab.async false
set_option linter.all false
set_option maxRecDepth 100000
set_option maxHeartbeats 4000000
namespace Wy
open PySem PySem.Spec PyProof.Rows L2

/-! ### raise X('text') -/
def mRaise (C : Str) : SD → M Fl := fun _ h => .ex C [] h
/-- an own exception's class without own __init__ -/
structure ExcO (X : Cx) (T : Tb) (x : Str) : Prop where
  ex : ∃ (B newId initId : String) (bmB : List Value) (C : Addr), ExcBaseFacts B newId initId bmB ∧ PySem.W.excIn X.K C bmB newId = true ∧ X.mg x = some (.ref C) ∧ PySem.W.keepIn X.K (.ref C) = true ∧ Raises X (.ref C) ∧ T.exc x (.ref C)
section
variable {X : Cx} {T : Tb} {E : XK} {W : WX} {e a b c o tg : Expr} {es : List Expr} {pos p p1 p2 np : Pos} {k : Nat}
theorem sm_raise {x m : Str} {j : Nat} (hc : X.calm = true) (tk : Takes X (WC E)) (O : ExcO X T x) (hg : Gl X x) (hdb : (x == ("__debug__" : Str)) = false) : PSm X T E (.Raise (some (.Call (.Name x p) [.Constant (.str m) j p2] [] p1)) none pos) (mRaise x) := by
  obtain ⟨B, newId, initId, bmB, C, F, q, gC, kC, r, t⟩ := O.ex
  exact weakS (ps_raise hc tk (pmk_own F q gC kC r hg hdb)) fun D σ H ⟨ρ, hd, sd, rr, s, h⟩ => h ρ H (.ref C) none rr .refl ⟨t, .inl ⟨rfl, rfl⟩⟩

/-! ### try: t = e, except X: .. -/
def mTry (cs : Str → Option Bool) (m : SD → M D) (g : D → SD → M SD) (hn : SD → M Fl) : SD → M Fl := fun s h => match m s h with
  | .ok d h' => match g d s h' with
    | .ok s' h'' => .ok (.nx s') h''
    | _ => .bad
  | .ex C fs h' => match cs C with
    | some true => hn s h'
    | some false => .ex C fs h'
    | none => .bad
  | .bad => .bad
/-- which exceptions the clause takes -/
def Catch (X : Cx) (T : Tb) (x : Str) (cs : Str → Option Bool) : Prop := ∃ c, Names X x c ∧ ∀ C b, cs C = some b → ∀ cls, T.exc C cls → PySem.W.exmOne X.K cls c = some b
theorem sm_try {x : Str} {b₀ : Stmt} {suite : List Stmt} {cs : Str → Option Bool} {m : SD → M D} {g : D → SD → M SD} {hn : SD → M Fl} (hs : X.stack = X.env :: X.outer) (hf : X.env.frame = some X.env.locals) (hc : Catch X T x cs) (tk : Takes X (WC E))
    (he : ∀ (W : WX) (pn : List (Addr × Obj)) (xe : Value → Shared → Prop), Takes (X.tr pn xe) W → PEm (X.tr pn xe) T W e m) (hg : ∀ (pn : List (Addr × Obj)) (xe : Value → Shared → Prop), PGm (X.tr pn xe) T E tg g)
    (hsu : ∀ (a : Addr) (pn : List (Addr × Obj)), PSsm (X.suite a pn) T E (b₀ :: suite) hn)
    (h1 : swapsWithSole [tg] e p1.line X.env = pure false) (h2 : swappedStores [tg] e X.env = pure none) (h3 : (assignEach [tg] X.env).map (·.2) = [assign tg X.env]) :
    PSm X T E (.Try [.Assign [tg] e p1] [.ExceptHandler (some (.Name x np)) none (b₀ :: suite) p2] [] [] pos) (mTry cs m g hn) := by
  obtain ⟨cv, hn', hx⟩ := hc
  refine weakS (ps_try_only (tb := fun W => tSeq (tAsg (tE (gx X T) W m) (tT' (gx X T) E g)) tNext) (ts := fun _ _ _ => tS (gx X T) E hn) hs hf hn' tk
    (fun W pn xe t _ => pss_cons (ps_asg (he W pn xe t) (hg pn xe) h1 h2 h3) pss_nil) (fun a oe cls d pn _ _ => hsu a _)) fun D σ H ⟨ρ, hd, sd, r, s, h⟩ => ?_
  show tSeq _ _ D σ H
  refine ⟨ρ, hd, sd, r, s, ?_⟩
  unfold mTry at h
  cases em : m sd hd with
  | ok d hd' =>
    rw [em] at h
    intro ρ' H' v r' st q
    refine ⟨ρ', hd', sd, d, r', s.mono st r.muts, q, ?_⟩
    cases eg : g d sd hd' with
    | ok s' hd'' =>
      simp only [eg] at h
      exact fun ρ2 H2 σ2 r2 st2 q2 => h ρ2 H2 σ2 r2 (st.trans st2) q2
    | ex C fs hd'' => simp only [eg] at h; exact h.elim
    | bad => simp only [eg] at h; exact h.elim
  | ex C fs hd' =>
    rw [em] at h
    intro ρ' H' cls dd r' st q
    simp only [] at h
    cases ec : cs C with
    | none => rw [ec] at h; exact h.elim
    | some b =>
      rw [ec] at h
      refine ⟨b, hx C b ec cls q.1, fun eb a na => ?_, fun eb => ?_⟩
      · subst eb
        exact ⟨ρ', hd', sd, r', s.mono st r.muts, ResS.from st h⟩
      · subst eb
        exact h ρ' H' cls dd r' st q
  | bad => rw [em] at h; exact h.elim
theorem gm_name0 (hN : X.N.Nodup) {i : Nat} {x : Str} (hi : X.N[i]? = some x := by rfl) (hx : Loc X.env.scope x := by first | exact .inl rfl | exact .inr rfl) (hf : X.fn x = true ∨ X.env.scope.names.lookup x = some .local := by first | exact .inl rfl | exact .inr rfl) : PGm X T E (.Name x pos) (gNm i) := gm_name hN hi hx hf
end
end Wy

set_option Elab.async false
set_option linter.all false
set_option maxRecDepth 100000
set_option maxHeartbeats 4000000
namespace Wy
open PySem PySem.Spec PyProof.Rows L2

/-! ### sorted(d.items()), keys ints or texts -/
mutual
theorem reads_lt {h : Heap} : ∀ (d : PyData) (v : Value) (as : List Addr), Reads h v d as → ∀ a ∈ as, a < h.objs.size
  | _, _, _, .none => by simp
  | _, _, _, .bool b => by simp
  | _, _, _, .int i t => by simp
  | _, _, _, .str x t => by simp
  | _, _, _, .list ho _ _ r => fun a ha => (List.mem_cons.mp ha).elim (fun e => e ▸ Heap.lt_size ho) fun ha => readsAll_lt _ _ _ r a ha
  | _, _, _, .tuple _ _ _ r => readsAll_lt _ _ _ r
  | _, _, _, .dict ho _ _ r s => fun a ha => (List.mem_cons.mp ha).elim (fun e => e ▸ Heap.lt_size ho) fun ha => (List.mem_append.mp ha).elim (fun ha => readsAll_lt _ _ _ r a ha) fun ha => readsAll_lt _ _ _ s a ha
theorem readsAll_lt {h : Heap} : ∀ (ds : List PyData) (vs : List Value) (as : List Addr), ReadsAll h vs ds as → ∀ a ∈ as, a < h.objs.size
  | _, _, _, .nil => by simp
  | _, _, _, .cons r s => fun a ha => (List.mem_append.mp ha).elim (fun ha => reads_lt _ _ _ r a ha) fun ha => readsAll_lt _ _ _ s a ha
end
section
variable {X : Cx} {T : Tb} {W : WX} {k : Nat} {e a b c o : Expr} {es : List Expr} {pos p : Pos}
theorem key_relV {P : Program} {w : World} {k : Key} {v : Value} (h : (mixKind P w).is k v = true) : RelV (kV k) v := by
  have h : keyIs k v = true := h
  cases k with
  | inl i => cases v <;> simp [keyIs, Value.isInt] at h <;> exact ⟨_, by rw [h]⟩
  | inr x => cases v <;> simp [keyIs, Value.isStrOf] at h <;> exact ⟨_, by rw [h]⟩
theorem pgetL {α β : Type} {F : α → β → Prop} : ∀ {l₁ : List α} {l₂ : List β} {j : Nat} {x : α}, Paired F l₁ l₂ → l₁[j]? = some x → ∃ y, l₂[j]? = some y ∧ F x y
  | _, _, j, x, Paired.nil, h => by simp at h
  | _, _, 0, x, Paired.cons (b := y) f _, h => by
    simp only [List.getElem?_cons_zero] at h
    cases h
    exact ⟨y, rfl, f⟩
  | _, _, j + 1, x, Paired.cons _ t, h => by
    simp only [List.getElem?_cons_succ] at h
    obtain ⟨y, h1, h2⟩ := pgetL (j := j) t h
    exact ⟨y, (by rw [List.getElem?_cons_succ]; exact h1), h2⟩
def rItK : V → List V → Hp → VK → Prop := fun x xs H Q => ∃ (a : Addr) (kvs : List (Key × V)), x = .ref a ∧ xs = [] ∧ H a = some (.dK kvs) ∧ ∀ p, H p = none → Q (.ref p) (upd H p (DX.itemsO p a))
theorem raw_of {pins : List (Addr × Obj)} {σ : L2.St} {H : Hp} {s : Shared} {a : Addr} {kvs : List (Key × V)} (I : Inv X pins σ H s) (h : H a = some (.dK kvs)) : (a == sysModules) = false ∧ kvs.length ≤ sizeLine ∧
    ∃ es ep, DT.Raw s.heap a es ep ∧ es.size = kvs.length ∧ ∀ (j : Nat) (kv : Key × V), kvs[j]? = some kv → ∃ e : DictEntry, es[j]? = some e ∧ RelV (kV kv.1) e.key ∧ RelV kv.2 e.val := by
  obtain ⟨h1, h2, vs, kv, o, es, ep, ho, hx, hd, hk, hp, hn⟩ := (show ObjOk X.prog X.w H s.heap a (.dK kvs) from I.hok a _ h)
  refine ⟨h2, h1, es, ep, ⟨o, ho, hx, hd⟩, ?_, fun j p hj => ?_⟩
  · rw [kv.length, ← hp.length, Array.length_toList]
  · obtain ⟨q, hq, e1, e2⟩ := pgetL kv hj
    have hlt : j < es.size := by
      have h3 := (List.getElem?_eq_some_iff.mp hq).1
      rw [← hp.length, Array.length_toList] at h3
      exact h3
    obtain ⟨k1, k2⟩ := hp.get? (e := es[j]) (by simp [hlt]) hq
    refine ⟨es[j], Array.getElem?_eq_getElem hlt, ?_, ?_⟩
    · rw [e1]
      exact key_relV k1
    · rw [k2]; exact e2
theorem mt_itK : MtR X "dict.items" rItK := by
  intro pins s σ H x xs v us Q I rx rxs h
  obtain ⟨a, kvs, rfl, rfl, ha, q⟩ := h
  cases rx
  cases rxs
  obtain ⟨h1, h2, es, ep, hr, _⟩ := raw_of I ha
  refine DT.callItems (es := es) (ep := ep) h1 hr ?_
  have hf : H s.heap.objs.size = none := I.hok.fresh (Nat.le_refl _)
  exact ⟨.ref s.heap.objs.size, upd H s.heap.objs.size (DX.itemsO s.heap.objs.size a), I.laid (t' := s.toks) (fun b u e => Heap.get?_push_of_some _ e) (Nat.le_refl _) (DX.itemsO_ok (Heap.get?_push_size _ rfl)), rfl, q _ hf⟩
def kP : Key → PyData
  | .inl i => .int i
  | .inr x => .str x
theorem kP_dp {K : PySem.W.Frag} {H : Hp} : ∀ k : Key, Dp K H (kV k) (kP k)
  | .inl i => .int i
  | .inr x => .str x
/-- the pairs as data -/
def itP (kvs : List (Key × V)) (ps : List PyData) : List PyData := (kvs.zip ps).map fun z => .tuple [kP z.1.1, z.2]
mutual
theorem dp_grow {K : PySem.W.Frag} {H H' : Hp} (g : ∀ b o, H b = some o → H' b = some o) : ∀ (v : V) (p : PyData), Dp K H v p → Dp K H' v p
  | _, _, .non => .non
  | _, _, .bl b => .bl b
  | _, _, .int i => .int i
  | _, _, .str x => .str x
  | _, _, .lst h r => .lst (h.imp (fun h => h.imp (g _ _) fun ⟨o, h⟩ => ⟨o, g _ _ h⟩) id) (dps_grow g _ _ r)
  | _, _, .tup h r => .tup (h.imp (fun h => h.imp (g _ _) fun ⟨o, h⟩ => ⟨o, g _ _ h⟩) id) (dps_grow g _ _ r)
theorem dps_grow {K : PySem.W.Frag} {H H' : Hp} (g : ∀ b o, H b = some o → H' b = some o) : ∀ (vs : List V) (ps : List PyData), DpAll K H vs ps → DpAll K H' vs ps
  | _, _, .nil => .nil
  | _, _, .cons r t => .cons (dp_grow g _ _ r) (dps_grow g _ _ t)
end
theorem it_dp {K : PySem.W.Frag} {H : Hp} : ∀ (as : List Addr) (kvs : List (Key × V)) (ps : List PyData), as.length = kvs.length → DpAll K H (kvs.map (·.2)) ps → (∀ (j : Nat) (a : Addr) (kv : Key × V), as[j]? = some a → kvs[j]? = some kv → H a = some (.tup [kV kv.1, kv.2])) → DpAll K H (as.map V.ref) (itP kvs ps)
  | [], [], _, _, d, _ => by cases d; exact .nil
  | a :: as, kv :: kvs, ps, e, d, h => by
    cases d with
    | cons d1 d2 => exact .cons (.tup (.inl (.inl (h 0 a kv rfl rfl))) (.cons (kP_dp _) (.cons d1 .nil))) (it_dp as kvs _ (by simpa using e) d2 fun j a kv h1 h2 => h (j + 1) a kv (by simpa using h1) (by simpa using h2))
  | [], _ :: _, _, e, _, _ => by simp at e
  | _ :: _, [], _, e, _, _ => by simp at e
def rSortIt (K : PySem.W.Frag) : List V → Hp → VK → Prop := fun vs H Q => ∃ (p a : Addr) (kvs : List (Key × V)) (ps : List PyData), vs = [V.ref p] ∧ H p = some (DX.itemsO p a) ∧ H a = some (.dK kvs) ∧ DpAll K H (kvs.map (·.2)) ps ∧
  PySem.W.AllAlike (itP kvs ps) ∧ PySem.W.Sortable (itP kvs ps) ∧ (∀ p ∈ itP kvs ps, p.depth ≤ 64) ∧
  ∀ (H' : Hp) (l : Addr) (as : List Addr), H l = none → (∀ a ∈ as, H a = none) → (∀ b o, H b = some o → H' b = some o) → as.length = kvs.length → H' l = some (.lst (sortZ (as.map V.ref) (itP kvs ps))) →
    (∀ (j : Nat) (a : Addr) (kv : Key × V), as[j]? = some a → kvs[j]? = some kv → H' a = some (.tup [kV kv.1, kv.2])) → Q (.ref l) H'
theorem cr_sortedIt (hc : X.calm = true) (hu : X.A.units + 70 < cLine) : CallR X (.builtin "sorted") (rSortIt X.K) := by
  intro pins s σ H xs us Q I r h
  obtain ⟨p, a, kvs, ps, rfl, hp, ha, hdp, hal, hso, hdz, q⟩ := h
  obtain rfl := Vals.ref1 r
  have view : s.heap.IsItemsView p a := (show ObjOk X.prog X.w H s.heap p (DX.itemsO p a) from I.hok p _ hp).1
  obtain ⟨m1, hz, es, ep, raw, hn, ent⟩ := raw_of I ha
  have hh : X.A.handled = none := I.ok.hd hc
  refine DT.sortedI (es := es) (ep := ep) hh view raw (by rw [hn]; exact hz) fun h' tk as hk hlt hl hG => ?_
  have nd : as.Nodup := List.Pairwise.imp (fun h => Nat.ne_of_lt h) hG.rise
  have lak : as.length = kvs.length := by rw [hl, hn]
  have lps : kvs.length = ps.length := by have := DpAll.len hdp; rwa [List.length_map] at this
  have I0 : Inv X pins σ H { s with heap := h', toks := tk } := I.kept (t' := tk) hk
  obtain ⟨H2, I2, g, qt⟩ := DX.takeT (P := fun b vs => ∃ (j : Nat) (kv : Key × V), as[j]? = some b ∧ kvs[j]? = some kv ∧ vs = [kV kv.1, kv.2]) I as H I0 nd fun b hb => by
    obtain ⟨j, hj⟩ := List.mem_iff_getElem?.mp hb
    obtain ⟨en, he, hg⟩ := hG.pairs j b hj
    have hjl : j < kvs.length := by
      have h3 := (List.getElem?_eq_some_iff.mp hj).1
      omega
    obtain ⟨en', he', r1, r2⟩ := ent j _ (List.getElem?_eq_getElem hjl)
    rw [he'] at he
    cases he
    have hbl : s.heap.objs.size ≤ b := Nat.le_of_lt (hG.above b hb)
    exact ⟨hbl, I.hok.fresh hbl, _, ⟨j, _, hj, List.getElem?_eq_getElem hjl, rfl⟩, fun H3 => ⟨(by show 2 ≤ sizeLine; decide), [en.key, en.val], .cons r1 (.cons r2 .nil), ⟨_, hg, rfl, 0, rfl⟩⟩⟩
  have tups : ∀ (j : Nat) (b : Addr) (kv : Key × V), as[j]? = some b → kvs[j]? = some kv → H2 b = some (.tup [kV kv.1, kv.2]) := fun j b kv hj hkv => by
    obtain ⟨vs, ⟨i, kv', h1, h2, rfl⟩, h3⟩ := qt b (List.mem_of_getElem? hj)
    have eij : j = i := (List.getElem?_inj (List.getElem?_eq_some_iff.mp hj).1 nd).mp (hj.trans h1.symm)
    subst eij
    rw [hkv] at h2; cases h2
    exact h3
  have hL : H2 h'.objs.size = none := I2.hok.fresh (Nat.le_refl _)
  have hob : (h'.push { cls := .type "list", data := .seq (as.map Value.ref).toArray }).get? h'.objs.size = some (seqObj "list" (as.map Value.ref).toArray 0) := Heap.get?_push_size _ rfl
  have keep : ∀ b o, h'.get? b = some o → (h'.push { cls := .type "list", data := .seq (as.map Value.ref).toArray }).get? b = some o := fun b o e => Heap.get?_push_of_some _ e
  have rvs : Vals (as.map V.ref) (as.map Value.ref) := by
    have : ∀ l : List Addr, Vals (l.map V.ref) (l.map Value.ref) := fun l => by
      induction l with
      | nil => exact .nil
      | cons _ _ ih => exact .cons rfl ih
    exact this as
  have zl : (as.map V.ref).length ≤ sizeLine := by rw [List.length_map, lak]; exact hz
  have I3 : Inv X pins σ (upd H2 h'.objs.size (.lst (as.map V.ref))) { s with heap := h'.push { cls := .type "list", data := .seq (as.map Value.ref).toArray }, toks := tk } := by
    refine I2.laid (t' := tk) keep (Nat.le_refl _) ⟨zl, as.map Value.ref, 0, rvs, hob⟩
  have dps : DpAll X.K H2 (as.map V.ref) (itP kvs ps) := by
    exact it_dp as kvs ps lak (dps_grow g _ _ hdp) tups
  have hlen : (as.map V.ref).length = (itP kvs ps).length := DpAll.len dps
  obtain ⟨e1, e2⟩ := each_zip I2 rvs dps
  have em : ((as.map V.ref).zip (itP kvs ps)).map (·.2) = itP kvs ps := List.map_snd_zip (by omega)
  refine PySem.W.list_sort_data (s := { s with heap := h'.push { cls := .type "list", data := .seq (as.map Value.ref).toArray }, toks := tk }) (bs := (as.map V.ref).zip (itP kvs ps)) (enc := fun b => b.2) (R := fun v b => RelV b.1 v) hob e1
    (e2.mono fun v b ⟨as', r⟩ => ⟨as', PyProof.Rows.Reads.keeps keep r, fun hm => Nat.lt_irrefl _ (reads_lt _ _ _ r _ hm)⟩) (by rw [em]; exact hal) (by rw [em]; exact hso) (by rw [List.length_zip]; omega) (fun b hb => ?_) fun out ho eo => ?_
  · have := hdz b.2 (by rw [← em]; exact List.mem_map_of_mem hb)
    show X.A.units + 1 + 1 + b.2.depth < cLine
    omega
  · obtain ⟨ep', he'⟩ := PyProof.Rows.sortedHeap_at (vs := as.map Value.ref) (out := out.toArray) hob
    have vo : Vals (sortZ (as.map V.ref) (itP kvs ps)) out := vals_each (fun _ _ h => h) eo
    have I4 := I3.write (x := h'.objs.size) (e := h'.objs.size) (o := .lst (sortZ (as.map V.ref) (itP kvs ps))) (h' := sortedHeap (h'.push { cls := .type "list", data := .seq (as.map Value.ref).toArray }) h'.objs.size (as.map Value.ref) out.toArray) (t' := tk) (by rw [upd_same]; trivial) (.inl rfl) (fun b u hb hu => by
      rw [PyProof.Rows.sortedHeap_old hb (Heap.lt_size hu)]; exact hu) ⟨_, he'⟩ ⟨by rw [sortZ_len hlen]; exact zl, out, ep', vo, he'⟩
    refine ⟨.ref h'.objs.size, _, I4, rfl, q _ h'.objs.size as (by
      cases e : H h'.objs.size with
      | none => rfl
      | some o => rw [g _ _ e] at hL; cases hL) (fun b hb => I.hok.fresh (Nat.le_of_lt (hG.above b hb))) (fun b o e => ?_) lak upd_same fun j b kv h1 h2 => ?_⟩
    · have ne : b ≠ h'.objs.size := fun z => by rw [z] at e; rw [g _ _ e] at hL; cases hL
      rw [upd_ne ne, upd_ne ne]; exact g _ _ e
    · have e := tups j b kv h1 h2
      have ne : b ≠ h'.objs.size := fun z => by rw [z, hL] at e; cases e
      rw [upd_ne ne, upd_ne ne]; exact e
end
end Wy

set_option Elab.async false
set_option linter.all false
set_option maxRecDepth 100000
set_option maxHeartbeats 4000000
namespace Wy
open PySem PySem.Spec PyProof.Rows L2

def pairD (kvs : List (D × D)) : List D := kvs.map fun p => .tup [p.1, p.2]
/-- texts that are keys are fit -/
def keysOk (kvs : List (D × D)) : Bool := kvs.all fun p => match p.1 with
  | .str x => PyData.strOk x
  | _ => true
theorem keysOk_of {kvs : List (D × D)} (h : keysOk kvs = true) : ∀ p ∈ kvs, ∀ x, p.1 = .str x → PyData.strOk x = true := fun p hp x e => by
  have := List.all_eq_true.mp h p hp
  rw [e] at this
  exact this
def srtIt (mt : Bool) (d : D) : M D := fun h => match dictOf h d with
  | some (false, kvs) => match toPs h 4 (pairD kvs) with
    | some es => if allAlike es = true ∧ sortable es = true ∧ PyData.depthAll es ≤ 64 ∧ keysOk kvs = true then mkL mt (sortZ (pairD kvs) es) h else .bad
    | none => .bad
  | _ => .bad
def mSrtI (mt : Bool) (mo : SD → M D) : SD → M D := fun s => mo s >>= fun d => srtIt mt d
theorem pair_ps {r : Nat → Option (List PyData)} : ∀ {kvs : List (D × D)} {ks : List (Key × V)} {es : List PyData}, kvs.map (fun p => toKey p.1) = ks.map (fun p => some p.1) → toPG.toPGs r (pairD kvs) = some es → ∃ ps, toPG.toPGs r (kvs.map (·.2)) = some ps ∧ es = itP ks ps
  | [], ks, es, k, e => by
    cases ks with
    | nil => simp only [pairD, List.map_nil, toPG.toPGs] at e; cases e; exact ⟨[], rfl, rfl⟩
    | cons _ _ => simp at k
  | kv :: kvs, ks, es, k, e => by
    cases ks with
    | nil => simp at k
    | cons x ks =>
      simp only [List.map_cons, List.cons.injEq] at k
      have hk : toPG r kv.1 = some (kP x.1) := by
        cases h : kv.1 <;> rw [h] at k <;> first | (simp [toKey] at k; done) | skip
        · simp only [toKey, Option.some.injEq] at k; rw [← k.1]; simp [toPG, kP]
        · simp only [toKey, Option.some.injEq] at k; rw [← k.1]; simp [toPG, kP]
      simp only [pairD, List.map_cons, toPG.toPGs, toPG, hk] at e
      cases e2 : toPG r kv.2 with
      | none => simp [e2] at e
      | some p =>
        cases e3 : toPG.toPGs r (pairD kvs) with
        | none => unfold pairD at e3; simp [e2, e3] at e
        | some es' =>
          obtain ⟨ps, h1, h2⟩ := pair_ps k.2 e3
          unfold pairD at e3
          simp [e2, e3] at e
          subst e
          exact ⟨p :: ps, by simp [toPG.toPGs, e2, h1], by rw [h2]; rfl⟩
theorem pair_toPs {h : DH} {n : Nat} {kvs : List (D × D)} {ks : List (Key × V)} {es : List PyData} (k : kvs.map (fun p => toKey p.1) = ks.map (fun p => some p.1)) (e : toPs h n (pairD kvs) = some es) : ∃ ps, toPs h n (kvs.map (·.2)) = some ps ∧ es = itP ks ps := by
  cases n with
  | zero => exact pair_ps k e
  | succ n => exact pair_ps k e
theorem key_rv {G : Gx} {ρ : Rg} {H : Hp} {d : D} {k : Key} (e : toKey d = some k) (hs : ∀ x, d = .str x → PyData.strOk x = true) : RV G ρ H d (kV k) := by
  cases d <;> simp [toKey] at e
  · subst e; exact .int _
  · subst e; exact .str _ (hs _ rfl)
section
variable {X : Cx} {T : Tb} {W : WX} {k : Nat} {e a b c o : Expr} {es : List Expr} {pos p : Pos}
theorem pairs_rv {G : Gx} {ρ : Rg} {H : Hp} : ∀ {kvs : List (D × D)} {ks : List (Key × V)} {as : List Addr}, as.length = ks.length → kvs.map (fun p => toKey p.1) = ks.map (fun p => some p.1) → RVs G ρ H (kvs.map (·.2)) (ks.map (·.2)) → (∀ p ∈ kvs, ∀ x, p.1 = .str x → PyData.strOk x = true) →
    (∀ (j : Nat) (a : Addr) (kv : Key × V), as[j]? = some a → ks[j]? = some kv → H a = some (.tup [kV kv.1, kv.2])) → RVs G ρ H (pairD kvs) (as.map V.ref)
  | [], ks, as, l, k, _, _, _ => by
    cases ks with
    | nil => cases as with
      | nil => exact .nil
      | cons _ _ => simp at l
    | cons _ _ => simp at k
  | kv :: kvs, ks, as, l, k, r, hs, h => by
    cases ks with
    | nil => simp at k
    | cons x ks => cases as with
      | nil => simp at l
      | cons a as =>
        simp only [List.map_cons, List.cons.injEq] at k
        obtain ⟨v, us, e, r1, r2⟩ := r.inv
        simp only [List.map_cons, List.cons.injEq] at e
        obtain ⟨rfl, rfl⟩ := e
        refine .cons (.tup (.inl (.inl (h 0 a x rfl rfl))) (.cons (key_rv k.1 (hs kv (by simp))) (.cons r1 .nil)) fun pe => ?_) (pairs_rv (by simpa using l) k.2 r2 (fun p hp => hs p (by simp [hp])) fun j a kv h1 h2 => h (j + 1) a kv (by simpa using h1) (by simpa using h2))
        exfalso
        have k1 := k.1
        cases h : kv.1 <;> rw [h] at k1 <;> simp [toKey] at k1 <;> simp [pairsD, D.isPair, h] at pe
theorem em_srtI {mt : Bool} {mo : SD → M D} {apos cpos : Pos} (hc : X.calm = true) (hu : X.A.units + 70 < cLine) (ho : PEm X T W o mo) (hg : Gl X "sorted") (hm : X.mg "sorted" = none) (hbase : attributeBase o "items" X.env (eval o X.env) = eval o X.env) (hline : (apos.endLine == cpos.line) = true)
    (he : starEach [.Call (.Attribute o "items" apos) [] [] cpos] X.env = (false, eval (.Call (.Attribute o "items" apos) [] [] cpos) X.env) :: starEach [] X.env) (hpl : (backTo pos (starEach [] X.env)).any (·.1) = false) :
    PEm X T W (.Call (.Name "sorted" p) [.Call (.Attribute o "items" apos) [] [] cpos] [] pos) (mSrtI mt mo) :=
  weakE (pe_callB (cr_sortedIt hc hu) hg hm rfl (pa_cons (pe_bm0 PySem.F.plainAttrs_dict PySem.F.slot_dict_items PySem.F.type_dict_items mt_itK ho hbase hline) pa_nil he) (by decide) (by decide) he hpl) fun σ H Q h => by
    refine tG_then (tG_bind (R := RV (gx X T)) (k := fun _ d => srtIt mt d) h) fun x H1 ⟨ρ1, hd1, sd1, d, ⟨r, st, q⟩, h1⟩ => ?_
    unfold srtIt at h1
    cases c1 : dictOf hd1 d with
    | none => simp only [c1] at h1; exact h1.elim
    | some kv =>
      obtain ⟨tk, kvs⟩ := kv
      cases tk with
      | true => simp only [c1] at h1; exact h1.elim
      | false =>
        simp only [c1] at h1
        cases c2 : toPs hd1 4 (pairD kvs) with
        | none => simp only [c2] at h1; exact h1.elim
        | some es =>
          simp only [c2] at h1
          by_cases c : allAlike es = true ∧ sortable es = true ∧ PyData.depthAll es ≤ 64 ∧ keysOk kvs = true
          · rw [if_pos c] at h1
            obtain ⟨a, rfl, hk, _⟩ := dictOf_rv r q c1
            obtain ⟨ks, ha, kk, rs⟩ := hk rfl
            obtain ⟨ps, e1, rfl⟩ := pair_toPs kk c2
            obtain ⟨dp, _⟩ := toPs_rv r 4 _ _ _ rs e1
            refine ⟨.inr (.inr (.inl ⟨rfl, .inl ⟨_, ha⟩⟩)), a, ks, rfl, rfl, ha, fun p hp => ?_⟩
            have nep : ∀ b o, H1 b = some o → b ≠ p := fun b o e z => by rw [z, hp] at e; cases e
            have gp : ∀ b o, H1 b = some o → upd H1 p (DX.itemsO p a) b = some o := fun b o e => by rw [upd_ne (nep b o e)]; exact e
            refine ⟨p, a, ks, ps, rfl, upd_same, gp _ _ ha, dps_grow gp _ _ dp, allAlike_of c.1, sortable_of c.2.1, fun z hz => ?_, fun H' l as hl has grow lk hL htup => ?_⟩
            · have := depth_mem hz
              have := c.2.2.1
              omega
            · have fr : ∀ b, upd H1 p (DX.itemsO p a) b = none → H1 b = none := fun b e => by
                cases e2 : H1 b with
                | none => rfl
                | some o => rw [gp b o e2] at e; cases e
              have l0 := fr l hl
              have old : ∀ b o, H1 b = some o → (fun b => if b = l then none else H' b) b = some o := fun b o e => by
                have ne : b ≠ l := fun z => by rw [z, l0] at e; cases e
                show (if b = l then none else H' b) = some o
                rw [if_neg ne]
                exact grow b o (gp b o e)
              have s2 : Stp ρ1 H1 ρ1 (fun b => if b = l then none else H' b) := ⟨List.prefix_refl _, rfl, fun _ h => .inl h, fun b o e _ => old b o e⟩
              have r2 : Rep (gx X T) ρ1 hd1 (fun b => if b = l then none else H' b) := r.same s2 fun b hb => by
                cases e2 : H1 b with
                | none => have := r.some' hb; rw [e2] at this; cases this
                | some o => exact old b o e2
              have tl : ∀ (j : Nat) (b : Addr) (kv : Key × V), as[j]? = some b → ks[j]? = some kv → (fun b => if b = l then none else H' b) b = some (.tup [kV kv.1, kv.2]) := fun j b kv h1 h2 => by
                have e := htup j b kv h1 h2
                have ne : b ≠ l := fun z => by rw [z, hL] at e; cases e
                show (if b = l then none else H' b) = _
                rw [if_neg ne]; exact e
              have pr := pairs_rv (G := gx X T) (ρ := ρ1) lk kk (RVs.mono s2 r.muts _ _ rs) (keysOk_of c.2.2.2) tl
              have hlen : (pairD kvs).length = (itP ks ps).length := by
                have h3 := pr.len
                have h4 := DpAll.len dp
                unfold itP
                rw [h3, List.length_map, List.length_map, List.length_zip, lk]
                rw [List.length_map] at h4
                omega
              have fin := (mkL_res (σ := σ) r2 (sortZ_rv hlen pr) (h1.from s2)).2 l (if_pos rfl)
              have eH : upd (fun b => if b = l then none else H' b) l (.lst (sortZ (as.map V.ref) (itP ks ps))) = H' := by
                funext b
                by_cases z : b = l
                · subst z; rw [upd_same, hL]
                · rw [upd_ne z]; exact if_neg z
              rw [eH] at fin
              exact fin
          · rw [if_neg c] at h1; exact h1.elim
end
end Wy

set_option Elab.async false
set_option linter.all false
set_option maxRecDepth 100000
set_option maxHeartbeats 4000000
namespace Wy
open PySem PySem.Spec PyProof.Rows L2

/-! ### words: own exceptions, items -/
/-- an exception of the class cls stands at a -/
def ExV (cls : Value) (d : Option Addr) (a : Addr) : HO := .ext fun h => ∃ (o : Obj) (vs : Array Value), h.get? a = some o ∧ Zc cls d o ∧ o.data = .fields vs
theorem exV_ok {P : Program} {w : World} {H : Hp} {h : Heap} {a : Addr} {cls : Value} {d : Option Addr} {o : Obj} {vs : Array Value} (e : h.get? a = some o) (z : Zc cls d o) (f : o.data = .fields vs) : ObjOk P w H h a (ExV cls d a) :=
  ⟨⟨o, vs, e, z, f⟩, ⟨o, e⟩, fun _ _ ⟨o', vs', q, z', f'⟩ k => ⟨o', vs', k o' q, z', f'⟩⟩
/-- the name under which an exception of the class C goes as a value -/
def excN (C : Str) : Str := ⟨#[33] ++ C.cps⟩
/-- what a value that is a function, or an exception, stands for -/
def FnAll (mg : Str → Option Value) (H : Hp) (f : Str) (a : Addr) (us : List V) : Prop := ∃ (C : Str) (cls : Value), f = excN C ∧ us = [] ∧ mg C = some cls ∧ H a = some (ExV cls none a)
/-- classes by the names that the text gives them -/
def TB (mg : Str → Option Value) : Tb := ⟨fun x a => mg x = some (.ref a), fun x c => mg x = some c, FnAll mg⟩
/-- an own exception's class without own __init__, by its name -/
structure ExcK (K : PySem.W.Frag) (mg : Str → Option Value) (x : Str) : Prop where
  ex : ∃ (B newId initId : String) (bmB : List Value) (C : Addr), ExcBaseFacts B newId initId bmB ∧ PySem.W.excIn K C bmB newId = true ∧ mg x = some (.ref C) ∧ PySem.W.keepIn K (.ref C) = true ∧ PySem.W.subIn K (.ref C) (.type "BaseException") = some true ∧ PySem.W.typeIn K (.ref C) = some (.type "type")
theorem excK_ve {K : PySem.W.Frag} {mg : Str → Option Value} {x : Str} {C : Addr} (g : mg x = some (.ref C)) (q : PySem.W.excIn K C [.type "ValueError", .type "Exception", .type "BaseException", .type "object"] "ValueError.__new__" = true) (k : PySem.W.keepIn K (.ref C) = true) (b : PySem.W.subIn K (.ref C) (.type "BaseException") = some true) (t : PySem.W.typeIn K (.ref C) = some (.type "type")) : ExcK K mg x :=
  ⟨_, _, _, _, C, PySem.F.excBase_ValueError, q, g, k, b, t⟩
theorem exm_of {K : PySem.W.Frag} {t : Value} {S : Addr} {b : Bool} (h1 : PySem.W.subIn K (.ref S) (.type "BaseException") = some true) (h2 : PySem.W.isClsIn K S = true) (h3 : PySem.W.typeIn K (.ref S) = some (.type "type")) (h4 : PySem.W.subIn K t (.ref S) = some b) :
    PySem.W.exmOne K t (.ref S) = some b := by
  have e1 : (PySem.W.subIn K (.ref S) (.type "BaseException") == some true) = true := by rw [h1] <;> rfl
  have e2 : ((PySem.W.clsIn K S).isSome && PySem.W.typeIn K (.ref S) == some (.type "type")) = true := by
    have h2' : (PySem.W.clsIn K S).isSome = true := h2
    rw [h2', h3] <;> rfl
  show (if (PySem.W.subIn K (.ref S) (.type "BaseException") == some true) = true then (if ((PySem.W.clsIn K S).isSome && PySem.W.typeIn K (.ref S) == some (.type "type")) = true then PySem.W.subIn K t (.ref S) else none) else none) = some b
  rw [if_pos e1, if_pos e2]
  exact h4
/-- what the clause 'except x' does with the exceptions of the list -/
structure CatchK (K : PySem.W.Frag) (mg : Str → Option Value) (x : Str) (l : List (Str × Bool)) : Prop where
  ex : ∃ C : Addr, mg x = some (.ref C) ∧ ∀ p ∈ l, ∀ cls, mg p.1 = some cls → PySem.W.exmOne K cls (.ref C) = some p.2
def csOf (l : List (Str × Bool)) : Str → Option Bool := fun x => (l.find? fun p => decide (p.1 = x)).map (·.2)
section
variable {X : Cx} {E : XK} {W : WX} {e a b c o tg : Expr} {es : List Expr} {pos p p1 p2 np : Pos} {k : Nat}
theorem catch_of {x : Str} {l : List (Str × Bool)} (h : CatchK X.K X.mg x l) (hg : Gl X x) (hdb : (x == ("__debug__" : Str)) = false) : Catch X (TB X.mg) x (csOf l) := by
  obtain ⟨C, g, q⟩ := h.ex
  refine ⟨.ref C, ⟨hg, hdb, .inl g⟩, fun D b eb cls ht => ?_⟩
  unfold csOf at eb
  obtain ⟨y, e1, e2⟩ := Option.map_eq_some_iff.mp eb
  have h1 := List.mem_of_find?_eq_some e1
  have h2 := List.find?_some e1
  have h2 : y.1 = D := by simpa using h2
  have := q y h1 cls (by rw [h2]; exact ht)
  rw [this, e2]
theorem rRs (c : Cxt X k) (tk : Takes X (WC E)) {x m : Str} {j : Nat} (O : ExcK X.K X.mg x) (hg : Gl X x := by rfl) (hdb : (x == ("__debug__" : Str)) = false := by decide) : PSm X (TB X.mg) E (.Raise (some (.Call (.Name x p) [.Constant (.str m) j p2] [] p1)) none pos) (mRaise x) := by
  obtain ⟨B, newId, initId, bmB, C, F, q, g, kC, sb, ty⟩ := O.ex
  exact sm_raise c.calm tk ⟨B, newId, initId, bmB, C, F, q, g, kC, raises_own sb ty, g⟩ hg hdb
theorem Cxt.tr (c : Cxt X k) {pn : List (Addr × Obj)} {xe : Value → Shared → Prop} : Cxt (X.tr pn xe) k := ⟨c.calm, c.nd, c.room, c.bu⟩
theorem rTr (c : Cxt X k) (tk : Takes X (WC E)) {x : Str} {b₀ : Stmt} {suite : List Stmt} {l : List (Str × Bool)} {m : SD → M D} {g : D → SD → M SD} {hn : SD → M Fl} (hc : CatchK X.K X.mg x l)
    (he : ∀ (W : WX) (pn : List (Addr × Obj)) (xe : Value → Shared → Prop), Cxt (X.tr pn xe) k → Takes (X.tr pn xe) W → PEm (X.tr pn xe) (TB X.mg) W e m) (hg : ∀ (pn : List (Addr × Obj)) (xe : Value → Shared → Prop), Cxt (X.tr pn xe) k → PGm (X.tr pn xe) (TB X.mg) E tg g)
    (hsu : ∀ (a : Addr) (pn : List (Addr × Obj)), (X.suite a pn).N.Nodup → PSsm (X.suite a pn) (TB X.mg) E (b₀ :: suite) hn) (hs : X.stack = X.env :: X.outer := by rfl) (hf : X.env.frame = some X.env.locals := by rfl) (hgl : Gl X x := by rfl) (hdb : (x == ("__debug__" : Str)) = false := by decide)
    (h1 : swapsWithSole [tg] e p1.line X.env = pure false := by rfl) (h2 : swappedStores [tg] e X.env = pure none := by rfl) (h3 : (assignEach [tg] X.env).map (·.2) = [assign tg X.env] := by rfl) :
    PSm X (TB X.mg) E (.Try [.Assign [tg] e p1] [.ExceptHandler (some (.Name x np)) none (b₀ :: suite) p2] [] [] pos) (mTry (csOf l) m g hn) :=
  sm_try hs hf (catch_of hc hgl hdb) tk (fun W pn xe t => he W pn xe c.tr t) (fun pn xe => hg pn xe c.tr) (fun a pn => hsu a pn c.nd) h1 h2 h3
theorem gN0 {T : Tb} (hN : X.N.Nodup) {i : Nat} {x : Str} (hi : X.N[i]? = some x := by rfl) (hx : Loc X.env.scope x := by first | exact .inl rfl | exact .inr rfl) (hf : X.fn x = true ∨ X.env.scope.names.lookup x = some .local := by first | exact .inl rfl | exact .inr rfl) : PGm X T E (.Name x pos) (gNm i) := gm_name hN hi hx hf
theorem cSrtI {T : Tb} {mt : Bool} (c : Cxt X k) {mo : SD → M D} {apos cpos : Pos} (ho : PEm X T W o mo) (hg : Gl X "sorted" := by rfl) (hbase : attributeBase o "items" X.env (eval o X.env) = eval o X.env := by rfl) (hline : (apos.endLine == cpos.line) = true := by decide)
    (he : starEach [.Call (.Attribute o "items" apos) [] [] cpos] X.env = (false, eval (.Call (.Attribute o "items" apos) [] [] cpos) X.env) :: starEach [] X.env := by rfl) (hpl : (backTo pos (starEach [] X.env)).any (·.1) = false := by rfl) :
    PEm X T W (.Call (.Name "sorted" p) [.Call (.Attribute o "items" apos) [] [] cpos] [] pos) (mSrtI mt mo) := em_srtI c.calm c.u70 ho hg c.bu.sorted hbase hline he hpl
end
end Wy

set_option Elab.async false
set_option linter.all false
set_option maxRecDepth 100000
set_option maxHeartbeats 4000000
namespace Wy
open PySem PySem.Spec PyProof.Rows L2

/-! ### texts: s * n, int(s), for c in s -/
section
variable {X : Cx} {T : Tb} {E : XK} {W : WX} {e a b c o tg l : Expr} {es : List Expr} {pos p : Pos} {k : Nat}
theorem rep_list (a : Array Nat) : ∀ (n : Nat) (acc : Array Nat), ((List.replicate n a).foldl (· ++ ·) acc).toList = acc.toList ++ (List.replicate n a.toList).flatten
  | 0, acc => by simp
  | n + 1, acc => by
    rw [List.replicate_succ, List.foldl_cons, rep_list a n, List.replicate_succ, List.flatten_cons]
    simp
theorem rep_len (a : Array Nat) (n : Nat) : ((List.replicate n a).foldl (· ++ ·) #[]).size = n * a.size := by
  rw [← Array.length_toList, rep_list]
  simp
def repS (x : Str) (k : Int) : Str := if k < 1 then Str.empty else if (k == 1 || x.length == 0) = true then x else ⟨(List.replicate k.toNat x.cps).foldl (· ++ ·) #[]⟩
def rRepS : R2 := fun x y H Q => ∃ (z : Str) (k : Int), x = .str z ∧ y = .int k ∧ z.length ≤ 1000 ∧ -1000 ≤ k ∧ k ≤ 1000 ∧ Q (.str (repS z k)) H
theorem op_repS : OpR X (binaryOp .Mult) rRepS := by
  rintro pins s σ H x y v u Q I rx ry ⟨z, k, rfl, rfl, hz, h1, h2, q⟩
  obtain ⟨t, rfl⟩ := rx
  obtain ⟨t2, rfl⟩ := ry
  have fin : ∀ {t : Tok} {tk : Nat}, EP X pins σ Q (.str (repS z k) t) { s with toks := tk } := fun {t tk} => ⟨.str (repS z k), H, I.tok tk, ⟨_, rfl⟩, q⟩
  refine PySem.P.mul_str ?_ ?_ ?_ ?_
  · have a1 : ¬ k < -(2 ^ 63 : Int) := by omega
    have a2 : ¬ k ≥ 2 ^ 63 := by omega
    rw [decide_eq_false a1, decide_eq_false a2]; rfl
  · intro h3 h4 h5
    have : (2 ^ 63 - 1 : Int) / 1000 ≤ (2 ^ 63 - 1) / k := by
      refine Int.le_ediv_of_mul_le (by omega) ?_
      have : (2 ^ 63 - 1 : Int) / 1000 * k ≤ (2 ^ 63 - 1 : Int) / 1000 * 1000 := Int.mul_le_mul_of_nonneg_left h2 (by decide)
      omega
    omega
  · intro h3 h4
    unfold Builtin.Str.tooLong
    have : z.length * k.toNat ≤ 1000 * 1000 := Nat.mul_le_mul hz (by omega)
    rw [sizeLine_eq] at *
    simp
    omega
  · unfold repS at fin
    split
    · rename_i c
      rw [if_pos c] at fin
      exact ⟨by decide, fin⟩
    · rename_i c
      rw [if_neg c] at fin
      split
      · rename_i c2
        rw [if_pos c2] at fin
        exact fin
      · rename_i c2
        rw [if_neg c2] at fin
        exact ⟨by
          show ((List.replicate k.toNat z.cps).foldl (· ++ ·) #[]).size ≤ sizeLine
          rw [rep_len, sizeLine_eq]
          have : k.toNat * z.cps.size ≤ 1000 * 1000 := Nat.mul_le_mul (by omega) hz
          omega, fin⟩
theorem repS_ok {x : Str} {k : Int} (h : PyData.strOk x = true) : PyData.strOk (repS x k) = true := by
  unfold repS
  split
  · exact ok_of ""
  · split
    · exact h
    · rw [okS_iff]
      intro c hc
      rw [rep_list] at hc
      simp at hc
      obtain ⟨l, ⟨_, rfl⟩, hc⟩ := hc
      exact okS_iff.mp h c hc
/-- numbers, tuples; texts -/
def opMulA (d e : D) : M D := match d, e with
  | .str x, .int k => if x.length ≤ 1000 ∧ -1000 ≤ k ∧ k ≤ 1000 then pure (.str (repS x k)) else M.bad
  | .str _, _ => M.bad
  | d, e => opMul d e
abbrev rMulS (K : PySem.W.Frag) : R2 := fun x y H Q => rRepS x y H Q ∨ rMulAny K x y H Q
theorem r_mulA : R2m X T (rMulS X.K) opMulA := by
  intro W ρ hd H d e x y σ Q r q q' z
  cases d with
  | str a =>
    cases e <;> first | exact z.elim | skip
    rename_i k
    cases q with
    | str _ hs =>
      cases q'
      unfold opMulA at z
      by_cases c : a.length ≤ 1000 ∧ -1000 ≤ k ∧ k ≤ 1000
      · simp only [c, and_self, if_true] at z
        exact .inl ⟨a, k, rfl, rfl, c.1, c.2.1, c.2.2, ans r (.str _ (repS_ok hs)) z⟩
      · simp only [c, if_false] at z; exact z.elim
  | _ => exact .inr (r_mul W ρ hd H _ e x y σ Q r q q' z)
theorem oMulA {ma mb : SD → M D} (ha : PEm X T W a ma) (hb : PEm X T W b mb) : PEm X T W (.BinOp a .Mult b pos) (m2 opMulA ma mb) := em_op (op_repS.or op_mulAny) r_mulA ha hb
@[simp] theorem mulA_int {i : Int} {e : D} {h : DH} : opMulA (.int i) e h = opMul (.int i) e h := by cases e <;> rfl
@[simp] theorem mulA_tup {l : List D} {e : D} {h : DH} : opMulA (.tup l) e h = opMul (.tup l) e h := by cases e <;> rfl
theorem mulA_str {x : Str} {k : Int} {h : DH} (a : x.length ≤ 1000) (b : -1000 ≤ k) (c : k ≤ 1000) : opMulA (.str x) (.int k) h = .ok (.str (repS x k)) h := by
  unfold opMulA
  simp only [a, b, c, and_self, if_true]; rfl
/-- int(x) -/
def intA : D → M D := fun d => match d with
  | .str a => match PySem.intText? a with
    | some n => if a.length ≤ 640 then pure (.int n) else M.bad
    | none => M.bad
  | d => int1 d
theorem c_intA : Cm X T (fun xs H Q => ((∃ i, xs = [.int i] ∧ Q (.int i) H) ∨ ∃ k, xs = [.bl k] ∧ Q (.int (if k then 1 else 0)) H) ∨ ∃ a n, xs = [.str a] ∧ PySem.intText? a = some n ∧ a.length ≤ 640 ∧ Q (.int n) H) (one intA) := by
  intro W ρ hd H ds vs σ Q r q z
  obtain ⟨d, v, rfl, rfl, q, z⟩ := one_res q z
  cases d with
  | str a =>
    cases q
    unfold intA at z
    cases e : PySem.intText? a with
    | none => simp only [e] at z; exact z.elim
    | some n =>
      simp only [e] at z
      by_cases c : a.length ≤ 640
      · rw [if_pos c] at z
        exact .inr ⟨a, n, rfl, e, c, ans r (.int _) z⟩
      · rw [if_neg c] at z; exact z.elim
  | int i => cases q; exact .inl (.inl ⟨_, rfl, ans r (.int _) z⟩)
  | bl b => cases q; exact .inl (.inr ⟨_, rfl, ans r (.int _) z⟩)
  | _ => exact z.elim
theorem cIntA (c : Cxt X k) {ml : SD → M (List D)} (ha : PAm X T W (e :: es) ml) (hg : Gl X "int" := by rfl) (he : starEach (e :: es) X.env = (false, eval e X.env) :: starEach es X.env := by rfl) (hpl : (backTo pos (starEach es X.env)).any (·.1) = false := by rfl) : PEm X T W (.Call (.Name "int" p) (e :: es) [] pos) (mCall (one intA) ml) :=
  em_callT (call_int1.or call_int_str) c_intA hg c.bu.int rfl ha (by decide) (by decide) he hpl
@[simp] theorem intA_int {i : Int} {h : DH} : intA (.int i) h = .ok (.int i) h := rfl
@[simp] theorem intA_bl {b : Bool} {h : DH} : intA (.bl b) h = .ok (.int (if b then 1 else 0)) h := rfl
/-- a list, a tuple or a text, walked -/
def iSeqS (K : PySem.W.Frag) (tl : TE) : TI := fun σ H R => tl σ H fun x H1 => (∃ a, x = .ref a ∧ (((∃ xs, SqL K H1 a xs) ∧ R (Itl K a) H1) ∨ ((∃ xs, SqT K H1 a xs) ∧ R (Itt K a) H1))) ∨ ∃ z, x = .str z ∧ R (Its z) H1
theorem pi_seqS {tl : TE} (hl : PE X l tl) : PI X tg l (iSeqS X.K tl) := by
  refine ⟨fun pins s σ H R I h => thn (hl.run pins s σ H _ I h) fun v s1 ⟨x, H1, I1, r1, q1⟩ => ?_⟩
  rcases q1 with ⟨a, ex, q1⟩ | ⟨z, ex, q⟩
  · subst ex
    cases r1
    have hfp : ∀ b ∈ [s1.heap.objs.size], FpOk X pins H1 b := fun b hb => by
      obtain rfl : b = s1.heap.objs.size := by simpa using hb
      exact I1.fpOk (Nat.le_refl _) (I1.hok.fresh (Nat.le_refl _))
    rcases q1 with ⟨⟨xs, hq⟩, q⟩ | ⟨⟨xs, hq⟩, q⟩
    · obtain ⟨its, rv, p', hz⟩ := I1.list hq
      refine wpAny_pyIter_list p'.isList ?_
      exact ⟨_, [s1.heap.objs.size], _, _, H1, rfl, I1.kept (t' := s1.toks) fun b o e => Heap.get?_push_of_some _ e, turn_list a _, ⟨_, Heap.get?_push_size _ rfl, rfl, rfl⟩, hfp, q⟩
    · obtain ⟨its, rv, p', hz⟩ := I1.tuple hq
      refine wpAny_pyIter_tuple (show s1.heap.IsTuple a its.toArray from p') ?_
      exact ⟨_, [s1.heap.objs.size], _, _, H1, rfl, I1.kept (t' := s1.toks) fun b o e => Heap.get?_push_of_some _ e, turn_tuple a _, ⟨_, Heap.get?_push_size _ rfl, rfl, rfl⟩, hfp, q⟩
  · subst ex
    obtain ⟨t, rfl⟩ := r1
    cases ha : z.cps.all (· < 128)
    · exact wpAny_pyIter_wide ha (pi_one (tk := s1.toks) I1 _ (turn_str _ z t "str_iterator" (.inr rfl)) ⟨_, Heap.get?_push_size _ rfl, rfl, rfl⟩ q)
    · exact wpAny_pyIter_ascii ha (pi_one (tk := s1.toks) I1 _ (turn_str _ z t "str_ascii_iterator" (.inl rfl)) ⟨_, Heap.get?_push_size _ rfl, rfl, rfl⟩ q)
def signsOf (x : Str) : List D := x.cps.toList.map fun c => .str ⟨#[c]⟩
def seqSrcA (d : D) : M Src := fun h => match d with
  | .str x => .ok (signsOf x, fun _ => true) h
  | d => seqSrc d h
def srcSeqA (m : SD → M D) : SD → M Src := fun s => m s >>= seqSrcA
theorem im_seqA {m : SD → M D} (hl : PEm X T W l m) : PIm X T W tg l (srcSeqA m) :=
  weakI (pi_seqS hl) fun σ H R h => by
    refine tG_then (tG_bind (R := RV (gx X T)) (k := fun _ d => seqSrcA d) h) fun v H1 ⟨ρ1, hd1, sd1, d, ⟨r, st, q⟩, h1⟩ => ?_
    have m1 := r.muts
    by_cases hstr : ∃ x, d = .str x
    · obtain ⟨x, rfl⟩ := hstr
      cases q with
      | str _ hok =>
        refine .inr ⟨x, rfl, h1 ρ1 H1 _ r .refl fun ρ hd H i r2 mv ck => ?_⟩
        have hlen : (signsOf x).length = x.cps.size := by simp [signsOf]
        refine ⟨fun d ed => ?_, fun ed => by
          show x.cps.size ≤ i
          rw [← hlen]; exact List.getElem?_eq_none_iff.mp ed⟩
        have hi : i < x.cps.size := by
          rw [← hlen]; exact (List.getElem?_eq_some_iff.mp ed).1
        have e2 : d = .str ⟨#[x.cps[i]]⟩ := by
          have h3 := (List.getElem?_eq_some_iff.mp ed).2
          rw [← h3]
          simp [signsOf]
        refine ⟨hi, fun v H' ⟨e', c, hc, ev⟩ => ?_⟩
        subst e'; subst ev; subst e2
        rw [Array.getElem?_eq_getElem hi] at hc
        cases hc
        refine ⟨r2, .refl, .str _ ?_⟩
        rw [okS_iff]
        intro c hc
        have : c = x.cps[i] := by simpa using hc
        rw [this]
        exact okS_iff.mp hok _ (by simp)
    · have h1 : Res (gx X T) W σ (Feeds (gx X T)) ρ1 H1 (seqSrc d hd1) R := by
        unfold seqSrcA at h1
        cases d <;> first | exact absurd ⟨_, rfl⟩ hstr | exact h1
      unfold seqSrc at h1
      cases e1 : seqOf hd1 d with
      | none => rw [e1] at h1; exact h1.elim
      | some l =>
        rw [e1] at h1
        rcases seq_kind d with ⟨l', rfl⟩ | hk
        · cases e1
          cases q with
          | tup hs rs =>
            refine .inl ⟨_, rfl, .inr ⟨⟨_, hs⟩, h1 ρ1 H1 _ r .refl fun ρ hd H i r2 mv ck => ?_⟩⟩
            have hs2 := mv.sqT m1 hs
            have rs2 := RVs.mv mv m1 _ _ rs
            refine ⟨fun d ed => ?_, fun ed => ⟨_, hs2, by rw [← rs2.len]; exact List.getElem?_eq_none_iff.mp ed⟩⟩
            obtain ⟨y, ey, ry⟩ := rs2.get ed
            refine ⟨⟨_, y, hs2, ey⟩, fun v H' ⟨e', f'⟩ => ?_⟩
            subst e'
            cases (f' _ hs2).symm.trans ey
            exact ⟨r2, .refl, ry⟩
        · rw [hk] at e1
          obtain ⟨a, xs, rfl, hs, rs⟩ := rlistOf_rv r q e1
          refine .inl ⟨a, rfl, .inl ⟨⟨xs, hs⟩, h1 ρ1 H1 _ r .refl fun ρ hd H i r2 mv ck => ?_⟩⟩
          have q2 := RV.mv mv m1 _ _ q
          have e3 := stays_eq ck
          rw [hk] at e3
          obtain ⟨a', ys, e2, hs2, rs2⟩ := rlistOf_rv r2 q2 e3
          cases e2
          refine ⟨fun d ed => ?_, fun ed => ⟨ys, hs2, by rw [← rs2.len]; exact List.getElem?_eq_none_iff.mp ed⟩⟩
          obtain ⟨y, ey, ry⟩ := rs2.get ed
          refine ⟨⟨ys, y, hs2, ey⟩, fun v H' ⟨e', f'⟩ => ?_⟩
          subst e'
          cases (f' ys hs2).symm.trans ey
          exact ⟨r2, .refl, ry⟩
theorem iSA {m : SD → M D} (hl : PEm X T W l m) : PIm X T W tg l (srcSeqA m) := im_seqA hl
end
end Wy

set_option Elab.async false
set_option linter.all false
set_option maxRecDepth 100000
set_option maxHeartbeats 4000000
namespace Wy
open PySem PySem.Spec PyProof.Rows L2

/-! ### plain facts for further laws: comprehensions over values -/
theorem comp_map {t : CT} {tt : SD → M Bool} {te : SD → M D} {chk : DH → Bool} {s0 : SD} {h : DH} (f : D → D) (hc : chk h = true) : ∀ l : List D, (∀ d ∈ l, ∃ s, bindT t d s0 = some s ∧ tt s h = .ok true h ∧ te s h = .ok (f d) h) → compR t tt te chk s0 l h = .ok (l.map f) h
  | [], _ => by unfold compR; rw [if_pos hc]; rfl
  | d :: l, H => by
    obtain ⟨s, e1, e2, e3⟩ := H d (by simp)
    unfold compR
    rw [if_pos hc, e1]
    dsimp only
    rw [e2]
    dsimp only
    rw [e3]
    dsimp only
    rw [comp_map f hc l fun d hd => H d (List.mem_cons_of_mem _ hd)]
    rfl
theorem comp_filter {t : CT} {tt : SD → M Bool} {te : SD → M D} {chk : DH → Bool} {s0 : SD} {h : DH} (p : D → Bool) (f : D → D) (hc : chk h = true) : ∀ l : List D, (∀ d ∈ l, ∃ s, bindT t d s0 = some s ∧ tt s h = .ok (p d) h ∧ (p d = true → te s h = .ok (f d) h)) → compR t tt te chk s0 l h = .ok ((l.filter p).map f) h
  | [], _ => by unfold compR; rw [if_pos hc]; rfl
  | d :: l, H => by
    obtain ⟨s, e1, e2, e3⟩ := H d (by simp)
    unfold compR
    rw [if_pos hc, e1]
    dsimp only
    rw [e2]
    have ih := comp_filter p f hc l fun d hd => H d (List.mem_cons_of_mem _ hd)
    cases c : p d with
    | true =>
      dsimp only
      rw [e3 c]
      dsimp only
      rw [ih, List.filter_cons_of_pos c]
      rfl
    | false =>
      dsimp only
      rw [ih, List.filter_cons_of_neg (by simp [c])]
end Wy

set_option Elab.async false
set_option linter.all false
set_option maxRecDepth 100000
set_option maxHeartbeats 4000000
namespace Wy
open PySem PySem.Spec PyProof.Rows L2

/-! ### words of a line -/
def wl (l : List Nat) : List (List Nat) := (TL.spl [32] 0 [] l).filter (· ≠ [])
theorem wl_word {p l : List Nat} (h : 32 ∉ p) (n : p ≠ []) : wl (p ++ 32 :: l) = p :: wl l := by
  unfold wl
  have := TL.spl_part1 (s := 32) (S := []) (p := p) (rest := l) (acc := []) h
  simp only [List.singleton_append, List.nil_append] at this
  rw [this, List.filter_cons_of_pos (by simp [n])]
theorem wl_blank {l : List Nat} : wl (32 :: l) = wl l := by
  unfold wl
  have := TL.spl_part1 (s := 32) (S := []) (p := []) (rest := l) (acc := []) (by simp)
  simp only [List.singleton_append, List.nil_append] at this
  rw [this, List.filter_cons_of_neg (by simp)]
theorem wl_last {p : List Nat} (h : 32 ∉ p) (n : p ≠ []) : wl p = [p] := by
  unfold wl
  rw [TL.spl_last1 (s := 32) (S := []) h, List.filter_cons_of_pos (by simpa using n)]
  rfl
theorem wl_nil : wl [] = [] := by
  unfold wl
  rw [TL.spl_nil]
  rfl
theorem wl_blanks : ∀ (k : Nat) (l : List Nat), wl (List.replicate k 32 ++ l) = wl l
  | 0, l => rfl
  | k + 1, l => by rw [List.replicate_succ, List.cons_append, wl_blank, wl_blanks k l]
theorem wl_end {p : List Nat} (h : 32 ∉ p) (n : p ≠ []) : ∀ k : Nat, wl (p ++ List.replicate k 32) = [p]
  | 0 => by simpa using wl_last h n
  | k + 1 => by
    rw [List.replicate_succ, wl_word h n]
    have := wl_blanks k []
    rw [List.append_nil, wl_nil] at this
    rw [this]
/-- a row of two words -/
theorem wl_row {p q : List Nat} (h : 32 ∉ p) (n : p ≠ []) (h' : 32 ∉ q) (n' : q ≠ []) (a b c : Nat) : wl (List.replicate a 32 ++ (p ++ (List.replicate (b + 1) 32 ++ (q ++ List.replicate c 32)))) = [p, q] := by
  rw [wl_blanks, List.replicate_succ, List.cons_append, wl_word h n, wl_blanks, wl_end h' n']
def sp : Str := " "
theorem tl_sp : TL.tl sp = [32] := by decide +kernel
theorem sp_small : sp.cps.all (· < 256) = true := by decide +kernel
/-- the words of a line as texts -/
def wordsS (x : Str) : List Str := (Txt.split x sp).filter fun w => decide (w ≠ "")
theorem tl_empty {x : Str} : TL.tl x = [] ↔ x = "" := by
  constructor
  · intro h
    have := TL.mk_tl x
    rw [h] at this
    rw [← this]; rfl
  · rintro rfl; rfl
theorem wordsS_tl (x : Str) : (wordsS x).map TL.tl = wl (TL.tl x) := by
  unfold wordsS wl
  have := TL.split_spl x sp (by rw [tl_sp]; simp) (TL.kind_ok sp_small)
  rw [tl_sp] at this
  rw [← this, List.filter_map]
  congr 1
  refine List.filter_congr fun w _ => ?_
  by_cases c : w = ""
  · subst c; rfl
  · have c2 : ¬ TL.tl w = [] := fun z => c (tl_empty.mp z)
    show decide (w ≠ "") = decide (TL.tl w ≠ [])
    rw [decide_eq_true c, decide_eq_true c2]
theorem wordsS_of {x : Str} {l : List Str} (h : wl (TL.tl x) = l.map TL.tl) : wordsS x = l := TL.map_tl_inj (by rw [wordsS_tl, h])
end Wy

set_option Elab.async false
set_option linter.all false
set_option maxRecDepth 100000
set_option maxHeartbeats 4000000
namespace Wy
open PySem PySem.Spec PyProof.Rows L2

/-! ### plain facts: texts -/
@[simp] theorem ty_str {x : Str} {h : DH} : tyM .str (.str x) h = .ok () h := rfl
theorem ix_str {x : Str} {i : Int} {h : DH} (z : x.length ≤ sizeLine) : ixA (.str x) (.int i) h = match atI x.cps.toList i with
    | some c => .ok (.str ⟨#[c]⟩) h
    | none => .bad := by
  unfold ixA ixM dictOf
  dsimp only
  rw [if_pos z]
  try (cases atI x.cps.toList i <;> rfl)
theorem joinL_mem {S : List Nat} {p : List Nat} {c : Nat} : ∀ {parts : List (List Nat)}, p ∈ parts → c ∈ p → c ∈ TL.joinL S parts
  | [], h, _ => by simp at h
  | [q], h, hc => by
    have : p = q := by simpa using h
    subst this; exact hc
  | q :: r :: l, h, hc => by
    show c ∈ q ++ (S ++ TL.joinL S (r :: l))
    rcases List.mem_cons.mp h with rfl | h
    · exact List.mem_append_left _ hc
    · exact List.mem_append_right _ (List.mem_append_right _ (joinL_mem h hc))
theorem okS_tl {x : Str} : PyData.strOk x = true ↔ ∀ c ∈ TL.tl x, c < 0x110000 := okS_iff
theorem split_ok {a b : Str} (h : PyData.strOk a = true) : (Txt.split a b).all PyData.strOk = true := by
  rw [List.all_eq_true]
  intro p hp
  rw [okS_tl] at h ⊢
  intro c hc
  have e := StrLaws.join_split a b
  rw [← e, TL.tl_join] at h
  exact h c (joinL_mem (List.mem_map_of_mem hp) hc)
theorem split_ok' {a b : Str} (hb : (b.length == 0) = false) (z : a.length + 2 ≤ sizeLine) (h : PyData.strOk a = true) {H : DH} : fSplit false (.str a) [.str b] H = .ok (.lv ((Txt.split a b).map .str)) H := by
  unfold fSplit
  dsimp only
  rw [if_pos ⟨hb, z, split_ok h⟩]
  refine mkL_f ?_
  rw [List.length_map]
  exact Nat.le_trans (PyProof.Rows.split_le a b) z
theorem strL_map : ∀ l : List Str, strL (l.map .str) = some l
  | [] => rfl
  | x :: l => by simp [strL, strL_map l]
theorem join_okS {a : Str} {ys : List Str} (ha : PyData.strOk a = true) (hy : ∀ y ∈ ys, PyData.strOk y = true) : PyData.strOk (Txt.join a ys) = true := by
  rw [TL.join_eq]; exact join_ok ha ys hy
theorem join_lv {a : Str} {ys : List Str} {h : DH} (z : (ys.map (·.length)).sum + ys.length * a.length ≤ 16777216) (ha : PyData.strOk a = true) (hy : ∀ y ∈ ys, PyData.strOk y = true) : fJoin (.str a) [.lv (ys.map .str)] h = .ok (.str (Txt.join a ys)) h := by
  unfold fJoin seqOf rlistOf listOf
  simp only [Option.bind_some, strL_map, z, join_okS ha hy, and_self, if_true]
theorem join_ref {a : Str} {ys : List Str} {h : DH} {k : Nat} (e : h[k]? = some (.lst (ys.map .str))) (z : (ys.map (·.length)).sum + ys.length * a.length ≤ 16777216) (ha : PyData.strOk a = true) (hy : ∀ y ∈ ys, PyData.strOk y = true) : fJoin (.str a) [.ref k] h = .ok (.str (Txt.join a ys)) h := by
  unfold fJoin seqOf rlistOf listOf
  simp only [e, Option.bind_some, strL_map, z, join_okS ha hy, and_self, if_true]
theorem cat_str {mt : Bool} {x y : Str} {h : DH} (z : x.length + y.length ≤ sizeLine) : opAdd mt (.str x) (.str y) h = .ok (.str (x ++ y)) h := by
  unfold opAdd
  simp only [z, if_true]
end Wy

set_option Elab.async false
set_option linter.all false
set_option maxRecDepth 100000
set_option maxHeartbeats 4000000
namespace Wy
open PySem PySem.Spec PyProof.Rows L2

/-! ### how the later words run -/
section
variable {s : SD} {h : DH} {m ma mb mc : SD → M D} {ml : SD → M (List D)}
@[simp] theorem ev_isi {t : String} : mIsi t m s h = (m s h).then fun d h' => isiM t d h' := by unfold mIsi; simp only [ev_bind]
@[simp] theorem ev_chain {f g : D → D → M D} : mChain f g ma mb mc s h = (ma s h).then fun d h1 => (mb s h1).then fun e h2 => (f d e h2).then fun t h3 => match t with
    | .bl true => (mc s h3).then fun x h4 => g e x h4
    | .bl false => .ok (.bl false) h3
    | _ => .bad := by
  unfold mChain
  simp only [bind_fun]
  congr 1; funext d h1; congr 1; funext e h2; congr 1; funext t h3
  cases t <;> first | rfl | (rename_i b; cases b <;> first | rfl | simp only [ev_bind])
@[simp] theorem ev_raise {C : Str} : mRaise C s h = .ex C [] h := rfl
@[simp] theorem ev_try {cs : Str → Option Bool} {g : D → SD → M SD} {hn : SD → M Fl} : mTry cs m g hn s h = match m s h with
  | .ok d h' => (match g d s h' with
    | .ok s' h'' => .ok (.nx s') h''
    | _ => .bad)
  | .ex C fs h' => (match cs C with
    | some true => hn s h'
    | some false => .ex C fs h'
    | none => .bad)
  | .bad => .bad := byT rfl
@[simp] theorem ev_srtI {mt : Bool} : mSrtI mt m s h = (m s h).then fun d h' => srtIt mt d h' := by unfold mSrtI; simp only [ev_bind]
@[simp] theorem ev_srcSeqA : srcSeqA m s h = (m s h).then fun d h' => seqSrcA d h' := by unfold srcSeqA; simp only [ev_bind]
end
section
variable {h : DH} {neg : Bool} {l : List D}
@[simp] theorem src_lv : seqSrcA (.lv l) h = .ok (l, stays (.lv l) l) h := rfl
@[simp] theorem src_tup : seqSrcA (.tup l) h = .ok (l, stays (.tup l) l) h := rfl
@[simp] theorem src_rl : seqSrcA (.rl l) h = .ok (l, stays (.rl l) l) h := rfl
@[simp] theorem src_str {x : Str} : seqSrcA (.str x) h = .ok (signsOf x, fun _ => true) h := rfl
theorem src_ref {n : Nat} (e : h[n]? = some (.lst l)) : seqSrcA (.ref n) h = .ok (l, stays (.ref n) l) h := by
  unfold seqSrcA seqSrc seqOf rlistOf listOf
  simp only [e]
@[simp] theorem stays_lv : stays (.lv l) l h = true := by simp [stays, seqOf, rlistOf, listOf, D.beqs_self]
@[simp] theorem stays_tup : stays (.tup l) l h = true := by simp [stays, seqOf, rlistOf, listOf, D.beqs_self]
@[simp] theorem stays_rl : stays (.rl l) l h = true := by simp [stays, seqOf, rlistOf, listOf, D.beqs_self]
@[simp] theorem enum_lv : enumSrc [.lv l] h = .ok (numbered l, stays (.lv l) l) h := rfl
@[simp] theorem enum_tup : enumSrc [.tup l] h = .ok (numbered l, stays (.tup l) l) h := rfl
@[simp] theorem enum_rl : enumSrc [.rl l] h = .ok (numbered l, stays (.rl l) l) h := rfl
@[simp] theorem list1_lv : list1 false (.lv l) h = mkL false l h := rfl
@[simp] theorem isi_non {t : String} : isiM t .non h = (match kitB "NoneType" t with | some b => .ok (.bl b) h | none => .bad) := rfl
@[simp] theorem isi_bl {t : String} {b : Bool} : isiM t (.bl b) h = (match kitB "bool" t with | some b => .ok (.bl b) h | none => .bad) := rfl
@[simp] theorem isi_int {t : String} {i : Int} : isiM t (.int i) h = (match kitB "int" t with | some b => .ok (.bl b) h | none => .bad) := rfl
@[simp] theorem isi_str {t : String} {x : Str} : isiM t (.str x) h = (match kitB "str" t with | some b => .ok (.bl b) h | none => .bad) := rfl
@[simp] theorem isi_tup {t : String} : isiM t (.tup l) h = (match kitB "tuple" t with | some b => .ok (.bl b) h | none => .bad) := rfl
@[simp] theorem isi_lv {t : String} : isiM t (.lv l) h = (match kitB "list" t with | some b => .ok (.bl b) h | none => .bad) := rfl
@[simp] theorem isi_rl {t : String} : isiM t (.rl l) h = (match kitB "list" t with | some b => .ok (.bl b) h | none => .bad) := rfl
@[simp] theorem kit_ni : kitB "NoneType" "int" = some false := by decide +kernel
@[simp] theorem kit_nt : kitB "NoneType" "tuple" = some false := by decide +kernel
@[simp] theorem kit_ns : kitB "NoneType" "str" = some false := by decide +kernel
@[simp] theorem kit_nb : kitB "NoneType" "bool" = some false := by decide +kernel
@[simp] theorem kit_bi : kitB "bool" "int" = some true := by decide +kernel
@[simp] theorem kit_bb : kitB "bool" "bool" = some true := by decide +kernel
@[simp] theorem kit_bt : kitB "bool" "tuple" = some false := by decide +kernel
@[simp] theorem kit_bs : kitB "bool" "str" = some false := by decide +kernel
@[simp] theorem kit_ii : kitB "int" "int" = some true := by decide +kernel
@[simp] theorem kit_ib : kitB "int" "bool" = some false := by decide +kernel
@[simp] theorem kit_it : kitB "int" "tuple" = some false := by decide +kernel
@[simp] theorem kit_is : kitB "int" "str" = some false := by decide +kernel
@[simp] theorem kit_si : kitB "str" "int" = some false := by decide +kernel
@[simp] theorem kit_sb : kitB "str" "bool" = some false := by decide +kernel
@[simp] theorem kit_st : kitB "str" "tuple" = some false := by decide +kernel
@[simp] theorem kit_ss : kitB "str" "str" = some true := by decide +kernel
@[simp] theorem kit_ti : kitB "tuple" "int" = some false := by decide +kernel
@[simp] theorem kit_tb : kitB "tuple" "bool" = some false := by decide +kernel
@[simp] theorem kit_tt : kitB "tuple" "tuple" = some true := by decide +kernel
@[simp] theorem kit_ts : kitB "tuple" "str" = some false := by decide +kernel
@[simp] theorem kit_li : kitB "list" "int" = some false := by decide +kernel
@[simp] theorem kit_lt : kitB "list" "tuple" = some false := by decide +kernel
@[simp] theorem kit_ls : kitB "list" "str" = some false := by decide +kernel
@[simp] theorem kit_lb : kitB "list" "bool" = some false := by decide +kernel
@[simp] theorem tru_non : truM .non h = .ok false h := rfl
@[simp] theorem tru_bl {b : Bool} : truM (.bl b) h = .ok b h := rfl
@[simp] theorem tru_lv : truM (.lv l) h = .ok (!l.isEmpty) h := rfl
@[simp] theorem tru_tup : truM (.tup l) h = .ok (!l.isEmpty) h := rfl
@[simp] theorem tru_int {i : Int} : truM (.int i) h = .ok (i != 0) h := rfl
/-! truths of a list -/
theorem bls_map {α : Type} (f : α → Bool) : ∀ l : List α, bls (l.map fun a => .bl (f a)) = some (l.map f)
  | [] => rfl
  | a :: l => by simp [bls, bls_map f l]
@[simp] theorem all_lv {α : Type} {f : α → Bool} {l : List α} : all1 (.lv (l.map fun a => .bl (f a))) h = .ok (.bl (l.all f)) h := by
  unfold all1 rlistOf listOf
  simp only [Option.bind_some, bls_map, List.all_map]
  rfl
@[simp] theorem any_lv {α : Type} {f : α → Bool} {l : List α} : any1 (.lv (l.map fun a => .bl (f a))) h = .ok (.bl (l.any f)) h := by
  unfold any1 rlistOf listOf
  simp only [Option.bind_some, bls_map, List.any_map]
  rfl
/-- a number's text -/
def numS (n : Int) : Str := Str.ofString (toString n)
@[simp] theorem str_int' {i : Int} (c : i.natAbs < 1000000000000) : str1 (.int i) h = .ok (.str (numS i)) h := by
  unfold str1; dsimp only; rw [if_pos (log_small (by simpa using c))]; rfl
@[simp] theorem str_str' {x : Str} : str1 (.str x) h = .ok (.str x) h := rfl
theorem len_str {x : Str} (z : x.length ≤ sizeLine) : len1 (.str x) h = .ok (.int x.length) h := by
  unfold len1
  simp only [z, if_true]
/-- the comprehension of a map -/
theorem comp_lv {α : Type} {vs : List Nat} {t : CT} {tt : SD → M Bool} {te : SD → M D} {mi : SD → M Src} {s : SD} {c : DH → Bool} {l : List α} (r : α → D) (f : α → D) (hm : mi s h = .ok (l.map r, c) h) (hc : c h = true) (z : l.length ≤ sizeLine)
    (H : ∀ a ∈ l, ∃ s', bindT t (r a) (wipeD s vs) = some s' ∧ tt s' h = .ok true h ∧ te s' h = .ok (f a) h) : mComp vs t tt te false mi s h = .ok (.lv (l.map f)) h := by
  rw [ev_comp, hm]
  rw [then_ok]
  dsimp only
  have : ∀ l : List α, (∀ a ∈ l, ∃ s', bindT t (r a) (wipeD s vs) = some s' ∧ tt s' h = .ok true h ∧ te s' h = .ok (f a) h) → compR t tt te c (wipeD s vs) (l.map r) h = .ok (l.map f) h := by
    intro l H
    induction l with
    | nil => unfold compR; simp [hc]
    | cons a l ih =>
      obtain ⟨s', e1, e2, e3⟩ := H a (by simp)
      rw [List.map_cons]
      unfold compR
      rw [if_pos hc, e1]
      simp only [e2, e3, ih fun a ha => H a (List.mem_cons_of_mem _ ha), List.map_cons]
  rw [this l H]
  unfold endL
  dsimp only
  rw [List.nil_append]
  exact mkL_f (by rw [List.length_map]; exact z)
/-- .. of a choice -/
theorem comp_lvf {α : Type} {vs : List Nat} {t : CT} {tt : SD → M Bool} {te : SD → M D} {mi : SD → M Src} {s : SD} {c : DH → Bool} {l : List α} (r : α → D) (p : α → Bool) (f : α → D) (hm : mi s h = .ok (l.map r, c) h) (hc : c h = true) (z : l.length ≤ sizeLine)
    (H : ∀ a ∈ l, ∃ s', bindT t (r a) (wipeD s vs) = some s' ∧ tt s' h = .ok (p a) h ∧ (p a = true → te s' h = .ok (f a) h)) : mComp vs t tt te false mi s h = .ok (.lv ((l.filter p).map f)) h := by
  rw [ev_comp, hm]
  rw [then_ok]
  dsimp only
  have : ∀ l : List α, (∀ a ∈ l, ∃ s', bindT t (r a) (wipeD s vs) = some s' ∧ tt s' h = .ok (p a) h ∧ (p a = true → te s' h = .ok (f a) h)) → compR t tt te c (wipeD s vs) (l.map r) h = .ok ((l.filter p).map f) h := by
    intro l H
    induction l with
    | nil => unfold compR; simp [hc]
    | cons a l ih =>
      obtain ⟨s', e1, e2, e3⟩ := H a (by simp)
      have ih := ih fun a ha => H a (List.mem_cons_of_mem _ ha)
      rw [List.map_cons]
      unfold compR
      rw [if_pos hc, e1]
      cases cp : p a with
      | true => rw [cp] at e2; simp only [e2, e3 cp, ih, List.filter_cons_of_pos cp, List.map_cons]
      | false => rw [cp] at e2; rw [List.filter_cons_of_neg (by simp [cp])]; simp only [e2, ih]
  rw [this l H]
  unfold endL
  dsimp only
  rw [List.nil_append]
  refine mkL_f (Nat.le_trans ?_ z)
  rw [List.length_map]
  exact List.length_filter_le _ _
end
end Wy

set_option Elab.async false
set_option linter.all false
set_option maxRecDepth 100000
set_option maxHeartbeats 4000000
namespace Wy
open PySem PySem.Spec PyProof.Rows L2

/-! ### sorting -/
theorem lt_irr (a : PyData) : PySem.W.dataLt a a = false := lex_irrefl _
theorem lt_tr {a b c : PyData} (h : PySem.W.dataLt a b = true) (g : PySem.W.dataLt b c = true) : PySem.W.dataLt a c = true := lex_trans _ _ _ h g
theorem lt_neg {a b c : PyData} (h : PySem.W.dataLt a c = true) : PySem.W.dataLt a b = true ∨ PySem.W.dataLt b c = true := lex_negTrans _ _ _ h
theorem lt_asym {a b : PyData} (h : PySem.W.dataLt a b = true) : PySem.W.dataLt b a = false := by
  cases c : PySem.W.dataLt b a with
  | false => rfl
  | true => have := lt_tr h c; rw [lt_irr] at this; cases this
def leP (a b : PyData) : Bool := !PySem.W.dataLt b a
theorem leP_trans (a b c : PyData) (h : leP a b = true) (g : leP b c = true) : leP a c = true := by
  unfold leP at *
  cases e : PySem.W.dataLt c a with
  | false => rfl
  | true =>
    rcases lt_neg (b := b) e with h1 | h1
    · rw [h1] at g; exact g
    · rw [h1] at h; exact h
theorem leP_total (a b : PyData) : (leP a b || leP b a) = true := by
  unfold leP
  cases e : PySem.W.dataLt b a with
  | false => rfl
  | true => rw [lt_asym e]; rfl
theorem sortP_eq (l : List PyData) : sortP l = l.mergeSort leP := by
  have h : ∀ q ∈ l.zip l, q.1 = q.2 := fun q hq => by
    obtain ⟨i, h1, h2⟩ := List.getElem_of_mem hq
    rw [List.getElem_zip] at h2
    rw [← h2]
  unfold sortP sortZ
  rw [List.map_mergeSort (r := PySem.W.dataLe false (·.2)) (s := leP) (f := Prod.fst)]
  · have : (l.zip l).map (·.1) = l := List.map_fst_zip (Nat.le_refl _)
    rw [this]
  · intro a ha b hb
    rw [h a ha, h b hb]
    rfl
theorem sortP_perm (l : List PyData) : (sortP l).Perm l := by rw [sortP_eq]; exact List.mergeSort_perm _ _
theorem sortP_le (l : List PyData) : (sortP l).Pairwise fun a b => leP a b = true := by
  rw [sortP_eq]
  exact List.pairwise_mergeSort leP_trans leP_total l
theorem sortP_is {l l' : List PyData} (p : l.Perm l') (s : l'.Pairwise fun a b => PySem.W.dataLt a b = true) : sortP l = l' := by
  have p2 : (sortP l).Perm l' := (sortP_perm l).trans p
  refine p2.eq_of_pairwise (le := fun a b => leP a b = true) (fun a b ha hb h1 h2 => ?_) (sortP_le l) (s.imp fun h => by unfold leP; rw [lt_asym h]; rfl)
  have ha := p2.mem_iff.mp ha
  unfold leP at h1 h2
  have : ∀ m : List PyData, (m.Pairwise fun a b => PySem.W.dataLt a b = true) → a ∈ m → b ∈ m → a = b := by
    intro m hm
    induction hm with
    | nil => intro h; simp at h
    | cons hx _ ih =>
      intro h3 h4
      rcases List.mem_cons.mp h3 with h5 | h5 <;> rcases List.mem_cons.mp h4 with h6 | h6
      · rw [h5, h6]
      · rw [← h5] at hx; rw [hx _ h6] at h2; cases h2
      · rw [← h6] at hx; rw [hx _ h5] at h1; cases h1
      · exact ih h5 h6
  exact this l' s ha hb
theorem dataLt_str' {x y : Str} : PySem.W.dataLt (.str x) (.str y) = decide (TL.tl x < TL.tl y) := PySem.W.dataLt_str x y
/-! tuples: by the first parts, where these differ -/
theorem lt_tup_cons {x y : PyData} {xs ys : List PyData} (a : PySem.W.alike x y = true) (n : PyData.eqv x y = false) : PySem.W.dataLt (.tuple (x :: xs)) (.tuple (y :: ys)) = PySem.W.dataLt x y := by
  rw [PySem.W.dataLt_tuple]
  exact PySem.W.dataLt_all_no a n
theorem lt_tup_same {x y : PyData} {xs ys : List PyData} (a : PySem.W.alike x y = true) (n : PyData.eqv x y = true) : PySem.W.dataLt (.tuple (x :: xs)) (.tuple (y :: ys)) = PySem.W.dataLt (.tuple xs) (.tuple ys) := by
  rw [PySem.W.dataLt_tuple, PySem.W.dataLt_tuple]
  exact PySem.W.dataLt_all_yes a n
/-- texts in order -/
def ltS (x y : Str) : Bool := decide (TL.tl x < TL.tl y)
theorem ltS_data {x y : Str} : PySem.W.dataLt (.str x) (.str y) = ltS x y := dataLt_str'
theorem ltS_ne {x y : Str} (h : ltS x y = true) : x ≠ y := fun e => by
  subst e
  rw [← ltS_data, lt_irr] at h
  cases h
theorem ltS_tri {x y : Str} (h : x ≠ y) : ltS x y = true ∨ ltS y x = true := by
  unfold ltS
  simp only [decide_eq_true_eq]
  rcases List.le_total (TL.tl x) (TL.tl y) with c | c
  · rcases List.le_iff_lt_or_eq.mp c with c | c
    · exact .inl c
    · exact absurd (TL.ext_tl c) h
  · rcases List.le_iff_lt_or_eq.mp c with c | c
    · exact .inr c
    · exact absurd (TL.ext_tl c).symm h
theorem alike_str {x y : Str} : PySem.W.alike (.str x) (.str y) = true := by simp [PySem.W.alike]
theorem eqv_str {x y : Str} : PyData.eqv (.str x) (.str y) = decide (x = y) := by simp [PyData.eqv, Bool.beq_eq_decide_eq]
theorem lt_named {x y : Str} {xs ys : List PyData} (h : x ≠ y) : PySem.W.dataLt (.tuple (.str x :: xs)) (.tuple (.str y :: ys)) = ltS x y := by
  rw [lt_tup_cons alike_str (by rw [eqv_str]; exact decide_eq_false h), ltS_data]

/-! ### dicts with texts as keys -/
section
variable {α : Type}
def ents (k : α → Str) (v : α → D) (l : List α) : List (D × D) := l.map fun a => (.str (k a), v a)
theorem prOf_strs (k : α → Str) (v : α → D) : ∀ l : List α, prOf (l.map fun a => .tup [.str (k a), v a]) = some (l.map fun a => ((.inr (k a) : Key), D.str (k a), v a))
  | [] => rfl
  | a :: l => by
    rw [List.map_cons, List.map_cons]
    show (match toKey (D.str (k a)), prOf (l.map fun a => D.tup [.str (k a), v a]) with
      | some kk, some q => some ((kk, D.str (k a), v a) :: q)
      | _, _ => none) = _
    rw [prOf_strs k v l]
    rfl
theorem dlook_ents (k : α → Str) (v : α → D) (x : Str) : ∀ l : List α, dlook toKey (.inr x) (ents k v l) = (l.find? fun a => decide (k a = x)).map v
  | [] => rfl
  | a :: l => by
    unfold ents
    rw [List.map_cons]
    unfold dlook
    have e : (toKey (D.str (k a)) = some (.inr x)) ↔ k a = x := by simp [toKey]
    by_cases c : k a = x
    · rw [if_pos (e.mpr c), List.find?_cons_of_pos (by simpa using c)]; rfl
    · rw [if_neg (fun h => c (e.mp h)), List.find?_cons_of_neg (by simpa using c)]
      exact dlook_ents k v x l
theorem find_none {k : α → Str} {x : Str} {l : List α} (h : ∀ a ∈ l, k a ≠ x) : (l.find? fun a => decide (k a = x)) = none := by
  rw [List.find?_eq_none]
  intro a ha
  simpa using h a ha
theorem find_nodup {k : α → Str} {a : α} : ∀ {l : List α}, (l.map k).Nodup → a ∈ l → (l.find? fun b => decide (k b = k a)) = some a
  | [], _, h => by simp at h
  | b :: l, n, h => by
    rw [List.map_cons, List.nodup_cons] at n
    rcases List.mem_cons.mp h with rfl | h
    · rw [List.find?_cons_of_pos (by simp)]
    · rw [List.find?_cons_of_neg (by
        simp only [decide_eq_true_eq]
        exact fun e => n.1 (e ▸ List.mem_map_of_mem h))]
      exact find_nodup n.2 h
theorem put_ents (k : α → Str) (v : α → D) {l : List α} {x : Str} {w : D} (h : ∀ a ∈ l, k a ≠ x) : dput toKey (.inr x) (.str x) w (ents k v l) = ents k v l ++ [(.str x, w)] := by
  unfold dput
  rw [dlook_ents, find_none h]
  rfl
theorem mrg_ents (k : α → Str) (v : α → D) : ∀ (l m : List α), ((m ++ l).map k).Nodup → mrgD (ents k v m) (l.map fun a => ((.inr (k a) : Key), D.str (k a), v a)) = ents k v (m ++ l)
  | [], m, _ => by simp [mrgD]
  | a :: l, m, n => by
    rw [List.map_cons]
    unfold mrgD
    rw [List.foldl_cons]
    dsimp only
    have hn : ∀ b ∈ m, k b ≠ k a := fun b hb e => by
      rw [List.map_append, List.nodup_append] at n
      exact n.2.2 (k b) (List.mem_map_of_mem hb) (k a) (by simp) e
    rw [put_ents k v hn]
    have : ents k v m ++ [(D.str (k a), v a)] = ents k v (m ++ [a]) := by simp [ents]
    rw [this]
    have := mrg_ents k v l (m ++ [a]) (by simpa using n)
    unfold mrgD at this
    rw [this]
    simp
/-- dict(pairs) -/
theorem dict_tup (k : α → Str) (v : α → D) {l : List α} {h : DH} (n : (l.map k).Nodup) : dict1 false (.tup (l.map fun a => .tup [.str (k a), v a])) h = .ok (.dv false (l.map fun a => .str (k a)) (l.map v)) h := by
  unfold dict1
  have e : seqOf h (.tup (l.map fun a => D.tup [.str (k a), v a])) = some (l.map fun a => .tup [.str (k a), v a]) := rfl
  rw [e]
  dsimp only
  rw [prOf_strs]
  dsimp only
  have := mrg_ents k v l [] (by simpa using n)
  rw [show ents k v [] = [] from rfl, List.nil_append] at this
  rw [this]
  unfold mkD ents
  simp [List.map_map, Function.comp_def]
theorem dictOf_dv (k : α → Str) (v : α → D) {l : List α} {h : DH} : dictOf h (.dv false (l.map fun a => .str (k a)) (l.map v)) = some (false, ents k v l) := by
  have : ∀ l : List α, (l.map fun a => D.str (k a)).zip (l.map v) = l.map fun a => (D.str (k a), v a) := fun l => by
    induction l with
    | nil => rfl
    | cons a l ih => simp [ih]
  unfold dictOf ents
  dsimp only
  rw [this]
theorem dget_ents {k : α → Str} {v : α → D} {l : List α} {h : DH} {d : D} (e : dictOf h d = some (false, ents k v l)) (x : Str) : dGet h d (.str x) = some ((l.find? fun a => decide (k a = x)).map v) := by
  unfold dGet
  rw [e]
  dsimp only
  show (some (.inr x) : Option Key).map _ = _
  rw [Option.map_some, dlook_ents]
theorem in_ents {k : α → Str} {v : α → D} {l : List α} {h : DH} {d : D} {neg : Bool} (e : dictOf h d = some (false, ents k v l)) (ns : ∀ x, d ≠ .str x) (x : Str) : inM neg (.str x) d h = .ok (.bl (neg ^^ l.any fun a => decide (k a = x))) h := by
  unfold inM inQ
  have g := dget_ents e x
  have a : (l.find? fun a => decide (k a = x)).isSome = l.any fun a => decide (k a = x) := by
    rw [Bool.eq_iff_iff, List.find?_isSome]
    simp
  cases d <;> first | exact absurd rfl (ns _) | (simp only [e, g, Option.map_some, Option.isSome_map, a])
theorem ix_ents {k : α → Str} {v : α → D} {l : List α} {h : DH} {d : D} {a : α} (e : dictOf h d = some (false, ents k v l)) (n : (l.map k).Nodup) (ha : a ∈ l) : ixA d (.str (k a)) h = .ok (v a) h := by
  unfold ixA
  rw [e]
  dsimp only
  rw [dget_ents e, find_nodup n ha]
  rfl
theorem dictOf_ref {n : Nat} {h : DH} {tk : Bool} {kvs : List (D × D)} (e : h[n]? = some (.dct tk kvs)) : dictOf h (.ref n) = some (tk, kvs) := by
  unfold dictOf
  simp only [e]
theorem set_dct {n : Nat} {h : DH} {k : α → Str} {v : α → D} {l : List α} {x : Str} {w : D} (e : h[n]? = some (.dct false (ents k v l))) (z : l.length < sizeLine) (f : ∀ a ∈ l, k a ≠ x) : setM (.ref n) (.str x) w h = .ok () (h.set n (.dct false (ents k v l ++ [(.str x, w)]))) := by
  have ek : toKey (.str x) = some (.inr x) := rfl
  unfold setM
  simp only [e, ek]
  rw [if_pos (by unfold ents; rw [List.length_map]; exact z), put_ents k v f]
end
end Wy

set_option Elab.async false
set_option linter.all false
set_option maxRecDepth 100000
set_option maxHeartbeats 4000000
namespace Wy
open PySem PySem.Spec PyProof.Rows L2

/-! ### loops as folds; exceptions of a def -/
section
variable {α β : Type} {g : D → SD → M SD} {body : SD → M Fl} {chk : DH → Bool} {r : α → D} {st : β → α → Option β} {I : β → SD → DH → Prop} {R : DH → Prop} {C : Str}
theorem loop_foldM (hc : ∀ b s h, I b s h → chk h = true) : ∀ (l : List α) (step : ∀ b, ∀ a ∈ l, ∀ s h, I b s h → ∃ s1 h1, g (r a) s h = .ok s1 h1 ∧
      ((∃ b', st b a = some b' ∧ ∃ s2 h2, (body s1 h1 = .ok (.nx s2) h2 ∨ body s1 h1 = .ok (.ct s2) h2) ∧ I b' s2 h2) ∨ (st b a = none ∧ ∃ h2, body s1 h1 = .ex C [] h2 ∧ R h2))) (b : β) (s : SD) (h : DH), I b s h →
    (∃ b', l.foldlM st b = some b' ∧ ∃ s' h', loopM g body chk (l.map r) s h = .ok (.nx s') h' ∧ I b' s' h') ∨ (l.foldlM st b = none ∧ ∃ h', loopM g body chk (l.map r) s h = .ex C [] h' ∧ R h')
  | [], _, b, s, h, i => .inl ⟨b, rfl, s, h, by rw [List.map_nil]; unfold loopM; rw [if_pos (hc b s h i)], i⟩
  | a :: l, step, b, s, h, i => by
    obtain ⟨s1, h1, e1, q⟩ := step b a (by simp) s h i
    have ih := loop_foldM hc l fun b a ha => step b a (List.mem_cons_of_mem _ ha)
    rw [List.map_cons, List.foldlM_cons]
    unfold loopM
    rw [if_pos (hc b s h i), e1]
    dsimp only
    rcases q with ⟨b', eb, s2, h2, e2, i2⟩ | ⟨eb, h2, e2, r2⟩
    · have ih := ih b' s2 h2 i2
      rw [eb]
      rcases e2 with e2 | e2
      · rw [e2]; exact ih
      · rw [e2]; exact ih
    · rw [eb, e2]
      exact .inr ⟨rfl, h2, rfl, r2⟩
theorem loop_foldl {st : β → α → β} (hc : ∀ b s h, I b s h → chk h = true) (l : List α) (step : ∀ b, ∀ a ∈ l, ∀ s h, I b s h → ∃ s1 h1, g (r a) s h = .ok s1 h1 ∧ ∃ s2 h2, (body s1 h1 = .ok (.nx s2) h2 ∨ body s1 h1 = .ok (.ct s2) h2) ∧ I (st b a) s2 h2) (b : β) (s : SD) (h : DH) (i : I b s h) :
    ∃ s' h', loopM g body chk (l.map r) s h = .ok (.nx s') h' ∧ I (l.foldl st b) s' h' := by
  induction l generalizing b s h with
  | nil => exact ⟨s, h, by rw [List.map_nil]; unfold loopM; rw [if_pos (hc b s h i)], i⟩
  | cons a l ih =>
    obtain ⟨s1, h1, e1, s2, h2, e2, i2⟩ := step b a (by simp) s h i
    obtain ⟨s', h', e3, i3⟩ := ih (fun b a ha => step b a (List.mem_cons_of_mem _ ha)) _ s2 h2 i2
    refine ⟨s', h', ?_, i3⟩
    rw [List.map_cons]
    unfold loopM
    rw [if_pos (hc b s h i), e1]
    dsimp only
    rcases e2 with e2 | e2
    · rw [e2]; exact e3
    · rw [e2]; exact e3
end
theorem den_ex {z : Bool} {n : Nat} {m : SD → M Fl} {ds : List D} {h h' g : DH} {C : Str} (e : m (slots0 n ds) h = .ex C [] (h' ++ g)) (pu : Pur h') (l : h'.length = h.length) : den z n m ds h = .ex C [] h' := by
  have t : (h' ++ g).take h.length = h' := by rw [← l]; simp
  unfold den cutZ
  rw [bind_ap, e]
  dsimp only
  rw [t, if_pos ⟨pu.all, by simp; omega, by simp [D.unders]⟩]
theorem den_non {z : Bool} {n : Nat} {m : SD → M Fl} {ds : List D} {h h' g : DH} {s : SD} (e : m (slots0 n ds) h = .ok (.nx s) (h' ++ g)) (pu : Pur h') (l : h'.length = h.length) : den z n m ds h = .ok .non h' := by
  have t : (h' ++ g).take h.length = h' := by rw [← l]; simp
  have := den_none (z := z) e (by rw [t]; exact pu) (by simp; omega)
  rw [t] at this
  exact this

/-! ### lists of texts; data in lists -/
theorem ofPs_strs (l : List Str) : ofPs (l.map .str) = l.map D.str := by
  rw [ofPs_map, List.map_map]
  exact List.map_congr_left fun a _ => rfl
theorem depth_strs (l : List Str) : PyData.depthAll (l.map .str) ≤ 1 := depthAll_le fun p hp => by
  obtain ⟨x, _, rfl⟩ := List.mem_map.mp hp
  simp [PyData.depth]
theorem eqvAll_strs : ∀ l m : List Str, PyData.eqvAll (l.map .str) (m.map .str) = decide (l = m)
  | [], [] => by simp [PyData.eqvAll]
  | [], _ :: _ => by simp [PyData.eqvAll]
  | _ :: _, [] => by simp [PyData.eqvAll]
  | x :: l, y :: m => by
    simp only [List.map_cons, PyData.eqvAll, eqvAll_strs l m, eqv_str]
    by_cases c : x = y <;> simp [c]
theorem lay_strs {l : List Str} (h : ∀ x ∈ l, PyData.strOk x = true) : PyData.canLayAll0 (l.map .str) = true := lays_iff.mpr fun p hp => by
  obtain ⟨x, hx, rfl⟩ := List.mem_map.mp hp
  simpa [PyData.canLay0] using h x hx
theorem eq_strs {neg : Bool} {l m : List Str} {h : DH} (hl : ∀ x ∈ l, PyData.strOk x = true) (hm : ∀ x ∈ m, PyData.strOk x = true) : eqM neg (.lv (l.map .str)) (.lv (m.map .str)) h = .ok (.bl (if neg then !decide (l = m) else decide (l = m))) h := by
  have d1 := depth_strs l
  have d2 := depth_strs m
  have := eq_ofP (neg := neg) (h := h) (p := .list (l.map .str)) (q := .list (m.map .str)) (by simp only [PyData.canLay0]; exact lay_strs hl) (by simp only [PyData.canLay0]; exact lay_strs hm) (by simp only [PyData.depth]; omega) (by simp only [PyData.depth]; omega)
  simp only [ofP, ofPs_strs] at this
  rw [this]
  simp only [PyData.eqv, eqvAll_strs]
theorem in_lvP {neg : Bool} {h : DH} {l : List PyData} {p : PyData} (c : PyData.canLayAll0 l = true) (f : p.canLay0 = true) (z : PyData.depthAll l ≤ 60) (z' : p.depth ≤ 64) :
    inM neg (ofP p) (.lv (ofPs l)) h = .ok (.bl (neg ^^ l.any fun x => PyData.eqv x p)) h :=
  in_list (by
    show (toPG.toPGs _ (ofPs l)).map PyData.list = _
    rw [toPGs_ofP l c]; rfl) (toP_pur f) rfl (fun _ h => by cases h) (by simp only [PyData.depth]; omega) z'
theorem eqvAll_ints : ∀ l m : List Int, PyData.eqvAll (l.map .int) (m.map .int) = decide (l = m)
  | [], [] => by simp [PyData.eqvAll]
  | [], _ :: _ => by simp [PyData.eqvAll]
  | _ :: _, [] => by simp [PyData.eqvAll]
  | x :: l, y :: m => by
    have e : PyData.eqv (.int x) (.int y) = decide (x = y) := by simp [PyData.eqv, Bool.beq_eq_decide_eq]
    simp only [List.map_cons, PyData.eqvAll, eqvAll_ints l m, e]
    by_cases c : x = y <;> simp [c]
@[simp] theorem mkL_nil {h : DH} : mkL false [] h = .ok (.lv []) h := mkL_f (Nat.zero_le _)
@[simp] theorem mkL_new {h : DH} : mkL true [] h = .ok (.ref h.length) (h ++ [.lst []]) := mkL_t (Nat.zero_le _)
theorem wipe0 {s : SD} : wipeD s [] = s := rfl
end Wy

set_option Elab.async false
set_option linter.all false
set_option maxRecDepth 100000
set_option maxHeartbeats 4000000
namespace Wy
open PySem PySem.Spec PyProof.Rows L2

/-! ### slices, ranges, sorted texts -/
theorem cutD_to {l : List D} {m : Int} (a : 0 ≤ m) : cutD l none (some m) = l.take m.toNat := by
  obtain ⟨k, rfl⟩ := Int.eq_ofNat_of_zero_le a
  unfold cutD
  rw [HT.sIx_none, HT.sIx_nat, List.drop_zero, Nat.sub_zero, Int.toNat_natCast]
  rcases Nat.le_total k l.length with h | h
  · rw [Nat.min_eq_left h]
  · rw [Nat.min_eq_right h, List.take_length, List.take_of_length_le h]
theorem cutD_from {l : List D} {m : Int} (a : 0 ≤ m) : cutD l (some m) none = l.drop m.toNat := by
  obtain ⟨k, rfl⟩ := Int.eq_ofNat_of_zero_le a
  unfold cutD
  rw [HT.sIx_none, HT.sIx_nat, Int.toNat_natCast]
  rcases Nat.le_total k l.length with h | h
  · rw [Nat.min_eq_left h, ← List.length_drop, List.take_length]
  · rw [Nat.min_eq_right h, Nat.sub_self, List.take_zero, List.drop_eq_nil_of_le h]
theorem sl_to {l : List D} {m : Int} {h : DH} (a : 0 ≤ m) (z : l.length ≤ sizeLine) : slM false (.lv l) none (some m) h = .ok (.lv (l.take m.toNat)) h := by
  show mkL false (cutD l none (some m)) h = _
  rw [cutD_to a]
  exact mkL_f (Nat.le_trans (List.length_take_le' ..) z)
theorem sl_from {l : List D} {m : Int} {h : DH} (a : 0 ≤ m) (z : l.length ≤ sizeLine) : slM false (.lv l) (some m) none h = .ok (.lv (l.drop m.toNat)) h := by
  show mkL false (cutD l (some m) none) h = _
  rw [cutD_from a]
  exact mkL_f (by rw [List.length_drop]; omega)
theorem slt_to {l : List D} {m : Int} {h : DH} {mt : Bool} (a : 0 ≤ m) : slM mt (.tup l) none (some m) h = .ok (.tup (l.take m.toNat)) h := by
  show Re.ok (D.tup (cutD l none (some m))) h = _
  rw [cutD_to a]
theorem slt_from {l : List D} {m : Int} {h : DH} {mt : Bool} (a : 0 ≤ m) : slM mt (.tup l) (some m) none h = .ok (.tup (l.drop m.toNat)) h := by
  show Re.ok (D.tup (cutD l (some m) none)) h = _
  rw [cutD_from a]
theorem count0 (n : Nat) : count 0 n = (List.range n).map fun i => D.int (i : Nat) := by
  unfold count
  refine List.map_congr_left fun i _ => ?_
  rw [Int.zero_add]
theorem rng0 {j : Int} {h : DH} (f : fine j) : rngSrc [.int j] h = .ok ((List.range j.toNat).map fun i => D.int (i : Nat), fun _ => true) h := by rw [rng_ok f, count0]
theorem numbered_map {α : Type} (r : α → D) (l : List α) : numbered (l.map r) = l.zipIdx.map fun p => D.tup [.int (p.2 : Nat), r p.1] := by
  unfold numbered
  rw [List.zipIdx_map, List.map_map]
  rfl
/-- texts, sorted -/
def sortS (l : List Str) : List Str := l.mergeSort fun a b => !ltS b a
theorem sort_strs (l : List Str) : sortP (l.map .str) = (sortS l).map .str := by
  rw [sortP_eq]
  refine (List.map_mergeSort (r := fun a b => !ltS b a) (s := leP) (f := PyData.str) fun a _ b _ => ?_).symm
  unfold leP
  rw [ltS_data]
theorem sorted_strs {l : List Str} {h : DH} (s : ∀ x ∈ l, PyData.strOk x = true) (z : l.length ≤ sizeLine) : sorted1 false (.lv (l.map .str)) h = .ok (.lv ((sortS l).map .str)) h := by
  have al : allAlike (l.map .str) = true := by
    unfold allAlike
    rw [List.all_eq_true]
    intro a ha
    rw [List.all_eq_true]
    intro b hb
    obtain ⟨a', _, rfl⟩ := List.mem_map.mp ha
    obtain ⟨b', _, rfl⟩ := List.mem_map.mp hb
    exact alike_str
  have so : sortable (l.map .str) = true := by
    unfold sortable
    rw [Bool.or_eq_true, List.all_eq_true, List.all_eq_true]
    refine .inr fun a ha => ?_
    obtain ⟨a', _, rfl⟩ := List.mem_map.mp ha
    rfl
  have dp : PyData.depthAll (l.map .str) ≤ 64 := Nat.le_trans (depth_strs l) (by decide)
  unfold sorted1 rlistOf listOf
  rw [← ofPs_strs]
  dsimp only
  rw [toPs_ofPs (lay_strs s)]
  dsimp only
  rw [if_pos ⟨al, so, dp⟩, ofPs_map, sortZ_map]
  show mkL false ((sortP (l.map .str)).map ofP) h = _
  rw [sort_strs, ← ofPs_map, ofPs_strs]
  refine mkL_f ?_
  unfold sortS
  rw [List.length_map, List.length_mergeSort]
  exact z
theorem sortS_perm (l : List Str) : (sortS l).Perm l := List.mergeSort_perm _ _
theorem leS_trans (a b c : Str) (h : (!ltS b a) = true) (g : (!ltS c b) = true) : (!ltS c a) = true := by
  rw [← ltS_data] at *
  exact leP_trans (.str a) (.str b) (.str c) h g
theorem leS_total (a b : Str) : ((!ltS b a) || (!ltS a b)) = true := by
  rw [← ltS_data, ← ltS_data]
  exact leP_total (.str a) (.str b)
/-- unlike texts, sorted, rise -/
def Rises (l : List Str) : Prop := l.Pairwise fun a b => ltS a b = true
theorem sortS_rises {l : List Str} (n : l.Nodup) : Rises (sortS l) := by
  have p : (sortS l).Pairwise fun a b => (!ltS b a) = true := List.pairwise_mergeSort leS_trans leS_total l
  have n2 : (sortS l).Nodup := (sortS_perm l).nodup_iff.mpr n
  refine (p.and n2).imp fun h => ?_
  rcases ltS_tri h.2 with c | c
  · exact c
  · have := h.1
    rw [c] at this
    cases this
theorem Rises.nodup {l : List Str} (h : Rises l) : l.Nodup := h.imp fun h => ltS_ne h
theorem Rises.sorted {l : List Str} (h : Rises l) : sortS l = l := by
  have a : sortP (l.map .str) = l.map .str := sortP_is (List.Perm.refl _) (by
    rw [List.pairwise_map]
    exact h.imp fun h => by rw [ltS_data]; exact h)
  rw [sort_strs] at a
  exact (List.map_inj_right fun x y h => by cases h; rfl).mp a
/-- two choices of a list by its rest -/
theorem sel2 {α : Type} {a b : α} {i : Int} : atI [a, b] (i % 2) = some (if i % 2 = 0 then a else b) := by
  have : i % 2 = 0 ∨ i % 2 = 1 := by omega
  rcases this with c | c
  · rw [c]; rfl
  · rw [c]; rfl
theorem mkL_two {a b : D} {h : DH} : mkL false [a, b] h = .ok (.lv [a, b]) h := mkL_f (show 2 ≤ sizeLine by decide)
theorem le_size {n : Nat} (h : n ≤ 1000000) : n ≤ sizeLine := Nat.le_trans h (by decide)
theorem lt_size {n : Nat} (h : n < 1000000) : n < sizeLine := Nat.lt_of_lt_of_le h (by decide)
/-! ### loops by what is behind -/
section
variable {α : Type} {g : D → SD → M SD} {body : SD → M Fl} {chk : DH → Bool} {r : α → D}
theorem loop_gen (J : List α → SD → DH → Prop) (R : List α → α → D → DH → Prop) (E : List α → α → Str → DH → Prop) (B : List α → α → SD → DH → Prop) (hc : ∀ pre s h, J pre s h → chk h = true) (l : List α)
    (step : ∀ pre a suf, l = pre ++ a :: suf → ∀ s h, J pre s h → ∃ s1 h1, g (r a) s h = .ok s1 h1 ∧
      ((∃ s2 h2, (body s1 h1 = .ok (.nx s2) h2 ∨ body s1 h1 = .ok (.ct s2) h2) ∧ J (pre ++ [a]) s2 h2) ∨ (∃ v h2, body s1 h1 = .ok (.rt v) h2 ∧ R pre a v h2) ∨ (∃ C h2, body s1 h1 = .ex C [] h2 ∧ E pre a C h2) ∨ (∃ s2 h2, body s1 h1 = .ok (.bk s2) h2 ∧ B pre a s2 h2))) :
    ∀ (suf pre : List α), l = pre ++ suf → ∀ s h, J pre s h → (∃ s' h', loopM g body chk (suf.map r) s h = .ok (.nx s') h' ∧ J l s' h') ∨ ∃ p a q, l = p ++ a :: q ∧ ((∃ v h', loopM g body chk (suf.map r) s h = .ok (.rt v) h' ∧ R p a v h') ∨ (∃ C h', loopM g body chk (suf.map r) s h = .ex C [] h' ∧ E p a C h') ∨ (∃ s' h', loopM g body chk (suf.map r) s h = .ok (.nx s') h' ∧ B p a s' h'))
  | [], pre, e, s, h, j => .inl ⟨s, h, by rw [List.map_nil]; unfold loopM; rw [if_pos (hc pre s h j)], by rw [e, List.append_nil]; exact j⟩
  | a :: suf, pre, e, s, h, j => by
    obtain ⟨s1, h1, e1, q⟩ := step pre a suf e s h j
    have ih := loop_gen J R E B hc l step suf (pre ++ [a]) (by rw [e]; simp)
    rw [List.map_cons]
    unfold loopM
    rw [if_pos (hc pre s h j), e1]
    dsimp only
    rcases q with ⟨s2, h2, e2 | e2, j2⟩ | ⟨v, h2, e2, r2⟩ | ⟨C, h2, e2, r2⟩ | ⟨s2, h2, e2, r2⟩
    · rw [e2]; exact ih s2 h2 j2
    · rw [e2]; exact ih s2 h2 j2
    · rw [e2]; exact .inr ⟨pre, a, suf, e, .inl ⟨v, h2, rfl, r2⟩⟩
    · rw [e2]; exact .inr ⟨pre, a, suf, e, .inr (.inl ⟨C, h2, rfl, r2⟩)⟩
    · rw [e2]; exact .inr ⟨pre, a, suf, e, .inr (.inr ⟨s2, h2, rfl, r2⟩)⟩
theorem loop_pre (J : List α → SD → DH → Prop) (hc : ∀ pre s h, J pre s h → chk h = true) (l : List α)
    (step : ∀ pre a suf, l = pre ++ a :: suf → ∀ s h, J pre s h → ∃ s1 h1, g (r a) s h = .ok s1 h1 ∧ ∃ s2 h2, (body s1 h1 = .ok (.nx s2) h2 ∨ body s1 h1 = .ok (.ct s2) h2) ∧ J (pre ++ [a]) s2 h2) (s : SD) (h : DH) (j : J [] s h) :
    ∃ s' h', loopM g body chk (l.map r) s h = .ok (.nx s') h' ∧ J l s' h' := by
  rcases loop_gen J (fun _ _ _ _ => False) (fun _ _ _ _ => False) (fun _ _ _ _ => False) hc l (fun pre a suf e s h j => by
    obtain ⟨s1, h1, e1, q⟩ := step pre a suf e s h j
    exact ⟨s1, h1, e1, .inl q⟩) l [] rfl s h j with q | ⟨_, _, _, _, ⟨_, _, _, q⟩ | ⟨_, _, _, q⟩ | ⟨_, _, _, q⟩⟩
  · exact q
  · exact q.elim
  · exact q.elim
  · exact q.elim
end
theorem lst_under {n : Nat} {l : List D} (h : ∀ d ∈ l, d.under n = true) : Ob.under n (.lst l) = true := by
  show D.unders n l = true
  induction l with
  | nil => simp [D.unders]
  | cons a l ih => simp only [D.unders, h a (by simp), ih fun d hd => h d (List.mem_cons_of_mem _ hd), Bool.and_self]
theorem pre_lt {α : Type} {l pre suf : List α} {a : α} (e : l = pre ++ a :: suf) : pre.length < l.length := by
  rw [e, List.length_append, List.length_cons]
  omega
theorem pre_mem {α : Type} {l pre suf : List α} {a : α} (e : l = pre ++ a :: suf) : a ∈ l := by
  rw [e]; simp
end Wy

set_option Elab.async false
set_option linter.all false
set_option maxRecDepth 100000
set_option maxHeartbeats 4000000
namespace Wy
open PySem PySem.Spec PyProof.Rows L2

/-! ### except X as e: v = e — the exception stays in hand -/
section
variable {X : Cx} {pins : List (Addr × Obj)} {σ : L2.St} {H : Hp} {s : Shared}
/-- a thing that came behind the entry and that nobody tracks is tracked from now on -/
theorem inv_track {a : Addr} {cls : Value} {d : Option Addr} {o : Obj} {vs : Array Value} (I : Inv X pins σ H s) (n0 : X.s_0.heap.get? a = none) (na : H a = none) (e : s.heap.get? a = some o) (z : Zc cls d o) (f : o.data = .fields vs) (nL : a ≠ X.env.locals)
    (np : ∀ p ∈ X.pn ++ pins, p.1 ≠ a) : Inv X pins σ (upd H a (ExV cls d a)) s := by
  have ne : ∀ {b : Addr} {u : HO}, H b = some u → upd H a (ExV cls d a) b = some u := fun {b u} q => by rw [upd_ne (ne_of_none q na)]; exact q
  have hk := HOk.laidN I.hok (a := a) (o := ExV cls d a) (h' := s.heap) (fun _ _ q => q) na (exV_ok e z f)
  refine { I with base := { I.base with free := fun b u q h0 hx => ?_, tups := fun b xs q => ne (I.base.tups b xs q), frzs := fun b u v q => ne (I.base.frzs b u v q), tbls := fun b ps q => ?_ }, free := ?_, freeC := fun x c q => ?_, pin := fun p hp => ?_, hok := hk }
  · have : b ≠ a := fun z => by rw [z, n0] at q; cases q
    rw [upd_ne this]
    exact I.base.free b u q h0 hx
  · obtain ⟨more, q2⟩ := I.base.tbls b ps q
    exact ⟨more, ne q2⟩
  · rw [upd_ne (Ne.symm nL)]; exact I.free
  · have : c ≠ a := fun z => by
      obtain ⟨v, hv⟩ := I.cell x c q
      obtain ⟨o', e1, e2⟩ := hv
      rw [z, e] at e1
      cases e1
      rw [f] at e2
      cases e2
    rw [upd_ne this]
    exact I.freeC x c q
  · obtain ⟨p1, p2, p3⟩ := I.pin p hp
    exact ⟨p1, by rw [upd_ne (np p hp)]; exact p2, p3⟩
end

/-- what the clause wishes: behind its suite the exception stands in the heap -/
def wKeep (K : PySem.W.Frag) (c : Value) (i : Nat) (ts : Addr → Value → Option Addr → TS) (Wout : WX) (D : Ends) : WX := fun cls d σ H =>
  ∃ b, PySem.W.exmOne K cls c = some b ∧ (b = false → Wout cls d σ H) ∧
    (b = true → ∀ a, H a = none → ts a cls d { nx := fun σ' H' => H' a = none → D.nx (σ'.set i none) (upd H' a (ExV cls d a)), rt := fun _ _ => False, bk := fun _ _ => False, ct := fun _ _ => False } (σ.set i (some (.ref a))) H)
section
variable {X : Cx} {x n : Str} {c : Value} {i : Nat} {body suite : List Stmt} {b₀ : Stmt} {np pos pos' : Pos} {tb : WX → TS} {ts : Addr → Value → Option Addr → TS} {Wout : WX}
theorem ps_try_keep (hs : X.stack = X.env :: X.outer) (hf : X.env.frame = some X.env.locals) (hN : X.N.Nodup) (hi : X.N[i]? = some n) (hln : X.env.kindOf n = some .local) (hex : X.ex = []) (hc : Names X x c) (tk : Takes X Wout)
    (hb : ∀ (W : WX) (pn : List (Addr × Obj)) (xe : Value → Shared → Prop), Takes (X.tr pn xe) W → PSs (X.tr pn xe) body (tb W))
    (hsu : ∀ (a : Addr) (pn : List (Addr × Obj)) (cls : Value) (d : Option Addr), PSs (X.suite a pn) (b₀ :: suite) (ts a cls d)) :
    PS X (.Try body [.ExceptHandler (some (.Name x np)) (some n) (b₀ :: suite) pos'] [] [] pos) (fun D σ H => tb (wKeep X.K c i ts Wout D) D σ H) := by
  refine ⟨fun pins s σ H D I h => wpAny_Try_except ?_⟩
  have okX := I.ok
  have fr : X.A.frames = some (X.env :: X.outer) := okX.frames.trans (by rw [hs])
  have ran := (hb (wKeep X.K c i ts Wout D) (X.pn ++ pins) (fun e s1 => wpAny (model X.prog X.w) X.A (noteFrame e X.env) (fun _ s2 => wpAny (model X.prog X.w) X.A (setFlight e none)
    (fun _ s3 => wpAny (model X.prog X.w) X.A (handleBy e X.env [.ExceptHandler (some (.Name x np)) (some n) (b₀ :: suite) pos']) (SP X pins D) X.xe s3) X.xe s2) X.xe s1) (fun e sx air => ?_)).run [] s σ H D (I.toTry _) h
  · refine wpAny_mono ran (fun fl s1 end1 => ?_) fun e s1 q => q
    cases fl with
    | ret u =>
      obtain ⟨v1, σ1, H1, I1, rel1, q1⟩ := end1
      exact ⟨v1, σ1, H1, I1.ofTry okX, rel1, q1⟩
    | next =>
      obtain ⟨σ1, H1, I1, q1⟩ := end1
      exact wpAny_execs_nil ⟨σ1, H1, I1.ofTry okX, q1⟩
    | brk =>
      obtain ⟨σ1, H1, I1, q1⟩ := end1
      exact ⟨σ1, H1, I1.ofTry okX, q1⟩
    | cont =>
      obtain ⟨σ1, H1, I1, q1⟩ := end1
      exact ⟨σ1, H1, I1.ofTry okX, q1⟩
  · -- what is raised
    obtain ⟨a, B, s0, pn0, σ0, H0, cls, d, eu, I0', nb, up0, sky, na, os0, ag0, b, exm, wNo, wYes⟩ := air
    subst eu
    have I0 : Inv X pins σ0 H0 s0 := I0'.ofTry okX
    show wpAny (model X.prog X.w) X.A (noteFrame (.ref a) X.env) _ _ _
    refine Sky.land Zc.steady fr hf (show Sky B (X.env :: X.outer) a (Zc cls d) X.env.locals sx.heap by rw [← hs]; exact sky) fun g fg upg => ?_
    have landed : ∀ {g' : Heap}, HandSPX.FlyingZ B (X.env :: X.outer) a (Zc cls d) g' → sx.heap.UpToSlots g' → Inv X pins σ0 H0 { sx with heap := g' } := fun fl u => I0.landed nb fl.1 (up0.trans u) os0 ag0
    have frame_no : ∀ {g' : Heap}, HandSPX.FlyingZ B (X.env :: X.outer) a (Zc cls d) g' → a ∉ frs (X.env :: X.outer) := fun {g'} fl mem => by
      obtain ⟨_, _, ff, o1, v1, _, _, _, g1, _, dd1, _⟩ := fl
      obtain ⟨_, o2, g2, no2⟩ := ff.mem mem
      rw [g1] at g2
      cases g2
      exact no2 _ dd1
    have nfr := frame_no fg
    have nL : a ≠ X.env.locals := fun z => nfr (List.mem_filterMap.mpr ⟨X.env, List.mem_cons_self, by rw [hf, z]⟩)
    have nF : a ∉ X.fs := fun mem => by
      obtain ⟨e1, m1, q1⟩ := List.mem_filterMap.mp mem
      exact nfr (List.mem_filterMap.mpr ⟨e1, List.mem_cons_of_mem _ m1, q1⟩)
    have none0 : s0.heap.get? a = none := by
      cases q : s0.heap.get? a with
      | none => rfl
      | some o =>
        have inB := nb a o q (by rw [hs]; exact nfr)
        have : B.get? a = none := fg.2.1
        rw [this] at inB
        cases inB
    have noneE : X.s_0.heap.get? a = none := by
      cases q : X.s_0.heap.get? a with
      | none => rfl
      | some o =>
        obtain ⟨o', q'⟩ := I0.base.there a o q (by rw [hex]; exact List.not_mem_nil)
        rw [none0] at q'
        cases q'
    have npin : ∀ p ∈ X.pn ++ pins, p.1 ≠ a := fun p hp z => by
      have := (I0.pin p hp).1
      rw [z, none0] at this
      cases this
    obtain ⟨_, _, _, o1, v1, _, _, _, at1, z1, f1, _⟩ := id fg
    have J1 := landed fg upg
    have S1 := J1.suite at1 f1 na nL nF
    refine wpAny_handleBy_cons (codeAny_handlers_test ?_) (by intro q; cases q)
    have looks : PySem.W.Looks (model X.prog X.w) g (typeOf (.ref a)) cls := fun A Q E s k q => wpAny_typeOf_ref (k _ _ at1) (by rw [z1.1]; exact q)
    have named : ∀ {Q E : Value → Shared → Prop}, Q c { sx with heap := g } → wpAny (model X.prog X.w) (X.A.mark (some (.ref a))) (eval (.Name x np) X.env) Q E { sx with heap := g } := fun {Q E} q => by
      obtain ⟨c1, c2, c3 | ⟨c3, c4, c5⟩⟩ := hc
      · exact ld_glob (X := X.suite a ((a, o1) :: (X.pn ++ pins))) S1 c1 c3 q c2
      · exact ld_blt (X := X.suite a ((a, o1) :: (X.pn ++ pins))) S1 c1 c3 c4 q c5 c2
    refine named ((PySem.W.exm_one (M := model X.prog X.w) J1.kIn looks exm).here ?_)
    cases b with
    | false =>
      show wpAny _ X.A (handleBy (.ref a) X.env []) _ _ _
      refine wpAny_handleBy_nil ?_
      obtain ⟨_, _, _, o2, v2, t2, ot2, w2, g2, y2, d2, i2, _⟩ := id fg
      unfold PySem.passOn
      refine wpAny_bind (wpAny_field g2 d2 i2 ?_)
      rw [if_neg (show ¬ ((Value.ref t2 == Value.none) = true) from by simp)]
      have on : wpAny (model X.prog X.w) X.A (setFlight (.ref a) X.env.frame) (fun _ s4 => wpAny (model X.prog X.w) X.A (throw (.ref a) : Sem Flow) (SP X pins D) X.xe s4) X.xe { sx with heap := g } := by
        rw [hf]
        exact HandSPX.setFlight_upZ fg fun g3 held3 up3 => wpAny_throw (tk _ _ ⟨a, B, s0, pins, σ0, H0, cls, d, rfl, I0, nb, (up0.trans upg).trans up3, .inr (.inr (by rw [hs]; exact held3)), na, os0, ag0, wNo rfl⟩)
      first
        | exact wpAny_bind (wpAny_pure (wpAny_bind on))
        | exact wpAny_bind on
    | true =>
      refine codeAny_handlers_suite_as (HandSPX.lands_againZ fg fun g3 fg3 up3 => ?_)
      obtain ⟨_, _, _, o3, v3, _, _, _, at3, z3, f3, _⟩ := id fg3
      have S3 := (landed fg3 (upg.trans up3)).suite at3 f3 na nL nF
      refine store_ok (X := X.suite a ((a, o3) :: (X.pn ++ pins))) (v := .ref a) S3 hN hi (.inl hln) rfl (fun s5 S5 => ?_) (.inr hln)
      refine wpAny_mono ((hsu a ((a, o3) :: (X.pn ++ pins)) cls d).run [] s5 _ H0 _ S5 (wYes rfl a na)) (fun fl s6 end6 => ?_) (fun _ _ z => z.elim)
      cases fl with
      | ret u =>
        obtain ⟨_, _, _, _, _, q⟩ := end6
        exact q.elim
      | brk =>
        obtain ⟨_, _, _, q⟩ := end6
        exact q.elim
      | cont =>
        obtain ⟨_, _, _, q⟩ := end6
        exact q.elim
      | next =>
        obtain ⟨σ6, H6, S6, q6⟩ := end6
        obtain ⟨p6, h6, _⟩ := S6.pin (a, o3) (List.mem_append.mpr (.inl List.mem_cons_self))
        have I6 := inv_track (S6.unsuite okX) noneE h6 p6 z3 f3 nL npin
        exact gone_ok I6 hN hi hln fun s7 J7 => ⟨_, _, J7, q6 h6⟩
end
end Wy

set_option Elab.async false
set_option linter.all false
set_option maxRecDepth 100000
set_option maxHeartbeats 4000000
namespace Wy
open PySem PySem.Spec PyProof.Rows L2

/-! ### try: t = e, except X as n: v = n — over values -/
def mTryV (cs : Str → Option Bool) (m : SD → M D) (g : D → SD → M SD) (v i : Nat) : SD → M Fl := fun s h => match m s h with
  | .ok d h' => match g d s h' with
    | .ok s' h'' => .ok (.nx s') h''
    | _ => .bad
  | .ex C fs h' => match cs C with
    | some true => if i < s.length ∧ fs = [] then .ok (.nx ((s.set v (some (.fn (excN C) []))).set i none)) h' else .bad
    | some false => .ex C fs h'
    | none => .bad
  | .bad => .bad
section
variable {X : Cx} {E : XK} {W : WX} {e a b c o tg : Expr} {es : List Expr} {pos p p1 p2 p3 p4 np : Pos} {k : Nat}
theorem rst_none {G : Gx} {ρ : Rg} {H : Hp} {sd : SD} {σ : L2.St} {i : Nat} (r : RSt G ρ H sd σ) : RSt G ρ H (sd.set i none) (σ.set i none) := ⟨by simp [r.1], fun j d q => by
  by_cases z : j = i
  · subst z
    rw [List.getElem?_set] at q
    split at q
    · split at q <;> cases q
    · rename_i h; exact absurd rfl h
  · rw [List.getElem?_set_ne (Ne.symm z)] at q ⊢
    exact r.2 j d q⟩
theorem sm_tryV {x n : Str} {y : Str} {v i : Nat} {cs : Str → Option Bool} {m : SD → M D} {g : D → SD → M SD} (hs : X.stack = X.env :: X.outer) (hf : X.env.frame = some X.env.locals) (hN : X.N.Nodup) (hi : X.N[i]? = some n) (hv : X.N[v]? = some y) (hln : X.env.kindOf n = some .local) (hlv : X.env.kindOf y = some .local) (hvn : Vis X.env.scope n) (hex : X.ex = []) (hne : v ≠ i)
    (hc : Catch X (TB X.mg) x cs) (tk : Takes X (WC E)) (hdn : (n == ("__debug__" : Str)) = false) (hcn : (n == ("__classdict__" : Str)) = false)
    (he : ∀ (W : WX) (pn : List (Addr × Obj)) (xe : Value → Shared → Prop), Takes (X.tr pn xe) W → PEm (X.tr pn xe) (TB X.mg) W e m) (hg : ∀ (pn : List (Addr × Obj)) (xe : Value → Shared → Prop), PGm (X.tr pn xe) (TB X.mg) E tg g)
    (h1 : swapsWithSole [tg] e p1.line X.env = pure false) (h2 : swappedStores [tg] e X.env = pure none) (h3 : (assignEach [tg] X.env).map (·.2) = [assign tg X.env])
    (hps : ∀ (a : Addr) (pn : List (Addr × Obj)), PS (X.suite a pn) (.Assign [.Name y p2] (.Name n p3) pos) (tAsg (tVar i) (gName v))) :
    PSm X (TB X.mg) E (.Try [.Assign [tg] e p1] [.ExceptHandler (some (.Name x np)) (some n) [.Assign [.Name y p2] (.Name n p3) pos] p] [] [] p4) (mTryV cs m g v i) := by
  obtain ⟨cv, hn', hx⟩ := hc
  refine weakS (ps_try_keep (tb := fun W => tSeq (tAsg (tE (gx X (TB X.mg)) W m) (tT' (gx X (TB X.mg)) E g)) tNext) (ts := fun _ _ _ => tSeq (tAsg (tVar i) (gName v)) tNext) hs hf hN hi hln hex hn' tk
    (fun W pn xe t => pss_cons (ps_asg (he W pn xe t) (hg pn xe) h1 h2 h3) pss_nil) (fun a pn cls d => pss_cons (hps a pn) pss_nil)) fun D σ H ⟨ρ, hd, sd, r, s, h⟩ => ?_
  show tSeq _ _ D σ H
  refine ⟨ρ, hd, sd, r, s, ?_⟩
  unfold mTryV at h
  cases em : m sd hd with
  | ok d hd' =>
    rw [em] at h
    intro ρ' H' u r' st q
    refine ⟨ρ', hd', sd, d, r', s.mono st r.muts, q, ?_⟩
    cases eg : g d sd hd' with
    | ok s' hd'' =>
      simp only [eg] at h
      exact fun ρ2 H2 σ2 r2 st2 q2 => h ρ2 H2 σ2 r2 (st.trans st2) q2
    | ex C fs hd'' => simp only [eg] at h; exact h.elim
    | bad => simp only [eg] at h; exact h.elim
  | ex C fs hd' =>
    rw [em] at h
    intro ρ' H' cls dd r' st q
    simp only [] at h
    cases ec : cs C with
    | none => rw [ec] at h; exact h.elim
    | some b =>
      rw [ec] at h
      refine ⟨b, hx C b ec cls q.1, fun eb => ?_, fun eb a na => ?_⟩
      · subst eb
        exact h ρ' H' cls dd r' st q
      · subst eb
        have s' := s.mono st r.muts
        have li : i < σ.length := by
          by_cases z : i < sd.length
          · rw [← s.1]; exact z
          · simp only [z, false_and, if_false] at h; exact h.elim
        have li2 : i < sd.length := by rw [s.1]; exact li
        have hfs : fs = [] := by
          by_cases z : fs = []
          · exact z
          · simp only [z, and_false, if_false] at h; exact h.elim
        simp only [li2, hfs, and_self, if_true] at h
        have hdd : dd = none := by
          rcases q.2 with ⟨_, z⟩ | z
          · exact z
          · obtain ⟨_, _, _, z, _⟩ := z
            exact absurd hfs z
        subst hdd
        refine ⟨.ref a, by rw [List.getElem?_set_self li], ?_⟩
        show _ → _
        intro na2
        refine h ρ' _ _ (r'.laid na) (st.trans (.laid na)) ?_
        rw [List.set_comm _ _ (Ne.symm hne), List.set_set]
        refine rst_none (RSt.set (s'.mono (.laid na) r'.muts) ?_)
        exact .fn [a] (fun b hb => by
          have : b = a := by simpa using hb
          subst this
          exact ⟨r'.out na, by rw [upd_same]; rfl⟩) (fun H2 hH => ⟨C, cls, rfl, rfl, q.1, by rw [hH a (by simp), upd_same]⟩) .nil
  | bad => rw [em] at h; exact h.elim

/-! ### isinstance(v, X), v such an exception -/
def rIsX (K : PySem.W.Frag) : List V → Hp → VK → Prop := fun xs H Q => ∃ (a : Addr) (S : Addr) (c : V) (cv : Value) (b : Bool), xs = [.ref a, c] ∧ H a = some (ExV (.ref S) none a) ∧ ExcC K S ∧ (∀ u, RelV c u → u = cv) ∧ PySem.W.kitOne K (.ref S) cv = some b ∧ Q (.bl b) H
theorem call_isX : CallR X (.builtin "isinstance") (rIsX X.K) := by
  rintro pins s σ H xs us Q I r ⟨a, S, c, cv, b, rfl, ha, C, hcv, e, q⟩
  cases r with
  | cons rx rr =>
    cases rr with
    | cons rt rr =>
      cases rr
      cases rx
      have ec := hcv _ rt
      subst ec
      obtain ⟨⟨oe, vs, g1, z1, f1⟩, _⟩ := I.hok a _ ha
      have J : PySem.W.InstAt s.heap a oe S none := by
        obtain ⟨oc, od, oda, osl⟩ := oe
        obtain ⟨y1, y2⟩ := z1
        dsimp only at y1 y2 f1
        subst y1 y2 f1
        exact ⟨g1, rfl, rfl, trivial⟩
      exact PySem.W.kia_one (PySem.W.handS_kitx_exc C.hg C.hk C.hs C.hd C.ha C.hn C.ht C.hm) I.kIn J e (fun z => nomatch z) fun tk => ⟨.bl b, H, I.kept (t' := tk) fun _ _ z => z, rfl, q⟩
/-- of which exceptions' classes x is a class above -/
structure IsK (K : PySem.W.Frag) (mg : Str → Option Value) (x : Str) (l : List (Str × Bool)) : Prop where
  ex : ∃ cv : Value, (mg x = some cv ∨ (mg x = none ∧ bootBuiltins x = some cv ∧ x ≠ "__name__")) ∧ ((∃ S, cv = .ref S) ∨ ∃ t, cv = .type t) ∧ ∀ p ∈ l, ∃ S, mg p.1 = some (.ref S) ∧ ExcC K S ∧ PySem.W.kitOne K (.ref S) cv = some p.2
def isxM (l : List (Str × Bool)) (d : D) : M D := fun h => match d with
  | .fn f _ => match l.find? fun p => decide (excN p.1 = f) with
    | some p => .ok (.bl p.2) h
    | none => .bad
  | _ => .bad
def mIsx (l : List (Str × Bool)) (m : SD → M D) : SD → M D := fun s => m s >>= isxM l
theorem excN_inj {C C' : Str} (h : excN C = excN C') : C = C' := by
  have h1 := congrArg TL.tl h
  have h2 : 33 :: TL.tl C = 33 :: TL.tl C' := by simpa [excN, TL.tl] using h1
  exact TL.ext_tl (List.cons.inj h2).2

theorem em_isx {x : Str} {l : List (Str × Bool)} {m : SD → M D} {q : Pos} (hg : Gl X "isinstance") (hm : X.mg "isinstance" = none) (hgt : Gl X x) (K : IsK X.K X.mg x l) (ha : PEm X (TB X.mg) W a m) (hdb : (x == ("__debug__" : Str)) = false)
    (he : starEach [a, .Name x q] X.env = (false, eval a X.env) :: starEach [.Name x q] X.env) (he2 : starEach [.Name x q] X.env = (false, eval (.Name x q) X.env) :: starEach [] X.env) (hpl : (backTo pos (starEach [.Name x q] X.env)).any (·.1) = false) : PEm X (TB X.mg) W (.Call (.Name "isinstance" p) [a, .Name x q] [] pos) (mIsx l m) := by
  obtain ⟨cv, hcv, hkind, hl⟩ := K.ex
  obtain ⟨c, hc1, hc2⟩ : ∃ c : V, RelV c cv ∧ ∀ u, RelV c u → u = cv := by
    rcases hkind with ⟨S, rfl⟩ | ⟨t, rfl⟩
    · exact ⟨.ref S, rfl, fun u h => h⟩
    · exact ⟨.ty t, rfl, fun u h => h⟩
  have ty : PE X (.Name x q) (tC c) := ⟨fun _ _ _ H _ I h => by
    rcases hcv with h1 | ⟨h1, h2, h3⟩
    · exact ld_glob I hgt h1 ⟨c, H, I, hc1, h⟩ hdb
    · exact ld_blt I hgt h1 h2 ⟨c, H, I, hc1, h⟩ h3 hdb⟩
  refine weakE (pe_callB call_isX hg hm rfl (pa_cons ha (pa_cons ty pa_nil he2) he) (by decide) (by decide) he hpl) fun σ H Q h => ?_
  refine tG_then (tG_bind (R := RV (gx X (TB X.mg))) (k := fun _ d => isxM l d) h) fun v H1 ⟨ρ1, hd1, sd1, d, ⟨r, st, qv⟩, h1⟩ => ?_
  unfold isxM at h1
  cases d <;> first | exact h1.elim | skip
  rename_i f cs
  dsimp only at h1
  cases ef : l.find? (fun p => decide (excN p.1 = f)) with
  | none => rw [ef] at h1; exact h1.elim
  | some pr =>
    rw [ef] at h1
    cases qv with
    | fn fp h2 h3 h4 =>
      obtain ⟨C, cls, e1, e2, e3, e4⟩ := h3 H1 fun _ _ => rfl
      have e5 : excN pr.1 = f := by simpa using List.find?_some ef
      have e6 : pr.1 = C := excN_inj (e5.trans e1)
      obtain ⟨S, g1, g2, g3⟩ := hl pr (List.mem_of_find?_eq_some ef)
      rw [e6, e3] at g1
      cases g1
      exact ⟨_, S, c, cv, pr.2, rfl, e4, g2, hc2, g3, ans r (.bl pr.2) h1⟩
end
end Wy

set_option Elab.async false
set_option linter.all false
set_option maxRecDepth 100000
set_option maxHeartbeats 4000000
namespace Wy
open PySem PySem.Spec PyProof.Rows L2

/-! ### words: errors in hand -/
section
variable {X : Cx} {E : XK} {W : WX} {e a b c o tg : Expr} {es : List Expr} {st : Stmt} {sts : List Stmt} {pos p p1 p2 p3 p4 np : Pos} {k : Nat}
theorem rTrV (cx : Cxt X k) (tk : Takes X (WC E)) {x n y : Str} {l : List (Str × Bool)} {m : SD → M D} {g : D → SD → M SD} {v i : Nat} (hc : CatchK X.K X.mg x l)
    (he : ∀ (W : WX) (pn : List (Addr × Obj)) (xe : Value → Shared → Prop), Cxt (X.tr pn xe) k → Takes (X.tr pn xe) W → PEm (X.tr pn xe) (TB X.mg) W e m) (hg : ∀ (pn : List (Addr × Obj)) (xe : Value → Shared → Prop), Cxt (X.tr pn xe) k → PGm (X.tr pn xe) (TB X.mg) E tg g)
    (hi : X.N[i]? = some n := by rfl) (hv : X.N[v]? = some y := by rfl) (hne : v ≠ i := by decide) (hln : X.env.kindOf n = some .local := by rfl) (hlv : X.env.kindOf y = some .local := by rfl) (hvn : Vis X.env.scope n := by first | exact Or.inl rfl | exact Or.inr (Or.inl rfl) | exact Or.inr (Or.inr rfl)) (hex : X.ex = [] := by rfl)
    (hs : X.stack = X.env :: X.outer := by rfl) (hf : X.env.frame = some X.env.locals := by rfl) (hgl : Gl X x := by rfl) (hdb : (x == ("__debug__" : Str)) = false := by decide) (hdn : (n == ("__debug__" : Str)) = false := by decide) (hcn : (n == ("__classdict__" : Str)) = false := by decide)
    (h1 : swapsWithSole [tg] e p1.line X.env = pure false := by rfl) (h2 : swappedStores [tg] e X.env = pure none := by rfl) (h3 : (assignEach [tg] X.env).map (·.2) = [assign tg X.env] := by rfl)
    (h4 : swapsWith (.Name n p3) (some (.Name y p2)) pos.line X.env = pure false := by rfl) (h5 : X.fn y = true ∨ X.env.scope.names.lookup y = some .local := by first | exact .inl rfl | exact .inr rfl) :
    PSm X (TB X.mg) E (.Try [.Assign [tg] e p1] [.ExceptHandler (some (.Name x np)) (some n) [.Assign [.Name y p2] (.Name n p3) pos] p] [] [] p4) (mTryV (csOf l) m g v i) :=
  sm_tryV hs hf cx.nd hi hv hln hlv hvn hex hne (catch_of hc hgl hdb) tk hdn hcn (fun W pn xe t => he W pn xe cx.tr t) (fun pn xe => hg pn xe cx.tr) h1 h2 h3 fun a pn =>
    ps_set (i := v) (x := y) (te := tVar i) cx.nd hv (.inl hlv) (pe_var hi hvn hdn hcn) h4 h5
theorem cIsx {x : Str} {l : List (Str × Bool)} {m : SD → M D} {q : Pos} (u : Bu2 X.mg) (K : IsK X.K X.mg x l) (ha : PEm X (TB X.mg) W a m) (hg : Gl X "isinstance" := by rfl) (hgt : Gl X x := by rfl) (hdb : (x == ("__debug__" : Str)) = false := by decide)
    (he : starEach [a, .Name x q] X.env = (false, eval a X.env) :: starEach [.Name x q] X.env := by rfl) (he2 : starEach [.Name x q] X.env = (false, eval (.Name x q) X.env) :: starEach [] X.env := by rfl) (hpl : (backTo pos (starEach [.Name x q] X.env)).any (·.1) = false := by rfl) :
    PEm X (TB X.mg) W (.Call (.Name "isinstance" p) [a, .Name x q] [] pos) (mIsx l m) := em_isx hg u.isinstance hgt K ha hdb he he2 hpl
/-! ### x.upper() -/
def fUpper (d : D) : M D := fun h => match d with
  | .str x => if x.length ≤ 5592405 ∧ PyData.strOk (Txt.upper x) = true then .ok (.str (Txt.upper x)) h else .bad
  | _ => .bad
def mUpper (m : SD → M D) : SD → M D := fun s => m s >>= fUpper
theorem em_upper {T : Tb} {mo : SD → M D} {apos cpos : Pos} (ho : PEm X T W o mo) (hbase : attributeBase o "upper" X.env (eval o X.env) = eval o X.env := by rfl) (hline : (apos.endLine == cpos.line) = true := by decide) : PEm X T W (.Call (.Attribute o "upper" apos) [] [] cpos) (mUpper mo) :=
  weakE (pe_bm0 PySem.F.plainAttrs_str PySem.F.slot_str_upper PySem.F.type_str_upper mt_upper ho hbase hline) fun σ H Q h => by
    refine tG_then (tG_bind (R := RV (gx X T)) (k := fun _ d => fUpper d) h) fun x H1 ⟨ρ1, hd1, sd1, d, ⟨r, st, q⟩, h1⟩ => ?_
    unfold fUpper at h1
    cases d <;> first | exact h1.elim | skip
    rename_i z
    cases q
    by_cases c : z.length ≤ 5592405 ∧ PyData.strOk (Txt.upper z) = true
    · simp only [c, and_self, if_true] at h1
      exact ⟨rfl, z, rfl, rfl, c.1, ans r (.str _ c.2) h1⟩
    · simp only [c, if_false] at h1; exact h1.elim
/-! ### where a token is out: x.replace('..', '..') -/
abbrev PETm (X : Cx) (T : Tb) (W : WX) (e : Expr) (m : SD → M D) : Prop := PET X e (tE (gx X T) W m)
abbrev PATm (X : Cx) (T : Tb) (W : WX) (es : List Expr) (ml : SD → M (List D)) : Prop := PAT X es (tG (gx X T) W (RVs (gx X T)) ml)
abbrev PSsTm (X : Cx) (T : Tb) (E : XK) (sts : List Stmt) (m : SD → M Fl) : Prop := PSsT X sts (tS (gx X T) E m)
theorem weakET {t t' : TE} (h : PET X e t) (w : ∀ σ H Q, t' σ H Q → t σ H Q) : PET X e t' := fun pins s σ H Q h0 I q => h pins s σ H Q h0 I (w _ _ _ q)
theorem weakAT {t t' : TA} (h : PAT X es t) (w : ∀ σ H Q, t' σ H Q → t σ H Q) : PAT X es t' := fun p pins s σ H Q h0 I q => h p pins s σ H Q h0 I (w _ _ _ q)
theorem weakSsT {t t' : TS} (h : PSsT X sts t) (w : ∀ D σ H, t' D σ H → t D σ H) : PSsT X sts t' := fun pins s σ H D h0 I q => h pins s σ H D h0 I (w _ _ _ q)
theorem et_of {T : Tb} {m : SD → M D} (h : PEm X T W e m) : PETm X T W e m := CwR.PET.of h
theorem et_op {T : Tb} {op : Operator} {r : R2} {f : D → D → M D} {ma mb : SD → M D} (ho : OpR X (binaryOp op) r) (hf : R2m X T r f) (ha : PETm X T W a ma) (hb : PETm X T W b mb) : PETm X T W (.BinOp a op b pos) (m2 f ma mb) := weakET (CwR.pet_op ho ha hb) (op_go hf)
theorem et_ix {T : Tb} {ma mb : SD → M D} (hu : X.A.units + 10 < cLine) (ha : PETm X T W a ma) (hb : PETm X T W b mb) (hs : PlainIx b) : PETm X T W (.Subscript a b pos) (m2 ixA ma mb) := by
  refine weakET (t := tOp (rIxAll X) (tE (gx X T) W ma) (tE (gx X T) W mb)) (fun pins s σ H Q h0 I h => ?_) (op_go r_ixA)
  refine Subscript_ (wpAny_mono (PySem.wpAny_toks (ha pins s σ H _ h0 I h)) (fun v s1 q => ?_) fun _ _ z => z.2)
  obtain ⟨hk, x, H1, I1, r1, q1⟩ := q
  exact thn (hb pins s1 σ H1 _ (Nat.le_trans h0 hk) I1 q1) fun u s2 ⟨y, H2, I2, r2, q2⟩ => (ix_seq.or (ix_dc hu)) a b pins s2 σ H2 x y v u Q I2 r1 r2 q2 (hs _ _)
theorem et_nil {T : Tb} : PATm X T W [] mNil := fun p pins s σ H Q h0 I h => pat_nil p pins s σ H Q h0 I (by
  obtain ⟨ρ, hd, sd, r, st, h⟩ := h
  exact h ρ H [] r .refl .nil)
theorem et_cons {T : Tb} {m : SD → M D} {ml : SD → M (List D)} (he : PETm X T W e m) (hr : PATm X T W es ml) (hs : starEach (e :: es) X.env = (false, eval e X.env) :: starEach es X.env := by rfl) : PATm X T W (e :: es) (mCons m ml) :=
  weakAT (pat_cons he hr hs) fun σ H Q h => by
    refine tG_then (tG_bind (R := RV (gx X T)) (k := fun s d => ml s >>= fun ds => pure (d :: ds)) h) fun v H1 ⟨ρ1, hd1, sd1, d1, c1, h1⟩ => ?_
    refine tG_then (c1.go (R' := RVs (gx X T)) rv_mono (m := ml) (k := fun _ ds => pure (d1 :: ds)) h1) fun vs H2 ⟨ρ2, hd2, sd2, ds, ⟨r2, st2, q⟩, ⟨_, _, q2⟩, h2⟩ => ?_
    exact h2 ρ2 H2 (v :: vs) r2 .refl (.cons q q2)
theorem et_lst {T : Tb} {ml : SD → M (List D)} {mt : Bool} (h : PATm X T W es ml) : PETm X T W (.List es pos) (mLst mt ml) :=
  weakET (pet_lst h) fun σ H Q h => tG_then (tG_bind (R := RVs (gx X T)) (k := fun s ds => mkL mt ds) h) fun vs H1 ⟨ρ1, hd1, sd1, ds, c, h1⟩ => mkL_res c.1 c.2.2 h1
def fRepl (y z : Str) (d : D) : M D := fun h => match d with
  | .str x => if x.length + (x.length + 1) * z.length ≤ 16777216 ∧ PyData.strOk (Txt.replace x y z) = true then .ok (.str (Txt.replace x y z)) h else .bad
  | _ => .bad
def mRepl (y z : Str) (m : SD → M D) : SD → M D := fun s => m s >>= fRepl y z
theorem et_repl {T : Tb} {y z : Str} {j k : Nat} {c0 c1 apos : Pos} {mo : SD → M D} (ho : PEm X T W o mo) (hyz : (y == z) = false := by decide)
    (hst : starEach [.Constant (.str y) j c0, .Constant (.str z) k c1] X.env = [(false, eval (.Constant (.str y) j c0) X.env), (false, eval (.Constant (.str z) k c1) X.env)] := by rfl)
    (hbase : attributeBase o "replace" X.env (eval o X.env) = eval o X.env := by rfl) (hline : (apos.endLine == pos.line) = true := by rfl) :
    PETm X T W (.Call (.Attribute o "replace" apos) [.Constant (.str y) j c0, .Constant (.str z) k c1] [] pos) (mRepl y z mo) :=
  weakET (CwR.pet_replC ho hyz hst hbase hline) fun σ H Q h => by
    refine tG_then (tG_bind (R := RV (gx X T)) (k := fun _ d => fRepl y z d) h) fun x H1 ⟨ρ1, hd1, sd1, d, ⟨r, st, q⟩, h1⟩ => ?_
    unfold fRepl at h1
    cases d <;> first | exact h1.elim | skip
    rename_i t
    cases q
    by_cases c : t.length + (t.length + 1) * z.length ≤ 16777216 ∧ PyData.strOk (Txt.replace t y z) = true
    · simp only [c, and_self, if_true] at h1
      exact ⟨t, rfl, c.1, ans r (.str _ c.2) h1⟩
    · simp only [c, if_false] at h1; exact h1.elim
theorem st_of {T : Tb} {m : SD → M Fl} (h : PSsm X T E sts m) : PSsTm X T E sts m := PSsT.of h
theorem st_cons {T : Tb} {m k : SD → M Fl} (h1 : PSm X T E st m) (h2 : PSsTm X T E sts k) : PSsTm X T E (st :: sts) (mSeq m k) := weakSsT (psst_cons (PST.of h1) h2) fun D σ H h => seq_go h
theorem weakST {t t' : TS} (h : PST X st t) (w : ∀ D σ H, t' D σ H → t D σ H) : PST X st t' := fun pins s σ H D h0 I q => h pins s σ H D h0 I (w _ _ _ q)
theorem st_ret {T : Tb} {m : SD → M D} (he : PETm X T (WC E) e m) : PSsTm X T E [.Return (some e) pos] (mSeq (mRet m) mNext) :=
  weakSsT (psst_cons (weakST (t' := tS (gx X T) E (mRet m)) (CwR.pst_ret he) fun D σ H h => tG_then (tS_bind (R := RV (gx X T)) (k := fun _ d => pure (Fl.rt d)) h) fun v H1 ⟨ρ1, hd1, sd1, d, ⟨r, s, q⟩, h1⟩ => h1 ρ1 H1 v r .refl q) (st_of sm_nil)) fun D σ H h => seq_go h
end
/-- THE RULE for a def, its body where a token is out -/
theorem def_isT {P : Program} {w : World} {K : PySem.W.Frag} {mg : Str → Option Value} {base : Heap} {T : Tb} {x : Str} {st : Stmt} {N ps : List Str} {k l n : Nat} {z : Bool} {m : SD → M Fl} (Fn : FunAt K mg x st) (S : FnScope N ps (defScope st)) (bu : Bu mg)
    (hb : ∀ (kV doc pm : Value) (an : Option Addr) (cdv ct : Value) (us : List Value), us.length = ps.length → bindArgs (PySem.W.fnOf x x (defArgs st) (defBody st) (defScope st) .none kV doc pm an cdv ct) ⟨us, []⟩ = pure (ps.zip us))
    (body : ∀ (f : Addr) (cdv : Value) (A : Around) (outer : List Env) (s : Shared) (H : Hp) (E : XK), Cxt (CO P w K mg base N x st f cdv A outer s H E) k → Takes (CO P w K mg base N x st f cdv A outer s H E) (WC E) →
      PassesOwn (model P w) (CO P w K mg base N x st f cdv A outer s H E).A (CO P w K mg base N x st f cdv A outer s H E).env (CO P w K mg base N x st f cdv A outer s H E).xe → PSsTm (CO P w K mg base N x st f cdv A outer s H E) T E (defBody st) m)
    (hnc : ∀ y ∈ (defScope st).names, y.2 ≠ .cell) (h1 : 1 ≤ ps.length) (hl : ps.length = l := by rfl) (hn : N.length = n := by rfl) : DefOk P w K mg base T x (k + 1) l (den z n m) := by
  obtain ⟨f, fd, hm, F⟩ := Fn
  refine ⟨f, fd, ps, hm, F.kp, F.binds hb, ?_⟩
  obtain ⟨oc, od, kV, doc, pm, an, cdv, ct, osl, rfl, lk, hcd⟩ := F.ex
  exact fn_ofT lk hcd S hnc h1 (fun vs H Q E ⟨ρ, hd, ds, r, q, l', h⟩ => by rw [← q.len, l', hl]) fun A outer s H vs Q E hr h =>
    ⟨_, body f cdv A outer s H E ⟨rfl, S.nd, hr, bu⟩ (takes_of rfl rfl rfl rfl) (passes_of rfl), den_body (X := CO P w K mg base N x st f cdv A outer s H E) hn h⟩
end Wy

set_option Elab.async false
set_option linter.all false
set_option maxRecDepth 100000
set_option maxHeartbeats 4000000
namespace Wy
open PySem PySem.Spec PyProof.Rows L2

/-! ### how these run -/
section
variable {s : SD} {h : DH} {m : SD → M D}
@[simp] theorem ev_tryV {cs : Str → Option Bool} {g : D → SD → M SD} {v i : Nat} : mTryV cs m g v i s h = match m s h with
  | .ok d h' => (match g d s h' with
    | .ok s' h'' => .ok (.nx s') h''
    | _ => .bad)
  | .ex C fs h' => (match cs C with
    | some true => if i < s.length ∧ fs = [] then .ok (.nx ((s.set v (some (.fn (excN C) []))).set i none)) h' else .bad
    | some false => .ex C fs h'
    | none => .bad)
  | .bad => .bad := byT rfl
@[simp] theorem ev_isx {l : List (Str × Bool)} : mIsx l m s h = (m s h).then fun d h' => isxM l d h' := by unfold mIsx; simp only [ev_bind]
@[simp] theorem ev_upper : mUpper m s h = (m s h).then fun d h' => fUpper d h' := by unfold mUpper; simp only [ev_bind]
@[simp] theorem ev_repl {y z : Str} : mRepl y z m s h = (m s h).then fun d h' => fRepl y z d h' := by unfold mRepl; simp only [ev_bind]
@[simp] theorem isx_1 {C : Str} {b : Bool} {cs : List D} : isxM [(C, b)] (.fn (excN C) cs) h = .ok (.bl b) h := by
  unfold isxM
  simp
end
/-! ### texts of which only their size matters -/
/-- the expression gives some good text, not longer than k -/
def GS (m : SD → M D) (s : SD) (h : DH) (k : Nat) : Prop := ∃ x : Str, m s h = .ok (.str x) h ∧ PyData.strOk x = true ∧ x.length ≤ k
def GL (ml : SD → M (List D)) (s : SD) (h : DH) (k n : Nat) : Prop := ∃ xs : List Str, ml s h = .ok (xs.map .str) h ∧ (∀ x ∈ xs, PyData.strOk x = true ∧ x.length ≤ k) ∧ xs.length = n
/-- .. a list of such -/
def GV (m : SD → M D) (s : SD) (h : DH) (k n : Nat) : Prop := ∃ xs : List Str, m s h = .ok (.lv (xs.map .str)) h ∧ (∀ x ∈ xs, PyData.strOk x = true ∧ x.length ≤ k) ∧ xs.length = n
section
variable {s : SD} {h : DH} {m m' : SD → M D} {ml : SD → M (List D)} {j k n i : Nat}
theorem gs_is {x : Str} (e : m s h = .ok (.str x) h) (o : PyData.strOk x = true) (l : x.length ≤ k) : GS m s h k := ⟨x, e, o, l⟩
theorem gs_c {x : Str} (o : PyData.strOk x = true) (l : x.length ≤ k) : GS (mC (.str x)) s h k := ⟨x, rfl, o, l⟩
theorem gs_cat {mt : Bool} (a : GS m s h j) (b : GS m' s h k) (z : j + k ≤ n) (z2 : n ≤ 1000000) : GS (m2 (opAdd mt) m m') s h n := by
  obtain ⟨x, e1, o1, l1⟩ := a
  obtain ⟨y, e2, o2, l2⟩ := b
  refine ⟨x ++ y, ?_, ok_app o1 o2, ?_⟩
  · have := cat_str (mt := mt) (x := x) (y := y) (h := h) (le_size (by omega))
    simp [e1, e2, this]
  · have : (x ++ y).length = x.length + y.length := by rw [TL.len_tl, TL.tl_append, List.length_append, ← TL.len_tl, ← TL.len_tl]
    omega
theorem gs_mono (a : GS m s h j) (z : j ≤ k) : GS m s h k := let ⟨x, e, o, l⟩ := a; ⟨x, e, o, Nat.le_trans l z⟩
theorem gl_nil : GL mNil s h k 0 := ⟨[], rfl, by simp, rfl⟩
theorem gl_cons (a : GS m s h k) (b : GL ml s h k n) : GL (mCons m ml) s h k (n + 1) := by
  obtain ⟨x, e1, o1, l1⟩ := a
  obtain ⟨xs, e2, o2, l2⟩ := b
  refine ⟨x :: xs, by simp [e1, e2], fun y hy => ?_, by simp [l2]⟩
  rcases List.mem_cons.mp hy with rfl | hy
  · exact ⟨o1, l1⟩
  · exact o2 y hy
theorem gv_lst (a : GL ml s h k n) (z : n ≤ 1000000) : GV (mLst false ml) s h k n := by
  obtain ⟨xs, e, o, l⟩ := a
  refine ⟨xs, ?_, o, l⟩
  have := mkL_f (ds := xs.map .str) (h := h) (le_size (by rw [List.length_map]; omega))
  simp [e, this]
theorem gv_cat (a : GV m s h k n) (b : GV m' s h k i) (z : n + i ≤ 1000000) : GV (m2 (opAdd false) m m') s h k (n + i) := by
  obtain ⟨xs, e1, o1, l1⟩ := a
  obtain ⟨ys, e2, o2, l2⟩ := b
  refine ⟨xs ++ ys, ?_, fun y hy => ?_, by simp [l1, l2]⟩
  · have e3 : opAdd false (.lv (xs.map .str)) (.lv (ys.map .str)) h = mkL false (xs.map .str ++ ys.map .str) h := rfl
    have := mkL_f (ds := xs.map .str ++ ys.map .str) (h := h) (le_size (by rw [List.length_append, List.length_map, List.length_map]; omega))
    simp [e1, e2, e3, this]
  · rcases List.mem_append.mp hy with hy | hy
    · exact o1 y hy
    · exact o2 y hy
theorem gs_ix {i : Int} (a : GV m s h k n) (e : m' s h = .ok (.int i) h) (i0 : 0 ≤ i) (i1 : i < n) : GS (m2 ixA m m') s h k := by
  obtain ⟨xs, e1, o1, l1⟩ := a
  have hi : i.toNat < xs.length := by omega
  refine ⟨xs[i.toNat], ?_, o1 _ (List.getElem_mem hi)⟩
  have := atI_nat' (l := xs.map D.str) (j := i.toNat) (x := .str xs[i.toNat]) (by rw [List.getElem?_map, List.getElem?_eq_getElem hi]; rfl)
  rw [Int.toNat_of_nonneg i0] at this
  simp [e1, e, this]
theorem tl_placed (x : Str) (f : Nat → Nat → List Nat) : ∀ c ∈ (PySem.placed x f).toList, ∃ i, ∃ d ∈ TL.tl x, c ∈ f i d := by
  intro c hc
  unfold PySem.placed at hc
  simp only [Array.toList_flatten, List.mem_flatten, List.mem_map] at hc
  obtain ⟨l, ⟨a, ha, rfl⟩, hc⟩ := hc
  rw [Array.mem_toList_iff, Array.mem_mapIdx] at ha
  obtain ⟨i, hi, e⟩ := ha
  rw [← e] at hc
  exact ⟨i, x.cps[i], by simp [TL.tl], by simpa using hc⟩
theorem upper_az : ∀ c, 97 ≤ c → c ≤ 122 → ∀ d ∈ Unicode.upperOf c, d < 0x110000 := by
  have : ∀ c ∈ (List.range 26).map (97 + ·), (Unicode.upperOf c).all (fun d => decide (d < 0x110000)) = true := by decide +kernel
  intro c a b d hd
  have := this c (List.mem_map.mpr ⟨c - 97, List.mem_range.mpr (by omega), by omega⟩)
  exact of_decide_eq_true (List.all_eq_true.mp this d hd)
theorem gs_upper {x : Str} (e : m s h = .ok (.str x) h) (l : x.length ≤ k) (z : k ≤ 100000) (az : ∀ c ∈ TL.tl x, 97 ≤ c ∧ c ≤ 122) : GS (mUpper m) s h (3 * k) := by
  have o : PyData.strOk (Txt.upper x) = true := okS_tl.mpr fun c hc => by
    obtain ⟨i, d, hd, hc⟩ := tl_placed x (fun _ c => Unicode.upperOf c) c hc
    have := az d hd
    exact upper_az d this.1 this.2 c hc
  have hl := PyProof.Rows.len_upper x
  refine ⟨Txt.upper x, ?_, o, by omega⟩
  have : fUpper (.str x) h = .ok (.str (Txt.upper x)) h := by
    unfold fUpper
    dsimp only
    rw [if_pos ⟨by omega, o⟩]
  simp [e, this]
theorem gs_repl {x z : Str} {c : Nat} (e : m s h = .ok (.str x) h) (o : PyData.strOk x = true) (l : x.length ≤ j) (oz : PyData.strOk z = true) (b : j + (j + 1) * z.length ≤ k) (k2 : k ≤ 1000000) : GS (mRepl ⟨#[c]⟩ z m) s h k := by
  have hl := TK.replace_len x ⟨#[c]⟩ z
  have hb : x.length + (x.length + 1) * z.length ≤ j + (j + 1) * z.length := Nat.add_le_add l (Nat.mul_le_mul_right _ (by omega))
  have ok : PyData.strOk (Txt.replace x ⟨#[c]⟩ z) = true := by
    rw [StrLaws.replace_one, ← TL.join_eq]
    exact join_okS oz fun y hy => List.all_eq_true.mp (split_ok o) y hy
  refine ⟨Txt.replace x ⟨#[c]⟩ z, ?_, ok, by omega⟩
  have : fRepl ⟨#[c]⟩ z (.str x) h = .ok (.str (Txt.replace x ⟨#[c]⟩ z)) h := by
    unfold fRepl
    dsimp only
    rw [if_pos ⟨by omega, ok⟩]
  simp [e, this]
end
/-! ### which class is above which -/
theorem kit_ref {K : PySem.W.Frag} {S C : Addr} {b : Bool} (ss : PySem.W.subIn K (.ref S) (.ref S) = some true) (h2 : PySem.W.isClsIn K C = true) (h3 : PySem.W.typeIn K (.ref C) = some (.type "type")) (h4 : PySem.W.subIn K (.ref S) (.ref C) = some b) : PySem.W.kitOne K (.ref S) (.ref C) = some b := by
  unfold PySem.W.kitOne
  by_cases c : S = C
  · subst c
    rw [ss] at h4
    rw [if_pos (by simp)]
    exact h4
  · rw [if_neg (by simpa using c)]
    have e2 : ((PySem.W.clsIn K C).isSome && PySem.W.typeIn K (.ref C) == some (.type "type")) = true := by
      have h2' : (PySem.W.clsIn K C).isSome = true := h2
      rw [h2', h3] <;> rfl
    show (if ((PySem.W.clsIn K C).isSome && PySem.W.typeIn K (.ref C) == some (.type "type")) = true then PySem.W.subIn K (.ref S) (.ref C) else none) = some b
    rw [if_pos e2]
    exact h4
theorem kit_type {K : PySem.W.Frag} {S : Addr} {T : String} {b : Bool} (m : PySem.W.kitMeta T = true) (h4 : PySem.W.subIn K (.ref S) (.type T) = some b) : PySem.W.kitOne K (.ref S) (.type T) = some b := by
  unfold PySem.W.kitOne
  rw [if_neg (by simp)]
  show (if PySem.W.kitMeta T = true then PySem.W.subIn K (.ref S) (.type T) else none) = some b
  rw [if_pos m]
  exact h4
end Wy

set_option Elab.async false
set_option linter.all false
set_option maxRecDepth 100000
set_option maxHeartbeats 4000000
namespace Wy
open PySem PySem.Spec PyProof.Rows L2
def B_law_cell_at : SD → M Fl := (mSeq (mIf (mTest (m2 (ordM .lt) (mVar 1) (mCall (one len1) (mCons (mVar 0) mNil)))) (mSeq (mRet (m2 ixA (mVar 0) (mVar 1))) mNext) mNext) (mSeq (mRet (mC (.int 0))) mNext))
def F_law_cell_at : List D → M D := den true 2 B_law_cell_at
def B_law_mixed : SD → M Fl := (mSeq (mAsg (mCall (two max2) (mCons (mC (.int 0)) (mCons (m2 opFdiv (mVar 0) (m2 opPow (mC (.int 10)) (mC (.int 18)))) mNil))) (gNm 2)) (mSeq (mFor (srcRng (mCons (m2 opMulA (mVar 1) (mCall (one intA) (mCons (m2 (ordM .gt) (mVar 2) (mC (.int 0))) mNil))) mNil)) (gNm 3) (mSeq (mAsg (m2 opFdiv (mVar 2) (m2 opPow (mC (.int 10)) (mC (.int 12)))) (gNm 2)) mNext)) (mSeq (mAsg (m2 opMod (m2 opMulA (m2 (opAdd false) (mVar 0) (m2 opMulA (mC (.int 7919)) (mVar 1))) (mC (.int 48271))) (mC (.int 2147483647))) (gNm 4)) (mSeq (mRet (mIte (mTest (m2 (ordM .gt) (mVar 2) (mC (.int 1)))) (m2 opMod (mVar 2) (m2 opPow (mC (.int 10)) (mC (.int 12)))) (m2 opMod (m2 (opAdd false) (m2 (opAdd false) (m2 opMulA (mVar 4) (mVar 4)) (m2 opMulA (mC (.int 7)) (mVar 4))) (mVar 1)) (mC (.int 2147483629))))) mNext))))
def F_law_mixed : List D → M D := den true 5 B_law_mixed
def B_law_lock : SD → M Fl := (mSeq (mAsg (mLst true mNil) (gNm 2)) (mSeq (mFor (srcEnum (mCons (mVar 1) mNil)) (gTp 2 (gsCons (gNm 3) (gsCons (gTp 2 (gsCons (gNm 5) (gsCons (gNm 6) gsNil))) gsNil))) (mSeq (mAsg (mCall F_law_mixed (mCons (mVar 0) (mCons (m2 (opAdd false) (mC (.int 70)) (mVar 3)) mNil))) (gNm 4)) (mSeq (mIf (mTest (m2 (ordM .gt) (m2 opMod (mVar 4) (mC (.int 4))) (mC (.int 0)))) (mSeq (mExpr (mMeth .list fAppend (mVar 2) (mCons (mTup (mCons (mVar 5) (mCons (m2 ixA (m2 ixA (mVar 6) (m2 opMod (m2 opFdiv (mVar 4) (mC (.int 4))) (mCall (one len1) (mCons (mVar 6) mNil)))) (mC (.int 0))) mNil))) mNil))) mNext) mNext) mNext))) (mSeq (mRet (mCall (one tup1) (mCons (mVar 2) mNil))) mNext)))
def F_law_lock : List D → M D := den true 7 B_law_lock
def B_law_odd_row : SD → M Fl := (mSeq (mAsg (m2 ixA (mVar 1) (m2 opMod (m2 opFdiv (mVar 0) (mC (.int 32))) (mCall (one len1) (mCons (mVar 1) mNil)))) (gTp 2 (gsCons (gNm 3) (gsCons (gNm 4) gsNil)))) (mSeq (mAsg (mMeth .str fJoin (mC (.str ".")) (mCons (mComp [6] (.nm 6) mYes (mCall (one str1) (mCons (mVar 6) mNil)) false (srcSeqA (m2 ixA (m2 ixA (mVar 4) (mC (.int 0))) (mC (.int 0))))) mNil)) (gNm 5)) (mSeq (mAsg (mLst false (mCons (mVar 3) (mCons (mVar 5) (mCons (m2 (opAdd false) (m2 (opAdd false) (m2 (opAdd false) (m2 (opAdd false) (mVar 3) (mC (.str " "))) (mVar 5)) (mC (.str " "))) (mVar 5)) (mCons (m2 (opAdd false) (m2 (opAdd false) (mVar 3) (mC (.str " "))) (mVar 5)) (mCons (m2 (opAdd false) (m2 (opAdd false) (mUpper (mVar 3)) (mC (.str " "))) (mVar 5)) (mCons (m2 (opAdd false) (mC (.str "q ")) (mVar 5)) mNil))))))) (gNm 7)) (mSeq (mAsg (m2 (opAdd false) (mVar 7) (mLst false (mCons (m2 (opAdd false) (m2 (opAdd false) (mVar 3) (mC (.str " 0"))) (mVar 5)) (mCons (m2 (opAdd false) (m2 (opAdd false) (m2 (opAdd false) (mVar 3) (mC (.str " "))) (mVar 5)) (mC (.str "."))) (mCons (m2 (opAdd false) (m2 (opAdd false) (mVar 3) (mC (.str " ."))) (mVar 5)) (mCons (m2 (opAdd false) (m2 (opAdd false) (mVar 3) (mC (.str " -"))) (mVar 5)) (mCons (m2 (opAdd false) (mVar 3) (mC (.str "  "))) mNil))))))) (gNm 7)) (mSeq (mAsg (m2 (opAdd false) (mVar 7) (mLst false (mCons (m2 (opAdd false) (m2 (opAdd false) (m2 (opAdd false) (mVar 3) (mC (.str " "))) (mVar 5)) (mC (.str ".0.0.0.0"))) (mCons (m2 (opAdd false) (mVar 3) (mC (.str " 10000"))) (mCons (m2 (opAdd false) (m2 (opAdd false) (m2 (opAdd false) (mVar 3) (mC (.str " "))) (mVar 5)) (mC (.str ".7"))) (mCons (m2 (opAdd false) (m2 (opAdd false) (mVar 3) (mC (.str ": "))) (mVar 5)) mNil)))))) (gNm 7)) (mSeq (mAsg (m2 (opAdd false) (mVar 7) (mLst false (mCons (m2 (opAdd false) (mVar 3) (mC (.str " any"))) (mCons (m2 (opAdd false) (mC (.str "wish ")) (mVar 3)) (mCons (m2 (opAdd false) (mC (.str "ware ")) (mVar 3)) (mCons (m2 (opAdd false) (m2 (opAdd false) (mVar 3) (mC (.str ","))) (mVar 5)) (mCons (m2 (opAdd false) (m2 (opAdd false) (mVar 5) (mC (.str " "))) (mVar 3)) (mCons (m2 (opAdd false) (mC (.str "x# ")) (mVar 3)) mNil)))))))) (gNm 7)) (mSeq (mAsg (m2 (opAdd false) (mVar 7) (mLst false (mCons (m2 (opAdd false) (m2 (opAdd false) (m2 (opAdd false) (mVar 3) (mC (.str " "))) (mVar 5)) (mC (.str " # x"))) (mCons (m2 (opAdd false) (m2 (opAdd false) (m2 (opAdd false) (mVar 3) (mC (.str " "))) (mVar 5)) (mC (.str "#"))) (mCons (m2 (opAdd false) (m2 (opAdd false) (m2 (opAdd false) (mVar 3) (mVar 3)) (mC (.str " "))) (mVar 5)) (mCons (m2 (opAdd false) (m2 (opAdd false) (mVar 3) (mC (.str " +"))) (mVar 5)) mNil)))))) (gNm 7)) (mSeq (mRet (m2 ixA (m2 (opAdd false) (mVar 7) (mLst false (mCons (m2 (opAdd false) (m2 (opAdd false) (m2 (opAdd false) (mC (.str "#")) (mVar 3)) (mC (.str " "))) (mVar 5)) (mCons (m2 (opAdd false) (m2 (opAdd false) (mVar 3) (mC (.str " "))) (mRepl "." ".." (mVar 5))) (mCons (mC (.str "")) mNil))))) (m2 opMod (mVar 0) (mC (.int 28))))) mNext))))))))
def F_law_odd_row : List D → M D := den true 8 B_law_odd_row
def B_law_read : SD → M Fl := (mSeq (mAsg (mLst true mNil) (gNm 2)) (mSeq (mFor (srcSeqA (mVar 0)) (gNm 3) (mSeq (mAsg (mComp [9] (.nm 9) (mTest (m2 (eqM true) (mVar 9) (mC (.str "")))) (mVar 9) false (srcSeqA (mMeth .str (fSplit false) (mVar 3) (mCons (mC (.str " ")) mNil)))) (gNm 4)) (mSeq (mIf (mOrT (mTest (m2 (eqM false) (mVar 4) (mLst false mNil))) (mTest (m2 (eqM false) (mSl false (m2 ixA (mVar 4) (mC (.int 0))) none (some (mC (.int 1)))) (mC (.str "#"))))) (mSeq mCnt mNext) mNext) (mSeq (mAsg (mLst false mNil) (gNm 5)) (mSeq (mFor (srcSeqA (mVar 1)) (gTp 2 (gsCons (gNm 7) (gsCons (gNm 8) gsNil))) (mSeq (mAsg (m2 (opAdd false) (mVar 5) (mComp [11] (.nm 11) mYes (mLst false (mCons (mVar 7) (mCons (mMeth .str fJoin (mC (.str ".")) (mCons (mComp [13] (.nm 13) mYes (mCall (one str1) (mCons (mVar 13) mNil)) false (srcSeqA (m2 ixA (mVar 11) (mC (.int 0))))) mNil)) (mCons (m2 ixA (mVar 11) (mC (.int 0))) mNil)))) false (srcSeqA (mVar 8)))) (gNm 5)) mNext)) (mSeq (mAsg (mComp [10] (.nm 10) (mTest (m2 (eqM false) (mSl false (mVar 10) none (some (mC (.int 2)))) (mVar 4))) (mVar 10) false (srcSeqA (mVar 5))) (gNm 6)) (mSeq (mIf (mOrT (mTest (m2 (eqM false) (mVar 6) (mLst false mNil))) (mTest (m2 (inM false) (m2 ixA (mVar 4) (mC (.int 0))) (mComp [12] (.nm 12) mYes (m2 ixA (mVar 12) (mC (.int 0))) false (srcSeqA (mVar 2)))))) (mSeq (mRet (mC .non)) mNext) mNext) (mSeq (mExpr (mMeth .list fAppend (mVar 2) (mCons (mTup (mCons (m2 ixA (mVar 4) (mC (.int 0))) (mCons (m2 ixA (m2 ixA (mVar 6) (mC (.int 0))) (mC (.int 2))) mNil))) mNil))) mNext)))))))) (mSeq (mRet (mCall (one tup1) (mCons (mCall (one (sorted1 false)) (mCons (mVar 2) mNil)) mNil))) mNext)))
def F_law_read : List D → M D := den true 14 B_law_read
def B_law_sign_bent : SD → M Fl := (mSeq (mAsg (mC (.str " !\"#$&'()*+,-./0123456789:;<=>?@AZ[\\]^_`abcdefghijklmnopqrstuvwxyz{|}~\n")) (gNm 2)) (mSeq (mAsg (m2 opMod (m2 opFdiv (mVar 1) (mC (.int 12))) (m2 (opAdd false) (mCall (one len1) (mCons (mVar 0) mNil)) (mC (.int 1)))) (gNm 3)) (mSeq (mAsg (m2 ixA (mVar 2) (m2 opMod (m2 opFdiv (mVar 1) (mC (.int 12000))) (mCall (one len1) (mCons (mVar 2) mNil)))) (gNm 4)) (mSeq (mAsg (m2 opMod (m2 opFdiv (mVar 1) (mC (.int 4))) (mC (.int 3))) (gNm 5)) (mSeq (mRet (m2 (opAdd false) (m2 (opAdd false) (mSl false (mVar 0) none (some (mVar 3))) (m2 ixA (mLst false (mCons (mVar 4) (mCons (mC (.str "")) (mCons (mVar 4) mNil)))) (mVar 5))) (mSl false (mVar 0) (some (m2 (opAdd false) (mVar 3) (m2 ixA (mLst false (mCons (mC (.int 0)) (mCons (mC (.int 1)) (mCons (mC (.int 1)) mNil)))) (mVar 5)))) none))) mNext)))))
def F_law_sign_bent : List D → M D := den true 6 B_law_sign_bent
def B_is_number : SD → M Fl := (mSeq (mRet (mAndV (mIsi "int" (mVar 0)) (mAndV (mNotV (mIsi "bool" (mVar 0))) (mChain (ordM .le) (ordM .le) (mC (.int 0)) (mVar 0) (mC (.int 9999)))))) mNext)
def F_is_number : List D → M D := den true 1 B_is_number
def B_is_make : SD → M Fl := (mSeq (mIf (mOrT (mNot (mTruth (mIsi "tuple" (mVar 0)))) (mNot (mTest (mChain (ordM .le) (ordM .le) (mC (.int 1)) (mCall (one len1) (mCons (mVar 0) mNil)) (mC (.int 4)))))) (mSeq (mRet (mC (.bl false))) mNext) mNext) (mSeq (mRet (mCall (one all1) (mCons (mComp [1] (.nm 1) mYes (mCall F_is_number (mCons (mVar 1) mNil)) false (srcSeqA (mVar 0))) mNil))) mNext))
def F_is_make : List D → M D := den true 2 B_is_make
def B_number_by : SD → M Fl := (mSeq (mIf (mOrT (mNot (mTest (mChain (ordM .le) (ordM .le) (mC (.int 1)) (mCall (one len1) (mCons (mVar 0) mNil)) (mC (.int 4))))) (mOrT (mNot (mTruth (mCall (one all1) (mCons (mComp [1] (.nm 1) mYes (m2 (inM false) (mVar 1) (mC (.str "0123456789"))) false (srcSeqA (mVar 0))) mNil)))) (mTest (m2 (eqM true) (mCall (one str1) (mCons (mCall (one intA) (mCons (mVar 0) mNil)) mNil)) (mVar 0))))) (mSeq (mRet (mC .non)) mNext) mNext) (mSeq (mRet (mCall (one intA) (mCons (mVar 0) mNil))) mNext))
def F_number_by : List D → M D := den true 2 B_number_by
def B_make_by : SD → M Fl := (mSeq (mAsg (mCall (one tup1) (mCons (mComp [2] (.nm 2) mYes (mCall F_number_by (mCons (mVar 2) mNil)) false (srcSeqA (mMeth .str (fSplit false) (mVar 0) (mCons (mC (.str ".")) mNil)))) mNil)) (gNm 1)) (mSeq (mRet (mIte (mTruth (mCall F_is_make (mCons (mVar 1) mNil))) (mVar 1) (mC .non))) mNext))
def F_make_by : List D → M D := den true 3 B_make_by
def B_words_of : SD → M Fl := (mSeq (mAsg (mComp [2] (.nm 2) (mTest (m2 (eqM true) (mVar 2) (mC (.str "")))) (mVar 2) false (srcSeqA (mMeth .str (fSplit false) (mVar 0) (mCons (mC (.str " ")) mNil)))) (gNm 1)) (mSeq (mIf (mAndT (mTest (m2 (eqM true) (mVar 1) (mLst false mNil))) (mTest (m2 (eqM false) (m2 ixA (m2 ixA (mVar 1) (mC (.int 0))) (mC (.int 0))) (mC (.str "#"))))) (mSeq (mRet (mLst false mNil)) mNext) mNext) (mSeq (mRet (mVar 1)) mNext)))
def F_words_of : List D → M D := den true 3 B_words_of
def B_lock_by : SD → M Fl := (mSeq (mAsg (mDct false) (gNm 2)) (mSeq (mFor (srcSeqA (mMeth .str (fSplit false) (mVar 0) (mCons (mC (.str "\n")) mNil))) (gNm 3) (mSeq (mAsg (mCall F_words_of (mCons (mVar 3) mNil)) (gNm 4)) (mSeq (mIf (mTest (m2 (eqM false) (mVar 4) (mLst false mNil))) (mSeq mCnt mNext) mNext) (mSeq (mIf (mOrT (mTest (m2 (eqM true) (mCall (one len1) (mCons (mVar 4) mNil)) (mC (.int 2)))) (mOrT (mTest (m2 (inM true) (m2 ixA (mVar 4) (mC (.int 0))) (mCall (one (dict1 false)) (mCons (mVar 1) mNil)))) (mTest (m2 (inM false) (m2 ixA (mVar 4) (mC (.int 0))) (mVar 2))))) (mSeq (mRaise "NoLock") mNext) mNext) (mSeq (mAsg (mCall F_make_by (mCons (m2 ixA (mVar 4) (mC (.int 1))) mNil)) (gNm 5)) (mSeq (mIf (mTest (m2 (inM true) (mVar 5) (mComp [6] (.nm 6) mYes (m2 ixA (mVar 6) (mC (.int 0))) false (srcSeqA (m2 ixA (mCall (one (dict1 false)) (mCons (mVar 1) mNil)) (m2 ixA (mVar 4) (mC (.int 0)))))))) (mSeq (mRaise "NoLock") mNext) mNext) (mSeq (mAsg (mVar 5) (gSb (mVar 2) (m2 ixA (mVar 4) (mC (.int 0))) setM)) mNext))))))) (mSeq (mRet (mCall (one tup1) (mCons (mSrtI false (mVar 2)) mNil))) mNext)))
def F_lock_by : List D → M D := den true 7 B_lock_by
def B_law_told : SD → M Fl := (mSeq (mAsg (mC .non) (gNm 2)) (mSeq (mAsg (mC .non) (gNm 3)) (mSeq (mTryV (csOf [("NoLock", true)]) (mCall F_lock_by (mCons (mVar 0) (mCons (mVar 1) mNil))) (gNm 2) 3 4) (mSeq (mIf (mTest (m2 (isM false) (mVar 3) (mC .non))) (mSeq (mRet (mVar 2)) mNext) mNext) (mSeq (mAsg (mOrV (mIsx [("NoLock", false)] (mVar 3)) (mIsx [("NoLock", false)] (mVar 3))) (gNm 5)) (mSeq (mRet (m2 ixA (mLst false (mCons (mC (.str "refused")) (mCons (mC (.str "other")) mNil))) (mCall (one intA) (mCons (mOrV (mVar 5) (mOrV (mNotV (mIsx [("NoLock", true)] (mVar 3))) (mNotV (mIsx [("NoLock", true)] (mVar 3))))) mNil)))) mNext))))))
def F_law_told : List D → M D := den true 6 B_law_told
def B_law_inner : SD → M Fl := (mSeq (mAsg (mCall (two max2) (mCons (mC (.int 0)) (mCons (mVar 0) mNil))) (gNm 2)) (mSeq (mFor (srcRng (mCons (m2 opMulA (m2 (opAdd false) (mC (.int 100)) (m2 opMulA (mC (.int 10)) (mVar 1))) (mCall (one intA) (mCons (m2 (ordM .ge) (mVar 2) (m2 opPow (mC (.int 10)) (mC (.int 18)))) mNil))) mNil)) (gNm 3) (mSeq (mAsg (m2 opFdiv (mVar 2) (m2 opPow (mC (.int 10)) (mC (.int 12)))) (gNm 2)) mNext)) (mSeq (mRet (mIte (mTest (m2 (ordM .ge) (mVar 2) (m2 opPow (mC (.int 10)) (mC (.int 18))))) (mVar 2) (mCall F_law_mixed (mCons (mVar 0) (mCons (m2 (opAdd false) (mC (.int 20)) (mVar 1)) mNil))))) mNext)))
def F_law_inner : List D → M D := den true 4 B_law_inner
def B_law_makes : SD → M Fl := (mSeq (mAsg (mCall (one tup1) (mCons (mComp [3] (.nm 3) mYes (m2 opMod (m2 opFdiv (mCall F_law_mixed (mCons (mVar 0) (mCons (mVar 3) mNil))) (mC (.int 3))) (m2 ixA (mLst false (mCons (mC (.int 10)) (mCons (mC (.int 10000)) mNil))) (m2 opMod (mVar 0) (mC (.int 2))))) false (srcRng (mCons (m2 opMod (mCall F_law_mixed (mCons (mVar 0) (mCons (mC (.int 5)) mNil))) (mC (.int 4))) mNil))) mNil)) (gNm 2)) (mSeq (mAsg (m2 opMod (mCall F_law_mixed (mCons (mVar 0) (mCons (mC (.int 6)) mNil))) (m2 ixA (mLst false (mCons (mC (.int 2)) (mCons (mC (.int 9990)) mNil))) (m2 opMod (m2 opFdiv (mVar 0) (mC (.int 2))) (mC (.int 2))))) (gNm 4)) (mSeq (mRet (mComp [3] (.nm 3) mYes (m2 (opAdd false) (mVar 2) (mTup (mCons (m2 (opAdd false) (mVar 4) (mVar 3)) mNil))) false (srcRng (mCons (mVar 1) mNil)))) mNext)))
def F_law_makes : List D → M D := den true 5 B_law_makes
def B_law_names : SD → M Fl := (mSeq (mAsg (mC (.str "abcdefghijklmnopqrstuvwxyz")) (gNm 1)) (mSeq (mAsg (mMeth .str fJoin (mC (.str "")) (mCons (mComp [3] (.nm 3) mYes (m2 ixA (mVar 1) (m2 opMod (m2 opFdiv (mCall F_law_mixed (mCons (mVar 0) (mCons (mVar 3) mNil))) (mC (.int 5))) (mC (.int 26)))) false (srcRng (mCons (m2 opMod (mCall F_law_mixed (mCons (mVar 0) (mCons (mC (.int 9)) mNil))) (mC (.int 6))) mNil))) mNil)) (gNm 2)) (mSeq (mAsg (m2 opMod (mCall F_law_mixed (mCons (mVar 0) (mCons (mC (.int 10)) mNil))) (mC (.int 26))) (gNm 4)) (mSeq (mRet (mComp [3] (.nm 3) mYes (m2 (opAdd false) (m2 (opAdd false) (mVar 2) (mC (.str "q"))) (m2 ixA (mVar 1) (m2 opMod (m2 (opAdd false) (mVar 4) (m2 opMulA (mC (.int 7)) (mVar 3))) (mC (.int 26))))) false (srcRng (mCons (mC (.int 4)) mNil)))) mNext))))
def F_law_names : List D → M D := den true 5 B_law_names
def B_law_yard : SD → M Fl := (mSeq (mAsg (mCall (one (sorted1 false)) (mCons (mSl false (mCall F_law_names (mCons (mVar 0) mNil)) none (some (mVar 1))) mNil)) (gNm 2)) (mSeq (mAsg (mLst true mNil) (gNm 3)) (mSeq (mFor (srcEnum (mCons (mVar 2) mNil)) (gTp 2 (gsCons (gNm 4) (gsCons (gNm 5) gsNil))) (mSeq (mAsg (mCall F_law_makes (mCons (mCall F_law_inner (mCons (mVar 0) (mCons (mVar 4) mNil))) (mCons (m2 (opAdd false) (mC (.int 1)) (m2 opMod (mCall F_law_mixed (mCons (mVar 0) (mCons (m2 (opAdd false) (mC (.int 30)) (mVar 4)) mNil))) (mC (.int 3)))) mNil))) (gNm 6)) (mSeq (mExpr (mMeth .list fAppend (mVar 3) (mCons (mTup (mCons (mVar 5) (mCons (mCall (one tup1) (mCons (mComp [7] (.nm 7) mYes (mTup (mCons (mVar 7) (mCons (mC (.bl false)) (mCons (mTup mNil) mNil)))) false (srcSeqA (mVar 6))) mNil)) mNil))) mNil))) mNext))) (mSeq (mRet (mCall (one tup1) (mCons (mVar 3) mNil))) mNext))))
def F_law_yard : List D → M D := den true 8 B_law_yard
def B_law : SD → M Fl := (mSeq (mAsg (mCall F_law_yard (mCons (mCall F_law_cell_at (mCons (mVar 0) (mCons (mC (.int 0)) mNil))) (mCons (m2 (opAdd false) (mC (.int 1)) (m2 opMod (mCall F_law_cell_at (mCons (mVar 0) (mCons (mC (.int 1)) mNil))) (mC (.int 4)))) mNil))) (gNm 1)) (mSeq (mAsg (mCall F_law_lock (mCons (mCall F_law_cell_at (mCons (mVar 0) (mCons (mC (.int 2)) mNil))) (mCons (mVar 1) mNil))) (gNm 2)) (mSeq (mAsg (mComp [4, 5] (.tp (.cons (.nm 4) (.cons (.nm 5) .nil))) mYes (m2 (opAdd false) (m2 (opAdd false) (mVar 4) (mC (.str " "))) (mMeth .str fJoin (mC (.str ".")) (mCons (mComp [6] (.nm 6) mYes (mCall (one str1) (mCons (mVar 6) mNil)) false (srcSeqA (mVar 5))) mNil))) false (srcSeqA (mVar 2))) (gNm 3)) (mSeq (mFor (srcRng (mCons (m2 (opAdd false) (mC (.int 1)) (m2 opMod (mCall F_law_cell_at (mCons (mVar 0) (mCons (mC (.int 3)) mNil))) (mC (.int 2)))) mNil)) (gNm 7) (mSeq (mAsg (mCall F_law_mixed (mCons (mCall F_law_cell_at (mCons (mVar 0) (mCons (m2 (opAdd false) (mC (.int 4)) (mVar 7)) mNil))) (mCons (mC (.int 5)) mNil))) (gNm 8)) (mSeq (mAsg (mCall F_law_odd_row (mCons (mVar 8) (mCons (mVar 1) (mCons (mVar 2) mNil)))) (gNm 9)) (mSeq (mIf (mTest (m2 (eqM false) (m2 opMod (m2 opFdiv (mVar 8) (mC (.int 3000))) (mC (.int 2))) (mC (.int 1)))) (mSeq (mAsg (mComp [11] (.nm 11) (mTest (m2 (eqM true) (m2 ixA (mMeth .str (fSplit false) (mVar 11) (mCons (mC (.str " ")) mNil)) (mC (.int 0))) (m2 ixA (mMeth .str (fSplit false) (mVar 9) (mCons (mC (.str " ")) mNil)) (mC (.int 0))))) (mVar 11) false (srcSeqA (mVar 3))) (gNm 3)) mNext) mNext) (mSeq (mAsg (m2 opMod (m2 opFdiv (mVar 8) (mC (.int 1000))) (m2 (opAdd false) (mCall (one len1) (mCons (mVar 3) mNil)) (mC (.int 1)))) (gNm 10)) (mSeq (mAsg (m2 (opAdd false) (m2 (opAdd false) (mSl false (mVar 3) none (some (mVar 10))) (mLst false (mCons (mVar 9) mNil))) (mSl false (mVar 3) (some (m2 (opAdd false) (mVar 10) (m2 opMod (m2 opFdiv (mVar 8) (mC (.int 9000))) (mC (.int 2))))) none)) (gNm 3)) mNext)))))) (mSeq (mAsg (m2 (opAdd false) (mMeth .str fJoin (mC (.str "\n")) (mCons (mVar 3) mNil)) (mC (.str "\n"))) (gNm 12)) (mSeq (mAsg (mCall F_law_mixed (mCons (mCall F_law_cell_at (mCons (mVar 0) (mCons (mC (.int 6)) mNil))) (mCons (mC (.int 9)) mNil))) (gNm 8)) (mSeq (mIf (mTest (m2 (ordM .gt) (m2 opMod (mVar 8) (mC (.int 4))) (mC (.int 1)))) (mSeq (mAsg (m2 (opAdd false) (mSl false (mVar 3) none (some (mVar 10))) (mSl false (mVar 3) (some (m2 (opAdd false) (mVar 10) (mC (.int 1)))) none)) (gNm 13)) (mSeq (mAsg (mCall F_law_sign_bent (mCons (m2 (opAdd false) (mMeth .str fJoin (mC (.str "\n")) (mCons (mVar 13) mNil)) (m2 opMulA (mC (.str "\n")) (m2 opMod (mVar 8) (mC (.int 2))))) (mCons (mVar 8) mNil))) (gNm 12)) mNext)) mNext) (mSeq (mAsg (mCall F_law_read (mCons (mMeth .str (fSplit false) (mVar 12) (mCons (mC (.str "\n")) mNil)) (mCons (mVar 1) mNil))) (gNm 14)) (mSeq (mAsg (mCall F_law_told (mCons (mVar 12) (mCons (mVar 1) mNil))) (gNm 15)) (mSeq (mIf (mTest (m2 (isM false) (mVar 14) (mC .non))) (mSeq (mRet (m2 (eqM false) (mVar 15) (mC (.str "refused")))) mNext) mNext) (mSeq (mRet (m2 (eqM false) (mCall (one repr1) (mCons (mVar 15) mNil)) (mCall (one repr1) (mCons (mVar 14) mNil)))) mNext)))))))))))
def F_law : List D → M D := den true 16 B_law
end Wy

set_option Elab.async false
set_option linter.all false
set_option maxRecDepth 100000
set_option maxHeartbeats 4000000
namespace Wy
open PySem PySem.Spec PyProof.Rows L2

/-! ### makes: numbers and their texts -/
abbrev Mk := List Int
def numOk (n : Int) : Bool := decide (0 ≤ n) && decide (n ≤ 9999)
def mkOk (m : Mk) : Bool := decide (1 ≤ m.length) && (decide (m.length ≤ 4) && m.all numOk)
def mkP (m : Mk) : PyData := .tuple (m.map .int)
def mkT (m : Mk) : D := .tup (m.map .int)
theorem ofP_mk (m : Mk) : ofP (mkP m) = mkT m := by
  unfold mkP mkT
  simp only [ofP, ofPs_map, List.map_map]
  rfl
theorem size4 : 4 ≤ sizeLine := by decide
theorem isnum_int {n : Int} {h : DH} (hp : Pur h) : F_is_number [.int n] h = .ok (.bl (numOk n)) h := by
  refine den_eq (p := .bool (numOk n)) ?_ hp rfl
  unfold B_is_number slots0 ofP numOk
  by_cases c : 0 ≤ n <;> simp [c]
theorem isnum_non {h : DH} (hp : Pur h) : F_is_number [.non] h = .ok (.bl false) h := by
  refine den_eq (p := .bool false) ?_ hp rfl
  unfold B_is_number slots0 ofP
  simp
/-- a number or nothing -/
def onD : Option Int → D
  | some n => .int n
  | none => .non
def onOk : Option Int → Bool
  | some n => numOk n
  | none => false
theorem isnum_on {o : Option Int} {h : DH} (hp : Pur h) : F_is_number [onD o] h = .ok (.bl (onOk o)) h := by
  cases o with
  | none => exact isnum_non hp
  | some n => exact isnum_int hp
theorem ismake_on {l : List (Option Int)} {h : DH} (hp : Pur h) (z : l.length ≤ sizeLine) : F_is_make [.tup (l.map onD)] h = .ok (.bl (decide (1 ≤ l.length) && (decide (l.length ≤ 4) && l.all onOk))) h := by
  refine den_eq (p := .bool (decide (1 ≤ l.length) && (decide (l.length ≤ 4) && l.all onOk))) ?_ hp rfl
  unfold B_is_make slots0 ofP
  have e : mComp [1] (.nm 1) mYes (mCall F_is_number (mCons (mVar 1) mNil)) false (srcSeqA (mVar 0)) [some (.tup (l.map onD)), none] h = .ok (.lv (l.map fun o => .bl (onOk o))) h :=
    comp_lv onD (fun o => .bl (onOk o)) (c := stays (.tup (l.map onD)) (l.map onD)) (by simp) (by simp) z fun o _ => ⟨[some (.tup (l.map onD)), some (onD o)], rfl, rfl, by simp [isnum_on hp]⟩
  have i1 : (1 : Int) ≤ (l.length : Int) ↔ 1 ≤ l.length := by omega
  have i2 : (l.length : Int) ≤ 4 ↔ l.length ≤ 4 := by omega
  by_cases c1 : 1 ≤ l.length
  · by_cases c2 : l.length ≤ 4
    · simp [i1, i2, c1, c2, e]
    · simp [i1, i2, c1, c2]
  · simp [i1, i2, c1]
theorem ismake_ok {m : Mk} {h : DH} (hp : Pur h) (z : m.length ≤ sizeLine) : F_is_make [mkT m] h = .ok (.bl (mkOk m)) h := by
  have := ismake_on (l := m.map some) hp (by simpa using z)
  have e1 : (m.map some).map onD = m.map .int := by rw [List.map_map]; rfl
  have e2 : (m.map some).all onOk = m.all numOk := by rw [List.all_map]; rfl
  rw [e1, e2, List.length_map] at this
  exact this

/-! numbers written -/
theorem numS_ok (n : Int) : PyData.strOk (numS n) = true := ok_of _
theorem tl_numS (n : Nat) : TL.tl (numS n) = TL.numL n := TL.tl_num n
def FIG : Str := "0123456789"
theorem tl_FIG : TL.tl FIG = [48, 49, 50, 51, 52, 53, 54, 55, 56, 57] := by decide +kernel
/-- a sign within a text -/
theorem inStr_one {c : Nat} {x : Str} : inStr ⟨#[c]⟩ x = decide (c ∈ TL.tl x) := StrLaws.found_one x c
theorem in_str' {neg : Bool} {x y : Str} {h : DH} : inM neg (.str x) (.str y) h = .ok (.bl (neg ^^ inStr x y)) h := rfl
def digs (w : Str) : Bool := (TL.tl w).all fun c => decide (48 ≤ c) && decide (c ≤ 57)
theorem digs_iff {w : Str} : digs w = true ↔ NumText.AllDigits (TL.tl w) := by
  unfold digs NumText.AllDigits
  rw [List.all_eq_true]
  simp only [Bool.and_eq_true, decide_eq_true_eq]
theorem fig_mem {c : Nat} : (c ∈ TL.tl FIG) ↔ (48 ≤ c ∧ c ≤ 57) := by
  rw [tl_FIG]
  simp
  omega
/-- the number that a word writes -/
def numV (w : Str) : Int := (NumText.digitsVal (TL.tl w) : Nat)
def numBy (w : Str) : Option Int := if (1 ≤ w.length ∧ w.length ≤ 4) ∧ digs w = true ∧ numS (numV w) = w then some (numV w) else none
theorem dv_go : ∀ (l : List Nat) (a : Nat), NumText.AllDigits l → l.foldl (fun acc c => acc * 10 + (c - 48)) a < (a + 1) * 10 ^ l.length
  | [], a, _ => by simp
  | c :: l, a, h => by
    have h1 := dv_go l (a * 10 + (c - 48)) fun x hx => h x (List.mem_cons_of_mem _ hx)
    have h2 := h c (by simp)
    rw [List.foldl_cons, List.length_cons, Nat.pow_succ]
    refine Nat.lt_of_lt_of_le h1 ?_
    rw [Nat.mul_comm (10 ^ l.length) 10, ← Nat.mul_assoc]
    exact Nat.mul_le_mul_right _ (by omega)
theorem dv_lt (l : List Nat) (h : NumText.AllDigits l) : NumText.digitsVal l < 10 ^ l.length := by
  have := dv_go l 0 h
  rw [Nat.zero_add, Nat.one_mul] at this
  exact this
theorem numBy_some {w : Str} {n : Int} : numBy w = some n ↔ numOk n = true ∧ w = numS n := by
  unfold numBy numOk
  constructor
  · intro h
    split at h
    · rename_i c
      cases h
      obtain ⟨⟨c1, c2⟩, c3, c4⟩ := c
      have := dv_lt _ (digs_iff.mp c3)
      have e : (TL.tl w).length ≤ 4 := by rw [← TL.len_tl]; exact c2
      have := Nat.lt_of_lt_of_le this (Nat.pow_le_pow_right (by decide) e)
      refine ⟨?_, c4.symm⟩
      unfold numV
      simp
      omega
    · cases h
  · rintro ⟨h, rfl⟩
    simp only [Bool.and_eq_true, decide_eq_true_eq] at h
    obtain ⟨k, rfl⟩ := Int.eq_ofNat_of_zero_le h.1
    have e : TL.tl (numS (k : Int)) = TL.numL k := tl_numS k
    have ev : numV (numS (k : Int)) = k := by
      unfold numV
      rw [e, TL.numL_val]
    have l1 : (numS (k : Int)).length ≤ 4 := by
      rw [TL.len_tl, e]
      exact TL.numL_len (by decide) (by omega)
    have l0 : 1 ≤ (numS (k : Int)).length := by
      rw [TL.len_tl, e]
      have := TL.numL_ne k
      cases hh : TL.numL k with
      | nil => exact absurd hh this
      | cons _ _ => simp
    rw [ev, if_pos ⟨⟨l0, l1⟩, digs_iff.mpr (by rw [e]; exact TL.numL_digits k), rfl⟩]
theorem numBy_ok {w : Str} {n : Int} (h : numBy w = some n) : numOk n = true := (numBy_some.mp h).1
theorem numberby_ok {w : Str} {h : DH} (hp : Pur h) (hw : PyData.strOk w = true) (z : w.length ≤ sizeLine) : F_number_by [.str w] h = .ok (onD (numBy w)) h := by
  have eo : onD (numBy w) = ofP (match numBy w with | some n => .int n | none => .none) := by cases numBy w <;> rfl
  rw [eo]
  refine den_eq ?_ hp rfl
  rw [← eo]
  unfold B_number_by slots0
  have e : mComp [1] (.nm 1) mYes (m2 (inM false) (mVar 1) (mC (.str "0123456789"))) false (srcSeqA (mVar 0)) [some (.str w), none] h = .ok (.lv ((TL.tl w).map fun c => .bl (decide (c ∈ TL.tl FIG)))) h :=
    comp_lv (fun c : Nat => D.str ⟨#[c]⟩) (fun c => .bl (decide (c ∈ TL.tl FIG))) (l := TL.tl w) (c := fun _ => true) (by simp [signsOf]) rfl (by rw [← TL.len_tl]; exact z) fun c _ => ⟨[some (.str w), some (.str ⟨#[c]⟩)], rfl, rfl, by
      show (m2 (inM false) (mVar 1) (mC (.str FIG))) _ h = _
      simp [in_str', inStr_one]⟩
  have i1 : (1 : Int) ≤ (w.length : Int) ↔ 1 ≤ w.length := by omega
  have i2 : (w.length : Int) ≤ 4 ↔ w.length ≤ 4 := by omega
  have ed : ((TL.tl w).all fun c => decide (c ∈ TL.tl FIG)) = digs w := by
    unfold digs
    congr 1; funext c
    rw [Bool.eq_iff_iff, Bool.and_eq_true, decide_eq_true_eq, decide_eq_true_eq, decide_eq_true_eq]
    exact fig_mem
  have ea : all1 (.lv ((TL.tl w).map fun c => .bl (decide (c ∈ TL.tl FIG)))) h = .ok (.bl (digs w)) h := by rw [all_lv, ed]
  generalize ((TL.tl w).map fun c => D.bl (decide (c ∈ TL.tl FIG))) = bs at e ea
  have el := len_str (h := h) z
  by_cases c1 : 1 ≤ w.length
  · by_cases c2 : w.length ≤ 4
    · cases c3 : digs w with
      | true =>
        rw [c3] at ea
        have e2 : intA (.str w) h = .ok (.int (numV w)) h := by
          unfold intA
          have : intText? w = some (numV w) := intText_digits (digs_iff.mp c3) (by
            intro z2
            rw [TL.len_tl] at c1
            have : (TL.tl w) = [] := z2
            rw [this] at c1
            simp at c1) (by omega)
          simp only [this]
          rw [if_pos (by omega)]; rfl
        have nv : (numV w).natAbs < 1000000000000 := by
          have := dv_lt _ (digs_iff.mp c3)
          have e : (TL.tl w).length ≤ 4 := by rw [← TL.len_tl]; exact c2
          have := Nat.lt_of_lt_of_le this (Nat.pow_le_pow_right (by decide) e)
          unfold numV
          simp
          omega
        have e3 := str_int' (h := h) nv
        have e4 := eq_str' (neg := true) (h := h) (numS_ok (numV w)) hw
        unfold numBy
        by_cases c4 : numS (numV w) = w
        · rw [if_pos ⟨⟨c1, c2⟩, c3, c4⟩]
          rw [decide_eq_true c4] at e4
          simp [el, i1, i2, c1, c2, e, ea, e2, e3, e4, onD]
        · rw [if_neg fun h => c4 h.2.2]
          rw [decide_eq_false c4] at e4
          simp [el, i1, i2, c1, c2, e, ea, e2, e3, e4, onD]
      | false =>
        rw [c3] at ea
        unfold numBy
        rw [if_neg fun h => by rw [c3] at h; cases h.2.1]
        simp [el, i1, i2, c1, c2, e, ea, onD]
    · unfold numBy
      rw [if_neg fun h => c2 h.1.2]
      simp [el, i1, i2, c1, c2, onD]
  · unfold numBy
    rw [if_neg fun h => c1 h.1.1]
    simp [el, i1, i2, c1, onD]

/-! makes written -/
def DOT : Str := "."
theorem tl_DOT : TL.tl DOT = [46] := by decide +kernel
theorem DOT_small : DOT.cps.all (· < 256) = true := by decide +kernel
theorem DOT_ok : PyData.strOk DOT = true := by decide +kernel
def mkS (m : Mk) : Str := Txt.join DOT (m.map numS)
theorem mk_all {m : Mk} (h : mkOk m = true) : 1 ≤ m.length ∧ m.length ≤ 4 ∧ ∀ n ∈ m, numOk n = true := by
  unfold mkOk at h
  simpa using h
theorem num_in {n : Int} (h : numOk n = true) : 0 ≤ n ∧ n ≤ 9999 := by
  unfold numOk at h
  simpa using h
theorem num_len {n : Int} (h : numOk n = true) : 1 ≤ (numS n).length ∧ (numS n).length ≤ 4 := by
  have e := numBy_some.mpr ⟨h, rfl⟩
  unfold numBy at e
  split at e
  · rename_i c; exact c.1
  · cases e
theorem num_free {n : Int} {s : Nat} (h : numOk n = true) (hs : s < 48 ∨ 57 < s) : s ∉ TL.tl (numS n) := by
  obtain ⟨k, rfl⟩ := Int.eq_ofNat_of_zero_le (num_in h).1
  rw [tl_numS]
  exact TL.numL_free hs
theorem sum_le {α : Type} (f : α → Nat) (k : Nat) : ∀ l : List α, (∀ a ∈ l, f a ≤ k) → (l.map f).sum ≤ l.length * k
  | [], _ => by simp
  | a :: l, h => by
    have h1 := h a (by simp)
    have h2 := sum_le f k l fun a ha => h a (List.mem_cons_of_mem _ ha)
    rw [List.map_cons, List.sum_cons, List.length_cons, Nat.succ_mul]
    omega
theorem mkS_ok {m : Mk} : PyData.strOk (mkS m) = true := join_okS DOT_ok fun y hy => by
  obtain ⟨n, _, rfl⟩ := List.mem_map.mp hy
  exact numS_ok n
theorem tl_mkS (m : Mk) : TL.tl (mkS m) = TL.joinL [46] (m.map fun n => TL.tl (numS n)) := by
  unfold mkS
  rw [TL.join_eq, TL.tl_join, tl_DOT, List.map_map]
  rfl
theorem join_num {m : Mk} {h : DH} (hm : mkOk m = true) : fJoin (.str DOT) [.lv (m.map fun n => .str (numS n))] h = .ok (.str (mkS m)) h := by
  obtain ⟨m1, m2, m3⟩ := mk_all hm
  have e : (m.map fun n => D.str (numS n)) = (m.map numS).map .str := by rw [List.map_map]; rfl
  rw [e]
  refine join_lv ?_ DOT_ok fun y hy => by
    obtain ⟨n, _, rfl⟩ := List.mem_map.mp hy
    exact numS_ok n
  have := sum_le (fun n => (numS n).length) 4 m fun n hn => (num_len (m3 n hn)).2
  rw [List.map_map, List.length_map]
  have d : DOT.length = 1 := by decide +kernel
  rw [d]
  show (m.map fun n => (numS n).length).sum + m.length * 1 ≤ 16777216
  omega
theorem small_of {n : Int} (h : numOk n = true) : n.natAbs < 1000000000000 := by
  have := num_in h
  omega
theorem joinL_len {S : List Nat} {p : List Nat} : ∀ {parts : List (List Nat)}, p ∈ parts → p.length ≤ (TL.joinL S parts).length
  | [], h => by simp at h
  | [q], h => by
    have : p = q := by simpa using h
    subst this; exact Nat.le_refl _
  | q :: r :: l, h => by
    show _ ≤ (q ++ (S ++ TL.joinL S (r :: l))).length
    simp only [List.length_append]
    rcases List.mem_cons.mp h with rfl | h
    · omega
    · have := joinL_len (S := S) h
      omega
theorem split_len {a b p : Str} (h : p ∈ Txt.split a b) : p.length ≤ a.length := by
  have e := StrLaws.join_split a b
  have := joinL_len (S := TL.tl b) (List.mem_map_of_mem (f := TL.tl) h)
  rw [← TL.tl_join, e, ← TL.len_tl, ← TL.len_tl] at this
  exact this
def mkBy (w : Str) : Option Mk := if (1 ≤ (Txt.split w DOT).length ∧ (Txt.split w DOT).length ≤ 4) ∧ ((Txt.split w DOT).map numBy).all onOk = true then some (((Txt.split w DOT).map numBy).filterMap id) else none
def omD : Option Mk → D
  | some m => mkT m
  | none => .non
theorem on_all : ∀ l : List (Option Int), l.all onOk = true → l = (l.filterMap id).map some
  | [], _ => rfl
  | none :: l, h => by simp [onOk] at h
  | some n :: l, h => by
    have h2 : l.all onOk = true := by
      rw [List.all_cons, Bool.and_eq_true] at h; exact h.2
    rw [List.filterMap_cons]
    show some n :: l = some n :: (l.filterMap id).map some
    rw [← on_all l h2]
theorem makeby_ok {w : Str} {h : DH} (hp : Pur h) (hw : PyData.strOk w = true) (z : w.length + 2 ≤ sizeLine) : F_make_by [.str w] h = .ok (omD (mkBy w)) h := by
  have eo : omD (mkBy w) = ofP (match mkBy w with | some m => mkP m | none => .none) := by cases mkBy w <;> first | rfl | (dsimp only; rw [ofP_mk]; rfl)
  rw [eo]
  refine den_eq ?_ hp rfl
  rw [← eo]
  unfold B_make_by slots0
  have sz : (Txt.split w DOT).length ≤ sizeLine := Nat.le_trans (PyProof.Rows.split_le w DOT) z
  have es : mMeth .str (fSplit false) (mVar 0) (mCons (mC (.str ".")) mNil) [some (.str w), none, none] h = .ok (.lv ((Txt.split w DOT).map .str)) h := by
    have := split_ok' (a := w) (b := DOT) (H := h) (by decide +kernel) z hw
    unfold DOT at this ⊢
    simp [this]
  have e : mComp [2] (.nm 2) mYes (mCall F_number_by (mCons (mVar 2) mNil)) false (srcSeqA (mMeth .str (fSplit false) (mVar 0) (mCons (mC (.str ".")) mNil))) [some (.str w), none, none] h = .ok (.lv ((Txt.split w DOT).map fun p => onD (numBy p))) h :=
    comp_lv D.str (fun p => onD (numBy p)) (c := stays (.lv ((Txt.split w DOT).map .str)) ((Txt.split w DOT).map .str)) (by rw [ev_srcSeqA, es]; simp) (by simp) sz fun p hp' => ⟨[some (.str w), none, some (.str p)], rfl, rfl, by
      have := numberby_ok (h := h) (w := p) hp (List.all_eq_true.mp (split_ok hw) p hp') (Nat.le_trans (split_len hp') (by omega))
      simpa using this⟩
  have e2 : ((Txt.split w DOT).map fun p => onD (numBy p)) = ((Txt.split w DOT).map numBy).map onD := by rw [List.map_map]; rfl
  have e3 := ismake_on (h := h) (l := (Txt.split w DOT).map numBy) hp (by rw [List.length_map]; exact sz)
  rw [List.length_map] at e3
  rw [e2] at e
  have key : (decide (1 ≤ (Txt.split w DOT).length) && (decide ((Txt.split w DOT).length ≤ 4) && ((Txt.split w DOT).map numBy).all onOk)) = true → D.tup (((Txt.split w DOT).map numBy).map onD) = omD (mkBy w) := fun c => by
    simp only [Bool.and_eq_true, decide_eq_true_eq] at c
    unfold mkBy
    rw [if_pos ⟨⟨c.1, c.2.1⟩, c.2.2⟩]
    have ea := on_all _ c.2.2
    conv => lhs; rw [ea]
    rw [List.map_map]; rfl
  have key2 : (decide (1 ≤ (Txt.split w DOT).length) && (decide ((Txt.split w DOT).length ≤ 4) && ((Txt.split w DOT).map numBy).all onOk)) = false → D.non = omD (mkBy w) := fun c => by
    unfold mkBy
    rw [if_neg fun h => by
      rw [decide_eq_true h.1.1, decide_eq_true h.1.2, h.2] at c
      cases c]
    rfl
  generalize (decide (1 ≤ (Txt.split w DOT).length) && (decide ((Txt.split w DOT).length ≤ 4) && ((Txt.split w DOT).map numBy).all onOk)) = b at e3 key key2
  generalize ((Txt.split w DOT).map numBy).map onD = ds at e e3 key
  generalize omD (mkBy w) = r at key key2 ⊢
  cases b with
  | true =>
    rw [key rfl] at e3
    simp [e, e3, key rfl]
  | false => simp [e, e3, key2 rfl]
theorem split_mkS {m : Mk} (h : mkOk m = true) : Txt.split (mkS m) DOT = m.map numS := by
  obtain ⟨m1, m2, m3⟩ := mk_all h
  refine TL.split_join tl_DOT DOT_small (fun e => ?_) fun p hp => ?_
  · rw [List.map_eq_nil_iff] at e
    rw [e] at m1
    simp at m1
  · obtain ⟨n, hn, rfl⟩ := List.mem_map.mp hp
    exact num_free (m3 n hn) (by decide)
theorem mkBy_some {w : Str} {m : Mk} : mkBy w = some m ↔ mkOk m = true ∧ w = mkS m := by
  constructor
  · intro h
    unfold mkBy at h
    split at h
    · rename_i c
      cases h
      obtain ⟨⟨c1, c2⟩, c3⟩ := c
      have ea := on_all _ c3
      generalize ((Txt.split w DOT).map numBy).filterMap id = m at ea ⊢
      have el : (Txt.split w DOT).length = m.length := by
        have := congrArg List.length ea
        simpa using this
      have ep : Txt.split w DOT = m.map numS := by
        clear c1 c2 c3 el
        generalize Txt.split w DOT = l at ea
        induction m generalizing l with
        | nil => simpa using ea
        | cons n m ih =>
          cases l with
          | nil => simp at ea
          | cons p l =>
            simp only [List.map_cons, List.cons.injEq] at ea
            rw [List.map_cons, ← ih l ea.2, (numBy_some.mp ea.1).2]
      refine ⟨?_, ?_⟩
      · unfold mkOk
        rw [← el]
        have : m.all numOk = true := by
          rw [ea, List.all_map] at c3
          exact c3
        simp [c1, c2, this]
      · unfold mkS
        rw [← ep, TL.join_eq, StrLaws.join_split]
    · cases h
  · rintro ⟨h, rfl⟩
    obtain ⟨m1, m2, m3⟩ := mk_all h
    have e : ((m.map numS).map numBy) = m.map some := by
      rw [List.map_map]
      exact List.map_congr_left fun n hn => numBy_some.mpr ⟨m3 n hn, rfl⟩
    unfold mkBy
    rw [split_mkS h, e, List.length_map, List.filterMap_map]
    rw [if_pos ⟨⟨m1, m2⟩, by rw [List.all_map]; exact List.all_eq_true.mpr fun n hn => m3 n hn⟩]
    congr 1
    show m.filterMap (fun n => some n) = m
    simp
theorem mkS_len {m : Mk} (h : mkOk m = true) : (mkS m).length ≤ 19 := by
  obtain ⟨m1, m2, m3⟩ := mk_all h
  rw [TL.len_tl, tl_mkS]
  have : ∀ l : List (List Nat), (∀ p ∈ l, p.length ≤ 4) → (TL.joinL [46] l).length ≤ l.length * 5 := by
    intro l
    induction l with
    | nil => intro _; simp [TL.joinL]
    | cons p l ih =>
      intro hl
      cases l with
      | nil => have := hl p (by simp); simp [TL.joinL]; omega
      | cons q l =>
        have h1 := hl p (by simp)
        have h2 := ih fun p hp => hl p (List.mem_cons_of_mem _ hp)
        show (p ++ ([46] ++ TL.joinL [46] (q :: l))).length ≤ _
        simp only [List.length_append, List.length_cons, List.length_nil] at *
        omega
  have h3 : ∀ l : List (List Nat), l ≠ [] → (TL.joinL [46] l).length + 1 = (l.map fun p => p.length + 1).sum := by
    intro l
    induction l with
    | nil => intro h; exact absurd rfl h
    | cons p l ih =>
      intro _
      cases l with
      | nil => simp [TL.joinL]
      | cons q l =>
        have h2 := ih (by simp)
        show (p ++ ([46] ++ TL.joinL [46] (q :: l))).length + 1 = _
        rw [List.map_cons, List.sum_cons, ← h2]
        simp only [List.length_append, List.length_cons, List.length_nil]
        omega
  have e := h3 (m.map fun n => TL.tl (numS n)) (fun e => by rw [List.map_eq_nil_iff] at e; rw [e] at m1; simp at m1)
  have b := sum_le (fun p : List Nat => p.length + 1) 5 (m.map fun n => TL.tl (numS n)) fun p hp => by
    obtain ⟨n, hn, rfl⟩ := List.mem_map.mp hp
    have := (num_len (m3 n hn)).2
    rw [TL.len_tl] at this
    omega
  rw [List.length_map] at b
  omega
end Wy

set_option Elab.async false
set_option linter.all false
set_option maxRecDepth 100000
set_option maxHeartbeats 4000000
namespace Wy
open PySem PySem.Spec PyProof.Rows L2

/-! ### yards as data -/
abbrev Bd := List (Mk × Option Mk)
structure Tie where
  word : Str
  name : Str
  bound : Bd
  along : Str
  deriving DecidableEq
abbrev Made := Mk × Bool × List Tie
abbrev Ware := Str × List Made
abbrev Yard := List Ware
def omP : Option Mk → PyData
  | some m => mkP m
  | none => .none
def pieceP (p : Mk × Option Mk) : PyData := .tuple [mkP p.1, omP p.2]
def bdP (b : Bd) : PyData := .tuple (b.map pieceP)
def tieP (t : Tie) : PyData := .tuple [.str t.word, .str t.name, bdP t.bound, .str t.along]
def madeP (m : Made) : PyData := .tuple [mkP m.1, .bool m.2.1, .tuple (m.2.2.map tieP)]
def wareP (w : Ware) : PyData := .tuple [.str w.1, .tuple (w.2.map madeP)]
def yardP (y : Yard) : PyData := .tuple (y.map wareP)
theorem ofP_om (o : Option Mk) : ofP (omP o) = omD o := by cases o <;> first | rfl | exact ofP_mk _
/-- the makes of a ware as data -/
def madesD (l : List Made) : D := .tup (l.map fun m => ofP (madeP m))
def yardD (y : Yard) : D := .tup (y.map fun w => .tup [.str w.1, madesD w.2])
theorem ofP_tup (l : List PyData) : ofP (.tuple l) = .tup (l.map ofP) := by simp only [ofP, ofPs_map]
theorem ofP_list (l : List PyData) : ofP (.list l) = .lv (l.map ofP) := by simp only [ofP, ofPs_map]
theorem ofP_yard (y : Yard) : ofP (yardP y) = yardD y := by
  unfold yardP yardD
  rw [ofP_tup, List.map_map]
  congr 1
  refine List.map_congr_left fun w _ => ?_
  show ofP (wareP w) = _
  unfold wareP madesD
  rw [ofP_tup, List.map_cons, List.map_cons, List.map_nil, ofP_tup, List.map_map]
  rfl
theorem ofP_made (m : Made) : ofP (madeP m) = .tup [mkT m.1, .bl m.2.1, .tup (m.2.2.map fun t => ofP (tieP t))] := by
  unfold madeP
  rw [ofP_tup, List.map_cons, List.map_cons, List.map_cons, List.map_nil, ofP_mk, ofP_tup, List.map_map]
  rfl
theorem lay_mk (m : Mk) : (mkP m).canLay0 = true := by
  unfold mkP
  simp only [PyData.canLay0]
  rw [lays_iff]
  intro p hp
  obtain ⟨n, _, rfl⟩ := List.mem_map.mp hp
  rfl
theorem depth_mk (m : Mk) : (mkP m).depth ≤ 2 := by
  unfold mkP
  simp only [PyData.depth]
  have := depthAll_le (k := 1) (l := m.map .int) fun p hp => by
    obtain ⟨n, _, rfl⟩ := List.mem_map.mp hp
    simp [PyData.depth]
  omega
theorem lay_om (o : Option Mk) : (omP o).canLay0 = true := by
  cases o with
  | none => rfl
  | some m => exact lay_mk m
theorem depth_om (o : Option Mk) : (omP o).depth ≤ 2 := by
  cases o with
  | none => simp [omP, PyData.depth]
  | some m => exact depth_mk m
theorem eqv_mk (a b : Mk) : PyData.eqv (mkP a) (mkP b) = decide (a = b) := by
  unfold mkP
  simp only [PyData.eqv]
  exact eqvAll_ints a b
theorem eqv_mk_om (a : Mk) (o : Option Mk) : PyData.eqv (mkP a) (omP o) = decide (some a = o) := by
  cases o with
  | none => unfold mkP omP; simp [PyData.eqv]
  | some b =>
    show PyData.eqv (mkP a) (mkP b) = _
    rw [eqv_mk]
    simp
def yNames (y : Yard) : List Str := y.map (·.1)
/-- names of wares that are texts, unlike; not too many -/
structure YardOk (y : Yard) : Prop where
  nodup : (yNames y).Nodup
  txt : ∀ w ∈ y, PyData.strOk w.1 = true
  few : y.length ≤ 1000
  makes : ∀ w ∈ y, w.2.length ≤ 1000
theorem dict_yard {y : Yard} {h : DH} (n : (yNames y).Nodup) : dict1 false (yardD y) h = .ok (.dv false (y.map fun w => .str w.1) (y.map fun w => madesD w.2)) h := dict_tup (fun w : Ware => w.1) (fun w => madesD w.2) n
theorem of_yard {y : Yard} {h : DH} : dictOf h (.dv false (y.map fun w => .str w.1) (y.map fun w => madesD w.2)) = some (false, ents (fun w : Ware => w.1) (fun w => madesD w.2) y) := dictOf_dv _ _
end Wy

set_option Elab.async false
set_option linter.all false
set_option maxRecDepth 100000
set_option maxHeartbeats 4000000
namespace Wy
open PySem PySem.Spec PyProof.Rows L2

/-! ### the words of a row -/
theorem sp_len : (sp.length == 0) = false := by decide +kernel
def rowW (x : Str) : List Str := match wordsS x with
  | [] => []
  | w :: r => if (TL.tl w).head? = some 35 then [] else w :: r
theorem wordsS_mem {x w : Str} (h : w ∈ wordsS x) : w ∈ Txt.split x sp ∧ w ≠ "" := by
  unfold wordsS at h
  simpa using List.mem_filter.mp h
theorem words_strs {x : Str} (hx : PyData.strOk x = true) : ∀ w ∈ wordsS x, PyData.strOk w = true := fun w hw => List.all_eq_true.mp (split_ok hx) w (wordsS_mem hw).1
theorem words_len {x : Str} : ∀ w ∈ wordsS x, w.length ≤ x.length := fun w hw => split_len (wordsS_mem hw).1
theorem wordsof_ok {x : Str} {h : DH} (hp : Pur h) (hx : PyData.strOk x = true) (z : x.length + 2 ≤ sizeLine) : F_words_of [.str x] h = .ok (.lv ((rowW x).map .str)) h := by
  have eo : D.lv ((rowW x).map .str) = ofP (.list ((rowW x).map .str)) := by rw [ofP, ofPs_strs]
  rw [eo]
  refine den_eq ?_ hp rfl
  rw [← eo]
  unfold B_words_of slots0
  have es : fSplit false (.str x) [.str (Str.ofString " ")] h = .ok (.lv ((Txt.split x sp).map .str)) h := split_ok' sp_len z hx
  have sz : (Txt.split x sp).length ≤ sizeLine := Nat.le_trans (PyProof.Rows.split_le x sp) z
  have e : mComp [2] (.nm 2) (mTest (m2 (eqM true) (mVar 2) (mC (.str "")))) (mVar 2) false (srcSeqA (mMeth .str (fSplit false) (mVar 0) (mCons (mC (.str " ")) mNil))) [some (.str x), none, none] h = .ok (.lv ((wordsS x).map .str)) h :=
    comp_lvf D.str (fun w => decide (w ≠ "")) D.str (l := Txt.split x sp) (c := stays (.lv ((Txt.split x sp).map .str)) ((Txt.split x sp).map .str)) (by simp [es]) (by simp) sz fun w hw => ⟨[some (.str x), none, some (.str w)], rfl, by
      have := eq_str' (neg := true) (h := h) (List.all_eq_true.mp (split_ok hx) w hw) (ok_of "")
      simp [this], fun _ => by simp⟩
  have ws := words_strs hx
  have wl := words_len (x := x)
  have ne : ∀ w ∈ wordsS x, w ≠ "" := fun w hw => (wordsS_mem hw).2
  unfold rowW
  generalize wordsS x = l at e ws wl ne ⊢
  have eq := eq_strs (neg := true) (h := h) (l := l) (m := []) ws (by simp)
  rw [List.map_nil] at eq
  cases l with
  | nil =>
    rw [List.map_nil] at e eq ⊢
    simp [e, eq]
  | cons w r =>
    have w0 := ne w (by simp)
    have w1 := Nat.le_trans (wl w (by simp)) (show x.length ≤ sizeLine by omega)
    have tlw : TL.tl w ≠ [] := fun z => w0 (tl_empty.mp z)
    obtain ⟨c, t, ec⟩ : ∃ c t, TL.tl w = c :: t := by
      cases h : TL.tl w with
      | nil => exact absurd h tlw
      | cons c t => exact ⟨c, t, rfl⟩
    have cok : PyData.strOk ⟨#[c]⟩ = true := by
      have := okS_tl.mp (ws w (by simp)) c (by rw [ec]; simp)
      rw [okS_tl]
      intro d hd
      have : d = c := by simpa using hd
      omega
    have ix : ixA (.str w) (.int 0) h = .ok (.str ⟨#[c]⟩) h := by
      rw [ix_str w1]
      have : atI w.cps.toList 0 = some c := by
        show atI (TL.tl w) 0 = some c
        rw [ec, atI_0]
      rw [this]
    have e35 : ((⟨#[c]⟩ : Str) = Str.ofString "#") ↔ c = 35 := by
      have : TL.tl (Str.ofString "#") = [35] := by decide +kernel
      constructor
      · intro h
        have h2 := congrArg TL.tl h
        rw [this] at h2
        have h3 : [c] = [35] := h2
        simpa using h3
      · intro h
        exact TL.ext_tl (by rw [this, h])
    have eqh := eq_str' (neg := false) (h := h) cok (ok_of "#")
    have ixl : atI ((w :: r).map D.str) 0 = some (.str w) := by rw [List.map_cons, atI_0]
    rw [decide_eq_false (by simp)] at eq
    generalize e2 : (w :: r).map D.str = wr at e eq ixl ⊢
    dsimp only
    rw [ec]
    by_cases c35 : c = 35
    · rw [decide_eq_true (e35.mpr c35)] at eqh
      have : (if (c :: t).head? = some 35 then [] else w :: r) = [] := if_pos (by rw [c35]; rfl)
      rw [this]
      simp [e, eq, ixl, ix, eqh]
    · rw [decide_eq_false (fun h => c35 (e35.mp h))] at eqh
      have : (if (c :: t).head? = some 35 then [] else w :: r) = w :: r := if_neg (by simpa using c35)
      rw [this, e2]
      simp [e, eq, ixl, ix, eqh]

/-! ### a lock read -/
abbrev Lock := List (Str × Mk)
def lockD (l : Lock) : D := .tup (l.map fun p => .tup [.str p.1, mkT p.2])
def lockP (l : Lock) : PyData := .tuple (l.map fun p => .tuple [.str p.1, mkP p.2])
theorem ofP_lock (l : Lock) : ofP (lockP l) = lockD l := by
  unfold lockP lockD
  rw [ofP_tup, List.map_map]
  congr 1
  refine List.map_congr_left fun p _ => ?_
  show ofP (.tuple [.str p.1, mkP p.2]) = _
  rw [ofP_tup, List.map_cons, List.map_cons, List.map_nil, ofP_mk]
  rfl
/-- the makes of a ware -/
def makesOf (y : Yard) (n : Str) : Option (List Mk) := (y.find? fun w => decide (w.1 = n)).map fun w => w.2.map (·.1)
def lockStep (y : Yard) (f : Lock) (line : Str) : Option Lock := match rowW line with
  | [] => some f
  | [n, m] => match makesOf y n, mkBy m with
    | some ms, some k => if n ∉ f.map (·.1) ∧ k ∈ ms then some (f ++ [(n, k)]) else none
    | _, _ => none
  | _ => none
def sortL (l : Lock) : Lock := l.mergeSort fun a b => !ltS b.1 a.1
def lockBy (y : Yard) (x : Str) : Option Lock := (Txt.split x ⟨#[10]⟩).foldlM (lockStep y) []

def NL : Str := ⟨#[10]⟩
theorem nl_is : (Str.ofString "\n") = NL := by decide +kernel
theorem nl_len : (NL.length == 0) = false := by decide +kernel
theorem tl_NL : TL.tl NL = [10] := rfl
def lkP (p : Str × Mk) : PyData := .tuple [.str p.1, mkP p.2]
theorem ofP_lk (p : Str × Mk) : ofP (lkP p) = .tup [.str p.1, mkT p.2] := by
  unfold lkP
  rw [ofP_tup, List.map_cons, List.map_cons, List.map_nil, ofP_mk]
  rfl
theorem alike_ints : ∀ a b : List Int, PySem.W.alikeAll (a.map .int) (b.map .int) = true
  | [], _ => by simp [PySem.W.alikeAll]
  | _ :: _, [] => by simp [PySem.W.alikeAll]
  | x :: a, y :: b => by simp [PySem.W.alikeAll, PySem.W.alike, alike_ints a b]
theorem alike_mk (a b : Mk) : PySem.W.alike (mkP a) (mkP b) = true := by
  unfold mkP
  simp only [PySem.W.alike]
  exact alike_ints a b
theorem alike_lk (p q : Str × Mk) : PySem.W.alike (lkP p) (lkP q) = true := by
  unfold lkP
  simp [PySem.W.alike, PySem.W.alikeAll, alike_mk]
theorem lay_lk {p : Str × Mk} (h : PyData.strOk p.1 = true) : (lkP p).canLay0 = true := by
  unfold lkP
  simp only [PyData.canLay0, PyData.canLayAll0, h, lay_mk, Bool.and_self]
theorem depth_lk (p : Str × Mk) : (lkP p).depth ≤ 3 := by
  unfold lkP
  have := depth_mk p.2
  simp only [PyData.depth, PyData.depthAll]
  omega
theorem lk_le {f : Lock} (n : (f.map (·.1)).Nodup) {a b : Str × Mk} (ha : a ∈ f) (hb : b ∈ f) : (!ltS b.1 a.1) = leP (lkP a) (lkP b) := by
  unfold leP
  by_cases c : b.1 = a.1
  · have : a = b := by
      have h1 := find_nodup (k := fun p : Str × Mk => p.1) n ha
      have h2 := find_nodup (k := fun p : Str × Mk => p.1) n hb
      rw [← c] at h1
      rw [h1] at h2
      exact Option.some.inj h2
    subst this
    rw [lt_irr]
    cases e : ltS a.1 a.1 with
    | false => rfl
    | true => exact absurd rfl (ltS_ne e)
  · unfold lkP
    rw [lt_named c]
theorem sort_lk {f : Lock} (n : (f.map (·.1)).Nodup) : sortP (f.map lkP) = (sortL f).map lkP := by
  rw [sortP_eq]
  exact (List.map_mergeSort (r := fun a b : Str × Mk => !ltS b.1 a.1) (s := leP) (f := lkP) fun a ha b hb => lk_le n ha hb).symm
theorem pair_ents (f : Lock) : pairD (ents (fun p : Str × Mk => p.1) (fun p => mkT p.2) f) = ofPs (f.map lkP) := by
  unfold pairD ents
  rw [ofPs_map, List.map_map, List.map_map]
  exact List.map_congr_left fun p _ => (ofP_lk p).symm
theorem sortL_len (f : Lock) : (sortL f).length = f.length := by
  unfold sortL
  rw [List.length_mergeSort]
theorem srt_lock {f : Lock} {h : DH} {d : D} (e : dictOf h d = some (false, ents (fun p : Str × Mk => p.1) (fun p => mkT p.2) f)) (n : (f.map (·.1)).Nodup) (s : ∀ p ∈ f, PyData.strOk p.1 = true) (z : f.length ≤ sizeLine) :
    srtIt false d h = .ok (.lv ((sortL f).map fun p => .tup [.str p.1, mkT p.2])) h := by
  have lay : PyData.canLayAll0 (f.map lkP) = true := lays_iff.mpr fun p hp => by
    obtain ⟨q, hq, rfl⟩ := List.mem_map.mp hp
    exact lay_lk (s q hq)
  have al : allAlike (f.map lkP) = true := by
    unfold allAlike
    rw [List.all_eq_true]
    intro a ha
    rw [List.all_eq_true]
    intro b hb
    obtain ⟨a', _, rfl⟩ := List.mem_map.mp ha
    obtain ⟨b', _, rfl⟩ := List.mem_map.mp hb
    exact alike_lk a' b'
  have so : sortable (f.map lkP) = true := by
    unfold sortable
    rw [Bool.or_eq_true, List.all_eq_true, List.all_eq_true]
    refine .inl fun a ha => ?_
    obtain ⟨a', _, rfl⟩ := List.mem_map.mp ha
    rfl
  have dp : PyData.depthAll (f.map lkP) ≤ 64 := Nat.le_trans (depthAll_le (k := 3) fun p hp => by
    obtain ⟨q, _, rfl⟩ := List.mem_map.mp hp
    exact depth_lk q) (by decide)
  have ko : keysOk (ents (fun p : Str × Mk => p.1) (fun p => mkT p.2) f) = true := by
    unfold keysOk ents
    rw [List.all_eq_true]
    intro q hq
    obtain ⟨p, hp, rfl⟩ := List.mem_map.mp hq
    exact s p hp
  unfold srtIt
  rw [e]
  dsimp only
  rw [pair_ents, toPs_ofPs lay]
  dsimp only
  rw [if_pos ⟨al, so, dp, ko⟩]
  have es : sortZ (ofPs (f.map lkP)) (f.map lkP) = (sortL f).map fun p => D.tup [.str p.1, mkT p.2] := by
    rw [ofPs_map, sortZ_map]
    show (sortP (f.map lkP)).map ofP = _
    rw [sort_lk n, List.map_map]
    exact List.map_congr_left fun p _ => ofP_lk p
  rw [es]
  exact mkL_f (by rw [List.length_map, sortL_len]; exact z)
theorem any_find {α : Type} {k : α → Str} {x : Str} {l : List α} : (l.any fun a => decide (k a = x)) = (l.find? fun a => decide (k a = x)).isSome := by
  rw [Bool.eq_iff_iff, List.find?_isSome]
  simp
theorem unders_all {n : Nat} : ∀ {l : List D}, (∀ d ∈ l, d.under n = true) → D.unders n l = true
  | [], _ => by simp [D.unders]
  | a :: l, h => by simp [D.unders, h a (by simp), unders_all fun d hd => h d (List.mem_cons_of_mem _ hd)]
theorem mkT_under {n : Nat} (m : Mk) : (mkT m).under n = true := by
  rw [← ofP_mk]; exact ofP_under _
theorem ents_under {α : Type} {k : α → Str} {v : α → D} {l : List α} {tk : Bool} {n : Nat} (h : ∀ a ∈ l, (v a).under n = true) : Ob.under n (.dct tk (ents k v l)) = true := by
  unfold ents
  simp only [Ob.under, Bool.and_eq_true]
  refine ⟨unders_all fun d hd => ?_, unders_all fun d hd => ?_⟩
  · simp only [List.map_map] at hd
    obtain ⟨a, _, rfl⟩ := List.mem_map.mp hd
    simp [D.under]
  · simp only [List.map_map] at hd
    obtain ⟨a, ha, rfl⟩ := List.mem_map.mp hd
    exact h a ha
theorem rowW_mem {line w : Str} (hl : PyData.strOk line = true) (hw : w ∈ rowW line) : PyData.strOk w = true ∧ w.length ≤ line.length := by
  unfold rowW at hw
  have : w ∈ wordsS line := by
    revert hw
    cases wordsS line with
    | nil => intro h; exact h
    | cons a r =>
      dsimp only
      split
      · intro h; simp at h
      · intro h; exact h
  exact ⟨words_strs hl w this, words_len w this⟩
/-- the state while a lock is read -/
structure LkSt (x : Str) (y : Yard) (h : DH) (f : Lock) (s : SD) (H : DH) : Prop where
  ex : ∃ x3 x4 x5, s = [some (.str x), some (yardD y), some (.ref h.length), x3, x4, x5, none]
  hp : H = h ++ [.dct false (ents (fun p : Str × Mk => p.1) (fun p => mkT p.2) f)]
  nd : (f.map (·.1)).Nodup
  sub : ∀ p ∈ f, p.1 ∈ yNames y
theorem LkSt.len {x : Str} {y : Yard} {h : DH} {f : Lock} {s : SD} {H : DH} (i : LkSt x y h f s H) : f.length ≤ y.length := by
  have : (f.map (·.1)).length ≤ (yNames y).length := i.nd.length_le_of_subset (fun n hn => by
    obtain ⟨p, hp, rfl⟩ := List.mem_map.mp hn
    exact i.sub p hp)
  unfold yNames at this
  simpa using this
def lockB : SD → M Fl := (mSeq (mAsg (mCall F_words_of (mCons (mVar 3) mNil)) (gNm 4)) (mSeq (mIf (mTest (m2 (eqM false) (mVar 4) (mLst false mNil))) (mSeq mCnt mNext) mNext) (mSeq (mIf (mOrT (mTest (m2 (eqM true) (mCall (one len1) (mCons (mVar 4) mNil)) (mC (.int 2)))) (mOrT (mTest (m2 (inM true) (m2 ixA (mVar 4) (mC (.int 0))) (mCall (one (dict1 false)) (mCons (mVar 1) mNil)))) (mTest (m2 (inM false) (m2 ixA (mVar 4) (mC (.int 0))) (mVar 2))))) (mSeq (mRaise "NoLock") mNext) mNext) (mSeq (mAsg (mCall F_make_by (mCons (m2 ixA (mVar 4) (mC (.int 1))) mNil)) (gNm 5)) (mSeq (mIf (mTest (m2 (inM true) (mVar 5) (mComp [6] (.nm 6) mYes (m2 ixA (mVar 6) (mC (.int 0))) false (srcSeqA (m2 ixA (mCall (one (dict1 false)) (mCons (mVar 1) mNil)) (m2 ixA (mVar 4) (mC (.int 0)))))))) (mSeq (mRaise "NoLock") mNext) mNext) (mSeq (mAsg (mVar 5) (gSb (mVar 2) (m2 ixA (mVar 4) (mC (.int 0))) setM)) mNext))))))
theorem lock_step {x : Str} {y : Yard} {h : DH} (hp : Pur h) (oy : YardOk y) {f : Lock} {s : SD} {H : DH} (i : LkSt x y h f s H) {line : Str} (hl : PyData.strOk line = true) (z : line.length + 2 ≤ sizeLine) :
    ∃ s1 h1, gNm 3 (.str line) s H = .ok s1 h1 ∧ ((∃ f', lockStep y f line = some f' ∧ ∃ s2 h2, (lockB s1 h1 = .ok (.nx s2) h2 ∨ lockB s1 h1 = .ok (.ct s2) h2) ∧ LkSt x y h f' s2 h2) ∨ (lockStep y f line = none ∧ ∃ h2, lockB s1 h1 = .ex "NoLock" [] h2 ∧ ∃ g, h2 = h ++ g)) := by
  obtain ⟨⟨x3, x4, x5, rfl⟩, eH, nd, sub⟩ := i
  have i : LkSt x y h f [some (.str x), some (yardD y), some (.ref h.length), x3, x4, x5, none] H := ⟨⟨x3, x4, x5, rfl⟩, eH, nd, sub⟩
  have fl := i.len
  refine ⟨[some (.str x), some (yardD y), some (.ref h.length), some (.str line), x4, x5, none], H, rfl, ?_⟩
  have pH : Pur H := by
    rw [eH]
    exact hp.app (.cons (fun n => ents_under fun p _ => mkT_under p.2) pur_nil)
  have ew := wordsof_ok pH hl z
  have ws : ∀ w ∈ rowW line, PyData.strOk w = true ∧ w.length ≤ line.length := fun w hw => rowW_mem hl hw
  have atH : H[h.length]? = some (.dct false (ents (fun p : Str × Mk => p.1) (fun p => mkT p.2) f)) := by rw [eH]; exact at_last
  have dH := dictOf_ref atH
  have edy := dict_yard (h := H) oy.nodup
  have dY := of_yard (y := y) (h := H)
  generalize ey : yardD y = yd at edy ⊢
  unfold lockStep lockB
  generalize rowW line = row at ew ws ⊢
  have enil := eq_strs (neg := false) (h := H) (l := row) (m := []) (fun w hw => (ws w hw).1) (by simp)
  rw [List.map_nil] at enil
  generalize edv : D.dv false (y.map fun w => D.str w.1) (y.map fun w => madesD w.2) = dv at edy dY
  have dvn : ∀ x, dv ≠ .str x := fun x e => by rw [← edv] at e; cases e
  rcases row with _ | ⟨n, _ | ⟨m, _ | ⟨k, row⟩⟩⟩
  · rw [List.map_nil] at ew enil
    refine .inl ⟨f, rfl, [some (.str x), some yd, some (.ref h.length), some (.str line), some (.lv []), x5, none], H, .inr (by simp [ew, enil]), ⟨⟨_, _, _, by rw [ey]⟩, eH, nd, sub⟩⟩
  · have enil' : eqM false (.lv [.str n]) (.lv []) H = .ok (.bl false) H := by simpa using enil
    have ew' : F_words_of [.str line] H = .ok (.lv [.str n]) H := ew
    exact .inr ⟨rfl, H, by simp [ew', enil'], _, eH⟩
  · have i1 := in_ents (neg := true) dY dvn n
    have i2 := in_ents (neg := false) dH (fun _ h => by cases h) n
    rw [any_find] at i1
    have ns := (ws n (by simp)).1
    have em := makeby_ok (h := H) pH (ws m (by simp)).1 (Nat.le_trans (Nat.add_le_add_right (ws m (by simp)).2 2) z)
    have enil' : eqM false (.lv [.str n, .str m]) (.lv []) H = .ok (.bl false) H := by simpa using enil
    have ew' : F_words_of [.str line] H = .ok (.lv [.str n, .str m]) H := ew
    unfold makesOf
    dsimp only
    cases cf : y.find? fun w => decide (w.1 = n) with
    | none =>
      rw [cf] at i1
      refine .inr ⟨rfl, H, ?_, _, eH⟩
      simp [ew', enil', edy, i1]
    | some w =>
      rw [cf] at i1
      have wn : w.1 = n := by simpa using List.find?_some cf
      have wm : w ∈ y := List.mem_of_find?_eq_some cf
      cases cg : f.any fun p => decide (p.1 = n) with
      | true =>
        rw [cg] at i2
        have hin : n ∈ f.map (·.1) := by
          obtain ⟨p, hp, hn⟩ := List.any_eq_true.mp cg
          exact List.mem_map.mpr ⟨p, hp, by simpa using hn⟩
        refine .inr ⟨?_, H, ?_, _, eH⟩
        · dsimp only [Option.map_some]
          cases mkBy m with
          | none => rfl
          | some k => exact if_neg fun h => h.1 hin
        · simp [ew', enil', edy, i1, i2]
      | false =>
        rw [cg] at i2
        have hin : n ∉ f.map (·.1) := fun h => by
          obtain ⟨p, hp, hn⟩ := List.mem_map.mp h
          have : (f.any fun p => decide (p.1 = n)) = true := List.any_eq_true.mpr ⟨p, hp, by simpa using hn⟩
          rw [cg] at this
          cases this
        have ix : ixA dv (.str n) H = .ok (madesD w.2) H := by
          have := ix_ents dY oy.nodup wm
          rw [wn] at this
          exact this
        have ec : mComp [6] (.nm 6) mYes (m2 ixA (mVar 6) (mC (.int 0))) false (srcSeqA (m2 ixA (mCall (one (dict1 false)) (mCons (mVar 1) mNil)) (m2 ixA (mVar 4) (mC (.int 0))))) [some (.str x), some yd, some (.ref h.length), some (.str line), some (.lv [.str n, .str m]), some (omD (mkBy m)), none] H = .ok (.lv (ofPs (w.2.map fun a => mkP a.1))) H := by
          have := comp_lv (vs := [6]) (t := .nm 6) (tt := mYes) (te := m2 ixA (mVar 6) (mC (.int 0))) (mi := srcSeqA (m2 ixA (mCall (one (dict1 false)) (mCons (mVar 1) mNil)) (m2 ixA (mVar 4) (mC (.int 0))))) (s := [some (.str x), some yd, some (.ref h.length), some (.str line), some (.lv [.str n, .str m]), some (omD (mkBy m)), none]) (h := H) (l := w.2) (c := stays (madesD w.2) (w.2.map fun m => ofP (madeP m)))
            (fun m : Made => ofP (madeP m)) (fun m => mkT m.1) (by simp [edy, ix]; rfl) (by unfold madesD; simp) (Nat.le_trans (oy.makes w wm) (by decide)) fun a ha => ⟨[some (.str x), some yd, some (.ref h.length), some (.str line), some (.lv [.str n, .str m]), some (omD (mkBy m)), some (ofP (madeP a))], rfl, rfl, by
              rw [ofP_made]
              simp⟩
          rw [this, ofPs_map, List.map_map]
          congr 2
          exact List.map_congr_left fun a _ => (ofP_mk a.1).symm
        have ik := in_lvP (neg := true) (h := H) (l := w.2.map fun a => mkP a.1) (p := omP (mkBy m)) (lays_iff.mpr fun p hp => by
            obtain ⟨a, _, rfl⟩ := List.mem_map.mp hp
            exact lay_mk _) (lay_om _) (Nat.le_trans (depthAll_le (k := 2) fun p hp => by
            obtain ⟨a, _, rfl⟩ := List.mem_map.mp hp
            exact depth_mk _) (by decide)) (Nat.le_trans (depth_om _) (by decide))
        rw [ofP_om, List.any_map] at ik
        have ea : (w.2.any ((fun x => PyData.eqv x (omP (mkBy m))) ∘ fun a => mkP a.1)) = (w.2.map (·.1)).any fun a => decide (some a = mkBy m) := by
          rw [List.any_map]
          congr 1
          funext a
          exact eqv_mk_om a.1 _
        rw [ea] at ik
        generalize ofPs (w.2.map fun a => mkP a.1) = ml at ec ik
        dsimp only [Option.map_some]
        cases ck : mkBy m with
        | none =>
          rw [ck] at ik em ec
          have : ((w.2.map (·.1)).any fun a => decide (some a = none)) = false := by simp
          rw [this] at ik
          refine .inr ⟨rfl, H, ?_, _, eH⟩
          simp [ew', enil', edy, i1, i2, em, ec, ik]
        | some k =>
          rw [ck] at ik em ec
          dsimp only
          by_cases cm : k ∈ w.2.map (·.1)
          · have : ((w.2.map (·.1)).any fun a => decide (some a = some k)) = true := List.any_eq_true.mpr ⟨k, cm, by simp⟩
            rw [this] at ik
            have es := set_dct (w := mkT k) atH (show f.length < sizeLine by
              have := oy.few
              have : (1000 : Nat) < sizeLine := by decide
              omega) (x := n) (fun a ha e => hin (by rw [← e]; exact List.mem_map_of_mem ha))
            have es2 : H.set h.length (.dct false (ents (fun p : Str × Mk => p.1) (fun p => mkT p.2) f ++ [(D.str n, mkT k)])) = h ++ [.dct false (ents (fun p : Str × Mk => p.1) (fun p => mkT p.2) (f ++ [(n, k)]))] := by
              rw [eH, set_last]
              unfold ents
              rw [List.map_append]
              rfl
            rw [es2] at es
            have : (if n ∉ f.map (·.1) ∧ k ∈ w.2.map (·.1) then some (f ++ [(n, k)]) else none) = some (f ++ [(n, k)]) := if_pos ⟨hin, cm⟩
            rw [this]
            refine .inl ⟨_, rfl, [some (.str x), some yd, some (.ref h.length), some (.str line), some (.lv [.str n, .str m]), some (mkT k), none], _, .inl ?_, ⟨⟨_, _, _, by rw [ey]⟩, rfl, ?_, ?_⟩⟩
            · have ek : omD (some k) = mkT k := rfl
              rw [ek] at ik em ec
              simp [ew', enil', edy, i1, i2, em, ec, ik, es]
            · rw [List.map_append, List.nodup_append]
              refine ⟨nd, by simp, fun a ha b hb e => ?_⟩
              have : b = n := by simpa using hb
              subst this
              subst e
              exact hin ha
            · intro p hp
              rcases List.mem_append.mp hp with hp | hp
              · exact sub p hp
              · have : p = (n, k) := by simpa using hp
                subst this
                show n ∈ yNames y
                rw [← wn]
                exact List.mem_map_of_mem wm
          · have : ((w.2.map (·.1)).any fun a => decide (some a = some k)) = false := by
              rw [List.any_eq_false]
              intro a ha e
              have : a = k := by simpa using e
              subst this
              exact cm ha
            rw [this] at ik
            have : (if n ∉ f.map (·.1) ∧ k ∈ w.2.map (·.1) then some (f ++ [(n, k)]) else none) = none := if_neg fun h => cm h.2
            rw [this]
            refine .inr ⟨rfl, H, ?_, _, eH⟩
            simp [ew', enil', edy, i1, i2, em, ec, ik]
  · refine .inr ⟨rfl, H, ?_, _, eH⟩
    have e1 : ((((n :: m :: k :: row).map D.str).length : Int) = 2) ↔ False := by simp; omega
    have enil' : eqM false (.lv ((n :: m :: k :: row).map D.str)) (.lv []) H = .ok (.bl false) H := by simpa using enil
    generalize (n :: m :: k :: row).map D.str = rr at ew enil' e1
    simp [ew, enil', e1]
theorem lockby_ok {x : Str} {y : Yard} {h : DH} (hp : Pur h) (oy : YardOk y) (hx : PyData.strOk x = true) (z : x.length + 2 ≤ sizeLine) :
    F_lock_by [.str x, yardD y] h = match lockBy y x with
      | some f => .ok (lockD (sortL f)) h
      | none => .ex "NoLock" [] h := by
  have es : fSplit false (.str x) [.str (Str.ofString "\n")] (h ++ [.dct false []]) = .ok (.lv ((Txt.split x NL).map .str)) (h ++ [.dct false []]) := by
    rw [nl_is]; exact split_ok' nl_len z hx
  have i0 : LkSt x y h [] [some (.str x), some (yardD y), some (.ref h.length), none, none, none, none] (h ++ [.dct false []]) := ⟨⟨_, _, _, rfl⟩, rfl, by simp, by simp⟩
  have loop := loop_foldM (g := gNm 3) (body := lockB) (chk := stays (.lv ((Txt.split x NL).map .str)) ((Txt.split x NL).map .str)) (r := D.str) (st := lockStep y) (I := LkSt x y h) (R := fun H => ∃ g, H = h ++ g) (C := "NoLock") (fun _ _ _ _ => by simp) (Txt.split x NL)
    (fun f line hl s H i => lock_step hp oy i (List.all_eq_true.mp (split_ok hx) line hl) (by have := split_len hl; omega)) [] _ _ i0
  unfold lockBy
  show _ = match (Txt.split x NL).foldlM (lockStep y) [] with
      | some f => Re.ok (lockD (sortL f)) h
      | none => Re.ex "NoLock" [] h
  rcases loop with ⟨f, ef, s', H, el, i⟩ | ⟨ef, H, el, g, rfl⟩
  · rw [ef]
    dsimp only
    rw [← ofP_lock]
    have i' := i
    obtain ⟨⟨x3, x4, x5, rfl⟩, eH, nd, sub⟩ := i'
    refine den_app (h' := h) (g := [.dct false (ents (fun p : Str × Mk => p.1) (fun p => mkT p.2) f)]) ?_ hp rfl
    rw [ofP_lock]
    have atH : H[h.length]? = some (.dct false (ents (fun p : Str × Mk => p.1) (fun p => mkT p.2) f)) := by rw [eH]; exact at_last
    have so := srt_lock (dictOf_ref atH) nd (fun p hp => by
      obtain ⟨w, hw, e⟩ := List.mem_map.mp (sub p hp)
      rw [← e]; exact oy.txt w hw) (by
        have := i.len
        have := oy.few
        have : (1000 : Nat) < sizeLine := by decide
        omega)
    unfold B_lock_by slots0
    show (mSeq (mAsg (mDct false) (gNm 2)) (mSeq (mFor (srcSeqA (mMeth .str (fSplit false) (mVar 0) (mCons (mC (.str "\n")) mNil))) (gNm 3) lockB) (mSeq (mRet (mCall (one tup1) (mCons (mSrtI false (mVar 2)) mNil))) mNext))) [some (.str x), some (yardD y), none, none, none, none, none] h = _
    rw [← eH]
    generalize (Txt.split x NL).map D.str = ll at es el
    generalize yardD y = yd at el ⊢
    unfold lockD
    simp [es, el, so]
  · rw [ef]
    dsimp only
    refine den_ex (h' := h) (g := g) ?_ hp rfl
    unfold B_lock_by slots0
    show (mSeq (mAsg (mDct false) (gNm 2)) (mSeq (mFor (srcSeqA (mMeth .str (fSplit false) (mVar 0) (mCons (mC (.str "\n")) mNil))) (gNm 3) lockB) (mSeq (mRet (mCall (one tup1) (mCons (mSrtI false (mVar 2)) mNil))) mNext))) [some (.str x), some (yardD y), none, none, none, none, none] h = _
    generalize (Txt.split x NL).map D.str = ll at es el
    generalize yardD y = yd at el ⊢
    simp [es, el]
end Wy

set_option Elab.async false
set_option linter.all false
set_option maxRecDepth 100000
set_option maxHeartbeats 4000000
namespace Wy
open PySem PySem.Spec PyProof.Rows L2
/-! ### draws -/
@[simp] theorem p1018 {h : DH} : opPow (.int 10) (.int 18) h = .ok (.int 1000000000000000000) h := pow_int' ⟨by decide, by decide, by decide⟩
@[simp] theorem p1012 {h : DH} : opPow (.int 10) (.int 12) h = .ok (.int 1000000000000) h := pow_int' ⟨by decide, by decide, by decide⟩
@[simp] theorem d1018 {c : Int} {h : DH} : opFdiv (.int c) (.int 1000000000000000000) h = .ok (.int (c / 1000000000000000000)) h := fdiv_int' ⟨by decide, by decide⟩
@[simp] theorem d1012 {c : Int} {h : DH} : opFdiv (.int c) (.int 1000000000000) h = .ok (.int (c / 1000000000000)) h := fdiv_int' ⟨by decide, by decide⟩
@[simp] theorem max2_int {a b : Int} {h : DH} : max2 (.int a) (.int b) h = .ok (.int (if a < b then b else a)) h := rfl
/-- a cell of the script -/
def cellV (ns : List Int) (k : Nat) : Int := ns.getD k 0
theorem cell_ok (ns : List Int) (k : Nat) (h : DH) (hp : Pur h) : F_law_cell_at [.rl (ns.map .int), .int k] h = .ok (.int (cellV ns k)) h := by
  unfold cellV
  refine den_eq (p := .int (ns.getD k 0)) ?_ hp rfl
  unfold B_law_cell_at slots0 ofP
  by_cases c : k < ns.length
  · have c' : (k : Int) < (ns.length : Int) := by omega
    have e : atI (ns.map D.int) (k : Int) = some (.int (ns.getD k 0)) := atI_nat' (by simp [c])
    generalize ns.getD k 0 = z at e ⊢
    simp [c', e]
  · have c' : ¬ (k : Int) < (ns.length : Int) := by omega
    have e : ns.getD k 0 = 0 := by simp [List.getD_eq_getElem?_getD, List.getElem?_eq_none (by omega : ns.length ≤ k)]
    rw [e]
    simp [c']
/-- the left number falls so often -/
def fallV (n : Nat) (l : Int) : Int := (List.range n).foldl (fun l _ => l / 1000000000000) l
theorem fall_nn (n : Nat) {l : Int} (h : 0 ≤ l) : 0 ≤ fallV n l := by
  unfold fallV
  generalize List.range n = r
  induction r generalizing l with
  | nil => exact h
  | cons a r ih => exact ih (Int.ediv_nonneg h (by decide))
def mixL (c : Int) : Int := if 0 < c / 1000000000000000000 then c / 1000000000000000000 else 0
def mixX (c k : Int) : Int := (c + 7919 * k) * 48271 % 2147483647
def mixF (c k : Int) : Int := fallV (k * (if 0 < mixL c then 1 else 0)).toNat (mixL c)
def mixV (c k : Int) : Int := if 1 < mixF c k then mixF c k % 1000000000000 else (mixX c k * mixX c k + 7 * mixX c k + k) % 2147483629
theorem mix_nn (c k : Int) : 0 ≤ mixV c k := by
  unfold mixV
  split
  · exact Int.emod_nonneg _ (show (1000000000000 : Int) ≠ 0 by decide)
  · exact Int.emod_nonneg _ (show (2147483629 : Int) ≠ 0 by decide)
theorem mix_lt (c k : Int) : mixV c k < 1000000000000 := by
  unfold mixV
  split
  · exact Int.emod_lt_of_pos _ (show (0 : Int) < 1000000000000 by decide)
  · have := Int.emod_lt_of_pos (mixX c k * mixX c k + 7 * mixX c k + k) (show (0 : Int) < 2147483629 by decide)
    omega
theorem mixed_ok {c k : Int} {h : DH} (hp : Pur h) (k0 : 0 ≤ k) (k1 : k < 1000) : F_law_mixed [.int c, .int k] h = .ok (.int (mixV c k)) h := by
  have fk : fine (k * (if 0 < mixL c then 1 else 0)) := by split <;> exact ⟨by omega, by omega⟩
  obtain ⟨s', h', e, x3, es, eh⟩ := loop_foldl (g := gNm 3) (body := mSeq (mAsg (m2 opFdiv (mVar 2) (m2 opPow (mC (.int 10)) (mC (.int 12)))) (gNm 2)) mNext) (chk := fun _ => true) (r := fun i : Nat => D.int (i : Nat)) (st := fun (l : Int) _ => l / 1000000000000)
    (I := fun l s h1 => ∃ x3, s = [some (.int c), some (.int k), some (.int l), x3, none] ∧ h1 = h) (fun _ _ _ _ => rfl) (List.range (k * (if 0 < mixL c then 1 else 0)).toNat) (fun l d _ s h1 ⟨x3, es, eh⟩ => by
      subst es; subst eh
      exact ⟨_, _, rfl, [some (.int c), some (.int k), some (.int (l / 1000000000000)), some (.int (d : Nat)), none], h1, .inl (by simp), _, rfl, rfl⟩) (mixL c) _ _ ⟨none, rfl, rfl⟩
  rw [es, eh] at e
  have hx : mixX c k = (c + 7919 * k) * 48271 % 2147483647 := rfl
  have m0 := Int.emod_nonneg ((c + 7919 * k) * 48271) (show (2147483647 : Int) ≠ 0 by decide)
  have m1 := Int.emod_lt_of_pos ((c + 7919 * k) * 48271) (show (0 : Int) < 2147483647 by decide)
  have hl : mixL c = (if 0 < c / 1000000000000000000 then c / 1000000000000000000 else 0) := rfl
  refine den_eq (p := .int (mixV c k)) ?_ hp rfl
  unfold B_law_mixed slots0 ofP mixV mixF
  unfold fallV
  rw [← hx] at m0 m1
  generalize mixX c k = x at hx m0 m1 ⊢
  have b1 : -18446744073709551616 < x := by omega
  have b2 : x < 18446744073709551616 := by omega
  have r0 := rng0 (h := h) fk
  generalize mixL c = l at hl fk r0 e ⊢
  generalize (List.range (k * (if 0 < l then 1 else 0)).toNat) = rg at r0 e ⊢
  generalize rg.foldl (fun l _ => l / 1000000000000) l = l' at e ⊢
  have b3 : -18446744073709551616 < (if 0 < l then (1 : Int) else 0) := by split <;> omega
  have b4 : (if 0 < l then (1 : Int) else 0) < 18446744073709551616 := by split <;> omega
  generalize rg.map (fun i => D.int (i : Nat)) = src at r0 e
  by_cases c1 : 1 < l'
  · simp [← hl, r0, b3, b4, e, ← hx, b1, b2, c1]
  · simp [← hl, r0, b3, b4, e, ← hx, b1, b2, c1]
def innL (c : Int) : Int := if 0 < c then c else 0
def innF (c k : Int) : Int := fallV ((100 + 10 * k) * (if 1000000000000000000 ≤ innL c then 1 else 0)).toNat (innL c)
def innV (c k : Int) : Int := if 1000000000000000000 ≤ innF c k then innF c k else mixV c (20 + k)
theorem inn_nn (c k : Int) : 0 ≤ innV c k := by
  unfold innV
  split
  · exact fall_nn _ (by unfold innL; split <;> omega)
  · exact mix_nn _ _
theorem inner_ok {c k : Int} {h : DH} (hp : Pur h) (k0 : 0 ≤ k) (k1 : k < 100) : F_law_inner [.int c, .int k] h = .ok (.int (innV c k)) h := by
  have fk : fine ((100 + 10 * k) * (if 1000000000000000000 ≤ innL c then 1 else 0)) := by split <;> exact ⟨by omega, by omega⟩
  obtain ⟨s', h', e, x3, es, eh⟩ := loop_foldl (g := gNm 3) (body := mSeq (mAsg (m2 opFdiv (mVar 2) (m2 opPow (mC (.int 10)) (mC (.int 12)))) (gNm 2)) mNext) (chk := fun _ => true) (r := fun i : Nat => D.int (i : Nat)) (st := fun (l : Int) _ => l / 1000000000000)
    (I := fun l s h1 => ∃ x3, s = [some (.int c), some (.int k), some (.int l), x3] ∧ h1 = h) (fun _ _ _ _ => rfl) (List.range ((100 + 10 * k) * (if 1000000000000000000 ≤ innL c then 1 else 0)).toNat) (fun l d _ s h1 ⟨x3, es, eh⟩ => by
      subst es; subst eh
      exact ⟨_, _, rfl, [some (.int c), some (.int k), some (.int (l / 1000000000000)), some (.int (d : Nat))], h1, .inl (by simp), _, rfl, rfl⟩) (innL c) _ _ ⟨none, rfl, rfl⟩
  rw [es, eh] at e
  have em := mixed_ok (c := c) (k := 20 + k) hp (by omega) (by omega)
  have hl : innL c = (if 0 < c then c else 0) := rfl
  refine den_eq (p := .int (innV c k)) ?_ hp rfl
  unfold B_law_inner slots0 ofP innV innF
  unfold fallV
  have r0 := rng0 (h := h) fk
  generalize innL c = l at hl fk r0 e ⊢
  generalize (List.range ((100 + 10 * k) * (if 1000000000000000000 ≤ l then 1 else 0)).toNat) = rg at r0 e ⊢
  generalize rg.foldl (fun l _ => l / 1000000000000) l = l' at e ⊢
  have b3 : -18446744073709551616 < (if 1000000000000000000 ≤ l then (1 : Int) else 0) := by split <;> omega
  have b4 : (if 1000000000000000000 ≤ l then (1 : Int) else 0) < 18446744073709551616 := by split <;> omega
  generalize rg.map (fun i => D.int (i : Nat)) = src at r0 e
  by_cases c1 : 1000000000000000000 ≤ l'
  · simp [← hl, r0, b3, b4, e, c1]
  · simp [← hl, r0, b3, b4, e, c1, em]
end Wy

set_option Elab.async false
set_option linter.all false
set_option maxRecDepth 100000
set_option maxHeartbeats 4000000
namespace Wy
open PySem PySem.Spec PyProof.Rows L2
/-! ### names drawn -/
def LET : Str := "abcdefghijklmnopqrstuvwxyz"
theorem tl_LET : TL.tl LET = (List.range 26).map (97 + ·) := by decide +kernel
def letN (i : Int) : Nat := 97 + i.toNat
def letS (i : Int) : Str := ⟨#[letN i]⟩
theorem let_ix {i : Int} {h : DH} (a : 0 ≤ i) (b : i < 26) : ixA (.str LET) (.int i) h = .ok (.str (letS i)) h := by
  rw [ix_str (by decide +kernel)]
  have e : atI LET.cps.toList i = some (letN i) := by
    have : LET.cps.toList = (List.range 26).map (97 + ·) := tl_LET
    rw [this]
    have e := atI_nat' (l := (List.range 26).map (97 + ·)) (j := i.toNat) (x := letN i) (by
      rw [List.getElem?_map, List.getElem?_range (by omega)]
      rfl)
    rwa [Int.toNat_of_nonneg a] at e
  rw [e]
  rfl
def headN (c : Int) : Nat := (mixV c 9 % 6).toNat
def headL (c : Int) : List Nat := (List.range (headN c)).map fun j : Nat => letN (mixV c j / 5 % 26)
theorem head_len (c : Int) : (headL c).length ≤ 5 := by
  unfold headL headN
  rw [List.length_map, List.length_range]
  have := Int.emod_lt_of_pos (mixV c 9) (show (0 : Int) < 6 by decide)
  omega
theorem letN_ok {i : Int} (a : 0 ≤ i) (b : i < 26) : 97 ≤ letN i ∧ letN i ≤ 122 := by unfold letN; omega
theorem mod26 (x : Int) : 0 ≤ x % 26 ∧ x % 26 < 26 := ⟨Int.emod_nonneg x (show (26 : Int) ≠ 0 by decide), Int.emod_lt_of_pos x (show (0 : Int) < 26 by decide)⟩
def nameL (c : Int) (j : Nat) : List Nat := headL c ++ [113, letN ((mixV c 10 % 26 + 7 * j) % 26)]
def nameS (c : Int) (j : Nat) : Str := ⟨(nameL c j).toArray⟩
theorem tl_name (c : Int) (j : Nat) : TL.tl (nameS c j) = nameL c j := rfl
theorem name_let (c : Int) (j : Nat) : ∀ x ∈ TL.tl (nameS c j), 97 ≤ x ∧ x ≤ 122 := fun x hx => by
  rw [tl_name] at hx
  unfold nameL headL at hx
  rcases List.mem_append.mp hx with hx | hx
  · obtain ⟨k, _, rfl⟩ := List.mem_map.mp hx
    have := mod26 (mixV c k / 5)
    exact letN_ok this.1 this.2
  · rcases List.mem_cons.mp hx with rfl | hx
    · decide
    · have : x = letN ((mixV c 10 % 26 + 7 * j) % 26) := by simpa using hx
      rw [this]
      have := mod26 (mixV c 10 % 26 + 7 * j)
      exact letN_ok this.1 this.2
theorem name_ok (c : Int) (j : Nat) : PyData.strOk (nameS c j) = true := okS_tl.mpr fun x hx => by
  have := name_let c j x hx
  omega
theorem name_len (c : Int) (j : Nat) : 2 ≤ (nameS c j).length ∧ (nameS c j).length ≤ 7 := by
  rw [TL.len_tl, tl_name]
  unfold nameL
  have := head_len c
  simp only [List.length_append, List.length_cons, List.length_nil]
  omega
theorem name_inj {c : Int} {i j : Nat} (hi : i < 4) (hj : j < 4) (h : nameS c i = nameS c j) : i = j := by
  have h := congrArg TL.tl h
  rw [tl_name, tl_name] at h
  unfold nameL at h
  have h := List.append_cancel_left h
  have h : letN ((mixV c 10 % 26 + 7 * i) % 26) = letN ((mixV c 10 % 26 + 7 * j) % 26) := by simpa using h
  have a := mod26 (mixV c 10 % 26 + 7 * i)
  have b := mod26 (mixV c 10 % 26 + 7 * j)
  unfold letN at h
  omega
def namesV (c : Int) : List Str := (List.range 4).map (nameS c)
theorem namesV_nodup (c : Int) : (namesV c).Nodup := by
  unfold namesV List.Nodup
  rw [List.pairwise_map]
  refine List.Pairwise.imp_of_mem (R := fun a b => a ≠ b) (fun {a b} ha hb hne e => hne ?_) List.nodup_range
  exact name_inj (List.mem_range.mp ha) (List.mem_range.mp hb) e
theorem join0 : ∀ l : List (List Nat), TL.joinL [] l = l.flatten
  | [] => rfl
  | [p] => by simp [TL.joinL]
  | p :: q :: r => by
    show p ++ ([] ++ TL.joinL [] (q :: r)) = _
    rw [join0 (q :: r)]
    simp
theorem head_join (c : Int) : Txt.join "" ((List.range (headN c)).map fun j : Nat => letS (mixV c j / 5 % 26)) = ⟨(headL c).toArray⟩ := by
  refine TL.ext_tl ?_
  rw [TL.join_eq, TL.tl_join, show TL.tl (Str.ofString "") = [] from rfl, join0, List.map_map]
  show _ = headL c
  unfold headL
  induction List.range (headN c) with
  | nil => rfl
  | cons a l ih =>
    rw [List.map_cons, List.flatten_cons, ih, List.map_cons]
    rfl
theorem names_ok {c : Int} {h : DH} (hp : Pur h) : F_law_names [.int c] h = .ok (.lv ((namesV c).map .str)) h := by
  have eo : D.lv ((namesV c).map .str) = ofP (.list ((namesV c).map .str)) := by rw [ofP, ofPs_strs]
  rw [eo]
  refine den_eq ?_ hp rfl
  rw [← eo]
  unfold B_law_names slots0
  have e9 := mixed_ok (c := c) (k := 9) hp (by decide) (by decide)
  have e10 := mixed_ok (c := c) (k := 10) hp (by decide) (by decide)
  have f9 : fine (mixV c 9 % 6) := by
    have := Int.emod_lt_of_pos (mixV c 9) (show (0 : Int) < 6 by decide)
    have := Int.emod_nonneg (mixV c 9) (show (6 : Int) ≠ 0 by decide)
    exact ⟨by omega, by omega⟩
  have hL : ∀ i, 0 ≤ i → i < 26 → ixA (.str LET) (.int i) h = .ok (.str (letS i)) h := fun i a b => let_ix a b
  show (mSeq (mAsg (mC (.str LET)) (gNm 1)) _) [some (.int c), none, none, none, none] h = _
  generalize LET = L at hL ⊢
  have eh : mComp [3] (.nm 3) mYes (m2 ixA (mVar 1) (m2 opMod (m2 opFdiv (mCall F_law_mixed (mCons (mVar 0) (mCons (mVar 3) mNil))) (mC (.int 5))) (mC (.int 26)))) false (srcRng (mCons (m2 opMod (mCall F_law_mixed (mCons (mVar 0) (mCons (mC (.int 9)) mNil))) (mC (.int 6))) mNil)) [some (.int c), some (.str L), none, none, none] h = .ok (.lv ((List.range (headN c)).map fun j : Nat => .str (letS (mixV c j / 5 % 26)))) h :=
    comp_lv (fun i : Nat => D.int (i : Nat)) (fun j : Nat => .str (letS (mixV c j / 5 % 26))) (c := fun _ => true) (by
      have := rng0 (h := h) f9
      unfold headN
      simp [e9, this]) rfl (by
      rw [List.length_range]
      unfold headN
      have := Int.emod_lt_of_pos (mixV c 9) (show (0 : Int) < 6 by decide)
      have : (6 : Nat) ≤ sizeLine := by decide
      omega) fun j hj => ⟨[some (.int c), some (.str L), none, some (.int j), none], rfl, rfl, by
      have hj := List.mem_range.mp hj
      have h5 : headN c ≤ 5 := by
        unfold headN
        have := Int.emod_lt_of_pos (mixV c 9) (show (0 : Int) < 6 by decide)
        omega
      have em := mixed_ok (c := c) (k := (j : Int)) hp (by omega) (by omega)
      have m := mod26 (mixV c j / 5)
      have := hL _ m.1 m.2
      simp [em, this]⟩
  have ej : fJoin (.str (Str.ofString "")) [.lv ((List.range (headN c)).map fun j : Nat => .str (letS (mixV c j / 5 % 26)))] h = .ok (.str ⟨(headL c).toArray⟩) h := by
    have e1 : ((List.range (headN c)).map fun j : Nat => D.str (letS (mixV c j / 5 % 26))) = ((List.range (headN c)).map fun j : Nat => letS (mixV c j / 5 % 26)).map .str := by rw [List.map_map]; rfl
    rw [e1, ← head_join]
    refine join_lv ?_ (ok_of "") fun y hy => by
      obtain ⟨j, _, rfl⟩ := List.mem_map.mp hy
      rw [okS_tl]
      intro x hx
      have : x = letN (mixV c j / 5 % 26) := by simpa [letS] using hx
      have m := mod26 (mixV c j / 5)
      have := letN_ok m.1 m.2
      omega
    have := sum_le (fun j : Nat => (letS (mixV c j / 5 % 26)).length) 1 (List.range (headN c)) fun j _ => Nat.le_refl 1
    rw [List.map_map, List.length_map, List.length_range]
    rw [List.length_range] at this
    have z : (Str.ofString "").length = 0 := by decide +kernel
    rw [z]
    have h5 : headN c ≤ 5 := by
      unfold headN
      have := Int.emod_lt_of_pos (mixV c 9) (show (0 : Int) < 6 by decide)
      omega
    show ((List.range (headN c)).map fun j : Nat => (letS (mixV c j / 5 % 26)).length).sum + headN c * 0 ≤ 16777216
    omega
  have e4 : mComp [3] (.nm 3) mYes (m2 (opAdd false) (m2 (opAdd false) (mVar 2) (mC (.str "q"))) (m2 ixA (mVar 1) (m2 opMod (m2 (opAdd false) (mVar 4) (m2 opMulA (mC (.int 7)) (mVar 3))) (mC (.int 26))))) false (srcRng (mCons (mC (.int 4)) mNil)) [some (.int c), some (.str L), some (.str ⟨(headL c).toArray⟩), none, some (.int (mixV c 10 % 26))] h = .ok (.lv ((List.range 4).map fun j => .str (nameS c j))) h :=
    comp_lv (fun i : Nat => D.int (i : Nat)) (fun j : Nat => .str (nameS c j)) (c := fun _ => true) (by
      have := rng0 (h := h) (show fine 4 from ⟨by decide, by decide⟩)
      simp [this]) rfl (by decide) fun j hj => ⟨[some (.int c), some (.str L), some (.str ⟨(headL c).toArray⟩), some (.int j), some (.int (mixV c 10 % 26))], rfl, rfl, by
      have hj := List.mem_range.mp hj
      have m := mod26 (mixV c 10 % 26 + 7 * (j : Int))
      have ex := hL _ m.1 m.2
      have hl := head_len c
      have q1 : (Str.ofString "q").length = 1 := by decide +kernel
      have l1 : (⟨(headL c).toArray⟩ : Str).length = (headL c).length := rfl
      have c1 := cat_str (mt := false) (x := ⟨(headL c).toArray⟩) (y := Str.ofString "q") (h := h) (by
        have : (100 : Nat) ≤ sizeLine := by decide
        omega)
      have c2 := cat_str (mt := false) (x := (⟨(headL c).toArray⟩ : Str) ++ Str.ofString "q") (y := letS ((mixV c 10 % 26 + 7 * (j : Int)) % 26)) (h := h) (by
        have : (100 : Nat) ≤ sizeLine := by decide
        have l2 : ((⟨(headL c).toArray⟩ : Str) ++ Str.ofString "q").length = (headL c).length + 1 := by
          rw [TL.len_tl, TL.tl_append, List.length_append, ← TL.len_tl, ← TL.len_tl, q1]
        have l3 : (letS ((mixV c 10 % 26 + 7 * (j : Int)) % 26)).length = 1 := rfl
        omega)
      have e5 : (⟨(headL c).toArray⟩ : Str) ++ Str.ofString "q" ++ letS ((mixV c 10 % 26 + 7 * (j : Int)) % 26) = nameS c j := by
        refine TL.ext_tl ?_
        rw [TL.tl_append, TL.tl_append, tl_name]
        unfold nameL
        rw [List.append_assoc]
        rfl
      rw [e5] at c2
      generalize mixV c 10 % 26 = m10 at ex c2
      generalize (⟨(headL c).toArray⟩ : Str) = hd at c1 c2
      simp [ex, c1, c2]⟩
  have e6 : ((List.range 4).map fun j => D.str (nameS c j)) = (namesV c).map .str := by
    unfold namesV
    rw [List.map_map]; rfl
  rw [e6] at e4
  generalize (List.range (headN c)).map (fun j : Nat => D.str (letS (mixV c j / 5 % 26))) = hs at eh ej
  generalize (⟨(headL c).toArray⟩ : Str) = hd at ej e4
  generalize (namesV c).map D.str = res at e4 ⊢
  simp [eh, ej, e10, e4]
/-! ### a lock drawn -/
/-- the lock's pair for the k-th ware -/
def lkOne (c : Int) (w : Ware) (k : Nat) : Option (Str × Mk) := if 0 < mixV c (70 + k) % 4 then (w.2[(mixV c (70 + k) / 4 % w.2.length).toNat]?).map fun m => (w.1, m.1) else none
def lkV (c : Int) (y : Yard) : Lock := y.zipIdx.filterMap fun p => lkOne c p.1 p.2
end Wy

set_option Elab.async false
set_option linter.all false
set_option maxRecDepth 100000
set_option maxHeartbeats 4000000
namespace Wy
open PySem PySem.Spec PyProof.Rows L2
/-! ### makes and yards drawn (laws k49, k50) -/
def baseN (c : Int) : Nat := (mixV c 5 % 4).toNat
def most (c : Int) : Int := if c % 2 = 0 then 10 else 10000
def baseV (c : Int) : Mk := (List.range (baseN c)).map fun j : Nat => mixV c j / 3 % most c
def firstV (c : Int) : Int := mixV c 6 % (if c / 2 % 2 = 0 then 2 else 9990)
def makeV (c : Int) (j : Nat) : Mk := baseV c ++ [firstV c + j]
def makesV (c : Int) (n : Nat) : List Mk := (List.range n).map (makeV c)
theorem base_lt (c : Int) : baseN c ≤ 3 := by
  unfold baseN
  have := Int.emod_lt_of_pos (mixV c 5) (show (0 : Int) < 4 by decide)
  omega
theorem most_pos (c : Int) : 0 < most c ∧ most c ≤ 10000 := by unfold most; split <;> omega
theorem first_in (c : Int) : 0 ≤ firstV c ∧ firstV c < 9990 := by
  unfold firstV
  split
  · exact ⟨Int.emod_nonneg _ (by decide), Int.lt_trans (Int.emod_lt_of_pos _ (show (0 : Int) < 2 by decide)) (by decide)⟩
  · exact ⟨Int.emod_nonneg _ (by decide), Int.emod_lt_of_pos _ (show (0 : Int) < 9990 by decide)⟩
theorem makeV_ok (c : Int) {j : Nat} (h : j ≤ 9) : mkOk (makeV c j) = true := by
  have hb := base_lt c
  have hf := first_in c
  have hl : (baseV c).length = baseN c := by unfold baseV; simp
  unfold mkOk makeV
  simp only [List.length_append, List.length_cons, List.length_nil, hl, Bool.and_eq_true, decide_eq_true_eq, List.all_append, List.all_cons, List.all_nil]
  refine ⟨by omega, by omega, ?_, ?_, trivial⟩
  · rw [List.all_eq_true]
    intro n hn
    unfold baseV at hn
    obtain ⟨k, _, rfl⟩ := List.mem_map.mp hn
    have hm := most_pos c
    have a := Int.emod_nonneg (mixV c k / 3) (show most c ≠ 0 by omega)
    have b := Int.emod_lt_of_pos (mixV c k / 3) hm.1
    unfold numOk
    simp only [Bool.and_eq_true, decide_eq_true_eq]
    omega
  · unfold numOk
    simp only [Bool.and_eq_true, decide_eq_true_eq]
    omega
theorem makeV_inj {c : Int} {i j : Nat} (h : makeV c i = makeV c j) : i = j := by
  unfold makeV at h
  have h := List.append_cancel_left h
  have : firstV c + (i : Int) = firstV c + j := by simpa using h
  omega
theorem makesV_nodup (c : Int) (n : Nat) : (makesV c n).Nodup := by
  unfold makesV List.Nodup
  rw [List.pairwise_map]
  exact List.Pairwise.imp (fun {a b} hne e => hne (makeV_inj e)) (List.nodup_range (n := n))
theorem makes_ok {c m : Int} {h : DH} (hp : Pur h) (m0 : 0 ≤ m) (m1 : m < 1000) : F_law_makes [.int c, .int m] h = .ok (.lv ((makesV c m.toNat).map mkT)) h := by
  have eo : D.lv ((makesV c m.toNat).map mkT) = ofP (.list ((makesV c m.toNat).map mkP)) := by
    rw [ofP_list, List.map_map]
    congr 1
    exact List.map_congr_left fun a _ => (ofP_mk a).symm
  rw [eo]
  refine den_eq ?_ hp rfl
  rw [← eo]
  unfold B_law_makes slots0
  have e5 := mixed_ok (c := c) (k := 5) hp (by decide) (by decide)
  have e6 := mixed_ok (c := c) (k := 6) hp (by decide) (by decide)
  have f5 : fine (mixV c 5 % 4) := by
    have := Int.emod_lt_of_pos (mixV c 5) (show (0 : Int) < 4 by decide)
    have := Int.emod_nonneg (mixV c 5) (show (4 : Int) ≠ 0 by decide)
    exact ⟨by omega, by omega⟩
  have s1 : atI [D.int 10, .int 10000] (c % 2) = some (.int (most c)) := by
    rw [sel2]; unfold most; split <;> rfl
  have s2 : atI [D.int 2, .int 9990] (c / 2 % 2) = some (.int (if c / 2 % 2 = 0 then 2 else 9990)) := by
    rw [sel2]; split <;> rfl
  have hm := most_pos c
  have eb : mComp [3] (.nm 3) mYes (m2 opMod (m2 opFdiv (mCall F_law_mixed (mCons (mVar 0) (mCons (mVar 3) mNil))) (mC (.int 3))) (m2 ixA (mLst false (mCons (mC (.int 10)) (mCons (mC (.int 10000)) mNil))) (m2 opMod (mVar 0) (mC (.int 2))))) false (srcRng (mCons (m2 opMod (mCall F_law_mixed (mCons (mVar 0) (mCons (mC (.int 5)) mNil))) (mC (.int 4))) mNil)) [some (.int c), some (.int m), none, none, none] h = .ok (.lv ((List.range (baseN c)).map fun j : Nat => .int (mixV c j / 3 % most c))) h :=
    comp_lv (fun i : Nat => D.int (i : Nat)) (fun j : Nat => .int (mixV c j / 3 % most c)) (c := fun _ => true) (by
      have := rng0 (h := h) f5
      unfold baseN
      simp [e5, this]) rfl (by
      rw [List.length_range]
      have := base_lt c
      have : (6 : Nat) ≤ sizeLine := by decide
      omega) fun j hj => ⟨[some (.int c), some (.int m), none, some (.int j), none], rfl, rfl, by
      have hj := List.mem_range.mp hj
      have := base_lt c
      have em := mixed_ok (c := c) (k := (j : Int)) hp (by omega) (by omega)
      generalize most c = mo at s1 hm ⊢
      simp [em, mkL_two, s1, hm.1]⟩
  have et : D.tup ((List.range (baseN c)).map fun j : Nat => D.int (mixV c j / 3 % most c)) = mkT (baseV c) := by
    unfold mkT baseV
    rw [List.map_map]; rfl
  have em : mComp [3] (.nm 3) mYes (m2 (opAdd false) (mVar 2) (mTup (mCons (m2 (opAdd false) (mVar 4) (mVar 3)) mNil))) false (srcRng (mCons (mVar 1) mNil)) [some (.int c), some (.int m), some (mkT (baseV c)), none, some (.int (firstV c))] h = .ok (.lv ((List.range m.toNat).map fun j => mkT (makeV c j))) h :=
    comp_lv (fun i : Nat => D.int (i : Nat)) (fun j : Nat => mkT (makeV c j)) (c := fun _ => true) (by
      have := rng0 (h := h) (show fine m from ⟨by omega, by omega⟩)
      simp [this]) rfl (by
      rw [List.length_range]
      have : (1000 : Nat) ≤ sizeLine := by decide
      omega) fun j hj => ⟨[some (.int c), some (.int m), some (mkT (baseV c)), some (.int j), some (.int (firstV c))], rfl, rfl, by
      have hl : ((baseV c).map D.int).length = baseN c := by unfold baseV; simp
      have hb := base_lt c
      have ea : opAdd false (mkT (baseV c)) (.tup [.int (firstV c + (j : Int))]) h = .ok (mkT (makeV c j)) h := by
        unfold opAdd mkT
        dsimp only
        rw [if_pos (by
          rw [hl]
          have : (100 : Nat) ≤ sizeLine := by decide
          simp only [List.length_cons, List.length_nil]
          omega)]
        unfold makeV
        rw [List.map_append]; rfl
      generalize firstV c = fc at ea ⊢
      generalize mkT (makeV c j) = r at ea ⊢
      simp [ea]⟩
  have e7 : ((List.range m.toNat).map fun j => mkT (makeV c j)) = (makesV c m.toNat).map mkT := by
    unfold makesV
    rw [List.map_map]; rfl
  rw [e7] at em
  have hz : (0 : Int) < (if c / 2 % 2 = 0 then 2 else 9990) := by split <;> decide
  have ef : mixV c 6 % (if c / 2 % 2 = 0 then 2 else 9990) = firstV c := rfl
  show (mSeq _ _ : SD → M Fl) [some (.int c), some (.int m), none, none, none] h = _
  generalize (makesV c m.toNat).map mkT = res at em ⊢
  generalize (List.range (baseN c)).map (fun j : Nat => D.int (mixV c j / 3 % most c)) = bs at eb et
  generalize (if c / 2 % 2 = 0 then (2 : Int) else 9990) = q at s2 hz ef
  generalize F_law_mixed = F at *
  simp [eb, et, e6, mkL_two, s2, hz, ef, em]
/-! ### the yard -/
def wareV (c : Int) (n : Str) (k : Nat) : Ware := (n, (makesV (innV c k) (1 + mixV c (30 + k) % 3).toNat).map fun m => (m, false, []))
def ydNames (c : Int) (n : Nat) : List Str := sortS ((namesV c).take n)
def ydV (c : Int) (n : Nat) : Yard := (ydNames c n).zipIdx.map fun p => wareV c p.1 p.2

theorem ydNames_sub {c : Int} {n : Nat} {x : Str} (h : x ∈ ydNames c n) : ∃ j, x = nameS c j := by
  have h := (sortS_perm _).mem_iff.mp h
  have h := List.mem_of_mem_take h
  unfold namesV at h
  obtain ⟨j, _, rfl⟩ := List.mem_map.mp h
  exact ⟨j, rfl⟩
theorem ydNames_rise (c : Int) (n : Nat) : Rises (ydNames c n) := sortS_rises ((namesV_nodup c).sublist (List.take_sublist ..))
theorem ydNames_len (c : Int) (n : Nat) : (ydNames c n).length ≤ 4 ∧ (ydNames c n).length ≤ n := by
  unfold ydNames sortS
  rw [List.length_mergeSort, List.length_take]
  have : (namesV c).length = 4 := by simp [namesV]
  omega
theorem map_zipIdx_fst {α β : Type} (f : α → Nat → β) (g : β → α) (hg : ∀ a k, g (f a k) = a) (l : List α) : (l.zipIdx.map fun p => f p.1 p.2).map g = l := by
  rw [List.map_map]
  have : (l.zipIdx.map (g ∘ fun p => f p.1 p.2)) = l.zipIdx.map (·.1) := List.map_congr_left fun p _ => hg p.1 p.2
  rw [this]
  exact List.zipIdx_map_fst ..
theorem ydV_names (c : Int) (n : Nat) : yNames (ydV c n) = ydNames c n := map_zipIdx_fst (fun x k => wareV c x k) (·.1) (fun _ _ => rfl) _
theorem ydV_mem {c : Int} {n : Nat} {w : Ware} (h : w ∈ ydV c n) : ∃ x k, x ∈ ydNames c n ∧ k < 4 ∧ w = wareV c x k := by
  unfold ydV at h
  obtain ⟨p, hp, rfl⟩ := List.mem_map.mp h
  have := List.mem_zipIdx hp
  refine ⟨p.1, p.2, ?_, ?_, rfl⟩
  · rw [this.2.2]; exact List.getElem_mem _
  · have := (ydNames_len c n).1
    omega
theorem wareV_makes (c : Int) (x : Str) (k : Nat) : ∃ m, 1 ≤ m ∧ m ≤ 3 ∧ (wareV c x k).2 = (makesV (innV c k) m).map fun m => (m, false, []) := by
  refine ⟨(1 + mixV c (30 + k) % 3).toNat, ?_, ?_, rfl⟩
  · have := Int.emod_nonneg (mixV c (30 + k)) (show (3 : Int) ≠ 0 by decide)
    omega
  · have := Int.emod_lt_of_pos (mixV c (30 + k)) (show (0 : Int) < 3 by decide)
    omega
theorem ydV_ok (c : Int) (n : Nat) : YardOk (ydV c n) where
  nodup := by rw [ydV_names]; exact (ydNames_rise c n).nodup
  txt := fun w hw => by
    obtain ⟨x, k, hx, _, rfl⟩ := ydV_mem hw
    obtain ⟨j, rfl⟩ := ydNames_sub hx
    exact name_ok c j
  few := by
    unfold ydV
    rw [List.length_map, List.length_zipIdx]
    have := (ydNames_len c n).1
    omega
  makes := fun w hw => by
    obtain ⟨x, k, hx, _, rfl⟩ := ydV_mem hw
    obtain ⟨m, m0, m1, e⟩ := wareV_makes c x k
    rw [e, List.length_map]
    unfold makesV
    rw [List.length_map, List.length_range]
    omega
theorem wareD_under {n : Nat} (w : Ware) : (D.tup [.str w.1, madesD w.2]).under n = true := by
  have : D.tup [.str w.1, madesD w.2] = ofP (wareP w) := by
    unfold wareP madesD
    rw [ofP_tup, List.map_cons, List.map_cons, List.map_nil, ofP_tup, List.map_map]
    rfl
  rw [this]
  exact ofP_under _
def wareD (w : Ware) : D := .tup [.str w.1, madesD w.2]
def ydB : SD → M Fl := (mSeq (mAsg (mCall F_law_makes (mCons (mCall F_law_inner (mCons (mVar 0) (mCons (mVar 4) mNil))) (mCons (m2 (opAdd false) (mC (.int 1)) (m2 opMod (mCall F_law_mixed (mCons (mVar 0) (mCons (m2 (opAdd false) (mC (.int 30)) (mVar 4)) mNil))) (mC (.int 3)))) mNil))) (gNm 6)) (mSeq (mExpr (mMeth .list fAppend (mVar 3) (mCons (mTup (mCons (mVar 5) (mCons (mCall (one tup1) (mCons (mComp [7] (.nm 7) mYes (mTup (mCons (mVar 7) (mCons (mC (.bl false)) (mCons (mTup mNil) mNil)))) false (srcSeqA (mVar 6))) mNil)) mNil))) mNil))) mNext))
theorem yd_step {c n : Int} {h : DH} (hp : Pur h) {acc : List Ware} (za : acc.length ≤ 100) {x : Str} {k : Nat} (hk : k < 4) {ns : D} {x4 x5 x6 : Option D} :
    ydB [some (.int c), some (.int n), some ns, some (.ref h.length), some (.int k), some (.str x), x6, none] (h ++ [.lst (acc.map wareD)]) = .ok (.nx [some (.int c), some (.int n), some ns, some (.ref h.length), some (.int k), some (.str x), some (.lv ((makesV (innV c k) (1 + mixV c (30 + k) % 3).toNat).map mkT)), none]) (h ++ [.lst ((acc ++ [wareV c x k]).map wareD)]) := by
  have pH : Pur (h ++ [.lst (acc.map wareD)]) := hp.app (.cons (fun n => lst_under fun d hd => by
    obtain ⟨w, _, rfl⟩ := List.mem_map.mp hd
    exact wareD_under w) pur_nil)
  generalize eH : h ++ [.lst (acc.map wareD)] = H at pH ⊢
  have atH : H[h.length]? = some (.lst (acc.map wareD)) := by rw [← eH]; exact at_last
  have m3 := Int.emod_nonneg (mixV c (30 + k)) (show (3 : Int) ≠ 0 by decide)
  have m3' := Int.emod_lt_of_pos (mixV c (30 + k)) (show (0 : Int) < 3 by decide)
  have e1 := inner_ok (c := c) (k := (k : Int)) pH (by omega) (by omega)
  have e2 := mixed_ok (c := c) (k := 30 + (k : Int)) pH (by omega) (by omega)
  have e3 := makes_ok (c := innV c k) (m := 1 + mixV c (30 + k) % 3) pH (by omega) (by omega)
  generalize eml : makesV (innV c k) (1 + mixV c (30 + k) % 3).toNat = ml at e3 ⊢
  have mll : ml.length ≤ 3 := by
    rw [← eml]
    unfold makesV
    rw [List.length_map, List.length_range]
    omega
  have ec : mComp [7] (.nm 7) mYes (mTup (mCons (mVar 7) (mCons (mC (.bl false)) (mCons (mTup mNil) mNil)))) false (srcSeqA (mVar 6)) [some (.int c), some (.int n), some ns, some (.ref h.length), some (.int k), some (.str x), some (.lv (ml.map mkT)), none] H = .ok (.lv (ml.map fun m => .tup [mkT m, .bl false, .tup []])) H :=
    comp_lv mkT (fun m => .tup [mkT m, .bl false, .tup []]) (c := stays (.lv (ml.map mkT)) (ml.map mkT)) (by simp) (by simp) (le_size (by omega)) fun m _ => ⟨[some (.int c), some (.int n), some ns, some (.ref h.length), some (.int k), some (.str x), some (.lv (ml.map mkT)), some (mkT m)], rfl, rfl, by simp⟩
  have ew : D.tup [.str x, .tup (ml.map fun m => .tup [mkT m, .bl false, .tup []])] = wareD (wareV c x k) := by
    unfold wareD wareV madesD
    dsimp only
    rw [eml, List.map_map]
    have : (ml.map fun m => D.tup [mkT m, .bl false, .tup []]) = ml.map ((fun m => ofP (madeP m)) ∘ fun m => (m, false, [])) := List.map_congr_left fun m _ => (ofP_made (m, false, [])).symm
    rw [this]
  have ea := app_ref (y := wareD (wareV c x k)) atH (by
    rw [List.length_map]
    exact lt_size (by omega))
  have es : H.set h.length (.lst (acc.map wareD ++ [wareD (wareV c x k)])) = h ++ [.lst ((acc ++ [wareV c x k]).map wareD)] := by
    rw [← eH, set_last, List.map_append]; rfl
  rw [es] at ea
  have ty := ty_ref atH
  unfold ydB
  generalize ml.map (fun m => D.tup [mkT m, .bl false, .tup []]) = q at ec ew
  generalize wareD (wareV c x k) = wd at ea ew
  generalize ml.map mkT = mlD at e3 ec ⊢
  generalize F_law_makes = F at *
  generalize F_law_inner = F2 at *
  generalize F_law_mixed = F3 at *
  simp [e1, e2, e3, ec, ew, ea, ty]
theorem yard_ok {c n : Int} {h : DH} (hp : Pur h) (n0 : 1 ≤ n) (n1 : n ≤ 4) : F_law_yard [.int c, .int n] h = .ok (yardD (ydV c n.toNat)) h := by
  rw [← ofP_yard]
  have e1 := names_ok (c := c) hp
  have e2 := sl_to (l := (namesV c).map D.str) (m := n) (h := h) (by omega) (by rw [List.length_map]; unfold namesV; rw [List.length_map, List.length_range]; decide)
  rw [← List.map_take] at e2
  have e3 := sorted_strs (l := (namesV c).take n.toNat) (h := h) (fun x hx => by
    have hx := List.mem_of_mem_take hx
    unfold namesV at hx
    obtain ⟨j, _, rfl⟩ := List.mem_map.mp hx
    exact name_ok c j) (by
    rw [List.length_take]
    have : (1000 : Nat) ≤ sizeLine := by decide
    omega)
  have nl := ydNames_len c n.toNat
  have ezl := List.length_zipIdx (l := ydNames c n.toNat) (i := 0)
  have ezm : ∀ p ∈ (ydNames c n.toNat).zipIdx, p.2 < 4 := fun p hp => by
    have := List.mem_zipIdx hp
    omega
  obtain ⟨s', H', el, x4, x5, x6, rfl, rfl⟩ := loop_pre (g := gTp 2 (gsCons (gNm 4) (gsCons (gNm 5) gsNil))) (body := ydB) (chk := stays (.lv ((ydNames c n.toNat).map .str)) ((ydNames c n.toNat).map .str)) (r := fun p : Str × Nat => D.tup [.int (p.2 : Nat), .str p.1])
    (fun pre s H => ∃ x4 x5 x6, s = [some (.int c), some (.int n), some (.lv ((ydNames c n.toNat).map .str)), some (.ref h.length), x4, x5, x6, none] ∧ H = h ++ [.lst ((pre.map fun p => wareV c p.1 p.2).map wareD)]) (fun _ _ _ _ => by simp) (ydNames c n.toNat).zipIdx
    (fun pre p suf e s H ⟨x4, x5, x6, es, eH⟩ => by
      subst es; subst eH
      refine ⟨[some (.int c), some (.int n), some (.lv ((ydNames c n.toNat).map .str)), some (.ref h.length), some (.int (p.2 : Nat)), some (.str p.1), x6, none], _, by simp, _, _, .inl (yd_step (acc := pre.map fun p => wareV c p.1 p.2) (n := n) hp (by have := pre_lt e; rw [List.length_map]; omega) (ezm p (pre_mem e)) (x4 := x4) (x5 := x5) (x6 := x6)), _, _, _, rfl, ?_⟩
      rw [List.map_append (l₁ := pre)]
      rfl) [some (.int c), some (.int n), some (.lv ((ydNames c n.toNat).map .str)), some (.ref h.length), none, none, none, none] (h ++ [.lst []]) ⟨none, none, none, rfl, rfl⟩
  refine den_app (h' := h) (g := [.lst ((ydV c n.toNat).map wareD)]) ?_ hp rfl
  rw [ofP_yard]
  have ev : ((ydNames c n.toNat).zipIdx.map fun p => wareV c p.1 p.2) = ydV c n.toNat := rfl
  rw [ev] at el
  have eyd : D.tup ((ydV c n.toNat).map wareD) = yardD (ydV c n.toNat) := rfl
  have et := tup1_ref (at_last (h := h) (o := .lst ((ydV c n.toNat).map wareD)))
  have en : enumSrc [.lv ((ydNames c n.toNat).map .str)] (h ++ [.lst []]) = .ok ((ydNames c n.toNat).zipIdx.map (fun p : Str × Nat => D.tup [.int (p.2 : Nat), .str p.1]), stays (.lv ((ydNames c n.toNat).map .str)) ((ydNames c n.toNat).map .str)) (h ++ [.lst []]) := by
    rw [enum_lv, numbered_map]
  unfold B_law_yard slots0
  show (mSeq (mAsg (mCall (one (sorted1 false)) (mCons (mSl false (mCall F_law_names (mCons (mVar 0) mNil)) none (some (mVar 1))) mNil)) (gNm 2)) (mSeq (mAsg (mLst true mNil) (gNm 3)) (mSeq (mFor (srcEnum (mCons (mVar 2) mNil)) (gTp 2 (gsCons (gNm 4) (gsCons (gNm 5) gsNil))) ydB) (mSeq (mRet (mCall (one tup1) (mCons (mVar 3) mNil))) mNext)))) [some (.int c), some (.int n), none, none, none, none, none, none] h = _
  rw [eyd] at et
  have e3 : sorted1 false (.lv (((namesV c).take n.toNat).map .str)) h = .ok (.lv ((ydNames c n.toNat).map .str)) h := e3
  generalize (ydNames c n.toNat).map D.str = ysD at e3 en el
  generalize ((namesV c).take n.toNat).map D.str = nsT at e2 e3
  generalize (namesV c).map D.str = nsA at e1 e2
  generalize (ydNames c n.toNat).zipIdx.map (fun p : Str × Nat => D.tup [.int (p.2 : Nat), .str p.1]) = src at en el
  generalize yardD (ydV c n.toNat) = res at et ⊢
  generalize (ydV c n.toNat).map wareD = wds at el et ⊢
  generalize F_law_names = F at *
  simp only [ev_seq, ev_asg, ev_call, ev_cons, ev_sl, ev_part0, ev_part1, ev_v0, ev_vS, ev_nil, then_ok, e1, e2, e3, ev_one, ev_gNm, List.set, ev_lst, mkL_new, ev_for, ev_srcEnum]
  simp [en, el, et]
end Wy

set_option Elab.async false
set_option linter.all false
set_option maxRecDepth 100000
set_option maxHeartbeats 4000000
namespace Wy
open PySem PySem.Spec PyProof.Rows L2
/-! ### a lock drawn -/
def lkD (p : Str × Mk) : D := .tup [.str p.1, mkT p.2]
theorem lkD_under {n : Nat} (p : Str × Mk) : (lkD p).under n = true := by
  unfold lkD
  rw [← ofP_lk]
  exact ofP_under _
theorem lkLst_under {n : Nat} (l : Lock) : Ob.under n (.lst (l.map lkD)) = true := lst_under fun d hd => by
  obtain ⟨p, _, rfl⟩ := List.mem_map.mp hd
  exact lkD_under p
def lkB : SD → M Fl := (mSeq (mAsg (mCall F_law_mixed (mCons (mVar 0) (mCons (m2 (opAdd false) (mC (.int 70)) (mVar 3)) mNil))) (gNm 4)) (mSeq (mIf (mTest (m2 (ordM .gt) (m2 opMod (mVar 4) (mC (.int 4))) (mC (.int 0)))) (mSeq (mExpr (mMeth .list fAppend (mVar 2) (mCons (mTup (mCons (mVar 5) (mCons (m2 ixA (m2 ixA (mVar 6) (m2 opMod (m2 opFdiv (mVar 4) (mC (.int 4))) (mCall (one len1) (mCons (mVar 6) mNil)))) (mC (.int 0))) mNil))) mNil))) mNext) mNext) mNext))
def opt1 {α : Type} : Option α → List α
  | some a => [a]
  | none => []
theorem lk_step {c : Int} {h : DH} (hp : Pur h) {acc : Lock} (za : acc.length ≤ 1000) {w : Ware} {k : Nat} (hk : k < 900) (w0 : w.2 ≠ []) (w1 : w.2.length ≤ 1000) {yd : D} {x4 : Option D} :
    ∃ x4', lkB [some (.int c), some yd, some (.ref h.length), some (.int k), x4, some (.str w.1), some (madesD w.2)] (h ++ [.lst (acc.map lkD)]) = .ok (.nx [some (.int c), some yd, some (.ref h.length), some (.int k), x4', some (.str w.1), some (madesD w.2)]) (h ++ [.lst ((acc ++ opt1 (lkOne c w k)).map lkD)]) := by
  have pH : Pur (h ++ [.lst (acc.map lkD)]) := hp.app (.cons (fun n => lkLst_under acc) pur_nil)
  generalize eH : h ++ [.lst (acc.map lkD)] = H at pH ⊢
  have atH : H[h.length]? = some (.lst (acc.map lkD)) := by rw [← eH]; exact at_last
  have e1 := mixed_ok (c := c) (k := 70 + (k : Int)) pH (by omega) (by omega)
  have ty := ty_ref atH
  unfold lkOne
  generalize em : mixV c (70 + (k : Int)) = m at e1 ⊢
  refine ⟨some (.int m), ?_⟩
  by_cases c0 : 0 < m % 4
  · have wl : 0 < w.2.length := List.length_pos_iff.mpr w0
    have q0 := Int.emod_nonneg (m / 4) (show (w.2.length : Int) ≠ 0 by omega)
    have q1 := Int.emod_lt_of_pos (m / 4) (show (0 : Int) < (w.2.length : Int) by omega)
    generalize eq : m / 4 % (w.2.length : Int) = q at q0 q1 ⊢
    have hq : q.toNat < w.2.length := by omega
    rw [if_pos c0, List.getElem?_eq_getElem hq, Option.map_some]
    generalize ea : w.2[q.toNat] = a
    have ix : atI (w.2.map fun m => ofP (madeP m)) q = some (.tup [mkT a.1, .bl a.2.1, .tup (a.2.2.map fun t => ofP (tieP t))]) := by
      have := atI_nat' (l := w.2.map fun m => ofP (madeP m)) (j := q.toNat) (x := ofP (madeP a)) (by rw [List.getElem?_map, List.getElem?_eq_getElem hq, ea]; rfl)
      rw [Int.toNat_of_nonneg q0, ofP_made] at this
      exact this
    have ap := app_ref (y := lkD (w.1, a.1)) atH (by rw [List.length_map]; exact lt_size (by omega))
    have es : H.set h.length (.lst (acc.map lkD ++ [lkD (w.1, a.1)])) = h ++ [.lst ((acc ++ opt1 (some (w.1, a.1))).map lkD)] := by
      rw [← eH, set_last, List.map_append]; rfl
    rw [es] at ap
    have ed : D.tup [.str w.1, mkT a.1] = lkD (w.1, a.1) := rfl
    generalize opt1 (some (w.1, a.1)) = oo at ap ⊢
    generalize lkD (w.1, a.1) = v at ap ed
    have el : len1 (madesD w.2) H = .ok (.int w.2.length) H := by
      unfold madesD
      rw [len_tup, List.length_map]
    have ei : ixA (madesD w.2) (.int q) H = .ok (.tup [mkT a.1, .bl a.2.1, .tup (a.2.2.map fun t => ofP (tieP t))]) H := by
      unfold madesD
      rw [ix_tup, ix]
    generalize madesD w.2 = rows at el ei ⊢
    have wl' : (0 : Int) < (w.2.length : Int) := by omega
    generalize (w.2.length : Int) = len at el eq wl' 
    unfold lkB
    generalize F_law_mixed = F at *
    simp [e1, c0, el, eq, ei, ed, ap, ty, wl']
  · rw [if_neg c0]
    unfold lkB
    have : acc ++ opt1 (none : Option (Str × Mk)) = acc := by simp [opt1]
    rw [this, eH]
    generalize F_law_mixed = F at *
    simp [e1, c0]
theorem fm_opt {α β : Type} (f : α → Option β) (l : List α) (a : α) : (l ++ [a]).filterMap f = l.filterMap f ++ opt1 (f a) := by
  rw [List.filterMap_append]
  congr 1
  cases e : f a <;> simp [e, opt1]
theorem lock_ok {c : Int} {y : Yard} {h : DH} (hp : Pur h) (y1 : y.length ≤ 900) (ym : ∀ w ∈ y, w.2 ≠ [] ∧ w.2.length ≤ 1000) : F_law_lock [.int c, yardD y] h = .ok (lockD (lkV c y)) h := by
  rw [← ofP_lock]
  have ezm : ∀ p ∈ y.zipIdx, p.2 < 900 ∧ p.1 ∈ y := fun p hp => by
    have := List.mem_zipIdx hp
    refine ⟨by omega, ?_⟩
    rw [this.2.2]
    exact List.getElem_mem _
  have ezl := List.length_zipIdx (l := y) (i := 0)
  obtain ⟨s', H', el, x3, x4, x5, x6, rfl, rfl⟩ := loop_pre (g := gTp 2 (gsCons (gNm 3) (gsCons (gTp 2 (gsCons (gNm 5) (gsCons (gNm 6) gsNil))) gsNil))) (body := lkB) (chk := stays (yardD y) (y.map fun w => .tup [.str w.1, madesD w.2])) (r := fun p : Ware × Nat => D.tup [.int (p.2 : Nat), .tup [.str p.1.1, madesD p.1.2]])
    (fun pre s H => ∃ x3 x4 x5 x6, s = [some (.int c), some (yardD y), some (.ref h.length), x3, x4, x5, x6] ∧ H = h ++ [.lst ((pre.filterMap fun p => lkOne c p.1 p.2).map lkD)]) (fun _ _ _ _ => by unfold yardD; simp) y.zipIdx
    (fun pre p suf e s H ⟨x3, x4, x5, x6, es, eH⟩ => by
      subst es; subst eH
      have hz := ezm p (pre_mem e)
      have hm := ym p.1 hz.2
      have hf := pre_lt e
      have hl := List.length_filterMap_le (fun p : Ware × Nat => lkOne c p.1 p.2) pre
      obtain ⟨x4', e4⟩ := lk_step (c := c) (h := h) hp (acc := pre.filterMap fun p => lkOne c p.1 p.2) (by omega) (w := p.1) (k := p.2) hz.1 hm.1 hm.2 (yd := yardD y) (x4 := x4)
      refine ⟨[some (.int c), some (yardD y), some (.ref h.length), some (.int (p.2 : Nat)), x4, some (.str p.1.1), some (madesD p.1.2)], _, by simp, _, _, .inl e4, _, _, _, _, rfl, ?_⟩
      rw [fm_opt]) [some (.int c), some (yardD y), some (.ref h.length), none, none, none, none] (h ++ [.lst []]) ⟨none, none, none, none, rfl, rfl⟩
  have ev : (y.zipIdx.filterMap fun p => lkOne c p.1 p.2) = lkV c y := rfl
  rw [ev] at el
  refine den_app (h' := h) (g := [.lst ((lkV c y).map lkD)]) ?_ hp rfl
  rw [ofP_lock]
  have et := tup1_ref (at_last (h := h) (o := .lst ((lkV c y).map lkD)))
  have eld : D.tup ((lkV c y).map lkD) = lockD (lkV c y) := rfl
  rw [eld] at et
  have en : enumSrc [yardD y] (h ++ [.lst []]) = .ok (y.zipIdx.map (fun p : Ware × Nat => D.tup [.int (p.2 : Nat), .tup [.str p.1.1, madesD p.1.2]]), stays (yardD y) (y.map fun w => .tup [.str w.1, madesD w.2])) (h ++ [.lst []]) := by
    unfold yardD
    rw [enum_tup, numbered_map]
  unfold B_law_lock slots0
  show (mSeq (mAsg (mLst true mNil) (gNm 2)) (mSeq (mFor (srcEnum (mCons (mVar 1) mNil)) (gTp 2 (gsCons (gNm 3) (gsCons (gTp 2 (gsCons (gNm 5) (gsCons (gNm 6) gsNil))) gsNil))) lkB) (mSeq (mRet (mCall (one tup1) (mCons (mVar 2) mNil))) mNext))) [some (.int c), some (yardD y), none, none, none, none, none] h = _
  generalize y.zipIdx.map (fun p : Ware × Nat => D.tup [.int (p.2 : Nat), .tup [.str p.1.1, madesD p.1.2]]) = src at en el
  generalize stays (yardD y) (y.map fun w => .tup [.str w.1, madesD w.2]) = chk at en el
  generalize yardD y = yd at en el ⊢
  generalize lockD (lkV c y) = res at et ⊢
  generalize (lkV c y).map lkD = wds at el et ⊢
  simp [en, el, et]
end Wy

set_option Elab.async false
set_option linter.all false
set_option maxRecDepth 100000
set_option maxHeartbeats 4000000
namespace Wy
open PySem PySem.Spec PyProof.Rows L2
/-! ### rows of texts -/
theorem spl_first : ∀ (t acc : List Nat), ∃ p r, TL.spl [32] 0 acc t = (acc ++ p) :: r
  | [], acc => ⟨[], [], by rw [TL.spl_nil, List.append_nil]⟩
  | c :: t, acc => by
    cases e : TL.pre [32] (c :: t) with
    | true => exact ⟨[], _, by rw [TL.spl_hit e, List.append_nil]⟩
    | false =>
      obtain ⟨p, r, h⟩ := spl_first t (acc ++ [c])
      exact ⟨c :: p, r, by rw [TL.spl_miss e, h]; simp⟩
theorem wl_first {c : Nat} (h : c ≠ 32) (t : List Nat) : ∃ p r, wl (c :: t) = (c :: p) :: r := by
  obtain ⟨p, r, e⟩ := spl_first t [c]
  have m : TL.pre [32] (c :: t) = false := TL.pre_of_head [] t h
  unfold wl
  rw [TL.spl_miss m, List.nil_append, e, List.filter_cons_of_pos (by simp)]
  exact ⟨p, _, rfl⟩
/-- a remark has no words -/
theorem row_remark {x : Str} {k : Nat} {t : List Nat} (e : TL.tl x = List.replicate k 32 ++ 35 :: t) : rowW x = [] := by
  obtain ⟨p, r, h⟩ := wl_first (c := 35) (by decide) t
  have hw := wordsS_tl x
  rw [e, wl_blanks, h] at hw
  unfold rowW
  cases hl : wordsS x with
  | nil => rfl
  | cons w ws =>
    rw [hl, List.map_cons] at hw
    have h1 := (List.cons.inj hw).1
    dsimp only
    rw [h1]
    rfl
theorem row_blank {x : Str} {k : Nat} (e : TL.tl x = List.replicate k 32) : rowW x = [] := by
  have hw := wordsS_tl x
  have : wl (TL.tl x) = [] := by
    rw [e]
    have := wl_blanks k []
    rw [List.append_nil] at this
    rw [this, wl_nil]
  rw [this] at hw
  unfold rowW
  rw [List.map_eq_nil_iff.mp hw]
/-- a row of two words -/
theorem row_two {x n m : Str} {a b c : Nat} (e : TL.tl x = List.replicate a 32 ++ (TL.tl n ++ (List.replicate (b + 1) 32 ++ (TL.tl m ++ List.replicate c 32)))) (hn : 32 ∉ TL.tl n) (n0 : TL.tl n ≠ []) (hm : 32 ∉ TL.tl m) (m0 : TL.tl m ≠ []) (hr : (TL.tl n).head? ≠ some 35) : rowW x = [n, m] := by
  have hw : wordsS x = [n, m] := wordsS_of (by rw [e, wl_row hn n0 hm m0]; rfl)
  unfold rowW
  rw [hw]
  exact if_neg hr
theorem tl_repS {k : Int} (a : 0 ≤ k) : TL.tl (repS sp k) = List.replicate k.toNat 32 := by
  unfold repS
  by_cases c : k < 1
  · have : k = 0 := by omega
    subst this
    rfl
  · rw [if_neg c]
    have s1 : sp.length = 1 := by decide +kernel
    rw [s1]
    by_cases c1 : k = 1
    · subst c1
      rw [if_pos (by decide)]
      exact tl_sp
    · rw [if_neg (by simpa using c1)]
      show ((List.replicate k.toNat sp.cps).foldl (· ++ ·) #[]).toList = _
      rw [rep_list]
      have : sp.cps.toList = [32] := tl_sp
      rw [this]
      generalize k.toNat = n
      induction n with
      | zero => rfl
      | succ n ih =>
        rw [List.replicate_succ, List.flatten_cons, List.replicate_succ]
        simp at ih
        simp [ih]
theorem sortP_map {α : Type} (f : α → PyData) (l : List α) : sortP (l.map f) = (l.mergeSort fun a b => leP (f a) (f b)).map f := by
  rw [sortP_eq]
  exact (List.map_mergeSort (r := fun a b => leP (f a) (f b)) (s := leP) (f := f) fun a _ b _ => rfl).symm
/-- texts joined with a line feed, split again -/
theorem split_lines {l : List Str} (ne : l ≠ []) (h : ∀ x ∈ l, 10 ∉ TL.tl x) : Txt.split (Txt.join NL l) NL = l := TL.split_join tl_NL (by decide +kernel) ne h
theorem join_app {l m : List Str} (hl : l ≠ []) (hm : m ≠ []) : Txt.join NL (l ++ m) = Txt.join NL l ++ NL ++ Txt.join NL m := by
  refine TL.ext_tl ?_
  rw [TL.tl_append, TL.tl_append, TL.join_eq, TL.join_eq, TL.join_eq, TL.tl_join, TL.tl_join, TL.tl_join, List.map_append]
  have hl : l.map TL.tl ≠ [] := fun e => hl (List.map_eq_nil_iff.mp e)
  have hm : m.map TL.tl ≠ [] := fun e => hm (List.map_eq_nil_iff.mp e)
  generalize l.map TL.tl = a at hl ⊢
  generalize m.map TL.tl = b at hm ⊢
  induction a with
  | nil => exact absurd rfl hl
  | cons x a ih =>
    cases a with
    | nil =>
      cases b with
      | nil => exact absurd rfl hm
      | cons y b =>
        show x ++ (TL.tl NL ++ TL.joinL (TL.tl NL) (y :: b)) = _
        rw [List.append_assoc]
        rfl
    | cons z a =>
      have ih := ih (by simp)
      show x ++ (TL.tl NL ++ TL.joinL (TL.tl NL) ((z :: a) ++ b)) = (x ++ (TL.tl NL ++ TL.joinL (TL.tl NL) (z :: a))) ++ TL.tl NL ++ TL.joinL (TL.tl NL) b
      rw [ih]
      simp only [List.append_assoc]
/-! ### a lock's text -/
/-- a name that may stand in a text -/
structure NameOk (n : Str) : Prop where
  len : 1 ≤ n.length ∧ n.length ≤ 100
  lets : ∀ c ∈ TL.tl n, 97 ≤ c ∧ c ≤ 122
theorem NameOk.txt {n : Str} (h : NameOk n) : PyData.strOk n = true := okS_tl.mpr fun c hc => by
  have := h.lets c hc
  omega
theorem NameOk.ne {n : Str} (h : NameOk n) : TL.tl n ≠ [] := fun e => by
  have := h.len.1
  rw [TL.len_tl, e] at this
  simp at this
theorem NameOk.free {n : Str} (h : NameOk n) {s : Nat} (hs : s < 97) : s ∉ TL.tl n := fun e => by
  have := h.lets s e
  omega
theorem NameOk.head {n : Str} (h : NameOk n) : (TL.tl n).head? ≠ some 35 := fun e => by
  have := h.lets 35 (List.mem_of_mem_head? (by rw [e]; rfl))
  omega
theorem mkS_chars {m : Mk} (h : mkOk m = true) : ∀ c ∈ TL.tl (mkS m), c = 46 ∨ 48 ≤ c ∧ c ≤ 57 := by
  obtain ⟨m1, m2, m3⟩ := mk_all h
  rw [tl_mkS]
  have : ∀ l : List (List Nat), (∀ p ∈ l, ∀ c ∈ p, 48 ≤ c ∧ c ≤ 57) → ∀ c ∈ TL.joinL [46] l, c = 46 ∨ 48 ≤ c ∧ c ≤ 57 := by
    intro l
    induction l with
    | nil => intro _ c hc; simp [TL.joinL] at hc
    | cons p l ih =>
      intro hl c hc
      cases l with
      | nil => exact .inr (hl p (by simp) c hc)
      | cons q l =>
        have hc : c ∈ p ++ ([46] ++ TL.joinL [46] (q :: l)) := hc
        rcases List.mem_append.mp hc with hc | hc
        · exact .inr (hl p (by simp) c hc)
        · rcases List.mem_append.mp hc with hc | hc
          · exact .inl (by simpa using hc)
          · exact ih (fun p hp => hl p (List.mem_cons_of_mem _ hp)) c hc
  refine this _ fun p hp c hc => ?_
  obtain ⟨n, hn, rfl⟩ := List.mem_map.mp hp
  obtain ⟨k, rfl⟩ := Int.eq_ofNat_of_zero_le (num_in (m3 n hn)).1
  rw [tl_numS] at hc
  exact TL.numL_digits k c hc
theorem mkS_ne {m : Mk} (h : mkOk m = true) : TL.tl (mkS m) ≠ [] := by
  obtain ⟨m1, m2, m3⟩ := mk_all h
  rw [tl_mkS]
  cases m with
  | nil => simp at m1
  | cons n m =>
    have hn := (num_len (m3 n (by simp))).1
    rw [TL.len_tl] at hn
    have hne : TL.tl (numS n) ≠ [] := fun e => by rw [e] at hn; simp at hn
    cases m with
    | nil => exact hne
    | cons n' m =>
      show TL.tl (numS n) ++ _ ≠ []
      simp [hne]
theorem mkS_free {m : Mk} (h : mkOk m = true) {s : Nat} (h1 : s ≠ 46) (h2 : s < 48 ∨ 57 < s) : s ∉ TL.tl (mkS m) := fun e => by
  have := mkS_chars h s e
  omega
/-- a lock that may be written -/
structure LockOk (l : Lock) : Prop where
  names : ∀ p ∈ l, NameOk p.1
  makes : ∀ p ∈ l, mkOk p.2 = true
  few : l.length ≤ 100
def lkRow (p : Str × Mk) : Str := p.1 ++ sp ++ mkS p.2 ++ NL
def lkTxt (l : Lock) : Str := Txt.join "" (l.map lkRow)
theorem len_app (x y : Str) : (x ++ y).length = x.length + y.length := by
  rw [TL.len_tl, TL.tl_append, List.length_append, ← TL.len_tl, ← TL.len_tl]
theorem sp_1 : sp.length = 1 := by decide +kernel
theorem NL_1 : NL.length = 1 := rfl
theorem lkRow_len {p : Str × Mk} (h : NameOk p.1) (m : mkOk p.2 = true) : (lkRow p).length ≤ 121 := by
  unfold lkRow
  rw [len_app, len_app, len_app, sp_1, NL_1]
  have := h.len.2
  have := mkS_len m
  omega
theorem sp_ok : PyData.strOk sp = true := by decide +kernel
theorem NL_ok : PyData.strOk NL = true := by decide +kernel
theorem lkRow_ok {p : Str × Mk} (h : NameOk p.1) : PyData.strOk (lkRow p) = true := ok_app (ok_app (ok_app h.txt sp_ok) mkS_ok) NL_ok
/-- the row as it is put together -/
theorem row_cat {p : Str × Mk} (h : NameOk p.1) (m : mkOk p.2 = true) {H : DH} : opAdd false (.str p.1) (.str sp) H = .ok (.str (p.1 ++ sp)) H ∧ opAdd false (.str (p.1 ++ sp)) (.str (mkS p.2)) H = .ok (.str (p.1 ++ sp ++ mkS p.2)) H ∧ opAdd false (.str (p.1 ++ sp ++ mkS p.2)) (.str NL) H = .ok (.str (lkRow p)) H := by
  have a := h.len.2
  have b := mkS_len m
  refine ⟨cat_str (le_size ?_), cat_str (le_size ?_), cat_str (le_size ?_)⟩
  · rw [sp_1]; omega
  · rw [len_app, sp_1]; omega
  · rw [len_app, len_app, sp_1, NL_1]; omega
theorem lkTxt_join {l : Lock} (o : LockOk l) {H : DH} : fJoin (.str "") [.lv (l.map fun p => .str (lkRow p))] H = .ok (.str (lkTxt l)) H := by
  have e : (l.map fun p => D.str (lkRow p)) = (l.map lkRow).map .str := by rw [List.map_map]; rfl
  rw [e]
  refine join_lv ?_ (ok_of "") fun x hx => by
    obtain ⟨p, hp, rfl⟩ := List.mem_map.mp hx
    exact lkRow_ok (o.names p hp)
  have := sum_le (fun p => (lkRow p).length) 121 l fun p hp => lkRow_len (o.names p hp) (o.makes p hp)
  have z : (Str.ofString "").length = 0 := by decide +kernel
  rw [List.map_map, List.length_map, z]
  have := o.few
  show (l.map fun p => (lkRow p).length).sum + l.length * 0 ≤ 16777216
  omega
theorem lkTxt_ok {l : Lock} (o : LockOk l) : PyData.strOk (lkTxt l) = true := join_okS (ok_of "") fun x hx => by
  obtain ⟨p, hp, rfl⟩ := List.mem_map.mp hx
  exact lkRow_ok (o.names p hp)
theorem joinL_le (S : List Nat) : ∀ l : List (List Nat), (TL.joinL S l).length ≤ (l.map (·.length)).sum + l.length * S.length
  | [] => by simp [TL.joinL]
  | [p] => by simp [TL.joinL]
  | p :: q :: r => by
    have ih := joinL_le S (q :: r)
    show (p ++ (S ++ TL.joinL S (q :: r))).length ≤ _
    rw [List.map_cons, List.sum_cons, List.length_append, List.length_append, List.length_cons, Nat.succ_mul]
    omega
theorem join_len (a : Str) (ys : List Str) : (Txt.join a ys).length ≤ (ys.map (·.length)).sum + ys.length * a.length := by
  have := joinL_le (TL.tl a) (ys.map TL.tl)
  rw [TL.len_tl, TL.join_eq, TL.tl_join, TL.len_tl a]
  rw [List.map_map, List.length_map] at this
  have e : ys.map (fun x : Str => x.length) = ys.map ((fun x : List Nat => x.length) ∘ TL.tl) := List.map_congr_left fun x _ => TL.len_tl x
  rw [e]
  exact this
theorem repS_01 (x : Str) {b : Int} (b0 : 0 ≤ b) (b1 : b ≤ 1) : (repS x b).length ≤ x.length := by
  have : b = 0 ∨ b = 1 := by omega
  rcases this with rfl | rfl
  · exact Nat.zero_le _
  · unfold repS
    rw [if_neg (by decide), if_pos (by simp)]
    exact Nat.le_refl _
end Wy

set_option Elab.async false
set_option linter.all false
set_option maxRecDepth 100000
set_option maxHeartbeats 4000000
namespace Wy
open PySem PySem.Spec PyProof.Rows L2
/-! ### a yard whose names and makes may be written -/
structure YardW (y : Yard) : Prop where
  ok : YardOk y
  names : ∀ w ∈ y, NameOk w.1
  makes : ∀ w ∈ y, ∀ m ∈ w.2, mkOk m.1 = true
  some : 1 ≤ y.length
  few : y.length ≤ 10
  each : ∀ w ∈ y, 1 ≤ w.2.length ∧ w.2.length ≤ 10
theorem text_comp {m : Mk} (hm : mkOk m = true) {i : Nat} {s : SD} {h : DH} {src : SD → M Src} (hs : src s h = .ok (m.map .int, stays (mkT m) (m.map .int)) h) (hi : i < s.length) :
    mComp [i] (.nm i) mYes (mCall (one str1) (mCons (mVar i) mNil)) false src s h = .ok (.lv (m.map fun n => .str (numS n))) h := by
  obtain ⟨m1, m2, m3⟩ := mk_all hm
  refine comp_lv D.int (fun n => .str (numS n)) hs (by unfold mkT; simp) (Nat.le_trans m2 size4) fun n hn => ⟨(wipeD s [i]).set i (some (.int n)), rfl, rfl, ?_⟩
  have hv : ∀ h, mVar i ((wipeD s [i]).set i (some (.int n))) h = .ok (.int n) h := fun h => by
    rw [ev_v, List.getElem?_set_self (by simp [wipeD]; exact hi)]
  have := str_int' (h := h) (small_of (m3 n hn))
  simp [hv, this]
/-! ### the odd row -/
theorem az_len {x : String} {k : Nat} (h : (Str.ofString x).length ≤ k := by decide +kernel) {s : SD} {H : DH} : GS (mC (.str (Str.ofString x))) s H k := gs_c (ok_of _) h
theorem odd_ok {c : Int} {y : Yard} {ld : D} {h : DH} (hp : Pur h) (w : YardW y) : ∃ x : Str, F_law_odd_row [.int c, yardD y, ld] h = .ok (.str x) h ∧ PyData.strOk x = true ∧ x.length ≤ 1000 := by
  have ly : (0 : Int) < (y.length : Int) := by have := w.some; omega
  have q0 := Int.emod_nonneg (c / 32) (show (y.length : Int) ≠ 0 by omega)
  have q1 := Int.emod_lt_of_pos (c / 32) ly
  generalize eq : c / 32 % (y.length : Int) = q at q0 q1
  have hq : q.toNat < y.length := by omega
  obtain ⟨a, ea⟩ : ∃ a, y[q.toNat]? = some a := ⟨_, List.getElem?_eq_getElem hq⟩
  have am := List.mem_of_getElem? ea
  have an := w.names a am
  have ae := w.each a am
  obtain ⟨m, ms, em⟩ : ∃ m ms, a.2 = m :: ms := by
    cases e : a.2 with
    | nil => rw [e] at ae; simp at ae
    | cons m ms => exact ⟨m, ms, rfl⟩
  have mo := w.makes a am m (by rw [em]; simp)
  have el : len1 (yardD y) h = .ok (.int y.length) h := by
    unfold yardD
    rw [len_tup, List.length_map]
  have ei : ixA (yardD y) (.int q) h = .ok (.tup [.str a.1, madesD a.2]) h := by
    unfold yardD
    rw [ix_tup]
    have := atI_nat' (l := y.map fun w => D.tup [.str w.1, madesD w.2]) (j := q.toNat) (x := .tup [.str a.1, madesD a.2]) (by rw [List.getElem?_map, ea]; rfl)
    rw [Int.toNat_of_nonneg q0] at this
    rw [this]
  have ix0 : ixA (madesD a.2) (.int 0) h = .ok (.tup [mkT m.1, .bl m.2.1, .tup (m.2.2.map fun t => ofP (tieP t))]) h := by
    unfold madesD
    rw [em, ix_tup, List.map_cons, atI_0, ofP_made]
  have tc : mComp [6] (.nm 6) mYes (mCall (one str1) (mCons (mVar 6) mNil)) false (srcSeqA (m2 ixA (m2 ixA (mVar 4) (mC (.int 0))) (mC (.int 0)))) [some (.int c), some (yardD y), some ld, some (.str a.1), some (madesD a.2), none, none, none] h = .ok (.lv (m.1.map fun n => .str (numS n))) h :=
    text_comp mo (by
      generalize yardD y = yd
      generalize madesD a.2 = md at ix0 ⊢
      have s1 : seqSrcA (mkT m.1) h = .ok (m.1.map .int, stays (mkT m.1) (m.1.map .int)) h := rfl
      generalize mkT m.1 = mt at ix0 s1 ⊢
      simp [ix0, s1]) (by simp)
  have tj := join_num (h := h) mo
  have ml := mkS_len mo
  have nl := an.len.2
  generalize em2 : mkS m.1 = mk at tj ml
  have mok : PyData.strOk mk = true := by rw [← em2]; exact mkS_ok
  generalize en : a.1 = nm at *
  have nok := an.txt
  have g3 : ∀ x7 : Option D, GS (mVar 3) [some (.int c), some (yardD y), some ld, some (.str nm), some (madesD a.2), some (.str mk), none, x7] h 100 := fun x7 => gs_is (by simp) nok nl
  have g5 : ∀ x7 : Option D, GS (mVar 5) [some (.int c), some (yardD y), some ld, some (.str nm), some (madesD a.2), some (.str mk), none, x7] h 19 := fun x7 => gs_is (by simp) mok ml
  have g7 : ∀ xs : List Str, (∀ x ∈ xs, PyData.strOk x = true ∧ x.length ≤ 1000) → GV (mVar 7) [some (.int c), some (yardD y), some ld, some (.str nm), some (madesD a.2), some (.str mk), none, some (.lv (xs.map .str))] h 1000 xs.length := fun xs o => ⟨xs, by simp, o, rfl⟩
  have c28 := Int.emod_nonneg c (show (28 : Int) ≠ 0 by decide)
  have c28' := Int.emod_lt_of_pos c (show (0 : Int) < 28 by decide)
  generalize yardD y = yd at *
  generalize madesD a.2 = md at *
  generalize m.1.map (fun n => D.str (numS n)) = nd at tc tj
  have asg : ∀ {m : SD → M D} {x7 : Option D} {n : Nat} {k : SD → M Fl}, GV m [some (.int c), some yd, some ld, some (.str nm), some md, some (.str mk), none, x7] h 1000 n →
      (∀ xs : List Str, (∀ x ∈ xs, PyData.strOk x = true ∧ x.length ≤ 1000) → xs.length = n → ∃ x : Str, k [some (.int c), some yd, some ld, some (.str nm), some md, some (.str mk), none, some (.lv (xs.map .str))] h = .ok (.rt (.str x)) h ∧ PyData.strOk x = true ∧ x.length ≤ 1000) →
      ∃ x : Str, mSeq (mAsg m (gNm 7)) k [some (.int c), some yd, some ld, some (.str nm), some md, some (.str mk), none, x7] h = .ok (.rt (.str x)) h ∧ PyData.strOk x = true ∧ x.length ≤ 1000 := fun {m x7 n k} g f => by
    obtain ⟨xs, e, o, l⟩ := g
    have := f xs o l
    rw [ev_seq, ev_asg, e, then_ok, ev_gNm, then_ok, then_ok]
    exact this
  suffices body : ∃ x : Str, B_law_odd_row (slots0 8 [.int c, yd, ld]) h = .ok (.rt (.str x)) h ∧ PyData.strOk x = true ∧ x.length ≤ 1000 by
    obtain ⟨x, e, o, l⟩ := body
    exact ⟨x, den_eq (p := .str x) e hp rfl, o, l⟩
  unfold B_law_odd_row slots0
  show ∃ x : Str, (mSeq (mAsg _ (gTp 2 (gsCons (gNm 3) (gsCons (gNm 4) gsNil)))) (mSeq (mAsg _ (gNm 5)) _) : SD → M Fl) [some (.int c), some yd, some ld, none, none, none, none, none] h = .ok (.rt (.str x)) h ∧ PyData.strOk x = true ∧ x.length ≤ 1000
  have e1 : (mAsg (m2 ixA (mVar 1) (m2 opMod (m2 opFdiv (mVar 0) (mC (.int 32))) (mCall (one len1) (mCons (mVar 1) mNil)))) (gTp 2 (gsCons (gNm 3) (gsCons (gNm 4) gsNil)))) [some (.int c), some yd, some ld, none, none, none, none, none] h = .ok (.nx [some (.int c), some yd, some ld, some (.str nm), some md, none, none, none]) h := by
    clear q0 q1 hq
    generalize (y.length : Int) = yl at el ly eq
    simp [el, ly, eq, ei]
  have e2 : (mAsg (mMeth .str fJoin (mC (.str ".")) (mCons (mComp [6] (.nm 6) mYes (mCall (one str1) (mCons (mVar 6) mNil)) false (srcSeqA (m2 ixA (m2 ixA (mVar 4) (mC (.int 0))) (mC (.int 0))))) mNil)) (gNm 5)) [some (.int c), some yd, some ld, some (.str nm), some md, none, none, none] h = .ok (.nx [some (.int c), some yd, some ld, some (.str nm), some md, some (.str mk), none, none]) h := by
    unfold DOT at tj
    simp [tc, tj]
  rw [ev_seq, e1, then_ok]
  dsimp only
  rw [ev_seq, e2, then_ok]
  dsimp only
  have G3 := fun x7 => gs_mono (k := 100) (g3 x7) (by decide)
  have az := an.lets
  have cat : ∀ {m m' : SD → M D} {S : SD} {j k : Nat}, GS m S h j → GS m' S h k → j + k ≤ 1000 → GS (m2 (opAdd false) m m') S h (j + k) := fun a b z => gs_cat a b (Nat.le_refl _) (Nat.le_trans z (by decide))
  have up : ∀ {m : SD → M D} {S : SD} {j : Nat}, GS m S h j → j ≤ 1000 → GS m S h 1000 := fun a z => gs_mono a z
  refine asg (gv_lst (gl_cons (up (g3 _) (by decide)) (gl_cons (up (g5 _) (by decide))
    (gl_cons (up (cat (cat (cat (cat (g3 _) (az_len (k := 1)) (by decide)) (g5 _) (by decide)) (az_len (k := 1)) (by decide)) (g5 _) (by decide)) (by decide))
    (gl_cons (up (cat (cat (g3 _) (az_len (k := 1)) (by decide)) (g5 _) (by decide)) (by decide))
    (gl_cons (up (cat (cat (gs_upper (x := nm) (by simp) nl (by decide) az) (az_len (k := 1)) (by decide)) (g5 _) (by decide)) (by decide))
    (gl_cons (up (cat (az_len (k := 2)) (g5 _) (by decide)) (by decide)) gl_nil)))))) (by decide)) fun xs o l => ?_
  refine asg (gv_cat (g7 xs o) (gv_lst (gl_cons (up (cat (cat (g3 _) (az_len (k := 2)) (by decide)) (g5 _) (by decide)) (by decide))
    (gl_cons (up (cat (cat (cat (g3 _) (az_len (k := 1)) (by decide)) (g5 _) (by decide)) (az_len (k := 1)) (by decide)) (by decide))
    (gl_cons (up (cat (cat (g3 _) (az_len (k := 2)) (by decide)) (g5 _) (by decide)) (by decide))
    (gl_cons (up (cat (cat (g3 _) (az_len (k := 2)) (by decide)) (g5 _) (by decide)) (by decide))
    (gl_cons (up (cat (g3 _) (az_len (k := 2)) (by decide)) (by decide)) gl_nil))))) (by decide)) (by omega)) fun xs2 o2 l2 => ?_
  refine asg (gv_cat (g7 xs2 o2) (gv_lst (gl_cons (up (cat (cat (cat (g3 _) (az_len (k := 1)) (by decide)) (g5 _) (by decide)) (az_len (k := 8)) (by decide)) (by decide))
    (gl_cons (up (cat (g3 _) (az_len (k := 6)) (by decide)) (by decide))
    (gl_cons (up (cat (cat (cat (g3 _) (az_len (k := 1)) (by decide)) (g5 _) (by decide)) (az_len (k := 2)) (by decide)) (by decide))
    (gl_cons (up (cat (cat (g3 _) (az_len (k := 2)) (by decide)) (g5 _) (by decide)) (by decide)) gl_nil)))) (by decide)) (by omega)) fun xs3 o3 l3 => ?_
  refine asg (gv_cat (g7 xs3 o3) (gv_lst (gl_cons (up (cat (g3 _) (az_len (k := 4)) (by decide)) (by decide))
    (gl_cons (up (cat (az_len (k := 5)) (g3 _) (by decide)) (by decide))
    (gl_cons (up (cat (az_len (k := 5)) (g3 _) (by decide)) (by decide))
    (gl_cons (up (cat (cat (g3 _) (az_len (k := 1)) (by decide)) (g5 _) (by decide)) (by decide))
    (gl_cons (up (cat (cat (g5 _) (az_len (k := 1)) (by decide)) (g3 _) (by decide)) (by decide))
    (gl_cons (up (cat (az_len (k := 3)) (g3 _) (by decide)) (by decide)) gl_nil)))))) (by decide)) (by omega)) fun xs4 o4 l4 => ?_
  refine asg (gv_cat (g7 xs4 o4) (gv_lst (gl_cons (up (cat (cat (cat (g3 _) (az_len (k := 1)) (by decide)) (g5 _) (by decide)) (az_len (k := 4)) (by decide)) (by decide))
    (gl_cons (up (cat (cat (cat (g3 _) (az_len (k := 1)) (by decide)) (g5 _) (by decide)) (az_len (k := 1)) (by decide)) (by decide))
    (gl_cons (up (cat (cat (cat (g3 _) (g3 _) (by decide)) (az_len (k := 1)) (by decide)) (g5 _) (by decide)) (by decide))
    (gl_cons (up (cat (cat (g3 _) (az_len (k := 2)) (by decide)) (g5 _) (by decide)) (by decide)) gl_nil)))) (by decide)) (by omega)) fun xs5 o5 l5 => ?_
  have fin := gs_ix (m' := m2 opMod (mVar 0) (mC (.int 28))) (i := c % 28) (gv_cat (g7 xs5 o5) (gv_lst (gl_cons (up (cat (cat (cat (az_len (x := "#") (k := 1)) (g3 _) (by decide)) (az_len (x := " ") (k := 1)) (by decide)) (g5 _) (by decide)) (by decide))
    (gl_cons (up (cat (cat (g3 _) (az_len (x := " ") (k := 1)) (by decide)) (gs_repl (c := 46) (z := Str.ofString "..") (j := 19) (k := 59) (x := mk) (m := mVar 5) (show mVar 5 [some (.int c), some yd, some ld, some (.str nm), some md, some (.str mk), none, some (.lv (xs5.map .str))] h = .ok (.str mk) h by simp) mok ml (ok_of _) (by decide +kernel) (by decide)) (by decide)) (by decide))
    (gl_cons (up (az_len (x := "") (k := 0)) (by decide)) gl_nil))) (by decide)) (by omega)) (by simp) c28 (by omega)
  obtain ⟨x, e, o, l⟩ := fin
  refine ⟨x, ?_, o, l⟩
  have dot : (⟨#[46]⟩ : Str) = Str.ofString "." := by decide +kernel
  rw [dot] at e
  rw [ev_seq, ev_ret, e, then_ok, then_ok]
end Wy

set_option Elab.async false
set_option linter.all false
set_option maxRecDepth 100000
set_option maxHeartbeats 4000000
namespace Wy
open PySem PySem.Spec PyProof.Rows L2
/-! ### the program's word -/
theorem told_ok {x : Str} {y : Yard} {h : DH} (hp : Pur h) (oy : YardOk y) (hx : PyData.strOk x = true) (z : x.length + 2 ≤ sizeLine) :
    F_law_told [.str x, yardD y] h = match lockBy y x with
      | some f => Re.ok (lockD (sortL f)) h
      | none => Re.ok (.str "refused") h := by
  have el := lockby_ok hp oy hx z
  have cs : csOf [("NoLock", true)] "NoLock" = some true := by decide +kernel
  cases e : lockBy y x with
  | some f =>
    rw [e] at el
    dsimp only at el ⊢
    rw [← ofP_lock]
    refine den_eq ?_ hp rfl
    rw [ofP_lock]
    have ns : isM false .non .non h = .ok (.bl true) h := rfl
    unfold B_law_told slots0
    show (mSeq _ _ : SD → M Fl) [some (.str x), some (yardD y), none, none, none, none] h = _
    generalize yardD y = yd at el ⊢
    generalize F_lock_by = F at *
    generalize lockD (sortL f) = ld at el ⊢
    simp [el, ns]
  | none =>
    rw [e] at el
    dsimp only at el ⊢
    refine den_eq (p := .str "refused") ?_ hp rfl
    have ns : isM false (.fn (excN "NoLock") []) .non h = .ok (.bl false) h := rfl
    have ix : atI [D.str (Str.ofString "refused"), .str (Str.ofString "other")] 0 = some (.str (Str.ofString "refused")) := rfl
    unfold B_law_told slots0 ofP
    show (mSeq _ _ : SD → M Fl) [some (.str x), some (yardD y), none, none, none, none] h = _
    generalize yardD y = yd at el ⊢
    generalize F_lock_by = F at *
    simp [el, ns, cs, mkL_two]
/-! ### the law's own look -/
/-- name, text and make of each make -/
def entries (y : Yard) : List (Str × Mk) := y.flatMap fun w => w.2.map fun m => (w.1, m.1)
def entD (e : Str × Mk) : D := .lv [.str e.1, .str (mkS e.2), mkT e.2]
def entP (e : Str × Mk) : PyData := .list [.str e.1, .str (mkS e.2), mkP e.2]
theorem ofP_ent (e : Str × Mk) : ofP (entP e) = entD e := by
  unfold entP entD
  rw [ofP_list, List.map_cons, List.map_cons, List.map_cons, List.map_nil, ofP_mk]
  rfl
/-- those of the entries whose two words are these -/
def hits (y : Yard) (ws : List Str) : List (Str × Mk) := (entries y).filter fun e => decide ([e.1, mkS e.2] = ws)
/-- what a row does, by the law's own look -/
def readStep (y : Yard) (f : Lock) (line : Str) : Option Lock := match rowW line with
  | [] => some f
  | n :: r => match hits y (n :: r) with
    | [] => none
    | e :: _ => if n ∈ f.map (·.1) then none else some (f ++ [(n, e.2)])
theorem read_is {y : Yard} (w : YardW y) (f : Lock) (line : Str) : readStep y f line = lockStep y f line := by
  unfold readStep lockStep
  cases rowW line with
  | nil => rfl
  | cons n r =>
    dsimp only
    have he : ∀ e ∈ hits y (n :: r), ∃ a ∈ y, a.1 = n ∧ r = [mkS e.2] ∧ e.2 ∈ a.2.map (·.1) ∧ mkOk e.2 = true := fun e he => by
      unfold hits at he
      obtain ⟨h1, h2⟩ := List.mem_filter.mp he
      have h2 : [e.1, mkS e.2] = n :: r := of_decide_eq_true h2
      unfold entries at h1
      obtain ⟨a, ha, h3⟩ := List.mem_flatMap.mp h1
      obtain ⟨m, hm, rfl⟩ := List.mem_map.mp h3
      have := List.cons.inj h2
      exact ⟨a, ha, this.1, this.2.symm, List.mem_map_of_mem hm, w.makes a ha m hm⟩
    cases hh : hits y (n :: r) with
    | nil =>
      dsimp only
      match r with
      | [] => rfl
      | [m] =>
        dsimp only
        cases hm : makesOf y n with
        | none => rfl
        | some ms =>
          cases hk : mkBy m with
          | none => rfl
          | some k =>
            dsimp only
            refine (if_neg fun hc => ?_).symm
            unfold makesOf at hm
            obtain ⟨a, ha, rfl⟩ := Option.map_eq_some_iff.mp hm
            have an : a.1 = n := by simpa using List.find?_some ha
            have ay := List.mem_of_find?_eq_some ha
            obtain ⟨b, hb, eb⟩ := List.mem_map.mp hc.2
            have : (n, k) ∈ hits y [n, m] := by
              unfold hits
              refine List.mem_filter.mpr ⟨?_, decide_eq_true ?_⟩
              · unfold entries
                exact List.mem_flatMap.mpr ⟨a, ay, List.mem_map.mpr ⟨b, hb, by rw [an, eb]⟩⟩
              · rw [(mkBy_some.mp hk).2]
            rw [hh] at this
            cases this
      | _ :: _ :: _ => rfl
    | cons e es =>
      dsimp only
      obtain ⟨a, ay, an, er, em, eo⟩ := he e (by rw [hh]; simp)
      subst er
      dsimp only
      have hm : makesOf y n = some (a.2.map (·.1)) := by
        unfold makesOf
        have := find_nodup (k := fun w : Ware => w.1) w.ok.nodup ay
        rw [an] at this
        rw [this]; rfl
      rw [hm, mkBy_some.mpr ⟨eo, rfl⟩]
      dsimp only
      by_cases c : n ∈ f.map (·.1)
      · rw [if_pos c, if_neg fun h => h.1 c]
      · rw [if_neg c, if_pos ⟨c, em⟩]
end Wy

set_option Elab.async false
set_option linter.all false
set_option maxRecDepth 100000
set_option maxHeartbeats 4000000
namespace Wy
open PySem PySem.Spec PyProof.Rows L2
theorem cut1 {w : Str} {h : DH} (z : w.length ≤ sizeLine) : slM false (.str w) none (some 1) h = .ok (.str ⟨((TL.tl w).take 1).toArray⟩) h := by
  show (if w.length ≤ sizeLine then Re.ok (D.str (cutS w none (some 1))) h else .bad) = _
  rw [if_pos z]
  congr 2
  unfold cutS
  have e1 : HT.sIx w.length w.length (some 1) = min 1 w.length := HT.sIx_nat w.length w.length 1
  rw [HT.sIx_none, e1, List.drop_zero, Nat.sub_zero]
  congr 2
  rw [TL.len_tl]
  show List.take (min 1 (TL.tl w).length) (TL.tl w) = _
  cases TL.tl w with
  | nil => rfl
  | cons a l =>
    have : min 1 (a :: l).length = 1 := by simp
    rw [this]
theorem hash_iff {w : Str} : ((⟨((TL.tl w).take 1).toArray⟩ : Str) = Str.ofString "#") ↔ (TL.tl w).head? = some 35 := by
  have h35 : TL.tl (Str.ofString "#") = [35] := by decide +kernel
  constructor
  · intro h
    have h2 : (TL.tl w).take 1 = [35] := by rw [← h35, ← h]
    cases e : TL.tl w with
    | nil => rw [e] at h2; cases h2
    | cons a l =>
      rw [e] at h2
      have : a = 35 := by simpa using h2
      rw [this]; rfl
  · intro h
    refine TL.ext_tl ?_
    rw [h35]
    show (TL.tl w).take 1 = [35]
    cases e : TL.tl w with
    | nil => rw [e] at h; cases h
    | cons a l =>
      rw [e] at h
      have : a = 35 := by simpa using h
      rw [this]; rfl
theorem take_ok {w : Str} (h : PyData.strOk w = true) {n : Nat} : PyData.strOk ⟨((TL.tl w).take n).toArray⟩ = true := okS_tl.mpr fun c hc => okS_tl.mp h c (List.mem_of_mem_take hc)
/-! the entries -/
def innB : SD → M Fl := (mSeq (mAsg (m2 (opAdd false) (mVar 5) (mComp [11] (.nm 11) mYes (mLst false (mCons (mVar 7) (mCons (mMeth .str fJoin (mC (.str ".")) (mCons (mComp [13] (.nm 13) mYes (mCall (one str1) (mCons (mVar 13) mNil)) false (srcSeqA (m2 ixA (mVar 11) (mC (.int 0))))) mNil)) (mCons (m2 ixA (mVar 11) (mC (.int 0))) mNil)))) false (srcSeqA (mVar 8)))) (gNm 5)) mNext)
theorem ent_len {y : Yard} (w : YardW y) : ∀ {pre suf : Yard}, y = pre ++ suf → (entries pre).length ≤ pre.length * 10
  | [], _, _ => by simp [entries]
  | a :: pre, suf, e => by
    have : ∀ (l : Yard), (∀ a ∈ l, a.2.length ≤ 10) → (entries l).length ≤ l.length * 10 := by
      intro l
      induction l with
      | nil => intro _; simp [entries]
      | cons a l ih =>
        intro h
        have h1 := h a (by simp)
        have h2 := ih fun b hb => h b (List.mem_cons_of_mem _ hb)
        unfold entries at h2 ⊢
        rw [List.flatMap_cons, List.length_append, List.length_map, List.length_cons, Nat.succ_mul]
        omega
    exact this _ fun b hb => (w.each b (by rw [e]; exact List.mem_append_left _ hb)).2
theorem inn_step {y : Yard} (w : YardW y) {a : Ware} (ha : a ∈ y) {es : List (Str × Mk)} (ze : es.length ≤ 1000) {x0 x1 x2 x3 x4 x6 : Option D} {H : DH} :
    innB [x0, x1, x2, x3, x4, some (.lv (es.map entD)), x6, some (.str a.1), some (madesD a.2), none, none, none, none, none] H = .ok (.nx [x0, x1, x2, x3, x4, some (.lv ((es ++ a.2.map fun m => (a.1, m.1)).map entD)), x6, some (.str a.1), some (madesD a.2), none, none, none, none, none]) H := by
  have few := (w.each a ha).2
  have ec : mComp [11] (.nm 11) mYes (mLst false (mCons (mVar 7) (mCons (mMeth .str fJoin (mC (.str ".")) (mCons (mComp [13] (.nm 13) mYes (mCall (one str1) (mCons (mVar 13) mNil)) false (srcSeqA (m2 ixA (mVar 11) (mC (.int 0))))) mNil)) (mCons (m2 ixA (mVar 11) (mC (.int 0))) mNil)))) false (srcSeqA (mVar 8)) [x0, x1, x2, x3, x4, some (.lv (es.map entD)), x6, some (.str a.1), some (madesD a.2), none, none, none, none, none] H = .ok (.lv (a.2.map fun m => entD (a.1, m.1))) H :=
    comp_lv (fun m : Made => ofP (madeP m)) (fun m => entD (a.1, m.1)) (c := stays (madesD a.2) (a.2.map fun m => ofP (madeP m))) (by unfold madesD; simp) (by unfold madesD; simp) (le_size (by omega)) fun m hm => ⟨[x0, x1, x2, x3, x4, some (.lv (es.map entD)), x6, some (.str a.1), some (madesD a.2), none, none, some (ofP (madeP m)), none, none], rfl, rfl, by
      have mo := w.makes a ha m hm
      rw [ofP_made]
      generalize D.tup (m.2.2.map fun t => ofP (tieP t)) = tt
      have tc : mComp [13] (.nm 13) mYes (mCall (one str1) (mCons (mVar 13) mNil)) false (srcSeqA (m2 ixA (mVar 11) (mC (.int 0)))) [x0, x1, x2, x3, x4, some (.lv (es.map entD)), x6, some (.str a.1), some (madesD a.2), none, none, some (.tup [mkT m.1, .bl m.2.1, tt]), none, none] H = .ok (.lv (m.1.map fun n => .str (numS n))) H :=
        text_comp mo (by
          have s1 : seqSrcA (mkT m.1) H = .ok (m.1.map .int, stays (mkT m.1) (m.1.map .int)) H := rfl
          generalize mkT m.1 = mt at s1 ⊢
          simp [s1]) (by simp)
      have tj := join_num (h := H) mo
      have mk3 : ∀ (a b c : D) (H : DH), mkL false [a, b, c] H = .ok (.lv [a, b, c]) H := fun a b c H => mkL_f (le_size (show 3 ≤ 1000000 by decide))
      unfold DOT at tj
      generalize D.lv (es.map entD) = ed at tc ⊢
      unfold entD
      generalize m.1.map (fun n => D.str (numS n)) = nd at tc tj
      generalize mkS m.1 = ms at tj ⊢
      generalize mkT m.1 = mt at tc ⊢
      generalize madesD a.2 = md at tc ⊢
      simp [tc, tj, mk3]⟩
  have e2 : (a.2.map fun m => entD (a.1, m.1)) = (a.2.map fun m => (a.1, m.1)).map entD := by rw [List.map_map]; rfl
  rw [e2] at ec
  have ea : opAdd false (.lv (es.map entD)) (.lv ((a.2.map fun m => (a.1, m.1)).map entD)) H = .ok (.lv ((es ++ a.2.map fun m => (a.1, m.1)).map entD)) H := by
    show mkL false (es.map entD ++ (a.2.map fun m => (a.1, m.1)).map entD) H = _
    rw [← List.map_append]
    exact mkL_f (le_size (by rw [List.length_map, List.length_append, List.length_map]; omega))
  unfold innB
  generalize (es ++ a.2.map fun m => (a.1, m.1)).map entD = r at ea ⊢
  generalize (a.2.map fun m => (a.1, m.1)).map entD = q at ea ec
  generalize es.map entD = ed at ea ec ⊢
  generalize madesD a.2 = md at ec ⊢
  simp [ec, ea]
theorem inn_loop {y : Yard} (w : YardW y) {x0 x1 x2 x3 x4 x6 x7 x8 : Option D} {H : DH} :
    ∃ x7' x8', loopM (gTp 2 (gsCons (gNm 7) (gsCons (gNm 8) gsNil))) innB (stays (yardD y) (y.map fun w => .tup [.str w.1, madesD w.2])) (y.map fun w => D.tup [.str w.1, madesD w.2]) [x0, x1, x2, x3, x4, some (.lv []), x6, x7, x8, none, none, none, none, none] H =
      .ok (.nx [x0, x1, x2, x3, x4, some (.lv ((entries y).map entD)), x6, x7', x8', none, none, none, none, none]) H := by
  obtain ⟨s', H', el, x7', x8', rfl, eH⟩ := loop_pre (g := gTp 2 (gsCons (gNm 7) (gsCons (gNm 8) gsNil))) (body := innB) (chk := stays (yardD y) (y.map fun w => .tup [.str w.1, madesD w.2])) (r := fun w : Ware => D.tup [.str w.1, madesD w.2])
    (fun pre s H1 => ∃ x7 x8, s = [x0, x1, x2, x3, x4, some (.lv ((entries pre).map entD)), x6, x7, x8, none, none, none, none, none] ∧ H1 = H) (fun _ _ _ _ => by unfold yardD; simp) y
    (fun pre a suf e s H1 ⟨x7, x8, es, eH⟩ => by
      subst es; subst eH
      have le := ent_len w (pre := pre) e
      have lp := pre_lt e
      have fw := w.few
      refine ⟨[x0, x1, x2, x3, x4, some (.lv ((entries pre).map entD)), x6, some (.str a.1), some (madesD a.2), none, none, none, none, none], _, by simp, _, _, .inl (inn_step w (pre_mem e) (by omega)), some (.str a.1), some (madesD a.2), ?_, rfl⟩
      have : entries (pre ++ [a]) = entries pre ++ a.2.map fun m => (a.1, m.1) := by
        unfold entries
        rw [List.flatMap_append, List.flatMap_cons, List.flatMap_nil, List.append_nil]
      rw [this]) _ H ⟨x7, x8, rfl, rfl⟩
  rw [eH] at el
  exact ⟨x7', x8', el⟩
end Wy

set_option Elab.async false
set_option linter.all false
set_option maxRecDepth 100000
set_option maxHeartbeats 4000000
namespace Wy
open PySem PySem.Spec PyProof.Rows L2
theorem stays_ref {n : Nat} {h : DH} {l : List D} (e : h[n]? = some (.lst l)) : stays (.ref n) l h = true := by
  unfold stays seqOf rlistOf listOf
  simp only [e]
  exact D.beqs_self l
theorem eq_nil_lv {l : List PyData} {h : DH} (lay : PyData.canLayAll0 l = true) (d : PyData.depthAll l ≤ 60) : eqM false (.lv (ofPs l)) (.lv []) h = .ok (.bl (decide (l = []))) h := by
  have := eq_ofP (neg := false) (h := h) (p := .list l) (q := .list []) (by simp only [PyData.canLay0]; exact lay) rfl (by simp only [PyData.depth]; omega) (by simp [PyData.depth, PyData.depthAll])
  simp only [ofP, ofPs] at this
  rw [this]
  cases l with
  | nil => simp [PyData.eqv, PyData.eqvAll]
  | cons a l => simp [PyData.eqv, PyData.eqvAll]
theorem lay_ent {e : Str × Mk} (h : PyData.strOk e.1 = true) : (entP e).canLay0 = true := by
  unfold entP
  simp only [PyData.canLay0, PyData.canLayAll0, h, mkS_ok, lay_mk, Bool.and_self]
theorem depth_ent (e : Str × Mk) : (entP e).depth ≤ 4 := by
  unfold entP
  have := depth_mk e.2
  simp only [PyData.depth, PyData.depthAll]
  omega
theorem ents_P (l : List (Str × Mk)) : l.map entD = ofPs (l.map entP) := by
  rw [ofPs_map, List.map_map]
  exact List.map_congr_left fun e _ => (ofP_ent e).symm
def rowB : SD → M Fl := (mSeq (mAsg (mComp [9] (.nm 9) (mTest (m2 (eqM true) (mVar 9) (mC (.str "")))) (mVar 9) false (srcSeqA (mMeth .str (fSplit false) (mVar 3) (mCons (mC (.str " ")) mNil)))) (gNm 4)) (mSeq (mIf (mOrT (mTest (m2 (eqM false) (mVar 4) (mLst false mNil))) (mTest (m2 (eqM false) (mSl false (m2 ixA (mVar 4) (mC (.int 0))) none (some (mC (.int 1)))) (mC (.str "#"))))) (mSeq mCnt mNext) mNext) (mSeq (mAsg (mLst false mNil) (gNm 5)) (mSeq (mFor (srcSeqA (mVar 1)) (gTp 2 (gsCons (gNm 7) (gsCons (gNm 8) gsNil))) innB) (mSeq (mAsg (mComp [10] (.nm 10) (mTest (m2 (eqM false) (mSl false (mVar 10) none (some (mC (.int 2)))) (mVar 4))) (mVar 10) false (srcSeqA (mVar 5))) (gNm 6)) (mSeq (mIf (mOrT (mTest (m2 (eqM false) (mVar 6) (mLst false mNil))) (mTest (m2 (inM false) (m2 ixA (mVar 4) (mC (.int 0))) (mComp [12] (.nm 12) mYes (m2 ixA (mVar 12) (mC (.int 0))) false (srcSeqA (mVar 2)))))) (mSeq (mRet (mC .non)) mNext) mNext) (mSeq (mExpr (mMeth .list fAppend (mVar 2) (mCons (mTup (mCons (m2 ixA (mVar 4) (mC (.int 0))) (mCons (m2 ixA (m2 ixA (mVar 6) (mC (.int 0))) (mC (.int 2))) mNil))) mNil))) mNext)))))))
structure FndOk (y : Yard) (f : Lock) : Prop where
  nd : (f.map (·.1)).Nodup
  sub : ∀ p ∈ f, p.1 ∈ yNames y
theorem FndOk.len {y : Yard} {f : Lock} (i : FndOk y f) : f.length ≤ y.length := by
  have : (f.map (·.1)).length ≤ (yNames y).length := i.nd.length_le_of_subset (fun n hn => by
    obtain ⟨p, hp, rfl⟩ := List.mem_map.mp hn
    exact i.sub p hp)
  unfold yNames at this
  simpa using this
theorem row_step {y : Yard} (w : YardW y) {f : Lock} (i : FndOk y f) {line : Str} (hl : PyData.strOk line = true) (z : line.length + 2 ≤ sizeLine) {ld : D} {x4 x5 x6 x7 x8 : Option D} {h : DH} :
    (∃ f', readStep y f line = some f' ∧ FndOk y f' ∧ ∃ x4' x5' x6' x7' x8', (rowB [some ld, some (yardD y), some (.ref h.length), some (.str line), x4, x5, x6, x7, x8, none, none, none, none, none] (h ++ [.lst (f.map lkD)]) = .ok (.nx [some ld, some (yardD y), some (.ref h.length), some (.str line), x4', x5', x6', x7', x8', none, none, none, none, none]) (h ++ [.lst (f'.map lkD)]) ∨
      rowB [some ld, some (yardD y), some (.ref h.length), some (.str line), x4, x5, x6, x7, x8, none, none, none, none, none] (h ++ [.lst (f.map lkD)]) = .ok (.ct [some ld, some (yardD y), some (.ref h.length), some (.str line), x4', x5', x6', x7', x8', none, none, none, none, none]) (h ++ [.lst (f'.map lkD)]))) ∨
    (readStep y f line = none ∧ rowB [some ld, some (yardD y), some (.ref h.length), some (.str line), x4, x5, x6, x7, x8, none, none, none, none, none] (h ++ [.lst (f.map lkD)]) = .ok (.rt .non) (h ++ [.lst (f.map lkD)])) := by
  have fl := i.len
  have fw := w.few
  have nst : ∀ n ∈ f.map (·.1), PyData.strOk n = true := fun n hn => by
    obtain ⟨p, hp, rfl⟩ := List.mem_map.mp hn
    obtain ⟨a, ha, e⟩ := List.mem_map.mp (i.sub p hp)
    rw [← e]
    exact w.ok.txt a ha
  generalize eH : h ++ [.lst (f.map lkD)] = H
  have atH : H[h.length]? = some (.lst (f.map lkD)) := by rw [← eH]; exact at_last
  have es : fSplit false (.str line) [.str (Str.ofString " ")] H = .ok (.lv ((Txt.split line sp).map .str)) H := split_ok' sp_len z hl
  have sz : (Txt.split line sp).length ≤ sizeLine := Nat.le_trans (PyProof.Rows.split_le line sp) z
  have e9 : mComp [9] (.nm 9) (mTest (m2 (eqM true) (mVar 9) (mC (.str "")))) (mVar 9) false (srcSeqA (mMeth .str (fSplit false) (mVar 3) (mCons (mC (.str " ")) mNil))) [some ld, some (yardD y), some (.ref h.length), some (.str line), x4, x5, x6, x7, x8, none, none, none, none, none] H = .ok (.lv ((wordsS line).map .str)) H :=
    comp_lvf D.str (fun w => decide (w ≠ "")) D.str (l := Txt.split line sp) (c := stays (.lv ((Txt.split line sp).map .str)) ((Txt.split line sp).map .str)) (by
      generalize yardD y = yd
      simp [es]) (by simp) sz fun v hv => ⟨[some ld, some (yardD y), some (.ref h.length), some (.str line), x4, x5, x6, x7, x8, some (.str v), none, none, none, none], rfl, by
      have := eq_str' (neg := true) (h := H) (List.all_eq_true.mp (split_ok hl) v hv) (ok_of "")
      generalize yardD y = yd
      simp [this], fun _ => by
        generalize yardD y = yd
        simp⟩
  have ws := words_strs hl
  have wl := words_len (x := line)
  unfold readStep rowW
  generalize wordsS line = l at e9 ws wl ⊢
  have enil := eq_strs (neg := false) (h := H) (l := l) (m := []) ws (by simp)
  rw [List.map_nil] at enil
  cases l with
  | nil =>
    refine .inl ⟨f, rfl, i, some (.lv []), x5, x6, x7, x8, .inr ?_⟩
    rw [List.map_nil] at e9 enil
    unfold rowB
    generalize yardD y = yd at e9 ⊢
    rw [eH]
    simp [e9, enil]
  | cons n r =>
    have nz := Nat.le_trans (wl n (by simp)) (show line.length ≤ sizeLine by omega)
    have no := ws n (by simp)
    rw [decide_eq_false (by simp)] at enil
    have ix0 : atI ((n :: r).map D.str) 0 = some (.str n) := by rw [List.map_cons, atI_0]
    have c1 := cut1 (h := H) nz
    have ch := eq_str' (neg := false) (h := H) (take_ok no (n := 1)) (ok_of "#")
    have e9' := e9
    have ix0' := ix0
    have enil' := enil
    generalize ewd : (n :: r).map D.str = wd at e9 ix0 enil
    dsimp only
    by_cases c35 : (TL.tl n).head? = some 35
    · rw [if_pos c35]
      dsimp only
      rw [decide_eq_true (hash_iff.mpr c35)] at ch
      refine .inl ⟨f, rfl, i, some (.lv wd), x5, x6, x7, x8, .inr ?_⟩
      unfold rowB
      generalize yardD y = yd at e9 ⊢
      rw [eH]
      simp [e9, enil, ix0, c1, ch]
    · rw [if_neg c35]
      dsimp only
      rw [decide_eq_false (fun h => c35 (hash_iff.mp h))] at ch
      obtain ⟨x7', x8', el⟩ := inn_loop w (x0 := some ld) (x1 := some (yardD y)) (x2 := some (.ref h.length)) (x3 := some (.str line)) (x4 := some (.lv wd)) (x6 := x6) (x7 := x7) (x8 := x8) (H := H)
      have le := ent_len w (pre := y) (suf := []) (by simp)
      have est : ∀ e ∈ entries y, PyData.strOk e.1 = true := fun e he => by
        unfold entries at he
        obtain ⟨a, ha, h3⟩ := List.mem_flatMap.mp he
        obtain ⟨m, hm, rfl⟩ := List.mem_map.mp h3
        exact w.ok.txt a ha
      have e10 : mComp [10] (.nm 10) (mTest (m2 (eqM false) (mSl false (mVar 10) none (some (mC (.int 2)))) (mVar 4))) (mVar 10) false (srcSeqA (mVar 5)) [some ld, some (yardD y), some (.ref h.length), some (.str line), some (.lv wd), some (.lv ((entries y).map entD)), x6, x7', x8', none, none, none, none, none] H = .ok (.lv ((hits y (n :: r)).map entD)) H :=
        comp_lvf entD (fun e => decide ([e.1, mkS e.2] = n :: r)) entD (l := entries y) (c := stays (.lv ((entries y).map entD)) ((entries y).map entD)) (by
          generalize yardD y = yd
          simp) (by simp) (le_size (by omega)) fun e he => ⟨[some ld, some (yardD y), some (.ref h.length), some (.str line), some (.lv wd), some (.lv ((entries y).map entD)), x6, x7', x8', none, some (entD e), none, none, none], rfl, by
          have q := eq_strs (neg := false) (h := H) (l := [e.1, mkS e.2]) (m := n :: r) (fun v hv => by
            rcases List.mem_cons.mp hv with rfl | hv
            · exact est e he
            · have : v = mkS e.2 := by simpa using hv
              rw [this]; exact mkS_ok) ws
          rw [ewd] at q
          have q : eqM false (.lv [.str e.1, .str (mkS e.2)]) (.lv wd) H = .ok (.bl (decide ([e.1, mkS e.2] = n :: r))) H := q
          have s2 : slM false (entD e) none (some 2) H = .ok (.lv [.str e.1, .str (mkS e.2)]) H := by
            unfold entD
            exact sl_to (l := [D.str e.1, .str (mkS e.2), mkT e.2]) (m := 2) (h := H) (by decide) (le_size (show 3 ≤ 1000000 by decide))
          generalize yardD y = yd
          generalize (entries y).map entD = ents
          generalize entD e = ed at s2 ⊢
          simp [s2, q], fun _ => by
            generalize yardD y = yd
            generalize (entries y).map entD = ents
            simp⟩
      have hl2 : (hits y (n :: r)).length ≤ 1000 := Nat.le_trans (List.length_filter_le _ _) (by omega)
      have hst : ∀ e ∈ hits y (n :: r), PyData.strOk e.1 = true := fun e he => est e (List.mem_filter.mp he).1
      have q6 := eq_nil_lv (h := H) (l := (hits y (n :: r)).map entP) (lays_iff.mpr fun p hp => by
        obtain ⟨e, he, rfl⟩ := List.mem_map.mp hp
        exact lay_ent (hst e he)) (Nat.le_trans (depthAll_le fun p hp => by
        obtain ⟨e, _, rfl⟩ := List.mem_map.mp hp
        exact depth_ent e) (by decide))
      rw [← ents_P] at q6
      have e12 : ∀ S6 : Option D, mComp [12] (.nm 12) mYes (m2 ixA (mVar 12) (mC (.int 0))) false (srcSeqA (mVar 2)) [some ld, some (yardD y), some (.ref h.length), some (.str line), some (.lv wd), some (.lv ((entries y).map entD)), S6, x7', x8', none, none, none, none, none] H = .ok (.lv (ofPs ((f.map (·.1)).map .str))) H := fun S6 => by
        have := comp_lv (vs := [12]) (t := .nm 12) (tt := mYes) (te := m2 ixA (mVar 12) (mC (.int 0))) (mi := srcSeqA (mVar 2)) (s := [some ld, some (yardD y), some (.ref h.length), some (.str line), some (.lv wd), some (.lv ((entries y).map entD)), S6, x7', x8', none, none, none, none, none]) (h := H) (l := f) lkD (fun p => .str p.1) (c := stays (.ref h.length) (f.map lkD)) (by
          have := src_ref atH
          generalize yardD y = yd
          generalize (entries y).map entD = ents
          simp [this]) (stays_ref atH) (le_size (by omega)) fun p hp => ⟨[some ld, some (yardD y), some (.ref h.length), some (.str line), some (.lv wd), some (.lv ((entries y).map entD)), S6, x7', x8', none, none, none, some (lkD p), none], rfl, rfl, by
          unfold lkD
          generalize yardD y = yd
          generalize (entries y).map entD = ents
          simp⟩
        rw [this, ofPs_strs, List.map_map]
        rfl
      have q12 := in_lvP (neg := false) (h := H) (l := (f.map (·.1)).map .str) (p := .str n) (lay_strs nst) (by simpa [PyData.canLay0] using no) (Nat.le_trans (depth_strs _) (by decide)) (by simp [PyData.depth])
      have a12 : (((f.map (·.1)).map PyData.str).any fun x => PyData.eqv x (.str n)) = decide (n ∈ f.map (·.1)) := by
        rw [List.any_map, Bool.eq_iff_iff, List.any_eq_true, decide_eq_true_eq]
        constructor
        · rintro ⟨v, hv, e⟩
          have : v = n := by
            have e : PyData.eqv (.str v) (.str n) = true := e
            rw [eqv_str] at e
            exact of_decide_eq_true e
          rw [← this]; exact hv
        · intro hn
          refine ⟨n, hn, ?_⟩
          show PyData.eqv (.str n) (.str n) = true
          rw [eqv_str]
          exact decide_eq_true rfl
      rw [a12] at q12
      have q12 : inM false (.str n) (.lv (ofPs ((f.map (·.1)).map .str))) H = .ok (.bl (decide (n ∈ f.map (·.1)))) H := by
        rw [show (false ^^ decide (n ∈ f.map (·.1))) = decide (n ∈ f.map (·.1)) from Bool.false_xor _] at q12
        exact q12
      have src : seqSrcA (yardD y) H = .ok (y.map (fun w => D.tup [.str w.1, madesD w.2]), stays (yardD y) (y.map fun w => D.tup [.str w.1, madesD w.2])) H := rfl
      generalize ofPs ((f.map (·.1)).map .str) = fn at e12 q12
      cases hh : hits y (n :: r) with
      | nil =>
        rw [hh] at e10 q6
        rw [decide_eq_true (by rfl)] at q6
        refine .inr ⟨rfl, ?_⟩
        unfold rowB
        rw [List.map_nil] at e10 q6
        generalize (entries y).map entD = ents at el e10
        generalize y.map (fun w => D.tup [.str w.1, madesD w.2]) = ysrc at src el
        generalize yardD y = yd at e9 el e10 src ⊢
        simp [e9, enil, ix0, c1, ch, src, el, e10, q6]
      | cons e es =>
        rw [hh] at e10 q6
        rw [decide_eq_false (by simp)] at q6
        dsimp only
        have i0 : atI ((e :: es).map entD) 0 = some (entD e) := by rw [List.map_cons, atI_0]
        have i2 : ixA (entD e) (.int 2) H = .ok (mkT e.2) H := by
          unfold entD
          rw [ix_lv, atI_2]
        by_cases cn : n ∈ f.map (·.1)
        · rw [if_pos cn]
          rw [decide_eq_true cn] at q12
          refine .inr ⟨rfl, ?_⟩
          have e12 := e12 (some (.lv ((e :: es).map entD)))
          generalize (e :: es).map entD = hd at *
          unfold rowB
          generalize (entries y).map entD = ents at el e10 e12
          generalize y.map (fun w => D.tup [.str w.1, madesD w.2]) = ysrc at src el
          generalize yardD y = yd at e9 el e10 e12 src ⊢
          simp [e9, enil, ix0, c1, ch, src, el, e10, q6, e12, q12]
        · rw [if_neg cn]
          rw [decide_eq_false cn] at q12
          have ap := app_ref (y := lkD (n, e.2)) atH (by rw [List.length_map]; exact lt_size (by omega))
          have est2 : H.set h.length (.lst (f.map lkD ++ [lkD (n, e.2)])) = h ++ [.lst ((f ++ [(n, e.2)]).map lkD)] := by
            rw [← eH, set_last, List.map_append]; rfl
          rw [est2] at ap
          have ed : D.tup [.str n, mkT e.2] = lkD (n, e.2) := rfl
          have ty := ty_ref atH
          have en : e.1 = n := by
            have : e ∈ hits y (n :: r) := by rw [hh]; simp
            have := (List.mem_filter.mp this).2
            exact (List.cons.inj (of_decide_eq_true this)).1
          have ey : n ∈ yNames y := by
            have : e ∈ hits y (n :: r) := by rw [hh]; simp
            have := (List.mem_filter.mp this).1
            unfold entries at this
            obtain ⟨a, ha, h3⟩ := List.mem_flatMap.mp this
            obtain ⟨m, hm, q⟩ := List.mem_map.mp h3
            rw [← en, ← q]
            exact List.mem_map_of_mem ha
          refine .inl ⟨f ++ [(n, e.2)], rfl, ⟨?_, ?_⟩, some (.lv wd), some (.lv ((entries y).map entD)), some (.lv ((e :: es).map entD)), x7', x8', .inl ?_⟩
          · rw [List.map_append, List.nodup_append]
            refine ⟨i.nd, by simp, fun a ha b hb q => ?_⟩
            have : b = n := by simpa using hb
            subst this
            subst q
            exact cn ha
          · intro p hp
            rcases List.mem_append.mp hp with hp | hp
            · exact i.sub p hp
            · have : p = (n, e.2) := by simpa using hp
              rw [this]; exact ey
          · have e12 := e12 (some (.lv ((e :: es).map entD)))
            generalize h ++ [.lst ((f ++ [(n, e.2)]).map lkD)] = H2 at ap ⊢
            generalize (e :: es).map entD = hd at *
            generalize lkD (n, e.2) = lk at ap ed
            unfold rowB
            generalize (entries y).map entD = ents at el e10 e12 ⊢
            generalize y.map (fun w => D.tup [.str w.1, madesD w.2]) = ysrc at src el
            generalize yardD y = yd at e9 el e10 e12 src ⊢
            generalize entD e = ed2 at i0 i2
            simp [e9, enil, ix0, c1, ch, src, el, e10, q6, e12, q12, i0, i2, ed, ap, ty]
end Wy

set_option Elab.async false
set_option linter.all false
set_option maxRecDepth 100000
set_option maxHeartbeats 4000000
namespace Wy
open PySem PySem.Spec PyProof.Rows L2
theorem sorted_lks {f : Lock} {h : DH} {k : Nat} (e : h[k]? = some (.lst (f.map lkD))) (n : (f.map (·.1)).Nodup) (s : ∀ p ∈ f, PyData.strOk p.1 = true) (z : f.length ≤ 1000) : sorted1 false (.ref k) h = .ok (.lv ((sortL f).map lkD)) h := by
  have eP : ∀ l : Lock, l.map lkD = ofPs (l.map lkP) := fun l => by
    rw [ofPs_map, List.map_map]
    exact List.map_congr_left fun p _ => (ofP_lk p).symm
  rw [eP] at e
  have lay : PyData.canLayAll0 (f.map lkP) = true := lays_iff.mpr fun p hp => by
    obtain ⟨q, hq, rfl⟩ := List.mem_map.mp hp
    exact lay_lk (s q hq)
  have al : allAlike (f.map lkP) = true := by
    unfold allAlike
    rw [List.all_eq_true]
    intro a ha
    rw [List.all_eq_true]
    intro b hb
    obtain ⟨a', _, rfl⟩ := List.mem_map.mp ha
    obtain ⟨b', _, rfl⟩ := List.mem_map.mp hb
    exact alike_lk a' b'
  have so : sortable (f.map lkP) = true := by
    unfold sortable
    rw [Bool.or_eq_true, List.all_eq_true, List.all_eq_true]
    refine .inl fun a ha => ?_
    obtain ⟨a', _, rfl⟩ := List.mem_map.mp ha
    rfl
  have dp : PyData.depthAll (f.map lkP) ≤ 64 := Nat.le_trans (depthAll_le (k := 3) fun p hp => by
    obtain ⟨q, _, rfl⟩ := List.mem_map.mp hp
    exact depth_lk q) (by decide)
  have := sorted_ref e lay al so dp (le_size (by rw [List.length_map]; omega))
  rw [sort_lk n, ← eP] at this
  exact this
theorem fold_app {α β : Type} {st : β → α → Option β} {b b' : β} {pre suf : List α} (e : pre.foldlM st b = some b') : (pre ++ suf).foldlM st b = suf.foldlM st b' := by
  rw [List.foldlM_append, e]; rfl
theorem readlaw_ok {y : Yard} (w : YardW y) {L : List Str} {h : DH} (hp : Pur h) (hL : ∀ x ∈ L, PyData.strOk x = true ∧ x.length + 2 ≤ sizeLine) :
    F_law_read [.lv (L.map .str), yardD y] h = match L.foldlM (lockStep y) [] with
      | some f => Re.ok (lockD (sortL f)) h
      | none => Re.ok .non h := by
  have same : (fun f x => readStep y f x) = lockStep y := funext fun f => funext fun x => read_is w f x
  have same : readStep y = lockStep y := same
  rw [← same]
  have lp := loop_gen (g := gNm 3) (body := rowB) (chk := stays (.lv (L.map .str)) (L.map .str)) (r := D.str)
    (fun pre s H => ∃ f x3 x4 x5 x6 x7 x8, pre.foldlM (readStep y) [] = some f ∧ FndOk y f ∧ s = [some (.lv (L.map .str)), some (yardD y), some (.ref h.length), x3, x4, x5, x6, x7, x8, none, none, none, none, none] ∧ H = h ++ [.lst (f.map lkD)])
    (fun pre a v H => v = .non ∧ (∃ f, pre.foldlM (readStep y) [] = some f ∧ readStep y f a = none) ∧ ∃ g, H = h ++ g) (fun _ _ _ _ => False) (fun _ _ _ _ => False) (fun _ _ _ _ => by simp) L
    (fun pre a suf e s H ⟨f, x3, x4, x5, x6, x7, x8, ef, i, es, eH⟩ => by
      subst es; subst eH
      have ha := hL a (pre_mem e)
      refine ⟨[some (.lv (L.map .str)), some (yardD y), some (.ref h.length), some (.str a), x4, x5, x6, x7, x8, none, none, none, none, none], _, rfl, ?_⟩
      rcases row_step w i ha.1 ha.2 (ld := .lv (L.map .str)) (x4 := x4) (x5 := x5) (x6 := x6) (x7 := x7) (x8 := x8) (h := h) with ⟨f', e1, i', y4, y5, y6, y7, y8, q⟩ | ⟨e1, q⟩
      · have ef' : (pre ++ [a]).foldlM (readStep y) [] = some f' := by
          rw [fold_app ef]
          show (readStep y f a).bind (fun b => some b) = _
          rw [e1]; rfl
        rcases q with q | q
        · exact .inl ⟨_, _, .inl q, f', some (.str a), y4, y5, y6, y7, y8, ef', i', rfl, rfl⟩
        · exact .inl ⟨_, _, .inr q, f', some (.str a), y4, y5, y6, y7, y8, ef', i', rfl, rfl⟩
      · exact .inr (.inl ⟨.non, _, q, rfl, ⟨f, ef, e1⟩, _, rfl⟩)) L [] rfl [some (.lv (L.map .str)), some (yardD y), some (.ref h.length), none, none, none, none, none, none, none, none, none, none, none] (h ++ [.lst []])
    ⟨[], none, none, none, none, none, none, rfl, ⟨by simp, by simp⟩, rfl, rfl⟩
  rcases lp with ⟨s', H', el, f, x3, x4, x5, x6, x7, x8, ef, i, es, eH⟩ | ⟨pre, a, suf, e, ⟨v, H', el, ev, ⟨f, ef, en⟩, g, eH⟩ | ⟨_, _, _, q⟩ | ⟨_, _, _, q⟩⟩
  · rw [ef]
    dsimp only
    subst es
    rw [← ofP_lock]
    refine den_app (h' := h) (g := [.lst (f.map lkD)]) ?_ hp rfl
    rw [ofP_lock]
    have st := sorted_lks (f := f) (k := h.length) (h := H') (by rw [eH]; exact at_last) i.nd (fun p hp => by
      obtain ⟨a, ha, e⟩ := List.mem_map.mp (i.sub p hp)
      rw [← e]
      exact w.ok.txt a ha) (by have := i.len; have := w.few; omega)
    have elk : D.tup ((sortL f).map lkD) = lockD (sortL f) := rfl
    rw [← eH]
    unfold B_law_read slots0
    show (mSeq (mAsg (mLst true mNil) (gNm 2)) (mSeq (mFor (srcSeqA (mVar 0)) (gNm 3) rowB) (mSeq (mRet (mCall (one tup1) (mCons (mCall (one (sorted1 false)) (mCons (mVar 2) mNil)) mNil))) mNext))) [some (.lv (L.map .str)), some (yardD y), none, none, none, none, none, none, none, none, none, none, none, none] h = _
    generalize (sortL f).map lkD = q at st elk
    generalize lockD (sortL f) = ld at elk ⊢
    generalize L.map D.str = ls at el ⊢
    generalize yardD y = yd at el ⊢
    simp [el, st, elk]
  · have en2 : L.foldlM (readStep y) [] = none := by
      rw [e, fold_app ef, List.foldlM_cons, en]; rfl
    rw [en2]
    dsimp only
    subst ev
    refine den_app (h' := h) (g := g) (p := .none) ?_ hp rfl
    unfold B_law_read slots0 ofP
    show (mSeq (mAsg (mLst true mNil) (gNm 2)) (mSeq (mFor (srcSeqA (mVar 0)) (gNm 3) rowB) (mSeq (mRet (mCall (one tup1) (mCons (mCall (one (sorted1 false)) (mCons (mVar 2) mNil)) mNil))) mNext))) [some (.lv (L.map .str)), some (yardD y), none, none, none, none, none, none, none, none, none, none, none, none] h = _
    rw [← eH]
    generalize L.map D.str = ls at el ⊢
    generalize yardD y = yd at el ⊢
    simp [el]
  · exact q.elim
  · exact q.elim
/-! ### one sign changed -/
theorem cutS_mem {z : Str} {lo hi : Option Int} : ∀ c ∈ TL.tl (cutS z lo hi), c ∈ TL.tl z := fun c hc => List.mem_of_mem_drop (List.mem_of_mem_take hc)
theorem cutS_len {z : Str} {lo hi : Option Int} : (cutS z lo hi).length ≤ z.length := by
  rw [TL.len_tl, TL.len_tl z]
  show (((TL.tl z).drop _).take _).length ≤ _
  rw [List.length_take, List.length_drop]
  omega
theorem gs_sl {m : SD → M D} {l u : Option (SD → M D)} {s : SD} {h : DH} {k : Nat} {lo hi : Option Int} (a : GS m s h k) (zk : k ≤ 1000000) (el : mPart l s h = .ok lo h) (eu : mPart u s h = .ok hi h) : GS (mSl false m l u) s h k := by
  obtain ⟨x, e, o, z⟩ := a
  refine ⟨cutS x lo hi, ?_, okS_tl.mpr fun c hc => okS_tl.mp o c (cutS_mem c hc), Nat.le_trans cutS_len z⟩
  have : slM false (.str x) lo hi h = .ok (.str (cutS x lo hi)) h := by
    show (if x.length ≤ sizeLine then Re.ok (D.str (cutS x lo hi)) h else .bad) = _
    rw [if_pos (le_size (by omega))]
  rw [ev_sl, e, then_ok, el, then_ok, eu, then_ok, this]
def POOL : Str := " !\"#$&'()*+,-./0123456789:;<=>?@AZ[\\]^_`abcdefghijklmnopqrstuvwxyz{|}~\n"
theorem sel3 {α : Type} {a b c : α} {i : Int} : atI [a, b, c] (i % 3) = some (if i % 3 = 0 then a else if i % 3 = 1 then b else c) := by
  have : i % 3 = 0 ∨ i % 3 = 1 ∨ i % 3 = 2 := by omega
  rcases this with c | c | c <;> (rw [c]; rfl)
theorem bent_ok {x : Str} {c : Int} {h : DH} (hp : Pur h) (o : PyData.strOk x = true) (z : x.length ≤ 100000) : ∃ v : Str, F_law_sign_bent [.str x, .int c] h = .ok (.str v) h ∧ PyData.strOk v = true ∧ v.length ≤ 200001 := by
  suffices body : ∃ v : Str, B_law_sign_bent (slots0 6 [.str x, .int c]) h = .ok (.rt (.str v)) h ∧ PyData.strOk v = true ∧ v.length ≤ 200001 by
    obtain ⟨v, e, o, l⟩ := body
    exact ⟨v, den_eq (p := .str v) e hp rfl, o, l⟩
  have lx : (0 : Int) < (x.length : Int) + 1 := by omega
  have el := len_str (x := x) (h := h) (le_size (by omega))
  have pl : (POOL.length : Int) = 71 := by decide +kernel
  have ep := len_str (x := POOL) (h := h) (by decide +kernel)
  have p0 := Int.emod_nonneg (c / 12000) (show (71 : Int) ≠ 0 by decide)
  have p1 := Int.emod_lt_of_pos (c / 12000) (show (0 : Int) < 71 by decide)
  rw [pl] at ep
  generalize eq : c / 12000 % 71 = q at p0 p1
  obtain ⟨sg, es⟩ : ∃ sg, (TL.tl POOL)[q.toNat]? = some sg := ⟨_, List.getElem?_eq_getElem (by rw [← TL.len_tl]; omega)⟩
  have sgo : PyData.strOk ⟨#[sg]⟩ = true := okS_tl.mpr fun d hd => by
    have : d = sg := by simpa using hd
    subst this
    exact okS_tl.mp (show PyData.strOk POOL = true by decide +kernel) _ (List.mem_of_getElem? es)
  have ix : ixA (.str POOL) (.int q) h = .ok (.str ⟨#[sg]⟩) h := by
    rw [ix_str (by decide +kernel)]
    have := atI_nat' (l := TL.tl POOL) (j := q.toNat) es
    rw [Int.toNat_of_nonneg p0] at this
    have this : atI POOL.cps.toList q = some sg := this
    rw [this]
  obtain ⟨at_, ea⟩ : ∃ a, c / 12 % ((x.length : Int) + 1) = a := ⟨_, rfl⟩
  have mk3 : ∀ (a b c : D) (H : DH), mkL false [a, b, c] H = .ok (.lv [a, b, c]) H := fun a b c H => mkL_f (le_size (show 3 ≤ 1000000 by decide))
  unfold B_law_sign_bent slots0
  show ∃ v : Str, (mSeq (mAsg (mC (.str POOL)) (gNm 2)) _ : SD → M Fl) [some (.str x), some (.int c), none, none, none, none] h = .ok (.rt (.str v)) h ∧ PyData.strOk v = true ∧ v.length ≤ 200001
  have st : ∀ k : SD → M Fl, (mSeq (mAsg (mC (.str POOL)) (gNm 2)) (mSeq (mAsg (m2 opMod (m2 opFdiv (mVar 1) (mC (.int 12))) (m2 (opAdd false) (mCall (one len1) (mCons (mVar 0) mNil)) (mC (.int 1)))) (gNm 3)) (mSeq (mAsg (m2 ixA (mVar 2) (m2 opMod (m2 opFdiv (mVar 1) (mC (.int 12000))) (mCall (one len1) (mCons (mVar 2) mNil)))) (gNm 4)) (mSeq (mAsg (m2 opMod (m2 opFdiv (mVar 1) (mC (.int 4))) (mC (.int 3))) (gNm 5)) k)))) [some (.str x), some (.int c), none, none, none, none] h = k [some (.str x), some (.int c), some (.str POOL), some (.int at_), some (.str ⟨#[sg]⟩), some (.int (c / 4 % 3))] h := fun k => by
    have dl : opFdiv (.int c) (.int 12000) h = .ok (.int (c / 12000)) h := fdiv_p' (by decide) (by decide)
    have m1 : opMod (.int (c / 12)) (.int ((x.length : Int) + 1)) h = .ok (.int at_) h := by rw [mod_p' lx, ea]
    have m2' : opMod (.int (c / 12000)) (.int 71) h = .ok (.int q) h := by rw [mod_p' (by decide), eq]
    generalize POOL = P at *
    simp [el, m1, ep, m2', ix]
  rw [st]
  have gx : GS (mVar 0) [some (.str x), some (.int c), some (.str POOL), some (.int at_), some (.str ⟨#[sg]⟩), some (.int (c / 4 % 3))] h 100000 := gs_is rfl o z
  have w0 := Int.emod_nonneg (c / 4) (show (3 : Int) ≠ 0 by decide)
  have w1 := Int.emod_lt_of_pos (c / 4) (show (0 : Int) < 3 by decide)
  have g4 : GS (mVar 4) [some (.str x), some (.int c), some (.str POOL), some (.int at_), some (.str ⟨#[sg]⟩), some (.int (c / 4 % 3))] h 1 := gs_is rfl sgo (Nat.le_refl _)
  have g1 := gs_sl (l := none) (u := some (mVar 3)) (lo := none) (hi := some at_) gx (by decide) rfl (by
    generalize POOL = P
    simp)
  have g2 := gs_ix (m' := mVar 5) (gv_lst (gl_cons g4 (gl_cons (gs_c (x := Str.ofString "") (ok_of _) (Nat.zero_le _)) (gl_cons g4 gl_nil))) (by decide)) rfl w0 w1
  have g3 := gs_sl (l := some (m2 (opAdd false) (mVar 3) (m2 ixA (mLst false (mCons (mC (.int 0)) (mCons (mC (.int 1)) (mCons (mC (.int 1)) mNil)))) (mVar 5)))) (u := none) (lo := some (at_ + (if c / 4 % 3 = 0 then 0 else if c / 4 % 3 = 1 then 1 else 1))) (hi := none) gx (by decide) (by
    have s3 : atI [D.int 0, .int 1, .int 1] (c / 4 % 3) = some (.int (if c / 4 % 3 = 0 then 0 else if c / 4 % 3 = 1 then 1 else 1)) := by
      rw [sel3]
      split
      · rfl
      · split <;> rfl
    generalize (if c / 4 % 3 = 0 then (0 : Int) else if c / 4 % 3 = 1 then 1 else 1) = d at s3 ⊢
    generalize POOL = P
    simp [mk3, s3]) rfl
  have gg := gs_cat (mt := false) (gs_cat (mt := false) g1 g2 (Nat.le_refl _) (by decide)) g3 (Nat.le_refl _) (by decide)
  obtain ⟨v, e, o2, l2⟩ := gg
  refine ⟨v, ?_, o2, l2⟩
  rw [ev_seq, ev_ret, e, then_ok, then_ok]
end Wy

set_option Elab.async false
set_option linter.all false
set_option maxRecDepth 100000
set_option maxHeartbeats 4000000
namespace Wy
open PySem PySem.Spec PyProof.Rows L2
theorem lkV_mem {c : Int} {y : Yard} {p : Str × Mk} (h : p ∈ lkV c y) : ∃ w ∈ y, p.1 = w.1 ∧ p.2 ∈ w.2.map (·.1) := by
  unfold lkV at h
  obtain ⟨q, hq, e⟩ := List.mem_filterMap.mp h
  have hz := List.mem_zipIdx hq
  have hy : q.1 ∈ y := by rw [hz.2.2]; exact List.getElem_mem _
  refine ⟨q.1, hy, ?_⟩
  unfold lkOne at e
  split at e
  · obtain ⟨m, hm, rfl⟩ := Option.map_eq_some_iff.mp e
    exact ⟨rfl, List.mem_map_of_mem (List.mem_of_getElem? hm)⟩
  · cases e
theorem name_fit (c : Int) (j : Nat) : NameOk (nameS c j) := ⟨by have := name_len c j; omega, name_let c j⟩
theorem weight_mk {m : Mk} (h : mkOk m = true) : (mkP m).weight ≤ 70 := by
  obtain ⟨m1, m2, m3⟩ := mk_all h
  unfold mkP
  have := weightAll_le (k := 14) (l := m.map .int) fun p hp => by
    obtain ⟨n, hn, rfl⟩ := List.mem_map.mp hp
    have hi := num_in (m3 n hn)
    simp only [PyData.weight, Builtin.Int.intBits]
    split
    · omega
    · rename_i c
      have hn0 : n.natAbs ≠ 0 := fun z => c (by rw [Int.natAbs_eq_zero.mp z]; rfl)
      have hn1 : n.natAbs < 2 ^ 14 := by
        have : n.natAbs ≤ 9999 := by omega
        omega
      have : n.natAbs.log2 < 14 := (Nat.log2_lt hn0).mpr hn1
      omega
  rw [List.length_map] at this
  simp only [PyData.weight]
  omega
theorem fine_mk {m : Mk} (h : mkOk m = true) : fineP (mkP m) = true := by
  obtain ⟨_, _, m3⟩ := mk_all h
  unfold mkP
  simp only [fineP]
  rw [fineAll_iff]
  intro p hp
  obtain ⟨n, hn, rfl⟩ := List.mem_map.mp hp
  have := num_in (m3 n hn)
  simp only [fineP]
  exact decide_eq_true (by omega)
theorem repr_lock {l : Lock} (o : LockOk l) {h : DH} : repr1 (lockD l) h = .ok (.str (lockP l).shown) h ∧ PyData.strOk (lockP l).shown = true := by
  have f : fineP (lockP l) = true := by
    unfold lockP
    simp only [fineP]
    rw [fineAll_iff]
    intro p hp
    obtain ⟨q, hq, rfl⟩ := List.mem_map.mp hp
    simp only [fineP, fineP.fineAll, (o.names q hq).txt, fine_mk (o.makes q hq), Bool.and_self]
  have lay := lay_fine _ f
  have tp : toP h (lockD l) = some (lockP l) := by rw [← ofP_lock]; exact toP_pur lay
  refine ⟨repr1_ok tp f ?_ ?_, shown_ok _ lay⟩
  · unfold lockP
    have := depthAll_le (k := 3) (l := l.map fun p => PyData.tuple [.str p.1, mkP p.2]) fun p hp => by
      obtain ⟨q, hq, rfl⟩ := List.mem_map.mp hp
      exact depth_lk q
    simp only [PyData.depth]
    omega
  · unfold lockP
    have := weightAll_le (k := 300) (l := l.map fun p => PyData.tuple [.str p.1, mkP p.2]) fun p hp => by
      obtain ⟨q, hq, rfl⟩ := List.mem_map.mp hp
      have a := weight_mk (o.makes q hq)
      have b := (o.names q hq).len.2
      have c : q.1.cps.size = q.1.length := rfl
      simp only [PyData.weight, PyData.weightAll]
      omega
    rw [List.length_map] at this
    have := o.few
    simp only [PyData.weight]
    omega
theorem ydV_w (c : Int) {n : Nat} (h1 : 1 ≤ n) (h2 : n ≤ 4) : YardW (ydV c n) where
  ok := ydV_ok c n
  names := fun w hw => by
    obtain ⟨x, k, hx, _, rfl⟩ := ydV_mem hw
    obtain ⟨j, rfl⟩ := ydNames_sub hx
    exact name_fit c j
  makes := fun w hw m hm => by
    obtain ⟨x, k, hx, _, rfl⟩ := ydV_mem hw
    obtain ⟨q, m0, m1, e⟩ := wareV_makes c x k
    rw [e] at hm
    obtain ⟨a, ha, rfl⟩ := List.mem_map.mp hm
    unfold makesV at ha
    obtain ⟨j, hj, rfl⟩ := List.mem_map.mp ha
    have := List.mem_range.mp hj
    exact makeV_ok _ (by omega)
  some := by
    have e : (ydV c n).length = (ydNames c n).length := by unfold ydV; rw [List.length_map, List.length_zipIdx]
    rw [e]
    unfold ydNames sortS
    rw [List.length_mergeSort, List.length_take]
    have : (namesV c).length = 4 := by simp [namesV]
    omega
  few := by
    have e : (ydV c n).length = (ydNames c n).length := by unfold ydV; rw [List.length_map, List.length_zipIdx]
    have := (ydNames_len c n).1
    omega
  each := fun w hw => by
    obtain ⟨x, k, hx, _, rfl⟩ := ydV_mem hw
    obtain ⟨q, m0, m1, e⟩ := wareV_makes c x k
    rw [e]
    unfold makesV
    simp
    omega
theorem lkV_ok {c : Int} {y : Yard} (w : YardW y) : LockOk (lkV c y) where
  names := fun p hp => by
    obtain ⟨a, ha, e, _⟩ := lkV_mem hp
    rw [e]; exact w.names a ha
  makes := fun p hp => by
    obtain ⟨a, ha, _, hm⟩ := lkV_mem hp
    obtain ⟨m, hm, e⟩ := List.mem_map.mp hm
    rw [← e]; exact w.makes a ha m hm
  few := by
    unfold lkV
    have := List.length_filterMap_le (fun p : Ware × Nat => lkOne c p.1 p.2) y.zipIdx
    rw [List.length_zipIdx] at this
    have := w.few
    omega
/-! what is read is a lock that may be written -/
structure Good (y : Yard) (f : Lock) : Prop where
  fnd : FndOk y f
  mks : ∀ p ∈ f, mkOk p.2 = true
theorem good_step {y : Yard} {f f' : Lock} {x : Str} (g : Good y f) (e : lockStep y f x = some f') : Good y f' := by
  unfold lockStep at e
  split at e
  · cases e; exact g
  · rename_i n m _
    split at e
    · rename_i ms k hm hk
      split at e
      · rename_i c
        cases e
        unfold makesOf at hm
        obtain ⟨a, ha, _⟩ := Option.map_eq_some_iff.mp hm
        have an : a.1 = n := by simpa using List.find?_some ha
        have ay := List.mem_of_find?_eq_some ha
        refine ⟨⟨?_, fun p hp => ?_⟩, fun p hp => ?_⟩
        · rw [List.map_append, List.nodup_append]
          refine ⟨g.fnd.nd, by simp, fun u hu v hv q => ?_⟩
          have : v = n := by simpa using hv
          subst this
          subst q
          exact c.1 hu
        · rcases List.mem_append.mp hp with hp | hp
          · exact g.fnd.sub p hp
          · have : p = (n, k) := by simpa using hp
            rw [this, ← an]
            exact List.mem_map_of_mem ay
        · rcases List.mem_append.mp hp with hp | hp
          · exact g.mks p hp
          · have : p = (n, k) := by simpa using hp
            rw [this]
            exact (mkBy_some.mp hk).1
      · cases e
    · cases e
  · cases e
theorem good_fold {y : Yard} : ∀ {L : List Str} {f f' : Lock}, Good y f → L.foldlM (lockStep y) f = some f' → Good y f'
  | [], f, f', g, e => by cases e; exact g
  | x :: L, f, f', g, e => by
    rw [List.foldlM_cons] at e
    cases q : lockStep y f x with
    | none => rw [q] at e; cases e
    | some f1 => rw [q] at e; exact good_fold (good_step g q) e
theorem good_lock {y : Yard} (w : YardW y) {f : Lock} (g : Good y f) : LockOk (sortL f) where
  names := fun p hp => by
    have hp : p ∈ f := (List.mergeSort_perm _ _).mem_iff.mp hp
    obtain ⟨a, ha, e⟩ := List.mem_map.mp (g.fnd.sub p hp)
    rw [← e]; exact w.names a ha
  makes := fun p hp => g.mks p ((List.mergeSort_perm _ _).mem_iff.mp hp)
  few := by
    rw [sortL_len]
    have := g.fnd.len
    have := w.few
    omega
/-! from the text on -/
def tailB : SD → M Fl := (mSeq (mAsg (mCall F_law_read (mCons (mMeth .str (fSplit false) (mVar 12) (mCons (mC (.str "\n")) mNil)) (mCons (mVar 1) mNil))) (gNm 14)) (mSeq (mAsg (mCall F_law_told (mCons (mVar 12) (mCons (mVar 1) mNil))) (gNm 15)) (mSeq (mIf (mTest (m2 (isM false) (mVar 14) (mC .non))) (mSeq (mRet (m2 (eqM false) (mVar 15) (mC (.str "refused")))) mNext) mNext) (mSeq (mRet (m2 (eqM false) (mCall (one repr1) (mCons (mVar 15) mNil)) (mCall (one repr1) (mCons (mVar 14) mNil)))) mNext))))
theorem tail_ok {y : Yard} (w : YardW y) {x : Str} (o : PyData.strOk x = true) (z : x.length ≤ 900000) {x0 x2 x3 x4 x5 x6 x7 x8 x9 x10 x11 x13 : Option D} :
    tailB [x0, some (yardD y), x2, x3, x4, x5, x6, x7, x8, x9, x10, x11, some (.str x), x13, none, none] [] = .ok (.rt (.bl true)) [] := by
  have z2 : x.length + 2 ≤ sizeLine := le_size (by omega)
  have es : fSplit false (.str x) [.str NL] [] = .ok (.lv ((Txt.split x NL).map .str)) [] := split_ok' nl_len z2 o
  have rd := readlaw_ok w (L := Txt.split x NL) pur_nil fun l hl => ⟨List.all_eq_true.mp (split_ok o) l hl, Nat.le_trans (Nat.add_le_add_right (split_len hl) 2) z2⟩
  have td := told_ok pur_nil w.ok o z2
  have same : (Txt.split x NL).foldlM (lockStep y) [] = lockBy y x := rfl
  rw [same] at rd
  unfold tailB
  rw [nl_is]
  cases e : lockBy y x with
  | none =>
    rw [e] at rd td
    dsimp only at rd td
    have ns : isM false .non .non [] = .ok (.bl true) [] := rfl
    have q := eq_str' (neg := false) (h := []) (i := Str.ofString "refused") (j := Str.ofString "refused") (ok_of _) (ok_of _)
    rw [decide_eq_true rfl] at q
    generalize (Txt.split x NL).map D.str = ls at es rd
    generalize yardD y = yd at rd td ⊢
    generalize F_law_read = F1 at *
    generalize F_law_told = F2 at *
    simp [es, rd, td, ns, q]
  | some f =>
    rw [e] at rd td
    dsimp only at rd td
    have g : Good y f := good_fold ⟨⟨by simp, by simp⟩, by simp⟩ e
    obtain ⟨rl, ro⟩ := repr_lock (good_lock w g) (h := [])
    have ns : isM false (lockD (sortL f)) .non [] = .ok (.bl false) [] := by
      unfold lockD isM
      simp
    have q := eq_str' (neg := false) (h := []) ro ro
    rw [decide_eq_true rfl] at q
    generalize (lockP (sortL f)).shown = sh at rl q
    generalize lockD (sortL f) = ld at rd td rl ns
    generalize (Txt.split x NL).map D.str = ls at es rd
    generalize yardD y = yd at rd td ⊢
    generalize F_law_read = F1 at *
    generalize F_law_told = F2 at *
    simp [es, rd, td, ns, rl, q]
end Wy

set_option Elab.async false
set_option linter.all false
set_option maxRecDepth 100000
set_option maxHeartbeats 4000000
namespace Wy
open PySem PySem.Spec PyProof.Rows L2
/-- good rows -/
def Rws (l : List Str) : Prop := ∀ x ∈ l, PyData.strOk x = true ∧ x.length ≤ 1000
theorem split_hd (x : Str) : ∃ w r, Txt.split x sp = w :: r := by
  have := TL.split_spl x sp (by rw [tl_sp]; simp) (TL.kind_ok sp_small)
  rw [tl_sp] at this
  obtain ⟨p, r, e⟩ := spl_first (TL.tl x) []
  rw [e] at this
  cases h : Txt.split x sp with
  | nil => rw [h] at this; cases this
  | cons w r => exact ⟨w, r, rfl⟩
def hd1 (x : Str) : Str := (Txt.split x sp).head (by obtain ⟨w, r, e⟩ := split_hd x; rw [e]; simp)
theorem hd1_ix {x : Str} {h : DH} (o : PyData.strOk x = true) (z : x.length ≤ 100000) : fSplit false (.str x) [.str (Str.ofString " ")] h = .ok (.lv ((Txt.split x sp).map .str)) h ∧ atI ((Txt.split x sp).map D.str) 0 = some (.str (hd1 x)) ∧ PyData.strOk (hd1 x) = true := by
  obtain ⟨w, r, e⟩ := split_hd x
  have eh : hd1 x = w := by unfold hd1; simp [e]
  refine ⟨split_ok' sp_len (le_size (by omega)) o, by rw [e, List.map_cons, atI_0, eh], ?_⟩
  rw [eh]
  exact List.all_eq_true.mp (split_ok o) w (by rw [e]; simp)
def lawB : SD → M Fl := (mSeq (mAsg (mCall F_law_mixed (mCons (mCall F_law_cell_at (mCons (mVar 0) (mCons (m2 (opAdd false) (mC (.int 4)) (mVar 7)) mNil))) (mCons (mC (.int 5)) mNil))) (gNm 8)) (mSeq (mAsg (mCall F_law_odd_row (mCons (mVar 8) (mCons (mVar 1) (mCons (mVar 2) mNil)))) (gNm 9)) (mSeq (mIf (mTest (m2 (eqM false) (m2 opMod (m2 opFdiv (mVar 8) (mC (.int 3000))) (mC (.int 2))) (mC (.int 1)))) (mSeq (mAsg (mComp [11] (.nm 11) (mTest (m2 (eqM true) (m2 ixA (mMeth .str (fSplit false) (mVar 11) (mCons (mC (.str " ")) mNil)) (mC (.int 0))) (m2 ixA (mMeth .str (fSplit false) (mVar 9) (mCons (mC (.str " ")) mNil)) (mC (.int 0))))) (mVar 11) false (srcSeqA (mVar 3))) (gNm 3)) mNext) mNext) (mSeq (mAsg (m2 opMod (m2 opFdiv (mVar 8) (mC (.int 1000))) (m2 (opAdd false) (mCall (one len1) (mCons (mVar 3) mNil)) (mC (.int 1)))) (gNm 10)) (mSeq (mAsg (m2 (opAdd false) (m2 (opAdd false) (mSl false (mVar 3) none (some (mVar 10))) (mLst false (mCons (mVar 9) mNil))) (mSl false (mVar 3) (some (m2 (opAdd false) (mVar 10) (m2 opMod (m2 opFdiv (mVar 8) (mC (.int 9000))) (mC (.int 2))))) none)) (gNm 3)) mNext)))))
theorem lv_cat {a b : List Str} {h : DH} (z : a.length + b.length ≤ 1000000) : opAdd false (.lv (a.map .str)) (.lv (b.map .str)) h = .ok (.lv ((a ++ b).map .str)) h := by
  show mkL false (a.map .str ++ b.map .str) h = _
  rw [← List.map_append]
  exact mkL_f (le_size (by rw [List.length_map, List.length_append]; exact z))
theorem lv_to {l : List Str} {m : Int} {h : DH} (a : 0 ≤ m) (z : l.length ≤ 1000000) : slM false (.lv (l.map .str)) none (some m) h = .ok (.lv ((l.take m.toNat).map .str)) h := by
  rw [sl_to a (le_size (by rw [List.length_map]; exact z)), List.map_take]
theorem lv_from {l : List Str} {m : Int} {h : DH} (a : 0 ≤ m) (z : l.length ≤ 1000000) : slM false (.lv (l.map .str)) (some m) none h = .ok (.lv ((l.drop m.toNat).map .str)) h := by
  rw [sl_from a (le_size (by rw [List.length_map]; exact z)), List.map_drop]
theorem law_step {ns : List Int} {y : Yard} (w : YardW y) {ld : D} {ls : List Str} (o : Rws ls) (zl : ls.length ≤ 1000) {k : Nat} (hk : k < 10) {x8 x9 x10 : Option D} :
    ∃ ls' x8' x9' a, 0 ≤ a ∧ Rws ls' ∧ ls'.length ≤ ls.length + 1 ∧ lawB [some (.rl (ns.map .int)), some (yardD y), some ld, some (.lv (ls.map .str)), none, none, none, some (.int (k : Nat)), x8, x9, x10, none, none, none, none, none] [] =
      .ok (.nx [some (.rl (ns.map .int)), some (yardD y), some ld, some (.lv (ls'.map .str)), none, none, none, some (.int (k : Nat)), x8', x9', some (.int a), none, none, none, none, none]) [] := by
  have ec : F_law_cell_at [.rl (ns.map .int), .int (4 + (k : Int))] [] = .ok (.int (cellV ns (4 + k))) [] := by
    have := cell_ok ns (4 + k) [] pur_nil
    rwa [show ((4 + k : Nat) : Int) = 4 + (k : Int) by omega] at this
  have em := mixed_ok (c := cellV ns (4 + k)) (k := 5) (h := []) pur_nil (by decide) (by decide)
  generalize mixV (cellV ns (4 + k)) 5 = c at em
  obtain ⟨od, eo, oo, ol⟩ := odd_ok (c := c) (ld := ld) (h := []) pur_nil w
  obtain ⟨sp1, sp2, sp3⟩ := hd1_ix (h := []) oo (by omega)
  -- the lines that stay
  obtain ⟨l1, o1, z1, e1⟩ : ∃ l1 : List Str, Rws l1 ∧ l1.length ≤ ls.length ∧ (mIf (mTest (m2 (eqM false) (m2 opMod (m2 opFdiv (mVar 8) (mC (.int 3000))) (mC (.int 2))) (mC (.int 1)))) (mSeq (mAsg (mComp [11] (.nm 11) (mTest (m2 (eqM true) (m2 ixA (mMeth .str (fSplit false) (mVar 11) (mCons (mC (.str " ")) mNil)) (mC (.int 0))) (m2 ixA (mMeth .str (fSplit false) (mVar 9) (mCons (mC (.str " ")) mNil)) (mC (.int 0))))) (mVar 11) false (srcSeqA (mVar 3))) (gNm 3)) mNext) mNext) [some (.rl (ns.map .int)), some (yardD y), some ld, some (.lv (ls.map .str)), none, none, none, some (.int (k : Nat)), some (.int c), some (.str od), x10, none, none, none, none, none] [] =
      .ok (.nx [some (.rl (ns.map .int)), some (yardD y), some ld, some (.lv (l1.map .str)), none, none, none, some (.int (k : Nat)), some (.int c), some (.str od), x10, none, none, none, none, none]) [] := by
    have f3 : opFdiv (.int c) (.int 3000) ([] : DH) = .ok (.int (c / 3000)) [] := fdiv_p' (by decide) (by decide)
    by_cases cc : c / 3000 % 2 = 1
    · refine ⟨ls.filter fun x => decide (hd1 x ≠ hd1 od), fun x hx => o x (List.mem_filter.mp hx).1, List.length_filter_le _ _, ?_⟩
      have ef : mComp [11] (.nm 11) (mTest (m2 (eqM true) (m2 ixA (mMeth .str (fSplit false) (mVar 11) (mCons (mC (.str " ")) mNil)) (mC (.int 0))) (m2 ixA (mMeth .str (fSplit false) (mVar 9) (mCons (mC (.str " ")) mNil)) (mC (.int 0))))) (mVar 11) false (srcSeqA (mVar 3)) [some (.rl (ns.map .int)), some (yardD y), some ld, some (.lv (ls.map .str)), none, none, none, some (.int (k : Nat)), some (.int c), some (.str od), x10, none, none, none, none, none] [] = .ok (.lv ((ls.filter fun x => decide (hd1 x ≠ hd1 od)).map .str)) [] :=
        comp_lvf D.str (fun x => decide (hd1 x ≠ hd1 od)) D.str (c := stays (.lv (ls.map .str)) (ls.map .str)) (by
          generalize yardD y = yd
          generalize D.rl (ns.map .int) = nd
          simp) (by simp) (le_size (by omega)) fun x hx => ⟨[some (.rl (ns.map .int)), some (yardD y), some ld, some (.lv (ls.map .str)), none, none, none, some (.int (k : Nat)), some (.int c), some (.str od), x10, some (.str x), none, none, none, none], rfl, by
          obtain ⟨s1, s2, s3⟩ := hd1_ix (h := []) (o x hx).1 (by have := (o x hx).2; omega)
          have q := eq_str' (neg := true) (h := []) s3 sp3
          generalize (Txt.split x sp).map D.str = xs at s1 s2
          generalize (Txt.split od sp).map D.str = os at sp1 sp2
          generalize yardD y = yd
          generalize D.rl (ns.map .int) = nd
          generalize D.lv (ls.map .str) = ll
          simp [s1, s2, sp1, sp2, q], fun _ => by
            generalize yardD y = yd
            generalize D.rl (ns.map .int) = nd
            generalize D.lv (ls.map .str) = ll
            simp⟩
      generalize (ls.filter fun x => decide (hd1 x ≠ hd1 od)).map D.str = r at ef ⊢
      generalize yardD y = yd at ef ⊢
      generalize D.rl (ns.map .int) = nd at ef ⊢
      generalize D.lv (ls.map .str) = ll at ef ⊢
      simp [f3, cc, ef]
    · refine ⟨ls, o, Nat.le_refl _, ?_⟩
      generalize yardD y = yd
      generalize D.rl (ns.map .int) = nd
      generalize D.lv (ls.map .str) = ll
      simp [f3, cc]
  have ln : (0 : Int) < (l1.length : Int) + 1 := by omega
  have a0 := Int.emod_nonneg (c / 1000) (show (l1.length : Int) + 1 ≠ 0 by omega)
  have em2 : opMod (.int (c / 1000)) (.int ((l1.length : Int) + 1)) ([] : DH) = .ok (.int (c / 1000 % ((l1.length : Int) + 1))) [] := mod_p' ln
  generalize c / 1000 % ((l1.length : Int) + 1) = a at a0 em2
  have el : len1 (.lv (l1.map D.str)) ([] : DH) = .ok (.int l1.length) [] := by rw [len_lv, List.length_map]
  have b0 := Int.emod_nonneg (c / 9000) (show (2 : Int) ≠ 0 by decide)
  have f1 : opFdiv (.int c) (.int 1000) ([] : DH) = .ok (.int (c / 1000)) [] := fdiv_p' (by decide) (by decide)
  have f9 : opFdiv (.int c) (.int 9000) ([] : DH) = .ok (.int (c / 9000)) [] := fdiv_p' (by decide) (by decide)
  have t1 := lv_to (l := l1) (m := a) (h := []) a0 (by omega)
  have t2 := lv_from (l := l1) (m := a + c / 9000 % 2) (h := []) (by omega) (by omega)
  have t3 := lv_cat (a := l1.take a.toNat) (b := [od]) (h := []) (by rw [List.length_take]; simp; omega)
  have t4 := lv_cat (a := l1.take a.toNat ++ [od]) (b := l1.drop (a + c / 9000 % 2).toNat) (h := []) (by rw [List.length_append, List.length_take, List.length_drop]; simp; omega)
  have mk1 : mkL false [D.str od] ([] : DH) = .ok (.lv [.str od]) [] := mkL_f (le_size (show 1 ≤ 1000000 by decide))
  refine ⟨l1.take a.toNat ++ [od] ++ l1.drop (a + c / 9000 % 2).toNat, some (.int c), some (.str od), a, a0, fun x hx => ?_, ?_, ?_⟩
  · rcases List.mem_append.mp hx with hx | hx
    · rcases List.mem_append.mp hx with hx | hx
      · exact o1 x (List.mem_of_mem_take hx)
      · have : x = od := by simpa using hx
        rw [this]; exact ⟨oo, ol⟩
    · exact o1 x (List.mem_of_mem_drop hx)
  · simp only [List.length_append, List.length_take, List.length_drop, List.length_cons, List.length_nil]
    omega
  · have t3 : opAdd false (.lv ((l1.take a.toNat).map D.str)) (.lv [.str od]) [] = .ok (.lv ((l1.take a.toNat ++ [od]).map .str)) [] := t3
    generalize (l1.take a.toNat ++ [od] ++ l1.drop (a + c / 9000 % 2).toNat).map D.str = r4 at t4 ⊢
    generalize (l1.take a.toNat ++ [od]).map D.str = r3 at t3 t4
    generalize (l1.take a.toNat).map D.str = r1 at t1 t3
    generalize (l1.drop (a + c / 9000 % 2).toNat).map D.str = r2 at t2 t4
    generalize D.lv (l1.map D.str) = l1D at e1 el t1 t2
    unfold lawB
    generalize mIf (mTest (m2 (eqM false) (m2 opMod (m2 opFdiv (mVar 8) (mC (.int 3000))) (mC (.int 2))) (mC (.int 1)))) _ mNext = iff at e1 ⊢
    generalize yardD y = yd at eo e1 ⊢
    generalize D.rl (ns.map .int) = nd at ec e1 ⊢
    generalize D.lv (ls.map .str) = ll at e1 ⊢
    generalize F_law_mixed = F1 at *
    generalize F_law_cell_at = F2 at *
    generalize F_law_odd_row = F3 at *
    generalize eb2 : c / 9000 % 2 = b2 at *
    generalize (l1.length : Int) = n1 at *
    simp [ec, em, eo, e1, el, f1, em2, t1, mk1, t3, f9, eb2, t2, t4]

def midB : SD → M Fl := (mSeq (mAsg (m2 (opAdd false) (mMeth .str fJoin (mC (.str "\n")) (mCons (mVar 3) mNil)) (mC (.str "\n"))) (gNm 12)) (mSeq (mAsg (mCall F_law_mixed (mCons (mCall F_law_cell_at (mCons (mVar 0) (mCons (mC (.int 6)) mNil))) (mCons (mC (.int 9)) mNil))) (gNm 8)) (mSeq (mIf (mTest (m2 (ordM .gt) (m2 opMod (mVar 8) (mC (.int 4))) (mC (.int 1)))) (mSeq (mAsg (m2 (opAdd false) (mSl false (mVar 3) none (some (mVar 10))) (mSl false (mVar 3) (some (m2 (opAdd false) (mVar 10) (mC (.int 1)))) none)) (gNm 13)) (mSeq (mAsg (mCall F_law_sign_bent (mCons (m2 (opAdd false) (mMeth .str fJoin (mC (.str "\n")) (mCons (mVar 13) mNil)) (m2 opMulA (mC (.str "\n")) (m2 opMod (mVar 8) (mC (.int 2))))) (mCons (mVar 8) mNil))) (gNm 12)) mNext)) mNext) tailB)))
theorem rws_join {l : List Str} (o : Rws l) (z : l.length ≤ 50) {h : DH} : fJoin (.str NL) [.lv (l.map .str)] h = .ok (.str (Txt.join NL l)) h ∧ PyData.strOk (Txt.join NL l) = true ∧ (Txt.join NL l).length ≤ 50050 := by
  have a := join_len NL l
  have b := sum_le (fun x : Str => x.length) 1000 l fun x hx => (o x hx).2
  rw [NL_1] at a
  have b : (l.map (fun x : Str => x.length)).sum ≤ _ := b
  refine ⟨join_lv (by rw [NL_1]; omega) NL_ok fun x hx => (o x hx).1, join_okS NL_ok fun x hx => (o x hx).1, by omega⟩
theorem mid_ok {ns : List Int} {y : Yard} (w : YardW y) {ls : List Str} (o : Rws ls) (zl : ls.length ≤ 50) {a : Int} (a0 : 0 ≤ a) {x2 x4 x5 x6 x7 x8 x9 : Option D} :
    midB [some (.rl (ns.map .int)), some (yardD y), x2, some (.lv (ls.map .str)), x4, x5, x6, x7, x8, x9, some (.int a), none, none, none, none, none] [] = .ok (.rt (.bl true)) [] := by
  obtain ⟨j1, j2, j3⟩ := rws_join (h := []) o zl
  have c1 := cat_str (mt := false) (x := Txt.join NL ls) (y := NL) (h := []) (le_size (by rw [NL_1]; omega))
  have e6 := cell_ok ns 6 [] pur_nil
  have em := mixed_ok (c := cellV ns 6) (k := 9) (h := []) pur_nil (by decide) (by decide)
  generalize mixV (cellV ns 6) 9 = c at em
  have o1 := ok_app j2 NL_ok
  have z1 : (Txt.join NL ls ++ NL).length ≤ 900000 := by rw [len_app, NL_1]; omega
  have t1 := tail_ok w o1 z1 (x0 := some (.rl (ns.map .int))) (x2 := x2) (x3 := some (.lv (ls.map .str))) (x4 := x4) (x5 := x5) (x6 := x6) (x7 := x7) (x8 := some (.int c)) (x9 := x9) (x10 := some (.int a)) (x11 := none) (x13 := none)
  have e6 : F_law_cell_at [.rl (ns.map .int), .int 6] [] = .ok (.int (cellV ns 6)) [] := e6
  by_cases cc : 1 < c % 4
  · have oL : Rws (ls.take a.toNat ++ ls.drop (a + 1).toNat) := fun x hx => by
      rcases List.mem_append.mp hx with hx | hx
      · exact o x (List.mem_of_mem_take hx)
      · exact o x (List.mem_of_mem_drop hx)
    have zL : (ls.take a.toNat ++ ls.drop (a + 1).toNat).length ≤ 50 := by
      rw [List.length_append, List.length_take, List.length_drop]
      omega
    have s1 := lv_to (l := ls) (m := a) (h := []) a0 (by omega)
    have s2 := lv_from (l := ls) (m := a + 1) (h := []) (by omega) (by omega)
    have s3 := lv_cat (a := ls.take a.toNat) (b := ls.drop (a + 1).toNat) (h := []) (by rw [List.length_take, List.length_drop]; omega)
    obtain ⟨k1, k2, k3⟩ := rws_join (h := []) oL zL
    have b0 := Int.emod_nonneg c (show (2 : Int) ≠ 0 by decide)
    have b1 := Int.emod_lt_of_pos c (show (0 : Int) < 2 by decide)
    have r1 := repS_01 NL b0 (show c % 2 ≤ 1 by omega)
    rw [NL_1] at r1
    have m1 : opMulA (.str NL) (.int (c % 2)) ([] : DH) = .ok (.str (repS NL (c % 2))) [] := mulA_str (by rw [NL_1]; decide) (by omega) (by omega)
    have c2 := cat_str (mt := false) (x := Txt.join NL (ls.take a.toNat ++ ls.drop (a + 1).toNat)) (y := repS NL (c % 2)) (h := []) (le_size (by omega))
    obtain ⟨v, bv, vo, vl⟩ := bent_ok (x := Txt.join NL (ls.take a.toNat ++ ls.drop (a + 1).toNat) ++ repS NL (c % 2)) (c := c) (h := []) pur_nil (ok_app k2 (repS_ok NL_ok)) (by rw [len_app]; omega)
    have t2 := tail_ok w vo (by omega) (x0 := some (.rl (ns.map .int))) (x2 := x2) (x3 := some (.lv (ls.map .str))) (x4 := x4) (x5 := x5) (x6 := x6) (x7 := x7) (x8 := some (.int c)) (x9 := x9) (x10 := some (.int a)) (x11 := none) (x13 := some (.lv ((ls.take a.toNat ++ ls.drop (a + 1).toNat).map .str)))
    unfold midB
    rw [nl_is]
    generalize Txt.join NL (ls.take a.toNat ++ ls.drop (a + 1).toNat) ++ repS NL (c % 2) = w2 at c2 bv
    generalize Txt.join NL (ls.take a.toNat ++ ls.drop (a + 1).toNat) = w1 at c2 k1
    generalize (ls.take a.toNat ++ ls.drop (a + 1).toNat).map D.str = l3 at s3 k1 t2
    generalize (ls.take a.toNat).map D.str = l1 at s1 s3
    generalize (ls.drop (a + 1).toNat).map D.str = l2 at s2 s3
    generalize repS NL (c % 2) = rp at m1 c2
    generalize Txt.join NL ls ++ NL = jn2 at c1
    generalize Txt.join NL ls = jn at j1 c1
    generalize ls.map D.str = ll at j1 s1 s2 t2 ⊢
    generalize yardD y = yd at t2 ⊢
    generalize D.rl (ns.map .int) = nd at e6 t2 ⊢
    generalize tailB = tb at t2 ⊢
    generalize NL = nl at *
    generalize F_law_mixed = F1 at *
    generalize F_law_cell_at = F2 at *
    generalize F_law_sign_bent = F3 at *
    simp [j1, c1, e6, em, cc, s1, s2, s3, k1, m1, c2, bv, t2]
  · unfold midB
    rw [nl_is]
    generalize Txt.join NL ls ++ NL = jn2 at c1 t1
    generalize Txt.join NL ls = jn at j1 c1
    generalize ls.map D.str = ll at j1 t1 ⊢
    generalize yardD y = yd at t1 ⊢
    generalize D.rl (ns.map .int) = nd at e6 t1 ⊢
    generalize tailB = tb at t1 ⊢
    generalize NL = nl at *
    generalize F_law_mixed = F1 at *
    generalize F_law_cell_at = F2 at *
    simp [j1, c1, e6, em, cc, t1]
theorem plain_k50 (ns : List Int) (hn : ns.length ≤ 63) (_ : ∀ z ∈ ns, Builtin.Int.intBits z ≤ 1048576) : ∃ hd, den true 16 B_law [.rl (ns.map .int)] [] = .ok (.bl true) hd := by
  refine ⟨[], ?_⟩
  refine den_eq (p := .bool true) ?_ pur_nil rfl
  have m4 := Int.emod_nonneg (cellV ns 1) (show (4 : Int) ≠ 0 by decide)
  have m4' := Int.emod_lt_of_pos (cellV ns 1) (show (0 : Int) < 4 by decide)
  have e0 := cell_ok ns 0 [] pur_nil
  have e1 := cell_ok ns 1 [] pur_nil
  have e2 := cell_ok ns 2 [] pur_nil
  have e3 := cell_ok ns 3 [] pur_nil
  have ey := yard_ok (c := cellV ns 0) (n := 1 + cellV ns 1 % 4) pur_nil (by omega) (by omega)
  have w := ydV_w (cellV ns 0) (n := (1 + cellV ns 1 % 4).toNat) (by omega) (by omega)
  generalize ydV (cellV ns 0) (1 + cellV ns 1 % 4).toNat = y at ey w
  have fw := w.few
  have el := lock_ok (c := cellV ns 2) (y := y) pur_nil (by omega) fun a ha => ⟨fun e => by
    have := (w.each a ha).1
    rw [e] at this
    simp at this, by have := (w.each a ha).2; omega⟩
  have lo := lkV_ok (c := cellV ns 2) w
  have ll : (lkV (cellV ns 2) y).length ≤ 10 := by
    unfold lkV
    have := List.length_filterMap_le (fun p : Ware × Nat => lkOne (cellV ns 2) p.1 p.2) y.zipIdx
    rw [List.length_zipIdx] at this
    omega
  generalize lkV (cellV ns 2) y = l at el lo ll
  have ec : mComp [4, 5] (.tp (.cons (.nm 4) (.cons (.nm 5) .nil))) mYes (m2 (opAdd false) (m2 (opAdd false) (mVar 4) (mC (.str " "))) (mMeth .str fJoin (mC (.str ".")) (mCons (mComp [6] (.nm 6) mYes (mCall (one str1) (mCons (mVar 6) mNil)) false (srcSeqA (mVar 5))) mNil))) false (srcSeqA (mVar 2)) [some (.rl (ns.map .int)), some (yardD y), some (lockD l), none, none, none, none, none, none, none, none, none, none, none, none, none] [] = .ok (.lv (l.map fun p => .str (p.1 ++ sp ++ mkS p.2))) [] :=
    comp_lv (fun p : Str × Mk => D.tup [.str p.1, mkT p.2]) (fun p => .str (p.1 ++ sp ++ mkS p.2)) (c := stays (lockD l) (l.map fun p => .tup [.str p.1, mkT p.2])) (by
      unfold lockD
      generalize yardD y = yd
      generalize D.rl (ns.map .int) = nd
      simp) (by unfold lockD; simp) (le_size (by omega)) fun p hp' => ⟨[some (.rl (ns.map .int)), some (yardD y), some (lockD l), none, some (.str p.1), some (mkT p.2), none, none, none, none, none, none, none, none, none, none], rfl, rfl, by
      obtain ⟨c1, c2, c3⟩ := row_cat (H := []) (lo.names p hp') (lo.makes p hp')
      have tc := text_comp (m := p.2) (lo.makes p hp') (i := 6) (s := [some (.rl (ns.map .int)), some (yardD y), some (lockD l), none, some (.str p.1), some (mkT p.2), none, none, none, none, none, none, none, none, none, none]) (h := []) (src := srcSeqA (mVar 5)) (by
        unfold mkT
        generalize yardD y = yd
        generalize D.rl (ns.map .int) = nd
        generalize lockD l = ld
        simp) (by simp)
      have tj := join_num (h := []) (lo.makes p hp')
      show (m2 (opAdd false) (m2 (opAdd false) (mVar 4) (mC (.str sp))) (mMeth .str fJoin (mC (.str DOT)) (mCons (mComp [6] (.nm 6) mYes (mCall (one str1) (mCons (mVar 6) mNil)) false (srcSeqA (mVar 5))) mNil))) _ [] = _
      generalize p.2.map (fun n => D.str (numS n)) = q at tc tj
      generalize yardD y = yd at tc ⊢
      generalize D.rl (ns.map .int) = nd at tc ⊢
      generalize lockD l = ld at tc ⊢
      generalize mkT p.2 = mt at tc ⊢
      generalize p.1 ++ sp ++ mkS p.2 = r2 at c2 ⊢
      generalize p.1 ++ sp = r1 at c1 c2
      generalize mkS p.2 = ms at *
      generalize sp = s at *
      generalize DOT = dt at *
      simp [tc, tj, c1, c2]⟩
  have es : (l.map fun p => D.str (p.1 ++ sp ++ mkS p.2)) = (l.map fun p => p.1 ++ sp ++ mkS p.2).map .str := by rw [List.map_map]; rfl
  rw [es] at ec
  have ro : Rws (l.map fun p => p.1 ++ sp ++ mkS p.2) := fun x hx => by
    obtain ⟨p, hp, rfl⟩ := List.mem_map.mp hx
    have n := lo.names p hp
    have m := mkS_len (lo.makes p hp)
    refine ⟨ok_app (ok_app n.txt sp_ok) mkS_ok, ?_⟩
    rw [len_app, len_app, sp_1]
    have := n.len.2
    omega
  have rz : (l.map fun p => p.1 ++ sp ++ mkS p.2).length ≤ 10 := by rw [List.length_map]; exact ll
  generalize (l.map fun p => p.1 ++ sp ++ mkS p.2) = ls at ec ro rz
  have m2 := Int.emod_nonneg (cellV ns 3) (show (2 : Int) ≠ 0 by decide)
  have m2' := Int.emod_lt_of_pos (cellV ns 3) (show (0 : Int) < 2 by decide)
  have rg := rng0 (j := 1 + cellV ns 3 % 2) (h := []) ⟨by omega, by omega⟩
  obtain ⟨s', H', lp, ls', x7, x8, x9, x10, ro', rz', hx, rfl, rfl⟩ := loop_pre (g := gNm 7) (body := lawB) (chk := fun _ => true) (r := fun i : Nat => D.int (i : Nat))
    (fun pre s H => ∃ ls' x7 x8 x9 x10, Rws ls' ∧ ls'.length ≤ 10 + pre.length ∧ (pre ≠ [] → ∃ a : Int, 0 ≤ a ∧ x10 = some (.int a)) ∧ s = [some (.rl (ns.map .int)), some (yardD y), some (lockD l), some (.lv (ls'.map .str)), none, none, none, x7, x8, x9, x10, none, none, none, none, none] ∧ H = []) (fun _ _ _ _ => rfl) (List.range (1 + cellV ns 3 % 2).toNat)
    (fun pre k suf e s H ⟨ls', x7, x8, x9, x10, ro, rz, _, es, eH⟩ => by
      subst es; subst eH
      have hk := List.mem_range.mp (pre_mem e)
      have hp := pre_lt e
      rw [List.length_range] at hp
      obtain ⟨ls2, y8, y9, a, a0, r2, z2, q⟩ := law_step (ns := ns) w (ld := lockD l) ro (by omega) (k := k) (by omega) (x8 := x8) (x9 := x9) (x10 := x10)
      exact ⟨_, _, rfl, _, _, .inl q, ls2, _, y8, y9, _, r2, by rw [List.length_append, List.length_singleton]; omega, fun _ => ⟨a, a0, rfl⟩, rfl, rfl⟩)
    [some (.rl (ns.map .int)), some (yardD y), some (lockD l), some (.lv (ls.map .str)), none, none, none, none, none, none, none, none, none, none, none, none] [] ⟨ls, none, none, none, none, ro, by simpa using rz, fun h => absurd rfl h, rfl, rfl⟩
  obtain ⟨a, a0, rfl⟩ := hx fun e => by
    have := congrArg List.length e
    rw [List.length_range] at this
    simp at this
    omega
  rw [List.length_range] at rz'
  have md := mid_ok (ns := ns) w ro' (by omega) a0 (x2 := some (lockD l)) (x4 := none) (x5 := none) (x6 := none) (x7 := x7) (x8 := x8) (x9 := x9)
  unfold B_law slots0 ofP
  show (mSeq _ (mSeq _ (mSeq _ (mSeq (mFor _ (gNm 7) lawB) midB))) : SD → M Fl) [some (.rl (ns.map .int)), none, none, none, none, none, none, none, none, none, none, none, none, none, none, none] [] = _
  have e0 : F_law_cell_at [.rl (ns.map .int), .int 0] [] = .ok (.int (cellV ns 0)) [] := e0
  have e1 : F_law_cell_at [.rl (ns.map .int), .int 1] [] = .ok (.int (cellV ns 1)) [] := e1
  have e2 : F_law_cell_at [.rl (ns.map .int), .int 2] [] = .ok (.int (cellV ns 2)) [] := e2
  have e3 : F_law_cell_at [.rl (ns.map .int), .int 3] [] = .ok (.int (cellV ns 3)) [] := e3
  generalize (List.range (1 + cellV ns 3 % 2).toNat).map (fun i : Nat => D.int (i : Nat)) = src at rg lp
  generalize ls'.map D.str = l2 at lp md
  generalize ls.map D.str = l1 at ec lp
  generalize lockD l = ld at *
  generalize yardD y = yd at *
  generalize D.rl (ns.map .int) = nd at *
  generalize lawB = lb at lp ⊢
  generalize midB = mb at md ⊢
  generalize F_law_cell_at = G0 at *
  generalize F_law_yard = G1 at *
  generalize F_law_lock = G2 at *
  simp [e0, e1, ey, e2, el, ec, e3, rg, lp, md]
end Wy

set_option Elab.async false
set_option linter.all false
set_option maxRecDepth 100000
set_option maxHeartbeats 4000000
namespace Wy
open PySem PySem.Spec PyProof.Rows L2
def topS (i : Nat) : Stmt := PySem.Challenge.pw_wishyard_k50_lock_texts_refused.main.body.getD i (.Pass ⟨0, 0, 0, 0⟩)
section
variable {P : Program} {w : World} {K : PySem.W.Frag} {mg : Str → Option Value} {base : Heap}
theorem sc_law_cell_at : FnScope ["_law_script", "_law_k"] ["_law_script", "_law_k"] (defScope (topS 18)) := ⟨rfl, rfl, rfl, by decide +kernel, rfl, by decide +kernel, by decide +kernel⟩
theorem ok_law_cell_at (bu : Bu mg) (fn : FunAt K mg "_law_cell_at" (topS 18)) : DefOk P w K mg base (TB mg) "_law_cell_at" 1 2 F_law_cell_at :=
  def_is (N := ["_law_script", "_law_k"]) (ps := ["_law_script", "_law_k"]) (k := 0) fn sc_law_cell_at bu (fun _ _ _ _ _ _ us hl => match us, hl with | [_, _], _ => rfl) fun f cdv A outer s H E c tk hp =>
    (sm_cons (sm_if (tLt c (v 1) (cLen c (ac (v 0) am_nil))) (sm_cons (sm_ret (oIx c (v 0) (v 1)))
    sm_nil) sm_nil)
    (sm_cons (sm_ret kI)
    sm_nil))
theorem sc_law_mixed : FnScope ["_law_cell", "_law_k", "_law_left", "_law_turn", "_law_number"] ["_law_cell", "_law_k"] (defScope (topS 19)) := ⟨rfl, rfl, rfl, by decide +kernel, rfl, by decide +kernel, by decide +kernel⟩
theorem ok_law_mixed (bu : Bu mg) (fn : FunAt K mg "_law_mixed" (topS 19)) : DefOk P w K mg base (TB mg) "_law_mixed" 1 2 F_law_mixed :=
  def_is (N := ["_law_cell", "_law_k", "_law_left", "_law_turn", "_law_number"]) (ps := ["_law_cell", "_law_k"]) (k := 0) fn sc_law_mixed bu (fun _ _ _ _ _ _ us hl => match us, hl with | [_, _], _ => rfl) fun f cdv A outer s H E c tk hp =>
    (sm_cons (sA (cMax c (ac kI (ac (oFdv (v 0) (oPow kI kI)) am_nil))) (gN c))
    (sm_cons (sF c hp (iR c (ac (oMulA (v 1) (cIntA c (ac (oGt c (v 2) kI) am_nil))) am_nil)) (gN c) (sm_cons (sA (oFdv (v 2) (oPow kI kI)) (gN c))
    sm_nil))
    (sm_cons (sA (oMod (oMulA (oAdd (v 0) (oMulA kI (v 1))) kI) kI) (gN c))
    (sm_cons (sm_ret (em_ite (tGt c (v 2) kI) (oMod (v 2) (oPow kI kI)) (oMod (oAdd (oAdd (oMulA (v 4) (v 4)) (oMulA kI (v 4))) (v 1)) kI)))
    sm_nil))))
theorem sc_law_lock : FnScope ["_law_cell", "_law_yard_here", "_law_lock_here", "_law_k", "_law_more", "_law_name", "_law_rows"] ["_law_cell", "_law_yard_here"] (defScope (topS 24)) := ⟨rfl, rfl, rfl, by decide +kernel, rfl, by decide +kernel, by decide +kernel⟩
theorem ok_law_lock (bu : Bu mg) (fn : FunAt K mg "_law_lock" (topS 24)) (ok_law_mixed_ : DefOk P w K mg base (TB mg) "_law_mixed" 1 2 F_law_mixed) : DefOk P w K mg base (TB mg) "_law_lock" 2 2 F_law_lock :=
  def_is (N := ["_law_cell", "_law_yard_here", "_law_lock_here", "_law_k", "_law_more", "_law_name", "_law_rows"]) (ps := ["_law_cell", "_law_yard_here"]) (k := 1) fn sc_law_lock bu (fun _ _ _ _ _ _ us hl => match us, hl with | [_, _], _ => rfl) fun f cdv A outer s H E c tk hp =>
    (sm_cons (sA (em_lst am_nil) (gN c))
    (sm_cons (sF c hp (iE c (ac (v 1) am_nil)) (gT c (gs1 (gN c) (gs1 (gT c (gs1 (gN c) (gs1 (gN c) gs0))) gs0))) (sm_cons (sA (cF c tk ok_law_mixed_ (ac (v 0) (ac (oAdd kI (v 3)) am_nil))) (gN c))
    (sm_cons (sm_if (tGt c (oMod (v 4) kI) kI) (sm_cons (sX (mAppend (v 2) (ac (tp (ac (v 5) (ac (oIx c (oIx c (v 6) (oMod (oFdv (v 4) kI) (cLen c (ac (v 6) am_nil)))) kI) am_nil))) am_nil)))
    sm_nil) sm_nil)
    sm_nil)))
    (sm_cons (sm_ret (cTup c (ac (v 2) am_nil)))
    sm_nil)))
theorem sc_law_odd_row : FnScope ["_law_cell", "_law_yard_here", "_law_lock_here", "_law_name", "_law_rows", "_law_make", "_law_number", "_law_some"] ["_law_cell", "_law_yard_here", "_law_lock_here"] (defScope (topS 25)) := ⟨rfl, rfl, rfl, by decide +kernel, rfl, by decide +kernel, by decide +kernel⟩
theorem ok_law_odd_row (bu : Bu mg) (fn : FunAt K mg "_law_odd_row" (topS 25)) : DefOk P w K mg base (TB mg) "_law_odd_row" 1 3 F_law_odd_row :=
  def_isT (N := ["_law_cell", "_law_yard_here", "_law_lock_here", "_law_name", "_law_rows", "_law_make", "_law_number", "_law_some"]) (ps := ["_law_cell", "_law_yard_here", "_law_lock_here"]) (k := 0) fn sc_law_odd_row bu (fun _ _ _ _ _ _ us hl => match us, hl with | [_, _, _], _ => rfl) (fun f cdv A outer s H E c tk hp =>
    (st_cons (sA (oIx c (v 1) (oMod (oFdv (v 0) kI) (cLen c (ac (v 1) am_nil)))) (gT c (gs1 (gN c) (gs1 (gN c) gs0))))
    (st_cons (sA (mJoin kS (ac (xC c (iSA (oIx c (oIx c (v 4) kI) kI)) (blk_mk (own := [("_law_number", 6)]) (by kernel_rfl)) (fun s H C cl fp c => (cgN c)) (fun s H C cl fp c => tms_nil) (fun s H C cl fp c => (cStr c (ac (v 6) am_nil)))) am_nil)) (gN c))
    (st_cons (sA (em_lst (ac (v 3) (ac (v 5) (ac (oAdd (oAdd (oAdd (oAdd (v 3) kS) (v 5)) kS) (v 5)) (ac (oAdd (oAdd (v 3) kS) (v 5)) (ac (oAdd (oAdd (em_upper (v 3)) kS) (v 5)) (ac (oAdd kS (v 5)) am_nil))))))) (gN c))
    (st_cons (sA (oAdd (v 7) (em_lst (ac (oAdd (oAdd (v 3) kS) (v 5)) (ac (oAdd (oAdd (oAdd (v 3) kS) (v 5)) kS) (ac (oAdd (oAdd (v 3) kS) (v 5)) (ac (oAdd (oAdd (v 3) kS) (v 5)) (ac (oAdd (v 3) kS) am_nil))))))) (gN c))
    (st_cons (sA (oAdd (v 7) (em_lst (ac (oAdd (oAdd (oAdd (v 3) kS) (v 5)) kS) (ac (oAdd (v 3) kS) (ac (oAdd (oAdd (oAdd (v 3) kS) (v 5)) kS) (ac (oAdd (oAdd (v 3) kS) (v 5)) am_nil)))))) (gN c))
    (st_cons (sA (oAdd (v 7) (em_lst (ac (oAdd (v 3) kS) (ac (oAdd kS (v 3)) (ac (oAdd kS (v 3)) (ac (oAdd (oAdd (v 3) kS) (v 5)) (ac (oAdd (oAdd (v 5) kS) (v 3)) (ac (oAdd kS (v 3)) am_nil)))))))) (gN c))
    (st_cons (sA (oAdd (v 7) (em_lst (ac (oAdd (oAdd (oAdd (v 3) kS) (v 5)) kS) (ac (oAdd (oAdd (oAdd (v 3) kS) (v 5)) kS) (ac (oAdd (oAdd (oAdd (v 3) (v 3)) kS) (v 5)) (ac (oAdd (oAdd (v 3) kS) (v 5)) am_nil)))))) (gN c))
    (st_ret (et_ix c.u10 (et_op op_addAny (r_add false) (et_of (v 7)) (et_lst (et_cons (et_of (oAdd (oAdd (oAdd kS (v 3)) kS) (v 5))) (et_cons (et_op op_addAny (r_add false) (et_of (oAdd (v 3) kS)) (et_repl (v 5))) (et_cons (et_of kS) et_nil))))) (et_of (oMod (v 0) kI)) (fun _ _ => rfl))))))))))) (by decide +kernel) (by decide)
theorem sc_law_read : FnScope ["_law_lines", "_law_yard_here", "_law_found", "_law_line", "_law_words", "_law_makes_here", "_law_some", "_law_name", "_law_rows", "_law_word", "_law_one", "_law_row", "_law_pair", "_law_number"] ["_law_lines", "_law_yard_here"] (defScope (topS 26)) := ⟨rfl, rfl, rfl, by decide +kernel, rfl, by decide +kernel, by decide +kernel⟩
theorem ok_law_read (bu : Bu mg) (fn : FunAt K mg "_law_read" (topS 26)) : DefOk P w K mg base (TB mg) "_law_read" 1 2 F_law_read :=
  def_is (N := ["_law_lines", "_law_yard_here", "_law_found", "_law_line", "_law_words", "_law_makes_here", "_law_some", "_law_name", "_law_rows", "_law_word", "_law_one", "_law_row", "_law_pair", "_law_number"]) (ps := ["_law_lines", "_law_yard_here"]) (k := 0) fn sc_law_read bu (fun _ _ _ _ _ _ us hl => match us, hl with | [_, _], _ => rfl) fun f cdv A outer s H E c tk hp =>
    (sm_cons (sA (em_lst am_nil) (gN c))
    (sm_cons (sF c hp (iSA (v 0)) (gN c) (sm_cons (sA (xC c (iSA (mSplit (v 3) (ac kS am_nil))) (blk_mk (own := [("_law_word", 9)]) (by kernel_rfl)) (fun s H C cl fp c => (cgN c)) (fun s H C cl fp c => (tms_one (tNe c (v 9) kS))) (fun s H C cl fp c => (v 9))) (gN c))
    (sm_cons (sm_if (tBo (wm_or (tEq c (v 4) (em_lst am_nil)) (wm_or1 (tEq c (em_sl (oIx c (v 4) kI) om_none (om_some kI)) kS)))) (sm_cons sm_cnt
    sm_nil) sm_nil)
    (sm_cons (sA (em_lst am_nil) (gN c))
    (sm_cons (sF c hp (iSA (v 1)) (gT c (gs1 (gN c) (gs1 (gN c) gs0))) (sm_cons (sA (oAdd (v 5) (xC c (iSA (v 8)) (blk_mk (own := [("_law_row", 11)]) (by kernel_rfl)) (fun s H C cl fp c => (cgN c)) (fun s H C cl fp c => tms_nil) (fun s H C cl fp c => (em_lst (ac (v 7) (ac (mJoin kS (ac (xC c (iSA (oIx c (v 11) kI)) (blk_mk (own := [("_law_number", 13)]) (by kernel_rfl)) (fun s H C cl fp c => (cgN c)) (fun s H C cl fp c => tms_nil) (fun s H C cl fp c => (cStr c (ac (v 13) am_nil)))) am_nil)) (ac (oIx c (v 11) kI) am_nil))))))) (gN c))
    sm_nil))
    (sm_cons (sC c (iSA (v 5)) (blk_mk (own := [("_law_one", 10)]) (by kernel_rfl)) (fun s H C cl fp c => (cgN c)) (fun s H C cl fp c => (tms_one (tEq c (em_sl (v 10) om_none (om_some kI)) (v 4)))) (fun s H C cl fp c => (v 10)))
    (sm_cons (sm_if (tBo (wm_or (tEq c (v 6) (em_lst am_nil)) (wm_or1 (tIn c (oIx c (v 4) kI) (xC c (iSA (v 2)) (blk_mk (own := [("_law_pair", 12)]) (by kernel_rfl)) (fun s H C cl fp c => (cgN c)) (fun s H C cl fp c => tms_nil) (fun s H C cl fp c => (oIx c (v 12) kI))))))) (sm_cons (sm_ret kN)
    sm_nil) sm_nil)
    (sm_cons (sX (mAppend (v 2) (ac (tp (ac (oIx c (v 4) kI) (ac (oIx c (oIx c (v 6) kI) kI) am_nil))) am_nil)))
    sm_nil))))))))
    (sm_cons (sm_ret (cTup c (ac (cSrt c (ac (v 2) am_nil)) am_nil)))
    sm_nil)))
theorem sc_law_sign_bent : FnScope ["_law_text", "_law_cell", "_law_pool", "_law_at", "_law_sign", "_law_way"] ["_law_text", "_law_cell"] (defScope (topS 28)) := ⟨rfl, rfl, rfl, by decide +kernel, rfl, by decide +kernel, by decide +kernel⟩
theorem ok_law_sign_bent (bu : Bu mg) (fn : FunAt K mg "_law_sign_bent" (topS 28)) : DefOk P w K mg base (TB mg) "_law_sign_bent" 1 2 F_law_sign_bent :=
  def_is (N := ["_law_text", "_law_cell", "_law_pool", "_law_at", "_law_sign", "_law_way"]) (ps := ["_law_text", "_law_cell"]) (k := 0) fn sc_law_sign_bent bu (fun _ _ _ _ _ _ us hl => match us, hl with | [_, _], _ => rfl) fun f cdv A outer s H E c tk hp =>
    (sm_cons (sA kS (gN c))
    (sm_cons (sA (oMod (oFdv (v 1) kI) (oAdd (cLen c (ac (v 0) am_nil)) kI)) (gN c))
    (sm_cons (sA (oIx c (v 2) (oMod (oFdv (v 1) kI) (cLen c (ac (v 2) am_nil)))) (gN c))
    (sm_cons (sA (oMod (oFdv (v 1) kI) kI) (gN c))
    (sm_cons (sm_ret (oAdd (oAdd (em_sl (v 0) om_none (om_some (v 3))) (oIx c (em_lst (ac (v 4) (ac kS (ac (v 4) am_nil)))) (v 5))) (em_sl (v 0) (om_some (oAdd (v 3) (oIx c (em_lst (ac kI (ac kI (ac kI am_nil)))) (v 5)))) om_none)))
    sm_nil)))))
theorem sc_is_number : FnScope ["thing"] ["thing"] (defScope (topS 5)) := ⟨rfl, rfl, rfl, by decide +kernel, rfl, by decide +kernel, by decide +kernel⟩
theorem ok_is_number (bu : Bu mg) (fn : FunAt K mg "is_number" (topS 5)) (u : Bu2 mg) (gc_MOST_NUMBER : ∃ t, mg "MOST_NUMBER" = some (.int 9999 t)) : DefOk P w K mg base (TB mg) "is_number" 1 1 F_is_number :=
  def_is (N := ["thing"]) (ps := ["thing"]) (k := 0) fn sc_is_number bu (fun _ _ _ _ _ _ us hl => match us, hl with | [_], _ => rfl) fun f cdv A outer s H E c tk hp =>
    (sm_cons (sm_ret (em_and (cIsi u c.bu.int (v 0)) (em_and (em_notB (cIsi u u.bool (v 0))) (em_one (oCh c .le .le kI (v 0) (gI gc_MOST_NUMBER))))))
    sm_nil)
theorem sc_is_make : FnScope ["thing", "one"] ["thing"] (defScope (topS 6)) := ⟨rfl, rfl, rfl, by decide +kernel, rfl, by decide +kernel, by decide +kernel⟩
theorem ok_is_make (bu : Bu mg) (fn : FunAt K mg "is_make" (topS 6)) (u : Bu2 mg) (gc_MOST_NUMBERS : ∃ t, mg "MOST_NUMBERS" = some (.int 4 t)) (ok_is_number_ : DefOk P w K mg base (TB mg) "is_number" 1 1 F_is_number) : DefOk P w K mg base (TB mg) "is_make" 2 1 F_is_make :=
  def_is (N := ["thing", "one"]) (ps := ["thing"]) (k := 1) fn sc_is_make bu (fun _ _ _ _ _ _ us hl => match us, hl with | [_], _ => rfl) fun f cdv A outer s H E c tk hp =>
    (sm_cons (sm_if (tBo (wm_or (tm_not (tTr (cIsi u c.bu.tuple (v 0)))) (wm_or1 (tm_not (tCh c .le .le kI (cLen c (ac (v 0) am_nil)) (gI gc_MOST_NUMBERS)))))) (sm_cons (sm_ret kB)
    sm_nil) sm_nil)
    (sm_cons (sm_ret (cAll c u (ac (xC c (iSA (v 0)) (blk_mk (own := [("one", 1)]) (by kernel_rfl)) (fun s H C cl fp c => (cgN c)) (fun s H C cl fp c => tms_nil) (fun s H C cl fp c => (cF c takes0 ok_is_number_ (ac (v 1) am_nil)))) am_nil)))
    sm_nil))
theorem sc_number_by : FnScope ["word", "sign"] ["word"] (defScope (topS 7)) := ⟨rfl, rfl, rfl, by decide +kernel, rfl, by decide +kernel, by decide +kernel⟩
theorem ok_number_by (bu : Bu mg) (fn : FunAt K mg "number_by" (topS 7)) (u : Bu2 mg) (gc_FIGURES : ∃ t, mg "FIGURES" = some (.str "0123456789" t)) (gc_LONGEST : ∃ t, mg "LONGEST" = some (.int 4 t)) : DefOk P w K mg base (TB mg) "number_by" 1 1 F_number_by :=
  def_is (N := ["word", "sign"]) (ps := ["word"]) (k := 0) fn sc_number_by bu (fun _ _ _ _ _ _ us hl => match us, hl with | [_], _ => rfl) fun f cdv A outer s H E c tk hp =>
    (sm_cons (sm_if (tBo (wm_or (tm_not (tCh c .le .le kI (cLen c (ac (v 0) am_nil)) (gI gc_LONGEST))) (wm_or (tm_not (tTr (cAll c u (ac (xC c (iSA (v 0)) (blk_mk (own := [("sign", 1)]) (by kernel_rfl)) (fun s H C cl fp c => (cgN c)) (fun s H C cl fp c => tms_nil) (fun s H C cl fp c => (oIn c (v 1) (gSt gc_FIGURES)))) am_nil)))) (wm_or1 (tNe c (cStr c (ac (cIntA c (ac (v 0) am_nil)) am_nil)) (v 0)))))) (sm_cons (sm_ret kN)
    sm_nil) sm_nil)
    (sm_cons (sm_ret (cIntA c (ac (v 0) am_nil)))
    sm_nil))
theorem sc_make_by : FnScope ["word", "make", "one"] ["word"] (defScope (topS 8)) := ⟨rfl, rfl, rfl, by decide +kernel, rfl, by decide +kernel, by decide +kernel⟩
theorem ok_make_by (bu : Bu mg) (fn : FunAt K mg "make_by" (topS 8)) (ok_is_make_ : DefOk P w K mg base (TB mg) "is_make" 2 1 F_is_make) (ok_number_by_ : DefOk P w K mg base (TB mg) "number_by" 1 1 F_number_by) : DefOk P w K mg base (TB mg) "make_by" 3 1 F_make_by :=
  def_is (N := ["word", "make", "one"]) (ps := ["word"]) (k := 2) fn sc_make_by bu (fun _ _ _ _ _ _ us hl => match us, hl with | [_], _ => rfl) fun f cdv A outer s H E c tk hp =>
    (sm_cons (sA (cTup c (ac (xC c (iSA (mSplit (v 0) (ac kS am_nil))) (blk_mk (own := [("one", 2)]) (by kernel_rfl)) (fun s H C cl fp c => (cgN c)) (fun s H C cl fp c => tms_nil) (fun s H C cl fp c => (cF c takes0 ok_number_by_ (ac (v 2) am_nil)))) am_nil)) (gN c))
    (sm_cons (sm_ret (em_ite (tTr (cF c tk ok_is_make_ (ac (v 1) am_nil))) (v 1) kN))
    sm_nil))
theorem sc_words_of : FnScope ["line", "found", "word"] ["line"] (defScope (topS 15)) := ⟨rfl, rfl, rfl, by decide +kernel, rfl, by decide +kernel, by decide +kernel⟩
theorem ok_words_of (bu : Bu mg) (fn : FunAt K mg "words_of" (topS 15)) : DefOk P w K mg base (TB mg) "words_of" 1 1 F_words_of :=
  def_is (N := ["line", "found", "word"]) (ps := ["line"]) (k := 0) fn sc_words_of bu (fun _ _ _ _ _ _ us hl => match us, hl with | [_], _ => rfl) fun f cdv A outer s H E c tk hp =>
    (sm_cons (sC c (iSA (mSplit (v 0) (ac kS am_nil))) (blk_mk (own := [("word", 2)]) (by kernel_rfl)) (fun s H C cl fp c => (cgN c)) (fun s H C cl fp c => (tms_one (tNe c (v 2) kS))) (fun s H C cl fp c => (v 2)))
    (sm_cons (sm_if (tBo (wm_and (tNe c (v 1) (em_lst am_nil)) (wm_and1 (tEq c (oIx c (oIx c (v 1) kI) kI) kS)))) (sm_cons (sm_ret (em_lst am_nil))
    sm_nil) sm_nil)
    (sm_cons (sm_ret (v 1))
    sm_nil)))
theorem sc_lock_by : FnScope ["text", "yard", "found", "line", "row_words", "make", "one"] ["text", "yard"] (defScope (topS 16)) := ⟨rfl, rfl, rfl, by decide +kernel, rfl, by decide +kernel, by decide +kernel⟩
theorem ok_lock_by (bu : Bu mg) (fn : FunAt K mg "lock_by" (topS 16)) (u : Bu2 mg) (eo_NoLock : ExcK K mg "NoLock") (ok_make_by_ : DefOk P w K mg base (TB mg) "make_by" 3 1 F_make_by) (ok_words_of_ : DefOk P w K mg base (TB mg) "words_of" 1 1 F_words_of) : DefOk P w K mg base (TB mg) "lock_by" 4 2 F_lock_by :=
  def_is (N := ["text", "yard", "found", "line", "row_words", "make", "one"]) (ps := ["text", "yard"]) (k := 3) fn sc_lock_by bu (fun _ _ _ _ _ _ us hl => match us, hl with | [_, _], _ => rfl) fun f cdv A outer s H E c tk hp =>
    (sm_cons (sA em_dct (gN c))
    (sm_cons (sF c hp (iSA (mSplit (v 0) (ac kS am_nil))) (gN c) (sm_cons (sA (cF c tk ok_words_of_ (ac (v 3) am_nil)) (gN c))
    (sm_cons (sm_if (tEq c (v 4) (em_lst am_nil)) (sm_cons sm_cnt
    sm_nil) sm_nil)
    (sm_cons (sm_if (tBo (wm_or (tNe c (cLen c (ac (v 4) am_nil)) kI) (wm_or (tNi c (oIx c (v 4) kI) (cDct c u (ac (v 1) am_nil))) (wm_or1 (tIn c (oIx c (v 4) kI) (v 2)))))) (sm_cons (rRs c tk eo_NoLock)
    sm_nil) sm_nil)
    (sm_cons (sA (cF c tk ok_make_by_ (ac (oIx c (v 4) kI) am_nil)) (gN c))
    (sm_cons (sm_if (tNi c (v 5) (xC c (iSA (oIx c (cDct c u (ac (v 1) am_nil)) (oIx c (v 4) kI))) (blk_mk (own := [("one", 6)]) (by kernel_rfl)) (fun s H C cl fp c => (cgN c)) (fun s H C cl fp c => tms_nil) (fun s H C cl fp c => (oIx c (v 6) kI)))) (sm_cons (rRs c tk eo_NoLock)
    sm_nil) sm_nil)
    (sm_cons (sA (v 5) (gS c (v 2) (oIx c (v 4) kI)))
    sm_nil)))))))
    (sm_cons (sm_ret (cTup c (ac (cSrtI c (v 2)) am_nil)))
    sm_nil)))
theorem sc_law_told : FnScope ["_law_text", "_law_yard_here", "_law_found", "_law_error", "e", "_law_other"] ["_law_text", "_law_yard_here"] (defScope (topS 27)) := ⟨rfl, rfl, rfl, by decide +kernel, rfl, by decide +kernel, by decide +kernel⟩
theorem ok_law_told (bu : Bu mg) (fn : FunAt K mg "_law_told" (topS 27)) (u : Bu2 mg) (ca_WishError : CatchK K mg "WishError" [("NoLock", true)]) (ix_NoChange : IsK K mg "NoChange" [("NoLock", false)]) (ix_NoLock : IsK K mg "NoLock" [("NoLock", true)]) (ix_NoYard : IsK K mg "NoYard" [("NoLock", false)]) (ix_ValueError : IsK K mg "ValueError" [("NoLock", true)]) (ok_lock_by_ : DefOk P w K mg base (TB mg) "lock_by" 4 2 F_lock_by) : DefOk P w K mg base (TB mg) "_law_told" 5 2 F_law_told :=
  def_is (N := ["_law_text", "_law_yard_here", "_law_found", "_law_error", "e", "_law_other"]) (ps := ["_law_text", "_law_yard_here"]) (k := 4) fn sc_law_told bu (fun _ _ _ _ _ _ us hl => match us, hl with | [_, _], _ => rfl) fun f cdv A outer s H E c tk hp =>
    (sm_cons (sA kN (gN c))
    (sm_cons (sA kN (gN c))
    (sm_cons (rTrV c tk ca_WishError (fun W pn xe c tk => (cF c tk ok_lock_by_ (ac (v 0) (ac (v 1) am_nil)))) (fun pn xe c => (gN c)))
    (sm_cons (sm_if (tIs (v 3) kN) (sm_cons (sm_ret (v 2))
    sm_nil) sm_nil)
    (sm_cons (sA (em_or (cIsx u ix_NoYard (v 3)) (em_one (cIsx u ix_NoChange (v 3)))) (gN c))
    (sm_cons (sm_ret (oIx c (em_lst (ac kS (ac kS am_nil))) (cIntA c (ac (em_or (v 5) (em_or (em_notB (cIsx u ix_NoLock (v 3))) (em_one (em_notB (cIsx u ix_ValueError (v 3)))))) am_nil))))
    sm_nil))))))
theorem sc_law_inner : FnScope ["_law_cell", "_law_k", "_law_left", "_law_turn"] ["_law_cell", "_law_k"] (defScope (topS 20)) := ⟨rfl, rfl, rfl, by decide +kernel, rfl, by decide +kernel, by decide +kernel⟩
theorem ok_law_inner (bu : Bu mg) (fn : FunAt K mg "_law_inner" (topS 20)) (ok_law_mixed_ : DefOk P w K mg base (TB mg) "_law_mixed" 1 2 F_law_mixed) : DefOk P w K mg base (TB mg) "_law_inner" 2 2 F_law_inner :=
  def_is (N := ["_law_cell", "_law_k", "_law_left", "_law_turn"]) (ps := ["_law_cell", "_law_k"]) (k := 1) fn sc_law_inner bu (fun _ _ _ _ _ _ us hl => match us, hl with | [_, _], _ => rfl) fun f cdv A outer s H E c tk hp =>
    (sm_cons (sA (cMax c (ac kI (ac (v 0) am_nil))) (gN c))
    (sm_cons (sF c hp (iR c (ac (oMulA (oAdd kI (oMulA kI (v 1))) (cIntA c (ac (oGe c (v 2) (oPow kI kI)) am_nil))) am_nil)) (gN c) (sm_cons (sA (oFdv (v 2) (oPow kI kI)) (gN c))
    sm_nil))
    (sm_cons (sm_ret (em_ite (tGe c (v 2) (oPow kI kI)) (v 2) (cF c tk ok_law_mixed_ (ac (v 0) (ac (oAdd kI (v 1)) am_nil)))))
    sm_nil)))
theorem sc_law_makes : FnScope ["_law_cell", "_law_many", "_law_base", "_law_k", "_law_first"] ["_law_cell", "_law_many"] (defScope (topS 22)) := ⟨rfl, rfl, rfl, by decide +kernel, rfl, by decide +kernel, by decide +kernel⟩
theorem ok_law_makes (bu : Bu mg) (fn : FunAt K mg "_law_makes" (topS 22)) (ok_law_mixed_ : DefOk P w K mg base (TB mg) "_law_mixed" 1 2 F_law_mixed) : DefOk P w K mg base (TB mg) "_law_makes" 2 2 F_law_makes :=
  def_is (N := ["_law_cell", "_law_many", "_law_base", "_law_k", "_law_first"]) (ps := ["_law_cell", "_law_many"]) (k := 1) fn sc_law_makes bu (fun _ _ _ _ _ _ us hl => match us, hl with | [_, _], _ => rfl) fun f cdv A outer s H E c tk hp =>
    (sm_cons (sA (cTup c (ac (xC c (iR c (ac (oMod (cF c tk ok_law_mixed_ (ac (v 0) (ac kI am_nil))) kI) am_nil)) (blk_mk (own := [("_law_k", 3)]) (by kernel_rfl)) (fun s H C cl fp c => (cgN c)) (fun s H C cl fp c => tms_nil) (fun s H C cl fp c => (oMod (oFdv (cF c takes0 ok_law_mixed_ (ac (v 0) (ac (v 3) am_nil))) kI) (oIx c (em_lst (ac kI (ac kI am_nil))) (oMod (v 0) kI))))) am_nil)) (gN c))
    (sm_cons (sA (oMod (cF c tk ok_law_mixed_ (ac (v 0) (ac kI am_nil))) (oIx c (em_lst (ac kI (ac kI am_nil))) (oMod (oFdv (v 0) kI) kI))) (gN c))
    (sm_cons (sm_ret (xC c (iR c (ac (v 1) am_nil)) (blk_mk (own := [("_law_k", 3)]) (by kernel_rfl)) (fun s H C cl fp c => (cgN c)) (fun s H C cl fp c => tms_nil) (fun s H C cl fp c => (oAdd (v 2) (tp (ac (oAdd (v 4) (v 3)) am_nil))))))
    sm_nil)))
theorem sc_law_names : FnScope ["_law_cell", "_law_letters", "_law_head", "_law_k", "_law_first"] ["_law_cell"] (defScope (topS 21)) := ⟨rfl, rfl, rfl, by decide +kernel, rfl, by decide +kernel, by decide +kernel⟩
theorem ok_law_names (bu : Bu mg) (fn : FunAt K mg "_law_names" (topS 21)) (ok_law_mixed_ : DefOk P w K mg base (TB mg) "_law_mixed" 1 2 F_law_mixed) : DefOk P w K mg base (TB mg) "_law_names" 2 1 F_law_names :=
  def_is (N := ["_law_cell", "_law_letters", "_law_head", "_law_k", "_law_first"]) (ps := ["_law_cell"]) (k := 1) fn sc_law_names bu (fun _ _ _ _ _ _ us hl => match us, hl with | [_], _ => rfl) fun f cdv A outer s H E c tk hp =>
    (sm_cons (sA kS (gN c))
    (sm_cons (sA (mJoin kS (ac (xC c (iR c (ac (oMod (cF c tk ok_law_mixed_ (ac (v 0) (ac kI am_nil))) kI) am_nil)) (blk_mk (own := [("_law_k", 3)]) (by kernel_rfl)) (fun s H C cl fp c => (cgN c)) (fun s H C cl fp c => tms_nil) (fun s H C cl fp c => (oIx c (v 1) (oMod (oFdv (cF c takes0 ok_law_mixed_ (ac (v 0) (ac (v 3) am_nil))) kI) kI)))) am_nil)) (gN c))
    (sm_cons (sA (oMod (cF c tk ok_law_mixed_ (ac (v 0) (ac kI am_nil))) kI) (gN c))
    (sm_cons (sm_ret (xC c (iR c (ac kI am_nil)) (blk_mk (own := [("_law_k", 3)]) (by kernel_rfl)) (fun s H C cl fp c => (cgN c)) (fun s H C cl fp c => tms_nil) (fun s H C cl fp c => (oAdd (oAdd (v 2) kS) (oIx c (v 1) (oMod (oAdd (v 4) (oMulA kI (v 3))) kI))))))
    sm_nil))))
theorem sc_law_yard : FnScope ["_law_cell", "_law_many", "_law_names_here", "_law_yard_here", "_law_k", "_law_name", "_law_makes_here", "_law_make"] ["_law_cell", "_law_many"] (defScope (topS 23)) := ⟨rfl, rfl, rfl, by decide +kernel, rfl, by decide +kernel, by decide +kernel⟩
theorem ok_law_yard (bu : Bu mg) (fn : FunAt K mg "_law_yard" (topS 23)) (ok_law_inner_ : DefOk P w K mg base (TB mg) "_law_inner" 2 2 F_law_inner) (ok_law_makes_ : DefOk P w K mg base (TB mg) "_law_makes" 2 2 F_law_makes) (ok_law_mixed_ : DefOk P w K mg base (TB mg) "_law_mixed" 1 2 F_law_mixed) (ok_law_names_ : DefOk P w K mg base (TB mg) "_law_names" 2 1 F_law_names) : DefOk P w K mg base (TB mg) "_law_yard" 3 2 F_law_yard :=
  def_is (N := ["_law_cell", "_law_many", "_law_names_here", "_law_yard_here", "_law_k", "_law_name", "_law_makes_here", "_law_make"]) (ps := ["_law_cell", "_law_many"]) (k := 2) fn sc_law_yard bu (fun _ _ _ _ _ _ us hl => match us, hl with | [_, _], _ => rfl) fun f cdv A outer s H E c tk hp =>
    (sm_cons (sA (cSrt c (ac (em_sl (cF c tk ok_law_names_ (ac (v 0) am_nil)) om_none (om_some (v 1))) am_nil)) (gN c))
    (sm_cons (sA (em_lst am_nil) (gN c))
    (sm_cons (sF c hp (iE c (ac (v 2) am_nil)) (gT c (gs1 (gN c) (gs1 (gN c) gs0))) (sm_cons (sA (cF c tk ok_law_makes_ (ac (cF c tk ok_law_inner_ (ac (v 0) (ac (v 4) am_nil))) (ac (oAdd kI (oMod (cF c tk ok_law_mixed_ (ac (v 0) (ac (oAdd kI (v 4)) am_nil))) kI)) am_nil))) (gN c))
    (sm_cons (sX (mAppend (v 3) (ac (tp (ac (v 5) (ac (cTup c (ac (xC c (iSA (v 6)) (blk_mk (own := [("_law_make", 7)]) (by kernel_rfl)) (fun s H C cl fp c => (cgN c)) (fun s H C cl fp c => tms_nil) (fun s H C cl fp c => (tp (ac (v 7) (ac kB (ac (tp am_nil) am_nil)))))) am_nil)) am_nil))) am_nil)))
    sm_nil)))
    (sm_cons (sm_ret (cTup c (ac (v 3) am_nil)))
    sm_nil))))
theorem sc_law : FnScope ["_law_script", "_law_yard_here", "_law_lock_here", "_law_lines", "_law_name", "_law_make", "_law_number", "_law_k", "_law_cell", "_law_odd", "_law_at", "_law_line", "_law_text", "_law_left", "_law_due", "_law_found"] ["_law_script"] (defScope (topS 29)) := ⟨rfl, rfl, rfl, by decide +kernel, rfl, by decide +kernel, by decide +kernel⟩
theorem walk_law_def (ok_law_cell_at_ : DefOk P w K mg base (TB mg) "_law_cell_at" 1 2 F_law_cell_at) (ok_law_lock_ : DefOk P w K mg base (TB mg) "_law_lock" 2 2 F_law_lock) (ok_law_mixed_ : DefOk P w K mg base (TB mg) "_law_mixed" 1 2 F_law_mixed) (ok_law_odd_row_ : DefOk P w K mg base (TB mg) "_law_odd_row" 1 3 F_law_odd_row) (ok_law_read_ : DefOk P w K mg base (TB mg) "_law_read" 1 2 F_law_read) (ok_law_sign_bent_ : DefOk P w K mg base (TB mg) "_law_sign_bent" 1 2 F_law_sign_bent) (ok_law_told_ : DefOk P w K mg base (TB mg) "_law_told" 5 2 F_law_told) (ok_law_yard_ : DefOk P w K mg base (TB mg) "_law_yard" 3 2 F_law_yard) : ∀ (f : Addr) (cdv : Value) (A : Around) (outer : List Env) (s : Shared) (H : Hp) (E : XK), (CO P w K mg base ["_law_script", "_law_yard_here", "_law_lock_here", "_law_lines", "_law_name", "_law_make", "_law_number", "_law_k", "_law_cell", "_law_odd", "_law_at", "_law_line", "_law_text", "_law_left", "_law_due", "_law_found"] "law" (topS 29) f cdv A outer s H E).A.guards = some [] → Cxt (CO P w K mg base ["_law_script", "_law_yard_here", "_law_lock_here", "_law_lines", "_law_name", "_law_make", "_law_number", "_law_k", "_law_cell", "_law_odd", "_law_at", "_law_line", "_law_text", "_law_left", "_law_due", "_law_found"] "law" (topS 29) f cdv A outer s H E) 5 → Takes (CO P w K mg base ["_law_script", "_law_yard_here", "_law_lock_here", "_law_lines", "_law_name", "_law_make", "_law_number", "_law_k", "_law_cell", "_law_odd", "_law_at", "_law_line", "_law_text", "_law_left", "_law_due", "_law_found"] "law" (topS 29) f cdv A outer s H E) (WC E) →
    PassesOwn (model P w) (CO P w K mg base ["_law_script", "_law_yard_here", "_law_lock_here", "_law_lines", "_law_name", "_law_make", "_law_number", "_law_k", "_law_cell", "_law_odd", "_law_at", "_law_line", "_law_text", "_law_left", "_law_due", "_law_found"] "law" (topS 29) f cdv A outer s H E).A (CO P w K mg base ["_law_script", "_law_yard_here", "_law_lock_here", "_law_lines", "_law_name", "_law_make", "_law_number", "_law_k", "_law_cell", "_law_odd", "_law_at", "_law_line", "_law_text", "_law_left", "_law_due", "_law_found"] "law" (topS 29) f cdv A outer s H E).env (CO P w K mg base ["_law_script", "_law_yard_here", "_law_lock_here", "_law_lines", "_law_name", "_law_make", "_law_number", "_law_k", "_law_cell", "_law_odd", "_law_at", "_law_line", "_law_text", "_law_left", "_law_due", "_law_found"] "law" (topS 29) f cdv A outer s H E).xe → PSsm (CO P w K mg base ["_law_script", "_law_yard_here", "_law_lock_here", "_law_lines", "_law_name", "_law_make", "_law_number", "_law_k", "_law_cell", "_law_odd", "_law_at", "_law_line", "_law_text", "_law_left", "_law_due", "_law_found"] "law" (topS 29) f cdv A outer s H E) (TB mg) E (defBody (topS 29)) B_law := fun f cdv A outer s H E hgu c tk hp =>
    (sm_cons (sA (cF c tk ok_law_yard_ (ac (cF c tk ok_law_cell_at_ (ac (v 0) (ac kI am_nil))) (ac (oAdd kI (oMod (cF c tk ok_law_cell_at_ (ac (v 0) (ac kI am_nil))) kI)) am_nil))) (gN c))
    (sm_cons (sA (cF c tk ok_law_lock_ (ac (cF c tk ok_law_cell_at_ (ac (v 0) (ac kI am_nil))) (ac (v 1) am_nil))) (gN c))
    (sm_cons (sC c (iSA (v 2)) (blk_mk (own := [("_law_name", 4), ("_law_make", 5)]) (by kernel_rfl)) (fun s H C cl fp c => (cgT c (cgs1 (cgN c) (cgs1 (cgN c) cgs0)))) (fun s H C cl fp c => tms_nil) (fun s H C cl fp c => (oAdd (oAdd (v 4) kS) (mJoin kS (ac (xC c (iSA (v 5)) (blk_mk (own := [("_law_number", 6)]) (by kernel_rfl)) (fun s H C cl fp c => (cgN c)) (fun s H C cl fp c => tms_nil) (fun s H C cl fp c => (cStr c (ac (v 6) am_nil)))) am_nil)))))
    (sm_cons (sF c hp (iR c (ac (oAdd kI (oMod (cF c tk ok_law_cell_at_ (ac (v 0) (ac kI am_nil))) kI)) am_nil)) (gN c) (sm_cons (sA (cF c tk ok_law_mixed_ (ac (cF c tk ok_law_cell_at_ (ac (v 0) (ac (oAdd kI (v 7)) am_nil))) (ac kI am_nil))) (gN c))
    (sm_cons (sA (cF c tk ok_law_odd_row_ (ac (v 8) (ac (v 1) (ac (v 2) am_nil)))) (gN c))
    (sm_cons (sm_if (tEq c (oMod (oFdv (v 8) kI) kI) kI) (sm_cons (sC c (iSA (v 3)) (blk_mk (own := [("_law_line", 11)]) (by kernel_rfl)) (fun s H C cl fp c => (cgN c)) (fun s H C cl fp c => (tms_one (tNe c (oIx c (mSplit (v 11) (ac kS am_nil)) kI) (oIx c (mSplit (v 9) (ac kS am_nil)) kI)))) (fun s H C cl fp c => (v 11)))
    sm_nil) sm_nil)
    (sm_cons (sA (oMod (oFdv (v 8) kI) (oAdd (cLen c (ac (v 3) am_nil)) kI)) (gN c))
    (sm_cons (sA (oAdd (oAdd (em_sl (v 3) om_none (om_some (v 10))) (em_lst (ac (v 9) am_nil))) (em_sl (v 3) (om_some (oAdd (v 10) (oMod (oFdv (v 8) kI) kI))) om_none)) (gN c))
    sm_nil))))))
    (sm_cons (sA (oAdd (mJoin kS (ac (v 3) am_nil)) kS) (gN c))
    (sm_cons (sA (cF c tk ok_law_mixed_ (ac (cF c tk ok_law_cell_at_ (ac (v 0) (ac kI am_nil))) (ac kI am_nil))) (gN c))
    (sm_cons (sm_if (tGt c (oMod (v 8) kI) kI) (sm_cons (sA (oAdd (em_sl (v 3) om_none (om_some (v 10))) (em_sl (v 3) (om_some (oAdd (v 10) kI)) om_none)) (gN c))
    (sm_cons (sA (cF c tk ok_law_sign_bent_ (ac (oAdd (mJoin kS (ac (v 13) am_nil)) (oMulA kS (oMod (v 8) kI))) (ac (v 8) am_nil))) (gN c))
    sm_nil)) sm_nil)
    (sm_cons (sA (cF c tk ok_law_read_ (ac (mSplit (v 12) (ac kS am_nil)) (ac (v 1) am_nil))) (gN c))
    (sm_cons (sA (cF c tk ok_law_told_ (ac (v 12) (ac (v 1) am_nil))) (gN c))
    (sm_cons (sm_if (tIs (v 14) kN) (sm_cons (sm_ret (oEq c (v 15) kS))
    sm_nil) sm_nil)
    (sm_cons (sm_ret (oEq c (cRpr c hgu (ac (v 15) am_nil)) (cRpr c hgu (ac (v 14) am_nil))))
    sm_nil)))))))))))
end
end Wy

set_option Elab.async false
set_option linter.all false
set_option maxRecDepth 100000
set_option maxHeartbeats 4000000
namespace Wy
open PySem PySem.Spec PyProof.Rows L2
theorem all_mk {P : Program} {w : World} {K : PySem.W.Frag} {h : Heap} {mg : Str → Option Value} {fa : Addr} (X : K.In h) (G : h.Ns mainGlobals mg) (hfa : mg "law" = some (.ref fa))
    {f0 f1 f2 f3 f4 f5 f6 f7 f8 f9 f10 f11 f12 f13 f14 f15 f16 f17 : Addr} {od0 od1 od2 od3 od4 od5 od6 od7 od8 od9 od10 od11 od12 od13 od14 od15 od16 od17 an0 an1 an2 an3 an4 an5 an6 an7 an8 an9 an10 an11 an12 an13 an14 an15 an16 an17 : Option Addr} {sl0 sl1 sl2 sl3 sl4 sl5 sl6 sl7 sl8 sl9 sl10 sl11 sl12 sl13 sl14 sl15 sl16 sl17 : Array (Option Value)} {oc0 oc1 oc2 oc3 oc4 oc5 oc6 oc7 oc8 oc9 oc10 oc11 oc12 oc13 oc14 oc15 oc16 oc17 kV0 kV1 kV2 kV3 kV4 kV5 kV6 kV7 kV8 kV9 kV10 kV11 kV12 kV13 kV14 kV15 kV16 kV17 dc0 dc1 dc2 dc3 dc4 dc5 dc6 dc7 dc8 dc9 dc10 dc11 dc12 dc13 dc14 dc15 dc16 dc17 pm0 pm1 pm2 pm3 pm4 pm5 pm6 pm7 pm8 pm9 pm10 pm11 pm12 pm13 pm14 pm15 pm16 pm17 cd0 cd1 cd2 cd3 cd4 cd5 cd6 cd7 cd8 cd9 cd10 cd11 cd12 cd13 cd14 cd15 cd16 cd17 ct0 ct1 ct2 ct3 ct4 ct5 ct6 ct7 ct8 ct9 ct10 ct11 ct12 ct13 ct14 ct15 ct16 ct17 : Value}
    {gt_FIGURES gt_LONGEST gt_MOST_NUMBER gt_MOST_NUMBERS : Tok}
    {C_NoChange C_NoLock C_NoYard C_WishError : Addr}
    (a0 : PySem.W.nsIn K mainGlobals "_law_cell_at" = some (some (.ref f0))) (l0 : K.lookup f0 = some ⟨oc0, od0, .func (PySem.W.fnOf "_law_cell_at" "_law_cell_at" (defArgs (topS 18)) (defBody (topS 18)) (defScope (topS 18)) .none kV0 dc0 pm0 an0 cd0 ct0), sl0⟩) (c0 : PySem.W.codeIn K cd0 "_law_cell_at" = true) (k0 : PySem.W.keepIn K (.ref f0) = true)
    (a1 : PySem.W.nsIn K mainGlobals "_law_mixed" = some (some (.ref f1))) (l1 : K.lookup f1 = some ⟨oc1, od1, .func (PySem.W.fnOf "_law_mixed" "_law_mixed" (defArgs (topS 19)) (defBody (topS 19)) (defScope (topS 19)) .none kV1 dc1 pm1 an1 cd1 ct1), sl1⟩) (c1 : PySem.W.codeIn K cd1 "_law_mixed" = true) (k1 : PySem.W.keepIn K (.ref f1) = true)
    (a2 : PySem.W.nsIn K mainGlobals "_law_lock" = some (some (.ref f2))) (l2 : K.lookup f2 = some ⟨oc2, od2, .func (PySem.W.fnOf "_law_lock" "_law_lock" (defArgs (topS 24)) (defBody (topS 24)) (defScope (topS 24)) .none kV2 dc2 pm2 an2 cd2 ct2), sl2⟩) (c2 : PySem.W.codeIn K cd2 "_law_lock" = true) (k2 : PySem.W.keepIn K (.ref f2) = true)
    (a3 : PySem.W.nsIn K mainGlobals "_law_odd_row" = some (some (.ref f3))) (l3 : K.lookup f3 = some ⟨oc3, od3, .func (PySem.W.fnOf "_law_odd_row" "_law_odd_row" (defArgs (topS 25)) (defBody (topS 25)) (defScope (topS 25)) .none kV3 dc3 pm3 an3 cd3 ct3), sl3⟩) (c3 : PySem.W.codeIn K cd3 "_law_odd_row" = true) (k3 : PySem.W.keepIn K (.ref f3) = true)
    (a4 : PySem.W.nsIn K mainGlobals "_law_read" = some (some (.ref f4))) (l4 : K.lookup f4 = some ⟨oc4, od4, .func (PySem.W.fnOf "_law_read" "_law_read" (defArgs (topS 26)) (defBody (topS 26)) (defScope (topS 26)) .none kV4 dc4 pm4 an4 cd4 ct4), sl4⟩) (c4 : PySem.W.codeIn K cd4 "_law_read" = true) (k4 : PySem.W.keepIn K (.ref f4) = true)
    (a5 : PySem.W.nsIn K mainGlobals "_law_sign_bent" = some (some (.ref f5))) (l5 : K.lookup f5 = some ⟨oc5, od5, .func (PySem.W.fnOf "_law_sign_bent" "_law_sign_bent" (defArgs (topS 28)) (defBody (topS 28)) (defScope (topS 28)) .none kV5 dc5 pm5 an5 cd5 ct5), sl5⟩) (c5 : PySem.W.codeIn K cd5 "_law_sign_bent" = true) (k5 : PySem.W.keepIn K (.ref f5) = true)
    (a6 : PySem.W.nsIn K mainGlobals "is_number" = some (some (.ref f6))) (l6 : K.lookup f6 = some ⟨oc6, od6, .func (PySem.W.fnOf "is_number" "is_number" (defArgs (topS 5)) (defBody (topS 5)) (defScope (topS 5)) .none kV6 dc6 pm6 an6 cd6 ct6), sl6⟩) (c6 : PySem.W.codeIn K cd6 "is_number" = true) (k6 : PySem.W.keepIn K (.ref f6) = true)
    (a7 : PySem.W.nsIn K mainGlobals "is_make" = some (some (.ref f7))) (l7 : K.lookup f7 = some ⟨oc7, od7, .func (PySem.W.fnOf "is_make" "is_make" (defArgs (topS 6)) (defBody (topS 6)) (defScope (topS 6)) .none kV7 dc7 pm7 an7 cd7 ct7), sl7⟩) (c7 : PySem.W.codeIn K cd7 "is_make" = true) (k7 : PySem.W.keepIn K (.ref f7) = true)
    (a8 : PySem.W.nsIn K mainGlobals "number_by" = some (some (.ref f8))) (l8 : K.lookup f8 = some ⟨oc8, od8, .func (PySem.W.fnOf "number_by" "number_by" (defArgs (topS 7)) (defBody (topS 7)) (defScope (topS 7)) .none kV8 dc8 pm8 an8 cd8 ct8), sl8⟩) (c8 : PySem.W.codeIn K cd8 "number_by" = true) (k8 : PySem.W.keepIn K (.ref f8) = true)
    (a9 : PySem.W.nsIn K mainGlobals "make_by" = some (some (.ref f9))) (l9 : K.lookup f9 = some ⟨oc9, od9, .func (PySem.W.fnOf "make_by" "make_by" (defArgs (topS 8)) (defBody (topS 8)) (defScope (topS 8)) .none kV9 dc9 pm9 an9 cd9 ct9), sl9⟩) (c9 : PySem.W.codeIn K cd9 "make_by" = true) (k9 : PySem.W.keepIn K (.ref f9) = true)
    (a10 : PySem.W.nsIn K mainGlobals "words_of" = some (some (.ref f10))) (l10 : K.lookup f10 = some ⟨oc10, od10, .func (PySem.W.fnOf "words_of" "words_of" (defArgs (topS 15)) (defBody (topS 15)) (defScope (topS 15)) .none kV10 dc10 pm10 an10 cd10 ct10), sl10⟩) (c10 : PySem.W.codeIn K cd10 "words_of" = true) (k10 : PySem.W.keepIn K (.ref f10) = true)
    (a11 : PySem.W.nsIn K mainGlobals "lock_by" = some (some (.ref f11))) (l11 : K.lookup f11 = some ⟨oc11, od11, .func (PySem.W.fnOf "lock_by" "lock_by" (defArgs (topS 16)) (defBody (topS 16)) (defScope (topS 16)) .none kV11 dc11 pm11 an11 cd11 ct11), sl11⟩) (c11 : PySem.W.codeIn K cd11 "lock_by" = true) (k11 : PySem.W.keepIn K (.ref f11) = true)
    (a12 : PySem.W.nsIn K mainGlobals "_law_told" = some (some (.ref f12))) (l12 : K.lookup f12 = some ⟨oc12, od12, .func (PySem.W.fnOf "_law_told" "_law_told" (defArgs (topS 27)) (defBody (topS 27)) (defScope (topS 27)) .none kV12 dc12 pm12 an12 cd12 ct12), sl12⟩) (c12 : PySem.W.codeIn K cd12 "_law_told" = true) (k12 : PySem.W.keepIn K (.ref f12) = true)
    (a13 : PySem.W.nsIn K mainGlobals "_law_inner" = some (some (.ref f13))) (l13 : K.lookup f13 = some ⟨oc13, od13, .func (PySem.W.fnOf "_law_inner" "_law_inner" (defArgs (topS 20)) (defBody (topS 20)) (defScope (topS 20)) .none kV13 dc13 pm13 an13 cd13 ct13), sl13⟩) (c13 : PySem.W.codeIn K cd13 "_law_inner" = true) (k13 : PySem.W.keepIn K (.ref f13) = true)
    (a14 : PySem.W.nsIn K mainGlobals "_law_makes" = some (some (.ref f14))) (l14 : K.lookup f14 = some ⟨oc14, od14, .func (PySem.W.fnOf "_law_makes" "_law_makes" (defArgs (topS 22)) (defBody (topS 22)) (defScope (topS 22)) .none kV14 dc14 pm14 an14 cd14 ct14), sl14⟩) (c14 : PySem.W.codeIn K cd14 "_law_makes" = true) (k14 : PySem.W.keepIn K (.ref f14) = true)
    (a15 : PySem.W.nsIn K mainGlobals "_law_names" = some (some (.ref f15))) (l15 : K.lookup f15 = some ⟨oc15, od15, .func (PySem.W.fnOf "_law_names" "_law_names" (defArgs (topS 21)) (defBody (topS 21)) (defScope (topS 21)) .none kV15 dc15 pm15 an15 cd15 ct15), sl15⟩) (c15 : PySem.W.codeIn K cd15 "_law_names" = true) (k15 : PySem.W.keepIn K (.ref f15) = true)
    (a16 : PySem.W.nsIn K mainGlobals "_law_yard" = some (some (.ref f16))) (l16 : K.lookup f16 = some ⟨oc16, od16, .func (PySem.W.fnOf "_law_yard" "_law_yard" (defArgs (topS 23)) (defBody (topS 23)) (defScope (topS 23)) .none kV16 dc16 pm16 an16 cd16 ct16), sl16⟩) (c16 : PySem.W.codeIn K cd16 "_law_yard" = true) (k16 : PySem.W.keepIn K (.ref f16) = true)
    (a17 : PySem.W.nsIn K mainGlobals "law" = some (some (.ref f17))) (l17 : K.lookup f17 = some ⟨oc17, od17, .func (PySem.W.fnOf "law" "law" (defArgs (topS 29)) (defBody (topS 29)) (defScope (topS 29)) .none kV17 dc17 pm17 an17 cd17 ct17), sl17⟩) (c17 : PySem.W.codeIn K cd17 "law" = true) (k17 : PySem.W.keepIn K (.ref f17) = true)
    (g_FIGURES : PySem.W.nsIn K mainGlobals "FIGURES" = some (some (.str "0123456789" gt_FIGURES)))
    (g_LONGEST : PySem.W.nsIn K mainGlobals "LONGEST" = some (some (.int 4 gt_LONGEST)))
    (g_MOST_NUMBER : PySem.W.nsIn K mainGlobals "MOST_NUMBER" = some (some (.int 9999 gt_MOST_NUMBER)))
    (g_MOST_NUMBERS : PySem.W.nsIn K mainGlobals "MOST_NUMBERS" = some (some (.int 4 gt_MOST_NUMBERS)))
    (cg_NoChange : PySem.W.nsIn K mainGlobals "NoChange" = some (some (.ref C_NoChange)))
    (cg_NoLock : PySem.W.nsIn K mainGlobals "NoLock" = some (some (.ref C_NoLock)))
    (cg_NoYard : PySem.W.nsIn K mainGlobals "NoYard" = some (some (.ref C_NoYard)))
    (cg_WishError : PySem.W.nsIn K mainGlobals "WishError" = some (some (.ref C_WishError)))
    (xe_NoLock : PySem.W.excIn K C_NoLock [.type "ValueError", .type "Exception", .type "BaseException", .type "object"] "ValueError.__new__" = true) (ke_NoLock : PySem.W.keepIn K (.ref C_NoLock) = true) (be_NoLock : PySem.W.subIn K (.ref C_NoLock) (.type "BaseException") = some true) (te_NoLock : PySem.W.typeIn K (.ref C_NoLock) = some (.type "type"))
    (bk_WishError : PySem.W.subIn K (.ref C_WishError) (.type "BaseException") = some true) (ik_WishError : PySem.W.isClsIn K C_WishError = true) (tk_WishError : PySem.W.typeIn K (.ref C_WishError) = some (.type "type"))
    (m_WishError_NoLock : PySem.W.subIn K (.ref C_NoLock) (.ref C_WishError) = some true)
    (xa_NoLock : PySem.W.findIn K (.ref C_NoLock) "__getattribute__" = some (some (.builtin "BaseException.__getattribute__"))) (xb_NoLock : PySem.W.findIn K (.ref C_NoLock) "__getattr__" = some none) (xc_NoLock : PySem.W.subIn K (.ref C_NoLock) (.type "BaseException") = some true) (xd_NoLock : PySem.W.hasDictIn K C_NoLock = true) (xf_NoLock : PySem.W.findIn K (.ref C_NoLock) "__class__" = some (some (.builtin "object.__class__"))) (xg_NoLock : PySem.W.mroIn K C_NoLock (.type "object") = some true)
    (xh : PySem.W.specialIn K (.builtin "object.__class__") "__get__" = some (some (.builtin "getset_descriptor.__get__"))) (xi : PySem.W.takesIn K (.builtin "object.__class__") = some true)
    (yi_NoChange : PySem.W.isClsIn K C_NoChange = true) (yt_NoChange : PySem.W.typeIn K (.ref C_NoChange) = some (.type "type"))
    (yk_NoChange_NoLock : PySem.W.subIn K (.ref C_NoLock) (.ref C_NoChange) = some false)
    (yi_NoLock : PySem.W.isClsIn K C_NoLock = true) (yt_NoLock : PySem.W.typeIn K (.ref C_NoLock) = some (.type "type"))
    (yk_NoLock_NoLock : PySem.W.subIn K (.ref C_NoLock) (.ref C_NoLock) = some true)
    (yi_NoYard : PySem.W.isClsIn K C_NoYard = true) (yt_NoYard : PySem.W.typeIn K (.ref C_NoYard) = some (.type "type"))
    (yk_NoYard_NoLock : PySem.W.subIn K (.ref C_NoLock) (.ref C_NoYard) = some false)
    (yn_ValueError : PySem.W.nsIn K mainGlobals "ValueError" = some none)
    (yk_ValueError_NoLock : PySem.W.subIn K (.ref C_NoLock) (.type "ValueError") = some true)
    (ys_NoLock : PySem.W.subIn K (.ref C_NoLock) (.ref C_NoLock) = some true)
    (z0 : PySem.W.nsIn K mainGlobals "len" = some none)
    (z1 : PySem.W.nsIn K mainGlobals "tuple" = some none)
    (z2 : PySem.W.nsIn K mainGlobals "list" = some none)
    (z3 : PySem.W.nsIn K mainGlobals "min" = some none)
    (z4 : PySem.W.nsIn K mainGlobals "max" = some none)
    (z5 : PySem.W.nsIn K mainGlobals "int" = some none)
    (z6 : PySem.W.nsIn K mainGlobals "str" = some none)
    (z7 : PySem.W.nsIn K mainGlobals "repr" = some none)
    (z8 : PySem.W.nsIn K mainGlobals "sorted" = some none)
    (z9 : PySem.W.nsIn K mainGlobals "enumerate" = some none)
    (z10 : PySem.W.nsIn K mainGlobals "range" = some none)
    (y0 : PySem.W.nsIn K mainGlobals "all" = some none)
    (y1 : PySem.W.nsIn K mainGlobals "any" = some none)
    (y2 : PySem.W.nsIn K mainGlobals "dict" = some none)
    (y3 : PySem.W.nsIn K mainGlobals "isinstance" = some none)
    (y4 : PySem.W.nsIn K mainGlobals "bool" = some none)
    (y5 : PySem.W.nsIn K mainGlobals "set" = some none)
    (y6 : PySem.W.nsIn K mainGlobals "sum" = some none)
    (y7 : PySem.W.nsIn K mainGlobals "abs" = some none) :
    ∃ (fd : FuncData) (T : Tb), Fun K "law" "law" (topS 29) fa fd ∧ Bu mg ∧ (∀ (s : Shared) (u : Value), BindsTo s fd ⟨[u], []⟩ [("_law_script", u)]) ∧
      ∀ base : Heap, K.In base → base.Ns mainGlobals mg → ∀ (cdv : Value) (A : Around) (outer : List Env) (s : Shared) (H : Hp) (E : XK), (CO P w K mg base ["_law_script", "_law_yard_here", "_law_lock_here", "_law_lines", "_law_name", "_law_make", "_law_number", "_law_k", "_law_cell", "_law_odd", "_law_at", "_law_line", "_law_text", "_law_left", "_law_due", "_law_found"] "law" (topS 29) fa cdv A outer s H E).A.guards = some [] → Cxt (CO P w K mg base ["_law_script", "_law_yard_here", "_law_lock_here", "_law_lines", "_law_name", "_law_make", "_law_number", "_law_k", "_law_cell", "_law_odd", "_law_at", "_law_line", "_law_text", "_law_left", "_law_due", "_law_found"] "law" (topS 29) fa cdv A outer s H E) 5 → Takes (CO P w K mg base ["_law_script", "_law_yard_here", "_law_lock_here", "_law_lines", "_law_name", "_law_make", "_law_number", "_law_k", "_law_cell", "_law_odd", "_law_at", "_law_line", "_law_text", "_law_left", "_law_due", "_law_found"] "law" (topS 29) fa cdv A outer s H E) (WC E) → PassesOwn (model P w) (CO P w K mg base ["_law_script", "_law_yard_here", "_law_lock_here", "_law_lines", "_law_name", "_law_make", "_law_number", "_law_k", "_law_cell", "_law_odd", "_law_at", "_law_line", "_law_text", "_law_left", "_law_due", "_law_found"] "law" (topS 29) fa cdv A outer s H E).A (CO P w K mg base ["_law_script", "_law_yard_here", "_law_lock_here", "_law_lines", "_law_name", "_law_make", "_law_number", "_law_k", "_law_cell", "_law_odd", "_law_at", "_law_line", "_law_text", "_law_left", "_law_due", "_law_found"] "law" (topS 29) fa cdv A outer s H E).env (CO P w K mg base ["_law_script", "_law_yard_here", "_law_lock_here", "_law_lines", "_law_name", "_law_make", "_law_number", "_law_k", "_law_cell", "_law_odd", "_law_at", "_law_line", "_law_text", "_law_left", "_law_due", "_law_found"] "law" (topS 29) fa cdv A outer s H E).xe → PSsm (CO P w K mg base ["_law_script", "_law_yard_here", "_law_lock_here", "_law_lines", "_law_name", "_law_make", "_law_number", "_law_k", "_law_cell", "_law_odd", "_law_at", "_law_line", "_law_text", "_law_left", "_law_due", "_law_found"] "law" (topS 29) fa cdv A outer s H E) T E (defBody (topS 29)) B_law := by
  have e := hfa.symm.trans (PySem.W.mg_of X G a17)
  cases e
  have F0 := fun_mk (st := topS 18) l0 c0 k0
  have F1 := fun_mk (st := topS 19) l1 c1 k1
  have F2 := fun_mk (st := topS 24) l2 c2 k2
  have F3 := fun_mk (st := topS 25) l3 c3 k3
  have F4 := fun_mk (st := topS 26) l4 c4 k4
  have F5 := fun_mk (st := topS 28) l5 c5 k5
  have F6 := fun_mk (st := topS 5) l6 c6 k6
  have F7 := fun_mk (st := topS 6) l7 c7 k7
  have F8 := fun_mk (st := topS 7) l8 c8 k8
  have F9 := fun_mk (st := topS 8) l9 c9 k9
  have F10 := fun_mk (st := topS 15) l10 c10 k10
  have F11 := fun_mk (st := topS 16) l11 c11 k11
  have F12 := fun_mk (st := topS 27) l12 c12 k12
  have F13 := fun_mk (st := topS 20) l13 c13 k13
  have F14 := fun_mk (st := topS 22) l14 c14 k14
  have F15 := fun_mk (st := topS 21) l15 c15 k15
  have F16 := fun_mk (st := topS 23) l16 c16 k16
  have F17 := fun_mk (st := topS 29) l17 c17 k17
  have bu : Bu mg := ⟨PySem.W.mg_none_of X G z0, PySem.W.mg_none_of X G z1, PySem.W.mg_none_of X G z2, PySem.W.mg_none_of X G z3, PySem.W.mg_none_of X G z4, PySem.W.mg_none_of X G z5, PySem.W.mg_none_of X G z6, PySem.W.mg_none_of X G z7, PySem.W.mg_none_of X G z8, PySem.W.mg_none_of X G z9, PySem.W.mg_none_of X G z10⟩
  have u : Bu2 mg := ⟨PySem.W.mg_none_of X G y0, PySem.W.mg_none_of X G y1, PySem.W.mg_none_of X G y2, PySem.W.mg_none_of X G y3, PySem.W.mg_none_of X G y4, PySem.W.mg_none_of X G y5, PySem.W.mg_none_of X G y6, PySem.W.mg_none_of X G y7⟩
  have gc_FIGURES : ∃ t, mg "FIGURES" = some (.str "0123456789" t) := ⟨_, PySem.W.mg_of X G g_FIGURES⟩
  have gc_LONGEST : ∃ t, mg "LONGEST" = some (.int 4 t) := ⟨_, PySem.W.mg_of X G g_LONGEST⟩
  have gc_MOST_NUMBER : ∃ t, mg "MOST_NUMBER" = some (.int 9999 t) := ⟨_, PySem.W.mg_of X G g_MOST_NUMBER⟩
  have gc_MOST_NUMBERS : ∃ t, mg "MOST_NUMBERS" = some (.int 4 t) := ⟨_, PySem.W.mg_of X G g_MOST_NUMBERS⟩
  have mc_NoChange := PySem.W.mg_of X G cg_NoChange
  have mc_NoLock := PySem.W.mg_of X G cg_NoLock
  have mc_NoYard := PySem.W.mg_of X G cg_NoYard
  have mc_WishError := PySem.W.mg_of X G cg_WishError
  have eo_NoLock : ExcK K mg "NoLock" := excK_ve mc_NoLock xe_NoLock ke_NoLock be_NoLock te_NoLock
  have ca_WishError : CatchK K mg "WishError" [("NoLock", true)] := ⟨_, mc_WishError, fun p hp cls hc => by
    simp only [List.mem_cons, List.not_mem_nil, or_false] at hp
    subst hp; rw [mc_NoLock] at hc; cases hc; exact exm_of bk_WishError ik_WishError tk_WishError m_WishError_NoLock⟩
  have ix_NoChange : IsK K mg "NoChange" [("NoLock", false)] := ⟨⟨.ref C_NoChange, .inl mc_NoChange, .inl ⟨_, rfl⟩, fun p hp => by
    simp only [List.mem_cons, List.not_mem_nil, or_false] at hp
    subst hp
    · exact ⟨C_NoLock, mc_NoLock, ⟨xa_NoLock, xb_NoLock, xc_NoLock, xd_NoLock, xf_NoLock, xh, xi, xg_NoLock⟩, kit_ref ys_NoLock yi_NoChange yt_NoChange yk_NoChange_NoLock⟩⟩⟩
  have ix_NoLock : IsK K mg "NoLock" [("NoLock", true)] := ⟨⟨.ref C_NoLock, .inl mc_NoLock, .inl ⟨_, rfl⟩, fun p hp => by
    simp only [List.mem_cons, List.not_mem_nil, or_false] at hp
    subst hp
    · exact ⟨C_NoLock, mc_NoLock, ⟨xa_NoLock, xb_NoLock, xc_NoLock, xd_NoLock, xf_NoLock, xh, xi, xg_NoLock⟩, kit_ref ys_NoLock yi_NoLock yt_NoLock yk_NoLock_NoLock⟩⟩⟩
  have ix_NoYard : IsK K mg "NoYard" [("NoLock", false)] := ⟨⟨.ref C_NoYard, .inl mc_NoYard, .inl ⟨_, rfl⟩, fun p hp => by
    simp only [List.mem_cons, List.not_mem_nil, or_false] at hp
    subst hp
    · exact ⟨C_NoLock, mc_NoLock, ⟨xa_NoLock, xb_NoLock, xc_NoLock, xd_NoLock, xf_NoLock, xh, xi, xg_NoLock⟩, kit_ref ys_NoLock yi_NoYard yt_NoYard yk_NoYard_NoLock⟩⟩⟩
  have ix_ValueError : IsK K mg "ValueError" [("NoLock", true)] := ⟨⟨.type "ValueError", .inr ⟨PySem.W.mg_none_of X G yn_ValueError, rfl, by decide⟩, .inr ⟨_, rfl⟩, fun p hp => by
    simp only [List.mem_cons, List.not_mem_nil, or_false] at hp
    subst hp
    · exact ⟨C_NoLock, mc_NoLock, ⟨xa_NoLock, xb_NoLock, xc_NoLock, xd_NoLock, xf_NoLock, xh, xi, xg_NoLock⟩, kit_type (by decide +kernel) yk_ValueError_NoLock⟩⟩⟩
  refine ⟨_, TB mg, F17, bu, fun s v => .of_eq rfl, fun base _ _ cdv A outer s H E hgu c tk hp => ?_⟩
  have d0 := ok_law_cell_at (P := P) (w := w) (base := base) bu ⟨_, _, PySem.W.mg_of X G a0, F0⟩
  have d1 := ok_law_mixed (P := P) (w := w) (base := base) bu ⟨_, _, PySem.W.mg_of X G a1, F1⟩
  have d2 := ok_law_lock (P := P) (w := w) (base := base) bu ⟨_, _, PySem.W.mg_of X G a2, F2⟩ d1
  have d3 := ok_law_odd_row (P := P) (w := w) (base := base) bu ⟨_, _, PySem.W.mg_of X G a3, F3⟩
  have d4 := ok_law_read (P := P) (w := w) (base := base) bu ⟨_, _, PySem.W.mg_of X G a4, F4⟩
  have d5 := ok_law_sign_bent (P := P) (w := w) (base := base) bu ⟨_, _, PySem.W.mg_of X G a5, F5⟩
  have d6 := ok_is_number (P := P) (w := w) (base := base) bu ⟨_, _, PySem.W.mg_of X G a6, F6⟩ u gc_MOST_NUMBER
  have d7 := ok_is_make (P := P) (w := w) (base := base) bu ⟨_, _, PySem.W.mg_of X G a7, F7⟩ u gc_MOST_NUMBERS d6
  have d8 := ok_number_by (P := P) (w := w) (base := base) bu ⟨_, _, PySem.W.mg_of X G a8, F8⟩ u gc_FIGURES gc_LONGEST
  have d9 := ok_make_by (P := P) (w := w) (base := base) bu ⟨_, _, PySem.W.mg_of X G a9, F9⟩ d7 d8
  have d10 := ok_words_of (P := P) (w := w) (base := base) bu ⟨_, _, PySem.W.mg_of X G a10, F10⟩
  have d11 := ok_lock_by (P := P) (w := w) (base := base) bu ⟨_, _, PySem.W.mg_of X G a11, F11⟩ u eo_NoLock d9 d10
  have d12 := ok_law_told (P := P) (w := w) (base := base) bu ⟨_, _, PySem.W.mg_of X G a12, F12⟩ u ca_WishError ix_NoChange ix_NoLock ix_NoYard ix_ValueError d11
  have d13 := ok_law_inner (P := P) (w := w) (base := base) bu ⟨_, _, PySem.W.mg_of X G a13, F13⟩ d1
  have d14 := ok_law_makes (P := P) (w := w) (base := base) bu ⟨_, _, PySem.W.mg_of X G a14, F14⟩ d1
  have d15 := ok_law_names (P := P) (w := w) (base := base) bu ⟨_, _, PySem.W.mg_of X G a15, F15⟩ d1
  have d16 := ok_law_yard (P := P) (w := w) (base := base) bu ⟨_, _, PySem.W.mg_of X G a16, F16⟩ d13 d14 d1 d15
  exact walk_law_def d0 d2 d1 d3 d4 d5 d12 d16 fa cdv A outer s H E hgu c tk hp
end Wy
open PySem PySem.W PyProof.Rows
set_option maxHeartbeats 0 in
theorem PySem.Challenge.cw_wishyard_k50_lock_texts_refused_holds : PySem.Challenge.rw_wishyard_k50_lock_texts_refused.Holds := by
  w_on; o_law; k_head; (case hw => w_witness2)
  k_fill
  refine Wy.walk_law (l := PySem.Challenge.rw_wishyard_k50_lock_texts_refused) (n := 63) (k := 5) (x := "_law_script") (lw := "law") (st := Wy.topS 29) (N := ["_law_script", "_law_yard_here", "_law_lock_here", "_law_lines", "_law_name", "_law_make", "_law_number", "_law_k", "_law_cell", "_law_odd", "_law_at", "_law_line", "_law_text", "_law_left", "_law_due", "_law_found"]) (m := Wy.B_law) rfl (by decide) rfl ⟨rfl, by decide, by decide⟩ (fun w h Y => PySem.W.kIn_of Y) Wy.sc_law ?F Wy.plain_k50
  case F =>
    intro w mg fa h KX G hmg
    refine' Wy.all_mk KX G hmg ?a0 ?l0 ?c0 ?k0 ?a1 ?l1 ?c1 ?k1 ?a2 ?l2 ?c2 ?k2 ?a3 ?l3 ?c3 ?k3 ?a4 ?l4 ?c4 ?k4 ?a5 ?l5 ?c5 ?k5 ?a6 ?l6 ?c6 ?k6 ?a7 ?l7 ?c7 ?k7 ?a8 ?l8 ?c8 ?k8 ?a9 ?l9 ?c9 ?k9 ?a10 ?l10 ?c10 ?k10 ?a11 ?l11 ?c11 ?k11 ?a12 ?l12 ?c12 ?k12 ?a13 ?l13 ?c13 ?k13 ?a14 ?l14 ?c14 ?k14 ?a15 ?l15 ?c15 ?k15 ?a16 ?l16 ?c16 ?k16 ?a17 ?l17 ?c17 ?k17 ?g_FIGURES ?g_LONGEST ?g_MOST_NUMBER ?g_MOST_NUMBERS ?cg_NoChange ?cg_NoLock ?cg_NoYard ?cg_WishError ?xe_NoLock ?ke_NoLock ?be_NoLock ?te_NoLock ?bk_WishError ?ik_WishError ?tk_WishError ?m_WishError_NoLock ?xa_NoLock ?xb_NoLock ?xc_NoLock ?xd_NoLock ?xf_NoLock ?xg_NoLock ?xh ?xi ?yi_NoChange ?yt_NoChange ?yk_NoChange_NoLock ?yi_NoLock ?yt_NoLock ?yk_NoLock_NoLock ?yi_NoYard ?yt_NoYard ?yk_NoYard_NoLock ?yn_ValueError ?yk_ValueError_NoLock ?ys_NoLock ?z0 ?z1 ?z2 ?z3 ?z4 ?z5 ?z6 ?z7 ?z8 ?z9 ?z10 ?y0 ?y1 ?y2 ?y3 ?y4 ?y5 ?y6 ?y7
    (case a0 => k_is); (case l0 => k_is); (case c0 => k_is); (case k0 => k_is); (case a1 => k_is); (case l1 => k_is); (case c1 => k_is); (case k1 => k_is); (case a2 => k_is); (case l2 => k_is); (case c2 => k_is); (case k2 => k_is); (case a3 => k_is); (case l3 => k_is); (case c3 => k_is); (case k3 => k_is); (case a4 => k_is); (case l4 => k_is); (case c4 => k_is); (case k4 => k_is); (case a5 => k_is); (case l5 => k_is); (case c5 => k_is); (case k5 => k_is); (case a6 => k_is); (case l6 => k_is); (case c6 => k_is); (case k6 => k_is); (case a7 => k_is); (case l7 => k_is); (case c7 => k_is); (case k7 => k_is); (case a8 => k_is); (case l8 => k_is); (case c8 => k_is); (case k8 => k_is); (case a9 => k_is); (case l9 => k_is); (case c9 => k_is); (case k9 => k_is); (case a10 => k_is); (case l10 => k_is); (case c10 => k_is); (case k10 => k_is); (case a11 => k_is); (case l11 => k_is); (case c11 => k_is); (case k11 => k_is); (case a12 => k_is); (case l12 => k_is); (case c12 => k_is); (case k12 => k_is); (case a13 => k_is); (case l13 => k_is); (case c13 => k_is); (case k13 => k_is); (case a14 => k_is); (case l14 => k_is); (case c14 => k_is); (case k14 => k_is); (case a15 => k_is); (case l15 => k_is); (case c15 => k_is); (case k15 => k_is); (case a16 => k_is); (case l16 => k_is); (case c16 => k_is); (case k16 => k_is); (case a17 => k_is); (case l17 => k_is); (case c17 => k_is); (case k17 => k_is); (case g_FIGURES => k_is); (case g_LONGEST => k_is); (case g_MOST_NUMBER => k_is); (case g_MOST_NUMBERS => k_is); (case cg_NoChange => k_is); (case cg_NoLock => k_is); (case cg_NoYard => k_is); (case cg_WishError => k_is); (case xe_NoLock => k_exc); (case ke_NoLock => k_is); (case be_NoLock => k_is); (case te_NoLock => k_is); (case bk_WishError => k_is); (case ik_WishError => k_is); (case tk_WishError => k_is); (case m_WishError_NoLock => k_is); (case xa_NoLock => k_is); (case xb_NoLock => k_is); (case xc_NoLock => k_is); (case xd_NoLock => k_is); (case xf_NoLock => k_is); (case xg_NoLock => k_is); (case xh => k_is); (case xi => k_is); (case yi_NoChange => k_is); (case yt_NoChange => k_is); (case yk_NoChange_NoLock => k_is); (case yi_NoLock => k_is); (case yt_NoLock => k_is); (case yk_NoLock_NoLock => k_is); (case yi_NoYard => k_is); (case yt_NoYard => k_is); (case yk_NoYard_NoLock => k_is); (case yn_ValueError => k_is); (case yk_ValueError_NoLock => k_is); (case ys_NoLock => k_is); (case z0 => k_is); (case z1 => k_is); (case z2 => k_is); (case z3 => k_is); (case z4 => k_is); (case z5 => k_is); (case z6 => k_is); (case z7 => k_is); (case z8 => k_is); (case z9 => k_is); (case z10 => k_is); (case y0 => k_is); (case y1 => k_is); (case y2 => k_is); (case y3 => k_is); (case y4 => k_is); (case y5 => k_is); (case y6 => k_is); (case y7 => k_is)
