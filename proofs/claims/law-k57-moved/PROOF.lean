import PyProof.Rows.All
import Wide.All
import OpenK.AllK
import Wide.FinOn
import HandS.ForMost
import HandS.Deep
import KE.KDictKeyed
import HandS.ForExc
import HandS.Wide
import HandS.TupAny
import HandS.TupLe
import HandS.TupMul
import HandS.TryOnly
import KE.GoesMore
import KE.GoesEnum
import HandS.Dict
import KE.DataCmp
import KE.SortData
import PyProof.ReprRoads
import PyProof.ReprLen
import HandS.More
import HandS.EndBits
import PySem.Challenge.RW_wishyard_k57_moved
set_option Elab.async false
set_option linter.all false
set_option maxRecDepth 100000
set_option maxHeartbeats 4000000
namespace Wy
open PySem PySem.Spec PyProof.Rows L2

/-! ### data -/
/-- data by value; lv, dv: a list, a dict that nobody changes any more; rl: a list that is handed in; ref: the n-th object that may be changed; fn: a function with what it captured -/
inductive D where
  | non | bl (b : Bool) | int (i : Int) | str (x : Str) | tup (l : List D) | lv (l : List D) | rl (l : List D) | dv (tk : Bool) (ks vs : List D) | ref (n : Nat) | fn (f : Str) (cs : List D)

mutual
def D.beq : D → D → Bool
  | .non, .non => true
  | .bl a, .bl b => decide (a = b)
  | .int a, .int b => decide (a = b)
  | .str a, .str b => decide (a = b)
  | .tup a, .tup b => D.beqs a b
  | .lv a, .lv b => D.beqs a b
  | .rl a, .rl b => D.beqs a b
  | .dv t a c, .dv u b d => decide (t = u) && (D.beqs a b && D.beqs c d)
  | .ref a, .ref b => decide (a = b)
  | .fn a c, .fn b d => decide (a = b) && D.beqs c d
  | _, _ => false
def D.beqs : List D → List D → Bool
  | [], [] => true
  | a :: as, b :: bs => D.beq a b && D.beqs as bs
  | _, _ => false
end
mutual
theorem D.beq_self : ∀ a : D, D.beq a a = true
  | .non => rfl
  | .bl _ => by simp [D.beq]
  | .int _ => by simp [D.beq]
  | .str _ => by simp [D.beq]
  | .tup a => by simp [D.beq, D.beqs_self a]
  | .lv a => by simp [D.beq, D.beqs_self a]
  | .rl a => by simp [D.beq, D.beqs_self a]
  | .dv _ a b => by simp [D.beq, D.beqs_self a, D.beqs_self b]
  | .ref _ => by simp [D.beq]
  | .fn _ a => by simp [D.beq, D.beqs_self a]
theorem D.beqs_self : ∀ a : List D, D.beqs a a = true
  | [] => by simp [D.beqs]
  | a :: as => by simp [D.beqs, D.beq_self a, D.beqs_self as]
end
mutual
theorem D.eq_of : ∀ a b : D, D.beq a b = true → a = b
  | .non, b, h => by cases b <;> simp_all [D.beq]
  | .bl _, b, h => by cases b <;> simp_all [D.beq]
  | .int _, b, h => by cases b <;> simp_all [D.beq]
  | .str _, b, h => by cases b <;> simp_all [D.beq]
  | .tup a, b, h => by
    cases b <;> simp [D.beq] at h
    rw [D.eqs_of a _ h]
  | .lv a, b, h => by
    cases b <;> simp [D.beq] at h
    rw [D.eqs_of a _ h]
  | .rl a, b, h => by
    cases b <;> simp [D.beq] at h
    rw [D.eqs_of a _ h]
  | .dv _ a c, b, h => by
    cases b <;> simp [D.beq] at h
    obtain ⟨h1, h2, h3⟩ := h
    rw [h1, D.eqs_of a _ h2, D.eqs_of c _ h3]
  | .ref _, b, h => by cases b <;> simp_all [D.beq]
  | .fn _ a, b, h => by
    cases b <;> simp [D.beq] at h
    rw [h.1, D.eqs_of a _ h.2]
theorem D.eqs_of : ∀ a b : List D, D.beqs a b = true → a = b
  | [], b, h => by cases b <;> simp_all [D.beqs]
  | a :: as, b, h => by
    cases b <;> simp [D.beqs] at h
    rw [D.eq_of a _ h.1, D.eqs_of as _ h.2]
end
instance : DecidableEq D := fun a b => if h : D.beq a b = true then isTrue (D.eq_of a b h) else isFalse fun e => h (by subst e; exact D.beq_self a)

/-- an object that may be changed -/
inductive Ob where
  | lst (l : List D)
  | dct (tk : Bool) (kvs : List (D × D))
  | ins (C : Str) (fs : List (Str × D))
  deriving DecidableEq

abbrev DH := List Ob
/-- what comes: a value; an exception of the class C with its fields; nothing is told -/
inductive Re (α : Type) where
  | ok (a : α) (h : DH)
  | ex (C : Str) (fs : List (Str × D)) (h : DH)
  | bad
abbrev M (α : Type) := DH → Re α
def M.ret {α : Type} (a : α) : M α := fun h => .ok a h
def M.bad {α : Type} : M α := fun _ => .bad
def M.bind {α β : Type} (m : M α) (k : α → M β) : M β := fun h => match m h with
  | .ok a h' => k a h'
  | .ex C fs h' => .ex C fs h'
  | .bad => .bad
instance : Monad M where
  pure := M.ret
  bind := M.bind
@[simp] theorem pure_ap {α : Type} (a : α) (h : DH) : (pure a : M α) h = .ok a h := rfl
theorem bind_ap {α β : Type} (m : M α) (k : α → M β) (h : DH) : (m >>= k) h = match m h with
  | .ok a h' => k a h'
  | .ex C fs h' => .ex C fs h'
  | .bad => .bad := rfl
theorem bind_ok {α β : Type} {m : M α} {k : α → M β} {h h' : DH} {a : α} (e : m h = .ok a h') : (m >>= k) h = k a h' := by rw [bind_ap, e]
@[simp] theorem bad_ap {α : Type} (h : DH) : (M.bad : M α) h = .bad := rfl

/-! no object is named in it -/
mutual
def D.pur : D → Bool
  | .tup l => D.purs l
  | .lv l => D.purs l
  | .rl l => D.purs l
  | .dv _ ks vs => D.purs ks && D.purs vs
  | .ref _ => false
  | .fn _ l => D.purs l
  | _ => true
def D.purs : List D → Bool
  | [] => true
  | a :: as => a.pur && D.purs as
end
/-! the objects that are named in it are below n -/
mutual
def D.under (n : Nat) : D → Bool
  | .tup l => D.unders n l
  | .lv l => D.unders n l
  | .rl l => D.unders n l
  | .dv _ ks vs => D.unders n ks && D.unders n vs
  | .ref i => decide (i < n)
  | .fn _ l => D.unders n l
  | _ => true
def D.unders (n : Nat) : List D → Bool
  | [] => true
  | a :: as => a.under n && D.unders n as
end
mutual
theorem D.under_of_pur {n : Nat} : ∀ d : D, d.pur = true → d.under n = true
  | .non, _ | .bl _, _ | .int _, _ | .str _, _ => by simp [D.under]
  | .tup l, h => by simp [D.under]; exact D.unders_of_purs l (by simpa [D.pur] using h)
  | .lv l, h => by simp [D.under]; exact D.unders_of_purs l (by simpa [D.pur] using h)
  | .rl l, h => by simp [D.under]; exact D.unders_of_purs l (by simpa [D.pur] using h)
  | .dv _ a b, h => by
    have h' : D.purs a = true ∧ D.purs b = true := by simpa [D.pur] using h
    simp [D.under]; exact ⟨D.unders_of_purs a h'.1, D.unders_of_purs b h'.2⟩
  | .ref _, h => by simp [D.pur] at h
  | .fn _ l, h => by simp [D.under]; exact D.unders_of_purs l (by simpa [D.pur] using h)
theorem D.unders_of_purs {n : Nat} : ∀ l : List D, D.purs l = true → D.unders n l = true
  | [], _ => by simp [D.unders]
  | a :: as, h => by
    have h' : a.pur = true ∧ D.purs as = true := by simpa [D.purs] using h
    simp [D.unders]; exact ⟨D.under_of_pur a h'.1, D.unders_of_purs as h'.2⟩
end

/-- a def's own objects are gone where nobody names them -/
def cut (m : M D) : M D := fun h => match m h with
  | .ok d h' => if h'.take h.length = h ∧ d.under h.length = true then .ok d h else .ok d h'
  | .ex C fs h' => if h'.take h.length = h ∧ D.unders h.length (fs.map (·.2)) = true then .ex C fs h else .ex C fs h'
  | .bad => .bad
theorem cut_ok {m : M D} {h g : DH} {d : D} (e : m h = .ok d (h ++ g)) (p : d.pur = true) : cut m h = .ok d h := by
  unfold cut
  rw [e]
  have t : (h ++ g).take h.length = h := by simp
  simp [t, D.under_of_pur d p]

/-! ### data read as the library's data -/
/-- how an object's list is read -/
def toPG (r : Nat → Option (List PyData)) : D → Option PyData
  | .non => some .none
  | .bl b => some (.bool b)
  | .int i => some (.int i)
  | .str x => some (.str x)
  | .tup l => (toPGs r l).map .tuple
  | .lv l => (toPGs r l).map .list
  | .rl l => (toPGs r l).map .list
  | .ref n => (r n).map .list
  | .dv _ _ _ => none
  | .fn _ _ => none
where toPGs (r : Nat → Option (List PyData)) : List D → Option (List PyData)
  | [] => some []
  | a :: as => match toPG r a, toPGs r as with
    | some p, some ps => some (p :: ps)
    | _, _ => none
def toPs (h : DH) : Nat → List D → Option (List PyData)
  | 0, l => toPG.toPGs (fun _ => none) l
  | k + 1, l => toPG.toPGs (fun n => match h[n]? with
    | some (.lst l) => toPs h k l
    | _ => none) l
def toP (h : DH) (d : D) : Option PyData := toPG (fun n => match h[n]? with
    | some (.lst l) => toPs h 3 l
    | _ => none) d

/-- a key of a dict of tuples -/
def toK : D → Option NestedKey
  | .non => some .none
  | .bl b => some (.num (if b then 1 else 0))
  | .int i => some (.num i)
  | .str x => some (.text x)
  | .tup l => (toKs l).map .tup
  | _ => none
where toKs : List D → Option (List NestedKey)
  | [] => some []
  | a :: as => match toK a, toKs as with
    | some p, some ps => some (p :: ps)
    | _, _ => none
/-- a key of a dict of ints and texts -/
def toKey : D → Option Key
  | .int i => some (.inl i)
  | .str x => some (.inr x)
  | _ => none
end Wy

set_option Elab.async false
set_option linter.all false
set_option maxRecDepth 100000
set_option maxHeartbeats 4000000
namespace Wy
open PySem PySem.Spec PyProof.Rows L2

/-! ### what stands for what -/
/-- own classes by names; classes of exceptions by names; what a function's object says -/
structure Tb where
  cls : Str → Addr → Prop
  exc : Str → Value → Prop
  fnR : Hp → Str → Addr → List V → Prop
structure Gx where
  P : Program
  w : World
  K : PySem.W.Frag
  T : Tb
abbrev gx (X : Cx) (T : Tb) : Gx := ⟨X.prog, X.w, X.K, T⟩

/-- a dict whose keys are tuples: the key, where it stands, its value -/
def TDO (P : Program) (w : World) (a : Addr) (xs : List (NestedKey × Addr × V)) : HO := .ext fun h => (a == sysModules) = false ∧ xs.length ≤ sizeLine ∧ (xs.map (·.1)).Nodup ∧ (∀ x ∈ xs, x.1.depth ≤ 8) ∧ ∃ (o : Obj) (es : Array DictEntry) (ep : Nat) (ys : List (NestedKey × Addr × Value)),
  h.get? a = some o ∧ o.ExactDict ∧ o.data = .dict es ep ∧ es.toList = ys.map (entryOfKey (nestedKind P w)) ∧ Paired (fun (p : NestedKey × Addr × V) (q : NestedKey × Addr × Value) => p.1 = q.1 ∧ p.2.1 = q.2.1 ∧ RelV p.2.2 q.2.2) xs ys

/-- where the objects that may be changed stand; hid: objects that are being made (nobody names them) -/
structure Rg where
  l : List Addr
  hid : List Addr
def Rg.add (ρ : Rg) (p : Addr) : Rg := ⟨ρ.l ++ [p], ρ.hid⟩
/-- it is neither one that may be changed nor a hidden one -/
def Rg.Out (ρ : Rg) (a : Addr) : Prop := a ∉ ρ.l ∧ a ∉ ρ.hid
/-- a list that nobody writes: tracked but not in ρ, or of the written part -/
def Ro (K : PySem.W.Frag) (ρ : Rg) (H : Hp) (a : Addr) (xs : List V) : Prop := (ρ.Out a ∧ Rd H a (.lst xs)) ∨ ∀ H' : Hp, SqL K H' a xs
mutual
inductive RV (G : Gx) (ρ : Rg) (H : Hp) : D → V → Prop
  | non : RV G ρ H .non .non
  | bl (b : Bool) : RV G ρ H (.bl b) (.bl b)
  | int (i : Int) : RV G ρ H (.int i) (.int i)
  | str (x : Str) : PyData.strOk x = true → RV G ρ H (.str x) (.str x)
  | tup {l : List D} {a : Addr} {xs : List V} : SqT G.K H a xs → RVs G ρ H l xs → RV G ρ H (.tup l) (.ref a)
  | lv {l : List D} {a : Addr} {xs : List V} : ρ.Out a → H a = some (.lst xs) → RVs G ρ H l xs → RV G ρ H (.lv l) (.ref a)
  | rl {l : List D} {a : Addr} {xs : List V} : Ro G.K ρ H a xs → RVs G ρ H l xs → RV G ρ H (.rl l) (.ref a)
  | ref {n : Nat} {a : Addr} : ρ.l[n]? = some a → RV G ρ H (.ref n) (.ref a)
  | dvk {ks vs : List D} {a : Addr} {kvs : List (Key × V)} {us : List V} : ρ.Out a → H a = some (.dK kvs) → ks.map toKey = kvs.map (fun p => some p.1) → us = kvs.map (·.2) → RVs G ρ H vs us → RV G ρ H (.dv false ks vs) (.ref a)
  | dvt {ks vs : List D} {a : Addr} {xs : List (NestedKey × Addr × V)} {ts us : List V} : ρ.Out a → H a = some (TDO G.P G.w a xs) → ts = xs.map (fun x => .ref x.2.1) → RVs G ρ H ks ts → ks.map toK = xs.map (fun x => some x.1) →
      us = xs.map (·.2.2) → RVs G ρ H vs us → RV G ρ H (.dv true ks vs) (.ref a)
  | fn {f : Str} {cs : List D} {a : Addr} {us : List V} (fp : List Addr) : (∀ b ∈ fp, ρ.Out b ∧ (H b).isSome = true) → (∀ H' : Hp, (∀ b ∈ fp, H' b = H b) → G.T.fnR H' f a us) → RVs G ρ H cs us → RV G ρ H (.fn f cs) (.ref a)
inductive RVs (G : Gx) (ρ : Rg) (H : Hp) : List D → List V → Prop
  | nil : RVs G ρ H [] []
  | cons {d : D} {v : V} {ds : List D} {vs : List V} : RV G ρ H d v → RVs G ρ H ds vs → RVs G ρ H (d :: ds) (v :: vs)
end

section
variable {G : Gx} {ρ ρ' : Rg} {H H' : Hp}
theorem RVs.len : ∀ {ds : List D} {vs : List V}, RVs G ρ H ds vs → ds.length = vs.length
  | _, _, .nil => rfl
  | _, _, .cons _ t => by simp [RVs.len t]
theorem RVs.app : ∀ {ds es : List D} {vs us : List V}, RVs G ρ H ds vs → RVs G ρ H es us → RVs G ρ H (ds ++ es) (vs ++ us)
  | _, _, _, _, .nil, s => s
  | _, _, _, _, .cons r t, s => .cons r (RVs.app t s)
theorem RVs.get : ∀ {ds : List D} {vs : List V} {i : Nat} {d : D}, RVs G ρ H ds vs → ds[i]? = some d → ∃ v, vs[i]? = some v ∧ RV G ρ H d v
  | _, _, i, _, .nil, e => by simp at e
  | _, _, 0, _, .cons r t, e => by simp at e; subst e; exact ⟨_, rfl, r⟩
  | _, _, i + 1, _, .cons r t, e => by
    obtain ⟨v, h1, h2⟩ := RVs.get (i := i) t (by simpa using e)
    exact ⟨v, by simpa using h1, h2⟩
theorem RVs.get' : ∀ {ds : List D} {vs : List V} {i : Nat} {v : V}, RVs G ρ H ds vs → vs[i]? = some v → ∃ d, ds[i]? = some d ∧ RV G ρ H d v
  | _, _, i, _, .nil, e => by simp at e
  | _, _, 0, _, .cons r t, e => by simp at e; subst e; exact ⟨_, rfl, r⟩
  | _, _, i + 1, _, .cons r t, e => by
    obtain ⟨v, h1, h2⟩ := RVs.get' (i := i) t (by simpa using e)
    exact ⟨v, by simpa using h1, h2⟩
theorem RVs.of {ds : List D} : ∀ {vs : List V}, ds.length = vs.length → (∀ (i : Nat) d v, ds[i]? = some d → vs[i]? = some v → RV G ρ H d v) → RVs G ρ H ds vs := by
  induction ds with
  | nil => intro vs e _; cases vs with
    | nil => exact .nil
    | cons _ _ => simp at e
  | cons d ds ih => intro vs e h; cases vs with
    | nil => simp at e
    | cons v vs => exact .cons (h 0 d v rfl rfl) (ih (by simpa using e) fun i d' v' h1 h2 => h (i + 1) d' v' (by simpa using h1) (by simpa using h2))
theorem RVs.take {ds : List D} {vs : List V} (n : Nat) (r : RVs G ρ H ds vs) : RVs G ρ H (ds.take n) (vs.take n) := by
  induction n generalizing ds vs with
  | zero => simpa using RVs.nil
  | succ n ih => cases r with
    | nil => exact .nil
    | cons r t => exact .cons r (ih t)
theorem RVs.drop {ds : List D} {vs : List V} (n : Nat) (r : RVs G ρ H ds vs) : RVs G ρ H (ds.drop n) (vs.drop n) := by
  induction n generalizing ds vs with
  | zero => simpa using r
  | succ n ih => cases r with
    | nil => simpa using RVs.nil
    | cons r t => simpa using ih t
theorem RVs.set {ds : List D} {vs : List V} {d : D} {v : V} (q : RV G ρ H d v) (i : Nat) (r : RVs G ρ H ds vs) : RVs G ρ H (ds.set i d) (vs.set i v) := by
  induction i generalizing ds vs with
  | zero => cases r with
    | nil => exact .nil
    | cons r t => exact .cons q t
  | succ n ih => cases r with
    | nil => exact .nil
    | cons r t => exact .cons r (ih t)
theorem RVs.rev {ds : List D} {vs : List V} (r : RVs G ρ H ds vs) : RVs G ρ H ds.reverse vs.reverse := by
  induction ds generalizing vs with
  | nil => cases r; exact .nil
  | cons d ds ih => cases r with
    | cons r t => simpa using RVs.app (ih t) (.cons r .nil)
theorem RVs.one {d : D} {vs : List V} (r : RVs G ρ H [d] vs) : ∃ v, vs = [v] ∧ RV G ρ H d v := by
  cases r with
  | cons r t => cases t; exact ⟨_, rfl, r⟩
theorem RVs.two {d e : D} {vs : List V} (r : RVs G ρ H [d, e] vs) : ∃ v u, vs = [v, u] ∧ RV G ρ H d v ∧ RV G ρ H e u := by
  cases r with
  | cons r t => cases t with
    | cons s t => cases t; exact ⟨_, _, rfl, r, s⟩
theorem RVs.three {d e f : D} {vs : List V} (r : RVs G ρ H [d, e, f] vs) : ∃ v u w, vs = [v, u, w] ∧ RV G ρ H d v ∧ RV G ρ H e u ∧ RV G ρ H f w := by
  cases r with
  | cons r t => cases t with
    | cons s t => cases t with
      | cons q t => cases t; exact ⟨_, _, _, rfl, r, s, q⟩

/-- what may have changed: the objects of ρ, and new ones -/
structure Stp (ρ : Rg) (H : Hp) (ρ' : Rg) (H' : Hp) : Prop where
  pre : ρ.l <+: ρ'.l
  hid : ρ'.hid = ρ.hid
  new : ∀ b ∈ ρ'.l, b ∈ ρ.l ∨ H b = none
  old : ∀ b o, H b = some o → b ∉ ρ.l → H' b = some o
theorem Stp.refl : Stp ρ H ρ H := ⟨List.prefix_refl _, rfl, fun _ h => .inl h, fun _ _ h _ => h⟩
theorem Stp.trans {ρ1 ρ2 : Rg} {H1 H2 : Hp} (a : Stp ρ H ρ1 H1) (b : Stp ρ1 H1 ρ2 H2) : Stp ρ H ρ2 H2 := by
  have key : ∀ c o, H c = some o → c ∉ ρ.l → c ∉ ρ1.l := fun c o e n hc => by
    rcases a.new c hc with z | z
    · exact n z
    · rw [e] at z; cases z
  refine ⟨a.pre.trans b.pre, b.hid.trans a.hid, fun c hc => ?_, fun c o e n => b.old c o (a.old c o e n) (key c o e n)⟩
  rcases b.new c hc with z | z
  · exact a.new c z
  · cases q : H c with
    | none => exact .inr rfl
    | some o =>
      by_cases n : c ∈ ρ.l
      · exact .inl n
      · rw [a.old c o q n] at z; cases z
theorem Stp.laid {p : Addr} {o : HO} (hp : H p = none) : Stp ρ H ρ (upd H p o) := ⟨List.prefix_refl _, rfl, fun _ h => .inl h, fun b x e _ => by rw [upd_ne (ne_of_none e hp)]; exact e⟩
theorem Stp.mk1 {p : Addr} {o : HO} (hp : H p = none) : Stp ρ H (ρ.add p) (upd H p o) := by
  refine ⟨List.prefix_append _ _, rfl, fun b h => ?_, fun b x e _ => by rw [upd_ne (ne_of_none e hp)]; exact e⟩
  rcases List.mem_append.mp h with h1 | h1
  · exact .inl h1
  · exact .inr (by simp at h1; rw [h1]; exact hp)
theorem Stp.wr {p : Addr} {o : HO} (hp : p ∈ ρ.l) : Stp ρ H ρ (upd H p o) := ⟨List.prefix_refl _, rfl, fun _ h => .inl h, fun b x e n => by rw [upd_ne (fun z => n (by rw [z]; exact hp))]; exact e⟩

/-- the objects of ρ are such as may be written -/
def Muts (ρ : Rg) (H : Hp) : Prop := ∀ a, a ∈ ρ.l ∨ a ∈ ρ.hid → Mut (H a)
theorem mut_some {o : Option HO} (h : Mut o) : o.isSome = true := by
  cases o with
  | none => exact h.elim
  | some _ => rfl
/-- what a thing hangs on stays -/
structure Mv (ρ : Rg) (H : Hp) (ρ' : Rg) (H' : Hp) : Prop where
  get : ∀ (n : Nat) (a : Addr), ρ.l[n]? = some a → ρ'.l[n]? = some a
  out : ∀ a, ρ.Out a → (H a).isSome = true → ρ'.Out a
  old : ∀ a o, H a = some o → ρ.Out a → H' a = some o

theorem Stp.notin (s : Stp ρ H ρ' H') {b : Addr} (n : b ∉ ρ.l) (e : (H b).isSome = true) : b ∉ ρ'.l := fun h => by
  rcases s.new b h with z | z
  · exact n z
  · rw [z] at e; cases e
theorem Stp.out (s : Stp ρ H ρ' H') {b : Addr} (n : ρ.Out b) (e : (H b).isSome = true) : ρ'.Out b := ⟨s.notin n.1 e, by rw [s.hid]; exact n.2⟩
theorem Stp.keep (s : Stp ρ H ρ' H') {b : Addr} (n : b ∉ ρ.l) (e : (H b).isSome = true) : H' b = H b := by
  cases q : H b with
  | none => rw [q] at e; cases e
  | some o => exact s.old b o q n
theorem pre_get {α : Type} {l l' : List α} {i : Nat} {x : α} (h : l <+: l') (e : l[i]? = some x) : l'[i]? = some x := by
  obtain ⟨t, rfl⟩ := h
  rw [List.getElem?_append_left (List.getElem?_eq_some_iff.mp e).1]
  exact e
theorem Stp.mv (s : Stp ρ H ρ' H') : Mv ρ H ρ' H' := ⟨fun _ _ e => pre_get s.pre e, fun _ n e => s.out n e, fun _ _ e n => s.old _ _ e n.1⟩
theorem Mv.rd (s : Mv ρ H ρ' H') {b : Addr} {u : HO} (n : ρ.Out b) (r : Rd H b u) : Rd H' b u := by
  rcases r with r | ⟨o, r⟩
  · exact .inl (s.old b _ r n)
  · exact .inr ⟨o, s.old b _ r n⟩
theorem Mv.sqT {K : PySem.W.Frag} {a : Addr} {xs : List V} (s : Mv ρ H ρ' H') (m : Muts ρ H) (h : SqT K H a xs) : SqT K H' a xs := by
  rcases h with h | h
  · have no : ∀ z : a ∈ ρ.l ∨ a ∈ ρ.hid, False := fun z => by
      have q := m a z
      rcases h with h | ⟨o, h⟩
      · rw [h] at q; exact q
      · rw [h] at q; exact q
    exact .inl (s.rd ⟨fun z => no (.inl z), fun z => no (.inr z)⟩ h)
  · exact .inr h
theorem Mv.keep (s : Mv ρ H ρ' H') {b : Addr} (n : ρ.Out b) (e : (H b).isSome = true) : H' b = H b := by
  cases q : H b with
  | none => rw [q] at e; cases e
  | some o => exact s.old b o q n
theorem Mv.ro {K : PySem.W.Frag} {a : Addr} {xs : List V} (s : Mv ρ H ρ' H') (h : Ro K ρ H a xs) : Ro K ρ' H' a xs := by
  rcases h with ⟨n, h⟩ | h
  · refine .inl ⟨s.out a n ?_, s.rd n h⟩
    rcases h with h | ⟨o, h⟩ <;> (rw [h]; rfl)
  · exact .inr h
theorem Ro.sqL {K : PySem.W.Frag} {a : Addr} {xs : List V} (h : Ro K ρ H a xs) : SqL K H a xs := by
  rcases h with ⟨_, h⟩ | h
  · exact .inl h
  · exact h H
theorem Ro.of_sqL {K : PySem.W.Frag} {a : Addr} {xs : List V} (n : ρ.Out a) (h : SqL K H a xs) : Ro K ρ H a xs := by
  rcases h with h | h
  · exact .inl ⟨n, h⟩
  · exact .inr fun _ => .inr h
mutual
theorem RV.mv (s : Mv ρ H ρ' H') (m : Muts ρ H) : ∀ (d : D) (v : V), RV G ρ H d v → RV G ρ' H' d v
  | _, _, .non => .non
  | _, _, .bl b => .bl b
  | _, _, .int i => .int i
  | _, _, .str x h => .str x h
  | _, _, .tup h r => .tup (s.sqT m h) (RVs.mv s m _ _ r)
  | _, _, .lv n e r => .lv (s.out _ n (by rw [e]; rfl)) (s.old _ _ e n) (RVs.mv s m _ _ r)
  | _, _, .rl h r => .rl (s.ro h) (RVs.mv s m _ _ r)
  | _, _, .ref e => .ref (s.get _ _ e)
  | _, _, .dvk n e k u r => .dvk (s.out _ n (by rw [e]; rfl)) (s.old _ _ e n) k u (RVs.mv s m _ _ r)
  | _, _, .dvt n e t rk k u r => .dvt (s.out _ n (by rw [e]; rfl)) (s.old _ _ e n) t (RVs.mv s m _ _ rk) k u (RVs.mv s m _ _ r)
  | _, _, .fn fp hb hf r => .fn fp (fun b h => ⟨s.out b (hb b h).1 (hb b h).2, by rw [s.keep (hb b h).1 (hb b h).2]; exact (hb b h).2⟩)
      (fun H2 h2 => hf H2 fun b h => (h2 b h).trans (s.keep (hb b h).1 (hb b h).2)) (RVs.mv s m _ _ r)
theorem RVs.mv (s : Mv ρ H ρ' H') (m : Muts ρ H) : ∀ (ds : List D) (vs : List V), RVs G ρ H ds vs → RVs G ρ' H' ds vs
  | _, _, .nil => .nil
  | _, _, .cons r t => .cons (RV.mv s m _ _ r) (RVs.mv s m _ _ t)
end
theorem RV.mono (s : Stp ρ H ρ' H') (m : Muts ρ H) (d : D) (v : V) (r : RV G ρ H d v) : RV G ρ' H' d v := RV.mv s.mv m d v r
theorem RVs.mono (s : Stp ρ H ρ' H') (m : Muts ρ H) (ds : List D) (vs : List V) (r : RVs G ρ H ds vs) : RVs G ρ' H' ds vs := RVs.mv s.mv m ds vs r

/-! ### the heap of data and the tracked one -/
def ObR (G : Gx) (ρ : Rg) (H : Hp) (a : Addr) : Ob → Prop
  | .lst l => ∃ xs, H a = some (.lst xs) ∧ RVs G ρ H l xs
  | .dct false kvs => ∃ (ks : List (Key × V)) (us : List V), H a = some (.dK ks) ∧ kvs.map (fun p => toKey p.1) = ks.map (fun p => some p.1) ∧ us = ks.map (·.2) ∧ RVs G ρ H (kvs.map (·.2)) us
  | .dct true kvs => ∃ (xs : List (NestedKey × Addr × V)) (ts us : List V), H a = some (TDO G.P G.w a xs) ∧ ts = xs.map (fun x => V.ref x.2.1) ∧ RVs G ρ H (kvs.map (·.1)) ts ∧
      kvs.map (fun p => toK p.1) = xs.map (fun x => some x.1) ∧ us = xs.map (·.2.2) ∧ RVs G ρ H (kvs.map (·.2)) us
  | .ins C fs => ∃ (Ca dx : Addr) (vs : List (Str × V)) (us : List V), G.T.cls C Ca ∧ H a = some (.ins Ca dx vs) ∧ vs.map (·.1) = fs.map (·.1) ∧ us = vs.map (·.2) ∧ RVs G ρ H (fs.map (·.2)) us
structure Rep (G : Gx) (ρ : Rg) (hd : DH) (H : Hp) : Prop where
  len : ρ.l.length = hd.length
  nd : ρ.l.Nodup
  hid : ∀ a ∈ ρ.hid, Mut (H a) ∧ a ∉ ρ.l
  ob : ∀ (n : Nat) (a : Addr) (o : Ob), ρ.l[n]? = some a → hd[n]? = some o → ObR G ρ H a o
theorem ObR.mut {a : Addr} : ∀ {o : Ob}, ObR G ρ H a o → Mut (H a)
  | .lst _, ⟨_, e, _⟩ => by rw [e]; trivial
  | .dct false _, ⟨_, _, e, _⟩ => by rw [e]; trivial
  | .dct true _, ⟨_, _, _, e, _⟩ => by rw [e]; trivial
  | .ins _ _, ⟨_, _, _, _, _, e, _⟩ => by rw [e]; trivial
theorem ObR.mono {a : Addr} (s : Mv ρ H ρ' H') (m : Muts ρ H) (e : H' a = H a) : ∀ {o : Ob}, ObR G ρ H a o → ObR G ρ' H' a o
  | .lst _, ⟨xs, e1, r⟩ => ⟨xs, e.trans e1, RVs.mv s m _ _ r⟩
  | .dct false _, ⟨ks, us, e1, k, u, r⟩ => ⟨ks, us, e.trans e1, k, u, RVs.mv s m _ _ r⟩
  | .dct true _, ⟨xs, ts, us, e1, t, rt, k, u, r⟩ => ⟨xs, ts, us, e.trans e1, t, RVs.mv s m _ _ rt, k, u, RVs.mv s m _ _ r⟩
  | .ins _ _, ⟨Ca, dx, vs, us, c, e1, n, u, r⟩ => ⟨Ca, dx, vs, us, c, e.trans e1, n, u, RVs.mv s m _ _ r⟩
variable {hd hd' : DH}
theorem Rep.at (r : Rep G ρ hd H) {n : Nat} {o : Ob} (e : hd[n]? = some o) : ∃ a, ρ.l[n]? = some a ∧ ObR G ρ H a o := by
  have h : n < ρ.l.length := by rw [r.len]; exact (List.getElem?_eq_some_iff.mp e).1
  exact ⟨ρ.l[n], List.getElem?_eq_getElem h, r.ob n _ o (List.getElem?_eq_getElem h) e⟩
theorem Rep.muts (r : Rep G ρ hd H) : Muts ρ H := fun a ha => by
  rcases ha with ha | ha
  case inr => exact (r.hid a ha).1
  obtain ⟨n, hn, e⟩ := List.getElem_of_mem ha
  have h : n < hd.length := by rw [← r.len]; exact hn
  exact (r.ob n a hd[n] (by rw [← e]; exact List.getElem?_eq_getElem hn) (List.getElem?_eq_getElem h)).mut
theorem Rep.some' (r : Rep G ρ hd H) {a : Addr} (h : a ∈ ρ.l) : (H a).isSome = true := by
  exact mut_some (r.muts a (.inl h))
/-- the objects stand as they stood -/
theorem Rep.same (r : Rep G ρ hd H) (s : Stp ρ H ρ H') (k : ∀ a ∈ ρ.l, H' a = H a) : Rep G ρ hd H' :=
  ⟨r.len, r.nd, fun a ha => ⟨by rw [s.keep (r.hid a ha).2 (mut_some (r.hid a ha).1)]; exact (r.hid a ha).1, (r.hid a ha).2⟩, fun n a o h1 h2 => (r.ob n a o h1 h2).mono s.mv r.muts (k a (List.mem_of_getElem? h1))⟩
theorem Rep.laid (r : Rep G ρ hd H) {p : Addr} {o : HO} (hp : H p = none) : Rep G ρ hd (upd H p o) :=
  r.same (Stp.laid hp) fun a h => upd_ne fun z => by have q := r.some' h; rw [z, hp] at q; cases q
/-- what isn't tracked yet is neither an object of ρ nor a hidden one -/
theorem Rep.out (r : Rep G ρ hd H) {p : Addr} (hp : H p = none) : ρ.Out p := ⟨fun z => (by have q := r.some' z; rw [hp] at q; cases q), fun z => (by have q := (r.hid p z).1; rw [hp] at q; exact q)⟩
/-- a new object -/
theorem Rep.mk1 (r : Rep G ρ hd H) {p : Addr} {o : HO} {ob : Ob} (hp : H p = none) (q : ObR G (ρ.add p) (upd H p o) p ob) : Rep G (ρ.add p) (hd ++ [ob]) (upd H p o) := by
  have hn : p ∉ ρ.l := fun z => by have q := r.some' z; rw [hp] at q; cases q
  have hz : ∀ a ∈ (ρ.add p).hid, Mut (upd H p o a) ∧ a ∉ (ρ.add p).l := fun a ha => by
    obtain ⟨h1, h2⟩ := r.hid a ha
    have ne : a ≠ p := fun z => by rw [z, hp] at h1; exact h1
    exact ⟨by rw [upd_ne ne]; exact h1, fun z => (List.mem_append.mp z).elim h2 fun z => ne (by simpa using z)⟩
  refine ⟨by simp [Rg.add, r.len], ?_, hz, fun n a o' h1 h2 => ?_⟩
  · show (ρ.l ++ [p]).Nodup
    rw [List.nodup_append]
    exact ⟨r.nd, by simp, fun x hx y hy z => by simp at hy; subst hy; subst z; exact hn hx⟩
  · have h1 : (ρ.l ++ [p])[n]? = some a := h1
    by_cases c : n < ρ.l.length
    · rw [List.getElem?_append_left c] at h1
      rw [List.getElem?_append_left (by rw [← r.len]; exact c)] at h2
      exact (r.ob n a o' h1 h2).mono (Stp.mk1 hp).mv r.muts (upd_ne fun z => hn (by rw [← z]; exact List.mem_of_getElem? h1))
    · have e : n = ρ.l.length := by
        have := (List.getElem?_eq_some_iff.mp h1).1
        simp at this
        omega
      subst e
      rw [List.getElem?_append_right (Nat.le_refl _)] at h1
      rw [List.getElem?_append_right (by rw [r.len]; exact Nat.le_refl _), r.len] at h2
      simp at h1 h2
      subst h1; subst h2
      exact q
/-- an object is changed -/
theorem Rep.wr (r : Rep G ρ hd H) {n : Nat} {p : Addr} {o : HO} {ob : Ob} (hp : ρ.l[n]? = some p) (q : ObR G ρ (upd H p o) p ob) : Rep G ρ (hd.set n ob) (upd H p o) := by
  have hz : ∀ a ∈ ρ.hid, Mut (upd H p o a) ∧ a ∉ ρ.l := fun a ha => by
    obtain ⟨h1, h2⟩ := r.hid a ha
    exact ⟨by rw [upd_ne fun z => h2 (by rw [z]; exact List.mem_of_getElem? hp)]; exact h1, h2⟩
  refine ⟨by simp [r.len], r.nd, hz, fun m a o' h1 h2 => ?_⟩
  by_cases c : m = n
  · subst c
    rw [hp] at h1; cases h1
    have hm : m < hd.length := by rw [← r.len]; exact (List.getElem?_eq_some_iff.mp hp).1
    rw [List.getElem?_set_self hm] at h2; cases h2
    exact q
  · rw [List.getElem?_set_ne (Ne.symm c)] at h2
    refine (r.ob m a o' h1 h2).mono (Stp.wr (List.mem_of_getElem? hp)).mv r.muts (upd_ne fun z => c ?_)
    obtain ⟨h3, e3⟩ := List.getElem?_eq_some_iff.mp h1
    obtain ⟨h4, e4⟩ := List.getElem?_eq_some_iff.mp hp
    exact (List.getElem_inj r.nd).mp (by rw [e3, e4]; exact z)

/-! ### slots -/
abbrev SD := List (Option D)
def RSt (G : Gx) (ρ : Rg) (H : Hp) (sd : SD) (σ : L2.St) : Prop := sd.length = σ.length ∧ ∀ (i : Nat) d, sd[i]? = some (some d) → ∃ v, σ[i]? = some (some v) ∧ RV G ρ H d v
theorem RSt.mono {sd : SD} {σ : L2.St} (s : Stp ρ H ρ' H') (m : Muts ρ H) (r : RSt G ρ H sd σ) : RSt G ρ' H' sd σ := ⟨r.1, fun i d e =>
  let ⟨v, e1, q⟩ := r.2 i d e
  ⟨v, e1, RV.mono s m _ _ q⟩⟩
theorem RSt.set {sd : SD} {σ : L2.St} {i : Nat} {d : D} {v : V} (r : RSt G ρ H sd σ) (q : RV G ρ H d v) : RSt G ρ H (sd.set i (some d)) (σ.set i (some v)) := ⟨by simp [r.1], fun j d' e => by
  by_cases c : j = i
  · subst c
    have hj : j < sd.length := by
      have := (List.getElem?_eq_some_iff.mp e).1
      simpa using this
    rw [List.getElem?_set_self hj] at e; cases e
    exact ⟨v, List.getElem?_set_self (by rw [← r.1]; exact hj), q⟩
  · rw [List.getElem?_set_ne (Ne.symm c)] at e
    obtain ⟨v', e1, q'⟩ := r.2 j d' e
    exact ⟨v', by rw [List.getElem?_set_ne (Ne.symm c)]; exact e1, q'⟩⟩
end
end Wy

set_option Elab.async false
set_option linter.all false
set_option maxRecDepth 100000
set_option maxHeartbeats 4000000
namespace Wy
open PySem PySem.Spec PyProof.Rows L2

/-! ### readings -/
/-- an exception's class and fields -/
def ExR (G : Gx) (ρ : Rg) (H : Hp) (C : Str) (fs : List (Str × D)) (c : Value) (dd : Option Addr) : Prop :=
  G.T.exc C c ∧ ((fs = [] ∧ dd = none) ∨ ∃ d vs us, dd = some d ∧ ρ.Out d ∧ H d = some (.xd vs) ∧ vs.map (·.1) = fs.map (·.1) ∧ us = vs.map (·.2) ∧ RVs G ρ H (fs.map (·.2)) us)
section
variable {α β γ δ : Type}
def Res (G : Gx) (W : WX) (σ : L2.St) (R : Rg → Hp → α → β → Prop) (ρ : Rg) (H : Hp) (r : Re α) (Q : β → Hp → Prop) : Prop := match r with
  | .ok a hd => ∀ ρ' H' b, Rep G ρ' hd H' → Stp ρ H ρ' H' → R ρ' H' a b → Q b H'
  | .ex C fs hd => ∀ ρ' H' c dd, Rep G ρ' hd H' → Stp ρ H ρ' H' → ExR G ρ' H' C fs c dd → W c dd σ H'
  | .bad => False
def tG (G : Gx) (W : WX) (R : Rg → Hp → α → β → Prop) (m : SD → M α) (σ : L2.St) (H : Hp) (Q : β → Hp → Prop) : Prop :=
  ∃ ρ hd sd, Rep G ρ hd H ∧ RSt G ρ H sd σ ∧ Res G W σ R ρ H (m sd hd) Q
/-- where one is, with a thing -/
def At (G : Gx) (σ : L2.St) (R : Rg → Hp → α → β → Prop) (ρ : Rg) (hd : DH) (sd : SD) (H : Hp) (a : α) (b : β) : Prop := Rep G ρ hd H ∧ RSt G ρ H sd σ ∧ R ρ H a b
variable {G : Gx} {W : WX} {R : Rg → Hp → α → β → Prop} {R2 : Rg → Hp → γ → δ → Prop} {σ : L2.St} {H H' : Hp} {ρ ρ' : Rg} {Q : δ → Hp → Prop}
theorem Res.from {r : Re γ} (s : Stp ρ H ρ' H') (h : Res G W σ R2 ρ H r Q) : Res G W σ R2 ρ' H' r Q := by
  cases r with
  | ok a hd => exact fun ρ2 H2 b r2 s2 q => h ρ2 H2 b r2 (s.trans s2) q
  | ex C fs hd => exact fun ρ2 H2 c dd r2 s2 q => h ρ2 H2 c dd r2 (s.trans s2) q
  | bad => exact h
theorem Res.then {r : Re γ} {Q' : δ → Hp → Prop} (h : Res G W σ R2 ρ H r Q) (f : ∀ b H', Q b H' → Q' b H') : Res G W σ R2 ρ H r Q' := by
  cases r with
  | ok a hd => exact fun ρ2 H2 b r2 s2 q => f _ _ (h ρ2 H2 b r2 s2 q)
  | ex C fs hd => exact h
  | bad => exact h
theorem tG_then {m : SD → M γ} {Q' : δ → Hp → Prop} (h : tG G W R2 m σ H Q) (f : ∀ b H', Q b H' → Q' b H') : tG G W R2 m σ H Q' :=
  let ⟨ρ, hd, sd, r, st, h⟩ := h
  ⟨ρ, hd, sd, r, st, h.then f⟩
/-- one thing, then what hangs on it -/
theorem tG_bind {m : SD → M α} {k : SD → α → M γ} (h : tG G W R2 (fun s => m s >>= k s) σ H Q) :
    tG G W R m σ H fun b H' => ∃ ρ hd sd a, At G σ R ρ hd sd H' a b ∧ Res G W σ R2 ρ H' (k sd a hd) Q := by
  obtain ⟨ρ, hd, sd, r, st, h⟩ := h
  refine ⟨ρ, hd, sd, r, st, ?_⟩
  have h : Res G W σ R2 ρ H ((m sd >>= k sd) hd) Q := h
  rw [bind_ap] at h
  cases e : m sd hd with
  | ok a hd' =>
    rw [e] at h
    exact fun ρ' H' b r' s' q => ⟨ρ', hd', sd, a, ⟨r', st.mono s' r.muts, q⟩, h.from s'⟩
  | ex C fs hd' => rw [e] at h; exact h
  | bad => rw [e] at h; exact h
theorem tG_bind' {m : SD → M α} {k : SD → α → M γ} (h : tG G W R2 (fun s => m s >>= k s) σ H Q) :
    tG G W R m σ H fun b H' => ∃ ρ hd sd a, At G σ R ρ hd sd H' a b ∧ (∃ h0, m sd h0 = .ok a hd) ∧ Res G W σ R2 ρ H' (k sd a hd) Q := by
  obtain ⟨ρ, hd, sd, r, st, h⟩ := h
  refine ⟨ρ, hd, sd, r, st, ?_⟩
  have h : Res G W σ R2 ρ H ((m sd >>= k sd) hd) Q := h
  rw [bind_ap] at h
  cases e : m sd hd with
  | ok a hd' =>
    rw [e] at h
    exact fun ρ' H' b r' s' q => ⟨ρ', hd', sd, a, ⟨r', st.mono s' r.muts, q⟩, ⟨hd, e⟩, h.from s'⟩
  | ex C fs hd' => rw [e] at h; exact h
  | bad => rw [e] at h; exact h
/-- from where one is -/
theorem At.go {α' β' : Type} {R' : Rg → Hp → α' → β' → Prop} {a : α} {b : β} {hd : DH} {sd : SD} (c : At G σ R ρ hd sd H a b) (mono : ∀ ρ ρ' H H' a b, Stp ρ H ρ' H' → Muts ρ H → R ρ H a b → R ρ' H' a b)
    {m : SD → M α'} {k : SD → α' → M γ} (h : Res G W σ R2 ρ H ((m sd >>= k sd) hd) Q) :
    tG G W R' m σ H fun b' H' => ∃ ρ hd sd a', At G σ R ρ hd sd H' a b ∧ At G σ R' ρ hd sd H' a' b' ∧ Res G W σ R2 ρ H' (k sd a' hd) Q := by
  obtain ⟨r, st, q⟩ := c
  refine ⟨ρ, hd, sd, r, st, ?_⟩
  rw [bind_ap] at h
  cases e : m sd hd with
  | ok a' hd' =>
    rw [e] at h
    exact fun ρ' H' b' r' s' q' => ⟨ρ', hd', sd, a', ⟨r', st.mono s' r.muts, mono _ _ _ _ _ _ s' r.muts q⟩, ⟨r', st.mono s' r.muts, q'⟩, h.from s'⟩
  | ex C fs hd' => rw [e] at h; exact h
  | bad => rw [e] at h; exact h
end
def RB : Rg → Hp → Bool → Bool → Prop := fun _ _ a b => a = b
abbrev tE (G : Gx) (W : WX) (m : SD → M D) : TE := tG G W (RV G) m
abbrev tT (G : Gx) (W : WX) (m : SD → M Bool) : TT := tG G W RB m
abbrev tA (G : Gx) (W : WX) (m : SD → M (List D)) : TA := tG G W (RVs G) m
theorem rv_mono {G : Gx} : ∀ ρ ρ' H H' a b, Stp ρ H ρ' H' → Muts ρ H → RV G ρ H a b → RV G ρ' H' a b := fun _ _ _ _ _ _ s m r => RV.mono s m _ _ r
theorem rvs_mono {G : Gx} : ∀ ρ ρ' H H' a b, Stp ρ H ρ' H' → Muts ρ H → RVs G ρ H a b → RVs G ρ' H' a b := fun _ _ _ _ _ _ s m r => RVs.mono s m _ _ r
theorem rb_mono : ∀ ρ ρ' H H' a b, Stp ρ H ρ' H' → Muts ρ H → RB ρ H a b → RB ρ' H' a b := fun _ _ _ _ _ _ _ _ r => r

section
variable {X : Cx} {T : Tb} {W : WX} {e a b c : Expr} {es : List Expr} {pos : Pos}
abbrev PEm (X : Cx) (T : Tb) (W : WX) (e : Expr) (m : SD → M D) : Prop := PE X e (tE (gx X T) W m)
abbrev PTm (X : Cx) (T : Tb) (W : WX) (e : Expr) (m : SD → M Bool) : Prop := PT X e (tT (gx X T) W m)
abbrev PAm (X : Cx) (T : Tb) (W : WX) (es : List Expr) (m : SD → M (List D)) : Prop := PA X es (tA (gx X T) W m)
theorem weakE {t t' : TE} (h : PE X e t) (w : ∀ σ H Q, t' σ H Q → t σ H Q) : PE X e t' := ⟨fun pins s σ H Q I q => h.run pins s σ H Q I (w _ _ _ q)⟩
theorem weakT {t t' : TT} (h : PT X e t) (w : ∀ σ H Q, t' σ H Q → t σ H Q) : PT X e t' := ⟨fun pins s σ H Q I q => h.run pins s σ H Q I (w _ _ _ q)⟩
theorem weakA {t t' : TA} (h : PA X es t) (w : ∀ σ H Q, t' σ H Q → t σ H Q) : PA X es t' := ⟨fun p pins s σ H Q I q => h.run p pins s σ H Q I (w _ _ _ q)⟩
theorem weakS {st : Stmt} {t t' : TS} (h : PS X st t) (w : ∀ D σ H, t' D σ H → t D σ H) : PS X st t' := ⟨fun pins s σ H D I q => h.run pins s σ H D I (w _ _ _ q)⟩
theorem weakSs {st : List Stmt} {t t' : TS} (h : PSs X st t) (w : ∀ D σ H, t' D σ H → t D σ H) : PSs X st t' := ⟨fun pins s σ H D I q => h.run pins s σ H D I (w _ _ _ q)⟩

/-! ### names, constants -/
def mVar (i : Nat) : SD → M D := fun s => match s[i]? with
  | some (some d) => pure d
  | _ => M.bad
def mC (d : D) : SD → M D := fun _ => pure d
theorem em_of (h : PE X e (tVar i)) : PEm X T W e (mVar i) := weakE h fun σ H Q ⟨ρ, hd, sd, r, st, h⟩ => by
  unfold mVar at h
  cases e : sd[i]? with
  | none => rw [e] at h; exact h.elim
  | some o => cases o with
    | none => rw [e] at h; exact h.elim
    | some d =>
      rw [e] at h
      obtain ⟨v, e1, q⟩ := st.2 i d e
      exact ⟨v, e1, h ρ H v r .refl q⟩
theorem em_const {v : V} {d : D} (h : PE X e (tC v)) (rv : ∀ ρ H, RV (gx X T) ρ H d v) : PEm X T W e (mC d) := weakE h fun σ H Q ⟨ρ, hd, sd, r, st, h⟩ => h ρ H v r .refl (rv _ _)

/-! ### argument lists, displays -/
def mNil : SD → M (List D) := fun _ => pure []
def mCons (m : SD → M D) (ml : SD → M (List D)) : SD → M (List D) := fun s => m s >>= fun d => ml s >>= fun ds => pure (d :: ds)
theorem am_nil : PAm X T W [] mNil := weakA pa_nil fun σ H Q ⟨ρ, hd, sd, r, st, h⟩ => h ρ H [] r .refl .nil
theorem am_cons {m : SD → M D} {ml : SD → M (List D)} (he : PEm X T W e m) (hr : PAm X T W es ml) (hs : starEach (e :: es) X.env = (false, eval e X.env) :: starEach es X.env) : PAm X T W (e :: es) (mCons m ml) :=
  weakA (pa_cons he hr hs) fun σ H Q h => by
    refine tG_then (tG_bind (R := RV (gx X T)) (k := fun s d => ml s >>= fun ds => pure (d :: ds)) h) fun v H1 ⟨ρ1, hd1, sd1, d1, c1, h1⟩ => ?_
    refine tG_then (c1.go (R' := RVs (gx X T)) rv_mono (m := ml) (k := fun _ ds => pure (d1 :: ds)) h1) fun vs H2 ⟨ρ2, hd2, sd2, ds, ⟨r2, st2, q⟩, ⟨_, _, q2⟩, h2⟩ => ?_
    exact h2 ρ2 H2 (v :: vs) r2 .refl (.cons q q2)
/-- a list's length is known -/
def Len (n : Nat) (ml : SD → M (List D)) : Prop := ∀ s h ds h', ml s h = .ok ds h' → ds.length = n
theorem len_nil : Len 0 mNil := fun s h ds h' e => by cases e; rfl
theorem len_cons {m : SD → M D} {ml : SD → M (List D)} {n : Nat} (l : Len n ml) : Len (n + 1) (mCons m ml) := fun s h ds h' e => by
  unfold mCons at e
  rw [bind_ap] at e
  cases e1 : m s h with
  | ok d h1 =>
    rw [e1] at e
    simp only [bind_ap] at e
    cases e2 : ml s h1 with
    | ok es h2 =>
      rw [e2] at e
      cases e
      simp [l _ _ _ _ e2]
    | ex C fs h2 => rw [e2] at e; cases e
    | bad => rw [e2] at e; cases e
  | ex C fs h1 => rw [e1] at e; cases e
  | bad => rw [e1] at e; cases e
def mTup (ml : SD → M (List D)) : SD → M D := fun s => ml s >>= fun ds => pure (.tup ds)
theorem em_tup {ml : SD → M (List D)} {n k : Nat} (h : PAm X T W es ml) (l : Len n ml) (hn : n ≤ sizeLine) : PEm X T W (.Tuple es k pos) (mTup ml) :=
  weakE (pe_tup h) fun σ H Q h => by
    refine tG_then (tG_bind' (R := RVs (gx X T)) (k := fun s ds => pure (D.tup ds)) h) fun vs H1 ⟨ρ1, hd1, sd1, ds, ⟨r, st, q⟩, ⟨h0, e0⟩, h1⟩ => ⟨?_, fun p hp => ?_⟩
    · rw [← q.len, l _ _ _ _ e0]; exact hn
    · exact h1 ρ1 _ (.ref p) (r.laid hp) (.laid hp) (.tup (.of upd_same) (RVs.mono (.laid hp) r.muts _ _ q))
/-- a new list: one that will be changed, or not -/
def mkL (mt : Bool) (ds : List D) : M D := fun h => if ds.length ≤ sizeLine then (if mt then .ok (.ref h.length) (h ++ [.lst ds]) else .ok (.lv ds) h) else .bad
theorem mkL_res {G : Gx} {σ : L2.St} {ρ : Rg} {H : Hp} {hd : DH} {mt : Bool} {ds : List D} {vs : List V} {Q : VK} (r : Rep G ρ hd H) (q : RVs G ρ H ds vs) (h : Res G W σ (RV G) ρ H (mkL mt ds hd) Q) :
    vs.length ≤ sizeLine ∧ ∀ p, H p = none → Q (.ref p) (upd H p (.lst vs)) := by
  unfold mkL at h
  by_cases z : ds.length ≤ sizeLine
  · rw [if_pos z] at h
    refine ⟨by rw [← q.len]; exact z, fun p hp => ?_⟩
    cases mt with
    | true =>
      refine h (ρ.add p) _ (.ref p) (r.mk1 hp ⟨vs, upd_same, RVs.mono (.mk1 hp) r.muts _ _ q⟩) (.mk1 hp) (.ref ?_)
      rw [← r.len]; simp [Rg.add]
    | false =>
      exact h ρ _ (.ref p) (r.laid hp) (.laid hp) (.lv (r.out hp) upd_same (RVs.mono (.laid hp) r.muts _ _ q))
  · rw [if_neg z] at h; exact h.elim
def mLst (mt : Bool) (ml : SD → M (List D)) : SD → M D := fun s => ml s >>= mkL mt
theorem em_lst {ml : SD → M (List D)} {mt : Bool} (h : PAm X T W es ml) : PEm X T W (.List es pos) (mLst mt ml) :=
  weakE (pe_lst h) fun σ H Q h => tG_then (tG_bind (R := RVs (gx X T)) (k := fun s ds => mkL mt ds) h) fun vs H1 ⟨ρ1, hd1, sd1, ds, c, h1⟩ => mkL_res c.1 c.2.2 h1

/-! ### operators -/
/-- what an operator by values gives -/
def R2m (X : Cx) (T : Tb) (r : R2) (f : D → D → M D) : Prop := ∀ (W : WX) (ρ : Rg) (hd : DH) (H : Hp) (d e : D) (x y : V) (σ : L2.St) (Q : VK), Rep (gx X T) ρ hd H → RV (gx X T) ρ H d x → RV (gx X T) ρ H e y →
  Res (gx X T) W σ (RV (gx X T)) ρ H (f d e hd) Q → r x y H Q
def m2 (f : D → D → M D) (ma mb : SD → M D) : SD → M D := fun s => ma s >>= fun d => mb s >>= fun e => f d e
theorem op_go {r : R2} {f : D → D → M D} {ma mb : SD → M D} (hf : R2m X T r f) : ∀ σ H Q, tE (gx X T) W (m2 f ma mb) σ H Q → tOp r (tE (gx X T) W ma) (tE (gx X T) W mb) σ H Q := fun σ H Q h => by
  refine tG_then (tG_bind (R := RV (gx X T)) (k := fun s d => mb s >>= fun e => f d e) h) fun x H1 ⟨ρ1, hd1, sd1, d1, c1, h1⟩ => ?_
  refine tG_then (c1.go (R' := RV (gx X T)) rv_mono (m := mb) (k := fun _ e => f d1 e) h1) fun y H2 ⟨ρ2, hd2, sd2, e2, ⟨r2, st2, q⟩, ⟨_, _, q2⟩, h2⟩ => ?_
  exact hf W ρ2 hd2 H2 d1 e2 x y σ Q r2 q q2 h2
theorem em_op {op : Operator} {r : R2} {f : D → D → M D} {ma mb : SD → M D} (ho : OpR X (binaryOp op) r) (hf : R2m X T r f) (ha : PEm X T W a ma) (hb : PEm X T W b mb) : PEm X T W (.BinOp a op b pos) (m2 f ma mb) :=
  weakE (pe_op ho ha hb) (op_go hf)
theorem em_cmp {op : CmpOp} {r : R2} {f : D → D → M D} {ma mb : SD → M D} (ho : OpR X (compareOp op) r) (hf : R2m X T r f) (ha : PEm X T W a ma) (hb : PEm X T W b mb) (hm : behindInMarks op b = false) : PEm X T W (.Compare a [op] [b] pos) (m2 f ma mb) :=
  weakE (pe_cmpR ho ha hb hm) (op_go hf)
/-- a test by a value -/
def mTest (m : SD → M D) : SD → M Bool := fun s => m s >>= fun d => match d with
  | .bl b => pure b
  | _ => M.bad
theorem test_go {m : SD → M D} : ∀ σ H Q, tT (gx X T) W (mTest m) σ H Q → tTest (tE (gx X T) W m) σ H Q := fun σ H Q h => by
  refine tG_then (tG_bind (R := RV (gx X T)) (k := fun s d => match d with
    | .bl b => pure b
    | _ => M.bad) h) fun x H1 ⟨ρ1, hd1, sd1, d1, ⟨r, st, q⟩, h1⟩ => ?_
  cases d1 with
  | bl b => cases q; exact ⟨b, rfl, h1 ρ1 H1 b r .refl rfl⟩
  | _ => exact h1.elim
theorem tm_cmp {op : CmpOp} {r : R2} {f : D → D → M D} {ma mb : SD → M D} (ho : OpR X (compareOp op) r) (hf : R2m X T r f) (ha : PEm X T W a ma) (hb : PEm X T W b mb) (hm : behindInMarks op b = false) : PTm X T W (.Compare a [op] [b] pos) (mTest (m2 f ma mb)) := by
  refine weakT (pt_cmpR ho ha hb hm) fun σ H Q h => ?_
  have h := test_go σ H Q h
  exact op_go hf σ H _ h
/-- the answer of a rule: a value without objects -/
theorem ans {G : Gx} {σ : L2.St} {ρ : Rg} {H : Hp} {hd : DH} {Q : VK} {d : D} {v : V} (r : Rep G ρ hd H) (q : RV G ρ H d v) (h : Res G W σ (RV G) ρ H (.ok d hd) Q) : Q v H := h ρ H v r .refl q
end
end Wy

set_option Elab.async false
set_option linter.all false
set_option maxRecDepth 100000
set_option maxHeartbeats 4000000
namespace Wy
open PySem PySem.Spec PyProof.Rows L2

/-! ### lists and tuples read -/
def listOf (h : DH) : D → Option (List D)
  | .lv l => some l
  | .ref n => match h[n]? with
    | some (.lst l) => some l
    | _ => none
  | _ => none
def rlistOf (h : DH) : D → Option (List D)
  | .rl l => some l
  | d => listOf h d
def seqOf (h : DH) : D → Option (List D)
  | .tup l => some l
  | d => rlistOf h d
section
variable {G : Gx} {ρ : Rg} {H : Hp} {hd : DH}
theorem listOf_rv (r : Rep G ρ hd H) {d : D} {v : V} {l : List D} (q : RV G ρ H d v) (e : listOf hd d = some l) : ∃ a xs, v = .ref a ∧ H a = some (.lst xs) ∧ RVs G ρ H l xs := by
  cases d with
  | lv l' =>
    cases e
    cases q with
    | lv n h rs => exact ⟨_, _, rfl, h, rs⟩
  | ref n =>
    cases q with
    | ref h =>
      have e : (match hd[n]? with
        | some (.lst l) => some l
        | _ => none) = some l := e
      cases c : hd[n]? with
      | none => rw [c] at e; cases e
      | some o => cases o with
        | lst l' =>
          rw [c] at e; cases e
          obtain ⟨xs, h1, rs⟩ := r.ob n _ _ h c
          exact ⟨_, xs, rfl, h1, rs⟩
        | dct _ _ => rw [c] at e; cases e
        | ins _ _ => rw [c] at e; cases e
  | _ => cases e
theorem rlistOf_rv (r : Rep G ρ hd H) {d : D} {v : V} {l : List D} (q : RV G ρ H d v) (e : rlistOf hd d = some l) : ∃ a xs, v = .ref a ∧ SqL G.K H a xs ∧ RVs G ρ H l xs := by
  cases d with
  | rl l' =>
    cases e
    cases q with
    | rl h rs => exact ⟨_, _, rfl, h.sqL, rs⟩
  | _ =>
    obtain ⟨a, xs, e1, e2, rs⟩ := listOf_rv r q e
    exact ⟨a, xs, e1, .of e2, rs⟩
theorem seqOf_rv (r : Rep G ρ hd H) {d : D} {v : V} {l : List D} (q : RV G ρ H d v) (e : seqOf hd d = some l) : ∃ a xs, v = .ref a ∧ (SqL G.K H a xs ∨ SqT G.K H a xs) ∧ RVs G ρ H l xs := by
  cases d with
  | tup l' =>
    cases e
    cases q with
    | tup h rs => exact ⟨_, _, rfl, .inr h, rs⟩
  | _ =>
    obtain ⟨a, xs, e1, e2, rs⟩ := rlistOf_rv r q e
    exact ⟨a, xs, e1, .inl e2, rs⟩
end

/-! ### tuple * int, to a million items -/
def rRepB (K : PySem.W.Frag) : R2 := fun x y H Q => ∃ l k xs, x = .ref l ∧ y = .int k ∧ SqT K H l xs ∧ xs ≠ [] ∧ 2 ≤ k ∧ k * (xs.length : Nat) ≤ 1000000 ∧ ∀ p, H p = none → Q (.ref p) (upd H p (.tup (List.replicate k.toNat xs).flatten))
theorem op_repB {X : Cx} : OpR X (binaryOp .Mult) (rRepB X.K) := fun pins s σ H x y v u Q I rx ry ⟨l, k, xs, ex, ey, hT, hne, h1, h2, q⟩ => by
  subst ex; subst ey
  cases rx
  obtain ⟨t, rfl⟩ := ry
  obtain ⟨its, r, ⟨⟨cls, dd, data, sl⟩, ho, hc, n, hd⟩, hs⟩ := I.tuple hT
  dsimp only at hc hd
  subst hc; subst hd
  have hlen : xs.length = its.length := r.length
  have pos : 0 < its.length := by rw [← hlen]; exact List.length_pos_iff.mpr hne
  have hsz0 : its.toArray.size = its.length := List.size_toArray ..
  have emp : its.toArray.isEmpty = false := by simp [Array.isEmpty, Nat.pos_iff_ne_zero.mp pos]
  have kn : ((k.toNat : Nat) : Int) = k := Int.toNat_of_nonneg (by omega)
  have pr : ((its.toArray.size : Nat) : Int) * k ≤ 1000000 := by rw [hsz0, ← hlen, Int.mul_comm]; exact h2
  have km : k ≤ 1000000 := by
    have h3 : (1 : Int) * k ≤ ((its.toArray.size : Nat) : Int) * k := Int.mul_le_mul_of_nonneg_right (by rw [hsz0]; omega) (by omega)
    omega
  have flat : ∀ {β : Type} (ys : List β), ys.length = its.length → (List.replicate k.toNat ys).flatten.length ≤ sizeLine := fun ys e => by
    rw [lm_len_rep_flat, e, sizeLine_eq]
    have : ((k.toNat * its.length : Nat) : Int) ≤ 1000000 := by
      rw [Int.natCast_mul, kn, Int.mul_comm, ← hsz0]; exact pr
    omega
  have tm : Builtin.Tuple.tupleTooMany (((its.toArray.size : Nat) : Int) * k) = false := by
    unfold Builtin.Tuple.tupleTooMany
    rw [sizeLine_eq]
    exact decide_eq_false (by omega)
  have mul := tuple_mulW l its.toArray n dd sl k t (by rw [decide_eq_false (by omega), decide_eq_false (by omega)]; rfl) (by rw [emp, Bool.false_or]; exact beq_eq_false_iff_ne.mpr (by omega)) (by rw [emp, Bool.or_false]; exact decide_eq_false (by omega)) (by omega) tm
    (by rw [size_rep, List.size_toArray]; exact flat its rfl)
  refine wpAny_binaryOp_repeat_ref (T := "tuple") (U := "int") (by decide) ⟨_, ho, rfl⟩ (fun s' => typeIs_int s' k t) noFill_tuple_mul F.fills_int_mul F.slot_int_rmul repeat_tuple F.slot_int_index.lookup
    (call_meets F.slot_int_rmul (typeIs_int s k t) F.entry_int_rmul (F.args_int_rmul_2 _ _) (int_rmul_tuple k t l its.toArray n dd sl) ⟨ho, rfl, ⟨_, ho, rfl⟩, call_meets F.slot_tuple_mul ⟨_, ho, rfl⟩ F.entry_tuple_mul (F.args_tuple_mul_2 _ _) mul ⟨ho, ?_⟩⟩)
  rw [size_rep]
  exact ⟨.ref s.heap.objs.size, _, I.laid (t' := s.toks) (o := .tup (List.replicate k.toNat xs).flatten) (fun b ob q => Heap.get?_push_of_some _ q) (Nat.le_refl _) ⟨flat xs hlen, _, r.rep k.toNat, IsTup.new _ _⟩, rfl, q _ (I.hok.fresh (Nat.le_refl _))⟩
/-! ### arithmetic -/
def okS (x : Str) : Prop := PyData.strOk x = true
theorem okS_app {x y : Str} (h : okS x) (h' : okS y) : okS (x ++ y) := by
  unfold okS PyData.strOk at *
  show Array.all (x.cps ++ y.cps) _ = true
  simp at *
  exact ⟨h, h'⟩
instance {i j : Int} : Decidable (CMul i j) := by unfold CMul; infer_instance
instance {i j : Int} : Decidable (CMulW i j) := by unfold CMulW; infer_instance
instance {i j : Int} : Decidable (CDivW i j) := by unfold CDivW; infer_instance
instance {i j : Int} : Decidable (CPow i j) := by unfold CPow; infer_instance
def opAdd (mt : Bool) (d e : D) : M D := fun h => match d, e with
  | .int i, .int j => .ok (.int (i + j)) h
  | .str x, .str y => if x.length + y.length ≤ sizeLine then .ok (.str (x ++ y)) h else .bad
  | .tup a, .tup b => if a.length + b.length ≤ sizeLine then .ok (.tup (a ++ b)) h else .bad
  | d, e => match listOf h d, listOf h e with
    | some a, some b => mkL mt (a ++ b) h
    | _, _ => .bad
def opSub (d e : D) : M D := match d, e with
  | .int i, .int j => pure (.int (i - j))
  | _, _ => M.bad
def opMul (d e : D) : M D := match d, e with
  | .int i, .int j => if CMul i j ∨ CMulW i j then pure (.int (i * j)) else M.bad
  | .tup l, .int k => if l ≠ [] ∧ 2 ≤ k ∧ k * (l.length : Nat) ≤ 1000000 then pure (.tup (List.replicate k.toNat l).flatten) else M.bad
  | _, _ => M.bad
def opFdiv (d e : D) : M D := match d, e with
  | .int i, .int j => if CDivW i j then pure (.int (i / j)) else M.bad
  | _, _ => M.bad
def opMod (d e : D) : M D := match d, e with
  | .int i, .int j => if 0 < j then pure (.int (i % j)) else M.bad
  | _, _ => M.bad
def opPow (d e : D) : M D := match d, e with
  | .int i, .int j => if CPow i j then pure (.int (i ^ j.toNat)) else M.bad
  | _, _ => M.bad

section
variable {X : Cx} {T : Tb}
/-- of two rules the one that serves -/
theorem R2m.or {r r' : R2} {f g : D → D → M D} (p : D → D → DH → Bool) (h : R2m X T r f) (h' : R2m X T r' g) : R2m X T (fun x y H Q => r x y H Q ∨ r' x y H Q) (fun d e hd => if p d e hd = true then f d e hd else g d e hd) := by
  intro W ρ hd H d e x y σ Q rr q q' z
  by_cases c : p d e hd = true
  · exact .inl (h W ρ hd H d e x y σ Q rr q q' (by simpa [c] using z))
  · exact .inr (h' W ρ hd H d e x y σ Q rr q q' (by simpa [c] using z))
theorem R2m.eq {r : R2} {f g : D → D → M D} (h : R2m X T r f) (e : ∀ d d' hd, f d d' hd = g d d' hd) : R2m X T r g := by
  have : f = g := by funext d d' hd; exact e d d' hd
  exact this ▸ h
theorem r_sub : R2m X T (rI0 fun i j => .int (i - j)) opSub := by
  intro W ρ hd H d e x y σ Q r q q' z
  cases d <;> cases e <;> first | exact z.elim | skip
  cases q; cases q'
  exact ⟨_, _, rfl, rfl, ans r (.int _) z⟩
theorem r_fdiv : R2m X T (rI CDivW fun i j => .int (i / j)) opFdiv := by
  intro W ρ hd H d e x y σ Q r q q' z
  cases d <;> cases e <;> first | exact z.elim | skip
  rename_i i j
  cases q; cases q'
  unfold opFdiv at z
  by_cases c : CDivW i j
  · simp only [c, if_true] at z
    exact ⟨_, _, rfl, rfl, c, ans r (.int _) z⟩
  · simp only [c, if_false] at z; exact z.elim
theorem r_mod : R2m X T (rI (fun _ j => 0 < j) fun i j => .int (i % j)) opMod := by
  intro W ρ hd H d e x y σ Q r q q' z
  cases d <;> cases e <;> first | exact z.elim | skip
  rename_i i j
  cases q; cases q'
  unfold opMod at z
  by_cases c : 0 < j
  · simp only [c, if_true] at z
    exact ⟨_, _, rfl, rfl, c, ans r (.int _) z⟩
  · simp only [c, if_false] at z; exact z.elim
theorem r_pow : R2m X T (rI CPow fun i j => .int (i ^ j.toNat)) opPow := by
  intro W ρ hd H d e x y σ Q r q q' z
  cases d <;> cases e <;> first | exact z.elim | skip
  rename_i i j
  cases q; cases q'
  unfold opPow at z
  by_cases c : CPow i j
  · simp only [c, if_true] at z
    exact ⟨_, _, rfl, rfl, c, ans r (.int _) z⟩
  · simp only [c, if_false] at z; exact z.elim
abbrev rMulAny (K : PySem.W.Frag) : R2 := fun x y H Q => (rI CMul (fun i j => .int (i * j)) x y H Q ∨ rI CMulW (fun i j => .int (i * j)) x y H Q) ∨ rRepB K x y H Q
theorem op_mulAny : OpR X (binaryOp .Mult) (rMulAny X.K) := (op_mul.or op_mulW).or op_repB
theorem rvs_flat {G : Gx} {ρ : Rg} {H : Hp} {l : List D} {xs : List V} (r : RVs G ρ H l xs) : ∀ n : Nat, RVs G ρ H (List.replicate n l).flatten (List.replicate n xs).flatten
  | 0 => .nil
  | n + 1 => by
    rw [List.replicate_succ, List.replicate_succ, List.flatten_cons, List.flatten_cons]
    exact r.app (rvs_flat r n)
theorem r_mul : R2m X T (rMulAny X.K) opMul := by
  intro W ρ hd H d e x y σ Q r q q' z
  cases d <;> cases e <;> first | exact z.elim | skip
  · rename_i i j
    cases q; cases q'
    unfold opMul at z
    by_cases c : CMul i j ∨ CMulW i j
    · simp only [c, if_true] at z
      rcases c with c | c
      · exact .inl (.inl ⟨_, _, rfl, rfl, c, ans r (.int _) z⟩)
      · exact .inl (.inr ⟨_, _, rfl, rfl, c, ans r (.int _) z⟩)
    · simp only [c, if_false] at z; exact z.elim
  · rename_i l k
    cases q'
    unfold opMul at z
    by_cases c : l ≠ [] ∧ 2 ≤ k ∧ k * (l.length : Nat) ≤ 1000000
    · simp only [c, if_true, ne_eq, not_false_eq_true, and_self] at z
      obtain ⟨c1, c2, c3⟩ := c
      cases q with
      | tup h rs =>
        refine .inr ⟨_, k, _, rfl, rfl, h, ?_, c2, by rw [← rs.len]; exact c3, fun p hp => ?_⟩
        · intro e
          have := rs.len
          rw [e] at this
          exact c1 (List.length_eq_zero_iff.mp this)
        · exact z ρ _ (.ref p) (r.laid hp) (.laid hp) (.tup (.of upd_same) (rvs_flat (RVs.mono (.laid hp) r.muts _ _ rs) _))
    · simp only [c, if_false] at z; exact z.elim
/-- ints, texts, tuples, lists -/
abbrev rAddAny (K : PySem.W.Frag) : R2 := fun x y H Q => ((rI0 (fun i j => .int (i + j)) x y H Q ∨ (∃ i j, x = .str i ∧ y = .str j ∧ i.length + j.length ≤ sizeLine ∧ Q (.str (i ++ j)) H)) ∨ rCatA K x y H Q) ∨ rCat x y H Q
theorem op_addAny : OpR X (binaryOp .Add) (rAddAny X.K) := ((op_add.or op_add_str).or op_catA).or op_cat
theorem RVs.nil_iff {G : Gx} {ρ : Rg} {H : Hp} {l : List D} {xs : List V} (r : RVs G ρ H l xs) : xs = [] ↔ l = [] := by
  cases r <;> simp
theorem r_add (mt : Bool) : R2m X T (rAddAny X.K) (opAdd mt) := by
  intro W ρ hd H d e x y σ Q r q q' z
  have lists : Res (gx X T) W σ (RV (gx X T)) ρ H (match listOf hd d, listOf hd e with
    | some a, some b => mkL mt (a ++ b) hd
    | _, _ => .bad) Q → rAddAny X.K x y H Q := fun z => by
    cases e1 : listOf hd d with
    | none => rw [e1] at z; exact z.elim
    | some a => cases e2 : listOf hd e with
      | none => rw [e1, e2] at z; exact z.elim
      | some b =>
        rw [e1, e2] at z
        obtain ⟨p, xs, rfl, hp, rs⟩ := listOf_rv r q e1
        obtain ⟨p', ys, rfl, hp', rs'⟩ := listOf_rv r q' e2
        obtain ⟨z1, z2⟩ := mkL_res r (rs.app rs') z
        exact .inr ⟨p, p', xs, ys, rfl, rfl, hp, hp', by simpa using z1, z2⟩
  cases d with
  | int i =>
    cases e with
    | int j => cases q; cases q'; exact .inl (.inl (.inl ⟨_, _, rfl, rfl, ans r (.int _) z⟩))
    | _ => exact lists z
  | str a =>
    cases e with
    | str b =>
      cases q with
      | str _ h1 => cases q' with
        | str _ h2 =>
          unfold opAdd at z
          by_cases c : a.length + b.length ≤ sizeLine
          · simp only [c, if_true] at z
            exact .inl (.inl (.inr ⟨_, _, rfl, rfl, c, ans r (.str _ (okS_app h1 h2)) z⟩))
          · simp only [c, if_false] at z; exact z.elim
    | _ => exact lists z
  | tup a =>
    cases e with
    | tup b =>
      cases q with
      | tup h1 r1 => cases q' with
        | tup h2 r2 =>
          unfold opAdd at z
          by_cases c : a.length + b.length ≤ sizeLine
          · simp only [c, if_true] at z
            refine .inl (.inr ⟨_, _, _, _, rfl, rfl, h1, h2, by rw [← r1.len, ← r2.len]; exact c, fun e => ?_, fun _ e => ?_, fun _ _ p hp => ?_⟩)
            · rw [r1.nil_iff] at e; subst e
              exact ans r (.tup h2 r2) z
            · rw [r2.nil_iff] at e; subst e
              rw [List.append_nil] at z
              exact ans r (.tup h1 r1) z
            · exact z ρ _ (.ref p) (r.laid hp) (.laid hp) (.tup (.of upd_same) (RVs.mono (.laid hp) r.muts _ _ (r1.app r2)))
          · simp only [c, if_false] at z; exact z.elim
    | _ => exact lists z
  | _ => exact lists z
end

/-! ### data as the library's data -/
theorem toPG_rv {G : Gx} {ρ : Rg} {H : Hp} (r : Nat → Option (List PyData)) (hr : ∀ n ps a, r n = some ps → ρ.l[n]? = some a → ∃ xs, SqL G.K H a xs ∧ DpAll G.K H xs ps ∧ PyData.canLayAll0 ps = true) :
    (∀ (d : D) (v : V) (p : PyData), RV G ρ H d v → toPG r d = some p → Dp G.K H v p ∧ p.canLay0 = true) ∧
    (∀ (ds : List D) (vs : List V) (ps : List PyData), RVs G ρ H ds vs → toPG.toPGs r ds = some ps → DpAll G.K H vs ps ∧ PyData.canLayAll0 ps = true) := by
  have go : ∀ n : Nat, (∀ (d : D), sizeOf d < n → ∀ (v : V) (p : PyData), RV G ρ H d v → toPG r d = some p → Dp G.K H v p ∧ p.canLay0 = true) ∧
    (∀ (ds : List D), sizeOf ds < n → ∀ (vs : List V) (ps : List PyData), RVs G ρ H ds vs → toPG.toPGs r ds = some ps → DpAll G.K H vs ps ∧ PyData.canLayAll0 ps = true) := by
    intro n
    induction n with
    | zero => exact ⟨fun _ h => absurd h (Nat.not_lt_zero _), fun _ h => absurd h (Nat.not_lt_zero _)⟩
    | succ n ih =>
      refine ⟨fun d hn v p q e => ?_, fun ds hn vs ps q e => ?_⟩
      · cases d with
        | non => cases q; simp only [toPG] at e; cases e; exact ⟨.non, by simp [PyData.canLay0]⟩
        | bl b => cases q; simp only [toPG] at e; cases e; exact ⟨.bl b, by simp [PyData.canLay0]⟩
        | int i => cases q; simp only [toPG] at e; cases e; exact ⟨.int i, by simp [PyData.canLay0]⟩
        | str x => cases q with | str _ h => simp only [toPG] at e; cases e; exact ⟨.str x, by simpa [PyData.canLay0] using h⟩
        | tup l =>
          simp only [toPG] at e
          obtain ⟨ps, e1, rfl⟩ := Option.map_eq_some_iff.mp e
          cases q with
          | tup h rs =>
            obtain ⟨h1, h2⟩ := ih.2 l (by simp at hn; omega) _ _ rs e1
            exact ⟨.tup h h1, by simpa [PyData.canLay0] using h2⟩
        | lv l =>
          simp only [toPG] at e
          obtain ⟨ps, e1, rfl⟩ := Option.map_eq_some_iff.mp e
          cases q with
          | lv _ h rs =>
            obtain ⟨h1, h2⟩ := ih.2 l (by simp at hn; omega) _ _ rs e1
            exact ⟨.lst (.of h) h1, by simpa [PyData.canLay0] using h2⟩
        | rl l =>
          simp only [toPG] at e
          obtain ⟨ps, e1, rfl⟩ := Option.map_eq_some_iff.mp e
          cases q with
          | rl h rs =>
            obtain ⟨h1, h2⟩ := ih.2 l (by simp at hn; omega) _ _ rs e1
            exact ⟨.lst h.sqL h1, by simpa [PyData.canLay0] using h2⟩
        | dv _ _ _ => simp only [toPG] at e; cases e
        | fn _ _ => simp only [toPG] at e; cases e
        | ref m =>
          simp only [toPG] at e
          obtain ⟨ps, e1, rfl⟩ := Option.map_eq_some_iff.mp e
          cases q with
          | ref h =>
            obtain ⟨xs, h1, h2, h3⟩ := hr m ps _ e1 h
            exact ⟨.lst h1 h2, by simpa [PyData.canLay0] using h3⟩
      · cases ds with
        | nil => cases q; simp only [toPG.toPGs] at e; cases e; exact ⟨.nil, by simp [PyData.canLayAll0]⟩
        | cons d ds =>
          cases q with
          | cons q1 q2 =>
            simp only [toPG.toPGs] at e
            cases e1 : toPG r d with
            | none => rw [e1] at e; cases e
            | some p => cases e2 : toPG.toPGs r ds with
              | none => rw [e1, e2] at e; cases e
              | some ps' =>
                rw [e1, e2] at e; cases e
                obtain ⟨h1, h2⟩ := ih.1 d (by simp at hn; omega) _ _ q1 e1
                obtain ⟨h3, h4⟩ := ih.2 ds (by simp at hn; omega) _ _ q2 e2
                exact ⟨.cons h1 h3, by simp [PyData.canLayAll0, h2, h4]⟩
  exact ⟨fun d v p => (go (sizeOf d + 1)).1 d (Nat.lt_succ_self _) v p, fun ds vs ps => (go (sizeOf ds + 1)).2 ds (Nat.lt_succ_self _) vs ps⟩
theorem toPs_rv {G : Gx} {ρ : Rg} {H : Hp} {hd : DH} (r : Rep G ρ hd H) : ∀ (k : Nat) (ds : List D) (vs : List V) (ps : List PyData), RVs G ρ H ds vs → toPs hd k ds = some ps → DpAll G.K H vs ps ∧ PyData.canLayAll0 ps = true
  | 0, ds, vs, ps, q, e => (toPG_rv (fun _ => none) fun _ _ _ z => by cases z).2 ds vs ps q e
  | k + 1, ds, vs, ps, q, e => (toPG_rv (fun n => match hd[n]? with
    | some (.lst l) => toPs hd k l
    | _ => none) fun n ps a z h => by
      cases c : hd[n]? with
      | none => rw [c] at z; cases z
      | some o => cases o with
        | lst l =>
          rw [c] at z
          obtain ⟨xs, h1, rs⟩ := r.ob n a _ h c
          obtain ⟨h2, h3⟩ := toPs_rv r k l xs ps rs z
          exact ⟨xs, .of h1, h2, h3⟩
        | dct _ _ => rw [c] at z; cases z
        | ins _ _ => rw [c] at z; cases z).2 ds vs ps q e
theorem toP_rv {G : Gx} {ρ : Rg} {H : Hp} {hd : DH} (r : Rep G ρ hd H) {d : D} {v : V} {p : PyData} (q : RV G ρ H d v) (e : toP hd d = some p) : Dp G.K H v p ∧ p.canLay0 = true :=
  (toPG_rv (fun n => match hd[n]? with
    | some (.lst l) => toPs hd 3 l
    | _ => none) fun n ps a z h => by
      cases c : hd[n]? with
      | none => rw [c] at z; cases z
      | some o => cases o with
        | lst l =>
          rw [c] at z
          obtain ⟨xs, h1, rs⟩ := r.ob n a _ h c
          obtain ⟨h2, h3⟩ := toPs_rv r 3 l xs ps rs z
          exact ⟨xs, .of h1, h2, h3⟩
        | dct _ _ => rw [c] at z; cases z
        | ins _ _ => rw [c] at z; cases z).1 d v p q e
theorem shaped_of {p : PyData} (h : p.canLay0 = true) (h2 : p.depth ≤ 64) : SeqAt.shaped p = true := by
  unfold SeqAt.shaped
  rw [h, decide_eq_true h2]
  rfl

/-! ### comparisons -/
def eqM (neg : Bool) (d e : D) : M D := fun h => match toP h d, toP h e with
  | some p, some q => if p.depth ≤ 64 ∧ q.depth ≤ 64 then .ok (.bl (if neg then !PyData.eqv p q else PyData.eqv p q)) h else .bad
  | _, _ => .bad
section
variable {X : Cx} {T : Tb}
theorem r_eq : R2m X T (rEqD X.K) (eqM false) := by
  intro W ρ hd H d e x y σ Q r q q' z
  unfold eqM at z
  cases e1 : toP hd d with
  | none => rw [e1] at z; exact z.elim
  | some p => cases e2 : toP hd e with
    | none => rw [e1, e2] at z; exact z.elim
    | some p' =>
      rw [e1, e2] at z
      by_cases c : p.depth ≤ 64 ∧ p'.depth ≤ 64
      · simp only [c, and_self, if_true] at z
        obtain ⟨h1, h2⟩ := toP_rv r q e1
        obtain ⟨h3, h4⟩ := toP_rv r q' e2
        exact ⟨p, p', h1, h3, shaped_of h2 c.1, shaped_of h4 c.2, ans r (.bl _) z⟩
      · simp only [c, if_false] at z; exact z.elim
theorem r_ne : R2m X T (rNeD X.K) (eqM true) := by
  intro W ρ hd H d e x y σ Q r q q' z
  unfold eqM at z
  cases e1 : toP hd d with
  | none => rw [e1] at z; exact z.elim
  | some p => cases e2 : toP hd e with
    | none => rw [e1, e2] at z; exact z.elim
    | some p' =>
      rw [e1, e2] at z
      by_cases c : p.depth ≤ 64 ∧ p'.depth ≤ 64
      · simp only [c, and_self, if_true] at z
        obtain ⟨h1, h2⟩ := toP_rv r q e1
        obtain ⟨h3, h4⟩ := toP_rv r q' e2
        exact ⟨p, p', h1, h3, shaped_of h2 c.1, shaped_of h4 c.2, ans r (.bl _) z⟩
      · simp only [c, if_false] at z; exact z.elim
end
end Wy

set_option Elab.async false
set_option linter.all false
set_option maxRecDepth 100000
set_option maxHeartbeats 4000000
namespace Wy
open PySem PySem.Spec PyProof.Rows L2

section
variable {X : Cx} {T : Tb} {W : WX} {e a b c : Expr} {es : List Expr} {pos p : Pos}

/-! ### subscripts -/
def ixM (d e : D) : M D := fun h => match e with
  | .int i => match d with
    | .str z => if z.length ≤ sizeLine then match atI z.cps.toList i with
      | some c => .ok (.str ⟨#[c]⟩) h
      | none => .bad else .bad
    | d => match seqOf h d with
      | some l => match atI l i with
        | some x => .ok x h
        | none => .bad
      | none => .bad
  | _ => .bad
theorem atI_rv {G : Gx} {ρ : Rg} {H : Hp} {l : List D} {xs : List V} {i : Int} {x : D} (r : RVs G ρ H l xs) (h : atI l i = some x) : ∃ v, atI xs i = some v ∧ RV G ρ H x v := by
  unfold atI at *
  rw [← r.len]
  cases e : ixN l.length i with
  | none => rw [e] at h; cases h
  | some j => rw [e] at h; exact r.get h
theorem okS_one {z : Str} {i : Nat} {c : Nat} (h : okS z) (e : z.cps.toList[i]? = some c) : okS ⟨#[c]⟩ := by
  unfold okS PyData.strOk at *
  simp at *
  obtain ⟨hi, e⟩ := Array.getElem?_eq_some_iff.mp e
  have := h i hi
  omega
theorem r_ix : R2m X T (rIx X.K) ixM := by
  intro W ρ hd H d e x y σ Q r q q' z
  unfold ixM at z
  cases e with
  | int i =>
    cases q'
    have seq : Res (gx X T) W σ (RV (gx X T)) ρ H (match seqOf hd d with
      | some l => match atI l i with
        | some x => Re.ok x hd
        | none => .bad
      | none => .bad) Q → rIx X.K x (.int i) H Q := fun z => by
      cases e1 : seqOf hd d with
      | none => rw [e1] at z; exact z.elim
      | some l =>
        rw [e1] at z
        obtain ⟨a, xs, rfl, hs, rs⟩ := seqOf_rv r q e1
        cases e2 : atI l i with
        | none => simp only [e2] at z; exact z.elim
        | some u =>
          simp only [e2] at z
          obtain ⟨v, hv, rv⟩ := atI_rv rs e2
          rcases hs with hs | hs
          · exact .inl ⟨a, xs, i, v, rfl, rfl, hs, hv, ans r rv z⟩
          · exact .inr (.inl ⟨a, xs, i, v, rfl, rfl, hs, hv, ans r rv z⟩)
    cases d with
    | str s =>
      cases q with
      | str _ ho =>
        by_cases c : s.length ≤ sizeLine
        · simp only [c, if_true] at z
          cases e2 : atI s.cps.toList i with
          | none => simp only [e2] at z; exact z.elim
          | some u =>
            simp only [e2] at z
            refine .inr (.inr ⟨s, i, u, rfl, rfl, c, e2, ans r (.str _ ?_) z⟩)
            unfold atI at e2
            obtain ⟨j, _, e3⟩ := Option.bind_eq_some_iff.mp e2
            exact okS_one ho e3
        · simp only [c, if_false] at z; exact z.elim
    | _ => exact seq z
  | _ => exact z.elim
theorem em_ix {ma mb : SD → M D} (ha : PEm X T W a ma) (hb : PEm X T W b mb) (hs : PlainIx b) : PEm X T W (.Subscript a b pos) (m2 ixM ma mb) := weakE (pe_ix ix_seq ha hb hs) (op_go r_ix)

/-! ### slices -/
def mPart (m : Option (SD → M D)) : SD → M (Option Int) := match m with
  | none => fun _ => pure none
  | some m => fun s => m s >>= fun d => match d with
    | .int i => pure (some i)
    | _ => M.bad
def RO : Rg → Hp → Option Int → Option Int → Prop := fun _ _ a b => a = b
theorem ro_mono : ∀ ρ ρ' H H' a b, Stp ρ H ρ' H' → Muts ρ H → RO ρ H a b → RO ρ' H' a b := fun _ _ _ _ _ _ _ _ r => r
abbrev POm (X : Cx) (T : Tb) (W : WX) (e : Option Expr) (m : Option (SD → M D)) : Prop := PO X e (tG (gx X T) W RO (mPart m))
theorem om_none : POm X T W none none := ⟨fun pins s σ H Q I ⟨ρ, hd, sd, r, st, h⟩ => po_none.run pins s σ H Q I (h ρ H none r .refl rfl)⟩
theorem om_some {m : SD → M D} (h : PEm X T W e m) : POm X T W (some e) (some m) := ⟨fun pins s σ H Q I h' => (po_some h).run pins s σ H Q I (by
  refine tG_then (tG_bind (R := RV (gx X T)) (k := fun _ d => match d with
    | .int i => pure (some i)
    | _ => M.bad) h') fun v H1 ⟨ρ1, hd1, sd1, d, ⟨r, st, q⟩, h1⟩ => ?_
  cases d with
  | int i => cases q; exact ⟨i, rfl, h1 ρ1 H1 (some i) r .refl rfl⟩
  | _ => exact h1.elim)⟩
def cutD (l : List D) (lo hi : Option Int) : List D := (l.drop (HT.sIx l.length 0 lo)).take (HT.sIx l.length l.length hi - HT.sIx l.length 0 lo)
def slM (mt : Bool) (d : D) (lo hi : Option Int) : M D := fun h => match d with
  | .str z => if z.length ≤ sizeLine then .ok (.str (cutS z lo hi)) h else .bad
  | .tup l => .ok (.tup (cutD l lo hi)) h
  | d => match rlistOf h d with
    | some l => mkL mt (cutD l lo hi) h
    | none => .bad
theorem cut_rv {G : Gx} {ρ : Rg} {H : Hp} {l : List D} {xs : List V} {lo hi : Option Int} (r : RVs G ρ H l xs) : RVs G ρ H (cutD l lo hi) (cutV xs lo hi) := by
  unfold cutD cutV
  rw [← r.len]
  exact (r.drop _).take _
theorem okS_sub {z : Str} {l : List Nat} (h : okS z) (e : ∀ c ∈ l, c ∈ z.cps.toList) : okS ⟨l.toArray⟩ := by
  unfold okS PyData.strOk at *
  simp only [Array.all_eq_true', List.mem_toArray, decide_eq_true_eq] at *
  intro c hc
  exact h c (Array.mem_toList_iff.mp (e c hc))
theorem okS_cut {z : Str} {lo hi : Option Int} (h : okS z) : okS (cutS z lo hi) := okS_sub h fun c hc => List.mem_of_mem_drop (List.mem_of_mem_take hc)
abbrev rSlAny (K : PySem.W.Frag) : V → Option Int → Option Int → Hp → VK → Prop := fun x lo hi H Q => rSlL K x lo hi H Q ∨ (rSlA K x lo hi H Q ∨ rSlS x lo hi H Q)
theorem sl_any : SlR X (rSlAny X.K) := sl_list.or (sl_tupA.or sl_str)
theorem rc_sl {mt : Bool} {ρ : Rg} {hd : DH} {H : Hp} {d : D} {x : V} {lo hi : Option Int} {σ : L2.St} {Q : VK} (r : Rep (gx X T) ρ hd H) (q : RV (gx X T) ρ H d x) (z : Res (gx X T) W σ (RV (gx X T)) ρ H (slM mt d lo hi hd) Q) : rSlAny X.K x lo hi H Q := by
  unfold slM at z
  have lists : Res (gx X T) W σ (RV (gx X T)) ρ H (match rlistOf hd d with
    | some l => mkL mt (cutD l lo hi) hd
    | none => .bad) Q → rSlAny X.K x lo hi H Q := fun z => by
    cases e1 : rlistOf hd d with
    | none => rw [e1] at z; exact z.elim
    | some l =>
      rw [e1] at z
      obtain ⟨p, xs, rfl, hp, rs⟩ := rlistOf_rv r q e1
      exact .inl ⟨p, xs, rfl, hp, (mkL_res r (cut_rv rs) z).2⟩
  cases d with
  | str s =>
    cases q with
    | str _ ho =>
      by_cases c : s.length ≤ sizeLine
      · simp only [c, if_true] at z
        exact .inr (.inr ⟨s, rfl, c, ans r (.str _ (okS_cut ho)) z⟩)
      · simp only [c, if_false] at z; exact z.elim
  | tup l =>
    cases q with
    | tup h rs =>
      refine .inr (.inl ⟨_, _, rfl, h, fun ⟨h1, h2⟩ => ?_, fun _ p hp => ?_⟩)
      · have e : cutD l lo hi = l := by
          unfold cutD
          rw [rs.len, h1, h2, ← rs.len]
          simp
        have z : Res (gx X T) W σ (RV (gx X T)) ρ H (.ok (.tup (cutD l lo hi)) hd) Q := z
        rw [e] at z
        exact ans r (.tup h rs) z
      · exact z ρ _ (.ref p) (r.laid hp) (.laid hp) (.tup (.of upd_same) (RVs.mono (.laid hp) r.muts _ _ (cut_rv rs)))
  | _ => exact lists z
def mSl (mt : Bool) (m : SD → M D) (l h : Option (SD → M D)) : SD → M D := fun s => m s >>= fun d => mPart l s >>= fun lo => mPart h s >>= fun hi => slM mt d lo hi
theorem em_sl {mt : Bool} {m : SD → M D} {lo hi : Option Expr} {ml mh : Option (SD → M D)} {p2 : Pos} (he : PEm X T W e m) (hl : POm X T W lo ml) (hh : POm X T W hi mh) : PEm X T W (.Subscript e (.Slice lo hi none p2) pos) (mSl mt m ml mh) :=
  weakE (pe_slice sl_any he hl hh) fun σ H Q h => by
    refine tG_then (tG_bind (R := RV (gx X T)) (k := fun s d => mPart ml s >>= fun lo => mPart mh s >>= fun hi => slM mt d lo hi) h) fun x H1 ⟨ρ1, hd1, sd1, d, c1, h1⟩ => ?_
    refine tG_then (c1.go (R' := RO) rv_mono (m := mPart ml) (k := fun s lo => mPart mh s >>= fun hi => slM mt d lo hi) h1) fun l H2 ⟨ρ2, hd2, sd2, lo, c2, ⟨_, _, e1⟩, h2⟩ => ?_
    obtain rfl : lo = l := e1
    refine tG_then (c2.go (R' := RO) rv_mono (m := mPart mh) (k := fun _ hi => slM mt d lo hi) h2) fun u H3 ⟨ρ3, hd3, sd3, hi, ⟨r, _, q⟩, ⟨_, _, e2⟩, h3⟩ => ?_
    obtain rfl : hi = u := e2
    exact rc_sl r q h3

/-! ### calls of built-ins -/
def Cm (X : Cx) (T : Tb) (r : List V → Hp → VK → Prop) (f : List D → M D) : Prop := ∀ (W : WX) (ρ : Rg) (hd : DH) (H : Hp) (ds : List D) (vs : List V) (σ : L2.St) (Q : VK), Rep (gx X T) ρ hd H → RVs (gx X T) ρ H ds vs →
  Res (gx X T) W σ (RV (gx X T)) ρ H (f ds hd) Q → r vs H Q
theorem CallR.or {f : Value} {r r' : List V → Hp → VK → Prop} (h : CallR X f r) (h' : CallR X f r') : CallR X f (fun xs H Q => r xs H Q ∨ r' xs H Q) := by
  intro pins s σ H xs us Q I rv q
  rcases q with q | q
  · exact h pins s σ H xs us Q I rv q
  · exact h' pins s σ H xs us Q I rv q
def mCall (f : List D → M D) (ml : SD → M (List D)) : SD → M D := fun s => ml s >>= f
theorem call_go {r : List V → Hp → VK → Prop} {f : List D → M D} {ml : SD → M (List D)} (hf : Cm X T r f) : ∀ σ H Q, tE (gx X T) W (mCall f ml) σ H Q → tCB r (tA (gx X T) W ml) σ H Q := fun σ H Q h =>
  tG_then (tG_bind (R := RVs (gx X T)) (k := fun _ ds => f ds) h) fun vs H1 ⟨ρ1, hd1, sd1, ds, ⟨r1, _, q⟩, h1⟩ => hf W ρ1 hd1 H1 ds vs σ Q r1 q h1
theorem em_callB {id : String} {x : Str} {r : List V → Hp → VK → Prop} {f : List D → M D} {ml : SD → M (List D)} (hc : CallR X (.builtin id) r) (hf : Cm X T r f) (hg : Gl X x) (hm : X.mg x = none) (hv : bootBuiltins x = some (.builtin id)) (ha : PAm X T W (e :: es) ml)
    (hn : x ≠ "__name__") (hdb : (x == ("__debug__" : Str)) = false) (he : starEach (e :: es) X.env = (false, eval e X.env) :: starEach es X.env) (hpl : (backTo pos (starEach es X.env)).any (·.1) = false) : PEm X T W (.Call (.Name x p) (e :: es) [] pos) (mCall f ml) :=
  weakE (pe_callB hc hg hm hv ha hn hdb he hpl) (call_go hf)
theorem em_callT {id : String} {x : Str} {r : List V → Hp → VK → Prop} {f : List D → M D} {ml : SD → M (List D)} (hc : CallR X (.type id) r) (hf : Cm X T r f) (hg : Gl X x) (hm : X.mg x = none) (hv : bootBuiltins x = some (.type id)) (ha : PAm X T W (e :: es) ml)
    (hn : x ≠ "__name__") (hdb : (x == ("__debug__" : Str)) = false) (he : starEach (e :: es) X.env = (false, eval e X.env) :: starEach es X.env) (hpl : (backTo pos (starEach es X.env)).any (·.1) = false) : PEm X T W (.Call (.Name x p) (e :: es) [] pos) (mCall f ml) :=
  weakE (pe_callTy hc hg hm hv ha hn hdb he hpl) (call_go hf)
def one (f : D → M D) : List D → M D
  | [d] => f d
  | _ => M.bad
theorem one_res {G : Gx} {ρ : Rg} {H : Hp} {hd : DH} {f : D → M D} {ds : List D} {vs : List V} {σ : L2.St} {Q : VK} (q : RVs G ρ H ds vs) (z : Res G W σ (RV G) ρ H (one f ds hd) Q) : ∃ d v, ds = [d] ∧ vs = [v] ∧ RV G ρ H d v ∧ Res G W σ (RV G) ρ H (f d hd) Q := by
  cases ds with
  | nil => exact z.elim
  | cons d t => cases t with
    | nil =>
      obtain ⟨v, rfl, q1⟩ := q.one
      exact ⟨d, v, rfl, rfl, q1, z⟩
    | cons _ _ => exact z.elim
def two (f : D → D → M D) : List D → M D
  | [d, e] => f d e
  | _ => M.bad
theorem two_res {G : Gx} {ρ : Rg} {H : Hp} {hd : DH} {f : D → D → M D} {ds : List D} {vs : List V} {σ : L2.St} {Q : VK} (q : RVs G ρ H ds vs) (z : Res G W σ (RV G) ρ H (two f ds hd) Q) :
    ∃ d e v u, ds = [d, e] ∧ vs = [v, u] ∧ RV G ρ H d v ∧ RV G ρ H e u ∧ Res G W σ (RV G) ρ H (f d e hd) Q := by
  cases ds with
  | nil => exact z.elim
  | cons d t => cases t with
    | nil => exact z.elim
    | cons e t => cases t with
      | nil =>
        obtain ⟨v, u, rfl, q1, q2⟩ := q.two
        exact ⟨d, e, v, u, rfl, rfl, q1, q2, z⟩
      | cons _ _ => exact z.elim
/-- len -/
def len1 : D → M D := fun d h => match d with
  | .str z => if z.length ≤ sizeLine then .ok (.int z.length) h else .bad
  | d => match seqOf h d with
    | some l => .ok (.int l.length) h
    | none => .bad
abbrev rLenAny (K : PySem.W.Frag) : List V → Hp → VK → Prop := fun xs H Q => (∃ p ys, xs = [.ref p] ∧ (SqL K H p ys ∨ SqT K H p ys) ∧ Q (.int ys.length) H) ∨ (∃ z, xs = [.str z] ∧ z.length ≤ sizeLine ∧ Q (.int z.length) H)
theorem c_len : Cm X T (rLenAny X.K) (one len1) := by
  intro W ρ hd H ds vs σ Q r q z
  obtain ⟨d, v, rfl, rfl, q, z⟩ := one_res q z
  unfold len1 at z
  have seq : Res (gx X T) W σ (RV (gx X T)) ρ H (match seqOf hd d with
      | some l => Re.ok (.int l.length) hd
      | none => .bad) Q → rLenAny X.K [v] H Q := fun z => by
    cases e1 : seqOf hd d with
    | none => rw [e1] at z; exact z.elim
    | some l =>
      rw [e1] at z
      obtain ⟨p, xs, rfl, hp, rs⟩ := seqOf_rv r q e1
      refine .inl ⟨p, xs, rfl, hp, ?_⟩
      rw [← rs.len]
      exact ans r (.int _) z
  cases d with
  | str s =>
    cases q
    by_cases c : s.length ≤ sizeLine
    · simp only [c, if_true] at z
      exact .inr ⟨s, rfl, c, ans r (.int _) z⟩
    · simp only [c, if_false] at z; exact z.elim
  | _ => exact seq z
theorem b_len : CallR X (.builtin "len") (rLenAny X.K) := CallR.or call_len_seq call_len_str
/-- tuple, list -/
def tup1 : D → M D := fun d h => match seqOf h d with
    | some l => .ok (.tup l) h
    | none => .bad
abbrev rTupAny (K : PySem.W.Frag) : List V → Hp → VK → Prop := fun xs H Q => ∃ p ys, xs = [.ref p] ∧ ((SqL K H p ys ∧ ∀ l, H l = none → Q (.ref l) (upd H l (.tup ys))) ∨ (SqT K H p ys ∧ Q (.ref p) H))
theorem c_tup : Cm X T (rTupAny X.K) (one tup1) := by
  intro W ρ hd H ds vs σ Q r q z
  obtain ⟨d, v, rfl, rfl, q, z⟩ := one_res q z
  unfold tup1 at z
  cases e1 : seqOf hd d with
  | none => simp only [e1] at z; exact z.elim
  | some l =>
    simp only [e1] at z
    obtain ⟨p, xs, rfl, hp, rs⟩ := seqOf_rv r q e1
    rcases hp with hp | hp
    · exact ⟨p, xs, rfl, .inl ⟨hp, fun l hl => z ρ _ (.ref l) (r.laid hl) (.laid hl) (.tup (.of upd_same) (RVs.mono (.laid hl) r.muts _ _ rs))⟩⟩
    · exact ⟨p, xs, rfl, .inr ⟨hp, ans r (.tup hp rs) z⟩⟩
def list1 (mt : Bool) : D → M D := fun d h => match seqOf h d with
    | some l => mkL mt l h
    | none => .bad
abbrev rListAny (K : PySem.W.Frag) : List V → Hp → VK → Prop := fun xs H Q => ∃ p ys, xs = [.ref p] ∧ (SqL K H p ys ∨ SqT K H p ys) ∧ ∀ l, H l = none → Q (.ref l) (upd H l (.lst ys))
theorem c_list (mt : Bool) : Cm X T (rListAny X.K) (one (list1 mt)) := by
  intro W ρ hd H ds vs σ Q r q z
  obtain ⟨d, v, rfl, rfl, q, z⟩ := one_res q z
  unfold list1 at z
  cases e1 : seqOf hd d with
  | none => simp only [e1] at z; exact z.elim
  | some l =>
    simp only [e1] at z
    obtain ⟨p, xs, rfl, hp, rs⟩ := seqOf_rv r q e1
    exact ⟨p, xs, rfl, hp, (mkL_res r rs z).2⟩
/-- min, max of two ints; int -/
def min2 : D → D → M D := fun d e => match d, e with
  | .int i, .int j => pure (.int (if j < i then j else i))
  | _, _ => M.bad
def max2 : D → D → M D := fun d e => match d, e with
  | .int i, .int j => pure (.int (if j > i then j else i))
  | _, _ => M.bad
theorem c_min : Cm X T (fun xs H Q => ∃ i j, xs = [.int i, .int j] ∧ Q (.int (if j < i then j else i)) H) (two min2) := by
  intro W ρ hd H ds vs σ Q r q z
  obtain ⟨d, e, v, u, rfl, rfl, q1, q2, z⟩ := two_res q z
  cases d <;> cases e <;> first | exact z.elim | skip
  cases q1; cases q2
  exact ⟨_, _, rfl, ans r (.int _) z⟩
theorem c_max : Cm X T (fun xs H Q => ∃ i j, xs = [.int i, .int j] ∧ Q (.int (if j > i then j else i)) H) (two max2) := by
  intro W ρ hd H ds vs σ Q r q z
  obtain ⟨d, e, v, u, rfl, rfl, q1, q2, z⟩ := two_res q z
  cases d <;> cases e <;> first | exact z.elim | skip
  cases q1; cases q2
  exact ⟨_, _, rfl, ans r (.int _) z⟩
def int1 : D → M D := fun d => match d with
  | .int i => pure (.int i)
  | .bl b => pure (.int (if b then 1 else 0))
  | _ => M.bad
theorem c_int : Cm X T (fun xs H Q => (∃ i, xs = [.int i] ∧ Q (.int i) H) ∨ ∃ k, xs = [.bl k] ∧ Q (.int (if k then 1 else 0)) H) (one int1) := by
  intro W ρ hd H ds vs σ Q r q z
  obtain ⟨d, v, rfl, rfl, q, z⟩ := one_res q z
  cases d <;> first | exact z.elim | skip
  · cases q; exact .inr ⟨_, rfl, ans r (.int _) z⟩
  · cases q; exact .inl ⟨_, rfl, ans r (.int _) z⟩
end
end Wy

set_option Elab.async false
set_option linter.all false
set_option maxRecDepth 100000
set_option maxHeartbeats 4000000
namespace Wy
open PySem PySem.Spec PyProof.Rows L2

section
variable {X : Cx} {T : Tb} {W : WX} {e a b c o : Expr} {es : List Expr} {pos p : Pos}

/-! ### methods of built-in types -/
def Mm (X : Cx) (T : Tb) (r : V → List V → Hp → VK → Prop) (f : D → List D → M D) : Prop := ∀ (W : WX) (ρ : Rg) (hd : DH) (H : Hp) (d : D) (x : V) (ds : List D) (vs : List V) (σ : L2.St) (Q : VK), Rep (gx X T) ρ hd H → RV (gx X T) ρ H d x →
  RVs (gx X T) ρ H ds vs → Res (gx X T) W σ (RV (gx X T)) ρ H (f d ds hd) Q → r x vs H Q
/-- which type a value has -/
inductive Ty | list | str | dict
def Ty.nm : Ty → String
  | .list => "list"
  | .str => "str"
  | .dict => "dict"
def tyM (t : Ty) (d : D) : M Unit := fun h => match t with
  | .list => match rlistOf h d with
    | some _ => .ok () h
    | none => .bad
  | .str => match d with
    | .str _ => .ok () h
    | _ => .bad
  | .dict => match d with
    | .dv false _ _ => .ok () h
    | .ref n => match h[n]? with
      | some (.dct false _) => .ok () h
      | _ => .bad
    | _ => .bad
theorem tyM_res {G : Gx} {ρ : Rg} {H : Hp} {hd : DH} {t : Ty} {d : D} {x : V} {α β : Type} {k : M α} {R : Rg → Hp → α → β → Prop} {σ : L2.St} {Q : β → Hp → Prop} (r : Rep G ρ hd H) (q : RV G ρ H d x) (z : Res G W σ R ρ H ((tyM t d >>= fun _ => k) hd) Q) :
    tyV G.K t.nm x H ∧ Res G W σ R ρ H (k hd) Q := by
  rw [bind_ap] at z
  unfold tyM at z
  cases t with
  | list =>
    cases e : rlistOf hd d with
    | none => simp only [e] at z; exact z.elim
    | some l =>
      simp only [e] at z
      obtain ⟨a, xs, rfl, h, _⟩ := rlistOf_rv r q e
      exact ⟨.inl ⟨rfl, xs, h⟩, z⟩
  | str =>
    cases d <;> first | exact z.elim | skip
    cases q
    exact ⟨rfl, z⟩
  | dict =>
    cases d with
    | dv tk ks vs =>
      cases tk with
      | false => cases q with
        | dvk _ h _ _ _ => exact ⟨.inr (.inr (.inl ⟨rfl, .inl ⟨_, h⟩⟩)), z⟩
      | true => exact z.elim
    | ref n =>
      cases q with
      | ref hn =>
        cases c : hd[n]? with
        | none => simp only [c] at z; exact z.elim
        | some ob => cases ob with
          | dct tk kvs => cases tk with
            | false =>
              simp only [c] at z
              obtain ⟨ks, us, h, _⟩ := r.ob n _ _ hn c
              exact ⟨.inr (.inr (.inl ⟨rfl, .inl ⟨_, h⟩⟩)), z⟩
            | true => simp only [c] at z; exact z.elim
          | lst _ => simp only [c] at z; exact z.elim
          | ins _ _ => simp only [c] at z; exact z.elim
    | _ => exact z.elim
def mMeth (t : Ty) (f : D → List D → M D) (mo : SD → M D) (ml : SD → M (List D)) : SD → M D := fun s => mo s >>= fun d => tyM t d >>= fun _ => ml s >>= fun ds => f d ds
theorem em_bm {t : Ty} {name : Str} {id : String} {r : V → List V → Hp → VK → Prop} {f : D → List D → M D} {mo : SD → M D} {ml : SD → M (List D)} {apos cpos : Pos} (pa : PlainAttrs t.nm) (slot : Slot t.nm name id) (hty : typeOf (.builtin id) = pure (.type "method_descriptor")) (hm : MtR X id r) (hf : Mm X T r f)
    (ho : PEm X T W o mo) (ha : PAm X T W (e :: es) ml) (hbase : attributeBase o name X.env (eval o X.env) = eval o X.env)
    (hfew : ((backTo cpos (starEach (e :: es) X.env)).all (fun x => !x.1) && (backToKw cpos (keywordEach [] X.env)).all (fun x => x.1.isSome) && decide ((e :: es).length + ([] : List Keyword).length + (if ([] : List Keyword).isEmpty then 0 else 1) < 30)) = true)
    (hline : (apos.endLine == cpos.line) = true) (hs : starEach (e :: es) X.env = (false, eval e X.env) :: starEach es X.env) (hplain : (backTo cpos (starEach es X.env)).any (·.1) = false) : PEm X T W (.Call (.Attribute o name apos) (e :: es) [] cpos) (mMeth t f mo ml) :=
  weakE (pe_bm pa slot hty hm ho ha hbase hfew hline hs hplain) fun σ H Q h => by
    refine tG_then (tG_bind (R := RV (gx X T)) (k := fun s d => tyM t d >>= fun _ => ml s >>= fun ds => f d ds) h) fun x H1 ⟨ρ1, hd1, sd1, d1, c1, h1⟩ => ?_
    obtain ⟨ty, h1⟩ := tyM_res (k := ml sd1 >>= fun ds => f d1 ds) c1.1 c1.2.2 h1
    refine ⟨ty, ?_⟩
    refine tG_then (c1.go (R' := RVs (gx X T)) rv_mono (m := ml) (k := fun _ ds => f d1 ds) h1) fun vs H2 ⟨ρ2, hd2, sd2, ds, ⟨r2, _, q⟩, ⟨_, _, q2⟩, h2⟩ => ?_
    exact hf W ρ2 hd2 H2 d1 x ds vs σ Q r2 q q2 h2
theorem em_bm0 {t : Ty} {name : Str} {id : String} {r : V → List V → Hp → VK → Prop} {f : D → List D → M D} {mo : SD → M D} {apos cpos : Pos} (pa : PlainAttrs t.nm) (slot : Slot t.nm name id) (hty : typeOf (.builtin id) = pure (.type "method_descriptor")) (hm : MtR X id r) (hf : Mm X T r f)
    (ho : PEm X T W o mo) (hbase : attributeBase o name X.env (eval o X.env) = eval o X.env) (hline : (apos.endLine == cpos.line) = true) : PEm X T W (.Call (.Attribute o name apos) [] [] cpos) (mMeth t f mo mNil) :=
  weakE (pe_bm0 pa slot hty hm ho hbase hline) fun σ H Q h => by
    refine tG_then (tG_bind (R := RV (gx X T)) (k := fun s d => tyM t d >>= fun _ => mNil s >>= fun ds => f d ds) h) fun x H1 ⟨ρ1, hd1, sd1, d1, c1, h1⟩ => ?_
    obtain ⟨ty, h1⟩ := tyM_res (k := f d1 []) c1.1 c1.2.2 h1
    exact ⟨ty, hf W ρ1 hd1 H1 d1 x [] [] σ Q c1.1 c1.2.2 .nil h1⟩

/-- a list that is changed -/
def mutL (d : D) (f : List D → Option (List D × D)) : M D := fun h => match d with
  | .ref n => match h[n]? with
    | some (.lst l) => match f l with
      | some (l', x) => .ok x (h.set n (.lst l'))
      | none => .bad
    | _ => .bad
  | _ => .bad
theorem mutL_res {G : Gx} {ρ : Rg} {H : Hp} {hd : DH} {d : D} {v : V} {f : List D → Option (List D × D)} {σ : L2.St} {Q : VK} (r : Rep G ρ hd H) (q : RV G ρ H d v) (z : Res G W σ (RV G) ρ H (mutL d f hd) Q) :
    ∃ a l xs l' x, v = .ref a ∧ H a = some (.lst xs) ∧ RVs G ρ H l xs ∧ f l = some (l', x) ∧ ∀ xs' u, RVs G ρ H l' xs' → RV G ρ H x u → Q u (upd H a (.lst xs')) := by
  unfold mutL at z
  cases d <;> first | exact z.elim | skip
  rename_i n
  cases q with
  | ref hn =>
    rename_i a
    cases c : hd[n]? with
    | none => simp only [c] at z; exact z.elim
    | some ob => cases ob with
      | lst l =>
        simp only [c] at z
        obtain ⟨xs, h, rs⟩ := r.ob n _ _ hn c
        cases e : f l with
        | none => simp only [e] at z; exact z.elim
        | some w =>
          obtain ⟨l', x⟩ := w
          simp only [e] at z
          refine ⟨a, l, xs, l', x, rfl, h, rs, e, fun xs' u r1 r2 => ?_⟩
          have s : Stp ρ H ρ (upd H a (.lst xs')) := .wr (List.mem_of_getElem? hn)
          exact z ρ _ u (r.wr hn ⟨xs', upd_same, RVs.mono s r.muts _ _ r1⟩) s (RV.mono s r.muts _ _ r2)
      | dct _ _ => simp only [c] at z; exact z.elim
      | ins _ _ => simp only [c] at z; exact z.elim
def fAppend (d : D) (ds : List D) : M D := match ds with
  | [y] => mutL d fun l => if l.length < sizeLine then some (l ++ [y], .non) else none
  | _ => M.bad
theorem m_append : Mm X T rAppend fAppend := by
  intro W ρ hd H d x ds vs σ Q r q qs z
  match ds, qs, z with
  | [], _, z => exact z.elim
  | _ :: _ :: _, _, z => exact z.elim
  | [y], qs, z =>
    obtain ⟨u, rfl, qy⟩ := qs.one
    obtain ⟨a, l, xs, l', z', rfl, h, rs, e, fin⟩ := mutL_res r q z
    by_cases c : l.length < sizeLine
    · rw [if_pos c] at e
      cases e
      exact ⟨a, xs, u, rfl, rfl, h, by rw [← rs.len]; exact c, fin _ _ (rs.app (.cons qy .nil)) .non⟩
    · rw [if_neg c] at e; cases e
def fInsert (d : D) (ds : List D) : M D := match ds with
  | [.int i, y] => mutL d fun l => if l.length < sizeLine ∧ 0 ≤ i ∧ i < 2 ^ 63 then some (l.take i.toNat ++ [y] ++ l.drop i.toNat, .non) else none
  | _ => M.bad
theorem m_insert : Mm X T (fun x vs H Q => ∃ (l : Addr) (xs : List V) (i : Int) (y : V), x = .ref l ∧ vs = [.int i, y] ∧ H l = some (.lst xs) ∧ xs.length < sizeLine ∧ 0 ≤ i ∧ i < 2 ^ 63 ∧ Q .non (upd H l (.lst (xs.take i.toNat ++ [y] ++ xs.drop i.toNat)))) fInsert := by
  intro W ρ hd H d x ds vs σ Q r q qs z
  unfold fInsert at z
  split at z
  · rename_i i y
    obtain ⟨u, w, rfl, qi, qy⟩ := qs.two
    cases qi
    obtain ⟨a, l, xs, l', z', rfl, h, rs, e, fin⟩ := mutL_res r q z
    by_cases c : l.length < sizeLine ∧ 0 ≤ i ∧ i < 2 ^ 63
    · rw [if_pos c] at e
      cases e
      exact ⟨a, xs, i, w, rfl, rfl, h, by rw [← rs.len]; exact c.1, c.2.1, c.2.2, fin _ _ (((rs.take _).app (.cons qy .nil)).app (rs.drop _)) .non⟩
    · rw [if_neg c] at e; cases e
  · exact z.elim
/-- the first place of an equal one -/
def fstEq (p : PyData) : List PyData → Option Nat
  | [] => none
  | q :: qs => if PyData.eqv q p = true then some 0 else (fstEq p qs).map (· + 1)
theorem fstEq_at {p : PyData} : ∀ {l : List PyData} {j : Nat}, fstEq p l = some j → (∃ z, l[j]? = some z ∧ PyData.eqv z p = true) ∧ ∀ (m : Nat) z', m < j → l[m]? = some z' → PyData.eqv z' p = false
  | [], j, h => by cases h
  | q :: qs, j, h => by
    unfold fstEq at h
    by_cases c : PyData.eqv q p = true
    · rw [if_pos c] at h; cases h
      exact ⟨⟨q, rfl, c⟩, fun m z' hm => absurd hm (Nat.not_lt_zero _)⟩
    · rw [if_neg c] at h
      obtain ⟨i, h1, rfl⟩ := Option.map_eq_some_iff.mp h
      obtain ⟨⟨z, h2, h3⟩, h4⟩ := fstEq_at h1
      refine ⟨⟨z, by simpa using h2, h3⟩, fun m z' hm e => ?_⟩
      cases m with
      | zero =>
        have e : q = z' := by simpa using e
        subst e
        simpa using c
      | succ m => exact h4 m z' (by omega) (by simpa using e)
def fIndex (d : D) (ds : List D) : M D := fun h => match ds with
  | [y] => match toP h d, toP h y with
    | some (.list ps), some p => if (PyData.list ps).depth ≤ 64 ∧ p.depth ≤ 64 then match fstEq p ps with
      | some j => .ok (.int (j : Nat)) h
      | none => .bad else .bad
    | _, _ => .bad
  | _ => .bad
theorem m_index : Mm X T (rIndexD X.K) fIndex := by
  intro W ρ hd H d x ds vs σ Q r q qs z
  unfold fIndex at z
  match ds, qs, z with
  | [], _, z => exact z.elim
  | _ :: _ :: _, _, z => exact z.elim
  | [y], qs, z =>
    obtain ⟨u, rfl, qy⟩ := qs.one
    cases e1 : toP hd d with
    | none => simp only [e1] at z; exact z.elim
    | some P => cases e2 : toP hd y with
      | none => simp only [e1, e2] at z; cases P <;> exact z.elim
      | some p =>
        simp only [e1, e2] at z
        cases P <;> first | exact z.elim | skip
        rename_i ps
        by_cases c : (PyData.list ps).depth ≤ 64 ∧ p.depth ≤ 64
        · simp only [c, and_self, if_true] at z
          cases e3 : fstEq p ps with
          | none => simp only [e3] at z; exact z.elim
          | some j =>
            simp only [e3] at z
            obtain ⟨h1, h2⟩ := toP_rv r q e1
            obtain ⟨h3, h4⟩ := toP_rv r qy e2
            obtain ⟨⟨w, h5, h6⟩, h7⟩ := fstEq_at e3
            cases h1 with
            | lst hs ha => exact ⟨_, u, p, ps, j, w, rfl, rfl, .lst hs ha, h3, shaped_of h2 c.1, shaped_of h4 c.2, h5, h6, h7, ans r (.int _) z⟩
        · simp only [c, if_false] at z; exact z.elim
end
end Wy

set_option Elab.async false
set_option linter.all false
set_option maxRecDepth 100000
set_option maxHeartbeats 4000000
namespace Wy
open PySem PySem.Spec PyProof.Rows L2

/-! ### statements -/
inductive Fl where
  | nx (s : SD)
  | rt (d : D)
  | bk (s : SD)
  | ct (s : SD)
/-- a wish that doesn't look at the slots -/
abbrev WC (E : XK) : WX := fun c d _ H => E c d H
def ResS (G : Gx) (E : XK) (ρ : Rg) (H : Hp) (r : Re Fl) (D : Ends) : Prop := match r with
  | .ok (.nx s) hd => ∀ ρ' H' σ', Rep G ρ' hd H' → Stp ρ H ρ' H' → RSt G ρ' H' s σ' → D.nx σ' H'
  | .ok (.rt d) hd => ∀ ρ' H' v, Rep G ρ' hd H' → Stp ρ H ρ' H' → RV G ρ' H' d v → D.rt v H'
  | .ok (.bk s) hd => ∀ ρ' H' σ', Rep G ρ' hd H' → Stp ρ H ρ' H' → RSt G ρ' H' s σ' → D.bk σ' H'
  | .ok (.ct s) hd => ∀ ρ' H' σ', Rep G ρ' hd H' → Stp ρ H ρ' H' → RSt G ρ' H' s σ' → D.ct σ' H'
  | .ex C fs hd => ∀ ρ' H' c dd, Rep G ρ' hd H' → Stp ρ H ρ' H' → ExR G ρ' H' C fs c dd → E c dd H'
  | .bad => False
def tS (G : Gx) (E : XK) (m : SD → M Fl) : TS := fun D σ H => ∃ ρ hd sd, Rep G ρ hd H ∧ RSt G ρ H sd σ ∧ ResS G E ρ H (m sd hd) D
section
variable {G : Gx} {E : XK} {ρ ρ' : Rg} {H H' : Hp} {D D' : Ends} {σ : L2.St}
theorem ResS.from {r : Re Fl} (s : Stp ρ H ρ' H') (h : ResS G E ρ H r D) : ResS G E ρ' H' r D := by
  cases r with
  | ok f hd => cases f with
    | nx _ => exact fun ρ2 H2 v r2 s2 q => h ρ2 H2 v r2 (s.trans s2) q
    | rt _ => exact fun ρ2 H2 v r2 s2 q => h ρ2 H2 v r2 (s.trans s2) q
    | bk _ => exact fun ρ2 H2 v r2 s2 q => h ρ2 H2 v r2 (s.trans s2) q
    | ct _ => exact fun ρ2 H2 v r2 s2 q => h ρ2 H2 v r2 (s.trans s2) q
  | ex C fs hd => exact fun ρ2 H2 c dd r2 s2 q => h ρ2 H2 c dd r2 (s.trans s2) q
  | bad => exact h
/-- an expression, then a statement's end -/
theorem tS_bind {α β : Type} {R : Rg → Hp → α → β → Prop} {m : SD → M α} {k : SD → α → M Fl} (h : tS G E (fun s => m s >>= k s) D σ H) :
    tG G (WC E) R m σ H fun b H' => ∃ ρ hd sd a, At G σ R ρ hd sd H' a b ∧ ResS G E ρ H' (k sd a hd) D := by
  obtain ⟨ρ, hd, sd, r, st, h⟩ := h
  refine ⟨ρ, hd, sd, r, st, ?_⟩
  have h : ResS G E ρ H ((m sd >>= k sd) hd) D := h
  rw [bind_ap] at h
  cases e : m sd hd with
  | ok a hd' =>
    rw [e] at h
    exact fun ρ' H' b r' s' q => ⟨ρ', hd', sd, a, ⟨r', st.mono s' r.muts, q⟩, h.from s'⟩
  | ex C fs hd' => rw [e] at h; exact h
  | bad => rw [e] at h; exact h
def mSeq (m k : SD → M Fl) : SD → M Fl := fun s => m s >>= fun f => match f with
  | .nx s' => k s'
  | f => pure f
theorem seq_go {m k : SD → M Fl} (h : tS G E (mSeq m k) D σ H) : tSeq (tS G E m) (tS G E k) D σ H := by
  obtain ⟨ρ, hd, sd, r, st, h⟩ := h
  refine ⟨ρ, hd, sd, r, st, ?_⟩
  unfold mSeq at h
  rw [bind_ap] at h
  cases e : m sd hd with
  | ok f hd' =>
    rw [e] at h
    cases f with
    | nx s => exact fun ρ' H' σ' r' s' q => ⟨ρ', hd', s, r', q, ResS.from s' h⟩
    | rt d => exact h
    | bk s => exact h
    | ct s => exact h
  | ex C fs hd' => rw [e] at h; exact h
  | bad => rw [e] at h; exact h
end
def mNext : SD → M Fl := fun s => pure (.nx s)
section
variable {X : Cx} {T : Tb} {E : XK} {e a b c o : Expr} {es : List Expr} {st : Stmt} {sts : List Stmt} {pos p : Pos}
abbrev PSm (X : Cx) (T : Tb) (E : XK) (st : Stmt) (m : SD → M Fl) : Prop := PS X st (tS (gx X T) E m)
abbrev PSsm (X : Cx) (T : Tb) (E : XK) (sts : List Stmt) (m : SD → M Fl) : Prop := PSs X sts (tS (gx X T) E m)
theorem sm_nil : PSsm X T E [] mNext := weakSs pss_nil fun D σ H ⟨ρ, hd, sd, r, s, h⟩ => h ρ H σ r .refl s
theorem sm_cons {m k : SD → M Fl} (h1 : PSm X T E st m) (h2 : PSsm X T E sts k) : PSsm X T E (st :: sts) (mSeq m k) := weakSs (pss_cons h1 h2) fun D σ H h => seq_go h
def mBrk : SD → M Fl := fun s => pure (.bk s)
def mCnt : SD → M Fl := fun s => pure (.ct s)
theorem sm_pass : PSm X T E (.Pass pos) mNext := weakS ps_pass fun D σ H ⟨ρ, hd, sd, r, s, h⟩ => h ρ H σ r .refl s
theorem sm_brk : PSm X T E (.Break pos) mBrk := weakS ps_break fun D σ H ⟨ρ, hd, sd, r, s, h⟩ => h ρ H σ r .refl s
theorem sm_cnt : PSm X T E (.Continue pos) mCnt := weakS ps_continue fun D σ H ⟨ρ, hd, sd, r, s, h⟩ => h ρ H σ r .refl s
theorem sm_doc {x : Str} {j : Nat} {p' : Pos} : PSm X T E (.Expr (.Constant (.str x) j pos) p') mNext := weakS ps_doc fun D σ H ⟨ρ, hd, sd, r, s, h⟩ => h ρ H σ r .refl s
def mExpr (m : SD → M D) : SD → M Fl := fun s => m s >>= fun _ => pure (.nx s)
theorem sm_expr {m : SD → M D} (he : PEm X T (WC E) e m) (hs : swapsWith e none pos.line X.env = pure false) : PSm X T E (.Expr e pos) (mExpr m) :=
  weakS (ps_expr he hs) fun D σ H h => tG_then (tS_bind (R := RV (gx X T)) (k := fun s _ => pure (Fl.nx s)) h) fun v H1 ⟨ρ1, hd1, sd1, d, ⟨r, s, q⟩, h1⟩ => h1 ρ1 H1 σ r .refl s
def mRet (m : SD → M D) : SD → M Fl := fun s => m s >>= fun d => pure (.rt d)
theorem sm_ret {m : SD → M D} (he : PEm X T (WC E) e m) : PSm X T E (.Return (some e) pos) (mRet m) :=
  weakS (ps_ret he) fun D σ H h => tG_then (tS_bind (R := RV (gx X T)) (k := fun _ d => pure (Fl.rt d)) h) fun v H1 ⟨ρ1, hd1, sd1, d, ⟨r, s, q⟩, h1⟩ => h1 ρ1 H1 v r .refl q
def mRetN : SD → M Fl := fun _ => pure (.rt .non)
theorem sm_retN : PSm X T E (.Return none pos) mRetN := weakS ps_retN fun D σ H ⟨ρ, hd, sd, r, s, h⟩ => h ρ H .non r .refl .non
def mIf (t : SD → M Bool) (m k : SD → M Fl) : SD → M Fl := fun s => t s >>= fun b => if b = true then m s else k s
theorem sm_if {t : SD → M Bool} {m k : SD → M Fl} {s1 s2 : List Stmt} (ht : PTm X T (WC E) c t) (h1 : PSsm X T E s1 m) (h2 : PSsm X T E s2 k) : PSm X T E (.If c s1 s2 pos) (mIf t m k) :=
  weakS (ps_if ht h1 h2) fun D σ H h => tG_then (tS_bind (R := RB) (k := fun s b => if b = true then m s else k s) h) fun v H1 ⟨ρ1, hd1, sd1, d, ⟨r, s, q⟩, h1⟩ => by
    obtain rfl : d = v := q
    cases d with
    | true => exact ⟨ρ1, hd1, sd1, r, s, h1⟩
    | false => exact ⟨ρ1, hd1, sd1, r, s, h1⟩

/-! ### targets -/
theorem RVs.inv {G : Gx} {ρ : Rg} {H : Hp} {d : D} {ds : List D} {vs : List V} (q : RVs G ρ H (d :: ds) vs) : ∃ v us, vs = v :: us ∧ RV G ρ H d v ∧ RVs G ρ H ds us := by
  cases q with
  | cons q qs => exact ⟨_, _, rfl, q, qs⟩
/-- nothing is raised -/
def quiet {α : Type} (m : M α) : M α := fun h => match m h with
  | .ok a h' => .ok a h'
  | _ => .bad
def RS (G : Gx) : Rg → Hp → SD → L2.St → Prop := RSt G
def tT' (G : Gx) (E : XK) (m : D → SD → M SD) : TG := fun v σ H Q => ∃ ρ hd sd d, Rep G ρ hd H ∧ RSt G ρ H sd σ ∧ RV G ρ H d v ∧ Res G (WC E) σ (RSt G) ρ H (m d sd hd) Q
abbrev PGm (X : Cx) (T : Tb) (E : XK) (tg : Expr) (m : D → SD → M SD) : Prop := PG X tg (tT' (gx X T) E m)
theorem weakG {tg : Expr} {t t' : TG} (h : PG X tg t) (w : ∀ v σ H Q, t' v σ H Q → t v σ H Q) : PG X tg t' := ⟨fun pins s σ H v u Q I r q => h.run pins s σ H v u Q I r (w _ _ _ _ q)⟩
def gNm (i : Nat) : D → SD → M SD := fun d s => pure (s.set i (some d))
theorem gm_name {i : Nat} {x : Str} (hN : X.N.Nodup) (hi : X.N[i]? = some x) (hx : Loc X.env.scope x) (hf : X.fn x = true ∨ X.env.scope.names.lookup x = some .local) : PGm X T E (.Name x pos) (gNm i) :=
  weakG (pg_name hN hi hx hf) fun v σ H Q ⟨ρ, hd, sd, d, r, s, q, h⟩ => h ρ H (σ.set i (some v)) r .refl (s.set q)
abbrev PGsm (X : Cx) (T : Tb) (E : XK) (tgs : List Expr) (m : List D → SD → M SD) : Prop := PGs X tgs (fun vs σ H Q => ∃ ρ hd sd ds, Rep (gx X T) ρ hd H ∧ RSt (gx X T) ρ H sd σ ∧ RVs (gx X T) ρ H ds vs ∧ Res (gx X T) (WC E) σ (RSt (gx X T)) ρ H (m ds sd hd) Q)
theorem weakGs {tgs : List Expr} {t t' : TGs} (h : PGs X tgs t) (w : ∀ v σ H Q, t' v σ H Q → t v σ H Q) : PGs X tgs t' := ⟨fun pins s σ H v u Q I r q => h.run pins s σ H v u Q I r (w _ _ _ _ q)⟩
def gsNil : List D → SD → M SD := fun ds s => match ds with
  | [] => pure s
  | _ => M.bad
def gsCons (g : D → SD → M SD) (gs : List D → SD → M SD) : List D → SD → M SD := fun ds s => match ds with
  | d :: ds => g d s >>= gs ds
  | [] => M.bad
theorem gsm_nil : PGsm X T E [] gsNil := weakGs pgs_nil fun vs σ H Q ⟨ρ, hd, sd, ds, r, s, q, h⟩ => by
  cases ds with
  | nil => cases q; exact ⟨rfl, h ρ H σ r .refl s⟩
  | cons _ _ => exact h.elim
theorem gsm_cons {tg : Expr} {tgs : List Expr} {g : D → SD → M SD} {gs : List D → SD → M SD} (h1 : PGm X T E tg g) (h2 : PGsm X T E tgs gs) (hs : (assignEach (tg :: tgs) X.env).map (·.2) = assign tg X.env :: (assignEach tgs X.env).map (·.2)) : PGsm X T E (tg :: tgs) (gsCons g gs) :=
  weakGs (pgs_cons h1 h2 hs) fun vs σ H Q ⟨ρ, hd, sd, ds, r, s, q, h⟩ => by
    cases ds with
    | nil => exact h.elim
    | cons d ds =>
      obtain ⟨v, vs, rfl, q, qs⟩ := q.inv
      refine ⟨v, vs, rfl, ρ, hd, sd, d, r, s, q, ?_⟩
      · have h : Res (gx X T) (WC E) σ (RSt (gx X T)) ρ H ((g d sd >>= gs ds) hd) Q := h
        rw [bind_ap] at h
        cases e : g d sd hd with
        | ok s' hd' =>
          rw [e] at h
          exact fun ρ' H' σ' r' st' q' => ⟨ρ', hd', s', ds, r', q', RVs.mono st' r.muts _ _ qs, h.from st'⟩
        | ex C fs hd' => rw [e] at h; exact h
        | bad => rw [e] at h; exact h
def gTp (n : Nat) (gs : List D → SD → M SD) : D → SD → M SD := fun d s => match d with
  | .tup ds => if ds.length = n then gs ds s else M.bad
  | _ => M.bad
theorem gm_tup {tgs : List Expr} {k n : Nat} {gs : List D → SD → M SD} (hc : X.calm = true) (h : PGsm X T E tgs gs) (hn : (assignEach tgs X.env).length = n) (hst : (assignEach tgs X.env).findIdx? (·.1) = none) : PGm X T E (.Tuple tgs k pos) (gTp n gs) :=
  weakG (pg_tup hc h hn hst) fun v σ H Q ⟨ρ, hd, sd, d, r, s, q, z⟩ => by
    unfold gTp at z
    cases d <;> first | exact z.elim | skip
    rename_i l
    cases q with
    | tup h1 rs =>
      by_cases c : l.length = n
      · simp only [c, if_true] at z
        exact ⟨_, _, rfl, h1, by rw [← rs.len]; exact c, ρ, hd, sd, l, r, s, rs, z⟩
      · simp only [c, if_false] at z; exact z.elim
def mAsg (m : SD → M D) (g : D → SD → M SD) : SD → M Fl := fun s => m s >>= fun d => g d s >>= fun s' => pure (.nx s')
theorem asg_go {m : SD → M D} {g : D → SD → M SD} : ∀ D σ H, tS (gx X T) E (mAsg m g) D σ H → tAsg (tE (gx X T) (WC E) m) (tT' (gx X T) E g) D σ H := fun D σ H h =>
  tG_then (tS_bind (R := RV (gx X T)) (k := fun s d => g d s >>= fun s' => pure (Fl.nx s')) h) fun v H1 ⟨ρ1, hd1, sd1, d, ⟨r, s, q⟩, h1⟩ => by
    refine ⟨ρ1, hd1, sd1, d, r, s, q, ?_⟩
    rw [bind_ap] at h1
    cases e : g d sd1 hd1 with
    | ok s' hd' =>
      rw [e] at h1
      exact fun ρ' H' σ' r' st' q' => h1 ρ' H' σ' r' st' q'
    | ex C fs hd' => rw [e] at h1; exact h1
    | bad => rw [e] at h1; exact h1
theorem sm_asg {tg : Expr} {m : SD → M D} {g : D → SD → M SD} (he : PEm X T (WC E) e m) (hg : PGm X T E tg g) (hs : swapsWithSole [tg] e pos.line X.env = pure false) (hw : swappedStores [tg] e X.env = pure none) (h1 : (assignEach [tg] X.env).map (·.2) = [assign tg X.env]) :
    PSm X T E (.Assign [tg] e pos) (mAsg m g) := weakS (ps_asg he hg hs hw h1) asg_go
/-- o[i] = e -/
def gSb (mo mi : SD → M D) (f : D → D → D → M Unit) : D → SD → M SD := fun v s => mo s >>= fun o => mi s >>= fun i => quiet (f o i v) >>= fun _ => pure s
def Stm (X : Cx) (T : Tb) (t : TSet) (f : D → D → D → M Unit) : Prop := ∀ (ρ : Rg) (hd : DH) (H : Hp) (d e u : D) (x y z : V) (Q : Hp → Prop), Rep (gx X T) ρ hd H → RV (gx X T) ρ H d x → RV (gx X T) ρ H e y → RV (gx X T) ρ H u z →
  (match f d e u hd with
    | .ok _ hd' => ∀ H', Rep (gx X T) ρ hd' H' → Stp ρ H ρ H' → Q H'
    | _ => False) → t x y z H Q
def RVX (G : Gx) : Rg → Hp → D × D → V × V → Prop := fun ρ H a b => RV G ρ H a.1 b.1 ∧ RV G ρ H a.2 b.2
theorem gm_sub {mo mi : SD → M D} {t : TSet} {f : D → D → D → M Unit} (ho : PEm X T (WC E) o mo) (hi : PEm X T (WC E) a mi) (hs : PSet X t) (hf : Stm X T t f)
    (ha : ∀ v, assign (.Subscript o a pos) X.env v = (do
      let ov ← holding [v] (eval o X.env)
      let iv ← holding [v, ov] (eval a X.env)
      standAt pos
      holding [v, ov, iv] (setItem ov iv v)
      release [v, ov, iv] [])) : PGm X T E (.Subscript o a pos) (gSb mo mi f) :=
  weakG (pg_sub ho hi hs ha) fun v σ H Q ⟨ρ, hd, sd, d, r, s, q, h⟩ => by
    have c0 : At (gx X T) σ (RV (gx X T)) ρ hd sd H d v := ⟨r, s, q⟩
    refine tG_then (c0.go (R' := RV (gx X T)) rv_mono (m := mo) (k := fun s o => mi s >>= fun i => quiet (f o i d) >>= fun _ => pure s) (R2 := RSt (gx X T)) h) fun x H1 ⟨ρ1, hd1, sd1, o1, c1, c1', h1⟩ => ?_
    have c2 : At (gx X T) σ (RVX (gx X T)) ρ1 hd1 sd1 H1 (d, o1) (v, x) := ⟨c1.1, c1.2.1, c1.2.2, c1'.2.2⟩
    refine tG_then (c2.go (R' := RV (gx X T)) (fun ρ ρ' H H' a b s m r => ⟨RV.mono s m _ _ r.1, RV.mono s m _ _ r.2⟩) (m := mi) (k := fun s i => quiet (f o1 i d) >>= fun _ => pure s) (R2 := RSt (gx X T)) h1) fun y H2 ⟨ρ2, hd2, sd2, i2, c3, c3', h2⟩ => ?_
    refine hf ρ2 hd2 H2 o1 i2 d x y v _ c3.1 c3.2.2.2 c3'.2.2 c3.2.2.1 ?_
    rw [bind_ap] at h2
    unfold quiet at h2
    cases e : f o1 i2 d hd2 with
    | ok u hd' =>
      rw [e] at h2
      exact fun H' r' st' => h2 ρ2 H' σ r' st' (c3.2.1.mono st' c3.1.muts)
    | ex C fs hd' => rw [e] at h2; exact h2.elim
    | bad => rw [e] at h2; exact h2
end
end Wy

set_option Elab.async false
set_option linter.all false
set_option maxRecDepth 100000
set_option maxHeartbeats 4000000
namespace Wy
open PySem PySem.Spec PyProof.Rows L2

/-! ### what is walked -/
/-- the items, and whether they still are the thing's -/
abbrev Src := List D × (DH → Bool)
def Feeds (G : Gx) (ρ0 : Rg) (H0 : Hp) (x : Src) (J : It) : Prop := ∀ (ρ : Rg) (hd : DH) (H : Hp) (i : Nat), Rep G ρ hd H → Mv ρ0 H0 ρ H → x.2 hd = true →
  (∀ d, x.1[i]? = some d → J.go i H ∧ ∀ v H', J.yld i H v H' → Rep G ρ hd H' ∧ Stp ρ H ρ H' ∧ RV G ρ H' d v) ∧ (x.1[i]? = none → J.stop i H)
abbrev PIm (X : Cx) (T : Tb) (W : WX) (tg it : Expr) (mi : SD → M Src) : Prop := PI X tg it (fun σ H R => tG (gx X T) W (Feeds (gx X T)) mi σ H R)
def loopM (g : D → SD → M SD) (body : SD → M Fl) (chk : DH → Bool) : List D → SD → M Fl
  | [], s => fun h => if chk h = true then .ok (.nx s) h else .bad
  | d :: ds, s => fun h => if chk h = true then (match g d s h with
    | .ok s1 h1 => match body s1 h1 with
      | .ok (.nx s') h' => loopM g body chk ds s' h'
      | .ok (.ct s') h' => loopM g body chk ds s' h'
      | .ok (.bk s') h' => .ok (.nx s') h'
      | .ok (.rt d) h' => .ok (.rt d) h'
      | .ex C fs h' => .ex C fs h'
      | .bad => .bad
    | .ex C fs h' => .ex C fs h'
    | .bad => .bad) else .bad
def mFor (mi : SD → M Src) (g : D → SD → M SD) (body : SD → M Fl) : SD → M Fl := fun s => mi s >>= fun x => loopM g body x.2 x.1 s
theorem drop_some {α : Type} {l : List α} {i : Nat} {x : α} (h : l[i]? = some x) : l.drop i = x :: l.drop (i + 1) := by
  obtain ⟨h1, h2⟩ := List.getElem?_eq_some_iff.mp h
  rw [List.drop_eq_getElem_cons h1, h2]
theorem drop_none {α : Type} {l : List α} {i : Nat} (h : l[i]? = none) : l.drop i = [] := List.drop_eq_nil_iff.mpr (List.getElem?_eq_none_iff.mp h)
section
variable {X : Cx} {T : Tb} {E : XK} {e a b c o : Expr} {es : List Expr} {st : Stmt} {sts : List Stmt} {pos p : Pos}
theorem for_go {mi : SD → M Src} {g : D → SD → M SD} {body : SD → M Fl} : ∀ D σ H, tS (gx X T) E (mFor mi g body) D σ H → tFor (fun σ H R => tG (gx X T) (WC E) (Feeds (gx X T)) mi σ H R) (tT' (gx X T) E g) (tS (gx X T) E body) D σ H := fun D σ H h => by
  refine tG_then (tS_bind (R := Feeds (gx X T)) (k := fun s x => loopM g body x.2 x.1 s) h) fun J H1 ⟨ρ1, hd1, sd1, x, ⟨r1, s1, fd⟩, h1⟩ => ?_
  refine ⟨fun i m σ H => ∃ ρ hd sd, Rep (gx X T) ρ hd H ∧ RSt (gx X T) ρ H sd σ ∧ Stp ρ1 H1 ρ H ∧ m = x.1.length - i ∧ ResS (gx X T) E ρ H (loopM g body x.2 (x.1.drop i) sd hd) D, ⟨_, ρ1, hd1, sd1, r1, s1, .refl, rfl, by simpa using h1⟩, ?_⟩
  rintro i m σ2 H2 ⟨ρ2, hd2, sd2, r2, s2, st2, rfl, h2⟩
  cases ei : x.1[i]? with
  | none =>
    rw [drop_none ei] at h2
    unfold loopM at h2
    by_cases c : x.2 hd2 = true
    · rw [if_pos c] at h2
      exact .inl ⟨(fd ρ2 hd2 H2 i r2 st2.mv c).2 ei, h2 ρ2 H2 σ2 r2 .refl s2⟩
    · rw [if_neg c] at h2; exact h2.elim
  | some d =>
    rw [drop_some ei] at h2
    unfold loopM at h2
    by_cases c : x.2 hd2 = true
    · rw [if_pos c] at h2
      obtain ⟨go, yl⟩ := (fd ρ2 hd2 H2 i r2 st2.mv c).1 d ei
      have hi := (List.getElem?_eq_some_iff.mp ei).1
      refine .inr ⟨go, _, fun σ' H' n => ⟨x.1.length - (i + 1), by omega, n⟩, fun v H3 y => ?_⟩
      obtain ⟨r3, st3, q3⟩ := yl v H3 y
      refine ⟨ρ2, hd2, sd2, d, r3, s2.mono st3 r2.muts, q3, ?_⟩
      cases eg : g d sd2 hd2 with
      | ok s4 hd4 =>
        simp only [eg] at h2
        intro ρ5 H5 σ5 r5 st5 s5
        refine ⟨ρ5, hd4, s4, r5, s5, ?_⟩
        have t5 : Stp ρ2 H2 ρ5 H5 := st3.trans st5
        cases eb : body s4 hd4 with
        | ok f hd6 =>
          simp only [eb] at h2
          cases f with
          | nx s6 => exact fun ρ7 H7 σ7 r7 st7 s7 => ⟨ρ7, hd6, s6, r7, s7, st2.trans (t5.trans st7), rfl, ResS.from (t5.trans st7) h2⟩
          | ct s6 => exact fun ρ7 H7 σ7 r7 st7 s7 => ⟨ρ7, hd6, s6, r7, s7, st2.trans (t5.trans st7), rfl, ResS.from (t5.trans st7) h2⟩
          | bk s6 => exact fun ρ7 H7 σ7 r7 st7 s7 => h2 ρ7 H7 σ7 r7 (t5.trans st7) s7
          | rt d6 => exact fun ρ7 H7 v7 r7 st7 q7 => h2 ρ7 H7 v7 r7 (t5.trans st7) q7
        | ex C fs hd6 =>
          simp only [eb] at h2
          exact fun ρ7 H7 c7 dd r7 st7 q7 => h2 ρ7 H7 c7 dd r7 (t5.trans st7) q7
        | bad => simp only [eb] at h2; exact h2.elim
      | ex C fs hd4 =>
        simp only [eg] at h2
        exact fun ρ7 H7 c7 dd r7 st7 q7 => h2 ρ7 H7 c7 dd r7 (st3.trans st7) q7
      | bad => simp only [eg] at h2; exact h2.elim
    · rw [if_neg c] at h2; exact h2.elim
theorem sm_for {tg it : Expr} {mi : SD → M Src} {g : D → SD → M SD} {body : SD → M Fl} (hp : PassesOwn (model X.prog X.w) X.A X.env X.xe) (hc : X.calm = true) (hi : PIm X T (WC E) tg it mi) (hg : PGm X T E tg g) (hb : PSsm X T E sts body)
    (hs : ∀ x, foldedSetIterable it X.env x = pure x) : PSm X T E (.For tg it sts [] pos) (mFor mi g body) := weakS (ps_for hp hc hi hg hb hs) for_go
/-- while, so many turns at most -/
def whileM (t : SD → M Bool) (body : SD → M Fl) : Nat → SD → M Fl
  | 0, _ => M.bad
  | n + 1, s => t s >>= fun b => if b = true then (body s >>= fun f => match f with
    | .nx s' => whileM t body n s'
    | .ct s' => whileM t body n s'
    | .bk s' => pure (.nx s')
    | .rt d => pure (.rt d)) else pure (.nx s)
theorem while_go {t : SD → M Bool} {body : SD → M Fl} {n : Nat} : ∀ D σ H, tS (gx X T) E (whileM t body n) D σ H → tWhile (tT (gx X T) (WC E) t) (tS (gx X T) E body) D σ H := fun D σ H h => by
  refine ⟨fun m σ H => tS (gx X T) E (whileM t body m) D σ H, ⟨n, h⟩, fun m σ H h => ?_⟩
  cases m with
  | zero => obtain ⟨_, _, _, _, _, h⟩ := h; exact h.elim
  | succ m =>
    refine tG_then (tS_bind (R := RB) (k := fun s b => if b = true then (body s >>= fun f => match f with
    | .nx s' => whileM t body m s'
    | .ct s' => whileM t body m s'
    | .bk s' => pure (.nx s')
    | .rt d => pure (.rt d)) else pure (.nx s)) h) fun b H1 ⟨ρ1, hd1, sd1, b', ⟨r, s, q⟩, h1⟩ => ?_
    obtain rfl : b' = b := q
    cases b' with
    | false => exact h1 ρ1 H1 σ r .refl s
    | true =>
      refine ⟨fun σ' H' => tS (gx X T) E (whileM t body m) D σ' H', fun σ' H' n => ⟨m, Nat.lt_succ_self _, n⟩, ρ1, hd1, sd1, r, s, ?_⟩
      simp only [if_true, bind_ap] at h1
      cases e : body sd1 hd1 with
      | ok f hd2 =>
        rw [e] at h1
        cases f with
        | nx s' => exact fun ρ' H' σ' r' st' q' => ⟨ρ', hd2, s', r', q', ResS.from st' h1⟩
        | ct s' => exact fun ρ' H' σ' r' st' q' => ⟨ρ', hd2, s', r', q', ResS.from st' h1⟩
        | bk s' => exact h1
        | rt d => exact h1
      | ex C fs hd2 => rw [e] at h1; exact h1
      | bad => rw [e] at h1; exact h1
theorem sm_while {t : SD → M Bool} {body : SD → M Fl} {n : Nat} (hp : PassesOwn (model X.prog X.w) X.A X.env X.xe) (ht : PTm X T (WC E) c t) (hb : PSsm X T E sts body) : PSm X T E (.While c sts [] pos) (whileM t body n) := weakS (ps_while hp ht hb) while_go

/-! ### tests -/
variable {W : WX}
def mNot (t : SD → M Bool) : SD → M Bool := fun s => t s >>= fun b => pure (!b)
theorem tm_not {t : SD → M Bool} (h : PTm X T W a t) : PTm X T W (.UnaryOp .Not a pos) (mNot t) :=
  weakT (pt_not h) fun σ H Q h => tG_then (tG_bind (R := RB) (k := fun _ b => pure (!b)) h) fun b H1 ⟨ρ1, hd1, sd1, b', ⟨r, _, q⟩, h1⟩ => by
    obtain rfl : b' = b := q
    exact h1 ρ1 H1 _ r .refl rfl
/-- a row of tests -/
abbrev PWm (X : Cx) (T : Tb) (W : WX) (e : Expr) (m : SD → M Bool) : Prop := PW X e (tT (gx X T) W m)
theorem weakW {t t' : TT} (h : PW X e t) (w : ∀ σ H Q, t' σ H Q → t σ H Q) : PW X e t' := ⟨fun wh pins s σ H Q I q => h.run wh pins s σ H Q I (w _ _ _ q)⟩
def mAndT (t u : SD → M Bool) : SD → M Bool := fun s => t s >>= fun b => if b = true then u s else pure false
def mOrT (t u : SD → M Bool) : SD → M Bool := fun s => t s >>= fun b => if b = true then pure true else u s
theorem wm_and1 {t : SD → M Bool} (h : PTm X T W a t) : PWm X T W (.BoolOp .And [a] pos) t := pw_and1 h
theorem wm_or1 {t : SD → M Bool} (h : PTm X T W a t) : PWm X T W (.BoolOp .Or [a] pos) t := pw_or1 h
theorem wm_and {t u : SD → M Bool} {rest : List Expr} (h1 : PTm X T W a t) (h2 : PWm X T W (.BoolOp .And (b :: rest) pos) u) : PWm X T W (.BoolOp .And (a :: b :: rest) pos) (mAndT t u) :=
  weakW (pw_and h1 h2) fun σ H Q h => tG_then (tG_bind (R := RB) (k := fun s b => if b = true then u s else pure false) h) fun b H1 ⟨ρ1, hd1, sd1, b', ⟨r, s, q⟩, h1⟩ => by
    obtain rfl : b' = b := q
    cases b' with
    | true => exact ⟨ρ1, hd1, sd1, r, s, h1⟩
    | false => exact h1 ρ1 H1 _ r .refl rfl
theorem wm_or {t u : SD → M Bool} {rest : List Expr} (h1 : PTm X T W a t) (h2 : PWm X T W (.BoolOp .Or (b :: rest) pos) u) : PWm X T W (.BoolOp .Or (a :: b :: rest) pos) (mOrT t u) :=
  weakW (pw_or h1 h2) fun σ H Q h => tG_then (tG_bind (R := RB) (k := fun s b => if b = true then pure true else u s) h) fun b H1 ⟨ρ1, hd1, sd1, b', ⟨r, s, q⟩, h1⟩ => by
    obtain rfl : b' = b := q
    cases b' with
    | true => exact h1 ρ1 H1 _ r .refl rfl
    | false => exact ⟨ρ1, hd1, sd1, r, s, h1⟩
/-- an expression's value as a test -/
theorem tm_val {m : SD → M D} (h : PEm X T W e m) (he : ∀ whole, isTrue e X.env whole = (do let v ← whole; standAt e.pos; holding [v] (truthy v))) : PTm X T W e (mTest m) := weakT (pt_val h he) test_go
/-- .. of any kind -/
def truM (d : D) : M Bool := fun h => match d with
  | .non => .ok false h
  | .bl b => .ok b h
  | .int i => .ok (i != 0) h
  | .str z => if z.length ≤ sizeLine then .ok ((z.length : Int) != 0) h else .bad
  | d => match seqOf h d with
    | some l => .ok (!l.isEmpty) h
    | none => .bad
def mTruth (m : SD → M D) : SD → M Bool := fun s => m s >>= truM
theorem tm_truth {m : SD → M D} (h : PEm X T W e m) (he : ∀ whole, isTrue e X.env whole = (do let v ← whole; standAt e.pos; holding [v] (truthy v))) : PTm X T W e (mTruth m) :=
  weakT (pt_truth h he) fun σ H Q h => tG_then (tG_bind (R := RV (gx X T)) (k := fun _ d => truM d) h) fun v H1 ⟨ρ1, hd1, sd1, d, ⟨r, s, q⟩, h1⟩ => by
    unfold truM at h1
    have seq : Res (gx X T) W σ RB ρ1 H1 (match seqOf hd1 d with
        | some l => Re.ok (!l.isEmpty) hd1
        | none => .bad) Q → ∃ k, TruV X.K v H1 k ∧ Q k H1 := fun z => by
      cases e1 : seqOf hd1 d with
      | none => rw [e1] at z; exact z.elim
      | some l =>
        rw [e1] at z
        obtain ⟨p, xs, rfl, hp, rs⟩ := seqOf_rv r q e1
        have ee : (!l.isEmpty) = !xs.isEmpty := by
          have := rs.nil_iff
          cases l <;> cases xs <;> simp_all
        refine ⟨!l.isEmpty, ?_, z ρ1 H1 _ r .refl rfl⟩
        rcases hp with hp | hp
        · exact .inl ⟨xs, hp, ee⟩
        · exact .inr (.inl ⟨xs, hp, ee⟩)
    cases d with
    | non => cases q; exact ⟨_, rfl, h1 ρ1 H1 _ r .refl rfl⟩
    | bl b => cases q; exact ⟨_, rfl, h1 ρ1 H1 _ r .refl rfl⟩
    | int i => cases q; exact ⟨_, rfl, h1 ρ1 H1 _ r .refl rfl⟩
    | str z =>
      cases q
      by_cases c : z.length ≤ sizeLine
      · simp only [c, if_true] at h1
        exact ⟨_, ⟨c, rfl⟩, h1 ρ1 H1 _ r .refl rfl⟩
      · simp only [c, if_false] at h1; exact h1.elim
    | _ => exact seq h1
/-- a if t else b -/
def mIte {α : Type} (t : SD → M Bool) (m k : SD → M α) : SD → M α := fun s => t s >>= fun b => if b = true then m s else k s
theorem em_ite {t : SD → M Bool} {m k : SD → M D} (ht : PTm X T W c t) (h1 : PEm X T W a m) (h2 : PEm X T W b k) : PEm X T W (.IfExp c a b pos) (mIte t m k) :=
  weakE (pe_ifExp ht h1 h2) fun σ H Q h => tG_then (tG_bind (R := RB) (k := fun s b => if b = true then m s else k s) h) fun b H1 ⟨ρ1, hd1, sd1, b', ⟨r, s, q⟩, h1⟩ => by
    obtain rfl : b' = b := q
    cases b' with
    | true => exact ⟨ρ1, hd1, sd1, r, s, h1⟩
    | false => exact ⟨ρ1, hd1, sd1, r, s, h1⟩
/-- and, or, not as values that are truths -/
def mNotV (t : SD → M D) : SD → M D := fun s => t s >>= fun d => match d with
  | .bl b => pure (.bl (!b))
  | _ => M.bad
theorem em_notB {m : SD → M D} (h : PEm X T W a m) : PEm X T W (.UnaryOp .Not a pos) (mNotV m) :=
  weakE (pe_not h) fun σ H Q h => tG_then (tG_bind (R := RV (gx X T)) (k := fun _ d => match d with
  | .bl b => pure (D.bl (!b))
  | _ => M.bad) h) fun v H1 ⟨ρ1, hd1, sd1, d, ⟨r, s, q⟩, h1⟩ => by
    cases d with
    | bl b => cases q; exact ⟨b, rfl, ans r (.bl _) h1⟩
    | _ => exact h1.elim
def mAndV (t u : SD → M D) : SD → M D := fun s => t s >>= fun d => match d with
  | .bl true => u s
  | .bl false => pure (.bl false)
  | _ => M.bad
def mOrV (t u : SD → M D) : SD → M D := fun s => t s >>= fun d => match d with
  | .bl true => pure (.bl true)
  | .bl false => u s
  | _ => M.bad
theorem em_one {op : BoolOp} {m : SD → M D} (h : PEm X T W a m) : PEm X T W (.BoolOp op [a] pos) m := pe_one h
theorem em_and {m k : SD → M D} {rest : List Expr} (h1 : PEm X T W a m) (h2 : PEm X T W (.BoolOp .And (b :: rest) pos) k) : PEm X T W (.BoolOp .And (a :: b :: rest) pos) (mAndV m k) :=
  weakE (pe_and h1 h2) fun σ H Q h => tG_then (tG_bind (R := RV (gx X T)) (k := fun s d => match d with
  | .bl true => k s
  | .bl false => pure (D.bl false)
  | _ => M.bad) h) fun v H1 ⟨ρ1, hd1, sd1, d, ⟨r, s, q⟩, h1⟩ => by
    cases d with
    | bl b => cases q; cases b with
      | true => exact ⟨true, rfl, ρ1, hd1, sd1, r, s, h1⟩
      | false => exact ⟨false, rfl, ans r (.bl _) h1⟩
    | _ => exact h1.elim
theorem em_or {m k : SD → M D} {rest : List Expr} (h1 : PEm X T W a m) (h2 : PEm X T W (.BoolOp .Or (b :: rest) pos) k) : PEm X T W (.BoolOp .Or (a :: b :: rest) pos) (mOrV m k) :=
  weakE (pe_or h1 h2) fun σ H Q h => tG_then (tG_bind (R := RV (gx X T)) (k := fun s d => match d with
  | .bl true => pure (D.bl true)
  | .bl false => k s
  | _ => M.bad) h) fun v H1 ⟨ρ1, hd1, sd1, d, ⟨r, s, q⟩, h1⟩ => by
    cases d with
    | bl b => cases q; cases b with
      | true => exact ⟨true, rfl, ans r (.bl _) h1⟩
      | false => exact ⟨false, rfl, ρ1, hd1, sd1, r, s, h1⟩
    | _ => exact h1.elim
end
end Wy

set_option Elab.async false
set_option linter.all false
set_option maxRecDepth 100000
set_option maxHeartbeats 4000000
namespace Wy
open PySem PySem.Spec PyProof.Rows L2

/-! ### enumerate of a tuple -/
section
open PySem.Builtin
set_option maxHeartbeats 2000000 in
theorem enum_new1 {v : Value} {o : Obj} {Hh : Heap → Prop} (B : Begins v o Hh) :
    Meets (Builtin.«enumerate.__new__» ⟨[.type "enumerate", v], []⟩) (fun _ R s => Hh s.heap ∧
      R (.ok (.ret (.ref (s.heap.push o).objs.size))) { s with heap := (s.heap.push o).push { cls := .type "enumerate", data := .fields #[.none, .bool false, .ref s.heap.objs.size, rawInt 0, .none, .none] } }) :=
  .of_wp fun prog w A R s h => by
    obtain ⟨hp, g, d, tk, os⟩ := s
    obtain ⟨h1, h⟩ := h
    have hsub := sub_enumerate
    have q1 : ∀ {A' : Around} {E : Value → Shared → Prop} {Q : Value → Shared → Prop}, Q (.ref hp.objs.size) ⟨hp.push o, g, d, tk, os⟩ → wpAny (model prog w) A' (pyIter v) Q E ⟨hp, g, d, tk, os⟩ := fun q => B.iter prog w _ _ ⟨hp, g, d, tk, os⟩ _ h1 q
    wp_walk using q1
    refine wpAny_stack_any fun st => wpAny_pure ?_
    split
    · rename_i c _ _ _ _ _
      cases (c == Value.type "enumerate") <;> (wp_walk using q1; exact ⟨_, rfl, h⟩)
    · wp_walk using q1
      exact ⟨_, rfl, h⟩
theorem enum_call1 {prog : Program} {w : World} {A : Around} {E : Value → Shared → Prop} {s : Shared} {v : Value} {o : Obj} {Hh : Heap → Prop} {Q : Value → Shared → Prop} (B : Begins v o Hh) (h1 : Hh s.heap)
    (h : ∀ h', IsEnum h' (s.heap.objs.size + 1) s.heap.objs.size 0 .none → h'.get? s.heap.objs.size = some o → (∀ b o, s.heap.get? b = some o → h'.get? b = some o) → Q (.ref (s.heap.objs.size + 1)) { s with heap := h' }) :
    wpAny (model prog w) A (call (.type "enumerate") [v]) Q E s := by
  refine callType_new F.called_enumerate (by decide) (F.typeCall_enumerate_1 _) (F.newCall_enumerate_1 _) (fun obj => F.args_object_init_2 obj _) F.entry_enumerate_new (enum_new1 B) ⟨h1, ?_⟩
  have hz : (s.heap.push o).objs.size = s.heap.objs.size + 1 := Heap.size_push ..
  show _ ∧ _
  rw [hz]
  have he : IsEnum ((s.heap.push o).push { cls := .type "enumerate", data := .fields #[.none, .bool false, .ref s.heap.objs.size, rawInt 0, .none, .none] }) (s.heap.objs.size + 1) s.heap.objs.size 0 .none := by
    have q := Heap.get?_push_size (s.heap.push o) (o := { cls := .type "enumerate", data := .fields #[.none, .bool false, .ref s.heap.objs.size, rawInt 0, .none, .none] }) rfl
    rw [hz] at q
    exact q
  exact ⟨⟨_, he, rfl⟩, h _ he (Heap.get?_push_of_some _ (Heap.get?_push_size _ B.free)) fun b o x => Heap.get?_push_of_some _ (Heap.get?_push_of_some _ x)⟩
end
/-- the turns over a tuple, with their numbers -/
def IteT (K : PySem.W.Frag) (a : Addr) : It :=
  ⟨fun i H => ∃ (xs : List V) (x : V), SqT K H a xs ∧ xs[i]? = some x, fun i H v H' => ∃ T x, v = .ref T ∧ H T = none ∧ H' = upd H T (.tup [.int (i : Nat), x]) ∧ ∀ xs, SqT K H a xs → xs[i]? = some x, fun i H => ∃ xs : List V, SqT K H a xs ∧ xs.length ≤ i⟩
theorem turn_enumT {P : Program} {w : World} {K : PySem.W.Frag} {elts : List Expr} {kk : Nat} {tpos : Pos} (a e it : Addr) :
    Turn P w K (.Tuple elts kk tpos) (IteT K a) [e, it] e (fun i h => (∃ old, IsEnum h e it ((i : Nat) : Int) old) ∧ h.IsTupleIter it a i ∧ e ≠ it) where
  mem := by simp
  obj := fun i h st b hb => by
    obtain ⟨⟨old, he⟩, ⟨o, ho, hc, hd⟩, _⟩ := st
    have e' : b = e ∨ b = it := by simpa using hb
    rcases e' with rfl | rfl
    · exact ⟨_, he, fun v q => nomatch q⟩
    · exact ⟨o, ho, fun v q => by rw [hd] at q; cases q⟩
  keep := fun i h h' st k => by
    obtain ⟨⟨old, he⟩, hi, hne⟩ := st
    exact ⟨⟨old, k e (by simp) _ he⟩, hi.at fun o q => k it (by simp) o q, hne⟩
  item := by
    intro X hP hw hK hc i pins s σ H E I hf st hg
    subst hP; subst hw; subst hK
    obtain ⟨⟨old, he⟩, hit, hne⟩ := st
    obtain ⟨xs, x, hq, hx⟩ := hg
    obtain ⟨its, rv, p, hz⟩ := I.tuple hq
    obtain ⟨u, hu, ru⟩ := rv.get hx
    have hel : e < s.heap.objs.size := Heap.lt_size he
    have hil : it < s.heap.objs.size := by obtain ⟨_, q, _⟩ := hit; exact Heap.lt_size q
    have ti : s.heap.IsTuple a its.toArray := p
    have nai : a ≠ it := fun z => by
      obtain ⟨o1, q1, c1, _⟩ := ti
      obtain ⟨o2, q2, c2, _⟩ := hit
      rw [z, q2] at q1; cases q1
      exact absurd (Value.type.inj (c2.symm.trans c1)) (by decide)
    have nae : e ∉ [it, a] := fun z => by
      rcases List.mem_cons.mp z with z | z
      · exact hne z
      · have z : e = a := by simpa using z
        obtain ⟨o1, q1, c1, _⟩ := ti
        have q2 : s.heap.get? e = _ := he
        rw [z, q1] at q2; cases q2
        exact absurd (Value.type.inj c1) (by decide)
    have hn : i < its.toArray.size := by
      have := (List.getElem?_eq_some_iff.mp hu).1
      simpa using this
    refine wpAny_pyNext_enum_itemD (Draws.tuple (A := X.A.in1) (show X.A.in1.handled = none from I.ok.hd hc) it a nai its.toArray) he ⟨hit, ti⟩ hn hne nae fun y h' tk hy ho hit' hT hsz hk => ?_
    have ey : y = u := by
      rw [show its.toArray[i]? = its[i]? by simp] at hy
      rw [hy] at hu
      exact Option.some.inj hu
    subst ey
    refine ⟨_, rfl, wpAny_letOwnedTupleGo_enum (s := { s with heap := h', toks := tk + 1 }) ho fun h'' he' sb => ?_⟩
    have hT2 : h''.get? s.heap.objs.size = some { cls := .type "tuple", data := .seq #[.int i tk, y] } := (sb.2 _ (Nat.ne_of_gt hel)).trans hT
    have new : ObjOk X.prog X.w (upd H s.heap.objs.size (.tup [.int (i : Nat), x])) h'' s.heap.objs.size (.tup [.int (i : Nat), x]) :=
      ⟨by show 2 ≤ sizeLine; decide, [.int i tk, y], .cons ⟨_, rfl⟩ (.cons ru .nil), ⟨_, hT2, rfl, _, rfl⟩⟩
    have I1 : Inv X pins σ (upd H s.heap.objs.size (.tup [.int (i : Nat), x])) { s with heap := h'', toks := tk + 1 } :=
      I.turnedNew (ch := [e, it]) (fun b ob hb q => (sb.2 b (fun z => hb (by simp [z]))).trans (hk b ob (fun z => hb (by simp [z])) (fun z => hb (by simp [z])) q)) hf (Nat.le_refl _) new
    refine ⟨.ref s.heap.objs.size, _, I1, rfl, ⟨_, x, rfl, I.hok.fresh (Nat.le_refl _), rfl, fun ys hy => by rw [I.tuple_inj hy hq]; exact hx⟩, ⟨⟨y, ?_⟩, hit'.1.at fun o q => (sb.2 it (Ne.symm hne)).trans q, hne⟩, fun b hb => ?_⟩
    · have e1 : ((i + 1 : Nat) : Int) = (i : Int) + 1 := by omega
      rw [e1]
      exact he'
    · have e' : b = e ∨ b = it := by simpa using hb
      have hb' : b < s.heap.objs.size := by rcases e' with z | z <;> (rw [z]; assumption)
      rw [upd_ne (Nat.ne_of_lt hb')]
      exact (hf b hb).1
  done := by
    intro X hP hw hK hc i pins s σ H E I hf st hg
    subst hP; subst hw; subst hK
    obtain ⟨⟨old, he⟩, hit, hne⟩ := st
    obtain ⟨xs, hq, hx⟩ := hg
    obtain ⟨its, rv, p, hz⟩ := I.tuple hq
    obtain ⟨f0, f1, f2, f3, f4, f5⟩ := hf it (by simp)
    have ti : s.heap.IsTuple a its.toArray := p
    have nai : a ≠ it := fun z => by
      obtain ⟨o1, q1, c1, _⟩ := ti
      obtain ⟨o2, q2, c2, _⟩ := hit
      rw [z, q2] at q1; cases q1
      exact absurd (Value.type.inj (c2.symm.trans c1)) (by decide)
    have hT : s.TypeIs (.ref e) "enumerate" := ⟨_, he, rfl⟩
    unfold pyNext
    refine wpAny_bind (wpAny_attempt (wpAny_callSpecial?_slot (name := Str.ofString "__next__") hT F.slot_enumerate_next (wpAny_call_entry F.slot_enumerate_next hT F.entry_enumerate_next ?_ (F.args_enumerate_next_1 _))))
    show wpAny _ _ (field (.ref e) 2 >>= _) _ _ _
    refine wpAny_bind (wpAny_field he rfl (x := .ref it) rfl ?_)
    refine wpAny_bind (wpAny_nextOf_tuple_end (I.ok.hd hc) hit ti (by simp; have := rv.length; omega) fun h' x he' hx' => ?_)
    obtain ⟨o, ho, hcl⟩ := hx'
    refine wpAny_bind (wpAny_isInstance (T := "StopIteration") (b := true) ⟨o, ho, hcl⟩ isSubtype_stop ?_)
    exact wpAny_pure ⟨rfl, I.turned (t' := s.toks) (fun b o hb q => he' b o hb q) f0 f1 f3 f4 f5⟩
  self := fun A i s Q E st h => by
    obtain ⟨⟨_, he⟩, _⟩ := st
    exact wpAny_pyIter_enum he h
def iEnumA (K : PySem.W.Frag) (ta : TA) : TI := fun σ H R => ta σ H fun vs H1 => ∃ a, vs = [.ref a] ∧ (((∃ xs, SqL K H1 a xs) ∧ R (Ite K a) H1) ∨ ((∃ xs, SqT K H1 a xs) ∧ R (IteT K a) H1))
theorem pi_enumA {X : Cx} {e : Expr} {ta : TA} {p pos tpos : Pos} {elts : List Expr} {kk : Nat} (hg : Gl X "enumerate") (hm : X.mg "enumerate" = none) (ha : PA X [e] ta) (hs : starEach [e] X.env = [(false, eval e X.env)]) :
    PI X (.Tuple elts kk tpos) (.Call (.Name "enumerate" p) [e] [] pos) (iEnumA X.K ta) := by
  refine ⟨fun pins s σ H R I h => ?_⟩
  refine Call_ (ld_blt I hg hm boot_enumerate (PyProof.Rows.callWith_type1 (thn (ha.run pos pins s σ H _ I h) fun us s1 ⟨vs, H1, I1, r1, a, ex, q1⟩ => ?_) hs rfl))
  subst ex
  cases r1 with
  | cons r rr =>
    cases rr; cases r
    have hfp : ∀ (h' : Heap), (∀ b o, s1.heap.get? b = some o → h'.get? b = some o) → ∀ b ∈ [s1.heap.objs.size + 1, s1.heap.objs.size], FpOk X pins H1 b := fun h' hk b hb => by
      have hle : s1.heap.objs.size ≤ b := by
        have e' : b = s1.heap.objs.size + 1 ∨ b = s1.heap.objs.size := by simpa using hb
        omega
      exact I1.fpOk hle (I1.hok.fresh hle)
    rcases q1 with ⟨⟨xs, hq⟩, q⟩ | ⟨⟨xs, hq⟩, q⟩
    · obtain ⟨its, rv, p', hz⟩ := I1.list hq
      refine call_enumerate_list p'.isList fun h' he hit hsz hk => wpAny_pyIter_enum he ?_
      exact ⟨s1.heap.objs.size + 1, [s1.heap.objs.size + 1, s1.heap.objs.size], _, _, H1, rfl, I1.kept (t' := s1.toks) hk, turn_enum a (s1.heap.objs.size + 1) s1.heap.objs.size, ⟨⟨.none, he⟩, hit, Nat.succ_ne_self _⟩, hfp h' hk, q⟩
    · obtain ⟨its, rv, p', hz⟩ := I1.tuple hq
      refine enum_call1 (begins_tuple a its.toArray) p' fun h' he hit hk => wpAny_pyIter_enum he ?_
      exact ⟨s1.heap.objs.size + 1, [s1.heap.objs.size + 1, s1.heap.objs.size], _, _, H1, rfl, I1.kept (t' := s1.toks) hk, turn_enumT a (s1.heap.objs.size + 1) s1.heap.objs.size, ⟨⟨.none, he⟩, ⟨_, hit, rfl, rfl⟩, Nat.succ_ne_self _⟩, hfp h' hk, q⟩
end Wy

set_option Elab.async false
set_option linter.all false
set_option maxRecDepth 100000
set_option maxHeartbeats 4000000
namespace Wy
open PySem PySem.Spec PyProof.Rows L2

/-! ### sources -/
def iSeq (K : PySem.W.Frag) (tl : TE) : TI := fun σ H R => tl σ H fun x H1 => ∃ a, x = .ref a ∧ (((∃ xs, SqL K H1 a xs) ∧ R (Itl K a) H1) ∨ ((∃ xs, SqT K H1 a xs) ∧ R (Itt K a) H1))
section
variable {X : Cx} {T : Tb} {W : WX} {e a b c o tg : Expr} {es : List Expr} {pos p : Pos}
theorem pi_seq {l : Expr} {tl : TE} (hl : PE X l tl) : PI X tg l (iSeq X.K tl) := by
  refine ⟨fun pins s σ H R I h => thn (hl.run pins s σ H _ I h) fun v s1 ⟨x, H1, I1, r1, a, ex, q1⟩ => ?_⟩
  subst ex
  cases r1
  have hfp : ∀ b ∈ [s1.heap.objs.size], FpOk X pins H1 b := fun b hb => by
    obtain rfl : b = s1.heap.objs.size := by simpa using hb
    exact I1.fpOk (Nat.le_refl _) (I1.hok.fresh (Nat.le_refl _))
  rcases q1 with ⟨⟨xs, hq⟩, q⟩ | ⟨⟨xs, hq⟩, q⟩
  · obtain ⟨its, rv, p', hz⟩ := I1.list hq
    refine wpAny_pyIter_list p'.isList ?_
    exact ⟨_, [s1.heap.objs.size], _, _, H1, rfl, I1.kept (t' := s1.toks) fun b o e => Heap.get?_push_of_some _ e, turn_list a _, ⟨_, Heap.get?_push_size _ rfl, rfl, rfl⟩, hfp, q⟩
  · obtain ⟨its, rv, p', hz⟩ := I1.tuple hq
    refine wpAny_pyIter_tuple (show s1.heap.IsTuple a its.toArray from p') ?_
    exact ⟨_, [s1.heap.objs.size], _, _, H1, rfl, I1.kept (t' := s1.toks) fun b o e => Heap.get?_push_of_some _ e, turn_tuple a _, ⟨_, Heap.get?_push_size _ rfl, rfl, rfl⟩, hfp, q⟩
theorem weakI {it : Expr} {t t' : TI} (h : PI X tg it t) (w : ∀ σ H R, t' σ H R → t σ H R) : PI X tg it t' := ⟨fun pins s σ H R I q => h.run pins s σ H R I (w _ _ _ q)⟩
/-- the thing still is the same sequence -/
def stays (d : D) (l : List D) (h : DH) : Bool := match seqOf h d with
  | some l' => D.beqs l' l
  | none => false
theorem stays_eq {d : D} {l : List D} {h : DH} (e : stays d l h = true) : seqOf h d = some l := by
  unfold stays at e
  cases c : seqOf h d with
  | none => rw [c] at e; cases e
  | some l' => rw [c] at e; rw [D.eqs_of _ _ e]
theorem stays_of {d : D} {l : List D} {h : DH} (e : seqOf h d = some l) : stays d l h = true := by
  unfold stays
  rw [e]
  exact D.beqs_self l
theorem seq_kind (d : D) : (∃ l, d = .tup l) ∨ ∀ h, seqOf h d = rlistOf h d := by
  cases d <;> first | exact .inl ⟨_, rfl⟩ | exact .inr fun _ => rfl
def seqSrc (d : D) : M Src := fun h => match seqOf h d with
  | some l => .ok (l, stays d l) h
  | none => .bad
def srcSeq (m : SD → M D) : SD → M Src := fun s => m s >>= seqSrc
theorem im_seq {l : Expr} {m : SD → M D} (hl : PEm X T W l m) : PIm X T W tg l (srcSeq m) :=
  weakI (pi_seq hl) fun σ H R h => by
    refine tG_then (tG_bind (R := RV (gx X T)) (k := fun _ d => seqSrc d) h) fun v H1 ⟨ρ1, hd1, sd1, d, ⟨r, st, q⟩, h1⟩ => ?_
    unfold seqSrc at h1
    cases e1 : seqOf hd1 d with
    | none => rw [e1] at h1; exact h1.elim
    | some l =>
      rw [e1] at h1
      have m1 := r.muts
      rcases seq_kind d with ⟨l', rfl⟩ | hk
      · cases e1
        cases q with
        | tup hs rs =>
          refine ⟨_, rfl, .inr ⟨⟨_, hs⟩, h1 ρ1 H1 _ r .refl fun ρ hd H i r2 mv ck => ?_⟩⟩
          have hs2 := mv.sqT m1 hs
          have rs2 := RVs.mv mv m1 _ _ rs
          refine ⟨fun d ed => ?_, fun ed => ⟨_, hs2, by rw [← rs2.len]; exact List.getElem?_eq_none_iff.mp ed⟩⟩
          obtain ⟨y, ey, ry⟩ := rs2.get ed
          refine ⟨⟨_, y, hs2, ey⟩, fun v H' ⟨e', f'⟩ => ?_⟩
          subst e'
          cases (f' _ hs2).symm.trans ey
          exact ⟨r2, .refl, ry⟩
      · rw [hk] at e1
        obtain ⟨a, xs, rfl, hs, rs⟩ := rlistOf_rv r q e1
        refine ⟨a, rfl, .inl ⟨⟨xs, hs⟩, h1 ρ1 H1 _ r .refl fun ρ hd H i r2 mv ck => ?_⟩⟩
        have q2 := RV.mv mv m1 _ _ q
        have e3 := stays_eq ck
        rw [hk] at e3
        obtain ⟨a', ys, e2, hs2, rs2⟩ := rlistOf_rv r2 q2 e3
        cases e2
        refine ⟨fun d ed => ?_, fun ed => ⟨ys, hs2, by rw [← rs2.len]; exact List.getElem?_eq_none_iff.mp ed⟩⟩
        obtain ⟨y, ey, ry⟩ := rs2.get ed
        refine ⟨⟨ys, y, hs2, ey⟩, fun v H' ⟨e', f'⟩ => ?_⟩
        subst e'
        cases (f' ys hs2).symm.trans ey
        exact ⟨r2, .refl, ry⟩
/-- enumerate -/
def numbered (l : List D) : List D := l.zipIdx.map fun x => .tup [.int (x.2 : Nat), x.1]
theorem numbered_get {l : List D} {i : Nat} : (numbered l)[i]? = (l[i]?).map fun d => D.tup [.int (i : Nat), d] := by
  unfold numbered
  rw [List.getElem?_map, List.getElem?_zipIdx]
  cases l[i]? <;> simp
def enumSrc (ds : List D) : M Src := fun h => match ds with
  | [d] => match seqOf h d with
    | some l => .ok (numbered l, stays d l) h
    | none => .bad
  | _ => .bad
def srcEnum (ml : SD → M (List D)) : SD → M Src := fun s => ml s >>= enumSrc
theorem im_enum {ml : SD → M (List D)} {elts : List Expr} {kk : Nat} {tpos : Pos} (hg : Gl X "enumerate") (hm : X.mg "enumerate" = none) (ha : PAm X T W [e] ml) (hs : starEach [e] X.env = [(false, eval e X.env)]) : PIm X T W (.Tuple elts kk tpos) (.Call (.Name "enumerate" p) [e] [] pos) (srcEnum ml) :=
  weakI (pi_enumA hg hm ha hs) fun σ H R h => by
    refine tG_then (tG_bind (R := RVs (gx X T)) (k := fun _ ds => enumSrc ds) h) fun vs H1 ⟨ρ1, hd1, sd1, ds, ⟨r, st, q⟩, h1⟩ => ?_
    unfold enumSrc at h1
    match ds, q, h1 with
    | [], _, h1 => exact h1.elim
    | _ :: _ :: _, _, h1 => exact h1.elim
    | [d], qs, h1 =>
      obtain ⟨v, rfl, q1⟩ := qs.one
      clear q
      have q := q1
      clear q1
      cases e1 : seqOf hd1 d with
      | none => simp only [e1] at h1; exact h1.elim
      | some l =>
        simp only [e1] at h1
        have m1 := r.muts
        have pair : ∀ {ρ : Rg} {hd : DH} {H : Hp} {xs : List V} {i : Nat} {d : D}, Rep (gx X T) ρ hd H → RVs (gx X T) ρ H l xs → (numbered l)[i]? = some d → ∃ d' y, d = .tup [.int (i : Nat), d'] ∧ xs[i]? = some y ∧
            ∀ p, H p = none → Rep (gx X T) ρ hd (upd H p (.tup [.int (i : Nat), y])) ∧ Stp ρ H ρ (upd H p (.tup [.int (i : Nat), y])) ∧ RV (gx X T) ρ (upd H p (.tup [.int (i : Nat), y])) d (.ref p) := fun {ρ hd H xs i d} r rs ed => by
          rw [numbered_get] at ed
          obtain ⟨d', e2, rfl⟩ := Option.map_eq_some_iff.mp ed
          obtain ⟨y, ey, ry⟩ := rs.get e2
          exact ⟨d', y, rfl, ey, fun p hp => ⟨r.laid hp, .laid hp, .tup (.of upd_same) (.cons (.int _) (.cons (RV.mono (.laid hp) r.muts _ _ ry) .nil))⟩⟩
        have stop : ∀ {i : Nat}, (numbered l)[i]? = none → l.length ≤ i := fun {i} ed => by
          rw [numbered_get] at ed
          exact List.getElem?_eq_none_iff.mp (Option.map_eq_none_iff.mp ed)
        rcases seq_kind d with ⟨l', rfl⟩ | hk
        · cases e1
          cases q with
          | tup hs rs =>
            refine ⟨_, rfl, .inr ⟨⟨_, hs⟩, h1 ρ1 H1 _ r .refl fun ρ hd H i r2 mv ck => ?_⟩⟩
            have hs2 := mv.sqT m1 hs
            have rs2 := RVs.mv mv m1 _ _ rs
            refine ⟨fun d ed => ?_, fun ed => ⟨_, hs2, by rw [← rs2.len]; exact stop ed⟩⟩
            obtain ⟨d', y, rfl, ey, fin⟩ := pair r2 rs2 ed
            refine ⟨⟨_, y, hs2, ey⟩, fun v H' ⟨p, z, e', hp, eh, f'⟩ => ?_⟩
            subst e'
            cases (f' _ hs2).symm.trans ey
            subst eh
            exact fin p hp
        · rw [hk] at e1
          obtain ⟨a, xs, rfl, hs, rs⟩ := rlistOf_rv r q e1
          refine ⟨a, rfl, .inl ⟨⟨xs, hs⟩, h1 ρ1 H1 _ r .refl fun ρ hd H i r2 mv ck => ?_⟩⟩
          have q2 := RV.mv mv m1 _ _ q
          have e3 := stays_eq ck
          rw [hk] at e3
          obtain ⟨a', ys, e2, hs2, rs2⟩ := rlistOf_rv r2 q2 e3
          cases e2
          refine ⟨fun d ed => ?_, fun ed => ⟨ys, hs2, by rw [← rs2.len]; exact stop ed⟩⟩
          obtain ⟨d', y, rfl, ey, fin⟩ := pair r2 rs2 ed
          refine ⟨⟨ys, y, hs2, ey⟩, fun v H' ⟨p, z, e', hp, eh, f'⟩ => ?_⟩
          subst e'
          cases (f' ys hs2).symm.trans ey
          subst eh
          exact fin p hp
/-- range -/
def count (lo : Int) (n : Nat) : List D := (List.range n).map fun (i : Nat) => D.int (lo + i)
theorem count_get {lo : Int} {n i : Nat} {d : D} : (count lo n)[i]? = some d ↔ i < n ∧ d = .int (lo + i) := by
  unfold count
  rw [List.getElem?_map]
  by_cases c : i < n
  · rw [List.getElem?_range c]
    simp [c, eq_comm]
  · rw [List.getElem?_eq_none (by simpa using c)]
    simp [c]
theorem feeds_range {G : Gx} {ρ : Rg} {H : Hp} {lo : Int} {n : Nat} {ck : DH → Bool} : Feeds G ρ H (count lo n, ck) (Itr lo n) := fun ρ2 hd2 H2 i r2 mv _ => by
  refine ⟨fun d ed => ?_, fun ed => ?_⟩
  · obtain ⟨h1, rfl⟩ := count_get.mp ed
    refine ⟨h1, fun v H' ⟨e1, e2⟩ => ?_⟩
    subst e1; subst e2
    exact ⟨r2, .refl, .int _⟩
  · show n ≤ i
    have : ¬ i < n := fun c => by
      have := count_get.mpr ⟨c, (rfl : (D.int (lo + i)) = .int (lo + i))⟩
      rw [ed] at this; cases this
    omega
def fine (i : Int) : Prop := -(2 ^ 62) ≤ i ∧ i < 2 ^ 62
instance {i : Int} : Decidable (fine i) := by unfold fine; infer_instance
def rngSrc (ds : List D) : M Src := match ds with
  | [.int j] => if fine j then pure (count 0 j.toNat, fun _ => true) else M.bad
  | [.int i, .int j] => if fine i ∧ fine j then pure (count i (j - i).toNat, fun _ => true) else M.bad
  | _ => M.bad
def srcRng (ml : SD → M (List D)) : SD → M Src := fun s => ml s >>= rngSrc
theorem im_rng1 {ml : SD → M (List D)} (hg : Gl X "range") (hm : X.mg "range" = none) (ha : PAm X T W [a] ml) (l : Len 1 ml) (hs : starEach [a] X.env = [(false, eval a X.env)]) : PIm X T W tg (.Call (.Name "range" p) [a] [] pos) (srcRng ml) :=
  weakI (pi_range1 hg hm ha hs) fun σ H R h => by
    refine tG_then (tG_bind' (R := RVs (gx X T)) (k := fun _ ds => rngSrc ds) h) fun vs H1 ⟨ρ1, hd1, sd1, ds, ⟨r, st, q⟩, ⟨h0, e0⟩, h1⟩ => ?_
    have hl := l _ _ _ _ e0
    match ds, q, hl, h1 with
    | [d], qs, hl, h1 =>
      obtain ⟨v, rfl, q⟩ := qs.one
      clear hl
      cases d <;> first | exact h1.elim | skip
      rename_i j
      cases q
      unfold rngSrc at h1
      by_cases c : fine j
      · simp only [c, if_true] at h1
        exact ⟨j, rfl, c.1, c.2, h1 ρ1 H1 _ r .refl feeds_range⟩
      · simp only [c, if_false] at h1; exact h1.elim
theorem im_rng2 {ml : SD → M (List D)} (hg : Gl X "range") (hm : X.mg "range" = none) (ha : PAm X T W [a, b] ml) (l : Len 2 ml) (hs : starEach [a, b] X.env = [(false, eval a X.env), (false, eval b X.env)]) (hs2 : starEach [b] X.env = [(false, eval b X.env)]) : PIm X T W tg (.Call (.Name "range" p) [a, b] [] pos) (srcRng ml) :=
  weakI (pi_range2 hg hm ha hs hs2) fun σ H R h => by
    refine tG_then (tG_bind' (R := RVs (gx X T)) (k := fun _ ds => rngSrc ds) h) fun vs H1 ⟨ρ1, hd1, sd1, ds, ⟨r, st, q⟩, ⟨h0, e0⟩, h1⟩ => ?_
    have hl := l _ _ _ _ e0
    match ds, q, hl, h1 with
    | [d, d'], qs, hl, h1 =>
      clear hl
      obtain ⟨v, u, rfl, q, q'⟩ := qs.two
      cases d <;> first | exact h1.elim | skip
      cases d' <;> first | exact h1.elim | skip
      rename_i i j
      cases q; cases q'
      unfold rngSrc at h1
      by_cases c : fine i ∧ fine j
      · simp only [c, and_self, if_true] at h1
        exact ⟨i, j, rfl, ⟨c.1.1, c.1.2, c.2.1, c.2.2⟩, h1 ρ1 H1 _ r .refl feeds_range⟩
      · simp only [c, if_false] at h1; exact h1.elim
end
end Wy

set_option Elab.async false
set_option linter.all false
set_option maxRecDepth 100000
set_option maxHeartbeats 4000000
namespace Wy
open PySem PySem.Spec PyProof.Rows L2

/-! ### comprehensions -/
mutual
inductive CT where
  | nm (i : Nat)
  | tp (l : CTs)
inductive CTs where
  | nil
  | cons (a : CT) (l : CTs)
end
def CTs.len : CTs → Nat
  | .nil => 0
  | .cons _ l => l.len + 1
mutual
def gOf (K : PySem.W.Frag) : CT → TG
  | .nm i => gName i
  | .tp l => gTup K l.len (gsOf K l)
def gsOf (K : PySem.W.Frag) : CTs → TGs
  | .nil => gNil
  | .cons a l => gCons (gOf K a) (gsOf K l)
end
mutual
def CT.slots : CT → List Nat
  | .nm i => [i]
  | .tp l => l.slots
def CTs.slots : CTs → List Nat
  | .nil => []
  | .cons a l => a.slots ++ l.slots
end
mutual
def bindT : CT → D → SD → Option SD
  | .nm i, d, s => some (s.set i (some d))
  | .tp l, .tup ds, s => bindTs l ds s
  | .tp _, _, _ => none
def bindTs : CTs → List D → SD → Option SD
  | .nil, [], s => some s
  | .cons a l, d :: ds, s => match bindT a d s with
    | some s' => bindTs l ds s'
    | none => none
  | _, _, _ => none
end
def wipeD (s : SD) : List Nat → SD
  | [] => s
  | v :: vs => (wipeD s vs).set v none
theorem wipe_set' {σ : L2.St} {i : Nat} {x : Option V} : ∀ vs : List Nat, wipe (σ.set i x) vs = if i ∈ vs then wipe σ vs else (wipe σ vs).set i x
  | [] => by simp [wipe]
  | v :: vs => by
    unfold wipe
    rw [wipe_set' vs]
    by_cases h : i ∈ vs
    · simp [h]
    · by_cases e : i = v
      · subst e; simp [h]
      · simp only [h, if_false, List.mem_cons, e, false_or]
        rw [List.set_comm _ _ (fun z => e z)]
theorem wipe_set {σ : L2.St} {i : Nat} {x : Option V} {vs : List Nat} (h : i ∈ vs) : wipe (σ.set i x) vs = wipe σ vs := by rw [wipe_set', if_pos h]
theorem wipe_sub {σ : L2.St} {vs : List Nat} : ∀ us : List Nat, (∀ i ∈ us, i ∈ vs) → wipe (wipe σ us) vs = wipe σ vs
  | [], _ => rfl
  | u :: us, h => by
    show wipe ((wipe σ us).set u none) vs = _
    rw [wipe_set (h u (by simp)), wipe_sub us fun i hi => h i (by simp [hi])]
section
variable {G : Gx} {ρ : Rg} {H : Hp} {hd : DH}
theorem RSt.wipe {sd : SD} {σ : L2.St} (r : RSt G ρ H sd σ) : ∀ vs : List Nat, RSt G ρ H (wipeD sd vs) (L2.wipe σ vs)
  | [] => r
  | v :: vs => by
    have ih := RSt.wipe r vs
    unfold wipeD L2.wipe
    refine ⟨by simp [ih.1], fun i d e => ?_⟩
    by_cases c : i = v
    · subst c
      by_cases hi : i < (wipeD sd vs).length
      · rw [List.getElem?_set_self hi] at e; cases e
      · rw [List.getElem?_eq_none (by simpa using hi)] at e; cases e
    · rw [List.getElem?_set_ne (Ne.symm c)] at e ⊢
      exact ih.2 i d e
mutual
theorem bnd {K : PySem.W.Frag} (hK : G.K = K) {vs : List Nat} : ∀ (t : CT) (d : D) (v : V) (sd sd' : SD) (σ : L2.St) (Q : L2.St → Hp → Prop), (∀ i ∈ t.slots, i ∈ vs) → RSt G ρ H sd σ → RV G ρ H d v → bindT t d sd = some sd' →
    (∀ σ', RSt G ρ H sd' σ' → wipe σ' vs = wipe σ vs → Q σ' H) → gOf K t v σ H Q
  | .nm i, d, v, sd, sd', σ, Q, hs, r, q, e, fin => by
    unfold bindT at e
    cases e
    unfold gOf
    exact fin _ (r.set q) (wipe_set (hs i (by simp [CT.slots])))
  | .tp l, d, v, sd, sd', σ, Q, hs, r, q, e, fin => by
    cases d <;> first | (simp [bindT] at e; done) | skip
    rename_i ds
    unfold bindT at e
    cases q with
    | tup h rs =>
      unfold gOf
      exact ⟨_, _, rfl, by rw [← hK]; exact h, by rw [← rs.len]; exact bnd_len l ds sd sd' e, bnds hK l ds _ sd sd' σ Q (by simpa [CT.slots] using hs) r rs e fin⟩
theorem bnds {K : PySem.W.Frag} (hK : G.K = K) {vs : List Nat} : ∀ (t : CTs) (ds : List D) (us : List V) (sd sd' : SD) (σ : L2.St) (Q : L2.St → Hp → Prop), (∀ i ∈ t.slots, i ∈ vs) → RSt G ρ H sd σ → RVs G ρ H ds us → bindTs t ds sd = some sd' →
    (∀ σ', RSt G ρ H sd' σ' → wipe σ' vs = wipe σ vs → Q σ' H) → gsOf K t us σ H Q
  | .nil, ds, us, sd, sd', σ, Q, hs, r, q, e, fin => by
    cases ds with
    | nil => cases q; unfold bindTs at e; cases e; unfold gsOf; exact ⟨rfl, fin σ r rfl⟩
    | cons _ _ => simp [bindTs] at e
  | .cons a l, ds, us, sd, sd', σ, Q, hs, r, q, e, fin => by
    cases ds with
    | nil => simp [bindTs] at e
    | cons d ds =>
      obtain ⟨v, us, rfl, q1, q2⟩ := q.inv
      unfold bindTs at e
      cases e1 : bindT a d sd with
      | none => rw [e1] at e; cases e
      | some s1 =>
        rw [e1] at e
        unfold gsOf
        refine ⟨v, us, rfl, bnd hK a d v sd s1 σ _ (fun i hi => hs i (by simp [CTs.slots, hi])) r q1 e1 fun σ1 r1 w1 => ?_⟩
        exact bnds hK l ds us s1 sd' σ1 Q (fun i hi => hs i (by simp [CTs.slots, hi])) r1 q2 e fun σ2 r2 w2 => fin σ2 r2 (w2.trans w1)
theorem bnd_len : ∀ (t : CTs) (ds : List D) (sd sd' : SD), bindTs t ds sd = some sd' → ds.length = t.len
  | .nil, [], _, _, _ => rfl
  | .nil, _ :: _, _, _, e => by simp [bindTs] at e
  | .cons _ _, [], _, _, e => by simp [bindTs] at e
  | .cons a l, d :: ds, sd, sd', e => by
    unfold bindTs at e
    cases e1 : bindT a d sd with
    | none => rw [e1] at e; cases e
    | some s1 =>
      rw [e1] at e
      simp [CTs.len, bnd_len l ds s1 sd' e]
end
/-- the new list is hidden while it is made -/
def Rg.hide (ρ : Rg) (a : Addr) : Rg := ⟨ρ.l, a :: ρ.hid⟩
def Rg.show (ρ : Rg) : Rg := ⟨ρ.l, ρ.hid.tail⟩
theorem Rep.hide (r : Rep G ρ hd H) {p : Addr} {xs : List V} (hp : H p = none) : Mv ρ H (ρ.hide p) (upd H p (.lst xs)) ∧ Rep G (ρ.hide p) hd (upd H p (.lst xs)) := by
  have m : Mv ρ H (ρ.hide p) (upd H p (.lst xs)) := ⟨fun _ _ e => e, fun a n e => ⟨n.1, fun z => by
    rcases List.mem_cons.mp z with z | z
    · rw [z, hp] at e; cases e
    · exact n.2 z⟩, fun a o e _ => by rw [upd_ne (ne_of_none e hp)]; exact e⟩
  refine ⟨m, r.len, r.nd, fun a ha => ?_, fun n a o h1 h2 => (r.ob n a o h1 h2).mono m r.muts (upd_ne fun z => ?_)⟩
  · rcases List.mem_cons.mp ha with rfl | ha
    · exact ⟨by rw [upd_same]; trivial, (r.out hp).1⟩
    · have ne : a ≠ p := fun z => by
        have q := (r.hid a ha).1
        rw [z, hp] at q; exact q
      exact ⟨by rw [upd_ne ne]; exact (r.hid a ha).1, (r.hid a ha).2⟩
  · have q := r.some' (List.mem_of_getElem? h1)
    rw [z, hp] at q; cases q
/-- it grows -/
theorem Rep.grow (r : Rep G ρ hd H) {p : Addr} {o : HO} (hp : p ∈ ρ.hid) (mu : Mut (some o)) : Mv ρ H ρ (upd H p o) ∧ Rep G ρ hd (upd H p o) := by
  have m : Mv ρ H ρ (upd H p o) := ⟨fun _ _ e => e, fun _ n _ => n, fun a o' e n => by rw [upd_ne fun z => n.2 (by rw [z]; exact hp)]; exact e⟩
  refine ⟨m, r.len, r.nd, fun a ha => ⟨?_, (r.hid a ha).2⟩, fun n a o' h1 h2 => (r.ob n a o' h1 h2).mono m r.muts (upd_ne fun z => (r.hid p hp).2 (by rw [← z]; exact List.mem_of_getElem? h1))⟩
  by_cases e : a = p
  · rw [e, upd_same]; exact mu
  · rw [upd_ne e]; exact (r.hid a ha).1
/-- it is shown: as a thing that nobody changes, or as an object -/
theorem Rep.unhide {p : Addr} {hid : List Addr} (r : Rep G ρ hd H) (e : ρ.hid = p :: hid) : Mv ρ H ⟨ρ.l, hid⟩ H ∧ Rep G ⟨ρ.l, hid⟩ hd H := by
  have m : Mv ρ H ⟨ρ.l, hid⟩ H := ⟨fun _ _ e => e, fun a n _ => ⟨n.1, fun z => n.2 (by rw [e]; exact List.mem_cons_of_mem _ z)⟩, fun _ _ e _ => e⟩
  exact ⟨m, r.len, r.nd, fun a ha => r.hid a (by rw [e]; exact List.mem_cons_of_mem _ ha), fun n a o h1 h2 => (r.ob n a o h1 h2).mono m r.muts rfl⟩
theorem Rep.unhideM {p : Addr} {hid : List Addr} {l : List D} {xs : List V} (r : Rep G ρ hd H) (e : ρ.hid = p :: hid) (np : p ∉ hid) (hp : H p = some (.lst xs)) (rs : RVs G ρ H l xs) : Rep G ⟨ρ.l ++ [p], hid⟩ (hd ++ [.lst l]) H := by
  have pl : p ∉ ρ.l := (r.hid p (by rw [e]; exact List.mem_cons_self)).2
  have m : Mv ρ H ⟨ρ.l ++ [p], hid⟩ H := ⟨fun n a e => by
    show (ρ.l ++ [p])[n]? = some a
    rw [List.getElem?_append_left (List.getElem?_eq_some_iff.mp e).1]; exact e, fun a n _ => ⟨fun z => by
      rcases List.mem_append.mp z with z | z
      · exact n.1 z
      · exact n.2 (by rw [e]; simp at z; rw [z]; exact List.mem_cons_self), fun z => n.2 (by rw [e]; exact List.mem_cons_of_mem _ z)⟩, fun _ _ e _ => e⟩
  refine ⟨by simp [r.len], ?_, fun a ha => ?_, fun n a o h1 h2 => ?_⟩
  · show (ρ.l ++ [p]).Nodup
    rw [List.nodup_append]
    exact ⟨r.nd, by simp, fun x hx y hy z => by simp at hy; subst hy; subst z; exact pl hx⟩
  · have q := r.hid a (by rw [e]; exact List.mem_cons_of_mem _ ha)
    refine ⟨q.1, fun z => ?_⟩
    rcases List.mem_append.mp z with z | z
    · exact q.2 z
    · exact np (by simp at z; rw [← z]; exact ha)
  · have h1 : (ρ.l ++ [p])[n]? = some a := h1
    by_cases c : n < ρ.l.length
    · rw [List.getElem?_append_left c] at h1
      rw [List.getElem?_append_left (by rw [← r.len]; exact c)] at h2
      exact (r.ob n a o h1 h2).mono m r.muts rfl
    · have en : n = ρ.l.length := by
        have := (List.getElem?_eq_some_iff.mp h1).1
        simp at this
        omega
      subst en
      rw [List.getElem?_append_right (Nat.le_refl _)] at h1
      rw [List.getElem?_append_right (by rw [r.len]; exact Nat.le_refl _), r.len] at h2
      simp at h1 h2
      subst h1; subst h2
      exact ⟨xs, hp, RVs.mv m r.muts _ _ rs⟩
end

def compR (t : CT) (tt : SD → M Bool) (te : SD → M D) (chk : DH → Bool) (s0 : SD) : List D → M (List D)
  | [] => fun h => if chk h = true then .ok [] h else .bad
  | d :: ds => fun h => if chk h = true then (match bindT t d s0 with
    | some s => match tt s h with
      | .ok true h1 => match te s h1 with
        | .ok y h2 => match compR t tt te chk s0 ds h2 with
          | .ok ys h3 => .ok (y :: ys) h3
          | _ => .bad
        | _ => .bad
      | .ok false h1 => compR t tt te chk s0 ds h1
      | _ => .bad
    | none => .bad) else .bad
def endL (mt : Bool) (acc : List D) (r : Re (List D)) : Re D := match r with
  | .ok ys h => mkL mt (acc ++ ys) h
  | _ => .bad
def mComp (vs : List Nat) (t : CT) (tt : SD → M Bool) (te : SD → M D) (mt : Bool) (mi : SD → M Src) : SD → M D := fun s => mi s >>= fun x h => endL mt [] (compR t tt te x.2 (wipeD s vs) x.1 h)
abbrev W0 : WX := fun _ _ _ _ => False
section
variable {X : Cx} {T : Tb} {E : XK} {W : WX}
theorem stp_hid {ρ ρ' : Rg} {H H' : Hp} {h : List Addr} (s : Stp ρ H ρ' H') : Stp ⟨ρ.l, h⟩ H ⟨ρ'.l, h⟩ H' := ⟨s.pre, rfl, s.new, s.old⟩
theorem stp_upd {ρ ρ' : Rg} {H H' : Hp} {p : Addr} {o : HO} (s : Stp ρ H ρ' H') (hp : H p = none) : Stp ρ H ρ' (upd H' p o) := ⟨s.pre, s.hid, s.new, fun b x e n => by rw [upd_ne (ne_of_none e hp)]; exact s.old b x e n⟩
theorem mkL_len {G : Gx} {σ : L2.St} {ρ : Rg} {H : Hp} {mt : Bool} {ds : List D} {h : DH} {Q : VK} (z : Res G W σ (RV G) ρ H (mkL mt ds h) Q) : ds.length ≤ sizeLine := by
  unfold mkL at z
  by_cases c : ds.length ≤ sizeLine
  · exact c
  · rw [if_neg c] at z; exact z.elim
theorem lc_go {vs : List Nat} {t : CT} {tt : SD → M Bool} {te : SD → M D} {mt : Bool} {mi : SD → M Src} (hs : ∀ i ∈ t.slots, i ∈ vs) : ∀ σ H Q, tE (gx X T) W (mComp vs t tt te mt mi) σ H Q →
    tLc (fun σ H R => tG (gx X T) W (Feeds (gx X T)) mi σ H R) (gOf X.K t) (tT (gx X T) W0 tt) (tE (gx X T) W0 te) vs σ H Q := fun σ H Q h => by
  refine tG_then (tG_bind (R := Feeds (gx X T)) (k := fun s x h => endL mt [] (compR t tt te x.2 (wipeD s vs) x.1 h)) h) fun J H1 ⟨ρ1, hd1, sd1, x, ⟨r1, s1, fd⟩, h1⟩ => ?_
  intro L hL
  have nL : L ∉ ρ1.hid := (r1.out hL).2
  refine ⟨fun i m H => ∃ ρ hd acc xs, Rep (gx X T) ρ hd H ∧ ρ.hid = L :: ρ1.hid ∧ Stp ρ1 H1 ⟨ρ.l, ρ1.hid⟩ H ∧ RSt (gx X T) ρ H (wipeD sd1 vs) (wipe σ vs) ∧ H L = some (.lst xs) ∧ RVs (gx X T) ρ H acc xs ∧ m = x.1.length - i ∧
    Res (gx X T) W σ (RV (gx X T)) ρ1 H1 (endL mt acc (compR t tt te x.2 (wipeD sd1 vs) (x.1.drop i) hd)) Q, ⟨x.1.length, ?_⟩, ?_⟩
  · obtain ⟨m0, r0⟩ := r1.hide (xs := []) hL
    refine ⟨ρ1.hide L, hd1, [], [], r0, rfl, stp_upd .refl hL, ?_, upd_same, .nil, rfl, by simpa using h1⟩
    have q := s1.wipe vs
    exact ⟨q.1, fun i d e => by
      obtain ⟨v, e1, q1⟩ := q.2 i d e
      exact ⟨v, e1, RV.mv m0 r1.muts _ _ q1⟩⟩
  · rintro i m H2 ⟨ρ2, hd2, acc, xs, r2, eh, st2, s2, eL, rs2, rfl, h2⟩
    have lL : L ∉ ρ2.l := (r2.hid L (by rw [eh]; exact List.mem_cons_self)).2
    have mv2 : Mv ρ1 H1 ρ2 H2 := ⟨st2.mv.get, fun a n e => ⟨(st2.out n e).1, fun z => by
      rw [eh] at z
      rcases List.mem_cons.mp z with z | z
      · rw [z, hL] at e; cases e
      · exact n.2 z⟩, st2.mv.old⟩
    cases ei : x.1[i]? with
    | none =>
      rw [drop_none ei] at h2
      unfold compR at h2
      by_cases c : x.2 hd2 = true
      · rw [if_pos c] at h2
        have h2 : Res (gx X T) W σ (RV (gx X T)) ρ1 H1 (mkL mt (acc ++ []) hd2) Q := h2
        rw [List.append_nil] at h2
        have hz := mkL_len h2
        unfold mkL at h2
        rw [if_pos hz] at h2
        refine .inl ⟨(fd ρ2 hd2 H2 i r2 mv2 c).2 ei, ?_⟩
        cases mt with
        | true =>
          have r3 := r2.unhideM eh nL eL rs2
          have st3 : Stp ρ1 H1 ⟨ρ2.l ++ [L], ρ1.hid⟩ H2 := ⟨st2.pre.trans (List.prefix_append _ _), rfl, fun b hb => by
            rcases List.mem_append.mp hb with z | z
            · exact st2.new b z
            · exact .inr (by simp at z; rw [z]; exact hL), st2.old⟩
          refine h2 _ H2 (.ref L) r3 st3 (.ref ?_)
          show (ρ2.l ++ [L])[hd2.length]? = some L
          rw [← r2.len]; simp
        | false =>
          obtain ⟨m3, r3⟩ := r2.unhide eh
          exact h2 _ H2 (.ref L) r3 st2 (.lv ⟨lL, nL⟩ eL (RVs.mv m3 r2.muts _ _ rs2))
      · rw [if_neg c] at h2; exact h2.elim
    | some d =>
      rw [drop_some ei] at h2
      unfold compR at h2
      have hi := (List.getElem?_eq_some_iff.mp ei).1
      by_cases c : x.2 hd2 = true
      · rw [if_pos c] at h2
        obtain ⟨go, yl⟩ := (fd ρ2 hd2 H2 i r2 mv2 c).1 d ei
        refine .inr ⟨go, _, fun H' n => ⟨x.1.length - (i + 1), by omega, n⟩, fun v H3 y => ?_⟩
        obtain ⟨r3, st3, q3⟩ := yl v H3 y
        cases eb : bindT t d (wipeD sd1 vs) with
        | none => simp only [eb] at h2; exact h2.elim
        | some s =>
          simp only [eb] at h2
          refine bnd (G := gx X T) rfl t d v _ s (wipe σ vs) _ hs (s2.mono st3 r2.muts) q3 eb fun σ4 s4 w4 => ⟨w4.trans (wipe_sub vs fun _ h => h), ?_⟩
          refine ⟨ρ2, hd2, s, r3, s4, ?_⟩
          -- what stays behind a part of the turn
          have later : ∀ {ρ' hd' H'}, Rep (gx X T) ρ' hd' H' → Stp ρ2 H2 ρ' H' → Stp ρ1 H1 ⟨ρ'.l, ρ1.hid⟩ H' ∧ RSt (gx X T) ρ' H' (wipeD sd1 vs) (wipe σ vs) ∧ H' L = some (.lst xs) ∧ RVs (gx X T) ρ' H' acc xs ∧ ρ'.hid = L :: ρ1.hid := fun {ρ' hd' H'} r' st' =>
            ⟨st2.trans (stp_hid st'), s2.mono st' r2.muts, st'.old _ _ eL lL, RVs.mono st' r2.muts _ _ rs2, st'.hid.trans eh⟩
          cases et : tt s hd2 with
          | ok b hd5 =>
            intro ρ5 H5 b' r5 st5 e5
            obtain rfl : b = b' := e5
            have st5' : Stp ρ2 H2 ρ5 H5 := st3.trans st5
            cases b with
            | false =>
              simp only [et] at h2
              obtain ⟨l1, l2, l3, l4, l5⟩ := later r5 st5'
              exact ⟨ρ5, hd5, acc, xs, r5, l5, l1, l2, l3, l4, rfl, h2⟩
            | true =>
              simp only [et] at h2
              refine ⟨ρ5, hd5, s, r5, s4.mono st5 r3.muts, ?_⟩
              cases ee : te s hd5 with
              | ok yd hd6 =>
                simp only [ee] at h2
                intro ρ6 H6 yv r6 st6 q6
                obtain ⟨l1, l2, l3, l4, l5⟩ := later r6 (st5'.trans st6)
                cases er : compR t tt te x.2 (wipeD sd1 vs) (x.1.drop (i + 1)) hd6 with
                | ok ys hd7 =>
                  rw [er] at h2
                  have h2 : Res (gx X T) W σ (RV (gx X T)) ρ1 H1 (mkL mt (acc ++ yd :: ys) hd7) Q := h2
                  have hz := mkL_len h2
                  obtain ⟨m7, r7⟩ := r6.grow (p := L) (o := .lst (xs ++ [yv])) (by rw [l5]; exact List.mem_cons_self) trivial
                  refine ⟨xs, l3, by rw [← l4.len]; simp at hz; omega, ρ6, hd6, acc ++ [yd], xs ++ [yv], r7, l5, stp_upd l1 hL, ⟨l2.1, fun j d' e' => ?_⟩, upd_same, RVs.mv m7 r6.muts _ _ (l4.app (.cons q6 .nil)), rfl, ?_⟩
                  · obtain ⟨v', e1, q1⟩ := l2.2 j d' e'
                    exact ⟨v', e1, RV.mv m7 r6.muts _ _ q1⟩
                  · rw [er]
                    show Res (gx X T) W σ (RV (gx X T)) ρ1 H1 (mkL mt ((acc ++ [yd]) ++ ys) hd7) Q
                    rw [List.append_assoc]
                    exact h2
                | ex C fs hd7 => rw [er] at h2; exact h2.elim
                | bad => rw [er] at h2; exact h2.elim
              | ex C fs hd6 => simp only [ee] at h2; exact h2.elim
              | bad => simp only [ee] at h2; exact h2.elim
          | ex C fs hd5 => simp only [et] at h2; exact h2.elim
          | bad => simp only [et] at h2; exact h2.elim
      · rw [if_neg c] at h2; exact h2.elim
end
end Wy

set_option Elab.async false
set_option linter.all false
set_option maxRecDepth 100000
set_option maxHeartbeats 4000000
namespace Wy
open PySem PySem.Spec PyProof.Rows L2

section
variable {X : Cx} {T : Tb} {E : XK} {W : WX} {e elt tg iter : Expr} {es ifs : List Expr} {scope : Scope} {own : List (Str × Nat)} {pos p : Pos}
/-! ### comprehensions, the rules -/
def mYes : SD → M Bool := fun _ => pure true
theorem tms_nil : PTs X [] (tT (gx X T) W mYes) := ⟨fun pins s σ H Q I ⟨ρ, hd, sd, r, st, h⟩ => (pts_nil (X := X)).run pins s σ H Q I (h ρ H true r .refl rfl)⟩
theorem tms_one {c : Expr} {t : SD → M Bool} (h : PTm X T W c t) : PTs X [c] (tT (gx X T) W t) := pts_one h
theorem em_comp {t : CT} {tt : SD → M Bool} {te : SD → M D} {mt : Bool} {mi : SD → M Src} (hc : X.calm = true) (hN : X.N.Nodup) (hi : PIm X T W tg iter mi) (ok : BlkOk X.N X.env.scope scope own) (hs : ∀ i ∈ t.slots, i ∈ own.map (·.2))
    (hg : ∀ (s : Shared) (H : Hp) (C : Addr) (cl : List (Str × Addr)) (fp : List Addr), PG (X.blk s H scope (compEnvC scope cl C X.env) fp) tg (gOf X.K t))
    (ht : ∀ (s : Shared) (H : Hp) (C : Addr) (cl : List (Str × Addr)) (fp : List Addr), PTs (X.blk s H scope (compEnvC scope cl C X.env) fp) ifs (tT (gx X T) W0 tt))
    (he : ∀ (s : Shared) (H : Hp) (C : Addr) (cl : List (Str × Addr)) (fp : List Addr), PE (X.blk s H scope (compEnvC scope cl C X.env) fp) elt (tE (gx X T) W0 te))
    (hf : ∀ x, foldedSetIterable iter X.env x = pure x) : PEm X T W (.ListComp elt [⟨tg, iter, ifs, 0⟩] scope pos) (mComp (own.map (·.2)) t tt te mt mi) :=
  weakE (pe_lc hc hN hi ok hg ht he hf) (lc_go hs)
/-- name = [..] on one line -/
theorem sm_comp {i : Nat} {y : Str} {py spos : Pos} {t : CT} {tt : SD → M Bool} {te : SD → M D} {mt : Bool} {mi : SD → M Src} (hc : X.calm = true) (hN : X.N.Nodup) (hy : X.N[i]? = some y) (hyl : X.env.scope.names.lookup y = some .local)
    (hsw : swapsWith (.ListComp elt [⟨tg, iter, ifs, 0⟩] scope pos) (some (.Name y py)) spos.line X.env = pure true) (hi : PIm X T (WC E) tg iter mi) (ok : BlkOk X.N X.env.scope scope own) (hs : ∀ i ∈ t.slots, i ∈ own.map (·.2))
    (hg : ∀ (s : Shared) (H : Hp) (C : Addr) (cl : List (Str × Addr)) (fp : List Addr), PG (X.blk s H scope (compEnvC scope cl C X.env) fp) tg (gOf X.K t))
    (ht : ∀ (s : Shared) (H : Hp) (C : Addr) (cl : List (Str × Addr)) (fp : List Addr), PTs (X.blk s H scope (compEnvC scope cl C X.env) fp) ifs (tT (gx X T) W0 tt))
    (he : ∀ (s : Shared) (H : Hp) (C : Addr) (cl : List (Str × Addr)) (fp : List Addr), PE (X.blk s H scope (compEnvC scope cl C X.env) fp) elt (tE (gx X T) W0 te))
    (hf : ∀ x, foldedSetIterable iter X.env x = pure x) : PSm X T E (.Assign [.Name y py] (.ListComp elt [⟨tg, iter, ifs, 0⟩] scope pos) spos) (mAsg (mComp (own.map (·.2)) t tt te mt mi) (gNm i)) :=
  weakS (ps_setLc hc hN hy hyl hsw hi ok hg ht he hf) fun D σ H h => by
    have h := asg_go D σ H h
    refine lc_go hs σ H _ (tG_then h fun v H1 ⟨ρ, hd, sd, d, r, st, q, z⟩ => ?_)
    exact z ρ H1 _ r .refl (st.set q)
end

/-! ### what a def promises -/
def spOf (G : Gx) (n : Nat) (F : List D → M D) : Sp := fun vs H Q E => ∃ ρ hd ds, Rep G ρ hd H ∧ RVs G ρ H ds vs ∧ ds.length = n ∧ Res G (WC E) [] (RV G) ρ H (F ds hd) Q
theorem res_wish {G : Gx} {W : WX} {σ : L2.St} {ρ : Rg} {H : Hp} {r : Re D} {Q : VK} (h : Res G W σ (RV G) ρ H r Q) : Res G (WC (WE W σ)) [] (RV G) ρ H r Q := by
  cases r <;> exact h
section
variable {X : Cx} {T : Tb} {E : XK} {W : WX} {e : Expr} {es : List Expr} {pos p : Pos}
theorem em_call {F : List D → M D} {ml : SD → M (List D)} {n k : Nat} {f : Addr} {fd : FuncData} {ps : List Str} {x : Str} (Fo : FnOk X.prog X.w X.K X.mg X.base (L2.CX X.prog X.w) k f fd ps (spOf (gx X T) n F)) (hr : Room k X.A) (hg : Gl X x) (hm : X.mg x = some (.ref f)) (hk : PySem.W.keepIn X.K (.ref f) = true)
    (hb : Binds X.K fd ps []) (tk : Takes X W) (ha : PAm X T W (e :: es) ml) (l : Len n ml) (hdb : (x == ("__debug__" : Str)) = false) (he : starEach (e :: es) X.env = (false, eval e X.env) :: starEach es X.env) (hpl : (backTo pos (starEach es X.env)).any (·.1) = false) :
    PEm X T W (.Call (.Name x p) (e :: es) [] pos) (mCall F ml) :=
  weakE (pe_callS (E := WE W) Fo hr hg hm hk hb (fun σ => passAt tk σ) ha hdb he hpl) fun σ H Q h =>
    tG_then (tG_bind' (R := RVs (gx X T)) (k := fun _ ds => F ds) h) fun vs H1 ⟨ρ1, hd1, sd1, ds, ⟨r1, _, q⟩, ⟨h0, e0⟩, h1⟩ => ⟨ρ1, hd1, ds, r1, q, l _ _ _ _ e0, res_wish h1⟩
theorem em_call0 {F : List D → M D} {k : Nat} {f : Addr} {fd : FuncData} {ps : List Str} {x : Str} (Fo : FnOk X.prog X.w X.K X.mg X.base (L2.CX X.prog X.w) k f fd ps (spOf (gx X T) 0 F)) (hr : Room k X.A) (hg : Gl X x) (hm : X.mg x = some (.ref f)) (hk : PySem.W.keepIn X.K (.ref f) = true)
    (hb : Binds X.K fd ps []) (tk : Takes X W) (hdb : (x == ("__debug__" : Str)) = false) : PEm X T W (.Call (.Name x p) [] [] pos) (mCall F mNil) :=
  ⟨fun pins s σ H Q I h => by
    refine wpAny_Call_Name_kw (ld_glob I hg hm ?_ hdb)
    obtain ⟨ρ, hd, sd, r, st, h⟩ := h
    refine PySem.W.callWith_K0 I.kIn hk (run_fnS (us := []) (vs := []) Fo hr hb (E := WE W) (passAt tk σ) I .nil ⟨ρ, hd, [], r, .nil, rfl, res_wish h⟩)⟩
end
/-- the slots at a def's entry -/
def slots0 (n : Nat) (ds : List D) : SD := ds.map some ++ List.replicate (n - ds.length) none
def endF (f : Fl) : M D := match f with
  | .nx _ => pure .non
  | .rt d => pure d
  | _ => M.bad
/-- what a def gives: its body from its arguments -/
def denF (n : Nat) (m : SD → M Fl) : List D → M D := fun ds => cut (m (slots0 n ds) >>= endF)
theorem rst_start {G : Gx} {ρ : Rg} {H : Hp} {ds : List D} {vs : List V} {N : List Str} (q : RVs G ρ H ds vs) : RSt G ρ H (slots0 N.length ds) (L2.start N vs) := by
  unfold slots0 L2.start
  refine ⟨by simp [q.len], fun i d e => ?_⟩
  by_cases c : i < ds.length
  · rw [List.getElem?_append_left (by simpa using c), List.getElem?_map] at e
    obtain ⟨d', e1, e2⟩ := Option.map_eq_some_iff.mp e
    cases e2
    obtain ⟨v, e3, r⟩ := q.get e1
    exact ⟨v, by rw [List.getElem?_append_left (by rw [List.length_map, ← q.len]; exact c), List.getElem?_map, e3]; rfl, r⟩
  · rw [List.getElem?_append_right (by simpa using c), List.getElem?_replicate] at e
    split at e <;> cases e
section
variable {G : Gx} {ρ ρ' : Rg} {H H' : Hp} {hd : DH}
theorem keys_under {n : Nat} : ∀ {ks : List D} {xs : List (Option Key)}, (ks.map toKey = xs) → (∀ x ∈ xs, x.isSome = true) → D.unders n ks = true
  | [], _, _, _ => by simp [D.unders]
  | a :: as, xs, k, h => by
    cases xs with
    | nil => simp at k
    | cons b bs =>
      simp at k
      have hb := h b (by simp)
      have : a.under n = true := by
        rw [← k.1] at hb
        cases a <;> simp [toKey] at hb <;> simp [D.under]
      simp [D.unders, this]
      exact keys_under k.2 fun x hx => h x (by simp [hx])
mutual
theorem RV.under : ∀ (d : D) (v : V), RV G ρ H d v → d.under ρ.l.length = true
  | _, _, .non | _, _, .bl _ | _, _, .int _ | _, _, .str _ _ => by simp [D.under]
  | _, _, .tup _ r => by simpa [D.under] using RVs.under _ _ r
  | _, _, .lv _ _ r => by simpa [D.under] using RVs.under _ _ r
  | _, _, .rl _ r => by simpa [D.under] using RVs.under _ _ r
  | _, _, .ref e => by simpa [D.under] using (List.getElem?_eq_some_iff.mp e).1
  | _, _, .dvk (kvs := kvs) _ _ k _ r => by simp [D.under, keys_under k (by intro x hx; obtain ⟨p, _, rfl⟩ := List.mem_map.mp hx; rfl), RVs.under _ _ r]
  | _, _, .dvt _ _ _ rk _ _ r => by simp [D.under, RVs.under _ _ rk, RVs.under _ _ r]
  | _, _, .fn _ _ _ r => by simpa [D.under] using RVs.under _ _ r
theorem RVs.under : ∀ (ds : List D) (vs : List V), RVs G ρ H ds vs → D.unders ρ.l.length ds = true
  | _, _, .nil => by simp [D.unders]
  | _, _, .cons r t => by simp [D.unders, RV.under _ _ r, RVs.under _ _ t]
end
mutual
theorem RV.back (ho : ∀ a, ρ'.Out a → ρ.Out a) (pre : ρ.l <+: ρ'.l) : ∀ (d : D) (v : V), RV G ρ' H' d v → d.under ρ.l.length = true → RV G ρ H' d v
  | _, _, .non, _ => .non
  | _, _, .bl b, _ => .bl b
  | _, _, .int i, _ => .int i
  | _, _, .str x h, _ => .str x h
  | _, _, .tup h r, u => .tup h (RVs.back ho pre _ _ r (by simpa [D.under] using u))
  | _, _, .lv n e r, u => .lv (ho _ n) e (RVs.back ho pre _ _ r (by simpa [D.under] using u))
  | _, _, .rl h r, u => .rl (h.imp (fun q => ⟨ho _ q.1, q.2⟩) id) (RVs.back ho pre _ _ r (by simpa [D.under] using u))
  | .ref n, _, .ref e, u => .ref (by
      have hn : n < ρ.l.length := by simpa [D.under] using u
      obtain ⟨t, ht⟩ := pre
      rw [← ht, List.getElem?_append_left hn] at e
      exact e)
  | _, _, .dvk n e k u r, w => .dvk (ho _ n) e k u (RVs.back ho pre _ _ r (by simp [D.under] at w; exact w.2))
  | _, _, .dvt n e t rk k u r, w => .dvt (ho _ n) e t (RVs.back ho pre _ _ rk (by simp [D.under] at w; exact w.1)) k u (RVs.back ho pre _ _ r (by simp [D.under] at w; exact w.2))
  | _, _, .fn fp hb hf r, u => .fn fp (fun b h => ⟨ho b (hb b h).1, (hb b h).2⟩) hf (RVs.back ho pre _ _ r (by simpa [D.under] using u))
theorem RVs.back (ho : ∀ a, ρ'.Out a → ρ.Out a) (pre : ρ.l <+: ρ'.l) : ∀ (ds : List D) (vs : List V), RVs G ρ' H' ds vs → D.unders ρ.l.length ds = true → RVs G ρ H' ds vs
  | _, _, .nil, _ => .nil
  | _, _, .cons r t, u => .cons (RV.back ho pre _ _ r (by simp [D.unders] at u; exact u.1)) (RVs.back ho pre _ _ t (by simp [D.unders] at u; exact u.2))
end
/-- the names of an object's things -/
def Ob.under (n : Nat) : Ob → Bool
  | .lst l => D.unders n l
  | .dct _ kvs => D.unders n (kvs.map (·.1)) && D.unders n (kvs.map (·.2))
  | .ins _ fs => D.unders n (fs.map (·.2))
theorem ObR.under {a : Addr} : ∀ {o : Ob}, ObR G ρ H a o → o.under ρ.l.length = true
  | .lst _, ⟨_, _, r⟩ => RVs.under _ _ r
  | .dct false kvs, ⟨ks, us, _, k, _, r⟩ => by
    have h1 : D.unders ρ.l.length (kvs.map (·.1)) = true := keys_under (xs := ks.map fun p => some p.1) (by rw [List.map_map]; exact k) (by intro x hx; obtain ⟨p, _, rfl⟩ := List.mem_map.mp hx; rfl)
    simp only [Ob.under, h1, RVs.under _ _ r, Bool.and_self]
  | .dct true kvs, ⟨xs, ts, us, _, _, rk, _, _, r⟩ => by simp only [Ob.under, RVs.under _ _ rk, RVs.under _ _ r, Bool.and_self]
  | .ins _ _, ⟨_, _, _, _, _, _, _, _, r⟩ => RVs.under _ _ r
theorem ObR.back (ho : ∀ a, ρ'.Out a → ρ.Out a) (pre : ρ.l <+: ρ'.l) {a : Addr} : ∀ {o : Ob}, ObR G ρ' H' a o → o.under ρ.l.length = true → ObR G ρ H' a o
  | .lst _, ⟨xs, e, r⟩, u => ⟨xs, e, RVs.back ho pre _ _ r u⟩
  | .dct false kvs, ⟨ks, us, e, k, u', r⟩, u => ⟨ks, us, e, k, u', RVs.back ho pre _ _ r (by simp [Ob.under] at u; exact u.2)⟩
  | .dct true kvs, ⟨xs, ts, us, e, t, rk, k, u', r⟩, u => ⟨xs, ts, us, e, t, RVs.back ho pre _ _ rk (by simp [Ob.under] at u; exact u.1), k, u', RVs.back ho pre _ _ r (by simp [Ob.under] at u; exact u.2)⟩
  | .ins _ _, ⟨Ca, dx, vs, us, c, e, n, u', r⟩, u => ⟨Ca, dx, vs, us, c, e, n, u', RVs.back ho pre _ _ r u⟩
/-- back to the objects that were there -/
theorem Rep.back {hd' : DH} (r : Rep G ρ hd H) (r' : Rep G ρ' hd' H') (s : Stp ρ H ρ' H') (e : hd'.take hd.length = hd) : Rep G ρ hd H' ∧ Stp ρ H ρ H' ∧ (∀ a, ρ'.Out a → ρ.Out a) := by
  have ho : ∀ a, ρ'.Out a → ρ.Out a := fun a n => ⟨fun z => n.1 (s.pre.subset z), by rw [← s.hid]; exact n.2⟩
  refine ⟨⟨r.len, r.nd, fun a ha => ⟨(r'.hid a (by rw [s.hid]; exact ha)).1, (r.hid a ha).2⟩, fun n a o h1 h2 => ?_⟩, ⟨List.prefix_refl _, rfl, fun _ h => .inl h, s.old⟩, ho⟩
  have h3 : hd'[n]? = some o := by
    rw [← e, List.getElem?_take] at h2
    split at h2
    · exact h2
    · cases h2
  exact (r'.ob n a o (pre_get s.pre h1) h3).back ho s.pre (r.ob n a o h1 h2).under
theorem cut_res {W : WX} {σ : L2.St} {m : M D} {Q : VK} (r : Rep G ρ hd H) (h : Res G W σ (RV G) ρ H (cut m hd) Q) : Res G W σ (RV G) ρ H (m hd) Q := by
  unfold cut at h
  cases e : m hd with
  | ok d hd' =>
    simp only [e] at h
    by_cases c : hd'.take hd.length = hd ∧ d.under hd.length = true
    · rw [if_pos c] at h
      intro ρ2 H2 v r2 s2 q2
      obtain ⟨b1, b2, b3⟩ := r.back r2 s2 c.1
      exact h ρ H2 v b1 b2 (RV.back b3 s2.pre _ _ q2 (by rw [r.len]; exact c.2))
    · rw [if_neg c] at h; exact h
  | ex C fs hd' =>
    simp only [e] at h
    by_cases c : hd'.take hd.length = hd ∧ D.unders hd.length (fs.map (·.2)) = true
    · rw [if_pos c] at h
      intro ρ2 H2 cl dd r2 s2 q2
      obtain ⟨b1, b2, b3⟩ := r.back r2 s2 c.1
      refine h ρ H2 cl dd b1 b2 ⟨q2.1, ?_⟩
      rcases q2.2 with q | ⟨d, vs, us, e1, n, e2, e3, e4, rs⟩
      · exact .inl q
      · exact .inr ⟨d, vs, us, e1, b3 d n, e2, e3, e4, RVs.back b3 s2.pre _ _ rs (by rw [r.len]; exact c.2)⟩
    · rw [if_neg c] at h; exact h
  | bad => simp only [e] at h; exact h
end
/-- THE RULE for a def -/
theorem def_ok {P : Program} {w : World} {K : PySem.W.Frag} {mg : Str → Option Value} {base : Heap} {T : Tb} {x qual : Str} {st : Stmt} {f : Addr} {fd : FuncData} {N ps : List Str} {k n : Nat} {m : SD → M Fl} (F : Fun K x qual st f fd) (S : FnScope N ps (defScope st)) (hn : ps.length = n)
    (body : ∀ (cdv : Value) (A : Around) (outer : List Env) (s : Shared) (H : Hp) (E : XK), Room k (A.deeper (envOfC qual (defScope st) s.heap.objs.size f cdv)) → PSsm (cxOf (L2.CX P w) P w K mg base N qual (defScope st) f cdv A outer s H E) T E (defBody st) m) :
    FnOk P w K mg base (L2.CX P w) (k + 1) f fd ps (spOf ⟨P, w, K, T⟩ n (denF N.length m)) := by
  refine F.okX S (fun vs H Q E ⟨ρ, hd, ds, r, q, l, h⟩ => by rw [← q.len, l, hn]) (fun cdv A outer s H vs Q E hr h => ⟨_, body cdv A outer s H E hr, ?_⟩)
  obtain ⟨ρ, hd, ds, r, q, l, h⟩ := h
  refine ⟨ρ, hd, slots0 N.length ds, r, rst_start q, ?_⟩
  have h := cut_res r h
  rw [bind_ap] at h
  cases e : m (slots0 N.length ds) hd with
  | ok fl hd' =>
    rw [e] at h
    cases fl with
    | nx s' => exact fun ρ' H' σ' r' s' q' => h ρ' H' .non r' s' .non
    | rt d => exact h
    | bk _ => exact h.elim
    | ct _ => exact h.elim
  | ex C fs hd' => rw [e] at h; exact h
  | bad => rw [e] at h; exact h
end Wy

set_option Elab.async false
set_option linter.all false
set_option maxRecDepth 100000
set_option maxHeartbeats 4000000
namespace Wy
open PySem PySem.Spec PyProof.Rows L2

/-! ### dicts whose keys are tuples -/
def dlook {κ : Type} [DecidableEq κ] (f : D → Option κ) (k : κ) : List (D × D) → Option D
  | [] => none
  | p :: r => if f p.1 = some k then some p.2 else dlook f k r
def dput {κ : Type} [DecidableEq κ] (f : D → Option κ) (k : κ) (kd v : D) (kvs : List (D × D)) : List (D × D) :=
  if (dlook f k kvs).isSome = true then kvs.map (fun p => if f p.1 = some k then (p.1, v) else p) else kvs ++ [(kd, v)]
section
variable {X : Cx} {T : Tb} {pins : List (Addr × Obj)} {σ : L2.St} {H : Hp} {s : Shared} {ρ : Rg} {hd : DH}
mutual
theorem rv_key (I : Inv X pins σ H s) : ∀ (d : D) (v : V) (u : Value) (k : NestedKey), RV (gx X T) ρ H d v → toK d = some k → RelV v u → NestedIs s.heap k u
  | _, _, u, k, .non, e, r => by simp [toK] at e; subst e; cases r; exact .none
  | _, _, u, k, .bl b, e, r => by simp [toK] at e; subst e; cases r; exact .bool rfl
  | _, _, u, k, .int i, e, r => by simp [toK] at e; subst e; obtain ⟨t, rfl⟩ := r; exact .int i t
  | _, _, u, k, .str x _, e, r => by simp [toK] at e; subst e; obtain ⟨t, rfl⟩ := r; exact .text x t
  | _, _, u, k, .tup hs rs, e, r => by
    simp only [toK] at e
    obtain ⟨ks, e1, rfl⟩ := Option.map_eq_some_iff.mp e
    cases r
    obtain ⟨its, rv, ⟨o, ho, hc, n, hdt⟩, _⟩ := I.tuple hs
    exact .tup ho hc hdt (by simpa using rv_keys I _ _ its ks rs e1 rv)
  | _, _, u, k, .lv _ _ _, e, r => by simp [toK] at e
  | _, _, u, k, .rl _ _, e, r => by simp [toK] at e
  | _, _, u, k, .ref _, e, r => by simp [toK] at e
  | _, _, u, k, .dvk _ _ _ _ _, e, r => by simp [toK] at e
  | _, _, u, k, .dvt _ _ _ _ _ _ _, e, r => by simp [toK] at e
  | _, _, u, k, .fn _ _ _ _, e, r => by simp [toK] at e
theorem rv_keys (I : Inv X pins σ H s) : ∀ (ds : List D) (vs : List V) (us : List Value) (ks : List NestedKey), RVs (gx X T) ρ H ds vs → toK.toKs ds = some ks → Vals vs us → NestedAll s.heap ks us
  | _, _, us, ks, .nil, e, r => by simp [toK.toKs] at e; subst e; cases r; exact .nil
  | _, _, us, ks, .cons (d := d) (ds := ds) q qs, e, r => by
    simp only [toK.toKs] at e
    cases e1 : toK d with
    | none => rw [e1] at e; cases e
    | some k => cases e2 : toK.toKs ds with
      | none => rw [e1, e2] at e; cases e
      | some ks' =>
        rw [e1, e2] at e; cases e
        cases r with
        | cons r1 r2 => exact .cons (rv_key I _ _ _ k q e1 r1) (rv_keys I _ _ _ ks' qs e2 r2)
end
/-- a dict of tuples, tracked -/
structure TD (X : Cx) (T : Tb) (ρ : Rg) (H : Hp) (a : Addr) (kvs : List (D × D)) (xs : List (NestedKey × Addr × V)) : Prop where
  at_ : H a = some (TDO X.prog X.w a xs)
  keys : RVs (gx X T) ρ H (kvs.map (·.1)) (xs.map fun x => V.ref x.2.1)
  kk : kvs.map (fun p => toK p.1) = xs.map (fun x => some x.1)
  vals : RVs (gx X T) ρ H (kvs.map (·.2)) (xs.map (·.2.2))
abbrev PT3 : List (NestedKey × Addr × V) → List (NestedKey × Addr × Value) → Prop := Paired (fun (p : NestedKey × Addr × V) (q : NestedKey × Addr × Value) => p.1 = q.1 ∧ p.2.1 = q.2.1 ∧ RelV p.2.2 q.2.2)
theorem td_is (I : Inv X pins σ H s) : ∀ {kvs : List (D × D)} {xs : List (NestedKey × Addr × V)} {ys : List (NestedKey × Addr × Value)}, RVs (gx X T) ρ H (kvs.map (·.1)) (xs.map fun x => V.ref x.2.1) → kvs.map (fun p => toK p.1) = xs.map (fun x => some x.1) →
    PT3 xs ys → (∀ x ∈ xs, x.1.depth ≤ 8) → ∀ y ∈ ys, (nestedKind X.prog X.w).is s.heap y.1 y.2.1
  | [], xs, ys, rk, kk, p, hz => by
    cases xs with
    | nil => cases p; intro y hy; cases hy
    | cons _ _ => simp at kk
  | kv :: kvs, xs, ys, rk, kk, p, hz => by
    cases p with
    | nil => simp at kk
    | cons p1 p2 =>
      rename_i x y xs ys
      simp only [List.map_cons, List.cons.injEq] at kk
      obtain ⟨v, us, e, q1, q2⟩ := RVs.inv rk
      simp only [List.map_cons, List.cons.injEq] at e
      obtain ⟨rfl, rfl⟩ := e
      intro z hz'
      rcases List.mem_cons.mp hz' with rfl | hz'
      · refine ⟨rv_key I _ _ _ _ q1 (by rw [kk.1, p1.1]) ?_, by rw [← p1.1]; exact hz x (by simp)⟩
        rw [p1.2.1]
        rfl
      · exact td_is I q2 kk.2 p2 (fun x hx => hz x (by simp [hx])) z hz'
theorem TD.of (I : Inv X pins σ H s) {a : Addr} {kvs : List (D × D)} {xs : List (NestedKey × Addr × V)} (t : TD X T ρ H a kvs xs) :
    (a == sysModules) = false ∧ xs.length ≤ sizeLine ∧ (xs.map (·.1)).Nodup ∧ (∀ x ∈ xs, x.1.depth ≤ 8) ∧ ∃ ys, PT3 xs ys ∧ s.heap.DictOfH (nestedKind X.prog X.w) a ys := by
  have h := I.hok a _ t.at_
  obtain ⟨⟨h1, h2, h3, h4, o, es, ep, ys, ho, hc, hdt, he, hp⟩, _⟩ := h
  refine ⟨h1, h2, h3, h4, ys, hp, o, es, ep, ho, hc, hdt, he, td_is I t.keys t.kk hp h4, ?_⟩
  have e : ∀ {xs ys}, PT3 xs ys → xs.map (·.1) = ys.map (·.1) := fun {xs ys} p => by
    induction p with
    | nil => rfl
    | cons h _ ih => simp [h.1, ih]
  rw [← e hp]; exact h3
theorem td_look {k : NestedKey} : ∀ {kvs : List (D × D)} {xs : List (NestedKey × Addr × V)} {ys : List (NestedKey × Addr × Value)}, kvs.map (fun p => toK p.1) = xs.map (fun x => some x.1) → RVs (gx X T) ρ H (kvs.map (·.2)) (xs.map (·.2.2)) → PT3 xs ys →
    match dlook toK k kvs with
    | some d => ∃ q v, atKey ys k = some q ∧ RelV v q.2 ∧ RV (gx X T) ρ H d v
    | none => atKey ys k = none
  | [], xs, ys, kk, rv, p => by
    cases xs with
    | nil => cases p; rfl
    | cons _ _ => simp at kk
  | kv :: kvs, xs, ys, kk, rv, p => by
    cases p with
    | nil => simp at kk
    | cons p1 p2 =>
      rename_i x y xs ys
      simp only [List.map_cons, List.cons.injEq] at kk
      obtain ⟨v, us, e, q1, q2⟩ := RVs.inv rv
      simp only [List.map_cons, List.cons.injEq] at e
      obtain ⟨rfl, rfl⟩ := e
      unfold dlook
      by_cases c : x.1 = k
      · rw [if_pos (by rw [kk.1, c])]
        exact ⟨y.2, _, by simp [atKey, List.find?_cons, ← p1.1, c], p1.2.2, q1⟩
      · rw [if_neg (by rw [kk.1]; simpa using c)]
        have ih := td_look (k := k) kk.2 q2 p2
        have ea : atKey (y :: ys) k = atKey ys k := by simp [atKey, List.find?_cons, ← p1.1, c]
        rw [ea]
        exact ih
end
end Wy

set_option Elab.async false
set_option linter.all false
set_option maxRecDepth 100000
set_option maxHeartbeats 4000000
namespace Wy
open PySem PySem.Spec PyProof.Rows L2

/-! ### reading a dict -/
/-- a dict of tuples at a, asked at x -/
def TGet (X : Cx) (H : Hp) (a : Addr) (x : V) (o : Option V) : Prop := ∃ b k, x = .ref b ∧ ∀ pins σ s, Inv X pins σ H s → (a == sysModules) = false ∧ (nestedKind X.prog X.w).is s.heap k b ∧ ∃ ys, s.heap.DictOfH (nestedKind X.prog X.w) a ys ∧ match o with
  | none => atKey ys k = none
  | some v => ∃ q, atKey ys k = some q ∧ RelV v q.2
def DAny (X : Cx) (H : Hp) (a : Addr) (x : V) (o : Option V) : Prop := DGet H a x o ∨ TGet X H a x o
section
variable {X : Cx} {T : Tb}
abbrev rInDc (X : Cx) : R2 := fun x y H Q => ∃ a o, y = .ref a ∧ DAny X H a x o ∧ Q (.bl o.isSome) H
abbrev rNotInDc (X : Cx) : R2 := fun x y H Q => ∃ a o, y = .ref a ∧ DAny X H a x o ∧ Q (.bl (!o.isSome)) H
theorem room8 {A : Around} (hu : A.units + 10 < cLine) {P : Program} {w : World} : (nestedKind P w).room A.in1 := by
  show A.units + 1 + 8 < cLine
  omega
theorem op_inDc (hu : X.A.units + 10 < cLine) : OpR X (compareOp .In) (rInDc X) := by
  intro pins s σ H x y v u Q I rx ry h
  obtain ⟨a, o, rfl, h, q⟩ := h
  cases ry
  rcases h with h | ⟨b, k, rfl, h⟩
  · exact d_in (by omega) I h rx fun s' I' => ⟨.bl o.isSome, H, I', rfl, q⟩
  · cases rx
    obtain ⟨hd, hk, ys, hm, ho⟩ := h pins σ s I
    have e : (atKey ys k).isSome = o.isSome := by
      cases o with
      | none => rw [show atKey ys k = none from ho]; rfl
      | some v => obtain ⟨q, e, _⟩ := ho; rw [e]; rfl
    exact wpAny_in_heap (knd := nestedKind X.prog X.w) (room8 hu) hk hd hm ⟨.bl o.isSome, H, I.tok _, by rw [e]; rfl, q⟩
theorem op_notInDc (hu : X.A.units + 10 < cLine) : OpR X (compareOp .NotIn) (rNotInDc X) := by
  intro pins s σ H x y v u Q I rx ry h
  obtain ⟨a, o, rfl, h, q⟩ := h
  cases ry
  rcases h with h | ⟨b, k, rfl, h⟩
  · exact d_notIn (by omega) I h rx fun s' I' => ⟨.bl (!o.isSome), H, I', rfl, q⟩
  · cases rx
    obtain ⟨hd, hk, ys, hm, ho⟩ := h pins σ s I
    have e : (atKey ys k).isSome = o.isSome := by
      cases o with
      | none => rw [show atKey ys k = none from ho]; rfl
      | some v => obtain ⟨q, e, _⟩ := ho; rw [e]; rfl
    exact wpAny_notIn_heap (knd := nestedKind X.prog X.w) (room8 hu) hk hd hm ⟨.bl (!o.isSome), H, I.tok _, by rw [e]; rfl, q⟩
abbrev rIxDc (X : Cx) : R2 := fun x y H Q => ∃ a v, x = .ref a ∧ DAny X H a y (some v) ∧ Q v H
theorem ix_dc (hu : X.A.units + 10 < cLine) : IxR X (rIxDc X) := by
  intro value slice pins s σ H x y v u Q I rx ry h hs
  obtain ⟨a, w, rfl, h, q⟩ := h
  cases rx
  rcases h with h | ⟨b, k, rfl, h⟩
  · exact tail_any (dict_typeIs I h) PySem.F.slot_dict_getitem.lookup (d_getItem (by omega) I h ry fun w' s' I' rw' => ⟨w, H, I', rw', q⟩) hs
  · cases ry
    obtain ⟨hd, hk, ys, hm, p, e, r⟩ := h pins σ s I
    exact tail_any hm.typeIs PySem.F.slot_dict_getitem.lookup (wpAny_getItem_heap (knd := nestedKind X.prog X.w) (room8 hu) hk hm e ⟨w, H, I.tok _, r, q⟩) hs
end

/-! ### the dict of a thing -/
def dictOf (h : DH) : D → Option (Bool × List (D × D))
  | .dv tk ks vs => some (tk, ks.zip vs)
  | .ref n => match h[n]? with
    | some (.dct tk kvs) => some (tk, kvs)
    | _ => none
  | _ => none
def KD (X : Cx) (T : Tb) (ρ : Rg) (H : Hp) (a : Addr) (kvs : List (D × D)) : Prop := ∃ ks, H a = some (.dK ks) ∧ kvs.map (fun p => toKey p.1) = ks.map (fun p => some p.1) ∧ RVs (gx X T) ρ H (kvs.map (·.2)) (ks.map (·.2))
section
variable {X : Cx} {T : Tb} {pins : List (Addr × Obj)} {σ : L2.St} {H : Hp} {s : Shared} {ρ : Rg} {hd : DH}
theorem dictOf_rv (r : Rep (gx X T) ρ hd H) {d : D} {v : V} {kvs : List (D × D)} {tk : Bool} (q : RV (gx X T) ρ H d v) (e : dictOf hd d = some (tk, kvs)) : ∃ a, v = .ref a ∧ (tk = false → KD X T ρ H a kvs) ∧ (tk = true → ∃ xs, TD X T ρ H a kvs xs) := by
  cases d <;> first | cases e | skip
  · rename_i ks vs
    cases q with
    | dvk n h k u rs =>
      rename_i a kx us
      refine ⟨_, rfl, fun _ => ⟨kx, h, ?_, ?_⟩, fun z => by cases z⟩
      · have hl : ks.length = vs.length := by rw [rs.len, u, List.length_map, ← List.length_map (f := toKey), k, List.length_map]
        rw [← k]
        rw [show (fun p : D × D => toKey p.1) = toKey ∘ (·.1) from rfl, ← List.map_map, List.map_fst_zip (by omega)]
      · have hl : ks.length = vs.length := by rw [rs.len, u, List.length_map, ← List.length_map (f := toKey), k, List.length_map]
        rw [List.map_snd_zip (by omega), ← u]
        exact rs
    | dvt n h t rk k u rs =>
      rename_i a xs ts us
      have hl : ks.length = vs.length := by rw [rs.len, u, List.length_map, ← List.length_map (f := toK), k, List.length_map]
      refine ⟨_, rfl, (fun z => by cases z), fun _ => ⟨xs, h, ?_, ?_, ?_⟩⟩
      · rw [List.map_fst_zip (by omega), ← t]; exact rk
      · rw [show (fun p : D × D => toK p.1) = toK ∘ (·.1) from rfl, ← List.map_map, List.map_fst_zip (by omega)]; exact k
      · rw [List.map_snd_zip (by omega), ← u]; exact rs
  · rename_i n
    cases q with
    | ref hn =>
      unfold dictOf at e
      cases c : hd[n]? with
      | none => simp only [c] at e; cases e
      | some ob => cases ob with
        | lst _ => simp only [c] at e; cases e
        | ins _ _ => simp only [c] at e; cases e
        | dct tk' kvs' =>
          simp only [c] at e
          cases e
          have o := r.ob n _ _ hn c
          cases tk with
          | false =>
            obtain ⟨ks, us, h, k, u, rs⟩ := o
            exact ⟨_, rfl, fun _ => ⟨ks, h, k, by rw [← u]; exact rs⟩, fun z => by cases z⟩
          | true =>
            obtain ⟨xs, ts, us, h, t, rk, k, u, rs⟩ := o
            exact ⟨_, rfl, (fun z => by cases z), fun _ => ⟨xs, h, by rw [← t]; exact rk, k, by rw [← u]; exact rs⟩⟩
theorem toKey_kV {d : D} {v : V} {k : Key} (q : RV (gx X T) ρ H d v) (e : toKey d = some k) : v = kV k := by
  cases d <;> first | cases e | skip
  · cases q; rfl
  · cases q; rfl
theorem toKey_mk {d : D} {v : V} {k : Key} (q : RV (gx X T) ρ H d v) (e : toKey d = some k) : toKey d = some k ∧ v = kV k := ⟨e, toKey_kV q e⟩
theorem kd_look {k : Key} : ∀ {kvs : List (D × D)} {ks : List (Key × V)}, kvs.map (fun p => toKey p.1) = ks.map (fun x => some x.1) → RVs (gx X T) ρ H (kvs.map (·.2)) (ks.map (·.2)) →
    match dlook toKey k kvs with
    | some d => ∃ v, valV ks k = some v ∧ RV (gx X T) ρ H d v
    | none => valV ks k = none
  | [], ks, kk, rv => by
    cases ks with
    | nil => rfl
    | cons _ _ => simp at kk
  | kv :: kvs, ks, kk, rv => by
    cases ks with
    | nil => simp at kk
    | cons x ks =>
      simp only [List.map_cons, List.cons.injEq] at kk
      obtain ⟨v, us, e, q1, q2⟩ := RVs.inv rv
      simp only [List.map_cons, List.cons.injEq] at e
      obtain ⟨rfl, rfl⟩ := e
      unfold dlook
      by_cases c : x.1 = k
      · rw [if_pos (by rw [kk.1, c])]
        exact ⟨x.2, by simp [valV, List.find?_cons, c], q1⟩
      · rw [if_neg (by rw [kk.1]; simpa using c)]
        have ih := kd_look (k := k) kk.2 q2
        have ea : valV (x :: ks) k = valV ks k := by simp [valV, List.find?_cons, c]
        rw [ea]
        exact ih
def RVo (G : Gx) (ρ : Rg) (H : Hp) : Option D → Option V → Prop
  | none, o => o = none
  | some z, o => ∃ w, o = some w ∧ RV G ρ H z w
/-- what a dict has at a key -/
def dGet (h : DH) (d y : D) : Option (Option D) := match dictOf h d with
  | some (false, kvs) => (toKey y).map fun k => dlook toKey k kvs
  | some (true, kvs) => match y with
    | .tup _ => (toK y).bind fun k => if k.depth ≤ 8 then some (dlook toK k kvs) else none
    | _ => none
  | none => none
theorem dGet_rv (r : Rep (gx X T) ρ hd H) {d y : D} {v u : V} {o : Option D} (q : RV (gx X T) ρ H d v) (q' : RV (gx X T) ρ H y u) (e : dGet hd d y = some o) : ∃ a o', v = .ref a ∧ DAny X H a u o' ∧ RVo (gx X T) ρ H o o' := by
  unfold dGet at e
  cases c : dictOf hd d with
  | none => rw [c] at e; cases e
  | some p =>
    obtain ⟨tk, kvs⟩ := p
    obtain ⟨a, rfl, h1, h2⟩ := dictOf_rv r q c
    rw [c] at e
    cases tk with
    | false =>
      simp only [] at e
      obtain ⟨k, e1, e2⟩ := Option.map_eq_some_iff.mp e
      obtain ⟨ks, ha, kk, rs⟩ := h1 rfl
      obtain rfl := toKey_kV q' e1
      have l := kd_look (k := k) kk rs
      refine ⟨a, valV ks k, rfl, .inl (.k ha), ?_⟩
      rw [← e2]
      cases c2 : dlook toKey k kvs with
      | none => rw [c2] at l; exact l
      | some z => rw [c2] at l; obtain ⟨w, e2, rw'⟩ := l; exact ⟨w, e2, rw'⟩
    | true =>
      cases y <;> first | cases e | skip
      rename_i l
      simp only [] at e
      obtain ⟨k, e1, e2⟩ := Option.bind_eq_some_iff.mp e
      by_cases dz : k.depth ≤ 8
      · rw [if_pos dz] at e2
        cases e2
        obtain ⟨xs, td⟩ := h2 rfl
        cases q' with
        | tup hs rs =>
          rename_i b us
          have key : ∀ {pins σ s}, Inv X pins σ H s → (nestedKind X.prog X.w).is s.heap k b := fun I => ⟨rv_key I _ _ _ k (.tup hs rs) e1 rfl, dz⟩
          cases c2 : dlook toK k kvs with
          | none =>
            refine ⟨a, none, rfl, .inr ⟨b, k, rfl, fun pins σ s I => ?_⟩, rfl⟩
            obtain ⟨t1, t2, t3, t4, ys, p, dd⟩ := td.of I
            have l := td_look (k := k) td.kk td.vals p
            rw [c2] at l
            exact ⟨t1, key I, ys, dd, l⟩
          | some z =>
            have lv : ∃ w, RV (gx X T) ρ H z w ∧ ∀ {ys}, PT3 xs ys → ∃ q, atKey ys k = some q ∧ RelV w q.2 := by
              have : ∀ {kvs : List (D × D)} {xs : List (NestedKey × Addr × V)}, kvs.map (fun p => toK p.1) = xs.map (fun x => some x.1) → RVs (gx X T) ρ H (kvs.map (·.2)) (xs.map (·.2.2)) → dlook toK k kvs = some z → ∃ w, RV (gx X T) ρ H z w ∧ ∀ {ys}, PT3 xs ys → ∃ q, atKey ys k = some q ∧ RelV w q.2 := by
                intro kvs
                induction kvs with
                | nil => intro xs kk rv e; cases e
                | cons kv kvs ih =>
                  intro xs kk rv e
                  cases xs with
                  | nil => simp at kk
                  | cons x xs =>
                    simp only [List.map_cons, List.cons.injEq] at kk
                    obtain ⟨v, us, e', q1, q2⟩ := RVs.inv rv
                    simp only [List.map_cons, List.cons.injEq] at e'
                    obtain ⟨rfl, rfl⟩ := e'
                    unfold dlook at e
                    by_cases c : x.1 = k
                    · rw [if_pos (by rw [kk.1, c])] at e
                      cases e
                      refine ⟨_, q1, fun {ys} p => ?_⟩
                      cases p with
                      | cons p1 p2 => exact ⟨_, by simp [atKey, List.find?_cons, ← p1.1, c], p1.2.2⟩
                    · rw [if_neg (by rw [kk.1]; simpa using c)] at e
                      obtain ⟨w, r1, r2⟩ := ih kk.2 q2 e
                      refine ⟨w, r1, fun {ys} p => ?_⟩
                      cases p with
                      | cons p1 p2 =>
                        rename_i y ys
                        rw [show atKey (y :: ys) k = atKey ys k by simp [atKey, List.find?_cons, ← p1.1, c]]
                        exact r2 p2
              exact this td.kk td.vals c2
            obtain ⟨w, rw', hw⟩ := lv
            refine ⟨a, some w, rfl, .inr ⟨b, k, rfl, fun pins σ s I => ?_⟩, w, rfl, rw'⟩
            obtain ⟨t1, t2, t3, t4, ys, p, dd⟩ := td.of I
            exact ⟨t1, key I, ys, dd, hw p⟩
      · rw [if_neg dz] at e2; cases e2
end
end Wy

set_option Elab.async false
set_option linter.all false
set_option maxRecDepth 100000
set_option maxHeartbeats 4000000
namespace Wy
open PySem PySem.Spec PyProof.Rows L2

/-! ### writing a dict -/
def putT (xs : List (NestedKey × Addr × V)) (k : NestedKey) (b : Addr) (v : V) : List (NestedKey × Addr × V) := if xs.any (fun x => decide (x.1 = k)) = true then xs.map (fun x => if x.1 = k then (x.1, x.2.1, v) else x) else xs ++ [(k, b, v)]
theorem pt_any {k : NestedKey} {xs : List (NestedKey × Addr × V)} {ys : List (NestedKey × Addr × Value)} (p : PT3 xs ys) : xs.any (fun x => decide (x.1 = k)) = (atKey ys k).isSome := by
  induction p with
  | nil => rfl
  | cons h _ ih =>
    rename_i x y xs ys _
    by_cases c : x.1 = k
    · simp [atKey, List.find?_cons, ← h.1, c]
    · rw [show atKey (y :: ys) k = atKey ys k by simp [atKey, List.find?_cons, ← h.1, c], ← ih]
      simp [c]
theorem pt_put {k : NestedKey} {b : Addr} {v : V} {u : Value} {xs : List (NestedKey × Addr × V)} {ys : List (NestedKey × Addr × Value)} (p : PT3 xs ys) (rv : RelV v u) : PT3 (putT xs k b v) (storedH ys k b u) := by
  unfold putT storedH
  rw [pt_any p]
  by_cases c : (atKey ys k).isSome = true
  · rw [if_pos c, if_pos c]
    clear c
    induction p with
    | nil => exact .nil
    | cons h _ ih =>
      refine .cons ?_ ih
      rename_i x y xs ys _
      unfold putAt
      dsimp only
      by_cases c : x.1 = k
      · rw [if_pos c, if_pos (by rw [← h.1]; exact c)]; exact ⟨h.1, h.2.1, rv⟩
      · rw [if_neg c, if_neg (by rw [← h.1]; exact c)]; exact h
  · rw [if_neg c, if_neg c]
    clear c
    induction p with
    | nil => exact .cons ⟨rfl, rfl, rv⟩ .nil
    | cons h _ ih => exact .cons h ih
theorem pt_keys {xs : List (NestedKey × Addr × V)} {ys : List (NestedKey × Addr × Value)} (p : PT3 xs ys) : xs.map (·.1) = ys.map (·.1) := by
  induction p with
  | nil => rfl
  | cons h _ ih => simp [h.1, ih]
theorem pt_len {xs : List (NestedKey × Addr × V)} {ys : List (NestedKey × Addr × Value)} (p : PT3 xs ys) : xs.length = ys.length := by
  have := congrArg List.length (pt_keys p)
  simpa using this
theorem putT_len {xs : List (NestedKey × Addr × V)} {k : NestedKey} {b : Addr} {v : V} : (putT xs k b v).length ≤ xs.length + 1 := by
  unfold putT
  split <;> simp
theorem putT_all {p : NestedKey → Prop} {xs : List (NestedKey × Addr × V)} {k : NestedKey} {b : Addr} {v : V} (h : ∀ x ∈ xs, p x.1) (hk : p k) : ∀ x ∈ putT xs k b v, p x.1 := by
  unfold putT
  split
  · intro x hx
    obtain ⟨y, hy, rfl⟩ := List.mem_map.mp hx
    split
    · exact h y hy
    · exact h y hy
  · intro x hx
    rcases List.mem_append.mp hx with hx | hx
    · exact h x hx
    · simp at hx; subst hx; exact hk
def rSetT (X : Cx) : TSet := fun o i v H Q => ∃ a b k xs, o = .ref a ∧ i = .ref b ∧ H a = some (TDO X.prog X.w a xs) ∧ xs.length < sizeLine ∧ k.depth ≤ 8 ∧
  (∀ pins σ s, Inv X pins σ H s → NestedIs s.heap k (.ref b) ∧ ∀ ys, PT3 xs ys → ∀ y ∈ ys, (nestedKind X.prog X.w).is s.heap y.1 y.2.1) ∧ Q (upd H a (TDO X.prog X.w a (putT xs k b v)))
theorem ext_ok {P : Program} {w : World} {H : Hp} {h : Heap} {a : Addr} {xs : List (NestedKey × Addr × V)} {ys : List (NestedKey × Addr × Value)} (hd : (a == sysModules) = false) (hz : xs.length ≤ sizeLine) (hk : ∀ x ∈ xs, x.1.depth ≤ 8) (p : PT3 xs ys) (dd : h.DictOfH (nestedKind P w) a ys) :
    ObjOk P w H h a (TDO P w a xs) := by
  obtain ⟨o, es, ep, ho, hc, hdt, he, his, hnd⟩ := dd
  refine ⟨⟨hd, hz, by rw [pt_keys p]; exact hnd, hk, o, es, ep, ys, ho, hc, hdt, he, p⟩, ⟨o, ho⟩, fun h1 h2 q k => ?_⟩
  obtain ⟨q1, q2, q3, q4, o', es', ep', ys', q5, q6⟩ := q
  exact ⟨q1, q2, q3, q4, o', es', ep', ys', k o' q5, q6⟩
section
variable {X : Cx} {T : Tb}
theorem set_tdict (hu : X.A.units + 10 < cLine) : PSet X (rSetT X) := by
  intro pins s σ H o i v ov iv u Q I ro ri rv h
  obtain ⟨a, b, k, xs, rfl, rfl, ha, hz, dk, key, q⟩ := h
  cases ro; cases ri
  obtain ⟨k1, k2⟩ := key pins σ s I
  obtain ⟨⟨h1, h2, h3, h4, ob, es, ep, ys, ho, hc, hdt, he, hp⟩, _⟩ := I.hok a _ ha
  have dd : s.heap.DictOfH (nestedKind X.prog X.w) a ys := ⟨ob, es, ep, ho, hc, hdt, he, k2 ys hp, by rw [← pt_keys hp]; exact h3⟩
  refine wpAny_setItem_heap (knd := nestedKind X.prog X.w) (hsz := by rw [← pt_len hp]; exact h2) (room8 hu) ⟨k1, dk⟩ dd fun h' dd' hs => ⟨_, ?_, q⟩
  have he : ∃ q, h'.get? a = some q := let ⟨q, _, _, hq, _⟩ := dd'; ⟨q, hq⟩
  refine d_write I (by rw [ha]; exact True.intro) hs he (ext_ok h1 ?_ (putT_all (p := fun z => z.depth ≤ 8) h4 dk) (pt_put hp rv) dd')
  have := putT_len (xs := xs) (k := k) (b := b) (v := v)
  omega
def rSetKD : TSet := fun o i v H Q => ∃ a H', o = .ref a ∧ DPut H a i v H' ∧ Q H'
theorem set_kdict (hu : X.A.units + 10 < cLine) : PSet X rSetKD := by
  intro pins s σ H o i v ov iv u Q I ro ri rv h
  obtain ⟨a, H', rfl, h, q⟩ := h
  cases ro
  exact d_setItem (by omega) I h ri rv fun s' I' => ⟨H', I', q⟩
theorem PSet.or {t t' : TSet} (h : PSet X t) (h' : PSet X t') : PSet X (fun o i v H Q => t o i v H Q ∨ t' o i v H Q) := by
  intro pins s σ H o i v ov iv u Q I ro ri rv q
  rcases q with q | q
  · exact h pins s σ H o i v ov iv u Q I ro ri rv q
  · exact h' pins s σ H o i v ov iv u Q I ro ri rv q
abbrev rSetAny (X : Cx) : TSet := fun o i v H Q => rSetL o i v H Q ∨ (rSetKD o i v H Q ∨ rSetT X o i v H Q)
theorem set_any (hu : X.A.units + 10 < cLine) : PSet X (rSetAny X) := PSet.or set_list (PSet.or (set_kdict hu) (set_tdict hu))
/-- o[i] = v -/
def setM (o i v : D) : M Unit := fun h => match o with
  | .ref n => match h[n]? with
    | some (.lst l) => match i with
      | .int k => match ixN l.length k with
        | some j => .ok () (h.set n (.lst (l.set j v)))
        | none => .bad
      | _ => .bad
    | some (.dct false kvs) => match toKey i with
      | some k => if kvs.length < sizeLine then .ok () (h.set n (.dct false (dput toKey k i v kvs))) else .bad
      | none => .bad
    | some (.dct true kvs) => match i with
      | .tup _ => match toK i with
        | some k => if kvs.length < sizeLine ∧ k.depth ≤ 8 then .ok () (h.set n (.dct true (dput toK k i v kvs))) else .bad
        | none => .bad
      | _ => .bad
    | _ => .bad
  | _ => .bad
theorem dlook_any {κ : Type} [DecidableEq κ] {f : D → Option κ} {k : κ} {ks : List κ} : ∀ {kvs : List (D × D)}, kvs.map (fun p => f p.1) = ks.map some → (dlook f k kvs).isSome = ks.any (fun x => decide (x = k)) := by
  induction ks with
  | nil => intro kvs e; cases kvs <;> simp_all [dlook]
  | cons x ks ih =>
    intro kvs e
    cases kvs with
    | nil => simp at e
    | cons p kvs =>
      simp only [List.map_cons, List.cons.injEq] at e
      unfold dlook
      by_cases c : x = k
      · rw [if_pos (by rw [e.1, c])]; simp [c]
      · rw [if_neg (by rw [e.1]; simpa using c), ih e.2]; simp [c]
variable {ρ : Rg} {hd : DH} {H : Hp}
theorem vals_put {G : Gx} {κ α : Type} [DecidableEq κ] {f : D → Option κ} {k : κ} {y e : D} {v : V} {g : α → κ} {gv : α → V} {st : α → α} {nw : α} (hg : ∀ x, g (st x) = g x) (hs : ∀ x, g x = k → gv (st x) = v) (hs' : ∀ x, g x ≠ k → gv (st x) = gv x) (hn : g nw = k) (hv : gv nw = v) (fy : f y = some k) {xs : List α}
    {kvs : List (D × D)} (kk : kvs.map (fun p => f p.1) = xs.map (fun x => some (g x))) (rs : RVs G ρ H (kvs.map (·.2)) (xs.map gv)) (re : RV G ρ H e v) :
    (dput f k y e kvs).map (fun p => f p.1) = (if xs.any (fun x => decide (g x = k)) = true then xs.map st else xs ++ [nw]).map (fun x => some (g x)) ∧
    RVs G ρ H ((dput f k y e kvs).map (·.2)) ((if xs.any (fun x => decide (g x = k)) = true then xs.map st else xs ++ [nw]).map gv) := by
  have ea : (dlook f k kvs).isSome = xs.any (fun x => decide (g x = k)) := by
    rw [dlook_any (ks := xs.map g) (by rw [kk, List.map_map]; rfl), List.any_map]; rfl
  unfold dput
  rw [ea]
  by_cases c : xs.any (fun x => decide (g x = k)) = true
  · rw [if_pos c, if_pos c]
    clear ea c
    induction xs generalizing kvs with
    | nil => cases kvs with
      | nil => exact ⟨rfl, .nil⟩
      | cons _ _ => simp at kk
    | cons x xs ih => cases kvs with
      | nil => simp at kk
      | cons p kvs =>
        simp only [List.map_cons, List.cons.injEq] at kk
        obtain ⟨u, us, e', q1, q2⟩ := RVs.inv rs
        simp only [List.map_cons, List.cons.injEq] at e'
        obtain ⟨rfl, rfl⟩ := e'
        obtain ⟨h1, h2⟩ := ih kk.2 q2
        by_cases c : g x = k
        · rw [List.map_cons, List.map_cons, List.map_cons, if_pos (by rw [kk.1, c]), List.map_cons]
          exact ⟨by rw [h1]; simp [kk.1, hg], .cons (by rw [hs x c]; exact re) h2⟩
        · rw [List.map_cons, List.map_cons, List.map_cons, if_neg (by rw [kk.1]; simpa using c), List.map_cons]
          exact ⟨by rw [h1]; simp [kk.1, hg], .cons (by rw [hs' x c]; exact q1) h2⟩
  · rw [if_neg c, if_neg c]
    refine ⟨by rw [List.map_append, List.map_append, kk]; simp [fy, hn], ?_⟩
    rw [List.map_append, List.map_append]
    exact rs.app (.cons (by rw [hv]; exact re) .nil)
theorem keys_put {G : Gx} {y e : D} {v : V} {b : Addr} {k : NestedKey} (fy : toK y = some k) {xs : List (NestedKey × Addr × V)} {kvs : List (D × D)} (kk : kvs.map (fun p => toK p.1) = xs.map (fun x => some x.1)) (rs : RVs G ρ H (kvs.map (·.1)) (xs.map fun x => V.ref x.2.1)) (re : RV G ρ H y (.ref b)) :
    RVs G ρ H ((dput toK k y e kvs).map (·.1)) ((putT xs k b v).map fun x => V.ref x.2.1) := by
  have ea : (dlook toK k kvs).isSome = xs.any (fun x => decide (x.1 = k)) := by
    rw [dlook_any (ks := xs.map (·.1)) (by rw [kk, List.map_map]; rfl), List.any_map]; rfl
  unfold dput putT
  rw [ea]
  by_cases c : xs.any (fun x => decide (x.1 = k)) = true
  · rw [if_pos c, if_pos c, List.map_map, List.map_map]
    rw [show ((fun p : D × D => p.1) ∘ fun p => if toK p.1 = some k then (p.1, e) else p) = (fun p => p.1) by funext p; simp only [Function.comp]; split <;> rfl]
    rw [show ((fun x : NestedKey × Addr × V => V.ref x.2.1) ∘ fun x => if x.1 = k then (x.1, x.2.1, v) else x) = (fun x => V.ref x.2.1) by funext p; simp only [Function.comp]; split <;> rfl]
    exact rs
  · rw [if_neg c, if_neg c, List.map_append, List.map_append]
    exact rs.app (.cons re .nil)
theorem s_any : Stm X T (rSetAny X) setM := by
  intro ρ hd H d e u x y z Q r q qi qv h
  unfold setM at h
  cases d <;> first | exact h.elim | skip
  rename_i n
  cases q with
  | ref hn =>
    rename_i a
    have hmem := List.mem_of_getElem? hn
    cases c : hd[n]? with
    | none => simp only [c] at h
    | some ob => cases ob with
      | ins _ _ => simp only [c] at h
      | lst l =>
        simp only [c] at h
        cases e <;> first | exact h.elim | skip
        rename_i k
        cases qi
        obtain ⟨xs, ha, rs⟩ := r.ob n _ _ hn c
        cases cj : ixN l.length k with
        | none => simp only [cj] at h
        | some j =>
          simp only [cj] at h
          have s : Stp ρ H ρ (upd H a (.lst (xs.set j z))) := .wr hmem
          exact .inl ⟨a, xs, k, j, rfl, rfl, ha, by rw [← rs.len]; exact cj, h _ (r.wr hn ⟨_, upd_same, RVs.mono s r.muts _ _ (rs.set qv j)⟩) s⟩
      | dct tk kvs => cases tk with
        | false =>
          simp only [c] at h
          obtain ⟨ks, us, ha, kk, eu, rs⟩ := r.ob n _ _ hn c
          subst eu
          cases ck : toKey e with
          | none => simp only [ck] at h
          | some k =>
            simp only [ck] at h
            by_cases cz : kvs.length < sizeLine
            · rw [if_pos cz] at h
              obtain rfl := toKey_kV qi ck
              have hl : ks.length = kvs.length := by have := congrArg List.length kk; simpa using this.symm
              have s : Stp ρ H ρ (upd H a (.dK (putK ks k z))) := .wr hmem
              obtain ⟨v1, v2⟩ := vals_put (f := toKey) (k := k) (y := e) (e := u) (v := z) (g := fun x : Key × V => x.1) (gv := fun x : Key × V => x.2) (st := fun kv => if kv.1 = k then (kv.1, z) else kv) (nw := (k, z))
                (by intro x; split <;> rfl) (by intro x hx; simp [hx]) (by intro x hx; simp [hx]) rfl rfl ck kk rs qv
              refine .inr (.inl ⟨a, _, rfl, .k ha (by rw [hl]; exact cz), h _ (r.wr hn ⟨putK ks k z, _, upd_same, v1, rfl, RVs.mono s r.muts _ _ v2⟩) s⟩)
            · rw [if_neg cz] at h; exact h.elim
        | true =>
          simp only [c] at h
          cases e <;> first | exact h.elim | skip
          rename_i l
          obtain ⟨xs, ts, us, ha, et, rk, kk, eu, rs⟩ := r.ob n _ _ hn c
          subst eu; subst et
          cases ck : toK (.tup l) with
          | none => simp only [ck] at h
          | some k =>
            simp only [ck] at h
            by_cases cz : kvs.length < sizeLine ∧ k.depth ≤ 8
            · rw [if_pos cz] at h
              have hl : xs.length = kvs.length := by have := congrArg List.length kk; simpa using this.symm
              cases qi with
              | tup hs rts =>
                rename_i b ws
                have qi : RV (gx X T) ρ H (.tup l) (.ref b) := .tup hs rts
                have s : Stp ρ H ρ (upd H a (TDO X.prog X.w a (putT xs k b z))) := .wr hmem
                obtain ⟨v1, v2⟩ := vals_put (f := toK) (k := k) (y := .tup l) (e := u) (v := z) (g := fun x : NestedKey × Addr × V => x.1) (gv := fun x : NestedKey × Addr × V => x.2.2) (st := fun x => if x.1 = k then (x.1, x.2.1, z) else x) (nw := (k, b, z))
                  (by intro x; split <;> rfl) (by intro x hx; simp [hx]) (by intro x hx; simp [hx]) rfl rfl ck kk rs qv
                have v3 := keys_put (v := z) (e := u) ck kk rk qi
                refine .inr (.inr ⟨a, b, k, xs, rfl, rfl, ha, by rw [hl]; exact cz.1, cz.2, fun pins σ s I => ⟨rv_key I _ _ _ k qi ck rfl, fun ys p => ?_⟩, h _ (r.wr hn ⟨putT xs k b z, _, _, upd_same, rfl, RVs.mono s r.muts _ _ v3, v1, rfl, RVs.mono s r.muts _ _ v2⟩) s⟩)
                obtain ⟨_, _, _, h4, _⟩ := TD.of I ⟨ha, rk, kk, rs⟩
                exact td_is I rk kk p h4
            · rw [if_neg cz] at h; exact h.elim
end
/-! ### {} -/
section
variable {X : Cx} {T : Tb} {W : WX} {pos : Pos}
def tDNew (tk : Bool) (X : Cx) : TE := fun _ H Q => ∀ p, H p = none → Q (.ref p) (upd H p (if tk then TDO X.prog X.w p [] else .dK []))
theorem pe_dnew {tk : Bool} : PE X (.Dict [] [] pos) (tDNew tk X) := ⟨fun pins s σ H Q I h => by
  cases tk with
  | false => exact wpAny_Dict_empty ⟨.ref s.heap.objs.size, _, I.laid (a := s.heap.objs.size) (o := .dK []) (t' := s.toks) (fun _ _ q => Heap.get?_push_of_some _ q) (Nat.le_refl _) (dk_empty s.heap I.big), rfl, h _ (I.hok.fresh (Nat.le_refl _))⟩
  | true =>
    refine wpAny_Dict_empty ⟨.ref s.heap.objs.size, _, I.laid (a := s.heap.objs.size) (o := TDO X.prog X.w s.heap.objs.size []) (t' := s.toks) (fun _ _ q => Heap.get?_push_of_some _ q) (Nat.le_refl _) ?_, rfl, h _ (I.hok.fresh (Nat.le_refl _))⟩
    exact ext_ok (beq_eq_false_iff_ne.mpr (Ne.symm (Nat.ne_of_lt I.big))) (Nat.zero_le _) (by simp) .nil (Heap.DictOfH.new s.heap)⟩
def mDct (tk : Bool) : SD → M D := fun _ h => .ok (.ref h.length) (h ++ [.dct tk []])
theorem em_dct : ∀ {tk : Bool}, PEm X T W (.Dict [] [] pos) (mDct tk)
  | false => weakE (pe_dnew (tk := false)) fun σ H Q ⟨ρ, hd, sd, r, st, h⟩ p hp =>
    h (ρ.add p) (upd H p (.dK [])) (.ref p) (r.mk1 hp ⟨[], [], upd_same, rfl, rfl, .nil⟩) (.mk1 hp) (.ref (by rw [← r.len]; simp [Rg.add]))
  | true => weakE (pe_dnew (tk := true)) fun σ H Q ⟨ρ, hd, sd, r, st, h⟩ p hp =>
    h (ρ.add p) (upd H p (TDO X.prog X.w p [])) (.ref p) (r.mk1 hp ⟨[], [], [], upd_same, rfl, .nil, rfl, rfl, .nil⟩) (.mk1 hp) (.ref (by rw [← r.len]; simp [Rg.add]))
end
end Wy

set_option Elab.async false
set_option linter.all false
set_option maxRecDepth 100000
set_option maxHeartbeats 4000000
namespace Wy
open PySem PySem.Spec PyProof.Rows L2

/-! ### in, not in -/
section
variable {X : Cx} {T : Tb} {W : WX} {a b : Expr} {pos : Pos}
def rInT (K : PySem.W.Frag) (neg : Bool) : R2 := fun x y H Q => ∃ d ds, Dp K H x d ∧ Dp K H y (.tuple ds) ∧ SeqAt.shaped d = true ∧ SeqAt.shaped (.tuple ds) = true ∧ Q (.bl (neg ^^ ds.any fun z => PyData.eqv z d)) H
theorem op_inT (hu : X.A.units + 65 < cLine) : OpR X (compareOp .In) (rInT X.K false) := by
  intro pins s σ H x y v u Q I rx ry h
  obtain ⟨d, ds, hd, he, sd, se, q⟩ := h
  obtain ⟨as, r1⟩ := Dp.reads I d x v hd rx
  obtain ⟨bs, r2⟩ := Dp.reads I (.tuple ds) y u he ry
  exact SeqAt.in_tuple_reads r2 r1 (SeqAt.canLay_of_shaped se) (SeqAt.canLay_of_shaped sd) (room_in_shaped sd hu) ⟨.bl (ds.any fun z => PyData.eqv z d), H, I, rfl, by simpa using q⟩
theorem op_notInT (hu : X.A.units + 65 < cLine) : OpR X (compareOp .NotIn) (rInT X.K true) := by
  intro pins s σ H x y v u Q I rx ry h
  obtain ⟨d, ds, hd, he, sd, se, q⟩ := h
  obtain ⟨as, r1⟩ := Dp.reads I d x v hd rx
  obtain ⟨bs, r2⟩ := Dp.reads I (.tuple ds) y u he ry
  exact SeqAt.notIn_tuple_reads r2 r1 (SeqAt.canLay_of_shaped se) (SeqAt.canLay_of_shaped sd) (room_in_shaped sd hu) ⟨.bl (!ds.any fun z => PyData.eqv z d), H, I, rfl, by simpa using q⟩
def inStr (i j : Str) : Bool := !(Builtin.Str.occurrences j i 0 j.length 1).isEmpty
/-- is x in y -/
def inQ (h : DH) (x y : D) : Option Bool := match y with
  | .str j => match x with
    | .str i => some (inStr i j)
    | _ => none
  | y => match dictOf h y with
    | some _ => (dGet h y x).map (·.isSome)
    | none => match toP h y, toP h x with
      | some (.list ps), some p => if (PyData.list ps).depth ≤ 64 ∧ p.depth ≤ 64 then some (ps.any fun z => PyData.eqv z p) else none
      | some (.tuple ps), some p => if (PyData.tuple ps).depth ≤ 64 ∧ p.depth ≤ 64 then some (ps.any fun z => PyData.eqv z p) else none
      | _, _ => none
def inM (neg : Bool) (x y : D) : M D := fun h => match inQ h x y with
  | some b => .ok (.bl (neg ^^ b)) h
  | none => .bad
abbrev rInAll (X : Cx) : R2 := fun x y H Q => (rInD X.K x y H Q ∨ rInT X.K false x y H Q) ∨ ((∃ i j, x = .str i ∧ y = .str j ∧ Q (.bl (!(Builtin.Str.occurrences j i 0 j.length 1).isEmpty)) H) ∨ rInDc X x y H Q)
abbrev rNotInAll (X : Cx) : R2 := fun x y H Q => (rNotInD X.K x y H Q ∨ rInT X.K true x y H Q) ∨ ((∃ i j, x = .str i ∧ y = .str j ∧ Q (.bl (!(!(Builtin.Str.occurrences j i 0 j.length 1).isEmpty))) H) ∨ rNotInDc X x y H Q)
theorem op_inAll (hu : X.A.units + 65 < cLine) : OpR X (compareOp .In) (rInAll X) := ((op_inD hu).or (op_inT hu)).or (op_in_str.or (op_inDc (by omega)))
theorem op_notInAll (hu : X.A.units + 65 < cLine) : OpR X (compareOp .NotIn) (rNotInAll X) := ((op_notInD hu).or (op_notInT hu)).or (op_notin_str.or (op_notInDc (by omega)))
theorem inQ_res {ρ : Rg} {hd : DH} {H : Hp} {d e : D} {x y : V} {b : Bool} (r : Rep (gx X T) ρ hd H) (q : RV (gx X T) ρ H d x) (q' : RV (gx X T) ρ H e y) (h : inQ hd d e = some b) :
    (∃ p ps, Dp X.K H x p ∧ (Dp X.K H y (.list ps) ∧ SeqAt.shaped (.list ps) = true ∨ Dp X.K H y (.tuple ps) ∧ SeqAt.shaped (.tuple ps) = true) ∧ SeqAt.shaped p = true ∧ b = ps.any fun z => PyData.eqv z p) ∨
    (∃ i j, x = .str i ∧ y = .str j ∧ b = inStr i j) ∨ ∃ a o, y = .ref a ∧ DAny X H a x o ∧ b = o.isSome := by
  have data : (match dictOf hd e with
    | some _ => (dGet hd e d).map (·.isSome)
    | none => match toP hd e, toP hd d with
      | some (.list ps), some p => if (PyData.list ps).depth ≤ 64 ∧ p.depth ≤ 64 then some (ps.any fun z => PyData.eqv z p) else none
      | some (.tuple ps), some p => if (PyData.tuple ps).depth ≤ 64 ∧ p.depth ≤ 64 then some (ps.any fun z => PyData.eqv z p) else none
      | _, _ => none) = some b → (∃ p ps, Dp X.K H x p ∧ (Dp X.K H y (.list ps) ∧ SeqAt.shaped (.list ps) = true ∨ Dp X.K H y (.tuple ps) ∧ SeqAt.shaped (.tuple ps) = true) ∧ SeqAt.shaped p = true ∧ b = ps.any fun z => PyData.eqv z p) ∨ (∃ i j, x = .str i ∧ y = .str j ∧ b = inStr i j) ∨ ∃ a o, y = .ref a ∧ DAny X H a x o ∧ b = o.isSome := fun h => by
    cases c : dictOf hd e with
    | some kv =>
      rw [c] at h
      obtain ⟨o, e1, e2⟩ := Option.map_eq_some_iff.mp h
      obtain ⟨a, o', rfl, g, ro⟩ := dGet_rv r q' q e1
      refine .inr (.inr ⟨a, o', rfl, g, ?_⟩)
      rw [← e2]
      cases o with
      | none => rw [show o' = none from ro]; rfl
      | some z => obtain ⟨w, e3, _⟩ := ro; rw [e3]; rfl
    | none =>
      rw [c] at h
      cases e1 : toP hd e with
      | none => simp only [e1] at h; cases h
      | some P => cases e2 : toP hd d with
        | none => simp only [e1, e2] at h; cases P <;> cases h
        | some p =>
          simp only [e1, e2] at h
          obtain ⟨h1, h2⟩ := toP_rv r q' e1
          obtain ⟨h3, h4⟩ := toP_rv r q e2
          cases P <;> first | cases h | skip
          · rename_i ps
            by_cases cz : (PyData.list ps).depth ≤ 64 ∧ p.depth ≤ 64
            · simp only [cz, and_self, if_true] at h
              cases h
              exact .inl ⟨p, ps, h3, .inl ⟨h1, shaped_of h2 cz.1⟩, shaped_of h4 cz.2, rfl⟩
            · simp only [cz, if_false] at h; cases h
          · rename_i ps
            by_cases cz : (PyData.tuple ps).depth ≤ 64 ∧ p.depth ≤ 64
            · simp only [cz, and_self, if_true] at h
              cases h
              exact .inl ⟨p, ps, h3, .inr ⟨h1, shaped_of h2 cz.1⟩, shaped_of h4 cz.2, rfl⟩
            · simp only [cz, if_false] at h; cases h
  cases e with
  | str j =>
    cases d <;> first | cases h | skip
    cases q; cases q'
    exact .inr (.inl ⟨_, _, rfl, rfl, rfl⟩)
  | _ => exact data h
theorem r_in : R2m X T (rInAll X) (inM false) := by
  intro W ρ hd H d e x y σ Q r q q' z
  unfold inM at z
  cases c : inQ hd d e with
  | none => rw [c] at z; exact z.elim
  | some b =>
    rw [c] at z
    have hq := ans r (.bl _) z
    rcases inQ_res r q q' c with ⟨p, ps, h1, h2 | h2, h3, rfl⟩ | ⟨i, j, rfl, rfl, rfl⟩ | ⟨a, o, rfl, g, rfl⟩
    · exact .inl (.inl ⟨p, ps, h1, h2.1, h3, h2.2, by simpa using hq⟩)
    · exact .inl (.inr ⟨p, ps, h1, h2.1, h3, h2.2, by simpa using hq⟩)
    · exact .inr (.inl ⟨i, j, rfl, rfl, by simpa [inStr] using hq⟩)
    · exact .inr (.inr ⟨a, o, rfl, g, by simpa using hq⟩)
theorem r_notIn : R2m X T (rNotInAll X) (inM true) := by
  intro W ρ hd H d e x y σ Q r q q' z
  unfold inM at z
  cases c : inQ hd d e with
  | none => rw [c] at z; exact z.elim
  | some b =>
    rw [c] at z
    have hq := ans r (.bl _) z
    rcases inQ_res r q q' c with ⟨p, ps, h1, h2 | h2, h3, rfl⟩ | ⟨i, j, rfl, rfl, rfl⟩ | ⟨a, o, rfl, g, rfl⟩
    · exact .inl (.inl ⟨p, ps, h1, h2.1, h3, h2.2, by simpa using hq⟩)
    · exact .inl (.inr ⟨p, ps, h1, h2.1, h3, h2.2, by simpa using hq⟩)
    · exact .inr (.inl ⟨i, j, rfl, rfl, by simpa [inStr] using hq⟩)
    · exact .inr (.inr ⟨a, o, rfl, g, by simpa using hq⟩)

/-! ### o[i], dicts as well -/
def ixA (d e : D) : M D := fun h => match dictOf h d with
  | some _ => match dGet h d e with
    | some (some v) => .ok v h
    | _ => .bad
  | none => ixM d e h
abbrev rIxAll (X : Cx) : R2 := fun x y H Q => rIx X.K x y H Q ∨ rIxDc X x y H Q
theorem r_ixA : R2m X T (rIxAll X) ixA := by
  intro W ρ hd H d e x y σ Q r q q' z
  unfold ixA at z
  cases c : dictOf hd d with
  | none => rw [c] at z; exact .inl (r_ix W ρ hd H d e x y σ Q r q q' z)
  | some kv =>
    rw [c] at z
    cases e1 : dGet hd d e with
    | none => simp only [e1] at z; exact z.elim
    | some o => cases o with
      | none => simp only [e1] at z; exact z.elim
      | some v =>
        simp only [e1] at z
        obtain ⟨a, o', rfl, g, w, rfl, rw'⟩ := dGet_rv r q q' e1
        exact .inr ⟨a, w, rfl, g, ans r rw' z⟩
theorem em_ixA {ma mb : SD → M D} (hu : X.A.units + 10 < cLine) (ha : PEm X T W a ma) (hb : PEm X T W b mb) (hs : PlainIx b) : PEm X T W (.Subscript a b pos) (m2 ixA ma mb) := weakE (pe_ix (ix_seq.or (ix_dc hu)) ha hb hs) (op_go r_ixA)

/-! ### <, >, <=, >= -/
inductive Or4 | lt | gt | le | ge
def Or4.op : Or4 → CmpOp
  | .lt => .Lt
  | .gt => .Gt
  | .le => .LtE
  | .ge => .GtE
def Or4.p : Or4 → PyData → PyData → Bool
  | .lt, x, y => PySem.W.dataLt x y
  | .gt, x, y => PySem.W.dataLt y x
  | .le, x, y => !PySem.W.dataLt y x
  | .ge, x, y => !PySem.W.dataLt x y
def Or4.i : Or4 → Int → Int → Bool
  | .lt, x, y => decide (x < y)
  | .gt, x, y => decide (y < x)
  | .le, x, y => decide (x ≤ y)
  | .ge, x, y => decide (y ≤ x)
theorem Or4.p_int (o : Or4) (i j : Int) : o.p (.int i) (.int j) = o.i i j := by
  cases o <;> simp only [Or4.p, Or4.i, PySem.W.dataLt_int]
  · by_cases h : j < i <;> simp [h] <;> omega
  · by_cases h : i < j <;> simp [h] <;> omega
def isNoneP : PyData → Bool
  | .none => true
  | _ => false
def rOrd (K : PySem.W.Frag) (o : Or4) : R2 := fun x y H Q => ∃ d e, Dp K H x d ∧ Dp K H y e ∧ PySem.W.alike d e = true ∧ isNoneP d = false ∧ d.depth ≤ 64 ∧ Q (.bl (o.p d e)) H
theorem op_ord (hu : X.A.units + 65 < cLine) : ∀ o : Or4, OpR X (compareOp o.op) (rOrd X.K o) := by
  intro o pins s σ H x y v u Q I rx ry h
  obtain ⟨d, e, hd, he, al, nn, dz, q⟩ := h
  obtain ⟨as, r1⟩ := Dp.reads I d x v hd rx
  obtain ⟨bs, r2⟩ := Dp.reads I e y u he ry
  have nn : d ≠ .none := fun z => by subst z; cases nn
  have hu' : X.A.units + min d.depth e.depth < cLine := by omega
  cases o
  · exact PySem.W.lt_data r1 r2 al nn hu' ⟨.bl _, H, I, rfl, q⟩
  · exact PySem.W.gt_data r1 r2 al nn hu' ⟨.bl _, H, I, rfl, q⟩
  · exact PySem.W.le_data r1 r2 al nn hu' ⟨.bl _, H, I, rfl, q⟩
  · exact PySem.W.ge_data r1 r2 al nn hu' ⟨.bl _, H, I, rfl, q⟩
def ordM (o : Or4) (x y : D) : M D := fun h => match toP h x, toP h y with
  | some p, some q => if PySem.W.alike p q = true ∧ isNoneP p = false ∧ p.depth ≤ 64 then .ok (.bl (o.p p q)) h else .bad
  | _, _ => .bad
theorem ordM_int (o : Or4) (i j : Int) (h : DH) : ordM o (.int i) (.int j) h = .ok (.bl (o.i i j)) h := by
  show (if PySem.W.alike (.int i) (.int j) = true ∧ isNoneP (.int i) = false ∧ (PyData.int i).depth ≤ 64 then Re.ok (D.bl (o.p (.int i) (.int j))) h else .bad) = _
  rw [if_pos ⟨by simp [PySem.W.alike], rfl, by simp [PyData.depth]⟩, o.p_int]
theorem r_ord (o : Or4) : R2m X T (rOrd X.K o) (ordM o) := by
  intro W ρ hd H d e x y σ Q r q q' z
  unfold ordM at z
  cases e1 : toP hd d with
  | none => rw [e1] at z; exact z.elim
  | some p => cases e2 : toP hd e with
    | none => rw [e1, e2] at z; exact z.elim
    | some p' =>
      rw [e1, e2] at z
      dsimp only at z
      obtain ⟨h1, _⟩ := toP_rv r q e1
      obtain ⟨h3, _⟩ := toP_rv r q' e2
      by_cases c : PySem.W.alike p p' = true ∧ isNoneP p = false ∧ p.depth ≤ 64
      · rw [if_pos c] at z
        exact ⟨p, p', h1, h3, c.1, c.2.1, c.2.2, ans r (.bl _) z⟩
      · rw [if_neg c] at z; exact z.elim

/-! ### is None, is True -/
def isM (neg : Bool) (x y : D) : M D := fun h => match x, y with
  | .bl a, .bl b => .ok (.bl (neg ^^ decide (a = b))) h
  | x, .non => .ok (.bl (neg ^^ decide (x = .non))) h
  | _, _ => .bad
theorem non_iff {ρ : Rg} {H : Hp} {d : D} {x : V} (q : RV (gx X T) ρ H d x) : (x = .non) ↔ d = .non := by
  cases q <;> simp
abbrev rIs : R2 := fun x y H Q => (y = .non ∧ Q (.bl (decide (x = .non))) H) ∨ ∃ a b, x = .bl a ∧ y = .bl b ∧ Q (.bl (decide (a = b))) H
abbrev rIsNot : R2 := fun x y H Q => (y = .non ∧ Q (.bl (!decide (x = .non))) H) ∨ ∃ a b, x = .bl a ∧ y = .bl b ∧ Q (.bl (!decide (a = b))) H
theorem op_isA : OpR X (compareOp .Is) rIs := op_isN.or op_is_bl
theorem op_isNotA : OpR X (compareOp .IsNot) rIsNot := op_notN.or op_isnot_bl
theorem r_isA : R2m X T rIs (isM false) := by
  intro W ρ hd H d e x y σ Q r q q' z
  unfold isM at z
  split at z
  · cases q; cases q'
    exact .inr ⟨_, _, rfl, rfl, by simpa using ans r (.bl _) z⟩
  · cases q'
    have := non_iff q
    refine .inl ⟨rfl, ?_⟩
    have h := ans r (.bl _) z
    simp only [Bool.false_xor] at h
    rw [show decide (x = V.non) = decide (d = D.non) by simp [this]]
    exact h
  · exact z.elim
theorem r_isNotA : R2m X T rIsNot (isM true) := by
  intro W ρ hd H d e x y σ Q r q q' z
  unfold isM at z
  split at z
  · cases q; cases q'
    exact .inr ⟨_, _, rfl, rfl, by simpa using ans r (.bl _) z⟩
  · cases q'
    have := non_iff q
    refine .inl ⟨rfl, ?_⟩
    have h := ans r (.bl _) z
    simp only [Bool.true_xor] at h
    rw [show decide (x = V.non) = decide (d = D.non) by simp [this]]
    exact h
  · exact z.elim
end
end Wy

set_option Elab.async false
set_option linter.all false
set_option maxRecDepth 100000
set_option maxHeartbeats 4000000
namespace Wy
open PySem PySem.Spec PyProof.Rows L2

/-! ### sorted -/
section
variable {X : Cx} {T : Tb}
def sortZ {β : Type} (xs : List β) (ps : List PyData) : List β := ((xs.zip ps).mergeSort (PySem.W.dataLe false (·.2))).map (·.1)
def rSortedD (K : PySem.W.Frag) : List V → Hp → VK → Prop := fun vs H Q => ∃ a xs ps, vs = [V.ref a] ∧ SqL K H a xs ∧ DpAll K H xs ps ∧ PySem.W.AllAlike ps ∧ PySem.W.Sortable ps ∧ (∀ p ∈ ps, p.depth ≤ 64) ∧
  ∀ p, H p = none → Q (.ref p) (upd H p (.lst (sortZ xs ps)))
theorem DpAll.len {K : PySem.W.Frag} {H : Hp} : ∀ {xs : List V} {ps : List PyData}, DpAll K H xs ps → xs.length = ps.length
  | _, _, .nil => rfl
  | _, _, .cons _ t => by simp [DpAll.len t]
theorem vals_each {R : Value → V × PyData → Prop} (h : ∀ v b, R v b → RelV b.1 v) : ∀ {out : List Value} {bs : List (V × PyData)}, PySem.W.EachIs R out bs → Vals (bs.map (·.1)) out
  | _, _, .nil => .nil
  | _, _, .cons r t => .cons (h _ _ r) (vals_each h t)
theorem each_zip {pins : List (Addr × Obj)} {σ : L2.St} {H : Hp} {s : Shared} (I : Inv X pins σ H s) : ∀ {xs : List V} {us : List Value} {ps : List PyData}, Vals xs us → DpAll X.K H xs ps →
    PySem.W.EachIs (fun v (b : V × PyData) => RelV b.1 v) us (xs.zip ps) ∧ PySem.W.EachIs (fun v (b : V × PyData) => ∃ as, Reads s.heap v b.2 as) us (xs.zip ps)
  | [], _, _, .nil, d => by cases d; exact ⟨.nil, .nil⟩
  | x :: xs, u :: us, _, .cons r t, d => by
    cases d with
    | cons d1 d2 =>
      obtain ⟨h1, h2⟩ := each_zip I t d2
      exact ⟨.cons r h1, .cons (Dp.reads I _ x u d1 r) h2⟩
theorem cr_sortedD (hu : X.A.units + 70 < cLine) : CallR X (.builtin "sorted") (rSortedD X.K) := by
  intro pins s σ H vs us Q I r h
  obtain ⟨a, xs, ps, rfl, hs, hd, al, so, dz, q⟩ := h
  obtain ⟨its, rv, hl, hz⟩ := I.list hs
  rw [Vals.ref1 r]
  obtain ⟨e1, e2⟩ := each_zip I rv hd
  have hlen := DpAll.len hd
  have em : (xs.zip ps).map (·.2) = ps := List.map_snd_zip (by omega)
  refine PySem.W.sorted_data (bs := xs.zip ps) (enc := fun b => b.2) (R := fun v b => RelV b.1 v) hl.isList e1 e2 (by rw [em]; exact al) (by rw [em]; exact so) (by rw [List.length_zip]; omega) (fun b hb => ?_) fun out ho eo => ?_
  · have := dz b.2 (by rw [← em]; exact List.mem_map_of_mem hb)
    omega
  · obtain ⟨ep, he'⟩ := PyProof.Rows.sortedAll_at s.heap its out.toArray
    have vo : Vals (sortZ xs ps) out := vals_each (fun _ _ h => h) eo
    refine ⟨.ref (s.heap.objs.size + 1), upd H (s.heap.objs.size + 1) (.lst (sortZ xs ps)), I.laid (t' := s.toks) (fun _ _ => PyProof.Rows.sortedAll_old) (Nat.le_succ _) ⟨?_, out, ep, vo, he'⟩, rfl, q _ (I.hok.fresh (Nat.le_succ _))⟩
    rw [vo.length, ho, List.length_zip]
    omega
def allAlike (ps : List PyData) : Bool := ps.all fun p => ps.all fun q => PySem.W.alike p q
def isTup1 : PyData → Bool
  | .tuple (_ :: _) => true
  | _ => false
def noTup : PyData → Bool
  | .tuple _ => false
  | .none => false
  | _ => true
def sortable (ps : List PyData) : Bool := ps.all isTup1 || ps.all noTup
theorem allAlike_of {ps : List PyData} (h : allAlike ps = true) : PySem.W.AllAlike ps := fun d hd d' hd' => by
  unfold allAlike at h
  exact List.all_eq_true.mp (List.all_eq_true.mp h d hd) d' hd'
theorem sortable_of {ps : List PyData} (h : sortable ps = true) : PySem.W.Sortable ps := by
  unfold sortable at h
  rcases Bool.or_eq_true _ _ ▸ h with h | h
  · refine .inl fun d hd => ?_
    have := List.all_eq_true.mp h d hd
    unfold isTup1 at this
    split at this
    · exact ⟨_, _, rfl⟩
    · cases this
  · refine .inr fun d hd => ?_
    have := List.all_eq_true.mp h d hd
    constructor
    · rintro rfl; cases this
    · rintro xs rfl; cases this
theorem sortZ_rv {G : Gx} {ρ : Rg} {H : Hp} {l : List D} {xs : List V} {ps : List PyData} (hl : l.length = ps.length) (r : RVs G ρ H l xs) : RVs G ρ H (sortZ l ps) (sortZ xs ps) := by
  have key : ∀ {β : Type} (f : (D × V) × PyData → β × PyData) (h : ∀ z, (f z).2 = z.2) (g : List β), g.zip ps = ((l.zip xs).zip ps).map f → sortZ g ps = (((l.zip xs).zip ps).mergeSort (PySem.W.dataLe false (·.2))).map (fun z => (f z).1) := by
    intro β f h g e
    unfold sortZ
    rw [e, ← List.map_mergeSort (r := PySem.W.dataLe false (·.2)) (s := PySem.W.dataLe false (·.2)) (f := f), List.map_map]
    · rfl
    · intro a _ b _
      simp only [PySem.W.dataLe_eq, h]
  have el := r.len
  have e1 : l.zip ps = ((l.zip xs).zip ps).map (fun z => (z.1.1, z.2)) := by
    have : l = (l.zip xs).map (·.1) := (List.map_fst_zip (by omega)).symm
    conv => lhs; rw [this]
    rw [List.zip_map_left]; rfl
  have e2 : xs.zip ps = ((l.zip xs).zip ps).map (fun z => (z.1.2, z.2)) := by
    have : xs = (l.zip xs).map (·.2) := (List.map_snd_zip (by omega)).symm
    conv => lhs; rw [this]
    rw [List.zip_map_left]; rfl
  rw [key (fun z => (z.1.1, z.2)) (fun _ => rfl) l e1, key (fun z => (z.1.2, z.2)) (fun _ => rfl) xs e2]
  dsimp only
  have all : ∀ z ∈ ((l.zip xs).zip ps).mergeSort (PySem.W.dataLe false (·.2)), RV G ρ H z.1.1 z.1.2 := fun z hz => by
    have hz : z ∈ (l.zip xs).zip ps := (List.mergeSort_perm _ _).mem_iff.mp hz
    have h1 : z.1 ∈ l.zip xs := (List.of_mem_zip (a := z.1) (b := z.2) hz).1
    obtain ⟨i, hi, e⟩ := List.getElem_of_mem h1
    have hi1 : i < l.length := by simp at hi; omega
    obtain ⟨v, ev, rv⟩ := r.get (List.getElem?_eq_getElem hi1)
    have hi2 : i < xs.length := by omega
    rw [List.getElem?_eq_getElem hi2] at ev
    cases ev
    rw [← e, List.getElem_zip]
    exact rv
  generalize ((l.zip xs).zip ps).mergeSort (PySem.W.dataLe false (·.2)) = zs at all
  induction zs with
  | nil => exact .nil
  | cons z zs ih => exact .cons (all z (by simp)) (ih fun w hw => all w (by simp [hw]))
theorem sortZ_len {β : Type} {xs : List β} {ps : List PyData} (h : xs.length = ps.length) : (sortZ xs ps).length = xs.length := by
  unfold sortZ
  rw [List.length_map, List.length_mergeSort, List.length_zip]
  omega
def sorted1 (mt : Bool) : D → M D := fun d h => match rlistOf h d with
  | some l => match toPs h 4 l with
    | some ps => if allAlike ps = true ∧ sortable ps = true ∧ PyData.depthAll ps ≤ 64 then mkL mt (sortZ l ps) h else .bad
    | none => .bad
  | none => .bad
theorem depth_mem {p : PyData} : ∀ {ps : List PyData}, p ∈ ps → p.depth ≤ PyData.depthAll ps
  | q :: qs, h => by
    rcases List.mem_cons.mp h with rfl | h
    · simp only [PyData.depthAll]; omega
    · have := depth_mem h
      simp only [PyData.depthAll]; omega
theorem c_sorted (mt : Bool) : Cm X T (rSortedD X.K) (one (sorted1 mt)) := by
  intro W ρ hd H ds vs σ Q r q z
  obtain ⟨d, v, rfl, rfl, q, z⟩ := one_res q z
  unfold sorted1 at z
  cases e1 : rlistOf hd d with
  | none => simp only [e1] at z; exact z.elim
  | some l =>
    simp only [e1] at z
    cases e2 : toPs hd 4 l with
    | none => simp only [e2] at z; exact z.elim
    | some ps =>
      simp only [e2] at z
      by_cases c : allAlike ps = true ∧ sortable ps = true ∧ PyData.depthAll ps ≤ 64
      · rw [if_pos c] at z
        obtain ⟨p, xs, rfl, hp, rs⟩ := rlistOf_rv r q e1
        obtain ⟨hd', h2⟩ := toPs_rv r 4 _ _ _ rs e2
        have hl : l.length = ps.length := rs.len.trans (DpAll.len hd')
        obtain ⟨z1, z2⟩ := mkL_res r (sortZ_rv hl rs) z
        refine ⟨p, xs, ps, rfl, hp, hd', allAlike_of c.1, sortable_of c.2.1, fun p hp => ?_, z2⟩
        have := depth_mem hp
        have h3 := c.2.2
        omega
      · rw [if_neg c] at z; exact z.elim

/-! ### repr -/
def rReprD (K : PySem.W.Frag) : List V → Hp → VK → Prop := fun vs H Q => ∃ x p, vs = [x] ∧ Dp K H x p ∧ p.canLay0 = true ∧ p.showable = true ∧ p.depth ≤ 64 ∧ p.shown.length ≤ sizeLine ∧ Q (.str p.shown) H
theorem cr_repr (hg : X.A.guards = some []) (hu : X.A.units + 70 < cLine) : CallR X (.builtin "repr") (rReprD X.K) := by
  intro pins s σ H vs us Q I r h
  obtain ⟨x, p, rfl, hd, hc, hs, dz, hz, q⟩ := h
  obtain ⟨u, rfl, rx⟩ := vals1 r
  obtain ⟨as, rd⟩ := Dp.reads I p x u hd rx
  have fin : ∀ {h' : Heap} {t : Tok} {tk : Nat}, (∀ b o, s.heap.get? b = some o → h'.get? b = some o) → EP X pins σ Q (.str p.shown t) { s with heap := h', toks := tk } := fun k => ⟨.str p.shown, H, I.kept k, ⟨_, rfl⟩, q⟩
  cases hd with
  | non => cases rx; exact PySem.P.repr_of_none (fin fun _ _ e => e)
  | bl b => cases rx; exact PySem.P.repr_of_bool (fin fun _ _ e => e)
  | int i =>
    obtain ⟨t, rfl⟩ := rx
    exact PySem.P.repr_of_int (by simpa [PyData.showable] using hs) (fin fun _ _ e => e)
  | str y =>
    obtain ⟨t, rfl⟩ := rx
    exact PySem.P.repr_of_str (fin fun _ _ e => e) (hsz := hz)
  | lst h1 h2 =>
    cases rx
    exact repr_of_reads' rd hs (fun hx => by rw [PyData.hasDict_of_canLay _ hc] at hx; cases hx) hg (by omega) (fun _ _ e => e) (fun h' u tk k => fin k) (hsz := hz)
  | tup h1 h2 =>
    cases rx
    exact repr_of_reads' rd hs (fun hx => by rw [PyData.hasDict_of_canLay _ hc] at hx; cases hx) hg (by omega) (fun _ _ e => e) (fun h' u tk k => fin k) (hsz := hz)
def repr1 : D → M D := fun d h => match toP h d with
  | some p => if p.showable = true ∧ p.depth ≤ 64 ∧ p.shown.length ≤ sizeLine ∧ PyData.strOk p.shown = true then .ok (.str p.shown) h else .bad
  | none => .bad
theorem c_repr : Cm X T (rReprD X.K) (one repr1) := by
  intro W ρ hd H ds vs σ Q r q z
  obtain ⟨d, v, rfl, rfl, q, z⟩ := one_res q z
  unfold repr1 at z
  cases e1 : toP hd d with
  | none => simp only [e1] at z; exact z.elim
  | some p =>
    simp only [e1] at z
    by_cases c : p.showable = true ∧ p.depth ≤ 64 ∧ p.shown.length ≤ sizeLine ∧ PyData.strOk p.shown = true
    · rw [if_pos c] at z
      obtain ⟨h1, h2⟩ := toP_rv r q e1
      exact ⟨v, p, rfl, h1, h2, c.1, c.2.1, c.2.2.1, ans r (.str _ c.2.2.2) z⟩
    · rw [if_neg c] at z; exact z.elim
end
end Wy

set_option Elab.async false
set_option linter.all false
set_option maxRecDepth 100000
set_option maxHeartbeats 4000000
namespace Wy
open PySem PySem.Spec PyProof.Rows L2

/-! ### the words that a generated walk is written in -/
/-- built-ins that the text doesn't shadow -/
structure Bu (mg : Str → Option Value) : Prop where
  len : mg "len" = none
  tuple : mg "tuple" = none
  list : mg "list" = none
  min : mg "min" = none
  max : mg "max" = none
  int : mg "int" = none
  str : mg "str" = none
  repr : mg "repr" = none
  sorted : mg "sorted" = none
  enumerate : mg "enumerate" = none
  range : mg "range" = none
structure Cxt (X : Cx) (k : Nat) : Prop where
  calm : X.calm = true
  nd : X.N.Nodup
  room : Room k X.A
  bu : Bu X.mg
section
variable {X : Cx} {k : Nat}
theorem Cxt.u65 (c : Cxt X k) : X.A.units + 65 < cLine := by have := c.room.un; omega
theorem Cxt.u70 (c : Cxt X k) : X.A.units + 70 < cLine := by have := c.room.un; omega
theorem Cxt.u64 (c : Cxt X k) : X.A.units + 64 < cLine := by have := c.room.un; omega
theorem Cxt.u10 (c : Cxt X k) : X.A.units + 10 < cLine := by have := c.room.un; omega
theorem Cxt.blk (c : Cxt X k) {s : Shared} {H : Hp} {sc : Scope} {e : Env} {fp : List Addr} : Cxt (X.blk s H sc e fp) k := ⟨c.calm, c.nd, c.room, c.bu⟩
theorem takes0 : Takes X W0 := fun u s' ⟨_, _, _, _, _, _, _, _, _, _, _, _, _, _, _, _, w⟩ => w.elim
end
class LenC (n : outParam Nat) (ml : SD → M (List D)) : Prop where
  len : Len n ml
instance : LenC 0 mNil := ⟨len_nil⟩
instance {m : SD → M D} {ml : SD → M (List D)} {n : Nat} [h : LenC n ml] : LenC (n + 1) (mCons m ml) := ⟨len_cons h.len⟩

section
variable {X : Cx} {T : Tb} {E : XK} {W : WX} {k : Nat} {e a b c o : Expr} {es : List Expr} {st : Stmt} {sts : List Stmt} {pos p : Pos}
/-! values -/
theorem v (i : Nat) {x : Str} (hN : X.N[i]? = some x := by rfl) (hv : Vis X.env.scope x := by first | exact Or.inl rfl | exact Or.inr (Or.inl rfl) | exact Or.inr (Or.inr rfl)) (hd : (x == ("__debug__" : Str)) = false := by decide)
    (hcd : (x == ("__classdict__" : Str)) = false := by decide) : PEm X T W (.Name x pos) (mVar i) := em_of (pe_var hN hv hd hcd)
theorem kI {i : Int} {j : Nat} : PEm X T W (.Constant (.int i) j pos) (mC (.int i)) := em_const pe_int fun _ _ => .int i
theorem kS {x : Str} {j : Nat} (h : PyData.strOk x = true := by decide +kernel) : PEm X T W (.Constant (.str x) j pos) (mC (.str x)) := em_const pe_str fun _ _ => .str x h
theorem kB {x : Bool} {j : Nat} : PEm X T W (.Constant (.bool x) j pos) (mC (.bl x)) := em_const pe_bl fun _ _ => .bl x
theorem kN {j : Nat} : PEm X T W (.Constant .none j pos) (mC .non) := em_const pe_non fun _ _ => .non
theorem ac {m : SD → M D} {ml : SD → M (List D)} (he : PEm X T W e m) (hr : PAm X T W es ml) (hs : starEach (e :: es) X.env = (false, eval e X.env) :: starEach es X.env := by rfl) : PAm X T W (e :: es) (mCons m ml) := am_cons he hr hs
theorem tp {ml : SD → M (List D)} {n j : Nat} [l : LenC n ml] (h : PAm X T W es ml) (hn : n ≤ sizeLine := by decide) : PEm X T W (.Tuple es j pos) (mTup ml) := em_tup h l.len hn
/-! operators -/
theorem oAdd {mt : Bool} {ma mb : SD → M D} (ha : PEm X T W a ma) (hb : PEm X T W b mb) : PEm X T W (.BinOp a .Add b pos) (m2 (opAdd mt) ma mb) := em_op op_addAny (r_add mt) ha hb
theorem oSub {ma mb : SD → M D} (ha : PEm X T W a ma) (hb : PEm X T W b mb) : PEm X T W (.BinOp a .Sub b pos) (m2 opSub ma mb) := em_op op_sub r_sub ha hb
theorem oMul {ma mb : SD → M D} (ha : PEm X T W a ma) (hb : PEm X T W b mb) : PEm X T W (.BinOp a .Mult b pos) (m2 opMul ma mb) := em_op op_mulAny r_mul ha hb
theorem oFdv {ma mb : SD → M D} (ha : PEm X T W a ma) (hb : PEm X T W b mb) : PEm X T W (.BinOp a .FloorDiv b pos) (m2 opFdiv ma mb) := em_op op_fdivW r_fdiv ha hb
theorem oMod {ma mb : SD → M D} (ha : PEm X T W a ma) (hb : PEm X T W b mb) : PEm X T W (.BinOp a .Mod b pos) (m2 opMod ma mb) := em_op op_mod r_mod ha hb
theorem oPow {ma mb : SD → M D} (ha : PEm X T W a ma) (hb : PEm X T W b mb) : PEm X T W (.BinOp a .Pow b pos) (m2 opPow ma mb) := em_op op_pow r_pow ha hb
/-! comparisons, as values and as tests -/
theorem oEq (c : Cxt X k) {ma mb : SD → M D} (ha : PEm X T W a ma) (hb : PEm X T W b mb) : PEm X T W (.Compare a [.Eq] [b] pos) (m2 (eqM false) ma mb) := em_cmp (op_eqD c.u64) r_eq ha hb (nomark _)
theorem oNe (c : Cxt X k) {ma mb : SD → M D} (ha : PEm X T W a ma) (hb : PEm X T W b mb) : PEm X T W (.Compare a [.NotEq] [b] pos) (m2 (eqM true) ma mb) := em_cmp (op_neD c.u64) r_ne ha hb (nomark _)
theorem oLt (c : Cxt X k) {ma mb : SD → M D} (ha : PEm X T W a ma) (hb : PEm X T W b mb) : PEm X T W (.Compare a [.Lt] [b] pos) (m2 (ordM .lt) ma mb) := em_cmp (op_ord c.u65 .lt) (r_ord .lt) ha hb (nomark _)
theorem oGt (c : Cxt X k) {ma mb : SD → M D} (ha : PEm X T W a ma) (hb : PEm X T W b mb) : PEm X T W (.Compare a [.Gt] [b] pos) (m2 (ordM .gt) ma mb) := em_cmp (op_ord c.u65 .gt) (r_ord .gt) ha hb (nomark _)
theorem oLe (c : Cxt X k) {ma mb : SD → M D} (ha : PEm X T W a ma) (hb : PEm X T W b mb) : PEm X T W (.Compare a [.LtE] [b] pos) (m2 (ordM .le) ma mb) := em_cmp (op_ord c.u65 .le) (r_ord .le) ha hb (nomark _)
theorem oGe (c : Cxt X k) {ma mb : SD → M D} (ha : PEm X T W a ma) (hb : PEm X T W b mb) : PEm X T W (.Compare a [.GtE] [b] pos) (m2 (ordM .ge) ma mb) := em_cmp (op_ord c.u65 .ge) (r_ord .ge) ha hb (nomark _)
theorem oIn (c : Cxt X k) {ma mb : SD → M D} (ha : PEm X T W a ma) (hb : PEm X T W b mb) (hm : behindInMarks .In b = false := by with_unfolding_all rfl) : PEm X T W (.Compare a [.In] [b] pos) (m2 (inM false) ma mb) := em_cmp (op_inAll c.u65) r_in ha hb hm
theorem oNi (c : Cxt X k) {ma mb : SD → M D} (ha : PEm X T W a ma) (hb : PEm X T W b mb) (hm : behindInMarks .NotIn b = false := by with_unfolding_all rfl) : PEm X T W (.Compare a [.NotIn] [b] pos) (m2 (inM true) ma mb) := em_cmp (op_notInAll c.u65) r_notIn ha hb hm
theorem oIs {ma mb : SD → M D} (ha : PEm X T W a ma) (hb : PEm X T W b mb) : PEm X T W (.Compare a [.Is] [b] pos) (m2 (isM false) ma mb) := em_cmp op_isA r_isA ha hb (nomark _)
theorem oNs {ma mb : SD → M D} (ha : PEm X T W a ma) (hb : PEm X T W b mb) : PEm X T W (.Compare a [.IsNot] [b] pos) (m2 (isM true) ma mb) := em_cmp op_isNotA r_isNotA ha hb (nomark _)
theorem tEq (c : Cxt X k) {ma mb : SD → M D} (ha : PEm X T W a ma) (hb : PEm X T W b mb) : PTm X T W (.Compare a [.Eq] [b] pos) (mTest (m2 (eqM false) ma mb)) := tm_cmp (op_eqD c.u64) r_eq ha hb (nomark _)
theorem tNe (c : Cxt X k) {ma mb : SD → M D} (ha : PEm X T W a ma) (hb : PEm X T W b mb) : PTm X T W (.Compare a [.NotEq] [b] pos) (mTest (m2 (eqM true) ma mb)) := tm_cmp (op_neD c.u64) r_ne ha hb (nomark _)
theorem tLt (c : Cxt X k) {ma mb : SD → M D} (ha : PEm X T W a ma) (hb : PEm X T W b mb) : PTm X T W (.Compare a [.Lt] [b] pos) (mTest (m2 (ordM .lt) ma mb)) := tm_cmp (op_ord c.u65 .lt) (r_ord .lt) ha hb (nomark _)
theorem tGt (c : Cxt X k) {ma mb : SD → M D} (ha : PEm X T W a ma) (hb : PEm X T W b mb) : PTm X T W (.Compare a [.Gt] [b] pos) (mTest (m2 (ordM .gt) ma mb)) := tm_cmp (op_ord c.u65 .gt) (r_ord .gt) ha hb (nomark _)
theorem tLe (c : Cxt X k) {ma mb : SD → M D} (ha : PEm X T W a ma) (hb : PEm X T W b mb) : PTm X T W (.Compare a [.LtE] [b] pos) (mTest (m2 (ordM .le) ma mb)) := tm_cmp (op_ord c.u65 .le) (r_ord .le) ha hb (nomark _)
theorem tGe (c : Cxt X k) {ma mb : SD → M D} (ha : PEm X T W a ma) (hb : PEm X T W b mb) : PTm X T W (.Compare a [.GtE] [b] pos) (mTest (m2 (ordM .ge) ma mb)) := tm_cmp (op_ord c.u65 .ge) (r_ord .ge) ha hb (nomark _)
theorem tIn (c : Cxt X k) {ma mb : SD → M D} (ha : PEm X T W a ma) (hb : PEm X T W b mb) (hm : behindInMarks .In b = false := by with_unfolding_all rfl) : PTm X T W (.Compare a [.In] [b] pos) (mTest (m2 (inM false) ma mb)) := tm_cmp (op_inAll c.u65) r_in ha hb hm
theorem tNi (c : Cxt X k) {ma mb : SD → M D} (ha : PEm X T W a ma) (hb : PEm X T W b mb) (hm : behindInMarks .NotIn b = false := by with_unfolding_all rfl) : PTm X T W (.Compare a [.NotIn] [b] pos) (mTest (m2 (inM true) ma mb)) := tm_cmp (op_notInAll c.u65) r_notIn ha hb hm
theorem tIs {ma mb : SD → M D} (ha : PEm X T W a ma) (hb : PEm X T W b mb) : PTm X T W (.Compare a [.Is] [b] pos) (mTest (m2 (isM false) ma mb)) := tm_cmp op_isA r_isA ha hb (nomark _)
theorem tNs {ma mb : SD → M D} (ha : PEm X T W a ma) (hb : PEm X T W b mb) : PTm X T W (.Compare a [.IsNot] [b] pos) (mTest (m2 (isM true) ma mb)) := tm_cmp op_isNotA r_isNotA ha hb (nomark _)
theorem tTr {m : SD → M D} (h : PEm X T W e m) (he : ∀ whole, isTrue e X.env whole = (do let v ← whole; standAt e.pos; holding [v] (truthy v)) := by intro _; rfl) : PTm X T W e (mTruth m) := tm_truth h he
theorem tBo {m : SD → M Bool} (h : PWm X T W e m) : PTm X T W e m := h.pt
/-! parts -/
theorem oIx (c : Cxt X k) {ma mb : SD → M D} (ha : PEm X T W a ma) (hb : PEm X T W b mb) (hs : PlainIx b := by exact fun _ _ => rfl) : PEm X T W (.Subscript a b pos) (m2 ixA ma mb) := em_ixA c.u10 ha hb hs
/-! calls -/
theorem cLen (c : Cxt X k) {ml : SD → M (List D)} (ha : PAm X T W (e :: es) ml) (hg : Gl X "len" := by rfl) (he : starEach (e :: es) X.env = (false, eval e X.env) :: starEach es X.env := by rfl) (hpl : (backTo pos (starEach es X.env)).any (·.1) = false := by rfl) : PEm X T W (.Call (.Name "len" p) (e :: es) [] pos) (mCall (one len1) ml) :=
  em_callB b_len c_len hg c.bu.len PySem.boot_len ha (by decide) (by decide) he hpl
theorem cTup (c : Cxt X k) {ml : SD → M (List D)} (ha : PAm X T W (e :: es) ml) (hg : Gl X "tuple" := by rfl) (he : starEach (e :: es) X.env = (false, eval e X.env) :: starEach es X.env := by rfl) (hpl : (backTo pos (starEach es X.env)).any (·.1) = false := by rfl) : PEm X T W (.Call (.Name "tuple" p) (e :: es) [] pos) (mCall (one tup1) ml) :=
  em_callT call_tuple_of c_tup hg c.bu.tuple rfl ha (by decide) (by decide) he hpl
theorem cLst {mt : Bool} (c : Cxt X k) {ml : SD → M (List D)} (ha : PAm X T W (e :: es) ml) (hg : Gl X "list" := by rfl) (he : starEach (e :: es) X.env = (false, eval e X.env) :: starEach es X.env := by rfl) (hpl : (backTo pos (starEach es X.env)).any (·.1) = false := by rfl) : PEm X T W (.Call (.Name "list" p) (e :: es) [] pos) (mCall (one (list1 mt)) ml) :=
  em_callT call_list_of (c_list mt) hg c.bu.list rfl ha (by decide) (by decide) he hpl
theorem cInt (c : Cxt X k) {ml : SD → M (List D)} (ha : PAm X T W (e :: es) ml) (hg : Gl X "int" := by rfl) (he : starEach (e :: es) X.env = (false, eval e X.env) :: starEach es X.env := by rfl) (hpl : (backTo pos (starEach es X.env)).any (·.1) = false := by rfl) : PEm X T W (.Call (.Name "int" p) (e :: es) [] pos) (mCall (one int1) ml) :=
  em_callT call_int1 c_int hg c.bu.int rfl ha (by decide) (by decide) he hpl
theorem cMin (c : Cxt X k) {ml : SD → M (List D)} (ha : PAm X T W (e :: es) ml) (hg : Gl X "min" := by rfl) (he : starEach (e :: es) X.env = (false, eval e X.env) :: starEach es X.env := by rfl) (hpl : (backTo pos (starEach es X.env)).any (·.1) = false := by rfl) : PEm X T W (.Call (.Name "min" p) (e :: es) [] pos) (mCall (two min2) ml) :=
  em_callB (call_min2 c.calm) c_min hg c.bu.min rfl ha (by decide) (by decide) he hpl
theorem cMax (c : Cxt X k) {ml : SD → M (List D)} (ha : PAm X T W (e :: es) ml) (hg : Gl X "max" := by rfl) (he : starEach (e :: es) X.env = (false, eval e X.env) :: starEach es X.env := by rfl) (hpl : (backTo pos (starEach es X.env)).any (·.1) = false := by rfl) : PEm X T W (.Call (.Name "max" p) (e :: es) [] pos) (mCall (two max2) ml) :=
  em_callB (call_max2 c.calm) c_max hg c.bu.max rfl ha (by decide) (by decide) he hpl
theorem cSrt {mt : Bool} (c : Cxt X k) {ml : SD → M (List D)} (ha : PAm X T W (e :: es) ml) (hg : Gl X "sorted" := by rfl) (he : starEach (e :: es) X.env = (false, eval e X.env) :: starEach es X.env := by rfl) (hpl : (backTo pos (starEach es X.env)).any (·.1) = false := by rfl) : PEm X T W (.Call (.Name "sorted" p) (e :: es) [] pos) (mCall (one (sorted1 mt)) ml) :=
  em_callB (cr_sortedD c.u70) (c_sorted mt) hg c.bu.sorted rfl ha (by decide) (by decide) he hpl
theorem cRpr (c : Cxt X k) (hgu : X.A.guards = some []) {ml : SD → M (List D)} (ha : PAm X T W (e :: es) ml) (hg : Gl X "repr" := by rfl) (he : starEach (e :: es) X.env = (false, eval e X.env) :: starEach es X.env := by rfl) (hpl : (backTo pos (starEach es X.env)).any (·.1) = false := by rfl) : PEm X T W (.Call (.Name "repr" p) (e :: es) [] pos) (mCall (one repr1) ml) :=
  em_callB (cr_repr hgu c.u70) c_repr hg c.bu.repr rfl ha (by decide) (by decide) he hpl
/-! defs -/
/-- a def of the text that does F -/
structure DefOk (P : Program) (w : World) (K : PySem.W.Frag) (mg : Str → Option Value) (base : Heap) (T : Tb) (x : Str) (k n : Nat) (F : List D → M D) : Prop where
  ex : ∃ (f : Addr) (fd : FuncData) (ps : List Str), mg x = some (.ref f) ∧ PySem.W.keepIn K (.ref f) = true ∧ Binds K fd ps [] ∧ FnOk P w K mg base (L2.CX P w) k f fd ps (spOf ⟨P, w, K, T⟩ n F)
theorem cF {x : Str} {n j : Nat} {F : List D → M D} {ml : SD → M (List D)} [l : LenC n ml] (c : Cxt X k) (tk : Takes X W) (d : DefOk X.prog X.w X.K X.mg X.base T x j n F) (ha : PAm X T W (e :: es) ml) (hj : j ≤ k := by decide) (hg : Gl X x := by rfl) (hdb : (x == ("__debug__" : Str)) = false := by decide)
    (he : starEach (e :: es) X.env = (false, eval e X.env) :: starEach es X.env := by rfl) (hpl : (backTo pos (starEach es X.env)).any (·.1) = false := by rfl) : PEm X T W (.Call (.Name x p) (e :: es) [] pos) (mCall F ml) := by
  obtain ⟨f, fd, ps, hm, hk, hb, Fo⟩ := d.ex
  exact em_call (Fo.mono hj) c.room hg hm hk hb tk ha l.len hdb he hpl
theorem cF0 {x : Str} {j : Nat} {F : List D → M D} (c : Cxt X k) (tk : Takes X W) (d : DefOk X.prog X.w X.K X.mg X.base T x j 0 F) (hj : j ≤ k := by decide) (hg : Gl X x := by rfl) (hdb : (x == ("__debug__" : Str)) = false := by decide) : PEm X T W (.Call (.Name x p) [] [] pos) (mCall F mNil) := by
  obtain ⟨f, fd, ps, hm, hk, hb, Fo⟩ := d.ex
  exact em_call0 (Fo.mono hj) c.room hg hm hk hb tk hdb
/-! methods -/
theorem mAppend {ml : SD → M (List D)} {mo : SD → M D} {apos cpos : Pos} (ho : PEm X T W o mo) (ha : PAm X T W (e :: es) ml) (hbase : attributeBase o "append" X.env (eval o X.env) = eval o X.env := by rfl)
    (hfew : ((backTo cpos (starEach (e :: es) X.env)).all (fun x => !x.1) && (backToKw cpos (keywordEach [] X.env)).all (fun x => x.1.isSome) && decide ((e :: es).length + ([] : List Keyword).length + (if ([] : List Keyword).isEmpty then 0 else 1) < 30)) = true := by rfl)
    (hline : (apos.endLine == cpos.line) = true := by decide) (hs : starEach (e :: es) X.env = (false, eval e X.env) :: starEach es X.env := by rfl) (hplain : (backTo cpos (starEach es X.env)).any (·.1) = false := by rfl) : PEm X T W (.Call (.Attribute o "append" apos) (e :: es) [] cpos) (mMeth .list fAppend mo ml) :=
  em_bm (t := .list) PySem.F.plainAttrs_list PySem.F.slot_list_append PySem.F.type_list_append mt_append m_append ho ha hbase hfew hline hs hplain
end
end Wy

set_option Elab.async false
set_option linter.all false
set_option maxRecDepth 100000
set_option maxHeartbeats 4000000
namespace Wy
open PySem PySem.Spec PyProof.Rows L2

/-! ### what a def hands out: its own objects become values where nobody changes them -/
mutual
def frzG (r : Nat → Option D) : D → Option D
  | .tup l => (frzGs r l).map .tup
  | .lv l => (frzGs r l).map .lv
  | .rl l => (frzGs r l).map .rl
  | .dv tk ks vs => match frzGs r ks, frzGs r vs with
    | some ks', some vs' => if tk = false then (if ks' = ks then some (.dv false ks vs') else none) else (if ks'.map toK = ks.map toK then some (.dv true ks' vs') else none)
    | _, _ => none
  | .ref i => r i
  | .fn f cs => (frzGs r cs).map (.fn f)
  | d => some d
def frzGs (r : Nat → Option D) : List D → Option (List D)
  | [] => some []
  | a :: as => match frzG r a, frzGs r as with
    | some b, some bs => some (b :: bs)
    | _, _ => none
end
def frz (h : DH) (n : Nat) : Nat → Nat → Option D
  | 0, i => if i < n then some (.ref i) else none
  | k + 1, i => if i < n then some (.ref i) else match h[i]? with
    | some (.lst l) => (frzGs (frz h n k) l).map .lv
    | some (.dct false kvs) => (frzGs (frz h n k) (kvs.map (·.2))).map (.dv false (kvs.map (·.1)))
    | some (.dct true kvs) => match frzGs (frz h n k) (kvs.map (·.1)), frzGs (frz h n k) (kvs.map (·.2)) with
      | some ks, some vs => if ks.map toK = kvs.map (fun p => toK p.1) then some (.dv true ks vs) else none
      | _, _ => none
    | _ => none
/-- z: the result's own objects become values -/
def out (z : Bool) (h : DH) (n : Nat) (d : D) : Option D := if z = true then frzG (frz h n 4) d else if d.under n = true then some d else none
def cutZ (z : Bool) (m : M D) : M D := fun h => match m h with
  | .ok d h' => if (h'.take h.length).all (Ob.under h.length) = true ∧ h.length ≤ h'.length then (match out z h' h.length d with
    | some d' => .ok d' (h'.take h.length)
    | none => .ok d h') else .ok d h'
  | .ex C fs h' => if (h'.take h.length).all (Ob.under h.length) = true ∧ h.length ≤ h'.length ∧ D.unders h.length (fs.map (·.2)) = true then .ex C fs (h'.take h.length) else .ex C fs h'
  | .bad => .bad
section
variable {G : Gx} {ρ ρ' : Rg} {H H' : Hp} {hd hd' : DH}
theorem Stp.outs (s : Stp ρ H ρ' H') : ∀ a, ρ'.Out a → ρ.Out a := fun a n => ⟨fun z => n.1 (s.pre.subset z), by rw [← s.hid]; exact n.2⟩
/-- back to so many objects -/
theorem Rep.back' (r : Rep G ρ hd H) (r' : Rep G ρ' hd' H') (s : Stp ρ H ρ' H') (e : (hd'.take hd.length).all (Ob.under hd.length) = true) (hl : hd.length ≤ hd'.length) : Rep G ρ (hd'.take hd.length) H' ∧ Stp ρ H ρ H' := by
  refine ⟨⟨by rw [List.length_take]; have := r.len; omega, r.nd, fun a ha => ⟨(r'.hid a (by rw [s.hid]; exact ha)).1, (r.hid a ha).2⟩, fun n a o h1 h2 => ?_⟩, ⟨List.prefix_refl _, rfl, fun _ h => .inl h, s.old⟩⟩
  have u : o.under ρ.l.length = true := by rw [r.len]; exact List.all_eq_true.mp e o (List.mem_of_getElem? h2)
  have h3 : hd'[n]? = some o := by
    rw [List.getElem?_take] at h2
    split at h2
    · exact h2
    · cases h2
  exact (r'.ob n a o (pre_get s.pre h1) h3).back s.outs s.pre u
mutual
theorem RV.frzG {r : Nat → Option D} (ho : ∀ a, ρ'.Out a → ρ.Out a) (hr : ∀ i a d, ρ'.l[i]? = some a → r i = some d → RV G ρ H' d (.ref a)) : ∀ (d : D) (v : V) (d' : D), RV G ρ' H' d v → frzG r d = some d' → RV G ρ H' d' v
  | _, _, d', .non, e => by simp [Wy.frzG] at e; subst e; exact .non
  | _, _, d', .bl b, e => by simp [Wy.frzG] at e; subst e; exact .bl b
  | _, _, d', .int i, e => by simp [Wy.frzG] at e; subst e; exact .int i
  | _, _, d', .str x h, e => by simp [Wy.frzG] at e; subst e; exact .str x h
  | _, _, d', .tup h rs, e => by
    simp only [Wy.frzG] at e
    obtain ⟨l, e1, rfl⟩ := Option.map_eq_some_iff.mp e
    exact .tup h (RVs.frzG ho hr _ _ l rs e1)
  | _, _, d', .lv n h rs, e => by
    simp only [Wy.frzG] at e
    obtain ⟨l, e1, rfl⟩ := Option.map_eq_some_iff.mp e
    exact .lv (ho _ n) h (RVs.frzG ho hr _ _ l rs e1)
  | _, _, d', .rl h rs, e => by
    simp only [Wy.frzG] at e
    obtain ⟨l, e1, rfl⟩ := Option.map_eq_some_iff.mp e
    exact .rl (h.imp (fun q => ⟨ho _ q.1, q.2⟩) id) (RVs.frzG ho hr _ _ l rs e1)
  | .ref n, _, d', .ref h, e => by
    simp only [Wy.frzG] at e
    exact hr n _ d' h e
  | .dv false ks vs, _, d', .dvk n h k u rs, e => by
    simp only [Wy.frzG] at e
    cases e1 : frzGs r ks with
    | none => rw [e1] at e; cases e
    | some ks' => cases e2 : frzGs r vs with
      | none => rw [e1, e2] at e; cases e
      | some vs' =>
        rw [e1, e2] at e
        simp only [if_true] at e
        by_cases c : ks' = ks
        · rw [if_pos c] at e; cases e
          exact .dvk (ho _ n) h k u (RVs.frzG ho hr _ _ vs' rs e2)
        · rw [if_neg c] at e; cases e
  | .dv true ks vs, _, d', .dvt n h t rk k u rs, e => by
    simp only [Wy.frzG] at e
    cases e1 : frzGs r ks with
    | none => rw [e1] at e; cases e
    | some ks' => cases e2 : frzGs r vs with
      | none => rw [e1, e2] at e; cases e
      | some vs' =>
        rw [e1, e2] at e
        simp only [Bool.true_eq_false, if_false] at e
        by_cases c : ks'.map toK = ks.map toK
        · rw [if_pos c] at e; cases e
          exact .dvt (ho _ n) h t (RVs.frzG ho hr _ _ ks' rk e1) (c.trans k) u (RVs.frzG ho hr _ _ vs' rs e2)
        · rw [if_neg c] at e; cases e
  | _, _, d', .fn fp hb hf rs, e => by
    simp only [Wy.frzG] at e
    obtain ⟨l, e1, rfl⟩ := Option.map_eq_some_iff.mp e
    exact .fn fp (fun b h => ⟨ho b (hb b h).1, (hb b h).2⟩) hf (RVs.frzG ho hr _ _ l rs e1)
theorem RVs.frzG {r : Nat → Option D} (ho : ∀ a, ρ'.Out a → ρ.Out a) (hr : ∀ i a d, ρ'.l[i]? = some a → r i = some d → RV G ρ H' d (.ref a)) : ∀ (ds : List D) (vs : List V) (ds' : List D), RVs G ρ' H' ds vs → frzGs r ds = some ds' → RVs G ρ H' ds' vs
  | _, _, ds', .nil, e => by simp [Wy.frzGs] at e; subst e; exact .nil
  | _, _, ds', .cons (d := d) (ds := ds) q qs, e => by
    simp only [Wy.frzGs] at e
    cases e1 : Wy.frzG r d with
    | none => rw [e1] at e; cases e
    | some b => cases e2 : frzGs r ds with
      | none => rw [e1, e2] at e; cases e
      | some bs =>
        rw [e1, e2] at e; cases e
        exact .cons (RV.frzG ho hr _ _ b q e1) (RVs.frzG ho hr _ _ bs qs e2)
end
theorem frz_rv (r : Rep G ρ' hd' H') (pre : ρ.l <+: ρ'.l) (hz : ρ.hid = ρ'.hid) (ho : ∀ a, ρ'.Out a → ρ.Out a) : ∀ (k i : Nat) (a : Addr) (d : D), ρ'.l[i]? = some a → frz hd' ρ.l.length k i = some d → RV G ρ H' d (.ref a) := by
  have small : ∀ (i : Nat) (a : Addr), i < ρ.l.length → ρ'.l[i]? = some a → RV G ρ H' (.ref i) (.ref a) := fun i a c e => .ref (by
    obtain ⟨t, ht⟩ := pre
    rw [← ht, List.getElem?_append_left c] at e
    exact e)
  have big : ∀ (i : Nat) (a : Addr), ¬ i < ρ.l.length → ρ'.l[i]? = some a → ρ.Out a := fun i a c e => by
    refine ⟨fun z => ?_, fun z => ?_⟩
    · obtain ⟨j, hj, ej⟩ := List.getElem_of_mem z
      have e2 : ρ'.l[j]? = some a := pre_get pre (by rw [List.getElem?_eq_getElem hj, ej])
      obtain ⟨h3, e3⟩ := List.getElem?_eq_some_iff.mp e
      obtain ⟨h4, e4⟩ := List.getElem?_eq_some_iff.mp e2
      have := (List.getElem_inj (h₀ := h3) (h₁ := h4) r.nd).mp (by rw [e3, e4])
      omega
    · exact (r.hid a (by rw [← hz]; exact z)).2 (List.mem_of_getElem? e)
  intro k
  induction k with
  | zero =>
    intro i a d e ef
    unfold frz at ef
    by_cases c : i < ρ.l.length
    · rw [if_pos c] at ef; cases ef; exact small i a c e
    · rw [if_neg c] at ef; cases ef
  | succ k ih =>
    intro i a d e ef
    unfold frz at ef
    by_cases c : i < ρ.l.length
    · rw [if_pos c] at ef; cases ef; exact small i a c e
    · rw [if_neg c] at ef
      cases eo : hd'[i]? with
      | none => rw [eo] at ef; cases ef
      | some o =>
        rw [eo] at ef
        have q := r.ob i a o e eo
        cases o with
        | ins _ _ => cases ef
        | lst l =>
          obtain ⟨l', e1, rfl⟩ := Option.map_eq_some_iff.mp ef
          obtain ⟨xs, h, rs⟩ := q
          exact .lv (big i a c e) h (RVs.frzG ho (fun j b z h1 h2 => ih j b z h1 h2) _ _ l' rs e1)
        | dct tk kvs => cases tk with
          | false =>
            obtain ⟨l', e1, rfl⟩ := Option.map_eq_some_iff.mp ef
            obtain ⟨ks, us, h, kk, eu, rs⟩ := q
            exact .dvk (big i a c e) h (by rw [List.map_map]; exact kk) eu (RVs.frzG ho (fun j b z h1 h2 => ih j b z h1 h2) _ _ l' rs e1)
          | true =>
            obtain ⟨xs, ts, us, h, et, rk, kk, eu, rs⟩ := q
            cases e1 : frzGs (frz hd' ρ.l.length k) (kvs.map (·.1)) with
            | none => simp only [e1] at ef; cases ef
            | some ks' => cases e2 : frzGs (frz hd' ρ.l.length k) (kvs.map (·.2)) with
              | none => simp only [e1, e2] at ef; cases ef
              | some vs' =>
                simp only [e1, e2] at ef
                by_cases ck : ks'.map toK = kvs.map (fun p => toK p.1)
                · rw [if_pos ck] at ef; cases ef
                  exact .dvt (big i a c e) h et (RVs.frzG ho (fun j b z h1 h2 => ih j b z h1 h2) _ _ ks' rk e1) (ck.trans kk) eu (RVs.frzG ho (fun j b z h1 h2 => ih j b z h1 h2) _ _ vs' rs e2)
                · rw [if_neg ck] at ef; cases ef
theorem cutZ_res {W : WX} {σ : L2.St} {z : Bool} {m : M D} {Q : VK} (r : Rep G ρ hd H) (h : Res G W σ (RV G) ρ H (cutZ z m hd) Q) : Res G W σ (RV G) ρ H (m hd) Q := by
  unfold cutZ at h
  cases e : m hd with
  | ok d hd' =>
    simp only [e] at h
    by_cases c : (hd'.take hd.length).all (Ob.under hd.length) = true ∧ hd.length ≤ hd'.length
    · rw [if_pos c] at h
      cases eo : out z hd' hd.length d with
      | none => simp only [eo] at h; exact h
      | some d' =>
        simp only [eo] at h
        intro ρ2 H2 v r2 s2 q2
        obtain ⟨b1, b2⟩ := r.back' r2 s2 c.1 c.2
        refine h ρ H2 v b1 b2 ?_
        unfold out at eo
        cases z with
        | true =>
          rw [if_pos rfl, ← r.len] at eo
          exact RV.frzG s2.outs (fun i a d h1 h2 => frz_rv r2 s2.pre s2.hid.symm s2.outs 4 i a d h1 h2) _ _ d' q2 eo
        | false =>
          rw [if_neg (by decide)] at eo
          by_cases cu : d.under hd.length = true
          · rw [if_pos cu] at eo; cases eo
            exact RV.back s2.outs s2.pre _ _ q2 (by rw [r.len]; exact cu)
          · rw [if_neg cu] at eo; cases eo
    · rw [if_neg c] at h; exact h
  | ex C fs hd' =>
    simp only [e] at h
    by_cases c : (hd'.take hd.length).all (Ob.under hd.length) = true ∧ hd.length ≤ hd'.length ∧ D.unders hd.length (fs.map (·.2)) = true
    · rw [if_pos c] at h
      intro ρ2 H2 cl dd r2 s2 q2
      obtain ⟨b1, b2⟩ := r.back' r2 s2 c.1 c.2.1
      refine h ρ H2 cl dd b1 b2 ⟨q2.1, ?_⟩
      rcases q2.2 with q | ⟨d, vs, us, e1, n, e2, e3, e4, rs⟩
      · exact .inl q
      · exact .inr ⟨d, vs, us, e1, s2.outs d n, e2, e3, e4, RVs.back s2.outs s2.pre _ _ rs (by rw [r.len]; exact c.2.2)⟩
    · rw [if_neg c] at h; exact h
  | bad => simp only [e] at h; exact h
end
/-- what a def gives: n slots; z: the result's own objects become values -/
def den (z : Bool) (n : Nat) (m : SD → M Fl) : List D → M D := fun ds => cutZ z (m (slots0 n ds) >>= endF)
theorem den_body {X : Cx} {T : Tb} {E : XK} {P : Program} {w : World} {K : PySem.W.Frag} {N : List Str} {z : Bool} {n : Nat} {m : SD → M Fl} {vs : List V} {H : Hp} {Q : VK} (hn : N.length = n) (sp : spOf ⟨P, w, K, T⟩ l (den z n m) vs H Q E) :
    tS ⟨P, w, K, T⟩ E m { nx := fun _ H' => Q .non H', rt := Q } (L2.start N vs) H := by
  obtain ⟨ρ, hd, ds, r, q, l, h⟩ := sp
  subst hn
  refine ⟨ρ, hd, slots0 N.length ds, r, rst_start q, ?_⟩
  have h := cutZ_res r h
  rw [bind_ap] at h
  cases e : m (slots0 N.length ds) hd with
  | ok fl hd' =>
    rw [e] at h
    cases fl with
    | nx s' => exact fun ρ' H' σ' r' s' q' => h ρ' H' .non r' s' .non
    | rt d => exact h
    | bk _ => exact h.elim
    | ct _ => exact h.elim
  | ex C fs hd' => rw [e] at h; exact h
  | bad => rw [e] at h; exact h
/-- a def's object as the top has left it -/
def FunAt (K : PySem.W.Frag) (mg : Str → Option Value) (x : Str) (st : Stmt) : Prop := ∃ f fd, mg x = some (.ref f) ∧ Fun K x x st f fd
abbrev CO (P : Program) (w : World) (K : PySem.W.Frag) (mg : Str → Option Value) (base : Heap) (N : List Str) (x : Str) (st : Stmt) (f : Addr) (cdv : Value) (A : Around) (outer : List Env) (s : Shared) (H : Hp) (E : XK) : Cx := cxOf (L2.CX P w) P w K mg base N x (defScope st) f cdv A outer s H E
/-- THE RULE for a def -/
theorem def_is {P : Program} {w : World} {K : PySem.W.Frag} {mg : Str → Option Value} {base : Heap} {T : Tb} {x : Str} {st : Stmt} {N ps : List Str} {k l n : Nat} {z : Bool} {m : SD → M Fl} (Fn : FunAt K mg x st) (S : FnScope N ps (defScope st)) (bu : Bu mg)
    (hb : ∀ (kV doc pm : Value) (an : Option Addr) (cdv ct : Value) (us : List Value), us.length = ps.length → bindArgs (PySem.W.fnOf x x (defArgs st) (defBody st) (defScope st) .none kV doc pm an cdv ct) ⟨us, []⟩ = pure (ps.zip us))
    (body : ∀ (f : Addr) (cdv : Value) (A : Around) (outer : List Env) (s : Shared) (H : Hp) (E : XK), Cxt (CO P w K mg base N x st f cdv A outer s H E) k → Takes (CO P w K mg base N x st f cdv A outer s H E) (WC E) →
      PassesOwn (model P w) (CO P w K mg base N x st f cdv A outer s H E).A (CO P w K mg base N x st f cdv A outer s H E).env (CO P w K mg base N x st f cdv A outer s H E).xe → PSsm (CO P w K mg base N x st f cdv A outer s H E) T E (defBody st) m)
    (hl : ps.length = l := by rfl) (hn : N.length = n := by rfl) : DefOk P w K mg base T x (k + 1) l (den z n m) := by
  obtain ⟨f, fd, hm, F⟩ := Fn
  refine ⟨f, fd, ps, hm, F.kp, F.binds hb, ?_⟩
  refine F.okX S (fun vs H Q E ⟨ρ, hd, ds, r, q, l', h⟩ => by rw [← q.len, l', hl]) (fun cdv A outer s H vs Q E hr h => ⟨_, body f cdv A outer s H E ⟨rfl, S.nd, hr, bu⟩ (takes_of rfl rfl rfl rfl) (passes_of rfl), ?_⟩)
  exact den_body (X := CO P w K mg base N x st f cdv A outer s H E) hn h
end Wy

set_option Elab.async false
set_option linter.all false
set_option maxRecDepth 100000
set_option maxHeartbeats 4000000
namespace Wy
open PySem PySem.Spec PyProof.Rows L2

section
variable {X : Cx} {T : Tb} {E : XK} {W : WX} {k : Nat} {e a b c o it tg elt : Expr} {es tgs ifs : List Expr} {st : Stmt} {sts s1 s2 : List Stmt} {pos p p2 : Pos} {scope : Scope}
/-! statements -/
theorem sA {m : SD → M D} {g : D → SD → M SD} (he : PEm X T (WC E) e m) (hg : PGm X T E tg g) (hs : swapsWithSole [tg] e pos.line X.env = pure false := by rfl) (hw : swappedStores [tg] e X.env = pure none := by rfl) (h1 : (assignEach [tg] X.env).map (·.2) = [assign tg X.env] := by rfl) :
    PSm X T E (.Assign [tg] e pos) (mAsg m g) := sm_asg he hg hs hw h1
theorem sX {m : SD → M D} (he : PEm X T (WC E) e m) (hs : swapsWith e none pos.line X.env = pure false := by rfl) : PSm X T E (.Expr e pos) (mExpr m) := sm_expr he hs
theorem sF {mi : SD → M Src} {g : D → SD → M SD} {body : SD → M Fl} (c : Cxt X k) (hp : PassesOwn (model X.prog X.w) X.A X.env X.xe) (hi : PIm X T (WC E) tg it mi) (hg : PGm X T E tg g) (hb : PSsm X T E sts body) (hs : ∀ x, foldedSetIterable it X.env x = pure x := by intro _; rfl) :
    PSm X T E (.For tg it sts [] pos) (mFor mi g body) := sm_for hp c.calm hi hg hb hs
/-! targets -/
theorem gN (c : Cxt X k) {i : Nat} {x : Str} (hi : X.N[i]? = some x := by rfl) (hx : Loc X.env.scope x := by first | exact .inl rfl | exact .inr rfl) (hf : X.fn x = true ∨ X.env.scope.names.lookup x = some .local := by first | exact .inl rfl | exact .inr rfl) : PGm X T E (.Name x pos) (gNm i) := gm_name c.nd hi hx hf
theorem gs0 : PGsm X T E [] gsNil := gsm_nil
theorem gs1 {g : D → SD → M SD} {gs : List D → SD → M SD} (h1 : PGm X T E tg g) (h2 : PGsm X T E tgs gs) (hs : (assignEach (tg :: tgs) X.env).map (·.2) = assign tg X.env :: (assignEach tgs X.env).map (·.2) := by rfl) : PGsm X T E (tg :: tgs) (gsCons g gs) := gsm_cons h1 h2 hs
theorem gT (c : Cxt X k) {j n : Nat} {gs : List D → SD → M SD} (h : PGsm X T E tgs gs) (hn : (assignEach tgs X.env).length = n := by rfl) (hst : (assignEach tgs X.env).findIdx? (·.1) = none := by rfl) : PGm X T E (.Tuple tgs j pos) (gTp n gs) := gm_tup c.calm h hn hst
theorem gS (c : Cxt X k) {mo mi : SD → M D} (ho : PEm X T (WC E) o mo) (hi : PEm X T (WC E) a mi) (ha : ∀ v, assign (.Subscript o a pos) X.env v = (do
      let ov ← holding [v] (eval o X.env)
      let iv ← holding [v, ov] (eval a X.env)
      standAt pos
      holding [v, ov, iv] (setItem ov iv v)
      release [v, ov, iv] []) := by intro _; rfl) : PGm X T E (.Subscript o a pos) (gSb mo mi setM) := gm_sub ho hi (set_any c.u10) s_any ha
/-! what is walked -/
theorem iS {m : SD → M D} (hl : PEm X T W it m) : PIm X T W tg it (srcSeq m) := im_seq hl
theorem iE (c : Cxt X k) {elts : List Expr} {kk : Nat} {tpos : Pos} {ml : SD → M (List D)} (ha : PAm X T W [e] ml) (hg : Gl X "enumerate" := by rfl) (hs : starEach [e] X.env = [(false, eval e X.env)] := by rfl) : PIm X T W (.Tuple elts kk tpos) (.Call (.Name "enumerate" p) [e] [] pos) (srcEnum ml) := im_enum hg c.bu.enumerate ha hs
theorem iR (c : Cxt X k) {ml : SD → M (List D)} [l : LenC 1 ml] (ha : PAm X T W [a] ml) (hg : Gl X "range" := by rfl) (hs : starEach [a] X.env = [(false, eval a X.env)] := by rfl) : PIm X T W tg (.Call (.Name "range" p) [a] [] pos) (srcRng ml) := im_rng1 hg c.bu.range ha l.len hs
theorem iR2 (c : Cxt X k) {ml : SD → M (List D)} [l : LenC 2 ml] (ha : PAm X T W [a, b] ml) (hg : Gl X "range" := by rfl) (hs : starEach [a, b] X.env = [(false, eval a X.env), (false, eval b X.env)] := by rfl) (hs2 : starEach [b] X.env = [(false, eval b X.env)] := by rfl) : PIm X T W tg (.Call (.Name "range" p) [a, b] [] pos) (srcRng ml) :=
  im_rng2 hg c.bu.range ha l.len hs hs2
/-! comprehensions -/
abbrev CB (X : Cx) (scope : Scope) (s : Shared) (H : Hp) (C : Addr) (cl : List (Str × Addr)) (fp : List Addr) : Cx := X.blk s H scope (compEnvC scope cl C X.env) fp
theorem xC {own : List (Str × Nat)} {vs : List Nat} {t : CT} {tt : SD → M Bool} {te : SD → M D} {mt : Bool} {mi : SD → M Src} (c : Cxt X k) (hi : PIm X T W tg it mi) (ok : BlkOk X.N X.env.scope scope own)
    (hg : ∀ (s : Shared) (H : Hp) (C : Addr) (cl : List (Str × Addr)) (fp : List Addr), Cxt (CB X scope s H C cl fp) k → PG (CB X scope s H C cl fp) tg (gOf X.K t))
    (ht : ∀ (s : Shared) (H : Hp) (C : Addr) (cl : List (Str × Addr)) (fp : List Addr), Cxt (CB X scope s H C cl fp) k → PTs (CB X scope s H C cl fp) ifs (tT (gx X T) W0 tt))
    (he : ∀ (s : Shared) (H : Hp) (C : Addr) (cl : List (Str × Addr)) (fp : List Addr), Cxt (CB X scope s H C cl fp) k → PE (CB X scope s H C cl fp) elt (tE (gx X T) W0 te))
    (hs : ∀ i ∈ t.slots, i ∈ vs := by decide) (hv : own.map (·.2) = vs := by rfl) (hf : ∀ x, foldedSetIterable it X.env x = pure x := by intro _; rfl) : PEm X T W (.ListComp elt [⟨tg, it, ifs, 0⟩] scope pos) (mComp vs t tt te mt mi) := by
  subst hv
  exact em_comp c.calm c.nd hi ok hs (fun s H C cl fp => hg s H C cl fp c.blk) (fun s H C cl fp => ht s H C cl fp c.blk) (fun s H C cl fp => he s H C cl fp c.blk) hf
theorem sC {own : List (Str × Nat)} {vs : List Nat} {i : Nat} {y : Str} {py spos : Pos} {t : CT} {tt : SD → M Bool} {te : SD → M D} {mt : Bool} {mi : SD → M Src} (c : Cxt X k) (hi : PIm X T (WC E) tg it mi) (ok : BlkOk X.N X.env.scope scope own)
    (hg : ∀ (s : Shared) (H : Hp) (C : Addr) (cl : List (Str × Addr)) (fp : List Addr), Cxt (CB X scope s H C cl fp) k → PG (CB X scope s H C cl fp) tg (gOf X.K t))
    (ht : ∀ (s : Shared) (H : Hp) (C : Addr) (cl : List (Str × Addr)) (fp : List Addr), Cxt (CB X scope s H C cl fp) k → PTs (CB X scope s H C cl fp) ifs (tT (gx X T) W0 tt))
    (he : ∀ (s : Shared) (H : Hp) (C : Addr) (cl : List (Str × Addr)) (fp : List Addr), Cxt (CB X scope s H C cl fp) k → PE (CB X scope s H C cl fp) elt (tE (gx X T) W0 te))
    (hy : X.N[i]? = some y := by rfl) (hyl : X.env.scope.names.lookup y = some .local := by rfl) (hsw : swapsWith (.ListComp elt [⟨tg, it, ifs, 0⟩] scope pos) (some (.Name y py)) spos.line X.env = pure true := by rfl)
    (hs : ∀ i ∈ t.slots, i ∈ vs := by decide) (hv : own.map (·.2) = vs := by rfl) (hf : ∀ x, foldedSetIterable it X.env x = pure x := by intro _; rfl) : PSm X T E (.Assign [.Name y py] (.ListComp elt [⟨tg, it, ifs, 0⟩] scope pos) spos) (mAsg (mComp vs t tt te mt mi) (gNm i)) := by
  subst hv
  exact sm_comp c.calm c.nd hy hyl hsw hi ok hs (fun s H C cl fp => hg s H C cl fp c.blk) (fun s H C cl fp => ht s H C cl fp c.blk) (fun s H C cl fp => he s H C cl fp c.blk) hf
theorem cgN {K : PySem.W.Frag} (c : Cxt X k) {i : Nat} {x : Str} (hi : X.N[i]? = some x := by rfl) (hx : Loc X.env.scope x := by first | exact .inl rfl | exact .inr rfl) (hf : X.fn x = true ∨ X.env.scope.names.lookup x = some .local := by first | exact .inl rfl | exact .inr rfl) : PG X (.Name x pos) (gOf K (.nm i)) := pg_name c.nd hi hx hf
theorem cgs0 {K : PySem.W.Frag} : PGs X [] (gsOf K .nil) := pgs_nil
theorem cgs1 {K : PySem.W.Frag} {t : CT} {l : CTs} (h1 : PG X tg (gOf K t)) (h2 : PGs X tgs (gsOf K l)) (hs : (assignEach (tg :: tgs) X.env).map (·.2) = assign tg X.env :: (assignEach tgs X.env).map (·.2) := by rfl) : PGs X (tg :: tgs) (gsOf K (.cons t l)) := pgs_cons h1 h2 hs
theorem cgT (c : Cxt X k) {j : Nat} {l : CTs} (h : PGs X tgs (gsOf X.K l)) (hn : (assignEach tgs X.env).length = l.len := by rfl) (hst : (assignEach tgs X.env).findIdx? (·.1) = none := by rfl) : PG X (.Tuple tgs j pos) (gOf X.K (.tp l)) := pg_tup c.calm h hn hst
/-! blocks -/
def blkB (N : List Str) (sc scope : Scope) (own : List (Str × Nat)) : Bool :=
  (match scope.kind with
    | .function => true
    | _ => false) && scope.names.all (fun y => decide (scope.names.lookup y.1 = some y.2)) && own.all (fun p => decide (N[p.2]? = some p.1)) &&
  scope.names.all (fun y => decide (y.2 = .free → sc.names.lookup y.1 = some .cell ∨ sc.names.lookup y.1 = some .free)) &&
  scope.names.all (fun y => decide (y.2 = .local ∨ y.2 = .cell → y.1 ∈ own.map (·.1) ∨ y.1 ∉ N))
theorem blk_mk {N : List Str} {sc scope : Scope} {own : List (Str × Nat)} (h : blkB N sc scope own = true) : BlkOk N sc scope own := by
  unfold blkB at h
  simp only [Bool.and_eq_true, List.all_eq_true, decide_eq_true_eq] at h
  obtain ⟨⟨⟨⟨h1, h2⟩, h3⟩, h4⟩, h5⟩ := h
  refine ⟨?_, h2, h3, h4, h5⟩
  cases e : scope.kind <;> rw [e] at h1 <;> first | rfl | cases h1
/-! -x -/
def opNeg : D → M D
  | .int i => pure (.int (-i))
  | _ => M.bad
def mNeg (m : SD → M D) : SD → M D := fun s => m s >>= opNeg
theorem oNeg {m : SD → M D} (h : PEm X T W e m) : PEm X T W (.UnaryOp .USub e pos) (mNeg m) :=
  weakE (pe_un un_neg h) fun σ H Q h => tG_then (tG_bind (R := RV (gx X T)) (k := fun _ d => opNeg d) h) fun v H1 ⟨ρ1, hd1, sd1, d, ⟨r, _, q⟩, h1⟩ => by
    cases d <;> first | exact h1.elim | skip
    cases q
    exact ⟨_, rfl, ans r (.int _) h1⟩
/-! more methods -/
theorem mInsert {ml : SD → M (List D)} {mo : SD → M D} {apos cpos : Pos} (ho : PEm X T W o mo) (ha : PAm X T W (e :: es) ml) (hbase : attributeBase o "insert" X.env (eval o X.env) = eval o X.env := by rfl)
    (hfew : ((backTo cpos (starEach (e :: es) X.env)).all (fun x => !x.1) && (backToKw cpos (keywordEach [] X.env)).all (fun x => x.1.isSome) && decide ((e :: es).length + ([] : List Keyword).length + (if ([] : List Keyword).isEmpty then 0 else 1) < 30)) = true := by rfl)
    (hline : (apos.endLine == cpos.line) = true := by decide) (hs : starEach (e :: es) X.env = (false, eval e X.env) :: starEach es X.env := by rfl) (hplain : (backTo cpos (starEach es X.env)).any (·.1) = false := by rfl) : PEm X T W (.Call (.Attribute o "insert" apos) (e :: es) [] cpos) (mMeth .list fInsert mo ml) :=
  em_bm (t := .list) PySem.F.plainAttrs_list PySem.F.slot_list_insert PySem.F.type_list_insert mt_insert m_insert ho ha hbase hfew hline hs hplain
theorem mIndex {ml : SD → M (List D)} {mo : SD → M D} {apos cpos : Pos} (c : Cxt X k) (ho : PEm X T W o mo) (ha : PAm X T W (e :: es) ml) (hbase : attributeBase o "index" X.env (eval o X.env) = eval o X.env := by rfl)
    (hfew : ((backTo cpos (starEach (e :: es) X.env)).all (fun x => !x.1) && (backToKw cpos (keywordEach [] X.env)).all (fun x => x.1.isSome) && decide ((e :: es).length + ([] : List Keyword).length + (if ([] : List Keyword).isEmpty then 0 else 1) < 30)) = true := by rfl)
    (hline : (apos.endLine == cpos.line) = true := by decide) (hs : starEach (e :: es) X.env = (false, eval e X.env) :: starEach es X.env := by rfl) (hplain : (backTo cpos (starEach es X.env)).any (·.1) = false := by rfl) : PEm X T W (.Call (.Attribute o "index" apos) (e :: es) [] cpos) (mMeth .list fIndex mo ml) :=
  em_bm (t := .list) PySem.F.plainAttrs_list PySem.F.slot_list_index PySem.F.type_list_index (mt_indexD c.u65) m_index ho ha hbase hfew hline hs hplain
end
end Wy

set_option Elab.async false
set_option linter.all false
set_option maxRecDepth 100000
set_option maxHeartbeats 4000000
namespace Wy
open PySem PySem.Spec PyProof.Rows L2

/-! ### the law's own call: at the ground, where nothing is under way -/
section
variable {P : Program} {w : World} {K : PySem.W.Frag} {mg mb : Str → Option Value} {base : Heap} {T : Tb}
/-- a call's outcome, from the flow that its body leaves -/
theorem leave_def {X : Cx} {outer : List Env} {H : Hp} {s : Shared} {Q : VK} (hX : ∀ {σ' : L2.St} {H' : Hp} {s' : Shared}, Inv X [] σ' H' s' → s'.os = s.os ∧ AllBare s'.gens ∧ Un (frs outer) [] H H' s.heap s'.heap ∧ HOk P w H' s'.heap) {σ' : L2.St} {H' : Hp} {s' : Shared} {v : V} {u : Value} (J : Inv X [] σ' H' s') (rv : RelV v u) (q : Q v H') :
    CE outer P w H s Q u s' := let ⟨a, b, c, d⟩ := hX J; ⟨v, H', a, b, c, d, rv, q⟩
theorem fn_at {A : Around} {outer : List Env} {s : Shared} {H : Hp} {x : Str} {st : Stmt} {f : Addr} {fd : FuncData} {N ps : List Str} {k : Nat} {args : Args} {us : List Value} {vs : List V} {Q : VK} {E : XK} {m : SD → M Fl} (F : Fun K x x st f fd) (S : FnScope N ps (defScope st)) (bu : Bu mg)
    (hr : Room (k + 1) A) (e0 : Env0 P w K mg base A outer s H) (hb : BindsTo s fd args (ps.zip us)) (r : Vals vs us) (hl : vs.length = ps.length)
    (body : ∀ cdv : Value, Cxt (CO P w K mg base N x st f cdv A outer s H E) k → Takes (CO P w K mg base N x st f cdv A outer s H E) (WC E) →
      PassesOwn (model P w) (CO P w K mg base N x st f cdv A outer s H E).A (CO P w K mg base N x st f cdv A outer s H E).env (CO P w K mg base N x st f cdv A outer s H E).xe → PSsm (CO P w K mg base N x st f cdv A outer s H E) T E (defBody st) m)
    (hq : tS ⟨P, w, K, T⟩ E m { nx := fun _ H' => Q .non H', rt := Q } (L2.start N vs) H) : codeAny (model P w) A (.call (.ref f) args) (CR (L2.CX P w) outer P w H s Q E) s := by
  obtain ⟨oc, od, kV, doc, pm, an, cdv, ct, osl, rfl, lk, hcd⟩ := F.ex
  have grow : ∀ (b : Addr) (o : Obj), base.get? b = some o → s.heap.get? b = some o := fun b o e => (e0.bs b o e).1
  have KX := e0.mod.kin.keeps grow
  have kinds : ∀ y ∈ ps.zip us, (defScope st).names.lookup y.1 = some .local ∨ ((defScope st).names.lookup y.1 = some .cell ∧ ((cellsFrom (s.heap.objs.size + 1) (defScope st).names []).lookup y.1).isSome = true) := fun y hy =>
    (S.par y.1 (List.of_mem_zip (a := y.1) (b := y.2) hy).1).imp id fun q => ⟨q, PySem.W.cellsFrom_some _ _ _ (.inl q)⟩
  refine codeAny_call_function hr.depth (KX _ _ lk) rfl S.co S.gen rfl (PySem.W.codeRec_of KX hcd) (hb _ _ _ _ (wpAny_newFunctionEnv_cells S.kind kinds fun env he s1 x1 => ?_))
  subst he
  refine ⟨(e0.mod.nolimit.keeps grow).keeps x1.toInCall.keep, codeAny_func ?_⟩
  have walk := body cdv ⟨rfl, S.nd, hr.deeper _, bu⟩ (takes_of rfl rfl rfl rfl) (passes_of rfl)
  refine wpAny_mono (walk.run [] s1 (L2.start N vs) H _ (inv_start S hr.hd e0 hl r x1) hq) (fun fl s' h => ?_) fun _ _ h => h
  have last : ∀ {σ' : L2.St} {H' : Hp} {v : V} {u : Value}, Inv (CO P w K mg base N x st f cdv A outer s H E) [] σ' H' s' → RelV v u → Q v H' → CE outer P w H s Q u s' := fun J rv q => leave_def (fun J => ⟨J.os, J.bare, J.base, J.hok⟩) J rv q
  match fl, h with
  | .next, h => obtain ⟨_, _, J, q⟩ := h; exact last (v := V.non) (u := Value.none) J rfl q
  | .ret u, h => obtain ⟨v, _, _, J, rv, q⟩ := h; exact last J rv q
  | .brk, h => obtain ⟨_, _, _, q⟩ := h; exact q.elim
  | .cont, h => obtain ⟨_, _, _, q⟩ := h; exact q.elim
/-- nothing is tracked but the script, and it stays -/
def Scr (H : Hp) (a : Addr) (o : Obj) (ns : List Int) : Prop := (∀ b, b ≠ a → H b = none) ∧ (H a = none ∨ H a = some (.frz o (.lst (ns.map V.int))))
/-- the ground as a call's surroundings -/
theorem ground_env {s : Shared} {H : Hp} {a : Addr} {o : Obj} {ns : List Int} (KX : K.In s.heap) (hns : s.heap.Ns mainGlobals mg) (hb : s.heap.Ns builtinsNs mb) (hbb : ∀ x : Str, x ≠ "__name__" → mb x = bootBuiltins x) (hlim : s.heap.NoLimit) (hg : s.gens = #[])
    (ha : s.heap.get? a = some o) (hod : ∀ es ep, o.data ≠ .dict es ep) (hS : Scr H a o ns) (hK : H a ≠ none → K.lookup a = none) (hok : HOk P w H s.heap) :
    K.In (hidT s.heap H) ∧ (hidT s.heap H).Ns mainGlobals mg ∧ Env0 P w K mg (hidT s.heap H) callerA [] s H := by
  have only : ∀ b, H b ≠ none → b = a := fun b hb => Classical.byContradiction fun n => hb (hS.1 b n)
  have stay : ∀ {b : Addr} {ob : Obj}, s.heap.get? b = some ob → (b = a → H a = none) → (hidT s.heap H).get? b = some ob := fun {b ob} e n => hidT_get e (Classical.byContradiction fun z => by
    obtain rfl := only b z
    exact z (n rfl))
  have names : ∀ {b : Addr} {m : Str → Option Value}, s.heap.Ns b m → (hidT s.heap H).Ns b m := fun {b m} ⟨ob, es, ep, e, d, r⟩ => ⟨ob, es, ep, stay e (fun z => by
    subst z
    rw [ha] at e; cases e
    exact absurd d (hod es ep)), d, r⟩
  have KB : K.In (hidT s.heap H) := fun b ob e => stay (KX b ob e) fun z => Classical.byContradiction fun n => by
    subst z
    rw [hK n] at e; cases e
  refine ⟨KB, names hns, rfl, ⟨KB, names hns, ⟨mb, names hb, hbb⟩, hlim.imp fun mc h => ⟨names h.1, h.2⟩⟩, fun b ob e => of_hidT e, Nat.le_of_eq (hidT_size _ _), trivial, fun b hb => (List.not_mem_nil hb).elim, hok, .of_eq hg⟩
/-- what the law's call leaves -/
theorem ground_end {s s' : Shared} {H : Hp} {a : Addr} {o : Obj} {ns : List Int} {r : Result} (hS : Scr H a o ns) (hok : HOk P w H s.heap) (h : CR (L2.CX P w) [] P w H s (fun v _ => v = .bl true) (fun _ _ _ => False) r s') : r = .ok (.ret (.bool true)) ∧ OldK s.heap s'.heap ∧ s'.os = s.os ∧ AllBare s'.gens := by
  match r, h with
  | .error e, h => obtain ⟨_, _, _, _, _, _, _, _, _, _, _, _, h⟩ := h; exact h.elim
  | .ok .next, h => exact h.elim
  | .ok .brk, h => exact h.elim
  | .ok .cont, h => exact h.elim
  | .ok (.ret u), h =>
    obtain ⟨v, H', os, bare, un, hok', rv, q⟩ := h
    obtain rfl : v = .bl true := q
    obtain rfl : u = Value.bool true := rv
    refine ⟨rfl, OldK.of_keep fun b ob e => ?_, os, bare⟩
    by_cases hb : H b = none
    · exact un.keep b ob e hb (List.not_mem_nil) (List.not_mem_nil)
    · have : b = a := Classical.byContradiction fun n => hb (hS.1 b n)
      subst this
      rcases hS.2 with z | z
      · exact absurd z hb
      · have e1 := (hok b _ z).1
        rw [e] at e1; cases e1
        exact (hok' b _ (un.frzs b _ _ z)).1
end
end Wy
namespace Wy
open PySem PySem.Spec PyProof.Rows L2
theorem rep_nil {G : Gx} {H : Hp} : Rep G ⟨[], []⟩ [] H := ⟨rfl, List.nodup_nil, fun a h => (List.not_mem_nil h).elim, fun n a o h => by simp at h⟩
theorem rvs_ints {G : Gx} {ρ : Rg} {H : Hp} : ∀ ns : List Int, RVs G ρ H (ns.map .int) (ns.map V.int)
  | [] => .nil
  | i :: r => .cons (.int i) (rvs_ints r)
/-- THE HEAD of a law: k_head's goal from the walk of the law's def and the plain law -/
theorem walk_law {l : PySem.W.OpenLaw} {n k : Nat} {q : Program} {loose : List Str} {XP : (Str → Option Value) → Heap → Prop} {YP : World → Heap → Prop} {d : DefRec} {K : Params → PySem.W.Frag} {x lw : Str} {st : Stmt} {N : List Str} {m : SD → M Fl}
    (hn : l.most = some n) (hn2 : n ≤ sizeLine) (hdf : d.params.defaults = []) (hr : Room (k + 1) callerA) (hY : ∀ (w : World) (h : Heap), YP w h → (K w.params).In h) (S : FnScope N [x] (defScope st))
    (F : ∀ (w : World) (mg : Str → Option Value) (fa : Addr) (h : Heap), (K w.params).In h → h.Ns mainGlobals mg → mg d.name = some (.ref fa) →
      ∃ (fd : FuncData) (T : Tb), Fun (K w.params) lw lw st fa fd ∧ Bu mg ∧ (∀ (s : Shared) (u : Value), BindsTo s fd ⟨[u], []⟩ [(x, u)]) ∧
        ∀ base : Heap, (K w.params).In base → base.Ns mainGlobals mg → ∀ (cdv : Value) (A : Around) (outer : List Env) (s : Shared) (H : Hp) (E : XK), (CO l.prog w (K w.params) mg base N lw st fa cdv A outer s H E).A.guards = some [] → Cxt (CO l.prog w (K w.params) mg base N lw st fa cdv A outer s H E) k →
          Takes (CO l.prog w (K w.params) mg base N lw st fa cdv A outer s H E) (WC E) → PassesOwn (model l.prog w) (CO l.prog w (K w.params) mg base N lw st fa cdv A outer s H E).A (CO l.prog w (K w.params) mg base N lw st fa cdv A outer s H E).env (CO l.prog w (K w.params) mg base N lw st fa cdv A outer s H E).xe →
          PSsm (CO l.prog w (K w.params) mg base N lw st fa cdv A outer s H E) T E (defBody st) m)
    (plain : ∀ ns : List Int, ns.length ≤ n → (∀ z ∈ ns, Builtin.Int.intBits z ≤ 1048576) → ∃ hd, den true N.length m [.rl (ns.map .int)] [] = .ok (.bl true) hd) : PySem.W.WalkO q loose XP YP l.row.toRowW d [] (fun f vs => PySem.call f vs) := by
  refine Att.attach_callB hn hdf fun w s₀ s₁ mg mb fa o pm cd doc a vs ns G Y ho hd hcd hmg hobj hints hlen hbits hg => ?_
  have KX := hY w _ Y
  obtain ⟨fd, T, Fn, bu, hb, hF⟩ := F w mg fa _ KX G.T.g hmg
  have rv := vals_ints hints
  obtain ⟨hde, pl⟩ := plain ns hlen hbits
  have core : ∀ H : Hp, Scr H a { cls := .type "list", data := .seq vs.toArray } ns → (H a ≠ none → (K w.params).lookup a = none) → HOk l.prog w H s₁.heap → (∀ ρ : Rg, ρ = ⟨[], []⟩ → Ro (K w.params) ρ H a (ns.map V.int)) →
      codeAny (model l.prog w) callerA (.call (.ref fa) ⟨[.ref a], []⟩) (fun r s' => r = .ok (.ret (.bool true)) ∧ OldK s₁.heap s'.heap ∧ s'.os = s₁.os ∧ AllBare s'.gens) s₁ := fun H hS hK hok ro => by
    obtain ⟨kb, nb, e0⟩ := ground_env (P := l.prog) (w := w) KX G.T.g G.T.b G.T.builtins G.T.nolimit hg hobj (fun es ep z => by cases z) hS hK hok
    have sp : spOf ⟨l.prog, w, K w.params, T⟩ 1 (den true N.length m) [V.ref a] H (fun v _ => v = .bl true) (fun _ _ _ => False) := ⟨⟨[], []⟩, [], [.rl (ns.map .int)], rep_nil, .cons (.rl (ro _ rfl) (rvs_ints ns)) .nil, rfl, by
      rw [pl]
      intro ρ' H' b _ _ rb
      cases rb
      rfl⟩
    exact codeAny_mono (fn_at (vs := [V.ref a]) (us := [.ref a]) (ps := [x]) Fn S bu hr e0 (hb s₁ (.ref a)) (.cons rfl .nil) rfl (fun cdv c tk hp => hF _ kb nb cdv callerA [] s₁ H _ rfl c tk hp)
      (den_body (X := CO l.prog w (K w.params) mg (hidT s₁.heap H) N lw st fa .none callerA [] s₁ H (fun _ _ _ => False)) rfl sp)) fun r s' h => ground_end hS hok h
  cases hk : (K w.params).lookup a with
  | some ob =>
    have e := KX a ob hk
    rw [hobj] at e
    cases e
    refine core (fun _ => none) ⟨fun _ _ => rfl, .inl rfl⟩ (fun z => absurd rfl z) (fun b u z => by cases z) fun ρ _ => .inr fun H' => .inr ⟨_, vs.toArray, _, hk, rfl, rfl, rfl, ?_, by simpa using rv⟩
    rw [List.size_toArray, hints.length]
    exact Nat.le_trans hlen hn2
  | none =>
    have at_ : ∀ b, b ≠ a → (if b = a then some (HO.frz { cls := .type "list", data := .seq vs.toArray } (.lst (ns.map V.int))) else none) = none := fun b n => if_neg n
    refine core (fun b => if b = a then some (.frz { cls := .type "list", data := .seq vs.toArray } (.lst (ns.map V.int))) else none) ⟨at_, .inr (if_pos rfl)⟩ (fun _ => hk) (fun b u z => ?_) fun ρ e => .inl ⟨by subst e; exact ⟨List.not_mem_nil, List.not_mem_nil⟩, .inr ⟨_, if_pos rfl⟩⟩
    by_cases hb : b = a
    · subst hb
      have z' := (if_pos rfl).symm.trans z
      cases z'
      exact ⟨hobj, by rw [List.length_map]; exact Nat.le_trans hlen hn2, vs, _, rv, hobj⟩
    · have z' := (at_ b hb).symm.trans z
      cases z'
end Wy

set_option Elab.async false
set_option linter.all false
set_option maxRecDepth 100000
set_option maxHeartbeats 4000000
namespace Wy
open PySem PySem.Spec PyProof.Rows L2

/-! ### plain facts: data as values -/
mutual
def ofP : PyData → D
  | .none => .non
  | .bool b => .bl b
  | .int i => .int i
  | .str x => .str x
  | .list xs => .lv (ofPs xs)
  | .tuple xs => .tup (ofPs xs)
  | .dict _ => .non
def ofPs : List PyData → List D
  | [] => []
  | x :: xs => ofP x :: ofPs xs
end
theorem ofPs_map : ∀ l : List PyData, ofPs l = l.map ofP
  | [] => rfl
  | x :: xs => by simp [ofPs, ofPs_map xs]
/-- data of short numbers and good texts -/
def fineP : PyData → Bool
  | .none => true
  | .bool _ => true
  | .int i => decide (i.natAbs < 10 ^ 12)
  | .str x => PyData.strOk x
  | .list xs => fineAll xs
  | .tuple xs => fineAll xs
  | .dict _ => false
where fineAll : List PyData → Bool
  | [] => true
  | x :: xs => fineP x && fineAll xs
theorem fineAll_iff : ∀ {l : List PyData}, fineP.fineAll l = true ↔ ∀ p ∈ l, fineP p = true
  | [] => by simp [fineP.fineAll]
  | x :: xs => by simp [fineP.fineAll, fineAll_iff (l := xs)]
mutual
theorem toPG_ofP {r : Nat → Option (List PyData)} : ∀ p : PyData, p.canLay0 = true → toPG r (ofP p) = some p
  | .none, _ => rfl
  | .bool _, _ => rfl
  | .int _, _ => rfl
  | .str _, _ => rfl
  | .list xs, h => by simp only [ofP, toPG, toPGs_ofP xs (by simpa [PyData.canLay0] using h), Option.map_some]
  | .tuple xs, h => by simp only [ofP, toPG, toPGs_ofP xs (by simpa [PyData.canLay0] using h), Option.map_some]
  | .dict _, h => by simp [PyData.canLay0] at h
theorem toPGs_ofP {r : Nat → Option (List PyData)} : ∀ l : List PyData, PyData.canLayAll0 l = true → toPG.toPGs r (ofPs l) = some l
  | [], _ => rfl
  | x :: xs, h => by
    simp only [PyData.canLayAll0, Bool.and_eq_true] at h
    simp only [ofPs, toPG.toPGs, toPG_ofP x h.1, toPGs_ofP xs h.2]
end
mutual
theorem lay_fine : ∀ p : PyData, fineP p = true → p.canLay0 = true
  | .none, _ => rfl
  | .bool _, _ => rfl
  | .int _, _ => rfl
  | .str _, h => by simpa [PyData.canLay0, fineP] using h
  | .list xs, h => by simpa [PyData.canLay0] using lays_fine xs (by simpa [fineP] using h)
  | .tuple xs, h => by simpa [PyData.canLay0] using lays_fine xs (by simpa [fineP] using h)
  | .dict _, h => by simp [fineP] at h
theorem lays_fine : ∀ l : List PyData, fineP.fineAll l = true → PyData.canLayAll0 l = true
  | [], _ => rfl
  | x :: xs, h => by
    simp only [fineP.fineAll, Bool.and_eq_true] at h
    simp only [PyData.canLayAll0, lay_fine x h.1, lays_fine xs h.2, Bool.and_self]
end
theorem log_small {n : Nat} (h : n < 10 ^ 12) : n.log2 < 1920 := by
  by_cases z : n = 0
  · subst z; decide
  · have := (Nat.log2_lt z (k := 1920)).mpr (Nat.lt_trans h (by decide +kernel))
    exact this
mutual
theorem show_fine : ∀ p : PyData, fineP p = true → p.showable = true ∧ p.intsShort 13 = true
  | .none, _ => ⟨rfl, rfl⟩
  | .bool _, _ => ⟨rfl, rfl⟩
  | .int i, h => by
    have h : i.natAbs < 10 ^ 12 := by simpa [fineP] using h
    exact ⟨by simp only [PyData.showable]; exact decide_eq_true (log_small h), by simp only [PyData.intsShort]; exact decide_eq_true (PyData.shown_int_le h)⟩
  | .str _, _ => ⟨rfl, rfl⟩
  | .list xs, h => by simpa [PyData.showable, PyData.intsShort] using shows_fine xs (by simpa [fineP] using h)
  | .tuple xs, h => by simpa [PyData.showable, PyData.intsShort] using shows_fine xs (by simpa [fineP] using h)
  | .dict _, h => by simp [fineP] at h
theorem shows_fine : ∀ l : List PyData, fineP.fineAll l = true → PyData.showableAll l = true ∧ PyData.intsShortAll 13 l = true
  | [], _ => ⟨rfl, rfl⟩
  | x :: xs, h => by
    simp only [fineP.fineAll, Bool.and_eq_true] at h
    simp only [PyData.showableAll, PyData.intsShortAll, show_fine x h.1, shows_fine xs h.2, Bool.and_self, and_self]
end

/-! ### what is shown is a good text -/
def cpOk (l : List Nat) : Prop := ∀ c ∈ l, c < 0x110000
theorem okS_iff {x : Str} : PyData.strOk x = true ↔ cpOk x.cps.toList := by
  unfold PyData.strOk cpOk
  rw [← Array.all_toList, List.all_eq_true]
  simp
theorem cps_app (x y : Str) : (x ++ y).cps.toList = x.cps.toList ++ y.cps.toList := by
  show (x.cps ++ y.cps).toList = _
  simp
theorem ok_app {x y : Str} (h : PyData.strOk x = true) (h' : PyData.strOk y = true) : PyData.strOk (x ++ y) = true := by
  rw [okS_iff, cps_app]
  intro c hc
  rcases List.mem_append.mp hc with hc | hc
  · exact okS_iff.mp h c hc
  · exact okS_iff.mp h' c hc
theorem char_ok (c : Char) : c.toNat < 0x110000 := by
  have := c.valid
  rcases this with h | h
  · exact Nat.lt_trans h (by decide)
  · exact h.2
theorem ok_of (s : String) : PyData.strOk (Str.ofString s) = true := by
  rw [okS_iff]
  intro c hc
  rw [Str.ofString_eq_toList] at hc
  obtain ⟨ch, _, rfl⟩ := List.mem_map.mp (by simpa only [List.toList_toArray] using hc)
  exact char_ok ch
theorem reprChar_ok {q c : Nat} (hc : c < 0x110000) (hq : q < 0x110000) : cpOk (Builtin.Str.reprChar q c) := by
  have hex : ∀ w, cpOk (List.replicate (w - (Nat.toDigits 16 c).length) 48 ++ (Nat.toDigits 16 c).map Char.toNat) := fun w x hx => by
    rcases List.mem_append.mp hx with hx | hx
    · rw [List.eq_of_mem_replicate hx]; decide
    · obtain ⟨ch, _, rfl⟩ := List.mem_map.mp hx
      exact char_ok ch
  have two : ∀ a b, a < 0x110000 → b < 0x110000 → cpOk [a, b] := fun a b ha hb x hx => by
    simp at hx
    rcases hx with rfl | rfl <;> assumption
  unfold Builtin.Str.reprChar
  dsimp only
  have join : ∀ {l m : List Nat}, cpOk l → cpOk m → cpOk (l ++ m) := fun hl hm x hx => (List.mem_append.mp hx).elim (hl x) (hm x)
  have hex' : ∀ w, cpOk (List.replicate (w - ((Nat.toDigits 16 c).map Char.toNat).length) 48 ++ (Nat.toDigits 16 c).map Char.toNat) := fun w => by rw [List.length_map]; exact hex w
  split
  · exact two _ _ (by decide) hc
  split
  · exact two _ _ (by decide) (by decide)
  split
  · exact two _ _ (by decide) (by decide)
  split
  · exact two _ _ (by decide) (by decide)
  split
  · intro x hx; simp at hx; subst hx; exact hc
  split
  · exact join (two _ _ (by decide) (by decide)) (hex' 2)
  split
  · exact join (two _ _ (by decide) (by decide)) (hex' 4)
  · exact join (two _ _ (by decide) (by decide)) (hex' 8)
theorem fold_ok {q : Nat} (hq : q < 0x110000) : ∀ (l : List Nat) (acc : Array Nat), cpOk l → cpOk acc.toList → cpOk (l.foldl (fun out c => out ++ (Builtin.Str.reprChar q c).toArray) acc).toList
  | [], acc, _, h => h
  | c :: l, acc, hl, h => fold_ok hq l _ (fun x hx => hl x (List.mem_cons_of_mem _ hx)) (by
    intro x hx
    simp at hx
    rcases hx with hx | hx
    · exact h x (by simpa using hx)
    · exact reprChar_ok (hl c (by simp)) hq x hx)
theorem reprText_ok {x : Str} (h : PyData.strOk x = true) : PyData.strOk (reprText x) = true := by
  have hq : reprQuote x < 0x110000 := by
    unfold reprQuote
    split <;> decide
  rw [okS_iff]
  unfold reprText
  intro c hc
  simp only [Array.toList_push, List.mem_append, List.mem_singleton] at hc
  rcases hc with hc | hc
  · refine fold_ok hq x.cps.toList #[reprQuote x] (okS_iff.mp h) ?_ c (by rw [← Array.foldl_toList] at hc; exact hc)
    intro y hy
    simp at hy
    subst hy
    exact hq
  · subst hc; exact hq
theorem textFrom_ok : ∀ (ts : List Str) (k : Nat) (acc : Str), (∀ t ∈ ts, PyData.strOk t = true) → PyData.strOk acc = true → PyData.strOk (textFrom k acc ts) = true
  | [], k, acc, _, h => h
  | t :: r, k, acc, ht, h => by
    unfold textFrom
    exact textFrom_ok r (k + 1) _ (fun x hx => ht x (List.mem_cons_of_mem _ hx)) (ok_app (ok_app h (by split <;> exact ok_of _)) (ht t (by simp)))
theorem join_ok {sep : Str} (hs : PyData.strOk sep = true) : ∀ ts : List Str, (∀ t ∈ ts, PyData.strOk t = true) → PyData.strOk (Str.join sep ts) = true
  | [], _ => ok_of ""
  | [x], h => h x (by simp)
  | x :: y :: r, h => by
    show PyData.strOk (x ++ sep ++ Str.join sep (y :: r)) = true
    exact ok_app (ok_app (h x (by simp)) hs) (join_ok hs (y :: r) fun t ht => h t (List.mem_cons_of_mem _ ht))
mutual
theorem shown_ok : ∀ p : PyData, p.canLay0 = true → PyData.strOk p.shown = true
  | .none, _ => by simp only [PyData.shown]; exact ok_of _
  | .bool b, _ => by simp only [PyData.shown]; split <;> exact ok_of _
  | .int i, _ => by simp only [PyData.shown]; exact ok_of _
  | .str x, h => by simp only [PyData.shown]; exact reprText_ok (by simpa [PyData.canLay0] using h)
  | .list xs, h => by
    simp only [PyData.shown, listText]
    exact ok_app (textFrom_ok _ _ _ (showns_ok xs (by simpa [PyData.canLay0] using h)) (ok_of _)) (ok_of _)
  | .tuple xs, h => by
    simp only [PyData.shown, tupleText]
    exact ok_app (ok_app (ok_of _) (join_ok (ok_of _) _ (showns_ok xs (by simpa [PyData.canLay0] using h)))) (by split <;> exact ok_of _)
  | .dict _, h => by simp [PyData.canLay0] at h
theorem showns_ok : ∀ l : List PyData, PyData.canLayAll0 l = true → ∀ t ∈ PyData.shownAll l, PyData.strOk t = true
  | [], _, t, ht => by simp [PyData.shownAll] at ht
  | x :: xs, h, t, ht => by
    simp only [PyData.canLayAll0, Bool.and_eq_true] at h
    simp only [PyData.shownAll, List.mem_cons] at ht
    rcases ht with rfl | ht
    · exact shown_ok x h.1
    · exact showns_ok xs h.2 t ht
end
theorem repr1_ok {d : D} {h : DH} {p : PyData} (e : toP h d = some p) (f : fineP p = true) (hd : p.depth ≤ 64) (hw : p.weight ≤ 2 ^ 20) : repr1 d h = .ok (.str p.shown) h := by
  unfold repr1
  rw [e]
  obtain ⟨h1, h2⟩ := show_fine p f
  have h3 := lay_fine p f
  simp only [h1, hd, PyData.shown_fits (by decide) (by decide) (PyData.leavesShort_of_canLay0 13 p h3 h2) hw, shown_ok p h3, and_self, if_true]
end Wy

set_option Elab.async false
set_option linter.all false
set_option maxRecDepth 100000
set_option maxHeartbeats 4000000
namespace Wy
open PySem PySem.Spec PyProof.Rows L2

/-! ### keys and == -/
def keyP : PyData → NestedKey
  | .none => .none
  | .bool b => .num (if b then 1 else 0)
  | .int i => .num i
  | .str x => .text x
  | .tuple xs => .tup (keyPs xs)
  | .list _ => .none
  | .dict _ => .none
where keyPs : List PyData → List NestedKey
  | [] => []
  | x :: xs => keyP x :: keyPs xs
/-- data that may be keys: no lists, no dicts -/
def hashP : PyData → Bool
  | .list _ => false
  | .dict _ => false
  | .tuple xs => hashPs xs
  | _ => true
where hashPs : List PyData → Bool
  | [] => true
  | x :: xs => hashP x && hashPs xs
mutual
theorem toK_ofP : ∀ p : PyData, hashP p = true → toK (ofP p) = some (keyP p)
  | .none, _ => rfl
  | .bool _, _ => rfl
  | .int _, _ => rfl
  | .str _, _ => rfl
  | .list _, h => by simp [hashP] at h
  | .dict _, h => by simp [hashP] at h
  | .tuple xs, h => by simp only [ofP, toK, toKs_ofP xs (by simpa [hashP] using h), Option.map_some, keyP]
theorem toKs_ofP : ∀ l : List PyData, hashP.hashPs l = true → toK.toKs (ofPs l) = some (keyP.keyPs l)
  | [], _ => rfl
  | x :: xs, h => by
    simp only [hashP.hashPs, Bool.and_eq_true] at h
    simp only [ofPs, toK.toKs, toK_ofP x h.1, toKs_ofP xs h.2, keyP.keyPs]
end
mutual
theorem key_eqv : ∀ p q : PyData, hashP p = true → hashP q = true → (keyP p = keyP q ↔ PyData.eqv p q = true)
  | .none, q, _, hq => by cases q <;> simp_all [keyP, PyData.eqv, hashP]
  | .bool a, q, _, hq => by cases q <;> simp_all [keyP, PyData.eqv, hashP] <;> (try cases a) <;> (try rename_i b; cases b) <;> simp
  | .int a, q, _, hq => by cases q <;> simp_all [keyP, PyData.eqv, hashP]
  | .str a, q, _, hq => by cases q <;> simp_all [keyP, PyData.eqv, hashP]
  | .list _, q, h, _ => by simp [hashP] at h
  | .dict _, q, h, _ => by simp [hashP] at h
  | .tuple xs, q, h, hq => by
    cases q with
    | tuple ys => simp only [keyP, PyData.eqv, NestedKey.tup.injEq, keys_eqv xs ys (by simpa [hashP] using h) (by simpa [hashP] using hq)]
    | _ => simp_all [keyP, PyData.eqv, hashP]
theorem keys_eqv : ∀ xs ys : List PyData, hashP.hashPs xs = true → hashP.hashPs ys = true → (keyP.keyPs xs = keyP.keyPs ys ↔ PyData.eqvAll xs ys = true)
  | [], ys, _, _ => by cases ys <;> simp [keyP.keyPs, PyData.eqvAll]
  | x :: xs, ys, h, hq => by
    cases ys with
    | nil => simp [keyP.keyPs, PyData.eqvAll]
    | cons y ys =>
      simp only [hashP.hashPs, Bool.and_eq_true] at h hq
      simp only [keyP.keyPs, PyData.eqvAll, List.cons.injEq, Bool.and_eq_true, key_eqv x y h.1 hq.1, keys_eqv xs ys h.2 hq.2]
end
mutual
theorem key_depth : ∀ p : PyData, hashP p = true → (keyP p).depth = p.depth
  | .none, _ | .bool _, _ | .int _, _ | .str _, _ => by simp [keyP, NestedKey.depth, PyData.depth]
  | .list _, h => by simp [hashP] at h
  | .dict _, h => by simp [hashP] at h
  | .tuple xs, h => by simp only [keyP, NestedKey.depth, PyData.depth, keys_depth xs (by simpa [hashP] using h)]
theorem keys_depth : ∀ l : List PyData, hashP.hashPs l = true → NestedKey.depthAll (keyP.keyPs l) = PyData.depthAll l
  | [], _ => by simp [keyP.keyPs, NestedKey.depthAll, PyData.depthAll]
  | x :: xs, h => by
    simp only [hashP.hashPs, Bool.and_eq_true] at h
    simp only [keyP.keyPs, NestedKey.depthAll, PyData.depthAll, key_depth x h.1, keys_depth xs h.2]
end
/-! ### the first equal one -/
theorem fstEq_append {q o : PyData} : ∀ {pre : List PyData}, fstEq q (pre ++ [o]) = match fstEq q pre with
    | some i => some i
    | none => if PyData.eqv o q = true then some pre.length else none
  | [] => by
    simp only [List.nil_append, fstEq]
    split <;> simp_all
  | p :: pre => by
    simp only [List.cons_append, fstEq, fstEq_append (pre := pre)]
    by_cases c : PyData.eqv p q = true
    · simp [c]
    · simp only [c]
      cases fstEq q pre with
      | some i => simp
      | none => by_cases c2 : PyData.eqv o q = true <;> simp [c2]
theorem fstEq_any {q : PyData} : ∀ {l : List PyData}, (fstEq q l).isSome = l.any fun z => PyData.eqv z q
  | [] => rfl
  | p :: l => by
    simp only [fstEq, List.any_cons]
    by_cases c : PyData.eqv p q = true
    · simp [c]
    · simp [c, fstEq_any (l := l)]
theorem fstEq_lt {q : PyData} : ∀ {l : List PyData} {i : Nat}, fstEq q l = some i → i < l.length
  | [], i, h => by cases h
  | p :: l, i, h => by
    unfold fstEq at h
    by_cases c : PyData.eqv p q = true
    · rw [if_pos c] at h; cases h; simp
    · rw [if_neg c] at h
      obtain ⟨j, h1, rfl⟩ := Option.map_eq_some_iff.mp h
      have := fstEq_lt h1
      simp; omega
/-! ### loops -/
section
variable {g : D → SD → M SD} {body : SD → M Fl} {chk : DH → Bool} {I : List D → SD → DH → Prop} {R : D → DH → Prop}
/-- a loop by what holds ahead of the rest of the things -/
theorem loop_run (stop : ∀ s h, I [] s h → chk h = true) (step : ∀ d ds s h, I (d :: ds) s h → chk h = true ∧ ∃ s1 h1, g d s h = .ok s1 h1 ∧
      ((∃ s2 h2, (body s1 h1 = .ok (.nx s2) h2 ∨ body s1 h1 = .ok (.ct s2) h2) ∧ I ds s2 h2) ∨ ∃ v h2, body s1 h1 = .ok (.rt v) h2 ∧ R v h2)) :
    ∀ ds s h, I ds s h → (∃ s' h', loopM g body chk ds s h = .ok (.nx s') h' ∧ I [] s' h') ∨ ∃ v h', loopM g body chk ds s h = .ok (.rt v) h' ∧ R v h'
  | [], s, h, i => .inl ⟨s, h, by unfold loopM; rw [if_pos (stop s h i)], i⟩
  | d :: ds, s, h, i => by
    obtain ⟨c, s1, h1, e1, q⟩ := step d ds s h i
    unfold loopM
    rw [if_pos c, e1]
    dsimp only
    rcases q with ⟨s2, h2, e2 | e2, i2⟩ | ⟨v, h2, e2, r⟩
    · rw [e2]; exact loop_run stop step ds s2 h2 i2
    · rw [e2]; exact loop_run stop step ds s2 h2 i2
    · rw [e2]; exact .inr ⟨v, h2, rfl, r⟩
theorem loop_all (stop : ∀ s h, I [] s h → chk h = true) (step : ∀ d ds s h, I (d :: ds) s h → chk h = true ∧ ∃ s1 h1, g d s h = .ok s1 h1 ∧ ∃ s2 h2, body s1 h1 = .ok (.nx s2) h2 ∧ I ds s2 h2) (ds : List D) (s : SD) (h : DH) (i : I ds s h) :
    ∃ s' h', loopM g body chk ds s h = .ok (.nx s') h' ∧ I [] s' h' := by
  rcases loop_run (R := fun _ _ => False) stop (fun d ds s h i => by
    obtain ⟨c, s1, h1, e1, s2, h2, e2, i2⟩ := step d ds s h i
    exact ⟨c, s1, h1, e1, .inl ⟨s2, h2, .inl e2, i2⟩⟩) ds s h i with q | ⟨_, _, _, q⟩
  · exact q
  · exact q.elim
end
/-! ### defs -/
/-- all objects hold values that name no object -/
def Pur (h : DH) : Prop := ∀ o ∈ h, ∀ n, Ob.under n o = true
theorem Pur.all {h : DH} (p : Pur h) {n : Nat} : (h.all (Ob.under n)) = true := List.all_eq_true.mpr fun o ho => p o ho n
theorem pur_nil : Pur [] := fun o h => (List.not_mem_nil h).elim
theorem Pur.app {h g : DH} (a : Pur h) (b : Pur g) : Pur (h ++ g) := fun o ho => (List.mem_append.mp ho).elim (a o) (b o)
theorem Pur.set {h : DH} (a : Pur h) {n : Nat} {o : Ob} (b : ∀ n, Ob.under n o = true) : Pur (h.set n o) := fun o' ho => by
  rcases List.mem_or_eq_of_mem_set ho with h1 | rfl
  · exact a o' h1
  · exact b
theorem den_val {z : Bool} {n : Nat} {m : SD → M Fl} {ds : List D} {h h' : DH} {d d' : D} (e : m (slots0 n ds) h = .ok (.rt d) h') (p : Pur (h'.take h.length)) (l : h.length ≤ h'.length) (o : out z h' h.length d = some d') : den z n m ds h = .ok d' (h'.take h.length) := by
  unfold den cutZ
  rw [bind_ap, e]
  dsimp only [endF, pure_ap]
  rw [if_pos ⟨p.all, l⟩, o]
theorem den_none {z : Bool} {n : Nat} {m : SD → M Fl} {ds : List D} {h h' : DH} {s : SD} (e : m (slots0 n ds) h = .ok (.nx s) h') (p : Pur (h'.take h.length)) (l : h.length ≤ h'.length) : den z n m ds h = .ok .non (h'.take h.length) := by
  unfold den cutZ
  rw [bind_ap, e]
  dsimp only [endF, pure_ap]
  rw [if_pos ⟨p.all, l⟩]
  cases z <;> rfl
mutual
theorem frz_pur {r : Nat → Option D} : ∀ p : PyData, frzG r (ofP p) = some (ofP p)
  | .none | .bool _ | .int _ | .str _ | .dict _ => rfl
  | .list xs => by simp only [ofP, frzG, frzs_pur xs, Option.map_some]
  | .tuple xs => by simp only [ofP, frzG, frzs_pur xs, Option.map_some]
theorem frzs_pur {r : Nat → Option D} : ∀ l : List PyData, frzGs r (ofPs l) = some (ofPs l)
  | [] => rfl
  | x :: xs => by simp only [ofPs, frzGs, frz_pur x, frzs_pur xs]
end
mutual
theorem ofP_under {n : Nat} : ∀ p : PyData, (ofP p).under n = true
  | .none | .bool _ | .int _ | .str _ | .dict _ => by simp [ofP, D.under]
  | .list xs => by simp only [ofP, D.under, ofPs_under xs]
  | .tuple xs => by simp only [ofP, D.under, ofPs_under xs]
theorem ofPs_under {n : Nat} : ∀ l : List PyData, D.unders n (ofPs l) = true
  | [] => by simp [ofPs, D.unders]
  | x :: xs => by simp only [ofPs, D.unders, ofP_under x, ofPs_under xs, Bool.and_self]
end
theorem out_ofP {z : Bool} {h : DH} {n : Nat} (p : PyData) : out z h n (ofP p) = some (ofP p) := by
  unfold out
  cases z
  · rw [if_neg (by decide), if_pos (ofP_under p)]
  · rw [if_pos rfl, frz_pur]
/-- an own list is handed out -/
theorem out_lst {h g : DH} {l : List PyData} : out true (h ++ .lst (ofPs l) :: g) h.length (.ref h.length) = some (.lv (ofPs l)) := by
  unfold out
  rw [if_pos rfl]
  simp only [frzG, frz]
  rw [if_neg (Nat.lt_irrefl _), List.getElem?_append_right (Nat.le_refl _), Nat.sub_self]
  simp only [List.getElem?_cons_zero, frzs_pur, Option.map_some]
end Wy

set_option Elab.async false
set_option linter.all false
set_option maxRecDepth 100000
set_option maxHeartbeats 4000000
namespace Wy
open PySem PySem.Spec PyProof.Rows L2

/-! ### how the denotations run -/
/-- after a result -/
def Re.then {α β : Type} (r : Re α) (k : α → DH → Re β) : Re β := match r with
  | .ok a h => k a h
  | .ex C fs h => .ex C fs h
  | .bad => .bad
section
variable {α β : Type} {a : α} {h : DH} {k : α → DH → Re β} {s : SD} {m : SD → M D} {ml : SD → M (List D)} {t u : SD → M Bool} {f g : SD → M Fl}
@[simp] theorem then_ok : (Re.ok a h).then k = k a h := rfl
@[simp] theorem then_ex {C : Str} {fs : List (Str × D)} : (Re.ex C fs h : Re α).then k = .ex C fs h := rfl
@[simp] theorem then_bad : (Re.bad : Re α).then k = .bad := rfl
@[simp] theorem ev_bind {m : M α} {k : α → M β} : (m >>= k) h = (m h).then k := by
  rw [bind_ap]; cases m h <;> rfl
theorem bind_fun {m : M α} {k : α → M β} : (m >>= k) = fun h => (m h).then k := funext fun h => ev_bind
@[simp] theorem ev_seq : mSeq f g s h = (f s h).then fun x h' => match x with
    | .nx s' => g s' h'
    | x => .ok x h' := by
  unfold mSeq; rw [ev_bind]; cases f s h with
  | ok x h' => cases x <;> rfl
  | ex C fs h' => rfl
  | bad => rfl
@[simp] theorem ev_next : mNext s h = .ok (.nx s) h := rfl
@[simp] theorem ev_asg {g : D → SD → M SD} : mAsg m g s h = (m s h).then fun d h' => (g d s h').then fun s' h'' => .ok (.nx s') h'' := by
  unfold mAsg; simp only [bind_fun]; rfl
@[simp] theorem ev_expr : mExpr m s h = (m s h).then fun _ h' => .ok (.nx s) h' := by unfold mExpr; simp only [ev_bind]; rfl
@[simp] theorem ev_ret : mRet m s h = (m s h).then fun d h' => .ok (.rt d) h' := by unfold mRet; simp only [ev_bind]; rfl
@[simp] theorem ev_retN : mRetN s h = .ok (.rt .non) h := rfl
@[simp] theorem ev_brk : mBrk s h = .ok (.bk s) h := rfl
@[simp] theorem ev_cnt : mCnt s h = .ok (.ct s) h := rfl
@[simp] theorem ev_if : mIf t f g s h = (t s h).then fun b h' => if b = true then f s h' else g s h' := by
  unfold mIf; rw [ev_bind]; cases t s h with
  | ok b h' => cases b <;> rfl
  | ex C fs h' => rfl
  | bad => rfl
@[simp] theorem ev_ite {m k : SD → M α} : mIte t m k s h = (t s h).then fun b h' => if b = true then m s h' else k s h' := by
  unfold mIte; rw [ev_bind]; cases t s h with
  | ok b h' => cases b <;> rfl
  | ex C fs h' => rfl
  | bad => rfl
@[simp] theorem ev_c {d : D} : mC d s h = .ok d h := rfl
theorem ev_v {i : Nat} : mVar i s h = match s[i]? with
    | some (some d) => .ok d h
    | _ => .bad := by
  unfold mVar
  cases s[i]? with
  | none => rfl
  | some o => cases o <;> rfl
@[simp] theorem ev_v0 {d : D} {s : SD} : mVar 0 (some d :: s) h = .ok d h := rfl
@[simp] theorem ev_vS {i : Nat} {x : Option D} {s : SD} : mVar (i + 1) (x :: s) h = mVar i s h := by
  rw [ev_v, ev_v, List.getElem?_cons_succ]
@[simp] theorem ev_nil : mNil s h = .ok [] h := rfl
@[simp] theorem ev_cons : mCons m ml s h = (m s h).then fun d h1 => (ml s h1).then fun ds h2 => .ok (d :: ds) h2 := by unfold mCons; simp only [bind_fun]; rfl
@[simp] theorem ev_tup : mTup ml s h = (ml s h).then fun ds h' => .ok (.tup ds) h' := by unfold mTup; simp only [ev_bind]; rfl
@[simp] theorem ev_lst {mt : Bool} : mLst mt ml s h = (ml s h).then fun ds h' => mkL mt ds h' := by unfold mLst; simp only [ev_bind]
@[simp] theorem ev_m2 {o : D → D → M D} {ma mb : SD → M D} : m2 o ma mb s h = (ma s h).then fun d h1 => (mb s h1).then fun e h2 => o d e h2 := by unfold m2; simp only [bind_fun]
@[simp] theorem ev_test : mTest m s h = (m s h).then fun d h' => match d with
    | .bl b => .ok b h'
    | _ => .bad := by
  unfold mTest; rw [ev_bind]; cases m s h with
  | ok d h' => cases d <;> rfl
  | ex C fs h' => rfl
  | bad => rfl
@[simp] theorem ev_call {F : List D → M D} : mCall F ml s h = (ml s h).then fun ds h' => F ds h' := by unfold mCall; simp only [ev_bind]
@[simp] theorem ev_one {o : D → M D} {d : D} : one o [d] h = o d h := rfl
@[simp] theorem ev_two {o : D → D → M D} {d e : D} : two o [d, e] h = o d e h := rfl
@[simp] theorem ev_not : mNot t s h = (t s h).then fun b h' => .ok (!b) h' := by unfold mNot; simp only [ev_bind]; rfl
@[simp] theorem ev_andT : mAndT t u s h = (t s h).then fun b h' => if b = true then u s h' else .ok false h' := by
  unfold mAndT; rw [ev_bind]; cases t s h with
  | ok b h' => cases b <;> rfl
  | ex C fs h' => rfl
  | bad => rfl
@[simp] theorem ev_orT : mOrT t u s h = (t s h).then fun b h' => if b = true then .ok true h' else u s h' := by
  unfold mOrT; rw [ev_bind]; cases t s h with
  | ok b h' => cases b <;> rfl
  | ex C fs h' => rfl
  | bad => rfl
@[simp] theorem ev_andV {m k : SD → M D} : mAndV m k s h = (m s h).then fun d h' => match d with
    | .bl true => k s h'
    | .bl false => .ok (.bl false) h'
    | _ => .bad := by
  unfold mAndV; rw [ev_bind]; cases m s h with
  | ok d h' => cases d <;> first | rfl | (rename_i b; cases b <;> rfl)
  | ex C fs h' => rfl
  | bad => rfl
@[simp] theorem ev_orV {m k : SD → M D} : mOrV m k s h = (m s h).then fun d h' => match d with
    | .bl true => .ok (.bl true) h'
    | .bl false => k s h'
    | _ => .bad := by
  unfold mOrV; rw [ev_bind]; cases m s h with
  | ok d h' => cases d <;> first | rfl | (rename_i b; cases b <;> rfl)
  | ex C fs h' => rfl
  | bad => rfl
@[simp] theorem ev_notV : mNotV m s h = (m s h).then fun d h' => match d with
    | .bl b => .ok (.bl (!b)) h'
    | _ => .bad := by
  unfold mNotV; rw [ev_bind]; cases m s h with
  | ok d h' => cases d <;> rfl
  | ex C fs h' => rfl
  | bad => rfl
@[simp] theorem ev_truth : mTruth m s h = (m s h).then fun d h' => truM d h' := by unfold mTruth; simp only [ev_bind]
@[simp] theorem ev_gNm {i : Nat} {d : D} : gNm i d s h = .ok (s.set i (some d)) h := rfl
@[simp] theorem ev_gSb {mo mi : SD → M D} {o : D → D → D → M Unit} {v : D} : gSb mo mi o v s h = (mo s h).then fun x h1 => (mi s h1).then fun y h2 => match o x y v h2 with
    | .ok _ h3 => .ok s h3
    | _ => .bad := by
  unfold gSb quiet; simp only [bind_fun]
  congr 1; funext x h1; congr 1; funext y h2
  cases o x y v h2 <;> rfl
@[simp] theorem ev_gTp {n : Nat} {gs : List D → SD → M SD} {ds : List D} : gTp n gs (.tup ds) s h = if ds.length = n then gs ds s h else .bad := by
  unfold gTp; dsimp only; split <;> rfl
@[simp] theorem ev_gs0 : gsNil [] s h = .ok s h := rfl
@[simp] theorem ev_gs1 {g : D → SD → M SD} {gs : List D → SD → M SD} {d : D} {ds : List D} : gsCons g gs (d :: ds) s h = (g d s h).then fun s' h' => gs ds s' h' := by unfold gsCons; simp only [bind_fun]
@[simp] theorem ev_meth {ty : Ty} {o : D → List D → M D} {mo : SD → M D} : mMeth ty o mo ml s h = (mo s h).then fun d h1 => (tyM ty d h1).then fun _ h2 => (ml s h2).then fun ds h3 => o d ds h3 := by unfold mMeth; simp only [bind_fun]
@[simp] theorem ev_for {mi : SD → M Src} {g : D → SD → M SD} {b : SD → M Fl} : mFor mi g b s h = (mi s h).then fun x h' => loopM g b x.2 x.1 s h' := by unfold mFor; simp only [ev_bind]
@[simp] theorem ev_srcSeq : srcSeq m s h = (m s h).then fun d h' => seqSrc d h' := by unfold srcSeq; simp only [ev_bind]
@[simp] theorem ev_srcEnum : srcEnum ml s h = (ml s h).then fun ds h' => enumSrc ds h' := by unfold srcEnum; simp only [ev_bind]
@[simp] theorem ev_srcRng : srcRng ml s h = (ml s h).then fun ds h' => rngSrc ds h' := by unfold srcRng; simp only [ev_bind]
@[simp] theorem ev_sl {mt : Bool} {l u : Option (SD → M D)} : mSl mt m l u s h = (m s h).then fun d h1 => (mPart l s h1).then fun lo h2 => (mPart u s h2).then fun hi h3 => slM mt d lo hi h3 := by unfold mSl; simp only [bind_fun]
@[simp] theorem ev_part0 : mPart none s h = .ok none h := rfl
@[simp] theorem ev_part1 : mPart (some m) s h = (m s h).then fun d h' => match d with
    | .int i => .ok (some i) h'
    | _ => .bad := by
  unfold mPart; dsimp only; rw [ev_bind]; cases m s h with
  | ok d h' => cases d <;> rfl
  | ex C fs h' => rfl
  | bad => rfl
@[simp] theorem ev_neg : mNeg m s h = (m s h).then fun d h' => opNeg d h' := by unfold mNeg; simp only [ev_bind]
@[simp] theorem ev_dct {tk : Bool} : mDct tk s h = .ok (.ref h.length) (h ++ [.dct tk []]) := rfl
@[simp] theorem ev_comp {vs : List Nat} {ct : CT} {tt : SD → M Bool} {te : SD → M D} {mt : Bool} {mi : SD → M Src} : mComp vs ct tt te mt mi s h = (mi s h).then fun x h' => endL mt [] (compR ct tt te x.2 (wipeD s vs) x.1 h') := by unfold mComp; simp only [ev_bind]
end
@[simp] theorem lt_int' {i j : Int} {h : DH} : ordM .lt (.int i) (.int j) h = .ok (.bl (decide (i < j))) h := ordM_int _ _ _ _
@[simp] theorem gt_int' {i j : Int} {h : DH} : ordM .gt (.int i) (.int j) h = .ok (.bl (decide (j < i))) h := ordM_int _ _ _ _
@[simp] theorem le_int' {i j : Int} {h : DH} : ordM .le (.int i) (.int j) h = .ok (.bl (decide (i ≤ j))) h := ordM_int _ _ _ _
@[simp] theorem ge_int' {i j : Int} {h : DH} : ordM .ge (.int i) (.int j) h = .ok (.bl (decide (j ≤ i))) h := ordM_int _ _ _ _
@[simp] theorem add_int' {mt : Bool} {i j : Int} {h : DH} : opAdd mt (.int i) (.int j) h = .ok (.int (i + j)) h := rfl
@[simp] theorem sub_int' {i j : Int} {h : DH} : opSub (.int i) (.int j) h = .ok (.int (i - j)) h := rfl
theorem mul_int' {i j : Int} {h : DH} (c : CMul i j) : opMul (.int i) (.int j) h = .ok (.int (i * j)) h := by
  unfold opMul; dsimp only; rw [if_pos (.inl c)]; rfl
theorem mod_int' {i j : Int} {h : DH} (c : 0 < j) : opMod (.int i) (.int j) h = .ok (.int (i % j)) h := by
  unfold opMod; dsimp only; rw [if_pos c]; rfl
theorem fdiv_int' {i j : Int} {h : DH} (c : CDivW i j) : opFdiv (.int i) (.int j) h = .ok (.int (i / j)) h := by
  unfold opFdiv; dsimp only; rw [if_pos c]; rfl
theorem pow_int' {i j : Int} {h : DH} (c : CPow i j) : opPow (.int i) (.int j) h = .ok (.int (i ^ j.toNat)) h := by
  unfold opPow; dsimp only; rw [if_pos c]; rfl
theorem cdiv {i j : Int} (h : 0 < j) (h2 : j < 2 ^ 31) : CDivW i j := ⟨h, by
  have : j.natAbs < 2 ^ 31 := by omega
  by_cases z : j.natAbs = 0
  · rw [z]; decide
  · exact Nat.lt_trans ((Nat.log2_lt z).mpr this) (by decide)⟩
theorem cmul_l {i j : Int} (h : -(2 ^ 64) < i) (h2 : i < 2 ^ 64) : CMul i j := .inl ⟨h, h2⟩
theorem cmul_r {i j : Int} (h : -(2 ^ 64) < j) (h2 : j < 2 ^ 64) : CMul i j := .inr ⟨h, h2⟩
theorem toP_pur {h : DH} {p : PyData} (f : p.canLay0 = true) : toP h (ofP p) = some p := toPG_ofP p f
theorem eq_ofP {neg : Bool} {h : DH} {p q : PyData} (f : p.canLay0 = true) (g : q.canLay0 = true) (d : p.depth ≤ 64) (d' : q.depth ≤ 64) : eqM neg (ofP p) (ofP q) h = .ok (.bl (if neg then !PyData.eqv p q else PyData.eqv p q)) h := by
  unfold eqM
  rw [toP_pur f, toP_pur g]
  dsimp only
  rw [if_pos ⟨d, d'⟩]
@[simp] theorem eq_int' {neg : Bool} {i j : Int} {h : DH} : eqM neg (.int i) (.int j) h = .ok (.bl (if neg then !decide (i = j) else decide (i = j))) h := by
  have := eq_ofP (neg := neg) (h := h) (p := .int i) (q := .int j) rfl rfl (by simp [PyData.depth]) (by simp [PyData.depth])
  simpa [ofP, PyData.eqv, Bool.beq_eq_decide_eq] using this
theorem eq_str' {neg : Bool} {i j : Str} {h : DH} (a : PyData.strOk i = true) (b : PyData.strOk j = true) : eqM neg (.str i) (.str j) h = .ok (.bl (if neg then !decide (i = j) else decide (i = j))) h := by
  have := eq_ofP (neg := neg) (h := h) (p := .str i) (q := .str j) (by simpa [PyData.canLay0] using a) (by simpa [PyData.canLay0] using b) (by simp [PyData.depth]) (by simp [PyData.depth])
  simpa [ofP, PyData.eqv, Bool.beq_eq_decide_eq] using this
@[simp] theorem mul_r' {i j : Int} {h : DH} (a : -18446744073709551616 < j) (b : j < 18446744073709551616) : opMul (.int i) (.int j) h = .ok (.int (i * j)) h := mul_int' (cmul_r (by simpa using a) (by simpa using b))
@[simp] theorem mul_l' {i j : Int} {h : DH} (a : -18446744073709551616 < i) (b : i < 18446744073709551616) : opMul (.int i) (.int j) h = .ok (.int (i * j)) h := mul_int' (cmul_l (by simpa using a) (by simpa using b))
@[simp] theorem mod_p' {i j : Int} {h : DH} (c : 0 < j) : opMod (.int i) (.int j) h = .ok (.int (i % j)) h := mod_int' c
@[simp] theorem fdiv_p' {i j : Int} {h : DH} (c : 0 < j) (d : j < 2147483648) : opFdiv (.int i) (.int j) h = .ok (.int (i / j)) h := fdiv_int' (cdiv c (by simpa using d))
/-! things by places -/
theorem atI_nat' {α : Type} {l : List α} {j : Nat} {x : α} (h : l[j]? = some x) : atI l (j : Int) = some x := by
  obtain ⟨h1, h2⟩ := List.getElem?_eq_some_iff.mp h
  unfold atI ixN
  rw [if_pos (by omega), if_pos (by omega)]
  simpa using h
@[simp] theorem ix_tup {l : List D} {i : Int} {h : DH} : ixA (.tup l) (.int i) h = match atI l i with
    | some x => .ok x h
    | none => .bad := rfl
@[simp] theorem ix_lv {l : List D} {i : Int} {h : DH} : ixA (.lv l) (.int i) h = match atI l i with
    | some x => .ok x h
    | none => .bad := rfl
@[simp] theorem ix_rl {l : List D} {i : Int} {h : DH} : ixA (.rl l) (.int i) h = match atI l i with
    | some x => .ok x h
    | none => .bad := rfl
theorem ix_ref {l : List D} {n : Nat} {i : Int} {h : DH} (e : h[n]? = some (.lst l)) : ixA (.ref n) (.int i) h = match atI l i with
    | some x => .ok x h
    | none => .bad := by
  unfold ixA dictOf ixM seqOf rlistOf listOf
  simp only [e] <;> cases atI l i <;> rfl
@[simp] theorem atI_0 {α : Type} {x : α} {l : List α} : atI (x :: l) 0 = some x := atI_nat' (j := 0) rfl
@[simp] theorem atI_1 {α : Type} {x y : α} {l : List α} : atI (x :: y :: l) 1 = some y := atI_nat' (j := 1) rfl
@[simp] theorem atI_2 {α : Type} {x y z : α} {l : List α} : atI (x :: y :: z :: l) 2 = some z := atI_nat' (j := 2) rfl
@[simp] theorem ixN_0 {n : Nat} : ixN (n + 1) 0 = some 0 := by unfold ixN; rw [if_pos (by omega), if_pos (by omega)]; rfl
@[simp] theorem ixN_1 {n : Nat} : ixN (n + 1 + 1) 1 = some 1 := by unfold ixN; rw [if_pos (by omega), if_pos (by omega)]; rfl
@[simp] theorem len_tup {l : List D} {h : DH} : len1 (.tup l) h = .ok (.int l.length) h := rfl
@[simp] theorem len_lv {l : List D} {h : DH} : len1 (.lv l) h = .ok (.int l.length) h := rfl
@[simp] theorem len_rl {l : List D} {h : DH} : len1 (.rl l) h = .ok (.int l.length) h := rfl
theorem len_ref {l : List D} {n : Nat} {h : DH} (e : h[n]? = some (.lst l)) : len1 (.ref n) h = .ok (.int l.length) h := by
  unfold len1 seqOf rlistOf listOf
  simp only [e]
theorem set_ref {l : List D} {n : Nat} {i : Int} {j : Nat} {v : D} {h : DH} (e : h[n]? = some (.lst l)) (ej : ixN l.length i = some j) : setM (.ref n) (.int i) v h = .ok () (h.set n (.lst (l.set j v))) := by
  unfold setM
  simp only [e, ej]
theorem mkL_t {ds : List D} {h : DH} (z : ds.length ≤ sizeLine) : mkL true ds h = .ok (.ref h.length) (h ++ [.lst ds]) := by unfold mkL; rw [if_pos z, if_pos rfl]
theorem mkL_f {ds : List D} {h : DH} (z : ds.length ≤ sizeLine) : mkL false ds h = .ok (.lv ds) h := by unfold mkL; rw [if_pos z, if_neg (by decide)]
theorem app_ref {l : List D} {n : Nat} {y : D} {h : DH} (e : h[n]? = some (.lst l)) (z : l.length < sizeLine) : fAppend (.ref n) [y] h = .ok .non (h.set n (.lst (l ++ [y]))) := by
  unfold fAppend mutL
  simp only [e, if_pos z]
theorem ty_ref {l : List D} {n : Nat} {h : DH} (e : h[n]? = some (.lst l)) : tyM .list (.ref n) h = .ok () h := by
  unfold tyM rlistOf listOf
  simp only [e]
end Wy

set_option Elab.async false
set_option linter.all false
set_option maxRecDepth 100000
set_option maxHeartbeats 4000000
namespace Wy
open PySem PySem.Spec PyProof.Rows L2

/-! ### defs, once more: heaps in two parts -/
theorem Pur.left {h g : DH} (p : Pur (h ++ g)) : Pur h := fun o ho => p o (List.mem_append_left _ ho)
theorem pur_lst {l : List PyData} : ∀ n, Ob.under n (.lst (ofPs l)) = true := fun n => ofPs_under l
theorem Pur.cons {o : Ob} {g : DH} (a : ∀ n, Ob.under n o = true) (b : Pur g) : Pur (o :: g) := fun o' ho => by
  rcases List.mem_cons.mp ho with rfl | ho
  · exact a
  · exact b o' ho
theorem den_app {z : Bool} {n : Nat} {m : SD → M Fl} {ds : List D} {h h' g : DH} {p : PyData} (e : m (slots0 n ds) h = .ok (.rt (ofP p)) (h' ++ g)) (pu : Pur h') (l : h'.length = h.length) : den z n m ds h = .ok (ofP p) h' := by
  have t : (h' ++ g).take h.length = h' := by rw [← l]; simp
  have := den_val (z := z) e (by rw [t]; exact pu) (by simp; omega) (out_ofP p)
  rw [t] at this
  exact this
theorem den_eq {z : Bool} {n : Nat} {m : SD → M Fl} {ds : List D} {h h' : DH} {p : PyData} (e : m (slots0 n ds) h = .ok (.rt (ofP p)) h') (pu : Pur h') (l : h'.length = h.length) : den z n m ds h = .ok (ofP p) h' := den_app (g := []) (by rw [List.append_nil]; exact e) pu l
theorem den_lst {n : Nat} {m : SD → M Fl} {ds : List D} {h h' g : DH} {l : List PyData} (e : m (slots0 n ds) h = .ok (.rt (.ref h.length)) (h' ++ .lst (ofPs l) :: g)) (pu : Pur h') (hl : h'.length = h.length) : den true n m ds h = .ok (.lv (ofPs l)) h' := by
  have t : (h' ++ .lst (ofPs l) :: g).take h.length = h' := by rw [← hl]; simp
  have o : out true (h' ++ .lst (ofPs l) :: g) h.length (.ref h.length) = some (.lv (ofPs l)) := by
    have := out_lst (h := h') (g := g) (l := l)
    rw [hl] at this
    exact this
  have := den_val (z := true) e (by rw [t]; exact pu) (by simp; omega) o
  rw [t] at this
  exact this
theorem at_len {h g : DH} {o : Ob} {k : Nat} (l : h.length = k) : (h ++ o :: g)[k]? = some o := by
  rw [List.getElem?_append_right (by omega), ← l, Nat.sub_self]; rfl
theorem set_len {h g : DH} {o o' : Ob} {k : Nat} (l : h.length = k) : (h ++ o :: g).set k o' = h ++ o' :: g := by
  rw [List.set_append_right _ _ (by omega), ← l, Nat.sub_self]; rfl
theorem at_last {h : DH} {o : Ob} : (h ++ [o])[h.length]? = some o := at_len rfl
theorem set_last {h : DH} {o o' : Ob} : (h ++ [o]).set h.length o' = h ++ [o'] := set_len rfl
/-! lists of data in objects -/
theorem toPs_ofPs {h : DH} {l : List PyData} (c : PyData.canLayAll0 l = true) : ∀ k, toPs h k (ofPs l) = some l
  | 0 => toPGs_ofP l c
  | k + 1 => toPGs_ofP l c
theorem toP_ref {h : DH} {k : Nat} {l : List PyData} (e : h[k]? = some (.lst (ofPs l))) (c : PyData.canLayAll0 l = true) : toP h (.ref k) = some (.list l) := by
  unfold toP toPG
  simp only [e, toPs_ofPs c, Option.map_some]
theorem in_list {neg : Bool} {h : DH} {d y : D} {l : List PyData} {p : PyData} (ey : toP h y = some (.list l)) (ed : toP h d = some p) (nd : dictOf h y = none) (ns : ∀ x, y ≠ .str x) (z : (PyData.list l).depth ≤ 64) (z' : p.depth ≤ 64) :
    inM neg d y h = .ok (.bl (neg ^^ l.any fun x => PyData.eqv x p)) h := by
  unfold inM inQ
  cases y <;> first | exact absurd rfl (ns _) | (simp only [nd, ey, ed, z, z', and_self, if_true])
theorem in_ref {neg : Bool} {h : DH} {k : Nat} {l : List PyData} {p : PyData} (e : h[k]? = some (.lst (ofPs l))) (c : PyData.canLayAll0 l = true) (f : p.canLay0 = true) (z : (PyData.list l).depth ≤ 64) (z' : p.depth ≤ 64) :
    inM neg (ofP p) (.ref k) h = .ok (.bl (neg ^^ l.any fun x => PyData.eqv x p)) h :=
  in_list (toP_ref e c) (toP_pur f) (by unfold dictOf; simp only [e]) (fun _ h => by cases h) z z'
theorem ofPs_append (l m : List PyData) : ofPs (l ++ m) = ofPs l ++ ofPs m := by simp [ofPs_map]
theorem ofPs_len (l : List PyData) : (ofPs l).length = l.length := by simp [ofPs_map]
theorem ofPs_get {l : List PyData} {i : Nat} : (ofPs l)[i]? = (l[i]?).map ofP := by simp [ofPs_map]
theorem app_ofP {h : DH} {k : Nat} {l : List PyData} {p : PyData} (e : h[k]? = some (.lst (ofPs l))) (z : l.length < sizeLine) : fAppend (.ref k) [ofP p] h = .ok .non (h.set k (.lst (ofPs (l ++ [p])))) := by
  rw [app_ref e (by rw [ofPs_len]; exact z), ofPs_append]; rfl
theorem lays_iff : ∀ {l : List PyData}, PyData.canLayAll0 l = true ↔ ∀ p ∈ l, p.canLay0 = true
  | [] => by simp [PyData.canLayAll0]
  | x :: xs => by simp [PyData.canLayAll0, lays_iff (l := xs)]
theorem depthAll_le {k : Nat} : ∀ {l : List PyData}, (∀ p ∈ l, p.depth ≤ k) → PyData.depthAll l ≤ k
  | [], _ => by simp [PyData.depthAll]
  | x :: xs, h => by
    have h1 := h x (by simp)
    have h2 := depthAll_le (l := xs) fun p hp => h p (List.mem_cons_of_mem _ hp)
    simp only [PyData.depthAll]; omega
theorem weightAll_le {k : Nat} : ∀ {l : List PyData}, (∀ p ∈ l, p.weight ≤ k) → PyData.weightAll l ≤ (k + 1) * l.length
  | [], _ => by simp [PyData.weightAll]
  | x :: xs, h => by
    have h1 := h x (by simp)
    have h2 := weightAll_le (l := xs) fun p hp => h p (List.mem_cons_of_mem _ hp)
    simp only [PyData.weightAll, List.length_cons, Nat.mul_add]; omega
/-! sorting -/
def sortP (ps : List PyData) : List PyData := sortZ ps ps
theorem sortZ_map {α β : Type} (f : α → β) (xs : List α) (ps : List PyData) : sortZ (xs.map f) ps = (sortZ xs ps).map f := by
  unfold sortZ
  rw [List.zip_map_left, List.map_map]
  have : ((xs.zip ps).map (Prod.map f id)).mergeSort (PySem.W.dataLe false (·.2)) = ((xs.zip ps).mergeSort (PySem.W.dataLe false (·.2))).map (Prod.map f id) := by
    rw [← List.map_mergeSort (r := PySem.W.dataLe false (·.2)) (s := PySem.W.dataLe false (·.2)) (f := Prod.map f id)]
    intro a _ b _
    simp only [PySem.W.dataLe_eq, Prod.map_snd, id]
  rw [this, List.map_map]
  rfl
theorem sortP_mem {ps : List PyData} {p : PyData} : p ∈ sortP ps ↔ p ∈ ps := by
  unfold sortP sortZ
  rw [((List.mergeSort_perm _ _).map _).mem_iff]
  have : (ps.zip ps).map (·.1) = ps := List.map_fst_zip (Nat.le_refl _)
  rw [this]
theorem sortP_len (ps : List PyData) : (sortP ps).length = ps.length := sortZ_len rfl
theorem sorted_ref {h : DH} {k : Nat} {l : List PyData} (e : h[k]? = some (.lst (ofPs l))) (c : PyData.canLayAll0 l = true) (a : allAlike l = true) (s : sortable l = true) (d : PyData.depthAll l ≤ 64) (z : l.length ≤ sizeLine) : sorted1 false (.ref k) h = .ok (.lv (ofPs (sortP l))) h := by
  unfold sorted1 rlistOf listOf
  simp only [e, toPs_ofPs c, a, s, d, and_self, if_true]
  have es : sortZ (ofPs l) l = ofPs (sortP l) := by rw [ofPs_map, sortZ_map, ofPs_map]; rfl
  rw [es]
  exact mkL_f (by rw [ofPs_len, sortP_len]; exact z)
@[simp] theorem tup1_lv {l : List D} {h : DH} : tup1 (.lv l) h = .ok (.tup l) h := rfl
@[simp] theorem tup1_tup {l : List D} {h : DH} : tup1 (.tup l) h = .ok (.tup l) h := rfl
theorem tup1_ref {l : List D} {k : Nat} {h : DH} (e : h[k]? = some (.lst l)) : tup1 (.ref k) h = .ok (.tup l) h := by
  unfold tup1 seqOf rlistOf listOf
  simp only [e]
theorem rng_ok {j : Int} {h : DH} (f : fine j) : rngSrc [.int j] h = .ok (count 0 j.toNat, fun _ => true) h := by
  unfold rngSrc
  simp only [f, if_true]; rfl
theorem count_len {lo : Int} {n : Nat} : (count lo n).length = n := by simp [count]
end Wy

set_option Elab.async false
set_option linter.all false
set_option maxRecDepth 100000
set_option maxHeartbeats 4000000
namespace Wy
open PySem PySem.Spec PyProof.Rows L2
def B_law_cell_at : SD → M Fl := (mSeq (mIf (mTest (m2 (ordM .lt) (mVar 1) (mCall (one len1) (mCons (mVar 0) mNil)))) (mSeq (mRet (m2 ixA (mVar 0) (mVar 1))) mNext) mNext) (mSeq (mRet (mC (.int 0))) mNext))
def F_law_cell_at : List D → M D := den true 2 B_law_cell_at
def B_law_next : SD → M Fl := (mSeq (mAsg (m2 ixA (mVar 0) (mC (.int 1))) (gNm 2)) (mSeq (mAsg (m2 opFdiv (mVar 2) (mVar 1)) (gSb (mVar 0) (mC (.int 1)) setM)) (mSeq (mAsg (m2 opMod (m2 (opAdd false) (m2 opMul (m2 ixA (mVar 0) (mC (.int 0))) (mC (.int 48271))) (mC (.int 11))) (mC (.int 2147483647))) (gSb (mVar 0) (mC (.int 0)) setM)) (mSeq (mRet (m2 opMod (mIte (mTest (m2 (ordM .gt) (mVar 2) (mC (.int 1)))) (mVar 2) (m2 opFdiv (m2 opMod (m2 opMul (m2 ixA (mVar 0) (mC (.int 0))) (m2 ixA (mVar 0) (mC (.int 0)))) (mC (.int 2147483629))) (mC (.int 7)))) (mVar 1))) mNext))))
def F_law_next : List D → M D := den true 3 B_law_next
def B_law_mixed : SD → M Fl := (mSeq (mRet (m2 opMod (m2 opPow (m2 opMod (m2 (opAdd false) (m2 opMul (mVar 0) (mC (.int 48271))) (m2 opMul (m2 (opAdd false) (mVar 1) (mC (.int 1))) (mC (.int 1299721)))) (mC (.int 2147483647))) (mC (.int 5))) (mC (.int 2147483647)))) mNext)
def F_law_mixed : List D → M D := den true 2 B_law_mixed
def B_law_rows : SD → M Fl := (mSeq (mAsg (mLst true mNil) (gNm 2)) (mSeq (mFor (srcRng (mCons (mCall (two min2) (mCons (mC (.int 40)) (mCons (mCall (one len1) (mCons (mVar 0) mNil)) mNil))) mNil)) (gNm 3) (mSeq (mAsg (mCall F_law_mixed (mCons (m2 ixA (mVar 0) (mVar 3)) (mCons (mVar 3) mNil))) (gNm 4)) (mSeq (mIf (mOrT (mTest (m2 (eqM false) (m2 opMod (mVar 4) (mC (.int 3))) (mC (.int 0)))) (mTest (m2 (ordM .lt) (mVar 3) (mC (.int 2))))) (mSeq (mExpr (mMeth .list fAppend (mVar 2) (mCons (mTup (mCons (mC (.str "given")) (mCons (m2 opMod (m2 opFdiv (mVar 4) (mC (.int 3))) (mCall (one len1) (mCons (mVar 1) mNil))) mNil))) mNil))) mNext) (mSeq (mIf (mTest (m2 (eqM false) (m2 opMod (mVar 4) (mC (.int 3))) (mC (.int 1)))) (mSeq (mExpr (mMeth .list fAppend (mVar 2) (mCons (mTup (mCons (mC (.str "said")) (mCons (m2 opMod (m2 opFdiv (mVar 4) (mC (.int 3))) (mC (.int 4))) mNil))) mNil))) mNext) (mSeq (mExpr (mMeth .list fAppend (mVar 2) (mCons (mTup (mCons (mC (.str "both")) (mCons (m2 opMod (m2 opFdiv (mVar 4) (mC (.int 3))) (mVar 3)) (mCons (m2 opMod (m2 opFdiv (mVar 4) (mC (.int 129))) (mVar 3)) (mCons (mC (.str "a")) (mCons (mTup (mCons (m2 opMod (m2 opFdiv (mVar 4) (mC (.int 7))) (mC (.int 9))) mNil)) mNil)))))) mNil))) mNext)) mNext)) mNext))) (mSeq (mRet (mVar 2)) mNext)))
def F_law_rows : List D → M D := den true 5 B_law_rows
def B_law_state : SD → M Fl := (mSeq (mRet (mLst true (mCons (m2 opMod (m2 (opAdd false) (m2 (opAdd false) (m2 opMul (mVar 0) (mC (.int 69621))) (m2 opMul (mC (.int 7919)) (mVar 1))) (mC (.int 1))) (mC (.int 2147483647))) (mCons (mCall (two max2) (mCons (mC (.int 0)) (mCons (m2 opFdiv (mVar 0) (m2 opPow (mC (.int 10)) (mC (.int 18)))) mNil))) mNil)))) mNext)
def F_law_state : List D → M D := den false 2 B_law_state
def B_law_pool : SD → M Fl := (mSeq (mRet (mLst false (mCons (mTup (mCons (mC (.int 0)) mNil)) (mCons (mTup (mCons (mC (.int 0)) (mCons (mC (.int 1)) mNil))) (mCons (mTup (mCons (mC (.int 1)) mNil)) (mCons (mTup (mCons (mC (.int 1)) (mCons (mC (.int 0)) mNil))) (mCons (mTup (mCons (mC (.int 1)) (mCons (mC (.int 2)) mNil))) (mCons (mTup (mCons (mC (.int 1)) (mCons (mC (.int 2)) (mCons (mC (.int 9999)) mNil)))) (mCons (mTup (mCons (mC (.int 2)) mNil)) (mCons (mTup (mCons (mC (.int 2)) (mCons (mC (.int 0)) (mCons (mC (.int 0)) (mCons (mC (.int 5)) mNil))))) (mCons (mTup (mCons (mC (.int 10)) mNil)) (mCons (mTup (mCons (mC (.int 10)) (mCons (mC (.int 3)) mNil))) (mCons (mTup (mCons (mC (.int 9999)) mNil)) mNil))))))))))))) mNext)
def F_law_pool : List D → M D := den true 0 B_law_pool
def B_law_statements : SD → M Fl := (mSeq (mAsg (mLst true mNil) (gNm 2)) (mSeq (mFor (srcRng (mCons (mVar 1) mNil)) (gNm 3) (mSeq (mAsg (mLst true mNil) (gNm 4)) (mSeq (mFor (srcRng (mCons (mCall F_law_next (mCons (mVar 0) (mCons (mC (.int 4)) mNil))) mNil)) (gNm 5) (mSeq (mAsg (mTup (mCons (m2 ixA (mC (.str "abc")) (mCall F_law_next (mCons (mVar 0) (mCons (mC (.int 3)) mNil)))) (mCons (m2 ixA (mCall F_law_pool mNil) (mCall F_law_next (mCons (mVar 0) (mCons (mC (.int 4)) mNil)))) (mCons (m2 (eqM false) (mCall F_law_next (mCons (mVar 0) (mCons (mC (.int 2)) mNil))) (mC (.int 1))) mNil)))) (gNm 6)) (mSeq (mIf (mTest (m2 (inM true) (mVar 6) (mVar 4))) (mSeq (mExpr (mMeth .list fAppend (mVar 4) (mCons (mVar 6) mNil))) mNext) mNext) mNext))) (mSeq (mExpr (mMeth .list fAppend (mVar 2) (mCons (mCall (one tup1) (mCons (mCall (one (sorted1 false)) (mCons (mVar 4) mNil)) mNil)) mNil))) mNext)))) (mSeq (mRet (mVar 2)) mNext)))
def F_law_statements : List D → M D := den true 7 B_law_statements
def B_moved : SD → M Fl := (mSeq (mAsg (mDct true) (gNm 3)) (mSeq (mFor (srcEnum (mCons (mVar 2) mNil)) (gTp 2 (gsCons (gNm 4) (gsCons (gNm 5) gsNil))) (mSeq (mIf (mTest (m2 (inM true) (mVar 5) (mVar 3))) (mSeq (mAsg (mVar 4) (gSb (mVar 3) (mVar 5) setM)) mNext) mNext) mNext)) (mSeq (mAsg (mLst true mNil) (gNm 6)) (mSeq (mFor (srcSeq (mVar 0)) (gNm 7) (mSeq (mIf (mTest (m2 (eqM true) (m2 ixA (mVar 7) (mC (.int 0))) (mC (.str "given")))) (mSeq (mExpr (mMeth .list fAppend (mVar 6) (mCons (mVar 7) mNil))) mNext) (mSeq (mIf (mTest (m2 (inM true) (m2 ixA (mVar 1) (m2 ixA (mVar 7) (mC (.int 1)))) (mVar 3))) (mSeq (mRet (mC .non)) mNext) (mSeq (mExpr (mMeth .list fAppend (mVar 6) (mCons (mTup (mCons (mC (.str "given")) (mCons (m2 ixA (mVar 3) (m2 ixA (mVar 1) (m2 ixA (mVar 7) (mC (.int 1))))) mNil))) mNil))) mNext)) mNext)) mNext)) (mSeq (mRet (mCall (one tup1) (mCons (mVar 6) mNil))) mNext)))))
def F_moved : List D → M D := den true 8 B_moved
def B_law : SD → M Fl := (mSeq (mAsg (mCall F_law_state (mCons (mCall F_law_cell_at (mCons (mVar 0) (mCons (mC (.int 0)) mNil))) (mCons (mC (.int 3)) mNil))) (gNm 1)) (mSeq (mAsg (mCall F_law_statements (mCons (mVar 1) (mCons (m2 (opAdd false) (mC (.int 1)) (mCall F_law_next (mCons (mVar 1) (mCons (mC (.int 9)) mNil)))) mNil))) (gNm 2)) (mSeq (mAsg (mCall F_law_rows (mCons (mVar 0) (mCons (mVar 2) mNil))) (gNm 3)) (mSeq (mAsg (mComp [5] (.nm 5) (mTest (m2 (eqM false) (m2 ixA (mVar 5) (mC (.int 0))) (mC (.str "given")))) (m2 ixA (mVar 2) (m2 ixA (mVar 5) (mC (.int 1)))) false (srcSeq (mVar 3))) (gNm 4)) (mSeq (mAsg (mLst true mNil) (gNm 6)) (mSeq (mFor (srcSeq (m2 (opAdd false) (m2 (opAdd false) (mVar 2) (mCall F_law_statements (mCons (mVar 1) (mCons (mCall F_law_next (mCons (mVar 1) (mCons (mC (.int 4)) mNil))) mNil)))) (mSl false (mVar 2) none (some (mCall F_law_next (mCons (mVar 1) (mCons (mC (.int 3)) mNil))))))) (gNm 7) (mSeq (mExpr (mMeth .list fInsert (mVar 6) (mCons (mCall F_law_next (mCons (mVar 1) (mCons (m2 (opAdd false) (mCall (one len1) (mCons (mVar 6) mNil)) (mC (.int 1))) mNil))) (mCons (mVar 7) mNil)))) mNext)) (mSeq (mIf (mAndT (mTest (m2 (eqM false) (mCall F_law_next (mCons (mVar 1) (mCons (mC (.int 3)) mNil))) (mC (.int 0)))) (mTest (m2 (eqM true) (mVar 4) (mLst false mNil)))) (mSeq (mAsg (m2 ixA (mVar 4) (mCall F_law_next (mCons (mVar 1) (mCons (mCall (one len1) (mCons (mVar 4) mNil)) mNil)))) (gNm 8)) (mSeq (mAsg (mComp [7] (.nm 7) (mTest (m2 (eqM true) (mVar 7) (mVar 8))) (mVar 7) true (srcSeq (mVar 6))) (gNm 6)) mNext)) mNext) (mSeq (mAsg (mLst true mNil) (gNm 9)) (mSeq (mFor (srcSeq (mVar 3)) (gNm 5) (mSeq (mIf (mTest (m2 (eqM true) (m2 ixA (mVar 5) (mC (.int 0))) (mC (.str "given")))) (mSeq (mExpr (mMeth .list fAppend (mVar 9) (mCons (mVar 5) mNil))) mNext) (mSeq (mIf (mTest (m2 (inM false) (m2 ixA (mVar 2) (m2 ixA (mVar 5) (mC (.int 1)))) (mVar 6))) (mSeq (mExpr (mMeth .list fAppend (mVar 9) (mCons (mTup (mCons (mC (.str "given")) (mCons (mMeth .list fIndex (mVar 6) (mCons (m2 ixA (mVar 2) (m2 ixA (mVar 5) (mC (.int 1)))) mNil)) mNil))) mNil))) mNext) (mSeq (mExpr (mMeth .list fAppend (mVar 9) (mCons (mC .non) mNil))) mNext)) mNext)) mNext)) (mSeq (mIf (mTest (m2 (inM false) (mC .non) (mVar 9))) (mSeq (mAsg (mC .non) (gNm 9)) mNext) (mSeq (mAsg (mCall (one tup1) (mCons (mVar 9) mNil)) (gNm 9)) mNext)) (mSeq (mAsg (mCall (one tup1) (mCons (mSl false (mVar 2) none (some (mC (.int 1)))) mNil)) (gNm 10)) (mSeq (mIf (mTest (m2 (eqM true) (mCall (one repr1) (mCons (mCall F_moved (mCons (m2 opMul (mTup (mCons (mTup (mCons (mC (.str "given")) (mCons (mC (.int 0)) mNil))) mNil)) (mC (.int 1200))) (mCons (mVar 10) (mCons (mVar 10) mNil)))) mNil)) (mCall (one repr1) (mCons (m2 opMul (mTup (mCons (mTup (mCons (mC (.str "given")) (mCons (mC (.int 0)) mNil))) mNil)) (mC (.int 1200))) mNil)))) (mSeq (mRet (mC (.bl false))) mNext) mNext) (mSeq (mAsg (mCall (one repr1) (mCons (mLst false (mCons (mVar 3) (mCons (mVar 2) (mCons (mVar 6) mNil)))) mNil)) (gNm 11)) (mSeq (mAsg (mCall F_moved (mCons (mCall (one tup1) (mCons (mVar 3) mNil)) (mCons (mCall (one tup1) (mCons (mVar 2) mNil)) (mCons (mCall (one tup1) (mCons (mVar 6) mNil)) mNil)))) (gNm 12)) (mSeq (mRet (mAndV (m2 (eqM false) (mCall (one repr1) (mCons (mVar 12) mNil)) (mCall (one repr1) (mCons (mVar 9) mNil))) (m2 (eqM false) (mCall (one repr1) (mCons (mLst false (mCons (mVar 3) (mCons (mVar 2) (mCons (mVar 6) mNil)))) mNil)) (mVar 11)))) mNext)))))))))))))))
def F_law : List D → M D := den true 13 B_law
end Wy

set_option Elab.async false
set_option linter.all false
set_option maxRecDepth 100000
set_option maxHeartbeats 4000000
namespace Wy
open PySem PySem.Spec PyProof.Rows L2
def topS (i : Nat) : Stmt := PySem.Challenge.pw_wishyard_k57_moved.main.body.getD i (.Pass ⟨0, 0, 0, 0⟩)
section
variable {P : Program} {w : World} {K : PySem.W.Frag} {mg : Str → Option Value} {base : Heap} {T : Tb}
theorem sc_law_cell_at : FnScope ["_law_script", "_law_k"] ["_law_script", "_law_k"] (defScope (topS 3)) := ⟨rfl, rfl, rfl, by decide +kernel, rfl, by decide +kernel, by decide +kernel⟩
theorem ok_law_cell_at (bu : Bu mg) (fn : FunAt K mg "_law_cell_at" (topS 3)) : DefOk P w K mg base T "_law_cell_at" 1 2 F_law_cell_at :=
  def_is (N := ["_law_script", "_law_k"]) (ps := ["_law_script", "_law_k"]) (k := 0) fn sc_law_cell_at bu (fun _ _ _ _ _ _ us hl => match us, hl with | [_, _], _ => rfl) fun f cdv A outer s H E c tk hp =>
    (sm_cons (sm_if (tLt c (v 1) (cLen c (ac (v 0) am_nil))) (sm_cons (sm_ret (oIx c (v 0) (v 1)))
    sm_nil) sm_nil)
    (sm_cons (sm_ret kI)
    sm_nil))
theorem sc_law_next : FnScope ["_law_state_here", "_law_size", "_law_left"] ["_law_state_here", "_law_size"] (defScope (topS 5)) := ⟨rfl, rfl, rfl, by decide +kernel, rfl, by decide +kernel, by decide +kernel⟩
theorem ok_law_next (bu : Bu mg) (fn : FunAt K mg "_law_next" (topS 5)) : DefOk P w K mg base T "_law_next" 1 2 F_law_next :=
  def_is (N := ["_law_state_here", "_law_size", "_law_left"]) (ps := ["_law_state_here", "_law_size"]) (k := 0) fn sc_law_next bu (fun _ _ _ _ _ _ us hl => match us, hl with | [_, _], _ => rfl) fun f cdv A outer s H E c tk hp =>
    (sm_cons (sA (oIx c (v 0) kI) (gN c))
    (sm_cons (sA (oFdv (v 2) (v 1)) (gS c (v 0) kI))
    (sm_cons (sA (oMod (oAdd (oMul (oIx c (v 0) kI) kI) kI) kI) (gS c (v 0) kI))
    (sm_cons (sm_ret (oMod (em_ite (tGt c (v 2) kI) (v 2) (oFdv (oMod (oMul (oIx c (v 0) kI) (oIx c (v 0) kI)) kI) kI)) (v 1)))
    sm_nil))))
theorem sc_law_mixed : FnScope ["_law_cell", "_law_k"] ["_law_cell", "_law_k"] (defScope (topS 4)) := ⟨rfl, rfl, rfl, by decide +kernel, rfl, by decide +kernel, by decide +kernel⟩
theorem ok_law_mixed (bu : Bu mg) (fn : FunAt K mg "_law_mixed" (topS 4)) : DefOk P w K mg base T "_law_mixed" 1 2 F_law_mixed :=
  def_is (N := ["_law_cell", "_law_k"]) (ps := ["_law_cell", "_law_k"]) (k := 0) fn sc_law_mixed bu (fun _ _ _ _ _ _ us hl => match us, hl with | [_, _], _ => rfl) fun f cdv A outer s H E c tk hp =>
    (sm_cons (sm_ret (oMod (oPow (oMod (oAdd (oMul (v 0) kI) (oMul (oAdd (v 1) kI) kI)) kI) kI) kI))
    sm_nil)
theorem sc_law_rows : FnScope ["_law_script", "_law_givens", "_law_rows_here", "_law_k", "_law_draw"] ["_law_script", "_law_givens"] (defScope (topS 18)) := ⟨rfl, rfl, rfl, by decide +kernel, rfl, by decide +kernel, by decide +kernel⟩
theorem ok_law_rows (bu : Bu mg) (fn : FunAt K mg "_law_rows" (topS 18)) (ok_law_mixed_ : DefOk P w K mg base T "_law_mixed" 1 2 F_law_mixed) : DefOk P w K mg base T "_law_rows" 2 2 F_law_rows :=
  def_is (N := ["_law_script", "_law_givens", "_law_rows_here", "_law_k", "_law_draw"]) (ps := ["_law_script", "_law_givens"]) (k := 1) fn sc_law_rows bu (fun _ _ _ _ _ _ us hl => match us, hl with | [_, _], _ => rfl) fun f cdv A outer s H E c tk hp =>
    (sm_cons (sA (em_lst am_nil) (gN c))
    (sm_cons (sF c hp (iR c (ac (cMin c (ac kI (ac (cLen c (ac (v 0) am_nil)) am_nil))) am_nil)) (gN c) (sm_cons (sA (cF c tk ok_law_mixed_ (ac (oIx c (v 0) (v 3)) (ac (v 3) am_nil))) (gN c))
    (sm_cons (sm_if (tBo (wm_or (tEq c (oMod (v 4) kI) kI) (wm_or1 (tLt c (v 3) kI)))) (sm_cons (sX (mAppend (v 2) (ac (tp (ac kS (ac (oMod (oFdv (v 4) kI) (cLen c (ac (v 1) am_nil))) am_nil))) am_nil)))
    sm_nil) (sm_cons (sm_if (tEq c (oMod (v 4) kI) kI) (sm_cons (sX (mAppend (v 2) (ac (tp (ac kS (ac (oMod (oFdv (v 4) kI) kI) am_nil))) am_nil)))
    sm_nil) (sm_cons (sX (mAppend (v 2) (ac (tp (ac kS (ac (oMod (oFdv (v 4) kI) (v 3)) (ac (oMod (oFdv (v 4) kI) (v 3)) (ac kS (ac (tp (ac (oMod (oFdv (v 4) kI) kI) am_nil)) am_nil)))))) am_nil)))
    sm_nil))
    sm_nil))
    sm_nil)))
    (sm_cons (sm_ret (v 2))
    sm_nil)))
theorem sc_law_state : FnScope ["_law_cell", "_law_k"] ["_law_cell", "_law_k"] (defScope (topS 6)) := ⟨rfl, rfl, rfl, by decide +kernel, rfl, by decide +kernel, by decide +kernel⟩
theorem ok_law_state (bu : Bu mg) (fn : FunAt K mg "_law_state" (topS 6)) : DefOk P w K mg base T "_law_state" 1 2 F_law_state :=
  def_is (N := ["_law_cell", "_law_k"]) (ps := ["_law_cell", "_law_k"]) (k := 0) fn sc_law_state bu (fun _ _ _ _ _ _ us hl => match us, hl with | [_, _], _ => rfl) fun f cdv A outer s H E c tk hp =>
    (sm_cons (sm_ret (em_lst (ac (oMod (oAdd (oAdd (oMul (v 0) kI) (oMul kI (v 1))) kI) kI) (ac (cMax c (ac kI (ac (oFdv (v 0) (oPow kI kI)) am_nil))) am_nil))))
    sm_nil)
theorem sc_law_pool : FnScope [] [] (defScope (topS 7)) := ⟨rfl, rfl, rfl, by decide +kernel, rfl, by decide +kernel, by decide +kernel⟩
theorem ok_law_pool (bu : Bu mg) (fn : FunAt K mg "_law_pool" (topS 7)) : DefOk P w K mg base T "_law_pool" 1 0 F_law_pool :=
  def_is (N := []) (ps := []) (k := 0) fn sc_law_pool bu (fun _ _ _ _ _ _ us hl => match us, hl with | [], _ => rfl) fun f cdv A outer s H E c tk hp =>
    (sm_cons (sm_ret (em_lst (ac (tp (ac kI am_nil)) (ac (tp (ac kI (ac kI am_nil))) (ac (tp (ac kI am_nil)) (ac (tp (ac kI (ac kI am_nil))) (ac (tp (ac kI (ac kI am_nil))) (ac (tp (ac kI (ac kI (ac kI am_nil)))) (ac (tp (ac kI am_nil)) (ac (tp (ac kI (ac kI (ac kI (ac kI am_nil))))) (ac (tp (ac kI am_nil)) (ac (tp (ac kI (ac kI am_nil))) (ac (tp (ac kI am_nil)) am_nil)))))))))))))
    sm_nil)
theorem sc_law_statements : FnScope ["_law_state_here", "_law_many", "_law_found", "_law_k", "_law_some", "_law_turn", "_law_sign"] ["_law_state_here", "_law_many"] (defScope (topS 17)) := ⟨rfl, rfl, rfl, by decide +kernel, rfl, by decide +kernel, by decide +kernel⟩
theorem ok_law_statements (bu : Bu mg) (fn : FunAt K mg "_law_statements" (topS 17)) (ok_law_next_ : DefOk P w K mg base T "_law_next" 1 2 F_law_next) (ok_law_pool_ : DefOk P w K mg base T "_law_pool" 1 0 F_law_pool) : DefOk P w K mg base T "_law_statements" 2 2 F_law_statements :=
  def_is (N := ["_law_state_here", "_law_many", "_law_found", "_law_k", "_law_some", "_law_turn", "_law_sign"]) (ps := ["_law_state_here", "_law_many"]) (k := 1) fn sc_law_statements bu (fun _ _ _ _ _ _ us hl => match us, hl with | [_, _], _ => rfl) fun f cdv A outer s H E c tk hp =>
    (sm_cons (sA (em_lst am_nil) (gN c))
    (sm_cons (sF c hp (iR c (ac (v 1) am_nil)) (gN c) (sm_cons (sA (em_lst am_nil) (gN c))
    (sm_cons (sF c hp (iR c (ac (cF c tk ok_law_next_ (ac (v 0) (ac kI am_nil))) am_nil)) (gN c) (sm_cons (sA (tp (ac (oIx c kS (cF c tk ok_law_next_ (ac (v 0) (ac kI am_nil)))) (ac (oIx c (cF0 c tk ok_law_pool_) (cF c tk ok_law_next_ (ac (v 0) (ac kI am_nil)))) (ac (oEq c (cF c tk ok_law_next_ (ac (v 0) (ac kI am_nil))) kI) am_nil)))) (gN c))
    (sm_cons (sm_if (tNi c (v 6) (v 4)) (sm_cons (sX (mAppend (v 4) (ac (v 6) am_nil)))
    sm_nil) sm_nil)
    sm_nil)))
    (sm_cons (sX (mAppend (v 2) (ac (cTup c (ac (cSrt c (ac (v 4) am_nil)) am_nil)) am_nil)))
    sm_nil))))
    (sm_cons (sm_ret (v 2))
    sm_nil)))
theorem sc_moved : FnScope ["paper", "givens", "others", "places", "number", "statement", "found", "row"] ["paper", "givens", "others"] (defScope (topS 1)) := ⟨rfl, rfl, rfl, by decide +kernel, rfl, by decide +kernel, by decide +kernel⟩
theorem ok_moved (bu : Bu mg) (fn : FunAt K mg "moved" (topS 1)) : DefOk P w K mg base T "moved" 1 3 F_moved :=
  def_is (N := ["paper", "givens", "others", "places", "number", "statement", "found", "row"]) (ps := ["paper", "givens", "others"]) (k := 0) fn sc_moved bu (fun _ _ _ _ _ _ us hl => match us, hl with | [_, _, _], _ => rfl) fun f cdv A outer s H E c tk hp =>
    (sm_cons (sA em_dct (gN c))
    (sm_cons (sF c hp (iE c (ac (v 2) am_nil)) (gT c (gs1 (gN c) (gs1 (gN c) gs0))) (sm_cons (sm_if (tNi c (v 5) (v 3)) (sm_cons (sA (v 4) (gS c (v 3) (v 5)))
    sm_nil) sm_nil)
    sm_nil))
    (sm_cons (sA (em_lst am_nil) (gN c))
    (sm_cons (sF c hp (iS (v 0)) (gN c) (sm_cons (sm_if (tNe c (oIx c (v 7) kI) kS) (sm_cons (sX (mAppend (v 6) (ac (v 7) am_nil)))
    sm_nil) (sm_cons (sm_if (tNi c (oIx c (v 1) (oIx c (v 7) kI)) (v 3)) (sm_cons (sm_ret kN)
    sm_nil) (sm_cons (sX (mAppend (v 6) (ac (tp (ac kS (ac (oIx c (v 3) (oIx c (v 1) (oIx c (v 7) kI))) am_nil))) am_nil)))
    sm_nil))
    sm_nil))
    sm_nil))
    (sm_cons (sm_ret (cTup c (ac (v 6) am_nil)))
    sm_nil)))))
theorem sc_law : FnScope ["_law_script", "_law_state_here", "_law_givens", "_law_rows_here", "_law_used", "_law_row", "_law_others", "_law_one", "_law_gone", "_law_due", "_law_some", "_law_as_was", "_law_found"] ["_law_script"] (defScope (topS 19)) := ⟨rfl, rfl, rfl, by decide +kernel, rfl, by decide +kernel, by decide +kernel⟩
theorem walk_law_def (ok_law_cell_at_ : DefOk P w K mg base T "_law_cell_at" 1 2 F_law_cell_at) (ok_law_next_ : DefOk P w K mg base T "_law_next" 1 2 F_law_next) (ok_law_rows_ : DefOk P w K mg base T "_law_rows" 2 2 F_law_rows) (ok_law_state_ : DefOk P w K mg base T "_law_state" 1 2 F_law_state) (ok_law_statements_ : DefOk P w K mg base T "_law_statements" 2 2 F_law_statements) (ok_moved_ : DefOk P w K mg base T "moved" 1 3 F_moved) : ∀ (f : Addr) (cdv : Value) (A : Around) (outer : List Env) (s : Shared) (H : Hp) (E : XK), (CO P w K mg base ["_law_script", "_law_state_here", "_law_givens", "_law_rows_here", "_law_used", "_law_row", "_law_others", "_law_one", "_law_gone", "_law_due", "_law_some", "_law_as_was", "_law_found"] "law" (topS 19) f cdv A outer s H E).A.guards = some [] → Cxt (CO P w K mg base ["_law_script", "_law_state_here", "_law_givens", "_law_rows_here", "_law_used", "_law_row", "_law_others", "_law_one", "_law_gone", "_law_due", "_law_some", "_law_as_was", "_law_found"] "law" (topS 19) f cdv A outer s H E) 2 → Takes (CO P w K mg base ["_law_script", "_law_state_here", "_law_givens", "_law_rows_here", "_law_used", "_law_row", "_law_others", "_law_one", "_law_gone", "_law_due", "_law_some", "_law_as_was", "_law_found"] "law" (topS 19) f cdv A outer s H E) (WC E) →
    PassesOwn (model P w) (CO P w K mg base ["_law_script", "_law_state_here", "_law_givens", "_law_rows_here", "_law_used", "_law_row", "_law_others", "_law_one", "_law_gone", "_law_due", "_law_some", "_law_as_was", "_law_found"] "law" (topS 19) f cdv A outer s H E).A (CO P w K mg base ["_law_script", "_law_state_here", "_law_givens", "_law_rows_here", "_law_used", "_law_row", "_law_others", "_law_one", "_law_gone", "_law_due", "_law_some", "_law_as_was", "_law_found"] "law" (topS 19) f cdv A outer s H E).env (CO P w K mg base ["_law_script", "_law_state_here", "_law_givens", "_law_rows_here", "_law_used", "_law_row", "_law_others", "_law_one", "_law_gone", "_law_due", "_law_some", "_law_as_was", "_law_found"] "law" (topS 19) f cdv A outer s H E).xe → PSsm (CO P w K mg base ["_law_script", "_law_state_here", "_law_givens", "_law_rows_here", "_law_used", "_law_row", "_law_others", "_law_one", "_law_gone", "_law_due", "_law_some", "_law_as_was", "_law_found"] "law" (topS 19) f cdv A outer s H E) T E (defBody (topS 19)) B_law := fun f cdv A outer s H E hgu c tk hp =>
    (sm_cons (sA (cF c tk ok_law_state_ (ac (cF c tk ok_law_cell_at_ (ac (v 0) (ac kI am_nil))) (ac kI am_nil))) (gN c))
    (sm_cons (sA (cF c tk ok_law_statements_ (ac (v 1) (ac (oAdd kI (cF c tk ok_law_next_ (ac (v 1) (ac kI am_nil)))) am_nil))) (gN c))
    (sm_cons (sA (cF c tk ok_law_rows_ (ac (v 0) (ac (v 2) am_nil))) (gN c))
    (sm_cons (sC c (iS (v 3)) (blk_mk (own := [("_law_row", 5)]) (by kernel_rfl)) (fun s H C cl fp c => (cgN c)) (fun s H C cl fp c => (tms_one (tEq c (oIx c (v 5) kI) kS))) (fun s H C cl fp c => (oIx c (v 2) (oIx c (v 5) kI))))
    (sm_cons (sA (em_lst am_nil) (gN c))
    (sm_cons (sF c hp (iS (oAdd (oAdd (v 2) (cF c tk ok_law_statements_ (ac (v 1) (ac (cF c tk ok_law_next_ (ac (v 1) (ac kI am_nil))) am_nil)))) (em_sl (v 2) om_none (om_some (cF c tk ok_law_next_ (ac (v 1) (ac kI am_nil))))))) (gN c) (sm_cons (sX (mInsert (v 6) (ac (cF c tk ok_law_next_ (ac (v 1) (ac (oAdd (cLen c (ac (v 6) am_nil)) kI) am_nil))) (ac (v 7) am_nil))))
    sm_nil))
    (sm_cons (sm_if (tBo (wm_and (tEq c (cF c tk ok_law_next_ (ac (v 1) (ac kI am_nil))) kI) (wm_and1 (tNe c (v 4) (em_lst am_nil))))) (sm_cons (sA (oIx c (v 4) (cF c tk ok_law_next_ (ac (v 1) (ac (cLen c (ac (v 4) am_nil)) am_nil)))) (gN c))
    (sm_cons (sC c (iS (v 6)) (blk_mk (own := [("_law_one", 7)]) (by kernel_rfl)) (fun s H C cl fp c => (cgN c)) (fun s H C cl fp c => (tms_one (tNe c (v 7) (v 8)))) (fun s H C cl fp c => (v 7)))
    sm_nil)) sm_nil)
    (sm_cons (sA (em_lst am_nil) (gN c))
    (sm_cons (sF c hp (iS (v 3)) (gN c) (sm_cons (sm_if (tNe c (oIx c (v 5) kI) kS) (sm_cons (sX (mAppend (v 9) (ac (v 5) am_nil)))
    sm_nil) (sm_cons (sm_if (tIn c (oIx c (v 2) (oIx c (v 5) kI)) (v 6)) (sm_cons (sX (mAppend (v 9) (ac (tp (ac kS (ac (mIndex c (v 6) (ac (oIx c (v 2) (oIx c (v 5) kI)) am_nil)) am_nil))) am_nil)))
    sm_nil) (sm_cons (sX (mAppend (v 9) (ac kN am_nil)))
    sm_nil))
    sm_nil))
    sm_nil))
    (sm_cons (sm_if (tIn c kN (v 9)) (sm_cons (sA kN (gN c))
    sm_nil) (sm_cons (sA (cTup c (ac (v 9) am_nil)) (gN c))
    sm_nil))
    (sm_cons (sA (cTup c (ac (em_sl (v 2) om_none (om_some kI)) am_nil)) (gN c))
    (sm_cons (sm_if (tNe c (cRpr c hgu (ac (cF c tk ok_moved_ (ac (oMul (tp (ac (tp (ac kS (ac kI am_nil))) am_nil)) kI) (ac (v 10) (ac (v 10) am_nil)))) am_nil)) (cRpr c hgu (ac (oMul (tp (ac (tp (ac kS (ac kI am_nil))) am_nil)) kI) am_nil))) (sm_cons (sm_ret kB)
    sm_nil) sm_nil)
    (sm_cons (sA (cRpr c hgu (ac (em_lst (ac (v 3) (ac (v 2) (ac (v 6) am_nil)))) am_nil)) (gN c))
    (sm_cons (sA (cF c tk ok_moved_ (ac (cTup c (ac (v 3) am_nil)) (ac (cTup c (ac (v 2) am_nil)) (ac (cTup c (ac (v 6) am_nil)) am_nil)))) (gN c))
    (sm_cons (sm_ret (em_and (oEq c (cRpr c hgu (ac (v 12) am_nil)) (cRpr c hgu (ac (v 9) am_nil))) (em_one (oEq c (cRpr c hgu (ac (em_lst (ac (v 3) (ac (v 2) (ac (v 6) am_nil)))) am_nil)) (v 11)))))
    sm_nil)))))))))))))))
end
end Wy

set_option Elab.async false
set_option linter.all false
set_option maxRecDepth 100000
set_option maxHeartbeats 4000000
namespace Wy
open PySem PySem.Spec PyProof.Rows L2
/-! ### draws -/
theorem cell_ok (ns : List Int) (h : DH) (hp : Pur h) : F_law_cell_at [.rl (ns.map .int), .int 0] h = .ok (.int (ns.getD 0 0)) h := by
  refine den_eq (p := .int (ns.getD 0 0)) ?_ hp rfl
  unfold B_law_cell_at slots0 ofP
  cases ns with
  | nil => simp
  | cons x r => simp
/-- a state: two numbers -/
def St2 (h : DH) (n : Nat) : Prop := ∃ a b : Int, h[n]? = some (.lst [.int a, .int b]) ∧ 0 ≤ a ∧ a < 2147483647 ∧ 0 ≤ b
/-- nothing but the state is another -/
structure Upd (h h' : DH) (n : Nat) : Prop where
  st : St2 h' n
  is : h' = h ∨ ∃ a b : Int, h' = h.set n (.lst [.int a, .int b])
theorem St2.lt {h : DH} {n : Nat} (s : St2 h n) : n < h.length := let ⟨_, _, e, _⟩ := s; (List.getElem?_eq_some_iff.mp e).1
theorem Upd.len {h h' : DH} {n : Nat} (u : Upd h h' n) : h'.length = h.length := by
  rcases u.is with rfl | ⟨a, b, rfl⟩ <;> simp
theorem Upd.pur {h h' : DH} {n : Nat} (u : Upd h h' n) (p : Pur h) : Pur h' := by
  rcases u.is with rfl | ⟨a, b, rfl⟩
  · exact p
  · exact p.set fun k => by simp [Ob.under, D.unders, D.under]
theorem Upd.trans {h h' h'' : DH} {n : Nat} (u : Upd h h' n) (v : Upd h' h'' n) : Upd h h'' n := by
  refine ⟨v.st, ?_⟩
  rcases v.is with rfl | ⟨a, b, rfl⟩
  · exact u.is
  · rcases u.is with rfl | ⟨c, d, rfl⟩
    · exact .inr ⟨a, b, rfl⟩
    · exact .inr ⟨a, b, by rw [List.set_set]⟩
theorem Upd.refl {h : DH} {n : Nat} (s : St2 h n) : Upd h h n := ⟨s, .inl rfl⟩
theorem St2.app {h g : DH} {n : Nat} (s : St2 h n) : St2 (h ++ g) n := let ⟨a, b, e, r⟩ := s; ⟨a, b, by rw [List.getElem?_append_left s.lt]; exact e, r⟩
/-- on a heap in two parts the first is changed -/
theorem Upd.split {h g K : DH} {n : Nat} (s : St2 h n) (u : Upd (h ++ g) K n) : ∃ h', K = h' ++ g ∧ Upd h h' n := by
  have hn := s.lt
  rcases u.is with rfl | ⟨a, b, rfl⟩
  · exact ⟨h, rfl, .refl s⟩
  · refine ⟨h.set n (.lst [.int a, .int b]), by rw [List.set_append_left _ _ hn], ?_, .inr ⟨a, b, rfl⟩⟩
    obtain ⟨c, d, e, r⟩ := u.st
    rw [List.set_append_left _ _ hn, List.getElem?_append_left (by simpa using hn)] at e
    exact ⟨c, d, e, r⟩
theorem next_ok {h : DH} {n : Nat} {z : Int} (hp : Pur h) (st : St2 h n) (z0 : 0 < z) (z1 : z < 2147483648) : ∃ r h', F_law_next [.ref n, .int z] h = .ok (.int r) h' ∧ 0 ≤ r ∧ r < z ∧ Upd h h' n := by
  have hn := st.lt
  obtain ⟨a, b, e, a0, a1, b0⟩ := st
  have e1 : (h.set n (.lst [.int a, .int (b / z)]))[n]? = some (.lst [.int a, .int (b / z)]) := by rw [List.getElem?_set_self hn]
  have e2 : (h.set n (.lst [.int ((a * 48271 + 11) % 2147483647), .int (b / z)]))[n]? = some (.lst [.int ((a * 48271 + 11) % 2147483647), .int (b / z)]) := by rw [List.getElem?_set_self hn]
  have m0 := Int.emod_nonneg (a * 48271 + 11) (show (2147483647 : Int) ≠ 0 by decide)
  have m1 := Int.emod_lt_of_pos (a * 48271 + 11) (show (0 : Int) < 2147483647 by decide)
  generalize ex : (a * 48271 + 11) % 2147483647 = x at m0 m1 e2
  have u : Upd h (h.set n (.lst [.int x, .int (b / z)])) n := ⟨⟨x, b / z, e2, m0, m1, Int.ediv_nonneg b0 (by omega)⟩, .inr ⟨_, _, rfl⟩⟩
  refine ⟨(if 1 < b then b else x * x % 2147483629 / 7) % z, h.set n (.lst [.int x, .int (b / z)]), ?_, Int.emod_nonneg _ (by omega), Int.emod_lt_of_pos _ z0, u⟩
  refine den_eq (p := .int ((if 1 < b then b else x * x % 2147483629 / 7) % z)) ?_ (u.pur hp) u.len
  unfold B_law_next slots0 ofP
  have x64 : x < 18446744073709551616 := by omega
  have x64' : -18446744073709551616 < x := by omega
  simp [ix_ref e, ix_ref e1, ix_ref e2, z0, z1, x64, x64', set_ref e, set_ref e1, ex]
  by_cases c : 1 < b
  · simp [c, z0]
  · simp [c, z0, x64, x64', ix_ref e2]
/-- .. on a heap in two parts -/
theorem next_ok' {h g : DH} {n : Nat} {z : Int} (hp : Pur h) (hg : Pur g) (st : St2 h n) (z0 : 0 < z) (z1 : z < 2147483648) : ∃ r h', F_law_next [.ref n, .int z] (h ++ g) = .ok (.int r) (h' ++ g) ∧ 0 ≤ r ∧ r < z ∧ Upd h h' n := by
  obtain ⟨r, K, e, r0, r1, u⟩ := next_ok (hp.app hg) st.app z0 z1
  obtain ⟨h', rfl, u'⟩ := u.split st
  exact ⟨r, h', e, r0, r1, u'⟩
/-! ### signs, statements -/
def poolP : List PyData := [.tuple [.int 0], .tuple [.int 0, .int 1], .tuple [.int 1], .tuple [.int 1, .int 0], .tuple [.int 1, .int 2], .tuple [.int 1, .int 2, .int 9999], .tuple [.int 2], .tuple [.int 2, .int 0, .int 0, .int 5], .tuple [.int 10], .tuple [.int 10, .int 3], .tuple [.int 9999]]
theorem pool_ok {h : DH} (hp : Pur h) : F_law_pool [] h = .ok (.lv (ofPs poolP)) h := by
  refine den_eq (p := .list poolP) ?_ hp rfl
  unfold B_law_pool slots0
  have z : ∀ l : List D, l.length ≤ 11 → l.length ≤ sizeLine := fun l h => Nat.le_trans h (by decide)
  simp
  rw [mkL_f (z _ (by simp))]
  simp [ofP, poolP, ofPs]
def lets : List Str := ["a", "b", "c"]
def signs : List PyData := lets.flatMap fun c => (poolP.take 4).flatMap fun m => [.tuple [.str c, m, .bool false], .tuple [.str c, m, .bool true]]
theorem signs_fine : signs.all (fun p => fineP p && hashP p && decide (p.depth ≤ 4) && decide (p.weight ≤ 20) && isTup1 p) = true := by decide +kernel
theorem signs_alike : allAlike signs = true := by decide +kernel
theorem sign_mem {i j : Nat} {b : Bool} (hi : i < 3) (hj : j < 4) : ∃ c m, lets[i]? = some c ∧ poolP[j]? = some m ∧ .tuple [.str c, m, .bool b] ∈ signs := by
  have : ∀ i < 3, ∀ j < 4, ∀ b : Bool, ∃ c m, lets[i]? = some c ∧ poolP[j]? = some m ∧ PyData.tuple [.str c, m, .bool b] ∈ signs := by
    intro i hi j hj b
    have e : ∀ c ∈ lets, ∀ m ∈ poolP.take 4, PyData.tuple [.str c, m, .bool b] ∈ signs := fun c hc m hm => by
      unfold signs
      refine List.mem_flatMap.mpr ⟨c, hc, List.mem_flatMap.mpr ⟨m, hm, ?_⟩⟩
      cases b <;> simp
    have hi' : i < lets.length := hi
    have hj' : j < (poolP.take 4).length := hj
    refine ⟨lets[i], (poolP.take 4)[j], List.getElem?_eq_getElem hi', ?_, e _ (List.getElem_mem hi') _ (List.getElem_mem hj')⟩
    have := List.getElem?_eq_getElem hj'
    rw [List.getElem?_take, if_pos hj] at this
    exact this
  exact this i hi j hj b
/-- a statement: some signs -/
def Sta (p : PyData) : Prop := ∃ l, p = .tuple l ∧ l.length ≤ 3 ∧ ∀ s ∈ l, s ∈ signs
structure SignF (p : PyData) : Prop where
  fine : fineP p = true
  hash : hashP p = true
  dep : p.depth ≤ 4
  wt : p.weight ≤ 20
  tup : isTup1 p = true
theorem sign_f {p : PyData} (h : p ∈ signs) : SignF p := by
  have := List.all_eq_true.mp signs_fine p h
  simp only [Bool.and_eq_true, decide_eq_true_eq] at this
  exact ⟨this.1.1.1.1, this.1.1.1.2, this.1.1.2, this.1.2, this.2⟩
theorem sign_l {l : List PyData} (h : ∀ s ∈ l, s ∈ signs) : PyData.canLayAll0 l = true ∧ allAlike l = true ∧ sortable l = true ∧ PyData.depthAll l ≤ 4 ∧ fineP.fineAll l = true ∧ hashP.hashPs l = true ∧ PyData.weightAll l ≤ 21 * l.length := by
  have f : fineP.fineAll l = true := fineAll_iff.mpr fun p hp => (sign_f (h p hp)).fine
  refine ⟨lays_fine l f, ?_, ?_, depthAll_le fun p hp => (sign_f (h p hp)).dep, f, ?_, weightAll_le fun p hp => (sign_f (h p hp)).wt⟩
  · exact List.all_eq_true.mpr fun p hp => List.all_eq_true.mpr fun q hq => List.all_eq_true.mp (List.all_eq_true.mp signs_alike p (h p hp)) q (h q hq)
  · unfold sortable
    rw [List.all_eq_true.mpr fun p hp => (sign_f (h p hp)).tup]; rfl
  · clear f
    induction l with
    | nil => rfl
    | cons x xs ih => simp only [hashP.hashPs, (sign_f (h x (by simp))).hash, ih fun s hs => h s (List.mem_cons_of_mem _ hs), Bool.and_self]
theorem fine20 {j : Int} (h : 0 ≤ j) (h' : j < 2147483648) : fine j := ⟨by omega, by omega⟩
theorem abc_ix {r : Int} {h : DH} (r0 : 0 ≤ r) (r1 : r < 3) : ∃ c, lets[r.toNat]? = some c ∧ ixA (.str "abc") (.int r) h = .ok (.str c) h := by
  have : r = 0 ∨ r = 1 ∨ r = 2 := by omega
  rcases this with rfl | rfl | rfl
  · exact ⟨"a", rfl, rfl⟩
  · exact ⟨"b", rfl, rfl⟩
  · exact ⟨"c", rfl, rfl⟩
theorem ix_at {l : List PyData} {r : Int} {x : PyData} {h : DH} (r0 : 0 ≤ r) (e : l[r.toNat]? = some x) : ixA (.lv (ofPs l)) (.int r) h = .ok (ofP x) h := by
  have : atI (ofPs l) r = some (ofP x) := by
    have := atI_nat' (l := ofPs l) (j := r.toNat) (x := ofP x) (by rw [ofPs_get, e]; rfl)
    rwa [Int.toNat_of_nonneg r0] at this
  rw [ix_lv, this]
def signB : SD → M Fl := mSeq (mAsg (mTup (mCons (m2 ixA (mC (.str "abc")) (mCall F_law_next (mCons (mVar 0) (mCons (mC (.int 3)) mNil)))) (mCons (m2 ixA (mCall F_law_pool mNil) (mCall F_law_next (mCons (mVar 0) (mCons (mC (.int 4)) mNil)))) (mCons (m2 (eqM false) (mCall F_law_next (mCons (mVar 0) (mCons (mC (.int 2)) mNil))) (mC (.int 1))) mNil)))) (gNm 6)) (mSeq (mIf (mTest (m2 (inM true) (mVar 6) (mVar 4))) (mSeq (mExpr (mMeth .list fAppend (mVar 4) (mCons (mVar 6) mNil))) mNext) mNext) mNext)
/-- one more sign -/
theorem sign_step {h g1 : DH} {n k : Nat} {sm : List PyData} {x1 x2 x3 x5 x6 : Option D} (hp : Pur h) (hg : Pur g1) (st : St2 h n) (hk : (h ++ g1).length = k) (sl : sm.length < 100) (sg : ∀ s ∈ sm, s ∈ signs) :
    ∃ x6' h' sm', signB [some (.ref n), x1, x2, x3, some (.ref k), x5, x6] (h ++ (g1 ++ [.lst (ofPs sm)])) = .ok (.nx [some (.ref n), x1, x2, x3, some (.ref k), x5, x6']) (h' ++ (g1 ++ [.lst (ofPs sm')])) ∧ Upd h h' n ∧ sm'.length ≤ sm.length + 1 ∧ ∀ s ∈ sm', s ∈ signs := by
  unfold signB
  have pg : Pur (g1 ++ [.lst (ofPs sm)]) := hg.app (.cons pur_lst pur_nil)
  obtain ⟨r1, h1, e1, a0, a1, u1⟩ := next_ok' (z := 3) hp pg st (by decide) (by decide)
  obtain ⟨c, hc, ec⟩ := abc_ix (h := h1 ++ (g1 ++ [.lst (ofPs sm)])) a0 a1
  have p1 := u1.pur hp
  obtain ⟨r2, h2, e2, b0, b1, u2⟩ := next_ok' (z := 4) p1 pg u1.st (by decide) (by decide)
  have p2 := u2.pur p1
  obtain ⟨r3, h3, e3, c0, c1, u3⟩ := next_ok' (z := 2) p2 pg u2.st (by decide) (by decide)
  obtain ⟨c', m, hc', hm, mem⟩ := sign_mem (i := r1.toNat) (j := r2.toNat) (b := decide (r3 = 1)) (by omega) (by omega)
  rw [hc] at hc'
  cases hc'
  have em := ix_at (h := h2 ++ (g1 ++ [.lst (ofPs sm)])) b0 hm
  have l3 : (h3 ++ g1).length = k := by rw [← hk]; simp [u3.len, u2.len, u1.len]
  have at3 : (h3 ++ (g1 ++ [.lst (ofPs sm)]))[k]? = some (.lst (ofPs sm)) := by rw [← List.append_assoc]; exact at_len l3
  obtain ⟨f1, f2, f3, f4, f5, f6, f7⟩ := sign_l sg
  have sf := sign_f mem
  have hin := in_ref (neg := true) at3 f1 (lay_fine _ sf.fine) (by simp only [PyData.depth]; omega) (by have := sf.dep; omega)
  have u := (u1.trans u2).trans u3
  have val : D.tup [.str c, ofP m, .bl (decide (r3 = 1))] = ofP (.tuple [.str c, m, .bool (decide (r3 = 1))]) := rfl
  rw [← val] at hin
  cases hb : (true ^^ sm.any fun x => PyData.eqv x (.tuple [.str c, m, .bool (decide (r3 = 1))])) with
  | false =>
    refine ⟨some (.tup [.str c, ofP m, .bl (decide (r3 = 1))]), h3, sm, ?_, u, by omega, sg⟩
    rw [hb] at hin
    simp [e1, ec, pool_ok (p1.app pg), e2, em, e3, hin]
  | true =>
    refine ⟨some (.tup [.str c, ofP m, .bl (decide (r3 = 1))]), h3, sm ++ [.tuple [.str c, m, .bool (decide (r3 = 1))]], ?_, u, by simp, fun s hs => ?_⟩
    · have ap := app_ofP (p := .tuple [.str c, m, .bool (decide (r3 = 1))]) at3 (Nat.lt_trans sl (by decide))
      rw [← val] at ap
      rw [← List.append_assoc, set_len l3, List.append_assoc] at ap
      rw [hb] at hin
      simp [e1, ec, pool_ok (p1.app pg), e2, em, e3, hin, ty_ref at3, ap]
    · rcases List.mem_append.mp hs with hs | hs
      · exact sg s hs
      · simp at hs; subst hs; exact mem
theorem sign_loop {h g1 : DH} {n k j : Nat} {x1 x2 x3 x5 x6 : Option D} (hp : Pur h) (hg : Pur g1) (st : St2 h n) (hk : (h ++ g1).length = k) (hj : j ≤ 3) :
    ∃ x5' x6' h' sm, loopM (gNm 5) signB (fun _ => true) (count 0 j) [some (.ref n), x1, x2, x3, some (.ref k), x5, x6] (h ++ (g1 ++ [.lst (ofPs [])])) = .ok (.nx [some (.ref n), x1, x2, x3, some (.ref k), x5', x6']) (h' ++ (g1 ++ [.lst (ofPs sm)])) ∧
      Upd h h' n ∧ sm.length ≤ 3 ∧ ∀ s ∈ sm, s ∈ signs := by
  obtain ⟨s', K, e, h', sm, x5', x6', rfl, rfl, u, l, a⟩ := loop_all (g := gNm 5) (body := signB) (chk := fun _ => true)
    (I := fun ds s K => ∃ h' sm x5 x6, s = [some (.ref n), x1, x2, x3, some (.ref k), x5, x6] ∧ K = h' ++ (g1 ++ [.lst (ofPs sm)]) ∧ Upd h h' n ∧ sm.length + ds.length ≤ 3 ∧ ∀ s ∈ sm, s ∈ signs)
    (fun _ _ _ => rfl) (fun d ds s K ⟨h', sm, x5, x6, es, eK, u, l, a⟩ => by
      subst es; subst eK
      refine ⟨rfl, _, _, rfl, ?_⟩
      simp only [List.length_cons] at l
      obtain ⟨x6', h'', sm', e, u', l', a'⟩ := sign_step (k := k) (x1 := x1) (x2 := x2) (x3 := x3) (x5 := some d) (x6 := x6) (u.pur hp) hg u.st (by rw [← hk]; simp [u.len]) (by omega) a
      exact ⟨_, _, e, h'', sm', some d, x6', rfl, rfl, u.trans u', by omega, a'⟩)
    (count 0 j) [some (.ref n), x1, x2, x3, some (.ref k), x5, x6] (h ++ (g1 ++ [.lst (ofPs [])])) ⟨h, [], x5, x6, rfl, rfl, .refl st, by simpa [count_len] using hj, fun s hs => by simp at hs⟩
  exact ⟨x5', x6', h', sm, e, u, by simpa using l, a⟩
def stmB : SD → M Fl := (mSeq (mAsg (mLst true mNil) (gNm 4)) (mSeq (mFor (srcRng (mCons (mCall F_law_next (mCons (mVar 0) (mCons (mC (.int 4)) mNil))) mNil)) (gNm 5) signB) (mSeq (mExpr (mMeth .list fAppend (mVar 2) (mCons (mCall (one tup1) (mCons (mCall (one (sorted1 false)) (mCons (mVar 4) mNil)) mNil)) mNil))) mNext)))
theorem stm_step {h g0 : DH} {n L : Nat} {ps : List PyData} {x1 x3 x4 x5 x6 : Option D} (hp : Pur h) (hg : Pur g0) (st : St2 h n) (hL : h.length = L) (pl : ps.length < 1000) : ∃ x4' x5' x6' h' g' p, stmB [some (.ref n), x1, some (.ref L), x3, x4, x5, x6] (h ++ .lst (ofPs ps) :: g0) =
      .ok (.nx [some (.ref n), x1, some (.ref L), x3, x4', x5', x6']) (h' ++ .lst (ofPs (ps ++ [p])) :: g') ∧ Upd h h' n ∧ Pur g' ∧ Sta p := by
  have pg : Pur (.lst (ofPs ps) :: g0) := .cons pur_lst hg
  obtain ⟨r, h1, e1, r0, r1, u1⟩ := next_ok' (z := 4) (g := .lst (ofPs ps) :: (g0 ++ [.lst []])) hp (.cons pur_lst (hg.app (.cons (fun n => by simp [Ob.under, D.unders]) pur_nil))) st (by decide) (by decide)
  have p1 := u1.pur hp
  obtain ⟨x5', x6', h2, sm, e2, u2, l2, a2⟩ := sign_loop (x1 := x1) (x2 := some (.ref L)) (x3 := x3) (x5 := x5) (x6 := x6) (j := r.toNat) (k := (h ++ .lst (ofPs ps) :: g0).length) p1 pg u1.st (by simp [u1.len]) (by omega)
  have u := u1.trans u2
  have l3 : (h2 ++ .lst (ofPs ps) :: g0).length = (h ++ .lst (ofPs ps) :: g0).length := by simp [u.len]
  have atk : (h2 ++ (.lst (ofPs ps) :: g0 ++ [.lst (ofPs sm)]))[(h ++ .lst (ofPs ps) :: g0).length]? = some (.lst (ofPs sm)) := by rw [← List.append_assoc]; exact at_len l3
  have atL : (h2 ++ (.lst (ofPs ps) :: g0 ++ [.lst (ofPs sm)]))[L]? = some (.lst (ofPs ps)) := at_len (by rw [u.len, hL])
  obtain ⟨f1, f2, f3, f4, f5, f6, f7⟩ := sign_l a2
  have so := sorted_ref atk f1 f2 f3 (by omega) (Nat.le_trans l2 (by decide))
  have ap := app_ofP (p := .tuple (sortP sm)) atL (Nat.lt_trans pl (by decide))
  rw [List.cons_append, set_len (by rw [u.len, hL])] at ap
  rw [show ofP (.tuple (sortP sm)) = .tup (ofPs (sortP sm)) from rfl] at ap
  refine ⟨some (.ref (h ++ .lst (ofPs ps) :: g0).length), x5', x6', h2, g0 ++ [.lst (ofPs sm)], .tuple (sortP sm), ?_, u, hg.app (.cons pur_lst pur_nil), sortP sm, rfl, by rw [sortP_len]; exact l2, fun s hs => a2 s (sortP_mem.mp hs)⟩
  unfold stmB
  simp only [List.cons_append, List.length_append, List.length_cons] at *
  rw [show ofPs [] = [] from rfl] at e2
  simp [mkL_t (show ([] : List D).length ≤ sizeLine from Nat.zero_le _), e1, rng_ok (fine20 r0 (by omega)), e2, ty_ref atL, so, ap]
theorem statements_ok {h : DH} {n : Nat} {many : Int} (hp : Pur h) (st : St2 h n) (m0 : 0 ≤ many) (m1 : many < 100) : ∃ ps h', F_law_statements [.ref n, .int many] h = .ok (.lv (ofPs ps)) h' ∧ Upd h h' n ∧ ps.length = many.toNat ∧ ∀ p ∈ ps, Sta p := by
  suffices body : ∃ ps h' g, B_law_statements (slots0 7 [.ref n, .int many]) h = .ok (.rt (.ref h.length)) (h' ++ .lst (ofPs ps) :: g) ∧ Upd h h' n ∧ ps.length = many.toNat ∧ ∀ p ∈ ps, Sta p by
    obtain ⟨ps, h', g, e, u, l, a⟩ := body
    exact ⟨ps, h', den_lst e (u.pur hp) u.len, u, l, a⟩
  obtain ⟨s', K, e, h', ps, g0, x3, x4, x5, x6, rfl, rfl, u, pg, l, a⟩ := loop_all (g := gNm 3) (body := stmB) (chk := fun _ => true)
    (I := fun ds s K => ∃ h' ps g0 x3 x4 x5 x6, s = [some (.ref n), some (.int many), some (.ref h.length), x3, x4, x5, x6] ∧ K = h' ++ .lst (ofPs ps) :: g0 ∧ Upd h h' n ∧ Pur g0 ∧ ps.length + ds.length = many.toNat ∧ ∀ p ∈ ps, Sta p)
    (fun _ _ _ => rfl) (fun d ds s K ⟨h', ps, g0, x3, x4, x5, x6, es, eK, u, pg, l, a⟩ => by
      subst es; subst eK
      refine ⟨rfl, _, _, rfl, ?_⟩
      simp only [List.length_cons] at l
      obtain ⟨x4', x5', x6', h'', g', p, e, u', pg', q⟩ := stm_step (L := h.length) (x1 := some (.int many)) (x3 := some d) (x4 := x4) (x5 := x5) (x6 := x6) (u.pur hp) pg u.st u.len (ps := ps) (by omega)
      refine ⟨_, _, e, h'', ps ++ [p], g', some d, x4', x5', x6', rfl, rfl, u.trans u', pg', by simp; omega, fun p' hp' => ?_⟩
      rcases List.mem_append.mp hp' with hp' | hp'
      · exact a p' hp'
      · simp at hp'; subst hp'; exact q)
    (count 0 many.toNat) [some (.ref n), some (.int many), some (.ref h.length), none, none, none, none] (h ++ .lst (ofPs []) :: []) ⟨h, [], [], none, none, none, none, rfl, rfl, .refl st, pur_nil, by simp [count_len], fun s hs => by simp at hs⟩
  refine ⟨ps, h', g0, ?_, u, by simpa using l, a⟩
  rw [show ofPs [] = [] from rfl] at e
  unfold stmB signB at e
  unfold B_law_statements slots0
  simp [mkL_t (show ([] : List D).length ≤ sizeLine from Nat.zero_le _), rng_ok (fine20 m0 (by omega)), e]
end Wy

set_option Elab.async false
set_option linter.all false
set_option maxRecDepth 100000
set_option maxHeartbeats 4000000
namespace Wy
open PySem PySem.Spec PyProof.Rows L2
/-! ### dicts of tuples, at data -/
structure HsK (p : PyData) : Prop where
  tup : ∃ l, p = .tuple l
  hash : hashP p = true
  lay : p.canLay0 = true
  dep : p.depth ≤ 8
section
variable {h : DH} {k : Nat} {kvs : List (D × D)} {p : PyData}
theorem dGet_t (e : h[k]? = some (.dct true kvs)) (q : HsK p) : dGet h (.ref k) (ofP p) = some (dlook toK (keyP p) kvs) := by
  obtain ⟨l, rfl⟩ := q.tup
  have e1 := toK_ofP _ q.hash
  have e2 := key_depth _ q.hash
  have hd := q.dep
  unfold dGet dictOf
  simp only [e]
  rw [show ofP (.tuple l) = .tup (ofPs l) from rfl] at e1 ⊢
  simp only [e1, Option.bind_some, e2, hd, if_true]
theorem in_dct {neg : Bool} (e : h[k]? = some (.dct true kvs)) (q : HsK p) : inM neg (ofP p) (.ref k) h = .ok (.bl (neg ^^ (dlook toK (keyP p) kvs).isSome)) h := by
  have := dGet_t e q
  unfold inM inQ
  simp only [show dictOf h (.ref k) = some (true, kvs) by unfold dictOf; simp only [e], this, Option.map_some]
theorem ix_dct {v : D} (e : h[k]? = some (.dct true kvs)) (q : HsK p) (l : dlook toK (keyP p) kvs = some v) : ixA (.ref k) (ofP p) h = .ok v h := by
  have := dGet_t e q
  unfold ixA
  simp only [show dictOf h (.ref k) = some (true, kvs) by unfold dictOf; simp only [e], this, l]
theorem set_dct {v : D} (e : h[k]? = some (.dct true kvs)) (q : HsK p) (z : kvs.length < sizeLine) : setM (.ref k) (ofP p) v h = .ok () (h.set k (.dct true (dput toK (keyP p) (ofP p) v kvs))) := by
  obtain ⟨l, rfl⟩ := q.tup
  have e1 := toK_ofP _ q.hash
  have e2 := key_depth _ q.hash
  have hd := q.dep
  unfold setM
  simp only [e]
  rw [show ofP (.tuple l) = .tup (ofPs l) from rfl] at e1 ⊢
  simp only [e1, z, e2, hd, and_self, if_true]
end
theorem dlook_append {f : D → Option NestedKey} {k : NestedKey} {a v : D} : ∀ {kvs : List (D × D)}, dlook f k (kvs ++ [(a, v)]) = match dlook f k kvs with
    | some x => some x
    | none => if f a = some k then some v else none
  | [] => by simp [dlook]
  | p :: r => by
    simp only [List.cons_append, dlook, dlook_append (kvs := r)]
    by_cases c : f p.1 = some k
    · simp [c]
    · simp [c]
/-! ### moved -/
def rowIx : PyData → Option Nat
  | .tuple [.str x, .int j] => if x = "given" then some j.toNat else none
  | _ => none
def mvRow (gs os : List PyData) (p : PyData) : Option PyData := match rowIx p with
  | some j => match gs[j]? with
    | some g => (fstEq g os).map fun (i : Nat) => .tuple [.str "given", .int i]
    | none => none
  | none => some p
def mvs (gs os : List PyData) : List PyData → Option (List PyData)
  | [] => some []
  | p :: ps => match mvRow gs os p, mvs gs os ps with
    | some q, some qs => some (q :: qs)
    | _, _ => none
theorem mvs_snoc {gs os : List PyData} {p : PyData} : ∀ {l : List PyData}, mvs gs os (l ++ [p]) = match mvs gs os l, mvRow gs os p with
    | some qs, some q => some (qs ++ [q])
    | _, _ => none
  | [] => by
    simp only [List.nil_append, mvs]
    cases mvRow gs os p <;> rfl
  | x :: l => by
    simp only [List.cons_append, mvs, mvs_snoc (l := l)]
    cases mvRow gs os x <;> cases mvs gs os l <;> cases mvRow gs os p <;> rfl
theorem mvs_none {gs os : List PyData} {p : PyData} {m : List PyData} (h : mvRow gs os p = none) : ∀ {l : List PyData}, mvs gs os (l ++ p :: m) = none
  | [] => by simp only [List.nil_append, mvs, h]
  | x :: l => by simp only [List.cons_append, mvs, mvs_none h (l := l)]; cases mvRow gs os x <;> rfl
def mv (rows gs os : List PyData) : PyData := match mvs gs os rows with
  | some l => .tuple l
  | none => .none
/-- rows of a paper for so many given statements -/
inductive Row (G : Nat) : PyData → Prop
  | giv (j : Nat) : j < G → Row G (.tuple [.str "given", .int j])
  | oth (x : Str) (l : List PyData) : x ≠ "given" → PyData.strOk x = true → Row G (.tuple (.str x :: l))
theorem given_ok : PyData.strOk "given" = true := by decide +kernel
theorem row_oth {gs os : List PyData} {x : Str} {l : List PyData} (h : x ≠ "given") : mvRow gs os (.tuple (.str x :: l)) = some (.tuple (.str x :: l)) := by
  have : rowIx (.tuple (.str x :: l)) = none := by
    unfold rowIx
    split
    · rename_i y j e
      cases e
      rw [if_neg h]
    · rfl
  unfold mvRow
  rw [this]
theorem row_giv {gs os : List PyData} {j : Nat} {g : PyData} (h : gs[j]? = some g) : mvRow gs os (.tuple [.str "given", .int j]) = (fstEq g os).map fun (i : Nat) => .tuple [.str "given", .int i] := by
  unfold mvRow rowIx
  simp only [if_true, Int.toNat_natCast, h]
def numFrom (k : Nat) : List D → List D
  | [] => []
  | x :: xs => .tup [.int k, x] :: numFrom (k + 1) xs
theorem numbered_from (l : List D) : numbered l = numFrom 0 l := by
  have : ∀ (l : List D) (k : Nat), (l.zipIdx k).map (fun x => D.tup [.int (x.2 : Nat), x.1]) = numFrom k l := by
    intro l
    induction l with
    | nil => intro k; rfl
    | cons x xs ih => intro k; rw [List.zipIdx_cons, List.map_cons, ih]; rfl
  exact this l 0
/-- what the dict of places has -/
def Plc (kvs : List (D × D)) (pre : List PyData) : Prop := kvs.length ≤ pre.length ∧ ∀ q, HsK q → dlook toK (keyP q) kvs = (fstEq q pre).map fun (i : Nat) => D.int i
theorem places_ok {h : DH} {paper givens : Option D} {os : List PyData} (ho : ∀ o ∈ os, HsK o) (z : os.length < 1000000) :
    ∃ x4 x5 kvs, loopM (gTp 2 (gsCons (gNm 4) (gsCons (gNm 5) gsNil))) (mSeq (mIf (mTest (m2 (inM true) (mVar 5) (mVar 3))) (mSeq (mAsg (mVar 4) (gSb (mVar 3) (mVar 5) setM)) mNext) mNext) mNext) (stays (.tup (ofPs os)) (ofPs os)) (numbered (ofPs os))
      [paper, givens, some (.tup (ofPs os)), some (.ref h.length), none, none, none, none] (h ++ [.dct true []]) = .ok (.nx [paper, givens, some (.tup (ofPs os)), some (.ref h.length), x4, x5, none, none]) (h ++ [.dct true kvs]) ∧ Plc kvs os := by
  obtain ⟨s', K, e, pre, post, kvs, x4, x5, eo, ed, rfl, rfl, pl⟩ := loop_all (g := gTp 2 (gsCons (gNm 4) (gsCons (gNm 5) gsNil))) (body := mSeq (mIf (mTest (m2 (inM true) (mVar 5) (mVar 3))) (mSeq (mAsg (mVar 4) (gSb (mVar 3) (mVar 5) setM)) mNext) mNext) mNext) (chk := stays (.tup (ofPs os)) (ofPs os))
    (I := fun ds s K => ∃ pre post kvs x4 x5, os = pre ++ post ∧ ds = numFrom pre.length (ofPs post) ∧ s = [paper, givens, some (.tup (ofPs os)), some (.ref h.length), x4, x5, none, none] ∧ K = h ++ [.dct true kvs] ∧ Plc kvs pre)
    (fun _ _ _ => stays_of rfl) (fun d ds s K ⟨pre, post, kvs, x4, x5, eo, ed, es, eK, pl⟩ => by
      subst es; subst eK
      cases post with
      | nil => cases ed
      | cons o post =>
        simp only [ofPs, numFrom, List.cons.injEq] at ed
        obtain ⟨rfl, rfl⟩ := ed
        have hso := ho o (by rw [eo]; simp)
        refine ⟨stays_of rfl, [paper, givens, some (.tup (ofPs os)), some (.ref h.length), some (.int pre.length), some (ofP o), none, none], h ++ [.dct true kvs], by simp, ?_⟩
        have at_ : (h ++ [Ob.dct true kvs])[h.length]? = some (.dct true kvs) := at_last
        have hin := in_dct (neg := true) at_ hso
        have nx : ∀ kvs', Plc kvs' (pre ++ [o]) → ∃ pre' post' kvs'' x4 x5, os = pre' ++ post' ∧ numFrom (pre.length + 1) (ofPs post) = numFrom pre'.length (ofPs post') ∧ [paper, givens, some (D.tup (ofPs os)), some (D.ref h.length), some (.int pre.length), some (ofP o), none, none] = [paper, givens, some (.tup (ofPs os)), some (.ref h.length), x4, x5, none, none] ∧ h ++ [Ob.dct true kvs'] = h ++ [.dct true kvs''] ∧ Plc kvs'' pre' :=
          fun kvs' p => ⟨pre ++ [o], post, kvs', _, _, by rw [eo]; simp, by simp, rfl, rfl, p⟩
        cases el : dlook toK (keyP o) kvs with
        | some v =>
          rw [el] at hin
          refine ⟨_, h ++ [.dct true kvs], by simp [hin], nx kvs ⟨by have := pl.1; simp; omega, fun q hq => ?_⟩⟩
          rw [pl.2 q hq, fstEq_append]
          cases ef : fstEq q pre with
          | some i => rfl
          | none =>
            by_cases c : PyData.eqv o q = true
            · have ek := (key_eqv o q hso.hash hq.hash).mpr c
              rw [ek, pl.2 q hq, ef] at el
              cases el
            · simp [c]
        | none =>
          rw [el] at hin
          have z' : kvs.length < sizeLine := by
            have := pl.1
            have h2 : pre.length < 1000000 := by rw [eo] at z; simp at z; omega
            rw [sizeLine_eq]; omega
          have st := set_dct (v := .int pre.length) at_ hso z'
          rw [set_last] at st
          have ep : dput toK (keyP o) (ofP o) (.int pre.length) kvs = kvs ++ [(ofP o, .int pre.length)] := by unfold dput; rw [el]; rfl
          rw [ep] at st
          refine ⟨_, h ++ [.dct true (kvs ++ [(ofP o, .int pre.length)])], by simp [hin, st], nx _ ⟨by have := pl.1; simp; omega, fun q hq => ?_⟩⟩
          rw [dlook_append, pl.2 q hq, fstEq_append]
          cases ef : fstEq q pre with
          | some i => rfl
          | none =>
            simp only [Option.map_none]
            by_cases c : PyData.eqv o q = true
            · rw [if_pos (by rw [toK_ofP _ hso.hash, (key_eqv o q hso.hash hq.hash).mpr c]), if_pos c]; rfl
            · rw [if_neg (fun e => c ((key_eqv o q hso.hash hq.hash).mp (by rw [toK_ofP _ hso.hash] at e; exact Option.some.inj e))), if_neg c]; rfl)
    (numbered (ofPs os)) [paper, givens, some (.tup (ofPs os)), some (.ref h.length), none, none, none, none] (h ++ [.dct true []]) ⟨[], os, [], none, none, rfl, by rw [numbered_from]; rfl, rfl, rfl, Nat.le_refl _, fun q _ => rfl⟩
  have : post = [] := by
    cases post with
    | nil => rfl
    | cons _ _ => cases ed
  subst this
  rw [List.append_nil] at eo
  subst eo
  exact ⟨x4, x5, kvs, e, pl⟩
theorem ix_tup_at {l : List PyData} {j : Nat} {x : PyData} {h : DH} (e : l[j]? = some x) : ixA (.tup (ofPs l)) (.int j) h = .ok (ofP x) h := by
  rw [ix_tup, atI_nat' (x := ofP x) (by rw [ofPs_get, e]; rfl)]
theorem moved_ok {h : DH} {rows gs os : List PyData} (hp : Pur h) (hr : ∀ r ∈ rows, Row gs.length r) (hg : ∀ g ∈ gs, HsK g) (ho : ∀ o ∈ os, HsK o) (zo : os.length < 1000000) (zr : rows.length < 1000000) :
    F_moved [.tup (ofPs rows), .tup (ofPs gs), .tup (ofPs os)] h = .ok (ofP (mv rows gs os)) h := by
  obtain ⟨x4, x5, kvs, e1, pl⟩ := places_ok (h := h) (paper := some (.tup (ofPs rows))) (givens := some (.tup (ofPs gs))) ho zo
  have l1 : (h ++ [Ob.dct true kvs]).length = h.length + 1 := by simp
  have second := loop_run (g := gNm 7) (body := (mSeq (mIf (mTest (m2 (eqM true) (m2 ixA (mVar 7) (mC (.int 0))) (mC (.str "given")))) (mSeq (mExpr (mMeth .list fAppend (mVar 6) (mCons (mVar 7) mNil))) mNext) (mSeq (mIf (mTest (m2 (inM true) (m2 ixA (mVar 1) (m2 ixA (mVar 7) (mC (.int 1)))) (mVar 3))) (mSeq (mRet (mC .non)) mNext) (mSeq (mExpr (mMeth .list fAppend (mVar 6) (mCons (mTup (mCons (mC (.str "given")) (mCons (m2 ixA (mVar 3) (m2 ixA (mVar 1) (m2 ixA (mVar 7) (mC (.int 1))))) mNil))) mNil))) mNext)) mNext)) mNext)) (chk := stays (.tup (ofPs rows)) (ofPs rows))
    (I := fun ds s K => ∃ pre post acc x7, rows = pre ++ post ∧ ds = ofPs post ∧ s = [some (.tup (ofPs rows)), some (.tup (ofPs gs)), some (.tup (ofPs os)), some (.ref h.length), x4, x5, some (.ref (h.length + 1)), x7] ∧ K = h ++ [.dct true kvs, .lst (ofPs acc)] ∧ mvs gs os pre = some acc ∧ acc.length = pre.length)
    (R := fun v K => v = .non ∧ mvs gs os rows = none ∧ ∃ g, K = h ++ g)
    (fun _ _ _ => stays_of rfl) (fun d ds s K ⟨pre, post, acc, x7, eo, ed, es, eK, em, el⟩ => by
      subst es; subst eK
      cases post with
      | nil => cases ed
      | cons r post =>
        simp only [ofPs, List.cons.injEq] at ed
        obtain ⟨rfl, rfl⟩ := ed
        refine ⟨stays_of rfl, [some (.tup (ofPs rows)), some (.tup (ofPs gs)), some (.tup (ofPs os)), some (.ref h.length), x4, x5, some (.ref (h.length + 1)), some (ofP r)], h ++ [.dct true kvs, .lst (ofPs acc)], by simp, ?_⟩
        have at0 : (h ++ [Ob.dct true kvs, .lst (ofPs acc)])[h.length]? = some (.dct true kvs) := at_len rfl
        have at1 : (h ++ [Ob.dct true kvs, .lst (ofPs acc)])[h.length + 1]? = some (.lst (ofPs acc)) := by
          rw [show h ++ [Ob.dct true kvs, .lst (ofPs acc)] = (h ++ [Ob.dct true kvs]) ++ [.lst (ofPs acc)] by simp]
          exact at_len l1
        have ap : ∀ p, fAppend (.ref (h.length + 1)) [ofP p] (h ++ [Ob.dct true kvs, .lst (ofPs acc)]) = .ok .non (h ++ [Ob.dct true kvs, .lst (ofPs (acc ++ [p]))]) := fun p => by
          rw [app_ofP at1 (by
            have h2 : pre.length < 1000000 := by rw [eo] at zr; simp at zr; omega
            rw [sizeLine_eq]; omega)]
          rw [show h ++ [Ob.dct true kvs, .lst (ofPs acc)] = (h ++ [Ob.dct true kvs]) ++ [.lst (ofPs acc)] by simp, set_len l1]
          simp
        have nx : ∀ q, mvRow gs os r = some q → ∃ pre' post' acc' x7', rows = pre' ++ post' ∧ ofPs post = ofPs post' ∧ [some (D.tup (ofPs rows)), some (.tup (ofPs gs)), some (.tup (ofPs os)), some (.ref h.length), x4, x5, some (.ref (h.length + 1)), some (ofP r)] = [some (D.tup (ofPs rows)), some (.tup (ofPs gs)), some (.tup (ofPs os)), some (.ref h.length), x4, x5, some (.ref (h.length + 1)), x7'] ∧
            h ++ [Ob.dct true kvs, .lst (ofPs (acc ++ [q]))] = h ++ [Ob.dct true kvs, .lst (ofPs acc')] ∧ mvs gs os pre' = some acc' ∧ acc'.length = pre'.length := fun q hq =>
          ⟨pre ++ [r], post, acc ++ [q], _, by rw [eo]; simp, rfl, rfl, rfl, by rw [mvs_snoc, em, hq], by simp [el]⟩
        cases hr r (by rw [eo]; simp) with
        | oth x l hx ok =>
          refine .inl ⟨_, h ++ [.dct true kvs, .lst (ofPs (acc ++ [.tuple (.str x :: l)]))], .inl ?_, nx _ (row_oth hx)⟩
          have := ap (.tuple (.str x :: l))
          rw [show ofP (.tuple (.str x :: l)) = .tup (.str x :: ofPs l) from rfl] at this ⊢
          simp [eq_str' ok given_ok, hx, ty_ref at1, this]
        | giv j hj =>
          obtain ⟨g, hgj⟩ : ∃ g, gs[j]? = some g := ⟨gs[j], List.getElem?_eq_getElem hj⟩
          have hsg := hg g (List.mem_of_getElem? hgj)
          have ixg : atI (ofPs gs) (j : Int) = some (ofP g) := atI_nat' (by rw [ofPs_get, hgj]; rfl)
          have hin := in_dct (neg := true) at0 hsg
          have lk := pl.2 g hsg
          rw [show ofP (.tuple [.str "given", .int j]) = .tup [.str "given", .int j] from rfl]
          cases ef : fstEq g os with
          | none =>
            rw [ef] at lk
            rw [lk] at hin
            refine .inr ⟨.non, h ++ [.dct true kvs, .lst (ofPs acc)], ?_, rfl, by rw [eo]; exact mvs_none (by rw [row_giv hgj, ef]; rfl), _, rfl⟩
            simp [eq_str' given_ok given_ok, ixg, hin]
          | some i =>
            rw [ef] at lk
            rw [lk] at hin
            refine .inl ⟨_, h ++ [.dct true kvs, .lst (ofPs (acc ++ [.tuple [.str "given", .int i]]))], .inl ?_, nx _ (by rw [row_giv hgj, ef]; rfl)⟩
            have := ap (.tuple [.str "given", .int i])
            rw [show ofP (.tuple [.str "given", .int (i : Nat)]) = .tup [.str "given", .int (i : Nat)] from rfl] at this
            simp [eq_str' given_ok given_ok, ixg, hin, ix_dct at0 hsg lk, ty_ref at1, this]
            rfl)
    (ofPs rows) [some (.tup (ofPs rows)), some (.tup (ofPs gs)), some (.tup (ofPs os)), some (.ref h.length), x4, x5, some (.ref (h.length + 1)), none] (h ++ [.dct true kvs, .lst (ofPs [])]) ⟨[], rows, [], none, rfl, rfl, rfl, rfl, rfl, rfl⟩
  have srcE : enumSrc [.tup (ofPs os)] (h ++ [.dct true []]) = .ok (numbered (ofPs os), stays (.tup (ofPs os)) (ofPs os)) (h ++ [.dct true []]) := rfl
  have srcS : ∀ K, seqSrc (.tup (ofPs rows)) K = .ok (ofPs rows, stays (.tup (ofPs rows)) (ofPs rows)) K := fun _ => rfl
  have mk : mkL true [] (h ++ [.dct true kvs]) = .ok (.ref (h.length + 1)) (h ++ [.dct true kvs, .lst (ofPs [])]) := by
    rw [mkL_t (Nat.zero_le _), l1]; simp [ofPs]
  rcases second with ⟨s', K, e2, pre, post, acc, x7, eo, ed, rfl, rfl, em, el⟩ | ⟨v, K, e2, rfl, em, g, rfl⟩
  · have : post = [] := by
      cases post with
      | nil => rfl
      | cons _ _ => cases ed
    subst this
    rw [List.append_nil] at eo
    subst eo
    have at1 : (h ++ [Ob.dct true kvs, .lst (ofPs acc)])[h.length + 1]? = some (.lst (ofPs acc)) := by
      rw [show h ++ [Ob.dct true kvs, .lst (ofPs acc)] = (h ++ [Ob.dct true kvs]) ++ [.lst (ofPs acc)] by simp]
      exact at_len l1
    unfold mv
    rw [em]
    refine den_app (g := [.dct true kvs, .lst (ofPs acc)]) ?_ hp rfl
    unfold B_moved slots0
    simp [srcE, srcS, e1, mk, e2, tup1_ref at1]
    rfl
  · unfold mv
    rw [em]
    refine den_app (g := g) ?_ hp rfl
    unfold B_moved slots0
    simp [srcE, srcS, e1, mk, e2]
    rfl
end Wy

set_option Elab.async false
set_option linter.all false
set_option maxRecDepth 100000
set_option maxHeartbeats 4000000
namespace Wy
open PySem PySem.Spec PyProof.Rows L2
/-! ### the rows -/
theorem state_ok (cell : Int) : ∃ a b : Int, F_law_state [.int cell, .int 3] [] = .ok (.ref 0) [.lst [.int a, .int b]] ∧ St2 [.lst [.int a, .int b]] 0 := by
  have m0 := Int.emod_nonneg (cell * 69621 + 7919 * 3 + 1) (show (2147483647 : Int) ≠ 0 by decide)
  have m1 := Int.emod_lt_of_pos (cell * 69621 + 7919 * 3 + 1) (show (0 : Int) < 2147483647 by decide)
  refine ⟨(cell * 69621 + 7919 * 3 + 1) % 2147483647, if 0 < cell / 1000000000000000000 then cell / 1000000000000000000 else 0, ?_, _, _, rfl, m0, m1, by split <;> omega⟩
  have p : ∀ h, opPow (.int 10) (.int 18) h = .ok (.int 1000000000000000000) h := fun h => pow_int' ⟨by decide, by decide, by decide⟩
  have dv : ∀ h, opFdiv (.int cell) (.int 1000000000000000000) h = .ok (.int (cell / 1000000000000000000)) h := fun h => fdiv_int' ⟨by decide, by decide⟩
  have mx : ∀ h, max2 (.int 0) (.int (cell / 1000000000000000000)) h = .ok (.int (if 0 < cell / 1000000000000000000 then cell / 1000000000000000000 else 0)) h := fun h => rfl
  have body : B_law_state (slots0 2 [.int cell, .int 3]) [] = .ok (.rt (.ref 0)) [.lst [.int ((cell * 69621 + 7919 * 3 + 1) % 2147483647), .int (if 0 < cell / 1000000000000000000 then cell / 1000000000000000000 else 0)]] := by
    unfold B_law_state slots0
    have mk2 : ∀ (a b : D) (h : DH), mkL true [a, b] h = .ok (.ref h.length) (h ++ [.lst [a, b]]) := fun a b h => mkL_t (Nat.le_trans (show [a, b].length ≤ 2 from Nat.le_refl _) (by decide))
    simp [p, dv, mx, mk2]
  unfold F_law_state den cutZ
  rw [ev_bind, body]
  simp [endF, out, D.under]
theorem mixed_ok {c k : Int} {h : DH} (hp : Pur h) (k0 : 0 ≤ k) (k1 : k < 1000) : ∃ r, F_law_mixed [.int c, .int k] h = .ok (.int r) h ∧ 0 ≤ r ∧ r < 2147483647 := by
  have m0 := Int.emod_nonneg (c * 48271 + (k + 1) * 1299721) (show (2147483647 : Int) ≠ 0 by decide)
  have m1 := Int.emod_lt_of_pos (c * 48271 + (k + 1) * 1299721) (show (0 : Int) < 2147483647 by decide)
  refine ⟨((c * 48271 + (k + 1) * 1299721) % 2147483647) ^ 5 % 2147483647, ?_, Int.emod_nonneg _ (by decide), Int.emod_lt_of_pos _ (by decide)⟩
  refine den_eq (p := .int (((c * 48271 + (k + 1) * 1299721) % 2147483647) ^ 5 % 2147483647)) ?_ hp rfl
  generalize ex : (c * 48271 + (k + 1) * 1299721) % 2147483647 = x at m0 m1
  have p : ∀ h, opPow (.int x) (.int 5) h = .ok (.int (x ^ 5)) h := fun h => pow_int' ⟨by decide, by decide, by omega⟩
  unfold B_law_mixed slots0 ofP
  simp [ex, p]
/-- rows as they come -/
structure RowF (G : Nat) (p : PyData) : Prop where
  row : Row G p
  fine : fineP p = true
  dep : p.depth ≤ 4
  wt : p.weight ≤ 300
theorem wt_int {i : Int} (h : 0 ≤ i) (h2 : i < 2147483648) : (PyData.int i).weight ≤ 32 := by
  unfold PyData.weight
  split
  · omega
  · have z : i.natAbs ≠ 0 := by
      intro e
      have : i = 0 := by omega
      simp_all
    have := (Nat.log2_lt z (k := 31)).mpr (by omega)
    omega
theorem row_giv_f {G : Nat} {j : Nat} (h : j < G) (hG : G < 1000) : RowF G (.tuple [.str "given", .int j]) := by
  have w := wt_int (i := (j : Nat)) (by omega) (by omega)
  have z : j < 1000000000000 := by omega
  exact ⟨.giv j h, by simp [fineP, fineP.fineAll, given_ok, z], by simp [PyData.depth, PyData.depthAll], by simp only [PyData.weight, PyData.weightAll] at w ⊢; rw [show (Str.ofString "given").cps.size = 5 from rfl]; omega⟩
theorem said_ok : PyData.strOk "said" = true := by decide +kernel
theorem both_ok : PyData.strOk "both" = true := by decide +kernel
theorem a_ok : PyData.strOk "a" = true := by decide +kernel
theorem row_said {G : Nat} {i : Int} (h : 0 ≤ i) (h2 : i < 2147483648) : RowF G (.tuple [.str "said", .int i]) := by
  have w := wt_int h h2
  have z : i.natAbs < 1000000000000 := by omega
  exact ⟨.oth _ _ (by decide +kernel) said_ok, by simp [fineP, fineP.fineAll, said_ok, z], by simp [PyData.depth, PyData.depthAll], by simp only [PyData.weight, PyData.weightAll] at w ⊢; rw [show (Str.ofString "said").cps.size = 4 from rfl]; omega⟩
theorem row_both {G : Nat} {i j k : Int} (h : 0 ≤ i) (h2 : i < 2147483648) (h3 : 0 ≤ j) (h4 : j < 2147483648) (h5 : 0 ≤ k) (h6 : k < 2147483648) : RowF G (.tuple [.str "both", .int i, .int j, .str "a", .tuple [.int k]]) := by
  have w := wt_int h h2
  have w2 := wt_int h3 h4
  have w3 := wt_int h5 h6
  have z : i.natAbs < 1000000000000 := by omega
  have z2 : j.natAbs < 1000000000000 := by omega
  have z3 : k.natAbs < 1000000000000 := by omega
  exact ⟨.oth _ _ (by decide +kernel) both_ok, by simp [fineP, fineP.fineAll, both_ok, a_ok, z, z2, z3], by simp [PyData.depth, PyData.depthAll], by
    simp only [PyData.weight, PyData.weightAll] at w w2 w3 ⊢; rw [show (Str.ofString "both").cps.size = 4 from rfl, show (Str.ofString "a").cps.size = 1 from rfl]; omega⟩
theorem count_mem {n : Nat} {d : D} (h : d ∈ count 0 n) : ∃ i : Nat, d = .int i ∧ i < n := by
  unfold count at h
  obtain ⟨i, hi, rfl⟩ := List.mem_map.mp h
  exact ⟨i, by simp, List.mem_range.mp hi⟩
theorem rows_ok {ns : List Int} {gs : List PyData} {h : DH} (hp : Pur h) (hn : ns.length ≤ 63) (g0 : 0 < gs.length) (g1 : gs.length < 1000) :
    ∃ rs, F_law_rows [.rl (ns.map .int), .lv (ofPs gs)] h = .ok (.lv (ofPs rs)) h ∧ rs.length ≤ 40 ∧ ∀ r ∈ rs, RowF gs.length r := by
  have mn : ∀ h, min2 (.int 40) (.int (ns.length : Nat)) h = .ok (.int (if (ns.length : Int) < 40 then (ns.length : Nat) else 40)) h := fun h => rfl
  generalize em : (if (ns.length : Int) < 40 then (ns.length : Int) else 40) = m at mn
  have m0 : 0 ≤ m := by subst em; split <;> omega
  have m1 : m ≤ 40 := by subst em; split <;> omega
  have mle : m ≤ ns.length := by subst em; split <;> omega
  suffices body : ∃ rs, B_law_rows (slots0 5 [.rl (ns.map .int), .lv (ofPs gs)]) h = .ok (.rt (.ref h.length)) (h ++ .lst (ofPs rs) :: []) ∧ rs.length ≤ 40 ∧ ∀ r ∈ rs, RowF gs.length r by
    obtain ⟨rs, e, l, a⟩ := body
    exact ⟨rs, den_lst e hp rfl, l, a⟩
  obtain ⟨s', K, e, rs, x3, x4, rfl, rfl, l, -, a⟩ := loop_all (g := gNm 3) (body := (mSeq (mAsg (mCall F_law_mixed (mCons (m2 ixA (mVar 0) (mVar 3)) (mCons (mVar 3) mNil))) (gNm 4)) (mSeq (mIf (mOrT (mTest (m2 (eqM false) (m2 opMod (mVar 4) (mC (.int 3))) (mC (.int 0)))) (mTest (m2 (ordM .lt) (mVar 3) (mC (.int 2))))) (mSeq (mExpr (mMeth .list fAppend (mVar 2) (mCons (mTup (mCons (mC (.str "given")) (mCons (m2 opMod (m2 opFdiv (mVar 4) (mC (.int 3))) (mCall (one len1) (mCons (mVar 1) mNil))) mNil))) mNil))) mNext) (mSeq (mIf (mTest (m2 (eqM false) (m2 opMod (mVar 4) (mC (.int 3))) (mC (.int 1)))) (mSeq (mExpr (mMeth .list fAppend (mVar 2) (mCons (mTup (mCons (mC (.str "said")) (mCons (m2 opMod (m2 opFdiv (mVar 4) (mC (.int 3))) (mC (.int 4))) mNil))) mNil))) mNext) (mSeq (mExpr (mMeth .list fAppend (mVar 2) (mCons (mTup (mCons (mC (.str "both")) (mCons (m2 opMod (m2 opFdiv (mVar 4) (mC (.int 3))) (mVar 3)) (mCons (m2 opMod (m2 opFdiv (mVar 4) (mC (.int 129))) (mVar 3)) (mCons (mC (.str "a")) (mCons (mTup (mCons (m2 opMod (m2 opFdiv (mVar 4) (mC (.int 7))) (mC (.int 9))) mNil)) mNil)))))) mNil))) mNext)) mNext)) mNext))) (chk := fun _ => true)
    (I := fun ds s K => ∃ rs x3 x4, s = [some (.rl (ns.map .int)), some (.lv (ofPs gs)), some (.ref h.length), x3, x4] ∧ K = h ++ .lst (ofPs rs) :: [] ∧ rs.length + ds.length ≤ 40 ∧ (∀ d ∈ ds, ∃ i : Nat, d = .int i ∧ (i : Int) < m) ∧ ∀ r ∈ rs, RowF gs.length r)
    (fun _ _ _ => rfl) (fun d ds s K ⟨rs, x3, x4, es, eK, l, ad, a⟩ => by
      subst es; subst eK
      obtain ⟨i, rfl, hi⟩ := ad d (by simp)
      simp only [List.length_cons] at l
      refine ⟨rfl, [some (.rl (ns.map .int)), some (.lv (ofPs gs)), some (.ref h.length), some (.int i), x4], h ++ .lst (ofPs rs) :: [], by simp, ?_⟩
      have at_ : (h ++ Ob.lst (ofPs rs) :: [])[h.length]? = some (.lst (ofPs rs)) := at_last
      have pK : Pur (h ++ Ob.lst (ofPs rs) :: []) := hp.app (.cons pur_lst pur_nil)
      have ap : ∀ p, fAppend (.ref h.length) [ofP p] (h ++ Ob.lst (ofPs rs) :: []) = .ok .non (h ++ Ob.lst (ofPs (rs ++ [p])) :: []) := fun p => by
        rw [app_ofP at_ (Nat.lt_of_le_of_lt (show rs.length ≤ 40 by omega) (by decide)), set_last]
      obtain ⟨cx, hcx⟩ : ∃ c, ns[i]? = some c := ⟨ns[i]'(by omega), List.getElem?_eq_getElem (by omega)⟩
      have ixn : atI (ns.map D.int) (i : Int) = some (.int cx) := atI_nat' (by rw [List.getElem?_map, hcx]; rfl)
      obtain ⟨r, er, r0, r1⟩ := mixed_ok (c := cx) (k := i) pK (by omega) (by omega)
      have nx : ∀ p, RowF gs.length p → ∃ rs' x3 x4', [some (D.rl (ns.map .int)), some (.lv (ofPs gs)), some (.ref h.length), some (.int i), some (.int r)] = [some (.rl (ns.map .int)), some (.lv (ofPs gs)), some (.ref h.length), x3, x4'] ∧ h ++ Ob.lst (ofPs (rs ++ [p])) :: [] = h ++ .lst (ofPs rs') :: [] ∧ rs'.length + ds.length ≤ 40 ∧ (∀ d ∈ ds, ∃ i : Nat, d = .int i ∧ (i : Int) < m) ∧ ∀ r ∈ rs', RowF gs.length r := fun p hp' =>
        ⟨rs ++ [p], _, _, rfl, rfl, by simp; omega, fun d hd => ad d (List.mem_cons_of_mem _ hd), fun q hq => by
          rcases List.mem_append.mp hq with hq | hq
          · exact a q hq
          · simp at hq; subst hq; exact hp'⟩
      have G : ((ofPs gs).length : Int) = gs.length := by rw [ofPs_len]
      have gpos : (0 : Int) < (ofPs gs).length := by omega
      have la : ∀ K, len1 (.lv (ofPs gs)) K = .ok (.int gs.length) K := fun K => by rw [len_lv, G]
      have gpos : (0 : Int) < gs.length := by omega
      have d0 : 0 ≤ r / 3 := by omega
      have d1 : r / 3 < 2147483648 := by omega
      have q0 := Int.emod_nonneg (r / 3) (show (gs.length : Int) ≠ 0 by omega)
      have q1 := Int.emod_lt_of_pos (r / 3) gpos
      obtain ⟨j, ej⟩ : ∃ j : Nat, r / 3 % (gs.length : Int) = j := ⟨_, (Int.toNat_of_nonneg q0).symm⟩
      rw [ej] at q1
      have md : ∀ K, opMod (.int (r / 3)) (.int (gs.length : Nat)) K = .ok (.int j) K := fun K => by rw [mod_int' gpos, ej]
      have giv := ap (.tuple [.str "given", .int j])
      rw [show ofP (.tuple [.str "given", .int (j : Nat)]) = .tup [.str "given", .int (j : Nat)] from rfl] at giv
      by_cases c1 : r % 3 = 0
      · exact ⟨_, _, by simp [ixn, er, c1, la, md, ty_ref at_, giv], nx _ (row_giv_f (j := j) (by omega) g1)⟩
      by_cases c2 : (i : Int) < 2
      · exact ⟨_, _, by simp [ixn, er, c1, c2, la, md, ty_ref at_, giv], nx _ (row_giv_f (j := j) (by omega) g1)⟩
      by_cases c3 : r % 3 = 1
      · have s0 := Int.emod_nonneg (r / 3) (show (4 : Int) ≠ 0 by decide)
        have s1 := Int.emod_lt_of_pos (r / 3) (show (0 : Int) < 4 by decide)
        have said := ap (.tuple [.str "said", .int (r / 3 % 4)])
        rw [show ofP (.tuple [.str "said", .int (r / 3 % 4)]) = .tup [.str "said", .int (r / 3 % 4)] from rfl] at said
        exact ⟨_, _, by simp [ixn, er, c1, c2, c3, ty_ref at_, said], nx _ (row_said s0 (by omega))⟩
      · have ipos : (0 : Int) < i := by omega
        have a0 := Int.emod_nonneg (r / 3) (show (i : Int) ≠ 0 by omega)
        have a1 := Int.emod_lt_of_pos (r / 3) ipos
        have b0 := Int.emod_nonneg (r / 129) (show (i : Int) ≠ 0 by omega)
        have b1 := Int.emod_lt_of_pos (r / 129) ipos
        have c0 := Int.emod_nonneg (r / 7) (show (9 : Int) ≠ 0 by decide)
        have c4 := Int.emod_lt_of_pos (r / 7) (show (0 : Int) < 9 by decide)
        have mi1 : ∀ K, opMod (.int (r / 3)) (.int (i : Nat)) K = .ok (.int (r / 3 % i)) K := fun K => mod_int' ipos
        have mi2 : ∀ K, opMod (.int (r / 129)) (.int (i : Nat)) K = .ok (.int (r / 129 % i)) K := fun K => mod_int' ipos
        have both := ap (.tuple [.str "both", .int (r / 3 % i), .int (r / 129 % i), .str "a", .tuple [.int (r / 7 % 9)]])
        rw [show ofP (.tuple [.str "both", .int (r / 3 % i), .int (r / 129 % i), .str "a", .tuple [.int (r / 7 % 9)]]) = .tup [.str "both", .int (r / 3 % i), .int (r / 129 % i), .str "a", .tup [.int (r / 7 % 9)]] from rfl] at both
        exact ⟨_, _, by simp [ixn, er, c1, c2, c3, mi1, mi2, ty_ref at_, both], nx _ (row_both a0 (by omega) b0 (by omega) c0 (by omega))⟩)
    (count 0 m.toNat) [some (.rl (ns.map .int)), some (.lv (ofPs gs)), some (.ref h.length), none, none] (h ++ .lst (ofPs []) :: []) ⟨[], none, none, rfl, rfl, by simp [count_len]; omega, fun d hd => by
      obtain ⟨i, e, hi⟩ := count_mem hd
      exact ⟨i, e, by omega⟩, fun s hs => by simp at hs⟩
  refine ⟨rs, ?_, by simpa using l, a⟩
  rw [show ofPs [] = [] from rfl] at e
  unfold B_law_rows slots0
  simp [mkL_t (show ([] : List D).length ≤ sizeLine from Nat.zero_le _), mn, rng_ok (fine20 m0 (by omega)), e]
end Wy

set_option Elab.async false
set_option linter.all false
set_option maxRecDepth 100000
set_option maxHeartbeats 4000000
namespace Wy
open PySem PySem.Spec PyProof.Rows L2
theorem seq_ok {f g : SD → M Fl} {s s' : SD} {h h' : DH} (e : f s h = .ok (.nx s') h') : mSeq f g s h = g s' h' := by rw [ev_seq, e]; rfl
theorem seq_rt {f g : SD → M Fl} {s : SD} {d : D} {h h' : DH} (e : f s h = .ok (.rt d) h') : mSeq f g s h = .ok (.rt d) h' := by rw [ev_seq, e]; rfl
theorem sta_hs {p : PyData} (h : Sta p) : HsK p ∧ fineP p = true ∧ p.depth ≤ 5 ∧ p.weight ≤ 63 := by
  obtain ⟨l, rfl, hl, hs⟩ := h
  obtain ⟨f1, f2, f3, f4, f5, f6, f7⟩ := sign_l hs
  refine ⟨⟨⟨l, rfl⟩, by simpa [hashP] using f6, by simpa [PyData.canLay0] using f1, by simp only [PyData.depth]; omega⟩, by simpa [fineP] using f5, by simp only [PyData.depth]; omega, by simp only [PyData.weight]; omega⟩
theorem stas_l {l : List PyData} (h : ∀ p ∈ l, Sta p) : PyData.canLayAll0 l = true ∧ PyData.depthAll l ≤ 5 ∧ fineP.fineAll l = true ∧ PyData.weightAll l ≤ 64 * l.length :=
  ⟨lays_iff.mpr fun p hp => (sta_hs (h p hp)).1.lay, depthAll_le fun p hp => (sta_hs (h p hp)).2.2.1, fineAll_iff.mpr fun p hp => (sta_hs (h p hp)).2.1, weightAll_le fun p hp => (sta_hs (h p hp)).2.2.2⟩
theorem cat_lv {a b : List PyData} {h : DH} (z : a.length + b.length ≤ sizeLine) : opAdd false (.lv (ofPs a)) (.lv (ofPs b)) h = .ok (.lv (ofPs (a ++ b))) h := by
  show mkL false (ofPs a ++ ofPs b) h = _
  rw [← ofPs_append, mkL_f (by rw [ofPs_len, List.length_append]; exact z)]
def cutP (l : List PyData) (hi : Int) : List PyData := (l.drop (HT.sIx l.length 0 none)).take (HT.sIx l.length l.length (some hi) - HT.sIx l.length 0 none)
theorem cut_lv {l : List PyData} {hi : Int} {h : DH} (z : l.length ≤ sizeLine) : slM false (.lv (ofPs l)) none (some hi) h = .ok (.lv (ofPs (cutP l hi))) h := by
  show mkL false (cutD (ofPs l) none (some hi)) h = _
  have : cutD (ofPs l) none (some hi) = ofPs (cutP l hi) := by
    unfold cutD cutP
    rw [ofPs_len, ofPs_map, ofPs_map, List.map_take, List.map_drop]
  rw [this, mkL_f]
  rw [ofPs_len]
  unfold cutP
  rw [List.length_take, List.length_drop]
  omega
theorem cutP_mem {l : List PyData} {hi : Int} {p : PyData} (h : p ∈ cutP l hi) : p ∈ l := List.mem_of_mem_drop (List.mem_of_mem_take h)
theorem cutP_len {l : List PyData} {hi : Int} : (cutP l hi).length ≤ l.length := by
  unfold cutP; rw [List.length_take, List.length_drop]; omega
theorem cutP_1 {l : List PyData} : cutP l 1 = l.take 1 := by
  unfold cutP
  rw [HT.sIx_none, show HT.sIx l.length l.length (some 1) = min 1 l.length from HT.sIx_nat l.length l.length 1, List.drop_zero, Nat.sub_zero]
  cases l <;> simp
theorem ins_ref {h : DH} {k : Nat} {l : List PyData} {p : PyData} {i : Int} (e : h[k]? = some (.lst (ofPs l))) (z : l.length < sizeLine) (i0 : 0 ≤ i) (i1 : i < 2 ^ 63) : fInsert (.ref k) [.int i, ofP p] h = .ok .non (h.set k (.lst (ofPs (l.take i.toNat ++ [p] ++ l.drop i.toNat)))) := by
  unfold fInsert mutL
  simp only [e, ofPs_len, z, i0, i1, and_self, if_true]
  rw [ofPs_map, ofPs_map, List.map_append, List.map_append, List.map_take, List.map_drop]
  rfl
/-! ### the others -/
def insB : SD → M Fl := (mSeq (mExpr (mMeth .list fInsert (mVar 6) (mCons (mCall F_law_next (mCons (mVar 1) (mCons (m2 (opAdd false) (mCall (one len1) (mCons (mVar 6) mNil)) (mC (.int 1))) mNil))) (mCons (mVar 7) mNil)))) mNext)
theorem ins_loop {h : DH} {x0 x2 x3 x4 x5 x7 x8 x9 x10 x11 x12 : Option D} {l : List PyData} (hp : Pur h) (st : St2 h 0) (hl : h.length = 1) (ll : l.length ≤ 100) (la : ∀ p ∈ l, Sta p) :
    ∃ x7' h' os, loopM (gNm 7) insB (stays (.lv (ofPs l)) (ofPs l)) (ofPs l) [x0, some (.ref 0), x2, x3, x4, x5, some (.ref 1), x7, x8, x9, x10, x11, x12] (h ++ [.lst (ofPs [])]) = .ok (.nx [x0, some (.ref 0), x2, x3, x4, x5, some (.ref 1), x7', x8, x9, x10, x11, x12]) (h' ++ [.lst (ofPs os)]) ∧
      Upd h h' 0 ∧ os.length ≤ 100 ∧ ∀ o ∈ os, Sta o := by
  obtain ⟨s', K, e, rest, h', os, x7', er, rfl, rfl, u, ol, ra, oa⟩ := loop_all (g := gNm 7) (body := insB) (chk := stays (.lv (ofPs l)) (ofPs l))
    (I := fun ds s K => ∃ rest h' os x7, ds = ofPs rest ∧ s = [x0, some (.ref 0), x2, x3, x4, x5, some (.ref 1), x7, x8, x9, x10, x11, x12] ∧ K = h' ++ [.lst (ofPs os)] ∧ Upd h h' 0 ∧ os.length + rest.length ≤ 100 ∧ (∀ p ∈ rest, Sta p) ∧ ∀ o ∈ os, Sta o)
    (fun _ _ _ => stays_of rfl) (fun d ds s K ⟨rest, h', os, x7, er, es, eK, u, ol, ra, oa⟩ => by
      subst es; subst eK
      cases rest with
      | nil => cases er
      | cons p rest =>
        simp only [ofPs, List.cons.injEq] at er
        obtain ⟨rfl, rfl⟩ := er
        simp only [List.length_cons] at ol
        have l1 : h'.length = 1 := by rw [u.len, hl]
        obtain ⟨r, h2, e, r0, r1, u2⟩ := next_ok' (g := [.lst (ofPs os)]) (z := (os.length : Int) + 1) (u.pur hp) (.cons pur_lst pur_nil) u.st (by omega) (by omega)
        have at0 : (h' ++ [Ob.lst (ofPs os)])[1]? = some (.lst (ofPs os)) := at_len l1
        have l2 : h2.length = 1 := by rw [u2.len, l1]
        have at1 : (h2 ++ [Ob.lst (ofPs os)])[1]? = some (.lst (ofPs os)) := at_len l2
        have ins := ins_ref (p := p) at1 (Nat.lt_of_le_of_lt (show os.length ≤ 100 by omega) (by decide)) r0 (by omega)
        rw [set_len l2] at ins
        have ln : len1 (.ref 1) (h' ++ [Ob.lst (ofPs os)]) = .ok (.int os.length) (h' ++ [Ob.lst (ofPs os)]) := by rw [len_ref at0, ofPs_len]
        refine ⟨stays_of rfl, [x0, some (.ref 0), x2, x3, x4, x5, some (.ref 1), some (ofP p), x8, x9, x10, x11, x12], h' ++ [.lst (ofPs os)], by simp, _, _, ?_, rest, h2, os.take r.toNat ++ [p] ++ os.drop r.toNat, some (ofP p), rfl, rfl, rfl, u.trans u2, ?_, fun q hq => ra q (List.mem_cons_of_mem _ hq), fun q hq => ?_⟩
        · unfold insB
          simp [ty_ref at0, ln, e, ins]
        · simp only [List.length_append, List.length_take, List.length_drop, List.length_cons, List.length_nil]; omega
        · rcases List.mem_append.mp hq with hq | hq
          · rcases List.mem_append.mp hq with hq | hq
            · exact oa q (List.mem_of_mem_take hq)
            · simp at hq; subst hq; exact ra q (by simp)
          · exact oa q (List.mem_of_mem_drop hq))
    (ofPs l) [x0, some (.ref 0), x2, x3, x4, x5, some (.ref 1), x7, x8, x9, x10, x11, x12] (h ++ [.lst (ofPs [])]) ⟨l, h, [], x7, rfl, rfl, rfl, .refl st, by simpa using ll, la, fun o ho => by simp at ho⟩
  exact ⟨x7', h', os, e, u, by omega, oa⟩
/-! ### comprehensions over data -/
theorem comp_pur {t : CT} {tt : SD → M Bool} {te : SD → M D} {chk : DH → Bool} {s0 : SD} {h : DH} {P : PyData → Prop} (hc : chk h = true) : ∀ l : List PyData, (∀ p ∈ l, ∃ s b, bindT t (ofP p) s0 = some s ∧ tt s h = .ok b h ∧ (b = true → ∃ q, te s h = .ok (ofP q) h ∧ P q)) →
    ∃ us, compR t tt te chk s0 (ofPs l) h = .ok (ofPs us) h ∧ us.length ≤ l.length ∧ ∀ u ∈ us, P u
  | [], _ => ⟨[], by unfold ofPs compR; rw [if_pos hc], Nat.le_refl _, fun u hu => by simp at hu⟩
  | p :: l, a => by
    obtain ⟨us, e, ul, ua⟩ := comp_pur hc l fun q hq => a q (List.mem_cons_of_mem _ hq)
    obtain ⟨s, b, eb, et, q⟩ := a p (by simp)
    cases b with
    | false =>
      refine ⟨us, ?_, by simp; omega, ua⟩
      show compR t tt te chk s0 (ofP p :: ofPs l) h = _
      unfold compR
      rw [if_pos hc, eb]
      dsimp only
      rw [et]
      dsimp only
      exact e
    | true =>
      obtain ⟨q, eq, Pq⟩ := q rfl
      refine ⟨q :: us, ?_, by simp; omega, fun u hu => ?_⟩
      · show compR t tt te chk s0 (ofP p :: ofPs l) h = .ok (ofP q :: ofPs us) h
        unfold compR
        rw [if_pos hc, eb]
        dsimp only
        rw [et]
        dsimp only
        rw [eq]
        dsimp only
        rw [e]
      · rcases List.mem_cons.mp hu with rfl | hu
        · exact Pq
        · exact ua u hu
theorem eq_hs {neg : Bool} {p q : PyData} {h : DH} (a : Sta p) (b : Sta q) : eqM neg (ofP p) (ofP q) h = .ok (.bl (if neg then !PyData.eqv p q else PyData.eqv p q)) h :=
  eq_ofP (sta_hs a).1.lay (sta_hs b).1.lay (by have := (sta_hs a).2.2.1; omega) (by have := (sta_hs b).2.2.1; omega)
/-! ### what is due -/
def dueP (gs os : List PyData) (p : PyData) : PyData := (mvRow gs os p).getD .none
def dueB : SD → M Fl := (mSeq (mIf (mTest (m2 (eqM true) (m2 ixA (mVar 5) (mC (.int 0))) (mC (.str "given")))) (mSeq (mExpr (mMeth .list fAppend (mVar 9) (mCons (mVar 5) mNil))) mNext) (mSeq (mIf (mTest (m2 (inM false) (m2 ixA (mVar 2) (m2 ixA (mVar 5) (mC (.int 1)))) (mVar 6))) (mSeq (mExpr (mMeth .list fAppend (mVar 9) (mCons (mTup (mCons (mC (.str "given")) (mCons (mMeth .list fIndex (mVar 6) (mCons (m2 ixA (mVar 2) (m2 ixA (mVar 5) (mC (.int 1)))) mNil)) mNil))) mNil))) mNext) (mSeq (mExpr (mMeth .list fAppend (mVar 9) (mCons (mC .non) mNil))) mNext)) mNext)) mNext)
theorem due_loop {K0 : DH} {k : Nat} {x0 x1 x4 x5 x7 x8 x10 x11 x12 : Option D} {rows gs os : List PyData} (hk : K0[k]? = some (.lst (ofPs os))) (hr : ∀ r ∈ rows, Row gs.length r) (hg : ∀ g ∈ gs, Sta g) (ho : ∀ o ∈ os, Sta o) (zr : rows.length ≤ 100) :
    ∃ x5', loopM (gNm 5) dueB (stays (.lv (ofPs rows)) (ofPs rows)) (ofPs rows) [x0, x1, some (.lv (ofPs gs)), some (.lv (ofPs rows)), x4, x5, some (.ref k), x7, x8, some (.ref K0.length), x10, x11, x12] (K0 ++ [.lst (ofPs [])]) =
      .ok (.nx [x0, x1, some (.lv (ofPs gs)), some (.lv (ofPs rows)), x4, x5', some (.ref k), x7, x8, some (.ref K0.length), x10, x11, x12]) (K0 ++ [.lst (ofPs (rows.map (dueP gs os)))]) := by
  obtain ⟨s', K, e, pre, post, x5', er, ed, rfl, rfl⟩ := loop_all (g := gNm 5) (body := dueB) (chk := stays (.lv (ofPs rows)) (ofPs rows))
    (I := fun ds s K => ∃ pre post x5, rows = pre ++ post ∧ ds = ofPs post ∧ s = [x0, x1, some (.lv (ofPs gs)), some (.lv (ofPs rows)), x4, x5, some (.ref k), x7, x8, some (.ref K0.length), x10, x11, x12] ∧ K = K0 ++ [.lst (ofPs (pre.map (dueP gs os)))])
    (fun _ _ _ => stays_of rfl) (fun d ds s K ⟨pre, post, x5, er, ed, es, eK⟩ => by
      subst es; subst eK
      cases post with
      | nil => cases ed
      | cons r post =>
        simp only [ofPs, List.cons.injEq] at ed
        obtain ⟨rfl, rfl⟩ := ed
        refine ⟨stays_of rfl, [x0, x1, some (.lv (ofPs gs)), some (.lv (ofPs rows)), x4, some (ofP r), some (.ref k), x7, x8, some (.ref K0.length), x10, x11, x12], K0 ++ [.lst (ofPs (pre.map (dueP gs os)))], by simp, ?_⟩
        have hkl : k < K0.length := (List.getElem?_eq_some_iff.mp hk).1
        have atk : (K0 ++ [Ob.lst (ofPs (pre.map (dueP gs os)))])[k]? = some (.lst (ofPs os)) := by rw [List.getElem?_append_left hkl]; exact hk
        have atd : (K0 ++ [Ob.lst (ofPs (pre.map (dueP gs os)))])[K0.length]? = some (.lst (ofPs (pre.map (dueP gs os)))) := at_last
        have ap : ∀ p, fAppend (.ref K0.length) [ofP p] (K0 ++ [Ob.lst (ofPs (pre.map (dueP gs os)))]) = .ok .non (K0 ++ [Ob.lst (ofPs (pre.map (dueP gs os) ++ [p]))]) := fun p => by
          rw [app_ofP atd (by
            have h2 : pre.length ≤ 100 := by rw [er] at zr; simp at zr; omega
            rw [List.length_map, sizeLine_eq]; omega), set_last]
        have nx : ∀ q, dueP gs os r = q → ∃ pre' post' x5', rows = pre' ++ post' ∧ ofPs post = ofPs post' ∧ [x0, x1, some (D.lv (ofPs gs)), some (.lv (ofPs rows)), x4, some (ofP r), some (.ref k), x7, x8, some (.ref K0.length), x10, x11, x12] = [x0, x1, some (.lv (ofPs gs)), some (.lv (ofPs rows)), x4, x5', some (.ref k), x7, x8, some (.ref K0.length), x10, x11, x12] ∧
            K0 ++ [Ob.lst (ofPs (pre.map (dueP gs os) ++ [q]))] = K0 ++ [.lst (ofPs (pre'.map (dueP gs os)))] := fun q hq =>
          ⟨pre ++ [r], post, _, by rw [er]; simp, rfl, rfl, by rw [List.map_append, List.map_cons, List.map_nil, hq]⟩
        obtain ⟨of1, of2, of3, of4⟩ := stas_l ho
        cases hr r (by rw [er]; simp) with
        | oth x l hx ok =>
          refine ⟨_, _, ?_, nx (.tuple (.str x :: l)) (by unfold dueP; rw [row_oth hx]; rfl)⟩
          have := ap (.tuple (.str x :: l))
          rw [show ofP (.tuple (.str x :: l)) = .tup (.str x :: ofPs l) from rfl] at this ⊢
          unfold dueB
          simp [eq_str' ok given_ok, hx, ty_ref atd, this]
        | giv j hj =>
          obtain ⟨g, hgj⟩ : ∃ g, gs[j]? = some g := ⟨gs[j], List.getElem?_eq_getElem hj⟩
          have hsg := hg g (List.mem_of_getElem? hgj)
          obtain ⟨hk1, hk2, hk3, hk4⟩ := sta_hs hsg
          have ixg : atI (ofPs gs) (j : Int) = some (ofP g) := atI_nat' (by rw [ofPs_get, hgj]; rfl)
          have hin := in_ref (neg := false) atk of1 hk1.lay (by simp only [PyData.depth]; omega) (by omega)
          rw [← fstEq_any] at hin
          have er2 : ofP (.tuple [.str "given", .int (j : Nat)]) = .tup [.str "given", .int (j : Nat)] := rfl
          cases ef : fstEq g os with
          | none =>
            rw [ef] at hin
            refine ⟨_, _, ?_, nx .none (by unfold dueP; rw [row_giv hgj, ef]; rfl)⟩
            have := ap .none
            rw [show ofP .none = .non from rfl] at this
            rw [er2]
            unfold dueB
            simp [eq_str' given_ok given_ok, ixg, hin, ty_ref atd, this]
          | some i =>
            rw [ef] at hin
            have hix : fIndex (.ref k) [ofP g] (K0 ++ [Ob.lst (ofPs (pre.map (dueP gs os)))]) = .ok (.int i) (K0 ++ [Ob.lst (ofPs (pre.map (dueP gs os)))]) := by
              have z1 : (PyData.list os).depth ≤ 64 := by simp only [PyData.depth]; omega
              have z2 : g.depth ≤ 64 := by omega
              unfold fIndex
              simp only [toP_ref atk of1, toP_pur hk1.lay, z1, z2, and_self, if_true, ef]
            refine ⟨_, _, ?_, nx (.tuple [.str "given", .int i]) (by unfold dueP; rw [row_giv hgj, ef]; rfl)⟩
            have := ap (.tuple [.str "given", .int i])
            rw [show ofP (.tuple [.str "given", .int (i : Nat)]) = .tup [.str "given", .int (i : Nat)] from rfl] at this
            rw [er2]
            unfold dueB
            simp [eq_str' given_ok given_ok, ixg, hin, ty_ref atk, hix, ty_ref atd, this])
    (ofPs rows) [x0, x1, some (.lv (ofPs gs)), some (.lv (ofPs rows)), x4, x5, some (.ref k), x7, x8, some (.ref K0.length), x10, x11, x12] (K0 ++ [.lst (ofPs [])]) ⟨[], rows, x5, rfl, rfl, rfl, rfl⟩
  have : post = [] := by
    cases post with
    | nil => rfl
    | cons _ _ => cases ed
  subst this
  rw [List.append_nil] at er
  subst er
  exact ⟨x5', e⟩
theorem mv_tup {gs os : List PyData} {p q : PyData} {G : Nat} (r : Row G p) (e : mvRow gs os p = some q) : PyData.eqv q .none = false := by
  cases r with
  | giv j hj =>
    unfold mvRow at e
    split at e
    · split at e
      · obtain ⟨i, _, rfl⟩ := Option.map_eq_some_iff.mp e
        rfl
      · cases e
    · cases e; rfl
  | oth x l hx ok => rw [row_oth hx] at e; cases e; rfl
theorem mv_due {gs os : List PyData} {G : Nat} : ∀ {rows : List PyData}, (∀ r ∈ rows, Row G r) → if (rows.map (dueP gs os)).any (fun z => PyData.eqv z .none) = true then mvs gs os rows = none else mvs gs os rows = some (rows.map (dueP gs os))
  | [], _ => by simp [mvs]
  | p :: rows, h => by
    have ih := mv_due (gs := gs) (os := os) (rows := rows) fun r hr => h r (List.mem_cons_of_mem _ hr)
    simp only [List.map_cons, List.any_cons, mvs]
    cases e : mvRow gs os p with
    | none => simp [dueP, e, PyData.eqv]
    | some q =>
      have := mv_tup (h p (by simp)) e
      simp only [dueP, e, Option.getD_some, this, Bool.false_or]
      by_cases c : (rows.map (dueP gs os)).any (fun z => PyData.eqv z .none) = true
      · rw [if_pos c] at ih
        rw [if_pos c, ih]
      · rw [if_neg c] at ih
        rw [if_neg c, ih]
end Wy

set_option Elab.async false
set_option linter.all false
set_option maxRecDepth 100000
set_option maxHeartbeats 4000000
namespace Wy
open PySem PySem.Spec PyProof.Rows L2
theorem seq_by {f g : SD → M Fl} {s s' : SD} {h h' : DH} {P : Re Fl → Prop} (e : f s h = .ok (.nx s') h') (k : P (g s' h')) : P (mSeq f g s h) := by rw [seq_ok e]; exact k
/-! ### what is shown -/
theorem mv_fine {gs os rows : List PyData} {G : Nat} (h : ∀ r ∈ rows, RowF G r) (zo : os.length ≤ 900) : ∀ {l : List PyData}, mvs gs os rows = some l → l.length = rows.length ∧ ∀ p ∈ l, fineP p = true ∧ p.depth ≤ 4 ∧ p.weight ≤ 300 := by
  induction rows with
  | nil => intro l e; simp [mvs] at e; subst e; exact ⟨rfl, fun p hp => by simp at hp⟩
  | cons r rows ih =>
    intro l e
    simp only [mvs] at e
    cases e1 : mvRow gs os r with
    | none => rw [e1] at e; cases e
    | some q => cases e2 : mvs gs os rows with
      | none => rw [e1, e2] at e; cases e
      | some qs =>
        rw [e1, e2] at e
        cases e
        obtain ⟨h1, h2⟩ := ih (fun r hr => h r (List.mem_cons_of_mem _ hr)) e2
        refine ⟨by simp [h1], fun p hp => ?_⟩
        rcases List.mem_cons.mp hp with rfl | hp
        · have rf := h r (by simp)
          cases rf.row with
          | oth x l hx ok =>
            rw [row_oth hx] at e1
            cases e1
            exact ⟨rf.fine, rf.dep, rf.wt⟩
          | giv j hj =>
            unfold mvRow at e1
            split at e1
            · split at e1
              · obtain ⟨i, ei, rfl⟩ := Option.map_eq_some_iff.mp e1
                have := fstEq_lt ei
                have q := row_giv_f (G := os.length + 1) (j := i) (by omega) (by omega)
                exact ⟨q.fine, q.dep, q.wt⟩
              · cases e1
            · cases e1
              exact ⟨rf.fine, rf.dep, rf.wt⟩
        · exact h2 p hp
theorem mv_repr {gs os rows : List PyData} {G : Nat} {h : DH} (hr : ∀ r ∈ rows, RowF G r) (zo : os.length ≤ 900) (zr : rows.length ≤ 2000) : repr1 (ofP (mv rows gs os)) h = .ok (.str (mv rows gs os).shown) h ∧ PyData.strOk (mv rows gs os).shown = true := by
  have key : fineP (mv rows gs os) = true ∧ (mv rows gs os).depth ≤ 64 ∧ (mv rows gs os).weight ≤ 2 ^ 20 := by
    unfold mv
    cases e : mvs gs os rows with
    | none => exact ⟨rfl, by simp [PyData.depth], by simp [PyData.weight]⟩
    | some l =>
      obtain ⟨h1, h2⟩ := mv_fine hr zo e
      have d := depthAll_le fun p hp => (h2 p hp).2.1
      have w := weightAll_le fun p hp => (h2 p hp).2.2
      refine ⟨by simpa [fineP] using fineAll_iff.mpr fun p hp => (h2 p hp).1, by simp only [PyData.depth]; omega, ?_⟩
      simp only [PyData.weight]
      have : 301 * l.length ≤ 301 * 2000 := Nat.mul_le_mul_left _ (by omega)
      omega
  exact ⟨repr1_ok (toP_pur (lay_fine _ key.1)) key.1 key.2.1 key.2.2, shown_ok _ (lay_fine _ key.1)⟩
theorem all_repr {rs gs os : List PyData} {G k : Nat} {h : DH} (hr : ∀ r ∈ rs, RowF G r) (zr : rs.length ≤ 100) (hg : ∀ g ∈ gs, Sta g) (zg : gs.length ≤ 100) (ho : ∀ o ∈ os, Sta o) (zo : os.length ≤ 100) (hk : h[k]? = some (.lst (ofPs os))) :
    repr1 (.lv [.lv (ofPs rs), .lv (ofPs gs), .ref k]) h = .ok (.str (PyData.list [.list rs, .list gs, .list os]).shown) h ∧ PyData.strOk (PyData.list [.list rs, .list gs, .list os]).shown = true := by
  obtain ⟨g1, g2, g3, g4⟩ := stas_l hg
  obtain ⟨o1, o2, o3, o4⟩ := stas_l ho
  have r3 : fineP.fineAll rs = true := fineAll_iff.mpr fun p hp => (hr p hp).fine
  have r2 := depthAll_le fun p hp => (hr p hp).dep
  have r4 := weightAll_le fun p hp => (hr p hp).wt
  have r1 := lays_fine rs r3
  have f : fineP (.list [.list rs, .list gs, .list os]) = true := by simp [fineP, fineP.fineAll, r3, g3, o3]
  have tp : toP h (.lv [.lv (ofPs rs), .lv (ofPs gs), .ref k]) = some (.list [.list rs, .list gs, .list os]) := by
    unfold toP
    simp only [toPG, toPG.toPGs, toPGs_ofP rs r1, toPGs_ofP gs g1, hk, toPs_ofPs o1, Option.map_some]
  have w1 : 301 * rs.length ≤ 301 * 100 := Nat.mul_le_mul_left _ zr
  have w2 : 64 * gs.length ≤ 64 * 100 := Nat.mul_le_mul_left _ zg
  have w3 : 64 * os.length ≤ 64 * 100 := Nat.mul_le_mul_left _ zo
  exact ⟨repr1_ok tp f (by simp only [PyData.depth, PyData.depthAll]; omega) (by simp only [PyData.weight, PyData.weightAll]; omega), shown_ok _ (lay_fine _ f)⟩
/-! ### twelve hundred rows -/
theorem mv_many {g : PyData} {n : Nat} (e : PyData.eqv g g = true) : mvs [g] [g] (List.replicate n (.tuple [.str "given", .int 0])) = some (List.replicate n (.tuple [.str "given", .int 0])) := by
  induction n with
  | zero => rfl
  | succ n ih =>
    have : mvRow [g] [g] (.tuple [.str "given", .int 0]) = some (.tuple [.str "given", .int 0]) := by
      have := row_giv (gs := [g]) (os := [g]) (j := 0) rfl
      rw [show ((0 : Nat) : Int) = 0 from rfl] at this
      rw [this]
      simp [fstEq, e]
    simp only [List.replicate_succ, mvs, this, ih]
theorem rep_n {h : DH} {n : Nat} (h2 : 2 ≤ n) (h3 : n ≤ 2000) : opMul (.tup [.tup [.str "given", .int 0]]) (.int n) h = .ok (.tup (ofPs (List.replicate n (.tuple [.str "given", .int 0])))) h := by
  unfold opMul
  dsimp only
  rw [if_pos ⟨by simp, by omega, by simp; omega⟩]
  have : ∀ n : Nat, (List.replicate n [D.tup [D.str "given", D.int 0]]).flatten = ofPs (List.replicate n (.tuple [.str "given", .int 0])) := by
    intro n
    induction n with
    | zero => rfl
    | succ n ih => rw [List.replicate_succ, List.flatten_cons, ih, List.replicate_succ]; rfl
  show Re.ok (D.tup (List.replicate (Int.toNat n) [D.tup [D.str "given", D.int 0]]).flatten) h = _
  rw [Int.toNat_natCast, this]
theorem many_n {g : PyData} (hg : Sta g) {n : Nat} (h2 : 2 ≤ n) (h3 : n ≤ 2000) : ∃ (m : List D) (txt : Str), (∀ h, opMul (.tup [.tup [.str "given", .int 0]]) (.int n) h = .ok (.tup m) h) ∧ (∀ h, Pur h → F_moved [.tup m, .tup (ofPs [g]), .tup (ofPs [g])] h = .ok (.tup m) h) ∧ (∀ h, repr1 (.tup m) h = .ok (.str txt) h) ∧ PyData.strOk txt = true := by
  have sg := sta_hs hg
  have ev : PyData.eqv g g = true := PySem.SeqAt.eqv_refl g sg.1.lay
  have one : ∀ o ∈ [g], HsK o := fun o h => by simp at h; subst h; exact sg.1
  have emv : mv (List.replicate n (.tuple [.str "given", .int 0])) [g] [g] = .tuple (List.replicate n (.tuple [.str "given", .int 0])) := by unfold mv; rw [mv_many ev]
  refine ⟨ofPs (List.replicate n (.tuple [.str "given", .int 0])), (PyData.tuple (List.replicate n (.tuple [.str "given", .int 0]))).shown, fun h => rep_n h2 h3, fun h pd => ?_, fun h => ?_, ?_⟩
  · have := moved_ok (h := h) (rows := List.replicate n (.tuple [.str "given", .int 0])) (gs := [g]) (os := [g]) pd (fun r h => by rw [List.eq_of_mem_replicate h]; exact .giv 0 (by simp)) one one (by simp) (by rw [List.length_replicate]; omega)
    rw [emv] at this
    exact this
  · have := (mv_repr (gs := [g]) (os := [g]) (rows := List.replicate n (.tuple [.str "given", .int 0])) (G := 1) (h := h) (fun r h => by rw [List.eq_of_mem_replicate h]; exact row_giv_f (j := 0) (by decide) (by decide)) (by simp) (by rw [List.length_replicate]; exact h3)).1
    rw [emv] at this
    exact this
  · have := (mv_repr (gs := [g]) (os := [g]) (rows := List.replicate n (.tuple [.str "given", .int 0])) (G := 1) (h := []) (fun r h => by rw [List.eq_of_mem_replicate h]; exact row_giv_f (j := 0) (by decide) (by decide)) (by simp) (by rw [List.length_replicate]; exact h3)).2
    rw [emv] at this
    exact this
theorem many_1200 {g : PyData} (hg : Sta g) : ∃ (m : List D) (txt : Str), (∀ h, opMul (.tup [.tup [.str "given", .int 0]]) (.int 1200) h = .ok (.tup m) h) ∧ (∀ h, Pur h → F_moved [.tup m, .tup (ofPs [g]), .tup (ofPs [g])] h = .ok (.tup m) h) ∧ (∀ h, repr1 (.tup m) h = .ok (.str txt) h) ∧ PyData.strOk txt = true :=
  many_n hg (n := 1200) (by decide) (by decide)
/-! ### from what is due on -/
def tailB : SD → M Fl := (mSeq (mAsg (mLst true mNil) (gNm 9)) (mSeq (mFor (srcSeq (mVar 3)) (gNm 5) dueB) (mSeq (mIf (mTest (m2 (inM false) (mC .non) (mVar 9))) (mSeq (mAsg (mC .non) (gNm 9)) mNext) (mSeq (mAsg (mCall (one tup1) (mCons (mVar 9) mNil)) (gNm 9)) mNext)) (mSeq (mAsg (mCall (one tup1) (mCons (mSl false (mVar 2) none (some (mC (.int 1)))) mNil)) (gNm 10)) (mSeq (mIf (mTest (m2 (eqM true) (mCall (one repr1) (mCons (mCall F_moved (mCons (m2 opMul (mTup (mCons (mTup (mCons (mC (.str "given")) (mCons (mC (.int 0)) mNil))) mNil)) (mC (.int 1200))) (mCons (mVar 10) (mCons (mVar 10) mNil)))) mNil)) (mCall (one repr1) (mCons (m2 opMul (mTup (mCons (mTup (mCons (mC (.str "given")) (mCons (mC (.int 0)) mNil))) mNil)) (mC (.int 1200))) mNil)))) (mSeq (mRet (mC (.bl false))) mNext) mNext) (mSeq (mAsg (mCall (one repr1) (mCons (mLst false (mCons (mVar 3) (mCons (mVar 2) (mCons (mVar 6) mNil)))) mNil)) (gNm 11)) (mSeq (mAsg (mCall F_moved (mCons (mCall (one tup1) (mCons (mVar 3) mNil)) (mCons (mCall (one tup1) (mCons (mVar 2) mNil)) (mCons (mCall (one tup1) (mCons (mVar 6) mNil)) mNil)))) (gNm 12)) (mSeq (mRet (mAndV (m2 (eqM false) (mCall (one repr1) (mCons (mVar 12) mNil)) (mCall (one repr1) (mCons (mVar 9) mNil))) (m2 (eqM false) (mCall (one repr1) (mCons (mLst false (mCons (mVar 3) (mCons (mVar 2) (mCons (mVar 6) mNil)))) mNil)) (mVar 11)))) mNext))))))))
theorem in_nonref {h : DH} {k : Nat} {l : List PyData} (e : h[k]? = some (.lst (ofPs l))) (c : PyData.canLayAll0 l = true) (z : PyData.depthAll l ≤ 60) : inM false .non (.ref k) h = .ok (.bl (l.any fun x => PyData.eqv x .none)) h := by
  have := in_ref (neg := false) (p := .none) e c rfl (by simp only [PyData.depth]; omega) (by simp [PyData.depth])
  simpa [ofP] using this
theorem tail_ok {K : DH} {k : Nat} {x0 x1 x4 x5 x7 x8 : Option D} {rs gs os : List PyData} (pK : Pur K) (hk : K[k]? = some (.lst (ofPs os))) (hr : ∀ r ∈ rs, RowF gs.length r) (zr : rs.length ≤ 40) (hg : ∀ g ∈ gs, Sta g) (g0 : 0 < gs.length) (zg : gs.length ≤ 100) (ho : ∀ o ∈ os, Sta o) (zo : os.length ≤ 100) :
    ∃ K', tailB [x0, x1, some (.lv (ofPs gs)), some (.lv (ofPs rs)), x4, x5, some (.ref k), x7, x8, none, none, none, none] K = .ok (.rt (.bl true)) K' := by
  have hkl : k < K.length := (List.getElem?_eq_some_iff.mp hk).1
  obtain ⟨x5', e5⟩ := due_loop (x0 := x0) (x1 := x1) (x4 := x4) (x5 := x5) (x7 := x7) (x8 := x8) (x10 := none) (x11 := none) (x12 := none) hk (fun r h => (hr r h).row) hg ho (by omega)
  have md := mv_due (gs := gs) (os := os) (rows := rs) fun r h => (hr r h).row
  have hgs : ∀ g ∈ gs, HsK g := fun g h => (sta_hs (hg g h)).1
  have hos : ∀ o ∈ os, HsK o := fun g h => (sta_hs (ho g h)).1
  generalize edl : rs.map (dueP gs os) = dl at e5 md
  have pd : Pur (K ++ [Ob.lst (ofPs dl)]) := pK.app (.cons pur_lst pur_nil)
  have atk : (K ++ [Ob.lst (ofPs dl)])[k]? = some (.lst (ofPs os)) := by rw [List.getElem?_append_left hkl]; exact hk
  have atd : (K ++ [Ob.lst (ofPs dl)])[K.length]? = some (.lst (ofPs dl)) := at_last
  have dlF : ∀ p ∈ dl, fineP p = true ∧ p.depth ≤ 4 := fun p hp => by
    subst edl
    obtain ⟨r, hr', rfl⟩ := List.mem_map.mp hp
    unfold dueP
    cases e : mvRow gs os r with
    | none => exact ⟨rfl, by simp [PyData.depth]⟩
    | some q =>
      have := mv_fine (gs := gs) (os := os) (rows := [r]) (G := gs.length) (fun r' h => by simp at h; subst h; exact hr _ hr') (by omega) (l := [q]) (by simp [mvs, e])
      have := this.2 q (by simp)
      exact ⟨this.1, this.2.1⟩
  have ndl : PyData.canLayAll0 dl = true := lays_fine dl (fineAll_iff.mpr fun p hp => (dlF p hp).1)
  have hnon := in_nonref atd ndl (Nat.le_trans (depthAll_le fun p hp => (dlF p hp).2) (by decide))
  have srcS : ∀ h, seqSrc (.lv (ofPs rs)) h = .ok (ofPs rs, stays (.lv (ofPs rs)) (ofPs rs)) h := fun _ => rfl
  have mk0 : mkL true [] K = .ok (.ref K.length) (K ++ [.lst (ofPs [])]) := mkL_t (Nat.zero_le _)
  unfold tailB
  refine seq_by (P := fun r => ∃ K', r = .ok (.rt (.bl true)) K') (s' := [x0, x1, some (.lv (ofPs gs)), some (.lv (ofPs rs)), x4, x5, some (.ref k), x7, x8, some (.ref K.length), none, none, none]) (h' := K ++ [.lst (ofPs [])]) (by simp [mk0]) ?_
  refine seq_by (P := fun r => ∃ K', r = .ok (.rt (.bl true)) K') (s' := [x0, x1, some (.lv (ofPs gs)), some (.lv (ofPs rs)), x4, x5', some (.ref k), x7, x8, some (.ref K.length), none, none, none]) (h' := K ++ [.lst (ofPs dl)]) (by simp [srcS, e5]) ?_
  refine seq_by (P := fun r => ∃ K', r = .ok (.rt (.bl true)) K') (s' := [x0, x1, some (.lv (ofPs gs)), some (.lv (ofPs rs)), x4, x5', some (.ref k), x7, x8, some (ofP (mv rs gs os)), none, none, none]) (h' := K ++ [.lst (ofPs dl)]) ?_ ?_
  · by_cases c : (dl.any fun z => PyData.eqv z .none) = true
    · rw [if_pos c] at md
      rw [c] at hnon
      simp [hnon, mv, md, ofP]
    · rw [if_neg c] at md
      have c : (dl.any fun z => PyData.eqv z .none) = false := by simpa using c
      rw [c] at hnon
      simp [hnon, tup1_ref atd, mv, md, ofP]
  generalize eK : K ++ [Ob.lst (ofPs dl)] = K2 at pd atk
  cases gs with
  | nil => simp at g0
  | cons g gs' =>
    have cut : slM false (.lv (ofPs (g :: gs'))) none (some 1) K2 = .ok (.lv (ofPs [g])) K2 := by
      rw [cut_lv (Nat.le_trans zg (by decide)), cutP_1]; rfl
    have hg1 := hg g (by simp)
    obtain ⟨many12, txt, rm, many, rp, rpo⟩ := many_1200 hg1
    have many := many K2 pd
    have al := all_repr (h := K2) hr (by omega) hg zg ho zo atk
    have mo := moved_ok (h := K2) (rows := rs) (gs := g :: gs') (os := os) pd (fun r h => (hr r h).row) hgs hos (by omega) (by omega)
    have rv := mv_repr (gs := g :: gs') (os := os) (rows := rs) (h := K2) hr (by omega) (by omega)
    generalize mv rs (g :: gs') os = mvv at mo rv ⊢
    generalize mvv.shown = txt2 at rv
    generalize (PyData.list [.list rs, .list (g :: gs'), .list os]).shown = txt3 at al
    have mk3 : ∀ h, mkL false [.lv (ofPs rs), .lv (ofPs (g :: gs')), .ref k] h = .ok (.lv [.lv (ofPs rs), .lv (ofPs (g :: gs')), .ref k]) h := fun h => mkL_f (Nat.le_trans (show 3 ≤ 3 from Nat.le_refl _) (by decide))
    generalize ofPs (g :: gs') = lg at *
    generalize ofPs [g] = lg1 at *
    refine seq_by (P := fun r => ∃ K', r = .ok (.rt (.bl true)) K') (s' := [x0, x1, some (.lv lg), some (.lv (ofPs rs)), x4, x5', some (.ref k), x7, x8, some (ofP mvv), some (.tup lg1), none, none]) (h' := K2) (by simp [cut]) ?_
    refine seq_by (P := fun r => ∃ K', r = .ok (.rt (.bl true)) K') (s' := [x0, x1, some (.lv lg), some (.lv (ofPs rs)), x4, x5', some (.ref k), x7, x8, some (ofP mvv), some (.tup lg1), none, none]) (h' := K2) (by simp [rm, many, rp, eq_str' rpo rpo]) ?_
    refine seq_by (P := fun r => ∃ K', r = .ok (.rt (.bl true)) K') (s' := [x0, x1, some (.lv lg), some (.lv (ofPs rs)), x4, x5', some (.ref k), x7, x8, some (ofP mvv), some (.tup lg1), some (.str txt3), none]) (h' := K2) (by simp [mk3, al.1]) ?_
    refine seq_by (P := fun r => ∃ K', r = .ok (.rt (.bl true)) K') (s' := [x0, x1, some (.lv lg), some (.lv (ofPs rs)), x4, x5', some (.ref k), x7, x8, some (ofP mvv), some (.tup lg1), some (.str txt3), some (ofP mvv)]) (h' := K2) (by simp [tup1_ref atk, mo]) ?_
    exact ⟨K2, by simp [rv.1, eq_str' rv.2 rv.2, mk3, al.1, eq_str' al.2 al.2]⟩
end Wy

set_option Elab.async false
set_option linter.all false
set_option maxRecDepth 100000
set_option maxHeartbeats 4000000
namespace Wy
open PySem PySem.Spec PyProof.Rows L2
def goneB : SD → M Fl := (mIf (mAndT (mTest (m2 (eqM false) (mCall F_law_next (mCons (mVar 1) (mCons (mC (.int 3)) mNil))) (mC (.int 0)))) (mTest (m2 (eqM true) (mVar 4) (mLst false mNil)))) (mSeq (mAsg (m2 ixA (mVar 4) (mCall F_law_next (mCons (mVar 1) (mCons (mCall (one len1) (mCons (mVar 4) mNil)) mNil)))) (gNm 8)) (mSeq (mAsg (mComp [7] (.nm 7) (mTest (m2 (eqM true) (mVar 7) (mVar 8))) (mVar 7) true (srcSeq (mVar 6))) (gNm 6)) mNext)) mNext)
theorem gone_ok {h : DH} {os us : List PyData} {x0 x2 x3 x5 x7 x9 x10 x11 x12 : Option D} (hp : Pur h) (st : St2 h 0) (hl : h.length = 1) (ho : ∀ o ∈ os, Sta o) (zo : os.length ≤ 100) (hu : ∀ u ∈ us, Sta u) (zu : us.length ≤ 100) :
    ∃ x8 k K os', goneB [x0, some (.ref 0), x2, x3, some (.lv (ofPs us)), x5, some (.ref 1), x7, none, x9, x10, x11, x12] (h ++ [.lst (ofPs os)]) = .ok (.nx [x0, some (.ref 0), x2, x3, some (.lv (ofPs us)), x5, some (.ref k), x7, x8, x9, x10, x11, x12]) K ∧ Pur K ∧ K[k]? = some (.lst (ofPs os')) ∧ os'.length ≤ 100 ∧ ∀ o ∈ os', Sta o := by
  obtain ⟨r, h1, e1, r0, r1, u1⟩ := next_ok' (g := [.lst (ofPs os)]) (z := 3) hp (.cons pur_lst pur_nil) st (by decide) (by decide)
  have p1 := u1.pur hp
  have l1 : h1.length = 1 := by rw [u1.len, hl]
  have at1 : (h1 ++ [Ob.lst (ofPs os)])[1]? = some (.lst (ofPs os)) := at_len l1
  have pk1 : Pur (h1 ++ [Ob.lst (ofPs os)]) := p1.app (.cons pur_lst pur_nil)
  unfold goneB
  by_cases c : r = 0
  · have mk0 : ∀ h, mkL false [] h = .ok (.lv []) h := fun h => mkL_f (Nat.zero_le _)
    have eqe : ∀ h, eqM true (.lv (ofPs us)) (.lv []) h = .ok (.bl (!PyData.eqv (.list us) (.list []))) h := fun h => by
      obtain ⟨u1, u2, u3, u4⟩ := stas_l hu
      have := eq_ofP (neg := true) (h := h) (p := .list us) (q := .list []) (by simpa [PyData.canLay0] using u1) rfl (by simp only [PyData.depth]; omega) (by simp [PyData.depth, PyData.depthAll])
      simpa [ofP, ofPs] using this
    cases us with
    | nil => exact ⟨none, 1, h1 ++ [.lst (ofPs os)], os, by simp [e1, c, mk0, eqe, PyData.eqv, PyData.eqvAll], pk1, at1, zo, ho⟩
    | cons u us' =>
      obtain ⟨m, hm⟩ : ∃ m, m = (u :: us').length := ⟨_, rfl⟩
      have hm0 : 0 < m := by rw [hm]; simp
      rw [← hm] at zu
      obtain ⟨r2, h2, e2, s0, s1, u2⟩ := next_ok' (g := [.lst (ofPs os)]) (z := (m : Int)) p1 (.cons pur_lst pur_nil) u1.st (by omega) (by omega)
      have p2 := u2.pur p1
      have l2 : h2.length = 1 := by rw [u2.len, l1]
      have at2 : (h2 ++ [Ob.lst (ofPs os)])[1]? = some (.lst (ofPs os)) := at_len l2
      have pk2 : Pur (h2 ++ [Ob.lst (ofPs os)]) := p2.app (.cons pur_lst pur_nil)
      have hlt : r2.toNat < (u :: us').length := by omega
      obtain ⟨g, hgj⟩ : ∃ g, (u :: us')[r2.toNat]? = some g := ⟨(u :: us')[r2.toNat], List.getElem?_eq_getElem hlt⟩
      have sg := hu g (List.mem_of_getElem? hgj)
      have ixg : atI (ofPs (u :: us')) r2 = some (ofP g) := by
        have := atI_nat' (l := ofPs (u :: us')) (j := r2.toNat) (x := ofP g) (by rw [ofPs_get, hgj]; rfl)
        rwa [Int.toNat_of_nonneg s0] at this
      have ln : ∀ h, len1 (.lv (ofPs (u :: us'))) h = .ok (.int (m : Nat)) h := fun h => by rw [len_lv, ofPs_len, hm]
      have chk : stays (.ref 1) (ofPs os) (h2 ++ [Ob.lst (ofPs os)]) = true := stays_of (by unfold seqOf rlistOf listOf; simp only [at2])
      have src : seqSrc (.ref 1) (h2 ++ [Ob.lst (ofPs os)]) = .ok (ofPs os, stays (.ref 1) (ofPs os)) (h2 ++ [Ob.lst (ofPs os)]) := by
        unfold seqSrc seqOf rlistOf listOf
        simp only [at2]
      obtain ⟨os', ec, ol, oa⟩ := comp_pur (t := .nm 7) (tt := mTest (m2 (eqM true) (mVar 7) (mVar 8))) (te := mVar 7) (s0 := [x0, some (.ref 0), x2, x3, some (.lv (ofPs (u :: us'))), x5, some (.ref 1), none, some (ofP g), x9, x10, x11, x12]) (P := Sta) chk os fun p hp' =>
        ⟨[x0, some (.ref 0), x2, x3, some (.lv (ofPs (u :: us'))), x5, some (.ref 1), some (ofP p), some (ofP g), x9, x10, x11, x12], !PyData.eqv p g, rfl, by simp [eq_hs (ho p hp') sg], fun _ => ⟨p, by simp, ho p hp'⟩⟩
      have mk : mkL true (ofPs os') (h2 ++ [Ob.lst (ofPs os)]) = .ok (.ref 2) (h2 ++ [.lst (ofPs os), .lst (ofPs os')]) := by
        rw [mkL_t (by rw [ofPs_len]; exact Nat.le_trans ol (Nat.le_trans zo (by decide)))]
        simp [l2]
      have ev : PyData.eqv (.list (u :: us')) (.list []) = false := by simp [PyData.eqv, PyData.eqvAll]
      generalize ofPs (u :: us') = lu at *
      refine ⟨some (ofP g), 2, h2 ++ [.lst (ofPs os), .lst (ofPs os')], os', ?_, p2.app (.cons pur_lst (.cons pur_lst pur_nil)), by rw [show h2 ++ [Ob.lst (ofPs os), .lst (ofPs os')] = (h2 ++ [.lst (ofPs os)]) ++ [.lst (ofPs os')] by simp]; exact at_len (by simp [l2]), Nat.le_trans ol zo, oa⟩
      have wp : wipeD [x0, some (.ref 0), x2, x3, some (.lv lu), x5, some (.ref 1), x7, some (ofP g), x9, x10, x11, x12] [7] = [x0, some (.ref 0), x2, x3, some (.lv lu), x5, some (.ref 1), none, some (ofP g), x9, x10, x11, x12] := rfl
      simp [e1, c, mk0, eqe, ev, ln, e2, ixg, src, wp, ec, endL, mk]
  · exact ⟨none, 1, h1 ++ [.lst (ofPs os)], os, by simp [e1, c], pk1, at1, zo, ho⟩
theorem used_ok {h : DH} {rs gs : List PyData} {s0 : SD} (hs : s0 = [s0.headD none, some (.ref 0), some (.lv (ofPs gs)), some (.lv (ofPs rs)), none, none, none, none, none, none, none, none, none]) (hr : ∀ r ∈ rs, Row gs.length r) (hg : ∀ g ∈ gs, Sta g) :
    ∃ us, compR (.nm 5) (mTest (m2 (eqM false) (m2 ixA (mVar 5) (mC (.int 0))) (mC (.str "given")))) (m2 ixA (mVar 2) (m2 ixA (mVar 5) (mC (.int 1)))) (stays (.lv (ofPs rs)) (ofPs rs)) s0 (ofPs rs) h = .ok (ofPs us) h ∧ us.length ≤ rs.length ∧ ∀ u ∈ us, Sta u := by
  refine comp_pur (stays_of rfl) rs fun p hp => ?_
  generalize s0.headD none = x0 at hs
  subst hs
  cases hr p hp with
  | oth x l hx ok =>
    refine ⟨_, false, rfl, ?_, fun z => by cases z⟩
    rw [show ofP (.tuple (.str x :: l)) = .tup (.str x :: ofPs l) from rfl]
    simp [eq_str' ok given_ok, hx]
  | giv j hj =>
    obtain ⟨g, hgj⟩ : ∃ g, gs[j]? = some g := ⟨gs[j], List.getElem?_eq_getElem hj⟩
    have ixg : atI (ofPs gs) (j : Int) = some (ofP g) := atI_nat' (by rw [ofPs_get, hgj]; rfl)
    refine ⟨_, true, rfl, ?_, fun _ => ⟨g, ?_, hg g (List.mem_of_getElem? hgj)⟩⟩
    · rw [show ofP (.tuple [.str "given", .int (j : Nat)]) = .tup [.str "given", .int (j : Nat)] from rfl]
      simp [eq_str' given_ok given_ok]
    · rw [show ofP (.tuple [.str "given", .int (j : Nat)]) = .tup [.str "given", .int (j : Nat)] from rfl]
      simp [ixg]
theorem plain_k57 (ns : List Int) (hn : ns.length ≤ 63) (_ : ∀ z ∈ ns, Builtin.Int.intBits z ≤ 1048576) : ∃ hd, den true 13 B_law [.rl (ns.map .int)] [] = .ok (.bl true) hd := by
  suffices body : ∃ K, B_law (slots0 13 [.rl (ns.map .int)]) [] = .ok (.rt (.bl true)) K by
    obtain ⟨K, e⟩ := body
    refine ⟨K.take 0, den_val e (by simpa using pur_nil) (Nat.zero_le _) (out_ofP (.bool true))⟩
  obtain ⟨a, b, es, st⟩ := state_ok (ns.getD 0 0)
  have ce := cell_ok ns [] pur_nil
  generalize ns.getD 0 0 = cell at es ce
  have l0 : [Ob.lst [.int a, .int b]].length = 1 := rfl
  have p0 : Pur [Ob.lst [.int a, .int b]] := .cons (fun n => by simp [Ob.under, D.unders, D.under]) pur_nil
  generalize [Ob.lst [.int a, .int b]] = h0 at es st l0 p0
  obtain ⟨r1, h1, e1, a0, a1, u1⟩ := next_ok (z := 9) p0 st (by decide) (by decide)
  have p1 := u1.pur p0
  obtain ⟨gs, h2, e2, u2, gl, ga⟩ := statements_ok (many := 1 + r1) p1 u1.st (by omega) (by omega)
  have p2 := u2.pur p1
  have l2 : h2.length = 1 := by rw [u2.len, u1.len, l0]
  obtain ⟨rs, e3, rl, ra⟩ := rows_ok (ns := ns) (gs := gs) p2 hn (by omega) (by omega)
  obtain ⟨us, e4, ul, ua⟩ := used_ok (h := h2) (rs := rs) (gs := gs) (s0 := [some (.rl (ns.map .int)), some (.ref 0), some (.lv (ofPs gs)), some (.lv (ofPs rs)), none, none, none, none, none, none, none, none, none]) rfl (fun r h => (ra r h).row) ga
  have mk4 : mkL false (ofPs us) h2 = .ok (.lv (ofPs us)) h2 := mkL_f (by rw [ofPs_len]; exact Nat.le_trans ul (Nat.le_trans rl (by decide)))
  have mk5 : mkL true [] h2 = .ok (.ref 1) (h2 ++ [.lst (ofPs [])]) := by rw [mkL_t (Nat.zero_le _), l2]; rfl
  have pe : Pur [Ob.lst (ofPs [])] := .cons pur_lst pur_nil
  obtain ⟨r5, h5, e5, b0, b1, u5⟩ := next_ok' (g := [.lst (ofPs [])]) (z := 4) p2 pe u2.st (by decide) (by decide)
  have p5 := u5.pur p2
  obtain ⟨ms, K6, e6, u6', ml, ma⟩ := statements_ok (h := h5 ++ [.lst (ofPs [])]) (many := r5) (p5.app pe) u5.st.app b0 (by omega)
  obtain ⟨h6, rfl, u6⟩ := u6'.split u5.st
  have p6 := u6.pur p5
  obtain ⟨r7, h7, e7, c0, c1, u7⟩ := next_ok' (g := [.lst (ofPs [])]) (z := 3) p6 pe u6.st (by decide) (by decide)
  have p7 := u7.pur p6
  have l7 : h7.length = 1 := by rw [u7.len, u6.len, u5.len, l2]
  have cat1 : ∀ h, opAdd false (.lv (ofPs gs)) (.lv (ofPs ms)) h = .ok (.lv (ofPs (gs ++ ms))) h := fun h => cat_lv (Nat.le_trans (show gs.length + ms.length ≤ 100 by omega) (by decide))
  have cut1 : ∀ h, slM false (.lv (ofPs gs)) none (some r7) h = .ok (.lv (ofPs (cutP gs r7))) h := fun h => cut_lv (Nat.le_trans (show gs.length ≤ 100 by omega) (by decide))
  have cl := cutP_len (l := gs) (hi := r7)
  have cat2 : ∀ h, opAdd false (.lv (ofPs (gs ++ ms))) (.lv (ofPs (cutP gs r7))) h = .ok (.lv (ofPs ((gs ++ ms) ++ cutP gs r7))) h := fun h => cat_lv (Nat.le_trans (show (gs ++ ms).length + (cutP gs r7).length ≤ 100 by simp; omega) (by decide))
  have lall : ∀ p ∈ (gs ++ ms) ++ cutP gs r7, Sta p := fun p hp => by
    rcases List.mem_append.mp hp with hp | hp
    · rcases List.mem_append.mp hp with hp | hp
      · exact ga p hp
      · exact ma p hp
    · exact ga p (cutP_mem hp)
  have llen : ((gs ++ ms) ++ cutP gs r7).length ≤ 100 := by simp; omega
  generalize (gs ++ ms) ++ cutP gs r7 = li at cat2 lall llen
  generalize gs ++ ms = gm at cat1 cat2
  generalize cutP gs r7 = gc at cut1 cat2
  obtain ⟨x7, h8, os, e8, u8, ol, oa⟩ := ins_loop (x0 := some (.rl (ns.map .int))) (x2 := some (.lv (ofPs gs))) (x3 := some (.lv (ofPs rs))) (x4 := some (.lv (ofPs us))) (x5 := none) (x7 := none) (x8 := none) (x9 := none) (x10 := none) (x11 := none) (x12 := none) p7 u7.st l7 llen lall
  have p8 := u8.pur p7
  obtain ⟨x8, k, K9, os', e9, p9, k9, ol', oa'⟩ := gone_ok (x0 := some (.rl (ns.map .int))) (x2 := some (.lv (ofPs gs))) (x3 := some (.lv (ofPs rs))) (x5 := none) (x7 := x7) (x9 := none) (x10 := none) (x11 := none) (x12 := none) p8 u8.st (by rw [u8.len, l7]) oa ol ua (by omega)
  obtain ⟨K', et⟩ := tail_ok (x0 := some (.rl (ns.map .int))) (x1 := some (.ref 0)) (x4 := some (.lv (ofPs us))) (x5 := none) (x7 := x7) (x8 := x8) p9 k9 ra rl ga (by omega) (by omega) oa' ol'
  have srcR : ∀ h, seqSrc (.lv (ofPs rs)) h = .ok (ofPs rs, stays (.lv (ofPs rs)) (ofPs rs)) h := fun _ => rfl
  have srcL : ∀ h, seqSrc (.lv (ofPs li)) h = .ok (ofPs li, stays (.lv (ofPs li)) (ofPs li)) h := fun _ => rfl
  have goal : ∀ {m : SD → M Fl} {s : SD} {h : DH} {r : Re Fl}, m s h = r → (∃ K, r = .ok (.rt (.bl true)) K) → ∃ K, m s h = .ok (.rt (.bl true)) K := fun e q => by rw [e]; exact q
  unfold B_law slots0
  refine seq_by (P := fun r => ∃ K', r = .ok (.rt (.bl true)) K') (s' := [some (.rl (ns.map .int)), some (.ref 0), none, none, none, none, none, none, none, none, none, none, none]) (h' := h0) (by simp [ce, es]) ?_
  refine seq_by (P := fun r => ∃ K', r = .ok (.rt (.bl true)) K') (s' := [some (.rl (ns.map .int)), some (.ref 0), some (.lv (ofPs gs)), none, none, none, none, none, none, none, none, none, none]) (h' := h2) (by simp [e1, e2]) ?_
  refine seq_by (P := fun r => ∃ K', r = .ok (.rt (.bl true)) K') (s' := [some (.rl (ns.map .int)), some (.ref 0), some (.lv (ofPs gs)), some (.lv (ofPs rs)), none, none, none, none, none, none, none, none, none]) (h' := h2) (by simp [e3]) ?_
  refine seq_by (P := fun r => ∃ K', r = .ok (.rt (.bl true)) K') (s' := [some (.rl (ns.map .int)), some (.ref 0), some (.lv (ofPs gs)), some (.lv (ofPs rs)), some (.lv (ofPs us)), none, none, none, none, none, none, none, none]) (h' := h2) ?_ ?_
  · have wp : wipeD [some (.rl (ns.map .int)), some (.ref 0), some (.lv (ofPs gs)), some (.lv (ofPs rs)), none, none, none, none, none, none, none, none, none] [5] = [some (.rl (ns.map .int)), some (.ref 0), some (.lv (ofPs gs)), some (.lv (ofPs rs)), none, none, none, none, none, none, none, none, none] := rfl
    simp [srcR, wp, e4, endL, mk4]
  refine seq_by (P := fun r => ∃ K', r = .ok (.rt (.bl true)) K') (s' := [some (.rl (ns.map .int)), some (.ref 0), some (.lv (ofPs gs)), some (.lv (ofPs rs)), some (.lv (ofPs us)), none, some (.ref 1), none, none, none, none, none, none]) (h' := h2 ++ [.lst (ofPs [])]) (by simp [mk5]) ?_
  refine seq_by (P := fun r => ∃ K', r = .ok (.rt (.bl true)) K') (s' := [some (.rl (ns.map .int)), some (.ref 0), some (.lv (ofPs gs)), some (.lv (ofPs rs)), some (.lv (ofPs us)), none, some (.ref 1), x7, none, none, none, none, none]) (h' := h8 ++ [.lst (ofPs os)]) ?_ ?_
  · unfold insB at e8
    simp [e5, e6, cat1, e7, cut1, cat2, srcL, e8]
  refine seq_by (P := fun r => ∃ K', r = .ok (.rt (.bl true)) K') e9 ?_
  exact ⟨K', et⟩
end Wy

set_option Elab.async false
set_option linter.all false
set_option maxRecDepth 100000
set_option maxHeartbeats 4000000
namespace Wy
open PySem PySem.Spec PyProof.Rows L2
theorem all_mk {P : Program} {w : World} {K : PySem.W.Frag} {h : Heap} {mg : Str → Option Value} {fa : Addr} (X : K.In h) (G : h.Ns mainGlobals mg) (hfa : mg "law" = some (.ref fa))
    {f0 f1 f2 f3 f4 f5 f6 f7 f8 : Addr} {od0 od1 od2 od3 od4 od5 od6 od7 od8 an0 an1 an2 an3 an4 an5 an6 an7 an8 : Option Addr} {sl0 sl1 sl2 sl3 sl4 sl5 sl6 sl7 sl8 : Array (Option Value)} {oc0 oc1 oc2 oc3 oc4 oc5 oc6 oc7 oc8 kV0 kV1 kV2 kV3 kV4 kV5 kV6 kV7 kV8 dc0 dc1 dc2 dc3 dc4 dc5 dc6 dc7 dc8 pm0 pm1 pm2 pm3 pm4 pm5 pm6 pm7 pm8 cd0 cd1 cd2 cd3 cd4 cd5 cd6 cd7 cd8 ct0 ct1 ct2 ct3 ct4 ct5 ct6 ct7 ct8 : Value}
    (a0 : PySem.W.nsIn K mainGlobals "_law_cell_at" = some (some (.ref f0))) (l0 : K.lookup f0 = some ⟨oc0, od0, .func (PySem.W.fnOf "_law_cell_at" "_law_cell_at" (defArgs (topS 3)) (defBody (topS 3)) (defScope (topS 3)) .none kV0 dc0 pm0 an0 cd0 ct0), sl0⟩) (c0 : PySem.W.codeIn K cd0 "_law_cell_at" = true) (k0 : PySem.W.keepIn K (.ref f0) = true)
    (a1 : PySem.W.nsIn K mainGlobals "_law_next" = some (some (.ref f1))) (l1 : K.lookup f1 = some ⟨oc1, od1, .func (PySem.W.fnOf "_law_next" "_law_next" (defArgs (topS 5)) (defBody (topS 5)) (defScope (topS 5)) .none kV1 dc1 pm1 an1 cd1 ct1), sl1⟩) (c1 : PySem.W.codeIn K cd1 "_law_next" = true) (k1 : PySem.W.keepIn K (.ref f1) = true)
    (a2 : PySem.W.nsIn K mainGlobals "_law_mixed" = some (some (.ref f2))) (l2 : K.lookup f2 = some ⟨oc2, od2, .func (PySem.W.fnOf "_law_mixed" "_law_mixed" (defArgs (topS 4)) (defBody (topS 4)) (defScope (topS 4)) .none kV2 dc2 pm2 an2 cd2 ct2), sl2⟩) (c2 : PySem.W.codeIn K cd2 "_law_mixed" = true) (k2 : PySem.W.keepIn K (.ref f2) = true)
    (a3 : PySem.W.nsIn K mainGlobals "_law_rows" = some (some (.ref f3))) (l3 : K.lookup f3 = some ⟨oc3, od3, .func (PySem.W.fnOf "_law_rows" "_law_rows" (defArgs (topS 18)) (defBody (topS 18)) (defScope (topS 18)) .none kV3 dc3 pm3 an3 cd3 ct3), sl3⟩) (c3 : PySem.W.codeIn K cd3 "_law_rows" = true) (k3 : PySem.W.keepIn K (.ref f3) = true)
    (a4 : PySem.W.nsIn K mainGlobals "_law_state" = some (some (.ref f4))) (l4 : K.lookup f4 = some ⟨oc4, od4, .func (PySem.W.fnOf "_law_state" "_law_state" (defArgs (topS 6)) (defBody (topS 6)) (defScope (topS 6)) .none kV4 dc4 pm4 an4 cd4 ct4), sl4⟩) (c4 : PySem.W.codeIn K cd4 "_law_state" = true) (k4 : PySem.W.keepIn K (.ref f4) = true)
    (a5 : PySem.W.nsIn K mainGlobals "_law_pool" = some (some (.ref f5))) (l5 : K.lookup f5 = some ⟨oc5, od5, .func (PySem.W.fnOf "_law_pool" "_law_pool" (defArgs (topS 7)) (defBody (topS 7)) (defScope (topS 7)) .none kV5 dc5 pm5 an5 cd5 ct5), sl5⟩) (c5 : PySem.W.codeIn K cd5 "_law_pool" = true) (k5 : PySem.W.keepIn K (.ref f5) = true)
    (a6 : PySem.W.nsIn K mainGlobals "_law_statements" = some (some (.ref f6))) (l6 : K.lookup f6 = some ⟨oc6, od6, .func (PySem.W.fnOf "_law_statements" "_law_statements" (defArgs (topS 17)) (defBody (topS 17)) (defScope (topS 17)) .none kV6 dc6 pm6 an6 cd6 ct6), sl6⟩) (c6 : PySem.W.codeIn K cd6 "_law_statements" = true) (k6 : PySem.W.keepIn K (.ref f6) = true)
    (a7 : PySem.W.nsIn K mainGlobals "moved" = some (some (.ref f7))) (l7 : K.lookup f7 = some ⟨oc7, od7, .func (PySem.W.fnOf "moved" "moved" (defArgs (topS 1)) (defBody (topS 1)) (defScope (topS 1)) .none kV7 dc7 pm7 an7 cd7 ct7), sl7⟩) (c7 : PySem.W.codeIn K cd7 "moved" = true) (k7 : PySem.W.keepIn K (.ref f7) = true)
    (a8 : PySem.W.nsIn K mainGlobals "law" = some (some (.ref f8))) (l8 : K.lookup f8 = some ⟨oc8, od8, .func (PySem.W.fnOf "law" "law" (defArgs (topS 19)) (defBody (topS 19)) (defScope (topS 19)) .none kV8 dc8 pm8 an8 cd8 ct8), sl8⟩) (c8 : PySem.W.codeIn K cd8 "law" = true) (k8 : PySem.W.keepIn K (.ref f8) = true)
    (z0 : PySem.W.nsIn K mainGlobals "len" = some none)
    (z1 : PySem.W.nsIn K mainGlobals "tuple" = some none)
    (z2 : PySem.W.nsIn K mainGlobals "list" = some none)
    (z3 : PySem.W.nsIn K mainGlobals "min" = some none)
    (z4 : PySem.W.nsIn K mainGlobals "max" = some none)
    (z5 : PySem.W.nsIn K mainGlobals "int" = some none)
    (z6 : PySem.W.nsIn K mainGlobals "str" = some none)
    (z7 : PySem.W.nsIn K mainGlobals "repr" = some none)
    (z8 : PySem.W.nsIn K mainGlobals "sorted" = some none)
    (z9 : PySem.W.nsIn K mainGlobals "enumerate" = some none)
    (z10 : PySem.W.nsIn K mainGlobals "range" = some none) :
    ∃ (fd : FuncData) (T : Tb), Fun K "law" "law" (topS 19) fa fd ∧ Bu mg ∧ (∀ (s : Shared) (u : Value), BindsTo s fd ⟨[u], []⟩ [("_law_script", u)]) ∧
      ∀ base : Heap, K.In base → base.Ns mainGlobals mg → ∀ (cdv : Value) (A : Around) (outer : List Env) (s : Shared) (H : Hp) (E : XK), (CO P w K mg base ["_law_script", "_law_state_here", "_law_givens", "_law_rows_here", "_law_used", "_law_row", "_law_others", "_law_one", "_law_gone", "_law_due", "_law_some", "_law_as_was", "_law_found"] "law" (topS 19) fa cdv A outer s H E).A.guards = some [] → Cxt (CO P w K mg base ["_law_script", "_law_state_here", "_law_givens", "_law_rows_here", "_law_used", "_law_row", "_law_others", "_law_one", "_law_gone", "_law_due", "_law_some", "_law_as_was", "_law_found"] "law" (topS 19) fa cdv A outer s H E) 2 → Takes (CO P w K mg base ["_law_script", "_law_state_here", "_law_givens", "_law_rows_here", "_law_used", "_law_row", "_law_others", "_law_one", "_law_gone", "_law_due", "_law_some", "_law_as_was", "_law_found"] "law" (topS 19) fa cdv A outer s H E) (WC E) → PassesOwn (model P w) (CO P w K mg base ["_law_script", "_law_state_here", "_law_givens", "_law_rows_here", "_law_used", "_law_row", "_law_others", "_law_one", "_law_gone", "_law_due", "_law_some", "_law_as_was", "_law_found"] "law" (topS 19) fa cdv A outer s H E).A (CO P w K mg base ["_law_script", "_law_state_here", "_law_givens", "_law_rows_here", "_law_used", "_law_row", "_law_others", "_law_one", "_law_gone", "_law_due", "_law_some", "_law_as_was", "_law_found"] "law" (topS 19) fa cdv A outer s H E).env (CO P w K mg base ["_law_script", "_law_state_here", "_law_givens", "_law_rows_here", "_law_used", "_law_row", "_law_others", "_law_one", "_law_gone", "_law_due", "_law_some", "_law_as_was", "_law_found"] "law" (topS 19) fa cdv A outer s H E).xe → PSsm (CO P w K mg base ["_law_script", "_law_state_here", "_law_givens", "_law_rows_here", "_law_used", "_law_row", "_law_others", "_law_one", "_law_gone", "_law_due", "_law_some", "_law_as_was", "_law_found"] "law" (topS 19) fa cdv A outer s H E) T E (defBody (topS 19)) B_law := by
  have e := hfa.symm.trans (PySem.W.mg_of X G a8)
  cases e
  have F0 := fun_mk (st := topS 3) l0 c0 k0
  have F1 := fun_mk (st := topS 5) l1 c1 k1
  have F2 := fun_mk (st := topS 4) l2 c2 k2
  have F3 := fun_mk (st := topS 18) l3 c3 k3
  have F4 := fun_mk (st := topS 6) l4 c4 k4
  have F5 := fun_mk (st := topS 7) l5 c5 k5
  have F6 := fun_mk (st := topS 17) l6 c6 k6
  have F7 := fun_mk (st := topS 1) l7 c7 k7
  have F8 := fun_mk (st := topS 19) l8 c8 k8
  have bu : Bu mg := ⟨PySem.W.mg_none_of X G z0, PySem.W.mg_none_of X G z1, PySem.W.mg_none_of X G z2, PySem.W.mg_none_of X G z3, PySem.W.mg_none_of X G z4, PySem.W.mg_none_of X G z5, PySem.W.mg_none_of X G z6, PySem.W.mg_none_of X G z7, PySem.W.mg_none_of X G z8, PySem.W.mg_none_of X G z9, PySem.W.mg_none_of X G z10⟩
  refine ⟨_, ⟨fun _ _ => False, fun _ _ => False, fun _ _ _ _ => False⟩, F8, bu, fun s v => .of_eq rfl, fun base _ _ cdv A outer s H E hgu c tk hp => ?_⟩
  have d0 := ok_law_cell_at (P := P) (w := w) (base := base) (T := ⟨fun _ _ => False, fun _ _ => False, fun _ _ _ _ => False⟩) bu ⟨_, _, PySem.W.mg_of X G a0, F0⟩
  have d1 := ok_law_next (P := P) (w := w) (base := base) (T := ⟨fun _ _ => False, fun _ _ => False, fun _ _ _ _ => False⟩) bu ⟨_, _, PySem.W.mg_of X G a1, F1⟩
  have d2 := ok_law_mixed (P := P) (w := w) (base := base) (T := ⟨fun _ _ => False, fun _ _ => False, fun _ _ _ _ => False⟩) bu ⟨_, _, PySem.W.mg_of X G a2, F2⟩
  have d3 := ok_law_rows (P := P) (w := w) (base := base) (T := ⟨fun _ _ => False, fun _ _ => False, fun _ _ _ _ => False⟩) bu ⟨_, _, PySem.W.mg_of X G a3, F3⟩ d2
  have d4 := ok_law_state (P := P) (w := w) (base := base) (T := ⟨fun _ _ => False, fun _ _ => False, fun _ _ _ _ => False⟩) bu ⟨_, _, PySem.W.mg_of X G a4, F4⟩
  have d5 := ok_law_pool (P := P) (w := w) (base := base) (T := ⟨fun _ _ => False, fun _ _ => False, fun _ _ _ _ => False⟩) bu ⟨_, _, PySem.W.mg_of X G a5, F5⟩
  have d6 := ok_law_statements (P := P) (w := w) (base := base) (T := ⟨fun _ _ => False, fun _ _ => False, fun _ _ _ _ => False⟩) bu ⟨_, _, PySem.W.mg_of X G a6, F6⟩ d1 d5
  have d7 := ok_moved (P := P) (w := w) (base := base) (T := ⟨fun _ _ => False, fun _ _ => False, fun _ _ _ _ => False⟩) bu ⟨_, _, PySem.W.mg_of X G a7, F7⟩
  exact walk_law_def d0 d1 d3 d4 d6 d7 fa cdv A outer s H E hgu c tk hp
end Wy
open PySem PySem.W PyProof.Rows
set_option maxHeartbeats 0 in
theorem PySem.Challenge.cw_wishyard_k57_moved_holds : PySem.Challenge.rw_wishyard_k57_moved.Holds := by
  w_on; o_law; k_head; (case hw => w_witness2)
  k_fill
  refine Wy.walk_law (l := PySem.Challenge.rw_wishyard_k57_moved) (n := 63) (k := 2) (x := "_law_script") (lw := "law") (st := Wy.topS 19) (N := ["_law_script", "_law_state_here", "_law_givens", "_law_rows_here", "_law_used", "_law_row", "_law_others", "_law_one", "_law_gone", "_law_due", "_law_some", "_law_as_was", "_law_found"]) (m := Wy.B_law) rfl (by decide) rfl ⟨rfl, by decide, by decide⟩ (fun w h Y => PySem.W.kIn_of Y) Wy.sc_law ?F Wy.plain_k57
  case F =>
    intro w mg fa h KX G hmg
    refine' Wy.all_mk KX G hmg ?a0 ?l0 ?c0 ?k0 ?a1 ?l1 ?c1 ?k1 ?a2 ?l2 ?c2 ?k2 ?a3 ?l3 ?c3 ?k3 ?a4 ?l4 ?c4 ?k4 ?a5 ?l5 ?c5 ?k5 ?a6 ?l6 ?c6 ?k6 ?a7 ?l7 ?c7 ?k7 ?a8 ?l8 ?c8 ?k8 ?z0 ?z1 ?z2 ?z3 ?z4 ?z5 ?z6 ?z7 ?z8 ?z9 ?z10
    (case a0 => k_is); (case l0 => k_is); (case c0 => k_is); (case k0 => k_is); (case a1 => k_is); (case l1 => k_is); (case c1 => k_is); (case k1 => k_is); (case a2 => k_is); (case l2 => k_is); (case c2 => k_is); (case k2 => k_is); (case a3 => k_is); (case l3 => k_is); (case c3 => k_is); (case k3 => k_is); (case a4 => k_is); (case l4 => k_is); (case c4 => k_is); (case k4 => k_is); (case a5 => k_is); (case l5 => k_is); (case c5 => k_is); (case k5 => k_is); (case a6 => k_is); (case l6 => k_is); (case c6 => k_is); (case k6 => k_is); (case a7 => k_is); (case l7 => k_is); (case c7 => k_is); (case k7 => k_is); (case a8 => k_is); (case l8 => k_is); (case c8 => k_is); (case k8 => k_is); (case z0 => k_is); (case z1 => k_is); (case z2 => k_is); (case z3 => k_is); (case z4 => k_is); (case z5 => k_is); (case z6 => k_is); (case z7 => k_is); (case z8 => k_is); (case z9 => k_is); (case z10 => k_is)
