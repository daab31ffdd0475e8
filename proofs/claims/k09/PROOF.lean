import PyProof.Rows.All
import Wide.All
import OpenK.AllK
import Wide.FinOn
import HandS.ForMost
import HandS.ForExc
import HandS.DictComp
import HandS.IsInst
import HandS.CallSlots
import HandS.HeadHook2
import HandS.Wide
import HandS.Flow
import HandS.Style
import HandS.Deep
import HandS.DictTup
import HandS.TupAny
import HandS.HeadEnd
import HandS.Head0
import HandS.Head1
import HandS.Head2
import HandS.HeadHook1
import HandS.TupLe
import HandS.Defaults
import HandS.MakeKwOnly
import HandS.MakeKw
import HandS.Iter
import HandS.TupMul
import HandS.Conv
import HandS.Text
import KE.GoesMore
import KE.GoesEnum
import HandS.More
import HandS.SetKeys
import PyProof.DictUpdate
import HandS.ExcInit
import HandS.ExcField
import HandS.ExcIs
import HandS.ExcOwn
import HandS.TryOnly
import HandS.TryMany
import KE.KExcInit
import KE.KExcIs
import HandS.StrMore
import PyProof.StrLawsFrom
import PyProof.Rows.StrMeet
import HandS.Small
import PyProof.StrBlock2
import KE.KDictList
import PyProof.ListStr
import PyProof.ReprBulk
import PySem.Challenge.RW_mouthrules_k09_whole_in_whatever_portion
set_option Elab.async false
set_option maxRecDepth 100000
set_option maxHeartbeats 4000000
set_option linter.all false
set_option autoImplicit false
namespace Mv
open PySem L2

/-! ### values, objects, the monad -/
inductive D where
  | non | bl (b : Bool) | int (i : Int) | str (s : Str) | tup (xs : List D) | lst (xs : List D) | loc (n : Nat) | scr (ns : List Int)
  deriving Inhabited

mutual
def D.eqb : D → D → Bool
  | .non, .non => true
  | .bl a, .bl b => decide (a = b)
  | .int a, .int b => decide (a = b)
  | .str a, .str b => decide (a = b)
  | .tup a, .tup b => D.eqbs a b
  | .lst a, .lst b => D.eqbs a b
  | .loc a, .loc b => decide (a = b)
  | .scr a, .scr b => decide (a = b)
  | _, _ => false
def D.eqbs : List D → List D → Bool
  | [], [] => true
  | a :: r, b :: t => D.eqb a b && D.eqbs r t
  | _, _ => false
end
mutual
theorem D.eqb_eq : ∀ (x y : D), D.eqb x y = true → x = y
  | .non, y, h => by cases y <;> simp_all [D.eqb]
  | .bl a, y, h => by cases y <;> simp_all [D.eqb]
  | .int a, y, h => by cases y <;> simp_all [D.eqb]
  | .str a, y, h => by cases y <;> simp_all [D.eqb]
  | .loc a, y, h => by cases y <;> simp_all [D.eqb]
  | .scr a, y, h => by cases y <;> simp_all [D.eqb]
  | .tup a, y, h => by
    cases y with
    | tup b =>
      have e := D.eqbs_eq a b (by simpa [D.eqb] using h)
      rw [e]
    | _ => simp [D.eqb] at h
  | .lst a, y, h => by
    cases y with
    | lst b =>
      have e := D.eqbs_eq a b (by simpa [D.eqb] using h)
      rw [e]
    | _ => simp [D.eqb] at h
theorem D.eqbs_eq : ∀ (x y : List D), D.eqbs x y = true → x = y
  | [], [], _ => rfl
  | [], _ :: _, h => by simp [D.eqbs] at h
  | _ :: _, [], h => by simp [D.eqbs] at h
  | a :: r, b :: t, h => by
    have h2 : D.eqb a b = true ∧ D.eqbs r t = true := by simpa [D.eqbs] using h
    rw [D.eqb_eq a b h2.1, D.eqbs_eq r t h2.2]
end
mutual
theorem D.eqb_refl : ∀ (x : D), D.eqb x x = true
  | .non => by simp [D.eqb]
  | .bl a => by simp [D.eqb]
  | .int a => by simp [D.eqb]
  | .str a => by simp [D.eqb]
  | .loc a => by simp [D.eqb]
  | .scr a => by simp [D.eqb]
  | .tup a => by simp [D.eqb, D.eqbs_refl a]
  | .lst a => by simp [D.eqb, D.eqbs_refl a]
theorem D.eqbs_refl : ∀ (x : List D), D.eqbs x x = true
  | [] => by simp [D.eqbs]
  | a :: r => by simp [D.eqbs, D.eqb_refl a, D.eqbs_refl r]
end

inductive O where
  | lst (xs : List D)
  | dK (kvs : List (Key × D))
  | dT (kvs : List (List Key × D))
  | ins (c : Str) (fs : List (Str × D))
  | lk (o : O)
  deriving Inhabited

abbrev VH := List O
abbrev Env := List (Option D)

structure Xc where
  cls : Str
  fs : List (Str × D)

inductive R (α : Type) where
  | ok (a : α) (h : VH)
  | exc (x : Xc) (h : VH)
  | bad

def R.bind {α β : Type} (r : R α) (f : α → VH → R β) : R β := match r with
  | .ok a h => f a h
  | .exc x h => .exc x h
  | .bad => .bad
@[simp] theorem R.bind_ok {α β : Type} {a : α} {h : VH} {f : α → VH → R β} : (R.ok a h).bind f = f a h := rfl
@[simp] theorem R.bind_exc {α β : Type} {x : Xc} {h : VH} {f : α → VH → R β} : (R.exc x h).bind f = .exc x h := rfl
@[simp] theorem R.bind_bad {α β : Type} {f : α → VH → R β} : (R.bad : R α).bind f = .bad := rfl

def up {α : Type} : Option (α × VH) → R α
  | some (a, h) => .ok a h
  | none => .bad
@[simp] theorem up_some {α : Type} {a : α} {h : VH} : up (some (a, h)) = .ok a h := rfl
@[simp] theorem up_none {α : Type} : up (none : Option (α × VH)) = .bad := rfl

def Aft {α : Type} (r : R α) (P : α → VH → Prop) (Z : Xc → VH → Prop) : Prop := match r with
  | .ok a h => P a h
  | .exc x h => Z x h
  | .bad => False
theorem Aft.mono {α : Type} {r : R α} {P P' : α → VH → Prop} {Z Z' : Xc → VH → Prop} (h : Aft r P Z) (hp : ∀ a k, P a k → P' a k) (hz : ∀ x k, Z x k → Z' x k) : Aft r P' Z' := by
  cases r with
  | ok a k => exact hp a k h
  | exc x k => exact hz x k h
  | bad => exact h
theorem Aft.bind {α β : Type} {r : R α} {f : α → VH → R β} {P : β → VH → Prop} {Z : Xc → VH → Prop} (h : Aft (r.bind f) P Z) : Aft r (fun a k => Aft (f a k) P Z) Z := by
  cases r with
  | ok a k => exact h
  | exc x k => exact h
  | bad => exact h
theorem Aft.up {α : Type} {o : Option (α × VH)} {P : α → VH → Prop} {Z : Xc → VH → Prop} (h : Aft (up o) P Z) : ∃ a k, o = some (a, k) ∧ P a k := by
  cases o with
  | none => exact h.elim
  | some p => exact ⟨p.1, p.2, rfl, h⟩

/-! ### how the virtual heap lies in the abstract one -/
structure Ext0 (io : List Addr) (H : Hp) (io' : List Addr) (H' : Hp) : Prop where
  more : ∃ m, io' = io ++ m ∧ ∀ a ∈ m, H a = none
  tups : ∀ a xs, H a = some (.tup xs) → H' a = some (.tup xs)
  frzs : ∀ a o u, H a = some (.frz o u) → H' a = some (.frz o u)
  keep : ∀ a o, H a = some o → ∃ o', H' a = some o'
structure Ext (io : List Addr) (H : Hp) (io' : List Addr) (H' : Hp) : Prop extends Ext0 io H io' H' where
  fr : ∀ a o, a ∉ io → H a = some o → H' a = some o
theorem Ext.refl (io : List Addr) (H : Hp) : Ext io H io H := ⟨⟨⟨[], by simp, fun _ h => nomatch h⟩, fun _ _ h => h, fun _ _ _ h => h, fun _ o h => ⟨o, h⟩⟩, fun _ _ _ h => h⟩
theorem Ext0.trans {io io1 io2 : List Addr} {H H1 H2 : Hp} (a : Ext0 io H io1 H1) (b : Ext0 io1 H1 io2 H2) : Ext0 io H io2 H2 := by
  obtain ⟨m1, e1, f1⟩ := a.more
  obtain ⟨m2, e2, f2⟩ := b.more
  refine ⟨⟨m1 ++ m2, by rw [e2, e1, List.append_assoc], fun x hx => ?_⟩, fun x xs h => b.tups x xs (a.tups x xs h), fun x o u h => b.frzs x o u (a.frzs x o u h), fun x o h => ?_⟩
  · rcases List.mem_append.mp hx with h | h
    · exact f1 x h
    · cases q : H x with
      | none => rfl
      | some o =>
        obtain ⟨o', e⟩ := a.keep x o q
        rw [f2 x h] at e
        cases e
  · obtain ⟨o', e⟩ := a.keep x o h
    exact b.keep x o' e
theorem Ext0.nin {io io' : List Addr} {H H' : Hp} (e : Ext0 io H io' H') {a : Addr} {o : HO} (hn : a ∉ io) (h : H a = some o) : a ∉ io' := fun z => by
  obtain ⟨m, rfl, f⟩ := e.more
  rcases List.mem_append.mp z with z | z
  · exact hn z
  · rw [f _ z] at h
    cases h
theorem Ext.trans {io io1 io2 : List Addr} {H H1 H2 : Hp} (a : Ext io H io1 H1) (b : Ext io1 H1 io2 H2) : Ext io H io2 H2 :=
  ⟨a.toExt0.trans b.toExt0, fun x o hx hh => b.fr x o (a.nin hx hh) (a.fr x o hx hh)⟩
theorem Ext0.get {io io' : List Addr} {H H' : Hp} (e : Ext0 io H io' H') {n : Nat} {a : Addr} (h : io[n]? = some a) : io'[n]? = some a := by
  obtain ⟨m, rfl, _⟩ := e.more
  rw [List.getElem?_append_left (List.getElem?_eq_some_iff.mp h).1]
  exact h
theorem Ext0.rdT {io io' : List Addr} {H H' : Hp} (e : Ext0 io H io' H') {K : PySem.W.Frag} {a : Addr} {xs : List V} (h : SqT K H a xs) : SqT K H' a xs := by
  rcases h with (h | ⟨o, h⟩) | h
  · exact .inl (.inl (e.tups _ _ h))
  · exact .inl (.inr ⟨o, e.frzs _ _ _ h⟩)
  · exact .inr h

/-- a tuple that is tracked, or written -/
def SqU (K : PySem.W.Frag) (H : Hp) (a : Addr) (xs : List V) : Prop :=
  H a = some (.tup xs) ∨ ∃ (o : Obj) (its : Array Value) (n : Nat), K.lookup a = some o ∧ o.cls = .type "tuple" ∧ o.data = .seq its n ∧ its.size ≤ sizeLine ∧ Vals xs its.toList
theorem SqU.t {K : PySem.W.Frag} {H : Hp} {a : Addr} {xs : List V} (h : SqU K H a xs) : SqT K H a xs := by
  rcases h with h | h
  · exact .inl (.inl h)
  · exact .inr h
theorem SqU.of {K : PySem.W.Frag} {H : Hp} {a : Addr} {xs : List V} (h : H a = some (.tup xs)) : SqU K H a xs := .inl h
instance {K : PySem.W.Frag} {H : Hp} {a : Addr} {xs : List V} : Coe (SqU K H a xs) (SqT K H a xs) := ⟨SqU.t⟩
theorem Ext0.rdU {io io' : List Addr} {H H' : Hp} (e : Ext0 io H io' H') {K : PySem.W.Frag} {a : Addr} {xs : List V} (h : SqU K H a xs) : SqU K H' a xs := by
  rcases h with h | h
  · exact .inl (e.tups _ _ h)
  · exact .inr h

/-- the script's own list: locked, or written -/
def Sc (K : PySem.W.Frag) (H : Hp) (a : Addr) (xs : List V) : Prop :=
  (∃ o, H a = some (.frz o (.lst xs))) ∨
    ∃ o its n, List.lookup a K = some o ∧ o.cls = Value.type "list" ∧ o.dict = none ∧ o.data = Data.seq its n ∧ its.size ≤ sizeLine ∧ Vals xs its.toList
theorem Sc.sq {K : PySem.W.Frag} {H : Hp} {a : Addr} {xs : List V} (h : Sc K H a xs) : SqL K H a xs := by
  rcases h with ⟨o, h⟩ | h
  · exact .inl (.inr ⟨o, h⟩)
  · exact .inr h
theorem Sc.mono {K : PySem.W.Frag} {io io' : List Addr} {H H' : Hp} {a : Addr} {xs : List V} (e : Ext0 io H io' H') (h : Sc K H a xs) : Sc K H' a xs := by
  rcases h with ⟨o, h⟩ | h
  · exact .inl ⟨o, e.frzs _ _ _ h⟩
  · exact .inr h

/-- a text that the library's data take -/
def sOk (s : Str) : Prop := PyData.strOk s = true ∧ s.length ≤ sizeLine
def kOk : Key → Prop
  | .inl _ => True
  | .inr s => sOk s
def ksOk (ks : List Key) : Prop := ∀ k ∈ ks, kOk k
mutual
inductive RV (K : PySem.W.Frag) (io : List Addr) (H : Hp) : D → V → Prop
  | non : RV K io H .non .non
  | bl (b : Bool) : RV K io H (.bl b) (.bl b)
  | int (i : Int) : RV K io H (.int i) (.int i)
  | str (s : Str) : sOk s → RV K io H (.str s) (.str s)
  | tup {a : Addr} {xs : List V} {ds : List D} : SqU K H a xs → RVs K io H ds xs → RV K io H (.tup ds) (.ref a)
  | lst {a : Addr} {o : Obj} {xs : List V} {ds : List D} : H a = some (.frz o (.lst xs)) → RVs K io H ds xs → RV K io H (.lst ds) (.ref a)
  | loc {n : Nat} {a : Addr} : io[n]? = some a → RV K io H (.loc n) (.ref a)
  | scr {a : Addr} {ns : List Int} : Sc K H a (ns.map V.int) → RV K io H (.scr ns) (.ref a)
inductive RVs (K : PySem.W.Frag) (io : List Addr) (H : Hp) : List D → List V → Prop
  | nil : RVs K io H [] []
  | cons {d : D} {ds : List D} {v : V} {vs : List V} : RV K io H d v → RVs K io H ds vs → RVs K io H (d :: ds) (v :: vs)
end
section
variable {K : PySem.W.Frag} {io io' : List Addr} {H H' : Hp}
mutual
theorem RV.mono (e : Ext0 io H io' H') : ∀ (d : D) (v : V), RV K io H d v → RV K io' H' d v
  | .non, _, h => by cases h; exact .non
  | .bl _, _, h => by cases h; exact .bl _
  | .int _, _, h => by cases h; exact .int _
  | .str _, _, h => by
    cases h with
    | str _ h => exact .str _ h
  | .loc _, _, h => by
    cases h with
    | loc h => exact .loc (e.get h)
  | .scr _, _, h => by
    cases h with
    | scr h => exact .scr (h.mono e)
  | .tup ds, _, h => by
    cases h with
    | tup h1 h2 => exact .tup (e.rdU h1) (RVs.mono e ds _ h2)
  | .lst ds, _, h => by
    cases h with
    | lst h1 h2 => exact .lst (e.frzs _ _ _ h1) (RVs.mono e ds _ h2)
theorem RVs.mono (e : Ext0 io H io' H') : ∀ (ds : List D) (vs : List V), RVs K io H ds vs → RVs K io' H' ds vs
  | [], _, h => by cases h; exact .nil
  | d :: ds, _, h => by
    cases h with
    | cons h1 h2 => exact .cons (RV.mono e d _ h1) (RVs.mono e ds _ h2)
end
theorem RVs.length : ∀ {ds : List D} {vs : List V}, RVs K io H ds vs → ds.length = vs.length
  | [], _, h => by cases h; rfl
  | _ :: _, _, h => by
    cases h with
    | cons h1 h2 => simp [RVs.length h2]
theorem RVs.get : ∀ {ds : List D} {vs : List V} {i : Nat} {d : D}, RVs K io H ds vs → ds[i]? = some d → ∃ v, vs[i]? = some v ∧ RV K io H d v
  | [], _, _, _, _, e => by simp at e
  | _ :: _, _, 0, _, h, e => by
    cases h with
    | cons h1 h2 =>
      simp at e
      subst e
      exact ⟨_, rfl, h1⟩
  | _ :: ds, _, i + 1, d, h, e => by
    cases h with
    | cons h1 h2 =>
      obtain ⟨v, q1, q2⟩ := RVs.get (i := i) (d := d) h2 (by simpa using e)
      exact ⟨v, by simpa using q1, q2⟩
theorem RVs.append : ∀ {ds es : List D} {vs ws : List V}, RVs K io H ds vs → RVs K io H es ws → RVs K io H (ds ++ es) (vs ++ ws)
  | [], _, _, _, h, k => by cases h; exact k
  | _ :: _, _, _, _, h, k => by
    cases h with
    | cons h1 h2 => exact .cons h1 (RVs.append h2 k)
theorem RVs.take : ∀ {ds : List D} {vs : List V} (n : Nat), RVs K io H ds vs → RVs K io H (ds.take n) (vs.take n)
  | _, _, 0, _ => .nil
  | [], _, _ + 1, h => by cases h; exact .nil
  | _ :: _, _, n + 1, h => by
    cases h with
    | cons h1 h2 => exact .cons h1 (RVs.take n h2)
theorem RVs.drop : ∀ {ds : List D} {vs : List V} (n : Nat), RVs K io H ds vs → RVs K io H (ds.drop n) (vs.drop n)
  | _, _, 0, h => h
  | [], _, _ + 1, h => by cases h; exact .nil
  | _ :: _, _, n + 1, h => by
    cases h with
    | cons h1 h2 => exact RVs.drop n h2
theorem RVs.set : ∀ {ds : List D} {vs : List V} {d : D} {v : V} (n : Nat), RVs K io H ds vs → RV K io H d v → RVs K io H (ds.set n d) (vs.set n v)
  | [], _, _, _, _, h, _ => by cases h; exact .nil
  | _ :: _, _, _, _, 0, h, r => by
    cases h with
    | cons h1 h2 => exact .cons r h2
  | _ :: _, _, _, _, n + 1, h, r => by
    cases h with
    | cons h1 h2 => exact .cons h1 (RVs.set n h2 r)
theorem RVs.reverse : ∀ {ds : List D} {vs : List V}, RVs K io H ds vs → RVs K io H ds.reverse vs.reverse
  | [], _, h => by cases h; exact .nil
  | _ :: _, _, h => by
    cases h with
    | cons h1 h2 =>
      rw [List.reverse_cons, List.reverse_cons]
      exact RVs.append (RVs.reverse h2) (.cons h1 .nil)
theorem RVs.ints : ∀ {ns : List Int} {vs : List V}, RVs K io H (ns.map D.int) vs → vs = ns.map V.int
  | [], _, h => by cases h; rfl
  | n :: ns, _, h => by
    cases h with
    | cons h1 h2 =>
      cases h1
      rw [RVs.ints h2]
      rfl
theorem RVs.ofInts : ∀ (ns : List Int), RVs K io H (ns.map D.int) (ns.map V.int)
  | [] => .nil
  | n :: ns => .cons (.int n) (RVs.ofInts ns)
theorem RVs.bls : ∀ {ns : List Bool} {vs : List V}, RVs K io H (ns.map D.bl) vs → vs = ns.map V.bl
  | [], _, h => by cases h; rfl
  | n :: ns, _, h => by
    cases h with
    | cons h1 h2 =>
      cases h1
      rw [RVs.bls h2]
      rfl
end

/-- pairs of a dict -/
inductive RK (K : PySem.W.Frag) (io : List Addr) (H : Hp) {κ : Type} (ok : κ → Prop) : List (κ × D) → List (κ × V) → Prop
  | nil : RK K io H ok [] []
  | cons {k : κ} {d : D} {v : V} {ds : List (κ × D)} {vs : List (κ × V)} : ok k → RV K io H d v → RK K io H ok ds vs → RK K io H ok ((k, d) :: ds) ((k, v) :: vs)
theorem RK.mono {K : PySem.W.Frag} {io io' : List Addr} {H H' : Hp} {κ : Type} {ok : κ → Prop} (e : Ext0 io H io' H') {ds : List (κ × D)} {vs : List (κ × V)} (h : RK K io H ok ds vs) : RK K io' H' ok ds vs := by
  induction h with
  | nil => exact .nil
  | cons h0 h1 _ ih => exact .cons h0 (RV.mono e _ _ h1) ih

def RO (K : PySem.W.Frag) (io : List Addr) (H : Hp) : O → HO → Prop
  | .lst ds, ho => ∃ xs, ho = .lst xs ∧ RVs K io H ds xs
  | .dK kvs, ho => ∃ vs, ho = .dK vs ∧ RK K io H kOk kvs vs
  | .dT kvs, ho => ∃ vs, ho = .dT vs ∧ RK K io H ksOk kvs vs
  | .ins c fs, ho => ∃ dx vs, ho = .ins (He.ga K c) dx vs ∧ RK K io H (fun _ => True) fs vs
  | .lk o, ho => ∃ od u, ho = .frz od u ∧ RO K io H o u
theorem RO.mono {K : PySem.W.Frag} {io io' : List Addr} {H H' : Hp} (e : Ext0 io H io' H') {o : O} {ho : HO} (h : RO K io H o ho) : RO K io' H' o ho := by
  induction o generalizing ho with
  | lst ds => obtain ⟨xs, rfl, r⟩ := h; exact ⟨xs, rfl, RVs.mono e _ _ r⟩
  | dK kvs => obtain ⟨xs, rfl, r⟩ := h; exact ⟨xs, rfl, r.mono e⟩
  | dT kvs => obtain ⟨xs, rfl, r⟩ := h; exact ⟨xs, rfl, r.mono e⟩
  | ins c fs => obtain ⟨dx, xs, rfl, r⟩ := h; exact ⟨dx, xs, rfl, r.mono e⟩
  | lk o ih =>
    obtain ⟨od, u, rfl, r⟩ := h
    exact ⟨od, u, rfl, ih r⟩

structure RepH (K : PySem.W.Frag) (io : List Addr) (h : VH) (H : Hp) : Prop where
  len : io.length = h.length
  nd : io.Nodup
  ob : ∀ (n : Nat) (o : O) (a : Addr), h[n]? = some o → io[n]? = some a → ∃ ho, H a = some ho ∧ RO K io H o ho
theorem RepH.has {K : PySem.W.Frag} {io : List Addr} {h : VH} {H : Hp} (r : RepH K io h H) {a : Addr} (ha : a ∈ io) : ∃ ho, H a = some ho := by
  obtain ⟨n, hn⟩ := List.getElem?_of_mem ha
  have hl : n < h.length := by rw [← r.len]; exact (List.getElem?_eq_some_iff.mp hn).1
  obtain ⟨ho, e, _⟩ := r.ob n h[n] a (List.getElem?_eq_getElem hl) hn
  exact ⟨ho, e⟩
theorem RepH.nin {K : PySem.W.Frag} {io : List Addr} {h : VH} {H : Hp} (r : RepH K io h H) {p : Addr} (hp : H p = none) : p ∉ io := fun z => by
  obtain ⟨ho, e⟩ := r.has z
  rw [hp] at e
  cases e
/-- a new object that is not of the virtual heap -/
theorem ext_out {K : PySem.W.Frag} {io : List Addr} {h : VH} {H : Hp} (r : RepH K io h H) {p : Addr} {o : HO} (hp : H p = none) : Ext io H io (upd H p o) :=
  ⟨⟨⟨[], by simp, fun _ z => nomatch z⟩, fun a u e => by rw [upd_ne (ne_of_none e hp)]; exact e, fun a u v e => by rw [upd_ne (ne_of_none e hp)]; exact e, fun a u e => ⟨u, by rw [upd_ne (ne_of_none e hp)]; exact e⟩⟩, fun a u _ e => by rw [upd_ne (ne_of_none e hp)]; exact e⟩
theorem RepH.out {K : PySem.W.Frag} {io : List Addr} {h : VH} {H : Hp} (r : RepH K io h H) {p : Addr} {o : HO} (hp : H p = none) : RepH K io h (upd H p o) :=
  ⟨r.len, r.nd, fun n ob a h1 h2 => by
    obtain ⟨ho, e, q⟩ := r.ob n ob a h1 h2
    exact ⟨ho, by rw [upd_ne (ne_of_none e hp)]; exact e, q.mono (ext_out r hp).toExt0⟩⟩
/-- a new object of the virtual heap -/
theorem ext_new {K : PySem.W.Frag} {io : List Addr} {h : VH} {H : Hp} (r : RepH K io h H) {p : Addr} {o : HO} (hp : H p = none) : Ext io H (io ++ [p]) (upd H p o) :=
  ⟨⟨⟨[p], rfl, fun a z => by rw [List.mem_singleton.mp z]; exact hp⟩, fun a u e => by rw [upd_ne (ne_of_none e hp)]; exact e, fun a u v e => by rw [upd_ne (ne_of_none e hp)]; exact e, fun a u e => ⟨u, by rw [upd_ne (ne_of_none e hp)]; exact e⟩⟩, fun a u _ e => by rw [upd_ne (ne_of_none e hp)]; exact e⟩
theorem RepH.new {K : PySem.W.Frag} {io : List Addr} {h : VH} {H : Hp} (r : RepH K io h H) {p : Addr} {o : O} {ho : HO} (hp : H p = none) (hr : RO K (io ++ [p]) (upd H p ho) o ho) : RepH K (io ++ [p]) (h ++ [o]) (upd H p ho) := by
  refine ⟨by simp [r.len], ?_, fun n ob a h1 h2 => ?_⟩
  · rw [List.nodup_append]
    refine ⟨r.nd, by simp, fun a ha b hb => ?_⟩
    rw [List.mem_singleton.mp hb]
    intro e
    subst e
    exact r.nin hp ha
  · by_cases hn : n < h.length
    · rw [List.getElem?_append_left hn] at h1
      rw [List.getElem?_append_left (by rw [r.len]; exact hn)] at h2
      obtain ⟨hb, e, q⟩ := r.ob n ob a h1 h2
      exact ⟨hb, by rw [upd_ne (ne_of_none e hp)]; exact e, q.mono (ext_new r hp).toExt0⟩
    · have hlt := (List.getElem?_eq_some_iff.mp h1).1
      have hn2 : n = h.length := by simp at hlt; omega
      subst hn2
      have e1 : ob = o := by
        rw [List.getElem?_append_right (Nat.le_refl _)] at h1
        simp at h1
        exact h1.symm
      have e2 : a = p := by
        rw [← r.len] at h2
        rw [List.getElem?_append_right (Nat.le_refl _)] at h2
        simp at h2
        exact h2.symm
      subst e1 e2
      exact ⟨ho, upd_same, hr⟩
/-- an object of the virtual heap changes -/
theorem ext_set {K : PySem.W.Frag} {io : List Addr} {h : VH} {H : Hp} (r : RepH K io h H) {n : Nat} {a : Addr} {o ho : HO} (ha : io[n]? = some a) (h0 : H a = some o) (ht : ∀ xs, o ≠ .tup xs) (hf : ∀ od u, o ≠ .frz od u) : Ext io H io (upd H a ho) :=
  ⟨⟨⟨[], by simp, fun _ z => nomatch z⟩, fun b xs e => by
      rw [upd_ne (fun z => by subst z; rw [h0] at e; cases e; exact ht _ rfl)]
      exact e, fun b od u e => by
      rw [upd_ne (fun z => by subst z; rw [h0] at e; cases e; exact hf _ _ rfl)]
      exact e, fun b u e => by
      by_cases hb : b = a
      · subst hb; exact ⟨ho, upd_same⟩
      · exact ⟨u, by rw [upd_ne hb]; exact e⟩⟩, fun b u hb e => by
      rw [upd_ne (show b ≠ a from fun z => hb (by rw [z]; exact List.mem_of_getElem? ha))]
      exact e⟩
theorem RepH.setO {K : PySem.W.Frag} {io : List Addr} {h : VH} {H : Hp} (r : RepH K io h H) {n : Nat} {a : Addr} {o ho : HO} {ob : O} (ha : io[n]? = some a) (E : Ext io H io (upd H a ho)) (hr : RO K io (upd H a ho) ob ho) : RepH K io (h.set n ob) (upd H a ho) := by
  refine ⟨by simp [r.len], r.nd, fun m oc b h1 h2 => ?_⟩
  by_cases hm : m = n
  · subst hm
    rw [ha] at h2
    cases h2
    have hl : m < h.length := by rw [← r.len]; exact (List.getElem?_eq_some_iff.mp ha).1
    rw [List.getElem?_set_self hl] at h1
    cases h1
    exact ⟨ho, upd_same, hr⟩
  · rw [List.getElem?_set_ne (Ne.symm hm)] at h1
    obtain ⟨hb, e, q⟩ := r.ob m oc b h1 h2
    have hne : b ≠ a := fun z => by
      subst z
      have l1 := (List.getElem?_eq_some_iff.mp h2)
      have l2 := (List.getElem?_eq_some_iff.mp ha)
      obtain ⟨p1, q1⟩ := l1
      obtain ⟨p2, q2⟩ := l2
      exact hm ((List.getElem_inj r.nd).mp (q1.trans q2.symm))
    exact ⟨hb, by rw [upd_ne hne]; exact e, q.mono E.toExt0⟩

/-! ### environments -/
structure RepE (K : PySem.W.Frag) (io : List Addr) (H : Hp) (rho : Env) (sg : L2.St) : Prop where
  len : rho.length = sg.length
  val : ∀ (i : Nat) (d : D), rho[i]? = some (some d) → ∃ v, sg[i]? = some (some v) ∧ RV K io H d v
theorem RepE.mono {K : PySem.W.Frag} {io io' : List Addr} {H H' : Hp} {rho : Env} {sg : L2.St} (r : RepE K io H rho sg) (e : Ext0 io H io' H') : RepE K io' H' rho sg :=
  ⟨r.len, fun i d h => by
    obtain ⟨v, e1, e2⟩ := r.val i d h
    exact ⟨v, e1, RV.mono e _ _ e2⟩⟩
theorem RepE.set {K : PySem.W.Frag} {io : List Addr} {H : Hp} {rho : Env} {sg : L2.St} (r : RepE K io H rho sg) (i : Nat) {d : D} {v : V} (h : RV K io H d v) : RepE K io H (rho.set i (some d)) (sg.set i (some v)) := by
  refine ⟨by simp [r.len], fun j e hj => ?_⟩
  by_cases hij : i = j
  · subst hij
    by_cases hl : i < rho.length
    · rw [List.getElem?_set_self hl] at hj
      cases hj
      exact ⟨v, List.getElem?_set_self (by rw [← r.len]; exact hl), h⟩
    · rw [List.getElem?_eq_none (by simp; omega)] at hj
      cases hj
  · rw [List.getElem?_set_ne hij] at hj ⊢
    exact r.val j e hj
theorem RepE.wipe1 {K : PySem.W.Frag} {io : List Addr} {H : Hp} {rho : Env} {sg : L2.St} (r : RepE K io H rho sg) (i : Nat) : RepE K io H (rho.set i none) (sg.set i none) := by
  refine ⟨by simp [r.len], fun j e hj => ?_⟩
  by_cases hij : i = j
  · subst hij
    by_cases hl : i < rho.length
    · rw [List.getElem?_set_self hl] at hj
      cases hj
    · rw [List.getElem?_eq_none (by simp; omega)] at hj
      cases hj
  · rw [List.getElem?_set_ne hij] at hj ⊢
    exact r.val j e hj
/-- fewer names known -/
theorem RepE.less {K : PySem.W.Frag} {io : List Addr} {H : Hp} {rho : Env} {sg : L2.St} (r : RepE K io H rho sg) (i : Nat) : RepE K io H (rho.set i none) sg := by
  refine ⟨by simp [r.len], fun j e hj => ?_⟩
  by_cases hij : i = j
  · subst hij
    by_cases hl : i < rho.length
    · rw [List.getElem?_set_self hl] at hj
      cases hj
    · rw [List.getElem?_eq_none (by simp; omega)] at hj
      cases hj
  · rw [List.getElem?_set_ne hij] at hj
    exact r.val j e hj

/-- exceptions: the class's value, its own dict -/
def RX (K : PySem.W.Frag) (io : List Addr) (H : Hp) (x : Xc) (c : Value) (dd : Option Addr) : Prop :=
  c = .ref (He.ga K x.cls) ∧ ((x.fs = [] ∧ dd = none) ∨ ∃ d vs, x.fs ≠ [] ∧ dd = some d ∧ d ∉ io ∧ H d = some (.xd vs) ∧ RK K io H (fun _ => True) x.fs vs)

/-! ### what is wanted behind -/
def Pv (K : PySem.W.Frag) (io : List Addr) (H : Hp) (Q : VK) : D → VH → Prop := fun d h' => ∀ io' H' v, Ext io H io' H' → RepH K io' h' H' → RV K io' H' d v → Q v H'
def Zx (K : PySem.W.Frag) (W : WX) (io : List Addr) (H : Hp) (sg : L2.St) : Xc → VH → Prop := fun x h' => ∀ io' H' c dd, Ext io H io' H' → RepH K io' h' H' → RX K io' H' x c dd → W c dd sg H'
def Pl (K : PySem.W.Frag) (io : List Addr) (H : Hp) (Q : List V → Hp → Prop) : List D → VH → Prop := fun ds h' => ∀ io' H' vs, Ext io H io' H' → RepH K io' h' H' → RVs K io' H' ds vs → Q vs H'
def Pb (K : PySem.W.Frag) (io : List Addr) (H : Hp) (Q : Bool → Hp → Prop) : Bool → VH → Prop := fun b h' => ∀ io' H', Ext io H io' H' → RepH K io' h' H' → Q b H'
theorem Pv.mono {K : PySem.W.Frag} {io io' : List Addr} {H H' : Hp} {Q : VK} {d : D} {h : VH} (p : Pv K io H Q d h) (e : Ext io H io' H') : Pv K io' H' Q d h := fun i2 H2 v e2 r2 v2 => p i2 H2 v (e.trans e2) r2 v2
theorem Pl.mono {K : PySem.W.Frag} {io io' : List Addr} {H H' : Hp} {Q : List V → Hp → Prop} {d : List D} {h : VH} (p : Pl K io H Q d h) (e : Ext io H io' H') : Pl K io' H' Q d h := fun i2 H2 v e2 r2 v2 => p i2 H2 v (e.trans e2) r2 v2
theorem Pb.mono {K : PySem.W.Frag} {io io' : List Addr} {H H' : Hp} {Q : Bool → Hp → Prop} {d : Bool} {h : VH} (p : Pb K io H Q d h) (e : Ext io H io' H') : Pb K io' H' Q d h := fun i2 H2 e2 r2 => p i2 H2 (e.trans e2) r2
theorem Zx.mono {K : PySem.W.Frag} {W : WX} {io io' : List Addr} {H H' : Hp} {sg : L2.St} {x : Xc} {h : VH} (p : Zx K W io H sg x h) (e : Ext io H io' H') : Zx K W io' H' sg x h := fun i2 H2 c dd e2 r2 v2 => p i2 H2 c dd (e.trans e2) r2 v2

abbrev Ex := Env → VH → R D
abbrev Ts := Env → VH → R Bool
abbrev Ar := Env → VH → R (List D)
/-- a list that is made last of all -/
def Pf (K : PySem.W.Frag) (io : List Addr) (H : Hp) (Q : VK) : List D → VH → Prop := fun ds h' => ∀ io' H' p xs, Ext io H io' H' → RepH K io' h' H' → H' p = none → RVs K io' H' ds xs → Q (.ref p) (upd H' p (.lst xs))
theorem Pf.mono {K : PySem.W.Frag} {io io' : List Addr} {H H' : Hp} {Q : VK} {d : List D} {h : VH} (p : Pf K io H Q d h) (e : Ext io H io' H') : Pf K io' H' Q d h := fun i2 H2 a xs e2 r2 h1 h2 => p i2 H2 a xs (e.trans e2) r2 h1 h2

def tE (K : PySem.W.Frag) (W : WX) (m : Ex) : TE := fun sg H Q => ∃ io h rho, RepH K io h H ∧ RepE K io H rho sg ∧ Aft (m rho h) (Pv K io H Q) (Zx K W io H sg)
def tT (K : PySem.W.Frag) (W : WX) (m : Ts) : TT := fun sg H Q => ∃ io h rho, RepH K io h H ∧ RepE K io H rho sg ∧ Aft (m rho h) (Pb K io H Q) (Zx K W io H sg)
def tA (K : PySem.W.Frag) (W : WX) (m : Ar) : TA := fun sg H Q => ∃ io h rho, RepH K io h H ∧ RepE K io H rho sg ∧ Aft (m rho h) (Pl K io H Q) (Zx K W io H sg)

def tL (K : PySem.W.Frag) (W : WX) (m : Ar) : TE := fun sg H Q => ∃ io h rho, RepH K io h H ∧ RepE K io H rho sg ∧ Aft (m rho h) (Pf K io H Q) (Zx K W io H sg)
def SL (X : Cx) (W : WX) (e : Expr) (m : Ar) : Prop := PE X e (tL X.K W m)
def SE (X : Cx) (W : WX) (e : Expr) (m : Ex) : Prop := PE X e (tE X.K W m)
def ST (X : Cx) (W : WX) (e : Expr) (m : Ts) : Prop := PT X e (tT X.K W m)
def SW (X : Cx) (W : WX) (e : Expr) (m : Ts) : Prop := PW X e (tT X.K W m)
def SA (X : Cx) (W : WX) (es : List Expr) (m : Ar) : Prop := PA X es (tA X.K W m)

theorem pe_imp {X : Cx} {e : Expr} {t t' : TE} (p : PE X e t) (h : ∀ sg H Q, t' sg H Q → t sg H Q) : PE X e t' := ⟨fun pins s sg H Q I q => p.run pins s sg H Q I (h sg H Q q)⟩
theorem pt_imp {X : Cx} {e : Expr} {t t' : TT} (p : PT X e t) (h : ∀ sg H Q, t' sg H Q → t sg H Q) : PT X e t' := ⟨fun pins s sg H Q I q => p.run pins s sg H Q I (h sg H Q q)⟩
theorem pw_imp {X : Cx} {e : Expr} {t t' : TT} (p : PW X e t) (h : ∀ sg H Q, t' sg H Q → t sg H Q) : PW X e t' := ⟨fun w pins s sg H Q I q => p.run w pins s sg H Q I (h sg H Q q)⟩
theorem pa_imp {X : Cx} {e : List Expr} {t t' : TA} (p : PA X e t) (h : ∀ sg H Q, t' sg H Q → t sg H Q) : PA X e t' := ⟨fun w pins s sg H Q I q => p.run w pins s sg H Q I (h sg H Q q)⟩

/-! ### expressions -/
section
variable {X : Cx} {W : WX}
def eV (i : Nat) : Ex := fun rho h => match rho[i]? with
  | some (some d) => .ok d h
  | _ => .bad
theorem se_var {i : Nat} {e : Expr} (p : PE X e (tVar i)) : SE X W e (eV i) := pe_imp p fun sg H Q ⟨io, h, rho, hR, hE, hA⟩ => by
  unfold eV at hA
  split at hA
  · rename_i d hd
    obtain ⟨v, e1, e2⟩ := hE.val i d hd
    exact ⟨v, e1, hA io H v (Ext.refl _ _) hR e2⟩
  · exact hA.elim
def eC (d : D) : Ex := fun _ h => .ok d h
/-- a constant: its value is so in any heap -/
theorem se_c {e : Expr} {d : D} {v : V} (p : PE X e (tC v)) (r : ∀ io H, RV X.K io H d v) : SE X W e (eC d) := pe_imp p fun sg H Q ⟨io, h, rho, hR, hE, hA⟩ => hA io H v (Ext.refl _ _) hR (r io H)
theorem se_int {i : Int} {j pos} : SE X W (.Constant (.int i) j pos) (eC (.int i)) := se_c pe_int fun _ _ => .int _
theorem se_bl {b : Bool} {j pos} : SE X W (.Constant (.bool b) j pos) (eC (.bl b)) := se_c pe_bl fun _ _ => .bl _
theorem se_non {j pos} : SE X W (.Constant .none j pos) (eC .non) := se_c pe_non fun _ _ => .non
theorem se_str {x : Str} {j pos} (h : sOk x) : SE X W (.Constant (.str x) j pos) (eC (.str x)) := se_c pe_str fun _ _ => .str _ h
theorem sok {s : Str} (h : (PyData.strOk s && decide (s.length ≤ 1000)) = true) : sOk s := by
  obtain ⟨h1, h2⟩ := Bool.and_eq_true_iff.mp h
  exact ⟨h1, Nat.le_trans (of_decide_eq_true h2) (by decide)⟩

/-- a list just made may be locked for good -/
def Fz (Q : VK) : VK := fun v H => Q v H ∨ ∃ a xs, v = .ref a ∧ H a = some (.lst xs) ∧ ∀ o, Q (.ref a) (upd H a (.frz o (.lst xs)))
theorem pe_fz {e : Expr} {t : TE} (p : PE X e t) : PE X e (fun sg H Q => t sg H (Fz Q)) := by
  refine ⟨fun pins s sg H Q I q => ?_⟩
  refine thn (p.run pins s sg H _ I q) fun u s1 ⟨v, H1, I1, r1, q1⟩ => ?_
  rcases q1 with q1 | ⟨a, xs, rfl, h1, q1⟩
  · exact ⟨v, H1, I1, r1, q1⟩
  · obtain ⟨od, I2⟩ := I1.lock h1 trivial
    exact ⟨.ref a, _, I2, r1, q1 od⟩
/-- an operation of two values that raises nothing -/
abbrev F2 := D → D → VH → Option (D × VH)
def OpS (K : PySem.W.Frag) (f : F2) (r : R2) : Prop := ∀ io h H x y v u Q d h', RepH K io h H → RV K io H x v → RV K io H y u → f x y h = some (d, h') → Pv K io H Q d h' → r v u H Q
def OpM (X : Cx) (g : Value → Value → Sem Value) (f : F2) : Prop := ∃ r, OpR X g r ∧ OpS X.K f r
def eOp (f : F2) (a b : Ex) : Ex := fun rho h => (a rho h).bind fun x h1 => (b rho h1).bind fun y h2 => up (f x y h2)
/-- the two operands' reading -/
theorem two {K : PySem.W.Frag} {a b : Ex} {f : F2} {r : R2} {sg : L2.St} {H : Hp} {Q : VK} (hf : OpS K f r) (h : tE K W (eOp f a b) sg H Q) : tE K W a sg H fun x H1 => tE K W b sg H1 fun y H2 => r x y H2 Q := by
  obtain ⟨io, h, rho, hR, hE, hA⟩ := h
  refine ⟨io, h, rho, hR, hE, (Aft.bind hA).mono (fun x h1 hx => ?_) fun _ _ z => z⟩
  intro io1 H1 v e1 R1 v1
  refine ⟨io1, h1, rho, R1, hE.mono e1.toExt0, (Aft.bind hx).mono (fun y h2 hy => ?_) fun _ _ z => z.mono e1⟩
  intro io2 H2 u e2 R2 v2
  obtain ⟨d, h3, e3, p⟩ := hy.up
  exact hf io2 h2 H2 x y v u Q d h3 R2 (RV.mono e2.toExt0 _ _ v1) v2 e3 (p.mono (e1.trans e2))
/-- .. whose answer may be a list just made -/
def OpF (K : PySem.W.Frag) (f : F2) (r : R2) : Prop := ∀ io h H x y v u Q d h', RepH K io h H → RV K io H x v → RV K io H y u → f x y h = some (d, h') → Pv K io H Q d h' → r v u H (Fz Q)
def OpN (X : Cx) (g : Value → Value → Sem Value) (f : F2) : Prop := ∃ r, OpR X g r ∧ OpF X.K f r
theorem twoF {K : PySem.W.Frag} {a b : Ex} {f : F2} {r : R2} {sg : L2.St} {H : Hp} {Q : VK} (hf : OpF K f r) (h : tE K W (eOp f a b) sg H Q) : tE K W a sg H fun x H1 => tE K W b sg H1 fun y H2 => r x y H2 (Fz Q) := by
  obtain ⟨io, h, rho, hR, hE, hA⟩ := h
  refine ⟨io, h, rho, hR, hE, (Aft.bind hA).mono (fun x h1 hx => ?_) fun _ _ z => z⟩
  intro io1 H1 v e1 R1 v1
  refine ⟨io1, h1, rho, R1, hE.mono e1.toExt0, (Aft.bind hx).mono (fun y h2 hy => ?_) fun _ _ z => z.mono e1⟩
  intro io2 H2 u e2 R2 v2
  obtain ⟨d, h3, e3, p⟩ := hy.up
  exact hf io2 h2 H2 x y v u Q d h3 R2 (RV.mono e2.toExt0 _ _ v1) v2 e3 (p.mono (e1.trans e2))
theorem se_op {a b : Expr} {A B : Ex} {op : Operator} {f : F2} {pos : Pos} (ho : OpN X (binaryOp op) f) (ha : SE X W a A) (hb : SE X W b B) : SE X W (.BinOp a op b pos) (eOp f A B) := by
  obtain ⟨r, h1, h2⟩ := ho
  exact pe_imp (pe_fz (pe_op h1 ha hb)) fun sg H Q h => twoF h2 h
theorem Pv.fz {K : PySem.W.Frag} {io : List Addr} {h : VH} {H : Hp} {Q : VK} {d : D} {v : V} (r : RepH K io h H) (p : Pv K io H Q d h) (hv : RV K io H d v) : Fz Q v H := .inl (p io H v (Ext.refl _ _) r hv)
/-- a list just made, as a value -/
theorem Pv.new {K : PySem.W.Frag} {io : List Addr} {h : VH} {H : Hp} {Q : VK} {ds : List D} {xs : List V} {q : Addr} (r : RepH K io h H) (p : Pv K io H Q (.lst ds) h) (hq : H q = none) (hv : RVs K io H ds xs) : Fz Q (.ref q) (upd H q (.lst xs)) :=
  .inr ⟨q, xs, rfl, upd_same, fun o => by
    rw [upd_upd]
    exact p io _ _ (ext_out r hq) (r.out hq) (.lst upd_same (RVs.mono (ext_out r hq).toExt0 _ _ hv))⟩
theorem se_cmp {a b : Expr} {A B : Ex} {op : CmpOp} {f : F2} {pos : Pos} (ho : OpM X (compareOp op) f) (ha : SE X W a A) (hb : SE X W b B) (hm : behindInMarks op b = false) : SE X W (.Compare a [op] [b] pos) (eOp f A B) := by
  obtain ⟨r, h1, h2⟩ := ho
  exact pe_imp (pe_cmpR h1 ha hb hm) fun sg H Q h => two h2 h
def SixR (X : Cx) (f : F2) : Prop := ∃ r, IxR X r ∧ OpS X.K f r
theorem se_ix {a b : Expr} {A B : Ex} {f : F2} {pos : Pos} (ho : SixR X f) (ha : SE X W a A) (hb : SE X W b B) (hs : PlainIx b) : SE X W (.Subscript a b pos) (eOp f A B) := by
  obtain ⟨r, h1, h2⟩ := ho
  exact pe_imp (pe_ix h1 ha hb hs) fun sg H Q h => two h2 h

/-- one operand -/
abbrev F1 := D → VH → Option (D × VH)
def eUn (f : F1) (a : Ex) : Ex := fun rho h => (a rho h).bind fun x h1 => up (f x h1)
def UnS (K : PySem.W.Frag) (f : F1) (r : V → Hp → VK → Prop) : Prop := ∀ io h H x v Q d h', RepH K io h H → RV K io H x v → f x h = some (d, h') → Pv K io H Q d h' → r v H Q
theorem one {K : PySem.W.Frag} {a : Ex} {f : F1} {r : V → Hp → VK → Prop} {sg : L2.St} {H : Hp} {Q : VK} (hf : UnS K f r) (h : tE K W (eUn f a) sg H Q) : tE K W a sg H fun x H1 => r x H1 Q := by
  obtain ⟨io, h, rho, hR, hE, hA⟩ := h
  refine ⟨io, h, rho, hR, hE, (Aft.bind hA).mono (fun x h1 hx => ?_) fun _ _ z => z⟩
  intro io1 H1 v e1 R1 v1
  obtain ⟨d, h3, e3, p⟩ := hx.up
  exact hf io1 h1 H1 x v Q d h3 R1 v1 e3 (p.mono e1)
def UnM (X : Cx) (g : Value → Sem Value) (f : F1) : Prop := ∃ r, UnR X g r ∧ UnS X.K f r
theorem se_un {a : Expr} {A : Ex} {op : UnaryOp} {f : F1} {pos : Pos} (ho : UnM X (unaryOp op) f) (ha : SE X W a A) : SE X W (.UnaryOp op a pos) (eUn f A) := by
  obtain ⟨r, h1, h2⟩ := ho
  exact pe_imp (pe_un h1 ha) fun sg H Q h => one h2 h

/-- an argument list -/
def aNil : Ar := fun _ h => .ok [] h
def aCons (a : Ex) (r : Ar) : Ar := fun rho h => (a rho h).bind fun x h1 => (r rho h1).bind fun xs h2 => .ok (x :: xs) h2
theorem sa_nil : SA X W [] aNil := pa_imp pa_nil fun sg H Q ⟨io, h, rho, hR, hE, hA⟩ => hA io H [] (Ext.refl _ _) hR .nil
theorem sa_cons {e : Expr} {es : List Expr} {A : Ex} {B : Ar} (ha : SE X W e A) (hb : SA X W es B) (hs : starEach (e :: es) X.env = (false, eval e X.env) :: starEach es X.env := by rfl) : SA X W (e :: es) (aCons A B) := by
  refine pa_imp (pa_cons ha hb hs) fun sg H Q ⟨io, h, rho, hR, hE, hA⟩ => ?_
  refine ⟨io, h, rho, hR, hE, (Aft.bind hA).mono (fun x h1 hx => ?_) fun _ _ z => z⟩
  intro io1 H1 v e1 R1 v1
  refine ⟨io1, h1, rho, R1, hE.mono e1.toExt0, (Aft.bind hx).mono (fun y h2 hy => ?_) fun _ _ z => z.mono e1⟩
  intro io2 H2 u e2 R2 v2
  exact hy io2 H2 _ (e1.trans e2) R2 (.cons (RV.mono e2.toExt0 _ _ v1) v2)

/-- a call by values that raises nothing -/
abbrev Fn := List D → VH → Option (D × VH)
def CallS (K : PySem.W.Frag) (f : Fn) (r : List V → Hp → VK → Prop) : Prop := ∀ io h H ds vs Q d h', RepH K io h H → RVs K io H ds vs → f ds h = some (d, h') → Pv K io H Q d h' → r vs H Q
def eCall (f : Fn) (a : Ar) : Ex := fun rho h => (a rho h).bind fun xs h1 => up (f xs h1)
theorem calls {K : PySem.W.Frag} {a : Ar} {f : Fn} {r : List V → Hp → VK → Prop} {sg : L2.St} {H : Hp} {Q : VK} (hf : CallS K f r) (h : tE K W (eCall f a) sg H Q) : tA K W a sg H fun x H1 => r x H1 Q := by
  obtain ⟨io, h, rho, hR, hE, hA⟩ := h
  refine ⟨io, h, rho, hR, hE, (Aft.bind hA).mono (fun x h1 hx => ?_) fun _ _ z => z⟩
  intro io1 H1 v e1 R1 v1
  obtain ⟨d, h3, e3, p⟩ := hx.up
  exact hf io1 h1 H1 x v Q d h3 R1 v1 e3 (p.mono e1)
def CallM (X : Cx) (fv : Value) (f : Fn) : Prop := ∃ r, CallR X fv r ∧ CallS X.K f r
theorem se_callB {id : String} {x : Str} {e : Expr} {es : List Expr} {B : Ar} {f : Fn} {p pos : Pos} (hc : CallM X (.builtin id) f) (hg : Gl X x) (hm : X.mg x = none) (hv : bootBuiltins x = some (.builtin id)) (ha : SA X W (e :: es) B)
    (hn : x ≠ "__name__" := by decide) (hdb : (x == ("__debug__" : Str)) = false := by decide) (hs : starEach (e :: es) X.env = (false, eval e X.env) :: starEach es X.env := by rfl) (hst : ((backTo pos (starEach es X.env)).any fun x => x.fst) = false := by rfl) : SE X W (.Call (.Name x p) (e :: es) [] pos) (eCall f B) := by
  obtain ⟨r, h1, h2⟩ := hc
  exact pe_imp (pe_callB h1 hg hm hv ha hn hdb hs hst) fun sg H Q h => calls h2 h
theorem se_callTy {T : String} {x : Str} {e : Expr} {es : List Expr} {B : Ar} {f : Fn} {p pos : Pos} (hc : CallM X (.type T) f) (hg : Gl X x) (hm : X.mg x = none) (hv : bootBuiltins x = some (.type T)) (ha : SA X W (e :: es) B)
    (hn : x ≠ "__name__" := by decide) (hdb : (x == ("__debug__" : Str)) = false := by decide) (hs : starEach (e :: es) X.env = (false, eval e X.env) :: starEach es X.env := by rfl) (hst : ((backTo pos (starEach es X.env)).any fun x => x.fst) = false := by rfl) : SE X W (.Call (.Name x p) (e :: es) [] pos) (eCall f B) := by
  obtain ⟨r, h1, h2⟩ := hc
  exact pe_imp (pe_callTy h1 hg hm hv ha hn hdb hs hst) fun sg H Q h => calls h2 h

/-! ### lists just made: as values, or laid into the virtual heap -/
def eL (m : Ar) : Ex := fun rho h => (m rho h).bind fun ds h1 => .ok (.lst ds) h1
theorem se_pure {e : Expr} {m : Ar} (p : SL X W e m) : SE X W e (eL m) := pe_imp (pe_fz p) fun sg H Q ⟨io, h, rho, hR, hE, hA⟩ =>
  ⟨io, h, rho, hR, hE, (Aft.bind hA).mono (fun ds h1 hx io' H' p xs e r h0 h2 => Pv.new r (Pv.mono hx e) h0 h2) fun _ _ z => z⟩
def eBox (m : Ar) : Ex := fun rho h => (m rho h).bind fun ds h1 => .ok (.loc h1.length) (h1 ++ [.lst ds])
theorem se_box {e : Expr} {m : Ar} (p : SL X W e m) : SE X W e (eBox m) := pe_imp p fun sg H Q ⟨io, h, rho, hR, hE, hA⟩ =>
  ⟨io, h, rho, hR, hE, (Aft.bind hA).mono (fun ds h1 hx io' H' p xs e r h0 h2 => hx (io' ++ [p]) _ _ (e.trans (ext_new r h0)) (r.new h0 ⟨xs, rfl, RVs.mono (ext_new r h0).toExt0 _ _ h2⟩) (.loc (by rw [← r.len, List.getElem?_append_right (Nat.le_refl _)]; simp))) fun _ _ z => z⟩
/-- an expression whose value is a new list, by a call on values -/
def FL := List D → VH → Option (List D)
def LsS (K : PySem.W.Frag) (f : FL) (r : List V → Hp → VK → Prop) : Prop := ∀ io h H ds vs Q xs, RepH K io h H → RVs K io H ds vs → f ds h = some xs → Pf K io H Q xs h → r vs H Q
def lCall (f : FL) (a : Ar) : Ar := fun rho h => (a rho h).bind fun xs h1 => match f xs h1 with
  | some ys => .ok ys h1
  | none => .bad
theorem lcalls {K : PySem.W.Frag} {a : Ar} {f : FL} {r : List V → Hp → VK → Prop} {sg : L2.St} {H : Hp} {Q : VK} (hf : LsS K f r) (h : tL K W (lCall f a) sg H Q) : tA K W a sg H fun x H1 => r x H1 Q := by
  obtain ⟨io, h, rho, hR, hE, hA⟩ := h
  refine ⟨io, h, rho, hR, hE, (Aft.bind hA).mono (fun x h1 hx => ?_) fun _ _ z => z⟩
  intro io1 H1 v e1 R1 v1
  have hx' : Aft (match f x h1 with | some ys => R.ok ys h1 | none => R.bad) (Pf K io H Q) (Zx K W io H sg) := hx
  cases hf2 : f x h1 with
  | none => rw [hf2] at hx'; exact hx'.elim
  | some ys =>
    rw [hf2] at hx'
    exact hf io1 h1 H1 x v Q ys R1 v1 hf2 (Pf.mono hx' e1)
def lDisp (B : Ar) : Ar := fun rho h => (B rho h).bind fun ds h1 => if ds.length ≤ sizeLine then .ok ds h1 else .bad
theorem sl_disp {es : List Expr} {B : Ar} {pos : Pos} (ha : SA X W es B) : SL X W (.List es pos) (lDisp B) := pe_imp (pe_lst ha) fun sg H Q ⟨io, h, rho, hR, hE, hA⟩ => by
  refine ⟨io, h, rho, hR, hE, (Aft.bind hA).mono (fun ds h1 hx io1 H1 vs e1 R1 v1 => ?_) fun _ _ z => z⟩
  by_cases hl : ds.length ≤ sizeLine
  · rw [if_pos hl] at hx
    exact ⟨by rw [← v1.length]; exact hl, fun p hp => hx io1 H1 p vs e1 R1 hp v1⟩
  · rw [if_neg hl] at hx
    exact hx.elim
def eTup (B : Ar) : Ex := fun rho h => (B rho h).bind fun ds h1 => if ds.length ≤ sizeLine then .ok (.tup ds) h1 else .bad
theorem se_tup {es : List Expr} {B : Ar} {pos : Pos} {x1 : Nat} (ha : SA X W es B) : SE X W (.Tuple es x1 pos) (eTup B) := pe_imp (pe_tup ha) fun sg H Q ⟨io, h, rho, hR, hE, hA⟩ => by
  refine ⟨io, h, rho, hR, hE, (Aft.bind hA).mono (fun ds h1 hx io1 H1 vs e1 R1 v1 => ?_) fun _ _ z => z⟩
  by_cases hl : ds.length ≤ sizeLine
  · rw [if_pos hl] at hx
    exact ⟨by rw [← v1.length]; exact hl, fun p hp => hx io1 _ _ (e1.trans (ext_out R1 hp)) (R1.out hp) (.tup (SqU.of upd_same) (RVs.mono (ext_out R1 hp).toExt0 _ _ v1))⟩
  · rw [if_neg hl] at hx
    exact hx.elim
end
end Mv

namespace Mv
open PySem L2

/-! ### reading data -/
def omap {α β : Type} (f : α → Option β) : List α → Option (List β)
  | [] => some []
  | x :: xs => match f x with
    | none => none
    | some y => match omap f xs with
      | none => none
      | some ys => some (y :: ys)
theorem omap_cons {α β : Type} {f : α → Option β} {x : α} {xs : List α} {zs : List β} (h : omap f (x :: xs) = some zs) : ∃ y ys, f x = some y ∧ omap f xs = some ys ∧ zs = y :: ys := by
  unfold omap at h
  cases e : f x with
  | none => rw [e] at h; cases h
  | some y =>
    rw [e] at h
    cases e2 : omap f xs with
    | none => simp only [e2] at h; cases h
    | some ys => simp only [e2] at h; cases h; exact ⟨y, ys, rfl, rfl, rfl⟩
def toPD (h : VH) : Nat → D → Option PyData
  | 0, _ => none
  | _ + 1, .non => some .none
  | _ + 1, .bl b => some (.bool b)
  | _ + 1, .int i => some (.int i)
  | _ + 1, .str s => some (.str s)
  | n + 1, .tup ds => (omap (toPD h n) ds).map .tuple
  | n + 1, .lst ds => (omap (toPD h n) ds).map .list
  | n + 1, .loc k => match h[k]? with
    | some (.lst ds) => (omap (toPD h n) ds).map .list
    | _ => none
  | _ + 1, .scr ns => some (.list (ns.map .int))
section
variable {K : PySem.W.Frag} {io : List Addr} {h : VH} {H : Hp}
theorem dp_ints : ∀ ns : List Int, DpAll K H (ns.map V.int) (ns.map PyData.int)
  | [] => .nil
  | n :: ns => .cons (.int n) (dp_ints ns)
theorem dp_all {f : D → Option PyData} (hf : ∀ d v p, RV K io H d v → f d = some p → Dp K H v p) : ∀ (ds : List D) (vs : List V) (ps : List PyData), RVs K io H ds vs → omap f ds = some ps → DpAll K H vs ps
  | [], _, _, hv, e => by
    cases hv
    cases e
    exact .nil
  | d :: ds, _, _, hv, e => by
    cases hv with
    | cons h1 h2 =>
      obtain ⟨y, ys, e1, e2, rfl⟩ := omap_cons e
      exact .cons (hf d _ y h1 e1) (dp_all hf ds _ ys h2 e2)
theorem RepH.lst (r : RepH K io h H) {n : Nat} {a : Addr} {ds : List D} (ha : io[n]? = some a) (e : h[n]? = some (.lst ds)) : ∃ xs, H a = some (.lst xs) ∧ RVs K io H ds xs := by
  obtain ⟨ho, e1, xs, rfl, e2⟩ := r.ob n _ a e ha
  exact ⟨xs, e1, e2⟩
theorem dp_of (r : RepH K io h H) : ∀ (n : Nat) (d : D) (v : V) (p : PyData), RV K io H d v → toPD h n d = some p → Dp K H v p
  | 0, _, _, _, _, e => by cases e
  | n + 1, d, v, p, hv, e => by
    cases hv with
    | non => cases e; exact .non
    | bl b => cases e; exact .bl b
    | int i => cases e; exact .int i
    | str s _ => cases e; exact .str s
    | tup h1 h2 =>
      rename_i ds
      have e' : (omap (toPD h n) ds).map PyData.tuple = some p := e
      cases q : omap (toPD h n) ds with
      | none => rw [q] at e'; cases e'
      | some ps => rw [q] at e'; cases e'; exact .tup h1 (dp_all (fun d v p => dp_of r n d v p) _ _ _ h2 q)
    | lst h1 h3 =>
      rename_i ds
      have e' : (omap (toPD h n) ds).map PyData.list = some p := e
      cases q : omap (toPD h n) ds with
      | none => rw [q] at e'; cases e'
      | some ps => rw [q] at e'; cases e'; exact .lst (.inl (.inr ⟨_, h1⟩)) (dp_all (fun d v p => dp_of r n d v p) _ _ _ h3 q)
    | loc h1 =>
      rename_i k a
      have e' : (match h[k]? with | some (.lst ds) => (omap (toPD h n) ds).map PyData.list | _ => none) = some p := e
      cases q0 : h[k]? with
      | none => rw [q0] at e'; cases e'
      | some o =>
        rw [q0] at e'
        cases o with
        | lst ds =>
          simp only at e'
          obtain ⟨xs, e1, e2⟩ := r.lst h1 q0
          cases q : omap (toPD h n) ds with
          | none => rw [q] at e'; cases e'
          | some ps => rw [q] at e'; cases e'; exact .lst (SqL.of e1) (dp_all (fun d v p => dp_of r n d v p) _ _ _ e2 q)
        | _ => cases e'
    | scr h1 => cases e; exact .lst h1.sq (dp_ints _)
theorem lay_ints : ∀ ns : List Int, PyData.canLayAll0 (ns.map PyData.int) = true ∧ PyData.depthAll (ns.map PyData.int) ≤ 0
  | [] => by simp [PyData.canLayAll0, PyData.depthAll]
  | n :: ns => by
    have := lay_ints ns
    simp [PyData.canLayAll0, PyData.canLay0, PyData.depthAll, PyData.depth, this.1]
    have h2 := this.2
    omega
theorem lay_all {f : D → Option PyData} {n : Nat} (hf : ∀ d v p, RV K io H d v → f d = some p → p.canLay0 = true ∧ p.depth ≤ n) : ∀ (ds : List D) (vs : List V) (ps : List PyData), RVs K io H ds vs → omap f ds = some ps → PyData.canLayAll0 ps = true ∧ PyData.depthAll ps ≤ n
  | [], _, _, hv, e => by
    cases e
    simp [PyData.canLayAll0, PyData.depthAll]
  | d :: ds, _, _, hv, e => by
    cases hv with
    | cons h1 h2 =>
      obtain ⟨y, ys, e1, e2, rfl⟩ := omap_cons e
      have a1 := hf d _ y h1 e1
      have a2 := lay_all hf ds _ ys h2 e2
      simp [PyData.canLayAll0, PyData.depthAll, a1.1, a2.1]
      omega
theorem lay_of (r : RepH K io h H) : ∀ (n : Nat) (d : D) (v : V) (p : PyData), RV K io H d v → toPD h n d = some p → p.canLay0 = true ∧ p.depth ≤ n
  | 0, _, _, _, _, e => by cases e
  | n + 1, d, v, p, hv, e => by
    cases hv with
    | non => cases e; simp [PyData.canLay0, PyData.depth]
    | bl b => cases e; simp [PyData.canLay0, PyData.depth]
    | int i => cases e; simp [PyData.canLay0, PyData.depth]
    | str s hs => cases e; simp [PyData.canLay0, PyData.depth, hs.1]
    | tup h1 h2 =>
      rename_i ds
      have e' : (omap (toPD h n) ds).map PyData.tuple = some p := e
      cases q : omap (toPD h n) ds with
      | none => rw [q] at e'; cases e'
      | some ps =>
        rw [q] at e'
        cases e'
        have := lay_all (fun d v p => lay_of r n d v p) _ _ _ h2 q
        simp [PyData.canLay0, PyData.depth, this.1]
        omega
    | lst h1 h3 =>
      rename_i ds
      have e' : (omap (toPD h n) ds).map PyData.list = some p := e
      cases q : omap (toPD h n) ds with
      | none => rw [q] at e'; cases e'
      | some ps =>
        rw [q] at e'
        cases e'
        have := lay_all (fun d v p => lay_of r n d v p) _ _ _ h3 q
        simp [PyData.canLay0, PyData.depth, this.1]
        omega
    | loc h1 =>
      rename_i k a
      have e' : (match h[k]? with | some (.lst ds) => (omap (toPD h n) ds).map PyData.list | _ => none) = some p := e
      cases q0 : h[k]? with
      | none => rw [q0] at e'; cases e'
      | some o =>
        rw [q0] at e'
        cases o with
        | lst ds =>
          simp only at e'
          obtain ⟨xs, e1, e2⟩ := r.lst h1 q0
          cases q : omap (toPD h n) ds with
          | none => rw [q] at e'; cases e'
          | some ps =>
            rw [q] at e'
            cases e'
            have := lay_all (fun d v p => lay_of r n d v p) _ _ _ e2 q
            simp [PyData.canLay0, PyData.depth, this.1]
            omega
        | _ => cases e'
    | scr h1 =>
      rename_i ns
      cases e
      have := lay_ints ns
      simp [PyData.canLay0, PyData.depth, this.1]
      omega
theorem shaped_of (r : RepH K io h H) {n : Nat} (hn : n ≤ 64) {d : D} {v : V} {p : PyData} (hv : RV K io H d v) (e : toPD h n d = some p) : SeqAt.shaped p = true := by
  have := lay_of r n d v p hv e
  unfold SeqAt.shaped
  rw [this.1]
  simp
  omega

/-! ### lists and tuples by values -/
def listM : D → VH → Option (List D)
  | .lst ds, _ => some ds
  | .loc n, h => match h[n]? with
    | some (.lst ds) => some ds
    | _ => none
  | _, _ => none
def listOf : D → VH → Option (List D)
  | .scr ns, _ => some (ns.map .int)
  | d, h => listM d h
theorem listM_of (r : RepH K io h H) {d : D} {v : V} {ds : List D} (hv : RV K io H d v) (e : listM d h = some ds) : ∃ a xs, v = .ref a ∧ Rd H a (.lst xs) ∧ RVs K io H ds xs := by
  cases hv with
  | lst h1 h3 => cases e; exact ⟨_, _, rfl, .inr ⟨_, h1⟩, h3⟩
  | loc h1 =>
    rename_i k a
    have e' : (match h[k]? with | some (.lst ds) => some ds | _ => none) = some ds := e
    cases q0 : h[k]? with
    | none => rw [q0] at e'; cases e'
    | some o =>
      rw [q0] at e'
      cases o with
      | lst es =>
        cases e'
        obtain ⟨xs, e1, e2⟩ := r.lst h1 q0
        exact ⟨_, xs, rfl, .inl e1, e2⟩
      | _ => cases e'
  | _ => cases e
theorem listOf_of (r : RepH K io h H) {d : D} {v : V} {ds : List D} (hv : RV K io H d v) (e : listOf d h = some ds) : ∃ a xs, v = .ref a ∧ SqL K H a xs ∧ RVs K io H ds xs := by
  cases hv with
  | scr h1 => cases e; exact ⟨_, _, rfl, h1.sq, RVs.ofInts _⟩
  | lst h1 h3 => cases e; exact ⟨_, _, rfl, .inl (.inr ⟨_, h1⟩), h3⟩
  | loc h1 =>
    have e' : listM (.loc _) h = some ds := e
    obtain ⟨a, xs, e1, e2, e3⟩ := listM_of r (.loc h1) e'
    exact ⟨a, xs, e1, .inl e2, e3⟩
  | _ => cases e
def tupOf : D → Option (List D)
  | .tup ds => some ds
  | _ => none
theorem tupOf_of {d : D} {v : V} {ds : List D} (hv : RV K io H d v) (e : tupOf d = some ds) : ∃ a xs, v = .ref a ∧ SqT K H a xs ∧ RVs K io H ds xs := by
  cases hv with
  | tup h1 h2 => cases e; exact ⟨_, _, rfl, h1, h2⟩
  | _ => cases e
theorem RVs.atI {ds : List D} {vs : List V} {i : Int} {d : D} (hv : RVs K io H ds vs) (e : L2.atI ds i = some d) : ∃ v, L2.atI vs i = some v ∧ RV K io H d v := by
  unfold L2.atI at e ⊢
  rw [← hv.length]
  cases q : ixN ds.length i with
  | none => rw [q] at e; cases e
  | some j =>
    rw [q] at e
    exact hv.get e
end

/-! ### operators -/
section
variable {X : Cx} {W : WX}
theorem Pv.here {K : PySem.W.Frag} {io : List Addr} {h : VH} {H : Hp} {Q : VK} {d : D} {v : V} (r : RepH K io h H) (p : Pv K io H Q d h) (hv : RV K io H d v) : Q v H := p io H v (Ext.refl _ _) r hv
def eqF : F2 := fun x y h => match toPD h 16 x, toPD h 16 y with
  | some p, some q => some (.bl (PyData.eqv p q), h)
  | _, _ => none
def neF : F2 := fun x y h => match toPD h 16 x, toPD h 16 y with
  | some p, some q => some (.bl (!PyData.eqv p q), h)
  | _, _ => none
theorem m_eq (hu : X.A.units + 64 < cLine) : OpM X (compareOp .Eq) eqF := ⟨_, op_eqD hu, fun io h H x y v u Q d h' r hx hy e p => by
  unfold eqF at e
  cases e1 : toPD h 16 x with
  | none => simp only [e1] at e; cases e
  | some a =>
    cases e2 : toPD h 16 y with
    | none => simp only [e1, e2] at e; cases e
    | some b =>
      simp only [e1, e2] at e
      cases e
      exact ⟨a, b, dp_of r 16 x v a hx e1, dp_of r 16 y u b hy e2, shaped_of r (by decide) hx e1, shaped_of r (by decide) hy e2, p.here r (.bl _)⟩⟩
theorem m_ne (hu : X.A.units + 64 < cLine) : OpM X (compareOp .NotEq) neF := ⟨_, op_neD hu, fun io h H x y v u Q d h' r hx hy e p => by
  unfold neF at e
  cases e1 : toPD h 16 x with
  | none => simp only [e1] at e; cases e
  | some a =>
    cases e2 : toPD h 16 y with
    | none => simp only [e1, e2] at e; cases e
    | some b =>
      simp only [e1, e2] at e
      cases e
      exact ⟨a, b, dp_of r 16 x v a hx e1, dp_of r 16 y u b hy e2, shaped_of r (by decide) hx e1, shaped_of r (by decide) hy e2, p.here r (.bl _)⟩⟩

/-- either of two rules -/
theorem opR_or {g : Value → Value → Sem Value} {r r' : R2} (a : OpR X g r) (b : OpR X g r') : OpR X g (fun x y H Q => r x y H Q ∨ r' x y H Q) := fun pins s sg H x y v u Q I rx ry h => h.elim (a pins s sg H x y v u Q I rx ry) (b pins s sg H x y v u Q I rx ry)

/-- lists that may be locked: +, * -/
def rCatR : R2 := fun x y H Q => ∃ l b xs zs, x = .ref l ∧ y = .ref b ∧ Rd H l (.lst xs) ∧ Rd H b (.lst zs) ∧ xs.length + zs.length ≤ sizeLine ∧ ∀ p, H p = none → Q (.ref p) (upd H p (.lst (xs ++ zs)))
theorem op_catR : OpR X (binaryOp .Add) rCatR := by
  intro pins s sg H x y v u Q I rx ry h
  obtain ⟨l, b, xs, zs, rfl, rfl, hH, hB, hz, q⟩ := h
  cases rx
  cases ry
  obtain ⟨z, its, n, r, e⟩ := hH.ok I.hok
  obtain ⟨z2, its2, n2, r2, e2⟩ := hB.ok I.hok
  have l1 := r.length
  have l2 := r2.length
  refine PySem.P.add_list e e2 ?_ (by rw [List.size_toArray, List.size_toArray]; omega)
  have ea : its.toArray ++ its2.toArray = (its ++ its2).toArray := by simp
  rw [ea]
  exact ⟨.ref _, _, I.lnew (t' := s.toks) (r.append r2) (by rw [List.length_append]; omega), rfl, q _ I.fresh⟩
def subF : F2
  | .int i, .int j, h => some (.int (i - j), h)
  | _, _, _ => none
theorem m_sub : OpN X (binaryOp .Sub) subF := ⟨_, op_sub, fun io h H x y v u Q d h' r hx hy e p => by
  unfold subF at e
  split at e
  · cases hx; cases hy; cases e
    exact ⟨_, _, rfl, rfl, p.fz r (.int _)⟩
  · cases e⟩
def modF : F2
  | .int i, .int j, h => if 0 < j then some (.int (i % j), h) else none
  | _, _, _ => none
theorem m_mod : OpN X (binaryOp .Mod) modF := ⟨_, op_mod, fun io h H x y v u Q d h' r hx hy e p => by
  unfold modF at e
  split at e
  · cases hx; cases hy
    split at e
    · rename_i hj
      cases e
      exact ⟨_, _, rfl, rfl, hj, p.fz r (.int _)⟩
    · cases e
  · cases e⟩
def fdivF : F2
  | .int i, .int j, h => if 0 < j ∧ j < 1073741824 then some (.int (i / j), h) else none
  | _, _, _ => none
theorem m_fdiv : OpN X (binaryOp .FloorDiv) fdivF := ⟨_, op_fdiv, fun io h H x y v u Q d h' r hx hy e p => by
  unfold fdivF at e
  split at e
  · cases hx; cases hy
    split at e
    · rename_i hj
      cases e
      exact ⟨_, _, rfl, rfl, hj, p.fz r (.int _)⟩
    · cases e
  · cases e⟩
def powF : F2
  | .int i, .int j, h => if 0 ≤ j ∧ j ≤ 1000000 ∧ i.natAbs < 2 ^ 64 then some (.int (i ^ j.toNat), h) else none
  | _, _, _ => none
theorem m_pow : OpN X (binaryOp .Pow) powF := ⟨_, op_pow, fun io h H x y v u Q d h' r hx hy e p => by
  unfold powF at e
  split at e
  · cases hx; cases hy
    split at e
    · rename_i hj
      cases e
      exact ⟨_, _, rfl, rfl, hj, p.fz r (.int _)⟩
    · cases e
  · cases e⟩
def mulF : F2
  | .int i, .int j, h => if (-2 ^ 64 < i ∧ i < 2 ^ 64) ∨ (-2 ^ 64 < j ∧ j < 2 ^ 64) then some (.int (i * j), h) else none
  | _, _, _ => none
theorem RVs.rep {K : PySem.W.Frag} {io : List Addr} {H : Hp} {ds : List D} {vs : List V} (hv : RVs K io H ds vs) : ∀ n : Nat, RVs K io H (List.replicate n ds).flatten (List.replicate n vs).flatten
  | 0 => .nil
  | n + 1 => by
    rw [List.replicate_succ, List.replicate_succ, List.flatten_cons, List.flatten_cons]
    exact hv.append (RVs.rep hv n)
theorem m_mul : OpN X (binaryOp .Mult) mulF := ⟨_, op_mul, fun io h H x y v u Q d h' r hx hy e p => by
  unfold mulF at e
  split at e
  · cases hx; cases hy
    split at e
    · rename_i hj
      cases e
      exact ⟨_, _, rfl, rfl, hj, p.fz r (.int _)⟩
    · cases e
  · cases e⟩
/-- [..] * n, the list written there -/
def lRep (B : Ar) (A : Ex) : Ar := fun rho h => (B rho h).bind fun ds h1 => if ds.length ≤ sizeLine then (A rho h1).bind fun k h2 => match k with
    | .int n => if -(2 ^ 63) ≤ n ∧ n < 2 ^ 63 ∧ ds.length * n.toNat ≤ sizeLine then .ok (List.replicate n.toNat ds).flatten h2 else .bad
    | _ => .bad
  else .bad
theorem sl_rep {es : List Expr} {b : Expr} {B : Ar} {A : Ex} {p1 pos : Pos} (ha : SA X W es B) (hb : SE X W b A) : SL X W (.BinOp (.List es p1) .Mult b pos) (lRep B A) := by
  refine pe_imp (pe_op op_rep (pe_lst ha) hb) fun sg H Q ⟨io, h, rho, hR, hE, hA⟩ => ?_
  refine ⟨io, h, rho, hR, hE, (Aft.bind hA).mono (fun ds h1 hx io1 H1 vs e1 R1 v1 => ?_) fun _ _ z => z⟩
  by_cases hl : ds.length ≤ sizeLine
  · rw [if_pos hl] at hx
    refine ⟨by rw [← v1.length]; exact hl, fun p hp => ?_⟩
    have e2 := e1.trans (ext_out R1 (o := .lst vs) hp)
    refine ⟨io1, h1, rho, R1.out hp, hE.mono e2.toExt0, (Aft.bind hx).mono (fun k h2 hk io3 H3 w e3 R3 v3 => ?_) fun _ _ z => z.mono e2⟩
    cases v3 with
    | int n =>
      have hk' : Aft (if -(2 ^ 63) ≤ n ∧ n < 2 ^ 63 ∧ ds.length * n.toNat ≤ sizeLine then R.ok (List.replicate n.toNat ds).flatten h2 else R.bad) (Pf X.K io H Q) (Zx X.K W io H sg) := hk
      split at hk'
      · rename_i hh
        refine ⟨p, n, vs, rfl, rfl, e3.fr p _ (R1.nin hp) upd_same, hh.1, hh.2.1, by rw [← v1.length]; exact hh.2.2, fun q hq => ?_⟩
        exact hk' io3 H3 q _ (e2.trans e3) R3 hq ((RVs.mono ((ext_out R1 hp).trans e3).toExt0 _ _ v1).rep _)
      · exact hk'.elim
    | _ => exact hk.elim
  · rw [if_neg hl] at hx
    exact hx.elim
def negF : F1
  | .int i, h => some (.int (-i), h)
  | _, _ => none
theorem m_neg : UnM X (unaryOp .USub) negF := ⟨_, un_neg, fun io h H x v Q d h' r hx e p => by
  unfold negF at e
  split at e
  · cases hx; cases e
    exact ⟨_, rfl, p.here r (.int _)⟩
  · cases e⟩
theorem sok_append {a b : Str} (ha : sOk a) (hb : sOk b) (hl : a.length + b.length ≤ sizeLine) : sOk (a ++ b) := by
  refine ⟨?_, by rw [strLen_append]; exact hl⟩
  have h1 := ha.1
  have h2 := hb.1
  unfold PyData.strOk at h1 h2 ⊢
  show (a.cps ++ b.cps).all _ = true
  rw [Array.all_append, h1, h2]
  rfl
def addF : F2
  | .int i, .int j, h => some (.int (i + j), h)
  | .str a, .str b, h => if a.length + b.length ≤ sizeLine then some (.str (a ++ b), h) else none
  | .tup xs, .tup ys, h => if xs.length + ys.length ≤ sizeLine then some (.tup (xs ++ ys), h) else none
  | x, y, h => match listM x h, listM y h with
    | some xs, some ys => if xs.length + ys.length ≤ sizeLine then some (.lst (xs ++ ys), h) else none
    | _, _ => none
theorem m_add : OpN X (binaryOp .Add) addF := ⟨_, opR_or op_add (opR_or op_add_str (opR_or op_catA op_catR)), fun io h H x y v u Q d h' r hx hy e p => by
  unfold addF at e
  split at e
  · cases hx; cases hy; cases e
    exact .inl ⟨_, _, rfl, rfl, p.fz r (.int _)⟩
  · split at e
    · rename_i hl
      cases e
      cases hx with
      | str _ sa =>
        cases hy with
        | str _ sb => exact .inr (.inl ⟨_, _, rfl, rfl, hl, p.fz r (.str _ (sok_append sa sb hl))⟩)
    · cases e
  · split at e
    · rename_i hl
      cases e
      cases hx with
      | tup s1 v1 =>
        cases hy with
        | tup s2 v2 =>
          refine .inr (.inr (.inl ⟨_, _, _, _, rfl, rfl, s1.t, s2.t, by rw [← v1.length, ← v2.length]; exact hl, fun z => ?_, fun _ z => ?_, fun _ z q hq => ?_⟩))
          · subst z
            cases v1
            exact p.fz r (.tup s2 v2)
          · subst z
            cases v2
            rw [List.append_nil] at p
            exact p.fz r (.tup s1 v1)
          · exact .inl (p io _ _ (ext_out r hq) (r.out hq) (.tup (SqU.of upd_same) (RVs.mono (ext_out r hq).toExt0 _ _ (v1.append v2))))
    · cases e
  · split at e
    · rename_i xs ys l1 l2
      split at e
      · rename_i hl
        cases e
        obtain ⟨a, us, rfl, e1, v1⟩ := listM_of r hx l1
        obtain ⟨b, ws, rfl, e2, v2⟩ := listM_of r hy l2
        refine .inr (.inr (.inr ⟨a, b, us, ws, rfl, rfl, e1, e2, by rw [← v1.length, ← v2.length]; exact hl, fun q hq => ?_⟩))
        exact p.new r hq (v1.append v2)
      · cases e
    · cases e⟩

/-! ### order -/
def ltF : F2
  | .int i, .int j, h => some (.bl (decide (i < j)), h)
  | .str a, .str b, h => some (.bl (decide (a.cps.toList < b.cps.toList)), h)
  | _, _, _ => none
theorem m_lt : OpM X (compareOp .Lt) ltF := ⟨_, opR_or op_lt op_lt_str, fun io h H x y v u Q d h' r hx hy e p => by
  unfold ltF at e
  split at e
  · cases hx; cases hy; cases e
    exact .inl ⟨_, _, rfl, rfl, p.here r (.bl _)⟩
  · cases hx; cases hy; cases e
    exact .inr ⟨_, _, rfl, rfl, p.here r (.bl _)⟩
  · cases e⟩
def leF : F2
  | .int i, .int j, h => some (.bl (decide (i ≤ j)), h)
  | .str a, .str b, h => some (.bl (!decide (b.cps.toList < a.cps.toList)), h)
  | _, _, _ => none
theorem m_le : OpM X (compareOp .LtE) leF := ⟨_, opR_or op_le op_le_str, fun io h H x y v u Q d h' r hx hy e p => by
  unfold leF at e
  split at e
  · cases hx; cases hy; cases e
    exact .inl ⟨_, _, rfl, rfl, p.here r (.bl _)⟩
  · cases hx; cases hy; cases e
    exact .inr ⟨_, _, rfl, rfl, p.here r (.bl _)⟩
  · cases e⟩
def gtF : F2
  | .int i, .int j, h => some (.bl (decide (j < i)), h)
  | _, _, _ => none
theorem m_gt : OpM X (compareOp .Gt) gtF := ⟨_, op_gt, fun io h H x y v u Q d h' r hx hy e p => by
  unfold gtF at e
  split at e
  · cases hx; cases hy; cases e
    exact ⟨_, _, rfl, rfl, p.here r (.bl _)⟩
  · cases e⟩
def geF : F2
  | .int i, .int j, h => some (.bl (decide (j ≤ i)), h)
  | _, _, _ => none
theorem m_ge : OpM X (compareOp .GtE) geF := ⟨_, op_ge, fun io h H x y v u Q d h' r hx hy e p => by
  unfold geF at e
  split at e
  · cases hx; cases hy; cases e
    exact ⟨_, _, rfl, rfl, p.here r (.bl _)⟩
  · cases e⟩

/-! ### in -/
def flatD : D → Bool
  | .non | .bl _ | .int _ | .str _ => true
  | _ => false
def eqD : D → D → Bool
  | .non, .non => true
  | .bl a, .bl b => a == b
  | .bl a, .int b => (if a = true then 1 else 0) == b
  | .int a, .bl b => a == (if b = true then 1 else 0)
  | .int a, .int b => a == b
  | .str a, .str b => a == b
  | _, _ => false
section
variable {K : PySem.W.Frag} {io : List Addr} {H : Hp}
theorem flat_of {d : D} {v : V} (hv : RV K io H d v) (h : flatD d = true) : flatV v = true := by
  cases hv <;> first | rfl | cases h
theorem eqD_of {d e : D} {v u : V} (h1 : RV K io H d v) (h2 : RV K io H e u) (hd : flatD d = true) (he : flatD e = true) : eqV v u = eqD d e := by
  cases h1 <;> first | (cases hd; done) | (cases h2 <;> first | rfl | (cases he; done))
theorem flats_of : ∀ {ds : List D} {vs : List V}, RVs K io H ds vs → ds.all flatD = true → vs.all flatV = true
  | [], _, hv, _ => by cases hv; rfl
  | d :: ds, _, hv, h => by
    cases hv with
    | cons h1 h2 =>
      have h' : flatD d = true ∧ ds.all flatD = true := by simpa using h
      simp [flat_of h1 h'.1]
      have := flats_of h2 h'.2
      simpa using this
theorem inD_of {x : D} {v : V} (hx : RV K io H x v) (fx : flatD x = true) : ∀ {ds : List D} {vs : List V}, RVs K io H ds vs → ds.all flatD = true → inV v vs = ds.any fun y => eqD y x
  | [], _, hv, _ => by cases hv; rfl
  | d :: ds, _, hv, h => by
    cases hv with
    | cons h1 h2 =>
      have h' : flatD d = true ∧ ds.all flatD = true := by simpa using h
      have ih := inD_of hx fx h2 h'.2
      show (eqV _ v || inV v _) = (eqD d x || ds.any fun y => eqD y x)
      rw [ih, eqD_of h1 hx h'.1 fx]
end
def seqOf (y : D) (h : VH) : Option (List D) := match tupOf y with
  | some ds => some ds
  | none => listOf y h
theorem seqOf_of {K : PySem.W.Frag} {io : List Addr} {h : VH} {H : Hp} (r : RepH K io h H) {d : D} {v : V} {ds : List D} (hv : RV K io H d v) (e : seqOf d h = some ds) : ∃ a xs, v = .ref a ∧ (SqL K H a xs ∨ SqT K H a xs) ∧ RVs K io H ds xs := by
  unfold seqOf at e
  split at e
  · rename_i es q
    cases e
    obtain ⟨a, xs, e1, e2, e3⟩ := tupOf_of hv q
    exact ⟨a, xs, e1, .inr e2, e3⟩
  · obtain ⟨a, xs, e1, e2, e3⟩ := listOf_of r hv e
    exact ⟨a, xs, e1, .inl e2, e3⟩
def inF : F2
  | .str i, .str j, h => some (.bl (!(Builtin.Str.occurrences j i 0 j.length 1).isEmpty), h)
  | x, y, h => match seqOf y h with
    | some ds => if flatD x = true ∧ ds.all flatD = true then some (.bl (ds.any fun y => eqD y x), h) else none
    | none => none
theorem m_in : OpM X (compareOp .In) inF := ⟨_, opR_or op_in_str op_in_seq, fun io h H x y v u Q d h' r hx hy e p => by
  unfold inF at e
  split at e
  · cases hx; cases hy; cases e
    exact .inl ⟨_, _, rfl, rfl, p.here r (.bl _)⟩
  · split at e
    · rename_i ds q
      split at e
      · rename_i hf
        cases e
        obtain ⟨a, xs, rfl, e2, e3⟩ := seqOf_of r hy q
        refine .inr ⟨a, xs, rfl, e2, flat_of hx hf.1, flats_of e3 hf.2, ?_⟩
        rw [if_neg (by decide), inD_of hx hf.1 e3 hf.2]
        exact p.here r (.bl _)
      · cases e
    · cases e⟩
def ninF : F2
  | .str i, .str j, h => some (.bl (Builtin.Str.occurrences j i 0 j.length 1).isEmpty, h)
  | x, y, h => match seqOf y h with
    | some ds => if flatD x = true ∧ ds.all flatD = true then some (.bl (!ds.any fun y => eqD y x), h) else none
    | none => none
/-! ### is -/
def isNF : F2
  | x, .non, h => some (.bl (match x with | .non => true | _ => false), h)
  | _, _, _ => none
theorem m_isN : OpM X (compareOp .Is) isNF := ⟨_, op_isN, fun io h H x y v u Q d h' r hx hy e p => by
  unfold isNF at e
  split at e
  · cases hy
    cases e
    refine ⟨rfl, ?_⟩
    have q := p.here r (.bl _)
    cases hx <;> exact q
  · cases e⟩
def notNF : F2
  | x, .non, h => some (.bl (match x with | .non => false | _ => true), h)
  | _, _, _ => none
theorem m_notN : OpM X (compareOp .IsNot) notNF := ⟨_, op_notN, fun io h H x y v u Q d h' r hx hy e p => by
  unfold notNF at e
  split at e
  · cases hy
    cases e
    refine ⟨rfl, ?_⟩
    have q := p.here r (.bl _)
    cases hx <;> exact q
  · cases e⟩

/-! ### subscripts, slices -/
def chr1 (c : Nat) : Str := ⟨#[c]⟩
def ixF : F2
  | .str z, .int i, h => match L2.atI z.cps.toList i with
    | some c => some (.str (chr1 c), h)
    | none => none
  | x, .int i, h => match seqOf x h with
    | some ds => match L2.atI ds i with
      | some d => some (d, h)
      | none => none
    | none => none
  | _, _, _ => none
theorem atI_mem {α : Type} {xs : List α} {i : Int} {x : α} (e : L2.atI xs i = some x) : x ∈ xs := by
  unfold L2.atI at e
  cases q : ixN xs.length i with
  | none => rw [q] at e; cases e
  | some j => rw [q] at e; exact List.mem_of_getElem? e
theorem sok_chr {z : Str} {c : Nat} (hz : sOk z) (hc : c ∈ z.cps.toList) : sOk (chr1 c) := by
  have h1 := hz.1
  unfold PyData.strOk at h1
  rw [Array.all_eq_true_iff_forall_mem] at h1
  have h2 : c < 0x110000 := by simpa using h1 c (Array.mem_def.mpr hc)
  refine ⟨?_, by show 1 ≤ sizeLine; decide⟩
  unfold PyData.strOk chr1
  simp [h2]
theorem m_ix : SixR X ixF := ⟨_, ix_seq, fun io h H x y v u Q d h' r hx hy e p => by
  unfold ixF at e
  split at e
  · split at e
    · rename_i c q
      cases e
      cases hy
      cases hx with
      | str _ hs => exact .inr (.inr ⟨_, _, c, rfl, rfl, hs.2, q, p.here r (.str _ (sok_chr hs (atI_mem q)))⟩)
    · cases e
  · split at e
    · rename_i ds q
      split at e
      · rename_i d' q2
        cases e
        cases hy
        obtain ⟨a, xs, rfl, e2, e3⟩ := seqOf_of r hx q
        obtain ⟨w, q3, q4⟩ := e3.atI q2
        rcases e2 with e2 | e2
        · exact .inl ⟨a, xs, _, w, rfl, rfl, e2, q3, p.here r q4⟩
        · exact .inr (.inl ⟨a, xs, _, w, rfl, rfl, e2, q3, p.here r q4⟩)
      · cases e
    · cases e
  · cases e⟩
end
end Mv

namespace Mv
open PySem L2
section
variable {X : Cx} {W : WX}

/-! ### slices -/
def cutD (xs : List D) (lo hi : Option Int) : List D := List.take (HT.sIx xs.length xs.length hi - HT.sIx xs.length 0 lo) (List.drop (HT.sIx xs.length 0 lo) xs)
theorem RVs.cut {K : PySem.W.Frag} {io : List Addr} {H : Hp} {ds : List D} {vs : List V} (hv : RVs K io H ds vs) (lo hi : Option Int) : RVs K io H (cutD ds lo hi) (cutV vs lo hi) := by
  unfold cutD cutV
  rw [hv.length]
  exact (hv.drop _).take _
theorem sok_cut {z : Str} (hz : sOk z) (lo hi : Option Int) : sOk (cutS z lo hi) := by
  refine ⟨?_, Nat.le_trans (cutS_length z lo hi) hz.2⟩
  have h1 := hz.1
  unfold PyData.strOk at h1 ⊢
  rw [Array.all_eq_true_iff_forall_mem] at h1 ⊢
  intro c hc
  refine h1 c ?_
  unfold cutS at hc
  have hc' := List.mem_toArray.mp hc
  exact Array.mem_def.mpr (List.mem_of_mem_drop (List.mem_of_mem_take hc'))
abbrev Om := Env → VH → R (Option Int)
def tO (K : PySem.W.Frag) (W : WX) (m : Om) : TO := fun sg H Q => ∃ io h rho, RepH K io h H ∧ RepE K io H rho sg ∧ Aft (m rho h) (fun o h' => ∀ io' H', Ext io H io' H' → RepH K io' h' H' → Q o H') (Zx K W io H sg)
def SO (X : Cx) (W : WX) (e : Option Expr) (m : Om) : Prop := PO X e (tO X.K W m)
theorem po_imp {X : Cx} {e : Option Expr} {t t' : TO} (p : PO X e t) (h : ∀ sg H Q, t' sg H Q → t sg H Q) : PO X e t' := ⟨fun pins s sg H Q I q => p.run pins s sg H Q I (h sg H Q q)⟩
def oNo : Om := fun _ h => .ok none h
theorem so_none : SO X W none oNo := po_imp po_none fun sg H Q ⟨io, h, rho, hR, hE, hA⟩ => hA io H (Ext.refl _ _) hR
def oSm (a : Ex) : Om := fun rho h => (a rho h).bind fun d h1 => match d with
  | .int i => .ok (some i) h1
  | _ => .bad
theorem so_some {e : Expr} {A : Ex} (ha : SE X W e A) : SO X W (some e) (oSm A) := po_imp (po_some ha) fun sg H Q ⟨io, h, rho, hR, hE, hA⟩ => by
  refine ⟨io, h, rho, hR, hE, (Aft.bind hA).mono (fun x h1 hx io1 H1 v e1 R1 v1 => ?_) fun _ _ z => z⟩
  cases v1 with
  | int i => exact ⟨i, rfl, hx io1 H1 e1 R1⟩
  | _ => exact hx.elim
def sliceF (x : D) (lo hi : Option Int) (h : VH) : Option (D × VH) := match x with
  | .str z => some (.str (cutS z lo hi), h)
  | .tup ds => some (.tup (cutD ds lo hi), h)
  | x => match listOf x h with
    | some ds => some (.lst (cutD ds lo hi), h)
    | none => none
def eSl (a : Ex) (lo hi : Om) : Ex := fun rho h => (a rho h).bind fun x h1 => (lo rho h1).bind fun l h2 => (hi rho h2).bind fun u h3 => up (sliceF x l u h3)
theorem se_slice {e : Expr} {lo hi : Option Expr} {A : Ex} {L U : Om} {pos p2 : Pos} (ha : SE X W e A) (hl : SO X W lo L) (hh : SO X W hi U) : SE X W (.Subscript e (.Slice lo hi none p2) pos) (eSl A L U) := by
  refine pe_imp (pe_fz (pe_slice (SlR.or sl_list (SlR.or sl_str sl_tupA)) ha hl hh)) fun sg H Q ⟨io, h, rho, hR, hE, hA⟩ => ?_
  refine ⟨io, h, rho, hR, hE, (Aft.bind hA).mono (fun x h1 hx io1 H1 v e1 R1 v1 => ?_) fun _ _ z => z⟩
  refine ⟨io1, h1, rho, R1, hE.mono e1.toExt0, (Aft.bind hx).mono (fun l h2 hl io2 H2 e2 R2 => ?_) fun _ _ z => z.mono e1⟩
  refine ⟨io2, h2, rho, R2, (hE.mono e1.toExt0).mono e2.toExt0, (Aft.bind hl).mono (fun u h3 hu io3 H3 e3 R3 => ?_) fun _ _ z => (z.mono e1).mono e2⟩
  obtain ⟨d, h4, e4, p⟩ := hu.up
  have v3 := RV.mono e3.toExt0 _ _ (RV.mono e2.toExt0 _ _ v1)
  have p3 := p.mono ((e1.trans e2).trans e3)
  unfold sliceF at e4
  split at e4
  · cases e4
    cases v3 with
    | str _ hs => exact .inr (.inl ⟨_, rfl, hs.2, p3.fz R3 (.str _ (sok_cut hs _ _))⟩)
  · cases e4
    cases v3 with
    | tup s1 w1 =>
      refine .inr (.inr ⟨_, _, rfl, s1, fun hw => ?_, fun hn q hq => .inl (p3 io3 _ _ (ext_out R3 hq) (R3.out hq) (.tup (SqU.of upd_same) (RVs.mono (ext_out R3 hq).toExt0 _ _ (w1.cut _ _))))⟩)
      refine p3.fz R3 (.tup s1 ?_)
      have e5 : ∀ zs : List D, RVs X.K io3 H3 zs _ → cutD zs l u = zs := fun zs w => by
        unfold cutD
        rw [w.length, hw.1, hw.2, List.drop_zero, Nat.sub_zero, ← w.length, List.take_length]
      rw [e5 _ w1]
      exact w1
  · split at e4
    · rename_i ds q
      cases e4
      obtain ⟨a, xs, rfl, e5, e6⟩ := listOf_of R3 v3 q
      exact .inl ⟨a, xs, rfl, e5, fun q hq => p3.new R3 hq (e6.cut _ _)⟩
    · cases e4
def revF : F1 := fun x h => match listOf x h with
  | some ds => some (.lst ds.reverse, h)
  | none => none
theorem se_rev {e : Expr} {A : Ex} {k : Nat} {p1 p2 p3 pos : Pos} (ha : SE X W e A) : SE X W (.Subscript e (.Slice none none (some (.UnaryOp .USub (.Constant (.int 1) k p1) p2)) p3) pos) (eUn revF A) :=
  pe_imp (pe_fz (pe_revL ha)) fun sg H Q ⟨io, h, rho, hR, hE, hA⟩ => by
    refine ⟨io, h, rho, hR, hE, (Aft.bind hA).mono (fun x h1 hx io1 H1 v e1 R1 v1 => ?_) fun _ _ z => z⟩
    obtain ⟨d, h3, e3, p⟩ := hx.up
    unfold revF at e3
    split at e3
    · rename_i ds q
      cases e3
      obtain ⟨a, xs, rfl, e5, e6⟩ := listOf_of R1 v1 q
      exact ⟨a, xs, rfl, e5, fun q hq => (p.mono e1).new R1 hq e6.reverse⟩
    · cases e3

/-! ### built-in functions -/
theorem callR_or {fv : Value} {r r' : List V → Hp → VK → Prop} (a : CallR X fv r) (b : CallR X fv r') : CallR X fv (fun xs H Q => r xs H Q ∨ r' xs H Q) := fun pins s sg H xs us Q I rv h => h.elim (a pins s sg H xs us Q I rv) (b pins s sg H xs us Q I rv)
theorem RVs.one {K : PySem.W.Frag} {io : List Addr} {H : Hp} {d : D} {vs : List V} (h : RVs K io H [d] vs) : ∃ v, vs = [v] ∧ RV K io H d v := by
  cases h with
  | cons h1 h2 => cases h2; exact ⟨_, rfl, h1⟩
theorem RVs.two {K : PySem.W.Frag} {io : List Addr} {H : Hp} {d e : D} {vs : List V} (h : RVs K io H [d, e] vs) : ∃ v u, vs = [v, u] ∧ RV K io H d v ∧ RV K io H e u := by
  cases h with
  | cons h1 h2 =>
    obtain ⟨u, rfl, h3⟩ := h2.one
    exact ⟨_, u, rfl, h1, h3⟩
def lenD (d : D) (h : VH) : Option Nat := match d with
  | .str s => some s.length
  | .loc n => match h[n]? with
    | some (.lst ds) => some ds.length
    | some (.dK kvs) => some kvs.length
    | _ => none
  | d => (seqOf d h).map List.length
def lenF : Fn
  | [d], h => (lenD d h).map fun n => (.int n, h)
  | _, _ => none
theorem RK.length {K : PySem.W.Frag} {io : List Addr} {H : Hp} {κ : Type} {ok : κ → Prop} {ds : List (κ × D)} {vs : List (κ × V)} (h : RK K io H ok ds vs) : ds.length = vs.length := by
  induction h with
  | nil => rfl
  | cons _ _ _ ih => simp [ih]
theorem m_len : CallM X (.builtin "len") lenF := ⟨_, callR_or call_len call_lenD, fun io h H ds vs Q d h' r hv e p => by
  unfold lenF at e
  split at e
  · rename_i x
    obtain ⟨v, rfl, v1⟩ := hv.one
    cases q : lenD x h with
    | none => rw [q] at e; cases e
    | some n =>
      rw [q] at e
      cases e
      unfold lenD at q
      split at q
      · cases q
        cases v1 with
        | str _ hs => exact .inl ⟨_, _, rfl, ⟨hs.2, rfl⟩, p.here r (.int _)⟩
      · rename_i k
        cases v1 with
        | loc ha =>
          split at q
          · rename_i ds q0
            cases q
            obtain ⟨xs, e1, e2⟩ := r.lst ha q0
            exact .inl ⟨_, _, rfl, .inl ⟨xs, SqL.of e1, rfl⟩, by rw [← e2.length]; exact p.here r (.int _)⟩
          · rename_i kvs q0
            cases q
            obtain ⟨ho, e1, xs, rfl, e2⟩ := r.ob _ _ _ q0 ha
            exact .inr ⟨_, xs, rfl, e1, by rw [← e2.length]; exact p.here r (.int _)⟩
          · cases q
      · cases q2 : seqOf x h with
        | none => rw [q2] at q; cases q
        | some ds =>
          rw [q2] at q
          cases q
          obtain ⟨a, xs, rfl, e2, e3⟩ := seqOf_of r v1 q2
          rcases e2 with e2 | e2
          · exact .inl ⟨_, _, rfl, .inl ⟨xs, e2, rfl⟩, by rw [← e3.length]; exact p.here r (.int _)⟩
          · exact .inl ⟨_, _, rfl, .inr ⟨xs, e2, rfl⟩, by rw [← e3.length]; exact p.here r (.int _)⟩
  · cases e⟩
def intF : Fn
  | [.int i], h => some (.int i, h)
  | [.bl k], h => some (.int (if k = true then 1 else 0), h)
  | _, _ => none
theorem m_int : CallM X (.type "int") intF := ⟨_, call_int1, fun io h H ds vs Q d h' r hv e p => by
  unfold intF at e
  split at e
  · obtain ⟨v, rfl, v1⟩ := hv.one
    cases v1; cases e
    exact .inl ⟨_, rfl, p.here r (.int _)⟩
  · obtain ⟨v, rfl, v1⟩ := hv.one
    cases v1; cases e
    exact .inr ⟨_, rfl, p.here r (.int _)⟩
  · cases e⟩
def intsOf : List D → Option (List Int) := omap fun d => match d with
  | .int i => some i
  | _ => none
theorem intsOf_of {K : PySem.W.Frag} {io : List Addr} {H : Hp} : ∀ {ds : List D} {vs : List V} {ns : List Int}, RVs K io H ds vs → intsOf ds = some ns → vs = ns.map V.int
  | [], _, _, hv, e => by cases hv; cases e; rfl
  | d :: ds, _, _, hv, e => by
    cases hv with
    | cons h1 h2 =>
      obtain ⟨y, ys, e1, e2, rfl⟩ := omap_cons e
      have ih := intsOf_of h2 e2
      cases h1 <;> first | (cases e1; rw [ih]; rfl) | cases e1
def blsOf : List D → Option (List Bool) := omap fun d => match d with
  | .bl i => some i
  | _ => none
theorem blsOf_of {K : PySem.W.Frag} {io : List Addr} {H : Hp} : ∀ {ds : List D} {vs : List V} {ns : List Bool}, RVs K io H ds vs → blsOf ds = some ns → vs = ns.map V.bl
  | [], _, _, hv, e => by cases hv; cases e; rfl
  | d :: ds, _, _, hv, e => by
    cases hv with
    | cons h1 h2 =>
      obtain ⟨y, ys, e1, e2, rfl⟩ := omap_cons e
      have ih := blsOf_of h2 e2
      cases h1 <;> first | (cases e1; rw [ih]; rfl) | cases e1
def minL : Int → List Int → Int
  | m, [] => m
  | m, x :: xs => minL (if x < m then x else m) xs
def maxL : Int → List Int → Int
  | m, [] => m
  | m, x :: xs => maxL (if x > m then x else m) xs
theorem minL_spec : ∀ (xs : List Int) (m : Int), minL m xs ∈ m :: xs ∧ ∀ y ∈ m :: xs, minL m xs ≤ y
  | [], m => ⟨by simp [minL], fun y hy => by simp at hy; subst hy; exact Int.le_refl _⟩
  | x :: xs, m => by
    obtain ⟨h1, h2⟩ := minL_spec xs (if x < m then x else m)
    unfold minL
    refine ⟨?_, fun y hy => ?_⟩
    · rcases List.mem_cons.mp h1 with h | h
      · rw [h]; split <;> simp
      · simp [h]
    · rcases List.mem_cons.mp hy with h | h
      · subst h
        exact Int.le_trans (h2 _ (List.mem_cons_self)) (by split <;> omega)
      · rcases List.mem_cons.mp h with h | h
        · subst h
          exact Int.le_trans (h2 _ (List.mem_cons_self)) (by split <;> omega)
        · exact h2 y (List.mem_cons_of_mem _ h)
theorem maxL_spec : ∀ (xs : List Int) (m : Int), maxL m xs ∈ m :: xs ∧ ∀ y ∈ m :: xs, y ≤ maxL m xs
  | [], m => ⟨by simp [maxL], fun y hy => by simp at hy; subst hy; exact Int.le_refl _⟩
  | x :: xs, m => by
    obtain ⟨h1, h2⟩ := maxL_spec xs (if x > m then x else m)
    unfold maxL
    refine ⟨?_, fun y hy => ?_⟩
    · rcases List.mem_cons.mp h1 with h | h
      · rw [h]; split <;> simp
      · simp [h]
    · rcases List.mem_cons.mp hy with h | h
      · subst h
        exact Int.le_trans (by split <;> omega) (h2 _ (List.mem_cons_self))
      · rcases List.mem_cons.mp h with h | h
        · subst h
          exact Int.le_trans (by split <;> omega) (h2 _ (List.mem_cons_self))
        · exact h2 y (List.mem_cons_of_mem _ h)
def minF : Fn
  | [.int i, .int j], h => some (.int (if j < i then j else i), h)
  | [d], h => match listOf d h with
    | some ds => match intsOf ds with
      | some (n :: ns) => some (.int (minL n ns), h)
      | _ => none
    | none => none
  | _, _ => none
theorem m_min (hc : X.calm = true) : CallM X (.builtin "min") minF := ⟨_, callR_or (call_min2 hc) (cr_min hc), fun io h H ds vs Q d h' r hv e p => by
  unfold minF at e
  split at e
  · obtain ⟨v, u, rfl, v1, v2⟩ := hv.two
    cases v1; cases v2; cases e
    exact .inl ⟨_, _, rfl, p.here r (.int _)⟩
  · obtain ⟨v, rfl, v1⟩ := hv.one
    split at e
    · rename_i ds q
      split at e
      · rename_i n ns q2
        cases e
        obtain ⟨a, xs, rfl, e2, e3⟩ := listOf_of r v1 q
        have e4 := intsOf_of e3 q2
        subst e4
        refine .inr ⟨a, n :: ns, rfl, e2, by simp, fun m hm hle => ?_⟩
        have sp := minL_spec ns n
        have em : m = minL n ns := Int.le_antisymm (hle _ sp.1) (sp.2 _ hm)
        rw [em]
        exact p.here r (.int _)
      · cases e
    · cases e
  · cases e⟩
def maxF : Fn
  | [.int i, .int j], h => some (.int (if j > i then j else i), h)
  | [d], h => match listOf d h with
    | some ds => match intsOf ds with
      | some (n :: ns) => some (.int (maxL n ns), h)
      | _ => none
    | none => none
  | _, _ => none
theorem m_max (hc : X.calm = true) : CallM X (.builtin "max") maxF := ⟨_, callR_or (call_max2 hc) (cr_max hc), fun io h H ds vs Q d h' r hv e p => by
  unfold maxF at e
  split at e
  · obtain ⟨v, u, rfl, v1, v2⟩ := hv.two
    cases v1; cases v2; cases e
    exact .inl ⟨_, _, rfl, p.here r (.int _)⟩
  · obtain ⟨v, rfl, v1⟩ := hv.one
    split at e
    · rename_i ds q
      split at e
      · rename_i n ns q2
        cases e
        obtain ⟨a, xs, rfl, e2, e3⟩ := listOf_of r v1 q
        have e4 := intsOf_of e3 q2
        subst e4
        refine .inr ⟨a, n :: ns, rfl, e2, by simp, fun m hm hle => ?_⟩
        have sp := maxL_spec ns n
        have em : m = maxL n ns := Int.le_antisymm (sp.2 _ hm) (hle _ sp.1)
        rw [em]
        exact p.here r (.int _)
      · cases e
    · cases e
  · cases e⟩
def allF : Fn
  | [d], h => match listOf d h with
    | some ds => match blsOf ds with
      | some bs => some (.bl (bs.all id), h)
      | none => none
    | none => none
  | _, _ => none
theorem m_all (hc : X.calm = true) : CallM X (.builtin "all") allF := ⟨_, cr_all hc, fun io h H ds vs Q d h' r hv e p => by
  unfold allF at e
  split at e
  · obtain ⟨v, rfl, v1⟩ := hv.one
    split at e
    · rename_i ds q
      split at e
      · rename_i bs q2
        cases e
        obtain ⟨a, xs, rfl, e2, e3⟩ := listOf_of r v1 q
        have e4 := blsOf_of e3 q2
        subst e4
        exact ⟨a, bs, rfl, e2, p.here r (.bl _)⟩
      · cases e
    · cases e
  · cases e⟩
def anyF : Fn
  | [d], h => match listOf d h with
    | some ds => match blsOf ds with
      | some bs => some (.bl (bs.any id), h)
      | none => none
    | none => none
  | _, _ => none
theorem m_any (hc : X.calm = true) : CallM X (.builtin "any") anyF := ⟨_, cr_any hc, fun io h H ds vs Q d h' r hv e p => by
  unfold anyF at e
  split at e
  · obtain ⟨v, rfl, v1⟩ := hv.one
    split at e
    · rename_i ds q
      split at e
      · rename_i bs q2
        cases e
        obtain ⟨a, xs, rfl, e2, e3⟩ := listOf_of r v1 q
        have e4 := blsOf_of e3 q2
        subst e4
        exact ⟨a, bs, rfl, e2, p.here r (.bl _)⟩
      · cases e
    · cases e
  · cases e⟩
def tupleF : Fn
  | [.tup ds], h => some (.tup ds, h)
  | [d], h => match listOf d h with
    | some ds => some (.tup ds, h)
    | none => none
  | _, _ => none
theorem m_tuple : CallM X (.type "tuple") tupleF := ⟨_, call_tuple_of, fun io h H ds vs Q d h' r hv e p => by
  unfold tupleF at e
  split at e
  · obtain ⟨v, rfl, v1⟩ := hv.one
    cases e
    cases v1 with
    | tup s1 w1 => exact ⟨_, _, rfl, .inr ⟨s1.t, p.here r (.tup s1 w1)⟩⟩
  · obtain ⟨v, rfl, v1⟩ := hv.one
    split at e
    · rename_i ds q
      cases e
      obtain ⟨a, xs, rfl, e2, e3⟩ := listOf_of r v1 q
      exact ⟨a, xs, rfl, .inl ⟨e2, fun l hl => p io _ _ (ext_out r hl) (r.out hl) (.tup (SqU.of upd_same) (RVs.mono (ext_out r hl).toExt0 _ _ e3))⟩⟩
    · cases e
  · cases e⟩
/-- list(x): a new list -/
def listFL : FL := fun ds h => match ds with
  | [d] => seqOf d h
  | _ => none
theorem m_listL : ∃ r, CallR X (.type "list") r ∧ LsS X.K listFL r := ⟨_, call_list_of, fun io h H ds vs Q xs r hv e p => by
  unfold listFL at e
  split at e
  · obtain ⟨v, rfl, v1⟩ := hv.one
    obtain ⟨a, ys, rfl, e2, e3⟩ := seqOf_of r v1 e
    exact ⟨a, ys, rfl, e2, fun l hl => p io H l ys (Ext.refl _ _) r hl e3⟩
  · cases e⟩
theorem sl_callTy {T : String} {x : Str} {e : Expr} {es : List Expr} {B : Ar} {f : FL} {p pos : Pos} (hc : ∃ r, CallR X (.type T) r ∧ LsS X.K f r) (hg : Gl X x) (hm : X.mg x = none) (hv : bootBuiltins x = some (.type T)) (ha : SA X W (e :: es) B)
    (hn : x ≠ "__name__" := by decide) (hdb : (x == ("__debug__" : Str)) = false := by decide) (hs : starEach (e :: es) X.env = (false, eval e X.env) :: starEach es X.env := by rfl) (hst : ((backTo pos (starEach es X.env)).any fun x => x.fst) = false := by rfl) : SL X W (.Call (.Name x p) (e :: es) [] pos) (lCall f B) := by
  obtain ⟨r, h1, h2⟩ := hc
  exact pe_imp (pe_callTy h1 hg hm hv ha hn hdb hs hst) fun sg H Q h => lcalls h2 h

/-! ### repr -/
def rRepr (K : PySem.W.Frag) : List V → Hp → VK → Prop := fun xs H Q => ∃ x d, xs = [x] ∧ Dp K H x d ∧ SeqAt.shaped d = true ∧ d.showable = true ∧ d.shown.length ≤ sizeLine ∧ Q (.str d.shown) H
theorem call_reprD (hg : X.A.guards = some []) (hu : X.A.units + 70 < cLine) : CallR X (.builtin "repr") (rRepr X.K) := by
  intro pins s sg H xs us Q I rv h
  obtain ⟨x, d, rfl, hd, hs, hw, hl, q⟩ := h
  obtain ⟨u, rfl, ru⟩ : ∃ u, us = [u] ∧ RelV x u := by
    cases rv with
    | cons r1 r2 => cases r2; exact ⟨_, rfl, r1⟩
  obtain ⟨as, rd⟩ := Dp.reads I d x u hd ru
  have hcl := SeqAt.canLay_of_shaped hs
  have hdp : d.depth ≤ 64 := by
    unfold SeqAt.shaped at hs
    simp at hs
    exact hs.2
  have fin : ∀ (h' : Heap) (t : Tok) (tk : Nat), (∀ b o, s.heap.get? b = some o → h'.get? b = some o) → EP X pins sg Q (.str d.shown t) { s with heap := h', toks := tk } := fun h' t tk hk => ⟨.str d.shown, H, I.kept (t' := tk) hk, ⟨t, rfl⟩, q⟩
  cases hd with
  | non =>
    obtain rfl : u = Value.none := ru
    refine P.repr_of_none ?_
    simp only [PyData.shown] at fin
    exact fin s.heap _ _ fun _ _ e => e
  | bl b =>
    obtain rfl : u = Value.bool b := ru
    refine P.repr_of_bool ?_
    simp only [PyData.shown] at fin
    exact fin s.heap _ _ fun _ _ e => e
  | int i =>
    obtain ⟨t, rfl⟩ := ru
    refine P.repr_of_int (by simpa [PyData.showable] using hw) ?_
    simp only [PyData.shown] at fin
    exact fin s.heap _ _ fun _ _ e => e
  | str z =>
    obtain ⟨t, rfl⟩ := ru
    simp only [PyData.shown] at fin hl
    exact P.repr_of_str (fin s.heap _ _ fun _ _ e => e) hl
  | lst h1 h2 =>
    obtain rfl := ru
    exact repr_of_reads' rd hw (PyData.noDict_hsm (PyData.hasDict_of_canLay _ hcl)) hg (by omega) (fun _ _ e => e) (fun h' t tk hk => fin h' t tk hk) hl
  | tup h1 h2 =>
    obtain rfl := ru
    exact repr_of_reads' rd hw (PyData.noDict_hsm (PyData.hasDict_of_canLay _ hcl)) hg (by omega) (fun _ _ e => e) (fun h' t tk hk => fin h' t tk hk) hl
end
end Mv

namespace Mv
open PySem L2

/-! ### texts shown are texts -/
def oks (l : List Nat) : Prop := ∀ c ∈ l, c < 0x110000
theorem strOk_iff {s : Str} : PyData.strOk s = true ↔ oks s.cps.toList := by
  unfold PyData.strOk oks
  rw [Array.all_eq_true_iff_forall_mem]
  constructor
  · intro h c hc
    simpa using h c (Array.mem_def.mpr hc)
  · intro h c hc
    simpa using h c (Array.mem_def.mp hc)
theorem strOk_append {a b : Str} (ha : PyData.strOk a = true) (hb : PyData.strOk b = true) : PyData.strOk (a ++ b) = true := by
  unfold PyData.strOk at ha hb ⊢
  show (a.cps ++ b.cps).all _ = true
  rw [Array.all_append, ha, hb]
  rfl
theorem strOk_ofString (s : String) : PyData.strOk (Str.ofString s) = true := by
  rw [strOk_iff]
  intro c hc
  have e : (Str.ofString s).cps.toList = s.toList.map Char.toNat := by
    unfold Str.ofString
    rw [cpsOfBytes_string]
  rw [e] at hc
  obtain ⟨ch, _, rfl⟩ := List.mem_map.mp hc
  have h := ch.valid
  simp only [UInt32.isValidChar, Nat.isValidChar] at h
  show ch.val.toNat < _
  omega
theorem oks_digits (l : List Char) : oks (l.map Char.toNat) := by
  intro c hc
  obtain ⟨ch, _, rfl⟩ := List.mem_map.mp hc
  have h := ch.valid
  simp only [UInt32.isValidChar, Nat.isValidChar] at h
  show ch.val.toNat < _
  omega
theorem oks_append {a b : List Nat} (ha : oks a) (hb : oks b) : oks (a ++ b) := fun c hc => (List.mem_append.mp hc).elim (ha c) (hb c)
theorem oks_cons {a : Nat} {b : List Nat} (ha : a < 0x110000) (hb : oks b) : oks (a :: b) := fun c hc => (List.mem_cons.mp hc).elim (fun e => e ▸ ha) (hb c)
theorem oks_rep (n a : Nat) (ha : a < 0x110000) : oks (List.replicate n a) := fun c hc => by
  rw [(List.mem_replicate.mp hc).2]
  exact ha
theorem oks_reprChar (q c : Nat) (hq : q < 0x110000) (hc : c < 0x110000) : oks (Builtin.Str.reprChar q c) := by
  have two : ∀ a b : Nat, a < 0x110000 → b < 0x110000 → oks [a, b] := fun a b h1 h2 => oks_cons h1 (oks_cons h2 fun _ z => nomatch z)
  unfold Builtin.Str.reprChar
  dsimp only
  repeat' split
  all_goals first
    | exact two _ _ (by decide) hc
    | exact two _ _ (by decide) (by decide)
    | exact oks_cons hc (fun _ z => nomatch z)
    | exact oks_append (two _ _ (by decide) (by decide)) (oks_append (oks_rep _ _ (by decide)) (oks_digits _))
theorem quote_lt (x : Str) : reprQuote x < 0x110000 := by
  unfold reprQuote
  split <;> decide
theorem oks_fold (q : Nat) (hq : q < 0x110000) : ∀ (l : List Nat) (acc : Array Nat), oks l → oks acc.toList → oks (l.foldl (fun out c => out ++ (Builtin.Str.reprChar q c).toArray) acc).toList
  | [], acc, _, h => h
  | c :: r, acc, h, ha => by
    rw [List.foldl_cons]
    refine oks_fold q hq r _ (fun d hd => h d (List.mem_cons_of_mem _ hd)) ?_
    rw [Array.toList_append]
    exact oks_append ha (oks_reprChar q c hq (h c (List.mem_cons_self ..)))
theorem strOk_repr {x : Str} (hx : PyData.strOk x = true) : PyData.strOk (reprText x) = true := by
  rw [strOk_iff] at hx ⊢
  unfold reprText
  dsimp only
  rw [Array.toList_push, ← Array.foldl_toList]
  exact oks_append (oks_fold _ (quote_lt x) _ _ hx (oks_cons (quote_lt x) fun _ z => nomatch z)) (oks_cons (quote_lt x) fun _ z => nomatch z)
theorem strOk_textFrom : ∀ (ts : List Str) (k : Nat) (acc : Str), PyData.strOk acc = true → (∀ t ∈ ts, PyData.strOk t = true) → PyData.strOk (textFrom k acc ts) = true
  | [], _, _, h, _ => h
  | t :: ts, k, acc, h, ht => strOk_textFrom ts (k + 1) _ (strOk_append (strOk_append h (strOk_ofString _)) (ht t (List.mem_cons_self ..))) fun u hu => ht u (List.mem_cons_of_mem _ hu)
theorem strOk_join (sep : Str) (hs : PyData.strOk sep = true) : ∀ ts : List Str, (∀ t ∈ ts, PyData.strOk t = true) → PyData.strOk (Str.join sep ts) = true
  | [], _ => by show PyData.strOk Str.empty = true; decide +kernel
  | [x], h => h x (by simp)
  | x :: y :: r, h => strOk_append (strOk_append (h x (by simp)) hs) (strOk_join sep hs (y :: r) fun t ht => h t (List.mem_cons_of_mem _ ht))
mutual
theorem strOk_shown : ∀ p : PyData, p.canLay0 = true → PyData.strOk p.shown = true
  | .none, _ => by simp only [PyData.shown]; exact strOk_ofString _
  | .bool b, _ => by simp only [PyData.shown]; cases b <;> exact strOk_ofString _
  | .int i, _ => by simp only [PyData.shown]; exact strOk_ofString _
  | .str x, h => by
    simp only [PyData.shown]
    exact strOk_repr (by simpa [PyData.canLay0] using h)
  | .list xs, h => by
    simp only [PyData.shown]
    exact strOk_append (strOk_textFrom _ _ _ (strOk_ofString _) (strOk_shownAll xs (by simpa [PyData.canLay0] using h))) (strOk_ofString _)
  | .tuple xs, h => by
    simp only [PyData.shown]
    exact strOk_append (strOk_append (strOk_ofString _) (strOk_join _ (strOk_ofString _) _ (strOk_shownAll xs (by simpa [PyData.canLay0] using h)))) (strOk_ofString _)
  | .dict kvs, h => by simp [PyData.canLay0] at h
theorem strOk_shownAll : ∀ xs : List PyData, PyData.canLayAll0 xs = true → ∀ t ∈ PyData.shownAll xs, PyData.strOk t = true
  | [], _, t, ht => by simp [PyData.shownAll] at ht
  | x :: xs, h, t, ht => by
    have h' : x.canLay0 = true ∧ PyData.canLayAll0 xs = true := by simpa [PyData.canLayAll0] using h
    simp only [PyData.shownAll, List.mem_cons] at ht
    rcases ht with rfl | ht
    · exact strOk_shown x h'.1
    · exact strOk_shownAll xs h'.2 t ht
end
section
variable {X : Cx} {W : WX}
/-! ### a dict shown -/
def keyPD : Key → PyData
  | .inl i => .int i
  | .inr s => .str s
mutual
def noL : PyData → Bool
  | .list _ => false
  | .dict _ => false
  | .tuple xs => noLs xs
  | _ => true
def noLs : List PyData → Bool
  | [] => true
  | x :: xs => noL x && noLs xs
end
mutual
theorem reads_noL {h : Heap} : ∀ {v : Value} {d : PyData} {as : List Addr}, Reads h v d as → noL d = true → as = []
  | _, _, _, .none, _ => rfl
  | _, _, _, .bool _, _ => rfl
  | _, _, _, .int _ _, _ => rfl
  | _, _, _, .str _ _, _ => rfl
  | _, _, _, .list .., h => by simp [noL] at h
  | _, _, _, .tuple _ _ _ h4, h => readsAll_noL h4 (by simpa [noL] using h)
  | _, _, _, .dict .., h => by simp [noL] at h
theorem readsAll_noL {h : Heap} : ∀ {vs : List Value} {ds : List PyData} {as : List Addr}, ReadsAll h vs ds as → noLs ds = true → as = []
  | _, _, _, .nil, _ => rfl
  | _, _, _, .cons (d := d) (ds := ds) r rs, h => by
    have h' : noL d = true ∧ noLs ds = true := by simpa [noLs] using h
    rw [reads_noL r h'.1, readsAll_noL rs h'.2]
    rfl
end
inductive DpK (K : PySem.W.Frag) (H : Hp) : List (Key × V) → List (PyData × PyData) → Prop
  | nil : DpK K H [] []
  | cons {k : Key} {v : V} {p : PyData} {kvs : List (Key × V)} {ps : List (PyData × PyData)} : Dp K H v p → noL p = true → DpK K H kvs ps → DpK K H ((k, v) :: kvs) ((keyPD k, p) :: ps)
def rReprK (K : PySem.W.Frag) : List V → Hp → VK → Prop := fun xs H Q => ∃ a kvs ps, xs = [.ref a] ∧ H a = some (.dK kvs) ∧ DpK K H kvs ps ∧ (PyData.dict ps).showable = true ∧ (PyData.dict ps).depth ≤ 64 ∧ (PyData.dict ps).shown.length ≤ sizeLine ∧ Q (.str (PyData.dict ps).shown) H
theorem dpk_keys {P : Program} {w : World} {K : PySem.W.Frag} {H : Hp} {h : Heap} : ∀ {es : List DictEntry} {kvs : List (Key × V)} {vs : List (Key × Value)} {ps : List (PyData × PyData)}, Pairs (mixKind P w) es vs → KV kvs vs → DpK K H kvs ps → ReadsAll h (es.map (·.key)) (ps.map (·.1)) []
  | _, _, _, _, .nil, kv, d => by
    cases kv
    cases d
    exact .nil
  | _, _, _, _, .cons h1 h2 h3, kv, d => by
    cases kv with
    | cons r rs =>
      cases d with
      | cons d1 d2 d3 =>
        rename_i e kv' es' kvs' vs' k v p ps'
        have ih := dpk_keys (h := h) h3 rs d3
        have e1 : k = kv'.1 := r.1
        have hk : keyIs k e.key = true := by rw [e1]; exact h1
        rcases keyIs_shape hk with ⟨i, t, ek, ev⟩ | ⟨x, t, ek, ev⟩
        · subst ek
          have := ReadsAll.cons (h := h) (Reads.int i t) ih
          show ReadsAll h (e.key :: es'.map (·.key)) (PyData.int i :: ps'.map (·.1)) []
          rw [ev]
          exact this
        · subst ek
          have := ReadsAll.cons (h := h) (Reads.str x t) ih
          show ReadsAll h (e.key :: es'.map (·.key)) (PyData.str x :: ps'.map (·.1)) []
          rw [ev]
          exact this
theorem dpk_vals {pins : List (Addr × Obj)} {sg : L2.St} {H : Hp} {s : Shared} (I : Inv X pins sg H s) : ∀ {es : List DictEntry} {kvs : List (Key × V)} {vs : List (Key × Value)} {ps : List (PyData × PyData)}, Pairs (mixKind X.prog X.w) es vs → KV kvs vs → DpK X.K H kvs ps → ReadsAll s.heap (es.map (·.val)) (ps.map (·.2)) []
  | _, _, _, _, .nil, kv, d => by
    cases kv
    cases d
    exact .nil
  | _, _, _, _, .cons h1 h2 h3, kv, d => by
    cases kv with
    | cons r rs =>
      cases d with
      | cons d1 d2 d3 =>
        rename_i e kv' es' kvs' vs' k v p ps'
        have ih := dpk_vals I h3 rs d3
        obtain ⟨as, rd⟩ := Dp.reads I p v kv'.2 d1 r.2
        have ea := reads_noL rd d2
        subst ea
        have := ReadsAll.cons rd ih
        show ReadsAll s.heap (e.val :: es'.map (·.val)) (p :: ps'.map (·.2)) []
        rw [h2]
        exact this
theorem call_reprK (hg : X.A.guards = some []) (hu : X.A.units + 70 < cLine) : CallR X (.builtin "repr") (rReprK X.K) := by
  intro pins s sg H xs us Q I rv h
  obtain ⟨a, kvs, ps, rfl, hH, hd, hw, hdp, hl, q⟩ := h
  obtain ⟨u, rfl, ru⟩ : ∃ u, us = [u] ∧ RelV (.ref a) u := by
    cases rv with
    | cons r1 r2 => cases r2; exact ⟨_, rfl, r1⟩
  obtain rfl := ru
  obtain ⟨z, hs, vs, kv, o, es, ep, ho, hx, hdt, hko, hp, hnd⟩ := I.hok a _ hH
  have rd : Reads s.heap (.ref a) (.dict ps) (a :: [] ++ []) := Reads.dict ho hx.1 hdt (dpk_keys hp kv hd) (dpk_vals I hp kv hd)
  refine repr_of_reads' rd hw (fun _ hm => ?_) hg (by omega) (fun _ _ e => e) (fun h' t tk hk => ⟨.str _, H, I.kept (t' := tk) hk, ⟨t, rfl⟩, q⟩) hl
  have : sysModules = a := by simpa using hm
  rw [← this] at hs
  simp at hs
def kvPD (h : VH) : List (Key × D) → Option (List (PyData × PyData)) := omap fun kd => match toPD h 15 kd.2 with
  | some p => if noL p = true then some (keyPD kd.1, p) else none
  | none => none
theorem kvPD_of {K : PySem.W.Frag} {io : List Addr} {h : VH} {H : Hp} (r : RepH K io h H) : ∀ {ds : List (Key × D)} {vs : List (Key × V)} {ps : List (PyData × PyData)}, RK K io H kOk ds vs → kvPD h ds = some ps → DpK K H vs ps ∧ PyData.depthKv ps ≤ 15 ∧ ∀ t ∈ PyData.shownKv ps, PyData.strOk t = true
  | [], _, _, hv, e => by
    cases hv
    cases e
    exact ⟨.nil, by simp [PyData.depthKv], fun t ht => by simp [PyData.shownKv] at ht⟩
  | (k, d) :: ds, _, _, hv, e => by
    cases hv with
    | cons hk h1 h2 =>
      obtain ⟨y, ys, e1, e2, rfl⟩ := omap_cons e
      obtain ⟨i1, i2, i3⟩ := kvPD_of r h2 e2
      split at e1
      · rename_i p q
        split at e1
        · rename_i hn
          cases e1
          have ly := lay_of r 15 _ _ _ h1 q
          refine ⟨.cons (dp_of r 15 _ _ _ h1 q) hn i1, ?_, fun t ht => ?_⟩
          · have hkd : (keyPD k).depth = 0 := by
              cases k <;> simp [keyPD, PyData.depth]
            simp only [PyData.depthKv, hkd]
            omega
          · simp only [PyData.shownKv, List.mem_cons] at ht
            rcases ht with rfl | ht
            · refine strOk_append (strOk_append (strOk_shown _ ?_) (strOk_ofString _)) (strOk_shown p ly.1)
              cases k with
              | inl i => simp [keyPD, PyData.canLay0]
              | inr s => simpa [keyPD, PyData.canLay0] using hk.1
            · exact i3 t ht
        · cases e1
      · cases e1
def toPR (h : VH) (d : D) : Option PyData := match d with
  | .loc n => match h[n]? with
    | some (.dK kvs) => (kvPD h kvs).map .dict
    | _ => toPD h 16 d
  | d => toPD h 16 d
def reprF : Fn
  | [d], h => match toPR h d with
    | some p => if p.showable = true ∧ p.shown.length ≤ sizeLine then some (.str p.shown, h) else none
    | none => none
  | _, _ => none
theorem m_repr (hg : X.A.guards = some []) (hu : X.A.units + 70 < cLine) : CallM X (.builtin "repr") reprF := ⟨_, callR_or (call_reprD hg hu) (call_reprK hg hu), fun io h H ds vs Q d h' r hv e p => by
  unfold reprF at e
  split at e
  · rename_i x
    obtain ⟨v, rfl, v1⟩ := hv.one
    split at e
    · rename_i q e1
      split at e
      · rename_i hh
        cases e
        have one : toPD h 16 x = some q → rRepr X.K [v] H Q ∨ rReprK X.K [v] H Q := fun e1 =>
          .inl ⟨_, q, rfl, dp_of r 16 _ _ _ v1 e1, shaped_of r (by decide) v1 e1, hh.1, hh.2, p.here r (.str _ ⟨strOk_shown q (lay_of r 16 _ _ _ v1 e1).1, hh.2⟩)⟩
        unfold toPR at e1
        split at e1
        · rename_i n
          split at e1
          · rename_i kvs q0
            cases q2 : kvPD h kvs with
            | none => rw [q2] at e1; cases e1
            | some ps =>
              rw [q2] at e1
              cases e1
              cases v1 with
              | loc ha =>
                obtain ⟨ho, e3, xs, rfl, e4⟩ := r.ob _ _ _ q0 ha
                obtain ⟨i1, i2, i3⟩ := kvPD_of r e4 q2
                refine .inr ⟨_, xs, ps, rfl, e3, i1, hh.1, by simp only [PyData.depth]; omega, hh.2, p.here r (.str _ ⟨?_, hh.2⟩)⟩
                simp only [PyData.shown]
                exact strOk_append (strOk_append (strOk_ofString _) (strOk_join _ (strOk_ofString _) _ i3)) (strOk_ofString _)
          · exact one e1
        · exact one e1
      · cases e
    · cases e
  · cases e⟩

/-! ### tests -/
def tVal (a : Ex) : Ts := fun rho h => (a rho h).bind fun d h1 => match d with
  | .bl b => .ok b h1
  | _ => .bad
theorem tval {K : PySem.W.Frag} {a : Ex} {sg : L2.St} {H : Hp} {Q : Bool → Hp → Prop} (h : tT K W (tVal a) sg H Q) : tE K W a sg H fun x H1 => ∃ k, x = .bl k ∧ Q k H1 := by
  obtain ⟨io, h, rho, hR, hE, hA⟩ := h
  refine ⟨io, h, rho, hR, hE, (Aft.bind hA).mono (fun x h1 hx io1 H1 v e1 R1 v1 => ?_) fun _ _ z => z⟩
  cases v1 with
  | bl b => exact ⟨b, rfl, hx io1 H1 e1 R1⟩
  | _ => exact hx.elim
theorem st_val {e : Expr} {A : Ex} (ha : SE X W e A) (ht : ∀ whole : Sem Value, PySem.isTrue e X.env whole = (do let v ← whole; standAt e.pos; holding [v] (truthy v)) := by intro _; rfl) : ST X W e (tVal A) := pt_imp (pt_val ha ht) fun sg H Q h => tval h
theorem st_cmp {a b : Expr} {A B : Ex} {op : CmpOp} {f : F2} {pos : Pos} (ho : OpM X (compareOp op) f) (ha : SE X W a A) (hb : SE X W b B) (hm : behindInMarks op b = false) : ST X W (.Compare a [op] [b] pos) (tVal (eOp f A B)) := by
  obtain ⟨r, h1, h2⟩ := ho
  exact pt_imp (pt_cmpR h1 ha hb hm) fun sg H Q h => two (Q := fun x H' => ∃ k, x = V.bl k ∧ Q k H') h2 (tval h)
def eChain (f g : F2) (a b c : Ex) : Ex := fun rho h => (a rho h).bind fun x h1 => (b rho h1).bind fun y h2 => (up (f x y h2)).bind fun z h3 => match z with
  | .bl true => (c rho h3).bind fun w h4 => up (g y w h4)
  | .bl false => .ok (.bl false) h3
  | _ => .bad
/-- an operation that leaves the heap's part as it is; its answer a truth -/
def OpB (K : PySem.W.Frag) (f : F2) (r : R2) : Prop := OpS K f r ∧ ∀ x y h d h', f x y h = some (d, h') → ∃ b, d = .bl b
theorem chain {K : PySem.W.Frag} {a b c : Ex} {f g : F2} {r r' : R2} {sg : L2.St} {H : Hp} {Q : VK} (hf : OpS K f r) (hg : OpS K g r') (h : tE K W (eChain f g a b c) sg H Q) : tChain r r' (tE K W a) (tE K W b) (tE K W c) sg H Q := by
  obtain ⟨io, h, rho, hR, hE, hA⟩ := h
  refine ⟨io, h, rho, hR, hE, (Aft.bind hA).mono (fun x h1 hx => ?_) fun _ _ z => z⟩
  intro io1 H1 v e1 R1 v1
  refine ⟨io1, h1, rho, R1, hE.mono e1.toExt0, (Aft.bind hx).mono (fun y h2 hy => ?_) fun _ _ z => z.mono e1⟩
  intro io2 H2 u e2 R2 v2
  obtain ⟨d, h3, e3, p⟩ := (Aft.bind hy).up
  refine hf io2 h2 H2 x y v u _ d h3 R2 (RV.mono e2.toExt0 _ _ v1) v2 e3 ?_
  intro io3 H3 z e4 R3 v3
  cases v3 with
  | bl k =>
    refine ⟨k, rfl, ?_⟩
    cases k with
    | true =>
      rw [if_pos rfl]
      have E3 := (e1.trans e2).trans e4
      refine ⟨io3, h3, rho, R3, hE.mono E3.toExt0, (Aft.bind p).mono (fun w h4 hw => ?_) fun _ _ z => z.mono E3⟩
      intro io4 H4 t e5 R4 v4
      obtain ⟨d', h5, e6, p'⟩ := hw.up
      exact hg io4 h4 H4 y w u t Q d' h5 R4 (RV.mono (e4.trans e5).toExt0 _ _ v2) v4 e6 (p'.mono (E3.trans e5))
    | false =>
      rw [if_neg Bool.false_ne_true]
      exact p io3 H3 _ ((e1.trans e2).trans e4) R3 (.bl false)
  | _ => exact p.elim
theorem se_chain {a b c : Expr} {A B C : Ex} {op op' : CmpOp} {f g : F2} {pos : Pos} (ho : OpM X (compareOp op) f) (ho' : OpM X (compareOp op') g) (ha : SE X W a A) (hb : SE X W b B) (hc : SE X W c C) (hm : lastMarks [op, op'] [b, c] = false := by with_unfolding_all rfl) :
    SE X W (.Compare a [op, op'] [b, c] pos) (eChain f g A B C) := by
  obtain ⟨r, h1, h2⟩ := ho
  obtain ⟨r', h1', h2'⟩ := ho'
  exact pe_imp (pe_chain h1 h1' ha hb hc hm) fun sg H Q h => chain h2 h2' h
theorem st_chain {a b c : Expr} {A B C : Ex} {op op' : CmpOp} {f g : F2} {pos : Pos} (ho : OpM X (compareOp op) f) (ho' : OpM X (compareOp op') g) (ha : SE X W a A) (hb : SE X W b B) (hc : SE X W c C) (hm : lastMarks [op, op'] [b, c] = false := by with_unfolding_all rfl) :
    ST X W (.Compare a [op, op'] [b, c] pos) (tVal (eChain f g A B C)) := by
  obtain ⟨r, h1, h2⟩ := ho
  obtain ⟨r', h1', h2'⟩ := ho'
  exact pt_imp (pt_chain h1 h1' ha hb hc hm) fun sg H Q h => chain (Q := fun x H' => ∃ k, x = V.bl k ∧ Q k H') h2 h2' (tval h)
def tNt (a : Ts) : Ts := fun rho h => (a rho h).bind fun b h1 => .ok (!b) h1
theorem st_not {e : Expr} {A : Ts} {pos : Pos} (ha : ST X W e A) : ST X W (.UnaryOp .Not e pos) (tNt A) := pt_imp (pt_not ha) fun sg H Q ⟨io, h, rho, hR, hE, hA⟩ =>
  ⟨io, h, rho, hR, hE, (Aft.bind hA).mono (fun x h1 hx io1 H1 e1 R1 => hx io1 H1 e1 R1) fun _ _ z => z⟩
def tAn (a b : Ts) : Ts := fun rho h => (a rho h).bind fun x h1 => if x = true then b rho h1 else .ok false h1
def tOrr (a b : Ts) : Ts := fun rho h => (a rho h).bind fun x h1 => if x = true then .ok true h1 else b rho h1
theorem tand {K : PySem.W.Frag} {a b : Ts} {sg : L2.St} {H : Hp} {Q : Bool → Hp → Prop} (h : tT K W (tAn a b) sg H Q) : tAnd (tT K W a) (tT K W b) sg H Q := by
  obtain ⟨io, h, rho, hR, hE, hA⟩ := h
  refine ⟨io, h, rho, hR, hE, (Aft.bind hA).mono (fun x h1 hx io1 H1 e1 R1 => ?_) fun _ _ z => z⟩
  cases x with
  | true =>
    rw [if_pos rfl] at hx ⊢
    exact ⟨io1, h1, rho, R1, hE.mono e1.toExt0, hx.mono (fun _ _ z => z.mono e1) fun _ _ z => z.mono e1⟩
  | false =>
    rw [if_neg Bool.false_ne_true] at hx ⊢
    exact hx io1 H1 e1 R1
theorem tor {K : PySem.W.Frag} {a b : Ts} {sg : L2.St} {H : Hp} {Q : Bool → Hp → Prop} (h : tT K W (tOrr a b) sg H Q) : tOr (tT K W a) (tT K W b) sg H Q := by
  obtain ⟨io, h, rho, hR, hE, hA⟩ := h
  refine ⟨io, h, rho, hR, hE, (Aft.bind hA).mono (fun x h1 hx io1 H1 e1 R1 => ?_) fun _ _ z => z⟩
  cases x with
  | true =>
    rw [if_pos rfl] at hx ⊢
    exact hx io1 H1 e1 R1
  | false =>
    rw [if_neg Bool.false_ne_true] at hx ⊢
    exact ⟨io1, h1, rho, R1, hE.mono e1.toExt0, hx.mono (fun _ _ z => z.mono e1) fun _ _ z => z.mono e1⟩
theorem sw_and {a b : Expr} {A B : Ts} {pos : Pos} {rest : List Expr} (ha : ST X W a A) (hb : SW X W (.BoolOp .And (b :: rest) pos) B) : SW X W (.BoolOp .And (a :: b :: rest) pos) (tAn A B) := pw_imp (pw_and ha hb) fun sg H Q h => tand h
theorem sw_and1 {a : Expr} {A : Ts} {pos : Pos} (ha : ST X W a A) : SW X W (.BoolOp .And [a] pos) A := pw_and1 ha
theorem sw_or {a b : Expr} {A B : Ts} {pos : Pos} {rest : List Expr} (ha : ST X W a A) (hb : SW X W (.BoolOp .Or (b :: rest) pos) B) : SW X W (.BoolOp .Or (a :: b :: rest) pos) (tOrr A B) := pw_imp (pw_or ha hb) fun sg H Q h => tor h
theorem sw_or1 {a : Expr} {A : Ts} {pos : Pos} (ha : ST X W a A) : SW X W (.BoolOp .Or [a] pos) A := pw_or1 ha
theorem st_w {e : Expr} {A : Ts} (h : SW X W e A) : ST X W e A := PW.pt h
/-- and, or, not as values -/
def eAnd (a b : Ex) : Ex := fun rho h => (a rho h).bind fun x h1 => match x with
  | .bl true => b rho h1
  | .bl false => .ok (.bl false) h1
  | _ => .bad
def eOr (a b : Ex) : Ex := fun rho h => (a rho h).bind fun x h1 => match x with
  | .bl true => .ok (.bl true) h1
  | .bl false => b rho h1
  | _ => .bad
def eNot (a : Ex) : Ex := fun rho h => (a rho h).bind fun x h1 => match x with
  | .bl b => .ok (.bl (!b)) h1
  | _ => .bad
theorem se_one {a : Expr} {A : Ex} {op : BoolOp} {pos : Pos} (ha : SE X W a A) : SE X W (.BoolOp op [a] pos) A := pe_one ha
theorem se_and {a b : Expr} {A B : Ex} {pos : Pos} {rest : List Expr} (ha : SE X W a A) (hb : SE X W (.BoolOp .And (b :: rest) pos) B) : SE X W (.BoolOp .And (a :: b :: rest) pos) (eAnd A B) := by
  refine pe_imp (pe_and ha hb) fun sg H Q ⟨io, h, rho, hR, hE, hA⟩ => ?_
  refine ⟨io, h, rho, hR, hE, (Aft.bind hA).mono (fun x h1 hx io1 H1 v e1 R1 v1 => ?_) fun _ _ z => z⟩
  cases v1 with
  | bl c =>
    refine ⟨c, rfl, ?_⟩
    cases c with
    | true =>
      rw [if_pos rfl]
      exact ⟨io1, h1, rho, R1, hE.mono e1.toExt0, hx.mono (fun _ _ z => z.mono e1) fun _ _ z => z.mono e1⟩
    | false =>
      rw [if_neg Bool.false_ne_true]
      exact hx io1 H1 _ e1 R1 (.bl _)
  | _ => exact hx.elim
theorem se_or {a b : Expr} {A B : Ex} {pos : Pos} {rest : List Expr} (ha : SE X W a A) (hb : SE X W (.BoolOp .Or (b :: rest) pos) B) : SE X W (.BoolOp .Or (a :: b :: rest) pos) (eOr A B) := by
  refine pe_imp (pe_or ha hb) fun sg H Q ⟨io, h, rho, hR, hE, hA⟩ => ?_
  refine ⟨io, h, rho, hR, hE, (Aft.bind hA).mono (fun x h1 hx io1 H1 v e1 R1 v1 => ?_) fun _ _ z => z⟩
  cases v1 with
  | bl c =>
    refine ⟨c, rfl, ?_⟩
    cases c with
    | true =>
      rw [if_pos rfl]
      exact hx io1 H1 _ e1 R1 (.bl _)
    | false =>
      rw [if_neg Bool.false_ne_true]
      exact ⟨io1, h1, rho, R1, hE.mono e1.toExt0, hx.mono (fun _ _ z => z.mono e1) fun _ _ z => z.mono e1⟩
  | _ => exact hx.elim
theorem se_not {a : Expr} {A : Ex} {pos : Pos} (ha : SE X W a A) : SE X W (.UnaryOp .Not a pos) (eNot A) := by
  refine pe_imp (pe_not ha) fun sg H Q ⟨io, h, rho, hR, hE, hA⟩ => ?_
  refine ⟨io, h, rho, hR, hE, (Aft.bind hA).mono (fun x h1 hx io1 H1 v e1 R1 v1 => ?_) fun _ _ z => z⟩
  cases v1 with
  | bl c => exact ⟨c, rfl, hx io1 H1 _ e1 R1 (.bl _)⟩
  | _ => exact hx.elim
def eIf (t : Ts) (a b : Ex) : Ex := fun rho h => (t rho h).bind fun x h1 => if x = true then a rho h1 else b rho h1
theorem se_if {c a b : Expr} {T : Ts} {A B : Ex} {pos : Pos} (ht : ST X W c T) (ha : SE X W a A) (hb : SE X W b B) : SE X W (.IfExp c a b pos) (eIf T A B) := by
  refine pe_imp (pe_ifExp ht ha hb) fun sg H Q ⟨io, h, rho, hR, hE, hA⟩ => ?_
  refine ⟨io, h, rho, hR, hE, (Aft.bind hA).mono (fun x h1 hx io1 H1 e1 R1 => ?_) fun _ _ z => z⟩
  cases x with
  | true =>
    rw [if_pos rfl] at hx ⊢
    exact ⟨io1, h1, rho, R1, hE.mono e1.toExt0, hx.mono (fun _ _ z => z.mono e1) fun _ _ z => z.mono e1⟩
  | false =>
    rw [if_neg Bool.false_ne_true] at hx ⊢
    exact ⟨io1, h1, rho, R1, hE.mono e1.toExt0, hx.mono (fun _ _ z => z.mono e1) fun _ _ z => z.mono e1⟩

/-! ### isinstance of built-in classes -/
def tyName (d : D) (h : VH) : Option String := match d with
  | .non => some "NoneType"
  | .bl _ => some "bool"
  | .int _ => some "int"
  | .str _ => some "str"
  | .tup _ => some "tuple"
  | .lst _ => some "list"
  | .scr _ => some "list"
  | .loc n => match h[n]? with
    | some (.lst _) => some "list"
    | some (.dK _) => some "dict"
    | some (.dT _) => some "dict"
    | _ => none
def isiB (a T : String) : Bool := a == T || (a == "bool" && T == "int")
def isiF (T : String) : F1 := fun d h => (tyName d h).map fun a => (.bl (isiB a T), h)
theorem kits (a T : String) (ha : a ∈ ["NoneType", "bool", "int", "str", "tuple", "list", "dict"]) (hT : T ∈ ["bool", "int", "str", "tuple", "list", "dict"]) : kitB a T = some (isiB a T) := by
  have h : (["NoneType", "bool", "int", "str", "tuple", "list", "dict"].all fun a => ["bool", "int", "str", "tuple", "list", "dict"].all fun T => decide (kitB a T = some (isiB a T))) = true := by decide +kernel
  exact of_decide_eq_true (List.all_eq_true.mp (List.all_eq_true.mp h a ha) T hT)
theorem ty_of {K : PySem.W.Frag} {io : List Addr} {h : VH} {H : Hp} (r : RepH K io h H) {d : D} {v : V} {a : String} (hv : RV K io H d v) (e : tyName d h = some a) : TyX K H v (.type a) ∧ a ∈ ["NoneType", "bool", "int", "str", "tuple", "list", "dict"] := by
  cases hv with
  | non => cases e; exact ⟨.base .non, by simp⟩
  | bl b => cases e; exact ⟨.base (.bl b), by simp⟩
  | int i => cases e; exact ⟨.base (.int i), by simp⟩
  | str s _ => cases e; exact ⟨.base (.str s), by simp⟩
  | tup h1 h2 =>
    cases e
    refine ⟨?_, by simp⟩
    rcases h1 with h1 | ⟨o, its, n, hk, hc, _⟩
    · exact .base (.tup h1)
    · exact .kTuple hk hc
  | lst h1 _ => cases e; exact ⟨.base (.frz h1), by simp⟩
  | scr h1 =>
    cases e
    refine ⟨?_, by simp⟩
    rcases h1 with ⟨o, h1⟩ | ⟨o, its, n, hk, hc, _⟩
    · exact .base (.frz h1)
    · exact .kList hk hc
  | loc ha =>
    rename_i k a'
    unfold tyName at e
    dsimp only at e
    split at e
    · rename_i q
      cases e
      obtain ⟨xs, e1, _⟩ := r.lst ha q
      exact ⟨.base (.lst e1), by simp⟩
    · rename_i q
      cases e
      obtain ⟨ho, e1, xs, rfl, e2⟩ := r.ob _ _ _ q ha
      exact ⟨.base (.dK e1), by simp⟩
    · rename_i q
      cases e
      obtain ⟨ho, e1, xs, rfl, e2⟩ := r.ob _ _ _ q ha
      exact ⟨.base (.dT e1), by simp⟩
    · cases e
theorem se_isi {T : String} {x : Str} {e : Expr} {A : Ex} {p p2 pos : Pos} (hT : T ∈ ["bool", "int", "str", "tuple", "list", "dict"]) (hg : Gl X "isinstance") (hm : X.mg "isinstance" = none) (hg2 : Gl X x) (hm2 : X.mg x = none) (hv2 : bootBuiltins x = some (.type T)) (ha : SE X W e A)
    (hn2 : x ≠ "__name__" := by decide) (hdb2 : (x == ("__debug__" : Str)) = false := by decide)
    (hs0 : starEach [.Name x p2] X.env = (false, eval (.Name x p2) X.env) :: starEach [] X.env := by rfl)
    (hs : starEach (e :: [.Name x p2]) X.env = (false, eval e X.env) :: starEach [.Name x p2] X.env := by rfl) (hst : ((backTo pos (starEach [.Name x p2] X.env)).any fun x => x.fst) = false := by rfl) :
    SE X W (.Call (.Name "isinstance" p) [e, .Name x p2] [] pos) (eUn (isiF T) A) := by
  refine pe_imp (pe_callB call_isi hg hm (by decide +kernel) (pa_cons ha (pa_cons (pe_bltn hg2 hm2 hv2 (v := .ty T) rfl hn2 hdb2) pa_nil hs0) hs) (by decide) (by decide) hs hst) fun sg H Q h => ?_
  refine one (r := fun x H1 Q => rIsi X.K [x, .ty T] H1 Q) (fun io h H x v Q d h' r hx e p => ?_) h
  unfold isiF at e
  cases q : tyName x h with
  | none => rw [q] at e; cases e
  | some a =>
    rw [q] at e
    cases e
    obtain ⟨t1, t2⟩ := ty_of r hx q
    exact ⟨v, .ty T, _, _, _, rfl, .ty T, t1, kit_ty (kits a T t2 hT), p.here r (.bl _)⟩
end
end Mv

namespace Mv
open PySem L2

/-! ### targets -/
inductive Tg where
  | nm (i : Nat)
  | tp (is : List Nat)
  | tq (i : Nat) (is : List Nat)
def putAll : List Nat → List D → Env → Option Env
  | [], [], rho => some rho
  | i :: is, d :: ds, rho => putAll is ds (rho.set i (some d))
  | _, _, _ => none
def Tg.put : Tg → D → Env → Option Env
  | .nm i, d, rho => some (rho.set i (some d))
  | .tp is, .tup ds, rho => putAll is ds rho
  | .tq i is, .tup [x, .tup ds], rho => putAll is ds (rho.set i (some x))
  | _, _, _ => none
def Tg.slots : Tg → List Nat
  | .nm i => [i]
  | .tp is => is
  | .tq i is => i :: is
def gNs : List Nat → TGs
  | [] => gNil
  | i :: is => gCons (gName i) (gNs is)
def gT (K : PySem.W.Frag) : Tg → TG
  | .nm i => gName i
  | .tp is => gTup K is.length (gNs is)
  | .tq i is => gTup K 2 (gCons (gName i) (gCons (gTup K is.length (gNs is)) gNil))
def SG (X : Cx) (tg : Expr) (t : Tg) : Prop := PG X tg (gT X.K t)
theorem wipe_set {v : V} {i : Nat} : ∀ (vs : List Nat) (sg : L2.St), i ∈ vs → wipe (sg.set i (some v)) vs = wipe sg vs
  | [], _, h => nomatch h
  | w :: ws, sg, h => by
    show (wipe (sg.set i (some v)) ws).set w none = (wipe sg ws).set w none
    by_cases hw : i ∈ ws
    · rw [wipe_set ws sg hw]
    · have e : i = w := (List.mem_cons.mp h).resolve_right hw
      subst e
      have aux : ∀ (us : List Nat) (s2 : L2.St), (wipe (s2.set i (some v)) us).set i none = (wipe s2 us).set i none := by
        intro us
        induction us with
        | nil => intro s2; show (s2.set i (some v)).set i none = s2.set i none; rw [List.set_set]
        | cons u us ih =>
          intro s2
          show ((wipe (s2.set i (some v)) us).set u none).set i none = ((wipe s2 us).set u none).set i none
          by_cases hu : u = i
          · subst hu
            rw [List.set_set, List.set_set]
            exact ih s2
          · rw [List.set_comm _ _ hu, ih s2, List.set_comm _ _ (Ne.symm hu)]
      exact aux ws sg
section
variable {K : PySem.W.Frag} {io : List Addr} {H : Hp}
theorem gNs_put : ∀ (is : List Nat) (ds : List D) (vs : List V) (rho rho' : Env) (sg : L2.St) (Q : L2.St → Hp → Prop), RepE K io H rho sg → RVs K io H ds vs → putAll is ds rho = some rho' →
    (∀ sg', RepE K io H rho' sg' → (∀ ws : List Nat, (∀ i ∈ is, i ∈ ws) → wipe sg' ws = wipe sg ws) → Q sg' H) → gNs is vs sg H Q
  | [], [], _, rho, rho', sg, Q, r, hv, e, k => by
    cases hv
    cases e
    exact ⟨rfl, k sg r fun _ _ => rfl⟩
  | [], _ :: _, _, _, _, _, _, _, _, e, _ => by cases e
  | _ :: _, [], _, _, _, _, _, _, _, e, _ => by cases e
  | i :: is, d :: ds, _, rho, rho', sg, Q, r, hv, e, k => by
    cases hv with
    | cons h1 h2 =>
      refine ⟨_, _, rfl, ?_⟩
      refine gNs_put is ds _ (rho.set i (some d)) rho' _ Q (r.set i h1) h2 e fun sg' r' w => k sg' r' fun ws hw => ?_
      rw [w ws fun j hj => hw j (List.mem_cons_of_mem _ hj), wipe_set ws sg (hw i (List.mem_cons_self ..))]
theorem putAll_len : ∀ {is : List Nat} {ds : List D} {rho rho' : Env}, putAll is ds rho = some rho' → ds.length = is.length
  | [], [], _, _, _ => rfl
  | [], _ :: _, _, _, e => by cases e
  | _ :: _, [], _, _, e => by cases e
  | _ :: is, _ :: ds, _, _, e => by simp [putAll_len (is := is) (ds := ds) e]
theorem gT_put {t : Tg} {d : D} {v : V} {rho rho' : Env} {sg : L2.St} {Q : L2.St → Hp → Prop} (r : RepE K io H rho sg) (hv : RV K io H d v) (e : t.put d rho = some rho')
    (k : ∀ sg', RepE K io H rho' sg' → (∀ ws : List Nat, (∀ i ∈ t.slots, i ∈ ws) → wipe sg' ws = wipe sg ws) → Q sg' H) : gT K t v sg H Q := by
  cases t with
  | nm i =>
    cases e
    exact k _ (r.set i hv) fun ws hw => wipe_set ws sg (hw i (by simp [Tg.slots]))
  | tp is =>
    cases hv with
    | tup h1 h2 =>
      have e' : putAll is _ rho = some rho' := e
      exact ⟨_, _, rfl, h1, by rw [← h2.length]; exact putAll_len e', gNs_put is _ _ rho rho' sg Q r h2 e' k⟩
    | _ => cases e
  | tq i is =>
    have aux : ∀ (ds : List D) (xs : List V), RVs K io H ds xs → (Tg.tq i is).put (.tup ds) rho = some rho' → ∃ x v1 es a2 ws, xs = [v1, .ref a2] ∧ ds = [x, .tup es] ∧ RV K io H x v1 ∧ SqT K H a2 ws ∧ RVs K io H es ws ∧ putAll is es (rho.set i (some x)) = some rho' := by
      intro ds xs hd e
      cases hd with
      | nil => cases e
      | cons w1 w2 =>
        cases w2 with
        | nil => cases e
        | cons w3 w4 =>
          cases w4 with
          | cons _ _ =>
            simp only [Tg.put] at e
            cases e
          | nil =>
            cases w3 with
            | tup s1 s2 => exact ⟨_, _, _, _, _, rfl, rfl, w1, s1, s2, e⟩
            | _ => cases e
    cases hv with
    | tup h1 h2 =>
      obtain ⟨x, v1, es, a2, ws2, rfl, rfl, w1, s1, s2, e'⟩ := aux _ _ h2 e
      refine ⟨_, _, rfl, h1.t, rfl, _, _, rfl, _, _, rfl, _, _, rfl, s1, by rw [← s2.length]; exact putAll_len e', ?_⟩
      refine gNs_put is es _ (rho.set i (some x)) rho' _ _ (r.set i w1) s2 e' fun sg' r' w => ⟨rfl, k sg' r' fun ws hw => ?_⟩
      rw [w ws fun j hj => hw j (by simp [Tg.slots, hj]), wipe_set ws sg (hw i (by simp [Tg.slots]))]
    | _ => cases e
end

/-! ### what is walked -/
/-- what must stand as it was while it is walked -/
abbrev Ck := List (Nat × List D)
abbrev Im := Env → VH → R (List D × Ck)
def ckOk (ck : Ck) (xs : List D) (h : VH) : Bool := ck.all fun p => match h[p.1]? with
  | some (.lst ys) => D.eqbs ys p.2
  | _ => false
theorem ck_get {ck : Ck} {xs : List D} {h : VH} (c : ckOk ck xs h = true) {n : Nat} {ds : List D} (hm : (n, ds) ∈ ck) : h[n]? = some (.lst ds) := by
  have c' := List.all_eq_true.mp c (n, ds) hm
  dsimp only at c'
  cases q : h[n]? with
  | none => rw [q] at c'; cases c'
  | some o =>
    rw [q] at c'
    cases o with
    | lst ys => rw [D.eqbs_eq ys ds c']
    | _ => cases c'
theorem ck_of {ck : Ck} {xs : List D} {h : VH} (c : ∀ n ds, (n, ds) ∈ ck → h[n]? = some (.lst ds)) : ckOk ck xs h = true := by
  refine List.all_eq_true.mpr fun ⟨n, ds⟩ hm => ?_
  simp only [c n ds hm]
  exact D.eqbs_refl ds
structure ItOk (K : PySem.W.Frag) (J : It) (xs : List D) (ck : Ck) (io : List Addr) (H : Hp) : Prop where
  go : ∀ (i : Nat) (d : D) (io1 : List Addr) (h1 : VH) (H1 : Hp), Ext0 io H io1 H1 → RepH K io1 h1 H1 → ckOk ck xs h1 = true → xs[i]? = some d → J.go i H1 ∧ ∀ x H', J.yld i H1 x H' → Ext io1 H1 io1 H' ∧ RepH K io1 h1 H' ∧ RV K io1 H' d x
  stop : ∀ (i : Nat) (io1 : List Addr) (h1 : VH) (H1 : Hp), Ext0 io H io1 H1 → RepH K io1 h1 H1 → ckOk ck xs h1 = true → xs.length ≤ i → J.stop i H1
def tI (K : PySem.W.Frag) (W : WX) (m : Im) : TI := fun sg H R => ∃ io h rho, RepH K io h H ∧ RepE K io H rho sg ∧
  Aft (m rho h) (fun p h' => ∀ io' H' J, Ext io H io' H' → RepH K io' h' H' → ItOk K J p.1 p.2 io' H' → R J H') (Zx K W io H sg)
def SI (X : Cx) (W : WX) (tg iter : Expr) (m : Im) : Prop := PI X tg iter (tI X.K W m)
section
variable {K : PySem.W.Frag} {io : List Addr} {H : Hp}
theorem it_sq {a : Addr} {ds : List D} {ck : Ck} (h : ∀ io1 h1 H1, Ext0 io H io1 H1 → RepH K io1 h1 H1 → ckOk ck ds h1 = true → ∃ vs, SqL K H1 a vs ∧ RVs K io1 H1 ds vs) : ItOk K (Itl K a) ds ck io H where
  go := fun i d io1 h1 H1 e R c hd => by
    obtain ⟨vs, s1, v1⟩ := h io1 h1 H1 e R c
    obtain ⟨x, hx, rx⟩ := v1.get hd
    refine ⟨⟨vs, x, s1, hx⟩, fun y H' hy => ?_⟩
    obtain ⟨rfl, q⟩ := hy
    have := q vs s1
    rw [hx] at this
    cases this
    exact ⟨Ext.refl _ _, R, rx⟩
  stop := fun i io1 h1 H1 e R c hd => by
    obtain ⟨vs, s1, v1⟩ := h io1 h1 H1 e R c
    exact ⟨vs, s1, by rw [← v1.length]; exact hd⟩
theorem it_tup {a : Addr} {ds : List D} {vs : List V} (s : SqT K H a vs) (v : RVs K io H ds vs) : ItOk K (Itt K a) ds [] io H where
  go := fun i d io1 h1 H1 e R c hd => by
    obtain ⟨x, hx, rx⟩ := v.get hd
    refine ⟨⟨vs, x, e.rdT s, hx⟩, fun y H' hy => ?_⟩
    obtain ⟨rfl, q⟩ := hy
    have := q vs (e.rdT s)
    rw [hx] at this
    cases this
    exact ⟨Ext.refl _ _, R, RV.mono e _ _ rx⟩
  stop := fun i io1 h1 H1 e R c hd => ⟨vs, e.rdT s, by rw [← v.length]; exact hd⟩
theorem it_str {s : Str} (hs : sOk s) : ItOk K (Its s) (s.cps.toList.map fun c => .str (chr1 c)) [] io H where
  go := fun i d io1 h1 H1 e R c hd => by
    rw [List.getElem?_map] at hd
    cases q : s.cps.toList[i]? with
    | none => rw [q] at hd; cases hd
    | some c =>
      rw [q] at hd
      cases hd
      have hi := (List.getElem?_eq_some_iff.mp q).1
      refine ⟨show i < s.cps.size by simpa using hi, fun y H' hy => ?_⟩
      obtain ⟨rfl, c', hc, rfl⟩ := hy
      have e2 : c' = c := by
        have : s.cps.toList[i]? = some c' := by simpa using hc
        rw [q] at this
        cases this
        rfl
      subst e2
      exact ⟨Ext.refl _ _, R, .str _ (sok_chr hs (List.mem_of_getElem? q))⟩
  stop := fun i io1 h1 H1 e R c hd => show s.cps.size ≤ i by simpa using hd
theorem it_rng (lo : Int) (n : Nat) : ItOk K (Itr lo n) ((List.range n).map fun i => .int (lo + (i : Nat))) [] io H where
  go := fun i d io1 h1 H1 e R c hd => by
    rw [List.getElem?_map] at hd
    cases q : (List.range n)[i]? with
    | none => rw [q] at hd; cases hd
    | some j =>
      rw [q] at hd
      cases hd
      obtain ⟨hi, hj⟩ := List.getElem?_eq_some_iff.mp q
      have hi' : i < n := by simpa using hi
      have hj' : j = i := by simpa using hj.symm
      subst hj'
      refine ⟨hi', fun y H' hy => ?_⟩
      obtain ⟨rfl, rfl⟩ := hy
      exact ⟨Ext.refl _ _, R, .int _⟩
  stop := fun i io1 h1 H1 e R c hd => by
    have : n ≤ i := by simpa using hd
    exact this
end
def itD (d : D) (h : VH) : Option (List D × Ck) := match d with
  | .tup ds => some (ds, [])
  | .lst ds => some (ds, [])
  | .scr ns => some (ns.map .int, [])
  | .str s => some (s.cps.toList.map fun c => .str (chr1 c), [])
  | .loc n => match h[n]? with
    | some (.lst ds) => some (ds, [(n, ds)])
    | _ => none
  | _ => none
def iSeq (A : Ex) : Im := fun rho h => (A rho h).bind fun d h1 => match itD d h1 with
  | some p => .ok p h1
  | none => .bad
section
variable {X : Cx} {W : WX}
theorem si_seq {tg e : Expr} {A : Ex} (ha : SE X W e A) : SI X W tg e (iSeq A) := by
  refine ⟨fun pins s sg H R I hw => ?_⟩
  obtain ⟨io, h, rho, hR, hE, hA⟩ := hw
  have hA' := Aft.bind hA
  cases q : A rho h with
  | bad => rw [q] at hA'; exact hA'.elim
  | exc x h1 =>
    rw [q] at hA'
    refine (pi_list (tg := tg) ha).run pins s sg H R I ⟨io, h, rho, hR, hE, ?_⟩
    rw [q]
    exact hA'
  | ok d h1 =>
    rw [q] at hA'
    have hA2 : Aft (match itD d h1 with | some p => Mv.R.ok p h1 | none => Mv.R.bad) (fun (p : List D × Ck) h' => ∀ io' H' J, Ext io H io' H' → RepH X.K io' h' H' → ItOk X.K J p.1 p.2 io' H' → R J H') (Zx X.K W io H sg) := hA'
    cases q2 : itD d h1 with
    | none => rw [q2] at hA2; exact hA2.elim
    | some p =>
      rw [q2] at hA2
      have hA3 : ∀ io' H' J, Ext io H io' H' → RepH X.K io' h1 H' → ItOk X.K J p.1 p.2 io' H' → R J H' := hA2
      cases d with
      | tup ds =>
        cases q2
        refine (pi_tup (tg := tg) ha).run pins s sg H R I ⟨io, h, rho, hR, hE, ?_⟩
        rw [q]
        intro io1 H1 v e1 R1 v1
        cases v1 with
        | tup s1 w1 => exact ⟨_, rfl, ⟨_, s1.t⟩, hA3 io1 H1 _ e1 R1 (it_tup s1 w1)⟩
      | lst ds =>
        cases q2
        refine (pi_list (tg := tg) ha).run pins s sg H R I ⟨io, h, rho, hR, hE, ?_⟩
        rw [q]
        intro io1 H1 v e1 R1 v1
        cases v1 with
        | lst s1 w1 => exact ⟨_, rfl, ⟨_, .inl (.inr ⟨_, s1⟩)⟩, hA3 io1 H1 _ e1 R1 (it_sq fun io2 h2 H2 e2 R2 c => ⟨_, .inl (.inr ⟨_, e2.frzs _ _ _ s1⟩), RVs.mono e2 _ _ w1⟩)⟩
      | scr ns =>
        cases q2
        refine (pi_list (tg := tg) ha).run pins s sg H R I ⟨io, h, rho, hR, hE, ?_⟩
        rw [q]
        intro io1 H1 v e1 R1 v1
        cases v1 with
        | scr s1 => exact ⟨_, rfl, ⟨_, s1.sq⟩, hA3 io1 H1 _ e1 R1 (it_sq fun io2 h2 H2 e2 R2 c => ⟨_, (s1.mono e2).sq, RVs.ofInts _⟩)⟩
      | str z =>
        cases q2
        refine (pi_str (tg := tg) ha).run pins s sg H R I ⟨io, h, rho, hR, hE, ?_⟩
        rw [q]
        intro io1 H1 v e1 R1 v1
        cases v1 with
        | str _ hs => exact ⟨_, rfl, hA3 io1 H1 _ e1 R1 (it_str hs)⟩
      | loc n =>
        have q3 : (match h1[n]? with | some (.lst ds) => some (ds, [(n, ds)]) | _ => none) = some p := q2
        cases q4 : h1[n]? with
        | none => rw [q4] at q3; cases q3
        | some o =>
          rw [q4] at q3
          cases o with
          | lst ds =>
            cases q3
            refine (pi_list (tg := tg) ha).run pins s sg H R I ⟨io, h, rho, hR, hE, ?_⟩
            rw [q]
            intro io1 H1 v e1 R1 v1
            cases v1 with
            | loc hn =>
              obtain ⟨xs, e5, e6⟩ := R1.lst hn q4
              refine ⟨_, rfl, ⟨_, SqL.of e5⟩, hA3 io1 H1 _ e1 R1 (it_sq fun io2 h2 H2 e2 R2 c => ?_)⟩
              have q6 := ck_get c (n := n) (ds := ds) (by simp)
              obtain ⟨xs2, e7, e8⟩ := R2.lst (e2.get hn) q6
              exact ⟨xs2, SqL.of e7, e8⟩
          | _ => cases q3
      | _ => cases q2
def iRng1 (B : Ar) : Im := fun rho h => (B rho h).bind fun ds h1 => match ds with
  | [.int j] => if -(2 ^ 62) ≤ j ∧ j < 2 ^ 62 then .ok ((List.range j.toNat).map fun i => .int (0 + (i : Nat)), []) h1 else .bad
  | _ => .bad
theorem si_range1 {tg a : Expr} {B : Ar} {p pos : Pos} (hg : Gl X "range") (hm : X.mg "range" = none) (ha : SA X W [a] B) (hs : starEach [a] X.env = [(false, eval a X.env)] := by rfl) : SI X W tg (.Call (.Name "range" p) [a] [] pos) (iRng1 B) := by
  refine ⟨fun pins s sg H R I ⟨io, h, rho, hR, hE, hA⟩ => ?_⟩
  refine (pi_range1 (tg := tg) hg hm ha hs).run pins s sg H R I ?_
  refine ⟨io, h, rho, hR, hE, (Aft.bind hA).mono (fun ds h1 hx io1 H1 vs e1 R1 v1 => ?_) fun _ _ z => z⟩
  split at hx
  · rename_i j
    obtain ⟨v, rfl, v2⟩ := v1.one
    cases v2
    split at hx
    · rename_i hj
      exact ⟨j, rfl, hj.1, hj.2, hx io1 H1 _ e1 R1 (it_rng 0 j.toNat)⟩
    · exact hx.elim
  · exact hx.elim
def iRng2 (B : Ar) : Im := fun rho h => (B rho h).bind fun ds h1 => match ds with
  | [.int i, .int j] => if -(2 ^ 62) ≤ i ∧ i < 2 ^ 62 ∧ -(2 ^ 62) ≤ j ∧ j < 2 ^ 62 then .ok ((List.range (j - i).toNat).map fun k => .int (i + (k : Nat)), []) h1 else .bad
  | _ => .bad
theorem si_range2 {tg a b : Expr} {B : Ar} {p pos : Pos} (hg : Gl X "range") (hm : X.mg "range" = none) (ha : SA X W [a, b] B) (hs : starEach [a, b] X.env = [(false, eval a X.env), (false, eval b X.env)] := by rfl) (hs2 : starEach [b] X.env = [(false, eval b X.env)] := by rfl) : SI X W tg (.Call (.Name "range" p) [a, b] [] pos) (iRng2 B) := by
  refine ⟨fun pins s sg H R I ⟨io, h, rho, hR, hE, hA⟩ => ?_⟩
  refine (pi_range2 (tg := tg) hg hm ha hs hs2).run pins s sg H R I ?_
  refine ⟨io, h, rho, hR, hE, (Aft.bind hA).mono (fun ds h1 hx io1 H1 vs e1 R1 v1 => ?_) fun _ _ z => z⟩
  split at hx
  · rename_i i j
    obtain ⟨v, u, rfl, v2, v3⟩ := v1.two
    cases v2
    cases v3
    split at hx
    · rename_i hj
      exact ⟨i, j, rfl, hj, hx io1 H1 _ e1 R1 (it_rng i (j - i).toNat)⟩
    · exact hx.elim
  · exact hx.elim

/-! ### comprehensions -/
abbrev W0 : WX := fun _ _ _ _ => False
def noX {α : Type} : R α → R α
  | .exc _ _ => .bad
  | r => r
theorem Aft.noX {α : Type} {r : R α} {P : α → VH → Prop} {Z Z' : Xc → VH → Prop} (h : Aft (noX r) P Z) : Aft r P Z' := by
  cases r with
  | ok a k => exact h
  | exc x k => exact h.elim
  | bad => exact h.elim
def lcL (t : Tg) (tt : Ts) (el : Ex) (ck : Ck) (all : List D) : List D → Env → VH → R (List D)
  | [], _, h => if ckOk ck all h = true then .ok [] h else .bad
  | x :: xs, rho, h => if ckOk ck all h = true then match t.put x rho with
      | none => .bad
      | some rho1 => (noX (tt rho1 h)).bind fun b h1 => if b = true then (noX (el rho1 h1)).bind fun y h2 => (lcL t tt el ck all xs rho h2).bind fun ys h3 => .ok (y :: ys) h3 else lcL t tt el ck all xs rho h1
    else .bad
theorem noX_ne {α : Type} {r : R α} {x : Xc} {k : VH} : noX r ≠ .exc x k := by
  cases r <;> (intro e; cases e)
theorem lcL_ne {t : Tg} {tt : Ts} {el : Ex} {ck : Ck} {all : List D} : ∀ (xs : List D) (r0 : Env) (k : VH) (x : Xc) (k' : VH), lcL t tt el ck all xs r0 k ≠ .exc x k'
  | [], r0, k, x, k', e => by
    unfold lcL at e
    split at e <;> cases e
  | y :: ys, r0, k, x, k', e => by
    unfold lcL at e
    split at e
    · cases hp : t.put y r0 with
      | none => rw [hp] at e; cases e
      | some rho1 =>
        rw [hp] at e
        cases q1 : noX (tt rho1 k) with
        | bad => simp only [q1, R.bind_bad] at e; cases e
        | exc _ _ => exact noX_ne q1
        | ok b k1 =>
          simp only [q1, R.bind_ok] at e
          cases b with
          | false => exact lcL_ne ys r0 k1 x k' (by simpa using e)
          | true =>
            simp only [if_true] at e
            cases q2 : noX (el rho1 k1) with
            | bad => simp only [q2, R.bind_bad] at e; cases e
            | exc _ _ => exact noX_ne q2
            | ok z k2 =>
              simp only [q2, R.bind_ok] at e
              cases q3 : lcL t tt el ck all ys r0 k2 with
              | bad => simp only [q3, R.bind_bad] at e; cases e
              | exc x2 k3 => exact lcL_ne ys r0 k2 x2 k3 q3
              | ok _ _ => simp only [q3, R.bind_ok] at e; cases e
    · cases e
def wipeE (rho : Env) : List Nat → Env
  | [] => rho
  | v :: vs => (wipeE rho vs).set v none
theorem RepE.wipe {K : PySem.W.Frag} {io : List Addr} {H : Hp} {rho : Env} {sg : L2.St} (r : RepE K io H rho sg) : ∀ vs : List Nat, RepE K io H (wipeE rho vs) (L2.wipe sg vs)
  | [] => r
  | v :: vs => (r.wipe vs).wipe1 v
def eLc (im : Im) (t : Tg) (tt : Ts) (el : Ex) (ws : List Nat) : Ex := fun rho h => (im rho h).bind fun p h1 => if p.1.length ≤ sizeLine then (lcL t tt el p.2 p.1 p.1 (wipeE rho ws) h1).bind fun ys h2 => .ok (.lst ys) h2 else .bad
def tYs : Ts := fun _ h => .ok true h
abbrev SEb (X : Cx) (scope : Scope) (e : Expr) (m : Ex) : Prop := ∀ (s : Shared) (H : Hp) (C : Addr) (cl : List (Str × Addr)) (fp : List Addr), SE (X.blk s H scope (compEnvC scope cl C X.env) fp) W0 e m
abbrev STb (X : Cx) (scope : Scope) (e : Expr) (m : Ts) : Prop := ∀ (s : Shared) (H : Hp) (C : Addr) (cl : List (Str × Addr)) (fp : List Addr), ST (X.blk s H scope (compEnvC scope cl C X.env) fp) W0 e m
def STs (X : Cx) (W : WX) (ifs : List Expr) (m : Ts) : Prop := PTs X ifs (tT X.K W m)
theorem pts_imp {X : Cx} {e : List Expr} {t t' : TT} (p : PTs X e t) (h : ∀ sg H Q, t' sg H Q → t sg H Q) : PTs X e t' := ⟨fun pins s sg H Q I q => p.run pins s sg H Q I (h sg H Q q)⟩
theorem sts_nil : STs X W [] tYs := pts_imp pts_nil fun sg H Q ⟨io, h, rho, hR, hE, hA⟩ => hA io H (Ext.refl _ _) hR
theorem sts_one {c : Expr} {T : Ts} (h : ST X W c T) : STs X W [c] T := pts_one h
/-- the list of a comprehension, before it is a value -/
def lLc (im : Im) (t : Tg) (tt : Ts) (el : Ex) (ws : List Nat) : Ar := fun rho h => (im rho h).bind fun p h1 => if p.1.length ≤ sizeLine then lcL t tt el p.2 p.1 p.1 (wipeE rho ws) h1 else .bad
/-- what is known at a comprehension's end -/
structure LcEnd (K : PySem.W.Frag) (io : List Addr) (H : Hp) (io1 : List Addr) (H1 : Hp) (io2 : List Addr) (h2 : VH) (Hc : Hp) (Dd : Addr) (ds : List D) (vs : List V) : Prop where
  e1 : Ext io H io1 H1
  new : H1 Dd = none
  e2 : Ext0 io1 H1 io2 Hc
  same : ∀ a o, a ∉ io1 → a ≠ Dd → H1 a = some o → Hc a = some o
  rep : RepH K io2 h2 Hc
  at_ : Hc Dd = some (.lst vs)
  out : Dd ∉ io2
  val : RVs K io2 Hc ds vs
theorem lc_toG {K : PySem.W.Frag} {im : Im} {t : Tg} {tt : Ts} {el : Ex} {ws : List Nat} {sg : L2.St} {H : Hp} {Q' : VK} (hsl : ∀ i ∈ t.slots, i ∈ ws) (hw : ∃ (io : List Addr) (h : VH) (rho : Env) (F : List D → VH → Prop), RepH K io h H ∧ RepE K io H rho sg ∧ (∀ io1 H1 io2 h2 Hc Dd ds vs, LcEnd K io H io1 H1 io2 h2 Hc Dd ds vs → F ds h2 → Q' (.ref Dd) Hc) ∧ Aft (lLc im t tt el ws rho h) F (Zx K W io H sg)) :
    tLc (tI K W im) (gT K t) (tT K W0 tt) (tE K W0 el) ws sg H Q' := by
  obtain ⟨io, h, rho, F, hR, hE, hF, hA⟩ := hw
  refine ⟨io, h, rho, hR, hE, (Aft.bind hA).mono (fun p h1 hx io1 H1 J e1 R1 hJ => ?_) fun _ _ z => z⟩
  by_cases hl : p.1.length ≤ sizeLine
  · rw [if_pos hl] at hx
    have hx2 := hx
    intro Dd hD
    -- the invariant
    refine ⟨fun i m Hc => ∃ io2 h2 acc vs, Ext0 io1 H1 io2 Hc ∧ (∀ a o, a ∉ io1 → a ≠ Dd → H1 a = some o → Hc a = some o) ∧ RepH K io2 h2 Hc ∧ Hc Dd = some (.lst vs) ∧ Dd ∉ io2 ∧ RVs K io2 Hc acc vs ∧ acc.length + (p.1.length - i) ≤ sizeLine ∧ m = p.1.length - i ∧
      Aft (lcL t tt el p.2 p.1 (p.1.drop i) (wipeE rho (ws)) h2) (fun ys h' => F (acc ++ ys) h') (fun _ _ => False) ∧ i ≤ p.1.length, ⟨p.1.length - 0, ?_⟩, ?_⟩
    · refine ⟨io1, h1, [], [], (ext_out R1 hD).toExt0, fun a o _ hne e => by rw [upd_ne hne]; exact e, R1.out hD, upd_same, R1.nin hD, .nil, by simpa using hl, rfl, ?_, Nat.zero_le _⟩
      rw [List.drop_zero]
      cases q : lcL t tt el p.2 p.1 p.1 (wipeE rho (ws)) h1 with
      | bad => rw [q] at hx2; exact hx2.elim
      | exc x k' => exact absurd q (lcL_ne _ _ _ _ _)
      | ok ys k' =>
        rw [q] at hx2
        exact hx2
    · rintro i m Hc ⟨io2, h2, acc, vs, E2, fr2, R2, hDv, hDn, va, hsz, rfl, hA2, hi2⟩
      have E3 : Ext0 io H io2 Hc := e1.toExt0.trans E2
      have hE2 : RepE K io2 Hc (wipeE rho (ws)) (L2.wipe sg (ws)) := (hE.mono E3).wipe _
      by_cases hlt : i < p.1.length
      · obtain ⟨d, hd⟩ : ∃ d, p.1[i]? = some d := ⟨p.1[i], List.getElem?_eq_getElem hlt⟩
        have hdrop : p.1.drop i = d :: p.1.drop (i + 1) := by
          rw [List.drop_eq_getElem_cons hlt]
          have : p.1[i] = d := by
            have := List.getElem?_eq_getElem hlt
            rw [hd] at this
            exact (Option.some.inj this).symm
          rw [this]
        rw [hdrop] at hA2
        unfold lcL at hA2
        split at hA2
        · rename_i hck
          obtain ⟨g1, g2⟩ := hJ.go i d io2 h2 Hc E2 R2 hck hd
          refine .inr ⟨g1, fun H' => ∃ m', m' < p.1.length - i ∧ _, fun H' z => z, fun x H' hy => ?_⟩
          obtain ⟨E4, R4, v4⟩ := g2 x H' hy
          cases hp : t.put d (wipeE rho (ws)) with
          | none => rw [hp] at hA2; exact hA2.elim
          | some rho1 =>
            rw [hp] at hA2
            refine gT_put (hE2.mono E4.toExt0) v4 hp fun sg' r' hw => ⟨?_, ?_⟩
            · rw [hw _ hsl]
              have ww : ∀ (us : List Nat) (s2 : L2.St), L2.wipe (L2.wipe s2 us) us = L2.wipe s2 us := by
                intro us s2
                have aux : ∀ (us vs : List Nat), (∀ u ∈ us, u ∈ vs) → L2.wipe (L2.wipe s2 vs) us = L2.wipe s2 vs := by
                  intro us
                  induction us with
                  | nil => intro vs _; rfl
                  | cons u us ih =>
                    intro vs hs
                    show (L2.wipe (L2.wipe s2 vs) us).set u none = _
                    rw [ih vs fun w hw => hs w (List.mem_cons_of_mem _ hw)]
                    have hu := hs u (List.mem_cons_self ..)
                    have aux2 : ∀ (vs : List Nat), u ∈ vs → (L2.wipe s2 vs).set u none = L2.wipe s2 vs := by
                      intro vs
                      induction vs with
                      | nil => intro h; exact nomatch h
                      | cons w ws ih2 =>
                        intro h
                        show ((L2.wipe s2 ws).set w none).set u none = (L2.wipe s2 ws).set w none
                        by_cases hwu : w = u
                        · subst hwu; rw [List.set_set]
                        · rw [List.set_comm _ _ hwu, ih2 ((List.mem_cons.mp h).resolve_left (Ne.symm hwu))]
                    exact aux2 vs hu
                exact aux us us fun _ h => h
              exact ww _ _
            · have hA3 := (Aft.bind hA2)
              refine ⟨io2, h2, rho1, R4, r', (Aft.noX (Z' := fun _ _ => False) hA3).mono (fun b h3 hb io5 H5 E5 R5 => ?_) fun _ _ z => z.elim⟩
              -- what stays true through this turn's evaluations
              have frD : ∀ (io6 : List Addr) (H6 : Hp), Ext io2 H' io6 H6 → (∀ a o, a ∉ io1 → a ≠ Dd → H1 a = some o → H6 a = some o) ∧ H6 Dd = some (.lst vs) ∧ Dd ∉ io6 := by
                intro io6 H6 E6
                have E46 := E4.trans E6
                refine ⟨fun a o ha hne e => ?_, E46.fr Dd _ hDn hDv, E46.nin hDn hDv⟩
                exact E46.fr a o (E2.nin ha e) (fr2 a o ha hne e)
              cases b with
              | true =>
                rw [if_pos rfl] at hb
                show (if true = true then _ else _)
                rw [if_pos rfl]
                refine ⟨io5, h3, rho1, R5, r'.mono E5.toExt0, (Aft.noX (Z' := fun _ _ => False) (Aft.bind hb)).mono (fun y h4 hyy io6 H6 w E6 R6 v6 => ?_) fun _ _ z => z.elim⟩
                have E56 := E5.trans E6
                obtain ⟨f1, f2, f3⟩ := frD io6 H6 E56
                have lv : vs.length = acc.length := va.length.symm
                refine ⟨vs, f2, by omega, ?_⟩
                have E7 : Ext0 io6 H6 io6 (upd H6 Dd (.lst (vs ++ [w]))) := ⟨⟨[], by simp, fun _ z => nomatch z⟩, fun a xs e => by
                    rw [upd_ne (fun z => by subst z; rw [f2] at e; cases e)]; exact e, fun a od u e => by
                    rw [upd_ne (fun z => by subst z; rw [f2] at e; cases e)]; exact e, fun a o e => by
                    by_cases ha : a = Dd
                    · subst ha; exact ⟨_, upd_same⟩
                    · exact ⟨o, by rw [upd_ne ha]; exact e⟩⟩
                have E27 : Ext0 io2 Hc io6 H6 := (E4.trans E56).toExt0
                refine ⟨p.1.length - (i + 1), by omega, io6, h4, acc ++ [y], vs ++ [w], (E2.trans E27).trans E7, fun a o ha hne e => ?_, ?_, upd_same, f3, ?_, ?_, rfl, ?_, hlt⟩
                · rw [upd_ne hne]; exact f1 a o ha hne e
                · exact ⟨R6.len, R6.nd, fun n ob a q1 q2 => by
                    obtain ⟨hb, e3, q3⟩ := R6.ob n ob a q1 q2
                    have hne : a ≠ Dd := fun z => f3 (z ▸ List.mem_of_getElem? q2)
                    exact ⟨hb, by rw [upd_ne hne]; exact e3, q3.mono E7⟩⟩
                · exact (RVs.mono (E27.trans E7) _ _ va).append (.cons (RV.mono E7 _ _ v6) .nil)
                · rw [List.length_append]
                  simp only [List.length_cons, List.length_nil]
                  omega
                · have hz := Aft.bind hyy
                  refine hz.mono (fun ys k hk => ?_) fun _ _ z => z
                  rw [List.append_assoc]
                  exact hk
              | false =>
                rw [if_neg Bool.false_ne_true] at hb
                show (if false = true then _ else _)
                rw [if_neg Bool.false_ne_true]
                obtain ⟨f1, f2, f3⟩ := frD io5 H5 E5
                have E27 : Ext0 io2 Hc io5 H5 := (E4.trans E5).toExt0
                exact ⟨p.1.length - (i + 1), by omega, io5, h3, acc, vs, E2.trans E27, f1, R5, f2, f3, RVs.mono E27 _ _ va, by omega, rfl, hb, hlt⟩
        · exact hA2.elim
      · have hie : i = p.1.length := by omega
        subst hie
        rw [List.drop_length] at hA2
        unfold lcL at hA2
        split at hA2
        · rename_i hck
          have hA4 : F (acc ++ []) h2 := hA2
          rw [List.append_nil] at hA4
          exact .inl ⟨hJ.stop _ io2 h2 Hc E2 R2 hck (Nat.le_refl _), hF io1 H1 io2 h2 Hc Dd acc vs ⟨e1, hD, E2, fr2, R2, hDv, hDn, va⟩ hA4⟩
        · exact hA2.elim
  · rw [if_neg hl] at hx
    exact hx.elim
theorem eLc_l (im : Im) (t : Tg) (tt : Ts) (el : Ex) (ws : List Nat) (rho : Env) (h : VH) : eLc im t tt el ws rho h = (lLc im t tt el ws rho h).bind fun ys h2 => .ok (.lst ys) h2 := by
  unfold eLc lLc
  cases im rho h with
  | ok p h1 =>
    simp only [R.bind_ok]
    split <;> rfl
  | exc x k => rfl
  | bad => rfl
theorem lc_to {K : PySem.W.Frag} {im : Im} {t : Tg} {tt : Ts} {el : Ex} {ws : List Nat} {sg : L2.St} {H : Hp} {Q Q' : VK} (hsl : ∀ i ∈ t.slots, i ∈ ws) (hQ : ∀ v H, Fz Q v H → Q' v H) (hw : tE K W (eLc im t tt el ws) sg H Q) :
    tLc (tI K W im) (gT K t) (tT K W0 tt) (tE K W0 el) ws sg H Q' := by
  obtain ⟨io, h, rho, hR, hE, hA⟩ := hw
  rw [eLc_l] at hA
  refine lc_toG hsl ⟨io, h, rho, fun ds k => Pv K io H Q (.lst ds) k, hR, hE, fun io1 H1 io2 h2 Hc Dd ds vs L p => hQ _ _ (.inr ⟨Dd, vs, rfl, L.at_, fun o => ?_⟩), Aft.bind hA⟩
  have hne : ∀ a u, H1 a = some u → a ≠ Dd := fun a u e => ne_of_none e L.new
  have dn : ∀ a u, Hc a = some u → u ≠ .lst vs → a ≠ Dd := fun a u e z y => z (by rw [y, L.at_] at e; exact (Option.some.inj e).symm)
  have E7 : Ext0 io2 Hc io2 (upd Hc Dd (.frz o (.lst vs))) := ⟨⟨[], by simp, fun _ z => nomatch z⟩, fun a xs e => by
      rw [upd_ne (dn a _ e (by intro z; cases z))]; exact e, fun a od u e => by
      rw [upd_ne (dn a _ e (by intro z; cases z))]; exact e, fun a q e => by
      by_cases ha : a = Dd
      · subst ha; exact ⟨_, upd_same⟩
      · exact ⟨q, by rw [upd_ne ha]; exact e⟩⟩
  refine p io2 _ _ (L.e1.trans ⟨L.e2.trans E7, fun a u ha e => ?_⟩) ⟨L.rep.len, L.rep.nd, fun n ob a q1 q2 => ?_⟩ (.lst upd_same (RVs.mono E7 _ _ L.val))
  · rw [upd_ne (hne a u e)]
    exact L.same a u ha (hne a u e) e
  · obtain ⟨hb, e3, q3⟩ := L.rep.ob n ob a q1 q2
    have hmem := List.mem_of_getElem? q2
    exact ⟨hb, by rw [upd_ne (show a ≠ Dd from fun z => L.out (by rw [← z]; exact hmem))]; exact e3, q3.mono E7⟩
/-! one object more beside: what stands is read the same -/
mutual
theorem RV.grow {K : PySem.W.Frag} {io : List Addr} {H : Hp} (p : Addr) : ∀ (d : D) (v : V), RV K io H d v → RV K (io ++ [p]) H d v
  | .non, _, h => by cases h; exact .non
  | .bl _, _, h => by cases h; exact .bl _
  | .int _, _, h => by cases h; exact .int _
  | .str _, _, h => by
    cases h with
    | str _ h => exact .str _ h
  | .loc n, _, h => by
    cases h with
    | loc h => exact .loc (by rw [List.getElem?_append_left (List.getElem?_eq_some_iff.mp h).1]; exact h)
  | .scr _, _, h => by
    cases h with
    | scr h => exact .scr h
  | .tup ds, _, h => by
    cases h with
    | tup h1 h2 => exact .tup h1 (RVs.grow p ds _ h2)
  | .lst ds, _, h => by
    cases h with
    | lst h1 h2 => exact .lst h1 (RVs.grow p ds _ h2)
theorem RVs.grow {K : PySem.W.Frag} {io : List Addr} {H : Hp} (p : Addr) : ∀ (ds : List D) (vs : List V), RVs K io H ds vs → RVs K (io ++ [p]) H ds vs
  | [], _, h => by cases h; exact .nil
  | d :: ds, _, h => by
    cases h with
    | cons h1 h2 => exact .cons (RV.grow p d _ h1) (RVs.grow p ds _ h2)
end
theorem RK.grow {K : PySem.W.Frag} {io : List Addr} {H : Hp} {κ : Type} {ok : κ → Prop} (p : Addr) {ds : List (κ × D)} {vs : List (κ × V)} (h : RK K io H ok ds vs) : RK K (io ++ [p]) H ok ds vs := by
  induction h with
  | nil => exact .nil
  | cons h0 h1 _ ih => exact .cons h0 (RV.grow p _ _ h1) ih
theorem RO.grow {K : PySem.W.Frag} {io : List Addr} {H : Hp} (p : Addr) {o : O} {ho : HO} (h : RO K io H o ho) : RO K (io ++ [p]) H o ho := by
  induction o generalizing ho with
  | lst ds => obtain ⟨xs, e, r⟩ := h; exact ⟨xs, e, RVs.grow p _ _ r⟩
  | dK kvs => obtain ⟨xs, e, r⟩ := h; exact ⟨xs, e, r.grow p⟩
  | dT kvs => obtain ⟨xs, e, r⟩ := h; exact ⟨xs, e, r.grow p⟩
  | ins c fs => obtain ⟨dx, xs, e, r⟩ := h; exact ⟨dx, xs, e, r.grow p⟩
  | lk o ih => obtain ⟨od, u, e, r⟩ := h; exact ⟨od, u, e, ih r⟩
/-- an object that stands already is taken into the virtual heap -/
theorem RepH.take {K : PySem.W.Frag} {io : List Addr} {h : VH} {H : Hp} (r : RepH K io h H) {p : Addr} {o : O} {ho : HO} (hp : H p = some ho) (hn : p ∉ io) (hr : RO K io H o ho) : RepH K (io ++ [p]) (h ++ [o]) H := by
  have hlen : io.length = h.length := r.len
  refine ⟨by simp [hlen], List.nodup_append.mpr ⟨r.nd, by simp, fun a ha b hb z => hn (by rw [← List.mem_singleton.mp hb, ← z]; exact ha)⟩, fun n ob a h1 h2 => ?_⟩
  by_cases hl : n < h.length
  · rw [List.getElem?_append_left hl] at h1
    rw [List.getElem?_append_left (hlen ▸ hl)] at h2
    obtain ⟨hb, e, q⟩ := r.ob n ob a h1 h2
    exact ⟨hb, e, q.grow p⟩
  · have hle : h.length ≤ n := by omega
    rw [List.getElem?_append_right hle] at h1
    rw [List.getElem?_append_right (hlen ▸ hle)] at h2
    have hz : n - h.length = 0 := by
      have := (List.getElem?_eq_some_iff.mp h1).1
      simp at this
      omega
    rw [hz] at h1
    rw [hlen, hz] at h2
    simp at h1 h2
    subst h1 h2
    exact ⟨ho, hp, hr.grow p⟩
theorem lc_toB {K : PySem.W.Frag} {im : Im} {t : Tg} {tt : Ts} {el : Ex} {ws : List Nat} {sg : L2.St} {H : Hp} {Q : VK} (hsl : ∀ i ∈ t.slots, i ∈ ws) (hw : tE K W (eBox (lLc im t tt el ws)) sg H Q) :
    tLc (tI K W im) (gT K t) (tT K W0 tt) (tE K W0 el) ws sg H Q := by
  obtain ⟨io, h, rho, hR, hE, hA⟩ := hw
  refine lc_toG hsl ⟨io, h, rho, fun ds k => Pv K io H Q (.loc k.length) (k ++ [O.lst ds]), hR, hE, fun io1 H1 io2 h2 Hc Dd ds vs L p => ?_, (Aft.bind hA).mono (fun _ _ z => z) fun _ _ z => z⟩
  have hne : ∀ a u, H1 a = some u → a ≠ Dd := fun a u e => ne_of_none e L.new
  refine p (io2 ++ [Dd]) Hc _ (L.e1.trans ⟨⟨?_, L.e2.tups, L.e2.frzs, L.e2.keep⟩, fun a u ha e => L.same a u ha (hne a u e) e⟩) (L.rep.take L.at_ L.out ⟨vs, rfl, L.val⟩) (.loc ?_)
  · obtain ⟨m, e, f⟩ := L.e2.more
    refine ⟨m ++ [Dd], by rw [e, List.append_assoc], fun a ha => ?_⟩
    rcases List.mem_append.mp ha with z | z
    · exact f a z
    · rw [List.mem_singleton.mp z]; exact L.new
  · rw [← L.rep.len]
    simp
theorem se_lc {elt tg iter : Expr} {ifs : List Expr} {scope : Scope} {own : List (Str × Nat)} {pos : Pos} {im : Im} {t : Tg} {tt : Ts} {el : Ex} (hc : X.calm = true) (hN : X.N.Nodup) (hi : SI X W tg iter im) (ok : BlkOk X.N X.env.scope scope own)
    (hg : ∀ (s : Shared) (H : Hp) (C : Addr) (cl : List (Str × Addr)) (fp : List Addr), SG (X.blk s H scope (compEnvC scope cl C X.env) fp) tg t) (ht : ∀ (s : Shared) (H : Hp) (C : Addr) (cl : List (Str × Addr)) (fp : List Addr), STs (X.blk s H scope (compEnvC scope cl C X.env) fp) W0 ifs tt) (he : SEb X scope elt el)
    (hsl : ∀ i ∈ t.slots, i ∈ own.map (·.2)) (hf : ∀ x : Value, foldedSetIterable iter X.env x = pure x := by intro _; rfl) :
    SE X W (.ListComp elt [⟨tg, iter, ifs, 0⟩] scope pos) (eLc im t tt el (own.map (·.2))) := by
  exact pe_imp (pe_fz (pe_lc (g := gT X.K t) (tt := tT X.K W0 tt) (te := tE X.K W0 el) hc hN hi ok hg ht he hf)) fun sg H Q h => lc_to hsl (fun _ _ z => z) h
/-- .. whose list changes later -/
theorem se_lcB {elt tg iter : Expr} {ifs : List Expr} {scope : Scope} {own : List (Str × Nat)} {pos : Pos} {im : Im} {t : Tg} {tt : Ts} {el : Ex} (hc : X.calm = true) (hN : X.N.Nodup) (hi : SI X W tg iter im) (ok : BlkOk X.N X.env.scope scope own)
    (hg : ∀ (s : Shared) (H : Hp) (C : Addr) (cl : List (Str × Addr)) (fp : List Addr), SG (X.blk s H scope (compEnvC scope cl C X.env) fp) tg t) (ht : ∀ (s : Shared) (H : Hp) (C : Addr) (cl : List (Str × Addr)) (fp : List Addr), STs (X.blk s H scope (compEnvC scope cl C X.env) fp) W0 ifs tt) (he : SEb X scope elt el)
    (hsl : ∀ i ∈ t.slots, i ∈ own.map (·.2)) (hf : ∀ x : Value, foldedSetIterable iter X.env x = pure x := by intro _; rfl) :
    SE X W (.ListComp elt [⟨tg, iter, ifs, 0⟩] scope pos) (eBox (lLc im t tt el (own.map (·.2)))) :=
  pe_imp (pe_lc (g := gT X.K t) (tt := tT X.K W0 tt) (te := tE X.K W0 el) hc hN hi ok hg ht he hf) fun sg H Q h => lc_toB hsl h
end
end Mv

namespace Mv
open PySem L2

/-! ### statements -/
inductive Fl where
  | nx | brk | cnt
  | ret (d : D)
inductive RS where
  | go (rho : Env) (f : Fl) (h : VH)
  | exc (x : Xc) (rho : Env) (h : VH)
  | bad
abbrev Sm := Env → VH → RS
def AftS (r : RS) (P : Env → Fl → VH → Prop) (Z : Xc → Env → VH → Prop) : Prop := match r with
  | .go rho f h => P rho f h
  | .exc x rho h => Z x rho h
  | .bad => False
theorem AftS.mono {r : RS} {P P' : Env → Fl → VH → Prop} {Z Z' : Xc → Env → VH → Prop} (h : AftS r P Z) (hp : ∀ a f k, P a f k → P' a f k) (hz : ∀ x a k, Z x a k → Z' x a k) : AftS r P' Z' := by
  cases r with
  | go a f k => exact hp a f k h
  | exc x a k => exact hz x a k h
  | bad => exact h
def R.toS {α : Type} (r : R α) (rho : Env) (f : α → VH → RS) : RS := match r with
  | .ok a h => f a h
  | .exc x h => .exc x rho h
  | .bad => .bad
@[simp] theorem R.toS_ok {α : Type} {a : α} {h : VH} {rho : Env} {f : α → VH → RS} : (R.ok a h).toS rho f = f a h := rfl
@[simp] theorem R.toS_exc {α : Type} {x : Xc} {h : VH} {rho : Env} {f : α → VH → RS} : (R.exc x h : R α).toS rho f = .exc x rho h := rfl
@[simp] theorem R.toS_bad {α : Type} {rho : Env} {f : α → VH → RS} : (R.bad : R α).toS rho f = .bad := rfl
theorem AftS.toS {α : Type} {r : R α} {rho : Env} {f : α → VH → RS} {P : Env → Fl → VH → Prop} {Z : Xc → Env → VH → Prop} (h : AftS (r.toS rho f) P Z) : Aft r (fun a k => AftS (f a k) P Z) (fun x k => Z x rho k) := by
  cases r with
  | ok a k => exact h
  | exc x k => exact h
  | bad => exact h
def RS.next (r : RS) (f : Env → VH → RS) : RS := match r with
  | .go rho .nx h => f rho h
  | r => r
theorem AftS.next {r : RS} {f : Env → VH → RS} {P : Env → Fl → VH → Prop} {Z : Xc → Env → VH → Prop} (h : AftS (r.next f) P Z) : AftS r (fun rho fl k => match fl with | .nx => AftS (f rho k) P Z | fl => P rho fl k) Z := by
  cases r with
  | go a f k => cases f <;> exact h
  | exc x a k => exact h
  | bad => exact h
def toEnd (K : PySem.W.Frag) (io : List Addr) (H : Hp) (De : Ends) (sg : L2.St) : Fl → Prop
  | .nx => De.nx sg H
  | .brk => De.bk sg H
  | .cnt => De.ct sg H
  | .ret d => ∀ v, RV K io H d v → De.rt v H
def Ps (K : PySem.W.Frag) (io : List Addr) (H : Hp) (De : Ends) : Env → Fl → VH → Prop := fun rho f h => ∀ io' H' sg', Ext io H io' H' → RepH K io' h H' → RepE K io' H' rho sg' → toEnd K io' H' De sg' f
def Zs (K : PySem.W.Frag) (W : WX) (io : List Addr) (H : Hp) : Xc → Env → VH → Prop := fun x rho h => ∀ io' H' sg' c dd, Ext io H io' H' → RepH K io' h H' → RepE K io' H' rho sg' → RX K io' H' x c dd → W c dd sg' H'
theorem Ps.mono {K : PySem.W.Frag} {io io' : List Addr} {H H' : Hp} {De : Ends} {rho : Env} {f : Fl} {h : VH} (p : Ps K io H De rho f h) (e : Ext io H io' H') : Ps K io' H' De rho f h := fun i2 H2 s2 e2 r2 v2 => p i2 H2 s2 (e.trans e2) r2 v2
theorem Zs.mono {K : PySem.W.Frag} {W : WX} {io io' : List Addr} {H H' : Hp} {x : Xc} {rho : Env} {h : VH} (p : Zs K W io H x rho h) (e : Ext io H io' H') : Zs K W io' H' x rho h := fun i2 H2 s2 c dd e2 r2 v2 z => p i2 H2 s2 c dd (e.trans e2) r2 v2 z
theorem Zs.zx {K : PySem.W.Frag} {W : WX} {io : List Addr} {H : Hp} {x : Xc} {rho : Env} {sg : L2.St} {h : VH} (p : Zs K W io H x rho h) (hE : RepE K io H rho sg) : Zx K W io H sg x h := fun i2 H2 c dd e2 r2 z => p i2 H2 sg c dd e2 r2 (hE.mono e2.toExt0) z
def tS (K : PySem.W.Frag) (W : WX) (m : Sm) : TS := fun De sg H => ∃ io h rho, RepH K io h H ∧ RepE K io H rho sg ∧ AftS (m rho h) (Ps K io H De) (Zs K W io H)
def SS (X : Cx) (W : WX) (st : Stmt) (m : Sm) : Prop := PS X st (tS X.K W m)
def SB (X : Cx) (W : WX) (st : List Stmt) (m : Sm) : Prop := PSs X st (tS X.K W m)
theorem ps_imp {X : Cx} {st : Stmt} {t t' : TS} (p : PS X st t) (h : ∀ De sg H, t' De sg H → t De sg H) : PS X st t' := ⟨fun pins s sg H De I q => p.run pins s sg H De I (h De sg H q)⟩
theorem pss_imp {X : Cx} {st : List Stmt} {t t' : TS} (p : PSs X st t) (h : ∀ De sg H, t' De sg H → t De sg H) : PSs X st t' := ⟨fun pins s sg H De I q => p.run pins s sg H De I (h De sg H q)⟩

section
variable {X : Cx} {W : WX}
def sSkip : Sm := fun rho h => .go rho .nx h
def sSeq (a b : Sm) : Sm := fun rho h => (a rho h).next b
def sBrk : Sm := fun rho h => .go rho .brk h
def sCnt : Sm := fun rho h => .go rho .cnt h
def sDrop (a : Ex) : Sm := fun rho h => (a rho h).toS rho fun _ h1 => .go rho .nx h1
def sRet (a : Ex) : Sm := fun rho h => (a rho h).toS rho fun d h1 => .go rho (.ret d) h1
def sRetN : Sm := fun rho h => .go rho (.ret .non) h
def sIf (t : Ts) (a b : Sm) : Sm := fun rho h => (t rho h).toS rho fun x h1 => if x = true then a rho h1 else b rho h1
def sAsg (t : Tg) (a : Ex) : Sm := fun rho h => (a rho h).toS rho fun d h1 => match t.put d rho with
  | some rho1 => .go rho1 .nx h1
  | none => .bad
theorem sb_nil : SB X W [] sSkip := pss_imp pss_nil fun De sg H ⟨io, h, rho, hR, hE, hA⟩ => hA io H sg (Ext.refl _ _) hR hE
theorem sb_cons {st : Stmt} {rest : List Stmt} {a b : Sm} (h1 : SS X W st a) (h2 : SB X W rest b) : SB X W (st :: rest) (sSeq a b) := by
  refine pss_imp (pss_cons h1 h2) fun De sg H ⟨io, h, rho, hR, hE, hA⟩ => ?_
  refine ⟨io, h, rho, hR, hE, (AftS.next hA).mono (fun r f k hk io1 H1 sg1 e1 R1 E1 => ?_) fun _ _ _ z => z⟩
  cases f with
  | nx => exact ⟨io1, k, r, R1, E1, AftS.mono hk (fun _ _ _ z => z.mono e1) fun _ _ _ z => z.mono e1⟩
  | brk => exact hk io1 H1 sg1 e1 R1 E1
  | cnt => exact hk io1 H1 sg1 e1 R1 E1
  | ret d => exact hk io1 H1 sg1 e1 R1 E1
theorem sb_one {st : Stmt} {a : Sm} (h1 : SS X W st a) : SB X W [st] a := pss_one h1
theorem ss_pass {pos : Pos} : SS X W (.Pass pos) sSkip := ps_imp ps_pass fun De sg H ⟨io, h, rho, hR, hE, hA⟩ => hA io H sg (Ext.refl _ _) hR hE
theorem ss_break {pos : Pos} : SS X W (.Break pos) sBrk := ps_imp ps_break fun De sg H ⟨io, h, rho, hR, hE, hA⟩ => hA io H sg (Ext.refl _ _) hR hE
theorem ss_continue {pos : Pos} : SS X W (.Continue pos) sCnt := ps_imp ps_continue fun De sg H ⟨io, h, rho, hR, hE, hA⟩ => hA io H sg (Ext.refl _ _) hR hE
theorem ss_expr {e : Expr} {A : Ex} {pos : Pos} (ha : SE X W e A) (hs : swapsWith e none pos.line X.env = pure false := by rfl) : SS X W (.Expr e pos) (sDrop A) := ps_imp (ps_expr ha hs) fun De sg H ⟨io, h, rho, hR, hE, hA⟩ =>
  ⟨io, h, rho, hR, hE, (AftS.toS hA).mono (fun d k hk io1 H1 v e1 R1 v1 => hk io1 H1 sg e1 R1 (hE.mono e1.toExt0)) fun _ _ z => z.zx hE⟩
theorem ss_ret {e : Expr} {A : Ex} {pos : Pos} (ha : SE X W e A) : SS X W (.Return (some e) pos) (sRet A) := ps_imp (ps_ret ha) fun De sg H ⟨io, h, rho, hR, hE, hA⟩ =>
  ⟨io, h, rho, hR, hE, (AftS.toS hA).mono (fun d k hk io1 H1 v e1 R1 v1 => hk io1 H1 sg e1 R1 (hE.mono e1.toExt0) v v1) fun _ _ z => z.zx hE⟩
theorem ss_retN {pos : Pos} : SS X W (.Return none pos) sRetN := ps_imp ps_retN fun De sg H ⟨io, h, rho, hR, hE, hA⟩ => hA io H sg (Ext.refl _ _) hR hE .non .non
theorem ss_if {c : Expr} {a b : List Stmt} {T : Ts} {A B : Sm} {pos : Pos} (ht : ST X W c T) (ha : SB X W a A) (hb : SB X W b B) : SS X W (.If c a b pos) (sIf T A B) := by
  refine ps_imp (ps_if ht ha hb) fun De sg H ⟨io, h, rho, hR, hE, hA⟩ => ?_
  refine ⟨io, h, rho, hR, hE, (AftS.toS hA).mono (fun x k hk io1 H1 e1 R1 => ?_) fun _ _ z => z.zx hE⟩
  cases x with
  | true =>
    rw [if_pos rfl] at hk ⊢
    exact ⟨io1, k, rho, R1, hE.mono e1.toExt0, hk.mono (fun _ _ _ z => z.mono e1) fun _ _ _ z => z.mono e1⟩
  | false =>
    rw [if_neg Bool.false_ne_true] at hk ⊢
    exact ⟨io1, k, rho, R1, hE.mono e1.toExt0, hk.mono (fun _ _ _ z => z.mono e1) fun _ _ _ z => z.mono e1⟩
theorem asg_to {K : PySem.W.Frag} {t : Tg} {A : Ex} {De : Ends} {sg : L2.St} {H : Hp} (hw : tS K W (sAsg t A) De sg H) : tAsg (tE K W A) (gT K t) De sg H := by
  obtain ⟨io, h, rho, hR, hE, hA⟩ := hw
  refine ⟨io, h, rho, hR, hE, (AftS.toS hA).mono (fun d k hk io1 H1 v e1 R1 v1 => ?_) fun _ _ z => z.zx hE⟩
  split at hk
  · rename_i rho1 hp
    exact gT_put (hE.mono e1.toExt0) v1 hp fun sg' r' _ => hk io1 H1 sg' e1 R1 r'
  · exact hk.elim
theorem ss_asg {tg e : Expr} {t : Tg} {A : Ex} {pos : Pos} (ha : SE X W e A) (hg : SG X tg t) (hs : swapsWithSole [tg] e pos.line X.env = pure false := by rfl) (hw : swappedStores [tg] e X.env = pure none := by rfl)
    (h1 : (assignEach [tg] X.env).map (·.2) = [assign tg X.env] := by rfl) : SS X W (.Assign [tg] e pos) (sAsg t A) := ps_imp (ps_asg ha hg hs hw h1) fun De sg H h => asg_to h
theorem ss_set {i : Nat} {x : Str} {e : Expr} {A : Ex} {pos pos' : Pos} (hN : X.N.Nodup) (hi : X.N[i]? = some x) (hx : L2.Loc X.env.scope x) (ha : SE X W e A) (hs : swapsWith e (some (.Name x pos')) pos.line X.env = pure false := by rfl)
    (hf : X.fn x = true ∨ X.env.scope.names.lookup x = some .local := by first | exact .inl rfl | exact .inr rfl) : SS X W (.Assign [.Name x pos'] e pos) (sAsg (.nm i) A) := ps_imp (ps_set hN hi hx ha hs hf) fun De sg H h => asg_to (t := .nm i) h
/-- a list just made may be locked behind a statement -/
def Fzs (nx : L2.St → Hp → Prop) : L2.St → Hp → Prop := fun sg H => nx sg H ∨ ∃ a xs, H a = some (.lst xs) ∧ ∀ o, nx sg (upd H a (.frz o (.lst xs)))
theorem ps_fz {st : Stmt} {t : TS} (p : PS X st t) : PS X st (fun De sg H => t { De with nx := Fzs De.nx } sg H) := by
  refine ⟨fun pins s sg H De I q => ?_⟩
  refine thn (p.run pins s sg H _ I q) fun f s1 hs => ?_
  cases f with
  | next =>
    obtain ⟨sg1, H1, I1, q1⟩ := hs
    rcases q1 with q1 | ⟨a, xs, h1, q1⟩
    · exact ⟨sg1, H1, I1, q1⟩
    · obtain ⟨od, I2⟩ := I1.lock h1 trivial
      exact ⟨sg1, _, I2, q1 od⟩
  | brk => exact hs
  | cont => exact hs
  | ret v => exact hs
theorem ss_setLc {i : Nat} {y : Str} {py : Pos} {elt tg iter : Expr} {ifs : List Expr} {scope : Scope} {own : List (Str × Nat)} {pos spos : Pos} {im : Im} {t : Tg} {tt : Ts} {el : Ex} (hc : X.calm = true) (hN : X.N.Nodup) (hy : X.N[i]? = some y) (hyl : X.env.scope.names.lookup y = some .local)
    (hsw : swapsWith (.ListComp elt [⟨tg, iter, ifs, 0⟩] scope pos) (some (.Name y py)) spos.line X.env = pure true) (hi : SI X W tg iter im) (ok : BlkOk X.N X.env.scope scope own)
    (hg : ∀ (s : Shared) (H : Hp) (C : Addr) (cl : List (Str × Addr)) (fp : List Addr), SG (X.blk s H scope (compEnvC scope cl C X.env) fp) tg t) (ht : ∀ (s : Shared) (H : Hp) (C : Addr) (cl : List (Str × Addr)) (fp : List Addr), STs (X.blk s H scope (compEnvC scope cl C X.env) fp) W0 ifs tt) (he : SEb X scope elt el)
    (hsl : ∀ i ∈ t.slots, i ∈ own.map (·.2)) (hf : ∀ x : Value, foldedSetIterable iter X.env x = pure x := by intro _; rfl) :
    SS X W (.Assign [.Name y py] (.ListComp elt [⟨tg, iter, ifs, 0⟩] scope pos) spos) (sAsg (.nm i) (eLc im t tt el (own.map (·.2)))) := by
  refine ps_imp (ps_fz (ps_setLc (g := gT X.K t) (tt := tT X.K W0 tt) (te := tE X.K W0 el) hc hN hy hyl hsw hi ok hg ht he hf)) fun De sg H h => ?_
  refine lc_to (Q := fun v H1 => De.nx (sg.set i (some v)) H1) hsl (fun v H1 z => ?_) (asg_to (t := .nm i) h)
  rcases z with z | ⟨a, xs, rfl, h1, z⟩
  · exact .inl z
  · exact .inr ⟨a, xs, h1, z⟩
theorem ss_setLcB {i : Nat} {y : Str} {py : Pos} {elt tg iter : Expr} {ifs : List Expr} {scope : Scope} {own : List (Str × Nat)} {pos spos : Pos} {im : Im} {t : Tg} {tt : Ts} {el : Ex} (hc : X.calm = true) (hN : X.N.Nodup) (hy : X.N[i]? = some y) (hyl : X.env.scope.names.lookup y = some .local)
    (hsw : swapsWith (.ListComp elt [⟨tg, iter, ifs, 0⟩] scope pos) (some (.Name y py)) spos.line X.env = pure true) (hi : SI X W tg iter im) (ok : BlkOk X.N X.env.scope scope own)
    (hg : ∀ (s : Shared) (H : Hp) (C : Addr) (cl : List (Str × Addr)) (fp : List Addr), SG (X.blk s H scope (compEnvC scope cl C X.env) fp) tg t) (ht : ∀ (s : Shared) (H : Hp) (C : Addr) (cl : List (Str × Addr)) (fp : List Addr), STs (X.blk s H scope (compEnvC scope cl C X.env) fp) W0 ifs tt) (he : SEb X scope elt el)
    (hsl : ∀ i ∈ t.slots, i ∈ own.map (·.2)) (hf : ∀ x : Value, foldedSetIterable iter X.env x = pure x := by intro _; rfl) :
    SS X W (.Assign [.Name y py] (.ListComp elt [⟨tg, iter, ifs, 0⟩] scope pos) spos) (sAsg (.nm i) (eBox (lLc im t tt el (own.map (·.2))))) := by
  refine ps_imp (ps_setLc (g := gT X.K t) (tt := tT X.K W0 tt) (te := tE X.K W0 el) hc hN hy hyl hsw hi ok hg ht he hf) fun De sg H h => ?_
  exact lc_toB (Q := fun v H1 => De.nx (sg.set i (some v)) H1) hsl (asg_to (t := .nm i) h)
theorem sg_name {i : Nat} {x : Str} {pos : Pos} (p : PG X (.Name x pos) (gName i)) : SG X (.Name x pos) (.nm i) := p
/-- x op= e -/
def sAug (i : Nat) (f : F2) (a : Ex) : Sm := fun rho h => match rho[i]? with
  | some (some x) => (a rho h).toS rho fun y h1 => match f x y h1 with
    | some (z, h2) => .go (rho.set i (some z)) .nx h2
    | none => .bad
  | _ => .bad
def IpM (X : Cx) (op : Operator) (f : F2) : Prop := ∃ r, PIp X op r ∧ OpS X.K f r
theorem ss_aug {i : Nat} {x : Str} {e : Expr} {A : Ex} {op : Operator} {f : F2} {pos pos' : Pos} (hN : X.N.Nodup) (hi : X.N[i]? = some x) (hx : L2.Loc X.env.scope x) (ho : IpM X op f) (ha : SE X W e A)
    (hf : X.fn x = true ∨ X.env.scope.names.lookup x = some .local := by first | exact .inl rfl | exact .inr rfl) : SS X W (.AugAssign (.Name x pos') op e pos) (sAug i f A) := by
  obtain ⟨r, h1, h2⟩ := ho
  refine ps_imp (ps_aug hN hi hx ha h1 hf) fun De sg H ⟨io, h, rho, hR, hE, hA⟩ => ?_
  unfold sAug at hA
  split at hA
  · rename_i d hd
    obtain ⟨v, e1, v1⟩ := hE.val i d hd
    refine ⟨v, e1, io, h, rho, hR, hE, (AftS.toS hA).mono (fun y k hk io1 H1 w e2 R1 w1 => ?_) fun _ _ z => z.zx hE⟩
    split at hk
    · rename_i z h3 hz
      refine h2 io1 k H1 d y v w _ z h3 R1 (RV.mono e2.toExt0 _ _ v1) w1 hz ?_
      intro io2 H2 u e3 R2 u1
      have e4 := e2.trans e3
      exact hk io2 H2 _ e4 R2 ((hE.mono e4.toExt0).set i u1)
    · exact hk.elim
  · exact hA.elim
def iaddF : F2
  | .int i, .int j, h => some (.int (i + j), h)
  | .str a, .str b, h => if a.length + b.length ≤ sizeLine then some (.str (a ++ b), h) else none
  | _, _, _ => none
theorem pip_or {op : Operator} {r r' : TIp} (a : PIp X op r) (b : PIp X op r') : PIp X op (fun x y H Q => r x y H Q ∨ r' x y H Q) := fun pins s sg H x y v u Q I rx ry h => h.elim (a pins s sg H x y v u Q I rx ry) (b pins s sg H x y v u Q I rx ry)
theorem m_iadd : IpM X .Add iaddF := ⟨_, pip_or ip_add (fun pins s sg H x y v u Q I rx ry h => iop_add_str pins s sg H x y v u Q I rx ry h), fun io h H x y v u Q d h' r hx hy e p => by
  unfold iaddF at e
  split at e
  · cases hx; cases hy; cases e
    exact .inl ⟨_, _, rfl, rfl, p.here r (.int _)⟩
  · split at e
    · rename_i hl
      cases e
      cases hx with
      | str _ sa =>
        cases hy with
        | str _ sb => exact .inr ⟨_, _, rfl, rfl, hl, p.here r (.str _ (sok_append sa sb hl))⟩
    · cases e
  · cases e⟩
theorem m_isub : IpM X .Sub subF := ⟨_, ip_sub, fun io h H x y v u Q d h' r hx hy e p => by
  unfold subF at e
  split at e
  · cases hx; cases hy; cases e
    exact ⟨_, _, rfl, rfl, p.here r (.int _)⟩
  · cases e⟩

/-! ### loops -/
def whl (t : Ts) (b : Sm) : Nat → Env → VH → RS
  | 0, _, _ => .bad
  | n + 1, rho, h => (t rho h).toS rho fun x h1 => if x = true then
      match b rho h1 with
      | .go rho2 .nx h2 => whl t b n rho2 h2
      | .go rho2 .cnt h2 => whl t b n rho2 h2
      | .go rho2 .brk h2 => .go rho2 .nx h2
      | .go rho2 (.ret d) h2 => .go rho2 (.ret d) h2
      | .exc e rho2 h2 => .exc e rho2 h2
      | .bad => .bad
    else .go rho .nx h1
theorem ss_while {c : Expr} {body : List Stmt} {T : Ts} {B : Sm} {pos : Pos} (fu : Nat) (hp : PassesOwn (model X.prog X.w) X.A X.env X.xe) (ht : ST X W c T) (hb : SB X W body B) : SS X W (.While c body [] pos) (whl T B fu) := by
  refine ps_imp (ps_while hp ht hb) fun De sg H ⟨io, h, rho, hR, hE, hA⟩ => ?_
  refine ⟨fun m sg1 H1 => ∃ io1 h1 rho1, Ext io H io1 H1 ∧ RepH X.K io1 h1 H1 ∧ RepE X.K io1 H1 rho1 sg1 ∧ AftS (whl T B m rho1 h1) (Ps X.K io H De) (Zs X.K W io H), ⟨fu, io, h, rho, Ext.refl _ _, hR, hE, hA⟩, ?_⟩
  rintro m sg1 H1 ⟨io1, h1, rho1, e1, R1, E1, A1⟩
  cases m with
  | zero => exact A1.elim
  | succ n =>
    unfold whl at A1
    refine ⟨io1, h1, rho1, R1, E1, (AftS.toS A1).mono (fun x k hk io2 H2 e2 R2 => ?_) fun _ _ z => (z.mono e1).zx E1⟩
    cases x with
    | true =>
      rw [if_pos rfl] at hk ⊢
      refine ⟨_, fun _ _ z => z, io2, k, rho1, R2, E1.mono e2.toExt0, ?_⟩
      have e12 := e1.trans e2
      cases q : B rho1 k with
      | bad => rw [q] at hk; exact hk.elim
      | exc x r3 k3 => rw [q] at hk; exact Zs.mono hk e12
      | go r3 f k3 =>
        rw [q] at hk
        cases f with
        | nx => exact fun io4 H4 sg4 e4 R4 E4 => ⟨n, Nat.lt_succ_self n, io4, k3, r3, e12.trans e4, R4, E4, hk⟩
        | cnt => exact fun io4 H4 sg4 e4 R4 E4 => ⟨n, Nat.lt_succ_self n, io4, k3, r3, e12.trans e4, R4, E4, hk⟩
        | brk => exact fun io4 H4 sg4 e4 R4 E4 => hk io4 H4 sg4 (e12.trans e4) R4 E4
        | ret d => exact fun io4 H4 sg4 e4 R4 E4 => hk io4 H4 sg4 (e12.trans e4) R4 E4
    | false =>
      rw [if_neg Bool.false_ne_true] at hk ⊢
      exact hk io2 H2 sg1 (e1.trans e2) R2 (E1.mono e2.toExt0)
def forL (ck : Ck) (all : List D) (t : Tg) (b : Sm) : List D → Env → VH → RS
  | [], rho, h => if ckOk ck all h = true then .go rho .nx h else .bad
  | x :: xs, rho, h => if ckOk ck all h = true then match t.put x rho with
      | none => .bad
      | some rho1 => match b rho1 h with
        | .go rho2 .nx h2 => forL ck all t b xs rho2 h2
        | .go rho2 .cnt h2 => forL ck all t b xs rho2 h2
        | .go rho2 .brk h2 => .go rho2 .nx h2
        | .go rho2 (.ret d) h2 => .go rho2 (.ret d) h2
        | .exc e rho2 h2 => .exc e rho2 h2
        | .bad => .bad
    else .bad
def sFor (im : Im) (t : Tg) (b : Sm) : Sm := fun rho h => (im rho h).toS rho fun p h1 => forL p.2 p.1 t b p.1 rho h1
theorem ss_for {tg iter : Expr} {body : List Stmt} {im : Im} {t : Tg} {B : Sm} {pos : Pos} (hp : PassesOwn (model X.prog X.w) X.A X.env X.xe) (hc : X.calm = true) (hi : SI X W tg iter im) (hg : SG X tg t) (hb : SB X W body B)
    (hs : ∀ x, foldedSetIterable iter X.env x = pure x := by intro _; rfl) : SS X W (.For tg iter body [] pos) (sFor im t B) := by
  refine ps_imp (ps_for hp hc hi hg hb hs) fun De sg H ⟨io, h, rho, hR, hE, hA⟩ => ?_
  refine ⟨io, h, rho, hR, hE, (AftS.toS hA).mono (fun p h1 hx io1 H1 J e1 R1 hJ => ?_) fun _ _ z => z.zx hE⟩
  refine ⟨fun i m sg2 H2 => ∃ io2 h2 rho2, Ext io1 H1 io2 H2 ∧ RepH X.K io2 h2 H2 ∧ RepE X.K io2 H2 rho2 sg2 ∧ m = p.1.length - i ∧ i ≤ p.1.length ∧ AftS (forL p.2 p.1 t B (p.1.drop i) rho2 h2) (Ps X.K io H De) (Zs X.K W io H),
    ⟨p.1.length - 0, io1, h1, rho, Ext.refl _ _, R1, hE.mono e1.toExt0, rfl, Nat.zero_le _, by rw [List.drop_zero]; exact hx⟩, ?_⟩
  rintro i m sg2 H2 ⟨io2, h2, rho2, e2, R2, E2, rfl, hi2, A2⟩
  have e12 := e1.trans e2
  by_cases hlt : i < p.1.length
  · obtain ⟨d, hd⟩ : ∃ d, p.1[i]? = some d := ⟨p.1[i], List.getElem?_eq_getElem hlt⟩
    have hdrop : p.1.drop i = d :: p.1.drop (i + 1) := by
      rw [List.drop_eq_getElem_cons hlt]
      have : p.1[i] = d := by
        have := List.getElem?_eq_getElem hlt
        rw [hd] at this
        exact (Option.some.inj this).symm
      rw [this]
    rw [hdrop] at A2
    unfold forL at A2
    split at A2
    · rename_i hck
      obtain ⟨g1, g2⟩ := hJ.go i d io2 h2 H2 e2.toExt0 R2 hck hd
      refine .inr ⟨g1, _, fun _ _ z => z, fun x H3 hy => ?_⟩
      obtain ⟨e3, R3, v3⟩ := g2 x H3 hy
      cases hpt : t.put d rho2 with
      | none => rw [hpt] at A2; exact A2.elim
      | some rho3 =>
        rw [hpt] at A2
        dsimp only at A2
        refine gT_put (E2.mono e3.toExt0) v3 hpt fun sg' r' _ => ⟨io2, h2, rho3, R3, r', ?_⟩
        have e13 := e12.trans e3
        have e23 := e2.trans e3
        cases q : B rho3 h2 with
        | bad => rw [q] at A2; exact A2.elim
        | exc x r3 k3 => rw [q] at A2; exact Zs.mono A2 e13
        | go r3 f k3 =>
          rw [q] at A2
          cases f with
          | nx => exact fun io4 H4 sg4 e4 R4 E4 => ⟨p.1.length - (i + 1), by omega, io4, k3, r3, e23.trans e4, R4, E4, rfl, hlt, A2⟩
          | cnt => exact fun io4 H4 sg4 e4 R4 E4 => ⟨p.1.length - (i + 1), by omega, io4, k3, r3, e23.trans e4, R4, E4, rfl, hlt, A2⟩
          | brk => exact fun io4 H4 sg4 e4 R4 E4 => A2 io4 H4 sg4 (e13.trans e4) R4 E4
          | ret d => exact fun io4 H4 sg4 e4 R4 E4 => A2 io4 H4 sg4 (e13.trans e4) R4 E4
    · exact A2.elim
  · have hie : i = p.1.length := by omega
    subst hie
    rw [List.drop_length] at A2
    unfold forL at A2
    split at A2
    · rename_i hck
      exact .inl ⟨hJ.stop _ io2 h2 H2 e2.toExt0 R2 hck (Nat.le_refl _), A2 io2 H2 sg2 e12 R2 E2⟩
    · exact A2.elim

/-! ### methods of built-in types -/
abbrev Fm := D → List D → VH → Option (D × VH)
def eBM (ok : D → VH → Bool) (f : Fm) (o : Ex) (a : Ar) : Ex := fun rho h => (o rho h).bind fun x h1 => if ok x h1 = true then (a rho h1).bind fun ds h2 => up (f x ds h2) else .bad
def MtS (K : PySem.W.Frag) (f : Fm) (r : V → List V → Hp → VK → Prop) : Prop := ∀ io h H x v ds vs Q d h', RepH K io h H → RV K io H x v → RVs K io H ds vs → f x ds h = some (d, h') → Pv K io H Q d h' → r v vs H Q
def TyS (K : PySem.W.Frag) (T : String) (ok : D → VH → Bool) : Prop := ∀ io h H x v, RepH K io h H → RV K io H x v → ok x h = true → tyV K T v H
theorem bmx {K : PySem.W.Frag} {T : String} {ok : D → VH → Bool} {f : Fm} {r : V → List V → Hp → VK → Prop} {o : Ex} {a : Ar} {sg : L2.St} {H : Hp} {Q : VK} (ht : TyS K T ok) (hf : MtS K f r) (h : tE K W (eBM ok f o a) sg H Q) : tBM K T r (tE K W o) (tA K W a) sg H Q := by
  obtain ⟨io, h, rho, hR, hE, hA⟩ := h
  refine ⟨io, h, rho, hR, hE, (Aft.bind hA).mono (fun x h1 hx io1 H1 v e1 R1 v1 => ?_) fun _ _ z => z⟩
  split at hx
  · rename_i hok
    refine ⟨ht io1 h1 H1 x v R1 v1 hok, io1, h1, rho, R1, hE.mono e1.toExt0, (Aft.bind hx).mono (fun ds h2 hy io2 H2 vs e2 R2 v2 => ?_) fun _ _ z => z.mono e1⟩
    obtain ⟨d, h3, e3, p⟩ := hy.up
    exact hf io2 h2 H2 x v ds vs Q d h3 R2 (RV.mono e2.toExt0 _ _ v1) v2 e3 (p.mono (e1.trans e2))
  · exact hx.elim
def isL (d : D) (h : VH) : Bool := (listOf d h).isSome
theorem ty_list {K : PySem.W.Frag} : TyS K "list" isL := fun io h H x v r hv e => by
  unfold isL at e
  cases q : listOf x h with
  | none => rw [q] at e; cases e
  | some ds =>
    obtain ⟨a, xs, rfl, s, _⟩ := listOf_of r hv q
    exact .inl ⟨rfl, xs, s⟩
def appF : Fm
  | .loc n, [y], h => match h[n]? with
    | some (.lst xs) => if xs.length < sizeLine then some (.non, h.set n (.lst (xs ++ [y]))) else none
    | _ => none
  | _, _, _ => none
theorem m_append : ∃ r, MtR X "list.append" r ∧ MtS X.K appF r := ⟨_, mt_append, fun io h H x v ds vs Q d h' r hx hv e p => by
  unfold appF at e
  split at e
  · rename_i n y
    split at e
    · rename_i xs q
      split at e
      · rename_i hl
        cases e
        cases hx with
        | loc ha =>
          obtain ⟨w, rfl, w1⟩ := hv.one
          obtain ⟨us, e1, e2⟩ := r.lst ha q
          have E := ext_set (ho := .lst (us ++ [w])) r ha e1 (fun _ z => nomatch z) (fun _ _ z => nomatch z)
          refine ⟨_, us, w, rfl, rfl, e1, by rw [← e2.length]; exact hl, p io _ _ E ?_ .non⟩
          exact r.setO (o := .lst us) ha E ⟨_, rfl, RVs.mono E.toExt0 _ _ (e2.append (.cons w1 .nil))⟩
      · cases e
    · cases e
  · cases e⟩
theorem se_bm {T id : String} {name : Str} {o e : Expr} {es : List Expr} {ok : D → VH → Bool} {f : Fm} {O : Ex} {A : Ar} {apos cpos : Pos} (pa : PlainAttrs T) (slot : Slot T name id) (hty : typeOf (.builtin id) = pure (.type "method_descriptor")) (ht : TyS X.K T ok)
    (hm : ∃ r, MtR X id r ∧ MtS X.K f r) (ho : SE X W o O) (ha : SA X W (e :: es) A) (h1 : attributeBase o name X.env (eval o X.env) = eval o X.env := by rfl)
    (h2 : ((((backTo cpos (starEach (e :: es) X.env)).all fun x => !x.fst) && ((backToKw cpos (keywordEach [] X.env)).all fun x => x.fst.isSome)) && decide (((e :: es).length + ([] : List Keyword).length + if ([] : List Keyword).isEmpty = true then 0 else 1) < 30)) = true := by rfl)
    (h3 : (apos.endLine == cpos.line) = true := by rfl) (h4 : starEach (e :: es) X.env = (false, eval e X.env) :: starEach es X.env := by rfl) (h5 : ((backTo cpos (starEach es X.env)).any fun x => x.fst) = false := by rfl) : SE X W (.Call (.Attribute o name apos) (e :: es) [] cpos) (eBM ok f O A) := by
  obtain ⟨r, k1, k2⟩ := hm
  exact pe_imp (pe_bm pa slot hty k1 ho ha h1 h2 h3 h4 h5) fun sg H Q h => bmx ht k2 h
/-- xs[i] = e -/
def sSub (o i a : Ex) : Sm := fun rho h => (a rho h).toS rho fun v h1 => (o rho h1).toS rho fun x h2 => (i rho h2).toS rho fun k h3 => match x, k with
  | .loc n, .int j => match h3[n]? with
    | some (.lst xs) => match ixN xs.length j with
      | some m => .go rho .nx (h3.set n (.lst (xs.set m v)))
      | none => .bad
    | _ => .bad
  | _, _ => .bad
theorem ss_sub {o i e : Expr} {O I A : Ex} {pos' pos : Pos} (ho : SE X W o O) (hi : SE X W i I) (ha : SE X W e A)
    (h0 : ∀ v, assign (.Subscript o i pos') X.env v = (do
      let ov ← holding [v] (eval o X.env)
      let iv ← holding [v, ov] (eval i X.env)
      standAt pos'
      holding [v, ov, iv] (setItem ov iv v)
      release [v, ov, iv] []) := by intro _; rfl)
    (hs : swapsWithSole [.Subscript o i pos'] e pos.line X.env = pure false := by rfl) (hw : swappedStores [.Subscript o i pos'] e X.env = pure none := by rfl)
    (h1 : (assignEach [.Subscript o i pos'] X.env).map (·.2) = [assign (.Subscript o i pos') X.env] := by rfl) : SS X W (.Assign [.Subscript o i pos'] e pos) (sSub O I A) := by
  refine ps_imp (ps_asg ha (pg_sub ho hi set_list h0) hs hw h1) fun De sg H ⟨io, h, rho, hR, hE, hA⟩ => ?_
  refine ⟨io, h, rho, hR, hE, (AftS.toS hA).mono (fun v h1 hx io1 H1 u e1 R1 v1 => ?_) fun _ _ z => z.zx hE⟩
  refine ⟨io1, h1, rho, R1, hE.mono e1.toExt0, (AftS.toS hx).mono (fun x h2 hx io2 H2 w e2 R2 v2 => ?_) fun _ _ z => (z.mono e1).zx (hE.mono e1.toExt0)⟩
  have e12 := e1.trans e2
  refine ⟨io2, h2, rho, R2, hE.mono e12.toExt0, (AftS.toS hx).mono (fun k h3 hx io3 H3 z e3 R3 v3 => ?_) fun _ _ z => (z.mono e12).zx (hE.mono e12.toExt0)⟩
  have e13 := e12.trans e3
  split at hx
  · rename_i n j
    cases v3
    cases v2 with
    | loc ha =>
      split at hx
      · rename_i xs q
        split at hx
        · rename_i m hm
          have ha3 := e3.get ha
          obtain ⟨us, e4, e5⟩ := R3.lst ha3 q
          have E := ext_set (ho := .lst (us.set m u)) R3 ha3 e4 (fun _ z => nomatch z) (fun _ _ z => nomatch z)
          refine ⟨_, us, _, m, rfl, rfl, e4, by rw [← e5.length]; exact hm, ?_⟩
          have v1' := RV.mono ((e2.trans e3).trans E).toExt0 _ _ v1
          exact hx io3 _ sg (e13.trans E) (R3.setO (o := .lst us) ha3 E ⟨_, rfl, (RVs.mono E.toExt0 _ _ e5).set m v1'⟩) (hE.mono (e13.trans E).toExt0)
        · exact hx.elim
      · exact hx.elim
  · exact hx.elim
end
end Mv

namespace Mv
open PySem L2

/-! ### defs -/
abbrev Fd := List D → VH → R D
def spM (K : PySem.W.Frag) (n : Nat) (m : Fd) : Sp := fun vs H Q E => vs.length = n ∧ ∃ io h ds, RepH K io h H ∧ RVs K io H ds vs ∧ Aft (m ds h) (Pv K io H Q) (fun x h' => ∀ io' H' c dd, Ext io H io' H' → RepH K io' h' H' → RX K io' H' x c dd → E c dd H')
def fnM (N : Nat) (body : Sm) : Fd := fun ds h => match body (ds.map some ++ List.replicate (N - ds.length) none) h with
  | .go _ (.ret d) h' => .ok d h'
  | .go _ .nx h' => .ok .non h'
  | .go _ _ _ => .bad
  | .exc x _ h' => .exc x h'
  | .bad => .bad
/-- a def at f that does what m says, with room for k calls, no repr being under way -/
structure FnG (P : Program) (w : World) (K : PySem.W.Frag) (mg : Str → Option Value) (base : Heap) (k : Nat) (f : Addr) (fd : FuncData) (ps : List Str) (m : Fd) : Prop where
  run : ∀ (A : Around) (outer : List PySem.Env) (s : Shared) (H : Hp) (args : Args) (us : List Value) (vs : List V) (Q : VK) (E : XK), A.guards = some [] → Room k A → Env0 P w K mg base A outer s H → BindsTo s fd args (ps.zip us) → Vals vs us → spM K ps.length m vs H Q E →
    codeAny (model P w) A (.call (.ref f) args) (CR (CX P w) outer P w H s Q E) s
theorem FnG.mono {P : Program} {w : World} {K : PySem.W.Frag} {mg : Str → Option Value} {base : Heap} {j k : Nat} {f : Addr} {fd : FuncData} {ps : List Str} {m : Fd} (F : FnG P w K mg base j f fd ps m) (h : j ≤ k) : FnG P w K mg base k f fd ps m :=
  ⟨fun A outer s H args us vs Q E hg hr => F.run A outer s H args us vs Q E hg (hr.mono h)⟩
/-- what a body may lean on -/
structure Bd (X : Cx) (W : WX) (k : Nat) : Prop where
  g : X.A.guards = some []
  r : Room k X.A
  t : Takes X W
  c : X.calm = true
theorem Bd.u {X : Cx} {W : WX} {k : Nat} (b : Bd X W k) : X.A.units + 64 < cLine := b.r.units
theorem Bd.u70 {X : Cx} {W : WX} {k : Nat} (b : Bd X W k) : X.A.units + 70 < cLine := by have := b.r.un; omega
theorem Bd.blk {X : Cx} {W : WX} {k : Nat} (b : Bd X W k) (s : Shared) (H : Hp) (scope : Scope) (e : PySem.Env) (fp : List Addr) : Bd (X.blk s H scope e fp) W0 k := ⟨b.g, b.r, takes0, b.c⟩
theorem RepE.start {K : PySem.W.Frag} {io : List Addr} {H : Hp} : ∀ {ds : List D} {vs : List V} (N : List Str), RVs K io H ds vs → RepE K io H (ds.map some ++ List.replicate (N.length - ds.length) none) (L2.start N vs) := fun {ds vs} N hv => by
  unfold L2.start
  refine ⟨by simp [hv.length], fun i d hd => ?_⟩
  by_cases hi : i < ds.length
  · rw [List.getElem?_append_left (by simpa using hi), List.getElem?_map] at hd
    cases q : ds[i]? with
    | none => rw [q] at hd; cases hd
    | some e =>
      rw [q] at hd
      cases hd
      obtain ⟨v, h1, h2⟩ := hv.get q
      refine ⟨v, ?_, h2⟩
      rw [List.getElem?_append_left (by rw [List.length_map, ← hv.length]; exact hi), List.getElem?_map, h1]
      rfl
  · rw [List.getElem?_append_right (by simpa using hi), List.getElem?_replicate] at hd
    split at hd <;> cases hd
section
variable {P : Program} {w : World} {K : PySem.W.Frag} {mg : Str → Option Value} {base : Heap}
/-- a def by its body -/
theorem fnG_of {k : Nat} {f : Addr} {name qual : Str} {params : Arguments} {body : List Stmt} {scope : Scope} {dV kV doc pm cdv ct oc : Value} {an od : Option Addr} {osl : Array (Option Value)} {N ps : List Str} {m : Sm}
    (lk : K.lookup f = some ⟨oc, od, .func (PySem.W.fnOf name qual params body scope dV kV doc pm an cdv ct), osl⟩) (hcd : PySem.W.codeIn K cdv qual = true) (S : FnScope N ps scope)
    (hb : ∀ (A : Around) (outer : List PySem.Env) (s : Shared) (H : Hp) (E : XK), Bd (cxOf (CX P w) P w K mg base N qual scope f cdv A outer s H E) (fun c d _ H => E c d H) k →
      SB (cxOf (CX P w) P w K mg base N qual scope f cdv A outer s H E) (fun c d _ H => E c d H) body m) :
    FnG P w K mg base (k + 1) f (PySem.W.fnOf name qual params body scope dV kV doc pm an cdv ct) ps (fnM N.length m) := by
  refine ⟨fun A outer s H args us vs Q E hg hr e0 hbind r hsp => ?_⟩
  obtain ⟨hl, io, h, ds, hR, hv, hA⟩ := hsp
  have inK : K.In s.heap := e0.mod.kin.keeps fun b o e => (e0.bs b o e).1
  have hkind : ∀ y ∈ ps.zip us, scope.names.lookup y.1 = some .local ∨ (scope.names.lookup y.1 = some .cell ∧ ((cellsFrom (s.heap.objs.size + 1) scope.names []).lookup y.1).isSome = true) := fun ⟨n, v⟩ hy =>
    (S.par n (List.of_mem_zip hy).1).imp id fun q => ⟨q, PySem.W.cellsFrom_some _ _ _ (.inl q)⟩
  refine codeAny_call_function hr.depth (inK _ _ lk) rfl S.co S.gen rfl (PySem.W.codeRec_of inK hcd) (hbind _ _ _ _ ?_)
  refine wpAny_newFunctionEnv_cells S.kind hkind fun env he s1 x => ?_
  subst he
  refine ⟨(e0.mod.nolimit.keeps fun b o e => (e0.bs b o e).1).keeps x.toInCall.keep, codeAny_func ?_⟩
  have I := inv_start (CX := CX P w) (E := E) (N := N) S hr.hd e0 hl r x
  have B : Bd (cxOf (CX P w) P w K mg base N qual scope f cdv A outer s H E) (fun c d _ H => E c d H) k := ⟨hg, hr.deeper _, takes_of rfl rfl rfl rfl, rfl⟩
  have q : tS K (fun c d _ H => E c d H) m { nx := fun _ H' => Q .non H', rt := Q } (L2.start N vs) H := by
    refine ⟨io, h, _, hR, RepE.start N hv, ?_⟩
    unfold fnM at hA
    cases e : m (ds.map some ++ List.replicate (N.length - ds.length) none) h with
    | bad => rw [e] at hA; exact hA.elim
    | exc x r2 h2 =>
      rw [e] at hA
      exact fun io' H' sg' c dd e1 R1 _ rx => hA io' H' c dd e1 R1 rx
    | go r2 fl h2 =>
      rw [e] at hA
      cases fl with
      | nx => exact fun io' H' sg' e1 R1 _ => hA io' H' _ e1 R1 .non
      | ret d => exact fun io' H' sg' e1 R1 _ v rv => hA io' H' v e1 R1 rv
      | brk => exact hA.elim
      | cnt => exact hA.elim
  refine wpAny_mono ((hb A outer s H E B).run [] s1 (L2.start N vs) H _ I q) (fun fl s' hs => ?_) fun e s' hs => hs
  cases fl with
  | ret u =>
    obtain ⟨v, _, H', J, rv, q2⟩ := hs
    exact ⟨v, H', J.os, J.bare, J.base, J.hok, rv, q2⟩
  | next =>
    obtain ⟨_, H', J, q2⟩ := hs
    exact ⟨.non, H', J.os, J.bare, J.base, J.hok, rfl, q2⟩
  | brk =>
    obtain ⟨_, _, _, q2⟩ := hs
    exact q2.elim
  | cont =>
    obtain ⟨_, _, _, q2⟩ := hs
    exact q2.elim
end
section
variable {X : Cx} {W : WX} {k : Nat}
/-- the callee runs -/
theorem run_g {f : Addr} {fd : FuncData} {ps : List Str} {m : Fd} {pins : List (Addr × Obj)} {sg : L2.St} {H : Hp} {s : Shared} {Q : VK} {us : List Value} {vs : List V} (B : Bd X W k) (F : FnG X.prog X.w X.K X.mg X.base k f fd ps m) (hb : Binds X.K fd ps [])
    (I : Inv X pins sg H s) (r : Vals vs us) (h : spM X.K ps.length m vs H Q (WE W sg)) : wpAny (model X.prog X.w) X.A (call (.ref f) us) (EP X pins sg Q) X.xe s := by
  have hl : (us ++ []).length = ps.length := by rw [List.append_nil, ← r.length]; exact h.1
  have hb' := hb s us I.kIn hl
  rw [List.append_nil] at hb'
  refine wpAny_call (codeAny_mono (F.run X.A X.stack s H ⟨us, []⟩ us vs Q (WE W sg) B.g B.r I.env0 hb' r h) fun r s' hq => ?_)
  cases r with
  | error e => exact passAt B.t sg pins H s e s' I hq
  | ok fl =>
    cases fl with
    | ret u => exact I.after hq
    | next => exact False.elim hq
    | brk => exact False.elim hq
    | cont => exact False.elim hq
def eFn (n : Nat) (m : Fd) (a : Ar) : Ex := fun rho h => (a rho h).bind fun ds h1 => if ds.length = n then m ds h1 else .bad
def tFn (K : PySem.W.Frag) (W : WX) (n : Nat) (m : Fd) (t : TA) : TE := fun sg H Q => t sg H fun vs H1 => spM K n m vs H1 Q (WE W sg)
theorem tfn {K : PySem.W.Frag} {n : Nat} {m : Fd} {a : Ar} {sg : L2.St} {H : Hp} {Q : VK} (h : tE K W (eFn n m a) sg H Q) : tFn K W n m (tA K W a) sg H Q := by
  obtain ⟨io, h, rho, hR, hE, hA⟩ := h
  refine ⟨io, h, rho, hR, hE, (Aft.bind hA).mono (fun ds h1 hx io1 H1 vs e1 R1 v1 => ?_) fun _ _ z => z⟩
  split at hx
  · rename_i hl
    exact ⟨by rw [← v1.length]; exact hl, io1, h1, ds, R1, v1, hx.mono (fun _ _ z => z.mono e1) fun _ _ z => z.mono e1⟩
  · exact hx.elim
theorem se_call {f : Addr} {fd : FuncData} {ps : List Str} {m : Fd} {x : Str} {e : Expr} {es : List Expr} {A : Ar} {p pos : Pos} (B : Bd X W k) (F : FnG X.prog X.w X.K X.mg X.base k f fd ps m) (hg : Gl X x) (hm : X.mg x = some (.ref f)) (hk : PySem.W.keepIn X.K (.ref f) = true) (hb : Binds X.K fd ps [])
    (ha : SA X W (e :: es) A) (hdb : (x == ("__debug__" : Str)) = false := by decide) (he : starEach (e :: es) X.env = (false, eval e X.env) :: starEach es X.env := by rfl) (hpl : (backTo pos (starEach es X.env)).any (·.1) = false := by rfl) :
    SE X W (.Call (.Name x p) (e :: es) [] pos) (eFn ps.length m A) := by
  refine pe_imp (t := tFn X.K W ps.length m (tA X.K W A)) ⟨fun pins s sg H Q I h => ?_⟩ fun sg H Q h => tfn h
  refine wpAny_Call_Name_kw (ld_glob I hg hm ?_ hdb)
  refine PySem.W.callWith_K (h₀ := X.base) I.ok.mod.kin hk (thn (ha.run pos pins s sg H _ I h) fun us s1 ⟨vs, H1, I1, r, q⟩ => ⟨I1.kIn, ?_⟩) he hpl
  exact run_g B F hb I1 r q
theorem se_call0 {f : Addr} {fd : FuncData} {ps : List Str} {m : Fd} {x : Str} {p pos : Pos} (B : Bd X W k) (F : FnG X.prog X.w X.K X.mg X.base k f fd ps m) (hg : Gl X x) (hm : X.mg x = some (.ref f)) (hk : PySem.W.keepIn X.K (.ref f) = true) (hb : Binds X.K fd ps [])
    (hdb : (x == ("__debug__" : Str)) = false := by decide) : SE X W (.Call (.Name x p) [] [] pos) (eFn ps.length m aNil) := by
  refine pe_imp (t := tFn X.K W ps.length m tNil) ⟨fun pins s sg H Q I h => ?_⟩ fun sg H Q h => ?_
  · refine wpAny_Call_Name_kw (ld_glob I hg hm ?_ hdb)
    exact PySem.W.callWith_K0 I.kIn hk (run_g (us := []) (vs := []) B F hb I .nil h)
  · obtain ⟨io, h, rho, hR, hE, hA⟩ := tfn h
    exact hA io H [] (Ext.refl _ _) hR .nil
end
end Mv

namespace Mv
open PySem L2 PySem.W PyProof.Rows

/-! ### the law's own call, at the heap behind the top -/
theorem law_core {P : Program} {w : World} {K : PySem.W.Frag} {mg mb : Str → Option Value} {k : Nat} {fa a : Addr} {fd : FuncData} {x : Str} {m : Fd} {s : Shared} {ns : List Int} {ob : Obj} {H : Hp}
    (hH : ∀ b u, H b = some u → b = a ∧ u = .frz ob (.lst (ns.map V.int)) ∧ K.lookup a = none) (sc : Sc K H a (ns.map V.int)) (hok : HOk P w H s.heap) (hob : s.heap.get? a = some ob) (hnd : ∀ es ep, ob.data ≠ .dict es ep)
    (KX : K.In s.heap) (hns : s.heap.Ns mainGlobals mg) (hb : s.heap.Ns builtinsNs mb) (hbb : ∀ x : Str, x ≠ "__name__" → mb x = bootBuiltins x) (hlim : s.heap.NoLimit) (hg : s.gens = #[]) (hr : Room k callerA)
    (F : ∀ base : Heap, K.In base → base.Ns mainGlobals mg → FnG P w K mg base k fa fd [x] m) (hbind : ∀ (s : Shared) (u : Value), BindsTo s fd ⟨[u], []⟩ [(x, u)])
    (hm : ∃ h', m [.scr ns] [] = .ok (.bl true) h') :
    codeAny (model P w) callerA (.call (.ref fa) ⟨[.ref a], []⟩) (fun r s' => r = .ok (.ret (.bool true)) ∧ OldK s.heap s'.heap ∧ s'.os = s.os ∧ AllBare s'.gens) s := by
  have free : ∀ {b : Addr} {o : Obj}, s.heap.get? b = some o → H b = none → (hidT s.heap H).get? b = some o := fun e n => hidT_get e n
  have nH : ∀ {b : Addr} {o : Obj} {es : Array DictEntry} {ep : Nat}, s.heap.get? b = some o → o.data = .dict es ep → H b = none := fun {b o es ep} e d => by
    cases q : H b with
    | none => rfl
    | some u =>
      obtain ⟨rfl, _, _⟩ := hH b u q
      rw [hob] at e
      cases e
      exact absurd d (hnd _ _)
  have nsB : ∀ {b : Addr} {f : Str → Option Value}, s.heap.Ns b f → (hidT s.heap H).Ns b f := fun {b f} ⟨o, es, ep, e, d, r⟩ => ⟨o, es, ep, free e (nH e d), d, r⟩
  have kB : K.In (hidT s.heap H) := fun b o e => free (KX b o e) (by
    cases q : H b with
    | none => rfl
    | some u =>
      obtain ⟨rfl, _, kn⟩ := hH b u q
      rw [kn] at e
      cases e)
  obtain ⟨mc, l1, l2⟩ := hlim
  have e0 : Env0 P w K mg (hidT s.heap H) callerA [] s H := ⟨rfl, ⟨kB, nsB hns, ⟨mb, nsB hb, hbb⟩, ⟨mc, nsB l1, l2⟩⟩, fun b o e => of_hidT e, Nat.le_of_eq (hidT_size _ _), trivial, (fun b z => nomatch z), hok, AllBare.of_eq hg⟩
  obtain ⟨h', hm⟩ := hm
  refine codeAny_mono ((F _ kB (nsB hns)).run callerA [] s H ⟨[.ref a], []⟩ [.ref a] [.ref a] (fun v _ => v = .bl true) (fun _ _ _ => False) rfl hr e0 (hbind s (.ref a)) (.cons rfl .nil) ?_) fun r s' hq => ?_
  · refine ⟨rfl, [], [], [.scr ns], ⟨rfl, .nil, fun n o a h1 => by simp at h1⟩, .cons (.scr sc) .nil, ?_⟩
    rw [hm]
    intro io' H' v _ _ rv
    cases rv
    rfl
  · cases r with
    | error e =>
      obtain ⟨_, _, _, _, _, _, _, _, _, _, _, _, f⟩ := hq
      exact f.elim
    | ok fl =>
      cases fl with
      | ret u =>
        obtain ⟨v, H', os, bare, un, hok', rv, q⟩ := hq
        have q' : v = .bl true := q
        subst q'
        obtain rfl : u = Value.bool true := rv
        refine ⟨rfl, OldK.of_keep fun b o e => ?_, os, bare⟩
        cases qb : H b with
        | none => exact un.keep b o e qb (by intro z; cases z) (by intro z; cases z)
        | some u =>
          obtain ⟨rfl, rfl, _⟩ := hH b u qb
          obtain ⟨e2, _⟩ := hok' _ _ (un.frzs _ _ _ qb)
          rw [hob] at e
          cases e
          exact e2
      | next => exact False.elim hq
      | brk => exact False.elim hq
      | cont => exact False.elim hq
theorem walk_g {l : OpenLaw} {n k : Nat} {q : Program} {loose : List Str} {XP : (Str → Option Value) → Heap → Prop} {YP : World → Heap → Prop} {d : DefRec} {x : Str}
    (hn : l.most = some n) (hn2 : n ≤ sizeLine) (hdf : d.params.defaults = []) (hr : Room k callerA)
    (F : ∀ (w : World) (mg : Str → Option Value) (fa : Addr) (h : Heap), YP w h → h.Ns mainGlobals mg → mg d.name = some (.ref fa) →
      ∃ (K : PySem.W.Frag) (fd : FuncData) (m : Fd), K.In h ∧ (∀ (s : Shared) (u : Value), BindsTo s fd ⟨[u], []⟩ [(x, u)]) ∧ (∀ ns : List Int, ns.length ≤ n → ∃ h', m [.scr ns] [] = .ok (.bl true) h') ∧
        ∀ base : Heap, K.In base → base.Ns mainGlobals mg → FnG l.prog w K mg base k fa fd [x] m) :
    PySem.W.WalkO q loose XP YP l.row.toRowW d [] (fun f vs => PySem.call f vs) := by
  refine Att.attach_call hn hdf fun w s0 s1 mg mb fa o pm cd doc a vs ns G Y ho hd hcd hmg hobj hints hlen hg => ?_
  obtain ⟨K, fd, m, KX, hb, hm, hF⟩ := F w mg fa _ Y G.T.g hmg
  have rv := vals_ints hints
  have hl : ns.length ≤ sizeLine := Nat.le_trans hlen hn2
  have nodict : ∀ (es : Array DictEntry) (ep : Nat), ({ cls := .type "list", data := .seq vs.toArray } : Obj).data ≠ .dict es ep := fun es ep z => nomatch z
  cases hk : K.lookup a with
  | some o2 =>
    have e := KX a o2 hk
    rw [hobj] at e
    cases e
    refine law_core (H := fun _ => none) (a := a) (ns := ns) (fun b u z => nomatch z) (.inr ⟨_, vs.toArray, _, hk, rfl, rfl, rfl, by rw [List.size_toArray, hints.length]; exact hl, by simpa using rv⟩) (fun b u z => nomatch z) hobj nodict KX G.T.g G.T.b G.T.builtins G.T.nolimit hg hr hF hb (hm ns hlen)
  | none =>
    have at_ : ∀ (b : Addr) (u : HO), (if b = a then some (HO.frz { cls := .type "list", data := .seq vs.toArray } (.lst (ns.map V.int))) else none) = some u → b = a ∧ u = .frz { cls := .type "list", data := .seq vs.toArray } (.lst (ns.map V.int)) := fun b u z => by
      by_cases hb : b = a
      · rw [if_pos hb] at z
        cases z
        exact ⟨hb, rfl⟩
      · rw [if_neg hb] at z
        cases z
    refine law_core (H := fun b => if b = a then some (.frz { cls := .type "list", data := .seq vs.toArray } (.lst (ns.map V.int))) else none) (a := a) (ns := ns) (fun b u z => ⟨(at_ b u z).1, (at_ b u z).2, hk⟩) (.inl ⟨_, if_pos rfl⟩) (fun b u z => ?_) hobj nodict KX G.T.g G.T.b G.T.builtins G.T.nolimit hg hr hF hb (hm ns hlen)
    obtain ⟨rfl, rfl⟩ := at_ b u z
    exact ⟨hobj, by rw [List.length_map]; exact hl, vs, _, rv, hobj⟩

/-! ### the text's own constants and defs, as the head tells them -/
def relD (K : PySem.W.Frag) : Nat → D → Value → Bool
  | 0, _, _ => false
  | _ + 1, .non, .none => true
  | _ + 1, .bl b, .bool c => decide (b = c)
  | _ + 1, .int i, .int j _ => decide (i = j)
  | _ + 1, .str s, .str z _ => decide (s = z) && (PyData.strOk s && decide (s.length ≤ sizeLine))
  | n + 1, .tup ds, .ref a => match K.lookup a with
    | some ⟨.type c, _, .seq its _, _⟩ => decide (c = "tuple") && (decide (its.size ≤ sizeLine) && (decide (ds.length = its.toList.length) && (ds.zip its.toList).all fun p => relD K n p.1 p.2))
    | _ => false
  | _ + 1, _, _ => false
theorem relD_zip {K : PySem.W.Frag} {n : Nat} (h : ∀ d u, relD K n d u = true → ∃ v, RelV v u ∧ ∀ io H, RV K io H d v) : ∀ (ds : List D) (us : List Value), ds.length = us.length → ((ds.zip us).all fun p => relD K n p.1 p.2) = true → ∃ vs, Vals vs us ∧ ∀ io H, RVs K io H ds vs
  | [], [], _, _ => ⟨[], .nil, fun _ _ => .nil⟩
  | [], _ :: _, hl, _ => by cases hl
  | _ :: _, [], hl, _ => by cases hl
  | d :: ds, u :: us, hl, ha => by
    have ha' : relD K n d u = true ∧ ((ds.zip us).all fun p => relD K n p.1 p.2) = true := by simpa using ha
    obtain ⟨v, r, e⟩ := h d u ha'.1
    obtain ⟨vs, rs, es⟩ := relD_zip h ds us (by simpa using hl) ha'.2
    exact ⟨v :: vs, .cons r rs, fun io H => .cons (e io H) (es io H)⟩
theorem relD_ok {K : PySem.W.Frag} : ∀ (n : Nat) (d : D) (u : Value), relD K n d u = true → ∃ v, RelV v u ∧ ∀ io H, RV K io H d v
  | 0, _, _, h => by cases h
  | n + 1, d, u, h => by
    unfold relD at h
    split at h
    · cases ‹n + 1 = 0›
    · exact ⟨.non, rfl, fun _ _ => .non⟩
    · have e := of_decide_eq_true h
      subst e
      exact ⟨.bl _, rfl, fun _ _ => .bl _⟩
    · have e := of_decide_eq_true h
      subst e
      exact ⟨.int _, ⟨_, rfl⟩, fun _ _ => .int _⟩
    · obtain ⟨h1, h2⟩ := Bool.and_eq_true_iff.mp h
      obtain ⟨h3, h4⟩ := Bool.and_eq_true_iff.mp h2
      have e := of_decide_eq_true h1
      subst e
      exact ⟨.str _, ⟨_, rfl⟩, fun _ _ => .str _ ⟨h3, of_decide_eq_true h4⟩⟩
    · rename_i m ds a hm
      have hm' : m = n := (Nat.succ.inj hm).symm
      subst hm'
      split at h
      · rename_i c od its k sl hk
        obtain ⟨h1, h2⟩ := Bool.and_eq_true_iff.mp h
        obtain ⟨h3, h4⟩ := Bool.and_eq_true_iff.mp h2
        obtain ⟨h5, h6⟩ := Bool.and_eq_true_iff.mp h4
        obtain ⟨vs, rs, es⟩ := relD_zip (relD_ok m) ds its.toList (of_decide_eq_true h5) h6
        exact ⟨.ref a, rfl, fun io H => .tup (.inr ⟨_, its, k, hk, congrArg Value.type (of_decide_eq_true h1), rfl, of_decide_eq_true h3, rs⟩) (es io H)⟩
      · cases h
    · cases h
/-- a constant of the module -/
def Cst (K : PySem.W.Frag) (mg : Str → Option Value) (x : Str) (d : D) : Prop := ∃ u v, mg x = some u ∧ RelV v u ∧ ∀ io H, RV K io H d v
def cst (K : PySem.W.Frag) (p : Str × D) : Bool := match PySem.W.nsIn K mainGlobals p.1 with
  | some (some u) => relD K 6 p.2 u
  | _ => false
theorem cst_ok {K : PySem.W.Frag} {h : Heap} {mg : Str → Option Value} (X : K.In h) (G : h.Ns mainGlobals mg) {x : Str} {d : D} (c : cst K (x, d) = true) : Cst K mg x d := by
  unfold cst at c
  split at c
  · rename_i u hu
    obtain ⟨v, r, e⟩ := relD_ok 6 d u c
    exact ⟨u, v, PySem.W.mg_of X G hu, r, e⟩
  · cases c
theorem se_glob {X : Cx} {W : WX} {x : Str} {d : D} {pos : Pos} (hg : Gl X x) (c : Cst X.K X.mg x d) (hd : (x == ("__debug__" : Str)) = false := by decide) : SE X W (.Name x pos) (eC d) := by
  obtain ⟨u, v, h1, h2, h3⟩ := c
  exact se_c (pe_glob hg h1 h2 hd) h3
/-- a def of the module -/
def HasFn (P : Program) (w : World) (K : PySem.W.Frag) (mg : Str → Option Value) (base : Heap) (k : Nat) (x : Str) (ps : List Str) (m : Fd) : Prop :=
  ∃ fd, FnG P w K mg base k (He.ga K x) fd ps m ∧ mg x = some (.ref (He.ga K x)) ∧ PySem.W.keepIn K (.ref (He.ga K x)) = true ∧ Binds K fd ps []
theorem HasFn.mono {P : Program} {w : World} {K : PySem.W.Frag} {mg : Str → Option Value} {base : Heap} {j k : Nat} {x : Str} {ps : List Str} {m : Fd} (h : HasFn P w K mg base j x ps m) (hk : j ≤ k) : HasFn P w K mg base k x ps m := by
  obtain ⟨fd, F, r⟩ := h
  exact ⟨fd, F.mono hk, r⟩
theorem se_fn {X : Cx} {W : WX} {j k : Nat} {x : Str} {ps : List Str} {m : Fd} {e : Expr} {es : List Expr} {A : Ar} {p pos : Pos} (B : Bd X W k) (F : HasFn X.prog X.w X.K X.mg X.base j x ps m) (hk : j ≤ k) (hg : Gl X x) (ha : SA X W (e :: es) A)
    (hdb : (x == ("__debug__" : Str)) = false := by decide) (he : starEach (e :: es) X.env = (false, eval e X.env) :: starEach es X.env := by rfl) (hpl : (backTo pos (starEach es X.env)).any (·.1) = false := by rfl) : SE X W (.Call (.Name x p) (e :: es) [] pos) (eFn ps.length m A) := by
  obtain ⟨fd, F, h1, h2, h3⟩ := F
  exact se_call B (F.mono hk) hg h1 h2 h3 ha hdb he hpl
theorem se_fn0 {X : Cx} {W : WX} {j k : Nat} {x : Str} {ps : List Str} {m : Fd} {p pos : Pos} (B : Bd X W k) (F : HasFn X.prog X.w X.K X.mg X.base j x ps m) (hk : j ≤ k) (hg : Gl X x) (hdb : (x == ("__debug__" : Str)) = false := by decide) : SE X W (.Call (.Name x p) [] [] pos) (eFn ps.length m aNil) := by
  obtain ⟨fd, F, h1, h2, h3⟩ := F
  exact se_call0 B (F.mono hk) hg h1 h2 h3 hdb
/-- a def's body gives the def -/
theorem fn_g {P : Program} {w : World} {K : PySem.W.Frag} {mg : Str → Option Value} {base : Heap} {k : Nat} {x : Str} {f : Addr} {st : Stmt} {N ps : List Str} {m : Sm} {fd : FuncData} {dvs : List V} {kws : List (Str × V)} (F : FunD K x x (defArgs st) (defBody st) (defScope st) dvs kws f fd) (S : FnScope N ps (defScope st))
    (h : ∀ (cdv : Value) (A : Around) (outer : List PySem.Env) (s : Shared) (H : Hp) (E : XK), Bd (cxOf (CX P w) P w K mg base N x (defScope st) f cdv A outer s H E) (fun c d _ H => E c d H) k →
      SB (cxOf (CX P w) P w K mg base N x (defScope st) f cdv A outer s H E) (fun c d _ H => E c d H) (defBody st) m) : FnG P w K mg base (k + 1) f fd ps (fnM N.length m) := by
  obtain ⟨oc, od, dV, kV, doc, pm, an, cdv, ct, osl, rfl, lk, hcd, _, _⟩ := F.ex
  exact fnG_of lk hcd S fun A outer s H E B => h cdv A outer s H E B
/-- nothing is promised -/
theorem has_bad {P : Program} {w : World} {K : PySem.W.Frag} {mg : Str → Option Value} {base : Heap} {k : Nat} {x : Str} {st : Stmt} {ps : List Str} {fd : FuncData} (F : FunD K x x (defArgs st) (defBody st) (defScope st) [] [] (He.ga K x) fd) (hm : mg x = some (.ref (He.ga K x)))
    (hb : ∀ (kV doc pm : Value) (an : Option Addr) (cdv ct : Value) (us : List Value), us.length = ps.length → bindArgs (PySem.W.fnOf x x (defArgs st) (defBody st) (defScope st) .none kV doc pm an cdv ct) ⟨us, []⟩ = pure (ps.zip us)) : HasFn P w K mg base k x ps (fun _ _ => .bad) :=
  ⟨fd, ⟨fun A outer s H args us vs Q E _ _ _ _ _ hsp => by
    obtain ⟨_, _, _, _, _, _, z⟩ := hsp
    exact z.elim⟩, hm, F.kp, F.bindsN (ps := ps) hb⟩
theorem has_fn {P : Program} {w : World} {K : PySem.W.Frag} {mg : Str → Option Value} {base : Heap} {k : Nat} {x : Str} {st : Stmt} {N ps : List Str} {m : Sm} {fd : FuncData} (F : FunD K x x (defArgs st) (defBody st) (defScope st) [] [] (He.ga K x) fd) (hm : mg x = some (.ref (He.ga K x)))
    (hb : ∀ (kV doc pm : Value) (an : Option Addr) (cdv ct : Value) (us : List Value), us.length = ps.length → bindArgs (PySem.W.fnOf x x (defArgs st) (defBody st) (defScope st) .none kV doc pm an cdv ct) ⟨us, []⟩ = pure (ps.zip us)) (S : FnScope N ps (defScope st))
    (h : ∀ (cdv : Value) (A : Around) (outer : List PySem.Env) (s : Shared) (H : Hp) (E : XK), Bd (cxOf (CX P w) P w K mg base N x (defScope st) (He.ga K x) cdv A outer s H E) (fun c d _ H => E c d H) k →
      SB (cxOf (CX P w) P w K mg base N x (defScope st) (He.ga K x) cdv A outer s H E) (fun c d _ H => E c d H) (defBody st) m) : HasFn P w K mg base (k + 1) x ps (fnM N.length m) := by
  have b := F.bindsN (ps := ps) hb
  have kp := F.kp
  obtain ⟨oc, od, dV, kV, doc, pm, an, cdv, ct, osl, rfl, lk, hcd, _, _⟩ := F.ex
  exact ⟨_, fnG_of lk hcd S fun A outer s H E B => h cdv A outer s H E B, hm, kp, b⟩
/-- the head's hook: facts, defs, constants -/
def obsM (cs : List (Str × D)) (fa : List He.Fa) (fn : List He.DefD) (K : PySem.W.Frag) : He.AlD := ((He.obsD fa fn K).1 && cs.all (cst K), (He.obsD fa fn K).2)
def obsMG (n : Nat) (cs : List (Str × D)) (fa : List He.Fa) (fn : List He.DefD) (g : Addr → Option Obj) : He.AlD := obsM cs fa fn (He.frG g (He.asD g n))
def SaysM (cs : List (Str × D)) (fa : List He.Fa) (fn : List He.DefD) (K : PySem.W.Frag) : Prop := obsM cs fa fn K = He.valD fn
def hookM (n : Nat) (cs : List (Str × D)) (fa : List He.Fa) (fn : List He.DefD) : PySem.W.Hook where
  α := He.AlD
  obs := fun s => obsMG n cs fa fn s.heap.get?
  val := fun _ => He.valD fn
  says := fun _ h => ∃ K : PySem.W.Frag, K.In h ∧ SaysM cs fa fn K
  of := fun _ _ e => ⟨_, He.frG_in, e⟩
  keeps := fun _ _ _ ⟨K, hK, c⟩ k => ⟨K, PySem.W.Frag.In.keeps hK k, c⟩
theorem obsMG_eq {n : Nat} {cs : List (Str × D)} {fa : List He.Fa} {fn : List He.DefD} {g : Addr → Option Obj} {s : Shared} (h : ∀ a, g a = s.heap.get? a) : obsMG n cs fa fn g = (hookM n cs fa fn).obs s := by
  have e : g = s.heap.get? := funext h
  rw [e] <;> rfl
theorem SaysM.d {cs : List (Str × D)} {fa : List He.Fa} {fn : List He.DefD} {K : PySem.W.Frag} (c : SaysM cs fa fn K) : He.SaysD fa fn K := by
  have c' : obsM cs fa fn K = He.valD fn := c
  have h1 : ((He.obsD fa fn K).1 && cs.all (cst K)) = true := congrArg Prod.fst c'
  have h2 : (obsM cs fa fn K).2 = (He.valD fn).2 := by rw [c']
  have h3 : He.obsD fa fn K = He.valD fn := Prod.ext (Bool.and_eq_true_iff.mp h1).1 h2
  exact h3
theorem SaysM.c {cs : List (Str × D)} {fa : List He.Fa} {fn : List He.DefD} {K : PySem.W.Frag} (c : SaysM cs fa fn K) (i : Nat) {p : Str × D} (h : cs[i]? = some p := by rfl) : cst K p = true := by
  have c' : obsM cs fa fn K = He.valD fn := c
  have h1 : ((He.obsD fa fn K).1 && cs.all (cst K)) = true := congrArg Prod.fst c'
  exact List.all_eq_true.mp (Bool.and_eq_true_iff.mp h1).2 p (List.mem_of_getElem? h)
end Mv

namespace Mv
open PySem L2
section
variable {X : Cx} {W : WX}
/-! ### a sum of lists, to be laid into the virtual heap -/
def lAdd (a b : Ex) : Ar := fun rho h => (a rho h).bind fun x h1 => (b rho h1).bind fun y h2 => match listM x h2, listM y h2 with
  | some xs, some ys => if xs.length + ys.length ≤ sizeLine then .ok (xs ++ ys) h2 else .bad
  | _, _ => .bad
theorem sl_add {a b : Expr} {A B : Ex} {pos : Pos} (ha : SE X W a A) (hb : SE X W b B) : SL X W (.BinOp a .Add b pos) (lAdd A B) := by
  refine pe_imp (pe_op op_catR ha hb) fun sg H Q ⟨io, h, rho, hR, hE, hA⟩ => ?_
  refine ⟨io, h, rho, hR, hE, (Aft.bind hA).mono (fun x h1 hx => ?_) fun _ _ z => z⟩
  intro io1 H1 v e1 R1 v1
  refine ⟨io1, h1, rho, R1, hE.mono e1.toExt0, (Aft.bind hx).mono (fun y h2 hy => ?_) fun _ _ z => z.mono e1⟩
  intro io2 H2 u e2 R2 v2
  split at hy
  · rename_i xs ys l1 l2
    split at hy
    · rename_i hl
      obtain ⟨p, us, rfl, f1, w1⟩ := listM_of R2 (RV.mono e2.toExt0 _ _ v1) l1
      obtain ⟨q, ws, rfl, f2, w2⟩ := listM_of R2 v2 l2
      exact ⟨p, q, us, ws, rfl, rfl, f1, f2, by rw [← w1.length, ← w2.length]; exact hl, fun p hp => hy io2 H2 p _ (e1.trans e2) R2 hp (w1.append w2)⟩
    · exact hy.elim
  · exact hy.elim
/-! ### an empty dict -/
def eDn : Ex := fun rho h => .ok (.loc h.length) (h ++ [.dK []])
theorem se_dn {pos : Pos} : SE X W (.Dict [] [] pos) eDn := pe_imp pe_dnewK fun sg H Q ⟨io, h, rho, r, hE, hA⟩ p h0 =>
  hA (io ++ [p]) _ _ (ext_new r h0) (r.new h0 ⟨[], rfl, .nil⟩) (.loc (by rw [← r.len, List.getElem?_append_right (Nat.le_refl _)]; simp))
def eDnT : Ex := fun rho h => .ok (.loc h.length) (h ++ [.dT []])
theorem se_dnT {pos : Pos} : SE X W (.Dict [] [] pos) eDnT := pe_imp pe_dnewT fun sg H Q ⟨io, h, rho, r, hE, hA⟩ p h0 =>
  hA (io ++ [p]) _ _ (ext_new r h0) (r.new h0 ⟨[], rfl, .nil⟩) (.loc (by rw [← r.len, List.getElem?_append_right (Nat.le_refl _)]; simp))
/-! ### is a truth -/
def isBF : F2
  | .bl a, .bl b, h => some (.bl (decide (a = b)), h)
  | _, _, _ => none
theorem m_isB : OpM X (compareOp .Is) isBF := ⟨_, op_is_bl, fun io h H x y v u Q d h' r hx hy e p => by
  unfold isBF at e
  split at e
  · cases hx; cases hy; cases e
    exact ⟨_, _, rfl, rfl, p.here r (.bl _)⟩
  · cases e⟩
def notBF : F2
  | .bl a, .bl b, h => some (.bl (!decide (a = b)), h)
  | _, _, _ => none
theorem m_notB : OpM X (compareOp .IsNot) notBF := ⟨_, op_isnot_bl, fun io h H x y v u Q d h' r hx hy e p => by
  unfold notBF at e
  split at e
  · cases hx; cases hy; cases e
    exact ⟨_, _, rfl, rfl, p.here r (.bl _)⟩
  · cases e⟩
theorem m_nin : OpM X (compareOp .NotIn) ninF := ⟨_, opR_or op_notin_str op_notIn_seq, fun io h H x y v u Q d h' r hx hy e p => by
  unfold ninF at e
  split at e
  · cases hx; cases hy; cases e
    refine .inl ⟨_, _, rfl, rfl, ?_⟩
    rw [Bool.not_not]
    exact p.here r (.bl _)
  · split at e
    · rename_i ds q
      split at e
      · rename_i hf
        cases e
        obtain ⟨a, xs, rfl, e2, e3⟩ := seqOf_of r hy q
        refine .inr ⟨a, xs, rfl, e2, flat_of hx hf.1, flats_of e3 hf.2, ?_⟩
        rw [if_pos rfl, inD_of hx hf.1 e3 hf.2]
        exact p.here r (.bl _)
      · cases e
    · cases e⟩
def FU : Nat := 100000
end
end Mv

namespace Mv
open PySem L2

/-! ### fields of instances -/
def putFD (f : Str) (v : D) : List (Str × D) → List (Str × D)
  | [] => [(f, v)]
  | (g, x) :: r => if g = f then (g, v) :: r else (g, x) :: putFD f v r
abbrev okT : Str → Prop := fun _ => True
theorem RK.lookup {K : PySem.W.Frag} {io : List Addr} {H : Hp} {f : Str} {d : D} : ∀ {fs : List (Str × D)} {vs : List (Str × V)}, RK K io H okT fs vs → fs.lookup f = some d → ∃ v, vs.lookup f = some v ∧ RV K io H d v
  | [], _, h, e => by simp at e
  | (g, x) :: r, _, h, e => by
    cases h with
    | cons h0 h1 h2 =>
      rw [List.lookup_cons] at e ⊢
      cases q : (f == g) with
      | true =>
        simp only [q] at e ⊢
        cases e
        exact ⟨_, rfl, h1⟩
      | false =>
        simp only [q] at e ⊢
        exact RK.lookup h2 e
theorem RK.lookupN {K : PySem.W.Frag} {io : List Addr} {H : Hp} {f : Str} : ∀ {fs : List (Str × D)} {vs : List (Str × V)}, RK K io H okT fs vs → fs.lookup f = none → vs.lookup f = none
  | [], _, h, e => by cases h; rfl
  | (g, x) :: r, _, h, e => by
    cases h with
    | cons h0 h1 h2 =>
      rw [List.lookup_cons] at e ⊢
      cases q : (f == g) with
      | true => simp only [q] at e; cases e
      | false =>
        simp only [q] at e ⊢
        exact RK.lookupN h2 e
theorem RK.putF {K : PySem.W.Frag} {io : List Addr} {H : Hp} {f : Str} {d : D} {v : V} (rv : RV K io H d v) : ∀ {fs : List (Str × D)} {vs : List (Str × V)}, RK K io H okT fs vs → RK K io H okT (putFD f d fs) (L2.putF f v vs)
  | [], _, h => by
    cases h
    exact .cons trivial rv .nil
  | (g, x) :: r, _, h => by
    cases h with
    | cons h0 h1 h2 =>
      unfold putFD L2.putF
      by_cases q : g = f
      · rw [if_pos q, if_pos q]
        exact .cons trivial rv h2
      · rw [if_neg q, if_neg q]
        exact .cons trivial h1 (RK.putF rv h2)
/-- what of a class is asked -/
structure ClF (K : PySem.W.Frag) (f : Str) (c : Str) : Prop where
  cl : Cls K (He.ga K c)
  no : NoAttr K (He.ga K c) f
def fldF (cs : List Str) (f : Str) : F1
  | .loc n, h => match h[n]? with
    | some (.ins c fs) => if c ∈ cs then match fs.lookup f with
        | some d => some (d, h)
        | none => none
      else none
    | _ => none
  | _, _ => none
section
variable {X : Cx} {W : WX}
theorem RepH.ins {K : PySem.W.Frag} {io : List Addr} {h : VH} {H : Hp} (r : RepH K io h H) {n : Nat} {a : Addr} {c : Str} {fs : List (Str × D)} (ha : io[n]? = some a) (e : h[n]? = some (.ins c fs)) : ∃ dx vs, H a = some (.ins (He.ga K c) dx vs) ∧ RK K io H okT fs vs := by
  obtain ⟨ho, e1, dx, vs, rfl, e2⟩ := r.ob n _ a e ha
  exact ⟨dx, vs, e1, e2⟩
theorem se_fld {cs : List Str} {f : Str} {o : Expr} {O : Ex} {pos : Pos} (hc : ∀ c ∈ cs, ClF X.K f c) (ho : SE X W o O) (hb : attributeBase o f X.env (eval o X.env) = eval o X.env := by rfl) : SE X W (.Attribute o f pos) (eUn (fldF cs f) O) := by
  refine pe_imp (pe_fld ho hb) fun sg H Q h => ?_
  refine one (r := fun x H1 Q => ∃ a C dx fs v, x = .ref a ∧ H1 a = some (.ins C dx fs) ∧ Cls X.K C ∧ NoAttr X.K C f ∧ fs.lookup f = some v ∧ Q v H1) (fun io h H x v Q d h' r hx e p => ?_) h
  unfold fldF at e
  split at e
  · rename_i n
    cases hx with
    | loc ha =>
      split at e
      · rename_i c fs q
        split at e
        · rename_i hcs
          split at e
          · rename_i d' hl
            cases e
            obtain ⟨dx, vs, e1, e2⟩ := r.ins ha q
            obtain ⟨v, l, rv⟩ := e2.lookup hl
            exact ⟨_, _, dx, vs, v, rfl, e1, (hc c hcs).cl, (hc c hcs).no, l, p.here r rv⟩
          · cases e
        · cases e
      · cases e
  · cases e
/-- o.f = e -/
def setF (cs : List Str) (f : Str) (x v : D) (h : VH) : Option VH := match x with
  | .loc n => match h[n]? with
    | some (.ins c fs) => if c ∈ cs ∧ fs.length < 1000 then some (h.set n (.ins c (putFD f v fs))) else none
    | _ => none
  | _ => none
theorem setF_of {K : PySem.W.Frag} {io : List Addr} {h h' : VH} {H : Hp} {cs : List Str} {f : Str} {x v : D} {w u : V} (r : RepH K io h H) (hx : RV K io H x w) (hv : RV K io H v u) (e : setF cs f x v h = some h') :
    ∃ a c dx fs, w = .ref a ∧ c ∈ cs ∧ H a = some (.ins (He.ga K c) dx fs) ∧ fs.length < 1000 ∧ Ext io H io (upd H a (.ins (He.ga K c) dx (L2.putF f u fs))) ∧ RepH K io h' (upd H a (.ins (He.ga K c) dx (L2.putF f u fs))) := by
  unfold setF at e
  split at e
  · rename_i n
    cases hx with
    | loc ha =>
      split at e
      · rename_i c fs q
        split at e
        · rename_i hcs
          cases e
          obtain ⟨dx, vs, e1, e2⟩ := r.ins ha q
          have E := ext_set (ho := .ins (He.ga K c) dx (L2.putF f u vs)) r ha e1 (fun _ z => nomatch z) (fun _ _ z => nomatch z)
          refine ⟨_, c, dx, vs, rfl, hcs.1, e1, by rw [← e2.length]; exact hcs.2, E, ?_⟩
          exact r.setO (o := .ins (He.ga K c) dx vs) ha E ⟨dx, _, rfl, (e2.mono E.toExt0).putF (RV.mono E.toExt0 _ _ hv)⟩
        · cases e
      · cases e
  · cases e
def sFldS (cs : List Str) (f : Str) (o a : Ex) : Sm := fun rho h => (a rho h).toS rho fun v h1 => (o rho h1).toS rho fun x h2 => match setF cs f x v h2 with
  | some h3 => .go rho .nx h3
  | none => .bad
theorem ss_fld {cs : List Str} {f : Str} {o e : Expr} {O A : Ex} {pos' pos : Pos} (hc : ∀ c ∈ cs, ClF X.K f c) (ho : SE X W o O) (ha : SE X W e A) (hs : swapsWith e (some (.Attribute o f pos')) pos.line X.env = pure false := by rfl) : SS X W (.Assign [.Attribute o f pos'] e pos) (sFldS cs f O A) := by
  refine ps_imp (ps_fld ho ha hs) fun De sg H ⟨io, h, rho, hR, hE, hA⟩ => ?_
  refine ⟨io, h, rho, hR, hE, (AftS.toS hA).mono (fun v h1 hx io1 H1 u e1 R1 v1 => ?_) fun _ _ z => z.zx hE⟩
  refine ⟨io1, h1, rho, R1, hE.mono e1.toExt0, (AftS.toS hx).mono (fun x h2 hx io2 H2 w e2 R2 v2 => ?_) fun _ _ z => (z.mono e1).zx (hE.mono e1.toExt0)⟩
  have e12 := e1.trans e2
  split at hx
  · rename_i h3 hq
    obtain ⟨a, c, dx, fs, rfl, hcs, e4, hl, E, R3⟩ := setF_of R2 v2 (RV.mono e2.toExt0 _ _ v1) hq
    exact ⟨a, _, dx, fs, rfl, e4, (hc c hcs).cl, (hc c hcs).no, hl, hx io2 _ sg (e12.trans E) R3 (hE.mono (e12.trans E).toExt0)⟩
  · exact hx.elim
/-- o.f op= e -/
def sFldA (cs : List Str) (f : Str) (g : F2) (o a : Ex) : Sm := fun rho h => (o rho h).toS rho fun x h1 => match fldF cs f x h1 with
  | some (v, _) => (a rho h1).toS rho fun y h2 => match g v y h2 with
    | some (z, h3) => match setF cs f x z h3 with
      | some h4 => .go rho .nx h4
      | none => .bad
    | none => .bad
  | none => .bad
def InM (X : Cx) (op : Operator) (f : F2) : Prop := ∃ r, InOp X op r ∧ OpS X.K f r
theorem fldF_of {K : PySem.W.Frag} {io : List Addr} {h h' : VH} {H : Hp} {cs : List Str} {f : Str} {x d : D} {w : V} (r : RepH K io h H) (hx : RV K io H x w) (e : fldF cs f x h = some (d, h')) :
    ∃ n a c dx fs v, x = .loc n ∧ io[n]? = some a ∧ w = .ref a ∧ c ∈ cs ∧ H a = some (.ins (He.ga K c) dx fs) ∧ fs.lookup f = some v ∧ RV K io H d v := by
  unfold fldF at e
  split at e
  · rename_i n
    cases hx with
    | loc ha =>
      split at e
      · rename_i c fs q
        split at e
        · rename_i hcs
          split at e
          · rename_i d' hl
            cases e
            obtain ⟨dx, vs, e1, e2⟩ := r.ins ha q
            obtain ⟨v, l, rv⟩ := e2.lookup hl
            exact ⟨n, _, c, dx, vs, v, rfl, ha, rfl, hcs, e1, l, rv⟩
          · cases e
        · cases e
      · cases e
  · cases e
theorem ga_inj_of {K : PySem.W.Frag} {io : List Addr} {h : VH} {H : Hp} (r : RepH K io h H) {n : Nat} {a C dx : Addr} {vs : List (Str × V)} (ha : io[n]? = some a) (e : H a = some (.ins C dx vs)) {c : Str} {fs : List (Str × D)} (q : h[n]? = some (.ins c fs)) : He.ga K c = C := by
  obtain ⟨dx', vs', e1, _⟩ := r.ins ha q
  rw [e] at e1
  cases e1
  rfl
theorem ss_fldA {cs : List Str} {f : Str} {op : Operator} {g : F2} {o e : Expr} {O A : Ex} {pos' pos : Pos} (hg : InM X op g) (hc : ∀ c ∈ cs, ClF X.K f c) (ho : SE X W o O) (ha : SE X W e A)
    (hsame : ∀ c ∈ cs, ∀ c' ∈ cs, c = c') : SS X W (.AugAssign (.Attribute o f pos') op e pos) (sFldA cs f g O A) := by
  obtain ⟨r, g1, g2⟩ := hg
  refine ps_imp (ps_fldaug ho ha g1) fun De sg H ⟨io, h, rho, hR, hE, hA⟩ => ?_
  refine ⟨io, h, rho, hR, hE, (AftS.toS hA).mono (fun x h1 hx io1 H1 w e1 R1 v1 => ?_) fun _ _ z => z.zx hE⟩
  split at hx
  · rename_i v hh hq
    obtain ⟨n, a, c, dx, fs, u, rfl, ha1, rfl, hcs, e4, hl, ru⟩ := fldF_of R1 v1 hq
    refine ⟨a, _, dx, fs, u, rfl, e4, (hc c hcs).cl, (hc c hcs).no, hl, io1, h1, rho, R1, hE.mono e1.toExt0, (AftS.toS hx).mono (fun y h2 hy io2 H2 w2 e2 R2 v2 => ?_) fun _ _ z => (z.mono e1).zx (hE.mono e1.toExt0)⟩
    split at hy
    · rename_i z h3 hz
      refine g2 io2 h2 H2 v y u w2 _ z h3 R2 (RV.mono e2.toExt0 _ _ ru) v2 hz ?_
      intro io3 H3 t e3 R3 v3
      split at hy
      · rename_i h4 h4q
        have e13 := (e1.trans e2).trans e3
        obtain ⟨a', c', dx', fs', ea, hcs', e5, hl', E, R4⟩ := setF_of R3 (RV.loc (e3.get (e2.get ha1)) : RV X.K io3 H3 (.loc n) (.ref a)) v3 h4q
        cases ea
        have ec := hsame c hcs c' hcs'
        subst ec
        exact ⟨dx', fs', e5, hl', hy io3 _ sg (e13.trans E) R4 (hE.mono (e13.trans E).toExt0)⟩
      · exact hy.elim
    · exact hy.elim
  · exact hx.elim
theorem m_inadd : InM X .Add iaddF := by
  obtain ⟨r, h1, h2⟩ := m_iadd (X := X)
  exact ⟨r, fun pins s sg H x y u v Q I rx ry h => h1 pins s sg H x y u v Q I rx ry h, h2⟩
theorem m_insub : InM X .Sub subF := by
  obtain ⟨r, h1, h2⟩ := m_isub (X := X)
  exact ⟨r, fun pins s sg H x y u v Q I rx ry h => h1 pins s sg H x y u v Q I rx ry h, h2⟩
end
end Mv

namespace Mv
open PySem L2

/-! ### arguments, keywords, defaults -/
inductive Src where
  | pos (i : Nat) | kw (j : Nat) | df (d : D)
def kcV : D → Option V
  | .non => some .non
  | .bl b => some (.bl b)
  | .int i => some (.int i)
  | _ => none
def oc {α : Type} : Option α → Option (List α) → Option (List α)
  | some x, some xs => some (x :: xs)
  | _, _ => none
def pickD (us ws : List D) : List Src → Option (List D)
  | [] => some []
  | .pos i :: r => oc us[i]? (pickD us ws r)
  | .kw i :: r => oc ws[i]? (pickD us ws r)
  | .df d :: r => oc (some d) (pickD us ws r)
def pickV (us ws : List V) : List Src → Option (List V)
  | [] => some []
  | .pos i :: r => oc us[i]? (pickV us ws r)
  | .kw i :: r => oc ws[i]? (pickV us ws r)
  | .df d :: r => oc (kcV d) (pickV us ws r)
def Src.ok : Src → Bool
  | .df d => (kcV d).isSome
  | _ => true
theorem oc_some {α : Type} {o : Option α} {p : Option (List α)} {xs : List α} (h : oc o p = some xs) : ∃ y ys, o = some y ∧ p = some ys ∧ xs = y :: ys := by
  cases o with
  | none => cases h
  | some y => cases p with
    | none => cases h
    | some ys => cases h; exact ⟨y, ys, rfl, rfl, rfl⟩
section
variable {K : PySem.W.Frag} {io : List Addr} {H : Hp}
theorem kc_rv {d : D} {v : V} (h : kcV d = some v) : RV K io H d v := by
  cases d <;> first | (cases h; done) | (cases h; constructor)
theorem pick_of {us ws : List D} {vs zs : List V} (h1 : RVs K io H us vs) (h2 : RVs K io H ws zs) : ∀ {sl : List Src} {xs : List D}, sl.all Src.ok = true → pickD us ws sl = some xs → ∃ ys, pickV vs zs sl = some ys ∧ RVs K io H xs ys
  | [], xs, _, e => by cases e; exact ⟨[], rfl, .nil⟩
  | .pos i :: r, xs, ok, e => by
    obtain ⟨y, ys, e1, e2, rfl⟩ := oc_some e
    obtain ⟨v, f1, f2⟩ := h1.get e1
    obtain ⟨vs', f3, f4⟩ := pick_of h1 h2 (sl := r) (by simpa [Src.ok] using ok) e2
    refine ⟨v :: vs', ?_, .cons f2 f4⟩
    show oc vs[i]? (pickV vs zs r) = _
    rw [f1, f3]; rfl
  | .kw i :: r, xs, ok, e => by
    obtain ⟨y, ys, e1, e2, rfl⟩ := oc_some e
    obtain ⟨v, f1, f2⟩ := h2.get e1
    obtain ⟨vs', f3, f4⟩ := pick_of h1 h2 (sl := r) (by simpa [Src.ok] using ok) e2
    refine ⟨v :: vs', ?_, .cons f2 f4⟩
    show oc zs[i]? (pickV vs zs r) = _
    rw [f1, f3]; rfl
  | .df d :: r, xs, ok, e => by
    have ok' : (kcV d).isSome = true ∧ r.all Src.ok = true := by simpa [Src.ok] using ok
    obtain ⟨y, ys, e1, e2, rfl⟩ := oc_some e
    cases e1
    obtain ⟨v, f1⟩ := Option.isSome_iff_exists.mp ok'.1
    obtain ⟨vs', f3, f4⟩ := pick_of h1 h2 (sl := r) ok'.2 e2
    refine ⟨v :: vs', ?_, .cons (kc_rv f1) f4⟩
    show oc (kcV d) (pickV vs zs r) = _
    rw [f1, f3]; rfl
end
/-- n values by their places, keywords named ks: how the parameters are bound -/
def BG (K : PySem.W.Frag) (fd : FuncData) (ps : List Str) (n : Nat) (ks : List Str) (sl : List Src) : Prop :=
  ∀ (s : Shared) (us ws : List Value), K.In s.heap → us.length = n → ws.length = ks.length → ∃ zs : List Value, BindsTo s fd ⟨us, ks.zip ws⟩ (ps.zip zs) ∧ ∀ (vs xs ys : List V), Vals vs us → Vals xs ws → pickV vs xs sl = some ys → Vals ys zs
def Vals.get' := @Paired.mapP
theorem vals_at : ∀ {vs : List V} {us : List Value} {i : Nat} {v : V}, Vals vs us → vs[i]? = some v → ∃ u, us[i]? = some u ∧ RelV v u
  | [], _, _, _, _, e => by simp at e
  | _ :: _, _, 0, _, h, e => by
    cases h with
    | cons h1 h2 =>
      simp at e
      subst e
      exact ⟨_, rfl, h1⟩
  | _ :: vs, _, i + 1, v, h, e => by
    cases h with
    | cons h1 h2 =>
      obtain ⟨u, q1, q2⟩ := vals_at (i := i) (v := v) h2 (by simpa using e)
      exact ⟨u, by simpa using q1, q2⟩
/-- all by their places -/
theorem pick_pos {vs xs : List V} : ∀ (k : Nat), pickV vs xs ((List.range' k (vs.length - k)).map Src.pos) = some (vs.drop k) := by
  intro k
  generalize hm : vs.length - k = m
  induction m generalizing k with
  | zero =>
    have : vs.drop k = [] := List.drop_eq_nil_of_le (by omega)
    rw [this]; rfl
  | succ m ih =>
    have hk : k < vs.length := by omega
    have e := ih (k + 1) (by omega)
    show oc vs[k]? (pickV vs xs ((List.range' (k + 1) m).map Src.pos)) = _
    rw [e, List.getElem?_eq_getElem hk, List.drop_eq_getElem_cons hk]
    rfl
def allP (n : Nat) : List Src := (List.range' 0 n).map Src.pos
theorem bg_all {K : PySem.W.Frag} {fd : FuncData} {ps : List Str} (h : Binds K fd ps []) : BG K fd ps ps.length [] (allP ps.length) := fun s us ws X l1 l2 => by
  have l2' : ws = [] := List.length_eq_zero_iff.mp l2
  subst l2'
  have b := h s us X (by rw [List.append_nil]; exact l1)
  rw [List.append_nil] at b
  refine ⟨us, b, fun vs xs ys r1 r2 e => ?_⟩
  have hl : vs.length = ps.length := r1.length.trans l1
  have := pick_pos (vs := vs) (xs := xs) 0
  rw [Nat.sub_zero, hl, List.drop_zero] at this
  have e' : pickV vs xs ((List.range' 0 ps.length).map Src.pos) = some ys := e
  rw [this] at e'
  cases e'
  exact r1
/-- the rest by defaults -/
theorem pick_df {vs xs : List V} : ∀ {ds : List D} {zs : List V}, ds.map kcV = zs.map some → pickV vs xs (ds.map Src.df) = some zs
  | [], [], _ => rfl
  | [], _ :: _, h => by cases h
  | _ :: _, [], h => by cases h
  | d :: ds, z :: zs, h => by
    have h' : kcV d = some z ∧ ds.map kcV = zs.map some := by simpa using h
    show oc (kcV d) (pickV vs xs (ds.map Src.df)) = _
    rw [h'.1, pick_df h'.2]; rfl
theorem pick_app {vs xs : List V} : ∀ {a b : List Src} {ys : List V}, pickV vs xs (a ++ b) = some ys → ∃ y1 y2, pickV vs xs a = some y1 ∧ pickV vs xs b = some y2 ∧ ys = y1 ++ y2
  | [], b, ys, e => ⟨[], ys, rfl, e, rfl⟩
  | s :: a, b, ys, e => by
    cases s with
    | pos i =>
      obtain ⟨y, zs, e1, e2, rfl⟩ := oc_some e
      obtain ⟨y1, y2, f1, f2, rfl⟩ := pick_app e2
      exact ⟨y :: y1, y2, by show oc vs[i]? (pickV vs xs a) = _; rw [e1, f1]; rfl, f2, rfl⟩
    | kw i =>
      obtain ⟨y, zs, e1, e2, rfl⟩ := oc_some e
      obtain ⟨y1, y2, f1, f2, rfl⟩ := pick_app e2
      exact ⟨y :: y1, y2, by show oc xs[i]? (pickV vs xs a) = _; rw [e1, f1]; rfl, f2, rfl⟩
    | df d =>
      obtain ⟨y, zs, e1, e2, rfl⟩ := oc_some e
      obtain ⟨y1, y2, f1, f2, rfl⟩ := pick_app e2
      exact ⟨y :: y1, y2, by show oc (kcV d) (pickV vs xs a) = _; rw [e1, f1]; rfl, f2, rfl⟩
theorem bg_df {K : PySem.W.Frag} {fd : FuncData} {ps : List Str} {n : Nat} {ds : List D} {dvs : List V} (hn : n + ds.length = ps.length) (hd : ds.map kcV = dvs.map some) (h : ∃ dl, Vals dvs dl ∧ Binds K fd ps dl) : BG K fd ps n [] (allP n ++ ds.map Src.df) := fun s us ws X l1 l2 => by
  have l2' : ws = [] := List.length_eq_zero_iff.mp l2
  subst l2'
  obtain ⟨dl, rd, hb⟩ := h
  have ld : ds.length = dl.length := by
    have e1 := congrArg List.length hd
    rw [List.length_map, List.length_map] at e1
    exact e1.trans rd.length
  have b := hb s us X (by rw [List.length_append, l1, ← ld]; exact hn)
  refine ⟨us ++ dl, b, fun vs xs ys r1 r2 e => ?_⟩
  obtain ⟨y1, y2, f1, f2, rfl⟩ := pick_app e
  have hl : vs.length = n := r1.length.trans l1
  have p1 := pick_pos (vs := vs) (xs := xs) 0
  rw [Nat.sub_zero, hl, List.drop_zero] at p1
  have f1' : pickV vs xs ((List.range' 0 n).map Src.pos) = some y1 := f1
  rw [p1] at f1'
  cases f1'
  rw [pick_df hd] at f2
  cases f2
  exact r1.append rd
theorem bg_kw {K : PySem.W.Frag} {fd : FuncData} {ps : List Str} {n : Nat} {ks : List Str} {g : List Value → List Value → List Value} {gV : List V → List V → List V} {sl : List Src} (h : KBn K fd ps n ks g gV) (hg : ∀ vs xs ys : List V, vs.length = n → xs.length = ks.length → pickV vs xs sl = some ys → ys = gV vs xs) : BG K fd ps n ks sl := fun s us ws X l1 l2 =>
  ⟨g us ws, h.to s us ws X l1 l2, fun vs xs ys r1 r2 e => by rw [hg vs xs ys (r1.length.trans l1) (r2.length.trans l2) e]; exact h.rel r1 r2⟩

section
variable {X : Cx} {W : WX}
def SK (X : Cx) (W : WX) (kws : List Keyword) (m : Ar) : Prop := PK X kws (tA X.K W m)
theorem pk_imp {X : Cx} {e : List Keyword} {t t' : TA} (p : PK X e t) (h : ∀ sg H Q, t' sg H Q → t sg H Q) : PK X e t' := ⟨fun w pins s sg H Q I q => p.run w pins s sg H Q I (h sg H Q q)⟩
theorem sk_nil : SK X W [] aNil := pk_imp pk_nil fun sg H Q ⟨io, h, rho, hR, hE, hA⟩ => hA io H [] (Ext.refl _ _) hR .nil
theorem sk_cons {nm : Option Str} {kpos : Pos} {e : Expr} {es : List Keyword} {A : Ex} {B : Ar} (ha : SE X W e A) (hb : SK X W es B) : SK X W (⟨nm, e, kpos⟩ :: es) (aCons A B) := by
  refine pk_imp (pk_cons ha hb) fun sg H Q ⟨io, h, rho, hR, hE, hA⟩ => ?_
  refine ⟨io, h, rho, hR, hE, (Aft.bind hA).mono (fun x h1 hx => ?_) fun _ _ z => z⟩
  intro io1 H1 v e1 R1 v1
  refine ⟨io1, h1, rho, R1, hE.mono e1.toExt0, (Aft.bind hx).mono (fun y h2 hy => ?_) fun _ _ z => z.mono e1⟩
  intro io2 H2 u e2 R2 v2
  exact hy io2 H2 _ (e1.trans e2) R2 (.cons (RV.mono e2.toExt0 _ _ v1) v2)
/-- the arguments of a call -/
structure AK (X : Cx) (W : WX) (pos : Pos) (args : List Expr) (kws : List Keyword) (ks : List Str) (A B : Ar) : Prop where
  run : ∀ (f : Value) (first : List Value) (pins : List (Addr × Obj)) (s : Shared) (sg : L2.St) (H : Hp) (Q : Value → Shared → Prop), PySem.W.keepIn X.K f = true → Inv X pins sg H s →
    (tA X.K W A sg H fun vs H1 => tA X.K W B sg H1 fun zs H2 => ∀ us ws s2, Inv X pins sg H2 s2 → Vals vs us → Vals zs ws → wpAny (model X.prog X.w) X.A (call f (first ++ us) (ks.zip ws)) Q X.xe s2) →
    wpAny (model X.prog X.w) X.A (callWith pos f first (backTo pos (starEach args X.env)) (backToKw pos (keywordEach kws X.env))) Q X.xe s
theorem ta_nil {K : PySem.W.Frag} {sg : L2.St} {H : Hp} {Q : List V → Hp → Prop} (h : tA K W aNil sg H Q) : Q [] H := by
  obtain ⟨io, h, rho, hR, hE, hA⟩ := h
  exact hA io H [] (Ext.refl _ _) hR .nil
theorem ak_a {pos : Pos} {e : Expr} {es : List Expr} {A : Ar} (ha : SA X W (e :: es) A) (he : starEach (e :: es) X.env = (false, eval e X.env) :: starEach es X.env := by rfl) (hpl : (backTo pos (starEach es X.env)).any (·.1) = false := by rfl) : AK X W pos (e :: es) [] [] A aNil := by
  refine ⟨fun f first pins s sg H Q hk I h => ?_⟩
  refine PySem.W.callWith_K (h₀ := X.base) I.ok.mod.kin hk (thn (ha.run pos pins s sg H _ I h) fun us s1 ⟨vs, H1, I1, r, q⟩ => ⟨I1.kIn, ?_⟩) he hpl
  exact ta_nil q us [] s1 I1 r .nil
theorem ak_0 {pos : Pos} : AK X W pos [] [] [] aNil aNil := by
  refine ⟨fun f first pins s sg H Q hk I h => ?_⟩
  exact PySem.W.callWith_K0 I.kIn hk (ta_nil (ta_nil h) [] [] s I .nil .nil)
theorem ak_k {pos : Pos} {e : Expr} {es : List Expr} {kws : List Keyword} {ks : List Str} {A B : Ar} (ha : SA X W (e :: es) A) (hb : SK X W kws B) (hall : (backToKw pos (keywordEach kws X.env)).all (·.1.isSome) = true := by rfl) (hks : (backToKw pos (keywordEach kws X.env)).filterMap (·.1) = ks := by rfl)
    (he : starEach (e :: es) X.env = (false, eval e X.env) :: starEach es X.env := by rfl) (hpl : ((backTo pos (starEach (e :: es) X.env)).any (·.1) || (backToKw pos (keywordEach kws X.env)).any (·.1.isNone)) = false := by rfl) : AK X W pos (e :: es) kws ks A B := by
  refine ⟨fun f first pins s sg H Q hk I h => ?_⟩
  refine PySem.W.callWith_KW (h₀ := X.base) I.ok.mod.kin hk hall (thn (ha.run pos pins s sg H _ I h) fun us s1 ⟨vs, H1, I1, r, q⟩ => ?_) hpl he
  refine thn (hb.run pos pins s1 sg H1 _ I1 q) fun ws s2 ⟨zs, H2, I2, rz, q2⟩ => ⟨I2.kIn, ?_⟩
  rw [hks]
  exact q2 us ws s2 I2 r rz
theorem ak_k0 {pos : Pos} {kws : List Keyword} {ks : List Str} {B : Ar} (hb : SK X W kws B) (hall : (backToKw pos (keywordEach kws X.env)).all (·.1.isSome) = true := by rfl) (hks : (backToKw pos (keywordEach kws X.env)).filterMap (·.1) = ks := by rfl)
    (hpl : ((backTo pos (starEach [] X.env)).any (·.1) || (backToKw pos (keywordEach kws X.env)).any (·.1.isNone)) = false := by rfl) : AK X W pos [] kws ks aNil B := by
  refine ⟨fun f first pins s sg H Q hk I h => ?_⟩
  refine PySem.W.callWith_KW0 (h₀ := X.base) I.ok.mod.kin hk hall ?_ hpl
  refine thn (hb.run pos pins s sg H _ I (ta_nil h)) fun ws s2 ⟨zs, H2, I2, rz, q2⟩ => ⟨I2.kIn, ?_⟩
  rw [hks]
  exact q2 [] ws s2 I2 .nil rz
/-- the callee runs -/
theorem run_b {k n : Nat} {ks : List Str} {sl : List Src} {f : Addr} {fd : FuncData} {ps : List Str} {m : Fd} {pins : List (Addr × Obj)} {sg : L2.St} {H : Hp} {s : Shared} {Q : VK} {us ws : List Value} {vs zs ys : List V} (B : Bd X W k) (F : FnG X.prog X.w X.K X.mg X.base k f fd ps m) (hb : BG X.K fd ps n ks sl)
    (I : Inv X pins sg H s) (r : Vals vs us) (rz : Vals zs ws) (l1 : vs.length = n) (l2 : zs.length = ks.length) (hp : pickV vs zs sl = some ys) (h : spM X.K ps.length m ys H Q (WE W sg)) : wpAny (model X.prog X.w) X.A (call (.ref f) us (ks.zip ws)) (EP X pins sg Q) X.xe s := by
  obtain ⟨bs, b1, b2⟩ := hb s us ws I.kIn (r.length.symm.trans l1) (rz.length.symm.trans l2)
  refine wpAny_call (codeAny_mono (F.run X.A X.stack s H ⟨us, ks.zip ws⟩ bs ys Q (WE W sg) B.g B.r I.env0 b1 (b2 vs zs ys r rz hp) h) fun r s' hq => ?_)
  cases r with
  | error e => exact passAt B.t sg pins H s e s' I hq
  | ok fl =>
    cases fl with
    | ret u => exact I.after hq
    | next => exact False.elim hq
    | brk => exact False.elim hq
    | cont => exact False.elim hq
/-- f(..) -/
def eFnB (na nk np : Nat) (m : Fd) (sl : List Src) (a b : Ar) : Ex := fun rho h => (a rho h).bind fun ds h1 => (b rho h1).bind fun es h2 => if ds.length = na ∧ es.length = nk then match pickD ds es sl with
    | some xs => if xs.length = np then m xs h2 else .bad
    | none => .bad
  else .bad
/-- what the callee is handed -/
theorem handed {K : PySem.W.Frag} {na nk np : Nat} {m : Fd} {sl : List Src} {a b : Ar} {sg : L2.St} {H : Hp} {Q : VK} (hs : sl.all Src.ok = true) (h : tE K W (eFnB na nk np m sl a b) sg H Q) :
    tA K W a sg H fun vs H1 => tA K W b sg H1 fun zs H2 => vs.length = na ∧ zs.length = nk ∧ ∃ ys, pickV vs zs sl = some ys ∧ spM K np m ys H2 Q (WE W sg) := by
  obtain ⟨io, h, rho, hR, hE, hA⟩ := h
  refine ⟨io, h, rho, hR, hE, (Aft.bind hA).mono (fun ds h1 hx io1 H1 vs e1 R1 v1 => ?_) fun _ _ z => z⟩
  refine ⟨io1, h1, rho, R1, hE.mono e1.toExt0, (Aft.bind hx).mono (fun es h2 hy io2 H2 zs e2 R2 v2 => ?_) fun _ _ z => z.mono e1⟩
  have e12 := e1.trans e2
  split at hy
  · rename_i hl
    split at hy
    · rename_i xs hp
      split at hy
      · rename_i hn
        have v1' := RVs.mono e2.toExt0 _ _ v1
        obtain ⟨ys, p1, p2⟩ := pick_of v1' v2 hs hp
        exact ⟨v1.length.symm.trans hl.1, v2.length.symm.trans hl.2, ys, p1, p2.length.symm.trans hn, io2, h2, xs, R2, p2, hy.mono (fun _ _ z => z.mono e12) fun _ _ z => z.mono e12⟩
      · exact hy.elim
    · exact hy.elim
  · exact hy.elim
theorem se_fnB {j k na : Nat} {x : Str} {ps ks : List Str} {sl : List Src} {m : Fd} {args : List Expr} {kws : List Keyword} {A B : Ar} {p pos : Pos} {fd : FuncData} (Bd0 : Bd X W k) (F : FnG X.prog X.w X.K X.mg X.base j (He.ga X.K x) fd ps m) (hk : j ≤ k) (hmg : X.mg x = some (.ref (He.ga X.K x))) (hkp : PySem.W.keepIn X.K (.ref (He.ga X.K x)) = true)
    (hb : BG X.K fd ps na ks sl) (hs : sl.all Src.ok = true) (hg : Gl X x) (ha : AK X W pos args kws ks A B) (hdb : (x == ("__debug__" : Str)) = false := by decide) : SE X W (.Call (.Name x p) args kws pos) (eFnB na ks.length ps.length m sl A B) := by
  refine pe_imp (t := fun sg H Q => tA X.K W A sg H fun vs H1 => tA X.K W B sg H1 fun zs H2 => vs.length = na ∧ zs.length = ks.length ∧ ∃ ys, pickV vs zs sl = some ys ∧ spM X.K ps.length m ys H2 Q (WE W sg)) ⟨fun pins s sg H Q I h => ?_⟩ fun sg H Q h => handed hs h
  refine wpAny_Call_Name_kw (ld_glob I hg hmg ?_ hdb)
  refine ha.run _ [] pins s sg H _ hkp I ?_
  obtain ⟨io, h0, rho, hR, hE, hA⟩ := h
  refine ⟨io, h0, rho, hR, hE, hA.mono (fun ds h1 hx io1 H1 vs e1 R1 v1 => ?_) fun _ _ z => z⟩
  obtain ⟨io2, h2, rho2, hR2, hE2, hA2⟩ := hx io1 H1 vs e1 R1 v1
  refine ⟨io2, h2, rho2, hR2, hE2, hA2.mono (fun es h3 hy io3 H3 zs e3 R3 v3 => ?_) fun _ _ z => z⟩
  obtain ⟨l1, l2, ys, p1, p2⟩ := hy io3 H3 zs e3 R3 v3
  exact fun us ws s2 I2 r rz => run_b Bd0 (F.mono hk) hb I2 r rz l1 l2 p1 p2
/-! ### methods -/
structure HasMt (P : Program) (w : World) (K : PySem.W.Frag) (mg : Str → Option Value) (base : Heap) (k : Nat) (c m : Str) (ps : List Str) (f : Fd) (fd : FuncData) : Prop where
  fn : FnG P w K mg base k (He.ma K (He.ga K c) m) fd ps f
  cl : Cls K (He.ga K c)
  mt : Meth K (He.ga K c) m (He.ma K (He.ga K c) m)
def eMt (c name : Str) (na nk np : Nat) (m : Fd) (sl : List Src) (o : Ex) (a b : Ar) : Ex := fun rho h => (o rho h).bind fun x h0 => match x with
  | .loc n => match h0[n]? with
    | some (.ins c' fs) => if c' = c ∧ fs.lookup name = none then (a rho h0).bind fun ds h1 => (b rho h1).bind fun es h2 => if ds.length = na ∧ es.length = nk then match pickD (x :: ds) es sl with
          | some xs => if xs.length = np then m xs h2 else .bad
          | none => .bad
        else .bad
      else .bad
    | _ => .bad
  | _ => .bad
theorem se_mt {pl : Sem Bool} {j k na : Nat} {c name : Str} {ps ks : List Str} {sl : List Src} {m : Fd} {fd : FuncData} {o : Expr} {args : List Expr} {kws : List Keyword} {O : Ex} {A B : Ar} {apos pos : Pos} (Bd0 : Bd X W k) (F : HasMt X.prog X.w X.K X.mg X.base j c name ps m fd) (hk : j ≤ k)
    (hb : BG X.K fd ps (na + 1) ks sl) (hs : sl.all Src.ok = true) (ho : SE X W o O) (ha : AK X W pos args kws ks A B)
    (ht : eval (.Call (.Attribute o name apos) args kws pos) X.env = (do
      let ov ← eval o X.env
      standAt apos.atName
      let (f, first) ← holding [ov] (getMethod ov name pl)
      callWith pos f first (backTo pos (starEach args X.env)) (backToKw pos (keywordEach kws X.env))) := by rfl) :
    SE X W (.Call (.Attribute o name apos) args kws pos) (eMt c name na ks.length ps.length m sl O A B) := by
  refine ⟨fun pins s sg H Q I h => ?_⟩
  obtain ⟨io, h0, rho, hR, hE, hA⟩ := h
  refine PySem.W.methodCall_KW (pl := pl) (thn (ho.run pins s sg H (fun x H1 => ∃ a dx fs, x = .ref a ∧ H1 a = some (.ins (He.ga X.K c) dx fs) ∧ fs.lookup name = none ∧ tA X.K W A sg H1 fun vs H2 => tA X.K W B sg H2 fun zs H3 => vs.length = na ∧ zs.length = ks.length ∧ ∃ ys, pickV (.ref a :: vs) zs sl = some ys ∧ spM X.K ps.length m ys H3 Q (WE W sg)) I ?_) fun u s1 ⟨x, H1, I1, rx, a, dx, fs, ex, ea, l, q⟩ => ?_) ht
  · refine ⟨io, h0, rho, hR, hE, (Aft.bind hA).mono (fun x h1 hx io1 H1 v e1 R1 v1 => ?_) fun _ _ z => z⟩
    split at hx
    · rename_i n
      cases v1 with
      | loc hn =>
        rename_i a0
        split at hx
        · rename_i c' fs q
          split at hx
          · rename_i hc
            obtain ⟨rfl, hlk⟩ := hc
            obtain ⟨dx, vs, f1, f2⟩ := R1.ins hn q
            refine ⟨a0, dx, vs, rfl, f1, f2.lookupN hlk, ?_⟩
            refine ⟨io1, h1, rho, R1, hE.mono e1.toExt0, (Aft.bind hx).mono (fun ds h2 hy io2 H2 vs2 e2 R2 v2 => ?_) fun _ _ z => z.mono e1⟩
            have e12 := e1.trans e2
            refine ⟨io2, h2, rho, R2, hE.mono e12.toExt0, (Aft.bind hy).mono (fun es h3 hz io3 H3 zs e3 R3 v3 => ?_) fun _ _ z => z.mono e12⟩
            have e13 := e12.trans e3
            split at hz
            · rename_i hl
              split at hz
              · rename_i xs hp
                split at hz
                · rename_i hn2
                  have v1' : RVs X.K io3 H3 (.loc n :: ds) (.ref a0 :: vs2) := .cons (.loc (e3.get (e2.get hn))) (RVs.mono e3.toExt0 _ _ v2)
                  obtain ⟨ys, p1, p2⟩ := pick_of v1' v3 hs hp
                  exact ⟨v2.length.symm.trans hl.1, v3.length.symm.trans hl.2, ys, p1, p2.length.symm.trans hn2, io3, h3, xs, R3, p2, hz.mono (fun _ _ z => z.mono e13) fun _ _ z => z.mono e13⟩
                · exact hz.elim
              · exact hz.elim
            · exact hz.elim
          · exact hx.elim
        · exact hx.elim
    · exact hx.elim
  · subst ex
    obtain rfl : u = Value.ref a := rx
    refine getmeth_ok I1 ea F.cl F.mt l ?_
    refine ha.run _ [.ref a] pins s1 sg H1 _ F.mt.kp I1 ?_
    obtain ⟨io, h0, rho, hR, hE, hA⟩ := q
    refine ⟨io, h0, rho, hR, hE, hA.mono (fun ds h1 hx io1 H1 vs e1 R1 v1 => ?_) fun _ _ z => z⟩
    obtain ⟨io2, h2, rho2, hR2, hE2, hA2⟩ := hx io1 H1 vs e1 R1 v1
    refine ⟨io2, h2, rho2, hR2, hE2, hA2.mono (fun es h3 hy io3 H3 zs e3 R3 v3 => ?_) fun _ _ z => z⟩
    obtain ⟨l1, l2, ys, p1, p2⟩ := hy io3 H3 zs e3 R3 v3
    exact fun us ws s2 I2 r rz => run_b (us := .ref a :: us) (vs := .ref a :: vs) Bd0 (F.fn.mono hk) hb I2 (.cons rfl r) rz (by rw [List.length_cons, l1]) l2 p1 p2
/-! ### C(..) -/
structure HasMk (P : Program) (w : World) (K : PySem.W.Frag) (mg : Str → Option Value) (base : Heap) (k : Nat) (c : Str) (ps : List Str) (f : Fd) (fd : FuncData) : Prop where
  fn : FnG P w K mg base k (He.ma K (He.ga K c) "__init__") fd ps f
  mkr : Mk K (He.ga K c) (He.ma K (He.ga K c) "__init__")
  gl : mg c = some (.ref (He.ga K c))
def eMk (c : Str) (na nk np : Nat) (m : Fd) (sl : List Src) (a b : Ar) : Ex := fun rho h => (a rho h).bind fun ds h1 => (b rho h1).bind fun es h2 => if ds.length = na ∧ es.length = nk then match pickD (.loc h2.length :: ds) es sl with
    | some xs => if xs.length = np then (m xs (h2 ++ [.ins c []])).bind fun r h3 => match r with
        | .non => .ok (.loc h2.length) h3
        | _ => .bad
      else .bad
    | none => .bad
  else .bad
theorem ext_mk {K : PySem.W.Frag} {io : List Addr} {h : VH} {H : Hp} (r : RepH K io h H) {x dx : Addr} (c : Str) (hx : H x = none) (hd : H dx = none) (hne : dx ≠ x) :
    Ext io H (io ++ [x]) (upd (upd H dx (.own x)) x (.ins (He.ga K c) dx [])) ∧ RepH K (io ++ [x]) (h ++ [.ins c []]) (upd (upd H dx (.own x)) x (.ins (He.ga K c) dx [])) := by
  have r1 := r.out (o := .own x) hd
  have e1 := ext_out (o := .own x) r hd
  have hx1 : upd H dx (.own x) x = none := by rw [upd_ne (Ne.symm hne)]; exact hx
  exact ⟨e1.trans (ext_new r1 hx1), r1.new hx1 ⟨dx, [], rfl, .nil⟩⟩
theorem run_mk {k n : Nat} {ks : List Str} {sl : List Src} {C f : Addr} {fd : FuncData} {ps : List Str} {m : Fd} {pins : List (Addr × Obj)} {sg : L2.St} {H : Hp} {s : Shared} {Q : VK} {us ws : List Value} {vs zs : List V} (B : Bd X W (k + 1)) (M : Mk X.K C f) (F : FnG X.prog X.w X.K X.mg X.base k f fd ps m) (hb : BG X.K fd ps (n + 1) ks sl)
    (I : Inv X pins sg H s) (r : Vals vs us) (rz : Vals zs ws) (l1 : vs.length = n) (l2 : zs.length = ks.length)
    (h : ∀ x dx, H x = none → H dx = none → dx ≠ x → ∃ ys, pickV (.ref x :: vs) zs sl = some ys ∧ spM X.K ps.length m ys (upd (upd H dx (.own x)) x (.ins C dx [])) (fun v H2 => v = .non ∧ Q (.ref x) H2) (WE W sg)) :
    wpAny (model X.prog X.w) X.A (call (.ref C) us (ks.zip ws)) (EP X pins sg Q) X.xe s := by
  obtain ⟨ys, hp, hq⟩ := h (s.heap.objs.size + 1) s.heap.objs.size (I.hok.fresh (Nat.le_succ _)) (I.hok.fresh (Nat.le_refl _)) (Nat.ne_of_lt (Nat.lt_succ_self _))
  have I2 := Inv.made (C := C) I
  have r1 : Vals (V.ref (s.heap.objs.size + 1) :: vs) (Value.ref (s.heap.objs.size + 1) :: us) := .cons rfl r
  have n1 : (Value.ref (s.heap.objs.size + 1) :: us).length = n + 1 := by
    rw [List.length_cons, ← r.length, l1]
  obtain ⟨bs, b1, b2⟩ := hb _ (Value.ref (s.heap.objs.size + 1) :: us) ws I2.kIn n1 (rz.length.symm.trans l2)
  have hg : (X.A.under (.builtin "type.__call__" ⟨.ref C :: us, ks.zip ws⟩)).guards = some [] := by
    show pushGuards (Code.guards (.builtin "type.__call__" ⟨.ref C :: us, ks.zip ws⟩)) X.A.guards = some []
    rw [B.g]
    rfl
  refine wpAny_call (make_map (f := f) I.kIn M.makes M.init (beq_iff_eq.mp M.fn) (codeAny_mono (F.run _ X.stack _ _ ⟨Value.ref (s.heap.objs.size + 1) :: us, ks.zip ws⟩ bs ys _ (WE W sg) hg (B.r.make C us (ks.zip ws))
    (I2.env0.make C us (ks.zip ws)) b1 (b2 _ _ _ r1 rz hp) hq) fun r s' hq' => ?_))
  cases r with
  | error e => exact passAt B.t sg pins _ _ e s' I2 hq'
  | ok fl =>
    cases fl with
    | ret u =>
      obtain ⟨v, H', I3, rv, ev, q3⟩ := I2.after hq'
      subst ev
      exact ⟨rv, ⟨V.ref (s.heap.objs.size + 1), H', I3, rfl, q3⟩⟩
    | next => exact False.elim hq'
    | brk => exact False.elim hq'
    | cont => exact False.elim hq'
theorem se_mk {j k na : Nat} {c : Str} {ps ks : List Str} {sl : List Src} {m : Fd} {fd : FuncData} {args : List Expr} {kws : List Keyword} {A B : Ar} {p pos : Pos} (Bd0 : Bd X W k) (F : HasMk X.prog X.w X.K X.mg X.base j c ps m fd) (hk : j + 1 ≤ k) (hb : BG X.K fd ps (na + 1) ks sl) (hs : sl.all Src.ok = true) (hg : Gl X c)
    (ha : AK X W pos args kws ks A B) (hdb : (c == ("__debug__" : Str)) = false := by decide) : SE X W (.Call (.Name c p) args kws pos) (eMk c na ks.length ps.length m sl A B) := by
  refine ⟨fun pins s sg H Q I h => ?_⟩
  obtain ⟨io, h0, rho, hR, hE, hA⟩ := h
  refine wpAny_Call_Name_kw (ld_glob I hg F.gl ?_ hdb)
  refine ha.run _ [] pins s sg H _ F.mkr.kp I ?_
  refine ⟨io, h0, rho, hR, hE, (Aft.bind hA).mono (fun ds h1 hx io1 H1 vs e1 R1 v1 => ?_) fun _ _ z => z⟩
  refine ⟨io1, h1, rho, R1, hE.mono e1.toExt0, (Aft.bind hx).mono (fun es h2 hy io2 H2 zs e2 R2 v2 => ?_) fun _ _ z => z.mono e1⟩
  have e12 := e1.trans e2
  split at hy
  · rename_i hl
    split at hy
    · rename_i xs hp
      split at hy
      · rename_i hn2
        intro us ws s2 I2 r rz
        have Bd1 : Bd X W (j + 1) := ⟨Bd0.g, Bd0.r.mono hk, Bd0.t, Bd0.c⟩
        refine run_mk Bd1 F.mkr F.fn hb I2 r rz (v1.length.symm.trans hl.1) (v2.length.symm.trans hl.2) fun x dx hx hd hne => ?_
        obtain ⟨E3, R3⟩ := ext_mk R2 c hx hd hne
        have e23 := e2.trans E3
        have vloc : RV X.K (io2 ++ [x]) (upd (upd H2 dx (.own x)) x (.ins (He.ga X.K c) dx [])) (.loc h2.length) (.ref x) := .loc (by rw [← R2.len, List.getElem?_append_right (Nat.le_refl _)]; simp)
        have v1' : RVs X.K (io2 ++ [x]) (upd (upd H2 dx (.own x)) x (.ins (He.ga X.K c) dx [])) (.loc h2.length :: ds) (.ref x :: vs) := .cons vloc (RVs.mono e23.toExt0 _ _ v1)
        obtain ⟨ys, p1, p2⟩ := pick_of v1' (RVs.mono E3.toExt0 _ _ v2) hs hp
        have e13 := e12.trans E3
        refine ⟨ys, p1, p2.length.symm.trans hn2, io2 ++ [x], _, xs, R3, p2, (Aft.bind hy).mono (fun d h3 hz io4 H4 v e4 R4 v4 => ?_) fun _ _ z => z.mono e13⟩
        split at hz
        · cases v4
          exact ⟨rfl, hz io4 H4 _ (e13.trans e4) R4 (RV.mono e4.toExt0 _ _ vloc)⟩
        · exact hz.elim
      · exact hy.elim
    · exact hy.elim
  · exact hy.elim
end
end Mv

namespace PySem
set_option maxHeartbeats 1000000 in
theorem meets_enumerate_newTup (l : Addr) (items : Array Value) :
    Meets (Builtin.«enumerate.__new__» ⟨[.type "enumerate", .ref l], []⟩) (fun _ R s => s.heap.IsTuple l items ∧
      R (.ok (.ret (.ref (s.heap.push { cls := .type "tuple_iterator", data := .fields #[.ref l, .int 0 0] }).objs.size)))
        { s with heap := (s.heap.push { cls := .type "tuple_iterator", data := .fields #[.ref l, .int 0 0] }).push { cls := .type "enumerate", data := .fields #[.none, .bool false, .ref s.heap.objs.size, rawInt 0, .none, .none] } }) :=
  .of_wp fun prog w A R s h => by
    obtain ⟨hp, g, d, tk, os⟩ := s; obtain ⟨hl, h⟩ := h
    have hsub := sub_enumerate
    wp_walk
    refine wpAny_stack_any fun st => wpAny_pure ?_
    split
    · rename_i c _ _ _ _ _
      cases (c == Value.type "enumerate")
      · wp_walk using wpAny_pyIter_tuple hl
        exact ⟨_, rfl, h⟩
      · wp_walk using wpAny_pyIter_tuple hl
        exact ⟨_, rfl, h⟩
    · wp_walk using wpAny_pyIter_tuple hl
      exact ⟨_, rfl, h⟩
theorem call_enumerate_tup {prog : Program} {w : World} {A : Around} {E : Value → Shared → Prop} {s : Shared} {l : Addr} {items : Array Value} {Q : Value → Shared → Prop} (hL : s.heap.IsTuple l items)
    (h : ∀ h', IsEnum h' (s.heap.objs.size + 1) s.heap.objs.size 0 .none → h'.IsTupleIter s.heap.objs.size l 0 → h'.objs.size = s.heap.objs.size + 2 →
      (∀ b o, s.heap.get? b = some o → h'.get? b = some o) → Q (.ref (s.heap.objs.size + 1)) { s with heap := h' }) :
    wpAny (model prog w) A (call (.type "enumerate") [.ref l]) Q E s := by
  refine callType_new F.called_enumerate (by decide) (F.typeCall_enumerate_1 _) (F.newCall_enumerate_1 _) (fun obj => F.args_object_init_2 obj _) F.entry_enumerate_new
    (meets_enumerate_newTup l items) ⟨hL, ?_⟩
  have hz : (s.heap.push { cls := .type "tuple_iterator", data := .fields #[.ref l, .int 0 0] }).objs.size = s.heap.objs.size + 1 := Heap.size_push ..
  show _ ∧ _
  rw [hz]
  have he : IsEnum ((s.heap.push { cls := .type "tuple_iterator", data := .fields #[.ref l, .int 0 0] }).push
      { cls := .type "enumerate", data := .fields #[.none, .bool false, .ref s.heap.objs.size, rawInt 0, .none, .none] }) (s.heap.objs.size + 1) s.heap.objs.size 0 .none := by
    have := Heap.get?_push_size (s.heap.push { cls := .type "tuple_iterator", data := .fields #[.ref l, .int 0 0] })
      (o := { cls := .type "enumerate", data := .fields #[.none, .bool false, .ref s.heap.objs.size, rawInt 0, .none, .none] }) rfl
    rw [hz] at this; exact this
  refine ⟨⟨_, he, rfl⟩, h _ he ⟨_, Heap.get?_push_of_some _ (Heap.get?_push_size _ rfl), rfl, rfl⟩ (by rw [Heap.size_push, hz]) fun b o x => Heap.get?_push_of_some _ (Heap.get?_push_of_some _ x)⟩
end PySem
namespace L2
open PySem PySem.Spec PyProof.Rows
/-- the tuple at a, each item in a new pair -/
def IteT (K : PySem.W.Frag) (a : Addr) (n : Nat) : It :=
  ⟨fun i H => ∃ (xs : List V) (x : V), SqT K H a xs ∧ xs[i]? = some x ∧ xs.length = n, fun i H v H' => ∃ T x, v = .ref T ∧ H T = none ∧ H' = upd H T (.tup [.int (i : Nat), x]) ∧ ∀ xs, SqT K H a xs → xs[i]? = some x, fun i H => ∃ xs : List V, SqT K H a xs ∧ xs.length ≤ i ∧ xs.length = n⟩
theorem turn_enumT {P : Program} {w : World} {K : PySem.W.Frag} {elts : List Expr} {kk : Nat} {tpos : Pos} (a e it : Addr) (n : Nat) (hea : a ≠ e) (hia : a ≠ it) :
    Turn P w K (.Tuple elts kk tpos) (IteT K a n) [e, it] e (fun i h => (∃ old, IsEnum h e it ((i : Nat) : Int) old) ∧ h.IsTupleIter it a i ∧ e ≠ it ∧ i ≤ n) where
  mem := by simp
  obj := fun i h st b hb => by
    obtain ⟨⟨old, he⟩, ⟨o, ho, hc, hd⟩, _⟩ := st
    have e' : b = e ∨ b = it := by simpa using hb
    rcases e' with z | z
    · rw [z]; exact ⟨_, he, fun v q => nomatch q⟩
    · rw [z]; exact ⟨o, ho, fun v q => by rw [hd] at q; cases q⟩
  keep := fun i h h' st k => let ⟨⟨old, he⟩, hi, hne, hn⟩ := st; ⟨⟨old, k e (by simp) _ he⟩, hi.at fun o q => k it (by simp) o q, hne, hn⟩
  item := by
    intro X hP hw hK hc i pins s σ H E I hf st hg
    subst hP hw hK
    obtain ⟨⟨old, he⟩, hit, hne, hin⟩ := st
    obtain ⟨xs, x, hq, hx, hxn⟩ := hg
    obtain ⟨its, rv, p, hz⟩ := I.tuple hq
    obtain ⟨u, hu, ru⟩ := rv.get hx
    have hel : e < s.heap.objs.size := Heap.lt_size he
    have hil : it < s.heap.objs.size := by obtain ⟨_, q, _⟩ := hit; exact Heap.lt_size q
    have hlt : i < its.toArray.size := by
      have := (List.getElem?_eq_some_iff.mp hu).1
      simpa using this
    refine wpAny_pyNext_enum_itemC (PySem.Draws.tuple (A := X.A.in1) (I.ok.hd hc) it a hia its.toArray) he ⟨hit, p⟩ hlt hne (by simp; exact ⟨hne, Ne.symm hea⟩) fun y h' tk hP ho hst hT hsz hk => ?_
    have ey : y = u := by
      have h1 : its.toArray[i]? = some y := hP
      have h2 : its.toArray[i]? = some u := by simpa using hu
      rw [h1] at h2
      exact Option.some.inj h2
    subst ey
    refine ⟨_, rfl, wpAny_letOwnedTupleGo_enum (s := { s with heap := h', toks := tk + 1 }) ho fun h'' he' sb => ?_⟩
    have hT2 : h''.get? s.heap.objs.size = some { cls := .type "tuple", data := .seq #[.int i tk, y] } := (sb.2 _ (Nat.ne_of_gt hel)).trans hT
    have new : ObjOk X.prog X.w (upd H s.heap.objs.size (.tup [.int (i : Nat), x])) h'' s.heap.objs.size (.tup [.int (i : Nat), x]) :=
      ⟨by show 2 ≤ sizeLine; decide, [.int i tk, y], .cons ⟨_, rfl⟩ (.cons ru .nil), ⟨_, hT2, rfl, _, rfl⟩⟩
    have I1 : Inv X pins σ (upd H s.heap.objs.size (.tup [.int (i : Nat), x])) { s with heap := h'', toks := tk + 1 } :=
      I.turnedNew (ch := [e, it]) (fun b ob hb q => (sb.2 b (fun z => hb (by simp [z]))).trans (hk b ob (fun z => hb (by simp [z])) (fun z => hb (by simp [z])) q)) hf (Nat.le_refl _) new
    refine ⟨.ref s.heap.objs.size, _, I1, rfl, ⟨_, x, rfl, I.hok.fresh (Nat.le_refl _), rfl, fun ys hy => by rw [I.tuple_inj hy hq]; exact hx⟩, ⟨⟨y, ?_⟩, hst.1.at fun o q => (sb.2 it (Ne.symm hne)).trans q, hne, by have h1 := hlt; have h2 := rv.length; simp at h1; omega⟩, fun b hb => ?_⟩
    · have e1 : ((i + 1 : Nat) : Int) = (i : Int) + 1 := by omega
      rw [e1]; exact he'
    · have hb' : b < s.heap.objs.size := by
        have e' : b = e ∨ b = it := by simpa using hb
        rcases e' with z | z
        · rw [z]; exact hel
        · rw [z]; exact hil
      rw [upd_ne (Nat.ne_of_lt hb')]
      exact (hf b hb).1
  done := by
    intro X hP hw hK hc i pins s σ H E I hf st hg
    subst hP hw hK
    obtain ⟨⟨old, he⟩, hit, hne, hin⟩ := st
    obtain ⟨xs, hq, hx, hxn⟩ := hg
    obtain ⟨its, rv, p, hz⟩ := I.tuple hq
    obtain ⟨f0, f1, f2, f3, f4, f5⟩ := hf it (by simp)
    have hl := rv.length
    have hi : i = its.toArray.size := by simp; omega
    subst hi
    exact wpAny_pyNext_enum_endD (PySem.Draws.tuple (A := X.A.in1) (I.ok.hd hc) it a hia its.toArray) he ⟨hit, p⟩ fun h' eb => ⟨rfl, I.turned (t' := s.toks) (fun b o hb q => eb b o hb q) f0 f1 f3 f4 f5⟩
  self := fun A i s Q E st h => let ⟨⟨_, he⟩, _⟩ := st; wpAny_pyIter_enum he h
def iEnumT (K : PySem.W.Frag) (ta : TA) : TI := fun σ H R => ta σ H fun vs H1 => ∃ a xs, vs = [.ref a] ∧ SqT K H1 a xs ∧ R (IteT K a xs.length) H1
/-- enumerate of a list or a tuple -/
def iEnumB (K : PySem.W.Frag) (ta : TA) : TI := fun σ H R => ta σ H fun vs H1 => ∃ a xs, vs = [.ref a] ∧ ((SqL K H1 a xs ∧ R (Ite K a) H1) ∨ (SqT K H1 a xs ∧ R (IteT K a xs.length) H1))
theorem pi_enumB {X : Cx} {e : Expr} {ta : TA} {p pos tpos : Pos} {elts : List Expr} {kk : Nat} (hg : Gl X "enumerate") (hm : X.mg "enumerate" = none) (ha : PA X [e] ta) (hs : starEach [e] X.env = [(false, eval e X.env)] := by rfl) :
    PI X (.Tuple elts kk tpos) (.Call (.Name "enumerate" p) [e] [] pos) (iEnumB X.K ta) := by
  refine ⟨fun pins s σ H R I h => ?_⟩
  refine Call_ (ld_blt I hg hm boot_enumerate (PyProof.Rows.callWith_type1 (thn (ha.run pos pins s σ H _ I h) fun us s1 ⟨vs, H1, I1, r1, q1⟩ => ?_) hs rfl))
  obtain ⟨a, xs, ex, q1⟩ := q1
  subst ex
  cases r1 with
  | cons r rr =>
    cases rr
    cases r
    rcases q1 with ⟨hq, q⟩ | ⟨hq, q⟩
    · obtain ⟨its, rv, p', hz⟩ := I1.list hq
      refine call_enumerate_list p'.isList fun h' he hit hsz hk => wpAny_pyIter_enum he ?_
      have I2 : Inv X pins σ H1 { s1 with heap := h' } := I1.kept (t' := s1.toks) hk
      refine ⟨s1.heap.objs.size + 1, [s1.heap.objs.size + 1, s1.heap.objs.size], _, _, H1, rfl, I2, turn_enum a (s1.heap.objs.size + 1) s1.heap.objs.size, ⟨⟨.none, he⟩, hit, Nat.succ_ne_self _⟩, fun b hb => ?_, q⟩
      have e' : b = s1.heap.objs.size + 1 ∨ b = s1.heap.objs.size := by simpa using hb
      have hle : s1.heap.objs.size ≤ b := by
        rcases e' with z | z
        · rw [z]; exact Nat.le_add_right _ _
        · rw [z]; exact Nat.le_refl _
      exact I1.fpOk hle (I1.hok.fresh hle)
    · obtain ⟨its, rv, p', hz⟩ := I1.tuple hq
      refine PySem.call_enumerate_tup p' fun h' he hit hsz hk => wpAny_pyIter_enum he ?_
      have I2 : Inv X pins σ H1 { s1 with heap := h' } := I1.kept (t' := s1.toks) hk
      have hal : a < s1.heap.objs.size := by obtain ⟨o, e, _⟩ := p'; exact Heap.lt_size e
      refine ⟨s1.heap.objs.size + 1, [s1.heap.objs.size + 1, s1.heap.objs.size], _, _, H1, rfl, I2, turn_enumT a (s1.heap.objs.size + 1) s1.heap.objs.size xs.length (Nat.ne_of_lt (Nat.lt_succ_of_lt hal)) (Nat.ne_of_lt hal), ⟨⟨.none, he⟩, hit, Nat.succ_ne_self _, Nat.zero_le _⟩, fun b hb => ?_, q⟩
      have e' : b = s1.heap.objs.size + 1 ∨ b = s1.heap.objs.size := by simpa using hb
      have hle : s1.heap.objs.size ≤ b := by
        rcases e' with z | z
        · rw [z]; exact Nat.le_add_right _ _
        · rw [z]; exact Nat.le_refl _
      exact I1.fpOk hle (I1.hok.fresh hle)
end L2
namespace Mv
open PySem L2
section
variable {X : Cx} {W : WX}
/-! ### enumerate -/
def enumL : Nat → List D → List D
  | _, [] => []
  | i, x :: xs => .tup [.int (i : Nat), x] :: enumL (i + 1) xs
theorem enumL_len : ∀ (xs : List D) (k : Nat), (enumL k xs).length = xs.length
  | [], _ => rfl
  | x :: xs, k => by simp [enumL, enumL_len xs]
theorem enumL_get : ∀ (xs : List D) (k i : Nat), (enumL k xs)[i]? = xs[i]?.map fun x => .tup [.int ((k + i : Nat) : Int), x]
  | [], _, _ => rfl
  | x :: xs, k, 0 => by simp [enumL]
  | x :: xs, k, i + 1 => by
    show (enumL (k + 1) xs)[i]? = _
    rw [enumL_get xs (k + 1) i]
    simp [Nat.add_assoc, Nat.add_comm, Nat.add_left_comm]
def sqD (d : D) (h : VH) : Option (List D × Ck) := match d with
  | .tup ds => some (ds, [])
  | .lst ds => some (ds, [])
  | .scr ns => some (ns.map .int, [])
  | .loc n => match h[n]? with
    | some (.lst ds) => some (ds, [(n, ds)])
    | _ => none
  | _ => none
def iEn (B : Ar) : Im := fun rho h => (B rho h).bind fun ds h1 => match ds with
  | [d] => match sqD d h1 with
    | some (xs, ck) => .ok (enumL 0 xs, ck) h1
    | none => .bad
  | _ => .bad
section
variable {K : PySem.W.Frag} {io : List Addr} {H : Hp}
theorem new_pair {io1 : List Addr} {h1 : VH} {H1 : Hp} (R : RepH K io1 h1 H1) {T : Addr} {x y : V} {d e : D} (hT : H1 T = none) (rx : RV K io1 H1 d x) (ry : RV K io1 H1 e y) :
    Ext io1 H1 io1 (upd H1 T (.tup [x, y])) ∧ RepH K io1 h1 (upd H1 T (.tup [x, y])) ∧ RV K io1 (upd H1 T (.tup [x, y])) (.tup [d, e]) (.ref T) :=
  ⟨ext_out R hT, R.out hT, .tup (SqU.of upd_same) (.cons (RV.mono (ext_out R hT).toExt0 _ _ rx) (.cons (RV.mono (ext_out R hT).toExt0 _ _ ry) .nil))⟩
theorem it_enum {a : Addr} {ds : List D} {ck : Ck} (h : ∀ io1 h1 H1, Ext0 io H io1 H1 → RepH K io1 h1 H1 → ckOk ck [] h1 = true → ∃ vs, SqL K H1 a vs ∧ RVs K io1 H1 ds vs) : ItOk K (Ite K a) (enumL 0 ds) ck io H where
  go := fun i d io1 h1 H1 e R c hd => by
    rw [enumL_get] at hd
    cases q : ds[i]? with
    | none => rw [q] at hd; cases hd
    | some x =>
      rw [q] at hd
      cases hd
      obtain ⟨vs, s1, v1⟩ := h io1 h1 H1 e R c
      obtain ⟨v, hx, rx⟩ := v1.get q
      refine ⟨⟨vs, v, s1, hx⟩, fun y H' hy => ?_⟩
      obtain ⟨T, z, rfl, hT, rfl, hz⟩ := hy
      have e2 := hz vs s1
      rw [hx] at e2
      cases e2
      rw [Nat.zero_add]
      exact new_pair R hT (.int _) rx
  stop := fun i io1 h1 H1 e R c hd => by
    obtain ⟨vs, s1, v1⟩ := h io1 h1 H1 e R c
    exact ⟨vs, s1, by rw [← v1.length]; rw [enumL_len] at hd; exact hd⟩
theorem it_enumT {a : Addr} {ds : List D} {vs : List V} (s1 : SqT K H a vs) (v1 : RVs K io H ds vs) : ItOk K (IteT K a vs.length) (enumL 0 ds) [] io H where
  go := fun i d io1 h1 H1 e R c hd => by
    rw [enumL_get] at hd
    cases q : ds[i]? with
    | none => rw [q] at hd; cases hd
    | some x =>
      rw [q] at hd
      cases hd
      obtain ⟨v, hx, rx⟩ := v1.get q
      refine ⟨⟨vs, v, e.rdT s1, hx, rfl⟩, fun y H' hy => ?_⟩
      obtain ⟨T, z, rfl, hT, rfl, hz⟩ := hy
      have e2 := hz vs (e.rdT s1)
      rw [hx] at e2
      cases e2
      rw [Nat.zero_add]
      exact new_pair R hT (.int _) (RV.mono e _ _ rx)
  stop := fun i io1 h1 H1 e R c hd => ⟨vs, e.rdT s1, by rw [← v1.length]; rw [enumL_len] at hd; exact hd, rfl⟩
end
/-- what a list or tuple walked is -/
theorem sqD_of {K : PySem.W.Frag} {io : List Addr} {h : VH} {H : Hp} (R1 : RepH K io h H) {d : D} {v : V} {xs : List D} {ck : Ck} (v1 : RV K io H d v) (q : sqD d h = some (xs, ck)) :
    ∃ a ws, v = .ref a ∧ ((SqL K H a ws ∧ ∀ io1 h1 H1, Ext0 io H io1 H1 → RepH K io1 h1 H1 → ckOk ck [] h1 = true → ∃ vs, SqL K H1 a vs ∧ RVs K io1 H1 xs vs) ∨ (ck = [] ∧ SqT K H a ws ∧ RVs K io H xs ws)) := by
  cases v1 with
  | tup s1 w1 => cases q; exact ⟨_, _, rfl, .inr ⟨rfl, s1, w1⟩⟩
  | lst s1 w1 => cases q; exact ⟨_, _, rfl, .inl ⟨.inl (.inr ⟨_, s1⟩), fun io2 h2 H2 e2 R2 c => ⟨_, .inl (.inr ⟨_, e2.frzs _ _ _ s1⟩), RVs.mono e2 _ _ w1⟩⟩⟩
  | scr s1 => cases q; exact ⟨_, _, rfl, .inl ⟨s1.sq, fun io2 h2 H2 e2 R2 c => ⟨_, (s1.mono e2).sq, RVs.ofInts _⟩⟩⟩
  | loc hn =>
    rename_i n a
    have q' : (match h[n]? with | some (.lst ds) => some (ds, [(n, ds)]) | _ => none) = some (xs, ck) := q
    cases q4 : h[n]? with
    | none => rw [q4] at q'; cases q'
    | some o =>
      rw [q4] at q'
      cases o with
      | lst ds =>
        cases q'
        obtain ⟨ws, e5, e6⟩ := R1.lst hn q4
        refine ⟨_, ws, rfl, .inl ⟨SqL.of e5, fun io2 h2 H2 e2 R2 c => ?_⟩⟩
        have q6 := ck_get c (n := n) (ds := xs) (by simp)
        obtain ⟨xs2, e7, e8⟩ := R2.lst (e2.get hn) q6
        exact ⟨xs2, SqL.of e7, e8⟩
      | _ => cases q'
  | _ => cases q
theorem si_enum {elts : List Expr} {kk : Nat} {tpos : Pos} {a : Expr} {B : Ar} {p pos : Pos} (hg : Gl X "enumerate") (hm : X.mg "enumerate" = none) (ha : SA X W [a] B) (hs : starEach [a] X.env = [(false, eval a X.env)] := by rfl) : SI X W (.Tuple elts kk tpos) (.Call (.Name "enumerate" p) [a] [] pos) (iEn B) := by
  refine ⟨fun pins s sg H R I ⟨io, h, rho, hR, hE, hA⟩ => ?_⟩
  refine (pi_enumB hg hm ha hs).run pins s sg H R I ?_
  refine ⟨io, h, rho, hR, hE, (Aft.bind hA).mono (fun ds h1 hx io1 H1 vs e1 R1 v1 => ?_) fun _ _ z => z⟩
  split at hx
  · rename_i d
    obtain ⟨v, rfl, v2⟩ := v1.one
    split at hx
    · rename_i xs ck q
      obtain ⟨ad, ws, rfl, hq⟩ := sqD_of R1 v2 q
      refine ⟨ad, ws, rfl, ?_⟩
      rcases hq with ⟨s1, hq⟩ | ⟨rfl, s1, w1⟩
      · exact .inl ⟨s1, hx io1 H1 _ e1 R1 (it_enum hq)⟩
      · exact .inr ⟨s1, hx io1 H1 _ e1 R1 (it_enumT s1 w1)⟩
    · exact hx.elim
  · exact hx.elim
/-! ### lists' methods -/
def eBM0 (ok : D → VH → Bool) (f : Fm) (o : Ex) : Ex := fun rho h => (o rho h).bind fun x h1 => if ok x h1 = true then up (f x [] h1) else .bad
theorem se_bm0 {T id : String} {name : Str} {o : Expr} {ok : D → VH → Bool} {f : Fm} {O : Ex} {apos cpos : Pos} (pa : PlainAttrs T) (slot : Slot T name id) (hty : typeOf (.builtin id) = pure (.type "method_descriptor")) (ht : TyS X.K T ok)
    (hm : ∃ r, MtR X id r ∧ MtS X.K f r) (ho : SE X W o O) (h1 : attributeBase o name X.env (eval o X.env) = eval o X.env := by rfl) (h3 : (apos.endLine == cpos.line) = true := by rfl) : SE X W (.Call (.Attribute o name apos) [] [] cpos) (eBM0 ok f O) := by
  obtain ⟨r, k1, k2⟩ := hm
  refine pe_imp (pe_bm0 pa slot hty k1 ho h1 h3) fun sg H Q ⟨io, h, rho, hR, hE, hA⟩ => ?_
  refine ⟨io, h, rho, hR, hE, (Aft.bind hA).mono (fun x h1 hx io1 H1 v e1 R1 v1 => ?_) fun _ _ z => z⟩
  split at hx
  · rename_i hok
    obtain ⟨d, h3, e3, p⟩ := hx.up
    exact ⟨ht io1 h1 H1 x v R1 v1 hok, k2 io1 h1 H1 x v [] [] Q d h3 R1 v1 .nil e3 (p.mono e1)⟩
  · exact hx.elim
def clrF : Fm
  | .loc n, [], h => match h[n]? with
    | some (.lst _) => some (.non, h.set n (.lst []))
    | _ => none
  | _, _, _ => none
theorem m_clear : ∃ r, MtR X "list.clear" r ∧ MtS X.K clrF r := ⟨_, mt_clear, fun io h H x v ds vs Q d h' r hx hv e p => by
  unfold clrF at e
  split at e
  · split at e
    · rename_i xs q
      cases e
      cases hv
      cases hx with
      | loc ha =>
        obtain ⟨us, e1, e2⟩ := r.lst ha q
        have E := ext_set (ho := .lst []) r ha e1 (fun _ z => nomatch z) (fun _ _ z => nomatch z)
        exact ⟨_, us, rfl, rfl, e1, p io _ _ E (r.setO (o := .lst us) ha E ⟨_, rfl, .nil⟩) .non⟩
    · cases e
  · cases e⟩
def popF : Fm
  | .loc n, [], h => match h[n]? with
    | some (.lst xs) => match xs[xs.length - 1]? with
      | some y => some (y, h.set n (.lst xs.dropLast))
      | none => none
    | _ => none
  | .loc n, [.int i], h => match h[n]? with
    | some (.lst xs) => if -(2 ^ 63) ≤ i ∧ i < 2 ^ 63 then match seqIndex? i xs.length with
        | some k => match xs[k]? with
          | some y => some (y, h.set n (.lst (xs.eraseIdx k)))
          | none => none
        | none => none
      else none
    | _ => none
  | _, _, _ => none
theorem RVs.dropLast {K : PySem.W.Frag} {io : List Addr} {H : Hp} {ds : List D} {vs : List V} (h : RVs K io H ds vs) : RVs K io H ds.dropLast vs.dropLast := by
  rw [List.dropLast_eq_take, List.dropLast_eq_take, h.length]
  exact h.take _
theorem RVs.eraseIdx {K : PySem.W.Frag} {io : List Addr} {H : Hp} : ∀ {ds : List D} {vs : List V} (n : Nat), RVs K io H ds vs → RVs K io H (ds.eraseIdx n) (vs.eraseIdx n)
  | [], _, _, h => by cases h; exact .nil
  | _ :: _, _, 0, h => by
    cases h with
    | cons h1 h2 => exact h2
  | _ :: _, _, n + 1, h => by
    cases h with
    | cons h1 h2 => exact .cons h1 (RVs.eraseIdx n h2)
theorem mtR_or {id : String} {r r' : V → List V → Hp → VK → Prop} (a : MtR X id r) (b : MtR X id r') : MtR X id (fun x xs H Q => r x xs H Q ∨ r' x xs H Q) := fun pins s sg H x xs v us Q I rx rv h => h.elim (a pins s sg H x xs v us Q I rx rv) (b pins s sg H x xs v us Q I rx rv)
theorem m_pop : ∃ r, MtR X "list.pop" r ∧ MtS X.K popF r := ⟨_, mtR_or mt_pop mt_popAt, fun io h H x v ds vs Q d h' r hx hv e p => by
  unfold popF at e
  split at e
  · split at e
    · rename_i xs q
      split at e
      · rename_i y hy
        cases e
        cases hv
        cases hx with
        | loc ha =>
          obtain ⟨us, e1, e2⟩ := r.lst ha q
          obtain ⟨u, f1, f2⟩ := e2.get hy
          have E := ext_set (ho := .lst us.dropLast) r ha e1 (fun _ z => nomatch z) (fun _ _ z => nomatch z)
          exact .inl ⟨_, us, u, rfl, rfl, e1, by rw [← e2.length]; exact f1, p io _ _ E (r.setO (o := .lst us) ha E ⟨_, rfl, RVs.mono E.toExt0 _ _ e2.dropLast⟩) (RV.mono E.toExt0 _ _ f2)⟩
      · cases e
    · cases e
  · split at e
    · rename_i xs q
      split at e
      · rename_i hb
        split at e
        · rename_i k hk
          split at e
          · rename_i y hy
            cases e
            obtain ⟨w, rfl, w1⟩ := hv.one
            cases w1
            cases hx with
            | loc ha =>
              obtain ⟨us, e1, e2⟩ := r.lst ha q
              obtain ⟨u, f1, f2⟩ := e2.get hy
              have E := ext_set (ho := .lst (us.eraseIdx k)) r ha e1 (fun _ z => nomatch z) (fun _ _ z => nomatch z)
              exact .inr ⟨_, us, _, k, u, rfl, rfl, e1, hb.1, hb.2, by rw [← e2.length]; exact hk, f1, p io _ _ E (r.setO (o := .lst us) ha E ⟨_, rfl, RVs.mono E.toExt0 _ _ (e2.eraseIdx k)⟩) (RV.mono E.toExt0 _ _ f2)⟩
          · cases e
        · cases e
      · cases e
    · cases e
  · cases e⟩
/-- l.extend(m), m perhaps locked -/
def rExtR : V → List V → Hp → VK → Prop := fun x vs H Q => ∃ l b xs zs, x = .ref l ∧ vs = [.ref b] ∧ H l = some (.lst xs) ∧ Rd H b (.lst zs) ∧ l ≠ b ∧ xs.length + zs.length ≤ sizeLine ∧ Q .non (upd H l (.lst (xs ++ zs)))
theorem mt_extR : MtR X "list.extend" rExtR := by
  intro pins s sg H x vs v us Q I rx rv h
  obtain ⟨l, b, xs, zs, rfl, rfl, hH, hB, hne, hz, q⟩ := h
  cases rx
  obtain ⟨u, rfl, ru⟩ := L2.Vals.one rv
  cases ru
  obtain ⟨z, its, n, r, hl, e⟩ := I.lstM hH
  obtain ⟨z2, its2, n2, r2, e2⟩ := hB.ok I.hok
  have l1 := r.length
  have l2 := r2.length
  have hsz : its.toArray.size + its2.toArray.size ≤ sizeLine := by rw [List.size_toArray, List.size_toArray]; omega
  have hlong : ¬ (!its.toArray.isEmpty && Builtin.List.listTooLong (its.toArray.size + its2.toArray.size)) = true := by
    rw [notLongL hsz, Bool.and_false]
    exact Bool.false_ne_true
  refine call_meets F.slot_list_extend ⟨_, e, rfl⟩ F.entry_list_extend (F.args_list_extend_2 _ _)
    (AutoSeq1.list_extend_list_list_0 l its.toArray n b its2.toArray n2 hlong (by rw [List.size_toArray]; omega) (by omega)) ⟨e, e2, ?_⟩
  refine ⟨.non, _, I.lset (its' := its ++ its2) hH e (by simp) (r.append r2) ?_, rfl, q⟩
  rw [List.length_append]
  omega
def difL (n : Nat) : D → Bool
  | .loc m => decide (m ≠ n)
  | _ => true
def extF : Fm
  | .loc n, [y], h => match h[n]?, listM y h with
    | some (.lst xs), some ys => if xs.length + ys.length ≤ sizeLine ∧ difL n y = true then some (.non, h.set n (.lst (xs ++ ys))) else none
    | _, _ => none
  | _, _, _ => none
theorem m_extend : ∃ r, MtR X "list.extend" r ∧ MtS X.K extF r := ⟨_, mt_extR, fun io h H x v ds vs Q d h' r hx hv e p => by
  unfold extF at e
  split at e
  · rename_i n y
    split at e
    · rename_i xs ys q q2
      split at e
      · rename_i hl
        cases e
        obtain ⟨w, rfl, w1⟩ := hv.one
        cases hx with
        | loc ha =>
          rename_i al
          obtain ⟨us, e1, e2⟩ := r.lst ha q
          have hne : ∀ b, w = .ref b → al ≠ b := fun b hb hab => by
            subst hb
            subst hab
            cases w1 with
            | tup _ _ => cases q2
            | lst hf _ => rw [e1] at hf; cases hf
            | loc hm =>
              have h2 := of_decide_eq_true hl.2
              obtain ⟨p1, q1⟩ := List.getElem?_eq_some_iff.mp hm
              obtain ⟨p2, q2'⟩ := List.getElem?_eq_some_iff.mp ha
              exact h2 ((List.getElem_inj r.nd).mp (q1.trans q2'.symm))
            | scr _ => cases q2
          obtain ⟨b, ws, rfl, f1, f2⟩ := listM_of r w1 q2
          have E := ext_set (ho := .lst (us ++ ws)) r ha e1 (fun _ z => nomatch z) (fun _ _ z => nomatch z)
          refine ⟨_, b, us, ws, rfl, rfl, e1, f1, hne b rfl, by rw [← e2.length, ← f2.length]; exact hl.1, p io _ _ E ?_ .non⟩
          exact r.setO (o := .lst us) ha E ⟨_, rfl, RVs.mono E.toExt0 _ _ (e2.append f2)⟩
      · cases e
    · cases e
  · cases e⟩
/-! ### tuples -/
def repTF : F2
  | .tup ds, .int k, h => if ds ≠ [] ∧ 2 ≤ k ∧ k ≤ 1000 ∧ ds.length ≤ 1000 then some (.tup (List.replicate k.toNat ds).flatten, h) else none
  | _, _, _ => none
theorem m_repT : OpN X (binaryOp .Mult) repTF := ⟨_, op_repT, fun io h H x y v u Q d h' r hx hy e p => by
  unfold repTF at e
  split at e
  · split at e
    · rename_i hc
      cases e
      cases hy
      cases hx with
      | tup s1 w1 =>
        refine ⟨_, _, _, rfl, rfl, s1, fun z => ?_, hc.2.1, hc.2.2.1, by rw [← w1.length]; exact hc.2.2.2, fun q hq => .inl (p io _ _ (ext_out r hq) (r.out hq) (.tup (SqU.of upd_same) (RVs.mono (ext_out r hq).toExt0 _ _ (w1.rep _))))⟩
        subst z
        cases w1
        exact hc.1 rfl
    · cases e
  · cases e⟩
/-! ### list(range(a, b)), int(text), str(int) -/
def lRg (B : Ar) : Ar := fun rho h => (B rho h).bind fun ds h1 => match ds with
  | [.int i, .int j] => if 0 ≤ i ∧ i ≤ 16777216 ∧ 0 ≤ j ∧ j ≤ 16777216 then .ok ((List.range (j - i).toNat).map fun k => .int (i + (k : Nat))) h1 else .bad
  | _ => .bad
theorem RVs.rg {K : PySem.W.Frag} {io : List Addr} {H : Hp} (a : Int) : ∀ (l : List Nat), RVs K io H (l.map fun k => .int (a + (k : Nat))) (l.map fun k => V.int (a + (k : Nat)))
  | [] => .nil
  | k :: l => .cons (.int _) (RVs.rg a l)
theorem sl_rg {a b : Expr} {A B : Ex} {p p2 pos pos2 : Pos} (hc : X.calm = true) (hl : X.mg "list" = none) (hr : X.mg "range" = none) (ha : SE X W a A) (hb : SE X W b B) (hg : Gl X "list" := by rfl) (hg2 : Gl X "range" := by rfl)
    (na : starEach [a, b] X.env = (false, eval a X.env) :: starEach [b] X.env := by rfl) (nb : starEach [b] X.env = (false, eval b X.env) :: starEach [] X.env := by rfl) (hp3 : ((backTo pos2 (starEach [b] X.env)).any fun x => x.fst) = false := by rfl) (n3 : starEach [.Call (.Name "range" p2) [a, b] [] pos2] X.env = (false, eval (.Call (.Name "range" p2) [a, b] [] pos2) X.env) :: starEach [] X.env := by rfl) :
    SL X W (.Call (.Name "list" p) [.Call (.Name "range" p2) [a, b] [] pos2] [] pos) (lRg (aCons A (aCons B aNil))) := by
  refine pe_imp (pe_listRg hc hg hl (prg_2 hg2 hr ha hb na nb hp3) n3) fun sg H Q ⟨io, h, rho, hR, hE, hA⟩ => ?_
  have hA1 := Aft.bind hA
  have hA2 : Aft (A rho h) (fun x h1 => Aft (B rho h1) (fun y h2 => Aft (match [x, y] with | [.int i, .int j] => if 0 ≤ i ∧ i ≤ 16777216 ∧ 0 ≤ j ∧ j ≤ 16777216 then R.ok ((List.range (j - i).toNat).map fun k => D.int (i + (k : Nat))) h2 else .bad | _ => .bad) (Pf X.K io H Q) (Zx X.K W io H sg)) (Zx X.K W io H sg)) (Zx X.K W io H sg) := by
    have := Aft.bind (f := fun x h1 => (aCons B aNil rho h1).bind fun xs h2 => R.ok (x :: xs) h2) hA1
    refine this.mono (fun x h1 hx => ?_) fun _ _ z => z
    have h3 := Aft.bind (Aft.bind hx)
    exact h3.mono (fun y h2 hy => hy) fun _ _ z => z
  refine ⟨io, h, rho, hR, hE, hA2.mono (fun x h1 hx io1 H1 v e1 R1 v1 => ?_) fun _ _ z => z⟩
  refine ⟨io1, h1, rho, R1, hE.mono e1.toExt0, hx.mono (fun y h2 hy io2 H2 u e2 R2 v2 => ?_) fun _ _ z => z.mono e1⟩
  cases v1 with
  | int i =>
    cases v2 with
    | int j =>
      have hy' : Aft (if 0 ≤ i ∧ i ≤ 16777216 ∧ 0 ≤ j ∧ j ≤ 16777216 then R.ok ((List.range (j - i).toNat).map fun k => D.int (i + (k : Nat))) h2 else .bad) (Pf X.K io H Q) (Zx X.K W io H sg) := hy
      split at hy'
      · rename_i hb
        exact ⟨i, j, rfl, rfl, RgOk.of_le hb.1 hb.2.2.2 hb.2.1 hb.2.2.1, fun q hq => hy' io2 H2 q _ (e1.trans e2) R2 hq (RVs.rg i _)⟩
      · exact hy'.elim
    | _ => exact hy.elim
  | _ => exact hy.elim
def intSF : Fn
  | [.str s], h => match PySem.intText? s with
    | some n => if s.length ≤ 640 then some (.int n, h) else none
    | none => none
  | _, _ => none
theorem m_intS : CallM X (.type "int") intSF := ⟨_, call_int_str, fun io h H ds vs Q d h' r hv e p => by
  unfold intSF at e
  split at e
  · obtain ⟨v, rfl, v1⟩ := hv.one
    cases v1
    split at e
    · rename_i n q
      split at e
      · rename_i hl
        cases e
        exact ⟨_, n, rfl, q, hl, p.here r (.int _)⟩
      · cases e
    · cases e
  · cases e⟩
def strIF : Fn
  | [.int i], h => if i.natAbs.log2 < 1920 ∧ (toString i : Str).length ≤ sizeLine then some (.str (toString i), h) else none
  | _, _ => none
theorem sok_int {i : Int} (h : (toString i : Str).length ≤ sizeLine) : sOk (toString i : Str) := ⟨strOk_ofString _, h⟩
theorem m_strI : CallM X (.type "str") strIF := ⟨_, call_str_int, fun io h H ds vs Q d h' r hv e p => by
  unfold strIF at e
  split at e
  · obtain ⟨v, rfl, v1⟩ := hv.one
    cases v1
    split at e
    · rename_i hl
      cases e
      exact ⟨_, rfl, hl.1, p.here r (.str _ (sok_int hl.2))⟩
    · cases e
  · cases e⟩
/-! ### what is never reached -/
def sBad : Sm := fun _ _ => .bad
theorem ss_bad {st : Stmt} : SS X W st sBad := ⟨fun pins s sg H De I q => by
  obtain ⟨_, _, _, _, _, z⟩ := q
  exact z.elim⟩
def eBad : Ex := fun _ _ => .bad
theorem se_bad {e : Expr} : SE X W e eBad := ⟨fun pins s sg H De I q => by
  obtain ⟨_, _, _, _, _, z⟩ := q
  exact z.elim⟩
end
end Mv

namespace Mv
open PySem L2 PySem.W PyProof.Rows
abbrev Shp := Nat × List Str × List Src
def ShpOk (K : PySem.W.Frag) (fd : FuncData) (ps : List Str) (sh : List Shp) : Prop := ∀ s ∈ sh, BG K fd ps s.1 s.2.1 s.2.2 ∧ s.2.2.all Src.ok = true
theorem shp_nil {K : PySem.W.Frag} {fd : FuncData} {ps : List Str} : ShpOk K fd ps [] := fun s h => nomatch h
theorem shp_cons {K : PySem.W.Frag} {fd : FuncData} {ps : List Str} {n : Nat} {ks : List Str} {sl : List Src} {sh : List Shp} (h : BG K fd ps n ks sl) (hs : sl.all Src.ok = true) (r : ShpOk K fd ps sh) : ShpOk K fd ps ((n, ks, sl) :: sh) := fun s hm => by
  rcases List.mem_cons.mp hm with rfl | hm
  · exact ⟨h, hs⟩
  · exact r s hm
section
variable {P : Program} {w : World} {K : PySem.W.Frag} {mg : Str → Option Value} {base : Heap}
def HasF (P : Program) (w : World) (K : PySem.W.Frag) (mg : Str → Option Value) (base : Heap) (k : Nat) (x : Str) (ps : List Str) (m : Fd) (sh : List Shp) : Prop :=
  ∃ fd, FnG P w K mg base k (He.ga K x) fd ps m ∧ mg x = some (.ref (He.ga K x)) ∧ PySem.W.keepIn K (.ref (He.ga K x)) = true ∧ ShpOk K fd ps sh
def HasM (P : Program) (w : World) (K : PySem.W.Frag) (mg : Str → Option Value) (base : Heap) (k : Nat) (c x : Str) (ps : List Str) (m : Fd) (sh : List Shp) : Prop :=
  ∃ fd, HasMt P w K mg base k c x ps m fd ∧ ShpOk K fd ps sh
def HasC (P : Program) (w : World) (K : PySem.W.Frag) (mg : Str → Option Value) (base : Heap) (k : Nat) (c : Str) (ps : List Str) (m : Fd) (sh : List Shp) : Prop :=
  ∃ fd, HasMk P w K mg base k c ps m fd ∧ ShpOk K fd ps sh
/-- a def's body gives the def -/
theorem fn_q {k : Nat} {x q : Str} {f : Addr} {st : Stmt} {N ps : List Str} {m : Sm} {fd : FuncData} {dvs : List V} {kws : List (Str × V)} (F : FunD K x q (defArgs st) (defBody st) (defScope st) dvs kws f fd) (S : FnScope N ps (defScope st))
    (h : ∀ (cdv : Value) (A : Around) (outer : List PySem.Env) (s : Shared) (H : Hp) (E : XK), Bd (cxOf (CX P w) P w K mg base N q (defScope st) f cdv A outer s H E) (fun c d _ H => E c d H) k →
      SB (cxOf (CX P w) P w K mg base N q (defScope st) f cdv A outer s H E) (fun c d _ H => E c d H) (defBody st) m) : FnG P w K mg base (k + 1) f fd ps (fnM N.length m) := by
  obtain ⟨oc, od, dV, kV, doc, pm, an, cdv, ct, osl, rfl, lk, hcd, _, _⟩ := F.ex
  exact fnG_of lk hcd S fun A outer s H E B => h cdv A outer s H E B
theorem fn_bad {k : Nat} {f : Addr} {ps : List Str} {fd : FuncData} : FnG P w K mg base k f fd ps (fun _ _ => .bad) := ⟨fun A outer s H args us vs Q E _ _ _ _ _ hsp => by
    obtain ⟨_, _, _, _, _, _, z⟩ := hsp
    exact z.elim⟩
theorem has_f {k : Nat} {x : Str} {ps : List Str} {m : Fd} {sh : List Shp} {fd : FuncData} (F : FnG P w K mg base k (He.ga K x) fd ps m) (hm : mg x = some (.ref (He.ga K x))) (kp : PySem.W.keepIn K (.ref (He.ga K x)) = true) (h : ShpOk K fd ps sh) : HasF P w K mg base k x ps m sh := ⟨fd, F, hm, kp, h⟩
theorem has_m {k : Nat} {c x : Str} {ps : List Str} {m : Fd} {sh : List Shp} {fd : FuncData} (F : FnG P w K mg base k (He.ma K (He.ga K c) x) fd ps m) (cl : Cls K (He.ga K c)) (mt : Meth K (He.ga K c) x (He.ma K (He.ga K c) x)) (h : ShpOk K fd ps sh) : HasM P w K mg base k c x ps m sh := ⟨fd, ⟨F, cl, mt⟩, h⟩
theorem has_c {k : Nat} {c : Str} {ps : List Str} {m : Fd} {sh : List Shp} {fd : FuncData} (F : FnG P w K mg base k (He.ma K (He.ga K c) "__init__") fd ps m) (mk : Mk K (He.ga K c) (He.ma K (He.ga K c) "__init__")) (gl : mg c = some (.ref (He.ga K c))) (h : ShpOk K fd ps sh) : HasC P w K mg base k c ps m sh := ⟨fd, ⟨F, mk, gl⟩, h⟩
/-- the extra facts of a head -/
def obsX (xf : List (PySem.W.Frag → Bool)) (cs : List (Str × D)) (fa : List He.Fa) (fn : List He.DefD) (K : PySem.W.Frag) : He.AlD := ((He.obsD fa fn K).1 && (cs.all (cst K) && xf.all fun f => f K), (He.obsD fa fn K).2)
def obsXG (n : Nat) (xf : List (PySem.W.Frag → Bool)) (cs : List (Str × D)) (fa : List He.Fa) (fn : List He.DefD) (g : Addr → Option Obj) : He.AlD := obsX xf cs fa fn (He.frG g (sysModules :: cStatics :: He.asD g n))
def SaysX (xf : List (PySem.W.Frag → Bool)) (cs : List (Str × D)) (fa : List He.Fa) (fn : List He.DefD) (K : PySem.W.Frag) : Prop := obsX xf cs fa fn K = He.valD fn
def hookX (n : Nat) (xf : List (PySem.W.Frag → Bool)) (cs : List (Str × D)) (fa : List He.Fa) (fn : List He.DefD) : PySem.W.Hook where
  α := He.AlD
  obs := fun s => obsXG n xf cs fa fn s.heap.get?
  val := fun _ => He.valD fn
  says := fun _ h => ∃ K : PySem.W.Frag, K.In h ∧ SaysX xf cs fa fn K
  of := fun _ _ e => ⟨_, He.frG_in, e⟩
  keeps := fun _ _ _ ⟨K, hK, c⟩ k => ⟨K, PySem.W.Frag.In.keeps hK k, c⟩
theorem obsXG_eq {n : Nat} {xf : List (PySem.W.Frag → Bool)} {cs : List (Str × D)} {fa : List He.Fa} {fn : List He.DefD} {g : Addr → Option Obj} {s : Shared} (h : ∀ a, g a = s.heap.get? a) : obsXG n xf cs fa fn g = (hookX n xf cs fa fn).obs s := by
  have e : g = s.heap.get? := funext h
  rw [e] <;> rfl
section
variable {xf : List (PySem.W.Frag → Bool)} {cs : List (Str × D)} {fa : List He.Fa} {fn : List He.DefD}
theorem SaysX.d (c : SaysX xf cs fa fn K) : He.SaysD fa fn K := by
  have c' : obsX xf cs fa fn K = He.valD fn := c
  have h1 : ((He.obsD fa fn K).1 && (cs.all (cst K) && xf.all fun f => f K)) = true := congrArg Prod.fst c'
  have h2 : (obsX xf cs fa fn K).2 = (He.valD fn).2 := by rw [c']
  have h3 : He.obsD fa fn K = He.valD fn := Prod.ext (Bool.and_eq_true_iff.mp h1).1 h2
  exact h3
theorem SaysX.c (c : SaysX xf cs fa fn K) (i : Nat) {p : Str × D} (h : cs[i]? = some p := by rfl) : cst K p = true := by
  have c' : obsX xf cs fa fn K = He.valD fn := c
  have h1 : ((He.obsD fa fn K).1 && (cs.all (cst K) && xf.all fun f => f K)) = true := congrArg Prod.fst c'
  exact List.all_eq_true.mp (Bool.and_eq_true_iff.mp (Bool.and_eq_true_iff.mp h1).2).1 p (List.mem_of_getElem? h)
theorem SaysX.x (c : SaysX xf cs fa fn K) (i : Nat) {p : PySem.W.Frag → Bool} (h : xf[i]? = some p := by rfl) : p K = true := by
  have c' : obsX xf cs fa fn K = He.valD fn := c
  have h1 : ((He.obsD fa fn K).1 && (cs.all (cst K) && xf.all fun f => f K)) = true := congrArg Prod.fst c'
  exact List.all_eq_true.mp (Bool.and_eq_true_iff.mp (Bool.and_eq_true_iff.mp h1).2).2 p (List.mem_of_getElem? h)
end
end
section
variable {X : Cx} {W : WX}
theorem se_f {j k na : Nat} {x : Str} {ps ks : List Str} {sh : List Shp} {sl : List Src} {m : Fd} {args : List Expr} {kws : List Keyword} {A B : Ar} {p pos : Pos} (i : Nat) (Bd0 : Bd X W k) (F : HasF X.prog X.w X.K X.mg X.base j x ps m sh) (hk : j ≤ k) (hs : sh[i]? = some (na, ks, sl)) (hg : Gl X x) (ha : AK X W pos args kws ks A B)
    (hdb : (x == ("__debug__" : Str)) = false := by decide) : SE X W (.Call (.Name x p) args kws pos) (eFnB na ks.length ps.length m sl A B) := by
  obtain ⟨fd, F1, h1, h2, h3⟩ := F
  have h4 := h3 _ (List.mem_of_getElem? hs)
  exact se_fnB Bd0 F1 hk h1 h2 h4.1 h4.2 hg ha hdb
theorem se_m {pl : Sem Bool} {j k na : Nat} {c name : Str} {ps ks : List Str} {sh : List Shp} {sl : List Src} {m : Fd} {o : Expr} {args : List Expr} {kws : List Keyword} {O : Ex} {A B : Ar} {apos pos : Pos} (i : Nat) (Bd0 : Bd X W k) (F : HasM X.prog X.w X.K X.mg X.base j c name ps m sh) (hk : j ≤ k) (hs : sh[i]? = some (na + 1, ks, sl))
    (ho : SE X W o O) (ha : AK X W pos args kws ks A B)
    (ht : eval (.Call (.Attribute o name apos) args kws pos) X.env = (do
      let ov ← eval o X.env
      standAt apos.atName
      let (f, first) ← holding [ov] (getMethod ov name pl)
      callWith pos f first (backTo pos (starEach args X.env)) (backToKw pos (keywordEach kws X.env))) := by rfl) :
    SE X W (.Call (.Attribute o name apos) args kws pos) (eMt c name na ks.length ps.length m sl O A B) := by
  obtain ⟨fd, F1, h3⟩ := F
  have h4 := h3 _ (List.mem_of_getElem? hs)
  exact se_mt Bd0 F1 hk h4.1 h4.2 ho ha ht
theorem se_cl {j k na : Nat} {c : Str} {ps ks : List Str} {sh : List Shp} {sl : List Src} {m : Fd} {args : List Expr} {kws : List Keyword} {A B : Ar} {p pos : Pos} (i : Nat) (Bd0 : Bd X W k) (F : HasC X.prog X.w X.K X.mg X.base j c ps m sh) (hk : j + 1 ≤ k) (hs : sh[i]? = some (na + 1, ks, sl)) (hg : Gl X c) (ha : AK X W pos args kws ks A B)
    (hdb : (c == ("__debug__" : Str)) = false := by decide) : SE X W (.Call (.Name c p) args kws pos) (eMk c na ks.length ps.length m sl A B) := by
  obtain ⟨fd, F1, h3⟩ := F
  have h4 := h3 _ (List.mem_of_getElem? hs)
  exact se_mk Bd0 F1 hk h4.1 h4.2 hg ha hdb
end
end Mv
namespace Mv
open PySem L2
section
variable {X : Cx} {W : WX}
theorem clf1 {K : PySem.W.Frag} {f c : Str} (h : ClF K f c) : ∀ x ∈ [c], ClF K f x := fun x hx => by
  rw [List.mem_singleton.mp hx]; exact h
theorem clf2 {K : PySem.W.Frag} {f c : Str} {cs : List Str} (h : ClF K f c) (r : ∀ x ∈ cs, ClF K f x) : ∀ x ∈ c :: cs, ClF K f x := fun x hx => by
  rcases List.mem_cons.mp hx with rfl | hx
  · exact h
  · exact r x hx
theorem same1 {c : Str} : ∀ a ∈ [c], ∀ b ∈ [c], a = b := fun a ha b hb => (List.mem_singleton.mp ha).trans (List.mem_singleton.mp hb).symm
/-- int(x) of an int, a truth, a text -/
def intAF : Fn
  | [.int i], h => some (.int i, h)
  | [.bl k], h => some (.int (if k = true then 1 else 0), h)
  | [.str s], h => match PySem.intText? s with
    | some n => if s.length ≤ 640 then some (.int n, h) else none
    | none => none
  | _, _ => none
theorem m_intA : CallM X (.type "int") intAF := ⟨_, callR_or call_int1 call_int_str, fun io h H ds vs Q d h' r hv e p => by
  unfold intAF at e
  split at e
  · obtain ⟨v, rfl, v1⟩ := hv.one
    cases v1; cases e
    exact .inl (.inl ⟨_, rfl, p.here r (.int _)⟩)
  · obtain ⟨v, rfl, v1⟩ := hv.one
    cases v1; cases e
    exact .inl (.inr ⟨_, rfl, p.here r (.int _)⟩)
  · obtain ⟨v, rfl, v1⟩ := hv.one
    cases v1
    split at e
    · rename_i n q
      split at e
      · rename_i hl
        cases e
        exact .inr ⟨_, n, rfl, q, hl, p.here r (.int _)⟩
      · cases e
    · cases e
  · cases e⟩
end
end Mv

namespace Mv
open PySem L2
/-! ### dicts whose keys are ints and texts -/
def dkO : O → Option (List (Key × D))
  | .dK kvs => some kvs
  | .lk (.dK kvs) => some kvs
  | _ => none
def dkOf : D → VH → Option (List (Key × D))
  | .loc n, h => match h[n]? with
    | some o => dkO o
    | none => none
  | _, _ => none
def keyD : D → Option Key
  | .int i => some (.inl i)
  | .str s => some (.inr s)
  | _ => none
def kD : Key → D
  | .inl i => .int i
  | .inr s => .str s
def valD (kvs : List (Key × D)) (k : Key) : Option D := (kvs.find? fun kv => decide (kv.1 = k)).map (·.2)
def putD (kvs : List (Key × D)) (k : Key) (v : D) : List (Key × D) :=
  if (kvs.any fun kv => decide (kv.1 = k)) = true then kvs.map (fun kv => if kv.1 = k then (kv.1, v) else kv) else kvs ++ [(k, v)]
def dropD (kvs : List (Key × D)) (k : Key) : List (Key × D) := kvs.filter fun kv => decide (kv.1 ≠ k)
def mergeD (kvs more : List (Key × D)) : List (Key × D) := more.foldl (fun acc kv => putD acc kv.1 kv.2) kvs
section
variable {K : PySem.W.Frag} {io : List Addr} {h : VH} {H : Hp}
theorem dkOf_of (r : RepH K io h H) {d : D} {v : V} {kvs : List (Key × D)} (hv : RV K io H d v) (e : dkOf d h = some kvs) : ∃ a vs, v = .ref a ∧ Rd H a (.dK vs) ∧ RK K io H kOk kvs vs := by
  cases hv with
  | loc ha =>
    rename_i n a
    have e' : (match h[n]? with | some o => dkO o | none => none) = some kvs := e
    cases q : h[n]? with
    | none => rw [q] at e'; cases e'
    | some o =>
      rw [q] at e'
      obtain ⟨ho, e1, e2⟩ := r.ob n o a q ha
      cases o with
      | dK kvs' =>
        cases e'
        obtain ⟨vs, rfl, r1⟩ := e2
        exact ⟨a, vs, rfl, .inl e1, r1⟩
      | lk o' =>
        cases o' with
        | dK kvs' =>
          cases e'
          obtain ⟨od, u, rfl, vs, rfl, r1⟩ := e2
          exact ⟨a, vs, rfl, .inr ⟨od, e1⟩, r1⟩
        | _ => cases e'
      | _ => cases e'
  | _ => cases e
theorem keyD_of {d : D} {v : V} {k : Key} (hv : RV K io H d v) (e : keyD d = some k) : v = kV k ∧ kOk k := by
  cases hv with
  | int i => cases e; exact ⟨rfl, trivial⟩
  | str s hs => cases e; exact ⟨rfl, hs⟩
  | _ => cases e
theorem kD_rv {k : Key} (hk : kOk k) : RV K io H (kD k) (kV k) := by
  cases k with
  | inl i => exact .int i
  | inr s => exact .str s hk
theorem RK.val {k : Key} : ∀ {ds : List (Key × D)} {vs : List (Key × V)}, RK K io H kOk ds vs → (valD ds k = none ∧ valV vs k = none) ∨ ∃ d v, valD ds k = some d ∧ valV vs k = some v ∧ RV K io H d v
  | [], _, hr => by cases hr; exact .inl ⟨rfl, rfl⟩
  | (j, d) :: ds, _, hr => by
    cases hr with
    | cons h0 h1 h2 =>
      by_cases q : j = k
      · refine .inr ⟨d, _, ?_, valV_pos q, h1⟩
        simp [valD, q]
      · rcases RK.val (k := k) h2 with ⟨e1, e2⟩ | ⟨d', v', e1, e2, e3⟩
        · refine .inl ⟨?_, by rw [valV_neg q]; exact e2⟩
          have : valD ((j, d) :: ds) k = valD ds k := by simp [valD, List.find?_cons, q]
          rw [this]; exact e1
        · refine .inr ⟨d', v', ?_, by rw [valV_neg q]; exact e2, e3⟩
          have : valD ((j, d) :: ds) k = valD ds k := by simp [valD, List.find?_cons, q]
          rw [this]; exact e1
theorem RK.anyK {k : Key} : ∀ {ds : List (Key × D)} {vs : List (Key × V)}, RK K io H kOk ds vs → (ds.any fun kv => decide (kv.1 = k)) = (vs.any fun kv => decide (kv.1 = k))
  | [], _, hr => by cases hr; rfl
  | (j, d) :: ds, _, hr => by
    cases hr with
    | cons h0 h1 h2 => simp only [List.any_cons, RK.anyK h2]
theorem RK.repl {k : Key} {d : D} {v : V} (hv : RV K io H d v) : ∀ {ds : List (Key × D)} {vs : List (Key × V)}, RK K io H kOk ds vs → RK K io H kOk (ds.map fun kv => if kv.1 = k then (kv.1, d) else kv) (vs.map fun kv => if kv.1 = k then (kv.1, v) else kv)
  | [], _, hr => by cases hr; exact .nil
  | (j, x) :: ds, _, hr => by
    cases hr with
    | cons h0 h1 h2 =>
      rw [List.map_cons, List.map_cons]
      by_cases q : j = k
      · rw [if_pos q, if_pos q]; exact .cons h0 hv (RK.repl hv h2)
      · rw [if_neg q, if_neg q]; exact .cons h0 h1 (RK.repl hv h2)
theorem RK.app : ∀ {ds es : List (Key × D)} {vs ws : List (Key × V)}, RK K io H kOk ds vs → RK K io H kOk es ws → RK K io H kOk (ds ++ es) (vs ++ ws)
  | [], _, _, _, hr, k => by cases hr; exact k
  | _ :: _, _, _, _, hr, k => by
    cases hr with
    | cons h0 h1 h2 => exact .cons h0 h1 (RK.app h2 k)
theorem RK.put {k : Key} {d : D} {v : V} (hk : kOk k) (hv : RV K io H d v) {ds : List (Key × D)} {vs : List (Key × V)} (hr : RK K io H kOk ds vs) : RK K io H kOk (putD ds k d) (putK vs k v) := by
  unfold putD putK
  rw [hr.anyK]
  split
  · exact hr.repl hv
  · exact hr.app (.cons hk hv .nil)
theorem RK.drop {k : Key} : ∀ {ds : List (Key × D)} {vs : List (Key × V)}, RK K io H kOk ds vs → RK K io H kOk (dropD ds k) (dropK vs k)
  | [], _, hr => by cases hr; exact .nil
  | (j, x) :: ds, _, hr => by
    cases hr with
    | cons h0 h1 h2 =>
      unfold dropD dropK
      by_cases q : j = k
      · simp [q]; simpa [dropD, dropK] using RK.drop (k := k) h2
      · simp [q]; exact .cons h0 h1 (by simpa [dropD, dropK] using RK.drop (k := k) h2)
theorem RK.merge : ∀ {es : List (Key × D)} {ws : List (Key × V)} {ds : List (Key × D)} {vs : List (Key × V)}, RK K io H kOk es ws → RK K io H kOk ds vs → RK K io H kOk (mergeD ds es) (mergeK vs ws)
  | [], _, _, _, hr, k => by cases hr; exact k
  | (j, x) :: es, _, ds, vs, hr, k => by
    cases hr with
    | cons h0 h1 h2 => exact RK.merge (es := es) (ws := _) (vs := putK vs j _) (ds := putD ds j x) h2 (RK.put h0 h1 k)
theorem putD_len {ds : List (Key × D)} {k : Key} {d : D} : (putD ds k d).length ≤ ds.length + 1 := by
  unfold putD
  split <;> simp
end
section
variable {X : Cx} {W : WX}
def isDk (d : D) (h : VH) : Bool := match d with
  | .loc n => match h[n]? with
    | some (.dK _) => true
    | _ => false
  | _ => false
theorem ty_dict {K : PySem.W.Frag} : TyS K "dict" isDk := fun io h H x v r hv e => by
  cases hv with
  | loc ha =>
    rename_i n a
    have e' : (match h[n]? with | some (.dK _) => true | _ => false) = true := e
    cases q : h[n]? with
    | none => rw [q] at e'; cases e'
    | some o =>
      rw [q] at e'
      cases o with
      | dK kvs =>
        obtain ⟨ho, e1, vs, rfl, _⟩ := r.ob n _ a q ha
        exact .inr (.inr (.inl ⟨rfl, .inl ⟨vs, e1⟩⟩))
      | _ => cases e'
  | _ => cases e
/-- d.get(k), d.get(k, x) -/
def rDg : V → List V → Hp → VK → Prop := fun x xs H Q => ∃ a kvs k, x = .ref a ∧ Rd H a (.dK kvs) ∧ ((xs = [kV k] ∧ Q ((valV kvs k).getD .non) H) ∨ ∃ z, xs = [kV k, z] ∧ Q ((valV kvs k).getD z) H)
theorem mt_dg (hu : X.A.units + 1 < cLine) : MtR X "dict.get" rDg := by
  intro pins s sg H x xs v us Q I rx rv h
  obtain ⟨a, kvs, k, rfl, hd, h⟩ := h
  cases rx
  rcases h with ⟨rfl, q⟩ | ⟨z, rfl, q⟩
  · cases rv with
    | cons r1 r2 =>
      cases r2
      exact d_get1 hu I (.inl ⟨kvs, k, hd, rfl, rfl⟩) r1 fun w' s' I' rw' => ⟨_, H, I', rw', q⟩
  · cases rv with
    | cons r1 r2 =>
      cases r2 with
      | cons r3 r4 =>
        cases r4
        exact d_get2 hu I (.inl ⟨kvs, k, hd, rfl, rfl⟩) r1 r3 fun w' s' I' rw' => ⟨_, H, I', rw', q⟩
def dgF : Fm
  | x, [k], h => match dkOf x h, keyD k with
    | some kvs, some j => some ((valD kvs j).getD .non, h)
    | _, _ => none
  | x, [k, z], h => match dkOf x h, keyD k with
    | some kvs, some j => some ((valD kvs j).getD z, h)
    | _, _ => none
  | _, _, _ => none
theorem m_dg (hu : X.A.units + 64 < cLine) : ∃ r, MtR X "dict.get" r ∧ MtS X.K dgF r := ⟨_, mt_dg (by omega), fun io h H x v ds vs Q d h' r hx hv e p => by
  unfold dgF at e
  split at e
  · split at e
    · rename_i kvs j q1 q2
      cases e
      obtain ⟨w, rfl, w1⟩ := hv.one
      obtain ⟨a, ks, rfl, hd, hr⟩ := dkOf_of r hx q1
      obtain ⟨rfl, _⟩ := keyD_of w1 q2
      refine ⟨a, ks, j, rfl, hd, .inl ⟨rfl, ?_⟩⟩
      rcases hr.val (k := j) with ⟨e1, e2⟩ | ⟨d', v', e1, e2, e3⟩
      · rw [e2]; rw [e1] at p; exact p.here r .non
      · rw [e2]; rw [e1] at p; exact p.here r e3
    · cases e
  · split at e
    · rename_i kvs j q1 q2
      cases e
      obtain ⟨w, u, rfl, w1, w2⟩ := hv.two
      obtain ⟨a, ks, rfl, hd, hr⟩ := dkOf_of r hx q1
      obtain ⟨rfl, _⟩ := keyD_of w1 q2
      refine ⟨a, ks, j, rfl, hd, .inr ⟨u, rfl, ?_⟩⟩
      rcases hr.val (k := j) with ⟨e1, e2⟩ | ⟨d', v', e1, e2, e3⟩
      · rw [e2]; rw [e1] at p; exact p.here r w2
      · rw [e2]; rw [e1] at p; exact p.here r e3
    · cases e
  · cases e⟩
/-- d.update(e) -/
def rDu : V → List V → Hp → VK → Prop := fun x xs H Q => ∃ a b kvs more, x = .ref a ∧ xs = [.ref b] ∧ a ≠ b ∧ H a = some (.dK kvs) ∧ Rd H b (.dK more) ∧ kvs.length + more.length ≤ sizeLine ∧ Q .non (upd H a (.dK (mergeK kvs more)))
theorem mt_du : MtR X "dict.update" rDu := by
  intro pins s sg H x xs v us Q I rx rv h
  obtain ⟨a, b, kvs, more, rfl, rfl, hne, ha, hb, hl, q⟩ := h
  cases rx
  cases rv with
  | cons r1 r2 =>
    cases r2
    cases r1
    obtain ⟨z, hd, vs, rel, dd⟩ := dk_of I.hok ha
    obtain ⟨z2, hd2, ws, rel2, dd2⟩ := dk_rd I.hok hb
    refine call_meetsIn PySem.F.slot_dict_update dd.typeIs PySem.F.entry_dict_update (PySem.F.args_dict_update_2 _ _) (meets_dict_update (mixKind X.prog X.w) a b hne hd2) ⟨vs, ws, dd, dd2, by rw [← rel.length, ← rel2.length]; exact hl, fun h' dd' _ hs => ?_⟩
    have he : ∃ q, h'.get? a = some q := let ⟨q, _, _, hq, _⟩ := dd'; ⟨q, hq⟩
    have hz : (mergeK kvs more).length ≤ sizeLine := Nat.le_trans (length_mergeK more kvs) hl
    exact ⟨.non, _, d_write (t' := s.toks) I (by rw [ha]; exact True.intro) hs he (dk_new hz hd (rel2.merge rel) dd'), rfl, q⟩
def duF : Fm
  | .loc n, [.loc m], h => match h[n]?, h[m]? with
    | some (.dK kvs), some (.dK more) => if n ≠ m ∧ kvs.length + more.length ≤ sizeLine then some (.non, h.set n (.dK (mergeD kvs more))) else none
    | _, _ => none
  | _, _, _ => none
theorem RepH.dk {K : PySem.W.Frag} {io : List Addr} {h : VH} {H : Hp} (r : RepH K io h H) {n : Nat} {a : Addr} {kvs : List (Key × D)} (ha : io[n]? = some a) (e : h[n]? = some (.dK kvs)) : ∃ vs, H a = some (.dK vs) ∧ RK K io H kOk kvs vs := by
  obtain ⟨ho, e1, vs, rfl, e2⟩ := r.ob n _ a e ha
  exact ⟨vs, e1, e2⟩
theorem m_du : ∃ r, MtR X "dict.update" r ∧ MtS X.K duF r := ⟨_, mt_du, fun io h H x v ds vs Q d h' r hx hv e p => by
  unfold duF at e
  split at e
  · rename_i n m
    split at e
    · rename_i kvs more q1 q2
      split at e
      · rename_i hc
        cases e
        obtain ⟨w, rfl, w1⟩ := hv.one
        cases hx with
        | loc ha =>
          rename_i a
          cases w1 with
          | loc hb =>
            rename_i b
            obtain ⟨vs1, e1, r1⟩ := r.dk ha q1
            obtain ⟨vs2, e2, r2⟩ := r.dk hb q2
            have hab : a ≠ b := fun z => by
              subst z
              obtain ⟨p1, q1⟩ := List.getElem?_eq_some_iff.mp ha
              obtain ⟨p2, q2⟩ := List.getElem?_eq_some_iff.mp hb
              exact hc.1 ((List.getElem_inj r.nd).mp (q1.trans q2.symm))
            have E := ext_set (ho := .dK (mergeK vs1 vs2)) r ha e1 (fun _ z => nomatch z) (fun _ _ z => nomatch z)
            refine ⟨a, b, vs1, vs2, rfl, rfl, hab, e1, .inl e2, by rw [← r1.length, ← r2.length]; exact hc.2, p io _ _ E ?_ .non⟩
            exact r.setO (o := .dK vs1) ha E ⟨_, rfl, (r2.mono E.toExt0).merge (r1.mono E.toExt0)⟩
      · cases e
    · cases e
  · cases e⟩
/-- d[k] -/
def dixF : F2 := fun x k h => match dkOf x h, keyD k with
    | some kvs, some j => match valD kvs j with
      | some d => some (d, h)
      | none => none
    | _, _ => none
theorem se_dix {a b : Expr} {A B : Ex} {pos : Pos} (hu : X.A.units + 64 < cLine) (ha : SE X W a A) (hb : SE X W b B) (hs : NoSl b) : SE X W (.Subscript a b pos) (eOp dixF A B) := by
  refine pe_imp (pe_dget (by omega) ha hb hs) fun sg H Q h => ?_
  refine two (r := fun x y H2 Q => ∃ a v, x = .ref a ∧ DGet H2 a y (some v) ∧ Q v H2) (fun io h H x y v u Q d h' r hx hy e p => ?_) h
  unfold dixF at e
  split at e
  · rename_i kvs j q1 q2
    split at e
    · rename_i d' q3
      cases e
      obtain ⟨a, ks, rfl, hd, hr⟩ := dkOf_of r hx q1
      obtain ⟨rfl, _⟩ := keyD_of hy q2
      rcases hr.val (k := j) with ⟨e1, e2⟩ | ⟨d'', v', e1, e2, e3⟩
      · rw [q3] at e1; cases e1
      · rw [q3] at e1
        cases e1
        exact ⟨a, v', rfl, .inl ⟨ks, j, hd, rfl, e2.symm⟩, p.here r e3⟩
    · cases e
  · cases e
/-- k in d -/
def dinF : F2 := fun k x h => match dkOf x h, keyD k with
    | some kvs, some j => some (.bl (valD kvs j).isSome, h)
    | _, _ => none
def dninF : F2 := fun k x h => match dkOf x h, keyD k with
    | some kvs, some j => some (.bl (!(valD kvs j).isSome), h)
    | _, _ => none
theorem or_din (hu : X.A.units + 1 < cLine) : OpR X (compareOp .In) (fun y x H Q => ∃ a o, x = .ref a ∧ DGet H a y o ∧ Q (.bl o.isSome) H) := by
  intro pins s sg H y x u v Q I ry rx h
  obtain ⟨a, o, rfl, g, q⟩ := h
  cases rx
  exact d_in hu I g ry fun s' I' => ⟨.bl o.isSome, H, I', rfl, q⟩
theorem or_dnin (hu : X.A.units + 1 < cLine) : OpR X (compareOp .NotIn) (fun y x H Q => ∃ a o, x = .ref a ∧ DGet H a y o ∧ Q (.bl (!o.isSome)) H) := by
  intro pins s sg H y x u v Q I ry rx h
  obtain ⟨a, o, rfl, g, q⟩ := h
  cases rx
  exact d_notIn hu I g ry fun s' I' => ⟨.bl (!o.isSome), H, I', rfl, q⟩
theorem m_din (hu : X.A.units + 64 < cLine) : OpM X (compareOp .In) dinF := ⟨_, or_din (by omega), fun io h H y x u v Q d h' r hy hx e p => by
  unfold dinF at e
  split at e
  · rename_i kvs j q1 q2
    cases e
    obtain ⟨a, ks, rfl, hd, hr⟩ := dkOf_of r hx q1
    obtain ⟨rfl, _⟩ := keyD_of hy q2
    refine ⟨a, valV ks j, rfl, .inl ⟨ks, j, hd, rfl, rfl⟩, ?_⟩
    rcases hr.val (k := j) with ⟨e1, e2⟩ | ⟨d'', v', e1, e2, e3⟩
    · rw [e2]; rw [e1] at p; exact p.here r (.bl _)
    · rw [e2]; rw [e1] at p; exact p.here r (.bl _)
  · cases e⟩
theorem m_dnin (hu : X.A.units + 64 < cLine) : OpM X (compareOp .NotIn) dninF := ⟨_, or_dnin (by omega), fun io h H y x u v Q d h' r hy hx e p => by
  unfold dninF at e
  split at e
  · rename_i kvs j q1 q2
    cases e
    obtain ⟨a, ks, rfl, hd, hr⟩ := dkOf_of r hx q1
    obtain ⟨rfl, _⟩ := keyD_of hy q2
    refine ⟨a, valV ks j, rfl, .inl ⟨ks, j, hd, rfl, rfl⟩, ?_⟩
    rcases hr.val (k := j) with ⟨e1, e2⟩ | ⟨d'', v', e1, e2, e3⟩
    · rw [e2]; rw [e1] at p; exact p.here r (.bl _)
    · rw [e2]; rw [e1] at p; exact p.here r (.bl _)
  · cases e⟩
/-- d[k] = v -/
def sDPut (o i a : Ex) : Sm := fun rho h => (a rho h).toS rho fun v h1 => (o rho h1).toS rho fun x h2 => (i rho h2).toS rho fun k h3 => match x, keyD k with
  | .loc n, some j => match h3[n]? with
    | some (.dK kvs) => if kvs.length < sizeLine then .go rho .nx (h3.set n (.dK (putD kvs j v))) else .bad
    | _ => .bad
  | _, _ => .bad
theorem ss_dput {o i e : Expr} {O I A : Ex} {pos' pos : Pos} (hu : X.A.units + 64 < cLine) (ho : SE X W o O) (hi : SE X W i I) (ha : SE X W e A) (hs : swapsWith e (some (.Subscript o i pos')) pos.line X.env = pure false := by rfl) : SS X W (.Assign [.Subscript o i pos'] e pos) (sDPut O I A) := by
  refine ps_imp (ps_dput (by omega) ho hi ha hs) fun De sg H ⟨io, h, rho, hR, hE, hA⟩ => ?_
  refine ⟨io, h, rho, hR, hE, (AftS.toS hA).mono (fun v h1 hx1 io1 H1 u e1 R1 v1 => ?_) fun _ _ z => z.zx hE⟩
  refine ⟨io1, h1, rho, R1, hE.mono e1.toExt0, (AftS.toS hx1).mono (fun x h2 hx2 io2 H2 w e2 R2 v2 => ?_) fun _ _ z => (z.mono e1).zx (hE.mono e1.toExt0)⟩
  have e12 := e1.trans e2
  refine ⟨io2, h2, rho, R2, hE.mono e12.toExt0, (AftS.toS hx2).mono (fun k h3 hx io3 H3 z e3 R3 v3 => ?_) fun _ _ z => (z.mono e12).zx (hE.mono e12.toExt0)⟩
  have e13 := e12.trans e3
  split at hx
  · rename_i n j q
    obtain ⟨rfl, hk⟩ := keyD_of v3 q
    cases v2 with
    | loc ha =>
      split at hx
      · rename_i kvs q
        split at hx
        · rename_i hl
          have ha3 := e3.get ha
          obtain ⟨us, e4, e5⟩ := R3.dk ha3 q
          have E := ext_set (ho := .dK (putK us j u)) R3 ha3 e4 (fun _ z => nomatch z) (fun _ _ z => nomatch z)
          refine ⟨_, _, rfl, DPut.k e4 (by rw [← e5.length]; exact hl), ?_⟩
          have v1' := RV.mono ((e2.trans e3).trans E).toExt0 _ _ v1
          exact hx io3 _ sg (e13.trans E) (R3.setO (o := .dK us) ha3 E ⟨_, rfl, (e5.mono E.toExt0).put hk v1'⟩) (hE.mono (e13.trans E).toExt0)
        · exact hx.elim
      · exact hx.elim
  · exact hx.elim
/-- dict(d) -/
def eCpD (a : Ex) : Ex := fun rho h => (a rho h).bind fun x h1 => match dkOf x h1 with
  | some kvs => .ok (.loc h1.length) (h1 ++ [.dK kvs])
  | none => .bad
theorem se_cpD {e : Expr} {A : Ex} {p pos : Pos} (hm : X.mg "dict" = none) (ha : SE X W e A) (hg : Gl X "dict" := by rfl) (hs : starEach [e] X.env = (false, eval e X.env) :: starEach [] X.env := by rfl) : SE X W (.Call (.Name "dict" p) [e] [] pos) (eCpD A) := by
  refine pe_imp (pe_callTy call_dictD hg hm (by decide +kernel) (pa_cons ha pa_nil hs) (by decide) (by decide) hs rfl) fun sg H Q ⟨io, h, rho, hR, hE, hA⟩ => ?_
  refine ⟨io, h, rho, hR, hE, (Aft.bind hA).mono (fun x h1 hx io1 H1 v e1 R1 v1 => ?_) fun _ _ z => z⟩
  split at hx
  · rename_i kvs q
    obtain ⟨a, vs, rfl, hd, hr⟩ := dkOf_of R1 v1 q
    refine ⟨a, vs, rfl, hd, fun p hp => ?_⟩
    have E := ext_new (o := .dK vs) R1 hp
    exact hx (io1 ++ [p]) _ _ (e1.trans E) (R1.new hp ⟨vs, rfl, hr.mono E.toExt0⟩) (.loc (by rw [← R1.len, List.getElem?_append_right (Nat.le_refl _)]; simp))
  · exact hx.elim
end
end Mv

/-! own exception classes over any built-in one, made with one value, raised -/
namespace Mv
open PySem L2
section
variable {prog : Program} {w : World} {A : Around} {R : Result → Shared → Prop} {hp : Heap} {g : Array GenState} {dr : Drawn} {t : Nat} {os : OsState}
open Builtin Builtin.ObjectAttr
theorem osaN {K : PySem.W.Frag} {B : String} {bmB : List Value} {nm : Str} {tk : Tok} {v : Value} {x C : Addr} {fv : Array Value} {cd : ClassData} (SF : StoreFacts B bmB "object.__setattr__" "object") (kin : K.In hp)
    (hov : PySem.W.excOver K C bmB = true) (hcd : PySem.W.clsIn K C = some cd) (hhd : cd.hasDict = true) (hno : PySem.W.findIn K (.ref C) nm = some none) (hx : hp.get? x = some { cls := .ref C, data := .fields fv })
    (hq : ∀ h2 t2 dx, (∀ b o, b ≠ x → hp.get? b = some o → h2.get? b = some o) → hp.objs.size ≤ dx → dx ≠ x → h2.get? x = some { cls := .ref C, dict := some dx, data := .fields fv } → h2.Ns1 dx (fun y => if y = nm then some v else none) → R (.ok (.ret .none)) ⟨h2, g, dr, t2, os⟩) :
    codeAny (model prog w) A (.call (.builtin "object.__setattr__") ⟨[.ref x, .str nm tk, v], []⟩) R ⟨hp, g, dr, t, os⟩ := by
  have J : PySem.W.InstAt hp x { cls := .ref C, data := .fields fv } C none := ⟨hx, rfl, rfl, trivial⟩
  have lkC : PySem.W.Looks (model prog w) hp (classData C) cd := PySem.W.looks_clsIn kin hcd
  have nx : x ≠ hp.objs.size := Nat.ne_of_lt (Heap.lt_size hx)
  refine PySem.W.osa_openX (s := ⟨hp, g, dr, t, os⟩) SF kin J hov (r := none) (by unfold PySem.W.takerIn; rw [hno]; rfl) fun bb => ?_
  obtain ⟨nm1, bs1, mro1, ns1, qn1, hd1, sn1, sb1, ab1, col1, del1⟩ := cd
  dsimp only at hhd
  subst hhd
  show wpAny _ _ (storeInOwnDict (.ref x) (.ref C) (.str nm tk) nm v bb) _ _ _
  unfold storeInOwnDict ownDictForStores
  cases bb <;> (repeat (first | (with_reducible refine PySem.HandSPX.store_in_new ?_ ?_) | (with_reducible refine wpAny_loadPart_at hx ?_) | (with_reducible refine lkC.at ?_) | wp_step))
  all_goals first
    | exact ⟨_, #[], _, (Heap.get?_update_ne _ _ _ _ nx.symm).trans (Heap.get?_push_at rfl rfl), rfl, fun e he => absurd he (by simp), fun _ => rfl⟩
    | (intro h2 t2 hn hs
       have hx1 : (hp.push { cls := .type "dict", data := .dict #[] }).get? x = some { cls := .ref C, data := .fields fv } := Heap.get?_push_of_some _ hx
       refine hq h2 t2 hp.objs.size (fun b o hb ho => ?_) (Nat.le_refl _) nx.symm ?_ hn
       · exact (hs.2 b (Nat.ne_of_lt (Heap.lt_size ho))).trans ((Heap.get?_update_ne _ _ _ _ hb).trans (Heap.get?_push_of_some _ ho))
       · exact (hs.2 x nx).trans (Heap.get?_update_self _ hx1 rfl))
end
/-- an own exception class with fields: what the written part says of it -/
structure XcC (K : PySem.W.Frag) (C : Addr) (B newId initId : String) (bmB : List Value) : Prop where
  base : ExcBaseFacts B newId initId bmB
  stf : StoreFacts B bmB "object.__setattr__" "object"
  ini : PySem.W.excInitIn K C bmB newId = true
  ovr : PySem.W.excOver K C bmB = true
  hdc : PySem.W.hasDictIn K C = true
  sa : PySem.W.findIn K (.ref C) "__setattr__" = some (some (.builtin "object.__setattr__"))
  exC : PySem.W.subIn K (.ref C) (.type "BaseException") = some true
  tyC : PySem.W.typeIn K (.ref C) = some (.type "type")
  kC : PySem.W.keepIn K (.ref C) = true
section
variable {X : Cx} {pins : List (Addr × Obj)} {sg : L2.St} {H : Hp} {s : Shared} {a C : Addr} {f : Str} {y : V} {u : Value} {E : Value → Shared → Prop} {A : Around} {B newId initId : String} {bmB : List Value}
/-- self.f = y, the first one -/
theorem ostN {Q : Unit → Shared → Prop} (T : XcC X.K C B newId initId bmB) (I : Inv X pins sg H s) (ea : H a = some (exo a C none)) (hno : PySem.W.findIn X.K (.ref C) f = some none) (ry : RelV y u)
    (hq : ∀ dx s', H dx = none → dx ≠ a → Inv X pins sg (upd (upd H dx (exd dx [(f, y)])) a (exo a C (some dx))) s' → Q () s') : wpAny (model X.prog X.w) A (setAttr (.ref a) f u) Q E s := by
  obtain ⟨cd, hcd, hhd⟩ := PySem.W.any_some T.hdc
  obtain ⟨t1, ho⟩ := exo_at I.hok ea
  obtain ⟨hp, g, d, t, os⟩ := s
  refine PySem.W.set_plain I.kIn (ox := { cls := .ref C, dict := none, data := .fields #[.ref t1, .none, .none, .none, .bool false, .none] }) (od := none) ⟨ho, rfl, rfl, trivial⟩ T.sa ?_
  refine osaN T.stf I.kIn T.ovr hcd hhd hno ho fun h2 t2 dx kp dn dne hx hn => ?_
  have hnd : H dx = none := I.hok.fresh dn
  have lt2 : ∀ {b : Addr} {o : Obj}, hp.get? b = some o → b ≠ dx := fun {b o} z => Nat.ne_of_lt (Nat.lt_of_lt_of_le (Heap.lt_size z) dn)
  have not_a : ∀ {b : Addr}, H b = none → b ≠ a := fun {b} z e => by
    subst e
    rw [ea] at z
    cases z
  refine hq dx _ hnd dne (I.un (t' := t2) (H' := upd (upd H dx (exd dx [(f, y)])) a (exo a C (some dx))) ?_ fun b o z => ?_)
  · exact {
      keep := fun b o z n _ _ => kp b o (not_a n) z
      slot := fun b o z n _ _ => ⟨o.slots, kp b o (not_a n) z⟩
      free := fun b o z n _ => by rw [upd_ne (not_a n), upd_ne (lt2 z)]; exact n
      there := fun b o z _ => by
        by_cases hb : b = a
        · exact ⟨_, by subst hb; exact hx⟩
        · exact ⟨o, kp b o hb z⟩
      tups := fun b xs z => by rw [upd_ne (at_ne ea z exo_tup), upd_ne (ne_of_none z hnd)]; exact z
      frzs := fun b o v z => by rw [upd_ne (at_ne ea z exo_frz), upd_ne (ne_of_none z hnd)]; exact z
      tbls := fun b ps z => ⟨#[], by rw [upd_ne (at_ne ea z exo_tbl), upd_ne (ne_of_none z hnd), z]; simp⟩ }
  · by_cases hb : b = a
    · subst hb
      rw [upd_same] at z
      cases z
      exact exo_ok hx
    · rw [upd_ne hb] at z
      by_cases hd : b = dx
      · subst hd
        rw [upd_same] at z
        cases z
        exact exd_ok hn (relO_put (fs := []) ry fun _ => True.intro)
      · rw [upd_ne hd] at z
        refine (I.hok b o z).stay (fun c v hc q => kp c v ?_ q) (fun c hc => ?_) fun c xs hc => ?_
        · rcases hc with rfl | hc
          · exact hb
          · exact at_ne ea hc exo_own
        · rw [upd_ne (at_ne ea hc exo_own), upd_ne (ne_of_none hc hnd)]
          exact hc
        · rw [upd_ne (at_ne ea hc exo_tup), upd_ne (ne_of_none hc hnd)]
          exact hc
/-- B.__init__(self, ..) -/
theorem oinitG {us : List Value} {Q : Value → Shared → Prop} (T : XcC X.K C B newId initId bmB) (I : Inv X pins sg H s) (ea : H a = some (exo a C none)) (hl : us.length ≤ sizeLine) (hq : ∀ s', Inv X pins sg H s' → Q .none s') :
    wpAny (model X.prog X.w) A (call (.builtin initId) (.ref a :: us)) Q E s := by
  obtain ⟨nm, N, qn, bs, bm, hdct, sn, sub, ab, col, dd, k0, k1, k2, k3, k5, hC, hT⟩ := PySem.W.excInit_of I.kIn T.ini
  obtain ⟨t1, ho⟩ := exo_at I.hok ea
  obtain ⟨hp, g, d, t, os⟩ := s
  refine wpAny_call (PySem.HandSPX.init_base T.base hT hC ho hl fun h2 t2 kp hx => ?_)
  have J := I.write (t' := t) (x := a) (e := a) (o := exo a C none) (by rw [ea]; exact True.intro) (.inl rfl) kp ⟨_, hx⟩ (exo_ok hx)
  rw [show upd H a (exo a C none) = H from funext fun b => by
    by_cases hb : b = a
    · rw [hb, upd_same, ea]
    · rw [upd_ne hb]] at J
  exact hq _ J
end
/-- where the base's __init__ is found: a built-in class, or an own one -/
inductive BaseAt (K : PySem.W.Frag) (mg : Str → Option Value) (x : Str) (initId : String) : Prop
  | blt (T : String) (hb : bootBuiltins x = some (.type T)) (hx : x ≠ "__name__") (hm : mg x = none) (ht : typeOf (.type T) = pure (.type "type")) (hs : Manifest.isStub T = false) (hf : PySem.W.findCls K (.type T) (.type "type") "__init__" = some (.val (.builtin initId))) (hh : PySem.W.handedIn (.builtin initId) = true)
  | own (D : Addr) (hm : mg x = some (.ref D)) (hr : PySem.W.readsIn K D (.type "type") = true) (hg : PySem.W.specialIn K (.ref D) "__getattribute__" = some (some (.builtin "type.__getattribute__"))) (hf : PySem.W.findCls K (.ref D) (.type "type") "__init__" = some (.val (.builtin initId))) (hh : PySem.W.handedIn (.builtin initId) = true)
def tIni (ini : String → Addr → Prop) (initId : String) (ta : TA) : TE := fun sg H Q => ta sg H fun vs H1 => ∃ (a C : Addr) (ws : List V), vs = .ref a :: ws ∧ ws.length ≤ 1000 ∧ ini initId C ∧ H1 a = some (exo a C none) ∧ Q .non H1
section
variable {X : Cx} {x : Str} {e : Expr} {es : List Expr} {ta : TA} {p1 p2 pos : Pos} {B newId initId : String} {bmB : List Value}
theorem pe_ini {pl : Sem Bool} (hg : Gl X x) (hb : BaseAt X.K X.mg x initId) (hdb : (x == ("__debug__" : Str)) = false) (ha : PA X (e :: es) ta)
    (hc : eval (.Call (.Attribute (.Name x p1) "__init__" p2) (e :: es) [] pos) X.env = (do
      let ov ← eval (.Name x p1) X.env
      standAt p2.atName
      let (f, first) ← holding [ov] (getMethod ov "__init__" pl)
      callWith pos f first (backTo pos (starEach (e :: es) X.env)) (backToKw pos (keywordEach [] X.env))) := by rfl)
    (he : starEach (e :: es) X.env = (false, eval e X.env) :: starEach es X.env := by rfl) (hpl : (backTo pos (starEach es X.env)).any (·.1) = false := by rfl) :
    PE X (.Call (.Attribute (.Name x p1) "__init__" p2) (e :: es) [] pos) (tIni (fun i C => XcC X.K C B newId i bmB) initId ta) := by
  refine ⟨fun pins s sg H Q I h => ?_⟩
  have fin : ∀ k : Nat, wpAny (model X.prog X.w) X.A (callWith pos (Value.builtin initId) [] (backTo pos (starEach (e :: es) X.env)) []) (EP X pins sg Q) X.xe { s with toks := k } := fun k => by
    refine PyProof.Rows.callWith_method1 (thn (ha.run pos pins _ sg H _ (I.tok _) h) fun us s1 ⟨vs, H1, I1, r1, a, C, ws, ev, hl, T, ea, q⟩ => ?_) he hpl
    subst ev
    cases r1 with
    | @cons _ u0 _ ur ra rw' =>
      obtain rfl : u0 = Value.ref a := ra
      have hlen : ur.length ≤ sizeLine := by
        rw [← Paired.length rw', sizeLine_eq]
        omega
      exact oinitG T I1 ea hlen fun s' J => ⟨.non, H1, J, rfl, q⟩
  cases hb with
  | blt T hbo hx hm ht hs hf hh =>
    refine PySem.W.methodCall_KW (ld_blt I hg hm hbo ?_ hx hdb) hc
    obtain ⟨m, fr⟩ := I.fr
    refine PySem.W.method_type fr I.ok.mod.kin ht hs hf hh ?_
    exact fin _
  | own D hm hr hgg hf hh =>
    refine PySem.W.methodCall_KW (ld_glob I hg hm ?_ hdb) hc
    refine PySem.W.method_cls I.kIn hgg (PySem.W.cls_value I.kIn hr hf hh ?_)
    exact fin _
def tOstN (ok : Addr → Prop) (f : Str) (to te : TE) : TS := fun D sg H => te sg H fun y H1 => to sg H1 fun x H2 => ∃ a C : Addr, x = .ref a ∧ ok C ∧ H2 a = some (exo a C none) ∧ ∀ dx, H2 dx = none → dx ≠ a → D.nx sg (upd (upd H2 dx (exd dx [(f, y)])) a (exo a C (some dx)))
theorem ps_ostN {o : Expr} {to te : TE} {f : Str} {p' : Pos} (ho : PE X o to) (he : PE X e te) (hs : swapsWith e (some (.Attribute o f p')) pos.line X.env = pure false := by rfl) :
    PS X (.Assign [.Attribute o f p'] e pos) (tOstN (fun C => XcC X.K C B newId initId bmB ∧ PySem.W.findIn X.K (.ref C) f = some none) f to te) := by
  refine ⟨fun pins s sg H D I h => ?_⟩
  refine plainObj_wpAny_Assign_Attribute (thn (he.run pins s sg H _ I h) fun v s1 ⟨y, H1, I1, r1, q1⟩ => thn (ho.run pins s1 sg H1 _ I1 q1) fun u s2 ⟨x, H2, I2, r2, a, C, ex, ⟨T, hno⟩, ea, q⟩ => ?_) hs
  subst ex
  obtain rfl : u = Value.ref a := r2
  exact ostN T I2 ea hno r1 fun dx s' n ne J => ⟨sg, _, J, q dx n ne⟩
end
/-! ### the def __init__: B.__init__(self, text); self.f = value -/
def spI (C : Addr) (f : Str) : Sp := fun vs H Q _ => ∃ (a : Addr) (y : V), vs = [.ref a, y] ∧ H a = some (exo a C none) ∧ ∀ dx, H dx = none → dx ≠ a → Q .non (upd (upd H dx (exd dx [(f, y)])) a (exo a C (some dx)))
section
variable {P : Program} {w : World} {K : PySem.W.Frag} {mg : Str → Option Value} {base : Heap} {B newId initId : String} {bmB : List Value}
/-- the class c, whose __init__ keeps the field f -/
structure HasX (P : Program) (w : World) (K : PySem.W.Frag) (mg : Str → Option Value) (base : Heap) (c f : Str) : Prop where
  has : ∃ (B newId initId : String) (bmB : List Value) (fI : Addr) (fd : FuncData) (ps : List Str), XcC K (He.ga K c) B newId initId bmB ∧ PySem.W.findIn K (.ref (He.ga K c)) "__init__" = some (some (.ref fI)) ∧ PySem.W.typeIn K (.ref fI) = some (.type "function") ∧
    FnOk P w K mg base (CX P w) 2 fI fd ps (spI (He.ga K c) f) ∧ Binds K fd ps [] ∧ mg c = some (.ref (He.ga K c))
/-- what the body of such an __init__ is read as -/
def tInit (K : PySem.W.Frag) (C : Addr) (B newId initId : String) (bmB : List Value) (f : Str) : TS := tSeq (tDrop (tIni (fun i C' => XcC K C' B newId i bmB) initId (tCons (tVar 0) (fun sg H Q => ∀ v, Q [v] H)))) (tOstN (fun C' => XcC K C' B newId initId bmB ∧ PySem.W.findIn K (.ref C') f = some none) f (tVar 0) (tVar 1))
theorem init_fn {k : Nat} {f pn : Str} {C : Addr} {st : Stmt} {fI : Addr} {fd : FuncData} {qn : Str} (T : XcC K C B newId initId bmB) (hno : PySem.W.findIn K (.ref C) f = some none)
    (F : FunD K "__init__" qn (defArgs st) (defBody st) (defScope st) [] [] fI fd) (S : FnScope ["self", pn] ["self", pn] (defScope st))
    (hb : ∀ (cdv : Value) (A : Around) (outer : List PySem.Env) (s : Shared) (H : Hp) (E : XK), PSs (cxOf (CX P w) P w K mg base ["self", pn] qn (defScope st) fI cdv A outer s H E) (defBody st) (tInit K C B newId initId bmB f)) :
    FnOk P w K mg base (CX P w) (k + 1) fI fd ["self", pn] (spI C f) := by
  obtain ⟨oc, od, dV, kV, doc, pm, an, cdv, ct, osl, rfl, lk, hcd, _, _⟩ := F.ex
  refine fn_of lk hcd S (fun vs H Q E h => ?_) fun A outer s H vs Q E hr h => ⟨_, hb cdv A outer s H E, ?_⟩
  · obtain ⟨a, y, rfl, _⟩ := h
    rfl
  · obtain ⟨a, y, rfl, ea, q⟩ := h
    exact ⟨.ref a, rfl, fun v => ⟨a, C, [v], rfl, by simp, T, ea, y, rfl, .ref a, rfl, a, C, rfl, ⟨T, hno⟩, ea, fun dx h1 h2 => q dx h1 h2⟩⟩
end
theorem pa_txt {X : Cx} {m : Str} {j : Nat} {p : Pos} (hs : starEach [.Constant (.str m) j p] X.env = [(false, eval (.Constant (.str m) j p) X.env)] := by rfl) : PA X [.Constant (.str m) j p] (fun sg H Q => ∀ v, Q [v] H) := pa_imp (pa_cons pe_str pa_nil hs) fun sg H Q h => h (.str m)
/-! ### C(e), raised -/
section
variable {X : Cx} {W : WX} {e : Expr} {p pos rpos : Pos} {c f : Str}
theorem pmkG {k : Nat} {x : Str} {C fI : Addr} {fd : FuncData} {ps : List Str} {es : List Expr} {ta : TA} {B newId initId : String} {bmB : List Value} (T : XcC X.K C B newId initId bmB) (iC : PySem.W.findIn X.K (.ref C) "__init__" = some (some (.ref fI))) (tI : PySem.W.typeIn X.K (.ref fI) = some (.type "function"))
    (F1 : FnOk X.prog X.w X.K X.mg X.base (CX X.prog X.w) k fI fd ps (spI C f)) (hr : Room (k + 1) X.A) (hb : Binds X.K fd ps []) (hx : Passes (CX X.prog X.w) X (fun _ _ _ => False)) (hg : Gl X x) (hm : X.mg x = some (.ref C)) (ha : PA X (e :: es) ta)
    (hdb : (x == ("__debug__" : Str)) = false := by decide) (he : starEach (e :: es) X.env = (false, eval e X.env) :: starEach es X.env := by rfl) (hpl : (backTo pos (starEach es X.env)).any (·.1) = false := by rfl) :
    PMk X (.Call (.Name x p) (e :: es) [] pos) (tMkO C (spI C f) [] ta) := by
  intro pins s sg H Q I h
  obtain ⟨nm, N, qn, bs, bm, hdct, sn, sub, ab, col, dd, k0, k1, k2, k3, k5, hC0, hT⟩ := PySem.W.excInit_of I.kIn T.ini
  refine wpAny_Call_Name_kw (ld_glob I hg hm ?_ hdb)
  refine PySem.W.callWith_K (h₀ := X.base) I.ok.mod.kin T.kC (thn (ha.run pos pins s sg H _ I h) fun us s1 hh => ?_) he hpl
  obtain ⟨vs, H1, I1, r1, hz, q1⟩ := hh
  refine ⟨I1.kIn, ?_⟩
  show wpAny _ _ (call (.ref C) us) _ _ _
  obtain ⟨nm, N, qn, bs, bm, hdct, sn, sub, ab, col, dd, k0, k1, k2, k3, k5, hC, hT⟩ := PySem.W.excInit_of I1.kIn T.ini
  obtain ⟨hp, g, dr, tk, os⟩ := s1
  have le1 : hp.objs.size ≤ hp.objs.size + 1 := Nat.le_succ _
  have hq := q1 (hp.objs.size + 1) (I1.hok.fresh le1)
  rw [List.append_nil] at hq
  have kp : ∀ b o, hp.get? b = some o → ((hp.push (PySem.W.kdv_tup us)).push (PySem.HandSPX.excO C hp.objs.size)).get? b = some o := fun b o z => Heap.get?_push_of_some _ (Heap.get?_push_of_some _ z)
  have at1 : ((hp.push (PySem.W.kdv_tup us)).push (PySem.HandSPX.excO C hp.objs.size)).get? (hp.objs.size + 1) = some (PySem.HandSPX.excO C hp.objs.size) := by heap_get
  have I2 : Inv X pins sg (upd H1 (hp.objs.size + 1) (exo (hp.objs.size + 1) C none)) ⟨(hp.push (PySem.W.kdv_tup us)).push (PySem.HandSPX.excO C hp.objs.size), g, dr, tk, os⟩ :=
    I1.laid (h' := (hp.push (PySem.W.kdv_tup us)).push (PySem.HandSPX.excO C hp.objs.size)) (t' := tk) (o := exo (hp.objs.size + 1) C none) (a := hp.objs.size + 1) kp le1 (exo_ok at1)
  have r2 : Vals (V.ref (hp.objs.size + 1) :: vs) (Value.ref (hp.objs.size + 1) :: us) := .cons rfl r1
  have hl : (Value.ref (hp.objs.size + 1) :: us ++ []).length = ps.length := by
    rw [List.append_nil, ← r2.length]
    exact F1.len _ _ _ _ hq
  have hus : us.length ≤ sizeLine := by
    rw [← Paired.length r1, sizeLine_eq]
    omega
  have bb := hb _ (Value.ref (hp.objs.size + 1) :: us) I2.kIn hl
  rw [List.append_nil] at bb
  refine wpAny_call (PySem.HandSPX.call_own T.base hT hC (PySem.W.looks_findIn I1.kIn iC) (fun self => PySem.W.bind_fn I1.kIn self tI) hus
    (codeAny_mono (F1.run _ X.stack _ _ ⟨Value.ref (hp.objs.size + 1) :: us, []⟩ (Value.ref (hp.objs.size + 1) :: us) _ _ (fun _ _ _ => False) (hr.make C us []) (I2.env0.make C us []) bb r2 hq) fun r s' z => ?_))
  cases r with
  | error er => exact hx pins sg _ _ er s' I2 z
  | ok fl =>
    cases fl with
    | ret u =>
      obtain ⟨v, H2, os2, bare2, un2, hok2, rv, ev, d, fs, ea, ed, hd1, q2⟩ := z
      subst ev
      obtain ⟨h2, g2, d2, t2, os'⟩ := s'
      exact ⟨rv, mk_end (raises_own T.exC T.tyC) I1 le1 kp un2 hok2 os2 bare2 ea ed hd1 q2⟩
    | next => exact False.elim z
    | brk => exact False.elim z
    | cont => exact False.elim z
def sRaise (c f : Str) (A : Ex) : Sm := fun rho h => (A rho h).toS rho fun v h1 => .exc ⟨c, [(f, v)]⟩ rho h1
theorem ss_raise {k : Nat} {A : Ex} (B : Bd X W k) (F : HasX X.prog X.w X.K X.mg X.base c f) (hk : 3 ≤ k) (hg : Gl X c) (ha : SE X W e A)
    (hdb : (c == ("__debug__" : Str)) = false := by decide) (he : starEach [e] X.env = [(false, eval e X.env)] := by rfl) (hpl : (backTo pos (starEach [] X.env)).any (·.1) = false := by rfl) :
    SS X W (.Raise (some (.Call (.Name c p) [e] [] pos)) none rpos) (sRaise c f A) := by
  obtain ⟨Bn, newId, initId, bmB, fI, fd, ps, T, iC, tI, F1, hb, hm⟩ := F.has
  have hx : Passes (CX X.prog X.w) X (fun _ _ _ => False) := passes_call (Takes.imp B.t (W' := fun _ _ _ _ => False) fun _ _ _ _ z => z.elim) (fun _ _ _ _ z => z.elim)
  refine ps_imp (ps_raise B.c B.t (pmkG (p := p) T iC tI F1 (B.r.mono hk) hb hx hg hm (pa_cons ha pa_nil he) hdb he hpl)) fun De sg H ⟨io, h, rho, hR, hE, hA⟩ => ?_
  refine ⟨io, h, rho, hR, hE, (AftS.toS hA).mono (fun v h1 hv io1 H1 u e1 R1 v1 => ?_) fun _ _ z => z.zx hE⟩
  refine ⟨by show 1 ≤ 1000; omega, fun a hna => ⟨a, u, rfl, upd_same, fun dx hdx hne => ?_⟩⟩
  rw [upd_ne hne] at hdx
  refine ⟨rfl, dx, [(f, u)], upd_same, by rw [upd_ne hne, upd_same], hdx, ?_⟩
  have eH : upd (del (upd (upd (upd H1 a (exo a (He.ga X.K c) none)) dx (exd dx [(f, u)])) a (exo a (He.ga X.K c) (some dx))) a) dx (.xd [(f, u)]) = upd H1 dx (.xd [(f, u)]) := funext fun b => by
    by_cases hb : b = dx
    · subst hb; rw [upd_same, upd_same]
    · rw [upd_ne hb, upd_ne hb]
      by_cases hba : b = a
      · subst hba; rw [del_same, hna]
      · rw [del_ne hba, upd_ne hba, upd_ne hb, upd_ne hba]
  rw [eH]
  have E2 := ext_out (o := .xd [(f, u)]) R1 hdx
  exact hv io1 _ sg _ _ (e1.trans E2) (R1.out hdx) (hE.mono (e1.trans E2).toExt0) ⟨rfl, .inr ⟨dx, [(f, u)], by simp, rfl, R1.nin hdx, upd_same, .cons trivial (RV.mono E2.toExt0 _ _ v1) .nil⟩⟩
/-- a class without own __init__ -/
structure HasX0 (K : PySem.W.Frag) (mg : Str → Option Value) (c : Str) : Prop where
  has : ∃ (B newId initId : String) (bmB : List Value), ExcBaseFacts B newId initId bmB ∧ PySem.W.excIn K (He.ga K c) bmB newId = true
  kC : PySem.W.keepIn K (.ref (He.ga K c)) = true
  exC : PySem.W.subIn K (.ref (He.ga K c)) (.type "BaseException") = some true
  tyC : PySem.W.typeIn K (.ref (He.ga K c)) = some (.type "type")
  gl : mg c = some (.ref (He.ga K c))
def sRaise0 (c : Str) : Sm := fun rho h => .exc ⟨c, []⟩ rho h
theorem ss_raise0 {k : Nat} {m : Str} {j : Nat} {p2 : Pos} (B : Bd X W k) (F : HasX0 X.K X.mg c) (hg : Gl X c) (hdb : (c == ("__debug__" : Str)) = false := by decide) : SS X W (.Raise (some (.Call (.Name c p) [.Constant (.str m) j p2] [] pos)) none rpos) (sRaise0 c) := by
  obtain ⟨Bn, newId, initId, bmB, F1, F2⟩ := F.has
  refine ps_imp (ps_raise B.c B.t (pmk_own F1 F2 F.gl F.kC (raises_own F.exC F.tyC) hg hdb)) fun De sg H ⟨io, h, rho, hR, hE, hA⟩ => ?_
  exact hA io H sg _ _ (Ext.refl _ _) hR hE ⟨rfl, .inl ⟨rfl, rfl⟩⟩
end
end Mv

/-! try .. except: what a suite may do with the caught exception -/
namespace Mv
open PySem L2
/-- what holds of the slots and the heap while a suite runs -/
abbrev Fram := L2.St → List Addr → Hp → Prop
def Stb (F : Fram) : Prop := ∀ sg io H io' H', F sg io H → Ext io H io' H' → F sg io' H'
def tEF (F : Fram) (K : PySem.W.Frag) (m : Ex) : TE := fun sg H Q => ∃ io h rho, F sg io H ∧ RepH K io h H ∧ RepE K io H rho sg ∧ Aft (m rho h) (Pv K io H Q) (fun _ _ => False)
def tTF (F : Fram) (K : PySem.W.Frag) (m : Ts) : TT := fun sg H Q => ∃ io h rho, F sg io H ∧ RepH K io h H ∧ RepE K io H rho sg ∧ Aft (m rho h) (Pb K io H Q) (fun _ _ => False)
def tAF (F : Fram) (K : PySem.W.Frag) (m : Ar) : TA := fun sg H Q => ∃ io h rho, F sg io H ∧ RepH K io h H ∧ RepE K io H rho sg ∧ Aft (m rho h) (Pl K io H Q) (fun _ _ => False)
def PsF (F : Fram) (K : PySem.W.Frag) (io : List Addr) (H : Hp) (De : Ends) : Env → Fl → VH → Prop := fun rho f h => ∀ io' H' sg', Ext io H io' H' → F sg' io' H' → RepH K io' h H' → RepE K io' H' rho sg' → toEnd K io' H' De sg' f
theorem PsF.mono {F : Fram} {K : PySem.W.Frag} {io io' : List Addr} {H H' : Hp} {De : Ends} {rho : Env} {f : Fl} {h : VH} (p : PsF F K io H De rho f h) (e : Ext io H io' H') : PsF F K io' H' De rho f h := fun i2 H2 s2 e2 f2 r2 v2 => p i2 H2 s2 (e.trans e2) f2 r2 v2
def tSF (F : Fram) (K : PySem.W.Frag) (m : Sm) : TS := fun De sg H => ∃ io h rho, F sg io H ∧ RepH K io h H ∧ RepE K io H rho sg ∧ AftS (m rho h) (PsF F K io H De) (fun _ _ _ => False)
def FE (F : Fram) (X : Cx) (e : Expr) (m : Ex) : Prop := PE X e (tEF F X.K m)
def FT (F : Fram) (X : Cx) (e : Expr) (m : Ts) : Prop := PT X e (tTF F X.K m)
def FW (F : Fram) (X : Cx) (e : Expr) (m : Ts) : Prop := PW X e (tTF F X.K m)
def FA (F : Fram) (X : Cx) (es : List Expr) (m : Ar) : Prop := PA X es (tAF F X.K m)
def FS (F : Fram) (X : Cx) (st : Stmt) (m : Sm) : Prop := PS X st (tSF F X.K m)
def FB (F : Fram) (X : Cx) (st : List Stmt) (m : Sm) : Prop := PSs X st (tSF F X.K m)
section
variable {X : Cx} {F : Fram}
theorem fe_of {e : Expr} {A : Ex} (h : SE X W0 e A) : FE F X e A := pe_imp h fun sg H Q ⟨io, h, rho, f, hR, hE, hA⟩ => ⟨io, h, rho, hR, hE, hA.mono (fun _ _ z => z) fun _ _ z => z.elim⟩
theorem fa_nil : FA F X [] aNil := pa_imp pa_nil fun sg H Q ⟨io, h, rho, f, hR, hE, hA⟩ => hA io H [] (Ext.refl _ _) hR .nil
theorem fa_cons {e : Expr} {es : List Expr} {A : Ex} {B : Ar} (hF : Stb F) (ha : FE F X e A) (hb : FA F X es B) (hs : starEach (e :: es) X.env = (false, eval e X.env) :: starEach es X.env := by rfl) : FA F X (e :: es) (aCons A B) := by
  refine pa_imp (pa_cons ha hb hs) fun sg H Q ⟨io, h, rho, f, hR, hE, hA⟩ => ?_
  refine ⟨io, h, rho, f, hR, hE, (Aft.bind hA).mono (fun x h1 hx => ?_) fun _ _ z => z⟩
  intro io1 H1 v e1 R1 v1
  refine ⟨io1, h1, rho, hF _ _ _ _ _ f e1, R1, hE.mono e1.toExt0, (Aft.bind hx).mono (fun y h2 hy => ?_) fun _ _ z => z⟩
  intro io2 H2 u e2 R2 v2
  exact hy io2 H2 _ (e1.trans e2) R2 (.cons (RV.mono e2.toExt0 _ _ v1) v2)
theorem fe_tup {es : List Expr} {B : Ar} {pos : Pos} {x1 : Nat} (ha : FA F X es B) : FE F X (.Tuple es x1 pos) (eTup B) := pe_imp (pe_tup ha) fun sg H Q ⟨io, h, rho, f, hR, hE, hA⟩ => by
  refine ⟨io, h, rho, f, hR, hE, (Aft.bind hA).mono (fun ds h1 hx io1 H1 vs e1 R1 v1 => ?_) fun _ _ z => z⟩
  by_cases hl : ds.length ≤ sizeLine
  · rw [if_pos hl] at hx
    exact ⟨by rw [← v1.length]; exact hl, fun p hp => hx io1 _ _ (e1.trans (ext_out R1 hp)) (R1.out hp) (.tup (SqU.of upd_same) (RVs.mono (ext_out R1 hp).toExt0 _ _ v1))⟩
  · rw [if_neg hl] at hx
    exact hx.elim
theorem fe_disp {es : List Expr} {B : Ar} {pos : Pos} (ha : FA F X es B) : FE F X (.List es pos) (eL (lDisp B)) := pe_imp (pe_fz (pe_lst ha)) fun sg H Q ⟨io, h, rho, f, hR, hE, hA⟩ => by
  refine ⟨io, h, rho, f, hR, hE, (Aft.bind (Aft.bind hA)).mono (fun ds h1 hx io1 H1 vs e1 R1 v1 => ?_) fun _ _ z => z⟩
  by_cases hl : ds.length ≤ sizeLine
  · rw [if_pos hl] at hx
    exact ⟨by rw [← v1.length]; exact hl, fun p hp => Pv.new R1 (Pv.mono hx e1) hp v1⟩
  · rw [if_neg hl] at hx
    exact hx.elim
theorem ft_val {e : Expr} {A : Ex} (ha : FE F X e A) (ht : ∀ whole : Sem Value, PySem.isTrue e X.env whole = (do let v ← whole; standAt e.pos; holding [v] (truthy v)) := by intro _; rfl) : FT F X e (tVal A) := pt_imp (pt_val ha ht) fun sg H Q ⟨io, h, rho, f, hR, hE, hA⟩ => by
  refine ⟨io, h, rho, f, hR, hE, (Aft.bind hA).mono (fun x h1 hx io1 H1 v e1 R1 v1 => ?_) fun _ _ z => z⟩
  cases v1 with
  | bl b => exact ⟨b, rfl, hx io1 H1 e1 R1⟩
  | _ => exact hx.elim
theorem ft_not {e : Expr} {A : Ts} {pos : Pos} (ha : FT F X e A) : FT F X (.UnaryOp .Not e pos) (tNt A) := pt_imp (pt_not ha) fun sg H Q ⟨io, h, rho, f, hR, hE, hA⟩ =>
  ⟨io, h, rho, f, hR, hE, (Aft.bind hA).mono (fun x h1 hx io1 H1 e1 R1 => hx io1 H1 e1 R1) fun _ _ z => z⟩
theorem fw_and {a b : Expr} {A B : Ts} {pos : Pos} {rest : List Expr} (hF : Stb F) (ha : FT F X a A) (hb : FW F X (.BoolOp .And (b :: rest) pos) B) : FW F X (.BoolOp .And (a :: b :: rest) pos) (tAn A B) := pw_imp (pw_and ha hb) fun sg H Q ⟨io, h, rho, f, hR, hE, hA⟩ => by
  refine ⟨io, h, rho, f, hR, hE, (Aft.bind hA).mono (fun x h1 hx io1 H1 e1 R1 => ?_) fun _ _ z => z⟩
  cases x with
  | true =>
    rw [if_pos rfl] at hx ⊢
    exact ⟨io1, h1, rho, hF _ _ _ _ _ f e1, R1, hE.mono e1.toExt0, hx.mono (fun _ _ z => z.mono e1) fun _ _ z => z⟩
  | false =>
    rw [if_neg Bool.false_ne_true] at hx ⊢
    exact hx io1 H1 e1 R1
theorem fw_or {a b : Expr} {A B : Ts} {pos : Pos} {rest : List Expr} (hF : Stb F) (ha : FT F X a A) (hb : FW F X (.BoolOp .Or (b :: rest) pos) B) : FW F X (.BoolOp .Or (a :: b :: rest) pos) (tOrr A B) := pw_imp (pw_or ha hb) fun sg H Q ⟨io, h, rho, f, hR, hE, hA⟩ => by
  refine ⟨io, h, rho, f, hR, hE, (Aft.bind hA).mono (fun x h1 hx io1 H1 e1 R1 => ?_) fun _ _ z => z⟩
  cases x with
  | true =>
    rw [if_pos rfl] at hx ⊢
    exact hx io1 H1 e1 R1
  | false =>
    rw [if_neg Bool.false_ne_true] at hx ⊢
    exact ⟨io1, h1, rho, hF _ _ _ _ _ f e1, R1, hE.mono e1.toExt0, hx.mono (fun _ _ z => z.mono e1) fun _ _ z => z⟩
theorem fw_and1 {a : Expr} {A : Ts} {pos : Pos} (ha : FT F X a A) : FW F X (.BoolOp .And [a] pos) A := pw_and1 ha
theorem fw_or1 {a : Expr} {A : Ts} {pos : Pos} (ha : FT F X a A) : FW F X (.BoolOp .Or [a] pos) A := pw_or1 ha
theorem ft_w {e : Expr} {A : Ts} (h : FW F X e A) : FT F X e A := PW.pt h
theorem fe_if {c a b : Expr} {T : Ts} {A B : Ex} {pos : Pos} (hF : Stb F) (ht : FT F X c T) (ha : FE F X a A) (hb : FE F X b B) : FE F X (.IfExp c a b pos) (eIf T A B) := by
  refine pe_imp (pe_ifExp ht ha hb) fun sg H Q ⟨io, h, rho, f, hR, hE, hA⟩ => ?_
  refine ⟨io, h, rho, f, hR, hE, (Aft.bind hA).mono (fun x h1 hx io1 H1 e1 R1 => ?_) fun _ _ z => z⟩
  cases x with
  | true =>
    rw [if_pos rfl] at hx ⊢
    exact ⟨io1, h1, rho, hF _ _ _ _ _ f e1, R1, hE.mono e1.toExt0, hx.mono (fun _ _ z => z.mono e1) fun _ _ z => z⟩
  | false =>
    rw [if_neg Bool.false_ne_true] at hx ⊢
    exact ⟨io1, h1, rho, hF _ _ _ _ _ f e1, R1, hE.mono e1.toExt0, hx.mono (fun _ _ z => z.mono e1) fun _ _ z => z⟩
theorem fe_one {a : Expr} {A : Ex} {op : BoolOp} {pos : Pos} (ha : FE F X a A) : FE F X (.BoolOp op [a] pos) A := pe_one ha
theorem fe_and {a b : Expr} {A B : Ex} {pos : Pos} {rest : List Expr} (hF : Stb F) (ha : FE F X a A) (hb : FE F X (.BoolOp .And (b :: rest) pos) B) : FE F X (.BoolOp .And (a :: b :: rest) pos) (eAnd A B) := by
  refine pe_imp (pe_and ha hb) fun sg H Q ⟨io, h, rho, f, hR, hE, hA⟩ => ?_
  refine ⟨io, h, rho, f, hR, hE, (Aft.bind hA).mono (fun x h1 hx io1 H1 v e1 R1 v1 => ?_) fun _ _ z => z⟩
  cases v1 with
  | bl c =>
    refine ⟨c, rfl, ?_⟩
    cases c with
    | true =>
      rw [if_pos rfl]
      exact ⟨io1, h1, rho, hF _ _ _ _ _ f e1, R1, hE.mono e1.toExt0, hx.mono (fun _ _ z => z.mono e1) fun _ _ z => z⟩
    | false =>
      rw [if_neg Bool.false_ne_true]
      exact hx io1 H1 _ e1 R1 (.bl _)
  | _ => exact hx.elim
theorem fe_not {a : Expr} {A : Ex} {pos : Pos} (ha : FE F X a A) : FE F X (.UnaryOp .Not a pos) (eNot A) := by
  refine pe_imp (pe_not ha) fun sg H Q ⟨io, h, rho, f, hR, hE, hA⟩ => ?_
  refine ⟨io, h, rho, f, hR, hE, (Aft.bind hA).mono (fun x h1 hx io1 H1 v e1 R1 v1 => ?_) fun _ _ z => z⟩
  cases v1 with
  | bl c => exact ⟨c, rfl, hx io1 H1 _ e1 R1 (.bl _)⟩
  | _ => exact hx.elim
theorem twoFr {a b : Ex} {g : F2} {r : R2} {sg : L2.St} {H : Hp} {Q : VK} (hF : Stb F) (hf : OpS X.K g r) (h : tEF F X.K (eOp g a b) sg H Q) : tEF F X.K a sg H fun x H1 => tEF F X.K b sg H1 fun y H2 => r x y H2 Q := by
  obtain ⟨io, h, rho, f, hR, hE, hA⟩ := h
  refine ⟨io, h, rho, f, hR, hE, (Aft.bind hA).mono (fun x h1 hx => ?_) fun _ _ z => z⟩
  intro io1 H1 v e1 R1 v1
  refine ⟨io1, h1, rho, hF _ _ _ _ _ f e1, R1, hE.mono e1.toExt0, (Aft.bind hx).mono (fun y h2 hy => ?_) fun _ _ z => z⟩
  intro io2 H2 u e2 R2 v2
  obtain ⟨d, h3, e3, p⟩ := hy.up
  exact hf io2 h2 H2 x y v u Q d h3 R2 (RV.mono e2.toExt0 _ _ v1) v2 e3 (p.mono (e1.trans e2))
theorem fe_cmp {a b : Expr} {A B : Ex} {op : CmpOp} {g : F2} {pos : Pos} (hF : Stb F) (ho : OpM X (compareOp op) g) (ha : FE F X a A) (hb : FE F X b B) (hm : behindInMarks op b = false) : FE F X (.Compare a [op] [b] pos) (eOp g A B) := by
  obtain ⟨r, h1, h2⟩ := ho
  exact pe_imp (pe_cmpR h1 ha hb hm) fun sg H Q h => twoFr hF h2 h
theorem fe_callB {id : String} {x : Str} {e : Expr} {es : List Expr} {B : Ar} {g : Fn} {p pos : Pos} (hc : CallM X (.builtin id) g) (hg : Gl X x) (hm : X.mg x = none) (hv : bootBuiltins x = some (.builtin id)) (ha : FA F X (e :: es) B)
    (hn : x ≠ "__name__" := by decide) (hdb : (x == ("__debug__" : Str)) = false := by decide) (hs : starEach (e :: es) X.env = (false, eval e X.env) :: starEach es X.env := by rfl) (hst : ((backTo pos (starEach es X.env)).any fun x => x.fst) = false := by rfl) : FE F X (.Call (.Name x p) (e :: es) [] pos) (eCall g B) := by
  obtain ⟨r, h1, h2⟩ := hc
  refine pe_imp (pe_callB h1 hg hm hv ha hn hdb hs hst) fun sg H Q ⟨io, h, rho, f, hR, hE, hA⟩ => ?_
  refine ⟨io, h, rho, f, hR, hE, (Aft.bind hA).mono (fun x h1 hx => ?_) fun _ _ z => z⟩
  intro io1 H1 v e1 R1 v1
  obtain ⟨d, h3, e3, p⟩ := hx.up
  exact h2 io1 h1 H1 x v Q d h3 R1 v1 e3 (p.mono e1)
/-! statements -/
theorem fb_one {st : Stmt} {a : Sm} (h1 : FS F X st a) : FB F X [st] a := pss_one h1
theorem fb_nil : FB F X [] sSkip := pss_imp pss_nil fun De sg H ⟨io, h, rho, f, hR, hE, hA⟩ => hA io H sg (Ext.refl _ _) f hR hE
theorem fb_cons {st : Stmt} {rest : List Stmt} {a b : Sm} (h1 : FS F X st a) (h2 : FB F X rest b) : FB F X (st :: rest) (sSeq a b) := by
  refine pss_imp (pss_cons h1 h2) fun De sg H ⟨io, h, rho, f, hR, hE, hA⟩ => ?_
  refine ⟨io, h, rho, f, hR, hE, (AftS.next hA).mono (fun r fl k hk io1 H1 sg1 e1 f1 R1 E1 => ?_) fun _ _ _ z => z⟩
  cases fl with
  | nx => exact ⟨io1, k, r, f1, R1, E1, AftS.mono hk (fun _ _ _ z => z.mono e1) fun _ _ _ z => z⟩
  | brk => exact hk io1 H1 sg1 e1 f1 R1 E1
  | cnt => exact hk io1 H1 sg1 e1 f1 R1 E1
  | ret d => exact hk io1 H1 sg1 e1 f1 R1 E1
theorem fs_ret {e : Expr} {A : Ex} {pos : Pos} (hF : Stb F) (ha : FE F X e A) : FS F X (.Return (some e) pos) (sRet A) := ps_imp (ps_ret ha) fun De sg H ⟨io, h, rho, f, hR, hE, hA⟩ =>
  ⟨io, h, rho, f, hR, hE, (AftS.toS hA).mono (fun d k hk io1 H1 v e1 R1 v1 => hk io1 H1 sg e1 (hF _ _ _ _ _ f e1) R1 (hE.mono e1.toExt0) v v1) fun _ _ z => z⟩
theorem fs_if {c : Expr} {a b : List Stmt} {T : Ts} {A B : Sm} {pos : Pos} (hF : Stb F) (ht : FT F X c T) (ha : FB F X a A) (hb : FB F X b B) : FS F X (.If c a b pos) (sIf T A B) := by
  refine ps_imp (ps_if ht ha hb) fun De sg H ⟨io, h, rho, f, hR, hE, hA⟩ => ?_
  refine ⟨io, h, rho, f, hR, hE, (AftS.toS hA).mono (fun x k hk io1 H1 e1 R1 => ?_) fun _ _ z => z⟩
  cases x with
  | true =>
    rw [if_pos rfl] at hk ⊢
    exact ⟨io1, k, rho, hF _ _ _ _ _ f e1, R1, hE.mono e1.toExt0, hk.mono (fun _ _ _ z => z.mono e1) fun _ _ _ z => z⟩
  | false =>
    rw [if_neg Bool.false_ne_true] at hk ⊢
    exact ⟨io1, k, rho, hF _ _ _ _ _ f e1, R1, hE.mono e1.toExt0, hk.mono (fun _ _ _ z => z.mono e1) fun _ _ _ z => z⟩
/-- assigning another name leaves the frame -/
def Fre (F : Fram) (j : Nat) : Prop := ∀ sg io H v, F sg io H → F (sg.set j v) io H
theorem fs_set {j : Nat} {x : Str} {e : Expr} {A : Ex} {pos pos' : Pos} (hF : Stb F) (hj : Fre F j) (hN : X.N.Nodup) (hi : X.N[j]? = some x) (hx : L2.Loc X.env.scope x) (ha : FE F X e A) (hs : swapsWith e (some (.Name x pos')) pos.line X.env = pure false := by rfl)
    (hf : X.fn x = true ∨ X.env.scope.names.lookup x = some .local := by first | exact .inl rfl | exact .inr rfl) : FS F X (.Assign [.Name x pos'] e pos) (sAsg (.nm j) A) := ps_imp (ps_set hN hi hx ha hs hf) fun De sg H ⟨io, h, rho, f, hR, hE, hA⟩ => by
  refine ⟨io, h, rho, f, hR, hE, (AftS.toS hA).mono (fun d k hk io1 H1 v e1 R1 v1 => ?_) fun _ _ z => z⟩
  exact hk io1 H1 (sg.set j (some v)) e1 (hj _ _ _ _ (hF _ _ _ _ _ f e1)) R1 ((hE.mono e1.toExt0).set j v1)
end
theorem RX.mono {K : PySem.W.Frag} {io io' : List Addr} {H H' : Hp} {x : Xc} {c : Value} {dd : Option Addr} (r : RX K io H x c dd) (e : Ext io H io' H') : RX K io' H' x c dd := by
  obtain ⟨h1, h2 | ⟨d, vs, h3, h4, h5, h6, h7⟩⟩ := r
  · exact ⟨h1, .inl h2⟩
  · exact ⟨h1, .inr ⟨d, vs, h3, h4, e.nin h5 h6, e.fr d _ h5 h6, h7.mono e.toExt0⟩⟩
/-- the suite of  except .. as n:  slot i is n's, the exception lies at a -/
def FrX (K : PySem.W.Frag) (i : Nat) (a : Addr) (cls : Value) (d : Option Addr) (x : Xc) : Fram := fun sg io H => sg[i]? = some (some (.ref a)) ∧ RX K io H x cls d
theorem frx_stb {K : PySem.W.Frag} {i : Nat} {a : Addr} {cls : Value} {d : Option Addr} {x : Xc} : Stb (FrX K i a cls d x) := fun sg io H io' H' h e => ⟨h.1, h.2.mono e⟩
theorem frx_fre {K : PySem.W.Frag} {i j : Nat} {a : Addr} {cls : Value} {d : Option Addr} {x : Xc} (h : i ≠ j) : Fre (FrX K i a cls d x) j := fun sg io H v hh => ⟨by rw [List.getElem?_set_ne (Ne.symm h)]; exact hh.1, hh.2⟩
def FrO : Fram := fun _ _ _ => True
theorem fro_stb : Stb FrO := fun _ _ _ _ _ _ _ => trivial
theorem fro_fre {j : Nat} : Fre FrO j := fun _ _ _ _ _ => trivial
/-- what of the classes is asked where a field is read -/
def XfOk (K : PySem.W.Frag) (f : Str) (cs : List Str) : Prop := ∀ c ∈ cs, XfC K (He.ga K c) ∧ PySem.W.findIn K (.ref (He.ga K c)) f = some none
def xfOkB (f : Str) (cs : List Str) (K : PySem.W.Frag) : Bool := cs.all fun c => xfB K (He.ga K c) && decide (PySem.W.findIn K (.ref (He.ga K c)) f = some none)
theorem xfOk_of {K : PySem.W.Frag} {f : Str} {cs : List Str} (h : xfOkB f cs K = true) : XfOk K f cs := fun c hc => by
  obtain ⟨h1, h2⟩ := Bool.and_eq_true_iff.mp (List.all_eq_true.mp h c hc)
  exact ⟨xfB_ok h1, of_decide_eq_true h2⟩
def eXf (cs : List Str) (f : Str) (x : Xc) : Ex := fun _ h => if x.cls ∈ cs then match x.fs.lookup f with
    | some v => .ok v h
    | none => .bad
  else .bad
section
variable {X : Cx} {i : Nat} {a : Addr} {oe : Obj} {cls : Value} {d : Option Addr} {x : Xc} {pn : List (Addr × Obj)}
theorem fe_xf {cs : List Str} {f n : Str} {p pos : Pos} (hz : Zc cls d oe) (hf : ∃ vs, oe.data = .fields vs) (hc : XfOk X.K f cs) (he : PE (X.suite a ((a, oe) :: pn)) (.Name n p) (tVar i)) : FE (FrX X.K i a cls d x) (X.suite a ((a, oe) :: pn)) (.Attribute (.Name n p) f pos) (eXf cs f x) := by
  by_cases hx : x.cls ∈ cs
  · refine pe_imp (pe_xf (C := He.ga X.K x.cls) (hc _ hx).1 (hc _ hx).2 hz hf he) fun sg H Q ⟨io, h, rho, ⟨f1, f2⟩, hR, hE, hA⟩ => ?_
    refine ⟨.ref a, f1, rfl, f2.1, ?_⟩
    unfold eXf at hA
    rw [if_pos hx] at hA
    obtain ⟨_, ⟨h1, _⟩ | ⟨dd, vs, h3, h4, h5, h6, h7⟩⟩ := f2
    · rw [h1] at hA
      exact hA.elim
    · split at hA
      · rename_i v hv
        obtain ⟨u, l, rv⟩ := h7.lookup hv
        exact ⟨dd, vs, u, h4, h6, l, hA io H u (Ext.refl _ _) hR rv⟩
      · exact hA.elim
  · refine ⟨fun pins s sg H Q I ⟨io, h, rho, f0, hR, hE, hA⟩ => ?_⟩
    unfold eXf at hA
    rw [if_neg hx] at hA
    exact hA.elim
/-! isinstance(e, C) -/
structure XiC (K : PySem.W.Frag) (D : Addr) : Prop where
  cl : (PySem.W.clsIn K D).isSome = true
  hg : PySem.W.findIn K (.ref D) "__getattribute__" = some (some (.builtin "BaseException.__getattribute__"))
  hk : PySem.W.findIn K (.ref D) "__getattr__" = some none
  hs : PySem.W.subIn K (.ref D) (.type "BaseException") = some true
  ha : PySem.W.findIn K (.ref D) "__class__" = some (some (.builtin "object.__class__"))
  hn : PySem.W.specialIn K (.builtin "object.__class__") "__get__" = some (some (.builtin "getset_descriptor.__get__"))
  ht : PySem.W.takesIn K (.builtin "object.__class__") = some true
  hm : PySem.W.mroIn K D (.type "object") = some true
def xiB (K : PySem.W.Frag) (D : Addr) : Bool := ((PySem.W.clsIn K D).isSome && decide (PySem.W.findIn K (.ref D) "__getattribute__" = some (some (.builtin "BaseException.__getattribute__")))) && ((decide (PySem.W.findIn K (.ref D) "__getattr__" = some none) && decide (PySem.W.subIn K (.ref D) (.type "BaseException") = some true)) &&
  ((decide (PySem.W.findIn K (.ref D) "__class__" = some (some (.builtin "object.__class__"))) && decide (PySem.W.specialIn K (.builtin "object.__class__") "__get__" = some (some (.builtin "getset_descriptor.__get__")))) && (decide (PySem.W.takesIn K (.builtin "object.__class__") = some true) && decide (PySem.W.mroIn K D (.type "object") = some true))))
theorem xiB_ok {K : PySem.W.Frag} {D : Addr} (h : xiB K D = true) : XiC K D := by
  simp only [xiB, Bool.and_eq_true, decide_eq_true_eq] at h
  obtain ⟨⟨h1, h2⟩, ⟨h3, h4⟩, ⟨h5, h6⟩, h7, h8⟩ := h
  exact ⟨h1, h2, h3, h4, h5, h6, h7, h8⟩
/-- the classes r that may be met, and whether each is one of those at the value cv -/
def XiOk (K : PySem.W.Frag) (cv : Value) (tb : List (Str × Bool)) : Prop := ∀ r b, (r, b) ∈ tb → XiC K (He.ga K r) ∧ PySem.W.kitOne K (.ref (He.ga K r)) cv = some b
def xiOkB (cv : PySem.W.Frag → Value) (tb : List (Str × Bool)) (K : PySem.W.Frag) : Bool := tb.all fun p => xiB K (He.ga K p.1) && decide (PySem.W.kitOne K (.ref (He.ga K p.1)) (cv K) = some p.2)
theorem xiOk_of {K : PySem.W.Frag} {cv : PySem.W.Frag → Value} {tb : List (Str × Bool)} (h : xiOkB cv tb K = true) : XiOk K (cv K) tb := fun r b hr => by
  obtain ⟨h1, h2⟩ := Bool.and_eq_true_iff.mp (List.all_eq_true.mp h (r, b) hr)
  exact ⟨xiB_ok h1, of_decide_eq_true h2⟩
theorem mem_lookup {tb : List (Str × Bool)} {r : Str} {b : Bool} (h : tb.lookup r = some b) : (r, b) ∈ tb := by
  induction tb with
  | nil => cases h
  | cons p tb ih =>
    obtain ⟨q, c⟩ := p
    rw [List.lookup_cons] at h
    cases e : (r == q) with
    | true =>
      rw [e] at h
      cases h
      rw [beq_iff_eq.mp e]
      exact List.mem_cons_self ..
    | false =>
      rw [e] at h
      exact List.mem_cons_of_mem _ (ih h)
def rIsX (K : PySem.W.Frag) (D a : Addr) (d : Option Addr) : List V → Hp → VK → Prop := fun xs H Q => ∃ (c : V) (cv : Value) (b : Bool), xs = [.ref a, c] ∧ (∀ u, RelV c u → u = cv) ∧ PySem.W.kitOne K (.ref D) cv = some b ∧ (d = none ∨ ∃ dd fs, d = some dd ∧ H dd = some (.xd fs)) ∧ Q (.bl b) H
theorem call_isX {D : Addr} (C : XiC X.K D) (hz : Zc (.ref D) d oe) (hf : ∃ vs, oe.data = .fields vs) : CallR (X.suite a ((a, oe) :: pn)) (.builtin "isinstance") (rIsX X.K D a d) := by
  intro pins s sg H xs us Q I r h
  obtain ⟨c, cv, b, rfl, hcv, e, hd, q⟩ := h
  cases r with
  | cons rx rr =>
    cases rr with
    | cons rt rr =>
      cases rr
      cases rx
      have ec := hcv _ rt
      subst ec
      obtain ⟨hget, _⟩ := I.pin (a, oe) (List.mem_append.mpr (.inl List.mem_cons_self))
      obtain ⟨vs, hv⟩ := hf
      have J : ∃ od, PySem.W.InstAt s.heap a oe D od := by
        rcases hd with rfl | ⟨dd, fs, rfl, hdd⟩
        · exact ⟨none, hget, hz.1, by unfold PySem.W.notCls; rw [hv] <;> rfl, by rw [hz.2]; exact trivial⟩
        · have hx : ObjOk X.prog X.w H s.heap dd (.xd fs) := I.hok dd _ hdd
          obtain ⟨mA, hns, hr⟩ := hx
          obtain ⟨od, _, _, ho, _⟩ := hns
          exact ⟨some od, hget, hz.1, by unfold PySem.W.notCls; rw [hv] <;> rfl, by rw [hz.2]; exact ho⟩
      obtain ⟨od, J⟩ := J
      exact PySem.W.kia_one (PySem.W.kitx_exc C.cl C.hg C.hk C.hs C.ha C.hn C.ht C.hm) I.kIn J e (fun z => nomatch z) fun tk => ⟨.bl b, H, I.kept (t' := tk) fun _ _ z => z, rfl, q⟩
def eXis (tb : List (Str × Bool)) (x : Xc) : Ex := fun _ h => match tb.lookup x.cls with
  | some b => .ok (.bl b) h
  | none => .bad
theorem fe_xis {tb : List (Str × Bool)} {cv : Value} {v : V} {n : Str} {e2 : Expr} {p p0 pos : Pos} (hz : Zc cls d oe) (hf : ∃ vs, oe.data = .fields vs) (hc : XiOk X.K cv tb) (hgi : Gl X "isinstance") (hmi : X.mg "isinstance" = none) (he : PE (X.suite a ((a, oe) :: pn)) (.Name n p) (tVar i)) (he2 : PE (X.suite a ((a, oe) :: pn)) e2 (tC v)) (hcv : ∀ u, RelV v u → u = cv)
    (hs0 : starEach [e2] (X.suite a ((a, oe) :: pn)).env = (false, eval e2 (X.suite a ((a, oe) :: pn)).env) :: starEach [] (X.suite a ((a, oe) :: pn)).env := by rfl)
    (hs : starEach (.Name n p :: [e2]) (X.suite a ((a, oe) :: pn)).env = (false, eval (.Name n p) (X.suite a ((a, oe) :: pn)).env) :: starEach [e2] (X.suite a ((a, oe) :: pn)).env := by rfl)
    (hst : ((backTo pos (starEach [e2] (X.suite a ((a, oe) :: pn)).env)).any fun x => x.fst) = false := by rfl) : FE (FrX X.K i a cls d x) (X.suite a ((a, oe) :: pn)) (.Call (.Name "isinstance" p0) [.Name n p, e2] [] pos) (eXis tb x) := by
  cases hl : tb.lookup x.cls with
  | none =>
    refine ⟨fun pins s sg H Q I ⟨io, h, rho, f0, hR, hE, hA⟩ => ?_⟩
    unfold eXis at hA
    rw [hl] at hA
    exact hA.elim
  | some b =>
    obtain ⟨C, hk⟩ := hc _ _ (mem_lookup hl)
    by_cases hcls : cls = .ref (He.ga X.K x.cls)
    · subst hcls
      refine pe_imp (pe_callB (call_isX C hz hf) hgi hmi (by decide +kernel) (pa_cons he (pa_cons he2 pa_nil hs0) hs) (by decide) (by decide) hs hst) fun sg H Q ⟨io, h, rho, ⟨f1, f2⟩, hR, hE, hA⟩ => ?_
      refine ⟨.ref a, f1, v, cv, b, rfl, hcv, hk, ?_, ?_⟩
      · obtain ⟨_, ⟨_, h1⟩ | ⟨dd, vs, h3, h4, h5, h6, h7⟩⟩ := f2
        · exact .inl h1
        · exact .inr ⟨dd, vs, h4, h6⟩
      · unfold eXis at hA
        rw [hl] at hA
        exact hA io H _ (Ext.refl _ _) hR (.bl b)
    · exact ⟨fun pins s sg H Q I ⟨io, h, rho, f0, hR, hE, hA⟩ => absurd f0.2.1 hcls⟩
end
/-! ### the statement -/
def sTryA (body : Sm) (tb : List (Str × Bool)) (i : Nat) (S : Xc → Sm) : Sm := fun rho h => match body rho h with
  | .exc x rho1 h1 => match tb.lookup x.cls with
    | some true => if i < rho1.length then match S x (rho1.set i none) h1 with
        | .go r2 f h2 => .go (r2.set i none) f h2
        | _ => .bad
      else .bad
    | some false => .exc x rho1 h1
    | none => .bad
  | .go r f h1 => .go r f h1
  | .bad => .bad
def sTryO (body : Sm) (tb : List (Str × Bool)) (S : Sm) : Sm := fun rho h => match body rho h with
  | .exc x rho1 h1 => match tb.lookup x.cls with
    | some true => match S rho1 h1 with
      | .go r2 f h2 => .go r2 f h2
      | _ => .bad
    | some false => .exc x rho1 h1
    | none => .bad
  | .go r f h1 => .go r f h1
  | .bad => .bad
def ExOk (K : PySem.W.Frag) (cv : Value) (tb : List (Str × Bool)) : Prop := ∀ r b, (r, b) ∈ tb → PySem.W.exmOne K (.ref (He.ga K r)) cv = some b
def exOkB (cv : PySem.W.Frag → Value) (tb : List (Str × Bool)) (K : PySem.W.Frag) : Bool := tb.all fun p => decide (PySem.W.exmOne K (.ref (He.ga K p.1)) (cv K) = some p.2)
theorem exOk_of {K : PySem.W.Frag} {cv : PySem.W.Frag → Value} {tb : List (Str × Bool)} (h : exOkB cv tb K = true) : ExOk K (cv K) tb := fun r b hr => of_decide_eq_true (List.all_eq_true.mp h (r, b) hr)
section
variable {X : Cx} {W : WX} {k i : Nat} {n cx : Str} {cv : Value} {tb : List (Str × Bool)} {body suite : List Stmt} {b0 : Stmt} {np pos pos' : Pos} {M : Sm}
theorem RepE.setN {K : PySem.W.Frag} {io : List Addr} {H : Hp} {rho : Env} {sg : L2.St} (r : RepE K io H rho sg) (i : Nat) (v : Option V) : RepE K io H (rho.set i none) (sg.set i v) := by
  refine ⟨by simp [r.len], fun j e hj => ?_⟩
  by_cases hij : i = j
  · subst hij
    by_cases hl : i < rho.length
    · rw [List.getElem?_set_self hl] at hj
      cases hj
    · rw [List.getElem?_eq_none (by simp; omega)] at hj
      cases hj
  · rw [List.getElem?_set_ne hij] at hj ⊢
    exact r.val j e hj
theorem ss_tryA {S : Xc → Sm} (B : Bd X W k) (hs : X.stack = X.env :: X.outer) (hf : X.env.frame = some X.env.locals) (hN : X.N.Nodup) (hi : X.N[i]? = some n) (hln : X.env.kindOf n = some .local) (hc : Names X cx cv) (hm : ExOk X.K cv tb)
    (hb : ∀ (W' : WX) (pn : List (Addr × Obj)) (xe : Value → Shared → Prop), Bd (X.tr pn xe) W' k → PassesOwn (model X.prog X.w) X.A X.env xe → SB (X.tr pn xe) W' body M)
    (hsu : ∀ (a : Addr) (oe : Obj) (x : Xc) (cls : Value) (d : Option Addr) (pn : List (Addr × Obj)), Zc cls d oe → (∃ vs, oe.data = .fields vs) → FB (FrX X.K i a cls d x) (X.suite a ((a, oe) :: pn)) (b0 :: suite) (S x)) :
    SS X W (.Try body [.ExceptHandler (some (.Name cx np)) (some n) (b0 :: suite) pos'] [] [] pos) (sTryA M tb i S) := by
  refine ps_imp (ps_try_as hs hf hN hi hln hc B.t (tb := fun W' => tS X.K W' M) (ts := fun a cls d D sg H => ∃ x, tSF (FrX X.K i a cls d x) X.K (S x) D sg H) (fun W' pn xe tk hp => hb W' pn xe ⟨B.g, B.r, tk, B.c⟩ hp) fun a oe cls d pn hz hv => ⟨fun pins s sg H D I ⟨x, h⟩ => (hsu a oe x cls d pn hz hv).run pins s sg H D I h⟩) fun De sg H ⟨io, h, rho, hR, hE, hA⟩ => ?_
  refine ⟨io, h, rho, hR, hE, ?_⟩
  unfold sTryA at hA
  cases q : M rho h with
  | bad => rw [q] at hA; exact hA.elim
  | go r f h1 => rw [q] at hA; exact hA
  | exc x rho1 h1 =>
    rw [q] at hA
    dsimp only at hA
    intro io1 H1 sg1 c dd e1 R1 E1 rx
    cases hl : tb.lookup x.cls with
    | none => rw [hl] at hA; exact hA.elim
    | some b =>
      rw [hl] at hA
      refine ⟨b, by rw [rx.1]; exact hm _ _ (mem_lookup hl), fun hbt a hna => ?_, fun hbf => ?_⟩
      · subst hbt
        dsimp only at hA
        split at hA
        · rename_i hlen
          refine ⟨x, io1, h1, rho1.set i none, ⟨List.getElem?_set_self (by rw [← E1.len]; exact hlen), rx⟩, R1, E1.setN i _, ?_⟩
          cases q2 : S x (rho1.set i none) h1 with
          | bad => rw [q2] at hA; exact hA.elim
          | exc _ _ _ => rw [q2] at hA; exact hA.elim
          | go r2 f h2 =>
            rw [q2] at hA
            intro io2 H2 sg2 e2 f2 R2 E2
            have z := hA io2 H2 (sg2.set i none) (e1.trans e2) R2 (E2.wipe1 i)
            cases f with
            | nx => exact z
            | brk => exact z
            | cnt => exact z
            | ret d2 => exact z
        · exact hA.elim
      · subst hbf
        exact hA io1 H1 sg1 c dd e1 R1 E1 rx
theorem ss_tryO {S : Sm} (B : Bd X W k) (hs : X.stack = X.env :: X.outer) (hf : X.env.frame = some X.env.locals) (hc : Names X cx cv) (hm : ExOk X.K cv tb)
    (hb : ∀ (W' : WX) (pn : List (Addr × Obj)) (xe : Value → Shared → Prop), Bd (X.tr pn xe) W' k → PassesOwn (model X.prog X.w) X.A X.env xe → SB (X.tr pn xe) W' body M)
    (hsu : ∀ (a : Addr) (oe : Obj) (pn : List (Addr × Obj)), FB FrO (X.suite a ((a, oe) :: pn)) (b0 :: suite) S) :
    SS X W (.Try body [.ExceptHandler (some (.Name cx np)) none (b0 :: suite) pos'] [] [] pos) (sTryO M tb S) := by
  refine ps_imp (ps_try_only hs hf hc B.t (tb := fun W' => tS X.K W' M) (ts := fun a cls d D sg H => tSF FrO X.K S D sg H) (fun W' pn xe tk hp => hb W' pn xe ⟨B.g, B.r, tk, B.c⟩ hp) fun a oe cls d pn hz hv => hsu a oe pn) fun De sg H ⟨io, h, rho, hR, hE, hA⟩ => ?_
  refine ⟨io, h, rho, hR, hE, ?_⟩
  unfold sTryO at hA
  cases q : M rho h with
  | bad => rw [q] at hA; exact hA.elim
  | go r f h1 => rw [q] at hA; exact hA
  | exc x rho1 h1 =>
    rw [q] at hA
    dsimp only at hA
    intro io1 H1 sg1 c dd e1 R1 E1 rx
    cases hl : tb.lookup x.cls with
    | none => rw [hl] at hA; exact hA.elim
    | some b =>
      rw [hl] at hA
      refine ⟨b, by rw [rx.1]; exact hm _ _ (mem_lookup hl), fun hbt a hna => ?_, fun hbf => ?_⟩
      · subst hbt
        dsimp only at hA
        refine ⟨io1, h1, rho1, trivial, R1, E1, ?_⟩
        cases q2 : S rho1 h1 with
        | bad => rw [q2] at hA; exact hA.elim
        | exc _ _ _ => rw [q2] at hA; exact hA.elim
        | go r2 f h2 =>
          rw [q2] at hA
          exact fun io2 H2 sg2 e2 f2 R2 E2 => hA io2 H2 sg2 (e1.trans e2) R2 E2
      · subst hbf
        exact hA io1 H1 sg1 c dd e1 R1 E1 rx
/-- what a suite may lean on -/
structure Bq (X : Cx) : Prop where
  g : X.A.guards = some []
  u70 : X.A.units + 70 < cLine
theorem Bq.u {X : Cx} (b : Bq X) : X.A.units + 64 < cLine := by have := b.u70; omega
theorem Bd.q {X : Cx} {W : WX} {k : Nat} (b : Bd X W k) (a : Addr) (pn : List (Addr × Obj)) : Bq (X.suite a pn) := ⟨b.g, b.u70⟩
end
/-! ### what the head tells of exception classes -/
def isVal (r : Option PySem.W.CFound) (s : String) : Bool := match r with
  | some (.val (.builtin t)) => decide (t = s)
  | _ => false
theorem isVal_of {r : Option PySem.W.CFound} {s : String} (h : isVal r s = true) : r = some (.val (.builtin s)) := by
  unfold isVal at h
  split at h
  · rw [of_decide_eq_true h]
  · cases h
def xcB (c f newId : Str) (nid : String) (bmB : List Value) (K : PySem.W.Frag) : Bool :=
  (PySem.W.excInitIn K (He.ga K c) bmB nid && (PySem.W.excOver K (He.ga K c) bmB && PySem.W.hasDictIn K (He.ga K c))) &&
  ((decide (PySem.W.findIn K (.ref (He.ga K c)) "__setattr__" = some (some (.builtin "object.__setattr__"))) && (decide (PySem.W.subIn K (.ref (He.ga K c)) (.type "BaseException") = some true) && decide (PySem.W.typeIn K (.ref (He.ga K c)) = some (.type "type")))) &&
  ((PySem.W.keepIn K (.ref (He.ga K c)) && decide (PySem.W.findIn K (.ref (He.ga K c)) f = some none)) &&
  (decide (PySem.W.findIn K (.ref (He.ga K c)) "__init__" = some (some (.ref (He.ma K (He.ga K c) "__init__")))) && decide (PySem.W.typeIn K (.ref (He.ma K (He.ga K c) "__init__")) = some (.type "function")))))
structure XcT (K : PySem.W.Frag) (c f : Str) (B newId initId : String) (bmB : List Value) : Prop where
  C : XcC K (He.ga K c) B newId initId bmB
  no : PySem.W.findIn K (.ref (He.ga K c)) f = some none
  ini : PySem.W.findIn K (.ref (He.ga K c)) "__init__" = some (some (.ref (He.ma K (He.ga K c) "__init__")))
  ty : PySem.W.typeIn K (.ref (He.ma K (He.ga K c) "__init__")) = some (.type "function")
theorem xcT_of {K : PySem.W.Frag} {c f x : Str} {B newId initId : String} {bmB : List Value} (b : ExcBaseFacts B newId initId bmB) (s : StoreFacts B bmB "object.__setattr__" "object") (h : xcB c f x newId bmB K = true) : XcT K c f B newId initId bmB := by
  simp only [xcB, Bool.and_eq_true, decide_eq_true_eq] at h
  obtain ⟨⟨h1, h2, h3⟩, ⟨h4, h5, h6⟩, ⟨h7, h8⟩, h9, h10⟩ := h
  exact ⟨⟨b, s, h1, h2, h3, h4, h5, h6, h7⟩, h8, h9, h10⟩
def ba1B (T initId : String) (K : PySem.W.Frag) : Bool := isVal (PySem.W.findCls K (.type T) (.type "type") "__init__") initId
theorem ba1_of {K : PySem.W.Frag} {mg : Str → Option Value} {x : Str} {T initId : String} (h : ba1B T initId K = true) (hm : mg x = none) (hb : bootBuiltins x = some (.type T)) (hx : x ≠ "__name__") (ht : typeOf (.type T) = pure (.type "type")) (hs : Manifest.isStub T = false) (hh : PySem.W.handedIn (.builtin initId) = true) : BaseAt K mg x initId :=
  .blt T hb hx hm ht hs (isVal_of h) hh
def ba2B (d : Str) (initId : String) (K : PySem.W.Frag) : Bool := (PySem.W.readsIn K (He.ga K d) (.type "type") && decide (PySem.W.specialIn K (.ref (He.ga K d)) "__getattribute__" = some (some (.builtin "type.__getattribute__")))) && isVal (PySem.W.findCls K (.ref (He.ga K d)) (.type "type") "__init__") initId
theorem ba2_of {K : PySem.W.Frag} {mg : Str → Option Value} {d : Str} {initId : String} (h : ba2B d initId K = true) (hm : mg d = some (.ref (He.ga K d))) (hh : PySem.W.handedIn (.builtin initId) = true) : BaseAt K mg d initId := by
  simp only [ba2B, Bool.and_eq_true, decide_eq_true_eq] at h
  exact .own _ hm h.1.1 h.1.2 (isVal_of h.2) hh
def x0B (c : Str) (nid : String) (bmB : List Value) (K : PySem.W.Frag) : Bool := (PySem.W.excIn K (He.ga K c) bmB nid && PySem.W.keepIn K (.ref (He.ga K c))) && (decide (PySem.W.subIn K (.ref (He.ga K c)) (.type "BaseException") = some true) && decide (PySem.W.typeIn K (.ref (He.ga K c)) = some (.type "type")))
theorem x0_of {K : PySem.W.Frag} {mg : Str → Option Value} {c : Str} {B newId initId : String} {bmB : List Value} (b : ExcBaseFacts B newId initId bmB) (h : x0B c newId bmB K = true) (hm : mg c = some (.ref (He.ga K c))) : HasX0 K mg c := by
  simp only [x0B, Bool.and_eq_true, decide_eq_true_eq] at h
  exact ⟨⟨B, newId, initId, bmB, b, h.1.1⟩, h.1.2, h.2.1, h.2.2, hm⟩
abbrev tlRE : List Value := [.type "RuntimeError", .type "Exception", .type "BaseException", .type "object"]
abbrev tlVE : List Value := [.type "ValueError", .type "Exception", .type "BaseException", .type "object"]
theorem ty_RE : typeOf (.type "RuntimeError") = pure (.type "type") := by kernel_rfl
theorem ty_VE : typeOf (.type "ValueError") = pure (.type "type") := by kernel_rfl
theorem xb_RE : ExcBaseFacts "RuntimeError" "RuntimeError.__new__" "RuntimeError.__init__" tlRE := PySem.F.excBase_RuntimeError
theorem xb_VE : ExcBaseFacts "ValueError" "ValueError.__new__" "ValueError.__init__" tlVE := PySem.F.excBase_ValueError
theorem st_RE : StoreFacts "RuntimeError" tlRE "object.__setattr__" "object" := PySem.F.store_RuntimeError
theorem st_VE : StoreFacts "ValueError" tlVE "object.__setattr__" "object" := PySem.F.store_ValueError
end Mv

namespace Mv
open PySem L2
section
variable {X : Cx} {W : WX}
/-- a part of a list, to be laid into the virtual heap -/
def lSl (a : Ex) (lo hi : Om) : Ar := fun rho h => (a rho h).bind fun x h1 => (lo rho h1).bind fun l h2 => (hi rho h2).bind fun u h3 => match listOf x h3 with
  | some ds => .ok (cutD ds l u) h3
  | none => .bad
theorem sl_slice {e : Expr} {lo hi : Option Expr} {A : Ex} {L U : Om} {pos p2 : Pos} (ha : SE X W e A) (hl : SO X W lo L) (hh : SO X W hi U) : SL X W (.Subscript e (.Slice lo hi none p2) pos) (lSl A L U) := by
  refine pe_imp (pe_slice sl_list ha hl hh) fun sg H Q ⟨io, h, rho, hR, hE, hA⟩ => ?_
  refine ⟨io, h, rho, hR, hE, (Aft.bind hA).mono (fun x h1 hx io1 H1 v e1 R1 v1 => ?_) fun _ _ z => z⟩
  refine ⟨io1, h1, rho, R1, hE.mono e1.toExt0, (Aft.bind hx).mono (fun l h2 hl io2 H2 e2 R2 => ?_) fun _ _ z => z.mono e1⟩
  refine ⟨io2, h2, rho, R2, (hE.mono e1.toExt0).mono e2.toExt0, (Aft.bind hl).mono (fun u h3 hu io3 H3 e3 R3 => ?_) fun _ _ z => (z.mono e1).mono e2⟩
  have v3 := RV.mono e3.toExt0 _ _ (RV.mono e2.toExt0 _ _ v1)
  have E3 := (e1.trans e2).trans e3
  split at hu
  · rename_i ds q
    obtain ⟨a, xs, rfl, e5, e6⟩ := listOf_of R3 v3 q
    exact ⟨a, xs, rfl, e5, fun q hq => hu io3 H3 q _ E3 R3 hq (e6.cut _ _)⟩
  · exact hu.elim
end
end Mv

namespace Mv
open PySem L2 PyProof.Rows PySem.Spec
section
variable {X : Cx} {W : WX}
/-! ### x in a list or tuple of data -/
def rInT (K : PySem.W.Frag) : R2 := fun x y H Q => ∃ d ds, Dp K H x d ∧ Dp K H y (.tuple ds) ∧ SeqAt.shaped d = true ∧ SeqAt.shaped (.tuple ds) = true ∧ Q (.bl (ds.any fun z => PyData.eqv z d)) H
def rNotInT (K : PySem.W.Frag) : R2 := fun x y H Q => ∃ d ds, Dp K H x d ∧ Dp K H y (.tuple ds) ∧ SeqAt.shaped d = true ∧ SeqAt.shaped (.tuple ds) = true ∧ Q (.bl (!ds.any fun z => PyData.eqv z d)) H
theorem op_inT (hu : X.A.units + 65 < cLine) : OpR X (compareOp .In) (rInT X.K) := by
  intro pins s σ H x y v u Q I rx ry h
  obtain ⟨d, ds, hd, he, sd, se, q⟩ := h
  obtain ⟨as, r1⟩ := Dp.reads I d x v hd rx
  obtain ⟨bs, r2⟩ := Dp.reads I (.tuple ds) y u he ry
  exact SeqAt.in_tuple_reads r2 r1 (SeqAt.canLay_of_shaped se) (SeqAt.canLay_of_shaped sd) (room_in_shaped sd hu) ⟨.bl _, H, I, rfl, q⟩
theorem op_notInT (hu : X.A.units + 65 < cLine) : OpR X (compareOp .NotIn) (rNotInT X.K) := by
  intro pins s σ H x y v u Q I rx ry h
  obtain ⟨d, ds, hd, he, sd, se, q⟩ := h
  obtain ⟨as, r1⟩ := Dp.reads I d x v hd rx
  obtain ⟨bs, r2⟩ := Dp.reads I (.tuple ds) y u he ry
  exact SeqAt.notIn_tuple_reads r2 r1 (SeqAt.canLay_of_shaped se) (SeqAt.canLay_of_shaped sd) (room_in_shaped sd hu) ⟨.bl _, H, I, rfl, q⟩
def inP : Option PyData → Option PyData → Option Bool
  | some d, some (.list ds) => some (ds.any fun z => PyData.eqv z d)
  | some d, some (.tuple ds) => some (ds.any fun z => PyData.eqv z d)
  | _, _ => none
def inPO : Option Bool → VH → Option (D × VH)
  | some b, h => some (.bl b, h)
  | none, _ => none
def inPF : F2 := fun x y h => inPO (inP (toPD h 16 x) (toPD h 16 y)) h
def ninPF : F2 := fun x y h => inPO ((inP (toPD h 16 x) (toPD h 16 y)).map (!·)) h
theorem m_inP (hu : X.A.units + 70 < cLine) : OpM X (compareOp .In) inPF := ⟨_, opR_or (op_inD (by omega)) (op_inT (by omega)), fun io h H x y v u Q d h' r hx hy e p => by
  unfold inPF at e
  cases e1 : toPD h 16 x with
  | none => simp only [e1] at e; cases e
  | some a =>
    cases e2 : toPD h 16 y with
    | none => simp only [e1, e2] at e; cases e
    | some b =>
      simp only [e1, e2] at e
      cases b with
      | list ds =>
        cases e
        exact .inl ⟨a, ds, dp_of r 16 x v a hx e1, dp_of r 16 y u _ hy e2, shaped_of r (by decide) hx e1, shaped_of r (by decide) hy e2, p.here r (.bl _)⟩
      | tuple ds =>
        cases e
        exact .inr ⟨a, ds, dp_of r 16 x v a hx e1, dp_of r 16 y u _ hy e2, shaped_of r (by decide) hx e1, shaped_of r (by decide) hy e2, p.here r (.bl _)⟩
      | _ => cases e⟩
theorem m_ninP (hu : X.A.units + 70 < cLine) : OpM X (compareOp .NotIn) ninPF := ⟨_, opR_or (op_notInD (by omega)) (op_notInT (by omega)), fun io h H x y v u Q d h' r hx hy e p => by
  unfold ninPF at e
  cases e1 : toPD h 16 x with
  | none => simp only [e1] at e; cases e
  | some a =>
    cases e2 : toPD h 16 y with
    | none => simp only [e1, e2] at e; cases e
    | some b =>
      simp only [e1, e2] at e
      cases b with
      | list ds =>
        cases e
        exact .inl ⟨a, ds, dp_of r 16 x v a hx e1, dp_of r 16 y u _ hy e2, shaped_of r (by decide) hx e1, shaped_of r (by decide) hy e2, p.here r (.bl _)⟩
      | tuple ds =>
        cases e
        exact .inr ⟨a, ds, dp_of r 16 x v a hx e1, dp_of r 16 y u _ hy e2, shaped_of r (by decide) hx e1, shaped_of r (by decide) hy e2, p.here r (.bl _)⟩
      | _ => cases e⟩
end
section
variable {h : VH} {d : PyData} {ds : List PyData} {x y : D}
@[simp] theorem o_inP : inPF x y h = inPO (inP (toPD h 16 x) (toPD h 16 y)) h := rfl
@[simp] theorem o_ninP : ninPF x y h = inPO ((inP (toPD h 16 x) (toPD h 16 y)).map (!·)) h := rfl
@[simp] theorem inP_l : inP (some d) (some (.list ds)) = some (ds.any fun z => PyData.eqv z d) := rfl
@[simp] theorem inP_t : inP (some d) (some (.tuple ds)) = some (ds.any fun z => PyData.eqv z d) := rfl
@[simp] theorem inPO_s {b : Bool} : inPO (some b) h = some (.bl b, h) := rfl
end
end Mv

namespace Mv
open PySem L2
section
variable {X : Cx} {W : WX}
/-! ### texts: join, find -/
def isS : D → VH → Bool
  | .str _, _ => true
  | _, _ => false
theorem ty_strS {K : PySem.W.Frag} : TyS K "str" isS := fun io h H x v r hv e => by
  cases hv with
  | str s hs => rfl
  | _ => cases e
def strsD : List D → Option (List Str)
  | [] => some []
  | .str s :: r => match strsD r with
    | some ys => some (s :: ys)
    | none => none
  | _ :: _ => none
theorem strsD_of {K : PySem.W.Frag} {io : List Addr} {H : Hp} : ∀ {ds : List D} {vs : List V} {ys : List Str}, RVs K io H ds vs → strsD ds = some ys → vs = ys.map V.str ∧ ∀ y ∈ ys, sOk y
  | [], _, _, hv, e => by
    cases hv
    cases e
    exact ⟨rfl, fun _ h => nomatch h⟩
  | d :: ds, _, ys, hv, e => by
    cases hv with
    | cons h1 h2 =>
      cases h1 with
      | str s hs =>
        have e' : (match strsD ds with | some ys => some (s :: ys) | none => none) = some ys := e
        cases q : strsD ds with
        | none => rw [q] at e'; cases e'
        | some zs =>
          rw [q] at e'
          cases e'
          obtain ⟨e1, e2⟩ := strsD_of h2 q
          refine ⟨by rw [e1]; rfl, fun y hy => ?_⟩
          rcases List.mem_cons.mp hy with rfl | hy
          · exact hs
          · exact e2 y hy
      | _ => cases e
theorem joinW_ok (a : Str) (ha : PyData.strOk a = true) : ∀ (ys : List Str), (∀ y ∈ ys, PyData.strOk y = true) → PyData.strOk (Str.join a ys) = true
  | [], _ => strOk_ofString ""
  | [y], h => h y List.mem_cons_self
  | y :: z :: r, h => by
    show PyData.strOk (y ++ a ++ Str.join a (z :: r)) = true
    exact strOk_append (strOk_append (h y List.mem_cons_self) ha) (joinW_ok a ha (z :: r) fun w hw => h w (List.mem_cons_of_mem _ hw))
theorem slenW_app (a b : Str) : (a ++ b).length = a.length + b.length := by
  show (a.cps ++ b.cps).size = _
  rw [Array.size_append]
  rfl
theorem joinW_len (a : Str) : ∀ (ys : List Str), (Str.join a ys).length ≤ (ys.map (·.length)).sum + ys.length * a.length
  | [] => by show (0 : Nat) ≤ _; omega
  | [y] => by
    show y.length ≤ _
    simp
  | y :: z :: r => by
    have := joinW_len a (z :: r)
    show (y ++ a ++ Str.join a (z :: r)).length ≤ _
    rw [slenW_app, slenW_app, List.map_cons, List.sum_cons, List.length_cons (a := y), Nat.add_mul]
    omega
def joinF : Fm := fun x ds h => match x, ds with
  | .str a, [y] => match seqOf y h with
    | some es => match strsD es with
      | some ys => if (ys.map (·.length)).sum + ys.length * a.length ≤ 16777216 then some (.str (Str.join a ys), h) else none
      | none => none
    | none => none
  | _, _ => none
theorem m_join : ∃ r, MtR X "str.join" r ∧ MtS X.K joinF r := ⟨_, mt_join, fun io h H x v ds vs Q d h' r hx hv e p => by
  unfold joinF at e
  split at e
  · rename_i a y
    obtain ⟨w, rfl, w1⟩ := hv.one
    cases hx with
    | str _ hs =>
      split at e
      · rename_i es q
        split at e
        · rename_i ys q2
          split at e
          · rename_i hz
            cases e
            obtain ⟨b, xs, rfl, e1, e2⟩ := seqOf_of r w1 q
            obtain ⟨rfl, e4⟩ := strsD_of e2 q2
            refine ⟨a, b, ys, rfl, rfl, e1, hz, ?_⟩
            rw [TL.join_eq]
            exact p.here r (.str _ ⟨joinW_ok a hs.1 ys fun y hy => (e4 y hy).1, Nat.le_trans (joinW_len a ys) (by rw [sizeLine_eq]; exact hz)⟩)
          · cases e
        · cases e
      · cases e
  · cases e⟩
def find3F : Fm := fun x ds h => match x, ds with
  | .str a, [.str b, .int i] => some (.int (Txt.find3 a b i), h)
  | _, _ => none
theorem m_find3 : ∃ r, MtR X "str.find" r ∧ MtS X.K find3F r := ⟨_, mt_find3, fun io h H x v ds vs Q d h' r hx hv e p => by
  unfold find3F at e
  split at e
  · rename_i a b i
    cases e
    obtain ⟨w, u, rfl, w1, w2⟩ := hv.two
    cases hx
    cases w1
    cases w2
    exact ⟨a, b, i, rfl, rfl, p.here r (.int _)⟩
  · cases e⟩
/-! ### displays of dicts -/
abbrev Pm := Env → VH → R (List (D × D))
inductive RPs (K : PySem.W.Frag) (io : List Addr) (H : Hp) : List (D × D) → List (V × V) → Prop
  | nil : RPs K io H [] []
  | cons {a b : D} {x y : V} {ps : List (D × D)} {vs : List (V × V)} : RV K io H a x → RV K io H b y → RPs K io H ps vs → RPs K io H ((a, b) :: ps) ((x, y) :: vs)
def Pp (K : PySem.W.Frag) (io : List Addr) (H : Hp) (Q : List (V × V) → Hp → Prop) : List (D × D) → VH → Prop := fun ps h' => ∀ io' H' vs, Ext io H io' H' → RepH K io' h' H' → RPs K io' H' ps vs → Q vs H'
def tP (K : PySem.W.Frag) (W : WX) (m : Pm) (sg : L2.St) (H : Hp) (Q : List (V × V) → Hp → Prop) : Prop := ∃ io h rho, RepH K io h H ∧ RepE K io H rho sg ∧ Aft (m rho h) (Pp K io H Q) (Zx K W io H sg)
def SP (X : Cx) (W : WX) (pos : Pos) (ks : List (Option Expr)) (vs : List Expr) (m : Pm) : Prop := ∃ trs, PPs X pos ks vs trs ∧ ∀ sg H Q, tP X.K W m sg H Q → tPairs trs sg H Q
def pNil : Pm := fun _ h => .ok [] h
def pCons (a b : Ex) (r : Pm) : Pm := fun rho h => (a rho h).bind fun x h1 => (b rho h1).bind fun y h2 => (r rho h2).bind fun ps h3 => .ok ((x, y) :: ps) h3
theorem sp_nil {pos : Pos} : SP X W pos [] [] pNil := ⟨[], pps_nil, fun sg H Q ⟨io, h, rho, hR, hE, hA⟩ => hA io H [] (Ext.refl _ _) hR .nil⟩
theorem sp_cons {pos : Pos} {k v : Expr} {ks : List (Option Expr)} {vs : List Expr} {A B : Ex} {m : Pm} (ha : SE X W k A) (hb : SE X W v B) (hr : SP X W pos ks vs m) : SP X W pos (some k :: ks) (v :: vs) (pCons A B m) := by
  obtain ⟨trs, h1, h2⟩ := hr
  refine ⟨_, pps_cons ha hb h1, fun sg H Q ⟨io, h, rho, hR, hE, hA⟩ => ?_⟩
  refine ⟨io, h, rho, hR, hE, (Aft.bind hA).mono (fun x k1 hx io1 H1 v1 e1 R1 r1 => ?_) fun _ _ z => z⟩
  refine ⟨io1, k1, rho, R1, hE.mono e1.toExt0, (Aft.bind hx).mono (fun y k2 hy io2 H2 v2 e2 R2 r2 => ?_) fun _ _ z => z.mono e1⟩
  refine h2 sg H2 _ ⟨io2, k2, rho, R2, hE.mono (e1.trans e2).toExt0, (Aft.bind hy).mono (fun ps k3 hp io3 H3 v3 e3 R3 r3 => ?_) fun _ _ z => z.mono (e1.trans e2)⟩
  exact hp io3 H3 _ ((e1.trans e2).trans e3) R3 (.cons (RV.mono (e2.trans e3).toExt0 _ _ r1) (RV.mono e3.toExt0 _ _ r2) r3)
def keysD : List (D × D) → Option (List (Key × D))
  | [] => some []
  | (a, b) :: r => match keyD a, keysD r with
    | some k, some ks => some ((k, b) :: ks)
    | _, _ => none
theorem keysD_of {K : PySem.W.Frag} {io : List Addr} {H : Hp} : ∀ {ps : List (D × D)} {vs : List (V × V)} {kvs : List (Key × D)}, RPs K io H ps vs → keysD ps = some kvs → ∃ ws : List (Key × V), vs = ws.map (fun kv => (kV kv.1, kv.2)) ∧ RK K io H kOk kvs ws
  | [], _, _, r, e => by
    cases r
    cases e
    exact ⟨[], rfl, .nil⟩
  | (a, b) :: ps, _, kvs, r, e => by
    cases r with
    | cons r1 r2 r3 =>
      have e' : (match keyD a, keysD ps with | some k, some ks => some ((k, b) :: ks) | _, _ => none) = some kvs := e
      cases q1 : keyD a with
      | none => rw [q1] at e'; cases e'
      | some k =>
        cases q2 : keysD ps with
        | none => rw [q1, q2] at e'; cases e'
        | some ks =>
          rw [q1, q2] at e'
          cases e'
          obtain ⟨rfl, hk⟩ := keyD_of r1 q1
          obtain ⟨ws, rfl, rw'⟩ := keysD_of r3 q2
          exact ⟨(k, _) :: ws, rfl, .cons hk r2 rw'⟩
def emD : Option O → Bool
  | some (.dK []) => true
  | _ => false
theorem emD_of {o : Option O} (h : emD o = true) : o = some (.dK []) := by
  unfold emD at h
  split at h
  · rfl
  · cases h
def eDisp (m : Pm) : Ex := fun rho h => (m rho (h ++ [.dK []])).bind fun ps h2 => match keysD ps with
  | some kvs => if emD h2[h.length]? = true ∧ kvs.length ≤ 15 then .ok (.loc h.length) (h2.set h.length (.dK (mergeD [] kvs))) else .bad
  | none => .bad
theorem RK.len {K : PySem.W.Frag} {io : List Addr} {H : Hp} {κ : Type} {ok : κ → Prop} {ds : List (κ × D)} {vs : List (κ × V)} (h : RK K io H ok ds vs) : ds.length = vs.length := by
  induction h with
  | nil => rfl
  | cons _ _ _ ih => simp [ih]
theorem se_disp {pos : Pos} {keys : List (Option Expr)} {values : List Expr} {m : Pm} (h : SP X W pos keys values m) (hall : keys.all (·.isSome) = true) (hl : keys.length = values.length) (h0 : keys ≠ []) (h15 : keys.length ≤ 15) : SE X W (.Dict keys values pos) (eDisp m) := by
  obtain ⟨trs, h1, h2⟩ := h
  refine pe_imp (pe_disp h1 hall hl h0 h15) fun sg H Q ⟨io, h, rho, hR, hE, hA⟩ p hp => ?_
  have E1 := ext_new (o := HO.dK []) hR hp
  have R1 : RepH X.K (io ++ [p]) (h ++ [.dK []]) (upd H p (.dK [])) := hR.new hp ⟨[], rfl, .nil⟩
  refine h2 sg _ _ ⟨io ++ [p], h ++ [.dK []], rho, R1, hE.mono E1.toExt0, (Aft.bind hA).mono (fun ps k hk io2 H2 vs e2 R2 r2 => ?_) fun _ _ z => z.mono E1⟩
  split at hk
  · rename_i kvs q
    split at hk
    · rename_i hc
      have hn : io2[h.length]? = some p := e2.get (by rw [← hR.len, List.getElem?_append_right (Nat.le_refl _)]; simp)
      obtain ⟨us, e4, e5⟩ := R2.dk hn (emD_of hc.1)
      cases e5
      obtain ⟨ws, rfl, rk⟩ := keysD_of r2 q
      have E := ext_set (ho := .dK (mergeK [] ws)) R2 hn e4 (fun _ z => nomatch z) (fun _ _ z => nomatch z)
      refine ⟨e4, ws, rfl, by rw [← rk.len]; exact hc.2, hk io2 _ _ ((E1.trans e2).trans E) ?_ (.loc hn)⟩
      exact R2.setO (o := .dK []) hn E ⟨_, rfl, (rk.mono E.toExt0).merge .nil⟩
    · exact hk.elim
  · exact hk.elim
/-! ### dict comprehensions -/
theorem wipe_wipe (us : List Nat) (s2 : L2.St) : L2.wipe (L2.wipe s2 us) us = L2.wipe s2 us := by
  have aux : ∀ (us vs : List Nat), (∀ u ∈ us, u ∈ vs) → L2.wipe (L2.wipe s2 vs) us = L2.wipe s2 vs := by
    intro us
    induction us with
    | nil => intro vs _; rfl
    | cons u us ih =>
      intro vs hs
      show (L2.wipe (L2.wipe s2 vs) us).set u none = _
      rw [ih vs fun w hw => hs w (List.mem_cons_of_mem _ hw)]
      have hu := hs u (List.mem_cons_self ..)
      have aux2 : ∀ (vs : List Nat), u ∈ vs → (L2.wipe s2 vs).set u none = L2.wipe s2 vs := by
        intro vs
        induction vs with
        | nil => intro h; exact nomatch h
        | cons w ws ih2 =>
          intro h
          show ((L2.wipe s2 ws).set w none).set u none = (L2.wipe s2 ws).set w none
          by_cases hwu : w = u
          · subst hwu; rw [List.set_set]
          · rw [List.set_comm _ _ hwu, ih2 ((List.mem_cons.mp h).resolve_left (Ne.symm hwu))]
      exact aux2 vs hu
  exact aux us us fun _ h => h
def dcPut (n : Nat) (k v : D) (h : VH) : Option VH := match keyD k, h[n]? with
  | some j, some (.dK kvs) => if kvs.length < sizeLine then some (h.set n (.dK (putD kvs j v))) else none
  | _, _ => none
def dcL (t : Tg) (tt : Ts) (ek ev : Ex) (ck : Ck) (all : List D) (n : Nat) : List D → Env → VH → R Unit
  | [], _, h => if ckOk ck all h = true then .ok () h else .bad
  | x :: xs, rho, h => if ckOk ck all h = true then match t.put x rho with
      | none => .bad
      | some rho1 => (noX (tt rho1 h)).bind fun b h1 => if b = true then (noX (ek rho1 h1)).bind fun k h2 => (noX (ev rho1 h2)).bind fun v h3 => match dcPut n k v h3 with
          | some h4 => dcL t tt ek ev ck all n xs rho h4
          | none => .bad
        else dcL t tt ek ev ck all n xs rho h1
    else .bad
def eDc (im : Im) (t : Tg) (tt : Ts) (ek ev : Ex) (ws : List Nat) : Ex := fun rho h => (im rho h).bind fun p h1 => (noX (dcL t tt ek ev p.2 p.1 h1.length p.1 (wipeE rho ws) (h1 ++ [.dK []]))).bind fun _ h2 => .ok (.loc h1.length) h2
theorem dc_to {K : PySem.W.Frag} {im : Im} {t : Tg} {tt : Ts} {ek ev : Ex} {ws : List Nat} {sg : L2.St} {H : Hp} {Q : VK} (hsl : ∀ i ∈ t.slots, i ∈ ws) (hw : tE K W (eDc im t tt ek ev ws) sg H Q) :
    tDc (tI K W im) (gT K t) (tT K W0 tt) (tE K W0 ek) (tE K W0 ev) ws sg H Q := by
  obtain ⟨io, h, rho, hR, hE, hA⟩ := hw
  refine ⟨io, h, rho, hR, hE, (Aft.bind hA).mono (fun p h1 hx io1 H1 J e1 R1 hJ => ?_) fun _ _ z => z⟩
  intro Dd hD
  have hx2 : Aft (dcL t tt ek ev p.2 p.1 h1.length p.1 (wipeE rho ws) (h1 ++ [.dK []])) (fun _ h2 => Pv K io H Q (.loc h1.length) h2) (fun _ _ => False) := (Aft.noX (Aft.bind hx)).mono (fun _ _ z => z) fun _ _ z => z
  have E1 := ext_new (o := HO.dK []) R1 hD
  have R1' : RepH K (io1 ++ [Dd]) (h1 ++ [.dK []]) (upd H1 Dd (.dK [])) := R1.new hD ⟨[], rfl, .nil⟩
  have hDi : (io1 ++ [Dd])[h1.length]? = some Dd := by rw [← R1.len, List.getElem?_append_right (Nat.le_refl _)]; simp
  refine ⟨fun i m Hc => ∃ io2 h2, Ext (io1 ++ [Dd]) (upd H1 Dd (.dK [])) io2 Hc ∧ RepH K io2 h2 Hc ∧ m = p.1.length - i ∧ i ≤ p.1.length ∧
      Aft (dcL t tt ek ev p.2 p.1 h1.length (p.1.drop i) (wipeE rho ws) h2) (fun _ h' => Pv K io H Q (.loc h1.length) h') (fun _ _ => False), ⟨p.1.length - 0, io1 ++ [Dd], h1 ++ [.dK []], Ext.refl _ _, R1', rfl, Nat.zero_le _, by rw [List.drop_zero]; exact hx2⟩, ?_⟩
  rintro i m Hc ⟨io2, h2, E2, R2, rfl, hi2, hA2⟩
  have E12 : Ext0 io1 H1 io2 Hc := (E1.trans E2).toExt0
  have E3 : Ext0 io H io2 Hc := e1.toExt0.trans E12
  have hE2 : RepE K io2 Hc (wipeE rho ws) (L2.wipe sg ws) := (hE.mono E3).wipe _
  by_cases hlt : i < p.1.length
  · obtain ⟨d, hd⟩ : ∃ d, p.1[i]? = some d := ⟨p.1[i], List.getElem?_eq_getElem hlt⟩
    have hdrop : p.1.drop i = d :: p.1.drop (i + 1) := by
      rw [List.drop_eq_getElem_cons hlt]
      congr 1
      rw [List.getElem?_eq_getElem hlt] at hd
      exact Option.some.inj hd
    rw [hdrop] at hA2
    unfold dcL at hA2
    split at hA2
    · rename_i hck
      obtain ⟨g1, g2⟩ := hJ.go i d io2 h2 Hc E12 R2 hck hd
      refine .inr ⟨g1, fun H' => ∃ m', m' < p.1.length - i ∧ _, fun H' z => z, fun x H' hy => ?_⟩
      obtain ⟨E4, R4, v4⟩ := g2 x H' hy
      cases hp : t.put d (wipeE rho ws) with
      | none => rw [hp] at hA2; exact hA2.elim
      | some rho1 =>
        rw [hp] at hA2
        refine gT_put (hE2.mono E4.toExt0) v4 hp fun sg' r' hw => ⟨?_, ?_⟩
        · rw [hw _ hsl]
          exact wipe_wipe _ _
        · refine ⟨io2, h2, rho1, R4, r', (Aft.noX (Z' := fun _ _ => False) (Aft.bind hA2)).mono (fun b h3 hb io5 H5 E5 R5 => ?_) fun _ _ z => z.elim⟩
          cases b with
          | true =>
            rw [if_pos rfl] at hb
            show (if true = true then _ else _)
            rw [if_pos rfl]
            refine ⟨io5, h3, rho1, R5, r'.mono E5.toExt0, (Aft.noX (Z' := fun _ _ => False) (Aft.bind hb)).mono (fun y h4 hyy io6 H6 w E6 R6 v6 => ?_) fun _ _ z => z.elim⟩
            refine ⟨io6, h4, rho1, R6, r'.mono (E5.trans E6).toExt0, (Aft.noX (Z' := fun _ _ => False) (Aft.bind hyy)).mono (fun z h5 hzz io7 H7 u E7 R7 v7 => ?_) fun _ _ z => z.elim⟩
            cases q : dcPut h1.length y z h5 with
            | none => rw [q] at hzz; exact hzz.elim
            | some h6 =>
              rw [q] at hzz
              dsimp only at hzz
              unfold dcPut at q
              split at q
              · rename_i j kvs qk qd
                split at q
                · rename_i hl
                  cases q
                  obtain ⟨rfl, hk⟩ := keyD_of v6 qk
                  have E27 := (((E2.trans E4).trans E5).trans E6).trans E7
                  have hn := E27.get hDi
                  obtain ⟨us, e4, e5⟩ := R7.dk hn qd
                  have E := ext_set (ho := .dK (putK us j u)) R7 hn e4 (fun _ z => nomatch z) (fun _ _ z => nomatch z)
                  refine ⟨us, j, rfl, e4, by rw [← e5.len]; exact hl, p.1.length - (i + 1), by omega, io7, _, E27.trans E, R7.setO (o := .dK us) (ob := .dK (putD kvs j z)) hn E ⟨_, rfl, (e5.mono E.toExt0).put hk (RV.mono E.toExt0 _ _ v7)⟩, rfl, hlt, hzz⟩
                · cases q
              · cases q
          | false =>
            rw [if_neg Bool.false_ne_true] at hb
            show (if false = true then _ else _)
            rw [if_neg Bool.false_ne_true]
            exact ⟨p.1.length - (i + 1), by omega, io5, h3, (E2.trans E4).trans E5, R5, rfl, hlt, hb⟩
    · exact hA2.elim
  · have hie : i = p.1.length := by omega
    subst hie
    rw [List.drop_length] at hA2
    unfold dcL at hA2
    split at hA2
    · rename_i hck
      exact .inl ⟨hJ.stop _ io2 h2 Hc E12 R2 hck (Nat.le_refl _), hA2 io2 Hc _ ((e1.trans E1).trans E2) R2 (.loc (E2.get hDi))⟩
    · exact hA2.elim
theorem se_dc {kx vx tg iter : Expr} {ifs : List Expr} {scope : Scope} {own : List (Str × Nat)} {pos : Pos} {im : Im} {t : Tg} {tt : Ts} {ek ev : Ex} (hc : X.calm = true) (hN : X.N.Nodup) (hi : SI X W tg iter im) (ok : BlkOk X.N X.env.scope scope own)
    (hg : ∀ (s : Shared) (H : Hp) (C : Addr) (cl : List (Str × Addr)) (fp : List Addr), SG (X.blk s H scope (compEnvC scope cl C X.env) fp) tg t) (ht : ∀ (s : Shared) (H : Hp) (C : Addr) (cl : List (Str × Addr)) (fp : List Addr), STs (X.blk s H scope (compEnvC scope cl C X.env) fp) W0 ifs tt) (hk : SEb X scope kx ek) (he : SEb X scope vx ev)
    (hsl : ∀ i ∈ t.slots, i ∈ own.map (·.2)) (hf : ∀ x : Value, foldedSetIterable iter X.env x = pure x := by intro _; rfl) :
    SE X W (.DictComp kx vx [⟨tg, iter, ifs, 0⟩] scope pos) (eDc im t tt ek ev (own.map (·.2))) :=
  pe_imp (pe_dc (g := gT X.K t) (tt := tT X.K W0 tt) (tk := tE X.K W0 ek) (tv := tE X.K W0 ev) hc hN hi ok hg ht hk he hf) fun sg H Q h => dc_to hsl h
end
end Mv

namespace Mv
open PySem L2
/-! ### a value is one as long as tuples and locked lists stay -/
structure Wk0 (H H' : Hp) : Prop where
  tup : ∀ a xs, H a = some (.tup xs) → H' a = some (.tup xs)
  frl : ∀ a o xs, H a = some (.frz o (.lst xs)) → H' a = some (.frz o (.lst xs))
  frt : ∀ a o xs, H a = some (.frz o (.tup xs)) → H' a = some (.frz o (.tup xs))
section
variable {K : PySem.W.Frag} {io : List Addr} {H H' : Hp}
theorem Wk0.sqt (w : Wk0 H H') {a : Addr} {xs : List V} (h : SqT K H a xs) : SqT K H' a xs := by
  rcases h with (h | ⟨o, h⟩) | h
  · exact .inl (.inl (w.tup _ _ h))
  · exact .inl (.inr ⟨o, w.frt _ _ _ h⟩)
  · exact .inr h
theorem Wk0.squ (w : Wk0 H H') {a : Addr} {xs : List V} (h : SqU K H a xs) : SqU K H' a xs := by
  rcases h with h | h
  · exact .inl (w.tup _ _ h)
  · exact .inr h
theorem Wk0.sc (w : Wk0 H H') {a : Addr} {xs : List V} (h : Sc K H a xs) : Sc K H' a xs := by
  rcases h with ⟨o, h⟩ | h
  · exact .inl ⟨o, w.frl _ _ _ h⟩
  · exact .inr h
mutual
theorem RV.wk (w : Wk0 H H') : ∀ (d : D) (v : V), RV K io H d v → RV K io H' d v
  | .non, _, h => by cases h; exact .non
  | .bl _, _, h => by cases h; exact .bl _
  | .int _, _, h => by cases h; exact .int _
  | .str _, _, h => by
    cases h with
    | str _ h => exact .str _ h
  | .loc _, _, h => by
    cases h with
    | loc h => exact .loc h
  | .scr _, _, h => by
    cases h with
    | scr h => exact .scr (w.sc h)
  | .tup ds, _, h => by
    cases h with
    | tup h1 h2 => exact .tup (w.squ h1) (RVs.wk w ds _ h2)
  | .lst ds, _, h => by
    cases h with
    | lst h1 h2 => exact .lst (w.frl _ _ _ h1) (RVs.wk w ds _ h2)
theorem RVs.wk (w : Wk0 H H') : ∀ (ds : List D) (vs : List V), RVs K io H ds vs → RVs K io H' ds vs
  | [], _, h => by cases h; exact .nil
  | d :: ds, _, h => by
    cases h with
    | cons h1 h2 => exact .cons (RV.wk w d _ h1) (RVs.wk w ds _ h2)
end
theorem RK.wk {κ : Type} {ok : κ → Prop} (w : Wk0 H H') {ds : List (κ × D)} {vs : List (κ × V)} (h : RK K io H ok ds vs) : RK K io H' ok ds vs := by
  induction h with
  | nil => exact .nil
  | cons h0 h1 _ ih => exact .cons h0 (RV.wk w _ _ h1) ih
theorem RO.wk (w : Wk0 H H') {o : O} {ho : HO} (h : RO K io H o ho) : RO K io H' o ho := by
  induction o generalizing ho with
  | lst ds => obtain ⟨xs, rfl, r⟩ := h; exact ⟨xs, rfl, RVs.wk w _ _ r⟩
  | dK kvs => obtain ⟨xs, rfl, r⟩ := h; exact ⟨xs, rfl, r.wk w⟩
  | dT kvs => obtain ⟨xs, rfl, r⟩ := h; exact ⟨xs, rfl, r.wk w⟩
  | ins c fs => obtain ⟨dx, xs, rfl, r⟩ := h; exact ⟨dx, xs, rfl, r.wk w⟩
  | lk o ih =>
    obtain ⟨od, u, rfl, r⟩ := h
    exact ⟨od, u, rfl, ih r⟩
end
/-! ### locks -/
def lkO : O → Option O
  | .dK kvs => some (.lk (.dK kvs))
  | .dT kvs => some (.lk (.dT kvs))
  | _ => none
def ulkO : Option O → Option O
  | some (.lk o) => some o
  | _ => none
def isLk : Option O → Bool
  | some (.lk _) => true
  | _ => false
def lkN (n : Nat) (m : VH → R D) (h : VH) : R D := if isLk h[n]? = true then m h else match (h[n]?).bind lkO with
  | some o => (noX (m (h.set n o))).bind fun d h1 => match ulkO h1[n]? with
    | some o1 => .ok d (h1.set n o1)
    | none => .bad
  | none => .bad
def locR : R D → Option Nat
  | .ok (.loc n) _ => some n
  | _ => none
/-- m, while the dict a stays as it is -/
def eLk (a : Ex) (m : Ex) : Ex := fun rho h => match locR (a rho h) with
  | some n => lkN n (m rho) h
  | none => .bad
section
variable {X : Cx} {W : WX}
theorem se_lk {e : Expr} {m : Ex} (a : Ex) (p : SE X W e m) : SE X W e (eLk a m) := by
  refine ⟨fun pins s sg H Q I hw => ?_⟩
  obtain ⟨io, h, rho, hR, hE, hA⟩ := hw
  unfold eLk at hA
  cases q0 : locR (a rho h) with
  | none => rw [q0] at hA; exact hA.elim
  | some n =>
    rw [q0] at hA
    have hA' : Aft (lkN n (m rho) h) (Pv X.K io H Q) (Zx X.K W io H sg) := hA
    unfold lkN at hA'
    by_cases hlk : isLk h[n]? = true
    · rw [if_pos hlk] at hA'
      exact PE.run p pins s sg H Q I ⟨io, h, rho, hR, hE, hA'⟩
    · rw [if_neg hlk] at hA'
      cases q1 : h[n]? with
      | none => rw [q1] at hA'; exact hA'.elim
      | some ob =>
        rw [q1] at hA'
        have hnl : n < io.length := by rw [hR.len]; exact (List.getElem?_eq_some_iff.mp q1).1
        obtain ⟨d, hd⟩ : ∃ d, io[n]? = some d := ⟨io[n], List.getElem?_eq_getElem hnl⟩
        obtain ⟨u, eu, ru⟩ := hR.ob n ob d q1 hd
        have main : ∀ (hm : Mut (some u)) (h1 : ∀ xs, u ≠ .tup xs) (h2 : ∀ od w, u ≠ .frz od w) (h3 : ∀ xs, u ≠ .lst xs) (hA2 : Aft ((noX (m rho (h.set n (.lk ob)))).bind fun d h1 => match ulkO h1[n]? with | some o1 => R.ok d (h1.set n o1) | none => R.bad) (Pv X.K io H Q) (Zx X.K W io H sg)), wpAny (model X.prog X.w) X.A (eval e X.env) (EP X pins sg Q) X.xe s := by
          intro hm h1 h2 h3 hA2
          refine PE.run (pe_lock p) pins s sg H Q I ⟨d, u, eu, hm, fun od => ?_⟩
          have E0 : Ext io H io (upd H d (.frz od u)) := ext_set hR hd eu h1 h2
          have R0 : RepH X.K io (h.set n (.lk ob)) (upd H d (.frz od u)) := hR.setO (o := u) hd E0 ⟨od, u, rfl, ru.mono E0.toExt0⟩
          refine ⟨io, h.set n (.lk ob), rho, R0, hE.mono E0.toExt0, (Aft.noX (Z' := fun _ _ => False) (Aft.bind hA2)).mono (fun dv k hx io1 H1 v e1 R1 v1 => ?_) fun _ _ z => z.elim⟩
          have hd1 : H1 d = some (.frz od u) := e1.frzs d od u upd_same
          refine ⟨hd1, ?_⟩
          cases q2 : ulkO k[n]? with
          | none => rw [q2] at hx; exact hx.elim
          | some o1 =>
            rw [q2] at hx
            have hk : k[n]? = some (.lk o1) := by
              unfold ulkO at q2
              split at q2
              · rename_i o q3
                cases q2
                exact q3
              · cases q2
            have hio := e1.get hd
            obtain ⟨ho, e3, od', u', rfl, r3⟩ := R1.ob n _ d hk hio
            rw [hd1] at e3
            cases e3
            have wk : Wk0 H1 (upd H1 d u) := ⟨fun b xs e => by
                rw [upd_ne (fun z => by subst z; rw [hd1] at e; cases e)]; exact e, fun b o xs e => by
                rw [upd_ne (fun z => by subst z; rw [hd1] at e; cases e; exact h3 _ rfl)]; exact e, fun b o xs e => by
                rw [upd_ne (fun z => by subst z; rw [hd1] at e; cases e; exact h1 _ rfl)]; exact e⟩
            have hx' : Pv X.K io H Q dv (k.set n o1) := hx
            refine hx' io1 (upd H1 d u) v ?_ ?_ (RV.wk wk _ _ v1)
            · refine ⟨⟨?_, fun b xs e => ?_, fun b o w e => ?_, fun b o e => ?_⟩, fun b o hb e => ?_⟩
              · obtain ⟨mm, f1, f2⟩ := e1.more
                refine ⟨mm, f1, fun b hb => ?_⟩
                have := f2 b hb
                by_cases hbd : b = d
                · subst hbd; rw [upd_same] at this; cases this
                · rw [upd_ne hbd] at this; exact this
              · have hbd : b ≠ d := fun z => by subst z; rw [eu] at e; cases e; exact h1 _ rfl
                rw [upd_ne hbd]
                exact e1.tups b xs (by rw [upd_ne hbd]; exact e)
              · have hbd : b ≠ d := fun z => by subst z; rw [eu] at e; cases e; exact h2 _ _ rfl
                rw [upd_ne hbd]
                exact e1.frzs b o w (by rw [upd_ne hbd]; exact e)
              · by_cases hbd : b = d
                · subst hbd; exact ⟨_, upd_same⟩
                · obtain ⟨o', e'⟩ := e1.keep b o (by rw [upd_ne hbd]; exact e)
                  exact ⟨o', by rw [upd_ne hbd]; exact e'⟩
              · have hbd : b ≠ d := fun z => hb (z ▸ List.mem_of_getElem? hd)
                rw [upd_ne hbd]
                exact e1.fr b o hb (by rw [upd_ne hbd]; exact e)
            · refine ⟨by rw [List.length_set]; exact R1.len, R1.nd, fun j oc b g1 g2 => ?_⟩
              by_cases hj : j = n
              · subst hj
                rw [hio] at g2
                cases g2
                rw [List.getElem?_set_self (List.getElem?_eq_some_iff.mp hk).1] at g1
                cases g1
                exact ⟨u, upd_same, r3.wk wk⟩
              · rw [List.getElem?_set_ne (Ne.symm hj)] at g1
                obtain ⟨hb, e5, q5⟩ := R1.ob j oc b g1 g2
                have hne : b ≠ d := fun z => by
                  subst z
                  obtain ⟨p1, z1⟩ := List.getElem?_eq_some_iff.mp g2
                  obtain ⟨p2, z2⟩ := List.getElem?_eq_some_iff.mp hio
                  exact hj ((List.getElem_inj R1.nd).mp (z1.trans z2.symm))
                exact ⟨hb, by rw [upd_ne hne]; exact e5, q5.wk wk⟩
        cases ob with
        | dK kvs =>
          obtain ⟨vs, rfl, rk⟩ := ru
          exact main trivial (fun _ z => nomatch z) (fun _ _ z => nomatch z) (fun _ z => nomatch z) hA'
        | dT kvs =>
          obtain ⟨vs, rfl, rk⟩ := ru
          exact main trivial (fun _ z => nomatch z) (fun _ _ z => nomatch z) (fun _ z => nomatch z) hA'
        | _ => exact hA'.elim
/-! ### walks over dicts that are locked -/
theorem RK.get {K : PySem.W.Frag} {io : List Addr} {H : Hp} {κ : Type} {ok : κ → Prop} {ds : List (κ × D)} {vs : List (κ × V)} (h : RK K io H ok ds vs) : ∀ {i : Nat} {k : κ} {d : D}, ds[i]? = some (k, d) → ∃ v, vs[i]? = some (k, v) ∧ ok k ∧ RV K io H d v := by
  induction h with
  | nil => intro i k d e; simp at e
  | @cons k d v ds vs h0 h1 _ ih =>
    intro i k' d' e
    cases i with
    | zero =>
      simp at e
      obtain ⟨rfl, rfl⟩ := e
      exact ⟨v, rfl, h0, h1⟩
    | succ i =>
      obtain ⟨w, q1, q2⟩ := ih (i := i) (by simpa using e)
      exact ⟨w, by simpa using q1, q2⟩
def lkD : Option O → Option (List (Key × D))
  | some (.lk (.dK kvs)) => some kvs
  | _ => none
theorem lkD_of {o : Option O} {kvs : List (Key × D)} (h : lkD o = some kvs) : o = some (.lk (.dK kvs)) := by
  unfold lkD at h
  split at h
  · cases h; rfl
  · cases h
def walkD (f : Key × D → D) (a : Ex) : Im := fun rho h => (a rho h).bind fun x h1 => match x with
  | .loc n => match lkD h1[n]? with
    | some kvs => .ok (kvs.map f, []) h1
    | none => .bad
  | _ => .bad
def iKeysD (a : Ex) : Im := walkD (fun kv => kD kv.1) a
def iValsD (a : Ex) : Im := walkD (fun kv => kv.2) a
def iItemsD (a : Ex) : Im := walkD (fun kv => .tup [kD kv.1, kv.2]) a
theorem RepH.lkd {K : PySem.W.Frag} {io : List Addr} {h : VH} {H : Hp} (r : RepH K io h H) {n : Nat} {a : Addr} {kvs : List (Key × D)} (ha : io[n]? = some a) (e : h[n]? = some (.lk (.dK kvs))) : ∃ o vs, H a = some (.frz o (.dK vs)) ∧ RK K io H kOk kvs vs := by
  obtain ⟨ho, e1, od, u, rfl, vs, rfl, e2⟩ := r.ob n _ a e ha
  exact ⟨od, vs, e1, e2⟩
theorem it_keys {K : PySem.W.Frag} {io : List Addr} {H : Hp} {d : Addr} {o : Obj} {kvs : List (Key × D)} {vs : List (Key × V)} (h : H d = some (.frz o (.dK vs))) (r : RK K io H kOk kvs vs) : ItOk K (Itk d o vs) (kvs.map fun kv => kD kv.1) [] io H where
  go := fun i x io1 h1 H1 e R c hd => by
    rw [List.getElem?_map] at hd
    cases q : kvs[i]? with
    | none => rw [q] at hd; cases hd
    | some kv =>
      rw [q] at hd
      cases hd
      obtain ⟨v, q1, q2, q3⟩ := r.get (k := kv.1) (d := kv.2) q
      refine ⟨⟨e.frzs _ _ _ h, (List.getElem?_eq_some_iff.mp q1).1⟩, fun y H' hy => ?_⟩
      obtain ⟨rfl, k, w, hk, rfl⟩ := hy
      rw [q1] at hk
      cases hk
      exact ⟨Ext.refl _ _, R, kD_rv q2⟩
  stop := fun i io1 h1 H1 e R c hd => ⟨e.frzs _ _ _ h, by rw [← r.len]; simpa using hd⟩
theorem it_vals {K : PySem.W.Frag} {io : List Addr} {H : Hp} {d : Addr} {o : Obj} {kvs : List (Key × D)} {vs : List (Key × V)} (h : H d = some (.frz o (.dK vs))) (r : RK K io H kOk kvs vs) : ItOk K (Itd d o vs) (kvs.map fun kv => kv.2) [] io H where
  go := fun i x io1 h1 H1 e R c hd => by
    rw [List.getElem?_map] at hd
    cases q : kvs[i]? with
    | none => rw [q] at hd; cases hd
    | some kv =>
      rw [q] at hd
      cases hd
      obtain ⟨v, q1, q2, q3⟩ := r.get (k := kv.1) (d := kv.2) q
      refine ⟨⟨e.frzs _ _ _ h, (List.getElem?_eq_some_iff.mp q1).1⟩, fun y H' hy => ?_⟩
      obtain ⟨rfl, k, hk⟩ := hy
      rw [q1] at hk
      cases hk
      exact ⟨Ext.refl _ _, R, RV.mono e _ _ q3⟩
  stop := fun i io1 h1 H1 e R c hd => ⟨e.frzs _ _ _ h, by rw [← r.len]; simpa using hd⟩
theorem it_items {K : PySem.W.Frag} {io : List Addr} {H : Hp} {d : Addr} {o : Obj} {kvs : List (Key × D)} {vs : List (Key × V)} (h : H d = some (.frz o (.dK vs))) (r : RK K io H kOk kvs vs) : ItOk K (Iti d o vs) (kvs.map fun kv => .tup [kD kv.1, kv.2]) [] io H where
  go := fun i x io1 h1 H1 e R c hd => by
    rw [List.getElem?_map] at hd
    cases q : kvs[i]? with
    | none => rw [q] at hd; cases hd
    | some kv =>
      rw [q] at hd
      cases hd
      obtain ⟨v, q1, q2, q3⟩ := r.get (k := kv.1) (d := kv.2) q
      refine ⟨⟨e.frzs _ _ _ h, (List.getElem?_eq_some_iff.mp q1).1⟩, fun y H' hy => ?_⟩
      obtain ⟨T, k, w, hk, rfl, hT, rfl⟩ := hy
      rw [q1] at hk
      cases hk
      have E := ext_out (o := HO.tup [kV kv.1, v]) R hT
      exact ⟨E, R.out hT, .tup (SqU.of upd_same) (.cons (kD_rv q2) (.cons (RV.mono (e.trans E.toExt0) _ _ q3) .nil))⟩
  stop := fun i io1 h1 H1 e R c hd => ⟨e.frzs _ _ _ h, by rw [← r.len]; simpa using hd⟩
theorem walk_to {K : PySem.W.Frag} {f : Key × D → D} {A : Ex} {sg : L2.St} {H : Hp} {R : It → Hp → Prop} {J : Addr → Obj → List (Key × V) → It} (hJ : ∀ {io : List Addr} {H : Hp} {d : Addr} {o : Obj} {kvs : List (Key × D)} {vs : List (Key × V)}, H d = some (.frz o (.dK vs)) → RK K io H kOk kvs vs → ItOk K (J d o vs) (kvs.map f) [] io H) (hw : tI K W (walkD f A) sg H R) :
    tE K W A sg H fun x H1 => ∃ d o kvs, x = .ref d ∧ H1 d = some (.frz o (.dK kvs)) ∧ R (J d o kvs) H1 := by
  obtain ⟨io, h, rho, hR, hE, hA⟩ := hw
  refine ⟨io, h, rho, hR, hE, (Aft.bind hA).mono (fun x h1 hx io1 H1 v e1 R1 v1 => ?_) fun _ _ z => z⟩
  cases v1 with
  | loc ha =>
    rename_i n a
    cases q : lkD h1[n]? with
    | none =>
      have hx' : Aft (match lkD h1[n]? with | some kvs => Mv.R.ok (kvs.map f, ([] : Ck)) h1 | none => Mv.R.bad) (fun p h' => ∀ io' H' J, Ext io H io' H' → RepH K io' h' H' → ItOk K J p.1 p.2 io' H' → R J H') (Zx K W io H sg) := hx
      rw [q] at hx'
      exact hx'.elim
    | some kvs =>
      have hx' : Aft (match lkD h1[n]? with | some kvs => Mv.R.ok (kvs.map f, ([] : Ck)) h1 | none => Mv.R.bad) (fun p h' => ∀ io' H' J, Ext io H io' H' → RepH K io' h' H' → ItOk K J p.1 p.2 io' H' → R J H') (Zx K W io H sg) := hx
      rw [q] at hx'
      obtain ⟨o, vs, q1, q2⟩ := R1.lkd ha (lkD_of q)
      exact ⟨_, o, vs, rfl, q1, hx' io1 H1 _ e1 R1 (hJ q1 q2)⟩
  | _ => exact hx.elim
theorem si_keysD {tg e : Expr} {A : Ex} (ha : SE X W e A) : SI X W tg e (iKeysD A) := by
  refine ⟨fun pins s sg H R I hw => ?_⟩
  refine PI.run (pi_keys (tg := tg) ha) pins s sg H R I ?_
  obtain ⟨io, h, rho, hR, hE, hA⟩ := walk_to (J := Itk) it_keys hw
  refine ⟨io, h, rho, hR, hE, hA.mono (fun x k hx io' H' v e r w => ?_) fun _ _ z => z⟩
  obtain ⟨d, o, kvs, e1, e2, e3⟩ := hx io' H' v e r w
  exact ⟨d, o, e1, .inl ⟨kvs, e2, e3⟩⟩
theorem si_valsD {tg e : Expr} {A : Ex} {apos cpos : Pos} (ha : SE X W e A) (hbase : attributeBase e "values" X.env (eval e X.env) = eval e X.env := by rfl) (hline : (apos.endLine == cpos.line) = true := by rfl) : SI X W tg (.Call (.Attribute e "values" apos) [] [] cpos) (iValsD A) := by
  refine ⟨fun pins s sg H R I hw => ?_⟩
  exact PI.run (pi_values (tg := tg) ha hbase hline) pins s sg H R I (walk_to (J := Itd) it_vals hw)
theorem si_itemsD {elts : List Expr} {kk : Nat} {tpos : Pos} {e : Expr} {A : Ex} {apos cpos : Pos} (ha : SE X W e A) (hbase : attributeBase e "items" X.env (eval e X.env) = eval e X.env := by rfl) (hline : (apos.endLine == cpos.line) = true := by rfl) : SI X W (.Tuple elts kk tpos) (.Call (.Attribute e "items" apos) [] [] cpos) (iItemsD A) := by
  refine ⟨fun pins s sg H R I hw => ?_⟩
  exact PI.run (pi_items (elts := elts) (kk := kk) (tpos := tpos) ha hbase hline) pins s sg H R I (walk_to (J := Iti) it_items hw)
theorem si_keysM {tg e : Expr} {A : Ex} {apos cpos : Pos} (ha : SE X W e A) (hbase : attributeBase e "keys" X.env (eval e X.env) = eval e X.env := by rfl) (hline : (apos.endLine == cpos.line) = true := by rfl) : SI X W tg (.Call (.Attribute e "keys" apos) [] [] cpos) (iKeysD A) := by
  refine ⟨fun pins s sg H R I hw => ?_⟩
  exact PI.run (pi_keysM (tg := tg) ha hbase hline) pins s sg H R I (walk_to (J := Itk) it_keys hw)
end
end Mv

namespace Mv
open PySem L2
section
variable {X : Cx} {W : WX}
/-! ### a, b = x, y -/
theorem ss_par {i j : Nat} {x y : Str} {a b : Expr} {B : Ar} {px py pt pos : Pos} {kt k2 pt2} (hc : X.calm = true) (hN : X.N.Nodup) (hi : X.N[i]? = some x) (hj : X.N[j]? = some y) (hij : i ≠ j)
    (hx : X.env.scope.names.lookup x = some .local) (hy : X.env.scope.names.lookup y = some .local) (ha : SA X W [a, b] B)
    (hw : swappedStores [.Tuple [.Name x px, .Name y py] kt pt] (.Tuple [a, b] k2 pt2) X.env = pure (some [x, y]))
    (hs : swapsWithSole [.Tuple [.Name x px, .Name y py] kt pt] (.Tuple [a, b] k2 pt2) pos.line X.env = pure false := by rfl) :
    SS X W (.Assign [.Tuple [.Name x px, .Name y py] kt pt] (.Tuple [a, b] k2 pt2) pos) (sAsg (.tp [i, j]) (eTup B)) := by
  refine ps_imp (ps_par hc hN hi hj hij hx hy ha hw hs) fun De sg H ⟨io, h, rho, hR, hE, hA⟩ => ?_
  have hA1 := AftS.toS hA
  refine ⟨io, h, rho, hR, hE, (Aft.bind hA1).mono (fun ds h1 hd io1 H1 vs e1 R1 v1 => ?_) fun _ _ z => z.zx hE⟩
  by_cases hl : ds.length ≤ sizeLine
  · rw [if_pos hl] at hd
    have hd' : AftS (match putAll [i, j] ds rho with | some r => .go r .nx h1 | none => .bad) _ _ := hd
    match ds, v1, hd' with
    | [d1, d2], .cons w1 (.cons w2 .nil), hd' => exact ⟨_, _, rfl, hd' io1 H1 _ e1 R1 (((hE.mono e1.toExt0).set i w1).set j w2)⟩
    | [], _, hd' => exact hd'.elim
    | [_], _, hd' => exact hd'.elim
    | _ :: _ :: _ :: _, _, hd' => exact hd'.elim
  · rw [if_neg hl] at hd
    exact hd.elim
theorem ss_par3 {i j l : Nat} {x y z : Str} {a b c : Expr} {B : Ar} {px py pz pt pos : Pos} {kt k2 pt2} (hc : X.calm = true) (hN : X.N.Nodup) (hi : X.N[i]? = some x) (hj : X.N[j]? = some y) (hl : X.N[l]? = some z) (hij : i ≠ j) (hil : i ≠ l) (hjl : j ≠ l)
    (hx : X.env.scope.names.lookup x = some .local) (hy : X.env.scope.names.lookup y = some .local) (hz : X.env.scope.names.lookup z = some .local) (ha : SA X W [a, b, c] B)
    (hw : swappedStores [.Tuple [.Name x px, .Name y py, .Name z pz] kt pt] (.Tuple [a, b, c] k2 pt2) X.env = pure (some [x, y, z]))
    (hs : swapsWithSole [.Tuple [.Name x px, .Name y py, .Name z pz] kt pt] (.Tuple [a, b, c] k2 pt2) pos.line X.env = pure false := by rfl) :
    SS X W (.Assign [.Tuple [.Name x px, .Name y py, .Name z pz] kt pt] (.Tuple [a, b, c] k2 pt2) pos) (sAsg (.tp [i, j, l]) (eTup B)) := by
  refine ps_imp (ps_par3 hc hN hi hj hl hij hil hjl hx hy hz ha hw hs) fun De sg H ⟨io, h, rho, hR, hE, hA⟩ => ?_
  have hA1 := AftS.toS hA
  refine ⟨io, h, rho, hR, hE, (Aft.bind hA1).mono (fun ds h1 hd io1 H1 vs e1 R1 v1 => ?_) fun _ _ z => z.zx hE⟩
  by_cases hl : ds.length ≤ sizeLine
  · rw [if_pos hl] at hd
    have hd' : AftS (match putAll [i, j, l] ds rho with | some r => .go r .nx h1 | none => .bad) _ _ := hd
    match ds, v1, hd' with
    | [d1, d2, d3], .cons w1 (.cons w2 (.cons w3 .nil)), hd' => exact ⟨_, _, _, rfl, hd' io1 H1 _ e1 R1 ((((hE.mono e1.toExt0).set i w1).set j w2).set l w3)⟩
    | [], _, hd' => exact hd'.elim
    | [_], _, hd' => exact hd'.elim
    | [_, _], _, hd' => exact hd'.elim
    | _ :: _ :: _ :: _ :: _, _, hd' => exact hd'.elim
  · rw [if_neg hl] at hd
    exact hd.elim
/-! ### a, o[i] = x -/
inductive Tx1 where
  | nm (i : Nat)
  | ls (o k : Ex)
  | dk (o k : Ex)
def lsPut (x k v : D) (h : VH) : Option VH := match x, k with
  | .loc n, .int j => match h[n]? with
    | some (.lst xs) => match ixN xs.length j with
      | some m => some (h.set n (.lst (xs.set m v)))
      | none => none
    | _ => none
  | _, _ => none
def dkPut (x k v : D) (h : VH) : Option VH := match x with
  | .loc n => dcPut n k v h
  | _ => none
def putX : List Tx1 → List D → Env → VH → RS
  | [], [], rho, h => .go rho .nx h
  | .nm i :: ts, d :: ds, rho, h => putX ts ds (rho.set i (some d)) h
  | .ls o k :: ts, d :: ds, rho, h => (noX (o rho h)).toS rho fun x h2 => (noX (k rho h2)).toS rho fun y h3 => match lsPut x y d h3 with
    | some h4 => putX ts ds rho h4
    | none => .bad
  | .dk o k :: ts, d :: ds, rho, h => (noX (o rho h)).toS rho fun x h2 => (noX (k rho h2)).toS rho fun y h3 => match dkPut x y d h3 with
    | some h4 => putX ts ds rho h4
    | none => .bad
  | _, _, _, _ => .bad
def Px (K : PySem.W.Frag) (io : List Addr) (H : Hp) (Q : L2.St → Hp → Prop) : Env → Fl → VH → Prop := fun rho' _ h' => ∀ io' H' sg', Ext io H io' H' → RepH K io' h' H' → RepE K io' H' rho' sg' → Q sg' H'
theorem Px.mono {K : PySem.W.Frag} {io io' : List Addr} {H H' : Hp} {Q : L2.St → Hp → Prop} {r : Env} {f : Fl} {h : VH} (p : Px K io H Q r f h) (e : Ext io H io' H') : Px K io' H' Q r f h := fun i2 H2 s2 e2 r2 v2 => p i2 H2 s2 (e.trans e2) r2 v2
def SGX (X : Cx) (W : WX) (es : List Expr) (ts : List Tx1) : Prop := ∃ t : TGs, PGs X es t ∧ ∀ (vs : List V) (ds : List D) (sg : L2.St) (H : Hp) (Q : L2.St → Hp → Prop) (io : List Addr) (h : VH) (rho : Env), RepH X.K io h H → RepE X.K io H rho sg → RVs X.K io H ds vs → AftS (putX ts ds rho h) (Px X.K io H Q) (fun _ _ _ => False) → t vs sg H Q
theorem sgx_nil : SGX X W [] [] := ⟨gNil, pgs_nil, fun vs ds sg H Q io h rho hR hE hv hA => by
  cases hv with
  | nil => exact ⟨rfl, hA io H sg (Ext.refl _ _) hR hE⟩
  | cons _ _ => exact hA.elim⟩
theorem sgx_nm {i : Nat} {x : Str} {pos : Pos} {es : List Expr} {ts : List Tx1} (hN : X.N.Nodup) (hi : X.N[i]? = some x) (hx : L2.Loc X.env.scope x) (hr : SGX X W es ts)
    (hs : (assignEach (.Name x pos :: es) X.env).map (·.2) = assign (.Name x pos) X.env :: (assignEach es X.env).map (·.2) := by rfl) (hf : X.fn x = true ∨ X.env.scope.names.lookup x = some .local := by first | exact .inl rfl | exact .inr rfl) : SGX X W (.Name x pos :: es) (.nm i :: ts) := by
  obtain ⟨t, h1, h2⟩ := hr
  refine ⟨_, pgs_cons (pg_name hN hi hx hf) h1 hs, fun vs ds sg H Q io h rho hR hE hv hA => ?_⟩
  cases hv with
  | nil => exact hA.elim
  | cons w1 w2 => exact ⟨_, _, rfl, h2 _ _ _ H Q io h _ hR (hE.set i w1) w2 hA⟩
theorem toS_noX {r : R D} {rho : Env} {f : D → VH → RS} {P : Env → Fl → VH → Prop} {Z : Xc → VH → Prop} (h : AftS ((noX r).toS rho f) P (fun _ _ _ => False)) : Aft r (fun a k => AftS (f a k) P (fun _ _ _ => False)) Z := by
  cases r with
  | ok a k => exact h
  | exc x k => exact h.elim
  | bad => exact h.elim
theorem sgx_ls {o i : Expr} {O I : Ex} {pos : Pos} {es : List Expr} {ts : List Tx1} (ho : SE X W o O) (hi : SE X W i I) (hr : SGX X W es ts)
    (h0 : ∀ v, assign (.Subscript o i pos) X.env v = (do
      let ov ← holding [v] (eval o X.env)
      let iv ← holding [v, ov] (eval i X.env)
      standAt pos
      holding [v, ov, iv] (setItem ov iv v)
      release [v, ov, iv] []) := by intro _; rfl)
    (hs : (assignEach (.Subscript o i pos :: es) X.env).map (·.2) = assign (.Subscript o i pos) X.env :: (assignEach es X.env).map (·.2) := by rfl) : SGX X W (.Subscript o i pos :: es) (.ls O I :: ts) := by
  obtain ⟨t, h1, h2⟩ := hr
  refine ⟨_, pgs_cons (pg_sub ho hi set_list h0) h1 hs, fun vs ds sg H Q io h rho hR hE hv hA => ?_⟩
  cases hv with
  | nil => exact hA.elim
  | @cons d1 ds1 v1 vs1 w1 w2 =>
    refine ⟨_, _, rfl, io, h, rho, hR, hE, (toS_noX hA).mono (fun x h2' hx io2 H2 w e2 R2 v2 => ?_) fun _ _ z => z⟩
    refine ⟨io2, h2', rho, R2, hE.mono e2.toExt0, (toS_noX hx).mono (fun k h3 hx io3 H3 z e3 R3 v3 => ?_) fun _ _ z => z⟩
    have e13 := e2.trans e3
    cases q : lsPut x k _ h3 with
    | none => rw [q] at hx; exact hx.elim
    | some h4 =>
      rw [q] at hx
      unfold lsPut at q
      split at q
      · rename_i n j
        cases v3
        cases v2 with
        | loc ha =>
          split at q
          · rename_i xs q1
            split at q
            · rename_i m hm
              cases q
              have ha3 := e3.get ha
              obtain ⟨us, e4, e5⟩ := R3.lst ha3 q1
              have E := ext_set (ho := .lst (us.set m v1)) R3 ha3 e4 (fun _ z => nomatch z) (fun _ _ z => nomatch z)
              refine ⟨_, us, _, m, rfl, rfl, e4, by rw [← e5.length]; exact hm, ?_⟩
              have EE := e13.trans E
              have hx' : AftS (putX ts ds1 rho (h3.set n (.lst (xs.set m d1)))) (Px X.K io H Q) (fun _ _ _ => False) := hx
              exact h2 _ _ _ _ Q io3 _ rho (R3.setO (o := .lst us) (ob := .lst (xs.set m d1)) ha3 E ⟨_, rfl, (RVs.mono E.toExt0 _ _ e5).set m (RV.mono EE.toExt0 _ _ w1)⟩) (hE.mono EE.toExt0) (RVs.mono EE.toExt0 _ _ w2) (hx'.mono (fun _ _ _ z => z.mono EE) fun _ _ _ z => z)
            · cases q
          · cases q
      · cases q
theorem sgx_dk {o i : Expr} {O I : Ex} {pos : Pos} {es : List Expr} {ts : List Tx1} (hu : X.A.units + 64 < cLine) (ho : SE X W o O) (hi : SE X W i I) (hr : SGX X W es ts)
    (h0 : ∀ v, assign (.Subscript o i pos) X.env v = (do
      let ov ← holding [v] (eval o X.env)
      let iv ← holding [v, ov] (eval i X.env)
      standAt pos
      holding [v, ov, iv] (setItem ov iv v)
      release [v, ov, iv] []) := by intro _; rfl)
    (hs : (assignEach (.Subscript o i pos :: es) X.env).map (·.2) = assign (.Subscript o i pos) X.env :: (assignEach es X.env).map (·.2) := by rfl) : SGX X W (.Subscript o i pos :: es) (.dk O I :: ts) := by
  obtain ⟨t, h1, h2⟩ := hr
  refine ⟨_, pgs_cons (pg_sub ho hi (set_dict (by omega)) h0) h1 hs, fun vs ds sg H Q io h rho hR hE hv hA => ?_⟩
  cases hv with
  | nil => exact hA.elim
  | @cons d1 ds1 v1 vs1 w1 w2 =>
    refine ⟨_, _, rfl, io, h, rho, hR, hE, (toS_noX hA).mono (fun x h2' hx io2 H2 w e2 R2 v2 => ?_) fun _ _ z => z⟩
    refine ⟨io2, h2', rho, R2, hE.mono e2.toExt0, (toS_noX hx).mono (fun k h3 hx io3 H3 z e3 R3 v3 => ?_) fun _ _ z => z⟩
    have e13 := e2.trans e3
    cases q : dkPut x k _ h3 with
    | none => rw [q] at hx; exact hx.elim
    | some h4 =>
      rw [q] at hx
      unfold dkPut at q
      cases v2 with
      | loc ha =>
        rename_i n a
        have q' : dcPut n k _ h3 = some h4 := q
        unfold dcPut at q'
        split at q'
        · rename_i j kvs qk qd
          split at q'
          · rename_i hl
            cases q'
            obtain ⟨rfl, hk⟩ := keyD_of v3 qk
            have ha3 := e3.get ha
            obtain ⟨us, e4, e5⟩ := R3.dk ha3 qd
            have E := ext_set (ho := .dK (putK us j v1)) R3 ha3 e4 (fun _ z => nomatch z) (fun _ _ z => nomatch z)
            refine ⟨_, _, rfl, DPut.k e4 (by rw [← e5.len]; exact hl), ?_⟩
            have EE := e13.trans E
            exact h2 _ _ _ _ Q io3 _ rho (R3.setO (o := .dK us) (ob := .dK (putD kvs j d1)) ha3 E ⟨_, rfl, (e5.mono E.toExt0).put hk (RV.mono EE.toExt0 _ _ w1)⟩) (hE.mono EE.toExt0) (RVs.mono EE.toExt0 _ _ w2) (AftS.mono hx (fun _ _ _ z => z.mono EE) fun _ _ _ z => z)
          · cases q'
        · cases q'
      | _ => cases q
def sAsgX (ts : List Tx1) (a : Ex) : Sm := fun rho h => (a rho h).toS rho fun d h1 => match d with
  | .tup ds => if ds.length = ts.length then putX ts ds rho h1 else .bad
  | _ => .bad
def IsGo (x : RS) : Prop := (∃ r k, x = .go r .nx k) ∨ x = .bad
theorem toS_go {r : R D} {rho : Env} {f : D → VH → RS} (h : ∀ a k, IsGo (f a k)) : IsGo ((noX r).toS rho f) := by
  cases r with
  | ok a k => exact h a k
  | exc x k => exact .inr rfl
  | bad => exact .inr rfl
theorem putX_ok : ∀ (ts : List Tx1) (ds : List D) (rho : Env) (h : VH), IsGo (putX ts ds rho h)
  | [], [], rho, h => .inl ⟨rho, h, rfl⟩
  | [], _ :: _, _, _ => .inr rfl
  | .nm _ :: _, [], _, _ => .inr rfl
  | .ls _ _ :: _, [], _, _ => .inr rfl
  | .dk _ _ :: _, [], _, _ => .inr rfl
  | .nm i :: ts, d :: ds, rho, h => putX_ok ts ds _ h
  | .ls o k :: ts, d :: ds, rho, h => by
    unfold putX
    refine toS_go fun x h2 => toS_go fun y h3 => ?_
    cases lsPut x y d h3 with
    | none => exact .inr rfl
    | some h4 => exact putX_ok ts ds rho h4
  | .dk o k :: ts, d :: ds, rho, h => by
    unfold putX
    refine toS_go fun x h2 => toS_go fun y h3 => ?_
    cases dkPut x y d h3 with
    | none => exact .inr rfl
    | some h4 => exact putX_ok ts ds rho h4
theorem ss_asgX {es : List Expr} {kt : Nat} {pt pos : Pos} {e : Expr} {ts : List Tx1} {A : Ex} (hc : X.calm = true) (ha : SE X W e A) (hg : SGX X W es ts) (hn : (assignEach es X.env).length = ts.length := by rfl) (hst : (assignEach es X.env).findIdx? (·.1) = none := by rfl)
    (hs : swapsWithSole [.Tuple es kt pt] e pos.line X.env = pure false := by rfl) (hw : swappedStores [.Tuple es kt pt] e X.env = pure none := by rfl)
    (h1 : (assignEach [.Tuple es kt pt] X.env).map (·.2) = [assign (.Tuple es kt pt) X.env] := by rfl) : SS X W (.Assign [.Tuple es kt pt] e pos) (sAsgX ts A) := by
  obtain ⟨t, g1, g2⟩ := hg
  refine ps_imp (ps_asg ha (pg_tup hc g1 hn hst) hs hw h1) fun De sg H ⟨io, h, rho, hR, hE, hA⟩ => ?_
  refine ⟨io, h, rho, hR, hE, (AftS.toS hA).mono (fun d k hk io1 H1 v e1 R1 v1 => ?_) fun _ _ z => z.zx hE⟩
  cases v1 with
  | tup s1 w1 =>
    rename_i a xs ds
    have hk' : AftS (if ds.length = ts.length then putX ts ds rho k else .bad) (Ps X.K io H De) (Zs X.K W io H) := hk
    by_cases hl : ds.length = ts.length
    · rw [if_pos hl] at hk'
      refine ⟨_, _, rfl, s1, by rw [← w1.length]; exact hl, g2 _ _ sg H1 De.nx io1 k rho R1 (hE.mono e1.toExt0) w1 ?_⟩
      rcases putX_ok ts ds rho k with ⟨r, k2, e⟩ | e
      · rw [e] at hk' ⊢
        exact fun io2 H2 sg2 e2 R2 E2 => hk' io2 H2 sg2 (e1.trans e2) R2 E2
      · rw [e] at hk'
        exact hk'.elim
    · rw [if_neg hl] at hk'
      exact hk'.elim
  | _ => exact hk.elim
end
end Mv

namespace Mv
open PySem PyProof L2
variable {X : Cx}
/-! ### text * int -/
def repSF : F2
  | .str s, .int n, h => if 0 ≤ n ∧ n ≤ 1000 ∧ s.length ≤ 1000 ∧ PyData.strOk (Txt.mul s n) = true ∧ (Txt.mul s n).length ≤ sizeLine then some (.str (Txt.mul s n), h) else none
  | _, _, _ => none
theorem mulOk_small {s : Str} {n : Int} (h0 : 0 ≤ n) (h1 : n ≤ 1000) (h2 : s.length ≤ 1000) : MulOk s n := by
  have hb : s.length * n.toNat ≤ 1000000 := Nat.mul_le_mul h2 (by omega : n.toNat ≤ 1000)
  refine ⟨by simp; omega, fun h3 _ => ?_, fun _ _ => ?_⟩
  · have h5 : (9223372036854774 : Int) ≤ (2 ^ 63 - 1) / n := by
      rw [Int.le_ediv_iff_mul_le (by omega)]
      omega
    omega
  · unfold PySem.Builtin.Str.tooLong; have : sizeLine = 16777216 := rfl; simp; omega
theorem op_repS : OpR X (binaryOp .Mult) (fun x y H Q => ∃ i j, x = .str i ∧ y = .int j ∧ MulOk i j ∧ Q (.str (Txt.mul i j)) H) := by
  intro pins s σ H x y v u Q I rx ry h
  obtain ⟨i, j, rfl, rfl, hz, q⟩ := h
  obtain ⟨t, rfl⟩ := rx
  obtain ⟨t', rfl⟩ := ry
  exact SB.mul hz (fun t' tk => ⟨.str (Txt.mul i j), H, I.tok _, ⟨_, rfl⟩, q⟩)
theorem m_repS : OpN X (binaryOp .Mult) repSF := ⟨_, op_repS, fun io h H x y v u Q d h' r hx hy e p => by
  unfold repSF at e
  split at e
  · split at e
    · rename_i hc
      cases e
      cases hy
      cases hx
      exact ⟨_, _, rfl, rfl, mulOk_small hc.1 hc.2.1 hc.2.2.1, p.fz r (.str _ hc.2.2.2)⟩
    · cases e
  · cases e⟩
theorem lookup_relabel_fc {env : PySem.Env} : ∀ {names : List (Str × NameKind)} {x : Str}, (names.lookup x = some .cell ∨ names.lookup x = some .free) →
    ((names.map fun (n, k) => if (k == NameKind.free && env.scope.kind == .function && env.kindOf n == some .cell) then (n, NameKind.cell) else (n, k)).lookup x = some .cell ∨ (names.map fun (n, k) => if (k == NameKind.free && env.scope.kind == .function && env.kindOf n == some .cell) then (n, NameKind.cell) else (n, k)).lookup x = some .free)
  | [], _, h => by simp at h
  | (n, k) :: r, x, h => by
    have ih := @lookup_relabel_fc env r x
    show List.lookup x ((if (k == NameKind.free && env.scope.kind == .function && env.kindOf n == some .cell) = true then (n, NameKind.cell) else (n, k)) :: _) = _ ∨ List.lookup x ((if (k == NameKind.free && env.scope.kind == .function && env.kindOf n == some .cell) = true then (n, NameKind.cell) else (n, k)) :: _) = _
    cases hx : x == n with
    | true =>
      simp only [List.lookup_cons, hx] at h
      split
      · left; simp only [List.lookup_cons, hx]
      · simp only [List.lookup_cons, hx]; exact h
    | false =>
      simp only [List.lookup_cons, hx] at h
      split <;> (simp only [List.lookup_cons, hx]; exact ih h)
/-- a comprehension within a comprehension -/
theorem blkOk_nest {N : List Str} {s : Shared} {H : Hp} {C : Addr} {cl : List (Str × Addr)} {fp : List Addr} {sc0 scope : Scope} {e : PySem.Env} {own : List (Str × Nat)} (h : blkC N sc0 scope own = true) : BlkOk N (X.blk s H sc0 (compEnvC sc0 cl C e) fp).env.scope scope own := by
  have b := blkOk_by h
  exact ⟨b.kind, b.uniq, b.ix, fun y hy q => lookup_relabel_fc (b.free y hy q), b.own⟩
end Mv

namespace Mv
open PySem L2 PyProof.Rows
/-! ### sorted -/
def insI (x : Int) : List Int → List Int
  | [] => [x]
  | y :: ys => if x ≤ y then x :: y :: ys else y :: insI x ys
def sortI : List Int → List Int
  | [] => []
  | x :: xs => insI x (sortI xs)
theorem insI_perm (x : Int) : ∀ ys, (insI x ys).Perm (x :: ys)
  | [] => .refl _
  | y :: ys => by
    unfold insI
    split
    · exact .refl _
    · exact ((insI_perm x ys).cons y).trans (.swap x y ys)
theorem sortI_perm : ∀ xs, (sortI xs).Perm xs
  | [] => .refl _
  | x :: xs => (insI_perm x _).trans ((sortI_perm xs).cons x)
theorem insI_sorted (x : Int) : ∀ ys, ys.Pairwise (· ≤ ·) → (insI x ys).Pairwise (· ≤ ·)
  | [], _ => List.pairwise_singleton _ _
  | y :: ys, h => by
    unfold insI
    rw [List.pairwise_cons] at h
    split
    · rename_i hxy
      rw [List.pairwise_cons, List.pairwise_cons]
      refine ⟨fun z hz => ?_, h⟩
      rcases List.mem_cons.mp hz with rfl | hz
      · exact hxy
      · exact Int.le_trans hxy (h.1 z hz)
    · rename_i hxy
      rw [List.pairwise_cons]
      refine ⟨fun z hz => ?_, insI_sorted x ys h.2⟩
      rcases List.mem_cons.mp ((insI_perm x ys).mem_iff.mp hz) with rfl | hz
      · omega
      · exact h.1 z hz
theorem sortI_sorted : ∀ xs, (sortI xs).Pairwise (· ≤ ·)
  | [] => .nil
  | x :: xs => insI_sorted x _ (sortI_sorted xs)
theorem sortI_un {xs ys : List Int} (p : ys.Perm xs) (s : ys.Pairwise (· ≤ ·)) : ys = sortI xs :=
  List.Perm.eq_of_pairwise (fun a b _ _ h1 h2 => Int.le_antisymm h1 h2) s (sortI_sorted xs) (p.trans (sortI_perm xs).symm)
def leS (a b : Str) : Prop := ¬ (b.cps.toList < a.cps.toList)
instance (a b : Str) : Decidable (leS a b) := by unfold leS; infer_instance
theorem leS_tr {a b c : Str} (h1 : leS a b) (h2 : leS b c) : leS a c := List.le_trans (l₁ := a.cps.toList) h1 h2
theorem leS_as {a b : Str} (h1 : leS a b) (h2 : leS b a) : a = b := by
  have : a.cps.toList = b.cps.toList := List.le_antisymm h1 h2
  cases a
  cases b
  congr
  exact Array.toList_inj.mp this
theorem leS_tot {a b : Str} (h : ¬ leS a b) : leS b a := by
  unfold leS at *
  have := Classical.not_not.mp h
  exact List.not_lt.mpr (List.le_of_lt this)
def insS (x : Str) : List Str → List Str
  | [] => [x]
  | y :: ys => if leS x y then x :: y :: ys else y :: insS x ys
def sortS : List Str → List Str
  | [] => []
  | x :: xs => insS x (sortS xs)
theorem insS_perm (x : Str) : ∀ ys, (insS x ys).Perm (x :: ys)
  | [] => .refl _
  | y :: ys => by
    unfold insS
    split
    · exact .refl _
    · exact ((insS_perm x ys).cons y).trans (.swap x y ys)
theorem sortS_perm : ∀ xs, (sortS xs).Perm xs
  | [] => .refl _
  | x :: xs => (insS_perm x _).trans ((sortS_perm xs).cons x)
theorem insS_sorted (x : Str) : ∀ ys, ys.Pairwise leS → (insS x ys).Pairwise leS
  | [], _ => List.pairwise_singleton _ _
  | y :: ys, h => by
    unfold insS
    rw [List.pairwise_cons] at h
    split
    · rename_i hxy
      rw [List.pairwise_cons, List.pairwise_cons]
      refine ⟨fun z hz => ?_, h⟩
      rcases List.mem_cons.mp hz with rfl | hz
      · exact hxy
      · exact leS_tr hxy (h.1 z hz)
    · rename_i hxy
      rw [List.pairwise_cons]
      refine ⟨fun z hz => ?_, insS_sorted x ys h.2⟩
      rcases List.mem_cons.mp ((insS_perm x ys).mem_iff.mp hz) with rfl | hz
      · exact leS_tot hxy
      · exact h.1 z hz
theorem sortS_sorted : ∀ xs, (sortS xs).Pairwise leS
  | [] => .nil
  | x :: xs => insS_sorted x _ (sortS_sorted xs)
theorem rising_pw : ∀ (xs : List Str) (p : Str), risingS p xs = true → (p :: xs).Pairwise leS
  | [], _, _ => List.pairwise_singleton _ _
  | x :: r, p, h => by
    unfold risingS at h
    rw [Bool.and_eq_true] at h
    have ih := rising_pw r x h.2
    have hpx : leS p x := by
      have := h.1
      rw [ltCps_eq] at this
      simpa [leS] using this
    rw [List.pairwise_cons]
    refine ⟨fun z hz => ?_, ih⟩
    rcases List.mem_cons.mp hz with rfl | hz
    · exact hpx
    · exact leS_tr hpx ((List.pairwise_cons.mp ih).1 z hz)
theorem sortS_un {xs ys : List Str} (p : ys.Perm xs) (s : sortedS ys = true) : ys = sortS xs := by
  have hs : ys.Pairwise leS := by
    cases ys with
    | nil => exact .nil
    | cons y ys => exact rising_pw ys y s
  exact List.Perm.eq_of_pairwise (fun a b _ _ h1 h2 => leS_as h1 h2) hs (sortS_sorted xs) (p.trans (sortS_perm xs).symm)
section
variable {X : Cx} {W : WX}
theorem RVs.strs {K : PySem.W.Frag} {io : List Addr} {H : Hp} : ∀ {ys : List Str}, (∀ y ∈ ys, sOk y) → RVs K io H (ys.map D.str) (ys.map V.str)
  | [], _ => .nil
  | y :: ys, h => .cons (.str y (h y List.mem_cons_self)) (RVs.strs fun z hz => h z (List.mem_cons_of_mem _ hz))
def intsL : List D → Option (List Int)
  | [] => some []
  | .int i :: r => match intsL r with
    | some ns => some (i :: ns)
    | none => none
  | _ :: _ => none
theorem intsL_of {K : PySem.W.Frag} {io : List Addr} {H : Hp} : ∀ {ds : List D} {vs : List V} {ys : List Int}, RVs K io H ds vs → intsL ds = some ys → vs = ys.map V.int
  | [], _, _, hv, e => by
    cases hv
    cases e
    rfl
  | d :: ds, _, ys, hv, e => by
    cases hv with
    | cons h1 h2 =>
      cases h1 with
      | int i =>
        have e' : (match intsL ds with | some ys => some (i :: ys) | none => none) = some ys := e
        cases q : intsL ds with
        | none => rw [q] at e'; cases e'
        | some zs =>
          rw [q] at e'
          cases e'
          rw [intsL_of h2 q]
          rfl
      | _ => cases e
def sortL (ds : List D) : Option (List D) := match intsL ds with
  | some ns => if ns.length < 64 then some ((sortI ns).map D.int) else none
  | none => match strsD ds with
    | some ys => if ys.length < 64 then some ((sortS ys).map D.str) else none
    | none => none
def sortFL : FL := fun ds h => match ds with
  | [d] => match listOf d h with
    | some es => sortL es
    | none => none
  | _ => none
theorem m_sortL : ∃ r, CallR X (.builtin "sorted") r ∧ LsS X.K sortFL r := ⟨_, callR_or cr_sorted cr_sortedS, fun io h H ds vs Q xs r hv e p => by
  unfold sortFL at e
  split at e
  · obtain ⟨v, rfl, v1⟩ := hv.one
    split at e
    · rename_i es q
      obtain ⟨a, ws, rfl, e2, e3⟩ := listOf_of r v1 q
      unfold sortL at e
      split at e
      · rename_i ns qn
        split at e
        · rename_i hl
          cases e
          have := intsL_of e3 qn
          subst this
          refine .inl ⟨a, ns, rfl, e2, hl, fun ns' l pm sr hp => ?_⟩
          rw [sortI_un pm sr]
          exact p io H l _ (Ext.refl _ _) r hp (RVs.ofInts _)
        · cases e
      · split at e
        · rename_i ys qs
          split at e
          · rename_i hl
            cases e
            obtain ⟨rfl, hok⟩ := strsD_of e3 qs
            refine .inr ⟨a, ys, rfl, e2, hl, fun ys' l pm sr hp => ?_⟩
            rw [sortS_un pm sr]
            exact p io H l _ (Ext.refl _ _) r hp (RVs.strs fun y hy => hok y ((sortS_perm ys).mem_iff.mp hy))
          · cases e
        · cases e
    · cases e
  · cases e⟩
theorem sl_callB {id : String} {x : Str} {e : Expr} {es : List Expr} {B : Ar} {f : FL} {p pos : Pos} (hc : ∃ r, CallR X (.builtin id) r ∧ LsS X.K f r) (hg : Gl X x) (hm : X.mg x = none) (hv : bootBuiltins x = some (.builtin id)) (ha : SA X W (e :: es) B)
    (hn : x ≠ "__name__" := by decide) (hdb : (x == ("__debug__" : Str)) = false := by decide) (hs : starEach (e :: es) X.env = (false, eval e X.env) :: starEach es X.env := by rfl) (hst : ((backTo pos (starEach es X.env)).any fun x => x.fst) = false := by rfl) : SL X W (.Call (.Name x p) (e :: es) [] pos) (lCall f B) := by
  obtain ⟨r, h1, h2⟩ := hc
  exact pe_imp (pe_callB h1 hg hm hv ha hn hdb hs hst) fun sg H Q h => lcalls h2 h
/-! ### zip of two lists -/
def itL (d : D) (h : VH) : Option (List D × Ck) := match d with
  | .lst ds => some (ds, [])
  | .scr ns => some (ns.map .int, [])
  | .loc n => match h[n]? with
    | some (.lst ds) => some (ds, [(n, ds)])
    | _ => none
  | _ => none
def zipD : List D → List D → List D
  | a :: r, b :: t => .tup [a, b] :: zipD r t
  | _, _ => []
theorem zipD_get : ∀ {xs ys : List D} {i : Nat} {d : D}, (zipD xs ys)[i]? = some d → ∃ a b, xs[i]? = some a ∧ ys[i]? = some b ∧ d = .tup [a, b]
  | [], _, _, _, e => by simp [zipD] at e
  | _ :: _, [], _, _, e => by simp [zipD] at e
  | a :: r, b :: t, 0, d, e => by
    simp [zipD] at e
    exact ⟨a, b, rfl, rfl, e.symm⟩
  | a :: r, b :: t, i + 1, d, e => by
    obtain ⟨x, y, h1, h2, h3⟩ := zipD_get (xs := r) (ys := t) (i := i) (d := d) (by simpa [zipD] using e)
    exact ⟨x, y, by simpa using h1, by simpa using h2, h3⟩
theorem zipD_len : ∀ (xs ys : List D), (zipD xs ys).length = min xs.length ys.length
  | [], _ => by simp [zipD]
  | _ :: _, [] => by simp [zipD]
  | a :: r, b :: t => by
    simp [zipD, zipD_len r t]
theorem itL_of {K : PySem.W.Frag} {io : List Addr} {h : VH} {H : Hp} (r : RepH K io h H) {d : D} {v : V} {ds : List D} {ck : Ck} (hv : RV K io H d v) (e : itL d h = some (ds, ck)) : ∃ a, v = .ref a ∧ ∀ io1 h1 H1 all, Ext0 io H io1 H1 → RepH K io1 h1 H1 → ckOk ck all h1 = true → ∃ vs, SqL K H1 a vs ∧ RVs K io1 H1 ds vs := by
  unfold itL at e
  cases hv with
  | lst s1 w1 =>
    cases e
    exact ⟨_, rfl, fun io1 h1 H1 all e2 R2 c => ⟨_, .inl (.inr ⟨_, e2.frzs _ _ _ s1⟩), RVs.mono e2 _ _ w1⟩⟩
  | scr s1 =>
    cases e
    exact ⟨_, rfl, fun io1 h1 H1 all e2 R2 c => ⟨_, (s1.mono e2).sq, RVs.ofInts _⟩⟩
  | loc hn =>
    rename_i n a
    have e' : (match h[n]? with | some (.lst ds) => some (ds, [(n, ds)]) | _ => none) = some (ds, ck) := e
    cases q : h[n]? with
    | none => rw [q] at e'; cases e'
    | some o =>
      rw [q] at e'
      cases o with
      | lst es =>
        cases e'
        refine ⟨_, rfl, fun io1 h1 H1 all e2 R2 c => ?_⟩
        have q6 := ck_get c (n := n) (ds := ds) (by simp)
        obtain ⟨xs2, e7, e8⟩ := R2.lst (e2.get hn) q6
        exact ⟨xs2, SqL.of e7, e8⟩
      | _ => cases e'
  | _ => cases e
theorem ck_app {a b : Ck} {all : List D} {h : VH} (c : ckOk (a ++ b) all h = true) : ckOk a all h = true ∧ ckOk b all h = true := by
  unfold ckOk at *
  rw [List.all_append, Bool.and_eq_true] at c
  exact c
def iZipD (B : Ar) : Im := fun rho h => (B rho h).bind fun ds h1 => match ds with
  | [x, y] => match itL x h1, itL y h1 with
    | some (xs, c1), some (ys, c2) => .ok (zipD xs ys, c1 ++ c2) h1
    | _, _ => .bad
  | _ => .bad
theorem si_zip {elts : List Expr} {kk : Nat} {tpos : Pos} {a b : Expr} {B : Ar} {p pos : Pos} (hg : Gl X "zip") (hm : X.mg "zip" = none) (ha : SA X W [a, b] B) (hs : starEach [a, b] X.env = (false, eval a X.env) :: starEach [b] X.env := by rfl) (hpl : (backTo pos (starEach [b] X.env)).any (·.1) = false := by rfl) : SI X W (.Tuple elts kk tpos) (.Call (.Name "zip" p) [a, b] [] pos) (iZipD B) := by
  refine ⟨fun pins s sg H R I ⟨io, h, rho, hR, hE, hA⟩ => ?_⟩
  refine PI.run (pi_zip (elts := elts) (kk := kk) (tpos := tpos) hg hm ha hs hpl) pins s sg H R I ?_
  refine ⟨io, h, rho, hR, hE, (Aft.bind hA).mono (fun ds h1 hx io1 H1 vs e1 R1 v1 => ?_) fun _ _ z => z⟩
  split at hx
  · rename_i x y
    obtain ⟨v, u, rfl, v2, v3⟩ := v1.two
    split at hx
    · rename_i xs c1 ys c2 q1 q2
      obtain ⟨a1, rfl, g1⟩ := itL_of R1 v2 q1
      obtain ⟨a2, rfl, g2⟩ := itL_of R1 v3 q2
      have hc0 : ckOk (c1 ++ c2) (zipD xs ys) h1 = true := by
        refine ck_of fun n es hm => ?_
        rcases List.mem_append.mp hm with hm | hm
        · unfold itL at q1
          split at q1
          · cases q1; cases hm
          · cases q1; cases hm
          · rename_i n'
            split at q1
            · rename_i es' q
              cases q1
              simp at hm
              rw [hm.1, hm.2]
              exact q
            · cases q1
          · cases q1
        · unfold itL at q2
          split at q2
          · cases q2; cases hm
          · cases q2; cases hm
          · rename_i n'
            split at q2
            · rename_i es' q
              cases q2
              simp at hm
              rw [hm.1, hm.2]
              exact q
            · cases q2
          · cases q2
      obtain ⟨vs1, s1, _⟩ := g1 io1 h1 H1 [] (Ext.refl _ _).toExt0 R1 (ck_app hc0).1
      obtain ⟨vs2, s2, _⟩ := g2 io1 h1 H1 [] (Ext.refl _ _).toExt0 R1 (ck_app hc0).2
      refine ⟨a1, a2, vs1, vs2, rfl, s1, s2, hx io1 H1 _ e1 R1 ⟨fun i d io2 h2 H2 e2 R2 c hd => ?_, fun i io2 h2 H2 e2 R2 c hd => ?_⟩⟩
      · obtain ⟨x1, y1, hx1, hy1, rfl⟩ := zipD_get hd
        obtain ⟨us1, t1, w1⟩ := g1 io2 h2 H2 [] e2 R2 (ck_app c).1
        obtain ⟨us2, t2, w2⟩ := g2 io2 h2 H2 [] e2 R2 (ck_app c).2
        obtain ⟨xv, hxv, rx⟩ := w1.get hx1
        obtain ⟨yv, hyv, ry⟩ := w2.get hy1
        refine ⟨⟨us1, us2, xv, yv, t1, t2, hxv, hyv⟩, fun z H' hz => ?_⟩
        obtain ⟨T, x', y', rfl, hT, rfl, f1, f2⟩ := hz
        have := f1 us1 t1
        rw [hxv] at this
        cases this
        have := f2 us2 t2
        rw [hyv] at this
        cases this
        have E := ext_out (o := HO.tup [xv, yv]) R2 hT
        exact ⟨E, R2.out hT, .tup (SqU.of upd_same) (.cons (RV.mono E.toExt0 _ _ rx) (.cons (RV.mono E.toExt0 _ _ ry) .nil))⟩
      · obtain ⟨us1, t1, w1⟩ := g1 io2 h2 H2 [] e2 R2 (ck_app c).1
        obtain ⟨us2, t2, w2⟩ := g2 io2 h2 H2 [] e2 R2 (ck_app c).2
        have hd' : (zipD xs ys).length ≤ i := hd
        rw [zipD_len] at hd'
        have l1 := w1.length
        have l2 := w2.length
        exact ⟨us1, us2, t1, t2, by omega⟩
    · exact hx.elim
  · exact hx.elim
end
end Mv

namespace L2
open PySem PySem.Spec PyProof.Rows
section
variable {X : Cx}
/-- name = {..: ..} on one line, the name a local -/
theorem ps_setDcM {i : Nat} {y : Str} {py : Pos} {kx vx tg iter : Expr} {ifs : List Expr} {scope : Scope} {own : List (Str × Nat)} {pos spos : Pos} {wi : TI} {g : TG} {tt : TT} {tk tv : TE} (hc : X.calm = true) (hN : X.N.Nodup) (hy : X.N[i]? = some y) (hyl : X.env.scope.names.lookup y = some .local)
    (hsw : swapsWith (.DictComp kx vx [⟨tg, iter, ifs, 0⟩] scope pos) (some (.Name y py)) spos.line X.env = pure true) (hi : PI X tg iter wi) (ok : BlkOk X.N X.env.scope scope own)
    (hg : ∀ (s : Shared) (H : Hp) (C : Addr) (cl : List (Str × Addr)) (fp : List Addr), PG (X.blk s H scope (compEnvC scope cl C X.env) fp) tg g) (ht : ∀ (s : Shared) (H : Hp) (C : Addr) (cl : List (Str × Addr)) (fp : List Addr), PTs (X.blk s H scope (compEnvC scope cl C X.env) fp) ifs tt)
    (hk : ∀ (s : Shared) (H : Hp) (C : Addr) (cl : List (Str × Addr)) (fp : List Addr), PE (X.blk s H scope (compEnvC scope cl C X.env) fp) kx tk)
    (he : ∀ (s : Shared) (H : Hp) (C : Addr) (cl : List (Str × Addr)) (fp : List Addr), PE (X.blk s H scope (compEnvC scope cl C X.env) fp) vx tv) (hs : ∀ x, foldedSetIterable iter X.env x = pure x := by intro _; rfl) :
    PS X (.Assign [.Name y py] (.DictComp kx vx [⟨tg, iter, ifs, 0⟩] scope pos) spos) (tAsg (tDc wi g tt tk tv (own.map (·.2))) (gName i)) := by
  refine ⟨fun pins s σ H D I h => ?_⟩
  rw [exec_Assign_Name_used _ _ _ _ hsw]
  refine wpAny_bind (wpAny_standAt (wpAny_bind ?_))
  show wpAny _ X.A (do let _ ← comprehension (.DictComp kx vx [⟨tg, iter, ifs, 0⟩] scope pos) scope X.env (firstIterPos [⟨tg, iter, ifs, 0⟩] pos) newDict false (eval iter X.env) (some (assign (.Name y py) X.env))) _ _ s
  have h : tDc wi g tt tk tv (own.map (·.2)) σ H (fun x H1 => gName i x σ H1 D.nx) := h
  refine wpAny_bind (thn (dc_core (Qf := fun _ s' => SP X pins D .next s') hc hN I hi ok hg ht hk he hs h fun L C s' m H' I' q hn f => ?_) fun _ s' hq => wpAny_pure (wpAny_pure hq))
  show wpAny _ _ (assign (.Name y py) X.env (.ref L)) _ _ _
  refine wpAny_assign_Name (store_ok2 (v := V.ref L) I' hN hy (.inl hyl) rfl (fun s2 I2 ⟨a, sb, ha⟩ => ?_) (.inr hyl))
  obtain ⟨f0, f1, f2, f3, f4, f5⟩ := f
  have haC : C ≠ a := by
    rcases ha with z | z
    · rw [z]; exact f1
    · exact fun e => f4 y a z e.symm
  refine ⟨m, hn.sameBut sb haC, fun h3 sb3 => ?_⟩
  exact ⟨_, H', I2.turned (t' := s2.toks) (fun b o hb e => (sb3.2 b hb).trans e) f0 f1 f3 f4 f5, q⟩
theorem sw_trueD {kx vx : Expr} {gs : List Comprehension} {scope : Scope} {pos py : Pos} {y : Str} {l : Nat} {env : Env} (hk : env.scope.kind = .function) (hy : env.scope.names.lookup y = some .local) (hl : (py.line == pos.line) = true)
    (ha : (scope.names.any fun (n, k) => n == y && (k == .local || k == .cell)) = false) : swapsWith (.DictComp kx vx gs scope pos) (some (.Name y py)) l env = pure true := by
  have ky : env.kindOf y = some .local := hy
  have hb : env.blockKind = .function := by unfold Env.blockKind; rw [hk]; rfl
  unfold swapsWith
  simp only [hb, ky, ha, Expr.pos, hl]
  rfl
end
end L2
namespace Mv
open PySem L2
section
variable {X : Cx} {W : WX}
theorem ss_setDc {i : Nat} {y : Str} {py : Pos} {kx vx tg iter : Expr} {ifs : List Expr} {scope : Scope} {own : List (Str × Nat)} {pos spos : Pos} {im : Im} {t : Tg} {tt : Ts} {ek ev : Ex} (hc : X.calm = true) (hN : X.N.Nodup) (hy : X.N[i]? = some y) (hyl : X.env.scope.names.lookup y = some .local)
    (hsw : swapsWith (.DictComp kx vx [⟨tg, iter, ifs, 0⟩] scope pos) (some (.Name y py)) spos.line X.env = pure true) (hi : SI X W tg iter im) (ok : BlkOk X.N X.env.scope scope own)
    (hg : ∀ (s : Shared) (H : Hp) (C : Addr) (cl : List (Str × Addr)) (fp : List Addr), SG (X.blk s H scope (compEnvC scope cl C X.env) fp) tg t) (ht : ∀ (s : Shared) (H : Hp) (C : Addr) (cl : List (Str × Addr)) (fp : List Addr), STs (X.blk s H scope (compEnvC scope cl C X.env) fp) W0 ifs tt) (hk : SEb X scope kx ek) (he : SEb X scope vx ev)
    (hsl : ∀ i ∈ t.slots, i ∈ own.map (·.2)) (hf : ∀ x : Value, foldedSetIterable iter X.env x = pure x := by intro _; rfl) :
    SS X W (.Assign [.Name y py] (.DictComp kx vx [⟨tg, iter, ifs, 0⟩] scope pos) spos) (sAsg (.nm i) (eDc im t tt ek ev (own.map (·.2)))) :=
  ps_imp (ps_setDcM (g := gT X.K t) (tt := tT X.K W0 tt) (tk := tE X.K W0 ek) (tv := tE X.K W0 ev) hc hN hy hyl hsw hi ok hg ht hk he hf) fun De sg H h => dc_to hsl (asg_to (t := .nm i) h)
end
end Mv

namespace Mv
open PySem L2
/-! ### a list that holds dicts, shown -/
def NoSys (h : Heap) : Prop := ∀ (a : Addr) (o : Obj), h.get? a = some o → o.cls = .type "list" → a ≠ sysModules
mutual
theorem reads_sys {h : Heap} {K : PySem.W.Frag} {H : Hp} (hs : NoSys h) : ∀ {v : Value} {d : PyData} {as : List Addr} {x : V}, Reads h v d as → Dp K H x d → sysModules ∉ as
  | _, _, _, _, .none, _ => by simp
  | _, _, _, _, .bool _, _ => by simp
  | _, _, _, _, .int _ _, _ => by simp
  | _, _, _, _, .str _ _, _ => by simp
  | _, _, _, _, .list e c _ r, p => by
    cases p with
    | lst _ ps =>
      have h1 := hs _ _ e c
      have h2 := readsAll_sys hs r ps
      intro z
      rcases List.mem_cons.mp z with z | z
      · exact h1 z.symm
      · exact h2 z
  | _, _, _, _, .tuple _ _ _ r, p => by
    cases p with
    | tup _ ps => exact readsAll_sys hs r ps
  | _, _, _, _, .dict .., p => by cases p
theorem readsAll_sys {h : Heap} {K : PySem.W.Frag} {H : Hp} (hs : NoSys h) : ∀ {vs : List Value} {ds : List PyData} {as : List Addr} {xs : List V}, ReadsAll h vs ds as → DpAll K H xs ds → sysModules ∉ as
  | _, _, _, _, .nil, _ => by simp
  | _, _, _, _, .cons r rs, p => by
    cases p with
    | cons p1 p2 =>
      intro z
      rcases List.mem_append.mp z with z | z
      · exact reads_sys hs r p1 z
      · exact readsAll_sys hs rs p2 z
end
inductive Dq (K : PySem.W.Frag) (H : Hp) : V → PyData → Prop
  | dp {v : V} {p : PyData} : Dp K H v p → Dq K H v p
  | dk {a : Addr} {kvs : List (Key × V)} {ps : List (PyData × PyData)} : H a = some (.dK kvs) → DpK K H kvs ps → Dq K H (.ref a) (.dict ps)
inductive DqAll (K : PySem.W.Frag) (H : Hp) : List V → List PyData → Prop
  | nil : DqAll K H [] []
  | cons {v : V} {vs : List V} {d : PyData} {ds : List PyData} : Dq K H v d → DqAll K H vs ds → DqAll K H (v :: vs) (d :: ds)
section
variable {X : Cx} {pins : List (Addr × Obj)} {sg : L2.St} {H : Hp} {s : Shared}
theorem Dq.reads (I : Inv X pins sg H s) (hs : NoSys s.heap) {v : V} {u : Value} {p : PyData} (d : Dq X.K H v p) (r : RelV v u) : ∃ as, Reads s.heap u p as ∧ sysModules ∉ as := by
  cases d with
  | dp d =>
    obtain ⟨as, rd⟩ := Dp.reads I _ _ _ d r
    exact ⟨as, rd, reads_sys hs rd d⟩
  | dk hH hd =>
    rename_i a kvs ps
    obtain rfl := r
    obtain ⟨z, hs, vs, kv, o, es, ep, ho, hx, hdt, hko, hp, hnd⟩ := I.hok a _ hH
    have rd : Reads s.heap (.ref a) (.dict ps) (a :: [] ++ []) := Reads.dict ho hx.1 hdt (dpk_keys hp kv hd) (dpk_vals I hp kv hd)
    refine ⟨_, rd, fun hm => ?_⟩
    have : sysModules = a := by simpa using hm
    rw [← this] at hs
    simp at hs
theorem DqAll.reads (I : Inv X pins sg H s) (hs : NoSys s.heap) : ∀ {vs : List V} {us : List Value} {ps : List PyData}, DqAll X.K H vs ps → Vals vs us → ∃ as, ReadsAll s.heap us ps as ∧ sysModules ∉ as
  | _, _, _, .nil, r => by
    cases r
    exact ⟨_, .nil, by simp⟩
  | _, _, _, .cons d ds, r => by
    cases r with
    | cons r1 r2 =>
      obtain ⟨as, h1, h2⟩ := Dq.reads I hs d r1
      obtain ⟨bs, h3, h4⟩ := DqAll.reads I hs ds r2
      refine ⟨_, .cons h1 h3, fun z => ?_⟩
      rcases List.mem_append.mp z with z | z
      · exact h2 z
      · exact h4 z
def sysB (K : PySem.W.Frag) : Bool := match K.lookup sysModules with
  | some o => !decide (o.cls = .type "list")
  | none => false
theorem noSys (I : Inv X pins sg H s) (h : sysB X.K = true) : NoSys s.heap := by
  rintro a o e c rfl
  unfold sysB at h
  split at h
  · rename_i o2 e2
    have := I.kIn _ _ e2
    rw [e] at this
    cases this
    simp [c] at h
  · cases h
theorem sysB_of {K : PySem.W.Frag} (h : sysB K = true) : sysB K = true := h
def rReprL (K : PySem.W.Frag) : List V → Hp → VK → Prop := fun xs H Q => ∃ a vs ps, xs = [.ref a] ∧ SqL K H a vs ∧ DqAll K H vs ps ∧ (PyData.list ps).showable = true ∧ (PyData.list ps).depth ≤ 64 ∧ (PyData.list ps).shown.length ≤ sizeLine ∧ Q (.str (PyData.list ps).shown) H
theorem call_reprL (hk : sysB X.K = true) (hg : X.A.guards = some []) (hu : X.A.units + 70 < cLine) : CallR X (.builtin "repr") (rReprL X.K) := by
  intro pins s sg H xs us Q I rv h
  obtain ⟨a, vs, ps, rfl, hq, hd, hw, hdp, hl, q⟩ := h
  obtain ⟨u, rfl, ru⟩ : ∃ u, us = [u] ∧ RelV (.ref a) u := by
    cases rv with
    | cons r1 r2 => cases r2; exact ⟨_, rfl, r1⟩
  obtain rfl := ru
  have hs := noSys I hk
  obtain ⟨its, rv, ⟨o, n, ho, hc, _, hdt⟩, _⟩ := I.list hq
  obtain ⟨as, hr, hm⟩ := DqAll.reads I hs hd rv
  have rd : Reads s.heap (.ref a) (.list ps) (a :: as) := Reads.list ho hc hdt hr
  refine repr_of_reads' rd hw (fun _ hm2 => ?_) hg (by omega) (fun _ _ e => e) (fun h' t tk hk => ⟨.str _, H, I.kept (t' := tk) hk, ⟨t, rfl⟩, q⟩) hl
  rcases List.mem_cons.mp hm2 with z | z
  · exact hs _ _ ho hc z.symm
  · exact hm z
theorem dq_of {K : PySem.W.Frag} {io : List Addr} {h : VH} (r : RepH K io h H) {d : D} {v : V} {p : PyData} (hv : RV K io H d v) (e : toPR h d = some p) : Dq K H v p ∧ PyData.strOk p.shown = true ∧ p.depth ≤ 17 := by
  have one : toPD h 16 d = some p → Dq K H v p ∧ PyData.strOk p.shown = true ∧ p.depth ≤ 17 := fun e1 => by
    have ly := lay_of r 16 _ _ _ hv e1
    exact ⟨.dp (dp_of r 16 _ _ _ hv e1), strOk_shown p ly.1, by have := ly.2; omega⟩
  unfold toPR at e
  split at e
  · rename_i n
    split at e
    · rename_i kvs q0
      cases q2 : kvPD h kvs with
      | none => rw [q2] at e; cases e
      | some ps =>
        rw [q2] at e
        cases e
        cases hv with
        | loc ha =>
          obtain ⟨ho, e3, xs, rfl, e4⟩ := r.ob _ _ _ q0 ha
          obtain ⟨i1, i2, i3⟩ := kvPD_of r e4 q2
          refine ⟨.dk e3 i1, ?_, by simp only [PyData.depth]; omega⟩
          simp only [PyData.shown]
          exact strOk_append (strOk_append (strOk_ofString _) (strOk_join _ (strOk_ofString _) _ i3)) (strOk_ofString _)
    · exact one e
  · exact one e
theorem dqAll_of {K : PySem.W.Frag} {io : List Addr} {h : VH} (r : RepH K io h H) : ∀ {ds : List D} {vs : List V} {ps : List PyData}, RVs K io H ds vs → omap (toPR h) ds = some ps → DqAll K H vs ps ∧ (∀ t ∈ PyData.shownAll ps, PyData.strOk t = true) ∧ PyData.depthAll ps ≤ 17
  | [], _, _, hv, e => by
    cases hv
    cases e
    exact ⟨.nil, fun t ht => by simp [PyData.shownAll] at ht, by simp [PyData.depthAll]⟩
  | d :: ds, _, _, hv, e => by
    cases hv with
    | cons h1 h2 =>
      obtain ⟨y, ys, e1, e2, rfl⟩ := omap_cons e
      obtain ⟨i1, i2, i3⟩ := dqAll_of r h2 e2
      obtain ⟨j1, j2, j3⟩ := dq_of r h1 e1
      refine ⟨.cons j1 i1, fun t ht => ?_, by simp only [PyData.depthAll]; omega⟩
      simp only [PyData.shownAll, List.mem_cons] at ht
      rcases ht with rfl | ht
      · exact j2
      · exact i2 t ht
def reprLF : Fn
  | [.lst ds], h => match omap (toPR h) ds with
    | some ps => if (PyData.list ps).showable = true ∧ (PyData.list ps).shown.length ≤ sizeLine then some (.str (PyData.list ps).shown, h) else none
    | none => none
  | _, _ => none
theorem m_reprL (hk : sysB X.K = true) (hg : X.A.guards = some []) (hu : X.A.units + 70 < cLine) : CallM X (.builtin "repr") reprLF := ⟨_, call_reprL hk hg hu, fun io h H ds vs Q d h' r hv e p => by
  unfold reprLF at e
  split at e
  · rename_i xs
    obtain ⟨v, rfl, v1⟩ := hv.one
    split at e
    · rename_i ps e1
      split at e
      · rename_i hh
        cases e
        cases v1 with
        | lst h1 h3 =>
          obtain ⟨i1, i2, i3⟩ := dqAll_of r h3 e1
          refine ⟨_, _, ps, rfl, .inl (.inr ⟨_, h1⟩), i1, hh.1, by simp only [PyData.depth]; omega, hh.2, p.here r (.str _ ⟨?_, hh.2⟩)⟩
          simp only [PyData.shown]
          exact strOk_append (strOk_textFrom _ _ _ (strOk_ofString _) i2) (strOk_ofString _)
      · cases e
    · cases e
  · cases e⟩
end
end Mv

/-! list(d.values()), in two steps: a view is made (a method's rule), a list is made of a view (a call's rule) -/
namespace Vw
open PySem L2
/-- the view of a dict's values, as a thing of its own in the heap -/
def vwO (v d : Addr) : HO := .ext fun h => h.IsValuesView v d
section
variable {X : Cx}
def rVals : V → List V → Hp → VK → Prop := fun x xs H Q => xs = [] ∧ ∃ d kvs, x = .ref d ∧ H d = some (.dK kvs) ∧ ∀ v, H v = none → Q (.ref v) (upd H v (vwO v d))
theorem mt_vals : MtR X "dict.values" rVals := fun pins s sg H x xs xv us Q I rx rxs ⟨e0, d, kvs, e1, hd, q⟩ => by
  subst e0 e1
  cases rx; cases rxs
  have ob := I.hok d _ hd
  obtain ⟨-, nsys, ws, -, dd⟩ := ob
  have at1 : (s.heap.push { cls := .type "dict_values", data := .fields #[.ref d] }).get? s.heap.objs.size = some { cls := .type "dict_values", data := .fields #[.ref d] } := Heap.get?_push_size _ rfl
  have lay := I.laid (a := s.heap.objs.size) (o := vwO s.heap.objs.size d) (t' := s.toks) (h' := s.heap.push { cls := .type "dict_values", data := .fields #[.ref d] }) (fun _ _ y => Heap.get?_push_of_some _ y) (Nat.le_refl _)
    ⟨⟨_, at1, rfl, rfl⟩, ⟨_, at1⟩, fun _ _ ⟨o, y1, y2⟩ up => ⟨o, up o y1, y2⟩⟩
  exact call_meetsIn PySem.F.slot_dict_values dd.typeIs PySem.F.entry_dict_values (PySem.F.args_dict_values_1 _) (PySem.meets_dict_values (mixKind X.prog X.w) d nsys)
    ⟨⟨ws, dd⟩, .ref _, _, lay, rfl, q _ (I.hok.fresh (Nat.le_refl _))⟩
/-- worth by worth, the list is what the dict has -/
theorem vals_of {kvs : List (Key × V)} {ws : List (Key × Value)} (kv : KV kvs ws) : ∀ us : List Value, us.length = ws.length → (∀ (j : Nat) (u : Value), us[j]? = some u → ∃ k, ws[j]? = some (k, u)) → Vals (kvs.map Prod.snd) us := by
  induction kv with
  | nil =>
    intro us hl _
    have : us = [] := List.length_eq_zero_iff.mp hl
    subst this
    exact .nil
  | cons hp _ ih =>
    intro us hl hj
    cases us with
    | nil => cases hl
    | cons u us =>
      obtain ⟨k, ek⟩ := hj 0 u rfl
      have ek := Option.some.inj ek
      have r := hp.2
      rw [ek] at r
      exact .cons r (ih us (Nat.succ.inj hl) fun j y e => hj (j + 1) y e)
def rListV : List V → Hp → VK → Prop := fun xs H Q => ∃ v d kvs, xs = [.ref v] ∧ H v = some (vwO v d) ∧ H d = some (.dK kvs) ∧ ∀ l, H l = none → Q (.ref l) (upd H l (.lst (kvs.map Prod.snd)))
theorem cr_listV (calm : X.calm = true) : CallR X (.type "list") rListV := fun pins s sg H xs us Q I rxs ⟨v, d, kvs, e1, hv, hd, q⟩ => by
  subst e1
  cases rxs with
  | cons r1 r2 =>
    cases r2; cases r1
    obtain ⟨len, -, ws, kv, dd⟩ := I.hok d _ hd
    obtain ⟨view, -⟩ := I.hok v _ hv
    have lw : kvs.length = ws.length := Paired.length kv
    obtain ⟨ep, da⟩ := dd.dictAt
    refine PySem.W.kdl_call (PySem.W.kdl_values (knd := mixKind X.prog X.w) (r := v) (d := d) (kvs := ws) (ep := ep)) (I.ok.hd calm) ⟨view, da⟩ (lw ▸ len) fun h' tk acc c' keep new its => ?_
    have vs : Vals (kvs.map Prod.snd) acc.toList := vals_of kv _ (by simpa using its.1) fun j u e => its.2 j u (by simpa using e)
    have lay := I.laid (a := s.heap.objs.size) (o := .lst (kvs.map Prod.snd)) (t' := tk) keep (Nat.le_refl _) ⟨by simpa using len, acc.toList, c', vs, by simpa using new⟩
    exact ⟨.ref _, _, lay, rfl, q _ (I.hok.fresh (Nat.le_refl _))⟩
end
end Vw
namespace Mv
open PySem L2
section
variable {X : Cx} {W : WX}
def dkv : D → VH → Option (List D)
  | .loc n, h => match h[n]? with
    | some (.dK kvs) => some (kvs.map fun kv => kv.2)
    | _ => none
  | _, _ => none
def lVals (A : Ex) : Ar := fun rho h => (A rho h).bind fun x h1 => match dkv x h1 with
  | some ys => .ok ys h1
  | none => .bad
theorem rk_vals {K : PySem.W.Frag} {io : List Addr} {H : Hp} {κ : Type} {ok : κ → Prop} {ds : List (κ × D)} {vs : List (κ × V)} (h : RK K io H ok ds vs) : RVs K io H (ds.map fun kv => kv.2) (vs.map fun kv => kv.2) := by
  induction h with
  | nil => exact .nil
  | cons h0 h1 _ ih => exact .cons h1 ih
theorem sl_listVals {e : Expr} {A : Ex} {p apos cpos pos : Pos} (hc : X.calm = true) (ha : SE X W e A) (hg : Gl X "list") (hm : X.mg "list" = none) (hv : bootBuiltins "list" = some (.type "list")) (hbase : attributeBase e "values" X.env (eval e X.env) = eval e X.env := by rfl) (hline : (apos.endLine == cpos.line) = true := by rfl)
    (hs : starEach [.Call (.Attribute e "values" apos) [] [] cpos] X.env = (false, eval (.Call (.Attribute e "values" apos) [] [] cpos) X.env) :: starEach [] X.env := by rfl) :
    SL X W (.Call (.Name "list" p) [.Call (.Attribute e "values" apos) [] [] cpos] [] pos) (lVals A) := by
  have view := pe_bm0 PySem.F.plainAttrs_dict PySem.F.slot_dict_values PySem.F.type_dict_values Vw.mt_vals ha hbase hline
  refine pe_imp (pe_callTy (Vw.cr_listV hc) hg hm hv (pa_cons view pa_nil hs) (by decide) (by decide) hs rfl) fun sg H Q ⟨io, h, rho, hR, hE, hA⟩ => ?_
  refine ⟨io, h, rho, hR, hE, (Aft.bind hA).mono (fun x h1 hx io1 H1 v e1 R1 v1 => ?_) fun _ _ z => z⟩
  cases x with
  | loc n =>
    cases q : h1[n]? with
    | none =>
      have : dkv (.loc n) h1 = none := by simp [dkv, q]
      rw [this] at hx
      exact hx.elim
    | some o =>
      cases o with
      | dK kvs =>
        have : dkv (.loc n) h1 = some (kvs.map fun kv => kv.2) := by simp [dkv, q]
        rw [this] at hx
        cases v1 with
        | loc ha =>
          rename_i d
          obtain ⟨ho, e3, xs, rfl, e4⟩ := R1.ob _ _ _ q ha
          refine ⟨.inr (.inr (.inl ⟨rfl, .inl ⟨xs, e3⟩⟩)), rfl, d, xs, rfl, e3, fun p hp => ?_⟩
          have hne : d ≠ p := fun z => by rw [z, hp] at e3; cases e3
          have E := ext_out (o := Vw.vwO p d) R1 hp
          exact ⟨p, d, xs, rfl, upd_same, by rw [upd_ne hne]; exact e3, fun l hl => hx io1 _ l _ (e1.trans E) (R1.out hp) hl (RVs.mono E.toExt0 _ _ (rk_vals e4))⟩
      | _ =>
        have : dkv (.loc n) h1 = none := by simp [dkv, q]
        rw [this] at hx
        exact hx.elim
  | _ => exact hx.elim
end
end Mv

namespace Mv
open PySem L2
/-! ### list(a text) -/
section
variable {X : Cx} {W : WX}
def sgV (x : Str) : List V := x.cps.toList.map fun c => V.str (chr1 c)
def rListSt : List V → Hp → VK → Prop := fun xs H Q => ∃ x : Str, xs = [.str x] ∧ x.cps.size ≤ sizeLine ∧ ∀ l, H l = none → Q (.ref l) (upd H l (.lst (sgV x)))
theorem sg_vals : ∀ (cs : List Nat) (us : List Value), us.length = cs.length → (∀ (j : Nat) (u : Value), us[j]? = some u → ∃ c t, cs[j]? = some c ∧ u = .str (chr1 c) t) → Vals (cs.map fun c => V.str (chr1 c)) us
  | [], [], _, _ => .nil
  | [], _ :: _, h, _ => by cases h
  | _ :: _, [], h, _ => by cases h
  | c :: cs, u :: us, hl, hj => by
    obtain ⟨c', t, e1, e2⟩ := hj 0 u rfl
    cases e1
    exact .cons ⟨t, e2⟩ (sg_vals cs us (Nat.succ.inj hl) fun j y e => hj (j + 1) y e)
theorem cr_listSt (calm : X.calm = true) : CallR X (.type "list") rListSt := fun pins s sg H xs us Q I rxs ⟨x, e1, len, q⟩ => by
  subst e1
  cases rxs with
  | cons r1 r2 =>
    cases r2
    obtain ⟨t, rfl⟩ := r1
    refine PySem.call_list_str (I.ok.hd calm) x t (fun h' tk acc c' keep new its => ?_) len
    have vs : Vals (sgV x) acc.toList := sg_vals _ _ (by simpa using its.1) fun j u e => by
      obtain ⟨c, u', e1, e2⟩ := its.2 j u (by simpa using e)
      exact ⟨c, u', by simpa using e1, e2⟩
    have lay := I.laid (a := s.heap.objs.size) (o := .lst (sgV x)) (t' := tk) keep (Nat.le_refl _) ⟨by simpa [sgV] using len, acc.toList, c', vs, by simpa using new⟩
    exact ⟨.ref _, _, lay, rfl, q _ (I.hok.fresh (Nat.le_refl _))⟩
def listSF : FL := fun ds h => match ds with
  | [.str s] => if s.cps.size ≤ sizeLine then some (s.cps.toList.map fun c => .str (chr1 c)) else none
  | _ => none
theorem m_listS (calm : X.calm = true) : ∃ r, CallR X (.type "list") r ∧ LsS X.K listSF r := ⟨_, cr_listSt calm, fun io h H ds vs Q xs r hv e p => by
  unfold listSF at e
  split at e
  · rename_i s
    split at e
    · rename_i hl
      cases e
      obtain ⟨v, rfl, v1⟩ := hv.one
      cases v1 with
      | str _ hs =>
        refine ⟨s, rfl, hl, fun l h0 => p io H l _ (Ext.refl _ _) r h0 ?_⟩
        have all : ∀ cs : List Nat, (∀ c ∈ cs, c ∈ s.cps.toList) → RVs X.K io H (cs.map fun c => D.str (chr1 c)) (cs.map fun c => V.str (chr1 c)) := fun cs => by
          induction cs with
          | nil => exact fun _ => .nil
          | cons c cs ih => exact fun hc => .cons (.str _ (sok_chr hs (hc c List.mem_cons_self))) (ih fun y hy => hc y (List.mem_cons_of_mem _ hy))
        exact all _ fun _ z => z
    · cases e
  · cases e⟩
end
end Mv

namespace Mv
open PySem L2
/-! ### range with a step -/
section
variable {K : PySem.W.Frag} {io : List Addr} {H : Hp}
theorem it_rngC (lo c : Int) (n : Nat) : ItOk K (Itc lo c n) ((List.range n).map fun i => .int (lo + (i : Nat) * c)) [] io H where
  go := fun i d io1 h1 H1 e R _ hd => by
    obtain ⟨j, hj, rfl⟩ : ∃ j, (List.range n)[i]? = some j ∧ D.int (lo + (j : Nat) * c) = d := by simpa using hd
    obtain ⟨hi, rfl⟩ : i < n ∧ i = j := by
      have := List.getElem?_eq_some_iff.mp hj
      simpa using this
    exact ⟨hi, fun y H' hy => by obtain ⟨rfl, rfl⟩ := hy; exact ⟨Ext.refl _ _, R, .int _⟩⟩
  stop := fun i io1 h1 H1 e R _ hd => show n ≤ i by simpa using hd
end
/-- how many turns -/
def rgN (i j c : Int) : Nat := (Builtin.Range.rangeSize i j c).toNat
def rgOk (i j c : Int) : Bool := decide (c ≠ 0) && decide (c.natAbs < 1073741824) && Builtin.Range.small i j c && decide (Builtin.Range.rangeSize i j c = (rgN i j c : Int))
def rng3 : List D → VH → R (List D × Ck)
  | [.int i, .int j, .int c], h => if rgOk i j c = true then .ok ((List.range (rgN i j c)).map fun k => .int (i + (k : Nat) * c), []) h else .bad
  | _, _ => .bad
def iRng3 (B : Ar) : Im := fun rho h => (B rho h).bind rng3
section
variable {X : Cx} {W : WX}
theorem RVs.three {K : PySem.W.Frag} {io : List Addr} {H : Hp} {a b c : D} {vs : List V} (h : RVs K io H [a, b, c] vs) : ∃ x y z, vs = [x, y, z] ∧ RV K io H a x ∧ RV K io H b y ∧ RV K io H c z := by
  cases h with
  | cons h1 h2 => cases h2 with
    | cons h3 h4 => cases h4 with
      | cons h5 h6 => cases h6; exact ⟨_, _, _, rfl, h1, h3, h5⟩
theorem si_range3 {tg a b c : Expr} {B : Ar} {p pos : Pos} (hg : Gl X "range") (hm : X.mg "range" = none) (ha : SA X W [a, b, c] B) (hs : starEach [a, b, c] X.env = (false, eval a X.env) :: starEach [b, c] X.env := by rfl) (hpl : (backTo pos (starEach [b, c] X.env)).any (·.1) = false := by rfl) : SI X W tg (.Call (.Name "range" p) [a, b, c] [] pos) (iRng3 B) := by
  refine ⟨fun pins s sg H R I ⟨io, h, rho, hR, hE, hA⟩ => ?_⟩
  refine (pi_range3 (tg := tg) hg hm ha hs hpl).run pins s sg H R I ?_
  refine ⟨io, h, rho, hR, hE, (Aft.bind hA).mono (fun ds h1 hx io1 H1 vs e1 R1 v1 => ?_) fun _ _ z => z⟩
  unfold rng3 at hx
  split at hx
  · obtain ⟨x, y, z, rfl, v2, v3, v4⟩ := v1.three
    cases v2; cases v3; cases v4
    split at hx
    · rename_i i j c hj
      unfold rgOk at hj
      simp only [Bool.and_eq_true, decide_eq_true_eq] at hj
      exact ⟨i, j, c, rgN i j c, rfl, ⟨hj.1.1.1, hj.1.1.2, hj.1.2, hj.2⟩, hx io1 H1 _ e1 R1 (it_rngC i c _)⟩
    · exact hx.elim
  · exact hx.elim
end
end Mv

namespace Mv
open PySem L2
theorem nr {α : Sort _} {a b : α} (h : a = b) : a = b := h
section
variable {α β : Type} {P : α → VH → Prop} {Z : Xc → VH → Prop} {rho : Env} {h : VH}
@[simp ↓] theorem aft_ok {a : α} : Aft (.ok a h) P Z = P a h := nr rfl
@[simp ↓] theorem aft_exc {x : Xc} : Aft (.exc x h : R α) P Z = Z x h := nr rfl
@[simp ↓] theorem aft_bad : Aft (.bad : R α) P Z = False := nr rfl
@[simp ↓] theorem aft_bind {r : R β} {f : β → VH → R α} : Aft (r.bind f) P Z = Aft r (fun a k => Aft (f a k) P Z) Z := by cases r <;> rfl
@[simp ↓] theorem aft_ups {a : α} : Aft (up (some (a, h))) P Z = P a h := nr rfl
@[simp ↓] theorem aft_upn : Aft (up (none : Option (α × VH))) P Z = False := nr rfl
@[simp ↓] theorem aft_ite {c : Prop} [Decidable c] {a b : R α} : Aft (if c then a else b) P Z = if c then Aft a P Z else Aft b P Z := by split <;> rfl
end
section
variable {P : D → VH → Prop} {PB : Bool → VH → Prop} {PL : List D → VH → Prop} {Z : Xc → VH → Prop} {rho : Env} {h : VH}
@[simp ↓] theorem aft_v0 {d : D} : Aft (eV 0 (some d :: rho) h) P Z = P d h := nr rfl
@[simp ↓] theorem aft_v1 {o : Option D} {d : D} : Aft (eV 1 (o :: some d :: rho) h) P Z = P d h := nr rfl
@[simp ↓] theorem aft_v2 {o o1 : Option D} {d : D} : Aft (eV 2 (o :: o1 :: some d :: rho) h) P Z = P d h := nr rfl
@[simp ↓] theorem aft_v3 {o o1 o2 : Option D} {d : D} : Aft (eV 3 (o :: o1 :: o2 :: some d :: rho) h) P Z = P d h := nr rfl
@[simp ↓] theorem aft_v4 {o o1 o2 o3 : Option D} {d : D} : Aft (eV 4 (o :: o1 :: o2 :: o3 :: some d :: rho) h) P Z = P d h := nr rfl
@[simp ↓] theorem aft_v5 {o o1 o2 o3 o4 : Option D} {d : D} : Aft (eV 5 (o :: o1 :: o2 :: o3 :: o4 :: some d :: rho) h) P Z = P d h := nr rfl
@[simp ↓] theorem aft_v6 {o o1 o2 o3 o4 o5 : Option D} {d : D} : Aft (eV 6 (o :: o1 :: o2 :: o3 :: o4 :: o5 :: some d :: rho) h) P Z = P d h := nr rfl
@[simp ↓] theorem aft_v7 {o o1 o2 o3 o4 o5 o6 : Option D} {d : D} : Aft (eV 7 (o :: o1 :: o2 :: o3 :: o4 :: o5 :: o6 :: some d :: rho) h) P Z = P d h := nr rfl
@[simp ↓] theorem aft_v8 {o o1 o2 o3 o4 o5 o6 o7 : Option D} {d : D} : Aft (eV 8 (o :: o1 :: o2 :: o3 :: o4 :: o5 :: o6 :: o7 :: some d :: rho) h) P Z = P d h := nr rfl
@[simp ↓] theorem aft_v9 {o o1 o2 o3 o4 o5 o6 o7 o8 : Option D} {d : D} : Aft (eV 9 (o :: o1 :: o2 :: o3 :: o4 :: o5 :: o6 :: o7 :: o8 :: some d :: rho) h) P Z = P d h := nr rfl
@[simp ↓] theorem aft_v10 {o o1 o2 o3 o4 o5 o6 o7 o8 o9 : Option D} {d : D} : Aft (eV 10 (o :: o1 :: o2 :: o3 :: o4 :: o5 :: o6 :: o7 :: o8 :: o9 :: some d :: rho) h) P Z = P d h := nr rfl
@[simp ↓] theorem aft_v11 {o o1 o2 o3 o4 o5 o6 o7 o8 o9 o10 : Option D} {d : D} : Aft (eV 11 (o :: o1 :: o2 :: o3 :: o4 :: o5 :: o6 :: o7 :: o8 :: o9 :: o10 :: some d :: rho) h) P Z = P d h := nr rfl
@[simp ↓] theorem aft_v12 {o o1 o2 o3 o4 o5 o6 o7 o8 o9 o10 o11 : Option D} {d : D} : Aft (eV 12 (o :: o1 :: o2 :: o3 :: o4 :: o5 :: o6 :: o7 :: o8 :: o9 :: o10 :: o11 :: some d :: rho) h) P Z = P d h := nr rfl
@[simp ↓] theorem aft_v13 {o o1 o2 o3 o4 o5 o6 o7 o8 o9 o10 o11 o12 : Option D} {d : D} : Aft (eV 13 (o :: o1 :: o2 :: o3 :: o4 :: o5 :: o6 :: o7 :: o8 :: o9 :: o10 :: o11 :: o12 :: some d :: rho) h) P Z = P d h := nr rfl
@[simp ↓] theorem aft_c {d : D} : Aft (eC d rho h) P Z = P d h := nr rfl
@[simp ↓] theorem aft_op {f : F2} {a b : Ex} : Aft (eOp f a b rho h) P Z = Aft (a rho h) (fun x h1 => Aft (b rho h1) (fun y h2 => Aft (up (f x y h2)) P Z) Z) Z := by
  unfold eOp; simp only [aft_bind]
@[simp ↓] theorem aft_un {f : F1} {a : Ex} : Aft (eUn f a rho h) P Z = Aft (a rho h) (fun x h1 => Aft (up (f x h1)) P Z) Z := by
  unfold eUn; simp only [aft_bind]
@[simp ↓] theorem aft_aNil : Aft (aNil rho h) PL Z = PL [] h := nr rfl
@[simp ↓] theorem aft_aCons {a : Ex} {r : Ar} : Aft (aCons a r rho h) PL Z = Aft (a rho h) (fun x h1 => Aft (r rho h1) (fun xs h2 => PL (x :: xs) h2) Z) Z := by
  unfold aCons; simp only [aft_bind, aft_ok]
@[simp ↓] theorem aft_call {f : Fn} {a : Ar} : Aft (eCall f a rho h) P Z = Aft (a rho h) (fun xs h1 => Aft (up (f xs h1)) P Z) Z := by
  unfold eCall; simp only [aft_bind]
@[simp ↓] theorem aft_eL {m : Ar} : Aft (eL m rho h) P Z = Aft (m rho h) (fun ds h1 => P (.lst ds) h1) Z := by
  unfold eL; simp only [aft_bind, aft_ok]
@[simp ↓] theorem aft_eBox {m : Ar} : Aft (eBox m rho h) P Z = Aft (m rho h) (fun ds h1 => P (.loc h1.length) (h1 ++ [.lst ds])) Z := by
  unfold eBox; simp only [aft_bind, aft_ok]
@[simp ↓] theorem aft_disp {m : Ar} : Aft (lDisp m rho h) PL Z = Aft (m rho h) (fun ds h1 => ds.length ≤ sizeLine ∧ PL ds h1) Z := by
  unfold lDisp; simp only [aft_bind, aft_ite, aft_ok, aft_bad]
  congr; funext ds h1
  by_cases q : ds.length ≤ sizeLine <;> simp [q]
@[simp ↓] theorem aft_tup {m : Ar} : Aft (eTup m rho h) P Z = Aft (m rho h) (fun ds h1 => ds.length ≤ sizeLine ∧ P (.tup ds) h1) Z := by
  unfold eTup; simp only [aft_bind, aft_ite, aft_ok, aft_bad]
  congr; funext ds h1
  by_cases q : ds.length ≤ sizeLine <;> simp [q]
@[simp ↓] theorem aft_fn {n : Nat} {m : Fd} {a : Ar} : Aft (eFn n m a rho h) P Z = Aft (a rho h) (fun ds h1 => ds.length = n ∧ Aft (m ds h1) P Z) Z := by
  unfold eFn; simp only [aft_bind, aft_ite, aft_bad]
  congr; funext ds h1
  by_cases q : ds.length = n <;> simp [q]
@[simp ↓] theorem aft_tVal {a : Ex} : Aft (tVal a rho h) PB Z = Aft (a rho h) (fun d h1 => ∃ b, d = .bl b ∧ PB b h1) Z := by
  unfold tVal; simp only [aft_bind]
  congr; funext d h1
  cases d <;> simp [aft_ok, aft_bad]
@[simp ↓] theorem aft_tNt {a : Ts} : Aft (tNt a rho h) PB Z = Aft (a rho h) (fun b h1 => PB (!b) h1) Z := by
  unfold tNt; simp only [aft_bind, aft_ok]
@[simp ↓] theorem aft_tAn {a b : Ts} : Aft (tAn a b rho h) PB Z = Aft (a rho h) (fun x h1 => if x = true then Aft (b rho h1) PB Z else PB false h1) Z := by
  unfold tAn; simp only [aft_bind, aft_ite, aft_ok]
@[simp ↓] theorem aft_tOrr {a b : Ts} : Aft (tOrr a b rho h) PB Z = Aft (a rho h) (fun x h1 => if x = true then PB true h1 else Aft (b rho h1) PB Z) Z := by
  unfold tOrr; simp only [aft_bind, aft_ite, aft_ok]
@[simp ↓] theorem aft_eAnd {a b : Ex} : Aft (eAnd a b rho h) P Z = Aft (a rho h) (fun x h1 => ∃ k, x = .bl k ∧ if k = true then Aft (b rho h1) P Z else P (.bl false) h1) Z := by
  unfold eAnd; simp only [aft_bind]
  congr; funext d h1
  cases d with
  | bl k => cases k <;> simp [aft_ok, aft_bad]
  | _ => simp [aft_ok, aft_bad]
@[simp ↓] theorem aft_eOr {a b : Ex} : Aft (eOr a b rho h) P Z = Aft (a rho h) (fun x h1 => ∃ k, x = .bl k ∧ if k = true then P (.bl true) h1 else Aft (b rho h1) P Z) Z := by
  unfold eOr; simp only [aft_bind]
  congr; funext d h1
  cases d with
  | bl k => cases k <;> simp [aft_ok, aft_bad]
  | _ => simp [aft_ok, aft_bad]
@[simp ↓] theorem aft_eNot {a : Ex} : Aft (eNot a rho h) P Z = Aft (a rho h) (fun x h1 => ∃ k, x = .bl k ∧ P (.bl (!k)) h1) Z := by
  unfold eNot; simp only [aft_bind]
  congr; funext d h1
  cases d <;> simp [aft_ok, aft_bad]
@[simp ↓] theorem aft_eIf {t : Ts} {a b : Ex} : Aft (eIf t a b rho h) P Z = Aft (t rho h) (fun x h1 => if x = true then Aft (a rho h1) P Z else Aft (b rho h1) P Z) Z := by
  unfold eIf; simp only [aft_bind, aft_ite]
@[simp ↓] theorem aft_chain {f g : F2} {a b c : Ex} : Aft (eChain f g a b c rho h) P Z = Aft (a rho h) (fun x h1 => Aft (b rho h1) (fun y h2 => Aft (up (f x y h2)) (fun z h3 => ∃ k, z = .bl k ∧ if k = true then Aft (c rho h3) (fun w h4 => Aft (up (g y w h4)) P Z) Z else P (.bl false) h3) Z) Z) Z := by
  unfold eChain; simp only [aft_bind]
  congr; funext x h1; congr; funext y h2; congr; funext z h3
  cases z with
  | bl k => cases k <;> simp [aft_ok, aft_bad]
  | _ => simp [aft_ok, aft_bad]
@[simp ↓] theorem aft_sl {a : Ex} {lo hi : Om} : Aft (eSl a lo hi rho h) P Z = Aft (a rho h) (fun x h1 => Aft (lo rho h1) (fun l h2 => Aft (hi rho h2) (fun u h3 => Aft (up (sliceF x l u h3)) P Z) Z) Z) Z := by
  unfold eSl; simp only [aft_bind]
@[simp ↓] theorem aft_oNo {PO : Option Int → VH → Prop} : Aft (oNo rho h) PO Z = PO none h := nr rfl
@[simp ↓] theorem aft_oSm {a : Ex} {PO : Option Int → VH → Prop} : Aft (oSm a rho h) PO Z = Aft (a rho h) (fun d h1 => ∃ i, d = .int i ∧ PO (some i) h1) Z := by
  unfold oSm; simp only [aft_bind]
  congr; funext d h1
  cases d <;> simp [aft_ok, aft_bad]
@[simp ↓] theorem aft_lAdd {a b : Ex} : Aft (lAdd a b rho h) PL Z = Aft (a rho h) (fun x h1 => Aft (b rho h1) (fun y h2 => ∃ xs ys, listM x h2 = some xs ∧ listM y h2 = some ys ∧ xs.length + ys.length ≤ sizeLine ∧ PL (xs ++ ys) h2) Z) Z := by
  unfold lAdd; simp only [aft_bind]
  congr; funext x h1; congr; funext y h2
  cases q1 : listM x h2 with
  | none => simp
  | some xs =>
    cases q2 : listM y h2 with
    | none => simp
    | some ys =>
      by_cases q : xs.length + ys.length ≤ sizeLine <;> simp [q]
@[simp ↓] theorem aft_lCall {f : FL} {a : Ar} : Aft (lCall f a rho h) PL Z = Aft (a rho h) (fun xs h1 => ∃ ys, f xs h1 = some ys ∧ PL ys h1) Z := by
  unfold lCall; simp only [aft_bind]
  congr; funext x h1
  cases q1 : f x h1 <;> simp
@[simp ↓] theorem aft_eBM {ok : D → VH → Bool} {f : Fm} {o : Ex} {a : Ar} : Aft (eBM ok f o a rho h) P Z = Aft (o rho h) (fun x h1 => ok x h1 = true ∧ Aft (a rho h1) (fun ds h2 => Aft (up (f x ds h2)) P Z) Z) Z := by
  unfold eBM; simp only [aft_bind, aft_ite, aft_bad]
  congr; funext x h1
  by_cases q : ok x h1 = true <;> simp [q]
@[simp ↓] theorem aft_dn : Aft (eDn rho h) P Z = P (.loc h.length) (h ++ [.dK []]) := nr rfl
@[simp ↓] theorem aft_dnT : Aft (eDnT rho h) P Z = P (.loc h.length) (h ++ [.dT []]) := nr rfl
@[simp ↓] theorem aft_iSeq {a : Ex} {PI : List D × Ck → VH → Prop} : Aft (iSeq a rho h) PI Z = Aft (a rho h) (fun d h1 => ∃ p, itD d h1 = some p ∧ PI p h1) Z := by
  unfold iSeq; simp only [aft_bind]
  congr; funext d h1
  cases q1 : itD d h1 <;> simp
@[simp ↓] theorem aft_iRng1 {a : Ar} {PI : List D × Ck → VH → Prop} : Aft (iRng1 a rho h) PI Z = Aft (a rho h) (fun ds h1 => ∃ j, ds = [.int j] ∧ (-(2 ^ 62) ≤ j ∧ j < 2 ^ 62) ∧ PI ((List.range j.toNat).map fun i => .int (0 + (i : Nat)), []) h1) Z := by
  unfold iRng1; simp only [aft_bind]
  congr; funext d h1
  split
  · rename_i j
    by_cases q : -(2 ^ 62) ≤ j ∧ j < 2 ^ 62
    · rw [if_pos q]; exact propext ⟨fun p => ⟨j, rfl, q, p⟩, fun ⟨j', e, _, p⟩ => by cases e; exact p⟩
    · rw [if_neg q]; exact propext ⟨fun p => p.elim, fun ⟨j', e, q', _⟩ => by cases e; exact q q'⟩
  · rename_i hn
    simp only [aft_bad, eq_iff_iff, false_iff]
    rintro ⟨j, rfl, _⟩
    exact hn j rfl
@[simp ↓] theorem aft_lc {im : Im} {t : Tg} {tt : Ts} {el : Ex} {ws : List Nat} : Aft (eLc im t tt el ws rho h) P Z = Aft (im rho h) (fun p h1 => p.1.length ≤ sizeLine ∧ Aft (lcL t tt el p.2 p.1 p.1 (wipeE rho ws) h1) (fun ys h2 => P (.lst ys) h2) Z) Z := by
  unfold eLc; simp only [aft_bind, aft_ite, aft_bad, aft_ok]
  congr; funext p h1
  by_cases q : p.1.length ≤ sizeLine <;> simp [q]
end
section
variable {P : Env → Fl → VH → Prop} {Z : Xc → Env → VH → Prop} {rho : Env} {h : VH}
@[simp ↓] theorem afs_go {f : Fl} : AftS (.go rho f h) P Z = P rho f h := nr rfl
@[simp ↓] theorem afs_exc {x : Xc} : AftS (.exc x rho h) P Z = Z x rho h := nr rfl
@[simp ↓] theorem afs_bad : AftS .bad P Z = False := nr rfl
@[simp ↓] theorem afs_ite {c : Prop} [Decidable c] {a b : RS} : AftS (if c then a else b) P Z = if c then AftS a P Z else AftS b P Z := by split <;> rfl
@[simp ↓] theorem afs_toS {α : Type} {r : R α} {f : α → VH → RS} : AftS (r.toS rho f) P Z = Aft r (fun a k => AftS (f a k) P Z) (fun x k => Z x rho k) := by cases r <;> rfl
/-- what follows a statement -/
def nxt (b : Sm) (P : Env → Fl → VH → Prop) (Z : Xc → Env → VH → Prop) : Env → Fl → VH → Prop := fun rho f h => match f with
  | .nx => AftS (b rho h) P Z
  | f => P rho f h
theorem nxt_nx {b : Sm} : nxt b P Z rho .nx h = AftS (b rho h) P Z := rfl
theorem nxt_brk {b : Sm} : nxt b P Z rho .brk h = P rho .brk h := rfl
theorem nxt_cnt {b : Sm} : nxt b P Z rho .cnt h = P rho .cnt h := rfl
theorem nxt_ret {b : Sm} {d : D} : nxt b P Z rho (.ret d) h = P rho (.ret d) h := rfl
@[simp ↓] theorem afs_seq {a b : Sm} : AftS (sSeq a b rho h) P Z = AftS (a rho h) (nxt b P Z) Z := by
  unfold sSeq
  cases a rho h with
  | go r f k => cases f <;> rfl
  | exc => rfl
  | bad => rfl
@[simp ↓] theorem afs_skip : AftS (sSkip rho h) P Z = P rho .nx h := nr rfl
@[simp ↓] theorem afs_brk : AftS (sBrk rho h) P Z = P rho .brk h := nr rfl
@[simp ↓] theorem afs_cnt : AftS (sCnt rho h) P Z = P rho .cnt h := nr rfl
@[simp ↓] theorem afs_drop {a : Ex} : AftS (sDrop a rho h) P Z = Aft (a rho h) (fun _ h1 => P rho .nx h1) (fun x k => Z x rho k) := by
  unfold sDrop; rw [afs_toS]; try rfl
@[simp ↓] theorem afs_ret {a : Ex} : AftS (sRet a rho h) P Z = Aft (a rho h) (fun d h1 => P rho (.ret d) h1) (fun x k => Z x rho k) := by
  unfold sRet; rw [afs_toS]; try rfl
@[simp ↓] theorem afs_retN : AftS (sRetN rho h) P Z = P rho (.ret .non) h := nr rfl
@[simp ↓] theorem afs_if {t : Ts} {a b : Sm} : AftS (sIf t a b rho h) P Z = Aft (t rho h) (fun x h1 => if x = true then AftS (a rho h1) P Z else AftS (b rho h1) P Z) (fun x k => Z x rho k) := by
  unfold sIf; rw [afs_toS]; simp only [afs_ite]
@[simp ↓] theorem afs_asgn {i : Nat} {a : Ex} : AftS (sAsg (.nm i) a rho h) P Z = Aft (a rho h) (fun d h1 => P (rho.set i (some d)) .nx h1) (fun x k => Z x rho k) := by
  unfold sAsg; rw [afs_toS]; try rfl
@[simp ↓] theorem afs_asgt {is : List Nat} {a : Ex} : AftS (sAsg (.tp is) a rho h) P Z = Aft (a rho h) (fun d h1 => ∃ ds r1, d = .tup ds ∧ putAll is ds rho = some r1 ∧ P r1 .nx h1) (fun x k => Z x rho k) := by
  unfold sAsg; rw [afs_toS]
  congr; funext d h1
  cases d with
  | tup ds =>
    show AftS (match putAll is ds rho with | some r => .go r .nx h1 | none => .bad) P Z = _
    cases q : putAll is ds rho with
    | none => exact propext ⟨fun p => p.elim, fun ⟨ds', r1, e, e2, _⟩ => by cases e; rw [q] at e2; cases e2⟩
    | some r => exact propext ⟨fun p => ⟨ds, r, rfl, q, p⟩, fun ⟨ds', r1, e, e2, p⟩ => by cases e; rw [q] at e2; cases e2; exact p⟩
  | _ => simp [Tg.put]
@[simp ↓] theorem afs_aug {i : Nat} {f : F2} {a : Ex} : AftS (sAug i f a rho h) P Z = ∃ x, rho[i]? = some (some x) ∧ Aft (a rho h) (fun y h1 => Aft (up (f x y h1)) (fun z h2 => P (rho.set i (some z)) .nx h2) (fun _ _ => False)) (fun x k => Z x rho k) := by
  unfold sAug
  split
  · rename_i x q
    rw [afs_toS]
    simp only [q, Option.some.injEq]
    refine propext ⟨fun p => ⟨x, rfl, p.mono (fun y h1 z => ?_) fun _ _ z => z⟩, fun ⟨x', e, p⟩ => ?_⟩
    · cases q2 : f x y h1 with
      | none => rw [q2] at z; exact z
      | some w => rw [q2] at z; exact z
    · cases e
      refine p.mono (fun y h1 z => ?_) fun _ _ z => z
      cases q2 : f x y h1 with
      | none => rw [q2] at z; exact z
      | some w => rw [q2] at z; exact z
  · rename_i q
    simp only [afs_bad, eq_iff_iff, false_iff]
    rintro ⟨x, e, _⟩
    exact q x e
@[simp ↓] theorem afs_sub {o i a : Ex} : AftS (sSub o i a rho h) P Z = Aft (a rho h) (fun v h1 => Aft (o rho h1) (fun x h2 => Aft (i rho h2) (fun k h3 => ∃ n j xs m, x = .loc n ∧ k = .int j ∧ h3[n]? = some (.lst xs) ∧ ixN xs.length j = some m ∧ P rho .nx (h3.set n (.lst (xs.set m v)))) (fun x k => Z x rho k)) (fun x k => Z x rho k)) (fun x k => Z x rho k) := by
  unfold sSub; rw [afs_toS]
  congr; funext v h1; rw [afs_toS]
  congr; funext x h2; rw [afs_toS]
  congr; funext k h3
  split
  · rename_i n j
    cases q : h3[n]? with
    | none => simp [q]
    | some ob =>
      cases ob with
      | lst xs =>
        cases q2 : ixN xs.length j with
        | none => simp [q, q2]
        | some m => simp [q, q2]
      | _ => simp [q]
  · rename_i hn
    simp only [afs_bad, eq_iff_iff, false_iff]
    rintro ⟨n, j, xs, m, rfl, rfl, _⟩
    exact hn n j rfl rfl
@[simp ↓] theorem afs_for {im : Im} {t : Tg} {b : Sm} : AftS (sFor im t b rho h) P Z = Aft (im rho h) (fun p h1 => AftS (forL p.2 p.1 t b p.1 rho h1) P Z) (fun x k => Z x rho k) := by
  unfold sFor; rw [afs_toS]
/-- the end of a def -/
def fin (P : D → VH → Prop) : Env → Fl → VH → Prop := fun _ f h => match f with
  | .ret d => P d h
  | .nx => P .non h
  | _ => False
theorem fin_ret {P : D → VH → Prop} {d : D} : fin P rho (.ret d) h = P d h := rfl
theorem fin_nx {P : D → VH → Prop} : fin P rho .nx h = P .non h := rfl
@[simp ↓] theorem aft_fnM {N : Nat} {b : Sm} {ds : List D} {P : D → VH → Prop} {Z : Xc → VH → Prop} : Aft (fnM N b ds h) P Z = AftS (b (ds.map some ++ List.replicate (N - ds.length) none) h) (fin P) (fun x _ k => Z x k) := by
  unfold fnM
  cases b (ds.map some ++ List.replicate (N - ds.length) none) h with
  | go r f k => cases f <;> rfl
  | exc => rfl
  | bad => rfl
/-- a for loop, by an invariant over the items left -/
theorem for_inv {ck : Ck} {all : List D} {t : Tg} {b : Sm} (I : List D → Env → VH → Prop) (hck : ∀ xs r k, I xs r k → ckOk ck all k = true)
    (step : ∀ x xs r k, I (x :: xs) r k → ∃ r1, t.put x r = some r1 ∧ AftS (b r1 k) (fun r2 f k2 => match f with | .nx => I xs r2 k2 | .cnt => I xs r2 k2 | .brk => P r2 .nx k2 | .ret d => P r2 (.ret d) k2) Z)
    (done : ∀ r k, I [] r k → P r .nx k) : ∀ (xs : List D) (r : Env) (k : VH), I xs r k → AftS (forL ck all t b xs r k) P Z
  | [], r, k, hi => by
    unfold forL
    rw [if_pos (hck _ _ _ hi)]
    exact done r k hi
  | x :: xs, r, k, hi => by
    unfold forL
    rw [if_pos (hck _ _ _ hi)]
    obtain ⟨r1, e1, a⟩ := step x xs r k hi
    simp only [e1]
    cases q : b r1 k with
    | go r2 f k2 =>
      rw [q] at a
      cases f with
      | nx => exact for_inv I hck step done xs r2 k2 a
      | cnt => exact for_inv I hck step done xs r2 k2 a
      | brk => exact a
      | ret d => exact a
    | exc => rw [q] at a; exact a
    | bad => rw [q] at a; exact a
end

@[simp] theorem szle {n : Nat} : (n ≤ sizeLine) = (n ≤ 16777216) := propext Iff.rfl
@[simp] theorem szlt {n : Nat} : (n < sizeLine) = (n < 16777216) := propext Iff.rfl
/-! ### the same, so that simp does not look into what follows -/
inductive Ph {α : Type} (P : α → VH → Prop) (Z : Xc → VH → Prop) : Type
  | mk
inductive PhS (P : Env → Fl → VH → Prop) (Z : Xc → Env → VH → Prop) : Type
  | mk
@[irreducible] def AF {α : Type} (P : α → VH → Prop) (Z : Xc → VH → Prop) (_ : Ph P Z) (r : R α) : Prop := Aft r P Z
@[irreducible] def AS (P : Env → Fl → VH → Prop) (Z : Xc → Env → VH → Prop) (_ : PhS P Z) (r : RS) : Prop := AftS r P Z
theorem Aft.af {α : Type} {r : R α} {P : α → VH → Prop} {Z : Xc → VH → Prop} (h : AF P Z .mk r) : Aft r P Z := by delta AF at h; exact h
theorem AS.of {r : RS} {P : Env → Fl → VH → Prop} {Z : Xc → Env → VH → Prop} {ph : PhS P Z} (h : AftS r P Z) : AS P Z ph r := by delta AS; exact h
theorem AF.of {α : Type} {r : R α} {P : α → VH → Prop} {Z : Xc → VH → Prop} {ph : Ph P Z} (h : Aft r P Z) : AF P Z ph r := by delta AF; exact h
theorem AftS.as {r : RS} {P : Env → Fl → VH → Prop} {Z : Xc → Env → VH → Prop} (h : AS P Z .mk r) : AftS r P Z := by delta AS at h; exact h
/-- a call's promise -/
theorem AF.use {α : Type} {r : R α} {P P' : α → VH → Prop} {Z Z' : Xc → VH → Prop} {ph : Ph P Z} (h : Aft r P' Z') (hp : ∀ a k, P' a k → P a k) (hz : ∀ x k, Z' x k → Z x k) : AF P Z ph r := by (first | delta AF AS | delta AF | delta AS); exact h.mono hp hz
theorem AF.use0 {α : Type} {r : R α} {P P' : α → VH → Prop} {Z : Xc → VH → Prop} {ph : Ph P Z} (h : Aft r P' Z) (hp : ∀ a k, P' a k → P a k) : AF P Z ph r := by (first | delta AF AS | delta AF | delta AS); exact h.mono hp fun _ _ z => z
theorem AS.use {r : RS} {P P' : Env → Fl → VH → Prop} {Z Z' : Xc → Env → VH → Prop} {ph : PhS P Z} (h : AftS r P' Z') (hp : ∀ a f k, P' a f k → P a f k) (hz : ∀ x a k, Z' x a k → Z x a k) : AS P Z ph r := by (first | delta AF AS | delta AF | delta AS); exact h.mono hp hz
def asB : D → VH → R Bool
  | .bl b, h => .ok b h
  | _, _ => .bad
@[simp] theorem asB_bl {b : Bool} {h : VH} : asB (.bl b) h = .ok b h := rfl
def asI : D → VH → R (Option Int)
  | .int b, h => .ok (some b) h
  | _, _ => .bad
@[simp] theorem asI_int {b : Int} {h : VH} : asI (.int b) h = .ok (some b) h := rfl
def ofO {α : Type} (o : Option α) (h : VH) : R α := match o with
  | some a => .ok a h
  | none => .bad
@[simp] theorem ofO_some {α : Type} {a : α} {h : VH} : ofO (some a) h = .ok a h := rfl
@[simp] theorem ofO_none {α : Type} {h : VH} : ofO (none : Option α) h = .bad := rfl
section
variable {α β : Type} {P : α → VH → Prop} {Z : Xc → VH → Prop} {ph : Ph P Z} {rho : Env} {h : VH}
@[simp ↓] theorem f_ok {a : α} : AF P Z ph (.ok a h) = P a h := by (first | delta AF AS | delta AF | delta AS); exact nr rfl
@[simp ↓] theorem f_exc {x : Xc} : AF P Z ph (.exc x h : R α) = Z x h := by (first | delta AF AS | delta AF | delta AS); exact nr rfl
@[simp ↓] theorem f_bad : AF P Z ph (.bad : R α) = False := by (first | delta AF AS | delta AF | delta AS); exact nr rfl
@[simp ↓] theorem f_bind {r : R β} {f : β → VH → R α} : AF P Z ph (r.bind f) = AF (fun a k => AF P Z .mk (f a k)) Z .mk r := by (first | delta AF AS | delta AF | delta AS); exact aft_bind
@[simp ↓ high] theorem f_gd {c : Prop} [Decidable c] {a : R α} : AF P Z ph (if c then a else .bad) = (c ∧ AF P Z .mk a) := by
  (first | delta AF AS | delta AF | delta AS)
  by_cases q : c
  · rw [if_pos q]; exact propext ⟨fun p => ⟨q, p⟩, fun p => p.2⟩
  · rw [if_neg q]; exact propext ⟨fun p => p.elim, fun p => absurd p.1 q⟩
@[simp ↓ high] theorem f_gdu {c : Prop} [Decidable c] {a : Option (α × VH)} : AF P Z ph (up (if c then a else none)) = (c ∧ AF P Z .mk (up a)) := by
  (first | delta AF AS | delta AF | delta AS)
  by_cases q : c
  · rw [if_pos q]; exact propext ⟨fun p => ⟨q, p⟩, fun p => p.2⟩
  · rw [if_neg q]; exact propext ⟨fun p => p.elim, fun p => absurd p.1 q⟩
@[simp high] theorem f_gd' {c : Prop} [Decidable c] {a : R α} : AF P Z ph (if c then a else .bad) = (c ∧ AF P Z .mk a) := f_gd
@[simp high] theorem f_gdu' {c : Prop} [Decidable c] {a : Option (α × VH)} : AF P Z ph (up (if c then a else none)) = (c ∧ AF P Z .mk (up a)) := f_gdu
@[simp] theorem f_ite' {c : Prop} [Decidable c] {a b : R α} : AF P Z ph (if c then a else b) = if c then AF P Z .mk a else AF P Z .mk b := by (first | delta AF AS | delta AF | delta AS); split <;> rfl
@[simp ↓] theorem f_ite {c : Prop} [Decidable c] {a b : R α} : AF P Z ph (if c then a else b) = if c then AF P Z .mk a else AF P Z .mk b := by (first | delta AF AS | delta AF | delta AS); split <;> rfl
end
section
variable {P : D → VH → Prop} {PB : Bool → VH → Prop} {PL : List D → VH → Prop} {Z : Xc → VH → Prop} {ph : Ph P Z} {phB : Ph PB Z} {phL : Ph PL Z} {rho : Env} {h : VH}
@[simp] theorem r_v0 {d : D} : eV 0 (some d :: rho) h = .ok d h := rfl
@[simp] theorem r_v1 {o0 : Option D} {d : D} : eV 1 (o0 :: some d :: rho) h = .ok d h := rfl
@[simp] theorem r_v2 {o0 o1 : Option D} {d : D} : eV 2 (o0 :: o1 :: some d :: rho) h = .ok d h := rfl
@[simp] theorem r_v3 {o0 o1 o2 : Option D} {d : D} : eV 3 (o0 :: o1 :: o2 :: some d :: rho) h = .ok d h := rfl
@[simp] theorem r_v4 {o0 o1 o2 o3 : Option D} {d : D} : eV 4 (o0 :: o1 :: o2 :: o3 :: some d :: rho) h = .ok d h := rfl
@[simp] theorem r_v5 {o0 o1 o2 o3 o4 : Option D} {d : D} : eV 5 (o0 :: o1 :: o2 :: o3 :: o4 :: some d :: rho) h = .ok d h := rfl
@[simp] theorem r_v6 {o0 o1 o2 o3 o4 o5 : Option D} {d : D} : eV 6 (o0 :: o1 :: o2 :: o3 :: o4 :: o5 :: some d :: rho) h = .ok d h := rfl
@[simp] theorem r_v7 {o0 o1 o2 o3 o4 o5 o6 : Option D} {d : D} : eV 7 (o0 :: o1 :: o2 :: o3 :: o4 :: o5 :: o6 :: some d :: rho) h = .ok d h := rfl
@[simp] theorem r_v8 {o0 o1 o2 o3 o4 o5 o6 o7 : Option D} {d : D} : eV 8 (o0 :: o1 :: o2 :: o3 :: o4 :: o5 :: o6 :: o7 :: some d :: rho) h = .ok d h := rfl
@[simp] theorem r_v9 {o0 o1 o2 o3 o4 o5 o6 o7 o8 : Option D} {d : D} : eV 9 (o0 :: o1 :: o2 :: o3 :: o4 :: o5 :: o6 :: o7 :: o8 :: some d :: rho) h = .ok d h := rfl
@[simp] theorem r_v10 {o0 o1 o2 o3 o4 o5 o6 o7 o8 o9 : Option D} {d : D} : eV 10 (o0 :: o1 :: o2 :: o3 :: o4 :: o5 :: o6 :: o7 :: o8 :: o9 :: some d :: rho) h = .ok d h := rfl
@[simp] theorem r_v11 {o0 o1 o2 o3 o4 o5 o6 o7 o8 o9 o10 : Option D} {d : D} : eV 11 (o0 :: o1 :: o2 :: o3 :: o4 :: o5 :: o6 :: o7 :: o8 :: o9 :: o10 :: some d :: rho) h = .ok d h := rfl
@[simp] theorem r_v12 {o0 o1 o2 o3 o4 o5 o6 o7 o8 o9 o10 o11 : Option D} {d : D} : eV 12 (o0 :: o1 :: o2 :: o3 :: o4 :: o5 :: o6 :: o7 :: o8 :: o9 :: o10 :: o11 :: some d :: rho) h = .ok d h := rfl
@[simp] theorem r_v13 {o0 o1 o2 o3 o4 o5 o6 o7 o8 o9 o10 o11 o12 : Option D} {d : D} : eV 13 (o0 :: o1 :: o2 :: o3 :: o4 :: o5 :: o6 :: o7 :: o8 :: o9 :: o10 :: o11 :: o12 :: some d :: rho) h = .ok d h := rfl
@[simp] theorem r_v14 {o0 o1 o2 o3 o4 o5 o6 o7 o8 o9 o10 o11 o12 o13 : Option D} {d : D} : eV 14 (o0 :: o1 :: o2 :: o3 :: o4 :: o5 :: o6 :: o7 :: o8 :: o9 :: o10 :: o11 :: o12 :: o13 :: some d :: rho) h = .ok d h := rfl
@[simp] theorem r_v15 {o0 o1 o2 o3 o4 o5 o6 o7 o8 o9 o10 o11 o12 o13 o14 : Option D} {d : D} : eV 15 (o0 :: o1 :: o2 :: o3 :: o4 :: o5 :: o6 :: o7 :: o8 :: o9 :: o10 :: o11 :: o12 :: o13 :: o14 :: some d :: rho) h = .ok d h := rfl
@[simp] theorem r_v16 {o0 o1 o2 o3 o4 o5 o6 o7 o8 o9 o10 o11 o12 o13 o14 o15 : Option D} {d : D} : eV 16 (o0 :: o1 :: o2 :: o3 :: o4 :: o5 :: o6 :: o7 :: o8 :: o9 :: o10 :: o11 :: o12 :: o13 :: o14 :: o15 :: some d :: rho) h = .ok d h := rfl
@[simp] theorem r_v17 {o0 o1 o2 o3 o4 o5 o6 o7 o8 o9 o10 o11 o12 o13 o14 o15 o16 : Option D} {d : D} : eV 17 (o0 :: o1 :: o2 :: o3 :: o4 :: o5 :: o6 :: o7 :: o8 :: o9 :: o10 :: o11 :: o12 :: o13 :: o14 :: o15 :: o16 :: some d :: rho) h = .ok d h := rfl
@[simp] theorem r_v18 {o0 o1 o2 o3 o4 o5 o6 o7 o8 o9 o10 o11 o12 o13 o14 o15 o16 o17 : Option D} {d : D} : eV 18 (o0 :: o1 :: o2 :: o3 :: o4 :: o5 :: o6 :: o7 :: o8 :: o9 :: o10 :: o11 :: o12 :: o13 :: o14 :: o15 :: o16 :: o17 :: some d :: rho) h = .ok d h := rfl
@[simp] theorem r_v19 {o0 o1 o2 o3 o4 o5 o6 o7 o8 o9 o10 o11 o12 o13 o14 o15 o16 o17 o18 : Option D} {d : D} : eV 19 (o0 :: o1 :: o2 :: o3 :: o4 :: o5 :: o6 :: o7 :: o8 :: o9 :: o10 :: o11 :: o12 :: o13 :: o14 :: o15 :: o16 :: o17 :: o18 :: some d :: rho) h = .ok d h := rfl
@[simp] theorem r_v20 {o0 o1 o2 o3 o4 o5 o6 o7 o8 o9 o10 o11 o12 o13 o14 o15 o16 o17 o18 o19 : Option D} {d : D} : eV 20 (o0 :: o1 :: o2 :: o3 :: o4 :: o5 :: o6 :: o7 :: o8 :: o9 :: o10 :: o11 :: o12 :: o13 :: o14 :: o15 :: o16 :: o17 :: o18 :: o19 :: some d :: rho) h = .ok d h := rfl
@[simp] theorem r_v21 {o0 o1 o2 o3 o4 o5 o6 o7 o8 o9 o10 o11 o12 o13 o14 o15 o16 o17 o18 o19 o20 : Option D} {d : D} : eV 21 (o0 :: o1 :: o2 :: o3 :: o4 :: o5 :: o6 :: o7 :: o8 :: o9 :: o10 :: o11 :: o12 :: o13 :: o14 :: o15 :: o16 :: o17 :: o18 :: o19 :: o20 :: some d :: rho) h = .ok d h := rfl
@[simp] theorem r_v22 {o0 o1 o2 o3 o4 o5 o6 o7 o8 o9 o10 o11 o12 o13 o14 o15 o16 o17 o18 o19 o20 o21 : Option D} {d : D} : eV 22 (o0 :: o1 :: o2 :: o3 :: o4 :: o5 :: o6 :: o7 :: o8 :: o9 :: o10 :: o11 :: o12 :: o13 :: o14 :: o15 :: o16 :: o17 :: o18 :: o19 :: o20 :: o21 :: some d :: rho) h = .ok d h := rfl
@[simp] theorem r_v23 {o0 o1 o2 o3 o4 o5 o6 o7 o8 o9 o10 o11 o12 o13 o14 o15 o16 o17 o18 o19 o20 o21 o22 : Option D} {d : D} : eV 23 (o0 :: o1 :: o2 :: o3 :: o4 :: o5 :: o6 :: o7 :: o8 :: o9 :: o10 :: o11 :: o12 :: o13 :: o14 :: o15 :: o16 :: o17 :: o18 :: o19 :: o20 :: o21 :: o22 :: some d :: rho) h = .ok d h := rfl
@[simp] theorem r_c {d : D} : eC d rho h = .ok d h := rfl
@[simp] theorem r_aNil : aNil rho h = .ok [] h := rfl
@[simp] theorem r_dn : eDn rho h = .ok (.loc h.length) (h ++ [.dK []]) := rfl
@[simp] theorem r_dnT : eDnT rho h = .ok (.loc h.length) (h ++ [.dT []]) := rfl
@[simp] theorem r_oNo : oNo rho h = .ok none h := rfl
@[simp] theorem r_tYs : tYs rho h = .ok true h := rfl
@[simp ↓] theorem f_op {f : F2} {a b : Ex} : AF P Z ph (eOp f a b rho h) = AF (fun x h1 => AF (fun y h2 => AF P Z .mk (up (f x y h2))) Z .mk (b rho h1)) Z .mk (a rho h) := by (first | delta AF AS | delta AF | delta AS); exact aft_op
@[simp ↓] theorem f_un {f : F1} {a : Ex} : AF P Z ph (eUn f a rho h) = AF (fun x h1 => AF P Z .mk (up (f x h1))) Z .mk (a rho h) := by (first | delta AF AS | delta AF | delta AS); exact aft_un
@[simp ↓] theorem f_aCons {a : Ex} {r : Ar} : AF PL Z phL (aCons a r rho h) = AF (fun x h1 => AF (fun xs h2 => PL (x :: xs) h2) Z .mk (r rho h1)) Z .mk (a rho h) := by (first | delta AF AS | delta AF | delta AS); exact aft_aCons
@[simp ↓] theorem f_call {f : Fn} {a : Ar} : AF P Z ph (eCall f a rho h) = AF (fun xs h1 => AF P Z .mk (up (f xs h1))) Z .mk (a rho h) := by (first | delta AF AS | delta AF | delta AS); exact aft_call
@[simp ↓] theorem f_eL {m : Ar} : AF P Z ph (eL m rho h) = AF (fun ds h1 => P (.lst ds) h1) Z .mk (m rho h) := by (first | delta AF AS | delta AF | delta AS); exact aft_eL
@[simp ↓] theorem f_eBox {m : Ar} : AF P Z ph (eBox m rho h) = AF (fun ds h1 => P (.loc h1.length) (h1 ++ [.lst ds])) Z .mk (m rho h) := by (first | delta AF AS | delta AF | delta AS); exact aft_eBox
@[simp ↓] theorem f_disp {m : Ar} : AF PL Z phL (lDisp m rho h) = AF (fun ds h1 => AF PL Z .mk (if ds.length ≤ sizeLine then .ok ds h1 else .bad)) Z .mk (m rho h) := by
  (first | delta AF AS | delta AF | delta AS)
  show Aft (lDisp m rho h) PL Z = _
  unfold lDisp; rw [aft_bind]; try rfl
@[simp ↓] theorem f_tup {m : Ar} : AF P Z ph (eTup m rho h) = AF (fun ds h1 => AF P Z .mk (if ds.length ≤ sizeLine then .ok (.tup ds) h1 else .bad)) Z .mk (m rho h) := by
  (first | delta AF AS | delta AF | delta AS)
  show Aft (eTup m rho h) P Z = _
  unfold eTup; rw [aft_bind]; try rfl
@[simp ↓] theorem f_fn {n : Nat} {m : Fd} {a : Ar} : AF P Z ph (eFn n m a rho h) = AF (fun ds h1 => AF P Z .mk (if ds.length = n then m ds h1 else .bad)) Z .mk (a rho h) := by
  (first | delta AF AS | delta AF | delta AS)
  show Aft (eFn n m a rho h) P Z = _
  unfold eFn; rw [aft_bind]; try rfl
@[simp ↓] theorem f_tVal {a : Ex} : AF PB Z phB (tVal a rho h) = AF (fun d h1 => AF PB Z .mk (asB d h1)) Z .mk (a rho h) := by
  (first | delta AF AS | delta AF | delta AS)
  show Aft (tVal a rho h) PB Z = _
  unfold tVal; rw [aft_bind]
  show Aft (a rho h) _ Z = Aft (a rho h) _ Z
  congr; funext d h1; cases d <;> rfl
@[simp ↓] theorem f_tNt {a : Ts} : AF PB Z phB (tNt a rho h) = AF (fun b h1 => PB (!b) h1) Z .mk (a rho h) := by (first | delta AF AS | delta AF | delta AS); exact aft_tNt
@[simp ↓] theorem f_tAn {a b : Ts} : AF PB Z phB (tAn a b rho h) = AF (fun x h1 => AF PB Z .mk (if x = true then b rho h1 else .ok false h1)) Z .mk (a rho h) := by
  (first | delta AF AS | delta AF | delta AS)
  show Aft (tAn a b rho h) PB Z = _
  unfold tAn; rw [aft_bind]; try rfl
@[simp ↓] theorem f_tOrr {a b : Ts} : AF PB Z phB (tOrr a b rho h) = AF (fun x h1 => AF PB Z .mk (if x = true then .ok true h1 else b rho h1)) Z .mk (a rho h) := by
  (first | delta AF AS | delta AF | delta AS)
  show Aft (tOrr a b rho h) PB Z = _
  unfold tOrr; rw [aft_bind]; try rfl
@[simp ↓] theorem f_eAnd {a b : Ex} : AF P Z ph (eAnd a b rho h) = AF (fun x h1 => AF (fun k h2 => AF P Z .mk (if k = true then b rho h2 else .ok (.bl false) h2)) Z .mk (asB x h1)) Z .mk (a rho h) := by
  (first | delta AF AS | delta AF | delta AS)
  show Aft (eAnd a b rho h) P Z = _
  unfold eAnd; rw [aft_bind]
  show Aft (a rho h) _ Z = Aft (a rho h) _ Z
  congr; funext d h1
  cases d with
  | bl k => cases k <;> rfl
  | _ => rfl
@[simp ↓] theorem f_eOr {a b : Ex} : AF P Z ph (eOr a b rho h) = AF (fun x h1 => AF (fun k h2 => AF P Z .mk (if k = true then .ok (.bl true) h2 else b rho h2)) Z .mk (asB x h1)) Z .mk (a rho h) := by
  (first | delta AF AS | delta AF | delta AS)
  show Aft (eOr a b rho h) P Z = _
  unfold eOr; rw [aft_bind]
  show Aft (a rho h) _ Z = Aft (a rho h) _ Z
  congr; funext d h1
  cases d with
  | bl k => cases k <;> rfl
  | _ => rfl
@[simp ↓] theorem f_eNot {a : Ex} : AF P Z ph (eNot a rho h) = AF (fun x h1 => AF (fun k h2 => P (.bl (!k)) h2) Z .mk (asB x h1)) Z .mk (a rho h) := by
  (first | delta AF AS | delta AF | delta AS)
  show Aft (eNot a rho h) P Z = _
  unfold eNot; rw [aft_bind]
  show Aft (a rho h) _ Z = Aft (a rho h) _ Z
  congr; funext d h1; cases d <;> rfl
@[simp ↓] theorem f_eIf {t : Ts} {a b : Ex} : AF P Z ph (eIf t a b rho h) = AF (fun x h1 => AF P Z .mk (if x = true then a rho h1 else b rho h1)) Z .mk (t rho h) := by
  (first | delta AF AS | delta AF | delta AS)
  show Aft (eIf t a b rho h) P Z = _
  unfold eIf; rw [aft_bind]; try rfl
@[simp ↓] theorem f_chain {f g : F2} {a b c : Ex} : AF P Z ph (eChain f g a b c rho h) = AF (fun x h1 => AF (fun y h2 => AF (fun z h3 => AF (fun k h4 => AF P Z .mk (if k = true then (c rho h4).bind fun w h5 => up (g y w h5) else .ok (.bl false) h4)) Z .mk (asB z h3)) Z .mk (up (f x y h2))) Z .mk (b rho h1)) Z .mk (a rho h) := by
  (first | delta AF AS | delta AF | delta AS)
  show Aft (eChain f g a b c rho h) P Z = _
  unfold eChain; simp only [aft_bind]
  show Aft (a rho h) _ Z = Aft (a rho h) _ Z
  congr; funext x h1
  show Aft _ _ Z = Aft _ _ Z
  congr; funext y h2
  show Aft _ _ Z = Aft _ _ Z
  congr; funext z h3
  cases z with
  | bl k => cases k <;> rfl
  | _ => rfl
@[simp ↓] theorem f_sl {a : Ex} {lo hi : Om} : AF P Z ph (eSl a lo hi rho h) = AF (fun x h1 => AF (fun l h2 => AF (fun u h3 => AF P Z .mk (up (sliceF x l u h3))) Z .mk (hi rho h2)) Z .mk (lo rho h1)) Z .mk (a rho h) := by (first | delta AF AS | delta AF | delta AS); exact aft_sl
@[simp ↓] theorem f_oSm {a : Ex} {PO : Option Int → VH → Prop} {phO : Ph PO Z} : AF PO Z phO (oSm a rho h) = AF (fun d h1 => AF PO Z .mk (asI d h1)) Z .mk (a rho h) := by
  (first | delta AF AS | delta AF | delta AS)
  show Aft (oSm a rho h) PO Z = _
  unfold oSm; rw [aft_bind]
  show Aft (a rho h) _ Z = Aft (a rho h) _ Z
  congr; funext d h1; cases d <;> rfl
@[simp ↓] theorem f_lAdd {a b : Ex} : AF PL Z phL (lAdd a b rho h) = AF (fun x h1 => AF (fun y h2 => AF (fun xs h3 => AF (fun ys h4 => AF PL Z .mk (if xs.length + ys.length ≤ sizeLine then .ok (xs ++ ys) h4 else .bad)) Z .mk (ofO (listM y h3) h3)) Z .mk (ofO (listM x h2) h2)) Z .mk (b rho h1)) Z .mk (a rho h) := by
  (first | delta AF AS | delta AF | delta AS)
  show Aft (lAdd a b rho h) PL Z = _
  unfold lAdd; simp only [aft_bind]
  show Aft (a rho h) _ Z = Aft (a rho h) _ Z
  congr; funext x h1
  show Aft _ _ Z = Aft _ _ Z
  congr; funext y h2
  cases listM x h2 with
  | none => rfl
  | some xs => cases q : listM y h2 with
    | none => simp only [ofO_some, aft_ok, q]; try rfl
    | some ys => simp only [ofO_some, aft_ok, q]; try rfl
@[simp ↓] theorem f_lCall {f : FL} {a : Ar} : AF PL Z phL (lCall f a rho h) = AF (fun xs h1 => AF PL Z .mk (ofO (f xs h1) h1)) Z .mk (a rho h) := by
  (first | delta AF AS | delta AF | delta AS)
  show Aft (lCall f a rho h) PL Z = _
  unfold lCall; rw [aft_bind]
  show Aft (a rho h) _ Z = Aft (a rho h) _ Z
  congr; funext d h1; cases f d h1 <;> rfl
@[simp ↓] theorem f_eBM {ok : D → VH → Bool} {f : Fm} {o : Ex} {a : Ar} : AF P Z ph (eBM ok f o a rho h) = AF (fun x h1 => ok x h1 = true ∧ AF (fun ds h2 => AF P Z .mk (up (f x ds h2))) Z .mk (a rho h1)) Z .mk (o rho h) := by (first | delta AF AS | delta AF | delta AS); exact aft_eBM
@[simp ↓] theorem f_iSeq {a : Ex} {PI : List D × Ck → VH → Prop} {phI : Ph PI Z} : AF PI Z phI (iSeq a rho h) = AF (fun d h1 => AF PI Z .mk (ofO (itD d h1) h1)) Z .mk (a rho h) := by
  (first | delta AF AS | delta AF | delta AS)
  show Aft (iSeq a rho h) PI Z = _
  unfold iSeq; rw [aft_bind]
  show Aft (a rho h) _ Z = Aft (a rho h) _ Z
  congr; funext d h1; cases itD d h1 <;> rfl
def rng1 : List D → VH → R (List D × Ck)
  | [.int j], h => if -(2 ^ 62) ≤ j ∧ j < 2 ^ 62 then .ok ((List.range j.toNat).map fun i => .int (0 + (i : Nat)), []) h else .bad
  | _, _ => .bad
theorem rng1_i {j : Int} : rng1 [.int j] h = if -(2 ^ 62) ≤ j ∧ j < 2 ^ 62 then .ok ((List.range j.toNat).map fun i => .int (0 + (i : Nat)), []) h else .bad := rfl
@[simp ↓] theorem f_iRng1 {a : Ar} {PI : List D × Ck → VH → Prop} {phI : Ph PI Z} : AF PI Z phI (iRng1 a rho h) = AF (fun ds h1 => AF PI Z .mk (rng1 ds h1)) Z .mk (a rho h) := by
  (first | delta AF AS | delta AF | delta AS)
  show Aft (iRng1 a rho h) PI Z = _
  unfold iRng1; rw [aft_bind]
  show Aft (a rho h) _ Z = Aft (a rho h) _ Z
  congr; funext d h1
  rcases d with _ | ⟨x, _ | ⟨y, r⟩⟩
  · rfl
  · cases x <;> rfl
  · cases x <;> rfl
@[simp ↓] theorem f_rng1 {j : Int} {PI : List D × Ck → VH → Prop} {phI : Ph PI Z} : AF PI Z phI (rng1 [.int j] h) = ((-(2 ^ 62) ≤ j ∧ j < 2 ^ 62) ∧ PI ((List.range j.toNat).map fun i => .int (0 + (i : Nat)), []) h) := by
  rw [rng1_i, f_gd, f_ok]
@[simp ↓] theorem f_lc {im : Im} {t : Tg} {tt : Ts} {el : Ex} {ws : List Nat} : AF P Z ph (eLc im t tt el ws rho h) = AF (fun p h1 => p.1.length ≤ sizeLine ∧ AF (fun ys h2 => P (.lst ys) h2) Z .mk (lcL t tt el p.2 p.1 p.1 (wipeE rho ws) h1)) Z .mk (im rho h) := by (first | delta AF AS | delta AF | delta AS); exact aft_lc
end
section
variable {P : Env → Fl → VH → Prop} {Z : Xc → Env → VH → Prop} {ph : PhS P Z} {rho : Env} {h : VH}
@[simp ↓] theorem s_go {f : Fl} : AS P Z ph (.go rho f h) = P rho f h := by (first | delta AF AS | delta AF | delta AS); exact nr rfl
@[simp ↓] theorem s_exc {x : Xc} : AS P Z ph (.exc x rho h) = Z x rho h := by (first | delta AF AS | delta AF | delta AS); exact nr rfl
@[simp ↓] theorem s_bad : AS P Z ph .bad = False := by (first | delta AF AS | delta AF | delta AS); exact nr rfl
@[simp ↓] theorem s_ite {c : Prop} [Decidable c] {a b : RS} : AS P Z ph (if c then a else b) = if c then AS P Z .mk a else AS P Z .mk b := by (first | delta AF AS | delta AF | delta AS); split <;> rfl
@[simp] theorem s_ite' {c : Prop} [Decidable c] {a b : RS} : AS P Z ph (if c then a else b) = if c then AS P Z .mk a else AS P Z .mk b := by (first | delta AF AS | delta AF | delta AS); split <;> rfl
@[simp ↓] theorem s_toS {α : Type} {r : R α} {f : α → VH → RS} : AS P Z ph (r.toS rho f) = AF (fun a k => AS P Z .mk (f a k)) (fun x k => Z x rho k) .mk r := by (first | delta AF AS | delta AF | delta AS); exact afs_toS
@[simp ↓] theorem s_nx {b : Sm} : nxt b P Z rho .nx h = AS P Z .mk (b rho h) := by (first | delta AF AS | delta AF | delta AS); exact nr rfl
@[simp ↓] theorem s_nbrk {b : Sm} : nxt b P Z rho .brk h = P rho .brk h := nr rfl
@[simp ↓] theorem s_ncnt {b : Sm} : nxt b P Z rho .cnt h = P rho .cnt h := nr rfl
@[simp ↓] theorem s_nret {b : Sm} {d : D} : nxt b P Z rho (.ret d) h = P rho (.ret d) h := nr rfl
@[simp ↓] theorem s_seq {a b : Sm} : AS P Z ph (sSeq a b rho h) = AS (nxt b P Z) Z .mk (a rho h) := by (first | delta AF AS | delta AF | delta AS); exact afs_seq
@[simp] theorem r_skip : sSkip rho h = .go rho .nx h := rfl
@[simp] theorem r_brk : sBrk rho h = .go rho .brk h := rfl
@[simp] theorem r_cnt : sCnt rho h = .go rho .cnt h := rfl
@[simp] theorem r_retN : sRetN rho h = .go rho (.ret .non) h := rfl
@[simp ↓] theorem s_drop {a : Ex} : AS P Z ph (sDrop a rho h) = AF (fun _ h1 => P rho .nx h1) (fun x k => Z x rho k) .mk (a rho h) := by (first | delta AF AS | delta AF | delta AS); exact afs_drop
@[simp ↓] theorem s_ret {a : Ex} : AS P Z ph (sRet a rho h) = AF (fun d h1 => P rho (.ret d) h1) (fun x k => Z x rho k) .mk (a rho h) := by (first | delta AF AS | delta AF | delta AS); exact afs_ret
@[simp ↓] theorem s_if {t : Ts} {a b : Sm} : AS P Z ph (sIf t a b rho h) = AF (fun x h1 => AS P Z .mk (if x = true then a rho h1 else b rho h1)) (fun x k => Z x rho k) .mk (t rho h) := by
  (first | delta AF AS | delta AF | delta AS)
  show AftS (sIf t a b rho h) P Z = _
  unfold sIf; rw [afs_toS]; try rfl
@[simp ↓] theorem s_asgn {i : Nat} {a : Ex} : AS P Z ph (sAsg (.nm i) a rho h) = AF (fun d h1 => P (rho.set i (some d)) .nx h1) (fun x k => Z x rho k) .mk (a rho h) := by (first | delta AF AS | delta AF | delta AS); exact afs_asgn
def putT (is : List Nat) (rho : Env) : D → VH → RS
  | .tup ds, h => match putAll is ds rho with
    | some r => .go r .nx h
    | none => .bad
  | _, _ => .bad
@[simp] theorem putAll_nil : putAll [] [] rho = some rho := rfl
@[simp] theorem putAll_cons {i : Nat} {is : List Nat} {d : D} {ds : List D} : putAll (i :: is) (d :: ds) rho = putAll is ds (rho.set i (some d)) := rfl
@[simp ↓] theorem s_asgt {is : List Nat} {a : Ex} : AS P Z ph (sAsg (.tp is) a rho h) = AF (fun d h1 => AS P Z .mk (putT is rho d h1)) (fun x k => Z x rho k) .mk (a rho h) := by
  (first | delta AF AS | delta AF | delta AS)
  show AftS (sAsg (.tp is) a rho h) P Z = _
  unfold sAsg; rw [afs_toS]
  show Aft (a rho h) _ _ = Aft (a rho h) _ _
  congr; funext d h1
  cases d <;> first | rfl | (rename_i ds; show AftS (match putAll is ds rho with | some r => .go r .nx h1 | none => .bad) P Z = AftS (match putAll is ds rho with | some r => .go r .nx h1 | none => .bad) P Z; rfl)
@[simp] theorem putT_tup {is : List Nat} {ds : List D} {r : Env} (e : putAll is ds rho = some r) : putT is rho (.tup ds) h = .go r .nx h := by
  show (match putAll is ds rho with | some r => RS.go r .nx h | none => RS.bad) = _
  rw [e]
@[simp ↓] theorem s_aug {i : Nat} {f : F2} {a : Ex} : AS P Z ph (sAug i f a rho h) = AF (fun x h0 => AF (fun y h1 => AF (fun z h2 => P (rho.set i (some z)) .nx h2) (fun _ _ => False) .mk (up (f x y h1))) (fun x k => Z x rho k) .mk (a rho h0)) (fun _ _ => False) .mk (eV i rho h) := by
  (first | delta AF AS | delta AF | delta AS)
  show AftS (sAug i f a rho h) P Z = _
  rw [afs_aug]
  unfold eV
  split
  · rename_i x q
    refine propext ⟨fun ⟨y, e, p⟩ => ?_, fun p => ⟨x, q, p⟩⟩
    rw [q] at e; cases e; exact p
  · rename_i q
    refine propext ⟨fun ⟨y, e, p⟩ => ?_, fun p => p.elim⟩
    exact q y e
def subS (n : Nat) (v : D) (rho : Env) (j : Int) (h : VH) : RS := match h[n]? with
  | some (.lst xs) => match ixN xs.length j with
    | some m => .go rho .nx (h.set n (.lst (xs.set m v)))
    | none => .bad
  | _ => .bad
theorem subS_eq {n : Nat} {v : D} {j : Int} {xs : List D} {m : Nat} (e : h[n]? = some (.lst xs)) (e2 : ixN xs.length j = some m) : subS n v rho j h = .go rho .nx (h.set n (.lst (xs.set m v))) := by
  unfold subS; simp only [e, e2]
def subT (x k v : D) (rho : Env) (h : VH) : RS := match x, k with
  | .loc n, .int j => subS n v rho j h
  | _, _ => .bad
@[simp] theorem subT_eq {n : Nat} {j : Int} {v : D} : subT (.loc n) (.int j) v rho h = subS n v rho j h := rfl
@[simp ↓] theorem s_sub {o i a : Ex} : AS P Z ph (sSub o i a rho h) = AF (fun v h1 => AF (fun x h2 => AF (fun k h3 => AS P Z .mk (subT x k v rho h3)) (fun x k => Z x rho k) .mk (i rho h2)) (fun x k => Z x rho k) .mk (o rho h1)) (fun x k => Z x rho k) .mk (a rho h) := by
  (first | delta AF AS | delta AF | delta AS)
  show AftS (sSub o i a rho h) P Z = _
  unfold sSub
  simp only [afs_toS]
  first
  | rfl
  | (show Aft _ _ _ = Aft _ _ _
     congr; funext v h1
     show Aft _ _ _ = Aft _ _ _
     congr; funext x h2
     show Aft _ _ _ = Aft _ _ _
     congr; funext k h3
     cases x <;> first | rfl | (cases k <;> rfl))
@[simp ↓] theorem s_for {im : Im} {t : Tg} {b : Sm} : AS P Z ph (sFor im t b rho h) = AF (fun p h1 => AS P Z .mk (forL p.2 p.1 t b p.1 rho h1)) (fun x k => Z x rho k) .mk (im rho h) := by (first | delta AF AS | delta AF | delta AS); exact afs_for
@[simp ↓] theorem s_fret {P : D → VH → Prop} {d : D} : fin P rho (.ret d) h = P d h := nr rfl
@[simp ↓] theorem s_fnx {P : D → VH → Prop} : fin P rho .nx h = P .non h := nr rfl
theorem f_fnM {N : Nat} {b : Sm} {ds : List D} {P : D → VH → Prop} {Z : Xc → VH → Prop} {ph : Ph P Z} : AF P Z ph (fnM N b ds h) = AS (fin P) (fun x _ k => Z x k) .mk (b (ds.map some ++ List.replicate (N - ds.length) none) h) := by (first | delta AF AS | delta AF | delta AS); exact aft_fnM
end
/-- an expression that keeps the heap and gives f of each item -/
theorem lc_map {t : Tg} {tt : Ts} {el : Ex} {ck : Ck} {all : List D} {rho : Env} {h : VH} (g : D → Option D) (hck : ckOk ck all h = true) : ∀ (xs : List D), (∀ x ∈ xs, ∃ r1, t.put x rho = some r1 ∧ match g x with | some y => tt r1 h = .ok true h ∧ el r1 h = .ok y h | none => tt r1 h = .ok false h) → lcL t tt el ck all xs rho h = .ok (xs.filterMap g) h
  | [], _ => by
    unfold lcL
    rw [if_pos hck]
    rfl
  | x :: xs, hx => by
    have ih := lc_map g hck xs fun y hy => hx y (List.mem_cons_of_mem _ hy)
    obtain ⟨r1, e1, e2⟩ := hx x (List.mem_cons_self)
    unfold lcL
    rw [if_pos hck]
    simp only [e1]
    cases q : g x with
    | none =>
      rw [q] at e2
      simp [e2, noX, ih, q]
    | some y =>
      rw [q] at e2
      simp [e2.1, e2.2, noX, ih, q]
theorem Aft.ok_of {α : Type} {r : R α} {a : α} {h : VH} {P : α → VH → Prop} {Z : Xc → VH → Prop} (e : r = .ok a h) (p : P a h) : Aft r P Z := by
  rw [e]; exact p
theorem Aft.run {α : Type} {r : R α} {P : α → VH → Prop} (a : Aft r P fun _ _ => False) : ∃ x k, r = .ok x k ∧ P x k := by
  cases r with
  | ok x k => exact ⟨x, k, rfl, a⟩
  | exc => exact a.elim
  | bad => exact a.elim
end Mv

namespace Mv
open PySem L2
section
variable {h : VH} {i j : Int} {s t : Str} {x y : D} {ds es : List D} {n : Nat}
@[simp] theorem o_addi : addF (.int i) (.int j) h = some (.int (i + j), h) := rfl
@[simp] theorem o_adds : addF (.str s) (.str t) h = if s.length + t.length ≤ sizeLine then some (.str (s ++ t), h) else none := rfl
@[simp] theorem o_addt : addF (.tup ds) (.tup es) h = if ds.length + es.length ≤ sizeLine then some (.tup (ds ++ es), h) else none := by unfold addF; rfl
def lsO : Option O → Option (List D)
  | some (.lst ds) => some ds
  | _ => none
@[simp] theorem lsO_lst : lsO (some (.lst ds)) = some ds := rfl
@[simp] theorem listM_lst : listM (.lst ds) h = some ds := rfl
@[simp] theorem listM_loc : listM (.loc n) h = lsO h[n]? := by
  show (match h[n]? with | some (.lst ds) => some ds | _ => none) = _
  cases h[n]? with
  | none => rfl
  | some o => cases o <;> rfl
def catO : Option (List D) → Option (List D) → VH → Option (D × VH)
  | some xs, some ys, h => if xs.length + ys.length ≤ sizeLine then some (.lst (xs ++ ys), h) else none
  | _, _, _ => none
@[simp] theorem catO_s : catO (some ds) (some es) h = if ds.length + es.length ≤ sizeLine then some (.lst (ds ++ es), h) else none := rfl
theorem o_cat (e : addF x y h = match listM x h, listM y h with | some xs, some ys => (if xs.length + ys.length ≤ sizeLine then some (.lst (xs ++ ys), h) else none) | _, _ => none) : addF x y h = catO (listM x h) (listM y h) h := by
  rw [e]
  cases listM x h <;> cases listM y h <;> rfl
@[simp] theorem o_addll : addF (.lst ds) (.lst es) h = if ds.length + es.length ≤ sizeLine then some (.lst (ds ++ es), h) else none := rfl
@[simp] theorem o_addxl : addF (.loc n) (.lst es) h = catO (listM (.loc n) h) (some es) h := o_cat rfl
@[simp] theorem o_addlx : addF (.lst ds) (.loc n) h = catO (some ds) (listM (.loc n) h) h := o_cat rfl
@[simp] theorem o_addxx {m : Nat} : addF (.loc m) (.loc n) h = catO (listM (.loc m) h) (listM (.loc n) h) h := o_cat rfl
@[simp] theorem o_sub : subF (.int i) (.int j) h = some (.int (i - j), h) := rfl
@[simp] theorem o_mul : mulF (.int i) (.int j) h = if (-2 ^ 64 < i ∧ i < 2 ^ 64) ∨ (-2 ^ 64 < j ∧ j < 2 ^ 64) then some (.int (i * j), h) else none := rfl
@[simp] theorem o_mod : modF (.int i) (.int j) h = if 0 < j then some (.int (i % j), h) else none := rfl
@[simp] theorem o_fdiv : fdivF (.int i) (.int j) h = if 0 < j ∧ j < 1073741824 then some (.int (i / j), h) else none := rfl
@[simp] theorem o_pow : powF (.int i) (.int j) h = if 0 ≤ j ∧ j ≤ 1000000 ∧ i.natAbs < 2 ^ 64 then some (.int (i ^ j.toNat), h) else none := rfl
@[simp] theorem o_neg : negF (.int i) h = some (.int (-i), h) := rfl
@[simp] theorem o_lti : ltF (.int i) (.int j) h = some (.bl (decide (i < j)), h) := rfl
@[simp] theorem o_lei : leF (.int i) (.int j) h = some (.bl (decide (i ≤ j)), h) := rfl
@[simp] theorem o_gti : gtF (.int i) (.int j) h = some (.bl (decide (j < i)), h) := rfl
@[simp] theorem o_gei : geF (.int i) (.int j) h = some (.bl (decide (j ≤ i)), h) := rfl
@[simp] theorem o_lts : ltF (.str s) (.str t) h = some (.bl (decide (s.cps.toList < t.cps.toList)), h) := rfl
@[simp] theorem o_les : leF (.str s) (.str t) h = some (.bl (!decide (t.cps.toList < s.cps.toList)), h) := rfl
@[simp] theorem o_iaddi : iaddF (.int i) (.int j) h = some (.int (i + j), h) := rfl
@[simp] theorem o_iadds : iaddF (.str s) (.str t) h = if s.length + t.length ≤ sizeLine then some (.str (s ++ t), h) else none := rfl
@[simp] theorem pd_non : toPD h (n + 1) .non = some .none := rfl
@[simp] theorem pd_bl {b : Bool} : toPD h (n + 1) (.bl b) = some (.bool b) := rfl
@[simp] theorem pd_int : toPD h (n + 1) (.int i) = some (.int i) := rfl
@[simp] theorem pd_str : toPD h (n + 1) (.str s) = some (.str s) := rfl
@[simp] theorem pd_tup : toPD h (n + 1) (.tup ds) = (omap (toPD h n) ds).map .tuple := rfl
@[simp] theorem pd_lst : toPD h (n + 1) (.lst ds) = (omap (toPD h n) ds).map .list := rfl
theorem pd_loc {m : Nat} (e : h[m]? = some (.lst ds)) : toPD h (n + 1) (.loc m) = (omap (toPD h n) ds).map .list := by
  show (match h[m]? with | some (.lst ds) => (omap (toPD h n) ds).map PyData.list | _ => none) = _
  rw [e]
@[simp] theorem omap_nil {α β : Type} {f : α → Option β} : omap f [] = some [] := rfl
def consO {β : Type} : Option β → Option (List β) → Option (List β)
  | some y, some ys => some (y :: ys)
  | _, _ => none
@[simp] theorem consO_s {β : Type} {y : β} {ys : List β} : consO (some y) (some ys) = some (y :: ys) := rfl
@[simp] theorem omap_cs {α β : Type} {f : α → Option β} {x : α} {xs : List α} : omap f (x :: xs) = consO (f x) (omap f xs) := by
  show (match f x with | none => none | some y => match omap f xs with | none => none | some ys => some (y :: ys)) = _
  cases f x with
  | none => rfl
  | some y => cases omap f xs <;> rfl
theorem omap_map {α β : Type} {f : α → Option β} {g : α → β} : ∀ {xs : List α}, (∀ x ∈ xs, f x = some (g x)) → omap f xs = some (xs.map g)
  | [], _ => rfl
  | x :: xs, hx => by
    have ih := omap_map (xs := xs) fun y hy => hx y (List.mem_cons_of_mem _ hy)
    rw [omap_cs, hx x (List.mem_cons_self), ih]; rfl
def eqO : Option PyData → Option PyData → VH → Option (D × VH)
  | some p, some q, h => some (.bl (PyData.eqv p q), h)
  | _, _, _ => none
def neO : Option PyData → Option PyData → VH → Option (D × VH)
  | some p, some q, h => some (.bl (!PyData.eqv p q), h)
  | _, _, _ => none
@[simp] theorem eqO_s {p q : PyData} : eqO (some p) (some q) h = some (.bl (PyData.eqv p q), h) := rfl
@[simp] theorem neO_s {p q : PyData} : neO (some p) (some q) h = some (.bl (!PyData.eqv p q), h) := rfl
@[simp] theorem o_eq : eqF x y h = eqO (toPD h 16 x) (toPD h 16 y) h := by
  unfold eqF; cases toPD h 16 x <;> cases toPD h 16 y <;> rfl
@[simp] theorem o_ne : neF x y h = neO (toPD h 16 x) (toPD h 16 y) h := by
  unfold neF; cases toPD h 16 x <;> cases toPD h 16 y <;> rfl
@[simp high] theorem o_eqi : eqF (.int i) (.int j) h = some (.bl (decide (i = j)), h) := by
  show some (D.bl (i == j), h) = _
  rfl
@[simp high] theorem o_nei : neF (.int i) (.int j) h = some (.bl (!decide (i = j)), h) := rfl
@[simp high] theorem o_eqs : eqF (.str s) (.str t) h = some (.bl (s == t), h) := rfl
@[simp high] theorem o_nes : neF (.str s) (.str t) h = some (.bl (!(s == t)), h) := rfl
theorem atI_nat {α : Type} {xs : List α} {k : Nat} : L2.atI xs (k : Int) = xs[k]? := by
  unfold L2.atI ixN
  rw [if_pos (by omega)]
  by_cases q : k < xs.length
  · rw [if_pos (by omega)]; simp
  · rw [if_neg (by omega)]
    show none = _
    rw [List.getElem?_eq_none (by omega)]
theorem atI_pos {α : Type} {xs : List α} {k : Int} (h0 : 0 ≤ k) : L2.atI xs k = xs[k.toNat]? := by
  have := atI_nat (xs := xs) (k := k.toNat)
  rwa [Int.toNat_of_nonneg h0] at this
@[simp] theorem atI_0 {α : Type} {a : α} {xs : List α} : L2.atI (a :: xs) 0 = some a := atI_nat (k := 0)
@[simp] theorem atI_1 {α : Type} {a b : α} {xs : List α} : L2.atI (a :: b :: xs) 1 = some b := atI_nat (k := 1)
@[simp] theorem atI_2 {α : Type} {a b c : α} {xs : List α} : L2.atI (a :: b :: c :: xs) 2 = some c := atI_nat (k := 2)
@[simp] theorem atI_3 {α : Type} {a b c d : α} {xs : List α} : L2.atI (a :: b :: c :: d :: xs) 3 = some d := atI_nat (k := 3)
@[simp] theorem atI_last {α : Type} {a : α} {xs : List α} : L2.atI (xs ++ [a]) (-1) = some a := by
  unfold L2.atI ixN
  rw [if_neg (by omega), if_pos (by simp; omega)]
  have : ((-1 : Int) + ((xs ++ [a]).length : Int)).toNat = xs.length := by simp; omega
  rw [this]
  simp
@[simp] theorem ixN_lit0 : ixN (n + 1) 0 = some 0 := by unfold ixN; rw [if_pos (by omega), if_pos (by omega)]; rfl
@[simp] theorem ixN_lit1 : ixN (n + 2) 1 = some 1 := by unfold ixN; rw [if_pos (by omega), if_pos (by omega)]; rfl
def ixD : Option D → VH → Option (D × VH)
  | some d, h => some (d, h)
  | none, _ => none
@[simp] theorem ixD_s {d : D} : ixD (some d) h = some (d, h) := rfl
def ixO : Option (List D) → Int → VH → Option (D × VH)
  | some ds, i, h => ixD (L2.atI ds i) h
  | none, _, _ => none
@[simp] theorem ixO_s : ixO (some ds) i h = ixD (L2.atI ds i) h := rfl
theorem ixm {o : Option D} : (match o with | some d => some (d, h) | none => none) = ixD o h := by cases o <;> rfl
@[simp] theorem o_ixt : ixF (.tup ds) (.int i) h = ixD (L2.atI ds i) h := ixm
@[simp] theorem o_ixl : ixF (.lst ds) (.int i) h = ixD (L2.atI ds i) h := ixm
@[simp] theorem o_ixc {ns : List Int} : ixF (.scr ns) (.int i) h = ixD (L2.atI (ns.map D.int) i) h := ixm
@[simp] theorem o_ixx : ixF (.loc n) (.int i) h = ixO (listM (.loc n) h) i h := by
  show (match listM (.loc n) h with | some ds => (match L2.atI ds i with | some d => some (d, h) | none => none) | none => none) = _
  cases listM (.loc n) h with
  | none => rfl
  | some ds => exact ixm
def chO : Option Nat → VH → Option (D × VH)
  | some c, h => some (.str (chr1 c), h)
  | none, _ => none
@[simp] theorem chO_s {c : Nat} : chO (some c) h = some (.str (chr1 c), h) := rfl
@[simp] theorem o_ixs : ixF (.str s) (.int i) h = chO (L2.atI s.cps.toList i) h := by
  show (match L2.atI s.cps.toList i with | some c => some (D.str (chr1 c), h) | none => none) = _
  cases L2.atI s.cps.toList i <;> rfl
def lenO : Option Nat → VH → Option (D × VH)
  | some n, h => some (.int (n : Nat), h)
  | none, _ => none
@[simp] theorem lenO_s : lenO (some n) h = some (.int (n : Nat), h) := rfl
@[simp] theorem o_len : lenF [x] h = lenO (lenD x h) h := by
  unfold lenF
  cases q : lenD x h <;> simp [q] <;> rfl
@[simp] theorem lenD_str : lenD (.str s) h = some s.length := rfl
@[simp] theorem lenD_tup : lenD (.tup ds) h = some ds.length := rfl
@[simp] theorem lenD_lst : lenD (.lst ds) h = some ds.length := rfl
@[simp] theorem lenD_scr {ds : List Int} : lenD (.scr ds) h = some ds.length := by
  show some (ds.map D.int).length = _
  simp
def lenOb : Option O → Option Nat
  | some (.lst ds) => some ds.length
  | some (.dK kvs) => some kvs.length
  | _ => none
@[simp] theorem lenOb_l : lenOb (some (.lst ds)) = some ds.length := rfl
@[simp] theorem lenOb_k {ks : List (Key × D)} : lenOb (some (.dK ks)) = some ks.length := rfl
@[simp] theorem lenD_loc : lenD (.loc n) h = lenOb h[n]? := by
  show (match h[n]? with | some (.lst ds) => some ds.length | some (.dK kvs) => some kvs.length | _ => none) = _
  cases h[n]? with
  | none => rfl
  | some o => cases o <;> rfl
@[simp] theorem o_max2 : maxF [.int i, .int j] h = some (.int (if j > i then j else i), h) := rfl
@[simp] theorem o_min2 : minF [.int i, .int j] h = some (.int (if j < i then j else i), h) := rfl
@[simp] theorem o_intb {b : Bool} : intF [.bl b] h = some (.int (if b = true then 1 else 0), h) := rfl
@[simp] theorem o_inti : intF [.int i] h = some (.int i, h) := rfl
def tyO (T : String) : Option String → VH → Option (D × VH)
  | some a, h => some (.bl (isiB a T), h)
  | none, _ => none
@[simp] theorem tyO_s {T a : String} : tyO T (some a) h = some (.bl (isiB a T), h) := rfl
@[simp] theorem o_isi {T : String} : isiF T x h = tyO T (tyName x h) h := by
  unfold isiF; cases tyName x h <;> rfl
@[simp] theorem ty_non : tyName .non h = some "NoneType" := rfl
@[simp] theorem ty_bl {b : Bool} : tyName (.bl b) h = some "bool" := rfl
@[simp] theorem ty_int : tyName (.int i) h = some "int" := rfl
@[simp] theorem ty_str : tyName (.str s) h = some "str" := rfl
@[simp] theorem ty_tup : tyName (.tup ds) h = some "tuple" := rfl
@[simp] theorem ty_lst : tyName (.lst ds) h = some "list" := rfl
@[simp] theorem ty_scr {ds : List Int} : tyName (.scr ds) h = some "list" := rfl
def tyOb : Option O → Option String
  | some (.lst _) => some "list"
  | some (.dK _) => some "dict"
  | some (.dT _) => some "dict"
  | _ => none
@[simp] theorem tyOb_l : tyOb (some (.lst ds)) = some "list" := rfl
@[simp] theorem tyOb_k {ks : List (Key × D)} : tyOb (some (.dK ks)) = some "dict" := rfl
@[simp] theorem ty_loc : tyName (.loc n) h = tyOb h[n]? := by
  show (match h[n]? with | some (.lst _) => some "list" | some (.dK _) => some "dict" | some (.dT _) => some "dict" | _ => none) = _
  cases h[n]? with
  | none => rfl
  | some o => cases o <;> rfl
def appO (n : Nat) (y : D) : Option (List D) → VH → Option (D × VH)
  | some xs, h => if xs.length < sizeLine then some (.non, h.set n (.lst (xs ++ [y]))) else none
  | none, _ => none
@[simp] theorem appO_s : appO n y (some ds) h = if ds.length < sizeLine then some (.non, h.set n (.lst (ds ++ [y]))) else none := rfl
@[simp] theorem o_app : appF (.loc n) [y] h = appO n y (lsO h[n]?) h := by
  show (match h[n]? with | some (.lst xs) => (if xs.length < sizeLine then some (D.non, h.set n (.lst (xs ++ [y]))) else none) | _ => none) = _
  cases h[n]? with
  | none => rfl
  | some o => cases o <;> rfl
@[simp] theorem isL_loc : isL (.loc n) h = (lsO h[n]?).isSome := by
  unfold isL
  show (listM (.loc n) h).isSome = _
  rw [listM_loc]
@[simp] theorem isL_lst : isL (.lst ds) h = true := rfl
@[simp] theorem itD_tup : itD (.tup ds) h = some (ds, []) := rfl
@[simp] theorem itD_lst : itD (.lst ds) h = some (ds, []) := rfl
@[simp] theorem itD_str : itD (.str s) h = some (s.cps.toList.map fun c => .str (chr1 c), []) := rfl
@[simp] theorem itD_scr {ds : List Int} : itD (.scr ds) h = some (ds.map .int, []) := rfl
def itO (n : Nat) : Option (List D) → Option (List D × Ck)
  | some ds => some (ds, [(n, ds)])
  | none => none
@[simp] theorem itO_s : itO n (some ds) = some (ds, [(n, ds)]) := rfl
@[simp] theorem itD_loc : itD (.loc n) h = itO n (lsO h[n]?) := by
  show (match h[n]? with | some (.lst ds) => some (ds, [(n, ds)]) | _ => none) = _
  cases h[n]? with
  | none => rfl
  | some o => cases o <;> rfl
def mapO (f : List D → D) : Option (List D) → VH → Option (D × VH)
  | some ds, h => some (f ds, h)
  | none, _ => none
@[simp] theorem mapO_s {f : List D → D} : mapO f (some ds) h = some (f ds, h) := rfl
@[simp] theorem listOf_loc : listOf (.loc n) h = lsO h[n]? := listM_loc
@[simp] theorem listOf_lst : listOf (.lst ds) h = some ds := rfl
@[simp] theorem listOf_scr {ds : List Int} : listOf (.scr ds) h = some (ds.map .int) := rfl
@[simp] theorem o_rev : revF x h = mapO (fun ds => .lst ds.reverse) (listOf x h) h := by
  unfold revF; cases listOf x h <;> rfl
@[simp] theorem o_sls {lo hi : Option Int} : sliceF (.str s) lo hi h = some (.str (cutS s lo hi), h) := rfl
@[simp] theorem o_sll {lo hi : Option Int} : sliceF (.lst ds) lo hi h = some (.lst (cutD ds lo hi), h) := rfl
@[simp] theorem o_slt {lo hi : Option Int} : sliceF (.tup ds) lo hi h = some (.tup (cutD ds lo hi), h) := rfl
@[simp] theorem o_slx {lo hi : Option Int} : sliceF (.loc n) lo hi h = mapO (fun ds => .lst (cutD ds lo hi)) (lsO h[n]?) h := by
  show (match listM (.loc n) h with | some ds => some (D.lst (cutD ds lo hi), h) | none => none) = _
  rw [listM_loc]
  cases lsO h[n]? <;> rfl
@[simp] theorem o_tuplx : tupleF [.loc n] h = mapO (fun ds => .tup ds) (lsO h[n]?) h := by
  show (match listM (.loc n) h with | some ds => some (D.tup ds, h) | none => none) = _
  rw [listM_loc]
  cases lsO h[n]? <;> rfl
@[simp] theorem o_tupll : tupleF [.lst ds] h = some (.tup ds, h) := rfl
@[simp] theorem o_tupt : tupleF [.tup ds] h = some (.tup ds, h) := rfl
def blO (f : List Bool → Bool) : Option (List Bool) → VH → Option (D × VH)
  | some bs, h => some (.bl (f bs), h)
  | none, _ => none
@[simp] theorem blO_s {f : List Bool → Bool} {bs : List Bool} : blO f (some bs) h = some (.bl (f bs), h) := rfl
@[simp] theorem o_all : allF [x] h = blO (fun bs => bs.all id) ((listOf x h).bind blsOf) h := by
  show (match listOf x h with | some ds => (match blsOf ds with | some bs => some (D.bl (bs.all id), h) | none => none) | none => none) = _
  cases listOf x h with
  | none => rfl
  | some ds =>
    show _ = blO _ (blsOf ds) h
    cases q : blsOf ds <;> simp [q] <;> rfl
@[simp] theorem o_any : anyF [x] h = blO (fun bs => bs.any id) ((listOf x h).bind blsOf) h := by
  show (match listOf x h with | some ds => (match blsOf ds with | some bs => some (D.bl (bs.any id), h) | none => none) | none => none) = _
  cases listOf x h with
  | none => rfl
  | some ds =>
    show _ = blO _ (blsOf ds) h
    cases q : blsOf ds <;> simp [q] <;> rfl
theorem bls_map {α : Type} {f : α → Bool} : ∀ {xs : List α}, blsOf (xs.map fun x => D.bl (f x)) = some (xs.map f)
  | [] => rfl
  | x :: xs => by
    show omap _ (_ :: _) = _
    rw [omap_cs]
    have := bls_map (f := f) (xs := xs)
    unfold blsOf at this
    rw [this]; rfl
theorem ints_map : ∀ {xs : List Int}, intsOf (xs.map D.int) = some xs
  | [] => rfl
  | x :: xs => by
    show omap _ (_ :: _) = _
    rw [omap_cs]
    have := ints_map (xs := xs)
    unfold intsOf at this
    rw [this]; rfl
def miO (f : Int → List Int → Int) : Option (List Int) → VH → Option (D × VH)
  | some (n :: ns), h => some (.int (f n ns), h)
  | _, _ => none
@[simp] theorem miO_s {f : Int → List Int → Int} {n : Int} {ns : List Int} : miO f (some (n :: ns)) h = some (.int (f n ns), h) := rfl
@[simp] theorem o_minx : minF [.loc n] h = miO minL ((listOf (.loc n) h).bind intsOf) h := by
  show (match listOf (.loc n) h with | some ds => (match intsOf ds with | some (n :: ns) => some (D.int (minL n ns), h) | _ => none) | none => none) = _
  cases listOf (.loc n) h with
  | none => rfl
  | some ds =>
    show _ = miO minL (intsOf ds) h
    rcases q : intsOf ds with _ | _ | ⟨a, b⟩ <;> simp [q] <;> rfl
@[simp] theorem o_minl : minF [.lst ds] h = miO minL (intsOf ds) h := by
  show (match intsOf ds with | some (n :: ns) => some (D.int (minL n ns), h) | _ => none) = _
  rcases q : intsOf ds with _ | _ | ⟨a, b⟩ <;> simp [q] <;> rfl
@[simp] theorem o_maxx : maxF [.loc n] h = miO maxL ((listOf (.loc n) h).bind intsOf) h := by
  show (match listOf (.loc n) h with | some ds => (match intsOf ds with | some (n :: ns) => some (D.int (maxL n ns), h) | _ => none) | none => none) = _
  cases listOf (.loc n) h with
  | none => rfl
  | some ds =>
    show _ = miO maxL (intsOf ds) h
    rcases q : intsOf ds with _ | _ | ⟨a, b⟩ <;> simp [q] <;> rfl
@[simp] theorem o_maxl : maxF [.lst ds] h = miO maxL (intsOf ds) h := by
  show (match intsOf ds with | some (n :: ns) => some (D.int (maxL n ns), h) | _ => none) = _
  rcases q : intsOf ds with _ | _ | ⟨a, b⟩ <;> simp [q] <;> rfl
def reO : Option PyData → VH → Option (D × VH)
  | some p, h => if p.showable = true ∧ p.shown.length ≤ sizeLine then some (.str p.shown, h) else none
  | none, _ => none
@[simp] theorem reO_s {p : PyData} : reO (some p) h = if p.showable = true ∧ p.shown.length ≤ sizeLine then some (.str p.shown, h) else none := rfl
@[simp] theorem o_repr : reprF [x] h = reO (toPR h x) h := by
  show (match toPR h x with | some p => (if p.showable = true ∧ p.shown.length ≤ sizeLine then some (D.str p.shown, h) else none) | none => none) = _
  cases toPR h x <;> rfl
@[simp] theorem o_isN : isNF x .non h = some (.bl (match x with | .non => true | _ => false), h) := by
  unfold isNF; rfl
@[simp] theorem o_notN : notNF x .non h = some (.bl (match x with | .non => false | _ => true), h) := by
  unfold notNF; rfl
@[simp] theorem o_isB {a b : Bool} : isBF (.bl a) (.bl b) h = some (.bl (decide (a = b)), h) := rfl
@[simp] theorem o_notB {a b : Bool} : notBF (.bl a) (.bl b) h = some (.bl (!decide (a = b)), h) := rfl
end
end Mv

namespace Mv
open PySem L2

def mb__law_pool : Sm := (sSeq (sAsg (.nm 2) (eC (.int 0))) (sSeq (sIf (tVal (eOp ltF (eV 1) (eCall lenF (aCons (eV 0) aNil)))) (sAsg (.nm 2) (eOp ixF (eV 0) (eV 1))) sSkip) (sSeq (sAsg (.nm 3) (eCall maxF (aCons (eV 2) (aCons (eOp subF (eUn negF (eC (.int 1))) (eV 2)) aNil)))) (sSeq (sAsg (.nm 4) (eOp modF (eOp addF (eOp addF (eOp mulF (eOp modF (eV 3) (eC (.int 2147483629))) (eC (.int 16807))) (eOp mulF (eC (.int 104729)) (eV 1))) (eC (.int 11))) (eC (.int 2147483647)))) (sSeq (sIf (tVal (eOp ltF (eV 3) (eOp powF (eC (.int 10)) (eC (.int 18))))) (sAsg (.nm 3) (eC (.int 0))) sSkip) (sRet (eBox (lDisp (aCons (eV 3) (aCons (eV 4) aNil))))))))))
@[irreducible] def m__law_pool : Fd := fnM 5 mb__law_pool
theorem me__law_pool : m__law_pool = fnM 5 mb__law_pool := by unfold m__law_pool; rfl
def mb__law_take : Sm := (sSeq (sIf (tVal (eOp gtF (eOp ixF (eV 0) (eC (.int 0))) (eC (.int 0)))) (sSeq (sAsg (.nm 2) (eOp modF (eOp ixF (eV 0) (eC (.int 0))) (eV 1))) (sSeq (sSub (eV 0) (eC (.int 0)) (eOp fdivF (eOp ixF (eV 0) (eC (.int 0))) (eV 1))) (sRet (eV 2)))) sSkip) (sSeq (sSub (eV 0) (eC (.int 1)) (eOp modF (eOp addF (eOp mulF (eOp ixF (eV 0) (eC (.int 1))) (eC (.int 48271))) (eC (.int 11))) (eC (.int 2147483647)))) (sRet (eOp modF (eOp fdivF (eOp modF (eOp mulF (eOp ixF (eV 0) (eC (.int 1))) (eOp ixF (eV 0) (eC (.int 1)))) (eC (.int 2147483629))) (eC (.int 64))) (eV 1)))))
@[irreducible] def m__law_take : Fd := fnM 3 mb__law_take
theorem me__law_take : m__law_take = fnM 3 mb__law_take := by unfold m__law_take; rfl
end Mv

namespace Mv
open PySem L2

def k_BLANK : D := .tup [.str "blank", .str " "]
def k_LONGEST : D := .int 30
def k_MORE : D := .tup [.str "more"]
def k_LINE : D := .str "\n"
def mb_kind_here : Sm := (sRet (eBM isDk dgF (eV 0) (aCons (eV 1) (aCons (eC (.str "other")) aNil))))
@[irreducible] def m_kind_here : Fd := fnM 2 mb_kind_here
theorem me_kind_here : m_kind_here = fnM 2 mb_kind_here := by unfold m_kind_here; rfl
def mb__law_kinds : Sm := (sSeq (sAsg (.nm 1) (eDisp (pCons (eC (.str "\\")) (eC (.str "escape")) (pCons (eC (.str "{")) (eC (.str "open")) (pCons (eC (.str "}")) (eC (.str "shut")) (pCons (eC (.str "#")) (eC (.str "mark")) (pCons (eC (.str "~")) (eC (.str "active")) (pCons (eC (.str "!")) (eC (.str "remark")) (pCons (eC (.str " ")) (eC (.str "blank")) pNil))))))))) (sSeq (sDrop (eBM isDk duF (eV 1) (aCons (eDisp (pCons (eC (.str "\n")) (eC (.str "blank")) (pCons (eC (.str "\t")) (eC (.str "blank")) (pCons (eC (.str "a")) (eC (.str "letter")) (pCons (eC (.str "b")) (eC (.str "letter")) (pCons (eC (.str "c")) (eC (.str "letter")) (pCons (eC (.str "X")) (eC (.str "letter")) pNil))))))) aNil))) (sSeq (sAsg (.nm 2) (eL (lDisp (aCons (eC (.str "escape")) (aCons (eC (.str "open")) (aCons (eC (.str "shut")) (aCons (eC (.str "mark")) (aCons (eC (.str "letter")) (aCons (eC (.str "other")) (aCons (eC (.str "blank")) (aCons (eC (.str "active")) (aCons (eC (.str "remark")) (aCons (eC (.str "gone")) aNil))))))))))))) (sSeq (sFor (iRng1 (aCons (eFn 2 m__law_take (aCons (eV 0) (aCons (eC (.int 5)) aNil))) aNil)) (.nm 3) (sDPut (eV 1) (eOp ixF (eC (.str "\\{}#~! abX1-\t")) (eFn 2 m__law_take (aCons (eV 0) (aCons (eC (.int 13)) aNil)))) (eOp ixF (eV 2) (eFn 2 m__law_take (aCons (eV 0) (aCons (eC (.int 10)) aNil)))))) (sRet (eV 1))))))
@[irreducible] def m__law_kinds : Fd := fnM 4 mb__law_kinds
theorem me__law_kinds : m__law_kinds = fnM 4 mb__law_kinds := by unfold m__law_kinds; rfl
def mb__law_text : Sm := (sSeq (sAsg (.nm 2) (eC (.str "\\\\\\aabcX   {}#~!\n\t1-.?"))) (sRet (eBM isS joinF (eC (.str "")) (aCons (eLc (iRng1 (aCons (eFn 2 m__law_take (aCons (eV 0) (aCons (eOp addF (eV 1) (eC (.int 1))) aNil))) aNil)) (.nm 3) tYs (eOp ixF (eV 2) (eFn 2 m__law_take (aCons (eV 0) (aCons (eCall lenF (aCons (eV 2) aNil)) aNil)))) [3]) aNil))))
@[irreducible] def m__law_text : Fd := fnM 4 mb__law_text
theorem me__law_text : m__law_text = fnM 4 mb__law_text := by unfold m__law_text; rfl
def mb__law_kind : Sm := (sRet (eIf (tVal (eOp ltF (eV 2) (eCall lenF (aCons (eV 1) aNil)))) (eBM isDk dgF (eV 0) (aCons (eOp ixF (eV 1) (eV 2)) (aCons (eC (.str "other")) aNil))) (eC (.str "none"))))
@[irreducible] def m__law_kind : Fd := fnM 3 mb__law_kind
theorem me__law_kind : m__law_kind = fnM 3 mb__law_kind := by unfold m__law_kind; rfl
def mb__law_behind : Sm := (sSeq (whl (tVal (eOp eqF (eFn 3 m__law_kind (aCons (eV 0) (aCons (eV 1) (aCons (eV 2) aNil)))) (eV 3))) (sAsg (.nm 2) (eOp addF (eV 2) (eC (.int 1)))) FU) (sRet (eV 2)))
@[irreducible] def m__law_behind : Fd := fnM 4 mb__law_behind
theorem me__law_behind : m__law_behind = fnM 4 mb__law_behind := by unfold m__law_behind; rfl
def mb__law_passed : Sm := (sSeq (whl (tVal (eOp inF (eFn 3 m__law_kind (aCons (eV 0) (aCons (eV 1) (aCons (eV 2) aNil)))) (eL (lDisp (aCons (eC (.str "gone")) (aCons (eC (.str "remark")) aNil)))))) (sSeq (sIf (tVal (eOp eqF (eFn 3 m__law_kind (aCons (eV 0) (aCons (eV 1) (aCons (eV 2) aNil)))) (eC (.str "remark")))) (whl (tAn (tVal (eOp ltF (eV 2) (eCall lenF (aCons (eV 1) aNil)))) (tVal (eOp neF (eOp ixF (eV 1) (eV 2)) (eC (.str "\n"))))) (sAsg (.nm 2) (eOp addF (eV 2) (eC (.int 1)))) FU) sSkip) (sAsg (.nm 2) (eCall minF (aCons (eOp addF (eV 2) (eC (.int 1))) (aCons (eCall lenF (aCons (eV 1) aNil)) aNil))))) FU) (sRet (eV 2)))
@[irreducible] def m__law_passed : Fd := fnM 3 mb__law_passed
theorem me__law_passed : m__law_passed = fnM 3 mb__law_passed := by unfold m__law_passed; rfl
def mb__law_next : Sm := (sSeq (sAsg (.nm 4) (eFn 3 m__law_passed (aCons (eV 0) (aCons (eV 1) (aCons (eV 2) aNil))))) (sSeq (sAsg (.nm 5) (eFn 3 m__law_kind (aCons (eV 0) (aCons (eV 1) (aCons (eV 4) aNil))))) (sSeq (sIf (tOrr (tVal (eOp eqF (eV 5) (eC (.str "none")))) (tAn (tVal (eOp eqF (eV 5) (eC (.str "escape")))) (tVal (eOp eqF (eOp addF (eV 4) (eC (.int 1))) (eCall lenF (aCons (eV 1) aNil)))))) (sSeq (sIf (tVal (eV 3)) (sRet (eTup (aCons (eTup (aCons (eC (.str "more")) aNil)) (aCons (eV 2) aNil)))) sSkip) (sRet (eIf (tVal (eOp eqF (eV 5) (eC (.str "none")))) (eTup (aCons (eC .non) (aCons (eV 4) aNil))) (eTup (aCons (eC (.str "ends")) (aCons (eV 4) aNil)))))) sSkip) (sSeq (sAsg (.nm 6) (eTup (aCons (eV 5) (aCons (eOp ixF (eV 1) (eV 4)) aNil)))) (sSeq (sAsg (.nm 7) (eOp addF (eV 4) (eC (.int 1)))) (sSeq (sIf (tVal (eOp eqF (eV 5) (eC (.str "escape")))) (sSeq (sAsg (.nm 7) (eCall minF (aCons (eOp addF (eV 4) (eC (.int 31))) (aCons (eFn 4 m__law_behind (aCons (eV 0) (aCons (eV 1) (aCons (eOp addF (eV 4) (eC (.int 1))) (aCons (eC (.str "letter")) aNil))))) aNil)))) (sSeq (sIf (tVal (eOp eqF (eV 7) (eOp addF (eV 4) (eC (.int 1))))) (sRet (eTup (aCons (eTup (aCons (eC (.str "name")) (aCons (eOp ixF (eV 1) (eV 7)) aNil))) (aCons (eOp addF (eV 7) (eC (.int 1))) aNil)))) sSkip) (sAsg (.nm 6) (eTup (aCons (eC (.str "name")) (aCons (eSl (eV 1) (oSm (eOp addF (eV 4) (eC (.int 1)))) (oSm (eV 7))) aNil)))))) sSkip) (sSeq (sIf (tVal (eOp inF (eV 5) (eL (lDisp (aCons (eC (.str "escape")) (aCons (eC (.str "blank")) aNil)))))) (sSeq (sAsg (.nm 7) (eFn 4 m__law_behind (aCons (eV 0) (aCons (eV 1) (aCons (eV 7) (aCons (eC (.str "blank")) aNil)))))) (sSeq (sAsg (.nm 6) (eIf (tVal (eOp eqF (eV 5) (eC (.str "blank")))) (eTup (aCons (eC (.str "blank")) (aCons (eC (.str " ")) aNil))) (eV 6))) (sIf (tAn (tVal (eV 3)) (tVal (eOp eqF (eV 7) (eCall lenF (aCons (eV 1) aNil))))) (sRet (eTup (aCons (eTup (aCons (eC (.str "more")) aNil)) (aCons (eV 2) aNil)))) sSkip))) sSkip) (sRet (eTup (aCons (eV 6) (aCons (eV 7) aNil)))))))))))
@[irreducible] def m__law_next : Fd := fnM 8 mb__law_next
theorem me__law_next : m__law_next = fnM 8 mb__law_next := by unfold m__law_next; rfl
def mb_Mouth_has : Sm := (sRet (eOp ltF (eV 1) (eCall lenF (aCons (eUn (fldF ["Mouth"] "all_signs") (eV 0)) aNil))))
@[irreducible] def m_Mouth_has : Fd := fnM 2 mb_Mouth_has
theorem me_Mouth_has : m_Mouth_has = fnM 2 mb_Mouth_has := by unfold m_Mouth_has; rfl
def mb_Mouth_kind_at : Sm := (sRet (eIf (tVal (eMt "Mouth" "has" 1 0 2 m_Mouth_has [.pos 0, .pos 1] (eV 0) (aCons (eV 2) aNil) aNil)) (eFn 2 m_kind_here (aCons (eV 1) (aCons (eOp ixF (eUn (fldF ["Mouth"] "all_signs") (eV 0)) (eV 2)) aNil))) (eC (.str "none"))))
@[irreducible] def m_Mouth_kind_at : Fd := fnM 3 mb_Mouth_kind_at
theorem me_Mouth_kind_at : m_Mouth_kind_at = fnM 3 mb_Mouth_kind_at := by unfold m_Mouth_kind_at; rfl
def mb_Mouth_behind_remark : Sm := (sSeq (sAsg (.nm 2) (eBM isS find3F (eUn (fldF ["Mouth"] "all_signs") (eV 0)) (aCons (eC k_LINE) (aCons (eV 1) aNil)))) (sRet (eIf (tVal (eOp ltF (eV 2) (eC (.int 0)))) (eCall lenF (aCons (eUn (fldF ["Mouth"] "all_signs") (eV 0)) aNil)) (eOp addF (eV 2) (eC (.int 1))))))
@[irreducible] def m_Mouth_behind_remark : Fd := fnM 3 mb_Mouth_behind_remark
theorem me_Mouth_behind_remark : m_Mouth_behind_remark = fnM 3 mb_Mouth_behind_remark := by unfold m_Mouth_behind_remark; rfl
def mb_Mouth_passed : Sm := (sSeq (sAsg (.nm 2) (eUn (fldF ["Mouth"] "at") (eV 0))) (sSeq (whl (tVal (eOp inF (eMt "Mouth" "kind_at" 2 0 3 m_Mouth_kind_at [.pos 0, .pos 1, .pos 2] (eV 0) (aCons (eV 1) (aCons (eV 2) aNil)) aNil) (eTup (aCons (eC (.str "gone")) (aCons (eC (.str "remark")) aNil))))) (sAsg (.nm 2) (eIf (tVal (eOp eqF (eMt "Mouth" "kind_at" 2 0 3 m_Mouth_kind_at [.pos 0, .pos 1, .pos 2] (eV 0) (aCons (eV 1) (aCons (eV 2) aNil)) aNil) (eC (.str "gone")))) (eOp addF (eV 2) (eC (.int 1))) (eMt "Mouth" "behind_remark" 1 0 2 m_Mouth_behind_remark [.pos 0, .pos 1] (eV 0) (aCons (eV 2) aNil) aNil))) FU) (sRet (eV 2))))
@[irreducible] def m_Mouth_passed : Fd := fnM 3 mb_Mouth_passed
theorem me_Mouth_passed : m_Mouth_passed = fnM 3 mb_Mouth_passed := by unfold m_Mouth_passed; rfl
def mb_Mouth_behind_all : Sm := (sSeq (whl (tVal (eOp eqF (eMt "Mouth" "kind_at" 2 0 3 m_Mouth_kind_at [.pos 0, .pos 1, .pos 2] (eV 0) (aCons (eV 1) (aCons (eV 3) aNil)) aNil) (eV 2))) (sAug 3 iaddF (eC (.int 1))) FU) (sRet (eV 3)))
@[irreducible] def m_Mouth_behind_all : Fd := fnM 4 mb_Mouth_behind_all
theorem me_Mouth_behind_all : m_Mouth_behind_all = fnM 4 mb_Mouth_behind_all := by unfold m_Mouth_behind_all; rfl
def mb_Mouth_named : Sm := (sSeq (sIf (tVal (eOp neF (eMt "Mouth" "kind_at" 2 0 3 m_Mouth_kind_at [.pos 0, .pos 1, .pos 2] (eV 0) (aCons (eV 1) (aCons (eV 2) aNil)) aNil) (eC (.str "letter")))) (sRet (eTup (aCons (eTup (aCons (eC (.str "name")) (aCons (eOp ixF (eUn (fldF ["Mouth"] "all_signs") (eV 0)) (eV 2)) aNil))) (aCons (eOp addF (eV 2) (eC (.int 1))) (aCons (eC (.bl false)) aNil))))) sSkip) (sSeq (sAsg (.nm 3) (eCall minF (aCons (eOp addF (eV 2) (eC k_LONGEST)) (aCons (eMt "Mouth" "behind_all" 3 0 4 m_Mouth_behind_all [.pos 0, .pos 1, .pos 2, .pos 3] (eV 0) (aCons (eV 1) (aCons (eC (.str "letter")) (aCons (eV 2) aNil))) aNil) aNil)))) (sRet (eTup (aCons (eTup (aCons (eC (.str "name")) (aCons (eSl (eUn (fldF ["Mouth"] "all_signs") (eV 0)) (oSm (eV 2)) (oSm (eV 3))) aNil))) (aCons (eMt "Mouth" "behind_all" 3 0 4 m_Mouth_behind_all [.pos 0, .pos 1, .pos 2, .pos 3] (eV 0) (aCons (eV 1) (aCons (eC (.str "blank")) (aCons (eV 3) aNil))) aNil) (aCons (eC (.bl true)) aNil)))))))
@[irreducible] def m_Mouth_named : Fd := fnM 4 mb_Mouth_named
theorem me_Mouth_named : m_Mouth_named = fnM 4 mb_Mouth_named := by unfold m_Mouth_named; rfl
def mb_Mouth_piece_at : Sm := (sSeq (sAsg (.nm 3) (eMt "Mouth" "kind_at" 2 0 3 m_Mouth_kind_at [.pos 0, .pos 1, .pos 2] (eV 0) (aCons (eV 1) (aCons (eV 2) aNil)) aNil)) (sSeq (sIf (tVal (eOp eqF (eV 3) (eC (.str "escape")))) (sRet (eIf (tVal (eMt "Mouth" "has" 1 0 2 m_Mouth_has [.pos 0, .pos 1] (eV 0) (aCons (eOp addF (eV 2) (eC (.int 1))) aNil) aNil)) (eMt "Mouth" "named" 2 0 3 m_Mouth_named [.pos 0, .pos 1, .pos 2] (eV 0) (aCons (eV 1) (aCons (eOp addF (eV 2) (eC (.int 1))) aNil)) aNil) (eTup (aCons (eC .non) (aCons (eOp addF (eV 2) (eC (.int 1))) (aCons (eC (.bl true)) aNil)))))) sSkip) (sSeq (sIf (tVal (eOp eqF (eV 3) (eC (.str "blank")))) (sRet (eTup (aCons (eC k_BLANK) (aCons (eMt "Mouth" "behind_all" 3 0 4 m_Mouth_behind_all [.pos 0, .pos 1, .pos 2, .pos 3] (eV 0) (aCons (eV 1) (aCons (eC (.str "blank")) (aCons (eV 2) aNil))) aNil) (aCons (eC (.bl true)) aNil))))) sSkip) (sRet (eTup (aCons (eTup (aCons (eV 3) (aCons (eOp ixF (eUn (fldF ["Mouth"] "all_signs") (eV 0)) (eV 2)) aNil))) (aCons (eOp addF (eV 2) (eC (.int 1))) (aCons (eC (.bl false)) aNil))))))))
@[irreducible] def m_Mouth_piece_at : Fd := fnM 4 mb_Mouth_piece_at
theorem me_Mouth_piece_at : m_Mouth_piece_at = fnM 4 mb_Mouth_piece_at := by unfold m_Mouth_piece_at; rfl
def mb_Mouth_ended : Sm := (sSeq (sIf (tVal (eUn (fldF ["Mouth"] "may_grow") (eV 0))) (sRet (eC k_MORE)) sSkip) (sSeq (sFldS ["Mouth"] "at" (eV 0) (eV 1)) (sRet (eC .non))))
@[irreducible] def m_Mouth_ended : Fd := fnM 2 mb_Mouth_ended
theorem me_Mouth_ended : m_Mouth_ended = fnM 2 mb_Mouth_ended := by unfold m_Mouth_ended; rfl
def mb_Mouth_following : Sm := (sSeq (sAsg (.nm 2) (eMt "Mouth" "passed" 1 0 2 m_Mouth_passed [.pos 0, .pos 1] (eV 0) (aCons (eV 1) aNil) aNil)) (sSeq (sIf (tNt (tVal (eMt "Mouth" "has" 1 0 2 m_Mouth_has [.pos 0, .pos 1] (eV 0) (aCons (eV 2) aNil) aNil))) (sRet (eMt "Mouth" "ended" 1 0 2 m_Mouth_ended [.pos 0, .pos 1] (eV 0) (aCons (eV 2) aNil) aNil)) sSkip) (sSeq (sAsg (.tp [3, 4, 5]) (eMt "Mouth" "piece_at" 2 0 3 m_Mouth_piece_at [.pos 0, .pos 1, .pos 2] (eV 0) (aCons (eV 1) (aCons (eV 2) aNil)) aNil)) (sSeq (sIf (tAn (tVal (eUn (fldF ["Mouth"] "may_grow") (eV 0))) (tAn (tVal (eV 5)) (tNt (tVal (eMt "Mouth" "has" 1 0 2 m_Mouth_has [.pos 0, .pos 1] (eV 0) (aCons (eV 4) aNil) aNil))))) (sRet (eC k_MORE)) sSkip) (sSeq (sIf (tVal (eOp isNF (eV 3) (eC .non))) (sSeq (sFldS ["Mouth"] "at" (eV 0) (eV 2)) (sRaise0 "Ends")) sSkip) (sSeq (sFldS ["Mouth"] "at" (eV 0) (eV 4)) (sRet (eV 3))))))))
@[irreducible] def m_Mouth_following : Fd := fnM 6 mb_Mouth_following
theorem me_Mouth_following : m_Mouth_following = fnM 6 mb_Mouth_following := by unfold m_Mouth_following; rfl
def mb_Mouth___init__ : Sm := (sSeq (sFldS ["Mouth"] "all_signs" (eV 0) (eV 1)) (sSeq (sFldS ["Mouth"] "at" (eV 0) (eC (.int 0))) (sFldS ["Mouth"] "may_grow" (eV 0) (eV 2))))
@[irreducible] def m_Mouth___init__ : Fd := fnM 3 mb_Mouth___init__
theorem me_Mouth___init__ : m_Mouth___init__ = fnM 3 mb_Mouth___init__ := by unfold m_Mouth___init__; rfl
def mb_Mouth_text : Sm := (sRet (eUn (fldF ["Mouth"] "all_signs") (eV 0)))
@[irreducible] def m_Mouth_text : Fd := fnM 1 mb_Mouth_text
theorem me_Mouth_text : m_Mouth_text = fnM 1 mb_Mouth_text := by unfold m_Mouth_text; rfl
def mb_Mouth_place : Sm := (sRet (eUn (fldF ["Mouth"] "at") (eV 0)))
@[irreducible] def m_Mouth_place : Fd := fnM 1 mb_Mouth_place
theorem me_Mouth_place : m_Mouth_place = fnM 1 mb_Mouth_place := by unfold m_Mouth_place; rfl
def mb_Mouth_is_open : Sm := (sRet (eUn (fldF ["Mouth"] "may_grow") (eV 0)))
@[irreducible] def m_Mouth_is_open : Fd := fnM 1 mb_Mouth_is_open
theorem me_Mouth_is_open : m_Mouth_is_open = fnM 1 mb_Mouth_is_open := by unfold m_Mouth_is_open; rfl
end Mv

namespace Mv
open PySem L2

def mb__law_told : Sm := (sTryO (sRet (eMt "Mouth" "following" 1 0 2 m_Mouth_following [.pos 0, .pos 1] (eV 0) (aCons (eV 1) aNil) aNil)) [("Ends", true), ("Shut", false)] (sRet (eC (.str "ends"))))
@[irreducible] def m__law_told : Fd := fnM 2 mb__law_told
theorem me__law_told : m__law_told = fnM 2 mb__law_told := by unfold m__law_told; rfl
def mb_Mouth_feed : Sm := (sSeq (sIf (tNt (tVal (eUn (fldF ["Mouth"] "may_grow") (eV 0)))) (sRaise0 "Shut") sSkip) (sFldA ["Mouth"] "all_signs" iaddF (eV 0) (eV 1)))
@[irreducible] def m_Mouth_feed : Fd := fnM 2 mb_Mouth_feed
theorem me_Mouth_feed : m_Mouth_feed = fnM 2 mb_Mouth_feed := by unfold m_Mouth_feed; rfl
def mb_Mouth_shut : Sm := (sFldS ["Mouth"] "may_grow" (eV 0) (eC (.bl false)))
@[irreducible] def m_Mouth_shut : Fd := fnM 1 mb_Mouth_shut
theorem me_Mouth_shut : m_Mouth_shut = fnM 1 mb_Mouth_shut := by unfold m_Mouth_shut; rfl
def mb__law_fed_on : Sm := (sSeq (sAsg (.nm 3) (eFn 2 m__law_told (aCons (eV 0) (aCons (eV 2) aNil)))) (sSeq (whl (tVal (eOp eqF (eV 3) (eTup (aCons (eC (.str "more")) aNil)))) (sSeq (sIf (tVal (eOp eqF (eV 1) (eL (lDisp aNil)))) (sDrop (eMt "Mouth" "shut" 0 0 1 m_Mouth_shut [.pos 0] (eV 0) aNil aNil)) (sDrop (eMt "Mouth" "feed" 1 0 2 m_Mouth_feed [.pos 0, .pos 1] (eV 0) (aCons (eBM isL popF (eV 1) (aCons (eC (.int 0)) aNil)) aNil) aNil))) (sAsg (.nm 3) (eFn 2 m__law_told (aCons (eV 0) (aCons (eV 2) aNil))))) FU) (sRet (eV 3))))
@[irreducible] def m__law_fed_on : Fd := fnM 4 mb__law_fed_on
theorem me__law_fed_on : m__law_fed_on = fnM 4 mb__law_fed_on := by unfold m__law_fed_on; rfl
def mb__law_read : Sm := (sSeq (sAsg (.nm 4) (eBox (lDisp aNil))) (sSeq (whl (tOrr (tVal (eOp eqF (eV 4) (eL (lDisp aNil)))) (tVal (eOp ninPF (eOp ixF (eV 4) (eUn negF (eC (.int 1)))) (eL (lDisp (aCons (eC .non) (aCons (eC (.str "ends")) aNil))))))) (sSeq (sIf (tAn (tVal (eV 3)) (tVal (eOp neF (eV 1) (eL (lDisp aNil))))) (sDrop (eMt "Mouth" "feed" 1 0 2 m_Mouth_feed [.pos 0, .pos 1] (eV 0) (aCons (eBM isL popF (eV 1) (aCons (eC (.int 0)) aNil)) aNil) aNil)) sSkip) (sDrop (eBM isL appF (eV 4) (aCons (eFn 3 m__law_fed_on (aCons (eV 0) (aCons (eV 1) (aCons (eOp ixF (eV 2) (eOp modF (eCall lenF (aCons (eV 4) aNil)) (eCall lenF (aCons (eV 2) aNil)))) aNil)))) aNil)))) FU) (sRet (eV 4))))
@[irreducible] def m__law_read : Fd := fnM 5 mb__law_read
theorem me__law_read : m__law_read = fnM 5 mb__law_read := by unfold m__law_read; rfl
def mb__law_cut : Sm := (sSeq (sAsg (.nm 2) (eL (lCall sortFL (aCons (eLc (iRng1 (aCons (eFn 2 m__law_take (aCons (eV 0) (aCons (eC (.int 10)) aNil))) aNil)) (.nm 3) tYs (eFn 2 m__law_take (aCons (eV 0) (aCons (eOp addF (eCall lenF (aCons (eV 1) aNil)) (eC (.int 1))) aNil))) [3]) aNil)))) (sRet (eLc (iZipD (aCons (eOp addF (eL (lDisp (aCons (eC (.int 0)) aNil))) (eV 2)) (aCons (eOp addF (eV 2) (eL (lDisp (aCons (eCall lenF (aCons (eV 1) aNil)) aNil)))) aNil))) (.tp [4, 5]) tYs (eSl (eV 1) (oSm (eV 4)) (oSm (eV 5))) [4, 5])))
@[irreducible] def m__law_cut : Fd := fnM 6 mb__law_cut
theorem me__law_cut : m__law_cut = fnM 6 mb__law_cut := by unfold m__law_cut; rfl
def mb__law_long_right : Sm := (sSeq (sAsg (.nm 0) (eDisp (pCons (eC (.str "\\")) (eC (.str "escape")) (pCons (eC (.str "a")) (eC (.str "letter")) (pCons (eC (.str " ")) (eC (.str "blank")) pNil))))) (sSeq (sFor (iSeq (eL (lDisp (aCons (eC (.int 29)) (aCons (eC (.int 30)) (aCons (eC (.int 31)) (aCons (eC (.int 62)) aNil))))))) (.nm 1) (sSeq (sAsg (.nm 2) (eOp addF (eOp addF (eC (.str "\\")) (eOp repSF (eC (.str "a")) (eV 1))) (eC (.str "  \\a")))) (sSeq (sAsg (.nm 3) (eFn 4 m__law_read (aCons (eMk "Mouth" 1 0 3 m_Mouth___init__ [.pos 0, .pos 1, .df (.bl false)] (aCons (eV 2) aNil) aNil) (aCons (eBox (lDisp aNil)) (aCons (eL (lDisp (aCons (eV 0) aNil))) (aCons (eC (.bl false)) aNil)))))) (sFor (iSeq (eL (lDisp (aCons (eC (.int 1)) (aCons (eC (.int 2)) (aCons (eC (.int 30)) (aCons (eC (.int 31)) aNil))))))) (.nm 4) (sSeq (sAsg (.nm 5) (eBox (lLc (iRng3 (aCons (eC (.int 0)) (aCons (eCall lenF (aCons (eV 2) aNil)) (aCons (eV 4) aNil)))) (.nm 6) tYs (eSl (eV 2) (oSm (eV 6)) (oSm (eOp addF (eV 6) (eV 4)))) [6]))) (sIf (tVal (eOp neF (eFn 4 m__law_read (aCons (eMk "Mouth" 1 1 3 m_Mouth___init__ [.pos 0, .pos 1, .kw 0] (aCons (eC (.str "")) aNil) (aCons (eC (.bl true)) aNil)) (aCons (eV 5) (aCons (eL (lDisp (aCons (eV 0) aNil))) (aCons (eC (.bl false)) aNil))))) (eV 3))) (sRet (eC (.bl false))) sSkip)))))) (sRet (eC (.bl true)))))
@[irreducible] def m__law_long_right : Fd := fnM 7 mb__law_long_right
theorem me__law_long_right : m__law_long_right = fnM 7 mb__law_long_right := by unfold m__law_long_right; rfl
def mb_law : Sm := (sSeq (sIf (tNt (tVal (eFn 0 m__law_long_right aNil))) (sRet (eC (.bl false))) sSkip) (sSeq (sFor (iRng1 (aCons (eCall maxF (aCons (eC (.int 1)) (aCons (eCall minF (aCons (eCall lenF (aCons (eV 0) aNil)) (aCons (eC (.int 8)) aNil))) aNil))) aNil)) (.nm 1) (sSeq (sAsg (.nm 2) (eFn 2 m__law_pool (aCons (eV 0) (aCons (eV 1) aNil)))) (sSeq (sAsg (.nm 3) (eFn 2 m__law_text (aCons (eV 2) (aCons (eC (.int 50)) aNil)))) (sSeq (sAsg (.nm 4) (eLc (iRng1 (aCons (eOp addF (eC (.int 1)) (eFn 2 m__law_take (aCons (eV 2) (aCons (eC (.int 4)) aNil)))) aNil)) (.nm 10) tYs (eFn 1 m__law_kinds (aCons (eV 2) aNil)) [10])) (sSeq (sAsg (.nm 5) (eMk "Mouth" 1 0 3 m_Mouth___init__ [.pos 0, .pos 1, .df (.bl false)] (aCons (eV 3) aNil) aNil)) (sSeq (sAsg (.nm 6) (eFn 4 m__law_read (aCons (eV 5) (aCons (eBox (lDisp aNil)) (aCons (eV 4) (aCons (eC (.bl false)) aNil)))))) (sFor (iSeq (eL (lDisp (aCons (eLc (iSeq (eV 3)) (.nm 11) tYs (eV 11) [11]) (aCons (eFn 2 m__law_cut (aCons (eV 2) (aCons (eV 3) aNil))) (aCons (eFn 2 m__law_cut (aCons (eV 2) (aCons (eV 3) aNil))) aNil)))))) (.nm 7) (sSeq (sAsg (.nm 8) (eMk "Mouth" 1 1 3 m_Mouth___init__ [.pos 0, .pos 1, .kw 0] (aCons (eC (.str "")) aNil) (aCons (eC (.bl true)) aNil))) (sSeq (sAsg (.nm 9) (eFn 4 m__law_read (aCons (eV 8) (aCons (eBox (lCall listFL (aCons (eV 7) aNil))) (aCons (eV 4) (aCons (eOp eqF (eFn 2 m__law_take (aCons (eV 2) (aCons (eC (.int 2)) aNil))) (eC (.int 0))) aNil)))))) (sSeq (sIf (tOrr (tVal (eOp neF (eCall reprF (aCons (eV 9) aNil)) (eCall reprF (aCons (eV 6) aNil)))) (tVal (eOp neF (eSl (eMt "Mouth" "text" 0 0 1 m_Mouth_text [.pos 0] (eV 8) aNil aNil) oNo (oSm (eMt "Mouth" "place" 0 0 1 m_Mouth_place [.pos 0] (eV 5) aNil aNil))) (eSl (eV 3) oNo (oSm (eMt "Mouth" "place" 0 0 1 m_Mouth_place [.pos 0] (eV 5) aNil aNil)))))) (sRet (eC (.bl false))) sSkip) (sIf (tVal (eOp neF (eMt "Mouth" "place" 0 0 1 m_Mouth_place [.pos 0] (eV 8) aNil aNil) (eMt "Mouth" "place" 0 0 1 m_Mouth_place [.pos 0] (eV 5) aNil aNil))) (sRet (eC (.bl false))) sSkip))))))))))) (sRet (eC (.bl true)))))
@[irreducible] def m_law : Fd := fnM 12 mb_law
theorem me_law : m_law = fnM 12 mb_law := by unfold m_law; rfl
end Mv

namespace Mv
open PySem L2
/-- all but the named objects stay -/
def Frm (S : List Nat) (h h1 : VH) : Prop := h.length ≤ h1.length ∧ ∀ n, n < h.length → n ∉ S → h1[n]? = h[n]?
theorem Frm.refl (S : List Nat) (h : VH) : Frm S h h := ⟨Nat.le_refl _, fun _ _ _ => rfl⟩
theorem Frm.trans {S : List Nat} {h h1 h2 : VH} (a : Frm S h h1) (b : Frm S h1 h2) : Frm S h h2 := ⟨Nat.le_trans a.1 b.1, fun n hn hs => (b.2 n (Nat.lt_of_lt_of_le hn a.1) hs).trans (a.2 n hn hs)⟩
theorem Frm.get {S : List Nat} {h h1 : VH} (a : Frm S h h1) {n : Nat} {o : O} (e : h[n]? = some o) (hs : n ∉ S) : h1[n]? = some o := by
  rw [a.2 n (List.getElem?_eq_some_iff.mp e).1 hs]; exact e
theorem Frm.set {S : List Nat} {h h1 : VH} (a : Frm S h h1) {n : Nat} {o : O} (hs : n ∈ S ∨ h.length ≤ n) : Frm S h (h1.set n o) := ⟨by rw [List.length_set]; exact a.1, fun m hm hms => by
  rw [List.getElem?_set_ne (fun z => by subst z; rcases hs with hs | hs; exact hms hs; omega)]
  exact a.2 m hm hms⟩
theorem Frm.add {S : List Nat} {h h1 : VH} (a : Frm S h h1) {o : List O} : Frm S h (h1 ++ o) := ⟨by rw [List.length_append]; exact Nat.le_trans a.1 (Nat.le_add_right _ _), fun m hm hms => by
  rw [List.getElem?_append_left (Nat.lt_of_lt_of_le hm a.1)]
  exact a.2 m hm hms⟩
/-- another set of names -/
theorem Frm.weak {S T : List Nat} {h h1 : VH} (a : Frm S h h1) (hs : ∀ n ∈ S, n < h.length → n ∈ T) : Frm T h h1 := ⟨a.1, fun n hn ht => a.2 n hn fun z => ht (hs n z hn)⟩
def Pool (h : VH) (p : Nat) : Prop := ∃ a b : Int, h[p]? = some (.lst [.int a, .int b]) ∧ 0 ≤ b ∧ b < 2147483647
theorem Pool.lt {h : VH} {p : Nat} (a : Pool h p) : p < h.length := by
  obtain ⟨_, _, e, _⟩ := a
  exact (List.getElem?_eq_some_iff.mp e).1
theorem Pool.frm {S : List Nat} {h h1 : VH} {p : Nat} (a : Pool h p) (f : Frm S h h1) (hp : p ∉ S) : Pool h1 p := by
  obtain ⟨x, y, e, r⟩ := a
  exact ⟨x, y, f.get e hp, r⟩
theorem take_spec {h : VH} {p : Nat} {n : Int} {Z : Xc → VH → Prop} (hp : Pool h p) (hn : 0 < n) (hn2 : n < 1073741824) : Aft (m__law_take [.loc p, .int n] h) (fun d h1 => ∃ k, d = .int k ∧ 0 ≤ k ∧ k < n ∧ Pool h1 p ∧ Frm [p] h h1) Z := by
  obtain ⟨a, b, e, b1, b2⟩ := hp
  have hl := (List.getElem?_eq_some_iff.mp e).1
  refine Aft.af ?_
  rw [me__law_take, f_fnM]
  simp [mb__law_take, e, hn, hn2, List.getElem?_set_self hl, subS]
  split
  · refine ⟨Int.emod_nonneg _ (by omega), Int.emod_lt_of_pos _ hn, ⟨_, _, List.getElem?_set_self hl, b1, b2⟩, (Frm.refl _ _).set (.inl (by simp))⟩
  · refine ⟨⟨by omega, by omega⟩, Int.emod_nonneg _ (by omega), Int.emod_lt_of_pos _ hn, ⟨_, _, List.getElem?_set_self hl, by omega, by omega⟩, (Frm.refl _ _).set (.inl (by simp))⟩
theorem pool_spec {h : VH} {ns : List Int} {k : Nat} {Z : Xc → VH → Prop} (hk : k < 1000) : Aft (m__law_pool [.scr ns, .int k] h) (fun d h1 => ∃ a b, d = .loc h.length ∧ h1 = h ++ [.lst [.int a, .int b]] ∧ 0 ≤ b ∧ b < 2147483647) Z := by
  refine Aft.af ?_
  rw [me__law_pool, f_fnM]
  by_cases hk1 : k < ns.length
  · have e : L2.atI (ns.map D.int) (k : Int) = some (.int ns[k]) := by
      rw [atI_nat]; simp [hk1]
    simp [mb__law_pool, hk1, e]
    generalize ns[k] = c
    repeat' split
    all_goals exact ⟨_, _, ⟨rfl, rfl⟩, by omega, by omega⟩
  · simp [mb__law_pool, hk1]
    exact ⟨_, _, ⟨rfl, rfl⟩, by omega, by omega⟩
end Mv

namespace Mv
open PySem L2
/-! ### how long a text shown is -/
@[simp] theorem slen_append (a b : Str) : (a ++ b).length = a.length + b.length := by
  show (a.cps ++ b.cps).size = _
  rw [Array.size_append]; rfl
theorem textFrom_len {M : Nat} : ∀ (ts : List Str) (k : Nat) (acc : Str), (∀ t ∈ ts, t.length ≤ M) → (textFrom k acc ts).length ≤ acc.length + ts.length * (M + 2)
  | [], _, acc, _ => by simp [textFrom]
  | t :: ts, k, acc, ht => by
    unfold textFrom
    refine Nat.le_trans (textFrom_len ts (k + 1) _ fun u hu => ht u (List.mem_cons_of_mem _ hu)) ?_
    have h1 := ht t (List.mem_cons_self)
    have h2 : (Str.ofString (if k > 0 then ", " else "")).length ≤ 2 := by split <;> decide
    rw [slen_append, slen_append, List.length_cons, Nat.add_mul, Nat.one_mul]
    omega
theorem join_len {M : Nat} {sep : Str} (hs : sep.length ≤ 2) : ∀ (ts : List Str), (∀ t ∈ ts, t.length ≤ M) → (Str.join sep ts).length ≤ ts.length * (M + 2)
  | [], _ => by show Str.empty.length ≤ _; exact Nat.zero_le _
  | [x], h => by
    have := h x (by simp)
    show x.length ≤ _
    simp; omega
  | x :: y :: r, h => by
    have ih := join_len hs (y :: r) fun t ht => h t (List.mem_cons_of_mem _ ht)
    have h1 := h x (by simp)
    show (x ++ sep ++ Str.join sep (y :: r)).length ≤ _
    rw [slen_append, slen_append, List.length_cons, Nat.add_mul, Nat.one_mul]
    omega
theorem shownAll_map : ∀ xs : List PyData, PyData.shownAll xs = xs.map PyData.shown
  | [] => by simp [PyData.shownAll]
  | x :: xs => by simp [PyData.shownAll, shownAll_map xs]
theorem shown_list_len {M : Nat} {xs : List PyData} (h : ∀ x ∈ xs, x.shown.length ≤ M) : (PyData.list xs).shown.length ≤ 2 + xs.length * (M + 2) := by
  simp only [PyData.shown]
  have := textFrom_len (M := M) (PyData.shownAll xs) 0 (Str.ofString "[") (by
    rw [shownAll_map]
    intro t ht
    obtain ⟨x, hx, rfl⟩ := List.mem_map.mp ht
    exact h x hx)
  unfold listText
  rw [slen_append]
  have e1 : (Str.ofString "[").length = 1 := by decide
  have e2 : (Str.ofString "]").length = 1 := by decide
  have e3 : (PyData.shownAll xs).length = xs.length := by rw [shownAll_map, List.length_map]
  rw [e1, e3] at this
  omega
theorem shown_tup_len {M : Nat} {xs : List PyData} (h : ∀ x ∈ xs, x.shown.length ≤ M) : (PyData.tuple xs).shown.length ≤ 4 + xs.length * (M + 2) := by
  simp only [PyData.shown]
  have := join_len (M := M) (sep := Str.ofString ", ") (by decide) (PyData.shownAll xs) (by
    rw [shownAll_map]
    intro t ht
    obtain ⟨x, hx, rfl⟩ := List.mem_map.mp ht
    exact h x hx)
  unfold tupleText
  rw [slen_append, slen_append]
  have e1 : (Str.ofString "(").length = 1 := by decide
  have e3 : (PyData.shownAll xs).length = xs.length := by rw [shownAll_map, List.length_map]
  rw [e3] at this
  have e2 : ∀ c : Prop, ∀ [Decidable c], (Str.ofString (if c then ",)" else ")")).length ≤ 2 := by
    intro c _; split <;> decide
  have e4 := e2
  have : ∀ s : Str, s.length ≤ 2 → (Str.ofString "(").length + (Str.join (Str.ofString ", ") (PyData.shownAll xs)).length + s.length ≤ 4 + xs.length * (M + 2) := fun s hs => by omega
  refine this _ ?_
  first | exact e2 _ | (split <;> decide)
theorem showableAll_of : ∀ {xs : List PyData}, (∀ x ∈ xs, x.showable = true) → PyData.showableAll xs = true
  | [], _ => by simp [PyData.showableAll]
  | x :: xs, h => by
    simp only [PyData.showableAll, Bool.and_eq_true]
    exact ⟨h x (by simp), showableAll_of fun y hy => h y (List.mem_cons_of_mem _ hy)⟩
/-! ### values that hold no reference -/
mutual
def clD : D → Bool
  | .loc _ => false
  | .tup xs => clDs xs
  | .lst xs => clDs xs
  | _ => true
def clDs : List D → Bool
  | [] => true
  | x :: xs => clD x && clDs xs
end
theorem clDs_mem : ∀ {xs : List D}, clDs xs = true → ∀ x ∈ xs, clD x = true
  | y :: ys, h, x, hx => by
    have h' : clD y = true ∧ clDs ys = true := by simpa [clDs] using h
    rcases List.mem_cons.mp hx with rfl | hx
    · exact h'.1
    · exact clDs_mem h'.2 x hx
theorem omap_congr {α β : Type} {f g : α → Option β} : ∀ {xs : List α}, (∀ x ∈ xs, f x = g x) → omap f xs = omap g xs
  | [], _ => rfl
  | x :: xs, h => by
    rw [omap_cs, omap_cs, h x (by simp), omap_congr fun y hy => h y (List.mem_cons_of_mem _ hy)]
theorem toPD_cl {h : VH} : ∀ (n : Nat) (d : D), clD d = true → toPD h n d = toPD [] n d
  | 0, _, _ => rfl
  | n + 1, d, hc => by
    cases d with
    | tup xs =>
      rw [pd_tup, pd_tup, omap_congr fun x hx => toPD_cl n x (clDs_mem (by simpa [clD] using hc) x hx)]
    | lst xs =>
      rw [pd_lst, pd_lst, omap_congr fun x hx => toPD_cl n x (clDs_mem (by simpa [clD] using hc) x hx)]
    | loc m => simp [clD] at hc
    | _ => rfl
theorem omap_ex {α β : Type} {f : α → Option β} {Q : β → Prop} : ∀ {xs : List α}, (∀ x ∈ xs, ∃ p, f x = some p ∧ Q p) → ∃ ps, omap f xs = some ps ∧ (∀ p ∈ ps, Q p) ∧ ps.length = xs.length
  | [], _ => ⟨[], rfl, by simp, rfl⟩
  | x :: xs, h => by
    obtain ⟨p, e, q⟩ := h x (by simp)
    obtain ⟨ps, e2, q2, l⟩ := omap_ex (f := f) (Q := Q) (xs := xs) fun y hy => h y (List.mem_cons_of_mem _ hy)
    refine ⟨p :: ps, by rw [omap_cs, e, e2]; rfl, fun z hz => ?_, by simp [l]⟩
    rcases List.mem_cons.mp hz with rfl | hz
    · exact q
    · exact q2 z hz
/-- what repr shows, from here on -/
def Rp (h : VH) (d : D) : Prop := ∃ p : PyData, (p.showable = true ∧ p.shown.length ≤ sizeLine) ∧ ∀ h', Frm [] h h' → toPR h' d = some p
/-- small data -/
def Sml (M : Nat) (d : D) : Prop := clD d = true ∧ ∃ p, toPD [] 15 d = some p ∧ p.showable = true ∧ p.shown.length ≤ M
theorem rp_of {h : VH} {d : D} {p : PyData} (hs : p.showable = true) (hl : p.shown.length ≤ sizeLine) (ht : ∀ h', Frm [] h h' → toPR h' d = some p) : Rp h d := ⟨p, ⟨hs, hl⟩, ht⟩
theorem toPR_ne {h : VH} {d : D} (hd : ∀ n, d ≠ .loc n) : toPR h d = toPD h 16 d := by
  unfold toPR
  split
  · exact absurd rfl (hd _)
  · rfl
theorem toPR_lst {h : VH} {n : Nat} {xs : List D} (e : h[n]? = some (.lst xs)) : toPR h (.loc n) = toPD h 16 (.loc n) := by
  unfold toPR
  simp only [e]
theorem toPR_dk {h : VH} {n : Nat} {xs : List (Key × D)} (e : h[n]? = some (.dK xs)) : toPR h (.loc n) = (kvPD h xs).map .dict := by
  unfold toPR
  simp only [e]
theorem sml_all {M : Nat} {xs : List D} (hx : ∀ x ∈ xs, Sml M x) : ∃ ps : List PyData, (∀ h, omap (toPD h 15) xs = some ps) ∧ (∀ p ∈ ps, p.showable = true ∧ p.shown.length ≤ M) ∧ ps.length = xs.length := by
  obtain ⟨ps, e, q, l⟩ := omap_ex (f := toPD [] 15) (Q := fun p => p.showable = true ∧ p.shown.length ≤ M) fun x hx2 => (hx x hx2).2
  refine ⟨ps, fun h => ?_, q, l⟩
  rw [omap_congr (g := toPD [] 15) fun x hx2 => toPD_cl 15 x (hx x hx2).1]
  exact e
theorem rp_lst {M : Nat} {h : VH} {xs : List D} (hx : ∀ x ∈ xs, Sml M x) (hl : 2 + xs.length * (M + 2) ≤ sizeLine) : Rp h (.lst xs) := by
  obtain ⟨ps, e, q, l⟩ := sml_all hx
  refine rp_of (p := .list ps) ?_ ?_ fun h' _ => ?_
  · simp only [PyData.showable]; exact showableAll_of fun x hx => (q x hx).1
  · exact Nat.le_trans (shown_list_len fun x hx => (q x hx).2) (by rw [l]; exact hl)
  · rw [toPR_ne (by intro n; simp), pd_lst, e h']; rfl
theorem rp_tup {M : Nat} {h : VH} {xs : List D} (hx : ∀ x ∈ xs, Sml M x) (hl : 4 + xs.length * (M + 2) ≤ sizeLine) : Rp h (.tup xs) := by
  obtain ⟨ps, e, q, l⟩ := sml_all hx
  refine rp_of (p := .tuple ps) ?_ ?_ fun h' _ => ?_
  · simp only [PyData.showable]; exact showableAll_of fun x hx => (q x hx).1
  · exact Nat.le_trans (shown_tup_len fun x hx => (q x hx).2) (by rw [l]; exact hl)
  · rw [toPR_ne (by intro n; simp), pd_tup, e h']; rfl
theorem rp_loc {M : Nat} {h : VH} {n : Nat} {xs : List D} (en : h[n]? = some (.lst xs)) (hx : ∀ x ∈ xs, Sml M x) (hl : 2 + xs.length * (M + 2) ≤ sizeLine) : Rp h (.loc n) := by
  obtain ⟨ps, e, q, l⟩ := sml_all hx
  refine rp_of (p := .list ps) ?_ ?_ fun h' f => ?_
  · simp only [PyData.showable]; exact showableAll_of fun x hx => (q x hx).1
  · exact Nat.le_trans (shown_list_len fun x hx => (q x hx).2) (by rw [l]; exact hl)
  · have en' := f.get en (by simp)
    rw [toPR_lst en', pd_loc en', e h']; rfl
theorem rp_cl {h : VH} {d : D} {p : PyData} (hc : clD d = true) (e : toPD [] 16 d = some p) (hs : p.showable = true) (hl : p.shown.length ≤ sizeLine) : Rp h d := by
  refine rp_of hs hl fun h' _ => ?_
  rw [toPR_ne (by intro n z; subst z; simp [clD] at hc), toPD_cl 16 d hc]
  exact e
theorem str_beq (s : Str) : (s == s) = true := by
  show decide (s = s) = true
  simp
end Mv

namespace Mv
open PySem L2
section
variable {P : Env → Fl → VH → Prop} {Z : Xc → Env → VH → Prop}
/-- a while loop, by an invariant with a measure -/
theorem whl_inv {t : Ts} {b : Sm} (I : Nat → Env → VH → Prop)
    (step : ∀ m r k, I m r k → Aft (t r k) (fun x k1 => if x = true then AftS (b r k1) (fun r2 f k2 => match f with | .nx => ∃ m', m' < m ∧ I m' r2 k2 | .cnt => ∃ m', m' < m ∧ I m' r2 k2 | .brk => P r2 .nx k2 | .ret d => P r2 (.ret d) k2) Z else P r .nx k1) (fun x k => Z x r k)) :
    ∀ (n m : Nat) (r : Env) (k : VH), m < n → I m r k → AftS (whl t b n r k) P Z
  | 0, m, _, _, h, _ => by omega
  | n + 1, m, r, k, h, hi => by
    have a := step m r k hi
    unfold whl
    rw [afs_toS]
    refine a.mono (fun x k1 hx => ?_) fun _ _ z => z
    cases x with
    | false => exact hx
    | true =>
      rw [if_pos rfl] at hx ⊢
      cases q : b r k1 with
      | bad => rw [q] at hx; exact hx.elim
      | exc x r2 k2 => rw [q] at hx; exact hx
      | go r2 f k2 =>
        rw [q] at hx
        cases f with
        | nx => obtain ⟨m', h1, h2⟩ := hx; exact whl_inv I step n m' r2 k2 (by omega) h2
        | cnt => obtain ⟨m', h1, h2⟩ := hx; exact whl_inv I step n m' r2 k2 (by omega) h2
        | brk => exact hx
        | ret d => exact hx
end
section
variable {P : D → VH → Prop} {PL : List D → VH → Prop} {Z : Xc → VH → Prop} {ph : Ph P Z} {phL : Ph PL Z} {rho : Env} {h : VH} {n : Nat} {ds es : List D} {x y : D} {i j : Int} {s : Str}
@[simp ↓] theorem f_eBM0 {ok : D → VH → Bool} {f : Fm} {o : Ex} : AF P Z ph (eBM0 ok f o rho h) = AF (fun x h1 => ok x h1 = true ∧ AF P Z .mk (up (f x [] h1))) Z .mk (o rho h) := by
  (first | delta AF AS | delta AF | delta AS)
  show Aft (eBM0 ok f o rho h) P Z = _
  unfold eBM0; simp only [aft_bind, aft_ite, aft_bad]
  show Aft (o rho h) _ Z = Aft (o rho h) _ Z
  congr; funext x h1
  by_cases q : ok x h1 = true
  · rw [if_pos q]; exact propext ⟨fun p => ⟨q, p⟩, fun p => p.2⟩
  · rw [if_neg q]; exact propext ⟨fun p => p.elim, fun p => absurd p.1 q⟩
def clrO (n : Nat) : Option (List D) → VH → Option (D × VH)
  | some _, h => some (.non, h.set n (.lst []))
  | none, _ => none
@[simp] theorem clrO_s : clrO n (some ds) h = some (.non, h.set n (.lst [])) := rfl
@[simp] theorem o_clr : clrF (.loc n) [] h = clrO n (lsO h[n]?) h := by
  show (match h[n]? with | some (.lst _) => some (D.non, h.set n (.lst [])) | _ => none) = _
  cases h[n]? with
  | none => rfl
  | some o => cases o <;> rfl
def enO : Option (List D × Ck) → VH → R (List D × Ck)
  | some p, h => .ok (enumL 0 p.1, p.2) h
  | none, _ => .bad
@[simp] theorem enO_s {p : List D × Ck} : enO (some p) h = .ok (enumL 0 p.1, p.2) h := rfl
def enT : List D → VH → R (List D × Ck)
  | [d], h => enO (sqD d h) h
  | _, _ => .bad
@[simp] theorem enT_1 : enT [x] h = enO (sqD x h) h := rfl
@[simp ↓] theorem f_iEn {a : Ar} {PI : List D × Ck → VH → Prop} {phI : Ph PI Z} : AF PI Z phI (iEn a rho h) = AF (fun ds h1 => AF PI Z .mk (enT ds h1)) Z .mk (a rho h) := by
  (first | delta AF AS | delta AF | delta AS)
  show Aft (iEn a rho h) PI Z = _
  unfold iEn; rw [aft_bind]
  show Aft (a rho h) _ Z = Aft (a rho h) _ Z
  congr; funext d h1
  rcases d with _ | ⟨x, _ | ⟨y, r⟩⟩
  · rfl
  · show Aft (match sqD x h1 with | some (xs, ck) => R.ok (enumL 0 xs, ck) h1 | none => .bad) PI Z = Aft (enO (sqD x h1) h1) PI Z
    cases sqD x h1 <;> rfl
  · rfl
@[simp] theorem sq_tup : sqD (.tup ds) h = some (ds, []) := rfl
@[simp] theorem sq_lst : sqD (.lst ds) h = some (ds, []) := rfl
@[simp] theorem sq_loc : sqD (.loc n) h = itO n (lsO h[n]?) := by
  show (match h[n]? with | some (.lst ds) => some (ds, [(n, ds)]) | _ => none) = _
  cases h[n]? with
  | none => rfl
  | some o => cases o <;> rfl
@[simp ↓] theorem f_lRep {B : Ar} {A : Ex} : AF PL Z phL (lRep B A rho h) = AF (fun ds h1 => ds.length ≤ sizeLine ∧ AF (fun k h2 => AF (fun o h3 => AF PL Z .mk (match o with | some n => (if -(2 ^ 63) ≤ n ∧ n < 2 ^ 63 ∧ ds.length * n.toNat ≤ sizeLine then .ok (List.replicate n.toNat ds).flatten h3 else .bad) | none => .bad)) Z .mk (asI k h2)) Z .mk (A rho h1)) Z .mk (B rho h) := by
  (first | delta AF AS | delta AF | delta AS)
  show Aft (lRep B A rho h) PL Z = _
  unfold lRep; rw [aft_bind]
  show Aft (B rho h) _ Z = Aft (B rho h) _ Z
  congr; funext ds h1
  by_cases q : ds.length ≤ sizeLine
  · rw [if_pos q, aft_bind]
    refine propext ⟨fun p => ⟨q, p.mono (fun k h2 z => ?_) fun _ _ z => z⟩, fun p => p.2.mono (fun k h2 z => ?_) fun _ _ z => z⟩
    · cases k <;> first | exact z | exact z.elim
    · cases k <;> first | exact z | exact z.elim
  · rw [if_neg q]; exact propext ⟨fun p => p.elim, fun p => absurd p.1 q⟩
@[simp] theorem o_inta : intAF [.int i] h = some (.int i, h) := rfl
@[simp] theorem o_intab {b : Bool} : intAF [.bl b] h = some (.int (if b = true then 1 else 0), h) := rfl
def intO (l : Nat) : Option Int → VH → Option (D × VH)
  | some n, h => if l ≤ 640 then some (.int n, h) else none
  | none, _ => none
@[simp] theorem intO_s : intO n (some i) h = if n ≤ 640 then some (.int i, h) else none := rfl
@[simp] theorem o_ints : intAF [.str s] h = intO s.length (PySem.intText? s) h := by
  show (match PySem.intText? s with | some n => if s.length ≤ 640 then some (D.int n, h) else none | none => none) = _
  cases PySem.intText? s <;> rfl
@[simp] theorem o_stri : strIF [.int i] h = if i.natAbs.log2 < 1920 ∧ (toString i : Str).length ≤ sizeLine then some (.str (toString i), h) else none := rfl
@[simp] theorem o_maxt {k : Int} : maxF [.int i, .int j] h = some (.int (if j > i then j else i), h) := rfl
end
theorem afE {α : Type} {r : R α} {P : α → VH → Prop} {Z : Xc → VH → Prop} : Aft r P Z = AF P Z .mk r := by (first | delta AF AS | delta AF | delta AS); exact rfl
theorem asE {r : RS} {P : Env → Fl → VH → Prop} {Z : Xc → Env → VH → Prop} : AftS r P Z = AS P Z .mk r := by (first | delta AF AS | delta AF | delta AS); exact rfl
@[simp] theorem r_bad {rho : Env} {h : VH} : sBad rho h = .bad := rfl
@[simp] theorem r_ebad {rho : Env} {h : VH} : eBad rho h = .bad := rfl
end Mv

namespace Mv
open PySem L2
/-! ### == of data -/
@[simp] theorem qv_int {i j : Int} : PyData.eqv (.int i) (.int j) = decide (i = j) := by
  simp only [PyData.eqv]; rfl
@[simp] theorem qv_str {s t : Str} : PyData.eqv (.str s) (.str t) = (s == t) := by simp only [PyData.eqv]
@[simp] theorem qv_bl {a b : Bool} : PyData.eqv (.bool a) (.bool b) = (a == b) := by simp only [PyData.eqv]
@[simp] theorem qv_tup {xs ys : List PyData} : PyData.eqv (.tuple xs) (.tuple ys) = PyData.eqvAll xs ys := by simp only [PyData.eqv]
@[simp] theorem qv_lst {xs ys : List PyData} : PyData.eqv (.list xs) (.list ys) = PyData.eqvAll xs ys := by simp only [PyData.eqv]
@[simp] theorem qv_nil : PyData.eqvAll [] [] = true := by simp only [PyData.eqvAll]
@[simp] theorem qv_cons {x y : PyData} {xs ys : List PyData} : PyData.eqvAll (x :: xs) (y :: ys) = (PyData.eqv x y && PyData.eqvAll xs ys) := by simp only [PyData.eqvAll]
@[simp] theorem qv_cn {x : PyData} {xs : List PyData} : PyData.eqvAll (x :: xs) [] = false := by simp only [PyData.eqvAll]
@[simp] theorem qv_nc {x : PyData} {xs : List PyData} : PyData.eqvAll [] (x :: xs) = false := by simp only [PyData.eqvAll]
theorem eqvAll_map {α : Type} [DecidableEq α] (f : α → PyData) : ∀ (as bs : List α), (∀ a ∈ as, ∀ b ∈ bs, PyData.eqv (f a) (f b) = decide (a = b)) → PyData.eqvAll (as.map f) (bs.map f) = decide (as = bs)
  | [], [], _ => by simp
  | [], b :: bs, _ => by simp
  | a :: as, [], _ => by simp
  | a :: as, b :: bs, h => by
    have ih := eqvAll_map f as bs fun x hx y hy => h x (List.mem_cons_of_mem _ hx) y (List.mem_cons_of_mem _ hy)
    have h1 := h a List.mem_cons_self b List.mem_cons_self
    simp only [List.map_cons, qv_cons, h1, ih]
    by_cases q : a = b <;> simp [q]
theorem str_beq_iff {s t : Str} : (s == t) = decide (s = t) := rfl
/-! ### slices by numbers -/
theorem cut_nn {xs : List D} {a b : Nat} (hab : a ≤ b) (hb : b ≤ xs.length) : cutD xs (some (a : Int)) (some (b : Int)) = (xs.drop a).take (b - a) := by
  unfold cutD
  rw [HT.sIx_nat, HT.sIx_nat, Nat.min_eq_left hb, Nat.min_eq_left (Nat.le_trans hab hb)]
theorem cut_on {xs : List D} {b : Nat} (hb : b ≤ xs.length) : cutD xs none (some (b : Int)) = xs.take b := by
  unfold cutD
  rw [HT.sIx_nat, Nat.min_eq_left hb]
  show List.take (b - 0) (List.drop 0 xs) = _
  simp
theorem cut_no {xs : List D} {a : Nat} (ha : a ≤ xs.length) : cutD xs (some (a : Int)) none = xs.drop a := by
  unfold cutD
  rw [HT.sIx_nat, Nat.min_eq_left ha]
  show List.take (xs.length - a) _ = _
  rw [List.take_of_length_le]
  simp
theorem cut_last {xs : List D} : cutD xs none (some (-1)) = xs.dropLast := by
  unfold cutD
  have h1 : HT.sIx xs.length xs.length (some (-1)) = xs.length - 1 := by
    show (if (-1 : Int) < 0 then ((-1 : Int) + (xs.length : Int)).toNat else min (-1 : Int).toNat xs.length) = _
    rw [if_pos (by omega)]
    omega
  rw [h1, List.dropLast_eq_take]
  show List.take (xs.length - 1 - 0) (List.drop 0 xs) = _
  simp
theorem filterMap_if {α β : Type} (f : α → β) (c : α → Bool) : ∀ xs : List α, xs.filterMap (fun x => if c x = true then some (f x) else none) = (xs.filter c).map f
  | [] => rfl
  | x :: xs => by
    have ih := filterMap_if f c xs
    by_cases q : c x = true <;> simp [q, ih]
/-- a call that keeps the heap -/
theorem run_ok {α : Type} {r : R α} {P : α → VH → Prop} (a : Aft r P fun _ _ => False) : ∃ x k, r = .ok x k ∧ P x k := a.run
end Mv

namespace Mv
open PySem L2
/-! ### lists shown alike are alike -/
abbrev cp (s : Str) : List Nat := s.cps.toList
theorem cp_inj {s t : Str} (h : cp s = cp t) : s = t := by
  obtain ⟨⟨a⟩⟩ := s
  obtain ⟨⟨b⟩⟩ := t
  have : a = b := h
  subst this
  rfl
@[simp] theorem cp_append (a b : Str) : cp (a ++ b) = cp a ++ cp b := by
  show (a.cps ++ b.cps).toList = _
  rw [Array.toList_append]
def jn : List (List Nat) → List Nat
  | [] => []
  | t :: ts => 44 :: 32 :: (t ++ jn ts)
theorem textFrom_cp1 : ∀ (ts : List Str) (k : Nat) (acc : Str), cp (textFrom (k + 1) acc ts) = cp acc ++ jn (ts.map cp)
  | [], _, acc => by simp [textFrom, jn]
  | t :: ts, k, acc => by
    unfold textFrom
    rw [textFrom_cp1 ts (k + 1)]
    have e : cp (Str.ofString (if k + 1 > 0 then ", " else "")) = [44, 32] := by
      rw [if_pos (by omega)]; decide +kernel
    rw [cp_append, cp_append, e]
    simp [jn]
def jn0 : List (List Nat) → List Nat
  | [] => []
  | t :: ts => t ++ jn ts
theorem listText_cp (ts : List Str) : cp (listText ts) = 91 :: (jn0 (ts.map cp) ++ [93]) := by
  unfold listText
  rw [cp_append]
  have e1 : cp (Str.ofString "]") = [93] := by decide +kernel
  have e2 : cp (Str.ofString "[") = [91] := by decide +kernel
  rw [e1]
  cases ts with
  | nil =>
    show cp (Str.ofString "[") ++ [93] = _
    rw [e2]; rfl
  | cons t ts =>
    unfold textFrom
    rw [textFrom_cp1 ts 0]
    have e : cp (Str.ofString (if 0 > 0 then ", " else "")) = [] := by decide +kernel
    rw [cp_append, cp_append, e, e2]
    simp [jn0]
def Cln (l : List Nat) : Prop := ∀ c ∈ l, c ≠ 44 ∧ c ≠ 93
def Hd (l : List Nat) : Prop := ∃ c r, l = c :: r ∧ (c = 44 ∨ c = 93)
theorem split_at : ∀ {a b x y : List Nat}, Cln a → Cln b → Hd x → Hd y → a ++ x = b ++ y → a = b ∧ x = y
  | [], [], x, y, _, _, _, _, e => ⟨rfl, e⟩
  | [], c :: b, x, y, _, hb, hx, _, e => by
    obtain ⟨d, r, rfl, hd⟩ := hx
    have e' : d = c := by simpa using congrArg List.head? e
    subst e'
    have := hb d List.mem_cons_self
    rcases hd with h | h
    · exact absurd h this.1
    · exact absurd h this.2
  | c :: a, [], x, y, ha, _, _, hy, e => by
    obtain ⟨d, r, rfl, hd⟩ := hy
    have e' : c = d := by simpa using congrArg List.head? e
    subst e'
    have := ha c List.mem_cons_self
    rcases hd with h | h
    · exact absurd h this.1
    · exact absurd h this.2
  | c :: a, d :: b, x, y, ha, hb, hx, hy, e => by
    have e1 : c = d ∧ a ++ x = b ++ y := by simpa using e
    obtain ⟨rfl, e2⟩ := e1
    obtain ⟨r1, r2⟩ := split_at (fun z hz => ha z (List.mem_cons_of_mem _ hz)) (fun z hz => hb z (List.mem_cons_of_mem _ hz)) hx hy e2
    exact ⟨by rw [r1], r2⟩
theorem hd_jn (ts : List (List Nat)) : Hd (jn ts ++ [93]) := by
  cases ts with
  | nil => exact ⟨93, [], rfl, .inr rfl⟩
  | cons t ts => exact ⟨44, _, rfl, .inl rfl⟩
theorem jn_inj : ∀ {ts us : List (List Nat)}, (∀ t ∈ ts, Cln t) → (∀ t ∈ us, Cln t) → jn ts ++ [93] = jn us ++ [93] → ts = us
  | [], [], _, _, _ => rfl
  | [], u :: us, _, _, e => by
    have := congrArg List.head? e
    simp [jn] at this
  | t :: ts, [], _, _, e => by
    have := congrArg List.head? e
    simp [jn] at this
  | t :: ts, u :: us, ht, hu, e => by
    have e1 : t ++ (jn ts ++ [93]) = u ++ (jn us ++ [93]) := by simpa [jn] using e
    obtain ⟨r1, r2⟩ := split_at (ht t List.mem_cons_self) (hu u List.mem_cons_self) (hd_jn ts) (hd_jn us) e1
    rw [r1, jn_inj (fun z hz => ht z (List.mem_cons_of_mem _ hz)) (fun z hz => hu z (List.mem_cons_of_mem _ hz)) r2]
theorem jn0_inj {ts us : List (List Nat)} (ht : ∀ t ∈ ts, Cln t ∧ t ≠ []) (hu : ∀ t ∈ us, Cln t ∧ t ≠ []) (e : jn0 ts ++ [93] = jn0 us ++ [93]) : ts = us := by
  have first : ∀ {t : List Nat} {ts : List (List Nat)}, Cln t ∧ t ≠ [] → jn0 (t :: ts) ++ [93] ≠ [93] := by
    intro t ts h z
    obtain ⟨h1, h2⟩ := h
    cases t with
    | nil => exact h2 rfl
    | cons c t =>
      have : c = 93 := by simpa [jn0] using congrArg List.head? z
      exact (h1 c List.mem_cons_self).2 this
  cases ts with
  | nil =>
    cases us with
    | nil => rfl
    | cons u us => exact absurd e.symm (first (hu u List.mem_cons_self))
  | cons t ts =>
    cases us with
    | nil => exact absurd e (first (ht t List.mem_cons_self))
    | cons u us =>
      have e1 : t ++ (jn ts ++ [93]) = u ++ (jn us ++ [93]) := by simpa [jn0] using e
      obtain ⟨r1, r2⟩ := split_at (ht t List.mem_cons_self).1 (hu u List.mem_cons_self).1 (hd_jn ts) (hd_jn us) e1
      rw [r1, jn_inj (fun z hz => (ht z (List.mem_cons_of_mem _ hz)).1) (fun z hz => (hu z (List.mem_cons_of_mem _ hz)).1) r2]
/-- a piece of data whose text has neither comma nor bracket -/
def ClnD (p : PyData) : Prop := Cln (cp p.shown) ∧ cp p.shown ≠ []
theorem shown_list_inj {xs ys : List PyData} (hx : ∀ x ∈ xs, ClnD x) (hy : ∀ x ∈ ys, ClnD x) (e : (PyData.list xs).shown = (PyData.list ys).shown) : xs.map PyData.shown = ys.map PyData.shown := by
  simp only [PyData.shown] at e
  have e1 := congrArg cp e
  rw [listText_cp, listText_cp, shownAll_map, shownAll_map] at e1
  have e2 := jn0_inj (ts := (xs.map PyData.shown).map cp) (us := (ys.map PyData.shown).map cp) (by
    intro t ht
    simp only [List.mem_map] at ht
    obtain ⟨_, ⟨x, hx1, rfl⟩, rfl⟩ := ht
    exact hx x hx1) (by
    intro t ht
    simp only [List.mem_map] at ht
    obtain ⟨_, ⟨x, hx1, rfl⟩, rfl⟩ := ht
    exact hy x hx1) (by simpa using e1)
  have inj : ∀ (a b : List Str), a.map cp = b.map cp → a = b := by
    intro a
    induction a with
    | nil => intro b h; cases b with
      | nil => rfl
      | cons _ _ => cases h
    | cons x a ih => intro b h; cases b with
      | nil => cases h
      | cons y b =>
        have h' : cp x = cp y ∧ a.map cp = b.map cp := by simpa using h
        rw [cp_inj h'.1, ih b h'.2]
  exact inj _ _ e2
/-! ### lists as values or objects -/
def IsL (d : D) (h : VH) (xs : List D) : Prop := d = .lst xs ∨ ∃ n, d = .loc n ∧ h[n]? = some (.lst xs)
theorem IsL.frm {d : D} {h h1 : VH} {xs : List D} (a : IsL d h xs) (f : Frm [] h h1) : IsL d h1 xs := by
  rcases a with rfl | ⟨n, rfl, e⟩
  · exact .inl rfl
  · exact .inr ⟨n, rfl, f.get e (by simp)⟩
theorem IsL.ty {d : D} {h : VH} {xs : List D} (a : IsL d h xs) : tyName d h = some "list" := by
  rcases a with rfl | ⟨n, rfl, e⟩
  · rfl
  · simp [e]
theorem IsL.len {d : D} {h : VH} {xs : List D} (a : IsL d h xs) : lenD d h = some xs.length := by
  rcases a with rfl | ⟨n, rfl, e⟩
  · rfl
  · simp [e]
theorem IsL.lm {d : D} {h : VH} {xs : List D} (a : IsL d h xs) : listM d h = some xs := by
  rcases a with rfl | ⟨n, rfl, e⟩
  · rfl
  · simp [e]
theorem IsL.it {d : D} {h : VH} {xs : List D} (a : IsL d h xs) : ∃ ck, ∀ h1, Frm [] h h1 → itD d h1 = some (xs, ck) ∧ ckOk ck xs h1 = true := by
  rcases a with rfl | ⟨n, rfl, e⟩
  · exact ⟨[], fun _ _ => ⟨rfl, rfl⟩⟩
  · refine ⟨[(n, xs)], fun h1 f => ⟨by simp [f.get e (by simp)], ?_⟩⟩
    refine ck_of fun m ds hm => ?_
    simp at hm
    rw [hm.1, hm.2]
    exact f.get e (by simp)
theorem IsL.pd {d : D} {h : VH} {xs : List D} {ps : List PyData} (a : IsL d h xs) (n : Nat) (e : omap (toPD h n) xs = some ps) : toPD h (n + 1) d = some (.list ps) := by
  rcases a with rfl | ⟨m, rfl, e1⟩
  · rw [pd_lst, e]; rfl
  · rw [pd_loc e1, e]; rfl
theorem IsL.pr {d : D} {h : VH} {xs : List D} {ps : List PyData} (a : IsL d h xs) (e : omap (toPD h 15) xs = some ps) : toPR h d = some (.list ps) := by
  rcases a with rfl | ⟨m, rfl, e1⟩
  · rw [toPR_ne (by intro n; simp), pd_lst, e]; rfl
  · rw [toPR_lst e1, pd_loc e1, e]; rfl
end Mv

namespace Mv
open PySem L2
/-- a comprehension, by an invariant over the items left and the items made -/
theorem lc_inv {t : Tg} {tt : Ts} {el : Ex} {ck : Ck} {all : List D} {rho : Env} {P : List D → VH → Prop} {Z : Xc → VH → Prop} (I : List D → List D → VH → Prop) (hck : ∀ xs ys k, I xs ys k → ckOk ck all k = true)
    (step : ∀ x xs ys k, I (x :: xs) ys k → ∃ r1, t.put x rho = some r1 ∧ Aft (tt r1 k) (fun b k1 => if b = true then Aft (el r1 k1) (fun y k2 => I xs (ys ++ [y]) k2) (fun _ _ => False) else I xs ys k1) (fun _ _ => False))
    (done : ∀ ys k, I [] ys k → P ys k) : ∀ (xs ys : List D) (k : VH), I xs ys k → Aft (lcL t tt el ck all xs rho k) (fun zs k2 => P (ys ++ zs) k2) Z
  | [], ys, k, hi => by
    unfold lcL
    rw [if_pos (hck _ _ _ hi)]
    show P (ys ++ []) k
    rw [List.append_nil]
    exact done ys k hi
  | x :: xs, ys, k, hi => by
    unfold lcL
    rw [if_pos (hck _ _ _ hi)]
    obtain ⟨r1, e1, a⟩ := step x xs ys k hi
    simp only [e1]
    cases q : tt r1 k with
    | bad => rw [q] at a; exact a.elim
    | exc x2 k2 => rw [q] at a; exact a.elim
    | ok b k1 =>
      rw [q] at a
      cases b with
      | false =>
        have ih := lc_inv (Z := Z) I hck step done xs ys k1 a
        exact ih
      | true =>
        have a' : Aft (el r1 k1) (fun y k2 => I xs (ys ++ [y]) k2) (fun _ _ => False) := a
        cases q2 : el r1 k1 with
        | bad => rw [q2] at a'; exact a'.elim
        | exc x2 k2 => rw [q2] at a'; exact a'.elim
        | ok y k2 =>
          rw [q2] at a'
          have ih := lc_inv (Z := Z) I hck step done xs (ys ++ [y]) k2 a'
          show Aft (((noX (el r1 k1)).bind fun y h2 => (lcL t tt el ck all xs rho h2).bind fun ys h3 => R.ok (y :: ys) h3)) _ _
          rw [q2]
          show Aft ((lcL t tt el ck all xs rho k2).bind fun ys h3 => R.ok (y :: ys) h3) _ _
          rw [aft_bind]
          refine ih.mono (fun zs k3 hz => ?_) fun _ _ z => z
          show P (ys ++ (y :: zs)) k3
          simpa using hz
theorem lc_inv0 {t : Tg} {tt : Ts} {el : Ex} {ck : Ck} {all : List D} {rho : Env} {P : List D → VH → Prop} {Z : Xc → VH → Prop} (I : List D → List D → VH → Prop) {xs : List D} {k : VH} (h0 : I xs [] k) (hck : ∀ xs ys k, I xs ys k → ckOk ck all k = true)
    (step : ∀ x xs ys k, I (x :: xs) ys k → ∃ r1, t.put x rho = some r1 ∧ Aft (tt r1 k) (fun b k1 => if b = true then Aft (el r1 k1) (fun y k2 => I xs (ys ++ [y]) k2) (fun _ _ => False) else I xs ys k1) (fun _ _ => False))
    (done : ∀ ys k, I [] ys k → P ys k) : Aft (lcL t tt el ck all xs rho k) P Z := lc_inv (P := P) (Z := Z) I hck step done xs [] k h0
end Mv

namespace Mv
open PySem L2
section
variable {P : D → VH → Prop} {PL : List D → VH → Prop} {Z : Xc → VH → Prop} {ph : Ph P Z} {phL : Ph PL Z} {rho : Env} {h : VH}
def rng2 : List D → VH → R (List D × Ck)
  | [.int i, .int j], h => if -(2 ^ 62) ≤ i ∧ i < 2 ^ 62 ∧ -(2 ^ 62) ≤ j ∧ j < 2 ^ 62 then .ok ((List.range (j - i).toNat).map fun k => .int (i + (k : Nat)), []) h else .bad
  | _, _ => .bad
theorem rng2_i {i j : Int} : rng2 [.int i, .int j] h = if -(2 ^ 62) ≤ i ∧ i < 2 ^ 62 ∧ -(2 ^ 62) ≤ j ∧ j < 2 ^ 62 then .ok ((List.range (j - i).toNat).map fun k => .int (i + (k : Nat)), []) h else .bad := rfl
@[simp ↓] theorem f_iRng2 {a : Ar} {PI : List D × Ck → VH → Prop} {phI : Ph PI Z} : AF PI Z phI (iRng2 a rho h) = AF (fun ds h1 => AF PI Z .mk (rng2 ds h1)) Z .mk (a rho h) := by
  (first | delta AF AS | delta AF | delta AS)
  show Aft (iRng2 a rho h) PI Z = _
  unfold iRng2; rw [aft_bind]
  show Aft (a rho h) _ Z = Aft (a rho h) _ Z
  congr; funext d h1
  rcases d with _ | ⟨x, _ | ⟨y, _ | ⟨z, r⟩⟩⟩
  · rfl
  · cases x <;> rfl
  · cases x <;> cases y <;> rfl
  · cases x <;> cases y <;> rfl
@[simp ↓] theorem f_rng2 {i j : Int} {PI : List D × Ck → VH → Prop} {phI : Ph PI Z} : AF PI Z phI (rng2 [.int i, .int j] h) = ((-(2 ^ 62) ≤ i ∧ i < 2 ^ 62 ∧ -(2 ^ 62) ≤ j ∧ j < 2 ^ 62) ∧ PI ((List.range (j - i).toNat).map fun k => .int (i + (k : Nat)), []) h) := by
  rw [rng2_i, f_gd, f_ok]
def rngL : List D → VH → R (List D)
  | [.int i, .int j], h => if 0 ≤ i ∧ i ≤ 16777216 ∧ 0 ≤ j ∧ j ≤ 16777216 then .ok ((List.range (j - i).toNat).map fun k => .int (i + (k : Nat))) h else .bad
  | _, _ => .bad
theorem rngL_i {i j : Int} : rngL [.int i, .int j] h = if 0 ≤ i ∧ i ≤ 16777216 ∧ 0 ≤ j ∧ j ≤ 16777216 then .ok ((List.range (j - i).toNat).map fun k => .int (i + (k : Nat))) h else .bad := rfl
@[simp ↓] theorem f_lRg {a : Ar} : AF PL Z phL (lRg a rho h) = AF (fun ds h1 => AF PL Z .mk (rngL ds h1)) Z .mk (a rho h) := by
  (first | delta AF AS | delta AF | delta AS)
  show Aft (lRg a rho h) PL Z = _
  unfold lRg; rw [aft_bind]
  show Aft (a rho h) _ Z = Aft (a rho h) _ Z
  congr; funext d h1
  rcases d with _ | ⟨x, _ | ⟨y, _ | ⟨z, r⟩⟩⟩
  · rfl
  · cases x <;> rfl
  · cases x <;> cases y <;> rfl
  · cases x <;> cases y <;> rfl
@[simp ↓] theorem f_rngL {i j : Int} : AF PL Z phL (rngL [.int i, .int j] h) = ((0 ≤ i ∧ i ≤ 16777216 ∧ 0 ≤ j ∧ j ≤ 16777216) ∧ PL ((List.range (j - i).toNat).map fun k => .int (i + (k : Nat))) h) := by
  rw [rngL_i, f_gd, f_ok]
@[simp] theorem o_lst_t {ds : List D} {h : VH} : listFL [.tup ds] h = some ds := rfl
@[simp] theorem o_lst_l {ds : List D} {h : VH} : listFL [.lst ds] h = some ds := rfl
@[simp] theorem o_lst_x {n : Nat} {h : VH} : listFL [.loc n] h = lsO h[n]? := by
  show listOf (.loc n) h = _
  unfold listOf
  split <;> simp_all <;> rfl
end
/-- List.replicate that simp leaves alone -/
def rpl (n : Nat) (x : D) : List D := List.replicate n x
@[simp] theorem rpl_len {n : Nat} {x : D} : (rpl n x).length = n := List.length_replicate
theorem rpl_mem {n : Nat} {x y : D} (h : y ∈ rpl n x) : y = x := List.eq_of_mem_replicate h
@[simp] theorem o_rept1 {x : D} {k : Int} {h : VH} : repTF (.tup [x]) (.int k) h = if 2 ≤ k ∧ k ≤ 1000 then some (.tup (rpl k.toNat x), h) else none := by
  show (if [x] ≠ [] ∧ 2 ≤ k ∧ k ≤ 1000 ∧ [x].length ≤ 1000 then some (D.tup (List.replicate k.toNat [x]).flatten, h) else none) = _
  have e : (List.replicate k.toNat [x]).flatten = rpl k.toNat x := by simp [rpl]
  rw [e]
  by_cases q : 2 ≤ k ∧ k ≤ 1000
  · rw [if_pos q, if_pos ⟨by simp, q.1, q.2, by simp⟩]
  · rw [if_neg q, if_neg fun z => q ⟨z.2.1, z.2.2.1⟩]
/-- data of so little depth, shown by so few signs -/
def SmN (n M : Nat) (d : D) : Prop := clD d = true ∧ ∃ p, toPD [] n d = some p ∧ p.showable = true ∧ p.shown.length ≤ M
theorem SmN.sml {M : Nat} {d : D} (a : SmN 15 M d) : Sml M d := a
theorem SmN.mono {n M N : Nat} {d : D} (a : SmN n M d) (h : M ≤ N) : SmN n N d := by
  obtain ⟨c, p, e, s, l⟩ := a
  exact ⟨c, p, e, s, Nat.le_trans l h⟩
theorem clDs_of : ∀ {xs : List D}, (∀ x ∈ xs, clD x = true) → clDs xs = true
  | [], _ => rfl
  | x :: xs, h => by
    have h1 := h x List.mem_cons_self
    have h2 := clDs_of (xs := xs) fun y hy => h y (List.mem_cons_of_mem _ hy)
    simp [clDs, h1, h2]
theorem smn_tup {n M : Nat} {xs : List D} (h : ∀ x ∈ xs, SmN n M x) : SmN (n + 1) (4 + xs.length * (M + 2)) (.tup xs) := by
  obtain ⟨ps, e, q, l⟩ := omap_ex (f := toPD [] n) (Q := fun p => p.showable = true ∧ p.shown.length ≤ M) fun x hx2 => (h x hx2).2
  refine ⟨by simp only [clD]; exact clDs_of fun x hx => (h x hx).1, .tuple ps, by rw [pd_tup, e]; rfl, ?_, ?_⟩
  · simp only [PyData.showable]; exact showableAll_of fun x hx => (q x hx).1
  · rw [← l]; exact shown_tup_len fun x hx => (q x hx).2
theorem smn_lst {n M : Nat} {xs : List D} (h : ∀ x ∈ xs, SmN n M x) : SmN (n + 1) (2 + xs.length * (M + 2)) (.lst xs) := by
  obtain ⟨ps, e, q, l⟩ := omap_ex (f := toPD [] n) (Q := fun p => p.showable = true ∧ p.shown.length ≤ M) fun x hx2 => (h x hx2).2
  refine ⟨by simp only [clD]; exact clDs_of fun x hx => (h x hx).1, .list ps, by rw [pd_lst, e]; rfl, ?_, ?_⟩
  · simp only [PyData.showable]; exact showableAll_of fun x hx => (q x hx).1
  · rw [← l]; exact shown_list_len fun x hx => (q x hx).2
theorem SmN.rp {M : Nat} {h : VH} {d : D} (a : SmN 16 M d) (l : M ≤ sizeLine) : Rp h d := by
  obtain ⟨c, p, e, s, q⟩ := a
  exact rp_cl c e s (Nat.le_trans q l)
end Mv

namespace Mv
open PySem L2
/-! ### instances -/
section
variable {P : D → VH → Prop} {Z : Xc → VH → Prop} {ph : Ph P Z} {rho : Env} {h : VH}
def insB (c name : Str) : Option O → Bool
  | some (.ins c' fs) => decide (c' = c ∧ fs.lookup name = none)
  | _ => false
def mtOk (c name : Str) (h : VH) : D → Bool
  | .loc n => insB c name h[n]?
  | _ => false
@[simp] theorem mtOk_loc {c name : Str} {n : Nat} : mtOk c name h (.loc n) = insB c name h[n]? := rfl
def mtGo (np : Nat) (m : Fd) (o : Option (List D)) (h : VH) : R D := match o with
  | some xs => if xs.length = np then m xs h else .bad
  | none => .bad
@[simp] theorem mtGo_1 {m : Fd} {x : D} : mtGo 1 m (some [x]) h = m [x] h := rfl
@[simp] theorem mtGo_2 {m : Fd} {x y : D} : mtGo 2 m (some [x, y]) h = m [x, y] h := rfl
@[simp] theorem mtGo_3 {m : Fd} {x y z : D} : mtGo 3 m (some [x, y, z]) h = m [x, y, z] h := rfl
@[simp] theorem mtGo_4 {m : Fd} {x y z u : D} : mtGo 4 m (some [x, y, z, u]) h = m [x, y, z, u] h := rfl
@[simp] theorem pick_1 {x : D} : pickD [x] [] [.pos 0] = some [x] := rfl
@[simp] theorem pick_2 {x y : D} : pickD [x, y] [] [.pos 0, .pos 1] = some [x, y] := rfl
@[simp] theorem pick_3 {x y z : D} : pickD [x, y, z] [] [.pos 0, .pos 1, .pos 2] = some [x, y, z] := rfl
@[simp] theorem pick_4 {x y z u : D} : pickD [x, y, z, u] [] [.pos 0, .pos 1, .pos 2, .pos 3] = some [x, y, z, u] := rfl
@[simp ↓] theorem f_eMt {c name : Str} {na nk np : Nat} {m : Fd} {sl : List Src} {o : Ex} {a b : Ar} : AF P Z ph (eMt c name na nk np m sl o a b rho h) = AF (fun x h0 => mtOk c name h0 x = true ∧ AF (fun ds h1 => AF (fun es h2 => (ds.length = na ∧ es.length = nk) ∧ AF P Z .mk (mtGo np m (pickD (x :: ds) es sl) h2)) Z .mk (b rho h1)) Z .mk (a rho h0)) Z .mk (o rho h) := by
  (first | delta AF AS | delta AF | delta AS)
  show Aft (eMt c name na nk np m sl o a b rho h) P Z = _
  unfold eMt; rw [aft_bind]
  show Aft _ _ _ = Aft _ _ _
  congr; funext x h0
  cases x with
  | loc n =>
    show Aft (match h0[n]? with
      | some (.ins c' fs) => _
      | _ => _) P Z = _
    rw [mtOk_loc]
    cases q : h0[n]? with
    | none => simp [insB, aft_bad]
    | some ob =>
      cases ob with
      | ins c' fs =>
        by_cases hc : c' = c ∧ fs.lookup name = none
        · simp only [insB, hc, decide_true, true_and, aft_bind, if_true, and_self]
          show Aft _ _ _ = Aft _ _ _
          congr; funext ds h1
          show Aft _ _ _ = Aft _ _ _
          congr; funext es h2
          by_cases hl : ds.length = na ∧ es.length = nk
          · simp only [hl, if_true, true_and, and_self]
            cases pickD (.loc n :: ds) es sl with
            | none => rfl
            | some xs => rfl
          · rw [aft_ite, if_neg hl]
            simp only [hl, false_and, aft_bad]
        · simp only [insB, hc, decide_false, aft_ite, if_false, aft_bad, Bool.false_eq_true, false_and]
      | _ => simp [insB, aft_bad]
  | _ => simp [mtOk, aft_bad]
def mkDone (P : D → VH → Prop) (n : Nat) (r : D) (h : VH) : Prop := match r with
  | .non => P (.loc n) h
  | _ => False
@[simp] theorem mkDone_n {n : Nat} : mkDone P n .non h = P (.loc n) h := rfl
@[simp ↓] theorem f_eMk {c : Str} {na nk np : Nat} {m : Fd} {sl : List Src} {a b : Ar} : AF P Z ph (eMk c na nk np m sl a b rho h) = AF (fun ds h1 => AF (fun es h2 => (ds.length = na ∧ es.length = nk) ∧ AF (mkDone P h2.length) Z .mk (mtGo np m (pickD (.loc h2.length :: ds) es sl) (h2 ++ [.ins c []]))) Z .mk (b rho h1)) Z .mk (a rho h) := by
  (first | delta AF AS | delta AF | delta AS)
  show Aft (eMk c na nk np m sl a b rho h) P Z = _
  unfold eMk; rw [aft_bind]
  show Aft _ _ _ = Aft _ _ _
  congr; funext ds h1
  rw [aft_bind]
  show Aft _ _ _ = Aft _ _ _
  congr; funext es h2
  by_cases hl : ds.length = na ∧ es.length = nk
  · simp only [hl, if_true, true_and, and_self]
    cases pickD (.loc h2.length :: ds) es sl with
    | none => rfl
    | some xs =>
      show Aft (if xs.length = np then _ else _) P Z = Aft (if xs.length = np then _ else _) _ Z
      by_cases q : xs.length = np
      · rw [if_pos q, if_pos q, aft_bind]
        congr; funext r h3
        cases r <;> rfl
      · rw [if_neg q, if_neg q]; rfl
  · rw [aft_ite, if_neg hl]
    simp only [hl, false_and, aft_bad]
end
section
variable {P : Env → Fl → VH → Prop} {Z : Xc → Env → VH → Prop} {ph : PhS P Z} {rho : Env} {h : VH}
def goO (P : Env → Fl → VH → Prop) (rho : Env) : Option VH → Prop
  | some h => P rho .nx h
  | none => False
@[simp] theorem goO_s : goO P rho (some h) = P rho .nx h := rfl
@[simp ↓] theorem s_fldS {cs : List Str} {f : Str} {o a : Ex} : AS P Z ph (sFldS cs f o a rho h) = AF (fun v h1 => AF (fun x h2 => goO P rho (setF cs f x v h2)) (fun x k => Z x rho k) .mk (o rho h1)) (fun x k => Z x rho k) .mk (a rho h) := by
  (first | delta AF AS | delta AF | delta AS)
  show AftS (sFldS cs f o a rho h) P Z = _
  unfold sFldS
  rw [afs_toS]
  show Aft _ _ _ = Aft _ _ _
  congr; funext v h1
  rw [afs_toS]
  show Aft _ _ _ = Aft _ _ _
  congr; funext x h2
  cases setF cs f x v h2 <;> rfl
def fdA (cs : List Str) (f : Str) (g : F2) (P : Env → Fl → VH → Prop) (rho : Env) (x y : D) (h : VH) : Option (D × VH) → Prop
  | some p => match g p.1 y h with
    | some q => goO P rho (setF cs f x q.1 q.2)
    | none => False
  | none => False
theorem s_fldA {cs : List Str} {f : Str} {g : F2} {o a : Ex} : AS P Z ph (sFldA cs f g o a rho h) = AF (fun x h1 => match fldF cs f x h1 with | some p => AF (fun y h2 => match g p.1 y h2 with | some q => goO P rho (setF cs f x q.1 q.2) | none => False) (fun x k => Z x rho k) .mk (a rho h1) | none => False) (fun x k => Z x rho k) .mk (o rho h) := by
  (first | delta AF AS | delta AF | delta AS)
  show AftS (sFldA cs f g o a rho h) P Z = _
  unfold sFldA
  rw [afs_toS]
  show Aft _ _ _ = Aft _ _ _
  congr; funext x h1
  cases fldF cs f x h1 with
  | none => rfl
  | some p =>
    show AftS ((a rho h1).toS rho _) P Z = Aft _ _ _
    rw [afs_toS]
    congr; funext y h2
    cases q : g p.1 y h2 with
    | none => rfl
    | some z =>
      show AftS (match setF cs f x z.1 z.2 with | some h4 => .go rho .nx h4 | none => .bad) P Z = goO P rho (setF cs f x z.1 z.2)
      cases setF cs f x z.1 z.2 <;> rfl
end
end Mv

namespace Mv
open PySem L2
section
variable {P : D → VH → Prop} {PL : List D → VH → Prop} {Z : Xc → VH → Prop} {ph : Ph P Z} {phL : Ph PL Z} {rho : Env} {h : VH}
@[simp ↓] theorem f_lSl {a : Ex} {lo hi : Om} : AF PL Z phL (lSl a lo hi rho h) = AF (fun x h1 => AF (fun l h2 => AF (fun u h3 => AF (fun ds h4 => PL (cutD ds l u) h4) Z .mk (ofO (listOf x h3) h3)) Z .mk (hi rho h2)) Z .mk (lo rho h1)) Z .mk (a rho h) := by
  (first | delta AF AS | delta AF | delta AS)
  show Aft (lSl a lo hi rho h) PL Z = _
  unfold lSl
  rw [aft_bind]
  show Aft _ _ _ = Aft _ _ _
  congr; funext x h1
  rw [aft_bind]
  show Aft _ _ _ = Aft _ _ _
  congr; funext l h2
  rw [aft_bind]
  show Aft _ _ _ = Aft _ _ _
  congr; funext u h3
  cases listOf x h3 <;> rfl
end
section
variable {P : Env → Fl → VH → Prop} {Z : Xc → Env → VH → Prop} {ph : PhS P Z} {rho : Env} {h : VH}
@[simp ↓] theorem s_raise {c f : Str} {a : Ex} : AS P Z ph (sRaise c f a rho h) = AF (fun v h1 => Z ⟨c, [(f, v)]⟩ rho h1) (fun x k => Z x rho k) .mk (a rho h) := by
  (first | delta AF AS | delta AF | delta AS)
  show AftS (sRaise c f a rho h) P Z = _
  unfold sRaise
  rw [afs_toS]
  rfl
@[simp] theorem s_raise0 {c : Str} : sRaise0 c rho h = .exc ⟨c, []⟩ rho h := rfl
/-- what becomes of an exception of the body -/
def catA (tb : List (Str × Bool)) (i : Nat) (S : Xc → Sm) (P : Env → Fl → VH → Prop) (Z : Xc → Env → VH → Prop) (x : Xc) (r : Env) (k : VH) : Prop := match tb.lookup x.cls with
  | some true => i < r.length ∧ AS (fun r2 f k2 => P (r2.set i none) f k2) (fun _ _ _ => False) .mk (S x (r.set i none) k)
  | some false => Z x r k
  | none => False
theorem catA_t {tb : List (Str × Bool)} {i : Nat} {S : Xc → Sm} {x : Xc} {r : Env} {k : VH} (e : tb.lookup x.cls = some true) : catA tb i S P Z x r k = (i < r.length ∧ AS (fun r2 f k2 => P (r2.set i none) f k2) (fun _ _ _ => False) .mk (S x (r.set i none) k)) := by
  unfold catA; rw [e]
theorem catA_f {tb : List (Str × Bool)} {i : Nat} {S : Xc → Sm} {x : Xc} {r : Env} {k : VH} (e : tb.lookup x.cls = some false) : catA tb i S P Z x r k = Z x r k := by
  unfold catA; rw [e]
@[simp ↓] theorem s_tryA {b : Sm} {tb : List (Str × Bool)} {i : Nat} {S : Xc → Sm} : AS P Z ph (sTryA b tb i S rho h) = AS P (catA tb i S P Z) .mk (b rho h) := by
  (first | delta AF AS | delta AF | delta AS)
  show AftS (sTryA b tb i S rho h) P Z = AftS (b rho h) P (catA tb i S P Z)
  unfold sTryA
  cases b rho h with
  | bad => rfl
  | go r f k => rfl
  | exc x r k =>
    show AftS (match tb.lookup x.cls with | some true => _ | some false => _ | none => _) P Z = catA tb i S P Z x r k
    cases q : tb.lookup x.cls with
    | none => unfold catA; rw [q]; rfl
    | some c =>
      cases c with
      | false => rw [catA_f q]; rfl
      | true =>
        rw [catA_t q]
        by_cases hl : i < r.length
        · simp only [hl, if_true, true_and]
          rw [← asE]
          cases S x (r.set i none) k <;> rfl
        · simp only [hl, if_false, false_and]
          rfl
def catO2 (tb : List (Str × Bool)) (S : Sm) (P : Env → Fl → VH → Prop) (Z : Xc → Env → VH → Prop) (x : Xc) (r : Env) (k : VH) : Prop := match tb.lookup x.cls with
  | some true => AS P (fun _ _ _ => False) .mk (S r k)
  | some false => Z x r k
  | none => False
theorem catO2_t {tb : List (Str × Bool)} {S : Sm} {x : Xc} {r : Env} {k : VH} (e : tb.lookup x.cls = some true) : catO2 tb S P Z x r k = AS P (fun _ _ _ => False) .mk (S r k) := by
  unfold catO2; rw [e]
theorem catO2_f {tb : List (Str × Bool)} {S : Sm} {x : Xc} {r : Env} {k : VH} (e : tb.lookup x.cls = some false) : catO2 tb S P Z x r k = Z x r k := by
  unfold catO2; rw [e]
@[simp ↓] theorem s_tryO {b : Sm} {tb : List (Str × Bool)} {S : Sm} : AS P Z ph (sTryO b tb S rho h) = AS P (catO2 tb S P Z) .mk (b rho h) := by
  (first | delta AF AS | delta AF | delta AS)
  show AftS (sTryO b tb S rho h) P Z = AftS (b rho h) P (catO2 tb S P Z)
  unfold sTryO
  cases b rho h with
  | bad => rfl
  | go r f k => rfl
  | exc x r k =>
    show AftS (match tb.lookup x.cls with | some true => _ | some false => _ | none => _) P Z = catO2 tb S P Z x r k
    cases q : tb.lookup x.cls with
    | none => unfold catO2; rw [q]; rfl
    | some c =>
      cases c with
      | false => rw [catO2_f q]; rfl
      | true =>
        rw [catO2_t q, ← asE]
        cases S r k <;> rfl
end
/-- the words of a fault -/
def flt (w : Str) : Xc := ⟨"Fault", [("word", .str w)]⟩
@[simp] theorem r_xis {tb : List (Str × Bool)} {x : Xc} {rho : Env} {h : VH} : eXis tb x rho h = ofO ((tb.lookup x.cls).map D.bl) h := by
  unfold eXis
  cases tb.lookup x.cls <;> rfl
theorem r_xf {cs : List Str} {f : Str} {x : Xc} {rho : Env} {h : VH} (hc : x.cls ∈ cs) : eXf cs f x rho h = ofO (x.fs.lookup f) h := by
  unfold eXf
  rw [if_pos hc]
  cases x.fs.lookup f <;> rfl
/-! ### loops, in a form that simp can go on with -/
def Wn (I : Nat → Env → VH → Prop) (P : Env → Fl → VH → Prop) (m : Nat) : Env → Fl → VH → Prop := fun r f k => match f with
  | .nx => ∃ m', m' < m ∧ I m' r k
  | .cnt => ∃ m', m' < m ∧ I m' r k
  | .brk => P r .nx k
  | .ret d => P r (.ret d) k
section
variable {P : Env → Fl → VH → Prop} {Z : Xc → Env → VH → Prop} {ph : PhS P Z} {rho : Env} {h : VH}
@[simp ↓] theorem wn_nx {I : Nat → Env → VH → Prop} {m : Nat} : Wn I P m rho .nx h = ∃ m', m' < m ∧ I m' rho h := nr rfl
@[simp ↓] theorem wn_cnt {I : Nat → Env → VH → Prop} {m : Nat} : Wn I P m rho .cnt h = ∃ m', m' < m ∧ I m' rho h := nr rfl
@[simp ↓] theorem wn_brk {I : Nat → Env → VH → Prop} {m : Nat} : Wn I P m rho .brk h = P rho .nx h := nr rfl
@[simp ↓] theorem wn_ret {I : Nat → Env → VH → Prop} {m : Nat} {d : D} : Wn I P m rho (.ret d) h = P rho (.ret d) h := nr rfl
theorem whl_i {t : Ts} {b : Sm} (I : Nat → Env → VH → Prop) {n m : Nat} {r : Env} {k : VH} (hn : m < n) (h0 : I m r k)
    (step : ∀ m r k, I m r k → AF (fun x k1 => AS (Wn I P m) Z .mk (if x = true then b r k1 else .go r .brk k1)) (fun x k => Z x r k) .mk (t r k)) : AS P Z ph (whl t b n r k) := by
  refine AS.of (whl_inv I (fun m r k hi => ?_) n m r k hn h0)
  have a := Aft.af (step m r k hi)
  refine a.mono (fun x k1 hx => ?_) fun _ _ z => z
  cases x with
  | true => exact AftS.as hx
  | false => exact AftS.as hx
def Fw (I : List D → Env → VH → Prop) (P : Env → Fl → VH → Prop) (xs : List D) : Env → Fl → VH → Prop := fun r f k => match f with
  | .nx => I xs r k
  | .cnt => I xs r k
  | .brk => P r .nx k
  | .ret d => P r (.ret d) k
@[simp ↓] theorem fw_nx {I : List D → Env → VH → Prop} {xs : List D} : Fw I P xs rho .nx h = I xs rho h := nr rfl
@[simp ↓] theorem fw_cnt {I : List D → Env → VH → Prop} {xs : List D} : Fw I P xs rho .cnt h = I xs rho h := nr rfl
@[simp ↓] theorem fw_brk {I : List D → Env → VH → Prop} {xs : List D} : Fw I P xs rho .brk h = P rho .nx h := nr rfl
@[simp ↓] theorem fw_ret {I : List D → Env → VH → Prop} {xs : List D} {d : D} : Fw I P xs rho (.ret d) h = P rho (.ret d) h := nr rfl
theorem for_i {ck : Ck} {all : List D} {t : Tg} {b : Sm} (I : List D → Env → VH → Prop) {xs : List D} {r : Env} {k : VH} (h0 : I xs r k) (hck : ∀ xs r k, I xs r k → ckOk ck all k = true)
    (step : ∀ x xs r k, I (x :: xs) r k → ∃ r1, t.put x r = some r1 ∧ AS (Fw I P xs) Z .mk (b r1 k)) (done : ∀ r k, I [] r k → P r .nx k) : AS P Z ph (forL ck all t b xs r k) := by
  refine AS.of (for_inv I hck (fun x xs r k hi => ?_) done xs r k h0)
  obtain ⟨r1, e, a⟩ := step x xs r k hi
  exact ⟨r1, e, AftS.as a⟩
end
end Mv

namespace Mv
open PySem L2
section
variable {P : D → VH → Prop} {PP : List (D × D) → VH → Prop} {Z : Xc → VH → Prop} {ph : Ph P Z} {rho : Env} {h : VH}
/-! ### dicts -/
@[simp] theorem dkOf_loc {n : Nat} : dkOf (.loc n) h = (h[n]?).bind dkO := by
  show (match h[n]? with | some o => dkO o | none => none) = _
  cases h[n]? <;> rfl
@[simp] theorem dkO_k {kvs : List (Key × D)} : dkO (.dK kvs) = some kvs := rfl
@[simp] theorem dkO_l {kvs : List (Key × D)} : dkO (.lk (.dK kvs)) = some kvs := rfl
@[simp] theorem keyD_s {s : Str} : keyD (.str s) = some (.inr s) := rfl
@[simp] theorem keyD_i {i : Int} : keyD (.int i) = some (.inl i) := rfl
def dgO (z : D) : Option (List (Key × D)) → Option Key → VH → Option (D × VH)
  | some kvs, some j, h => some ((valD kvs j).getD z, h)
  | _, _, _ => none
@[simp] theorem dgO_s {z : D} {kvs : List (Key × D)} {j : Key} : dgO z (some kvs) (some j) h = some ((valD kvs j).getD z, h) := rfl
@[simp] theorem o_dg2 {x k z : D} : dgF x [k, z] h = dgO z (dkOf x h) (keyD k) h := by
  show (match dkOf x h, keyD k with | some kvs, some j => some ((valD kvs j).getD z, h) | _, _ => none) = _
  cases dkOf x h <;> cases keyD k <;> rfl
@[simp] theorem o_dg1 {x k : D} : dgF x [k] h = dgO .non (dkOf x h) (keyD k) h := by
  show (match dkOf x h, keyD k with | some kvs, some j => some ((valD kvs j).getD .non, h) | _, _ => none) = _
  cases dkOf x h <;> cases keyD k <;> rfl
theorem isDk_of {n : Nat} {kvs : List (Key × D)} (e : h[n]? = some (.dK kvs)) : isDk (.loc n) h = true := by
  unfold isDk
  simp [e]
def duO (n m : Nat) (h : VH) : Option O → Option O → Option (D × VH)
  | some (.dK kvs), some (.dK more) => if n ≠ m ∧ kvs.length + more.length ≤ sizeLine then some (.non, h.set n (.dK (mergeD kvs more))) else none
  | _, _ => none
@[simp] theorem duO_s {n m : Nat} {kvs more : List (Key × D)} : duO n m h (some (.dK kvs)) (some (.dK more)) = if n ≠ m ∧ kvs.length + more.length ≤ sizeLine then some (.non, h.set n (.dK (mergeD kvs more))) else none := rfl
@[simp] theorem o_du {n m : Nat} : duF (.loc n) [.loc m] h = duO n m h h[n]? h[m]? := by
  show (match h[n]?, h[m]? with | some (.dK kvs), some (.dK more) => (if n ≠ m ∧ kvs.length + more.length ≤ sizeLine then some (D.non, h.set n (.dK (mergeD kvs more))) else none) | _, _ => none) = _
  generalize h[n]? = a
  generalize h[m]? = b
  rcases a with _ | a
  · rfl
  · rcases b with _ | b
    · cases a <;> rfl
    · cases a <;> cases b <;> rfl
@[simp] theorem r_pNil : pNil rho h = .ok [] h := rfl
theorem pc_c {a b : D} {r : Pm} {ps : List (D × D)} (e : r rho h = .ok ps h) : pCons (eC a) (eC b) r rho h = .ok ((a, b) :: ps) h := by
  unfold pCons
  show ((r rho h).bind fun ps h3 => .ok ((a, b) :: ps) h3) = _
  rw [e]
  rfl
theorem disp_c {m : Pm} {ps : List (D × D)} {kvs : List (Key × D)} (e : m rho (h ++ [.dK []]) = .ok ps (h ++ [.dK []])) (hk : keysD ps = some kvs) (hl : kvs.length ≤ 15) : eDisp m rho h = .ok (.loc h.length) (h ++ [.dK (mergeD [] kvs)]) := by
  unfold eDisp
  rw [e, R.bind_ok, hk]
  dsimp only
  rw [if_pos ⟨by simp [emD], hl⟩]
  simp
/-! ### texts -/
def jnO (a : Str) : Option (List Str) → VH → Option (D × VH)
  | some ys, h => if (ys.map (·.length)).sum + ys.length * a.length ≤ 16777216 then some (.str (Str.join a ys), h) else none
  | none, _ => none
@[simp] theorem jnO_s {a : Str} {ys : List Str} : jnO a (some ys) h = if (ys.map (·.length)).sum + ys.length * a.length ≤ 16777216 then some (.str (Str.join a ys), h) else none := rfl
@[simp] theorem o_join {a : Str} {y : D} : joinF (.str a) [y] h = jnO a ((seqOf y h).bind strsD) h := by
  show (match seqOf y h with | some es => (match (strsD es : Option (List Str)) with | some ys => (if (ys.map fun (x : Str) => x.length).sum + ys.length * a.length ≤ 16777216 then some (D.str (Str.join a ys), h) else none) | none => none) | none => none) = _
  generalize seqOf y h = o
  rcases o with _ | es
  · rfl
  · show (match (strsD es : Option (List Str)) with | some ys => (if (ys.map fun (x : Str) => x.length).sum + ys.length * a.length ≤ 16777216 then some (D.str (Str.join a ys), h) else none) | none => none) = jnO a (strsD es) h
    generalize strsD es = p
    cases p <;> rfl
@[simp] theorem isS_s {s : Str} : isS (.str s) h = true := rfl
@[simp] theorem seqOf_l {ds : List D} : seqOf (.lst ds) h = some ds := rfl
@[simp] theorem seqOf_t {ds : List D} : seqOf (.tup ds) h = some ds := rfl
theorem strsD_map (ys : List Str) : strsD (ys.map D.str) = some ys := by
  induction ys with
  | nil => rfl
  | cons y ys ih =>
    show (match strsD (ys.map D.str) with | some ys => some (y :: ys) | none => none) = _
    rw [ih]
@[simp] theorem o_find3 {a b : Str} {i : Int} : find3F (.str a) [.str b, .int i] h = some (.int (Txt.find3 a b i), h) := rfl
end
section
variable {P : Env → Fl → VH → Prop} {Z : Xc → Env → VH → Prop} {ph : PhS P Z} {rho : Env} {h : VH}
def dpS (rho : Env) (h : VH) (n : Nat) (v : D) : Option Key → Option O → RS
  | some j, some (.dK kvs) => if kvs.length < sizeLine then .go rho .nx (h.set n (.dK (putD kvs j v))) else .bad
  | _, _ => .bad
@[simp] theorem dpS_s {n : Nat} {v : D} {j : Key} {kvs : List (Key × D)} : dpS rho h n v (some j) (some (.dK kvs)) = if kvs.length < sizeLine then .go rho .nx (h.set n (.dK (putD kvs j v))) else .bad := rfl
def dpT (rho : Env) (h : VH) (k v : D) : D → RS
  | .loc n => dpS rho h n v (keyD k) h[n]?
  | _ => .bad
@[simp] theorem dpT_l {n : Nat} {k v : D} : dpT rho h k v (.loc n) = dpS rho h n v (keyD k) h[n]? := rfl
@[simp ↓] theorem s_dput {o i a : Ex} : AS P Z ph (sDPut o i a rho h) = AF (fun v h1 => AF (fun x h2 => AF (fun k h3 => AS P Z .mk (dpT rho h3 k v x)) (fun x k => Z x rho k) .mk (i rho h2)) (fun x k => Z x rho k) .mk (o rho h1)) (fun x k => Z x rho k) .mk (a rho h) := by
  (first | delta AF AS | delta AF | delta AS)
  show AftS (sDPut o i a rho h) P Z = _
  unfold sDPut
  simp only [afs_toS]
  show Aft _ _ _ = Aft _ _ _
  congr; funext v h1
  show Aft _ _ _ = Aft _ _ _
  congr; funext x h2
  show Aft _ _ _ = Aft _ _ _
  congr; funext k h3
  cases x with
  | loc n =>
    rw [dpT_l]
    generalize keyD k = kk
    rcases kk with _ | j
    · rfl
    · show AftS (match h3[n]? with | some (.dK kvs) => (if kvs.length < sizeLine then RS.go rho .nx (h3.set n (.dK (putD kvs j v))) else .bad) | _ => .bad) P Z = AftS (dpS rho h3 n v (some j) h3[n]?) P Z
      generalize h3[n]? = o
      rcases o with _ | ob
      · rfl
      · cases ob <;> rfl
  | _ => rfl
end
/-! ### a, o[i] = x -/
section
variable {P : Env → Fl → VH → Prop} {Z : Xc → Env → VH → Prop} {ph : PhS P Z} {rho : Env} {h : VH}
def asX (ts : List Tx1) (rho : Env) : D → VH → RS
  | .tup ds, h => if ds.length = ts.length then putX ts ds rho h else .bad
  | _, _ => .bad
@[simp] theorem asX_t {ts : List Tx1} {ds : List D} : asX ts rho (.tup ds) h = if ds.length = ts.length then putX ts ds rho h else .bad := rfl
@[simp ↓] theorem s_asgX {ts : List Tx1} {a : Ex} : AS P Z ph (sAsgX ts a rho h) = AF (fun d h1 => AS P Z .mk (asX ts rho d h1)) (fun x k => Z x rho k) .mk (a rho h) := by
  (first | delta AF AS | delta AF | delta AS)
  show AftS (sAsgX ts a rho h) P Z = _
  unfold sAsgX
  rw [afs_toS]
  show Aft _ _ _ = Aft _ _ _
  congr; funext d h1
  cases d <;> rfl
@[simp] theorem putX_nil : putX [] [] rho h = .go rho .nx h := rfl
@[simp] theorem putX_nm {i : Nat} {ts : List Tx1} {d : D} {ds : List D} : putX (.nm i :: ts) (d :: ds) rho h = putX ts ds (rho.set i (some d)) h := rfl
def ptO (ts : List Tx1) (ds : List D) (rho : Env) : Option VH → RS
  | some h => putX ts ds rho h
  | none => .bad
@[simp] theorem ptO_s {ts : List Tx1} {ds : List D} : ptO ts ds rho (some h) = putX ts ds rho h := rfl
theorem putX_ls {o k : Ex} {ts : List Tx1} {d x y : D} {ds : List D} (e1 : o rho h = .ok x h) (e2 : k rho h = .ok y h) : putX (.ls o k :: ts) (d :: ds) rho h = ptO ts ds rho (lsPut x y d h) := by
  show ((noX (o rho h)).toS rho fun x h2 => (noX (k rho h2)).toS rho fun y h3 => match lsPut x y d h3 with | some h4 => putX ts ds rho h4 | none => .bad) = _
  rw [e1]
  show ((noX (k rho h)).toS rho fun y h3 => match lsPut x y d h3 with | some h4 => putX ts ds rho h4 | none => .bad) = _
  rw [e2]
  show (match lsPut x y d h with | some h4 => putX ts ds rho h4 | none => .bad) = _
  cases lsPut x y d h <;> rfl
theorem putX_dk {o k : Ex} {ts : List Tx1} {d x y : D} {ds : List D} (e1 : o rho h = .ok x h) (e2 : k rho h = .ok y h) : putX (.dk o k :: ts) (d :: ds) rho h = ptO ts ds rho (dkPut x y d h) := by
  show ((noX (o rho h)).toS rho fun x h2 => (noX (k rho h2)).toS rho fun y h3 => match dkPut x y d h3 with | some h4 => putX ts ds rho h4 | none => .bad) = _
  rw [e1]
  show ((noX (k rho h)).toS rho fun y h3 => match dkPut x y d h3 with | some h4 => putX ts ds rho h4 | none => .bad) = _
  rw [e2]
  show (match dkPut x y d h with | some h4 => putX ts ds rho h4 | none => .bad) = _
  cases dkPut x y d h <;> rfl
theorem lsPut_eq {n : Nat} {j : Int} {m : Nat} {v : D} {xs : List D} (e : h[n]? = some (.lst xs)) (hm : ixN xs.length j = some m) : lsPut (.loc n) (.int j) v h = some (h.set n (.lst (xs.set m v))) := by
  unfold lsPut
  simp only [e, hm]
end
@[simp] theorem pick_2d {x y z : D} : pickD [x, y] [] [.pos 0, .pos 1, .df z] = some [x, y, z] := rfl
@[simp] theorem pick_2k {x y z : D} : pickD [x, y] [z] [.pos 0, .pos 1, .kw 0] = some [x, y, z] := rfl
section
variable {Z : Xc → VH → Prop} {rho : Env} {h : VH}
def zip2 : Option (List D × Ck) → Option (List D × Ck) → VH → R (List D × Ck)
  | some (xs, c1), some (ys, c2), h => .ok (zipD xs ys, c1 ++ c2) h
  | _, _, _ => .bad
@[simp] theorem zip2_s {xs ys : List D} {c1 c2 : Ck} : zip2 (some (xs, c1)) (some (ys, c2)) h = .ok (zipD xs ys, c1 ++ c2) h := rfl
def zipI : List D → VH → R (List D × Ck)
  | [x, y], h => zip2 (itL x h) (itL y h) h
  | _, _ => .bad
@[simp] theorem zipI_2 {x y : D} : zipI [x, y] h = zip2 (itL x h) (itL y h) h := rfl
@[simp] theorem itL_lst {ds : List D} : itL (.lst ds) h = some (ds, []) := rfl
@[simp ↓] theorem f_iZipD {a : Ar} {PI : List D × Ck → VH → Prop} {phI : Ph PI Z} : AF PI Z phI (iZipD a rho h) = AF (fun ds h1 => AF PI Z .mk (zipI ds h1)) Z .mk (a rho h) := by
  (first | delta AF AS | delta AF | delta AS)
  show Aft (iZipD a rho h) PI Z = _
  unfold iZipD
  rw [aft_bind]
  show Aft _ _ _ = Aft _ _ _
  congr; funext ds h1
  rcases ds with _ | ⟨x, _ | ⟨y, _ | ⟨z, r⟩⟩⟩
  · rfl
  · rfl
  · show Aft (match itL x h1, itL y h1 with | some (xs, c1), some (ys, c2) => R.ok (zipD xs ys, c1 ++ c2) h1 | _, _ => R.bad) PI Z = Aft (zip2 (itL x h1) (itL y h1) h1) PI Z
    rcases itL x h1 with _ | ⟨xs, c1⟩ <;> rcases itL y h1 with _ | ⟨ys, c2⟩ <;> rfl
  · rfl
end
/-! ### texts written in the program -/
theorem ofS_inj {a b : String} (h : Str.ofString a = Str.ofString b) : a = b := by
  have e : ∀ s : String, (Str.ofString s).cps.toList = s.toList.map Char.toNat := fun s => by
    unfold Str.ofString
    rw [cpsOfBytes_string]
  have h2 : a.toList.map Char.toNat = b.toList.map Char.toNat := by rw [← e, ← e, h]
  have inj : ∀ (x y : List Char), x.map Char.toNat = y.map Char.toNat → x = y := by
    intro x
    induction x with
    | nil => intro y h; cases y with
      | nil => rfl
      | cons _ _ => cases h
    | cons c x ih => intro y h; cases y with
      | nil => cases h
      | cons d y =>
        simp only [List.map_cons, List.cons.injEq] at h
        have hc : c = d := by
          apply Char.ext
          apply UInt32.toNat_inj.mp
          exact h.1
        rw [hc, ih y h.2]
  have h3 := inj _ _ h2
  exact String.toList_inj.mp h3
@[simp] theorem ofS_eq {a b : String} : (Str.ofString a = Str.ofString b) = (a = b) := propext ⟨ofS_inj, fun h => by rw [h]⟩
@[simp] theorem ofS_beq {a b : String} : (Str.ofString a == Str.ofString b) = decide (a = b) := by
  rw [str_beq_iff]
  by_cases h : a = b
  · subst h; simp
  · have : ¬ (Str.ofString a = Str.ofString b) := fun z => h (ofS_inj z)
    simp [h]
/-! ### what is shown is not too long -/
def Small (N : Nat) (d : PyData) : Prop := d.showable = true ∧ d.leavesShort 30 = true ∧ d.bulk ≤ N
theorem Small.ok {N : Nat} {d : PyData} (h : Small N d) (hN : N ≤ 400000) : d.showable = true ∧ d.shown.length ≤ 16777216 := by
  refine ⟨h.1, Nat.le_trans (PyData.shown_le_bulk 30 (by decide) d h.2.1) ?_⟩
  have := h.2.2
  omega
end Mv

namespace Mv
open PySem L2
theorem Aft.eq {α : Type} {r : R α} {x : α} {h : VH} (a : Aft r (fun d k => k = h ∧ d = x) fun _ _ => False) : r = .ok x h := by
  obtain ⟨d, k, e, rfl, rfl⟩ := a.run
  exact e
/-! ### reading, plainly -/
def tx (S : Str) : List Nat := S.cps.toList
abbrev Kd := Nat → Str
def kAt (f : Kd) (L : List Nat) (i : Nat) : Str := match L[i]? with
  | some c => f c
  | none => Str.ofString "none"
def behP (f : Kd) (L : List Nat) (k : Str) (i : Nat) : Nat := i + ((L.drop i).takeWhile fun c => decide (f c = k)).length
def remP (L : List Nat) (i : Nat) : Nat := min (i + ((L.drop i).takeWhile fun c => decide (c ≠ 10)).length + 1) L.length
def passG (f : Kd) (L : List Nat) : Nat → Nat → Nat
  | 0, i => i
  | n + 1, i => if kAt f L i = Str.ofString "gone" then passG f L n (i + 1) else if kAt f L i = Str.ofString "remark" then passG f L n (remP L i) else i
def passP (f : Kd) (L : List Nat) (i : Nat) : Nat := passG f L (L.length + 1 - i) i
inductive Nx where
  | more
  | none (a : Nat)
  | ends (a : Nat)
  | pc (w s : Str) (a : Nat)
def grw (g : Bool) (L : List Nat) (e : Nat) (x : Nx) : Nx := if g = true ∧ L.length ≤ e then .more else x
def nxAt (f : Kd) (S : Str) (g : Bool) (a : Nat) : Nx := match (tx S)[a]? with
  | none => if g = true then .more else .none a
  | some c =>
    if f c = Str.ofString "escape" then
      match (tx S)[a + 1]? with
      | none => if g = true then .more else .ends a
      | some c2 =>
        if f c2 = Str.ofString "letter" then
          grw g (tx S) (behP f (tx S) "blank" (min (a + 31) (behP f (tx S) "letter" (a + 1)))) (.pc "name" (cutS S (some ((a + 1 : Nat) : Int)) (some ((min (a + 31) (behP f (tx S) "letter" (a + 1)) : Nat) : Int))) (behP f (tx S) "blank" (min (a + 31) (behP f (tx S) "letter" (a + 1)))))
        else .pc "name" (chr1 c2) (a + 2)
    else if f c = Str.ofString "blank" then grw g (tx S) (behP f (tx S) "blank" a) (.pc "blank" " " (behP f (tx S) "blank" a))
    else .pc (f c) (chr1 c) (a + 1)
def nx (f : Kd) (S : Str) (g : Bool) (i : Nat) : Nx := nxAt f S g (passP f (tx S) i)
/-! ### facts -/
theorem kAt_some {f : Kd} {L : List Nat} {i c : Nat} (h : L[i]? = some c) : kAt f L i = f c := by unfold kAt; rw [h]
theorem kAt_none {f : Kd} {L : List Nat} {i : Nat} (h : L.length ≤ i) : kAt f L i = Str.ofString "none" := by unfold kAt; rw [List.getElem?_eq_none h]
theorem tw_step {L : List Nat} {i c : Nat} {p : Nat → Bool} (h : L[i]? = some c) : (L.drop i).takeWhile p = if p c = true then c :: (L.drop (i + 1)).takeWhile p else [] := by
  have hl := (List.getElem?_eq_some_iff.mp h).1
  have e := (List.getElem?_eq_some_iff.mp h).2
  rw [List.drop_eq_getElem_cons hl, e, List.takeWhile_cons]
theorem behP_step {f : Kd} {L : List Nat} {k : Str} {i c : Nat} (h : L[i]? = some c) (hk : f c = k) : behP f L k i = behP f L k (i + 1) := by
  unfold behP
  rw [tw_step h, if_pos (by simpa using hk), List.length_cons]
  omega
theorem behP_stop {f : Kd} {L : List Nat} {k : Str} {i : Nat} (h : ∀ c, L[i]? = some c → f c ≠ k) : behP f L k i = i := by
  unfold behP
  cases q : L[i]? with
  | none =>
    have : L.length ≤ i := List.getElem?_eq_none_iff.mp q
    rw [List.drop_eq_nil_of_le this]
    rfl
  | some c =>
    rw [tw_step q, if_neg (by simpa using h c q)]
    rfl
theorem behP_le {f : Kd} {L : List Nat} {k : Str} {i : Nat} (h : i ≤ L.length) : i ≤ behP f L k i ∧ behP f L k i ≤ L.length := by
  unfold behP
  have := (List.takeWhile_prefix (l := L.drop i) fun c => decide (f c = k)).length_le
  simp at this
  omega
theorem remP_le {L : List Nat} {i : Nat} (h : i < L.length) : i < remP L i ∧ remP L i ≤ L.length := by
  unfold remP
  omega
theorem kAt_lt {f : Kd} {L : List Nat} {i : Nat} {k : Str} (h : kAt f L i = k) (hk : k ≠ Str.ofString "none") : i < L.length := by
  apply Classical.byContradiction
  intro z
  rw [kAt_none (by omega)] at h
  exact hk h.symm
theorem passG_fuel {f : Kd} {L : List Nat} : ∀ (n m i : Nat), L.length < n + i → L.length < m + i → passG f L n i = passG f L m i
  | 0, 0, _, _, _ => rfl
  | 0, m + 1, i, h, _ => by
    have hk : kAt f L i = Str.ofString "none" := kAt_none (by omega)
    unfold passG
    rw [hk, if_neg (by decide), if_neg (by decide)]
  | n + 1, 0, i, _, h => by
    have hk : kAt f L i = Str.ofString "none" := kAt_none (by omega)
    unfold passG
    rw [hk, if_neg (by decide), if_neg (by decide)]
  | n + 1, m + 1, i, h1, h2 => by
    unfold passG
    by_cases hg : kAt f L i = Str.ofString "gone"
    · rw [if_pos hg, if_pos hg]
      exact passG_fuel n m (i + 1) (by omega) (by omega)
    · rw [if_neg hg, if_neg hg]
      by_cases hr : kAt f L i = Str.ofString "remark"
      · rw [if_pos hr, if_pos hr]
        have := remP_le (kAt_lt hr (by decide))
        exact passG_fuel n m _ (by omega) (by omega)
      · rw [if_neg hr, if_neg hr]
theorem passP_eq {f : Kd} {L : List Nat} {i : Nat} (h : i ≤ L.length) : passP f L i = if kAt f L i = Str.ofString "gone" then passP f L (i + 1) else if kAt f L i = Str.ofString "remark" then passP f L (remP L i) else i := by
  have e : passP f L i = passG f L (L.length - i + 1) i := by unfold passP; rw [show L.length + 1 - i = L.length - i + 1 from by omega]
  rw [e]
  conv => lhs; unfold passG
  by_cases hg : kAt f L i = Str.ofString "gone"
  · rw [if_pos hg, if_pos hg]
    have := kAt_lt hg (by decide)
    exact passG_fuel _ _ _ (by omega) (by omega)
  · rw [if_neg hg, if_neg hg]
    by_cases hr : kAt f L i = Str.ofString "remark"
    · rw [if_pos hr, if_pos hr]
      have := remP_le (kAt_lt hr (by decide))
      exact passG_fuel _ _ _ (by omega) (by omega)
    · rw [if_neg hr, if_neg hr]
theorem passP_le {f : Kd} {L : List Nat} : ∀ (n i : Nat), L.length - i ≤ n → i ≤ L.length → i ≤ passP f L i ∧ passP f L i ≤ L.length ∧ kAt f L (passP f L i) ≠ Str.ofString "gone" ∧ kAt f L (passP f L i) ≠ Str.ofString "remark"
  | n, i, hn, h => by
    rw [passP_eq h]
    by_cases hg : kAt f L i = Str.ofString "gone"
    · rw [if_pos hg]
      have hl := kAt_lt hg (by decide)
      cases n with
      | zero => omega
      | succ n =>
        obtain ⟨a, b, c⟩ := passP_le (f := f) (L := L) n (i + 1) (by omega) (by omega)
        exact ⟨by omega, b, c⟩
    · rw [if_neg hg]
      by_cases hr : kAt f L i = Str.ofString "remark"
      · rw [if_pos hr]
        have hl := kAt_lt hr (by decide)
        have hrm := remP_le hl
        cases n with
        | zero => omega
        | succ n =>
          obtain ⟨a, b, c⟩ := passP_le (f := f) (L := L) n (remP L i) (by omega) hrm.2
          exact ⟨by omega, b, c⟩
      · rw [if_neg hr]
        exact ⟨Nat.le_refl _, h, hg, hr⟩
/-! ### tables -/
def KdT (d : D) (h : VH) (f : Kd) : Prop := ∃ n kvs, d = .loc n ∧ h[n]? = some (.dK kvs) ∧ (∀ c, (valD kvs (.inr (chr1 c))).getD (.str "other") = .str (f c)) ∧ ∀ c, f c ≠ Str.ofString "none"
theorem KdT.dg {d : D} {h : VH} {f : Kd} (k : KdT d h f) (c : Nat) : isDk d h = true ∧ dgF d [.str (chr1 c), .str (Str.ofString "other")] h = some (.str (f c), h) := by
  obtain ⟨n, kvs, rfl, e, hc, _⟩ := k
  refine ⟨isDk_of e, ?_⟩
  rw [o_dg2, dkOf_loc, e]
  show some ((valD kvs (.inr (chr1 c))).getD _, h) = _
  rw [hc c]
theorem KdT.nn {d : D} {h : VH} {f : Kd} (k : KdT d h f) : ∀ c, f c ≠ Str.ofString "none" := by
  obtain ⟨n, kvs, _, _, _, h⟩ := k
  exact h
theorem KdT.frm {S : List Nat} {d : D} {h h1 : VH} {f : Kd} (k : KdT d h f) (fr : Frm S h h1) (hs : ∀ n, d = .loc n → n ∉ S) : KdT d h1 f := by
  obtain ⟨n, kvs, rfl, e, hc⟩ := k
  exact ⟨n, kvs, rfl, fr.get e (hs n rfl), hc⟩
theorem kh_eq {d : D} {h : VH} {f : Kd} (k : KdT d h f) (c : Nat) : m_kind_here [d, .str (chr1 c)] h = .ok (.str (f c)) h := by
  obtain ⟨e1, e2⟩ := k.dg c
  refine Aft.eq ?_
  rw [afE, me_kind_here, f_fnM]
  simp only [mb_kind_here]
  simp [e1, -o_dg2, e2]
/-! ### the law's own reading -/
section
variable {d : D} {h : VH} {f : Kd} {S : Str}
theorem ix_s {i c : Nat} (e : (tx S)[i]? = some c) : ixF (.str S) (.int (i : Nat)) h = some (.str (chr1 c), h) := by
  rw [o_ixs, atI_nat]
  show chO ((tx S)[i]?) h = _
  rw [e]
  rfl
theorem len_s : S.length = (tx S).length := by simp [Str.length, tx]
theorem lkind_eq (k : KdT d h f) (i : Nat) : m__law_kind [d, .str S, .int (i : Nat)] h = .ok (.str (kAt f (tx S) i)) h := by
  refine Aft.eq ?_
  rw [afE, me__law_kind, f_fnM]
  by_cases hi : i < (tx S).length
  · have e : (tx S)[i]? = some (tx S)[i] := List.getElem?_eq_getElem hi
    obtain ⟨e1, e2⟩ := k.dg (tx S)[i]
    have hi' : (i : Int) < (S.length : Int) := by rw [len_s]; omega
    rw [kAt_some e]
    simp [mb__law_kind, hi', -o_ixs, ix_s e, e1, -o_dg2, e2]
  · have hi' : ¬ ((i : Int) < (S.length : Int)) := by rw [len_s]; omega
    rw [kAt_none (by omega)]
    simp [mb__law_kind, hi']
def LbI (d : D) (h : VH) (f : Kd) (S : Str) (kk : Str) (i : Nat) (m : Nat) (r : Env) (k : VH) : Prop := k = h ∧ ∃ j, r = [some d, some (.str S), some (.int (j : Nat)), some (.str kk)] ∧ j ≤ (tx S).length ∧ behP f (tx S) kk j = behP f (tx S) kk i ∧ m = (tx S).length - j
theorem lbeh_eq (k : KdT d h f) {kk : Str} (hk : kk ≠ Str.ofString "none") {i : Nat} (hi : i ≤ (tx S).length) (hl : (tx S).length < 5000) : m__law_behind [d, .str S, .int (i : Nat), .str kk] h = .ok (.int (behP f (tx S) kk i : Nat)) h := by
  refine Aft.eq ?_
  rw [afE, me__law_behind, f_fnM]
  simp [mb__law_behind]
  refine whl_i (LbI d h f S kk i) (m := (tx S).length - i) (by show _ < 100000; omega) ⟨rfl, i, rfl, hi, rfl, rfl⟩ ?_
  rintro m r k2 ⟨rfl, j, rfl, h1, h2, rfl⟩
  by_cases hq : kAt f (tx S) j = kk
  · have hj := kAt_lt hq hk
    have e : (tx S)[j]? = some (tx S)[j] := List.getElem?_eq_getElem hj
    have hb : (kAt f (tx S) j == kk) = true := by rw [hq]; simp [str_beq]
    simp [lkind_eq k, hb]
    rw [kAt_some e] at hq
    exact ⟨(tx S).length - (j + 1), by omega, rfl, j + 1, rfl, by omega, by rw [← h2, behP_step e hq], rfl⟩
  · have hb : (kAt f (tx S) j == kk) = false := by rw [str_beq_iff]; simp [hq]
    simp [lkind_eq k, hb]
    rw [← h2, behP_stop]
    intro c hc
    rw [kAt_some hc] at hq
    exact hq
end
end Mv

namespace Mv
open PySem L2
section
variable {d : D} {h : VH} {f : Kd} {S : Str}
theorem in_l2 {k a b : Str} : inF (.str k) (.lst [.str a, .str b]) h = some (.bl (a == k || (b == k || false)), h) := rfl
theorem in_t2 {k a b : Str} : inF (.str k) (.tup [.str a, .str b]) h = some (.bl (a == k || (b == k || false)), h) := rfl
theorem in_go {k a b : Str} : (a == k || (b == k || false)) = (decide (k = a) || decide (k = b)) := by
  rw [str_beq_iff, str_beq_iff]
  by_cases h1 : k = a
  · subst h1; simp
  · have : ¬ (a = k) := Ne.symm h1
    by_cases h2 : k = b
    · subst h2; simp
    · have : ¬ (b = k) := Ne.symm h2
      simp [*]
theorem nl_eq {c : Nat} : (chr1 c == Str.ofString "\n") = decide (c = 10) := by
  rw [str_beq_iff]
  have : Str.ofString "\n" = chr1 10 := by decide +kernel
  rw [this]
  by_cases hc : c = 10
  · subst hc; simp
  · have : chr1 c ≠ chr1 10 := fun z => by
      unfold chr1 at z
      injection z with z
      injection z with z
      injection z with z
      exact hc z
    simp [hc, this]
def LpI (d : D) (h : VH) (f : Kd) (S : Str) (i : Nat) (m : Nat) (r : Env) (k : VH) : Prop := k = h ∧ ∃ j, r = [some d, some (.str S), some (.int (j : Nat))] ∧ j ≤ (tx S).length ∧ passP f (tx S) j = passP f (tx S) i ∧ m = (tx S).length - j
def LqI (d : D) (h : VH) (S : Str) (i : Nat) (m : Nat) (r : Env) (k : VH) : Prop := k = h ∧ ∃ j, r = [some d, some (.str S), some (.int (j : Nat))] ∧ i ≤ j ∧ j ≤ (tx S).length ∧ remP (tx S) j = remP (tx S) i ∧ m = (tx S).length - j
theorem remP_step {L : List Nat} {j c : Nat} (e : L[j]? = some c) (hc : c ≠ 10) : remP L (j + 1) = remP L j := by
  unfold remP
  rw [tw_step e, if_pos (by simpa using hc), List.length_cons]
  congr 1
  omega
theorem remP_stop {L : List Nat} {j : Nat} (hj : j ≤ L.length) (hc : ∀ c, L[j]? = some c → c = 10) : remP L j = min (j + 1) L.length := by
  unfold remP
  cases q : L[j]? with
  | none =>
    have : L.length ≤ j := List.getElem?_eq_none_iff.mp q
    rw [List.drop_eq_nil_of_le this]
    rfl
  | some c =>
    rw [tw_step q, if_neg (by simpa using hc c q)]
    rfl
theorem min_int {a b : Nat} : (if ((b : Nat) : Int) < ((a : Nat) : Int) then ((b : Nat) : Int) else ((a : Nat) : Int)) = ((min a b : Nat) : Int) := by
  split <;> omega
theorem lpass_eq (k : KdT d h f) {i : Nat} (hi : i ≤ (tx S).length) (hl : (tx S).length < 5000) : m__law_passed [d, .str S, .int (i : Nat)] h = .ok (.int (passP f (tx S) i : Nat)) h := by
  refine Aft.eq ?_
  rw [afE, me__law_passed, f_fnM]
  simp [mb__law_passed]
  refine whl_i (LpI d h f S i) (m := (tx S).length - i) (by show _ < 100000; omega) ⟨rfl, i, rfl, hi, rfl, rfl⟩ ?_
  rintro m r k2 ⟨rfl, j, rfl, h1, h2, rfl⟩
  have hp := passP_eq (f := f) h1
  by_cases hg : kAt f (tx S) j = Str.ofString "gone"
  · have hj := kAt_lt hg (by decide)
    rw [if_pos hg] at hp
    simp [lkind_eq k, in_l2, in_go, hg, len_s]
    have e1 : (if ((tx S).length : Int) < (j : Int) + 1 then ((tx S).length : Int) else (j : Int) + 1) = ((j + 1 : Nat) : Int) := by split <;> omega
    rw [e1]
    exact ⟨(tx S).length - (j + 1), by omega, rfl, j + 1, rfl, by omega, by rw [← h2, hp], rfl⟩
  · rw [if_neg hg] at hp
    by_cases hr : kAt f (tx S) j = Str.ofString "remark"
    · have hj := kAt_lt hr (by decide)
      rw [if_pos hr] at hp
      simp [lkind_eq k, in_l2, in_go, hr]
      refine whl_i (LqI d k2 S j) (m := (tx S).length - j) (by show _ < 100000; omega) ⟨rfl, j, rfl, Nat.le_refl _, h1, rfl, rfl⟩ ?_
      rintro m r k3 ⟨rfl, l, rfl, hjl, h3, h4, rfl⟩
      have fin : min (l + 1) (tx S).length = remP (tx S) j → ∃ m', m' < (tx S).length - j ∧ LpI d k3 f S i m' [some d, some (.str S), some (.int ((min (l + 1) (tx S).length : Nat) : Int))] k3 := fun e =>
        ⟨(tx S).length - min (l + 1) (tx S).length, by omega, rfl, _, rfl, by omega, by rw [e, ← hp, h2], rfl⟩
      have e1 : (if ((tx S).length : Int) < (l : Int) + 1 then ((tx S).length : Int) else (l : Int) + 1) = ((min (l + 1) (tx S).length : Nat) : Int) := by split <;> omega
      by_cases hlt : l < (tx S).length
      · have e : (tx S)[l]? = some (tx S)[l] := List.getElem?_eq_getElem hlt
        by_cases hc : (tx S)[l] = 10
        · have hb : (chr1 (tx S)[l] == Str.ofString "\n") = true := by rw [nl_eq]; simp [hc]
          simp [len_s, hlt, -o_ixs, ix_s e, hb]
          rw [e1]
          exact fin (by rw [← h4, remP_stop h3 fun c h5 => by rw [e] at h5; cases h5; exact hc])
        · have hb : (chr1 (tx S)[l] == Str.ofString "\n") = false := by rw [nl_eq]; simp [hc]
          simp [len_s, hlt, -o_ixs, ix_s e, hb]
          exact ⟨(tx S).length - (l + 1), by omega, rfl, l + 1, rfl, by omega, by omega, by rw [remP_step e hc, h4], rfl⟩
      · have hle : l = (tx S).length := by omega
        simp [len_s, hlt]
        rw [e1]
        exact fin (by rw [← h4, remP_stop h3 fun c h5 => by rw [List.getElem?_eq_none (by omega)] at h5; cases h5])
    · rw [if_neg hr] at hp
      have hg' : ¬ (Str.ofString "gone" = kAt f (tx S) j) := Ne.symm hg
      have hr' : ¬ (Str.ofString "remark" = kAt f (tx S) j) := Ne.symm hr
      simp [lkind_eq k, in_l2, in_go, hg, hr, hg', hr']
      rw [← h2, hp]
def lnD (b : Nat) : Nx → D
  | .more => .tup [.tup [.str "more"], .int (b : Nat)]
  | .none a => .tup [.non, .int (a : Nat)]
  | .ends a => .tup [.str "ends", .int (a : Nat)]
  | .pc w s a => .tup [.tup [.str w, .str s], .int (a : Nat)]
theorem sb_t {a b : Str} (e : a = b) : (a == b) = true := by rw [e]; exact str_beq b
theorem sb_f {a b : Str} (e : a ≠ b) : (a == b) = false := by rw [str_beq_iff]; simp [e]
theorem lnext_eq (k : KdT d h f) {i : Nat} {g : Bool} (hi : i ≤ (tx S).length) (hl : (tx S).length < 5000) : m__law_next [d, .str S, .int (i : Nat), .bl g] h = .ok (lnD i (nx f S g i)) h := by
  refine Aft.eq ?_
  rw [afE, me__law_next, f_fnM]
  obtain ⟨p1, p2, p3, p4⟩ := passP_le (f := f) (L := tx S) _ i (Nat.le_refl _) hi
  have hnn := k.nn
  unfold nx
  have hps := lpass_eq (S := S) k hi hl
  generalize passP f (tx S) i = a at *
  simp only [mb__law_next]
  simp [hps, lkind_eq k, -o_ixs]
  cases q : (tx S)[a]? with
  | none =>
    have ha : a = (tx S).length := by
      have := List.getElem?_eq_none_iff.mp q
      omega
    have e1 : nxAt f S g a = if g = true then .more else .none a := by unfold nxAt; rw [q]
    have e2 : kAt f (tx S) a = Str.ofString "none" := kAt_none (by omega)
    rw [e1, e2]
    cases g
    · simp [lnD]
    · simp [lnD]
  | some c =>
    have hal := (List.getElem?_eq_some_iff.mp q).1
    rw [kAt_some q] at p3 p4 ⊢
    have n1 := sb_f (hnn c)
    have hix := ix_s (h := h) q
    by_cases he : f c = Str.ofString "escape"
    · have n2 := sb_t he
      cases q2 : (tx S)[a + 1]? with
      | none =>
        have ha : a + 1 = (tx S).length := by
          have := List.getElem?_eq_none_iff.mp q2
          omega
        have e1 : nxAt f S g a = if g = true then .more else .ends a := by unfold nxAt; simp only [q, q2]; rw [if_pos he]
        have ha' : (a : Int) + 1 = ((tx S).length : Int) := by omega
        rw [e1]
        cases g
        · simp [lnD, n1, n2, len_s, ha', he]
        · simp [lnD, n1, n2, len_s, ha', he]
      | some c2 =>
        have hal2 := (List.getElem?_eq_some_iff.mp q2).1
        have hb := lbeh_eq (S := S) (kk := Str.ofString "letter") (i := a + 1) k (by decide) (by omega) hl
        have hbl := behP_le (f := f) (k := Str.ofString "letter") (show a + 1 ≤ (tx S).length by omega)
        have ha' : ¬ ((a : Int) + 1 = ((tx S).length : Int)) := by omega
        have ecast : ((a : Int) + 1) = ((a + 1 : Nat) : Int) := by omega
        by_cases h2 : f c2 = Str.ofString "letter"
        · have e1 : nxAt f S g a = grw g (tx S) (behP f (tx S) "blank" (min (a + 31) (behP f (tx S) "letter" (a + 1)))) (.pc "name" (cutS S (some ((a + 1 : Nat) : Int)) (some ((min (a + 31) (behP f (tx S) "letter" (a + 1)) : Nat) : Int))) (behP f (tx S) "blank" (min (a + 31) (behP f (tx S) "letter" (a + 1))))) := by
            unfold nxAt; simp only [q, q2]; rw [if_pos he, if_pos h2]
          rw [e1]
          have hst := behP_step (f := f) q2 h2
          have hbl2 := behP_le (f := f) (k := Str.ofString "letter") (show a + 1 + 1 ≤ (tx S).length by omega)
          rw [hst] at hb ⊢
          generalize behP f (tx S) (Str.ofString "letter") (a + 1 + 1) = b at *
          rw [← ecast] at hb
          have e3 : (if (b : Int) < (a : Int) + 31 then (b : Int) else (a : Int) + 31) = ((min (a + 31) b : Nat) : Int) := by split <;> omega
          have hne : ¬ (((min (a + 31) b : Nat) : Int) = (a : Int) + 1) := by omega
          have hb2 := lbeh_eq (S := S) (kk := Str.ofString "blank") (i := min (a + 31) b) k (by decide) (by omega) hl
          have hbl3 := behP_le (f := f) (k := Str.ofString "blank") (show min (a + 31) b ≤ (tx S).length by omega)
          generalize hM : min (a + 31) b = M at *
          generalize behP f (tx S) (Str.ofString "blank") M = E at *
          have nb : (f c == Str.ofString "blank") = false := sb_f (by rw [he]; decide)
          simp [n1, n2, len_s, ha', -o_ixs, hix, hb, e3, hne, in_l2, in_go, he, hb2, nb]
          by_cases hg : g = true ∧ (tx S).length ≤ E
          · have hE : (E : Int) = ((tx S).length : Int) := by omega
            unfold grw
            rw [if_pos hg]
            simp [hg.1, hE, lnD]
          · unfold grw
            rw [if_neg hg]
            cases g with
            | false =>
              simp [lnD]
            | true =>
              have hE : ¬ ((E : Int) = ((tx S).length : Int)) := fun z => hg ⟨rfl, by omega⟩
              simp [hE, lnD]
        · have e1 : nxAt f S g a = .pc "name" (chr1 c2) (a + 2) := by unfold nxAt; simp only [q, q2]; rw [if_pos he, if_neg h2]
          rw [e1]
          have hst : behP f (tx S) (Str.ofString "letter") (a + 1) = a + 1 := behP_stop fun c3 h3 => by rw [q2] at h3; cases h3; exact h2
          rw [hst, ← ecast] at hb
          have e3 : (if (a : Int) + 1 < (a : Int) + 31 then (a : Int) + 1 else (a : Int) + 31) = (a : Int) + 1 := by split <;> omega
          have hix2 := ix_s (h := h) q2
          rw [← ecast] at hix2
          simp [n1, n2, len_s, ha', -o_ixs, hix, hb, e3, hix2, lnD]
          exact ⟨hnn c, by omega⟩
    · have n2 := sb_f he
      by_cases hbk : f c = Str.ofString "blank"
      · have n3 := sb_t hbk
        have e1 : nxAt f S g a = grw g (tx S) (behP f (tx S) "blank" a) (.pc "blank" " " (behP f (tx S) "blank" a)) := by unfold nxAt; simp only [q]; rw [if_neg he, if_pos hbk]
        rw [e1, behP_step q hbk]
        have ecast : ((a : Int) + 1) = ((a + 1 : Nat) : Int) := by omega
        have hb2 := lbeh_eq (S := S) (kk := Str.ofString "blank") (i := a + 1) k (by decide) (by omega) hl
        have hbl3 := behP_le (f := f) (k := Str.ofString "blank") (show a + 1 ≤ (tx S).length by omega)
        generalize behP f (tx S) (Str.ofString "blank") (a + 1) = E at *
        rw [← ecast] at hb2
        have he' : ¬ (Str.ofString "blank" = Str.ofString "escape") := by decide
        have he'' : ¬ (Str.ofString "escape" = Str.ofString "blank") := by decide
        simp [n1, n2, len_s, -o_ixs, hix, in_l2, in_go, hbk, hb2, he', he'', n3]
        by_cases hg : g = true ∧ (tx S).length ≤ E
        · have hE : (E : Int) = ((tx S).length : Int) := by omega
          unfold grw
          rw [if_pos hg]
          simp [hg.1, hE, lnD]
        · unfold grw
          rw [if_neg hg]
          cases g with
          | false => simp [lnD]
          | true =>
            have hE : ¬ ((E : Int) = ((tx S).length : Int)) := fun z => hg ⟨rfl, by omega⟩
            simp [hE, lnD]
      · have n3 := sb_f hbk
        have e1 : nxAt f S g a = .pc (f c) (chr1 c) (a + 1) := by unfold nxAt; simp only [q]; rw [if_neg he, if_neg hbk]
        rw [e1]
        have he' : ¬ (Str.ofString "escape" = f c) := Ne.symm he
        have hb' : ¬ (Str.ofString "blank" = f c) := Ne.symm hbk
        simp [lnD, n1, n2, n3, len_s, -o_ixs, hix, in_l2, in_go, he', hb', he, hbk]
        exact hnn c
end
end Mv

namespace Mv
open PySem L2
/-! ### the mouth -/
def moO (S : Str) (a : Nat) (g : Bool) : O := .ins "Mouth" [("all_signs", .str S), ("at", .int (a : Nat)), ("may_grow", .bl g)]
section
variable {d : D} {h : VH} {f : Kd} {S : Str} {q a : Nat} {g : Bool}
theorem mo_signs (e : h[q]? = some (moO S a g)) : fldF ["Mouth"] "all_signs" (.loc q) h = some (.str S, h) := by
  unfold fldF; simp only [e, moO]; rfl
theorem mo_at (e : h[q]? = some (moO S a g)) : fldF ["Mouth"] "at" (.loc q) h = some (.int (a : Nat), h) := by
  unfold fldF; simp only [e, moO]; rfl
theorem mo_grow (e : h[q]? = some (moO S a g)) : fldF ["Mouth"] "may_grow" (.loc q) h = some (.bl g, h) := by
  unfold fldF; simp only [e, moO]; rfl
theorem mo_sat {v : Nat} (e : h[q]? = some (moO S a g)) : setF ["Mouth"] "at" (.loc q) (.int (v : Nat)) h = some (h.set q (moO S v g)) := by
  unfold setF; simp only [e, moO]; rfl
theorem mo_sgrow {v : Bool} (e : h[q]? = some (moO S a g)) : setF ["Mouth"] "may_grow" (.loc q) (.bl v) h = some (h.set q (moO S a v)) := by
  unfold setF; simp only [e, moO]; rfl
theorem mo_ssigns {v : Str} (e : h[q]? = some (moO S a g)) : setF ["Mouth"] "all_signs" (.loc q) (.str v) h = some (h.set q (moO v a g)) := by
  unfold setF; simp only [e, moO]; rfl
theorem mo_ins {m : Str} (e : h[q]? = some (moO S a g)) (hm : insB "Mouth" m (some (moO S a g)) = true := by rfl) : insB "Mouth" m h[q]? = true := by rw [e]; exact hm
@[simp] theorem mo_b1 : insB "Mouth" "has" (some (moO S a g)) = true := rfl
@[simp] theorem mo_b2 : insB "Mouth" "kind_at" (some (moO S a g)) = true := rfl
@[simp] theorem mo_b3 : insB "Mouth" "behind_all" (some (moO S a g)) = true := rfl
@[simp] theorem mo_b4 : insB "Mouth" "behind_remark" (some (moO S a g)) = true := rfl
@[simp] theorem mo_b5 : insB "Mouth" "passed" (some (moO S a g)) = true := rfl
@[simp] theorem mo_b6 : insB "Mouth" "named" (some (moO S a g)) = true := rfl
@[simp] theorem mo_b7 : insB "Mouth" "piece_at" (some (moO S a g)) = true := rfl
@[simp] theorem mo_b8 : insB "Mouth" "following" (some (moO S a g)) = true := rfl
@[simp] theorem mo_b9 : insB "Mouth" "ended" (some (moO S a g)) = true := rfl
@[simp] theorem mo_b10 : insB "Mouth" "place" (some (moO S a g)) = true := rfl
@[simp] theorem mo_b11 : insB "Mouth" "text" (some (moO S a g)) = true := rfl
@[simp] theorem mo_b12 : insB "Mouth" "is_open" (some (moO S a g)) = true := rfl
@[simp] theorem mo_b13 : insB "Mouth" "shut" (some (moO S a g)) = true := rfl
@[simp] theorem mo_b14 : insB "Mouth" "feed" (some (moO S a g)) = true := rfl
@[simp] theorem mo_b15 : insB "Mouth" "twin" (some (moO S a g)) = true := rfl
theorem has_eq (e : h[q]? = some (moO S a g)) (i : Nat) : m_Mouth_has [.loc q, .int (i : Nat)] h = .ok (.bl (decide (i < (tx S).length))) h := by
  refine Aft.eq ?_
  rw [afE, me_Mouth_has, f_fnM]
  simp [mb_Mouth_has, mo_signs e, len_s]
theorem kat_eq (e : h[q]? = some (moO S a g)) (k : KdT d h f) (i : Nat) : m_Mouth_kind_at [.loc q, d, .int (i : Nat)] h = .ok (.str (kAt f (tx S) i)) h := by
  refine Aft.eq ?_
  rw [afE, me_Mouth_kind_at, f_fnM]
  by_cases hi : i < (tx S).length
  · have e1 : (tx S)[i]? = some (tx S)[i] := List.getElem?_eq_getElem hi
    rw [kAt_some e1]
    simp [mb_Mouth_kind_at, e, has_eq e, hi, mo_signs e, -o_ixs, ix_s e1, kh_eq k]
  · rw [kAt_none (by omega)]
    simp [mb_Mouth_kind_at, e, has_eq e, hi]
def BaI (q : Nat) (d : D) (h : VH) (f : Kd) (S : Str) (kk : Str) (i : Nat) (m : Nat) (r : Env) (k : VH) : Prop := k = h ∧ ∃ j, r = [some (.loc q), some d, some (.str kk), some (.int (j : Nat))] ∧ j ≤ (tx S).length ∧ behP f (tx S) kk j = behP f (tx S) kk i ∧ m = (tx S).length - j
theorem ball_eq (e : h[q]? = some (moO S a g)) (k : KdT d h f) {kk : Str} (hk : kk ≠ Str.ofString "none") {i : Nat} (hi : i ≤ (tx S).length) (hl : (tx S).length < 5000) : m_Mouth_behind_all [.loc q, d, .str kk, .int (i : Nat)] h = .ok (.int (behP f (tx S) kk i : Nat)) h := by
  refine Aft.eq ?_
  rw [afE, me_Mouth_behind_all, f_fnM]
  simp [mb_Mouth_behind_all]
  refine whl_i (BaI q d h f S kk i) (m := (tx S).length - i) (by show _ < 100000; omega) ⟨rfl, i, rfl, hi, rfl, rfl⟩ ?_
  rintro m r k2 ⟨rfl, j, rfl, h1, h2, rfl⟩
  by_cases hq : kAt f (tx S) j = kk
  · have hj := kAt_lt hq hk
    have e1 : (tx S)[j]? = some (tx S)[j] := List.getElem?_eq_getElem hj
    have hb : (kAt f (tx S) j == kk) = true := sb_t hq
    simp [e, kat_eq e k, hb]
    rw [kAt_some e1] at hq
    exact ⟨(tx S).length - (j + 1), by omega, rfl, j + 1, rfl, by omega, by rw [← h2, behP_step e1 hq], rfl⟩
  · have hb : (kAt f (tx S) j == kk) = false := sb_f hq
    simp [e, kat_eq e k, hb]
    rw [← h2, behP_stop]
    intro c hc
    rw [kAt_some hc] at hq
    exact hq
theorem remP_skip {L : List Nat} {i : Nat} : ∀ (n : Nat), (∀ v, i ≤ v → v < i + n → ∃ c, L[v]? = some c ∧ c ≠ 10) → remP L i = remP L (i + n)
  | 0, _ => rfl
  | n + 1, h => by
    obtain ⟨c, e, hc⟩ := h (i + n) (by omega) (by omega)
    rw [remP_skip n fun v h1 h2 => h v h1 (by omega), ← remP_step e hc]
    rfl
theorem getD_tx {v : Nat} (hv : v < (tx S).length) : (tx S)[v]? = some (S.cps.getD v 0) := by
  have : v < S.length := by rw [len_s]; exact hv
  exact PySem.StrLaws.getElem?_of_getD this rfl
theorem find_nl {i : Nat} (hi : i ≤ (tx S).length) : (Txt.find3 S (Str.ofString "\n") (i : Int) < 0 ∧ remP (tx S) i = (tx S).length) ∨ ∃ k : Nat, Txt.find3 S (Str.ofString "\n") (i : Int) = (k : Int) ∧ remP (tx S) i = k + 1 ∧ k < (tx S).length := by
  have e0 : Str.ofString "\n" = (⟨#[10]⟩ : Str) := by decide +kernel
  rw [e0]
  have hfi : fromIndex S.length (i : Int) = i := by
    unfold fromIndex
    rw [if_neg (by omega)]
    omega
  have hls : S.length = (tx S).length := len_s
  rcases PySem.StrLaws.find3_spec S 10 (i : Int) with ⟨h1, h2⟩ | ⟨k, h1, h2, h3, h4, h5⟩
  · rw [hfi] at h2
    refine .inl ⟨by rw [h1]; omega, ?_⟩
    rw [remP_skip ((tx S).length - i) fun v g1 g2 => ⟨_, getD_tx (by omega), h2 v g1 (by omega)⟩, show i + ((tx S).length - i) = (tx S).length from by omega, remP_stop (Nat.le_refl _) fun c hc => by rw [List.getElem?_eq_none (Nat.le_refl _)] at hc; cases hc]
    omega
  · rw [hfi] at h2 h5
    have hk : k < (tx S).length := by omega
    refine .inr ⟨k, h1, ?_, hk⟩
    rw [remP_skip (k - i) fun v g1 g2 => ⟨_, getD_tx (by omega), h5 v g1 (by omega)⟩, show i + (k - i) = k from by omega, remP_stop (by omega) fun c hc => by rw [getD_tx hk, h4] at hc; cases hc; rfl]
    omega
theorem rem_eq (e : h[q]? = some (moO S a g)) {i : Nat} (hi : i ≤ (tx S).length) : m_Mouth_behind_remark [.loc q, .int (i : Nat)] h = .ok (.int (remP (tx S) i : Nat)) h := by
  refine Aft.eq ?_
  rw [afE, me_Mouth_behind_remark, f_fnM]
  simp [mb_Mouth_behind_remark, mo_signs e, k_LINE]
  rcases find_nl hi with ⟨h1, h2⟩ | ⟨k, h1, h2, h3⟩
  · simp [h1, mo_signs e, len_s, h2]
  · have : ¬ ((k : Int) < 0) := by omega
    simp [h1, this, h2]
def PaI (q : Nat) (d : D) (h : VH) (f : Kd) (S : Str) (i : Nat) (m : Nat) (r : Env) (k : VH) : Prop := k = h ∧ ∃ j, r = [some (.loc q), some d, some (.int (j : Nat))] ∧ j ≤ (tx S).length ∧ passP f (tx S) j = passP f (tx S) i ∧ m = (tx S).length - j
theorem pass_eq (e : h[q]? = some (moO S a g)) (k : KdT d h f) (ha : a ≤ (tx S).length) (hl : (tx S).length < 5000) : m_Mouth_passed [.loc q, d] h = .ok (.int (passP f (tx S) a : Nat)) h := by
  refine Aft.eq ?_
  rw [afE, me_Mouth_passed, f_fnM]
  simp [mb_Mouth_passed, mo_at e]
  refine whl_i (PaI q d h f S a) (m := (tx S).length - a) (by show _ < 100000; omega) ⟨rfl, a, rfl, ha, rfl, rfl⟩ ?_
  rintro m r k2 ⟨rfl, j, rfl, h1, h2, rfl⟩
  have hp := passP_eq (f := f) h1
  by_cases hg : kAt f (tx S) j = Str.ofString "gone"
  · have hj := kAt_lt hg (by decide)
    rw [if_pos hg] at hp
    simp [e, kat_eq e k, in_t2, in_go, hg]
    exact ⟨(tx S).length - (j + 1), by omega, rfl, j + 1, rfl, by omega, by rw [← h2, hp], rfl⟩
  · rw [if_neg hg] at hp
    by_cases hr : kAt f (tx S) j = Str.ofString "remark"
    · have hj := kAt_lt hr (by decide)
      have hrm := remP_le hj
      rw [if_pos hr] at hp
      simp [e, kat_eq e k, in_t2, in_go, hr, rem_eq e h1]
      exact ⟨(tx S).length - remP (tx S) j, by omega, rfl, _, rfl, hrm.2, by rw [← h2, hp], rfl⟩
    · rw [if_neg hr] at hp
      have hg' : ¬ (Str.ofString "gone" = kAt f (tx S) j) := Ne.symm hg
      have hr' : ¬ (Str.ofString "remark" = kAt f (tx S) j) := Ne.symm hr
      simp [e, kat_eq e k, in_t2, in_go, hg, hr, hg', hr']
      rw [← h2, hp]
/-- what piece_at tells of a place that the text has -/
inductive Pa where
  | no (b : Nat)
  | pc (w s : Str) (b : Nat) (gr : Bool)
def paD : Pa → D
  | .no b => .tup [.non, .int (b : Nat), .bl true]
  | .pc w s b gr => .tup [.tup [.str w, .str s], .int (b : Nat), .bl gr]
def nmAt (f : Kd) (S : Str) (i : Nat) (c : Nat) : Pa :=
  if f c = Str.ofString "letter" then .pc "name" (cutS S (some ((i : Nat) : Int)) (some ((min (i + 30) (behP f (tx S) "letter" i) : Nat) : Int))) (behP f (tx S) "blank" (min (i + 30) (behP f (tx S) "letter" i))) true
  else .pc "name" (chr1 c) (i + 1) false
theorem named_eq (e : h[q]? = some (moO S a g)) (k : KdT d h f) {i c : Nat} (hc : (tx S)[i]? = some c) (hl : (tx S).length < 5000) : m_Mouth_named [.loc q, d, .int (i : Nat)] h = .ok (paD (nmAt f S i c)) h := by
  have hi := (List.getElem?_eq_some_iff.mp hc).1
  refine Aft.eq ?_
  rw [afE, me_Mouth_named, f_fnM]
  have hk := kAt_some (f := f) hc
  by_cases hx : f c = Str.ofString "letter"
  · have hb := ball_eq e k (kk := Str.ofString "letter") (i := i) (by decide) (by omega) hl
    have hbl := behP_le (f := f) (k := Str.ofString "letter") (show i ≤ (tx S).length by omega)
    unfold nmAt
    rw [if_pos hx]
    generalize behP f (tx S) (Str.ofString "letter") i = b at *
    have e3 : (if (b : Int) < (i : Int) + 30 then (b : Int) else (i : Int) + 30) = ((min (i + 30) b : Nat) : Int) := by split <;> omega
    have hb2 := ball_eq e k (kk := Str.ofString "blank") (i := min (i + 30) b) (by decide) (by omega) hl
    simp [mb_Mouth_named, e, kat_eq e k, hk, hx, k_LONGEST, hb, e3, mo_signs e, hb2, paD]
  · have n1 := sb_f hx
    unfold nmAt
    rw [if_neg hx]
    simp [mb_Mouth_named, e, kat_eq e k, hk, n1, mo_signs e, -o_ixs, ix_s hc, paD]
def paAt (f : Kd) (S : Str) (i : Nat) (c : Nat) : Pa :=
  if f c = Str.ofString "escape" then match (tx S)[i + 1]? with
    | some c2 => nmAt f S (i + 1) c2
    | none => .no (i + 1)
  else if f c = Str.ofString "blank" then .pc "blank" " " (behP f (tx S) "blank" i) true
  else .pc (f c) (chr1 c) (i + 1) false
theorem piece_eq (e : h[q]? = some (moO S a g)) (k : KdT d h f) {i c : Nat} (hc : (tx S)[i]? = some c) (hl : (tx S).length < 5000) : m_Mouth_piece_at [.loc q, d, .int (i : Nat)] h = .ok (paD (paAt f S i c)) h := by
  have hi := (List.getElem?_eq_some_iff.mp hc).1
  refine Aft.eq ?_
  rw [afE, me_Mouth_piece_at, f_fnM]
  have hk := kAt_some (f := f) hc
  have ecast : ((i : Int) + 1) = ((i + 1 : Nat) : Int) := by omega
  have hh := has_eq e (i + 1)
  by_cases hx : f c = Str.ofString "escape"
  · unfold paAt
    rw [if_pos hx]
    cases q2 : (tx S)[i + 1]? with
    | some c2 =>
      have hi2 := (List.getElem?_eq_some_iff.mp q2).1
      have hn := named_eq e k q2 hl
      rw [← ecast] at hn hh
      simp [mb_Mouth_piece_at, e, kat_eq e k, hk, hx, hh, hi2, hn]
    | none =>
      have hi2 := List.getElem?_eq_none_iff.mp q2
      have hi3 : ¬ (i + 1 < (tx S).length) := by omega
      rw [← ecast] at hh
      simp [mb_Mouth_piece_at, e, kat_eq e k, hk, hx, hh, hi3, paD]
  · have n1 := sb_f hx
    unfold paAt
    rw [if_neg hx]
    by_cases hb : f c = Str.ofString "blank"
    · have hbb := ball_eq e k (kk := Str.ofString "blank") (i := i) (by decide) (by omega) hl
      rw [if_pos hb]
      simp [mb_Mouth_piece_at, e, kat_eq e k, hk, hb, hbb, paD, k_BLANK]
    · have n2 := sb_f hb
      rw [if_neg hb]
      simp [mb_Mouth_piece_at, e, kat_eq e k, hk, n1, n2, mo_signs e, -o_ixs, ix_s hc, paD]
/-! ### following -/
def folR (h : VH) (q : Nat) (S : Str) (g : Bool) : Nx → R D
  | .more => .ok k_MORE h
  | .none a => .ok .non (h.set q (moO S a g))
  | .ends a => .exc ⟨"Ends", []⟩ (h.set q (moO S a g))
  | .pc w s a => .ok (.tup [.str w, .str s]) (h.set q (moO S a g))
theorem Aft.eqR {α : Type} {r s : R α} (a : Aft r (fun d k => s = .ok d k) (fun x k => s = .exc x k)) : r = s := by
  cases r with
  | ok d k => exact a.symm
  | exc x k => exact a.symm
  | bad => exact a.elim
theorem nxAt_pa {i c : Nat} (hc : (tx S)[i]? = some c) : nxAt f S g i = match paAt f S i c with
    | .no _ => if g = true then .more else .ends i
    | .pc w s b gr => if g = true ∧ gr = true ∧ (tx S).length ≤ b then .more else .pc w s b := by
  unfold nxAt paAt
  rw [hc]
  dsimp only
  by_cases hx : f c = Str.ofString "escape"
  · rw [if_pos hx, if_pos hx]
    cases q2 : (tx S)[i + 1]? with
    | none => rfl
    | some c2 =>
      dsimp only
      unfold nmAt
      by_cases hy : f c2 = Str.ofString "letter"
      · rw [if_pos hy, if_pos hy]
        rw [show i + 1 + 30 = i + 31 from by omega]
        unfold grw
        simp
      · rw [if_neg hy, if_neg hy]
        simp
  · rw [if_neg hx, if_neg hx]
    by_cases hb : f c = Str.ofString "blank"
    · rw [if_pos hb, if_pos hb]
      unfold grw
      simp
    · rw [if_neg hb, if_neg hb]
      simp
theorem paAt_no {i c b : Nat} (h : paAt f S i c = .no b) : b = i + 1 ∧ (tx S).length ≤ b := by
  unfold paAt at h
  split at h
  · split at h
    · rename_i c2 q
      unfold nmAt at h
      split at h <;> cases h
    · rename_i q
      cases h
      exact ⟨rfl, List.getElem?_eq_none_iff.mp q⟩
  · split at h <;> cases h
theorem fol_eq (e : h[q]? = some (moO S a g)) (k : KdT d h f) (ha : a ≤ (tx S).length) (hl : (tx S).length < 5000) : m_Mouth_following [.loc q, d] h = folR h q S g (nx f S g a) := by
  refine Aft.eqR ?_
  rw [afE, me_Mouth_following, f_fnM]
  obtain ⟨p1, p2, p3, p4⟩ := passP_le (f := f) (L := tx S) _ a (Nat.le_refl _) ha
  have hps := pass_eq e k ha hl
  unfold nx
  generalize passP f (tx S) a = i at *
  cases q1 : (tx S)[i]? with
  | none =>
    have hi := List.getElem?_eq_none_iff.mp q1
    have hi3 : ¬ (i < (tx S).length) := by omega
    have e1 : nxAt f S g i = if g = true then .more else .none i := by unfold nxAt; rw [q1]
    have he : m_Mouth_ended [.loc q, .int (i : Nat)] h = if g = true then .ok k_MORE h else .ok .non (h.set q (moO S i g)) := by
      refine Aft.eqR ?_
      rw [afE, me_Mouth_ended, f_fnM]
      cases g
      · simp [mb_Mouth_ended, mo_grow e]
        rw [mo_sat e]
        simp
      · simp [mb_Mouth_ended, mo_grow e]
    rw [e1]
    cases g
    · simp [mb_Mouth_following, e, hps, has_eq e, hi3, he, folR]
    · simp [mb_Mouth_following, e, hps, has_eq e, hi3, he, folR]
  | some c =>
    have hi := (List.getElem?_eq_some_iff.mp q1).1
    have hp := piece_eq e k q1 hl
    rw [nxAt_pa q1]
    cases qp : paAt f S i c with
    | no b =>
      obtain ⟨rfl, hb⟩ := paAt_no qp
      have hb' : ¬ (i + 1 < (tx S).length) := by omega
      have ecast : ((i : Int) + 1) = ((i + 1 : Nat) : Int) := by omega
      have hh := has_eq e (i + 1)
      rw [← ecast] at hh
      rw [qp] at hp
      cases g
      · simp [mb_Mouth_following, e, hps, has_eq e, hi, hp, paD, mo_grow e, folR]
        rw [mo_sat e]
        simp
      · simp [mb_Mouth_following, e, hps, has_eq e, hi, hp, paD, mo_grow e, folR, hh, hb']
    | pc w s b gr =>
      rw [qp] at hp
      dsimp only
      by_cases hg : g = true ∧ gr = true ∧ (tx S).length ≤ b
      · obtain ⟨rfl, rfl, hb⟩ := hg
        have hb' : ¬ (b < (tx S).length) := by omega
        simp [mb_Mouth_following, e, hps, has_eq e, hi, hp, paD, mo_grow e, folR, hb', hb]
      · rw [if_neg hg]
        cases g
        · simp [mb_Mouth_following, e, hps, has_eq e, hi, hp, paD, mo_grow e, folR]
          rw [mo_sat e]
          simp
        · cases gr
          · simp [mb_Mouth_following, e, hps, has_eq e, hi, hp, paD, mo_grow e, folR]
            rw [mo_sat e]
            simp
          · have hb' : b < (tx S).length := by
              apply Classical.byContradiction
              intro z
              exact hg ⟨rfl, rfl, by omega⟩
            simp [mb_Mouth_following, e, hps, has_eq e, hi, hp, paD, mo_grow e, folR, hb']
            rw [mo_sat e]
            simp
end
end Mv

namespace Mv
open PySem L2
theorem Frm.over {S : List Nat} {h h1 k : VH} (g : Frm [] h h1) (f : Frm S h1 k) (hs : ∀ n ∈ S, h.length ≤ n) : Frm [] h k := ⟨Nat.le_trans g.1 f.1, fun n hn _ => by
  rw [f.2 n (Nat.lt_of_lt_of_le hn g.1) (fun z => by have := hs n z; omega)]
  exact g.2 n hn (by simp)⟩
/-! ### tables as they are drawn -/
def wdL : List Str := ["escape", "open", "shut", "mark", "letter", "other", "blank", "active", "remark", "gone"]
def sgL : List Str := (tx "\\{}#~! abX1-\t\ncc").map chr1
def inL (l : List Str) (s : Str) : Bool := l.any fun x => decide (x = s)
theorem inL_mem {l : List Str} {s : Str} (h : inL l s = true) : s ∈ l := by
  obtain ⟨x, h1, h2⟩ := List.any_eq_true.mp h
  exact (of_decide_eq_true h2) ▸ h1
theorem inL_of {l : List Str} {s : Str} (h : s ∈ l) : inL l s = true := List.any_eq_true.mpr ⟨s, h, decide_eq_true rfl⟩
def chk : Key × D → Bool
  | (.inr s, .str w) => inL sgL s && inL wdL w
  | _ => false
def TbOk (kvs : List (Key × D)) : Prop := kvs.all chk = true ∧ kvs.length ≤ 30
theorem TbOk.val {kvs : List (Key × D)} (h : TbOk kvs) {k : Key} {v : D} (e : valD kvs k = some v) : ∃ w, v = .str w ∧ w ∈ wdL := by
  unfold valD at e
  cases q : kvs.find? fun kv => decide (kv.1 = k) with
  | none => rw [q] at e; cases e
  | some kv =>
    rw [q] at e
    cases e
    have hm := List.mem_of_find?_eq_some q
    have hc := List.all_eq_true.mp h.1 kv hm
    obtain ⟨kk, vv⟩ := kv
    cases kk with
    | inl i => cases hc
    | inr s =>
      cases vv with
      | str w =>
        have hc' : (inL sgL s && inL wdL w) = true := hc
        rw [Bool.and_eq_true] at hc'
        exact ⟨w, rfl, inL_mem hc'.2⟩
      | _ => cases hc
def kvf (kvs : List (Key × D)) : Kd := fun c => match valD kvs (.inr (chr1 c)) with
  | some (.str w) => w
  | _ => Str.ofString "other"
theorem wd_nn {w : Str} (h : w ∈ wdL) : w ≠ Str.ofString "none" := by
  simp only [wdL, List.mem_cons, List.not_mem_nil, or_false] at h
  rcases h with rfl | rfl | rfl | rfl | rfl | rfl | rfl | rfl | rfl | rfl <;> decide
theorem TbOk.kvf {kvs : List (Key × D)} (h : TbOk kvs) (c : Nat) : (valD kvs (.inr (chr1 c))).getD (.str "other") = .str (kvf kvs c) ∧ kvf kvs c ∈ wdL := by
  unfold Mv.kvf
  cases q : valD kvs (.inr (chr1 c)) with
  | none => exact ⟨rfl, by simp [wdL]⟩
  | some v =>
    obtain ⟨w, rfl, hw⟩ := h.val q
    exact ⟨rfl, hw⟩
theorem TbOk.kd {kvs : List (Key × D)} (h : TbOk kvs) {n : Nat} {k : VH} (e : k[n]? = some (.dK kvs)) : KdT (.loc n) k (Mv.kvf kvs) := ⟨n, kvs, rfl, e, fun c => (h.kvf c).1, fun c => wd_nn (h.kvf c).2⟩
theorem TbOk.put {kvs : List (Key × D)} (h : TbOk kvs) {s w : Str} (hl : kvs.length < 30) (hs : s ∈ sgL) (hw : w ∈ wdL) : TbOk (putD kvs (.inr s) (.str w)) := by
  have hc : chk (.inr s, .str w) = true := by
    show (inL sgL s && inL wdL w) = true
    rw [inL_of hs, inL_of hw]
    rfl
  refine ⟨?_, Nat.le_trans putD_len (by omega)⟩
  unfold putD
  split
  · rw [List.all_map, List.all_eq_true]
    intro kv hkv
    show chk (if kv.1 = _ then _ else kv) = true
    split
    · rename_i hk
      rw [hk]
      exact hc
    · exact List.all_eq_true.mp h.1 kv hkv
  · rw [List.all_append, h.1]
    simp [hc]
def ps1 : List (D × D) := [(.str "\\", .str "escape"), (.str "{", .str "open"), (.str "}", .str "shut"), (.str "#", .str "mark"), (.str "~", .str "active"), (.str "!", .str "remark"), (.str " ", .str "blank")]
def kv1 : List (Key × D) := [(.inr "\\", .str "escape"), (.inr "{", .str "open"), (.inr "}", .str "shut"), (.inr "#", .str "mark"), (.inr "~", .str "active"), (.inr "!", .str "remark"), (.inr " ", .str "blank")]
def ps2 : List (D × D) := [(.str "\n", .str "blank"), (.str "\t", .str "blank"), (.str "a", .str "letter"), (.str "b", .str "letter"), (.str "c", .str "letter"), (.str "X", .str "letter")]
def kv2 : List (Key × D) := [(.inr "\n", .str "blank"), (.inr "\t", .str "blank"), (.inr "a", .str "letter"), (.inr "b", .str "letter"), (.inr "c", .str "letter"), (.inr "X", .str "letter")]
def base : List (Key × D) := mergeD (mergeD [] kv1) (mergeD [] kv2)
theorem base_ok : base.all chk = true ∧ base.length = 13 ∧ (mergeD [] kv1).length + (mergeD [] kv2).length ≤ 16777216 := by decide +kernel
def KnI (h : VH) (p : Nat) (xs : List D) (r : Env) (k : VH) : Prop := ∃ (o3 : Option D) (kvs : List (Key × D)), r = [some (.loc p), some (.loc h.length), some (.lst (wdL.map D.str)), o3] ∧ k[h.length]? = some (.dK kvs) ∧ kvs.all chk = true ∧ kvs.length + xs.length ≤ 18 ∧ Pool k p ∧ Frm [p] h k
theorem sg_ix {k : Int} (h0 : 0 ≤ k) (h1 : k < 13) : ∃ c, L2.atI (Str.ofString "\\{}#~! abX1-\t").cps.toList k = some c ∧ chr1 c ∈ sgL := by
  have hl : (Str.ofString "\\{}#~! abX1-\t").cps.toList.length = 13 := by decide +kernel
  rw [atI_pos h0]
  refine ⟨_, List.getElem?_eq_getElem (by omega), ?_⟩
  have : (List.range 13).all (fun i => ((Str.ofString "\\{}#~! abX1-\t").cps.toList[i]?).all fun c => inL sgL (chr1 c)) = true := by decide +kernel
  have h2 := List.all_eq_true.mp this k.toNat (List.mem_range.mpr (by omega))
  rw [List.getElem?_eq_getElem (by omega)] at h2
  exact inL_mem h2
theorem wd_ix {k : Int} (h0 : 0 ≤ k) (h1 : k < 10) : ∃ w, L2.atI (wdL.map D.str) k = some (.str w) ∧ w ∈ wdL := by
  rw [atI_pos h0]
  have hl : k.toNat < wdL.length := by show k.toNat < 10; omega
  exact ⟨wdL[k.toNat], by rw [List.getElem?_map, List.getElem?_eq_getElem hl]; rfl, List.getElem_mem hl⟩
theorem kinds_spec {h : VH} {p : Nat} {Z : Xc → VH → Prop} (hp : Pool h p) : Aft (m__law_kinds [.loc p] h) (fun d k => ∃ n kvs, d = .loc n ∧ h.length ≤ n ∧ k[n]? = some (.dK kvs) ∧ TbOk kvs ∧ Pool k p ∧ Frm [p] h k) Z := by
  rw [afE, me__law_kinds, f_fnM]
  have d1 : ∀ rho, eDisp (pCons (eC (.str "\\")) (eC (.str "escape")) (pCons (eC (.str "{")) (eC (.str "open")) (pCons (eC (.str "}")) (eC (.str "shut")) (pCons (eC (.str "#")) (eC (.str "mark")) (pCons (eC (.str "~")) (eC (.str "active")) (pCons (eC (.str "!")) (eC (.str "remark")) (pCons (eC (.str " ")) (eC (.str "blank")) pNil))))))) rho h = .ok (.loc h.length) (h ++ [.dK (mergeD [] kv1)]) := fun rho => disp_c (ps := ps1) rfl rfl (by decide)
  have d2 : ∀ (rho : Env) (h : VH), eDisp (pCons (eC (.str "\n")) (eC (.str "blank")) (pCons (eC (.str "\t")) (eC (.str "blank")) (pCons (eC (.str "a")) (eC (.str "letter")) (pCons (eC (.str "b")) (eC (.str "letter")) (pCons (eC (.str "c")) (eC (.str "letter")) (pCons (eC (.str "X")) (eC (.str "letter")) pNil)))))) rho h = .ok (.loc h.length) (h ++ [.dK (mergeD [] kv2)]) := fun rho h => disp_c (ps := ps2) rfl rfl (by decide)
  have hpl := hp.lt
  have eset : ((h ++ [O.dK (mergeD [] kv1)]) ++ [O.dK (mergeD [] kv2)]).set h.length (.dK base) = h ++ [.dK base] ++ [.dK (mergeD [] kv2)] := by simp
  have hiD : isDk (.loc h.length) (h ++ [O.dK (mergeD [] kv1)]) = true := isDk_of (kvs := mergeD [] kv1) (by simp)
  simp only [mb__law_kinds]
  simp [d1, d2, hiD, base_ok.2.2]
  have hp0 : Pool (h ++ [O.dK base, O.dK (mergeD [] kv2)]) p := hp.frm (S := []) (Frm.refl _ _).add (by simp)
  have f0 : Frm [p] h (h ++ [O.dK base, O.dK (mergeD [] kv2)]) := (Frm.refl _ _).add
  have e0 : (h ++ [O.dK base, O.dK (mergeD [] kv2)])[h.length]? = some (.dK base) := by simp
  have eb : mergeD (mergeD [] kv1) (mergeD [] kv2) = base := rfl
  rw [eb]
  refine AF.use0 (take_spec hp0 (by decide) (by decide)) fun r h1 ⟨n, e, n0, n1, hp1, f1⟩ => ?_
  subst e
  simp
  refine ⟨by omega, ?_⟩
  refine for_i (KnI h p) ⟨_, base, rfl, f1.get e0 (by simp; omega), base_ok.1, by rw [base_ok.2.1]; simp; omega, hp1, f0.trans f1⟩ (fun _ _ _ _ => rfl) ?_ ?_
  · rintro x xs r k ⟨o3, kvs, rfl, ek, hc, hl, hpk, fk⟩
    refine ⟨_, rfl, ?_⟩
    simp at hl
    simp
    refine AF.use0 (take_spec hpk (by decide) (by decide)) fun r k1 ⟨a, ea, a0, a1, hp1, f1⟩ => ?_
    subst ea
    obtain ⟨w, ew, hw⟩ := wd_ix a0 a1
    simp [ew]
    refine AF.use0 (take_spec hp1 (by decide) (by decide)) fun r k2 ⟨b, eb, b0, b1, hp2, f2⟩ => ?_
    subst eb
    obtain ⟨c, ec, hcs⟩ := sg_ix b0 b1
    have ek2 : k2[h.length]? = some (.dK kvs) := f2.get (f1.get ek (by simp; omega)) (by simp; omega)
    simp [ec, ek2]
    have tb : TbOk (putD kvs (.inr (chr1 c)) (.str w)) := TbOk.put ⟨hc, by omega⟩ (by omega) hcs hw
    have hpl2 := putD_len (ds := kvs) (k := .inr (chr1 c)) (d := .str w)
    refine ⟨by omega, _, _, rfl, List.getElem?_set_self (List.getElem?_eq_some_iff.mp ek2).1, tb.1, by omega, hp2.frm (S := [h.length]) ((Frm.refl _ _).set (.inl (by simp))) (by simp; omega), ((fk.trans f1).trans f2).set (.inr (Nat.le_refl _))⟩
  · rintro r k ⟨o3, kvs, rfl, ek, hc, hl, hpk, fk⟩
    simp
    exact ⟨kvs, ek, ⟨hc, by simp at hl; omega⟩, hpk, fk⟩
/-! ### texts as they are drawn -/
def sigs : Str := "\\\\\\aabcX   {}#~!\n\t1-.?"
def TxOk (n : Nat) (S : Str) : Prop := (tx S).length ≤ n ∧ ∀ c ∈ tx S, c < 1000
theorem tx_app (a b : Str) : tx (a ++ b) = tx a ++ tx b := by
  show (a.cps ++ b.cps).toList = _
  rw [Array.toList_append]
  rfl
theorem tx_join : ∀ (cs : List Nat), tx (Str.join (Str.ofString "") (cs.map chr1)) = cs
  | [] => by decide
  | [c] => rfl
  | c :: d :: r => by
    show tx (chr1 c ++ Str.ofString "" ++ Str.join (Str.ofString "") ((d :: r).map chr1)) = _
    rw [tx_app, tx_app, tx_join (d :: r)]
    rfl
theorem sig_len : sigs.length = 22 := by decide +kernel
theorem sig_ix {k : Int} (h0 : 0 ≤ k) (h1 : k < 22) : ∃ c, L2.atI sigs.cps.toList k = some c ∧ c < 1000 := by
  have hl : sigs.cps.toList.length = 22 := by decide +kernel
  rw [atI_pos h0]
  refine ⟨_, List.getElem?_eq_getElem (by omega), ?_⟩
  have : (List.range 22).all (fun i => (sigs.cps.toList[i]?).all fun c => decide (c < 1000)) = true := by decide +kernel
  have h2 := List.all_eq_true.mp this k.toNat (List.mem_range.mpr (by omega))
  rw [List.getElem?_eq_getElem (by omega)] at h2
  exact of_decide_eq_true h2
theorem sum_chr (cs : List Nat) : ((cs.map chr1).map fun (x : Str) => x.length).sum = cs.length := by
  induction cs with
  | nil => rfl
  | cons c cs ih =>
    rw [List.map_cons, List.map_cons, List.sum_cons, ih]
    show 1 + cs.length = _
    simp
    omega
theorem text_lc {Z : Xc → VH → Prop} {p : Nat} {h : VH} (hp : Pool h p) (all : List D) (o1 : Option D) :
    Aft (lcL (.nm 3) tYs (eOp ixF (eV 2) (eFn 2 m__law_take (aCons (eV 0) (aCons (eCall lenF (aCons (eV 2) aNil)) aNil)))) [] all all [some (.loc p), o1, some (.str sigs), none] h) (fun ys k => (∃ cs : List Nat, ys = (cs.map chr1).map D.str ∧ cs.length = all.length ∧ ∀ c ∈ cs, c < 1000) ∧ Pool k p ∧ Frm [p] h k) Z := by
  refine lc_inv0 (fun xs ys k => (∃ cs : List Nat, ys = (cs.map chr1).map D.str ∧ cs.length + xs.length = all.length ∧ ∀ c ∈ cs, c < 1000) ∧ Pool k p ∧ Frm [p] h k) ⟨⟨[], rfl, by simp, fun c hc => nomatch hc⟩, hp, Frm.refl _ _⟩ (fun _ _ _ _ => rfl) ?_ ?_
  · rintro x xs ys k ⟨⟨cs, rfl, h1, h2⟩, h3, h4⟩
    refine ⟨_, rfl, ?_⟩
    rw [afE]
    simp [sig_len]
    rw [afE]
    refine AF.use0 (take_spec h3 (by decide) (by decide)) fun r k1 ⟨a, ea, a0, a1, hp1, f1⟩ => ?_
    subst ea
    obtain ⟨c, ec, hc⟩ := sig_ix a0 a1
    simp [ec]
    refine ⟨⟨cs ++ [c], by simp, by simp at h1 ⊢; omega, fun y hy => ?_⟩, hp1, h4.trans f1⟩
    rcases List.mem_append.mp hy with hy | hy
    · exact h2 y hy
    · rw [List.mem_singleton.mp hy]; exact hc
  · rintro ys k ⟨⟨cs, e1, e2, e3⟩, h3, h4⟩
    exact ⟨⟨cs, e1, by simpa using e2, e3⟩, h3, h4⟩
theorem text_spec {h : VH} {p n : Nat} {Z : Xc → VH → Prop} (hp : Pool h p) (hn : n ≤ 1000) : Aft (m__law_text [.loc p, .int (n : Nat)] h) (fun d k => ∃ S, d = .str S ∧ TxOk n S ∧ Pool k p ∧ Frm [p] h k) Z := by
  rw [afE, me__law_text, f_fnM]
  have es : Str.ofString "\\\\\\aabcX   {}#~!\n\t1-.?" = sigs := rfl
  simp only [mb__law_text]
  rw [es]
  simp
  refine AF.use0 (take_spec hp (by omega) (by omega)) fun r h1 ⟨a, e, a0, a1, hp1, f1⟩ => ?_
  subst e
  simp
  refine ⟨by omega, by omega, ?_⟩
  refine AF.use0 (text_lc hp1 _ _) fun ys k ⟨⟨cs, e1, e2, e3⟩, hp2, f2⟩ => ?_
  subst e1
  simp at e2
  have e0 : (Str.ofString "").length = 0 := by decide
  have e4 := sum_chr cs
  have e5 : ((List.map chr1 cs).map fun (x : Str) => x.length).sum + (List.map chr1 cs).length * (Str.ofString "").length ≤ 16777216 := by
    rw [e4, e0]
    omega
  have ej : joinF (.str (Str.ofString "")) [.lst (List.map D.str (List.map chr1 cs))] k = some (.str (Str.join (Str.ofString "") (cs.map chr1)), k) := by
    rw [o_join, seqOf_l]
    show jnO _ (strsD _) k = _
    rw [strsD_map, jnO_s, if_pos e5]
  rw [f_ok, ej]
  simp
  exact ⟨⟨by rw [tx_join]; omega, by rw [tx_join]; exact e3⟩, hp2, f1.trans f2⟩
/-! ### what is shown of pieces -/
def dueD : Nx → D
  | .more => .tup [.str "more"]
  | .none _ => .non
  | .ends _ => .str "ends"
  | .pc w s _ => .tup [.str w, .str s]
def plc (b : Nat) : Nx → Nat
  | .more => b
  | .none a => a
  | .ends a => a
  | .pc _ _ a => a
theorem lnD_eq (b : Nat) (x : Nx) : lnD b x = .tup [dueD x, .int (plc b x : Nat)] := by cases x <;> rfl
def dueP : Nx → PyData
  | .more => .tuple [.str "more"]
  | .none _ => .none
  | .ends _ => .str "ends"
  | .pc w s _ => .tuple [.str w, .str s]
theorem due_pr {k : VH} (x : Nx) : toPR k (dueD x) = some (dueP x) := by cases x <;> rfl
theorem due_pd {k : VH} (x : Nx) : toPD k 16 (dueD x) = some (dueP x) := by cases x <;> rfl
theorem wd_sm0 : (Str.ofString "name" :: wdL).all (fun w => (PyData.str w).leavesShort 30 && decide ((PyData.str w).bulk ≤ 10)) = true := by decide +kernel
def Cs (s : Str) : Prop := (∀ c ∈ tx s, c < 1000) ∧ (tx s).length ≤ 5000
theorem Cs.sm {s : Str} (h : Cs s) : (PyData.str s).leavesShort 30 = true ∧ (PyData.str s).bulk ≤ 5000 := by
  refine ⟨?_, ?_⟩
  · simp only [PyData.leavesShort, List.all_eq_true, decide_eq_true_eq]
    intro c hc
    have := h.1 c hc
    omega
  · simp only [PyData.bulk]
    have := h.2
    unfold tx at this
    simpa using this
theorem pc_sm {w s : Str} {a : Nat} (hw : w ∈ Str.ofString "name" :: wdL) (hs : Cs s) : Small 6000 (dueP (.pc w s a)) := by
  have h1 := List.all_eq_true.mp wd_sm0 w hw
  rw [Bool.and_eq_true] at h1
  obtain ⟨h2, h3⟩ := h1
  have h3 := of_decide_eq_true h3
  obtain ⟨h4, h5⟩ := hs.sm
  refine ⟨rfl, ?_, ?_⟩
  · simp [dueP, PyData.leavesShort, PyData.leavesShortAll] at h2 h4 ⊢
    exact ⟨h2, h4⟩
  · simp [dueP, PyData.bulk, PyData.bulkAll] at h3 h5 ⊢
    omega
theorem tx_cut {S : Str} {lo hi : Option Int} : (∀ c ∈ tx (cutS S lo hi), c ∈ tx S) ∧ (tx (cutS S lo hi)).length ≤ (tx S).length := by
  refine ⟨fun c hc => ?_, ?_⟩
  · unfold tx cutS at *
    exact List.mem_of_mem_drop (List.mem_of_mem_take (by simpa using hc))
  · have := cutS_length S lo hi
    rw [len_s, len_s] at this
    exact this
theorem nx_sm {f : Kd} {S : Str} {g : Bool} {i n : Nat} (hf : ∀ c, f c ∈ wdL) (hS : TxOk n S) (hn : n ≤ 1000) : Small 6000 (dueP (nx f S g i)) := by
  have hs : Cs S := ⟨hS.2, by have := hS.1; omega⟩
  have hc1 : ∀ (a c : Nat), (tx S)[a]? = some c → Cs (chr1 c) := fun a c hc => by
    refine ⟨fun x hx => ?_, by show (1 : Nat) ≤ 5000; omega⟩
    have : x = c := List.mem_singleton.mp hx
    rw [this]
    exact hS.2 c (List.mem_of_getElem? hc)
  have h0 : Small 6000 (dueP .more) := by unfold Small; decide +kernel
  have h1 : ∀ a, Small 6000 (dueP (.none a)) := fun a => by
    have : Small 6000 PyData.none := by unfold Small; decide +kernel
    exact this
  have h2 : ∀ a, Small 6000 (dueP (.ends a)) := fun a => by
    have : Small 6000 (.str (Str.ofString "ends")) := by unfold Small; decide +kernel
    exact this
  have gr : ∀ e x, Small 6000 (dueP x) → Small 6000 (dueP (grw g (tx S) e x)) := fun e x hx => by
    unfold grw
    split
    · exact h0
    · exact hx
  unfold nx nxAt
  split
  · split
    · exact h0
    · exact h1 _
  · rename_i c q
    split
    · split
      · split
        · exact h0
        · exact h2 _
      · rename_i c2 q2
        split
        · refine gr _ _ (pc_sm (by simp) ⟨fun x hx => hS.2 x (tx_cut.1 x hx), Nat.le_trans tx_cut.2 hs.2⟩)
        · exact pc_sm (by simp) (hc1 _ _ q2)
    · split
      · exact gr _ _ (pc_sm (by simp [wdL]) ⟨by decide, by decide⟩)
      · exact pc_sm (List.mem_cons_of_mem _ (hf c)) (hc1 _ _ q)
/-- the place stays within the text -/
theorem nx_le {f : Kd} {S : Str} {g : Bool} {i : Nat} (hi : i ≤ (tx S).length) : plc i (nx f S g i) ≤ (tx S).length := by
  obtain ⟨p1, p2, p3, p4⟩ := passP_le (f := f) (L := tx S) _ i (Nat.le_refl _) hi
  unfold nx
  generalize passP f (tx S) i = a at *
  have gr : ∀ e x, plc i x ≤ (tx S).length → plc i (grw g (tx S) e x) ≤ (tx S).length := fun e x hx => by
    unfold grw
    split
    · exact hi
    · exact hx
  unfold nxAt
  split
  · split
    · exact hi
    · exact p2
  · rename_i c q
    have hal := (List.getElem?_eq_some_iff.mp q).1
    split
    · split
      · split
        · exact hi
        · exact p2
      · rename_i c2 q2
        have hal2 := (List.getElem?_eq_some_iff.mp q2).1
        split
        · refine gr _ _ ?_
          have h1 := behP_le (f := f) (k := Str.ofString "letter") (show a + 1 ≤ (tx S).length by omega)
          exact (behP_le (f := f) (k := Str.ofString "blank") (show min (a + 31) (behP f (tx S) (Str.ofString "letter") (a + 1)) ≤ (tx S).length by omega)).2
        · show a + 2 ≤ _
          omega
    · split
      · exact gr _ _ (behP_le (f := f) (k := Str.ofString "blank") (show a ≤ (tx S).length by omega)).2
      · show a + 1 ≤ _
        omega
/-! ### the mouth made; small methods -/
theorem init_eq {h : VH} {q : Nat} {S : Str} {g : Bool} (e : h[q]? = some (.ins "Mouth" [])) : m_Mouth___init__ [.loc q, .str S, .bl g] h = .ok .non (h.set q (moO S 0 g)) := by
  refine Aft.eqR ?_
  rw [afE, me_Mouth___init__, f_fnM]
  have s1 : setF ["Mouth"] "all_signs" (.loc q) (.str S) h = some (h.set q (.ins "Mouth" [("all_signs", .str S)])) := by
    unfold setF; simp only [e]; rfl
  have hq := (List.getElem?_eq_some_iff.mp e).1
  have e2 : (h.set q (.ins "Mouth" [("all_signs", .str S)]))[q]? = some (.ins "Mouth" [("all_signs", .str S)]) := List.getElem?_set_self hq
  have s2 : setF ["Mouth"] "at" (.loc q) (.int 0) (h.set q (.ins "Mouth" [("all_signs", .str S)])) = some (h.set q (.ins "Mouth" [("all_signs", .str S), ("at", .int 0)])) := by
    unfold setF
    simp only [e2]
    rw [List.set_set]
    rfl
  have e3 : (h.set q (.ins "Mouth" [("all_signs", .str S), ("at", .int 0)]))[q]? = some (.ins "Mouth" [("all_signs", .str S), ("at", .int 0)]) := List.getElem?_set_self hq
  have s3 : setF ["Mouth"] "may_grow" (.loc q) (.bl g) (h.set q (.ins "Mouth" [("all_signs", .str S), ("at", .int 0)])) = some (h.set q (moO S 0 g)) := by
    unfold setF
    simp only [e3]
    rw [List.set_set]
    rfl
  simp [mb_Mouth___init__]
  rw [s1, goO_s, s_nx]
  simp
  rw [s2, goO_s, s_nx]
  simp
  rw [s3, goO_s]
  simp
section
variable {h : VH} {S : Str} {q a : Nat} {g : Bool}
theorem place_eq (e : h[q]? = some (moO S a g)) : m_Mouth_place [.loc q] h = .ok (.int (a : Nat)) h := by
  refine Aft.eq ?_
  rw [afE, me_Mouth_place, f_fnM]
  simp [mb_Mouth_place, mo_at e]
theorem text_eq (e : h[q]? = some (moO S a g)) : m_Mouth_text [.loc q] h = .ok (.str S) h := by
  refine Aft.eq ?_
  rw [afE, me_Mouth_text, f_fnM]
  simp [mb_Mouth_text, mo_signs e]
theorem isopen_eq (e : h[q]? = some (moO S a g)) : m_Mouth_is_open [.loc q] h = .ok (.bl g) h := by
  refine Aft.eq ?_
  rw [afE, me_Mouth_is_open, f_fnM]
  simp [mb_Mouth_is_open, mo_grow e]
end
/-- following, of any mouth: the heap behind -/
def folH (h : VH) (q : Nat) (S : Str) (g : Bool) : Nx → VH
  | .more => h
  | .none a => h.set q (moO S a g)
  | .ends a => h.set q (moO S a g)
  | .pc _ _ a => h.set q (moO S a g)
theorem folH_get {h : VH} {q a : Nat} {S : Str} {g : Bool} (e : h[q]? = some (moO S a g)) (x : Nx) : (folH h q S g x)[q]? = some (moO S (plc a x) g) := by
  have hq := (List.getElem?_eq_some_iff.mp e).1
  cases x with
  | more => exact e
  | none b => exact List.getElem?_set_self hq
  | ends b => exact List.getElem?_set_self hq
  | pc w s b => exact List.getElem?_set_self hq
theorem folH_frm {h : VH} {q : Nat} {S : Str} {g : Bool} (x : Nx) : Frm [q] h (folH h q S g x) := by
  cases x with
  | more => exact Frm.refl _ _
  | none b => exact (Frm.refl _ _).set (.inl (by simp))
  | ends b => exact (Frm.refl _ _).set (.inl (by simp))
  | pc w s b => exact (Frm.refl _ _).set (.inl (by simp))
theorem folR_eq (h : VH) (q : Nat) (S : Str) (g : Bool) (x : Nx) : (∃ b, x = .ends b ∧ folR h q S g x = .exc ⟨"Ends", []⟩ (folH h q S g x)) ∨ ((∀ b, x ≠ .ends b) ∧ folR h q S g x = .ok (dueD x) (folH h q S g x)) := by
  cases x with
  | more => exact .inr ⟨fun b z => (by cases z), rfl⟩
  | none b => exact .inr ⟨fun b z => (by cases z), rfl⟩
  | ends b => exact .inl ⟨b, rfl, rfl⟩
  | pc w s b => exact .inr ⟨fun b z => (by cases z), rfl⟩
/-! ### tables shown -/
def pkv : Key × D → PyData × PyData
  | (.inr s, .str w) => (.str s, .str w)
  | _ => (.none, .none)
def tbP (kvs : List (Key × D)) : PyData := .dict (kvs.map pkv)
theorem tb_kv {h : VH} : ∀ {kvs : List (Key × D)}, kvs.all chk = true → kvPD h kvs = some (kvs.map pkv)
  | [], _ => rfl
  | (k, d) :: r, hc => by
    rw [List.all_cons, Bool.and_eq_true] at hc
    have ih := tb_kv (h := h) hc.2
    unfold kvPD at ih ⊢
    rw [omap_cs, ih]
    cases k with
    | inl i => cases hc.1
    | inr s => cases d with
      | str w => rfl
      | _ => cases hc.1
theorem TbOk.pr {kvs : List (Key × D)} (t : TbOk kvs) {h : VH} {n : Nat} (e : h[n]? = some (.dK kvs)) : toPR h (.loc n) = some (tbP kvs) := by
  rw [toPR_dk e, tb_kv t.1]
  rfl
theorem sg_sm0 : sgL.all (fun w => (PyData.str w).leavesShort 30 && decide ((PyData.str w).bulk ≤ 10)) = true := by decide +kernel
theorem kv_sm : ∀ {kvs : List (Key × D)}, kvs.all chk = true → PyData.showableKv (kvs.map pkv) = true ∧ PyData.leavesShortKv 30 (kvs.map pkv) = true ∧ PyData.bulkKv (kvs.map pkv) ≤ kvs.length * 22
  | [], _ => ⟨rfl, rfl, Nat.le_refl _⟩
  | (k, d) :: r, hc => by
    rw [List.all_cons, Bool.and_eq_true] at hc
    obtain ⟨h1, h2, h3⟩ := kv_sm hc.2
    cases k with
    | inl i => cases hc.1
    | inr s => cases d with
      | str w =>
        have hc' : (inL sgL s && inL wdL w) = true := hc.1
        rw [Bool.and_eq_true] at hc'
        have a1 := List.all_eq_true.mp sg_sm0 s (inL_mem hc'.1)
        have a2 := List.all_eq_true.mp wd_sm0 w (List.mem_cons_of_mem _ (inL_mem hc'.2))
        rw [Bool.and_eq_true] at a1 a2
        have b1 := of_decide_eq_true a1.2
        have b2 := of_decide_eq_true a2.2
        refine ⟨?_, ?_, ?_⟩
        · show (true && true && PyData.showableKv (r.map pkv)) = true
          rw [h1]; rfl
        · show ((PyData.str s).leavesShort 30 && (PyData.str w).leavesShort 30 && PyData.leavesShortKv 30 (r.map pkv)) = true
          rw [a1.1, a2.1, h2]; rfl
        · show (PyData.str s).bulk + (PyData.str w).bulk + 2 + PyData.bulkKv (r.map pkv) ≤ (r.length + 1) * 22
          omega
      | _ => cases hc.1
theorem TbOk.sm {kvs : List (Key × D)} (t : TbOk kvs) : Small 1000 (tbP kvs) := by
  obtain ⟨h1, h2, h3⟩ := kv_sm t.1
  have := t.2
  exact ⟨h1, h2, by show PyData.bulkKv _ ≤ _; omega⟩
end Mv

namespace Mv
open PySem L2
/-- the pieces of a list of tables -/
def Tabs (p q : Nat) (k : VH) (ds : List D) : Prop := ∀ x ∈ ds, ∃ n kvs, x = .loc n ∧ p < n ∧ n < q ∧ k[n]? = some (.dK kvs) ∧ TbOk kvs
theorem Tabs.frm {p q : Nat} {S : List Nat} {k k1 : VH} {ds : List D} (t : Tabs p q k ds) (f : Frm S k k1) (hs : ∀ n ∈ S, n ≤ p ∨ q ≤ n) : Tabs p q k1 ds := fun x hx => by
  obtain ⟨n, kvs, e, h1, h2, h3, h4⟩ := t x hx
  exact ⟨n, kvs, e, h1, h2, f.get h3 fun z => by have := hs n z; omega, h4⟩
theorem Tabs.up {p q q2 : Nat} {k : VH} {ds : List D} (t : Tabs p q k ds) (hq : q ≤ q2) : Tabs p q2 k ds := fun x hx => by
  obtain ⟨n, kvs, e, h1, h2, h3, h4⟩ := t x hx
  exact ⟨n, kvs, e, h1, by omega, h3, h4⟩
theorem TxOk.app {n m : Nat} {S T : Str} (a : TxOk n S) (b : TxOk m T) : TxOk (n + m) (S ++ T) := by
  refine ⟨?_, fun c hc => ?_⟩
  · rw [tx_app, List.length_append]
    have := a.1
    have := b.1
    omega
  · rw [tx_app] at hc
    rcases List.mem_append.mp hc with hc | hc
    · exact a.2 c hc
    · exact b.2 c hc
theorem TxOk.mono {n m : Nat} {S : Str} (a : TxOk n S) (h : n ≤ m) : TxOk m S := ⟨Nat.le_trans a.1 h, a.2⟩
theorem TxOk.cut {n : Nat} {S : Str} {lo hi : Option Int} (a : TxOk n S) : TxOk n (cutS S lo hi) := ⟨Nat.le_trans tx_cut.2 a.1, fun c hc => a.2 c (tx_cut.1 c hc)⟩
theorem TxOk.nil : TxOk 0 (Str.ofString "") := ⟨by decide, by decide⟩
theorem nx_app {S T : Str} : (S ++ T).length = (tx S).length + (tx T).length := by rw [len_s, tx_app, List.length_append]
theorem lc_cons_t {t : Tg} {tt : Ts} {el : Ex} {ck : Ck} {all xs ys : List D} {rho r1 : Env} {h : VH} {x y : D} (hck : ckOk ck all h = true) (e1 : t.put x rho = some r1) (ht : tt r1 h = .ok true h) (he : el r1 h = .ok y h) (hr : lcL t tt el ck all xs rho h = .ok ys h) : lcL t tt el ck all (x :: xs) rho h = .ok (y :: ys) h := by
  show (if ckOk ck all h = true then _ else _) = _
  rw [if_pos hck]
  simp only [e1]
  rw [ht]
  show ((noX (el r1 h)).bind fun y h2 => (lcL t tt el ck all xs rho h2).bind fun ys h3 => R.ok (y :: ys) h3) = _
  rw [he]
  show ((lcL t tt el ck all xs rho h).bind fun ys h3 => R.ok (y :: ys) h3) = _
  rw [hr]
  rfl
theorem lc_nil {t : Tg} {tt : Ts} {el : Ex} {ck : Ck} {all : List D} {rho : Env} {h : VH} (hck : ckOk ck all h = true) : lcL t tt el ck all [] rho h = .ok [] h := by
  show (if ckOk ck all h = true then _ else _) = _
  rw [if_pos hck]
theorem pl_el {h : VH} {rho : Env} {q a i : Nat} {S : Str} {g : Bool} (e : h[q]? = some (moO S a g)) (hr : rho[i]? = some (some (.loc q))) : eMt "Mouth" "place" 0 0 1 m_Mouth_place [.pos 0] (eV i) aNil aNil rho h = .ok (.int (a : Nat)) h := by
  refine Aft.eq ?_
  have ev : eV i rho h = .ok (.loc q) h := by
    unfold eV
    rw [hr]
  rw [afE]
  simp [ev, e, place_eq e]
end Mv

namespace Mv
open PySem L2
/-! ### more text behind changes nothing -/
theorem ex_str {a b : Str} (h : tx a = tx b) : a = b := by
  cases a with
  | mk a => cases b with
    | mk b =>
      unfold tx at h
      simp at h
      rw [h]
section
variable {f : Kd} {L M : List Nat} {k : Str} {i : Nat}
theorem behP_up (hi : i ≤ L.length) : behP f L k i ≤ behP f (L ++ M) k i := by
  unfold behP
  rw [List.drop_append_of_le_length hi, List.takeWhile_append]
  split
  · rename_i h
    rw [List.length_append, ← h]
    omega
  · omega
theorem behP_app (hi : i ≤ L.length) (h : behP f L k i < L.length) : behP f (L ++ M) k i = behP f L k i := by
  unfold behP at h ⊢
  rw [List.drop_append_of_le_length hi, List.takeWhile_append, if_neg (by simp; omega)]
theorem remP_app (hi : i ≤ L.length) (h : remP L i < L.length) : remP (L ++ M) i = remP L i := by
  unfold remP at h ⊢
  have hl : ((L.drop i).takeWhile fun c => decide (c ≠ 10)).length ≠ (L.drop i).length := by
    intro z
    rw [z, List.length_drop] at h
    omega
  rw [List.drop_append_of_le_length hi, List.takeWhile_append, if_neg hl, List.length_append]
  omega
theorem kAt_app (hi : i < L.length) : kAt f (L ++ M) i = kAt f L i := by
  unfold kAt
  rw [List.getElem?_append_left hi]
theorem passP_app : ∀ (n i : Nat), L.length - i ≤ n → i ≤ L.length → passP f L i < L.length → passP f (L ++ M) i = passP f L i
  | n, i, hn, hi, h => by
    have hle := passP_le (f := f) (L := L) (L.length - i) i (Nat.le_refl _) hi
    have hlt : i < L.length := by omega
    have hi2 : i ≤ (L ++ M).length := by simp; omega
    rw [passP_eq hi, passP_eq hi2, kAt_app hlt]
    rw [passP_eq hi] at h
    by_cases hg : kAt f L i = Str.ofString "gone"
    · rw [if_pos hg] at h
      rw [if_pos hg, if_pos hg]
      cases n with
      | zero => omega
      | succ n => exact passP_app n (i + 1) (by omega) (by omega) h
    · rw [if_neg hg] at h
      rw [if_neg hg, if_neg hg]
      by_cases hr : kAt f L i = Str.ofString "remark"
      · rw [if_pos hr] at h
        rw [if_pos hr, if_pos hr]
        have hrm := remP_le hlt
        have := passP_le (f := f) (L := L) (L.length - remP L i) (remP L i) (Nat.le_refl _) hrm.2
        rw [remP_app hi (by omega)]
        cases n with
        | zero => omega
        | succ n => exact passP_app n (remP L i) (by omega) (by omega) h
      · rw [if_neg hr, if_neg hr]
end
section
variable {f : Kd} {S U : Str} {M : List Nat} {g : Bool} {a : Nat}
theorem cutS_app (hU : tx U = tx S ++ M) {lo hi : Nat} (hlo : lo ≤ (tx S).length) (hhi : hi ≤ (tx S).length) : cutS U (some (lo : Int)) (some (hi : Int)) = cutS S (some (lo : Int)) (some (hi : Int)) := by
  have l1 : S.length = (tx S).length := len_s
  have l2 : U.length = (tx S).length + M.length := by rw [len_s, hU, List.length_append]
  refine ex_str ?_
  unfold cutS
  rw [HT.sIx_nat, HT.sIx_nat, HT.sIx_nat, HT.sIx_nat, l1, l2, Nat.min_eq_left hlo, Nat.min_eq_left hhi, Nat.min_eq_left (by omega : lo ≤ (tx S).length + M.length), Nat.min_eq_left (by omega : hi ≤ (tx S).length + M.length)]
  show ((tx U).drop lo).take (hi - lo) = ((tx S).drop lo).take (hi - lo)
  rw [hU, List.drop_append_of_le_length hlo, List.take_append_of_le_length (by simp; omega)]
theorem nx_nomore {a : Nat} : nx f S false a ≠ .more := by
  unfold nx nxAt
  split
  · simp
  · split
    · split
      · simp
      · split
        · simp [grw]
        · simp
    · split
      · simp [grw]
      · simp
theorem nxU_app (hU : tx U = tx S ++ M) (ha : a ≤ (tx S).length) (h : nx f S true a ≠ .more) : nx f U false a = nx f S true a := by
  have hle := passP_le (f := f) (L := tx S) ((tx S).length - a) a (Nat.le_refl _) ha
  have hp : passP f (tx S) a < (tx S).length := by
    apply Classical.byContradiction
    intro z
    refine h ?_
    unfold nx nxAt
    rw [List.getElem?_eq_none (by omega)]
    rfl
  have hpa : passP f (tx U) a = passP f (tx S) a := by rw [hU]; exact passP_app _ a (Nat.le_refl _) ha hp
  unfold nx at h ⊢
  rw [hpa]
  generalize passP f (tx S) a = p at *
  unfold nxAt at h ⊢
  have hU2 := hU
  rw [hU]
  rw [List.getElem?_append_left hp]
  rw [List.getElem?_eq_getElem hp] at h ⊢
  dsimp only at h ⊢
  by_cases h1 : f (tx S)[p] = Str.ofString "escape"
  · rw [if_pos h1] at h
    rw [if_pos h1, if_pos h1]
    by_cases hq : p + 1 < (tx S).length
    · rw [List.getElem?_append_left hq]
      rw [List.getElem?_eq_getElem hq] at h ⊢
      dsimp only at h ⊢
      by_cases h2 : f (tx S)[p + 1] = Str.ofString "letter"
      · rw [if_pos h2] at h
        rw [if_pos h2, if_pos h2]
        have hb := behP_le (f := f) (L := tx S) (k := Str.ofString "letter") (i := p + 1) (by omega)
        have hup := behP_up (f := f) (L := tx S) (M := M) (k := Str.ofString "letter") (i := p + 1) (by omega)
        generalize hB : behP f (tx S) (Str.ofString "letter") (p + 1) = B at *
        have hm : min (p + 31) B ≤ (tx S).length := by omega
        have hb2 := behP_le (f := f) (L := tx S) (k := Str.ofString "blank") hm
        have hlt : behP f (tx S) (Str.ofString "blank") (min (p + 31) B) < (tx S).length := by
          apply Classical.byContradiction
          intro z
          refine h ?_
          unfold grw
          rw [if_pos ⟨rfl, by omega⟩]
        have hBm : min (p + 31) (behP f (tx S ++ M) (Str.ofString "letter") (p + 1)) = min (p + 31) B := by
          by_cases hBl : B < (tx S).length
          · rw [behP_app (by omega) (by rw [hB]; exact hBl), hB]
          · omega
        rw [hBm, behP_app hm hlt]
        unfold grw
        rw [if_neg (by simp), if_neg (by omega)]
        rw [cutS_app hU2 (by omega) hm]
      · rw [if_neg h2, if_neg h2]
    · rw [List.getElem?_eq_none (by omega)] at h
      exact absurd rfl h
  · rw [if_neg h1] at h
    rw [if_neg h1, if_neg h1]
    by_cases h2 : f (tx S)[p] = Str.ofString "blank"
    · rw [if_pos h2] at h
      rw [if_pos h2, if_pos h2]
      have hlt : behP f (tx S) (Str.ofString "blank") p < (tx S).length := by
        apply Classical.byContradiction
        intro z
        refine h ?_
        unfold grw
        rw [if_pos ⟨rfl, by omega⟩]
      rw [behP_app (by omega) hlt]
      unfold grw
      rw [if_neg (by simp), if_neg (by omega)]
    · rw [if_neg h2, if_neg h2]
theorem nx_lt {w s : Str} {b : Nat} (ha : a ≤ (tx S).length) (h : nx f S false a = .pc w s b) : a < b ∧ b ≤ (tx S).length := by
  have hle := passP_le (f := f) (L := tx S) ((tx S).length - a) a (Nat.le_refl _) ha
  have hb := nx_le (f := f) (S := S) (g := false) (i := a) ha
  rw [h] at hb
  refine ⟨?_, hb⟩
  unfold nx at h
  generalize passP f (tx S) a = p at *
  unfold nxAt at h
  split at h
  · cases h
  · rename_i c hc
    have hpl := (List.getElem?_eq_some_iff.mp hc).1
    split at h
    · split at h
      · cases h
      · rename_i c2 hc2
        have hpl2 := (List.getElem?_eq_some_iff.mp hc2).1
        split at h
        · rename_i hl
          unfold grw at h
          rw [if_neg (by simp)] at h
          cases h
          have hb := behP_le (f := f) (L := tx S) (k := Str.ofString "letter") (i := p + 1) (by omega)
          have hb2 := behP_le (f := f) (L := tx S) (k := Str.ofString "blank") (i := min (p + 31) (behP f (tx S) (Str.ofString "letter") (p + 1))) (by omega)
          omega
        · cases h
          omega
    · split at h
      · rename_i hbl
        unfold grw at h
        rw [if_neg (by simp)] at h
        cases h
        have e := behP_step (f := f) (L := tx S) (k := Str.ofString "blank") (i := p) hc hbl
        have hb2 := behP_le (f := f) (L := tx S) (k := Str.ofString "blank") (i := p + 1) (by omega)
        rw [e]
        omega
      · cases h
        omega
end
end Mv

namespace Mv
open PySem L2
section
variable {h : VH} {S T : Str} {q a n : Nat} {g : Bool} {d : D} {f : Kd}
theorem told_eq (e : h[q]? = some (moO S a g)) (k : KdT d h f) (ha : a ≤ (tx S).length) (hl : (tx S).length < 5000) : m__law_told [.loc q, d] h = .ok (dueD (nx f S g a)) (folH h q S g (nx f S g a)) := by
  refine Aft.eq ?_
  rw [afE, me__law_told, f_fnM]
  simp [mb__law_told, e, fol_eq e k ha hl]
  rcases folR_eq h q S g (nx f S g a) with ⟨b, e1, e2⟩ | ⟨e1, e2⟩
  · rw [e2]
    simp
    rw [catO2_t (by simp)]
    rw [e1]
    simp [dueD]
  · rw [e2]
    simp
theorem feed_eq (e : h[q]? = some (moO S a true)) (hl : (tx S).length + (tx T).length ≤ 5000) : m_Mouth_feed [.loc q, .str T] h = .ok .non (h.set q (moO (S ++ T) a true)) := by
  refine Aft.eq ?_
  rw [afE, me_Mouth_feed, f_fnM]
  have hl' : S.length + T.length ≤ 16777216 := by rw [len_s, len_s]; omega
  simp [mb_Mouth_feed, mo_grow e]
  rw [s_fldA]
  simp [mo_signs e, hl']
  rw [mo_ssigns e]
  simp
theorem shut_eq (e : h[q]? = some (moO S a g)) : m_Mouth_shut [.loc q] h = .ok .non (h.set q (moO S a false)) := by
  refine Aft.eq ?_
  rw [afE, me_Mouth_shut, f_fnM]
  simp [mb_Mouth_shut]
  rw [mo_sgrow e]
  simp
theorem pop_ix {k : VH} {n : Nat} {xs : List D} {j : Int} {x : D} (e : k[n]? = some (.lst xs)) (j0 : 0 ≤ j) (j1 : j < 1000) (hx : xs[j.toNat]? = some x) : popF (.loc n) [.int j] k = some (x, k.set n (.lst (xs.eraseIdx j.toNat))) := by
  have hl := (List.getElem?_eq_some_iff.mp hx).1
  have hs : seqIndex? j xs.length = some j.toNat := by
    unfold seqIndex?
    simp
    omega
  unfold popF
  simp only [e]
  rw [if_pos (by omega), hs]
  simp only [hx]
theorem pop0 {k : VH} {n : Nat} {x : D} {xs : List D} (e : k[n]? = some (.lst (x :: xs))) : popF (.loc n) [.int 0] k = some (x, k.set n (.lst xs)) := pop_ix (j := 0) e (by decide) (by decide) rfl
end
/-! ### a mouth that is fed where more is wanted -/
def fl (Ts : List Str) : List Nat := (Ts.map tx).flatten
theorem fl_cons (T : Str) (Ts : List Str) : fl (T :: Ts) = tx T ++ fl Ts := rfl
def isM : Nx → Bool
  | .more => true
  | _ => false
theorem eq_more {k : VH} (x : Nx) : eqF (dueD x) (.tup [.str "more"]) k = some (.bl (isM x), k) := by
  cases x with
  | more => rfl
  | none a => rfl
  | ends a => rfl
  | pc w s a =>
    simp [dueD, isM]
    try rfl
structure MoS (k : VH) (q m : Nat) (U : Str) (a : Nat) (S : Str) (g : Bool) (Ts : List Str) : Prop where
  mo : k[q]? = some (moO S a g)
  pa : k[m]? = some (.lst (Ts.map D.str))
  tx : tx U = Mv.tx S ++ fl Ts
  op : g = false → Ts = []
  le : a ≤ (Mv.tx S).length
  lt : Ts.length ≤ 2000
def MoW (k : VH) (q m : Nat) (U : Str) (a : Nat) : Prop := ∃ S g Ts, MoS k q m U a S g Ts
theorem MoS.all {k : VH} {q m : Nat} {U : Str} {a : Nat} {S : Str} {Ts : List Str} (w : MoS k q m U a S false Ts) : U = S := ex_str (by rw [w.tx, w.op rfl]; simp [fl])
theorem MoS.len {k : VH} {q m : Nat} {U : Str} {a : Nat} {S : Str} {g : Bool} {Ts : List Str} (w : MoS k q m U a S g Ts) : (Mv.tx S).length ≤ (Mv.tx U).length := by rw [w.tx]; simp
def FeI (h : VH) (q m : Nat) (d : D) (U : Str) (a : Nat) (f : Kd) (n : Nat) (r : Env) (k : VH) : Prop := ∃ S g Ts, MoS k q m U (plc a (nx f S g a)) S g Ts ∧ a ≤ (tx S).length ∧ r = [some (.loc q), some (.loc m), some d, some (dueD (nx f S g a))] ∧ KdT d k f ∧ Frm [q, m] h k ∧ n = Ts.length + (if g = true then 1 else 0)
theorem fed_spec {h : VH} {q m a : Nat} {d : D} {U : Str} {f : Kd} {Z : Xc → VH → Prop} (w : MoW h q m U a) (hqm : q ≠ m) (kd : KdT d h f) (hd : ∀ n, d = .loc n → n ≠ q ∧ n ≠ m) (hU : (tx U).length ≤ 2000) :
    Aft (m__law_fed_on [.loc q, .loc m, d] h) (fun r k => r = dueD (nx f U false a) ∧ MoW k q m U (plc a (nx f U false a)) ∧ Frm [q, m] h k) Z := by
  obtain ⟨S, g, Ts, w⟩ := w
  have hTs := w.lt
  have hSl := w.len
  rw [afE, me__law_fed_on, f_fnM]
  simp only [mb__law_fed_on]
  have hdn : ∀ n, d = .loc n → n ∉ [q] := fun n e => by simp; exact (hd n e).1
  have t0 := told_eq w.mo kd w.le (by omega)
  have f0 := folH_frm (h := h) (q := q) (S := S) (g := g) (nx f S g a)
  have g0 := folH_get w.mo (nx f S g a)
  have p0 := nx_le (f := f) (S := S) (g := g) w.le
  simp [t0]
  generalize folH h q S g (nx f S g a) = h1 at *
  refine whl_i (FeI h q m d U a f) (m := Ts.length + (if g = true then 1 else 0)) (by show _ < 100000; split <;> omega) ⟨S, g, Ts, ⟨g0, f0.get w.pa (by simp; exact fun z => hqm z.symm), w.tx, w.op, p0, w.lt⟩, w.le, rfl, kd.frm f0 hdn, f0.weak (by simp), rfl⟩ ?_
  rintro n r k ⟨S, g, Ts, w, ha, rfl, kd, fk, rfl⟩
  have hSl := w.len
  have hql := (List.getElem?_eq_some_iff.mp w.mo).1
  have hml := (List.getElem?_eq_some_iff.mp w.pa).1
  simp [-o_eq, eq_more]
  cases hx : isM (nx f S g a) with
  | false =>
    simp
    have e : nx f S g a = nx f U false a := by
      cases g with
      | false => rw [w.all]
      | true => exact (nxU_app w.tx ha (fun z => by rw [z] at hx; cases hx)).symm
    rw [← e]
    exact ⟨rfl, ⟨S, g, Ts, w⟩, fk⟩
  | true =>
    have hm : nx f S g a = .more := by
      generalize nx f S g a = y at hx
      cases y <;> first | rfl | cases hx
    have hg : g = true := by
      cases g with
      | true => rfl
      | false => exact absurd hm nx_nomore
    subst hg
    have wm := w.mo
    rw [hm] at wm
    have wm : k[q]? = some (moO S a true) := wm
    cases Ts with
    | nil =>
      have se := shut_eq wm
      have f1 : Frm [q] k (k.set q (moO S a false)) := (Frm.refl _ _).set (.inl (by simp))
      have m1 : (k.set q (moO S a false))[q]? = some (moO S a false) := List.getElem?_set_self hql
      have a1 := f1.get w.pa (by simp; exact fun z => hqm z.symm)
      have kd1 := kd.frm f1 hdn
      have pn : (k.set q (moO S a false))[m]? = some (.lst []) := a1
      simp [w.pa, pd_loc w.pa, wm, se]
      generalize k.set q (moO S a false) = k1 at *
      have t1 := told_eq m1 kd1 ha (by omega)
      have f2 := folH_frm (h := k1) (q := q) (S := S) (g := false) (nx f S false a)
      have g2 := folH_get m1 (nx f S false a)
      simp [t1]
      refine ⟨S, false, [], ⟨g2, f2.get a1 (by simp; exact fun z => hqm z.symm), w.tx, fun _ => rfl, nx_le ha, by simp⟩, ha, rfl, kd1.frm f2 hdn, fk.trans ((f1.trans f2).weak (by simp)), rfl⟩
    | cons T Ts =>
      have hTl : (tx S).length + (tx T).length ≤ (tx U).length := by rw [w.tx, fl_cons]; simp
      have pp := pop0 (n := m) (x := .str T) (xs := Ts.map D.str) w.pa
      have f0 : Frm [m] k (k.set m (.lst (Ts.map D.str))) := (Frm.refl _ _).set (.inl (by simp))
      have m0 := f0.get wm (by simp; exact hqm)
      have a0 : (k.set m (.lst (Ts.map D.str)))[m]? = some (.lst (Ts.map D.str)) := List.getElem?_set_self hml
      have kd0 := kd.frm f0 (fun n e => by simp; exact (hd n e).2)
      have pne : PyData.eqvAll (PyData.str T :: List.map PyData.str Ts) [] = false := rfl
      have om : omap (toPD k 15) (Ts.map D.str) = some (Ts.map PyData.str) := by
        have := omap_map (f := toPD k 15) (g := fun d => match d with | .str s => PyData.str s | _ => PyData.none) (xs := Ts.map D.str) (fun x hx => by obtain ⟨s, _, rfl⟩ := List.mem_map.mp hx; rfl)
        rw [this, List.map_map]
        rfl
      have tf : PyData.eqv (PyData.list (PyData.str T :: List.map PyData.str Ts)) (PyData.list []) = false := rfl
      simp [w.pa, pd_loc w.pa, wm, pp, om, tf]
      generalize k.set m (.lst (Ts.map D.str)) = k1 at *
      have se := feed_eq (T := T) m0 (by omega)
      have f1 : Frm [q] k1 (k1.set q (moO (S ++ T) a true)) := (Frm.refl _ _).set (.inl (by simp))
      have m1 : (k1.set q (moO (S ++ T) a true))[q]? = some (moO (S ++ T) a true) := List.getElem?_set_self (List.getElem?_eq_some_iff.mp m0).1
      have a1 := f1.get a0 (by simp; exact fun z => hqm z.symm)
      have kd1 := kd0.frm f1 hdn
      simp [m0, se]
      generalize k1.set q (moO (S ++ T) a true) = k2 at *
      have ha2 : a ≤ (tx (S ++ T)).length := by rw [tx_app, List.length_append]; omega
      have t1 := told_eq m1 kd1 ha2 (by rw [tx_app, List.length_append]; omega)
      have f2 := folH_frm (h := k2) (q := q) (S := S ++ T) (g := true) (nx f (S ++ T) true a)
      have g2 := folH_get m1 (nx f (S ++ T) true a)
      simp [t1]
      refine ⟨Ts.length + 1, ?_, S ++ T, true, Ts, ⟨g2, f2.get a1 (by simp; exact fun z => hqm z.symm), by rw [w.tx, fl_cons, tx_app, List.append_assoc], (fun z => nomatch z), nx_le ha2, by have := w.lt; simp at this; omega⟩, ha2, rfl, kd1.frm f2 hdn, fk.trans (((f0.weak (T := [q, m]) (by simp)).trans (f1.weak (by simp))).trans (f2.weak (by simp))), rfl⟩
      simp
end Mv

namespace Mv
open PySem L2
/-! ### all pieces, read one behind the other -/
def plq (F : Nat → List (Key × D)) (U : Str) : Nat → Nat
  | 0 => 0
  | i + 1 => plc (plq F U i) (nx (kvf (F i)) U false (plq F U i))
def xq (F : Nat → List (Key × D)) (U : Str) (i : Nat) : Nx := nx (kvf (F i)) U false (plq F U i)
def dqL (F : Nat → List (Key × D)) (U : Str) (n : Nat) : List D := (List.range n).map fun i => dueD (xq F U i)
def isT : Nx → Bool
  | .none _ => true
  | .ends _ => true
  | _ => false
def Fin (F : Nat → List (Key × D)) (U : Str) (n : Nat) : Prop := 0 < n ∧ isT (xq F U (n - 1)) = true ∧ ∀ j, j + 1 < n → isT (xq F U j) = false
theorem Fin.un {F : Nat → List (Key × D)} {U : Str} {n m : Nat} (a : Fin F U n) (b : Fin F U m) : n = m := by
  obtain ⟨a0, a1, a2⟩ := a
  obtain ⟨b0, b1, b2⟩ := b
  rcases Nat.lt_trichotomy n m with h | h | h
  · have := b2 (n - 1) (by omega)
    rw [this] at a1
    cases a1
  · exact h
  · have := a2 (m - 1) (by omega)
    rw [this] at b1
    cases b1
theorem plq_le {F : Nat → List (Key × D)} {U : Str} : ∀ n, plq F U n ≤ (tx U).length
  | 0 => Nat.zero_le _
  | n + 1 => nx_le (plq_le n)
theorem plq_ge {F : Nat → List (Key × D)} {U : Str} : ∀ n, (∀ j, j < n → isT (xq F U j) = false) → n ≤ plq F U n
  | 0, _ => Nat.zero_le _
  | n + 1, h => by
    have ih := plq_ge n fun j hj => h j (by omega)
    have hx := h n (by omega)
    have hn : xq F U n ≠ .more := nx_nomore
    show n + 1 ≤ plc (plq F U n) (xq F U n)
    cases q : xq F U n with
    | more => exact absurd q hn
    | none a => rw [q] at hx; cases hx
    | ends a => rw [q] at hx; cases hx
    | pc w s b =>
      have := nx_lt (plq_le n) q
      show n + 1 ≤ b
      omega
theorem dqL_len {F : Nat → List (Key × D)} {U : Str} {n : Nat} : (dqL F U n).length = n := by simp [dqL]
theorem dqL_s {F : Nat → List (Key × D)} {U : Str} {n : Nat} : dqL F U (n + 1) = dqL F U n ++ [dueD (xq F U n)] := by
  unfold dqL
  rw [List.range_succ, List.map_append]
  rfl
theorem due_pd15 {k : VH} (x : Nx) : toPD k 15 (dueD x) = some (dueP x) := by cases x <;> rfl
theorem dqL_pd {k : VH} {F : Nat → List (Key × D)} {U : Str} {n : Nat} : omap (toPD k 15) (dqL F U n) = some ((List.range n).map fun i => dueP (xq F U i)) := by
  have : ∀ (l : List Nat), omap (toPD k 15) (l.map fun i => dueD (xq F U i)) = some (l.map fun i => dueP (xq F U i)) := fun l => by
    induction l with
    | nil => rfl
    | cons i l ih =>
      rw [List.map_cons, omap_cs, due_pd15, ih]
      rfl
  exact this _
theorem eqv_nil {ps : List PyData} : PyData.eqv (.list ps) (.list []) = decide (ps = []) := by
  cases ps with
  | nil => rfl
  | cons p ps => rfl
theorem nin_T {k : VH} (x : Nx) : ninPF (dueD x) (.lst [.non, .str "ends"]) k = some (.bl (!isT x), k) := by
  cases x with
  | more => rfl
  | none a => rfl
  | ends a => rfl
  | pc w s a =>
    simp [dueD, isT]
    exact ⟨rfl, rfl⟩
/-- tables that stay -/
structure TbN (k : VH) (B : List Nat) (ds : List D) (F : Nat → List (Key × D)) : Prop where
  pos : 0 < ds.length
  le : ds.length ≤ 1000
  at_ : ∀ i, ∃ n, ds[i % ds.length]? = some (.loc n) ∧ n ∉ B ∧ k[n]? = some (.dK (F i)) ∧ TbOk (F i)
theorem TbN.frm {k k1 : VH} {B S : List Nat} {ds : List D} {F : Nat → List (Key × D)} (t : TbN k B ds F) (f : Frm S k k1) (hs : ∀ n ∈ S, n ∈ B) : TbN k1 B ds F := ⟨t.pos, t.le, fun i => by
  obtain ⟨n, e1, e2, e3, e4⟩ := t.at_ i
  exact ⟨n, e1, e2, f.get e3 (fun z => e2 (hs n z)), e4⟩⟩
theorem TbN.more {k : VH} {B : List Nat} {ds : List D} {F : Nat → List (Key × D)} {p : Nat} (t : TbN k B ds F) (hp : k.length ≤ p) : TbN k (p :: B) ds F := ⟨t.pos, t.le, fun i => by
  obtain ⟨n, e1, e2, e3, e4⟩ := t.at_ i
  have := (List.getElem?_eq_some_iff.mp e3).1
  refine ⟨n, e1, fun z => ?_, e3, e4⟩
  rcases List.mem_cons.mp z with z | z
  · omega
  · exact e2 z⟩
theorem MoS.ts {k : VH} {q m : Nat} {U : Str} {a : Nat} {S : Str} {g : Bool} {Ts : List Str} (w : MoS k q m U a S g Ts) : ∀ xs, k[m]? = some (.lst xs) → xs = Ts.map D.str := fun xs e => by
  rw [w.pa] at e
  cases e
  rfl
theorem MoS.frm {k k1 : VH} {q m : Nat} {U : Str} {a : Nat} {S : Str} {g : Bool} {Ts : List Str} {B : List Nat} (w : MoS k q m U a S g Ts) (f : Frm B k k1) (h1 : q ∉ B) (h2 : m ∉ B) : MoS k1 q m U a S g Ts := ⟨f.get w.mo h1, f.get w.pa h2, w.tx, w.op, w.le, w.lt⟩
theorem pd_strs {k : VH} : ∀ (Ts : List Str), omap (toPD k 15) (Ts.map D.str) = some (Ts.map PyData.str)
  | [] => rfl
  | T :: Ts => by
    rw [List.map_cons, omap_cs, pd_strs Ts]
    rfl
def tstB (F : Nat → List (Key × D)) (U : Str) : Nat → Bool
  | 0 => true
  | j + 1 => !isT (xq F U j)
def ReI (h : VH) (q m : Nat) (ds : List D) (e : Bool) (F : Nat → List (Key × D)) (U : Str) (mm : Nat) (r : Env) (k : VH) : Prop := ∃ n, r = [some (.loc q), some (.loc m), some (.lst ds), some (.bl e), some (.loc h.length)] ∧ k[h.length]? = some (.lst (dqL F U n)) ∧ MoW k q m U (plq F U n) ∧ TbN k [h.length, q, m] ds F ∧ (∀ j, j + 1 < n → isT (xq F U j) = false) ∧ Frm [q, m] h k ∧ n ≤ (tx U).length + 1 ∧ mm = (tx U).length + 1 - n
theorem rd_app {k : VH} {q m p n : Nat} {ds : List D} {e : Bool} {F : Nat → List (Key × D)} {U : Str} {P : Env → Fl → VH → Prop} {Z : Xc → Env → VH → Prop} {ph : PhS P Z} (ef : k[p]? = some (.lst (dqL F U n))) (w : MoW k q m U (plq F U n)) (hqm : q ≠ m) (hq : q < p) (hm : m < p) (tb : TbN k [p, q, m] ds F) (hU : (tx U).length ≤ 1000) (hn : n ≤ (tx U).length)
    (hP : ∀ k', k'[p]? = some (.lst (dqL F U (n + 1))) → MoW k' q m U (plq F U (n + 1)) → TbN k' [p, q, m] ds F → Frm [q, m, p] k k' → P [some (.loc q), some (.loc m), some (.lst ds), some (.bl e), some (.loc p)] .nx k') :
    AS P Z ph (sDrop (eBM isL appF (eV 4) (aCons (eFn 3 m__law_fed_on (aCons (eV 0) (aCons (eV 1) (aCons (eOp ixF (eV 2) (eOp modF (eCall lenF (aCons (eV 4) aNil)) (eCall lenF (aCons (eV 2) aNil)))) aNil)))) aNil)) [some (.loc q), some (.loc m), some (.lst ds), some (.bl e), some (.loc p)] k) := by
  have hlen := dqL_len (F := F) (U := U) (n := n)
  obtain ⟨t, t1, t2, t3, t4⟩ := tb.at_ n
  have hpos := tb.pos
  have hle := tb.le
  have hix : L2.atI ds ((n : Int) % (ds.length : Int)) = some (.loc t) := by
    have : (n : Int) % (ds.length : Int) = ((n % ds.length : Nat) : Int) := by omega
    rw [this, atI_nat, t1]
  have hp0 : (0 : Int) < (ds.length : Int) := by omega
  simp [ef, hlen, hix, hp0]
  refine ⟨by omega, ?_⟩
  refine AF.use0 (fed_spec w hqm (t4.kd t3) (fun n e => by cases e; simp at t2; exact ⟨t2.2.1, t2.2.2⟩) (by omega)) fun r k1 ⟨er, w1, f1⟩ => ?_
  subst er
  have ef1 := f1.get ef (by simp; omega)
  have hpl := (List.getElem?_eq_some_iff.mp ef1).1
  simp [ef1, hlen]
  refine ⟨by omega, ?_⟩
  have f2 : Frm [p] k1 (k1.set p (.lst (dqL F U n ++ [dueD (nx (kvf (F n)) U false (plq F U n))]))) := (Frm.refl _ _).set (.inl (by simp))
  have fa : Frm [q, m, p] k (k1.set p (.lst (dqL F U n ++ [dueD (nx (kvf (F n)) U false (plq F U n))]))) := (f1.weak (by simp)).trans (f2.weak (by simp))
  refine hP _ ?_ ?_ (tb.frm fa (by simp)) fa
  · rw [dqL_s]
    exact List.getElem?_set_self hpl
  · obtain ⟨S, g, Ts, w1⟩ := w1
    exact ⟨S, g, Ts, w1.frm f2 (by simp; omega) (by simp; omega)⟩
theorem read_spec {h : VH} {q m : Nat} {ds : List D} {e : Bool} {F : Nat → List (Key × D)} {U : Str} {Z : Xc → VH → Prop} (w : MoW h q m U 0) (hqm : q ≠ m) (tb : TbN h [q, m] ds F) (hU : (tx U).length ≤ 1000) :
    Aft (m__law_read [.loc q, .loc m, .lst ds, .bl e] h) (fun r k => ∃ n, Fin F U n ∧ r = .loc h.length ∧ k[h.length]? = some (.lst (dqL F U n)) ∧ MoW k q m U (plq F U n) ∧ Frm [q, m] h k ∧ n ≤ (tx U).length + 1) Z := by
  have hq : q < h.length := by obtain ⟨S, g, Ts, w⟩ := w; exact (List.getElem?_eq_some_iff.mp w.mo).1
  have hm : m < h.length := by obtain ⟨S, g, Ts, w⟩ := w; exact (List.getElem?_eq_some_iff.mp w.pa).1
  rw [afE, me__law_read, f_fnM]
  simp only [mb__law_read]
  generalize hB : sDrop (eBM isL appF (eV 4) (aCons (eFn 3 m__law_fed_on (aCons (eV 0) (aCons (eV 1) (aCons (eOp ixF (eV 2) (eOp modF (eCall lenF (aCons (eV 4) aNil)) (eCall lenF (aCons (eV 2) aNil)))) aNil)))) aNil)) = rdB
  simp
  have f0 : Frm [] h (h ++ [.lst []]) := (Frm.refl _ _).add
  refine whl_i (ReI h q m ds e F U) (m := (tx U).length + 1) (by show _ < 100000; omega) ⟨0, rfl, by simp [dqL], ?_, (tb.more (Nat.le_refl _)).frm f0 (by simp), fun j hj => by omega, f0.weak (by simp), by omega, by omega⟩ ?_
  · obtain ⟨S, g, Ts, w⟩ := w
    exact ⟨S, g, Ts, w.frm f0 (by simp) (by simp)⟩
  rintro mm r k ⟨n, rfl, ef, w, tb, hj, fk, hn, rfl⟩
  have hps := dqL_pd (k := k) (F := F) (U := U) (n := n)
  have hlen := dqL_len (F := F) (U := U) (n := n)
  have c1 : eqF (.loc h.length) (.lst []) k = some (.bl (decide (n = 0)), k) := by
    rw [o_eq, pd_loc ef, hps]
    show some (D.bl (PyData.eqv (.list _) (.list [])), k) = _
    rw [eqv_nil]
    simp
  have test : (tOrr (tVal (eOp eqF (eV 4) (eL (lDisp aNil)))) (tVal (eOp ninPF (eOp ixF (eV 4) (eUn negF (eC (.int 1)))) (eL (lDisp (aCons (eC .non) (aCons (eC (.str "ends")) aNil))))))) [some (.loc q), some (.loc m), some (.lst ds), some (.bl e), some (.loc h.length)] k = .ok (tstB F U n) k := by
    refine Aft.eq ?_
    rw [afE]
    cases n with
    | zero => simp [c1, -o_eq, tstB]
    | succ j =>
      rw [dqL_s] at ef
      simp [c1, -o_eq, ef, -o_ninP, nin_T, tstB]
  rw [test]
  simp
  cases hb : tstB F U n with
  | false =>
    simp
    cases n with
    | zero => cases hb
    | succ j =>
      have hb : isT (xq F U j) = true := by
        have : (!isT (xq F U j)) = false := hb
        simpa using this
      exact ⟨j + 1, ⟨by omega, hb, hj⟩, ef, w, fk, hn⟩
  | true =>
    have hj2 : ∀ j, j < n → isT (xq F U j) = false := fun j hjn => by
      by_cases hz : j + 1 < n
      · exact hj j hz
      · cases n with
        | zero => omega
        | succ i =>
          have : j = i := by omega
          subst this
          have : (!isT (xq F U j)) = true := hb
          simpa using this
    have hnl := Nat.le_trans (plq_ge n hj2) (plq_le n)
    have fin : ∀ k2, k2[h.length]? = some (.lst (dqL F U (n + 1))) → MoW k2 q m U (plq F U (n + 1)) → TbN k2 [h.length, q, m] ds F → Frm [q, m, h.length] k k2 → ∃ m', m' < (tx U).length + 1 - n ∧ ReI h q m ds e F U m' [some (.loc q), some (.loc m), some (.lst ds), some (.bl e), some (.loc h.length)] k2 := fun k2 e2 w2 t2 f2 =>
      ⟨(tx U).length + 1 - (n + 1), by omega, n + 1, rfl, e2, w2, t2, fun j hjn => hj2 j (by omega), ((fk.weak (T := [q, m, h.length]) (by simp)).trans f2).weak (by simp), by omega, rfl⟩
    cases e with
    | false =>
      simp
      rw [← hB]
      refine rd_app ef w hqm hq hm tb hU hnl fun k2 e2 w2 t2 f2 => ?_
      simp
      exact fin k2 e2 w2 t2 f2
    | true =>
      simp
      obtain ⟨S, g, Ts, w⟩ := w
      simp [pd_loc w.pa, pd_strs]
      cases Ts with
      | nil =>
        have tf : PyData.eqvAll [] [] = true := rfl
        simp [tf]
        rw [← hB]
        refine rd_app ef ⟨S, g, [], w⟩ hqm hq hm tb hU hnl fun k2 e2 w2 t2 f2 => ?_
        simp
        exact fin k2 e2 w2 t2 f2
      | cons T Ts =>
        have tf : PyData.eqvAll (PyData.str T :: List.map PyData.str Ts) [] = false := rfl
        have hg : g = true := by
          cases g with
          | true => rfl
          | false => exact absurd (w.op rfl) (by simp)
        subst hg
        have hSl := w.len
        have hTl : (tx S).length + (tx T).length ≤ (tx U).length := by rw [w.tx, fl_cons]; simp
        have hml := (List.getElem?_eq_some_iff.mp w.pa).1
        have pp := pop0 (n := m) (x := .str T) (xs := Ts.map D.str) w.pa
        have f0 : Frm [m] k (k.set m (.lst (Ts.map D.str))) := (Frm.refl _ _).set (.inl (by simp))
        have m0 := f0.get w.mo (by simp; exact hqm)
        have a0 : (k.set m (.lst (Ts.map D.str)))[m]? = some (.lst (Ts.map D.str)) := List.getElem?_set_self hml
        simp [tf, w.pa, w.mo, pp]
        generalize k.set m (.lst (Ts.map D.str)) = k1 at *
        have se := feed_eq (T := T) m0 (by omega)
        have f1 : Frm [q] k1 (k1.set q (moO (S ++ T) (plq F U n) true)) := (Frm.refl _ _).set (.inl (by simp))
        have m1 : (k1.set q (moO (S ++ T) (plq F U n) true))[q]? = some (moO (S ++ T) (plq F U n) true) := List.getElem?_set_self (List.getElem?_eq_some_iff.mp m0).1
        have a1 := f1.get a0 (by simp; exact fun z => hqm z.symm)
        simp [m0, se]
        have fa : Frm [q, m, h.length] k (k1.set q (moO (S ++ T) (plq F U n) true)) := (f0.weak (by simp)).trans (f1.weak (by simp))
        generalize k1.set q (moO (S ++ T) (plq F U n) true) = k2 at *
        have ef2 := (f1.get (f0.get ef (by simp; omega)) (by simp; omega))
        rw [← hB]
        refine rd_app ef2 ⟨S ++ T, true, Ts, m1, a1, by rw [w.tx, fl_cons, tx_app, List.append_assoc], (fun z => nomatch z), by rw [tx_app, List.length_append]; have := w.le; omega, by have := w.lt; simp at this; omega⟩ hqm hq hm (tb.frm fa (by simp)) hU hnl fun k3 e2 w2 t2 f2 => ?_
        simp
        exact fin k3 e2 w2 t2 (fa.trans f2)
end Mv

namespace Mv
open PySem L2
/-! ### a text cut -/
theorem take_lc {Z : Xc → VH → Prop} {p : Nat} {S : Str} {h : VH} (hp : Pool h p) (hl : (tx S).length ≤ 1000) (all : List D) (o2 o4 o5 : Option D) :
    Aft (lcL (.nm 3) tYs (eFn 2 m__law_take (aCons (eV 0) (aCons (eOp addF (eCall lenF (aCons (eV 1) aNil)) (eC (.int 1))) aNil))) [] all all [some (.loc p), some (.str S), o2, none, o4, o5] h) (fun ys k => (∃ ms : List Int, ys = ms.map D.int ∧ ms.length = all.length ∧ ∀ m ∈ ms, 0 ≤ m ∧ m ≤ ((tx S).length : Int)) ∧ Pool k p ∧ Frm [p] h k) Z := by
  refine lc_inv0 (fun xs ys k => (∃ ms : List Int, ys = ms.map D.int ∧ ms.length + xs.length = all.length ∧ ∀ m ∈ ms, 0 ≤ m ∧ m ≤ ((tx S).length : Int)) ∧ Pool k p ∧ Frm [p] h k) ⟨⟨[], rfl, by simp, fun m hm => nomatch hm⟩, hp, Frm.refl _ _⟩ (fun _ _ _ _ => rfl) ?_ ?_
  · rintro x xs ys k ⟨⟨ms, rfl, h1, h2⟩, h3, h4⟩
    refine ⟨_, rfl, ?_⟩
    rw [afE]
    simp [len_s]
    rw [afE]
    refine AF.use0 (take_spec h3 (by omega) (by omega)) fun r k1 ⟨a, ea, a0, a1, hp1, f1⟩ => ?_
    subst ea
    refine ⟨⟨ms ++ [a], by simp, by simp at h1 ⊢; omega, fun m hm => ?_⟩, hp1, h4.trans f1⟩
    rcases List.mem_append.mp hm with z | z
    · exact h2 m z
    · rw [List.mem_singleton.mp z]
      omega
  · rintro ys k ⟨⟨cs, e1, e2, e3⟩, h3, h4⟩
    exact ⟨⟨cs, e1, by simpa using e2, e3⟩, h3, h4⟩
theorem sort_ints (ms : List Int) (h : ms.length < 64) : sortL (ms.map D.int) = some ((sortI ms).map D.int) := by
  have e : intsL (ms.map D.int) = some ms := by
    induction ms with
    | nil => rfl
    | cons m ms ih =>
      show (match intsL (ms.map D.int) with | some ns => some (m :: ns) | none => none) = _
      rw [ih (by simp at h; omega)]
  unfold sortL
  rw [e]
  dsimp only
  rw [if_pos h]
/-- the slices between cuts -/
def slc (S : Str) : Nat → List Nat → List Str
  | a, [] => [cutS S (some (a : Int)) (some ((tx S).length : Int))]
  | a, c :: cs => cutS S (some (a : Int)) (some (c : Int)) :: slc S c cs
def prs (S : Str) : Nat → List Nat → List D
  | a, [] => [.tup [.int (a : Nat), .int ((tx S).length : Nat)]]
  | a, c :: cs => .tup [.int (a : Nat), .int (c : Nat)] :: prs S c cs
def nD (n : Nat) : D := .int (n : Int)
theorem zip_prs {S : Str} : ∀ (cs : List Nat) (a : Nat), zipD (nD a :: cs.map nD) (cs.map nD ++ [nD (tx S).length]) = prs S a cs
  | [], a => rfl
  | c :: cs, a => by
    show .tup [nD a, nD c] :: zipD (nD c :: cs.map nD) (cs.map nD ++ [nD (tx S).length]) = _
    rw [zip_prs cs c]
    rfl
theorem prs_len {S : Str} : ∀ (cs : List Nat) (a : Nat), (prs S a cs).length = cs.length + 1
  | [], a => rfl
  | c :: cs, a => by
    show (prs S c cs).length + 1 = _
    rw [prs_len cs c]
    rfl
theorem slc_len {S : Str} : ∀ (cs : List Nat) (a : Nat), (slc S a cs).length = cs.length + 1
  | [], a => rfl
  | c :: cs, a => by
    show (slc S c cs).length + 1 = _
    rw [slc_len cs c]
    rfl
theorem slc_lc {h : VH} {S : Str} (all : List D) (o0 o2 o3 : Option D) : ∀ (cs : List Nat) (a : Nat),
    lcL (.tp [4, 5]) tYs (eSl (eV 1) (oSm (eV 4)) (oSm (eV 5))) [] all (prs S a cs) [o0, some (.str S), o2, o3, none, none] h = .ok ((slc S a cs).map D.str) h
  | [], a => lc_cons_t rfl rfl rfl rfl (lc_nil rfl)
  | c :: cs, a => lc_cons_t rfl rfl rfl rfl (slc_lc all o0 o2 o3 cs c)
theorem tx_cutN {S : Str} {a b : Nat} (hb : b ≤ (tx S).length) (hab : a ≤ b) : tx (cutS S (some (a : Int)) (some (b : Int))) = ((tx S).drop a).take (b - a) := by
  have l1 : S.length = (tx S).length := len_s
  unfold cutS
  rw [HT.sIx_nat, HT.sIx_nat, l1, Nat.min_eq_left hb, Nat.min_eq_left (by omega)]
  rfl
theorem slc_fl {S : Str} : ∀ (cs : List Nat) (a : Nat), (a :: cs).Pairwise (· ≤ ·) → (∀ c ∈ a :: cs, c ≤ (tx S).length) → fl (slc S a cs) = (tx S).drop a
  | [], a, _, h => by
    have := h a List.mem_cons_self
    show tx _ ++ [] = _
    rw [tx_cutN (Nat.le_refl _) this, List.append_nil, List.take_of_length_le (by simp)]
  | c :: cs, a, hp, h => by
    have hac : a ≤ c := (List.pairwise_cons.mp hp).1 c List.mem_cons_self
    have hc := h c (by simp)
    show tx _ ++ fl (slc S c cs) = _
    rw [slc_fl cs c (List.pairwise_cons.mp hp).2 fun x hx => h x (List.mem_cons_of_mem _ hx), tx_cutN hc hac]
    have e : (tx S).drop c = ((tx S).drop a).drop (c - a) := by rw [List.drop_drop]; congr 1; omega
    rw [e, List.take_append_drop]
theorem cut_spec {h : VH} {S : Str} {p : Nat} {Z : Xc → VH → Prop} (hp : Pool h p) (hl : (tx S).length ≤ 1000) : Aft (m__law_cut [.loc p, .str S] h) (fun d k => ∃ Ts : List Str, d = .lst (Ts.map D.str) ∧ fl Ts = tx S ∧ Ts.length ≤ 2000 ∧ Pool k p ∧ Frm [p] h k) Z := by
  rw [afE, me__law_cut, f_fnM]
  simp [mb__law_cut]
  refine AF.use0 (take_spec hp (by decide) (by decide)) fun r h1 ⟨a, ea, a0, a1, hp1, f1⟩ => ?_
  subst ea
  simp
  refine ⟨by omega, by omega, ?_⟩
  refine AF.use0 (take_lc hp1 (by omega) _ _ _ _) fun ys k ⟨⟨ms, e1, e2, e5⟩, hp2, f2⟩ => ?_
  subst e1
  simp at e2
  have es : sortFL [.lst (ms.map D.int)] k = some ((sortI ms).map D.int) := by
    show sortL (ms.map D.int) = _
    exact sort_ints ms (by omega)
  have esl : (sortI ms).length = ms.length := (sortI_perm ms).length_eq
  have hso := sortI_sorted ms
  have hmem : ∀ m ∈ sortI ms, 0 ≤ m ∧ m ≤ ((tx S).length : Int) := fun m hm => e5 m ((sortI_perm ms).mem_iff.mp hm)
  obtain ⟨cs, ecs⟩ : ∃ cs : List Nat, sortI ms = cs.map (fun n : Nat => (n : Int)) := by
    refine ⟨(sortI ms).map Int.toNat, ?_⟩
    rw [List.map_map]
    conv => lhs; rw [← List.map_id (sortI ms)]
    refine List.map_congr_left fun m hm => ?_
    have := (hmem m hm).1
    show m = ((m.toNat : Nat) : Int)
    omega
  rw [ecs] at es esl hso hmem
  rw [List.pairwise_map] at hso
  have em : (cs.map (fun n : Nat => (n : Int))).map D.int = cs.map nD := by rw [List.map_map]; rfl
  rw [em] at es
  rw [List.length_map] at esl
  have hz := zip_prs (S := S) cs 0
  have hz : zipD (D.int 0 :: cs.map nD) (cs.map nD ++ [D.int ((tx S).length : Nat)]) = prs S 0 cs := hz
  have hpl := prs_len (S := S) cs 0
  simp [es, len_s, hz, hpl]
  refine ⟨by omega, by omega, ?_⟩
  simp [wipeE, slc_lc]
  refine ⟨slc S 0 cs, rfl, ?_, by rw [slc_len]; omega, hp2, f1.trans f2⟩
  have hb : ∀ c ∈ cs, c ≤ (tx S).length := fun c hc => by
    have := (hmem (c : Int) (List.mem_map.mpr ⟨c, hc, rfl⟩)).2
    omega
  have := slc_fl (S := S) cs 0 (List.pairwise_cons.mpr ⟨fun _ _ => Nat.zero_le _, hso.imp fun h => by omega⟩) (fun c hc => by
    rcases List.mem_cons.mp hc with rfl | hc
    · exact Nat.zero_le _
    · exact hb c hc)
  simpa using this
/-! ### sign by sign -/
theorem sg_lc {h : VH} {rho : Env} {i : Nat} (hi : i < rho.length) (all : List D) : ∀ (cs : List Nat), lcL (.nm i) tYs (eV i) [] all (cs.map fun c => .str (chr1 c)) rho h = .ok (cs.map fun c => .str (chr1 c)) h
  | [] => lc_nil rfl
  | c :: cs => lc_cons_t rfl rfl rfl (by unfold eV; rw [List.getElem?_set_self hi]) (sg_lc hi all cs)
theorem fl_sg : ∀ (cs : List Nat), fl (cs.map chr1) = cs
  | [] => rfl
  | c :: cs => by
    show tx (chr1 c) ++ fl (cs.map chr1) = _
    rw [fl_sg cs]
    rfl
end Mv

namespace Mv
open PySem L2
section
variable {P : D → VH → Prop} {PL : List D → VH → Prop} {Z : Xc → VH → Prop} {ph : Ph P Z} {phL : Ph PL Z} {rho : Env} {h : VH}
@[simp ↓] theorem f_lLc {im : Im} {t : Tg} {tt : Ts} {el : Ex} {ws : List Nat} : AF PL Z phL (lLc im t tt el ws rho h) = AF (fun p h1 => p.1.length ≤ sizeLine ∧ AF PL Z .mk (lcL t tt el p.2 p.1 p.1 (wipeE rho ws) h1)) Z .mk (im rho h) := by
  delta AF
  show Aft (lLc im t tt el ws rho h) PL Z = _
  unfold lLc
  simp only [aft_bind, aft_ite, aft_bad]
  show Aft (im rho h) _ Z = Aft (im rho h) _ Z
  congr; funext p h1
  by_cases q : p.1.length ≤ sizeLine <;> simp [q] <;> rfl
@[simp ↓] theorem f_iRng3 {a : Ar} {PI : List D × Ck → VH → Prop} {phI : Ph PI Z} : AF PI Z phI (iRng3 a rho h) = AF (fun ds h1 => AF PI Z .mk (rng3 ds h1)) Z .mk (a rho h) := by
  delta AF
  show Aft (iRng3 a rho h) PI Z = Aft (a rho h) (fun ds h1 => Aft (rng3 ds h1) PI Z) Z
  unfold iRng3
  rw [aft_bind]
@[simp ↓] theorem f_rng3 {i j c : Int} {PI : List D × Ck → VH → Prop} {phI : Ph PI Z} : AF PI Z phI (rng3 [.int i, .int j, .int c] h) = (rgOk i j c = true ∧ PI ((List.range (rgN i j c)).map fun k => .int (i + (k : Nat) * c), []) h) := by
  delta AF
  show Aft (if rgOk i j c = true then R.ok _ h else .bad) PI Z = _
  by_cases q : rgOk i j c = true
  · rw [if_pos q]
    simp [q]
  · rw [if_neg q]
    simp [q]
end
end Mv

namespace Mv
open PySem L2
/-! ### slices of one size -/
def sl9 (S : Str) (c : Int) (k : Nat) : Str := cutS S (some ((k : Int) * c)) (some ((k : Int) * c + c))
theorem sl9_lc {h : VH} {S : Str} {c : Int} (all : List D) (o0 o1 o3 o5 : Option D) : ∀ (ks : List Nat),
    lcL (.nm 6) tYs (eSl (eV 2) (oSm (eV 6)) (oSm (eOp addF (eV 6) (eV 4)))) [] all (ks.map fun k => .int ((k : Nat) * c)) [o0, o1, some (.str S), o3, some (.int c), o5, none] h = .ok ((ks.map (sl9 S c)).map D.str) h
  | [] => lc_nil rfl
  | k :: ks => lc_cons_t rfl rfl rfl rfl (sl9_lc all o0 o1 o3 o5 ks)
theorem tx_cutM {S : Str} {a b : Nat} (hab : a ≤ b) : tx (cutS S (some (a : Int)) (some (b : Int))) = ((tx S).drop a).take (b - a) := by
  by_cases hb : b ≤ (tx S).length
  · exact tx_cutN hb hab
  · have l1 : S.length = (tx S).length := len_s
    unfold cutS
    rw [HT.sIx_nat, HT.sIx_nat, l1, Nat.min_eq_right (by omega)]
    show ((tx S).drop (min a (tx S).length)).take ((tx S).length - min a (tx S).length) = _
    by_cases ha : a ≤ (tx S).length
    · rw [Nat.min_eq_left ha, List.take_of_length_le (by simp), List.take_of_length_le (by simp; omega)]
    · rw [Nat.min_eq_right (by omega), List.drop_of_length_le (Nat.le_refl _), List.drop_of_length_le (by omega)]
      simp
theorem fl_app (a b : List Str) : fl (a ++ b) = fl a ++ fl b := by unfold fl; rw [List.map_append, List.flatten_append]
theorem sl9_fl {S : Str} {c : Nat} : ∀ (n : Nat), fl ((List.range n).map (sl9 S (c : Int))) = (tx S).take (n * c)
  | 0 => by simp [fl]
  | n + 1 => by
    rw [List.range_succ, List.map_append, fl_app, sl9_fl n]
    have e : sl9 S (c : Int) n = cutS S (some ((n * c : Nat) : Int)) (some ((n * c + c : Nat) : Int)) := by
      unfold sl9
      congr 2
    show _ ++ (tx (sl9 S (c : Int) n) ++ []) = _
    rw [e, tx_cutM (by omega), List.append_nil, Nat.add_mul, Nat.one_mul, List.take_add]
    congr 2
    omega
/-! ### long names -/
def tb3 : List (Key × D) := [(.inr "\\", .str "escape"), (.inr "a", .str "letter"), (.inr " ", .str "blank")]
theorem tb3_ok : TbOk (mergeD [] tb3) := by unfold TbOk; decide +kernel
def l9T (m : Nat) : Str := Str.ofString "\\" ++ Txt.mul (Str.ofString "a") (m : Int) ++ Str.ofString "  \\a"
def l9M : List Nat := [29, 30, 31, 62]
def l9C : List Nat := [1, 2, 30, 31]
theorem l9_ok0 : (l9M.all fun m => decide ((Txt.mul (Str.ofString "a") (m : Int)).length = m ∧ PyData.strOk (Txt.mul (Str.ofString "a") (m : Int)) = true ∧ (l9T m).length ≤ 100 ∧ 0 < (l9T m).length) && l9C.all fun c => decide (rgOk 0 ((l9T m).length : Int) (c : Int) = true ∧ (l9T m).length ≤ rgN 0 ((l9T m).length : Int) (c : Int) * c ∧ rgN 0 ((l9T m).length : Int) (c : Int) ≤ 2000)) = true := by decide +kernel
theorem l9_ok {m : Nat} (hm : m ∈ l9M) : ((Txt.mul (Str.ofString "a") (m : Int)).length = m ∧ PyData.strOk (Txt.mul (Str.ofString "a") (m : Int)) = true ∧ (l9T m).length ≤ 100 ∧ 0 < (l9T m).length) ∧ ∀ c ∈ l9C, rgOk 0 ((l9T m).length : Int) (c : Int) = true ∧ (l9T m).length ≤ rgN 0 ((l9T m).length : Int) (c : Int) * c ∧ rgN 0 ((l9T m).length : Int) (c : Int) ≤ 2000 := by
  have h := List.all_eq_true.mp l9_ok0 m hm
  rw [Bool.and_eq_true] at h
  exact ⟨of_decide_eq_true h.1, fun c hc => of_decide_eq_true (List.all_eq_true.mp h.2 c hc)⟩
theorem l9_le {m : Nat} (hm : m ∈ l9M) : m ≤ 62 := by
  simp [l9M] at hm
  omega
theorem rep_a {m : Nat} {h : VH} (hm : m ∈ l9M) : repSF (.str (Str.ofString "a")) (.int (m : Nat)) h = some (.str (Txt.mul (Str.ofString "a") (m : Int)), h) := by
  obtain ⟨⟨h1, h2, _⟩, _⟩ := l9_ok hm
  have := l9_le hm
  show (if _ then some (D.str (Txt.mul (Str.ofString "a") (m : Int)), h) else none) = _
  rw [if_pos ⟨by omega, by omega, by decide, h2, by rw [h1]; show m ≤ 16777216; omega⟩]
theorem eqv_due (y : Nx) : PyData.eqv (dueP y) (dueP y) = true := by cases y <;> first | rfl | simp [dueP, str_beq]
theorem eqv_dues : ∀ (xs : List Nx), PyData.eqvAll (xs.map dueP) (xs.map dueP) = true
  | [] => rfl
  | x :: xs => by
    show (PyData.eqv (dueP x) (dueP x) && PyData.eqvAll (xs.map dueP) (xs.map dueP)) = true
    rw [eqv_due, eqv_dues xs]
    rfl
theorem tb_one {k : VH} {t : Nat} {B : List Nat} (e : k[t]? = some (.dK (mergeD [] tb3))) (ht : t ∉ B) : TbN k B [.loc t] (fun _ => mergeD [] tb3) := ⟨by simp, by simp, fun i => ⟨t, by show [D.loc t][i % 1]? = _; rw [Nat.mod_one]; rfl, ht, e, tb3_ok⟩⟩
def LgI (h : VH) (xs : List D) (r : Env) (k : VH) : Prop := (∀ x ∈ xs, ∃ m ∈ l9M, x = .int (m : Nat)) ∧ k[h.length]? = some (.dK (mergeD [] tb3)) ∧ Frm [] h k ∧ ∃ o1 o2 o3 o4 o5, r = [some (.loc h.length), o1, o2, o3, o4, o5, none]
def SzI (h : VH) (m b n : Nat) (xs : List D) (r : Env) (k : VH) : Prop := (∀ x ∈ xs, ∃ c ∈ l9C, x = .int (c : Nat)) ∧ k[h.length]? = some (.dK (mergeD [] tb3)) ∧ k[b]? = some (.lst (dqL (fun _ => mergeD [] tb3) (l9T m) n)) ∧ Frm [] h k ∧ h.length < b ∧ ∃ o4 o5, r = [some (.loc h.length), some (.int (m : Nat)), some (.str (l9T m)), some (.loc b), o4, o5, none]
theorem long_spec {h : VH} {Z : Xc → VH → Prop} : Aft (m__law_long_right [] h) (fun d k => d = .bl true ∧ Frm [] h k) Z := by
  rw [afE, me__law_long_right, f_fnM]
  have d1 : ∀ (rho : Env) (h : VH), eDisp (pCons (eC (.str "\\")) (eC (.str "escape")) (pCons (eC (.str "a")) (eC (.str "letter")) (pCons (eC (.str " ")) (eC (.str "blank")) pNil))) rho h = .ok (.loc h.length) (h ++ [.dK (mergeD [] tb3)]) := fun rho h => disp_c (ps := [(.str "\\", .str "escape"), (.str "a", .str "letter"), (.str " ", .str "blank")]) rfl rfl (by decide)
  simp only [mb__law_long_right]
  simp [d1]
  have f0 : Frm [] h (h ++ [.dK (mergeD [] tb3)]) := (Frm.refl _ _).add
  have e0 : (h ++ [.dK (mergeD [] tb3)])[h.length]? = some (.dK (mergeD [] tb3)) := by simp
  generalize h ++ [O.dK (mergeD [] tb3)] = h1 at *
  refine for_i (LgI h) ⟨fun x hx => ?_, e0, f0, _, _, _, _, _, rfl⟩ (fun _ _ _ _ => rfl) ?_ ?_
  · simp at hx
    rcases hx with rfl | rfl | rfl | rfl
    · exact ⟨29, by simp [l9M], rfl⟩
    · exact ⟨30, by simp [l9M], rfl⟩
    · exact ⟨31, by simp [l9M], rfl⟩
    · exact ⟨62, by simp [l9M], rfl⟩
  · rintro x xs r k ⟨hx, ek, fk, o1, o2, o3, o4, o5, rfl⟩
    have hx1 := fun y hy => hx y (List.mem_cons_of_mem _ hy)
    obtain ⟨m, hm, rfl⟩ := hx x List.mem_cons_self
    obtain ⟨⟨g1, g2, g3, g4⟩, g5⟩ := l9_ok hm
    have hm62 := l9_le hm
    have c1 : (Str.ofString "\\").length + (Txt.mul (Str.ofString "a") (m : Int)).length ≤ 16777216 := by
      have : (Str.ofString "\\").length = 1 := by decide
      omega
    have c2 : (Str.ofString "\\" ++ Txt.mul (Str.ofString "a") (m : Int)).length + (Str.ofString "  \\a").length ≤ 16777216 := by
      rw [slen_append]
      have : (Str.ofString "\\").length = 1 := by decide
      have : (Str.ofString "  \\a").length = 4 := by decide
      omega
    have hS : Str.ofString "\\" ++ Txt.mul (Str.ofString "a") (m : Int) ++ Str.ofString "  \\a" = l9T m := rfl
    have hl : (tx (l9T m)).length ≤ 100 := by rw [← len_s]; exact g3
    refine ⟨_, rfl, ?_⟩
    simp [rep_a hm, c1, c2, hS]
    refine ⟨by have : (Str.ofString "\\").length = 1 := by decide
               have : (Str.ofString "  \\a").length = 4 := by decide
               omega, ?_⟩
    have i1 := init_eq (h := k ++ [.ins "Mouth" []]) (q := k.length) (S := l9T m) (g := false) (by simp)
    have es1 : (k ++ [O.ins "Mouth" []]).set k.length (moO (l9T m) 0 false) = k ++ [moO (l9T m) 0 false] := by simp
    rw [es1] at i1
    simp [i1]
    obtain ⟨hf, hhf⟩ : ∃ hf, hf = k ++ [moO (l9T m) 0 false, .lst []] := ⟨_, rfl⟩
    rw [← hhf]
    have ff : Frm [] k hf := by rw [hhf]; exact (Frm.refl _ _).add
    have hkl := (List.getElem?_eq_some_iff.mp ek).1
    have fhl := fk.1
    have hfl : hf.length = k.length + 2 := by rw [hhf]; simp
    have w0 : MoW hf k.length (k.length + 1) (l9T m) 0 := ⟨l9T m, false, [], by rw [hhf]; simp, by rw [hhf]; simp, by simp [fl], fun _ => rfl, Nat.zero_le _, by simp⟩
    have tb := tb_one (B := [k.length, k.length + 1]) (ff.get ek (by simp)) (by simp; omega)
    have hl2 : (tx (l9T m)).length ≤ 1000 := Nat.le_trans hl (by decide)
    clear c1 c2 hS
    have tb' : TbN hf [k.length, k.length + 1] [.loc h.length] (fun _ => mergeD [] tb3) := tb
    have rs := read_spec (Z := Z) (e := false) w0 (Nat.ne_of_lt (Nat.lt_succ_self _)) tb' hl2
    refine AF.use0 rs fun d k1 hd => ?_
    rw [s_nx]
    obtain ⟨n, fin1, ed, e1, w1, f1, hn1⟩ := hd
    subst ed
    have fk1 : Frm [] h k1 := ((fk.trans ff).over f1 (by simp; omega))
    have ek1 := f1.get (ff.get ek (by simp)) (by simp; omega)
    simp
    refine for_i (SzI h m hf.length n) ⟨fun x hx => ?_, ek1, e1, fk1, by omega, _, _, rfl⟩ (fun _ _ _ _ => rfl) ?_ ?_
    · simp at hx
      rcases hx with rfl | rfl | rfl | rfl
      · exact ⟨1, by simp [l9C], rfl⟩
      · exact ⟨2, by simp [l9C], rfl⟩
      · exact ⟨30, by simp [l9C], rfl⟩
      · exact ⟨31, by simp [l9C], rfl⟩
    · rintro x xs r k ⟨hx, ek, eb, fk, hb, o4, o5, rfl⟩
      have hx1 := fun y hy => hx y (List.mem_cons_of_mem _ hy)
      obtain ⟨c, hc, rfl⟩ := hx x List.mem_cons_self
      obtain ⟨r1, r2, r3⟩ := g5 c hc
      refine ⟨_, rfl, ?_⟩
      simp [r1, wipeE, sl9_lc]
      refine ⟨by omega, ?_⟩
      obtain ⟨Ts, hTs⟩ : ∃ Ts, Ts = (List.range (rgN 0 ((l9T m).length : Int) (c : Int))).map (sl9 (l9T m) (c : Int)) := ⟨_, rfl⟩
      have hfl2 : fl Ts = tx (l9T m) := by
        rw [hTs, sl9_fl, List.take_of_length_le (by rw [← len_s]; exact r2)]
      have hTl : Ts.length ≤ 2000 := by rw [hTs]; simpa using r3
      have hmap : (List.range (rgN 0 ((l9T m).length : Int) (c : Int))).map (D.str ∘ sl9 (l9T m) (c : Int)) = Ts.map D.str := by rw [hTs, List.map_map]
      rw [hmap]
      have i2 := init_eq (h := k ++ [.lst (Ts.map D.str), .ins "Mouth" []]) (q := k.length + 1) (S := Str.ofString "") (g := true) (by simp)
      have es2 : (k ++ [O.lst (Ts.map D.str), .ins "Mouth" []]).set (k.length + 1) (moO (Str.ofString "") 0 true) = k ++ [O.lst (Ts.map D.str), moO (Str.ofString "") 0 true] := by simp
      rw [es2] at i2
      simp [i2]
      obtain ⟨hg, hhg⟩ : ∃ hg, hg = k ++ [O.lst (Ts.map D.str), moO (Str.ofString "") 0 true] := ⟨_, rfl⟩
      rw [← hhg]
      have fg : Frm [] k hg := by rw [hhg]; exact (Frm.refl _ _).add
      have hkl := (List.getElem?_eq_some_iff.mp ek).1
      have hbl := (List.getElem?_eq_some_iff.mp eb).1
      have hgl : hg.length = k.length + 2 := by rw [hhg]; simp
      have fkl := fk.1
      have w2 : MoW hg (k.length + 1) k.length (l9T m) 0 := ⟨Str.ofString "", true, Ts, by rw [hhg]; simp, by rw [hhg]; simp, by rw [hfl2]; rfl, (fun z => nomatch z), Nat.zero_le _, hTl⟩
      have tb2 := tb_one (B := [k.length + 1, k.length]) (fg.get ek (by simp)) (by simp; omega)
      have rs2 := read_spec (Z := Z) (e := false) w2 (Nat.ne_of_gt (Nat.lt_succ_self _)) tb2 hl2
      refine AF.use0 rs2 fun d k2 hd => ?_
      obtain ⟨n2, fin2, ed, e2, _, f2, _⟩ := hd
      subst ed
      cases fin2.un fin1
      have fk2 : Frm [] h k2 := ((fk.trans fg).over f2 (by simp; omega))
      have ek2 := f2.get (fg.get ek (by simp)) (by simp; omega)
      have eb2 := f2.get (fg.get eb (by simp)) (by simp; omega)
      have q1 := pd_loc (n := 15) e2
      have q2 := pd_loc (n := 15) eb2
      rw [dqL_pd] at q1 q2
      have hrf := eqv_dues ((List.range n).map fun i => xq (fun _ => mergeD [] tb3) (l9T m) i)
      rw [List.map_map] at hrf
      have hrf2 : PyData.eqv (.list ((List.range n).map fun i => dueP (xq (fun _ => mergeD [] tb3) (l9T m) i))) (.list ((List.range n).map fun i => dueP (xq (fun _ => mergeD [] tb3) (l9T m) i))) = true := hrf
      have hne : neF (.loc hg.length) (.loc hf.length) k2 = some (.bl false, k2) := by
        rw [o_ne, q1, q2]
        show some (D.bl (!PyData.eqv _ _), k2) = _
        rw [hrf2]
        rfl
      simp [hne, -o_ne]
      exact ⟨hx1, ek2, eb2, fk2, hb, _, _, rfl⟩
    · rintro r k ⟨hx, ek, eb, fk, hb, o4, o5, rfl⟩
      simp
      exact ⟨hx1, ek, fk, _, _, _, _, _, rfl⟩
  · rintro r k ⟨hx, ek, fk, o1, o2, o3, o4, o5, rfl⟩
    simp
    exact fk
end Mv

namespace Mv
open PySem L2
theorem tabs_lc {Z : Xc → VH → Prop} {p : Nat} {h : VH} {rho : Env} {i : Nat} (hp : Pool h p) (h2 : rho[2]? = some (some (.loc p))) (hi : i ≠ 2) (all : List D) :
    Aft (lcL (.nm i) tYs (eFn 1 m__law_kinds (aCons (eV 2) aNil)) [] all all rho h) (fun ys k => ys.length = all.length ∧ Tabs p k.length k ys ∧ Pool k p ∧ Frm [p] h k) Z := by
  refine lc_inv0 (fun xs ys k => ys.length + xs.length = all.length ∧ Tabs p k.length k ys ∧ Pool k p ∧ Frm [p] h k) ⟨by simp, (fun x hx => nomatch hx), hp, Frm.refl _ _⟩ (fun _ _ _ _ => rfl) ?_ ?_
  · rintro x xs ys k ⟨h1, ht, hpk, fk⟩
    refine ⟨_, rfl, ?_⟩
    have ev : ∀ h, eV 2 (rho.set i (some x)) h = .ok (.loc p) h := fun h => by
      unfold eV
      rw [List.getElem?_set_ne hi, h2]
    rw [afE]
    simp
    simp [ev]
    rw [afE]
    refine AF.use0 (kinds_spec hpk) fun d k1 ⟨n, kvs, e1, e2, e3, e4, hp1, f1⟩ => ?_
    subst e1
    have hpl := hpk.lt
    have hnl := (List.getElem?_eq_some_iff.mp e3).1
    refine ⟨by simp at h1 ⊢; omega, fun y hy => ?_, hp1, fk.trans f1⟩
    rcases List.mem_append.mp hy with hy | hy
    · exact (ht.frm f1 (fun m hm => by simp at hm; omega)).up f1.1 y hy
    · rw [List.mem_singleton.mp hy]
      exact ⟨n, kvs, rfl, by omega, hnl, e3, e4⟩
  · rintro ys k ⟨h1, h2, h3, h4⟩
    exact ⟨by simpa using h1, h2, h3, h4⟩
theorem Tabs.fn {p q : Nat} {k : VH} {ds : List D} (t : Tabs p q k ds) (h0 : 0 < ds.length) (h1 : ds.length ≤ 1000) {B : List Nat} (hB : ∀ n ∈ B, n ≤ p ∨ q ≤ n) : ∃ F, TbN k B ds F := by
  have : ∀ i : Nat, ∃ kv : List (Key × D), ∃ n, ds[i % ds.length]? = some (.loc n) ∧ n ∉ B ∧ k[n]? = some (.dK kv) ∧ TbOk kv := fun i => by
    have hi : i % ds.length < ds.length := Nat.mod_lt _ h0
    obtain ⟨n, kv, e, h2, h3, h4, h5⟩ := t _ (List.getElem_mem hi)
    refine ⟨kv, n, by rw [List.getElem?_eq_getElem hi, e], fun z => ?_, h4, h5⟩
    have := hB n z
    omega
  obtain ⟨F, hF⟩ := Classical.skolem.mp this
  exact ⟨F, h0, h1, hF⟩
/-! ### what is shown -/
theorem pr_at {k : VH} {n : Nat} {ds : List D} {ps : List PyData} (e : k[n]? = some (.lst ds)) (hp : omap (toPD k 15) ds = some ps) : toPR k (.loc n) = some (.list ps) := by
  simp only [toPR, e]
  rw [pd_loc e, hp]
  rfl
theorem sm_list : ∀ (ps : List PyData), (∀ p ∈ ps, Small 6000 p) → (PyData.list ps).showable = true ∧ (PyData.list ps).leavesShort 30 = true ∧ PyData.bulkAll ps ≤ ps.length * 6001
  | [], _ => by refine ⟨by decide +kernel, by decide +kernel, by decide +kernel⟩
  | p :: ps, h => by
    obtain ⟨a, b, c⟩ := sm_list ps fun x hx => h x (List.mem_cons_of_mem _ hx)
    obtain ⟨d, e, f⟩ := h p List.mem_cons_self
    refine ⟨?_, ?_, ?_⟩
    · simp [PyData.showable] at a d ⊢
      simp [PyData.showableAll]
      exact ⟨d, a⟩
    · simp [PyData.leavesShort] at b e ⊢
      simp [PyData.leavesShortAll]
      exact ⟨e, b⟩
    · simp only [PyData.bulkAll, List.length_cons]
      omega
theorem dues_sm {F : Nat → List (Key × D)} {U : Str} {n : Nat} (hF : ∀ i, TbOk (F i)) (hU : TxOk 50 U) (hn : n ≤ 60) : Small 400000 (.list ((List.range n).map fun i => dueP (xq F U i))) := by
  obtain ⟨a, b, c⟩ := sm_list ((List.range n).map fun i => dueP (xq F U i)) fun p hp => by
    obtain ⟨i, _, rfl⟩ := List.mem_map.mp hp
    exact nx_sm (fun c => ((hF i).kvf c).2) hU (by omega)
  refine ⟨a, b, ?_⟩
  have : (PyData.list ((List.range n).map fun i => dueP (xq F U i))).bulk = PyData.bulkAll ((List.range n).map fun i => dueP (xq F U i)) := rfl
  rw [this]
  simp at c ⊢
  omega
/-! ### the law -/
def PoI (ns : List Int) (i p w u n : Nat) (S : Str) (ds : List D) (F : Nat → List (Key × D)) (xs : List D) (r : Env) (k : VH) : Prop := ∃ o7 o8 o9, r = [some (.scr ns), some (.int (i : Nat)), some (.loc p), some (.str S), some (.lst ds), some (.loc w), some (.loc u), o7, o8, o9, none, none] ∧ (∀ x ∈ xs, ∃ Ts : List Str, x = .lst (Ts.map D.str) ∧ fl Ts = tx S ∧ Ts.length ≤ 2000) ∧ Pool k p ∧ (∃ S' g', k[w]? = some (moO S' (plq F S n) g')) ∧ k[u]? = some (.lst (dqL F S n)) ∧ TbN k [p, w, u] ds F ∧ p < w ∧ w < u
theorem law_true (ns : List Int) (hn : ns.length ≤ 63) : ∃ h', m_law [.scr ns] [] = .ok (.bl true) h' := by
  have : Aft (m_law [.scr ns] []) (fun d _ => d = .bl true) fun _ _ => False := by
    rw [afE, me_law, f_fnM]
    simp only [mb_law]
    simp
    refine AF.use0 long_spec fun d k ⟨ed, f0⟩ => ?_
    subst ed
    simp
    refine ⟨⟨by repeat' split <;> omega, by repeat' split <;> omega⟩, ?_⟩
    refine for_i (fun xs r k => (∀ x ∈ xs, ∃ i : Nat, i < 1000 ∧ x = .int i) ∧ ∃ o1 o2 o3 o4 o5 o6 o7 o8 o9, r = [some (.scr ns), o1, o2, o3, o4, o5, o6, o7, o8, o9, none, none]) ?_ (fun _ _ _ _ => rfl) ?_ ?_
    · refine ⟨fun x hx => ?_, _, _, _, _, _, _, _, _, _, rfl⟩
      simp at hx
      obtain ⟨i, hi, rfl⟩ := hx
      refine ⟨i, ?_, rfl⟩
      revert hi
      repeat' split
      all_goals omega
    · rintro x xs r k ⟨hx, o1, o2, o3, o4, o5, o6, o7, o8, o9, rfl⟩
      obtain ⟨i, hi, rfl⟩ := hx _ (List.mem_cons_self)
      have hx1 : ∀ y ∈ xs, ∃ i : Nat, i < 1000 ∧ y = .int i := fun y hy => hx y (List.mem_cons_of_mem _ hy)
      refine ⟨_, rfl, ?_⟩
      simp
      refine AF.use0 (pool_spec hi) fun d h1 ⟨a, b, e1, e2, b0, b1⟩ => ?_
      subst e1 e2
      have hp : Pool (k ++ [.lst [.int a, .int b]]) k.length := ⟨a, b, by simp, b0, b1⟩
      simp
      generalize k ++ [O.lst [.int a, .int b]] = h1 at hp
      generalize k.length = p at hp
      refine AF.use0 (text_spec (n := 50) hp (by omega)) fun d h2 ⟨S, ed, hS, hp2, f2⟩ => ?_
      subst ed
      have hSl := hS.1
      simp
      refine AF.use0 (take_spec hp2 (by decide) (by decide)) fun r h3 ⟨c, ec, c0, c1, hp3, f3⟩ => ?_
      subst ec
      simp
      refine ⟨by omega, by omega, ?_⟩
      refine AF.use0 (tabs_lc hp3 rfl (by decide) _) fun ds h4 ⟨hdl, ht, hp4, f4⟩ => ?_
      simp at hdl
      have hpl := hp4.lt
      have i1 := init_eq (h := h4 ++ [.ins "Mouth" []]) (q := h4.length) (S := S) (g := false) (by simp)
      have es1 : (h4 ++ [O.ins "Mouth" []]).set h4.length (moO S 0 false) = h4 ++ [moO S 0 false] := by simp
      rw [es1] at i1
      simp [i1]
      obtain ⟨hf, hhf⟩ : ∃ hf, hf = h4 ++ [moO S 0 false, .lst []] := ⟨_, rfl⟩
      rw [← hhf]
      have ff : Frm [] h4 hf := by rw [hhf]; exact (Frm.refl _ _).add
      have hfl : hf.length = h4.length + 2 := by rw [hhf]; simp
      have w0 : MoW hf h4.length (h4.length + 1) S 0 := ⟨S, false, [], by rw [hhf]; simp, by rw [hhf]; simp, by simp [fl], fun _ => rfl, Nat.zero_le _, by simp⟩
      obtain ⟨F, tb⟩ := (ht.frm ff (by simp)).fn (by omega) (by omega) (B := [h4.length, h4.length + 1, p, h4.length + 2]) (fun n hn => by simp at hn; omega)
      have tb1 : TbN hf [h4.length, h4.length + 1] ds F := ⟨tb.pos, tb.le, fun i => by
        obtain ⟨n, a1, a2, a3⟩ := tb.at_ i
        exact ⟨n, a1, fun z => a2 (by simp at z ⊢; omega), a3⟩⟩
      have hTb : ∀ i, TbOk (F i) := fun i => by
        obtain ⟨_, _, _, _, h⟩ := tb.at_ i
        exact h
      have rs := read_spec (Z := fun _ _ => False) (e := false) w0 (Nat.ne_of_lt (Nat.lt_succ_self _)) tb1 (by omega)
      refine AF.use0 rs fun d k1 hd => ?_
      rw [s_nx]
      obtain ⟨n, fin1, ed, e1, w1, f1, hn1⟩ := hd
      subst ed
      have hp5 := (hp4.frm ff (by simp)).frm f1 (by simp; omega)
      have tbk := tb.frm f1 (by simp)
      have m1 : ∃ S' g', k1[h4.length]? = some (moO S' (plq F S n) g') := by
        obtain ⟨S', g', Ts', w1⟩ := w1
        exact ⟨S', g', w1.mo⟩
      clear w1 w0 rs tb1 tb i1 es1
      have tbk : TbN k1 [p, h4.length, hf.length] ds F := ⟨tbk.pos, tbk.le, fun i => by
        obtain ⟨n, a1, a2, a3⟩ := tbk.at_ i
        exact ⟨n, a1, fun z => a2 (by rw [hfl] at z; simp at z ⊢; omega), a3⟩⟩
      have hpw : p < h4.length := hpl
      have hwu : h4.length < hf.length := by omega
      generalize hf.length = u at *
      generalize h4.length = w at *
      clear hhf ff hp4 ht f4 hp3 f3 hp2 f2
      have esg : S.cps.toList.map (fun c => D.str (chr1 c)) = (tx S).map (fun c => D.str (chr1 c)) := rfl
      simp [wipeE]
      refine ⟨by show (S.cps.size : Nat) ≤ 16777216; have := hSl; unfold tx at this; simp at this; omega, ?_⟩
      rw [sg_lc (by simp)]
      simp
      refine AF.use0 (cut_spec hp5 (by omega)) fun d k2 hd => ?_
      obtain ⟨T1, ed, g1, g2, hp6, f6⟩ := hd
      subst ed
      simp
      refine AF.use0 (cut_spec hp6 (by omega)) fun d k3 hd => ?_
      obtain ⟨T2, ed, g3, g4, hp7, f7⟩ := hd
      subst ed
      have f67 := f6.trans f7
      have m3 : ∃ S' g', k3[w]? = some (moO S' (plq F S n) g') := by
        obtain ⟨S', g', m1⟩ := m1
        exact ⟨S', g', f67.get m1 (by simp; omega)⟩
      have e3 := f67.get e1 (by simp; omega)
      have tb3 := tbk.frm f67 (by simp)
      clear m1 e1 tbk hp5 hp6 f6 f7 f67
      simp
      refine for_i (PoI ns i p w u n S ds F) ⟨_, _, _, rfl, fun x hx => ?_, hp7, m3, e3, tb3, hpw, hwu⟩ (fun _ _ _ _ => rfl) ?_ ?_
      · simp at hx
        rcases hx with rfl | rfl | rfl
        · refine ⟨(tx S).map chr1, ?_, fl_sg _, by simp; omega⟩
          rw [List.map_map]
          rfl
        · exact ⟨T1, rfl, g1, g2⟩
        · exact ⟨T2, rfl, g3, g4⟩
      · rintro x xs r k ⟨o7, o8, o9, rfl, hxs, hpk, ⟨S', g', mk⟩, ek, tbk, _, _⟩
        obtain ⟨Ts, rfl, hfl2, hTl⟩ := hxs x List.mem_cons_self
        have hxs1 := fun y hy => hxs y (List.mem_cons_of_mem _ hy)
        refine ⟨_, rfl, ?_⟩
        simp
        have i2 := init_eq (h := k ++ [.ins "Mouth" []]) (q := k.length) (S := Str.ofString "") (g := true) (by simp)
        have es2 : (k ++ [O.ins "Mouth" []]).set k.length (moO (Str.ofString "") 0 true) = k ++ [moO (Str.ofString "") 0 true] := by simp
        rw [es2] at i2
        simp [i2]
        obtain ⟨hg, hhg⟩ : ∃ hg, hg = k ++ [moO (Str.ofString "") 0 true, O.lst (Ts.map D.str)] := ⟨_, rfl⟩
        rw [← hhg]
        have fg : Frm [] k hg := by rw [hhg]; exact (Frm.refl _ _).add
        have hgl : hg.length = k.length + 2 := by rw [hhg]; simp
        have hul := (List.getElem?_eq_some_iff.mp ek).1
        have a1 : hg[k.length]? = some (moO (Str.ofString "") 0 true) := by rw [hhg]; simp
        have a2 : hg[k.length + 1]? = some (.lst (Ts.map D.str)) := by rw [hhg]; simp
        have hpg := hpk.frm fg (by simp)
        have mg := fg.get mk (by simp)
        have eg := fg.get ek (by simp)
        have tbg := ((tbk.more (Nat.le_succ k.length)).more (Nat.le_refl k.length)).frm fg (by simp)
        clear hhg es2 i2 mk ek tbk hpk
        refine AF.use0 (take_spec hpg (by decide) (by decide)) fun r k4 hd => ?_
        obtain ⟨c, ec, c0, c1, hp8, f8⟩ := hd
        subst ec
        have b1 := f8.get a1 (by simp; omega)
        have b2 := f8.get a2 (by simp; omega)
        have mg := f8.get mg (by simp; omega)
        have eg := f8.get eg (by simp; omega)
        have tbg := tbg.frm f8 (by simp)
        have l4 := f8.1
        have w2 : MoW k4 k.length (k.length + 1) S 0 := ⟨Str.ofString "", true, Ts, b1, b2, by rw [hfl2]; rfl, (fun z => nomatch z), Nat.zero_le _, hTl⟩
        have tb4 : TbN k4 [k.length, k.length + 1] ds F := ⟨tbg.pos, tbg.le, fun i => by
          obtain ⟨n, x1, x2, x3⟩ := tbg.at_ i
          exact ⟨n, x1, fun z => x2 (by simp at z ⊢; omega), x3⟩⟩
        simp
        have rs2 := read_spec (Z := fun _ _ => False) (e := decide (c = 0)) w2 (Nat.ne_of_lt (Nat.lt_succ_self _)) tb4 (by omega)
        refine AF.use0 rs2 fun d k5 hd => ?_
        rw [s_nx]
        obtain ⟨n2, fin2, ed, e5, ⟨S5, g5, Ts5, w5⟩, f5, hn5⟩ := hd
        subst ed
        cases fin2.un fin1
        have mg := f5.get mg (by simp; omega)
        have eg := f5.get eg (by simp; omega)
        have hp9 := hp8.frm f5 (by simp; omega)
        have tb5 := tbg.frm f5 (by simp)
        have hsm := (dues_sm (n := n) hTb hS (by omega)).ok (by omega)
        have q1 : toPR k5 (.loc k4.length) = some (.list ((List.range n).map fun i => dueP (xq F S i))) := pr_at e5 dqL_pd
        have q2 : toPR k5 (.loc u) = some (.list ((List.range n).map fun i => dueP (xq F S i))) := pr_at eg dqL_pd
        have hpw5 := w5.le
        have hcut : cutS S5 none (some ((plq F S n : Nat) : Int)) = cutS S none (some ((plq F S n : Nat) : Int)) := by
          have hh : plq F S n ≤ (tx S).length := plq_le n
          have l1 : S5.length = (tx S5).length := len_s
          have l2 : S.length = (tx S).length := len_s
          refine ex_str ?_
          unfold cutS
          rw [HT.sIx_nat, HT.sIx_nat, l1, l2, Nat.min_eq_left hpw5, Nat.min_eq_left hh]
          show ((tx S5).drop 0).take (plq F S n - 0) = ((tx S).drop 0).take (plq F S n - 0)
          rw [w5.tx]
          simp only [List.drop_zero]
          rw [List.take_append_of_le_length (by omega)]
        simp [q1, q2, hsm, str_beq, w5.mo, text_eq w5.mo, place_eq w5.mo, mg, place_eq mg, hcut]
        exact ⟨_, _, _, rfl, hxs1, hp9, ⟨S', g', mg⟩, eg, ⟨tb5.pos, tb5.le, fun i => by
          obtain ⟨n, x1, x2, x3⟩ := tb5.at_ i
          exact ⟨n, x1, fun z => x2 (by simp at z ⊢; omega), x3⟩⟩, hpw, hwu⟩
      · rintro r k ⟨o7, o8, o9, rfl, _⟩
        simp
        exact hx1
    · rintro r k ⟨hx, o1, o2, o3, o4, o5, o6, o7, o8, o9, rfl⟩
      simp
  obtain ⟨x, k, e, rfl⟩ := this.run
  exact ⟨k, e⟩
end Mv

namespace Mv
open PySem L2

def topS (i : Nat) : Stmt := PySem.Challenge.pw_mouthrules_k09_whole_in_whatever_portion.main.body.getD i (.Pass ⟨0, 0, 0, 0⟩)
structure Tx (K : PySem.W.Frag) (mg : Str → Option Value) : Prop where
  b_len : mg "len" = none
  b_max : mg "max" = none
  b_range : mg "range" = none
  b_min : mg "min" = none
  b_sorted : mg "sorted" = none
  b_zip : mg "zip" = none
  b_list : mg "list" = none
  b_repr : mg "repr" = none
  c_LINE : Cst K mg "LINE" k_LINE
  c_LONGEST : Cst K mg "LONGEST" k_LONGEST
  c_BLANK : Cst K mg "BLANK" k_BLANK
  c_MORE : Cst K mg "MORE" k_MORE
  f_Mouth_all_signs : ClF K "all_signs" "Mouth"
  f_Mouth_at : ClF K "at" "Mouth"
  f_Mouth_may_grow : ClF K "may_grow" "Mouth"
  mt_Mouth_behind_all : Meth K (He.ga K "Mouth") "behind_all" (He.ma K (He.ga K "Mouth") "behind_all")
  mt_Mouth_behind_remark : Meth K (He.ga K "Mouth") "behind_remark" (He.ma K (He.ga K "Mouth") "behind_remark")
  mt_Mouth_ended : Meth K (He.ga K "Mouth") "ended" (He.ma K (He.ga K "Mouth") "ended")
  mt_Mouth_feed : Meth K (He.ga K "Mouth") "feed" (He.ma K (He.ga K "Mouth") "feed")
  mt_Mouth_following : Meth K (He.ga K "Mouth") "following" (He.ma K (He.ga K "Mouth") "following")
  mt_Mouth_has : Meth K (He.ga K "Mouth") "has" (He.ma K (He.ga K "Mouth") "has")
  mt_Mouth_kind_at : Meth K (He.ga K "Mouth") "kind_at" (He.ma K (He.ga K "Mouth") "kind_at")
  mt_Mouth_named : Meth K (He.ga K "Mouth") "named" (He.ma K (He.ga K "Mouth") "named")
  mt_Mouth_passed : Meth K (He.ga K "Mouth") "passed" (He.ma K (He.ga K "Mouth") "passed")
  mt_Mouth_piece_at : Meth K (He.ga K "Mouth") "piece_at" (He.ma K (He.ga K "Mouth") "piece_at")
  mt_Mouth_place : Meth K (He.ga K "Mouth") "place" (He.ma K (He.ga K "Mouth") "place")
  mt_Mouth_shut : Meth K (He.ga K "Mouth") "shut" (He.ma K (He.ga K "Mouth") "shut")
  mt_Mouth_text : Meth K (He.ga K "Mouth") "text" (He.ma K (He.ga K "Mouth") "text")
  cl_Mouth : Cls K (He.ga K "Mouth")
  mk_Mouth : Mk K (He.ga K "Mouth") (He.ma K (He.ga K "Mouth") "__init__")
  gl_Mouth : mg "Mouth" = some (.ref (He.ga K "Mouth"))
  xg_Ends : mg "Ends" = some (.ref (He.ga K "Ends"))
  xg_Shut : mg "Shut" = some (.ref (He.ga K "Shut"))
  ex_Ends : ExOk K (.ref (He.ga K "Ends")) [("Ends", true), ("Shut", false)]
  x0_Ends : HasX0 K mg "Ends"
  x0_Shut : HasX0 K mg "Shut"
section
variable {P : Program} {w : World} {K : PySem.W.Frag} {mg : Str → Option Value} {base : Heap}
abbrev s_kind_here : Stmt := topS 7
abbrev N_kind_here : List Str := ["kinds", "sign"]
theorem sc_kind_here : FnScope N_kind_here ["kinds", "sign"] (defScope s_kind_here) := ⟨rfl, rfl, rfl, by decide +kernel, rfl, by decide +kernel, by decide +kernel⟩
theorem fg_kind_here  (T : Tx K mg)  {fd : FuncData} (F : FunD K "kind_here" "kind_here" (defArgs s_kind_here) (defBody s_kind_here) (defScope s_kind_here) [] [] (He.ga K "kind_here") fd) : FnG P w K mg base 1 (He.ga K "kind_here") fd ["kinds", "sign"] m_kind_here := by
  rw [me_kind_here]
  refine fn_q F sc_kind_here fun cdv A outer s H E B => ?_
  have nd := sc_kind_here.nd
  exact (sb_one (ss_ret (se_bm PySem.F.plainAttrs_dict PySem.F.slot_dict_get PySem.F.type_dict_get ty_dict (m_dg B.u) (se_var (pv 0)) (sa_cons (se_var (pv 1)) (sa_cons (se_str (sok (by decide +kernel))) sa_nil)))))
theorem ok_kind_here (T : Tx K mg)  {fd : FuncData} (F : FunD K "kind_here" "kind_here" (defArgs s_kind_here) (defBody s_kind_here) (defScope s_kind_here) [] [] (He.ga K "kind_here") fd) (hm : mg "kind_here" = some (.ref (He.ga K "kind_here"))) : HasFn P w K mg base 1 "kind_here" ["kinds", "sign"] m_kind_here := ⟨fd, fg_kind_here T  F, hm, F.kp, (F.bindsN (ps := ["kinds", "sign"]) (fun _ _ _ _ _ _ us hl => match us, hl with | [_, _], _ => rfl))⟩
abbrev s__law_pool : Stmt := topS 13
abbrev N__law_pool : List Str := ["_law_script", "_law_k", "_law_cell", "_law_number", "_law_seed"]
theorem sc__law_pool : FnScope N__law_pool ["_law_script", "_law_k"] (defScope s__law_pool) := ⟨rfl, rfl, rfl, by decide +kernel, rfl, by decide +kernel, by decide +kernel⟩
theorem fg__law_pool  (T : Tx K mg)  {fd : FuncData} (F : FunD K "_law_pool" "_law_pool" (defArgs s__law_pool) (defBody s__law_pool) (defScope s__law_pool) [] [] (He.ga K "_law_pool") fd) : FnG P w K mg base 1 (He.ga K "_law_pool") fd ["_law_script", "_law_k"] m__law_pool := by
  rw [me__law_pool]
  refine fn_q F sc__law_pool fun cdv A outer s H E B => ?_
  have nd := sc__law_pool.nd
  exact (sb_cons (ss_set (i := 2) nd rfl (Or.inl rfl) se_int)
      (sb_cons (ss_if (st_cmp m_lt (se_var (pv 1)) (se_callB m_len (by rfl) T.b_len (by decide +kernel) (sa_cons (se_var (pv 0)) sa_nil)) (nomark _)) (sb_one (ss_set (i := 2) nd rfl (Or.inl rfl) (se_ix m_ix (se_var (pv 0)) (se_var (pv 1)) (fun _ _ => rfl)))) sb_nil)
      (sb_cons (ss_set (i := 3) nd rfl (Or.inl rfl) (se_callB (m_max B.c) (by rfl) T.b_max (by decide +kernel) (sa_cons (se_var (pv 2)) (sa_cons (se_op m_sub (se_un m_neg se_int) (se_var (pv 2))) sa_nil))))
      (sb_cons (ss_set (i := 4) nd rfl (Or.inl rfl) (se_op m_mod (se_op m_add (se_op m_add (se_op m_mul (se_op m_mod (se_var (pv 3)) se_int) se_int) (se_op m_mul se_int (se_var (pv 1)))) se_int) se_int))
      (sb_cons (ss_if (st_cmp m_lt (se_var (pv 3)) (se_op m_pow se_int se_int) (nomark _)) (sb_one (ss_set (i := 3) nd rfl (Or.inl rfl) se_int)) sb_nil)
      (sb_one (ss_ret (se_box (sl_disp (sa_cons (se_var (pv 3)) (sa_cons (se_var (pv 4)) sa_nil)))))))))))
theorem ok__law_pool (T : Tx K mg)  {fd : FuncData} (F : FunD K "_law_pool" "_law_pool" (defArgs s__law_pool) (defBody s__law_pool) (defScope s__law_pool) [] [] (He.ga K "_law_pool") fd) (hm : mg "_law_pool" = some (.ref (He.ga K "_law_pool"))) : HasFn P w K mg base 1 "_law_pool" ["_law_script", "_law_k"] m__law_pool := ⟨fd, fg__law_pool T  F, hm, F.kp, (F.bindsN (ps := ["_law_script", "_law_k"]) (fun _ _ _ _ _ _ us hl => match us, hl with | [_, _], _ => rfl))⟩
abbrev s__law_take : Stmt := topS 14
abbrev N__law_take : List Str := ["_law_pool_here", "_law_many", "_law_digit"]
theorem sc__law_take : FnScope N__law_take ["_law_pool_here", "_law_many"] (defScope s__law_take) := ⟨rfl, rfl, rfl, by decide +kernel, rfl, by decide +kernel, by decide +kernel⟩
theorem fg__law_take  (T : Tx K mg)  {fd : FuncData} (F : FunD K "_law_take" "_law_take" (defArgs s__law_take) (defBody s__law_take) (defScope s__law_take) [] [] (He.ga K "_law_take") fd) : FnG P w K mg base 1 (He.ga K "_law_take") fd ["_law_pool_here", "_law_many"] m__law_take := by
  rw [me__law_take]
  refine fn_q F sc__law_take fun cdv A outer s H E B => ?_
  have nd := sc__law_take.nd
  exact (sb_cons (ss_if (st_cmp m_gt (se_ix m_ix (se_var (pv 0)) se_int (fun _ _ => rfl)) se_int (nomark _)) (sb_cons (ss_set (i := 2) nd rfl (Or.inl rfl) (se_op m_mod (se_ix m_ix (se_var (pv 0)) se_int (fun _ _ => rfl)) (se_var (pv 1))))
      (sb_cons (ss_sub (se_var (pv 0)) se_int (se_op m_fdiv (se_ix m_ix (se_var (pv 0)) se_int (fun _ _ => rfl)) (se_var (pv 1))))
      (sb_one (ss_ret (se_var (pv 2)))))) sb_nil)
      (sb_cons (ss_sub (se_var (pv 0)) se_int (se_op m_mod (se_op m_add (se_op m_mul (se_ix m_ix (se_var (pv 0)) se_int (fun _ _ => rfl)) se_int) se_int) se_int))
      (sb_one (ss_ret (se_op m_mod (se_op m_fdiv (se_op m_mod (se_op m_mul (se_ix m_ix (se_var (pv 0)) se_int (fun _ _ => rfl)) (se_ix m_ix (se_var (pv 0)) se_int (fun _ _ => rfl))) se_int) se_int) (se_var (pv 1)))))))
theorem ok__law_take (T : Tx K mg)  {fd : FuncData} (F : FunD K "_law_take" "_law_take" (defArgs s__law_take) (defBody s__law_take) (defScope s__law_take) [] [] (He.ga K "_law_take") fd) (hm : mg "_law_take" = some (.ref (He.ga K "_law_take"))) : HasFn P w K mg base 1 "_law_take" ["_law_pool_here", "_law_many"] m__law_take := ⟨fd, fg__law_take T  F, hm, F.kp, (F.bindsN (ps := ["_law_pool_here", "_law_many"]) (fun _ _ _ _ _ _ us hl => match us, hl with | [_, _], _ => rfl))⟩
abbrev s__law_kinds : Stmt := topS 15
abbrev N__law_kinds : List Str := ["_law_pool_here", "_law_found", "_law_words", "_law_turn"]
theorem sc__law_kinds : FnScope N__law_kinds ["_law_pool_here"] (defScope s__law_kinds) := ⟨rfl, rfl, rfl, by decide +kernel, rfl, by decide +kernel, by decide +kernel⟩
theorem fg__law_kinds  (T : Tx K mg) (F__law_take : HasFn P w K mg base 1 "_law_take" ["_law_pool_here", "_law_many"] m__law_take) {fd : FuncData} (F : FunD K "_law_kinds" "_law_kinds" (defArgs s__law_kinds) (defBody s__law_kinds) (defScope s__law_kinds) [] [] (He.ga K "_law_kinds") fd) : FnG P w K mg base 2 (He.ga K "_law_kinds") fd ["_law_pool_here"] m__law_kinds := by
  rw [me__law_kinds]
  refine fn_q F sc__law_kinds fun cdv A outer s H E B => ?_
  have nd := sc__law_kinds.nd
  exact (sb_cons (ss_set (i := 1) nd rfl (Or.inl rfl) (se_disp (sp_cons (se_str (sok (by decide +kernel))) (se_str (sok (by decide +kernel))) (sp_cons (se_str (sok (by decide +kernel))) (se_str (sok (by decide +kernel))) (sp_cons (se_str (sok (by decide +kernel))) (se_str (sok (by decide +kernel))) (sp_cons (se_str (sok (by decide +kernel))) (se_str (sok (by decide +kernel))) (sp_cons (se_str (sok (by decide +kernel))) (se_str (sok (by decide +kernel))) (sp_cons (se_str (sok (by decide +kernel))) (se_str (sok (by decide +kernel))) (sp_cons (se_str (sok (by decide +kernel))) (se_str (sok (by decide +kernel))) sp_nil))))))) rfl rfl (by simp) (by decide)))
      (sb_cons (ss_expr (se_bm PySem.F.plainAttrs_dict PySem.F.slot_dict_update PySem.F.type_dict_update ty_dict m_du (se_var (pv 1)) (sa_cons (se_disp (sp_cons (se_str (sok (by decide +kernel))) (se_str (sok (by decide +kernel))) (sp_cons (se_str (sok (by decide +kernel))) (se_str (sok (by decide +kernel))) (sp_cons (se_str (sok (by decide +kernel))) (se_str (sok (by decide +kernel))) (sp_cons (se_str (sok (by decide +kernel))) (se_str (sok (by decide +kernel))) (sp_cons (se_str (sok (by decide +kernel))) (se_str (sok (by decide +kernel))) (sp_cons (se_str (sok (by decide +kernel))) (se_str (sok (by decide +kernel))) sp_nil)))))) rfl rfl (by simp) (by decide)) sa_nil)))
      (sb_cons (ss_set (i := 2) nd rfl (Or.inl rfl) (se_pure (sl_disp (sa_cons (se_str (sok (by decide +kernel))) (sa_cons (se_str (sok (by decide +kernel))) (sa_cons (se_str (sok (by decide +kernel))) (sa_cons (se_str (sok (by decide +kernel))) (sa_cons (se_str (sok (by decide +kernel))) (sa_cons (se_str (sok (by decide +kernel))) (sa_cons (se_str (sok (by decide +kernel))) (sa_cons (se_str (sok (by decide +kernel))) (sa_cons (se_str (sok (by decide +kernel))) (sa_cons (se_str (sok (by decide +kernel))) sa_nil)))))))))))))
      (sb_cons (ss_for (t := (.nm 3)) (passes_of rfl) B.c (si_range1 (by rfl) T.b_range (sa_cons (se_fn B F__law_take (by decide) (by rfl) (sa_cons (se_var (pv 0)) (sa_cons se_int sa_nil))) sa_nil)) (pg_name (i := 3) nd rfl (by first | exact Or.inl rfl | exact Or.inr rfl)) (sb_one (ss_dput B.u (se_var (pv 1)) (se_ix m_ix (se_str (sok (by decide +kernel))) (se_fn B F__law_take (by decide) (by rfl) (sa_cons (se_var (pv 0)) (sa_cons se_int sa_nil))) (fun _ _ => rfl)) (se_ix m_ix (se_var (pv 2)) (se_fn B F__law_take (by decide) (by rfl) (sa_cons (se_var (pv 0)) (sa_cons se_int sa_nil))) (fun _ _ => rfl)))))
      (sb_one (ss_ret (se_var (pv 1))))))))
theorem ok__law_kinds (T : Tx K mg) (F__law_take : HasFn P w K mg base 1 "_law_take" ["_law_pool_here", "_law_many"] m__law_take) {fd : FuncData} (F : FunD K "_law_kinds" "_law_kinds" (defArgs s__law_kinds) (defBody s__law_kinds) (defScope s__law_kinds) [] [] (He.ga K "_law_kinds") fd) (hm : mg "_law_kinds" = some (.ref (He.ga K "_law_kinds"))) : HasFn P w K mg base 2 "_law_kinds" ["_law_pool_here"] m__law_kinds := ⟨fd, fg__law_kinds T F__law_take F, hm, F.kp, (F.bindsN (ps := ["_law_pool_here"]) (fun _ _ _ _ _ _ us hl => match us, hl with | [_], _ => rfl))⟩
abbrev s__law_text : Stmt := topS 16
abbrev N__law_text : List Str := ["_law_pool_here", "_law_most", "_law_signs", "_law_turn"]
theorem sc__law_text : FnScope N__law_text ["_law_pool_here", "_law_most"] (defScope s__law_text) := ⟨rfl, rfl, rfl, by decide +kernel, rfl, by decide +kernel, by decide +kernel⟩
theorem fg__law_text  (T : Tx K mg) (F__law_take : HasFn P w K mg base 1 "_law_take" ["_law_pool_here", "_law_many"] m__law_take) {fd : FuncData} (F : FunD K "_law_text" "_law_text" (defArgs s__law_text) (defBody s__law_text) (defScope s__law_text) [] [] (He.ga K "_law_text") fd) : FnG P w K mg base 2 (He.ga K "_law_text") fd ["_law_pool_here", "_law_most"] m__law_text := by
  rw [me__law_text]
  refine fn_q F sc__law_text fun cdv A outer s H E B => ?_
  have nd := sc__law_text.nd
  exact (sb_cons (ss_set (i := 2) nd rfl (Or.inr rfl) (se_str (sok (by decide +kernel))))
      (sb_one (ss_ret (se_bm PySem.F.plainAttrs_str PySem.F.slot_str_join PySem.F.type_str_join ty_strS m_join (se_str (sok (by decide +kernel))) (sa_cons (se_lc B.c nd (t := (.nm 3)) (si_range1 (by rfl) T.b_range (sa_cons (se_fn B F__law_take (by decide) (by rfl) (sa_cons (se_var (pv 0)) (sa_cons (se_op m_add (se_var (pv 1)) se_int) sa_nil))) sa_nil)) (blkOk_by (own := [("_law_turn", 3)]) (N := N__law_text) (sc := defScope s__law_text) (by decide +kernel)) (fun s1 H1 C1 cl1 fp1 => (pg_name (i := 3) nd rfl (by first | exact Or.inl rfl | exact Or.inr rfl))) (fun s1 H1 C1 cl1 fp1 => sts_nil) (fun s1 H1 C1 cl1 fp1 => (se_ix m_ix (se_var (pv 2)) (se_fn (B.blk s1 H1 _ _ fp1) F__law_take (by decide) (by rfl) (sa_cons (se_var (pv 0)) (sa_cons (se_callB m_len (by rfl) T.b_len (by decide +kernel) (sa_cons (se_var (pv 2)) sa_nil)) sa_nil))) (fun _ _ => rfl))) (by decide)) sa_nil)))))
theorem ok__law_text (T : Tx K mg) (F__law_take : HasFn P w K mg base 1 "_law_take" ["_law_pool_here", "_law_many"] m__law_take) {fd : FuncData} (F : FunD K "_law_text" "_law_text" (defArgs s__law_text) (defBody s__law_text) (defScope s__law_text) [] [] (He.ga K "_law_text") fd) (hm : mg "_law_text" = some (.ref (He.ga K "_law_text"))) : HasFn P w K mg base 2 "_law_text" ["_law_pool_here", "_law_most"] m__law_text := ⟨fd, fg__law_text T F__law_take F, hm, F.kp, (F.bindsN (ps := ["_law_pool_here", "_law_most"]) (fun _ _ _ _ _ _ us hl => match us, hl with | [_, _], _ => rfl))⟩
abbrev s_Mouth_has : Stmt := inClass (topS 11) 7
abbrev N_Mouth_has : List Str := ["self", "place"]
theorem sc_Mouth_has : FnScope N_Mouth_has ["self", "place"] (defScope s_Mouth_has) := ⟨rfl, rfl, rfl, by decide +kernel, rfl, by decide +kernel, by decide +kernel⟩
def sh_Mouth_has : List Shp := [(2, [], [.pos 0, .pos 1])]
theorem fg_Mouth_has  (T : Tx K mg)  {fd : FuncData} (F : FunD K "has" "Mouth.has" (defArgs s_Mouth_has) (defBody s_Mouth_has) (defScope s_Mouth_has) [] [] (He.ma K (He.ga K "Mouth") "has") fd) : FnG P w K mg base 1 (He.ma K (He.ga K "Mouth") "has") fd ["self", "place"] m_Mouth_has := by
  rw [me_Mouth_has]
  refine fn_q F sc_Mouth_has fun cdv A outer s H E B => ?_
  have nd := sc_Mouth_has.nd
  exact (sb_one (ss_ret (se_cmp m_lt (se_var (pv 1)) (se_callB m_len (by rfl) T.b_len (by decide +kernel) (sa_cons (se_fld (clf1 T.f_Mouth_all_signs) (se_var (pv 0))) sa_nil)) (nomark _))))
theorem shp_Mouth_has {fd : FuncData} (F : FunD K "has" "Mouth.has" (defArgs s_Mouth_has) (defBody s_Mouth_has) (defScope s_Mouth_has) [] [] (He.ma K (He.ga K "Mouth") "has") fd) : ShpOk K fd ["self", "place"] sh_Mouth_has := (shp_cons (bg_all (F.bindsN (ps := ["self", "place"]) (fun _ _ _ _ _ _ us hl => match us, hl with | [_, _], _ => rfl))) rfl shp_nil)
abbrev s_Mouth_kind_at : Stmt := inClass (topS 11) 8
abbrev N_Mouth_kind_at : List Str := ["self", "kinds", "place"]
theorem sc_Mouth_kind_at : FnScope N_Mouth_kind_at ["self", "kinds", "place"] (defScope s_Mouth_kind_at) := ⟨rfl, rfl, rfl, by decide +kernel, rfl, by decide +kernel, by decide +kernel⟩
def sh_Mouth_kind_at : List Shp := [(3, [], [.pos 0, .pos 1, .pos 2])]
theorem fg_Mouth_kind_at  (T : Tx K mg) (F_kind_here : HasFn P w K mg base 1 "kind_here" ["kinds", "sign"] m_kind_here) (F_Mouth_has : HasM P w K mg base 1 "Mouth" "has" ["self", "place"] m_Mouth_has sh_Mouth_has) {fd : FuncData} (F : FunD K "kind_at" "Mouth.kind_at" (defArgs s_Mouth_kind_at) (defBody s_Mouth_kind_at) (defScope s_Mouth_kind_at) [] [] (He.ma K (He.ga K "Mouth") "kind_at") fd) : FnG P w K mg base 2 (He.ma K (He.ga K "Mouth") "kind_at") fd ["self", "kinds", "place"] m_Mouth_kind_at := by
  rw [me_Mouth_kind_at]
  refine fn_q F sc_Mouth_kind_at fun cdv A outer s H E B => ?_
  have nd := sc_Mouth_kind_at.nd
  exact (sb_one (ss_ret (se_if (st_val (se_m 0 B F_Mouth_has (by decide) rfl (se_var (pv 0)) (ak_a (sa_cons (se_var (pv 2)) sa_nil)))) (se_fn B F_kind_here (by decide) (by rfl) (sa_cons (se_var (pv 1)) (sa_cons (se_ix m_ix (se_fld (clf1 T.f_Mouth_all_signs) (se_var (pv 0))) (se_var (pv 2)) (fun _ _ => rfl)) sa_nil))) (se_str (sok (by decide +kernel))))))
theorem shp_Mouth_kind_at {fd : FuncData} (F : FunD K "kind_at" "Mouth.kind_at" (defArgs s_Mouth_kind_at) (defBody s_Mouth_kind_at) (defScope s_Mouth_kind_at) [] [] (He.ma K (He.ga K "Mouth") "kind_at") fd) : ShpOk K fd ["self", "kinds", "place"] sh_Mouth_kind_at := (shp_cons (bg_all (F.bindsN (ps := ["self", "kinds", "place"]) (fun _ _ _ _ _ _ us hl => match us, hl with | [_, _, _], _ => rfl))) rfl shp_nil)
abbrev s_Mouth_behind_remark : Stmt := inClass (topS 11) 10
abbrev N_Mouth_behind_remark : List Str := ["self", "place", "found"]
theorem sc_Mouth_behind_remark : FnScope N_Mouth_behind_remark ["self", "place"] (defScope s_Mouth_behind_remark) := ⟨rfl, rfl, rfl, by decide +kernel, rfl, by decide +kernel, by decide +kernel⟩
def sh_Mouth_behind_remark : List Shp := [(2, [], [.pos 0, .pos 1])]
theorem fg_Mouth_behind_remark  (T : Tx K mg)  {fd : FuncData} (F : FunD K "behind_remark" "Mouth.behind_remark" (defArgs s_Mouth_behind_remark) (defBody s_Mouth_behind_remark) (defScope s_Mouth_behind_remark) [] [] (He.ma K (He.ga K "Mouth") "behind_remark") fd) : FnG P w K mg base 1 (He.ma K (He.ga K "Mouth") "behind_remark") fd ["self", "place"] m_Mouth_behind_remark := by
  rw [me_Mouth_behind_remark]
  refine fn_q F sc_Mouth_behind_remark fun cdv A outer s H E B => ?_
  have nd := sc_Mouth_behind_remark.nd
  exact (sb_cons (ss_set (i := 2) nd rfl (Or.inl rfl) (se_bm PySem.F.plainAttrs_str PySem.F.slot_str_find PySem.F.type_str_find ty_strS m_find3 (se_fld (clf1 T.f_Mouth_all_signs) (se_var (pv 0))) (sa_cons (se_glob (by rfl) T.c_LINE) (sa_cons (se_var (pv 1)) sa_nil))))
      (sb_one (ss_ret (se_if (st_cmp m_lt (se_var (pv 2)) se_int (nomark _)) (se_callB m_len (by rfl) T.b_len (by decide +kernel) (sa_cons (se_fld (clf1 T.f_Mouth_all_signs) (se_var (pv 0))) sa_nil)) (se_op m_add (se_var (pv 2)) se_int)))))
theorem shp_Mouth_behind_remark {fd : FuncData} (F : FunD K "behind_remark" "Mouth.behind_remark" (defArgs s_Mouth_behind_remark) (defBody s_Mouth_behind_remark) (defScope s_Mouth_behind_remark) [] [] (He.ma K (He.ga K "Mouth") "behind_remark") fd) : ShpOk K fd ["self", "place"] sh_Mouth_behind_remark := (shp_cons (bg_all (F.bindsN (ps := ["self", "place"]) (fun _ _ _ _ _ _ us hl => match us, hl with | [_, _], _ => rfl))) rfl shp_nil)
abbrev s_Mouth_passed : Stmt := inClass (topS 11) 11
abbrev N_Mouth_passed : List Str := ["self", "kinds", "place"]
theorem sc_Mouth_passed : FnScope N_Mouth_passed ["self", "kinds"] (defScope s_Mouth_passed) := ⟨rfl, rfl, rfl, by decide +kernel, rfl, by decide +kernel, by decide +kernel⟩
def sh_Mouth_passed : List Shp := [(2, [], [.pos 0, .pos 1])]
theorem fg_Mouth_passed  (T : Tx K mg) (F_Mouth_kind_at : HasM P w K mg base 2 "Mouth" "kind_at" ["self", "kinds", "place"] m_Mouth_kind_at sh_Mouth_kind_at) (F_Mouth_behind_remark : HasM P w K mg base 1 "Mouth" "behind_remark" ["self", "place"] m_Mouth_behind_remark sh_Mouth_behind_remark) {fd : FuncData} (F : FunD K "passed" "Mouth.passed" (defArgs s_Mouth_passed) (defBody s_Mouth_passed) (defScope s_Mouth_passed) [] [] (He.ma K (He.ga K "Mouth") "passed") fd) : FnG P w K mg base 3 (He.ma K (He.ga K "Mouth") "passed") fd ["self", "kinds"] m_Mouth_passed := by
  rw [me_Mouth_passed]
  refine fn_q F sc_Mouth_passed fun cdv A outer s H E B => ?_
  have nd := sc_Mouth_passed.nd
  exact (sb_cons (ss_set (i := 2) nd rfl (Or.inl rfl) (se_fld (clf1 T.f_Mouth_at) (se_var (pv 0))))
      (sb_cons (ss_while FU (passes_of rfl) (st_cmp m_in (se_m 0 B F_Mouth_kind_at (by decide) rfl (se_var (pv 0)) (ak_a (sa_cons (se_var (pv 1)) (sa_cons (se_var (pv 2)) sa_nil)))) (se_tup (sa_cons (se_str (sok (by decide +kernel))) (sa_cons (se_str (sok (by decide +kernel))) sa_nil))) (by rfl)) (sb_one (ss_set (i := 2) nd rfl (Or.inl rfl) (se_if (st_cmp (m_eq B.u) (se_m 0 B F_Mouth_kind_at (by decide) rfl (se_var (pv 0)) (ak_a (sa_cons (se_var (pv 1)) (sa_cons (se_var (pv 2)) sa_nil)))) (se_str (sok (by decide +kernel))) (nomark _)) (se_op m_add (se_var (pv 2)) se_int) (se_m 0 B F_Mouth_behind_remark (by decide) rfl (se_var (pv 0)) (ak_a (sa_cons (se_var (pv 2)) sa_nil)))))))
      (sb_one (ss_ret (se_var (pv 2))))))
theorem shp_Mouth_passed {fd : FuncData} (F : FunD K "passed" "Mouth.passed" (defArgs s_Mouth_passed) (defBody s_Mouth_passed) (defScope s_Mouth_passed) [] [] (He.ma K (He.ga K "Mouth") "passed") fd) : ShpOk K fd ["self", "kinds"] sh_Mouth_passed := (shp_cons (bg_all (F.bindsN (ps := ["self", "kinds"]) (fun _ _ _ _ _ _ us hl => match us, hl with | [_, _], _ => rfl))) rfl shp_nil)
abbrev s_Mouth_behind_all : Stmt := inClass (topS 11) 9
abbrev N_Mouth_behind_all : List Str := ["self", "kinds", "kind", "place"]
theorem sc_Mouth_behind_all : FnScope N_Mouth_behind_all ["self", "kinds", "kind", "place"] (defScope s_Mouth_behind_all) := ⟨rfl, rfl, rfl, by decide +kernel, rfl, by decide +kernel, by decide +kernel⟩
def sh_Mouth_behind_all : List Shp := [(4, [], [.pos 0, .pos 1, .pos 2, .pos 3])]
theorem fg_Mouth_behind_all  (T : Tx K mg) (F_Mouth_kind_at : HasM P w K mg base 2 "Mouth" "kind_at" ["self", "kinds", "place"] m_Mouth_kind_at sh_Mouth_kind_at) {fd : FuncData} (F : FunD K "behind_all" "Mouth.behind_all" (defArgs s_Mouth_behind_all) (defBody s_Mouth_behind_all) (defScope s_Mouth_behind_all) [] [] (He.ma K (He.ga K "Mouth") "behind_all") fd) : FnG P w K mg base 3 (He.ma K (He.ga K "Mouth") "behind_all") fd ["self", "kinds", "kind", "place"] m_Mouth_behind_all := by
  rw [me_Mouth_behind_all]
  refine fn_q F sc_Mouth_behind_all fun cdv A outer s H E B => ?_
  have nd := sc_Mouth_behind_all.nd
  exact (sb_cons (ss_while FU (passes_of rfl) (st_cmp (m_eq B.u) (se_m 0 B F_Mouth_kind_at (by decide) rfl (se_var (pv 0)) (ak_a (sa_cons (se_var (pv 1)) (sa_cons (se_var (pv 3)) sa_nil)))) (se_var (pv 2)) (nomark _)) (sb_one (ss_aug (i := 3) nd rfl (Or.inl rfl) m_iadd se_int)))
      (sb_one (ss_ret (se_var (pv 3)))))
theorem shp_Mouth_behind_all {fd : FuncData} (F : FunD K "behind_all" "Mouth.behind_all" (defArgs s_Mouth_behind_all) (defBody s_Mouth_behind_all) (defScope s_Mouth_behind_all) [] [] (He.ma K (He.ga K "Mouth") "behind_all") fd) : ShpOk K fd ["self", "kinds", "kind", "place"] sh_Mouth_behind_all := (shp_cons (bg_all (F.bindsN (ps := ["self", "kinds", "kind", "place"]) (fun _ _ _ _ _ _ us hl => match us, hl with | [_, _, _, _], _ => rfl))) rfl shp_nil)
abbrev s_Mouth_named : Stmt := inClass (topS 11) 12
abbrev N_Mouth_named : List Str := ["self", "kinds", "place", "behind"]
theorem sc_Mouth_named : FnScope N_Mouth_named ["self", "kinds", "place"] (defScope s_Mouth_named) := ⟨rfl, rfl, rfl, by decide +kernel, rfl, by decide +kernel, by decide +kernel⟩
def sh_Mouth_named : List Shp := [(3, [], [.pos 0, .pos 1, .pos 2])]
theorem fg_Mouth_named  (T : Tx K mg) (F_Mouth_kind_at : HasM P w K mg base 2 "Mouth" "kind_at" ["self", "kinds", "place"] m_Mouth_kind_at sh_Mouth_kind_at) (F_Mouth_behind_all : HasM P w K mg base 3 "Mouth" "behind_all" ["self", "kinds", "kind", "place"] m_Mouth_behind_all sh_Mouth_behind_all) {fd : FuncData} (F : FunD K "named" "Mouth.named" (defArgs s_Mouth_named) (defBody s_Mouth_named) (defScope s_Mouth_named) [] [] (He.ma K (He.ga K "Mouth") "named") fd) : FnG P w K mg base 4 (He.ma K (He.ga K "Mouth") "named") fd ["self", "kinds", "place"] m_Mouth_named := by
  rw [me_Mouth_named]
  refine fn_q F sc_Mouth_named fun cdv A outer s H E B => ?_
  have nd := sc_Mouth_named.nd
  exact (sb_cons (ss_if (st_cmp (m_ne B.u) (se_m 0 B F_Mouth_kind_at (by decide) rfl (se_var (pv 0)) (ak_a (sa_cons (se_var (pv 1)) (sa_cons (se_var (pv 2)) sa_nil)))) (se_str (sok (by decide +kernel))) (nomark _)) (sb_one (ss_ret (se_tup (sa_cons (se_tup (sa_cons (se_str (sok (by decide +kernel))) (sa_cons (se_ix m_ix (se_fld (clf1 T.f_Mouth_all_signs) (se_var (pv 0))) (se_var (pv 2)) (fun _ _ => rfl)) sa_nil))) (sa_cons (se_op m_add (se_var (pv 2)) se_int) (sa_cons se_bl sa_nil)))))) sb_nil)
      (sb_cons (ss_set (i := 3) nd rfl (Or.inl rfl) (se_callB (m_min B.c) (by rfl) T.b_min (by decide +kernel) (sa_cons (se_op m_add (se_var (pv 2)) (se_glob (by rfl) T.c_LONGEST)) (sa_cons (se_m 0 B F_Mouth_behind_all (by decide) rfl (se_var (pv 0)) (ak_a (sa_cons (se_var (pv 1)) (sa_cons (se_str (sok (by decide +kernel))) (sa_cons (se_var (pv 2)) sa_nil))))) sa_nil))))
      (sb_one (ss_ret (se_tup (sa_cons (se_tup (sa_cons (se_str (sok (by decide +kernel))) (sa_cons (se_slice (se_fld (clf1 T.f_Mouth_all_signs) (se_var (pv 0))) (so_some (se_var (pv 2))) (so_some (se_var (pv 3)))) sa_nil))) (sa_cons (se_m 0 B F_Mouth_behind_all (by decide) rfl (se_var (pv 0)) (ak_a (sa_cons (se_var (pv 1)) (sa_cons (se_str (sok (by decide +kernel))) (sa_cons (se_var (pv 3)) sa_nil))))) (sa_cons se_bl sa_nil))))))))
theorem shp_Mouth_named {fd : FuncData} (F : FunD K "named" "Mouth.named" (defArgs s_Mouth_named) (defBody s_Mouth_named) (defScope s_Mouth_named) [] [] (He.ma K (He.ga K "Mouth") "named") fd) : ShpOk K fd ["self", "kinds", "place"] sh_Mouth_named := (shp_cons (bg_all (F.bindsN (ps := ["self", "kinds", "place"]) (fun _ _ _ _ _ _ us hl => match us, hl with | [_, _, _], _ => rfl))) rfl shp_nil)
abbrev s_Mouth_piece_at : Stmt := inClass (topS 11) 13
abbrev N_Mouth_piece_at : List Str := ["self", "kinds", "place", "kind"]
theorem sc_Mouth_piece_at : FnScope N_Mouth_piece_at ["self", "kinds", "place"] (defScope s_Mouth_piece_at) := ⟨rfl, rfl, rfl, by decide +kernel, rfl, by decide +kernel, by decide +kernel⟩
def sh_Mouth_piece_at : List Shp := [(3, [], [.pos 0, .pos 1, .pos 2])]
theorem fg_Mouth_piece_at  (T : Tx K mg) (F_Mouth_has : HasM P w K mg base 1 "Mouth" "has" ["self", "place"] m_Mouth_has sh_Mouth_has) (F_Mouth_kind_at : HasM P w K mg base 2 "Mouth" "kind_at" ["self", "kinds", "place"] m_Mouth_kind_at sh_Mouth_kind_at) (F_Mouth_behind_all : HasM P w K mg base 3 "Mouth" "behind_all" ["self", "kinds", "kind", "place"] m_Mouth_behind_all sh_Mouth_behind_all) (F_Mouth_named : HasM P w K mg base 4 "Mouth" "named" ["self", "kinds", "place"] m_Mouth_named sh_Mouth_named) {fd : FuncData} (F : FunD K "piece_at" "Mouth.piece_at" (defArgs s_Mouth_piece_at) (defBody s_Mouth_piece_at) (defScope s_Mouth_piece_at) [] [] (He.ma K (He.ga K "Mouth") "piece_at") fd) : FnG P w K mg base 5 (He.ma K (He.ga K "Mouth") "piece_at") fd ["self", "kinds", "place"] m_Mouth_piece_at := by
  rw [me_Mouth_piece_at]
  refine fn_q F sc_Mouth_piece_at fun cdv A outer s H E B => ?_
  have nd := sc_Mouth_piece_at.nd
  exact (sb_cons (ss_set (i := 3) nd rfl (Or.inl rfl) (se_m 0 B F_Mouth_kind_at (by decide) rfl (se_var (pv 0)) (ak_a (sa_cons (se_var (pv 1)) (sa_cons (se_var (pv 2)) sa_nil)))))
      (sb_cons (ss_if (st_cmp (m_eq B.u) (se_var (pv 3)) (se_str (sok (by decide +kernel))) (nomark _)) (sb_one (ss_ret (se_if (st_val (se_m 0 B F_Mouth_has (by decide) rfl (se_var (pv 0)) (ak_a (sa_cons (se_op m_add (se_var (pv 2)) se_int) sa_nil)))) (se_m 0 B F_Mouth_named (by decide) rfl (se_var (pv 0)) (ak_a (sa_cons (se_var (pv 1)) (sa_cons (se_op m_add (se_var (pv 2)) se_int) sa_nil)))) (se_tup (sa_cons se_non (sa_cons (se_op m_add (se_var (pv 2)) se_int) (sa_cons se_bl sa_nil))))))) sb_nil)
      (sb_cons (ss_if (st_cmp (m_eq B.u) (se_var (pv 3)) (se_str (sok (by decide +kernel))) (nomark _)) (sb_one (ss_ret (se_tup (sa_cons (se_glob (by rfl) T.c_BLANK) (sa_cons (se_m 0 B F_Mouth_behind_all (by decide) rfl (se_var (pv 0)) (ak_a (sa_cons (se_var (pv 1)) (sa_cons (se_str (sok (by decide +kernel))) (sa_cons (se_var (pv 2)) sa_nil))))) (sa_cons se_bl sa_nil)))))) sb_nil)
      (sb_one (ss_ret (se_tup (sa_cons (se_tup (sa_cons (se_var (pv 3)) (sa_cons (se_ix m_ix (se_fld (clf1 T.f_Mouth_all_signs) (se_var (pv 0))) (se_var (pv 2)) (fun _ _ => rfl)) sa_nil))) (sa_cons (se_op m_add (se_var (pv 2)) se_int) (sa_cons se_bl sa_nil)))))))))
theorem shp_Mouth_piece_at {fd : FuncData} (F : FunD K "piece_at" "Mouth.piece_at" (defArgs s_Mouth_piece_at) (defBody s_Mouth_piece_at) (defScope s_Mouth_piece_at) [] [] (He.ma K (He.ga K "Mouth") "piece_at") fd) : ShpOk K fd ["self", "kinds", "place"] sh_Mouth_piece_at := (shp_cons (bg_all (F.bindsN (ps := ["self", "kinds", "place"]) (fun _ _ _ _ _ _ us hl => match us, hl with | [_, _, _], _ => rfl))) rfl shp_nil)
abbrev s_Mouth_ended : Stmt := inClass (topS 11) 15
abbrev N_Mouth_ended : List Str := ["self", "place"]
theorem sc_Mouth_ended : FnScope N_Mouth_ended ["self", "place"] (defScope s_Mouth_ended) := ⟨rfl, rfl, rfl, by decide +kernel, rfl, by decide +kernel, by decide +kernel⟩
def sh_Mouth_ended : List Shp := [(2, [], [.pos 0, .pos 1])]
theorem fg_Mouth_ended  (T : Tx K mg)  {fd : FuncData} (F : FunD K "ended" "Mouth.ended" (defArgs s_Mouth_ended) (defBody s_Mouth_ended) (defScope s_Mouth_ended) [] [] (He.ma K (He.ga K "Mouth") "ended") fd) : FnG P w K mg base 1 (He.ma K (He.ga K "Mouth") "ended") fd ["self", "place"] m_Mouth_ended := by
  rw [me_Mouth_ended]
  refine fn_q F sc_Mouth_ended fun cdv A outer s H E B => ?_
  have nd := sc_Mouth_ended.nd
  exact (sb_cons (ss_if (st_val (se_fld (clf1 T.f_Mouth_may_grow) (se_var (pv 0)))) (sb_one (ss_ret (se_glob (by rfl) T.c_MORE))) sb_nil)
      (sb_cons (ss_fld (clf1 T.f_Mouth_at) (se_var (pv 0)) (se_var (pv 1)))
      (sb_one (ss_ret se_non))))
theorem shp_Mouth_ended {fd : FuncData} (F : FunD K "ended" "Mouth.ended" (defArgs s_Mouth_ended) (defBody s_Mouth_ended) (defScope s_Mouth_ended) [] [] (He.ma K (He.ga K "Mouth") "ended") fd) : ShpOk K fd ["self", "place"] sh_Mouth_ended := (shp_cons (bg_all (F.bindsN (ps := ["self", "place"]) (fun _ _ _ _ _ _ us hl => match us, hl with | [_, _], _ => rfl))) rfl shp_nil)
abbrev s_Mouth_following : Stmt := inClass (topS 11) 14
abbrev N_Mouth_following : List Str := ["self", "kinds", "place", "piece", "behind", "could_grow"]
theorem sc_Mouth_following : FnScope N_Mouth_following ["self", "kinds"] (defScope s_Mouth_following) := ⟨rfl, rfl, rfl, by decide +kernel, rfl, by decide +kernel, by decide +kernel⟩
def sh_Mouth_following : List Shp := [(2, [], [.pos 0, .pos 1])]
theorem fg_Mouth_following  (T : Tx K mg) (F_Mouth_has : HasM P w K mg base 1 "Mouth" "has" ["self", "place"] m_Mouth_has sh_Mouth_has) (F_Mouth_passed : HasM P w K mg base 3 "Mouth" "passed" ["self", "kinds"] m_Mouth_passed sh_Mouth_passed) (F_Mouth_piece_at : HasM P w K mg base 5 "Mouth" "piece_at" ["self", "kinds", "place"] m_Mouth_piece_at sh_Mouth_piece_at) (F_Mouth_ended : HasM P w K mg base 1 "Mouth" "ended" ["self", "place"] m_Mouth_ended sh_Mouth_ended) {fd : FuncData} (F : FunD K "following" "Mouth.following" (defArgs s_Mouth_following) (defBody s_Mouth_following) (defScope s_Mouth_following) [] [] (He.ma K (He.ga K "Mouth") "following") fd) : FnG P w K mg base 6 (He.ma K (He.ga K "Mouth") "following") fd ["self", "kinds"] m_Mouth_following := by
  rw [me_Mouth_following]
  refine fn_q F sc_Mouth_following fun cdv A outer s H E B => ?_
  have nd := sc_Mouth_following.nd
  exact (sb_cons (ss_set (i := 2) nd rfl (Or.inl rfl) (se_m 0 B F_Mouth_passed (by decide) rfl (se_var (pv 0)) (ak_a (sa_cons (se_var (pv 1)) sa_nil))))
      (sb_cons (ss_if (st_not (st_val (se_m 0 B F_Mouth_has (by decide) rfl (se_var (pv 0)) (ak_a (sa_cons (se_var (pv 2)) sa_nil))))) (sb_one (ss_ret (se_m 0 B F_Mouth_ended (by decide) rfl (se_var (pv 0)) (ak_a (sa_cons (se_var (pv 2)) sa_nil))))) sb_nil)
      (sb_cons (ss_asg (t := (.tp [3, 4, 5])) (se_m 0 B F_Mouth_piece_at (by decide) rfl (se_var (pv 0)) (ak_a (sa_cons (se_var (pv 1)) (sa_cons (se_var (pv 2)) sa_nil)))) (pg_tup (n := 3) B.c (pgs_cons (pg_name (i := 3) nd rfl (by first | exact Or.inl rfl | exact Or.inr rfl)) (pgs_cons (pg_name (i := 4) nd rfl (by first | exact Or.inl rfl | exact Or.inr rfl)) (pgs_cons (pg_name (i := 5) nd rfl (by first | exact Or.inl rfl | exact Or.inr rfl)) pgs_nil)))))
      (sb_cons (ss_if (st_w (sw_and (st_val (se_fld (clf1 T.f_Mouth_may_grow) (se_var (pv 0)))) (sw_and (st_val (se_var (pv 5))) (sw_and1 (st_not (st_val (se_m 0 B F_Mouth_has (by decide) rfl (se_var (pv 0)) (ak_a (sa_cons (se_var (pv 4)) sa_nil))))))))) (sb_one (ss_ret (se_glob (by rfl) T.c_MORE))) sb_nil)
      (sb_cons (ss_if (st_cmp m_isN (se_var (pv 3)) se_non (nomark _)) (sb_cons (ss_fld (clf1 T.f_Mouth_at) (se_var (pv 0)) (se_var (pv 2)))
      (sb_one (ss_raise0 B T.x0_Ends (by rfl)))) sb_nil)
      (sb_cons (ss_fld (clf1 T.f_Mouth_at) (se_var (pv 0)) (se_var (pv 4)))
      (sb_one (ss_ret (se_var (pv 3))))))))))
theorem shp_Mouth_following {fd : FuncData} (F : FunD K "following" "Mouth.following" (defArgs s_Mouth_following) (defBody s_Mouth_following) (defScope s_Mouth_following) [] [] (He.ma K (He.ga K "Mouth") "following") fd) : ShpOk K fd ["self", "kinds"] sh_Mouth_following := (shp_cons (bg_all (F.bindsN (ps := ["self", "kinds"]) (fun _ _ _ _ _ _ us hl => match us, hl with | [_, _], _ => rfl))) rfl shp_nil)
abbrev s__law_told : Stmt := topS 17
abbrev N__law_told : List Str := ["_law_mouth", "_law_kinds_here"]
theorem sc__law_told : FnScope N__law_told ["_law_mouth", "_law_kinds_here"] (defScope s__law_told) := ⟨rfl, rfl, rfl, by decide +kernel, rfl, by decide +kernel, by decide +kernel⟩
theorem fg__law_told  (T : Tx K mg) (F_Mouth_following : HasM P w K mg base 6 "Mouth" "following" ["self", "kinds"] m_Mouth_following sh_Mouth_following) {fd : FuncData} (F : FunD K "_law_told" "_law_told" (defArgs s__law_told) (defBody s__law_told) (defScope s__law_told) [] [] (He.ga K "_law_told") fd) : FnG P w K mg base 7 (He.ga K "_law_told") fd ["_law_mouth", "_law_kinds_here"] m__law_told := by
  rw [me__law_told]
  refine fn_q F sc__law_told fun cdv A outer s H E B => ?_
  have nd := sc__law_told.nd
  exact (sb_one (ss_tryO B rfl rfl ⟨by rfl, by decide, .inl T.xg_Ends⟩ T.ex_Ends (fun W1 pn1 xe1 Bt1 hp1 => (sb_one (ss_ret (se_m 0 Bt1 F_Mouth_following (by decide) rfl (se_var (pv 0)) (ak_a (sa_cons (se_var (pv 1)) sa_nil)))))) (fun a1 oe1 pn1 => (fb_one (fs_ret fro_stb (fe_of (se_str (sok (by decide +kernel)))))))))
theorem ok__law_told (T : Tx K mg) (F_Mouth_following : HasM P w K mg base 6 "Mouth" "following" ["self", "kinds"] m_Mouth_following sh_Mouth_following) {fd : FuncData} (F : FunD K "_law_told" "_law_told" (defArgs s__law_told) (defBody s__law_told) (defScope s__law_told) [] [] (He.ga K "_law_told") fd) (hm : mg "_law_told" = some (.ref (He.ga K "_law_told"))) : HasFn P w K mg base 7 "_law_told" ["_law_mouth", "_law_kinds_here"] m__law_told := ⟨fd, fg__law_told T F_Mouth_following F, hm, F.kp, (F.bindsN (ps := ["_law_mouth", "_law_kinds_here"]) (fun _ _ _ _ _ _ us hl => match us, hl with | [_, _], _ => rfl))⟩
abbrev s_Mouth_feed : Stmt := inClass (topS 11) 4
abbrev N_Mouth_feed : List Str := ["self", "text"]
theorem sc_Mouth_feed : FnScope N_Mouth_feed ["self", "text"] (defScope s_Mouth_feed) := ⟨rfl, rfl, rfl, by decide +kernel, rfl, by decide +kernel, by decide +kernel⟩
def sh_Mouth_feed : List Shp := [(2, [], [.pos 0, .pos 1])]
theorem fg_Mouth_feed  (T : Tx K mg)  {fd : FuncData} (F : FunD K "feed" "Mouth.feed" (defArgs s_Mouth_feed) (defBody s_Mouth_feed) (defScope s_Mouth_feed) [] [] (He.ma K (He.ga K "Mouth") "feed") fd) : FnG P w K mg base 1 (He.ma K (He.ga K "Mouth") "feed") fd ["self", "text"] m_Mouth_feed := by
  rw [me_Mouth_feed]
  refine fn_q F sc_Mouth_feed fun cdv A outer s H E B => ?_
  have nd := sc_Mouth_feed.nd
  exact (sb_cons (ss_if (st_not (st_val (se_fld (clf1 T.f_Mouth_may_grow) (se_var (pv 0))))) (sb_one (ss_raise0 B T.x0_Shut (by rfl))) sb_nil)
      (sb_one (ss_fldA m_inadd (clf1 T.f_Mouth_all_signs) (se_var (pv 0)) (se_var (pv 1)) same1)))
theorem shp_Mouth_feed {fd : FuncData} (F : FunD K "feed" "Mouth.feed" (defArgs s_Mouth_feed) (defBody s_Mouth_feed) (defScope s_Mouth_feed) [] [] (He.ma K (He.ga K "Mouth") "feed") fd) : ShpOk K fd ["self", "text"] sh_Mouth_feed := (shp_cons (bg_all (F.bindsN (ps := ["self", "text"]) (fun _ _ _ _ _ _ us hl => match us, hl with | [_, _], _ => rfl))) rfl shp_nil)
abbrev s_Mouth_shut : Stmt := inClass (topS 11) 5
abbrev N_Mouth_shut : List Str := ["self"]
theorem sc_Mouth_shut : FnScope N_Mouth_shut ["self"] (defScope s_Mouth_shut) := ⟨rfl, rfl, rfl, by decide +kernel, rfl, by decide +kernel, by decide +kernel⟩
def sh_Mouth_shut : List Shp := [(1, [], [.pos 0])]
theorem fg_Mouth_shut  (T : Tx K mg)  {fd : FuncData} (F : FunD K "shut" "Mouth.shut" (defArgs s_Mouth_shut) (defBody s_Mouth_shut) (defScope s_Mouth_shut) [] [] (He.ma K (He.ga K "Mouth") "shut") fd) : FnG P w K mg base 1 (He.ma K (He.ga K "Mouth") "shut") fd ["self"] m_Mouth_shut := by
  rw [me_Mouth_shut]
  refine fn_q F sc_Mouth_shut fun cdv A outer s H E B => ?_
  have nd := sc_Mouth_shut.nd
  exact (sb_one (ss_fld (clf1 T.f_Mouth_may_grow) (se_var (pv 0)) se_bl))
theorem shp_Mouth_shut {fd : FuncData} (F : FunD K "shut" "Mouth.shut" (defArgs s_Mouth_shut) (defBody s_Mouth_shut) (defScope s_Mouth_shut) [] [] (He.ma K (He.ga K "Mouth") "shut") fd) : ShpOk K fd ["self"] sh_Mouth_shut := (shp_cons (bg_all (F.bindsN (ps := ["self"]) (fun _ _ _ _ _ _ us hl => match us, hl with | [_], _ => rfl))) rfl shp_nil)
abbrev s__law_fed_on : Stmt := topS 18
abbrev N__law_fed_on : List Str := ["_law_mouth", "_law_parts", "_law_kinds_here", "_law_told_here"]
theorem sc__law_fed_on : FnScope N__law_fed_on ["_law_mouth", "_law_parts", "_law_kinds_here"] (defScope s__law_fed_on) := ⟨rfl, rfl, rfl, by decide +kernel, rfl, by decide +kernel, by decide +kernel⟩
theorem fg__law_fed_on  (T : Tx K mg) (F__law_told : HasFn P w K mg base 7 "_law_told" ["_law_mouth", "_law_kinds_here"] m__law_told) (F_Mouth_feed : HasM P w K mg base 1 "Mouth" "feed" ["self", "text"] m_Mouth_feed sh_Mouth_feed) (F_Mouth_shut : HasM P w K mg base 1 "Mouth" "shut" ["self"] m_Mouth_shut sh_Mouth_shut) {fd : FuncData} (F : FunD K "_law_fed_on" "_law_fed_on" (defArgs s__law_fed_on) (defBody s__law_fed_on) (defScope s__law_fed_on) [] [] (He.ga K "_law_fed_on") fd) : FnG P w K mg base 8 (He.ga K "_law_fed_on") fd ["_law_mouth", "_law_parts", "_law_kinds_here"] m__law_fed_on := by
  rw [me__law_fed_on]
  refine fn_q F sc__law_fed_on fun cdv A outer s H E B => ?_
  have nd := sc__law_fed_on.nd
  exact (sb_cons (ss_set (i := 3) nd rfl (Or.inl rfl) (se_fn B F__law_told (by decide) (by rfl) (sa_cons (se_var (pv 0)) (sa_cons (se_var (pv 2)) sa_nil))))
      (sb_cons (ss_while FU (passes_of rfl) (st_cmp (m_eq B.u) (se_var (pv 3)) (se_tup (sa_cons (se_str (sok (by decide +kernel))) sa_nil)) (nomark _)) (sb_cons (ss_if (st_cmp (m_eq B.u) (se_var (pv 1)) (se_pure (sl_disp sa_nil)) (nomark _)) (sb_one (ss_expr (se_m 0 B F_Mouth_shut (by decide) rfl (se_var (pv 0)) ak_0))) (sb_one (ss_expr (se_m 0 B F_Mouth_feed (by decide) rfl (se_var (pv 0)) (ak_a (sa_cons (se_bm PySem.F.plainAttrs_list PySem.F.slot_list_pop PySem.F.type_list_pop ty_list m_pop (se_var (pv 1)) (sa_cons se_int sa_nil)) sa_nil))))))
      (sb_one (ss_set (i := 3) nd rfl (Or.inl rfl) (se_fn B F__law_told (by decide) (by rfl) (sa_cons (se_var (pv 0)) (sa_cons (se_var (pv 2)) sa_nil)))))))
      (sb_one (ss_ret (se_var (pv 3))))))
theorem ok__law_fed_on (T : Tx K mg) (F__law_told : HasFn P w K mg base 7 "_law_told" ["_law_mouth", "_law_kinds_here"] m__law_told) (F_Mouth_feed : HasM P w K mg base 1 "Mouth" "feed" ["self", "text"] m_Mouth_feed sh_Mouth_feed) (F_Mouth_shut : HasM P w K mg base 1 "Mouth" "shut" ["self"] m_Mouth_shut sh_Mouth_shut) {fd : FuncData} (F : FunD K "_law_fed_on" "_law_fed_on" (defArgs s__law_fed_on) (defBody s__law_fed_on) (defScope s__law_fed_on) [] [] (He.ga K "_law_fed_on") fd) (hm : mg "_law_fed_on" = some (.ref (He.ga K "_law_fed_on"))) : HasFn P w K mg base 8 "_law_fed_on" ["_law_mouth", "_law_parts", "_law_kinds_here"] m__law_fed_on := ⟨fd, fg__law_fed_on T F__law_told F_Mouth_feed F_Mouth_shut F, hm, F.kp, (F.bindsN (ps := ["_law_mouth", "_law_parts", "_law_kinds_here"]) (fun _ _ _ _ _ _ us hl => match us, hl with | [_, _, _], _ => rfl))⟩
abbrev s__law_read : Stmt := topS 19
abbrev N__law_read : List Str := ["_law_mouth", "_law_parts", "_law_tables", "_law_early", "_law_found"]
theorem sc__law_read : FnScope N__law_read ["_law_mouth", "_law_parts", "_law_tables", "_law_early"] (defScope s__law_read) := ⟨rfl, rfl, rfl, by decide +kernel, rfl, by decide +kernel, by decide +kernel⟩
theorem fg__law_read  (T : Tx K mg) (F__law_fed_on : HasFn P w K mg base 8 "_law_fed_on" ["_law_mouth", "_law_parts", "_law_kinds_here"] m__law_fed_on) (F_Mouth_feed : HasM P w K mg base 1 "Mouth" "feed" ["self", "text"] m_Mouth_feed sh_Mouth_feed) {fd : FuncData} (F : FunD K "_law_read" "_law_read" (defArgs s__law_read) (defBody s__law_read) (defScope s__law_read) [] [] (He.ga K "_law_read") fd) : FnG P w K mg base 9 (He.ga K "_law_read") fd ["_law_mouth", "_law_parts", "_law_tables", "_law_early"] m__law_read := by
  rw [me__law_read]
  refine fn_q F sc__law_read fun cdv A outer s H E B => ?_
  have nd := sc__law_read.nd
  exact (sb_cons (ss_set (i := 4) nd rfl (Or.inl rfl) (se_box (sl_disp sa_nil)))
      (sb_cons (ss_while FU (passes_of rfl) (st_w (sw_or (st_cmp (m_eq B.u) (se_var (pv 4)) (se_pure (sl_disp sa_nil)) (nomark _)) (sw_or1 (st_cmp (m_ninP B.u70) (se_ix m_ix (se_var (pv 4)) (se_un m_neg se_int) (fun _ _ => rfl)) (se_pure (sl_disp (sa_cons se_non (sa_cons (se_str (sok (by decide +kernel))) sa_nil)))) (by rfl))))) (sb_cons (ss_if (st_w (sw_and (st_val (se_var (pv 3))) (sw_and1 (st_cmp (m_ne B.u) (se_var (pv 1)) (se_pure (sl_disp sa_nil)) (nomark _))))) (sb_one (ss_expr (se_m 0 B F_Mouth_feed (by decide) rfl (se_var (pv 0)) (ak_a (sa_cons (se_bm PySem.F.plainAttrs_list PySem.F.slot_list_pop PySem.F.type_list_pop ty_list m_pop (se_var (pv 1)) (sa_cons se_int sa_nil)) sa_nil))))) sb_nil)
      (sb_one (ss_expr (se_bm PySem.F.plainAttrs_list PySem.F.slot_list_append PySem.F.type_list_append ty_list m_append (se_var (pv 4)) (sa_cons (se_fn B F__law_fed_on (by decide) (by rfl) (sa_cons (se_var (pv 0)) (sa_cons (se_var (pv 1)) (sa_cons (se_ix m_ix (se_var (pv 2)) (se_op m_mod (se_callB m_len (by rfl) T.b_len (by decide +kernel) (sa_cons (se_var (pv 4)) sa_nil)) (se_callB m_len (by rfl) T.b_len (by decide +kernel) (sa_cons (se_var (pv 2)) sa_nil))) (fun _ _ => rfl)) sa_nil)))) sa_nil))))))
      (sb_one (ss_ret (se_var (pv 4))))))
theorem ok__law_read (T : Tx K mg) (F__law_fed_on : HasFn P w K mg base 8 "_law_fed_on" ["_law_mouth", "_law_parts", "_law_kinds_here"] m__law_fed_on) (F_Mouth_feed : HasM P w K mg base 1 "Mouth" "feed" ["self", "text"] m_Mouth_feed sh_Mouth_feed) {fd : FuncData} (F : FunD K "_law_read" "_law_read" (defArgs s__law_read) (defBody s__law_read) (defScope s__law_read) [] [] (He.ga K "_law_read") fd) (hm : mg "_law_read" = some (.ref (He.ga K "_law_read"))) : HasFn P w K mg base 9 "_law_read" ["_law_mouth", "_law_parts", "_law_tables", "_law_early"] m__law_read := ⟨fd, fg__law_read T F__law_fed_on F_Mouth_feed F, hm, F.kp, (F.bindsN (ps := ["_law_mouth", "_law_parts", "_law_tables", "_law_early"]) (fun _ _ _ _ _ _ us hl => match us, hl with | [_, _, _, _], _ => rfl))⟩
abbrev s__law_cut : Stmt := topS 20
abbrev N__law_cut : List Str := ["_law_pool_here", "_law_text_here", "_law_cuts", "_law_turn", "_law_one", "_law_other"]
theorem sc__law_cut : FnScope N__law_cut ["_law_pool_here", "_law_text_here"] (defScope s__law_cut) := ⟨rfl, rfl, rfl, by decide +kernel, rfl, by decide +kernel, by decide +kernel⟩
theorem fg__law_cut  (T : Tx K mg) (F__law_take : HasFn P w K mg base 1 "_law_take" ["_law_pool_here", "_law_many"] m__law_take) {fd : FuncData} (F : FunD K "_law_cut" "_law_cut" (defArgs s__law_cut) (defBody s__law_cut) (defScope s__law_cut) [] [] (He.ga K "_law_cut") fd) : FnG P w K mg base 2 (He.ga K "_law_cut") fd ["_law_pool_here", "_law_text_here"] m__law_cut := by
  rw [me__law_cut]
  refine fn_q F sc__law_cut fun cdv A outer s H E B => ?_
  have nd := sc__law_cut.nd
  exact (sb_cons (ss_set (i := 2) nd rfl (Or.inl rfl) (se_pure (sl_callB m_sortL (by rfl) T.b_sorted (by decide +kernel) (sa_cons (se_lc B.c nd (t := (.nm 3)) (si_range1 (by rfl) T.b_range (sa_cons (se_fn B F__law_take (by decide) (by rfl) (sa_cons (se_var (pv 0)) (sa_cons se_int sa_nil))) sa_nil)) (blkOk_by (own := [("_law_turn", 3)]) (N := N__law_cut) (sc := defScope s__law_cut) (by decide +kernel)) (fun s1 H1 C1 cl1 fp1 => (pg_name (i := 3) nd rfl (by first | exact Or.inl rfl | exact Or.inr rfl))) (fun s1 H1 C1 cl1 fp1 => sts_nil) (fun s1 H1 C1 cl1 fp1 => (se_fn (B.blk s1 H1 _ _ fp1) F__law_take (by decide) (by rfl) (sa_cons (se_var (pv 0)) (sa_cons (se_op m_add (se_callB m_len (by rfl) T.b_len (by decide +kernel) (sa_cons (se_var (pv 1)) sa_nil)) se_int) sa_nil)))) (by decide)) sa_nil))))
      (sb_one (ss_ret (se_lc B.c nd (t := (.tp [4, 5])) (si_zip (by rfl) T.b_zip (sa_cons (se_op m_add (se_pure (sl_disp (sa_cons se_int sa_nil))) (se_var (pv 2))) (sa_cons (se_op m_add (se_var (pv 2)) (se_pure (sl_disp (sa_cons (se_callB m_len (by rfl) T.b_len (by decide +kernel) (sa_cons (se_var (pv 1)) sa_nil)) sa_nil)))) sa_nil))) (blkOk_by (own := [("_law_one", 4), ("_law_other", 5)]) (N := N__law_cut) (sc := defScope s__law_cut) (by decide +kernel)) (fun s2 H2 C2 cl2 fp2 => (pg_tup (n := 2) (B.blk s2 H2 _ _ fp2).c (pgs_cons (pg_name (i := 4) nd rfl (by first | exact Or.inl rfl | exact Or.inr rfl)) (pgs_cons (pg_name (i := 5) nd rfl (by first | exact Or.inl rfl | exact Or.inr rfl)) pgs_nil)))) (fun s2 H2 C2 cl2 fp2 => sts_nil) (fun s2 H2 C2 cl2 fp2 => (se_slice (se_var (pv 1)) (so_some (se_var (pv 4))) (so_some (se_var (pv 5))))) (by decide)))))
theorem ok__law_cut (T : Tx K mg) (F__law_take : HasFn P w K mg base 1 "_law_take" ["_law_pool_here", "_law_many"] m__law_take) {fd : FuncData} (F : FunD K "_law_cut" "_law_cut" (defArgs s__law_cut) (defBody s__law_cut) (defScope s__law_cut) [] [] (He.ga K "_law_cut") fd) (hm : mg "_law_cut" = some (.ref (He.ga K "_law_cut"))) : HasFn P w K mg base 2 "_law_cut" ["_law_pool_here", "_law_text_here"] m__law_cut := ⟨fd, fg__law_cut T F__law_take F, hm, F.kp, (F.bindsN (ps := ["_law_pool_here", "_law_text_here"]) (fun _ _ _ _ _ _ us hl => match us, hl with | [_, _], _ => rfl))⟩
abbrev s_Mouth___init__ : Stmt := inClass (topS 11) 0
abbrev N_Mouth___init__ : List Str := ["self", "text", "is_open"]
theorem sc_Mouth___init__ : FnScope N_Mouth___init__ ["self", "text", "is_open"] (defScope s_Mouth___init__) := ⟨rfl, rfl, rfl, by decide +kernel, rfl, by decide +kernel, by decide +kernel⟩
def sh_Mouth___init__ : List Shp := [(2, [], [.pos 0, .pos 1, .df (.bl false)]), (2, ["is_open"], [.pos 0, .pos 1, .kw 0])]
theorem fg_Mouth___init__  (T : Tx K mg)  {fd : FuncData} (F : FunD K "__init__" "Mouth.__init__" (defArgs s_Mouth___init__) (defBody s_Mouth___init__) (defScope s_Mouth___init__) [] [("is_open", V.bl false)] (He.ma K (He.ga K "Mouth") "__init__") fd) : FnG P w K mg base 1 (He.ma K (He.ga K "Mouth") "__init__") fd ["self", "text", "is_open"] m_Mouth___init__ := by
  rw [me_Mouth___init__]
  refine fn_q F sc_Mouth___init__ fun cdv A outer s H E B => ?_
  have nd := sc_Mouth___init__.nd
  exact (sb_cons (ss_fld (clf1 T.f_Mouth_all_signs) (se_var (pv 0)) (se_var (pv 1)))
      (sb_cons (ss_fld (clf1 T.f_Mouth_at) (se_var (pv 0)) se_int)
      (sb_one (ss_fld (clf1 T.f_Mouth_may_grow) (se_var (pv 0)) (se_var (pv 2))))))
def gk_Mouth___init___1 {α : Type} : List α → List α → List α → List α
  | [u0, u1], [], [w0] => [u0, u1, w0]
  | _, _, _ => []
theorem gkr_Mouth___init___1 {vs mz zs : List V} {us mv ws : List Value} (h1 : Vals vs us) (h2 : Vals mz mv) (h3 : Vals zs ws) : Vals (gk_Mouth___init___1 vs mz zs) (gk_Mouth___init___1 us mv ws) := by
  unfold gk_Mouth___init___1
  rcases h1 with _ | ⟨va0, _ | ⟨va1, _ | ⟨va2, vat⟩⟩⟩ <;> rcases h2 with _ | ⟨vb0, vbt⟩ <;> rcases h3 with _ | ⟨vc0, _ | ⟨vc1, vct⟩⟩
  all_goals first | exact .nil | exact (.cons va0 (.cons va1 (.cons vc0 .nil)))
theorem shp_Mouth___init__ {fd : FuncData} (F : FunD K "__init__" "Mouth.__init__" (defArgs s_Mouth___init__) (defBody s_Mouth___init__) (defScope s_Mouth___init__) [] [("is_open", V.bl false)] (He.ma K (He.ga K "Mouth") "__init__") fd) : ShpOk K fd ["self", "text", "is_open"] sh_Mouth___init__ := (shp_cons (bg_df (ps := ["self", "text", "is_open"]) (n := 2) (ds := [.bl false]) rfl rfl (FunD.binds0 (ps := ["self", "text", "is_open"]) F 2 (by simp) rfl (fun D doc pm an cdv ct us ks hl hk => match us, hl, ks, hk with | [_, _], _, [_], _ => ⟨_, _, _, _, _, _, rfl, rfl, rfl⟩))) rfl (shp_cons (by
      obtain ⟨mv, hb⟩ := FunD.kbinds0 (ps := ["self", "text", "is_open"]) F 2 ["is_open"] [] (fun {α} us mv ws => gk_Mouth___init___1 us mv ws) (by simp) (by simp) (gkr_Mouth___init___1) (fun D doc pm an cdv ct us mv ws l1 l2 l3 => match us, l1, mv, l2, ws, l3 with | [_u0, _u1], _, [], _, [_w0], _ => rfl)
      exact bg_kw hb (fun vs xs ys l1 l2 e => by
        match vs, l1, xs, l2 with
        | [_u0, _u1], _, [_w0], _ => cases e; rfl)) rfl shp_nil))
abbrev s__law_long_right : Stmt := topS 21
abbrev N__law_long_right : List Str := ["_law_table", "_law_many", "_law_text_here", "_law_due", "_law_size", "_law_parts", "_law_at"]
theorem sc__law_long_right : FnScope N__law_long_right [] (defScope s__law_long_right) := ⟨rfl, rfl, rfl, by decide +kernel, rfl, by decide +kernel, by decide +kernel⟩
theorem fg__law_long_right  (T : Tx K mg) (F__law_read : HasFn P w K mg base 9 "_law_read" ["_law_mouth", "_law_parts", "_law_tables", "_law_early"] m__law_read) (C_Mouth : HasC P w K mg base 1 "Mouth" ["self", "text", "is_open"] m_Mouth___init__ sh_Mouth___init__) {fd : FuncData} (F : FunD K "_law_long_right" "_law_long_right" (defArgs s__law_long_right) (defBody s__law_long_right) (defScope s__law_long_right) [] [] (He.ga K "_law_long_right") fd) : FnG P w K mg base 10 (He.ga K "_law_long_right") fd [] m__law_long_right := by
  rw [me__law_long_right]
  refine fn_q F sc__law_long_right fun cdv A outer s H E B => ?_
  have nd := sc__law_long_right.nd
  exact (sb_cons (ss_set (i := 0) nd rfl (Or.inl rfl) (se_disp (sp_cons (se_str (sok (by decide +kernel))) (se_str (sok (by decide +kernel))) (sp_cons (se_str (sok (by decide +kernel))) (se_str (sok (by decide +kernel))) (sp_cons (se_str (sok (by decide +kernel))) (se_str (sok (by decide +kernel))) sp_nil))) rfl rfl (by simp) (by decide)))
      (sb_cons (ss_for (t := (.nm 1)) (passes_of rfl) B.c (si_seq (se_pure (sl_disp (sa_cons se_int (sa_cons se_int (sa_cons se_int (sa_cons se_int sa_nil))))))) (pg_name (i := 1) nd rfl (by first | exact Or.inl rfl | exact Or.inr rfl)) (sb_cons (ss_set (i := 2) nd rfl (Or.inr rfl) (se_op m_add (se_op m_add (se_str (sok (by decide +kernel))) (se_op m_repS (se_str (sok (by decide +kernel))) (se_var (pv 1)))) (se_str (sok (by decide +kernel)))))
      (sb_cons (ss_set (i := 3) nd rfl (Or.inl rfl) (se_fn B F__law_read (by decide) (by rfl) (sa_cons (se_cl 0 B C_Mouth (by decide) rfl (by rfl) (ak_a (sa_cons (se_var (pv 2)) sa_nil))) (sa_cons (se_box (sl_disp sa_nil)) (sa_cons (se_pure (sl_disp (sa_cons (se_var (pv 0)) sa_nil))) (sa_cons se_bl sa_nil))))))
      (sb_one (ss_for (t := (.nm 4)) (passes_of rfl) B.c (si_seq (se_pure (sl_disp (sa_cons se_int (sa_cons se_int (sa_cons se_int (sa_cons se_int sa_nil))))))) (pg_name (i := 4) nd rfl (by first | exact Or.inl rfl | exact Or.inr rfl)) (sb_cons (ss_setLcB (i := 5) B.c nd rfl rfl (sw_true rfl rfl rfl (by decide +kernel)) (t := (.nm 6)) (si_range3 (by rfl) T.b_range (sa_cons se_int (sa_cons (se_callB m_len (by rfl) T.b_len (by decide +kernel) (sa_cons (se_var (pv 2)) sa_nil)) (sa_cons (se_var (pv 4)) sa_nil)))) (blkOk_by (own := [("_law_at", 6)]) (N := N__law_long_right) (sc := defScope s__law_long_right) (by decide +kernel)) (fun s1 H1 C1 cl1 fp1 => (pg_name (i := 6) nd rfl (by first | exact Or.inl rfl | exact Or.inr rfl))) (fun s1 H1 C1 cl1 fp1 => sts_nil) (fun s1 H1 C1 cl1 fp1 => (se_slice (se_var (pv 2)) (so_some (se_var (pv 6))) (so_some (se_op m_add (se_var (pv 6)) (se_var (pv 4)))))) (by decide))
      (sb_one (ss_if (st_cmp (m_ne B.u) (se_fn B F__law_read (by decide) (by rfl) (sa_cons (se_cl 1 B C_Mouth (by decide) rfl (by rfl) (ak_k (sa_cons (se_str (sok (by decide +kernel))) sa_nil) (sk_cons se_bl sk_nil))) (sa_cons (se_var (pv 5)) (sa_cons (se_pure (sl_disp (sa_cons (se_var (pv 0)) sa_nil))) (sa_cons se_bl sa_nil))))) (se_var (pv 3)) (nomark _)) (sb_one (ss_ret se_bl)) sb_nil))))))))
      (sb_one (ss_ret se_bl))))
theorem ok__law_long_right (T : Tx K mg) (F__law_read : HasFn P w K mg base 9 "_law_read" ["_law_mouth", "_law_parts", "_law_tables", "_law_early"] m__law_read) (C_Mouth : HasC P w K mg base 1 "Mouth" ["self", "text", "is_open"] m_Mouth___init__ sh_Mouth___init__) {fd : FuncData} (F : FunD K "_law_long_right" "_law_long_right" (defArgs s__law_long_right) (defBody s__law_long_right) (defScope s__law_long_right) [] [] (He.ga K "_law_long_right") fd) (hm : mg "_law_long_right" = some (.ref (He.ga K "_law_long_right"))) : HasFn P w K mg base 10 "_law_long_right" [] m__law_long_right := ⟨fd, fg__law_long_right T F__law_read C_Mouth F, hm, F.kp, (F.bindsN (ps := []) (fun _ _ _ _ _ _ us hl => match us, hl with | [], _ => rfl))⟩
abbrev s_Mouth_text : Stmt := inClass (topS 11) 1
abbrev N_Mouth_text : List Str := ["self"]
theorem sc_Mouth_text : FnScope N_Mouth_text ["self"] (defScope s_Mouth_text) := ⟨rfl, rfl, rfl, by decide +kernel, rfl, by decide +kernel, by decide +kernel⟩
def sh_Mouth_text : List Shp := [(1, [], [.pos 0])]
theorem fg_Mouth_text  (T : Tx K mg)  {fd : FuncData} (F : FunD K "text" "Mouth.text" (defArgs s_Mouth_text) (defBody s_Mouth_text) (defScope s_Mouth_text) [] [] (He.ma K (He.ga K "Mouth") "text") fd) : FnG P w K mg base 1 (He.ma K (He.ga K "Mouth") "text") fd ["self"] m_Mouth_text := by
  rw [me_Mouth_text]
  refine fn_q F sc_Mouth_text fun cdv A outer s H E B => ?_
  have nd := sc_Mouth_text.nd
  exact (sb_one (ss_ret (se_fld (clf1 T.f_Mouth_all_signs) (se_var (pv 0)))))
theorem shp_Mouth_text {fd : FuncData} (F : FunD K "text" "Mouth.text" (defArgs s_Mouth_text) (defBody s_Mouth_text) (defScope s_Mouth_text) [] [] (He.ma K (He.ga K "Mouth") "text") fd) : ShpOk K fd ["self"] sh_Mouth_text := (shp_cons (bg_all (F.bindsN (ps := ["self"]) (fun _ _ _ _ _ _ us hl => match us, hl with | [_], _ => rfl))) rfl shp_nil)
abbrev s_Mouth_place : Stmt := inClass (topS 11) 2
abbrev N_Mouth_place : List Str := ["self"]
theorem sc_Mouth_place : FnScope N_Mouth_place ["self"] (defScope s_Mouth_place) := ⟨rfl, rfl, rfl, by decide +kernel, rfl, by decide +kernel, by decide +kernel⟩
def sh_Mouth_place : List Shp := [(1, [], [.pos 0])]
theorem fg_Mouth_place  (T : Tx K mg)  {fd : FuncData} (F : FunD K "place" "Mouth.place" (defArgs s_Mouth_place) (defBody s_Mouth_place) (defScope s_Mouth_place) [] [] (He.ma K (He.ga K "Mouth") "place") fd) : FnG P w K mg base 1 (He.ma K (He.ga K "Mouth") "place") fd ["self"] m_Mouth_place := by
  rw [me_Mouth_place]
  refine fn_q F sc_Mouth_place fun cdv A outer s H E B => ?_
  have nd := sc_Mouth_place.nd
  exact (sb_one (ss_ret (se_fld (clf1 T.f_Mouth_at) (se_var (pv 0)))))
theorem shp_Mouth_place {fd : FuncData} (F : FunD K "place" "Mouth.place" (defArgs s_Mouth_place) (defBody s_Mouth_place) (defScope s_Mouth_place) [] [] (He.ma K (He.ga K "Mouth") "place") fd) : ShpOk K fd ["self"] sh_Mouth_place := (shp_cons (bg_all (F.bindsN (ps := ["self"]) (fun _ _ _ _ _ _ us hl => match us, hl with | [_], _ => rfl))) rfl shp_nil)
abbrev s_law : Stmt := topS 22
abbrev N_law : List Str := ["_law_script", "_law_k", "_law_pool_here", "_law_text_here", "_law_tables", "_law_whole", "_law_due", "_law_parts", "_law_mouth", "_law_found", "_law_turn", "_law_sign"]
theorem sc_law : FnScope N_law ["_law_script"] (defScope s_law) := ⟨rfl, rfl, rfl, by decide +kernel, rfl, by decide +kernel, by decide +kernel⟩
theorem fg_law {fa : Addr} (T : Tx K mg) (F__law_pool : HasFn P w K mg base 1 "_law_pool" ["_law_script", "_law_k"] m__law_pool) (F__law_take : HasFn P w K mg base 1 "_law_take" ["_law_pool_here", "_law_many"] m__law_take) (F__law_kinds : HasFn P w K mg base 2 "_law_kinds" ["_law_pool_here"] m__law_kinds) (F__law_text : HasFn P w K mg base 2 "_law_text" ["_law_pool_here", "_law_most"] m__law_text) (F__law_read : HasFn P w K mg base 9 "_law_read" ["_law_mouth", "_law_parts", "_law_tables", "_law_early"] m__law_read) (F__law_cut : HasFn P w K mg base 2 "_law_cut" ["_law_pool_here", "_law_text_here"] m__law_cut) (F__law_long_right : HasFn P w K mg base 10 "_law_long_right" [] m__law_long_right) (C_Mouth : HasC P w K mg base 1 "Mouth" ["self", "text", "is_open"] m_Mouth___init__ sh_Mouth___init__) (F_Mouth_text : HasM P w K mg base 1 "Mouth" "text" ["self"] m_Mouth_text sh_Mouth_text) (F_Mouth_place : HasM P w K mg base 1 "Mouth" "place" ["self"] m_Mouth_place sh_Mouth_place) {fd : FuncData} (F : FunD K "law" "law" (defArgs s_law) (defBody s_law) (defScope s_law) [] [] fa fd) : FnG P w K mg base 11 fa fd ["_law_script"] m_law := by
  rw [me_law]
  refine fn_q F sc_law fun cdv A outer s H E B => ?_
  have nd := sc_law.nd
  exact (sb_cons (ss_if (st_not (st_val (se_fn0 B F__law_long_right (by decide) (by rfl)))) (sb_one (ss_ret se_bl)) sb_nil)
      (sb_cons (ss_for (t := (.nm 1)) (passes_of rfl) B.c (si_range1 (by rfl) T.b_range (sa_cons (se_callB (m_max B.c) (by rfl) T.b_max (by decide +kernel) (sa_cons se_int (sa_cons (se_callB (m_min B.c) (by rfl) T.b_min (by decide +kernel) (sa_cons (se_callB m_len (by rfl) T.b_len (by decide +kernel) (sa_cons (se_var (pv 0)) sa_nil)) (sa_cons se_int sa_nil))) sa_nil))) sa_nil)) (pg_name (i := 1) nd rfl (by first | exact Or.inl rfl | exact Or.inr rfl)) (sb_cons (ss_set (i := 2) nd rfl (Or.inr rfl) (se_fn B F__law_pool (by decide) (by rfl) (sa_cons (se_var (pv 0)) (sa_cons (se_var (pv 1)) sa_nil))))
      (sb_cons (ss_set (i := 3) nd rfl (Or.inl rfl) (se_fn B F__law_text (by decide) (by rfl) (sa_cons (se_var (pv 2)) (sa_cons se_int sa_nil))))
      (sb_cons (ss_setLc (i := 4) B.c nd rfl rfl (sw_true rfl rfl rfl (by decide +kernel)) (t := (.nm 10)) (si_range1 (by rfl) T.b_range (sa_cons (se_op m_add se_int (se_fn B F__law_take (by decide) (by rfl) (sa_cons (se_var (pv 2)) (sa_cons se_int sa_nil)))) sa_nil)) (blkOk_by (own := [("_law_turn", 10)]) (N := N_law) (sc := defScope s_law) (by decide +kernel)) (fun s1 H1 C1 cl1 fp1 => (pg_name (i := 10) nd rfl (by first | exact Or.inl rfl | exact Or.inr rfl))) (fun s1 H1 C1 cl1 fp1 => sts_nil) (fun s1 H1 C1 cl1 fp1 => (se_fn (B.blk s1 H1 _ _ fp1) F__law_kinds (by decide) (by rfl) (sa_cons (se_var (pv 2)) sa_nil))) (by decide))
      (sb_cons (ss_set (i := 5) nd rfl (Or.inl rfl) (se_cl 0 B C_Mouth (by decide) rfl (by rfl) (ak_a (sa_cons (se_var (pv 3)) sa_nil))))
      (sb_cons (ss_set (i := 6) nd rfl (Or.inl rfl) (se_fn B F__law_read (by decide) (by rfl) (sa_cons (se_var (pv 5)) (sa_cons (se_box (sl_disp sa_nil)) (sa_cons (se_var (pv 4)) (sa_cons se_bl sa_nil))))))
      (sb_one (ss_for (t := (.nm 7)) (passes_of rfl) B.c (si_seq (se_pure (sl_disp (sa_cons (se_lc B.c nd (t := (.nm 11)) (si_seq (se_var (pv 3))) (blkOk_by (own := [("_law_sign", 11)]) (N := N_law) (sc := defScope s_law) (by decide +kernel)) (fun s2 H2 C2 cl2 fp2 => (pg_name (i := 11) nd rfl (by first | exact Or.inl rfl | exact Or.inr rfl))) (fun s2 H2 C2 cl2 fp2 => sts_nil) (fun s2 H2 C2 cl2 fp2 => (se_var (pv 11))) (by decide)) (sa_cons (se_fn B F__law_cut (by decide) (by rfl) (sa_cons (se_var (pv 2)) (sa_cons (se_var (pv 3)) sa_nil))) (sa_cons (se_fn B F__law_cut (by decide) (by rfl) (sa_cons (se_var (pv 2)) (sa_cons (se_var (pv 3)) sa_nil))) sa_nil)))))) (pg_name (i := 7) nd rfl (by first | exact Or.inl rfl | exact Or.inr rfl)) (sb_cons (ss_set (i := 8) nd rfl (Or.inl rfl) (se_cl 1 B C_Mouth (by decide) rfl (by rfl) (ak_k (sa_cons (se_str (sok (by decide +kernel))) sa_nil) (sk_cons se_bl sk_nil))))
      (sb_cons (ss_set (i := 9) nd rfl (Or.inl rfl) (se_fn B F__law_read (by decide) (by rfl) (sa_cons (se_var (pv 8)) (sa_cons (se_box (sl_callTy m_listL (by rfl) T.b_list (by decide +kernel) (sa_cons (se_var (pv 7)) sa_nil))) (sa_cons (se_var (pv 4)) (sa_cons (se_cmp (m_eq B.u) (se_fn B F__law_take (by decide) (by rfl) (sa_cons (se_var (pv 2)) (sa_cons se_int sa_nil))) se_int (nomark _)) sa_nil))))))
      (sb_cons (ss_if (st_w (sw_or (st_cmp (m_ne B.u) (se_callB (m_repr B.g B.u70) (by rfl) T.b_repr (by decide +kernel) (sa_cons (se_var (pv 9)) sa_nil)) (se_callB (m_repr B.g B.u70) (by rfl) T.b_repr (by decide +kernel) (sa_cons (se_var (pv 6)) sa_nil)) (nomark _)) (sw_or1 (st_cmp (m_ne B.u) (se_slice (se_m 0 B F_Mouth_text (by decide) rfl (se_var (pv 8)) ak_0) so_none (so_some (se_m 0 B F_Mouth_place (by decide) rfl (se_var (pv 5)) ak_0))) (se_slice (se_var (pv 3)) so_none (so_some (se_m 0 B F_Mouth_place (by decide) rfl (se_var (pv 5)) ak_0))) (nomark _))))) (sb_one (ss_ret se_bl)) sb_nil)
      (sb_one (ss_if (st_cmp (m_ne B.u) (se_m 0 B F_Mouth_place (by decide) rfl (se_var (pv 8)) ak_0) (se_m 0 B F_Mouth_place (by decide) rfl (se_var (pv 5)) ak_0) (nomark _)) (sb_one (ss_ret se_bl)) sb_nil)))))))))))))
      (sb_one (ss_ret se_bl))))
end
def d_kind_here : He.DefD := ⟨("kind_here", none), "kind_here", "kind_here", defArgs s_kind_here, defBody s_kind_here, defScope s_kind_here, [], []⟩
def d__law_pool : He.DefD := ⟨("_law_pool", none), "_law_pool", "_law_pool", defArgs s__law_pool, defBody s__law_pool, defScope s__law_pool, [], []⟩
def d__law_take : He.DefD := ⟨("_law_take", none), "_law_take", "_law_take", defArgs s__law_take, defBody s__law_take, defScope s__law_take, [], []⟩
def d__law_kinds : He.DefD := ⟨("_law_kinds", none), "_law_kinds", "_law_kinds", defArgs s__law_kinds, defBody s__law_kinds, defScope s__law_kinds, [], []⟩
def d__law_text : He.DefD := ⟨("_law_text", none), "_law_text", "_law_text", defArgs s__law_text, defBody s__law_text, defScope s__law_text, [], []⟩
def d_Mouth_has : He.DefD := ⟨("Mouth", some "has"), "has", "Mouth.has", defArgs s_Mouth_has, defBody s_Mouth_has, defScope s_Mouth_has, [], []⟩
def d_Mouth_kind_at : He.DefD := ⟨("Mouth", some "kind_at"), "kind_at", "Mouth.kind_at", defArgs s_Mouth_kind_at, defBody s_Mouth_kind_at, defScope s_Mouth_kind_at, [], []⟩
def d_Mouth_behind_remark : He.DefD := ⟨("Mouth", some "behind_remark"), "behind_remark", "Mouth.behind_remark", defArgs s_Mouth_behind_remark, defBody s_Mouth_behind_remark, defScope s_Mouth_behind_remark, [], []⟩
def d_Mouth_passed : He.DefD := ⟨("Mouth", some "passed"), "passed", "Mouth.passed", defArgs s_Mouth_passed, defBody s_Mouth_passed, defScope s_Mouth_passed, [], []⟩
def d_Mouth_behind_all : He.DefD := ⟨("Mouth", some "behind_all"), "behind_all", "Mouth.behind_all", defArgs s_Mouth_behind_all, defBody s_Mouth_behind_all, defScope s_Mouth_behind_all, [], []⟩
def d_Mouth_named : He.DefD := ⟨("Mouth", some "named"), "named", "Mouth.named", defArgs s_Mouth_named, defBody s_Mouth_named, defScope s_Mouth_named, [], []⟩
def d_Mouth_piece_at : He.DefD := ⟨("Mouth", some "piece_at"), "piece_at", "Mouth.piece_at", defArgs s_Mouth_piece_at, defBody s_Mouth_piece_at, defScope s_Mouth_piece_at, [], []⟩
def d_Mouth_ended : He.DefD := ⟨("Mouth", some "ended"), "ended", "Mouth.ended", defArgs s_Mouth_ended, defBody s_Mouth_ended, defScope s_Mouth_ended, [], []⟩
def d_Mouth_following : He.DefD := ⟨("Mouth", some "following"), "following", "Mouth.following", defArgs s_Mouth_following, defBody s_Mouth_following, defScope s_Mouth_following, [], []⟩
def d__law_told : He.DefD := ⟨("_law_told", none), "_law_told", "_law_told", defArgs s__law_told, defBody s__law_told, defScope s__law_told, [], []⟩
def d_Mouth_feed : He.DefD := ⟨("Mouth", some "feed"), "feed", "Mouth.feed", defArgs s_Mouth_feed, defBody s_Mouth_feed, defScope s_Mouth_feed, [], []⟩
def d_Mouth_shut : He.DefD := ⟨("Mouth", some "shut"), "shut", "Mouth.shut", defArgs s_Mouth_shut, defBody s_Mouth_shut, defScope s_Mouth_shut, [], []⟩
def d__law_fed_on : He.DefD := ⟨("_law_fed_on", none), "_law_fed_on", "_law_fed_on", defArgs s__law_fed_on, defBody s__law_fed_on, defScope s__law_fed_on, [], []⟩
def d__law_read : He.DefD := ⟨("_law_read", none), "_law_read", "_law_read", defArgs s__law_read, defBody s__law_read, defScope s__law_read, [], []⟩
def d__law_cut : He.DefD := ⟨("_law_cut", none), "_law_cut", "_law_cut", defArgs s__law_cut, defBody s__law_cut, defScope s__law_cut, [], []⟩
def d_Mouth___init__ : He.DefD := ⟨("Mouth", some "__init__"), "__init__", "Mouth.__init__", defArgs s_Mouth___init__, defBody s_Mouth___init__, defScope s_Mouth___init__, [], [("is_open", .bl false)]⟩
def d__law_long_right : He.DefD := ⟨("_law_long_right", none), "_law_long_right", "_law_long_right", defArgs s__law_long_right, defBody s__law_long_right, defScope s__law_long_right, [], []⟩
def d_Mouth_text : He.DefD := ⟨("Mouth", some "text"), "text", "Mouth.text", defArgs s_Mouth_text, defBody s_Mouth_text, defScope s_Mouth_text, [], []⟩
def d_Mouth_place : He.DefD := ⟨("Mouth", some "place"), "place", "Mouth.place", defArgs s_Mouth_place, defBody s_Mouth_place, defScope s_Mouth_place, [], []⟩
def d_law : He.DefD := ⟨("law", none), "law", "law", defArgs s_law, defBody s_law, defScope s_law, [], []⟩
def fnL : List He.DefD := [d_kind_here, d__law_pool, d__law_take, d__law_kinds, d__law_text, d_Mouth_has, d_Mouth_kind_at, d_Mouth_behind_remark, d_Mouth_passed, d_Mouth_behind_all, d_Mouth_named, d_Mouth_piece_at, d_Mouth_ended, d_Mouth_following, d__law_told, d_Mouth_feed, d_Mouth_shut, d__law_fed_on, d__law_read, d__law_cut, d_Mouth___init__, d__law_long_right, d_Mouth_text, d_Mouth_place, d_law]
def faL : List He.Fa := [.glo "kind_here", .glo "_law_pool", .glo "_law_take", .glo "_law_kinds", .glo "_law_text", .glo "_law_told", .glo "_law_fed_on", .glo "_law_read", .glo "_law_cut", .glo "_law_long_right", .glo "law", .free "len", .free "max", .free "range", .free "min", .free "sorted", .free "zip", .free "list", .free "repr", .cls "Mouth", .noat "Mouth" "all_signs", .noat "Mouth" "at", .noat "Mouth" "may_grow", .meth "Mouth" "behind_all", .meth "Mouth" "behind_remark", .meth "Mouth" "ended", .meth "Mouth" "feed", .meth "Mouth" "following", .meth "Mouth" "has", .meth "Mouth" "kind_at", .meth "Mouth" "named", .meth "Mouth" "passed", .meth "Mouth" "piece_at", .meth "Mouth" "place", .meth "Mouth" "shut", .meth "Mouth" "text", .mkr "Mouth", .glo "Mouth", .glo "Ends", .glo "Shut"]
def csL : List (Str × D) := [("LINE", k_LINE), ("LONGEST", k_LONGEST), ("BLANK", k_BLANK), ("MORE", k_MORE)]
def xfL : List (PySem.W.Frag → Bool) := [exOkB (fun K => (.ref (He.ga K "Ends"))) [("Ends", true), ("Shut", false)], x0B "Ends" "RuntimeError.__new__" tlRE, x0B "Shut" "RuntimeError.__new__" tlRE]
abbrev RR : PySem.W.OpenRow := PySem.W.OpenLaw.row PySem.Challenge.rw_mouthrules_k09_whole_in_whatever_portion
abbrev hk : PySem.W.Hook := hookX 4 xfL csL faL fnL
def ob (s : PySem.W.SharedT) : He.AlD := obsXG 4 xfL csL faL fnL (HandSHeadRun.getT s)
theorem ob_eq (s : PySem.W.SharedT) : ob s = hk.obs s.abs := obsXG_eq (HandSHeadRun.getT_eq s)
def looseL : List Str := (["_wall", "Ends", "Shut", "BLANK", "LONGEST", "kind_here", "MORE", "LINE", "Mouth", "_law_pool", "_law_take", "_law_kinds", "_law_text", "_law_told", "_law_fed_on", "_law_read", "_law_cut", "_law_long_right"] : List Str)
theorem run (w : World) : HandSHeadRun.RunEq RR (PySem.W.view RR.prog [22]) hk ob 4000 looseL w := by
  intro os
  kernel_rfl
theorem facts {P : Program} {w : World} {K : PySem.W.Frag} {h : Heap} {mg : Str → Option Value} {f : Addr} (X : K.In h) (G : h.Ns mainGlobals mg) (hfa : mg ("law" : Str) = some (.ref f)) (c : SaysX xfL csL faL fnL K) :
    ∃ fd : FuncData, (∀ (s : Shared) (v : Value), BindsTo s fd ⟨[v], []⟩ [("_law_script", v)]) ∧ ∀ base : Heap, K.In base → base.Ns mainGlobals mg → FnG P w K mg base 11 f fd ["_law_script"] m_law := by
  have T : Tx K mg := ⟨He.free_ok X G (c.d.fact 11 rfl),
    He.free_ok X G (c.d.fact 12 rfl),
    He.free_ok X G (c.d.fact 13 rfl),
    He.free_ok X G (c.d.fact 14 rfl),
    He.free_ok X G (c.d.fact 15 rfl),
    He.free_ok X G (c.d.fact 16 rfl),
    He.free_ok X G (c.d.fact 17 rfl),
    He.free_ok X G (c.d.fact 18 rfl),
    cst_ok X G (c.c 0 rfl),
    cst_ok X G (c.c 1 rfl),
    cst_ok X G (c.c 2 rfl),
    cst_ok X G (c.c 3 rfl),
    ⟨He.cls_ok (c.d.fact 19 rfl), He.noat_ok (c.d.fact 20 rfl)⟩,
    ⟨He.cls_ok (c.d.fact 19 rfl), He.noat_ok (c.d.fact 21 rfl)⟩,
    ⟨He.cls_ok (c.d.fact 19 rfl), He.noat_ok (c.d.fact 22 rfl)⟩,
    He.meth_ok (c.d.fact 23 rfl),
    He.meth_ok (c.d.fact 24 rfl),
    He.meth_ok (c.d.fact 25 rfl),
    He.meth_ok (c.d.fact 26 rfl),
    He.meth_ok (c.d.fact 27 rfl),
    He.meth_ok (c.d.fact 28 rfl),
    He.meth_ok (c.d.fact 29 rfl),
    He.meth_ok (c.d.fact 30 rfl),
    He.meth_ok (c.d.fact 31 rfl),
    He.meth_ok (c.d.fact 32 rfl),
    He.meth_ok (c.d.fact 33 rfl),
    He.meth_ok (c.d.fact 34 rfl),
    He.meth_ok (c.d.fact 35 rfl),
    He.cls_ok (c.d.fact 19 rfl),
    He.mkr_ok (c.d.fact 36 rfl),
    He.glo_ok X G (c.d.fact 37 rfl),
    He.glo_ok X G (c.d.fact 38 rfl),
    He.glo_ok X G (c.d.fact 39 rfl),
    exOk_of (cv := fun K => (.ref (He.ga K "Ends"))) (c.x 0 rfl),
    x0_of xb_RE (c.x 1 rfl) (He.glo_ok X G (c.d.fact 38 rfl)),
    x0_of xb_RE (c.x 2 rfl) (He.glo_ok X G (c.d.fact 39 rfl))⟩
  obtain ⟨fd_kind_here, D_kind_here⟩ := c.d.def_ 0 (d := d_kind_here) rfl
  obtain ⟨fd__law_pool, D__law_pool⟩ := c.d.def_ 1 (d := d__law_pool) rfl
  obtain ⟨fd__law_take, D__law_take⟩ := c.d.def_ 2 (d := d__law_take) rfl
  obtain ⟨fd__law_kinds, D__law_kinds⟩ := c.d.def_ 3 (d := d__law_kinds) rfl
  obtain ⟨fd__law_text, D__law_text⟩ := c.d.def_ 4 (d := d__law_text) rfl
  obtain ⟨fd_Mouth_has, D_Mouth_has⟩ := c.d.def_ 5 (d := d_Mouth_has) rfl
  obtain ⟨fd_Mouth_kind_at, D_Mouth_kind_at⟩ := c.d.def_ 6 (d := d_Mouth_kind_at) rfl
  obtain ⟨fd_Mouth_behind_remark, D_Mouth_behind_remark⟩ := c.d.def_ 7 (d := d_Mouth_behind_remark) rfl
  obtain ⟨fd_Mouth_passed, D_Mouth_passed⟩ := c.d.def_ 8 (d := d_Mouth_passed) rfl
  obtain ⟨fd_Mouth_behind_all, D_Mouth_behind_all⟩ := c.d.def_ 9 (d := d_Mouth_behind_all) rfl
  obtain ⟨fd_Mouth_named, D_Mouth_named⟩ := c.d.def_ 10 (d := d_Mouth_named) rfl
  obtain ⟨fd_Mouth_piece_at, D_Mouth_piece_at⟩ := c.d.def_ 11 (d := d_Mouth_piece_at) rfl
  obtain ⟨fd_Mouth_ended, D_Mouth_ended⟩ := c.d.def_ 12 (d := d_Mouth_ended) rfl
  obtain ⟨fd_Mouth_following, D_Mouth_following⟩ := c.d.def_ 13 (d := d_Mouth_following) rfl
  obtain ⟨fd__law_told, D__law_told⟩ := c.d.def_ 14 (d := d__law_told) rfl
  obtain ⟨fd_Mouth_feed, D_Mouth_feed⟩ := c.d.def_ 15 (d := d_Mouth_feed) rfl
  obtain ⟨fd_Mouth_shut, D_Mouth_shut⟩ := c.d.def_ 16 (d := d_Mouth_shut) rfl
  obtain ⟨fd__law_fed_on, D__law_fed_on⟩ := c.d.def_ 17 (d := d__law_fed_on) rfl
  obtain ⟨fd__law_read, D__law_read⟩ := c.d.def_ 18 (d := d__law_read) rfl
  obtain ⟨fd__law_cut, D__law_cut⟩ := c.d.def_ 19 (d := d__law_cut) rfl
  obtain ⟨fd_Mouth___init__, D_Mouth___init__⟩ := c.d.def_ 20 (d := d_Mouth___init__) rfl
  obtain ⟨fd__law_long_right, D__law_long_right⟩ := c.d.def_ 21 (d := d__law_long_right) rfl
  obtain ⟨fd_Mouth_text, D_Mouth_text⟩ := c.d.def_ 22 (d := d_Mouth_text) rfl
  obtain ⟨fd_Mouth_place, D_Mouth_place⟩ := c.d.def_ 23 (d := d_Mouth_place) rfl
  obtain ⟨fd_law, D_law⟩ := c.d.def_ 24 (d := d_law) rfl
  have e := hfa.symm.trans (He.glo_ok X G (c.d.fact 10 (f := .glo "law") rfl))
  cases e
  have b := FunD.bindsA (ps := ["_law_script"]) D_law fun _ _ _ _ _ _ us hl => match us, hl with | [_], _ => rfl
  refine ⟨fd_law, fun s v => b s [v] rfl, fun base _ _ => ?_⟩
  have F_kind_here := ok_kind_here (P := P) (w := w) (base := base) T  D_kind_here (He.glo_ok X G (c.d.fact 0 rfl))
  have F__law_pool := ok__law_pool (P := P) (w := w) (base := base) T  D__law_pool (He.glo_ok X G (c.d.fact 1 rfl))
  have F__law_take := ok__law_take (P := P) (w := w) (base := base) T  D__law_take (He.glo_ok X G (c.d.fact 2 rfl))
  have F__law_kinds := ok__law_kinds (P := P) (w := w) (base := base) T F__law_take D__law_kinds (He.glo_ok X G (c.d.fact 3 rfl))
  have F__law_text := ok__law_text (P := P) (w := w) (base := base) T F__law_take D__law_text (He.glo_ok X G (c.d.fact 4 rfl))
  have G_Mouth_has := fg_Mouth_has (P := P) (w := w) (mg := mg) (base := base) T  D_Mouth_has
  have F_Mouth_has := has_m G_Mouth_has T.cl_Mouth T.mt_Mouth_has (shp_Mouth_has D_Mouth_has)
  have G_Mouth_kind_at := fg_Mouth_kind_at (P := P) (w := w) (mg := mg) (base := base) T F_kind_here F_Mouth_has D_Mouth_kind_at
  have F_Mouth_kind_at := has_m G_Mouth_kind_at T.cl_Mouth T.mt_Mouth_kind_at (shp_Mouth_kind_at D_Mouth_kind_at)
  have G_Mouth_behind_remark := fg_Mouth_behind_remark (P := P) (w := w) (mg := mg) (base := base) T  D_Mouth_behind_remark
  have F_Mouth_behind_remark := has_m G_Mouth_behind_remark T.cl_Mouth T.mt_Mouth_behind_remark (shp_Mouth_behind_remark D_Mouth_behind_remark)
  have G_Mouth_passed := fg_Mouth_passed (P := P) (w := w) (mg := mg) (base := base) T F_Mouth_kind_at F_Mouth_behind_remark D_Mouth_passed
  have F_Mouth_passed := has_m G_Mouth_passed T.cl_Mouth T.mt_Mouth_passed (shp_Mouth_passed D_Mouth_passed)
  have G_Mouth_behind_all := fg_Mouth_behind_all (P := P) (w := w) (mg := mg) (base := base) T F_Mouth_kind_at D_Mouth_behind_all
  have F_Mouth_behind_all := has_m G_Mouth_behind_all T.cl_Mouth T.mt_Mouth_behind_all (shp_Mouth_behind_all D_Mouth_behind_all)
  have G_Mouth_named := fg_Mouth_named (P := P) (w := w) (mg := mg) (base := base) T F_Mouth_kind_at F_Mouth_behind_all D_Mouth_named
  have F_Mouth_named := has_m G_Mouth_named T.cl_Mouth T.mt_Mouth_named (shp_Mouth_named D_Mouth_named)
  have G_Mouth_piece_at := fg_Mouth_piece_at (P := P) (w := w) (mg := mg) (base := base) T F_Mouth_has F_Mouth_kind_at F_Mouth_behind_all F_Mouth_named D_Mouth_piece_at
  have F_Mouth_piece_at := has_m G_Mouth_piece_at T.cl_Mouth T.mt_Mouth_piece_at (shp_Mouth_piece_at D_Mouth_piece_at)
  have G_Mouth_ended := fg_Mouth_ended (P := P) (w := w) (mg := mg) (base := base) T  D_Mouth_ended
  have F_Mouth_ended := has_m G_Mouth_ended T.cl_Mouth T.mt_Mouth_ended (shp_Mouth_ended D_Mouth_ended)
  have G_Mouth_following := fg_Mouth_following (P := P) (w := w) (mg := mg) (base := base) T F_Mouth_has F_Mouth_passed F_Mouth_piece_at F_Mouth_ended D_Mouth_following
  have F_Mouth_following := has_m G_Mouth_following T.cl_Mouth T.mt_Mouth_following (shp_Mouth_following D_Mouth_following)
  have F__law_told := ok__law_told (P := P) (w := w) (base := base) T F_Mouth_following D__law_told (He.glo_ok X G (c.d.fact 5 rfl))
  have G_Mouth_feed := fg_Mouth_feed (P := P) (w := w) (mg := mg) (base := base) T  D_Mouth_feed
  have F_Mouth_feed := has_m G_Mouth_feed T.cl_Mouth T.mt_Mouth_feed (shp_Mouth_feed D_Mouth_feed)
  have G_Mouth_shut := fg_Mouth_shut (P := P) (w := w) (mg := mg) (base := base) T  D_Mouth_shut
  have F_Mouth_shut := has_m G_Mouth_shut T.cl_Mouth T.mt_Mouth_shut (shp_Mouth_shut D_Mouth_shut)
  have F__law_fed_on := ok__law_fed_on (P := P) (w := w) (base := base) T F__law_told F_Mouth_feed F_Mouth_shut D__law_fed_on (He.glo_ok X G (c.d.fact 6 rfl))
  have F__law_read := ok__law_read (P := P) (w := w) (base := base) T F__law_fed_on F_Mouth_feed D__law_read (He.glo_ok X G (c.d.fact 7 rfl))
  have F__law_cut := ok__law_cut (P := P) (w := w) (base := base) T F__law_take D__law_cut (He.glo_ok X G (c.d.fact 8 rfl))
  have G_Mouth___init__ := fg_Mouth___init__ (P := P) (w := w) (mg := mg) (base := base) T  D_Mouth___init__
  have C_Mouth := has_c G_Mouth___init__ T.mk_Mouth T.gl_Mouth (shp_Mouth___init__ D_Mouth___init__)
  have F__law_long_right := ok__law_long_right (P := P) (w := w) (base := base) T F__law_read C_Mouth D__law_long_right (He.glo_ok X G (c.d.fact 9 rfl))
  have G_Mouth_text := fg_Mouth_text (P := P) (w := w) (mg := mg) (base := base) T  D_Mouth_text
  have F_Mouth_text := has_m G_Mouth_text T.cl_Mouth T.mt_Mouth_text (shp_Mouth_text D_Mouth_text)
  have G_Mouth_place := fg_Mouth_place (P := P) (w := w) (mg := mg) (base := base) T  D_Mouth_place
  have F_Mouth_place := has_m G_Mouth_place T.cl_Mouth T.mt_Mouth_place (shp_Mouth_place D_Mouth_place)
  exact fg_law T F__law_pool F__law_take F__law_kinds F__law_text F__law_read F__law_cut F__law_long_right C_Mouth F_Mouth_text F_Mouth_place D_law
end Mv
open PySem PySem.W PySem.Calls PyProof.Rows
set_option maxHeartbeats 0 in
theorem PySem.Challenge.cw_mouthrules_k09_whole_in_whatever_portion_holds : PySem.Challenge.rw_mouthrules_k09_whole_in_whatever_portion.Holds := by
  w_on; o_law
  refine HandSHeadRun.head_any (r := OpenLaw.row PySem.Challenge.rw_mouthrules_k09_whole_in_whatever_portion) (q := view (OpenLaw.row PySem.Challenge.rw_mouthrules_k09_whole_in_whatever_portion).prog [22]) (H := Mv.hk) (ob := Mv.ob) (M := 4000) (loose := Mv.looseL) (d := HandSHeadRun.topDef (OpenLaw.row PySem.Challenge.rw_mouthrules_k09_whole_in_whatever_portion).prog 22) (kwd := []) Mv.ob_eq
    (by kernel_rfl) (fun s => by kernel_rfl) Mv.run (by kernel_rfl) (by kernel_rfl) (by kernel_rfl) (by rfl) (by first | assumption | decide +kernel) (by decide +kernel) ⟨rfl, rfl, rfl, rfl, rfl, by decide +kernel⟩ ?hw ?hc
  case hw => w_witness2
  case hc =>
    refine Mv.walk_g (l := PySem.Challenge.rw_mouthrules_k09_whole_in_whatever_portion) (n := 63) (k := 11) (x := "_law_script") rfl (by decide) (by kernel_rfl) ⟨rfl, by decide, by decide⟩ ?F
    intro w mg fa h Y G hmg0
    obtain ⟨K, KX, c⟩ := Y
    have hmg : mg ("law" : PySem.Str) = some (.ref fa) := by
      have e : (HandSHeadRun.topDef (OpenLaw.row PySem.Challenge.rw_mouthrules_k09_whole_in_whatever_portion).prog 22).name = ("law" : PySem.Str) := by kernel_rfl
      rw [← e]
      exact hmg0
    obtain ⟨fd, hb, hF⟩ := Mv.facts (P := (PySem.Challenge.rw_mouthrules_k09_whole_in_whatever_portion).prog) (w := w) KX G hmg c
    exact ⟨K, fd, Mv.m_law, KX, hb, fun ns hl => Mv.law_true ns hl, hF⟩

