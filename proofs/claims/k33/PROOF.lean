import PyProof.Rows.All
import Wide.All
import OpenK.AllK
import Wide.FinOn
import HandS.ForMost
import HandS.Walk
import HandS.Exc
import HandS.ExcOwn
import HandS.WordsExc
import HandS.HeadHook1
import HandS.HeadHook2
import HandS.TupAny
import HandS.IsInst
import HandS.TupLe
import HandS.TupMul
import HandS.Defaults
import HandS.CallSlots
import HandS.Head0
import HandS.Head1
import HandS.Head2
import HandS.HeadEnd
import PySem.Challenge.RW_guestlives_k33_buffered_stores_in_order
set_option Elab.async false
set_option linter.all false
set_option maxRecDepth 100000
set_option maxHeartbeats 1000000
namespace GL
open PySem PySem.Spec PyProof.Rows L2

abbrev Nm := List Nat
def toS (l : Nm) : Str := ⟨l.toArray⟩
theorem toS_inj {a b : Nm} (h : toS a = toS b) : a = b := by
  have := congrArg (fun s : Str => s.cps.toList) h
  simpa [toS] using this
theorem toS_cps (x : Str) : toS x.cps.toList = x := by
  cases x; simp [toS]

/-- built-in types that are named -/
inductive BT where
  | int | bool | str | list | tuple | dict | set | none
  deriving DecidableEq, Inhabited
def BT.name : BT → String
  | .int => "int" | .bool => "bool" | .str => "str" | .list => "list" | .tuple => "tuple" | .dict => "dict" | .set => "set" | .none => "NoneType"
/-- values: tuples are data, lists dicts instances are places of the store -/
inductive PV where
  | non | bl (b : Bool) | int (i : Int) | str (s : List Nat) | tup (xs : List PV) | loc (n : Nat) | gl (x : Nm) | ty (b : BT)
  deriving Inhabited

inductive OB where
  | lst (xs : List PV)
  | rol (xs : List PV)
  | dct (kvs : List (PV × PV))
  | fdct (kvs : List (PV × PV))
  | ins (C : Nm) (fs : List (Nm × PV))
  deriving Inhabited
def OB.mut : OB → Bool
  | .rol _ => false
  | .fdct _ => false
  | _ => true
abbrev Sto := List OB
abbrev Ls := List (Option PV)

structure Exn where
  cls : Nm
  fs : List (Nm × PV)

inductive Out (α : Type) where
  | ok (a : α) (S : Sto)
  | exc (e : Exn) (S : Sto)
  | bad
inductive SOut where
  | nx (ls : Ls) (S : Sto)
  | rt (w : PV) (S : Sto)
  | bk (ls : Ls) (S : Sto)
  | ct (ls : Ls) (S : Sto)
  | exc (e : Exn) (ls : Ls) (S : Sto)
  | bad
abbrev ME := Ls → Sto → Out PV
abbrev MT := Ls → Sto → Out Bool
abbrev MA := Ls → Sto → Out (List PV)
abbrev MS := Ls → Sto → SOut
def Out.bind {α β : Type} (o : Out α) (f : α → Sto → Out β) : Out β := match o with
  | .ok a S => f a S
  | .exc e S => .exc e S
  | .bad => .bad
def Out.then {α : Type} (o : Out α) (ls : Ls) (f : α → Sto → SOut) : SOut := match o with
  | .ok a S => f a S
  | .exc e S => .exc e ls S
  | .bad => .bad
def SOut.seq (o : SOut) (f : MS) : SOut := match o with
  | .nx ls S => f ls S
  | r => r

/-! ### relations -/
mutual
inductive RW (K : PySem.W.Frag) (ρ : Nat → Addr) (N : Nat) (H : Hp) : PV → V → Prop
  | non : RW K ρ N H .non .non
  | bl (b : Bool) : RW K ρ N H (.bl b) (.bl b)
  | int (i : Int) : RW K ρ N H (.int i) (.int i)
  | str (x : Str) : RW K ρ N H (.str x.cps.toList) (.str x)
  | tup {xs : List PV} {a : Addr} {vs : List V} : SqT K H a vs → RWs K ρ N H xs vs → RW K ρ N H (.tup xs) (.ref a)
  | loc (n : Nat) : n < N → RW K ρ N H (.loc n) (.ref (ρ n))
  | gl (x : Nm) : RW K ρ N H (.gl x) (.ref (He.ga K (toS x)))
  | ty (n : BT) : RW K ρ N H (.ty n) (.ty n.name)
inductive RWs (K : PySem.W.Frag) (ρ : Nat → Addr) (N : Nat) (H : Hp) : List PV → List V → Prop
  | nil : RWs K ρ N H [] []
  | cons {w : PV} {ws : List PV} {v : V} {vs : List V} : RW K ρ N H w v → RWs K ρ N H ws vs → RWs K ρ N H (w :: ws) (v :: vs)
end
/-- a list that is only read -/
def RoL (K : PySem.W.Frag) (H : Hp) (a : Addr) (xs : List V) : Prop :=
  (∃ o, H a = some (.frz o (.lst xs))) ∨
    ∃ (o : Obj) (its : Array Value) (n : Nat), K.lookup a = some o ∧ o.cls = .type "list" ∧ o.dict = none ∧ o.data = .seq its n ∧ its.size ≤ sizeLine ∧ Vals xs its.toList
theorem RoL.sq {K : PySem.W.Frag} {H : Hp} {a : Addr} {xs : List V} (h : RoL K H a xs) : SqL K H a xs := by
  rcases h with ⟨o, h⟩ | h
  · exact .inl (.inr ⟨o, h⟩)
  · exact .inr h
def Ext (K : PySem.W.Frag) (ρ : Nat → Addr) (N : Nat) (H : Hp) (ρ' : Nat → Addr) (N' : Nat) (H' : Hp) : Prop :=
  N ≤ N' ∧ (∀ n, n < N → ρ' n = ρ n) ∧ (∀ a vs, SqT K H a vs → SqT K H' a vs) ∧ ∀ a vs, RoL K H a vs → RoL K H' a vs
section
variable {K : PySem.W.Frag} {ρ ρ' ρ'' : Nat → Addr} {N N' N'' : Nat} {H H' H'' : Hp}
theorem Ext.refl : Ext K ρ N H ρ N H := ⟨Nat.le_refl _, fun _ _ => rfl, fun _ _ h => h, fun _ _ h => h⟩
theorem Ext.trans (a : Ext K ρ N H ρ' N' H') (b : Ext K ρ' N' H' ρ'' N'' H'') : Ext K ρ N H ρ'' N'' H'' :=
  ⟨Nat.le_trans a.1 b.1, fun n h => (b.2.1 n (Nat.lt_of_lt_of_le h a.1)).trans (a.2.1 n h), fun x vs h => b.2.2.1 x vs (a.2.2.1 x vs h), fun x vs h => b.2.2.2 x vs (a.2.2.2 x vs h)⟩
mutual
theorem RW.ext (e : Ext K ρ N H ρ' N' H') : ∀ {w : PV} {v : V}, RW K ρ N H w v → RW K ρ' N' H' w v
  | _, _, .non => .non
  | _, _, .bl b => .bl b
  | _, _, .int i => .int i
  | _, _, .str x => .str x
  | _, _, .tup h hs => .tup (e.2.2.1 _ _ h) (RWs.ext e hs)
  | _, _, .loc n h => by
    rw [← e.2.1 n h]
    exact .loc n (Nat.lt_of_lt_of_le h e.1)
  | _, _, .gl x => .gl x
  | _, _, .ty n => .ty n
theorem RWs.ext (e : Ext K ρ N H ρ' N' H') : ∀ {w : List PV} {v : List V}, RWs K ρ N H w v → RWs K ρ' N' H' w v
  | _, _, .nil => .nil
  | _, _, .cons h hs => .cons (RW.ext e h) (RWs.ext e hs)
end
theorem RWs.length : ∀ {ws : List PV} {vs : List V}, RWs K ρ N H ws vs → ws.length = vs.length
  | _, _, .nil => rfl
  | _, _, .cons _ t => by simp [RWs.length t]
theorem RWs.get : ∀ {ws : List PV} {vs : List V} {i : Nat} {w : PV}, RWs K ρ N H ws vs → ws[i]? = some w → ∃ v, vs[i]? = some v ∧ RW K ρ N H w v
  | _, _, _, _, .nil, e => by simp at e
  | _, _, 0, _, .cons r _, e => by simp at e; subst e; exact ⟨_, rfl, r⟩
  | _, _, i + 1, w, .cons _ t, e => by
    obtain ⟨v, h1, h2⟩ := RWs.get (i := i) (w := w) t (by simpa using e)
    exact ⟨v, by simpa using h1, h2⟩
theorem RWs.get' : ∀ {ws : List PV} {vs : List V} {i : Nat} {v : V}, RWs K ρ N H ws vs → vs[i]? = some v → ∃ w, ws[i]? = some w ∧ RW K ρ N H w v
  | _, _, _, _, .nil, e => by simp at e
  | _, _, 0, _, .cons r _, e => by simp at e; subst e; exact ⟨_, rfl, r⟩
  | _, _, i + 1, v, .cons _ t, e => by
    obtain ⟨w, h1, h2⟩ := RWs.get' (i := i) (v := v) t (by simpa using e)
    exact ⟨w, by simpa using h1, h2⟩
theorem RWs.app : ∀ {ws ws' : List PV} {vs vs' : List V}, RWs K ρ N H ws vs → RWs K ρ N H ws' vs' → RWs K ρ N H (ws ++ ws') (vs ++ vs')
  | _, _, _, _, .nil, s => s
  | _, _, _, _, .cons r t, s => .cons r (RWs.app t s)
theorem RWs.take : ∀ {ws : List PV} {vs : List V} (n : Nat), RWs K ρ N H ws vs → RWs K ρ N H (ws.take n) (vs.take n)
  | _, _, 0, _ => .nil
  | _, _, _ + 1, .nil => .nil
  | _, _, n + 1, .cons r t => .cons r (RWs.take n t)
theorem RWs.drop : ∀ {ws : List PV} {vs : List V} (n : Nat), RWs K ρ N H ws vs → RWs K ρ N H (ws.drop n) (vs.drop n)
  | _, _, 0, r => r
  | _, _, _ + 1, .nil => .nil
  | _, _, n + 1, .cons _ t => RWs.drop n t
theorem RWs.set {w : PV} {v : V} (r : RW K ρ N H w v) : ∀ {ws : List PV} {vs : List V} (i : Nat), RWs K ρ N H ws vs → RWs K ρ N H (ws.set i w) (vs.set i v)
  | _, _, _, .nil => .nil
  | _, _, 0, .cons _ t => .cons r t
  | _, _, i + 1, .cons q t => .cons q (RWs.set r i t)
theorem RWs.reverse : ∀ {ws : List PV} {vs : List V}, RWs K ρ N H ws vs → RWs K ρ N H ws.reverse vs.reverse
  | _, _, .nil => .nil
  | _, _, .cons r t => by
    rw [List.reverse_cons, List.reverse_cons]
    exact RWs.app (RWs.reverse t) (.cons r .nil)
theorem RWs.dropLast {ws : List PV} {vs : List V} (h : RWs K ρ N H ws vs) : RWs K ρ N H ws.dropLast vs.dropLast := by
  rw [List.dropLast_eq_take, List.dropLast_eq_take, h.length]; exact h.take _
end

/-- fields -/
inductive RFs (K : PySem.W.Frag) (ρ : Nat → Addr) (N : Nat) (H : Hp) : List (Nm × PV) → List (Str × V) → Prop
  | nil : RFs K ρ N H [] []
  | cons {f : Nm} {w : PV} {r : List (Nm × PV)} {v : V} {r' : List (Str × V)} : RW K ρ N H w v → RFs K ρ N H r r' → RFs K ρ N H ((f, w) :: r) ((toS f, v) :: r')
def RKey : PV → Key → Prop
  | .int i, .inl j => i = j
  | .str l, .inr x => x.cps.toList = l
  | _, _ => False
inductive RKs (K : PySem.W.Frag) (ρ : Nat → Addr) (N : Nat) (H : Hp) : List (PV × PV) → List (Key × V) → Prop
  | nil : RKs K ρ N H [] []
  | cons {k w : PV} {r : List (PV × PV)} {kk : Key} {v : V} {r' : List (Key × V)} : RKey k kk → RW K ρ N H w v → RKs K ρ N H r r' → RKs K ρ N H ((k, w) :: r) ((kk, v) :: r')
def RO (K : PySem.W.Frag) (ρ : Nat → Addr) (N : Nat) (H : Hp) : OB → Addr → Prop
  | .lst xs, a => ∃ vs, H a = some (.lst vs) ∧ RWs K ρ N H xs vs
  | .rol xs, a => ∃ vs, RoL K H a vs ∧ RWs K ρ N H xs vs
  | .dct kvs, a => ∃ kv', H a = some (.dK kv') ∧ RKs K ρ N H kvs kv'
  | .fdct kvs, a => ∃ o kv', H a = some (.frz o (.dK kv')) ∧ RKs K ρ N H kvs kv'
  | .ins C fs, a => ∃ dx fs', H a = some (.ins (He.ga K (toS C)) dx fs') ∧ RFs K ρ N H fs fs'
structure RSt (K : PySem.W.Frag) (ρ : Nat → Addr) (H : Hp) (S : Sto) : Prop where
  at_ : ∀ n o, S[n]? = some o → RO K ρ S.length H o (ρ n)
  inj : ∀ n m o o', S[n]? = some o → S[m]? = some o' → o.mut = true → o'.mut = true → ρ n = ρ m → n = m
section
variable {K : PySem.W.Frag} {ρ ρ' ρ'' : Nat → Addr} {N N' N'' : Nat} {H H' H'' : Hp} {S : Sto}
theorem RFs.ext (e : Ext K ρ N H ρ' N' H') : ∀ {w : List (Nm × PV)} {v : List (Str × V)}, RFs K ρ N H w v → RFs K ρ' N' H' w v
  | _, _, .nil => .nil
  | _, _, .cons h hs => .cons (RW.ext e h) (RFs.ext e hs)
theorem RKs.ext (e : Ext K ρ N H ρ' N' H') : ∀ {w : List (PV × PV)} {v : List (Key × V)}, RKs K ρ N H w v → RKs K ρ' N' H' w v
  | _, _, .nil => .nil
  | _, _, .cons hk h hs => .cons hk (RW.ext e h) (RKs.ext e hs)
theorem RoL.keep {a : Addr} {xs : List V} (k : ∀ h, H a = some h → H' a = some h) (h : RoL K H a xs) : RoL K H' a xs := by
  rcases h with ⟨o, h⟩ | h
  · exact .inl ⟨o, k _ h⟩
  · exact .inr h
theorem RO.ext {o : OB} {a : Addr} (e : Ext K ρ N H ρ' N' H') (k : ∀ h, H a = some h → H' a = some h) (r : RO K ρ N H o a) : RO K ρ' N' H' o a := by
  cases o with
  | lst xs => obtain ⟨vs, h, r⟩ := r; exact ⟨vs, k _ h, r.ext e⟩
  | rol xs => obtain ⟨vs, h, r⟩ := r; exact ⟨vs, h.keep k, r.ext e⟩
  | dct kvs => obtain ⟨vs, h, r⟩ := r; exact ⟨vs, k _ h, r.ext e⟩
  | fdct kvs => obtain ⟨o, vs, h, r⟩ := r; exact ⟨o, vs, k _ h, r.ext e⟩
  | ins C fs => obtain ⟨dx, vs, h, r⟩ := r; exact ⟨dx, vs, k _ h, r.ext e⟩
/-- a mutable one is tracked, and is no tuple and not locked -/
def MutH : HO → Prop
  | .lst _ => True
  | .dK _ => True
  | .ins _ _ _ => True
  | _ => False
theorem RO.mutH {o : OB} {a : Addr} (r : RO K ρ N H o a) (m : o.mut = true) : ∃ h, H a = some h ∧ MutH h := by
  cases o with
  | lst xs => obtain ⟨vs, h, r⟩ := r; exact ⟨_, h, trivial⟩
  | rol xs => cases m
  | dct kvs => obtain ⟨vs, h, r⟩ := r; exact ⟨_, h, trivial⟩
  | fdct kvs => cases m
  | ins C fs => obtain ⟨dx, vs, h, r⟩ := r; exact ⟨_, h, trivial⟩
theorem sqt_upd_new {p a : Addr} {ho : HO} {vs : List V} (hp : H p = none) (h : SqT K H a vs) : SqT K (upd H p ho) a vs := by
  rcases h with (h | ⟨o, h⟩) | h
  · exact .inl (.inl (by rw [upd_ne (ne_of_none h hp)]; exact h))
  · exact .inl (.inr ⟨o, by rw [upd_ne (ne_of_none h hp)]; exact h⟩)
  · exact .inr h
theorem sqt_upd_mut {p a : Addr} {h0 ho : HO} {vs : List V} (hp : H p = some h0) (m : MutH h0) (h : SqT K H a vs) : SqT K (upd H p ho) a vs := by
  rcases h with (h | ⟨o, h⟩) | h
  · exact .inl (.inl (by rw [upd_ne (ne_of h hp (by rintro rfl; exact m))]; exact h))
  · exact .inl (.inr ⟨o, by rw [upd_ne (ne_of h hp (by rintro rfl; exact m))]; exact h⟩)
  · exact .inr h
theorem rol_upd_new {p a : Addr} {ho : HO} {vs : List V} (hp : H p = none) (h : RoL K H a vs) : RoL K (upd H p ho) a vs :=
  h.keep fun _ e => by rw [upd_ne (ne_of_none e hp)]; exact e
theorem rol_upd_mut {p a : Addr} {h0 ho : HO} {vs : List V} (hp : H p = some h0) (m : MutH h0) (h : RoL K H a vs) : RoL K (upd H p ho) a vs := by
  rcases h with ⟨o, h⟩ | h
  · exact .inl ⟨o, by rw [upd_ne (ne_of h hp (by rintro rfl; exact m))]; exact h⟩
  · exact .inr h
/-- the place of a new object -/
def grow (ρ : Nat → Addr) (N : Nat) (p : Addr) : Nat → Addr := fun n => if n = N then p else ρ n
theorem grow_new {p : Addr} : grow ρ N p N = p := by simp [grow]
theorem grow_old {p : Addr} {n : Nat} (h : n < N) : grow ρ N p n = ρ n := by simp [grow, Nat.ne_of_lt h]
theorem ext_new {p : Addr} {ho : HO} (hp : H p = none) : Ext K ρ N H (grow ρ N p) (N + 1) (upd H p ho) :=
  ⟨Nat.le_succ _, fun _ h => grow_old h, fun _ _ h => sqt_upd_new hp h, fun _ _ h => rol_upd_new hp h⟩
theorem ext_keep {p : Addr} {ho : HO} (hp : H p = none) : Ext K ρ N H ρ N (upd H p ho) :=
  ⟨Nat.le_refl _, fun _ _ => rfl, fun _ _ h => sqt_upd_new hp h, fun _ _ h => rol_upd_new hp h⟩
theorem ext_upd {p : Addr} {h0 ho : HO} (hp : H p = some h0) (m : MutH h0) : Ext K ρ N H ρ N (upd H p ho) :=
  ⟨Nat.le_refl _, fun _ _ => rfl, fun _ _ h => sqt_upd_mut hp m h, fun _ _ h => rol_upd_mut hp m h⟩
theorem lt_of_get {n : Nat} {o : OB} (h : S[n]? = some o) : n < S.length := (List.getElem?_eq_some_iff.mp h).1
/-- the heap alone has grown (a new tuple, an instance's own dict) -/
theorem RSt.keep (r : RSt K ρ H S) {p : Addr} {ho : HO} (hp : H p = none) : RSt K ρ (upd H p ho) S :=
  ⟨fun n o h => (r.at_ n o h).ext (ext_keep hp) fun h' e => by rw [upd_ne (ne_of_none e hp)]; exact e, r.inj⟩
theorem RSt.new (r : RSt K ρ H S) {p : Addr} {ho : HO} {o : OB} (hp : H p = none) (hm : o.mut = true) (ro : RO K (grow ρ S.length p) (S.length + 1) (upd H p ho) o p) :
    RSt K (grow ρ S.length p) (upd H p ho) (S ++ [o]) := by
  have e : Ext K ρ S.length H (grow ρ S.length p) (S.length + 1) (upd H p ho) := ext_new hp
  have hl : (S ++ [o]).length = S.length + 1 := by simp
  refine ⟨fun n o' h => ?_, fun n m o1 o2 h1 h2 m1 m2 q => ?_⟩
  · rw [hl]
    by_cases hn : n < S.length
    · rw [List.getElem?_append_left hn] at h
      rw [grow_old hn]
      exact (r.at_ n o' h).ext e fun h' e' => by rw [upd_ne (ne_of_none e' hp)]; exact e'
    · have : n = S.length := by have := lt_of_get h; omega
      subst this
      rw [List.getElem?_append_right (Nat.le_refl _)] at h
      simp at h; subst h
      rw [grow_new]; exact ro
  · have l1 := lt_of_get h1
    have l2 := lt_of_get h2
    rw [hl] at l1 l2
    by_cases a1 : n < S.length
    · rw [List.getElem?_append_left a1] at h1
      by_cases a2 : m < S.length
      · rw [List.getElem?_append_left a2] at h2
        rw [grow_old a1, grow_old a2] at q
        exact r.inj n m o1 o2 h1 h2 m1 m2 q
      · have : m = S.length := by omega
        subst this
        rw [grow_old a1, grow_new] at q
        obtain ⟨ho', e1, _⟩ := (r.at_ n o1 h1).mutH m1
        rw [q, hp] at e1; cases e1
    · have : n = S.length := by omega
      subst this
      by_cases a2 : m < S.length
      · rw [List.getElem?_append_left a2] at h2
        rw [grow_old a2, grow_new] at q
        obtain ⟨ho', e1, _⟩ := (r.at_ m o2 h2).mutH m2
        rw [← q, hp] at e1; cases e1
      · omega
theorem RSt.set (r : RSt K ρ H S) {n : Nat} {o o' : OB} {ho : HO} (hn : S[n]? = some o) (hm : o.mut = true) (hm' : o'.mut = true) (ro : RO K ρ S.length (upd H (ρ n) ho) o' (ρ n)) :
    RSt K ρ (upd H (ρ n) ho) (S.set n o') := by
  obtain ⟨h0, e0, mh⟩ := (r.at_ n o hn).mutH hm
  have e : Ext K ρ S.length H ρ S.length (upd H (ρ n) ho) := ext_upd e0 mh
  have ln := lt_of_get hn
  refine ⟨fun m o2 h => ?_, fun m m' o1 o2 h1 h2 m1 m2 q => ?_⟩
  · rw [List.length_set]
    by_cases hmn : n = m
    · subst hmn
      rw [List.getElem?_set_self ln] at h
      cases h; exact ro
    · rw [List.getElem?_set_ne hmn] at h
      have ro2 := r.at_ m o2 h
      by_cases mm : o2.mut = true
      · refine ro2.ext e fun h' e' => ?_
        rw [upd_ne (fun z => hmn (r.inj n m o o2 hn h hm mm z.symm))]; exact e'
      · cases o2 with
        | rol xs =>
          obtain ⟨vs, hr, rr⟩ := ro2
          refine ⟨vs, ?_, rr.ext e⟩
          rcases hr with ⟨ob, hr⟩ | hr
          · exact .inl ⟨ob, by rw [upd_ne (ne_of hr e0 (by rintro rfl; exact mh))]; exact hr⟩
          · exact .inr hr
        | fdct kvs =>
          obtain ⟨ob, vs, hr, rr⟩ := ro2
          exact ⟨ob, vs, by rw [upd_ne (ne_of hr e0 (by rintro rfl; exact mh))]; exact hr, rr.ext e⟩
        | _ => exact absurd rfl mm
  · have g : ∀ {k : Nat} {ob : OB}, (S.set n o')[k]? = some ob → ob.mut = true → ∃ ob', S[k]? = some ob' ∧ ob'.mut = true := fun {k ob} hk mk => by
      by_cases hkn : n = k
      · subst hkn; exact ⟨o, hn, hm⟩
      · rw [List.getElem?_set_ne hkn] at hk; exact ⟨ob, hk, mk⟩
    obtain ⟨a, a1, a2⟩ := g h1 m1
    obtain ⟨b, b1, b2⟩ := g h2 m2
    exact r.inj m m' a b a1 b1 a2 b2 q
end
end GL

set_option Elab.async false
set_option linter.all false
set_option maxRecDepth 100000
set_option maxHeartbeats 1000000
namespace GL
open PySem PySem.Spec PyProof.Rows L2

/-! ### locals -/
inductive RL (K : PySem.W.Frag) (ρ : Nat → Addr) (N : Nat) (H : Hp) : Ls → L2.St → Prop
  | nil : RL K ρ N H [] []
  | no {ls : Ls} {o : Option V} {σ : L2.St} : RL K ρ N H ls σ → RL K ρ N H (none :: ls) (o :: σ)
  | yes {w : PV} {v : V} {ls : Ls} {σ : L2.St} : RW K ρ N H w v → RL K ρ N H ls σ → RL K ρ N H (some w :: ls) (some v :: σ)
section
variable {K : PySem.W.Frag} {ρ ρ' ρ'' : Nat → Addr} {N N' N'' : Nat} {H H' H'' : Hp} {S : Sto} {ls : Ls} {σ : L2.St}
theorem RL.ext (e : Ext K ρ N H ρ' N' H') : ∀ {ls : Ls} {σ : L2.St}, RL K ρ N H ls σ → RL K ρ' N' H' ls σ
  | _, _, .nil => .nil
  | _, _, .no t => .no (RL.ext e t)
  | _, _, .yes r t => .yes (r.ext e) (RL.ext e t)
theorem RL.length : ∀ {ls : Ls} {σ : L2.St}, RL K ρ N H ls σ → ls.length = σ.length
  | _, _, .nil => rfl
  | _, _, .no t => by simp [RL.length t]
  | _, _, .yes _ t => by simp [RL.length t]
theorem RL.get : ∀ {ls : Ls} {σ : L2.St} {i : Nat} {w : PV}, RL K ρ N H ls σ → ls[i]? = some (some w) → ∃ v, σ[i]? = some (some v) ∧ RW K ρ N H w v
  | _, _, _, _, .nil, e => by simp at e
  | _, _, 0, _, .no _, e => by simp at e
  | _, _, 0, _, .yes r _, e => by simp at e; subst e; exact ⟨_, rfl, r⟩
  | _, _, i + 1, w, .no t, e => by
    obtain ⟨v, h1, h2⟩ := RL.get (i := i) (w := w) t (by simpa using e)
    exact ⟨v, by simpa using h1, h2⟩
  | _, _, i + 1, w, .yes _ t, e => by
    obtain ⟨v, h1, h2⟩ := RL.get (i := i) (w := w) t (by simpa using e)
    exact ⟨v, by simpa using h1, h2⟩
theorem RL.set {w : PV} {v : V} (r : RW K ρ N H w v) : ∀ {ls : Ls} {σ : L2.St} (i : Nat), RL K ρ N H ls σ → RL K ρ N H (ls.set i (some w)) (σ.set i (some v))
  | _, _, _, .nil => .nil
  | _, _, 0, .no t => .yes r t
  | _, _, 0, .yes _ t => .yes r t
  | _, _, i + 1, .no t => .no (RL.set r i t)
  | _, _, i + 1, .yes q t => .yes q (RL.set r i t)
theorem RL.wipe1 (o : Option V) : ∀ {ls : Ls} {σ : L2.St} (i : Nat), RL K ρ N H ls σ → RL K ρ N H (ls.set i none) (σ.set i o)
  | _, _, _, .nil => .nil
  | _, _, 0, .no t => .no t
  | _, _, 0, .yes _ t => .no t
  | _, _, i + 1, .no t => .no (RL.wipe1 o i t)
  | _, _, i + 1, .yes q t => .yes q (RL.wipe1 o i t)
end
def wipeL (ls : Ls) : List Nat → Ls
  | [] => ls
  | v :: vs => (wipeL ls vs).set v none
theorem RL.wipe {K : PySem.W.Frag} {ρ : Nat → Addr} {N : Nat} {H : Hp} {ls : Ls} {σ : L2.St} (h : RL K ρ N H ls σ) : ∀ vs : List Nat, RL K ρ N H (wipeL ls vs) (L2.wipe σ vs)
  | [] => h
  | v :: vs => RL.wipe1 _ v (RL.wipe h vs)

/-! ### what holds behind -/
def RX (K : PySem.W.Frag) (ρ : Nat → Addr) (N : Nat) (H : Hp) (e : Exn) (cls : Value) (d : Option Addr) : Prop :=
  cls = .ref (He.ga K (toS e.cls)) ∧ ∃ dx fs', d = some dx ∧ H dx = some (.xd fs') ∧ RFs K ρ N H e.fs fs'
abbrev RelF (α β : Type) := PySem.W.Frag → (Nat → Addr) → Nat → Hp → α → β → Prop
def Post {α β : Type} (R : RelF α β) (K : PySem.W.Frag) (ρ : Nat → Addr) (N : Nat) (H : Hp) (Ex : XK) (o : Out α) (Q : β → Hp → Prop) : Prop := match o with
  | .ok a S' => ∀ ρ' H' b, Ext K ρ N H ρ' S'.length H' → RSt K ρ' H' S' → R K ρ' S'.length H' a b → Q b H'
  | .exc e S' => ∀ ρ' H' cls d, Ext K ρ N H ρ' S'.length H' → RSt K ρ' H' S' → RX K ρ' S'.length H' e cls d → Ex cls d H'
  | .bad => False
def PostS (K : PySem.W.Frag) (ρ : Nat → Addr) (N : Nat) (H : Hp) (Wx : WX) (o : SOut) (D : Ends) : Prop := match o with
  | .nx ls' S' => ∀ ρ' H' σ', Ext K ρ N H ρ' S'.length H' → RSt K ρ' H' S' → RL K ρ' S'.length H' ls' σ' → D.nx σ' H'
  | .bk ls' S' => ∀ ρ' H' σ', Ext K ρ N H ρ' S'.length H' → RSt K ρ' H' S' → RL K ρ' S'.length H' ls' σ' → D.bk σ' H'
  | .ct ls' S' => ∀ ρ' H' σ', Ext K ρ N H ρ' S'.length H' → RSt K ρ' H' S' → RL K ρ' S'.length H' ls' σ' → D.ct σ' H'
  | .rt w S' => ∀ ρ' H' v, Ext K ρ N H ρ' S'.length H' → RSt K ρ' H' S' → RW K ρ' S'.length H' w v → D.rt v H'
  | .exc e ls' S' => ∀ ρ' H' σ' cls d, Ext K ρ N H ρ' S'.length H' → RSt K ρ' H' S' → RL K ρ' S'.length H' ls' σ' → RX K ρ' S'.length H' e cls d → Wx cls d σ' H'
  | .bad => False
abbrev RBool : RelF Bool Bool := fun _ _ _ _ a b => a = b
section
variable {α β γ δ : Type} {R : RelF α β} {R2 : RelF γ δ} {K : PySem.W.Frag} {ρ ρ' : Nat → Addr} {N N' : Nat} {H H' : Hp} {Ex : XK} {o : Out α} {Q Q' : β → Hp → Prop}
theorem Post.imp (h : Post R K ρ N H Ex o Q) (q : ∀ b H', Q b H' → Q' b H') : Post R K ρ N H Ex o Q' := by
  cases o with
  | ok a S' => exact fun ρ' H' b e r x => q b H' (h ρ' H' b e r x)
  | exc e S' => exact h
  | bad => exact h
theorem Post.ext (e : Ext K ρ N H ρ' N' H') (h : Post R K ρ N H Ex o Q) : Post R K ρ' N' H' Ex o Q := by
  cases o with
  | ok a S' => exact fun ρ2 H2 b e2 r x => h ρ2 H2 b (e.trans e2) r x
  | exc x S' => exact fun ρ2 H2 c d e2 r x => h ρ2 H2 c d (e.trans e2) r x
  | bad => exact h
theorem PostS.ext {Wx : WX} {so : SOut} {D : Ends} (e : Ext K ρ N H ρ' N' H') (h : PostS K ρ N H Wx so D) : PostS K ρ' N' H' Wx so D := by
  cases so with
  | nx a S' => exact fun ρ2 H2 b e2 r x => h ρ2 H2 b (e.trans e2) r x
  | bk a S' => exact fun ρ2 H2 b e2 r x => h ρ2 H2 b (e.trans e2) r x
  | ct a S' => exact fun ρ2 H2 b e2 r x => h ρ2 H2 b (e.trans e2) r x
  | rt a S' => exact fun ρ2 H2 b e2 r x => h ρ2 H2 b (e.trans e2) r x
  | exc x a S' => exact fun ρ2 H2 b c d e2 r x => h ρ2 H2 b c d (e.trans e2) r x
  | bad => exact h
/-- then -/
theorem Post.bind {f : α → Sto → Out γ} {Q : δ → Hp → Prop} (h : Post R2 K ρ N H Ex (o.bind f) Q) :
    Post R K ρ N H Ex o fun b H1 => ∃ ρ1 S1 a, Ext K ρ N H ρ1 S1.length H1 ∧ RSt K ρ1 H1 S1 ∧ R K ρ1 S1.length H1 a b ∧ Post R2 K ρ1 S1.length H1 Ex (f a S1) Q := by
  cases o with
  | ok a S' => exact fun ρ1 H1 b e r x => ⟨ρ1, S', a, e, r, x, Post.ext e h⟩
  | exc x S' => exact h
  | bad => exact h
theorem Post.then {Wx : WX} {ls : Ls} {σ : L2.St} {f : α → Sto → SOut} {D : Ends} (hl : RL K ρ N H ls σ) (h : PostS K ρ N H Wx (o.then ls f) D) :
    Post R K ρ N H (fun c d H' => Wx c d σ H') o fun b H1 => ∃ ρ1 S1 a, Ext K ρ N H ρ1 S1.length H1 ∧ RSt K ρ1 H1 S1 ∧ R K ρ1 S1.length H1 a b ∧ PostS K ρ1 S1.length H1 Wx (f a S1) D := by
  cases o with
  | ok a S' => exact fun ρ1 H1 b e r x => ⟨ρ1, S', a, e, r, x, PostS.ext e h⟩
  | exc x S' => exact fun ρ1 H1 c d e r x => h ρ1 H1 σ c d e r (hl.ext e) x
  | bad => exact h
theorem PostS.seq {Wx : WX} {so : SOut} {f : MS} {D : Ends} (h : PostS K ρ N H Wx (so.seq f) D) :
    PostS K ρ N H Wx so { D with nx := fun σ1 H1 => ∃ ρ1 S1 ls1, Ext K ρ N H ρ1 S1.length H1 ∧ RSt K ρ1 H1 S1 ∧ RL K ρ1 S1.length H1 ls1 σ1 ∧ PostS K ρ1 S1.length H1 Wx (f ls1 S1) D } := by
  cases so with
  | nx a S' => exact fun ρ1 H1 b e r x => ⟨ρ1, S', a, e, r, x, PostS.ext e h⟩
  | _ => exact h
end

/-! ### the judgements: what m computes is what the piece does -/
def tE (K : PySem.W.Frag) (Wx : WX) (m : ME) : TE := fun σ H Q => ∃ ρ S ls, RSt K ρ H S ∧ RL K ρ S.length H ls σ ∧ Post RW K ρ S.length H (fun c d H' => Wx c d σ H') (m ls S) Q
def tT (K : PySem.W.Frag) (Wx : WX) (m : MT) : TT := fun σ H Q => ∃ ρ S ls, RSt K ρ H S ∧ RL K ρ S.length H ls σ ∧ Post RBool K ρ S.length H (fun c d H' => Wx c d σ H') (m ls S) Q
def tA (K : PySem.W.Frag) (Wx : WX) (m : MA) : TA := fun σ H Q => ∃ ρ S ls, RSt K ρ H S ∧ RL K ρ S.length H ls σ ∧ Post RWs K ρ S.length H (fun c d H' => Wx c d σ H') (m ls S) Q
def tS (K : PySem.W.Frag) (Wx : WX) (m : MS) : TS := fun D σ H => ∃ ρ S ls, RSt K ρ H S ∧ RL K ρ S.length H ls σ ∧ PostS K ρ S.length H Wx (m ls S) D
abbrev IE (X : Cx) (Wx : WX) (e : Expr) (m : ME) : Prop := PE X e (tE X.K Wx m)
abbrev IT (X : Cx) (Wx : WX) (e : Expr) (m : MT) : Prop := PT X e (tT X.K Wx m)
abbrev IW (X : Cx) (Wx : WX) (e : Expr) (m : MT) : Prop := PW X e (tT X.K Wx m)
abbrev IA (X : Cx) (Wx : WX) (es : List Expr) (m : MA) : Prop := PA X es (tA X.K Wx m)
abbrev IS (X : Cx) (Wx : WX) (st : Stmt) (m : MS) : Prop := PS X st (tS X.K Wx m)
abbrev ISs (X : Cx) (Wx : WX) (st : List Stmt) (m : MS) : Prop := PSs X st (tS X.K Wx m)
theorem PEi {X : Cx} {e : Expr} {t t' : TE} (h : PE X e t) (i : ∀ σ H Q, t' σ H Q → t σ H Q) : PE X e t' := ⟨fun pins s σ H Q I hw => h.run pins s σ H Q I (i _ _ _ hw)⟩
theorem PTi {X : Cx} {e : Expr} {t t' : TT} (h : PT X e t) (i : ∀ σ H Q, t' σ H Q → t σ H Q) : PT X e t' := ⟨fun pins s σ H Q I hw => h.run pins s σ H Q I (i _ _ _ hw)⟩
theorem PWi {X : Cx} {e : Expr} {t t' : TT} (h : PW X e t) (i : ∀ σ H Q, t' σ H Q → t σ H Q) : PW X e t' := ⟨fun wh pins s σ H Q I hw => h.run wh pins s σ H Q I (i _ _ _ hw)⟩
theorem PAi {X : Cx} {e : List Expr} {t t' : TA} (h : PA X e t) (i : ∀ σ H Q, t' σ H Q → t σ H Q) : PA X e t' := ⟨fun pos pins s σ H Q I hw => h.run pos pins s σ H Q I (i _ _ _ hw)⟩
theorem PSi {X : Cx} {e : Stmt} {t t' : TS} (h : PS X e t) (i : ∀ D σ H, t' D σ H → t D σ H) : PS X e t' := ⟨fun pins s σ H D I hw => h.run pins s σ H D I (i _ _ _ hw)⟩
theorem PSsi {X : Cx} {e : List Stmt} {t t' : TS} (h : PSs X e t) (i : ∀ D σ H, t' D σ H → t D σ H) : PSs X e t' := ⟨fun pins s σ H D I hw => h.run pins s σ H D I (i _ _ _ hw)⟩

section
variable {X : Cx} {Wx : WX} {pos : Pos}
/-! ### names and constants -/
def eVar (i : Nat) : ME := fun ls S => match ls[i]? with
  | some (some w) => .ok w S
  | _ => .bad
def eC (w : PV) : ME := fun _ S => .ok w S
theorem ie_var (i : Nat) {x : Str} (hN : X.N[i]? = some x := by rfl) (hv : Vis X.env.scope x := by first | exact Or.inl rfl | exact Or.inr (Or.inl rfl) | exact Or.inr (Or.inr rfl)) (hd : (x == ("__debug__" : Str)) = false := by decide) (hcd : (x == ("__classdict__" : Str)) = false := by decide) :
    IE X Wx (.Name x pos) (eVar i) := PEi (pe_var hN hv hd hcd) fun σ H Q ⟨ρ, S, ls, hS, hL, h⟩ => by
  unfold eVar at h
  split at h
  · rename_i w e
    obtain ⟨v, e1, r⟩ := hL.get e
    exact ⟨v, e1, h ρ H v .refl hS r⟩
  · exact h.elim
theorem ie_int {i j} : IE X Wx (.Constant (.int i) j pos) (eC (.int i)) := PEi pe_int fun σ H Q ⟨ρ, S, ls, hS, hL, h⟩ => h ρ H _ .refl hS (.int i)
theorem ie_bl {i j} : IE X Wx (.Constant (.bool i) j pos) (eC (.bl i)) := PEi pe_bl fun σ H Q ⟨ρ, S, ls, hS, hL, h⟩ => h ρ H _ .refl hS (.bl i)
theorem ie_non {j} : IE X Wx (.Constant .none j pos) (eC .non) := PEi pe_non fun σ H Q ⟨ρ, S, ls, hS, hL, h⟩ => h ρ H _ .refl hS .non
theorem ie_str {x : Str} {l : List Nat} {j} (hx : x.cps.toList = l) : IE X Wx (.Constant (.str x) j pos) (eC (.str l)) := PEi pe_str fun σ H Q ⟨ρ, S, ls, hS, hL, h⟩ => h ρ H _ .refl hS (by rw [← hx]; exact .str x)
/-- a module's constant -/
def GVal (K : PySem.W.Frag) (v : V) (w : PV) : Prop := ∀ ρ N H, RW K ρ N H w v
theorem ie_glob {x : Str} {v : V} {u : Value} {w : PV} (hg : Gl X x) (hm : X.mg x = some u) (r : RelV v u) (g : GVal X.K v w) (hd : (x == ("__debug__" : Str)) = false := by decide) : IE X Wx (.Name x pos) (eC w) :=
  PEi (pe_glob hg hm r hd) fun σ H Q ⟨ρ, S, ls, hS, hL, h⟩ => h ρ H _ .refl hS (g _ _ _)

/-! ### two-place operations by values -/
/-- r does on values what g says -/
def OpI (X : Cx) (Wx : WX) (r : R2) (g : PV → PV → Sto → Out PV) : Prop :=
  ∀ (ρ : Nat → Addr) (S : Sto) (H : Hp) (w1 w2 : PV) (x y : V) (Ex : XK) (Q : VK), RSt X.K ρ H S → RW X.K ρ S.length H w1 x → RW X.K ρ S.length H w2 y → Post RW X.K ρ S.length H Ex (g w1 w2 S) Q → r x y H Q
def eOp (g : PV → PV → Sto → Out PV) (a b : ME) : ME := fun ls S => (a ls S).bind fun w1 S1 => (b ls S1).bind fun w2 S2 => g w1 w2 S2
variable {a b c : Expr} {ma mb mc : ME} {g : PV → PV → Sto → Out PV} {r : R2}
theorem bin_in {σ : L2.St} {H : Hp} {Q : VK} (hi : OpI X Wx r g) (h : tE X.K Wx (eOp g ma mb) σ H Q) : tOp r (tE X.K Wx ma) (tE X.K Wx mb) σ H Q := by
  obtain ⟨ρ, S, ls, hS, hL, h⟩ := h
  refine ⟨ρ, S, ls, hS, hL, (Post.bind (R := RW) h).imp ?_⟩
  rintro x H1 ⟨ρ1, S1, w1, e1, hS1, r1, h1⟩
  refine ⟨ρ1, S1, ls, hS1, hL.ext e1, (Post.bind (R := RW) h1).imp ?_⟩
  rintro y H2 ⟨ρ2, S2, w2, e2, hS2, r2, h2⟩
  exact hi ρ2 S2 H2 w1 w2 x y _ Q hS2 (r1.ext e2) r2 h2
theorem ie_bin {op : Operator} (ho : OpR X (binaryOp op) r) (hi : OpI X Wx r g) (ha : IE X Wx a ma) (hb : IE X Wx b mb) : IE X Wx (.BinOp a op b pos) (eOp g ma mb) :=
  PEi (pe_op ho ha hb) fun σ H Q h => bin_in hi h
theorem ie_cmp {op : CmpOp} (ho : OpR X (compareOp op) r) (hi : OpI X Wx r g) (ha : IE X Wx a ma) (hb : IE X Wx b mb) (hm : behindInMarks op b = false) : IE X Wx (.Compare a [op] [b] pos) (eOp g ma mb) :=
  PEi (pe_cmpR ho ha hb hm) fun σ H Q h => bin_in hi h
/-- a value that is a bool, as a test -/
def asB : PV → Sto → Out Bool := fun w S => match w with
  | .bl b => .ok b S
  | _ => .bad
def toT (m : ME) : MT := fun ls S => (m ls S).bind asB
theorem test_in {σ : L2.St} {H : Hp} {Q : Bool → Hp → Prop} (h : tT X.K Wx (toT ma) σ H Q) : tTest (tE X.K Wx ma) σ H Q := by
  obtain ⟨ρ, S, ls, hS, hL, h⟩ := h
  refine ⟨ρ, S, ls, hS, hL, (Post.bind (R := RW) h).imp ?_⟩
  rintro x H1 ⟨ρ1, S1, w1, e1, hS1, r1, h1⟩
  unfold asB at h1
  split at h1
  · cases r1
    exact ⟨_, rfl, h1 ρ1 H1 _ .refl hS1 rfl⟩
  · exact h1.elim
theorem it_cmp {op : CmpOp} (ho : OpR X (compareOp op) r) (hi : OpI X Wx r g) (ha : IE X Wx a ma) (hb : IE X Wx b mb) (hm : behindInMarks op b = false) : IT X Wx (.Compare a [op] [b] pos) (toT (eOp g ma mb)) :=
  PTi (pt_cmpR ho ha hb hm) fun σ H Q h => bin_in hi (test_in h)
/-- a < b < c -/
def eChain (g g' : PV → PV → Sto → Out PV) (a b c : ME) : ME := fun ls S => (a ls S).bind fun w1 S1 => (b ls S1).bind fun w2 S2 => (g w1 w2 S2).bind fun z S3 => match z with
  | .bl true => (c ls S3).bind fun w3 S4 => g' w2 w3 S4
  | .bl false => .ok (.bl false) S3
  | _ => .bad
variable {g' : PV → PV → Sto → Out PV} {r' : R2}
theorem chain_in {σ : L2.St} {H : Hp} {Q : VK} (hi : OpI X Wx r g) (hi' : OpI X Wx r' g') (h : tE X.K Wx (eChain g g' ma mb mc) σ H Q) : tChain r r' (tE X.K Wx ma) (tE X.K Wx mb) (tE X.K Wx mc) σ H Q := by
  obtain ⟨ρ, S, ls, hS, hL, h⟩ := h
  refine ⟨ρ, S, ls, hS, hL, (Post.bind (R := RW) h).imp ?_⟩
  rintro x H1 ⟨ρ1, S1, w1, e1, hS1, r1, h1⟩
  refine ⟨ρ1, S1, ls, hS1, hL.ext e1, (Post.bind (R := RW) h1).imp ?_⟩
  rintro y H2 ⟨ρ2, S2, w2, e2, hS2, r2, h2⟩
  refine hi ρ2 S2 H2 w1 w2 x y (fun c d H' => Wx c d σ H') _ hS2 (r1.ext e2) r2 ((Post.bind (R := RW) h2).imp ?_)
  rintro z H3 ⟨ρ3, S3, w3, e3, hS3, r3, h3⟩
  split at h3
  · cases r3
    refine ⟨true, rfl, ?_⟩
    rw [if_pos rfl]
    refine ⟨ρ3, S3, ls, hS3, ((hL.ext e1).ext e2).ext e3, (Post.bind (R := RW) h3).imp ?_⟩
    rintro u H4 ⟨ρ4, S4, w4, e4, hS4, r4, h4⟩
    exact hi' ρ4 S4 H4 w2 w4 y u _ Q hS4 ((r2.ext e3).ext e4) r4 h4
  · cases r3
    refine ⟨false, rfl, ?_⟩
    rw [if_neg Bool.false_ne_true]
    exact h3 ρ3 H3 _ .refl hS3 (.bl false)
  · exact h3.elim
end
end GL

set_option Elab.async false
set_option linter.all false
set_option maxRecDepth 100000
set_option maxHeartbeats 1000000
namespace GL
open PySem PySem.Spec PyProof.Rows L2

/-! ### equality of values -/
mutual
def PV.beq : PV → PV → Bool
  | .non, .non => true
  | .bl a, .bl b => a == b
  | .int a, .int b => decide (a = b)
  | .str a, .str b => decide (a = b)
  | .tup a, .tup b => PV.beqs a b
  | .loc a, .loc b => Nat.beq a b
  | .gl a, .gl b => decide (a = b)
  | .ty a, .ty b => decide (a = b)
  | _, _ => false
def PV.beqs : List PV → List PV → Bool
  | [], [] => true
  | a :: r, b :: s => PV.beq a b && PV.beqs r s
  | _, _ => false
end
mutual
theorem PV.eq_of_beq : ∀ {a b : PV}, PV.beq a b = true → a = b
  | .non, b, h => by cases b <;> first | rfl | (simp [PV.beq] at h)
  | .bl a, b, h => by cases b <;> first | (simp [PV.beq] at h; subst h; rfl) | (simp [PV.beq] at h)
  | .int a, b, h => by cases b <;> first | (simp [PV.beq] at h; subst h; rfl) | (simp [PV.beq] at h)
  | .str a, b, h => by cases b <;> first | (simp [PV.beq] at h; subst h; rfl) | (simp [PV.beq] at h)
  | .tup a, b, h => by
    cases b with
    | tup c => simp only [PV.beq] at h; rw [PV.eqs_of_beqs h]
    | _ => simp [PV.beq] at h
  | .loc a, b, h => by
    cases b with
    | loc c => simp only [PV.beq] at h; rw [Nat.eq_of_beq_eq_true h]
    | _ => simp [PV.beq] at h
  | .gl a, b, h => by cases b <;> first | (simp [PV.beq] at h; subst h; rfl) | (simp [PV.beq] at h)
  | .ty a, b, h => by cases b <;> first | (simp [PV.beq] at h; subst h; rfl) | (simp [PV.beq] at h)
theorem PV.eqs_of_beqs : ∀ {a b : List PV}, PV.beqs a b = true → a = b
  | [], [], _ => rfl
  | [], _ :: _, h => by simp [PV.beqs] at h
  | _ :: _, [], h => by simp [PV.beqs] at h
  | a :: r, b :: s, h => by
    simp only [PV.beqs, Bool.and_eq_true] at h
    rw [PV.eq_of_beq h.1, PV.eqs_of_beqs h.2]
end
mutual
theorem PV.beq_self : ∀ a : PV, PV.beq a a = true
  | .non => by simp [PV.beq]
  | .bl a => by simp [PV.beq]
  | .int a => by simp [PV.beq]
  | .str a => by simp [PV.beq]
  | .tup a => by simp only [PV.beq]; exact PV.beqs_self a
  | .loc a => by simp only [PV.beq]; exact Nat.beq_refl a
  | .gl a => by simp [PV.beq]
  | .ty a => by simp [PV.beq]
theorem PV.beqs_self : ∀ a : List PV, PV.beqs a a = true
  | [] => by simp [PV.beqs]
  | a :: r => by simp only [PV.beqs, Bool.and_eq_true]; exact ⟨PV.beq_self a, PV.beqs_self r⟩
end

/-! ### and, or, not, if else -/
def tAndM (a b : MT) : MT := fun ls S => (a ls S).bind fun k S1 => if k = true then b ls S1 else .ok false S1
def tOrM (a b : MT) : MT := fun ls S => (a ls S).bind fun k S1 => if k = true then .ok true S1 else b ls S1
def tNotM (a : MT) : MT := fun ls S => (a ls S).bind fun k S1 => .ok (!k) S1
def eOfT (a : MT) : ME := fun ls S => (a ls S).bind fun k S1 => .ok (.bl k) S1
def eIfM (c : MT) (a b : ME) : ME := fun ls S => (c ls S).bind fun k S1 => if k = true then a ls S1 else b ls S1
def eNotM (a : ME) : ME := fun ls S => (a ls S).bind fun w S1 => match w with
  | .bl k => .ok (.bl (!k)) S1
  | _ => .bad
def eAndM (a b : ME) : ME := fun ls S => (a ls S).bind fun w S1 => match w with
  | .bl true => b ls S1
  | .bl false => .ok (.bl false) S1
  | _ => .bad
def eOrM (a b : ME) : ME := fun ls S => (a ls S).bind fun w S1 => match w with
  | .bl true => .ok (.bl true) S1
  | .bl false => b ls S1
  | _ => .bad
section
variable {X : Cx} {Wx : WX} {pos : Pos} {a b c : Expr} {rest : List Expr} {ma mb mc : ME} {ta tb : MT}
theorem it_val (h : IE X Wx a ma) (he : ∀ whole, isTrue a X.env whole = (do let v ← whole; standAt a.pos; holding [v] (truthy v)) := by intro _; rfl) : IT X Wx a (toT ma) :=
  PTi (pt_val h he) fun σ H Q q => test_in q
theorem if_in {σ : L2.St} {H : Hp} {Q : Bool → Hp → Prop} {ρ : Nat → Addr} {S : Sto} {ls : Ls} {k : Bool} {x y : Out Bool} {Ex : XK} (h : Post RBool X.K ρ S.length H Ex (if k = true then x else y) Q) :
    if k = true then Post RBool X.K ρ S.length H Ex x Q else Post RBool X.K ρ S.length H Ex y Q := by
  cases k
  · rw [if_neg Bool.false_ne_true] at h ⊢; exact h
  · rw [if_pos rfl] at h ⊢; exact h
theorem iw_and1 (ha : IT X Wx a ta) : IW X Wx (.BoolOp .And [a] pos) ta := pw_and1 ha
theorem iw_or1 (ha : IT X Wx a ta) : IW X Wx (.BoolOp .Or [a] pos) ta := pw_or1 ha
theorem iw_and (ha : IT X Wx a ta) (hb : IW X Wx (.BoolOp .And (b :: rest) pos) tb) : IW X Wx (.BoolOp .And (a :: b :: rest) pos) (tAndM ta tb) :=
  PWi (pw_and ha hb) fun σ H Q ⟨ρ, S, ls, hS, hL, h⟩ => ⟨ρ, S, ls, hS, hL, (Post.bind (R := RBool) h).imp fun k H1 ⟨ρ1, S1, k1, e1, hS1, r1, h1⟩ => by
    have r1 : k1 = k := r1
    subst k
    cases k1
    · rw [if_neg Bool.false_ne_true] at h1 ⊢; exact h1 ρ1 H1 _ .refl hS1 rfl
    · rw [if_pos rfl] at h1 ⊢; exact ⟨ρ1, S1, ls, hS1, hL.ext e1, h1⟩⟩
theorem iw_or (ha : IT X Wx a ta) (hb : IW X Wx (.BoolOp .Or (b :: rest) pos) tb) : IW X Wx (.BoolOp .Or (a :: b :: rest) pos) (tOrM ta tb) :=
  PWi (pw_or ha hb) fun σ H Q ⟨ρ, S, ls, hS, hL, h⟩ => ⟨ρ, S, ls, hS, hL, (Post.bind (R := RBool) h).imp fun k H1 ⟨ρ1, S1, k1, e1, hS1, r1, h1⟩ => by
    have r1 : k1 = k := r1
    subst k
    cases k1
    · rw [if_neg Bool.false_ne_true] at h1 ⊢; exact ⟨ρ1, S1, ls, hS1, hL.ext e1, h1⟩
    · rw [if_pos rfl] at h1 ⊢; exact h1 ρ1 H1 _ .refl hS1 rfl⟩
theorem it_w {e : Expr} {t : MT} (h : IW X Wx e t) : IT X Wx e t := PW.pt h
theorem it_not (ha : IT X Wx a ta) : IT X Wx (.UnaryOp .Not a pos) (tNotM ta) :=
  PTi (pt_not ha) fun σ H Q ⟨ρ, S, ls, hS, hL, h⟩ => ⟨ρ, S, ls, hS, hL, (Post.bind (R := RBool) h).imp fun k H1 ⟨ρ1, S1, k1, e1, hS1, r1, h1⟩ => by
    cases r1
    exact h1 ρ1 H1 _ .refl hS1 rfl⟩
theorem ie_not (ha : IE X Wx a ma) : IE X Wx (.UnaryOp .Not a pos) (eNotM ma) :=
  PEi (pe_not ha) fun σ H Q ⟨ρ, S, ls, hS, hL, h⟩ => ⟨ρ, S, ls, hS, hL, (Post.bind (R := RW) h).imp fun x H1 ⟨ρ1, S1, w1, e1, hS1, r1, h1⟩ => by
    split at h1
    · cases r1
      exact ⟨_, rfl, h1 ρ1 H1 _ .refl hS1 (.bl _)⟩
    · exact h1.elim⟩
theorem ie_one {op} {m : ME} (h : IE X Wx a m) : IE X Wx (.BoolOp op [a] pos) m := pe_one h
theorem ie_and (ha : IE X Wx a ma) (hb : IE X Wx (.BoolOp .And (b :: rest) pos) mb) : IE X Wx (.BoolOp .And (a :: b :: rest) pos) (eAndM ma mb) :=
  PEi (pe_and ha hb) fun σ H Q ⟨ρ, S, ls, hS, hL, h⟩ => ⟨ρ, S, ls, hS, hL, (Post.bind (R := RW) h).imp fun x H1 ⟨ρ1, S1, w1, e1, hS1, r1, h1⟩ => by
    split at h1
    · cases r1
      exact ⟨true, rfl, by rw [if_pos rfl]; exact ⟨ρ1, S1, ls, hS1, hL.ext e1, h1⟩⟩
    · cases r1
      exact ⟨false, rfl, by rw [if_neg Bool.false_ne_true]; exact h1 ρ1 H1 _ .refl hS1 (.bl _)⟩
    · exact h1.elim⟩
theorem ie_or (ha : IE X Wx a ma) (hb : IE X Wx (.BoolOp .Or (b :: rest) pos) mb) : IE X Wx (.BoolOp .Or (a :: b :: rest) pos) (eOrM ma mb) :=
  PEi (pe_or ha hb) fun σ H Q ⟨ρ, S, ls, hS, hL, h⟩ => ⟨ρ, S, ls, hS, hL, (Post.bind (R := RW) h).imp fun x H1 ⟨ρ1, S1, w1, e1, hS1, r1, h1⟩ => by
    split at h1
    · cases r1
      exact ⟨true, rfl, by rw [if_pos rfl]; exact h1 ρ1 H1 _ .refl hS1 (.bl _)⟩
    · cases r1
      exact ⟨false, rfl, by rw [if_neg Bool.false_ne_true]; exact ⟨ρ1, S1, ls, hS1, hL.ext e1, h1⟩⟩
    · exact h1.elim⟩
theorem ie_ite (hc : IT X Wx c ta) (ha : IE X Wx a ma) (hb : IE X Wx b mb) : IE X Wx (.IfExp c a b pos) (eIfM ta ma mb) :=
  PEi (pe_ifExp hc ha hb) fun σ H Q ⟨ρ, S, ls, hS, hL, h⟩ => ⟨ρ, S, ls, hS, hL, (Post.bind (R := RBool) h).imp fun k H1 ⟨ρ1, S1, k1, e1, hS1, r1, h1⟩ => by
    have r1 : k1 = k := r1
    subst k
    cases k1
    · rw [if_neg Bool.false_ne_true] at h1 ⊢; exact ⟨ρ1, S1, ls, hS1, hL.ext e1, h1⟩
    · rw [if_pos rfl] at h1 ⊢; exact ⟨ρ1, S1, ls, hS1, hL.ext e1, h1⟩⟩

/-! ### argument lists, displays -/
def aNil : MA := fun _ S => .ok [] S
def aCons (a : ME) (r : MA) : MA := fun ls S => (a ls S).bind fun w S1 => (r ls S1).bind fun ws S2 => .ok (w :: ws) S2
variable {es : List Expr} {e : Expr} {mr : MA}
theorem ia_nil : IA X Wx [] aNil := PAi pa_nil fun σ H Q ⟨ρ, S, ls, hS, hL, h⟩ => h ρ H _ .refl hS .nil
theorem ia_cons (ha : IE X Wx e ma) (hr : IA X Wx es mr) (hs : starEach (e :: es) X.env = (false, eval e X.env) :: starEach es X.env := by rfl) : IA X Wx (e :: es) (aCons ma mr) :=
  PAi (pa_cons ha hr hs) fun σ H Q ⟨ρ, S, ls, hS, hL, h⟩ => ⟨ρ, S, ls, hS, hL, (Post.bind (R := RW) h).imp fun x H1 ⟨ρ1, S1, w1, e1, hS1, r1, h1⟩ =>
    ⟨ρ1, S1, ls, hS1, hL.ext e1, (Post.bind (R := RWs) h1).imp fun xs H2 ⟨ρ2, S2, ws, e2, hS2, r2, h2⟩ => h2 ρ2 H2 _ .refl hS2 (.cons (r1.ext e2) r2)⟩⟩
def lim : Nat := 100000
theorem lim_sz {n : Nat} (h : n ≤ lim) : n ≤ sizeLine := Nat.le_trans h (by decide)
theorem lim_lt {n : Nat} (h : n < lim) : n < sizeLine := Nat.lt_of_lt_of_le h (by decide)
def eTup (m : MA) : ME := fun ls S => (m ls S).bind fun ws S1 => if ws.length ≤ lim then .ok (.tup ws) S1 else .bad
def eLst (m : MA) : ME := fun ls S => (m ls S).bind fun ws S1 => if ws.length ≤ lim then .ok (.loc S1.length) (S1 ++ [.lst ws]) else .bad
/-- a new tuple -/
theorem mk_tup {K : PySem.W.Frag} {ρ : Nat → Addr} {S : Sto} {H : Hp} {ws : List PV} {vs : List V} {Ex : XK} {Q : VK} (hS : RSt K ρ H S) (r : RWs K ρ S.length H ws vs) (h : Post RW K ρ S.length H Ex (.ok (.tup ws) S) Q) :
    ∀ p, H p = none → Q (.ref p) (upd H p (.tup vs)) := fun p hp => by
  have e : Ext K ρ S.length H ρ S.length (upd H p (.tup vs)) := ext_keep hp
  exact h ρ _ _ e (hS.keep hp) (.tup (SqT.of upd_same) (r.ext e))
/-- a new list -/
theorem mk_lst {K : PySem.W.Frag} {ρ : Nat → Addr} {S : Sto} {H : Hp} {ws : List PV} {vs : List V} {Ex : XK} {Q : VK} (hS : RSt K ρ H S) (r : RWs K ρ S.length H ws vs) (h : Post RW K ρ S.length H Ex (.ok (.loc S.length) (S ++ [.lst ws])) Q) :
    ∀ p, H p = none → Q (.ref p) (upd H p (.lst vs)) := fun p hp => by
  have e : Ext K ρ S.length H (grow ρ S.length p) (S.length + 1) (upd H p (.lst vs)) := ext_new hp
  have hl : (S ++ [OB.lst ws]).length = S.length + 1 := by simp
  have n := RSt.new (o := .lst ws) hS hp rfl ⟨vs, upd_same, r.ext e⟩
  refine h _ _ _ (by rw [hl]; exact e) n ?_
  rw [hl]
  have q : RW K (grow ρ S.length p) (S.length + 1) (upd H p (.lst vs)) (.loc S.length) (.ref (grow ρ S.length p S.length)) := .loc _ (Nat.lt_succ_self _)
  rw [grow_new] at q
  exact q
theorem ie_tup {x1} (h : IA X Wx es mr) : IE X Wx (.Tuple es x1 pos) (eTup mr) :=
  PEi (pe_tup h) fun σ H Q ⟨ρ, S, ls, hS, hL, h⟩ => ⟨ρ, S, ls, hS, hL, (Post.bind (R := RWs) h).imp fun xs H1 ⟨ρ1, S1, ws, e1, hS1, r1, h1⟩ => by
    split at h1
    · rename_i hz
      exact ⟨by rw [← r1.length]; exact lim_sz hz, mk_tup hS1 r1 h1⟩
    · exact h1.elim⟩
theorem ie_lst (h : IA X Wx es mr) : IE X Wx (.List es pos) (eLst mr) :=
  PEi (pe_lst h) fun σ H Q ⟨ρ, S, ls, hS, hL, h⟩ => ⟨ρ, S, ls, hS, hL, (Post.bind (R := RWs) h).imp fun xs H1 ⟨ρ1, S1, ws, e1, hS1, r1, h1⟩ => by
    split at h1
    · rename_i hz
      exact ⟨by rw [← r1.length]; exact lim_sz hz, mk_lst hS1 r1 h1⟩
    · exact h1.elim⟩
end

/-! ### statements -/
def sNil : MS := fun ls S => .nx ls S
def sSeq (a b : MS) : MS := fun ls S => (a ls S).seq b
def sSet (i : Nat) (m : ME) : MS := fun ls S => (m ls S).then ls fun w S1 => .nx (ls.set i (some w)) S1
def sExpr (m : ME) : MS := fun ls S => (m ls S).then ls fun _ S1 => .nx ls S1
def sRet (m : ME) : MS := fun ls S => (m ls S).then ls fun w S1 => .rt w S1
def sRetN : MS := fun _ S => .rt .non S
def sIf (c : MT) (a b : MS) : MS := fun ls S => (c ls S).then ls fun k S1 => if k = true then a ls S1 else b ls S1
def sBad : MS := fun _ _ => .bad
def sBk : MS := fun ls S => .bk ls S
def sCt : MS := fun ls S => .ct ls S
section
variable {X : Cx} {Wx : WX} {pos : Pos} {st : Stmt} {rest : List Stmt} {m1 m2 : MS} {e c : Expr} {me : ME} {mt : MT}
theorem iss_nil : ISs X Wx [] sNil := PSsi pss_nil fun D σ H ⟨ρ, S, ls, hS, hL, h⟩ => h ρ H σ .refl hS hL
theorem iss_cons (h1 : IS X Wx st m1) (h2 : ISs X Wx rest m2) : ISs X Wx (st :: rest) (sSeq m1 m2) :=
  PSsi (pss_cons h1 h2) fun D σ H ⟨ρ, S, ls, hS, hL, h⟩ => ⟨ρ, S, ls, hS, hL, by
    have q := PostS.seq h
    cases hm : m1 ls S with
    | nx a S' =>
      rw [hm] at q
      exact fun ρ1 H1 σ1 e r x => by
        obtain ⟨ρ2, S2, ls2, _, a, b, c⟩ := q ρ1 H1 σ1 e r x
        exact ⟨ρ2, S2, ls2, a, b, c⟩
    | bk a S' => rw [hm] at q; exact q
    | ct a S' => rw [hm] at q; exact q
    | rt a S' => rw [hm] at q; exact q
    | exc a b S' => rw [hm] at q; exact q
    | bad => rw [hm] at q; exact q⟩
theorem iss_one (h1 : IS X Wx st m1) : ISs X Wx [st] m1 := pss_one h1
theorem is_pass : IS X Wx (.Pass pos) sNil := PSi ps_pass fun D σ H ⟨ρ, S, ls, hS, hL, h⟩ => h ρ H σ .refl hS hL
theorem is_break : IS X Wx (.Break pos) sBk := PSi ps_break fun D σ H ⟨ρ, S, ls, hS, hL, h⟩ => h ρ H σ .refl hS hL
theorem is_cont : IS X Wx (.Continue pos) sCt := PSi ps_continue fun D σ H ⟨ρ, S, ls, hS, hL, h⟩ => h ρ H σ .refl hS hL
theorem is_doc {x j pos pos'} : IS X Wx (.Expr (.Constant (.str x) j pos) pos') sNil := PSi ps_doc fun D σ H ⟨ρ, S, ls, hS, hL, h⟩ => h ρ H σ .refl hS hL
theorem is_bad : IS X Wx st sBad := PSi ps_never fun D σ H ⟨ρ, S, ls, hS, hL, h⟩ => h
theorem iss_bad : ISs X Wx rest sBad := PSsi pss_never fun D σ H ⟨ρ, S, ls, hS, hL, h⟩ => h
theorem is_set {i : Nat} {x : Str} {pos' : Pos} (hN : X.N.Nodup) (he : IE X Wx e me) (hi : X.N[i]? = some x := by rfl) (hx : Loc X.env.scope x := by first | exact Or.inl rfl | exact Or.inr rfl) (hs : swapsWith e (some (.Name x pos')) pos.line X.env = pure false := by rfl) (hf : X.fn x = true ∨ X.env.scope.names.lookup x = some .local := by first | exact .inl rfl | exact .inr rfl) :
    IS X Wx (.Assign [.Name x pos'] e pos) (sSet i me) :=
  PSi (ps_set (i := i) hN hi hx he hs hf) fun D σ H ⟨ρ, S, ls, hS, hL, h⟩ => ⟨ρ, S, ls, hS, hL, (Post.then (R := RW) hL h).imp fun x H1 ⟨ρ1, S1, w1, e1, hS1, r1, h1⟩ => h1 ρ1 H1 _ .refl hS1 (RL.set r1 _ (hL.ext e1))⟩
theorem is_expr (he : IE X Wx e me) (hs : swapsWith e none pos.line X.env = pure false := by rfl) : IS X Wx (.Expr e pos) (sExpr me) :=
  PSi (ps_expr he hs) fun D σ H ⟨ρ, S, ls, hS, hL, h⟩ => ⟨ρ, S, ls, hS, hL, (Post.then (R := RW) hL h).imp fun x H1 ⟨ρ1, S1, w1, e1, hS1, r1, h1⟩ => h1 ρ1 H1 _ .refl hS1 (hL.ext e1)⟩
theorem is_ret (he : IE X Wx e me) : IS X Wx (.Return (some e) pos) (sRet me) :=
  PSi (ps_ret he) fun D σ H ⟨ρ, S, ls, hS, hL, h⟩ => ⟨ρ, S, ls, hS, hL, (Post.then (R := RW) hL h).imp fun x H1 ⟨ρ1, S1, w1, e1, hS1, r1, h1⟩ => h1 ρ1 H1 _ .refl hS1 r1⟩
theorem is_retN : IS X Wx (.Return none pos) sRetN := PSi ps_retN fun D σ H ⟨ρ, S, ls, hS, hL, h⟩ => h ρ H _ .refl hS .non
theorem is_if {a b : List Stmt} (hc : IT X Wx c mt) (ha : ISs X Wx a m1) (hb : ISs X Wx b m2) : IS X Wx (.If c a b pos) (sIf mt m1 m2) :=
  PSi (ps_if hc ha hb) fun D σ H ⟨ρ, S, ls, hS, hL, h⟩ => ⟨ρ, S, ls, hS, hL, (Post.then (R := RBool) hL h).imp fun k H1 ⟨ρ1, S1, k1, e1, hS1, r1, h1⟩ => by
    have r1 : k1 = k := r1
    subst k
    cases k1
    · rw [if_neg Bool.false_ne_true] at h1 ⊢; exact ⟨ρ1, S1, ls, hS1, hL.ext e1, h1⟩
    · rw [if_pos rfl] at h1 ⊢; exact ⟨ρ1, S1, ls, hS1, hL.ext e1, h1⟩⟩
/-- while: at most n turns -/
def whileL (c : MT) (body : MS) : Nat → MS
  | 0, _, _ => .bad
  | n + 1, ls, S => (c ls S).then ls fun k S1 => if k = true then (match body ls S1 with
      | .nx ls2 S2 => whileL c body n ls2 S2
      | .ct ls2 S2 => whileL c body n ls2 S2
      | .bk ls2 S2 => .nx ls2 S2
      | r => r) else .nx ls S1
theorem is_while {body : List Stmt} {mb : MS} (n : Nat) (hp : PassesOwn (model X.prog X.w) X.A X.env X.xe) (hc : IT X Wx c mt) (hb : ISs X Wx body mb) : IS X Wx (.While c body [] pos) (whileL mt mb n) :=
  PSi (ps_while hp hc hb) fun D σ H ⟨ρ, S, ls, hS, hL, h⟩ => by
    refine ⟨fun m σ H => ∃ ρ S ls, RSt X.K ρ H S ∧ RL X.K ρ S.length H ls σ ∧ PostS X.K ρ S.length H Wx (whileL mt mb m ls S) D, ⟨n, ρ, S, ls, hS, hL, h⟩, ?_⟩
    rintro m σ H ⟨ρ, S, ls, hS, hL, h⟩
    cases m with
    | zero => exact h.elim
    | succ m =>
      refine ⟨ρ, S, ls, hS, hL, (Post.then (R := RBool) hL h).imp fun k H1 ⟨ρ1, S1, k1, e1, hS1, r1, h1⟩ => ?_⟩
      have r1 : k1 = k := r1
      subst k
      cases k1
      · rw [if_neg Bool.false_ne_true] at h1 ⊢; exact h1 ρ1 H1 σ .refl hS1 (hL.ext e1)
      · rw [if_pos rfl] at h1 ⊢
        refine ⟨_, fun σ' H' w => ⟨m, Nat.lt_succ_self m, w⟩, ρ1, S1, ls, hS1, hL.ext e1, ?_⟩
        cases hm : mb ls S1 with
        | nx a S' => rw [hm] at h1; exact fun ρ2 H2 σ2 e2 r2 l2 => ⟨ρ2, S', a, r2, l2, PostS.ext e2 h1⟩
        | ct a S' => rw [hm] at h1; exact fun ρ2 H2 σ2 e2 r2 l2 => ⟨ρ2, S', a, r2, l2, PostS.ext e2 h1⟩
        | bk a S' => rw [hm] at h1; exact h1
        | rt a S' => rw [hm] at h1; exact h1
        | exc a b S' => rw [hm] at h1; exact h1
        | bad => rw [hm] at h1; exact h1
end
end GL

set_option Elab.async false
set_option linter.all false
set_option maxRecDepth 100000
set_option maxHeartbeats 1000000
namespace GL
open PySem PySem.Spec PyProof.Rows L2

/-! ### lists of the store -/
def lstAt (S : Sto) (n : Nat) : Option (List PV) := match S[n]? with
  | some (.lst xs) => some xs
  | _ => none
def seqAt (S : Sto) (n : Nat) : Option (List PV) := match S[n]? with
  | some (.lst xs) => some xs
  | some (.rol xs) => some xs
  | _ => none
section
variable {K : PySem.W.Frag} {ρ : Nat → Addr} {H : Hp} {S : Sto} {n : Nat} {xs : List PV}
theorem lstAt_get (h : lstAt S n = some xs) : S[n]? = some (.lst xs) := by
  unfold lstAt at h; split at h
  · rename_i e; cases h; exact e
  · cases h
theorem lst_of (hS : RSt K ρ H S) (h : lstAt S n = some xs) : ∃ vs, H (ρ n) = some (.lst vs) ∧ RWs K ρ S.length H xs vs := hS.at_ _ _ (lstAt_get h)
theorem seq_of (hS : RSt K ρ H S) (h : seqAt S n = some xs) : ∃ vs, SqL K H (ρ n) vs ∧ RWs K ρ S.length H xs vs := by
  unfold seqAt at h; split at h
  · rename_i e; cases h
    obtain ⟨vs, a, b⟩ := hS.at_ _ _ e
    exact ⟨vs, SqL.of a, b⟩
  · rename_i e; cases h
    obtain ⟨vs, a, b⟩ := hS.at_ _ _ e
    exact ⟨vs, a.sq, b⟩
  · cases h
/-- a list is changed -/
theorem set_lst (hS : RSt K ρ H S) (h : lstAt S n = some xs) {ys : List PV} {vs : List V} (r : RWs K ρ S.length H ys vs) :
    RSt K ρ (upd H (ρ n) (.lst vs)) (S.set n (.lst ys)) ∧ Ext K ρ S.length H ρ (S.set n (.lst ys)).length (upd H (ρ n) (.lst vs)) := by
  obtain ⟨v0, h0, _⟩ := lst_of hS h
  have e : Ext K ρ S.length H ρ S.length (upd H (ρ n) (.lst vs)) := ext_upd h0 trivial
  exact ⟨hS.set (lstAt_get h) rfl rfl ⟨vs, upd_same, r.ext e⟩, by rw [List.length_set]; exact e⟩
end
theorem RWs.nil_inv {K : PySem.W.Frag} {ρ : Nat → Addr} {N : Nat} {H : Hp} {ws : List PV} (r : RWs K ρ N H ws []) : ws = [] := by cases r; rfl
theorem RW.int_inv {K : PySem.W.Frag} {ρ : Nat → Addr} {N : Nat} {H : Hp} {i : Int} {v : V} (r : RW K ρ N H (.int i) v) : v = .int i := by cases r; rfl
/-- close with the very store -/
theorem Post.here {K : PySem.W.Frag} {ρ : Nat → Addr} {S : Sto} {H : Hp} {Ex : XK} {Q : VK} {w : PV} {v : V} (h : Post RW K ρ S.length H Ex (.ok w S) Q) (hS : RSt K ρ H S) (r : RW K ρ S.length H w v) : Q v H := h ρ H v .refl hS r

/-! ### arithmetic -/
def gAdd : PV → PV → Sto → Out PV := fun a b S => match a, b with
  | .int i, .int j => .ok (.int (i + j)) S
  | .str x, .str y => if x.length + y.length ≤ lim then .ok (.str (x ++ y)) S else .bad
  | .tup x, .tup y => if x.length + y.length ≤ lim then .ok (.tup (x ++ y)) S else .bad
  | .loc n, .loc m => (match lstAt S n, lstAt S m with
    | some x, some y => if x.length + y.length ≤ lim then .ok (.loc S.length) (S ++ [.lst (x ++ y)]) else .bad
    | _, _ => .bad)
  | _, _ => .bad
def rAddM (K : PySem.W.Frag) : R2 := fun x y H Q => (rI0 fun i j => .int (i + j)) x y H Q ∨
  (∃ i j, x = .str i ∧ y = .str j ∧ i.length + j.length ≤ sizeLine ∧ Q (.str (i ++ j)) H) ∨ rCatA K x y H Q ∨ rCat x y H Q
section
variable {X : Cx} {Wx : WX}
theorem or_addM : OpR X (binaryOp .Add) (rAddM X.K) := op_add.or (op_add_str.or (op_catA.or op_cat))
theorem str_len {x : Str} : x.cps.toList.length = x.length := by simp [Str.length]
theorem oi_add : OpI X Wx (rAddM X.K) gAdd := by
  intro ρ S H w1 w2 x y Ex Q hS r1 r2 h
  unfold gAdd at h
  split at h
  · cases r1; cases r2
    exact .inl ⟨_, _, rfl, rfl, h.here hS (.int _)⟩
  · split at h
    · rename_i hz
      cases r1 with
      | str i => cases r2 with
        | str j =>
          rw [str_len, str_len] at hz
          refine .inr (.inl ⟨_, _, rfl, rfl, lim_sz hz, h.here hS ?_⟩)
          have : (i ++ j).cps.toList = i.cps.toList ++ j.cps.toList := by
            show (i.cps ++ j.cps).toList = _
            simp
          rw [← this]; exact .str _
    · exact h.elim
  · split at h
    · rename_i hz
      cases r1 with
      | tup s1 t1 => cases r2 with
        | tup s2 t2 =>
          rw [t1.length, t2.length] at hz
          refine .inr (.inr (.inl ⟨_, _, _, _, rfl, rfl, s1, s2, lim_sz hz, fun e => ?_, fun _ e => ?_, fun _ _ => mk_tup hS (t1.app t2) h⟩))
          · subst e
            rw [t1.nil_inv, List.nil_append] at h
            exact h.here hS (.tup s2 t2)
          · subst e
            rw [t2.nil_inv, List.append_nil] at h
            exact h.here hS (.tup s1 t1)
    · exact h.elim
  · split at h
    · split at h
      · rename_i e1 e2 hz
        cases r1; cases r2
        obtain ⟨v1, h1, t1⟩ := lst_of hS e1
        obtain ⟨v2, h2, t2⟩ := lst_of hS e2
        rw [t1.length, t2.length] at hz
        exact .inr (.inr (.inr ⟨_, _, _, _, rfl, rfl, h1, h2, lim_sz hz, mk_lst hS (t1.app t2) h⟩))
      · exact h.elim
    · exact h.elim
  · exact h.elim
def gInt (g : Int → Int → Int) : PV → PV → Sto → Out PV := fun a b S => match a, b with
  | .int i, .int j => .ok (.int (g i j)) S
  | _, _ => .bad
def gIntC (c : Int → Int → Bool) (g : Int → Int → Int) : PV → PV → Sto → Out PV := fun a b S => match a, b with
  | .int i, .int j => if c i j = true then .ok (.int (g i j)) S else .bad
  | _, _ => .bad
def gCmpI (g : Int → Int → Bool) : PV → PV → Sto → Out PV := fun a b S => match a, b with
  | .int i, .int j => .ok (.bl (g i j)) S
  | _, _ => .bad
theorem oi_int {g : Int → Int → Int} : OpI X Wx (rI0 fun i j => .int (g i j)) (gInt g) := by
  intro ρ S H w1 w2 x y Ex Q hS r1 r2 h
  unfold gInt at h
  split at h
  · cases r1; cases r2; exact ⟨_, _, rfl, rfl, h.here hS (.int _)⟩
  · exact h.elim
theorem oi_intC {C : Int → Int → Prop} {c : Int → Int → Bool} {g : Int → Int → Int} (hc : ∀ i j, c i j = true → C i j) : OpI X Wx (rI C fun i j => .int (g i j)) (gIntC c g) := by
  intro ρ S H w1 w2 x y Ex Q hS r1 r2 h
  unfold gIntC at h
  split at h
  · split at h
    · rename_i q
      cases r1; cases r2; exact ⟨_, _, rfl, rfl, hc _ _ q, h.here hS (.int _)⟩
    · exact h.elim
  · exact h.elim
theorem oi_cmpI {g : Int → Int → Bool} : OpI X Wx (rI0 fun i j => .bl (g i j)) (gCmpI g) := by
  intro ρ S H w1 w2 x y Ex Q hS r1 r2 h
  unfold gCmpI at h
  split at h
  · cases r1; cases r2; exact ⟨_, _, rfl, rfl, h.here hS (.bl _)⟩
  · exact h.elim
def gSub := gInt fun i j => i - j
def cDiv : Int → Int → Bool := fun _ j => decide (0 < j) && decide (j < 1073741824)
def cMod : Int → Int → Bool := fun _ j => decide (0 < j)
def gDiv := gIntC cDiv fun i j => i / j
def gMod := gIntC cMod fun i j => i % j
def gLt := gCmpI fun i j => decide (i < j)
def gLe := gCmpI fun i j => decide (i ≤ j)
def gGt := gCmpI fun i j => decide (j < i)
def gGe := gCmpI fun i j => decide (j ≤ i)
def gBand := gInt Builtin.bitAnd
theorem oi_sub : OpI X Wx (rI0 fun i j => .int (i - j)) gSub := oi_int
theorem oi_div : OpI X Wx (rI CDiv fun i j => .int (i / j)) gDiv := oi_intC fun i j h => by
  simp only [cDiv, Bool.and_eq_true, decide_eq_true_eq] at h; exact h
theorem oi_mod : OpI X Wx (rI (fun _ j => 0 < j) fun i j => .int (i % j)) gMod := oi_intC fun i j h => by
  simp only [cMod, decide_eq_true_eq] at h; exact h
theorem oi_lt : OpI X Wx (rI0 fun i j => .bl (decide (i < j))) gLt := oi_cmpI
theorem oi_le : OpI X Wx (rI0 fun i j => .bl (decide (i ≤ j))) gLe := oi_cmpI
theorem oi_gt : OpI X Wx (rI0 fun i j => .bl (decide (j < i))) gGt := oi_cmpI
theorem oi_ge : OpI X Wx (rI0 fun i j => .bl (decide (j ≤ i))) gGe := oi_cmpI
theorem oi_band : OpI X Wx (rI0 fun i j => .int (Builtin.bitAnd i j)) gBand := oi_int
/-- products: one factor below 2^64; a list times an int -/
def big : Int := 18446744073709551616
def smallI (i : Int) : Bool := decide (-big < i) && decide (i < big)
def gMul : PV → PV → Sto → Out PV := fun a b S => match a, b with
  | .int i, .int j => if (smallI i || smallI j) = true then .ok (.int (i * j)) S else .bad
  | .loc n, .int j => (match lstAt S n with
    | some x => if decide (0 ≤ j) && decide (j < 100000) && decide (x.length * j.toNat ≤ lim) then .ok (.loc S.length) (S ++ [.lst (List.replicate j.toNat x).flatten]) else .bad
    | none => .bad)
  | _, _ => .bad
def rMulM : R2 := fun x y H Q => (rI CMul fun i j => .int (i * j)) x y H Q ∨ rRep x y H Q
theorem or_mulM : OpR X (binaryOp .Mult) rMulM := op_mul.or op_rep
theorem smallI_ok {i : Int} (h : smallI i = true) : -(2 ^ 64) < i ∧ i < 2 ^ 64 := by
  have h := Bool.and_eq_true_iff.mp h
  have h : -18446744073709551616 < i ∧ i < 18446744073709551616 := ⟨of_decide_eq_true h.1, of_decide_eq_true h.2⟩
  have e : (2 : Int) ^ 64 = 18446744073709551616 := by decide
  rw [e]; exact h
theorem RWs.rep {K : PySem.W.Frag} {ρ : Nat → Addr} {N : Nat} {H : Hp} {ws : List PV} {vs : List V} (h : RWs K ρ N H ws vs) : ∀ k : Nat, RWs K ρ N H (List.replicate k ws).flatten (List.replicate k vs).flatten
  | 0 => .nil
  | k + 1 => by
    rw [List.replicate_succ, List.replicate_succ, List.flatten_cons, List.flatten_cons]
    exact h.app (RWs.rep h k)
theorem oi_mul : OpI X Wx rMulM gMul := by
  intro ρ S H w1 w2 x y Ex Q hS r1 r2 h
  unfold gMul at h
  split at h
  · split at h
    · rename_i q
      cases r1; cases r2
      refine .inl ⟨_, _, rfl, rfl, ?_, h.here hS (.int _)⟩
      rcases Bool.or_eq_true_iff.mp q with q | q
      · exact .inl (smallI_ok q)
      · exact .inr (smallI_ok q)
    · exact h.elim
  · split at h
    · split at h
      · rename_i e1 hz
        cases r1; cases r2
        obtain ⟨v1, h1, t1⟩ := lst_of hS e1
        simp only [Bool.and_eq_true, decide_eq_true_eq] at hz
        rw [t1.length] at hz
        refine .inr ⟨_, _, _, rfl, rfl, h1, by omega, by omega, lim_sz hz.2, ?_⟩
        exact mk_lst hS (t1.rep _) h
      · exact h.elim
    · exact h.elim
  · exact h.elim
end

/-! ### equality -/
def scalP : PV → PV → Option Bool
  | .int i, .int j => some (decide (i = j))
  | .str x, .str y => some (decide (x = y))
  | .bl x, .bl y => some (x == y)
  | .non, .non => some true
  | .non, .int _ => some false
  | .int _, .non => some false
  | .non, .bl _ => some false
  | .bl _, .non => some false
  | .non, .str _ => some false
  | .str _, .non => some false
  | .int _, .str _ => some false
  | .str _, .int _ => some false
  | .bl _, .str _ => some false
  | .str _, .bl _ => some false
  | _, _ => none
def optAll {α β : Type} (f : α → Option β) : List α → Option (List β)
  | [] => some []
  | x :: r => match f x, optAll f r with
    | some d, some ds => some (d :: ds)
    | _, _ => none
/-- the data of a value, lists looked up in the store -/
def datP (S : Sto) : Nat → PV → Option PyData
  | 0, _ => none
  | f + 1, w => match w with
    | .non => some .none
    | .bl b => some (.bool b)
    | .int i => some (.int i)
    | .str l => if PyData.strOk (toS l) = true then some (.str (toS l)) else none
    | .tup xs => (optAll (datP S f) xs).map .tuple
    | .loc n => (match seqAt S n with
      | some xs => (optAll (datP S f) xs).map .list
      | none => none)
    | _ => none
theorem optAll_some {α β : Type} {f : α → Option β} : ∀ {xs : List α} {ds : List β}, optAll f xs = some ds → ∀ d ∈ ds, ∃ x ∈ xs, f x = some d
  | [], ds, h => by cases h; intro d hd; cases hd
  | x :: r, ds, h => by
    unfold optAll at h
    split at h
    · rename_i d ds' e1 e2
      cases h
      intro d' hd
      rcases List.mem_cons.mp hd with rfl | hd
      · exact ⟨x, List.mem_cons_self, e1⟩
      · obtain ⟨y, hy, q⟩ := optAll_some e2 d' hd
        exact ⟨y, List.mem_cons_of_mem _ hy, q⟩
    · cases h
theorem canAll : ∀ {ds : List PyData}, (∀ d ∈ ds, d.canLay0 = true) → PyData.canLayAll0 ds = true
  | [], _ => by simp [PyData.canLayAll0]
  | d :: r, h => by
    simp only [PyData.canLayAll0, Bool.and_eq_true]
    exact ⟨h d List.mem_cons_self, canAll fun x hx => h x (List.mem_cons_of_mem _ hx)⟩
theorem depAll {n : Nat} : ∀ {ds : List PyData}, (∀ d ∈ ds, d.depth ≤ n) → PyData.depthAll ds ≤ n
  | [], _ => by simp [PyData.depthAll]
  | d :: r, h => by
    simp only [PyData.depthAll]
    exact Nat.max_le.mpr ⟨h d List.mem_cons_self, depAll fun x hx => h x (List.mem_cons_of_mem _ hx)⟩
theorem datP_ok {S : Sto} : ∀ {f : Nat} {w : PV} {d : PyData}, datP S f w = some d → d.canLay0 = true ∧ d.depth ≤ f
  | 0, _, _, h => by cases h
  | f + 1, w, d, h => by
    cases w with
    | non => cases h; simp [PyData.canLay0, PyData.depth]
    | bl b => cases h; simp [PyData.canLay0, PyData.depth]
    | int i => cases h; simp [PyData.canLay0, PyData.depth]
    | str l =>
      simp only [datP] at h
      split at h
      · rename_i q; cases h; simp [PyData.canLay0, PyData.depth, q]
      · cases h
    | tup xs =>
      simp only [datP] at h
      cases e : optAll (datP S f) xs with
      | none => rw [e] at h; cases h
      | some ds =>
        rw [e] at h; cases h
        have q : ∀ d ∈ ds, d.canLay0 = true ∧ d.depth ≤ f := fun d hd => by
          obtain ⟨x, _, q⟩ := optAll_some e d hd
          exact datP_ok q
        simp only [PyData.canLay0, PyData.depth]
        exact ⟨canAll fun d hd => (q d hd).1, Nat.succ_le_succ (depAll fun d hd => (q d hd).2)⟩
    | loc n =>
      simp only [datP] at h
      split at h
      · rename_i xs _
        cases e : optAll (datP S f) xs with
        | none => rw [e] at h; cases h
        | some ds =>
          rw [e] at h; cases h
          have q : ∀ d ∈ ds, d.canLay0 = true ∧ d.depth ≤ f := fun d hd => by
            obtain ⟨x, _, q⟩ := optAll_some e d hd
            exact datP_ok q
          simp only [PyData.canLay0, PyData.depth]
          exact ⟨canAll fun d hd => (q d hd).1, Nat.succ_le_succ (depAll fun d hd => (q d hd).2)⟩
      · cases h
    | gl x => cases h
    | ty b => cases h
section
variable {K : PySem.W.Frag} {ρ : Nat → Addr} {H : Hp} {S : Sto}
theorem datP_all {f : Nat} (ih : ∀ {w : PV} {v : V} {d : PyData}, RW K ρ S.length H w v → datP S f w = some d → Dp K H v d) :
    ∀ {xs : List PV} {vs : List V} {ds : List PyData}, RWs K ρ S.length H xs vs → optAll (datP S f) xs = some ds → DpAll K H vs ds
  | [], _, _, r, h => by cases r; cases h; exact .nil
  | x :: xs, _, _, r, h => by
    cases r with
    | cons r rs =>
      unfold optAll at h
      split at h
      · rename_i d ds e1 e2
        cases h
        exact .cons (ih r e1) (datP_all ih rs e2)
      · cases h
theorem datP_dp (hS : RSt K ρ H S) : ∀ {f : Nat} {w : PV} {v : V} {d : PyData}, RW K ρ S.length H w v → datP S f w = some d → Dp K H v d
  | 0, _, _, _, _, h => by cases h
  | f + 1, w, v, d, r, h => by
    cases r with
    | non => cases h; exact .non
    | bl b => cases h; exact .bl b
    | int i => cases h; exact .int i
    | str x =>
      simp only [datP, toS_cps] at h
      split at h
      · cases h; exact .str x
      · cases h
    | tup s t =>
      simp only [datP] at h
      cases e : optAll (datP S f) _ with
      | none => rw [e] at h; cases h
      | some ds => rw [e] at h; cases h; exact .tup s (datP_all (datP_dp hS) t e)
    | loc n hn =>
      simp only [datP] at h
      split at h
      · rename_i xs e0
        obtain ⟨vs, s, t⟩ := seq_of hS e0
        cases e : optAll (datP S f) _ with
        | none => rw [e] at h; cases h
        | some ds => rw [e] at h; cases h; exact .lst s (datP_all (datP_dp hS) t e)
      · cases h
    | gl x => cases h
    | ty n => cases h
end
def eqM (neg : Bool) : PV → PV → Sto → Out PV := fun a b S => match scalP a b with
  | some k => .ok (.bl (if neg = true then !k else k)) S
  | none => match datP S 60 a, datP S 60 b with
    | some d, some e => .ok (.bl (if neg = true then !PyData.eqv d e else PyData.eqv d e)) S
    | _, _ => .bad
def gEq := eqM false
def gNe := eqM true
def rEqM (K : PySem.W.Frag) : R2 := fun x y H Q => rEq x y H Q ∨ rEqD K x y H Q
def rNeM (K : PySem.W.Frag) : R2 := fun x y H Q => rNe x y H Q ∨ rNeD K x y H Q
theorem shaped_of {S : Sto} {w : PV} {d : PyData} (h : datP S 60 w = some d) : SeqAt.shaped d = true := by
  obtain ⟨a, b⟩ := datP_ok h
  unfold SeqAt.shaped
  rw [a, Bool.true_and]
  exact decide_eq_true (Nat.le_trans b (by decide))
theorem str_eq_iff {x y : Str} : (x.cps.toList = y.cps.toList) = (x = y) := by
  apply propext
  constructor
  · intro h
    cases x; cases y
    simp at h
    rw [h]
  · intro h; rw [h]
theorem cps_iff {x y : Str} : x.cps = y.cps ↔ x = y := by
  cases x; cases y; simp
theorem cps_iff' {x y : Str} : x = y ↔ x.cps = y.cps := cps_iff.symm
theorem scal_of {K : PySem.W.Frag} {ρ : Nat → Addr} {N : Nat} {H : Hp} {a b : PV} {x y : V} {k : Bool} (ra : RW K ρ N H a x) (rb : RW K ρ N H b y) (h : scalP a b = some k) : scal x y = true ∧ k = decide (x = y) := by
  cases ra <;> cases rb <;> first
    | (simp [scalP] at h; done)
    | (simp only [scalP, Option.some.injEq] at h; subst h; refine ⟨rfl, ?_⟩; first | rfl | (simp [cps_iff]; done) | (rename_i b1 b2; cases b1 <;> cases b2 <;> rfl))
section
variable {X : Cx} {Wx : WX}
theorem or_eqM (hu : X.A.units + 64 < cLine) : OpR X (compareOp .Eq) (rEqM X.K) := op_eq.or (op_eqD hu)
theorem or_neM (hu : X.A.units + 64 < cLine) : OpR X (compareOp .NotEq) (rNeM X.K) := op_ne.or (op_neD hu)
theorem oi_eq : OpI X Wx (rEqM X.K) gEq := by
  intro ρ S H w1 w2 x y Ex Q hS r1 r2 h
  unfold gEq eqM at h
  split at h
  · rename_i k e
    obtain ⟨a, b⟩ := scal_of r1 r2 e
    subst b
    exact .inl ⟨a, h.here hS (.bl _)⟩
  · split at h
    · rename_i d1 d2 e1 e2
      exact .inr ⟨_, _, datP_dp hS r1 e1, datP_dp hS r2 e2, shaped_of e1, shaped_of e2, h.here hS (.bl _)⟩
    · exact h.elim
theorem oi_ne : OpI X Wx (rNeM X.K) gNe := by
  intro ρ S H w1 w2 x y Ex Q hS r1 r2 h
  unfold gNe eqM at h
  split at h
  · rename_i k e
    obtain ⟨a, b⟩ := scal_of r1 r2 e
    subst b
    exact .inl ⟨a, h.here hS (.bl _)⟩
  · split at h
    · rename_i d1 d2 e1 e2
      exact .inr ⟨_, _, datP_dp hS r1 e1, datP_dp hS r2 e2, shaped_of e1, shaped_of e2, h.here hS (.bl _)⟩
    · exact h.elim
end
/-! ### in, is -/
def flatP : PV → Bool
  | .non => true
  | .bl _ => true
  | .int _ => true
  | .str _ => true
  | _ => false
def eqF : PV → PV → Bool
  | .non, .non => true
  | .bl a, .bl b => a == b
  | .bl a, .int b => (if a then 1 else 0) == b
  | .int a, .bl b => a == (if b then 1 else 0)
  | .int a, .int b => a == b
  | .str a, .str b => decide (a = b)
  | _, _ => false
def inP (x : PV) (xs : List PV) : Bool := xs.any fun y => eqF y x
section
variable {K : PySem.W.Frag} {ρ : Nat → Addr} {N : Nat} {H : Hp}
theorem flat_of {w : PV} {v : V} (r : RW K ρ N H w v) : flatV v = flatP w := by cases r <;> rfl
theorem flats_of : ∀ {ws : List PV} {vs : List V}, RWs K ρ N H ws vs → vs.all flatV = ws.all flatP
  | _, _, .nil => rfl
  | _, _, .cons r t => by rw [List.all_cons, List.all_cons, flat_of r, flats_of t]
theorem eqF_of {a b : PV} {x y : V} (r : RW K ρ N H a x) (q : RW K ρ N H b y) : eqV x y = eqF a b := by
  cases r <;> cases q <;> first | rfl | skip
  rename_i s t
  show (s == t) = decide (s.cps.toList = t.cps.toList)
  rw [Bool.eq_iff_iff]
  simp [cps_iff']
theorem inP_of {x : PV} {v : V} (r : RW K ρ N H x v) : ∀ {ws : List PV} {vs : List V}, RWs K ρ N H ws vs → inV v vs = inP x ws
  | _, _, .nil => rfl
  | _, _, .cons q t => by
    have := inP_of r t
    unfold inV inP at this ⊢
    rw [List.any_cons, List.any_cons, eqF_of q r, this]
end
def inM (neg : Bool) : PV → PV → Sto → Out PV := fun a b S => match b with
  | .tup xs => if flatP a && xs.all flatP then .ok (.bl (if neg then !inP a xs else inP a xs)) S else .bad
  | .loc n => (match seqAt S n with
    | some xs => if flatP a && xs.all flatP then .ok (.bl (if neg then !inP a xs else inP a xs)) S else .bad
    | none => .bad)
  | _ => .bad
section
variable {X : Cx} {Wx : WX}
theorem oi_inS {neg : Bool} : OpI X Wx (rIn X.K neg) (inM neg) := by
  intro ρ S H w1 w2 x y Ex Q hS r1 r2 h
  unfold inM at h
  split at h
  · split at h
    · rename_i q
      rw [Bool.and_eq_true] at q
      cases r2 with
      | tup s t =>
        refine ⟨_, _, rfl, .inr s, by rw [flat_of r1]; exact q.1, by rw [flats_of t]; exact q.2, ?_⟩
        rw [inP_of r1 t]
        exact h.here hS (.bl _)
    · exact h.elim
  · split at h
    · split at h
      · rename_i e q
        rw [Bool.and_eq_true] at q
        cases r2
        obtain ⟨vs, s, t⟩ := seq_of hS e
        refine ⟨_, _, rfl, .inl s, by rw [flat_of r1]; exact q.1, by rw [flats_of t]; exact q.2, ?_⟩
        rw [inP_of r1 t]
        exact h.here hS (.bl _)
      · exact h.elim
    · exact h.elim
  · exact h.elim
def isNonP : PV → Bool
  | .non => true
  | _ => false
def isM (neg : Bool) : PV → PV → Sto → Out PV := fun a b S => match b with
  | .non => .ok (.bl (if neg then !isNonP a else isNonP a)) S
  | .bl k => (match a with
    | .bl j => .ok (.bl (if neg then !decide (j = k) else decide (j = k))) S
    | _ => .bad)
  | _ => .bad
def rIsM : R2 := fun x y H Q => (y = .non ∧ Q (.bl (decide (x = .non))) H) ∨ ∃ a b, x = .bl a ∧ y = .bl b ∧ Q (.bl (decide (a = b))) H
def rIsNM : R2 := fun x y H Q => (y = .non ∧ Q (.bl (!decide (x = .non))) H) ∨ ∃ a b, x = .bl a ∧ y = .bl b ∧ Q (.bl (!decide (a = b))) H
theorem or_isM : OpR X (compareOp .Is) rIsM := op_isN.or op_is_bl
theorem or_isNM : OpR X (compareOp .IsNot) rIsNM := op_notN.or op_isnot_bl
theorem non_of {K : PySem.W.Frag} {ρ : Nat → Addr} {N : Nat} {H : Hp} {w : PV} {v : V} (r : RW K ρ N H w v) : decide (v = .non) = isNonP w := by cases r <;> simp [isNonP]
theorem oi_is : OpI X Wx rIsM (isM false) := by
  intro ρ S H w1 w2 x y Ex Q hS r1 r2 h
  unfold isM at h
  split at h
  · cases r2
    refine .inl ⟨rfl, ?_⟩
    rw [non_of r1]
    exact h.here hS (.bl _)
  · split at h
    · cases r1; cases r2
      exact .inr ⟨_, _, rfl, rfl, h.here hS (.bl _)⟩
    · exact h.elim
  · exact h.elim
theorem oi_isN : OpI X Wx rIsNM (isM true) := by
  intro ρ S H w1 w2 x y Ex Q hS r1 r2 h
  unfold isM at h
  split at h
  · cases r2
    refine .inl ⟨rfl, ?_⟩
    rw [non_of r1]
    exact h.here hS (.bl _)
  · split at h
    · cases r1; cases r2
      exact .inr ⟨_, _, rfl, rfl, h.here hS (.bl _)⟩
    · exact h.elim
  · exact h.elim
end
end GL

set_option Elab.async false
set_option linter.all false
set_option maxRecDepth 100000
set_option maxHeartbeats 1000000
namespace GL
open PySem PySem.Spec PyProof.Rows L2

/-! ### targets -/
abbrev MG := PV → Ls → Option Ls
abbrev MGs := List PV → Ls → Option Ls
def gN (i : Nat) : MG := fun w ls => some (ls.set i (some w))
def gsNil : MGs := fun ws ls => match ws with
  | [] => some ls
  | _ => none
def gsCons (g : MG) (r : MGs) : MGs := fun ws ls => match ws with
  | w :: t => (match g w ls with
    | some ls1 => r t ls1
    | none => none)
  | [] => none
def gT (r : MGs) : MG := fun w ls => match w with
  | .tup xs => r xs ls
  | _ => none
/-- nothing but the slots sl has changed -/
def Off (sl : List Nat) (σ σ' : L2.St) : Prop := σ'.length = σ.length ∧ ∀ j, j ∉ sl → σ'[j]? = σ[j]?
theorem Off.trans {s1 s2 : List Nat} {a b c : L2.St} (h : Off s1 a b) (h' : Off s2 b c) : Off (s1 ++ s2) a c :=
  ⟨h'.1.trans h.1, fun j hj => by
    rw [List.mem_append, not_or] at hj
    exact (h'.2 j hj.2).trans (h.2 j hj.1)⟩
theorem wipe_get {σ : L2.St} {j : Nat} : ∀ {vs : List Nat}, (L2.wipe σ vs)[j]? = if j ∈ vs ∧ j < σ.length then some none else σ[j]?
  | [] => by simp [L2.wipe]
  | v :: vs => by
    have hl := L2.wipe_length σ vs
    show ((L2.wipe σ vs).set v none)[j]? = _
    by_cases hv : v = j
    · subst hv
      by_cases hj : v < σ.length
      · rw [List.getElem?_set_self (by rw [hl]; exact hj), if_pos ⟨List.mem_cons_self, hj⟩]
      · rw [List.getElem?_eq_none (by rw [List.length_set, hl]; omega), if_neg (fun h => hj h.2), List.getElem?_eq_none (by omega)]
    · rw [List.getElem?_set_ne hv, wipe_get (vs := vs)]
      have : (j ∈ v :: vs) = (j ∈ vs) := by
        apply propext
        rw [List.mem_cons]
        exact ⟨fun h => h.elim (fun e => absurd e.symm hv) id, .inr⟩
      simp only [this]
theorem Off.wipe {sl vs : List Nat} {σ σ' : L2.St} (h : Off sl (L2.wipe σ vs) σ') (hs : ∀ j ∈ sl, j ∈ vs) : L2.wipe σ' vs = L2.wipe σ vs := by
  have hl := L2.wipe_length σ vs
  apply List.ext_getElem?
  intro j
  rw [wipe_get, wipe_get, h.1, hl]
  split
  · rfl
  · rename_i q
    by_cases hj : j ∈ vs
    · have : ¬ j < σ.length := fun z => q ⟨hj, z⟩
      rw [List.getElem?_eq_none (by rw [h.1, hl]; omega), List.getElem?_eq_none (by omega)]
    · rw [h.2 j (fun z => hj (hs j z)), wipe_get, if_neg (fun z => hj z.1)]
section
variable {X : Cx} {pos : Pos}
def tGm (K : PySem.W.Frag) (g : MG) (sl : List Nat) : TG := fun v σ H Q => ∃ ρ S ls w ls', RSt K ρ H S ∧ RL K ρ S.length H ls σ ∧ RW K ρ S.length H w v ∧ g w ls = some ls' ∧
  ∀ σ', Off sl σ σ' → RL K ρ S.length H ls' σ' → Q σ' H
def tGms (K : PySem.W.Frag) (g : MGs) (sl : List Nat) : TGs := fun vs σ H Q => ∃ ρ S ls ws ls', RSt K ρ H S ∧ RL K ρ S.length H ls σ ∧ RWs K ρ S.length H ws vs ∧ g ws ls = some ls' ∧
  ∀ σ', Off sl σ σ' → RL K ρ S.length H ls' σ' → Q σ' H
abbrev IG (X : Cx) (e : Expr) (g : MG) (sl : List Nat) : Prop := PG X e (tGm X.K g sl)
/-- several targets; n of them -/
def IGs (X : Cx) (es : List Expr) (g : MGs) (n : Nat) (sl : List Nat) : Prop := PGs X es (tGms X.K g sl) ∧ ∀ ws ls ls', g ws ls = some ls' → ws.length = n
theorem PGi {e : Expr} {t t' : TG} (h : PG X e t) (i : ∀ v σ H Q, t' v σ H Q → t v σ H Q) : PG X e t' := ⟨fun pins s σ H v u Q I r hw => h.run pins s σ H v u Q I r (i _ _ _ _ hw)⟩
theorem PGsi {e : List Expr} {t t' : TGs} (h : PGs X e t) (i : ∀ v σ H Q, t' v σ H Q → t v σ H Q) : PGs X e t' := ⟨fun pins s σ H v u Q I r hw => h.run pins s σ H v u Q I r (i _ _ _ _ hw)⟩
theorem off_set {σ : L2.St} {i : Nat} {o : Option V} : Off [i] σ (σ.set i o) := ⟨List.length_set, fun j hj => List.getElem?_set_ne (fun e => hj (List.mem_singleton.mpr e.symm))⟩
theorem ig_name {x : Str} (i : Nat) (hN : X.N.Nodup) (hi : X.N[i]? = some x := by rfl) (hx : Loc X.env.scope x := by first | exact Or.inl rfl | exact Or.inr rfl) (hf : X.fn x = true ∨ X.env.scope.names.lookup x = some .local := by first | exact .inl rfl | exact .inr rfl) :
    IG X (.Name x pos) (gN i) [i] := PGi (pg_name (i := i) hN hi hx hf) fun v σ H Q ⟨ρ, S, ls, w, ls', hS, hL, r, e, h⟩ => by
  cases e
  exact h _ off_set (RL.set r i hL)
theorem igs_nil : IGs X [] gsNil 0 [] := by
  refine ⟨PGsi pgs_nil fun vs σ H Q ⟨ρ, S, ls, ws, ls', hS, hL, r, e, h⟩ => ?_, fun ws ls ls' e => ?_⟩
  · unfold gsNil at e
    split at e
    · cases e; cases r; exact ⟨rfl, h σ ⟨rfl, fun _ _ => rfl⟩ hL⟩
    · cases e
  · unfold gsNil at e
    split at e
    · rfl
    · cases e
theorem igs_cons {e : Expr} {es : List Expr} {g : MG} {gs : MGs} {n : Nat} {s1 s2 : List Nat} (h1 : IG X e g s1) (h2 : IGs X es gs n s2) (hs : (assignEach (e :: es) X.env).map (·.2) = assign e X.env :: (assignEach es X.env).map (·.2) := by rfl) : IGs X (e :: es) (gsCons g gs) (n + 1) (s1 ++ s2) := by
  refine ⟨PGsi (pgs_cons h1 h2.1 hs) fun vs σ H Q ⟨ρ, S, ls, ws, ls', hS, hL, r, e, h⟩ => ?_, fun ws ls ls' e => ?_⟩
  · cases r with
    | nil => cases e
    | cons r rs =>
      unfold gsCons at e
      dsimp only at e
      split at e
      · rename_i ls1 e1
        exact ⟨_, _, rfl, ρ, S, ls, _, ls1, hS, hL, r, e1, fun σ1 o1 l1 => ⟨ρ, S, ls1, _, ls', hS, l1, rs, e, fun σ2 o2 l2 => h σ2 (o1.trans o2) l2⟩⟩
      · cases e
  · cases ws with
    | nil => cases e
    | cons w t =>
      unfold gsCons at e
      dsimp only at e
      split at e
      · rename_i ls1 e1
        rw [List.length_cons, h2.2 _ _ _ e]
      · cases e
theorem ig_tup {es : List Expr} {k : Nat} {gs : MGs} {n : Nat} {sl : List Nat} (hc : X.calm = true) (h : IGs X es gs n sl) (hn : (assignEach es X.env).length = n := by rfl) (hst : (assignEach es X.env).findIdx? (·.1) = none := by rfl) :
    IG X (.Tuple es k pos) (gT gs) sl := PGi (pg_tup hc h.1 hn hst) fun v σ H Q ⟨ρ, S, ls, w, ls', hS, hL, r, e, q⟩ => by
  unfold gT at e
  split at e
  · cases r with
    | tup s t => exact ⟨_, _, rfl, s, by rw [← t.length]; exact h.2 _ _ _ e, ρ, S, ls, _, ls', hS, hL, t, e, q⟩
  · cases e
/-- target = e, any target of names -/
def sAsg (g : MG) (m : ME) : MS := fun ls S => (m ls S).then ls fun w S1 => match g w ls with
  | some ls1 => .nx ls1 S1
  | none => .bad
theorem is_asg {Wx : WX} {tg e : Expr} {m : ME} {g : MG} {sl : List Nat} (hg : IG X tg g sl) (he : IE X Wx e m) (hs : swapsWithSole [tg] e pos.line X.env = pure false := by rfl) (hw : swappedStores [tg] e X.env = pure none := by rfl)
    (h1 : (assignEach [tg] X.env).map (·.2) = [assign tg X.env] := by rfl) : IS X Wx (.Assign [tg] e pos) (sAsg g m) :=
  PSi (ps_asg he hg hs hw h1) fun D σ H ⟨ρ, S, ls, hS, hL, h⟩ => ⟨ρ, S, ls, hS, hL, (Post.then (R := RW) hL h).imp fun x H1 ⟨ρ1, S1, w1, e1, hS1, r1, h1⟩ => by
    split at h1
    · rename_i ls1 e2
      exact ⟨ρ1, S1, ls, w1, ls1, hS1, hL.ext e1, r1, e2, fun σ' _ l' => h1 ρ1 H1 σ' .refl hS1 l'⟩
    · exact h1.elim⟩
end

/-! ### what is walked -/
structure Wk where
  items : List PV
  chk : Nat → Sto → Bool
/-- J walks what it says -/
def RIt (K : PySem.W.Frag) (ρ : Nat → Addr) (N : Nat) (H : Hp) (it : Wk) (J : It) : Prop :=
  ∀ ρ' S' H', Ext K ρ N H ρ' S'.length H' → RSt K ρ' H' S' →
    (∀ i x, it.items[i]? = some x → it.chk i S' = true → J.go i H' ∧ ∀ v H2, J.yld i H' v H2 → ∃ ρ2, Ext K ρ' S'.length H' ρ2 S'.length H2 ∧ RSt K ρ2 H2 S' ∧ RW K ρ2 S'.length H2 x v) ∧
    (it.chk it.items.length S' = true → J.stop it.items.length H')
abbrev MI := Ls → Sto → Out Wk
abbrev RItF : RelF Wk It := RIt
def tI (K : PySem.W.Frag) (Wx : WX) (m : MI) : TI := fun σ H R => ∃ ρ S ls, RSt K ρ H S ∧ RL K ρ S.length H ls σ ∧ Post RItF K ρ S.length H (fun c d H' => Wx c d σ H') (m ls S) R
abbrev II (X : Cx) (Wx : WX) (tg e : Expr) (m : MI) : Prop := PI X tg e (tI X.K Wx m)
theorem PIi {X : Cx} {tg e : Expr} {t t' : TI} (h : PI X tg e t) (i : ∀ σ H R, t' σ H R → t σ H R) : PI X tg e t' := ⟨fun pins s σ H R I hw => h.run pins s σ H R I (i _ _ _ hw)⟩
def always : Nat → Sto → Bool := fun _ _ => true
def isLst (n : Nat) (xs : List PV) : Nat → Sto → Bool := fun _ S => match S[n]? with
  | some (.lst ys) => PV.beqs ys xs
  | _ => false
theorem isLst_self {n : Nat} {xs : List PV} {S : Sto} {i : Nat} (h : S[n]? = some (.lst xs)) : isLst n xs i S = true := by
  unfold isLst; rw [h]; exact PV.beqs_self xs
theorem isLst_get {n : Nat} {xs : List PV} {S : Sto} {i : Nat} (h : isLst n xs i S = true) : S[n]? = some (.lst xs) := by
  unfold isLst at h
  split at h
  · rename_i e; rw [e, PV.eqs_of_beqs h]
  · cases h
section
variable {K : PySem.W.Frag} {ρ : Nat → Addr} {N : Nat} {H : Hp}
theorem rit_tup {xs : List PV} {a : Addr} {vs : List V} (s : SqT K H a vs) (t : RWs K ρ N H xs vs) : RIt K ρ N H ⟨xs, always⟩ (Itt K a) := by
  intro ρ' S' H' e hS
  have s' := e.2.2.1 _ _ s
  have t' := t.ext e
  have w := walk_tup (K := K) (a := a) (xs := vs)
  have hl := t.length
  refine ⟨fun i x hx _ => ?_, fun _ => ?_⟩
  · obtain ⟨v, hv, r⟩ := t'.get hx
    have hi := (List.getElem?_eq_some_iff.mp hv).1
    refine ⟨w.goes i H' hi s', fun v' H2 y => ?_⟩
    obtain ⟨e1, e2⟩ := w.yields i H' v' H2 hi s' y
    subst e1
    rw [hv] at e2; cases e2
    exact ⟨ρ', .refl, hS, r⟩
  · show (Itt K a).stop xs.length H'
    rw [hl]; exact w.stops H' s'
theorem rit_rol {xs : List PV} {a : Addr} {vs : List V} (stay : ∀ ρ' S' H', Ext K ρ N H ρ' S'.length H' → RSt K ρ' H' S' → SqL K H' a vs) (t : RWs K ρ N H xs vs) : RIt K ρ N H ⟨xs, always⟩ (Itl K a) := by
  intro ρ' S' H' e hS
  have s' := stay ρ' S' H' e hS
  have t' := t.ext e
  have w := walk_list (K := K) (a := a) (xs := vs)
  have hl := t.length
  refine ⟨fun i x hx _ => ?_, fun _ => ?_⟩
  · obtain ⟨v, hv, r⟩ := t'.get hx
    have hi := (List.getElem?_eq_some_iff.mp hv).1
    refine ⟨w.goes i H' hi s', fun v' H2 y => ?_⟩
    obtain ⟨e1, e2⟩ := w.yields i H' v' H2 hi s' y
    subst e1
    rw [hv] at e2; cases e2
    exact ⟨ρ', .refl, hS, r⟩
  · show (Itl K a).stop xs.length H'
    rw [hl]; exact w.stops H' s'
theorem rit_lst {xs : List PV} {n : Nat} (hn : n < N) : RIt K ρ N H ⟨xs, isLst n xs⟩ (Itl K (ρ n)) := by
  intro ρ' S' H' e hS
  have en : ρ' n = ρ n := e.2.1 n hn
  refine ⟨fun i x hx hc => ?_, fun hc => ?_⟩
  · obtain ⟨vs, hv, t⟩ := hS.at_ _ _ (isLst_get (i := 0) hc)
    rw [en] at hv
    have w := walk_list (K := K) (a := ρ n) (xs := vs)
    obtain ⟨v, hv2, r⟩ := t.get hx
    have hi := (List.getElem?_eq_some_iff.mp hv2).1
    refine ⟨w.goes i H' hi (SqL.of hv), fun v' H2 y => ?_⟩
    obtain ⟨e1, e2⟩ := w.yields i H' v' H2 hi (SqL.of hv) y
    subst e1
    rw [hv2] at e2; cases e2
    exact ⟨ρ', .refl, hS, r⟩
  · obtain ⟨vs, hv, t⟩ := hS.at_ _ _ (isLst_get (i := 0) hc)
    rw [en] at hv
    have w := walk_list (K := K) (a := ρ n) (xs := vs)
    show (Itl K (ρ n)).stop xs.length H'
    rw [t.length]; exact w.stops H' (SqL.of hv)
theorem rit_rng {lo : Int} {n : Nat} : RIt K ρ N H ⟨(List.range n).map fun i => .int (lo + (i : Nat)), always⟩ (L2.Itr lo n) := by
  intro ρ' S' H' e hS
  have w := walk_range (lo := lo) (n := n)
  refine ⟨fun i x hx _ => ?_, fun _ => ?_⟩
  · rw [List.getElem?_map] at hx
    by_cases hi : i < n
    · rw [List.getElem?_range hi] at hx
      cases hx
      refine ⟨w.goes i H' hi trivial, fun v' H2 y => ?_⟩
      obtain ⟨e1, e2⟩ := w.yields i H' v' H2 hi trivial y
      subst e1; subst e2
      exact ⟨ρ', .refl, hS, .int _⟩
    · rw [List.getElem?_eq_none (by simpa using hi)] at hx; cases hx
  · have : ((List.range n).map fun (i : Nat) => PV.int (lo + (i : Nat))).length = n := by simp
    show (L2.Itr lo n).stop _ H'
    rw [this]; exact w.stops H' trivial
end
section
variable {X : Cx} {Wx : WX} {tg e : Expr} {m : ME} {mr : MA} {p pos : Pos}
/-- for x in e: a tuple, a list -/
def iSeq (m : ME) : MI := fun ls S => (m ls S).bind fun w S1 => match w with
  | .tup xs => .ok ⟨xs, always⟩ S1
  | .loc n => (match S1[n]? with
    | some (.lst xs) => .ok ⟨xs, isLst n xs⟩ S1
    | some (.rol xs) => .ok ⟨xs, always⟩ S1
    | _ => .bad)
  | _ => .bad
def rIterM (K : PySem.W.Frag) (x : V) (H : Hp) (R : It → Hp → Prop) : Prop := ∃ a, x = .ref a ∧ (((∃ xs, SqL K H a xs) ∧ R (Itl K a) H) ∨ ((∃ xs, SqT K H a xs) ∧ R (Itt K a) H))
theorem pi_seq {te : TE} (he : PE X e te) : PI X tg e (fun σ H R => te σ H fun x H1 => rIterM X.K x H1 R) := by
  constructor
  intro pins s σ H R I h
  apply thn (he.run pins s σ H _ I h)
  rintro v s1 ⟨x, H1, I1, r1, a, rfl, q⟩
  cases r1
  have fp : ∀ b ∈ [s1.heap.objs.size], FpOk X pins H1 b := by
    intro b hb
    have hb : b = s1.heap.objs.size := List.mem_singleton.mp hb
    rw [hb]
    exact I1.fpOk (Nat.le_refl _) I1.fresh
  rcases q with ⟨⟨xs, hq⟩, q⟩ | ⟨⟨xs, hq⟩, q⟩
  · obtain ⟨its, _, pl, _⟩ := I1.list hq
    apply wpAny_pyIter_list pl.isList
    exact ⟨_, [_], _, _, H1, rfl, I1.kept (t' := s1.toks) (fun _ _ z => Heap.get?_push_of_some _ z), turn_list a _, ⟨_, Heap.get?_push_size _ rfl, rfl, rfl⟩, fp, q⟩
  · obtain ⟨its, _, pl, _⟩ := I1.tuple hq
    apply wpAny_pyIter_tuple (items := its.toArray) pl
    exact ⟨_, [_], _, _, H1, rfl, I1.kept (t' := s1.toks) (fun _ _ z => Heap.get?_push_of_some _ z), turn_tuple a _, ⟨_, Heap.get?_push_size _ rfl, rfl, rfl⟩, fp, q⟩
theorem ii_seq (he : IE X Wx e m) : II X Wx tg e (iSeq m) := PIi (pi_seq he) fun σ H R ⟨ρ, S, ls, hS, hL, h⟩ => ⟨ρ, S, ls, hS, hL, (Post.bind (R := RW) h).imp fun x H1 ⟨ρ1, S1, w1, e1, hS1, r1, h1⟩ => by
    split at h1
    · cases r1 with
      | tup s t => exact ⟨_, rfl, .inr ⟨⟨_, s⟩, h1 ρ1 H1 _ .refl hS1 (rit_tup s t)⟩⟩
    · cases r1 with
      | loc n hn =>
        split at h1
        · rename_i xs e2
          obtain ⟨vs, a, b⟩ := hS1.at_ _ _ e2
          exact ⟨_, rfl, .inl ⟨⟨_, SqL.of a⟩, h1 ρ1 H1 _ .refl hS1 (rit_lst hn)⟩⟩
        · rename_i xs e2
          obtain ⟨vs, a, b⟩ := hS1.at_ _ _ e2
          refine ⟨_, rfl, .inl ⟨⟨_, a.sq⟩, h1 ρ1 H1 _ .refl hS1 (rit_rol (fun ρ' S' H' e hS' => (e.2.2.2 _ _ a).sq) b)⟩⟩
        · exact h1.elim
    · exact h1.elim⟩

def rngL (lo hi : Int) : List PV := (List.range (hi - lo).toNat).map fun (i : Nat) => .int (lo + (i : Nat))
def med : Int := 4611686018427387904
theorem med_ok {i : Int} (h : (decide (-med ≤ i) && decide (i < med)) = true) : -(2 ^ 62) ≤ i ∧ i < 2 ^ 62 := by
  rw [Bool.and_eq_true] at h
  have h : -4611686018427387904 ≤ i ∧ i < 4611686018427387904 := ⟨of_decide_eq_true h.1, of_decide_eq_true h.2⟩
  have e : (2 : Int) ^ 62 = 4611686018427387904 := by decide
  rw [e]; exact h
def iR1 (m : ME) : MI := fun ls S => (m ls S).bind fun w S1 => match w with
  | .int j => if (decide (-med ≤ j) && decide (j < med)) = true then .ok ⟨rngL 0 j, always⟩ S1 else .bad
  | _ => .bad
def iR2 (a b : ME) : MI := fun ls S => (a ls S).bind fun w S1 => (b ls S1).bind fun v S2 => match w, v with
  | .int i, .int j => if ((decide (-med ≤ i) && decide (i < med)) && (decide (-med ≤ j) && decide (j < med))) = true then .ok ⟨rngL i j, always⟩ S2 else .bad
  | _, _ => .bad
variable {e2 : Expr} {m2 : ME}
theorem ii_range1 (hm : X.mg "range" = none) (he : IE X Wx e m) (hg : Gl X "range" := by rfl) (hst : starEach [e] X.env = (false, eval e X.env) :: starEach [] X.env := by rfl) (hs : starEach [e] X.env = [(false, eval e X.env)] := by rfl) : II X Wx tg (.Call (.Name "range" p) [e] [] pos) (iR1 m) :=
  PIi (pi_range1 hg hm (pa_cons he pa_nil hst) hs) fun σ H R ⟨ρ, S, ls, hS, hL, h⟩ => ⟨ρ, S, ls, hS, hL, (Post.bind (R := RW) h).imp fun x H1 ⟨ρ1, S1, w1, e1, hS1, r1, h1⟩ => by
    split at h1
    · split at h1
      · rename_i q
        cases r1
        obtain ⟨a, b⟩ := med_ok q
        refine ⟨_, rfl, a, b, h1 ρ1 H1 _ .refl hS1 ?_⟩
        unfold rngL
        rw [Int.sub_zero]
        exact rit_rng
      · exact h1.elim
    · exact h1.elim⟩
theorem ii_range2 (hm : X.mg "range" = none) (he : IE X Wx e m) (he2 : IE X Wx e2 m2) (hg : Gl X "range" := by rfl) (hst2 : starEach [e2] X.env = (false, eval e2 X.env) :: starEach [] X.env := by rfl) (hst : starEach [e, e2] X.env = (false, eval e X.env) :: starEach [e2] X.env := by rfl)
    (hs : starEach [e, e2] X.env = [(false, eval e X.env), (false, eval e2 X.env)] := by rfl) (hs2 : starEach [e2] X.env = [(false, eval e2 X.env)] := by rfl) : II X Wx tg (.Call (.Name "range" p) [e, e2] [] pos) (iR2 m m2) :=
  PIi (pi_range2 hg hm (pa_cons he (pa_cons he2 pa_nil hst2) hst) hs hs2) fun σ H R ⟨ρ, S, ls, hS, hL, h⟩ => ⟨ρ, S, ls, hS, hL, (Post.bind (R := RW) h).imp fun x H1 ⟨ρ1, S1, w1, e1, hS1, r1, h1⟩ =>
    ⟨ρ1, S1, ls, hS1, hL.ext e1, (Post.bind (R := RW) h1).imp fun y H2 ⟨ρ2, S2, w2, e2, hS2, r2, h2⟩ => by
    have r1 := r1.ext e2
    split at h2
    · split at h2
      · rename_i q
        rw [Bool.and_eq_true] at q
        cases r1; cases r2
        obtain ⟨a, b⟩ := med_ok q.1
        obtain ⟨c, d⟩ := med_ok q.2
        exact ⟨_, _, rfl, ⟨a, b, c, d⟩, h2 ρ2 H2 _ .refl hS2 rit_rng⟩
      · exact h2.elim
    · exact h2.elim⟩⟩
/-- enumerate(list) -/
def enumL : Nat → List PV → List PV
  | _, [] => []
  | i, x :: r => .tup [.int (i : Nat), x] :: enumL (i + 1) r
theorem enumL_get {x : PV} : ∀ {xs : List PV} {k i : Nat}, (enumL k xs)[i]? = some x → ∃ y, xs[i]? = some y ∧ x = .tup [.int ((k + i : Nat) : Int), y]
  | [], _, _, h => by simp [enumL] at h
  | y :: r, k, 0, h => by simp [enumL] at h; exact ⟨y, by simp, h.symm⟩
  | y :: r, k, i + 1, h => by
    unfold enumL at h
    obtain ⟨z, h1, h2⟩ := enumL_get (xs := r) (k := k + 1) (i := i) (by simpa using h)
    exact ⟨z, by simpa using h1, by rw [h2]; congr 3; omega⟩
theorem enumL_len : ∀ {xs : List PV} {k : Nat}, (enumL k xs).length = xs.length
  | [], _ => rfl
  | _ :: r, k => by simp [enumL, enumL_len (xs := r)]
/-- a list of the store, read as it stands -/
def isSeq (n : Nat) (xs : List PV) : Nat → Sto → Bool := fun _ S => match seqAt S n with
  | some ys => PV.beqs ys xs
  | none => false
theorem isSeq_self {n : Nat} {xs : List PV} {S : Sto} {i : Nat} (h : seqAt S n = some xs) : isSeq n xs i S = true := by
  unfold isSeq; rw [h]; exact PV.beqs_self xs
theorem isSeq_get {n : Nat} {xs : List PV} {S : Sto} {i : Nat} (h : isSeq n xs i S = true) : seqAt S n = some xs := by
  unfold isSeq at h
  split at h
  · rename_i e; rw [e, PV.eqs_of_beqs h]
  · cases h
def iEnumM (m : ME) : MI := fun ls S => (m ls S).bind fun w S1 => match w with
  | .loc n => (match seqAt S1 n with
    | some xs => .ok ⟨enumL 0 xs, isSeq n xs⟩ S1
    | none => .bad)
  | _ => .bad
/-- a new pair, laid as a turn begins -/
theorem pair_new {K : PySem.W.Frag} {ρ : Nat → Addr} {S : Sto} {H : Hp} {T : Addr} {x y : PV} {v u : V} (hS : RSt K ρ H S) (hT : H T = none) (r : RW K ρ S.length H x v) (q : RW K ρ S.length H y u) :
    ∃ ρ2, Ext K ρ S.length H ρ2 S.length (upd H T (.tup [v, u])) ∧ RSt K ρ2 (upd H T (.tup [v, u])) S ∧ RW K ρ2 S.length (upd H T (.tup [v, u])) (.tup [x, y]) (.ref T) := by
  have e : Ext K ρ S.length H ρ S.length (upd H T (.tup [v, u])) := ext_keep hT
  exact ⟨ρ, e, hS.keep hT, .tup (SqT.of upd_same) (.cons (r.ext e) (.cons (q.ext e) .nil))⟩
theorem rit_enum {K : PySem.W.Frag} {ρ : Nat → Addr} {N : Nat} {H : Hp} {xs : List PV} {n : Nat} (hn : n < N) : RIt K ρ N H ⟨enumL 0 xs, isSeq n xs⟩ (Ite K (ρ n)) := by
  intro ρ' S' H' e hS
  have en : ρ' n = ρ n := e.2.1 n hn
  refine ⟨fun i x hx hc => ?_, fun hc => ?_⟩
  · obtain ⟨vs, hv, t⟩ := seq_of hS (isSeq_get (i := 0) hc)
    rw [en] at hv
    obtain ⟨y, hy, rfl⟩ := enumL_get hx
    obtain ⟨v, hv2, r⟩ := t.get hy
    have w := walk_enum (K := K) (a := ρ n) (xs := vs)
    have hi := (List.getElem?_eq_some_iff.mp hv2).1
    refine ⟨w.goes i H' hi hv, fun v' H2 y => ?_⟩
    obtain ⟨T, x', y', rfl, hT, rfl, q1, q2⟩ := w.yields i H' v' H2 hi hv y
    cases q1
    have q2 : vs[i]? = some y' := q2
    rw [hv2] at q2; cases q2
    rw [Nat.zero_add]
    exact pair_new hS hT (.int _) r
  · obtain ⟨vs, hv, t⟩ := seq_of hS (isSeq_get (i := 0) hc)
    rw [en] at hv
    have w := walk_enum (K := K) (a := ρ n) (xs := vs)
    show (Ite K (ρ n)).stop (enumL 0 xs).length H'
    rw [enumL_len, t.length]; exact w.stops H' hv
theorem ii_enum {elts : List Expr} {kk : Nat} {tpos : Pos} (hm : X.mg "enumerate" = none) (he : IE X Wx e m) (hg : Gl X "enumerate" := by rfl) (hst : starEach [e] X.env = (false, eval e X.env) :: starEach [] X.env := by rfl) (hs : starEach [e] X.env = [(false, eval e X.env)] := by rfl) :
    II X Wx (.Tuple elts kk tpos) (.Call (.Name "enumerate" p) [e] [] pos) (iEnumM m) :=
  PIi (pi_enum hg hm (pa_cons he pa_nil hst) hs) fun σ H R ⟨ρ, S, ls, hS, hL, h⟩ => ⟨ρ, S, ls, hS, hL, (Post.bind (R := RW) h).imp fun x H1 ⟨ρ1, S1, w1, e1, hS1, r1, h1⟩ => by
    split at h1
    · split at h1
      · rename_i xs e2
        cases r1 with
        | loc n hn =>
          obtain ⟨vs, hv, t⟩ := seq_of hS1 e2
          exact ⟨_, vs, rfl, hv, h1 ρ1 H1 _ .refl hS1 (rit_enum hn)⟩
      · exact h1.elim
    · exact h1.elim⟩
/-- zip(list, list) -/
def zipL : List PV → List PV → List PV
  | x :: r, y :: s => .tup [x, y] :: zipL r s
  | _, _ => []
theorem zipL_get {x : PV} : ∀ {xs ys : List PV} {i : Nat}, (zipL xs ys)[i]? = some x → ∃ a b, xs[i]? = some a ∧ ys[i]? = some b ∧ x = .tup [a, b]
  | [], _, _, h => by simp [zipL] at h
  | _ :: _, [], _, h => by simp [zipL] at h
  | a :: r, b :: s, 0, h => by simp [zipL] at h; exact ⟨a, b, by simp, by simp, h.symm⟩
  | a :: r, b :: s, i + 1, h => by
    unfold zipL at h
    obtain ⟨c, d, h1, h2, h3⟩ := zipL_get (xs := r) (ys := s) (i := i) (by simpa using h)
    exact ⟨c, d, by simpa using h1, by simpa using h2, h3⟩
theorem zipL_len : ∀ {xs ys : List PV}, (zipL xs ys).length = min xs.length ys.length
  | [], _ => by simp [zipL]
  | _ :: _, [] => by simp [zipL]
  | _ :: r, _ :: s => by
    have := zipL_len (xs := r) (ys := s)
    simp only [zipL, List.length_cons, this]; omega
def iZipM (a b : ME) : MI := fun ls S => (a ls S).bind fun w S1 => (b ls S1).bind fun v S2 => match w, v with
  | .loc n, .loc k => (match seqAt S2 n, seqAt S2 k with
    | some xs, some ys => .ok ⟨zipL xs ys, fun i S => isSeq n xs i S && isSeq k ys i S⟩ S2
    | _, _ => .bad)
  | _, _ => .bad
theorem rit_zip {K : PySem.W.Frag} {ρ : Nat → Addr} {N : Nat} {H : Hp} {xs ys : List PV} {n k : Nat} (hn : n < N) (hk : k < N) : RIt K ρ N H ⟨zipL xs ys, fun i S => isSeq n xs i S && isSeq k ys i S⟩ (Itz K (ρ n) (ρ k)) := by
  intro ρ' S' H' e hS
  have en : ρ' n = ρ n := e.2.1 n hn
  have ek : ρ' k = ρ k := e.2.1 k hk
  have two : (isSeq n xs 0 S' && isSeq k ys 0 S') = true → ∃ vs us, SqL K H' (ρ n) vs ∧ RWs K ρ' S'.length H' xs vs ∧ SqL K H' (ρ k) us ∧ RWs K ρ' S'.length H' ys us := fun hc => by
    rw [Bool.and_eq_true] at hc
    obtain ⟨vs, hv, t⟩ := seq_of hS (isSeq_get hc.1)
    obtain ⟨us, hu, t'⟩ := seq_of hS (isSeq_get hc.2)
    rw [en] at hv
    rw [ek] at hu
    exact ⟨vs, us, hv, t, hu, t'⟩
  refine ⟨fun i x hx hc => ?_, fun hc => ?_⟩
  · obtain ⟨vs, us, hv, t, hu, t'⟩ := two hc
    obtain ⟨a, b, ha, hb, rfl⟩ := zipL_get hx
    obtain ⟨v, hv2, r⟩ := t.get ha
    obtain ⟨u, hu2, q⟩ := t'.get hb
    have w := walk_zip (K := K) (a := ρ n) (b := ρ k) (xs := vs) (ys := us) rfl
    have hi := (List.getElem?_eq_some_iff.mp hv2).1
    have hi' := (List.getElem?_eq_some_iff.mp hu2).1
    have hlt : i < min vs.length us.length := by omega
    refine ⟨w.goes i H' hlt ⟨hv, hu⟩, fun v' H2 y => ?_⟩
    obtain ⟨T, x', y', rfl, hT, rfl, q1, q2⟩ := w.yields i H' v' H2 hlt ⟨hv, hu⟩ y
    have q1 : vs[i]? = some x' := q1
    have q2 : us[i]? = some y' := q2
    rw [hv2] at q1; cases q1
    rw [hu2] at q2; cases q2
    exact pair_new hS hT r q
  · obtain ⟨vs, us, hv, t, hu, t'⟩ := two hc
    have w := walk_zip (K := K) (a := ρ n) (b := ρ k) (xs := vs) (ys := us) rfl
    show (Itz K (ρ n) (ρ k)).stop (zipL xs ys).length H'
    rw [zipL_len, t.length, t'.length]; exact w.stops H' ⟨hv, hu⟩
theorem ii_zip {elts : List Expr} {kk : Nat} {tpos : Pos} (hm : X.mg "zip" = none) (he : IE X Wx e m) (he2 : IE X Wx e2 m2) (hg : Gl X "zip" := by rfl) (hst2 : starEach [e2] X.env = (false, eval e2 X.env) :: starEach [] X.env := by rfl)
    (hst : starEach [e, e2] X.env = (false, eval e X.env) :: starEach [e2] X.env := by rfl) (hpl : (backTo pos (starEach [e2] X.env)).any (·.1) = false := by rfl) :
    II X Wx (.Tuple elts kk tpos) (.Call (.Name "zip" p) [e, e2] [] pos) (iZipM m m2) :=
  PIi (pi_zip hg hm (pa_cons he (pa_cons he2 pa_nil hst2) hst) hst hpl) fun σ H R ⟨ρ, S, ls, hS, hL, h⟩ => ⟨ρ, S, ls, hS, hL, (Post.bind (R := RW) h).imp fun x H1 ⟨ρ1, S1, w1, e1, hS1, r1, h1⟩ =>
    ⟨ρ1, S1, ls, hS1, hL.ext e1, (Post.bind (R := RW) h1).imp fun y H2 ⟨ρ2, S2, w2, e2, hS2, r2, h2⟩ => by
    have r1 := r1.ext e2
    split at h2
    · split at h2
      · rename_i xs ys a b
        cases r1 with
        | loc n hn => cases r2 with
          | loc k hk =>
            obtain ⟨vs, hv, t⟩ := seq_of hS2 a
            obtain ⟨us, hu, t'⟩ := seq_of hS2 b
            exact ⟨_, _, vs, us, rfl, hv, hu, h2 ρ2 H2 _ .refl hS2 (rit_zip hn hk)⟩
      · exact h2.elim
    · exact h2.elim⟩⟩
/-- reversed(list) -/
def iRevM (m : ME) : MI := fun ls S => (m ls S).bind fun w S1 => match w with
  | .loc n => (match seqAt S1 n with
    | some xs => .ok ⟨xs.reverse, isSeq n xs⟩ S1
    | none => .bad)
  | _ => .bad
theorem rit_rev {K : PySem.W.Frag} {ρ : Nat → Addr} {N : Nat} {H : Hp} {xs : List PV} {n : Nat} (hn : n < N) : RIt K ρ N H ⟨xs.reverse, isSeq n xs⟩ (Itv K (ρ n) xs.length) := by
  intro ρ' S' H' e hS
  have en : ρ' n = ρ n := e.2.1 n hn
  refine ⟨fun i x hx hc => ?_, fun hc => ?_⟩
  · obtain ⟨vs, hv, t⟩ := seq_of hS (isSeq_get (i := 0) hc)
    rw [en] at hv
    have hi : i < xs.length := by have := (List.getElem?_eq_some_iff.mp hx).1; simpa using this
    rw [List.getElem?_reverse hi] at hx
    obtain ⟨v, hv2, r⟩ := t.get hx
    have w := walk_rev (K := K) (a := ρ n) (xs := vs)
    have hl := t.length
    rw [hl] at hi hv2 ⊢
    refine ⟨w.goes i H' hi hv, fun v' H2 y => ?_⟩
    obtain ⟨e1, q2⟩ := w.yields i H' v' H2 hi hv y
    subst e1
    rw [hv2] at q2; cases q2
    exact ⟨ρ', .refl, hS, r⟩
  · obtain ⟨vs, hv, t⟩ := seq_of hS (isSeq_get (i := 0) hc)
    rw [en] at hv
    have w := walk_rev (K := K) (a := ρ n) (xs := vs)
    show (Itv K (ρ n) xs.length).stop xs.reverse.length H'
    rw [List.length_reverse, t.length]; exact w.stops H' hv
theorem ii_rev (hm : X.mg "reversed" = none) (he : IE X Wx e m) (hg : Gl X "reversed" := by rfl) (hst : starEach [e] X.env = (false, eval e X.env) :: starEach [] X.env := by rfl) (hs : starEach [e] X.env = [(false, eval e X.env)] := by rfl) :
    II X Wx tg (.Call (.Name "reversed" p) [e] [] pos) (iRevM m) :=
  PIi (pi_reversed hg hm (pa_cons he pa_nil hst) hs) fun σ H R ⟨ρ, S, ls, hS, hL, h⟩ => ⟨ρ, S, ls, hS, hL, (Post.bind (R := RW) h).imp fun x H1 ⟨ρ1, S1, w1, e1, hS1, r1, h1⟩ => by
    split at h1
    · split at h1
      · rename_i xs e2
        cases r1 with
        | loc n hn =>
          obtain ⟨vs, hv, t⟩ := seq_of hS1 e2
          refine ⟨_, vs, rfl, hv, h1 ρ1 H1 _ .refl hS1 ?_⟩
          rw [← t.length]
          exact rit_rev hn
      · exact h1.elim
    · exact h1.elim⟩
end

/-! ### for -/
def forGo (chk : Nat → Sto → Bool) (g : MG) (body : MS) : Nat → List PV → MS
  | i, [], ls, S => if chk i S = true then .nx ls S else .bad
  | i, x :: r, ls, S => if chk i S = true then (match g x ls with
    | none => .bad
    | some ls1 => (match body ls1 S with
      | .nx ls2 S2 => forGo chk g body (i + 1) r ls2 S2
      | .ct ls2 S2 => forGo chk g body (i + 1) r ls2 S2
      | .bk ls2 S2 => .nx ls2 S2
      | q => q)) else .bad
def sFor (it : MI) (g : MG) (body : MS) : MS := fun ls S => (it ls S).then ls fun t S1 => forGo t.chk g body 0 t.items ls S1
section
variable {X : Cx} {Wx : WX} {tg e : Expr} {mi : MI} {g : MG} {mb : MS} {pos : Pos} {body : List Stmt} {sl : List Nat}
theorem is_for (hp : PassesOwn (model X.prog X.w) X.A X.env X.xe) (hc : X.calm = true) (hi : II X Wx tg e mi) (hg : IG X tg g sl) (hb : ISs X Wx body mb) (hs : ∀ x, foldedSetIterable e X.env x = pure x := by intro _; rfl) :
    IS X Wx (.For tg e body [] pos) (sFor mi g mb) :=
  PSi (ps_for hp hc hi hg hb hs) fun D σ H ⟨ρ, S, ls, hS, hL, h⟩ => ⟨ρ, S, ls, hS, hL, (Post.then (R := RItF) hL h).imp fun J H1 ⟨ρ1, S1, t, e1, hS1, r1, h1⟩ => by
    have l1 := hL.ext e1
    clear h hS hL
    refine ⟨fun i m σ H => m = t.items.length - i ∧ i ≤ t.items.length ∧ ∃ ρ S ls, Ext X.K ρ1 S1.length H1 ρ S.length H ∧ RSt X.K ρ H S ∧ RL X.K ρ S.length H ls σ ∧ PostS X.K ρ S.length H Wx (forGo t.chk g mb i (t.items.drop i) ls S) D,
      ⟨_, rfl, Nat.zero_le _, ρ1, S1, ls, .refl, hS1, l1, by rw [List.drop_zero]; exact h1⟩, ?_⟩
    rintro i m σ2 H2 ⟨rfl, hi, ρ2, S2, ls2, e2, hS2, l2, h2⟩
    obtain ⟨w1, w2⟩ := r1 ρ2 S2 H2 e2 hS2
    by_cases hlt : i < t.items.length
    · rw [List.drop_eq_getElem_cons hlt] at h2
      unfold forGo at h2
      split at h2
      · rename_i hc
        obtain ⟨go, yl⟩ := w1 i _ (List.getElem?_eq_getElem hlt) hc
        refine .inr ⟨go, fun σ3 H3 => ∃ ρ S ls, Ext X.K ρ1 S1.length H1 ρ S.length H3 ∧ RSt X.K ρ H3 S ∧ RL X.K ρ S.length H3 ls σ3 ∧ PostS X.K ρ S.length H3 Wx (forGo t.chk g mb (i + 1) (t.items.drop (i + 1)) ls S) D,
          fun σ' H' q => ⟨_, by omega, rfl, hlt, q⟩, fun v H3 y => ?_⟩
        obtain ⟨ρ3, e3, hS3, r3⟩ := yl v H3 y
        split at h2
        · exact h2.elim
        · rename_i ls3 eg
          refine ⟨ρ3, S2, ls2, _, ls3, hS3, l2.ext e3, r3, eg, fun σ4 _ l4 => ⟨ρ3, S2, ls3, hS3, l4, ?_⟩⟩
          have h3 := PostS.ext e3 h2
          cases hm : mb ls3 S2 with
          | nx a S' => rw [hm] at h3; exact fun ρ4 H4 σ5 e4 s4 l5 => ⟨ρ4, S', a, (e2.trans e3).trans e4, s4, l5, PostS.ext e4 h3⟩
          | ct a S' => rw [hm] at h3; exact fun ρ4 H4 σ5 e4 s4 l5 => ⟨ρ4, S', a, (e2.trans e3).trans e4, s4, l5, PostS.ext e4 h3⟩
          | bk a S' => rw [hm] at h3; exact h3
          | rt a S' => rw [hm] at h3; exact h3
          | exc a b S' => rw [hm] at h3; exact h3
          | bad => rw [hm] at h3; exact h3
      · exact h2.elim
    · have ei : i = t.items.length := by omega
      subst ei
      rw [List.drop_length] at h2
      unfold forGo at h2
      split at h2
      · rename_i hc
        exact .inl ⟨w2 hc, h2 ρ2 H2 σ2 .refl hS2 l2⟩
      · exact h2.elim⟩
end

/-! ### [elt for target in it if test] -/
def lcGo (chk : Nat → Sto → Bool) (g : MG) (tt : MT) (te : ME) (vs : List Nat) (D : Nat) (ls : Ls) : Nat → List PV → Sto → Out PV
  | i, [], S => if chk i S = true then .ok (.loc D) S else .bad
  | i, x :: r, S => if chk i S = true then (match g x (wipeL ls vs) with
    | none => .bad
    | some ls1 => (match tt ls1 S with
      | .ok true S1 => (match te ls1 S1 with
        | .ok w S2 => (match lstAt S2 D with
          | some acc => if acc.length < lim then lcGo chk g tt te vs D ls (i + 1) r (S2.set D (.lst (acc ++ [w]))) else .bad
          | none => .bad)
        | _ => .bad)
      | .ok false S1 => lcGo chk g tt te vs D ls (i + 1) r S1
      | _ => .bad)) else .bad
def eLc (it : MI) (g : MG) (tt : MT) (te : ME) (vs : List Nat) : ME := fun ls S => (it ls S).bind fun t S1 => lcGo t.chk g tt te vs S1.length ls 0 t.items (S1 ++ [.lst []])
def tYesM : MT := fun _ S => .ok true S
abbrev ITs (X : Cx) (ifs : List Expr) (m : MT) : Prop := PTs X ifs (tT X.K (fun _ _ _ _ => False) m)
theorem its_nil {X : Cx} : ITs X [] tYesM := ⟨fun pins s σ H Q I ⟨ρ, S, ls, hS, hL, h⟩ => pts_nil.run pins s σ H Q I (h ρ H true .refl hS rfl)⟩
theorem its_one {X : Cx} {c : Expr} {m : MT} (h : IT X (fun _ _ _ _ => False) c m) : ITs X [c] m := pts_one h
section
variable {X : Cx} {Wx : WX} {elt tg iter : Expr} {ifs : List Expr} {scope : Scope} {own : List (Str × Nat)} {pos : Pos} {mi : MI} {g : MG} {mt : MT} {me : ME} {sl : List Nat}
theorem lc_in {σ : L2.St} {H : Hp} {Q : VK} (hsl : ∀ j ∈ sl, j ∈ own.map (·.2)) (h : tE X.K Wx (eLc mi g mt me (own.map (·.2))) σ H Q) :
    tLc (tI X.K Wx mi) (tGm X.K g sl) (tT X.K (fun _ _ _ _ => False) mt) (tE X.K (fun _ _ _ _ => False) me) (own.map (·.2)) σ H Q := by
  obtain ⟨ρ, S, ls, hS, hL, h⟩ := h
  refine ⟨ρ, S, ls, hS, hL, (Post.bind (R := RItF) h).imp ?_⟩
  rintro J H1 ⟨ρ1, S1, t, e1, hS1, r1, h1⟩ D hD
  have l1 := hL.ext e1
  clear h hS hL
  have eD : Ext X.K ρ1 S1.length H1 (grow ρ1 S1.length D) (S1 ++ [OB.lst []]).length (upd H1 D (.lst [])) := by
    rw [List.length_append, List.length_singleton]; exact ext_new hD
  have hS2 : RSt X.K (grow ρ1 S1.length D) (upd H1 D (.lst [])) (S1 ++ [OB.lst []]) := hS1.new hD rfl ⟨[], upd_same, .nil⟩
  refine ⟨fun i m H => m = t.items.length - i ∧ i ≤ t.items.length ∧ ∃ ρ S, Ext X.K (grow ρ1 S1.length D) (S1 ++ [OB.lst []]).length (upd H1 D (.lst [])) ρ S.length H ∧ RSt X.K ρ H S ∧
    Post RW X.K ρ S.length H (fun c d H' => Wx c d σ H') (lcGo t.chk g mt me (own.map (·.2)) S1.length ls i (t.items.drop i) S) Q,
    ⟨_, rfl, Nat.zero_le _, _, _, .refl, hS2, by rw [List.drop_zero]; exact Post.ext eD h1⟩, ?_⟩
  rintro i m H2 ⟨rfl, hi, ρ2, S2, e2, hS2', h2⟩
  have eAll := eD.trans e2
  have aD : ρ2 S1.length = D := by rw [e2.2.1 S1.length (by rw [List.length_append, List.length_singleton]; exact Nat.lt_succ_self _), grow_new]
  obtain ⟨w1, w2⟩ := r1 ρ2 S2 H2 eAll hS2'
  by_cases hlt : i < t.items.length
  · rw [List.drop_eq_getElem_cons hlt] at h2
    unfold lcGo at h2
    split at h2
    · rename_i hc
      obtain ⟨go, yl⟩ := w1 i _ (List.getElem?_eq_getElem hlt) hc
      refine .inr ⟨go, fun H3 => ∃ ρ S, Ext X.K (grow ρ1 S1.length D) (S1 ++ [OB.lst []]).length (upd H1 D (.lst [])) ρ S.length H3 ∧ RSt X.K ρ H3 S ∧
        Post RW X.K ρ S.length H3 (fun c d H' => Wx c d σ H') (lcGo t.chk g mt me (own.map (·.2)) S1.length ls (i + 1) (t.items.drop (i + 1)) S) Q, fun H' q => ⟨_, by omega, rfl, hlt, q⟩, fun v H3 y => ?_⟩
      obtain ⟨ρ3, e3, hS3, r3⟩ := yl v H3 y
      split at h2
      · exact h2.elim
      · rename_i ls1 eg
        refine ⟨ρ3, S2, wipeL ls (own.map (·.2)), _, ls1, hS3, RL.wipe ((l1.ext eAll).ext e3) _, r3, eg, fun σ4 o4 l4 => ⟨o4.wipe hsl, ρ3, S2, ls1, hS3, l4, ?_⟩⟩
        have h3 := Post.ext e3 h2
        cases hm : mt ls1 S2 with
        | exc a b => rw [hm] at h3; exact h3.elim
        | bad => rw [hm] at h3; exact h3.elim
        | ok k S5 =>
          rw [hm] at h3
          intro ρ5 H5 k' e5 s5 q5
          have q5 : k = k' := q5
          subst k'
          cases k with
          | false =>
            rw [if_neg Bool.false_ne_true]
            exact ⟨ρ5, S5, (e2.trans e3).trans e5, s5, Post.ext e5 h3⟩
          | true =>
            rw [if_pos rfl]
            refine ⟨ρ5, S5, ls1, s5, l4.ext e5, ?_⟩
            dsimp only at h3
            cases hm2 : me ls1 S5 with
            | exc a b => rw [hm2] at h3; exact h3.elim
            | bad => rw [hm2] at h3; exact h3.elim
            | ok w S6 =>
              rw [hm2] at h3
              intro ρ6 H6 v6 e6 s6 r6
              dsimp only at h3
              split at h3
              · rename_i acc ea
                split at h3
                · rename_i hz
                  obtain ⟨vs, hv, tv⟩ := lst_of s6 ea
                  have aD6 : ρ6 S1.length = D := by rw [(e3.trans (e5.trans e6)).2.1 S1.length (Nat.lt_of_lt_of_le (by rw [List.length_append, List.length_singleton]; exact Nat.lt_succ_self _) e2.1), aD]
                  obtain ⟨s7, e7⟩ := set_lst s6 ea (tv.app (.cons r6 .nil))
                  rw [aD6] at hv s7 e7
                  exact ⟨vs, hv, by rw [← tv.length]; exact lim_lt hz, ρ6, _, ((e2.trans (e3.trans (e5.trans e6))).trans e7), s7, Post.ext ((e5.trans e6).trans e7) h3⟩
                · exact h3.elim
              · exact h3.elim
    · exact h2.elim
  · have ei : i = t.items.length := by omega
    subst ei
    rw [List.drop_length] at h2
    unfold lcGo at h2
    split at h2
    · rename_i hc
      refine .inl ⟨w2 hc, h2 ρ2 H2 _ .refl hS2' ?_⟩
      have q : RW X.K ρ2 S2.length H2 (.loc S1.length) (.ref (ρ2 S1.length)) := .loc _ (Nat.lt_of_lt_of_le (by rw [List.length_append, List.length_singleton]; exact Nat.lt_succ_self _) e2.1)
      rw [aD] at q
      exact q
    · exact h2.elim
theorem ie_lc {vs : List Nat} (own : List (Str × Nat)) (hvs : own.map (·.2) = vs) (hc : X.calm = true) (hN : X.N.Nodup) (hi : II X Wx tg iter mi) (ok : BlkOk X.N X.env.scope scope own) (hsl : ∀ j ∈ sl, j ∈ own.map (·.2))
    (hg : ∀ (s : Shared) (H : Hp) (C : Addr) (cl : List (Str × Addr)) (fp : List Addr), IG (X.blk s H scope (compEnvC scope cl C X.env) fp) tg g sl)
    (ht : ∀ (s : Shared) (H : Hp) (C : Addr) (cl : List (Str × Addr)) (fp : List Addr), ITs (X.blk s H scope (compEnvC scope cl C X.env) fp) ifs mt)
    (he : ∀ (s : Shared) (H : Hp) (C : Addr) (cl : List (Str × Addr)) (fp : List Addr), IE (X.blk s H scope (compEnvC scope cl C X.env) fp) (fun _ _ _ _ => False) elt me)
    (hs : ∀ x, foldedSetIterable iter X.env x = pure x := by intro _; rfl) : IE X Wx (.ListComp elt [⟨tg, iter, ifs, 0⟩] scope pos) (eLc mi g mt me vs) := by
  subst hvs
  exact PEi (pe_lc hc hN hi ok hg ht he hs) fun σ H Q h => lc_in hsl h
/-- name = [..] -/
theorem is_setLc {vs : List Nat} (own : List (Str × Nat)) (hvs : own.map (·.2) = vs) {i : Nat} {y : Str} {py spos : Pos} (hc : X.calm = true) (hN : X.N.Nodup) (hy : X.N[i]? = some y) (hyl : X.env.scope.names.lookup y = some .local) (hsw : swapsWith (.ListComp elt [⟨tg, iter, ifs, 0⟩] scope pos) (some (.Name y py)) spos.line X.env = pure true)
    (hi : II X Wx tg iter mi) (ok : BlkOk X.N X.env.scope scope own) (hsl : ∀ j ∈ sl, j ∈ own.map (·.2))
    (hg : ∀ (s : Shared) (H : Hp) (C : Addr) (cl : List (Str × Addr)) (fp : List Addr), IG (X.blk s H scope (compEnvC scope cl C X.env) fp) tg g sl)
    (ht : ∀ (s : Shared) (H : Hp) (C : Addr) (cl : List (Str × Addr)) (fp : List Addr), ITs (X.blk s H scope (compEnvC scope cl C X.env) fp) ifs mt)
    (he : ∀ (s : Shared) (H : Hp) (C : Addr) (cl : List (Str × Addr)) (fp : List Addr), IE (X.blk s H scope (compEnvC scope cl C X.env) fp) (fun _ _ _ _ => False) elt me)
    (hs : ∀ x, foldedSetIterable iter X.env x = pure x := by intro _; rfl) : IS X Wx (.Assign [.Name y py] (.ListComp elt [⟨tg, iter, ifs, 0⟩] scope pos) spos) (sSet i (eLc mi g mt me vs)) := by
  subst hvs
  exact PSi (ps_setLc hc hN hy hyl hsw hi ok hg ht he hs) fun D σ H ⟨ρ, S, ls, hS, hL, h⟩ => lc_in (Q := fun x H1 => gName i x σ H1 D.nx) hsl
    ⟨ρ, S, ls, hS, hL, (Post.then (R := RW) hL h).imp fun x H1 ⟨ρ1, S1, w1, e1, hS1, r1, h1⟩ => h1 ρ1 H1 _ .refl hS1 (RL.set r1 _ (hL.ext e1))⟩
end
end GL

set_option Elab.async false
set_option linter.all false
set_option maxRecDepth 100000
set_option maxHeartbeats 1000000
namespace GL
open PySem PySem.Spec PyProof.Rows L2

/-! ### defs -/
abbrev MF := List PV → Sto → Out PV
def fnOf (np n : Nat) (m : MS) : MF := fun ws S => if ws.length = np then (match m (ws.map some ++ List.replicate (n - np) none) S with
  | .nx _ S' => .ok .non S'
  | .rt w S' => .ok w S'
  | .exc e _ S' => .exc e S'
  | _ => .bad) else .bad
def spI (K : PySem.W.Frag) (n : Nat) (fn : MF) : Sp := fun vs H Q E => ∃ ρ S ws, RSt K ρ H S ∧ RWs K ρ S.length H ws vs ∧ ws.length = n ∧ Post RW K ρ S.length H E (fn ws S) Q
abbrev topW (E : XK) : WX := fun cls d _ H => E cls d H
abbrev FI (P : Program) (w : World) (K : PySem.W.Frag) (mg : Str → Option Value) (base : Heap) (k : Nat) (f : Addr) (fd : FuncData) (ps : List Str) (fn : MF) : Prop :=
  FnOk P w K mg base (L2.CX P w) k f fd ps (spI K ps.length fn)
theorem RL.start {K : PySem.W.Frag} {ρ : Nat → Addr} {N : Nat} {H : Hp} (n : Nat) : ∀ {ws : List PV} {vs : List V}, RWs K ρ N H ws vs → RL K ρ N H (ws.map some ++ List.replicate n none) (vs.map some ++ List.replicate n none)
  | _, _, .nil => by
    induction n with
    | zero => exact .nil
    | succ n ih => exact .no ih
  | _, _, .cons r t => .yes r (RL.start n t)
section
variable {P : Program} {w : World} {K : PySem.W.Frag} {mg : Str → Option Value} {base : Heap} {x qual : Str} {params : Arguments} {body : List Stmt} {scope : Scope} {dvs : List V} {kws : List (Str × V)} {f : Addr} {fd : FuncData}
theorem fi_of {N ps : List Str} {k : Nat} {m : MS} (F : FunD K x qual params body scope dvs kws f fd) (S : FnScope N ps scope)
    (hb : ∀ (cdv : Value) (A : Around) (outer : List Env) (s : Shared) (H : Hp) (E : XK), Room k (A.deeper (envOfC qual scope s.heap.objs.size f cdv)) →
      ISs (cxOf (L2.CX P w) P w K mg base N qual scope f cdv A outer s H E) (topW E) body m) : FI P w K mg base (k + 1) f fd ps (fnOf ps.length N.length m) := by
  refine F.ok S (fun vs H Q E h => ?_) (fun cdv A outer s H vs Q E hr h => ⟨_, hb cdv A outer s H E hr, ?_⟩)
  · obtain ⟨ρ, S, ws, _, r, e, _⟩ := h
    rw [← r.length]; exact e
  · obtain ⟨ρ, S, ws, hS, r, e, h⟩ := h
    unfold fnOf at h
    rw [if_pos e] at h
    have el : L2.start N vs = vs.map some ++ List.replicate (N.length - ps.length) none := by
      unfold L2.start
      rw [← r.length, e]
    refine ⟨ρ, S, ws.map some ++ List.replicate (N.length - ps.length) none, hS, by rw [el]; exact RL.start (N.length - ps.length) r, ?_⟩
    cases hm : m (ws.map some ++ List.replicate (N.length - ps.length) none) S with
    | nx a S' => rw [hm] at h; exact fun ρ' H' σ' e' s' _ => h ρ' H' _ e' s' .non
    | rt a S' => rw [hm] at h; exact fun ρ' H' v e' s' r' => h ρ' H' v e' s' r'
    | exc a b S' => rw [hm] at h; exact fun ρ' H' σ' c d e' s' _ q => h ρ' H' c d e' s' q
    | bk a S' => rw [hm] at h; exact h.elim
    | ct a S' => rw [hm] at h; exact h.elim
    | bad => rw [hm] at h; exact h.elim
end

/-! ### calls of defs -/
def eCall (fn : MF) (dws : List PV) (args : MA) : ME := fun ls S => (args ls S).bind fun ws S1 => fn (ws ++ dws) S1
/-- constants -/
def GVals (K : PySem.W.Frag) : List V → List PV → Prop
  | [], [] => True
  | v :: vs, w :: ws => GVal K v w ∧ GVals K vs ws
  | _, _ => False
theorem GVals.rel {K : PySem.W.Frag} {ρ : Nat → Addr} {N : Nat} {H : Hp} : ∀ {vs : List V} {ws : List PV}, GVals K vs ws → RWs K ρ N H ws vs
  | [], [], _ => .nil
  | _ :: _, _ :: _, h => .cons (h.1 _ _ _) (GVals.rel h.2)
  | [], _ :: _, h => h.elim
  | _ :: _, [], h => h.elim
section
variable {X : Cx} {Wx : WX} {k : Nat} {f C : Addr} {fd : FuncData} {ps : List Str} {fn : MF} {dvs : List V} {ds : List Value} {dws : List PV} {x m : Str} {p pos apos : Pos} {e o : Expr} {es : List Expr} {mo : ME} {ma : MA} {np N : Nat} {mb : MS}
theorem sp_in {σ : L2.St} {ρ : Nat → Addr} {S : Sto} {H : Hp} {ws : List PV} {vs : List V} {Ex : XK} {Q : VK} (hS : RSt X.K ρ H S) (r : RWs X.K ρ S.length H ws vs) (g : GVals X.K dvs dws)
    (h : Post RW X.K ρ S.length H Ex (fnOf np N mb (ws ++ dws) S) Q) : spI X.K np (fnOf np N mb) (vs ++ dvs) H Q Ex := by
  refine ⟨ρ, S, ws ++ dws, hS, r.app g.rel, ?_, h⟩
  unfold fnOf at h
  split at h
  · assumption
  · exact h.elim
theorem ie_call (tk : Takes X Wx) (F : FI X.prog X.w X.K X.mg X.base k f fd ps (fnOf np N mb)) (hnp : ps.length = np) (hr : Room k X.A) (hm : X.mg x = some (.ref f)) (hk : PySem.W.keepIn X.K (.ref f) = true) (hb : Binds X.K fd ps ds) (hd : Vals dvs ds) (g : GVals X.K dvs dws)
    (ha : IA X Wx (e :: es) ma) (hg : Gl X x := by rfl) (hdb : (x == ("__debug__" : Str)) = false := by decide) (he : starEach (e :: es) X.env = (false, eval e X.env) :: starEach es X.env := by rfl) (hpl : (backTo pos (starEach es X.env)).any (·.1) = false := by rfl) :
    IE X Wx (.Call (.Name x p) (e :: es) [] pos) (eCall (fnOf np N mb) dws ma) :=
  PEi (pe_callSD (E := WE Wx) F hr hg hm hk hb hd (passAt tk) ha hdb he hpl) fun σ H Q ⟨ρ, S, ls, hS, hL, h⟩ => ⟨ρ, S, ls, hS, hL, (Post.bind (R := RWs) h).imp fun vs H1 ⟨ρ1, S1, ws, e1, hS1, r1, h1⟩ => by
    rw [hnp]; exact sp_in (σ := σ) hS1 r1 g h1⟩
/-- f() -/
theorem pe_call0D {E : L2.St → XK} {sp : Sp} (F : FnOk X.prog X.w X.K X.mg X.base (L2.CX X.prog X.w) k f fd ps sp) (hr : Room k X.A) (hg : Gl X x) (hm : X.mg x = some (.ref f)) (hk : PySem.W.keepIn X.K (.ref f) = true) (hb : Binds X.K fd ps ds) (hd : Vals dvs ds)
    (hx : ∀ σ, PassesAt (L2.CX X.prog X.w) X σ (E σ)) (hdb : (x == ("__debug__" : Str)) = false := by decide) : PE X (.Call (.Name x p) [] [] pos) (tCallSD sp dvs E tNil) := by
  constructor
  intro pins s σ H Q I h
  apply wpAny_Call_Name_kw
  apply ld_glob I hg hm _ hdb
  apply PySem.W.callWith_K0 I.kIn hk
  exact run_fnSD (us := []) F hr hb hd (hx σ) I .nil h
theorem ie_call0 (tk : Takes X Wx) (F : FI X.prog X.w X.K X.mg X.base k f fd ps (fnOf np N mb)) (hnp : ps.length = np) (hr : Room k X.A) (hm : X.mg x = some (.ref f)) (hk : PySem.W.keepIn X.K (.ref f) = true) (hb : Binds X.K fd ps ds) (hd : Vals dvs ds) (g : GVals X.K dvs dws)
    (hg : Gl X x := by rfl) (hdb : (x == ("__debug__" : Str)) = false := by decide) : IE X Wx (.Call (.Name x p) [] [] pos) (eCall (fnOf np N mb) dws aNil) :=
  PEi (pe_call0D (E := WE Wx) F hr hg hm hk hb hd (passAt tk) hdb) fun σ H Q ⟨ρ, S, ls, hS, hL, h⟩ => by
    rw [hnp]; exact sp_in (σ := σ) (ws := []) hS .nil g h

/-! ### methods -/
def lookN (f : Nm) : List (Nm × PV) → Option PV
  | [] => none
  | (g, w) :: r => if g = f then some w else lookN f r
def putN (f : Nm) (w : PV) : List (Nm × PV) → List (Nm × PV)
  | [] => [(f, w)]
  | (g, v) :: r => if g = f then (g, w) :: r else (g, v) :: putN f w r
theorem beq_toS {a b : Nm} : (toS a == toS b) = decide (a = b) := by
  by_cases h : a = b
  · subst h; simp
  · have : ¬ toS a = toS b := fun e => h (toS_inj e)
    simp [h, this]
theorem look_some {K : PySem.W.Frag} {ρ : Nat → Addr} {N : Nat} {H : Hp} {f : Nm} {w : PV} : ∀ {fs : List (Nm × PV)} {fs' : List (Str × V)}, RFs K ρ N H fs fs' → lookN f fs = some w → ∃ v, fs'.lookup (toS f) = some v ∧ RW K ρ N H w v
  | _, _, .nil, h => by cases h
  | _, _, .cons (f := g) r t, h => by
    unfold lookN at h
    rw [List.lookup_cons, beq_toS]
    split at h
    · rename_i e
      cases h
      subst e
      exact ⟨_, by simp, r⟩
    · rename_i e
      have : ¬ f = g := fun z => e z.symm
      simp only [decide_eq_false this]
      exact look_some t h
theorem look_none {K : PySem.W.Frag} {ρ : Nat → Addr} {N : Nat} {H : Hp} {f : Nm} : ∀ {fs : List (Nm × PV)} {fs' : List (Str × V)}, RFs K ρ N H fs fs' → lookN f fs = none → fs'.lookup (toS f) = none
  | _, _, .nil, h => rfl
  | _, _, .cons (f := g) r t, h => by
    unfold lookN at h
    rw [List.lookup_cons, beq_toS]
    split at h
    · cases h
    · rename_i e
      have : ¬ f = g := fun z => e z.symm
      simp only [decide_eq_false this]
      exact look_none t h
theorem RFs.length {K : PySem.W.Frag} {ρ : Nat → Addr} {N : Nat} {H : Hp} : ∀ {fs : List (Nm × PV)} {fs' : List (Str × V)}, RFs K ρ N H fs fs' → fs.length = fs'.length
  | _, _, .nil => rfl
  | _, _, .cons _ t => by simp [RFs.length t]
def insAt (S : Sto) (w : PV) : Option (Nat × Nm × List (Nm × PV)) := match w with
  | .loc n => (match S[n]? with
    | some (.ins C fs) => some (n, C, fs)
    | _ => none)
  | _ => none
theorem insAt_get {S : Sto} {w : PV} {n : Nat} {C : Nm} {fs : List (Nm × PV)} (h : insAt S w = some (n, C, fs)) : w = .loc n ∧ S[n]? = some (.ins C fs) := by
  unfold insAt at h
  split at h
  · split at h
    · rename_i e; cases h; exact ⟨rfl, e⟩
    · cases h
  · cases h
theorem ins_of {K : PySem.W.Frag} {ρ : Nat → Addr} {H : Hp} {S : Sto} {w : PV} {v : V} {n : Nat} {D : Nm} {fs : List (Nm × PV)} (hS : RSt K ρ H S) (r : RW K ρ S.length H w v) (h : insAt S w = some (n, D, fs)) :
    v = .ref (ρ n) ∧ ∃ dx fs', H (ρ n) = some (.ins (He.ga K (toS D)) dx fs') ∧ RFs K ρ S.length H fs fs' := by
  obtain ⟨rfl, e⟩ := insAt_get h
  cases r
  exact ⟨rfl, hS.at_ _ _ e⟩
/-- o.m(..): m of the class C -/
def eMeth (C m : Nm) (fn : MF) (dws : List PV) (o : ME) (args : MA) : ME := fun ls S => (o ls S).bind fun w S1 => match insAt S1 w with
  | some (_, D, fs) => if D = C then (match lookN m fs with
    | none => (args ls S1).bind fun ws S2 => fn (w :: (ws ++ dws)) S2
    | some _ => .bad) else .bad
  | none => .bad
def tMethD (C : Addr) (m : Str) (sp : Sp) (dvs : List V) (E : L2.St → XK) (ta : TE) (t : TA) : TE := fun σ H Q => ta σ H fun x H1 => ∃ a dx fs, x = .ref a ∧ H1 a = some (.ins C dx fs) ∧ fs.lookup m = none ∧
  t σ H1 fun vs H2 => sp (x :: (vs ++ dvs)) H2 Q (E σ)
theorem pe_methD {E : L2.St → XK} {sp : Sp} {ta : TE} {t : TA} {pl : Sem Bool} (he : PE X o ta) (c : Cls X.K C) (hm : Meth X.K C m f) (F : FnOk X.prog X.w X.K X.mg X.base (L2.CX X.prog X.w) k f fd ps sp) (hr : Room k X.A) (hb : Binds X.K fd ps ds) (hd : Vals dvs ds)
    (hx : ∀ σ, PassesAt (L2.CX X.prog X.w) X σ (E σ)) (ha : PA X (e :: es) t) (hst : starEach (e :: es) X.env = (false, eval e X.env) :: starEach es X.env := by rfl) (hpl : (backTo pos (starEach es X.env)).any (·.1) = false := by rfl)
    (ht : eval (.Call (.Attribute o m apos) (e :: es) [] pos) X.env = (do
      let ov ← eval o X.env
      standAt apos.atName
      let (f, first) ← holding [ov] (getMethod ov m pl)
      callWith pos f first (backTo pos (starEach (e :: es) X.env)) (backToKw pos (keywordEach [] X.env))) := by rfl) : PE X (.Call (.Attribute o m apos) (e :: es) [] pos) (tMethD C m sp dvs E ta t) := by
  constructor
  intro pins s σ H Q I h
  apply PySem.W.methodCall_KW (pl := pl) _ ht
  apply thn (he.run pins s σ H _ I h)
  rintro u s1 ⟨x, H1, I1, rx, a, dx, fs, rfl, ea, l, q⟩
  cases rx
  apply getmeth_ok I1 ea c hm l
  apply PySem.W.callWith_K (first := [.ref a]) (h₀ := X.base) I.ok.mod.kin hm.kp _ hst hpl
  apply thn (ha.run pos pins s1 σ H1 _ I1 q)
  rintro us s2 ⟨vs, H2, I2, r, q2⟩
  exact ⟨I2.kIn, run_fnSD (us := .ref a :: us) (vs := .ref a :: vs) F hr hb hd (hx σ) I2 (.cons rfl r) q2⟩
theorem pe_methD0 {E : L2.St → XK} {sp : Sp} {ta : TE} {pl : Sem Bool} (he : PE X o ta) (c : Cls X.K C) (hm : Meth X.K C m f) (F : FnOk X.prog X.w X.K X.mg X.base (L2.CX X.prog X.w) k f fd ps sp) (hr : Room k X.A) (hb : Binds X.K fd ps ds) (hd : Vals dvs ds)
    (hx : ∀ σ, PassesAt (L2.CX X.prog X.w) X σ (E σ))
    (ht : eval (.Call (.Attribute o m apos) [] [] pos) X.env = (do
      let ov ← eval o X.env
      standAt apos.atName
      let (f, first) ← holding [ov] (getMethod ov m pl)
      callWith pos f first (backTo pos (starEach [] X.env)) (backToKw pos (keywordEach [] X.env))) := by rfl) : PE X (.Call (.Attribute o m apos) [] [] pos) (tMethD C m sp dvs E ta tNil) := by
  constructor
  intro pins s σ H Q I h
  apply PySem.W.methodCall_KW (pl := pl) _ ht
  apply thn (he.run pins s σ H _ I h)
  rintro u s1 ⟨x, H1, I1, rx, a, dx, fs, rfl, ea, l, q⟩
  cases rx
  apply getmeth_ok I1 ea c hm l
  exact PySem.W.callWith_K0 (first := [.ref a]) I1.kIn hm.kp (run_fnSD (us := [.ref a]) (vs := [.ref a]) F hr hb hd (hx σ) I1 (.cons rfl .nil) q)
variable {cn mn : Nm}
theorem meth_in {σ : L2.St} {H : Hp} {Q : VK} {ta : TA} (g : GVals X.K dvs dws) (ha : ∀ σ H Q, tA X.K Wx ma σ H Q → ta σ H Q) (hC : C = He.ga X.K (toS cn)) (hmn : m = toS mn) (h : tE X.K Wx (eMeth cn mn (fnOf np N mb) dws mo ma) σ H Q) :
    tMethD C m (spI X.K np (fnOf np N mb)) dvs (WE Wx) (tE X.K Wx mo) ta σ H Q := by
  obtain ⟨ρ, S, ls, hS, hL, h⟩ := h
  refine ⟨ρ, S, ls, hS, hL, (Post.bind (R := RW) h).imp ?_⟩
  rintro x H1 ⟨ρ1, S1, w1, e1, hS1, r1, h1⟩
  split at h1
  · rename_i n D fs ei
    split at h1
    · rename_i eD
      subst eD
      split at h1
      · rename_i el
        obtain ⟨rfl, dx, fs', hH, rf⟩ := ins_of hS1 r1 ei
        refine ⟨_, dx, fs', rfl, by rw [hC]; exact hH, by rw [hmn]; exact look_none rf el, ha _ _ _ ⟨ρ1, S1, ls, hS1, hL.ext e1, (Post.bind (R := RWs) h1).imp ?_⟩⟩
        rintro vs H2 ⟨ρ2, S2, ws, e2, hS2, r2, h2⟩
        exact sp_in (σ := σ) (ws := w1 :: ws) (vs := _ :: vs) hS2 (.cons (r1.ext e2) r2) g h2
      · exact h1.elim
    · exact h1.elim
  · exact h1.elim
theorem ie_meth {pl : Sem Bool} (tk : Takes X Wx) (he : IE X Wx o mo) (hC : C = He.ga X.K (toS cn)) (c : Cls X.K C) (hm : Meth X.K C m f) (hmn : m = toS mn) (F : FI X.prog X.w X.K X.mg X.base k f fd ps (fnOf np N mb)) (hnp : ps.length = np) (hr : Room k X.A) (hb : Binds X.K fd ps ds) (hd : Vals dvs ds) (g : GVals X.K dvs dws)
    (ha : IA X Wx (e :: es) ma) (hst : starEach (e :: es) X.env = (false, eval e X.env) :: starEach es X.env := by rfl) (hpl : (backTo pos (starEach es X.env)).any (·.1) = false := by rfl)
    (ht : eval (.Call (.Attribute o m apos) (e :: es) [] pos) X.env = (do
      let ov ← eval o X.env
      standAt apos.atName
      let (f, first) ← holding [ov] (getMethod ov m pl)
      callWith pos f first (backTo pos (starEach (e :: es) X.env)) (backToKw pos (keywordEach [] X.env))) := by rfl) : IE X Wx (.Call (.Attribute o m apos) (e :: es) [] pos) (eMeth cn mn (fnOf np N mb) dws mo ma) :=
  PEi (pe_methD (E := WE Wx) he c hm F hr hb hd (passAt tk) ha hst hpl ht) fun σ H Q h => by rw [hnp]; exact meth_in g (fun _ _ _ q => q) hC hmn h
theorem ie_meth0 {pl : Sem Bool} (tk : Takes X Wx) (he : IE X Wx o mo) (hC : C = He.ga X.K (toS cn)) (c : Cls X.K C) (hm : Meth X.K C m f) (hmn : m = toS mn) (F : FI X.prog X.w X.K X.mg X.base k f fd ps (fnOf np N mb)) (hnp : ps.length = np) (hr : Room k X.A) (hb : Binds X.K fd ps ds) (hd : Vals dvs ds) (g : GVals X.K dvs dws)
    (ht : eval (.Call (.Attribute o m apos) [] [] pos) X.env = (do
      let ov ← eval o X.env
      standAt apos.atName
      let (f, first) ← holding [ov] (getMethod ov m pl)
      callWith pos f first (backTo pos (starEach [] X.env)) (backToKw pos (keywordEach [] X.env))) := by rfl) : IE X Wx (.Call (.Attribute o m apos) [] [] pos) (eMeth cn mn (fnOf np N mb) dws mo aNil) :=
  PEi (pe_methD0 (E := WE Wx) he c hm F hr hb hd (passAt tk) ht) fun σ H Q h => by
    rw [hnp]
    exact meth_in g (fun σ H Q ⟨ρ, S, ls, hS, hL, h⟩ => h ρ H _ .refl hS .nil) hC hmn h

/-! ### new instances -/
def eMake (C : Nm) (fn : MF) (dws : List PV) (args : MA) : ME := fun ls S => (args ls S).bind fun ws S1 => (fn (.loc S1.length :: (ws ++ dws)) (S1 ++ [.ins C []])).bind fun r S2 => match r with
  | .non => .ok (.loc S1.length) S2
  | _ => .bad
def tMakeD (C : Addr) (sp : Sp) (dvs : List V) (E : L2.St → XK) (t : TA) : TE := fun σ H Q => t σ H fun vs H1 => ∀ x dx, H1 x = none → H1 dx = none → dx ≠ x →
  sp (.ref x :: (vs ++ dvs)) (upd (upd H1 dx (.own x)) x (.ins C dx [])) (fun v H2 => v = .non ∧ Q (.ref x) H2) (E σ)
theorem run_makeD {pins : List (Addr × Obj)} {σ : L2.St} {H : Hp} {s : Shared} {Q : VK} {us : List Value} {vs : List V} {sp : Sp} {E : L2.St → XK} (M : Mk X.K C f) (F : FnOk X.prog X.w X.K X.mg X.base (L2.CX X.prog X.w) k f fd ps sp) (hr : Room (k + 1) X.A) (hb : Binds X.K fd ps ds) (hd : Vals dvs ds)
    (hx : ∀ σ, PassesAt (L2.CX X.prog X.w) X σ (E σ)) (I : Inv X pins σ H s) (r : Vals vs us)
    (h : ∀ x dx, H x = none → H dx = none → dx ≠ x → sp (.ref x :: (vs ++ dvs)) (upd (upd H dx (.own x)) x (.ins C dx [])) (fun v H2 => v = .non ∧ Q (.ref x) H2) (E σ)) :
    wpAny (model X.prog X.w) X.A (call (.ref C) us) (EP X pins σ Q) X.xe s := by
  let n := s.heap.objs.size
  have q := h (n + 1) n (I.hok.fresh (Nat.le_succ n)) I.fresh (Nat.ne_of_lt (Nat.lt_succ_self n))
  have J := Inv.made (C := C) I
  have rr : Vals (V.ref (n + 1) :: (vs ++ dvs)) (Value.ref (n + 1) :: (us ++ ds)) := .cons rfl (r.append hd)
  have len := F.len _ _ _ _ q
  rw [rr.length] at len
  apply wpAny_call
  apply make_map (f := f) I.kIn M.makes M.init (beq_iff_eq.mp M.fn)
  have run := F.run _ X.stack _ _ ⟨Value.ref (n + 1) :: us, []⟩ _ _ _ (E σ) (hr.make C us []) (J.env0.make C us []) (hb _ (Value.ref (n + 1) :: us) J.kIn len) rr q
  apply codeAny_mono run
  intro res s' hq
  match res, hq with
  | .error e, hq => exact hx σ pins _ _ e s' J hq
  | .ok (.ret u), hq =>
    obtain ⟨v, H', I3, rv, rfl, q3⟩ := J.after hq
    exact ⟨rv, V.ref (n + 1), H', I3, rfl, q3⟩
theorem pe_makeD {E : L2.St → XK} {sp : Sp} {t : TA} (M : Mk X.K C f) (F : FnOk X.prog X.w X.K X.mg X.base (L2.CX X.prog X.w) k f fd ps sp) (hr : Room (k + 1) X.A) (hg : Gl X x) (hm : X.mg x = some (.ref C)) (hb : Binds X.K fd ps ds) (hd : Vals dvs ds) (hx : ∀ σ, PassesAt (L2.CX X.prog X.w) X σ (E σ))
    (ha : PA X (e :: es) t) (hdb : (x == ("__debug__" : Str)) = false := by decide) (he : starEach (e :: es) X.env = (false, eval e X.env) :: starEach es X.env := by rfl) (hpl : (backTo pos (starEach es X.env)).any (·.1) = false := by rfl) :
    PE X (.Call (.Name x p) (e :: es) [] pos) (tMakeD C sp dvs E t) := by
  constructor
  intro pins s σ H Q I h
  apply wpAny_Call_Name_kw
  apply ld_glob I hg hm _ hdb
  apply PySem.W.callWith_K (h₀ := X.base) I.ok.mod.kin M.kp _ he hpl
  apply thn (ha.run pos pins s σ H _ I h)
  rintro us s1 ⟨vs, H1, I1, r, q⟩
  exact ⟨I1.kIn, run_makeD M F hr hb hd hx I1 r q⟩
theorem pe_makeD0 {E : L2.St → XK} {sp : Sp} (M : Mk X.K C f) (F : FnOk X.prog X.w X.K X.mg X.base (L2.CX X.prog X.w) k f fd ps sp) (hr : Room (k + 1) X.A) (hg : Gl X x) (hm : X.mg x = some (.ref C)) (hb : Binds X.K fd ps ds) (hd : Vals dvs ds) (hx : ∀ σ, PassesAt (L2.CX X.prog X.w) X σ (E σ))
    (hdb : (x == ("__debug__" : Str)) = false := by decide) : PE X (.Call (.Name x p) [] [] pos) (tMakeD C sp dvs E tNil) := by
  constructor
  intro pins s σ H Q I h
  apply wpAny_Call_Name_kw
  apply ld_glob I hg hm _ hdb
  exact PySem.W.callWith_K0 I.kIn M.kp (run_makeD (us := []) M F hr hb hd hx I .nil h)
theorem make_in {σ : L2.St} {H : Hp} {Q : VK} {ta : TA} (g : GVals X.K dvs dws) (ha : ∀ σ H Q, tA X.K Wx ma σ H Q → ta σ H Q) (hC : C = He.ga X.K (toS cn)) (h : tE X.K Wx (eMake cn (fnOf np N mb) dws ma) σ H Q) :
    tMakeD C (spI X.K np (fnOf np N mb)) dvs (WE Wx) ta σ H Q := by
  obtain ⟨ρ, S, ls, hS, hL, h⟩ := h
  refine ha _ _ _ ⟨ρ, S, ls, hS, hL, (Post.bind (R := RWs) h).imp ?_⟩
  rintro vs H1 ⟨ρ1, S1, ws, e1, hS1, r1, h1⟩ x dx hx hdx hne
  have e2 : Ext X.K ρ1 S1.length H1 ρ1 S1.length (upd H1 dx (.own x)) := ext_keep hdx
  have hx2 : (upd H1 dx (.own x)) x = none := by rw [upd_ne (Ne.symm hne)]; exact hx
  have e3 : Ext X.K ρ1 S1.length (upd H1 dx (.own x)) (grow ρ1 S1.length x) (S1 ++ [OB.ins cn []]).length (upd (upd H1 dx (.own x)) x (.ins C dx [])) := by
    rw [List.length_append, List.length_singleton]; exact ext_new hx2
  have s3 : RSt X.K (grow ρ1 S1.length x) (upd (upd H1 dx (.own x)) x (.ins C dx [])) (S1 ++ [OB.ins cn []]) := (hS1.keep hdx).new (o := .ins cn []) hx2 rfl ⟨dx, [], by rw [upd_same, hC], .nil⟩
  have rx : RW X.K (grow ρ1 S1.length x) (S1 ++ [OB.ins cn []]).length (upd (upd H1 dx (.own x)) x (.ins C dx [])) (.loc S1.length) (.ref x) := by
    have q : RW X.K (grow ρ1 S1.length x) (S1 ++ [OB.ins cn []]).length (upd (upd H1 dx (.own x)) x (.ins C dx [])) (.loc S1.length) (.ref (grow ρ1 S1.length x S1.length)) := .loc _ (by rw [List.length_append, List.length_singleton]; exact Nat.lt_succ_self _)
    rw [grow_new] at q
    exact q
  refine sp_in (σ := σ) (ws := .loc S1.length :: ws) (vs := .ref x :: vs) s3 (.cons rx ((r1.ext e2).ext e3)) g ((Post.bind (R := RW) (Post.ext (e2.trans e3) h1)).imp ?_)
  rintro v H4 ⟨ρ4, S4, w4, e4, hS4, r4, h4⟩
  split at h4
  · cases r4
    exact ⟨rfl, h4 ρ4 H4 _ .refl hS4 (rx.ext e4)⟩
  · exact h4.elim
theorem ie_make (tk : Takes X Wx) (M : Mk X.K C f) (hC : C = He.ga X.K (toS cn)) (F : FI X.prog X.w X.K X.mg X.base k f fd ps (fnOf np N mb)) (hnp : ps.length = np) (hr : Room (k + 1) X.A) (hm : X.mg x = some (.ref C)) (hb : Binds X.K fd ps ds) (hd : Vals dvs ds) (g : GVals X.K dvs dws)
    (ha : IA X Wx (e :: es) ma) (hg : Gl X x := by rfl) (hdb : (x == ("__debug__" : Str)) = false := by decide) (he : starEach (e :: es) X.env = (false, eval e X.env) :: starEach es X.env := by rfl) (hpl : (backTo pos (starEach es X.env)).any (·.1) = false := by rfl) :
    IE X Wx (.Call (.Name x p) (e :: es) [] pos) (eMake cn (fnOf np N mb) dws ma) :=
  PEi (pe_makeD (E := WE Wx) M F hr hg hm hb hd (passAt tk) ha hdb he hpl) fun σ H Q h => by rw [hnp]; exact make_in g (fun _ _ _ q => q) hC h
theorem ie_make0 (tk : Takes X Wx) (M : Mk X.K C f) (hC : C = He.ga X.K (toS cn)) (F : FI X.prog X.w X.K X.mg X.base k f fd ps (fnOf np N mb)) (hnp : ps.length = np) (hr : Room (k + 1) X.A) (hm : X.mg x = some (.ref C)) (hb : Binds X.K fd ps ds) (hd : Vals dvs ds) (g : GVals X.K dvs dws)
    (hg : Gl X x := by rfl) (hdb : (x == ("__debug__" : Str)) = false := by decide) : IE X Wx (.Call (.Name x p) [] [] pos) (eMake cn (fnOf np N mb) dws aNil) :=
  PEi (pe_makeD0 (E := WE Wx) M F hr hg hm hb hd (passAt tk) hdb) fun σ H Q h => by
    rw [hnp]
    exact make_in g (fun σ H Q ⟨ρ, S, ls, hS, hL, h⟩ => h ρ H _ .refl hS .nil) hC h

/-! ### attributes -/
/-- the attributes of the classes, as data of the instances -/
def Atts (K : PySem.W.Frag) (tab : Nm → Nm → Bool) : Prop := ∀ C f, tab C f = true → Cls K (He.ga K (toS C)) ∧ NoAttr K (He.ga K (toS C)) (toS f)
def eFld (tab : Nm → Nm → Bool) (f : Nm) (o : ME) : ME := fun ls S => (o ls S).bind fun w S1 => match insAt S1 w with
  | some (_, C, fs) => if tab C f = true then (match lookN f fs with
    | some v => .ok v S1
    | none => .bad) else .bad
  | none => .bad
variable {tab : Nm → Nm → Bool} {fl : Nm} {fs : Str}
theorem ie_fld (T : Atts X.K tab) (he : IE X Wx o mo) (hf : fs = toS fl) (hb : attributeBase o fs X.env (eval o X.env) = eval o X.env := by rfl) : IE X Wx (.Attribute o fs pos) (eFld tab fl mo) :=
  PEi (pe_fld he hb) fun σ H Q ⟨ρ, S, ls, hS, hL, h⟩ => ⟨ρ, S, ls, hS, hL, (Post.bind (R := RW) h).imp fun x H1 ⟨ρ1, S1, w1, e1, hS1, r1, h1⟩ => by
    split at h1
    · rename_i n D gs ei
      split at h1
      · rename_i et
        split at h1
        · rename_i v el
          obtain ⟨rfl, dx, fs', hH, rf⟩ := ins_of hS1 r1 ei
          obtain ⟨c, na⟩ := T _ _ et
          obtain ⟨u, hu, ru⟩ := look_some rf el
          subst hf
          exact ⟨_, _, dx, fs', u, rfl, hH, c, na, hu, h1 ρ1 H1 u .refl hS1 ru⟩
        · exact h1.elim
      · exact h1.elim
    · exact h1.elim⟩
def sFldM (tab : Nm → Nm → Bool) (f : Nm) (o v : ME) : MS := fun ls S => (v ls S).then ls fun y S1 => (o ls S1).then ls fun w S2 => match insAt S2 w with
  | some (n, C, fs) => if tab C f && decide (fs.length < 1000) then .nx ls (S2.set n (.ins C (putN f y fs))) else .bad
  | none => .bad
theorem put_rel {K : PySem.W.Frag} {ρ : Nat → Addr} {N : Nat} {H : Hp} {f : Nm} {w : PV} {v : V} (q : RW K ρ N H w v) : ∀ {fs : List (Nm × PV)} {fs' : List (Str × V)}, RFs K ρ N H fs fs' → RFs K ρ N H (putN f w fs) (putF (toS f) v fs')
  | _, _, .nil => .cons q .nil
  | _, _, .cons (f := g) (v := u) (r' := r') r t => by
    unfold putN
    show RFs K ρ N H _ (if toS g = toS f then (toS g, v) :: r' else (toS g, u) :: putF (toS f) v r')
    by_cases e : g = f
    · subst e
      rw [if_pos rfl, if_pos rfl]; exact .cons q t
    · rw [if_neg e, if_neg fun z => e (toS_inj z)]; exact .cons r (put_rel q t)
theorem is_fld {val : Expr} {mv : ME} {pos' : Pos} (T : Atts X.K tab) (ho : IE X Wx o mo) (hv : IE X Wx val mv) (hf : fs = toS fl) (hs : swapsWith val (some (.Attribute o fs pos')) pos.line X.env = pure false := by rfl) :
    IS X Wx (.Assign [.Attribute o fs pos'] val pos) (sFldM tab fl mo mv) :=
  PSi (ps_fld ho hv hs) fun D σ H ⟨ρ, S, ls, hS, hL, h⟩ => ⟨ρ, S, ls, hS, hL, (Post.then (R := RW) hL h).imp fun y H1 ⟨ρ1, S1, wy, e1, hS1, r1, h1⟩ =>
    ⟨ρ1, S1, ls, hS1, hL.ext e1, (Post.then (R := RW) (hL.ext e1) h1).imp fun x H2 ⟨ρ2, S2, w2, e2, hS2, r2, h2⟩ => by
      split at h2
      · rename_i n D' gs ei
        split at h2
        · rename_i et
          rw [Bool.and_eq_true] at et
          obtain ⟨rfl, dx, fs', hH, rf⟩ := ins_of hS2 r2 ei
          obtain ⟨rfl, eg⟩ := insAt_get ei
          obtain ⟨c, na⟩ := T _ _ et.1
          subst hf
          refine ⟨_, _, dx, fs', rfl, hH, c, na, by rw [← rf.length]; exact of_decide_eq_true et.2, ?_⟩
          have ee : Ext X.K ρ2 S2.length H2 ρ2 S2.length (upd H2 (ρ2 n) (.ins (He.ga X.K (toS D')) dx (putF (toS fl) y fs'))) := ext_upd hH trivial
          refine h2 ρ2 _ σ (by rw [List.length_set]; exact ee) (hS2.set eg rfl rfl ⟨dx, _, upd_same, put_rel ((r1.ext e2).ext ee) (rf.ext ee)⟩) (by rw [List.length_set]; exact ((hL.ext e1).ext e2).ext ee)
        · exact h2.elim
      · exact h2.elim⟩⟩
end
end GL

set_option Elab.async false
set_option linter.all false
set_option maxRecDepth 100000
set_option maxHeartbeats 1000000
namespace GL
open PySem PySem.Spec PyProof.Rows L2

/-! ### subscripts -/
def gIx : PV → PV → Sto → Out PV := fun a b S => match a, b with
  | .tup xs, .int i => (match atI xs i with
    | some v => .ok v S
    | none => .bad)
  | .loc n, .int i => (match seqAt S n with
    | some xs => (match atI xs i with
      | some v => .ok v S
      | none => .bad)
    | none => .bad)
  | .str s, .int i => if s.length ≤ lim then (match atI s i with
    | some c => .ok (.str [c]) S
    | none => .bad) else .bad
  | _, _ => .bad
section
variable {K : PySem.W.Frag} {ρ : Nat → Addr} {N : Nat} {H : Hp}
theorem RWs.at {ws : List PV} {vs : List V} (t : RWs K ρ N H ws vs) {i : Int} {w : PV} (h : atI ws i = some w) : ∃ v, atI vs i = some v ∧ RW K ρ N H w v := by
  unfold atI at h ⊢
  rw [t.length] at h
  cases e : ixN vs.length i with
  | none => rw [e] at h; cases h
  | some j =>
    rw [e] at h
    exact t.get h
end
section
variable {X : Cx} {Wx : WX} {pos : Pos} {a b e o : Expr} {ma mb me mo : ME}
theorem oi_ix : OpI X Wx (rIx X.K) gIx := by
  intro ρ S H w1 w2 x y Ex Q hS r1 r2 h
  unfold gIx at h
  split at h
  · split at h
    · rename_i v ev
      cases r1 with
      | tup s t =>
        obtain ⟨u, hu, ru⟩ := t.at ev
        cases r2
        exact .inr (.inl ⟨_, _, _, u, rfl, rfl, s, hu, h.here hS ru⟩)
    · exact h.elim
  · split at h
    · split at h
      · rename_i xs exs _ v ev
        cases r1; cases r2
        obtain ⟨vs, s, t⟩ := seq_of hS exs
        obtain ⟨u, hu, ru⟩ := t.at ev
        exact .inl ⟨_, _, _, u, rfl, rfl, s, hu, h.here hS ru⟩
      · exact h.elim
    · exact h.elim
  · split at h
    · split at h
      · rename_i hz _ c ec
        cases r1; cases r2
        rw [str_len] at hz
        exact .inr (.inr ⟨_, _, c, rfl, rfl, lim_sz hz, ec, h.here hS (.str ⟨#[c]⟩)⟩)
      · exact h.elim
    · exact h.elim
  · exact h.elim
theorem ie_ix (ha : IE X Wx a ma) (hb : IE X Wx b mb) (hs : PlainIx b := by exact fun _ _ => rfl) : IE X Wx (.Subscript a b pos) (eOp gIx ma mb) :=
  PEi (pe_ix ix_seq ha hb hs) fun σ H Q h => bin_in oi_ix h
/-- o[i] = e, a list -/
def sSub (o i e : ME) : MS := fun ls S => (e ls S).then ls fun w S1 => (o ls S1).then ls fun l S2 => (i ls S2).then ls fun k S3 => match l, k with
  | .loc n, .int j => (match lstAt S3 n with
    | some xs => (match ixN xs.length j with
      | some m => .nx ls (S3.set n (.lst (xs.set m w)))
      | none => .bad)
    | none => .bad)
  | _, _ => .bad
theorem is_sub {i : Expr} {mi : ME} {pos' : Pos} (ho : IE X Wx o mo) (hi : IE X Wx i mi) (he : IE X Wx e me)
    (hq : ∀ v, assign (.Subscript o i pos') X.env v = (do
      let ov ← holding [v] (eval o X.env)
      let iv ← holding [v, ov] (eval i X.env)
      standAt pos'
      holding [v, ov, iv] (setItem ov iv v)
      release [v, ov, iv] []) := by intro _; rfl)
    (hs : swapsWithSole [.Subscript o i pos'] e pos.line X.env = pure false := by rfl) (hw : swappedStores [.Subscript o i pos'] e X.env = pure none := by rfl)
    (h1 : (assignEach [.Subscript o i pos'] X.env).map (·.2) = [assign (.Subscript o i pos') X.env] := by rfl) : IS X Wx (.Assign [.Subscript o i pos'] e pos) (sSub mo mi me) :=
  PSi (ps_asg he (pg_sub ho hi set_list hq) hs hw h1) fun D σ H ⟨ρ, S, ls, hS, hL, h⟩ => ⟨ρ, S, ls, hS, hL, (Post.then (R := RW) hL h).imp fun x H1 ⟨ρ1, S1, w1, e1, hS1, r1, h1⟩ =>
    ⟨ρ1, S1, ls, hS1, hL.ext e1, (Post.then (R := RW) (hL.ext e1) h1).imp fun y H2 ⟨ρ2, S2, w2, e2, hS2, r2, h2⟩ =>
      ⟨ρ2, S2, ls, hS2, (hL.ext e1).ext e2, (Post.then (R := RW) ((hL.ext e1).ext e2) h2).imp fun z H3 ⟨ρ3, S3, w3, e3, hS3, r3, h3⟩ => by
        have r2 := r2.ext e3
        have r1 := (r1.ext e2).ext e3
        split at h3
        · split at h3
          · split at h3
            · rename_i xs ex _ j ej
              cases r2; cases r3
              obtain ⟨vs, hv, t⟩ := lst_of hS3 ex
              obtain ⟨s4, e4⟩ := set_lst hS3 ex (t.set r1 j)
              exact ⟨_, vs, _, j, rfl, rfl, hv, by rw [← t.length]; exact ej, h3 ρ3 _ σ e4 s4 ((((hL.ext e1).ext e2).ext e3).ext e4)⟩
            · exact h3.elim
          · exact h3.elim
        · exact h3.elim⟩⟩⟩

/-! ### slices -/
abbrev MO := Ls → Sto → Out (Option Int)
abbrev ROI : RelF (Option Int) (Option Int) := fun _ _ _ _ a b => a = b
def tO (K : PySem.W.Frag) (Wx : WX) (m : MO) : TO := fun σ H Q => ∃ ρ S ls, RSt K ρ H S ∧ RL K ρ S.length H ls σ ∧ Post ROI K ρ S.length H (fun c d H' => Wx c d σ H') (m ls S) Q
abbrev IO (X : Cx) (Wx : WX) (e : Option Expr) (m : MO) : Prop := PO X e (tO X.K Wx m)
theorem POi {e : Option Expr} {t t' : TO} (h : PO X e t) (i : ∀ σ H Q, t' σ H Q → t σ H Q) : PO X e t' := ⟨fun pins s σ H Q I hw => h.run pins s σ H Q I (i _ _ _ hw)⟩
def oNo : MO := fun _ S => .ok none S
def oYes (m : ME) : MO := fun ls S => (m ls S).bind fun w S1 => match w with
  | .int i => .ok (some i) S1
  | _ => .bad
theorem io_none : IO X Wx none oNo := POi po_none fun σ H Q ⟨ρ, S, ls, hS, hL, h⟩ => h ρ H none .refl hS rfl
theorem io_some (h : IE X Wx e me) : IO X Wx (some e) (oYes me) := POi (po_some h) fun σ H Q ⟨ρ, S, ls, hS, hL, h⟩ => ⟨ρ, S, ls, hS, hL, (Post.bind (R := RW) h).imp fun x H1 ⟨ρ1, S1, w1, e1, hS1, r1, h1⟩ => by
  split at h1
  · cases r1
    exact ⟨_, rfl, h1 ρ1 H1 _ .refl hS1 rfl⟩
  · exact h1.elim⟩
def cutP {α : Type} (xs : List α) (lo hi : Option Int) : List α := (xs.drop (HT.sIx xs.length 0 lo)).take (HT.sIx xs.length xs.length hi - HT.sIx xs.length 0 lo)
def gSl : PV → Option Int → Option Int → Sto → Out PV := fun a lo hi S => match a with
  | .tup xs => .ok (.tup (cutP xs lo hi)) S
  | .loc n => (match seqAt S n with
    | some xs => .ok (.loc S.length) (S ++ [.lst (cutP xs lo hi)])
    | none => .bad)
  | .str s => if s.length ≤ lim then .ok (.str (cutP s lo hi)) S else .bad
  | _ => .bad
def eSl (o : ME) (lo hi : MO) : ME := fun ls S => (o ls S).bind fun w S1 => (lo ls S1).bind fun l S2 => (hi ls S2).bind fun h S3 => gSl w l h S3
theorem RWs.cut {K : PySem.W.Frag} {ρ : Nat → Addr} {N : Nat} {H : Hp} {ws : List PV} {vs : List V} (t : RWs K ρ N H ws vs) (lo hi : Option Int) : RWs K ρ N H (cutP ws lo hi) (cutV vs lo hi) := by
  unfold cutP cutV
  rw [t.length]
  exact (t.drop _).take _
theorem RWs.cut_whole {K : PySem.W.Frag} {ρ : Nat → Addr} {N : Nat} {H : Hp} {ws : List PV} {vs : List V} (t : RWs K ρ N H ws vs) {l u : Option Int} (whole : HT.sIx vs.length 0 l = 0 ∧ HT.sIx vs.length vs.length u = vs.length) : cutP ws l u = ws := by
  unfold cutP
  rw [t.length, whole.1, whole.2, ← t.length]
  simp
def rSlM (K : PySem.W.Frag) : V → Option Int → Option Int → Hp → VK → Prop := fun x lo hi H Q => rSlA K x lo hi H Q ∨ rSlL K x lo hi H Q ∨ rSlS x lo hi H Q
theorem sl_M : SlR X (rSlM X.K) := sl_tupA.or (sl_list.or sl_str)
theorem ie_sl {lo hi : Option Expr} {ml mh : MO} {p2 : Pos} (ho : IE X Wx o mo) (hl : IO X Wx lo ml) (hh : IO X Wx hi mh) : IE X Wx (.Subscript o (.Slice lo hi none p2) pos) (eSl mo ml mh) :=
  PEi (pe_slice sl_M ho hl hh) fun σ H Q ⟨ρ, S, ls, hS, hL, h⟩ => ⟨ρ, S, ls, hS, hL, (Post.bind (R := RW) h).imp fun x H1 ⟨ρ1, S1, w1, e1, hS1, r1, h1⟩ =>
    ⟨ρ1, S1, ls, hS1, hL.ext e1, (Post.bind (R := ROI) h1).imp fun l H2 ⟨ρ2, S2, l2, e2, hS2, q2, h2⟩ =>
      ⟨ρ2, S2, ls, hS2, (hL.ext e1).ext e2, (Post.bind (R := ROI) h2).imp fun u H3 ⟨ρ3, S3, u3, e3, hS3, q3, h3⟩ => by
        cases q2; cases q3
        have r1 := (r1.ext e2).ext e3
        unfold gSl at h3
        split at h3
        · cases r1 with
          | tup s t =>
            refine .inl ⟨_, _, rfl, s, fun whole => ?_, fun _ => mk_tup hS3 (t.cut l u) h3⟩
            rw [t.cut_whole whole] at h3
            exact h3.here hS3 (.tup s t)
        · split at h3
          · rename_i xs ex
            cases r1
            obtain ⟨vs, s, t⟩ := seq_of hS3 ex
            exact .inr (.inl ⟨_, _, rfl, s, mk_lst hS3 (t.cut l u) h3⟩)
          · exact h3.elim
        · split at h3
          · rename_i hz
            cases r1 with
            | str z =>
              rw [str_len] at hz
              refine .inr (.inr ⟨_, rfl, lim_sz hz, h3.here hS3 ?_⟩)
              have : cutP z.cps.toList l u = (cutS z l u).cps.toList := by
                unfold cutP cutS
                simp [Str.length]
              rw [this]; exact .str _
          · exact h3.elim
        · exact h3.elim⟩⟩⟩

/-! ### built-ins by values -/
def CallI (X : Cx) (r : List V → Hp → VK → Prop) (g : MF) : Prop :=
  ∀ (ρ : Nat → Addr) (S : Sto) (H : Hp) (ws : List PV) (vs : List V) (Ex : XK) (Q : VK), RSt X.K ρ H S → RWs X.K ρ S.length H ws vs → Post RW X.K ρ S.length H Ex (g ws S) Q → r vs H Q
def eB (g : MF) (args : MA) : ME := fun ls S => (args ls S).bind fun ws S1 => g ws S1
variable {x : Str} {p : Pos} {es : List Expr} {mr : MA} {id T : String} {r : List V → Hp → VK → Prop} {g : MF}
theorem callB_in {σ : L2.St} {H : Hp} {Q : VK} (hi : CallI X r g) (h : tE X.K Wx (eB g mr) σ H Q) : tCB r (tA X.K Wx mr) σ H Q := by
  obtain ⟨ρ, S, ls, hS, hL, h⟩ := h
  exact ⟨ρ, S, ls, hS, hL, (Post.bind (R := RWs) h).imp fun vs H1 ⟨ρ1, S1, ws, e1, hS1, r1, h1⟩ => hi ρ1 S1 H1 ws vs _ Q hS1 r1 h1⟩
theorem ie_B (hc : CallR X (.builtin id) r) (hi : CallI X r g) (hm : X.mg x = none) (hv : bootBuiltins x = some (.builtin id)) (ha : IA X Wx (e :: es) mr) (hg : Gl X x := by rfl) (hn : x ≠ "__name__" := by decide) (hdb : (x == ("__debug__" : Str)) = false := by decide)
    (he : starEach (e :: es) X.env = (false, eval e X.env) :: starEach es X.env := by rfl) (hpl : (backTo pos (starEach es X.env)).any (·.1) = false := by rfl) : IE X Wx (.Call (.Name x p) (e :: es) [] pos) (eB g mr) :=
  PEi (pe_callB hc hg hm hv ha hn hdb he hpl) fun σ H Q h => callB_in hi h
theorem ie_BT (hc : CallR X (.type T) r) (hi : CallI X r g) (hm : X.mg x = none) (hv : bootBuiltins x = some (.type T)) (ha : IA X Wx (e :: es) mr) (hg : Gl X x := by rfl) (hn : x ≠ "__name__" := by decide) (hdb : (x == ("__debug__" : Str)) = false := by decide)
    (he : starEach (e :: es) X.env = (false, eval e X.env) :: starEach es X.env := by rfl) (hpl : (backTo pos (starEach es X.env)).any (·.1) = false := by rfl) : IE X Wx (.Call (.Name x p) (e :: es) [] pos) (eB g mr) :=
  PEi (pe_callTy hc hg hm hv ha hn hdb he hpl) fun σ H Q h => callB_in hi h
def fInt : MF := fun ws S => match ws with
  | [.int i] => .ok (.int i) S
  | [.bl k] => .ok (.int (if k then 1 else 0)) S
  | _ => .bad
theorem ci_int : CallI X (fun xs H Q => (∃ i, xs = [.int i] ∧ Q (.int i) H) ∨ ∃ k, xs = [.bl k] ∧ Q (.int (if k then 1 else 0)) H) fInt := by
  intro ρ S H ws vs Ex Q hS r h
  unfold fInt at h
  split at h
  · cases r with | cons r t => cases t; cases r; exact .inl ⟨_, rfl, h.here hS (.int _)⟩
  · cases r with | cons r t => cases t; cases r; exact .inr ⟨_, rfl, h.here hS (.int _)⟩
  · exact h.elim
def fAbs : MF := fun ws S => match ws with
  | [.int i] => .ok (.int (if i < 0 then -i else i)) S
  | _ => .bad
theorem ci_abs : CallI X (fun xs H Q => ∃ i, xs = [.int i] ∧ Q (.int (if i < 0 then -i else i)) H) fAbs := by
  intro ρ S H ws vs Ex Q hS r h
  unfold fAbs at h
  split at h
  · cases r with | cons r t => cases t; cases r; exact ⟨_, rfl, h.here hS (.int _)⟩
  · exact h.elim
def fMax2 : MF := fun ws S => match ws with
  | [.int i, .int j] => .ok (.int (if j > i then j else i)) S
  | _ => .bad
def fMin2 : MF := fun ws S => match ws with
  | [.int i, .int j] => .ok (.int (if j < i then j else i)) S
  | _ => .bad
theorem ci_max2 : CallI X (fun xs H Q => ∃ i j, xs = [.int i, .int j] ∧ Q (.int (if j > i then j else i)) H) fMax2 := by
  intro ρ S H ws vs Ex Q hS r h
  unfold fMax2 at h
  split at h
  · cases r with | cons r t => cases t with | cons r2 t => cases t; cases r; cases r2; exact ⟨_, _, rfl, h.here hS (.int _)⟩
  · exact h.elim
theorem ci_min2 : CallI X (fun xs H Q => ∃ i j, xs = [.int i, .int j] ∧ Q (.int (if j < i then j else i)) H) fMin2 := by
  intro ρ S H ws vs Ex Q hS r h
  unfold fMin2 at h
  split at h
  · cases r with | cons r t => cases t with | cons r2 t => cases t; cases r; cases r2; exact ⟨_, _, rfl, h.here hS (.int _)⟩
  · exact h.elim
def fLen : MF := fun ws S => match ws with
  | [.tup xs] => .ok (.int xs.length) S
  | [.str s] => if s.length ≤ lim then .ok (.int s.length) S else .bad
  | [.loc n] => (match seqAt S n with
    | some xs => .ok (.int xs.length) S
    | none => .bad)
  | _ => .bad
theorem ci_len : CallI X (fun xs H Q => ∃ x n, xs = [x] ∧ LenV X.K x H n ∧ Q (.int n) H) fLen := by
  intro ρ S H ws vs Ex Q hS r h
  unfold fLen at h
  split at h
  · cases r with
    | cons r t => cases t; cases r with
      | tup s t => exact ⟨_, _, rfl, .inr ⟨_, s, rfl⟩, h.here hS (by rw [t.length]; exact .int _)⟩
  · split at h
    · rename_i hz
      cases r with
      | cons r t => cases t; cases r with
        | str z =>
          rw [str_len] at hz h
          exact ⟨_, _, rfl, ⟨lim_sz hz, rfl⟩, h.here hS (.int _)⟩
    · exact h.elim
  · split at h
    · rename_i xs ex
      obtain ⟨vs, s, t⟩ := seq_of hS ex
      cases r with
      | cons r t' => cases t'; cases r; exact ⟨_, _, rfl, .inl ⟨_, s, rfl⟩, h.here hS (by rw [t.length]; exact .int _)⟩
    · exact h.elim
  · exact h.elim
def fList : MF := fun ws S => match ws with
  | [.tup xs] => .ok (.loc S.length) (S ++ [.lst xs])
  | [.loc n] => (match seqAt S n with
    | some xs => .ok (.loc S.length) (S ++ [.lst xs])
    | none => .bad)
  | _ => .bad
theorem ci_list : CallI X (fun xs H Q => ∃ p ys, xs = [.ref p] ∧ (SqL X.K H p ys ∨ SqT X.K H p ys) ∧ ∀ l, H l = none → Q (.ref l) (upd H l (.lst ys))) fList := by
  intro ρ S H ws vs Ex Q hS r h
  unfold fList at h
  split at h
  · cases r with
    | cons r t => cases t; cases r with
      | tup s t => exact ⟨_, _, rfl, .inr s, mk_lst hS t h⟩
  · split at h
    · rename_i xs ex
      obtain ⟨vs, s, t⟩ := seq_of hS ex
      cases r with
      | cons r t' => cases t'; cases r; exact ⟨_, _, rfl, .inl s, mk_lst hS t h⟩
    · exact h.elim
  · exact h.elim
def fTuple : MF := fun ws S => match ws with
  | [.tup xs] => .ok (.tup xs) S
  | [.loc n] => (match seqAt S n with
    | some xs => .ok (.tup xs) S
    | none => .bad)
  | _ => .bad
theorem ci_tuple : CallI X (fun xs H Q => ∃ p ys, xs = [.ref p] ∧ ((SqL X.K H p ys ∧ ∀ l, H l = none → Q (.ref l) (upd H l (.tup ys))) ∨ (SqT X.K H p ys ∧ Q (.ref p) H))) fTuple := by
  intro ρ S H ws vs Ex Q hS r h
  unfold fTuple at h
  split at h
  · cases r with
    | cons r t => cases t; cases r with
      | tup s t => exact ⟨_, _, rfl, .inr ⟨s, h.here hS (.tup s t)⟩⟩
  · split at h
    · rename_i xs ex
      obtain ⟨vs, s, t⟩ := seq_of hS ex
      cases r with
      | cons r t' => cases t'; cases r; exact ⟨_, _, rfl, .inl ⟨s, mk_tup hS t h⟩⟩
    · exact h.elim
  · exact h.elim
/-! isinstance(x, T), T a built-in type -/
def tyP (S : Sto) : PV → Option BT
  | .non => some .none
  | .bl _ => some .bool
  | .int _ => some .int
  | .str _ => some .str
  | .tup _ => some .tuple
  | .loc n => (match S[n]? with
    | some (.lst _) => some .list
    | some (.rol _) => some .list
    | some (.dct _) => some .dict
    | some (.fdct _) => some .dict
    | _ => none)
  | _ => none
def isB : BT → BT → Bool
  | .bool, .int => true
  | a, b => decide (a = b)
theorem kit_is : ∀ a b : BT, b ≠ .none → kitB a.name b.name = some (isB a b) := by
  intro a b hb
  cases a <;> cases b <;> first | (exact absurd rfl hb) | (decide +kernel)
theorem tyX_of {K : PySem.W.Frag} {ρ : Nat → Addr} {H : Hp} {S : Sto} (hS : RSt K ρ H S) {w : PV} {v : V} {t : BT} (r : RW K ρ S.length H w v) (h : tyP S w = some t) : TyX K H v (.type t.name) := by
  cases r with
  | non => cases h; exact .base .non
  | bl b => cases h; exact .base (.bl b)
  | int i => cases h; exact .base (.int i)
  | str x => cases h; exact .base (.str x)
  | tup s _ =>
    cases h
    rcases s with (s | ⟨o, s⟩) | ⟨o, its, n, hk, hc, _⟩
    · exact .base (.tup s)
    · exact .fTuple s
    · exact .kTuple hk hc
  | gl x => cases h
  | ty n => cases h
  | loc n hn =>
    unfold tyP at h
    dsimp only at h
    split at h
    · rename_i e; cases h
      obtain ⟨vs, a, _⟩ := hS.at_ _ _ e
      exact .base (.lst a)
    · rename_i e; cases h
      obtain ⟨vs, a, _⟩ := hS.at_ _ _ e
      rcases a with ⟨o, a⟩ | ⟨o, its, n, hk, hc, _⟩
      · exact .base (.frz a)
      · exact .kList hk hc
    · rename_i e; cases h
      obtain ⟨vs, a, _⟩ := hS.at_ _ _ e
      exact .base (.dK a)
    · rename_i e; cases h
      obtain ⟨o, vs, a, _⟩ := hS.at_ _ _ e
      exact .fDict a
    · cases h
def fIsi : MF := fun ws S => match ws with
  | [w, .ty b] => if b = .none then .bad else (match tyP S w with
    | some t => .ok (.bl (isB t b)) S
    | none => .bad)
  | _ => .bad
theorem ci_isi : CallI X (rIsi X.K) fIsi := by
  intro ρ S H ws vs Ex Q hS r h
  unfold fIsi at h
  split at h
  · split at h
    · exact h.elim
    · rename_i hb
      split at h
      · rename_i t et
        cases r with
        | cons r1 t => cases t with
          | cons r2 t =>
            cases t; cases r2
            exact ⟨_, _, _, _, _, rfl, .ty _, tyX_of hS r1 et, kit_ty (kit_is _ _ hb), h.here hS (.bl _)⟩
      · exact h.elim
  · exact h.elim
/-- a built-in type's name as a value -/
theorem ie_ty {t : BT} (hm : X.mg x = none) (hv : bootBuiltins x = some (.type t.name)) (hg : Gl X x := by rfl) (hn : x ≠ "__name__" := by decide) (hdb : (x == ("__debug__" : Str)) = false := by decide) : IE X Wx (.Name x p) (eC (.ty t)) :=
  PEi (pe_bltn (v := .ty t.name) hg hm hv rfl hn hdb) fun σ H Q ⟨ρ, S, ls, hS, hL, h⟩ => h ρ H _ .refl hS (.ty _)

/-! ### methods of built-in types -/
def MtI (X : Cx) (r : V → List V → Hp → VK → Prop) (g : PV → MF) : Prop :=
  ∀ (ρ : Nat → Addr) (S : Sto) (H : Hp) (w : PV) (ws : List PV) (v : V) (vs : List V) (Ex : XK) (Q : VK), RSt X.K ρ H S → RW X.K ρ S.length H w v → RWs X.K ρ S.length H ws vs → Post RW X.K ρ S.length H Ex (g w ws S) Q → r v vs H Q
def eMt (chk : PV → Sto → Bool) (g : PV → MF) (o : ME) (args : MA) : ME := fun ls S => (o ls S).bind fun w S1 => if chk w S1 = true then (args ls S1).bind fun ws S2 => g w ws S2 else .bad
def kList : PV → Sto → Bool := fun w S => match w with
  | .loc n => (seqAt S n).isSome
  | _ => false
def kStr : PV → Sto → Bool := fun w _ => match w with
  | .str _ => true
  | _ => false
def ChkT (X : Cx) (T : String) (chk : PV → Sto → Bool) : Prop := ∀ (ρ : Nat → Addr) (S : Sto) (H : Hp) (w : PV) (v : V), RSt X.K ρ H S → RW X.K ρ S.length H w v → chk w S = true → tyV X.K T v H
theorem chk_list : ChkT X "list" kList := by
  intro ρ S H w v hS r h
  unfold kList at h
  split at h
  · rename_i n
    cases e : seqAt S n with
    | none => rw [e] at h; cases h
    | some xs =>
      obtain ⟨vs, s, _⟩ := seq_of hS e
      cases r
      exact .inl ⟨rfl, _, s⟩
  · cases h
theorem chk_str : ChkT X "str" kStr := by
  intro ρ S H w v hS r h
  unfold kStr at h
  split at h
  · cases r; rfl
  · cases h
variable {name : Str} {apos cpos : Pos} {rm : V → List V → Hp → VK → Prop} {gm : PV → MF} {chk : PV → Sto → Bool}
theorem ie_mt (pa : PlainAttrs T) (slot : Slot T name id) (hty : typeOf (.builtin id) = pure (.type "method_descriptor")) (hm : MtR X id rm) (hk : ChkT X T chk) (hi : MtI X rm gm) (ho : IE X Wx o mo) (ha : IA X Wx (e :: es) mr)
    (hbase : attributeBase o name X.env (eval o X.env) = eval o X.env := by rfl)
    (hfew : ((backTo cpos (starEach (e :: es) X.env)).all (fun x => !x.1) && (backToKw cpos (keywordEach [] X.env)).all (fun x => x.1.isSome)
      && decide ((e :: es).length + ([] : List Keyword).length + (if ([] : List Keyword).isEmpty then 0 else 1) < 30)) = true := by rfl)
    (hline : (apos.endLine == cpos.line) = true := by rfl) (hs : starEach (e :: es) X.env = (false, eval e X.env) :: starEach es X.env := by rfl) (hplain : (backTo cpos (starEach es X.env)).any (·.1) = false := by rfl) :
    IE X Wx (.Call (.Attribute o name apos) (e :: es) [] cpos) (eMt chk gm mo mr) :=
  PEi (pe_bm pa slot hty hm ho ha hbase hfew hline hs hplain) fun σ H Q ⟨ρ, S, ls, hS, hL, h⟩ => ⟨ρ, S, ls, hS, hL, (Post.bind (R := RW) h).imp fun x H1 ⟨ρ1, S1, w1, e1, hS1, r1, h1⟩ => by
    split at h1
    · rename_i hc
      exact ⟨hk _ _ _ _ _ hS1 r1 hc, ρ1, S1, ls, hS1, hL.ext e1, (Post.bind (R := RWs) h1).imp fun vs H2 ⟨ρ2, S2, ws, e2, hS2, r2, h2⟩ => hi ρ2 S2 H2 _ _ _ _ _ Q hS2 (r1.ext e2) r2 h2⟩
    · exact h1.elim⟩
theorem ie_mt0 (pa : PlainAttrs T) (slot : Slot T name id) (hty : typeOf (.builtin id) = pure (.type "method_descriptor")) (hm : MtR X id rm) (hk : ChkT X T chk) (hi : MtI X rm gm) (ho : IE X Wx o mo)
    (hbase : attributeBase o name X.env (eval o X.env) = eval o X.env := by rfl) (hline : (apos.endLine == cpos.line) = true := by rfl) : IE X Wx (.Call (.Attribute o name apos) [] [] cpos) (eMt chk gm mo aNil) :=
  PEi (pe_bm0 pa slot hty hm ho hbase hline) fun σ H Q ⟨ρ, S, ls, hS, hL, h⟩ => ⟨ρ, S, ls, hS, hL, (Post.bind (R := RW) h).imp fun x H1 ⟨ρ1, S1, w1, e1, hS1, r1, h1⟩ => by
    split at h1
    · rename_i hc
      exact ⟨hk _ _ _ _ _ hS1 r1 hc, hi ρ1 S1 H1 _ [] _ [] (fun c d H' => Wx c d σ H') Q hS1 r1 .nil h1⟩
    · exact h1.elim⟩
def mAppend : PV → MF := fun w ws S => match w, ws with
  | .loc n, [y] => (match lstAt S n with
    | some xs => if xs.length < lim then .ok .non (S.set n (.lst (xs ++ [y]))) else .bad
    | none => .bad)
  | _, _ => .bad
theorem mi_append : MtI X rAppend mAppend := by
  intro ρ S H w ws v vs Ex Q hS r rs h
  unfold mAppend at h
  split at h
  · split at h
    · split at h
      · rename_i xs ex hz
        cases r
        cases rs with
        | cons ry t =>
          cases t
          obtain ⟨us, hu, t⟩ := lst_of hS ex
          obtain ⟨s2, e2⟩ := set_lst hS ex (t.app (.cons ry .nil))
          exact ⟨_, us, _, rfl, rfl, hu, by rw [← t.length]; exact lim_lt hz, h ρ _ _ e2 s2 .non⟩
      · exact h.elim
    · exact h.elim
  · exact h.elim
def mExtend : PV → MF := fun w ws S => match w, ws with
  | .loc n, [.loc k] => (match lstAt S n, lstAt S k with
    | some xs, some ys => if xs.length + ys.length ≤ lim then .ok .non (S.set n (.lst (xs ++ ys))) else .bad
    | _, _ => .bad)
  | _, _ => .bad
theorem mi_extend : MtI X rExtend mExtend := by
  intro ρ S H w ws v vs Ex Q hS r rs h
  unfold mExtend at h
  split at h
  · split at h
    · split at h
      · rename_i xs ys ex ey hz
        cases r
        cases rs with
        | cons ry t =>
          cases t; cases ry
          obtain ⟨us, hu, t⟩ := lst_of hS ex
          obtain ⟨zs, hz', t'⟩ := lst_of hS ey
          obtain ⟨s2, e2⟩ := set_lst hS ex (t.app t')
          exact ⟨_, _, us, zs, rfl, rfl, hu, hz', by rw [← t.length, ← t'.length]; exact lim_sz hz, h ρ _ _ e2 s2 .non⟩
      · exact h.elim
    · exact h.elim
  · exact h.elim
def mPop : PV → MF := fun w ws S => match w, ws with
  | .loc n, [] => (match lstAt S n with
    | some xs => (match xs[xs.length - 1]? with
      | some y => .ok y (S.set n (.lst xs.dropLast))
      | none => .bad)
    | none => .bad)
  | _, _ => .bad
theorem mi_pop : MtI X rPop mPop := by
  intro ρ S H w ws v vs Ex Q hS r rs h
  unfold mPop at h
  split at h
  · split at h
    · split at h
      · rename_i xs ex _ y ey
        cases r; cases rs
        obtain ⟨us, hu, t⟩ := lst_of hS ex
        obtain ⟨z, hz, rz⟩ := t.get ey
        obtain ⟨s2, e2⟩ := set_lst hS ex t.dropLast
        exact ⟨_, us, z, rfl, rfl, hu, by rw [← t.length]; exact hz, h ρ _ _ e2 s2 (rz.ext (by rw [List.length_set] at e2; exact e2) |> fun q => by rw [List.length_set]; exact q)⟩
      · exact h.elim
    · exact h.elim
  · exact h.elim
def mClear : PV → MF := fun w ws S => match w, ws with
  | .loc n, [] => (match lstAt S n with
    | some _ => .ok .non (S.set n (.lst []))
    | none => .bad)
  | _, _ => .bad
theorem mi_clear : MtI X rClear mClear := by
  intro ρ S H w ws v vs Ex Q hS r rs h
  unfold mClear at h
  split at h
  · split at h
    · rename_i xs ex
      cases r; cases rs
      obtain ⟨us, hu, t⟩ := lst_of hS ex
      obtain ⟨s2, e2⟩ := set_lst hS ex .nil
      exact ⟨_, us, rfl, rfl, hu, h ρ _ _ e2 s2 .non⟩
    · exact h.elim
  · exact h.elim
/-- x.split(sep) -/
def mSplit : PV → MF := fun w ws S => match w, ws with
  | .str a, [.str b] => if (decide (b ≠ []) && decide (a.length < lim)) = true then .ok (.loc S.length) (S ++ [.lst ((Txt.split (toS a) (toS b)).map fun z => .str z.cps.toList)]) else .bad
  | _, _ => .bad
theorem strs_rel {K : PySem.W.Frag} {ρ : Nat → Addr} {N : Nat} {H : Hp} : ∀ l : List Str, RWs K ρ N H (l.map fun z => .str z.cps.toList) (l.map V.str)
  | [] => .nil
  | z :: r => .cons (.str z) (strs_rel r)
theorem mi_split : MtI X (fun x xs H Q => ∃ a b, x = .str a ∧ xs = [.str b] ∧ (b.length == 0) = false ∧ a.length + 2 ≤ sizeLine ∧ rNewStrs (Txt.split a b) H Q) mSplit := by
  intro ρ S H w ws v vs Ex Q hS r rs h
  unfold mSplit at h
  split at h
  · split at h
    · rename_i q
      rw [Bool.and_eq_true] at q
      cases r with
      | str a => cases rs with
        | cons ry t => cases t; cases ry with
          | str b =>
            rw [toS_cps, toS_cps] at h
            refine ⟨a, b, rfl, rfl, ?_, ?_, mk_lst hS (strs_rel _) h⟩
            · have q1 := of_decide_eq_true q.1
              rw [beq_eq_false_iff_ne]
              intro z
              apply q1
              rw [← List.length_eq_zero_iff, str_len]; exact z
            · have q2 := of_decide_eq_true q.2
              rw [str_len] at q2
              have : lim = 100000 := rfl
              have e : sizeLine = 16777216 := sizeLine_eq
              omega
    · exact h.elim
  · exact h.elim
/-! ### name op= e -/
def sAug (i : Nat) (g : PV → PV → Sto → Out PV) (e : ME) : MS := fun ls S => match ls[i]? with
  | some (some w) => (e ls S).then ls fun v S1 => (g w v S1).then ls fun z S2 => .nx (ls.set i (some z)) S2
  | _ => .bad
theorem is_aug {op : Operator} {t : TIp} {gg : PV → PV → Sto → Out PV} {i : Nat} {pos' : Pos} (hN : X.N.Nodup) (ho : PIp X op t) (hi : OpI X Wx t gg) (he : IE X Wx e me) (hx : X.N[i]? = some x := by rfl) (hl : Loc X.env.scope x := by first | exact Or.inl rfl | exact Or.inr rfl)
    (hf : X.fn x = true ∨ X.env.scope.names.lookup x = some .local := by first | exact .inl rfl | exact .inr rfl) : IS X Wx (.AugAssign (.Name x pos') op e pos) (sAug i gg me) :=
  PSi (ps_aug (i := i) hN hx hl he ho hf) fun D σ H ⟨ρ, S, ls, hS, hL, h⟩ => by
    unfold sAug at h
    split at h
    · rename_i w ew
      obtain ⟨v, ev, rv⟩ := hL.get ew
      refine ⟨v, ev, ρ, S, ls, hS, hL, (Post.then (R := RW) hL h).imp fun y H1 ⟨ρ1, S1, w1, e1, hS1, r1, h1⟩ => ?_⟩
      refine hi ρ1 S1 H1 w w1 v y (fun c d H' => Wx c d σ H') _ hS1 (rv.ext e1) r1 ((Post.then (R := RW) (hL.ext e1) h1).imp fun z H2 ⟨ρ2, S2, w2, e2, hS2, r2, h2⟩ => ?_)
      exact h2 ρ2 H2 _ .refl hS2 (RL.set r2 _ ((hL.ext e1).ext e2))
    · exact h.elim
theorem oi_ip {f : Int → Int → Int} : OpI X Wx (ipI f) (gInt f) := by
  intro ρ S H w1 w2 x y Ex Q hS r1 r2 h
  unfold gInt at h
  split at h
  · cases r1; cases r2; exact ⟨_, _, rfl, rfl, h.here hS (.int _)⟩
  · exact h.elim
/-! ### truth of any value, as a test -/
def truP (S : Sto) : PV → Option Bool
  | .non => some false
  | .bl b => some b
  | .int i => some (i != 0)
  | .str s => if s.length ≤ lim then some ((s.length : Int) != 0) else none
  | .tup xs => some (!xs.isEmpty)
  | .loc n => (match S[n]? with
    | some (.lst xs) => some (!xs.isEmpty)
    | some (.rol xs) => some (!xs.isEmpty)
    | some (.dct xs) => some (!xs.isEmpty)
    | _ => none)
  | _ => none
def tTru (m : ME) : MT := fun ls S => (m ls S).bind fun w S1 => match truP S1 w with
  | some k => .ok k S1
  | none => .bad
theorem RWs.emp {K : PySem.W.Frag} {ρ : Nat → Addr} {N : Nat} {H : Hp} {ws : List PV} {vs : List V} (t : RWs K ρ N H ws vs) : ws.isEmpty = vs.isEmpty := by cases t <;> rfl
theorem RKs.emp {K : PySem.W.Frag} {ρ : Nat → Addr} {N : Nat} {H : Hp} {ws : List (PV × PV)} {vs : List (Key × V)} (t : RKs K ρ N H ws vs) : ws.isEmpty = vs.isEmpty := by cases t <;> rfl
theorem tru_of {K : PySem.W.Frag} {ρ : Nat → Addr} {H : Hp} {S : Sto} (hS : RSt K ρ H S) {w : PV} {v : V} {k : Bool} (r : RW K ρ S.length H w v) (h : truP S w = some k) : TruV K v H k := by
  cases r with
  | non => cases h; rfl
  | bl b => cases h; rfl
  | int i => cases h; rfl
  | str x =>
    unfold truP at h
    dsimp only at h
    split at h
    · rename_i hz
      cases h
      rw [str_len] at hz ⊢
      exact ⟨lim_sz hz, rfl⟩
    · cases h
  | tup s t => cases h; exact .inr (.inl ⟨_, s, by rw [t.emp]⟩)
  | gl x => cases h
  | ty n => cases h
  | loc n hn =>
    unfold truP at h
    dsimp only at h
    split at h
    · rename_i e; cases h
      obtain ⟨vs, a, t⟩ := hS.at_ _ _ e
      exact .inl ⟨_, SqL.of a, by rw [t.emp]⟩
    · rename_i e; cases h
      obtain ⟨vs, a, t⟩ := hS.at_ _ _ e
      exact .inl ⟨_, a.sq, by rw [t.emp]⟩
    · rename_i e; cases h
      obtain ⟨vs, a, t⟩ := hS.at_ _ _ e
      exact .inr (.inr ⟨_, a, by rw [t.emp]⟩)
    · cases h
theorem it_tru (ha : IE X Wx a ma) (he : ∀ whole, isTrue a X.env whole = (do let v ← whole; standAt a.pos; holding [v] (truthy v)) := by intro _; rfl) : IT X Wx a (tTru ma) :=
  PTi (pt_truth ha he) fun σ H Q ⟨ρ, S, ls, hS, hL, h⟩ => ⟨ρ, S, ls, hS, hL, (Post.bind (R := RW) h).imp fun x H1 ⟨ρ1, S1, w1, e1, hS1, r1, h1⟩ => by
    split at h1
    · rename_i k ek
      exact ⟨k, tru_of hS1 r1 ek, h1 ρ1 H1 k .refl hS1 rfl⟩
    · exact h1.elim⟩
/-! ### chains, negation -/
variable {c : Expr} {mc : ME} {r' : R2} {gg gg' : PV → PV → Sto → Out PV} {rr : R2}
theorem ie_chain {op op' : CmpOp} (ho : OpR X (compareOp op) rr) (ho' : OpR X (compareOp op') r') (hi : OpI X Wx rr gg) (hi' : OpI X Wx r' gg') (ha : IE X Wx a ma) (hb : IE X Wx b mb) (hc : IE X Wx c mc) (hm : lastMarks [op, op'] [b, c] = false := by with_unfolding_all rfl) :
    IE X Wx (.Compare a [op, op'] [b, c] pos) (eChain gg gg' ma mb mc) := PEi (pe_chain ho ho' ha hb hc hm) fun σ H Q h => chain_in hi hi' h
theorem it_chain {op op' : CmpOp} (ho : OpR X (compareOp op) rr) (ho' : OpR X (compareOp op') r') (hi : OpI X Wx rr gg) (hi' : OpI X Wx r' gg') (ha : IE X Wx a ma) (hb : IE X Wx b mb) (hc : IE X Wx c mc) (hm : lastMarks [op, op'] [b, c] = false := by with_unfolding_all rfl) :
    IT X Wx (.Compare a [op, op'] [b, c] pos) (toT (eChain gg gg' ma mb mc)) := PTi (pt_chain ho ho' ha hb hc hm) fun σ H Q h => chain_in hi hi' (test_in h)
def eNegM (a : ME) : ME := fun ls S => (a ls S).bind fun w S1 => match w with
  | .int i => .ok (.int (-i)) S1
  | _ => .bad
theorem ie_neg (ha : IE X Wx a ma) : IE X Wx (.UnaryOp .USub a pos) (eNegM ma) :=
  PEi (pe_un un_neg ha) fun σ H Q ⟨ρ, S, ls, hS, hL, h⟩ => ⟨ρ, S, ls, hS, hL, (Post.bind (R := RW) h).imp fun x H1 ⟨ρ1, S1, w1, e1, hS1, r1, h1⟩ => by
    split at h1
    · cases r1
      exact ⟨_, rfl, h1 ρ1 H1 _ .refl hS1 (.int _)⟩
    · exact h1.elim⟩
end
end GL

set_option Elab.async false
set_option linter.all false
set_option maxRecDepth 100000
set_option maxHeartbeats 1000000
namespace GL
open PySem PySem.Spec PyProof.Rows L2

/-! ### what the top has left: constants of any depth -/
def all2 {α β : Type} (f : α → β → Bool) : List α → List β → Bool
  | [], [] => true
  | a :: r, b :: s => f a b && all2 f r s
  | _, _ => false
def gvB (K : PySem.W.Frag) : Nat → PV → Value → Bool
  | 0, _, _ => false
  | f + 1, w, u => match w, u with
    | .non, .none => true
    | .bl a, .bool b => a == b
    | .int i, .int j _ => decide (j = i)
    | .str l, .str x _ => decide (x.cps.toList = l)
    | .tup ws, .ref a => (match K.lookup a with
      | some ⟨.type c, _, .seq its _, _⟩ => decide (c = "tuple") && (decide (its.size ≤ sizeLine) && all2 (gvB K f) ws its.toList)
      | _ => false)
    | .gl x, .ref a => decide (a = He.ga K (toS x))
    | .ty b, .type n => decide (n = b.name)
    | _, _ => false
theorem gv_all {K : PySem.W.Frag} {g : PV → Value → Bool} (h : ∀ w u, g w u = true → ∃ v, RelV v u ∧ GVal K v w) : ∀ {ws : List PV} {us : List Value}, all2 g ws us = true →
    ∃ vs, Vals vs us ∧ ∀ ρ N H, RWs K ρ N H ws vs
  | [], [], _ => ⟨[], .nil, fun _ _ _ => .nil⟩
  | [], _ :: _, e => by cases e
  | _ :: _, [], e => by cases e
  | w :: ws, u :: us, e => by
    have e2 := Bool.and_eq_true_iff.mp (show (g w u && all2 g ws us) = true from e)
    obtain ⟨v, r, q⟩ := h w u e2.1
    obtain ⟨vs, r2, q2⟩ := gv_all h e2.2
    exact ⟨v :: vs, .cons r r2, fun ρ N H => .cons (q ρ N H) (q2 ρ N H)⟩
theorem gv_ok {K : PySem.W.Frag} : ∀ {f : Nat} {w : PV} {u : Value}, gvB K f w u = true → ∃ v, RelV v u ∧ GVal K v w
  | 0, _, _, h => by cases h
  | f + 1, w, u, h => by
    unfold gvB at h
    split at h
    · exact ⟨.non, rfl, fun _ _ _ => .non⟩
    · have e := eq_of_beq h
      subst e
      exact ⟨.bl _, rfl, fun _ _ _ => .bl _⟩
    · have e := of_decide_eq_true h
      subst e
      exact ⟨.int _, ⟨_, rfl⟩, fun _ _ _ => .int _⟩
    · have e := of_decide_eq_true h
      subst e
      exact ⟨.str _, ⟨_, rfl⟩, fun _ _ _ => .str _⟩
    · split at h
      · rename_i ws a _ c dd its n sl q
        have e := Bool.and_eq_true_iff.mp h
        have e2 := Bool.and_eq_true_iff.mp e.2
        obtain ⟨vs, r, g⟩ := gv_all (K := K) (g := gvB K f) (fun w u => gv_ok) e2.2
        have ec := of_decide_eq_true e.1
        exact ⟨.ref a, rfl, fun ρ N H => .tup (.inr ⟨_, its, n, q, by rw [ec], rfl, of_decide_eq_true e2.1, r⟩) (g ρ N H)⟩
      · cases h
    · have e := of_decide_eq_true h
      subst e
      exact ⟨.ref _, rfl, fun _ _ _ => .gl _⟩
    · have e := of_decide_eq_true h
      subst e
      exact ⟨.ty _, rfl, fun _ _ _ => .ty _⟩
    · cases h
/-- the module's name x is the constant w -/
def conV (K : PySem.W.Frag) (x : Str) (w : PV) : Bool := match PySem.W.nsIn K mainGlobals x with
  | some (some u) => gvB K 20 w u
  | _ => false
structure GCon (K : PySem.W.Frag) (mg : Str → Option Value) (x : Str) (w : PV) : Prop where
  ex : ∃ u v, mg x = some u ∧ RelV v u ∧ GVal K v w
theorem conV_ok {K : PySem.W.Frag} {h : Heap} {mg : Str → Option Value} {x : Str} {w : PV} (X : K.In h) (G : h.Ns mainGlobals mg) (c : conV K x w = true) : GCon K mg x w := by
  unfold conV at c
  split at c
  · rename_i u e
    obtain ⟨v, r, g⟩ := gv_ok c
    exact ⟨u, v, PySem.W.mg_of X G e, r, g⟩
  · cases c
/-- the i-th default of a def is w -/
def dflV (K : PySem.W.Frag) (f : Str × Option Str) (i : Nat) (w : PV) : Bool := gvB K 20 w (.ref (He.dflAt f i K))
theorem dflV_ok {K : PySem.W.Frag} {f : Str × Option Str} {i : Nat} {w : PV} (c : dflV K f i w = true) : GVal K (.ref (He.dflAt f i K)) w := by
  obtain ⟨v, r, g⟩ := gv_ok c
  have e : v = .ref (He.dflAt f i K) := RelV.inj r (show RelV (.ref (He.dflAt f i K)) (.ref (He.dflAt f i K)) from rfl)
  rw [← e]; exact g
theorem ie_con {X : Cx} {Wx : WX} {pos : Pos} {x : Str} {w : PV} (c : GCon X.K X.mg x w) (hg : Gl X x := by rfl) (hd : (x == ("__debug__" : Str)) = false := by decide) : IE X Wx (.Name x pos) (eC w) := by
  obtain ⟨u, v, a, b, g⟩ := c.ex
  exact ie_glob hg a b g hd

/-! ### the hook: facts of any kind beside the defs -/
def obsB (fb : PySem.W.Frag → Bool) (fn : List He.DefD) (K : PySem.W.Frag) : He.AlD := (fb K && fn.all fun d => d.ok K, fn.map fun d => He.fnW K d.at_)
def SaysB (fb : PySem.W.Frag → Bool) (fn : List He.DefD) (K : PySem.W.Frag) : Prop := obsB fb fn K = He.valD fn
def obsBG (n : Nat) (fb : PySem.W.Frag → Bool) (fn : List He.DefD) (g : Addr → Option Obj) : He.AlD := obsB fb fn (He.frG g (He.asD g n))
def hookB (n : Nat) (fb : PySem.W.Frag → Bool) (fn : List He.DefD) : PySem.W.Hook where
  α := He.AlD
  obs := fun s => obsBG n fb fn s.heap.get?
  val := fun _ => He.valD fn
  says := fun _ h => ∃ K : PySem.W.Frag, K.In h ∧ SaysB fb fn K
  of := fun _ _ e => ⟨_, He.frG_in, e⟩
  keeps := fun _ _ _ ⟨K, hK, c⟩ k => ⟨K, PySem.W.Frag.In.keeps hK k, c⟩
theorem obsBG_eq {n : Nat} {fb : PySem.W.Frag → Bool} {fn : List He.DefD} {g : Addr → Option Obj} {s : Shared} (h : ∀ a, g a = s.heap.get? a) : obsBG n fb fn g = (hookB n fb fn).obs s := by
  have e : g = s.heap.get? := funext h
  rw [e]
  rfl
section
variable {fb : PySem.W.Frag → Bool} {fn : List He.DefD} {K : PySem.W.Frag}
theorem SaysB.facts (c : SaysB fb fn K) : fb K = true := (Bool.and_eq_true_iff.mp (show (fb K && fn.all fun d => d.ok K) = true from congrArg (fun z : He.AlD => z.1) c)).1
theorem SaysB.defs (c : SaysB fb fn K) (i : Nat) {d : He.DefD} (h : fn[i]? = some d := by rfl) : ∃ fd, FunD K d.name d.qual d.params d.body d.scope (d.dvs K) (d.kws K) (He.fAd K d.at_) fd := by
  have c2 := (Bool.and_eq_true_iff.mp (show (fb K && fn.all fun d => d.ok K) = true from congrArg (fun z : He.AlD => z.1) c)).2
  have e : fn.map (fun d => He.fnW K d.at_) = fn.map He.DefD.val := congrArg (fun z : He.AlD => z.2) c
  have e2 : (fn.map fun d => He.fnW K d.at_)[i]? = (fn.map He.DefD.val)[i]? := by rw [e]
  rw [List.getElem?_map, List.getElem?_map, h] at e2
  exact He.DefD.funD (Option.some.inj e2) (List.all_eq_true.mp c2 d (List.mem_of_getElem? h))
end
/-- all of a list of facts -/
def allB (fs : List (PySem.W.Frag → Bool)) (K : PySem.W.Frag) : Bool := fs.all fun f => f K
theorem allB_at {fs : List (PySem.W.Frag → Bool)} {K : PySem.W.Frag} (h : allB fs K = true) (i : Nat) {f : PySem.W.Frag → Bool} (e : fs[i]? = some f := by rfl) : f K = true := List.all_eq_true.mp h f (List.mem_of_getElem? e)

/-! ### the law's own promise -/
theorem RWs.ints {K : PySem.W.Frag} {ρ : Nat → Addr} {N : Nat} {H : Hp} : ∀ ns : List Int, RWs K ρ N H (ns.map PV.int) (ns.map V.int)
  | [] => .nil
  | n :: r => .cons (.int n) (RWs.ints r)
/-- the law's call on the script as a locked list -/
theorem law_sp {K : PySem.W.Frag} {np N : Nat} {mb : MS} (hnp : np = 1) (h : ∀ ns : List Int, ns.length ≤ 63 → ∃ S', fnOf np N mb [.loc 0] [.rol (ns.map .int)] = .ok (.bl true) S') (H : Hp) (a : Addr) (ns : List Int) (hl : ns.length ≤ 63) (hO : Only H) (hS : SqL K H a (ns.map V.int)) :
    spI K np (fnOf np N mb) [.ref a] H (fun v _ => v = .bl true) fun _ _ _ => False := by
  subst hnp
  have ro : RoL K H a (ns.map V.int) := by
    rcases hS with (hS | hS) | hS
    · rcases hO a with z | ⟨o, xs, z⟩
      · rw [z] at hS; cases hS
      · rw [z] at hS; cases hS
    · exact .inl hS
    · exact .inr hS
  obtain ⟨S', e⟩ := h ns hl
  refine ⟨fun _ => a, [.rol (ns.map .int)], [.loc 0], ⟨fun n o hn => ?_, fun n m o o' hn hm q _ _ => ?_⟩, .cons (.loc (ρ := fun _ => a) 0 (Nat.lt_succ_self 0)) .nil, rfl, ?_⟩
  · cases n with
    | zero => cases hn; exact ⟨_, ro, RWs.ints ns⟩
    | succ n => simp at hn
  · cases n with
    | zero => cases hn; cases q
    | succ n => simp at hn
  · rw [e]
    exact fun ρ' H' v _ _ r => by cases r; rfl
/-- what an exception at the top would ask -/
theorem cx_none {P : Program} {w : World} {H : Hp} {s : Shared} {e : Value} {s' : Shared} (h : L2.CX P w [] H s (fun _ _ _ => False) e s') : False := by
  obtain ⟨_, _, _, _, _, _, _, _, _, _, _, _, z⟩ := h
  exact z
theorem lastM {X : Cx} {W : WX} (h : ∀ c d σ H, W c d σ H → False) : Takes X W := fun _ _ ⟨_, _, _, _, _, _, _, _, _, _, _, _, _, _, _, _, z⟩ => (h _ _ _ _ z).elim
/-- the end of the law, the written part found by the hook -/
theorem walk_end {l : PySem.W.OpenLaw} {n k : Nat} {q : Program} {loose : List Str} {XP : (Str → Option Value) → Heap → Prop} {YP : World → Heap → Prop} {d : DefRec} {x : Str}
    (hn : l.most = some n) (hz : n ≤ sizeLine) (hdf : d.params.defaults = []) (hr : Room k callerA)
    (F : ∀ (w : World) (mg : Str → Option Value) (fa : Addr) (h : Heap), YP w h → h.Ns mainGlobals mg → mg d.name = some (.ref fa) → ∃ (K : PySem.W.Frag) (fd : FuncData) (sp : Sp),
      K.In h ∧ (∀ (s : Shared) (u : Value), BindsTo s fd ⟨[u], []⟩ [(x, u)]) ∧
      (∀ (H : Hp) (a : Addr) (ns : List Int), ns.length ≤ n → Only H → SqL K H a (ns.map V.int) → sp [.ref a] H (fun v _ => v = .bl true) fun _ _ _ => False) ∧
      ∀ base : Heap, K.In base → base.Ns mainGlobals mg → FnOk l.prog w K mg base (L2.CX l.prog w) k fa fd [x] sp) :
    PySem.W.WalkO q loose XP YP l.row.toRowW d [] (fun f vs => PySem.call f vs) := by
  apply Att.attach_call hn hdf
  intro w s₀ s₁ mg mb fa o pm cd doc a vs ns G Y ho hd hcd hmg hobj hints hlen hg
  obtain ⟨K, fd, sp, KX, hb, hsp, hF⟩ := F w mg fa _ Y G.T.g hmg
  have go := law_call KX G.T.g G.T.b G.T.builtins G.T.nolimit hg hobj hints (Nat.le_trans hlen hz) hr hF hb
  exact go (fun H hO hS => hsp H a ns hlen hO hS) fun H e s' z => cx_none z
end GL

set_option Elab.async false
set_option linter.all false
set_option maxRecDepth 100000
set_option maxHeartbeats 1000000
namespace GL
open PySem (Str)

/-! ### simp rules: the combinators at a state -/
section
variable {α β : Type} {S S' : Sto} {ls : Ls} {a b c : ME} {t u : MT} {m m1 m2 : MS} {w v : PV}
@[simp] theorem bind_ok {x : α} {f : α → Sto → Out β} : (Out.ok x S).bind f = f x S := rfl
@[simp] theorem bind_bad {f : α → Sto → Out β} : (Out.bad : Out α).bind f = .bad := rfl
@[simp] theorem then_ok {x : α} {f : α → Sto → SOut} : (Out.ok x S).then ls f = f x S := rfl
@[simp] theorem seq_nx {f : MS} : (SOut.nx ls S).seq f = f ls S := rfl
@[simp] theorem seq_rt {f : MS} : (SOut.rt w S).seq f = .rt w S := rfl
@[simp] theorem seq_bk {f : MS} : (SOut.bk ls S).seq f = .bk ls S := rfl
@[simp] theorem seq_ct {f : MS} : (SOut.ct ls S).seq f = .ct ls S := rfl
@[simp] theorem eC_ap : eC w ls S = .ok w S := rfl
@[simp] theorem sSeq_ap : sSeq m1 m2 ls S = (m1 ls S).seq m2 := rfl
@[simp] theorem sNil_ap : sNil ls S = .nx ls S := rfl
@[simp] theorem sBk_ap : sBk ls S = .bk ls S := rfl
@[simp] theorem sCt_ap : sCt ls S = .ct ls S := rfl
@[simp] theorem sRetN_ap : sRetN ls S = .rt .non S := rfl
theorem sSet_ap {i : Nat} : sSet i a ls S = (a ls S).then ls fun w S1 => .nx (ls.set i (some w)) S1 := rfl
theorem sRet_ap : sRet a ls S = (a ls S).then ls fun w S1 => .rt w S1 := rfl
theorem sExpr_ap : sExpr a ls S = (a ls S).then ls fun _ S1 => .nx ls S1 := rfl
theorem sIf_ap : sIf t m1 m2 ls S = (t ls S).then ls fun k S1 => if k = true then m1 ls S1 else m2 ls S1 := rfl
@[simp] theorem aNil_ap : aNil ls S = .ok [] S := rfl
theorem aCons_ap {r : MA} : aCons a r ls S = (a ls S).bind fun w S1 => (r ls S1).bind fun ws S2 => .ok (w :: ws) S2 := rfl
theorem eOp_ap {g : PV → PV → Sto → Out PV} : eOp g a b ls S = (a ls S).bind fun w1 S1 => (b ls S1).bind fun w2 S2 => g w1 w2 S2 := rfl
theorem eB_ap {g : MF} {r : MA} : eB g r ls S = (r ls S).bind fun ws S1 => g ws S1 := rfl
theorem eMt_ap {chk : PV → Sto → Bool} {g : PV → MF} {r : MA} : eMt chk g a r ls S = (a ls S).bind fun w S1 => if chk w S1 = true then (r ls S1).bind fun ws S2 => g w ws S2 else .bad := rfl
theorem toT_ap : toT a ls S = (a ls S).bind asB := rfl
@[simp] theorem asB_bl {k : Bool} : asB (.bl k) S = .ok k S := rfl
theorem eCall_ap {fn : MF} {d : List PV} {r : MA} : eCall fn d r ls S = (r ls S).bind fun ws S1 => fn (ws ++ d) S1 := rfl
theorem tAndM_ap : tAndM t u ls S = (t ls S).bind fun k S1 => if k = true then u ls S1 else .ok false S1 := rfl
theorem tOrM_ap : tOrM t u ls S = (t ls S).bind fun k S1 => if k = true then .ok true S1 else u ls S1 := rfl
theorem tNotM_ap : tNotM t ls S = (t ls S).bind fun k S1 => .ok (!k) S1 := rfl
@[simp] theorem gAdd_int {i j : Int} : gAdd (.int i) (.int j) S = .ok (.int (i + j)) S := rfl
@[simp] theorem gSub_int {i j : Int} : gSub (.int i) (.int j) S = .ok (.int (i - j)) S := rfl
@[simp] theorem gLt_int {i j : Int} : gLt (.int i) (.int j) S = .ok (.bl (decide (i < j))) S := rfl
@[simp] theorem gLe_int {i j : Int} : gLe (.int i) (.int j) S = .ok (.bl (decide (i ≤ j))) S := rfl
@[simp] theorem gGt_int {i j : Int} : gGt (.int i) (.int j) S = .ok (.bl (decide (j < i))) S := rfl
@[simp] theorem gGe_int {i j : Int} : gGe (.int i) (.int j) S = .ok (.bl (decide (j ≤ i))) S := rfl
@[simp] theorem gEq_int {i j : Int} : gEq (.int i) (.int j) S = .ok (.bl (decide (i = j))) S := rfl
@[simp] theorem gNe_int {i j : Int} : gNe (.int i) (.int j) S = .ok (.bl (!decide (i = j))) S := rfl
@[simp] theorem gEq_str {i j : List Nat} : gEq (.str i) (.str j) S = .ok (.bl (decide (i = j))) S := rfl
@[simp] theorem gNe_str {i j : List Nat} : gNe (.str i) (.str j) S = .ok (.bl (!decide (i = j))) S := rfl
theorem gMod_int {i j : Int} (h : 0 < j) : gMod (.int i) (.int j) S = .ok (.int (i % j)) S := by
  simp [gMod, gIntC, cMod, h]
theorem gDiv_int {i j : Int} (h : 0 < j) (h2 : j < 1073741824) : gDiv (.int i) (.int j) S = .ok (.int (i / j)) S := by
  simp [gDiv, gIntC, cDiv, h, h2]
theorem gMul_int {i j : Int} (h : smallI i = true ∨ smallI j = true) : gMul (.int i) (.int j) S = .ok (.int (i * j)) S := by
  simp only [gMul, Bool.or_eq_true, h, if_true]
@[simp] theorem fInt_int {i : Int} : fInt [.int i] S = .ok (.int i) S := rfl
@[simp] theorem fInt_bl {k : Bool} : fInt [.bl k] S = .ok (.int (if k then 1 else 0)) S := rfl
@[simp] theorem fAbs_int {i : Int} : fAbs [.int i] S = .ok (.int (if i < 0 then -i else i)) S := rfl
theorem fLen_loc {n : Nat} {xs : List PV} (h : seqAt S n = some xs) : fLen [.loc n] S = .ok (.int xs.length) S := by simp [fLen, h]
@[simp] theorem fLen_tup {xs : List PV} : fLen [.tup xs] S = .ok (.int xs.length) S := rfl
end
theorem seqAt_lst {S : Sto} {n : Nat} {xs : List PV} (h : lstAt S n = some xs) : seqAt S n = some xs := by
  unfold seqAt; rw [lstAt_get h]
theorem lstAt_of {S : Sto} {n : Nat} {xs : List PV} (h : S[n]? = some (.lst xs)) : lstAt S n = some xs := by unfold lstAt; rw [h]
/-- a function's run -/
theorem fnOf_rt {np n : Nat} {m : MS} {ws : List PV} {S S' : Sto} {w : PV} (hl : ws.length = np) (h : m (ws.map some ++ List.replicate (n - np) none) S = .rt w S') : fnOf np n m ws S = .ok w S' := by
  unfold fnOf; rw [if_pos hl, h]
theorem fnOf_nx {np n : Nat} {m : MS} {ws : List PV} {S S' : Sto} {ls : Ls} (hl : ws.length = np) (h : m (ws.map some ++ List.replicate (n - np) none) S = .nx ls S') : fnOf np n m ws S = .ok .non S' := by
  unfold fnOf; rw [if_pos hl, h]

/-! ### loops -/
/-- a turn is over: what comes next -/
def loopK (q : SOut) (k : Ls → Sto → SOut) : SOut := match q with
  | .nx ls S => k ls S
  | .ct ls S => k ls S
  | .bk ls S => .nx ls S
  | q => q
section
variable {ls ls1 : Ls} {S S' : Sto} {k : Ls → Sto → SOut} {w : PV}
@[simp] theorem loopK_nx : loopK (.nx ls S) k = k ls S := rfl
@[simp] theorem loopK_ct : loopK (.ct ls S) k = k ls S := rfl
@[simp] theorem loopK_bk : loopK (.bk ls S) k = .nx ls S := rfl
@[simp] theorem loopK_rt : loopK (.rt w S) k = .rt w S := rfl
variable {chk : Nat → Sto → Bool} {g : MG} {body : MS} {i : Nat} {x : PV} {r : List PV}
theorem forGo_cons (hc : chk i S = true) (hg : g x ls = some ls1) : forGo chk g body i (x :: r) ls S = loopK (body ls1 S) (forGo chk g body (i + 1) r) := by
  rw [forGo, if_pos hc, hg]
  dsimp only
  cases body ls1 S <;> rfl
theorem forGo_nil (hc : chk i S = true) : forGo chk g body i [] ls S = .nx ls S := by rw [forGo, if_pos hc]
end
/-- a for by an invariant, nothing left early -/
theorem forGo_inv {chk : Nat → Sto → Bool} {g : MG} {body : MS} (I : Nat → Ls → Sto → Prop) : ∀ (xs : List PV) (i : Nat) (ls : Ls) (S : Sto),
    (∀ j x ls S, xs[j]? = some x → I (i + j) ls S → chk (i + j) S = true ∧ ∃ ls1, g x ls = some ls1 ∧ ∃ ls2 S2, (body ls1 S = .nx ls2 S2 ∨ body ls1 S = .ct ls2 S2) ∧ I (i + j + 1) ls2 S2) →
    (∀ ls S, I (i + xs.length) ls S → chk (i + xs.length) S = true) → I i ls S → ∃ ls' S', forGo chk g body i xs ls S = .nx ls' S' ∧ I (i + xs.length) ls' S'
  | [], i, ls, S, _, h2, h => ⟨ls, S, forGo_nil (h2 ls S h), h⟩
  | x :: r, i, ls, S, h1, h2, h => by
    obtain ⟨hc, ls1, e1, ls2, S2, e2, h3⟩ := h1 0 x ls S (by simp) h
    obtain ⟨ls', S', e, h4⟩ := forGo_inv I r (i + 1) ls2 S2 (fun j y ls S hj hI => by
      have := h1 (j + 1) y ls S (by simpa using hj) (by rw [show i + (j + 1) = i + 1 + j by omega]; exact hI)
      rw [show i + (j + 1) = i + 1 + j by omega] at this
      exact this) (fun ls S hI => by
      have := h2 ls S (by rw [List.length_cons, show i + (r.length + 1) = i + 1 + r.length by omega]; exact hI)
      rw [List.length_cons, show i + (r.length + 1) = i + 1 + r.length by omega] at this
      exact this) h3
    refine ⟨ls', S', ?_, by rw [List.length_cons, show i + (r.length + 1) = i + 1 + r.length by omega]; exact h4⟩
    rw [forGo_cons (i := i) hc e1]
    rcases e2 with e2 | e2 <;> (rw [e2]; exact e)
theorem sFor_nx {it : MI} {g : MG} {body : MS} {ls ls' : Ls} {S S1 S' : Sto} {t : Wk} (hi : it ls S = .ok t S1) (h : forGo t.chk g body 0 t.items ls S1 = .nx ls' S') : sFor it g body ls S = .nx ls' S' := by
  unfold sFor; rw [hi]; exact h
theorem set_len {S : Sto} {n : Nat} {o : OB} : (S.set n o).length = S.length := List.length_set
/-! ### the digits of a script -/
def m_row : MS := (sSeq (sSet 2 (eLst aNil))
  (sSeq (sFor (iSeq (eVar 0)) (gN 3)
  (sSeq (sSet 4 (eB fAbs (aCons (eB fInt (aCons (eVar 3) aNil)) aNil)))
  (sFor (iR1 (eC (.int 60))) (gN 5)
  (sSeq (sIf (toT (eOp gLt (eB fLen (aCons (eVar 2) aNil)) (eVar 1)))
  (sExpr (eMt kList mAppend (eVar 2) (aCons (eOp gMod (eVar 4) (eC (.int 16))) aNil)))
  sNil)
  (sSeq (sSet 4 (eOp gDiv (eVar 4) (eC (.int 16))))
  (sIf (toT (eOp gEq (eVar 4) (eC (.int 0))))
  sBk
  sNil))))))
  (sRet (eVar 2))))
/-- digits: at most most of them, each from 0 to 15 -/
def Digs (most : Nat) (ds : List Int) : Prop := ds.length ≤ most ∧ ∀ d ∈ ds, 0 ≤ d ∧ d < 16
def intsL (ds : List Int) : List PV := ds.map .int
@[simp] theorem intsL_len {ds : List Int} : (intsL ds).length = ds.length := by simp [intsL]
theorem row_inner (most : Nat) (hm : most ≤ 1000) (a0 a3 : Option PV) (n : Nat) : ∀ (xs : List PV) (i : Nat) (rest : Int) (a5 : Option PV) (S : Sto) (ds : List Int), 0 ≤ rest → Digs most ds → lstAt S n = some (intsL ds) →
    ∃ rest' a5' ds', forGo always (gN 5) (sSeq (sIf (toT (eOp gLt (eB fLen (aCons (eVar 2) aNil)) (eVar 1)))
      (sExpr (eMt kList mAppend (eVar 2) (aCons (eOp gMod (eVar 4) (eC (.int 16))) aNil)))
      sNil)
      (sSeq (sSet 4 (eOp gDiv (eVar 4) (eC (.int 16))))
      (sIf (toT (eOp gEq (eVar 4) (eC (.int 0))))
      sBk
      sNil))) i xs [a0, some (.int most), some (.loc n), a3, some (.int rest), a5] S = .nx [a0, some (.int most), some (.loc n), a3, some (.int rest'), a5'] (S.set n (.lst (intsL ds'))) ∧ Digs most ds'
  | [], i, rest, a5, S, ds, h0, hd, hl => by
    refine ⟨rest, a5, ds, ?_, hd⟩
    have : S.set n (.lst (intsL ds)) = S := by
      have e := lstAt_get hl
      obtain ⟨h1, h2⟩ := List.getElem?_eq_some_iff.mp e
      rw [← h2]; exact List.set_getElem_self h1
    rw [this]; rfl
  | x :: r, i, rest, a5, S, ds, h0, hd, hl => by
    have hs := seqAt_lst hl
    have len := lt_of_get (lstAt_get hl)
    rw [forGo_cons (ls1 := [a0, some (.int most), some (.loc n), a3, some (.int rest), some x]) rfl rfl]
    have h16 : (0 : Int) ≤ rest % 16 ∧ rest % 16 < 16 := by omega
    have hdiv : 0 ≤ rest / 16 := by omega
    by_cases hlt : (ds.length : Int) < most
    · have e1 : (sIf (toT (eOp gLt (eB fLen (aCons (eVar 2) aNil)) (eVar 1)))
          (sExpr (eMt kList mAppend (eVar 2) (aCons (eOp gMod (eVar 4) (eC (.int 16))) aNil)))
          sNil) [a0, some (.int most), some (.loc n), a3, some (.int rest), some x] S = .nx [a0, some (.int most), some (.loc n), a3, some (.int rest), some x] (S.set n (.lst (intsL (ds ++ [rest % 16])))) := by
        have hz : ds.length < lim := by have : lim = 100000 := rfl; omega
        simp [sIf_ap, toT_ap, eOp_ap, eB_ap, aCons_ap, eVar, fLen_loc hs, hlt, sExpr_ap, eMt_ap, kList, hs, gMod_int, mAppend, hl, hz, intsL]
      have hl2 : lstAt (S.set n (.lst (intsL (ds ++ [rest % 16])))) n = some (intsL (ds ++ [rest % 16])) := lstAt_of (by rw [List.getElem?_set_self len])
      have hd2 : Digs most (ds ++ [rest % 16]) := ⟨by rw [List.length_append, List.length_singleton]; omega, fun d hd' => by
        rcases List.mem_append.mp hd' with h | h
        · exact hd.2 d h
        · rw [List.mem_singleton.mp h]; exact h16⟩
      rw [sSeq_ap, e1]
      by_cases hz : rest / 16 = 0
      · refine ⟨rest / 16, some x, ds ++ [rest % 16], ?_, hd2⟩
        simp [sSet_ap, eOp_ap, eVar, gDiv_int, sIf_ap, toT_ap, hz]
      · obtain ⟨rest', a5', ds', e, hd'⟩ := row_inner most hm a0 a3 n r (i + 1) (rest / 16) (some x) _ _ hdiv hd2 hl2
        refine ⟨rest', a5', ds', ?_, hd'⟩
        rw [List.set_set] at e
        rw [← e]
        simp [sSet_ap, eOp_ap, eVar, gDiv_int, sIf_ap, toT_ap, hz]
    · have e1 : (sIf (toT (eOp gLt (eB fLen (aCons (eVar 2) aNil)) (eVar 1)))
          (sExpr (eMt kList mAppend (eVar 2) (aCons (eOp gMod (eVar 4) (eC (.int 16))) aNil)))
          sNil) [a0, some (.int most), some (.loc n), a3, some (.int rest), some x] S = .nx [a0, some (.int most), some (.loc n), a3, some (.int rest), some x] S := by
        simp [sIf_ap, toT_ap, eOp_ap, eB_ap, aCons_ap, eVar, fLen_loc hs, hlt]
      rw [sSeq_ap, e1]
      by_cases hz : rest / 16 = 0
      · refine ⟨rest / 16, some x, ds, ?_, hd⟩
        have : S.set n (.lst (intsL ds)) = S := by
          obtain ⟨h1, h2⟩ := List.getElem?_eq_some_iff.mp (lstAt_get hl)
          rw [← h2]; exact List.set_getElem_self h1
        rw [this]
        simp [sSet_ap, eOp_ap, eVar, gDiv_int, sIf_ap, toT_ap, hz]
      · obtain ⟨rest', a5', ds', e, hd'⟩ := row_inner most hm a0 a3 n r (i + 1) (rest / 16) (some x) _ _ hdiv hd hl
        refine ⟨rest', a5', ds', ?_, hd'⟩
        rw [← e]
        simp [sSet_ap, eOp_ap, eVar, gDiv_int, sIf_ap, toT_ap, hz]
theorem rng60 : rngL 0 60 = (List.range 60).map fun (i : Nat) => .int (i : Int) := by
  unfold rngL
  simp
theorem row_outer (most : Nat) (hm : most ≤ 1000) (a0 : Option PV) (n : Nat) : ∀ (ns : List Int) (i : Nat) (a3 a4 a5 : Option PV) (S : Sto) (ds : List Int), Digs most ds → lstAt S n = some (intsL ds) →
    ∃ a3' a4' a5' ds', forGo always (gN 3) (sSeq (sSet 4 (eB fAbs (aCons (eB fInt (aCons (eVar 3) aNil)) aNil)))
      (sFor (iR1 (eC (.int 60))) (gN 5)
      (sSeq (sIf (toT (eOp gLt (eB fLen (aCons (eVar 2) aNil)) (eVar 1)))
      (sExpr (eMt kList mAppend (eVar 2) (aCons (eOp gMod (eVar 4) (eC (.int 16))) aNil)))
      sNil)
      (sSeq (sSet 4 (eOp gDiv (eVar 4) (eC (.int 16))))
      (sIf (toT (eOp gEq (eVar 4) (eC (.int 0))))
      sBk
      sNil))))) i (ns.map .int) [a0, some (.int most), some (.loc n), a3, a4, a5] S = .nx [a0, some (.int most), some (.loc n), a3', a4', a5'] (S.set n (.lst (intsL ds'))) ∧ Digs most ds'
  | [], i, a3, a4, a5, S, ds, hd, hl => by
    refine ⟨a3, a4, a5, ds, ?_, hd⟩
    have : S.set n (.lst (intsL ds)) = S := by
      obtain ⟨h1, h2⟩ := List.getElem?_eq_some_iff.mp (lstAt_get hl)
      rw [← h2]; exact List.set_getElem_self h1
    rw [this]; rfl
  | x :: r, i, a3, a4, a5, S, ds, hd, hl => by
    have len := lt_of_get (lstAt_get hl)
    rw [List.map_cons, forGo_cons (ls1 := [a0, some (.int most), some (.loc n), some (.int x), a4, a5]) rfl rfl]
    have h0 : (0 : Int) ≤ (if x < 0 then -x else x) := by split <;> omega
    obtain ⟨rest', a5', ds1, e, hd1⟩ := row_inner most hm a0 (some (.int x)) n (rngL 0 60) 0 _ a5 S ds h0 hd hl
    have hl1 : lstAt (S.set n (.lst (intsL ds1))) n = some (intsL ds1) := lstAt_of (by rw [List.getElem?_set_self len])
    obtain ⟨b3, b4, b5, ds2, e2, hd2⟩ := row_outer most hm a0 n r (i + 1) (some (.int x)) (some (.int rest')) a5' _ ds1 hd1 hl1
    refine ⟨b3, b4, b5, ds2, ?_, hd2⟩
    rw [List.set_set] at e2
    rw [← e2]
    have e1 : sSet 4 (eB fAbs (aCons (eB fInt (aCons (eVar 3) aNil)) aNil)) [a0, some (.int most), some (.loc n), some (.int x), a4, a5] S = .nx [a0, some (.int most), some (.loc n), some (.int x), some (.int (if x < 0 then -x else x)), a5] S := by
      simp [sSet_ap, eB_ap, aCons_ap, eVar]
    rw [sSeq_ap, e1, seq_nx, sFor_nx (t := ⟨rngL 0 60, always⟩) rfl e, loopK_nx]
theorem row_ok {n : Nat} {ns : List Int} {most : Nat} {S : Sto} (hS : S[n]? = some (.rol (ns.map .int))) (hm : most ≤ 1000) : ∃ ds, fnOf 2 6 m_row [.loc n, .int most] S = .ok (.loc S.length) (S ++ [.lst (intsL ds)]) ∧ Digs most ds := by
  have hl : lstAt (S ++ [.lst (intsL [])]) S.length = some (intsL []) := lstAt_of (by rw [List.getElem?_append_right (Nat.le_refl _)]; simp)
  obtain ⟨a3, a4, a5, ds, e, hd⟩ := row_outer most hm (some (.loc n)) S.length ns 0 none none none _ [] ⟨Nat.zero_le _, fun _ h => by cases h⟩ hl
  refine ⟨ds, fnOf_rt rfl ?_, hd⟩
  have e1 : sSet 2 (eLst aNil) [some (.loc n), some (.int most), none, none, none, none] S = .nx [some (.loc n), some (.int most), some (.loc S.length), none, none, none] (S ++ [.lst (intsL [])]) := rfl
  have ei : iSeq (eVar 0) [some (.loc n), some (.int most), some (.loc S.length), none, none, none] (S ++ [.lst (intsL [])]) = .ok ⟨ns.map .int, always⟩ (S ++ [.lst (intsL [])]) := by
    have : (S ++ [OB.lst (intsL [])])[n]? = some (.rol (ns.map .int)) := by rw [List.getElem?_append_left (lt_of_get hS)]; exact hS
    simp [iSeq, eVar, this]
  have eS : (S ++ [OB.lst (intsL [])]).set S.length (.lst (intsL ds)) = S ++ [.lst (intsL ds)] := by
    rw [List.set_append_right _ _ (Nat.le_refl _)]; simp
  rw [eS] at e
  show m_row [some (.loc n), some (.int most), none, none, none, none] S = _
  unfold m_row
  rw [sSeq_ap, e1, seq_nx, sSeq_ap, sFor_nx ei e, seq_nx]
  rfl
/-! ### a number of two digits -/
def m_pick : MS := (sSeq (sSet 3 (eC (.int 0)))
  (sSeq (sIf (toT (eOp gLt (eVar 1) (eB fLen (aCons (eVar 0) aNil))))
  (sSet 3 (eOp gIx (eVar 0) (eVar 1)))
  sNil)
  (sSeq (sIf (toT (eOp gLt (eOp gAdd (eVar 1) (eC (.int 1))) (eB fLen (aCons (eVar 0) aNil))))
  (sSet 3 (eOp gAdd (eVar 3) (eOp gMul (eC (.int 16)) (eOp gIx (eVar 0) (eOp gAdd (eVar 1) (eC (.int 1)))))))
  sNil)
  (sRet (eOp gMod (eB fInt (aCons (eVar 3) aNil)) (eVar 2))))))
def pickV (ds : List Int) (i : Nat) (l : Int) : Int := (ds.getD i 0 + 16 * ds.getD (i + 1) 0) % l
theorem pickV_range {ds : List Int} {i : Nat} {l : Int} (h : 0 < l) : 0 ≤ pickV ds i l ∧ pickV ds i l < l := ⟨Int.emod_nonneg _ (by omega), Int.emod_lt_of_pos _ h⟩
theorem gIx_loc {S : Sto} {n i : Nat} {xs : List PV} {v : PV} (h : seqAt S n = some xs) (hi : xs[i]? = some v) : gIx (.loc n) (.int (i : Int)) S = .ok v S := by
  unfold gIx
  simp only [h, L2.atI_nat hi]
theorem gIx_tup {S : Sto} {i : Nat} {xs : List PV} {v : PV} (hi : xs[i]? = some v) : gIx (.tup xs) (.int (i : Int)) S = .ok v S := by
  unfold gIx
  simp only [L2.atI_nat hi]
theorem intsL_get {ds : List Int} {i : Nat} (h : i < ds.length) : (intsL ds)[i]? = some (.int (ds.getD i 0)) := by
  simp [intsL, List.getD, h]
theorem pick_ok {n i : Nat} {ds : List Int} {l : Int} {S : Sto} (hs : seqAt S n = some (intsL ds)) (hl : 0 < l) : fnOf 3 4 m_pick [.loc n, .int (i : Int), .int l] S = .ok (.int (pickV ds i l)) S := by
  refine fnOf_rt rfl ?_
  show m_pick [some (.loc n), some (.int i), some (.int l), none] S = _
  have hlen := fLen_loc hs
  rw [intsL_len] at hlen
  have step1 : (sSeq (sSet 3 (eC (.int 0))) (sIf (toT (eOp gLt (eVar 1) (eB fLen (aCons (eVar 0) aNil)))) (sSet 3 (eOp gIx (eVar 0) (eVar 1))) sNil)) [some (.loc n), some (.int i), some (.int l), none] S
      = .nx [some (.loc n), some (.int i), some (.int l), some (.int (ds.getD i 0))] S := by
    by_cases h : i < ds.length
    · have h' : (i : Int) < (ds.length : Int) := by omega
      simp [sSet_ap, sIf_ap, toT_ap, eOp_ap, eB_ap, aCons_ap, eVar, hlen, h', gIx_loc hs (intsL_get h)]
    · have h' : ¬ (i : Int) < (ds.length : Int) := by omega
      simp [sSet_ap, sIf_ap, toT_ap, eOp_ap, eB_ap, aCons_ap, eVar, hlen, h', List.getD, List.getElem?_eq_none (Nat.le_of_not_lt h)]
  have step2 : (sSeq (sIf (toT (eOp gLt (eOp gAdd (eVar 1) (eC (.int 1))) (eB fLen (aCons (eVar 0) aNil)))) (sSet 3 (eOp gAdd (eVar 3) (eOp gMul (eC (.int 16)) (eOp gIx (eVar 0) (eOp gAdd (eVar 1) (eC (.int 1)))))))  sNil)
      (sRet (eOp gMod (eB fInt (aCons (eVar 3) aNil)) (eVar 2)))) [some (.loc n), some (.int i), some (.int l), some (.int (ds.getD i 0))] S = .rt (.int (pickV ds i l)) S := by
    have e16 : ∀ j : Int, gMul (.int 16) (.int j) S = .ok (.int (16 * j)) S := fun j => gMul_int (.inl (by decide))
    by_cases h : i + 1 < ds.length
    · have h' : (i : Int) + 1 < (ds.length : Int) := by omega
      have hx := gIx_loc hs (intsL_get h)
      rw [show ((i + 1 : Nat) : Int) = (i : Int) + 1 by omega] at hx
      simp [sSet_ap, sIf_ap, toT_ap, eOp_ap, eB_ap, aCons_ap, eVar, hlen, h', hx, e16, sRet_ap, gMod_int hl, pickV]
    · have h' : ¬ (i : Int) + 1 < (ds.length : Int) := by omega
      have h0 : ds.getD (i + 1) 0 = 0 := by simp [List.getD, List.getElem?_eq_none (Nat.le_of_not_lt h)]
      simp [sSet_ap, sIf_ap, toT_ap, eOp_ap, eB_ap, aCons_ap, eVar, hlen, h', sRet_ap, gMod_int hl, pickV, List.getElem?_eq_none (Nat.le_of_not_lt h)]
  unfold m_pick
  rw [sSeq_ap] at step1 step2 ⊢
  rw [show (sSet 3 (eC (.int 0)) [some (.loc n), some (.int i), some (.int l), none] S) = .nx [some (.loc n), some (.int i), some (.int l), some (.int 0)] S from rfl, seq_nx] at step1 ⊢
  rw [sSeq_ap, step1, seq_nx, sSeq_ap]
  exact step2
end GL

set_option Elab.async false
set_option linter.all false
set_option maxRecDepth 100000
set_option maxHeartbeats 1000000
namespace GL
open PySem (Str)

/-! ### comprehensions whose elements lay nothing -/
theorem get_app {S : Sto} {o : OB} : (S ++ [o])[S.length]? = some o := by rw [List.getElem?_append_right (Nat.le_refl _)]; simp
theorem set_app {S : Sto} {o o' : OB} : (S ++ [o]).set S.length o' = S ++ [o'] := by rw [List.set_append_right _ _ (Nat.le_refl _)]; simp
theorem lcGo_pure {chk : Nat → Sto → Bool} {g : MG} {tt : MT} {te : ME} {vs : List Nat} {ls : Ls} {S1 : Sto} {p : PV → Bool} {f : PV → PV} : ∀ (xs : List PV) (i : Nat) (acc : List PV),
    (∀ x ∈ xs, ∀ acc, ∃ ls1, g x (wipeL ls vs) = some ls1 ∧ tt ls1 (S1 ++ [.lst acc]) = .ok (p x) (S1 ++ [.lst acc]) ∧ (p x = true → te ls1 (S1 ++ [.lst acc]) = .ok (f x) (S1 ++ [.lst acc]))) →
    (∀ i acc, chk i (S1 ++ [.lst acc]) = true) → acc.length + xs.length < lim →
    lcGo chk g tt te vs S1.length ls i xs (S1 ++ [.lst acc]) = .ok (.loc S1.length) (S1 ++ [.lst (acc ++ (xs.filter p).map f)])
  | [], i, acc, _, hc, _ => by
    rw [lcGo, if_pos (hc i acc)]
    simp
  | x :: r, i, acc, h, hc, hz => by
    obtain ⟨ls1, e1, e2, e3⟩ := h x List.mem_cons_self acc
    rw [lcGo, if_pos (hc i acc), e1]
    dsimp only
    rw [e2]
    have hr := fun y hy => h y (List.mem_cons_of_mem _ hy)
    rw [List.length_cons] at hz
    cases hp : p x with
    | false =>
      dsimp only
      rw [lcGo_pure r (i + 1) acc hr hc (by omega), List.filter_cons, hp]
      simp
    | true =>
      dsimp only
      rw [e3 hp]
      dsimp only
      rw [lstAt_of get_app]
      dsimp only
      rw [if_pos (by omega), set_app, lcGo_pure r (i + 1) _ hr hc (by rw [List.length_append, List.length_singleton]; omega), List.filter_cons, hp]
      simp
theorem eLc_pure {it : MI} {g : MG} {tt : MT} {te : ME} {vs : List Nat} {ls : Ls} {S S1 : Sto} {t : Wk} (p : PV → Bool) (f : PV → PV) (hi : it ls S = .ok t S1)
    (h : ∀ x ∈ t.items, ∀ acc, ∃ ls1, g x (wipeL ls vs) = some ls1 ∧ tt ls1 (S1 ++ [.lst acc]) = .ok (p x) (S1 ++ [.lst acc]) ∧ (p x = true → te ls1 (S1 ++ [.lst acc]) = .ok (f x) (S1 ++ [.lst acc])))
    (hc : ∀ i acc, t.chk i (S1 ++ [.lst acc]) = true) (hz : t.items.length < lim) : eLc it g tt te vs ls S = .ok (.loc S1.length) (S1 ++ [.lst ((t.items.filter p).map f)]) := by
  unfold eLc
  rw [hi, bind_ok, lcGo_pure t.items 0 [] h hc (by simpa using hz)]
  simp
/-- an older place -/
theorem get_old {S X : Sto} {n : Nat} {o : OB} (h : S[n]? = some o) : (S ++ X)[n]? = some o := by rw [List.getElem?_append_left (lt_of_get h)]; exact h
theorem seq_old {S X : Sto} {n : Nat} {xs : List PV} (h : seqAt S n = some xs) : seqAt (S ++ X) n = some xs := by
  unfold seqAt at h ⊢
  cases e : S[n]? with
  | none => rw [e] at h; cases h
  | some o => rw [e] at h; rw [get_old e]; exact h
theorem seq_new {S : Sto} {xs : List PV} : seqAt (S ++ [.lst xs]) S.length = some xs := seqAt_lst (lstAt_of get_app)

/-! ### strings in lists -/
def strL (xs : List (List Nat)) : List PV := xs.map .str
theorem flat_strL : ∀ xs : List (List Nat), (strL xs).all flatP = true
  | [] => rfl
  | _ :: r => by show (true && (strL r).all flatP) = true; rw [flat_strL r]; rfl
theorem inP_strL {a : List Nat} : ∀ xs : List (List Nat), inP (.str a) (strL xs) = decide (a ∈ xs)
  | [] => by simp [inP, strL]
  | b :: r => by
    have ih := inP_strL (a := a) r
    unfold inP at ih ⊢
    show (eqF (.str b) (.str a) || (strL r).any fun y => eqF y (.str a)) = _
    rw [ih]
    by_cases h : b = a
    · subst h; simp [eqF]
    · have : ¬ a = b := fun e => h e.symm
      simp [eqF, h, this]
theorem in_tup {S : Sto} {neg : Bool} {a : List Nat} {xs : List (List Nat)} : inM neg (.str a) (.tup (strL xs)) S = .ok (.bl (if neg then !decide (a ∈ xs) else decide (a ∈ xs))) S := by
  unfold inM
  simp only [flat_strL, flatP, Bool.and_true, if_true, inP_strL]
theorem in_loc {S : Sto} {neg : Bool} {a : List Nat} {n : Nat} {xs : List (List Nat)} (h : seqAt S n = some (strL xs)) : inM neg (.str a) (.loc n) S = .ok (.bl (if neg then !decide (a ∈ xs) else decide (a ∈ xs))) S := by
  unfold inM
  simp only [h, flat_strL, flatP, Bool.and_true, if_true, inP_strL]

/-! ### the rules -/
def rulesL : List (List Nat) := [[105, 110, 118, 97, 108, 105, 100, 97, 116, 101, 95, 115, 116, 111, 114, 101], [105, 110, 118, 97, 108, 105, 100, 97, 116, 101, 95, 100, 101, 118, 105, 99, 101],
  [116, 114, 97, 99, 107, 95, 102, 114, 97, 109, 101, 115], [116, 114, 97, 99, 107, 95, 112, 114, 101, 112, 97, 114, 101, 100], [116, 114, 97, 99, 107, 95, 115, 101, 99, 111, 110, 100],
  [105, 110, 118, 97, 108, 105, 100, 97, 116, 101, 95, 109, 97, 112], [105, 110, 118, 97, 108, 105, 100, 97, 116, 101, 95, 114, 105, 103, 104, 116, 115], [107, 101, 121, 95, 108, 101, 118, 101, 108],
  [108, 101, 97, 118, 101, 95, 115, 101, 108, 102], [108, 101, 97, 118, 101, 95, 111, 116, 104, 101, 114], [99, 117, 116, 95, 108, 105, 110, 107, 115], [99, 108, 101, 97, 114, 95, 108, 105, 110, 107, 115],
  [104, 111, 108, 100, 95, 115, 108, 111, 116], [99, 104, 101, 99, 107, 95, 101, 110, 116, 114, 121], [115, 116, 111, 112, 95, 112, 97, 103, 101], [115, 116, 111, 112, 95, 115, 116, 111, 114, 101],
  [110, 111, 95, 108, 105, 110, 107, 115], [115, 105, 110, 103, 108, 101], [101, 97, 103, 101, 114], [102, 108, 117, 115, 104, 95, 101, 120, 105, 116], [102, 108, 117, 115, 104, 95, 115, 111, 117, 114, 99, 101],
  [107, 101, 101, 112, 95, 100, 114, 111, 112, 112, 101, 100], [109, 97, 112, 95, 105, 110, 115, 112, 101, 99, 116], [109, 97, 112, 95, 102, 97, 117, 108, 116], [102, 108, 117, 115, 104, 95, 102, 97, 117, 108, 116],
  [109, 97, 112, 95, 108, 101, 97, 118, 101], [112, 114, 111, 109, 112, 116, 95, 115, 116, 111, 114, 101], [112, 111, 108, 108, 95, 101, 110, 116, 114, 121], [112, 111, 108, 108, 95, 98, 97, 99, 107, 119, 97, 114, 100]]
def rulesTxt : List Nat := ((rulesL.map fun l => 32 :: l).flatten).drop 1
theorem rules_nodup : rulesL.Nodup := by decide +kernel
theorem rules_split : (PySem.Txt.split (toS rulesTxt) (toS [32])).map (fun z => z.cps.toList) = rulesL := by decide +kernel
def txt1 : List Nat := ((rulesL.take 6).map fun l => 32 :: l).flatten.drop 1
def m_rules (t1 t2 t3 t4 : List Nat) : MS := (sSeq (sSet 0 (eC (.str t1)))
  (sSeq (sSet 0 (eOp gAdd (eVar 0) (eC (.str t2))))
  (sSeq (sSet 0 (eOp gAdd (eVar 0) (eC (.str t3))))
  (sSeq (sSet 0 (eOp gAdd (eVar 0) (eC (.str t4))))
  (sRet (eMt kStr mSplit (eVar 0) (aCons (eC (.str [32])) aNil)))))))
theorem rules_ok {S : Sto} {t1 t2 t3 t4 : List Nat} (h : t1 ++ t2 ++ t3 ++ t4 = rulesTxt) (hl : t1.length + t2.length + t3.length + t4.length < 1000) : fnOf 0 1 (m_rules t1 t2 t3 t4) [] S = .ok (.loc S.length) (S ++ [.lst (strL rulesL)]) := by
  refine fnOf_rt rfl ?_
  have hlim : lim = 100000 := rfl
  show m_rules t1 t2 t3 t4 [none] S = _
  have h1 : t1.length + t2.length ≤ lim := by omega
  have h2 : t1.length + t2.length + t3.length ≤ lim := by omega
  have h3 : t1.length + t2.length + t3.length + t4.length ≤ lim := by omega
  have h4 : rulesTxt.length < lim := by decide +kernel
  have h' : t1 ++ (t2 ++ (t3 ++ t4)) = rulesTxt := by rw [← h]; simp
  have hsp : (PySem.Txt.split (toS rulesTxt) (toS [32])).map (fun z => PV.str z.cps.toList) = strL rulesL := by
    rw [← rules_split, strL, List.map_map]; rfl
  simp [-List.append_assoc, m_rules, sSet_ap, eOp_ap, eVar, gAdd, h1, h2, h3, sRet_ap, eMt_ap, kStr, aCons_ap, mSplit, h, h4, hsp]
/-! ### policies -/
abbrev nPolicy : Nm := [80, 111, 108, 105, 99, 121]
abbrev nNames : Nm := [110, 97, 109, 101, 115]
def wRules : PV := .tup (strL rulesL)
def m_polInit (tab : Nm → Nm → Bool) : MS := (sSeq (sSet 2 (eLst aNil))
  (sSeq (sFor (iSeq (eVar 1)) (gN 3)
  (sSeq (sIf (tOrM (toT (eOp (inM true) (eVar 3) (eC wRules))) (toT (eOp (inM false) (eVar 3) (eVar 2))))
  sBad
  sNil)
  (sExpr (eMt kList mAppend (eVar 2) (aCons (eVar 3) aNil)))))
  (sFldM tab nNames (eVar 0) (eB fTuple (aCons (eLc (iSeq (eC wRules)) (gN 3) (toT (eOp (inM false) (eVar 3) (eVar 2))) (eVar 3) [3]) aNil)))))
/-- names in the order of the rules, each once -/
def Named (names : List (List Nat)) : Prop := names.Sublist rulesL
theorem Named.nodup {names : List (List Nat)} (h : Named names) : names.Nodup := List.Sublist.nodup h rules_nodup
theorem Named.mem {names : List (List Nat)} (h : Named names) {a : List Nat} (ha : a ∈ names) : a ∈ rulesL := h.subset ha
theorem Named.len {names : List (List Nat)} (h : Named names) : names.length ≤ 29 := h.length_le
theorem filter_sub : ∀ {L M : List (List Nat)}, L.Nodup → M.Sublist L → L.filter (fun a => decide (a ∈ M)) = M
  | [], M, _, h => by cases h; rfl
  | a :: L, M, hn, h => by
    have hn' := List.nodup_cons.mp hn
    cases h with
    | cons _ h =>
      have : a ∉ M := fun ha => hn'.1 (h.subset ha)
      rw [List.filter_cons]
      simp only [this, decide_false, Bool.false_eq_true, if_false]
      exact filter_sub hn'.2 h
    | cons_cons _ h =>
      rename_i M'
      rw [List.filter_cons]
      simp only [List.mem_cons, true_or, decide_true, if_true]
      congr 1
      have ih := filter_sub hn'.2 h
      rw [← ih]
      apply List.filter_congr
      intro b hb
      rw [ih]
      have : b ≠ a := fun e => hn'.1 (e ▸ hb)
      simp [this]
theorem filter_strL {p : List Nat → Bool} : ∀ (xs : List (List Nat)) (q : PV → Bool), (∀ a, q (.str a) = p a) → (strL xs).filter q = strL (xs.filter p)
  | [], q, _ => rfl
  | a :: r, q, h => by
    show List.filter q (.str a :: strL r) = _
    rw [List.filter_cons, List.filter_cons, h a, filter_strL r q h]
    cases p a <;> rfl
theorem polInit_loop {S : Sto} {tt : Nat → Sto → Bool} {a0 a1 : Option PV} : ∀ (rest done : List (List Nat)) (i : Nat) (a3 : Option PV), Named (done ++ rest) → (∀ i acc, tt i (S ++ [.lst acc]) = true) →
    ∃ a3', forGo tt (gN 3) (sSeq (sIf (tOrM (toT (eOp (inM true) (eVar 3) (eC wRules))) (toT (eOp (inM false) (eVar 3) (eVar 2))))
      sBad
      sNil)
      (sExpr (eMt kList mAppend (eVar 2) (aCons (eVar 3) aNil)))) i (strL rest) [a0, a1, some (.loc S.length), a3] (S ++ [.lst (strL done)]) = .nx [a0, a1, some (.loc S.length), a3'] (S ++ [.lst (strL (done ++ rest))])
  | [], done, i, a3, hn, hc => ⟨a3, by rw [List.append_nil]; exact forGo_nil (hc i _)⟩
  | x :: r, done, i, a3, hn, hc => by
    have hn2 : Named ((done ++ [x]) ++ r) := by rw [List.append_assoc]; exact hn
    obtain ⟨b3, e⟩ := polInit_loop (a0 := a0) (a1 := a1) r (done ++ [x]) (i + 1) (some (.str x)) hn2 hc
    refine ⟨b3, ?_⟩
    rw [List.append_assoc] at e
    show forGo tt (gN 3) _ i (.str x :: strL r) _ _ = _
    rw [forGo_cons (ls1 := [a0, a1, some (.loc S.length), some (.str x)]) (hc i _) rfl]
    have h1 : x ∈ rulesL := hn.mem (by simp)
    have h2 : x ∉ done := fun hx => by
      have := hn.nodup
      rw [List.nodup_append] at this
      exact this.2.2 x hx x (by simp) rfl
    have hl : (strL done).length < lim := by
      have := hn.len
      rw [List.length_append] at this
      have e : (strL done).length = done.length := by simp [strL]
      have : lim = 100000 := rfl
      omega
    have ha : strL done ++ [.str x] = strL (done ++ [x]) := by simp [strL]
    have body : (sSeq (sIf (tOrM (toT (eOp (inM true) (eVar 3) (eC wRules))) (toT (eOp (inM false) (eVar 3) (eVar 2)))) sBad sNil)
      (sExpr (eMt kList mAppend (eVar 2) (aCons (eVar 3) aNil)))) [a0, a1, some (.loc S.length), some (.str x)] (S ++ [.lst (strL done)]) = .nx [a0, a1, some (.loc S.length), some (.str x)] (S ++ [.lst (strL (done ++ [x]))]) := by
      simp [sIf_ap, tOrM_ap, toT_ap, eOp_ap, eVar, wRules, in_tup, h1, in_loc seq_new, h2, sExpr_ap, eMt_ap, kList, seq_new, aCons_ap, mAppend, lstAt_of get_app, hl, set_app, ha]
    rw [body, loopK_nx]
    exact e
/-- a place that is not the last -/
theorem set_old {S : Sto} {p : Nat} {o o' : OB} (h : p < S.length) : (S ++ [o]).set p o' = S.set p o' ++ [o] := by rw [List.set_append_left _ _ h]
theorem polInit_ok {tab : Nm → Nm → Bool} {S : Sto} {p : Nat} {arg : PV} {t : Wk} {names : List (List Nat)} (ht : tab nPolicy nNames = true) (hp : S[p]? = some (.ins nPolicy [])) (hn : Named names)
    (hi : ∀ acc ls, ls[1]? = some (some arg) → iSeq (eVar 1) ls (S ++ [.lst acc]) = .ok t (S ++ [.lst acc])) (hit : t.items = strL names) (hc : ∀ i acc, t.chk i (S ++ [.lst acc]) = true) :
    fnOf 2 4 (m_polInit tab) [.loc p, arg] S = .ok .non (S.set p (.ins nPolicy [(nNames, .tup (strL names))]) ++ [.lst (strL names), .lst (strL names)]) := by
  have hp' := lt_of_get hp
  obtain ⟨a3, e⟩ := polInit_loop (S := S) (tt := t.chk) (a0 := some (.loc p)) (a1 := some arg) names [] 0 none hn hc
  refine fnOf_nx (ls := [some (.loc p), some arg, some (.loc S.length), a3]) rfl ?_
  show m_polInit tab [some (.loc p), some arg, none, none] S = _
  unfold m_polInit
  have e1 : sSet 2 (eLst aNil) [some (.loc p), some arg, none, none] S = .nx [some (.loc p), some arg, some (.loc S.length), none] (S ++ [.lst (strL [])]) := rfl
  rw [← hit] at e
  rw [sSeq_ap, e1, seq_nx, sSeq_ap, sFor_nx (hi _ _ rfl) e, seq_nx]
  rw [List.nil_append, hit] at *
  have ec : eLc (iSeq (eC wRules)) (gN 3) (toT (eOp (inM false) (eVar 3) (eVar 2))) (eVar 3) [3] [some (.loc p), some arg, some (.loc S.length), a3] (S ++ [.lst (strL names)]) = .ok (.loc (S ++ [OB.lst (strL names)]).length) ((S ++ [.lst (strL names)]) ++ [.lst (strL names)]) := by
    have hs : seqAt (S ++ [.lst (strL names)]) S.length = some (strL names) := seq_new
    rw [eLc_pure (fun x => match x with | .str a => decide (a ∈ names) | _ => false) id (t := ⟨strL rulesL, always⟩) rfl]
    · rw [List.map_id, filter_strL (p := fun a => decide (a ∈ names)) _ _ (fun a => rfl), filter_sub rules_nodup hn]
    · intro x hx acc
      obtain ⟨a, ha, rfl⟩ := List.mem_map.mp hx
      refine ⟨[some (.loc p), some arg, some (.loc S.length), some (.str a)], rfl, ?_, fun _ => rfl⟩
      simp [-List.append_assoc, toT_ap, eOp_ap, eVar, in_loc (seq_old (X := [.lst acc]) hs)]
    · intro i acc; rfl
    · decide +kernel
  have hs2 : seqAt ((S ++ [OB.lst (strL names)]) ++ [OB.lst (strL names)]) (S ++ [OB.lst (strL names)]).length = some (strL names) := seq_new
  have hg : ((S ++ [OB.lst (strL names)]) ++ [OB.lst (strL names)])[p]? = some (.ins nPolicy []) := get_old (get_old hp)
  have hset : ((S ++ [OB.lst (strL names)]) ++ [OB.lst (strL names)]).set p (.ins nPolicy [(nNames, .tup (strL names))]) = S.set p (.ins nPolicy [(nNames, .tup (strL names))]) ++ [.lst (strL names), .lst (strL names)] := by
    rw [set_old (by rw [List.length_append]; omega), set_old hp']
    simp
  rw [← hset]
  unfold sFldM
  rw [eB_ap, aCons_ap, ec, bind_ok, aNil_ap, bind_ok, bind_ok]
  have ef : fTuple [.loc (S ++ [OB.lst (strL names)]).length] ((S ++ [.lst (strL names)]) ++ [.lst (strL names)]) = .ok (.tup (strL names)) ((S ++ [.lst (strL names)]) ++ [.lst (strL names)]) := by
    unfold fTuple; simp only [hs2]
  rw [ef, then_ok]
  have ev : eVar 0 [some (.loc p), some arg, some (.loc S.length), a3] ((S ++ [.lst (strL names)]) ++ [.lst (strL names)]) = .ok (.loc p) ((S ++ [.lst (strL names)]) ++ [.lst (strL names)]) := rfl
  rw [ev, then_ok]
  have ei : insAt ((S ++ [.lst (strL names)]) ++ [.lst (strL names)]) (.loc p) = some (p, nPolicy, []) := by unfold insAt; simp only [hg]
  rw [ei]
  dsimp only
  rw [ht]
  rfl
/-- a policy stands at p -/
def IsPol (S : Sto) (p : Nat) (names : List (List Nat)) : Prop := S[p]? = some (.ins nPolicy [(nNames, .tup (strL names))])
theorem IsPol.old {S X : Sto} {p : Nat} {names : List (List Nat)} (h : IsPol S p names) : IsPol (S ++ X) p names := get_old h
def m_polHas (tab : Nm → Nm → Bool) : MS := (sRet (eOp (inM false) (eVar 1) (eFld tab nNames (eVar 0))))
theorem polHas_ok {tab : Nm → Nm → Bool} {S : Sto} {p : Nat} {a : List Nat} {names : List (List Nat)} (ht : tab nPolicy nNames = true) (h : IsPol S p names) : fnOf 2 2 (m_polHas tab) [.loc p, .str a] S = .ok (.bl (decide (a ∈ names))) S := by
  refine fnOf_rt rfl ?_
  have h' : S[p]? = some (.ins nPolicy [(nNames, .tup (strL names))]) := h
  have ei : insAt S (.loc p) = some (p, nPolicy, [(nNames, .tup (strL names))]) := by unfold insAt; simp only [h']
  show m_polHas tab [some (.loc p), some (.str a)] S = _
  simp [m_polHas, sRet_ap, eOp_ap, eVar, eFld, ei, ht, lookN, in_tup]
/-- the names of a policy at the field -/
theorem polNames_ok {tab : Nm → Nm → Bool} {S : Sto} {p i : Nat} {ls : Ls} {names : List (List Nat)} (ht : tab nPolicy nNames = true) (h : IsPol S p names) (hl : ls[i]? = some (some (.loc p))) : eFld tab nNames (eVar i) ls S = .ok (.tup (strL names)) S := by
  have h' : S[p]? = some (.ins nPolicy [(nNames, .tup (strL names))]) := h
  have ei : insAt S (.loc p) = some (p, nPolicy, [(nNames, .tup (strL names))]) := by unfold insAt; simp only [h']
  simp [eFld, eVar, hl, ei, ht, lookN]
/-- o.has(..) of a policy -/
theorem polMeth_ok {tab : Nm → Nm → Bool} {S : Sto} {p i : Nat} {ls : Ls} {a m : List Nat} {names : List (List Nat)} {args : MA} (ht : tab nPolicy nNames = true) (h : IsPol S p names) (hl : ls[i]? = some (some (.loc p))) (hm : m ≠ nNames) (ha : args ls S = .ok [.str a] S) :
    eMeth nPolicy m (fnOf 2 2 (m_polHas tab)) [] (eVar i) args ls S = .ok (.bl (decide (a ∈ names))) S := by
  have h' : S[p]? = some (.ins nPolicy [(nNames, .tup (strL names))]) := h
  have ei : insAt S (.loc p) = some (p, nPolicy, [(nNames, .tup (strL names))]) := by unfold insAt; simp only [h']
  have hm' : ¬ nNames = m := fun e => hm e.symm
  simp only [eMeth, eVar, hl, bind_ok, ei, if_true, lookN, hm', if_false, ha, List.append_nil]
  exact polHas_ok ht h
end GL

set_option Elab.async false
set_option linter.all false
set_option maxRecDepth 100000
set_option maxHeartbeats 1000000
namespace GL
open PySem

theorem rng0 (n : Nat) : rngL 0 (n : Int) = (List.range n).map fun (i : Nat) => .int (i : Int) := by
  unfold rngL
  simp
theorem rng_mem {n : Nat} {x : PV} (h : x ∈ rngL 0 (n : Int)) : ∃ i : Nat, i < n ∧ x = .int i := by
  rw [rng0, List.mem_map] at h
  obtain ⟨i, hi, e⟩ := h
  exact ⟨i, List.mem_range.mp hi, e.symm⟩
theorem iR1_ok {m : ME} {ls : Ls} {S S1 : Sto} {n : Nat} (h : m ls S = .ok (.int n) S1) (hn : n < 1000000000) : iR1 m ls S = .ok ⟨rngL 0 n, always⟩ S1 := by
  have hm : med = 4611686018427387904 := rfl
  unfold iR1
  rw [h, bind_ok]
  dsimp only
  rw [if_pos]
  rw [Bool.and_eq_true]
  exact ⟨decide_eq_true (by omega), decide_eq_true (by omega)⟩
/-- a comprehension over range(n) -/
theorem eLc_rng {m : ME} {tt : MT} {te : ME} {v n : Nat} {ls : Ls} {S S1 : Sto} (p : Nat → Bool) (f : Nat → PV) (hm : m ls S = .ok (.int n) S1) (hn : n < lim) (hv : v < ls.length)
    (h : ∀ i < n, ∀ acc, tt (ls.set v (some (.int i))) (S1 ++ [.lst acc]) = .ok (p i) (S1 ++ [.lst acc]) ∧ (p i = true → te (ls.set v (some (.int i))) (S1 ++ [.lst acc]) = .ok (f i) (S1 ++ [.lst acc]))) :
    eLc (iR1 m) (gN v) tt te [v] ls S = .ok (.loc S1.length) (S1 ++ [.lst (((List.range n).filter p).map f)]) := by
  have hl : lim = 100000 := rfl
  rw [eLc_pure (t := ⟨rngL 0 n, always⟩) (fun x => match x with | .int i => p i.toNat | _ => false) (fun x => match x with | .int i => f i.toNat | _ => .non) (iR1_ok hm (by omega))]
  · congr 4
    show ((rngL 0 n).filter _).map _ = _
    rw [rng0, List.filter_map, List.map_map]
    rfl
  · intro x hx acc
    obtain ⟨i, hi, rfl⟩ := rng_mem hx
    refine ⟨ls.set v (some (.int i)), ?_, ?_⟩
    · show some ((ls.set v none).set v (some (.int i))) = _
      rw [List.set_set]
    · exact h i hi acc
  · intros; rfl
  · show (rngL 0 n).length < lim
    rw [rng0, List.length_map, List.length_range]; exact hn
theorem eVar_of {ls : Ls} {i : Nat} {w : PV} {S : Sto} (h : ls[i]? = some (some w)) : eVar i ls S = .ok w S := by unfold eVar; rw [h]
theorem gAdd_nat {a b : Nat} {S : Sto} : gAdd (.int (a : Int)) (.int (b : Int)) S = .ok (.int ((a + b : Nat) : Int)) S := by rw [gAdd_int]; rfl
/-- the digits' pick within an expression -/
def nm (ds : List Int) (b : Nat) : List (List Nat) := ((List.range 29).filter fun i => decide (pickV ds (b + i) 2 = 1)).map fun i => rulesL.getD i []
theorem nm_named {ds : List Int} {b : Nat} : Named (nm ds b) := by
  have h : ((List.range 29).map fun i => rulesL.getD i []) = rulesL := by decide +kernel
  have h2 : (nm ds b).Sublist ((List.range 29).map fun i => rulesL.getD i []) := List.Sublist.map _ List.filter_sublist
  rw [h] at h2
  exact h2
theorem names_ok {S : Sto} {ls : Ls} {b d r v ld lr : Nat} {ds : List Int} (hd : ls[d]? = some (some (.loc ld))) (hr : ls[r]? = some (some (.loc lr))) (hv : v < ls.length) (hvd : v ≠ d) (hvr : v ≠ r)
    (sd : seqAt S ld = some (intsL ds)) (sr : seqAt S lr = some (strL rulesL)) :
    eLc (iR1 (eC (.int 29))) (gN v) (toT (eOp gEq (eCall (fnOf 3 4 m_pick) [] (aCons (eVar d) (aCons (eOp gAdd (eC (.int (b : Int))) (eVar v)) (aCons (eC (.int 2)) aNil)))) (eC (.int 1)))) (eOp gIx (eVar r) (eVar v)) [v] ls S
      = .ok (.loc S.length) (S ++ [.lst (strL (nm ds b))]) := by
  rw [eLc_rng (n := 29) (fun i => decide (pickV ds (b + i) 2 = 1)) (fun i => .str (rulesL.getD i [])) rfl (by decide) hv]
  · congr 4
    unfold nm strL
    rw [List.map_map]; rfl
  · intro i hi acc
    have e1 : (ls.set v (some (.int (i : Int))))[d]? = some (some (.loc ld)) := by rw [List.getElem?_set_ne hvd]; exact hd
    have e2 : (ls.set v (some (.int (i : Int))))[r]? = some (some (.loc lr)) := by rw [List.getElem?_set_ne hvr]; exact hr
    have e3 : (ls.set v (some (.int (i : Int))))[v]? = some (some (.int i)) := List.getElem?_set_self hv
    refine ⟨?_, fun _ => ?_⟩
    · simp only [toT_ap, eOp_ap, eCall_ap, aCons_ap, aNil_ap, eVar_of e1, eVar_of e3, bind_ok, eC_ap, gAdd_nat, List.append_nil]
      rw [pick_ok (seq_old sd) (by decide)]
      simp only [bind_ok, gEq_int, asB_bl]
    · simp only [eOp_ap, eVar_of e2, eVar_of e3, bind_ok]
      refine gIx_loc (seq_old sr) ?_
      have hl : i < rulesL.length := hi
      unfold strL
      rw [List.getElem?_map, List.getElem?_eq_getElem hl, Option.map_some]
      congr 2
      rw [List.getD_eq_getElem?_getD, List.getElem?_eq_getElem hl]; rfl
theorem mkPol_ok {tab : Nm → Nm → Bool} {S : Sto} {ls : Ls} {i n : Nat} {names : List (List Nat)} (ht : tab nPolicy nNames = true) (hl : ls[i]? = some (some (.loc n))) (hs : S[n]? = some (.lst (strL names))) (hn : Named names) :
    eMake nPolicy (fnOf 2 4 (m_polInit tab)) [] (aCons (eVar i) aNil) ls S = .ok (.loc S.length) (S ++ [.ins nPolicy [(nNames, .tup (strL names))], .lst (strL names), .lst (strL names)]) := by
  unfold eMake
  rw [aCons_ap, eVar_of hl]
  simp only [bind_ok, aNil_ap, List.append_nil]
  have e := polInit_ok (tab := tab) (S := S ++ [.ins nPolicy []]) (p := S.length) (arg := .loc n) (t := ⟨strL names, isLst n (strL names)⟩) (names := names) ht get_app hn
    (fun acc ls h => by
      unfold iSeq
      rw [eVar_of h, bind_ok]
      dsimp only
      rw [get_old (get_old hs)]) rfl (fun j acc => isLst_self (i := j) (get_old (get_old hs)))
  rw [e]
  simp only [bind_ok, set_app, List.append_assoc]
  rfl
theorem rules_strOk : ∀ a ∈ rulesL, PyData.strOk (toS a) = true := by decide +kernel
theorem optAll_strL {S : Sto} {f : Nat} : ∀ {xs : List (List Nat)}, (∀ a ∈ xs, PyData.strOk (toS a) = true) → optAll (datP S (f + 1)) (strL xs) = some (xs.map fun a => .str (toS a))
  | [], _ => rfl
  | a :: r, h => by
    have ih := optAll_strL (S := S) (f := f) (xs := r) fun b hb => h b (List.mem_cons_of_mem _ hb)
    have h1 := h a List.mem_cons_self
    show optAll (datP S (f + 1)) (.str a :: strL r) = _
    unfold optAll
    rw [ih]
    simp only [datP, h1, if_true]
    rfl
theorem datP_strL {S : Sto} {n : Nat} {xs : List (List Nat)} (h : seqAt S n = some (strL xs)) (hx : ∀ a ∈ xs, PyData.strOk (toS a) = true) : datP S 60 (.loc n) = some (.list (xs.map fun a => .str (toS a))) := by
  unfold datP
  simp only [h, optAll_strL hx, Option.map_some]
/-! ### straight rows -/
section
variable {a : ME} {m1 m2 : MS} {ls ls1 : Ls} {S S1 : Sto} {w : PV} {q : SOut} {i : Nat} {t : MT}
theorem q_set (h : a ls S = .ok w S1) (h2 : m2 (ls.set i (some w)) S1 = q) : sSeq (sSet i a) m2 ls S = q := by rw [sSeq_ap, sSet_ap, h]; exact h2
theorem q_nx (h : m1 ls S = .nx ls1 S1) (h2 : m2 ls1 S1 = q) : sSeq m1 m2 ls S = q := by rw [sSeq_ap, h]; exact h2
theorem q_no (h : t ls S = .ok false S1) (h2 : m2 ls S1 = q) : sSeq (sIf t m1 sNil) m2 ls S = q := by rw [sSeq_ap, sIf_ap, h]; exact h2
theorem q_call {fn : MF} {r : MA} {ws : List PV} {S2 : Sto} (h : r ls S = .ok ws S1) (h2 : fn ws S1 = .ok w S2) : eCall fn [] r ls S = .ok w S2 := by rw [eCall_ap, h, bind_ok, List.append_nil]; exact h2
end
end GL

set_option Elab.async false
set_option linter.all false
set_option maxRecDepth 100000
set_option maxHeartbeats 1000000
namespace GL
open PySem PySem.Spec PyProof.Rows L2

/-! ### all and any of a list of bools -/
def blsOf : List PV → Option (List Bool)
  | [] => some []
  | .bl b :: r => (blsOf r).map (b :: ·)
  | _ => none
theorem blsOf_rel {K : PySem.W.Frag} {ρ : Nat → Addr} {N : Nat} {H : Hp} : ∀ {ws : List PV} {vs : List V} {bs : List Bool}, RWs K ρ N H ws vs → blsOf ws = some bs → vs = bs.map V.bl
  | _, _, bs, .nil, h => by cases h; rfl
  | .bl b :: ws, _, bs, .cons r t, h => by
    cases r
    simp only [blsOf, Option.map_eq_some_iff] at h
    obtain ⟨cs, hc, rfl⟩ := h
    rw [blsOf_rel t hc]; rfl
def fAll : MF := fun ws S => match ws with
  | [.loc n] => (match (seqAt S n).bind blsOf with
    | some bs => .ok (.bl (bs.all id)) S
    | none => .bad)
  | _ => .bad
def fAny : MF := fun ws S => match ws with
  | [.loc n] => (match (seqAt S n).bind blsOf with
    | some bs => .ok (.bl (bs.any id)) S
    | none => .bad)
  | _ => .bad
section
variable {X : Cx}
theorem ci_all : CallI X (rAll X.K) fAll := by
  intro ρ S H ws vs Ex Q hS r h
  unfold fAll at h
  split at h
  · split at h
    · rename_i bs e
      obtain ⟨xs, e1, e2⟩ := Option.bind_eq_some_iff.mp e
      obtain ⟨ys, s, t⟩ := seq_of hS e1
      cases r with
      | cons r t' => cases t'; cases r; exact ⟨_, bs, rfl, blsOf_rel t e2 ▸ s, h.here hS (.bl _)⟩
    · exact h.elim
  · exact h.elim
theorem ci_any : CallI X (rAny X.K) fAny := by
  intro ρ S H ws vs Ex Q hS r h
  unfold fAny at h
  split at h
  · split at h
    · rename_i bs e
      obtain ⟨xs, e1, e2⟩ := Option.bind_eq_some_iff.mp e
      obtain ⟨ys, s, t⟩ := seq_of hS e1
      cases r with
      | cons r t' => cases t'; cases r; exact ⟨_, bs, rfl, blsOf_rel t e2 ▸ s, h.here hS (.bl _)⟩
    · exact h.elim
  · exact h.elim
end
end GL

set_option Elab.async false
set_option linter.all false
set_option maxRecDepth 100000
set_option maxHeartbeats 1000000
namespace GL
open PySem

/-! ### what a value holds -/
def Hld (S : Sto) (v : PV) (xs : List PV) : Prop := v = .tup xs ∨ ∃ m, v = .loc m ∧ S[m]? = some (.lst xs)
theorem Hld.tup {S : Sto} {xs : List PV} : Hld S (.tup xs) xs := .inl rfl
theorem Hld.loc {S : Sto} {m : Nat} {xs : List PV} (h : S[m]? = some (.lst xs)) : Hld S (.loc m) xs := .inr ⟨m, rfl, h⟩
theorem Hld.old {S X : Sto} {v : PV} {xs : List PV} (h : Hld S v xs) : Hld (S ++ X) v xs := by
  rcases h with rfl | ⟨m, rfl, h⟩
  · exact .tup
  · exact .loc (get_old h)
theorem seq_of_get {S : Sto} {m : Nat} {xs : List PV} (h : S[m]? = some (.lst xs)) : seqAt S m = some xs := seqAt_lst (lstAt_of h)
theorem fList_h {S : Sto} {v : PV} {xs : List PV} (h : Hld S v xs) : fList [v] S = .ok (.loc S.length) (S ++ [.lst xs]) := by
  rcases h with rfl | ⟨m, rfl, h⟩
  · rfl
  · simp [fList, seq_of_get h]
theorem fTuple_h {S : Sto} {v : PV} {xs : List PV} (h : Hld S v xs) : fTuple [v] S = .ok (.tup xs) S := by
  rcases h with rfl | ⟨m, rfl, h⟩
  · rfl
  · simp [fTuple, seq_of_get h]
theorem fLen_h {S : Sto} {v : PV} {xs : List PV} (h : Hld S v xs) : fLen [v] S = .ok (.int xs.length) S := by
  rcases h with rfl | ⟨m, rfl, h⟩
  · rfl
  · exact fLen_loc (seq_of_get h)
theorem gIx_h {S : Sto} {v w : PV} {xs : List PV} {i : Nat} (h : Hld S v xs) (hi : xs[i]? = some w) : gIx v (.int (i : Int)) S = .ok w S := by
  rcases h with rfl | ⟨m, rfl, h⟩
  · exact gIx_tup hi
  · exact gIx_loc (seq_of_get h) hi
def wkOf (v : PV) (xs : List PV) : Nat → Sto → Bool := match v with
  | .loc n => isLst n xs
  | _ => always
theorem iSeq_h {m : ME} {ls : Ls} {S S1 : Sto} {v : PV} {xs : List PV} (hm : m ls S = .ok v S1) (h : Hld S1 v xs) : iSeq m ls S = .ok ⟨xs, wkOf v xs⟩ S1 := by
  unfold iSeq
  rw [hm, bind_ok]
  rcases h with rfl | ⟨n, rfl, h⟩
  · rfl
  · dsimp only
    rw [h]; rfl
theorem wk_ok {S : Sto} {v : PV} {xs : List PV} {i : Nat} (h : Hld S v xs) : wkOf v xs i S = true := by
  rcases h with rfl | ⟨n, rfl, h⟩
  · rfl
  · exact isLst_self (i := i) h
/-! ### comprehensions, row by row -/
section
variable {chk : Nat → Sto → Bool} {g : MG} {tt : MT} {te : ME} {vs : List Nat} {D : Nat} {ls ls1 : Ls} {i : Nat} {x w : PV} {r acc : List PV} {S S2 : Sto}
theorem lcGo_cons (hc : chk i S = true) (hg : g x (wipeL ls vs) = some ls1) (ht : tt ls1 S = .ok true S) (he : te ls1 S = .ok w S2) (ha : S2[D]? = some (.lst acc)) (hl : acc.length < lim) :
    lcGo chk g tt te vs D ls i (x :: r) S = lcGo chk g tt te vs D ls (i + 1) r (S2.set D (.lst (acc ++ [w]))) := by
  rw [lcGo, if_pos hc, hg]
  dsimp only
  rw [ht]
  dsimp only
  rw [he]
  dsimp only
  rw [lstAt_of ha]
  dsimp only
  rw [if_pos hl]
theorem lcGo_nil (hc : chk i S = true) : lcGo chk g tt te vs D ls i [] S = .ok (.loc D) S := by rw [lcGo, if_pos hc]
end
theorem get_mid {A B : Sto} {o : OB} : (A ++ o :: B)[A.length]? = some o := by rw [List.getElem?_append_right (Nat.le_refl _)]; simp
theorem set_mid {A B : Sto} {o o' : OB} : (A ++ o :: B).set A.length o' = A ++ o' :: B := by rw [List.set_append_right _ _ (Nat.le_refl _)]; simp
/-- a comprehension whose element makes new things -/
theorem lcGo_grow {chk : Nat → Sto → Bool} {te : ME} {v : Nat} {ls : Ls} {A : Sto} (I : List PV → Sto → Prop) (hv : v < ls.length) : ∀ (xs : List PV) (i : Nat) (acc : List PV) (Y : Sto),
    (∀ i acc Y, chk i (A ++ .lst acc :: Y) = true) →
    (∀ x ∈ xs, ∀ acc Y, I acc Y → ∃ w Z, te (ls.set v (some x)) (A ++ .lst acc :: Y) = .ok w (A ++ .lst acc :: (Y ++ Z)) ∧ I (acc ++ [w]) (Y ++ Z)) →
    acc.length + xs.length < lim → I acc Y → ∃ acc' Y', lcGo chk (gN v) tYesM te [v] A.length ls i xs (A ++ .lst acc :: Y) = .ok (.loc A.length) (A ++ .lst acc' :: Y') ∧ I acc' Y' ∧ acc'.length = acc.length + xs.length
  | [], i, acc, Y, hc, _, _, h => ⟨acc, Y, lcGo_nil (hc _ _ _), h, rfl⟩
  | x :: r, i, acc, Y, hc, hs, hl, h => by
    obtain ⟨w, Z, e, h2⟩ := hs x List.mem_cons_self acc Y h
    rw [List.length_cons] at hl
    obtain ⟨acc', Y', e', h', l'⟩ := lcGo_grow (te := te) I hv r (i + 1) (acc ++ [w]) (Y ++ Z) hc (fun y hy => hs y (List.mem_cons_of_mem _ hy)) (by rw [List.length_append]; show acc.length + 1 + r.length < lim; omega) h2
    refine ⟨acc', Y', ?_, h', by rw [l', List.length_append, List.length_cons]; simp only [List.length_cons, List.length_nil]; omega⟩
    rw [lcGo_cons (ls1 := ls.set v (some x)) (w := w) (S2 := A ++ .lst acc :: (Y ++ Z)) (acc := acc) (hc _ _ _) (by show some ((ls.set v none).set v _) = _; rw [List.set_set]) rfl e get_mid (by omega), set_mid]
    exact e'
theorem eLc_grow {it : MI} {te : ME} {v : Nat} {ls : Ls} {S A : Sto} {t : Wk} (I : List PV → Sto → Prop) (hi : it ls S = .ok t A) (hv : v < ls.length) (hc : ∀ i acc Y, t.chk i (A ++ .lst acc :: Y) = true)
    (hs : ∀ x ∈ t.items, ∀ acc Y, I acc Y → ∃ w Z, te (ls.set v (some x)) (A ++ .lst acc :: Y) = .ok w (A ++ .lst acc :: (Y ++ Z)) ∧ I (acc ++ [w]) (Y ++ Z)) (hl : t.items.length < lim) (h0 : I [] []) :
    ∃ acc' Y', eLc it (gN v) tYesM te [v] ls S = .ok (.loc A.length) (A ++ .lst acc' :: Y') ∧ I acc' Y' ∧ acc'.length = t.items.length := by
  obtain ⟨acc', Y', e, h, l⟩ := lcGo_grow (chk := t.chk) (te := te) I hv t.items 0 [] [] hc hs (by simpa using hl) h0
  exact ⟨acc', Y', by unfold eLc; rw [hi, bind_ok]; exact e, h, by simpa using l⟩
theorem bls_true : ∀ (n : Nat), blsOf (List.replicate n (.bl true)) = some (List.replicate n true)
  | 0 => rfl
  | n + 1 => by rw [List.replicate_succ, blsOf, bls_true n]; rfl
/-- all([.. for x in ..]) where each is True -/
theorem all_ok {it : MI} {te : ME} {v : Nat} {ls : Ls} {S A : Sto} {t : Wk} (hi : it ls S = .ok t A) (hv : v < ls.length) (hc : ∀ i acc Y, t.chk i (A ++ .lst acc :: Y) = true) (hl : t.items.length < lim)
    (hs : ∀ x ∈ t.items, ∀ B, ∃ Z, te (ls.set v (some x)) (A ++ B) = .ok (.bl true) (A ++ B ++ Z)) :
    ∃ X, eB fAll (aCons (eLc it (gN v) tYesM te [v]) aNil) ls S = .ok (.bl true) (A ++ X) := by
  obtain ⟨acc, Y, e, h, l⟩ := eLc_grow (te := te) (fun acc _ => acc = List.replicate acc.length (.bl true)) hi hv hc (fun x hx acc Y ha => by
    obtain ⟨Z, e⟩ := hs x hx (.lst acc :: Y)
    refine ⟨.bl true, Z, ?_, ?_⟩
    · rw [e]; simp
    · rw [List.length_append, List.length_singleton, List.replicate_succ', ← ha]) hl rfl
  refine ⟨.lst acc :: Y, ?_⟩
  rw [eB_ap, aCons_ap, e]
  simp only [bind_ok, aNil_ap, fAll]
  rw [seq_of_get get_mid]
  have : blsOf acc = some (List.replicate acc.length true) := by rw [h, bls_true, List.length_replicate]
  simp only [Option.bind_some, this]
  congr 2
  have : (List.replicate acc.length true).all id = true := List.all_eq_true.mpr fun x hx => List.eq_of_mem_replicate hx
  rw [this]
/-- [list(x) for x in ..] -/
def locsL (a n : Nat) : List PV := (List.range' a n).map .loc
theorem locsL_succ {a n : Nat} : locsL a (n + 1) = locsL a n ++ [.loc (a + n)] := by unfold locsL; rw [List.range'_1_concat, List.map_append]; rfl
@[simp] theorem locsL_len {a n : Nat} : (locsL a n).length = n := by simp [locsL]
theorem locsL_get {a n i : Nat} (h : i < n) : (locsL a n)[i]? = some (.loc (a + i)) := by
  unfold locsL
  rw [List.getElem?_map, List.getElem?_range' h]; simp
theorem lcGo_copies {chk : Nat → Sto → Bool} {v : Nat} {ls : Ls} {A : Sto} (hv : v < ls.length) : ∀ (xs : List PV) (rows done : List (List PV)) (i : Nat), xs.length = rows.length → (∀ (j : Nat) (x : PV) (r : List PV), xs[j]? = some x → rows[j]? = some r → Hld A x r) →
    (∀ i acc Y, chk i (A ++ .lst acc :: Y) = true) → done.length + rows.length < lim →
    lcGo chk (gN v) tYesM (eB fList (aCons (eVar v) aNil)) [v] A.length ls i xs (A ++ .lst (locsL (A.length + 1) done.length) :: done.map .lst)
      = .ok (.loc A.length) (A ++ .lst (locsL (A.length + 1) (done.length + rows.length)) :: (done ++ rows).map .lst)
  | [], [], done, i, _, _, hc, _ => by rw [lcGo_nil (hc _ _ _)]; simp
  | [], _ :: _, _, _, h, _, _, _ => by cases h
  | _ :: _, [], _, _, h, _, _, _ => by cases h
  | x :: xs, r :: rows, done, i, h, hx, hc, hl => by
    have h0 := (hx 0 x r rfl rfl).old (X := .lst (locsL (A.length + 1) done.length) :: done.map .lst)
    rw [List.length_cons] at hl
    rw [lcGo_cons (ls1 := ls.set v (some x)) (w := .loc (A.length + 1 + done.length)) (S2 := A ++ .lst (locsL (A.length + 1) done.length) :: (done ++ [r]).map .lst) (acc := locsL (A.length + 1) done.length) (hc _ _ _)
      (by show some ((ls.set v none).set v _) = _; rw [List.set_set]) rfl ?_ get_mid (by rw [locsL_len]; omega), set_mid, ← locsL_succ]
    · have := lcGo_copies hv xs rows (done ++ [r]) (i + 1) (Nat.succ.inj h) (fun j y q hy hq => hx (j + 1) y q hy hq) hc (by rw [List.length_append, List.length_singleton]; omega)
      rw [List.length_append, List.length_singleton] at this
      rw [this, List.length_cons, List.append_assoc, List.singleton_append, show done.length + 1 + rows.length = done.length + (rows.length + 1) by omega]
    · rw [eB_ap, aCons_ap, eVar_of (List.getElem?_set_self hv)]
      simp only [bind_ok, aNil_ap]
      rw [fList_h h0]
      simp
      omega
theorem copies_ok {it : MI} {v : Nat} {ls : Ls} {S A : Sto} {t : Wk} {rows : List (List PV)} (hi : it ls S = .ok t A) (hv : v < ls.length) (hc : ∀ i acc Y, t.chk i (A ++ .lst acc :: Y) = true) (hl : rows.length < lim)
    (he : t.items.length = rows.length) (hx : ∀ (j : Nat) (x : PV) (r : List PV), t.items[j]? = some x → rows[j]? = some r → Hld A x r) :
    eLc it (gN v) tYesM (eB fList (aCons (eVar v) aNil)) [v] ls S = .ok (.loc A.length) (A ++ .lst (locsL (A.length + 1) rows.length) :: rows.map .lst) := by
  unfold eLc
  rw [hi, bind_ok]
  have := lcGo_copies (chk := t.chk) hv t.items rows [] 0 he hx hc (by simpa using hl)
  simpa [locsL] using this
theorem lcGo_tuples {chk : Nat → Sto → Bool} {v : Nat} {ls : Ls} {A : Sto} (hv : v < ls.length) : ∀ (xs : List PV) (rows : List (List PV)) (acc : List PV) (i : Nat), xs.length = rows.length → (∀ (j : Nat) (x : PV) (r : List PV), xs[j]? = some x → rows[j]? = some r → Hld A x r) →
    (∀ i acc, chk i (A ++ [.lst acc]) = true) → acc.length + rows.length < lim →
    lcGo chk (gN v) tYesM (eB fTuple (aCons (eVar v) aNil)) [v] A.length ls i xs (A ++ [.lst acc]) = .ok (.loc A.length) (A ++ [.lst (acc ++ rows.map PV.tup)])
  | [], [], acc, i, _, _, hc, _ => by rw [lcGo_nil (hc _ _)]; simp
  | [], _ :: _, _, _, h, _, _, _ => by cases h
  | _ :: _, [], _, _, h, _, _, _ => by cases h
  | x :: xs, r :: rows, acc, i, h, hx, hc, hl => by
    have h0 := (hx 0 x r rfl rfl).old (X := [.lst acc])
    rw [List.length_cons] at hl
    rw [lcGo_cons (ls1 := ls.set v (some x)) (w := .tup r) (S2 := A ++ [.lst acc]) (acc := acc) (hc _ _)
      (by show some ((ls.set v none).set v _) = _; rw [List.set_set]) rfl ?_ get_app (by omega), set_app]
    · rw [lcGo_tuples hv xs rows (acc ++ [PV.tup r]) (i + 1) (Nat.succ.inj h) (fun j y q hy hq => hx (j + 1) y q hy hq) hc (by rw [List.length_append, List.length_singleton]; omega)]
      simp
    · rw [eB_ap, aCons_ap, eVar_of (List.getElem?_set_self hv)]
      simp only [bind_ok, aNil_ap]
      exact fTuple_h h0
/-- tuple([tuple(x) for x in ..]) -/
theorem tuples_ok {it : MI} {v : Nat} {ls : Ls} {S A : Sto} {t : Wk} {rows : List (List PV)} (hi : it ls S = .ok t A) (hv : v < ls.length) (hc : ∀ i acc, t.chk i (A ++ [.lst acc]) = true) (hl : rows.length < lim)
    (he : t.items.length = rows.length) (hx : ∀ (j : Nat) (x : PV) (r : List PV), t.items[j]? = some x → rows[j]? = some r → Hld A x r) :
    eB fTuple (aCons (eLc it (gN v) tYesM (eB fTuple (aCons (eVar v) aNil)) [v]) aNil) ls S = .ok (.tup (rows.map PV.tup)) (A ++ [.lst (rows.map PV.tup)]) := by
  rw [eB_ap, aCons_ap]
  unfold eLc
  rw [hi, bind_ok, lcGo_tuples (chk := t.chk) hv t.items rows [] 0 he hx hc (by simpa using hl)]
  simp only [bind_ok, aNil_ap, List.nil_append]
  exact fTuple_h (.loc get_app)
/-! ### fields -/
section
variable {a v : ME} {m1 m2 : MS} {ls ls1 : Ls} {A B B' S2 : Sto} {y : PV} {q : SOut} {o : Nat} {t : MT} {tab : Nm → Nm → Bool} {C f : Nm} {fs : List (Nm × PV)}
theorem fld_ap (h : v ls (A ++ .ins C fs :: B) = .ok y S2) (e : S2 = A ++ .ins C fs :: B') (hl : ls[o]? = some (some (.loc A.length))) (ht : tab C f = true) (hz : fs.length < 1000) :
    sFldM tab f (eVar o) v ls (A ++ .ins C fs :: B) = .nx ls (A ++ .ins C (putN f y fs) :: B') := by
  subst e
  unfold sFldM
  rw [h, then_ok, eVar_of hl, then_ok]
  have : insAt (A ++ .ins C fs :: B') (.loc A.length) = some (A.length, C, fs) := by unfold insAt; simp only [get_mid]
  rw [this]
  dsimp only
  rw [ht, Bool.true_and, if_pos (decide_eq_true hz), set_mid]
theorem q_fld (h : v ls (A ++ .ins C fs :: B) = .ok y S2) (e : S2 = A ++ .ins C fs :: B') (hl : ls[o]? = some (some (.loc A.length))) (ht : tab C f = true) (hz : fs.length < 1000) (h2 : m2 ls (A ++ .ins C (putN f y fs) :: B') = q) :
    sSeq (sFldM tab f (eVar o) v) m2 ls (A ++ .ins C fs :: B) = q := by rw [sSeq_ap, fld_ap h e hl ht hz]; exact h2
theorem eFld_ok {S : Sto} {p : Nat} {w : PV} (hl : ls[o]? = some (some (.loc p))) (hp : S[p]? = some (.ins C fs)) (ht : tab C f = true) (hf : lookN f fs = some w) : eFld tab f (eVar o) ls S = .ok w S := by
  unfold eFld
  rw [eVar_of hl, bind_ok]
  have : insAt S (.loc p) = some (p, C, fs) := by unfold insAt; simp only [hp]
  rw [this]
  dsimp only
  rw [if_pos ht, hf]
theorem eMake_ok {S S2 : Sto} {args : MA} {ws d : List PV} {fn : MF} {S1 : Sto} (ha : args ls S = .ok ws S1) (h : fn (.loc S1.length :: (ws ++ d)) (S1 ++ [.ins C []]) = .ok .non S2) : eMake C fn d args ls S = .ok (.loc S1.length) S2 := by
  unfold eMake
  rw [ha, bind_ok, h, bind_ok]
end
/-! ### data that is equal to itself -/
theorem eqvAll_of : ∀ {ds : List PyData}, (∀ d ∈ ds, PyData.eqv d d = true) → PyData.eqvAll ds ds = true
  | [], _ => by simp [PyData.eqvAll]
  | d :: r, h => by
    have h1 := h d List.mem_cons_self
    have h2 := eqvAll_of (ds := r) fun x hx => h x (List.mem_cons_of_mem _ hx)
    simp [PyData.eqvAll, h1, h2]
theorem datP_self {S : Sto} : ∀ {f : Nat} {w : PV} {d : PyData}, datP S f w = some d → PyData.eqv d d = true
  | 0, w, d, h => by simp [datP] at h
  | f + 1, w, d, h => by
    unfold datP at h
    split at h
    · cases h; simp [PyData.eqv]
    · cases h; simp [PyData.eqv]
    · cases h; simp [PyData.eqv]
    · split at h
      · cases h; simp [PyData.eqv]
      · cases h
    · obtain ⟨ds, e, rfl⟩ := Option.map_eq_some_iff.mp h
      simp only [PyData.eqv]
      exact eqvAll_of fun d hd => by
        obtain ⟨x, _, q⟩ := optAll_some e d hd
        exact datP_self q
    · split at h
      · obtain ⟨ds, e, rfl⟩ := Option.map_eq_some_iff.mp h
        simp only [PyData.eqv]
        exact eqvAll_of fun d hd => by
          obtain ⟨x, _, q⟩ := optAll_some e d hd
          exact datP_self q
      · cases h
    · cases h
/-- plain things: ints, bools, None, tuples of them -/
theorem eqM_self {S : Sto} {a b : PV} {d : PyData} {neg : Bool} (hs : scalP a b = none) (ha : datP S 60 a = some d) (hb : datP S 60 b = some d) : eqM neg a b S = .ok (.bl (!neg)) S := by
  unfold eqM
  rw [hs]
  dsimp only
  rw [ha, hb]
  dsimp only
  rw [datP_self ha]
  cases neg <;> rfl
end GL

set_option Elab.async false
set_option linter.all false
set_option maxRecDepth 100000
set_option maxHeartbeats 400000
namespace K33
open GL
open PySem (Str)
abbrev n_guest : List Nat := [103, 117, 101, 115, 116]
abbrev n_frames : List Nat := [102, 114, 97, 109, 101, 115]
abbrev n_pages : List Nat := [112, 97, 103, 101, 115]
abbrev n_starts : List Nat := [115, 116, 97, 114, 116, 115]
abbrev n_pc : List Nat := [112, 99]
abbrev n_regs : List Nat := [114, 101, 103, 115]
abbrev n_zero : List Nat := [122, 101, 114, 111]
abbrev n_less : List Nat := [108, 101, 115, 115]
abbrev n_level : List Nat := [108, 101, 118, 101, 108]
abbrev n_enabled : List Nat := [101, 110, 97, 98, 108, 101, 100]
abbrev n_pending : List Nat := [112, 101, 110, 100, 105, 110, 103]
abbrev n_saved : List Nat := [115, 97, 118, 101, 100]
abbrev n_halted : List Nat := [104, 97, 108, 116, 101, 100]
abbrev n_Processor : List Nat := [80, 114, 111, 99, 101, 115, 115, 111, 114]
abbrev n_processors : List Nat := [112, 114, 111, 99, 101, 115, 115, 111, 114, 115]
abbrev n_written : List Nat := [119, 114, 105, 116, 116, 101, 110]
abbrev n_handlers : List Nat := [104, 97, 110, 100, 108, 101, 114, 115]
abbrev n_writes : List Nat := [119, 114, 105, 116, 101, 115]
abbrev n_Guest : List Nat := [71, 117, 101, 115, 116]
abbrev n_Machine : List Nat := [77, 97, 99, 104, 105, 110, 101]
abbrev n_key : List Nat := [107, 101, 121]
abbrev n_store : List Nat := [115, 116, 111, 114, 101]
def tabL : List (Nm × Nm) := [(n_Processor, n_enabled), (n_Processor, n_halted), (n_Processor, n_less), (n_Processor, n_level), (n_Processor, n_pc), (n_Processor, n_pending), (n_Processor, n_regs), (n_Processor, n_saved), (n_Processor, n_zero), (n_Machine, n_frames), (n_Machine, n_guest), (n_Machine, n_pages), (n_Machine, n_processors), (n_Machine, n_written), (n_Guest, n_frames), (n_Guest, n_handlers), (n_Guest, n_pages), (n_Guest, n_starts), (n_Guest, n_writes)]
def tab (C f : Nm) : Bool := tabL.any fun p => decide (p.1 = C) && decide (p.2 = f)
abbrev w_ADDRESSES : PV := (.int 64)
abbrev w_CELLS : PV := (.int 16)
abbrev w_FRAMES : PV := (.int 4)
abbrev w_MOST_WRITES : PV := (.int 64)
abbrev w_NUMBERS : PV := (.int 256)
abbrev w_PAGES : PV := (.int 4)
abbrev w_PROCESSORS : PV := (.int 2)
abbrev w_REGISTERS : PV := (.int 4)
def m_law_row : MS := (sSeq (sSet 2 (eLst aNil))
  (sSeq (sFor (iSeq (eVar 0)) (gN 3)
  (sSeq (sSet 4 (eB fAbs (aCons (eB fInt (aCons (eVar 3) aNil)) aNil)))
  (sFor (iR1 (eC (.int 60))) (gN 5)
  (sSeq (sIf (toT (eOp gLt (eB fLen (aCons (eVar 2) aNil)) (eVar 1)))
  (sExpr (eMt kList mAppend (eVar 2) (aCons (eOp gMod (eVar 4) (eC (.int 16))) aNil)))
  sNil)
  (sSeq (sSet 4 (eOp gDiv (eVar 4) (eC (.int 16))))
  (sIf (toT (eOp gEq (eVar 4) (eC (.int 0))))
  sBk
  sNil))))))
  (sRet (eVar 2))))
abbrev f_law_row : MF := fnOf 2 6 m_law_row
def m_law_frames : MS := (sSeq (sSet 1 (eLst aNil))
  (sSeq (sFor (iR1 (eC (.int 4))) (gN 2)
  (sExpr (eMt kList mAppend (eVar 1) (aCons (eLc (iR1 (eC (.int 16))) (gN 3) tYesM (eOp gMod (eB fInt (aCons (eOp gAdd (eOp gAdd (eVar 0) (eOp gMul (eC (.int 16)) (eVar 2))) (eVar 3)) aNil)) (eC (.int 256))) [3]) aNil))))
  (sRet (eVar 1))))
abbrev f_law_frames : MF := fnOf 1 4 m_law_frames
def m_law_pick : MS := (sSeq (sSet 3 (eC (.int 0)))
  (sSeq (sIf (toT (eOp gLt (eVar 1) (eB fLen (aCons (eVar 0) aNil))))
  (sSet 3 (eOp gIx (eVar 0) (eVar 1)))
  sNil)
  (sSeq (sIf (toT (eOp gLt (eOp gAdd (eVar 1) (eC (.int 1))) (eB fLen (aCons (eVar 0) aNil))))
  (sSet 3 (eOp gAdd (eVar 3) (eOp gMul (eC (.int 16)) (eOp gIx (eVar 0) (eOp gAdd (eVar 1) (eC (.int 1)))))))
  sNil)
  (sRet (eOp gMod (eB fInt (aCons (eVar 3) aNil)) (eVar 2))))))
abbrev f_law_pick : MF := fnOf 3 4 m_law_pick
def m_law_stores : MS := (sSeq (sSet 1 (eLst aNil))
  (sSeq (sFor (iR1 (eOp gMod (eB fInt (aCons (eOp gAdd (eC (.int 6)) (eCall f_law_pick [] (aCons (eVar 0) (aCons (eC (.int 0)) (aCons (eC (.int 9)) aNil))))) aNil)) (eC (.int 9)))) (gN 2)
  (sSeq (sSet 3 (eOp gMod (eB fInt (aCons (eOp gAdd (eVar 2) (eCall f_law_pick [] (aCons (eVar 0) (aCons (eOp gAdd (eC (.int 8)) (eOp gMul (eC (.int 10)) (eVar 2))) (aCons (eC (.int 4)) aNil))))) aNil)) (eC (.int 4))))
  (sSeq (sSet 4 (eOp gMod (eB fInt (aCons (eOp gAdd (eOp gMul (eC (.int 5)) (eVar 2)) (eCall f_law_pick [] (aCons (eVar 0) (aCons (eOp gAdd (eC (.int 10)) (eOp gMul (eC (.int 10)) (eVar 2))) (aCons (eC (.int 16)) aNil))))) aNil)) (eC (.int 16))))
  (sSeq (sIf (toT (eOp gEq (eOp gMod (eB fInt (aCons (eOp gAdd (eVar 2) (eCall f_law_pick [] (aCons (eVar 0) (aCons (eOp gAdd (eC (.int 16)) (eOp gMul (eC (.int 10)) (eVar 2))) (aCons (eC (.int 2)) aNil))))) aNil)) (eC (.int 2))) (eC (.int 0))))
  (sSeq (sSet 3 (eOp gMod (eB fInt (aCons (eOp gAdd (eC (.int 2)) (eCall f_law_pick [] (aCons (eVar 0) (aCons (eC (.int 2)) (aCons (eC (.int 4)) aNil))))) aNil)) (eC (.int 4))))
  (sSet 4 (eOp gMod (eB fInt (aCons (eOp gAdd (eC (.int 7)) (eCall f_law_pick [] (aCons (eVar 0) (aCons (eC (.int 4)) (aCons (eC (.int 16)) aNil))))) aNil)) (eC (.int 16)))))
  sNil)
  (sSeq (sSet 5 (eOp gMod (eB fInt (aCons (eOp gAdd (eOp gAdd (eC (.int 9)) (eOp gMul (eC (.int 37)) (eVar 2))) (eCall f_law_pick [] (aCons (eVar 0) (aCons (eOp gAdd (eC (.int 12)) (eOp gMul (eC (.int 10)) (eVar 2))) (aCons (eC (.int 256)) aNil))))) aNil)) (eC (.int 256))))
  (sExpr (eMt kList mAppend (eVar 1) (aCons (eTup (aCons (eVar 3) (aCons (eVar 4) (aCons (eVar 5) (aCons (eOp gMod (eB fInt (aCons (eOp gAdd (eOp gAdd (eC (.int 1)) (eVar 2)) (eCall f_law_pick [] (aCons (eVar 0) (aCons (eOp gAdd (eC (.int 14)) (eOp gMul (eC (.int 10)) (eVar 2))) (aCons (eC (.int 4)) aNil))))) aNil)) (eC (.int 4))) aNil))))) aNil))))))))
  (sRet (eVar 1))))
abbrev f_law_stores : MF := fnOf 1 6 m_law_stores
def m_Processor_init : MS := (sSeq (sFldM tab n_pc (eVar 0) (eC (.int 0)))
  (sSeq (sIf (toT (eOp (isM true) (eVar 1) (eC .non)))
  (sFldM tab n_pc (eVar 0) (eVar 1))
  sNil)
  (sSeq (sFldM tab n_regs (eVar 0) (eOp gMul (eLst (aCons (eC (.int 0)) aNil)) (eC w_REGISTERS)))
  (sSeq (sFldM tab n_zero (eVar 0) (eC (.int 0)))
  (sSeq (sFldM tab n_less (eVar 0) (eC (.int 0)))
  (sSeq (sFldM tab n_level (eVar 0) (eC (.int 1)))
  (sSeq (sFldM tab n_enabled (eVar 0) (eC (.bl false)))
  (sSeq (sFldM tab n_pending (eVar 0) (eC (.bl false)))
  (sSeq (sFldM tab n_saved (eVar 0) (eTup (aCons (eC (.int 0)) (aCons (eC (.int 1)) (aCons (eC (.bl false)) aNil)))))
  (sFldM tab n_halted (eVar 0) (eOp (isM false) (eVar 1) (eC .non))))))))))))
abbrev f_Processor_init : MF := fnOf 2 2 m_Processor_init
def m_Machine_init : MS := (sSeq (sFldM tab n_guest (eVar 0) (eVar 1))
  (sSeq (sFldM tab n_frames (eVar 0) (eLc (iSeq (eFld tab n_frames (eVar 1))) (gN 2) tYesM (eB fList (aCons (eVar 2) aNil)) [2]))
  (sSeq (sFldM tab n_pages (eVar 0) (eB fList (aCons (eFld tab n_pages (eVar 1)) aNil)))
  (sSeq (sFldM tab n_processors (eVar 0) (eLc (iSeq (eFld tab n_starts (eVar 1))) (gN 3) tYesM (eMake n_Processor f_Processor_init [] (aCons (eVar 3) aNil)) [3]))
  (sFldM tab n_written (eVar 0) (eC (.int 0)))))))
abbrev f_Machine_init : MF := fnOf 2 4 m_Machine_init
def m_within : MS := (sSeq (sIf (toT (eOp gNe (eB fLen (aCons (eVar 0) aNil)) (eB fLen (aCons (eVar 1) aNil))))
  (sRet (eC (.bl false)))
  sNil)
  (sSeq (sFor (iR1 (eB fLen (aCons (eVar 1) aNil))) (gN 2)
  (sIf (tNotM (toT (eChain gLe gLt (eC (.int 0)) (eOp gIx (eVar 0) (eVar 2)) (eOp gIx (eVar 1) (eVar 2)))))
  (sRet (eC (.bl false)))
  sNil))
  (sRet (eC (.bl true)))))
abbrev f_within : MF := fnOf 2 3 m_within
def m_check_guest : MS := (sSeq (sIf (tOrM (toT (eOp gNe (eB fLen (aCons (eFld tab n_frames (eVar 0)) aNil)) (eC w_FRAMES))) (tNotM (toT (eB fAll (aCons (eLc (iSeq (eFld tab n_frames (eVar 0))) (gN 1) tYesM (eCall f_within [] (aCons (eVar 1) (aCons (eOp gMul (eLst (aCons (eC w_NUMBERS) aNil)) (eC w_CELLS)) aNil))) [1]) aNil)))))
  sBad
  sNil)
  (sSeq (sIf (tOrM (toT (eOp gNe (eB fLen (aCons (eFld tab n_pages (eVar 0)) aNil)) (eC w_PAGES))) (tNotM (toT (eB fAll (aCons (eLc (iSeq (eFld tab n_pages (eVar 0))) (gN 2) tYesM (eCall f_within [] (aCons (eVar 2) (aCons (eLst (aCons (eC w_FRAMES) (aCons (eC (.int 8)) aNil))) aNil))) [2]) aNil)))))
  sBad
  sNil)
  (sSeq (sSet 3 (eLc (iSeq (eFld tab n_starts (eVar 0))) (gN 4) (toT (eOp (isM true) (eVar 4) (eC .non))) (eVar 4) [4]))
  (sSeq (sIf (tOrM (toT (eOp gNe (eB fLen (aCons (eFld tab n_starts (eVar 0)) aNil)) (eC w_PROCESSORS))) (tNotM (toT (eCall f_within [] (aCons (eVar 3) (aCons (eOp gMul (eLst (aCons (eC w_ADDRESSES) aNil)) (eB fLen (aCons (eVar 3) aNil))) aNil))))))
  sBad
  sNil)
  (sSeq (sIf (tNotM (toT (eCall f_within [] (aCons (eFld tab n_handlers (eVar 0)) (aCons (eOp gMul (eLst (aCons (eC w_ADDRESSES) aNil)) (eC w_PROCESSORS)) aNil)))))
  sBad
  sNil)
  (sIf (tOrM (toT (eOp gGt (eB fLen (aCons (eFld tab n_writes (eVar 0)) aNil)) (eC w_MOST_WRITES))) (tNotM (toT (eB fAll (aCons (eLc (iSeq (eFld tab n_writes (eVar 0))) (gN 5) tYesM (eCall f_within [] (aCons (eVar 5) (aCons (eLst (aCons (eC w_FRAMES) (aCons (eC w_CELLS) (aCons (eC w_NUMBERS) aNil)))) aNil))) [5]) aNil)))))
  sBad
  sNil))))))
abbrev f_check_guest : MF := fnOf 1 6 m_check_guest
def m_Guest_init : MS := (sSeq (sFldM tab n_frames (eVar 0) (eB fTuple (aCons (eLc (iSeq (eVar 1)) (gN 6) tYesM (eB fTuple (aCons (eVar 6) aNil)) [6]) aNil)))
  (sSeq (sFldM tab n_pages (eVar 0) (eB fTuple (aCons (eLc (iSeq (eVar 2)) (gN 7) tYesM (eB fTuple (aCons (eVar 7) aNil)) [7]) aNil)))
  (sSeq (sFldM tab n_starts (eVar 0) (eB fTuple (aCons (eVar 3) aNil)))
  (sSeq (sFldM tab n_handlers (eVar 0) (eB fTuple (aCons (eVar 4) aNil)))
  (sSeq (sFldM tab n_writes (eVar 0) (eB fTuple (aCons (eLc (iSeq (eVar 5)) (gN 8) tYesM (eB fTuple (aCons (eVar 8) aNil)) [8]) aNil)))
  (sExpr (eCall f_check_guest [] (aCons (eVar 0) aNil))))))))
abbrev f_Guest_init : MF := fnOf 6 9 m_Guest_init
def m_Processor_key : MS := (sSeq (sSet 1 (eTup (aCons (eFld tab n_zero (eVar 0)) (aCons (eFld tab n_less (eVar 0)) aNil))))
  (sRet (eTup (aCons (eFld tab n_pc (eVar 0)) (aCons (eB fTuple (aCons (eFld tab n_regs (eVar 0)) aNil)) (aCons (eVar 1) (aCons (eFld tab n_level (eVar 0)) (aCons (eFld tab n_enabled (eVar 0)) (aCons (eFld tab n_pending (eVar 0)) (aCons (eFld tab n_saved (eVar 0)) (aCons (eFld tab n_halted (eVar 0)) aNil)))))))))))
abbrev f_Processor_key : MF := fnOf 1 2 m_Processor_key
def m_Machine_key : MS := (sSeq (sSet 1 (eB fTuple (aCons (eLc (iSeq (eFld tab n_frames (eVar 0))) (gN 2) tYesM (eB fTuple (aCons (eVar 2) aNil)) [2]) aNil)))
  (sRet (eTup (aCons (eVar 1) (aCons (eB fTuple (aCons (eFld tab n_pages (eVar 0)) aNil)) (aCons (eB fTuple (aCons (eLc (iSeq (eFld tab n_processors (eVar 0))) (gN 3) tYesM (eMeth n_Processor n_key f_Processor_key [] (eVar 3) aNil) [3]) aNil)) (aCons (eFld tab n_written (eVar 0)) aNil)))))))
abbrev f_Machine_key : MF := fnOf 1 4 m_Machine_key
def m_newest : MS := (sSeq (sFor (iRevM (eVar 0)) (gN 3)
  (sIf (tAndM (toT (eOp gEq (eOp gIx (eVar 3) (eC (.int 0))) (eVar 1))) (toT (eOp gEq (eOp gIx (eVar 3) (eC (.int 1))) (eVar 2))))
  (sRet (eOp gIx (eVar 3) (eC (.int 2))))
  sNil))
  (sRet (eC .non)))
abbrev f_newest : MF := fnOf 3 4 m_newest
def m_law_newest : MS := (sSeq (sSet 3 (eC .non))
  (sSeq (sFor (iSeq (eVar 0)) (gN 4)
  (sIf (tAndM (toT (eOp gEq (eOp gIx (eVar 4) (eC (.int 0))) (eVar 1))) (toT (eOp gEq (eOp gIx (eVar 4) (eC (.int 1))) (eVar 2))))
  (sSet 3 (eOp gIx (eVar 4) (eC (.int 2))))
  sNil))
  (sRet (eVar 3))))
abbrev f_law_newest : MF := fnOf 3 5 m_law_newest
def m_law_whole : MS := (sRet (eAndM (eB fIsi (aCons (eVar 0) (aCons (eC (.ty .int)) aNil))) (eNotM (eB fIsi (aCons (eVar 0) (aCons (eC (.ty .bool)) aNil))))))
abbrev f_law_whole : MF := fnOf 1 1 m_law_whole
def m_law_all_newest : MS := (sSeq (sFor (iR1 (eC (.int 4))) (gN 2)
  (sFor (iR1 (eC (.int 16))) (gN 3)
  (sSeq (sSet 4 (eCall f_newest [] (aCons (eVar 0) (aCons (eVar 2) (aCons (eVar 3) aNil)))))
  (sSeq (sSet 5 (eCall f_law_newest [] (aCons (eVar 1) (aCons (eVar 2) (aCons (eVar 3) aNil)))))
  (sSeq (sIf (tAndM (toT (eOp (isM false) (eVar 5) (eC .non))) (toT (eOp (isM true) (eVar 4) (eC .non))))
  (sRet (eC (.bl false)))
  sNil)
  (sIf (tAndM (toT (eOp (isM true) (eVar 5) (eC .non))) (tOrM (tNotM (toT (eCall f_law_whole [] (aCons (eVar 4) aNil)))) (toT (eOp gNe (eVar 4) (eVar 5)))))
  (sRet (eC (.bl false)))
  sNil))))))
  (sRet (eOp gEq (eVar 0) (eVar 1))))
abbrev f_law_all_newest : MF := fnOf 2 6 m_law_all_newest
def m_law_state : MS := (sSeq (sSet 3 (eMeth n_Machine n_key f_Machine_key [] (eVar 0) aNil))
  (sSeq (sIf (toT (eOp gNe (eVar 3) (eOp gAdd (eTup (aCons (eB fTuple (aCons (eLc (iSeq (eVar 1)) (gN 4) tYesM (eB fTuple (aCons (eVar 4) aNil)) [4]) aNil)) aNil)) (eVar 2))))
  (sRet (eC (.bl false)))
  sNil)
  (sSeq (sFor (iR1 (eC (.int 4))) (gN 5)
  (sFor (iR1 (eC (.int 16))) (gN 6)
  (sIf (tNotM (toT (eCall f_law_whole [] (aCons (eOp gIx (eOp gIx (eFld tab n_frames (eVar 0)) (eVar 5)) (eVar 6)) aNil))))
  (sRet (eC (.bl false)))
  sNil)))
  (sRet (eC (.bl true))))))
abbrev f_law_state : MF := fnOf 3 7 m_law_state
def m_law_changes : MS := (sSeq (sIf (tOrM (tNotM (toT (eB fIsi (aCons (eVar 0) (aCons (eC (.ty .list)) aNil))))) (toT (eOp gNe (eB fLen (aCons (eVar 0) aNil)) (eB fLen (aCons (eVar 1) aNil)))))
  (sRet (eC (.bl false)))
  sNil)
  (sSeq (sFor (iR1 (eB fLen (aCons (eVar 1) aNil))) (gN 2)
  (sSeq (sSet 3 (eOp gIx (eVar 0) (eVar 2)))
  (sSeq (sIf (tOrM (tNotM (toT (eB fIsi (aCons (eVar 3) (aCons (eC (.ty .tuple)) aNil))))) (tOrM (toT (eOp gNe (eB fLen (aCons (eVar 3) aNil)) (eC (.int 4)))) (toT (eOp gNe (eOp gIx (eVar 3) (eC (.int 0))) (eC (.str n_store))))))
  (sRet (eC (.bl false)))
  sNil)
  (sSeq (sFor (iR2 (eC (.int 1)) (eC (.int 4))) (gN 4)
  (sIf (tNotM (toT (eCall f_law_whole [] (aCons (eOp gIx (eVar 3) (eVar 4)) aNil))))
  (sRet (eC (.bl false)))
  sNil))
  (sIf (tOrM (toT (eOp gNe (eOp gIx (eVar 3) (eC (.int 1))) (eOp gIx (eOp gIx (eVar 1) (eVar 2)) (eC (.int 3))))) (tOrM (toT (eOp gNe (eOp gIx (eVar 3) (eC (.int 2))) (eOp gIx (eOp gIx (eVar 1) (eVar 2)) (eC (.int 0))))) (toT (eOp gNe (eOp gIx (eVar 3) (eC (.int 3))) (eOp gIx (eOp gIx (eVar 1) (eVar 2)) (eC (.int 1)))))))
  (sRet (eC (.bl false)))
  sNil)))))
  (sRet (eC (.bl true)))))
abbrev f_law_changes : MF := fnOf 2 5 m_law_changes
def m_drain : MS := (sSeq (sSet 2 (eLst aNil))
  (sSeq (sFor (iSeq (eB fList (aCons (eVar 1) aNil))) (gT (gsCons (gN 3) (gsCons (gN 4) (gsCons (gN 5) (gsCons (gN 6) gsNil)))))
  (sSeq (sSub (eOp gIx (eFld tab n_frames (eVar 0)) (eVar 3)) (eVar 4) (eVar 5))
  (sExpr (eMt kList mAppend (eVar 2) (aCons (eTup (aCons (eC (.str n_store)) (aCons (eVar 6) (aCons (eVar 3) (aCons (eVar 4) aNil))))) aNil)))))
  (sSeq (sExpr (eMt kList mClear (eVar 1) aNil))
  (sRet (eVar 2)))))
abbrev f_drain : MF := fnOf 2 7 m_drain
def m_law : MS := (sSeq (sSet 1 (eCall f_law_row [] (aCons (eVar 0) (aCons (eC (.int 100)) aNil))))
  (sSeq (sSet 2 (eCall f_law_frames [] (aCons (eCall f_law_pick [] (aCons (eVar 1) (aCons (eC (.int 6)) (aCons (eC (.int 256)) aNil)))) aNil)))
  (sSeq (sSet 3 (eCall f_law_stores [] (aCons (eVar 1) aNil)))
  (sSeq (sSet 4 (eMake n_Machine f_Machine_init [] (aCons (eMake n_Guest f_Guest_init [(.tup [(.tup [(.int 0), (.int 7)]), (.tup [(.int 1), (.int 7)]), (.tup [(.int 2), (.int 7)]), (.tup [(.int 3), (.int 7)])]), (.tup [(.int 0), .non]), (.tup [(.int 60), (.int 60)]), (.tup [])] (aCons (eLc (iSeq (eVar 2)) (gN 5) tYesM (eB fList (aCons (eVar 5) aNil)) [5]) aNil)) aNil)))
  (sSeq (sSet 6 (eSl (eMeth n_Machine n_key f_Machine_key [] (eVar 4) aNil) (oYes (eC (.int 1))) oNo))
  (sSeq (sSet 7 (eB fList (aCons (eVar 3) aNil)))
  (sSeq (sIf (tOrM (tNotM (toT (eCall f_law_all_newest [] (aCons (eVar 7) (aCons (eVar 3) aNil))))) (tNotM (toT (eCall f_law_state [] (aCons (eVar 4) (aCons (eVar 2) (aCons (eVar 6) aNil)))))))
  (sRet (eC (.bl false)))
  sNil)
  (sSeq (sIf (tOrM (tNotM (toT (eCall f_law_changes [] (aCons (eCall f_drain [] (aCons (eVar 4) (aCons (eVar 7) aNil))) (aCons (eVar 3) aNil))))) (tOrM (tNotM (toT (eB fIsi (aCons (eVar 7) (aCons (eC (.ty .list)) aNil))))) (toT (eOp gNe (eB fLen (aCons (eVar 7) aNil)) (eC (.int 0))))))
  (sRet (eC (.bl false)))
  sNil)
  (sSeq (sFor (iSeq (eVar 3)) (gN 5)
  (sSub (eOp gIx (eVar 2) (eOp gIx (eVar 5) (eC (.int 0)))) (eOp gIx (eVar 5) (eC (.int 1))) (eOp gIx (eVar 5) (eC (.int 2)))))
  (sSeq (sIf (tOrM (tNotM (toT (eCall f_law_state [] (aCons (eVar 4) (aCons (eVar 2) (aCons (eVar 6) aNil)))))) (tNotM (toT (eCall f_law_all_newest [] (aCons (eVar 7) (aCons (eLst aNil) aNil))))))
  (sRet (eC (.bl false)))
  sNil)
  (sRet (eAndM (eCall f_law_changes [] (aCons (eCall f_drain [] (aCons (eVar 4) (aCons (eVar 7) aNil))) (aCons (eLst aNil) aNil))) (eAndM (eOp gEq (eVar 7) (eLst aNil)) (eCall f_law_state [] (aCons (eVar 4) (aCons (eVar 2) (aCons (eVar 6) aNil)))))))))))))))))
abbrev f_law : MF := fnOf 1 8 m_law
end K33

set_option Elab.async false
set_option linter.all false
set_option maxRecDepth 100000
set_option maxHeartbeats 1000000
namespace K33
open GL PySem
theorem row_eq : m_law_row = m_row := rfl
theorem pick_eq : m_law_pick = m_pick := rfl
theorem limE : lim = 100000 := rfl
theorem within_ok {S : Sto} {v : PV} {l : Nat} {xs ys : List Int} (hv : Hld S v (intsL xs)) (hl : S[l]? = some (.lst (intsL ys))) (he : xs.length = ys.length) (hb : ys.length < 1000)
    (h : ∀ i < ys.length, 0 ≤ xs.getD i 0 ∧ xs.getD i 0 < ys.getD i 0) : f_within [v, .loc l] S = .ok (.bl true) S := by
  refine fnOf_rt rfl ?_
  show m_within [some v, some (.loc l), none] S = _
  unfold m_within
  have hl' : Hld S (.loc l) (intsL ys) := .loc hl
  refine q_no (S1 := S) ?_ ?_
  · simp [toT_ap, eOp_ap, eB_ap, aCons_ap, eVar, fLen_h hv, fLen_h hl', he]
  have hi : iR1 (eB fLen (aCons (eVar 1) aNil)) [some v, some (.loc l), none] S = .ok ⟨rngL 0 ys.length, always⟩ S := by
    refine iR1_ok ?_ (by omega)
    simp [eB_ap, aCons_ap, eVar, fLen_h hl']
  obtain ⟨ls', S', e, ⟨a, rfl⟩, rfl⟩ := forGo_inv (chk := always) (g := gN 2) (body := (sIf (tNotM (toT (eChain gLe gLt (eC (.int 0)) (eOp gIx (eVar 0) (eVar 2)) (eOp gIx (eVar 1) (eVar 2)))))
    (sRet (eC (.bl false)))
    sNil)) (fun i ls S' => (∃ a, ls = [some v, some (.loc l), a]) ∧ S' = S) (rngL 0 ys.length) 0 [some v, some (.loc l), none] S (by
      rintro j x ls S' hx ⟨⟨a, rfl⟩, rfl⟩
      obtain ⟨i, hi, rfl⟩ := rng_mem (List.mem_of_getElem? hx)
      refine ⟨rfl, [some v, some (.loc l), some (.int i)], rfl, [some v, some (.loc l), some (.int i)], S', .inl ?_, ⟨_, rfl⟩, rfl⟩
      have g1 := gIx_h hv (intsL_get (ds := xs) (i := i) (by omega))
      have g2 := gIx_h hl' (intsL_get (ds := ys) (i := i) (by omega))
      obtain ⟨b1, b2⟩ := h i hi
      simp only [sIf_ap, tNotM_ap, toT_ap, eChain, eC_ap, bind_ok, eOp_ap, eVar, List.getElem?_cons_zero, List.getElem?_cons_succ, g1, g2, gLe_int, gLt_int, decide_eq_true b1, decide_eq_true b2, asB_bl, then_ok, Bool.not_true, Bool.false_eq_true, if_false, sNil_ap]) (fun _ _ _ => rfl) ⟨⟨_, rfl⟩, rfl⟩
  refine q_nx (sFor_nx hi e) ?_
  rfl
theorem rep_ok {S : Sto} {ls : Ls} {c : Int} {k : Nat} {mk : ME} (hk : k ≤ 1000) (hm : mk ls (S ++ [.lst [.int c]]) = .ok (.int k) (S ++ [.lst [.int c]])) :
    eOp gMul (eLst (aCons (eC (.int c)) aNil)) mk ls S = .ok (.loc (S.length + 1)) (S ++ [.lst [.int c], .lst (intsL (List.replicate k c))]) := by
  have h1 : (1 : Nat) ≤ lim := by decide
  have e1 : eLst (aCons (eC (.int c)) aNil) ls S = .ok (.loc S.length) (S ++ [.lst [.int c]]) := by simp [eLst, aCons_ap, h1]
  rw [eOp_ap, e1, bind_ok, hm, bind_ok]
  unfold gMul
  dsimp only
  rw [lstAt_of get_app]
  dsimp only
  have hf : (List.replicate k [PV.int c]).flatten = intsL (List.replicate k c) := by unfold intsL; simp
  rw [if_pos]
  · simp [hf]
  · simp [limE]; omega
def Fr (fr : List (List Int)) : Prop := fr.length = 4 ∧ ∀ r ∈ fr, r.length = 16 ∧ ∀ x ∈ r, 0 ≤ x ∧ x < 256
def tupsL (fr : List (List Int)) : List PV := (fr.map intsL).map .tup
def pagesL : List PV := [(.tup [(.int 0), (.int 7)]), (.tup [(.int 1), (.int 7)]), (.tup [(.int 2), (.int 7)]), (.tup [(.int 3), (.int 7)])]
def guestF (fr : List (List Int)) : List (Nm × PV) := [(n_frames, .tup (tupsL fr)), (n_pages, .tup pagesL), (n_starts, .tup [.int 0, .non]), (n_handlers, .tup [.int 60, .int 60]), (n_writes, .tup [])]
theorem repD {c : Int} {k i : Nat} (h : i < k) : (List.replicate k c).getD i 0 = c := by rw [List.getD_eq_getElem?_getD, List.getElem?_replicate_of_lt h]; rfl
theorem getD_mem {r : List Int} {i : Nat} (h : i < r.length) : r.getD i 0 ∈ r := by rw [List.getD_eq_getElem?_getD, List.getElem?_eq_getElem h]; exact List.getElem_mem h
theorem check_ok {S : Sto} {p : Nat} {fr : List (List Int)} (hp : S[p]? = some (.ins n_Guest (guestF fr))) (hf : Fr fr) : ∃ X, f_check_guest [.loc p] S = .ok .non (S ++ X) := by
  have tf : ∀ {S : Sto} {ls : Ls}, S[p]? = some (.ins n_Guest (guestF fr)) → ls[0]? = some (some (.loc p)) → eFld tab n_frames (eVar 0) ls S = .ok (.tup (tupsL fr)) S := fun h hl => eFld_ok hl h (by decide +kernel) rfl
  have tp : ∀ {S : Sto} {ls : Ls}, S[p]? = some (.ins n_Guest (guestF fr)) → ls[0]? = some (some (.loc p)) → eFld tab n_pages (eVar 0) ls S = .ok (.tup pagesL) S := fun h hl => eFld_ok hl h (by decide +kernel) rfl
  have ts : ∀ {S : Sto} {ls : Ls}, S[p]? = some (.ins n_Guest (guestF fr)) → ls[0]? = some (some (.loc p)) → eFld tab n_starts (eVar 0) ls S = .ok (.tup [.int 0, .non]) S := fun h hl => eFld_ok hl h (by decide +kernel) rfl
  have th : ∀ {S : Sto} {ls : Ls}, S[p]? = some (.ins n_Guest (guestF fr)) → ls[0]? = some (some (.loc p)) → eFld tab n_handlers (eVar 0) ls S = .ok (.tup [.int 60, .int 60]) S := fun h hl => eFld_ok hl h (by decide +kernel) rfl
  have tw : ∀ {S : Sto} {ls : Ls}, S[p]? = some (.ins n_Guest (guestF fr)) → ls[0]? = some (some (.loc p)) → eFld tab n_writes (eVar 0) ls S = .ok (.tup []) S := fun h hl => eFld_ok hl h (by decide +kernel) rfl
  have hlen : (tupsL fr).length = 4 := by simp [tupsL, hf.1]
  -- frames
  obtain ⟨X1, e1⟩ := all_ok (it := iSeq (eFld tab n_frames (eVar 0))) (v := 1) (ls := [some (.loc p), none, none, none, none, none]) (S := S) (te := (eCall f_within [] (aCons (eVar 1) (aCons (eOp gMul (eLst (aCons (eC w_NUMBERS) aNil)) (eC w_CELLS)) aNil))))
    (iSeq_h (tf hp rfl) .tup) (by simp) (fun _ _ _ => rfl) (by show (tupsL fr).length < lim; rw [hlen]; decide) (by
      intro x hx B
      obtain ⟨ir, hr0, rfl⟩ := List.mem_map.mp hx
      obtain ⟨r, hr, rfl⟩ := List.mem_map.mp hr0
      obtain ⟨h16, hb⟩ := hf.2 r hr
      refine ⟨[.lst [.int 256], .lst (intsL (List.replicate 16 256))], q_call (ws := [.tup (intsL r), .loc ((S ++ B).length + 1)]) (S1 := S ++ B ++ [.lst [.int 256], .lst (intsL (List.replicate 16 256))]) ?_ ?_⟩
      · rw [aCons_ap, eVar_of rfl, bind_ok, aCons_ap, rep_ok (k := 16) (by decide) rfl]; rfl
      · refine within_ok (ys := List.replicate 16 256) .tup ?_ (by rw [h16]; rfl) (by decide) fun i hi => ?_
        · rw [List.getElem?_append_right (by omega)]; simp
        · rw [List.length_replicate] at hi
          rw [repD hi]
          exact hb _ (getD_mem (by omega)))
  -- pages
  have hp1 := get_old (X := X1) hp
  obtain ⟨X2, e2⟩ := all_ok (it := iSeq (eFld tab n_pages (eVar 0))) (v := 2) (ls := [some (.loc p), none, none, none, none, none]) (S := S ++ X1) (te := (eCall f_within [] (aCons (eVar 2) (aCons (eLst (aCons (eC w_FRAMES) (aCons (eC (.int 8)) aNil))) aNil))))
    (iSeq_h (tp hp1 rfl) .tup) (by simp) (fun _ _ _ => rfl) (by decide) (by
      intro x hx B
      have : ∃ a : Int, x = .tup (intsL [a, 7]) ∧ 0 ≤ a ∧ a < 4 := by
        simp only [pagesL, List.mem_cons, List.not_mem_nil, or_false] at hx
        rcases hx with rfl | rfl | rfl | rfl
        · exact ⟨0, rfl, by decide, by decide⟩
        · exact ⟨1, rfl, by decide, by decide⟩
        · exact ⟨2, rfl, by decide, by decide⟩
        · exact ⟨3, rfl, by decide, by decide⟩
      obtain ⟨a, rfl, a0, a1⟩ := this
      refine ⟨[.lst (intsL [4, 8])], q_call (ws := [.tup (intsL [a, 7]), .loc (S ++ X1 ++ B).length]) (S1 := S ++ X1 ++ B ++ [.lst (intsL [4, 8])]) ?_ ?_⟩
      · have h2 : (2 : Nat) ≤ lim := by decide
        rw [aCons_ap, eVar_of rfl, bind_ok, aCons_ap]
        simp [eLst, aCons_ap, h2, intsL, List.append_assoc]
      · refine within_ok (ys := [4, 8]) .tup get_app rfl (by decide) fun i hi => ?_
        match i, hi with
        | 0, _ => exact ⟨a0, a1⟩
        | 1, _ => exact ⟨by show (0 : Int) ≤ 7; decide, by show (7 : Int) < 8; decide⟩)
  have hp2 := get_old (X := X2) hp1
  -- starts
  have e3 : eLc (iSeq (eFld tab n_starts (eVar 0))) (gN 4) (toT (eOp (isM true) (eVar 4) (eC .non))) (eVar 4) [4] [some (.loc p), none, none, none, none, none] (S ++ X1 ++ X2) = .ok (.loc (S ++ X1 ++ X2).length) (S ++ X1 ++ X2 ++ [.lst [.int 0]]) := by
    rw [eLc_pure (t := ⟨[.int 0, .non], wkOf (.tup [.int 0, .non]) [.int 0, .non]⟩) (fun x => !isNonP x) (fun x => x) (iSeq_h (ts hp2 rfl) .tup)]
    · rfl
    · intro x hx acc
      refine ⟨[some (.loc p), none, none, none, some x, none], rfl, ?_, fun _ => rfl⟩
      simp only [List.mem_cons, List.not_mem_nil, or_false] at hx
      rcases hx with rfl | rfl <;> rfl
    · intros; rfl
    · show (2 : Nat) < lim; decide
  obtain ⟨S3, hS3⟩ : ∃ S3 : Sto, S3 = S ++ X1 ++ X2 ++ [.lst [.int 0]] := ⟨_, rfl⟩
  obtain ⟨r3, hr3⟩ : ∃ r3 : Nat, r3 = (S ++ X1 ++ X2).length := ⟨_, rfl⟩
  have hp3 : S3[p]? = some (.ins n_Guest (guestF fr)) := by rw [hS3]; exact get_old hp2
  have hs3 : S3[r3]? = some (.lst (intsL [0])) := by rw [hS3, hr3]; exact get_app
  have e4 : tOrM (toT (eOp gNe (eB fLen (aCons (eFld tab n_starts (eVar 0)) aNil)) (eC w_PROCESSORS))) (tNotM (toT (eCall f_within [] (aCons (eVar 3) (aCons (eOp gMul (eLst (aCons (eC w_ADDRESSES) aNil)) (eB fLen (aCons (eVar 3) aNil))) aNil)))))
      [some (.loc p), none, none, some (.loc r3), none, none] S3 = .ok false (S3 ++ [.lst [.int 64], .lst (intsL (List.replicate 1 64))]) := by
    have w := within_ok (S := S3 ++ [.lst [.int 64], .lst (intsL (List.replicate 1 64))]) (v := .loc r3) (l := S3.length + 1) (xs := [0]) (ys := List.replicate 1 64) (.loc (get_old hs3)) (by rw [List.getElem?_append_right (by omega)]; simp) rfl (by decide) (fun i hi => by
      match i, hi with
      | 0, _ => exact ⟨by decide, by decide⟩)
    have hm : eB fLen (aCons (eVar 3) aNil) [some (.loc p), none, none, some (.loc r3), none, none] (S3 ++ [.lst [.int 64]]) = .ok (.int ((1 : Nat) : Int)) (S3 ++ [.lst [.int 64]]) := by
      rw [eB_ap, aCons_ap, eVar_of rfl]
      simp only [bind_ok, aNil_ap]
      exact fLen_h (.loc (get_old hs3))
    have c : (aCons (eVar 3) (aCons (eOp gMul (eLst (aCons (eC w_ADDRESSES) aNil)) (eB fLen (aCons (eVar 3) aNil))) aNil)) [some (.loc p), none, none, some (.loc r3), none, none] S3 = .ok [.loc r3, .loc (S3.length + 1)] (S3 ++ [.lst [.int 64], .lst (intsL (List.replicate 1 64))]) := by
      rw [aCons_ap, eVar_of rfl, bind_ok, aCons_ap, rep_ok (k := 1) (by decide) hm]; rfl
    rw [tOrM_ap, toT_ap, eOp_ap, eB_ap, aCons_ap, ts hp3 rfl]
    simp only [bind_ok, aNil_ap, fLen_tup, eC_ap, gNe_int, asB_bl, List.length_cons, List.length_nil]
    rw [tNotM_ap, toT_ap, q_call c w]
    rfl
  obtain ⟨S4, hS4⟩ : ∃ S4 : Sto, S4 = S3 ++ [.lst [.int 64], .lst (intsL (List.replicate 1 64))] := ⟨_, rfl⟩
  have hp4 : S4[p]? = some (.ins n_Guest (guestF fr)) := by rw [hS4]; exact get_old hp3
  have e5 : tNotM (toT (eCall f_within [] (aCons (eFld tab n_handlers (eVar 0)) (aCons (eOp gMul (eLst (aCons (eC w_ADDRESSES) aNil)) (eC w_PROCESSORS)) aNil))))
      [some (.loc p), none, none, some (.loc r3), none, none] S4 = .ok false (S4 ++ [.lst [.int 64], .lst (intsL (List.replicate 2 64))]) := by
    have w := within_ok (S := S4 ++ [.lst [.int 64], .lst (intsL (List.replicate 2 64))]) (v := .tup [.int 60, .int 60]) (l := S4.length + 1) (xs := [60, 60]) (ys := List.replicate 2 64) .tup (by rw [List.getElem?_append_right (by omega)]; simp) rfl (by decide) (fun i hi => by
      match i, hi with
      | 0, _ => exact ⟨by decide, by decide⟩
      | 1, _ => exact ⟨by decide, by decide⟩)
    have c : (aCons (eFld tab n_handlers (eVar 0)) (aCons (eOp gMul (eLst (aCons (eC w_ADDRESSES) aNil)) (eC w_PROCESSORS)) aNil)) [some (.loc p), none, none, some (.loc r3), none, none] S4 = .ok [.tup [.int 60, .int 60], .loc (S4.length + 1)] (S4 ++ [.lst [.int 64], .lst (intsL (List.replicate 2 64))]) := by
      rw [aCons_ap, th hp4 rfl, bind_ok, aCons_ap, rep_ok (k := 2) (by decide) rfl]; rfl
    rw [tNotM_ap, toT_ap, q_call c w]
    rfl
  obtain ⟨S5, hS5⟩ : ∃ S5 : Sto, S5 = S4 ++ [.lst [.int 64], .lst (intsL (List.replicate 2 64))] := ⟨_, rfl⟩
  have hp5 : S5[p]? = some (.ins n_Guest (guestF fr)) := by rw [hS5]; exact get_old hp4
  obtain ⟨X6, e6⟩ := all_ok (it := iSeq (eFld tab n_writes (eVar 0))) (v := 5) (ls := [some (.loc p), none, none, some (.loc r3), none, none]) (S := S5) (te := (eCall f_within [] (aCons (eVar 5) (aCons (eLst (aCons (eC w_FRAMES) (aCons (eC w_CELLS) (aCons (eC w_NUMBERS) aNil)))) aNil))))
    (iSeq_h (tw hp5 rfl) .tup) (by simp) (fun _ _ _ => rfl) (by decide) (by intro x hx; cases hx)
  refine ⟨X1 ++ X2 ++ [.lst [.int 0]] ++ [.lst [.int 64], .lst (intsL (List.replicate 1 64))] ++ [.lst [.int 64], .lst (intsL (List.replicate 2 64))] ++ X6, fnOf_nx (ls := [some (.loc p), none, none, some (.loc r3), none, none]) rfl ?_⟩
  show m_check_guest [some (.loc p), none, none, none, none, none] S = _
  unfold m_check_guest
  refine q_no (S1 := S ++ X1) ?_ ?_
  · rw [tOrM_ap, toT_ap, eOp_ap, eB_ap, aCons_ap, tf hp rfl]
    simp only [bind_ok, aNil_ap, fLen_tup, eC_ap, hlen, gNe_int, asB_bl]
    rw [tNotM_ap, toT_ap, e1]
    rfl
  refine q_no (S1 := S ++ X1 ++ X2) ?_ ?_
  · rw [tOrM_ap, toT_ap, eOp_ap, eB_ap, aCons_ap, tp hp1 rfl]
    simp only [bind_ok, aNil_ap, fLen_tup, eC_ap, gNe_int, asB_bl, pagesL, List.length_cons, List.length_nil]
    rw [tNotM_ap, toT_ap, e2]
    rfl
  refine q_set e3 ?_
  rw [← hS3, ← hr3]
  refine q_no e4 ?_
  rw [← hS4]
  refine q_no e5 ?_
  rw [← hS5, sIf_ap, tOrM_ap, toT_ap, eOp_ap, eB_ap, aCons_ap, List.set_cons_succ, List.set_cons_succ, List.set_cons_succ, List.set_cons_zero, tw hp5 rfl]
  simp only [bind_ok, aNil_ap, fLen_tup, eC_ap, gGt_int, asB_bl, List.length_nil]
  rw [tNotM_ap, toT_ap, e6]
  rw [hS5, hS4, hS3]
  simp only [List.append_assoc]
  rfl

/-! ### making -/
def FrAt (S : Sto) (l a : Nat) (fr : List (List Int)) : Prop := S[l]? = some (.lst (locsL a fr.length)) ∧ ∀ (i : Nat) (r : List Int), fr[i]? = some r → S[a + i]? = some (.lst (intsL r))
theorem FrAt.old {S X : Sto} {l a : Nat} {fr : List (List Int)} (h : FrAt S l a fr) : FrAt (S ++ X) l a fr := ⟨get_old h.1, fun i r q => get_old (h.2 i r q)⟩
theorem FrAt.hld {S : Sto} {l a : Nat} {fr : List (List Int)} (h : FrAt S l a fr) (j : Nat) (x : PV) (r : List PV) (hx : (locsL a fr.length)[j]? = some x) (hr : (fr.map intsL)[j]? = some r) : Hld S x r := by
  rw [List.getElem?_map] at hr
  obtain ⟨q, hq, rfl⟩ := Option.map_eq_some_iff.mp hr
  have hj := (List.getElem?_eq_some_iff.mp hq).1
  rw [locsL_get hj] at hx
  cases hx
  exact .loc (h.2 j q hq)
theorem tup_h {S : Sto} {rows : List (List PV)} (j : Nat) (x : PV) (r : List PV) (hx : (rows.map PV.tup)[j]? = some x) (hr : rows[j]? = some r) : Hld S x r := by
  rw [List.getElem?_map, hr] at hx
  cases hx
  exact .tup
theorem guest_ok {A : Sto} {l a : Nat} {fr : List (List Int)} (h : FrAt A l a fr) (hf : Fr fr) :
    ∃ X, f_Guest_init [.loc A.length, .loc l, .tup pagesL, .tup [.int 0, .non], .tup [.int 60, .int 60], .tup []] (A ++ [.ins n_Guest []]) = .ok .non (A ++ .ins n_Guest (guestF fr) :: X) := by
  obtain ⟨X, ec⟩ := check_ok (S := A ++ .ins n_Guest (guestF fr) :: [.lst (tupsL fr), .lst pagesL, .lst []]) (p := A.length) get_mid hf
  refine ⟨[.lst (tupsL fr), .lst pagesL, .lst []] ++ X, fnOf_nx (ls := [some (.loc A.length), some (.loc l), some (.tup pagesL), some (.tup [.int 0, .non]), some (.tup [.int 60, .int 60]), some (.tup []), none, none, none]) rfl ?_⟩
  show m_Guest_init [some (.loc A.length), some (.loc l), some (.tup pagesL), some (.tup [.int 0, .non]), some (.tup [.int 60, .int 60]), some (.tup []), none, none, none] (A ++ .ins n_Guest [] :: []) = _
  unfold m_Guest_init
  have h4 : fr.length = 4 := hf.1
  refine q_fld (tuples_ok (t := ⟨locsL a fr.length, wkOf (.loc l) (locsL a fr.length)⟩) (rows := fr.map intsL) (iSeq_h (eVar_of rfl) (.loc (get_old h.1))) (by simp) (fun i acc => wk_ok (i := i) (.loc (get_old (get_old h.1)))) (by rw [List.length_map, h4]; decide) (by simp) h.old.hld)
    (B' := [.lst (tupsL fr)]) (by rw [List.append_assoc]; rfl) rfl (by decide +kernel) (Nat.le_of_ble_eq_true rfl) ?_
  refine q_fld (tuples_ok (t := ⟨pagesL, wkOf (.tup pagesL) pagesL⟩) (rows := [[.int 0, .int 7], [.int 1, .int 7], [.int 2, .int 7], [.int 3, .int 7]]) (iSeq_h (eVar_of rfl) .tup) (by simp) (fun i acc => rfl) (by decide) (by rfl) (tup_h (rows := [[.int 0, .int 7], [.int 1, .int 7], [.int 2, .int 7], [.int 3, .int 7]])))
    (B' := [.lst (tupsL fr), .lst pagesL]) (by rw [List.append_assoc]; rfl) rfl (by decide +kernel) (Nat.le_of_ble_eq_true rfl) ?_
  refine q_fld (B' := [.lst (tupsL fr), .lst pagesL]) rfl rfl rfl (by decide +kernel) (Nat.le_of_ble_eq_true rfl) ?_
  refine q_fld (B' := [.lst (tupsL fr), .lst pagesL]) rfl rfl rfl (by decide +kernel) (Nat.le_of_ble_eq_true rfl) ?_
  refine q_fld (tuples_ok (t := ⟨[], wkOf (.tup []) []⟩) (rows := []) (iSeq_h (eVar_of rfl) .tup) (by simp) (fun i acc => rfl) (by decide) (by rfl) (tup_h (rows := [])))
    (B' := [.lst (tupsL fr), .lst pagesL, .lst []]) (by rw [List.append_assoc]; rfl) rfl (by decide +kernel) (Nat.le_of_ble_eq_true rfl) ?_
  have : eCall f_check_guest [] (aCons (eVar 0) aNil) [some (.loc A.length), some (.loc l), some (.tup pagesL), some (.tup [.int 0, .non]), some (.tup [.int 60, .int 60]), some (.tup []), none, none, none] (A ++ .ins n_Guest (guestF fr) :: [.lst (tupsL fr), .lst pagesL, .lst []]) = .ok .non (A ++ .ins n_Guest (guestF fr) :: [.lst (tupsL fr), .lst pagesL, .lst []] ++ X) := q_call rfl ec
  rw [sExpr_ap]
  erw [this]
  simp only [then_ok, List.append_assoc, List.cons_append]
def procF (pc : PV) (r : Nat) (hal : Bool) : List (Nm × PV) := [(n_pc, pc), (n_regs, .loc r), (n_zero, .int 0), (n_less, .int 0), (n_level, .int 1), (n_enabled, .bl false), (n_pending, .bl false), (n_saved, .tup [.int 0, .int 1, .bl false]), (n_halted, .bl hal)]
theorem proc_ok {B : Sto} {st : PV} (hs : st = .non ∨ st = .int 0) : f_Processor_init [.loc B.length, st] (B ++ [.ins n_Processor []]) = .ok .non (B ++ .ins n_Processor (procF (.int 0) (B.length + 2) (isNonP st)) :: [.lst (intsL [0]), .lst (intsL [0, 0, 0, 0])]) := by
  refine fnOf_nx (ls := [some (.loc B.length), some st]) rfl ?_
  show m_Processor_init [some (.loc B.length), some st] (B ++ .ins n_Processor [] :: []) = _
  unfold m_Processor_init
  refine q_fld (B' := []) rfl rfl rfl (by decide +kernel) (Nat.le_of_ble_eq_true rfl) ?_
  have e : sIf (toT (eOp (isM true) (eVar 1) (eC .non))) (sFldM tab n_pc (eVar 0) (eVar 1)) sNil [some (.loc B.length), some st] (B ++ .ins n_Processor [(n_pc, .int 0)] :: []) = .nx [some (.loc B.length), some st] (B ++ .ins n_Processor [(n_pc, .int 0)] :: []) := by
    rcases hs with rfl | rfl
    · rfl
    · simp only [sIf_ap, toT_ap, eOp_ap, eVar, List.getElem?_cons_zero, List.getElem?_cons_succ, bind_ok, eC_ap, isM, isNonP, if_true, Bool.not_false, asB_bl, then_ok]
      exact fld_ap (B' := []) rfl rfl rfl (by decide +kernel) (Nat.le_of_ble_eq_true rfl)
  refine q_nx e ?_
  refine q_fld (B' := [.lst (intsL [0]), .lst (intsL [0, 0, 0, 0])]) (rep_ok (k := 4) (by decide) rfl) (by rw [List.append_assoc]; rfl) rfl (by decide +kernel) (Nat.le_of_ble_eq_true rfl) ?_
  refine q_fld (B' := [.lst (intsL [0]), .lst (intsL [0, 0, 0, 0])]) rfl rfl rfl (by decide +kernel) (Nat.le_of_ble_eq_true rfl) ?_
  refine q_fld (B' := [.lst (intsL [0]), .lst (intsL [0, 0, 0, 0])]) rfl rfl rfl (by decide +kernel) (Nat.le_of_ble_eq_true rfl) ?_
  refine q_fld (B' := [.lst (intsL [0]), .lst (intsL [0, 0, 0, 0])]) rfl rfl rfl (by decide +kernel) (Nat.le_of_ble_eq_true rfl) ?_
  refine q_fld (B' := [.lst (intsL [0]), .lst (intsL [0, 0, 0, 0])]) rfl rfl rfl (by decide +kernel) (Nat.le_of_ble_eq_true rfl) ?_
  refine q_fld (B' := [.lst (intsL [0]), .lst (intsL [0, 0, 0, 0])]) rfl rfl rfl (by decide +kernel) (Nat.le_of_ble_eq_true rfl) ?_
  refine q_fld (B' := [.lst (intsL [0]), .lst (intsL [0, 0, 0, 0])]) rfl rfl rfl (by decide +kernel) (Nat.le_of_ble_eq_true rfl) ?_
  rw [fld_ap (y := .bl (isNonP st)) (B' := [.lst (intsL [0]), .lst (intsL [0, 0, 0, 0])]) rfl rfl rfl (by decide +kernel) (Nat.le_of_ble_eq_true rfl)]
  simp [procF, putN]
end K33

set_option Elab.async false
set_option linter.all false
set_option maxRecDepth 100000
set_option maxHeartbeats 1000000
namespace K33
open GL PySem
theorem get_at {A L : Sto} {k : Nat} : (A ++ L)[A.length + k]? = L[k]? := by rw [List.getElem?_append_right (by omega)]; congr 1; omega
theorem list_of {m : ME} {ls : Ls} {S S1 : Sto} {xs : List PV} (h : m ls S = .ok (.tup xs) S1) : eB fList (aCons m aNil) ls S = .ok (.loc S1.length) (S1 ++ [.lst xs]) := by
  rw [eB_ap, aCons_ap, h]; rfl
theorem procs_ok {B : Sto} {it : MI} {ls : Ls} {S : Sto} (hl : 3 < ls.length) (hi : it ls S = .ok ⟨[.int 0, .non], always⟩ B) :
    eLc it (gN 3) tYesM (eMake n_Processor f_Processor_init [] (aCons (eVar 3) aNil)) [3] ls S = .ok (.loc B.length) (B ++ [.lst [.loc (B.length + 1), .loc (B.length + 4)],
      OB.ins n_Processor (procF (.int 0) (B.length + 3) false), OB.lst (intsL [0]), OB.lst (intsL [0, 0, 0, 0]), OB.ins n_Processor (procF (.int 0) (B.length + 6) true), OB.lst (intsL [0]), OB.lst (intsL [0, 0, 0, 0])]) := by
  unfold eLc
  rw [hi, bind_ok]
  dsimp only
  have w : ∀ x : PV, gN 3 x (wipeL ls [3]) = some (ls.set 3 (some x)) := fun x => by show some ((ls.set 3 none).set 3 _) = _; rw [List.set_set]
  have g : ∀ x : PV, (ls.set 3 (some x))[3]? = some (some x) := fun x => List.getElem?_set_self hl
  have p1 := proc_ok (B := B ++ [OB.lst []]) (st := .int 0) (.inr rfl)
  have e1 : eMake n_Processor f_Processor_init [] (aCons (eVar 3) aNil) (ls.set 3 (some (.int 0))) (B ++ [OB.lst []]) = .ok (.loc (B ++ [OB.lst []]).length) (B ++ OB.lst [] :: [OB.ins n_Processor (procF (.int 0) (B.length + 3) false), OB.lst (intsL [0]), OB.lst (intsL [0, 0, 0, 0])]) := by
    refine eMake_ok (ws := [.int 0]) (by rw [aCons_ap, eVar_of (g _)]; rfl) ?_
    rw [List.append_nil, p1]
    simp [isNonP]
  rw [lcGo_cons (acc := []) rfl (w _) rfl e1 get_mid (by decide), set_mid]
  have p2 := proc_ok (B := B ++ [OB.lst [.loc (B.length + 1)], OB.ins n_Processor (procF (.int 0) (B.length + 3) false), OB.lst (intsL [0]), OB.lst (intsL [0, 0, 0, 0])]) (st := .non) (.inl rfl)
  have e2 : eMake n_Processor f_Processor_init [] (aCons (eVar 3) aNil) (ls.set 3 (some .non)) (B ++ [OB.lst [.loc (B.length + 1)], OB.ins n_Processor (procF (.int 0) (B.length + 3) false), OB.lst (intsL [0]), OB.lst (intsL [0, 0, 0, 0])])
      = .ok (.loc (B.length + 4)) (B ++ OB.lst [.loc (B.length + 1)] :: [OB.ins n_Processor (procF (.int 0) (B.length + 3) false), OB.lst (intsL [0]), OB.lst (intsL [0, 0, 0, 0]), OB.ins n_Processor (procF (.int 0) (B.length + 6) true), OB.lst (intsL [0]), OB.lst (intsL [0, 0, 0, 0])]) := by
    have := eMake_ok (C := n_Processor) (fn := f_Processor_init) (d := []) (ls := ls.set 3 (some .non)) (args := aCons (eVar 3) aNil) (ws := [.non]) (by rw [aCons_ap, eVar_of (g _)]; rfl) (by rw [List.append_nil]; exact p2)
    rw [this]
    simp [isNonP]
  have ee : B ++ OB.lst ([] ++ [.loc (B ++ [OB.lst []]).length]) :: [OB.ins n_Processor (procF (.int 0) (B.length + 3) false), OB.lst (intsL [0]), OB.lst (intsL [0, 0, 0, 0])]
      = B ++ [OB.lst [.loc (B.length + 1)], OB.ins n_Processor (procF (.int 0) (B.length + 3) false), OB.lst (intsL [0]), OB.lst (intsL [0, 0, 0, 0])] := by simp
  rw [ee, lcGo_cons (acc := [.loc (B.length + 1)]) rfl (w _) rfl e2 get_mid (by show (1 : Nat) < lim; decide), set_mid, lcGo_nil rfl]
  simp
def machF (g nf np nq : Nat) : List (Nm × PV) := [(n_guest, .loc g), (n_frames, .loc nf), (n_pages, .loc np), (n_processors, .loc nq), (n_written, .int 0)]
def Off (a j : Nat) : Prop := j < a ∨ a + 4 ≤ j
structure MachAt (S : Sto) (m a : Nat) (fr : List (List Int)) (g nf np nq q0 q1 r0 r1 : Nat) : Prop where
  me : S[m]? = some (.ins n_Machine (machF g nf np nq))
  fr : FrAt S nf a fr
  pg : S[np]? = some (.lst pagesL)
  pq : S[nq]? = some (.lst [.loc q0, .loc q1])
  p0 : S[q0]? = some (OB.ins n_Processor (procF (.int 0) r0 false))
  g0 : S[r0]? = some (.lst (intsL [0, 0, 0, 0]))
  p1 : S[q1]? = some (OB.ins n_Processor (procF (.int 0) r1 true))
  g1 : S[r1]? = some (.lst (intsL [0, 0, 0, 0]))
  lo : m ≤ nf ∧ m ≤ np ∧ m ≤ nq ∧ m ≤ q0 ∧ m ≤ q1 ∧ m ≤ r0 ∧ m ≤ r1 ∧ m ≤ a
  off : Off a m ∧ Off a nf ∧ Off a np ∧ Off a nq ∧ Off a q0 ∧ Off a q1 ∧ Off a r0 ∧ Off a r1
def Mach (S : Sto) (m a : Nat) (fr : List (List Int)) : Prop := ∃ g nf np nq q0 q1 r0 r1, MachAt S m a fr g nf np nq q0 q1 r0 r1
theorem MachAt.old {S X : Sto} {m a : Nat} {fr : List (List Int)} {g nf np nq q0 q1 r0 r1 : Nat} (h : MachAt S m a fr g nf np nq q0 q1 r0 r1) : MachAt (S ++ X) m a fr g nf np nq q0 q1 r0 r1 :=
  ⟨get_old h.me, h.fr.old, get_old h.pg, get_old h.pq, get_old h.p0, get_old h.g0, get_old h.p1, get_old h.g1, h.lo, h.off⟩
theorem Mach.old {S X : Sto} {m a : Nat} {fr : List (List Int)} (h : Mach S m a fr) : Mach (S ++ X) m a fr := by
  obtain ⟨g, nf, np, nq, q0, q1, r0, r1, h⟩ := h
  exact ⟨g, nf, np, nq, q0, q1, r0, r1, h.old⟩
/-- a store that has changed at the rows alone -/
theorem Mach.upd {S S' : Sto} {m a : Nat} {fr fr' : List (List Int)} (h : Mach S m a fr) (he : fr'.length = fr.length) (ho : ∀ j, m ≤ j → Off a j → S'[j]? = S[j]? ∨ S[j]? = none) (hr : ∀ (i : Nat) (r : List Int), fr'[i]? = some r → S'[a + i]? = some (.lst (intsL r))) : Mach S' m a fr' := by
  obtain ⟨g, nf, np, nq, q0, q1, r0, r1, h⟩ := h
  have key : ∀ {j : Nat} {o : OB}, m ≤ j → Off a j → S[j]? = some o → S'[j]? = some o := by
    intro j o h0 h1 h2
    rcases ho j h0 h1 with e | e
    · rw [e]; exact h2
    · rw [e] at h2; cases h2
  obtain ⟨o1, o2, o3, o4, o5, o6, o7, o8⟩ := h.off
  obtain ⟨l2, l3, l4, l5, l6, l7, l8, l9⟩ := h.lo
  exact ⟨g, nf, np, nq, q0, q1, r0, r1, ⟨key (Nat.le_refl _) o1 h.me, ⟨by rw [he]; exact key l2 o2 h.fr.1, hr⟩, key l3 o3 h.pg, key l4 o4 h.pq, key l5 o5 h.p0, key l7 o7 h.g0, key l6 o6 h.p1, key l8 o8 h.g1, h.lo, h.off⟩⟩
theorem four {α : Type} {l : List α} (h : l.length = 4) : ∃ a b c d, l = [a, b, c, d] := by
  match l, h with
  | [a, b, c, d], _ => exact ⟨a, b, c, d, rfl⟩
theorem mach_init {A : Sto} {g : Nat} {fr : List (List Int)} (hg : A[g]? = some (.ins n_Guest (guestF fr))) (hf : Fr fr) :
    ∃ X, f_Machine_init [.loc A.length, .loc g] (A ++ [.ins n_Machine []]) = .ok .non (A ++ X) ∧ Mach (A ++ X) A.length (A.length + 2) fr := by
  obtain ⟨a, b, c, d, rfl⟩ := four hf.1
  let B : Sto := [.lst (locsL (A.length + 2) 4), .lst (intsL a), .lst (intsL b), .lst (intsL c), .lst (intsL d)]
  let Q : Sto := [.lst [.loc (A.length + 8), .loc (A.length + 11)], .ins n_Processor (procF (.int 0) (A.length + 10) false), .lst (intsL [0]), .lst (intsL [0, 0, 0, 0]), .ins n_Processor (procF (.int 0) (A.length + 13) true), .lst (intsL [0]), .lst (intsL [0, 0, 0, 0])]
  refine ⟨.ins n_Machine (machF g (A.length + 1) (A.length + 6) (A.length + 7)) :: (B ++ [.lst pagesL] ++ Q), fnOf_nx (ls := [some (.loc A.length), some (.loc g), none, none]) rfl ?_, ?_⟩
  · show m_Machine_init [some (.loc A.length), some (.loc g), none, none] (A ++ .ins n_Machine [] :: []) = _
    unfold m_Machine_init
    have gf : ∀ {X : Sto} {f : Nm} {w : PV}, tab n_Guest f = true → lookN f (guestF [a, b, c, d]) = some w → eFld tab f (eVar 1) [some (.loc A.length), some (.loc g), none, none] (A ++ X) = .ok w (A ++ X) := fun ht hl => eFld_ok rfl (get_old hg) ht hl
    refine q_fld (B' := []) rfl rfl rfl (by decide +kernel) (Nat.le_of_ble_eq_true rfl) ?_
    refine q_fld (copies_ok (t := ⟨tupsL [a, b, c, d], wkOf (.tup (tupsL [a, b, c, d])) (tupsL [a, b, c, d])⟩) (rows := [a, b, c, d].map intsL) (iSeq_h (gf (by decide +kernel) rfl) .tup) (by simp) (fun _ _ _ => rfl) (by simp; decide) (by rfl) tup_h)
      (B' := B) (by simp [B]) rfl (by decide +kernel) (Nat.le_of_ble_eq_true rfl) ?_
    refine q_fld (B' := B ++ [.lst pagesL]) (list_of (gf (w := .tup pagesL) (by decide +kernel) rfl)) (by simp [B]) rfl (by decide +kernel) (Nat.le_of_ble_eq_true rfl) ?_
    refine q_fld (procs_ok (by simp) (iSeq_h (gf (w := .tup [.int 0, .non]) (by decide +kernel) rfl) .tup)) (B' := B ++ [.lst pagesL] ++ Q) (by simp [B, Q]) rfl (by decide +kernel) (Nat.le_of_ble_eq_true rfl) ?_
    rw [fld_ap (B' := B ++ [.lst pagesL] ++ Q) rfl rfl rfl (by decide +kernel) (Nat.le_of_ble_eq_true rfl)]
    simp [machF, putN, B]
  · refine ⟨g, A.length + 1, A.length + 6, A.length + 7, A.length + 8, A.length + 11, A.length + 10, A.length + 13, ⟨?_, ⟨?_, ?_⟩, ?_, ?_, ?_, ?_, ?_, ?_, ?_, ?_⟩⟩
    · exact get_at (k := 0)
    · exact get_at (k := 1)
    · intro i r hr
      rw [Nat.add_assoc, get_at]
      match i, hr with
      | 0, hr => cases hr; rfl
      | 1, hr => cases hr; rfl
      | 2, hr => cases hr; rfl
      | 3, hr => cases hr; rfl
    · exact get_at (k := 6)
    · exact get_at (k := 7)
    · exact get_at (k := 8)
    · exact get_at (k := 10)
    · exact get_at (k := 11)
    · exact get_at (k := 13)
    · omega
    · simp only [Off]; omega
end K33

set_option Elab.async false
set_option linter.all false
set_option maxRecDepth 100000
set_option maxHeartbeats 1000000
namespace K33
open GL PySem
theorem eMeth_ok {S S1 : Sto} {C m : Nm} {fn : MF} {d ws : List PV} {o : ME} {args : MA} {ls : Ls} {p : Nat} {fs : List (Nm × PV)} {r : Out PV} (ho : o ls S = .ok (.loc p) S) (hp : S[p]? = some (.ins C fs)) (hn : lookN m fs = none) (ha : args ls S = .ok ws S1)
    (h : fn (.loc p :: (ws ++ d)) S1 = r) : eMeth C m fn d o args ls S = r := by
  unfold eMeth
  rw [ho, bind_ok]
  have : insAt S (.loc p) = some (p, C, fs) := by unfold insAt; simp only [hp]
  rw [this]
  dsimp only
  rw [if_pos rfl, hn]
  dsimp only
  rw [ha, bind_ok]
  exact h
def pk (hal : Bool) : PV := .tup [.int 0, .tup (intsL [0, 0, 0, 0]), .tup [.int 0, .int 0], .int 1, .bl false, .bl false, .tup [.int 0, .int 1, .bl false], .bl hal]
theorem prockey_ok {S : Sto} {q r : Nat} {hal : Bool} (hq : S[q]? = some (.ins n_Processor (procF (.int 0) r hal))) (hr : S[r]? = some (.lst (intsL [0, 0, 0, 0]))) : f_Processor_key [.loc q] S = .ok (pk hal) S := by
  refine fnOf_rt rfl ?_
  show m_Processor_key [some (.loc q), none] S = _
  have gf : ∀ {f : Nm} {w : PV} {a : Option PV}, tab n_Processor f = true → lookN f (procF (.int 0) r hal) = some w → eFld tab f (eVar 0) [some (.loc q), a] S = .ok w S := fun ht hl => eFld_ok rfl hq ht hl
  unfold m_Processor_key
  refine q_set (w := .tup [.int 0, .int 0]) (S1 := S) ?_ ?_
  · have h2 : (2 : Nat) ≤ lim := by decide
    simp only [eTup, aCons_ap, gf (w := .int 0) (f := n_zero) (by decide +kernel) rfl, gf (w := .int 0) (f := n_less) (by decide +kernel) rfl, bind_ok, aNil_ap]
    exact if_pos h2
  · rw [sRet_ap]
    have hreg : eB fTuple (aCons (eFld tab n_regs (eVar 0)) aNil) [some (.loc q), some (.tup [.int 0, .int 0])] S = .ok (.tup (intsL [0, 0, 0, 0])) S := by
      rw [eB_ap, aCons_ap, gf (w := .loc r) (by decide +kernel) rfl]
      simp only [bind_ok, aNil_ap]
      exact fTuple_h (.loc hr)
    simp only [List.set_cons_zero, List.set_cons_succ, eTup, aCons_ap, gf (w := .int 0) (f := n_pc) (by decide +kernel) rfl, hreg, eVar, List.getElem?_cons_zero, List.getElem?_cons_succ,
      gf (w := .int 1) (f := n_level) (by decide +kernel) rfl, gf (w := .bl false) (f := n_enabled) (by decide +kernel) rfl, gf (w := .bl false) (f := n_pending) (by decide +kernel) rfl,
      gf (w := .tup [.int 0, .int 1, .bl false]) (f := n_saved) (by decide +kernel) rfl, gf (w := .bl hal) (f := n_halted) (by decide +kernel) rfl, bind_ok, aNil_ap, then_ok]
    rfl
def restL : List PV := [.tup pagesL, .tup [pk false, pk true], .int 0]
def keyV (fr : List (List Int)) : PV := .tup (.tup (tupsL fr) :: restL)
def Fr2 (fr : List (List Int)) : Prop := fr.length = 4 ∧ ∀ r ∈ fr, r.length = 16
theorem key_ok {S : Sto} {m a : Nat} {fr : List (List Int)} (h : Mach S m a fr) (hf : Fr2 fr) : ∃ X, f_Machine_key [.loc m] S = .ok (keyV fr) (S ++ X) := by
  obtain ⟨g, nf, np, nq, q0, q1, r0, r1, M⟩ := h
  obtain ⟨S1, hS1⟩ : ∃ S1 : Sto, S1 = S ++ [.lst (tupsL fr)] := ⟨_, rfl⟩
  have M1 : MachAt S1 m a fr g nf np nq q0 q1 r0 r1 := by rw [hS1]; exact M.old
  refine ⟨[.lst (tupsL fr), .lst [pk false, pk true]], fnOf_rt rfl ?_⟩
  show m_Machine_key [some (.loc m), none, none, none] S = _
  unfold m_Machine_key
  have gf : ∀ {S : Sto} {ls : Ls} {f : Nm} {w : PV}, MachAt S m a fr g nf np nq q0 q1 r0 r1 → ls[0]? = some (some (.loc m)) → tab n_Machine f = true → lookN f (machF g nf np nq) = some w → eFld tab f (eVar 0) ls S = .ok w S := fun M h0 ht hl => eFld_ok h0 M.me ht hl
  refine q_set (tuples_ok (t := ⟨locsL a fr.length, wkOf (.loc nf) (locsL a fr.length)⟩) (rows := fr.map intsL) (iSeq_h (gf M rfl (by decide +kernel) rfl) (.loc M.fr.1)) (by simp) (fun i acc => wk_ok (i := i) (.loc (get_old M.fr.1))) (by rw [List.length_map, hf.1]; decide) (by simp) M.fr.hld) ?_
  show sRet _ [some (.loc m), some (.tup (tupsL fr)), none, none] (S ++ [.lst (tupsL fr)]) = _
  rw [← hS1, sRet_ap]
  have hpg : eB fTuple (aCons (eFld tab n_pages (eVar 0)) aNil) [some (.loc m), some (.tup (tupsL fr)), none, none] S1 = .ok (.tup pagesL) S1 := by
    rw [eB_ap, aCons_ap, gf M1 rfl (w := .loc np) (by decide +kernel) rfl]
    simp only [bind_ok, aNil_ap]
    exact fTuple_h (.loc M1.pg)
  have hpr : eB fTuple (aCons (eLc (iSeq (eFld tab n_processors (eVar 0))) (gN 3) tYesM (eMeth n_Processor n_key f_Processor_key [] (eVar 3) aNil) [3]) aNil) [some (.loc m), some (.tup (tupsL fr)), none, none] S1 = .ok (.tup [pk false, pk true]) (S1 ++ [.lst [pk false, pk true]]) := by
    rw [eB_ap, aCons_ap]
    unfold eLc
    rw [iSeq_h (gf M1 rfl (w := .loc nq) (by decide +kernel) rfl) (.loc M1.pq), bind_ok]
    dsimp only
    have ch : ∀ {X : Sto} {i : Nat}, wkOf (.loc nq) [.loc q0, .loc q1] i (S1 ++ X) = true := fun {X i} => wk_ok (i := i) (.loc (get_old M1.pq))
    have k1 : eMeth n_Processor n_key f_Processor_key [] (eVar 3) aNil [some (.loc m), some (.tup (tupsL fr)), none, some (.loc q0)] (S1 ++ [.lst []]) = .ok (pk false) (S1 ++ [.lst []]) :=
      eMeth_ok rfl (get_old M1.p0) rfl rfl (prockey_ok (get_old M1.p0) (get_old M1.g0))
    have k2 : eMeth n_Processor n_key f_Processor_key [] (eVar 3) aNil [some (.loc m), some (.tup (tupsL fr)), none, some (.loc q1)] (S1 ++ [.lst [pk false]]) = .ok (pk true) (S1 ++ [.lst [pk false]]) :=
      eMeth_ok rfl (get_old M1.p1) rfl rfl (prockey_ok (get_old M1.p1) (get_old M1.g1))
    rw [lcGo_cons (acc := []) ch rfl rfl k1 get_app (by decide), set_app, List.nil_append]
    rw [lcGo_cons (acc := [pk false]) ch rfl rfl k2 get_app (by decide), set_app, List.singleton_append, lcGo_nil ch]
    simp only [bind_ok, aNil_ap]
    exact fTuple_h (.loc get_app)
  have hw : eFld tab n_written (eVar 0) [some (.loc m), some (.tup (tupsL fr)), none, none] (S1 ++ [.lst [pk false, pk true]]) = .ok (.int 0) (S1 ++ [.lst [pk false, pk true]]) := gf M1.old rfl (by decide +kernel) rfl
  simp only [eTup, aCons_ap, eVar, List.getElem?_cons_zero, List.getElem?_cons_succ, bind_ok, hpg, hpr, hw, aNil_ap, then_ok]
  rw [hS1, List.append_assoc]
  rfl
theorem optInts {S : Sto} {f : Nat} : ∀ (r : List Int), optAll (datP S (f + 1)) (intsL r) = some (r.map .int)
  | [] => rfl
  | x :: r => by
    show optAll (datP S (f + 1)) (.int x :: intsL r) = _
    unfold optAll
    rw [optInts r]; rfl
theorem datP_tup {S : Sto} {f : Nat} {xs : List PV} : datP S (f + 1) (.tup xs) = (optAll (datP S f) xs).map .tuple := rfl
theorem optAll_cons {α β : Type} {f : α → Option β} {x : α} {r : List α} {d : β} {ds : List β} (h1 : f x = some d) (h2 : optAll f r = some ds) : optAll f (x :: r) = some (d :: ds) := by
  unfold optAll
  rw [h1, h2]
theorem optTups {S : Sto} {f : Nat} : ∀ (fr : List (List Int)), optAll (datP S (f + 2)) (tupsL fr) = some (fr.map fun r => .tuple (r.map .int))
  | [] => rfl
  | x :: r => optAll_cons (by rw [datP_tup, optInts]; rfl) (optTups r)
theorem key_dat {S : Sto} {fr : List (List Int)} : ∃ d, datP S 60 (keyV fr) = some d := by
  have h1 : ∃ d, datP S 59 (.tup (tupsL fr)) = some d := by rw [datP_tup, optTups]; exact ⟨_, rfl⟩
  have h2 : ∃ d, datP S 59 (.tup pagesL) = some d := ⟨_, rfl⟩
  have h3 : ∃ d, datP S 59 (.tup [pk false, pk true]) = some d := ⟨_, rfl⟩
  have h4 : ∃ d, datP S 59 (.int 0) = some d := ⟨_, rfl⟩
  obtain ⟨d1, h1⟩ := h1
  obtain ⟨d2, h2⟩ := h2
  obtain ⟨d3, h3⟩ := h3
  obtain ⟨d4, h4⟩ := h4
  unfold keyV restL
  rw [datP_tup, optAll_cons h1 (optAll_cons h2 (optAll_cons h3 (optAll_cons h4 rfl)))]
  exact ⟨_, rfl⟩
theorem whole_ok {S : Sto} {x : Int} : f_law_whole [.int x] S = .ok (.bl true) S := rfl
theorem state_ok {S : Sto} {m a l b : Nat} {fr : List (List Int)} (h : Mach S m a fr) (hf : Fr2 fr) (hl : FrAt S l b fr) : ∃ X, f_law_state [.loc m, .loc l, .tup restL] S = .ok (.bl true) (S ++ X) := by
  obtain ⟨X1, e1⟩ := key_ok h hf
  obtain ⟨S1, hS1⟩ : ∃ S1 : Sto, S1 = S ++ X1 := ⟨_, rfl⟩
  rw [← hS1] at e1
  obtain ⟨S2, hS2⟩ : ∃ S2 : Sto, S2 = S1 ++ [.lst (tupsL fr)] := ⟨_, rfl⟩
  have hl1 : FrAt S1 l b fr := by rw [hS1]; exact hl.old
  have h2 : Mach S2 m a fr := by rw [hS2, hS1]; exact h.old.old
  refine ⟨X1 ++ [.lst (tupsL fr)], fnOf_rt rfl ?_⟩
  rw [show S ++ (X1 ++ [OB.lst (tupsL fr)]) = S2 by rw [hS2, hS1, List.append_assoc]]
  show m_law_state [some (.loc m), some (.loc l), some (.tup restL), none, none, none, none] S = _
  unfold m_law_state
  have me : ∃ fs, S[m]? = some (.ins n_Machine fs) ∧ lookN n_key fs = none := by
    obtain ⟨g, nf, np, nq, q0, q1, r0, r1, M⟩ := h
    exact ⟨_, M.me, rfl⟩
  obtain ⟨fs, me1, me2⟩ := me
  refine q_set (eMeth_ok rfl me1 me2 rfl e1) ?_
  simp only [List.set_cons_zero, List.set_cons_succ]
  have et := tuples_ok (v := 4) (ls := [some (.loc m), some (.loc l), some (.tup restL), some (keyV fr), none, none, none]) (t := ⟨locsL b fr.length, wkOf (.loc l) (locsL b fr.length)⟩) (it := iSeq (eVar 1)) (S := S1) (A := S1) (rows := fr.map intsL) (iSeq_h rfl (.loc hl1.1)) (by simp) (fun i acc => wk_ok (i := i) (.loc (get_old hl1.1))) (by rw [List.length_map, hf.1]; decide) (by simp) hl1.hld
  obtain ⟨d, hd⟩ := key_dat (S := S2) (fr := fr)
  refine q_no (S1 := S2) ?_ ?_
  · rw [toT_ap, eOp_ap, eVar_of rfl, bind_ok, eOp_ap]
    have e2 : eTup (aCons (eB fTuple (aCons (eLc (iSeq (eVar 1)) (gN 4) tYesM (eB fTuple (aCons (eVar 4) aNil)) [4]) aNil)) aNil) [some (.loc m), some (.loc l), some (.tup restL), some (keyV fr), none, none, none] S1 = .ok (.tup [.tup (tupsL fr)]) S2 := by
      unfold eTup
      rw [aCons_ap, et]
      rw [hS2]; rfl
    rw [e2, bind_ok, eVar_of rfl, bind_ok]
    have e3 : gAdd (.tup [.tup (tupsL fr)]) (.tup restL) S2 = .ok (keyV fr) S2 := by
      unfold gAdd
      dsimp only
      rw [if_pos (by show (4 : Nat) ≤ lim; decide)]
      rfl
    rw [e3, bind_ok]
    show (eqM true (keyV fr) (keyV fr) S2).bind asB = _
    rw [eqM_self rfl hd hd]
    rfl
  have hM := h2
  obtain ⟨g, nf, np, nq, q0, q1, r0, r1, M⟩ := hM
  have inner : ∀ (i : Nat) (r : List Int) (x5 : Option PV), fr[i]? = some r → ∃ x6, sFor (iR1 (eC (.int 16))) (gN 6) (sIf (tNotM (toT (eCall f_law_whole [] (aCons (eOp gIx (eOp gIx (eFld tab n_frames (eVar 0)) (eVar 5)) (eVar 6)) aNil)))) (sRet (eC (.bl false))) sNil)
      [some (.loc m), some (.loc l), some (.tup restL), some (keyV fr), none, some (.int i), x5] S2 = .nx [some (.loc m), some (.loc l), some (.tup restL), some (keyV fr), none, some (.int i), x6] S2 := by
    intro i r x5 hr
    have hrow := M.fr.2 i r hr
    have hi4 := (List.getElem?_eq_some_iff.mp hr).1
    have hr16 := hf.2 r (List.mem_of_getElem? hr)
    obtain ⟨ls', S', e, ⟨x6, rfl⟩, rfl⟩ := forGo_inv (chk := always) (g := gN 6) (body := (sIf (tNotM (toT (eCall f_law_whole [] (aCons (eOp gIx (eOp gIx (eFld tab n_frames (eVar 0)) (eVar 5)) (eVar 6)) aNil)))) (sRet (eC (.bl false))) sNil))
      (fun _ ls T => (∃ x6, ls = [some (.loc m), some (.loc l), some (.tup restL), some (keyV fr), none, some (.int i), x6]) ∧ T = S2) (rngL 0 (16 : Nat)) 0 [some (.loc m), some (.loc l), some (.tup restL), some (keyV fr), none, some (.int i), x5] S2 (by
        rintro j x ls T hx ⟨⟨x6, rfl⟩, rfl⟩
        obtain ⟨k, hk, rfl⟩ := rng_mem (List.mem_of_getElem? hx)
        refine ⟨rfl, _, rfl, _, _, .inl ?_, ⟨some (.int k), rfl⟩, rfl⟩
        have g1 : gIx (.loc nf) (.int (i : Int)) T = .ok (.loc (a + i)) T := gIx_loc (seq_of_get M.fr.1) (locsL_get hi4)
        have g2 : gIx (.loc (a + i)) (.int (k : Int)) T = .ok (.int (r.getD k 0)) T := gIx_loc (seq_of_get hrow) (intsL_get (by omega))
        have ef : eFld tab n_frames (eVar 0) [some (.loc m), some (.loc l), some (.tup restL), some (keyV fr), none, some (.int i), some (.int k)] T = .ok (.loc nf) T := eFld_ok rfl M.me (by decide +kernel) rfl
        simp only [List.set_cons_zero, List.set_cons_succ, sIf_ap, tNotM_ap, toT_ap, eCall_ap, aCons_ap, eOp_ap, ef, bind_ok, eVar, List.getElem?_cons_zero, List.getElem?_cons_succ, g1, g2, aNil_ap, List.append_nil, whole_ok, asB_bl, then_ok, Bool.not_true, Bool.false_eq_true, if_false, sNil_ap]) (fun _ _ _ => rfl) ⟨⟨_, rfl⟩, rfl⟩
    exact ⟨x6, sFor_nx (iR1_ok (n := 16) rfl (by decide)) e⟩
  obtain ⟨ls', S', e, ⟨x5, x6, rfl⟩, rfl⟩ := forGo_inv (chk := always) (g := gN 5) (body := (sFor (iR1 (eC (.int 16))) (gN 6) (sIf (tNotM (toT (eCall f_law_whole [] (aCons (eOp gIx (eOp gIx (eFld tab n_frames (eVar 0)) (eVar 5)) (eVar 6)) aNil)))) (sRet (eC (.bl false))) sNil)))
    (fun _ ls T => (∃ x5 x6, ls = [some (.loc m), some (.loc l), some (.tup restL), some (keyV fr), none, x5, x6]) ∧ T = S2) (rngL 0 (4 : Nat)) 0 [some (.loc m), some (.loc l), some (.tup restL), some (keyV fr), none, none, none] S2 (by
      rintro j x ls T hx ⟨⟨x5, x6, rfl⟩, rfl⟩
      obtain ⟨k, hk, rfl⟩ := rng_mem (List.mem_of_getElem? hx)
      obtain ⟨x6', e⟩ := inner k (fr.getD k []) x6 (by rw [List.getD_eq_getElem?_getD]; cases hq : fr[k]? with | none => rw [List.getElem?_eq_none_iff, hf.1] at hq; omega | some z => rfl)
      exact ⟨rfl, _, rfl, _, _, .inl e, ⟨_, _, rfl⟩, rfl⟩) (fun _ _ _ => rfl) ⟨⟨_, _, rfl⟩, rfl⟩
  refine q_nx (sFor_nx (iR1_ok (n := 4) rfl (by decide)) e) ?_
  rfl
end K33

set_option Elab.async false
set_option linter.all false
set_option maxRecDepth 100000
set_option maxHeartbeats 1000000
namespace K33
open GL PySem
/-- a store: frame, offset, number, page -/
structure St where
  f : Nat
  o : Nat
  v : Int
  p : Int
structure St.Ok (s : St) : Prop where
  f : s.f < 4
  o : s.o < 16
def stV (s : St) : PV := .tup [.int s.f, .int s.o, .int s.v, .int s.p]
def stL (st : List St) : List PV := st.map stV
def hitS (f o : Nat) (s : St) : Bool := decide (s.f = f) && decide (s.o = o)
def nv : Option St → PV
  | some s => .int s.v
  | none => .non
theorem stIx0 {S : Sto} {s : St} : gIx (stV s) (.int 0) S = .ok (.int s.f) S := gIx_tup (i := 0) rfl
theorem stIx1 {S : Sto} {s : St} : gIx (stV s) (.int 1) S = .ok (.int s.o) S := gIx_tup (i := 1) rfl
theorem stIx2 {S : Sto} {s : St} : gIx (stV s) (.int 2) S = .ok (.int s.v) S := gIx_tup (i := 2) rfl
theorem stIx3 {S : Sto} {s : St} : gIx (stV s) (.int 3) S = .ok (.int s.p) S := gIx_tup (i := 3) rfl
theorem hit_test {s : St} {f o : Nat} {j : Nat} {ls : Ls} {S : Sto} (h1 : ls[1]? = some (some (.int f))) (h2 : ls[2]? = some (some (.int o))) (h3 : ls[j]? = some (some (stV s))) :
    tAndM (toT (eOp gEq (eOp gIx (eVar j) (eC (.int 0))) (eVar 1))) (toT (eOp gEq (eOp gIx (eVar j) (eC (.int 1))) (eVar 2))) ls S = .ok (hitS f o s) S := by
  rw [tAndM_ap, toT_ap, eOp_ap, eOp_ap, eVar_of h3]
  simp only [bind_ok, eC_ap, stIx0, eVar_of h1, gEq_int, asB_bl]
  unfold hitS
  by_cases q : s.f = f
  · have q1 : (s.f : Int) = (f : Int) := by omega
    rw [if_pos (decide_eq_true q1), toT_ap, eOp_ap, eOp_ap, eVar_of h3]
    simp only [bind_ok, eC_ap, stIx1, eVar_of h2, gEq_int, asB_bl, decide_eq_true q, Bool.true_and]
    congr 1
    exact decide_eq_decide.mpr ⟨fun h => by omega, fun h => by omega⟩
  · have q1 : ¬ (s.f : Int) = (f : Int) := by omega
    rw [if_neg (by simpa using q1)]
    simp [q]
theorem newest_go {chk : Nat → Sto → Bool} {S : Sto} {b : PV} {f o : Nat} (hc : ∀ i, chk i S = true) : ∀ (xs : List St) (i : Nat) (a3 : Option PV),
    match xs.find? (hitS f o) with
    | some s => forGo chk (gN 3) (sIf (tAndM (toT (eOp gEq (eOp gIx (eVar 3) (eC (.int 0))) (eVar 1))) (toT (eOp gEq (eOp gIx (eVar 3) (eC (.int 1))) (eVar 2)))) (sRet (eOp gIx (eVar 3) (eC (.int 2)))) sNil) i (stL xs) [some b, some (.int f), some (.int o), a3] S = .rt (.int s.v) S
    | none => ∃ a3', forGo chk (gN 3) (sIf (tAndM (toT (eOp gEq (eOp gIx (eVar 3) (eC (.int 0))) (eVar 1))) (toT (eOp gEq (eOp gIx (eVar 3) (eC (.int 1))) (eVar 2)))) (sRet (eOp gIx (eVar 3) (eC (.int 2)))) sNil) i (stL xs) [some b, some (.int f), some (.int o), a3] S = .nx [some b, some (.int f), some (.int o), a3'] S
  | [], i, a3 => ⟨a3, forGo_nil (hc i)⟩
  | s :: r, i, a3 => by
    have ih := newest_go (b := b) (f := f) (o := o) hc r (i + 1) (some (stV s))
    have step : forGo chk (gN 3) (sIf (tAndM (toT (eOp gEq (eOp gIx (eVar 3) (eC (.int 0))) (eVar 1))) (toT (eOp gEq (eOp gIx (eVar 3) (eC (.int 1))) (eVar 2)))) (sRet (eOp gIx (eVar 3) (eC (.int 2)))) sNil) i (stL (s :: r)) [some b, some (.int f), some (.int o), a3] S
      = loopK (sIf (tAndM (toT (eOp gEq (eOp gIx (eVar 3) (eC (.int 0))) (eVar 1))) (toT (eOp gEq (eOp gIx (eVar 3) (eC (.int 1))) (eVar 2)))) (sRet (eOp gIx (eVar 3) (eC (.int 2)))) sNil [some b, some (.int f), some (.int o), some (stV s)] S) _ :=
      forGo_cons (x := stV s) (r := stL r) (ls1 := [some b, some (.int f), some (.int o), some (stV s)]) (hc i) rfl
    have e : sIf (tAndM (toT (eOp gEq (eOp gIx (eVar 3) (eC (.int 0))) (eVar 1))) (toT (eOp gEq (eOp gIx (eVar 3) (eC (.int 1))) (eVar 2)))) (sRet (eOp gIx (eVar 3) (eC (.int 2)))) sNil [some b, some (.int f), some (.int o), some (stV s)] S
      = if hitS f o s = true then .rt (.int s.v) S else .nx [some b, some (.int f), some (.int o), some (stV s)] S := by
      rw [sIf_ap, hit_test rfl rfl rfl, then_ok, sRet_ap, eOp_ap, eVar_of rfl]
      simp only [bind_ok, eC_ap, stIx2, then_ok, sNil_ap]
    rw [e] at step
    rw [List.find?_cons]
    cases hh : hitS f o s with
    | true =>
      rw [hh, if_pos rfl, loopK_rt] at step
      exact step
    | false =>
      rw [hh, if_neg (by decide), loopK_nx] at step
      dsimp only
      cases hq : r.find? (hitS f o) with
      | none =>
        rw [hq] at ih
        obtain ⟨a, ih⟩ := ih
        exact ⟨a, step.trans ih⟩
      | some z =>
        rw [hq] at ih
        exact step.trans ih
theorem newest_ok {S : Sto} {b f o : Nat} {st : List St} (h : S[b]? = some (.lst (stL st))) : f_newest [.loc b, .int f, .int o] S = .ok (nv (st.reverse.find? (hitS f o))) S := by
  have go := newest_go (chk := isSeq b (stL st)) (S := S) (b := .loc b) (f := f) (o := o) (fun i => by unfold isSeq; rw [seq_of_get h]; exact PV.beqs_self _) st.reverse 0 none
  have hi : iRevM (eVar 0) [some (.loc b), some (.int f), some (.int o), none] S = .ok ⟨stL st.reverse, isSeq b (stL st)⟩ S := by
    unfold iRevM
    rw [eVar_of rfl, bind_ok]
    dsimp only
    rw [seq_of_get h]
    dsimp only
    unfold stL
    rw [List.map_reverse]
  refine fnOf_rt rfl ?_
  show m_newest [some (.loc b), some (.int f), some (.int o), none] S = _
  unfold m_newest
  rw [sSeq_ap]
  unfold sFor
  rw [hi, then_ok]
  cases hq : st.reverse.find? (hitS f o) with
  | some s =>
    rw [hq] at go
    dsimp only at go ⊢
    rw [go, seq_rt]; rfl
  | none =>
    rw [hq] at go
    obtain ⟨a, go⟩ := go
    dsimp only at go ⊢
    rw [go, seq_nx]; rfl
def nw (f o : Nat) : PV → List St → PV
  | c, [] => c
  | c, s :: r => nw f o (if hitS f o s = true then .int s.v else c) r
theorem nw_eq {f o : Nat} : ∀ (st : List St) (c : PV), nw f o c st = match st.reverse.find? (hitS f o) with | some s => .int s.v | none => c
  | [], c => rfl
  | s :: r, c => by
    rw [nw, nw_eq r, List.reverse_cons, List.find?_append]
    cases r.reverse.find? (hitS f o) with
    | some z => rfl
    | none =>
      simp only [Option.none_or, List.find?_cons, List.find?_nil]
      cases hitS f o s <;> rfl
theorem lnewest_go {chk : Nat → Sto → Bool} {S : Sto} {b : PV} {f o : Nat} (hc : ∀ i, chk i S = true) : ∀ (xs : List St) (i : Nat) (c : PV) (a4 : Option PV), ∃ a4',
    forGo chk (gN 4) (sIf (tAndM (toT (eOp gEq (eOp gIx (eVar 4) (eC (.int 0))) (eVar 1))) (toT (eOp gEq (eOp gIx (eVar 4) (eC (.int 1))) (eVar 2)))) (sSet 3 (eOp gIx (eVar 4) (eC (.int 2)))) sNil) i (stL xs) [some b, some (.int f), some (.int o), some c, a4] S
      = .nx [some b, some (.int f), some (.int o), some (nw f o c xs), a4'] S
  | [], i, c, a4 => ⟨a4, forGo_nil (hc i)⟩
  | s :: r, i, c, a4 => by
    obtain ⟨a, ih⟩ := lnewest_go (b := b) (f := f) (o := o) hc r (i + 1) (if hitS f o s = true then .int s.v else c) (some (stV s))
    refine ⟨a, ?_⟩
    show forGo chk _ _ i (stV s :: stL r) _ S = _
    rw [forGo_cons (ls1 := [some b, some (.int f), some (.int o), some c, some (stV s)]) (hc i) rfl, nw, ← ih]
    rw [sIf_ap, hit_test rfl rfl rfl, then_ok, sSet_ap, eOp_ap, eVar_of rfl]
    simp only [bind_ok, eC_ap, stIx2, then_ok, sNil_ap]
    cases hitS f o s <;> rfl
theorem lnewest_ok {S : Sto} {b f o : Nat} {st : List St} (h : S[b]? = some (.lst (stL st))) : f_law_newest [.loc b, .int f, .int o] S = .ok (nv (st.reverse.find? (hitS f o))) S := by
  obtain ⟨a, go⟩ := lnewest_go (chk := wkOf (.loc b) (stL st)) (S := S) (b := .loc b) (f := f) (o := o) (fun i => wk_ok (.loc h)) st 0 .non none
  refine fnOf_rt rfl ?_
  show m_law_newest [some (.loc b), some (.int f), some (.int o), none, none] S = _
  unfold m_law_newest
  refine q_set rfl ?_
  refine q_nx (sFor_nx (iSeq_h rfl (.loc h)) go) ?_
  have : nw f o .non st = nv (st.reverse.find? (hitS f o)) := by
    rw [nw_eq]
    cases st.reverse.find? (hitS f o) <;> rfl
  rw [sRet_ap, eVar_of rfl, this]; rfl
theorem st_dat {S : Sto} {b : Nat} {st : List St} (h : S[b]? = some (.lst (stL st))) : datP S 60 (.loc b) = some (.list (st.map fun s => .tuple [.int s.f, .int s.o, .int s.v, .int s.p])) := by
  have : ∀ st : List St, optAll (datP S 59) (stL st) = some (st.map fun s => .tuple [.int s.f, .int s.o, .int s.v, .int s.p]) := by
    intro st
    induction st with
    | nil => rfl
    | cons s r ih => exact optAll_cons rfl ih
  unfold datP
  simp only [seq_of_get h, this, Option.map_some]
theorem alln_ok {S : Sto} {b c : Nat} {st : List St} (hb : S[b]? = some (.lst (stL st))) (hc : S[c]? = some (.lst (stL st))) : f_law_all_newest [.loc b, .loc c] S = .ok (.bl true) S := by
  refine fnOf_rt rfl ?_
  show m_law_all_newest [some (.loc b), some (.loc c), none, none, none, none] S = _
  unfold m_law_all_newest
  have body : ∀ (f o : Nat) (a4 a5 : Option PV), ∃ w, (sSeq (sSet 4 (eCall f_newest [] (aCons (eVar 0) (aCons (eVar 2) (aCons (eVar 3) aNil)))))
      (sSeq (sSet 5 (eCall f_law_newest [] (aCons (eVar 1) (aCons (eVar 2) (aCons (eVar 3) aNil)))))
      (sSeq (sIf (tAndM (toT (eOp (isM false) (eVar 5) (eC .non))) (toT (eOp (isM true) (eVar 4) (eC .non))))
      (sRet (eC (.bl false)))
      sNil)
      (sIf (tAndM (toT (eOp (isM true) (eVar 5) (eC .non))) (tOrM (tNotM (toT (eCall f_law_whole [] (aCons (eVar 4) aNil)))) (toT (eOp gNe (eVar 4) (eVar 5)))))
      (sRet (eC (.bl false)))
      sNil)))) [some (.loc b), some (.loc c), some (.int f), some (.int o), a4, a5] S = .nx [some (.loc b), some (.loc c), some (.int f), some (.int o), some w, some w] S := by
    intro f o a4 a5
    refine ⟨nv (st.reverse.find? (hitS f o)), q_set (q_call rfl (newest_ok hb)) (q_set (q_call rfl (lnewest_ok hc)) ?_)⟩
    simp only [List.set_cons_zero, List.set_cons_succ]
    cases st.reverse.find? (hitS f o) with
    | none => rfl
    | some s =>
      have e : f_law_whole [.int s.v] S = .ok (.bl true) S := rfl
      simp [sSeq_ap, sIf_ap, tAndM_ap, toT_ap, eOp_ap, eVar, isM, isNonP, nv, tOrM_ap, tNotM_ap, eCall_ap, aCons_ap, e]
  have inner : ∀ (f : Nat) (a3 a4 a5 : Option PV), ∃ a3' a4' a5', sFor (iR1 (eC (.int 16))) (gN 3) (sSeq (sSet 4 (eCall f_newest [] (aCons (eVar 0) (aCons (eVar 2) (aCons (eVar 3) aNil)))))
      (sSeq (sSet 5 (eCall f_law_newest [] (aCons (eVar 1) (aCons (eVar 2) (aCons (eVar 3) aNil)))))
      (sSeq (sIf (tAndM (toT (eOp (isM false) (eVar 5) (eC .non))) (toT (eOp (isM true) (eVar 4) (eC .non))))
      (sRet (eC (.bl false)))
      sNil)
      (sIf (tAndM (toT (eOp (isM true) (eVar 5) (eC .non))) (tOrM (tNotM (toT (eCall f_law_whole [] (aCons (eVar 4) aNil)))) (toT (eOp gNe (eVar 4) (eVar 5)))))
      (sRet (eC (.bl false)))
      sNil)))) [some (.loc b), some (.loc c), some (.int f), a3, a4, a5] S = .nx [some (.loc b), some (.loc c), some (.int f), a3', a4', a5'] S := by
    intro f a3 a4 a5
    obtain ⟨ls', S', e, ⟨x, y, z, rfl⟩, rfl⟩ := forGo_inv (chk := always) (g := gN 3) (body := (sSeq (sSet 4 (eCall f_newest [] (aCons (eVar 0) (aCons (eVar 2) (aCons (eVar 3) aNil)))))
      (sSeq (sSet 5 (eCall f_law_newest [] (aCons (eVar 1) (aCons (eVar 2) (aCons (eVar 3) aNil)))))
      (sSeq (sIf (tAndM (toT (eOp (isM false) (eVar 5) (eC .non))) (toT (eOp (isM true) (eVar 4) (eC .non))))
      (sRet (eC (.bl false)))
      sNil)
      (sIf (tAndM (toT (eOp (isM true) (eVar 5) (eC .non))) (tOrM (tNotM (toT (eCall f_law_whole [] (aCons (eVar 4) aNil)))) (toT (eOp gNe (eVar 4) (eVar 5)))))
      (sRet (eC (.bl false)))
      sNil))))) (fun _ ls T => (∃ x y z, ls = [some (.loc b), some (.loc c), some (.int f), x, y, z]) ∧ T = S) (rngL 0 (16 : Nat)) 0 [some (.loc b), some (.loc c), some (.int f), a3, a4, a5] S (by
        rintro j x ls T hx ⟨⟨x3, x4, x5, rfl⟩, rfl⟩
        obtain ⟨k, hk, rfl⟩ := rng_mem (List.mem_of_getElem? hx)
        obtain ⟨w, e⟩ := body f k x4 x5
        exact ⟨rfl, _, rfl, _, _, .inl e, ⟨_, _, _, rfl⟩, rfl⟩) (fun _ _ _ => rfl) ⟨⟨_, _, _, rfl⟩, rfl⟩
    exact ⟨x, y, z, sFor_nx (iR1_ok (n := 16) rfl (by decide)) e⟩
  obtain ⟨ls', S', e, ⟨x2, x, y, z, rfl⟩, rfl⟩ := forGo_inv (chk := always) (g := gN 2) (body := sFor (iR1 (eC (.int 16))) (gN 3) (sSeq (sSet 4 (eCall f_newest [] (aCons (eVar 0) (aCons (eVar 2) (aCons (eVar 3) aNil)))))
      (sSeq (sSet 5 (eCall f_law_newest [] (aCons (eVar 1) (aCons (eVar 2) (aCons (eVar 3) aNil)))))
      (sSeq (sIf (tAndM (toT (eOp (isM false) (eVar 5) (eC .non))) (toT (eOp (isM true) (eVar 4) (eC .non))))
      (sRet (eC (.bl false)))
      sNil)
      (sIf (tAndM (toT (eOp (isM true) (eVar 5) (eC .non))) (tOrM (tNotM (toT (eCall f_law_whole [] (aCons (eVar 4) aNil)))) (toT (eOp gNe (eVar 4) (eVar 5)))))
      (sRet (eC (.bl false)))
      sNil))))) (fun _ ls T => (∃ x2 x y z, ls = [some (.loc b), some (.loc c), x2, x, y, z]) ∧ T = S) (rngL 0 (4 : Nat)) 0 [some (.loc b), some (.loc c), none, none, none, none] S (by
        rintro j x ls T hx ⟨⟨x2, x3, x4, x5, rfl⟩, rfl⟩
        obtain ⟨k, hk, rfl⟩ := rng_mem (List.mem_of_getElem? hx)
        obtain ⟨y3, y4, y5, e⟩ := inner k x3 x4 x5
        exact ⟨rfl, _, rfl, _, _, .inl e, ⟨_, _, _, _, rfl⟩, rfl⟩) (fun _ _ _ => rfl) ⟨⟨_, _, _, _, rfl⟩, rfl⟩
  refine q_nx (sFor_nx (iR1_ok (n := 4) rfl (by decide)) e) ?_
  rw [sRet_ap, eOp_ap, eVar_of rfl, bind_ok, eVar_of rfl, bind_ok]
  show (eqM false _ _ _).then _ _ = _
  rw [eqM_self rfl (st_dat hb) (st_dat hc)]
  rfl
end K33

set_option Elab.async false
set_option linter.all false
set_option maxRecDepth 100000
set_option maxHeartbeats 1000000
namespace K33
open GL PySem
/-! ### the law's frames -/
def rowB (b : Int) (k : Nat) : List Int := (List.range 16).map fun (i : Nat) => (b + 16 * (k : Int) + (i : Int)) % 256
def frB (b : Int) : List (List Int) := (List.range 4).map (rowB b)
theorem frB_ok {b : Int} : Fr (frB b) := by
  refine ⟨by simp [frB], fun r hr => ?_⟩
  obtain ⟨k, _, rfl⟩ := List.mem_map.mp hr
  refine ⟨by simp [rowB], fun x hx => ?_⟩
  obtain ⟨i, _, rfl⟩ := List.mem_map.mp hx
  omega
theorem Fr.two {fr : List (List Int)} (h : Fr fr) : Fr2 fr := ⟨h.1, fun r hr => (h.2 r hr).1⟩
theorem frAt_new {S : Sto} {fr : List (List Int)} : FrAt (S ++ .lst (locsL (S.length + 1) fr.length) :: fr.map (fun r => .lst (intsL r))) S.length (S.length + 1) fr := by
  refine ⟨get_at (k := 0), fun i r hr => ?_⟩
  rw [Nat.add_assoc, get_at, show 1 + i = i + 1 from Nat.add_comm 1 i, List.getElem?_cons_succ, List.getElem?_map, hr]; rfl
theorem mApp_ok {A B : Sto} {xs : List PV} {w : PV} (h : xs.length < lim) : mAppend (.loc A.length) [w] (A ++ .lst xs :: B) = .ok .non (A ++ .lst (xs ++ [w]) :: B) := by
  unfold mAppend
  dsimp only
  rw [lstAt_of get_mid]
  dsimp only
  rw [if_pos h, set_mid]
theorem app_ok {A B B' : Sto} {xs : List PV} {w : PV} {o args : ME} {ls : Ls} (ho : o ls (A ++ .lst xs :: B) = .ok (.loc A.length) (A ++ .lst xs :: B)) (ha : args ls (A ++ .lst xs :: B) = .ok w (A ++ .lst xs :: B')) (h : xs.length < lim) :
    sExpr (eMt kList mAppend o (aCons args aNil)) ls (A ++ .lst xs :: B) = .nx ls (A ++ .lst (xs ++ [w]) :: B') := by
  rw [sExpr_ap, eMt_ap, ho, bind_ok]
  have : kList (.loc A.length) (A ++ .lst xs :: B) = true := by unfold kList; dsimp only; rw [seq_of_get get_mid]; rfl
  rw [if_pos this, aCons_ap, ha]
  simp only [bind_ok, aNil_ap, mApp_ok h, then_ok]
theorem frames_ok {S : Sto} {b : Int} : f_law_frames [.int b] S = .ok (.loc S.length) (S ++ .lst (locsL (S.length + 1) (frB b).length) :: (frB b).map (fun r => .lst (intsL r))) := by
  refine fnOf_rt rfl ?_
  show m_law_frames [some (.int b), none, none, none] S = _
  unfold m_law_frames
  have e0 : eLst aNil [some (.int b), none, none, none] S = .ok (.loc S.length) (S ++ [.lst []]) := by
    have : (0 : Nat) ≤ lim := by decide
    simp [eLst, this]
  refine q_set e0 ?_
  obtain ⟨ls', S', e, ⟨a2, rfl⟩, rfl⟩ := forGo_inv (chk := always) (g := gN 2) (body := (sExpr (eMt kList mAppend (eVar 1) (aCons (eLc (iR1 (eC (.int 16))) (gN 3) tYesM (eOp gMod (eB fInt (aCons (eOp gAdd (eOp gAdd (eVar 0) (eOp gMul (eC (.int 16)) (eVar 2))) (eVar 3)) aNil)) (eC (.int 256))) [3]) aNil))))
    (fun i ls T => (∃ a2, ls = [some (.int b), some (.loc S.length), a2, none]) ∧ T = S ++ .lst (locsL (S.length + 1) i) :: ((List.range i).map (rowB b)).map (fun r => .lst (intsL r))) (rngL 0 (4 : Nat)) 0 [some (.int b), some (.loc S.length), none, none] (S ++ [.lst []]) (by
      rintro j x ls T hx ⟨⟨a2, rfl⟩, rfl⟩
      rw [rng0, List.getElem?_map] at hx
      obtain ⟨k, hk, rfl⟩ := Option.map_eq_some_iff.mp hx
      obtain ⟨hj, hk⟩ := List.getElem?_eq_some_iff.mp hk
      rw [List.getElem_range] at hk
      subst hk
      rw [List.length_range] at hj
      rw [Nat.zero_add]
      refine ⟨rfl, _, rfl, [some (.int b), some (.loc S.length), some (.int j), none], _, .inl ?_, ⟨_, rfl⟩, rfl⟩
      obtain ⟨Y, hY⟩ : ∃ Y : Sto, Y = ((List.range j).map (rowB b)).map (fun r => OB.lst (intsL r)) := ⟨_, rfl⟩
      rw [← hY]
      have ec := eLc_rng (v := 3) (n := 16) (S := S ++ .lst (locsL (S.length + 1) j) :: Y) (S1 := S ++ .lst (locsL (S.length + 1) j) :: Y) (ls := [some (.int b), some (.loc S.length), some (.int j), none]) (m := eC (.int 16)) (tt := tYesM)
        (te := eOp gMod (eB fInt (aCons (eOp gAdd (eOp gAdd (eVar 0) (eOp gMul (eC (.int 16)) (eVar 2))) (eVar 3)) aNil)) (eC (.int 256))) (fun _ => true) (fun i => .int ((b + 16 * (j : Int) + (i : Int)) % 256)) rfl (by decide) (by simp) (fun i hi acc => ⟨rfl, fun _ => by
          have g1 : gMul (.int 16) (.int (j : Int)) (S ++ .lst (locsL (S.length + 1) j) :: Y ++ [.lst acc]) = .ok (.int (16 * j)) (S ++ .lst (locsL (S.length + 1) j) :: Y ++ [.lst acc]) := gMul_int (.inl rfl)
          have g2 : ∀ z, gMod (.int z) (.int 256) (S ++ .lst (locsL (S.length + 1) j) :: Y ++ [.lst acc]) = .ok (.int (z % 256)) (S ++ .lst (locsL (S.length + 1) j) :: Y ++ [.lst acc]) := fun z => gMod_int (by decide)
          simp only [eOp_ap, eB_ap, aCons_ap, eVar, List.set_cons_zero, List.set_cons_succ, List.getElem?_cons_zero, List.getElem?_cons_succ, bind_ok, eC_ap, g1, gAdd_int, aNil_ap, fInt_int, g2]⟩)
      rw [List.filter_eq_self.mpr fun _ _ => rfl] at ec
      have er : (List.range 16).map (fun (i : Nat) => PV.int ((b + 16 * (j : Int) + (i : Int)) % 256)) = intsL (rowB b j) := by unfold intsL rowB; rw [List.map_map]; rfl
      rw [er] at ec
      have el : (S ++ OB.lst (locsL (S.length + 1) j) :: Y).length = S.length + 1 + j := by rw [hY]; simp; omega
      rw [el] at ec
      refine (app_ok (B' := Y ++ [.lst (intsL (rowB b j))]) (w := .loc (S.length + 1 + j)) rfl ?_ (by rw [locsL_len]; have := limE; omega)).trans ?_
      · rw [show S ++ OB.lst (locsL (S.length + 1) j) :: (Y ++ [.lst (intsL (rowB b j))]) = S ++ OB.lst (locsL (S.length + 1) j) :: Y ++ [.lst (intsL (rowB b j))] by simp]
        exact ec
      · rw [← locsL_succ, hY, List.range_succ, List.map_append, List.map_append]; rfl) (fun _ _ _ => rfl) ⟨⟨_, rfl⟩, by simp [locsL]⟩
  refine q_nx (sFor_nx (iR1_ok (n := 4) rfl (by decide)) e) ?_
  rw [sRet_ap, eVar_of rfl]
  have : (rngL 0 ((4 : Nat) : Int)).length = 4 := by decide
  rw [this]
  simp [frB]
/-! ### the stores -/
theorem kx {T : Sto} {ls : Ls} {r : Nat} {ds : List Int} {X : ME} {x : Int} {i m l : Nat} {ix : ME} (h0 : ls[0]? = some (some (.loc r))) (sd : seqAt T r = some (intsL ds)) (hx : X ls T = .ok (.int x) T) (hi : ix ls T = .ok (.int (i : Int)) T) (hl : 0 < l) (hm : 0 < m) :
    ∃ v : Nat, v < m ∧ eOp gMod (eB fInt (aCons (eOp gAdd X (eCall f_law_pick [] (aCons (eVar 0) (aCons ix (aCons (eC (.int (l : Int))) aNil))))) aNil)) (eC (.int (m : Int))) ls T = .ok (.int v) T := by
  have ep : f_law_pick [.loc r, .int (i : Int), .int (l : Int)] T = .ok (.int (pickV ds i l)) T := pick_ok sd (by omega)
  have hp := Int.emod_nonneg (x + pickV ds i l) (b := (m : Int)) (by omega)
  have hq := Int.emod_lt_of_pos (x + pickV ds i l) (b := (m : Int)) (by omega)
  refine ⟨((x + pickV ds i l) % (m : Int)).toNat, by omega, ?_⟩
  rw [eOp_ap, eB_ap, aCons_ap, eOp_ap, hx]
  simp only [bind_ok, eCall_ap, aCons_ap, eVar_of h0, hi, eC_ap, aNil_ap, List.append_nil, ep, gAdd_int, fInt_int]
  rw [gMod_int (by omega)]
  congr 2
  omega
theorem ix_ok {T : Sto} {ls : Ls} {k c : Nat} (h2 : ls[2]? = some (some (.int (k : Int)))) : eOp gAdd (eC (.int (c : Int))) (eOp gMul (eC (.int 10)) (eVar 2)) ls T = .ok (.int ((c + 10 * k : Nat) : Int)) T := by
  have g1 : gMul (.int 10) (.int (k : Int)) T = .ok (.int (10 * k)) T := gMul_int (.inl rfl)
  rw [eOp_ap, eC_ap, bind_ok, eOp_ap, eC_ap, bind_ok, eVar_of h2, bind_ok, g1, bind_ok, gAdd_int]
  rfl
theorem stores_ok {S : Sto} {r : Nat} {ds : List Int} (sd : seqAt S r = some (intsL ds)) : ∃ st, f_law_stores [.loc r] S = .ok (.loc S.length) (S ++ [.lst (stL st)]) ∧ (∀ s ∈ st, s.Ok) ∧ st.length ≤ 1000 := by
  obtain ⟨n, hn, en⟩ := kx (T := S ++ [.lst []]) (ls := [some (.loc r), some (.loc S.length), none, none, none, none]) (X := eC (.int 6)) (x := 6) (i := 0) (m := 9) (l := 9) (ix := eC (.int 0)) rfl (seq_old sd) rfl rfl (by decide) (by decide)
  obtain ⟨ls', S', e, ⟨st, ⟨a2, a3, a4, a5, rfl⟩, rfl, hst⟩⟩ := forGo_inv (chk := always) (g := gN 2) (body :=
  (sSeq (sSet 3 (eOp gMod (eB fInt (aCons (eOp gAdd (eVar 2) (eCall f_law_pick [] (aCons (eVar 0) (aCons (eOp gAdd (eC (.int 8)) (eOp gMul (eC (.int 10)) (eVar 2))) (aCons (eC (.int 4)) aNil))))) aNil)) (eC (.int 4))))
  (sSeq (sSet 4 (eOp gMod (eB fInt (aCons (eOp gAdd (eOp gMul (eC (.int 5)) (eVar 2)) (eCall f_law_pick [] (aCons (eVar 0) (aCons (eOp gAdd (eC (.int 10)) (eOp gMul (eC (.int 10)) (eVar 2))) (aCons (eC (.int 16)) aNil))))) aNil)) (eC (.int 16))))
  (sSeq (sIf (toT (eOp gEq (eOp gMod (eB fInt (aCons (eOp gAdd (eVar 2) (eCall f_law_pick [] (aCons (eVar 0) (aCons (eOp gAdd (eC (.int 16)) (eOp gMul (eC (.int 10)) (eVar 2))) (aCons (eC (.int 2)) aNil))))) aNil)) (eC (.int 2))) (eC (.int 0))))
  (sSeq (sSet 3 (eOp gMod (eB fInt (aCons (eOp gAdd (eC (.int 2)) (eCall f_law_pick [] (aCons (eVar 0) (aCons (eC (.int 2)) (aCons (eC (.int 4)) aNil))))) aNil)) (eC (.int 4))))
  (sSet 4 (eOp gMod (eB fInt (aCons (eOp gAdd (eC (.int 7)) (eCall f_law_pick [] (aCons (eVar 0) (aCons (eC (.int 4)) (aCons (eC (.int 16)) aNil))))) aNil)) (eC (.int 16)))))
  sNil)
  (sSeq (sSet 5 (eOp gMod (eB fInt (aCons (eOp gAdd (eOp gAdd (eC (.int 9)) (eOp gMul (eC (.int 37)) (eVar 2))) (eCall f_law_pick [] (aCons (eVar 0) (aCons (eOp gAdd (eC (.int 12)) (eOp gMul (eC (.int 10)) (eVar 2))) (aCons (eC (.int 256)) aNil))))) aNil)) (eC (.int 256))))
  (sExpr (eMt kList mAppend (eVar 1) (aCons (eTup (aCons (eVar 3) (aCons (eVar 4) (aCons (eVar 5) (aCons (eOp gMod (eB fInt (aCons (eOp gAdd (eOp gAdd (eC (.int 1)) (eVar 2)) (eCall f_law_pick [] (aCons (eVar 0) (aCons (eOp gAdd (eC (.int 14)) (eOp gMul (eC (.int 10)) (eVar 2))) (aCons (eC (.int 4)) aNil))))) aNil)) (eC (.int 4))) aNil))))) aNil))))))))
    (fun i ls T => ∃ st : List St, (∃ a2 a3 a4 a5, ls = [some (.loc r), some (.loc S.length), a2, a3, a4, a5]) ∧ T = S ++ .lst (stL st) :: [] ∧ st.length = i ∧ ∀ s ∈ st, s.Ok) (rngL 0 n) 0 [some (.loc r), some (.loc S.length), none, none, none, none] (S ++ [.lst []]) (by
      rintro j x ls T hx ⟨st, ⟨a2, a3, a4, a5, rfl⟩, rfl, hlen, hst⟩
      obtain ⟨k, hk, rfl⟩ := rng_mem (List.mem_of_getElem? hx)
      have hjn : j < n := by
        have := (List.getElem?_eq_some_iff.mp hx).1
        rw [rng0, List.length_map, List.length_range] at this
        exact this
      have sd' : seqAt (S ++ .lst (stL st) :: []) r = some (intsL ds) := seq_old sd
      generalize hT : S ++ OB.lst (stL st) :: [] = T at sd'
      have m5 : gMul (.int 5) (.int (k : Int)) T = .ok (.int (5 * k)) T := gMul_int (.inl rfl)
      have m37 : gMul (.int 37) (.int (k : Int)) T = .ok (.int (37 * k)) T := gMul_int (.inl rfl)
      obtain ⟨f, hf, ef⟩ := kx (T := T) (ls := [some (.loc r), some (.loc S.length), some (.int k), a3, a4, a5]) (X := eVar 2) (x := k) (i := 8 + 10 * k) (m := 4) (l := 4) rfl sd' rfl (ix_ok rfl) (by decide) (by decide)
      obtain ⟨o, ho, eo⟩ := kx (T := T) (ls := [some (.loc r), some (.loc S.length), some (.int k), some (.int f), a4, a5]) (X := eOp gMul (eC (.int 5)) (eVar 2)) (x := 5 * k) (i := 10 + 10 * k) (m := 16) (l := 16) rfl sd' (by rw [eOp_ap, eC_ap, bind_ok, eVar_of rfl, bind_ok, m5]) (ix_ok rfl) (by decide) (by decide)
      obtain ⟨t, ht, et⟩ := kx (T := T) (ls := [some (.loc r), some (.loc S.length), some (.int k), some (.int f), some (.int o), a5]) (X := eVar 2) (x := k) (i := 16 + 10 * k) (m := 2) (l := 2) rfl sd' rfl (ix_ok rfl) (by decide) (by decide)
      obtain ⟨f2, hf2, ef2⟩ := kx (T := T) (ls := [some (.loc r), some (.loc S.length), some (.int k), some (.int f), some (.int o), a5]) (X := eC (.int 2)) (x := 2) (i := 2) (m := 4) (l := 4) (ix := eC (.int 2)) rfl sd' rfl rfl (by decide) (by decide)
      obtain ⟨o2, ho2, eo2⟩ := kx (T := T) (ls := [some (.loc r), some (.loc S.length), some (.int k), some (.int f2), some (.int o), a5]) (X := eC (.int 7)) (x := 7) (i := 4) (m := 16) (l := 16) (ix := eC (.int 4)) rfl sd' rfl rfl (by decide) (by decide)
      obtain ⟨f3, o3, hf3, ho3, e3⟩ : ∃ f3 o3 : Nat, f3 < 4 ∧ o3 < 16 ∧ (sIf (toT (eOp gEq (eOp gMod (eB fInt (aCons (eOp gAdd (eVar 2) (eCall f_law_pick [] (aCons (eVar 0) (aCons (eOp gAdd (eC (.int 16)) (eOp gMul (eC (.int 10)) (eVar 2))) (aCons (eC (.int 2)) aNil))))) aNil)) (eC (.int 2))) (eC (.int 0))))
          (sSeq (sSet 3 (eOp gMod (eB fInt (aCons (eOp gAdd (eC (.int 2)) (eCall f_law_pick [] (aCons (eVar 0) (aCons (eC (.int 2)) (aCons (eC (.int 4)) aNil))))) aNil)) (eC (.int 4))))
          (sSet 4 (eOp gMod (eB fInt (aCons (eOp gAdd (eC (.int 7)) (eCall f_law_pick [] (aCons (eVar 0) (aCons (eC (.int 4)) (aCons (eC (.int 16)) aNil))))) aNil)) (eC (.int 16)))))
          sNil) [some (.loc r), some (.loc S.length), some (.int k), some (.int f), some (.int o), a5] T = .nx [some (.loc r), some (.loc S.length), some (.int k), some (.int f3), some (.int o3), a5] T := by
        by_cases q : t = 0
        · refine ⟨f2, o2, hf2, ho2, ?_⟩
          rw [sIf_ap, toT_ap, eOp_ap]
          erw [et]
          rw [bind_ok, eC_ap, bind_ok, gEq_int, bind_ok, asB_bl, then_ok, if_pos (decide_eq_true (by omega))]
          refine q_set ef2 ?_
          rw [sSet_ap]
          erw [eo2]
          rfl
        · refine ⟨f, o, hf, ho, ?_⟩
          rw [sIf_ap, toT_ap, eOp_ap]
          erw [et]
          rw [bind_ok, eC_ap, bind_ok, gEq_int, bind_ok, asB_bl, then_ok, if_neg (by simp; omega)]
          rfl
      obtain ⟨v, hv, ev⟩ := kx (T := T) (ls := [some (.loc r), some (.loc S.length), some (.int k), some (.int f3), some (.int o3), a5]) (X := eOp gAdd (eC (.int 9)) (eOp gMul (eC (.int 37)) (eVar 2))) (x := 9 + 37 * k) (i := 12 + 10 * k) (m := 256) (l := 256) rfl sd'
        (by rw [eOp_ap, eC_ap, bind_ok, eOp_ap, eC_ap, bind_ok, eVar_of rfl, bind_ok, m37, bind_ok, gAdd_int]) (ix_ok rfl) (by decide) (by decide)
      obtain ⟨p, hp, ep⟩ := kx (T := T) (ls := [some (.loc r), some (.loc S.length), some (.int k), some (.int f3), some (.int o3), some (.int v)]) (X := eOp gAdd (eC (.int 1)) (eVar 2)) (x := 1 + k) (i := 14 + 10 * k) (m := 4) (l := 4) rfl sd'
        (by rw [eOp_ap, eC_ap, bind_ok, eVar_of rfl, bind_ok, gAdd_int]) (ix_ok rfl) (by decide) (by decide)
      refine ⟨rfl, _, rfl, [some (.loc r), some (.loc S.length), some (.int k), some (.int f3), some (.int o3), some (.int v)], S ++ .lst (stL (st ++ [⟨f3, o3, v, p⟩])) :: [], .inl ?_, st ++ [⟨f3, o3, v, p⟩], ⟨_, _, _, _, rfl⟩, rfl, by rw [List.length_append, hlen]; simp, fun s hs => ?_⟩
      · refine q_set ef ?_
        refine q_set eo ?_
        refine q_nx e3 ?_
        refine q_set ev ?_
        rw [← hT]
        refine (app_ok (B' := []) (w := stV ⟨f3, o3, v, p⟩) rfl ?_ ?_).trans ?_
        · rw [hT]
          unfold eTup
          rw [aCons_ap, eVar_of rfl, bind_ok, aCons_ap, eVar_of rfl, bind_ok, aCons_ap, eVar_of rfl, bind_ok, aCons_ap]
          erw [ep]
          rfl
        · have := limE
          unfold stL
          rw [List.length_map, hlen]; omega
        · unfold stL; rw [List.map_append]; rfl
      · rcases List.mem_append.mp hs with h | h
        · exact hst s h
        · rw [List.mem_singleton] at h
          subst h
          exact ⟨hf3, ho3⟩) (fun _ _ _ => rfl) ⟨[], ⟨_, _, _, _, rfl⟩, rfl, rfl, fun s hs => by cases hs⟩
  refine ⟨st, fnOf_rt rfl ?_, hst.2, by have := hst.1; rw [rng0, List.length_map, List.length_range] at this; omega⟩
  show m_law_stores [some (.loc r), none, none, none, none, none] S = _
  unfold m_law_stores
  have e0 : eLst aNil [some (.loc r), none, none, none, none, none] S = .ok (.loc S.length) (S ++ [.lst []]) := by
    have : (0 : Nat) ≤ lim := by decide
    simp [eLst, this]
  refine q_set e0 ?_
  refine q_nx (sFor_nx (iR1_ok en (by omega)) e) ?_
  rfl
end K33

set_option Elab.async false
set_option linter.all false
set_option maxRecDepth 100000
set_option maxHeartbeats 1000000
namespace K33
open GL PySem
/-! ### changes -/
def chV (s : St) : PV := .tup [.str n_store, .int s.p, .int s.f, .int s.o]
def chL (st : List St) : List PV := st.map chV
theorem stL_get {st : List St} {j : Nat} {s : St} (h : st[j]? = some s) : (stL st)[j]? = some (stV s) := by unfold stL; rw [List.getElem?_map, h]; rfl
theorem chL_get {st : List St} {j : Nat} {s : St} (h : st[j]? = some s) : (chL st)[j]? = some (chV s) := by unfold chL; rw [List.getElem?_map, h]; rfl
theorem rng_get {n j : Nat} {x : PV} (h : (rngL 0 (n : Int))[j]? = some x) : j < n ∧ x = .int j := by
  rw [rng0, List.getElem?_map] at h
  obtain ⟨k, hk, rfl⟩ := Option.map_eq_some_iff.mp h
  obtain ⟨hj, hk⟩ := List.getElem?_eq_some_iff.mp hk
  rw [List.getElem_range] at hk
  subst hk
  rw [List.length_range] at hj
  exact ⟨hj, rfl⟩
theorem changes_ok {S : Sto} {c b : Nat} {st : List St} (hc : S[c]? = some (.lst (chL st))) (hb : S[b]? = some (.lst (stL st))) (hz : st.length ≤ 1000) : f_law_changes [.loc c, .loc b] S = .ok (.bl true) S := by
  have lc : (chL st).length = st.length := by simp [chL]
  have lb : (stL st).length = st.length := by simp [stL]
  refine fnOf_rt rfl ?_
  show m_law_changes [some (.loc c), some (.loc b), none, none, none] S = _
  unfold m_law_changes
  have i1 : fIsi [.loc c, .ty .list] S = .ok (.bl true) S := by
    have t1 : tyP S (.loc c) = some .list := by unfold tyP; simp only [hc]
    unfold fIsi
    dsimp only
    rw [t1]; rfl
  refine q_no (S1 := S) ?_ ?_
  · simp only [tOrM_ap, tNotM_ap, toT_ap, eB_ap, aCons_ap, eVar, List.getElem?_cons_zero, List.getElem?_cons_succ, bind_ok, eC_ap, aNil_ap, i1, asB_bl, Bool.not_true, Bool.false_eq_true, if_false, eOp_ap, fLen_h (.loc hc), fLen_h (.loc hb), lc, lb, gNe_int]
    simp
  obtain ⟨ls', S', e, ⟨x, y, z, rfl⟩, rfl⟩ := forGo_inv (chk := always) (g := gN 2) (body := (sSeq (sSet 3 (eOp gIx (eVar 0) (eVar 2)))
  (sSeq (sIf (tOrM (tNotM (toT (eB fIsi (aCons (eVar 3) (aCons (eC (.ty .tuple)) aNil))))) (tOrM (toT (eOp gNe (eB fLen (aCons (eVar 3) aNil)) (eC (.int 4)))) (toT (eOp gNe (eOp gIx (eVar 3) (eC (.int 0))) (eC (.str n_store))))))
  (sRet (eC (.bl false)))
  sNil)
  (sSeq (sFor (iR2 (eC (.int 1)) (eC (.int 4))) (gN 4)
  (sIf (tNotM (toT (eCall f_law_whole [] (aCons (eOp gIx (eVar 3) (eVar 4)) aNil))))
  (sRet (eC (.bl false)))
  sNil))
  (sIf (tOrM (toT (eOp gNe (eOp gIx (eVar 3) (eC (.int 1))) (eOp gIx (eOp gIx (eVar 1) (eVar 2)) (eC (.int 3))))) (tOrM (toT (eOp gNe (eOp gIx (eVar 3) (eC (.int 2))) (eOp gIx (eOp gIx (eVar 1) (eVar 2)) (eC (.int 0))))) (toT (eOp gNe (eOp gIx (eVar 3) (eC (.int 3))) (eOp gIx (eOp gIx (eVar 1) (eVar 2)) (eC (.int 1)))))))
  (sRet (eC (.bl false)))
  sNil))))) (fun _ ls T => (∃ x y z, ls = [some (.loc c), some (.loc b), x, y, z]) ∧ T = S) (rngL 0 st.length) 0 [some (.loc c), some (.loc b), none, none, none] S (by
      rintro j x ls T hx ⟨⟨x2, x3, x4, rfl⟩, rfl⟩
      obtain ⟨hj, rfl⟩ := rng_get hx
      have hs : st[j]? = some st[j] := List.getElem?_eq_getElem hj
      obtain ⟨s, es⟩ : ∃ s, s = st[j] := ⟨_, rfl⟩
      rw [← es] at hs
      clear es
      refine ⟨rfl, _, rfl, [some (.loc c), some (.loc b), some (.int j), some (chV s), some (.int 3)], T, .inl ?_, ⟨_, _, _, rfl⟩, rfl⟩
      have g1 : gIx (.loc c) (.int (j : Int)) T = .ok (chV s) T := gIx_loc (seq_of_get hc) (chL_get hs)
      have g2 : gIx (.loc b) (.int (j : Int)) T = .ok (stV s) T := gIx_loc (seq_of_get hb) (stL_get hs)
      have c0 : gIx (chV s) (.int 0) T = .ok (.str n_store) T := gIx_tup (i := 0) rfl
      have c1 : gIx (chV s) (.int 1) T = .ok (.int s.p) T := gIx_tup (i := 1) rfl
      have c2 : gIx (chV s) (.int 2) T = .ok (.int s.f) T := gIx_tup (i := 2) rfl
      have c3 : gIx (chV s) (.int 3) T = .ok (.int s.o) T := gIx_tup (i := 3) rfl
      refine q_set (w := chV s) (S1 := T) (by rw [eOp_ap, eVar_of rfl, bind_ok, eVar_of rfl, bind_ok, g1]) ?_
      simp only [List.set_cons_zero, List.set_cons_succ]
      refine q_no (S1 := T) ?_ ?_
      · have i2 : fIsi [chV s, .ty .tuple] T = .ok (.bl true) T := rfl
        have l2 : fLen [chV s] T = .ok (.int 4) T := rfl
        simp only [tOrM_ap, tNotM_ap, toT_ap, eB_ap, aCons_ap, eVar, List.getElem?_cons_zero, List.getElem?_cons_succ, bind_ok, eC_ap, aNil_ap, i2, asB_bl, Bool.not_true, Bool.false_eq_true, if_false, eOp_ap, l2, gNe_int, c0, gNe_str]
        simp
      have wbody : ∀ (k : Int) (w : Int) (a4 : Option PV), gIx (chV s) (.int k) T = .ok (.int w) T → sIf (tNotM (toT (eCall f_law_whole [] (aCons (eOp gIx (eVar 3) (eVar 4)) aNil)))) (sRet (eC (.bl false))) sNil [some (.loc c), some (.loc b), some (.int j), some (chV s), some (.int k)] T
          = .nx [some (.loc c), some (.loc b), some (.int j), some (chV s), some (.int k)] T := by
        intro k w a4 hg
        simp only [sIf_ap, tNotM_ap, toT_ap, eCall_ap, aCons_ap, eOp_ap, eVar, List.getElem?_cons_zero, List.getElem?_cons_succ, bind_ok, hg, aNil_ap, List.append_nil, whole_ok, asB_bl, then_ok, Bool.not_true, Bool.false_eq_true, if_false, sNil_ap]
      have ir : iR2 (eC (.int 1)) (eC (.int 4)) [some (.loc c), some (.loc b), some (.int j), some (chV s), x4] T = .ok ⟨[.int 1, .int 2, .int 3], always⟩ T := by
        unfold iR2
        simp only [eC_ap, bind_ok]
        rfl
      refine q_nx (ls1 := [some (.loc c), some (.loc b), some (.int j), some (chV s), some (.int 3)]) (S1 := T) (sFor_nx ir ?_) ?_
      · dsimp only
        rw [forGo_cons (ls1 := [some (.loc c), some (.loc b), some (.int j), some (chV s), some (.int 1)]) rfl rfl, wbody 1 _ none c1, loopK_nx,
          forGo_cons (ls1 := [some (.loc c), some (.loc b), some (.int j), some (chV s), some (.int 2)]) rfl rfl, wbody 2 _ none c2, loopK_nx,
          forGo_cons (ls1 := [some (.loc c), some (.loc b), some (.int j), some (chV s), some (.int 3)]) rfl rfl, wbody 3 _ none c3, loopK_nx, forGo_nil rfl]
      · simp only [sIf_ap, tOrM_ap, toT_ap, eOp_ap, eVar, List.getElem?_cons_zero, List.getElem?_cons_succ, bind_ok, eC_ap, c1, c2, c3, g2, stIx0, stIx1, stIx3, gNe_int, asB_bl]
        simp) (fun _ _ _ => rfl) ⟨⟨_, _, _, rfl⟩, rfl⟩
  refine q_nx (sFor_nx (iR1_ok (n := st.length) ?_ (by omega)) e) rfl
  simp only [eB_ap, aCons_ap, eVar, List.getElem?_cons_zero, List.getElem?_cons_succ, bind_ok, aNil_ap, fLen_h (.loc hb), lb]
/-! ### writing -/
def wr1 (fr : List (List Int)) (s : St) : List (List Int) := fr.set s.f ((fr.getD s.f []).set s.o s.v)
def wr (fr : List (List Int)) (st : List St) : List (List Int) := st.foldl wr1 fr
def Rows (S : Sto) (a : Nat) (fr : List (List Int)) : Prop := ∀ (i : Nat) (r : List Int), fr[i]? = some r → S[a + i]? = some (.lst (intsL r))
theorem getD_some {fr : List (List Int)} {i : Nat} (h : i < fr.length) : fr[i]? = some (fr.getD i []) := by rw [List.getD_eq_getElem?_getD, List.getElem?_eq_getElem h]; rfl
theorem fr2_wr1 {fr : List (List Int)} {s : St} (hf : Fr2 fr) (hs : s.Ok) : Fr2 (wr1 fr s) := by
  refine ⟨by rw [wr1, List.length_set]; exact hf.1, fun r hr => ?_⟩
  rcases List.mem_or_eq_of_mem_set hr with h | rfl
  · exact hf.2 r h
  · rw [List.length_set]
    have h1 := hs.f
    exact hf.2 _ (List.mem_of_getElem? (getD_some (by rw [hf.1]; exact h1)))
theorem rows_set {S : Sto} {a : Nat} {fr : List (List Int)} {s : St} (h : Rows S a fr) (hf : Fr2 fr) (hs : s.Ok) : Rows (S.set (a + s.f) (.lst (intsL ((fr.getD s.f []).set s.o s.v)))) a (wr1 fr s) := by
  intro i r hr
  have h1 := hs.f
  have hg := h s.f _ (getD_some (by rw [hf.1]; exact h1))
  unfold wr1 at hr
  by_cases q : s.f = i
  · subst q
    rw [List.getElem?_set_self (by rw [hf.1]; exact h1)] at hr
    cases hr
    exact List.getElem?_set_self (lt_of_get hg)
  · rw [List.getElem?_set_ne q] at hr
    rw [List.getElem?_set_ne (by omega)]
    exact h i r hr
theorem off_set {S : Sto} {a j : Nat} {s : St} {o : OB} (hs : s.Ok) (h : Off a j) : (S.set (a + s.f) o)[j]? = S[j]? := by
  have := hs.f
  refine List.getElem?_set_ne ?_
  unfold Off at h
  omega
theorem sSub_ok {S : Sto} {ls : Ls} {o i e : ME} {w : PV} {n k : Nat} {xs : List PV} (he : e ls S = .ok w S) (ho : o ls S = .ok (.loc n) S) (hi : i ls S = .ok (.int (k : Int)) S) (hn : S[n]? = some (.lst xs)) (hk : k < xs.length) :
    sSub o i e ls S = .nx ls (S.set n (.lst (xs.set k w))) := by
  unfold sSub
  rw [he, then_ok, ho, then_ok, hi, then_ok]
  dsimp only
  rw [lstAt_of hn]
  dsimp only
  have : L2.ixN xs.length (k : Int) = some k := by
    unfold L2.ixN
    rw [if_pos (by omega), if_pos (by omega)]; simp
  rw [this]
theorem take_succ {st : List St} {j : Nat} {s : St} (h : st[j]? = some s) : st.take (j + 1) = st.take j ++ [s] := by rw [List.take_add_one, h]; rfl
theorem wr_succ {fr : List (List Int)} {st : List St} {j : Nat} {s : St} (h : st[j]? = some s) : wr fr (st.take (j + 1)) = wr1 (wr fr (st.take j)) s := by rw [take_succ h]; unfold wr; rw [List.foldl_append]; rfl
theorem fr2_wr {fr : List (List Int)} (hf : Fr2 fr) : ∀ (st : List St), (∀ s ∈ st, s.Ok) → Fr2 (wr fr st) := by
  intro st
  induction st generalizing fr with
  | nil => intro _; exact hf
  | cons s r ih => intro h; exact ih (fr2_wr1 hf (h s List.mem_cons_self)) fun x hx => h x (List.mem_cons_of_mem _ hx)
theorem st_get {st : List St} {j : Nat} {x : PV} (h : (stL st)[j]? = some x) : ∃ s, st[j]? = some s ∧ x = stV s := by
  unfold stL at h
  rw [List.getElem?_map] at h
  obtain ⟨s, hs, rfl⟩ := Option.map_eq_some_iff.mp h
  exact ⟨s, hs, rfl⟩
theorem row16 {fr : List (List Int)} {s : St} (hf : Fr2 fr) (hs : s.Ok) : s.o < (intsL (fr.getD s.f [])).length := by
  have h1 := hs.f
  have := hf.2 _ (List.mem_of_getElem? (getD_some (i := s.f) (by rw [hf.1]; exact h1)))
  rw [intsL_len, this]; exact hs.o
theorem intsL_set {r : List Int} {k : Nat} {v : Int} : (intsL r).set k (.int v) = intsL (r.set k v) := by unfold intsL; rw [List.map_set]
/-- the law's own frames -/
theorem own_ok {S : Sto} {l a n : Nat} {fr : List (List Int)} {st : List St} {a0 a1 a4 a5 a6 a7 : Option PV} (h : FrAt S l a fr) (hf : Fr2 fr) (hn : S[n]? = some (.lst (stL st))) (hst : ∀ s ∈ st, s.Ok) (ol : Off a l) (on : Off a n) :
    ∃ a5' S', sFor (iSeq (eVar 3)) (gN 5) (sSub (eOp gIx (eVar 2) (eOp gIx (eVar 5) (eC (.int 0)))) (eOp gIx (eVar 5) (eC (.int 1))) (eOp gIx (eVar 5) (eC (.int 2)))) [a0, a1, some (.loc l), some (.loc n), a4, a5, a6, a7] S
      = .nx [a0, a1, some (.loc l), some (.loc n), a4, a5', a6, a7] S' ∧ S'.length = S.length ∧ (∀ j, Off a j → S'[j]? = S[j]?) ∧ FrAt S' l a (wr fr st) := by
  obtain ⟨ls', S', e, ⟨a5', rfl⟩, hl, hr, ho⟩ := forGo_inv (chk := wkOf (.loc n) (stL st)) (g := gN 5) (body := (sSub (eOp gIx (eVar 2) (eOp gIx (eVar 5) (eC (.int 0)))) (eOp gIx (eVar 5) (eC (.int 1))) (eOp gIx (eVar 5) (eC (.int 2)))))
    (fun i ls T => (∃ x, ls = [a0, a1, some (.loc l), some (.loc n), a4, x, a6, a7]) ∧ T.length = S.length ∧ Rows T a (wr fr (st.take i)) ∧ ∀ j, Off a j → T[j]? = S[j]?) (stL st) 0 [a0, a1, some (.loc l), some (.loc n), a4, a5, a6, a7] S (by
      rintro j x ls T hx ⟨⟨x5, rfl⟩, hl, hr, ho⟩
      obtain ⟨s, hs, rfl⟩ := st_get hx
      have hsk := hst s (List.mem_of_getElem? hs)
      rw [Nat.zero_add] at hr ⊢
      have f2 := fr2_wr hf (st.take j) fun s h => hst s (List.mem_of_mem_take h)
      have h4 := f2.1
      have hsf := hsk.f
      refine ⟨wk_ok (.loc (by rw [ho n on]; exact hn)), _, rfl, [a0, a1, some (.loc l), some (.loc n), a4, some (stV s), a6, a7], T.set (a + s.f) (.lst ((intsL ((wr fr (st.take j)).getD s.f [])).set s.o (.int s.v))), .inl ?_, ⟨_, rfl⟩, by rw [List.length_set, hl], ?_, fun i hi => ?_⟩
      · have g0 : gIx (.loc l) (.int (s.f : Int)) T = .ok (.loc (a + s.f)) T := gIx_loc (seq_of_get (by rw [ho l ol]; exact h.1)) (locsL_get (by rw [hf.1]; exact hsf))
        refine sSub_ok (n := a + s.f) (k := s.o) (xs := intsL ((wr fr (st.take j)).getD s.f [])) ?_ ?_ ?_ (hr s.f _ (getD_some (by rw [h4]; exact hsf))) (row16 f2 hsk)
        · simp only [eOp_ap, eVar, List.set_cons_zero, List.set_cons_succ, List.getElem?_cons_zero, List.getElem?_cons_succ, bind_ok, eC_ap, stIx2]
        · simp only [eOp_ap, eVar, List.set_cons_zero, List.set_cons_succ, List.getElem?_cons_zero, List.getElem?_cons_succ, bind_ok, eC_ap, stIx0, g0]
        · simp only [eOp_ap, eVar, List.set_cons_zero, List.set_cons_succ, List.getElem?_cons_zero, List.getElem?_cons_succ, bind_ok, eC_ap, stIx1]
      · rw [wr_succ hs, intsL_set]
        exact rows_set hr f2 hsk
      · rw [off_set hsk hi, ho i hi]) (by
      rintro ls T ⟨_, _, _, ho⟩
      exact wk_ok (.loc (by rw [ho n on]; exact hn))) ⟨⟨_, rfl⟩, rfl, h.2, fun _ _ => rfl⟩
  have ht : st.take (0 + (stL st).length) = st := by rw [Nat.zero_add]; exact List.take_of_length_le (by simp [stL])
  rw [ht] at hr
  refine ⟨a5', S', sFor_nx (iSeq_h rfl (.loc hn)) e, hl, ho, ⟨?_, hr⟩⟩
  rw [ho l ol, (fr2_wr hf st hst).1, ← hf.1]
  exact h.1
/-- drain -/
theorem drain_ok {S : Sto} {m a b : Nat} {fr : List (List Int)} {st : List St} (h : Mach S m a fr) (hf : Fr2 fr) (hb : S[b]? = some (.lst (stL st))) (hst : ∀ s ∈ st, s.Ok) (hz : st.length ≤ 1000) (ob : Off a b) :
    ∃ S', f_drain [.loc m, .loc b] S = .ok (.loc S.length) (S'.set b (.lst []) ++ [.lst (chL st), .lst (stL st)]) ∧ S'.length = S.length ∧ (∀ j, Off a j → S'[j]? = S[j]?) ∧ Rows S' a (wr fr st) := by
  obtain ⟨g, nf, np, nq, q0, q1, r0, r1, M⟩ := h
  have hlim := limE
  have hcopy : iSeq (eB fList (aCons (eVar 1) aNil)) [some (.loc m), some (.loc b), some (.loc S.length), none, none, none, none] (S ++ [.lst []]) = .ok ⟨stL st, wkOf (.loc (S.length + 1)) (stL st)⟩ (S ++ [.lst [], .lst (stL st)]) := by
    refine iSeq_h ?_ (.loc (get_at (k := 1)))
    rw [eB_ap, aCons_ap, eVar_of rfl]
    simp only [bind_ok, aNil_ap]
    rw [fList_h (.loc (get_old hb))]
    simp
  obtain ⟨ls', T, e, ⟨x3, x4, x5, x6, S', rfl, rfl, hl, hr, ho⟩⟩ := forGo_inv (chk := wkOf (.loc (S.length + 1)) (stL st)) (g := (gT (gsCons (gN 3) (gsCons (gN 4) (gsCons (gN 5) (gsCons (gN 6) gsNil)))))) (body := (sSeq (sSub (eOp gIx (eFld tab n_frames (eVar 0)) (eVar 3)) (eVar 4) (eVar 5))
  (sExpr (eMt kList mAppend (eVar 2) (aCons (eTup (aCons (eC (.str n_store)) (aCons (eVar 6) (aCons (eVar 3) (aCons (eVar 4) aNil))))) aNil)))))
    (fun i ls T => ∃ x3 x4 x5 x6 S', ls = [some (.loc m), some (.loc b), some (.loc S.length), x3, x4, x5, x6] ∧ T = S' ++ [.lst (chL (st.take i)), .lst (stL st)] ∧ S'.length = S.length ∧ Rows S' a (wr fr (st.take i)) ∧ ∀ j, Off a j → S'[j]? = S[j]?)
    (stL st) 0 [some (.loc m), some (.loc b), some (.loc S.length), none, none, none, none] (S ++ [.lst [], .lst (stL st)]) (by
      rintro j x ls T hx ⟨x3, x4, x5, x6, S', rfl, rfl, hl, hr, ho⟩
      obtain ⟨s, hs, rfl⟩ := st_get hx
      have hsk := hst s (List.mem_of_getElem? hs)
      rw [Nat.zero_add] at hr ⊢
      have f2 := fr2_wr hf (st.take j) fun s h => hst s (List.mem_of_mem_take h)
      have h4 := f2.1
      have hsf := hsk.f
      have hrow := hr s.f _ (getD_some (by rw [h4]; exact hsf))
      refine ⟨wk_ok (.loc (by rw [← hl]; exact get_at (k := 1))), [some (.loc m), some (.loc b), some (.loc S.length), some (.int s.f), some (.int s.o), some (.int s.v), some (.int s.p)], rfl, [some (.loc m), some (.loc b), some (.loc S.length), some (.int s.f), some (.int s.o), some (.int s.v), some (.int s.p)],
        S'.set (a + s.f) (.lst ((intsL ((wr fr (st.take j)).getD s.f [])).set s.o (.int s.v))) ++ [.lst (chL (st.take (j + 1))), .lst (stL st)], .inl ?_, _, _, _, _, S'.set (a + s.f) (.lst ((intsL ((wr fr (st.take j)).getD s.f [])).set s.o (.int s.v))), rfl, rfl, by rw [List.length_set, hl], ?_, fun i hi => ?_⟩
      · obtain ⟨o1, o2, _⟩ := M.off
        have ef : eFld tab n_frames (eVar 0) [some (.loc m), some (.loc b), some (.loc S.length), some (.int s.f), some (.int s.o), some (.int s.v), some (.int s.p)] (S' ++ [.lst (chL (st.take j)), .lst (stL st)]) = .ok (.loc nf) (S' ++ [.lst (chL (st.take j)), .lst (stL st)]) :=
          eFld_ok rfl (get_old (by rw [ho m o1]; exact M.me)) (by decide +kernel) rfl
        have g0 : gIx (.loc nf) (.int (s.f : Int)) (S' ++ [.lst (chL (st.take j)), .lst (stL st)]) = .ok (.loc (a + s.f)) (S' ++ [.lst (chL (st.take j)), .lst (stL st)]) := gIx_loc (seq_of_get (get_old (by rw [ho nf o2]; exact M.fr.1))) (locsL_get (by rw [hf.1]; exact hsf))
        refine q_nx (sSub_ok (n := a + s.f) (k := s.o) (w := .int s.v) (xs := intsL ((wr fr (st.take j)).getD s.f [])) rfl ?_ rfl (get_old hrow) (row16 f2 hsk)) ?_
        · simp only [eOp_ap, ef, bind_ok, eVar, List.getElem?_cons_zero, List.getElem?_cons_succ, g0]
        rw [List.set_append_left _ _ (lt_of_get hrow)]
        obtain ⟨U, hU⟩ : ∃ U, U = S'.set (a + s.f) (.lst ((intsL ((wr fr (st.take j)).getD s.f [])).set s.o (.int s.v))) := ⟨_, rfl⟩
        rw [← hU]
        have hUl : U.length = S.length := by rw [hU, List.length_set, hl]
        refine (app_ok (A := U) (B := [.lst (stL st)]) (B' := [.lst (stL st)]) (w := chV s) (by rw [eVar_of rfl, hUl]) ?_ ?_).trans ?_
        · rfl
        · unfold chL; rw [List.length_map]; have := List.length_take_le' j st; omega
        · rw [take_succ hs]; unfold chL; rw [List.map_append]; rfl
      · rw [wr_succ hs, intsL_set]
        exact rows_set hr f2 hsk
      · rw [off_set hsk hi, ho i hi]) (by
      rintro ls T ⟨_, _, _, _, S', _, rfl, hl, _, ho⟩
      exact wk_ok (.loc (by rw [← hl]; exact get_at (k := 1)))) ⟨_, _, _, _, S, rfl, rfl, rfl, M.fr.2, fun _ _ => rfl⟩
  have ht : st.take (0 + (stL st).length) = st := by rw [Nat.zero_add]; exact List.take_of_length_le (by simp [stL])
  rw [ht] at hr e
  refine ⟨S', fnOf_rt rfl ?_, hl, ho, hr⟩
  show m_drain [some (.loc m), some (.loc b), none, none, none, none, none] S = _
  unfold m_drain
  have e0 : eLst aNil [some (.loc m), some (.loc b), none, none, none, none, none] S = .ok (.loc S.length) (S ++ [.lst []]) := by
    have : (0 : Nat) ≤ lim := by decide
    simp [eLst, this]
  refine q_set e0 ?_
  refine q_nx (sFor_nx hcopy e) ?_
  have hb' : (S' ++ [.lst (chL st), .lst (stL st)])[b]? = some (.lst (stL st)) := get_old (by rw [ho b ob]; exact hb)
  have hbl : b < S'.length := by rw [hl]; exact lt_of_get hb
  have ek : kList (.loc b) (S' ++ [.lst (chL st), .lst (stL st)]) = true := by unfold kList; dsimp only; rw [seq_of_get hb']; rfl
  have ec : mClear (.loc b) [] (S' ++ [.lst (chL st), .lst (stL st)]) = .ok .non (S'.set b (.lst []) ++ [.lst (chL st), .lst (stL st)]) := by
    unfold mClear
    dsimp only
    rw [lstAt_of hb']
    dsimp only
    rw [List.set_append_left _ _ hbl]
  refine q_nx (ls1 := [some (.loc m), some (.loc b), some (.loc S.length), x3, x4, x5, x6]) (S1 := S'.set b (.lst []) ++ [.lst (chL st), .lst (stL st)]) ?_ rfl
  rw [sExpr_ap, eMt_ap, eVar_of rfl, bind_ok, if_pos ek, aNil_ap, bind_ok, ec, then_ok]
end K33

set_option Elab.async false
set_option linter.all false
set_option maxRecDepth 100000
set_option maxHeartbeats 1000000
namespace K33
open GL PySem
theorem after {S Z S' : Sto} {m a b : Nat} {fr fr' : List (List Int)} (h : Mach S m a fr) (h4 : fr.length = 4) (he : fr'.length = 4) (hb : S.length ≤ b) (ho : ∀ j, Off a j → S'[j]? = (S ++ Z)[j]?) (hr : Rows S' a fr') :
    Mach (S'.set b (.lst [])) m a fr' ∧ ∀ j, j < S.length → Off a j → (S'.set b (.lst []))[j]? = S[j]? := by
  have k : ∀ j, j < S.length → Off a j → (S'.set b (.lst []))[j]? = S[j]? := fun j h1 h2 => by
    rw [List.getElem?_set_ne (by omega), ho j h2, List.getElem?_append_left h1]
  refine ⟨h.upd (by rw [he, h4]) (fun j _ h2 => ?_) (fun i r hi => ?_), k⟩
  · by_cases q : j < S.length
    · exact .inl (k j q h2)
    · exact .inr (List.getElem?_eq_none (by omega))
  · have h5 : i < fr.length := by rw [h4, ← he]; exact (List.getElem?_eq_some_iff.mp hi).1
    obtain ⟨g, nf, np, nq, q0, q1, r0, r1, M⟩ := h
    have := lt_of_get (M.fr.2 i _ (getD_some h5))
    rw [List.getElem?_set_ne (by omega)]
    exact hr i r hi
theorem empty_ok {ls : Ls} {S : Sto} : eLst aNil ls S = .ok (.loc S.length) (S ++ [OB.lst []]) := by
  have : (0 : Nat) ≤ lim := by decide
  simp [eLst, this]
theorem stores_len : ∀ (st : List St), st.length ≤ 1000 ∨ 1000 < st.length := fun st => by omega
theorem plain : ∀ ns : List Int, ns.length ≤ 63 → ∃ S, f_law [.loc 0] [.rol (ns.map .int)] = .ok (.bl true) S := by
  intro ns _
  obtain ⟨ds, e1, hd⟩ := row_ok (n := 0) (ns := ns) (most := 100) (S := [.rol (ns.map .int)]) rfl (by decide)
  obtain ⟨S0, hS0⟩ : ∃ S0 : Sto, S0 = [.rol (ns.map .int)] := ⟨_, rfl⟩
  rw [← hS0] at e1 ⊢
  have sd : seqAt (S0 ++ [OB.lst (intsL ds)]) S0.length = some (intsL ds) := seq_new
  generalize hr1 : S0.length = r1 at e1 sd
  generalize hSa : S0 ++ [OB.lst (intsL ds)] = Sa at e1 sd
  have ep : f_law_pick [.loc r1, .int 6, .int 256] Sa = .ok (.int (pickV ds 6 256)) Sa := pick_ok (i := 6) sd (by decide)
  have e2 := frames_ok (S := Sa) (b := pickV ds 6 256)
  have hf := frB_ok (b := pickV ds 6 256)
  have hfr := frAt_new (S := Sa) (fr := frB (pickV ds 6 256))
  have hSbl : (Sa ++ OB.lst (locsL (Sa.length + 1) (frB (pickV ds 6 256)).length) :: (frB (pickV ds 6 256)).map (fun r => OB.lst (intsL r))).length = Sa.length + 5 := by simp [hf.1]
  have sd2 := seq_old (X := OB.lst (locsL (Sa.length + 1) (frB (pickV ds 6 256)).length) :: (frB (pickV ds 6 256)).map (fun r => OB.lst (intsL r))) sd
  generalize Sa ++ OB.lst (locsL (Sa.length + 1) (frB (pickV ds 6 256)).length) :: (frB (pickV ds 6 256)).map (fun r => OB.lst (intsL r)) = Sb at e2 hfr hSbl sd2
  generalize frB (pickV ds 6 256) = fr at hf hfr
  generalize hl : Sa.length = l at e2 hfr hSbl
  obtain ⟨st, e3, hst, hz⟩ := stores_ok sd2
  have hn : (Sb ++ [OB.lst (stL st)])[Sb.length]? = some (.lst (stL st)) := get_app
  have hfr2 := hfr.old (X := [OB.lst (stL st)])
  have hScl : (Sb ++ [OB.lst (stL st)]).length = l + 6 := by rw [List.length_append, hSbl]; rfl
  generalize Sb ++ [OB.lst (stL st)] = Sc at e3 hn hfr2 hScl
  rw [hSbl] at e3 hn
  -- the copy, the guest, the machine
  have e4 := copies_ok (v := 5) (ls := [some (.loc 0), some (.loc r1), some (.loc l), some (.loc (l + 5)), none, none, none, none]) (t := ⟨locsL (l + 1) fr.length, wkOf (.loc l) (locsL (l + 1) fr.length)⟩) (it := iSeq (eVar 2)) (S := Sc) (A := Sc) (rows := fr.map intsL)
    (iSeq_h rfl (.loc hfr2.1)) (by simp) (fun i acc Y => wk_ok (i := i) (.loc (get_old hfr2.1))) (by rw [List.length_map, hf.1]; decide) (by simp) hfr2.hld
  have hc : FrAt (Sc ++ OB.lst (locsL (Sc.length + 1) (fr.map intsL).length) :: (fr.map intsL).map OB.lst) Sc.length (Sc.length + 1) fr := by
    have := frAt_new (S := Sc) (fr := fr)
    rw [List.length_map, List.map_map]
    exact this
  have hn4 := get_old (X := OB.lst (locsL (Sc.length + 1) (fr.map intsL).length) :: (fr.map intsL).map OB.lst) hn
  have hfr4 := hfr2.old (X := OB.lst (locsL (Sc.length + 1) (fr.map intsL).length) :: (fr.map intsL).map OB.lst)
  have hSdl : (Sc ++ OB.lst (locsL (Sc.length + 1) (fr.map intsL).length) :: (fr.map intsL).map OB.lst).length = l + 11 := by simp [hf.1, hScl]
  generalize Sc ++ OB.lst (locsL (Sc.length + 1) (fr.map intsL).length) :: (fr.map intsL).map OB.lst = Sd at e4 hc hn4 hfr4 hSdl
  obtain ⟨X, eg⟩ := guest_ok hc hf
  have hg : (Sd ++ OB.ins n_Guest (guestF fr) :: X)[Sd.length]? = some (.ins n_Guest (guestF fr)) := get_mid
  have hn5 := get_old (X := OB.ins n_Guest (guestF fr) :: X) hn4
  have hfr5 := hfr4.old (X := OB.ins n_Guest (guestF fr) :: X)
  have hSel : l + 12 ≤ (Sd ++ OB.ins n_Guest (guestF fr) :: X).length := by simp [hSdl]; omega
  have e5 := eMake_ok (C := n_Guest) (d := [(.tup pagesL), (.tup [(.int 0), .non]), (.tup [(.int 60), (.int 60)]), (.tup [])]) (args := aCons (eLc (iSeq (eVar 2)) (gN 5) tYesM (eB fList (aCons (eVar 5) aNil)) [5]) aNil) (ls := [some (.loc 0), some (.loc r1), some (.loc l), some (.loc (l + 5)), none, none, none, none]) (S := Sc) (ws := [.loc Sc.length]) (S1 := Sd) (by rw [aCons_ap, e4]; rfl) eg
  generalize Sd ++ OB.ins n_Guest (guestF fr) :: X = Se at eg hg hn5 hfr5 hSel e5
  obtain ⟨X2, em, hM⟩ := mach_init hg hf
  have e6 := eMake_ok (C := n_Machine) (d := []) (args := aCons (eMake n_Guest f_Guest_init [(.tup pagesL), (.tup [(.int 0), .non]), (.tup [(.int 60), (.int 60)]), (.tup [])] (aCons (eLc (iSeq (eVar 2)) (gN 5) tYesM (eB fList (aCons (eVar 5) aNil)) [5]) aNil)) aNil) (ls := [some (.loc 0), some (.loc r1), some (.loc l), some (.loc (l + 5)), none, none, none, none]) (S := Sc) (ws := [.loc Sd.length]) (S1 := Se) (by rw [aCons_ap, e5]; rfl) em
  have hn6 := get_old (X := X2) hn5
  have hfr6 := hfr5.old (X := X2)
  have hm : l + 12 ≤ Se.length := hSel
  generalize hmm : Se.length = m at hM e6 hm
  have hSfl : m ≤ (Se ++ X2).length := by rw [List.length_append, hmm]; omega
  generalize Se ++ X2 = Sf at hM e6 hn6 hfr6 hSfl
  -- the rest
  obtain ⟨Y, ek⟩ := key_ok hM hf.two
  have hM7 := hM.old (X := Y)
  have hn7 := get_old (X := Y) hn6
  have hfr7 := hfr6.old (X := Y)
  have me : ∃ fs, Sf[m]? = some (.ins n_Machine fs) ∧ lookN n_key fs = none := by
    obtain ⟨g, nf, np, nq, q0, q1, r0, r1, M⟩ := hM
    exact ⟨_, M.me, rfl⟩
  obtain ⟨fs, me1, me2⟩ := me
  have e7 : eSl (eMeth n_Machine n_key f_Machine_key [] (eVar 4) aNil) (oYes (eC (.int 1))) oNo [some (.loc 0), some (.loc r1), some (.loc l), some (.loc (l + 5)), some (.loc m), none, none, none] Sf = .ok (.tup restL) (Sf ++ Y) := by
    unfold eSl
    rw [eMeth_ok rfl me1 me2 rfl ek]
    rfl
  have hSgl : m ≤ (Sf ++ Y).length := by rw [List.length_append]; omega
  generalize Sf ++ Y = Sg at ek hM7 hn7 hfr7 e7 hSgl
  -- the buffer
  have e8 : eB fList (aCons (eVar 3) aNil) [some (.loc 0), some (.loc r1), some (.loc l), some (.loc (l + 5)), some (.loc m), none, some (.tup restL), none] Sg = .ok (.loc Sg.length) (Sg ++ [OB.lst (stL st)]) := by
    rw [eB_ap, aCons_ap, eVar_of rfl]
    simp only [bind_ok, aNil_ap]
    exact fList_h (.loc hn7)
  have hb8 : (Sg ++ [OB.lst (stL st)])[Sg.length]? = some (.lst (stL st)) := get_app
  obtain ⟨Z, es⟩ := state_ok (hM7.old (X := [OB.lst (stL st)])) hf.two (hfr7.old (X := [OB.lst (stL st)]))
  have ea := alln_ok hb8 (get_old (X := [OB.lst (stL st)]) hn7)
  have hb9 := get_old (X := Z) hb8
  have hM9 := (hM7.old (X := [OB.lst (stL st)])).old (X := Z)
  have offb : Off (m + 2) Sg.length := by
    obtain ⟨g, nf, np, nq, q0, q1, r0, r1, M⟩ := hM7
    have h1 := M.fr.2 3 _ (getD_some (by rw [hf.1]; decide))
    have := lt_of_get h1
    unfold Off; omega
  -- the first drain
  obtain ⟨D, ed, hDl, hDo, hDr⟩ := drain_ok hM9 hf.two hb9 hst hz offb
  obtain ⟨b, hbb⟩ : ∃ b, b = Sg.length := ⟨_, rfl⟩
  have hf2 := fr2_wr hf.two st hst
  obtain ⟨hMj, kj⟩ := after hM7 hf.1 hf2.1 (Nat.le_refl Sg.length) (fun j h => by rw [hDo j h, List.append_assoc]) hDr
  have hbl : Sg.length < D.length := by rw [hDl]; exact lt_of_get hb9
  have hDb : (D.set Sg.length (.lst []))[Sg.length]? = some (.lst []) := List.getElem?_set_self hbl
  have hDn : (D.set Sg.length (.lst []))[l + 5]? = some (.lst (stL st)) := (kj _ (lt_of_get hn7) (by unfold Off; omega)).trans hn7
  have hDf : FrAt (D.set Sg.length (.lst [])) l (l + 1) fr := ⟨(kj _ (lt_of_get hfr7.1) (by unfold Off; omega)).trans hfr7.1, fun i r h => by
    have h4 : i < 4 := by rw [← hf.1]; exact (List.getElem?_eq_some_iff.mp h).1
    exact (kj _ (lt_of_get (hfr7.2 i r h)) (by unfold Off; omega)).trans (hfr7.2 i r h)⟩
  have hD'l : (D.set Sg.length (.lst [])).length = (Sg ++ [OB.lst (stL st)] ++ Z).length := by rw [List.length_set, hDl]
  have hch : (D.set Sg.length (.lst []) ++ [OB.lst (chL st), .lst (stL st)])[(Sg ++ [OB.lst (stL st)] ++ Z).length]? = some (.lst (chL st)) := by rw [← hD'l]; exact get_at (k := 0)
  have ech := changes_ok hch (get_old (X := [OB.lst (chL st), .lst (stL st)]) hDn) hz
  rw [← hbb] at hDb hDn hDf hch ech hMj ed
  have hMJ := hMj.old (X := [OB.lst (chL st), .lst (stL st)])
  have hJb := get_old (X := [OB.lst (chL st), .lst (stL st)]) hDb
  have hJn := get_old (X := [OB.lst (chL st), .lst (stL st)]) hDn
  have hJf := hDf.old (X := [OB.lst (chL st), .lst (stL st)])
  generalize hJ : D.set b (.lst []) ++ [OB.lst (chL st), .lst (stL st)] = J at ed ech hMJ hJb hJn hJf
  generalize hnine : Sg ++ [OB.lst (stL st)] ++ Z = S9 at es ed ech hD'l
  have hbm : m ≤ b := by rw [hbb]; exact hSgl
  -- the law's frames
  obtain ⟨a5, T, eT, hTl, hTo, hTf⟩ := own_ok (a0 := some (.loc 0)) (a1 := some (.loc r1)) (a4 := some (.loc m)) (a5 := none) (a6 := some (.tup restL)) (a7 := some (.loc b)) hJf hf.two hJn hst (by unfold Off; omega) (by unfold Off; omega)
  have hMT : Mach T m (m + 2) (wr fr st) := hMJ.upd rfl (fun j h1 h2 => .inl (hTo j (by unfold Off; omega))) (fun i r h => by
    rw [hTo _ (by unfold Off; omega)]
    obtain ⟨g, nf, np, nq, q0, q1, r0, r1, M⟩ := hMJ
    exact M.fr.2 i r h)
  have hTb : T[b]? = some (.lst (stL [])) := by rw [hTo b (by unfold Off; omega)]; exact hJb
  obtain ⟨Z2, es2⟩ := state_ok hMT hf2 hTf
  have hT2b := get_old (X := Z2) hTb
  have hMT2 := hMT.old (X := Z2)
  have hTf2 := hTf.old (X := Z2)
  generalize T ++ Z2 = T2 at es2 hT2b hMT2 hTf2
  have ea2 := alln_ok (S := T2 ++ [.lst (stL [])]) (st := []) (get_old hT2b) (c := T2.length) get_app
  have hT3b := get_old (X := [OB.lst (stL [])]) hT2b
  have hMT3 := hMT2.old (X := [OB.lst (stL [])])
  have hTf3 := hTf2.old (X := [OB.lst (stL [])])
  generalize hT3 : T2 ++ [OB.lst (stL [])] = T3 at ea2 hT3b hMT3 hTf3
  rw [← hbb] at offb
  obtain ⟨D2, ed2, hD2l, hD2o, hD2r⟩ := drain_ok hMT3 hf2 hT3b (fun s h => by cases h) (by decide) offb
  have hD2b : D2[b]? = some (.lst []) := by rw [hD2o b offb]; exact hT3b
  have hset : D2.set b (.lst []) = D2 := by
    obtain ⟨h1, h2⟩ := List.getElem?_eq_some_iff.mp hD2b
    rw [← h2]; exact List.set_getElem_self h1
  rw [hset] at ed2
  have hMD : Mach D2 m (m + 2) (wr fr st) := hMT3.upd rfl (fun j h1 h2 => .inl (hD2o j h2)) hD2r
  have hfD : FrAt D2 l (l + 1) (wr fr st) := ⟨by rw [hD2o l (by unfold Off; omega)]; exact hTf3.1, fun i r h => by
    have h4 : i < 4 := by rw [← hf2.1]; exact (List.getElem?_eq_some_iff.mp h).1
    rw [hD2o _ (by unfold Off; omega)]; exact hTf3.2 i r h⟩
  have hc4 : (D2 ++ [OB.lst (chL []), .lst (stL [])])[T3.length]? = some (.lst (chL [])) := by rw [← hD2l]; exact get_at (k := 0)
  have hM4 := hMD.old (X := [OB.lst (chL []), .lst (stL [])])
  have hf4 := hfD.old (X := [OB.lst (chL []), .lst (stL [])])
  have hb4 := get_old (X := [OB.lst (chL []), .lst (stL [])]) hD2b
  generalize D2 ++ [OB.lst (chL []), .lst (stL [])] = T4 at ed2 hc4 hM4 hf4 hb4
  have ech2 := changes_ok (S := T4 ++ [OB.lst (stL [])]) (st := []) (get_old hc4) (b := T4.length) get_app (by decide)
  have hM5 := hM4.old (X := [OB.lst (stL [])])
  have hf5 := hf4.old (X := [OB.lst (stL [])])
  have hb5 := get_old (X := [OB.lst (stL [])]) hb4
  generalize hT5 : T4 ++ [OB.lst (stL [])] = T5 at ech2 hM5 hf5 hb5
  have eeq : gEq (.loc b) (.loc T5.length) (T5 ++ [OB.lst (stL [])]) = .ok (.bl true) (T5 ++ [OB.lst (stL [])]) := eqM_self rfl (st_dat (st := []) (get_old hb5)) (st_dat (st := []) get_app)
  obtain ⟨Z6, es6⟩ := state_ok (hM5.old (X := [OB.lst (stL [])])) hf2 (hf5.old (X := [OB.lst (stL [])]))
  refine ⟨T5 ++ [OB.lst (stL [])] ++ Z6, fnOf_rt rfl ?_⟩
  show m_law [some (.loc 0), none, none, none, none, none, none, none] S0 = _
  unfold m_law
  refine q_set (q_call rfl e1) ?_
  refine q_set (q_call (S1 := Sa) (ws := [.int (pickV ds 6 256)]) (by rw [aCons_ap, q_call rfl ep]; rfl) e2) ?_
  refine q_set (q_call rfl e3) ?_
  refine q_set e6 ?_
  refine q_set e7 ?_
  refine q_set e8 ?_
  rw [← hbb] at ea ⊢
  refine q_no (S1 := S9) ?_ ?_
  · rw [tOrM_ap, tNotM_ap, toT_ap, q_call rfl ea, bind_ok, asB_bl, bind_ok, bind_ok]
    simp only [Bool.not_true, Bool.false_eq_true, if_false]
    rw [tNotM_ap, toT_ap, q_call rfl es]
    rfl
  refine q_no (S1 := J) ?_ ?_
  · have i1 : fIsi [.loc b, .ty .list] J = .ok (.bl true) J := by
      have t1 : tyP J (.loc b) = some .list := by unfold tyP; simp only [hJb]
      unfold fIsi
      dsimp only
      rw [t1]; rfl
    rw [tOrM_ap, tNotM_ap, toT_ap, q_call (ws := [.loc S9.length, .loc (l + 5)]) (S1 := J) (by rw [aCons_ap, q_call rfl ed]; rfl) ech, bind_ok, asB_bl, bind_ok, bind_ok]
    simp only [Bool.not_true, Bool.false_eq_true, if_false]
    rw [tOrM_ap, tNotM_ap, toT_ap, eB_ap, aCons_ap, eVar_of rfl]
    simp only [bind_ok, aCons_ap, eC_ap, aNil_ap, i1, asB_bl, Bool.not_true, Bool.false_eq_true, if_false]
    rw [toT_ap, eOp_ap, eB_ap, aCons_ap, eVar_of rfl]
    simp only [bind_ok, aNil_ap, fLen_h (.loc hJb), eC_ap]
    rfl
  refine q_nx eT ?_
  refine q_no (S1 := T3) ?_ ?_
  · rw [tOrM_ap, tNotM_ap, toT_ap, q_call rfl es2, bind_ok, asB_bl, bind_ok, bind_ok]
    simp only [Bool.not_true, Bool.false_eq_true, if_false]
    rw [tNotM_ap, toT_ap, q_call (ws := [.loc b, .loc T2.length]) (S1 := T3) (by rw [aCons_ap, eVar_of rfl, bind_ok, aCons_ap, empty_ok, ← hT3]; rfl) ea2]
    rfl
  rw [sRet_ap]
  have f1 : eCall f_law_changes [] (aCons (eCall f_drain [] (aCons (eVar 4) (aCons (eVar 7) aNil))) (aCons (eLst aNil) aNil)) [some (.loc 0), some (.loc r1), some (.loc l), some (.loc (l + 5)), some (.loc m), a5, some (.tup restL), some (.loc b)] T3 = .ok (.bl true) T5 :=
    q_call (ws := [.loc T3.length, .loc T4.length]) (S1 := T5) (by rw [aCons_ap, q_call rfl ed2, bind_ok, aCons_ap, empty_ok, ← hT5]; rfl) ech2
  have f2 : eOp gEq (eVar 7) (eLst aNil) [some (.loc 0), some (.loc r1), some (.loc l), some (.loc (l + 5)), some (.loc m), a5, some (.tup restL), some (.loc b)] T5 = .ok (.bl true) (T5 ++ [OB.lst (stL [])]) := by
    rw [eOp_ap, eVar_of rfl, bind_ok, empty_ok, bind_ok]
    exact eeq
  unfold eAndM
  rw [f1]
  simp only [bind_ok]
  rw [f2]
  simp only [bind_ok]
  rw [q_call rfl es6]
  rfl
end K33

set_option Elab.async false
set_option linter.all false
set_option maxRecDepth 100000
set_option maxHeartbeats 400000
namespace K33
open PySem PySem.Spec PyProof.Rows L2 GL
def top (i : Nat) : Stmt := PySem.Challenge.pw_guestlives_k33_buffered_stores_in_order.main.body.getD i (.Pass ⟨0, 0, 0, 0⟩)
abbrev st_law_row : Stmt := top 24
abbrev N_law_row : List Str := ["_law_script", "_law_most", "_law_row_here", "_law_cell", "_law_rest", "_law_k"]
abbrev ps_law_row : List Str := ["_law_script", "_law_most"]
theorem sc_law_row : FnScope N_law_row ps_law_row (defScope st_law_row) := ⟨rfl, rfl, rfl, by decide +kernel, rfl, by decide +kernel, by decide +kernel⟩
abbrev st_law_frames : Stmt := top 27
abbrev N_law_frames : List Str := ["_law_base", "_law_frames_here", "_law_frame", "_law_offset"]
abbrev ps_law_frames : List Str := ["_law_base"]
theorem sc_law_frames : FnScope N_law_frames ps_law_frames (defScope st_law_frames) := ⟨rfl, rfl, rfl, by decide +kernel, rfl, by decide +kernel, by decide +kernel⟩
abbrev st_law_pick : Stmt := top 25
abbrev N_law_pick : List Str := ["_law_row_here", "_law_at", "_law_limit", "_law_value"]
abbrev ps_law_pick : List Str := ["_law_row_here", "_law_at", "_law_limit"]
theorem sc_law_pick : FnScope N_law_pick ps_law_pick (defScope st_law_pick) := ⟨rfl, rfl, rfl, by decide +kernel, rfl, by decide +kernel, by decide +kernel⟩
abbrev st_law_stores : Stmt := top 28
abbrev N_law_stores : List Str := ["_law_row_here", "_law_stores_here", "_law_k", "_law_frame", "_law_offset", "_law_number"]
abbrev ps_law_stores : List Str := ["_law_row_here"]
theorem sc_law_stores : FnScope N_law_stores ps_law_stores (defScope st_law_stores) := ⟨rfl, rfl, rfl, by decide +kernel, rfl, by decide +kernel, by decide +kernel⟩
abbrev st_Processor_init : Stmt := inClass (top 10) 0
abbrev N_Processor_init : List Str := ["self", "start"]
abbrev ps_Processor_init : List Str := ["self", "start"]
theorem sc_Processor_init : FnScope N_Processor_init ps_Processor_init (defScope st_Processor_init) := ⟨rfl, rfl, rfl, by decide +kernel, rfl, by decide +kernel, by decide +kernel⟩
abbrev st_Machine_init : Stmt := inClass (top 11) 0
abbrev N_Machine_init : List Str := ["self", "guest", "frame", "start"]
abbrev ps_Machine_init : List Str := ["self", "guest"]
theorem sc_Machine_init : FnScope N_Machine_init ps_Machine_init (defScope st_Machine_init) := ⟨rfl, rfl, rfl, by decide +kernel, rfl, by decide +kernel, by decide +kernel⟩
abbrev st_within : Stmt := top 20
abbrev N_within : List Str := ["values", "limits", "index"]
abbrev ps_within : List Str := ["values", "limits"]
theorem sc_within : FnScope N_within ps_within (defScope st_within) := ⟨rfl, rfl, rfl, by decide +kernel, rfl, by decide +kernel, by decide +kernel⟩
abbrev st_check_guest : Stmt := top 21
abbrev N_check_guest : List Str := ["guest", "frame", "page", "started", "start", "one"]
abbrev ps_check_guest : List Str := ["guest"]
theorem sc_check_guest : FnScope N_check_guest ps_check_guest (defScope st_check_guest) := ⟨rfl, rfl, rfl, by decide +kernel, rfl, by decide +kernel, by decide +kernel⟩
abbrev st_Guest_init : Stmt := inClass (top 22) 0
abbrev N_Guest_init : List Str := ["self", "frames", "pages", "starts", "handlers", "writes", "frame", "page", "one"]
abbrev ps_Guest_init : List Str := ["self", "frames", "pages", "starts", "handlers", "writes"]
theorem sc_Guest_init : FnScope N_Guest_init ps_Guest_init (defScope st_Guest_init) := ⟨rfl, rfl, rfl, by decide +kernel, rfl, by decide +kernel, by decide +kernel⟩
abbrev st_Processor_key : Stmt := inClass (top 10) 1
abbrev N_Processor_key : List Str := ["self", "flags"]
abbrev ps_Processor_key : List Str := ["self"]
theorem sc_Processor_key : FnScope N_Processor_key ps_Processor_key (defScope st_Processor_key) := ⟨rfl, rfl, rfl, by decide +kernel, rfl, by decide +kernel, by decide +kernel⟩
abbrev st_Machine_key : Stmt := inClass (top 11) 1
abbrev N_Machine_key : List Str := ["self", "frames", "frame", "one"]
abbrev ps_Machine_key : List Str := ["self"]
theorem sc_Machine_key : FnScope N_Machine_key ps_Machine_key (defScope st_Machine_key) := ⟨rfl, rfl, rfl, by decide +kernel, rfl, by decide +kernel, by decide +kernel⟩
abbrev st_newest : Stmt := top 16
abbrev N_newest : List Str := ["buffer", "frame", "offset", "one"]
abbrev ps_newest : List Str := ["buffer", "frame", "offset"]
theorem sc_newest : FnScope N_newest ps_newest (defScope st_newest) := ⟨rfl, rfl, rfl, by decide +kernel, rfl, by decide +kernel, by decide +kernel⟩
abbrev st_law_newest : Stmt := top 29
abbrev N_law_newest : List Str := ["_law_stores_here", "_law_frame", "_law_offset", "_law_number", "_law_one"]
abbrev ps_law_newest : List Str := ["_law_stores_here", "_law_frame", "_law_offset"]
theorem sc_law_newest : FnScope N_law_newest ps_law_newest (defScope st_law_newest) := ⟨rfl, rfl, rfl, by decide +kernel, rfl, by decide +kernel, by decide +kernel⟩
abbrev st_law_whole : Stmt := top 26
abbrev N_law_whole : List Str := ["_law_value"]
abbrev ps_law_whole : List Str := ["_law_value"]
theorem sc_law_whole : FnScope N_law_whole ps_law_whole (defScope st_law_whole) := ⟨rfl, rfl, rfl, by decide +kernel, rfl, by decide +kernel, by decide +kernel⟩
abbrev st_law_all_newest : Stmt := top 30
abbrev N_law_all_newest : List Str := ["_law_buffer", "_law_stores_here", "_law_frame", "_law_offset", "_law_answer", "_law_number"]
abbrev ps_law_all_newest : List Str := ["_law_buffer", "_law_stores_here"]
theorem sc_law_all_newest : FnScope N_law_all_newest ps_law_all_newest (defScope st_law_all_newest) := ⟨rfl, rfl, rfl, by decide +kernel, rfl, by decide +kernel, by decide +kernel⟩
abbrev st_law_state : Stmt := top 32
abbrev N_law_state : List Str := ["_law_machine", "_law_frames_here", "_law_rest", "_law_key", "_law_one", "_law_frame", "_law_offset"]
abbrev ps_law_state : List Str := ["_law_machine", "_law_frames_here", "_law_rest"]
theorem sc_law_state : FnScope N_law_state ps_law_state (defScope st_law_state) := ⟨rfl, rfl, rfl, by decide +kernel, rfl, by decide +kernel, by decide +kernel⟩
abbrev st_law_changes : Stmt := top 31
abbrev N_law_changes : List Str := ["_law_changes_here", "_law_stores_here", "_law_k", "_law_one", "_law_j"]
abbrev ps_law_changes : List Str := ["_law_changes_here", "_law_stores_here"]
theorem sc_law_changes : FnScope N_law_changes ps_law_changes (defScope st_law_changes) := ⟨rfl, rfl, rfl, by decide +kernel, rfl, by decide +kernel, by decide +kernel⟩
abbrev st_drain : Stmt := top 17
abbrev N_drain : List Str := ["machine", "buffer", "changes", "frame", "offset", "number", "page"]
abbrev ps_drain : List Str := ["machine", "buffer"]
theorem sc_drain : FnScope N_drain ps_drain (defScope st_drain) := ⟨rfl, rfl, rfl, by decide +kernel, rfl, by decide +kernel, by decide +kernel⟩
abbrev st_law : Stmt := top 33
abbrev N_law : List Str := ["_law_script", "_law_row_here", "_law_frames_here", "_law_stores_here", "_law_machine", "_law_one", "_law_rest", "_law_buffer"]
abbrev ps_law : List Str := ["_law_script"]
theorem sc_law : FnScope N_law ps_law (defScope st_law) := ⟨rfl, rfl, rfl, by decide +kernel, rfl, by decide +kernel, by decide +kernel⟩
theorem e_Guest : toS n_Guest = ("Guest" : Str) := by decide +kernel
theorem e_Machine : toS n_Machine = ("Machine" : Str) := by decide +kernel
theorem e_Processor : toS n_Processor = ("Processor" : Str) := by decide +kernel
structure Tx (K : PySem.W.Frag) (mg : Str → Option Value) : Prop where
  b_abs : mg "abs" = none
  b_all : mg "all" = none
  b_bool : mg "bool" = none
  b_int : mg "int" = none
  b_isinstance : mg "isinstance" = none
  b_len : mg "len" = none
  b_list : mg "list" = none
  b_range : mg "range" = none
  b_reversed : mg "reversed" = none
  b_tuple : mg "tuple" = none
  g__law_row : mg "_law_row" = some (.ref (He.ga K "_law_row"))
  g__law_frames : mg "_law_frames" = some (.ref (He.ga K "_law_frames"))
  g__law_pick : mg "_law_pick" = some (.ref (He.ga K "_law_pick"))
  g__law_stores : mg "_law_stores" = some (.ref (He.ga K "_law_stores"))
  g_within : mg "within" = some (.ref (He.ga K "within"))
  g_check_guest : mg "check_guest" = some (.ref (He.ga K "check_guest"))
  g_newest : mg "newest" = some (.ref (He.ga K "newest"))
  g__law_newest : mg "_law_newest" = some (.ref (He.ga K "_law_newest"))
  g__law_whole : mg "_law_whole" = some (.ref (He.ga K "_law_whole"))
  g__law_all_newest : mg "_law_all_newest" = some (.ref (He.ga K "_law_all_newest"))
  g__law_state : mg "_law_state" = some (.ref (He.ga K "_law_state"))
  g__law_changes : mg "_law_changes" = some (.ref (He.ga K "_law_changes"))
  g_drain : mg "drain" = some (.ref (He.ga K "drain"))
  g_law : mg "law" = some (.ref (He.ga K "law"))
  cl_Guest : Cls K (He.ga K "Guest")
  cl_Machine : Cls K (He.ga K "Machine")
  cl_Processor : Cls K (He.ga K "Processor")
  g_Guest : mg "Guest" = some (.ref (He.ga K "Guest"))
  mk_Guest : Mk K (He.ga K "Guest") (He.ma K (He.ga K "Guest") "__init__")
  g_Machine : mg "Machine" = some (.ref (He.ga K "Machine"))
  mk_Machine : Mk K (He.ga K "Machine") (He.ma K (He.ga K "Machine") "__init__")
  g_Processor : mg "Processor" = some (.ref (He.ga K "Processor"))
  mk_Processor : Mk K (He.ga K "Processor") (He.ma K (He.ga K "Processor") "__init__")
  me_Machine_key : Meth K (He.ga K "Machine") "key" (He.ma K (He.ga K "Machine") "key")
  me_Processor_key : Meth K (He.ga K "Processor") "key" (He.ma K (He.ga K "Processor") "key")
  c_ADDRESSES : GCon K mg "ADDRESSES" w_ADDRESSES
  c_CELLS : GCon K mg "CELLS" w_CELLS
  c_FRAMES : GCon K mg "FRAMES" w_FRAMES
  c_MOST_WRITES : GCon K mg "MOST_WRITES" w_MOST_WRITES
  c_NUMBERS : GCon K mg "NUMBERS" w_NUMBERS
  c_PAGES : GCon K mg "PAGES" w_PAGES
  c_PROCESSORS : GCon K mg "PROCESSORS" w_PROCESSORS
  c_REGISTERS : GCon K mg "REGISTERS" w_REGISTERS
  att : Atts K tab
  dv_Guest_init_0 : GVal K (.ref (He.dflAt ("Guest", some "__init__") 0 K)) (.tup [(.tup [(.int 0), (.int 7)]), (.tup [(.int 1), (.int 7)]), (.tup [(.int 2), (.int 7)]), (.tup [(.int 3), (.int 7)])])
  dv_Guest_init_1 : GVal K (.ref (He.dflAt ("Guest", some "__init__") 1 K)) (.tup [(.int 0), .non])
  dv_Guest_init_2 : GVal K (.ref (He.dflAt ("Guest", some "__init__") 2 K)) (.tup [(.int 60), (.int 60)])
  dv_Guest_init_3 : GVal K (.ref (He.dflAt ("Guest", some "__init__") 3 K)) (.tup [])
  d_law_row : ∃ fd, FunD K "_law_row" "_law_row" (defArgs st_law_row) (defBody st_law_row) (defScope st_law_row) ([] : List V) [] (He.fAd K ("_law_row", none)) fd
  d_law_frames : ∃ fd, FunD K "_law_frames" "_law_frames" (defArgs st_law_frames) (defBody st_law_frames) (defScope st_law_frames) ([] : List V) [] (He.fAd K ("_law_frames", none)) fd
  d_law_pick : ∃ fd, FunD K "_law_pick" "_law_pick" (defArgs st_law_pick) (defBody st_law_pick) (defScope st_law_pick) ([] : List V) [] (He.fAd K ("_law_pick", none)) fd
  d_law_stores : ∃ fd, FunD K "_law_stores" "_law_stores" (defArgs st_law_stores) (defBody st_law_stores) (defScope st_law_stores) ([] : List V) [] (He.fAd K ("_law_stores", none)) fd
  d_Processor_init : ∃ fd, FunD K "__init__" "Processor.__init__" (defArgs st_Processor_init) (defBody st_Processor_init) (defScope st_Processor_init) ([] : List V) [] (He.fAd K ("Processor", some "__init__")) fd
  d_Machine_init : ∃ fd, FunD K "__init__" "Machine.__init__" (defArgs st_Machine_init) (defBody st_Machine_init) (defScope st_Machine_init) ([] : List V) [] (He.fAd K ("Machine", some "__init__")) fd
  d_within : ∃ fd, FunD K "within" "within" (defArgs st_within) (defBody st_within) (defScope st_within) ([] : List V) [] (He.fAd K ("within", none)) fd
  d_check_guest : ∃ fd, FunD K "check_guest" "check_guest" (defArgs st_check_guest) (defBody st_check_guest) (defScope st_check_guest) ([] : List V) [] (He.fAd K ("check_guest", none)) fd
  d_Guest_init : ∃ fd, FunD K "__init__" "Guest.__init__" (defArgs st_Guest_init) (defBody st_Guest_init) (defScope st_Guest_init) ([.ref (He.dflAt ("Guest", some "__init__") 0 K), .ref (He.dflAt ("Guest", some "__init__") 1 K), .ref (He.dflAt ("Guest", some "__init__") 2 K), .ref (He.dflAt ("Guest", some "__init__") 3 K)] : List V) [] (He.fAd K ("Guest", some "__init__")) fd
  d_Processor_key : ∃ fd, FunD K "key" "Processor.key" (defArgs st_Processor_key) (defBody st_Processor_key) (defScope st_Processor_key) ([] : List V) [] (He.fAd K ("Processor", some "key")) fd
  d_Machine_key : ∃ fd, FunD K "key" "Machine.key" (defArgs st_Machine_key) (defBody st_Machine_key) (defScope st_Machine_key) ([] : List V) [] (He.fAd K ("Machine", some "key")) fd
  d_newest : ∃ fd, FunD K "newest" "newest" (defArgs st_newest) (defBody st_newest) (defScope st_newest) ([] : List V) [] (He.fAd K ("newest", none)) fd
  d_law_newest : ∃ fd, FunD K "_law_newest" "_law_newest" (defArgs st_law_newest) (defBody st_law_newest) (defScope st_law_newest) ([] : List V) [] (He.fAd K ("_law_newest", none)) fd
  d_law_whole : ∃ fd, FunD K "_law_whole" "_law_whole" (defArgs st_law_whole) (defBody st_law_whole) (defScope st_law_whole) ([] : List V) [] (He.fAd K ("_law_whole", none)) fd
  d_law_all_newest : ∃ fd, FunD K "_law_all_newest" "_law_all_newest" (defArgs st_law_all_newest) (defBody st_law_all_newest) (defScope st_law_all_newest) ([] : List V) [] (He.fAd K ("_law_all_newest", none)) fd
  d_law_state : ∃ fd, FunD K "_law_state" "_law_state" (defArgs st_law_state) (defBody st_law_state) (defScope st_law_state) ([] : List V) [] (He.fAd K ("_law_state", none)) fd
  d_law_changes : ∃ fd, FunD K "_law_changes" "_law_changes" (defArgs st_law_changes) (defBody st_law_changes) (defScope st_law_changes) ([] : List V) [] (He.fAd K ("_law_changes", none)) fd
  d_drain : ∃ fd, FunD K "drain" "drain" (defArgs st_drain) (defBody st_drain) (defScope st_drain) ([] : List V) [] (He.fAd K ("drain", none)) fd
  d_law : ∃ fd, FunD K "law" "law" (defArgs st_law) (defBody st_law) (defScope st_law) ([] : List V) [] (He.fAd K ("law", none)) fd
section
variable {P : Program} {w : World} {K : PySem.W.Frag} {mg : Str → Option Value} {base : Heap}
theorem fi_law_row (T : Tx K mg) {fd : FuncData} (F : FunD K "_law_row" "_law_row" (defArgs st_law_row) (defBody st_law_row) (defScope st_law_row) ([] : List V) [] (He.fAd K ("_law_row", none)) fd) : FI P w K mg base 1 (He.fAd K ("_law_row", none)) fd ps_law_row f_law_row := by
  have h := fi_of (P := P) (w := w) (mg := mg) (base := base) F sc_law_row (m := m_law_row) (k := 0) (fun cdv A outer s H E hr => by
    exact (iss_cons (is_set (i := 2) sc_law_row.nd (ie_lst ia_nil))
    (iss_cons (is_for (L2.passes_of rfl) rfl (ii_seq (ie_var 0)) (ig_name 3 sc_law_row.nd)
    (iss_cons (is_set (i := 4) sc_law_row.nd (ie_B call_abs ci_abs T.b_abs (by decide +kernel) (ia_cons (ie_BT call_int1 ci_int T.b_int (by decide +kernel) (ia_cons (ie_var 3) ia_nil)) ia_nil)))
    (iss_one (is_for (L2.passes_of rfl) rfl (ii_range1 T.b_range ie_int) (ig_name 5 sc_law_row.nd)
    (iss_cons (is_if (it_cmp op_lt oi_lt (ie_B call_len ci_len T.b_len (by decide +kernel) (ia_cons (ie_var 2) ia_nil)) (ie_var 1) (nomark _))
    (iss_one (is_expr (ie_mt PySem.F.plainAttrs_list PySem.F.slot_list_append PySem.F.type_list_append mt_append chk_list mi_append (ie_var 2) (ia_cons (ie_bin op_mod oi_mod (ie_var 4) ie_int) ia_nil))))
    iss_nil)
    (iss_cons (is_set (i := 4) sc_law_row.nd (ie_bin op_fdiv oi_div (ie_var 4) ie_int))
    (iss_one (is_if (it_cmp (or_eqM hr.units) oi_eq (ie_var 4) ie_int (nomark _))
    (iss_one is_break)
    iss_nil))))))))
    (iss_one (is_ret (ie_var 2))))))
  exact h
theorem ok_law_row (T : Tx K mg) : ∃ fd, FI P w K mg base 1 (He.fAd K ("_law_row", none)) fd ps_law_row f_law_row ∧ PySem.W.keepIn K (.ref (He.fAd K ("_law_row", none))) = true ∧ (∃ ds, Vals (([] : List V).drop 0 : List V) ds ∧ Binds K fd ps_law_row ds) := by
  obtain ⟨fd, F⟩ := T.d_law_row
  exact ⟨fd, fi_law_row T F, F.kp, ⟨[], .nil, F.bindsN fun _ _ _ _ _ _ us hl => match us, hl with | [_, _], _ => rfl⟩⟩
theorem fi_law_frames (T : Tx K mg) {fd : FuncData} (F : FunD K "_law_frames" "_law_frames" (defArgs st_law_frames) (defBody st_law_frames) (defScope st_law_frames) ([] : List V) [] (He.fAd K ("_law_frames", none)) fd) : FI P w K mg base 1 (He.fAd K ("_law_frames", none)) fd ps_law_frames f_law_frames := by
  have h := fi_of (P := P) (w := w) (mg := mg) (base := base) F sc_law_frames (m := m_law_frames) (k := 0) (fun cdv A outer s H E hr => by
    exact (iss_cons (is_set (i := 1) sc_law_frames.nd (ie_lst ia_nil))
    (iss_cons (is_for (L2.passes_of rfl) rfl (ii_range1 T.b_range ie_int) (ig_name 2 sc_law_frames.nd)
    (iss_one (is_expr (ie_mt PySem.F.plainAttrs_list PySem.F.slot_list_append PySem.F.type_list_append mt_append chk_list mi_append (ie_var 1) (ia_cons (ie_lc [("_law_offset", 3)] rfl rfl sc_law_frames.nd (ii_range1 T.b_range ie_int) (blkOk_by (own := [("_law_offset", 3)]) (N := N_law_frames) (sc := defScope st_law_frames) (by decide +kernel)) (by decide) (fun _ _ _ _ _ => (ig_name 3 sc_law_frames.nd)) (fun _ _ _ _ _ => its_nil) (fun _ _ _ _ _ => (ie_bin op_mod oi_mod (ie_BT call_int1 ci_int T.b_int (by decide +kernel) (ia_cons (ie_bin or_addM oi_add (ie_bin or_addM oi_add (ie_var 0) (ie_bin or_mulM oi_mul ie_int (ie_var 2))) (ie_var 3)) ia_nil)) ie_int))) ia_nil)))))
    (iss_one (is_ret (ie_var 1))))))
  exact h
theorem ok_law_frames (T : Tx K mg) : ∃ fd, FI P w K mg base 1 (He.fAd K ("_law_frames", none)) fd ps_law_frames f_law_frames ∧ PySem.W.keepIn K (.ref (He.fAd K ("_law_frames", none))) = true ∧ (∃ ds, Vals (([] : List V).drop 0 : List V) ds ∧ Binds K fd ps_law_frames ds) := by
  obtain ⟨fd, F⟩ := T.d_law_frames
  exact ⟨fd, fi_law_frames T F, F.kp, ⟨[], .nil, F.bindsN fun _ _ _ _ _ _ us hl => match us, hl with | [_], _ => rfl⟩⟩
theorem fi_law_pick (T : Tx K mg) {fd : FuncData} (F : FunD K "_law_pick" "_law_pick" (defArgs st_law_pick) (defBody st_law_pick) (defScope st_law_pick) ([] : List V) [] (He.fAd K ("_law_pick", none)) fd) : FI P w K mg base 1 (He.fAd K ("_law_pick", none)) fd ps_law_pick f_law_pick := by
  have h := fi_of (P := P) (w := w) (mg := mg) (base := base) F sc_law_pick (m := m_law_pick) (k := 0) (fun cdv A outer s H E hr => by
    exact (iss_cons (is_set (i := 3) sc_law_pick.nd ie_int)
    (iss_cons (is_if (it_cmp op_lt oi_lt (ie_var 1) (ie_B call_len ci_len T.b_len (by decide +kernel) (ia_cons (ie_var 0) ia_nil)) (nomark _))
    (iss_one (is_set (i := 3) sc_law_pick.nd (ie_ix (ie_var 0) (ie_var 1))))
    iss_nil)
    (iss_cons (is_if (it_cmp op_lt oi_lt (ie_bin or_addM oi_add (ie_var 1) ie_int) (ie_B call_len ci_len T.b_len (by decide +kernel) (ia_cons (ie_var 0) ia_nil)) (nomark _))
    (iss_one (is_set (i := 3) sc_law_pick.nd (ie_bin or_addM oi_add (ie_var 3) (ie_bin or_mulM oi_mul ie_int (ie_ix (ie_var 0) (ie_bin or_addM oi_add (ie_var 1) ie_int))))))
    iss_nil)
    (iss_one (is_ret (ie_bin op_mod oi_mod (ie_BT call_int1 ci_int T.b_int (by decide +kernel) (ia_cons (ie_var 3) ia_nil)) (ie_var 2))))))))
  exact h
theorem ok_law_pick (T : Tx K mg) : ∃ fd, FI P w K mg base 1 (He.fAd K ("_law_pick", none)) fd ps_law_pick f_law_pick ∧ PySem.W.keepIn K (.ref (He.fAd K ("_law_pick", none))) = true ∧ (∃ ds, Vals (([] : List V).drop 0 : List V) ds ∧ Binds K fd ps_law_pick ds) := by
  obtain ⟨fd, F⟩ := T.d_law_pick
  exact ⟨fd, fi_law_pick T F, F.kp, ⟨[], .nil, F.bindsN fun _ _ _ _ _ _ us hl => match us, hl with | [_, _, _], _ => rfl⟩⟩
theorem fi_law_stores (T : Tx K mg) {fd : FuncData} (F : FunD K "_law_stores" "_law_stores" (defArgs st_law_stores) (defBody st_law_stores) (defScope st_law_stores) ([] : List V) [] (He.fAd K ("_law_stores", none)) fd) : FI P w K mg base 2 (He.fAd K ("_law_stores", none)) fd ps_law_stores f_law_stores := by
  obtain ⟨fd_law_pick, F_law_pick, k_law_pick, ⟨ds_law_pick_3, v_law_pick_3, b_law_pick_3⟩⟩ := ok_law_pick (P := P) (w := w) (base := base) T
  have w_law_pick_3 : GVals K (([] : List V).drop 0) [] := trivial
  have h := fi_of (P := P) (w := w) (mg := mg) (base := base) F sc_law_stores (m := m_law_stores) (k := 1) (fun cdv A outer s H E hr => by
    exact (iss_cons (is_set (i := 1) sc_law_stores.nd (ie_lst ia_nil))
    (iss_cons (is_for (L2.passes_of rfl) rfl (ii_range1 T.b_range (ie_bin op_mod oi_mod (ie_BT call_int1 ci_int T.b_int (by decide +kernel) (ia_cons (ie_bin or_addM oi_add ie_int (ie_call (L2.takes_of rfl rfl rfl rfl) F_law_pick rfl (hr.mono (by decide)) T.g__law_pick k_law_pick b_law_pick_3 v_law_pick_3 w_law_pick_3 (ia_cons (ie_var 0) (ia_cons ie_int (ia_cons ie_int ia_nil))))) ia_nil)) ie_int)) (ig_name 2 sc_law_stores.nd)
    (iss_cons (is_set (i := 3) sc_law_stores.nd (ie_bin op_mod oi_mod (ie_BT call_int1 ci_int T.b_int (by decide +kernel) (ia_cons (ie_bin or_addM oi_add (ie_var 2) (ie_call (L2.takes_of rfl rfl rfl rfl) F_law_pick rfl (hr.mono (by decide)) T.g__law_pick k_law_pick b_law_pick_3 v_law_pick_3 w_law_pick_3 (ia_cons (ie_var 0) (ia_cons (ie_bin or_addM oi_add ie_int (ie_bin or_mulM oi_mul ie_int (ie_var 2))) (ia_cons ie_int ia_nil))))) ia_nil)) ie_int))
    (iss_cons (is_set (i := 4) sc_law_stores.nd (ie_bin op_mod oi_mod (ie_BT call_int1 ci_int T.b_int (by decide +kernel) (ia_cons (ie_bin or_addM oi_add (ie_bin or_mulM oi_mul ie_int (ie_var 2)) (ie_call (L2.takes_of rfl rfl rfl rfl) F_law_pick rfl (hr.mono (by decide)) T.g__law_pick k_law_pick b_law_pick_3 v_law_pick_3 w_law_pick_3 (ia_cons (ie_var 0) (ia_cons (ie_bin or_addM oi_add ie_int (ie_bin or_mulM oi_mul ie_int (ie_var 2))) (ia_cons ie_int ia_nil))))) ia_nil)) ie_int))
    (iss_cons (is_if (it_cmp (or_eqM hr.units) oi_eq (ie_bin op_mod oi_mod (ie_BT call_int1 ci_int T.b_int (by decide +kernel) (ia_cons (ie_bin or_addM oi_add (ie_var 2) (ie_call (L2.takes_of rfl rfl rfl rfl) F_law_pick rfl (hr.mono (by decide)) T.g__law_pick k_law_pick b_law_pick_3 v_law_pick_3 w_law_pick_3 (ia_cons (ie_var 0) (ia_cons (ie_bin or_addM oi_add ie_int (ie_bin or_mulM oi_mul ie_int (ie_var 2))) (ia_cons ie_int ia_nil))))) ia_nil)) ie_int) ie_int (nomark _))
    (iss_cons (is_set (i := 3) sc_law_stores.nd (ie_bin op_mod oi_mod (ie_BT call_int1 ci_int T.b_int (by decide +kernel) (ia_cons (ie_bin or_addM oi_add ie_int (ie_call (L2.takes_of rfl rfl rfl rfl) F_law_pick rfl (hr.mono (by decide)) T.g__law_pick k_law_pick b_law_pick_3 v_law_pick_3 w_law_pick_3 (ia_cons (ie_var 0) (ia_cons ie_int (ia_cons ie_int ia_nil))))) ia_nil)) ie_int))
    (iss_one (is_set (i := 4) sc_law_stores.nd (ie_bin op_mod oi_mod (ie_BT call_int1 ci_int T.b_int (by decide +kernel) (ia_cons (ie_bin or_addM oi_add ie_int (ie_call (L2.takes_of rfl rfl rfl rfl) F_law_pick rfl (hr.mono (by decide)) T.g__law_pick k_law_pick b_law_pick_3 v_law_pick_3 w_law_pick_3 (ia_cons (ie_var 0) (ia_cons ie_int (ia_cons ie_int ia_nil))))) ia_nil)) ie_int))))
    iss_nil)
    (iss_cons (is_set (i := 5) sc_law_stores.nd (ie_bin op_mod oi_mod (ie_BT call_int1 ci_int T.b_int (by decide +kernel) (ia_cons (ie_bin or_addM oi_add (ie_bin or_addM oi_add ie_int (ie_bin or_mulM oi_mul ie_int (ie_var 2))) (ie_call (L2.takes_of rfl rfl rfl rfl) F_law_pick rfl (hr.mono (by decide)) T.g__law_pick k_law_pick b_law_pick_3 v_law_pick_3 w_law_pick_3 (ia_cons (ie_var 0) (ia_cons (ie_bin or_addM oi_add ie_int (ie_bin or_mulM oi_mul ie_int (ie_var 2))) (ia_cons ie_int ia_nil))))) ia_nil)) ie_int))
    (iss_one (is_expr (ie_mt PySem.F.plainAttrs_list PySem.F.slot_list_append PySem.F.type_list_append mt_append chk_list mi_append (ie_var 1) (ia_cons (ie_tup (ia_cons (ie_var 3) (ia_cons (ie_var 4) (ia_cons (ie_var 5) (ia_cons (ie_bin op_mod oi_mod (ie_BT call_int1 ci_int T.b_int (by decide +kernel) (ia_cons (ie_bin or_addM oi_add (ie_bin or_addM oi_add ie_int (ie_var 2)) (ie_call (L2.takes_of rfl rfl rfl rfl) F_law_pick rfl (hr.mono (by decide)) T.g__law_pick k_law_pick b_law_pick_3 v_law_pick_3 w_law_pick_3 (ia_cons (ie_var 0) (ia_cons (ie_bin or_addM oi_add ie_int (ie_bin or_mulM oi_mul ie_int (ie_var 2))) (ia_cons ie_int ia_nil))))) ia_nil)) ie_int) ia_nil))))) ia_nil)))))))))
    (iss_one (is_ret (ie_var 1))))))
  exact h
theorem ok_law_stores (T : Tx K mg) : ∃ fd, FI P w K mg base 2 (He.fAd K ("_law_stores", none)) fd ps_law_stores f_law_stores ∧ PySem.W.keepIn K (.ref (He.fAd K ("_law_stores", none))) = true ∧ (∃ ds, Vals (([] : List V).drop 0 : List V) ds ∧ Binds K fd ps_law_stores ds) := by
  obtain ⟨fd, F⟩ := T.d_law_stores
  exact ⟨fd, fi_law_stores T F, F.kp, ⟨[], .nil, F.bindsN fun _ _ _ _ _ _ us hl => match us, hl with | [_], _ => rfl⟩⟩
theorem fi_Processor_init (T : Tx K mg) {fd : FuncData} (F : FunD K "__init__" "Processor.__init__" (defArgs st_Processor_init) (defBody st_Processor_init) (defScope st_Processor_init) ([] : List V) [] (He.fAd K ("Processor", some "__init__")) fd) : FI P w K mg base 1 (He.fAd K ("Processor", some "__init__")) fd ps_Processor_init f_Processor_init := by
  have h := fi_of (P := P) (w := w) (mg := mg) (base := base) F sc_Processor_init (m := m_Processor_init) (k := 0) (fun cdv A outer s H E hr => by
    exact (iss_cons (is_fld T.att (ie_var 0) ie_int (by decide +kernel))
    (iss_cons (is_if (it_cmp or_isNM oi_isN (ie_var 1) ie_non (nomark _))
    (iss_one (is_fld T.att (ie_var 0) (ie_var 1) (by decide +kernel)))
    iss_nil)
    (iss_cons (is_fld T.att (ie_var 0) (ie_bin or_mulM oi_mul (ie_lst (ia_cons ie_int ia_nil)) (ie_con T.c_REGISTERS)) (by decide +kernel))
    (iss_cons (is_fld T.att (ie_var 0) ie_int (by decide +kernel))
    (iss_cons (is_fld T.att (ie_var 0) ie_int (by decide +kernel))
    (iss_cons (is_fld T.att (ie_var 0) ie_int (by decide +kernel))
    (iss_cons (is_fld T.att (ie_var 0) ie_bl (by decide +kernel))
    (iss_cons (is_fld T.att (ie_var 0) ie_bl (by decide +kernel))
    (iss_cons (is_fld T.att (ie_var 0) (ie_tup (ia_cons ie_int (ia_cons ie_int (ia_cons ie_bl ia_nil)))) (by decide +kernel))
    (iss_one (is_fld T.att (ie_var 0) (ie_cmp or_isM oi_is (ie_var 1) ie_non (nomark _)) (by decide +kernel)))))))))))))
  exact h
theorem ok_Processor_init (T : Tx K mg) : ∃ fd, FI P w K mg base 1 (He.fAd K ("Processor", some "__init__")) fd ps_Processor_init f_Processor_init ∧ PySem.W.keepIn K (.ref (He.fAd K ("Processor", some "__init__"))) = true ∧ (∃ ds, Vals (([] : List V).drop 0 : List V) ds ∧ Binds K fd ps_Processor_init ds) := by
  obtain ⟨fd, F⟩ := T.d_Processor_init
  exact ⟨fd, fi_Processor_init T F, F.kp, ⟨[], .nil, F.bindsN fun _ _ _ _ _ _ us hl => match us, hl with | [_, _], _ => rfl⟩⟩
theorem fi_Machine_init (T : Tx K mg) {fd : FuncData} (F : FunD K "__init__" "Machine.__init__" (defArgs st_Machine_init) (defBody st_Machine_init) (defScope st_Machine_init) ([] : List V) [] (He.fAd K ("Machine", some "__init__")) fd) : FI P w K mg base 3 (He.fAd K ("Machine", some "__init__")) fd ps_Machine_init f_Machine_init := by
  obtain ⟨fd_Processor_init, F_Processor_init, k_Processor_init, ⟨ds_Processor_init_2, v_Processor_init_2, b_Processor_init_2⟩⟩ := ok_Processor_init (P := P) (w := w) (base := base) T
  have w_Processor_init_2 : GVals K (([] : List V).drop 0) [] := trivial
  have h := fi_of (P := P) (w := w) (mg := mg) (base := base) F sc_Machine_init (m := m_Machine_init) (k := 2) (fun cdv A outer s H E hr => by
    exact (iss_cons (is_fld T.att (ie_var 0) (ie_var 1) (by decide +kernel))
    (iss_cons (is_fld T.att (ie_var 0) (ie_lc [("frame", 2)] rfl rfl sc_Machine_init.nd (ii_seq (ie_fld T.att (ie_var 1) (by decide +kernel))) (blkOk_by (own := [("frame", 2)]) (N := N_Machine_init) (sc := defScope st_Machine_init) (by decide +kernel)) (by decide) (fun _ _ _ _ _ => (ig_name 2 sc_Machine_init.nd)) (fun _ _ _ _ _ => its_nil) (fun _ _ _ _ _ => (ie_BT call_list_of ci_list T.b_list (by decide +kernel) (ia_cons (ie_var 2) ia_nil)))) (by decide +kernel))
    (iss_cons (is_fld T.att (ie_var 0) (ie_BT call_list_of ci_list T.b_list (by decide +kernel) (ia_cons (ie_fld T.att (ie_var 1) (by decide +kernel)) ia_nil)) (by decide +kernel))
    (iss_cons (is_fld T.att (ie_var 0) (ie_lc [("start", 3)] rfl rfl sc_Machine_init.nd (ii_seq (ie_fld T.att (ie_var 1) (by decide +kernel))) (blkOk_by (own := [("start", 3)]) (N := N_Machine_init) (sc := defScope st_Machine_init) (by decide +kernel)) (by decide) (fun _ _ _ _ _ => (ig_name 3 sc_Machine_init.nd)) (fun _ _ _ _ _ => its_nil) (fun _ _ _ _ _ => (ie_make L2.takes0 T.mk_Processor (congrArg (He.ga K) e_Processor.symm) F_Processor_init rfl (hr.mono (by decide)) T.g_Processor b_Processor_init_2 v_Processor_init_2 w_Processor_init_2 (ia_cons (ie_var 3) ia_nil)))) (by decide +kernel))
    (iss_one (is_fld T.att (ie_var 0) ie_int (by decide +kernel))))))))
  exact h
theorem ok_Machine_init (T : Tx K mg) : ∃ fd, FI P w K mg base 3 (He.fAd K ("Machine", some "__init__")) fd ps_Machine_init f_Machine_init ∧ PySem.W.keepIn K (.ref (He.fAd K ("Machine", some "__init__"))) = true ∧ (∃ ds, Vals (([] : List V).drop 0 : List V) ds ∧ Binds K fd ps_Machine_init ds) := by
  obtain ⟨fd, F⟩ := T.d_Machine_init
  exact ⟨fd, fi_Machine_init T F, F.kp, ⟨[], .nil, F.bindsN fun _ _ _ _ _ _ us hl => match us, hl with | [_, _], _ => rfl⟩⟩
theorem fi_within (T : Tx K mg) {fd : FuncData} (F : FunD K "within" "within" (defArgs st_within) (defBody st_within) (defScope st_within) ([] : List V) [] (He.fAd K ("within", none)) fd) : FI P w K mg base 1 (He.fAd K ("within", none)) fd ps_within f_within := by
  have h := fi_of (P := P) (w := w) (mg := mg) (base := base) F sc_within (m := m_within) (k := 0) (fun cdv A outer s H E hr => by
    exact (iss_cons (is_if (it_cmp (or_neM hr.units) oi_ne (ie_B call_len ci_len T.b_len (by decide +kernel) (ia_cons (ie_var 0) ia_nil)) (ie_B call_len ci_len T.b_len (by decide +kernel) (ia_cons (ie_var 1) ia_nil)) (nomark _))
    (iss_one (is_ret ie_bl))
    iss_nil)
    (iss_cons (is_for (L2.passes_of rfl) rfl (ii_range1 T.b_range (ie_B call_len ci_len T.b_len (by decide +kernel) (ia_cons (ie_var 1) ia_nil))) (ig_name 2 sc_within.nd)
    (iss_one (is_if (it_not (it_chain op_le op_lt oi_le oi_lt ie_int (ie_ix (ie_var 0) (ie_var 2)) (ie_ix (ie_var 1) (ie_var 2))))
    (iss_one (is_ret ie_bl))
    iss_nil)))
    (iss_one (is_ret ie_bl)))))
  exact h
theorem ok_within (T : Tx K mg) : ∃ fd, FI P w K mg base 1 (He.fAd K ("within", none)) fd ps_within f_within ∧ PySem.W.keepIn K (.ref (He.fAd K ("within", none))) = true ∧ (∃ ds, Vals (([] : List V).drop 0 : List V) ds ∧ Binds K fd ps_within ds) := by
  obtain ⟨fd, F⟩ := T.d_within
  exact ⟨fd, fi_within T F, F.kp, ⟨[], .nil, F.bindsN fun _ _ _ _ _ _ us hl => match us, hl with | [_, _], _ => rfl⟩⟩
theorem fi_check_guest (T : Tx K mg) {fd : FuncData} (F : FunD K "check_guest" "check_guest" (defArgs st_check_guest) (defBody st_check_guest) (defScope st_check_guest) ([] : List V) [] (He.fAd K ("check_guest", none)) fd) : FI P w K mg base 2 (He.fAd K ("check_guest", none)) fd ps_check_guest f_check_guest := by
  obtain ⟨fd_within, F_within, k_within, ⟨ds_within_2, v_within_2, b_within_2⟩⟩ := ok_within (P := P) (w := w) (base := base) T
  have w_within_2 : GVals K (([] : List V).drop 0) [] := trivial
  have h := fi_of (P := P) (w := w) (mg := mg) (base := base) F sc_check_guest (m := m_check_guest) (k := 1) (fun cdv A outer s H E hr => by
    exact (iss_cons (is_if (it_w (iw_or (it_cmp (or_neM hr.units) oi_ne (ie_B call_len ci_len T.b_len (by decide +kernel) (ia_cons (ie_fld T.att (ie_var 0) (by decide +kernel)) ia_nil)) (ie_con T.c_FRAMES) (nomark _)) (iw_or1 (it_not (it_val (ie_B (cr_all rfl) ci_all T.b_all (by decide +kernel) (ia_cons (ie_lc [("frame", 1)] rfl rfl sc_check_guest.nd (ii_seq (ie_fld T.att (ie_var 0) (by decide +kernel))) (blkOk_by (own := [("frame", 1)]) (N := N_check_guest) (sc := defScope st_check_guest) (by decide +kernel)) (by decide) (fun _ _ _ _ _ => (ig_name 1 sc_check_guest.nd)) (fun _ _ _ _ _ => its_nil) (fun _ _ _ _ _ => (ie_call L2.takes0 F_within rfl (hr.mono (by decide)) T.g_within k_within b_within_2 v_within_2 w_within_2 (ia_cons (ie_var 1) (ia_cons (ie_bin or_mulM oi_mul (ie_lst (ia_cons (ie_con T.c_NUMBERS) ia_nil)) (ie_con T.c_CELLS)) ia_nil))))) ia_nil)))))))
    (iss_one is_bad)
    iss_nil)
    (iss_cons (is_if (it_w (iw_or (it_cmp (or_neM hr.units) oi_ne (ie_B call_len ci_len T.b_len (by decide +kernel) (ia_cons (ie_fld T.att (ie_var 0) (by decide +kernel)) ia_nil)) (ie_con T.c_PAGES) (nomark _)) (iw_or1 (it_not (it_val (ie_B (cr_all rfl) ci_all T.b_all (by decide +kernel) (ia_cons (ie_lc [("page", 2)] rfl rfl sc_check_guest.nd (ii_seq (ie_fld T.att (ie_var 0) (by decide +kernel))) (blkOk_by (own := [("page", 2)]) (N := N_check_guest) (sc := defScope st_check_guest) (by decide +kernel)) (by decide) (fun _ _ _ _ _ => (ig_name 2 sc_check_guest.nd)) (fun _ _ _ _ _ => its_nil) (fun _ _ _ _ _ => (ie_call L2.takes0 F_within rfl (hr.mono (by decide)) T.g_within k_within b_within_2 v_within_2 w_within_2 (ia_cons (ie_var 2) (ia_cons (ie_lst (ia_cons (ie_con T.c_FRAMES) (ia_cons ie_int ia_nil))) ia_nil))))) ia_nil)))))))
    (iss_one is_bad)
    iss_nil)
    (iss_cons (is_setLc [("start", 4)] rfl (i := 3) rfl sc_check_guest.nd rfl rfl (sw_true rfl rfl rfl (by decide +kernel)) (ii_seq (ie_fld T.att (ie_var 0) (by decide +kernel))) (blkOk_by (own := [("start", 4)]) (N := N_check_guest) (sc := defScope st_check_guest) (by decide +kernel)) (by decide) (fun _ _ _ _ _ => (ig_name 4 sc_check_guest.nd)) (fun _ _ _ _ _ => (its_one (it_cmp or_isNM oi_isN (ie_var 4) ie_non (nomark _)))) (fun _ _ _ _ _ => (ie_var 4)))
    (iss_cons (is_if (it_w (iw_or (it_cmp (or_neM hr.units) oi_ne (ie_B call_len ci_len T.b_len (by decide +kernel) (ia_cons (ie_fld T.att (ie_var 0) (by decide +kernel)) ia_nil)) (ie_con T.c_PROCESSORS) (nomark _)) (iw_or1 (it_not (it_val (ie_call (L2.takes_of rfl rfl rfl rfl) F_within rfl (hr.mono (by decide)) T.g_within k_within b_within_2 v_within_2 w_within_2 (ia_cons (ie_var 3) (ia_cons (ie_bin or_mulM oi_mul (ie_lst (ia_cons (ie_con T.c_ADDRESSES) ia_nil)) (ie_B call_len ci_len T.b_len (by decide +kernel) (ia_cons (ie_var 3) ia_nil))) ia_nil))))))))
    (iss_one is_bad)
    iss_nil)
    (iss_cons (is_if (it_not (it_val (ie_call (L2.takes_of rfl rfl rfl rfl) F_within rfl (hr.mono (by decide)) T.g_within k_within b_within_2 v_within_2 w_within_2 (ia_cons (ie_fld T.att (ie_var 0) (by decide +kernel)) (ia_cons (ie_bin or_mulM oi_mul (ie_lst (ia_cons (ie_con T.c_ADDRESSES) ia_nil)) (ie_con T.c_PROCESSORS)) ia_nil)))))
    (iss_one is_bad)
    iss_nil)
    (iss_one (is_if (it_w (iw_or (it_cmp op_gt oi_gt (ie_B call_len ci_len T.b_len (by decide +kernel) (ia_cons (ie_fld T.att (ie_var 0) (by decide +kernel)) ia_nil)) (ie_con T.c_MOST_WRITES) (nomark _)) (iw_or1 (it_not (it_val (ie_B (cr_all rfl) ci_all T.b_all (by decide +kernel) (ia_cons (ie_lc [("one", 5)] rfl rfl sc_check_guest.nd (ii_seq (ie_fld T.att (ie_var 0) (by decide +kernel))) (blkOk_by (own := [("one", 5)]) (N := N_check_guest) (sc := defScope st_check_guest) (by decide +kernel)) (by decide) (fun _ _ _ _ _ => (ig_name 5 sc_check_guest.nd)) (fun _ _ _ _ _ => its_nil) (fun _ _ _ _ _ => (ie_call L2.takes0 F_within rfl (hr.mono (by decide)) T.g_within k_within b_within_2 v_within_2 w_within_2 (ia_cons (ie_var 5) (ia_cons (ie_lst (ia_cons (ie_con T.c_FRAMES) (ia_cons (ie_con T.c_CELLS) (ia_cons (ie_con T.c_NUMBERS) ia_nil)))) ia_nil))))) ia_nil)))))))
    (iss_one is_bad)
    iss_nil))))))))
  exact h
theorem ok_check_guest (T : Tx K mg) : ∃ fd, FI P w K mg base 2 (He.fAd K ("check_guest", none)) fd ps_check_guest f_check_guest ∧ PySem.W.keepIn K (.ref (He.fAd K ("check_guest", none))) = true ∧ (∃ ds, Vals (([] : List V).drop 0 : List V) ds ∧ Binds K fd ps_check_guest ds) := by
  obtain ⟨fd, F⟩ := T.d_check_guest
  exact ⟨fd, fi_check_guest T F, F.kp, ⟨[], .nil, F.bindsN fun _ _ _ _ _ _ us hl => match us, hl with | [_], _ => rfl⟩⟩
theorem fi_Guest_init (T : Tx K mg) {fd : FuncData} (F : FunD K "__init__" "Guest.__init__" (defArgs st_Guest_init) (defBody st_Guest_init) (defScope st_Guest_init) ([.ref (He.dflAt ("Guest", some "__init__") 0 K), .ref (He.dflAt ("Guest", some "__init__") 1 K), .ref (He.dflAt ("Guest", some "__init__") 2 K), .ref (He.dflAt ("Guest", some "__init__") 3 K)] : List V) [] (He.fAd K ("Guest", some "__init__")) fd) : FI P w K mg base 3 (He.fAd K ("Guest", some "__init__")) fd ps_Guest_init f_Guest_init := by
  obtain ⟨fd_check_guest, F_check_guest, k_check_guest, ⟨ds_check_guest_1, v_check_guest_1, b_check_guest_1⟩⟩ := ok_check_guest (P := P) (w := w) (base := base) T
  have w_check_guest_1 : GVals K (([] : List V).drop 0) [] := trivial
  have h := fi_of (P := P) (w := w) (mg := mg) (base := base) F sc_Guest_init (m := m_Guest_init) (k := 2) (fun cdv A outer s H E hr => by
    exact (iss_cons (is_fld T.att (ie_var 0) (ie_BT call_tuple_of ci_tuple T.b_tuple (by decide +kernel) (ia_cons (ie_lc [("frame", 6)] rfl rfl sc_Guest_init.nd (ii_seq (ie_var 1)) (blkOk_by (own := [("frame", 6)]) (N := N_Guest_init) (sc := defScope st_Guest_init) (by decide +kernel)) (by decide) (fun _ _ _ _ _ => (ig_name 6 sc_Guest_init.nd)) (fun _ _ _ _ _ => its_nil) (fun _ _ _ _ _ => (ie_BT call_tuple_of ci_tuple T.b_tuple (by decide +kernel) (ia_cons (ie_var 6) ia_nil)))) ia_nil)) (by decide +kernel))
    (iss_cons (is_fld T.att (ie_var 0) (ie_BT call_tuple_of ci_tuple T.b_tuple (by decide +kernel) (ia_cons (ie_lc [("page", 7)] rfl rfl sc_Guest_init.nd (ii_seq (ie_var 2)) (blkOk_by (own := [("page", 7)]) (N := N_Guest_init) (sc := defScope st_Guest_init) (by decide +kernel)) (by decide) (fun _ _ _ _ _ => (ig_name 7 sc_Guest_init.nd)) (fun _ _ _ _ _ => its_nil) (fun _ _ _ _ _ => (ie_BT call_tuple_of ci_tuple T.b_tuple (by decide +kernel) (ia_cons (ie_var 7) ia_nil)))) ia_nil)) (by decide +kernel))
    (iss_cons (is_fld T.att (ie_var 0) (ie_BT call_tuple_of ci_tuple T.b_tuple (by decide +kernel) (ia_cons (ie_var 3) ia_nil)) (by decide +kernel))
    (iss_cons (is_fld T.att (ie_var 0) (ie_BT call_tuple_of ci_tuple T.b_tuple (by decide +kernel) (ia_cons (ie_var 4) ia_nil)) (by decide +kernel))
    (iss_cons (is_fld T.att (ie_var 0) (ie_BT call_tuple_of ci_tuple T.b_tuple (by decide +kernel) (ia_cons (ie_lc [("one", 8)] rfl rfl sc_Guest_init.nd (ii_seq (ie_var 5)) (blkOk_by (own := [("one", 8)]) (N := N_Guest_init) (sc := defScope st_Guest_init) (by decide +kernel)) (by decide) (fun _ _ _ _ _ => (ig_name 8 sc_Guest_init.nd)) (fun _ _ _ _ _ => its_nil) (fun _ _ _ _ _ => (ie_BT call_tuple_of ci_tuple T.b_tuple (by decide +kernel) (ia_cons (ie_var 8) ia_nil)))) ia_nil)) (by decide +kernel))
    (iss_one (is_expr (ie_call (L2.takes_of rfl rfl rfl rfl) F_check_guest rfl (hr.mono (by decide)) T.g_check_guest k_check_guest b_check_guest_1 v_check_guest_1 w_check_guest_1 (ia_cons (ie_var 0) ia_nil))))))))))
  exact h
theorem ok_Guest_init (T : Tx K mg) : ∃ fd, FI P w K mg base 3 (He.fAd K ("Guest", some "__init__")) fd ps_Guest_init f_Guest_init ∧ PySem.W.keepIn K (.ref (He.fAd K ("Guest", some "__init__"))) = true ∧ (∃ ds, Vals (([.ref (He.dflAt ("Guest", some "__init__") 0 K), .ref (He.dflAt ("Guest", some "__init__") 1 K), .ref (He.dflAt ("Guest", some "__init__") 2 K), .ref (He.dflAt ("Guest", some "__init__") 3 K)] : List V).drop 0 : List V) ds ∧ Binds K fd ps_Guest_init ds) := by
  obtain ⟨fd, F⟩ := T.d_Guest_init
  exact ⟨fd, fi_Guest_init T F, F.kp, F.binds1 2 0 (by simp) rfl fun _ _ _ _ _ _ _ us its hu hi => match us, hu, its, hi with | [_, _], _, [_, _, _, _], _ => ⟨_, rfl, rfl⟩⟩
theorem fi_Processor_key (T : Tx K mg) {fd : FuncData} (F : FunD K "key" "Processor.key" (defArgs st_Processor_key) (defBody st_Processor_key) (defScope st_Processor_key) ([] : List V) [] (He.fAd K ("Processor", some "key")) fd) : FI P w K mg base 1 (He.fAd K ("Processor", some "key")) fd ps_Processor_key f_Processor_key := by
  have h := fi_of (P := P) (w := w) (mg := mg) (base := base) F sc_Processor_key (m := m_Processor_key) (k := 0) (fun cdv A outer s H E hr => by
    exact (iss_cons (is_set (i := 1) sc_Processor_key.nd (ie_tup (ia_cons (ie_fld T.att (ie_var 0) (by decide +kernel)) (ia_cons (ie_fld T.att (ie_var 0) (by decide +kernel)) ia_nil))))
    (iss_one (is_ret (ie_tup (ia_cons (ie_fld T.att (ie_var 0) (by decide +kernel)) (ia_cons (ie_BT call_tuple_of ci_tuple T.b_tuple (by decide +kernel) (ia_cons (ie_fld T.att (ie_var 0) (by decide +kernel)) ia_nil)) (ia_cons (ie_var 1) (ia_cons (ie_fld T.att (ie_var 0) (by decide +kernel)) (ia_cons (ie_fld T.att (ie_var 0) (by decide +kernel)) (ia_cons (ie_fld T.att (ie_var 0) (by decide +kernel)) (ia_cons (ie_fld T.att (ie_var 0) (by decide +kernel)) (ia_cons (ie_fld T.att (ie_var 0) (by decide +kernel)) ia_nil)))))))))))))
  exact h
theorem ok_Processor_key (T : Tx K mg) : ∃ fd, FI P w K mg base 1 (He.fAd K ("Processor", some "key")) fd ps_Processor_key f_Processor_key ∧ PySem.W.keepIn K (.ref (He.fAd K ("Processor", some "key"))) = true ∧ (∃ ds, Vals (([] : List V).drop 0 : List V) ds ∧ Binds K fd ps_Processor_key ds) := by
  obtain ⟨fd, F⟩ := T.d_Processor_key
  exact ⟨fd, fi_Processor_key T F, F.kp, ⟨[], .nil, F.bindsN fun _ _ _ _ _ _ us hl => match us, hl with | [_], _ => rfl⟩⟩
theorem fi_Machine_key (T : Tx K mg) {fd : FuncData} (F : FunD K "key" "Machine.key" (defArgs st_Machine_key) (defBody st_Machine_key) (defScope st_Machine_key) ([] : List V) [] (He.fAd K ("Machine", some "key")) fd) : FI P w K mg base 2 (He.fAd K ("Machine", some "key")) fd ps_Machine_key f_Machine_key := by
  obtain ⟨fd_Processor_key, F_Processor_key, k_Processor_key, ⟨ds_Processor_key_1, v_Processor_key_1, b_Processor_key_1⟩⟩ := ok_Processor_key (P := P) (w := w) (base := base) T
  have w_Processor_key_1 : GVals K (([] : List V).drop 0) [] := trivial
  have h := fi_of (P := P) (w := w) (mg := mg) (base := base) F sc_Machine_key (m := m_Machine_key) (k := 1) (fun cdv A outer s H E hr => by
    exact (iss_cons (is_set (i := 1) sc_Machine_key.nd (ie_BT call_tuple_of ci_tuple T.b_tuple (by decide +kernel) (ia_cons (ie_lc [("frame", 2)] rfl rfl sc_Machine_key.nd (ii_seq (ie_fld T.att (ie_var 0) (by decide +kernel))) (blkOk_by (own := [("frame", 2)]) (N := N_Machine_key) (sc := defScope st_Machine_key) (by decide +kernel)) (by decide) (fun _ _ _ _ _ => (ig_name 2 sc_Machine_key.nd)) (fun _ _ _ _ _ => its_nil) (fun _ _ _ _ _ => (ie_BT call_tuple_of ci_tuple T.b_tuple (by decide +kernel) (ia_cons (ie_var 2) ia_nil)))) ia_nil)))
    (iss_one (is_ret (ie_tup (ia_cons (ie_var 1) (ia_cons (ie_BT call_tuple_of ci_tuple T.b_tuple (by decide +kernel) (ia_cons (ie_fld T.att (ie_var 0) (by decide +kernel)) ia_nil)) (ia_cons (ie_BT call_tuple_of ci_tuple T.b_tuple (by decide +kernel) (ia_cons (ie_lc [("one", 3)] rfl rfl sc_Machine_key.nd (ii_seq (ie_fld T.att (ie_var 0) (by decide +kernel))) (blkOk_by (own := [("one", 3)]) (N := N_Machine_key) (sc := defScope st_Machine_key) (by decide +kernel)) (by decide) (fun _ _ _ _ _ => (ig_name 3 sc_Machine_key.nd)) (fun _ _ _ _ _ => its_nil) (fun _ _ _ _ _ => (ie_meth0 L2.takes0 (ie_var 3) (congrArg (He.ga K) e_Processor.symm) T.cl_Processor T.me_Processor_key (by decide +kernel) F_Processor_key rfl (hr.mono (by decide)) b_Processor_key_1 v_Processor_key_1 w_Processor_key_1))) ia_nil)) (ia_cons (ie_fld T.att (ie_var 0) (by decide +kernel)) ia_nil)))))))))
  exact h
theorem ok_Machine_key (T : Tx K mg) : ∃ fd, FI P w K mg base 2 (He.fAd K ("Machine", some "key")) fd ps_Machine_key f_Machine_key ∧ PySem.W.keepIn K (.ref (He.fAd K ("Machine", some "key"))) = true ∧ (∃ ds, Vals (([] : List V).drop 0 : List V) ds ∧ Binds K fd ps_Machine_key ds) := by
  obtain ⟨fd, F⟩ := T.d_Machine_key
  exact ⟨fd, fi_Machine_key T F, F.kp, ⟨[], .nil, F.bindsN fun _ _ _ _ _ _ us hl => match us, hl with | [_], _ => rfl⟩⟩
theorem fi_newest (T : Tx K mg) {fd : FuncData} (F : FunD K "newest" "newest" (defArgs st_newest) (defBody st_newest) (defScope st_newest) ([] : List V) [] (He.fAd K ("newest", none)) fd) : FI P w K mg base 1 (He.fAd K ("newest", none)) fd ps_newest f_newest := by
  have h := fi_of (P := P) (w := w) (mg := mg) (base := base) F sc_newest (m := m_newest) (k := 0) (fun cdv A outer s H E hr => by
    exact (iss_cons (is_for (L2.passes_of rfl) rfl (ii_rev T.b_reversed (ie_var 0)) (ig_name 3 sc_newest.nd)
    (iss_one (is_if (it_w (iw_and (it_cmp (or_eqM hr.units) oi_eq (ie_ix (ie_var 3) ie_int) (ie_var 1) (nomark _)) (iw_and1 (it_cmp (or_eqM hr.units) oi_eq (ie_ix (ie_var 3) ie_int) (ie_var 2) (nomark _)))))
    (iss_one (is_ret (ie_ix (ie_var 3) ie_int)))
    iss_nil)))
    (iss_one (is_ret ie_non))))
  exact h
theorem ok_newest (T : Tx K mg) : ∃ fd, FI P w K mg base 1 (He.fAd K ("newest", none)) fd ps_newest f_newest ∧ PySem.W.keepIn K (.ref (He.fAd K ("newest", none))) = true ∧ (∃ ds, Vals (([] : List V).drop 0 : List V) ds ∧ Binds K fd ps_newest ds) := by
  obtain ⟨fd, F⟩ := T.d_newest
  exact ⟨fd, fi_newest T F, F.kp, ⟨[], .nil, F.bindsN fun _ _ _ _ _ _ us hl => match us, hl with | [_, _, _], _ => rfl⟩⟩
theorem fi_law_newest (T : Tx K mg) {fd : FuncData} (F : FunD K "_law_newest" "_law_newest" (defArgs st_law_newest) (defBody st_law_newest) (defScope st_law_newest) ([] : List V) [] (He.fAd K ("_law_newest", none)) fd) : FI P w K mg base 1 (He.fAd K ("_law_newest", none)) fd ps_law_newest f_law_newest := by
  have h := fi_of (P := P) (w := w) (mg := mg) (base := base) F sc_law_newest (m := m_law_newest) (k := 0) (fun cdv A outer s H E hr => by
    exact (iss_cons (is_set (i := 3) sc_law_newest.nd ie_non)
    (iss_cons (is_for (L2.passes_of rfl) rfl (ii_seq (ie_var 0)) (ig_name 4 sc_law_newest.nd)
    (iss_one (is_if (it_w (iw_and (it_cmp (or_eqM hr.units) oi_eq (ie_ix (ie_var 4) ie_int) (ie_var 1) (nomark _)) (iw_and1 (it_cmp (or_eqM hr.units) oi_eq (ie_ix (ie_var 4) ie_int) (ie_var 2) (nomark _)))))
    (iss_one (is_set (i := 3) sc_law_newest.nd (ie_ix (ie_var 4) ie_int)))
    iss_nil)))
    (iss_one (is_ret (ie_var 3))))))
  exact h
theorem ok_law_newest (T : Tx K mg) : ∃ fd, FI P w K mg base 1 (He.fAd K ("_law_newest", none)) fd ps_law_newest f_law_newest ∧ PySem.W.keepIn K (.ref (He.fAd K ("_law_newest", none))) = true ∧ (∃ ds, Vals (([] : List V).drop 0 : List V) ds ∧ Binds K fd ps_law_newest ds) := by
  obtain ⟨fd, F⟩ := T.d_law_newest
  exact ⟨fd, fi_law_newest T F, F.kp, ⟨[], .nil, F.bindsN fun _ _ _ _ _ _ us hl => match us, hl with | [_, _, _], _ => rfl⟩⟩
theorem fi_law_whole (T : Tx K mg) {fd : FuncData} (F : FunD K "_law_whole" "_law_whole" (defArgs st_law_whole) (defBody st_law_whole) (defScope st_law_whole) ([] : List V) [] (He.fAd K ("_law_whole", none)) fd) : FI P w K mg base 1 (He.fAd K ("_law_whole", none)) fd ps_law_whole f_law_whole := by
  have h := fi_of (P := P) (w := w) (mg := mg) (base := base) F sc_law_whole (m := m_law_whole) (k := 0) (fun cdv A outer s H E hr => by
    exact (iss_one (is_ret (ie_and (ie_B call_isi ci_isi T.b_isinstance (by decide +kernel) (ia_cons (ie_var 0) (ia_cons (ie_ty (t := .int) T.b_int (by decide +kernel)) ia_nil))) (ie_one (ie_not (ie_B call_isi ci_isi T.b_isinstance (by decide +kernel) (ia_cons (ie_var 0) (ia_cons (ie_ty (t := .bool) T.b_bool (by decide +kernel)) ia_nil)))))))))
  exact h
theorem ok_law_whole (T : Tx K mg) : ∃ fd, FI P w K mg base 1 (He.fAd K ("_law_whole", none)) fd ps_law_whole f_law_whole ∧ PySem.W.keepIn K (.ref (He.fAd K ("_law_whole", none))) = true ∧ (∃ ds, Vals (([] : List V).drop 0 : List V) ds ∧ Binds K fd ps_law_whole ds) := by
  obtain ⟨fd, F⟩ := T.d_law_whole
  exact ⟨fd, fi_law_whole T F, F.kp, ⟨[], .nil, F.bindsN fun _ _ _ _ _ _ us hl => match us, hl with | [_], _ => rfl⟩⟩
theorem fi_law_all_newest (T : Tx K mg) {fd : FuncData} (F : FunD K "_law_all_newest" "_law_all_newest" (defArgs st_law_all_newest) (defBody st_law_all_newest) (defScope st_law_all_newest) ([] : List V) [] (He.fAd K ("_law_all_newest", none)) fd) : FI P w K mg base 2 (He.fAd K ("_law_all_newest", none)) fd ps_law_all_newest f_law_all_newest := by
  obtain ⟨fd_newest, F_newest, k_newest, ⟨ds_newest_3, v_newest_3, b_newest_3⟩⟩ := ok_newest (P := P) (w := w) (base := base) T
  have w_newest_3 : GVals K (([] : List V).drop 0) [] := trivial
  obtain ⟨fd_law_newest, F_law_newest, k_law_newest, ⟨ds_law_newest_3, v_law_newest_3, b_law_newest_3⟩⟩ := ok_law_newest (P := P) (w := w) (base := base) T
  have w_law_newest_3 : GVals K (([] : List V).drop 0) [] := trivial
  obtain ⟨fd_law_whole, F_law_whole, k_law_whole, ⟨ds_law_whole_1, v_law_whole_1, b_law_whole_1⟩⟩ := ok_law_whole (P := P) (w := w) (base := base) T
  have w_law_whole_1 : GVals K (([] : List V).drop 0) [] := trivial
  have h := fi_of (P := P) (w := w) (mg := mg) (base := base) F sc_law_all_newest (m := m_law_all_newest) (k := 1) (fun cdv A outer s H E hr => by
    exact (iss_cons (is_for (L2.passes_of rfl) rfl (ii_range1 T.b_range ie_int) (ig_name 2 sc_law_all_newest.nd)
    (iss_one (is_for (L2.passes_of rfl) rfl (ii_range1 T.b_range ie_int) (ig_name 3 sc_law_all_newest.nd)
    (iss_cons (is_set (i := 4) sc_law_all_newest.nd (ie_call (L2.takes_of rfl rfl rfl rfl) F_newest rfl (hr.mono (by decide)) T.g_newest k_newest b_newest_3 v_newest_3 w_newest_3 (ia_cons (ie_var 0) (ia_cons (ie_var 2) (ia_cons (ie_var 3) ia_nil)))))
    (iss_cons (is_set (i := 5) sc_law_all_newest.nd (ie_call (L2.takes_of rfl rfl rfl rfl) F_law_newest rfl (hr.mono (by decide)) T.g__law_newest k_law_newest b_law_newest_3 v_law_newest_3 w_law_newest_3 (ia_cons (ie_var 1) (ia_cons (ie_var 2) (ia_cons (ie_var 3) ia_nil)))))
    (iss_cons (is_if (it_w (iw_and (it_cmp or_isM oi_is (ie_var 5) ie_non (nomark _)) (iw_and1 (it_cmp or_isNM oi_isN (ie_var 4) ie_non (nomark _)))))
    (iss_one (is_ret ie_bl))
    iss_nil)
    (iss_one (is_if (it_w (iw_and (it_cmp or_isNM oi_isN (ie_var 5) ie_non (nomark _)) (iw_and1 (it_w (iw_or (it_not (it_val (ie_call (L2.takes_of rfl rfl rfl rfl) F_law_whole rfl (hr.mono (by decide)) T.g__law_whole k_law_whole b_law_whole_1 v_law_whole_1 w_law_whole_1 (ia_cons (ie_var 4) ia_nil)))) (iw_or1 (it_cmp (or_neM hr.units) oi_ne (ie_var 4) (ie_var 5) (nomark _))))))))
    (iss_one (is_ret ie_bl))
    iss_nil))))))))
    (iss_one (is_ret (ie_cmp (or_eqM hr.units) oi_eq (ie_var 0) (ie_var 1) (nomark _))))))
  exact h
theorem ok_law_all_newest (T : Tx K mg) : ∃ fd, FI P w K mg base 2 (He.fAd K ("_law_all_newest", none)) fd ps_law_all_newest f_law_all_newest ∧ PySem.W.keepIn K (.ref (He.fAd K ("_law_all_newest", none))) = true ∧ (∃ ds, Vals (([] : List V).drop 0 : List V) ds ∧ Binds K fd ps_law_all_newest ds) := by
  obtain ⟨fd, F⟩ := T.d_law_all_newest
  exact ⟨fd, fi_law_all_newest T F, F.kp, ⟨[], .nil, F.bindsN fun _ _ _ _ _ _ us hl => match us, hl with | [_, _], _ => rfl⟩⟩
theorem fi_law_state (T : Tx K mg) {fd : FuncData} (F : FunD K "_law_state" "_law_state" (defArgs st_law_state) (defBody st_law_state) (defScope st_law_state) ([] : List V) [] (He.fAd K ("_law_state", none)) fd) : FI P w K mg base 3 (He.fAd K ("_law_state", none)) fd ps_law_state f_law_state := by
  obtain ⟨fd_Machine_key, F_Machine_key, k_Machine_key, ⟨ds_Machine_key_1, v_Machine_key_1, b_Machine_key_1⟩⟩ := ok_Machine_key (P := P) (w := w) (base := base) T
  have w_Machine_key_1 : GVals K (([] : List V).drop 0) [] := trivial
  obtain ⟨fd_law_whole, F_law_whole, k_law_whole, ⟨ds_law_whole_1, v_law_whole_1, b_law_whole_1⟩⟩ := ok_law_whole (P := P) (w := w) (base := base) T
  have w_law_whole_1 : GVals K (([] : List V).drop 0) [] := trivial
  have h := fi_of (P := P) (w := w) (mg := mg) (base := base) F sc_law_state (m := m_law_state) (k := 2) (fun cdv A outer s H E hr => by
    exact (iss_cons (is_set (i := 3) sc_law_state.nd (ie_meth0 (L2.takes_of rfl rfl rfl rfl) (ie_var 0) (congrArg (He.ga K) e_Machine.symm) T.cl_Machine T.me_Machine_key (by decide +kernel) F_Machine_key rfl (hr.mono (by decide)) b_Machine_key_1 v_Machine_key_1 w_Machine_key_1))
    (iss_cons (is_if (it_cmp (or_neM hr.units) oi_ne (ie_var 3) (ie_bin or_addM oi_add (ie_tup (ia_cons (ie_BT call_tuple_of ci_tuple T.b_tuple (by decide +kernel) (ia_cons (ie_lc [("_law_one", 4)] rfl rfl sc_law_state.nd (ii_seq (ie_var 1)) (blkOk_by (own := [("_law_one", 4)]) (N := N_law_state) (sc := defScope st_law_state) (by decide +kernel)) (by decide) (fun _ _ _ _ _ => (ig_name 4 sc_law_state.nd)) (fun _ _ _ _ _ => its_nil) (fun _ _ _ _ _ => (ie_BT call_tuple_of ci_tuple T.b_tuple (by decide +kernel) (ia_cons (ie_var 4) ia_nil)))) ia_nil)) ia_nil)) (ie_var 2)) (nomark _))
    (iss_one (is_ret ie_bl))
    iss_nil)
    (iss_cons (is_for (L2.passes_of rfl) rfl (ii_range1 T.b_range ie_int) (ig_name 5 sc_law_state.nd)
    (iss_one (is_for (L2.passes_of rfl) rfl (ii_range1 T.b_range ie_int) (ig_name 6 sc_law_state.nd)
    (iss_one (is_if (it_not (it_val (ie_call (L2.takes_of rfl rfl rfl rfl) F_law_whole rfl (hr.mono (by decide)) T.g__law_whole k_law_whole b_law_whole_1 v_law_whole_1 w_law_whole_1 (ia_cons (ie_ix (ie_ix (ie_fld T.att (ie_var 0) (by decide +kernel)) (ie_var 5)) (ie_var 6)) ia_nil))))
    (iss_one (is_ret ie_bl))
    iss_nil)))))
    (iss_one (is_ret ie_bl))))))
  exact h
theorem ok_law_state (T : Tx K mg) : ∃ fd, FI P w K mg base 3 (He.fAd K ("_law_state", none)) fd ps_law_state f_law_state ∧ PySem.W.keepIn K (.ref (He.fAd K ("_law_state", none))) = true ∧ (∃ ds, Vals (([] : List V).drop 0 : List V) ds ∧ Binds K fd ps_law_state ds) := by
  obtain ⟨fd, F⟩ := T.d_law_state
  exact ⟨fd, fi_law_state T F, F.kp, ⟨[], .nil, F.bindsN fun _ _ _ _ _ _ us hl => match us, hl with | [_, _, _], _ => rfl⟩⟩
theorem fi_law_changes (T : Tx K mg) {fd : FuncData} (F : FunD K "_law_changes" "_law_changes" (defArgs st_law_changes) (defBody st_law_changes) (defScope st_law_changes) ([] : List V) [] (He.fAd K ("_law_changes", none)) fd) : FI P w K mg base 2 (He.fAd K ("_law_changes", none)) fd ps_law_changes f_law_changes := by
  obtain ⟨fd_law_whole, F_law_whole, k_law_whole, ⟨ds_law_whole_1, v_law_whole_1, b_law_whole_1⟩⟩ := ok_law_whole (P := P) (w := w) (base := base) T
  have w_law_whole_1 : GVals K (([] : List V).drop 0) [] := trivial
  have h := fi_of (P := P) (w := w) (mg := mg) (base := base) F sc_law_changes (m := m_law_changes) (k := 1) (fun cdv A outer s H E hr => by
    exact (iss_cons (is_if (it_w (iw_or (it_not (it_val (ie_B call_isi ci_isi T.b_isinstance (by decide +kernel) (ia_cons (ie_var 0) (ia_cons (ie_ty (t := .list) T.b_list (by decide +kernel)) ia_nil))))) (iw_or1 (it_cmp (or_neM hr.units) oi_ne (ie_B call_len ci_len T.b_len (by decide +kernel) (ia_cons (ie_var 0) ia_nil)) (ie_B call_len ci_len T.b_len (by decide +kernel) (ia_cons (ie_var 1) ia_nil)) (nomark _)))))
    (iss_one (is_ret ie_bl))
    iss_nil)
    (iss_cons (is_for (L2.passes_of rfl) rfl (ii_range1 T.b_range (ie_B call_len ci_len T.b_len (by decide +kernel) (ia_cons (ie_var 1) ia_nil))) (ig_name 2 sc_law_changes.nd)
    (iss_cons (is_set (i := 3) sc_law_changes.nd (ie_ix (ie_var 0) (ie_var 2)))
    (iss_cons (is_if (it_w (iw_or (it_not (it_val (ie_B call_isi ci_isi T.b_isinstance (by decide +kernel) (ia_cons (ie_var 3) (ia_cons (ie_ty (t := .tuple) T.b_tuple (by decide +kernel)) ia_nil))))) (iw_or (it_cmp (or_neM hr.units) oi_ne (ie_B call_len ci_len T.b_len (by decide +kernel) (ia_cons (ie_var 3) ia_nil)) ie_int (nomark _)) (iw_or1 (it_cmp (or_neM hr.units) oi_ne (ie_ix (ie_var 3) ie_int) (ie_str (by decide +kernel)) (nomark _))))))
    (iss_one (is_ret ie_bl))
    iss_nil)
    (iss_cons (is_for (L2.passes_of rfl) rfl (ii_range2 T.b_range ie_int ie_int) (ig_name 4 sc_law_changes.nd)
    (iss_one (is_if (it_not (it_val (ie_call (L2.takes_of rfl rfl rfl rfl) F_law_whole rfl (hr.mono (by decide)) T.g__law_whole k_law_whole b_law_whole_1 v_law_whole_1 w_law_whole_1 (ia_cons (ie_ix (ie_var 3) (ie_var 4)) ia_nil))))
    (iss_one (is_ret ie_bl))
    iss_nil)))
    (iss_one (is_if (it_w (iw_or (it_cmp (or_neM hr.units) oi_ne (ie_ix (ie_var 3) ie_int) (ie_ix (ie_ix (ie_var 1) (ie_var 2)) ie_int) (nomark _)) (iw_or (it_cmp (or_neM hr.units) oi_ne (ie_ix (ie_var 3) ie_int) (ie_ix (ie_ix (ie_var 1) (ie_var 2)) ie_int) (nomark _)) (iw_or1 (it_cmp (or_neM hr.units) oi_ne (ie_ix (ie_var 3) ie_int) (ie_ix (ie_ix (ie_var 1) (ie_var 2)) ie_int) (nomark _))))))
    (iss_one (is_ret ie_bl))
    iss_nil))))))
    (iss_one (is_ret ie_bl)))))
  exact h
theorem ok_law_changes (T : Tx K mg) : ∃ fd, FI P w K mg base 2 (He.fAd K ("_law_changes", none)) fd ps_law_changes f_law_changes ∧ PySem.W.keepIn K (.ref (He.fAd K ("_law_changes", none))) = true ∧ (∃ ds, Vals (([] : List V).drop 0 : List V) ds ∧ Binds K fd ps_law_changes ds) := by
  obtain ⟨fd, F⟩ := T.d_law_changes
  exact ⟨fd, fi_law_changes T F, F.kp, ⟨[], .nil, F.bindsN fun _ _ _ _ _ _ us hl => match us, hl with | [_, _], _ => rfl⟩⟩
theorem fi_drain (T : Tx K mg) {fd : FuncData} (F : FunD K "drain" "drain" (defArgs st_drain) (defBody st_drain) (defScope st_drain) ([] : List V) [] (He.fAd K ("drain", none)) fd) : FI P w K mg base 1 (He.fAd K ("drain", none)) fd ps_drain f_drain := by
  have h := fi_of (P := P) (w := w) (mg := mg) (base := base) F sc_drain (m := m_drain) (k := 0) (fun cdv A outer s H E hr => by
    exact (iss_cons (is_set (i := 2) sc_drain.nd (ie_lst ia_nil))
    (iss_cons (is_for (L2.passes_of rfl) rfl (ii_seq (ie_BT call_list_of ci_list T.b_list (by decide +kernel) (ia_cons (ie_var 1) ia_nil))) (ig_tup rfl (igs_cons (ig_name 3 sc_drain.nd) (igs_cons (ig_name 4 sc_drain.nd) (igs_cons (ig_name 5 sc_drain.nd) (igs_cons (ig_name 6 sc_drain.nd) igs_nil)))))
    (iss_cons (is_sub (ie_ix (ie_fld T.att (ie_var 0) (by decide +kernel)) (ie_var 3)) (ie_var 4) (ie_var 5))
    (iss_one (is_expr (ie_mt PySem.F.plainAttrs_list PySem.F.slot_list_append PySem.F.type_list_append mt_append chk_list mi_append (ie_var 2) (ia_cons (ie_tup (ia_cons (ie_str (by decide +kernel)) (ia_cons (ie_var 6) (ia_cons (ie_var 3) (ia_cons (ie_var 4) ia_nil))))) ia_nil))))))
    (iss_cons (is_expr (ie_mt0 PySem.F.plainAttrs_list PySem.F.slot_list_clear PySem.F.type_list_clear mt_clear chk_list mi_clear (ie_var 1)))
    (iss_one (is_ret (ie_var 2)))))))
  exact h
theorem ok_drain (T : Tx K mg) : ∃ fd, FI P w K mg base 1 (He.fAd K ("drain", none)) fd ps_drain f_drain ∧ PySem.W.keepIn K (.ref (He.fAd K ("drain", none))) = true ∧ (∃ ds, Vals (([] : List V).drop 0 : List V) ds ∧ Binds K fd ps_drain ds) := by
  obtain ⟨fd, F⟩ := T.d_drain
  exact ⟨fd, fi_drain T F, F.kp, ⟨[], .nil, F.bindsN fun _ _ _ _ _ _ us hl => match us, hl with | [_, _], _ => rfl⟩⟩
theorem fi_law (T : Tx K mg) {fd : FuncData} (F : FunD K "law" "law" (defArgs st_law) (defBody st_law) (defScope st_law) ([] : List V) [] (He.fAd K ("law", none)) fd) : FI P w K mg base 5 (He.fAd K ("law", none)) fd ps_law f_law := by
  obtain ⟨fd_law_row, F_law_row, k_law_row, ⟨ds_law_row_2, v_law_row_2, b_law_row_2⟩⟩ := ok_law_row (P := P) (w := w) (base := base) T
  have w_law_row_2 : GVals K (([] : List V).drop 0) [] := trivial
  obtain ⟨fd_law_frames, F_law_frames, k_law_frames, ⟨ds_law_frames_1, v_law_frames_1, b_law_frames_1⟩⟩ := ok_law_frames (P := P) (w := w) (base := base) T
  have w_law_frames_1 : GVals K (([] : List V).drop 0) [] := trivial
  obtain ⟨fd_law_pick, F_law_pick, k_law_pick, ⟨ds_law_pick_3, v_law_pick_3, b_law_pick_3⟩⟩ := ok_law_pick (P := P) (w := w) (base := base) T
  have w_law_pick_3 : GVals K (([] : List V).drop 0) [] := trivial
  obtain ⟨fd_law_stores, F_law_stores, k_law_stores, ⟨ds_law_stores_1, v_law_stores_1, b_law_stores_1⟩⟩ := ok_law_stores (P := P) (w := w) (base := base) T
  have w_law_stores_1 : GVals K (([] : List V).drop 0) [] := trivial
  obtain ⟨fd_Machine_init, F_Machine_init, k_Machine_init, ⟨ds_Machine_init_2, v_Machine_init_2, b_Machine_init_2⟩⟩ := ok_Machine_init (P := P) (w := w) (base := base) T
  have w_Machine_init_2 : GVals K (([] : List V).drop 0) [] := trivial
  obtain ⟨fd_Guest_init, F_Guest_init, k_Guest_init, ⟨ds_Guest_init_2, v_Guest_init_2, b_Guest_init_2⟩⟩ := ok_Guest_init (P := P) (w := w) (base := base) T
  have w_Guest_init_2 : GVals K (([.ref (He.dflAt ("Guest", some "__init__") 0 K), .ref (He.dflAt ("Guest", some "__init__") 1 K), .ref (He.dflAt ("Guest", some "__init__") 2 K), .ref (He.dflAt ("Guest", some "__init__") 3 K)] : List V).drop 0) [(.tup [(.tup [(.int 0), (.int 7)]), (.tup [(.int 1), (.int 7)]), (.tup [(.int 2), (.int 7)]), (.tup [(.int 3), (.int 7)])]), (.tup [(.int 0), .non]), (.tup [(.int 60), (.int 60)]), (.tup [])] := ⟨T.dv_Guest_init_0, T.dv_Guest_init_1, T.dv_Guest_init_2, T.dv_Guest_init_3, trivial⟩
  obtain ⟨fd_Machine_key, F_Machine_key, k_Machine_key, ⟨ds_Machine_key_1, v_Machine_key_1, b_Machine_key_1⟩⟩ := ok_Machine_key (P := P) (w := w) (base := base) T
  have w_Machine_key_1 : GVals K (([] : List V).drop 0) [] := trivial
  obtain ⟨fd_law_all_newest, F_law_all_newest, k_law_all_newest, ⟨ds_law_all_newest_2, v_law_all_newest_2, b_law_all_newest_2⟩⟩ := ok_law_all_newest (P := P) (w := w) (base := base) T
  have w_law_all_newest_2 : GVals K (([] : List V).drop 0) [] := trivial
  obtain ⟨fd_law_state, F_law_state, k_law_state, ⟨ds_law_state_3, v_law_state_3, b_law_state_3⟩⟩ := ok_law_state (P := P) (w := w) (base := base) T
  have w_law_state_3 : GVals K (([] : List V).drop 0) [] := trivial
  obtain ⟨fd_law_changes, F_law_changes, k_law_changes, ⟨ds_law_changes_2, v_law_changes_2, b_law_changes_2⟩⟩ := ok_law_changes (P := P) (w := w) (base := base) T
  have w_law_changes_2 : GVals K (([] : List V).drop 0) [] := trivial
  obtain ⟨fd_drain, F_drain, k_drain, ⟨ds_drain_2, v_drain_2, b_drain_2⟩⟩ := ok_drain (P := P) (w := w) (base := base) T
  have w_drain_2 : GVals K (([] : List V).drop 0) [] := trivial
  have h := fi_of (P := P) (w := w) (mg := mg) (base := base) F sc_law (m := m_law) (k := 4) (fun cdv A outer s H E hr => by
    exact (iss_cons (is_set (i := 1) sc_law.nd (ie_call (L2.takes_of rfl rfl rfl rfl) F_law_row rfl (hr.mono (by decide)) T.g__law_row k_law_row b_law_row_2 v_law_row_2 w_law_row_2 (ia_cons (ie_var 0) (ia_cons ie_int ia_nil))))
    (iss_cons (is_set (i := 2) sc_law.nd (ie_call (L2.takes_of rfl rfl rfl rfl) F_law_frames rfl (hr.mono (by decide)) T.g__law_frames k_law_frames b_law_frames_1 v_law_frames_1 w_law_frames_1 (ia_cons (ie_call (L2.takes_of rfl rfl rfl rfl) F_law_pick rfl (hr.mono (by decide)) T.g__law_pick k_law_pick b_law_pick_3 v_law_pick_3 w_law_pick_3 (ia_cons (ie_var 1) (ia_cons ie_int (ia_cons ie_int ia_nil)))) ia_nil)))
    (iss_cons (is_set (i := 3) sc_law.nd (ie_call (L2.takes_of rfl rfl rfl rfl) F_law_stores rfl (hr.mono (by decide)) T.g__law_stores k_law_stores b_law_stores_1 v_law_stores_1 w_law_stores_1 (ia_cons (ie_var 1) ia_nil)))
    (iss_cons (is_set (i := 4) sc_law.nd (ie_make (L2.takes_of rfl rfl rfl rfl) T.mk_Machine (congrArg (He.ga K) e_Machine.symm) F_Machine_init rfl (hr.mono (by decide)) T.g_Machine b_Machine_init_2 v_Machine_init_2 w_Machine_init_2 (ia_cons (ie_make (L2.takes_of rfl rfl rfl rfl) T.mk_Guest (congrArg (He.ga K) e_Guest.symm) F_Guest_init rfl (hr.mono (by decide)) T.g_Guest b_Guest_init_2 v_Guest_init_2 w_Guest_init_2 (ia_cons (ie_lc [("_law_one", 5)] rfl rfl sc_law.nd (ii_seq (ie_var 2)) (blkOk_by (own := [("_law_one", 5)]) (N := N_law) (sc := defScope st_law) (by decide +kernel)) (by decide) (fun _ _ _ _ _ => (ig_name 5 sc_law.nd)) (fun _ _ _ _ _ => its_nil) (fun _ _ _ _ _ => (ie_BT call_list_of ci_list T.b_list (by decide +kernel) (ia_cons (ie_var 5) ia_nil)))) ia_nil)) ia_nil)))
    (iss_cons (is_set (i := 6) sc_law.nd (ie_sl (ie_meth0 (L2.takes_of rfl rfl rfl rfl) (ie_var 4) (congrArg (He.ga K) e_Machine.symm) T.cl_Machine T.me_Machine_key (by decide +kernel) F_Machine_key rfl (hr.mono (by decide)) b_Machine_key_1 v_Machine_key_1 w_Machine_key_1) (io_some ie_int) io_none))
    (iss_cons (is_set (i := 7) sc_law.nd (ie_BT call_list_of ci_list T.b_list (by decide +kernel) (ia_cons (ie_var 3) ia_nil)))
    (iss_cons (is_if (it_w (iw_or (it_not (it_val (ie_call (L2.takes_of rfl rfl rfl rfl) F_law_all_newest rfl (hr.mono (by decide)) T.g__law_all_newest k_law_all_newest b_law_all_newest_2 v_law_all_newest_2 w_law_all_newest_2 (ia_cons (ie_var 7) (ia_cons (ie_var 3) ia_nil))))) (iw_or1 (it_not (it_val (ie_call (L2.takes_of rfl rfl rfl rfl) F_law_state rfl (hr.mono (by decide)) T.g__law_state k_law_state b_law_state_3 v_law_state_3 w_law_state_3 (ia_cons (ie_var 4) (ia_cons (ie_var 2) (ia_cons (ie_var 6) ia_nil)))))))))
    (iss_one (is_ret ie_bl))
    iss_nil)
    (iss_cons (is_if (it_w (iw_or (it_not (it_val (ie_call (L2.takes_of rfl rfl rfl rfl) F_law_changes rfl (hr.mono (by decide)) T.g__law_changes k_law_changes b_law_changes_2 v_law_changes_2 w_law_changes_2 (ia_cons (ie_call (L2.takes_of rfl rfl rfl rfl) F_drain rfl (hr.mono (by decide)) T.g_drain k_drain b_drain_2 v_drain_2 w_drain_2 (ia_cons (ie_var 4) (ia_cons (ie_var 7) ia_nil))) (ia_cons (ie_var 3) ia_nil))))) (iw_or (it_not (it_val (ie_B call_isi ci_isi T.b_isinstance (by decide +kernel) (ia_cons (ie_var 7) (ia_cons (ie_ty (t := .list) T.b_list (by decide +kernel)) ia_nil))))) (iw_or1 (it_cmp (or_neM hr.units) oi_ne (ie_B call_len ci_len T.b_len (by decide +kernel) (ia_cons (ie_var 7) ia_nil)) ie_int (nomark _))))))
    (iss_one (is_ret ie_bl))
    iss_nil)
    (iss_cons (is_for (L2.passes_of rfl) rfl (ii_seq (ie_var 3)) (ig_name 5 sc_law.nd)
    (iss_one (is_sub (ie_ix (ie_var 2) (ie_ix (ie_var 5) ie_int)) (ie_ix (ie_var 5) ie_int) (ie_ix (ie_var 5) ie_int))))
    (iss_cons (is_if (it_w (iw_or (it_not (it_val (ie_call (L2.takes_of rfl rfl rfl rfl) F_law_state rfl (hr.mono (by decide)) T.g__law_state k_law_state b_law_state_3 v_law_state_3 w_law_state_3 (ia_cons (ie_var 4) (ia_cons (ie_var 2) (ia_cons (ie_var 6) ia_nil)))))) (iw_or1 (it_not (it_val (ie_call (L2.takes_of rfl rfl rfl rfl) F_law_all_newest rfl (hr.mono (by decide)) T.g__law_all_newest k_law_all_newest b_law_all_newest_2 v_law_all_newest_2 w_law_all_newest_2 (ia_cons (ie_var 7) (ia_cons (ie_lst ia_nil) ia_nil))))))))
    (iss_one (is_ret ie_bl))
    iss_nil)
    (iss_one (is_ret (ie_and (ie_call (L2.takes_of rfl rfl rfl rfl) F_law_changes rfl (hr.mono (by decide)) T.g__law_changes k_law_changes b_law_changes_2 v_law_changes_2 w_law_changes_2 (ia_cons (ie_call (L2.takes_of rfl rfl rfl rfl) F_drain rfl (hr.mono (by decide)) T.g_drain k_drain b_drain_2 v_drain_2 w_drain_2 (ia_cons (ie_var 4) (ia_cons (ie_var 7) ia_nil))) (ia_cons (ie_lst ia_nil) ia_nil))) (ie_and (ie_cmp (or_eqM hr.units) oi_eq (ie_var 7) (ie_lst ia_nil) (nomark _)) (ie_one (ie_call (L2.takes_of rfl rfl rfl rfl) F_law_state rfl (hr.mono (by decide)) T.g__law_state k_law_state b_law_state_3 v_law_state_3 w_law_state_3 (ia_cons (ie_var 4) (ia_cons (ie_var 2) (ia_cons (ie_var 6) ia_nil))))))))))))))))))))
  exact h
theorem ok_law (T : Tx K mg) : ∃ fd, FI P w K mg base 5 (He.fAd K ("law", none)) fd ps_law f_law ∧ PySem.W.keepIn K (.ref (He.fAd K ("law", none))) = true := by
  obtain ⟨fd, F⟩ := T.d_law
  exact ⟨fd, fi_law T F, F.kp⟩
end
end K33

set_option Elab.async false
set_option linter.all false
set_option maxRecDepth 100000
set_option maxHeartbeats 400000
namespace K33
open PySem PySem.Spec PyProof.Rows L2 GL
def fn : List He.DefD := [⟨("_law_row", none), "_law_row", "_law_row", defArgs st_law_row, defBody st_law_row, defScope st_law_row, [], []⟩,
  ⟨("_law_frames", none), "_law_frames", "_law_frames", defArgs st_law_frames, defBody st_law_frames, defScope st_law_frames, [], []⟩,
  ⟨("_law_pick", none), "_law_pick", "_law_pick", defArgs st_law_pick, defBody st_law_pick, defScope st_law_pick, [], []⟩,
  ⟨("_law_stores", none), "_law_stores", "_law_stores", defArgs st_law_stores, defBody st_law_stores, defScope st_law_stores, [], []⟩,
  ⟨("Processor", some "__init__"), "__init__", "Processor.__init__", defArgs st_Processor_init, defBody st_Processor_init, defScope st_Processor_init, [], []⟩,
  ⟨("Machine", some "__init__"), "__init__", "Machine.__init__", defArgs st_Machine_init, defBody st_Machine_init, defScope st_Machine_init, [], []⟩,
  ⟨("within", none), "within", "within", defArgs st_within, defBody st_within, defScope st_within, [], []⟩,
  ⟨("check_guest", none), "check_guest", "check_guest", defArgs st_check_guest, defBody st_check_guest, defScope st_check_guest, [], []⟩,
  ⟨("Guest", some "__init__"), "__init__", "Guest.__init__", defArgs st_Guest_init, defBody st_Guest_init, defScope st_Guest_init, [.adr (He.dflAt ("Guest", some "__init__") 0), .adr (He.dflAt ("Guest", some "__init__") 1), .adr (He.dflAt ("Guest", some "__init__") 2), .adr (He.dflAt ("Guest", some "__init__") 3)], []⟩,
  ⟨("Processor", some "key"), "key", "Processor.key", defArgs st_Processor_key, defBody st_Processor_key, defScope st_Processor_key, [], []⟩,
  ⟨("Machine", some "key"), "key", "Machine.key", defArgs st_Machine_key, defBody st_Machine_key, defScope st_Machine_key, [], []⟩,
  ⟨("newest", none), "newest", "newest", defArgs st_newest, defBody st_newest, defScope st_newest, [], []⟩,
  ⟨("_law_newest", none), "_law_newest", "_law_newest", defArgs st_law_newest, defBody st_law_newest, defScope st_law_newest, [], []⟩,
  ⟨("_law_whole", none), "_law_whole", "_law_whole", defArgs st_law_whole, defBody st_law_whole, defScope st_law_whole, [], []⟩,
  ⟨("_law_all_newest", none), "_law_all_newest", "_law_all_newest", defArgs st_law_all_newest, defBody st_law_all_newest, defScope st_law_all_newest, [], []⟩,
  ⟨("_law_state", none), "_law_state", "_law_state", defArgs st_law_state, defBody st_law_state, defScope st_law_state, [], []⟩,
  ⟨("_law_changes", none), "_law_changes", "_law_changes", defArgs st_law_changes, defBody st_law_changes, defScope st_law_changes, [], []⟩,
  ⟨("drain", none), "drain", "drain", defArgs st_drain, defBody st_drain, defScope st_drain, [], []⟩,
  ⟨("law", none), "law", "law", defArgs st_law, defBody st_law, defScope st_law, [], []⟩]
def fbs : List (PySem.W.Frag → Bool) := [(He.Fa.free "abs").ok,
  (He.Fa.free "all").ok,
  (He.Fa.free "bool").ok,
  (He.Fa.free "int").ok,
  (He.Fa.free "isinstance").ok,
  (He.Fa.free "len").ok,
  (He.Fa.free "list").ok,
  (He.Fa.free "range").ok,
  (He.Fa.free "reversed").ok,
  (He.Fa.free "tuple").ok,
  (He.Fa.glo "_law_row").ok,
  (He.Fa.glo "_law_frames").ok,
  (He.Fa.glo "_law_pick").ok,
  (He.Fa.glo "_law_stores").ok,
  (He.Fa.glo "within").ok,
  (He.Fa.glo "check_guest").ok,
  (He.Fa.glo "newest").ok,
  (He.Fa.glo "_law_newest").ok,
  (He.Fa.glo "_law_whole").ok,
  (He.Fa.glo "_law_all_newest").ok,
  (He.Fa.glo "_law_state").ok,
  (He.Fa.glo "_law_changes").ok,
  (He.Fa.glo "drain").ok,
  (He.Fa.glo "law").ok,
  (He.Fa.cls "Guest").ok,
  (He.Fa.cls "Machine").ok,
  (He.Fa.cls "Processor").ok,
  (He.Fa.glo "Guest").ok,
  (He.Fa.mkr "Guest").ok,
  (He.Fa.glo "Machine").ok,
  (He.Fa.mkr "Machine").ok,
  (He.Fa.glo "Processor").ok,
  (He.Fa.mkr "Processor").ok,
  (He.Fa.meth "Machine" "key").ok,
  (He.Fa.meth "Processor" "key").ok,
  (fun K => conV K "ADDRESSES" w_ADDRESSES),
  (fun K => conV K "CELLS" w_CELLS),
  (fun K => conV K "FRAMES" w_FRAMES),
  (fun K => conV K "MOST_WRITES" w_MOST_WRITES),
  (fun K => conV K "NUMBERS" w_NUMBERS),
  (fun K => conV K "PAGES" w_PAGES),
  (fun K => conV K "PROCESSORS" w_PROCESSORS),
  (fun K => conV K "REGISTERS" w_REGISTERS),
  (He.Fa.noat "Processor" "enabled").ok,
  (He.Fa.noat "Processor" "halted").ok,
  (He.Fa.noat "Processor" "less").ok,
  (He.Fa.noat "Processor" "level").ok,
  (He.Fa.noat "Processor" "pc").ok,
  (He.Fa.noat "Processor" "pending").ok,
  (He.Fa.noat "Processor" "regs").ok,
  (He.Fa.noat "Processor" "saved").ok,
  (He.Fa.noat "Processor" "zero").ok,
  (He.Fa.noat "Machine" "frames").ok,
  (He.Fa.noat "Machine" "guest").ok,
  (He.Fa.noat "Machine" "pages").ok,
  (He.Fa.noat "Machine" "processors").ok,
  (He.Fa.noat "Machine" "written").ok,
  (He.Fa.noat "Guest" "frames").ok,
  (He.Fa.noat "Guest" "handlers").ok,
  (He.Fa.noat "Guest" "pages").ok,
  (He.Fa.noat "Guest" "starts").ok,
  (He.Fa.noat "Guest" "writes").ok,
  (fun K => dflV K ("Guest", some "__init__") 0 (.tup [(.tup [(.int 0), (.int 7)]), (.tup [(.int 1), (.int 7)]), (.tup [(.int 2), (.int 7)]), (.tup [(.int 3), (.int 7)])])),
  (fun K => dflV K ("Guest", some "__init__") 1 (.tup [(.int 0), .non])),
  (fun K => dflV K ("Guest", some "__init__") 2 (.tup [(.int 60), (.int 60)])),
  (fun K => dflV K ("Guest", some "__init__") 3 (.tup []))]
abbrev R : PySem.W.OpenRow := PySem.W.OpenLaw.row PySem.Challenge.rw_guestlives_k33_buffered_stores_in_order
abbrev hk : PySem.W.Hook := hookB 6 (allB fbs) fn
def ob (s : PySem.W.SharedT) : He.AlD := obsBG 6 (allB fbs) fn (HandSHeadRun.getT s)
theorem ob_eq (s : PySem.W.SharedT) : ob s = hk.obs s.abs := obsBG_eq (HandSHeadRun.getT_eq s)
def loose : List Str := (["_wall", "FRAMES", "CELLS", "PAGES", "ADDRESSES", "NUMBERS", "REGISTERS", "PROCESSORS", "MOST_WRITES", "Processor", "Machine", "GuestlivesError", "GuestError", "newest", "drain", "PLAIN_PAGES", "within", "check_guest", "Guest", "_law_row", "_law_pick", "_law_whole", "_law_frames", "_law_stores", "_law_newest", "_law_all_newest", "_law_changes", "_law_state"] : List Str)
theorem run (w : World) : HandSHeadRun.RunEq R (PySem.W.view R.prog [33]) hk ob 4000 loose w := by
  intro os
  kernel_rfl
theorem tx_of {K : PySem.W.Frag} {h : Heap} {mg : Str → Option Value} (X : K.In h) (G : h.Ns mainGlobals mg) (c : SaysB (allB fbs) fn K) : Tx K mg where
  b_abs := He.free_ok X G (allB_at c.facts 0)
  b_all := He.free_ok X G (allB_at c.facts 1)
  b_bool := He.free_ok X G (allB_at c.facts 2)
  b_int := He.free_ok X G (allB_at c.facts 3)
  b_isinstance := He.free_ok X G (allB_at c.facts 4)
  b_len := He.free_ok X G (allB_at c.facts 5)
  b_list := He.free_ok X G (allB_at c.facts 6)
  b_range := He.free_ok X G (allB_at c.facts 7)
  b_reversed := He.free_ok X G (allB_at c.facts 8)
  b_tuple := He.free_ok X G (allB_at c.facts 9)
  g__law_row := He.glo_ok X G (allB_at c.facts 10)
  g__law_frames := He.glo_ok X G (allB_at c.facts 11)
  g__law_pick := He.glo_ok X G (allB_at c.facts 12)
  g__law_stores := He.glo_ok X G (allB_at c.facts 13)
  g_within := He.glo_ok X G (allB_at c.facts 14)
  g_check_guest := He.glo_ok X G (allB_at c.facts 15)
  g_newest := He.glo_ok X G (allB_at c.facts 16)
  g__law_newest := He.glo_ok X G (allB_at c.facts 17)
  g__law_whole := He.glo_ok X G (allB_at c.facts 18)
  g__law_all_newest := He.glo_ok X G (allB_at c.facts 19)
  g__law_state := He.glo_ok X G (allB_at c.facts 20)
  g__law_changes := He.glo_ok X G (allB_at c.facts 21)
  g_drain := He.glo_ok X G (allB_at c.facts 22)
  g_law := He.glo_ok X G (allB_at c.facts 23)
  cl_Guest := He.cls_ok (allB_at c.facts 24)
  cl_Machine := He.cls_ok (allB_at c.facts 25)
  cl_Processor := He.cls_ok (allB_at c.facts 26)
  g_Guest := He.glo_ok X G (allB_at c.facts 27)
  mk_Guest := He.mkr_ok (allB_at c.facts 28)
  g_Machine := He.glo_ok X G (allB_at c.facts 29)
  mk_Machine := He.mkr_ok (allB_at c.facts 30)
  g_Processor := He.glo_ok X G (allB_at c.facts 31)
  mk_Processor := He.mkr_ok (allB_at c.facts 32)
  me_Machine_key := He.meth_ok (allB_at c.facts 33)
  me_Processor_key := He.meth_ok (allB_at c.facts 34)
  c_ADDRESSES := conV_ok X G (allB_at c.facts 35)
  c_CELLS := conV_ok X G (allB_at c.facts 36)
  c_FRAMES := conV_ok X G (allB_at c.facts 37)
  c_MOST_WRITES := conV_ok X G (allB_at c.facts 38)
  c_NUMBERS := conV_ok X G (allB_at c.facts 39)
  c_PAGES := conV_ok X G (allB_at c.facts 40)
  c_PROCESSORS := conV_ok X G (allB_at c.facts 41)
  c_REGISTERS := conV_ok X G (allB_at c.facts 42)
  att := fun C f e => by
    have e := List.any_eq_true.mp e
    obtain ⟨p, hp, q⟩ := e
    have q := Bool.and_eq_true_iff.mp q
    obtain ⟨q1, q2⟩ := q
    have q1 := of_decide_eq_true q1
    have q2 := of_decide_eq_true q2
    subst q1 q2
    simp only [tabL, List.mem_cons, List.not_mem_nil, or_false] at hp
    rcases hp with rfl | rfl | rfl | rfl | rfl | rfl | rfl | rfl | rfl | rfl | rfl | rfl | rfl | rfl | rfl | rfl | rfl | rfl | rfl
    · rw [show toS (n_Processor, n_enabled).1 = ("Processor" : Str) from e_Processor, show toS (n_Processor, n_enabled).2 = ("enabled" : Str) by decide +kernel]; exact ⟨He.cls_ok (allB_at c.facts 26), He.noat_ok (allB_at c.facts 43)⟩
    · rw [show toS (n_Processor, n_halted).1 = ("Processor" : Str) from e_Processor, show toS (n_Processor, n_halted).2 = ("halted" : Str) by decide +kernel]; exact ⟨He.cls_ok (allB_at c.facts 26), He.noat_ok (allB_at c.facts 44)⟩
    · rw [show toS (n_Processor, n_less).1 = ("Processor" : Str) from e_Processor, show toS (n_Processor, n_less).2 = ("less" : Str) by decide +kernel]; exact ⟨He.cls_ok (allB_at c.facts 26), He.noat_ok (allB_at c.facts 45)⟩
    · rw [show toS (n_Processor, n_level).1 = ("Processor" : Str) from e_Processor, show toS (n_Processor, n_level).2 = ("level" : Str) by decide +kernel]; exact ⟨He.cls_ok (allB_at c.facts 26), He.noat_ok (allB_at c.facts 46)⟩
    · rw [show toS (n_Processor, n_pc).1 = ("Processor" : Str) from e_Processor, show toS (n_Processor, n_pc).2 = ("pc" : Str) by decide +kernel]; exact ⟨He.cls_ok (allB_at c.facts 26), He.noat_ok (allB_at c.facts 47)⟩
    · rw [show toS (n_Processor, n_pending).1 = ("Processor" : Str) from e_Processor, show toS (n_Processor, n_pending).2 = ("pending" : Str) by decide +kernel]; exact ⟨He.cls_ok (allB_at c.facts 26), He.noat_ok (allB_at c.facts 48)⟩
    · rw [show toS (n_Processor, n_regs).1 = ("Processor" : Str) from e_Processor, show toS (n_Processor, n_regs).2 = ("regs" : Str) by decide +kernel]; exact ⟨He.cls_ok (allB_at c.facts 26), He.noat_ok (allB_at c.facts 49)⟩
    · rw [show toS (n_Processor, n_saved).1 = ("Processor" : Str) from e_Processor, show toS (n_Processor, n_saved).2 = ("saved" : Str) by decide +kernel]; exact ⟨He.cls_ok (allB_at c.facts 26), He.noat_ok (allB_at c.facts 50)⟩
    · rw [show toS (n_Processor, n_zero).1 = ("Processor" : Str) from e_Processor, show toS (n_Processor, n_zero).2 = ("zero" : Str) by decide +kernel]; exact ⟨He.cls_ok (allB_at c.facts 26), He.noat_ok (allB_at c.facts 51)⟩
    · rw [show toS (n_Machine, n_frames).1 = ("Machine" : Str) from e_Machine, show toS (n_Machine, n_frames).2 = ("frames" : Str) by decide +kernel]; exact ⟨He.cls_ok (allB_at c.facts 25), He.noat_ok (allB_at c.facts 52)⟩
    · rw [show toS (n_Machine, n_guest).1 = ("Machine" : Str) from e_Machine, show toS (n_Machine, n_guest).2 = ("guest" : Str) by decide +kernel]; exact ⟨He.cls_ok (allB_at c.facts 25), He.noat_ok (allB_at c.facts 53)⟩
    · rw [show toS (n_Machine, n_pages).1 = ("Machine" : Str) from e_Machine, show toS (n_Machine, n_pages).2 = ("pages" : Str) by decide +kernel]; exact ⟨He.cls_ok (allB_at c.facts 25), He.noat_ok (allB_at c.facts 54)⟩
    · rw [show toS (n_Machine, n_processors).1 = ("Machine" : Str) from e_Machine, show toS (n_Machine, n_processors).2 = ("processors" : Str) by decide +kernel]; exact ⟨He.cls_ok (allB_at c.facts 25), He.noat_ok (allB_at c.facts 55)⟩
    · rw [show toS (n_Machine, n_written).1 = ("Machine" : Str) from e_Machine, show toS (n_Machine, n_written).2 = ("written" : Str) by decide +kernel]; exact ⟨He.cls_ok (allB_at c.facts 25), He.noat_ok (allB_at c.facts 56)⟩
    · rw [show toS (n_Guest, n_frames).1 = ("Guest" : Str) from e_Guest, show toS (n_Guest, n_frames).2 = ("frames" : Str) by decide +kernel]; exact ⟨He.cls_ok (allB_at c.facts 24), He.noat_ok (allB_at c.facts 57)⟩
    · rw [show toS (n_Guest, n_handlers).1 = ("Guest" : Str) from e_Guest, show toS (n_Guest, n_handlers).2 = ("handlers" : Str) by decide +kernel]; exact ⟨He.cls_ok (allB_at c.facts 24), He.noat_ok (allB_at c.facts 58)⟩
    · rw [show toS (n_Guest, n_pages).1 = ("Guest" : Str) from e_Guest, show toS (n_Guest, n_pages).2 = ("pages" : Str) by decide +kernel]; exact ⟨He.cls_ok (allB_at c.facts 24), He.noat_ok (allB_at c.facts 59)⟩
    · rw [show toS (n_Guest, n_starts).1 = ("Guest" : Str) from e_Guest, show toS (n_Guest, n_starts).2 = ("starts" : Str) by decide +kernel]; exact ⟨He.cls_ok (allB_at c.facts 24), He.noat_ok (allB_at c.facts 60)⟩
    · rw [show toS (n_Guest, n_writes).1 = ("Guest" : Str) from e_Guest, show toS (n_Guest, n_writes).2 = ("writes" : Str) by decide +kernel]; exact ⟨He.cls_ok (allB_at c.facts 24), He.noat_ok (allB_at c.facts 61)⟩
  dv_Guest_init_0 := dflV_ok (allB_at c.facts 62)
  dv_Guest_init_1 := dflV_ok (allB_at c.facts 63)
  dv_Guest_init_2 := dflV_ok (allB_at c.facts 64)
  dv_Guest_init_3 := dflV_ok (allB_at c.facts 65)
  d_law_row := c.defs 0
  d_law_frames := c.defs 1
  d_law_pick := c.defs 2
  d_law_stores := c.defs 3
  d_Processor_init := c.defs 4
  d_Machine_init := c.defs 5
  d_within := c.defs 6
  d_check_guest := c.defs 7
  d_Guest_init := c.defs 8
  d_Processor_key := c.defs 9
  d_Machine_key := c.defs 10
  d_newest := c.defs 11
  d_law_newest := c.defs 12
  d_law_whole := c.defs 13
  d_law_all_newest := c.defs 14
  d_law_state := c.defs 15
  d_law_changes := c.defs 16
  d_drain := c.defs 17
  d_law := c.defs 18
end K33
open PySem PySem.W PySem.Calls PyProof.Rows in
theorem K33.holds_of (plain : ∀ ns : List Int, ns.length ≤ 63 → ∃ S, K33.f_law [.loc 0] [.rol (ns.map .int)] = .ok (.bl true) S) : PySem.Challenge.rw_guestlives_k33_buffered_stores_in_order.Holds := by
  w_on; o_law
  refine HandSHeadRun.head_any (r := OpenLaw.row PySem.Challenge.rw_guestlives_k33_buffered_stores_in_order) (q := view (OpenLaw.row PySem.Challenge.rw_guestlives_k33_buffered_stores_in_order).prog [33]) (H := K33.hk) (ob := K33.ob) (M := 4000) (loose := K33.loose) (d := HandSHeadRun.topDef (OpenLaw.row PySem.Challenge.rw_guestlives_k33_buffered_stores_in_order).prog 33) (kwd := []) K33.ob_eq
    (by kernel_rfl) (fun s => by kernel_rfl) K33.run (by kernel_rfl) (by kernel_rfl) (by kernel_rfl) (by rfl) (by first | assumption | decide +kernel) (by decide +kernel) ⟨rfl, rfl, rfl, rfl, rfl, by decide +kernel⟩ ?hw ?hc
  case hw => w_witness2
  case hc =>
    refine GL.walk_end (l := PySem.Challenge.rw_guestlives_k33_buffered_stores_in_order) (n := 63) (k := 5) (x := "_law_script") rfl (by decide) (by kernel_rfl) ⟨rfl, by decide, by decide⟩ ?F
    intro w mg fa h Y G hmg0
    obtain ⟨K, KX, c⟩ := Y
    have T : K33.Tx K mg := K33.tx_of KX G c
    have hmg : mg ("law" : PySem.Str) = some (.ref fa) := by
      have e : (HandSHeadRun.topDef (OpenLaw.row PySem.Challenge.rw_guestlives_k33_buffered_stores_in_order).prog 33).name = ("law" : PySem.Str) := by kernel_rfl
      rw [← e]; exact hmg0
    have e := hmg.symm.trans T.g_law
    cases e
    obtain ⟨fd0, F0⟩ := T.d_law
    have hb := F0.bindsA (ps := [("_law_script" : PySem.Str)]) fun _ _ _ _ _ _ us hl => match us, hl with | [_], _ => rfl
    exact ⟨K, fd0, GL.spI K 1 K33.f_law, KX, fun s v => hb s [v] rfl, fun H a ns hl hO hS => GL.law_sp rfl plain H a ns hl hO hS, fun base X2 G2 => K33.fi_law T F0⟩

set_option maxRecDepth 100000 in
set_option maxHeartbeats 4000000 in
theorem PySem.Challenge.cw_guestlives_k33_buffered_stores_in_order_holds : PySem.Challenge.rw_guestlives_k33_buffered_stores_in_order.Holds := by
  exact K33.holds_of K33.plain
