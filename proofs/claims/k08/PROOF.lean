import PyProof.Rows.All
import Wide.All
import OpenK.AllK
import Wide.FinOn
import HandS.ForMost
import HandS.Walk
import HandS.Exc
import HandS.ExcOwn
import HandS.WordsExc
import HandS.HeadHook1
import HandS.HeadHook2
import HandS.TupAny
import HandS.IsInst
import HandS.TupLe
import HandS.TupMul
import HandS.Defaults
import HandS.CallSlots
import HandS.Head0
import HandS.Head1
import HandS.Head2
import HandS.HeadEnd
import HandS.HeadHook3
import PySem.Challenge.RW_guestlives_k08_fetch_reads_the_cells_of
set_option Elab.async false
set_option linter.all false
set_option maxRecDepth 100000
set_option maxHeartbeats 1000000
namespace GL
open PySem PySem.Spec PyProof.Rows L2

abbrev Nm := List Nat
def toS (l : Nm) : Str := ⟨l.toArray⟩
theorem toS_inj {a b : Nm} (h : toS a = toS b) : a = b := by
  have := congrArg (fun s : Str => s.cps.toList) h
  simpa [toS] using this
theorem toS_cps (x : Str) : toS x.cps.toList = x := by
  cases x; simp [toS]

/-- built-in types that are named -/
inductive BT where
  | int | bool | str | list | tuple | dict | set | none
  deriving DecidableEq, Inhabited
def BT.name : BT → String
  | .int => "int" | .bool => "bool" | .str => "str" | .list => "list" | .tuple => "tuple" | .dict => "dict" | .set => "set" | .none => "NoneType"
/-- values: tuples are data, lists dicts instances are places of the store -/
inductive PV where
  | non | bl (b : Bool) | int (i : Int) | str (s : List Nat) | tup (xs : List PV) | loc (n : Nat) | gl (x : Nm) | ty (b : BT)
  deriving Inhabited

inductive OB where
  | lst (xs : List PV)
  | rol (xs : List PV)
  | dct (kvs : List (PV × PV))
  | fdct (kvs : List (PV × PV))
  | ins (C : Nm) (fs : List (Nm × PV))
  deriving Inhabited
def OB.mut : OB → Bool
  | .rol _ => false
  | .fdct _ => false
  | _ => true
abbrev Sto := List OB
abbrev Ls := List (Option PV)

structure Exn where
  cls : Nm
  fs : List (Nm × PV)

inductive Out (α : Type) where
  | ok (a : α) (S : Sto)
  | exc (e : Exn) (S : Sto)
  | bad
inductive SOut where
  | nx (ls : Ls) (S : Sto)
  | rt (w : PV) (S : Sto)
  | bk (ls : Ls) (S : Sto)
  | ct (ls : Ls) (S : Sto)
  | exc (e : Exn) (ls : Ls) (S : Sto)
  | bad
abbrev ME := Ls → Sto → Out PV
abbrev MT := Ls → Sto → Out Bool
abbrev MA := Ls → Sto → Out (List PV)
abbrev MS := Ls → Sto → SOut
def Out.bind {α β : Type} (o : Out α) (f : α → Sto → Out β) : Out β := match o with
  | .ok a S => f a S
  | .exc e S => .exc e S
  | .bad => .bad
def Out.then {α : Type} (o : Out α) (ls : Ls) (f : α → Sto → SOut) : SOut := match o with
  | .ok a S => f a S
  | .exc e S => .exc e ls S
  | .bad => .bad
def SOut.seq (o : SOut) (f : MS) : SOut := match o with
  | .nx ls S => f ls S
  | r => r

/-! ### relations -/
mutual
inductive RW (K : PySem.W.Frag) (ρ : Nat → Addr) (N : Nat) (H : Hp) : PV → V → Prop
  | non : RW K ρ N H .non .non
  | bl (b : Bool) : RW K ρ N H (.bl b) (.bl b)
  | int (i : Int) : RW K ρ N H (.int i) (.int i)
  | str (x : Str) : RW K ρ N H (.str x.cps.toList) (.str x)
  | tup {xs : List PV} {a : Addr} {vs : List V} : SqT K H a vs → RWs K ρ N H xs vs → RW K ρ N H (.tup xs) (.ref a)
  | loc (n : Nat) : n < N → RW K ρ N H (.loc n) (.ref (ρ n))
  | gl (x : Nm) : RW K ρ N H (.gl x) (.ref (He.ga K (toS x)))
  | ty (n : BT) : RW K ρ N H (.ty n) (.ty n.name)
inductive RWs (K : PySem.W.Frag) (ρ : Nat → Addr) (N : Nat) (H : Hp) : List PV → List V → Prop
  | nil : RWs K ρ N H [] []
  | cons {w : PV} {ws : List PV} {v : V} {vs : List V} : RW K ρ N H w v → RWs K ρ N H ws vs → RWs K ρ N H (w :: ws) (v :: vs)
end
/-- a list that is only read -/
def RoL (K : PySem.W.Frag) (H : Hp) (a : Addr) (xs : List V) : Prop :=
  (∃ o, H a = some (.frz o (.lst xs))) ∨
    ∃ (o : Obj) (its : Array Value) (n : Nat), K.lookup a = some o ∧ o.cls = .type "list" ∧ o.dict = none ∧ o.data = .seq its n ∧ its.size ≤ sizeLine ∧ Vals xs its.toList
theorem RoL.sq {K : PySem.W.Frag} {H : Hp} {a : Addr} {xs : List V} (h : RoL K H a xs) : SqL K H a xs := by
  rcases h with ⟨o, h⟩ | h
  · exact .inl (.inr ⟨o, h⟩)
  · exact .inr h
def Ext (K : PySem.W.Frag) (ρ : Nat → Addr) (N : Nat) (H : Hp) (ρ' : Nat → Addr) (N' : Nat) (H' : Hp) : Prop :=
  N ≤ N' ∧ (∀ n, n < N → ρ' n = ρ n) ∧ (∀ a vs, SqT K H a vs → SqT K H' a vs) ∧ ∀ a vs, RoL K H a vs → RoL K H' a vs
section
variable {K : PySem.W.Frag} {ρ ρ' ρ'' : Nat → Addr} {N N' N'' : Nat} {H H' H'' : Hp}
theorem Ext.refl : Ext K ρ N H ρ N H := ⟨Nat.le_refl _, fun _ _ => rfl, fun _ _ h => h, fun _ _ h => h⟩
theorem Ext.trans (a : Ext K ρ N H ρ' N' H') (b : Ext K ρ' N' H' ρ'' N'' H'') : Ext K ρ N H ρ'' N'' H'' :=
  ⟨Nat.le_trans a.1 b.1, fun n h => (b.2.1 n (Nat.lt_of_lt_of_le h a.1)).trans (a.2.1 n h), fun x vs h => b.2.2.1 x vs (a.2.2.1 x vs h), fun x vs h => b.2.2.2 x vs (a.2.2.2 x vs h)⟩
mutual
theorem RW.ext (e : Ext K ρ N H ρ' N' H') : ∀ {w : PV} {v : V}, RW K ρ N H w v → RW K ρ' N' H' w v
  | _, _, .non => .non
  | _, _, .bl b => .bl b
  | _, _, .int i => .int i
  | _, _, .str x => .str x
  | _, _, .tup h hs => .tup (e.2.2.1 _ _ h) (RWs.ext e hs)
  | _, _, .loc n h => by
    rw [← e.2.1 n h]
    exact .loc n (Nat.lt_of_lt_of_le h e.1)
  | _, _, .gl x => .gl x
  | _, _, .ty n => .ty n
theorem RWs.ext (e : Ext K ρ N H ρ' N' H') : ∀ {w : List PV} {v : List V}, RWs K ρ N H w v → RWs K ρ' N' H' w v
  | _, _, .nil => .nil
  | _, _, .cons h hs => .cons (RW.ext e h) (RWs.ext e hs)
end
theorem RWs.length : ∀ {ws : List PV} {vs : List V}, RWs K ρ N H ws vs → ws.length = vs.length
  | _, _, .nil => rfl
  | _, _, .cons _ t => by simp [RWs.length t]
theorem RWs.get : ∀ {ws : List PV} {vs : List V} {i : Nat} {w : PV}, RWs K ρ N H ws vs → ws[i]? = some w → ∃ v, vs[i]? = some v ∧ RW K ρ N H w v
  | _, _, _, _, .nil, e => by simp at e
  | _, _, 0, _, .cons r _, e => by simp at e; subst e; exact ⟨_, rfl, r⟩
  | _, _, i + 1, w, .cons _ t, e => by
    obtain ⟨v, h1, h2⟩ := RWs.get (i := i) (w := w) t (by simpa using e)
    exact ⟨v, by simpa using h1, h2⟩
theorem RWs.get' : ∀ {ws : List PV} {vs : List V} {i : Nat} {v : V}, RWs K ρ N H ws vs → vs[i]? = some v → ∃ w, ws[i]? = some w ∧ RW K ρ N H w v
  | _, _, _, _, .nil, e => by simp at e
  | _, _, 0, _, .cons r _, e => by simp at e; subst e; exact ⟨_, rfl, r⟩
  | _, _, i + 1, v, .cons _ t, e => by
    obtain ⟨w, h1, h2⟩ := RWs.get' (i := i) (v := v) t (by simpa using e)
    exact ⟨w, by simpa using h1, h2⟩
theorem RWs.app : ∀ {ws ws' : List PV} {vs vs' : List V}, RWs K ρ N H ws vs → RWs K ρ N H ws' vs' → RWs K ρ N H (ws ++ ws') (vs ++ vs')
  | _, _, _, _, .nil, s => s
  | _, _, _, _, .cons r t, s => .cons r (RWs.app t s)
theorem RWs.take : ∀ {ws : List PV} {vs : List V} (n : Nat), RWs K ρ N H ws vs → RWs K ρ N H (ws.take n) (vs.take n)
  | _, _, 0, _ => .nil
  | _, _, _ + 1, .nil => .nil
  | _, _, n + 1, .cons r t => .cons r (RWs.take n t)
theorem RWs.drop : ∀ {ws : List PV} {vs : List V} (n : Nat), RWs K ρ N H ws vs → RWs K ρ N H (ws.drop n) (vs.drop n)
  | _, _, 0, r => r
  | _, _, _ + 1, .nil => .nil
  | _, _, n + 1, .cons _ t => RWs.drop n t
theorem RWs.set {w : PV} {v : V} (r : RW K ρ N H w v) : ∀ {ws : List PV} {vs : List V} (i : Nat), RWs K ρ N H ws vs → RWs K ρ N H (ws.set i w) (vs.set i v)
  | _, _, _, .nil => .nil
  | _, _, 0, .cons _ t => .cons r t
  | _, _, i + 1, .cons q t => .cons q (RWs.set r i t)
theorem RWs.reverse : ∀ {ws : List PV} {vs : List V}, RWs K ρ N H ws vs → RWs K ρ N H ws.reverse vs.reverse
  | _, _, .nil => .nil
  | _, _, .cons r t => by
    rw [List.reverse_cons, List.reverse_cons]
    exact RWs.app (RWs.reverse t) (.cons r .nil)
theorem RWs.dropLast {ws : List PV} {vs : List V} (h : RWs K ρ N H ws vs) : RWs K ρ N H ws.dropLast vs.dropLast := by
  rw [List.dropLast_eq_take, List.dropLast_eq_take, h.length]; exact h.take _
end

/-- fields -/
inductive RFs (K : PySem.W.Frag) (ρ : Nat → Addr) (N : Nat) (H : Hp) : List (Nm × PV) → List (Str × V) → Prop
  | nil : RFs K ρ N H [] []
  | cons {f : Nm} {w : PV} {r : List (Nm × PV)} {v : V} {r' : List (Str × V)} : RW K ρ N H w v → RFs K ρ N H r r' → RFs K ρ N H ((f, w) :: r) ((toS f, v) :: r')
def RKey : PV → Key → Prop
  | .int i, .inl j => i = j
  | .str l, .inr x => x.cps.toList = l
  | _, _ => False
inductive RKs (K : PySem.W.Frag) (ρ : Nat → Addr) (N : Nat) (H : Hp) : List (PV × PV) → List (Key × V) → Prop
  | nil : RKs K ρ N H [] []
  | cons {k w : PV} {r : List (PV × PV)} {kk : Key} {v : V} {r' : List (Key × V)} : RKey k kk → RW K ρ N H w v → RKs K ρ N H r r' → RKs K ρ N H ((k, w) :: r) ((kk, v) :: r')
def RO (K : PySem.W.Frag) (ρ : Nat → Addr) (N : Nat) (H : Hp) : OB → Addr → Prop
  | .lst xs, a => ∃ vs, H a = some (.lst vs) ∧ RWs K ρ N H xs vs
  | .rol xs, a => ∃ vs, RoL K H a vs ∧ RWs K ρ N H xs vs
  | .dct kvs, a => ∃ kv', H a = some (.dK kv') ∧ RKs K ρ N H kvs kv'
  | .fdct kvs, a => ∃ o kv', H a = some (.frz o (.dK kv')) ∧ RKs K ρ N H kvs kv'
  | .ins C fs, a => ∃ dx fs', H a = some (.ins (He.ga K (toS C)) dx fs') ∧ RFs K ρ N H fs fs'
structure RSt (K : PySem.W.Frag) (ρ : Nat → Addr) (H : Hp) (S : Sto) : Prop where
  at_ : ∀ n o, S[n]? = some o → RO K ρ S.length H o (ρ n)
  inj : ∀ n m o o', S[n]? = some o → S[m]? = some o' → o.mut = true → o'.mut = true → ρ n = ρ m → n = m
section
variable {K : PySem.W.Frag} {ρ ρ' ρ'' : Nat → Addr} {N N' N'' : Nat} {H H' H'' : Hp} {S : Sto}
theorem RFs.ext (e : Ext K ρ N H ρ' N' H') : ∀ {w : List (Nm × PV)} {v : List (Str × V)}, RFs K ρ N H w v → RFs K ρ' N' H' w v
  | _, _, .nil => .nil
  | _, _, .cons h hs => .cons (RW.ext e h) (RFs.ext e hs)
theorem RKs.ext (e : Ext K ρ N H ρ' N' H') : ∀ {w : List (PV × PV)} {v : List (Key × V)}, RKs K ρ N H w v → RKs K ρ' N' H' w v
  | _, _, .nil => .nil
  | _, _, .cons hk h hs => .cons hk (RW.ext e h) (RKs.ext e hs)
theorem RoL.keep {a : Addr} {xs : List V} (k : ∀ h, H a = some h → H' a = some h) (h : RoL K H a xs) : RoL K H' a xs := by
  rcases h with ⟨o, h⟩ | h
  · exact .inl ⟨o, k _ h⟩
  · exact .inr h
theorem RO.ext {o : OB} {a : Addr} (e : Ext K ρ N H ρ' N' H') (k : ∀ h, H a = some h → H' a = some h) (r : RO K ρ N H o a) : RO K ρ' N' H' o a := by
  cases o with
  | lst xs => obtain ⟨vs, h, r⟩ := r; exact ⟨vs, k _ h, r.ext e⟩
  | rol xs => obtain ⟨vs, h, r⟩ := r; exact ⟨vs, h.keep k, r.ext e⟩
  | dct kvs => obtain ⟨vs, h, r⟩ := r; exact ⟨vs, k _ h, r.ext e⟩
  | fdct kvs => obtain ⟨o, vs, h, r⟩ := r; exact ⟨o, vs, k _ h, r.ext e⟩
  | ins C fs => obtain ⟨dx, vs, h, r⟩ := r; exact ⟨dx, vs, k _ h, r.ext e⟩
/-- a mutable one is tracked, and is no tuple and not locked -/
def MutH : HO → Prop
  | .lst _ => True
  | .dK _ => True
  | .ins _ _ _ => True
  | _ => False
theorem RO.mutH {o : OB} {a : Addr} (r : RO K ρ N H o a) (m : o.mut = true) : ∃ h, H a = some h ∧ MutH h := by
  cases o with
  | lst xs => obtain ⟨vs, h, r⟩ := r; exact ⟨_, h, trivial⟩
  | rol xs => cases m
  | dct kvs => obtain ⟨vs, h, r⟩ := r; exact ⟨_, h, trivial⟩
  | fdct kvs => cases m
  | ins C fs => obtain ⟨dx, vs, h, r⟩ := r; exact ⟨_, h, trivial⟩
theorem sqt_upd_new {p a : Addr} {ho : HO} {vs : List V} (hp : H p = none) (h : SqT K H a vs) : SqT K (upd H p ho) a vs := by
  rcases h with (h | ⟨o, h⟩) | h
  · exact .inl (.inl (by rw [upd_ne (ne_of_none h hp)]; exact h))
  · exact .inl (.inr ⟨o, by rw [upd_ne (ne_of_none h hp)]; exact h⟩)
  · exact .inr h
theorem sqt_upd_mut {p a : Addr} {h0 ho : HO} {vs : List V} (hp : H p = some h0) (m : MutH h0) (h : SqT K H a vs) : SqT K (upd H p ho) a vs := by
  rcases h with (h | ⟨o, h⟩) | h
  · exact .inl (.inl (by rw [upd_ne (ne_of h hp (by rintro rfl; exact m))]; exact h))
  · exact .inl (.inr ⟨o, by rw [upd_ne (ne_of h hp (by rintro rfl; exact m))]; exact h⟩)
  · exact .inr h
theorem rol_upd_new {p a : Addr} {ho : HO} {vs : List V} (hp : H p = none) (h : RoL K H a vs) : RoL K (upd H p ho) a vs :=
  h.keep fun _ e => by rw [upd_ne (ne_of_none e hp)]; exact e
theorem rol_upd_mut {p a : Addr} {h0 ho : HO} {vs : List V} (hp : H p = some h0) (m : MutH h0) (h : RoL K H a vs) : RoL K (upd H p ho) a vs := by
  rcases h with ⟨o, h⟩ | h
  · exact .inl ⟨o, by rw [upd_ne (ne_of h hp (by rintro rfl; exact m))]; exact h⟩
  · exact .inr h
/-- the place of a new object -/
def grow (ρ : Nat → Addr) (N : Nat) (p : Addr) : Nat → Addr := fun n => if n = N then p else ρ n
theorem grow_new {p : Addr} : grow ρ N p N = p := by simp [grow]
theorem grow_old {p : Addr} {n : Nat} (h : n < N) : grow ρ N p n = ρ n := by simp [grow, Nat.ne_of_lt h]
theorem ext_new {p : Addr} {ho : HO} (hp : H p = none) : Ext K ρ N H (grow ρ N p) (N + 1) (upd H p ho) :=
  ⟨Nat.le_succ _, fun _ h => grow_old h, fun _ _ h => sqt_upd_new hp h, fun _ _ h => rol_upd_new hp h⟩
theorem ext_keep {p : Addr} {ho : HO} (hp : H p = none) : Ext K ρ N H ρ N (upd H p ho) :=
  ⟨Nat.le_refl _, fun _ _ => rfl, fun _ _ h => sqt_upd_new hp h, fun _ _ h => rol_upd_new hp h⟩
theorem ext_upd {p : Addr} {h0 ho : HO} (hp : H p = some h0) (m : MutH h0) : Ext K ρ N H ρ N (upd H p ho) :=
  ⟨Nat.le_refl _, fun _ _ => rfl, fun _ _ h => sqt_upd_mut hp m h, fun _ _ h => rol_upd_mut hp m h⟩
theorem lt_of_get {n : Nat} {o : OB} (h : S[n]? = some o) : n < S.length := (List.getElem?_eq_some_iff.mp h).1
/-- the heap alone has grown (a new tuple, an instance's own dict) -/
theorem RSt.keep (r : RSt K ρ H S) {p : Addr} {ho : HO} (hp : H p = none) : RSt K ρ (upd H p ho) S :=
  ⟨fun n o h => (r.at_ n o h).ext (ext_keep hp) fun h' e => by rw [upd_ne (ne_of_none e hp)]; exact e, r.inj⟩
theorem RSt.new (r : RSt K ρ H S) {p : Addr} {ho : HO} {o : OB} (hp : H p = none) (hm : o.mut = true) (ro : RO K (grow ρ S.length p) (S.length + 1) (upd H p ho) o p) :
    RSt K (grow ρ S.length p) (upd H p ho) (S ++ [o]) := by
  have e : Ext K ρ S.length H (grow ρ S.length p) (S.length + 1) (upd H p ho) := ext_new hp
  have hl : (S ++ [o]).length = S.length + 1 := by simp
  refine ⟨fun n o' h => ?_, fun n m o1 o2 h1 h2 m1 m2 q => ?_⟩
  · rw [hl]
    by_cases hn : n < S.length
    · rw [List.getElem?_append_left hn] at h
      rw [grow_old hn]
      exact (r.at_ n o' h).ext e fun h' e' => by rw [upd_ne (ne_of_none e' hp)]; exact e'
    · have : n = S.length := by have := lt_of_get h; omega
      subst this
      rw [List.getElem?_append_right (Nat.le_refl _)] at h
      simp at h; subst h
      rw [grow_new]; exact ro
  · have l1 := lt_of_get h1
    have l2 := lt_of_get h2
    rw [hl] at l1 l2
    by_cases a1 : n < S.length
    · rw [List.getElem?_append_left a1] at h1
      by_cases a2 : m < S.length
      · rw [List.getElem?_append_left a2] at h2
        rw [grow_old a1, grow_old a2] at q
        exact r.inj n m o1 o2 h1 h2 m1 m2 q
      · have : m = S.length := by omega
        subst this
        rw [grow_old a1, grow_new] at q
        obtain ⟨ho', e1, _⟩ := (r.at_ n o1 h1).mutH m1
        rw [q, hp] at e1; cases e1
    · have : n = S.length := by omega
      subst this
      by_cases a2 : m < S.length
      · rw [List.getElem?_append_left a2] at h2
        rw [grow_old a2, grow_new] at q
        obtain ⟨ho', e1, _⟩ := (r.at_ m o2 h2).mutH m2
        rw [← q, hp] at e1; cases e1
      · omega
theorem RSt.set (r : RSt K ρ H S) {n : Nat} {o o' : OB} {ho : HO} (hn : S[n]? = some o) (hm : o.mut = true) (hm' : o'.mut = true) (ro : RO K ρ S.length (upd H (ρ n) ho) o' (ρ n)) :
    RSt K ρ (upd H (ρ n) ho) (S.set n o') := by
  obtain ⟨h0, e0, mh⟩ := (r.at_ n o hn).mutH hm
  have e : Ext K ρ S.length H ρ S.length (upd H (ρ n) ho) := ext_upd e0 mh
  have ln := lt_of_get hn
  refine ⟨fun m o2 h => ?_, fun m m' o1 o2 h1 h2 m1 m2 q => ?_⟩
  · rw [List.length_set]
    by_cases hmn : n = m
    · subst hmn
      rw [List.getElem?_set_self ln] at h
      cases h; exact ro
    · rw [List.getElem?_set_ne hmn] at h
      have ro2 := r.at_ m o2 h
      by_cases mm : o2.mut = true
      · refine ro2.ext e fun h' e' => ?_
        rw [upd_ne (fun z => hmn (r.inj n m o o2 hn h hm mm z.symm))]; exact e'
      · cases o2 with
        | rol xs =>
          obtain ⟨vs, hr, rr⟩ := ro2
          refine ⟨vs, ?_, rr.ext e⟩
          rcases hr with ⟨ob, hr⟩ | hr
          · exact .inl ⟨ob, by rw [upd_ne (ne_of hr e0 (by rintro rfl; exact mh))]; exact hr⟩
          · exact .inr hr
        | fdct kvs =>
          obtain ⟨ob, vs, hr, rr⟩ := ro2
          exact ⟨ob, vs, by rw [upd_ne (ne_of hr e0 (by rintro rfl; exact mh))]; exact hr, rr.ext e⟩
        | _ => exact absurd rfl mm
  · have g : ∀ {k : Nat} {ob : OB}, (S.set n o')[k]? = some ob → ob.mut = true → ∃ ob', S[k]? = some ob' ∧ ob'.mut = true := fun {k ob} hk mk => by
      by_cases hkn : n = k
      · subst hkn; exact ⟨o, hn, hm⟩
      · rw [List.getElem?_set_ne hkn] at hk; exact ⟨ob, hk, mk⟩
    obtain ⟨a, a1, a2⟩ := g h1 m1
    obtain ⟨b, b1, b2⟩ := g h2 m2
    exact r.inj m m' a b a1 b1 a2 b2 q
end
end GL

set_option Elab.async false
set_option linter.all false
set_option maxRecDepth 100000
set_option maxHeartbeats 1000000
namespace GL
open PySem PySem.Spec PyProof.Rows L2

/-! ### locals -/
inductive RL (K : PySem.W.Frag) (ρ : Nat → Addr) (N : Nat) (H : Hp) : Ls → L2.St → Prop
  | nil : RL K ρ N H [] []
  | no {ls : Ls} {o : Option V} {σ : L2.St} : RL K ρ N H ls σ → RL K ρ N H (none :: ls) (o :: σ)
  | yes {w : PV} {v : V} {ls : Ls} {σ : L2.St} : RW K ρ N H w v → RL K ρ N H ls σ → RL K ρ N H (some w :: ls) (some v :: σ)
section
variable {K : PySem.W.Frag} {ρ ρ' ρ'' : Nat → Addr} {N N' N'' : Nat} {H H' H'' : Hp} {S : Sto} {ls : Ls} {σ : L2.St}
theorem RL.ext (e : Ext K ρ N H ρ' N' H') : ∀ {ls : Ls} {σ : L2.St}, RL K ρ N H ls σ → RL K ρ' N' H' ls σ
  | _, _, .nil => .nil
  | _, _, .no t => .no (RL.ext e t)
  | _, _, .yes r t => .yes (r.ext e) (RL.ext e t)
theorem RL.length : ∀ {ls : Ls} {σ : L2.St}, RL K ρ N H ls σ → ls.length = σ.length
  | _, _, .nil => rfl
  | _, _, .no t => by simp [RL.length t]
  | _, _, .yes _ t => by simp [RL.length t]
theorem RL.get : ∀ {ls : Ls} {σ : L2.St} {i : Nat} {w : PV}, RL K ρ N H ls σ → ls[i]? = some (some w) → ∃ v, σ[i]? = some (some v) ∧ RW K ρ N H w v
  | _, _, _, _, .nil, e => by simp at e
  | _, _, 0, _, .no _, e => by simp at e
  | _, _, 0, _, .yes r _, e => by simp at e; subst e; exact ⟨_, rfl, r⟩
  | _, _, i + 1, w, .no t, e => by
    obtain ⟨v, h1, h2⟩ := RL.get (i := i) (w := w) t (by simpa using e)
    exact ⟨v, by simpa using h1, h2⟩
  | _, _, i + 1, w, .yes _ t, e => by
    obtain ⟨v, h1, h2⟩ := RL.get (i := i) (w := w) t (by simpa using e)
    exact ⟨v, by simpa using h1, h2⟩
theorem RL.set {w : PV} {v : V} (r : RW K ρ N H w v) : ∀ {ls : Ls} {σ : L2.St} (i : Nat), RL K ρ N H ls σ → RL K ρ N H (ls.set i (some w)) (σ.set i (some v))
  | _, _, _, .nil => .nil
  | _, _, 0, .no t => .yes r t
  | _, _, 0, .yes _ t => .yes r t
  | _, _, i + 1, .no t => .no (RL.set r i t)
  | _, _, i + 1, .yes q t => .yes q (RL.set r i t)
theorem RL.wipe1 (o : Option V) : ∀ {ls : Ls} {σ : L2.St} (i : Nat), RL K ρ N H ls σ → RL K ρ N H (ls.set i none) (σ.set i o)
  | _, _, _, .nil => .nil
  | _, _, 0, .no t => .no t
  | _, _, 0, .yes _ t => .no t
  | _, _, i + 1, .no t => .no (RL.wipe1 o i t)
  | _, _, i + 1, .yes q t => .yes q (RL.wipe1 o i t)
end
def wipeL (ls : Ls) : List Nat → Ls
  | [] => ls
  | v :: vs => (wipeL ls vs).set v none
theorem RL.wipe {K : PySem.W.Frag} {ρ : Nat → Addr} {N : Nat} {H : Hp} {ls : Ls} {σ : L2.St} (h : RL K ρ N H ls σ) : ∀ vs : List Nat, RL K ρ N H (wipeL ls vs) (L2.wipe σ vs)
  | [] => h
  | v :: vs => RL.wipe1 _ v (RL.wipe h vs)

/-! ### what holds behind -/
def RX (K : PySem.W.Frag) (ρ : Nat → Addr) (N : Nat) (H : Hp) (e : Exn) (cls : Value) (d : Option Addr) : Prop :=
  cls = .ref (He.ga K (toS e.cls)) ∧ ∃ dx fs', d = some dx ∧ H dx = some (.xd fs') ∧ RFs K ρ N H e.fs fs'
abbrev RelF (α β : Type) := PySem.W.Frag → (Nat → Addr) → Nat → Hp → α → β → Prop
def Post {α β : Type} (R : RelF α β) (K : PySem.W.Frag) (ρ : Nat → Addr) (N : Nat) (H : Hp) (Ex : XK) (o : Out α) (Q : β → Hp → Prop) : Prop := match o with
  | .ok a S' => ∀ ρ' H' b, Ext K ρ N H ρ' S'.length H' → RSt K ρ' H' S' → R K ρ' S'.length H' a b → Q b H'
  | .exc e S' => ∀ ρ' H' cls d, Ext K ρ N H ρ' S'.length H' → RSt K ρ' H' S' → RX K ρ' S'.length H' e cls d → Ex cls d H'
  | .bad => False
def PostS (K : PySem.W.Frag) (ρ : Nat → Addr) (N : Nat) (H : Hp) (Wx : WX) (o : SOut) (D : Ends) : Prop := match o with
  | .nx ls' S' => ∀ ρ' H' σ', Ext K ρ N H ρ' S'.length H' → RSt K ρ' H' S' → RL K ρ' S'.length H' ls' σ' → D.nx σ' H'
  | .bk ls' S' => ∀ ρ' H' σ', Ext K ρ N H ρ' S'.length H' → RSt K ρ' H' S' → RL K ρ' S'.length H' ls' σ' → D.bk σ' H'
  | .ct ls' S' => ∀ ρ' H' σ', Ext K ρ N H ρ' S'.length H' → RSt K ρ' H' S' → RL K ρ' S'.length H' ls' σ' → D.ct σ' H'
  | .rt w S' => ∀ ρ' H' v, Ext K ρ N H ρ' S'.length H' → RSt K ρ' H' S' → RW K ρ' S'.length H' w v → D.rt v H'
  | .exc e ls' S' => ∀ ρ' H' σ' cls d, Ext K ρ N H ρ' S'.length H' → RSt K ρ' H' S' → RL K ρ' S'.length H' ls' σ' → RX K ρ' S'.length H' e cls d → Wx cls d σ' H'
  | .bad => False
abbrev RBool : RelF Bool Bool := fun _ _ _ _ a b => a = b
section
variable {α β γ δ : Type} {R : RelF α β} {R2 : RelF γ δ} {K : PySem.W.Frag} {ρ ρ' : Nat → Addr} {N N' : Nat} {H H' : Hp} {Ex : XK} {o : Out α} {Q Q' : β → Hp → Prop}
theorem Post.imp (h : Post R K ρ N H Ex o Q) (q : ∀ b H', Q b H' → Q' b H') : Post R K ρ N H Ex o Q' := by
  cases o with
  | ok a S' => exact fun ρ' H' b e r x => q b H' (h ρ' H' b e r x)
  | exc e S' => exact h
  | bad => exact h
theorem Post.ext (e : Ext K ρ N H ρ' N' H') (h : Post R K ρ N H Ex o Q) : Post R K ρ' N' H' Ex o Q := by
  cases o with
  | ok a S' => exact fun ρ2 H2 b e2 r x => h ρ2 H2 b (e.trans e2) r x
  | exc x S' => exact fun ρ2 H2 c d e2 r x => h ρ2 H2 c d (e.trans e2) r x
  | bad => exact h
theorem PostS.ext {Wx : WX} {so : SOut} {D : Ends} (e : Ext K ρ N H ρ' N' H') (h : PostS K ρ N H Wx so D) : PostS K ρ' N' H' Wx so D := by
  cases so with
  | nx a S' => exact fun ρ2 H2 b e2 r x => h ρ2 H2 b (e.trans e2) r x
  | bk a S' => exact fun ρ2 H2 b e2 r x => h ρ2 H2 b (e.trans e2) r x
  | ct a S' => exact fun ρ2 H2 b e2 r x => h ρ2 H2 b (e.trans e2) r x
  | rt a S' => exact fun ρ2 H2 b e2 r x => h ρ2 H2 b (e.trans e2) r x
  | exc x a S' => exact fun ρ2 H2 b c d e2 r x => h ρ2 H2 b c d (e.trans e2) r x
  | bad => exact h
/-- then -/
theorem Post.bind {f : α → Sto → Out γ} {Q : δ → Hp → Prop} (h : Post R2 K ρ N H Ex (o.bind f) Q) :
    Post R K ρ N H Ex o fun b H1 => ∃ ρ1 S1 a, Ext K ρ N H ρ1 S1.length H1 ∧ RSt K ρ1 H1 S1 ∧ R K ρ1 S1.length H1 a b ∧ Post R2 K ρ1 S1.length H1 Ex (f a S1) Q := by
  cases o with
  | ok a S' => exact fun ρ1 H1 b e r x => ⟨ρ1, S', a, e, r, x, Post.ext e h⟩
  | exc x S' => exact h
  | bad => exact h
theorem Post.then {Wx : WX} {ls : Ls} {σ : L2.St} {f : α → Sto → SOut} {D : Ends} (hl : RL K ρ N H ls σ) (h : PostS K ρ N H Wx (o.then ls f) D) :
    Post R K ρ N H (fun c d H' => Wx c d σ H') o fun b H1 => ∃ ρ1 S1 a, Ext K ρ N H ρ1 S1.length H1 ∧ RSt K ρ1 H1 S1 ∧ R K ρ1 S1.length H1 a b ∧ PostS K ρ1 S1.length H1 Wx (f a S1) D := by
  cases o with
  | ok a S' => exact fun ρ1 H1 b e r x => ⟨ρ1, S', a, e, r, x, PostS.ext e h⟩
  | exc x S' => exact fun ρ1 H1 c d e r x => h ρ1 H1 σ c d e r (hl.ext e) x
  | bad => exact h
theorem PostS.seq {Wx : WX} {so : SOut} {f : MS} {D : Ends} (h : PostS K ρ N H Wx (so.seq f) D) :
    PostS K ρ N H Wx so { D with nx := fun σ1 H1 => ∃ ρ1 S1 ls1, Ext K ρ N H ρ1 S1.length H1 ∧ RSt K ρ1 H1 S1 ∧ RL K ρ1 S1.length H1 ls1 σ1 ∧ PostS K ρ1 S1.length H1 Wx (f ls1 S1) D } := by
  cases so with
  | nx a S' => exact fun ρ1 H1 b e r x => ⟨ρ1, S', a, e, r, x, PostS.ext e h⟩
  | _ => exact h
end

/-! ### the judgements: what m computes is what the piece does -/
def tE (K : PySem.W.Frag) (Wx : WX) (m : ME) : TE := fun σ H Q => ∃ ρ S ls, RSt K ρ H S ∧ RL K ρ S.length H ls σ ∧ Post RW K ρ S.length H (fun c d H' => Wx c d σ H') (m ls S) Q
def tT (K : PySem.W.Frag) (Wx : WX) (m : MT) : TT := fun σ H Q => ∃ ρ S ls, RSt K ρ H S ∧ RL K ρ S.length H ls σ ∧ Post RBool K ρ S.length H (fun c d H' => Wx c d σ H') (m ls S) Q
def tA (K : PySem.W.Frag) (Wx : WX) (m : MA) : TA := fun σ H Q => ∃ ρ S ls, RSt K ρ H S ∧ RL K ρ S.length H ls σ ∧ Post RWs K ρ S.length H (fun c d H' => Wx c d σ H') (m ls S) Q
def tS (K : PySem.W.Frag) (Wx : WX) (m : MS) : TS := fun D σ H => ∃ ρ S ls, RSt K ρ H S ∧ RL K ρ S.length H ls σ ∧ PostS K ρ S.length H Wx (m ls S) D
abbrev IE (X : Cx) (Wx : WX) (e : Expr) (m : ME) : Prop := PE X e (tE X.K Wx m)
abbrev IT (X : Cx) (Wx : WX) (e : Expr) (m : MT) : Prop := PT X e (tT X.K Wx m)
abbrev IW (X : Cx) (Wx : WX) (e : Expr) (m : MT) : Prop := PW X e (tT X.K Wx m)
abbrev IA (X : Cx) (Wx : WX) (es : List Expr) (m : MA) : Prop := PA X es (tA X.K Wx m)
abbrev IS (X : Cx) (Wx : WX) (st : Stmt) (m : MS) : Prop := PS X st (tS X.K Wx m)
abbrev ISs (X : Cx) (Wx : WX) (st : List Stmt) (m : MS) : Prop := PSs X st (tS X.K Wx m)
theorem PEi {X : Cx} {e : Expr} {t t' : TE} (h : PE X e t) (i : ∀ σ H Q, t' σ H Q → t σ H Q) : PE X e t' := ⟨fun pins s σ H Q I hw => h.run pins s σ H Q I (i _ _ _ hw)⟩
theorem PTi {X : Cx} {e : Expr} {t t' : TT} (h : PT X e t) (i : ∀ σ H Q, t' σ H Q → t σ H Q) : PT X e t' := ⟨fun pins s σ H Q I hw => h.run pins s σ H Q I (i _ _ _ hw)⟩
theorem PWi {X : Cx} {e : Expr} {t t' : TT} (h : PW X e t) (i : ∀ σ H Q, t' σ H Q → t σ H Q) : PW X e t' := ⟨fun wh pins s σ H Q I hw => h.run wh pins s σ H Q I (i _ _ _ hw)⟩
theorem PAi {X : Cx} {e : List Expr} {t t' : TA} (h : PA X e t) (i : ∀ σ H Q, t' σ H Q → t σ H Q) : PA X e t' := ⟨fun pos pins s σ H Q I hw => h.run pos pins s σ H Q I (i _ _ _ hw)⟩
theorem PSi {X : Cx} {e : Stmt} {t t' : TS} (h : PS X e t) (i : ∀ D σ H, t' D σ H → t D σ H) : PS X e t' := ⟨fun pins s σ H D I hw => h.run pins s σ H D I (i _ _ _ hw)⟩
theorem PSsi {X : Cx} {e : List Stmt} {t t' : TS} (h : PSs X e t) (i : ∀ D σ H, t' D σ H → t D σ H) : PSs X e t' := ⟨fun pins s σ H D I hw => h.run pins s σ H D I (i _ _ _ hw)⟩

section
variable {X : Cx} {Wx : WX} {pos : Pos}
/-! ### names and constants -/
def eVar (i : Nat) : ME := fun ls S => match ls[i]? with
  | some (some w) => .ok w S
  | _ => .bad
def eC (w : PV) : ME := fun _ S => .ok w S
theorem ie_var (i : Nat) {x : Str} (hN : X.N[i]? = some x := by rfl) (hv : Vis X.env.scope x := by first | exact Or.inl rfl | exact Or.inr (Or.inl rfl) | exact Or.inr (Or.inr rfl)) (hd : (x == ("__debug__" : Str)) = false := by decide) (hcd : (x == ("__classdict__" : Str)) = false := by decide) :
    IE X Wx (.Name x pos) (eVar i) := PEi (pe_var hN hv hd hcd) fun σ H Q ⟨ρ, S, ls, hS, hL, h⟩ => by
  unfold eVar at h
  split at h
  · rename_i w e
    obtain ⟨v, e1, r⟩ := hL.get e
    exact ⟨v, e1, h ρ H v .refl hS r⟩
  · exact h.elim
theorem ie_int {i j} : IE X Wx (.Constant (.int i) j pos) (eC (.int i)) := PEi pe_int fun σ H Q ⟨ρ, S, ls, hS, hL, h⟩ => h ρ H _ .refl hS (.int i)
theorem ie_bl {i j} : IE X Wx (.Constant (.bool i) j pos) (eC (.bl i)) := PEi pe_bl fun σ H Q ⟨ρ, S, ls, hS, hL, h⟩ => h ρ H _ .refl hS (.bl i)
theorem ie_non {j} : IE X Wx (.Constant .none j pos) (eC .non) := PEi pe_non fun σ H Q ⟨ρ, S, ls, hS, hL, h⟩ => h ρ H _ .refl hS .non
theorem ie_str {x : Str} {l : List Nat} {j} (hx : x.cps.toList = l) : IE X Wx (.Constant (.str x) j pos) (eC (.str l)) := PEi pe_str fun σ H Q ⟨ρ, S, ls, hS, hL, h⟩ => h ρ H _ .refl hS (by rw [← hx]; exact .str x)
/-- a module's constant -/
def GVal (K : PySem.W.Frag) (v : V) (w : PV) : Prop := ∀ ρ N H, RW K ρ N H w v
theorem ie_glob {x : Str} {v : V} {u : Value} {w : PV} (hg : Gl X x) (hm : X.mg x = some u) (r : RelV v u) (g : GVal X.K v w) (hd : (x == ("__debug__" : Str)) = false := by decide) : IE X Wx (.Name x pos) (eC w) :=
  PEi (pe_glob hg hm r hd) fun σ H Q ⟨ρ, S, ls, hS, hL, h⟩ => h ρ H _ .refl hS (g _ _ _)

/-! ### two-place operations by values -/
/-- r does on values what g says -/
def OpI (X : Cx) (Wx : WX) (r : R2) (g : PV → PV → Sto → Out PV) : Prop :=
  ∀ (ρ : Nat → Addr) (S : Sto) (H : Hp) (w1 w2 : PV) (x y : V) (Ex : XK) (Q : VK), RSt X.K ρ H S → RW X.K ρ S.length H w1 x → RW X.K ρ S.length H w2 y → Post RW X.K ρ S.length H Ex (g w1 w2 S) Q → r x y H Q
def eOp (g : PV → PV → Sto → Out PV) (a b : ME) : ME := fun ls S => (a ls S).bind fun w1 S1 => (b ls S1).bind fun w2 S2 => g w1 w2 S2
variable {a b c : Expr} {ma mb mc : ME} {g : PV → PV → Sto → Out PV} {r : R2}
theorem bin_in {σ : L2.St} {H : Hp} {Q : VK} (hi : OpI X Wx r g) (h : tE X.K Wx (eOp g ma mb) σ H Q) : tOp r (tE X.K Wx ma) (tE X.K Wx mb) σ H Q := by
  obtain ⟨ρ, S, ls, hS, hL, h⟩ := h
  refine ⟨ρ, S, ls, hS, hL, (Post.bind (R := RW) h).imp ?_⟩
  rintro x H1 ⟨ρ1, S1, w1, e1, hS1, r1, h1⟩
  refine ⟨ρ1, S1, ls, hS1, hL.ext e1, (Post.bind (R := RW) h1).imp ?_⟩
  rintro y H2 ⟨ρ2, S2, w2, e2, hS2, r2, h2⟩
  exact hi ρ2 S2 H2 w1 w2 x y _ Q hS2 (r1.ext e2) r2 h2
theorem ie_bin {op : Operator} (ho : OpR X (binaryOp op) r) (hi : OpI X Wx r g) (ha : IE X Wx a ma) (hb : IE X Wx b mb) : IE X Wx (.BinOp a op b pos) (eOp g ma mb) :=
  PEi (pe_op ho ha hb) fun σ H Q h => bin_in hi h
theorem ie_cmp {op : CmpOp} (ho : OpR X (compareOp op) r) (hi : OpI X Wx r g) (ha : IE X Wx a ma) (hb : IE X Wx b mb) (hm : behindInMarks op b = false) : IE X Wx (.Compare a [op] [b] pos) (eOp g ma mb) :=
  PEi (pe_cmpR ho ha hb hm) fun σ H Q h => bin_in hi h
/-- a value that is a bool, as a test -/
def asB : PV → Sto → Out Bool := fun w S => match w with
  | .bl b => .ok b S
  | _ => .bad
def toT (m : ME) : MT := fun ls S => (m ls S).bind asB
theorem test_in {σ : L2.St} {H : Hp} {Q : Bool → Hp → Prop} (h : tT X.K Wx (toT ma) σ H Q) : tTest (tE X.K Wx ma) σ H Q := by
  obtain ⟨ρ, S, ls, hS, hL, h⟩ := h
  refine ⟨ρ, S, ls, hS, hL, (Post.bind (R := RW) h).imp ?_⟩
  rintro x H1 ⟨ρ1, S1, w1, e1, hS1, r1, h1⟩
  unfold asB at h1
  split at h1
  · cases r1
    exact ⟨_, rfl, h1 ρ1 H1 _ .refl hS1 rfl⟩
  · exact h1.elim
theorem it_cmp {op : CmpOp} (ho : OpR X (compareOp op) r) (hi : OpI X Wx r g) (ha : IE X Wx a ma) (hb : IE X Wx b mb) (hm : behindInMarks op b = false) : IT X Wx (.Compare a [op] [b] pos) (toT (eOp g ma mb)) :=
  PTi (pt_cmpR ho ha hb hm) fun σ H Q h => bin_in hi (test_in h)
/-- a < b < c -/
def eChain (g g' : PV → PV → Sto → Out PV) (a b c : ME) : ME := fun ls S => (a ls S).bind fun w1 S1 => (b ls S1).bind fun w2 S2 => (g w1 w2 S2).bind fun z S3 => match z with
  | .bl true => (c ls S3).bind fun w3 S4 => g' w2 w3 S4
  | .bl false => .ok (.bl false) S3
  | _ => .bad
variable {g' : PV → PV → Sto → Out PV} {r' : R2}
theorem chain_in {σ : L2.St} {H : Hp} {Q : VK} (hi : OpI X Wx r g) (hi' : OpI X Wx r' g') (h : tE X.K Wx (eChain g g' ma mb mc) σ H Q) : tChain r r' (tE X.K Wx ma) (tE X.K Wx mb) (tE X.K Wx mc) σ H Q := by
  obtain ⟨ρ, S, ls, hS, hL, h⟩ := h
  refine ⟨ρ, S, ls, hS, hL, (Post.bind (R := RW) h).imp ?_⟩
  rintro x H1 ⟨ρ1, S1, w1, e1, hS1, r1, h1⟩
  refine ⟨ρ1, S1, ls, hS1, hL.ext e1, (Post.bind (R := RW) h1).imp ?_⟩
  rintro y H2 ⟨ρ2, S2, w2, e2, hS2, r2, h2⟩
  refine hi ρ2 S2 H2 w1 w2 x y (fun c d H' => Wx c d σ H') _ hS2 (r1.ext e2) r2 ((Post.bind (R := RW) h2).imp ?_)
  rintro z H3 ⟨ρ3, S3, w3, e3, hS3, r3, h3⟩
  split at h3
  · cases r3
    refine ⟨true, rfl, ?_⟩
    rw [if_pos rfl]
    refine ⟨ρ3, S3, ls, hS3, ((hL.ext e1).ext e2).ext e3, (Post.bind (R := RW) h3).imp ?_⟩
    rintro u H4 ⟨ρ4, S4, w4, e4, hS4, r4, h4⟩
    exact hi' ρ4 S4 H4 w2 w4 y u _ Q hS4 ((r2.ext e3).ext e4) r4 h4
  · cases r3
    refine ⟨false, rfl, ?_⟩
    rw [if_neg Bool.false_ne_true]
    exact h3 ρ3 H3 _ .refl hS3 (.bl false)
  · exact h3.elim
end
end GL

set_option Elab.async false
set_option linter.all false
set_option maxRecDepth 100000
set_option maxHeartbeats 1000000
namespace GL
open PySem PySem.Spec PyProof.Rows L2

/-! ### equality of values -/
mutual
def PV.beq : PV → PV → Bool
  | .non, .non => true
  | .bl a, .bl b => a == b
  | .int a, .int b => decide (a = b)
  | .str a, .str b => decide (a = b)
  | .tup a, .tup b => PV.beqs a b
  | .loc a, .loc b => Nat.beq a b
  | .gl a, .gl b => decide (a = b)
  | .ty a, .ty b => decide (a = b)
  | _, _ => false
def PV.beqs : List PV → List PV → Bool
  | [], [] => true
  | a :: r, b :: s => PV.beq a b && PV.beqs r s
  | _, _ => false
end
mutual
theorem PV.eq_of_beq : ∀ {a b : PV}, PV.beq a b = true → a = b
  | .non, b, h => by cases b <;> first | rfl | (simp [PV.beq] at h)
  | .bl a, b, h => by cases b <;> first | (simp [PV.beq] at h; subst h; rfl) | (simp [PV.beq] at h)
  | .int a, b, h => by cases b <;> first | (simp [PV.beq] at h; subst h; rfl) | (simp [PV.beq] at h)
  | .str a, b, h => by cases b <;> first | (simp [PV.beq] at h; subst h; rfl) | (simp [PV.beq] at h)
  | .tup a, b, h => by
    cases b with
    | tup c => simp only [PV.beq] at h; rw [PV.eqs_of_beqs h]
    | _ => simp [PV.beq] at h
  | .loc a, b, h => by
    cases b with
    | loc c => simp only [PV.beq] at h; rw [Nat.eq_of_beq_eq_true h]
    | _ => simp [PV.beq] at h
  | .gl a, b, h => by cases b <;> first | (simp [PV.beq] at h; subst h; rfl) | (simp [PV.beq] at h)
  | .ty a, b, h => by cases b <;> first | (simp [PV.beq] at h; subst h; rfl) | (simp [PV.beq] at h)
theorem PV.eqs_of_beqs : ∀ {a b : List PV}, PV.beqs a b = true → a = b
  | [], [], _ => rfl
  | [], _ :: _, h => by simp [PV.beqs] at h
  | _ :: _, [], h => by simp [PV.beqs] at h
  | a :: r, b :: s, h => by
    simp only [PV.beqs, Bool.and_eq_true] at h
    rw [PV.eq_of_beq h.1, PV.eqs_of_beqs h.2]
end
mutual
theorem PV.beq_self : ∀ a : PV, PV.beq a a = true
  | .non => by simp [PV.beq]
  | .bl a => by simp [PV.beq]
  | .int a => by simp [PV.beq]
  | .str a => by simp [PV.beq]
  | .tup a => by simp only [PV.beq]; exact PV.beqs_self a
  | .loc a => by simp only [PV.beq]; exact Nat.beq_refl a
  | .gl a => by simp [PV.beq]
  | .ty a => by simp [PV.beq]
theorem PV.beqs_self : ∀ a : List PV, PV.beqs a a = true
  | [] => by simp [PV.beqs]
  | a :: r => by simp only [PV.beqs, Bool.and_eq_true]; exact ⟨PV.beq_self a, PV.beqs_self r⟩
end

/-! ### and, or, not, if else -/
def tAndM (a b : MT) : MT := fun ls S => (a ls S).bind fun k S1 => if k = true then b ls S1 else .ok false S1
def tOrM (a b : MT) : MT := fun ls S => (a ls S).bind fun k S1 => if k = true then .ok true S1 else b ls S1
def tNotM (a : MT) : MT := fun ls S => (a ls S).bind fun k S1 => .ok (!k) S1
def eOfT (a : MT) : ME := fun ls S => (a ls S).bind fun k S1 => .ok (.bl k) S1
def eIfM (c : MT) (a b : ME) : ME := fun ls S => (c ls S).bind fun k S1 => if k = true then a ls S1 else b ls S1
def eNotM (a : ME) : ME := fun ls S => (a ls S).bind fun w S1 => match w with
  | .bl k => .ok (.bl (!k)) S1
  | _ => .bad
def eAndM (a b : ME) : ME := fun ls S => (a ls S).bind fun w S1 => match w with
  | .bl true => b ls S1
  | .bl false => .ok (.bl false) S1
  | _ => .bad
def eOrM (a b : ME) : ME := fun ls S => (a ls S).bind fun w S1 => match w with
  | .bl true => .ok (.bl true) S1
  | .bl false => b ls S1
  | _ => .bad
section
variable {X : Cx} {Wx : WX} {pos : Pos} {a b c : Expr} {rest : List Expr} {ma mb mc : ME} {ta tb : MT}
theorem it_val (h : IE X Wx a ma) (he : ∀ whole, isTrue a X.env whole = (do let v ← whole; standAt a.pos; holding [v] (truthy v)) := by intro _; rfl) : IT X Wx a (toT ma) :=
  PTi (pt_val h he) fun σ H Q q => test_in q
theorem if_in {σ : L2.St} {H : Hp} {Q : Bool → Hp → Prop} {ρ : Nat → Addr} {S : Sto} {ls : Ls} {k : Bool} {x y : Out Bool} {Ex : XK} (h : Post RBool X.K ρ S.length H Ex (if k = true then x else y) Q) :
    if k = true then Post RBool X.K ρ S.length H Ex x Q else Post RBool X.K ρ S.length H Ex y Q := by
  cases k
  · rw [if_neg Bool.false_ne_true] at h ⊢; exact h
  · rw [if_pos rfl] at h ⊢; exact h
theorem iw_and1 (ha : IT X Wx a ta) : IW X Wx (.BoolOp .And [a] pos) ta := pw_and1 ha
theorem iw_or1 (ha : IT X Wx a ta) : IW X Wx (.BoolOp .Or [a] pos) ta := pw_or1 ha
theorem iw_and (ha : IT X Wx a ta) (hb : IW X Wx (.BoolOp .And (b :: rest) pos) tb) : IW X Wx (.BoolOp .And (a :: b :: rest) pos) (tAndM ta tb) :=
  PWi (pw_and ha hb) fun σ H Q ⟨ρ, S, ls, hS, hL, h⟩ => ⟨ρ, S, ls, hS, hL, (Post.bind (R := RBool) h).imp fun k H1 ⟨ρ1, S1, k1, e1, hS1, r1, h1⟩ => by
    have r1 : k1 = k := r1
    subst k
    cases k1
    · rw [if_neg Bool.false_ne_true] at h1 ⊢; exact h1 ρ1 H1 _ .refl hS1 rfl
    · rw [if_pos rfl] at h1 ⊢; exact ⟨ρ1, S1, ls, hS1, hL.ext e1, h1⟩⟩
theorem iw_or (ha : IT X Wx a ta) (hb : IW X Wx (.BoolOp .Or (b :: rest) pos) tb) : IW X Wx (.BoolOp .Or (a :: b :: rest) pos) (tOrM ta tb) :=
  PWi (pw_or ha hb) fun σ H Q ⟨ρ, S, ls, hS, hL, h⟩ => ⟨ρ, S, ls, hS, hL, (Post.bind (R := RBool) h).imp fun k H1 ⟨ρ1, S1, k1, e1, hS1, r1, h1⟩ => by
    have r1 : k1 = k := r1
    subst k
    cases k1
    · rw [if_neg Bool.false_ne_true] at h1 ⊢; exact ⟨ρ1, S1, ls, hS1, hL.ext e1, h1⟩
    · rw [if_pos rfl] at h1 ⊢; exact h1 ρ1 H1 _ .refl hS1 rfl⟩
theorem it_w {e : Expr} {t : MT} (h : IW X Wx e t) : IT X Wx e t := PW.pt h
theorem it_not (ha : IT X Wx a ta) : IT X Wx (.UnaryOp .Not a pos) (tNotM ta) :=
  PTi (pt_not ha) fun σ H Q ⟨ρ, S, ls, hS, hL, h⟩ => ⟨ρ, S, ls, hS, hL, (Post.bind (R := RBool) h).imp fun k H1 ⟨ρ1, S1, k1, e1, hS1, r1, h1⟩ => by
    cases r1
    exact h1 ρ1 H1 _ .refl hS1 rfl⟩
theorem ie_not (ha : IE X Wx a ma) : IE X Wx (.UnaryOp .Not a pos) (eNotM ma) :=
  PEi (pe_not ha) fun σ H Q ⟨ρ, S, ls, hS, hL, h⟩ => ⟨ρ, S, ls, hS, hL, (Post.bind (R := RW) h).imp fun x H1 ⟨ρ1, S1, w1, e1, hS1, r1, h1⟩ => by
    split at h1
    · cases r1
      exact ⟨_, rfl, h1 ρ1 H1 _ .refl hS1 (.bl _)⟩
    · exact h1.elim⟩
theorem ie_one {op} {m : ME} (h : IE X Wx a m) : IE X Wx (.BoolOp op [a] pos) m := pe_one h
theorem ie_and (ha : IE X Wx a ma) (hb : IE X Wx (.BoolOp .And (b :: rest) pos) mb) : IE X Wx (.BoolOp .And (a :: b :: rest) pos) (eAndM ma mb) :=
  PEi (pe_and ha hb) fun σ H Q ⟨ρ, S, ls, hS, hL, h⟩ => ⟨ρ, S, ls, hS, hL, (Post.bind (R := RW) h).imp fun x H1 ⟨ρ1, S1, w1, e1, hS1, r1, h1⟩ => by
    split at h1
    · cases r1
      exact ⟨true, rfl, by rw [if_pos rfl]; exact ⟨ρ1, S1, ls, hS1, hL.ext e1, h1⟩⟩
    · cases r1
      exact ⟨false, rfl, by rw [if_neg Bool.false_ne_true]; exact h1 ρ1 H1 _ .refl hS1 (.bl _)⟩
    · exact h1.elim⟩
theorem ie_or (ha : IE X Wx a ma) (hb : IE X Wx (.BoolOp .Or (b :: rest) pos) mb) : IE X Wx (.BoolOp .Or (a :: b :: rest) pos) (eOrM ma mb) :=
  PEi (pe_or ha hb) fun σ H Q ⟨ρ, S, ls, hS, hL, h⟩ => ⟨ρ, S, ls, hS, hL, (Post.bind (R := RW) h).imp fun x H1 ⟨ρ1, S1, w1, e1, hS1, r1, h1⟩ => by
    split at h1
    · cases r1
      exact ⟨true, rfl, by rw [if_pos rfl]; exact h1 ρ1 H1 _ .refl hS1 (.bl _)⟩
    · cases r1
      exact ⟨false, rfl, by rw [if_neg Bool.false_ne_true]; exact ⟨ρ1, S1, ls, hS1, hL.ext e1, h1⟩⟩
    · exact h1.elim⟩
theorem ie_ite (hc : IT X Wx c ta) (ha : IE X Wx a ma) (hb : IE X Wx b mb) : IE X Wx (.IfExp c a b pos) (eIfM ta ma mb) :=
  PEi (pe_ifExp hc ha hb) fun σ H Q ⟨ρ, S, ls, hS, hL, h⟩ => ⟨ρ, S, ls, hS, hL, (Post.bind (R := RBool) h).imp fun k H1 ⟨ρ1, S1, k1, e1, hS1, r1, h1⟩ => by
    have r1 : k1 = k := r1
    subst k
    cases k1
    · rw [if_neg Bool.false_ne_true] at h1 ⊢; exact ⟨ρ1, S1, ls, hS1, hL.ext e1, h1⟩
    · rw [if_pos rfl] at h1 ⊢; exact ⟨ρ1, S1, ls, hS1, hL.ext e1, h1⟩⟩

/-! ### argument lists, displays -/
def aNil : MA := fun _ S => .ok [] S
def aCons (a : ME) (r : MA) : MA := fun ls S => (a ls S).bind fun w S1 => (r ls S1).bind fun ws S2 => .ok (w :: ws) S2
variable {es : List Expr} {e : Expr} {mr : MA}
theorem ia_nil : IA X Wx [] aNil := PAi pa_nil fun σ H Q ⟨ρ, S, ls, hS, hL, h⟩ => h ρ H _ .refl hS .nil
theorem ia_cons (ha : IE X Wx e ma) (hr : IA X Wx es mr) (hs : starEach (e :: es) X.env = (false, eval e X.env) :: starEach es X.env := by rfl) : IA X Wx (e :: es) (aCons ma mr) :=
  PAi (pa_cons ha hr hs) fun σ H Q ⟨ρ, S, ls, hS, hL, h⟩ => ⟨ρ, S, ls, hS, hL, (Post.bind (R := RW) h).imp fun x H1 ⟨ρ1, S1, w1, e1, hS1, r1, h1⟩ =>
    ⟨ρ1, S1, ls, hS1, hL.ext e1, (Post.bind (R := RWs) h1).imp fun xs H2 ⟨ρ2, S2, ws, e2, hS2, r2, h2⟩ => h2 ρ2 H2 _ .refl hS2 (.cons (r1.ext e2) r2)⟩⟩
def lim : Nat := 100000
theorem lim_sz {n : Nat} (h : n ≤ lim) : n ≤ sizeLine := Nat.le_trans h (by decide)
theorem lim_lt {n : Nat} (h : n < lim) : n < sizeLine := Nat.lt_of_lt_of_le h (by decide)
def eTup (m : MA) : ME := fun ls S => (m ls S).bind fun ws S1 => if ws.length ≤ lim then .ok (.tup ws) S1 else .bad
def eLst (m : MA) : ME := fun ls S => (m ls S).bind fun ws S1 => if ws.length ≤ lim then .ok (.loc S1.length) (S1 ++ [.lst ws]) else .bad
/-- a new tuple -/
theorem mk_tup {K : PySem.W.Frag} {ρ : Nat → Addr} {S : Sto} {H : Hp} {ws : List PV} {vs : List V} {Ex : XK} {Q : VK} (hS : RSt K ρ H S) (r : RWs K ρ S.length H ws vs) (h : Post RW K ρ S.length H Ex (.ok (.tup ws) S) Q) :
    ∀ p, H p = none → Q (.ref p) (upd H p (.tup vs)) := fun p hp => by
  have e : Ext K ρ S.length H ρ S.length (upd H p (.tup vs)) := ext_keep hp
  exact h ρ _ _ e (hS.keep hp) (.tup (SqT.of upd_same) (r.ext e))
/-- a new list -/
theorem mk_lst {K : PySem.W.Frag} {ρ : Nat → Addr} {S : Sto} {H : Hp} {ws : List PV} {vs : List V} {Ex : XK} {Q : VK} (hS : RSt K ρ H S) (r : RWs K ρ S.length H ws vs) (h : Post RW K ρ S.length H Ex (.ok (.loc S.length) (S ++ [.lst ws])) Q) :
    ∀ p, H p = none → Q (.ref p) (upd H p (.lst vs)) := fun p hp => by
  have e : Ext K ρ S.length H (grow ρ S.length p) (S.length + 1) (upd H p (.lst vs)) := ext_new hp
  have hl : (S ++ [OB.lst ws]).length = S.length + 1 := by simp
  have n := RSt.new (o := .lst ws) hS hp rfl ⟨vs, upd_same, r.ext e⟩
  refine h _ _ _ (by rw [hl]; exact e) n ?_
  rw [hl]
  have q : RW K (grow ρ S.length p) (S.length + 1) (upd H p (.lst vs)) (.loc S.length) (.ref (grow ρ S.length p S.length)) := .loc _ (Nat.lt_succ_self _)
  rw [grow_new] at q
  exact q
theorem ie_tup {x1} (h : IA X Wx es mr) : IE X Wx (.Tuple es x1 pos) (eTup mr) :=
  PEi (pe_tup h) fun σ H Q ⟨ρ, S, ls, hS, hL, h⟩ => ⟨ρ, S, ls, hS, hL, (Post.bind (R := RWs) h).imp fun xs H1 ⟨ρ1, S1, ws, e1, hS1, r1, h1⟩ => by
    split at h1
    · rename_i hz
      exact ⟨by rw [← r1.length]; exact lim_sz hz, mk_tup hS1 r1 h1⟩
    · exact h1.elim⟩
theorem ie_lst (h : IA X Wx es mr) : IE X Wx (.List es pos) (eLst mr) :=
  PEi (pe_lst h) fun σ H Q ⟨ρ, S, ls, hS, hL, h⟩ => ⟨ρ, S, ls, hS, hL, (Post.bind (R := RWs) h).imp fun xs H1 ⟨ρ1, S1, ws, e1, hS1, r1, h1⟩ => by
    split at h1
    · rename_i hz
      exact ⟨by rw [← r1.length]; exact lim_sz hz, mk_lst hS1 r1 h1⟩
    · exact h1.elim⟩
end

/-! ### statements -/
def sNil : MS := fun ls S => .nx ls S
def sSeq (a b : MS) : MS := fun ls S => (a ls S).seq b
def sSet (i : Nat) (m : ME) : MS := fun ls S => (m ls S).then ls fun w S1 => .nx (ls.set i (some w)) S1
def sExpr (m : ME) : MS := fun ls S => (m ls S).then ls fun _ S1 => .nx ls S1
def sRet (m : ME) : MS := fun ls S => (m ls S).then ls fun w S1 => .rt w S1
def sRetN : MS := fun _ S => .rt .non S
def sIf (c : MT) (a b : MS) : MS := fun ls S => (c ls S).then ls fun k S1 => if k = true then a ls S1 else b ls S1
def sBad : MS := fun _ _ => .bad
def sBk : MS := fun ls S => .bk ls S
def sCt : MS := fun ls S => .ct ls S
section
variable {X : Cx} {Wx : WX} {pos : Pos} {st : Stmt} {rest : List Stmt} {m1 m2 : MS} {e c : Expr} {me : ME} {mt : MT}
theorem iss_nil : ISs X Wx [] sNil := PSsi pss_nil fun D σ H ⟨ρ, S, ls, hS, hL, h⟩ => h ρ H σ .refl hS hL
theorem iss_cons (h1 : IS X Wx st m1) (h2 : ISs X Wx rest m2) : ISs X Wx (st :: rest) (sSeq m1 m2) :=
  PSsi (pss_cons h1 h2) fun D σ H ⟨ρ, S, ls, hS, hL, h⟩ => ⟨ρ, S, ls, hS, hL, by
    have q := PostS.seq h
    cases hm : m1 ls S with
    | nx a S' =>
      rw [hm] at q
      exact fun ρ1 H1 σ1 e r x => by
        obtain ⟨ρ2, S2, ls2, _, a, b, c⟩ := q ρ1 H1 σ1 e r x
        exact ⟨ρ2, S2, ls2, a, b, c⟩
    | bk a S' => rw [hm] at q; exact q
    | ct a S' => rw [hm] at q; exact q
    | rt a S' => rw [hm] at q; exact q
    | exc a b S' => rw [hm] at q; exact q
    | bad => rw [hm] at q; exact q⟩
theorem iss_one (h1 : IS X Wx st m1) : ISs X Wx [st] m1 := pss_one h1
theorem is_pass : IS X Wx (.Pass pos) sNil := PSi ps_pass fun D σ H ⟨ρ, S, ls, hS, hL, h⟩ => h ρ H σ .refl hS hL
theorem is_break : IS X Wx (.Break pos) sBk := PSi ps_break fun D σ H ⟨ρ, S, ls, hS, hL, h⟩ => h ρ H σ .refl hS hL
theorem is_cont : IS X Wx (.Continue pos) sCt := PSi ps_continue fun D σ H ⟨ρ, S, ls, hS, hL, h⟩ => h ρ H σ .refl hS hL
theorem is_doc {x j pos pos'} : IS X Wx (.Expr (.Constant (.str x) j pos) pos') sNil := PSi ps_doc fun D σ H ⟨ρ, S, ls, hS, hL, h⟩ => h ρ H σ .refl hS hL
theorem is_bad : IS X Wx st sBad := PSi ps_never fun D σ H ⟨ρ, S, ls, hS, hL, h⟩ => h
theorem iss_bad : ISs X Wx rest sBad := PSsi pss_never fun D σ H ⟨ρ, S, ls, hS, hL, h⟩ => h
theorem is_set {i : Nat} {x : Str} {pos' : Pos} (hN : X.N.Nodup) (he : IE X Wx e me) (hi : X.N[i]? = some x := by rfl) (hx : Loc X.env.scope x := by first | exact Or.inl rfl | exact Or.inr rfl) (hs : swapsWith e (some (.Name x pos')) pos.line X.env = pure false := by rfl) (hf : X.fn x = true ∨ X.env.scope.names.lookup x = some .local := by first | exact .inl rfl | exact .inr rfl) :
    IS X Wx (.Assign [.Name x pos'] e pos) (sSet i me) :=
  PSi (ps_set (i := i) hN hi hx he hs hf) fun D σ H ⟨ρ, S, ls, hS, hL, h⟩ => ⟨ρ, S, ls, hS, hL, (Post.then (R := RW) hL h).imp fun x H1 ⟨ρ1, S1, w1, e1, hS1, r1, h1⟩ => h1 ρ1 H1 _ .refl hS1 (RL.set r1 _ (hL.ext e1))⟩
theorem is_expr (he : IE X Wx e me) (hs : swapsWith e none pos.line X.env = pure false := by rfl) : IS X Wx (.Expr e pos) (sExpr me) :=
  PSi (ps_expr he hs) fun D σ H ⟨ρ, S, ls, hS, hL, h⟩ => ⟨ρ, S, ls, hS, hL, (Post.then (R := RW) hL h).imp fun x H1 ⟨ρ1, S1, w1, e1, hS1, r1, h1⟩ => h1 ρ1 H1 _ .refl hS1 (hL.ext e1)⟩
theorem is_ret (he : IE X Wx e me) : IS X Wx (.Return (some e) pos) (sRet me) :=
  PSi (ps_ret he) fun D σ H ⟨ρ, S, ls, hS, hL, h⟩ => ⟨ρ, S, ls, hS, hL, (Post.then (R := RW) hL h).imp fun x H1 ⟨ρ1, S1, w1, e1, hS1, r1, h1⟩ => h1 ρ1 H1 _ .refl hS1 r1⟩
theorem is_retN : IS X Wx (.Return none pos) sRetN := PSi ps_retN fun D σ H ⟨ρ, S, ls, hS, hL, h⟩ => h ρ H _ .refl hS .non
theorem is_if {a b : List Stmt} (hc : IT X Wx c mt) (ha : ISs X Wx a m1) (hb : ISs X Wx b m2) : IS X Wx (.If c a b pos) (sIf mt m1 m2) :=
  PSi (ps_if hc ha hb) fun D σ H ⟨ρ, S, ls, hS, hL, h⟩ => ⟨ρ, S, ls, hS, hL, (Post.then (R := RBool) hL h).imp fun k H1 ⟨ρ1, S1, k1, e1, hS1, r1, h1⟩ => by
    have r1 : k1 = k := r1
    subst k
    cases k1
    · rw [if_neg Bool.false_ne_true] at h1 ⊢; exact ⟨ρ1, S1, ls, hS1, hL.ext e1, h1⟩
    · rw [if_pos rfl] at h1 ⊢; exact ⟨ρ1, S1, ls, hS1, hL.ext e1, h1⟩⟩
/-- while: at most n turns -/
def whileL (c : MT) (body : MS) : Nat → MS
  | 0, _, _ => .bad
  | n + 1, ls, S => (c ls S).then ls fun k S1 => if k = true then (match body ls S1 with
      | .nx ls2 S2 => whileL c body n ls2 S2
      | .ct ls2 S2 => whileL c body n ls2 S2
      | .bk ls2 S2 => .nx ls2 S2
      | r => r) else .nx ls S1
theorem is_while {body : List Stmt} {mb : MS} (n : Nat) (hp : PassesOwn (model X.prog X.w) X.A X.env X.xe) (hc : IT X Wx c mt) (hb : ISs X Wx body mb) : IS X Wx (.While c body [] pos) (whileL mt mb n) :=
  PSi (ps_while hp hc hb) fun D σ H ⟨ρ, S, ls, hS, hL, h⟩ => by
    refine ⟨fun m σ H => ∃ ρ S ls, RSt X.K ρ H S ∧ RL X.K ρ S.length H ls σ ∧ PostS X.K ρ S.length H Wx (whileL mt mb m ls S) D, ⟨n, ρ, S, ls, hS, hL, h⟩, ?_⟩
    rintro m σ H ⟨ρ, S, ls, hS, hL, h⟩
    cases m with
    | zero => exact h.elim
    | succ m =>
      refine ⟨ρ, S, ls, hS, hL, (Post.then (R := RBool) hL h).imp fun k H1 ⟨ρ1, S1, k1, e1, hS1, r1, h1⟩ => ?_⟩
      have r1 : k1 = k := r1
      subst k
      cases k1
      · rw [if_neg Bool.false_ne_true] at h1 ⊢; exact h1 ρ1 H1 σ .refl hS1 (hL.ext e1)
      · rw [if_pos rfl] at h1 ⊢
        refine ⟨_, fun σ' H' w => ⟨m, Nat.lt_succ_self m, w⟩, ρ1, S1, ls, hS1, hL.ext e1, ?_⟩
        cases hm : mb ls S1 with
        | nx a S' => rw [hm] at h1; exact fun ρ2 H2 σ2 e2 r2 l2 => ⟨ρ2, S', a, r2, l2, PostS.ext e2 h1⟩
        | ct a S' => rw [hm] at h1; exact fun ρ2 H2 σ2 e2 r2 l2 => ⟨ρ2, S', a, r2, l2, PostS.ext e2 h1⟩
        | bk a S' => rw [hm] at h1; exact h1
        | rt a S' => rw [hm] at h1; exact h1
        | exc a b S' => rw [hm] at h1; exact h1
        | bad => rw [hm] at h1; exact h1
end
end GL

set_option Elab.async false
set_option linter.all false
set_option maxRecDepth 100000
set_option maxHeartbeats 1000000
namespace GL
open PySem PySem.Spec PyProof.Rows L2

/-! ### lists of the store -/
def lstAt (S : Sto) (n : Nat) : Option (List PV) := match S[n]? with
  | some (.lst xs) => some xs
  | _ => none
def seqAt (S : Sto) (n : Nat) : Option (List PV) := match S[n]? with
  | some (.lst xs) => some xs
  | some (.rol xs) => some xs
  | _ => none
section
variable {K : PySem.W.Frag} {ρ : Nat → Addr} {H : Hp} {S : Sto} {n : Nat} {xs : List PV}
theorem lstAt_get (h : lstAt S n = some xs) : S[n]? = some (.lst xs) := by
  unfold lstAt at h; split at h
  · rename_i e; cases h; exact e
  · cases h
theorem lst_of (hS : RSt K ρ H S) (h : lstAt S n = some xs) : ∃ vs, H (ρ n) = some (.lst vs) ∧ RWs K ρ S.length H xs vs := hS.at_ _ _ (lstAt_get h)
theorem seq_of (hS : RSt K ρ H S) (h : seqAt S n = some xs) : ∃ vs, SqL K H (ρ n) vs ∧ RWs K ρ S.length H xs vs := by
  unfold seqAt at h; split at h
  · rename_i e; cases h
    obtain ⟨vs, a, b⟩ := hS.at_ _ _ e
    exact ⟨vs, SqL.of a, b⟩
  · rename_i e; cases h
    obtain ⟨vs, a, b⟩ := hS.at_ _ _ e
    exact ⟨vs, a.sq, b⟩
  · cases h
/-- a list is changed -/
theorem set_lst (hS : RSt K ρ H S) (h : lstAt S n = some xs) {ys : List PV} {vs : List V} (r : RWs K ρ S.length H ys vs) :
    RSt K ρ (upd H (ρ n) (.lst vs)) (S.set n (.lst ys)) ∧ Ext K ρ S.length H ρ (S.set n (.lst ys)).length (upd H (ρ n) (.lst vs)) := by
  obtain ⟨v0, h0, _⟩ := lst_of hS h
  have e : Ext K ρ S.length H ρ S.length (upd H (ρ n) (.lst vs)) := ext_upd h0 trivial
  exact ⟨hS.set (lstAt_get h) rfl rfl ⟨vs, upd_same, r.ext e⟩, by rw [List.length_set]; exact e⟩
end
theorem RWs.nil_inv {K : PySem.W.Frag} {ρ : Nat → Addr} {N : Nat} {H : Hp} {ws : List PV} (r : RWs K ρ N H ws []) : ws = [] := by cases r; rfl
theorem RW.int_inv {K : PySem.W.Frag} {ρ : Nat → Addr} {N : Nat} {H : Hp} {i : Int} {v : V} (r : RW K ρ N H (.int i) v) : v = .int i := by cases r; rfl
/-- close with the very store -/
theorem Post.here {K : PySem.W.Frag} {ρ : Nat → Addr} {S : Sto} {H : Hp} {Ex : XK} {Q : VK} {w : PV} {v : V} (h : Post RW K ρ S.length H Ex (.ok w S) Q) (hS : RSt K ρ H S) (r : RW K ρ S.length H w v) : Q v H := h ρ H v .refl hS r

/-! ### arithmetic -/
def gAdd : PV → PV → Sto → Out PV := fun a b S => match a, b with
  | .int i, .int j => .ok (.int (i + j)) S
  | .str x, .str y => if x.length + y.length ≤ lim then .ok (.str (x ++ y)) S else .bad
  | .tup x, .tup y => if x.length + y.length ≤ lim then .ok (.tup (x ++ y)) S else .bad
  | .loc n, .loc m => (match lstAt S n, lstAt S m with
    | some x, some y => if x.length + y.length ≤ lim then .ok (.loc S.length) (S ++ [.lst (x ++ y)]) else .bad
    | _, _ => .bad)
  | _, _ => .bad
def rAddM (K : PySem.W.Frag) : R2 := fun x y H Q => (rI0 fun i j => .int (i + j)) x y H Q ∨
  (∃ i j, x = .str i ∧ y = .str j ∧ i.length + j.length ≤ sizeLine ∧ Q (.str (i ++ j)) H) ∨ rCatA K x y H Q ∨ rCat x y H Q
section
variable {X : Cx} {Wx : WX}
theorem or_addM : OpR X (binaryOp .Add) (rAddM X.K) := op_add.or (op_add_str.or (op_catA.or op_cat))
theorem str_len {x : Str} : x.cps.toList.length = x.length := by simp [Str.length]
theorem oi_add : OpI X Wx (rAddM X.K) gAdd := by
  intro ρ S H w1 w2 x y Ex Q hS r1 r2 h
  unfold gAdd at h
  split at h
  · cases r1; cases r2
    exact .inl ⟨_, _, rfl, rfl, h.here hS (.int _)⟩
  · split at h
    · rename_i hz
      cases r1 with
      | str i => cases r2 with
        | str j =>
          rw [str_len, str_len] at hz
          refine .inr (.inl ⟨_, _, rfl, rfl, lim_sz hz, h.here hS ?_⟩)
          have : (i ++ j).cps.toList = i.cps.toList ++ j.cps.toList := by
            show (i.cps ++ j.cps).toList = _
            simp
          rw [← this]; exact .str _
    · exact h.elim
  · split at h
    · rename_i hz
      cases r1 with
      | tup s1 t1 => cases r2 with
        | tup s2 t2 =>
          rw [t1.length, t2.length] at hz
          refine .inr (.inr (.inl ⟨_, _, _, _, rfl, rfl, s1, s2, lim_sz hz, fun e => ?_, fun _ e => ?_, fun _ _ => mk_tup hS (t1.app t2) h⟩))
          · subst e
            rw [t1.nil_inv, List.nil_append] at h
            exact h.here hS (.tup s2 t2)
          · subst e
            rw [t2.nil_inv, List.append_nil] at h
            exact h.here hS (.tup s1 t1)
    · exact h.elim
  · split at h
    · split at h
      · rename_i e1 e2 hz
        cases r1; cases r2
        obtain ⟨v1, h1, t1⟩ := lst_of hS e1
        obtain ⟨v2, h2, t2⟩ := lst_of hS e2
        rw [t1.length, t2.length] at hz
        exact .inr (.inr (.inr ⟨_, _, _, _, rfl, rfl, h1, h2, lim_sz hz, mk_lst hS (t1.app t2) h⟩))
      · exact h.elim
    · exact h.elim
  · exact h.elim
def gInt (g : Int → Int → Int) : PV → PV → Sto → Out PV := fun a b S => match a, b with
  | .int i, .int j => .ok (.int (g i j)) S
  | _, _ => .bad
def gIntC (c : Int → Int → Bool) (g : Int → Int → Int) : PV → PV → Sto → Out PV := fun a b S => match a, b with
  | .int i, .int j => if c i j = true then .ok (.int (g i j)) S else .bad
  | _, _ => .bad
def gCmpI (g : Int → Int → Bool) : PV → PV → Sto → Out PV := fun a b S => match a, b with
  | .int i, .int j => .ok (.bl (g i j)) S
  | _, _ => .bad
theorem oi_int {g : Int → Int → Int} : OpI X Wx (rI0 fun i j => .int (g i j)) (gInt g) := by
  intro ρ S H w1 w2 x y Ex Q hS r1 r2 h
  unfold gInt at h
  split at h
  · cases r1; cases r2; exact ⟨_, _, rfl, rfl, h.here hS (.int _)⟩
  · exact h.elim
theorem oi_intC {C : Int → Int → Prop} {c : Int → Int → Bool} {g : Int → Int → Int} (hc : ∀ i j, c i j = true → C i j) : OpI X Wx (rI C fun i j => .int (g i j)) (gIntC c g) := by
  intro ρ S H w1 w2 x y Ex Q hS r1 r2 h
  unfold gIntC at h
  split at h
  · split at h
    · rename_i q
      cases r1; cases r2; exact ⟨_, _, rfl, rfl, hc _ _ q, h.here hS (.int _)⟩
    · exact h.elim
  · exact h.elim
theorem oi_cmpI {g : Int → Int → Bool} : OpI X Wx (rI0 fun i j => .bl (g i j)) (gCmpI g) := by
  intro ρ S H w1 w2 x y Ex Q hS r1 r2 h
  unfold gCmpI at h
  split at h
  · cases r1; cases r2; exact ⟨_, _, rfl, rfl, h.here hS (.bl _)⟩
  · exact h.elim
def gSub := gInt fun i j => i - j
def cDiv : Int → Int → Bool := fun _ j => decide (0 < j) && decide (j < 1073741824)
def cMod : Int → Int → Bool := fun _ j => decide (0 < j)
def gDiv := gIntC cDiv fun i j => i / j
def gMod := gIntC cMod fun i j => i % j
def gLt := gCmpI fun i j => decide (i < j)
def gLe := gCmpI fun i j => decide (i ≤ j)
def gGt := gCmpI fun i j => decide (j < i)
def gGe := gCmpI fun i j => decide (j ≤ i)
def gBand := gInt Builtin.bitAnd
theorem oi_sub : OpI X Wx (rI0 fun i j => .int (i - j)) gSub := oi_int
theorem oi_div : OpI X Wx (rI CDiv fun i j => .int (i / j)) gDiv := oi_intC fun i j h => by
  simp only [cDiv, Bool.and_eq_true, decide_eq_true_eq] at h; exact h
theorem oi_mod : OpI X Wx (rI (fun _ j => 0 < j) fun i j => .int (i % j)) gMod := oi_intC fun i j h => by
  simp only [cMod, decide_eq_true_eq] at h; exact h
theorem oi_lt : OpI X Wx (rI0 fun i j => .bl (decide (i < j))) gLt := oi_cmpI
theorem oi_le : OpI X Wx (rI0 fun i j => .bl (decide (i ≤ j))) gLe := oi_cmpI
theorem oi_gt : OpI X Wx (rI0 fun i j => .bl (decide (j < i))) gGt := oi_cmpI
theorem oi_ge : OpI X Wx (rI0 fun i j => .bl (decide (j ≤ i))) gGe := oi_cmpI
theorem oi_band : OpI X Wx (rI0 fun i j => .int (Builtin.bitAnd i j)) gBand := oi_int
/-- products: one factor below 2^64; a list times an int -/
def big : Int := 18446744073709551616
def smallI (i : Int) : Bool := decide (-big < i) && decide (i < big)
def gMul : PV → PV → Sto → Out PV := fun a b S => match a, b with
  | .int i, .int j => if (smallI i || smallI j) = true then .ok (.int (i * j)) S else .bad
  | .loc n, .int j => (match lstAt S n with
    | some x => if decide (0 ≤ j) && decide (j < 100000) && decide (x.length * j.toNat ≤ lim) then .ok (.loc S.length) (S ++ [.lst (List.replicate j.toNat x).flatten]) else .bad
    | none => .bad)
  | _, _ => .bad
def rMulM : R2 := fun x y H Q => (rI CMul fun i j => .int (i * j)) x y H Q ∨ rRep x y H Q
theorem or_mulM : OpR X (binaryOp .Mult) rMulM := op_mul.or op_rep
theorem smallI_ok {i : Int} (h : smallI i = true) : -(2 ^ 64) < i ∧ i < 2 ^ 64 := by
  have h := Bool.and_eq_true_iff.mp h
  have h : -18446744073709551616 < i ∧ i < 18446744073709551616 := ⟨of_decide_eq_true h.1, of_decide_eq_true h.2⟩
  have e : (2 : Int) ^ 64 = 18446744073709551616 := by decide
  rw [e]; exact h
theorem RWs.rep {K : PySem.W.Frag} {ρ : Nat → Addr} {N : Nat} {H : Hp} {ws : List PV} {vs : List V} (h : RWs K ρ N H ws vs) : ∀ k : Nat, RWs K ρ N H (List.replicate k ws).flatten (List.replicate k vs).flatten
  | 0 => .nil
  | k + 1 => by
    rw [List.replicate_succ, List.replicate_succ, List.flatten_cons, List.flatten_cons]
    exact h.app (RWs.rep h k)
theorem oi_mul : OpI X Wx rMulM gMul := by
  intro ρ S H w1 w2 x y Ex Q hS r1 r2 h
  unfold gMul at h
  split at h
  · split at h
    · rename_i q
      cases r1; cases r2
      refine .inl ⟨_, _, rfl, rfl, ?_, h.here hS (.int _)⟩
      rcases Bool.or_eq_true_iff.mp q with q | q
      · exact .inl (smallI_ok q)
      · exact .inr (smallI_ok q)
    · exact h.elim
  · split at h
    · split at h
      · rename_i e1 hz
        cases r1; cases r2
        obtain ⟨v1, h1, t1⟩ := lst_of hS e1
        simp only [Bool.and_eq_true, decide_eq_true_eq] at hz
        rw [t1.length] at hz
        refine .inr ⟨_, _, _, rfl, rfl, h1, by omega, by omega, lim_sz hz.2, ?_⟩
        exact mk_lst hS (t1.rep _) h
      · exact h.elim
    · exact h.elim
  · exact h.elim
end

/-! ### equality -/
def scalP : PV → PV → Option Bool
  | .int i, .int j => some (decide (i = j))
  | .str x, .str y => some (decide (x = y))
  | .bl x, .bl y => some (x == y)
  | .non, .non => some true
  | .non, .int _ => some false
  | .int _, .non => some false
  | .non, .bl _ => some false
  | .bl _, .non => some false
  | .non, .str _ => some false
  | .str _, .non => some false
  | .int _, .str _ => some false
  | .str _, .int _ => some false
  | .bl _, .str _ => some false
  | .str _, .bl _ => some false
  | _, _ => none
def optAll {α β : Type} (f : α → Option β) : List α → Option (List β)
  | [] => some []
  | x :: r => match f x, optAll f r with
    | some d, some ds => some (d :: ds)
    | _, _ => none
/-- the data of a value, lists looked up in the store -/
def datP (S : Sto) : Nat → PV → Option PyData
  | 0, _ => none
  | f + 1, w => match w with
    | .non => some .none
    | .bl b => some (.bool b)
    | .int i => some (.int i)
    | .str l => if PyData.strOk (toS l) = true then some (.str (toS l)) else none
    | .tup xs => (optAll (datP S f) xs).map .tuple
    | .loc n => (match seqAt S n with
      | some xs => (optAll (datP S f) xs).map .list
      | none => none)
    | _ => none
theorem optAll_some {α β : Type} {f : α → Option β} : ∀ {xs : List α} {ds : List β}, optAll f xs = some ds → ∀ d ∈ ds, ∃ x ∈ xs, f x = some d
  | [], ds, h => by cases h; intro d hd; cases hd
  | x :: r, ds, h => by
    unfold optAll at h
    split at h
    · rename_i d ds' e1 e2
      cases h
      intro d' hd
      rcases List.mem_cons.mp hd with rfl | hd
      · exact ⟨x, List.mem_cons_self, e1⟩
      · obtain ⟨y, hy, q⟩ := optAll_some e2 d' hd
        exact ⟨y, List.mem_cons_of_mem _ hy, q⟩
    · cases h
theorem canAll : ∀ {ds : List PyData}, (∀ d ∈ ds, d.canLay0 = true) → PyData.canLayAll0 ds = true
  | [], _ => by simp [PyData.canLayAll0]
  | d :: r, h => by
    simp only [PyData.canLayAll0, Bool.and_eq_true]
    exact ⟨h d List.mem_cons_self, canAll fun x hx => h x (List.mem_cons_of_mem _ hx)⟩
theorem depAll {n : Nat} : ∀ {ds : List PyData}, (∀ d ∈ ds, d.depth ≤ n) → PyData.depthAll ds ≤ n
  | [], _ => by simp [PyData.depthAll]
  | d :: r, h => by
    simp only [PyData.depthAll]
    exact Nat.max_le.mpr ⟨h d List.mem_cons_self, depAll fun x hx => h x (List.mem_cons_of_mem _ hx)⟩
theorem datP_ok {S : Sto} : ∀ {f : Nat} {w : PV} {d : PyData}, datP S f w = some d → d.canLay0 = true ∧ d.depth ≤ f
  | 0, _, _, h => by cases h
  | f + 1, w, d, h => by
    cases w with
    | non => cases h; simp [PyData.canLay0, PyData.depth]
    | bl b => cases h; simp [PyData.canLay0, PyData.depth]
    | int i => cases h; simp [PyData.canLay0, PyData.depth]
    | str l =>
      simp only [datP] at h
      split at h
      · rename_i q; cases h; simp [PyData.canLay0, PyData.depth, q]
      · cases h
    | tup xs =>
      simp only [datP] at h
      cases e : optAll (datP S f) xs with
      | none => rw [e] at h; cases h
      | some ds =>
        rw [e] at h; cases h
        have q : ∀ d ∈ ds, d.canLay0 = true ∧ d.depth ≤ f := fun d hd => by
          obtain ⟨x, _, q⟩ := optAll_some e d hd
          exact datP_ok q
        simp only [PyData.canLay0, PyData.depth]
        exact ⟨canAll fun d hd => (q d hd).1, Nat.succ_le_succ (depAll fun d hd => (q d hd).2)⟩
    | loc n =>
      simp only [datP] at h
      split at h
      · rename_i xs _
        cases e : optAll (datP S f) xs with
        | none => rw [e] at h; cases h
        | some ds =>
          rw [e] at h; cases h
          have q : ∀ d ∈ ds, d.canLay0 = true ∧ d.depth ≤ f := fun d hd => by
            obtain ⟨x, _, q⟩ := optAll_some e d hd
            exact datP_ok q
          simp only [PyData.canLay0, PyData.depth]
          exact ⟨canAll fun d hd => (q d hd).1, Nat.succ_le_succ (depAll fun d hd => (q d hd).2)⟩
      · cases h
    | gl x => cases h
    | ty b => cases h
section
variable {K : PySem.W.Frag} {ρ : Nat → Addr} {H : Hp} {S : Sto}
theorem datP_all {f : Nat} (ih : ∀ {w : PV} {v : V} {d : PyData}, RW K ρ S.length H w v → datP S f w = some d → Dp K H v d) :
    ∀ {xs : List PV} {vs : List V} {ds : List PyData}, RWs K ρ S.length H xs vs → optAll (datP S f) xs = some ds → DpAll K H vs ds
  | [], _, _, r, h => by cases r; cases h; exact .nil
  | x :: xs, _, _, r, h => by
    cases r with
    | cons r rs =>
      unfold optAll at h
      split at h
      · rename_i d ds e1 e2
        cases h
        exact .cons (ih r e1) (datP_all ih rs e2)
      · cases h
theorem datP_dp (hS : RSt K ρ H S) : ∀ {f : Nat} {w : PV} {v : V} {d : PyData}, RW K ρ S.length H w v → datP S f w = some d → Dp K H v d
  | 0, _, _, _, _, h => by cases h
  | f + 1, w, v, d, r, h => by
    cases r with
    | non => cases h; exact .non
    | bl b => cases h; exact .bl b
    | int i => cases h; exact .int i
    | str x =>
      simp only [datP, toS_cps] at h
      split at h
      · cases h; exact .str x
      · cases h
    | tup s t =>
      simp only [datP] at h
      cases e : optAll (datP S f) _ with
      | none => rw [e] at h; cases h
      | some ds => rw [e] at h; cases h; exact .tup s (datP_all (datP_dp hS) t e)
    | loc n hn =>
      simp only [datP] at h
      split at h
      · rename_i xs e0
        obtain ⟨vs, s, t⟩ := seq_of hS e0
        cases e : optAll (datP S f) _ with
        | none => rw [e] at h; cases h
        | some ds => rw [e] at h; cases h; exact .lst s (datP_all (datP_dp hS) t e)
      · cases h
    | gl x => cases h
    | ty n => cases h
end
def eqM (neg : Bool) : PV → PV → Sto → Out PV := fun a b S => match scalP a b with
  | some k => .ok (.bl (if neg = true then !k else k)) S
  | none => match datP S 60 a, datP S 60 b with
    | some d, some e => .ok (.bl (if neg = true then !PyData.eqv d e else PyData.eqv d e)) S
    | _, _ => .bad
def gEq := eqM false
def gNe := eqM true
def rEqM (K : PySem.W.Frag) : R2 := fun x y H Q => rEq x y H Q ∨ rEqD K x y H Q
def rNeM (K : PySem.W.Frag) : R2 := fun x y H Q => rNe x y H Q ∨ rNeD K x y H Q
theorem shaped_of {S : Sto} {w : PV} {d : PyData} (h : datP S 60 w = some d) : SeqAt.shaped d = true := by
  obtain ⟨a, b⟩ := datP_ok h
  unfold SeqAt.shaped
  rw [a, Bool.true_and]
  exact decide_eq_true (Nat.le_trans b (by decide))
theorem str_eq_iff {x y : Str} : (x.cps.toList = y.cps.toList) = (x = y) := by
  apply propext
  constructor
  · intro h
    cases x; cases y
    simp at h
    rw [h]
  · intro h; rw [h]
theorem cps_iff {x y : Str} : x.cps = y.cps ↔ x = y := by
  cases x; cases y; simp
theorem cps_iff' {x y : Str} : x = y ↔ x.cps = y.cps := cps_iff.symm
theorem scal_of {K : PySem.W.Frag} {ρ : Nat → Addr} {N : Nat} {H : Hp} {a b : PV} {x y : V} {k : Bool} (ra : RW K ρ N H a x) (rb : RW K ρ N H b y) (h : scalP a b = some k) : scal x y = true ∧ k = decide (x = y) := by
  cases ra <;> cases rb <;> first
    | (simp [scalP] at h; done)
    | (simp only [scalP, Option.some.injEq] at h; subst h; refine ⟨rfl, ?_⟩; first | rfl | (simp [cps_iff]; done) | (rename_i b1 b2; cases b1 <;> cases b2 <;> rfl))
section
variable {X : Cx} {Wx : WX}
theorem or_eqM (hu : X.A.units + 64 < cLine) : OpR X (compareOp .Eq) (rEqM X.K) := op_eq.or (op_eqD hu)
theorem or_neM (hu : X.A.units + 64 < cLine) : OpR X (compareOp .NotEq) (rNeM X.K) := op_ne.or (op_neD hu)
theorem oi_eq : OpI X Wx (rEqM X.K) gEq := by
  intro ρ S H w1 w2 x y Ex Q hS r1 r2 h
  unfold gEq eqM at h
  split at h
  · rename_i k e
    obtain ⟨a, b⟩ := scal_of r1 r2 e
    subst b
    exact .inl ⟨a, h.here hS (.bl _)⟩
  · split at h
    · rename_i d1 d2 e1 e2
      exact .inr ⟨_, _, datP_dp hS r1 e1, datP_dp hS r2 e2, shaped_of e1, shaped_of e2, h.here hS (.bl _)⟩
    · exact h.elim
theorem oi_ne : OpI X Wx (rNeM X.K) gNe := by
  intro ρ S H w1 w2 x y Ex Q hS r1 r2 h
  unfold gNe eqM at h
  split at h
  · rename_i k e
    obtain ⟨a, b⟩ := scal_of r1 r2 e
    subst b
    exact .inl ⟨a, h.here hS (.bl _)⟩
  · split at h
    · rename_i d1 d2 e1 e2
      exact .inr ⟨_, _, datP_dp hS r1 e1, datP_dp hS r2 e2, shaped_of e1, shaped_of e2, h.here hS (.bl _)⟩
    · exact h.elim
end
/-! ### in, is -/
def flatP : PV → Bool
  | .non => true
  | .bl _ => true
  | .int _ => true
  | .str _ => true
  | _ => false
def eqF : PV → PV → Bool
  | .non, .non => true
  | .bl a, .bl b => a == b
  | .bl a, .int b => (if a then 1 else 0) == b
  | .int a, .bl b => a == (if b then 1 else 0)
  | .int a, .int b => a == b
  | .str a, .str b => decide (a = b)
  | _, _ => false
def inP (x : PV) (xs : List PV) : Bool := xs.any fun y => eqF y x
section
variable {K : PySem.W.Frag} {ρ : Nat → Addr} {N : Nat} {H : Hp}
theorem flat_of {w : PV} {v : V} (r : RW K ρ N H w v) : flatV v = flatP w := by cases r <;> rfl
theorem flats_of : ∀ {ws : List PV} {vs : List V}, RWs K ρ N H ws vs → vs.all flatV = ws.all flatP
  | _, _, .nil => rfl
  | _, _, .cons r t => by rw [List.all_cons, List.all_cons, flat_of r, flats_of t]
theorem eqF_of {a b : PV} {x y : V} (r : RW K ρ N H a x) (q : RW K ρ N H b y) : eqV x y = eqF a b := by
  cases r <;> cases q <;> first | rfl | skip
  rename_i s t
  show (s == t) = decide (s.cps.toList = t.cps.toList)
  rw [Bool.eq_iff_iff]
  simp [cps_iff']
theorem inP_of {x : PV} {v : V} (r : RW K ρ N H x v) : ∀ {ws : List PV} {vs : List V}, RWs K ρ N H ws vs → inV v vs = inP x ws
  | _, _, .nil => rfl
  | _, _, .cons q t => by
    have := inP_of r t
    unfold inV inP at this ⊢
    rw [List.any_cons, List.any_cons, eqF_of q r, this]
end
def inM (neg : Bool) : PV → PV → Sto → Out PV := fun a b S => match b with
  | .tup xs => if flatP a && xs.all flatP then .ok (.bl (if neg then !inP a xs else inP a xs)) S else .bad
  | .loc n => (match seqAt S n with
    | some xs => if flatP a && xs.all flatP then .ok (.bl (if neg then !inP a xs else inP a xs)) S else .bad
    | none => .bad)
  | _ => .bad
section
variable {X : Cx} {Wx : WX}
theorem oi_inS {neg : Bool} : OpI X Wx (rIn X.K neg) (inM neg) := by
  intro ρ S H w1 w2 x y Ex Q hS r1 r2 h
  unfold inM at h
  split at h
  · split at h
    · rename_i q
      rw [Bool.and_eq_true] at q
      cases r2 with
      | tup s t =>
        refine ⟨_, _, rfl, .inr s, by rw [flat_of r1]; exact q.1, by rw [flats_of t]; exact q.2, ?_⟩
        rw [inP_of r1 t]
        exact h.here hS (.bl _)
    · exact h.elim
  · split at h
    · split at h
      · rename_i e q
        rw [Bool.and_eq_true] at q
        cases r2
        obtain ⟨vs, s, t⟩ := seq_of hS e
        refine ⟨_, _, rfl, .inl s, by rw [flat_of r1]; exact q.1, by rw [flats_of t]; exact q.2, ?_⟩
        rw [inP_of r1 t]
        exact h.here hS (.bl _)
      · exact h.elim
    · exact h.elim
  · exact h.elim
def isNonP : PV → Bool
  | .non => true
  | _ => false
def isM (neg : Bool) : PV → PV → Sto → Out PV := fun a b S => match b with
  | .non => .ok (.bl (if neg then !isNonP a else isNonP a)) S
  | .bl k => (match a with
    | .bl j => .ok (.bl (if neg then !decide (j = k) else decide (j = k))) S
    | _ => .bad)
  | _ => .bad
def rIsM : R2 := fun x y H Q => (y = .non ∧ Q (.bl (decide (x = .non))) H) ∨ ∃ a b, x = .bl a ∧ y = .bl b ∧ Q (.bl (decide (a = b))) H
def rIsNM : R2 := fun x y H Q => (y = .non ∧ Q (.bl (!decide (x = .non))) H) ∨ ∃ a b, x = .bl a ∧ y = .bl b ∧ Q (.bl (!decide (a = b))) H
theorem or_isM : OpR X (compareOp .Is) rIsM := op_isN.or op_is_bl
theorem or_isNM : OpR X (compareOp .IsNot) rIsNM := op_notN.or op_isnot_bl
theorem non_of {K : PySem.W.Frag} {ρ : Nat → Addr} {N : Nat} {H : Hp} {w : PV} {v : V} (r : RW K ρ N H w v) : decide (v = .non) = isNonP w := by cases r <;> simp [isNonP]
theorem oi_is : OpI X Wx rIsM (isM false) := by
  intro ρ S H w1 w2 x y Ex Q hS r1 r2 h
  unfold isM at h
  split at h
  · cases r2
    refine .inl ⟨rfl, ?_⟩
    rw [non_of r1]
    exact h.here hS (.bl _)
  · split at h
    · cases r1; cases r2
      exact .inr ⟨_, _, rfl, rfl, h.here hS (.bl _)⟩
    · exact h.elim
  · exact h.elim
theorem oi_isN : OpI X Wx rIsNM (isM true) := by
  intro ρ S H w1 w2 x y Ex Q hS r1 r2 h
  unfold isM at h
  split at h
  · cases r2
    refine .inl ⟨rfl, ?_⟩
    rw [non_of r1]
    exact h.here hS (.bl _)
  · split at h
    · cases r1; cases r2
      exact .inr ⟨_, _, rfl, rfl, h.here hS (.bl _)⟩
    · exact h.elim
  · exact h.elim
end
end GL

set_option Elab.async false
set_option linter.all false
set_option maxRecDepth 100000
set_option maxHeartbeats 1000000
namespace GL
open PySem PySem.Spec PyProof.Rows L2

/-! ### targets -/
abbrev MG := PV → Ls → Option Ls
abbrev MGs := List PV → Ls → Option Ls
def gN (i : Nat) : MG := fun w ls => some (ls.set i (some w))
def gsNil : MGs := fun ws ls => match ws with
  | [] => some ls
  | _ => none
def gsCons (g : MG) (r : MGs) : MGs := fun ws ls => match ws with
  | w :: t => (match g w ls with
    | some ls1 => r t ls1
    | none => none)
  | [] => none
def gT (r : MGs) : MG := fun w ls => match w with
  | .tup xs => r xs ls
  | _ => none
/-- nothing but the slots sl has changed -/
def Off (sl : List Nat) (σ σ' : L2.St) : Prop := σ'.length = σ.length ∧ ∀ j, j ∉ sl → σ'[j]? = σ[j]?
theorem Off.trans {s1 s2 : List Nat} {a b c : L2.St} (h : Off s1 a b) (h' : Off s2 b c) : Off (s1 ++ s2) a c :=
  ⟨h'.1.trans h.1, fun j hj => by
    rw [List.mem_append, not_or] at hj
    exact (h'.2 j hj.2).trans (h.2 j hj.1)⟩
theorem wipe_get {σ : L2.St} {j : Nat} : ∀ {vs : List Nat}, (L2.wipe σ vs)[j]? = if j ∈ vs ∧ j < σ.length then some none else σ[j]?
  | [] => by simp [L2.wipe]
  | v :: vs => by
    have hl := L2.wipe_length σ vs
    show ((L2.wipe σ vs).set v none)[j]? = _
    by_cases hv : v = j
    · subst hv
      by_cases hj : v < σ.length
      · rw [List.getElem?_set_self (by rw [hl]; exact hj), if_pos ⟨List.mem_cons_self, hj⟩]
      · rw [List.getElem?_eq_none (by rw [List.length_set, hl]; omega), if_neg (fun h => hj h.2), List.getElem?_eq_none (by omega)]
    · rw [List.getElem?_set_ne hv, wipe_get (vs := vs)]
      have : (j ∈ v :: vs) = (j ∈ vs) := by
        apply propext
        rw [List.mem_cons]
        exact ⟨fun h => h.elim (fun e => absurd e.symm hv) id, .inr⟩
      simp only [this]
theorem Off.wipe {sl vs : List Nat} {σ σ' : L2.St} (h : Off sl (L2.wipe σ vs) σ') (hs : ∀ j ∈ sl, j ∈ vs) : L2.wipe σ' vs = L2.wipe σ vs := by
  have hl := L2.wipe_length σ vs
  apply List.ext_getElem?
  intro j
  rw [wipe_get, wipe_get, h.1, hl]
  split
  · rfl
  · rename_i q
    by_cases hj : j ∈ vs
    · have : ¬ j < σ.length := fun z => q ⟨hj, z⟩
      rw [List.getElem?_eq_none (by rw [h.1, hl]; omega), List.getElem?_eq_none (by omega)]
    · rw [h.2 j (fun z => hj (hs j z)), wipe_get, if_neg (fun z => hj z.1)]
section
variable {X : Cx} {pos : Pos}
def tGm (K : PySem.W.Frag) (g : MG) (sl : List Nat) : TG := fun v σ H Q => ∃ ρ S ls w ls', RSt K ρ H S ∧ RL K ρ S.length H ls σ ∧ RW K ρ S.length H w v ∧ g w ls = some ls' ∧
  ∀ σ', Off sl σ σ' → RL K ρ S.length H ls' σ' → Q σ' H
def tGms (K : PySem.W.Frag) (g : MGs) (sl : List Nat) : TGs := fun vs σ H Q => ∃ ρ S ls ws ls', RSt K ρ H S ∧ RL K ρ S.length H ls σ ∧ RWs K ρ S.length H ws vs ∧ g ws ls = some ls' ∧
  ∀ σ', Off sl σ σ' → RL K ρ S.length H ls' σ' → Q σ' H
abbrev IG (X : Cx) (e : Expr) (g : MG) (sl : List Nat) : Prop := PG X e (tGm X.K g sl)
/-- several targets; n of them -/
def IGs (X : Cx) (es : List Expr) (g : MGs) (n : Nat) (sl : List Nat) : Prop := PGs X es (tGms X.K g sl) ∧ ∀ ws ls ls', g ws ls = some ls' → ws.length = n
theorem PGi {e : Expr} {t t' : TG} (h : PG X e t) (i : ∀ v σ H Q, t' v σ H Q → t v σ H Q) : PG X e t' := ⟨fun pins s σ H v u Q I r hw => h.run pins s σ H v u Q I r (i _ _ _ _ hw)⟩
theorem PGsi {e : List Expr} {t t' : TGs} (h : PGs X e t) (i : ∀ v σ H Q, t' v σ H Q → t v σ H Q) : PGs X e t' := ⟨fun pins s σ H v u Q I r hw => h.run pins s σ H v u Q I r (i _ _ _ _ hw)⟩
theorem off_set {σ : L2.St} {i : Nat} {o : Option V} : Off [i] σ (σ.set i o) := ⟨List.length_set, fun j hj => List.getElem?_set_ne (fun e => hj (List.mem_singleton.mpr e.symm))⟩
theorem ig_name {x : Str} (i : Nat) (hN : X.N.Nodup) (hi : X.N[i]? = some x := by rfl) (hx : Loc X.env.scope x := by first | exact Or.inl rfl | exact Or.inr rfl) (hf : X.fn x = true ∨ X.env.scope.names.lookup x = some .local := by first | exact .inl rfl | exact .inr rfl) :
    IG X (.Name x pos) (gN i) [i] := PGi (pg_name (i := i) hN hi hx hf) fun v σ H Q ⟨ρ, S, ls, w, ls', hS, hL, r, e, h⟩ => by
  cases e
  exact h _ off_set (RL.set r i hL)
theorem igs_nil : IGs X [] gsNil 0 [] := by
  refine ⟨PGsi pgs_nil fun vs σ H Q ⟨ρ, S, ls, ws, ls', hS, hL, r, e, h⟩ => ?_, fun ws ls ls' e => ?_⟩
  · unfold gsNil at e
    split at e
    · cases e; cases r; exact ⟨rfl, h σ ⟨rfl, fun _ _ => rfl⟩ hL⟩
    · cases e
  · unfold gsNil at e
    split at e
    · rfl
    · cases e
theorem igs_cons {e : Expr} {es : List Expr} {g : MG} {gs : MGs} {n : Nat} {s1 s2 : List Nat} (h1 : IG X e g s1) (h2 : IGs X es gs n s2) (hs : (assignEach (e :: es) X.env).map (·.2) = assign e X.env :: (assignEach es X.env).map (·.2) := by rfl) : IGs X (e :: es) (gsCons g gs) (n + 1) (s1 ++ s2) := by
  refine ⟨PGsi (pgs_cons h1 h2.1 hs) fun vs σ H Q ⟨ρ, S, ls, ws, ls', hS, hL, r, e, h⟩ => ?_, fun ws ls ls' e => ?_⟩
  · cases r with
    | nil => cases e
    | cons r rs =>
      unfold gsCons at e
      dsimp only at e
      split at e
      · rename_i ls1 e1
        exact ⟨_, _, rfl, ρ, S, ls, _, ls1, hS, hL, r, e1, fun σ1 o1 l1 => ⟨ρ, S, ls1, _, ls', hS, l1, rs, e, fun σ2 o2 l2 => h σ2 (o1.trans o2) l2⟩⟩
      · cases e
  · cases ws with
    | nil => cases e
    | cons w t =>
      unfold gsCons at e
      dsimp only at e
      split at e
      · rename_i ls1 e1
        rw [List.length_cons, h2.2 _ _ _ e]
      · cases e
theorem ig_tup {es : List Expr} {k : Nat} {gs : MGs} {n : Nat} {sl : List Nat} (hc : X.calm = true) (h : IGs X es gs n sl) (hn : (assignEach es X.env).length = n := by rfl) (hst : (assignEach es X.env).findIdx? (·.1) = none := by rfl) :
    IG X (.Tuple es k pos) (gT gs) sl := PGi (pg_tup hc h.1 hn hst) fun v σ H Q ⟨ρ, S, ls, w, ls', hS, hL, r, e, q⟩ => by
  unfold gT at e
  split at e
  · cases r with
    | tup s t => exact ⟨_, _, rfl, s, by rw [← t.length]; exact h.2 _ _ _ e, ρ, S, ls, _, ls', hS, hL, t, e, q⟩
  · cases e
/-- target = e, any target of names -/
def sAsg (g : MG) (m : ME) : MS := fun ls S => (m ls S).then ls fun w S1 => match g w ls with
  | some ls1 => .nx ls1 S1
  | none => .bad
theorem is_asg {Wx : WX} {tg e : Expr} {m : ME} {g : MG} {sl : List Nat} (hg : IG X tg g sl) (he : IE X Wx e m) (hs : swapsWithSole [tg] e pos.line X.env = pure false := by rfl) (hw : swappedStores [tg] e X.env = pure none := by rfl)
    (h1 : (assignEach [tg] X.env).map (·.2) = [assign tg X.env] := by rfl) : IS X Wx (.Assign [tg] e pos) (sAsg g m) :=
  PSi (ps_asg he hg hs hw h1) fun D σ H ⟨ρ, S, ls, hS, hL, h⟩ => ⟨ρ, S, ls, hS, hL, (Post.then (R := RW) hL h).imp fun x H1 ⟨ρ1, S1, w1, e1, hS1, r1, h1⟩ => by
    split at h1
    · rename_i ls1 e2
      exact ⟨ρ1, S1, ls, w1, ls1, hS1, hL.ext e1, r1, e2, fun σ' _ l' => h1 ρ1 H1 σ' .refl hS1 l'⟩
    · exact h1.elim⟩
end

/-! ### what is walked -/
structure Wk where
  items : List PV
  chk : Nat → Sto → Bool
/-- J walks what it says -/
def RIt (K : PySem.W.Frag) (ρ : Nat → Addr) (N : Nat) (H : Hp) (it : Wk) (J : It) : Prop :=
  ∀ ρ' S' H', Ext K ρ N H ρ' S'.length H' → RSt K ρ' H' S' →
    (∀ i x, it.items[i]? = some x → it.chk i S' = true → J.go i H' ∧ ∀ v H2, J.yld i H' v H2 → ∃ ρ2, Ext K ρ' S'.length H' ρ2 S'.length H2 ∧ RSt K ρ2 H2 S' ∧ RW K ρ2 S'.length H2 x v) ∧
    (it.chk it.items.length S' = true → J.stop it.items.length H')
abbrev MI := Ls → Sto → Out Wk
abbrev RItF : RelF Wk It := RIt
def tI (K : PySem.W.Frag) (Wx : WX) (m : MI) : TI := fun σ H R => ∃ ρ S ls, RSt K ρ H S ∧ RL K ρ S.length H ls σ ∧ Post RItF K ρ S.length H (fun c d H' => Wx c d σ H') (m ls S) R
abbrev II (X : Cx) (Wx : WX) (tg e : Expr) (m : MI) : Prop := PI X tg e (tI X.K Wx m)
theorem PIi {X : Cx} {tg e : Expr} {t t' : TI} (h : PI X tg e t) (i : ∀ σ H R, t' σ H R → t σ H R) : PI X tg e t' := ⟨fun pins s σ H R I hw => h.run pins s σ H R I (i _ _ _ hw)⟩
def always : Nat → Sto → Bool := fun _ _ => true
def isLst (n : Nat) (xs : List PV) : Nat → Sto → Bool := fun _ S => match S[n]? with
  | some (.lst ys) => PV.beqs ys xs
  | _ => false
theorem isLst_self {n : Nat} {xs : List PV} {S : Sto} {i : Nat} (h : S[n]? = some (.lst xs)) : isLst n xs i S = true := by
  unfold isLst; rw [h]; exact PV.beqs_self xs
theorem isLst_get {n : Nat} {xs : List PV} {S : Sto} {i : Nat} (h : isLst n xs i S = true) : S[n]? = some (.lst xs) := by
  unfold isLst at h
  split at h
  · rename_i e; rw [e, PV.eqs_of_beqs h]
  · cases h
section
variable {K : PySem.W.Frag} {ρ : Nat → Addr} {N : Nat} {H : Hp}
theorem rit_tup {xs : List PV} {a : Addr} {vs : List V} (s : SqT K H a vs) (t : RWs K ρ N H xs vs) : RIt K ρ N H ⟨xs, always⟩ (Itt K a) := by
  intro ρ' S' H' e hS
  have s' := e.2.2.1 _ _ s
  have t' := t.ext e
  have w := walk_tup (K := K) (a := a) (xs := vs)
  have hl := t.length
  refine ⟨fun i x hx _ => ?_, fun _ => ?_⟩
  · obtain ⟨v, hv, r⟩ := t'.get hx
    have hi := (List.getElem?_eq_some_iff.mp hv).1
    refine ⟨w.goes i H' hi s', fun v' H2 y => ?_⟩
    obtain ⟨e1, e2⟩ := w.yields i H' v' H2 hi s' y
    subst e1
    rw [hv] at e2; cases e2
    exact ⟨ρ', .refl, hS, r⟩
  · show (Itt K a).stop xs.length H'
    rw [hl]; exact w.stops H' s'
theorem rit_rol {xs : List PV} {a : Addr} {vs : List V} (stay : ∀ ρ' S' H', Ext K ρ N H ρ' S'.length H' → RSt K ρ' H' S' → SqL K H' a vs) (t : RWs K ρ N H xs vs) : RIt K ρ N H ⟨xs, always⟩ (Itl K a) := by
  intro ρ' S' H' e hS
  have s' := stay ρ' S' H' e hS
  have t' := t.ext e
  have w := walk_list (K := K) (a := a) (xs := vs)
  have hl := t.length
  refine ⟨fun i x hx _ => ?_, fun _ => ?_⟩
  · obtain ⟨v, hv, r⟩ := t'.get hx
    have hi := (List.getElem?_eq_some_iff.mp hv).1
    refine ⟨w.goes i H' hi s', fun v' H2 y => ?_⟩
    obtain ⟨e1, e2⟩ := w.yields i H' v' H2 hi s' y
    subst e1
    rw [hv] at e2; cases e2
    exact ⟨ρ', .refl, hS, r⟩
  · show (Itl K a).stop xs.length H'
    rw [hl]; exact w.stops H' s'
theorem rit_lst {xs : List PV} {n : Nat} (hn : n < N) : RIt K ρ N H ⟨xs, isLst n xs⟩ (Itl K (ρ n)) := by
  intro ρ' S' H' e hS
  have en : ρ' n = ρ n := e.2.1 n hn
  refine ⟨fun i x hx hc => ?_, fun hc => ?_⟩
  · obtain ⟨vs, hv, t⟩ := hS.at_ _ _ (isLst_get (i := 0) hc)
    rw [en] at hv
    have w := walk_list (K := K) (a := ρ n) (xs := vs)
    obtain ⟨v, hv2, r⟩ := t.get hx
    have hi := (List.getElem?_eq_some_iff.mp hv2).1
    refine ⟨w.goes i H' hi (SqL.of hv), fun v' H2 y => ?_⟩
    obtain ⟨e1, e2⟩ := w.yields i H' v' H2 hi (SqL.of hv) y
    subst e1
    rw [hv2] at e2; cases e2
    exact ⟨ρ', .refl, hS, r⟩
  · obtain ⟨vs, hv, t⟩ := hS.at_ _ _ (isLst_get (i := 0) hc)
    rw [en] at hv
    have w := walk_list (K := K) (a := ρ n) (xs := vs)
    show (Itl K (ρ n)).stop xs.length H'
    rw [t.length]; exact w.stops H' (SqL.of hv)
theorem rit_rng {lo : Int} {n : Nat} : RIt K ρ N H ⟨(List.range n).map fun i => .int (lo + (i : Nat)), always⟩ (L2.Itr lo n) := by
  intro ρ' S' H' e hS
  have w := walk_range (lo := lo) (n := n)
  refine ⟨fun i x hx _ => ?_, fun _ => ?_⟩
  · rw [List.getElem?_map] at hx
    by_cases hi : i < n
    · rw [List.getElem?_range hi] at hx
      cases hx
      refine ⟨w.goes i H' hi trivial, fun v' H2 y => ?_⟩
      obtain ⟨e1, e2⟩ := w.yields i H' v' H2 hi trivial y
      subst e1; subst e2
      exact ⟨ρ', .refl, hS, .int _⟩
    · rw [List.getElem?_eq_none (by simpa using hi)] at hx; cases hx
  · have : ((List.range n).map fun (i : Nat) => PV.int (lo + (i : Nat))).length = n := by simp
    show (L2.Itr lo n).stop _ H'
    rw [this]; exact w.stops H' trivial
end
section
variable {X : Cx} {Wx : WX} {tg e : Expr} {m : ME} {mr : MA} {p pos : Pos}
/-- for x in e: a tuple, a list -/
def iSeq (m : ME) : MI := fun ls S => (m ls S).bind fun w S1 => match w with
  | .tup xs => .ok ⟨xs, always⟩ S1
  | .loc n => (match S1[n]? with
    | some (.lst xs) => .ok ⟨xs, isLst n xs⟩ S1
    | some (.rol xs) => .ok ⟨xs, always⟩ S1
    | _ => .bad)
  | _ => .bad
def rIterM (K : PySem.W.Frag) (x : V) (H : Hp) (R : It → Hp → Prop) : Prop := ∃ a, x = .ref a ∧ (((∃ xs, SqL K H a xs) ∧ R (Itl K a) H) ∨ ((∃ xs, SqT K H a xs) ∧ R (Itt K a) H))
theorem pi_seq {te : TE} (he : PE X e te) : PI X tg e (fun σ H R => te σ H fun x H1 => rIterM X.K x H1 R) := by
  constructor
  intro pins s σ H R I h
  apply thn (he.run pins s σ H _ I h)
  rintro v s1 ⟨x, H1, I1, r1, a, rfl, q⟩
  cases r1
  have fp : ∀ b ∈ [s1.heap.objs.size], FpOk X pins H1 b := by
    intro b hb
    have hb : b = s1.heap.objs.size := List.mem_singleton.mp hb
    rw [hb]
    exact I1.fpOk (Nat.le_refl _) I1.fresh
  rcases q with ⟨⟨xs, hq⟩, q⟩ | ⟨⟨xs, hq⟩, q⟩
  · obtain ⟨its, _, pl, _⟩ := I1.list hq
    apply wpAny_pyIter_list pl.isList
    exact ⟨_, [_], _, _, H1, rfl, I1.kept (t' := s1.toks) (fun _ _ z => Heap.get?_push_of_some _ z), turn_list a _, ⟨_, Heap.get?_push_size _ rfl, rfl, rfl⟩, fp, q⟩
  · obtain ⟨its, _, pl, _⟩ := I1.tuple hq
    apply wpAny_pyIter_tuple (items := its.toArray) pl
    exact ⟨_, [_], _, _, H1, rfl, I1.kept (t' := s1.toks) (fun _ _ z => Heap.get?_push_of_some _ z), turn_tuple a _, ⟨_, Heap.get?_push_size _ rfl, rfl, rfl⟩, fp, q⟩
theorem ii_seq (he : IE X Wx e m) : II X Wx tg e (iSeq m) := PIi (pi_seq he) fun σ H R ⟨ρ, S, ls, hS, hL, h⟩ => ⟨ρ, S, ls, hS, hL, (Post.bind (R := RW) h).imp fun x H1 ⟨ρ1, S1, w1, e1, hS1, r1, h1⟩ => by
    split at h1
    · cases r1 with
      | tup s t => exact ⟨_, rfl, .inr ⟨⟨_, s⟩, h1 ρ1 H1 _ .refl hS1 (rit_tup s t)⟩⟩
    · cases r1 with
      | loc n hn =>
        split at h1
        · rename_i xs e2
          obtain ⟨vs, a, b⟩ := hS1.at_ _ _ e2
          exact ⟨_, rfl, .inl ⟨⟨_, SqL.of a⟩, h1 ρ1 H1 _ .refl hS1 (rit_lst hn)⟩⟩
        · rename_i xs e2
          obtain ⟨vs, a, b⟩ := hS1.at_ _ _ e2
          refine ⟨_, rfl, .inl ⟨⟨_, a.sq⟩, h1 ρ1 H1 _ .refl hS1 (rit_rol (fun ρ' S' H' e hS' => (e.2.2.2 _ _ a).sq) b)⟩⟩
        · exact h1.elim
    · exact h1.elim⟩

def rngL (lo hi : Int) : List PV := (List.range (hi - lo).toNat).map fun (i : Nat) => .int (lo + (i : Nat))
def med : Int := 4611686018427387904
theorem med_ok {i : Int} (h : (decide (-med ≤ i) && decide (i < med)) = true) : -(2 ^ 62) ≤ i ∧ i < 2 ^ 62 := by
  rw [Bool.and_eq_true] at h
  have h : -4611686018427387904 ≤ i ∧ i < 4611686018427387904 := ⟨of_decide_eq_true h.1, of_decide_eq_true h.2⟩
  have e : (2 : Int) ^ 62 = 4611686018427387904 := by decide
  rw [e]; exact h
def iR1 (m : ME) : MI := fun ls S => (m ls S).bind fun w S1 => match w with
  | .int j => if (decide (-med ≤ j) && decide (j < med)) = true then .ok ⟨rngL 0 j, always⟩ S1 else .bad
  | _ => .bad
def iR2 (a b : ME) : MI := fun ls S => (a ls S).bind fun w S1 => (b ls S1).bind fun v S2 => match w, v with
  | .int i, .int j => if ((decide (-med ≤ i) && decide (i < med)) && (decide (-med ≤ j) && decide (j < med))) = true then .ok ⟨rngL i j, always⟩ S2 else .bad
  | _, _ => .bad
variable {e2 : Expr} {m2 : ME}
theorem ii_range1 (hm : X.mg "range" = none) (he : IE X Wx e m) (hg : Gl X "range" := by rfl) (hst : starEach [e] X.env = (false, eval e X.env) :: starEach [] X.env := by rfl) (hs : starEach [e] X.env = [(false, eval e X.env)] := by rfl) : II X Wx tg (.Call (.Name "range" p) [e] [] pos) (iR1 m) :=
  PIi (pi_range1 hg hm (pa_cons he pa_nil hst) hs) fun σ H R ⟨ρ, S, ls, hS, hL, h⟩ => ⟨ρ, S, ls, hS, hL, (Post.bind (R := RW) h).imp fun x H1 ⟨ρ1, S1, w1, e1, hS1, r1, h1⟩ => by
    split at h1
    · split at h1
      · rename_i q
        cases r1
        obtain ⟨a, b⟩ := med_ok q
        refine ⟨_, rfl, a, b, h1 ρ1 H1 _ .refl hS1 ?_⟩
        unfold rngL
        rw [Int.sub_zero]
        exact rit_rng
      · exact h1.elim
    · exact h1.elim⟩
theorem ii_range2 (hm : X.mg "range" = none) (he : IE X Wx e m) (he2 : IE X Wx e2 m2) (hg : Gl X "range" := by rfl) (hst2 : starEach [e2] X.env = (false, eval e2 X.env) :: starEach [] X.env := by rfl) (hst : starEach [e, e2] X.env = (false, eval e X.env) :: starEach [e2] X.env := by rfl)
    (hs : starEach [e, e2] X.env = [(false, eval e X.env), (false, eval e2 X.env)] := by rfl) (hs2 : starEach [e2] X.env = [(false, eval e2 X.env)] := by rfl) : II X Wx tg (.Call (.Name "range" p) [e, e2] [] pos) (iR2 m m2) :=
  PIi (pi_range2 hg hm (pa_cons he (pa_cons he2 pa_nil hst2) hst) hs hs2) fun σ H R ⟨ρ, S, ls, hS, hL, h⟩ => ⟨ρ, S, ls, hS, hL, (Post.bind (R := RW) h).imp fun x H1 ⟨ρ1, S1, w1, e1, hS1, r1, h1⟩ =>
    ⟨ρ1, S1, ls, hS1, hL.ext e1, (Post.bind (R := RW) h1).imp fun y H2 ⟨ρ2, S2, w2, e2, hS2, r2, h2⟩ => by
    have r1 := r1.ext e2
    split at h2
    · split at h2
      · rename_i q
        rw [Bool.and_eq_true] at q
        cases r1; cases r2
        obtain ⟨a, b⟩ := med_ok q.1
        obtain ⟨c, d⟩ := med_ok q.2
        exact ⟨_, _, rfl, ⟨a, b, c, d⟩, h2 ρ2 H2 _ .refl hS2 rit_rng⟩
      · exact h2.elim
    · exact h2.elim⟩⟩
/-- enumerate(list) -/
def enumL : Nat → List PV → List PV
  | _, [] => []
  | i, x :: r => .tup [.int (i : Nat), x] :: enumL (i + 1) r
theorem enumL_get {x : PV} : ∀ {xs : List PV} {k i : Nat}, (enumL k xs)[i]? = some x → ∃ y, xs[i]? = some y ∧ x = .tup [.int ((k + i : Nat) : Int), y]
  | [], _, _, h => by simp [enumL] at h
  | y :: r, k, 0, h => by simp [enumL] at h; exact ⟨y, by simp, h.symm⟩
  | y :: r, k, i + 1, h => by
    unfold enumL at h
    obtain ⟨z, h1, h2⟩ := enumL_get (xs := r) (k := k + 1) (i := i) (by simpa using h)
    exact ⟨z, by simpa using h1, by rw [h2]; congr 3; omega⟩
theorem enumL_len : ∀ {xs : List PV} {k : Nat}, (enumL k xs).length = xs.length
  | [], _ => rfl
  | _ :: r, k => by simp [enumL, enumL_len (xs := r)]
/-- a list of the store, read as it stands -/
def isSeq (n : Nat) (xs : List PV) : Nat → Sto → Bool := fun _ S => match seqAt S n with
  | some ys => PV.beqs ys xs
  | none => false
theorem isSeq_self {n : Nat} {xs : List PV} {S : Sto} {i : Nat} (h : seqAt S n = some xs) : isSeq n xs i S = true := by
  unfold isSeq; rw [h]; exact PV.beqs_self xs
theorem isSeq_get {n : Nat} {xs : List PV} {S : Sto} {i : Nat} (h : isSeq n xs i S = true) : seqAt S n = some xs := by
  unfold isSeq at h
  split at h
  · rename_i e; rw [e, PV.eqs_of_beqs h]
  · cases h
def iEnumM (m : ME) : MI := fun ls S => (m ls S).bind fun w S1 => match w with
  | .loc n => (match seqAt S1 n with
    | some xs => .ok ⟨enumL 0 xs, isSeq n xs⟩ S1
    | none => .bad)
  | _ => .bad
/-- a new pair, laid as a turn begins -/
theorem pair_new {K : PySem.W.Frag} {ρ : Nat → Addr} {S : Sto} {H : Hp} {T : Addr} {x y : PV} {v u : V} (hS : RSt K ρ H S) (hT : H T = none) (r : RW K ρ S.length H x v) (q : RW K ρ S.length H y u) :
    ∃ ρ2, Ext K ρ S.length H ρ2 S.length (upd H T (.tup [v, u])) ∧ RSt K ρ2 (upd H T (.tup [v, u])) S ∧ RW K ρ2 S.length (upd H T (.tup [v, u])) (.tup [x, y]) (.ref T) := by
  have e : Ext K ρ S.length H ρ S.length (upd H T (.tup [v, u])) := ext_keep hT
  exact ⟨ρ, e, hS.keep hT, .tup (SqT.of upd_same) (.cons (r.ext e) (.cons (q.ext e) .nil))⟩
theorem rit_enum {K : PySem.W.Frag} {ρ : Nat → Addr} {N : Nat} {H : Hp} {xs : List PV} {n : Nat} (hn : n < N) : RIt K ρ N H ⟨enumL 0 xs, isSeq n xs⟩ (Ite K (ρ n)) := by
  intro ρ' S' H' e hS
  have en : ρ' n = ρ n := e.2.1 n hn
  refine ⟨fun i x hx hc => ?_, fun hc => ?_⟩
  · obtain ⟨vs, hv, t⟩ := seq_of hS (isSeq_get (i := 0) hc)
    rw [en] at hv
    obtain ⟨y, hy, rfl⟩ := enumL_get hx
    obtain ⟨v, hv2, r⟩ := t.get hy
    have w := walk_enum (K := K) (a := ρ n) (xs := vs)
    have hi := (List.getElem?_eq_some_iff.mp hv2).1
    refine ⟨w.goes i H' hi hv, fun v' H2 y => ?_⟩
    obtain ⟨T, x', y', rfl, hT, rfl, q1, q2⟩ := w.yields i H' v' H2 hi hv y
    cases q1
    have q2 : vs[i]? = some y' := q2
    rw [hv2] at q2; cases q2
    rw [Nat.zero_add]
    exact pair_new hS hT (.int _) r
  · obtain ⟨vs, hv, t⟩ := seq_of hS (isSeq_get (i := 0) hc)
    rw [en] at hv
    have w := walk_enum (K := K) (a := ρ n) (xs := vs)
    show (Ite K (ρ n)).stop (enumL 0 xs).length H'
    rw [enumL_len, t.length]; exact w.stops H' hv
theorem ii_enum {elts : List Expr} {kk : Nat} {tpos : Pos} (hm : X.mg "enumerate" = none) (he : IE X Wx e m) (hg : Gl X "enumerate" := by rfl) (hst : starEach [e] X.env = (false, eval e X.env) :: starEach [] X.env := by rfl) (hs : starEach [e] X.env = [(false, eval e X.env)] := by rfl) :
    II X Wx (.Tuple elts kk tpos) (.Call (.Name "enumerate" p) [e] [] pos) (iEnumM m) :=
  PIi (pi_enum hg hm (pa_cons he pa_nil hst) hs) fun σ H R ⟨ρ, S, ls, hS, hL, h⟩ => ⟨ρ, S, ls, hS, hL, (Post.bind (R := RW) h).imp fun x H1 ⟨ρ1, S1, w1, e1, hS1, r1, h1⟩ => by
    split at h1
    · split at h1
      · rename_i xs e2
        cases r1 with
        | loc n hn =>
          obtain ⟨vs, hv, t⟩ := seq_of hS1 e2
          exact ⟨_, vs, rfl, hv, h1 ρ1 H1 _ .refl hS1 (rit_enum hn)⟩
      · exact h1.elim
    · exact h1.elim⟩
/-- zip(list, list) -/
def zipL : List PV → List PV → List PV
  | x :: r, y :: s => .tup [x, y] :: zipL r s
  | _, _ => []
theorem zipL_get {x : PV} : ∀ {xs ys : List PV} {i : Nat}, (zipL xs ys)[i]? = some x → ∃ a b, xs[i]? = some a ∧ ys[i]? = some b ∧ x = .tup [a, b]
  | [], _, _, h => by simp [zipL] at h
  | _ :: _, [], _, h => by simp [zipL] at h
  | a :: r, b :: s, 0, h => by simp [zipL] at h; exact ⟨a, b, by simp, by simp, h.symm⟩
  | a :: r, b :: s, i + 1, h => by
    unfold zipL at h
    obtain ⟨c, d, h1, h2, h3⟩ := zipL_get (xs := r) (ys := s) (i := i) (by simpa using h)
    exact ⟨c, d, by simpa using h1, by simpa using h2, h3⟩
theorem zipL_len : ∀ {xs ys : List PV}, (zipL xs ys).length = min xs.length ys.length
  | [], _ => by simp [zipL]
  | _ :: _, [] => by simp [zipL]
  | _ :: r, _ :: s => by
    have := zipL_len (xs := r) (ys := s)
    simp only [zipL, List.length_cons, this]; omega
def iZipM (a b : ME) : MI := fun ls S => (a ls S).bind fun w S1 => (b ls S1).bind fun v S2 => match w, v with
  | .loc n, .loc k => (match seqAt S2 n, seqAt S2 k with
    | some xs, some ys => .ok ⟨zipL xs ys, fun i S => isSeq n xs i S && isSeq k ys i S⟩ S2
    | _, _ => .bad)
  | _, _ => .bad
theorem rit_zip {K : PySem.W.Frag} {ρ : Nat → Addr} {N : Nat} {H : Hp} {xs ys : List PV} {n k : Nat} (hn : n < N) (hk : k < N) : RIt K ρ N H ⟨zipL xs ys, fun i S => isSeq n xs i S && isSeq k ys i S⟩ (Itz K (ρ n) (ρ k)) := by
  intro ρ' S' H' e hS
  have en : ρ' n = ρ n := e.2.1 n hn
  have ek : ρ' k = ρ k := e.2.1 k hk
  have two : (isSeq n xs 0 S' && isSeq k ys 0 S') = true → ∃ vs us, SqL K H' (ρ n) vs ∧ RWs K ρ' S'.length H' xs vs ∧ SqL K H' (ρ k) us ∧ RWs K ρ' S'.length H' ys us := fun hc => by
    rw [Bool.and_eq_true] at hc
    obtain ⟨vs, hv, t⟩ := seq_of hS (isSeq_get hc.1)
    obtain ⟨us, hu, t'⟩ := seq_of hS (isSeq_get hc.2)
    rw [en] at hv
    rw [ek] at hu
    exact ⟨vs, us, hv, t, hu, t'⟩
  refine ⟨fun i x hx hc => ?_, fun hc => ?_⟩
  · obtain ⟨vs, us, hv, t, hu, t'⟩ := two hc
    obtain ⟨a, b, ha, hb, rfl⟩ := zipL_get hx
    obtain ⟨v, hv2, r⟩ := t.get ha
    obtain ⟨u, hu2, q⟩ := t'.get hb
    have w := walk_zip (K := K) (a := ρ n) (b := ρ k) (xs := vs) (ys := us) rfl
    have hi := (List.getElem?_eq_some_iff.mp hv2).1
    have hi' := (List.getElem?_eq_some_iff.mp hu2).1
    have hlt : i < min vs.length us.length := by omega
    refine ⟨w.goes i H' hlt ⟨hv, hu⟩, fun v' H2 y => ?_⟩
    obtain ⟨T, x', y', rfl, hT, rfl, q1, q2⟩ := w.yields i H' v' H2 hlt ⟨hv, hu⟩ y
    have q1 : vs[i]? = some x' := q1
    have q2 : us[i]? = some y' := q2
    rw [hv2] at q1; cases q1
    rw [hu2] at q2; cases q2
    exact pair_new hS hT r q
  · obtain ⟨vs, us, hv, t, hu, t'⟩ := two hc
    have w := walk_zip (K := K) (a := ρ n) (b := ρ k) (xs := vs) (ys := us) rfl
    show (Itz K (ρ n) (ρ k)).stop (zipL xs ys).length H'
    rw [zipL_len, t.length, t'.length]; exact w.stops H' ⟨hv, hu⟩
theorem ii_zip {elts : List Expr} {kk : Nat} {tpos : Pos} (hm : X.mg "zip" = none) (he : IE X Wx e m) (he2 : IE X Wx e2 m2) (hg : Gl X "zip" := by rfl) (hst2 : starEach [e2] X.env = (false, eval e2 X.env) :: starEach [] X.env := by rfl)
    (hst : starEach [e, e2] X.env = (false, eval e X.env) :: starEach [e2] X.env := by rfl) (hpl : (backTo pos (starEach [e2] X.env)).any (·.1) = false := by rfl) :
    II X Wx (.Tuple elts kk tpos) (.Call (.Name "zip" p) [e, e2] [] pos) (iZipM m m2) :=
  PIi (pi_zip hg hm (pa_cons he (pa_cons he2 pa_nil hst2) hst) hst hpl) fun σ H R ⟨ρ, S, ls, hS, hL, h⟩ => ⟨ρ, S, ls, hS, hL, (Post.bind (R := RW) h).imp fun x H1 ⟨ρ1, S1, w1, e1, hS1, r1, h1⟩ =>
    ⟨ρ1, S1, ls, hS1, hL.ext e1, (Post.bind (R := RW) h1).imp fun y H2 ⟨ρ2, S2, w2, e2, hS2, r2, h2⟩ => by
    have r1 := r1.ext e2
    split at h2
    · split at h2
      · rename_i xs ys a b
        cases r1 with
        | loc n hn => cases r2 with
          | loc k hk =>
            obtain ⟨vs, hv, t⟩ := seq_of hS2 a
            obtain ⟨us, hu, t'⟩ := seq_of hS2 b
            exact ⟨_, _, vs, us, rfl, hv, hu, h2 ρ2 H2 _ .refl hS2 (rit_zip hn hk)⟩
      · exact h2.elim
    · exact h2.elim⟩⟩
/-- reversed(list) -/
def iRevM (m : ME) : MI := fun ls S => (m ls S).bind fun w S1 => match w with
  | .loc n => (match seqAt S1 n with
    | some xs => .ok ⟨xs.reverse, isSeq n xs⟩ S1
    | none => .bad)
  | _ => .bad
theorem rit_rev {K : PySem.W.Frag} {ρ : Nat → Addr} {N : Nat} {H : Hp} {xs : List PV} {n : Nat} (hn : n < N) : RIt K ρ N H ⟨xs.reverse, isSeq n xs⟩ (Itv K (ρ n) xs.length) := by
  intro ρ' S' H' e hS
  have en : ρ' n = ρ n := e.2.1 n hn
  refine ⟨fun i x hx hc => ?_, fun hc => ?_⟩
  · obtain ⟨vs, hv, t⟩ := seq_of hS (isSeq_get (i := 0) hc)
    rw [en] at hv
    have hi : i < xs.length := by have := (List.getElem?_eq_some_iff.mp hx).1; simpa using this
    rw [List.getElem?_reverse hi] at hx
    obtain ⟨v, hv2, r⟩ := t.get hx
    have w := walk_rev (K := K) (a := ρ n) (xs := vs)
    have hl := t.length
    rw [hl] at hi hv2 ⊢
    refine ⟨w.goes i H' hi hv, fun v' H2 y => ?_⟩
    obtain ⟨e1, q2⟩ := w.yields i H' v' H2 hi hv y
    subst e1
    rw [hv2] at q2; cases q2
    exact ⟨ρ', .refl, hS, r⟩
  · obtain ⟨vs, hv, t⟩ := seq_of hS (isSeq_get (i := 0) hc)
    rw [en] at hv
    have w := walk_rev (K := K) (a := ρ n) (xs := vs)
    show (Itv K (ρ n) xs.length).stop xs.reverse.length H'
    rw [List.length_reverse, t.length]; exact w.stops H' hv
theorem ii_rev (hm : X.mg "reversed" = none) (he : IE X Wx e m) (hg : Gl X "reversed" := by rfl) (hst : starEach [e] X.env = (false, eval e X.env) :: starEach [] X.env := by rfl) (hs : starEach [e] X.env = [(false, eval e X.env)] := by rfl) :
    II X Wx tg (.Call (.Name "reversed" p) [e] [] pos) (iRevM m) :=
  PIi (pi_reversed hg hm (pa_cons he pa_nil hst) hs) fun σ H R ⟨ρ, S, ls, hS, hL, h⟩ => ⟨ρ, S, ls, hS, hL, (Post.bind (R := RW) h).imp fun x H1 ⟨ρ1, S1, w1, e1, hS1, r1, h1⟩ => by
    split at h1
    · split at h1
      · rename_i xs e2
        cases r1 with
        | loc n hn =>
          obtain ⟨vs, hv, t⟩ := seq_of hS1 e2
          refine ⟨_, vs, rfl, hv, h1 ρ1 H1 _ .refl hS1 ?_⟩
          rw [← t.length]
          exact rit_rev hn
      · exact h1.elim
    · exact h1.elim⟩
end

/-! ### for -/
def forGo (chk : Nat → Sto → Bool) (g : MG) (body : MS) : Nat → List PV → MS
  | i, [], ls, S => if chk i S = true then .nx ls S else .bad
  | i, x :: r, ls, S => if chk i S = true then (match g x ls with
    | none => .bad
    | some ls1 => (match body ls1 S with
      | .nx ls2 S2 => forGo chk g body (i + 1) r ls2 S2
      | .ct ls2 S2 => forGo chk g body (i + 1) r ls2 S2
      | .bk ls2 S2 => .nx ls2 S2
      | q => q)) else .bad
def sFor (it : MI) (g : MG) (body : MS) : MS := fun ls S => (it ls S).then ls fun t S1 => forGo t.chk g body 0 t.items ls S1
section
variable {X : Cx} {Wx : WX} {tg e : Expr} {mi : MI} {g : MG} {mb : MS} {pos : Pos} {body : List Stmt} {sl : List Nat}
theorem is_for (hp : PassesOwn (model X.prog X.w) X.A X.env X.xe) (hc : X.calm = true) (hi : II X Wx tg e mi) (hg : IG X tg g sl) (hb : ISs X Wx body mb) (hs : ∀ x, foldedSetIterable e X.env x = pure x := by intro _; rfl) :
    IS X Wx (.For tg e body [] pos) (sFor mi g mb) :=
  PSi (ps_for hp hc hi hg hb hs) fun D σ H ⟨ρ, S, ls, hS, hL, h⟩ => ⟨ρ, S, ls, hS, hL, (Post.then (R := RItF) hL h).imp fun J H1 ⟨ρ1, S1, t, e1, hS1, r1, h1⟩ => by
    have l1 := hL.ext e1
    clear h hS hL
    refine ⟨fun i m σ H => m = t.items.length - i ∧ i ≤ t.items.length ∧ ∃ ρ S ls, Ext X.K ρ1 S1.length H1 ρ S.length H ∧ RSt X.K ρ H S ∧ RL X.K ρ S.length H ls σ ∧ PostS X.K ρ S.length H Wx (forGo t.chk g mb i (t.items.drop i) ls S) D,
      ⟨_, rfl, Nat.zero_le _, ρ1, S1, ls, .refl, hS1, l1, by rw [List.drop_zero]; exact h1⟩, ?_⟩
    rintro i m σ2 H2 ⟨rfl, hi, ρ2, S2, ls2, e2, hS2, l2, h2⟩
    obtain ⟨w1, w2⟩ := r1 ρ2 S2 H2 e2 hS2
    by_cases hlt : i < t.items.length
    · rw [List.drop_eq_getElem_cons hlt] at h2
      unfold forGo at h2
      split at h2
      · rename_i hc
        obtain ⟨go, yl⟩ := w1 i _ (List.getElem?_eq_getElem hlt) hc
        refine .inr ⟨go, fun σ3 H3 => ∃ ρ S ls, Ext X.K ρ1 S1.length H1 ρ S.length H3 ∧ RSt X.K ρ H3 S ∧ RL X.K ρ S.length H3 ls σ3 ∧ PostS X.K ρ S.length H3 Wx (forGo t.chk g mb (i + 1) (t.items.drop (i + 1)) ls S) D,
          fun σ' H' q => ⟨_, by omega, rfl, hlt, q⟩, fun v H3 y => ?_⟩
        obtain ⟨ρ3, e3, hS3, r3⟩ := yl v H3 y
        split at h2
        · exact h2.elim
        · rename_i ls3 eg
          refine ⟨ρ3, S2, ls2, _, ls3, hS3, l2.ext e3, r3, eg, fun σ4 _ l4 => ⟨ρ3, S2, ls3, hS3, l4, ?_⟩⟩
          have h3 := PostS.ext e3 h2
          cases hm : mb ls3 S2 with
          | nx a S' => rw [hm] at h3; exact fun ρ4 H4 σ5 e4 s4 l5 => ⟨ρ4, S', a, (e2.trans e3).trans e4, s4, l5, PostS.ext e4 h3⟩
          | ct a S' => rw [hm] at h3; exact fun ρ4 H4 σ5 e4 s4 l5 => ⟨ρ4, S', a, (e2.trans e3).trans e4, s4, l5, PostS.ext e4 h3⟩
          | bk a S' => rw [hm] at h3; exact h3
          | rt a S' => rw [hm] at h3; exact h3
          | exc a b S' => rw [hm] at h3; exact h3
          | bad => rw [hm] at h3; exact h3
      · exact h2.elim
    · have ei : i = t.items.length := by omega
      subst ei
      rw [List.drop_length] at h2
      unfold forGo at h2
      split at h2
      · rename_i hc
        exact .inl ⟨w2 hc, h2 ρ2 H2 σ2 .refl hS2 l2⟩
      · exact h2.elim⟩
end

/-! ### [elt for target in it if test] -/
def lcGo (chk : Nat → Sto → Bool) (g : MG) (tt : MT) (te : ME) (vs : List Nat) (D : Nat) (ls : Ls) : Nat → List PV → Sto → Out PV
  | i, [], S => if chk i S = true then .ok (.loc D) S else .bad
  | i, x :: r, S => if chk i S = true then (match g x (wipeL ls vs) with
    | none => .bad
    | some ls1 => (match tt ls1 S with
      | .ok true S1 => (match te ls1 S1 with
        | .ok w S2 => (match lstAt S2 D with
          | some acc => if acc.length < lim then lcGo chk g tt te vs D ls (i + 1) r (S2.set D (.lst (acc ++ [w]))) else .bad
          | none => .bad)
        | _ => .bad)
      | .ok false S1 => lcGo chk g tt te vs D ls (i + 1) r S1
      | _ => .bad)) else .bad
def eLc (it : MI) (g : MG) (tt : MT) (te : ME) (vs : List Nat) : ME := fun ls S => (it ls S).bind fun t S1 => lcGo t.chk g tt te vs S1.length ls 0 t.items (S1 ++ [.lst []])
def tYesM : MT := fun _ S => .ok true S
abbrev ITs (X : Cx) (ifs : List Expr) (m : MT) : Prop := PTs X ifs (tT X.K (fun _ _ _ _ => False) m)
theorem its_nil {X : Cx} : ITs X [] tYesM := ⟨fun pins s σ H Q I ⟨ρ, S, ls, hS, hL, h⟩ => pts_nil.run pins s σ H Q I (h ρ H true .refl hS rfl)⟩
theorem its_one {X : Cx} {c : Expr} {m : MT} (h : IT X (fun _ _ _ _ => False) c m) : ITs X [c] m := pts_one h
section
variable {X : Cx} {Wx : WX} {elt tg iter : Expr} {ifs : List Expr} {scope : Scope} {own : List (Str × Nat)} {pos : Pos} {mi : MI} {g : MG} {mt : MT} {me : ME} {sl : List Nat}
theorem lc_in {σ : L2.St} {H : Hp} {Q : VK} (hsl : ∀ j ∈ sl, j ∈ own.map (·.2)) (h : tE X.K Wx (eLc mi g mt me (own.map (·.2))) σ H Q) :
    tLc (tI X.K Wx mi) (tGm X.K g sl) (tT X.K (fun _ _ _ _ => False) mt) (tE X.K (fun _ _ _ _ => False) me) (own.map (·.2)) σ H Q := by
  obtain ⟨ρ, S, ls, hS, hL, h⟩ := h
  refine ⟨ρ, S, ls, hS, hL, (Post.bind (R := RItF) h).imp ?_⟩
  rintro J H1 ⟨ρ1, S1, t, e1, hS1, r1, h1⟩ D hD
  have l1 := hL.ext e1
  clear h hS hL
  have eD : Ext X.K ρ1 S1.length H1 (grow ρ1 S1.length D) (S1 ++ [OB.lst []]).length (upd H1 D (.lst [])) := by
    rw [List.length_append, List.length_singleton]; exact ext_new hD
  have hS2 : RSt X.K (grow ρ1 S1.length D) (upd H1 D (.lst [])) (S1 ++ [OB.lst []]) := hS1.new hD rfl ⟨[], upd_same, .nil⟩
  refine ⟨fun i m H => m = t.items.length - i ∧ i ≤ t.items.length ∧ ∃ ρ S, Ext X.K (grow ρ1 S1.length D) (S1 ++ [OB.lst []]).length (upd H1 D (.lst [])) ρ S.length H ∧ RSt X.K ρ H S ∧
    Post RW X.K ρ S.length H (fun c d H' => Wx c d σ H') (lcGo t.chk g mt me (own.map (·.2)) S1.length ls i (t.items.drop i) S) Q,
    ⟨_, rfl, Nat.zero_le _, _, _, .refl, hS2, by rw [List.drop_zero]; exact Post.ext eD h1⟩, ?_⟩
  rintro i m H2 ⟨rfl, hi, ρ2, S2, e2, hS2', h2⟩
  have eAll := eD.trans e2
  have aD : ρ2 S1.length = D := by rw [e2.2.1 S1.length (by rw [List.length_append, List.length_singleton]; exact Nat.lt_succ_self _), grow_new]
  obtain ⟨w1, w2⟩ := r1 ρ2 S2 H2 eAll hS2'
  by_cases hlt : i < t.items.length
  · rw [List.drop_eq_getElem_cons hlt] at h2
    unfold lcGo at h2
    split at h2
    · rename_i hc
      obtain ⟨go, yl⟩ := w1 i _ (List.getElem?_eq_getElem hlt) hc
      refine .inr ⟨go, fun H3 => ∃ ρ S, Ext X.K (grow ρ1 S1.length D) (S1 ++ [OB.lst []]).length (upd H1 D (.lst [])) ρ S.length H3 ∧ RSt X.K ρ H3 S ∧
        Post RW X.K ρ S.length H3 (fun c d H' => Wx c d σ H') (lcGo t.chk g mt me (own.map (·.2)) S1.length ls (i + 1) (t.items.drop (i + 1)) S) Q, fun H' q => ⟨_, by omega, rfl, hlt, q⟩, fun v H3 y => ?_⟩
      obtain ⟨ρ3, e3, hS3, r3⟩ := yl v H3 y
      split at h2
      · exact h2.elim
      · rename_i ls1 eg
        refine ⟨ρ3, S2, wipeL ls (own.map (·.2)), _, ls1, hS3, RL.wipe ((l1.ext eAll).ext e3) _, r3, eg, fun σ4 o4 l4 => ⟨o4.wipe hsl, ρ3, S2, ls1, hS3, l4, ?_⟩⟩
        have h3 := Post.ext e3 h2
        cases hm : mt ls1 S2 with
        | exc a b => rw [hm] at h3; exact h3.elim
        | bad => rw [hm] at h3; exact h3.elim
        | ok k S5 =>
          rw [hm] at h3
          intro ρ5 H5 k' e5 s5 q5
          have q5 : k = k' := q5
          subst k'
          cases k with
          | false =>
            rw [if_neg Bool.false_ne_true]
            exact ⟨ρ5, S5, (e2.trans e3).trans e5, s5, Post.ext e5 h3⟩
          | true =>
            rw [if_pos rfl]
            refine ⟨ρ5, S5, ls1, s5, l4.ext e5, ?_⟩
            dsimp only at h3
            cases hm2 : me ls1 S5 with
            | exc a b => rw [hm2] at h3; exact h3.elim
            | bad => rw [hm2] at h3; exact h3.elim
            | ok w S6 =>
              rw [hm2] at h3
              intro ρ6 H6 v6 e6 s6 r6
              dsimp only at h3
              split at h3
              · rename_i acc ea
                split at h3
                · rename_i hz
                  obtain ⟨vs, hv, tv⟩ := lst_of s6 ea
                  have aD6 : ρ6 S1.length = D := by rw [(e3.trans (e5.trans e6)).2.1 S1.length (Nat.lt_of_lt_of_le (by rw [List.length_append, List.length_singleton]; exact Nat.lt_succ_self _) e2.1), aD]
                  obtain ⟨s7, e7⟩ := set_lst s6 ea (tv.app (.cons r6 .nil))
                  rw [aD6] at hv s7 e7
                  exact ⟨vs, hv, by rw [← tv.length]; exact lim_lt hz, ρ6, _, ((e2.trans (e3.trans (e5.trans e6))).trans e7), s7, Post.ext ((e5.trans e6).trans e7) h3⟩
                · exact h3.elim
              · exact h3.elim
    · exact h2.elim
  · have ei : i = t.items.length := by omega
    subst ei
    rw [List.drop_length] at h2
    unfold lcGo at h2
    split at h2
    · rename_i hc
      refine .inl ⟨w2 hc, h2 ρ2 H2 _ .refl hS2' ?_⟩
      have q : RW X.K ρ2 S2.length H2 (.loc S1.length) (.ref (ρ2 S1.length)) := .loc _ (Nat.lt_of_lt_of_le (by rw [List.length_append, List.length_singleton]; exact Nat.lt_succ_self _) e2.1)
      rw [aD] at q
      exact q
    · exact h2.elim
theorem ie_lc {vs : List Nat} (own : List (Str × Nat)) (hvs : own.map (·.2) = vs) (hc : X.calm = true) (hN : X.N.Nodup) (hi : II X Wx tg iter mi) (ok : BlkOk X.N X.env.scope scope own) (hsl : ∀ j ∈ sl, j ∈ own.map (·.2))
    (hg : ∀ (s : Shared) (H : Hp) (C : Addr) (cl : List (Str × Addr)) (fp : List Addr), IG (X.blk s H scope (compEnvC scope cl C X.env) fp) tg g sl)
    (ht : ∀ (s : Shared) (H : Hp) (C : Addr) (cl : List (Str × Addr)) (fp : List Addr), ITs (X.blk s H scope (compEnvC scope cl C X.env) fp) ifs mt)
    (he : ∀ (s : Shared) (H : Hp) (C : Addr) (cl : List (Str × Addr)) (fp : List Addr), IE (X.blk s H scope (compEnvC scope cl C X.env) fp) (fun _ _ _ _ => False) elt me)
    (hs : ∀ x, foldedSetIterable iter X.env x = pure x := by intro _; rfl) : IE X Wx (.ListComp elt [⟨tg, iter, ifs, 0⟩] scope pos) (eLc mi g mt me vs) := by
  subst hvs
  exact PEi (pe_lc hc hN hi ok hg ht he hs) fun σ H Q h => lc_in hsl h
/-- name = [..] -/
theorem is_setLc {vs : List Nat} (own : List (Str × Nat)) (hvs : own.map (·.2) = vs) {i : Nat} {y : Str} {py spos : Pos} (hc : X.calm = true) (hN : X.N.Nodup) (hy : X.N[i]? = some y) (hyl : X.env.scope.names.lookup y = some .local) (hsw : swapsWith (.ListComp elt [⟨tg, iter, ifs, 0⟩] scope pos) (some (.Name y py)) spos.line X.env = pure true)
    (hi : II X Wx tg iter mi) (ok : BlkOk X.N X.env.scope scope own) (hsl : ∀ j ∈ sl, j ∈ own.map (·.2))
    (hg : ∀ (s : Shared) (H : Hp) (C : Addr) (cl : List (Str × Addr)) (fp : List Addr), IG (X.blk s H scope (compEnvC scope cl C X.env) fp) tg g sl)
    (ht : ∀ (s : Shared) (H : Hp) (C : Addr) (cl : List (Str × Addr)) (fp : List Addr), ITs (X.blk s H scope (compEnvC scope cl C X.env) fp) ifs mt)
    (he : ∀ (s : Shared) (H : Hp) (C : Addr) (cl : List (Str × Addr)) (fp : List Addr), IE (X.blk s H scope (compEnvC scope cl C X.env) fp) (fun _ _ _ _ => False) elt me)
    (hs : ∀ x, foldedSetIterable iter X.env x = pure x := by intro _; rfl) : IS X Wx (.Assign [.Name y py] (.ListComp elt [⟨tg, iter, ifs, 0⟩] scope pos) spos) (sSet i (eLc mi g mt me vs)) := by
  subst hvs
  exact PSi (ps_setLc hc hN hy hyl hsw hi ok hg ht he hs) fun D σ H ⟨ρ, S, ls, hS, hL, h⟩ => lc_in (Q := fun x H1 => gName i x σ H1 D.nx) hsl
    ⟨ρ, S, ls, hS, hL, (Post.then (R := RW) hL h).imp fun x H1 ⟨ρ1, S1, w1, e1, hS1, r1, h1⟩ => h1 ρ1 H1 _ .refl hS1 (RL.set r1 _ (hL.ext e1))⟩
end
end GL

set_option Elab.async false
set_option linter.all false
set_option maxRecDepth 100000
set_option maxHeartbeats 1000000
namespace GL
open PySem PySem.Spec PyProof.Rows L2

/-! ### defs -/
abbrev MF := List PV → Sto → Out PV
def fnOf (np n : Nat) (m : MS) : MF := fun ws S => if ws.length = np then (match m (ws.map some ++ List.replicate (n - np) none) S with
  | .nx _ S' => .ok .non S'
  | .rt w S' => .ok w S'
  | .exc e _ S' => .exc e S'
  | _ => .bad) else .bad
def spI (K : PySem.W.Frag) (n : Nat) (fn : MF) : Sp := fun vs H Q E => ∃ ρ S ws, RSt K ρ H S ∧ RWs K ρ S.length H ws vs ∧ ws.length = n ∧ Post RW K ρ S.length H E (fn ws S) Q
abbrev topW (E : XK) : WX := fun cls d _ H => E cls d H
abbrev FI (P : Program) (w : World) (K : PySem.W.Frag) (mg : Str → Option Value) (base : Heap) (k : Nat) (f : Addr) (fd : FuncData) (ps : List Str) (fn : MF) : Prop :=
  FnOk P w K mg base (L2.CX P w) k f fd ps (spI K ps.length fn)
theorem RL.start {K : PySem.W.Frag} {ρ : Nat → Addr} {N : Nat} {H : Hp} (n : Nat) : ∀ {ws : List PV} {vs : List V}, RWs K ρ N H ws vs → RL K ρ N H (ws.map some ++ List.replicate n none) (vs.map some ++ List.replicate n none)
  | _, _, .nil => by
    induction n with
    | zero => exact .nil
    | succ n ih => exact .no ih
  | _, _, .cons r t => .yes r (RL.start n t)
section
variable {P : Program} {w : World} {K : PySem.W.Frag} {mg : Str → Option Value} {base : Heap} {x qual : Str} {params : Arguments} {body : List Stmt} {scope : Scope} {dvs : List V} {kws : List (Str × V)} {f : Addr} {fd : FuncData}
theorem fi_of {N ps : List Str} {k : Nat} {m : MS} (F : FunD K x qual params body scope dvs kws f fd) (S : FnScope N ps scope)
    (hb : ∀ (cdv : Value) (A : Around) (outer : List Env) (s : Shared) (H : Hp) (E : XK), Room k (A.deeper (envOfC qual scope s.heap.objs.size f cdv)) →
      ISs (cxOf (L2.CX P w) P w K mg base N qual scope f cdv A outer s H E) (topW E) body m) : FI P w K mg base (k + 1) f fd ps (fnOf ps.length N.length m) := by
  refine F.ok S (fun vs H Q E h => ?_) (fun cdv A outer s H vs Q E hr h => ⟨_, hb cdv A outer s H E hr, ?_⟩)
  · obtain ⟨ρ, S, ws, _, r, e, _⟩ := h
    rw [← r.length]; exact e
  · obtain ⟨ρ, S, ws, hS, r, e, h⟩ := h
    unfold fnOf at h
    rw [if_pos e] at h
    have el : L2.start N vs = vs.map some ++ List.replicate (N.length - ps.length) none := by
      unfold L2.start
      rw [← r.length, e]
    refine ⟨ρ, S, ws.map some ++ List.replicate (N.length - ps.length) none, hS, by rw [el]; exact RL.start (N.length - ps.length) r, ?_⟩
    cases hm : m (ws.map some ++ List.replicate (N.length - ps.length) none) S with
    | nx a S' => rw [hm] at h; exact fun ρ' H' σ' e' s' _ => h ρ' H' _ e' s' .non
    | rt a S' => rw [hm] at h; exact fun ρ' H' v e' s' r' => h ρ' H' v e' s' r'
    | exc a b S' => rw [hm] at h; exact fun ρ' H' σ' c d e' s' _ q => h ρ' H' c d e' s' q
    | bk a S' => rw [hm] at h; exact h.elim
    | ct a S' => rw [hm] at h; exact h.elim
    | bad => rw [hm] at h; exact h.elim
end

/-! ### calls of defs -/
def eCall (fn : MF) (dws : List PV) (args : MA) : ME := fun ls S => (args ls S).bind fun ws S1 => fn (ws ++ dws) S1
/-- constants -/
def GVals (K : PySem.W.Frag) : List V → List PV → Prop
  | [], [] => True
  | v :: vs, w :: ws => GVal K v w ∧ GVals K vs ws
  | _, _ => False
theorem GVals.rel {K : PySem.W.Frag} {ρ : Nat → Addr} {N : Nat} {H : Hp} : ∀ {vs : List V} {ws : List PV}, GVals K vs ws → RWs K ρ N H ws vs
  | [], [], _ => .nil
  | _ :: _, _ :: _, h => .cons (h.1 _ _ _) (GVals.rel h.2)
  | [], _ :: _, h => h.elim
  | _ :: _, [], h => h.elim
section
variable {X : Cx} {Wx : WX} {k : Nat} {f C : Addr} {fd : FuncData} {ps : List Str} {fn : MF} {dvs : List V} {ds : List Value} {dws : List PV} {x m : Str} {p pos apos : Pos} {e o : Expr} {es : List Expr} {mo : ME} {ma : MA} {np N : Nat} {mb : MS}
theorem sp_in {σ : L2.St} {ρ : Nat → Addr} {S : Sto} {H : Hp} {ws : List PV} {vs : List V} {Ex : XK} {Q : VK} (hS : RSt X.K ρ H S) (r : RWs X.K ρ S.length H ws vs) (g : GVals X.K dvs dws)
    (h : Post RW X.K ρ S.length H Ex (fnOf np N mb (ws ++ dws) S) Q) : spI X.K np (fnOf np N mb) (vs ++ dvs) H Q Ex := by
  refine ⟨ρ, S, ws ++ dws, hS, r.app g.rel, ?_, h⟩
  unfold fnOf at h
  split at h
  · assumption
  · exact h.elim
theorem ie_call (tk : Takes X Wx) (F : FI X.prog X.w X.K X.mg X.base k f fd ps (fnOf np N mb)) (hnp : ps.length = np) (hr : Room k X.A) (hm : X.mg x = some (.ref f)) (hk : PySem.W.keepIn X.K (.ref f) = true) (hb : Binds X.K fd ps ds) (hd : Vals dvs ds) (g : GVals X.K dvs dws)
    (ha : IA X Wx (e :: es) ma) (hg : Gl X x := by rfl) (hdb : (x == ("__debug__" : Str)) = false := by decide) (he : starEach (e :: es) X.env = (false, eval e X.env) :: starEach es X.env := by rfl) (hpl : (backTo pos (starEach es X.env)).any (·.1) = false := by rfl) :
    IE X Wx (.Call (.Name x p) (e :: es) [] pos) (eCall (fnOf np N mb) dws ma) :=
  PEi (pe_callSD (E := WE Wx) F hr hg hm hk hb hd (passAt tk) ha hdb he hpl) fun σ H Q ⟨ρ, S, ls, hS, hL, h⟩ => ⟨ρ, S, ls, hS, hL, (Post.bind (R := RWs) h).imp fun vs H1 ⟨ρ1, S1, ws, e1, hS1, r1, h1⟩ => by
    rw [hnp]; exact sp_in (σ := σ) hS1 r1 g h1⟩
/-- f() -/
theorem pe_call0D {E : L2.St → XK} {sp : Sp} (F : FnOk X.prog X.w X.K X.mg X.base (L2.CX X.prog X.w) k f fd ps sp) (hr : Room k X.A) (hg : Gl X x) (hm : X.mg x = some (.ref f)) (hk : PySem.W.keepIn X.K (.ref f) = true) (hb : Binds X.K fd ps ds) (hd : Vals dvs ds)
    (hx : ∀ σ, PassesAt (L2.CX X.prog X.w) X σ (E σ)) (hdb : (x == ("__debug__" : Str)) = false := by decide) : PE X (.Call (.Name x p) [] [] pos) (tCallSD sp dvs E tNil) := by
  constructor
  intro pins s σ H Q I h
  apply wpAny_Call_Name_kw
  apply ld_glob I hg hm _ hdb
  apply PySem.W.callWith_K0 I.kIn hk
  exact run_fnSD (us := []) F hr hb hd (hx σ) I .nil h
theorem ie_call0 (tk : Takes X Wx) (F : FI X.prog X.w X.K X.mg X.base k f fd ps (fnOf np N mb)) (hnp : ps.length = np) (hr : Room k X.A) (hm : X.mg x = some (.ref f)) (hk : PySem.W.keepIn X.K (.ref f) = true) (hb : Binds X.K fd ps ds) (hd : Vals dvs ds) (g : GVals X.K dvs dws)
    (hg : Gl X x := by rfl) (hdb : (x == ("__debug__" : Str)) = false := by decide) : IE X Wx (.Call (.Name x p) [] [] pos) (eCall (fnOf np N mb) dws aNil) :=
  PEi (pe_call0D (E := WE Wx) F hr hg hm hk hb hd (passAt tk) hdb) fun σ H Q ⟨ρ, S, ls, hS, hL, h⟩ => by
    rw [hnp]; exact sp_in (σ := σ) (ws := []) hS .nil g h

/-! ### methods -/
def lookN (f : Nm) : List (Nm × PV) → Option PV
  | [] => none
  | (g, w) :: r => if g = f then some w else lookN f r
def putN (f : Nm) (w : PV) : List (Nm × PV) → List (Nm × PV)
  | [] => [(f, w)]
  | (g, v) :: r => if g = f then (g, w) :: r else (g, v) :: putN f w r
theorem beq_toS {a b : Nm} : (toS a == toS b) = decide (a = b) := by
  by_cases h : a = b
  · subst h; simp
  · have : ¬ toS a = toS b := fun e => h (toS_inj e)
    simp [h, this]
theorem look_some {K : PySem.W.Frag} {ρ : Nat → Addr} {N : Nat} {H : Hp} {f : Nm} {w : PV} : ∀ {fs : List (Nm × PV)} {fs' : List (Str × V)}, RFs K ρ N H fs fs' → lookN f fs = some w → ∃ v, fs'.lookup (toS f) = some v ∧ RW K ρ N H w v
  | _, _, .nil, h => by cases h
  | _, _, .cons (f := g) r t, h => by
    unfold lookN at h
    rw [List.lookup_cons, beq_toS]
    split at h
    · rename_i e
      cases h
      subst e
      exact ⟨_, by simp, r⟩
    · rename_i e
      have : ¬ f = g := fun z => e z.symm
      simp only [decide_eq_false this]
      exact look_some t h
theorem look_none {K : PySem.W.Frag} {ρ : Nat → Addr} {N : Nat} {H : Hp} {f : Nm} : ∀ {fs : List (Nm × PV)} {fs' : List (Str × V)}, RFs K ρ N H fs fs' → lookN f fs = none → fs'.lookup (toS f) = none
  | _, _, .nil, h => rfl
  | _, _, .cons (f := g) r t, h => by
    unfold lookN at h
    rw [List.lookup_cons, beq_toS]
    split at h
    · cases h
    · rename_i e
      have : ¬ f = g := fun z => e z.symm
      simp only [decide_eq_false this]
      exact look_none t h
theorem RFs.length {K : PySem.W.Frag} {ρ : Nat → Addr} {N : Nat} {H : Hp} : ∀ {fs : List (Nm × PV)} {fs' : List (Str × V)}, RFs K ρ N H fs fs' → fs.length = fs'.length
  | _, _, .nil => rfl
  | _, _, .cons _ t => by simp [RFs.length t]
def insAt (S : Sto) (w : PV) : Option (Nat × Nm × List (Nm × PV)) := match w with
  | .loc n => (match S[n]? with
    | some (.ins C fs) => some (n, C, fs)
    | _ => none)
  | _ => none
theorem insAt_get {S : Sto} {w : PV} {n : Nat} {C : Nm} {fs : List (Nm × PV)} (h : insAt S w = some (n, C, fs)) : w = .loc n ∧ S[n]? = some (.ins C fs) := by
  unfold insAt at h
  split at h
  · split at h
    · rename_i e; cases h; exact ⟨rfl, e⟩
    · cases h
  · cases h
theorem ins_of {K : PySem.W.Frag} {ρ : Nat → Addr} {H : Hp} {S : Sto} {w : PV} {v : V} {n : Nat} {D : Nm} {fs : List (Nm × PV)} (hS : RSt K ρ H S) (r : RW K ρ S.length H w v) (h : insAt S w = some (n, D, fs)) :
    v = .ref (ρ n) ∧ ∃ dx fs', H (ρ n) = some (.ins (He.ga K (toS D)) dx fs') ∧ RFs K ρ S.length H fs fs' := by
  obtain ⟨rfl, e⟩ := insAt_get h
  cases r
  exact ⟨rfl, hS.at_ _ _ e⟩
/-- o.m(..): m of the class C -/
def eMeth (C m : Nm) (fn : MF) (dws : List PV) (o : ME) (args : MA) : ME := fun ls S => (o ls S).bind fun w S1 => match insAt S1 w with
  | some (_, D, fs) => if D = C then (match lookN m fs with
    | none => (args ls S1).bind fun ws S2 => fn (w :: (ws ++ dws)) S2
    | some _ => .bad) else .bad
  | none => .bad
def tMethD (C : Addr) (m : Str) (sp : Sp) (dvs : List V) (E : L2.St → XK) (ta : TE) (t : TA) : TE := fun σ H Q => ta σ H fun x H1 => ∃ a dx fs, x = .ref a ∧ H1 a = some (.ins C dx fs) ∧ fs.lookup m = none ∧
  t σ H1 fun vs H2 => sp (x :: (vs ++ dvs)) H2 Q (E σ)
theorem pe_methD {E : L2.St → XK} {sp : Sp} {ta : TE} {t : TA} {pl : Sem Bool} (he : PE X o ta) (c : Cls X.K C) (hm : Meth X.K C m f) (F : FnOk X.prog X.w X.K X.mg X.base (L2.CX X.prog X.w) k f fd ps sp) (hr : Room k X.A) (hb : Binds X.K fd ps ds) (hd : Vals dvs ds)
    (hx : ∀ σ, PassesAt (L2.CX X.prog X.w) X σ (E σ)) (ha : PA X (e :: es) t) (hst : starEach (e :: es) X.env = (false, eval e X.env) :: starEach es X.env := by rfl) (hpl : (backTo pos (starEach es X.env)).any (·.1) = false := by rfl)
    (ht : eval (.Call (.Attribute o m apos) (e :: es) [] pos) X.env = (do
      let ov ← eval o X.env
      standAt apos.atName
      let (f, first) ← holding [ov] (getMethod ov m pl)
      callWith pos f first (backTo pos (starEach (e :: es) X.env)) (backToKw pos (keywordEach [] X.env))) := by rfl) : PE X (.Call (.Attribute o m apos) (e :: es) [] pos) (tMethD C m sp dvs E ta t) := by
  constructor
  intro pins s σ H Q I h
  apply PySem.W.methodCall_KW (pl := pl) _ ht
  apply thn (he.run pins s σ H _ I h)
  rintro u s1 ⟨x, H1, I1, rx, a, dx, fs, rfl, ea, l, q⟩
  cases rx
  apply getmeth_ok I1 ea c hm l
  apply PySem.W.callWith_K (first := [.ref a]) (h₀ := X.base) I.ok.mod.kin hm.kp _ hst hpl
  apply thn (ha.run pos pins s1 σ H1 _ I1 q)
  rintro us s2 ⟨vs, H2, I2, r, q2⟩
  exact ⟨I2.kIn, run_fnSD (us := .ref a :: us) (vs := .ref a :: vs) F hr hb hd (hx σ) I2 (.cons rfl r) q2⟩
theorem pe_methD0 {E : L2.St → XK} {sp : Sp} {ta : TE} {pl : Sem Bool} (he : PE X o ta) (c : Cls X.K C) (hm : Meth X.K C m f) (F : FnOk X.prog X.w X.K X.mg X.base (L2.CX X.prog X.w) k f fd ps sp) (hr : Room k X.A) (hb : Binds X.K fd ps ds) (hd : Vals dvs ds)
    (hx : ∀ σ, PassesAt (L2.CX X.prog X.w) X σ (E σ))
    (ht : eval (.Call (.Attribute o m apos) [] [] pos) X.env = (do
      let ov ← eval o X.env
      standAt apos.atName
      let (f, first) ← holding [ov] (getMethod ov m pl)
      callWith pos f first (backTo pos (starEach [] X.env)) (backToKw pos (keywordEach [] X.env))) := by rfl) : PE X (.Call (.Attribute o m apos) [] [] pos) (tMethD C m sp dvs E ta tNil) := by
  constructor
  intro pins s σ H Q I h
  apply PySem.W.methodCall_KW (pl := pl) _ ht
  apply thn (he.run pins s σ H _ I h)
  rintro u s1 ⟨x, H1, I1, rx, a, dx, fs, rfl, ea, l, q⟩
  cases rx
  apply getmeth_ok I1 ea c hm l
  exact PySem.W.callWith_K0 (first := [.ref a]) I1.kIn hm.kp (run_fnSD (us := [.ref a]) (vs := [.ref a]) F hr hb hd (hx σ) I1 (.cons rfl .nil) q)
variable {cn mn : Nm}
theorem meth_in {σ : L2.St} {H : Hp} {Q : VK} {ta : TA} (g : GVals X.K dvs dws) (ha : ∀ σ H Q, tA X.K Wx ma σ H Q → ta σ H Q) (hC : C = He.ga X.K (toS cn)) (hmn : m = toS mn) (h : tE X.K Wx (eMeth cn mn (fnOf np N mb) dws mo ma) σ H Q) :
    tMethD C m (spI X.K np (fnOf np N mb)) dvs (WE Wx) (tE X.K Wx mo) ta σ H Q := by
  obtain ⟨ρ, S, ls, hS, hL, h⟩ := h
  refine ⟨ρ, S, ls, hS, hL, (Post.bind (R := RW) h).imp ?_⟩
  rintro x H1 ⟨ρ1, S1, w1, e1, hS1, r1, h1⟩
  split at h1
  · rename_i n D fs ei
    split at h1
    · rename_i eD
      subst eD
      split at h1
      · rename_i el
        obtain ⟨rfl, dx, fs', hH, rf⟩ := ins_of hS1 r1 ei
        refine ⟨_, dx, fs', rfl, by rw [hC]; exact hH, by rw [hmn]; exact look_none rf el, ha _ _ _ ⟨ρ1, S1, ls, hS1, hL.ext e1, (Post.bind (R := RWs) h1).imp ?_⟩⟩
        rintro vs H2 ⟨ρ2, S2, ws, e2, hS2, r2, h2⟩
        exact sp_in (σ := σ) (ws := w1 :: ws) (vs := _ :: vs) hS2 (.cons (r1.ext e2) r2) g h2
      · exact h1.elim
    · exact h1.elim
  · exact h1.elim
theorem ie_meth {pl : Sem Bool} (tk : Takes X Wx) (he : IE X Wx o mo) (hC : C = He.ga X.K (toS cn)) (c : Cls X.K C) (hm : Meth X.K C m f) (hmn : m = toS mn) (F : FI X.prog X.w X.K X.mg X.base k f fd ps (fnOf np N mb)) (hnp : ps.length = np) (hr : Room k X.A) (hb : Binds X.K fd ps ds) (hd : Vals dvs ds) (g : GVals X.K dvs dws)
    (ha : IA X Wx (e :: es) ma) (hst : starEach (e :: es) X.env = (false, eval e X.env) :: starEach es X.env := by rfl) (hpl : (backTo pos (starEach es X.env)).any (·.1) = false := by rfl)
    (ht : eval (.Call (.Attribute o m apos) (e :: es) [] pos) X.env = (do
      let ov ← eval o X.env
      standAt apos.atName
      let (f, first) ← holding [ov] (getMethod ov m pl)
      callWith pos f first (backTo pos (starEach (e :: es) X.env)) (backToKw pos (keywordEach [] X.env))) := by rfl) : IE X Wx (.Call (.Attribute o m apos) (e :: es) [] pos) (eMeth cn mn (fnOf np N mb) dws mo ma) :=
  PEi (pe_methD (E := WE Wx) he c hm F hr hb hd (passAt tk) ha hst hpl ht) fun σ H Q h => by rw [hnp]; exact meth_in g (fun _ _ _ q => q) hC hmn h
theorem ie_meth0 {pl : Sem Bool} (tk : Takes X Wx) (he : IE X Wx o mo) (hC : C = He.ga X.K (toS cn)) (c : Cls X.K C) (hm : Meth X.K C m f) (hmn : m = toS mn) (F : FI X.prog X.w X.K X.mg X.base k f fd ps (fnOf np N mb)) (hnp : ps.length = np) (hr : Room k X.A) (hb : Binds X.K fd ps ds) (hd : Vals dvs ds) (g : GVals X.K dvs dws)
    (ht : eval (.Call (.Attribute o m apos) [] [] pos) X.env = (do
      let ov ← eval o X.env
      standAt apos.atName
      let (f, first) ← holding [ov] (getMethod ov m pl)
      callWith pos f first (backTo pos (starEach [] X.env)) (backToKw pos (keywordEach [] X.env))) := by rfl) : IE X Wx (.Call (.Attribute o m apos) [] [] pos) (eMeth cn mn (fnOf np N mb) dws mo aNil) :=
  PEi (pe_methD0 (E := WE Wx) he c hm F hr hb hd (passAt tk) ht) fun σ H Q h => by
    rw [hnp]
    exact meth_in g (fun σ H Q ⟨ρ, S, ls, hS, hL, h⟩ => h ρ H _ .refl hS .nil) hC hmn h

/-! ### new instances -/
def eMake (C : Nm) (fn : MF) (dws : List PV) (args : MA) : ME := fun ls S => (args ls S).bind fun ws S1 => (fn (.loc S1.length :: (ws ++ dws)) (S1 ++ [.ins C []])).bind fun r S2 => match r with
  | .non => .ok (.loc S1.length) S2
  | _ => .bad
def tMakeD (C : Addr) (sp : Sp) (dvs : List V) (E : L2.St → XK) (t : TA) : TE := fun σ H Q => t σ H fun vs H1 => ∀ x dx, H1 x = none → H1 dx = none → dx ≠ x →
  sp (.ref x :: (vs ++ dvs)) (upd (upd H1 dx (.own x)) x (.ins C dx [])) (fun v H2 => v = .non ∧ Q (.ref x) H2) (E σ)
theorem run_makeD {pins : List (Addr × Obj)} {σ : L2.St} {H : Hp} {s : Shared} {Q : VK} {us : List Value} {vs : List V} {sp : Sp} {E : L2.St → XK} (M : Mk X.K C f) (F : FnOk X.prog X.w X.K X.mg X.base (L2.CX X.prog X.w) k f fd ps sp) (hr : Room (k + 1) X.A) (hb : Binds X.K fd ps ds) (hd : Vals dvs ds)
    (hx : ∀ σ, PassesAt (L2.CX X.prog X.w) X σ (E σ)) (I : Inv X pins σ H s) (r : Vals vs us)
    (h : ∀ x dx, H x = none → H dx = none → dx ≠ x → sp (.ref x :: (vs ++ dvs)) (upd (upd H dx (.own x)) x (.ins C dx [])) (fun v H2 => v = .non ∧ Q (.ref x) H2) (E σ)) :
    wpAny (model X.prog X.w) X.A (call (.ref C) us) (EP X pins σ Q) X.xe s := by
  let n := s.heap.objs.size
  have q := h (n + 1) n (I.hok.fresh (Nat.le_succ n)) I.fresh (Nat.ne_of_lt (Nat.lt_succ_self n))
  have J := Inv.made (C := C) I
  have rr : Vals (V.ref (n + 1) :: (vs ++ dvs)) (Value.ref (n + 1) :: (us ++ ds)) := .cons rfl (r.append hd)
  have len := F.len _ _ _ _ q
  rw [rr.length] at len
  apply wpAny_call
  apply make_map (f := f) I.kIn M.makes M.init (beq_iff_eq.mp M.fn)
  have run := F.run _ X.stack _ _ ⟨Value.ref (n + 1) :: us, []⟩ _ _ _ (E σ) (hr.make C us []) (J.env0.make C us []) (hb _ (Value.ref (n + 1) :: us) J.kIn len) rr q
  apply codeAny_mono run
  intro res s' hq
  match res, hq with
  | .error e, hq => exact hx σ pins _ _ e s' J hq
  | .ok (.ret u), hq =>
    obtain ⟨v, H', I3, rv, rfl, q3⟩ := J.after hq
    exact ⟨rv, V.ref (n + 1), H', I3, rfl, q3⟩
theorem pe_makeD {E : L2.St → XK} {sp : Sp} {t : TA} (M : Mk X.K C f) (F : FnOk X.prog X.w X.K X.mg X.base (L2.CX X.prog X.w) k f fd ps sp) (hr : Room (k + 1) X.A) (hg : Gl X x) (hm : X.mg x = some (.ref C)) (hb : Binds X.K fd ps ds) (hd : Vals dvs ds) (hx : ∀ σ, PassesAt (L2.CX X.prog X.w) X σ (E σ))
    (ha : PA X (e :: es) t) (hdb : (x == ("__debug__" : Str)) = false := by decide) (he : starEach (e :: es) X.env = (false, eval e X.env) :: starEach es X.env := by rfl) (hpl : (backTo pos (starEach es X.env)).any (·.1) = false := by rfl) :
    PE X (.Call (.Name x p) (e :: es) [] pos) (tMakeD C sp dvs E t) := by
  constructor
  intro pins s σ H Q I h
  apply wpAny_Call_Name_kw
  apply ld_glob I hg hm _ hdb
  apply PySem.W.callWith_K (h₀ := X.base) I.ok.mod.kin M.kp _ he hpl
  apply thn (ha.run pos pins s σ H _ I h)
  rintro us s1 ⟨vs, H1, I1, r, q⟩
  exact ⟨I1.kIn, run_makeD M F hr hb hd hx I1 r q⟩
theorem pe_makeD0 {E : L2.St → XK} {sp : Sp} (M : Mk X.K C f) (F : FnOk X.prog X.w X.K X.mg X.base (L2.CX X.prog X.w) k f fd ps sp) (hr : Room (k + 1) X.A) (hg : Gl X x) (hm : X.mg x = some (.ref C)) (hb : Binds X.K fd ps ds) (hd : Vals dvs ds) (hx : ∀ σ, PassesAt (L2.CX X.prog X.w) X σ (E σ))
    (hdb : (x == ("__debug__" : Str)) = false := by decide) : PE X (.Call (.Name x p) [] [] pos) (tMakeD C sp dvs E tNil) := by
  constructor
  intro pins s σ H Q I h
  apply wpAny_Call_Name_kw
  apply ld_glob I hg hm _ hdb
  exact PySem.W.callWith_K0 I.kIn M.kp (run_makeD (us := []) M F hr hb hd hx I .nil h)
theorem make_in {σ : L2.St} {H : Hp} {Q : VK} {ta : TA} (g : GVals X.K dvs dws) (ha : ∀ σ H Q, tA X.K Wx ma σ H Q → ta σ H Q) (hC : C = He.ga X.K (toS cn)) (h : tE X.K Wx (eMake cn (fnOf np N mb) dws ma) σ H Q) :
    tMakeD C (spI X.K np (fnOf np N mb)) dvs (WE Wx) ta σ H Q := by
  obtain ⟨ρ, S, ls, hS, hL, h⟩ := h
  refine ha _ _ _ ⟨ρ, S, ls, hS, hL, (Post.bind (R := RWs) h).imp ?_⟩
  rintro vs H1 ⟨ρ1, S1, ws, e1, hS1, r1, h1⟩ x dx hx hdx hne
  have e2 : Ext X.K ρ1 S1.length H1 ρ1 S1.length (upd H1 dx (.own x)) := ext_keep hdx
  have hx2 : (upd H1 dx (.own x)) x = none := by rw [upd_ne (Ne.symm hne)]; exact hx
  have e3 : Ext X.K ρ1 S1.length (upd H1 dx (.own x)) (grow ρ1 S1.length x) (S1 ++ [OB.ins cn []]).length (upd (upd H1 dx (.own x)) x (.ins C dx [])) := by
    rw [List.length_append, List.length_singleton]; exact ext_new hx2
  have s3 : RSt X.K (grow ρ1 S1.length x) (upd (upd H1 dx (.own x)) x (.ins C dx [])) (S1 ++ [OB.ins cn []]) := (hS1.keep hdx).new (o := .ins cn []) hx2 rfl ⟨dx, [], by rw [upd_same, hC], .nil⟩
  have rx : RW X.K (grow ρ1 S1.length x) (S1 ++ [OB.ins cn []]).length (upd (upd H1 dx (.own x)) x (.ins C dx [])) (.loc S1.length) (.ref x) := by
    have q : RW X.K (grow ρ1 S1.length x) (S1 ++ [OB.ins cn []]).length (upd (upd H1 dx (.own x)) x (.ins C dx [])) (.loc S1.length) (.ref (grow ρ1 S1.length x S1.length)) := .loc _ (by rw [List.length_append, List.length_singleton]; exact Nat.lt_succ_self _)
    rw [grow_new] at q
    exact q
  refine sp_in (σ := σ) (ws := .loc S1.length :: ws) (vs := .ref x :: vs) s3 (.cons rx ((r1.ext e2).ext e3)) g ((Post.bind (R := RW) (Post.ext (e2.trans e3) h1)).imp ?_)
  rintro v H4 ⟨ρ4, S4, w4, e4, hS4, r4, h4⟩
  split at h4
  · cases r4
    exact ⟨rfl, h4 ρ4 H4 _ .refl hS4 (rx.ext e4)⟩
  · exact h4.elim
theorem ie_make (tk : Takes X Wx) (M : Mk X.K C f) (hC : C = He.ga X.K (toS cn)) (F : FI X.prog X.w X.K X.mg X.base k f fd ps (fnOf np N mb)) (hnp : ps.length = np) (hr : Room (k + 1) X.A) (hm : X.mg x = some (.ref C)) (hb : Binds X.K fd ps ds) (hd : Vals dvs ds) (g : GVals X.K dvs dws)
    (ha : IA X Wx (e :: es) ma) (hg : Gl X x := by rfl) (hdb : (x == ("__debug__" : Str)) = false := by decide) (he : starEach (e :: es) X.env = (false, eval e X.env) :: starEach es X.env := by rfl) (hpl : (backTo pos (starEach es X.env)).any (·.1) = false := by rfl) :
    IE X Wx (.Call (.Name x p) (e :: es) [] pos) (eMake cn (fnOf np N mb) dws ma) :=
  PEi (pe_makeD (E := WE Wx) M F hr hg hm hb hd (passAt tk) ha hdb he hpl) fun σ H Q h => by rw [hnp]; exact make_in g (fun _ _ _ q => q) hC h
theorem ie_make0 (tk : Takes X Wx) (M : Mk X.K C f) (hC : C = He.ga X.K (toS cn)) (F : FI X.prog X.w X.K X.mg X.base k f fd ps (fnOf np N mb)) (hnp : ps.length = np) (hr : Room (k + 1) X.A) (hm : X.mg x = some (.ref C)) (hb : Binds X.K fd ps ds) (hd : Vals dvs ds) (g : GVals X.K dvs dws)
    (hg : Gl X x := by rfl) (hdb : (x == ("__debug__" : Str)) = false := by decide) : IE X Wx (.Call (.Name x p) [] [] pos) (eMake cn (fnOf np N mb) dws aNil) :=
  PEi (pe_makeD0 (E := WE Wx) M F hr hg hm hb hd (passAt tk) hdb) fun σ H Q h => by
    rw [hnp]
    exact make_in g (fun σ H Q ⟨ρ, S, ls, hS, hL, h⟩ => h ρ H _ .refl hS .nil) hC h

/-! ### attributes -/
/-- the attributes of the classes, as data of the instances -/
def Atts (K : PySem.W.Frag) (tab : Nm → Nm → Bool) : Prop := ∀ C f, tab C f = true → Cls K (He.ga K (toS C)) ∧ NoAttr K (He.ga K (toS C)) (toS f)
def eFld (tab : Nm → Nm → Bool) (f : Nm) (o : ME) : ME := fun ls S => (o ls S).bind fun w S1 => match insAt S1 w with
  | some (_, C, fs) => if tab C f = true then (match lookN f fs with
    | some v => .ok v S1
    | none => .bad) else .bad
  | none => .bad
variable {tab : Nm → Nm → Bool} {fl : Nm} {fs : Str}
theorem ie_fld (T : Atts X.K tab) (he : IE X Wx o mo) (hf : fs = toS fl) (hb : attributeBase o fs X.env (eval o X.env) = eval o X.env := by rfl) : IE X Wx (.Attribute o fs pos) (eFld tab fl mo) :=
  PEi (pe_fld he hb) fun σ H Q ⟨ρ, S, ls, hS, hL, h⟩ => ⟨ρ, S, ls, hS, hL, (Post.bind (R := RW) h).imp fun x H1 ⟨ρ1, S1, w1, e1, hS1, r1, h1⟩ => by
    split at h1
    · rename_i n D gs ei
      split at h1
      · rename_i et
        split at h1
        · rename_i v el
          obtain ⟨rfl, dx, fs', hH, rf⟩ := ins_of hS1 r1 ei
          obtain ⟨c, na⟩ := T _ _ et
          obtain ⟨u, hu, ru⟩ := look_some rf el
          subst hf
          exact ⟨_, _, dx, fs', u, rfl, hH, c, na, hu, h1 ρ1 H1 u .refl hS1 ru⟩
        · exact h1.elim
      · exact h1.elim
    · exact h1.elim⟩
def sFldM (tab : Nm → Nm → Bool) (f : Nm) (o v : ME) : MS := fun ls S => (v ls S).then ls fun y S1 => (o ls S1).then ls fun w S2 => match insAt S2 w with
  | some (n, C, fs) => if tab C f && decide (fs.length < 1000) then .nx ls (S2.set n (.ins C (putN f y fs))) else .bad
  | none => .bad
theorem put_rel {K : PySem.W.Frag} {ρ : Nat → Addr} {N : Nat} {H : Hp} {f : Nm} {w : PV} {v : V} (q : RW K ρ N H w v) : ∀ {fs : List (Nm × PV)} {fs' : List (Str × V)}, RFs K ρ N H fs fs' → RFs K ρ N H (putN f w fs) (putF (toS f) v fs')
  | _, _, .nil => .cons q .nil
  | _, _, .cons (f := g) (v := u) (r' := r') r t => by
    unfold putN
    show RFs K ρ N H _ (if toS g = toS f then (toS g, v) :: r' else (toS g, u) :: putF (toS f) v r')
    by_cases e : g = f
    · subst e
      rw [if_pos rfl, if_pos rfl]; exact .cons q t
    · rw [if_neg e, if_neg fun z => e (toS_inj z)]; exact .cons r (put_rel q t)
theorem is_fld {val : Expr} {mv : ME} {pos' : Pos} (T : Atts X.K tab) (ho : IE X Wx o mo) (hv : IE X Wx val mv) (hf : fs = toS fl) (hs : swapsWith val (some (.Attribute o fs pos')) pos.line X.env = pure false := by rfl) :
    IS X Wx (.Assign [.Attribute o fs pos'] val pos) (sFldM tab fl mo mv) :=
  PSi (ps_fld ho hv hs) fun D σ H ⟨ρ, S, ls, hS, hL, h⟩ => ⟨ρ, S, ls, hS, hL, (Post.then (R := RW) hL h).imp fun y H1 ⟨ρ1, S1, wy, e1, hS1, r1, h1⟩ =>
    ⟨ρ1, S1, ls, hS1, hL.ext e1, (Post.then (R := RW) (hL.ext e1) h1).imp fun x H2 ⟨ρ2, S2, w2, e2, hS2, r2, h2⟩ => by
      split at h2
      · rename_i n D' gs ei
        split at h2
        · rename_i et
          rw [Bool.and_eq_true] at et
          obtain ⟨rfl, dx, fs', hH, rf⟩ := ins_of hS2 r2 ei
          obtain ⟨rfl, eg⟩ := insAt_get ei
          obtain ⟨c, na⟩ := T _ _ et.1
          subst hf
          refine ⟨_, _, dx, fs', rfl, hH, c, na, by rw [← rf.length]; exact of_decide_eq_true et.2, ?_⟩
          have ee : Ext X.K ρ2 S2.length H2 ρ2 S2.length (upd H2 (ρ2 n) (.ins (He.ga X.K (toS D')) dx (putF (toS fl) y fs'))) := ext_upd hH trivial
          refine h2 ρ2 _ σ (by rw [List.length_set]; exact ee) (hS2.set eg rfl rfl ⟨dx, _, upd_same, put_rel ((r1.ext e2).ext ee) (rf.ext ee)⟩) (by rw [List.length_set]; exact ((hL.ext e1).ext e2).ext ee)
        · exact h2.elim
      · exact h2.elim⟩⟩
end
end GL

set_option Elab.async false
set_option linter.all false
set_option maxRecDepth 100000
set_option maxHeartbeats 1000000
namespace GL
open PySem PySem.Spec PyProof.Rows L2

/-! ### subscripts -/
def gIx : PV → PV → Sto → Out PV := fun a b S => match a, b with
  | .tup xs, .int i => (match atI xs i with
    | some v => .ok v S
    | none => .bad)
  | .loc n, .int i => (match seqAt S n with
    | some xs => (match atI xs i with
      | some v => .ok v S
      | none => .bad)
    | none => .bad)
  | .str s, .int i => if s.length ≤ lim then (match atI s i with
    | some c => .ok (.str [c]) S
    | none => .bad) else .bad
  | _, _ => .bad
section
variable {K : PySem.W.Frag} {ρ : Nat → Addr} {N : Nat} {H : Hp}
theorem RWs.at {ws : List PV} {vs : List V} (t : RWs K ρ N H ws vs) {i : Int} {w : PV} (h : atI ws i = some w) : ∃ v, atI vs i = some v ∧ RW K ρ N H w v := by
  unfold atI at h ⊢
  rw [t.length] at h
  cases e : ixN vs.length i with
  | none => rw [e] at h; cases h
  | some j =>
    rw [e] at h
    exact t.get h
end
section
variable {X : Cx} {Wx : WX} {pos : Pos} {a b e o : Expr} {ma mb me mo : ME}
theorem oi_ix : OpI X Wx (rIx X.K) gIx := by
  intro ρ S H w1 w2 x y Ex Q hS r1 r2 h
  unfold gIx at h
  split at h
  · split at h
    · rename_i v ev
      cases r1 with
      | tup s t =>
        obtain ⟨u, hu, ru⟩ := t.at ev
        cases r2
        exact .inr (.inl ⟨_, _, _, u, rfl, rfl, s, hu, h.here hS ru⟩)
    · exact h.elim
  · split at h
    · split at h
      · rename_i xs exs _ v ev
        cases r1; cases r2
        obtain ⟨vs, s, t⟩ := seq_of hS exs
        obtain ⟨u, hu, ru⟩ := t.at ev
        exact .inl ⟨_, _, _, u, rfl, rfl, s, hu, h.here hS ru⟩
      · exact h.elim
    · exact h.elim
  · split at h
    · split at h
      · rename_i hz _ c ec
        cases r1; cases r2
        rw [str_len] at hz
        exact .inr (.inr ⟨_, _, c, rfl, rfl, lim_sz hz, ec, h.here hS (.str ⟨#[c]⟩)⟩)
      · exact h.elim
    · exact h.elim
  · exact h.elim
theorem ie_ix (ha : IE X Wx a ma) (hb : IE X Wx b mb) (hs : PlainIx b := by exact fun _ _ => rfl) : IE X Wx (.Subscript a b pos) (eOp gIx ma mb) :=
  PEi (pe_ix ix_seq ha hb hs) fun σ H Q h => bin_in oi_ix h
/-- o[i] = e, a list -/
def sSub (o i e : ME) : MS := fun ls S => (e ls S).then ls fun w S1 => (o ls S1).then ls fun l S2 => (i ls S2).then ls fun k S3 => match l, k with
  | .loc n, .int j => (match lstAt S3 n with
    | some xs => (match ixN xs.length j with
      | some m => .nx ls (S3.set n (.lst (xs.set m w)))
      | none => .bad)
    | none => .bad)
  | _, _ => .bad
theorem is_sub {i : Expr} {mi : ME} {pos' : Pos} (ho : IE X Wx o mo) (hi : IE X Wx i mi) (he : IE X Wx e me)
    (hq : ∀ v, assign (.Subscript o i pos') X.env v = (do
      let ov ← holding [v] (eval o X.env)
      let iv ← holding [v, ov] (eval i X.env)
      standAt pos'
      holding [v, ov, iv] (setItem ov iv v)
      release [v, ov, iv] []) := by intro _; rfl)
    (hs : swapsWithSole [.Subscript o i pos'] e pos.line X.env = pure false := by rfl) (hw : swappedStores [.Subscript o i pos'] e X.env = pure none := by rfl)
    (h1 : (assignEach [.Subscript o i pos'] X.env).map (·.2) = [assign (.Subscript o i pos') X.env] := by rfl) : IS X Wx (.Assign [.Subscript o i pos'] e pos) (sSub mo mi me) :=
  PSi (ps_asg he (pg_sub ho hi set_list hq) hs hw h1) fun D σ H ⟨ρ, S, ls, hS, hL, h⟩ => ⟨ρ, S, ls, hS, hL, (Post.then (R := RW) hL h).imp fun x H1 ⟨ρ1, S1, w1, e1, hS1, r1, h1⟩ =>
    ⟨ρ1, S1, ls, hS1, hL.ext e1, (Post.then (R := RW) (hL.ext e1) h1).imp fun y H2 ⟨ρ2, S2, w2, e2, hS2, r2, h2⟩ =>
      ⟨ρ2, S2, ls, hS2, (hL.ext e1).ext e2, (Post.then (R := RW) ((hL.ext e1).ext e2) h2).imp fun z H3 ⟨ρ3, S3, w3, e3, hS3, r3, h3⟩ => by
        have r2 := r2.ext e3
        have r1 := (r1.ext e2).ext e3
        split at h3
        · split at h3
          · split at h3
            · rename_i xs ex _ j ej
              cases r2; cases r3
              obtain ⟨vs, hv, t⟩ := lst_of hS3 ex
              obtain ⟨s4, e4⟩ := set_lst hS3 ex (t.set r1 j)
              exact ⟨_, vs, _, j, rfl, rfl, hv, by rw [← t.length]; exact ej, h3 ρ3 _ σ e4 s4 ((((hL.ext e1).ext e2).ext e3).ext e4)⟩
            · exact h3.elim
          · exact h3.elim
        · exact h3.elim⟩⟩⟩

/-! ### slices -/
abbrev MO := Ls → Sto → Out (Option Int)
abbrev ROI : RelF (Option Int) (Option Int) := fun _ _ _ _ a b => a = b
def tO (K : PySem.W.Frag) (Wx : WX) (m : MO) : TO := fun σ H Q => ∃ ρ S ls, RSt K ρ H S ∧ RL K ρ S.length H ls σ ∧ Post ROI K ρ S.length H (fun c d H' => Wx c d σ H') (m ls S) Q
abbrev IO (X : Cx) (Wx : WX) (e : Option Expr) (m : MO) : Prop := PO X e (tO X.K Wx m)
theorem POi {e : Option Expr} {t t' : TO} (h : PO X e t) (i : ∀ σ H Q, t' σ H Q → t σ H Q) : PO X e t' := ⟨fun pins s σ H Q I hw => h.run pins s σ H Q I (i _ _ _ hw)⟩
def oNo : MO := fun _ S => .ok none S
def oYes (m : ME) : MO := fun ls S => (m ls S).bind fun w S1 => match w with
  | .int i => .ok (some i) S1
  | _ => .bad
theorem io_none : IO X Wx none oNo := POi po_none fun σ H Q ⟨ρ, S, ls, hS, hL, h⟩ => h ρ H none .refl hS rfl
theorem io_some (h : IE X Wx e me) : IO X Wx (some e) (oYes me) := POi (po_some h) fun σ H Q ⟨ρ, S, ls, hS, hL, h⟩ => ⟨ρ, S, ls, hS, hL, (Post.bind (R := RW) h).imp fun x H1 ⟨ρ1, S1, w1, e1, hS1, r1, h1⟩ => by
  split at h1
  · cases r1
    exact ⟨_, rfl, h1 ρ1 H1 _ .refl hS1 rfl⟩
  · exact h1.elim⟩
def cutP {α : Type} (xs : List α) (lo hi : Option Int) : List α := (xs.drop (HT.sIx xs.length 0 lo)).take (HT.sIx xs.length xs.length hi - HT.sIx xs.length 0 lo)
def gSl : PV → Option Int → Option Int → Sto → Out PV := fun a lo hi S => match a with
  | .tup xs => .ok (.tup (cutP xs lo hi)) S
  | .loc n => (match seqAt S n with
    | some xs => .ok (.loc S.length) (S ++ [.lst (cutP xs lo hi)])
    | none => .bad)
  | .str s => if s.length ≤ lim then .ok (.str (cutP s lo hi)) S else .bad
  | _ => .bad
def eSl (o : ME) (lo hi : MO) : ME := fun ls S => (o ls S).bind fun w S1 => (lo ls S1).bind fun l S2 => (hi ls S2).bind fun h S3 => gSl w l h S3
theorem RWs.cut {K : PySem.W.Frag} {ρ : Nat → Addr} {N : Nat} {H : Hp} {ws : List PV} {vs : List V} (t : RWs K ρ N H ws vs) (lo hi : Option Int) : RWs K ρ N H (cutP ws lo hi) (cutV vs lo hi) := by
  unfold cutP cutV
  rw [t.length]
  exact (t.drop _).take _
theorem RWs.cut_whole {K : PySem.W.Frag} {ρ : Nat → Addr} {N : Nat} {H : Hp} {ws : List PV} {vs : List V} (t : RWs K ρ N H ws vs) {l u : Option Int} (whole : HT.sIx vs.length 0 l = 0 ∧ HT.sIx vs.length vs.length u = vs.length) : cutP ws l u = ws := by
  unfold cutP
  rw [t.length, whole.1, whole.2, ← t.length]
  simp
def rSlM (K : PySem.W.Frag) : V → Option Int → Option Int → Hp → VK → Prop := fun x lo hi H Q => rSlA K x lo hi H Q ∨ rSlL K x lo hi H Q ∨ rSlS x lo hi H Q
theorem sl_M : SlR X (rSlM X.K) := sl_tupA.or (sl_list.or sl_str)
theorem ie_sl {lo hi : Option Expr} {ml mh : MO} {p2 : Pos} (ho : IE X Wx o mo) (hl : IO X Wx lo ml) (hh : IO X Wx hi mh) : IE X Wx (.Subscript o (.Slice lo hi none p2) pos) (eSl mo ml mh) :=
  PEi (pe_slice sl_M ho hl hh) fun σ H Q ⟨ρ, S, ls, hS, hL, h⟩ => ⟨ρ, S, ls, hS, hL, (Post.bind (R := RW) h).imp fun x H1 ⟨ρ1, S1, w1, e1, hS1, r1, h1⟩ =>
    ⟨ρ1, S1, ls, hS1, hL.ext e1, (Post.bind (R := ROI) h1).imp fun l H2 ⟨ρ2, S2, l2, e2, hS2, q2, h2⟩ =>
      ⟨ρ2, S2, ls, hS2, (hL.ext e1).ext e2, (Post.bind (R := ROI) h2).imp fun u H3 ⟨ρ3, S3, u3, e3, hS3, q3, h3⟩ => by
        cases q2; cases q3
        have r1 := (r1.ext e2).ext e3
        unfold gSl at h3
        split at h3
        · cases r1 with
          | tup s t =>
            refine .inl ⟨_, _, rfl, s, fun whole => ?_, fun _ => mk_tup hS3 (t.cut l u) h3⟩
            rw [t.cut_whole whole] at h3
            exact h3.here hS3 (.tup s t)
        · split at h3
          · rename_i xs ex
            cases r1
            obtain ⟨vs, s, t⟩ := seq_of hS3 ex
            exact .inr (.inl ⟨_, _, rfl, s, mk_lst hS3 (t.cut l u) h3⟩)
          · exact h3.elim
        · split at h3
          · rename_i hz
            cases r1 with
            | str z =>
              rw [str_len] at hz
              refine .inr (.inr ⟨_, rfl, lim_sz hz, h3.here hS3 ?_⟩)
              have : cutP z.cps.toList l u = (cutS z l u).cps.toList := by
                unfold cutP cutS
                simp [Str.length]
              rw [this]; exact .str _
          · exact h3.elim
        · exact h3.elim⟩⟩⟩

/-! ### built-ins by values -/
def CallI (X : Cx) (r : List V → Hp → VK → Prop) (g : MF) : Prop :=
  ∀ (ρ : Nat → Addr) (S : Sto) (H : Hp) (ws : List PV) (vs : List V) (Ex : XK) (Q : VK), RSt X.K ρ H S → RWs X.K ρ S.length H ws vs → Post RW X.K ρ S.length H Ex (g ws S) Q → r vs H Q
def eB (g : MF) (args : MA) : ME := fun ls S => (args ls S).bind fun ws S1 => g ws S1
variable {x : Str} {p : Pos} {es : List Expr} {mr : MA} {id T : String} {r : List V → Hp → VK → Prop} {g : MF}
theorem callB_in {σ : L2.St} {H : Hp} {Q : VK} (hi : CallI X r g) (h : tE X.K Wx (eB g mr) σ H Q) : tCB r (tA X.K Wx mr) σ H Q := by
  obtain ⟨ρ, S, ls, hS, hL, h⟩ := h
  exact ⟨ρ, S, ls, hS, hL, (Post.bind (R := RWs) h).imp fun vs H1 ⟨ρ1, S1, ws, e1, hS1, r1, h1⟩ => hi ρ1 S1 H1 ws vs _ Q hS1 r1 h1⟩
theorem ie_B (hc : CallR X (.builtin id) r) (hi : CallI X r g) (hm : X.mg x = none) (hv : bootBuiltins x = some (.builtin id)) (ha : IA X Wx (e :: es) mr) (hg : Gl X x := by rfl) (hn : x ≠ "__name__" := by decide) (hdb : (x == ("__debug__" : Str)) = false := by decide)
    (he : starEach (e :: es) X.env = (false, eval e X.env) :: starEach es X.env := by rfl) (hpl : (backTo pos (starEach es X.env)).any (·.1) = false := by rfl) : IE X Wx (.Call (.Name x p) (e :: es) [] pos) (eB g mr) :=
  PEi (pe_callB hc hg hm hv ha hn hdb he hpl) fun σ H Q h => callB_in hi h
theorem ie_BT (hc : CallR X (.type T) r) (hi : CallI X r g) (hm : X.mg x = none) (hv : bootBuiltins x = some (.type T)) (ha : IA X Wx (e :: es) mr) (hg : Gl X x := by rfl) (hn : x ≠ "__name__" := by decide) (hdb : (x == ("__debug__" : Str)) = false := by decide)
    (he : starEach (e :: es) X.env = (false, eval e X.env) :: starEach es X.env := by rfl) (hpl : (backTo pos (starEach es X.env)).any (·.1) = false := by rfl) : IE X Wx (.Call (.Name x p) (e :: es) [] pos) (eB g mr) :=
  PEi (pe_callTy hc hg hm hv ha hn hdb he hpl) fun σ H Q h => callB_in hi h
def fInt : MF := fun ws S => match ws with
  | [.int i] => .ok (.int i) S
  | [.bl k] => .ok (.int (if k then 1 else 0)) S
  | _ => .bad
theorem ci_int : CallI X (fun xs H Q => (∃ i, xs = [.int i] ∧ Q (.int i) H) ∨ ∃ k, xs = [.bl k] ∧ Q (.int (if k then 1 else 0)) H) fInt := by
  intro ρ S H ws vs Ex Q hS r h
  unfold fInt at h
  split at h
  · cases r with | cons r t => cases t; cases r; exact .inl ⟨_, rfl, h.here hS (.int _)⟩
  · cases r with | cons r t => cases t; cases r; exact .inr ⟨_, rfl, h.here hS (.int _)⟩
  · exact h.elim
def fAbs : MF := fun ws S => match ws with
  | [.int i] => .ok (.int (if i < 0 then -i else i)) S
  | _ => .bad
theorem ci_abs : CallI X (fun xs H Q => ∃ i, xs = [.int i] ∧ Q (.int (if i < 0 then -i else i)) H) fAbs := by
  intro ρ S H ws vs Ex Q hS r h
  unfold fAbs at h
  split at h
  · cases r with | cons r t => cases t; cases r; exact ⟨_, rfl, h.here hS (.int _)⟩
  · exact h.elim
def fMax2 : MF := fun ws S => match ws with
  | [.int i, .int j] => .ok (.int (if j > i then j else i)) S
  | _ => .bad
def fMin2 : MF := fun ws S => match ws with
  | [.int i, .int j] => .ok (.int (if j < i then j else i)) S
  | _ => .bad
theorem ci_max2 : CallI X (fun xs H Q => ∃ i j, xs = [.int i, .int j] ∧ Q (.int (if j > i then j else i)) H) fMax2 := by
  intro ρ S H ws vs Ex Q hS r h
  unfold fMax2 at h
  split at h
  · cases r with | cons r t => cases t with | cons r2 t => cases t; cases r; cases r2; exact ⟨_, _, rfl, h.here hS (.int _)⟩
  · exact h.elim
theorem ci_min2 : CallI X (fun xs H Q => ∃ i j, xs = [.int i, .int j] ∧ Q (.int (if j < i then j else i)) H) fMin2 := by
  intro ρ S H ws vs Ex Q hS r h
  unfold fMin2 at h
  split at h
  · cases r with | cons r t => cases t with | cons r2 t => cases t; cases r; cases r2; exact ⟨_, _, rfl, h.here hS (.int _)⟩
  · exact h.elim
def fLen : MF := fun ws S => match ws with
  | [.tup xs] => .ok (.int xs.length) S
  | [.str s] => if s.length ≤ lim then .ok (.int s.length) S else .bad
  | [.loc n] => (match seqAt S n with
    | some xs => .ok (.int xs.length) S
    | none => .bad)
  | _ => .bad
theorem ci_len : CallI X (fun xs H Q => ∃ x n, xs = [x] ∧ LenV X.K x H n ∧ Q (.int n) H) fLen := by
  intro ρ S H ws vs Ex Q hS r h
  unfold fLen at h
  split at h
  · cases r with
    | cons r t => cases t; cases r with
      | tup s t => exact ⟨_, _, rfl, .inr ⟨_, s, rfl⟩, h.here hS (by rw [t.length]; exact .int _)⟩
  · split at h
    · rename_i hz
      cases r with
      | cons r t => cases t; cases r with
        | str z =>
          rw [str_len] at hz h
          exact ⟨_, _, rfl, ⟨lim_sz hz, rfl⟩, h.here hS (.int _)⟩
    · exact h.elim
  · split at h
    · rename_i xs ex
      obtain ⟨vs, s, t⟩ := seq_of hS ex
      cases r with
      | cons r t' => cases t'; cases r; exact ⟨_, _, rfl, .inl ⟨_, s, rfl⟩, h.here hS (by rw [t.length]; exact .int _)⟩
    · exact h.elim
  · exact h.elim
def fList : MF := fun ws S => match ws with
  | [.tup xs] => .ok (.loc S.length) (S ++ [.lst xs])
  | [.loc n] => (match seqAt S n with
    | some xs => .ok (.loc S.length) (S ++ [.lst xs])
    | none => .bad)
  | _ => .bad
theorem ci_list : CallI X (fun xs H Q => ∃ p ys, xs = [.ref p] ∧ (SqL X.K H p ys ∨ SqT X.K H p ys) ∧ ∀ l, H l = none → Q (.ref l) (upd H l (.lst ys))) fList := by
  intro ρ S H ws vs Ex Q hS r h
  unfold fList at h
  split at h
  · cases r with
    | cons r t => cases t; cases r with
      | tup s t => exact ⟨_, _, rfl, .inr s, mk_lst hS t h⟩
  · split at h
    · rename_i xs ex
      obtain ⟨vs, s, t⟩ := seq_of hS ex
      cases r with
      | cons r t' => cases t'; cases r; exact ⟨_, _, rfl, .inl s, mk_lst hS t h⟩
    · exact h.elim
  · exact h.elim
def fTuple : MF := fun ws S => match ws with
  | [.tup xs] => .ok (.tup xs) S
  | [.loc n] => (match seqAt S n with
    | some xs => .ok (.tup xs) S
    | none => .bad)
  | _ => .bad
theorem ci_tuple : CallI X (fun xs H Q => ∃ p ys, xs = [.ref p] ∧ ((SqL X.K H p ys ∧ ∀ l, H l = none → Q (.ref l) (upd H l (.tup ys))) ∨ (SqT X.K H p ys ∧ Q (.ref p) H))) fTuple := by
  intro ρ S H ws vs Ex Q hS r h
  unfold fTuple at h
  split at h
  · cases r with
    | cons r t => cases t; cases r with
      | tup s t => exact ⟨_, _, rfl, .inr ⟨s, h.here hS (.tup s t)⟩⟩
  · split at h
    · rename_i xs ex
      obtain ⟨vs, s, t⟩ := seq_of hS ex
      cases r with
      | cons r t' => cases t'; cases r; exact ⟨_, _, rfl, .inl ⟨s, mk_tup hS t h⟩⟩
    · exact h.elim
  · exact h.elim
/-! isinstance(x, T), T a built-in type -/
def tyP (S : Sto) : PV → Option BT
  | .non => some .none
  | .bl _ => some .bool
  | .int _ => some .int
  | .str _ => some .str
  | .tup _ => some .tuple
  | .loc n => (match S[n]? with
    | some (.lst _) => some .list
    | some (.rol _) => some .list
    | some (.dct _) => some .dict
    | some (.fdct _) => some .dict
    | _ => none)
  | _ => none
def isB : BT → BT → Bool
  | .bool, .int => true
  | a, b => decide (a = b)
theorem kit_is : ∀ a b : BT, b ≠ .none → kitB a.name b.name = some (isB a b) := by
  intro a b hb
  cases a <;> cases b <;> first | (exact absurd rfl hb) | (decide +kernel)
theorem tyX_of {K : PySem.W.Frag} {ρ : Nat → Addr} {H : Hp} {S : Sto} (hS : RSt K ρ H S) {w : PV} {v : V} {t : BT} (r : RW K ρ S.length H w v) (h : tyP S w = some t) : TyX K H v (.type t.name) := by
  cases r with
  | non => cases h; exact .base .non
  | bl b => cases h; exact .base (.bl b)
  | int i => cases h; exact .base (.int i)
  | str x => cases h; exact .base (.str x)
  | tup s _ =>
    cases h
    rcases s with (s | ⟨o, s⟩) | ⟨o, its, n, hk, hc, _⟩
    · exact .base (.tup s)
    · exact .fTuple s
    · exact .kTuple hk hc
  | gl x => cases h
  | ty n => cases h
  | loc n hn =>
    unfold tyP at h
    dsimp only at h
    split at h
    · rename_i e; cases h
      obtain ⟨vs, a, _⟩ := hS.at_ _ _ e
      exact .base (.lst a)
    · rename_i e; cases h
      obtain ⟨vs, a, _⟩ := hS.at_ _ _ e
      rcases a with ⟨o, a⟩ | ⟨o, its, n, hk, hc, _⟩
      · exact .base (.frz a)
      · exact .kList hk hc
    · rename_i e; cases h
      obtain ⟨vs, a, _⟩ := hS.at_ _ _ e
      exact .base (.dK a)
    · rename_i e; cases h
      obtain ⟨o, vs, a, _⟩ := hS.at_ _ _ e
      exact .fDict a
    · cases h
def fIsi : MF := fun ws S => match ws with
  | [w, .ty b] => if b = .none then .bad else (match tyP S w with
    | some t => .ok (.bl (isB t b)) S
    | none => .bad)
  | _ => .bad
theorem ci_isi : CallI X (rIsi X.K) fIsi := by
  intro ρ S H ws vs Ex Q hS r h
  unfold fIsi at h
  split at h
  · split at h
    · exact h.elim
    · rename_i hb
      split at h
      · rename_i t et
        cases r with
        | cons r1 t => cases t with
          | cons r2 t =>
            cases t; cases r2
            exact ⟨_, _, _, _, _, rfl, .ty _, tyX_of hS r1 et, kit_ty (kit_is _ _ hb), h.here hS (.bl _)⟩
      · exact h.elim
  · exact h.elim
/-- a built-in type's name as a value -/
theorem ie_ty {t : BT} (hm : X.mg x = none) (hv : bootBuiltins x = some (.type t.name)) (hg : Gl X x := by rfl) (hn : x ≠ "__name__" := by decide) (hdb : (x == ("__debug__" : Str)) = false := by decide) : IE X Wx (.Name x p) (eC (.ty t)) :=
  PEi (pe_bltn (v := .ty t.name) hg hm hv rfl hn hdb) fun σ H Q ⟨ρ, S, ls, hS, hL, h⟩ => h ρ H _ .refl hS (.ty _)

/-! ### methods of built-in types -/
def MtI (X : Cx) (r : V → List V → Hp → VK → Prop) (g : PV → MF) : Prop :=
  ∀ (ρ : Nat → Addr) (S : Sto) (H : Hp) (w : PV) (ws : List PV) (v : V) (vs : List V) (Ex : XK) (Q : VK), RSt X.K ρ H S → RW X.K ρ S.length H w v → RWs X.K ρ S.length H ws vs → Post RW X.K ρ S.length H Ex (g w ws S) Q → r v vs H Q
def eMt (chk : PV → Sto → Bool) (g : PV → MF) (o : ME) (args : MA) : ME := fun ls S => (o ls S).bind fun w S1 => if chk w S1 = true then (args ls S1).bind fun ws S2 => g w ws S2 else .bad
def kList : PV → Sto → Bool := fun w S => match w with
  | .loc n => (seqAt S n).isSome
  | _ => false
def kStr : PV → Sto → Bool := fun w _ => match w with
  | .str _ => true
  | _ => false
def ChkT (X : Cx) (T : String) (chk : PV → Sto → Bool) : Prop := ∀ (ρ : Nat → Addr) (S : Sto) (H : Hp) (w : PV) (v : V), RSt X.K ρ H S → RW X.K ρ S.length H w v → chk w S = true → tyV X.K T v H
theorem chk_list : ChkT X "list" kList := by
  intro ρ S H w v hS r h
  unfold kList at h
  split at h
  · rename_i n
    cases e : seqAt S n with
    | none => rw [e] at h; cases h
    | some xs =>
      obtain ⟨vs, s, _⟩ := seq_of hS e
      cases r
      exact .inl ⟨rfl, _, s⟩
  · cases h
theorem chk_str : ChkT X "str" kStr := by
  intro ρ S H w v hS r h
  unfold kStr at h
  split at h
  · cases r; rfl
  · cases h
variable {name : Str} {apos cpos : Pos} {rm : V → List V → Hp → VK → Prop} {gm : PV → MF} {chk : PV → Sto → Bool}
theorem ie_mt (pa : PlainAttrs T) (slot : Slot T name id) (hty : typeOf (.builtin id) = pure (.type "method_descriptor")) (hm : MtR X id rm) (hk : ChkT X T chk) (hi : MtI X rm gm) (ho : IE X Wx o mo) (ha : IA X Wx (e :: es) mr)
    (hbase : attributeBase o name X.env (eval o X.env) = eval o X.env := by rfl)
    (hfew : ((backTo cpos (starEach (e :: es) X.env)).all (fun x => !x.1) && (backToKw cpos (keywordEach [] X.env)).all (fun x => x.1.isSome)
      && decide ((e :: es).length + ([] : List Keyword).length + (if ([] : List Keyword).isEmpty then 0 else 1) < 30)) = true := by rfl)
    (hline : (apos.endLine == cpos.line) = true := by rfl) (hs : starEach (e :: es) X.env = (false, eval e X.env) :: starEach es X.env := by rfl) (hplain : (backTo cpos (starEach es X.env)).any (·.1) = false := by rfl) :
    IE X Wx (.Call (.Attribute o name apos) (e :: es) [] cpos) (eMt chk gm mo mr) :=
  PEi (pe_bm pa slot hty hm ho ha hbase hfew hline hs hplain) fun σ H Q ⟨ρ, S, ls, hS, hL, h⟩ => ⟨ρ, S, ls, hS, hL, (Post.bind (R := RW) h).imp fun x H1 ⟨ρ1, S1, w1, e1, hS1, r1, h1⟩ => by
    split at h1
    · rename_i hc
      exact ⟨hk _ _ _ _ _ hS1 r1 hc, ρ1, S1, ls, hS1, hL.ext e1, (Post.bind (R := RWs) h1).imp fun vs H2 ⟨ρ2, S2, ws, e2, hS2, r2, h2⟩ => hi ρ2 S2 H2 _ _ _ _ _ Q hS2 (r1.ext e2) r2 h2⟩
    · exact h1.elim⟩
theorem ie_mt0 (pa : PlainAttrs T) (slot : Slot T name id) (hty : typeOf (.builtin id) = pure (.type "method_descriptor")) (hm : MtR X id rm) (hk : ChkT X T chk) (hi : MtI X rm gm) (ho : IE X Wx o mo)
    (hbase : attributeBase o name X.env (eval o X.env) = eval o X.env := by rfl) (hline : (apos.endLine == cpos.line) = true := by rfl) : IE X Wx (.Call (.Attribute o name apos) [] [] cpos) (eMt chk gm mo aNil) :=
  PEi (pe_bm0 pa slot hty hm ho hbase hline) fun σ H Q ⟨ρ, S, ls, hS, hL, h⟩ => ⟨ρ, S, ls, hS, hL, (Post.bind (R := RW) h).imp fun x H1 ⟨ρ1, S1, w1, e1, hS1, r1, h1⟩ => by
    split at h1
    · rename_i hc
      exact ⟨hk _ _ _ _ _ hS1 r1 hc, hi ρ1 S1 H1 _ [] _ [] (fun c d H' => Wx c d σ H') Q hS1 r1 .nil h1⟩
    · exact h1.elim⟩
def mAppend : PV → MF := fun w ws S => match w, ws with
  | .loc n, [y] => (match lstAt S n with
    | some xs => if xs.length < lim then .ok .non (S.set n (.lst (xs ++ [y]))) else .bad
    | none => .bad)
  | _, _ => .bad
theorem mi_append : MtI X rAppend mAppend := by
  intro ρ S H w ws v vs Ex Q hS r rs h
  unfold mAppend at h
  split at h
  · split at h
    · split at h
      · rename_i xs ex hz
        cases r
        cases rs with
        | cons ry t =>
          cases t
          obtain ⟨us, hu, t⟩ := lst_of hS ex
          obtain ⟨s2, e2⟩ := set_lst hS ex (t.app (.cons ry .nil))
          exact ⟨_, us, _, rfl, rfl, hu, by rw [← t.length]; exact lim_lt hz, h ρ _ _ e2 s2 .non⟩
      · exact h.elim
    · exact h.elim
  · exact h.elim
def mExtend : PV → MF := fun w ws S => match w, ws with
  | .loc n, [.loc k] => (match lstAt S n, lstAt S k with
    | some xs, some ys => if xs.length + ys.length ≤ lim then .ok .non (S.set n (.lst (xs ++ ys))) else .bad
    | _, _ => .bad)
  | _, _ => .bad
theorem mi_extend : MtI X rExtend mExtend := by
  intro ρ S H w ws v vs Ex Q hS r rs h
  unfold mExtend at h
  split at h
  · split at h
    · split at h
      · rename_i xs ys ex ey hz
        cases r
        cases rs with
        | cons ry t =>
          cases t; cases ry
          obtain ⟨us, hu, t⟩ := lst_of hS ex
          obtain ⟨zs, hz', t'⟩ := lst_of hS ey
          obtain ⟨s2, e2⟩ := set_lst hS ex (t.app t')
          exact ⟨_, _, us, zs, rfl, rfl, hu, hz', by rw [← t.length, ← t'.length]; exact lim_sz hz, h ρ _ _ e2 s2 .non⟩
      · exact h.elim
    · exact h.elim
  · exact h.elim
def mPop : PV → MF := fun w ws S => match w, ws with
  | .loc n, [] => (match lstAt S n with
    | some xs => (match xs[xs.length - 1]? with
      | some y => .ok y (S.set n (.lst xs.dropLast))
      | none => .bad)
    | none => .bad)
  | _, _ => .bad
theorem mi_pop : MtI X rPop mPop := by
  intro ρ S H w ws v vs Ex Q hS r rs h
  unfold mPop at h
  split at h
  · split at h
    · split at h
      · rename_i xs ex _ y ey
        cases r; cases rs
        obtain ⟨us, hu, t⟩ := lst_of hS ex
        obtain ⟨z, hz, rz⟩ := t.get ey
        obtain ⟨s2, e2⟩ := set_lst hS ex t.dropLast
        exact ⟨_, us, z, rfl, rfl, hu, by rw [← t.length]; exact hz, h ρ _ _ e2 s2 (rz.ext (by rw [List.length_set] at e2; exact e2) |> fun q => by rw [List.length_set]; exact q)⟩
      · exact h.elim
    · exact h.elim
  · exact h.elim
def mClear : PV → MF := fun w ws S => match w, ws with
  | .loc n, [] => (match lstAt S n with
    | some _ => .ok .non (S.set n (.lst []))
    | none => .bad)
  | _, _ => .bad
theorem mi_clear : MtI X rClear mClear := by
  intro ρ S H w ws v vs Ex Q hS r rs h
  unfold mClear at h
  split at h
  · split at h
    · rename_i xs ex
      cases r; cases rs
      obtain ⟨us, hu, t⟩ := lst_of hS ex
      obtain ⟨s2, e2⟩ := set_lst hS ex .nil
      exact ⟨_, us, rfl, rfl, hu, h ρ _ _ e2 s2 .non⟩
    · exact h.elim
  · exact h.elim
/-- x.split(sep) -/
def mSplit : PV → MF := fun w ws S => match w, ws with
  | .str a, [.str b] => if (decide (b ≠ []) && decide (a.length < lim)) = true then .ok (.loc S.length) (S ++ [.lst ((Txt.split (toS a) (toS b)).map fun z => .str z.cps.toList)]) else .bad
  | _, _ => .bad
theorem strs_rel {K : PySem.W.Frag} {ρ : Nat → Addr} {N : Nat} {H : Hp} : ∀ l : List Str, RWs K ρ N H (l.map fun z => .str z.cps.toList) (l.map V.str)
  | [] => .nil
  | z :: r => .cons (.str z) (strs_rel r)
theorem mi_split : MtI X (fun x xs H Q => ∃ a b, x = .str a ∧ xs = [.str b] ∧ (b.length == 0) = false ∧ a.length + 2 ≤ sizeLine ∧ rNewStrs (Txt.split a b) H Q) mSplit := by
  intro ρ S H w ws v vs Ex Q hS r rs h
  unfold mSplit at h
  split at h
  · split at h
    · rename_i q
      rw [Bool.and_eq_true] at q
      cases r with
      | str a => cases rs with
        | cons ry t => cases t; cases ry with
          | str b =>
            rw [toS_cps, toS_cps] at h
            refine ⟨a, b, rfl, rfl, ?_, ?_, mk_lst hS (strs_rel _) h⟩
            · have q1 := of_decide_eq_true q.1
              rw [beq_eq_false_iff_ne]
              intro z
              apply q1
              rw [← List.length_eq_zero_iff, str_len]; exact z
            · have q2 := of_decide_eq_true q.2
              rw [str_len] at q2
              have : lim = 100000 := rfl
              have e : sizeLine = 16777216 := sizeLine_eq
              omega
    · exact h.elim
  · exact h.elim
/-! ### name op= e -/
def sAug (i : Nat) (g : PV → PV → Sto → Out PV) (e : ME) : MS := fun ls S => match ls[i]? with
  | some (some w) => (e ls S).then ls fun v S1 => (g w v S1).then ls fun z S2 => .nx (ls.set i (some z)) S2
  | _ => .bad
theorem is_aug {op : Operator} {t : TIp} {gg : PV → PV → Sto → Out PV} {i : Nat} {pos' : Pos} (hN : X.N.Nodup) (ho : PIp X op t) (hi : OpI X Wx t gg) (he : IE X Wx e me) (hx : X.N[i]? = some x := by rfl) (hl : Loc X.env.scope x := by first | exact Or.inl rfl | exact Or.inr rfl)
    (hf : X.fn x = true ∨ X.env.scope.names.lookup x = some .local := by first | exact .inl rfl | exact .inr rfl) : IS X Wx (.AugAssign (.Name x pos') op e pos) (sAug i gg me) :=
  PSi (ps_aug (i := i) hN hx hl he ho hf) fun D σ H ⟨ρ, S, ls, hS, hL, h⟩ => by
    unfold sAug at h
    split at h
    · rename_i w ew
      obtain ⟨v, ev, rv⟩ := hL.get ew
      refine ⟨v, ev, ρ, S, ls, hS, hL, (Post.then (R := RW) hL h).imp fun y H1 ⟨ρ1, S1, w1, e1, hS1, r1, h1⟩ => ?_⟩
      refine hi ρ1 S1 H1 w w1 v y (fun c d H' => Wx c d σ H') _ hS1 (rv.ext e1) r1 ((Post.then (R := RW) (hL.ext e1) h1).imp fun z H2 ⟨ρ2, S2, w2, e2, hS2, r2, h2⟩ => ?_)
      exact h2 ρ2 H2 _ .refl hS2 (RL.set r2 _ ((hL.ext e1).ext e2))
    · exact h.elim
theorem oi_ip {f : Int → Int → Int} : OpI X Wx (ipI f) (gInt f) := by
  intro ρ S H w1 w2 x y Ex Q hS r1 r2 h
  unfold gInt at h
  split at h
  · cases r1; cases r2; exact ⟨_, _, rfl, rfl, h.here hS (.int _)⟩
  · exact h.elim
/-! ### truth of any value, as a test -/
def truP (S : Sto) : PV → Option Bool
  | .non => some false
  | .bl b => some b
  | .int i => some (i != 0)
  | .str s => if s.length ≤ lim then some ((s.length : Int) != 0) else none
  | .tup xs => some (!xs.isEmpty)
  | .loc n => (match S[n]? with
    | some (.lst xs) => some (!xs.isEmpty)
    | some (.rol xs) => some (!xs.isEmpty)
    | some (.dct xs) => some (!xs.isEmpty)
    | _ => none)
  | _ => none
def tTru (m : ME) : MT := fun ls S => (m ls S).bind fun w S1 => match truP S1 w with
  | some k => .ok k S1
  | none => .bad
theorem RWs.emp {K : PySem.W.Frag} {ρ : Nat → Addr} {N : Nat} {H : Hp} {ws : List PV} {vs : List V} (t : RWs K ρ N H ws vs) : ws.isEmpty = vs.isEmpty := by cases t <;> rfl
theorem RKs.emp {K : PySem.W.Frag} {ρ : Nat → Addr} {N : Nat} {H : Hp} {ws : List (PV × PV)} {vs : List (Key × V)} (t : RKs K ρ N H ws vs) : ws.isEmpty = vs.isEmpty := by cases t <;> rfl
theorem tru_of {K : PySem.W.Frag} {ρ : Nat → Addr} {H : Hp} {S : Sto} (hS : RSt K ρ H S) {w : PV} {v : V} {k : Bool} (r : RW K ρ S.length H w v) (h : truP S w = some k) : TruV K v H k := by
  cases r with
  | non => cases h; rfl
  | bl b => cases h; rfl
  | int i => cases h; rfl
  | str x =>
    unfold truP at h
    dsimp only at h
    split at h
    · rename_i hz
      cases h
      rw [str_len] at hz ⊢
      exact ⟨lim_sz hz, rfl⟩
    · cases h
  | tup s t => cases h; exact .inr (.inl ⟨_, s, by rw [t.emp]⟩)
  | gl x => cases h
  | ty n => cases h
  | loc n hn =>
    unfold truP at h
    dsimp only at h
    split at h
    · rename_i e; cases h
      obtain ⟨vs, a, t⟩ := hS.at_ _ _ e
      exact .inl ⟨_, SqL.of a, by rw [t.emp]⟩
    · rename_i e; cases h
      obtain ⟨vs, a, t⟩ := hS.at_ _ _ e
      exact .inl ⟨_, a.sq, by rw [t.emp]⟩
    · rename_i e; cases h
      obtain ⟨vs, a, t⟩ := hS.at_ _ _ e
      exact .inr (.inr ⟨_, a, by rw [t.emp]⟩)
    · cases h
theorem it_tru (ha : IE X Wx a ma) (he : ∀ whole, isTrue a X.env whole = (do let v ← whole; standAt a.pos; holding [v] (truthy v)) := by intro _; rfl) : IT X Wx a (tTru ma) :=
  PTi (pt_truth ha he) fun σ H Q ⟨ρ, S, ls, hS, hL, h⟩ => ⟨ρ, S, ls, hS, hL, (Post.bind (R := RW) h).imp fun x H1 ⟨ρ1, S1, w1, e1, hS1, r1, h1⟩ => by
    split at h1
    · rename_i k ek
      exact ⟨k, tru_of hS1 r1 ek, h1 ρ1 H1 k .refl hS1 rfl⟩
    · exact h1.elim⟩
/-! ### chains, negation -/
variable {c : Expr} {mc : ME} {r' : R2} {gg gg' : PV → PV → Sto → Out PV} {rr : R2}
theorem ie_chain {op op' : CmpOp} (ho : OpR X (compareOp op) rr) (ho' : OpR X (compareOp op') r') (hi : OpI X Wx rr gg) (hi' : OpI X Wx r' gg') (ha : IE X Wx a ma) (hb : IE X Wx b mb) (hc : IE X Wx c mc) (hm : lastMarks [op, op'] [b, c] = false := by with_unfolding_all rfl) :
    IE X Wx (.Compare a [op, op'] [b, c] pos) (eChain gg gg' ma mb mc) := PEi (pe_chain ho ho' ha hb hc hm) fun σ H Q h => chain_in hi hi' h
theorem it_chain {op op' : CmpOp} (ho : OpR X (compareOp op) rr) (ho' : OpR X (compareOp op') r') (hi : OpI X Wx rr gg) (hi' : OpI X Wx r' gg') (ha : IE X Wx a ma) (hb : IE X Wx b mb) (hc : IE X Wx c mc) (hm : lastMarks [op, op'] [b, c] = false := by with_unfolding_all rfl) :
    IT X Wx (.Compare a [op, op'] [b, c] pos) (toT (eChain gg gg' ma mb mc)) := PTi (pt_chain ho ho' ha hb hc hm) fun σ H Q h => chain_in hi hi' (test_in h)
def eNegM (a : ME) : ME := fun ls S => (a ls S).bind fun w S1 => match w with
  | .int i => .ok (.int (-i)) S1
  | _ => .bad
theorem ie_neg (ha : IE X Wx a ma) : IE X Wx (.UnaryOp .USub a pos) (eNegM ma) :=
  PEi (pe_un un_neg ha) fun σ H Q ⟨ρ, S, ls, hS, hL, h⟩ => ⟨ρ, S, ls, hS, hL, (Post.bind (R := RW) h).imp fun x H1 ⟨ρ1, S1, w1, e1, hS1, r1, h1⟩ => by
    split at h1
    · cases r1
      exact ⟨_, rfl, h1 ρ1 H1 _ .refl hS1 (.int _)⟩
    · exact h1.elim⟩
end
end GL

set_option Elab.async false
set_option linter.all false
set_option maxRecDepth 100000
set_option maxHeartbeats 1000000
namespace GL
open PySem PySem.Spec PyProof.Rows L2

/-! ### what the top has left: constants of any depth -/
def all2 {α β : Type} (f : α → β → Bool) : List α → List β → Bool
  | [], [] => true
  | a :: r, b :: s => f a b && all2 f r s
  | _, _ => false
def gvB (K : PySem.W.Frag) : Nat → PV → Value → Bool
  | 0, _, _ => false
  | f + 1, w, u => match w, u with
    | .non, .none => true
    | .bl a, .bool b => a == b
    | .int i, .int j _ => decide (j = i)
    | .str l, .str x _ => decide (x.cps.toList = l)
    | .tup ws, .ref a => (match K.lookup a with
      | some ⟨.type c, _, .seq its _, _⟩ => decide (c = "tuple") && (decide (its.size ≤ sizeLine) && all2 (gvB K f) ws its.toList)
      | _ => false)
    | .gl x, .ref a => decide (a = He.ga K (toS x))
    | .ty b, .type n => decide (n = b.name)
    | _, _ => false
theorem gv_all {K : PySem.W.Frag} {g : PV → Value → Bool} (h : ∀ w u, g w u = true → ∃ v, RelV v u ∧ GVal K v w) : ∀ {ws : List PV} {us : List Value}, all2 g ws us = true →
    ∃ vs, Vals vs us ∧ ∀ ρ N H, RWs K ρ N H ws vs
  | [], [], _ => ⟨[], .nil, fun _ _ _ => .nil⟩
  | [], _ :: _, e => by cases e
  | _ :: _, [], e => by cases e
  | w :: ws, u :: us, e => by
    have e2 := Bool.and_eq_true_iff.mp (show (g w u && all2 g ws us) = true from e)
    obtain ⟨v, r, q⟩ := h w u e2.1
    obtain ⟨vs, r2, q2⟩ := gv_all h e2.2
    exact ⟨v :: vs, .cons r r2, fun ρ N H => .cons (q ρ N H) (q2 ρ N H)⟩
theorem gv_ok {K : PySem.W.Frag} : ∀ {f : Nat} {w : PV} {u : Value}, gvB K f w u = true → ∃ v, RelV v u ∧ GVal K v w
  | 0, _, _, h => by cases h
  | f + 1, w, u, h => by
    unfold gvB at h
    split at h
    · exact ⟨.non, rfl, fun _ _ _ => .non⟩
    · have e := eq_of_beq h
      subst e
      exact ⟨.bl _, rfl, fun _ _ _ => .bl _⟩
    · have e := of_decide_eq_true h
      subst e
      exact ⟨.int _, ⟨_, rfl⟩, fun _ _ _ => .int _⟩
    · have e := of_decide_eq_true h
      subst e
      exact ⟨.str _, ⟨_, rfl⟩, fun _ _ _ => .str _⟩
    · split at h
      · rename_i ws a _ c dd its n sl q
        have e := Bool.and_eq_true_iff.mp h
        have e2 := Bool.and_eq_true_iff.mp e.2
        obtain ⟨vs, r, g⟩ := gv_all (K := K) (g := gvB K f) (fun w u => gv_ok) e2.2
        have ec := of_decide_eq_true e.1
        exact ⟨.ref a, rfl, fun ρ N H => .tup (.inr ⟨_, its, n, q, by rw [ec], rfl, of_decide_eq_true e2.1, r⟩) (g ρ N H)⟩
      · cases h
    · have e := of_decide_eq_true h
      subst e
      exact ⟨.ref _, rfl, fun _ _ _ => .gl _⟩
    · have e := of_decide_eq_true h
      subst e
      exact ⟨.ty _, rfl, fun _ _ _ => .ty _⟩
    · cases h
/-- the module's name x is the constant w -/
def conV (K : PySem.W.Frag) (x : Str) (w : PV) : Bool := match PySem.W.nsIn K mainGlobals x with
  | some (some u) => gvB K 20 w u
  | _ => false
structure GCon (K : PySem.W.Frag) (mg : Str → Option Value) (x : Str) (w : PV) : Prop where
  ex : ∃ u v, mg x = some u ∧ RelV v u ∧ GVal K v w
theorem conV_ok {K : PySem.W.Frag} {h : Heap} {mg : Str → Option Value} {x : Str} {w : PV} (X : K.In h) (G : h.Ns mainGlobals mg) (c : conV K x w = true) : GCon K mg x w := by
  unfold conV at c
  split at c
  · rename_i u e
    obtain ⟨v, r, g⟩ := gv_ok c
    exact ⟨u, v, PySem.W.mg_of X G e, r, g⟩
  · cases c
/-- the i-th default of a def is w -/
def dflV (K : PySem.W.Frag) (f : Str × Option Str) (i : Nat) (w : PV) : Bool := gvB K 20 w (.ref (He.dflAt f i K))
theorem dflV_ok {K : PySem.W.Frag} {f : Str × Option Str} {i : Nat} {w : PV} (c : dflV K f i w = true) : GVal K (.ref (He.dflAt f i K)) w := by
  obtain ⟨v, r, g⟩ := gv_ok c
  have e : v = .ref (He.dflAt f i K) := RelV.inj r (show RelV (.ref (He.dflAt f i K)) (.ref (He.dflAt f i K)) from rfl)
  rw [← e]; exact g
theorem ie_con {X : Cx} {Wx : WX} {pos : Pos} {x : Str} {w : PV} (c : GCon X.K X.mg x w) (hg : Gl X x := by rfl) (hd : (x == ("__debug__" : Str)) = false := by decide) : IE X Wx (.Name x pos) (eC w) := by
  obtain ⟨u, v, a, b, g⟩ := c.ex
  exact ie_glob hg a b g hd

/-! ### the hook: facts of any kind beside the defs -/
def obsB (fb : PySem.W.Frag → Bool) (fn : List He.DefD) (K : PySem.W.Frag) : He.AlD := (fb K && fn.all fun d => d.ok K, fn.map fun d => He.fnW K d.at_)
def SaysB (fb : PySem.W.Frag → Bool) (fn : List He.DefD) (K : PySem.W.Frag) : Prop := obsB fb fn K = He.valD fn
def obsBG (n : Nat) (fb : PySem.W.Frag → Bool) (fn : List He.DefD) (g : Addr → Option Obj) : He.AlD := obsB fb fn (He.frG g (He.asD g n))
def hookB (n : Nat) (fb : PySem.W.Frag → Bool) (fn : List He.DefD) : PySem.W.Hook where
  α := He.AlD
  obs := fun s => obsBG n fb fn s.heap.get?
  val := fun _ => He.valD fn
  says := fun _ h => ∃ K : PySem.W.Frag, K.In h ∧ SaysB fb fn K
  of := fun _ _ e => ⟨_, He.frG_in, e⟩
  keeps := fun _ _ _ ⟨K, hK, c⟩ k => ⟨K, PySem.W.Frag.In.keeps hK k, c⟩
theorem obsBG_eq {n : Nat} {fb : PySem.W.Frag → Bool} {fn : List He.DefD} {g : Addr → Option Obj} {s : Shared} (h : ∀ a, g a = s.heap.get? a) : obsBG n fb fn g = (hookB n fb fn).obs s := by
  have e : g = s.heap.get? := funext h
  rw [e]
  rfl
section
variable {fb : PySem.W.Frag → Bool} {fn : List He.DefD} {K : PySem.W.Frag}
theorem SaysB.facts (c : SaysB fb fn K) : fb K = true := (Bool.and_eq_true_iff.mp (show (fb K && fn.all fun d => d.ok K) = true from congrArg (fun z : He.AlD => z.1) c)).1
theorem SaysB.defs (c : SaysB fb fn K) (i : Nat) {d : He.DefD} (h : fn[i]? = some d := by rfl) : ∃ fd, FunD K d.name d.qual d.params d.body d.scope (d.dvs K) (d.kws K) (He.fAd K d.at_) fd := by
  have c2 := (Bool.and_eq_true_iff.mp (show (fb K && fn.all fun d => d.ok K) = true from congrArg (fun z : He.AlD => z.1) c)).2
  have e : fn.map (fun d => He.fnW K d.at_) = fn.map He.DefD.val := congrArg (fun z : He.AlD => z.2) c
  have e2 : (fn.map fun d => He.fnW K d.at_)[i]? = (fn.map He.DefD.val)[i]? := by rw [e]
  rw [List.getElem?_map, List.getElem?_map, h] at e2
  exact He.DefD.funD (Option.some.inj e2) (List.all_eq_true.mp c2 d (List.mem_of_getElem? h))
end
/-- all of a list of facts -/
def allB (fs : List (PySem.W.Frag → Bool)) (K : PySem.W.Frag) : Bool := fs.all fun f => f K
theorem allB_at {fs : List (PySem.W.Frag → Bool)} {K : PySem.W.Frag} (h : allB fs K = true) (i : Nat) {f : PySem.W.Frag → Bool} (e : fs[i]? = some f := by rfl) : f K = true := List.all_eq_true.mp h f (List.mem_of_getElem? e)

/-! ### the law's own promise -/
theorem RWs.ints {K : PySem.W.Frag} {ρ : Nat → Addr} {N : Nat} {H : Hp} : ∀ ns : List Int, RWs K ρ N H (ns.map PV.int) (ns.map V.int)
  | [] => .nil
  | n :: r => .cons (.int n) (RWs.ints r)
/-- the law's call on the script as a locked list -/
theorem law_sp {K : PySem.W.Frag} {np N : Nat} {mb : MS} (hnp : np = 1) (h : ∀ ns : List Int, ns.length ≤ 63 → ∃ S', fnOf np N mb [.loc 0] [.rol (ns.map .int)] = .ok (.bl true) S') (H : Hp) (a : Addr) (ns : List Int) (hl : ns.length ≤ 63) (hO : Only H) (hS : SqL K H a (ns.map V.int)) :
    spI K np (fnOf np N mb) [.ref a] H (fun v _ => v = .bl true) fun _ _ _ => False := by
  subst hnp
  have ro : RoL K H a (ns.map V.int) := by
    rcases hS with (hS | hS) | hS
    · rcases hO a with z | ⟨o, xs, z⟩
      · rw [z] at hS; cases hS
      · rw [z] at hS; cases hS
    · exact .inl hS
    · exact .inr hS
  obtain ⟨S', e⟩ := h ns hl
  refine ⟨fun _ => a, [.rol (ns.map .int)], [.loc 0], ⟨fun n o hn => ?_, fun n m o o' hn hm q _ _ => ?_⟩, .cons (.loc (ρ := fun _ => a) 0 (Nat.lt_succ_self 0)) .nil, rfl, ?_⟩
  · cases n with
    | zero => cases hn; exact ⟨_, ro, RWs.ints ns⟩
    | succ n => simp at hn
  · cases n with
    | zero => cases hn; cases q
    | succ n => simp at hn
  · rw [e]
    exact fun ρ' H' v _ _ r => by cases r; rfl
/-- what an exception at the top would ask -/
theorem cx_none {P : Program} {w : World} {H : Hp} {s : Shared} {e : Value} {s' : Shared} (h : L2.CX P w [] H s (fun _ _ _ => False) e s') : False := by
  obtain ⟨_, _, _, _, _, _, _, _, _, _, _, _, z⟩ := h
  exact z
theorem lastM {X : Cx} {W : WX} (h : ∀ c d σ H, W c d σ H → False) : Takes X W := fun _ _ ⟨_, _, _, _, _, _, _, _, _, _, _, _, _, _, _, _, z⟩ => (h _ _ _ _ z).elim
/-- the end of the law, the written part found by the hook -/
theorem walk_end {l : PySem.W.OpenLaw} {n k : Nat} {q : Program} {loose : List Str} {XP : (Str → Option Value) → Heap → Prop} {YP : World → Heap → Prop} {d : DefRec} {x : Str}
    (hn : l.most = some n) (hz : n ≤ sizeLine) (hdf : d.params.defaults = []) (hr : Room k callerA)
    (F : ∀ (w : World) (mg : Str → Option Value) (fa : Addr) (h : Heap), YP w h → h.Ns mainGlobals mg → mg d.name = some (.ref fa) → ∃ (K : PySem.W.Frag) (fd : FuncData) (sp : Sp),
      K.In h ∧ (∀ (s : Shared) (u : Value), BindsTo s fd ⟨[u], []⟩ [(x, u)]) ∧
      (∀ (H : Hp) (a : Addr) (ns : List Int), ns.length ≤ n → Only H → SqL K H a (ns.map V.int) → sp [.ref a] H (fun v _ => v = .bl true) fun _ _ _ => False) ∧
      ∀ base : Heap, K.In base → base.Ns mainGlobals mg → FnOk l.prog w K mg base (L2.CX l.prog w) k fa fd [x] sp) :
    PySem.W.WalkO q loose XP YP l.row.toRowW d [] (fun f vs => PySem.call f vs) := by
  apply Att.attach_call hn hdf
  intro w s₀ s₁ mg mb fa o pm cd doc a vs ns G Y ho hd hcd hmg hobj hints hlen hg
  obtain ⟨K, fd, sp, KX, hb, hsp, hF⟩ := F w mg fa _ Y G.T.g hmg
  have go := law_call KX G.T.g G.T.b G.T.builtins G.T.nolimit hg hobj hints (Nat.le_trans hlen hz) hr hF hb
  exact go (fun H hO hS => hsp H a ns hlen hO hS) fun H e s' z => cx_none z
end GL

set_option Elab.async false
set_option linter.all false
set_option maxRecDepth 100000
set_option maxHeartbeats 1000000
namespace GL
open PySem PySem.Spec PyProof.Rows L2

/-! ### all and any of a list of bools -/
def blsOf : List PV → Option (List Bool)
  | [] => some []
  | .bl b :: r => (blsOf r).map (b :: ·)
  | _ => none
theorem blsOf_rel {K : PySem.W.Frag} {ρ : Nat → Addr} {N : Nat} {H : Hp} : ∀ {ws : List PV} {vs : List V} {bs : List Bool}, RWs K ρ N H ws vs → blsOf ws = some bs → vs = bs.map V.bl
  | _, _, bs, .nil, h => by cases h; rfl
  | .bl b :: ws, _, bs, .cons r t, h => by
    cases r
    simp only [blsOf, Option.map_eq_some_iff] at h
    obtain ⟨cs, hc, rfl⟩ := h
    rw [blsOf_rel t hc]; rfl
def fAll : MF := fun ws S => match ws with
  | [.loc n] => (match (seqAt S n).bind blsOf with
    | some bs => .ok (.bl (bs.all id)) S
    | none => .bad)
  | _ => .bad
def fAny : MF := fun ws S => match ws with
  | [.loc n] => (match (seqAt S n).bind blsOf with
    | some bs => .ok (.bl (bs.any id)) S
    | none => .bad)
  | _ => .bad
section
variable {X : Cx}
theorem ci_all : CallI X (rAll X.K) fAll := by
  intro ρ S H ws vs Ex Q hS r h
  unfold fAll at h
  split at h
  · split at h
    · rename_i bs e
      obtain ⟨xs, e1, e2⟩ := Option.bind_eq_some_iff.mp e
      obtain ⟨ys, s, t⟩ := seq_of hS e1
      cases r with
      | cons r t' => cases t'; cases r; exact ⟨_, bs, rfl, blsOf_rel t e2 ▸ s, h.here hS (.bl _)⟩
    · exact h.elim
  · exact h.elim
theorem ci_any : CallI X (rAny X.K) fAny := by
  intro ρ S H ws vs Ex Q hS r h
  unfold fAny at h
  split at h
  · split at h
    · rename_i bs e
      obtain ⟨xs, e1, e2⟩ := Option.bind_eq_some_iff.mp e
      obtain ⟨ys, s, t⟩ := seq_of hS e1
      cases r with
      | cons r t' => cases t'; cases r; exact ⟨_, bs, rfl, blsOf_rel t e2 ▸ s, h.here hS (.bl _)⟩
    · exact h.elim
  · exact h.elim
end
end GL

set_option Elab.async false
set_option linter.all false
set_option maxRecDepth 100000
set_option maxHeartbeats 1000000
namespace GL
open PySem PySem.Spec PyProof.Rows L2

/-! ### a dict of the module, its keys texts -/
def lookC (k : List Nat) : List (List Nat × PV) → Option PV
  | [] => none
  | (a, w) :: r => if a = k then some w else lookC k r
/-- T[e], T a dict of the module -/
def eKd (kvs : List (List Nat × PV)) (b : ME) : ME := fun ls S => (b ls S).bind fun y S1 => match y with
  | .str s => (match lookC s kvs with
    | some v => .ok v S1
    | none => .bad)
  | _ => .bad
def inKd (neg : Bool) (kvs : List (List Nat × PV)) (b : ME) : ME := fun ls S => (b ls S).bind fun y S1 => match y with
  | .str s => (match lookC s kvs with
    | some _ => .ok (.bl (!neg)) S1
    | none => .bad)
  | _ => .bad
def kdB (K : PySem.W.Frag) (a : Addr) (kvs : List (List Nat × PV)) : Bool := kvs.all fun q => match PySem.W.nsIn K a (toS q.1) with
  | some (some u) => gvB K 20 q.2 u
  | _ => false
/-- the module's name x is this dict -/
structure KD (K : PySem.W.Frag) (w : World) (mg : Str → Option Value) (x : Str) (kvs : List (List Nat × PV)) : Prop where
  ex : ∃ a, mg x = some (.ref a) ∧ (∃ es n, KDict K w a es n) ∧ kdB K a kvs = true
theorem lookC_ok {K : PySem.W.Frag} {a : Addr} {k : List Nat} {v : PV} : ∀ {kvs : List (List Nat × PV)}, kdB K a kvs = true → lookC k kvs = some v → ∃ u v0, PySem.W.nsIn K a (toS k) = some (some u) ∧ RelV v0 u ∧ GVal K v0 v
  | [], _, h => by cases h
  | (b, w) :: r, hk, h => by
    have h1 := Bool.and_eq_true_iff.mp (show ((match PySem.W.nsIn K a (toS b) with
      | some (some u) => gvB K 20 w u
      | _ => false) && kdB K a r) = true from hk)
    unfold lookC at h
    split at h
    · rename_i e
      cases h
      subst e
      have h2 := h1.1
      split at h2
      · rename_i u e
        obtain ⟨v0, r0, g⟩ := gv_ok h2
        exact ⟨u, v0, e, r0, g⟩
      · cases h2
    · exact lookC_ok h1.2 h
section
variable {X : Cx} {Wx : WX} {pos p : Pos} {b : Expr} {mb : ME} {x : Str} {kvs : List (List Nat × PV)}
theorem ie_kd (k : KD X.K X.w X.mg x kvs) (hb : IE X Wx b mb) (hg : Gl X x := by rfl) (hd : (x == ("__debug__" : Str)) = false := by decide) (hs : PlainIx b := by exact fun _ _ => rfl) : IE X Wx (.Subscript (.Name x p) b pos) (eKd kvs mb) := by
  obtain ⟨a, hm, ⟨es, n, D⟩, hk⟩ := k.ex
  refine PEi (pe_ix ix_kdict (pe_glob (v := V.ref a) hg hm rfl hd) hb hs) fun σ H Q ⟨ρ, S, ls, hS, hL, h⟩ => ?_
  show tE X.K Wx mb σ H _
  refine ⟨ρ, S, ls, hS, hL, (Post.bind (R := RW) h).imp fun y H1 ⟨ρ1, S1, w1, e1, hS1, r1, h1⟩ => ?_⟩
  split at h1
  · rename_i s
    split at h1
    · rename_i v el
      obtain ⟨u, v0, e2, rv, g⟩ := lookC_ok hk el
      cases r1 with
      | str z =>
        refine ⟨a, z, v0, rfl, rfl, ⟨es, n, u, D.at_, D.lit, ?_, rv⟩, h1.here hS1 (g _ _ _)⟩
        have e3 : toS z.cps.toList = z := toS_cps z
        rw [← e3]; exact e2
    · exact h1.elim
  · exact h1.elim
end
/-! ### the hook with such dicts -/
def kdA (x : Str) : PySem.W.Frag → Addr := fun K => He.ga K x
abbrev AlK : Type := He.AlD × List (Option (List (Option (Str × Int))))
def obsK (fb : PySem.W.Frag → Bool) (fn : List He.DefD) (ts : List He.Tab) (K : PySem.W.Frag) : AlK := (obsB fb fn K, ts.map fun t => He.dicW K (t.1 K))
def valK (fn : List He.DefD) (ts : List He.Tab) (w : World) : AlK := (He.valD fn, ts.map fun t => some (He.keysIn w.params t.2))
def SaysK (fb : PySem.W.Frag → Bool) (fn : List He.DefD) (ts : List He.Tab) (w : World) (K : PySem.W.Frag) : Prop := obsK fb fn ts K = valK fn ts w
def obsKG (n : Nat) (fb : PySem.W.Frag → Bool) (fn : List He.DefD) (ts : List He.Tab) (g : Addr → Option Obj) : AlK := obsK fb fn ts (He.frG g (He.asD g n))
def hookK (n : Nat) (fb : PySem.W.Frag → Bool) (fn : List He.DefD) (ts : List He.Tab) : PySem.W.Hook where
  α := AlK
  obs := fun s => obsKG n fb fn ts s.heap.get?
  val := fun w => valK fn ts w
  says := fun w h => ∃ K : PySem.W.Frag, K.In h ∧ SaysK fb fn ts w K
  of := fun _ _ e => ⟨_, He.frG_in, e⟩
  keeps := fun _ _ _ ⟨K, hK, c⟩ k => ⟨K, PySem.W.Frag.In.keeps hK k, c⟩
theorem obsKG_eq {n : Nat} {fb : PySem.W.Frag → Bool} {fn : List He.DefD} {ts : List He.Tab} {g : Addr → Option Obj} {s : Shared} (h : ∀ a, g a = s.heap.get? a) : obsKG n fb fn ts g = (hookK n fb fn ts).obs s := by
  have e : g = s.heap.get? := funext h
  rw [e]
  rfl
section
variable {fb : PySem.W.Frag → Bool} {fn : List He.DefD} {ts : List He.Tab} {w : World} {K : PySem.W.Frag}
theorem SaysK.d (c : SaysK fb fn ts w K) : SaysB fb fn K := congrArg (fun z : AlK => z.1) c
theorem SaysK.tab (c : SaysK fb fn ts w K) (i : Nat) {t : He.Tab} (h : ts[i]? = some t := by rfl) : ∃ es n, KDict K w (t.1 K) es n := by
  have e : ts.map (fun t => He.dicW K (t.1 K)) = ts.map fun t => some (He.keysIn w.params t.2) := congrArg (fun z : AlK => z.2) c
  have e2 : (ts.map fun t => He.dicW K (t.1 K))[i]? = (ts.map fun t => some (He.keysIn w.params t.2))[i]? := by rw [e]
  rw [List.getElem?_map, List.getElem?_map, h] at e2
  exact He.dicW_ok (Option.some.inj e2)
end
theorem kd_ok {K : PySem.W.Frag} {w : World} {h : Heap} {mg : Str → Option Value} {x : Str} {kvs : List (List Nat × PV)} (X : K.In h) (G : h.Ns mainGlobals mg) (hg : (He.Fa.glo x).ok K = true) (hd : ∃ es n, KDict K w (He.ga K x) es n) (hk : kdB K (He.ga K x) kvs = true) : KD K w mg x kvs :=
  ⟨_, He.glo_ok X G hg, hd, hk⟩
end GL

set_option Elab.async false
set_option linter.all false
set_option maxRecDepth 100000
set_option maxHeartbeats 1000000
namespace GL
open PySem (Str)

/-! ### simp rules: the combinators at a state -/
section
variable {α β : Type} {S S' : Sto} {ls : Ls} {a b c : ME} {t u : MT} {m m1 m2 : MS} {w v : PV}
@[simp] theorem bind_ok {x : α} {f : α → Sto → Out β} : (Out.ok x S).bind f = f x S := rfl
@[simp] theorem bind_bad {f : α → Sto → Out β} : (Out.bad : Out α).bind f = .bad := rfl
@[simp] theorem then_ok {x : α} {f : α → Sto → SOut} : (Out.ok x S).then ls f = f x S := rfl
@[simp] theorem seq_nx {f : MS} : (SOut.nx ls S).seq f = f ls S := rfl
@[simp] theorem seq_rt {f : MS} : (SOut.rt w S).seq f = .rt w S := rfl
@[simp] theorem seq_bk {f : MS} : (SOut.bk ls S).seq f = .bk ls S := rfl
@[simp] theorem seq_ct {f : MS} : (SOut.ct ls S).seq f = .ct ls S := rfl
@[simp] theorem eC_ap : eC w ls S = .ok w S := rfl
@[simp] theorem sSeq_ap : sSeq m1 m2 ls S = (m1 ls S).seq m2 := rfl
@[simp] theorem sNil_ap : sNil ls S = .nx ls S := rfl
@[simp] theorem sBk_ap : sBk ls S = .bk ls S := rfl
@[simp] theorem sCt_ap : sCt ls S = .ct ls S := rfl
@[simp] theorem sRetN_ap : sRetN ls S = .rt .non S := rfl
theorem sSet_ap {i : Nat} : sSet i a ls S = (a ls S).then ls fun w S1 => .nx (ls.set i (some w)) S1 := rfl
theorem sRet_ap : sRet a ls S = (a ls S).then ls fun w S1 => .rt w S1 := rfl
theorem sExpr_ap : sExpr a ls S = (a ls S).then ls fun _ S1 => .nx ls S1 := rfl
theorem sIf_ap : sIf t m1 m2 ls S = (t ls S).then ls fun k S1 => if k = true then m1 ls S1 else m2 ls S1 := rfl
@[simp] theorem aNil_ap : aNil ls S = .ok [] S := rfl
theorem aCons_ap {r : MA} : aCons a r ls S = (a ls S).bind fun w S1 => (r ls S1).bind fun ws S2 => .ok (w :: ws) S2 := rfl
theorem eOp_ap {g : PV → PV → Sto → Out PV} : eOp g a b ls S = (a ls S).bind fun w1 S1 => (b ls S1).bind fun w2 S2 => g w1 w2 S2 := rfl
theorem eB_ap {g : MF} {r : MA} : eB g r ls S = (r ls S).bind fun ws S1 => g ws S1 := rfl
theorem eMt_ap {chk : PV → Sto → Bool} {g : PV → MF} {r : MA} : eMt chk g a r ls S = (a ls S).bind fun w S1 => if chk w S1 = true then (r ls S1).bind fun ws S2 => g w ws S2 else .bad := rfl
theorem toT_ap : toT a ls S = (a ls S).bind asB := rfl
@[simp] theorem asB_bl {k : Bool} : asB (.bl k) S = .ok k S := rfl
theorem eCall_ap {fn : MF} {d : List PV} {r : MA} : eCall fn d r ls S = (r ls S).bind fun ws S1 => fn (ws ++ d) S1 := rfl
theorem tAndM_ap : tAndM t u ls S = (t ls S).bind fun k S1 => if k = true then u ls S1 else .ok false S1 := rfl
theorem tOrM_ap : tOrM t u ls S = (t ls S).bind fun k S1 => if k = true then .ok true S1 else u ls S1 := rfl
theorem tNotM_ap : tNotM t ls S = (t ls S).bind fun k S1 => .ok (!k) S1 := rfl
@[simp] theorem gAdd_int {i j : Int} : gAdd (.int i) (.int j) S = .ok (.int (i + j)) S := rfl
@[simp] theorem gSub_int {i j : Int} : gSub (.int i) (.int j) S = .ok (.int (i - j)) S := rfl
@[simp] theorem gLt_int {i j : Int} : gLt (.int i) (.int j) S = .ok (.bl (decide (i < j))) S := rfl
@[simp] theorem gLe_int {i j : Int} : gLe (.int i) (.int j) S = .ok (.bl (decide (i ≤ j))) S := rfl
@[simp] theorem gGt_int {i j : Int} : gGt (.int i) (.int j) S = .ok (.bl (decide (j < i))) S := rfl
@[simp] theorem gGe_int {i j : Int} : gGe (.int i) (.int j) S = .ok (.bl (decide (j ≤ i))) S := rfl
@[simp] theorem gEq_int {i j : Int} : gEq (.int i) (.int j) S = .ok (.bl (decide (i = j))) S := rfl
@[simp] theorem gNe_int {i j : Int} : gNe (.int i) (.int j) S = .ok (.bl (!decide (i = j))) S := rfl
@[simp] theorem gEq_str {i j : List Nat} : gEq (.str i) (.str j) S = .ok (.bl (decide (i = j))) S := rfl
@[simp] theorem gNe_str {i j : List Nat} : gNe (.str i) (.str j) S = .ok (.bl (!decide (i = j))) S := rfl
theorem gMod_int {i j : Int} (h : 0 < j) : gMod (.int i) (.int j) S = .ok (.int (i % j)) S := by
  simp [gMod, gIntC, cMod, h]
theorem gDiv_int {i j : Int} (h : 0 < j) (h2 : j < 1073741824) : gDiv (.int i) (.int j) S = .ok (.int (i / j)) S := by
  simp [gDiv, gIntC, cDiv, h, h2]
theorem gMul_int {i j : Int} (h : smallI i = true ∨ smallI j = true) : gMul (.int i) (.int j) S = .ok (.int (i * j)) S := by
  simp only [gMul, Bool.or_eq_true, h, if_true]
@[simp] theorem fInt_int {i : Int} : fInt [.int i] S = .ok (.int i) S := rfl
@[simp] theorem fInt_bl {k : Bool} : fInt [.bl k] S = .ok (.int (if k then 1 else 0)) S := rfl
@[simp] theorem fAbs_int {i : Int} : fAbs [.int i] S = .ok (.int (if i < 0 then -i else i)) S := rfl
theorem fLen_loc {n : Nat} {xs : List PV} (h : seqAt S n = some xs) : fLen [.loc n] S = .ok (.int xs.length) S := by simp [fLen, h]
@[simp] theorem fLen_tup {xs : List PV} : fLen [.tup xs] S = .ok (.int xs.length) S := rfl
end
theorem seqAt_lst {S : Sto} {n : Nat} {xs : List PV} (h : lstAt S n = some xs) : seqAt S n = some xs := by
  unfold seqAt; rw [lstAt_get h]
theorem lstAt_of {S : Sto} {n : Nat} {xs : List PV} (h : S[n]? = some (.lst xs)) : lstAt S n = some xs := by unfold lstAt; rw [h]
/-- a function's run -/
theorem fnOf_rt {np n : Nat} {m : MS} {ws : List PV} {S S' : Sto} {w : PV} (hl : ws.length = np) (h : m (ws.map some ++ List.replicate (n - np) none) S = .rt w S') : fnOf np n m ws S = .ok w S' := by
  unfold fnOf; rw [if_pos hl, h]
theorem fnOf_nx {np n : Nat} {m : MS} {ws : List PV} {S S' : Sto} {ls : Ls} (hl : ws.length = np) (h : m (ws.map some ++ List.replicate (n - np) none) S = .nx ls S') : fnOf np n m ws S = .ok .non S' := by
  unfold fnOf; rw [if_pos hl, h]

/-! ### loops -/
/-- a turn is over: what comes next -/
def loopK (q : SOut) (k : Ls → Sto → SOut) : SOut := match q with
  | .nx ls S => k ls S
  | .ct ls S => k ls S
  | .bk ls S => .nx ls S
  | q => q
section
variable {ls ls1 : Ls} {S S' : Sto} {k : Ls → Sto → SOut} {w : PV}
@[simp] theorem loopK_nx : loopK (.nx ls S) k = k ls S := rfl
@[simp] theorem loopK_ct : loopK (.ct ls S) k = k ls S := rfl
@[simp] theorem loopK_bk : loopK (.bk ls S) k = .nx ls S := rfl
@[simp] theorem loopK_rt : loopK (.rt w S) k = .rt w S := rfl
variable {chk : Nat → Sto → Bool} {g : MG} {body : MS} {i : Nat} {x : PV} {r : List PV}
theorem forGo_cons (hc : chk i S = true) (hg : g x ls = some ls1) : forGo chk g body i (x :: r) ls S = loopK (body ls1 S) (forGo chk g body (i + 1) r) := by
  rw [forGo, if_pos hc, hg]
  dsimp only
  cases body ls1 S <;> rfl
theorem forGo_nil (hc : chk i S = true) : forGo chk g body i [] ls S = .nx ls S := by rw [forGo, if_pos hc]
end
/-- a for by an invariant, nothing left early -/
theorem forGo_inv {chk : Nat → Sto → Bool} {g : MG} {body : MS} (I : Nat → Ls → Sto → Prop) : ∀ (xs : List PV) (i : Nat) (ls : Ls) (S : Sto),
    (∀ j x ls S, xs[j]? = some x → I (i + j) ls S → chk (i + j) S = true ∧ ∃ ls1, g x ls = some ls1 ∧ ∃ ls2 S2, (body ls1 S = .nx ls2 S2 ∨ body ls1 S = .ct ls2 S2) ∧ I (i + j + 1) ls2 S2) →
    (∀ ls S, I (i + xs.length) ls S → chk (i + xs.length) S = true) → I i ls S → ∃ ls' S', forGo chk g body i xs ls S = .nx ls' S' ∧ I (i + xs.length) ls' S'
  | [], i, ls, S, _, h2, h => ⟨ls, S, forGo_nil (h2 ls S h), h⟩
  | x :: r, i, ls, S, h1, h2, h => by
    obtain ⟨hc, ls1, e1, ls2, S2, e2, h3⟩ := h1 0 x ls S (by simp) h
    obtain ⟨ls', S', e, h4⟩ := forGo_inv I r (i + 1) ls2 S2 (fun j y ls S hj hI => by
      have := h1 (j + 1) y ls S (by simpa using hj) (by rw [show i + (j + 1) = i + 1 + j by omega]; exact hI)
      rw [show i + (j + 1) = i + 1 + j by omega] at this
      exact this) (fun ls S hI => by
      have := h2 ls S (by rw [List.length_cons, show i + (r.length + 1) = i + 1 + r.length by omega]; exact hI)
      rw [List.length_cons, show i + (r.length + 1) = i + 1 + r.length by omega] at this
      exact this) h3
    refine ⟨ls', S', ?_, by rw [List.length_cons, show i + (r.length + 1) = i + 1 + r.length by omega]; exact h4⟩
    rw [forGo_cons (i := i) hc e1]
    rcases e2 with e2 | e2 <;> (rw [e2]; exact e)
theorem sFor_nx {it : MI} {g : MG} {body : MS} {ls ls' : Ls} {S S1 S' : Sto} {t : Wk} (hi : it ls S = .ok t S1) (h : forGo t.chk g body 0 t.items ls S1 = .nx ls' S') : sFor it g body ls S = .nx ls' S' := by
  unfold sFor; rw [hi]; exact h
theorem set_len {S : Sto} {n : Nat} {o : OB} : (S.set n o).length = S.length := List.length_set
/-! ### the digits of a script -/
def m_row : MS := (sSeq (sSet 2 (eLst aNil))
  (sSeq (sFor (iSeq (eVar 0)) (gN 3)
  (sSeq (sSet 4 (eB fAbs (aCons (eB fInt (aCons (eVar 3) aNil)) aNil)))
  (sFor (iR1 (eC (.int 60))) (gN 5)
  (sSeq (sIf (toT (eOp gLt (eB fLen (aCons (eVar 2) aNil)) (eVar 1)))
  (sExpr (eMt kList mAppend (eVar 2) (aCons (eOp gMod (eVar 4) (eC (.int 16))) aNil)))
  sNil)
  (sSeq (sSet 4 (eOp gDiv (eVar 4) (eC (.int 16))))
  (sIf (toT (eOp gEq (eVar 4) (eC (.int 0))))
  sBk
  sNil))))))
  (sRet (eVar 2))))
/-- digits: at most most of them, each from 0 to 15 -/
def Digs (most : Nat) (ds : List Int) : Prop := ds.length ≤ most ∧ ∀ d ∈ ds, 0 ≤ d ∧ d < 16
def intsL (ds : List Int) : List PV := ds.map .int
@[simp] theorem intsL_len {ds : List Int} : (intsL ds).length = ds.length := by simp [intsL]
theorem row_inner (most : Nat) (hm : most ≤ 1000) (a0 a3 : Option PV) (n : Nat) : ∀ (xs : List PV) (i : Nat) (rest : Int) (a5 : Option PV) (S : Sto) (ds : List Int), 0 ≤ rest → Digs most ds → lstAt S n = some (intsL ds) →
    ∃ rest' a5' ds', forGo always (gN 5) (sSeq (sIf (toT (eOp gLt (eB fLen (aCons (eVar 2) aNil)) (eVar 1)))
      (sExpr (eMt kList mAppend (eVar 2) (aCons (eOp gMod (eVar 4) (eC (.int 16))) aNil)))
      sNil)
      (sSeq (sSet 4 (eOp gDiv (eVar 4) (eC (.int 16))))
      (sIf (toT (eOp gEq (eVar 4) (eC (.int 0))))
      sBk
      sNil))) i xs [a0, some (.int most), some (.loc n), a3, some (.int rest), a5] S = .nx [a0, some (.int most), some (.loc n), a3, some (.int rest'), a5'] (S.set n (.lst (intsL ds'))) ∧ Digs most ds'
  | [], i, rest, a5, S, ds, h0, hd, hl => by
    refine ⟨rest, a5, ds, ?_, hd⟩
    have : S.set n (.lst (intsL ds)) = S := by
      have e := lstAt_get hl
      obtain ⟨h1, h2⟩ := List.getElem?_eq_some_iff.mp e
      rw [← h2]; exact List.set_getElem_self h1
    rw [this]; rfl
  | x :: r, i, rest, a5, S, ds, h0, hd, hl => by
    have hs := seqAt_lst hl
    have len := lt_of_get (lstAt_get hl)
    rw [forGo_cons (ls1 := [a0, some (.int most), some (.loc n), a3, some (.int rest), some x]) rfl rfl]
    have h16 : (0 : Int) ≤ rest % 16 ∧ rest % 16 < 16 := by omega
    have hdiv : 0 ≤ rest / 16 := by omega
    by_cases hlt : (ds.length : Int) < most
    · have e1 : (sIf (toT (eOp gLt (eB fLen (aCons (eVar 2) aNil)) (eVar 1)))
          (sExpr (eMt kList mAppend (eVar 2) (aCons (eOp gMod (eVar 4) (eC (.int 16))) aNil)))
          sNil) [a0, some (.int most), some (.loc n), a3, some (.int rest), some x] S = .nx [a0, some (.int most), some (.loc n), a3, some (.int rest), some x] (S.set n (.lst (intsL (ds ++ [rest % 16])))) := by
        have hz : ds.length < lim := by have : lim = 100000 := rfl; omega
        simp [sIf_ap, toT_ap, eOp_ap, eB_ap, aCons_ap, eVar, fLen_loc hs, hlt, sExpr_ap, eMt_ap, kList, hs, gMod_int, mAppend, hl, hz, intsL]
      have hl2 : lstAt (S.set n (.lst (intsL (ds ++ [rest % 16])))) n = some (intsL (ds ++ [rest % 16])) := lstAt_of (by rw [List.getElem?_set_self len])
      have hd2 : Digs most (ds ++ [rest % 16]) := ⟨by rw [List.length_append, List.length_singleton]; omega, fun d hd' => by
        rcases List.mem_append.mp hd' with h | h
        · exact hd.2 d h
        · rw [List.mem_singleton.mp h]; exact h16⟩
      rw [sSeq_ap, e1]
      by_cases hz : rest / 16 = 0
      · refine ⟨rest / 16, some x, ds ++ [rest % 16], ?_, hd2⟩
        simp [sSet_ap, eOp_ap, eVar, gDiv_int, sIf_ap, toT_ap, hz]
      · obtain ⟨rest', a5', ds', e, hd'⟩ := row_inner most hm a0 a3 n r (i + 1) (rest / 16) (some x) _ _ hdiv hd2 hl2
        refine ⟨rest', a5', ds', ?_, hd'⟩
        rw [List.set_set] at e
        rw [← e]
        simp [sSet_ap, eOp_ap, eVar, gDiv_int, sIf_ap, toT_ap, hz]
    · have e1 : (sIf (toT (eOp gLt (eB fLen (aCons (eVar 2) aNil)) (eVar 1)))
          (sExpr (eMt kList mAppend (eVar 2) (aCons (eOp gMod (eVar 4) (eC (.int 16))) aNil)))
          sNil) [a0, some (.int most), some (.loc n), a3, some (.int rest), some x] S = .nx [a0, some (.int most), some (.loc n), a3, some (.int rest), some x] S := by
        simp [sIf_ap, toT_ap, eOp_ap, eB_ap, aCons_ap, eVar, fLen_loc hs, hlt]
      rw [sSeq_ap, e1]
      by_cases hz : rest / 16 = 0
      · refine ⟨rest / 16, some x, ds, ?_, hd⟩
        have : S.set n (.lst (intsL ds)) = S := by
          obtain ⟨h1, h2⟩ := List.getElem?_eq_some_iff.mp (lstAt_get hl)
          rw [← h2]; exact List.set_getElem_self h1
        rw [this]
        simp [sSet_ap, eOp_ap, eVar, gDiv_int, sIf_ap, toT_ap, hz]
      · obtain ⟨rest', a5', ds', e, hd'⟩ := row_inner most hm a0 a3 n r (i + 1) (rest / 16) (some x) _ _ hdiv hd hl
        refine ⟨rest', a5', ds', ?_, hd'⟩
        rw [← e]
        simp [sSet_ap, eOp_ap, eVar, gDiv_int, sIf_ap, toT_ap, hz]
theorem rng60 : rngL 0 60 = (List.range 60).map fun (i : Nat) => .int (i : Int) := by
  unfold rngL
  simp
theorem row_outer (most : Nat) (hm : most ≤ 1000) (a0 : Option PV) (n : Nat) : ∀ (ns : List Int) (i : Nat) (a3 a4 a5 : Option PV) (S : Sto) (ds : List Int), Digs most ds → lstAt S n = some (intsL ds) →
    ∃ a3' a4' a5' ds', forGo always (gN 3) (sSeq (sSet 4 (eB fAbs (aCons (eB fInt (aCons (eVar 3) aNil)) aNil)))
      (sFor (iR1 (eC (.int 60))) (gN 5)
      (sSeq (sIf (toT (eOp gLt (eB fLen (aCons (eVar 2) aNil)) (eVar 1)))
      (sExpr (eMt kList mAppend (eVar 2) (aCons (eOp gMod (eVar 4) (eC (.int 16))) aNil)))
      sNil)
      (sSeq (sSet 4 (eOp gDiv (eVar 4) (eC (.int 16))))
      (sIf (toT (eOp gEq (eVar 4) (eC (.int 0))))
      sBk
      sNil))))) i (ns.map .int) [a0, some (.int most), some (.loc n), a3, a4, a5] S = .nx [a0, some (.int most), some (.loc n), a3', a4', a5'] (S.set n (.lst (intsL ds'))) ∧ Digs most ds'
  | [], i, a3, a4, a5, S, ds, hd, hl => by
    refine ⟨a3, a4, a5, ds, ?_, hd⟩
    have : S.set n (.lst (intsL ds)) = S := by
      obtain ⟨h1, h2⟩ := List.getElem?_eq_some_iff.mp (lstAt_get hl)
      rw [← h2]; exact List.set_getElem_self h1
    rw [this]; rfl
  | x :: r, i, a3, a4, a5, S, ds, hd, hl => by
    have len := lt_of_get (lstAt_get hl)
    rw [List.map_cons, forGo_cons (ls1 := [a0, some (.int most), some (.loc n), some (.int x), a4, a5]) rfl rfl]
    have h0 : (0 : Int) ≤ (if x < 0 then -x else x) := by split <;> omega
    obtain ⟨rest', a5', ds1, e, hd1⟩ := row_inner most hm a0 (some (.int x)) n (rngL 0 60) 0 _ a5 S ds h0 hd hl
    have hl1 : lstAt (S.set n (.lst (intsL ds1))) n = some (intsL ds1) := lstAt_of (by rw [List.getElem?_set_self len])
    obtain ⟨b3, b4, b5, ds2, e2, hd2⟩ := row_outer most hm a0 n r (i + 1) (some (.int x)) (some (.int rest')) a5' _ ds1 hd1 hl1
    refine ⟨b3, b4, b5, ds2, ?_, hd2⟩
    rw [List.set_set] at e2
    rw [← e2]
    have e1 : sSet 4 (eB fAbs (aCons (eB fInt (aCons (eVar 3) aNil)) aNil)) [a0, some (.int most), some (.loc n), some (.int x), a4, a5] S = .nx [a0, some (.int most), some (.loc n), some (.int x), some (.int (if x < 0 then -x else x)), a5] S := by
      simp [sSet_ap, eB_ap, aCons_ap, eVar]
    rw [sSeq_ap, e1, seq_nx, sFor_nx (t := ⟨rngL 0 60, always⟩) rfl e, loopK_nx]
theorem row_ok {n : Nat} {ns : List Int} {most : Nat} {S : Sto} (hS : S[n]? = some (.rol (ns.map .int))) (hm : most ≤ 1000) : ∃ ds, fnOf 2 6 m_row [.loc n, .int most] S = .ok (.loc S.length) (S ++ [.lst (intsL ds)]) ∧ Digs most ds := by
  have hl : lstAt (S ++ [.lst (intsL [])]) S.length = some (intsL []) := lstAt_of (by rw [List.getElem?_append_right (Nat.le_refl _)]; simp)
  obtain ⟨a3, a4, a5, ds, e, hd⟩ := row_outer most hm (some (.loc n)) S.length ns 0 none none none _ [] ⟨Nat.zero_le _, fun _ h => by cases h⟩ hl
  refine ⟨ds, fnOf_rt rfl ?_, hd⟩
  have e1 : sSet 2 (eLst aNil) [some (.loc n), some (.int most), none, none, none, none] S = .nx [some (.loc n), some (.int most), some (.loc S.length), none, none, none] (S ++ [.lst (intsL [])]) := rfl
  have ei : iSeq (eVar 0) [some (.loc n), some (.int most), some (.loc S.length), none, none, none] (S ++ [.lst (intsL [])]) = .ok ⟨ns.map .int, always⟩ (S ++ [.lst (intsL [])]) := by
    have : (S ++ [OB.lst (intsL [])])[n]? = some (.rol (ns.map .int)) := by rw [List.getElem?_append_left (lt_of_get hS)]; exact hS
    simp [iSeq, eVar, this]
  have eS : (S ++ [OB.lst (intsL [])]).set S.length (.lst (intsL ds)) = S ++ [.lst (intsL ds)] := by
    rw [List.set_append_right _ _ (Nat.le_refl _)]; simp
  rw [eS] at e
  show m_row [some (.loc n), some (.int most), none, none, none, none] S = _
  unfold m_row
  rw [sSeq_ap, e1, seq_nx, sSeq_ap, sFor_nx ei e, seq_nx]
  rfl
/-! ### a number of two digits -/
def m_pick : MS := (sSeq (sSet 3 (eC (.int 0)))
  (sSeq (sIf (toT (eOp gLt (eVar 1) (eB fLen (aCons (eVar 0) aNil))))
  (sSet 3 (eOp gIx (eVar 0) (eVar 1)))
  sNil)
  (sSeq (sIf (toT (eOp gLt (eOp gAdd (eVar 1) (eC (.int 1))) (eB fLen (aCons (eVar 0) aNil))))
  (sSet 3 (eOp gAdd (eVar 3) (eOp gMul (eC (.int 16)) (eOp gIx (eVar 0) (eOp gAdd (eVar 1) (eC (.int 1)))))))
  sNil)
  (sRet (eOp gMod (eB fInt (aCons (eVar 3) aNil)) (eVar 2))))))
def pickV (ds : List Int) (i : Nat) (l : Int) : Int := (ds.getD i 0 + 16 * ds.getD (i + 1) 0) % l
theorem pickV_range {ds : List Int} {i : Nat} {l : Int} (h : 0 < l) : 0 ≤ pickV ds i l ∧ pickV ds i l < l := ⟨Int.emod_nonneg _ (by omega), Int.emod_lt_of_pos _ h⟩
theorem gIx_loc {S : Sto} {n i : Nat} {xs : List PV} {v : PV} (h : seqAt S n = some xs) (hi : xs[i]? = some v) : gIx (.loc n) (.int (i : Int)) S = .ok v S := by
  unfold gIx
  simp only [h, L2.atI_nat hi]
theorem gIx_tup {S : Sto} {i : Nat} {xs : List PV} {v : PV} (hi : xs[i]? = some v) : gIx (.tup xs) (.int (i : Int)) S = .ok v S := by
  unfold gIx
  simp only [L2.atI_nat hi]
theorem intsL_get {ds : List Int} {i : Nat} (h : i < ds.length) : (intsL ds)[i]? = some (.int (ds.getD i 0)) := by
  simp [intsL, List.getD, h]
theorem pick_ok {n i : Nat} {ds : List Int} {l : Int} {S : Sto} (hs : seqAt S n = some (intsL ds)) (hl : 0 < l) : fnOf 3 4 m_pick [.loc n, .int (i : Int), .int l] S = .ok (.int (pickV ds i l)) S := by
  refine fnOf_rt rfl ?_
  show m_pick [some (.loc n), some (.int i), some (.int l), none] S = _
  have hlen := fLen_loc hs
  rw [intsL_len] at hlen
  have step1 : (sSeq (sSet 3 (eC (.int 0))) (sIf (toT (eOp gLt (eVar 1) (eB fLen (aCons (eVar 0) aNil)))) (sSet 3 (eOp gIx (eVar 0) (eVar 1))) sNil)) [some (.loc n), some (.int i), some (.int l), none] S
      = .nx [some (.loc n), some (.int i), some (.int l), some (.int (ds.getD i 0))] S := by
    by_cases h : i < ds.length
    · have h' : (i : Int) < (ds.length : Int) := by omega
      simp [sSet_ap, sIf_ap, toT_ap, eOp_ap, eB_ap, aCons_ap, eVar, hlen, h', gIx_loc hs (intsL_get h)]
    · have h' : ¬ (i : Int) < (ds.length : Int) := by omega
      simp [sSet_ap, sIf_ap, toT_ap, eOp_ap, eB_ap, aCons_ap, eVar, hlen, h', List.getD, List.getElem?_eq_none (Nat.le_of_not_lt h)]
  have step2 : (sSeq (sIf (toT (eOp gLt (eOp gAdd (eVar 1) (eC (.int 1))) (eB fLen (aCons (eVar 0) aNil)))) (sSet 3 (eOp gAdd (eVar 3) (eOp gMul (eC (.int 16)) (eOp gIx (eVar 0) (eOp gAdd (eVar 1) (eC (.int 1)))))))  sNil)
      (sRet (eOp gMod (eB fInt (aCons (eVar 3) aNil)) (eVar 2)))) [some (.loc n), some (.int i), some (.int l), some (.int (ds.getD i 0))] S = .rt (.int (pickV ds i l)) S := by
    have e16 : ∀ j : Int, gMul (.int 16) (.int j) S = .ok (.int (16 * j)) S := fun j => gMul_int (.inl (by decide))
    by_cases h : i + 1 < ds.length
    · have h' : (i : Int) + 1 < (ds.length : Int) := by omega
      have hx := gIx_loc hs (intsL_get h)
      rw [show ((i + 1 : Nat) : Int) = (i : Int) + 1 by omega] at hx
      simp [sSet_ap, sIf_ap, toT_ap, eOp_ap, eB_ap, aCons_ap, eVar, hlen, h', hx, e16, sRet_ap, gMod_int hl, pickV]
    · have h' : ¬ (i : Int) + 1 < (ds.length : Int) := by omega
      have h0 : ds.getD (i + 1) 0 = 0 := by simp [List.getD, List.getElem?_eq_none (Nat.le_of_not_lt h)]
      simp [sSet_ap, sIf_ap, toT_ap, eOp_ap, eB_ap, aCons_ap, eVar, hlen, h', sRet_ap, gMod_int hl, pickV, List.getElem?_eq_none (Nat.le_of_not_lt h)]
  unfold m_pick
  rw [sSeq_ap] at step1 step2 ⊢
  rw [show (sSet 3 (eC (.int 0)) [some (.loc n), some (.int i), some (.int l), none] S) = .nx [some (.loc n), some (.int i), some (.int l), some (.int 0)] S from rfl, seq_nx] at step1 ⊢
  rw [sSeq_ap, step1, seq_nx, sSeq_ap]
  exact step2
end GL

set_option Elab.async false
set_option linter.all false
set_option maxRecDepth 100000
set_option maxHeartbeats 1000000
namespace GL
open PySem (Str)

/-! ### comprehensions whose elements lay nothing -/
theorem get_app {S : Sto} {o : OB} : (S ++ [o])[S.length]? = some o := by rw [List.getElem?_append_right (Nat.le_refl _)]; simp
theorem set_app {S : Sto} {o o' : OB} : (S ++ [o]).set S.length o' = S ++ [o'] := by rw [List.set_append_right _ _ (Nat.le_refl _)]; simp
theorem lcGo_pure {chk : Nat → Sto → Bool} {g : MG} {tt : MT} {te : ME} {vs : List Nat} {ls : Ls} {S1 : Sto} {p : PV → Bool} {f : PV → PV} : ∀ (xs : List PV) (i : Nat) (acc : List PV),
    (∀ x ∈ xs, ∀ acc, ∃ ls1, g x (wipeL ls vs) = some ls1 ∧ tt ls1 (S1 ++ [.lst acc]) = .ok (p x) (S1 ++ [.lst acc]) ∧ (p x = true → te ls1 (S1 ++ [.lst acc]) = .ok (f x) (S1 ++ [.lst acc]))) →
    (∀ i acc, chk i (S1 ++ [.lst acc]) = true) → acc.length + xs.length < lim →
    lcGo chk g tt te vs S1.length ls i xs (S1 ++ [.lst acc]) = .ok (.loc S1.length) (S1 ++ [.lst (acc ++ (xs.filter p).map f)])
  | [], i, acc, _, hc, _ => by
    rw [lcGo, if_pos (hc i acc)]
    simp
  | x :: r, i, acc, h, hc, hz => by
    obtain ⟨ls1, e1, e2, e3⟩ := h x List.mem_cons_self acc
    rw [lcGo, if_pos (hc i acc), e1]
    dsimp only
    rw [e2]
    have hr := fun y hy => h y (List.mem_cons_of_mem _ hy)
    rw [List.length_cons] at hz
    cases hp : p x with
    | false =>
      dsimp only
      rw [lcGo_pure r (i + 1) acc hr hc (by omega), List.filter_cons, hp]
      simp
    | true =>
      dsimp only
      rw [e3 hp]
      dsimp only
      rw [lstAt_of get_app]
      dsimp only
      rw [if_pos (by omega), set_app, lcGo_pure r (i + 1) _ hr hc (by rw [List.length_append, List.length_singleton]; omega), List.filter_cons, hp]
      simp
theorem eLc_pure {it : MI} {g : MG} {tt : MT} {te : ME} {vs : List Nat} {ls : Ls} {S S1 : Sto} {t : Wk} (p : PV → Bool) (f : PV → PV) (hi : it ls S = .ok t S1)
    (h : ∀ x ∈ t.items, ∀ acc, ∃ ls1, g x (wipeL ls vs) = some ls1 ∧ tt ls1 (S1 ++ [.lst acc]) = .ok (p x) (S1 ++ [.lst acc]) ∧ (p x = true → te ls1 (S1 ++ [.lst acc]) = .ok (f x) (S1 ++ [.lst acc])))
    (hc : ∀ i acc, t.chk i (S1 ++ [.lst acc]) = true) (hz : t.items.length < lim) : eLc it g tt te vs ls S = .ok (.loc S1.length) (S1 ++ [.lst ((t.items.filter p).map f)]) := by
  unfold eLc
  rw [hi, bind_ok, lcGo_pure t.items 0 [] h hc (by simpa using hz)]
  simp
/-- an older place -/
theorem get_old {S X : Sto} {n : Nat} {o : OB} (h : S[n]? = some o) : (S ++ X)[n]? = some o := by rw [List.getElem?_append_left (lt_of_get h)]; exact h
theorem seq_old {S X : Sto} {n : Nat} {xs : List PV} (h : seqAt S n = some xs) : seqAt (S ++ X) n = some xs := by
  unfold seqAt at h ⊢
  cases e : S[n]? with
  | none => rw [e] at h; cases h
  | some o => rw [e] at h; rw [get_old e]; exact h
theorem seq_new {S : Sto} {xs : List PV} : seqAt (S ++ [.lst xs]) S.length = some xs := seqAt_lst (lstAt_of get_app)

/-! ### strings in lists -/
def strL (xs : List (List Nat)) : List PV := xs.map .str
theorem flat_strL : ∀ xs : List (List Nat), (strL xs).all flatP = true
  | [] => rfl
  | _ :: r => by show (true && (strL r).all flatP) = true; rw [flat_strL r]; rfl
theorem inP_strL {a : List Nat} : ∀ xs : List (List Nat), inP (.str a) (strL xs) = decide (a ∈ xs)
  | [] => by simp [inP, strL]
  | b :: r => by
    have ih := inP_strL (a := a) r
    unfold inP at ih ⊢
    show (eqF (.str b) (.str a) || (strL r).any fun y => eqF y (.str a)) = _
    rw [ih]
    by_cases h : b = a
    · subst h; simp [eqF]
    · have : ¬ a = b := fun e => h e.symm
      simp [eqF, h, this]
theorem in_tup {S : Sto} {neg : Bool} {a : List Nat} {xs : List (List Nat)} : inM neg (.str a) (.tup (strL xs)) S = .ok (.bl (if neg then !decide (a ∈ xs) else decide (a ∈ xs))) S := by
  unfold inM
  simp only [flat_strL, flatP, Bool.and_true, if_true, inP_strL]
theorem in_loc {S : Sto} {neg : Bool} {a : List Nat} {n : Nat} {xs : List (List Nat)} (h : seqAt S n = some (strL xs)) : inM neg (.str a) (.loc n) S = .ok (.bl (if neg then !decide (a ∈ xs) else decide (a ∈ xs))) S := by
  unfold inM
  simp only [h, flat_strL, flatP, Bool.and_true, if_true, inP_strL]

/-! ### the rules -/
def rulesL : List (List Nat) := [[105, 110, 118, 97, 108, 105, 100, 97, 116, 101, 95, 115, 116, 111, 114, 101], [105, 110, 118, 97, 108, 105, 100, 97, 116, 101, 95, 100, 101, 118, 105, 99, 101],
  [116, 114, 97, 99, 107, 95, 102, 114, 97, 109, 101, 115], [116, 114, 97, 99, 107, 95, 112, 114, 101, 112, 97, 114, 101, 100], [116, 114, 97, 99, 107, 95, 115, 101, 99, 111, 110, 100],
  [105, 110, 118, 97, 108, 105, 100, 97, 116, 101, 95, 109, 97, 112], [105, 110, 118, 97, 108, 105, 100, 97, 116, 101, 95, 114, 105, 103, 104, 116, 115], [107, 101, 121, 95, 108, 101, 118, 101, 108],
  [108, 101, 97, 118, 101, 95, 115, 101, 108, 102], [108, 101, 97, 118, 101, 95, 111, 116, 104, 101, 114], [99, 117, 116, 95, 108, 105, 110, 107, 115], [99, 108, 101, 97, 114, 95, 108, 105, 110, 107, 115],
  [104, 111, 108, 100, 95, 115, 108, 111, 116], [99, 104, 101, 99, 107, 95, 101, 110, 116, 114, 121], [115, 116, 111, 112, 95, 112, 97, 103, 101], [115, 116, 111, 112, 95, 115, 116, 111, 114, 101],
  [110, 111, 95, 108, 105, 110, 107, 115], [115, 105, 110, 103, 108, 101], [101, 97, 103, 101, 114], [102, 108, 117, 115, 104, 95, 101, 120, 105, 116], [102, 108, 117, 115, 104, 95, 115, 111, 117, 114, 99, 101],
  [107, 101, 101, 112, 95, 100, 114, 111, 112, 112, 101, 100], [109, 97, 112, 95, 105, 110, 115, 112, 101, 99, 116], [109, 97, 112, 95, 102, 97, 117, 108, 116], [102, 108, 117, 115, 104, 95, 102, 97, 117, 108, 116],
  [109, 97, 112, 95, 108, 101, 97, 118, 101], [112, 114, 111, 109, 112, 116, 95, 115, 116, 111, 114, 101], [112, 111, 108, 108, 95, 101, 110, 116, 114, 121], [112, 111, 108, 108, 95, 98, 97, 99, 107, 119, 97, 114, 100]]
def rulesTxt : List Nat := ((rulesL.map fun l => 32 :: l).flatten).drop 1
theorem rules_nodup : rulesL.Nodup := by decide +kernel
theorem rules_split : (PySem.Txt.split (toS rulesTxt) (toS [32])).map (fun z => z.cps.toList) = rulesL := by decide +kernel
def txt1 : List Nat := ((rulesL.take 6).map fun l => 32 :: l).flatten.drop 1
def m_rules (t1 t2 t3 t4 : List Nat) : MS := (sSeq (sSet 0 (eC (.str t1)))
  (sSeq (sSet 0 (eOp gAdd (eVar 0) (eC (.str t2))))
  (sSeq (sSet 0 (eOp gAdd (eVar 0) (eC (.str t3))))
  (sSeq (sSet 0 (eOp gAdd (eVar 0) (eC (.str t4))))
  (sRet (eMt kStr mSplit (eVar 0) (aCons (eC (.str [32])) aNil)))))))
theorem rules_ok {S : Sto} {t1 t2 t3 t4 : List Nat} (h : t1 ++ t2 ++ t3 ++ t4 = rulesTxt) (hl : t1.length + t2.length + t3.length + t4.length < 1000) : fnOf 0 1 (m_rules t1 t2 t3 t4) [] S = .ok (.loc S.length) (S ++ [.lst (strL rulesL)]) := by
  refine fnOf_rt rfl ?_
  have hlim : lim = 100000 := rfl
  show m_rules t1 t2 t3 t4 [none] S = _
  have h1 : t1.length + t2.length ≤ lim := by omega
  have h2 : t1.length + t2.length + t3.length ≤ lim := by omega
  have h3 : t1.length + t2.length + t3.length + t4.length ≤ lim := by omega
  have h4 : rulesTxt.length < lim := by decide +kernel
  have h' : t1 ++ (t2 ++ (t3 ++ t4)) = rulesTxt := by rw [← h]; simp
  have hsp : (PySem.Txt.split (toS rulesTxt) (toS [32])).map (fun z => PV.str z.cps.toList) = strL rulesL := by
    rw [← rules_split, strL, List.map_map]; rfl
  simp [-List.append_assoc, m_rules, sSet_ap, eOp_ap, eVar, gAdd, h1, h2, h3, sRet_ap, eMt_ap, kStr, aCons_ap, mSplit, h, h4, hsp]
/-! ### policies -/
abbrev nPolicy : Nm := [80, 111, 108, 105, 99, 121]
abbrev nNames : Nm := [110, 97, 109, 101, 115]
def wRules : PV := .tup (strL rulesL)
def m_polInit (tab : Nm → Nm → Bool) : MS := (sSeq (sSet 2 (eLst aNil))
  (sSeq (sFor (iSeq (eVar 1)) (gN 3)
  (sSeq (sIf (tOrM (toT (eOp (inM true) (eVar 3) (eC wRules))) (toT (eOp (inM false) (eVar 3) (eVar 2))))
  sBad
  sNil)
  (sExpr (eMt kList mAppend (eVar 2) (aCons (eVar 3) aNil)))))
  (sFldM tab nNames (eVar 0) (eB fTuple (aCons (eLc (iSeq (eC wRules)) (gN 3) (toT (eOp (inM false) (eVar 3) (eVar 2))) (eVar 3) [3]) aNil)))))
/-- names in the order of the rules, each once -/
def Named (names : List (List Nat)) : Prop := names.Sublist rulesL
theorem Named.nodup {names : List (List Nat)} (h : Named names) : names.Nodup := List.Sublist.nodup h rules_nodup
theorem Named.mem {names : List (List Nat)} (h : Named names) {a : List Nat} (ha : a ∈ names) : a ∈ rulesL := h.subset ha
theorem Named.len {names : List (List Nat)} (h : Named names) : names.length ≤ 29 := h.length_le
theorem filter_sub : ∀ {L M : List (List Nat)}, L.Nodup → M.Sublist L → L.filter (fun a => decide (a ∈ M)) = M
  | [], M, _, h => by cases h; rfl
  | a :: L, M, hn, h => by
    have hn' := List.nodup_cons.mp hn
    cases h with
    | cons _ h =>
      have : a ∉ M := fun ha => hn'.1 (h.subset ha)
      rw [List.filter_cons]
      simp only [this, decide_false, Bool.false_eq_true, if_false]
      exact filter_sub hn'.2 h
    | cons_cons _ h =>
      rename_i M'
      rw [List.filter_cons]
      simp only [List.mem_cons, true_or, decide_true, if_true]
      congr 1
      have ih := filter_sub hn'.2 h
      rw [← ih]
      apply List.filter_congr
      intro b hb
      rw [ih]
      have : b ≠ a := fun e => hn'.1 (e ▸ hb)
      simp [this]
theorem filter_strL {p : List Nat → Bool} : ∀ (xs : List (List Nat)) (q : PV → Bool), (∀ a, q (.str a) = p a) → (strL xs).filter q = strL (xs.filter p)
  | [], q, _ => rfl
  | a :: r, q, h => by
    show List.filter q (.str a :: strL r) = _
    rw [List.filter_cons, List.filter_cons, h a, filter_strL r q h]
    cases p a <;> rfl
theorem polInit_loop {S : Sto} {tt : Nat → Sto → Bool} {a0 a1 : Option PV} : ∀ (rest done : List (List Nat)) (i : Nat) (a3 : Option PV), Named (done ++ rest) → (∀ i acc, tt i (S ++ [.lst acc]) = true) →
    ∃ a3', forGo tt (gN 3) (sSeq (sIf (tOrM (toT (eOp (inM true) (eVar 3) (eC wRules))) (toT (eOp (inM false) (eVar 3) (eVar 2))))
      sBad
      sNil)
      (sExpr (eMt kList mAppend (eVar 2) (aCons (eVar 3) aNil)))) i (strL rest) [a0, a1, some (.loc S.length), a3] (S ++ [.lst (strL done)]) = .nx [a0, a1, some (.loc S.length), a3'] (S ++ [.lst (strL (done ++ rest))])
  | [], done, i, a3, hn, hc => ⟨a3, by rw [List.append_nil]; exact forGo_nil (hc i _)⟩
  | x :: r, done, i, a3, hn, hc => by
    have hn2 : Named ((done ++ [x]) ++ r) := by rw [List.append_assoc]; exact hn
    obtain ⟨b3, e⟩ := polInit_loop (a0 := a0) (a1 := a1) r (done ++ [x]) (i + 1) (some (.str x)) hn2 hc
    refine ⟨b3, ?_⟩
    rw [List.append_assoc] at e
    show forGo tt (gN 3) _ i (.str x :: strL r) _ _ = _
    rw [forGo_cons (ls1 := [a0, a1, some (.loc S.length), some (.str x)]) (hc i _) rfl]
    have h1 : x ∈ rulesL := hn.mem (by simp)
    have h2 : x ∉ done := fun hx => by
      have := hn.nodup
      rw [List.nodup_append] at this
      exact this.2.2 x hx x (by simp) rfl
    have hl : (strL done).length < lim := by
      have := hn.len
      rw [List.length_append] at this
      have e : (strL done).length = done.length := by simp [strL]
      have : lim = 100000 := rfl
      omega
    have ha : strL done ++ [.str x] = strL (done ++ [x]) := by simp [strL]
    have body : (sSeq (sIf (tOrM (toT (eOp (inM true) (eVar 3) (eC wRules))) (toT (eOp (inM false) (eVar 3) (eVar 2)))) sBad sNil)
      (sExpr (eMt kList mAppend (eVar 2) (aCons (eVar 3) aNil)))) [a0, a1, some (.loc S.length), some (.str x)] (S ++ [.lst (strL done)]) = .nx [a0, a1, some (.loc S.length), some (.str x)] (S ++ [.lst (strL (done ++ [x]))]) := by
      simp [sIf_ap, tOrM_ap, toT_ap, eOp_ap, eVar, wRules, in_tup, h1, in_loc seq_new, h2, sExpr_ap, eMt_ap, kList, seq_new, aCons_ap, mAppend, lstAt_of get_app, hl, set_app, ha]
    rw [body, loopK_nx]
    exact e
/-- a place that is not the last -/
theorem set_old {S : Sto} {p : Nat} {o o' : OB} (h : p < S.length) : (S ++ [o]).set p o' = S.set p o' ++ [o] := by rw [List.set_append_left _ _ h]
theorem polInit_ok {tab : Nm → Nm → Bool} {S : Sto} {p : Nat} {arg : PV} {t : Wk} {names : List (List Nat)} (ht : tab nPolicy nNames = true) (hp : S[p]? = some (.ins nPolicy [])) (hn : Named names)
    (hi : ∀ acc ls, ls[1]? = some (some arg) → iSeq (eVar 1) ls (S ++ [.lst acc]) = .ok t (S ++ [.lst acc])) (hit : t.items = strL names) (hc : ∀ i acc, t.chk i (S ++ [.lst acc]) = true) :
    fnOf 2 4 (m_polInit tab) [.loc p, arg] S = .ok .non (S.set p (.ins nPolicy [(nNames, .tup (strL names))]) ++ [.lst (strL names), .lst (strL names)]) := by
  have hp' := lt_of_get hp
  obtain ⟨a3, e⟩ := polInit_loop (S := S) (tt := t.chk) (a0 := some (.loc p)) (a1 := some arg) names [] 0 none hn hc
  refine fnOf_nx (ls := [some (.loc p), some arg, some (.loc S.length), a3]) rfl ?_
  show m_polInit tab [some (.loc p), some arg, none, none] S = _
  unfold m_polInit
  have e1 : sSet 2 (eLst aNil) [some (.loc p), some arg, none, none] S = .nx [some (.loc p), some arg, some (.loc S.length), none] (S ++ [.lst (strL [])]) := rfl
  rw [← hit] at e
  rw [sSeq_ap, e1, seq_nx, sSeq_ap, sFor_nx (hi _ _ rfl) e, seq_nx]
  rw [List.nil_append, hit] at *
  have ec : eLc (iSeq (eC wRules)) (gN 3) (toT (eOp (inM false) (eVar 3) (eVar 2))) (eVar 3) [3] [some (.loc p), some arg, some (.loc S.length), a3] (S ++ [.lst (strL names)]) = .ok (.loc (S ++ [OB.lst (strL names)]).length) ((S ++ [.lst (strL names)]) ++ [.lst (strL names)]) := by
    have hs : seqAt (S ++ [.lst (strL names)]) S.length = some (strL names) := seq_new
    rw [eLc_pure (fun x => match x with | .str a => decide (a ∈ names) | _ => false) id (t := ⟨strL rulesL, always⟩) rfl]
    · rw [List.map_id, filter_strL (p := fun a => decide (a ∈ names)) _ _ (fun a => rfl), filter_sub rules_nodup hn]
    · intro x hx acc
      obtain ⟨a, ha, rfl⟩ := List.mem_map.mp hx
      refine ⟨[some (.loc p), some arg, some (.loc S.length), some (.str a)], rfl, ?_, fun _ => rfl⟩
      simp [-List.append_assoc, toT_ap, eOp_ap, eVar, in_loc (seq_old (X := [.lst acc]) hs)]
    · intro i acc; rfl
    · decide +kernel
  have hs2 : seqAt ((S ++ [OB.lst (strL names)]) ++ [OB.lst (strL names)]) (S ++ [OB.lst (strL names)]).length = some (strL names) := seq_new
  have hg : ((S ++ [OB.lst (strL names)]) ++ [OB.lst (strL names)])[p]? = some (.ins nPolicy []) := get_old (get_old hp)
  have hset : ((S ++ [OB.lst (strL names)]) ++ [OB.lst (strL names)]).set p (.ins nPolicy [(nNames, .tup (strL names))]) = S.set p (.ins nPolicy [(nNames, .tup (strL names))]) ++ [.lst (strL names), .lst (strL names)] := by
    rw [set_old (by rw [List.length_append]; omega), set_old hp']
    simp
  rw [← hset]
  unfold sFldM
  rw [eB_ap, aCons_ap, ec, bind_ok, aNil_ap, bind_ok, bind_ok]
  have ef : fTuple [.loc (S ++ [OB.lst (strL names)]).length] ((S ++ [.lst (strL names)]) ++ [.lst (strL names)]) = .ok (.tup (strL names)) ((S ++ [.lst (strL names)]) ++ [.lst (strL names)]) := by
    unfold fTuple; simp only [hs2]
  rw [ef, then_ok]
  have ev : eVar 0 [some (.loc p), some arg, some (.loc S.length), a3] ((S ++ [.lst (strL names)]) ++ [.lst (strL names)]) = .ok (.loc p) ((S ++ [.lst (strL names)]) ++ [.lst (strL names)]) := rfl
  rw [ev, then_ok]
  have ei : insAt ((S ++ [.lst (strL names)]) ++ [.lst (strL names)]) (.loc p) = some (p, nPolicy, []) := by unfold insAt; simp only [hg]
  rw [ei]
  dsimp only
  rw [ht]
  rfl
/-- a policy stands at p -/
def IsPol (S : Sto) (p : Nat) (names : List (List Nat)) : Prop := S[p]? = some (.ins nPolicy [(nNames, .tup (strL names))])
theorem IsPol.old {S X : Sto} {p : Nat} {names : List (List Nat)} (h : IsPol S p names) : IsPol (S ++ X) p names := get_old h
def m_polHas (tab : Nm → Nm → Bool) : MS := (sRet (eOp (inM false) (eVar 1) (eFld tab nNames (eVar 0))))
theorem polHas_ok {tab : Nm → Nm → Bool} {S : Sto} {p : Nat} {a : List Nat} {names : List (List Nat)} (ht : tab nPolicy nNames = true) (h : IsPol S p names) : fnOf 2 2 (m_polHas tab) [.loc p, .str a] S = .ok (.bl (decide (a ∈ names))) S := by
  refine fnOf_rt rfl ?_
  have h' : S[p]? = some (.ins nPolicy [(nNames, .tup (strL names))]) := h
  have ei : insAt S (.loc p) = some (p, nPolicy, [(nNames, .tup (strL names))]) := by unfold insAt; simp only [h']
  show m_polHas tab [some (.loc p), some (.str a)] S = _
  simp [m_polHas, sRet_ap, eOp_ap, eVar, eFld, ei, ht, lookN, in_tup]
/-- the names of a policy at the field -/
theorem polNames_ok {tab : Nm → Nm → Bool} {S : Sto} {p i : Nat} {ls : Ls} {names : List (List Nat)} (ht : tab nPolicy nNames = true) (h : IsPol S p names) (hl : ls[i]? = some (some (.loc p))) : eFld tab nNames (eVar i) ls S = .ok (.tup (strL names)) S := by
  have h' : S[p]? = some (.ins nPolicy [(nNames, .tup (strL names))]) := h
  have ei : insAt S (.loc p) = some (p, nPolicy, [(nNames, .tup (strL names))]) := by unfold insAt; simp only [h']
  simp [eFld, eVar, hl, ei, ht, lookN]
/-- o.has(..) of a policy -/
theorem polMeth_ok {tab : Nm → Nm → Bool} {S : Sto} {p i : Nat} {ls : Ls} {a m : List Nat} {names : List (List Nat)} {args : MA} (ht : tab nPolicy nNames = true) (h : IsPol S p names) (hl : ls[i]? = some (some (.loc p))) (hm : m ≠ nNames) (ha : args ls S = .ok [.str a] S) :
    eMeth nPolicy m (fnOf 2 2 (m_polHas tab)) [] (eVar i) args ls S = .ok (.bl (decide (a ∈ names))) S := by
  have h' : S[p]? = some (.ins nPolicy [(nNames, .tup (strL names))]) := h
  have ei : insAt S (.loc p) = some (p, nPolicy, [(nNames, .tup (strL names))]) := by unfold insAt; simp only [h']
  have hm' : ¬ nNames = m := fun e => hm e.symm
  simp only [eMeth, eVar, hl, bind_ok, ei, if_true, lookN, hm', if_false, ha, List.append_nil]
  exact polHas_ok ht h
end GL

set_option Elab.async false
set_option linter.all false
set_option maxRecDepth 100000
set_option maxHeartbeats 1000000
namespace GL
open PySem

theorem rng0 (n : Nat) : rngL 0 (n : Int) = (List.range n).map fun (i : Nat) => .int (i : Int) := by
  unfold rngL
  simp
theorem rng_mem {n : Nat} {x : PV} (h : x ∈ rngL 0 (n : Int)) : ∃ i : Nat, i < n ∧ x = .int i := by
  rw [rng0, List.mem_map] at h
  obtain ⟨i, hi, e⟩ := h
  exact ⟨i, List.mem_range.mp hi, e.symm⟩
theorem iR1_ok {m : ME} {ls : Ls} {S S1 : Sto} {n : Nat} (h : m ls S = .ok (.int n) S1) (hn : n < 1000000000) : iR1 m ls S = .ok ⟨rngL 0 n, always⟩ S1 := by
  have hm : med = 4611686018427387904 := rfl
  unfold iR1
  rw [h, bind_ok]
  dsimp only
  rw [if_pos]
  rw [Bool.and_eq_true]
  exact ⟨decide_eq_true (by omega), decide_eq_true (by omega)⟩
/-- a comprehension over range(n) -/
theorem eLc_rng {m : ME} {tt : MT} {te : ME} {v n : Nat} {ls : Ls} {S S1 : Sto} (p : Nat → Bool) (f : Nat → PV) (hm : m ls S = .ok (.int n) S1) (hn : n < lim) (hv : v < ls.length)
    (h : ∀ i < n, ∀ acc, tt (ls.set v (some (.int i))) (S1 ++ [.lst acc]) = .ok (p i) (S1 ++ [.lst acc]) ∧ (p i = true → te (ls.set v (some (.int i))) (S1 ++ [.lst acc]) = .ok (f i) (S1 ++ [.lst acc]))) :
    eLc (iR1 m) (gN v) tt te [v] ls S = .ok (.loc S1.length) (S1 ++ [.lst (((List.range n).filter p).map f)]) := by
  have hl : lim = 100000 := rfl
  rw [eLc_pure (t := ⟨rngL 0 n, always⟩) (fun x => match x with | .int i => p i.toNat | _ => false) (fun x => match x with | .int i => f i.toNat | _ => .non) (iR1_ok hm (by omega))]
  · congr 4
    show ((rngL 0 n).filter _).map _ = _
    rw [rng0, List.filter_map, List.map_map]
    rfl
  · intro x hx acc
    obtain ⟨i, hi, rfl⟩ := rng_mem hx
    refine ⟨ls.set v (some (.int i)), ?_, ?_⟩
    · show some ((ls.set v none).set v (some (.int i))) = _
      rw [List.set_set]
    · exact h i hi acc
  · intros; rfl
  · show (rngL 0 n).length < lim
    rw [rng0, List.length_map, List.length_range]; exact hn
theorem eVar_of {ls : Ls} {i : Nat} {w : PV} {S : Sto} (h : ls[i]? = some (some w)) : eVar i ls S = .ok w S := by unfold eVar; rw [h]
theorem gAdd_nat {a b : Nat} {S : Sto} : gAdd (.int (a : Int)) (.int (b : Int)) S = .ok (.int ((a + b : Nat) : Int)) S := by rw [gAdd_int]; rfl
/-- the digits' pick within an expression -/
def nm (ds : List Int) (b : Nat) : List (List Nat) := ((List.range 29).filter fun i => decide (pickV ds (b + i) 2 = 1)).map fun i => rulesL.getD i []
theorem nm_named {ds : List Int} {b : Nat} : Named (nm ds b) := by
  have h : ((List.range 29).map fun i => rulesL.getD i []) = rulesL := by decide +kernel
  have h2 : (nm ds b).Sublist ((List.range 29).map fun i => rulesL.getD i []) := List.Sublist.map _ List.filter_sublist
  rw [h] at h2
  exact h2
theorem names_ok {S : Sto} {ls : Ls} {b d r v ld lr : Nat} {ds : List Int} (hd : ls[d]? = some (some (.loc ld))) (hr : ls[r]? = some (some (.loc lr))) (hv : v < ls.length) (hvd : v ≠ d) (hvr : v ≠ r)
    (sd : seqAt S ld = some (intsL ds)) (sr : seqAt S lr = some (strL rulesL)) :
    eLc (iR1 (eC (.int 29))) (gN v) (toT (eOp gEq (eCall (fnOf 3 4 m_pick) [] (aCons (eVar d) (aCons (eOp gAdd (eC (.int (b : Int))) (eVar v)) (aCons (eC (.int 2)) aNil)))) (eC (.int 1)))) (eOp gIx (eVar r) (eVar v)) [v] ls S
      = .ok (.loc S.length) (S ++ [.lst (strL (nm ds b))]) := by
  rw [eLc_rng (n := 29) (fun i => decide (pickV ds (b + i) 2 = 1)) (fun i => .str (rulesL.getD i [])) rfl (by decide) hv]
  · congr 4
    unfold nm strL
    rw [List.map_map]; rfl
  · intro i hi acc
    have e1 : (ls.set v (some (.int (i : Int))))[d]? = some (some (.loc ld)) := by rw [List.getElem?_set_ne hvd]; exact hd
    have e2 : (ls.set v (some (.int (i : Int))))[r]? = some (some (.loc lr)) := by rw [List.getElem?_set_ne hvr]; exact hr
    have e3 : (ls.set v (some (.int (i : Int))))[v]? = some (some (.int i)) := List.getElem?_set_self hv
    refine ⟨?_, fun _ => ?_⟩
    · simp only [toT_ap, eOp_ap, eCall_ap, aCons_ap, aNil_ap, eVar_of e1, eVar_of e3, bind_ok, eC_ap, gAdd_nat, List.append_nil]
      rw [pick_ok (seq_old sd) (by decide)]
      simp only [bind_ok, gEq_int, asB_bl]
    · simp only [eOp_ap, eVar_of e2, eVar_of e3, bind_ok]
      refine gIx_loc (seq_old sr) ?_
      have hl : i < rulesL.length := hi
      unfold strL
      rw [List.getElem?_map, List.getElem?_eq_getElem hl, Option.map_some]
      congr 2
      rw [List.getD_eq_getElem?_getD, List.getElem?_eq_getElem hl]; rfl
theorem mkPol_ok {tab : Nm → Nm → Bool} {S : Sto} {ls : Ls} {i n : Nat} {names : List (List Nat)} (ht : tab nPolicy nNames = true) (hl : ls[i]? = some (some (.loc n))) (hs : S[n]? = some (.lst (strL names))) (hn : Named names) :
    eMake nPolicy (fnOf 2 4 (m_polInit tab)) [] (aCons (eVar i) aNil) ls S = .ok (.loc S.length) (S ++ [.ins nPolicy [(nNames, .tup (strL names))], .lst (strL names), .lst (strL names)]) := by
  unfold eMake
  rw [aCons_ap, eVar_of hl]
  simp only [bind_ok, aNil_ap, List.append_nil]
  have e := polInit_ok (tab := tab) (S := S ++ [.ins nPolicy []]) (p := S.length) (arg := .loc n) (t := ⟨strL names, isLst n (strL names)⟩) (names := names) ht get_app hn
    (fun acc ls h => by
      unfold iSeq
      rw [eVar_of h, bind_ok]
      dsimp only
      rw [get_old (get_old hs)]) rfl (fun j acc => isLst_self (i := j) (get_old (get_old hs)))
  rw [e]
  simp only [bind_ok, set_app, List.append_assoc]
  rfl
theorem rules_strOk : ∀ a ∈ rulesL, PyData.strOk (toS a) = true := by decide +kernel
theorem optAll_strL {S : Sto} {f : Nat} : ∀ {xs : List (List Nat)}, (∀ a ∈ xs, PyData.strOk (toS a) = true) → optAll (datP S (f + 1)) (strL xs) = some (xs.map fun a => .str (toS a))
  | [], _ => rfl
  | a :: r, h => by
    have ih := optAll_strL (S := S) (f := f) (xs := r) fun b hb => h b (List.mem_cons_of_mem _ hb)
    have h1 := h a List.mem_cons_self
    show optAll (datP S (f + 1)) (.str a :: strL r) = _
    unfold optAll
    rw [ih]
    simp only [datP, h1, if_true]
    rfl
theorem datP_strL {S : Sto} {n : Nat} {xs : List (List Nat)} (h : seqAt S n = some (strL xs)) (hx : ∀ a ∈ xs, PyData.strOk (toS a) = true) : datP S 60 (.loc n) = some (.list (xs.map fun a => .str (toS a))) := by
  unfold datP
  simp only [h, optAll_strL hx, Option.map_some]
/-! ### straight rows -/
section
variable {a : ME} {m1 m2 : MS} {ls ls1 : Ls} {S S1 : Sto} {w : PV} {q : SOut} {i : Nat} {t : MT}
theorem q_set (h : a ls S = .ok w S1) (h2 : m2 (ls.set i (some w)) S1 = q) : sSeq (sSet i a) m2 ls S = q := by rw [sSeq_ap, sSet_ap, h]; exact h2
theorem q_nx (h : m1 ls S = .nx ls1 S1) (h2 : m2 ls1 S1 = q) : sSeq m1 m2 ls S = q := by rw [sSeq_ap, h]; exact h2
theorem q_no (h : t ls S = .ok false S1) (h2 : m2 ls S1 = q) : sSeq (sIf t m1 sNil) m2 ls S = q := by rw [sSeq_ap, sIf_ap, h]; exact h2
theorem q_call {fn : MF} {r : MA} {ws : List PV} {S2 : Sto} (h : r ls S = .ok ws S1) (h2 : fn ws S1 = .ok w S2) : eCall fn [] r ls S = .ok w S2 := by rw [eCall_ap, h, bind_ok, List.append_nil]; exact h2
end
end GL

set_option Elab.async false
set_option linter.all false
set_option maxRecDepth 100000
set_option maxHeartbeats 1000000
namespace GL
open PySem

/-! ### what a value holds -/
def Hld (S : Sto) (v : PV) (xs : List PV) : Prop := v = .tup xs ∨ ∃ m, v = .loc m ∧ S[m]? = some (.lst xs)
theorem Hld.tup {S : Sto} {xs : List PV} : Hld S (.tup xs) xs := .inl rfl
theorem Hld.loc {S : Sto} {m : Nat} {xs : List PV} (h : S[m]? = some (.lst xs)) : Hld S (.loc m) xs := .inr ⟨m, rfl, h⟩
theorem Hld.old {S X : Sto} {v : PV} {xs : List PV} (h : Hld S v xs) : Hld (S ++ X) v xs := by
  rcases h with rfl | ⟨m, rfl, h⟩
  · exact .tup
  · exact .loc (get_old h)
theorem seq_of_get {S : Sto} {m : Nat} {xs : List PV} (h : S[m]? = some (.lst xs)) : seqAt S m = some xs := seqAt_lst (lstAt_of h)
theorem fList_h {S : Sto} {v : PV} {xs : List PV} (h : Hld S v xs) : fList [v] S = .ok (.loc S.length) (S ++ [.lst xs]) := by
  rcases h with rfl | ⟨m, rfl, h⟩
  · rfl
  · simp [fList, seq_of_get h]
theorem fTuple_h {S : Sto} {v : PV} {xs : List PV} (h : Hld S v xs) : fTuple [v] S = .ok (.tup xs) S := by
  rcases h with rfl | ⟨m, rfl, h⟩
  · rfl
  · simp [fTuple, seq_of_get h]
theorem fLen_h {S : Sto} {v : PV} {xs : List PV} (h : Hld S v xs) : fLen [v] S = .ok (.int xs.length) S := by
  rcases h with rfl | ⟨m, rfl, h⟩
  · rfl
  · exact fLen_loc (seq_of_get h)
theorem gIx_h {S : Sto} {v w : PV} {xs : List PV} {i : Nat} (h : Hld S v xs) (hi : xs[i]? = some w) : gIx v (.int (i : Int)) S = .ok w S := by
  rcases h with rfl | ⟨m, rfl, h⟩
  · exact gIx_tup hi
  · exact gIx_loc (seq_of_get h) hi
def wkOf (v : PV) (xs : List PV) : Nat → Sto → Bool := match v with
  | .loc n => isLst n xs
  | _ => always
theorem iSeq_h {m : ME} {ls : Ls} {S S1 : Sto} {v : PV} {xs : List PV} (hm : m ls S = .ok v S1) (h : Hld S1 v xs) : iSeq m ls S = .ok ⟨xs, wkOf v xs⟩ S1 := by
  unfold iSeq
  rw [hm, bind_ok]
  rcases h with rfl | ⟨n, rfl, h⟩
  · rfl
  · dsimp only
    rw [h]; rfl
theorem wk_ok {S : Sto} {v : PV} {xs : List PV} {i : Nat} (h : Hld S v xs) : wkOf v xs i S = true := by
  rcases h with rfl | ⟨n, rfl, h⟩
  · rfl
  · exact isLst_self (i := i) h
/-! ### comprehensions, row by row -/
section
variable {chk : Nat → Sto → Bool} {g : MG} {tt : MT} {te : ME} {vs : List Nat} {D : Nat} {ls ls1 : Ls} {i : Nat} {x w : PV} {r acc : List PV} {S S2 : Sto}
theorem lcGo_cons (hc : chk i S = true) (hg : g x (wipeL ls vs) = some ls1) (ht : tt ls1 S = .ok true S) (he : te ls1 S = .ok w S2) (ha : S2[D]? = some (.lst acc)) (hl : acc.length < lim) :
    lcGo chk g tt te vs D ls i (x :: r) S = lcGo chk g tt te vs D ls (i + 1) r (S2.set D (.lst (acc ++ [w]))) := by
  rw [lcGo, if_pos hc, hg]
  dsimp only
  rw [ht]
  dsimp only
  rw [he]
  dsimp only
  rw [lstAt_of ha]
  dsimp only
  rw [if_pos hl]
theorem lcGo_nil (hc : chk i S = true) : lcGo chk g tt te vs D ls i [] S = .ok (.loc D) S := by rw [lcGo, if_pos hc]
end
theorem get_mid {A B : Sto} {o : OB} : (A ++ o :: B)[A.length]? = some o := by rw [List.getElem?_append_right (Nat.le_refl _)]; simp
theorem set_mid {A B : Sto} {o o' : OB} : (A ++ o :: B).set A.length o' = A ++ o' :: B := by rw [List.set_append_right _ _ (Nat.le_refl _)]; simp
/-- a comprehension whose element makes new things -/
theorem lcGo_grow {chk : Nat → Sto → Bool} {te : ME} {v : Nat} {ls : Ls} {A : Sto} (I : List PV → Sto → Prop) (hv : v < ls.length) : ∀ (xs : List PV) (i : Nat) (acc : List PV) (Y : Sto),
    (∀ i acc Y, chk i (A ++ .lst acc :: Y) = true) →
    (∀ x ∈ xs, ∀ acc Y, I acc Y → ∃ w Z, te (ls.set v (some x)) (A ++ .lst acc :: Y) = .ok w (A ++ .lst acc :: (Y ++ Z)) ∧ I (acc ++ [w]) (Y ++ Z)) →
    acc.length + xs.length < lim → I acc Y → ∃ acc' Y', lcGo chk (gN v) tYesM te [v] A.length ls i xs (A ++ .lst acc :: Y) = .ok (.loc A.length) (A ++ .lst acc' :: Y') ∧ I acc' Y' ∧ acc'.length = acc.length + xs.length
  | [], i, acc, Y, hc, _, _, h => ⟨acc, Y, lcGo_nil (hc _ _ _), h, rfl⟩
  | x :: r, i, acc, Y, hc, hs, hl, h => by
    obtain ⟨w, Z, e, h2⟩ := hs x List.mem_cons_self acc Y h
    rw [List.length_cons] at hl
    obtain ⟨acc', Y', e', h', l'⟩ := lcGo_grow (te := te) I hv r (i + 1) (acc ++ [w]) (Y ++ Z) hc (fun y hy => hs y (List.mem_cons_of_mem _ hy)) (by rw [List.length_append]; show acc.length + 1 + r.length < lim; omega) h2
    refine ⟨acc', Y', ?_, h', by rw [l', List.length_append, List.length_cons]; simp only [List.length_cons, List.length_nil]; omega⟩
    rw [lcGo_cons (ls1 := ls.set v (some x)) (w := w) (S2 := A ++ .lst acc :: (Y ++ Z)) (acc := acc) (hc _ _ _) (by show some ((ls.set v none).set v _) = _; rw [List.set_set]) rfl e get_mid (by omega), set_mid]
    exact e'
theorem eLc_grow {it : MI} {te : ME} {v : Nat} {ls : Ls} {S A : Sto} {t : Wk} (I : List PV → Sto → Prop) (hi : it ls S = .ok t A) (hv : v < ls.length) (hc : ∀ i acc Y, t.chk i (A ++ .lst acc :: Y) = true)
    (hs : ∀ x ∈ t.items, ∀ acc Y, I acc Y → ∃ w Z, te (ls.set v (some x)) (A ++ .lst acc :: Y) = .ok w (A ++ .lst acc :: (Y ++ Z)) ∧ I (acc ++ [w]) (Y ++ Z)) (hl : t.items.length < lim) (h0 : I [] []) :
    ∃ acc' Y', eLc it (gN v) tYesM te [v] ls S = .ok (.loc A.length) (A ++ .lst acc' :: Y') ∧ I acc' Y' ∧ acc'.length = t.items.length := by
  obtain ⟨acc', Y', e, h, l⟩ := lcGo_grow (chk := t.chk) (te := te) I hv t.items 0 [] [] hc hs (by simpa using hl) h0
  exact ⟨acc', Y', by unfold eLc; rw [hi, bind_ok]; exact e, h, by simpa using l⟩
theorem bls_true : ∀ (n : Nat), blsOf (List.replicate n (.bl true)) = some (List.replicate n true)
  | 0 => rfl
  | n + 1 => by rw [List.replicate_succ, blsOf, bls_true n]; rfl
/-- all([.. for x in ..]) where each is True -/
theorem all_ok {it : MI} {te : ME} {v : Nat} {ls : Ls} {S A : Sto} {t : Wk} (hi : it ls S = .ok t A) (hv : v < ls.length) (hc : ∀ i acc Y, t.chk i (A ++ .lst acc :: Y) = true) (hl : t.items.length < lim)
    (hs : ∀ x ∈ t.items, ∀ B, ∃ Z, te (ls.set v (some x)) (A ++ B) = .ok (.bl true) (A ++ B ++ Z)) :
    ∃ X, eB fAll (aCons (eLc it (gN v) tYesM te [v]) aNil) ls S = .ok (.bl true) (A ++ X) := by
  obtain ⟨acc, Y, e, h, l⟩ := eLc_grow (te := te) (fun acc _ => acc = List.replicate acc.length (.bl true)) hi hv hc (fun x hx acc Y ha => by
    obtain ⟨Z, e⟩ := hs x hx (.lst acc :: Y)
    refine ⟨.bl true, Z, ?_, ?_⟩
    · rw [e]; simp
    · rw [List.length_append, List.length_singleton, List.replicate_succ', ← ha]) hl rfl
  refine ⟨.lst acc :: Y, ?_⟩
  rw [eB_ap, aCons_ap, e]
  simp only [bind_ok, aNil_ap, fAll]
  rw [seq_of_get get_mid]
  have : blsOf acc = some (List.replicate acc.length true) := by rw [h, bls_true, List.length_replicate]
  simp only [Option.bind_some, this]
  congr 2
  have : (List.replicate acc.length true).all id = true := List.all_eq_true.mpr fun x hx => List.eq_of_mem_replicate hx
  rw [this]
/-- [list(x) for x in ..] -/
def locsL (a n : Nat) : List PV := (List.range' a n).map .loc
theorem locsL_succ {a n : Nat} : locsL a (n + 1) = locsL a n ++ [.loc (a + n)] := by unfold locsL; rw [List.range'_1_concat, List.map_append]; rfl
@[simp] theorem locsL_len {a n : Nat} : (locsL a n).length = n := by simp [locsL]
theorem locsL_get {a n i : Nat} (h : i < n) : (locsL a n)[i]? = some (.loc (a + i)) := by
  unfold locsL
  rw [List.getElem?_map, List.getElem?_range' h]; simp
theorem lcGo_copies {chk : Nat → Sto → Bool} {v : Nat} {ls : Ls} {A : Sto} (hv : v < ls.length) : ∀ (xs : List PV) (rows done : List (List PV)) (i : Nat), xs.length = rows.length → (∀ (j : Nat) (x : PV) (r : List PV), xs[j]? = some x → rows[j]? = some r → Hld A x r) →
    (∀ i acc Y, chk i (A ++ .lst acc :: Y) = true) → done.length + rows.length < lim →
    lcGo chk (gN v) tYesM (eB fList (aCons (eVar v) aNil)) [v] A.length ls i xs (A ++ .lst (locsL (A.length + 1) done.length) :: done.map .lst)
      = .ok (.loc A.length) (A ++ .lst (locsL (A.length + 1) (done.length + rows.length)) :: (done ++ rows).map .lst)
  | [], [], done, i, _, _, hc, _ => by rw [lcGo_nil (hc _ _ _)]; simp
  | [], _ :: _, _, _, h, _, _, _ => by cases h
  | _ :: _, [], _, _, h, _, _, _ => by cases h
  | x :: xs, r :: rows, done, i, h, hx, hc, hl => by
    have h0 := (hx 0 x r rfl rfl).old (X := .lst (locsL (A.length + 1) done.length) :: done.map .lst)
    rw [List.length_cons] at hl
    rw [lcGo_cons (ls1 := ls.set v (some x)) (w := .loc (A.length + 1 + done.length)) (S2 := A ++ .lst (locsL (A.length + 1) done.length) :: (done ++ [r]).map .lst) (acc := locsL (A.length + 1) done.length) (hc _ _ _)
      (by show some ((ls.set v none).set v _) = _; rw [List.set_set]) rfl ?_ get_mid (by rw [locsL_len]; omega), set_mid, ← locsL_succ]
    · have := lcGo_copies hv xs rows (done ++ [r]) (i + 1) (Nat.succ.inj h) (fun j y q hy hq => hx (j + 1) y q hy hq) hc (by rw [List.length_append, List.length_singleton]; omega)
      rw [List.length_append, List.length_singleton] at this
      rw [this, List.length_cons, List.append_assoc, List.singleton_append, show done.length + 1 + rows.length = done.length + (rows.length + 1) by omega]
    · rw [eB_ap, aCons_ap, eVar_of (List.getElem?_set_self hv)]
      simp only [bind_ok, aNil_ap]
      rw [fList_h h0]
      simp
      omega
theorem copies_ok {it : MI} {v : Nat} {ls : Ls} {S A : Sto} {t : Wk} {rows : List (List PV)} (hi : it ls S = .ok t A) (hv : v < ls.length) (hc : ∀ i acc Y, t.chk i (A ++ .lst acc :: Y) = true) (hl : rows.length < lim)
    (he : t.items.length = rows.length) (hx : ∀ (j : Nat) (x : PV) (r : List PV), t.items[j]? = some x → rows[j]? = some r → Hld A x r) :
    eLc it (gN v) tYesM (eB fList (aCons (eVar v) aNil)) [v] ls S = .ok (.loc A.length) (A ++ .lst (locsL (A.length + 1) rows.length) :: rows.map .lst) := by
  unfold eLc
  rw [hi, bind_ok]
  have := lcGo_copies (chk := t.chk) hv t.items rows [] 0 he hx hc (by simpa using hl)
  simpa [locsL] using this
theorem lcGo_tuples {chk : Nat → Sto → Bool} {v : Nat} {ls : Ls} {A : Sto} (hv : v < ls.length) : ∀ (xs : List PV) (rows : List (List PV)) (acc : List PV) (i : Nat), xs.length = rows.length → (∀ (j : Nat) (x : PV) (r : List PV), xs[j]? = some x → rows[j]? = some r → Hld A x r) →
    (∀ i acc, chk i (A ++ [.lst acc]) = true) → acc.length + rows.length < lim →
    lcGo chk (gN v) tYesM (eB fTuple (aCons (eVar v) aNil)) [v] A.length ls i xs (A ++ [.lst acc]) = .ok (.loc A.length) (A ++ [.lst (acc ++ rows.map PV.tup)])
  | [], [], acc, i, _, _, hc, _ => by rw [lcGo_nil (hc _ _)]; simp
  | [], _ :: _, _, _, h, _, _, _ => by cases h
  | _ :: _, [], _, _, h, _, _, _ => by cases h
  | x :: xs, r :: rows, acc, i, h, hx, hc, hl => by
    have h0 := (hx 0 x r rfl rfl).old (X := [.lst acc])
    rw [List.length_cons] at hl
    rw [lcGo_cons (ls1 := ls.set v (some x)) (w := .tup r) (S2 := A ++ [.lst acc]) (acc := acc) (hc _ _)
      (by show some ((ls.set v none).set v _) = _; rw [List.set_set]) rfl ?_ get_app (by omega), set_app]
    · rw [lcGo_tuples hv xs rows (acc ++ [PV.tup r]) (i + 1) (Nat.succ.inj h) (fun j y q hy hq => hx (j + 1) y q hy hq) hc (by rw [List.length_append, List.length_singleton]; omega)]
      simp
    · rw [eB_ap, aCons_ap, eVar_of (List.getElem?_set_self hv)]
      simp only [bind_ok, aNil_ap]
      exact fTuple_h h0
/-- tuple([tuple(x) for x in ..]) -/
theorem tuples_ok {it : MI} {v : Nat} {ls : Ls} {S A : Sto} {t : Wk} {rows : List (List PV)} (hi : it ls S = .ok t A) (hv : v < ls.length) (hc : ∀ i acc, t.chk i (A ++ [.lst acc]) = true) (hl : rows.length < lim)
    (he : t.items.length = rows.length) (hx : ∀ (j : Nat) (x : PV) (r : List PV), t.items[j]? = some x → rows[j]? = some r → Hld A x r) :
    eB fTuple (aCons (eLc it (gN v) tYesM (eB fTuple (aCons (eVar v) aNil)) [v]) aNil) ls S = .ok (.tup (rows.map PV.tup)) (A ++ [.lst (rows.map PV.tup)]) := by
  rw [eB_ap, aCons_ap]
  unfold eLc
  rw [hi, bind_ok, lcGo_tuples (chk := t.chk) hv t.items rows [] 0 he hx hc (by simpa using hl)]
  simp only [bind_ok, aNil_ap, List.nil_append]
  exact fTuple_h (.loc get_app)
/-! ### fields -/
section
variable {a v : ME} {m1 m2 : MS} {ls ls1 : Ls} {A B B' S2 : Sto} {y : PV} {q : SOut} {o : Nat} {t : MT} {tab : Nm → Nm → Bool} {C f : Nm} {fs : List (Nm × PV)}
theorem fld_ap (h : v ls (A ++ .ins C fs :: B) = .ok y S2) (e : S2 = A ++ .ins C fs :: B') (hl : ls[o]? = some (some (.loc A.length))) (ht : tab C f = true) (hz : fs.length < 1000) :
    sFldM tab f (eVar o) v ls (A ++ .ins C fs :: B) = .nx ls (A ++ .ins C (putN f y fs) :: B') := by
  subst e
  unfold sFldM
  rw [h, then_ok, eVar_of hl, then_ok]
  have : insAt (A ++ .ins C fs :: B') (.loc A.length) = some (A.length, C, fs) := by unfold insAt; simp only [get_mid]
  rw [this]
  dsimp only
  rw [ht, Bool.true_and, if_pos (decide_eq_true hz), set_mid]
theorem q_fld (h : v ls (A ++ .ins C fs :: B) = .ok y S2) (e : S2 = A ++ .ins C fs :: B') (hl : ls[o]? = some (some (.loc A.length))) (ht : tab C f = true) (hz : fs.length < 1000) (h2 : m2 ls (A ++ .ins C (putN f y fs) :: B') = q) :
    sSeq (sFldM tab f (eVar o) v) m2 ls (A ++ .ins C fs :: B) = q := by rw [sSeq_ap, fld_ap h e hl ht hz]; exact h2
theorem eFld_ok {S : Sto} {p : Nat} {w : PV} (hl : ls[o]? = some (some (.loc p))) (hp : S[p]? = some (.ins C fs)) (ht : tab C f = true) (hf : lookN f fs = some w) : eFld tab f (eVar o) ls S = .ok w S := by
  unfold eFld
  rw [eVar_of hl, bind_ok]
  have : insAt S (.loc p) = some (p, C, fs) := by unfold insAt; simp only [hp]
  rw [this]
  dsimp only
  rw [if_pos ht, hf]
theorem eMake_ok {S S2 : Sto} {args : MA} {ws d : List PV} {fn : MF} {S1 : Sto} (ha : args ls S = .ok ws S1) (h : fn (.loc S1.length :: (ws ++ d)) (S1 ++ [.ins C []]) = .ok .non S2) : eMake C fn d args ls S = .ok (.loc S1.length) S2 := by
  unfold eMake
  rw [ha, bind_ok, h, bind_ok]
end
/-! ### data that is equal to itself -/
theorem eqvAll_of : ∀ {ds : List PyData}, (∀ d ∈ ds, PyData.eqv d d = true) → PyData.eqvAll ds ds = true
  | [], _ => by simp [PyData.eqvAll]
  | d :: r, h => by
    have h1 := h d List.mem_cons_self
    have h2 := eqvAll_of (ds := r) fun x hx => h x (List.mem_cons_of_mem _ hx)
    simp [PyData.eqvAll, h1, h2]
theorem datP_self {S : Sto} : ∀ {f : Nat} {w : PV} {d : PyData}, datP S f w = some d → PyData.eqv d d = true
  | 0, w, d, h => by simp [datP] at h
  | f + 1, w, d, h => by
    unfold datP at h
    split at h
    · cases h; simp [PyData.eqv]
    · cases h; simp [PyData.eqv]
    · cases h; simp [PyData.eqv]
    · split at h
      · cases h; simp [PyData.eqv]
      · cases h
    · obtain ⟨ds, e, rfl⟩ := Option.map_eq_some_iff.mp h
      simp only [PyData.eqv]
      exact eqvAll_of fun d hd => by
        obtain ⟨x, _, q⟩ := optAll_some e d hd
        exact datP_self q
    · split at h
      · obtain ⟨ds, e, rfl⟩ := Option.map_eq_some_iff.mp h
        simp only [PyData.eqv]
        exact eqvAll_of fun d hd => by
          obtain ⟨x, _, q⟩ := optAll_some e d hd
          exact datP_self q
      · cases h
    · cases h
/-- plain things: ints, bools, None, tuples of them -/
theorem eqM_self {S : Sto} {a b : PV} {d : PyData} {neg : Bool} (hs : scalP a b = none) (ha : datP S 60 a = some d) (hb : datP S 60 b = some d) : eqM neg a b S = .ok (.bl (!neg)) S := by
  unfold eqM
  rw [hs]
  dsimp only
  rw [ha, hb]
  dsimp only
  rw [datP_self ha]
  cases neg <;> rfl
end GL

set_option Elab.async false
set_option linter.all false
set_option maxRecDepth 100000
set_option maxHeartbeats 400000
namespace K08
open GL
open PySem (Str)
abbrev n_guest : List Nat := [103, 117, 101, 115, 116]
abbrev n_frames : List Nat := [102, 114, 97, 109, 101, 115]
abbrev n_pages : List Nat := [112, 97, 103, 101, 115]
abbrev n_starts : List Nat := [115, 116, 97, 114, 116, 115]
abbrev n_pc : List Nat := [112, 99]
abbrev n_regs : List Nat := [114, 101, 103, 115]
abbrev n_zero : List Nat := [122, 101, 114, 111]
abbrev n_less : List Nat := [108, 101, 115, 115]
abbrev n_level : List Nat := [108, 101, 118, 101, 108]
abbrev n_enabled : List Nat := [101, 110, 97, 98, 108, 101, 100]
abbrev n_pending : List Nat := [112, 101, 110, 100, 105, 110, 103]
abbrev n_saved : List Nat := [115, 97, 118, 101, 100]
abbrev n_halted : List Nat := [104, 97, 108, 116, 101, 100]
abbrev n_Processor : List Nat := [80, 114, 111, 99, 101, 115, 115, 111, 114]
abbrev n_processors : List Nat := [112, 114, 111, 99, 101, 115, 115, 111, 114, 115]
abbrev n_written : List Nat := [119, 114, 105, 116, 116, 101, 110]
abbrev n_handlers : List Nat := [104, 97, 110, 100, 108, 101, 114, 115]
abbrev n_writes : List Nat := [119, 114, 105, 116, 101, 115]
abbrev n_Guest : List Nat := [71, 117, 101, 115, 116]
abbrev n_Machine : List Nat := [77, 97, 99, 104, 105, 110, 101]
abbrev n_key : List Nat := [107, 101, 121]
abbrev n_execute : List Nat := [101, 120, 101, 99, 117, 116, 101]
abbrev n_invalid : List Nat := [105, 110, 118, 97, 108, 105, 100]
abbrev n_empty : List Nat := []
abbrev n_gk : List Nat := [103, 107]
abbrev n_gf : List Nat := [103, 102]
abbrev n_a : List Nat := [97]
abbrev n_ar : List Nat := [97, 114]
abbrev n_ra : List Nat := [114, 97]
abbrev n_rr : List Nat := [114, 114]
abbrev n_rn : List Nat := [114, 110]
abbrev n_r : List Nat := [114]
abbrev n_n : List Nat := [110]
abbrev n_k : List Nat := [107]
abbrev n_halt_print_show_set_move_add_c : List Nat := [104, 97, 108, 116, 32, 112, 114, 105, 110, 116, 32, 115, 104, 111, 119, 32, 115, 101, 116, 32, 109, 111, 118, 101, 32, 97, 100, 100, 32, 99, 111, 109, 112, 97, 114, 101, 32, 108, 111, 97, 100, 32, 115, 116, 111, 114, 101, 32, 106, 117, 109, 112, 32, 106, 117, 109, 112, 122, 32, 106, 117, 109, 112, 108, 32, 99, 97, 108, 108, 32, 109, 97, 112, 32, 114, 105, 103, 104, 116, 32, 101, 110, 97, 98, 108, 101, 32, 100, 105, 115, 97, 98, 108, 101, 32, 114, 101, 115, 117, 109, 101, 32, 108, 111, 119, 101, 114]
abbrev n__ : List Nat := [32]
abbrev n_rights_at : List Nat := [114, 105, 103, 104, 116, 115, 95, 97, 116]
abbrev n_place : List Nat := [112, 108, 97, 99, 101]
abbrev n_number_at : List Nat := [110, 117, 109, 98, 101, 114, 95, 97, 116]
abbrev n_copy : List Nat := [99, 111, 112, 121]
def tabL : List (Nm × Nm) := [(n_Processor, n_enabled), (n_Processor, n_halted), (n_Processor, n_less), (n_Processor, n_level), (n_Processor, n_pc), (n_Processor, n_pending), (n_Processor, n_regs), (n_Processor, n_saved), (n_Processor, n_zero), (n_Machine, n_frames), (n_Machine, n_guest), (n_Machine, n_pages), (n_Machine, n_processors), (n_Machine, n_written), (n_Guest, n_frames), (n_Guest, n_handlers), (n_Guest, n_pages), (n_Guest, n_starts), (n_Guest, n_writes)]
def tab (C f : Nm) : Bool := tabL.any fun p => decide (p.1 = C) && decide (p.2 = f)
abbrev w_ADDRESSES : PV := (.int 64)
abbrev w_CELLS : PV := (.int 16)
abbrev w_EXECUTE : PV := (.int 1)
abbrev w_FRAMES : PV := (.int 4)
abbrev w_MOST_WRITES : PV := (.int 64)
abbrev w_NUMBERS : PV := (.int 256)
abbrev w_OPS : PV := (.tup [(.tup [(.str [104, 97, 108, 116]), (.str [])]), (.tup [(.str [112, 114, 105, 110, 116]), (.str [110])]), (.tup [(.str [115, 104, 111, 119]), (.str [114])]), (.tup [(.str [115, 101, 116]), (.str [114, 110])]), (.tup [(.str [109, 111, 118, 101]), (.str [114, 114])]), (.tup [(.str [97, 100, 100]), (.str [114, 114])]), (.tup [(.str [99, 111, 109, 112, 97, 114, 101]), (.str [114, 114])]), (.tup [(.str [108, 111, 97, 100]), (.str [114, 97])]), (.tup [(.str [115, 116, 111, 114, 101]), (.str [97, 114])]), (.tup [(.str [106, 117, 109, 112]), (.str [97])]), (.tup [(.str [106, 117, 109, 112, 122]), (.str [97])]), (.tup [(.str [106, 117, 109, 112, 108]), (.str [97])]), (.tup [(.str [99, 97, 108, 108]), (.str [])]), (.tup [(.str [109, 97, 112]), (.str [103, 102])]), (.tup [(.str [114, 105, 103, 104, 116]), (.str [103, 107])]), (.tup [(.str [101, 110, 97, 98, 108, 101]), (.str [])]), (.tup [(.str [100, 105, 115, 97, 98, 108, 101]), (.str [])]), (.tup [(.str [114, 101, 115, 117, 109, 101]), (.str [])]), (.tup [(.str [108, 111, 119, 101, 114]), (.str [])])])
abbrev w_PAGES : PV := (.int 4)
abbrev w_PROCESSORS : PV := (.int 2)
abbrev w_REGISTERS : PV := (.int 4)
abbrev kd_KIND_LIMITS : List (List Nat × PV) := [([114], (.int 4)), ([110], (.int 256)), ([97], (.int 64)), ([103], (.int 4)), ([102], (.int 4)), ([107], (.int 8))]
def m_law_row : MS := (sSeq (sSet 2 (eLst aNil))
  (sSeq (sFor (iSeq (eVar 0)) (gN 3)
  (sSeq (sSet 4 (eB fAbs (aCons (eB fInt (aCons (eVar 3) aNil)) aNil)))
  (sFor (iR1 (eC (.int 60))) (gN 5)
  (sSeq (sIf (toT (eOp gLt (eB fLen (aCons (eVar 2) aNil)) (eVar 1)))
  (sExpr (eMt kList mAppend (eVar 2) (aCons (eOp gMod (eVar 4) (eC (.int 16))) aNil)))
  sNil)
  (sSeq (sSet 4 (eOp gDiv (eVar 4) (eC (.int 16))))
  (sIf (toT (eOp gEq (eVar 4) (eC (.int 0))))
  sBk
  sNil))))))
  (sRet (eVar 2))))
abbrev f_law_row : MF := fnOf 2 6 m_law_row
def m_law_pick : MS := (sSeq (sSet 3 (eC (.int 0)))
  (sSeq (sIf (toT (eOp gLt (eVar 1) (eB fLen (aCons (eVar 0) aNil))))
  (sSet 3 (eOp gIx (eVar 0) (eVar 1)))
  sNil)
  (sSeq (sIf (toT (eOp gLt (eOp gAdd (eVar 1) (eC (.int 1))) (eB fLen (aCons (eVar 0) aNil))))
  (sSet 3 (eOp gAdd (eVar 3) (eOp gMul (eC (.int 16)) (eOp gIx (eVar 0) (eOp gAdd (eVar 1) (eC (.int 1)))))))
  sNil)
  (sRet (eOp gMod (eB fInt (aCons (eVar 3) aNil)) (eVar 2))))))
abbrev f_law_pick : MF := fnOf 3 4 m_law_pick
def m_law_pages : MS := (sRet (eLc (iR1 (eC (.int 4))) (gN 1) tYesM (eTup (aCons (eOp gMod (eB fInt (aCons (eOp gAdd (eVar 1) (eCall f_law_pick [] (aCons (eVar 0) (aCons (eOp gMul (eC (.int 4)) (eVar 1)) (aCons (eC (.int 4)) aNil))))) aNil)) (eC (.int 4))) (aCons (eOp gSub (eC (.int 7)) (eCall f_law_pick [] (aCons (eVar 0) (aCons (eOp gAdd (eC (.int 2)) (eOp gMul (eC (.int 4)) (eVar 1))) (aCons (eC (.int 8)) aNil))))) aNil))) [1]))
abbrev f_law_pages : MF := fnOf 1 2 m_law_pages
def m_law_cells : MS := (sSeq (sSet 1 (eLst aNil))
  (sSeq (sFor (iR1 (eC (.int 4))) (gN 2)
  (sSeq (sSet 3 (eLst aNil))
  (sSeq (sFor (iR1 (eC (.int 16))) (gN 4)
  (sSeq (sSet 5 (eC (.int 256)))
  (sSeq (sIf (toT (eOp gEq (eOp gMod (eB fInt (aCons (eOp gAdd (eVar 2) (eVar 4)) aNil)) (eC (.int 2))) (eC (.int 0))))
  (sSet 5 (eC (.int 19)))
  sNil)
  (sExpr (eMt kList mAppend (eVar 3) (aCons (eCall f_law_pick [] (aCons (eVar 0) (aCons (eOp gAdd (eC (.int 16)) (eOp gMul (eC (.int 2)) (eOp gAdd (eOp gMul (eC (.int 16)) (eVar 2)) (eVar 4)))) (aCons (eVar 5) aNil)))) aNil))))))
  (sExpr (eMt kList mAppend (eVar 1) (aCons (eVar 3) aNil))))))
  (sRet (eVar 1))))
abbrev f_law_cells : MF := fnOf 1 6 m_law_cells
def m_Processor_init : MS := (sSeq (sFldM tab n_pc (eVar 0) (eC (.int 0)))
  (sSeq (sIf (toT (eOp (isM true) (eVar 1) (eC .non)))
  (sFldM tab n_pc (eVar 0) (eVar 1))
  sNil)
  (sSeq (sFldM tab n_regs (eVar 0) (eOp gMul (eLst (aCons (eC (.int 0)) aNil)) (eC w_REGISTERS)))
  (sSeq (sFldM tab n_zero (eVar 0) (eC (.int 0)))
  (sSeq (sFldM tab n_less (eVar 0) (eC (.int 0)))
  (sSeq (sFldM tab n_level (eVar 0) (eC (.int 1)))
  (sSeq (sFldM tab n_enabled (eVar 0) (eC (.bl false)))
  (sSeq (sFldM tab n_pending (eVar 0) (eC (.bl false)))
  (sSeq (sFldM tab n_saved (eVar 0) (eTup (aCons (eC (.int 0)) (aCons (eC (.int 1)) (aCons (eC (.bl false)) aNil)))))
  (sFldM tab n_halted (eVar 0) (eOp (isM false) (eVar 1) (eC .non))))))))))))
abbrev f_Processor_init : MF := fnOf 2 2 m_Processor_init
def m_Machine_init : MS := (sSeq (sFldM tab n_guest (eVar 0) (eVar 1))
  (sSeq (sFldM tab n_frames (eVar 0) (eLc (iSeq (eFld tab n_frames (eVar 1))) (gN 2) tYesM (eB fList (aCons (eVar 2) aNil)) [2]))
  (sSeq (sFldM tab n_pages (eVar 0) (eB fList (aCons (eFld tab n_pages (eVar 1)) aNil)))
  (sSeq (sFldM tab n_processors (eVar 0) (eLc (iSeq (eFld tab n_starts (eVar 1))) (gN 3) tYesM (eMake n_Processor f_Processor_init [] (aCons (eVar 3) aNil)) [3]))
  (sFldM tab n_written (eVar 0) (eC (.int 0)))))))
abbrev f_Machine_init : MF := fnOf 2 4 m_Machine_init
def m_within : MS := (sSeq (sIf (toT (eOp gNe (eB fLen (aCons (eVar 0) aNil)) (eB fLen (aCons (eVar 1) aNil))))
  (sRet (eC (.bl false)))
  sNil)
  (sSeq (sFor (iR1 (eB fLen (aCons (eVar 1) aNil))) (gN 2)
  (sIf (tNotM (toT (eChain gLe gLt (eC (.int 0)) (eOp gIx (eVar 0) (eVar 2)) (eOp gIx (eVar 1) (eVar 2)))))
  (sRet (eC (.bl false)))
  sNil))
  (sRet (eC (.bl true)))))
abbrev f_within : MF := fnOf 2 3 m_within
def m_check_guest : MS := (sSeq (sIf (tOrM (toT (eOp gNe (eB fLen (aCons (eFld tab n_frames (eVar 0)) aNil)) (eC w_FRAMES))) (tNotM (toT (eB fAll (aCons (eLc (iSeq (eFld tab n_frames (eVar 0))) (gN 1) tYesM (eCall f_within [] (aCons (eVar 1) (aCons (eOp gMul (eLst (aCons (eC w_NUMBERS) aNil)) (eC w_CELLS)) aNil))) [1]) aNil)))))
  sBad
  sNil)
  (sSeq (sIf (tOrM (toT (eOp gNe (eB fLen (aCons (eFld tab n_pages (eVar 0)) aNil)) (eC w_PAGES))) (tNotM (toT (eB fAll (aCons (eLc (iSeq (eFld tab n_pages (eVar 0))) (gN 2) tYesM (eCall f_within [] (aCons (eVar 2) (aCons (eLst (aCons (eC w_FRAMES) (aCons (eC (.int 8)) aNil))) aNil))) [2]) aNil)))))
  sBad
  sNil)
  (sSeq (sSet 3 (eLc (iSeq (eFld tab n_starts (eVar 0))) (gN 4) (toT (eOp (isM true) (eVar 4) (eC .non))) (eVar 4) [4]))
  (sSeq (sIf (tOrM (toT (eOp gNe (eB fLen (aCons (eFld tab n_starts (eVar 0)) aNil)) (eC w_PROCESSORS))) (tNotM (toT (eCall f_within [] (aCons (eVar 3) (aCons (eOp gMul (eLst (aCons (eC w_ADDRESSES) aNil)) (eB fLen (aCons (eVar 3) aNil))) aNil))))))
  sBad
  sNil)
  (sSeq (sIf (tNotM (toT (eCall f_within [] (aCons (eFld tab n_handlers (eVar 0)) (aCons (eOp gMul (eLst (aCons (eC w_ADDRESSES) aNil)) (eC w_PROCESSORS)) aNil)))))
  sBad
  sNil)
  (sIf (tOrM (toT (eOp gGt (eB fLen (aCons (eFld tab n_writes (eVar 0)) aNil)) (eC w_MOST_WRITES))) (tNotM (toT (eB fAll (aCons (eLc (iSeq (eFld tab n_writes (eVar 0))) (gN 5) tYesM (eCall f_within [] (aCons (eVar 5) (aCons (eLst (aCons (eC w_FRAMES) (aCons (eC w_CELLS) (aCons (eC w_NUMBERS) aNil)))) aNil))) [5]) aNil)))))
  sBad
  sNil))))))
abbrev f_check_guest : MF := fnOf 1 6 m_check_guest
def m_Guest_init : MS := (sSeq (sFldM tab n_frames (eVar 0) (eB fTuple (aCons (eLc (iSeq (eVar 1)) (gN 6) tYesM (eB fTuple (aCons (eVar 6) aNil)) [6]) aNil)))
  (sSeq (sFldM tab n_pages (eVar 0) (eB fTuple (aCons (eLc (iSeq (eVar 2)) (gN 7) tYesM (eB fTuple (aCons (eVar 7) aNil)) [7]) aNil)))
  (sSeq (sFldM tab n_starts (eVar 0) (eB fTuple (aCons (eVar 3) aNil)))
  (sSeq (sFldM tab n_handlers (eVar 0) (eB fTuple (aCons (eVar 4) aNil)))
  (sSeq (sFldM tab n_writes (eVar 0) (eB fTuple (aCons (eLc (iSeq (eVar 5)) (gN 8) tYesM (eB fTuple (aCons (eVar 8) aNil)) [8]) aNil)))
  (sExpr (eCall f_check_guest [] (aCons (eVar 0) aNil))))))))
abbrev f_Guest_init : MF := fnOf 6 9 m_Guest_init
def m_Processor_key : MS := (sSeq (sSet 1 (eTup (aCons (eFld tab n_zero (eVar 0)) (aCons (eFld tab n_less (eVar 0)) aNil))))
  (sRet (eTup (aCons (eFld tab n_pc (eVar 0)) (aCons (eB fTuple (aCons (eFld tab n_regs (eVar 0)) aNil)) (aCons (eVar 1) (aCons (eFld tab n_level (eVar 0)) (aCons (eFld tab n_enabled (eVar 0)) (aCons (eFld tab n_pending (eVar 0)) (aCons (eFld tab n_saved (eVar 0)) (aCons (eFld tab n_halted (eVar 0)) aNil)))))))))))
abbrev f_Processor_key : MF := fnOf 1 2 m_Processor_key
def m_Machine_key : MS := (sSeq (sSet 1 (eB fTuple (aCons (eLc (iSeq (eFld tab n_frames (eVar 0))) (gN 2) tYesM (eB fTuple (aCons (eVar 2) aNil)) [2]) aNil)))
  (sRet (eTup (aCons (eVar 1) (aCons (eB fTuple (aCons (eFld tab n_pages (eVar 0)) aNil)) (aCons (eB fTuple (aCons (eLc (iSeq (eFld tab n_processors (eVar 0))) (gN 3) tYesM (eMeth n_Processor n_key f_Processor_key [] (eVar 3) aNil) [3]) aNil)) (aCons (eFld tab n_written (eVar 0)) aNil)))))))
abbrev f_Machine_key : MF := fnOf 1 4 m_Machine_key
def m_law_whole : MS := (sRet (eAndM (eB fIsi (aCons (eVar 0) (aCons (eC (.ty .int)) aNil))) (eNotM (eB fIsi (aCons (eVar 0) (aCons (eC (.ty .bool)) aNil))))))
abbrev f_law_whole : MF := fnOf 1 1 m_law_whole
def m_law_same : MS := (sSeq (sIf (tOrM (tNotM (toT (eB fIsi (aCons (eVar 0) (aCons (eC (.ty .tuple)) aNil))))) (toT (eOp gNe (eB fLen (aCons (eVar 0) aNil)) (eC (.int 2)))))
  (sRet (eC (.bl false)))
  sNil)
  (sSeq (sIf (toT (eOp (isM false) (eOp gIx (eVar 1) (eC (.int 0))) (eC .non)))
  (sRet (eAndM (eOp (isM false) (eOp gIx (eVar 0) (eC (.int 0))) (eC .non)) (eAndM (eB fIsi (aCons (eOp gIx (eVar 0) (eC (.int 1))) (aCons (eC (.ty .str)) aNil))) (eOp gEq (eOp gIx (eVar 0) (eC (.int 1))) (eOp gIx (eVar 1) (eC (.int 1)))))))
  sNil)
  (sSeq (sSet 2 (eOp gIx (eVar 0) (eC (.int 0))))
  (sSeq (sIf (tOrM (toT (eOp (isM true) (eOp gIx (eVar 0) (eC (.int 1))) (eC .non))) (tOrM (tNotM (toT (eB fIsi (aCons (eVar 2) (aCons (eC (.ty .tuple)) aNil))))) (toT (eOp gNe (eB fLen (aCons (eVar 2) aNil)) (eC (.int 2))))))
  (sRet (eC (.bl false)))
  sNil)
  (sSeq (sIf (tOrM (tNotM (toT (eB fIsi (aCons (eOp gIx (eVar 2) (eC (.int 0))) (aCons (eC (.ty .str)) aNil))))) (tNotM (toT (eB fIsi (aCons (eOp gIx (eVar 2) (eC (.int 1))) (aCons (eC (.ty .tuple)) aNil))))))
  (sRet (eC (.bl false)))
  sNil)
  (sSeq (sFor (iSeq (eOp gIx (eVar 2) (eC (.int 1)))) (gN 3)
  (sIf (tNotM (toT (eCall f_law_whole [] (aCons (eVar 3) aNil))))
  (sRet (eC (.bl false)))
  sNil))
  (sRet (eAndM (eOp gEq (eOp gIx (eVar 2) (eC (.int 0))) (eOp gIx (eOp gIx (eVar 1) (eC (.int 0))) (eC (.int 0)))) (eOp gEq (eB fList (aCons (eOp gIx (eVar 2) (eC (.int 1))) aNil)) (eOp gIx (eOp gIx (eVar 1) (eC (.int 0))) (eC (.int 1))))))))))))
abbrev f_law_same : MF := fnOf 2 4 m_law_same
def m_law_kinds : MS := (sRet (eLst (aCons (eC (.str n_empty)) (aCons (eC (.str n_n)) (aCons (eC (.str n_r)) (aCons (eC (.str n_rn)) (aCons (eC (.str n_rr)) (aCons (eC (.str n_rr)) (aCons (eC (.str n_rr)) (aCons (eC (.str n_ra)) (aCons (eC (.str n_ar)) (aCons (eC (.str n_a)) (aCons (eC (.str n_a)) (aCons (eC (.str n_a)) (aCons (eC (.str n_empty)) (aCons (eC (.str n_gf)) (aCons (eC (.str n_gk)) (aCons (eC (.str n_empty)) (aCons (eC (.str n_empty)) (aCons (eC (.str n_empty)) (aCons (eC (.str n_empty)) aNil)))))))))))))))))))))
abbrev f_law_kinds : MF := fnOf 0 0 m_law_kinds
def m_law_limit : MS := (sSeq (sIf (toT (eOp gEq (eVar 0) (eC (.str n_n))))
  (sRet (eC (.int 256)))
  sNil)
  (sSeq (sIf (toT (eOp gEq (eVar 0) (eC (.str n_a))))
  (sRet (eC (.int 64)))
  sNil)
  (sSeq (sIf (toT (eOp gEq (eVar 0) (eC (.str n_k))))
  (sRet (eC (.int 8)))
  sNil)
  (sRet (eC (.int 4))))))
abbrev f_law_limit : MF := fnOf 1 1 m_law_limit
def m_law_names : MS := (sSeq (sSet 0 (eC (.str n_halt_print_show_set_move_add_c)))
  (sRet (eMt kStr mSplit (eVar 0) (aCons (eC (.str n__)) aNil))))
abbrev f_law_names : MF := fnOf 0 1 m_law_names
def m_law_due : MS := (sSeq (sIf (toT (eOp gEq (eOp gMod (eB fInt (aCons (eOp gIx (eOp gIx (eVar 1) (eOp gDiv (eVar 2) (eC (.int 16)))) (eC (.int 1))) aNil)) (eC (.int 2))) (eC (.int 0))))
  (sRet (eTup (aCons (eC .non) (aCons (eC (.str n_execute)) aNil))))
  sNil)
  (sSeq (sSet 3 (eOp gIx (eOp gIx (eVar 0) (eOp gIx (eOp gIx (eVar 1) (eOp gDiv (eVar 2) (eC (.int 16)))) (eC (.int 0)))) (eOp gMod (eB fInt (aCons (eVar 2) aNil)) (eC (.int 16)))))
  (sSeq (sIf (toT (eOp gGt (eVar 3) (eC (.int 18))))
  (sRet (eTup (aCons (eC .non) (aCons (eC (.str n_invalid)) aNil))))
  sNil)
  (sSeq (sSet 4 (eOp gIx (eCall f_law_kinds [] aNil) (eVar 3)))
  (sSeq (sSet 5 (eLst aNil))
  (sSeq (sFor (iR1 (eB fLen (aCons (eVar 4) aNil))) (gN 6)
  (sSeq (sSet 7 (eOp gMod (eB fInt (aCons (eOp gAdd (eOp gAdd (eVar 2) (eC (.int 1))) (eVar 6)) aNil)) (eC (.int 64))))
  (sSeq (sIf (toT (eOp gEq (eOp gMod (eB fInt (aCons (eOp gIx (eOp gIx (eVar 1) (eOp gDiv (eVar 7) (eC (.int 16)))) (eC (.int 1))) aNil)) (eC (.int 2))) (eC (.int 0))))
  (sRet (eTup (aCons (eC .non) (aCons (eC (.str n_execute)) aNil))))
  sNil)
  (sExpr (eMt kList mAppend (eVar 5) (aCons (eOp gMod (eB fInt (aCons (eOp gIx (eOp gIx (eVar 0) (eOp gIx (eOp gIx (eVar 1) (eOp gDiv (eVar 7) (eC (.int 16)))) (eC (.int 0)))) (eOp gMod (eB fInt (aCons (eVar 7) aNil)) (eC (.int 16)))) aNil)) (eCall f_law_limit [] (aCons (eOp gIx (eVar 4) (eVar 6)) aNil))) aNil))))))
  (sRet (eTup (aCons (eTup (aCons (eOp gIx (eCall f_law_names [] aNil) (eVar 3)) (aCons (eVar 5) aNil))) (aCons (eC .non) aNil))))))))))
abbrev f_law_due : MF := fnOf 3 8 m_law_due
def m_Machine_rights_at : MS := (sRet (eOp gIx (eOp gIx (eFld tab n_pages (eVar 0)) (eOp gDiv (eVar 1) (eC w_CELLS))) (eC (.int 1))))
abbrev f_Machine_rights_at : MF := fnOf 2 2 m_Machine_rights_at
def m_may_execute : MS := (sRet (eOp gNe (eOp gBand (eMeth n_Machine n_rights_at f_Machine_rights_at [] (eVar 0) (aCons (eVar 1) aNil)) (eC w_EXECUTE)) (eC (.int 0))))
abbrev f_may_execute : MF := fnOf 2 2 m_may_execute
def m_Machine_place : MS := (sRet (eTup (aCons (eOp gIx (eOp gIx (eFld tab n_pages (eVar 0)) (eOp gDiv (eVar 1) (eC w_CELLS))) (eC (.int 0))) (aCons (eOp gMod (eVar 1) (eC w_CELLS)) aNil))))
abbrev f_Machine_place : MF := fnOf 2 2 m_Machine_place
def m_Machine_number_at : MS := (sSeq (sAsg (gT (gsCons (gN 2) (gsCons (gN 3) gsNil))) (eMeth n_Machine n_place f_Machine_place [] (eVar 0) (aCons (eVar 1) aNil)))
  (sRet (eOp gIx (eOp gIx (eFld tab n_frames (eVar 0)) (eVar 2)) (eVar 3))))
abbrev f_Machine_number_at : MF := fnOf 2 4 m_Machine_number_at
def m_next_address : MS := (sRet (eOp gMod (eOp gAdd (eVar 0) (eVar 1)) (eC w_ADDRESSES)))
abbrev f_next_address : MF := fnOf 2 2 m_next_address
def m_decode : MS := (sSeq (sIf (tOrM (toT (eOp gEq (eB fLen (aCons (eVar 0) aNil)) (eC (.int 0)))) (toT (eOp gGe (eOp gIx (eVar 0) (eC (.int 0))) (eB fLen (aCons (eC w_OPS) aNil)))))
  (sRet (eC .non))
  sNil)
  (sSeq (sAsg (gT (gsCons (gN 1) (gsCons (gN 2) gsNil))) (eOp gIx (eC w_OPS) (eOp gIx (eVar 0) (eC (.int 0)))))
  (sSeq (sIf (toT (eOp gLt (eB fLen (aCons (eVar 0) aNil)) (eOp gAdd (eC (.int 1)) (eB fLen (aCons (eVar 2) aNil)))))
  (sRet (eC .non))
  sNil)
  (sSeq (sSet 3 (eLst aNil))
  (sSeq (sFor (iR1 (eB fLen (aCons (eVar 2) aNil))) (gN 4)
  (sExpr (eMt kList mAppend (eVar 3) (aCons (eOp gMod (eOp gIx (eVar 0) (eOp gAdd (eC (.int 1)) (eVar 4))) (eKd kd_KIND_LIMITS (eOp gIx (eVar 2) (eVar 4)))) aNil))))
  (sRet (eTup (aCons (eVar 1) (aCons (eB fTuple (aCons (eVar 3) aNil)) aNil)))))))))
abbrev f_decode : MF := fnOf 1 5 m_decode
def m_fetch_at : MS := (sSeq (sIf (tNotM (toT (eCall f_may_execute [] (aCons (eVar 0) (aCons (eVar 1) aNil)))))
  (sRet (eTup (aCons (eC .non) (aCons (eC (.str n_execute)) aNil))))
  sNil)
  (sSeq (sSet 2 (eLst (aCons (eMeth n_Machine n_number_at f_Machine_number_at [] (eVar 0) (aCons (eVar 1) aNil)) aNil)))
  (sSeq (sIf (toT (eOp gGe (eOp gIx (eVar 2) (eC (.int 0))) (eB fLen (aCons (eC w_OPS) aNil))))
  (sRet (eTup (aCons (eC .non) (aCons (eC (.str n_invalid)) aNil))))
  sNil)
  (sSeq (sFor (iR1 (eB fLen (aCons (eOp gIx (eOp gIx (eC w_OPS) (eOp gIx (eVar 2) (eC (.int 0)))) (eC (.int 1))) aNil))) (gN 3)
  (sSeq (sSet 4 (eCall f_next_address [] (aCons (eVar 1) (aCons (eOp gAdd (eVar 3) (eC (.int 1))) aNil))))
  (sSeq (sIf (tNotM (toT (eCall f_may_execute [] (aCons (eVar 0) (aCons (eVar 4) aNil)))))
  (sRet (eTup (aCons (eC .non) (aCons (eC (.str n_execute)) aNil))))
  sNil)
  (sExpr (eMt kList mAppend (eVar 2) (aCons (eMeth n_Machine n_number_at f_Machine_number_at [] (eVar 0) (aCons (eVar 4) aNil)) aNil))))))
  (sRet (eTup (aCons (eCall f_decode [] (aCons (eVar 2) aNil)) (aCons (eC .non) aNil))))))))
abbrev f_fetch_at : MF := fnOf 2 5 m_fetch_at
def m_law_fetches : MS := (sSeq (sSet 3 (eMeth n_Machine n_key f_Machine_key [] (eVar 0) aNil))
  (sSeq (sFor (iR1 (eC (.int 64))) (gN 4)
  (sIf (tNotM (toT (eCall f_law_same [] (aCons (eCall f_fetch_at [] (aCons (eVar 0) (aCons (eVar 4) aNil))) (aCons (eCall f_law_due [] (aCons (eVar 1) (aCons (eVar 2) (aCons (eVar 4) aNil)))) aNil)))))
  (sRet (eC (.bl false)))
  sNil))
  (sRet (eOp gEq (eMeth n_Machine n_key f_Machine_key [] (eVar 0) aNil) (eVar 3)))))
abbrev f_law_fetches : MF := fnOf 3 5 m_law_fetches
def m_Processor_copy : MS := (sSeq (sSet 1 (eMake n_Processor f_Processor_init [] (aCons (eFld tab n_pc (eVar 0)) aNil)))
  (sSeq (sFldM tab n_regs (eVar 1) (eB fList (aCons (eFld tab n_regs (eVar 0)) aNil)))
  (sSeq (sFldM tab n_zero (eVar 1) (eFld tab n_zero (eVar 0)))
  (sSeq (sFldM tab n_less (eVar 1) (eFld tab n_less (eVar 0)))
  (sSeq (sFldM tab n_level (eVar 1) (eFld tab n_level (eVar 0)))
  (sSeq (sFldM tab n_enabled (eVar 1) (eFld tab n_enabled (eVar 0)))
  (sSeq (sFldM tab n_pending (eVar 1) (eFld tab n_pending (eVar 0)))
  (sSeq (sFldM tab n_saved (eVar 1) (eFld tab n_saved (eVar 0)))
  (sSeq (sFldM tab n_halted (eVar 1) (eFld tab n_halted (eVar 0)))
  (sRet (eVar 1)))))))))))
abbrev f_Processor_copy : MF := fnOf 1 2 m_Processor_copy
def m_Machine_copy : MS := (sSeq (sSet 1 (eMake n_Machine f_Machine_init [] (aCons (eFld tab n_guest (eVar 0)) aNil)))
  (sSeq (sFldM tab n_frames (eVar 1) (eLc (iSeq (eFld tab n_frames (eVar 0))) (gN 2) tYesM (eB fList (aCons (eVar 2) aNil)) [2]))
  (sSeq (sFldM tab n_pages (eVar 1) (eB fList (aCons (eFld tab n_pages (eVar 0)) aNil)))
  (sSeq (sFldM tab n_processors (eVar 1) (eLc (iSeq (eFld tab n_processors (eVar 0))) (gN 3) tYesM (eMeth n_Processor n_copy f_Processor_copy [] (eVar 3) aNil) [3]))
  (sSeq (sFldM tab n_written (eVar 1) (eFld tab n_written (eVar 0)))
  (sRet (eVar 1)))))))
abbrev f_Machine_copy : MF := fnOf 1 4 m_Machine_copy
def m_law : MS := (sSeq (sSet 1 (eCall f_law_row [] (aCons (eVar 0) (aCons (eC (.int 180)) aNil))))
  (sSeq (sSet 2 (eCall f_law_pages [] (aCons (eVar 1) aNil)))
  (sSeq (sSet 3 (eCall f_law_cells [] (aCons (eVar 1) aNil)))
  (sSeq (sSet 4 (eOp gIx (eLst (aCons (eTup (aCons (eC (.int 0)) (aCons (eC .non) aNil))) (aCons (eTup (aCons (eC .non) (aCons (eC .non) aNil))) (aCons (eTup (aCons (eC (.int 63)) (aCons (eC (.int 0)) aNil))) aNil)))) (eCall f_law_pick [] (aCons (eVar 1) (aCons (eC (.int 144)) (aCons (eC (.int 3)) aNil))))))
  (sSeq (sSet 5 (eMake n_Machine f_Machine_init [] (aCons (eMake n_Guest f_Guest_init [(.tup [(.int 60), (.int 60)]), (.tup [])] (aCons (eLc (iSeq (eVar 3)) (gN 6) tYesM (eB fList (aCons (eVar 6) aNil)) [6]) (aCons (eB fList (aCons (eVar 2) aNil)) (aCons (eVar 4) aNil)))) aNil)))
  (sSeq (sIf (tNotM (toT (eCall f_law_fetches [] (aCons (eVar 5) (aCons (eVar 3) (aCons (eVar 2) aNil))))))
  (sRet (eC (.bl false)))
  sNil)
  (sSeq (sSet 7 (eMeth n_Machine n_copy f_Machine_copy [] (eVar 5) aNil))
  (sSeq (sSet 8 (eCall f_law_pick [] (aCons (eVar 1) (aCons (eC (.int 150)) (aCons (eC (.int 4)) aNil)))))
  (sSeq (sSet 9 (eCall f_law_pick [] (aCons (eVar 1) (aCons (eC (.int 152)) (aCons (eC (.int 16)) aNil)))))
  (sSeq (sSet 10 (eCall f_law_pick [] (aCons (eVar 1) (aCons (eC (.int 154)) (aCons (eC (.int 4)) aNil)))))
  (sSeq (sSub (eOp gIx (eFld tab n_frames (eVar 5)) (eVar 8)) (eVar 9) (eCall f_law_pick [] (aCons (eVar 1) (aCons (eC (.int 156)) (aCons (eC (.int 256)) aNil)))))
  (sSeq (sSub (eFld tab n_pages (eVar 5)) (eVar 10) (eTup (aCons (eCall f_law_pick [] (aCons (eVar 1) (aCons (eC (.int 158)) (aCons (eC (.int 4)) aNil)))) (aCons (eCall f_law_pick [] (aCons (eVar 1) (aCons (eC (.int 160)) (aCons (eC (.int 8)) aNil)))) aNil))))
  (sSeq (sSet 11 (eLc (iSeq (eVar 3)) (gN 6) tYesM (eB fList (aCons (eVar 6) aNil)) [6]))
  (sSeq (sSub (eOp gIx (eVar 11) (eVar 8)) (eVar 9) (eCall f_law_pick [] (aCons (eVar 1) (aCons (eC (.int 156)) (aCons (eC (.int 256)) aNil)))))
  (sSeq (sSet 12 (eB fList (aCons (eVar 2) aNil)))
  (sSeq (sSub (eVar 12) (eVar 10) (eTup (aCons (eCall f_law_pick [] (aCons (eVar 1) (aCons (eC (.int 158)) (aCons (eC (.int 4)) aNil)))) (aCons (eCall f_law_pick [] (aCons (eVar 1) (aCons (eC (.int 160)) (aCons (eC (.int 8)) aNil)))) aNil))))
  (sSeq (sIf (tNotM (toT (eCall f_law_fetches [] (aCons (eVar 5) (aCons (eVar 11) (aCons (eVar 12) aNil))))))
  (sRet (eC (.bl false)))
  sNil)
  (sRet (eAndM (eCall f_law_fetches [] (aCons (eVar 7) (aCons (eVar 3) (aCons (eVar 2) aNil)))) (eCall f_law_fetches [] (aCons (eVar 5) (aCons (eVar 11) (aCons (eVar 12) aNil)))))))))))))))))))))))
abbrev f_law : MF := fnOf 1 13 m_law
end K08

set_option Elab.async false
set_option linter.all false
set_option maxRecDepth 100000
set_option maxHeartbeats 1000000
namespace K08
open GL PySem
theorem row_eq : m_law_row = m_row := rfl
theorem pick_eq : m_law_pick = m_pick := rfl
theorem limE : lim = 100000 := rfl
theorem within_ok {S : Sto} {v : PV} {l : Nat} {xs ys : List Int} (hv : Hld S v (intsL xs)) (hl : S[l]? = some (.lst (intsL ys))) (he : xs.length = ys.length) (hb : ys.length < 1000)
    (h : ∀ i < ys.length, 0 ≤ xs.getD i 0 ∧ xs.getD i 0 < ys.getD i 0) : f_within [v, .loc l] S = .ok (.bl true) S := by
  refine fnOf_rt rfl ?_
  show m_within [some v, some (.loc l), none] S = _
  unfold m_within
  have hl' : Hld S (.loc l) (intsL ys) := .loc hl
  refine q_no (S1 := S) ?_ ?_
  · simp [toT_ap, eOp_ap, eB_ap, aCons_ap, eVar, fLen_h hv, fLen_h hl', he]
  have hi : iR1 (eB fLen (aCons (eVar 1) aNil)) [some v, some (.loc l), none] S = .ok ⟨rngL 0 ys.length, always⟩ S := by
    refine iR1_ok ?_ (by omega)
    simp [eB_ap, aCons_ap, eVar, fLen_h hl']
  obtain ⟨ls', S', e, ⟨a, rfl⟩, rfl⟩ := forGo_inv (chk := always) (g := gN 2) (body := (sIf (tNotM (toT (eChain gLe gLt (eC (.int 0)) (eOp gIx (eVar 0) (eVar 2)) (eOp gIx (eVar 1) (eVar 2)))))
    (sRet (eC (.bl false)))
    sNil)) (fun i ls S' => (∃ a, ls = [some v, some (.loc l), a]) ∧ S' = S) (rngL 0 ys.length) 0 [some v, some (.loc l), none] S (by
      rintro j x ls S' hx ⟨⟨a, rfl⟩, rfl⟩
      obtain ⟨i, hi, rfl⟩ := rng_mem (List.mem_of_getElem? hx)
      refine ⟨rfl, [some v, some (.loc l), some (.int i)], rfl, [some v, some (.loc l), some (.int i)], S', .inl ?_, ⟨_, rfl⟩, rfl⟩
      have g1 := gIx_h hv (intsL_get (ds := xs) (i := i) (by omega))
      have g2 := gIx_h hl' (intsL_get (ds := ys) (i := i) (by omega))
      obtain ⟨b1, b2⟩ := h i hi
      simp only [sIf_ap, tNotM_ap, toT_ap, eChain, eC_ap, bind_ok, eOp_ap, eVar, List.getElem?_cons_zero, List.getElem?_cons_succ, g1, g2, gLe_int, gLt_int, decide_eq_true b1, decide_eq_true b2, asB_bl, then_ok, Bool.not_true, Bool.false_eq_true, if_false, sNil_ap]) (fun _ _ _ => rfl) ⟨⟨_, rfl⟩, rfl⟩
  refine q_nx (sFor_nx hi e) ?_
  rfl
theorem rep_ok {S : Sto} {ls : Ls} {c : Int} {k : Nat} {mk : ME} (hk : k ≤ 1000) (hm : mk ls (S ++ [.lst [.int c]]) = .ok (.int k) (S ++ [.lst [.int c]])) :
    eOp gMul (eLst (aCons (eC (.int c)) aNil)) mk ls S = .ok (.loc (S.length + 1)) (S ++ [.lst [.int c], .lst (intsL (List.replicate k c))]) := by
  have h1 : (1 : Nat) ≤ lim := by decide
  have e1 : eLst (aCons (eC (.int c)) aNil) ls S = .ok (.loc S.length) (S ++ [.lst [.int c]]) := by simp [eLst, aCons_ap, h1]
  rw [eOp_ap, e1, bind_ok, hm, bind_ok]
  unfold gMul
  dsimp only
  rw [lstAt_of get_app]
  dsimp only
  have hf : (List.replicate k [PV.int c]).flatten = intsL (List.replicate k c) := by unfold intsL; simp
  rw [if_pos]
  · simp [hf]
  · simp [limE]; omega
def Fr (fr : List (List Int)) : Prop := fr.length = 4 ∧ ∀ r ∈ fr, r.length = 16 ∧ ∀ x ∈ r, 0 ≤ x ∧ x < 256
def tupsL (fr : List (List Int)) : List PV := (fr.map intsL).map .tup
structure Pg where
  f : Nat
  r : Nat
def pgV (p : Pg) : PV := .tup (intsL [p.f, p.r])
def pagesL (pg : List Pg) : List PV := pg.map pgV
def PgOk (pg : List Pg) : Prop := pg.length = 4 ∧ ∀ p ∈ pg, p.f < 4 ∧ p.r < 8
def stV : Option Nat → PV
  | none => .non
  | some x => .int x
def StOk (s : Option Nat) : Prop := ∀ x, s = some x → x < 64
abbrev stsL (a b : Option Nat) : List PV := [stV a, stV b]
def startedL : List (Option Nat) → List Int
  | [] => []
  | none :: r => startedL r
  | some x :: r => (x : Int) :: startedL r
def guestF (fr : List (List Int)) (pg : List Pg) (a b : Option Nat) : List (Nm × PV) := [(n_frames, .tup (tupsL fr)), (n_pages, .tup (pagesL pg)), (n_starts, .tup (stsL a b)), (n_handlers, .tup [.int 60, .int 60]), (n_writes, .tup [])]
theorem repD {c : Int} {k i : Nat} (h : i < k) : (List.replicate k c).getD i 0 = c := by rw [List.getD_eq_getElem?_getD, List.getElem?_replicate_of_lt h]; rfl
theorem getD_mem {r : List Int} {i : Nat} (h : i < r.length) : r.getD i 0 ∈ r := by rw [List.getD_eq_getElem?_getD, List.getElem?_eq_getElem h]; exact List.getElem_mem h
theorem check_ok {S : Sto} {p : Nat} {fr : List (List Int)} {pg : List Pg} {sa sb : Option Nat} (hp : S[p]? = some (.ins n_Guest (guestF fr pg sa sb))) (hf : Fr fr) (hg : PgOk pg) (ha : StOk sa) (hb : StOk sb) : ∃ X, f_check_guest [.loc p] S = .ok .non (S ++ X) := by
  have tf : ∀ {S : Sto} {ls : Ls}, S[p]? = some (.ins n_Guest (guestF fr pg sa sb)) → ls[0]? = some (some (.loc p)) → eFld tab n_frames (eVar 0) ls S = .ok (.tup (tupsL fr)) S := fun h hl => eFld_ok hl h (by decide +kernel) rfl
  have tp : ∀ {S : Sto} {ls : Ls}, S[p]? = some (.ins n_Guest (guestF fr pg sa sb)) → ls[0]? = some (some (.loc p)) → eFld tab n_pages (eVar 0) ls S = .ok (.tup (pagesL pg)) S := fun h hl => eFld_ok hl h (by decide +kernel) rfl
  have ts : ∀ {S : Sto} {ls : Ls}, S[p]? = some (.ins n_Guest (guestF fr pg sa sb)) → ls[0]? = some (some (.loc p)) → eFld tab n_starts (eVar 0) ls S = .ok (.tup (stsL sa sb)) S := fun h hl => eFld_ok hl h (by decide +kernel) rfl
  have th : ∀ {S : Sto} {ls : Ls}, S[p]? = some (.ins n_Guest (guestF fr pg sa sb)) → ls[0]? = some (some (.loc p)) → eFld tab n_handlers (eVar 0) ls S = .ok (.tup [.int 60, .int 60]) S := fun h hl => eFld_ok hl h (by decide +kernel) rfl
  have tw : ∀ {S : Sto} {ls : Ls}, S[p]? = some (.ins n_Guest (guestF fr pg sa sb)) → ls[0]? = some (some (.loc p)) → eFld tab n_writes (eVar 0) ls S = .ok (.tup []) S := fun h hl => eFld_ok hl h (by decide +kernel) rfl
  have hlen : (tupsL fr).length = 4 := by simp [tupsL, hf.1]
  have hplen : (pagesL pg).length = 4 := by simp [pagesL, hg.1]
  -- frames
  obtain ⟨X1, e1⟩ := all_ok (it := iSeq (eFld tab n_frames (eVar 0))) (v := 1) (ls := [some (.loc p), none, none, none, none, none]) (S := S) (te := (eCall f_within [] (aCons (eVar 1) (aCons (eOp gMul (eLst (aCons (eC w_NUMBERS) aNil)) (eC w_CELLS)) aNil))))
    (iSeq_h (tf hp rfl) .tup) (by simp) (fun _ _ _ => rfl) (by show (tupsL fr).length < lim; rw [hlen]; decide) (by
      intro x hx B
      obtain ⟨ir, hr0, rfl⟩ := List.mem_map.mp hx
      obtain ⟨r, hr, rfl⟩ := List.mem_map.mp hr0
      obtain ⟨h16, hb⟩ := hf.2 r hr
      refine ⟨[.lst [.int 256], .lst (intsL (List.replicate 16 256))], q_call (ws := [.tup (intsL r), .loc ((S ++ B).length + 1)]) (S1 := S ++ B ++ [.lst [.int 256], .lst (intsL (List.replicate 16 256))]) ?_ ?_⟩
      · rw [aCons_ap, eVar_of rfl, bind_ok, aCons_ap, rep_ok (k := 16) (by decide) rfl]; rfl
      · refine within_ok (ys := List.replicate 16 256) .tup ?_ (by rw [h16]; rfl) (by decide) fun i hi => ?_
        · rw [List.getElem?_append_right (by omega)]; simp
        · rw [List.length_replicate] at hi
          rw [repD hi]
          exact hb _ (getD_mem (by omega)))
  -- pages
  have hp1 := get_old (X := X1) hp
  obtain ⟨X2, e2⟩ := all_ok (it := iSeq (eFld tab n_pages (eVar 0))) (v := 2) (ls := [some (.loc p), none, none, none, none, none]) (S := S ++ X1) (te := (eCall f_within [] (aCons (eVar 2) (aCons (eLst (aCons (eC w_FRAMES) (aCons (eC (.int 8)) aNil))) aNil))))
    (iSeq_h (tp hp1 rfl) .tup) (by simp) (fun _ _ _ => rfl) (by show (pagesL pg).length < lim; rw [hplen]; decide) (by
      intro x hx B
      obtain ⟨q, hq, rfl⟩ := List.mem_map.mp hx
      obtain ⟨a1, a2⟩ := hg.2 q hq
      refine ⟨[.lst (intsL [4, 8])], q_call (ws := [.tup (intsL [q.f, q.r]), .loc (S ++ X1 ++ B).length]) (S1 := S ++ X1 ++ B ++ [.lst (intsL [4, 8])]) ?_ ?_⟩
      · have h2 : (2 : Nat) ≤ lim := by decide
        rw [aCons_ap, eVar_of rfl, bind_ok, aCons_ap]
        simp [eLst, aCons_ap, h2, intsL, List.append_assoc]
        rfl
      · refine within_ok (ys := [4, 8]) .tup get_app rfl (by decide) fun i hi => ?_
        match i, hi with
        | 0, _ => exact ⟨by show (0 : Int) ≤ (q.f : Int); omega, by show (q.f : Int) < 4; omega⟩
        | 1, _ => exact ⟨by show (0 : Int) ≤ (q.r : Int); omega, by show (q.r : Int) < 8; omega⟩)
  have hp2 := get_old (X := X2) hp1
  -- starts
  obtain ⟨xs, hxs⟩ : ∃ xs : List Int, xs = startedL [sa, sb] := ⟨_, rfl⟩
  have hbnd : ∀ x ∈ xs, 0 ≤ x ∧ x < 64 := by
    rw [hxs]
    intro x hx
    cases sa with
    | none => cases sb with
      | none => cases hx
      | some y =>
        have := hb y rfl
        rcases List.mem_cons.mp hx with rfl | h
        · omega
        · cases h
    | some z => cases sb with
      | none =>
        have := ha z rfl
        rcases List.mem_cons.mp hx with rfl | h
        · omega
        · cases h
      | some y =>
        have h1 := ha z rfl
        have h2 := hb y rfl
        rcases List.mem_cons.mp hx with rfl | h
        · omega
        · rcases List.mem_cons.mp h with rfl | h
          · omega
          · cases h
  have hxl : xs.length ≤ 2 := by rw [hxs]; cases sa <;> cases sb <;> simp [startedL]
  have e3 : eLc (iSeq (eFld tab n_starts (eVar 0))) (gN 4) (toT (eOp (isM true) (eVar 4) (eC .non))) (eVar 4) [4] [some (.loc p), none, none, none, none, none] (S ++ X1 ++ X2) = .ok (.loc (S ++ X1 ++ X2).length) (S ++ X1 ++ X2 ++ [.lst (intsL xs)]) := by
    rw [eLc_pure (t := ⟨stsL sa sb, wkOf (.tup (stsL sa sb)) (stsL sa sb)⟩) (fun x => !isNonP x) (fun x => x) (iSeq_h (ts hp2 rfl) .tup)]
    · rw [hxs]
      cases sa <;> cases sb <;> rfl
    · intro x hx acc
      refine ⟨[some (.loc p), none, none, none, some x, none], rfl, ?_, fun _ => rfl⟩
      rfl
    · intros; rfl
    · show (2 : Nat) < lim; decide
  obtain ⟨S3, hS3⟩ : ∃ S3 : Sto, S3 = S ++ X1 ++ X2 ++ [.lst (intsL xs)] := ⟨_, rfl⟩
  obtain ⟨r3, hr3⟩ : ∃ r3 : Nat, r3 = (S ++ X1 ++ X2).length := ⟨_, rfl⟩
  have hp3 : S3[p]? = some (.ins n_Guest (guestF fr pg sa sb)) := by rw [hS3]; exact get_old hp2
  have hs3 : S3[r3]? = some (.lst (intsL xs)) := by rw [hS3, hr3]; exact get_app
  have e4 : tOrM (toT (eOp gNe (eB fLen (aCons (eFld tab n_starts (eVar 0)) aNil)) (eC w_PROCESSORS))) (tNotM (toT (eCall f_within [] (aCons (eVar 3) (aCons (eOp gMul (eLst (aCons (eC w_ADDRESSES) aNil)) (eB fLen (aCons (eVar 3) aNil))) aNil)))))
      [some (.loc p), none, none, some (.loc r3), none, none] S3 = .ok false (S3 ++ [.lst [.int 64], .lst (intsL (List.replicate xs.length 64))]) := by
    have w := within_ok (S := S3 ++ [.lst [.int 64], .lst (intsL (List.replicate xs.length 64))]) (v := .loc r3) (l := S3.length + 1) (xs := xs) (ys := List.replicate xs.length 64) (.loc (get_old hs3)) (by rw [List.getElem?_append_right (by omega)]; simp) (by simp) (by simp; omega) (fun i hi => by
      rw [List.length_replicate] at hi
      rw [repD hi]
      exact hbnd _ (getD_mem hi))
    have hm : eB fLen (aCons (eVar 3) aNil) [some (.loc p), none, none, some (.loc r3), none, none] (S3 ++ [.lst [.int 64]]) = .ok (.int (xs.length : Int)) (S3 ++ [.lst [.int 64]]) := by
      rw [eB_ap, aCons_ap, eVar_of rfl]
      simp only [bind_ok, aNil_ap]
      rw [fLen_h (.loc (get_old hs3)), intsL_len]
    have c : (aCons (eVar 3) (aCons (eOp gMul (eLst (aCons (eC w_ADDRESSES) aNil)) (eB fLen (aCons (eVar 3) aNil))) aNil)) [some (.loc p), none, none, some (.loc r3), none, none] S3 = .ok [.loc r3, .loc (S3.length + 1)] (S3 ++ [.lst [.int 64], .lst (intsL (List.replicate xs.length 64))]) := by
      rw [aCons_ap, eVar_of rfl, bind_ok, aCons_ap, rep_ok (k := xs.length) (by omega) hm]; rfl
    rw [tOrM_ap, toT_ap, eOp_ap, eB_ap, aCons_ap, ts hp3 rfl]
    simp only [bind_ok, aNil_ap, fLen_tup, eC_ap, gNe_int, asB_bl, List.length_cons, List.length_nil]
    rw [tNotM_ap, toT_ap, q_call c w]
    rfl
  obtain ⟨S4, hS4⟩ : ∃ S4 : Sto, S4 = S3 ++ [.lst [.int 64], .lst (intsL (List.replicate xs.length 64))] := ⟨_, rfl⟩
  have hp4 : S4[p]? = some (.ins n_Guest (guestF fr pg sa sb)) := by rw [hS4]; exact get_old hp3
  have e5 : tNotM (toT (eCall f_within [] (aCons (eFld tab n_handlers (eVar 0)) (aCons (eOp gMul (eLst (aCons (eC w_ADDRESSES) aNil)) (eC w_PROCESSORS)) aNil))))
      [some (.loc p), none, none, some (.loc r3), none, none] S4 = .ok false (S4 ++ [.lst [.int 64], .lst (intsL (List.replicate 2 64))]) := by
    have w := within_ok (S := S4 ++ [.lst [.int 64], .lst (intsL (List.replicate 2 64))]) (v := .tup [.int 60, .int 60]) (l := S4.length + 1) (xs := [60, 60]) (ys := List.replicate 2 64) .tup (by rw [List.getElem?_append_right (by omega)]; simp) rfl (by decide) (fun i hi => by
      match i, hi with
      | 0, _ => exact ⟨by decide, by decide⟩
      | 1, _ => exact ⟨by decide, by decide⟩)
    have c : (aCons (eFld tab n_handlers (eVar 0)) (aCons (eOp gMul (eLst (aCons (eC w_ADDRESSES) aNil)) (eC w_PROCESSORS)) aNil)) [some (.loc p), none, none, some (.loc r3), none, none] S4 = .ok [.tup [.int 60, .int 60], .loc (S4.length + 1)] (S4 ++ [.lst [.int 64], .lst (intsL (List.replicate 2 64))]) := by
      rw [aCons_ap, th hp4 rfl, bind_ok, aCons_ap, rep_ok (k := 2) (by decide) rfl]; rfl
    rw [tNotM_ap, toT_ap, q_call c w]
    rfl
  obtain ⟨S5, hS5⟩ : ∃ S5 : Sto, S5 = S4 ++ [.lst [.int 64], .lst (intsL (List.replicate 2 64))] := ⟨_, rfl⟩
  have hp5 : S5[p]? = some (.ins n_Guest (guestF fr pg sa sb)) := by rw [hS5]; exact get_old hp4
  obtain ⟨X6, e6⟩ := all_ok (it := iSeq (eFld tab n_writes (eVar 0))) (v := 5) (ls := [some (.loc p), none, none, some (.loc r3), none, none]) (S := S5) (te := (eCall f_within [] (aCons (eVar 5) (aCons (eLst (aCons (eC w_FRAMES) (aCons (eC w_CELLS) (aCons (eC w_NUMBERS) aNil)))) aNil))))
    (iSeq_h (tw hp5 rfl) .tup) (by simp) (fun _ _ _ => rfl) (by decide) (by intro x hx; cases hx)
  refine ⟨X1 ++ X2 ++ [.lst (intsL xs)] ++ [.lst [.int 64], .lst (intsL (List.replicate xs.length 64))] ++ [.lst [.int 64], .lst (intsL (List.replicate 2 64))] ++ X6, fnOf_nx (ls := [some (.loc p), none, none, some (.loc r3), none, none]) rfl ?_⟩
  show m_check_guest [some (.loc p), none, none, none, none, none] S = _
  unfold m_check_guest
  refine q_no (S1 := S ++ X1) ?_ ?_
  · rw [tOrM_ap, toT_ap, eOp_ap, eB_ap, aCons_ap, tf hp rfl]
    simp only [bind_ok, aNil_ap, fLen_tup, eC_ap, hlen, gNe_int, asB_bl]
    rw [tNotM_ap, toT_ap, e1]
    rfl
  refine q_no (S1 := S ++ X1 ++ X2) ?_ ?_
  · rw [tOrM_ap, toT_ap, eOp_ap, eB_ap, aCons_ap, tp hp1 rfl]
    simp only [bind_ok, aNil_ap, fLen_tup, eC_ap, hplen, gNe_int, asB_bl]
    rw [tNotM_ap, toT_ap, e2]
    rfl
  refine q_set e3 ?_
  rw [← hS3, ← hr3]
  refine q_no e4 ?_
  rw [← hS4]
  refine q_no e5 ?_
  rw [← hS5, sIf_ap, tOrM_ap, toT_ap, eOp_ap, eB_ap, aCons_ap, List.set_cons_succ, List.set_cons_succ, List.set_cons_succ, List.set_cons_zero, tw hp5 rfl]
  simp only [bind_ok, aNil_ap, fLen_tup, eC_ap, gGt_int, asB_bl, List.length_nil]
  rw [tNotM_ap, toT_ap, e6]
  rw [hS5, hS4, hS3]
  simp only [List.append_assoc]
  rfl

/-! ### making -/
def FrAt (S : Sto) (l a : Nat) (fr : List (List Int)) : Prop := S[l]? = some (.lst (locsL a fr.length)) ∧ ∀ (i : Nat) (r : List Int), fr[i]? = some r → S[a + i]? = some (.lst (intsL r))
theorem FrAt.old {S X : Sto} {l a : Nat} {fr : List (List Int)} (h : FrAt S l a fr) : FrAt (S ++ X) l a fr := ⟨get_old h.1, fun i r q => get_old (h.2 i r q)⟩
theorem FrAt.hld {S : Sto} {l a : Nat} {fr : List (List Int)} (h : FrAt S l a fr) (j : Nat) (x : PV) (r : List PV) (hx : (locsL a fr.length)[j]? = some x) (hr : (fr.map intsL)[j]? = some r) : Hld S x r := by
  rw [List.getElem?_map] at hr
  obtain ⟨q, hq, rfl⟩ := Option.map_eq_some_iff.mp hr
  have hj := (List.getElem?_eq_some_iff.mp hq).1
  rw [locsL_get hj] at hx
  cases hx
  exact .loc (h.2 j q hq)
theorem tup_h {S : Sto} {rows : List (List PV)} (j : Nat) (x : PV) (r : List PV) (hx : (rows.map PV.tup)[j]? = some x) (hr : rows[j]? = some r) : Hld S x r := by
  rw [List.getElem?_map, hr] at hx
  cases hx
  exact .tup
theorem guest_ok {A : Sto} {l a lp : Nat} {fr : List (List Int)} {pg : List Pg} {sa sb : Option Nat} (h : FrAt A l a fr) (hf : Fr fr) (hl : A[lp]? = some (.lst (pagesL pg))) (hg : PgOk pg) (ha : StOk sa) (hb : StOk sb) :
    ∃ X, f_Guest_init [.loc A.length, .loc l, .loc lp, .tup (stsL sa sb), .tup [.int 60, .int 60], .tup []] (A ++ [.ins n_Guest []]) = .ok .non (A ++ .ins n_Guest (guestF fr pg sa sb) :: X) := by
  obtain ⟨X, ec⟩ := check_ok (S := A ++ .ins n_Guest (guestF fr pg sa sb) :: [.lst (tupsL fr), .lst (pagesL pg), .lst []]) (p := A.length) get_mid hf hg ha hb
  refine ⟨[.lst (tupsL fr), .lst (pagesL pg), .lst []] ++ X, fnOf_nx (ls := [some (.loc A.length), some (.loc l), some (.loc lp), some (.tup (stsL sa sb)), some (.tup [.int 60, .int 60]), some (.tup []), none, none, none]) rfl ?_⟩
  show m_Guest_init [some (.loc A.length), some (.loc l), some (.loc lp), some (.tup (stsL sa sb)), some (.tup [.int 60, .int 60]), some (.tup []), none, none, none] (A ++ .ins n_Guest [] :: []) = _
  unfold m_Guest_init
  have h4 : fr.length = 4 := hf.1
  refine q_fld (tuples_ok (t := ⟨locsL a fr.length, wkOf (.loc l) (locsL a fr.length)⟩) (rows := fr.map intsL) (iSeq_h (eVar_of rfl) (.loc (get_old h.1))) (by simp) (fun i acc => wk_ok (i := i) (.loc (get_old (get_old h.1)))) (by rw [List.length_map, h4]; decide) (by simp) h.old.hld)
    (B' := [.lst (tupsL fr)]) (by rw [List.append_assoc]; rfl) rfl (by decide +kernel) (Nat.le_of_ble_eq_true rfl) ?_
  have hpm : pagesL pg = (pg.map fun p => intsL [p.f, p.r]).map PV.tup := by unfold pagesL; rw [List.map_map]; rfl
  refine q_fld (tuples_ok (t := ⟨pagesL pg, wkOf (.loc lp) (pagesL pg)⟩) (rows := pg.map fun p => intsL [p.f, p.r]) (iSeq_h (eVar_of rfl) (.loc (get_old hl))) (by simp) (fun i acc => wk_ok (i := i) (.loc (get_old (get_old hl)))) (by rw [List.length_map, hg.1]; decide) (by simp [pagesL]) (by show ∀ (j : Nat) (x : PV) (r : List PV), (pagesL pg)[j]? = some x → _; rw [hpm]; exact tup_h))
    (B' := [.lst (tupsL fr), .lst (pagesL pg)]) (by rw [List.append_assoc, ← hpm]; rfl) rfl (by decide +kernel) (Nat.le_of_ble_eq_true rfl) ?_
  refine q_fld (B' := [.lst (tupsL fr), .lst (pagesL pg)]) rfl rfl rfl (by decide +kernel) (Nat.le_of_ble_eq_true rfl) ?_
  refine q_fld (B' := [.lst (tupsL fr), .lst (pagesL pg)]) rfl rfl rfl (by decide +kernel) (Nat.le_of_ble_eq_true rfl) ?_
  refine q_fld (tuples_ok (t := ⟨[], wkOf (.tup []) []⟩) (rows := []) (iSeq_h (eVar_of rfl) .tup) (by simp) (fun i acc => rfl) (by decide) (by rfl) (tup_h (rows := [])))
    (B' := [.lst (tupsL fr), .lst (pagesL pg), .lst []]) (by rw [List.append_assoc]; rfl) rfl (by decide +kernel) (Nat.le_of_ble_eq_true rfl) ?_
  have : eCall f_check_guest [] (aCons (eVar 0) aNil) [some (.loc A.length), some (.loc l), some (.loc lp), some (.tup (stsL sa sb)), some (.tup [.int 60, .int 60]), some (.tup []), none, none, none] (A ++ .ins n_Guest (guestF fr pg sa sb) :: [.lst (tupsL fr), .lst (pagesL pg), .lst []]) = .ok .non (A ++ .ins n_Guest (guestF fr pg sa sb) :: [.lst (tupsL fr), .lst (pagesL pg), .lst []] ++ X) := q_call rfl ec
  rw [sExpr_ap, ← hpm]
  erw [this]
  simp only [then_ok, List.append_assoc, List.cons_append]
def procF (pc : PV) (r : Nat) (hal : Bool) : List (Nm × PV) := [(n_pc, pc), (n_regs, .loc r), (n_zero, .int 0), (n_less, .int 0), (n_level, .int 1), (n_enabled, .bl false), (n_pending, .bl false), (n_saved, .tup [.int 0, .int 1, .bl false]), (n_halted, .bl hal)]
theorem proc_ok {B : Sto} {st : Option Nat} : f_Processor_init [.loc B.length, stV st] (B ++ [.ins n_Processor []]) = .ok .non (B ++ .ins n_Processor (procF (.int (st.getD 0 : Nat)) (B.length + 2) st.isNone) :: [.lst (intsL [0]), .lst (intsL [0, 0, 0, 0])]) := by
  refine fnOf_nx (ls := [some (.loc B.length), some (stV st)]) rfl ?_
  show m_Processor_init [some (.loc B.length), some (stV st)] (B ++ .ins n_Processor [] :: []) = _
  unfold m_Processor_init
  refine q_fld (B' := []) rfl rfl rfl (by decide +kernel) (Nat.le_of_ble_eq_true rfl) ?_
  have e : sIf (toT (eOp (isM true) (eVar 1) (eC .non))) (sFldM tab n_pc (eVar 0) (eVar 1)) sNil [some (.loc B.length), some (stV st)] (B ++ .ins n_Processor [(n_pc, .int 0)] :: []) = .nx [some (.loc B.length), some (stV st)] (B ++ .ins n_Processor [(n_pc, .int (st.getD 0 : Nat))] :: []) := by
    cases st with
    | none => rfl
    | some x =>
      simp only [stV, sIf_ap, toT_ap, eOp_ap, eVar, List.getElem?_cons_zero, List.getElem?_cons_succ, bind_ok, eC_ap, isM, isNonP, if_true, Bool.not_false, asB_bl, then_ok]
      exact fld_ap (B' := []) rfl rfl rfl (by decide +kernel) (Nat.le_of_ble_eq_true rfl)
  refine q_nx e ?_
  refine q_fld (B' := [.lst (intsL [0]), .lst (intsL [0, 0, 0, 0])]) (rep_ok (k := 4) (by decide) rfl) (by rw [List.append_assoc]; rfl) rfl (by decide +kernel) (Nat.le_of_ble_eq_true rfl) ?_
  refine q_fld (B' := [.lst (intsL [0]), .lst (intsL [0, 0, 0, 0])]) rfl rfl rfl (by decide +kernel) (Nat.le_of_ble_eq_true rfl) ?_
  refine q_fld (B' := [.lst (intsL [0]), .lst (intsL [0, 0, 0, 0])]) rfl rfl rfl (by decide +kernel) (Nat.le_of_ble_eq_true rfl) ?_
  refine q_fld (B' := [.lst (intsL [0]), .lst (intsL [0, 0, 0, 0])]) rfl rfl rfl (by decide +kernel) (Nat.le_of_ble_eq_true rfl) ?_
  refine q_fld (B' := [.lst (intsL [0]), .lst (intsL [0, 0, 0, 0])]) rfl rfl rfl (by decide +kernel) (Nat.le_of_ble_eq_true rfl) ?_
  refine q_fld (B' := [.lst (intsL [0]), .lst (intsL [0, 0, 0, 0])]) rfl rfl rfl (by decide +kernel) (Nat.le_of_ble_eq_true rfl) ?_
  refine q_fld (B' := [.lst (intsL [0]), .lst (intsL [0, 0, 0, 0])]) rfl rfl rfl (by decide +kernel) (Nat.le_of_ble_eq_true rfl) ?_
  have eh : eOp (isM false) (eVar 1) (eC .non) [some (.loc B.length), some (stV st)] (B ++ .ins n_Processor [(n_pc, .int (st.getD 0 : Nat)), (n_regs, .loc (B.length + 2)), (n_zero, .int 0), (n_less, .int 0), (n_level, .int 1), (n_enabled, .bl false), (n_pending, .bl false), (n_saved, .tup [.int 0, .int 1, .bl false])] :: [.lst (intsL [0]), .lst (intsL [0, 0, 0, 0])])
      = .ok (.bl st.isNone) (B ++ .ins n_Processor [(n_pc, .int (st.getD 0 : Nat)), (n_regs, .loc (B.length + 2)), (n_zero, .int 0), (n_less, .int 0), (n_level, .int 1), (n_enabled, .bl false), (n_pending, .bl false), (n_saved, .tup [.int 0, .int 1, .bl false])] :: [.lst (intsL [0]), .lst (intsL [0, 0, 0, 0])]) := by
    cases st <;> rfl
  have el : (B ++ [OB.ins n_Processor [(n_pc, PV.int ((st.getD 0 : Nat) : Int))]]).length + 1 = B.length + 2 := by simp
  rw [el]
  exact fld_ap eh rfl rfl (by decide +kernel) (Nat.le_of_ble_eq_true rfl)
end K08

set_option Elab.async false
set_option linter.all false
set_option maxRecDepth 100000
set_option maxHeartbeats 1000000
namespace K08
open GL PySem
theorem get_at {A L : Sto} {k : Nat} : (A ++ L)[A.length + k]? = L[k]? := by rw [List.getElem?_append_right (by omega)]; congr 1; omega
theorem list_of {m : ME} {ls : Ls} {S S1 : Sto} {xs : List PV} (h : m ls S = .ok (.tup xs) S1) : eB fList (aCons m aNil) ls S = .ok (.loc S1.length) (S1 ++ [.lst xs]) := by
  rw [eB_ap, aCons_ap, h]; rfl
theorem procs_ok {B : Sto} {it : MI} {ls : Ls} {S : Sto} {sa sb : Option Nat} (hl : 3 < ls.length) (hi : it ls S = .ok ⟨stsL sa sb, always⟩ B) :
    eLc it (gN 3) tYesM (eMake n_Processor f_Processor_init [] (aCons (eVar 3) aNil)) [3] ls S = .ok (.loc B.length) (B ++ [.lst [.loc (B.length + 1), .loc (B.length + 4)],
      .ins n_Processor (procF (.int (sa.getD 0 : Nat)) (B.length + 3) sa.isNone), .lst (intsL [0]), .lst (intsL [0, 0, 0, 0]), .ins n_Processor (procF (.int (sb.getD 0 : Nat)) (B.length + 6) sb.isNone), .lst (intsL [0]), .lst (intsL [0, 0, 0, 0])]) := by
  obtain ⟨P1, hP1⟩ : ∃ P1, P1 = OB.ins n_Processor (procF (.int (sa.getD 0 : Nat)) (B.length + 3) sa.isNone) := ⟨_, rfl⟩
  obtain ⟨P2, hP2⟩ : ∃ P2, P2 = OB.ins n_Processor (procF (.int (sb.getD 0 : Nat)) (B.length + 6) sb.isNone) := ⟨_, rfl⟩
  rw [← hP1, ← hP2]
  unfold eLc
  rw [hi, bind_ok]
  dsimp only
  have w : ∀ x : PV, gN 3 x (wipeL ls [3]) = some (ls.set 3 (some x)) := fun x => by show some ((ls.set 3 none).set 3 _) = _; rw [List.set_set]
  have g : ∀ x : PV, (ls.set 3 (some x))[3]? = some (some x) := fun x => List.getElem?_set_self hl
  have p1 := proc_ok (B := B ++ [OB.lst []]) (st := sa)
  have e1 : eMake n_Processor f_Processor_init [] (aCons (eVar 3) aNil) (ls.set 3 (some (stV sa))) (B ++ [OB.lst []]) = .ok (.loc (B ++ [OB.lst []]).length) (B ++ OB.lst [] :: [P1, OB.lst (intsL [0]), OB.lst (intsL [0, 0, 0, 0])]) := by
    refine eMake_ok (ws := [stV sa]) (by rw [aCons_ap, eVar_of (g _)]; rfl) ?_
    rw [List.append_nil, p1, hP1]
    simp
  rw [lcGo_cons (acc := []) rfl (w _) rfl e1 get_mid (by decide), set_mid]
  have p2 := proc_ok (B := B ++ [OB.lst [.loc (B.length + 1)], P1, OB.lst (intsL [0]), OB.lst (intsL [0, 0, 0, 0])]) (st := sb)
  have e2 : eMake n_Processor f_Processor_init [] (aCons (eVar 3) aNil) (ls.set 3 (some (stV sb))) (B ++ [OB.lst [.loc (B.length + 1)], P1, OB.lst (intsL [0]), OB.lst (intsL [0, 0, 0, 0])])
      = .ok (.loc (B.length + 4)) (B ++ OB.lst [.loc (B.length + 1)] :: [P1, OB.lst (intsL [0]), OB.lst (intsL [0, 0, 0, 0]), P2, OB.lst (intsL [0]), OB.lst (intsL [0, 0, 0, 0])]) := by
    have := eMake_ok (C := n_Processor) (fn := f_Processor_init) (d := []) (ls := ls.set 3 (some (stV sb))) (args := aCons (eVar 3) aNil) (ws := [stV sb]) (by rw [aCons_ap, eVar_of (g _)]; rfl) (by rw [List.append_nil]; exact p2)
    rw [this, hP2]
    simp
  have ee : B ++ OB.lst ([] ++ [.loc (B ++ [OB.lst []]).length]) :: [P1, OB.lst (intsL [0]), OB.lst (intsL [0, 0, 0, 0])]
      = B ++ [OB.lst [.loc (B.length + 1)], P1, OB.lst (intsL [0]), OB.lst (intsL [0, 0, 0, 0])] := by simp
  rw [ee, lcGo_cons (acc := [.loc (B.length + 1)]) rfl (w _) rfl e2 get_mid (by show (1 : Nat) < lim; decide), set_mid, lcGo_nil rfl]
  simp
def machF (g nf np nq : Nat) : List (Nm × PV) := [(n_guest, .loc g), (n_frames, .loc nf), (n_pages, .loc np), (n_processors, .loc nq), (n_written, .int 0)]
structure MachAt (S : Sto) (L m a : Nat) (fr : List (List Int)) (pg : List Pg) (sa sb : Option Nat) (g nf np nq q0 q1 r0 r1 : Nat) : Prop where
  me : S[m]? = some (.ins n_Machine (machF g nf np nq))
  gd : ∃ fr0 pg0, S[g]? = some (.ins n_Guest (guestF fr0 pg0 sa sb)) ∧ Fr fr0
  fr : FrAt S nf a fr
  pg : S[np]? = some (.lst (pagesL pg))
  pq : S[nq]? = some (.lst [.loc q0, .loc q1])
  p0 : S[q0]? = some (.ins n_Processor (procF (.int (sa.getD 0 : Nat)) r0 sa.isNone))
  g0 : S[r0]? = some (.lst (intsL [0, 0, 0, 0]))
  p1 : S[q1]? = some (.ins n_Processor (procF (.int (sb.getD 0 : Nat)) r1 sb.isNone))
  g1 : S[r1]? = some (.lst (intsL [0, 0, 0, 0]))
  lo : L ≤ nf ∧ L ≤ np ∧ L ≤ nq ∧ L ≤ r0 ∧ L ≤ r1 ∧ L ≤ a
def Mach (S : Sto) (L m a np : Nat) (fr : List (List Int)) (pg : List Pg) (sa sb : Option Nat) : Prop := ∃ g nf nq q0 q1 r0 r1, MachAt S L m a fr pg sa sb g nf np nq q0 q1 r0 r1
/-- what is the same in both -/
theorem Mach.mono {S S' : Sto} {L m a np : Nat} {fr : List (List Int)} {pg : List Pg} {sa sb : Option Nat} (h : Mach S L m a np fr pg sa sb) (k : ∀ (j : Nat) (o : OB), (L ≤ j ∨ ∃ C fs, o = .ins C fs) → S[j]? = some o → S'[j]? = some o) : Mach S' L m a np fr pg sa sb := by
  obtain ⟨g, nf, nq, q0, q1, r0, r1, M⟩ := h
  obtain ⟨l1, l2, l3, l4, l5, l6⟩ := M.lo
  obtain ⟨fr0, pg0, hg, hf0⟩ := M.gd
  exact ⟨g, nf, nq, q0, q1, r0, r1, ⟨k _ _ (.inr ⟨_, _, rfl⟩) M.me, ⟨fr0, pg0, k _ _ (.inr ⟨_, _, rfl⟩) hg, hf0⟩, ⟨k _ _ (.inl l1) M.fr.1, fun i r hr => k _ _ (.inl (by omega)) (M.fr.2 i r hr)⟩, k _ _ (.inl l2) M.pg, k _ _ (.inl l3) M.pq, k _ _ (.inr ⟨_, _, rfl⟩) M.p0, k _ _ (.inl l4) M.g0, k _ _ (.inr ⟨_, _, rfl⟩) M.p1, k _ _ (.inl l5) M.g1, M.lo⟩⟩
theorem Mach.old {S X : Sto} {L m a np : Nat} {fr : List (List Int)} {pg : List Pg} {sa sb : Option Nat} (h : Mach S L m a np fr pg sa sb) : Mach (S ++ X) L m a np fr pg sa sb := h.mono fun j o _ e => get_old e
theorem Mach.set {S : Sto} {L m a np i : Nat} {xs ys : List PV} {fr : List (List Int)} {pg : List Pg} {sa sb : Option Nat} (h : Mach S L m a np fr pg sa sb) (hi : S[i]? = some (.lst xs)) (hl : i < L) : Mach (S.set i (.lst ys)) L m a np fr pg sa sb := h.mono fun j o q e => by
  rw [List.getElem?_set_ne]
  · exact e
  · intro z
    subst z
    rcases q with q | ⟨C, fs, rfl⟩
    · omega
    · rw [hi] at e; cases e
theorem set_oth {S : Sto} {i j : Nat} {o o' x : OB} (hj : S[j]? = some o) (hi : S[i]? = some o') (ne : o ≠ o') : (S.set i x)[j]? = some o := by
  rw [List.getElem?_set_ne]
  · exact hj
  · intro z; subst z; rw [hi] at hj; exact ne (Option.some.inj hj).symm
def Fr2 (fr : List (List Int)) : Prop := fr.length = 4 ∧ ∀ r ∈ fr, r.length = 16
theorem getD_some {fr : List (List Int)} {i : Nat} (h : i < fr.length) : fr[i]? = some (fr.getD i []) := by rw [List.getD_eq_getElem?_getD, List.getElem?_eq_getElem h]; rfl
def wr (fr : List (List Int)) (f o : Nat) (v : Int) : List (List Int) := fr.set f ((fr.getD f []).set o v)
theorem fr2_wr {fr : List (List Int)} {f o : Nat} {v : Int} (hf : Fr2 fr) (h4 : f < 4) : Fr2 (wr fr f o v) := by
  refine ⟨by rw [wr, List.length_set]; exact hf.1, fun r hr => ?_⟩
  rcases List.mem_or_eq_of_mem_set hr with h | rfl
  · exact hf.2 r h
  · rw [List.length_set]
    exact hf.2 _ (List.mem_of_getElem? (getD_some (by rw [hf.1]; exact h4)))
theorem lst_ne {xs ys : List PV} (h : xs ≠ ys) : OB.lst xs ≠ OB.lst ys := fun z => h (by cases z; rfl)
theorem len_ne {xs ys : List PV} (h : xs.length ≠ ys.length) : OB.lst xs ≠ OB.lst ys := lst_ne fun z => h (by rw [z])
theorem frAt_set {S : Sto} {l a f o : Nat} {v : Int} {fr : List (List Int)} (h : FrAt S l a fr) (hf : Fr2 fr) (h4 : f < 4) : FrAt (S.set (a + f) (.lst (intsL ((fr.getD f []).set o v)))) l a (wr fr f o v) := by
  have hg := h.2 f _ (getD_some (by rw [hf.1]; exact h4))
  have h16 := hf.2 _ (List.mem_of_getElem? (getD_some (i := f) (by rw [hf.1]; exact h4)))
  refine ⟨?_, fun i r hr => ?_⟩
  · rw [(fr2_wr hf h4).1, ← hf.1]
    exact set_oth h.1 hg (len_ne (by rw [locsL_len, hf.1, intsL_len, h16]; decide))
  · unfold wr at hr
    by_cases q : f = i
    · subst q
      rw [List.getElem?_set_self (by rw [hf.1]; exact h4)] at hr
      cases hr
      exact List.getElem?_set_self (lt_of_get hg)
    · rw [List.getElem?_set_ne q] at hr
      rw [List.getElem?_set_ne (by omega)]
      exact h.2 i r hr
theorem Mach.row {S : Sto} {L m a np f o : Nat} {v : Int} {fr : List (List Int)} {pg : List Pg} {sa sb : Option Nat} (h : Mach S L m a np fr pg sa sb) (hf : Fr2 fr) (hg : pg.length = 4) (h4 : f < 4) : Mach (S.set (a + f) (.lst (intsL ((fr.getD f []).set o v)))) L m a np (wr fr f o v) pg sa sb := by
  obtain ⟨g, nf, nq, q0, q1, r0, r1, M⟩ := h
  obtain ⟨fr0, pg0, hgu, hf0⟩ := M.gd
  have hr := M.fr.2 f _ (getD_some (by rw [hf.1]; exact h4))
  have h16 := hf.2 _ (List.mem_of_getElem? (getD_some (i := f) (by rw [hf.1]; exact h4)))
  have hl : (intsL (fr.getD f [])).length = 16 := by rw [intsL_len, h16]
  exact ⟨g, nf, nq, q0, q1, r0, r1, ⟨set_oth M.me hr (fun z => by cases z), ⟨fr0, pg0, set_oth hgu hr (fun z => by cases z), hf0⟩, frAt_set M.fr hf h4, set_oth M.pg hr (len_ne (by rw [hl]; simp [pagesL, hg])), set_oth M.pq hr (len_ne (by rw [hl]; simp)), set_oth M.p0 hr (fun z => by cases z),
    set_oth M.g0 hr (len_ne (by rw [hl]; simp)), set_oth M.p1 hr (fun z => by cases z), set_oth M.g1 hr (len_ne (by rw [hl]; simp)), M.lo⟩⟩
theorem Mach.page {S : Sto} {L m a np : Nat} {fr : List (List Int)} {pg pg' : List Pg} {sa sb : Option Nat} (h : Mach S L m a np fr pg sa sb) (hf : Fr2 fr) (hg : pg.length = 4) : Mach (S.set np (.lst (pagesL pg'))) L m a np fr pg' sa sb := by
  obtain ⟨g, nf, nq, q0, q1, r0, r1, M⟩ := h
  obtain ⟨fr0, pg0, hgu, hf0⟩ := M.gd
  have hl : (pagesL pg).length = 4 := by simp [pagesL, hg]
  obtain ⟨p0, ps, hps⟩ : ∃ p0 ps, pg = p0 :: ps := by cases pg with | nil => cases hg | cons a b => exact ⟨a, b, rfl⟩
  refine ⟨g, nf, nq, q0, q1, r0, r1, ⟨set_oth M.me M.pg (fun z => by cases z), ⟨fr0, pg0, set_oth hgu M.pg (fun z => by cases z), hf0⟩, ⟨set_oth M.fr.1 M.pg (lst_ne fun z => ?_), fun i r hr => set_oth (M.fr.2 i r hr) M.pg (len_ne ?_)⟩, List.getElem?_set_self (lt_of_get M.pg), set_oth M.pq M.pg (len_ne (by rw [hl]; simp)), set_oth M.p0 M.pg (fun z => by cases z),
    set_oth M.g0 M.pg (lst_ne fun z => ?_), set_oth M.p1 M.pg (fun z => by cases z), set_oth M.g1 M.pg (lst_ne fun z => ?_), M.lo⟩⟩
  · rw [hf.1, hps] at z; cases z
  · rw [hl, intsL_len, hf.2 r (List.mem_of_getElem? hr)]; decide
  · rw [hps] at z; cases z
  · rw [hps] at z; cases z
theorem four {α : Type} {l : List α} (h : l.length = 4) : ∃ a b c d, l = [a, b, c, d] := by
  match l, h with
  | [a, b, c, d], _ => exact ⟨a, b, c, d, rfl⟩
theorem mach_init {A : Sto} {g : Nat} {fr : List (List Int)} {pg : List Pg} {sa sb : Option Nat} (hg : A[g]? = some (.ins n_Guest (guestF fr pg sa sb))) (hf : Fr fr) :
    ∃ X, f_Machine_init [.loc A.length, .loc g] (A ++ [.ins n_Machine []]) = .ok .non (A ++ X) ∧ MachAt (A ++ X) A.length A.length (A.length + 2) fr pg sa sb g (A.length + 1) (A.length + 6) (A.length + 7) (A.length + 8) (A.length + 11) (A.length + 10) (A.length + 13) := by
  obtain ⟨a, b, c, d, rfl⟩ := four hf.1
  let B : Sto := [.lst (locsL (A.length + 2) 4), .lst (intsL a), .lst (intsL b), .lst (intsL c), .lst (intsL d)]
  let Q : Sto := [.lst [.loc (A.length + 8), .loc (A.length + 11)], .ins n_Processor (procF (.int (sa.getD 0 : Nat)) (A.length + 10) sa.isNone), .lst (intsL [0]), .lst (intsL [0, 0, 0, 0]), .ins n_Processor (procF (.int (sb.getD 0 : Nat)) (A.length + 13) sb.isNone), .lst (intsL [0]), .lst (intsL [0, 0, 0, 0])]
  refine ⟨.ins n_Machine (machF g (A.length + 1) (A.length + 6) (A.length + 7)) :: (B ++ [.lst (pagesL pg)] ++ Q), fnOf_nx (ls := [some (.loc A.length), some (.loc g), none, none]) rfl ?_, ?_⟩
  · show m_Machine_init [some (.loc A.length), some (.loc g), none, none] (A ++ .ins n_Machine [] :: []) = _
    unfold m_Machine_init
    have gf : ∀ {X : Sto} {f : Nm} {w : PV}, tab n_Guest f = true → lookN f (guestF [a, b, c, d] pg sa sb) = some w → eFld tab f (eVar 1) [some (.loc A.length), some (.loc g), none, none] (A ++ X) = .ok w (A ++ X) := fun ht hl => eFld_ok rfl (get_old hg) ht hl
    refine q_fld (B' := []) rfl rfl rfl (by decide +kernel) (Nat.le_of_ble_eq_true rfl) ?_
    refine q_fld (copies_ok (t := ⟨tupsL [a, b, c, d], wkOf (.tup (tupsL [a, b, c, d])) (tupsL [a, b, c, d])⟩) (rows := [a, b, c, d].map intsL) (iSeq_h (gf (by decide +kernel) rfl) .tup) (by simp) (fun _ _ _ => rfl) (by simp; decide) (by rfl) tup_h)
      (B' := B) (by simp [B]) rfl (by decide +kernel) (Nat.le_of_ble_eq_true rfl) ?_
    refine q_fld (B' := B ++ [.lst (pagesL pg)]) (list_of (gf (w := .tup (pagesL pg)) (by decide +kernel) rfl)) (by simp [B]) rfl (by decide +kernel) (Nat.le_of_ble_eq_true rfl) ?_
    refine q_fld (procs_ok (by simp) (iSeq_h (gf (w := .tup (stsL sa sb)) (by decide +kernel) rfl) .tup)) (B' := B ++ [.lst (pagesL pg)] ++ Q) (by simp [B, Q]) rfl (by decide +kernel) (Nat.le_of_ble_eq_true rfl) ?_
    rw [fld_ap (B' := B ++ [.lst (pagesL pg)] ++ Q) rfl rfl rfl (by decide +kernel) (Nat.le_of_ble_eq_true rfl)]
    simp [machF, putN, B]
  · refine ⟨get_at (k := 0), ⟨_, _, get_old hg, hf⟩, ⟨get_at (k := 1), fun i r hr => ?_⟩, get_at (k := 6), get_at (k := 7), get_at (k := 8), get_at (k := 10), get_at (k := 11), get_at (k := 13), by omega⟩
    rw [Nat.add_assoc, get_at]
    match i, hr with
    | 0, hr => cases hr; rfl
    | 1, hr => cases hr; rfl
    | 2, hr => cases hr; rfl
    | 3, hr => cases hr; rfl
end K08

set_option Elab.async false
set_option linter.all false
set_option maxRecDepth 100000
set_option maxHeartbeats 1000000
namespace K08
open GL PySem
theorem eMeth_ok {S S1 : Sto} {C m : Nm} {fn : MF} {d ws : List PV} {o : ME} {args : MA} {ls : Ls} {p : Nat} {fs : List (Nm × PV)} {r : Out PV} (ho : o ls S = .ok (.loc p) S) (hp : S[p]? = some (.ins C fs)) (hn : lookN m fs = none) (ha : args ls S = .ok ws S1)
    (h : fn (.loc p :: (ws ++ d)) S1 = r) : eMeth C m fn d o args ls S = r := by
  unfold eMeth
  rw [ho, bind_ok]
  have : insAt S (.loc p) = some (p, C, fs) := by unfold insAt; simp only [hp]
  rw [this]
  dsimp only
  rw [if_pos rfl, hn]
  dsimp only
  rw [ha, bind_ok]
  exact h
def pk (s : Option Nat) : PV := .tup [.int (s.getD 0 : Nat), .tup (intsL [0, 0, 0, 0]), .tup [.int 0, .int 0], .int 1, .bl false, .bl false, .tup [.int 0, .int 1, .bl false], .bl s.isNone]
theorem prockey_ok {S : Sto} {q r : Nat} {s : Option Nat} (hq : S[q]? = some (.ins n_Processor (procF (.int (s.getD 0 : Nat)) r s.isNone))) (hr : S[r]? = some (.lst (intsL [0, 0, 0, 0]))) : f_Processor_key [.loc q] S = .ok (pk s) S := by
  refine fnOf_rt rfl ?_
  show m_Processor_key [some (.loc q), none] S = _
  have gf : ∀ {f : Nm} {w : PV} {a : Option PV}, tab n_Processor f = true → lookN f (procF (.int (s.getD 0 : Nat)) r s.isNone) = some w → eFld tab f (eVar 0) [some (.loc q), a] S = .ok w S := fun ht hl => eFld_ok rfl hq ht hl
  unfold m_Processor_key
  refine q_set (w := .tup [.int 0, .int 0]) (S1 := S) ?_ ?_
  · have h2 : (2 : Nat) ≤ lim := by decide
    simp only [eTup, aCons_ap, gf (w := .int 0) (f := n_zero) (by decide +kernel) rfl, gf (w := .int 0) (f := n_less) (by decide +kernel) rfl, bind_ok, aNil_ap]
    exact if_pos h2
  · rw [sRet_ap]
    have hreg : eB fTuple (aCons (eFld tab n_regs (eVar 0)) aNil) [some (.loc q), some (.tup [.int 0, .int 0])] S = .ok (.tup (intsL [0, 0, 0, 0])) S := by
      rw [eB_ap, aCons_ap, gf (w := .loc r) (by decide +kernel) rfl]
      simp only [bind_ok, aNil_ap]
      exact fTuple_h (.loc hr)
    simp only [List.set_cons_zero, List.set_cons_succ, eTup, aCons_ap, gf (w := .int (s.getD 0 : Nat)) (f := n_pc) (by decide +kernel) rfl, hreg, eVar, List.getElem?_cons_zero, List.getElem?_cons_succ,
      gf (w := .int 1) (f := n_level) (by decide +kernel) rfl, gf (w := .bl false) (f := n_enabled) (by decide +kernel) rfl, gf (w := .bl false) (f := n_pending) (by decide +kernel) rfl,
      gf (w := .tup [.int 0, .int 1, .bl false]) (f := n_saved) (by decide +kernel) rfl, gf (w := .bl s.isNone) (f := n_halted) (by decide +kernel) rfl, bind_ok, aNil_ap, then_ok]
    rfl
def keyV (fr : List (List Int)) (pg : List Pg) (sa sb : Option Nat) : PV := .tup [.tup (tupsL fr), .tup (pagesL pg), .tup [pk sa, pk sb], .int 0]
theorem key_ok {S : Sto} {L m a np : Nat} {fr : List (List Int)} {pg : List Pg} {sa sb : Option Nat} (h : Mach S L m a np fr pg sa sb) (hf : Fr2 fr) : ∃ X, f_Machine_key [.loc m] S = .ok (keyV fr pg sa sb) (S ++ X) := by
  obtain ⟨g, nf, nq, q0, q1, r0, r1, M⟩ := h
  obtain ⟨S1, hS1⟩ : ∃ S1 : Sto, S1 = S ++ [.lst (tupsL fr)] := ⟨_, rfl⟩
  have old : ∀ {j : Nat} {o : OB}, S[j]? = some o → S1[j]? = some o := fun e => by rw [hS1]; exact get_old e
  refine ⟨[.lst (tupsL fr), .lst [pk sa, pk sb]], fnOf_rt rfl ?_⟩
  show m_Machine_key [some (.loc m), none, none, none] S = _
  unfold m_Machine_key
  have gf : ∀ {S : Sto} {ls : Ls} {f : Nm} {w : PV}, S[m]? = some (.ins n_Machine (machF g nf np nq)) → ls[0]? = some (some (.loc m)) → tab n_Machine f = true → lookN f (machF g nf np nq) = some w → eFld tab f (eVar 0) ls S = .ok w S := fun M h0 ht hl => eFld_ok h0 M ht hl
  refine q_set (tuples_ok (t := ⟨locsL a fr.length, wkOf (.loc nf) (locsL a fr.length)⟩) (rows := fr.map intsL) (iSeq_h (gf M.me rfl (by decide +kernel) rfl) (.loc M.fr.1)) (by simp) (fun i acc => wk_ok (i := i) (.loc (get_old M.fr.1))) (by rw [List.length_map, hf.1]; decide) (by simp) M.fr.hld) ?_
  show sRet _ [some (.loc m), some (.tup (tupsL fr)), none, none] (S ++ [.lst (tupsL fr)]) = _
  rw [← hS1, sRet_ap]
  have hpg : eB fTuple (aCons (eFld tab n_pages (eVar 0)) aNil) [some (.loc m), some (.tup (tupsL fr)), none, none] S1 = .ok (.tup (pagesL pg)) S1 := by
    rw [eB_ap, aCons_ap, gf (old M.me) rfl (w := .loc np) (by decide +kernel) rfl]
    simp only [bind_ok, aNil_ap]
    exact fTuple_h (.loc (old M.pg))
  have hpr : eB fTuple (aCons (eLc (iSeq (eFld tab n_processors (eVar 0))) (gN 3) tYesM (eMeth n_Processor n_key f_Processor_key [] (eVar 3) aNil) [3]) aNil) [some (.loc m), some (.tup (tupsL fr)), none, none] S1 = .ok (.tup [pk sa, pk sb]) (S1 ++ [.lst [pk sa, pk sb]]) := by
    rw [eB_ap, aCons_ap]
    unfold eLc
    rw [iSeq_h (gf (old M.me) rfl (w := .loc nq) (by decide +kernel) rfl) (.loc (old M.pq)), bind_ok]
    dsimp only
    have ch : ∀ {X : Sto} {i : Nat}, wkOf (.loc nq) [.loc q0, .loc q1] i (S1 ++ X) = true := fun {X i} => wk_ok (i := i) (.loc (get_old (old M.pq)))
    have k1 : eMeth n_Processor n_key f_Processor_key [] (eVar 3) aNil [some (.loc m), some (.tup (tupsL fr)), none, some (.loc q0)] (S1 ++ [.lst []]) = .ok (pk sa) (S1 ++ [.lst []]) :=
      eMeth_ok rfl (get_old (old M.p0)) rfl rfl (prockey_ok (get_old (old M.p0)) (get_old (old M.g0)))
    have k2 : eMeth n_Processor n_key f_Processor_key [] (eVar 3) aNil [some (.loc m), some (.tup (tupsL fr)), none, some (.loc q1)] (S1 ++ [.lst [pk sa]]) = .ok (pk sb) (S1 ++ [.lst [pk sa]]) :=
      eMeth_ok rfl (get_old (old M.p1)) rfl rfl (prockey_ok (get_old (old M.p1)) (get_old (old M.g1)))
    rw [lcGo_cons (acc := []) ch rfl rfl k1 get_app (by decide), set_app, List.nil_append]
    rw [lcGo_cons (acc := [pk sa]) ch rfl rfl k2 get_app (by show (1 : Nat) < lim; decide), set_app, List.singleton_append, lcGo_nil ch]
    simp only [bind_ok, aNil_ap]
    exact fTuple_h (.loc get_app)
  have hw : eFld tab n_written (eVar 0) [some (.loc m), some (.tup (tupsL fr)), none, none] (S1 ++ [.lst [pk sa, pk sb]]) = .ok (.int 0) (S1 ++ [.lst [pk sa, pk sb]]) := gf (get_old (old M.me)) rfl (by decide +kernel) rfl
  simp only [eTup, aCons_ap, eVar, List.getElem?_cons_zero, List.getElem?_cons_succ, bind_ok, hpg, hpr, hw, aNil_ap, then_ok]
  rw [hS1, List.append_assoc]
  rfl
theorem optInts {S : Sto} {f : Nat} : ∀ (r : List Int), optAll (datP S (f + 1)) (intsL r) = some (r.map .int)
  | [] => rfl
  | x :: r => by
    show optAll (datP S (f + 1)) (.int x :: intsL r) = _
    unfold optAll
    rw [optInts r]; rfl
theorem datP_tup {S : Sto} {f : Nat} {xs : List PV} : datP S (f + 1) (.tup xs) = (optAll (datP S f) xs).map .tuple := rfl
theorem optAll_cons {α β : Type} {f : α → Option β} {x : α} {r : List α} {d : β} {ds : List β} (h1 : f x = some d) (h2 : optAll f r = some ds) : optAll f (x :: r) = some (d :: ds) := by
  unfold optAll
  rw [h1, h2]
theorem optTups {S : Sto} {f : Nat} : ∀ (fr : List (List Int)), optAll (datP S (f + 2)) (tupsL fr) = some (fr.map fun r => .tuple (r.map .int))
  | [] => rfl
  | x :: r => optAll_cons (by rw [datP_tup, optInts]; rfl) (optTups r)
theorem optPages {S : Sto} {f : Nat} : ∀ (pg : List Pg), ∃ ds, optAll (datP S (f + 2)) (pagesL pg) = some ds
  | [] => ⟨_, rfl⟩
  | x :: r => by
    obtain ⟨ds, h⟩ := optPages (S := S) (f := f) r
    exact ⟨_, optAll_cons (by show datP S (f + 2) (.tup (intsL [x.f, x.r])) = _; rw [datP_tup, optInts]; rfl) h⟩
theorem key_dat {S : Sto} {fr : List (List Int)} {pg : List Pg} {sa sb : Option Nat} : ∃ d, datP S 60 (keyV fr pg sa sb) = some d := by
  have h1 : ∃ d, datP S 59 (.tup (tupsL fr)) = some d := by rw [datP_tup, optTups]; exact ⟨_, rfl⟩
  have h2 : ∃ d, datP S 59 (.tup (pagesL pg)) = some d := by
    obtain ⟨ds, h⟩ := optPages (S := S) (f := 56) pg
    rw [datP_tup, h]; exact ⟨_, rfl⟩
  have h3 : ∃ d, datP S 59 (.tup [pk sa, pk sb]) = some d := ⟨_, rfl⟩
  have h4 : ∃ d, datP S 59 (.int 0) = some d := ⟨_, rfl⟩
  obtain ⟨d1, h1⟩ := h1
  obtain ⟨d2, h2⟩ := h2
  obtain ⟨d3, h3⟩ := h3
  obtain ⟨d4, h4⟩ := h4
  unfold keyV
  rw [datP_tup, optAll_cons h1 (optAll_cons h2 (optAll_cons h3 (optAll_cons h4 rfl)))]
  exact ⟨_, rfl⟩
theorem whole_ok {S : Sto} {x : Int} : f_law_whole [.int x] S = .ok (.bl true) S := rfl
/-! ### copies -/
theorem proccopy_ok {S : Sto} {q r : Nat} {s : Option Nat} (hq : S[q]? = some (.ins n_Processor (procF (.int (s.getD 0 : Nat)) r s.isNone))) (hr : S[r]? = some (.lst (intsL [0, 0, 0, 0]))) :
    f_Processor_copy [.loc q] S = .ok (.loc S.length) (S ++ .ins n_Processor (procF (.int (s.getD 0 : Nat)) (S.length + 3) s.isNone) :: [.lst (intsL [0]), .lst (intsL [0, 0, 0, 0]), .lst (intsL [0, 0, 0, 0])]) := by
  refine fnOf_rt rfl ?_
  show m_Processor_copy [some (.loc q), none] S = _
  have gf : ∀ {X : Sto} {f : Nm} {w : PV} {a : Option PV}, tab n_Processor f = true → lookN f (procF (.int (s.getD 0 : Nat)) r s.isNone) = some w → eFld tab f (eVar 0) [some (.loc q), a] (S ++ X) = .ok w (S ++ X) := fun ht hl => eFld_ok rfl (get_old hq) ht hl
  have gf0 : ∀ {f : Nm} {w : PV} {a : Option PV}, tab n_Processor f = true → lookN f (procF (.int (s.getD 0 : Nat)) r s.isNone) = some w → eFld tab f (eVar 0) [some (.loc q), a] S = .ok w S := fun ht hl => eFld_ok rfl hq ht hl
  unfold m_Processor_copy
  refine q_set (eMake_ok (ws := [.int (s.getD 0 : Nat)]) (S1 := S) (by rw [aCons_ap, gf0 (w := .int (s.getD 0 : Nat)) (by decide +kernel) rfl]; rfl) (proc_ok (st := some (s.getD 0)))) ?_
  show sSeq _ _ [some (.loc q), some (.loc S.length)] _ = _
  have B3 : ∀ {fs : List (Nm × PV)}, S ++ OB.ins n_Processor fs :: [.lst (intsL [0]), .lst (intsL [0, 0, 0, 0])] ++ [OB.lst (intsL [0, 0, 0, 0])] = S ++ OB.ins n_Processor fs :: [.lst (intsL [0]), .lst (intsL [0, 0, 0, 0]), .lst (intsL [0, 0, 0, 0])] := by intros; simp
  have el : eB fList (aCons (eFld tab n_regs (eVar 0)) aNil) [some (.loc q), some (.loc S.length)] (S ++ .ins n_Processor (procF (.int (s.getD 0 : Nat)) (S.length + 2) false) :: [.lst (intsL [0]), .lst (intsL [0, 0, 0, 0])])
      = .ok (.loc (S.length + 3)) (S ++ .ins n_Processor (procF (.int (s.getD 0 : Nat)) (S.length + 2) false) :: [.lst (intsL [0]), .lst (intsL [0, 0, 0, 0])] ++ [.lst (intsL [0, 0, 0, 0])]) := by
    rw [eB_ap, aCons_ap, gf (w := .loc r) (by decide +kernel) rfl]
    simp only [bind_ok, aNil_ap]
    rw [fList_h (.loc (get_old hr))]
    simp
  refine q_fld el B3 rfl (by decide +kernel) (Nat.le_of_ble_eq_true rfl) ?_
  refine q_fld (y := .int 0) (gf (by decide +kernel) rfl) rfl rfl (by decide +kernel) (Nat.le_of_ble_eq_true rfl) ?_
  refine q_fld (y := .int 0) (gf (by decide +kernel) rfl) rfl rfl (by decide +kernel) (Nat.le_of_ble_eq_true rfl) ?_
  refine q_fld (y := .int 1) (gf (by decide +kernel) rfl) rfl rfl (by decide +kernel) (Nat.le_of_ble_eq_true rfl) ?_
  refine q_fld (y := .bl false) (gf (by decide +kernel) rfl) rfl rfl (by decide +kernel) (Nat.le_of_ble_eq_true rfl) ?_
  refine q_fld (y := .bl false) (gf (by decide +kernel) rfl) rfl rfl (by decide +kernel) (Nat.le_of_ble_eq_true rfl) ?_
  refine q_fld (y := .tup [.int 0, .int 1, .bl false]) (gf (by decide +kernel) rfl) rfl rfl (by decide +kernel) (Nat.le_of_ble_eq_true rfl) ?_
  refine q_fld (y := .bl s.isNone) (gf (by decide +kernel) rfl) rfl rfl (by decide +kernel) (Nat.le_of_ble_eq_true rfl) ?_
  rfl
end K08

set_option Elab.async false
set_option linter.all false
set_option maxRecDepth 100000
set_option maxHeartbeats 1000000
namespace K08
open GL PySem
/-! ### the machine copied -/
theorem procscopy_ok {B : Sto} {it : MI} {ls : Ls} {S : Sto} {sa sb : Option Nat} {chk : Nat → Sto → Bool} {q0 q1 r0 r1 : Nat} (hl : 3 < ls.length) (hi : it ls S = .ok ⟨[.loc q0, .loc q1], chk⟩ B) (hc : ∀ i X, chk i (B ++ X) = true)
    (hp0 : B[q0]? = some (.ins n_Processor (procF (.int (sa.getD 0 : Nat)) r0 sa.isNone))) (hg0 : B[r0]? = some (.lst (intsL [0, 0, 0, 0])))
    (hp1 : B[q1]? = some (.ins n_Processor (procF (.int (sb.getD 0 : Nat)) r1 sb.isNone))) (hg1 : B[r1]? = some (.lst (intsL [0, 0, 0, 0]))) :
    eLc it (gN 3) tYesM (eMeth n_Processor n_copy f_Processor_copy [] (eVar 3) aNil) [3] ls S = .ok (.loc B.length) (B ++ [.lst [.loc (B.length + 1), .loc (B.length + 5)],
      .ins n_Processor (procF (.int (sa.getD 0 : Nat)) (B.length + 4) sa.isNone), .lst (intsL [0]), .lst (intsL [0, 0, 0, 0]), .lst (intsL [0, 0, 0, 0]), .ins n_Processor (procF (.int (sb.getD 0 : Nat)) (B.length + 8) sb.isNone), .lst (intsL [0]), .lst (intsL [0, 0, 0, 0]), .lst (intsL [0, 0, 0, 0])]) := by
  obtain ⟨P1, hP1⟩ : ∃ P1, P1 = OB.ins n_Processor (procF (.int (sa.getD 0 : Nat)) (B.length + 4) sa.isNone) := ⟨_, rfl⟩
  obtain ⟨P2, hP2⟩ : ∃ P2, P2 = OB.ins n_Processor (procF (.int (sb.getD 0 : Nat)) (B.length + 8) sb.isNone) := ⟨_, rfl⟩
  obtain ⟨Z, hZ⟩ : ∃ Z, Z = OB.lst (intsL [0, 0, 0, 0]) := ⟨_, rfl⟩
  have q1' := proccopy_ok (S := B ++ [OB.lst []]) (get_old hp0) (get_old hg0)
  have q2' := proccopy_ok (S := B ++ [OB.lst [.loc (B.length + 1)], P1, OB.lst (intsL [0]), Z, Z]) (get_old hp1) (get_old hg1)
  rw [← hP1, ← hP2, ← hZ]
  rw [← hZ] at q1' q2'
  unfold eLc
  rw [hi, bind_ok]
  dsimp only
  have w : ∀ x : PV, gN 3 x (wipeL ls [3]) = some (ls.set 3 (some x)) := fun x => by show some ((ls.set 3 none).set 3 _) = _; rw [List.set_set]
  have g : ∀ x : PV, (ls.set 3 (some x))[3]? = some (some x) := fun x => List.getElem?_set_self hl
  have e1 : eMeth n_Processor n_copy f_Processor_copy [] (eVar 3) aNil (ls.set 3 (some (.loc q0))) (B ++ [OB.lst []]) = .ok (.loc (B.length + 1)) (B ++ OB.lst [] :: [P1, OB.lst (intsL [0]), Z, Z]) := by
    refine eMeth_ok (eVar_of (g _)) (get_old hp0) rfl rfl (q1'.trans ?_)
    rw [hP1]; simp
  rw [lcGo_cons (acc := []) (hc _ _) (w _) rfl e1 get_mid (by decide), set_mid, List.nil_append]
  have e2 : eMeth n_Processor n_copy f_Processor_copy [] (eVar 3) aNil (ls.set 3 (some (.loc q1))) (B ++ OB.lst [.loc (B.length + 1)] :: [P1, OB.lst (intsL [0]), Z, Z])
      = .ok (.loc (B.length + 5)) (B ++ OB.lst [.loc (B.length + 1)] :: [P1, OB.lst (intsL [0]), Z, Z, P2, OB.lst (intsL [0]), Z, Z]) := by
    refine eMeth_ok (eVar_of (g _)) (get_old hp1) rfl rfl (q2'.trans ?_)
    rw [hP2]; simp
  rw [lcGo_cons (acc := [.loc (B.length + 1)]) (hc _ _) (w _) rfl e2 get_mid (by show (1 : Nat) < lim; decide), set_mid, lcGo_nil (hc _ _)]
  simp
theorem copy_ok {S : Sto} {L m a np : Nat} {fr : List (List Int)} {pg : List Pg} {sa sb : Option Nat} (h : Mach S L m a np fr pg sa sb) (hf : Fr fr) :
    ∃ X a' np', f_Machine_copy [.loc m] S = .ok (.loc S.length) (S ++ X) ∧ Mach (S ++ X) S.length S.length a' np' fr pg sa sb := by
  obtain ⟨g, nf, nq, q0, q1, r0, r1, M⟩ := h
  obtain ⟨fr0, pg0, hg0, hf0⟩ := M.gd
  obtain ⟨X, e1, M1⟩ := mach_init hg0 hf0
  obtain ⟨B, hB⟩ : ∃ B : Sto, S ++ X = S ++ .ins n_Machine (machF g (S.length + 1) (S.length + 6) (S.length + 7)) :: B := by
    have := M1.me
    rw [List.getElem?_append_right (Nat.le_refl _), Nat.sub_self] at this
    cases X with
    | nil => cases this
    | cons x B =>
      rw [List.getElem?_cons_zero] at this
      cases this
      exact ⟨B, rfl⟩
  rw [hB] at e1
  have old : ∀ {j : Nat} {o : OB} {Y : Sto}, S[j]? = some o → (S ++ Y)[j]? = some o := fun e => get_old e
  have gf : ∀ {Y : Sto} {f : Nm} {w : PV} {x y z : Option PV}, tab n_Machine f = true → lookN f (machF g nf np nq) = some w → eFld tab f (eVar 0) [some (.loc m), x, y, z] (S ++ Y) = .ok w (S ++ Y) := fun ht hl => eFld_ok rfl (get_old M.me) ht hl
  obtain ⟨F, hF⟩ : ∃ F : Sto, F = OB.lst (locsL (S.length + (B.length + 1) + 1) (fr.map intsL).length) :: (fr.map intsL).map OB.lst := ⟨_, rfl⟩
  obtain ⟨b, hb⟩ : ∃ b, b = S.length + (B.length + 1) := ⟨_, rfl⟩
  have hFl : F.length = 5 := by rw [hF]; simp [hf.1]
  obtain ⟨Q, hQ⟩ : ∃ Q : Sto, Q = [.lst [.loc (b + 6 + 1), .loc (b + 6 + 5)],
      .ins n_Processor (procF (.int (sa.getD 0 : Nat)) (b + 6 + 4) sa.isNone), .lst (intsL [0]), .lst (intsL [0, 0, 0, 0]), .lst (intsL [0, 0, 0, 0]), .ins n_Processor (procF (.int (sb.getD 0 : Nat)) (b + 6 + 8) sb.isNone), .lst (intsL [0]), .lst (intsL [0, 0, 0, 0]), .lst (intsL [0, 0, 0, 0])] := ⟨_, rfl⟩
  obtain ⟨I, hI⟩ : ∃ I, I = OB.ins n_Machine (machF g b (b + 5) (b + 6)) := ⟨_, rfl⟩
  refine ⟨I :: (B ++ F ++ [.lst (pagesL pg)] ++ Q), b + 1, b + 5, fnOf_rt rfl ?_, g, b, b + 6, b + 6 + 1, b + 6 + 5, b + 6 + 4, b + 6 + 8, ?_⟩
  · show m_Machine_copy [some (.loc m), none, none, none] S = _
    unfold m_Machine_copy
    have e0 : eMake n_Machine f_Machine_init [] (aCons (eFld tab n_guest (eVar 0)) aNil) [some (.loc m), none, none, none] S = .ok (.loc S.length) (S ++ .ins n_Machine (machF g (S.length + 1) (S.length + 6) (S.length + 7)) :: B) := by
      refine eMake_ok (ws := [.loc g]) (S1 := S) ?_ ?_
      · have := gf (Y := []) (f := n_guest) (w := .loc g) (x := none) (y := none) (z := none) (by decide +kernel) rfl
        rw [List.append_nil] at this
        rw [aCons_ap, this]; rfl
      · exact e1
    refine q_set e0 ?_
    show sSeq _ _ [some (.loc m), some (.loc S.length), none, none] _ = _
    have ec := copies_ok (t := ⟨locsL a fr.length, wkOf (.loc nf) (locsL a fr.length)⟩) (v := 2) (ls := [some (.loc m), some (.loc S.length), none, none]) (it := iSeq (eFld tab n_frames (eVar 0))) (S := S ++ .ins n_Machine (machF g (S.length + 1) (S.length + 6) (S.length + 7)) :: B) (A := S ++ .ins n_Machine (machF g (S.length + 1) (S.length + 6) (S.length + 7)) :: B) (rows := fr.map intsL)
      (iSeq_h (gf (by decide +kernel) rfl) (.loc (old M.fr.1))) (by simp) (fun i acc Y => wk_ok (i := i) (.loc (by rw [List.append_assoc]; exact old M.fr.1))) (by rw [List.length_map, hf.1]; decide) (by simp) (FrAt.old M.fr).hld
    rw [List.length_append, List.length_cons, ← hF, ← hb] at ec
    refine q_fld ec (B' := B ++ F) (by rw [List.append_assoc]; rfl) rfl (by decide +kernel) (Nat.le_of_ble_eq_true rfl) ?_
    have ep : ∀ fs, eB fList (aCons (eFld tab n_pages (eVar 0)) aNil) [some (.loc m), some (.loc S.length), none, none] (S ++ .ins n_Machine fs :: (B ++ F)) = .ok (.loc (b + 5)) (S ++ .ins n_Machine fs :: (B ++ F) ++ [.lst (pagesL pg)]) := by
      intro fs
      rw [eB_ap, aCons_ap, gf (w := .loc np) (by decide +kernel) rfl]
      simp only [bind_ok, aNil_ap]
      rw [fList_h (.loc (old M.pg))]
      congr 2
      simp [hFl, hb]; omega
    refine q_fld (ep _) (B' := B ++ F ++ [.lst (pagesL pg)]) (by simp) rfl (by decide +kernel) (Nat.le_of_ble_eq_true rfl) ?_
    have er : ∀ fs, eLc (iSeq (eFld tab n_processors (eVar 0))) (gN 3) tYesM (eMeth n_Processor n_copy f_Processor_copy [] (eVar 3) aNil) [3] [some (.loc m), some (.loc S.length), none, none] (S ++ .ins n_Machine fs :: (B ++ F ++ [.lst (pagesL pg)]))
        = .ok (.loc (b + 6)) (S ++ .ins n_Machine fs :: (B ++ F ++ [.lst (pagesL pg)]) ++ Q) := by
      intro fs
      have hlen : (S ++ OB.ins n_Machine fs :: (B ++ F ++ [.lst (pagesL pg)])).length = b + 6 := by simp [hFl, hb]; omega
      have := procscopy_ok (sa := sa) (sb := sb) (q0 := q0) (q1 := q1) (r0 := r0) (r1 := r1) (ls := [some (.loc m), some (.loc S.length), none, none]) (by simp) (iSeq_h (gf (f := n_processors) (w := .loc nq) (by decide +kernel) rfl) (.loc (old M.pq))) (fun i X => wk_ok (i := i) (.loc (get_old (old M.pq)))) (old M.p0) (old M.g0) (old M.p1) (old M.g1)
        (B := S ++ .ins n_Machine fs :: (B ++ F ++ [.lst (pagesL pg)]))
      rw [hlen] at this
      rw [this, hQ]
    refine q_fld (er _) (B' := B ++ F ++ [.lst (pagesL pg)] ++ Q) (by simp) rfl (by decide +kernel) (Nat.le_of_ble_eq_true rfl) ?_
    refine q_fld (y := .int 0) (B' := B ++ F ++ [.lst (pagesL pg)] ++ Q) (gf (by decide +kernel) rfl) rfl rfl (by decide +kernel) (Nat.le_of_ble_eq_true rfl) ?_
    rw [hI]
    rfl
  · have ga : ∀ (j : Nat) (o : OB), (F ++ [.lst (pagesL pg)] ++ Q)[j]? = some o → (S ++ I :: (B ++ F ++ [.lst (pagesL pg)] ++ Q))[b + j]? = some o := by
      intro j o h
      have e : S ++ I :: (B ++ F ++ [.lst (pagesL pg)] ++ Q) = (S ++ I :: B) ++ (F ++ [.lst (pagesL pg)] ++ Q) := by simp
      have hl : b = (S ++ I :: B).length := by rw [hb]; simp
      rw [e, hl, get_at]; exact h
    have gq : ∀ (j : Nat) (o : OB), Q[j]? = some o → (S ++ I :: (B ++ F ++ [.lst (pagesL pg)] ++ Q))[b + 6 + j]? = some o := by
      intro j o h
      rw [Nat.add_assoc]
      refine ga _ _ ?_
      have hl : 6 = (F ++ [OB.lst (pagesL pg)]).length := by simp [hFl]
      rw [hl, get_at]; exact h
    obtain ⟨x, y, z, u, rfl⟩ := four hf.1
    have hbS : S.length ≤ b := by omega
    refine ⟨by rw [hI]; exact get_mid, ⟨fr0, pg0, old hg0, hf0⟩, ⟨?_, fun i r hr => ?_⟩, ga 5 _ (by rw [hF]; rfl), gq 0 _ (by rw [hQ]; rfl), gq 1 _ (by rw [hQ]; rfl), gq 4 _ (by rw [hQ]; rfl), gq 5 _ (by rw [hQ]; rfl), gq 8 _ (by rw [hQ]; rfl), by omega⟩
    · exact ga 0 _ (by rw [hF, ← hb]; rfl)
    · rw [Nat.add_assoc]
      refine ga _ _ ?_
      rw [hF]
      match i, hr with
      | 0, hr => cases hr; rfl
      | 1, hr => cases hr; rfl
      | 2, hr => cases hr; rfl
      | 3, hr => cases hr; rfl
/-! ### cells -/
def pgAt (pg : List Pg) (b : Nat) : Pg := pg.getD (b / 16) ⟨0, 0⟩
def ex (pg : List Pg) (b : Nat) : Bool := decide ((pgAt pg b).r % 2 = 1)
def cell (fr : List (List Int)) (pg : List Pg) (b : Nat) : Int := (fr.getD (pgAt pg b).f []).getD (b % 16) 0
theorem pg_get {pg : List Pg} {b : Nat} (hg : PgOk pg) (hb : b < 64) : (pagesL pg)[b / 16]? = some (pgV (pgAt pg b)) := by
  have h : b / 16 < pg.length := by rw [hg.1]; omega
  unfold pagesL pgAt
  rw [List.getElem?_map, List.getElem?_eq_getElem h, List.getD_eq_getElem?_getD, List.getElem?_eq_getElem h]; rfl
theorem pgAt_ok {pg : List Pg} {b : Nat} (hg : PgOk pg) (hb : b < 64) : (pgAt pg b).f < 4 ∧ (pgAt pg b).r < 8 := by
  have h : b / 16 < pg.length := by rw [hg.1]; omega
  have e : pgAt pg b = pg[b / 16] := by unfold pgAt; rw [List.getD_eq_getElem?_getD, List.getElem?_eq_getElem h]; rfl
  rw [e]
  exact hg.2 _ (List.getElem_mem h)
theorem div16 {S : Sto} {b : Nat} : gDiv (.int (b : Int)) (.int 16) S = .ok (.int ((b / 16 : Nat) : Int)) S := by rw [gDiv_int (by decide) (by decide)]; rfl
theorem mod16 {S : Sto} {b : Nat} : gMod (.int (b : Int)) (.int 16) S = .ok (.int ((b % 16 : Nat) : Int)) S := by rw [gMod_int (by decide)]; rfl
theorem pg0 {S : Sto} {p : Pg} : gIx (pgV p) (.int 0) S = .ok (.int p.f) S := gIx_tup (i := 0) rfl
theorem pg1 {S : Sto} {p : Pg} : gIx (pgV p) (.int 1) S = .ok (.int p.r) S := gIx_tup (i := 1) rfl
section
variable {S : Sto} {L m a np : Nat} {fr : List (List Int)} {pg : List Pg} {sa sb : Option Nat}
theorem Mach.pages (h : Mach S L m a np fr pg sa sb) {ls : Ls} (hl : ls[0]? = some (some (.loc m))) : eFld tab n_pages (eVar 0) ls S = .ok (.loc np) S := by
  obtain ⟨g, nf, nq, q0, q1, r0, r1, M⟩ := h
  exact eFld_ok hl M.me (by decide +kernel) rfl
theorem Mach.pgAt (h : Mach S L m a np fr pg sa sb) : S[np]? = some (.lst (pagesL pg)) := by
  obtain ⟨g, nf, nq, q0, q1, r0, r1, M⟩ := h
  exact M.pg
theorem Mach.meth (h : Mach S L m a np fr pg sa sb) {f : Nm} (hf : lookN f (machF 0 0 0 0) = none) : ∃ fs, S[m]? = some (.ins n_Machine fs) ∧ lookN f fs = none := by
  obtain ⟨g, nf, nq, q0, q1, r0, r1, M⟩ := h
  refine ⟨_, M.me, ?_⟩
  simp only [machF, lookN] at hf ⊢
  split at hf
  · cases hf
  split at hf
  · cases hf
  split at hf
  · cases hf
  split at hf
  · cases hf
  split at hf
  · cases hf
  rename_i h1 h2 h3 h4 h5
  rw [if_neg h1, if_neg h2, if_neg h3, if_neg h4, if_neg h5]
theorem Mach.row_at (h : Mach S L m a np fr pg sa sb) (hf : Fr2 fr) {f : Nat} (h4 : f < 4) {ls : Ls} (hl : ls[0]? = some (some (.loc m))) : ∃ nf, eFld tab n_frames (eVar 0) ls S = .ok (.loc nf) S ∧ gIx (.loc nf) (.int (f : Int)) S = .ok (.loc (a + f)) S ∧ S[a + f]? = some (.lst (intsL (fr.getD f []))) := by
  obtain ⟨g, nf, nq, q0, q1, r0, r1, M⟩ := h
  refine ⟨nf, eFld_ok hl M.me (by decide +kernel) rfl, gIx_loc (seq_of_get M.fr.1) (locsL_get (by rw [hf.1]; exact h4)), M.fr.2 f _ (getD_some (by rw [hf.1]; exact h4))⟩
theorem rights_ok (h : Mach S L m a np fr pg sa sb) (hg : PgOk pg) {b : Nat} (hb : b < 64) : f_Machine_rights_at [.loc m, .int b] S = .ok (.int (pgAt pg b).r) S := by
  refine fnOf_rt rfl ?_
  show m_Machine_rights_at [some (.loc m), some (.int b)] S = _
  unfold m_Machine_rights_at
  have g1 := gIx_loc (seq_of_get h.pgAt) (pg_get hg hb)
  rw [sRet_ap, eOp_ap, eOp_ap, h.pages rfl, bind_ok, eOp_ap, eVar_of rfl]
  simp only [bind_ok, eC_ap, div16, g1, pg1, then_ok]
theorem exec_ok (h : Mach S L m a np fr pg sa sb) (hg : PgOk pg) {b : Nat} (hb : b < 64) : f_may_execute [.loc m, .int b] S = .ok (.bl (ex pg b)) S := by
  refine fnOf_rt rfl ?_
  show m_may_execute [some (.loc m), some (.int b)] S = _
  unfold m_may_execute
  obtain ⟨fs, me1, me2⟩ := h.meth (f := n_rights_at) (by decide +kernel)
  have e := eMeth_ok (C := n_Machine) (m := n_rights_at) (d := []) (ls := [some (.loc m), some (.int b)]) (o := eVar 0) (args := aCons (eVar 1) aNil) rfl me1 me2 rfl (rights_ok h hg hb)
  have hr := (pgAt_ok hg hb).2
  rw [sRet_ap, eOp_ap, eOp_ap, e]
  simp only [bind_ok, eC_ap]
  have hb1 : gBand (.int ((pgAt pg b).r : Int)) (.int 1) S = .ok (.int (((pgAt pg b).r % 2 : Nat) : Int)) S := by
    generalize (pgAt pg b).r = r at hr
    match r, hr with
    | 0, _ => rfl
    | 1, _ => rfl
    | 2, _ => rfl
    | 3, _ => rfl
    | 4, _ => rfl
    | 5, _ => rfl
    | 6, _ => rfl
    | 7, _ => rfl
  rw [hb1]
  simp only [bind_ok, gNe_int, then_ok]
  congr 2
  unfold ex
  rcases Nat.mod_two_eq_zero_or_one (pgAt pg b).r with q | q <;> simp [q]
theorem number_ok (h : Mach S L m a np fr pg sa sb) (hf : Fr2 fr) (hg : PgOk pg) {b : Nat} (hb : b < 64) : f_Machine_number_at [.loc m, .int b] S = .ok (.int (cell fr pg b)) S := by
  have hp : f_Machine_place [.loc m, .int b] S = .ok (.tup [.int (pgAt pg b).f, .int ((b % 16 : Nat) : Int)]) S := by
    refine fnOf_rt rfl ?_
    show m_Machine_place [some (.loc m), some (.int b)] S = _
    unfold m_Machine_place
    have g1 := gIx_loc (seq_of_get h.pgAt) (pg_get hg hb)
    rw [sRet_ap]
    unfold eTup
    rw [aCons_ap, eOp_ap, eOp_ap, h.pages rfl, bind_ok, eOp_ap, eVar_of rfl]
    simp only [bind_ok, eC_ap, div16, g1, pg0, aCons_ap, eOp_ap, eVar, List.getElem?_cons_zero, List.getElem?_cons_succ, mod16, aNil_ap]
    rfl
  obtain ⟨fs, me1, me2⟩ := h.meth (f := n_place) (by decide +kernel)
  have e := eMeth_ok (C := n_Machine) (m := n_place) (d := []) (ls := [some (.loc m), some (.int b), none, none]) (o := eVar 0) (args := aCons (eVar 1) aNil) rfl me1 me2 rfl hp
  obtain ⟨nf, r1, r2, r3⟩ := h.row_at hf (pgAt_ok hg hb).1 (ls := [some (.loc m), some (.int b), some (.int (pgAt pg b).f), some (.int ((b % 16 : Nat) : Int))]) rfl
  refine fnOf_rt rfl ?_
  show m_Machine_number_at [some (.loc m), some (.int b), none, none] S = _
  unfold m_Machine_number_at
  have h16 := hf.2 _ (List.mem_of_getElem? (getD_some (fr := fr) (i := (pgAt pg b).f) (by rw [hf.1]; exact (pgAt_ok hg hb).1)))
  have g3 : gIx (.loc (a + (pgAt pg b).f)) (.int ((b % 16 : Nat) : Int)) S = .ok (.int (cell fr pg b)) S := gIx_loc (seq_of_get r3) (intsL_get (by rw [h16]; omega))
  refine q_nx (ls1 := [some (.loc m), some (.int b), some (.int (pgAt pg b).f), some (.int ((b % 16 : Nat) : Int))]) (S1 := S) ?_ ?_
  · unfold sAsg
    rw [e]; rfl
  · rw [sRet_ap, eOp_ap, eOp_ap, r1]
    simp only [bind_ok, eVar, List.getElem?_cons_zero, List.getElem?_cons_succ, r2, g3, then_ok]
end
end K08

set_option Elab.async false
set_option linter.all false
set_option maxRecDepth 100000
set_option maxHeartbeats 1000000
namespace K08
open GL PySem
def opsT : List (List Nat × List Nat) := [([104, 97, 108, 116], []), ([112, 114, 105, 110, 116], [110]), ([115, 104, 111, 119], [114]), ([115, 101, 116], [114, 110]), ([109, 111, 118, 101], [114, 114]), ([97, 100, 100], [114, 114]), ([99, 111, 109, 112, 97, 114, 101], [114, 114]), ([108, 111, 97, 100], [114, 97]), ([115, 116, 111, 114, 101], [97, 114]), ([106, 117, 109, 112], [97]), ([106, 117, 109, 112, 122], [97]), ([106, 117, 109, 112, 108], [97]), ([99, 97, 108, 108], []), ([109, 97, 112], [103, 102]), ([114, 105, 103, 104, 116], [103, 107]), ([101, 110, 97, 98, 108, 101], []), ([100, 105, 115, 97, 98, 108, 101], []), ([114, 101, 115, 117, 109, 101], []), ([108, 111, 119, 101, 114], [])]
def opN (n : Nat) : List Nat := (opsT.getD n ([], [])).1
def opK (n : Nat) : List Nat := (opsT.getD n ([], [])).2
def limK (c : Nat) : Nat := if c = 110 then 256 else if c = 97 then 64 else if c = 107 then 8 else 4
theorem ops_eq : w_OPS = .tup (opsT.map fun p => .tup [.str p.1, .str p.2]) := rfl
theorem ops_get {n : Nat} (h : n < 19) : (opsT.map fun p => PV.tup [.str p.1, .str p.2])[n]? = some (.tup [.str (opN n), .str (opK n)]) := by
  have hl : n < opsT.length := h
  rw [List.getElem?_map, List.getElem?_eq_getElem hl, opN, opK, List.getD_eq_getElem?_getD, List.getElem?_eq_getElem hl]; rfl
theorem opK_len : ∀ n < 19, (opK n).length ≤ 2 := by decide +kernel
theorem opK_let : ∀ n < 19, ∀ c ∈ opK n, c ∈ [114, 110, 97, 103, 102, 107] := by decide +kernel
theorem lim_kd {c : Nat} (h : c ∈ [114, 110, 97, 103, 102, 107]) : lookC [c] kd_KIND_LIMITS = some (.int (limK c)) := by
  simp only [List.mem_cons, List.not_mem_nil, or_false] at h
  rcases h with rfl | rfl | rfl | rfl | rfl | rfl <;> rfl
theorem lim_pos (c : Nat) : 0 < limK c := by
  unfold limK
  split
  · decide
  · split
    · decide
    · split <;> decide
theorem limit_ok {S : Sto} {c : Nat} (h : c ∈ [114, 110, 97, 103, 102, 107]) : f_law_limit [.str [c]] S = .ok (.int (limK c)) S := by
  simp only [List.mem_cons, List.not_mem_nil, or_false] at h
  rcases h with rfl | rfl | rfl | rfl | rfl | rfl <;> rfl
theorem let_at {S : Sto} {n j : Nat} (hn : n < 19) (h : j < (opK n).length) : gIx (.str (opK n)) (.int (j : Int)) S = .ok (.str [(opK n).getD j 0]) S := by
  have h1 := opK_len n hn
  have hl := limE
  unfold gIx
  dsimp only
  rw [if_pos (by omega)]
  have : L2.atI (opK n) (j : Int) = some ((opK n).getD j 0) := by
    unfold L2.atI L2.ixN
    rw [if_pos (by omega), if_pos (by omega)]
    simp only [Option.bind_some, Int.toNat_natCast]
    rw [List.getD_eq_getElem?_getD, List.getElem?_eq_getElem h]; rfl
  rw [this]
theorem getD_mem' {r : List Nat} {i : Nat} (h : i < r.length) : r.getD i 0 ∈ r := by rw [List.getD_eq_getElem?_getD, List.getElem?_eq_getElem h]; exact List.getElem_mem h
theorem rng_get {n j : Nat} {x : PV} (h : (rngL 0 (n : Int))[j]? = some x) : j < n ∧ x = .int j := by
  rw [rng0, List.getElem?_map] at h
  obtain ⟨k, hk, rfl⟩ := Option.map_eq_some_iff.mp h
  obtain ⟨hj, hk⟩ := List.getElem?_eq_some_iff.mp hk
  rw [List.getElem_range] at hk
  subst hk
  rw [List.length_range] at hj
  exact ⟨hj, rfl⟩
theorem mApp_ok {A B : Sto} {xs : List PV} {w : PV} (h : xs.length < lim) : mAppend (.loc A.length) [w] (A ++ .lst xs :: B) = .ok .non (A ++ .lst (xs ++ [w]) :: B) := by
  unfold mAppend
  dsimp only
  rw [lstAt_of get_mid]
  dsimp only
  rw [if_pos h, set_mid]
theorem app_ok {A B B' : Sto} {xs : List PV} {w : PV} {o args : ME} {ls : Ls} (ho : o ls (A ++ .lst xs :: B) = .ok (.loc A.length) (A ++ .lst xs :: B)) (ha : args ls (A ++ .lst xs :: B) = .ok w (A ++ .lst xs :: B')) (h : xs.length < lim) :
    sExpr (eMt kList mAppend o (aCons args aNil)) ls (A ++ .lst xs :: B) = .nx ls (A ++ .lst (xs ++ [w]) :: B') := by
  rw [sExpr_ap, eMt_ap, ho, bind_ok]
  have : kList (.loc A.length) (A ++ .lst xs :: B) = true := by unfold kList; dsimp only; rw [seq_of_get get_mid]; rfl
  rw [if_pos this, aCons_ap, ha]
  simp only [bind_ok, aNil_ap, mApp_ok h, then_ok]
theorem empty_ok {ls : Ls} {S : Sto} : eLst aNil ls S = .ok (.loc S.length) (S ++ [.lst []]) := by
  have : (0 : Nat) ≤ lim := by decide
  simp [eLst, this]
theorem intsL_app {xs ys : List Int} : intsL (xs ++ ys) = intsL xs ++ intsL ys := by unfold intsL; rw [List.map_append]
/-! ### decode -/
def opsOf (k : Nat) (cs : List Int) : List Int := (List.range (opK k).length).map fun j => cs.getD j 0 % (limK ((opK k).getD j 0) : Int)
theorem decode_ok {S : Sto} {nl k : Nat} {cs : List Int} (hn : S[nl]? = some (.lst (intsL ((k : Int) :: cs)))) (hk : k < 19) (hc : cs.length = (opK k).length) :
    ∃ X, f_decode [.loc nl] S = .ok (.tup [.str (opN k), .tup (intsL (opsOf k cs))]) (S ++ X) := by
  have h2 := opK_len k hk
  have hl := limE
  refine ⟨[.lst (intsL (opsOf k cs))], fnOf_rt rfl ?_⟩
  show m_decode [some (.loc nl), none, none, none, none] S = _
  unfold m_decode
  have n0 : gIx (.loc nl) (.int 0) S = .ok (.int k) S := gIx_loc (i := 0) (seq_of_get hn) rfl
  have go : gIx w_OPS (.int (k : Int)) S = .ok (.tup [.str (opN k), .str (opK k)]) S := by rw [ops_eq]; exact gIx_tup (ops_get hk)
  have lo : fLen [w_OPS] S = .ok (.int 19) S := rfl
  refine q_no (S1 := S) ?_ ?_
  · simp only [tOrM_ap, toT_ap, eOp_ap, eB_ap, aCons_ap, eVar, List.getElem?_cons_zero, List.getElem?_cons_succ, bind_ok, aNil_ap, fLen_h (.loc hn), eC_ap, gEq_int, asB_bl, n0, lo, gGe_int]
    rw [if_neg (by simp; omega)]
    simp
    omega
  refine q_nx (ls1 := [some (.loc nl), some (.str (opN k)), some (.str (opK k)), none, none]) (S1 := S) ?_ ?_
  · unfold sAsg
    rw [eOp_ap, eC_ap, bind_ok, eOp_ap, eVar_of rfl]
    simp only [bind_ok, eC_ap, n0, go, then_ok]
    rfl
  have ls : fLen [.str (opK k)] S = .ok (.int (opK k).length) S := by
    unfold fLen
    dsimp only
    rw [if_pos (by omega)]
  refine q_no (S1 := S) ?_ ?_
  · simp only [toT_ap, eOp_ap, eB_ap, aCons_ap, eVar, List.getElem?_cons_zero, List.getElem?_cons_succ, bind_ok, aNil_ap, fLen_h (.loc hn), eC_ap, ls, gAdd_int, gLt_int, asB_bl, intsL_len, List.length_cons, hc]
    congr 1
    exact decide_eq_false (by omega)
  refine q_set empty_ok ?_
  show sSeq _ _ [some (.loc nl), some (.str (opN k)), some (.str (opK k)), some (.loc S.length), none] _ = _
  obtain ⟨ls', S', e, ⟨x4, rfl⟩, rfl⟩ := forGo_inv (chk := always) (g := gN 4) (body := (sExpr (eMt kList mAppend (eVar 3) (aCons (eOp gMod (eOp gIx (eVar 0) (eOp gAdd (eC (.int 1)) (eVar 4))) (eKd kd_KIND_LIMITS (eOp gIx (eVar 2) (eVar 4)))) aNil))))
    (fun i ls T => (∃ x4, ls = [some (.loc nl), some (.str (opN k)), some (.str (opK k)), some (.loc S.length), x4]) ∧ T = S ++ .lst (intsL ((List.range i).map fun j => cs.getD j 0 % (limK ((opK k).getD j 0) : Int))) :: []) (rngL 0 (opK k).length) 0 [some (.loc nl), some (.str (opN k)), some (.str (opK k)), some (.loc S.length), none] (S ++ [.lst []]) (by
      rintro j x ls T hx ⟨⟨x4, rfl⟩, rfl⟩
      obtain ⟨hj, rfl⟩ := rng_get hx
      rw [Nat.zero_add]
      refine ⟨rfl, _, rfl, [some (.loc nl), some (.str (opN k)), some (.str (opK k)), some (.loc S.length), some (.int j)], _, .inl ?_, ⟨_, rfl⟩, rfl⟩
      obtain ⟨acc, hacc⟩ : ∃ acc, acc = intsL ((List.range j).map fun j => cs.getD j 0 % (limK ((opK k).getD j 0) : Int)) := ⟨_, rfl⟩
      have halen : acc.length = j := by rw [hacc]; simp
      rw [← hacc]
      refine (app_ok (B' := []) (w := .int (cs.getD j 0 % (limK ((opK k).getD j 0) : Int))) rfl ?_ (by omega)).trans ?_
      · have c1 : gIx (.loc nl) (.int (1 + (j : Int))) (S ++ .lst acc :: []) = .ok (.int (cs.getD j 0)) (S ++ .lst acc :: []) := by
          rw [show (1 + (j : Int)) = ((j + 1 : Nat) : Int) by omega]
          exact gIx_loc (seq_of_get (get_old hn)) (by
            show (PV.int k :: intsL cs)[j + 1]? = _
            rw [List.getElem?_cons_succ]
            exact intsL_get (by omega))
        have c2 := let_at (S := S ++ .lst acc :: []) hk hj
        have c3 := lim_kd (opK_let k hk _ (getD_mem' hj))
        have c4 := lim_pos ((opK k).getD j 0)
        unfold eKd
        simp only [List.set_cons_zero, List.set_cons_succ, eOp_ap, eVar, List.getElem?_cons_zero, List.getElem?_cons_succ, bind_ok, eC_ap, gAdd_int, c1, c2, c3]
        rw [gMod_int (by omega)]
      · rw [List.range_succ, List.map_append, intsL_app, ← hacc]; rfl) (fun _ _ _ => rfl) ⟨⟨_, rfl⟩, rfl⟩
  refine q_nx (sFor_nx (iR1_ok (n := (opK k).length) ?_ (by omega)) e) ?_
  · have ls2 : ∀ T : Sto, fLen [.str (opK k)] T = .ok (.int (opK k).length) T := by
      intro T
      unfold fLen
      dsimp only
      rw [if_pos (by omega)]
    simp only [eB_ap, aCons_ap, eVar, List.getElem?_cons_zero, List.getElem?_cons_succ, bind_ok, aNil_ap, ls2]
  · have hrl : 0 + (rngL 0 ((opK k).length : Int)).length = (opK k).length := by rw [rng0]; simp
    rw [hrl, sRet_ap]
    have et : eB fTuple (aCons (eVar 3) aNil) [some (.loc nl), some (.str (opN k)), some (.str (opK k)), some (.loc S.length), x4] (S ++ [.lst (intsL (opsOf k cs))]) = .ok (.tup (intsL (opsOf k cs))) (S ++ [.lst (intsL (opsOf k cs))]) := by
      rw [eB_ap, aCons_ap, eVar_of rfl]
      simp only [bind_ok, aNil_ap]
      exact fTuple_h (.loc get_app)
    unfold eTup
    rw [aCons_ap, eVar_of rfl, bind_ok, aCons_ap]
    show ((((eB fTuple (aCons (eVar 3) aNil) _ (S ++ [OB.lst (intsL (opsOf k cs))])).bind _).bind _).bind _).then _ _ = _
    rw [et]
    rfl
/-! ### fetch -/
def bh (a j : Nat) : Nat := (a + (j + 1)) % 64
def exeV : PV := .tup [.non, .str n_execute]
def invV : PV := .tup [.non, .str n_invalid]
theorem bh_lt {a j : Nat} : bh a j < 64 := Nat.mod_lt _ (by decide)
section
variable {S : Sto} {L m a np : Nat} {fr : List (List Int)} {pg : List Pg} {sa sb : Option Nat}
theorem exe_ok {ls : Ls} {S : Sto} : eTup (aCons (eC .non) (aCons (eC (.str n_execute)) aNil)) ls S = .ok exeV S := rfl
theorem inv_ok {ls : Ls} {S : Sto} : eTup (aCons (eC .non) (aCons (eC (.str n_invalid)) aNil)) ls S = .ok invV S := rfl
def FB : MS := (sSeq (sSet 4 (eCall f_next_address [] (aCons (eVar 1) (aCons (eOp gAdd (eVar 3) (eC (.int 1))) aNil))))
  (sSeq (sIf (tNotM (toT (eCall f_may_execute [] (aCons (eVar 0) (aCons (eVar 4) aNil)))))
  (sRet (eTup (aCons (eC .non) (aCons (eC (.str n_execute)) aNil))))
  sNil)
  (sExpr (eMt kList mAppend (eVar 2) (aCons (eMeth n_Machine n_number_at f_Machine_number_at [] (eVar 0) (aCons (eVar 4) aNil)) aNil)))))
theorem fetch_body {T : Sto} (h : Mach S L m a np fr pg sa sb) (hf : Fr2 fr) (hg : PgOk pg) {b j : Nat} {acc : List Int} {x4 : Option PV} (hz : acc.length ≤ 100) (eT : T = S ++ .lst (intsL acc) :: []) :
    FB [some (.loc m), some (.int b), some (.loc S.length), some (.int j), x4] T = if ex pg (bh b j) = true then .nx [some (.loc m), some (.int b), some (.loc S.length), some (.int j), some (.int (bh b j : Nat))] (S ++ .lst (intsL (acc ++ [cell fr pg (bh b j)])) :: []) else SOut.rt exeV T := by
  have hT : Mach (S ++ .lst (intsL acc) :: []) L m a np fr pg sa sb := h.old
  rw [← eT] at hT
  have hl := limE
  have en : f_next_address [.int b, .int ((j : Int) + 1)] T = .ok (.int (bh b j : Nat)) T := by
    refine fnOf_rt rfl ?_
    show m_next_address [some (.int b), some (.int ((j : Int) + 1))] T = _
    unfold m_next_address
    rw [sRet_ap, eOp_ap, eOp_ap, eVar_of rfl, bind_ok, eVar_of rfl, bind_ok, gAdd_int, bind_ok, eC_ap, bind_ok, gMod_int (by decide)]
    rw [then_ok]
    congr 2
  have ea : (aCons (eVar 1) (aCons (eOp gAdd (eVar 3) (eC (.int 1))) aNil)) [some (.loc m), some (.int b), some (.loc S.length), some (.int j), x4] T = .ok [.int b, .int ((j : Int) + 1)] T := rfl
  unfold FB
  rw [sSeq_ap, sSet_ap, q_call ea en, then_ok, seq_nx]
  show sSeq _ _ [some (.loc m), some (.int b), some (.loc S.length), some (.int j), some (.int (bh b j : Nat))] T = _
  rw [sSeq_ap, sIf_ap, tNotM_ap, toT_ap, q_call (ws := [.loc m, .int (bh b j : Nat)]) rfl (exec_ok hT hg bh_lt)]
  simp only [bind_ok, asB_bl, then_ok]
  cases hx : ex pg (bh b j) with
  | false =>
    simp only [Bool.not_false, if_true, Bool.false_eq_true, if_false]
    rw [sRet_ap, exe_ok, then_ok, seq_rt]
  | true =>
    simp only [Bool.not_true, Bool.false_eq_true, if_false, if_true]
    rw [sNil_ap, seq_nx]
    obtain ⟨fs, me1, me2⟩ := hT.meth (f := n_number_at) (by decide +kernel)
    have e := eMeth_ok (C := n_Machine) (m := n_number_at) (d := []) (ls := [some (.loc m), some (.int b), some (.loc S.length), some (.int j), some (.int (bh b j : Nat))]) (o := eVar 0) (args := aCons (eVar 4) aNil) rfl me1 me2 rfl (number_ok hT hf hg bh_lt)
    rw [eT] at e ⊢
    rw [app_ok (B' := []) (w := .int (cell fr pg (bh b j))) rfl e (by rw [intsL_len]; omega), intsL_app]
    rfl
theorem fetch_go (h : Mach S L m a np fr pg sa sb) (hf : Fr2 fr) (hg : PgOk pg) {b : Nat} : ∀ (js : List Nat) (i : Nat) (acc : List Int) (x3 x4 : Option PV), acc.length + js.length ≤ 100 →
    (js.all (fun j => ex pg (bh b j)) = true → ∃ x3' x4', forGo always (gN 3) FB i (js.map fun (j : Nat) => .int (j : Int)) [some (.loc m), some (.int b), some (.loc S.length), x3, x4] (S ++ .lst (intsL acc) :: [])
      = .nx [some (.loc m), some (.int b), some (.loc S.length), x3', x4'] (S ++ .lst (intsL (acc ++ js.map fun j => cell fr pg (bh b j))) :: [])) ∧
    (js.all (fun j => ex pg (bh b j)) = false → ∃ X, forGo always (gN 3) FB i (js.map fun (j : Nat) => .int (j : Int)) [some (.loc m), some (.int b), some (.loc S.length), x3, x4] (S ++ .lst (intsL acc) :: [])
      = .rt exeV (S ++ X))
  | [], i, acc, x3, x4, _ => ⟨fun _ => ⟨x3, x4, by rw [List.map_nil, forGo_nil rfl, List.map_nil, List.append_nil]⟩, fun h => by cases h⟩
  | j :: js, i, acc, x3, x4, hz => by
    rw [List.length_cons] at hz
    have bd := fetch_body (b := b) (j := j) (x4 := x4) h hf hg (acc := acc) (by omega) rfl
    have go : forGo always (gN 3) FB i ((j :: js).map fun (j : Nat) => .int (j : Int)) [some (.loc m), some (.int b), some (.loc S.length), x3, x4] (S ++ .lst (intsL acc) :: [])
        = loopK (FB [some (.loc m), some (.int b), some (.loc S.length), some (.int j), x4] (S ++ .lst (intsL acc) :: [])) (forGo always (gN 3) FB (i + 1) (js.map fun (j : Nat) => .int (j : Int))) :=
      forGo_cons (ls1 := [some (.loc m), some (.int b), some (.loc S.length), some (.int j), x4]) rfl rfl
    rw [go, bd, List.all_cons]
    obtain ⟨i1, i2⟩ := fetch_go h hf hg (b := b) js (i + 1) (acc ++ [cell fr pg (bh b j)]) (some (.int j)) (some (.int (bh b j : Nat))) (by rw [List.length_append, List.length_singleton]; omega)
    cases hx : ex pg (bh b j) with
    | false =>
      simp only [Bool.false_and, Bool.false_eq_true, if_false]
      constructor
      · intro z; cases z
      · intro _
        exact ⟨[.lst (intsL acc)], by rw [loopK_rt]⟩
    | true =>
      simp only [Bool.true_and, if_true, loopK_nx]
      refine ⟨fun z => ?_, fun z => i2 z⟩
      obtain ⟨y3, y4, e⟩ := i1 z
      refine ⟨y3, y4, e.trans ?_⟩
      rw [List.append_assoc]; rfl
/-- what a fetch gives: none for the three ways out -/
inductive Way (pg : List Pg) (fr : List (List Int)) (b : Nat) : PV → Prop
  | exe : ex pg b = false → Way pg fr b exeV
  | inv : ex pg b = true → 19 ≤ cell fr pg b → Way pg fr b invV
  | exe2 (k : Nat) : ex pg b = true → cell fr pg b = k → k < 19 → (List.range (opK k).length).all (fun j => ex pg (bh b j)) = false → Way pg fr b exeV
  | ok (k : Nat) : ex pg b = true → cell fr pg b = k → k < 19 → (List.range (opK k).length).all (fun j => ex pg (bh b j)) = true →
      Way pg fr b (.tup [.tup [.str (opN k), .tup (intsL (opsOf k ((List.range (opK k).length).map fun j => cell fr pg (bh b j))))], .non])
theorem fetch_ok (h : Mach S L m a np fr pg sa sb) (hf : Fr2 fr) (hg : PgOk pg) {b : Nat} (hb : b < 64) (h0 : 0 ≤ cell fr pg b) : ∃ w X, f_fetch_at [.loc m, .int b] S = .ok w (S ++ X) ∧ Way pg fr b w := by
  have hl := limE
  cases hx : ex pg b with
  | false =>
    refine ⟨exeV, [], fnOf_rt rfl ?_, .exe hx⟩
    show m_fetch_at [some (.loc m), some (.int b), none, none, none] S = _
    unfold m_fetch_at
    rw [sSeq_ap, sIf_ap, tNotM_ap, toT_ap, q_call (ws := [.loc m, .int b]) rfl (exec_ok h hg hb), hx, List.append_nil]
    rfl
  | true =>
    obtain ⟨fs, me1, me2⟩ := h.meth (f := n_number_at) (by decide +kernel)
    have e := eMeth_ok (C := n_Machine) (m := n_number_at) (d := []) (ls := [some (.loc m), some (.int b), none, none, none]) (o := eVar 0) (args := aCons (eVar 1) aNil) rfl me1 me2 rfl (number_ok h hf hg hb)
    have e1 : eLst (aCons (eMeth n_Machine n_number_at f_Machine_number_at [] (eVar 0) (aCons (eVar 1) aNil)) aNil) [some (.loc m), some (.int b), none, none, none] S = .ok (.loc S.length) (S ++ .lst (intsL [cell fr pg b]) :: []) := by
      have h1 : (1 : Nat) ≤ lim := by decide
      unfold eLst
      rw [aCons_ap, e]
      rfl
    have hn : (S ++ OB.lst (intsL [cell fr pg b]) :: [])[S.length]? = some (.lst (intsL [cell fr pg b])) := get_mid
    have n0 : gIx (.loc S.length) (.int 0) (S ++ .lst (intsL [cell fr pg b]) :: []) = .ok (.int (cell fr pg b)) (S ++ .lst (intsL [cell fr pg b]) :: []) := gIx_loc (i := 0) (seq_of_get hn) rfl
    have lo : ∀ T, fLen [w_OPS] T = .ok (.int 19) T := fun _ => rfl
    have t2 : toT (eOp gGe (eOp gIx (eVar 2) (eC (.int 0))) (eB fLen (aCons (eC w_OPS) aNil))) [some (.loc m), some (.int b), some (.loc S.length), none, none] (S ++ .lst (intsL [cell fr pg b]) :: []) = .ok (decide (19 ≤ cell fr pg b)) (S ++ .lst (intsL [cell fr pg b]) :: []) := by
      simp only [toT_ap, eOp_ap, eB_ap, aCons_ap, eVar, List.getElem?_cons_zero, List.getElem?_cons_succ, bind_ok, aNil_ap, eC_ap, n0, lo, gGe_int, asB_bl]
    have start : ∀ {q}, m_fetch_at [some (.loc m), some (.int b), none, none, none] S = q ↔ (sSeq (sIf (toT (eOp gGe (eOp gIx (eVar 2) (eC (.int 0))) (eB fLen (aCons (eC w_OPS) aNil))))
  (sRet (eTup (aCons (eC .non) (aCons (eC (.str n_invalid)) aNil))))
  sNil)
  (sSeq (sFor (iR1 (eB fLen (aCons (eOp gIx (eOp gIx (eC w_OPS) (eOp gIx (eVar 2) (eC (.int 0)))) (eC (.int 1))) aNil))) (gN 3) FB)
  (sRet (eTup (aCons (eCall f_decode [] (aCons (eVar 2) aNil)) (aCons (eC .non) aNil)))))) [some (.loc m), some (.int b), some (.loc S.length), none, none] (S ++ .lst (intsL [cell fr pg b]) :: []) = q := by
      intro q
      unfold m_fetch_at
      rw [sSeq_ap, sIf_ap, tNotM_ap, toT_ap, q_call (ws := [.loc m, .int b]) rfl (exec_ok h hg hb), hx]
      simp only [bind_ok, asB_bl, Bool.not_true, then_ok, Bool.false_eq_true, if_false]
      rw [sNil_ap, seq_nx, sSeq_ap, sSet_ap, e1, then_ok, seq_nx]
      rfl
    by_cases hi : 19 ≤ cell fr pg b
    · refine ⟨invV, [.lst (intsL [cell fr pg b])], fnOf_rt rfl (start.mpr ?_), .inv hx hi⟩
      rw [sSeq_ap, sIf_ap, t2, then_ok, if_pos (decide_eq_true hi), sRet_ap, inv_ok, then_ok, seq_rt]
    · obtain ⟨k, hk⟩ : ∃ k : Nat, cell fr pg b = k := ⟨(cell fr pg b).toNat, by omega⟩
      have hk19 : k < 19 := by omega
      have h2 := opK_len k hk19
      have go : ∀ T, gIx w_OPS (.int (k : Int)) T = .ok (.tup [.str (opN k), .str (opK k)]) T := fun T => by rw [ops_eq]; exact gIx_tup (ops_get hk19)
      have ls2 : ∀ T : Sto, fLen [.str (opK k)] T = .ok (.int (opK k).length) T := by
        intro T
        unfold fLen
        dsimp only
        rw [if_pos (by omega)]
      have g1 : ∀ T, gIx (.tup [.str (opN k), .str (opK k)]) (.int 1) T = .ok (.str (opK k)) T := fun T => gIx_tup (i := 1) rfl
      have ir : iR1 (eB fLen (aCons (eOp gIx (eOp gIx (eC w_OPS) (eOp gIx (eVar 2) (eC (.int 0)))) (eC (.int 1))) aNil)) [some (.loc m), some (.int b), some (.loc S.length), none, none] (S ++ .lst (intsL [cell fr pg b]) :: []) = .ok ⟨rngL 0 (opK k).length, always⟩ (S ++ .lst (intsL [cell fr pg b]) :: []) := by
        refine iR1_ok ?_ (by omega)
        rw [hk] at n0 ⊢
        simp only [eB_ap, aCons_ap, eOp_ap, eC_ap, bind_ok, eVar, List.getElem?_cons_zero, List.getElem?_cons_succ, n0, go, g1, aNil_ap, ls2]
      obtain ⟨f1, f2⟩ := fetch_go h hf hg (b := b) (List.range (opK k).length) 0 [cell fr pg b] none none (by simp; omega)
      cases ha : (List.range (opK k).length).all (fun j => ex pg (bh b j)) with
      | false =>
        obtain ⟨X, e2⟩ := f2 ha
        refine ⟨exeV, X, fnOf_rt rfl (start.mpr ?_), .exe2 k hx hk hk19 ha⟩
        rw [sSeq_ap, sIf_ap, t2, then_ok, if_neg (by simp; omega), sNil_ap, seq_nx, sSeq_ap]
        unfold sFor
        rw [ir, then_ok]
        dsimp only
        rw [rng0, e2, seq_rt]
      | true =>
        obtain ⟨x3, x4, e2⟩ := f1 ha
        obtain ⟨X, ed⟩ := decode_ok (S := S ++ .lst (intsL ((k : Int) :: (List.range (opK k).length).map fun j => cell fr pg (bh b j))) :: []) (nl := S.length) (k := k) (cs := (List.range (opK k).length).map fun j => cell fr pg (bh b j)) get_mid hk19 (by simp)
        refine ⟨_, OB.lst (intsL ((k : Int) :: (List.range (opK k).length).map fun j => cell fr pg (bh b j))) :: X, fnOf_rt rfl (start.mpr ?_), .ok k hx hk hk19 ha⟩
        rw [sSeq_ap, sIf_ap, t2, then_ok, if_neg (by simp; omega), sNil_ap, seq_nx]
        refine q_nx (sFor_nx ir (by dsimp only; rw [rng0]; exact e2)) ?_
        rw [sRet_ap, hk]
        unfold eTup
        rw [aCons_ap, q_call (ws := [.loc S.length]) rfl ed]
        rw [bind_ok, aCons_ap, eC_ap, bind_ok, aNil_ap, bind_ok, bind_ok, bind_ok]
        rw [List.append_assoc]
        rfl
end
end K08

set_option Elab.async false
set_option linter.all false
set_option maxRecDepth 100000
set_option maxHeartbeats 1000000
namespace K08
open GL PySem
structure LawAt (T : Sto) (lc c lp : Nat) (fr : List (List Int)) (pg : List Pg) : Prop where
  fr : FrAt T lc c fr
  pg : T[lp]? = some (.lst (pagesL pg))
theorem LawAt.old {T X : Sto} {lc c lp : Nat} {fr : List (List Int)} {pg : List Pg} (h : LawAt T lc c lp fr pg) : LawAt (T ++ X) lc c lp fr pg := ⟨h.fr.old, get_old h.pg⟩
section
variable {T : Sto} {lc c lp : Nat} {fr : List (List Int)} {pg : List Pg} {ls : Ls} {v b : Nat}
theorem rgt_test (h : LawAt T lc c lp fr pg) (hg : PgOk pg) (hb : b < 64) (h1 : ls[1]? = some (some (.loc lp))) (hv : ls[v]? = some (some (.int (b : Int)))) :
    toT (eOp gEq (eOp gMod (eB fInt (aCons (eOp gIx (eOp gIx (eVar 1) (eOp gDiv (eVar v) (eC (.int 16)))) (eC (.int 1))) aNil)) (eC (.int 2))) (eC (.int 0))) ls T = .ok (!ex pg b) T := by
  have g1 := gIx_loc (seq_of_get h.pg) (pg_get hg hb)
  simp only [toT_ap, eOp_ap, eB_ap, aCons_ap, eVar_of h1, eVar_of hv, bind_ok, eC_ap, div16, g1, pg1, aNil_ap, fInt_int]
  rw [gMod_int (by decide), bind_ok, gEq_int, bind_ok, asB_bl]
  congr 1
  unfold ex
  rcases Nat.mod_two_eq_zero_or_one (pgAt pg b).r with q | q
  · have : ((pgAt pg b).r : Int) % 2 = 0 := by omega
    rw [decide_eq_true this, q]; rfl
  · have : ¬ ((pgAt pg b).r : Int) % 2 = 0 := by omega
    rw [decide_eq_false this, q]; rfl
theorem cell_e (h : LawAt T lc c lp fr pg) (hf : Fr2 fr) (hg : PgOk pg) (hb : b < 64) (h0 : ls[0]? = some (some (.loc lc))) (h1 : ls[1]? = some (some (.loc lp))) (hv : ls[v]? = some (some (.int (b : Int)))) :
    eOp gIx (eOp gIx (eVar 0) (eOp gIx (eOp gIx (eVar 1) (eOp gDiv (eVar v) (eC (.int 16)))) (eC (.int 0)))) (eOp gMod (eB fInt (aCons (eVar v) aNil)) (eC (.int 16))) ls T = .ok (.int (cell fr pg b)) T := by
  have g1 := gIx_loc (seq_of_get h.pg) (pg_get hg hb)
  have h4 := (pgAt_ok hg hb).1
  have g2 : gIx (.loc lc) (.int ((pgAt pg b).f : Int)) T = .ok (.loc (c + (pgAt pg b).f)) T := gIx_loc (seq_of_get h.fr.1) (locsL_get (by rw [hf.1]; exact h4))
  have h16 := hf.2 _ (List.mem_of_getElem? (getD_some (fr := fr) (i := (pgAt pg b).f) (by rw [hf.1]; exact h4)))
  have g3 : gIx (.loc (c + (pgAt pg b).f)) (.int ((b % 16 : Nat) : Int)) T = .ok (.int (cell fr pg b)) T := gIx_loc (seq_of_get (h.fr.2 _ _ (getD_some (by rw [hf.1]; exact h4)))) (intsL_get (by rw [h16]; omega))
  simp only [eOp_ap, eB_ap, aCons_ap, eVar_of h0, eVar_of h1, eVar_of hv, bind_ok, eC_ap, div16, g1, pg0, g2, aNil_ap, fInt_int, mod16, g3]
end
def DB : MS := (sSeq (sSet 7 (eOp gMod (eB fInt (aCons (eOp gAdd (eOp gAdd (eVar 2) (eC (.int 1))) (eVar 6)) aNil)) (eC (.int 64))))
  (sSeq (sIf (toT (eOp gEq (eOp gMod (eB fInt (aCons (eOp gIx (eOp gIx (eVar 1) (eOp gDiv (eVar 7) (eC (.int 16)))) (eC (.int 1))) aNil)) (eC (.int 2))) (eC (.int 0))))
  (sRet (eTup (aCons (eC .non) (aCons (eC (.str n_execute)) aNil))))
  sNil)
  (sExpr (eMt kList mAppend (eVar 5) (aCons (eOp gMod (eB fInt (aCons (eOp gIx (eOp gIx (eVar 0) (eOp gIx (eOp gIx (eVar 1) (eOp gDiv (eVar 7) (eC (.int 16)))) (eC (.int 0)))) (eOp gMod (eB fInt (aCons (eVar 7) aNil)) (eC (.int 16)))) aNil)) (eCall f_law_limit [] (aCons (eOp gIx (eVar 4) (eVar 6)) aNil))) aNil)))))
section
variable {S : Sto} {lc c lp : Nat} {fr : List (List Int)} {pg : List Pg}
theorem due_body {T : Sto} (h : LawAt S lc c lp fr pg) (hf : Fr2 fr) (hg : PgOk pg) {b j k : Nat} {acc : List Int} {x7 : Option PV} {x3 : PV} (hk : k < 19) (hj : j < (opK k).length) (hz : acc.length ≤ 100) (eT : T = S ++ .lst (intsL acc) :: []) :
    DB [some (.loc lc), some (.loc lp), some (.int b), some x3, some (.str (opK k)), some (.loc S.length), some (.int j), x7] T = if ex pg (bh b j) = true then .nx [some (.loc lc), some (.loc lp), some (.int b), some x3, some (.str (opK k)), some (.loc S.length), some (.int j), some (.int (bh b j : Nat))] (S ++ .lst (intsL (acc ++ [cell fr pg (bh b j) % (limK ((opK k).getD j 0) : Int)])) :: []) else SOut.rt exeV T := by
  have hT : LawAt (S ++ .lst (intsL acc) :: []) lc c lp fr pg := h.old
  rw [← eT] at hT
  have hl := limE
  unfold DB
  refine (q_set (w := .int (bh b j : Nat)) (S1 := T) ?_ rfl).trans ?_
  · simp only [eOp_ap, eB_ap, aCons_ap, eVar, List.getElem?_cons_zero, List.getElem?_cons_succ, bind_ok, eC_ap, gAdd_int, aNil_ap, fInt_int]
    rw [gMod_int (by decide)]
    congr 2
    unfold bh
    omega
  show sSeq _ _ [some (.loc lc), some (.loc lp), some (.int b), some x3, some (.str (opK k)), some (.loc S.length), some (.int j), some (.int (bh b j : Nat))] T = _
  rw [sSeq_ap, sIf_ap, rgt_test hT hg bh_lt rfl rfl, then_ok]
  cases hx : ex pg (bh b j) with
  | false =>
    simp only [Bool.not_false, if_true, Bool.false_eq_true, if_false]
    rw [sRet_ap, exe_ok, then_ok, seq_rt]
  | true =>
    simp only [Bool.not_true, Bool.false_eq_true, if_false, if_true]
    rw [sNil_ap, seq_nx]
    have e1 := cell_e (v := 7) (ls := [some (.loc lc), some (.loc lp), some (.int b), some x3, some (.str (opK k)), some (.loc S.length), some (.int j), some (.int (bh b j : Nat))]) hT hf hg bh_lt rfl rfl rfl
    have e2 : eCall f_law_limit [] (aCons (eOp gIx (eVar 4) (eVar 6)) aNil) [some (.loc lc), some (.loc lp), some (.int b), some x3, some (.str (opK k)), some (.loc S.length), some (.int j), some (.int (bh b j : Nat))] T = .ok (.int (limK ((opK k).getD j 0) : Nat)) T :=
      q_call (ws := [.str [(opK k).getD j 0]]) (S1 := T) (by rw [aCons_ap, eOp_ap, eVar_of rfl, bind_ok, eVar_of rfl, bind_ok, let_at hk hj]; rfl) (limit_ok (opK_let k hk _ (getD_mem' hj)))
    have c4 := lim_pos ((opK k).getD j 0)
    have e3 : eOp gMod (eB fInt (aCons (eOp gIx (eOp gIx (eVar 0) (eOp gIx (eOp gIx (eVar 1) (eOp gDiv (eVar 7) (eC (.int 16)))) (eC (.int 0)))) (eOp gMod (eB fInt (aCons (eVar 7) aNil)) (eC (.int 16)))) aNil)) (eCall f_law_limit [] (aCons (eOp gIx (eVar 4) (eVar 6)) aNil)) [some (.loc lc), some (.loc lp), some (.int b), some x3, some (.str (opK k)), some (.loc S.length), some (.int j), some (.int (bh b j : Nat))] T = .ok (.int (cell fr pg (bh b j) % (limK ((opK k).getD j 0) : Int))) T := by
      rw [eOp_ap, eB_ap, aCons_ap, e1]
      simp only [bind_ok, aNil_ap, fInt_int, e2]
      rw [gMod_int (by omega)]
    rw [eT] at e3 ⊢
    rw [app_ok (B' := []) rfl e3 (by rw [intsL_len]; omega), intsL_app]
    rfl
theorem due_go (h : LawAt S lc c lp fr pg) (hf : Fr2 fr) (hg : PgOk pg) {b k : Nat} {x3 : PV} (hk : k < 19) : ∀ (js : List Nat) (i : Nat) (acc : List Int) (x6 x7 : Option PV), acc.length + js.length ≤ 100 → (∀ j ∈ js, j < (opK k).length) →
    (js.all (fun j => ex pg (bh b j)) = true → ∃ x6' x7', forGo always (gN 6) DB i (js.map fun (j : Nat) => .int (j : Int)) [some (.loc lc), some (.loc lp), some (.int b), some x3, some (.str (opK k)), some (.loc S.length), x6, x7] (S ++ .lst (intsL acc) :: [])
      = .nx [some (.loc lc), some (.loc lp), some (.int b), some x3, some (.str (opK k)), some (.loc S.length), x6', x7'] (S ++ .lst (intsL (acc ++ js.map fun j => cell fr pg (bh b j) % (limK ((opK k).getD j 0) : Int))) :: [])) ∧
    (js.all (fun j => ex pg (bh b j)) = false → ∃ X, forGo always (gN 6) DB i (js.map fun (j : Nat) => .int (j : Int)) [some (.loc lc), some (.loc lp), some (.int b), some x3, some (.str (opK k)), some (.loc S.length), x6, x7] (S ++ .lst (intsL acc) :: [])
      = .rt exeV (S ++ X))
  | [], i, acc, x3, x4, _, _ => ⟨fun _ => ⟨x3, x4, by rw [List.map_nil, forGo_nil rfl, List.map_nil, List.append_nil]⟩, fun h => by cases h⟩
  | j :: js, i, acc, x6, x7, hz, hjs => by
    rw [List.length_cons] at hz
    have bd := due_body (b := b) (j := j) (x7 := x7) (x3 := x3) h hf hg (acc := acc) hk (hjs j List.mem_cons_self) (by omega) rfl
    have go : forGo always (gN 6) DB i ((j :: js).map fun (j : Nat) => .int (j : Int)) [some (.loc lc), some (.loc lp), some (.int b), some x3, some (.str (opK k)), some (.loc S.length), x6, x7] (S ++ .lst (intsL acc) :: [])
        = loopK (DB [some (.loc lc), some (.loc lp), some (.int b), some x3, some (.str (opK k)), some (.loc S.length), some (.int j), x7] (S ++ .lst (intsL acc) :: [])) (forGo always (gN 6) DB (i + 1) (js.map fun (j : Nat) => .int (j : Int))) :=
      forGo_cons (ls1 := [some (.loc lc), some (.loc lp), some (.int b), some x3, some (.str (opK k)), some (.loc S.length), some (.int j), x7]) rfl rfl
    rw [go, bd, List.all_cons]
    obtain ⟨i1, i2⟩ := due_go h hf hg (b := b) (x3 := x3) hk js (i + 1) (acc ++ [cell fr pg (bh b j) % (limK ((opK k).getD j 0) : Int)]) (some (.int j)) (some (.int (bh b j : Nat))) (by rw [List.length_append, List.length_singleton]; omega) (fun q hq => hjs q (List.mem_cons_of_mem _ hq))
    cases hx : ex pg (bh b j) with
    | false =>
      simp only [Bool.false_and, Bool.false_eq_true, if_false]
      constructor
      · intro z; cases z
      · intro _
        exact ⟨[.lst (intsL acc)], by rw [loopK_rt]⟩
    | true =>
      simp only [Bool.true_and, if_true, loopK_nx]
      refine ⟨fun z => ?_, fun z => i2 z⟩
      obtain ⟨y3, y4, e⟩ := i1 z
      refine ⟨y3, y4, e.trans ?_⟩
      rw [List.append_assoc]; rfl
/-- the two answers -/
inductive Same (T : Sto) : PV → PV → Prop
  | exe : Same T exeV exeV
  | inv : Same T invV invV
  | ok (k n : Nat) (ops : List Int) : T[n]? = some (.lst (intsL ops)) → Same T (.tup [.tup [.str (opN k), .tup (intsL ops)], .non]) (.tup [.tup [.str (opN k), .loc n], .non])
def kindsL : List PV := strL (opsT.map (·.2))
theorem kinds_ok {S : Sto} : f_law_kinds [] S = .ok (.loc S.length) (S ++ [.lst kindsL]) := rfl
theorem kinds_get {k : Nat} (h : k < 19) : kindsL[k]? = some (.str (opK k)) := by
  have hl : k < opsT.length := h
  unfold kindsL strL
  rw [List.map_map, List.getElem?_map, List.getElem?_eq_getElem hl, opK, List.getD_eq_getElem?_getD, List.getElem?_eq_getElem hl]; rfl
theorem names_split : (PySem.Txt.split (toS n_halt_print_show_set_move_add_c) (toS [32])).map (fun z => z.cps.toList) = opsT.map (·.1) := by decide +kernel
theorem names_ok2 {S : Sto} : f_law_names [] S = .ok (.loc S.length) (S ++ [.lst (strL (opsT.map (·.1)))]) := by
  refine fnOf_rt rfl ?_
  show m_law_names [none] S = _
  have hsp : (PySem.Txt.split (toS n_halt_print_show_set_move_add_c) (toS [32])).map (fun z => PV.str z.cps.toList) = strL (opsT.map (·.1)) := by
    rw [← names_split, strL, List.map_map]; rfl
  have h4 : n_halt_print_show_set_move_add_c.length < lim := by decide +kernel
  unfold m_law_names
  refine q_set rfl ?_
  rw [sRet_ap, eMt_ap, eVar_of rfl, bind_ok, if_pos (show kStr (.str n_halt_print_show_set_move_add_c) S = true from rfl), aCons_ap, eC_ap]
  simp only [bind_ok, aNil_ap]
  unfold mSplit
  dsimp only
  rw [if_pos (by rw [decide_eq_true h4]; rfl)]
  show SOut.rt _ (S ++ [OB.lst ((PySem.Txt.split (toS n_halt_print_show_set_move_add_c) (toS [32])).map (fun z => PV.str z.cps.toList))]) = _
  rw [hsp]
theorem opN_get {k : Nat} (h : k < 19) : (strL (opsT.map (·.1)))[k]? = some (.str (opN k)) := by
  have hl : k < opsT.length := h
  unfold strL
  rw [List.map_map, List.getElem?_map, List.getElem?_eq_getElem hl, opN, List.getD_eq_getElem?_getD, List.getElem?_eq_getElem hl]; rfl
theorem ops_of {k b : Nat} : (List.range (opK k).length).map (fun j => cell fr pg (bh b j) % (limK ((opK k).getD j 0) : Int)) = opsOf k ((List.range (opK k).length).map fun j => cell fr pg (bh b j)) := by
  unfold opsOf
  refine List.map_congr_left fun j hj => ?_
  rw [List.mem_range] at hj
  congr 1
  rw [List.getD_eq_getElem?_getD, List.getElem?_map, List.getElem?_range hj]; rfl
theorem due_ok (h : LawAt S lc c lp fr pg) (hf : Fr2 fr) (hg : PgOk pg) {b : Nat} (hb : b < 64) {w : PV} (W : Way pg fr b w) : ∃ w' X, f_law_due [.loc lc, .loc lp, .int b] S = .ok w' (S ++ X) ∧ Same (S ++ X) w w' := by
  have hl := limE
  have t1 := rgt_test (v := 2) (ls := [some (.loc lc), some (.loc lp), some (.int b), none, none, none, none, none]) h hg hb rfl rfl
  have c1 := cell_e (v := 2) (ls := [some (.loc lc), some (.loc lp), some (.int b), none, none, none, none, none]) h hf hg hb rfl rfl rfl
  have first : ∀ {q}, ex pg b = true → (sSeq (sIf (toT (eOp gGt (eVar 3) (eC (.int 18))))
  (sRet (eTup (aCons (eC .non) (aCons (eC (.str n_invalid)) aNil))))
  sNil)
  (sSeq (sSet 4 (eOp gIx (eCall f_law_kinds [] aNil) (eVar 3)))
  (sSeq (sSet 5 (eLst aNil))
  (sSeq (sFor (iR1 (eB fLen (aCons (eVar 4) aNil))) (gN 6) DB)
  (sRet (eTup (aCons (eTup (aCons (eOp gIx (eCall f_law_names [] aNil) (eVar 3)) (aCons (eVar 5) aNil))) (aCons (eC .non) aNil)))))))) [some (.loc lc), some (.loc lp), some (.int b), some (.int (cell fr pg b)), none, none, none, none] S = q → m_law_due [some (.loc lc), some (.loc lp), some (.int b), none, none, none, none, none] S = q := by
    intro q hx hq
    unfold m_law_due
    rw [sSeq_ap, sIf_ap, t1, hx, then_ok, if_neg (by decide), sNil_ap, seq_nx]
    exact q_set c1 hq
  have t2 : toT (eOp gGt (eVar 3) (eC (.int 18))) [some (.loc lc), some (.loc lp), some (.int b), some (.int (cell fr pg b)), none, none, none, none] S = .ok (decide (18 < cell fr pg b)) S := by
    simp only [toT_ap, eOp_ap, eVar, List.getElem?_cons_zero, List.getElem?_cons_succ, bind_ok, eC_ap, gGt_int, asB_bl]
  have mid : ∀ {q} (k : Nat), ex pg b = true → cell fr pg b = k → k < 19 → (sSeq (sFor (iR1 (eB fLen (aCons (eVar 4) aNil))) (gN 6) DB)
  (sRet (eTup (aCons (eTup (aCons (eOp gIx (eCall f_law_names [] aNil) (eVar 3)) (aCons (eVar 5) aNil))) (aCons (eC .non) aNil))))) [some (.loc lc), some (.loc lp), some (.int b), some (.int k), some (.str (opK k)), some (.loc (S ++ [OB.lst kindsL]).length), none, none] (S ++ [.lst kindsL] ++ [.lst []]) = q → m_law_due [some (.loc lc), some (.loc lp), some (.int b), none, none, none, none, none] S = q := by
    intro q k hx hk hk19 hq
    refine first hx ?_
    rw [sSeq_ap, sIf_ap, t2, then_ok, if_neg (by simp; omega), sNil_ap, seq_nx, hk]
    refine q_set (w := .str (opK k)) (S1 := S ++ [.lst kindsL]) ?_ ?_
    · rw [eOp_ap, q_call (ws := []) rfl kinds_ok, bind_ok, eVar_of rfl, bind_ok]
      exact gIx_loc (seq_of_get get_app) (kinds_get hk19)
    · exact q_set empty_ok hq
  have ir : ∀ (k : Nat) (T : Sto), k < 19 → ∀ x3 x5, iR1 (eB fLen (aCons (eVar 4) aNil)) [some (.loc lc), some (.loc lp), some (.int b), x3, some (.str (opK k)), x5, none, none] T = .ok ⟨rngL 0 (opK k).length, always⟩ T := by
    intro k T hk x3 x5
    have h2 := opK_len k hk
    refine iR1_ok ?_ (by omega)
    have ls2 : fLen [.str (opK k)] T = .ok (.int (opK k).length) T := by
      unfold fLen
      dsimp only
      rw [if_pos (by omega)]
    simp only [eB_ap, aCons_ap, eVar, List.getElem?_cons_zero, List.getElem?_cons_succ, bind_ok, aNil_ap, ls2]
  have hK : LawAt (S ++ [OB.lst kindsL]) lc c lp fr pg := h.old
  cases W with
  | exe hx =>
    refine ⟨exeV, [], fnOf_rt rfl ?_, .exe⟩
    show m_law_due [some (.loc lc), some (.loc lp), some (.int b), none, none, none, none, none] S = _
    unfold m_law_due
    rw [sSeq_ap, sIf_ap, t1, hx, List.append_nil]
    rfl
  | inv hx hi =>
    refine ⟨invV, [], fnOf_rt rfl (first hx ?_), .inv⟩
    rw [sSeq_ap, sIf_ap, t2, then_ok, if_pos (decide_eq_true (by omega)), sRet_ap, inv_ok, then_ok, seq_rt, List.append_nil]
  | exe2 k hx hk hk19 ha =>
    have h2 := opK_len k hk19
    obtain ⟨f1, f2⟩ := due_go hK hf hg (b := b) (x3 := .int k) hk19 (List.range (opK k).length) 0 [] none none (by simp; omega) (fun j hj => List.mem_range.mp hj)
    obtain ⟨X, e2⟩ := f2 ha
    refine ⟨exeV, [.lst kindsL] ++ X, fnOf_rt rfl (mid k hx hk hk19 ?_), .exe⟩
    rw [sSeq_ap]
    unfold sFor
    rw [ir k _ hk19, then_ok]
    dsimp only
    rw [rng0]
    erw [e2]
    rw [seq_rt, List.append_assoc]
  | ok k hx hk hk19 ha =>
    have h2 := opK_len k hk19
    obtain ⟨f1, f2⟩ := due_go hK hf hg (b := b) (x3 := .int k) hk19 (List.range (opK k).length) 0 [] none none (by simp; omega) (fun j hj => List.mem_range.mp hj)
    obtain ⟨x6, x7, e2⟩ := f1 ha
    rw [List.nil_append, ops_of] at e2
    obtain ⟨ops, hops⟩ : ∃ ops, ops = opsOf k ((List.range (opK k).length).map fun j => cell fr pg (bh b j)) := ⟨_, rfl⟩
    rw [← hops] at e2 ⊢
    refine ⟨.tup [.tup [.str (opN k), .loc (S ++ [OB.lst kindsL]).length], .non], [.lst kindsL, .lst (intsL ops), .lst (strL (opsT.map (·.1)))], fnOf_rt rfl (mid k hx hk hk19 ?_), .ok k _ _ ?_⟩
    · refine q_nx (sFor_nx (ir k _ hk19 _ _) (by dsimp only; rw [rng0]; exact e2)) ?_
      have en : eOp gIx (eCall f_law_names [] aNil) (eVar 3) [some (.loc lc), some (.loc lp), some (.int b), some (.int k), some (.str (opK k)), some (.loc (S ++ [OB.lst kindsL]).length), x6, x7] (S ++ [.lst kindsL] ++ .lst (intsL ops) :: []) = .ok (.str (opN k)) (S ++ [.lst kindsL] ++ .lst (intsL ops) :: [] ++ [.lst (strL (opsT.map (·.1)))]) := by
        rw [eOp_ap, q_call (ws := []) rfl names_ok2, bind_ok, eVar_of rfl, bind_ok]
        exact gIx_loc (seq_of_get get_app) (opN_get hk19)
      rw [sRet_ap]
      unfold eTup
      rw [aCons_ap, aCons_ap, en]
      simp only [List.append_assoc]
      rfl
    · have : (S ++ [OB.lst kindsL, .lst (intsL ops), .lst (strL (opsT.map (·.1)))])[S.length + 1]? = some (.lst (intsL ops)) := get_at (k := 1)
      rw [List.length_append]
      exact this
theorem same_ok {T : Sto} {w w' : PV} (h : Same T w w') : ∃ X, f_law_same [w, w'] T = .ok (.bl true) (T ++ X) := by
  cases h with
  | exe => exact ⟨[], by rw [List.append_nil]; rfl⟩
  | inv => exact ⟨[], by rw [List.append_nil]; rfl⟩
  | ok k n ops hn =>
    refine ⟨[.lst (intsL ops)], fnOf_rt rfl ?_⟩
    obtain ⟨A, hA⟩ : ∃ A : PV, A = .tup [.tup [.str (opN k), .tup (intsL ops)], .non] := ⟨_, rfl⟩
    obtain ⟨B, hB⟩ : ∃ B : PV, B = .tup [.tup [.str (opN k), .loc n], .non] := ⟨_, rfl⟩
    obtain ⟨C, hC⟩ : ∃ C : PV, C = .tup [.str (opN k), .tup (intsL ops)] := ⟨_, rfl⟩
    rw [← hA, ← hB]
    show m_law_same [some A, some B, none, none] T = _
    unfold m_law_same
    have a0 : ∀ T, gIx A (.int 0) T = .ok C T := fun T => by rw [hA, hC]; exact gIx_tup (i := 0) rfl
    have a1 : ∀ T, gIx A (.int 1) T = .ok .non T := fun T => by rw [hA]; exact gIx_tup (i := 1) rfl
    have b0 : ∀ T, gIx B (.int 0) T = .ok (.tup [.str (opN k), .loc n]) T := fun T => by rw [hB]; exact gIx_tup (i := 0) rfl
    have c0 : ∀ T, gIx C (.int 0) T = .ok (.str (opN k)) T := fun T => by rw [hC]; exact gIx_tup (i := 0) rfl
    have c1 : ∀ T, gIx C (.int 1) T = .ok (.tup (intsL ops)) T := fun T => by rw [hC]; exact gIx_tup (i := 1) rfl
    have d0 : ∀ T, gIx (.tup [.str (opN k), .loc n]) (.int 0) T = .ok (.str (opN k)) T := fun T => gIx_tup (i := 0) rfl
    have d1 : ∀ T, gIx (.tup [.str (opN k), .loc n]) (.int 1) T = .ok (.loc n) T := fun T => gIx_tup (i := 1) rfl
    have i1 : fIsi [A, .ty .tuple] T = .ok (.bl true) T := by rw [hA]; rfl
    have l1 : fLen [A] T = .ok (.int 2) T := by rw [hA]; rfl
    have i2 : fIsi [C, .ty .tuple] T = .ok (.bl true) T := by rw [hC]; rfl
    have l2 : fLen [C] T = .ok (.int 2) T := by rw [hC]; rfl
    have i3 : fIsi [.str (opN k), .ty .str] T = .ok (.bl true) T := rfl
    have i4 : fIsi [.tup (intsL ops), .ty .tuple] T = .ok (.bl true) T := rfl
    refine q_no (S1 := T) ?_ ?_
    · simp only [tOrM_ap, tNotM_ap, toT_ap, eB_ap, aCons_ap, eVar, List.getElem?_cons_zero, List.getElem?_cons_succ, bind_ok, eC_ap, aNil_ap, i1, asB_bl, Bool.not_true, Bool.false_eq_true, if_false, eOp_ap, l1, gNe_int]
      rfl
    refine q_no (S1 := T) ?_ ?_
    · simp only [toT_ap, eOp_ap, eVar, List.getElem?_cons_zero, List.getElem?_cons_succ, bind_ok, eC_ap, b0]
      rfl
    refine q_set (w := C) (S1 := T) (by simp only [eOp_ap, eVar, List.getElem?_cons_zero, List.getElem?_cons_succ, bind_ok, eC_ap, a0]) ?_
    simp only [List.set_cons_zero, List.set_cons_succ]
    refine q_no (S1 := T) ?_ ?_
    · simp only [tOrM_ap, tNotM_ap, toT_ap, eB_ap, aCons_ap, eVar, List.getElem?_cons_zero, List.getElem?_cons_succ, bind_ok, eC_ap, aNil_ap, a1, isM, isNonP, i2, asB_bl, Bool.not_true, Bool.false_eq_true, if_false, eOp_ap, l2, gNe_int, if_true]
      rfl
    refine q_no (S1 := T) ?_ ?_
    · simp only [tOrM_ap, tNotM_ap, toT_ap, eB_ap, aCons_ap, eVar, List.getElem?_cons_zero, List.getElem?_cons_succ, bind_ok, eC_ap, aNil_ap, c0, c1, i3, i4, asB_bl, Bool.not_true, Bool.false_eq_true, if_false, eOp_ap]
    obtain ⟨ls', S', e, ⟨x3, hls⟩, hST⟩ := forGo_inv (chk := always) (g := gN 3) (body := (sIf (tNotM (toT (eCall f_law_whole [] (aCons (eVar 3) aNil))))
  (sRet (eC (.bl false)))
  sNil)) (fun _ ls T' => (∃ x3, ls = [some A, some B, some C, x3]) ∧ T' = T) (intsL ops) 0 [some A, some B, some C, none] T (by
        rintro j x ls T' hx ⟨⟨x3, rfl⟩, rfl⟩
        unfold intsL at hx
        rw [List.getElem?_map] at hx
        obtain ⟨z, _, rfl⟩ := Option.map_eq_some_iff.mp hx
        refine ⟨rfl, _, rfl, [some A, some B, some C, some (.int z)], _, .inl ?_, ⟨_, rfl⟩, rfl⟩
        rfl) (fun _ _ _ => rfl) ⟨⟨_, rfl⟩, rfl⟩
    rw [hls, hST] at e
    refine q_nx (sFor_nx (t := ⟨intsL ops, always⟩) (by unfold iSeq; simp only [eOp_ap, eVar, List.getElem?_cons_zero, List.getElem?_cons_succ, bind_ok, eC_ap, c1]) e) ?_
    rw [sRet_ap]
    unfold eAndM
    have f1 : eOp gEq (eOp gIx (eVar 2) (eC (.int 0))) (eOp gIx (eOp gIx (eVar 1) (eC (.int 0))) (eC (.int 0))) [some A, some B, some C, x3] T = .ok (.bl true) T := by
      simp only [eOp_ap, eVar, List.getElem?_cons_zero, List.getElem?_cons_succ, bind_ok, eC_ap, c0, b0, d0, gEq_str, decide_true]
    have f2 : eOp gEq (eB fList (aCons (eOp gIx (eVar 2) (eC (.int 1))) aNil)) (eOp gIx (eOp gIx (eVar 1) (eC (.int 0))) (eC (.int 1))) [some A, some B, some C, x3] T = .ok (.bl true) (T ++ [.lst (intsL ops)]) := by
      have hd : ∀ {m : Nat} {U : Sto}, U[m]? = some (.lst (intsL ops)) → datP U 60 (.loc m) = some (.list (ops.map .int)) := by
        intro m U hm
        unfold datP
        simp only [seq_of_get hm, optInts, Option.map_some]
      simp only [eOp_ap, eB_ap, aCons_ap, eVar, List.getElem?_cons_zero, List.getElem?_cons_succ, bind_ok, eC_ap, c1, aNil_ap, fList, b0, d1]
      exact eqM_self rfl (hd get_app) (hd (get_old hn))
    rw [f1]
    simp only [bind_ok]
    rw [f2]
    rfl
end
theorem cell_nn {fr : List (List Int)} {pg : List Pg} {b : Nat} (hf : Fr fr) : 0 ≤ cell fr pg b := by
  unfold cell
  by_cases h : (pgAt pg b).f < fr.length
  · have hm := hf.2 _ (List.mem_of_getElem? (getD_some h))
    by_cases h2 : b % 16 < (fr.getD (pgAt pg b).f []).length
    · exact (hm.2 _ (getD_mem h2)).1
    · rw [List.getD_eq_getElem?_getD, List.getElem?_eq_none (by omega)]; exact Int.le_refl 0
  · have : fr.getD (pgAt pg b).f [] = [] := by rw [List.getD_eq_getElem?_getD, List.getElem?_eq_none (by omega)]; rfl
    rw [this]; exact Int.le_refl 0
theorem Fr.two {fr : List (List Int)} (h : Fr fr) : Fr2 fr := ⟨h.1, fun r hr => (h.2 r hr).1⟩
theorem fetches_ok {S : Sto} {L m a np lc c lp : Nat} {fr : List (List Int)} {pg : List Pg} {sa sb : Option Nat} (h : Mach S L m a np fr pg sa sb) (hl : LawAt S lc c lp fr pg) (hf : Fr fr) (hg : PgOk pg) :
    ∃ X, f_law_fetches [.loc m, .loc lc, .loc lp] S = .ok (.bl true) (S ++ X) := by
  obtain ⟨X1, e1⟩ := key_ok h hf.two
  obtain ⟨fs, me1, me2⟩ := h.meth (f := n_key) (by decide +kernel)
  obtain ⟨ls', T, e, ⟨x4, rfl⟩, ⟨Y, rfl⟩⟩ := forGo_inv (chk := always) (g := gN 4) (body := (sIf (tNotM (toT (eCall f_law_same [] (aCons (eCall f_fetch_at [] (aCons (eVar 0) (aCons (eVar 4) aNil))) (aCons (eCall f_law_due [] (aCons (eVar 1) (aCons (eVar 2) (aCons (eVar 4) aNil)))) aNil)))))
  (sRet (eC (.bl false)))
  sNil)) (fun _ ls T => (∃ x4, ls = [some (.loc m), some (.loc lc), some (.loc lp), some (keyV fr pg sa sb), x4]) ∧ ∃ Y, T = S ++ Y) (rngL 0 (64 : Nat)) 0 [some (.loc m), some (.loc lc), some (.loc lp), some (keyV fr pg sa sb), none] (S ++ X1) (by
      rintro j x ls T hx ⟨⟨x4, rfl⟩, ⟨Y, rfl⟩⟩
      obtain ⟨hj, rfl⟩ := rng_get hx
      obtain ⟨w, Z1, f1, W⟩ := fetch_ok (h.old (X := Y)) hf.two hg hj (cell_nn hf)
      obtain ⟨w', Z2, f2, sm⟩ := due_ok ((hl.old (X := Y)).old (X := Z1)) hf.two hg hj W
      obtain ⟨Z3, f3⟩ := same_ok sm
      refine ⟨rfl, _, rfl, [some (.loc m), some (.loc lc), some (.loc lp), some (keyV fr pg sa sb), some (.int j)], S ++ Y ++ Z1 ++ Z2 ++ Z3, .inl ?_, ⟨_, rfl⟩, ⟨Y ++ Z1 ++ Z2 ++ Z3, by simp⟩⟩
      rw [sIf_ap, tNotM_ap, toT_ap, q_call (ws := [w, w']) (S1 := S ++ Y ++ Z1 ++ Z2) (by rw [aCons_ap, q_call (ws := [.loc m, .int j]) rfl f1, bind_ok, aCons_ap, q_call (ws := [.loc lc, .loc lp, .int j]) rfl f2]; rfl) f3]
      rfl) (fun _ _ _ => rfl) ⟨⟨_, rfl⟩, ⟨X1, rfl⟩⟩
  obtain ⟨X2, e2⟩ := key_ok (h.old (X := Y)) hf.two
  obtain ⟨fs2, me3, me4⟩ := (h.old (X := Y)).meth (f := n_key) (by decide +kernel)
  obtain ⟨d, hd⟩ := key_dat (S := S ++ Y ++ X2) (fr := fr) (pg := pg) (sa := sa) (sb := sb)
  refine ⟨Y ++ X2, fnOf_rt rfl ?_⟩
  show m_law_fetches [some (.loc m), some (.loc lc), some (.loc lp), none, none] S = _
  unfold m_law_fetches
  refine q_set (eMeth_ok rfl me1 me2 rfl e1) ?_
  refine q_nx (sFor_nx (iR1_ok (n := 64) rfl (by decide)) e) ?_
  rw [sRet_ap, eOp_ap, eMeth_ok rfl me3 me4 rfl e2, bind_ok, eVar_of rfl, bind_ok]
  show (eqM false (keyV fr pg sa sb) (keyV fr pg sa sb) (S ++ Y ++ X2)).then _ _ = _
  rw [eqM_self rfl hd hd, List.append_assoc]
  rfl
end K08

set_option Elab.async false
set_option linter.all false
set_option maxRecDepth 100000
set_option maxHeartbeats 1000000
namespace K08
open GL PySem
theorem frAt_new {S : Sto} {fr : List (List Int)} : FrAt (S ++ .lst (locsL (S.length + 1) fr.length) :: fr.map (fun r => .lst (intsL r))) S.length (S.length + 1) fr := by
  refine ⟨get_at (k := 0), fun i r hr => ?_⟩
  rw [Nat.add_assoc, get_at, show 1 + i = i + 1 from Nat.add_comm 1 i, List.getElem?_cons_succ, List.getElem?_map, hr]; rfl
/-! ### the pages -/
def pgOf (ds : List Int) (i : Nat) : Pg := ⟨((i + pickV ds (4 * i) 4) % 4).toNat, (7 - pickV ds (2 + 4 * i) 8).toNat⟩
def pgsOf (ds : List Int) : List Pg := (List.range 4).map (pgOf ds)
theorem pgsOf_ok {ds : List Int} : PgOk (pgsOf ds) := by
  refine ⟨by simp [pgsOf], fun p hp => ?_⟩
  obtain ⟨i, _, rfl⟩ := List.mem_map.mp hp
  have h1 := pickV_range (ds := ds) (i := 2 + 4 * i) (l := 8) (by decide)
  constructor
  · show ((i + pickV ds (4 * i) 4) % 4).toNat < 4
    omega
  · show (7 - pickV ds (2 + 4 * i) 8).toNat < 8
    omega
theorem pages_ok {S : Sto} {r : Nat} {ds : List Int} (sd : seqAt S r = some (intsL ds)) : f_law_pages [.loc r] S = .ok (.loc S.length) (S ++ [.lst (pagesL (pgsOf ds))]) := by
  refine fnOf_rt rfl ?_
  show m_law_pages [some (.loc r), none] S = _
  unfold m_law_pages
  rw [sRet_ap]
  have := eLc_rng (v := 1) (n := 4) (S := S) (S1 := S) (ls := [some (.loc r), none]) (m := eC (.int 4)) (tt := tYesM)
    (te := eTup (aCons (eOp gMod (eB fInt (aCons (eOp gAdd (eVar 1) (eCall f_law_pick [] (aCons (eVar 0) (aCons (eOp gMul (eC (.int 4)) (eVar 1)) (aCons (eC (.int 4)) aNil))))) aNil)) (eC (.int 4))) (aCons (eOp gSub (eC (.int 7)) (eCall f_law_pick [] (aCons (eVar 0) (aCons (eOp gAdd (eC (.int 2)) (eOp gMul (eC (.int 4)) (eVar 1))) (aCons (eC (.int 8)) aNil))))) aNil)))
    (fun _ => true) (fun i => pgV (pgOf ds i)) rfl (by decide) (by simp) (fun i hi acc => ⟨rfl, fun _ => by
      have g1 : gMul (.int 4) (.int (i : Int)) (S ++ [.lst acc]) = .ok (.int (4 * i)) (S ++ [.lst acc]) := gMul_int (.inl rfl)
      have p1 : f_law_pick [.loc r, .int (4 * (i : Int)), .int 4] (S ++ [.lst acc]) = .ok (.int (pickV ds (4 * i) 4)) (S ++ [.lst acc]) := by
        rw [show (4 * (i : Int)) = ((4 * i : Nat) : Int) by omega]
        exact pick_ok (seq_old sd) (by decide)
      have p2 : f_law_pick [.loc r, .int (2 + 4 * (i : Int)), .int 8] (S ++ [.lst acc]) = .ok (.int (pickV ds (2 + 4 * i) 8)) (S ++ [.lst acc]) := by
        rw [show (2 + 4 * (i : Int)) = ((2 + 4 * i : Nat) : Int) by omega]
        exact pick_ok (seq_old sd) (by decide)
      have g2 : ∀ z, gMod (.int z) (.int 4) (S ++ [.lst acc]) = .ok (.int (z % 4)) (S ++ [.lst acc]) := fun z => gMod_int (by decide)
      have h1 := pickV_range (ds := ds) (i := 2 + 4 * i) (l := 8) (by decide)
      have hz : (2 : Nat) ≤ lim := by decide
      unfold eTup
      simp only [aCons_ap, eOp_ap, eB_ap, eCall_ap, eVar, List.set_cons_zero, List.set_cons_succ, List.getElem?_cons_zero, List.getElem?_cons_succ, bind_ok, eC_ap, g1, aNil_ap, List.append_nil, p1, gAdd_int, fInt_int, g2, p2, gSub_int]
      refine (if_pos hz).trans ?_
      unfold pgV pgOf
      have a1 : (((((i : Int) + pickV ds (4 * i) 4) % 4).toNat : Nat) : Int) = ((i : Int) + pickV ds (4 * i) 4) % 4 := Int.toNat_of_nonneg (Int.emod_nonneg _ (by decide))
      have a2 : (((7 - pickV ds (2 + 4 * i) 8).toNat : Nat) : Int) = 7 - pickV ds (2 + 4 * i) 8 := Int.toNat_of_nonneg (by omega)
      simp only [a1, a2]
      rfl⟩)
  rw [List.filter_eq_self.mpr fun _ _ => rfl] at this
  rw [this, then_ok]
  unfold pagesL pgsOf
  rw [List.map_map]
  rfl
/-! ### the cells -/
theorem cells_ok {S : Sto} {r : Nat} {ds : List Int} (sd : seqAt S r = some (intsL ds)) : ∃ fr, f_law_cells [.loc r] S = .ok (.loc S.length) (S ++ .lst (locsL (S.length + 1) fr.length) :: fr.map (fun r => .lst (intsL r))) ∧ Fr fr := by
  have hlim := limE
  have inner : ∀ (j : Nat) (U : Sto) (x4 x5 : Option PV), seqAt U r = some (intsL ds) → ∃ x4' x5' row, sFor (iR1 (eC (.int 16))) (gN 4)
      (sSeq (sSet 5 (eC (.int 256)))
      (sSeq (sIf (toT (eOp gEq (eOp gMod (eB fInt (aCons (eOp gAdd (eVar 2) (eVar 4)) aNil)) (eC (.int 2))) (eC (.int 0))))
      (sSet 5 (eC (.int 19)))
      sNil)
      (sExpr (eMt kList mAppend (eVar 3) (aCons (eCall f_law_pick [] (aCons (eVar 0) (aCons (eOp gAdd (eC (.int 16)) (eOp gMul (eC (.int 2)) (eOp gAdd (eOp gMul (eC (.int 16)) (eVar 2)) (eVar 4)))) (aCons (eVar 5) aNil)))) aNil)))))
      [some (.loc r), some (.loc S.length), some (.int j), some (.loc U.length), x4, x5] (U ++ [.lst []]) = .nx [some (.loc r), some (.loc S.length), some (.int j), some (.loc U.length), x4', x5'] (U ++ .lst (intsL row) :: []) ∧ row.length = 16 ∧ ∀ x ∈ row, 0 ≤ x ∧ x < 256 := by
    intro j U x4 x5 su
    obtain ⟨ls', T, e, ⟨row, ⟨y4, y5, rfl⟩, rfl, hlen, hrow⟩⟩ := forGo_inv (chk := always) (g := gN 4) (body := (sSeq (sSet 5 (eC (.int 256)))
      (sSeq (sIf (toT (eOp gEq (eOp gMod (eB fInt (aCons (eOp gAdd (eVar 2) (eVar 4)) aNil)) (eC (.int 2))) (eC (.int 0))))
      (sSet 5 (eC (.int 19)))
      sNil)
      (sExpr (eMt kList mAppend (eVar 3) (aCons (eCall f_law_pick [] (aCons (eVar 0) (aCons (eOp gAdd (eC (.int 16)) (eOp gMul (eC (.int 2)) (eOp gAdd (eOp gMul (eC (.int 16)) (eVar 2)) (eVar 4)))) (aCons (eVar 5) aNil)))) aNil))))))
      (fun i ls T => ∃ row : List Int, (∃ y4 y5, ls = [some (.loc r), some (.loc S.length), some (.int j), some (.loc U.length), y4, y5]) ∧ T = U ++ .lst (intsL row) :: [] ∧ row.length = i ∧ ∀ x ∈ row, 0 ≤ x ∧ x < 256) (rngL 0 (16 : Nat)) 0 [some (.loc r), some (.loc S.length), some (.int j), some (.loc U.length), x4, x5] (U ++ [.lst []]) (by
        rintro i x ls T hx ⟨row, ⟨y4, y5, rfl⟩, rfl, hlen, hrow⟩
        obtain ⟨hi, rfl⟩ := rng_get hx
        obtain ⟨T, eT⟩ : ∃ T : Sto, T = U ++ OB.lst (intsL row) :: [] := ⟨_, rfl⟩
        have sT : seqAt T r = some (intsL ds) := by rw [eT]; exact seq_old su
        obtain ⟨l, hl0, hl1, el⟩ : ∃ l : Int, 0 < l ∧ l ≤ 256 ∧ sIf (toT (eOp gEq (eOp gMod (eB fInt (aCons (eOp gAdd (eVar 2) (eVar 4)) aNil)) (eC (.int 2))) (eC (.int 0)))) (sSet 5 (eC (.int 19))) sNil
            [some (.loc r), some (.loc S.length), some (.int j), some (.loc U.length), some (.int i), some (.int 256)] T = .nx [some (.loc r), some (.loc S.length), some (.int j), some (.loc U.length), some (.int i), some (.int l)] T := by
          have t : toT (eOp gEq (eOp gMod (eB fInt (aCons (eOp gAdd (eVar 2) (eVar 4)) aNil)) (eC (.int 2))) (eC (.int 0))) [some (.loc r), some (.loc S.length), some (.int j), some (.loc U.length), some (.int i), some (.int 256)] T = .ok (decide (((j : Int) + i) % 2 = 0)) T := by
            simp only [toT_ap, eOp_ap, eB_ap, aCons_ap, eVar, List.getElem?_cons_zero, List.getElem?_cons_succ, bind_ok, gAdd_int, aNil_ap, fInt_int, eC_ap]
            rw [gMod_int (by decide), bind_ok, gEq_int, bind_ok, asB_bl]
          by_cases q : ((j : Int) + i) % 2 = 0
          · exact ⟨19, by decide, by decide, by rw [sIf_ap, t, then_ok, if_pos (decide_eq_true q)]; rfl⟩
          · exact ⟨256, by decide, by decide, by rw [sIf_ap, t, then_ok, if_neg (by simpa using q)]; rfl⟩
        have m1 : gMul (.int 16) (.int (j : Int)) T = .ok (.int (16 * j)) T := gMul_int (.inl rfl)
        have m2 : ∀ z, gMul (.int 2) (.int z) T = .ok (.int (2 * z)) T := fun z => gMul_int (.inl rfl)
        have ep : f_law_pick [.loc r, .int (16 + 2 * (16 * (j : Int) + i)), .int l] T = .ok (.int (pickV ds (16 + 2 * (16 * j + i)) l)) T := by
          rw [show (16 + 2 * (16 * (j : Int) + i)) = ((16 + 2 * (16 * j + i) : Nat) : Int) by omega]
          exact pick_ok sT hl0
        have ea : eCall f_law_pick [] (aCons (eVar 0) (aCons (eOp gAdd (eC (.int 16)) (eOp gMul (eC (.int 2)) (eOp gAdd (eOp gMul (eC (.int 16)) (eVar 2)) (eVar 4)))) (aCons (eVar 5) aNil))) [some (.loc r), some (.loc S.length), some (.int j), some (.loc U.length), some (.int i), some (.int l)] T = .ok (.int (pickV ds (16 + 2 * (16 * j + i)) l)) T := by
          refine q_call (ws := [.loc r, .int (16 + 2 * (16 * (j : Int) + i)), .int l]) (S1 := T) ?_ ep
          simp only [aCons_ap, eOp_ap, eVar, List.getElem?_cons_zero, List.getElem?_cons_succ, bind_ok, eC_ap, m1, gAdd_int, m2, aNil_ap]
        have hp := pickV_range (ds := ds) (i := 16 + 2 * (16 * j + i)) hl0
        rw [Nat.zero_add] at hlen ⊢
        refine ⟨rfl, _, rfl, [some (.loc r), some (.loc S.length), some (.int j), some (.loc U.length), some (.int i), some (.int l)], U ++ .lst (intsL (row ++ [pickV ds (16 + 2 * (16 * j + i)) l])) :: [], .inl ?_, row ++ [pickV ds (16 + 2 * (16 * j + i)) l], ⟨_, _, rfl⟩, rfl, by rw [List.length_append, hlen]; rfl, fun x hx => ?_⟩
        · rw [← eT]
          refine q_set rfl ?_
          refine q_nx el ?_
          rw [eT] at ea ⊢
          refine (app_ok (B' := []) rfl ea (by rw [intsL_len]; omega)).trans ?_
          rw [intsL_app]; rfl
        · rcases List.mem_append.mp hx with h | h
          · exact hrow x h
          · rw [List.mem_singleton] at h
            subst h
            exact ⟨hp.1, by omega⟩) (fun _ _ _ => rfl) ⟨[], ⟨_, _, rfl⟩, rfl, rfl, fun x hx => by cases hx⟩
    have hrl : 0 + (rngL 0 ((16 : Nat) : Int)).length = 16 := by decide
    rw [hrl] at hlen
    exact ⟨y4, y5, row, sFor_nx (iR1_ok (n := 16) rfl (by decide)) e, hlen, hrow⟩
  obtain ⟨ls', T, e, ⟨fr, ⟨y2, y3, y4, y5, rfl⟩, rfl, hlen, hfr⟩⟩ := forGo_inv (chk := always) (g := gN 2) (body := (sSeq (sSet 3 (eLst aNil))
      (sSeq (sFor (iR1 (eC (.int 16))) (gN 4)
      (sSeq (sSet 5 (eC (.int 256)))
      (sSeq (sIf (toT (eOp gEq (eOp gMod (eB fInt (aCons (eOp gAdd (eVar 2) (eVar 4)) aNil)) (eC (.int 2))) (eC (.int 0))))
      (sSet 5 (eC (.int 19)))
      sNil)
      (sExpr (eMt kList mAppend (eVar 3) (aCons (eCall f_law_pick [] (aCons (eVar 0) (aCons (eOp gAdd (eC (.int 16)) (eOp gMul (eC (.int 2)) (eOp gAdd (eOp gMul (eC (.int 16)) (eVar 2)) (eVar 4)))) (aCons (eVar 5) aNil)))) aNil))))))
      (sExpr (eMt kList mAppend (eVar 1) (aCons (eVar 3) aNil))))))
    (fun i ls T => ∃ fr : List (List Int), (∃ y2 y3 y4 y5, ls = [some (.loc r), some (.loc S.length), y2, y3, y4, y5]) ∧ T = S ++ .lst (locsL (S.length + 1) fr.length) :: fr.map (fun r => .lst (intsL r)) ∧ fr.length = i ∧ ∀ r ∈ fr, r.length = 16 ∧ ∀ x ∈ r, 0 ≤ x ∧ x < 256) (rngL 0 (4 : Nat)) 0 [some (.loc r), some (.loc S.length), none, none, none, none] (S ++ [.lst []]) (by
      rintro j x ls T hx ⟨fr, ⟨y2, y3, y4, y5, rfl⟩, rfl, hlen, hfr⟩
      obtain ⟨hj, rfl⟩ := rng_get hx
      rw [Nat.zero_add] at hlen ⊢
      obtain ⟨z4, z5, row, e, h16, hb⟩ := inner j (S ++ .lst (locsL (S.length + 1) fr.length) :: fr.map (fun r => .lst (intsL r))) y4 y5 (seq_old sd)
      have hUl : (S ++ OB.lst (locsL (S.length + 1) fr.length) :: fr.map (fun r => OB.lst (intsL r))).length = S.length + 1 + fr.length := by simp; omega
      refine ⟨rfl, _, rfl, [some (.loc r), some (.loc S.length), some (.int j), some (.loc (S.length + 1 + fr.length)), z4, z5], S ++ .lst (locsL (S.length + 1) (fr ++ [row]).length) :: (fr ++ [row]).map (fun r => .lst (intsL r)), .inl ?_, fr ++ [row], ⟨_, _, _, _, rfl⟩, rfl, by rw [List.length_append, hlen]; rfl, fun q hq => ?_⟩
      · refine q_set empty_ok ?_
        refine q_nx e ?_
        rw [hUl]
        have ec : S ++ OB.lst (locsL (S.length + 1) fr.length) :: fr.map (fun r => OB.lst (intsL r)) ++ OB.lst (intsL row) :: [] = S ++ OB.lst (locsL (S.length + 1) fr.length) :: (fr ++ [row]).map (fun r => OB.lst (intsL r)) := by simp
        rw [ec]
        refine (app_ok (w := .loc (S.length + 1 + fr.length)) (B' := (fr ++ [row]).map (fun r => OB.lst (intsL r))) rfl rfl (by rw [locsL_len]; omega)).trans ?_
        rw [← locsL_succ, List.length_append]; rfl
      · rcases List.mem_append.mp hq with h | h
        · exact hfr q h
        · rw [List.mem_singleton] at h
          subst h
          exact ⟨h16, hb⟩) (fun _ _ _ => rfl) ⟨[], ⟨_, _, _, _, rfl⟩, by simp [locsL], rfl, fun q hq => by cases hq⟩
  have hrl : 0 + (rngL 0 ((4 : Nat) : Int)).length = 4 := by decide
  rw [hrl] at hlen
  refine ⟨fr, fnOf_rt rfl ?_, hlen, hfr⟩
  show m_law_cells [some (.loc r), none, none, none, none, none] S = _
  unfold m_law_cells
  refine q_set empty_ok ?_
  refine q_nx (sFor_nx (iR1_ok (n := 4) rfl (by decide)) e) ?_
  rfl
end K08

set_option Elab.async false
set_option linter.all false
set_option maxRecDepth 100000
set_option maxHeartbeats 1000000
namespace K08
open GL PySem
theorem LawAt.set {T : Sto} {lc c lp i : Nat} {xs ys : List PV} {fr : List (List Int)} {pg : List Pg} (h : LawAt T lc c lp fr pg) (h4 : fr.length = 4) (hi : lc < i ∧ c + 4 ≤ i ∧ lp < i) : LawAt (T.set i (.lst ys)) lc c lp fr pg :=
  ⟨⟨by rw [List.getElem?_set_ne (by omega)]; exact h.fr.1, fun j r hr => by
    have := (List.getElem?_eq_some_iff.mp hr).1
    rw [List.getElem?_set_ne (by omega)]; exact h.fr.2 j r hr⟩, by rw [List.getElem?_set_ne (by omega)]; exact h.pg⟩
theorem sSub_ok {S S1 : Sto} {ls : Ls} {o i e : ME} {w : PV} {n k : Nat} {xs : List PV} (he : e ls S = .ok w S1) (ho : o ls S1 = .ok (.loc n) S1) (hi : i ls S1 = .ok (.int (k : Int)) S1) (hn : S1[n]? = some (.lst xs)) (hk : k < xs.length) :
    sSub o i e ls S = .nx ls (S1.set n (.lst (xs.set k w))) := by
  unfold sSub
  rw [he, then_ok, ho, then_ok, hi, then_ok]
  dsimp only
  rw [lstAt_of hn]
  dsimp only
  have : L2.ixN xs.length (k : Int) = some k := by
    unfold L2.ixN
    rw [if_pos (by omega), if_pos (by omega)]; simp
  rw [this]
theorem intsL_set {r : List Int} {k : Nat} {v : Int} : (intsL r).set k (.int v) = intsL (r.set k v) := by unfold intsL; rw [List.map_set]
theorem pagesL_set {pg : List Pg} {k : Nat} {p : Pg} : (pagesL pg).set k (pgV p) = pagesL (pg.set k p) := by unfold pagesL; rw [List.map_set]
theorem fr_wr {fr : List (List Int)} {f o : Nat} {v : Int} (hf : Fr fr) (h4 : f < 4) (hv : 0 ≤ v ∧ v < 256) : Fr (wr fr f o v) := by
  refine ⟨(fr2_wr hf.two h4).1, fun r hr => ?_⟩
  refine ⟨(fr2_wr hf.two h4).2 r hr, fun x hx => ?_⟩
  rcases List.mem_or_eq_of_mem_set hr with h | rfl
  · exact (hf.2 r h).2 x hx
  · rcases List.mem_or_eq_of_mem_set hx with h | rfl
    · exact (hf.2 _ (List.mem_of_getElem? (getD_some (i := f) (by rw [hf.1]; exact h4)))).2 x h
    · exact hv
theorem pg_set {pg : List Pg} {k : Nat} {p : Pg} (h : PgOk pg) (hp : p.f < 4 ∧ p.r < 8) : PgOk (pg.set k p) := ⟨by rw [List.length_set]; exact h.1, fun q hq => by
  rcases List.mem_or_eq_of_mem_set hq with h1 | rfl
  · exact h.2 q h1
  · exact hp⟩
def stAt (k : Nat) : Option Nat × Option Nat := match k with
  | 0 => (some 0, none)
  | 1 => (none, none)
  | _ => (some 63, some 0)
theorem stOk_none : StOk none := fun x h => by cases h
theorem stOk_some {y : Nat} (h : y < 64) : StOk (some y) := fun x e => by cases e; exact h
theorem stAt_ok (k : Nat) : StOk (stAt k).1 ∧ StOk (stAt k).2 := by
  match k with
  | 0 => exact ⟨stOk_some (by decide), stOk_none⟩
  | 1 => exact ⟨stOk_none, stOk_none⟩
  | k + 2 => exact ⟨stOk_some (by decide), stOk_some (by decide)⟩
theorem pickN {S : Sto} {r i l : Nat} {ds : List Int} (sd : seqAt S r = some (intsL ds)) (hl : 0 < l) : ∃ v : Nat, v < l ∧ f_law_pick [.loc r, .int (i : Int), .int (l : Int)] S = .ok (.int (v : Int)) S ∧ (v : Int) = pickV ds i l := by
  have h := pickV_range (ds := ds) (i := i) (l := (l : Int)) (by omega)
  refine ⟨(pickV ds i l).toNat, by omega, ?_, by omega⟩
  rw [show (((pickV ds i l).toNat : Nat) : Int) = pickV ds i l by omega]
  exact pick_ok sd (by omega)
theorem copyL {S : Sto} {l a v w : Nat} {ls : Ls} {fr : List (List Int)} (h : FrAt S l a fr) (h4 : fr.length = 4) (hv : v < ls.length) (hw : ls[w]? = some (some (.loc l))) :
    eLc (iSeq (eVar w)) (gN v) tYesM (eB fList (aCons (eVar v) aNil)) [v] ls S = .ok (.loc S.length) (S ++ .lst (locsL (S.length + 1) fr.length) :: fr.map (fun r => .lst (intsL r))) := by
  have := copies_ok (v := v) (ls := ls) (t := ⟨locsL a fr.length, wkOf (.loc l) (locsL a fr.length)⟩) (it := iSeq (eVar w)) (S := S) (A := S) (rows := fr.map intsL)
    (iSeq_h (eVar_of hw) (.loc h.1)) hv (fun i acc Y => wk_ok (i := i) (.loc (get_old h.1))) (by rw [List.length_map, h4]; decide) (by simp) h.hld
  rw [List.length_map, List.map_map] at this
  exact this
theorem plain : ∀ ns : List Int, ns.length ≤ 63 → ∃ S, f_law [.loc 0] [.rol (ns.map .int)] = .ok (.bl true) S := by
  intro ns _
  obtain ⟨ds, e1, hd⟩ := row_ok (n := 0) (ns := ns) (most := 180) (S := [.rol (ns.map .int)]) rfl (by decide)
  obtain ⟨S0, hS0⟩ : ∃ S0 : Sto, S0 = [.rol (ns.map .int)] := ⟨_, rfl⟩
  rw [← hS0] at e1 ⊢
  have sd : seqAt (S0 ++ [.lst (intsL ds)]) S0.length = some (intsL ds) := seq_new
  have hr0 : S0.length < (S0 ++ [OB.lst (intsL ds)]).length := by simp
  generalize S0.length = r at e1 sd hr0
  generalize S0 ++ [OB.lst (intsL ds)] = Sa at e1 sd hr0
  -- pages, cells
  have e2 := pages_ok sd
  have hg := pgsOf_ok (ds := ds)
  generalize pgsOf ds = pg at e2 hg
  have hlp : (Sa ++ [OB.lst (pagesL pg)])[Sa.length]? = some (.lst (pagesL pg)) := get_app
  have sd2 := seq_old (X := [OB.lst (pagesL pg)]) sd
  have lpl : Sa.length < (Sa ++ [OB.lst (pagesL pg)]).length := lt_of_get hlp
  generalize Sa.length = lp at e2 hlp lpl hr0
  generalize Sa ++ [OB.lst (pagesL pg)] = Sb at e2 hlp sd2 lpl
  obtain ⟨fr, e3, hf⟩ := cells_ok sd2
  have hfr := frAt_new (S := Sb) (fr := fr)
  have hl3 : LawAt (Sb ++ OB.lst (locsL (Sb.length + 1) fr.length) :: fr.map (fun r => .lst (intsL r))) Sb.length (Sb.length + 1) lp fr pg := ⟨hfr, get_old hlp⟩
  have sd3 := seq_old (X := OB.lst (locsL (Sb.length + 1) fr.length) :: fr.map (fun r => .lst (intsL r))) sd2
  have hSc : (Sb ++ OB.lst (locsL (Sb.length + 1) fr.length) :: fr.map (fun r => OB.lst (intsL r))).length = Sb.length + 5 := by simp [hf.1]
  generalize Sb ++ OB.lst (locsL (Sb.length + 1) fr.length) :: fr.map (fun r => OB.lst (intsL r)) = Sc at e3 hfr hl3 sd3 hSc
  generalize Sb.length = lc at e3 hfr hl3 hSc lpl
  -- starts
  obtain ⟨k, hk, ek, _⟩ := pickN (i := 144) (l := 3) sd3 (by decide)
  obtain ⟨Sd, hSd⟩ : ∃ Sd : Sto, Sd = Sc ++ [OB.lst [.tup [.int 0, .non], .tup [.non, .non], .tup [.int 63, .int 0]]] := ⟨_, rfl⟩
  have e4 : eOp gIx (eLst (aCons (eTup (aCons (eC (.int 0)) (aCons (eC .non) aNil))) (aCons (eTup (aCons (eC .non) (aCons (eC .non) aNil))) (aCons (eTup (aCons (eC (.int 63)) (aCons (eC (.int 0)) aNil))) aNil)))) (eCall f_law_pick [] (aCons (eVar 1) (aCons (eC (.int 144)) (aCons (eC (.int 3)) aNil))))
      [some (.loc 0), some (.loc r), some (.loc lp), some (.loc lc), none, none, none, none, none, none, none, none, none] Sc = .ok (.tup (stsL (stAt k).1 (stAt k).2)) Sd := by
    have el : ∀ ls : Ls, eLst (aCons (eTup (aCons (eC (.int 0)) (aCons (eC .non) aNil))) (aCons (eTup (aCons (eC .non) (aCons (eC .non) aNil))) (aCons (eTup (aCons (eC (.int 63)) (aCons (eC (.int 0)) aNil))) aNil))) ls Sc = .ok (.loc Sc.length) Sd := fun ls => by rw [hSd]; rfl
    obtain ⟨k', hk', ek', hke⟩ := pickN (i := 144) (l := 3) (show seqAt Sd r = some (intsL ds) by rw [hSd]; exact seq_old sd3) (by decide)
    rw [eOp_ap, el, bind_ok, q_call (ws := [.loc r, .int 144, .int 3]) rfl ek', bind_ok]
    have hkk : k' = k := by
      obtain ⟨_, _, _, h⟩ := pickN (i := 144) (l := 3) sd3 (by decide)
      omega
    subst hkk
    refine gIx_loc (seq_of_get (by rw [hSd]; exact get_app)) ?_
    match k', hk' with
    | 0, _ => rfl
    | 1, _ => rfl
    | 2, _ => rfl
  obtain ⟨hsa, hsb⟩ := stAt_ok k
  generalize (stAt k).1 = sa at e4 hsa
  generalize (stAt k).2 = sb at e4 hsb
  have hl4 : LawAt Sd lc (lc + 1) lp fr pg := by rw [hSd]; exact hl3.old
  have sd4 : seqAt Sd r = some (intsL ds) := by rw [hSd]; exact seq_old sd3
  have hSdl : Sd.length = lc + 6 := by rw [hSd, List.length_append, hSc]; rfl
  -- the machine
  have e5 := copyL (v := 6) (w := 3) (ls := [some (.loc 0), some (.loc r), some (.loc lp), some (.loc lc), some (.tup (stsL sa sb)), none, none, none, none, none, none, none, none]) hl4.fr hf.1 (by simp) rfl
  have hc5 := frAt_new (S := Sd) (fr := fr)
  have hE1 : (Sd ++ OB.lst (locsL (Sd.length + 1) fr.length) :: fr.map (fun r => OB.lst (intsL r))).length = lc + 11 := by simp [hf.1, hSdl]
  have hl5 := hl4.old (X := OB.lst (locsL (Sd.length + 1) fr.length) :: fr.map (fun r => OB.lst (intsL r)))
  have sd5 := seq_old (X := OB.lst (locsL (Sd.length + 1) fr.length) :: fr.map (fun r => OB.lst (intsL r))) sd4
  generalize Sd ++ OB.lst (locsL (Sd.length + 1) fr.length) :: fr.map (fun r => OB.lst (intsL r)) = Se at e5 hc5 hE1 hl5 sd5
  have hlp6 : (Se ++ [OB.lst (pagesL pg)])[Se.length]? = some (.lst (pagesL pg)) := get_app
  have hE2 : (Se ++ [OB.lst (pagesL pg)]).length = lc + 12 := by rw [List.length_append, hE1]; rfl
  have ef6 : fList [.loc lp] Se = .ok (.loc Se.length) (Se ++ [OB.lst (pagesL pg)]) := fList_h (.loc hl5.pg)
  have hl6 := hl5.old (X := [OB.lst (pagesL pg)])
  have sd6 := seq_old (X := [OB.lst (pagesL pg)]) sd5
  have hc6 := hc5.old (X := [OB.lst (pagesL pg)])
  have ea : (aCons (eLc (iSeq (eVar 3)) (gN 6) tYesM (eB fList (aCons (eVar 6) aNil)) [6]) (aCons (eB fList (aCons (eVar 2) aNil)) (aCons (eVar 4) aNil))) [some (.loc 0), some (.loc r), some (.loc lp), some (.loc lc), some (.tup (stsL sa sb)), none, none, none, none, none, none, none, none] Sd = .ok [.loc Sd.length, .loc Se.length, .tup (stsL sa sb)] (Se ++ [OB.lst (pagesL pg)]) := by
    rw [aCons_ap, e5, bind_ok, aCons_ap, eB_ap, aCons_ap, eVar_of rfl]
    simp only [bind_ok, aNil_ap, ef6]
    rfl
  generalize Se ++ [OB.lst (pagesL pg)] = Sf at hlp6 hE2 ef6 hl6 sd6 hc6 ea
  obtain ⟨X, eg⟩ := guest_ok hc6 hf hlp6 hg hsa hsb
  have hgm : (Sf ++ OB.ins n_Guest (guestF fr pg sa sb) :: X)[Sf.length]? = some (.ins n_Guest (guestF fr pg sa sb)) := get_mid
  have e7 := eMake_ok (C := n_Guest) (d := [(.tup [(.int 60), (.int 60)]), (.tup [])]) ea eg
  have hl7 := hl6.old (X := OB.ins n_Guest (guestF fr pg sa sb) :: X)
  have sd7 := seq_old (X := OB.ins n_Guest (guestF fr pg sa sb) :: X) sd6
  have hE3 : lc + 13 ≤ (Sf ++ OB.ins n_Guest (guestF fr pg sa sb) :: X).length := by rw [List.length_append, hE2, List.length_cons]; omega
  generalize Sf ++ OB.ins n_Guest (guestF fr pg sa sb) :: X = Sg at eg hgm e7 hl7 sd7 hE3
  obtain ⟨X2, em, hM0⟩ := mach_init hgm hf
  have e8 := eMake_ok (C := n_Machine) (d := []) (args := aCons (eMake n_Guest f_Guest_init [(.tup [(.int 60), (.int 60)]), (.tup [])] (aCons (eLc (iSeq (eVar 3)) (gN 6) tYesM (eB fList (aCons (eVar 6) aNil)) [6]) (aCons (eB fList (aCons (eVar 2) aNil)) (aCons (eVar 4) aNil)))) aNil) (ls := [some (.loc 0), some (.loc r), some (.loc lp), some (.loc lc), some (.tup (stsL sa sb)), none, none, none, none, none, none, none, none]) (S := Sd) (ws := [.loc Sf.length]) (S1 := Sg) (by rw [aCons_ap, e7]; rfl) em
  have hM : Mach (Sg ++ X2) Sg.length Sg.length (Sg.length + 2) (Sg.length + 6) fr pg sa sb := ⟨_, _, _, _, _, _, _, hM0⟩
  clear hM0
  have hl8 := hl7.old (X := X2)
  have sd8 := seq_old (X := X2) sd7
  generalize Sg ++ X2 = Sh at em e8 hM hl8 sd8
  generalize hmm : Sg.length = m at e8 hM hE3
  -- the first fetches
  obtain ⟨X3, f1⟩ := fetches_ok hM hl8 hf hg
  have hM9 := hM.old (X := X3)
  have hl9 := hl8.old (X := X3)
  have sd9 := seq_old (X := X3) sd8
  generalize Sh ++ X3 = Si at f1 hM9 hl9 sd9
  -- the twin
  obtain ⟨X4, a2, np2, e9, hT⟩ := copy_ok hM9 hf
  have hM10 := hM9.old (X := X4)
  have hl10 := hl9.old (X := X4)
  have sd10 := seq_old (X := X4) sd9
  have hSi : m < Si.length := by
    obtain ⟨g, nf, nq, q0, q1, r0, r1, M⟩ := hM9
    exact lt_of_get M.me
  have hrows : m + 2 + 4 ≤ Si.length ∧ m + 6 < Si.length := by
    obtain ⟨g, nf, nq, q0, q1, r0, r1, M⟩ := hM9
    have := lt_of_get (M.fr.2 3 _ (getD_some (by rw [hf.1]; decide)))
    have := lt_of_get M.pg
    omega
  obtain ⟨fs, me1, me2⟩ := hM9.meth (f := n_copy) (by decide +kernel)
  have e10 : eMeth n_Machine n_copy f_Machine_copy [] (eVar 5) aNil [some (.loc 0), some (.loc r), some (.loc lp), some (.loc lc), some (.tup (stsL sa sb)), some (.loc m), none, none, none, none, none, none, none] Si = .ok (.loc Si.length) (Si ++ X4) := eMeth_ok rfl me1 me2 rfl e9
  generalize Si ++ X4 = Sj at e9 hT hM10 hl10 sd10 e10
  generalize hss : Si.length = tw at e9 hT hSi hrows e10
  -- the change
  obtain ⟨f, hfl, pf, _⟩ := pickN (i := 150) (l := 4) sd10 (by decide)
  obtain ⟨o, hol, po, _⟩ := pickN (i := 152) (l := 16) sd10 (by decide)
  obtain ⟨p, hpl, pp, _⟩ := pickN (i := 154) (l := 4) sd10 (by decide)
  obtain ⟨v, hvl, pv, hv⟩ := pickN (i := 156) (l := 256) sd10 (by decide)
  have hr16 : o < (intsL (fr.getD f [])).length := by
    rw [intsL_len, hf.two.2 _ (List.mem_of_getElem? (getD_some (fr := fr) (i := f) (by rw [hf.1]; exact hfl)))]; exact hol
  have row10 : Sj[m + 2 + f]? = some (.lst (intsL (fr.getD f []))) ∧ (∃ nf, eFld tab n_frames (eVar 5) [some (.loc 0), some (.loc r), some (.loc lp), some (.loc lc), some (.tup (stsL sa sb)), some (.loc m), none, some (.loc tw), some (.int f), some (.int o), some (.int p), none, none] Sj = .ok (.loc nf) Sj ∧ gIx (.loc nf) (.int (f : Int)) Sj = .ok (.loc (m + 2 + f)) Sj) := by
    obtain ⟨g, nf, nq, q0, q1, r0, r1, M⟩ := hM10
    exact ⟨M.fr.2 f _ (getD_some (by rw [hf.1]; exact hfl)), nf, eFld_ok rfl M.me (by decide +kernel) rfl, gIx_loc (seq_of_get M.fr.1) (locsL_get (by rw [hf.1]; exact hfl))⟩
  obtain ⟨rw1, nf, rw2, rw3⟩ := row10
  have s11 : sSub (eOp gIx (eFld tab n_frames (eVar 5)) (eVar 8)) (eVar 9) (eCall f_law_pick [] (aCons (eVar 1) (aCons (eC (.int 156)) (aCons (eC (.int 256)) aNil)))) [some (.loc 0), some (.loc r), some (.loc lp), some (.loc lc), some (.tup (stsL sa sb)), some (.loc m), none, some (.loc tw), some (.int f), some (.int o), some (.int p), none, none] Sj
      = .nx [some (.loc 0), some (.loc r), some (.loc lp), some (.loc lc), some (.tup (stsL sa sb)), some (.loc m), none, some (.loc tw), some (.int f), some (.int o), some (.int p), none, none] (Sj.set (m + 2 + f) (.lst (intsL ((fr.getD f []).set o v)))) := by
    rw [sSub_ok (w := .int v) (n := m + 2 + f) (k := o) (S1 := Sj) (q_call (ws := [.loc r, .int 156, .int 256]) rfl pv) (by rw [eOp_ap, rw2, bind_ok, eVar_of rfl, bind_ok, rw3]) rfl rw1 hr16, intsL_set]
  have hM11 := hM10.row (f := f) (o := o) (v := v) hf.two hg.1 hfl
  have hT11 := hT.set (ys := intsL ((fr.getD f []).set o v)) rw1 (by omega)
  have hl11 := hl10.set (xs := []) (ys := intsL ((fr.getD f []).set o v)) (i := m + 2 + f) hf.1 (by omega)
  have sd11 : seqAt (Sj.set (m + 2 + f) (.lst (intsL ((fr.getD f []).set o v)))) r = some (intsL ds) := by
    unfold seqAt at sd10 ⊢
    rw [List.getElem?_set_ne (by omega)]; exact sd10
  generalize hSk : Sj.set (m + 2 + f) (.lst (intsL ((fr.getD f []).set o v))) = Sk at s11 hM11 hT11 hl11 sd11
  have hf' := fr_wr (o := o) (v := v) hf hfl (by omega)
  obtain ⟨q1, hq1, pq1, w1⟩ := pickN (i := 158) (l := 4) sd11 (by decide)
  obtain ⟨q2, hq2, pq2, w2⟩ := pickN (i := 160) (l := 8) sd11 (by decide)
  have tupE : ∀ (U : Sto) (ls : Ls), seqAt U r = some (intsL ds) → ls[1]? = some (some (.loc r)) → eTup (aCons (eCall f_law_pick [] (aCons (eVar 1) (aCons (eC (.int 158)) (aCons (eC (.int 4)) aNil)))) (aCons (eCall f_law_pick [] (aCons (eVar 1) (aCons (eC (.int 160)) (aCons (eC (.int 8)) aNil)))) aNil)) ls U = .ok (pgV ⟨q1, q2⟩) U := by
    intro U ls su h1
    obtain ⟨z1, _, pz1, y1⟩ := pickN (i := 158) (l := 4) su (by decide)
    obtain ⟨z2, _, pz2, y2⟩ := pickN (i := 160) (l := 8) su (by decide)
    have a1 : z1 = q1 := by omega
    have a2 : z2 = q2 := by omega
    subst a1 a2
    unfold eTup
    rw [aCons_ap, q_call (ws := [.loc r, .int 158, .int 4]) (S1 := U) (by rw [aCons_ap, eVar_of h1]; rfl) pz1, bind_ok, aCons_ap, q_call (ws := [.loc r, .int 160, .int 8]) (S1 := U) (by rw [aCons_ap, eVar_of h1]; rfl) pz2]
    rfl
  have vE : ∀ (U : Sto) (ls : Ls), seqAt U r = some (intsL ds) → ls[1]? = some (some (.loc r)) → eCall f_law_pick [] (aCons (eVar 1) (aCons (eC (.int 156)) (aCons (eC (.int 256)) aNil))) ls U = .ok (.int v) U := by
    intro U ls su h1
    obtain ⟨z1, _, pz1, y1⟩ := pickN (i := 156) (l := 256) su (by decide)
    have a1 : z1 = v := by omega
    subst a1
    exact q_call (ws := [.loc r, .int 156, .int 256]) (S1 := U) (by rw [aCons_ap, eVar_of h1]; rfl) pz1
  have hg' := pg_set (k := p) (p := ⟨q1, q2⟩) hg ⟨hq1, hq2⟩
  have hpp : p < (pagesL pg).length := by simp [pagesL, hg.1, hpl]
  have s12 : sSub (eFld tab n_pages (eVar 5)) (eVar 10) (eTup (aCons (eCall f_law_pick [] (aCons (eVar 1) (aCons (eC (.int 158)) (aCons (eC (.int 4)) aNil)))) (aCons (eCall f_law_pick [] (aCons (eVar 1) (aCons (eC (.int 160)) (aCons (eC (.int 8)) aNil)))) aNil))) [some (.loc 0), some (.loc r), some (.loc lp), some (.loc lc), some (.tup (stsL sa sb)), some (.loc m), none, some (.loc tw), some (.int f), some (.int o), some (.int p), none, none] Sk
      = .nx [some (.loc 0), some (.loc r), some (.loc lp), some (.loc lc), some (.tup (stsL sa sb)), some (.loc m), none, some (.loc tw), some (.int f), some (.int o), some (.int p), none, none] (Sk.set (m + 6) (.lst (pagesL (pg.set p ⟨q1, q2⟩)))) := by
    have hpgf : eFld tab n_pages (eVar 5) [some (.loc 0), some (.loc r), some (.loc lp), some (.loc lc), some (.tup (stsL sa sb)), some (.loc m), none, some (.loc tw), some (.int f), some (.int o), some (.int p), none, none] Sk = .ok (.loc (m + 6)) Sk := by
      obtain ⟨g, nf, nq, q0, q1, r0, r1, M⟩ := hM11
      exact eFld_ok rfl M.me (by decide +kernel) rfl
    rw [sSub_ok (n := m + 6) (k := p) (tupE Sk _ sd11 rfl) hpgf rfl hM11.pgAt hpp, pagesL_set]
  have hM12 := hM11.page (pg' := pg.set p ⟨q1, q2⟩) hf'.two hg.1
  have hT12 := hT11.set (ys := pagesL (pg.set p ⟨q1, q2⟩)) hM11.pgAt (by omega)
  have hl12 := hl11.set (xs := []) (ys := pagesL (pg.set p ⟨q1, q2⟩)) (i := m + 6) hf.1 (by omega)
  have sd12 : seqAt (Sk.set (m + 6) (.lst (pagesL (pg.set p ⟨q1, q2⟩)))) r = some (intsL ds) := by
    unfold seqAt at sd11 ⊢
    rw [List.getElem?_set_ne (by omega)]; exact sd11
  generalize Sk.set (m + 6) (.lst (pagesL (pg.set p ⟨q1, q2⟩))) = Sl at s12 hM12 hT12 hl12 sd12
  -- the law's own changed ones
  have e13 := copyL (v := 6) (w := 3) (ls := [some (.loc 0), some (.loc r), some (.loc lp), some (.loc lc), some (.tup (stsL sa sb)), some (.loc m), none, some (.loc tw), some (.int f), some (.int o), some (.int p), none, none]) hl12.fr hf.1 (by simp) rfl
  have hc13 := frAt_new (S := Sl) (fr := fr)
  have sd13 := seq_old (X := OB.lst (locsL (Sl.length + 1) fr.length) :: fr.map (fun r => OB.lst (intsL r))) sd12
  have k13 : ∀ (j : Nat) (x : OB), Sl[j]? = some x → (Sl ++ OB.lst (locsL (Sl.length + 1) fr.length) :: fr.map (fun r => OB.lst (intsL r)))[j]? = some x := fun j x h => get_old h
  generalize Sl ++ OB.lst (locsL (Sl.length + 1) fr.length) :: fr.map (fun r => OB.lst (intsL r)) = Sm at e13 hc13 sd13 k13
  obtain ⟨ch, hch⟩ : ∃ ch, ch = Sl.length := ⟨_, rfl⟩
  rw [← hch] at e13 hc13
  have hrc : r < ch := by
    rw [hch]
    unfold seqAt at sd12
    cases hq : Sl[r]? with
    | none => rw [hq] at sd12; cases sd12
    | some x => exact lt_of_get hq
  have s14 : sSub (eOp gIx (eVar 11) (eVar 8)) (eVar 9) (eCall f_law_pick [] (aCons (eVar 1) (aCons (eC (.int 156)) (aCons (eC (.int 256)) aNil)))) [some (.loc 0), some (.loc r), some (.loc lp), some (.loc lc), some (.tup (stsL sa sb)), some (.loc m), none, some (.loc tw), some (.int f), some (.int o), some (.int p), some (.loc ch), none] Sm
      = .nx [some (.loc 0), some (.loc r), some (.loc lp), some (.loc lc), some (.tup (stsL sa sb)), some (.loc m), none, some (.loc tw), some (.int f), some (.int o), some (.int p), some (.loc ch), none] (Sm.set (ch + 1 + f) (.lst (intsL ((fr.getD f []).set o v)))) := by
    have g1 : gIx (.loc ch) (.int (f : Int)) Sm = .ok (.loc (ch + 1 + f)) Sm := gIx_loc (seq_of_get hc13.1) (locsL_get (by rw [hf.1]; exact hfl))
    rw [sSub_ok (n := ch + 1 + f) (k := o) (vE Sm _ sd13 rfl) (by rw [eOp_ap, eVar_of rfl, bind_ok, eVar_of rfl, bind_ok, g1]) rfl (hc13.2 f _ (getD_some (by rw [hf.1]; exact hfl))) hr16, intsL_set]
  have hc14 := frAt_set (f := f) (o := o) (v := v) hc13 hf.two hfl
  have k14 : ∀ (j : Nat) (x : OB), Sl[j]? = some x → (Sm.set (ch + 1 + f) (.lst (intsL ((fr.getD f []).set o v))))[j]? = some x := fun j x h => by
    have := lt_of_get h
    rw [List.getElem?_set_ne (by omega)]; exact k13 j x h
  have sd14 : seqAt (Sm.set (ch + 1 + f) (.lst (intsL ((fr.getD f []).set o v)))) r = some (intsL ds) := by
    unfold seqAt at sd13 ⊢
    rw [List.getElem?_set_ne (by omega)]; exact sd13
  generalize Sm.set (ch + 1 + f) (.lst (intsL ((fr.getD f []).set o v))) = Sn at s14 hc14 k14 sd14
  have e15 : eB fList (aCons (eVar 2) aNil) [some (.loc 0), some (.loc r), some (.loc lp), some (.loc lc), some (.tup (stsL sa sb)), some (.loc m), none, some (.loc tw), some (.int f), some (.int o), some (.int p), some (.loc ch), none] Sn = .ok (.loc Sn.length) (Sn ++ [OB.lst (pagesL pg)]) := by
    rw [eB_ap, aCons_ap, eVar_of rfl]
    simp only [bind_ok, aNil_ap]
    exact fList_h (.loc (k14 _ _ hl12.pg))
  have htu : (Sn ++ [OB.lst (pagesL pg)])[Sn.length]? = some (.lst (pagesL pg)) := get_app
  have sd15 := seq_old (X := [OB.lst (pagesL pg)]) sd14
  have hc15 := hc14.old (X := [OB.lst (pagesL pg)])
  have k15 : ∀ (j : Nat) (x : OB), Sn[j]? = some x → (Sn ++ [OB.lst (pagesL pg)])[j]? = some x := fun j x h => get_old h
  obtain ⟨tu, htue⟩ : ∃ tu, tu = Sn.length := ⟨_, rfl⟩
  rw [← htue] at e15 htu
  generalize Sn ++ [OB.lst (pagesL pg)] = So at e15 htu sd15 hc15 k15
  have s16 : sSub (eVar 12) (eVar 10) (eTup (aCons (eCall f_law_pick [] (aCons (eVar 1) (aCons (eC (.int 158)) (aCons (eC (.int 4)) aNil)))) (aCons (eCall f_law_pick [] (aCons (eVar 1) (aCons (eC (.int 160)) (aCons (eC (.int 8)) aNil)))) aNil))) [some (.loc 0), some (.loc r), some (.loc lp), some (.loc lc), some (.tup (stsL sa sb)), some (.loc m), none, some (.loc tw), some (.int f), some (.int o), some (.int p), some (.loc ch), some (.loc tu)] So
      = .nx [some (.loc 0), some (.loc r), some (.loc lp), some (.loc lc), some (.tup (stsL sa sb)), some (.loc m), none, some (.loc tw), some (.int f), some (.int o), some (.int p), some (.loc ch), some (.loc tu)] (So.set tu (.lst (pagesL (pg.set p ⟨q1, q2⟩)))) := by
    rw [sSub_ok (n := tu) (k := p) (tupE So _ sd15 rfl) rfl rfl htu hpp, pagesL_set]
  have kS : ∀ (j : Nat) (x : OB), Sn[j]? = some x → (So.set tu (.lst (pagesL (pg.set p ⟨q1, q2⟩))))[j]? = some x := fun j x h => by
    have := lt_of_get h
    rw [List.getElem?_set_ne (by omega)]; exact k15 j x h
  have hnew : LawAt (So.set tu (.lst (pagesL (pg.set p ⟨q1, q2⟩)))) ch (ch + 1) tu (wr fr f o v) (pg.set p ⟨q1, q2⟩) := ⟨⟨kS _ _ hc14.1, fun i x h => kS _ _ (hc14.2 i x h)⟩, List.getElem?_set_self (lt_of_get htu)⟩
  have hMf := hM12.mono (S' := So.set tu (.lst (pagesL (pg.set p ⟨q1, q2⟩)))) fun j x _ h => kS _ _ (k14 _ _ h)
  have hTf := hT12.mono (S' := So.set tu (.lst (pagesL (pg.set p ⟨q1, q2⟩)))) fun j x _ h => kS _ _ (k14 _ _ h)
  have hlf : LawAt (So.set tu (.lst (pagesL (pg.set p ⟨q1, q2⟩)))) lc (lc + 1) lp fr pg := ⟨⟨kS _ _ (k14 _ _ hl12.fr.1), fun i x h => kS _ _ (k14 _ _ (hl12.fr.2 i x h))⟩, kS _ _ (k14 _ _ hl12.pg)⟩
  generalize So.set tu (.lst (pagesL (pg.set p ⟨q1, q2⟩))) = Sp at s16 hnew hMf hTf hlf
  obtain ⟨X5, f5⟩ := fetches_ok hMf hnew hf' hg'
  obtain ⟨X6, f6⟩ := fetches_ok (hTf.old (X := X5)) (hlf.old (X := X5)) hf hg
  obtain ⟨X7, f7⟩ := fetches_ok ((hMf.old (X := X5)).old (X := X6)) ((hnew.old (X := X5)).old (X := X6)) hf' hg'
  refine ⟨Sp ++ X5 ++ X6 ++ X7, fnOf_rt rfl ?_⟩
  show m_law [some (.loc 0), none, none, none, none, none, none, none, none, none, none, none, none] S0 = _
  unfold m_law
  refine q_set (q_call rfl e1) ?_
  refine q_set (q_call rfl e2) ?_
  refine q_set (q_call rfl e3) ?_
  refine q_set e4 ?_
  refine q_set e8 ?_
  refine q_no (S1 := Si) ?_ ?_
  · rw [tNotM_ap, toT_ap, q_call (ws := [.loc m, .loc lc, .loc lp]) rfl f1]; rfl
  refine q_set e10 ?_
  refine q_set (q_call (ws := [.loc r, .int 150, .int 4]) rfl pf) ?_
  refine q_set (q_call (ws := [.loc r, .int 152, .int 16]) rfl po) ?_
  refine q_set (q_call (ws := [.loc r, .int 154, .int 4]) rfl pp) ?_
  refine q_nx s11 ?_
  refine q_nx s12 ?_
  refine q_set e13 ?_
  refine q_nx s14 ?_
  refine q_set e15 ?_
  refine q_nx s16 ?_
  refine q_no (S1 := Sp ++ X5) ?_ ?_
  · rw [tNotM_ap, toT_ap, q_call (ws := [.loc m, .loc ch, .loc tu]) rfl f5]; rfl
  rw [sRet_ap]
  unfold eAndM
  rw [q_call (ws := [.loc tw, .loc lc, .loc lp]) rfl f6]
  simp only [bind_ok]
  rw [q_call (ws := [.loc m, .loc ch, .loc tu]) rfl f7]
  rfl
end K08

set_option Elab.async false
set_option linter.all false
set_option maxRecDepth 100000
set_option maxHeartbeats 400000
namespace K08
open PySem PySem.Spec PyProof.Rows L2 GL
def top (i : Nat) : Stmt := PySem.Challenge.pw_guestlives_k08_fetch_reads_the_cells_of.main.body.getD i (.Pass ⟨0, 0, 0, 0⟩)
abbrev st_law_row : Stmt := top 30
abbrev N_law_row : List Str := ["_law_script", "_law_most", "_law_row_here", "_law_cell", "_law_rest", "_law_k"]
abbrev ps_law_row : List Str := ["_law_script", "_law_most"]
theorem sc_law_row : FnScope N_law_row ps_law_row (defScope st_law_row) := ⟨rfl, rfl, rfl, by decide +kernel, rfl, by decide +kernel, by decide +kernel⟩
abbrev st_law_pick : Stmt := top 31
abbrev N_law_pick : List Str := ["_law_row_here", "_law_at", "_law_limit_here", "_law_value"]
abbrev ps_law_pick : List Str := ["_law_row_here", "_law_at", "_law_limit_here"]
theorem sc_law_pick : FnScope N_law_pick ps_law_pick (defScope st_law_pick) := ⟨rfl, rfl, rfl, by decide +kernel, rfl, by decide +kernel, by decide +kernel⟩
abbrev st_law_pages : Stmt := top 36
abbrev N_law_pages : List Str := ["_law_row_here", "_law_k"]
abbrev ps_law_pages : List Str := ["_law_row_here"]
theorem sc_law_pages : FnScope N_law_pages ps_law_pages (defScope st_law_pages) := ⟨rfl, rfl, rfl, by decide +kernel, rfl, by decide +kernel, by decide +kernel⟩
abbrev st_law_cells : Stmt := top 37
abbrev N_law_cells : List Str := ["_law_row_here", "_law_cells_here", "_law_frame", "_law_numbers", "_law_offset", "_law_limit_here"]
abbrev ps_law_cells : List Str := ["_law_row_here"]
theorem sc_law_cells : FnScope N_law_cells ps_law_cells (defScope st_law_cells) := ⟨rfl, rfl, rfl, by decide +kernel, rfl, by decide +kernel, by decide +kernel⟩
abbrev st_Processor_init : Stmt := inClass (top 12) 0
abbrev N_Processor_init : List Str := ["self", "start"]
abbrev ps_Processor_init : List Str := ["self", "start"]
theorem sc_Processor_init : FnScope N_Processor_init ps_Processor_init (defScope st_Processor_init) := ⟨rfl, rfl, rfl, by decide +kernel, rfl, by decide +kernel, by decide +kernel⟩
abbrev st_Machine_init : Stmt := inClass (top 13) 0
abbrev N_Machine_init : List Str := ["self", "guest", "frame", "start"]
abbrev ps_Machine_init : List Str := ["self", "guest"]
theorem sc_Machine_init : FnScope N_Machine_init ps_Machine_init (defScope st_Machine_init) := ⟨rfl, rfl, rfl, by decide +kernel, rfl, by decide +kernel, by decide +kernel⟩
abbrev st_within : Stmt := top 26
abbrev N_within : List Str := ["values", "limits", "index"]
abbrev ps_within : List Str := ["values", "limits"]
theorem sc_within : FnScope N_within ps_within (defScope st_within) := ⟨rfl, rfl, rfl, by decide +kernel, rfl, by decide +kernel, by decide +kernel⟩
abbrev st_check_guest : Stmt := top 27
abbrev N_check_guest : List Str := ["guest", "frame", "page", "started", "start", "one"]
abbrev ps_check_guest : List Str := ["guest"]
theorem sc_check_guest : FnScope N_check_guest ps_check_guest (defScope st_check_guest) := ⟨rfl, rfl, rfl, by decide +kernel, rfl, by decide +kernel, by decide +kernel⟩
abbrev st_Guest_init : Stmt := inClass (top 28) 0
abbrev N_Guest_init : List Str := ["self", "frames", "pages", "starts", "handlers", "writes", "frame", "page", "one"]
abbrev ps_Guest_init : List Str := ["self", "frames", "pages", "starts", "handlers", "writes"]
theorem sc_Guest_init : FnScope N_Guest_init ps_Guest_init (defScope st_Guest_init) := ⟨rfl, rfl, rfl, by decide +kernel, rfl, by decide +kernel, by decide +kernel⟩
abbrev st_Processor_key : Stmt := inClass (top 12) 1
abbrev N_Processor_key : List Str := ["self", "flags"]
abbrev ps_Processor_key : List Str := ["self"]
theorem sc_Processor_key : FnScope N_Processor_key ps_Processor_key (defScope st_Processor_key) := ⟨rfl, rfl, rfl, by decide +kernel, rfl, by decide +kernel, by decide +kernel⟩
abbrev st_Machine_key : Stmt := inClass (top 13) 1
abbrev N_Machine_key : List Str := ["self", "frames", "frame", "one"]
abbrev ps_Machine_key : List Str := ["self"]
theorem sc_Machine_key : FnScope N_Machine_key ps_Machine_key (defScope st_Machine_key) := ⟨rfl, rfl, rfl, by decide +kernel, rfl, by decide +kernel, by decide +kernel⟩
abbrev st_law_whole : Stmt := top 32
abbrev N_law_whole : List Str := ["_law_value"]
abbrev ps_law_whole : List Str := ["_law_value"]
theorem sc_law_whole : FnScope N_law_whole ps_law_whole (defScope st_law_whole) := ⟨rfl, rfl, rfl, by decide +kernel, rfl, by decide +kernel, by decide +kernel⟩
abbrev st_law_same : Stmt := top 39
abbrev N_law_same : List Str := ["_law_actual", "_law_expected", "_law_one", "_law_value"]
abbrev ps_law_same : List Str := ["_law_actual", "_law_expected"]
theorem sc_law_same : FnScope N_law_same ps_law_same (defScope st_law_same) := ⟨rfl, rfl, rfl, by decide +kernel, rfl, by decide +kernel, by decide +kernel⟩
abbrev st_law_kinds : Stmt := top 34
abbrev N_law_kinds : List Str := []
abbrev ps_law_kinds : List Str := []
theorem sc_law_kinds : FnScope N_law_kinds ps_law_kinds (defScope st_law_kinds) := ⟨rfl, rfl, rfl, by decide +kernel, rfl, by decide +kernel, by decide +kernel⟩
abbrev st_law_limit : Stmt := top 35
abbrev N_law_limit : List Str := ["_law_kind"]
abbrev ps_law_limit : List Str := ["_law_kind"]
theorem sc_law_limit : FnScope N_law_limit ps_law_limit (defScope st_law_limit) := ⟨rfl, rfl, rfl, by decide +kernel, rfl, by decide +kernel, by decide +kernel⟩
abbrev st_law_names : Stmt := top 33
abbrev N_law_names : List Str := ["_law_text"]
abbrev ps_law_names : List Str := []
theorem sc_law_names : FnScope N_law_names ps_law_names (defScope st_law_names) := ⟨rfl, rfl, rfl, by decide +kernel, rfl, by decide +kernel, by decide +kernel⟩
abbrev st_law_due : Stmt := top 38
abbrev N_law_due : List Str := ["_law_cells_here", "_law_pages_here", "_law_address", "_law_number", "_law_letters", "_law_operands", "_law_k", "_law_behind"]
abbrev ps_law_due : List Str := ["_law_cells_here", "_law_pages_here", "_law_address"]
theorem sc_law_due : FnScope N_law_due ps_law_due (defScope st_law_due) := ⟨rfl, rfl, rfl, by decide +kernel, rfl, by decide +kernel, by decide +kernel⟩
abbrev st_Machine_rights_at : Stmt := inClass (top 13) 5
abbrev N_Machine_rights_at : List Str := ["self", "address"]
abbrev ps_Machine_rights_at : List Str := ["self", "address"]
theorem sc_Machine_rights_at : FnScope N_Machine_rights_at ps_Machine_rights_at (defScope st_Machine_rights_at) := ⟨rfl, rfl, rfl, by decide +kernel, rfl, by decide +kernel, by decide +kernel⟩
abbrev st_may_execute : Stmt := top 22
abbrev N_may_execute : List Str := ["machine", "address"]
abbrev ps_may_execute : List Str := ["machine", "address"]
theorem sc_may_execute : FnScope N_may_execute ps_may_execute (defScope st_may_execute) := ⟨rfl, rfl, rfl, by decide +kernel, rfl, by decide +kernel, by decide +kernel⟩
abbrev st_Machine_place : Stmt := inClass (top 13) 3
abbrev N_Machine_place : List Str := ["self", "address"]
abbrev ps_Machine_place : List Str := ["self", "address"]
theorem sc_Machine_place : FnScope N_Machine_place ps_Machine_place (defScope st_Machine_place) := ⟨rfl, rfl, rfl, by decide +kernel, rfl, by decide +kernel, by decide +kernel⟩
abbrev st_Machine_number_at : Stmt := inClass (top 13) 4
abbrev N_Machine_number_at : List Str := ["self", "address", "frame", "offset"]
abbrev ps_Machine_number_at : List Str := ["self", "address"]
theorem sc_Machine_number_at : FnScope N_Machine_number_at ps_Machine_number_at (defScope st_Machine_number_at) := ⟨rfl, rfl, rfl, by decide +kernel, rfl, by decide +kernel, by decide +kernel⟩
abbrev st_next_address : Stmt := top 11
abbrev N_next_address : List Str := ["address", "size"]
abbrev ps_next_address : List Str := ["address", "size"]
theorem sc_next_address : FnScope N_next_address ps_next_address (defScope st_next_address) := ⟨rfl, rfl, rfl, by decide +kernel, rfl, by decide +kernel, by decide +kernel⟩
abbrev st_decode : Stmt := top 20
abbrev N_decode : List Str := ["numbers", "name", "kinds", "operands", "index"]
abbrev ps_decode : List Str := ["numbers"]
theorem sc_decode : FnScope N_decode ps_decode (defScope st_decode) := ⟨rfl, rfl, rfl, by decide +kernel, rfl, by decide +kernel, by decide +kernel⟩
abbrev st_fetch_at : Stmt := top 23
abbrev N_fetch_at : List Str := ["machine", "address", "numbers", "index", "behind"]
abbrev ps_fetch_at : List Str := ["machine", "address"]
theorem sc_fetch_at : FnScope N_fetch_at ps_fetch_at (defScope st_fetch_at) := ⟨rfl, rfl, rfl, by decide +kernel, rfl, by decide +kernel, by decide +kernel⟩
abbrev st_law_fetches : Stmt := top 40
abbrev N_law_fetches : List Str := ["_law_machine", "_law_cells_here", "_law_pages_here", "_law_before", "_law_address"]
abbrev ps_law_fetches : List Str := ["_law_machine", "_law_cells_here", "_law_pages_here"]
theorem sc_law_fetches : FnScope N_law_fetches ps_law_fetches (defScope st_law_fetches) := ⟨rfl, rfl, rfl, by decide +kernel, rfl, by decide +kernel, by decide +kernel⟩
abbrev st_Processor_copy : Stmt := inClass (top 12) 2
abbrev N_Processor_copy : List Str := ["self", "twin"]
abbrev ps_Processor_copy : List Str := ["self"]
theorem sc_Processor_copy : FnScope N_Processor_copy ps_Processor_copy (defScope st_Processor_copy) := ⟨rfl, rfl, rfl, by decide +kernel, rfl, by decide +kernel, by decide +kernel⟩
abbrev st_Machine_copy : Stmt := inClass (top 13) 2
abbrev N_Machine_copy : List Str := ["self", "twin", "frame", "one"]
abbrev ps_Machine_copy : List Str := ["self"]
theorem sc_Machine_copy : FnScope N_Machine_copy ps_Machine_copy (defScope st_Machine_copy) := ⟨rfl, rfl, rfl, by decide +kernel, rfl, by decide +kernel, by decide +kernel⟩
abbrev st_law : Stmt := top 41
abbrev N_law : List Str := ["_law_script", "_law_row_here", "_law_pages_here", "_law_cells_here", "_law_starts", "_law_machine", "_law_one", "_law_twin", "_law_frame", "_law_offset", "_law_page", "_law_changed", "_law_turned"]
abbrev ps_law : List Str := ["_law_script"]
theorem sc_law : FnScope N_law ps_law (defScope st_law) := ⟨rfl, rfl, rfl, by decide +kernel, rfl, by decide +kernel, by decide +kernel⟩
theorem e_Guest : toS n_Guest = ("Guest" : Str) := by decide +kernel
theorem e_Machine : toS n_Machine = ("Machine" : Str) := by decide +kernel
theorem e_Processor : toS n_Processor = ("Processor" : Str) := by decide +kernel
structure Tx (K : PySem.W.Frag) (w : World) (mg : Str → Option Value) : Prop where
  b_abs : mg "abs" = none
  b_all : mg "all" = none
  b_bool : mg "bool" = none
  b_int : mg "int" = none
  b_isinstance : mg "isinstance" = none
  b_len : mg "len" = none
  b_list : mg "list" = none
  b_range : mg "range" = none
  b_str : mg "str" = none
  b_tuple : mg "tuple" = none
  g__law_row : mg "_law_row" = some (.ref (He.ga K "_law_row"))
  g__law_pick : mg "_law_pick" = some (.ref (He.ga K "_law_pick"))
  g__law_pages : mg "_law_pages" = some (.ref (He.ga K "_law_pages"))
  g__law_cells : mg "_law_cells" = some (.ref (He.ga K "_law_cells"))
  g_within : mg "within" = some (.ref (He.ga K "within"))
  g_check_guest : mg "check_guest" = some (.ref (He.ga K "check_guest"))
  g__law_whole : mg "_law_whole" = some (.ref (He.ga K "_law_whole"))
  g__law_same : mg "_law_same" = some (.ref (He.ga K "_law_same"))
  g__law_kinds : mg "_law_kinds" = some (.ref (He.ga K "_law_kinds"))
  g__law_limit : mg "_law_limit" = some (.ref (He.ga K "_law_limit"))
  g__law_names : mg "_law_names" = some (.ref (He.ga K "_law_names"))
  g__law_due : mg "_law_due" = some (.ref (He.ga K "_law_due"))
  g_may_execute : mg "may_execute" = some (.ref (He.ga K "may_execute"))
  g_next_address : mg "next_address" = some (.ref (He.ga K "next_address"))
  g_decode : mg "decode" = some (.ref (He.ga K "decode"))
  g_fetch_at : mg "fetch_at" = some (.ref (He.ga K "fetch_at"))
  g__law_fetches : mg "_law_fetches" = some (.ref (He.ga K "_law_fetches"))
  g_law : mg "law" = some (.ref (He.ga K "law"))
  cl_Guest : Cls K (He.ga K "Guest")
  cl_Machine : Cls K (He.ga K "Machine")
  cl_Processor : Cls K (He.ga K "Processor")
  g_Guest : mg "Guest" = some (.ref (He.ga K "Guest"))
  mk_Guest : Mk K (He.ga K "Guest") (He.ma K (He.ga K "Guest") "__init__")
  g_Machine : mg "Machine" = some (.ref (He.ga K "Machine"))
  mk_Machine : Mk K (He.ga K "Machine") (He.ma K (He.ga K "Machine") "__init__")
  g_Processor : mg "Processor" = some (.ref (He.ga K "Processor"))
  mk_Processor : Mk K (He.ga K "Processor") (He.ma K (He.ga K "Processor") "__init__")
  me_Machine_copy : Meth K (He.ga K "Machine") "copy" (He.ma K (He.ga K "Machine") "copy")
  me_Machine_key : Meth K (He.ga K "Machine") "key" (He.ma K (He.ga K "Machine") "key")
  me_Machine_number_at : Meth K (He.ga K "Machine") "number_at" (He.ma K (He.ga K "Machine") "number_at")
  me_Machine_place : Meth K (He.ga K "Machine") "place" (He.ma K (He.ga K "Machine") "place")
  me_Machine_rights_at : Meth K (He.ga K "Machine") "rights_at" (He.ma K (He.ga K "Machine") "rights_at")
  me_Processor_copy : Meth K (He.ga K "Processor") "copy" (He.ma K (He.ga K "Processor") "copy")
  me_Processor_key : Meth K (He.ga K "Processor") "key" (He.ma K (He.ga K "Processor") "key")
  c_ADDRESSES : GCon K mg "ADDRESSES" w_ADDRESSES
  c_CELLS : GCon K mg "CELLS" w_CELLS
  c_EXECUTE : GCon K mg "EXECUTE" w_EXECUTE
  c_FRAMES : GCon K mg "FRAMES" w_FRAMES
  c_MOST_WRITES : GCon K mg "MOST_WRITES" w_MOST_WRITES
  c_NUMBERS : GCon K mg "NUMBERS" w_NUMBERS
  c_OPS : GCon K mg "OPS" w_OPS
  c_PAGES : GCon K mg "PAGES" w_PAGES
  c_PROCESSORS : GCon K mg "PROCESSORS" w_PROCESSORS
  c_REGISTERS : GCon K mg "REGISTERS" w_REGISTERS
  kd_KIND_LIMITS : KD K w mg "KIND_LIMITS" kd_KIND_LIMITS
  att : Atts K tab
  dv_Guest_init_0 : GVal K (.ref (He.dflAt ("Guest", some "__init__") 0 K)) (.tup [(.tup [(.int 0), (.int 7)]), (.tup [(.int 1), (.int 7)]), (.tup [(.int 2), (.int 7)]), (.tup [(.int 3), (.int 7)])])
  dv_Guest_init_1 : GVal K (.ref (He.dflAt ("Guest", some "__init__") 1 K)) (.tup [(.int 0), .non])
  dv_Guest_init_2 : GVal K (.ref (He.dflAt ("Guest", some "__init__") 2 K)) (.tup [(.int 60), (.int 60)])
  dv_Guest_init_3 : GVal K (.ref (He.dflAt ("Guest", some "__init__") 3 K)) (.tup [])
  d_law_row : ∃ fd, FunD K "_law_row" "_law_row" (defArgs st_law_row) (defBody st_law_row) (defScope st_law_row) ([] : List V) [] (He.fAd K ("_law_row", none)) fd
  d_law_pick : ∃ fd, FunD K "_law_pick" "_law_pick" (defArgs st_law_pick) (defBody st_law_pick) (defScope st_law_pick) ([] : List V) [] (He.fAd K ("_law_pick", none)) fd
  d_law_pages : ∃ fd, FunD K "_law_pages" "_law_pages" (defArgs st_law_pages) (defBody st_law_pages) (defScope st_law_pages) ([] : List V) [] (He.fAd K ("_law_pages", none)) fd
  d_law_cells : ∃ fd, FunD K "_law_cells" "_law_cells" (defArgs st_law_cells) (defBody st_law_cells) (defScope st_law_cells) ([] : List V) [] (He.fAd K ("_law_cells", none)) fd
  d_Processor_init : ∃ fd, FunD K "__init__" "Processor.__init__" (defArgs st_Processor_init) (defBody st_Processor_init) (defScope st_Processor_init) ([] : List V) [] (He.fAd K ("Processor", some "__init__")) fd
  d_Machine_init : ∃ fd, FunD K "__init__" "Machine.__init__" (defArgs st_Machine_init) (defBody st_Machine_init) (defScope st_Machine_init) ([] : List V) [] (He.fAd K ("Machine", some "__init__")) fd
  d_within : ∃ fd, FunD K "within" "within" (defArgs st_within) (defBody st_within) (defScope st_within) ([] : List V) [] (He.fAd K ("within", none)) fd
  d_check_guest : ∃ fd, FunD K "check_guest" "check_guest" (defArgs st_check_guest) (defBody st_check_guest) (defScope st_check_guest) ([] : List V) [] (He.fAd K ("check_guest", none)) fd
  d_Guest_init : ∃ fd, FunD K "__init__" "Guest.__init__" (defArgs st_Guest_init) (defBody st_Guest_init) (defScope st_Guest_init) ([.ref (He.dflAt ("Guest", some "__init__") 0 K), .ref (He.dflAt ("Guest", some "__init__") 1 K), .ref (He.dflAt ("Guest", some "__init__") 2 K), .ref (He.dflAt ("Guest", some "__init__") 3 K)] : List V) [] (He.fAd K ("Guest", some "__init__")) fd
  d_Processor_key : ∃ fd, FunD K "key" "Processor.key" (defArgs st_Processor_key) (defBody st_Processor_key) (defScope st_Processor_key) ([] : List V) [] (He.fAd K ("Processor", some "key")) fd
  d_Machine_key : ∃ fd, FunD K "key" "Machine.key" (defArgs st_Machine_key) (defBody st_Machine_key) (defScope st_Machine_key) ([] : List V) [] (He.fAd K ("Machine", some "key")) fd
  d_law_whole : ∃ fd, FunD K "_law_whole" "_law_whole" (defArgs st_law_whole) (defBody st_law_whole) (defScope st_law_whole) ([] : List V) [] (He.fAd K ("_law_whole", none)) fd
  d_law_same : ∃ fd, FunD K "_law_same" "_law_same" (defArgs st_law_same) (defBody st_law_same) (defScope st_law_same) ([] : List V) [] (He.fAd K ("_law_same", none)) fd
  d_law_kinds : ∃ fd, FunD K "_law_kinds" "_law_kinds" (defArgs st_law_kinds) (defBody st_law_kinds) (defScope st_law_kinds) ([] : List V) [] (He.fAd K ("_law_kinds", none)) fd
  d_law_limit : ∃ fd, FunD K "_law_limit" "_law_limit" (defArgs st_law_limit) (defBody st_law_limit) (defScope st_law_limit) ([] : List V) [] (He.fAd K ("_law_limit", none)) fd
  d_law_names : ∃ fd, FunD K "_law_names" "_law_names" (defArgs st_law_names) (defBody st_law_names) (defScope st_law_names) ([] : List V) [] (He.fAd K ("_law_names", none)) fd
  d_law_due : ∃ fd, FunD K "_law_due" "_law_due" (defArgs st_law_due) (defBody st_law_due) (defScope st_law_due) ([] : List V) [] (He.fAd K ("_law_due", none)) fd
  d_Machine_rights_at : ∃ fd, FunD K "rights_at" "Machine.rights_at" (defArgs st_Machine_rights_at) (defBody st_Machine_rights_at) (defScope st_Machine_rights_at) ([] : List V) [] (He.fAd K ("Machine", some "rights_at")) fd
  d_may_execute : ∃ fd, FunD K "may_execute" "may_execute" (defArgs st_may_execute) (defBody st_may_execute) (defScope st_may_execute) ([] : List V) [] (He.fAd K ("may_execute", none)) fd
  d_Machine_place : ∃ fd, FunD K "place" "Machine.place" (defArgs st_Machine_place) (defBody st_Machine_place) (defScope st_Machine_place) ([] : List V) [] (He.fAd K ("Machine", some "place")) fd
  d_Machine_number_at : ∃ fd, FunD K "number_at" "Machine.number_at" (defArgs st_Machine_number_at) (defBody st_Machine_number_at) (defScope st_Machine_number_at) ([] : List V) [] (He.fAd K ("Machine", some "number_at")) fd
  d_next_address : ∃ fd, FunD K "next_address" "next_address" (defArgs st_next_address) (defBody st_next_address) (defScope st_next_address) ([] : List V) [] (He.fAd K ("next_address", none)) fd
  d_decode : ∃ fd, FunD K "decode" "decode" (defArgs st_decode) (defBody st_decode) (defScope st_decode) ([] : List V) [] (He.fAd K ("decode", none)) fd
  d_fetch_at : ∃ fd, FunD K "fetch_at" "fetch_at" (defArgs st_fetch_at) (defBody st_fetch_at) (defScope st_fetch_at) ([] : List V) [] (He.fAd K ("fetch_at", none)) fd
  d_law_fetches : ∃ fd, FunD K "_law_fetches" "_law_fetches" (defArgs st_law_fetches) (defBody st_law_fetches) (defScope st_law_fetches) ([] : List V) [] (He.fAd K ("_law_fetches", none)) fd
  d_Processor_copy : ∃ fd, FunD K "copy" "Processor.copy" (defArgs st_Processor_copy) (defBody st_Processor_copy) (defScope st_Processor_copy) ([] : List V) [] (He.fAd K ("Processor", some "copy")) fd
  d_Machine_copy : ∃ fd, FunD K "copy" "Machine.copy" (defArgs st_Machine_copy) (defBody st_Machine_copy) (defScope st_Machine_copy) ([] : List V) [] (He.fAd K ("Machine", some "copy")) fd
  d_law : ∃ fd, FunD K "law" "law" (defArgs st_law) (defBody st_law) (defScope st_law) ([] : List V) [] (He.fAd K ("law", none)) fd
section
variable {P : Program} {w : World} {K : PySem.W.Frag} {mg : Str → Option Value} {base : Heap}
theorem fi_law_row (T : Tx K w mg) {fd : FuncData} (F : FunD K "_law_row" "_law_row" (defArgs st_law_row) (defBody st_law_row) (defScope st_law_row) ([] : List V) [] (He.fAd K ("_law_row", none)) fd) : FI P w K mg base 1 (He.fAd K ("_law_row", none)) fd ps_law_row f_law_row := by
  have h := fi_of (P := P) (w := w) (mg := mg) (base := base) F sc_law_row (m := m_law_row) (k := 0) (fun cdv A outer s H E hr => by
    exact (iss_cons (is_set (i := 2) sc_law_row.nd (ie_lst ia_nil))
    (iss_cons (is_for (L2.passes_of rfl) rfl (ii_seq (ie_var 0)) (ig_name 3 sc_law_row.nd)
    (iss_cons (is_set (i := 4) sc_law_row.nd (ie_B call_abs ci_abs T.b_abs (by decide +kernel) (ia_cons (ie_BT call_int1 ci_int T.b_int (by decide +kernel) (ia_cons (ie_var 3) ia_nil)) ia_nil)))
    (iss_one (is_for (L2.passes_of rfl) rfl (ii_range1 T.b_range ie_int) (ig_name 5 sc_law_row.nd)
    (iss_cons (is_if (it_cmp op_lt oi_lt (ie_B call_len ci_len T.b_len (by decide +kernel) (ia_cons (ie_var 2) ia_nil)) (ie_var 1) (nomark _))
    (iss_one (is_expr (ie_mt PySem.F.plainAttrs_list PySem.F.slot_list_append PySem.F.type_list_append mt_append chk_list mi_append (ie_var 2) (ia_cons (ie_bin op_mod oi_mod (ie_var 4) ie_int) ia_nil))))
    iss_nil)
    (iss_cons (is_set (i := 4) sc_law_row.nd (ie_bin op_fdiv oi_div (ie_var 4) ie_int))
    (iss_one (is_if (it_cmp (or_eqM hr.units) oi_eq (ie_var 4) ie_int (nomark _))
    (iss_one is_break)
    iss_nil))))))))
    (iss_one (is_ret (ie_var 2))))))
  exact h
theorem ok_law_row (T : Tx K w mg) : ∃ fd, FI P w K mg base 1 (He.fAd K ("_law_row", none)) fd ps_law_row f_law_row ∧ PySem.W.keepIn K (.ref (He.fAd K ("_law_row", none))) = true ∧ (∃ ds, Vals (([] : List V).drop 0 : List V) ds ∧ Binds K fd ps_law_row ds) := by
  obtain ⟨fd, F⟩ := T.d_law_row
  exact ⟨fd, fi_law_row T F, F.kp, ⟨[], .nil, F.bindsN fun _ _ _ _ _ _ us hl => match us, hl with | [_, _], _ => rfl⟩⟩
theorem fi_law_pick (T : Tx K w mg) {fd : FuncData} (F : FunD K "_law_pick" "_law_pick" (defArgs st_law_pick) (defBody st_law_pick) (defScope st_law_pick) ([] : List V) [] (He.fAd K ("_law_pick", none)) fd) : FI P w K mg base 1 (He.fAd K ("_law_pick", none)) fd ps_law_pick f_law_pick := by
  have h := fi_of (P := P) (w := w) (mg := mg) (base := base) F sc_law_pick (m := m_law_pick) (k := 0) (fun cdv A outer s H E hr => by
    exact (iss_cons (is_set (i := 3) sc_law_pick.nd ie_int)
    (iss_cons (is_if (it_cmp op_lt oi_lt (ie_var 1) (ie_B call_len ci_len T.b_len (by decide +kernel) (ia_cons (ie_var 0) ia_nil)) (nomark _))
    (iss_one (is_set (i := 3) sc_law_pick.nd (ie_ix (ie_var 0) (ie_var 1))))
    iss_nil)
    (iss_cons (is_if (it_cmp op_lt oi_lt (ie_bin or_addM oi_add (ie_var 1) ie_int) (ie_B call_len ci_len T.b_len (by decide +kernel) (ia_cons (ie_var 0) ia_nil)) (nomark _))
    (iss_one (is_set (i := 3) sc_law_pick.nd (ie_bin or_addM oi_add (ie_var 3) (ie_bin or_mulM oi_mul ie_int (ie_ix (ie_var 0) (ie_bin or_addM oi_add (ie_var 1) ie_int))))))
    iss_nil)
    (iss_one (is_ret (ie_bin op_mod oi_mod (ie_BT call_int1 ci_int T.b_int (by decide +kernel) (ia_cons (ie_var 3) ia_nil)) (ie_var 2))))))))
  exact h
theorem ok_law_pick (T : Tx K w mg) : ∃ fd, FI P w K mg base 1 (He.fAd K ("_law_pick", none)) fd ps_law_pick f_law_pick ∧ PySem.W.keepIn K (.ref (He.fAd K ("_law_pick", none))) = true ∧ (∃ ds, Vals (([] : List V).drop 0 : List V) ds ∧ Binds K fd ps_law_pick ds) := by
  obtain ⟨fd, F⟩ := T.d_law_pick
  exact ⟨fd, fi_law_pick T F, F.kp, ⟨[], .nil, F.bindsN fun _ _ _ _ _ _ us hl => match us, hl with | [_, _, _], _ => rfl⟩⟩
theorem fi_law_pages (T : Tx K w mg) {fd : FuncData} (F : FunD K "_law_pages" "_law_pages" (defArgs st_law_pages) (defBody st_law_pages) (defScope st_law_pages) ([] : List V) [] (He.fAd K ("_law_pages", none)) fd) : FI P w K mg base 2 (He.fAd K ("_law_pages", none)) fd ps_law_pages f_law_pages := by
  obtain ⟨fd_law_pick, F_law_pick, k_law_pick, ⟨ds_law_pick_3, v_law_pick_3, b_law_pick_3⟩⟩ := ok_law_pick (P := P) (w := w) (base := base) T
  have w_law_pick_3 : GVals K (([] : List V).drop 0) [] := trivial
  have h := fi_of (P := P) (w := w) (mg := mg) (base := base) F sc_law_pages (m := m_law_pages) (k := 1) (fun cdv A outer s H E hr => by
    exact (iss_one (is_ret (ie_lc [("_law_k", 1)] rfl rfl sc_law_pages.nd (ii_range1 T.b_range ie_int) (blkOk_by (own := [("_law_k", 1)]) (N := N_law_pages) (sc := defScope st_law_pages) (by decide +kernel)) (by decide) (fun _ _ _ _ _ => (ig_name 1 sc_law_pages.nd)) (fun _ _ _ _ _ => its_nil) (fun _ _ _ _ _ => (ie_tup (ia_cons (ie_bin op_mod oi_mod (ie_BT call_int1 ci_int T.b_int (by decide +kernel) (ia_cons (ie_bin or_addM oi_add (ie_var 1) (ie_call L2.takes0 F_law_pick rfl (hr.mono (by decide)) T.g__law_pick k_law_pick b_law_pick_3 v_law_pick_3 w_law_pick_3 (ia_cons (ie_var 0) (ia_cons (ie_bin or_mulM oi_mul ie_int (ie_var 1)) (ia_cons ie_int ia_nil))))) ia_nil)) ie_int) (ia_cons (ie_bin op_sub oi_sub ie_int (ie_call L2.takes0 F_law_pick rfl (hr.mono (by decide)) T.g__law_pick k_law_pick b_law_pick_3 v_law_pick_3 w_law_pick_3 (ia_cons (ie_var 0) (ia_cons (ie_bin or_addM oi_add ie_int (ie_bin or_mulM oi_mul ie_int (ie_var 1))) (ia_cons ie_int ia_nil))))) ia_nil))))))))
  exact h
theorem ok_law_pages (T : Tx K w mg) : ∃ fd, FI P w K mg base 2 (He.fAd K ("_law_pages", none)) fd ps_law_pages f_law_pages ∧ PySem.W.keepIn K (.ref (He.fAd K ("_law_pages", none))) = true ∧ (∃ ds, Vals (([] : List V).drop 0 : List V) ds ∧ Binds K fd ps_law_pages ds) := by
  obtain ⟨fd, F⟩ := T.d_law_pages
  exact ⟨fd, fi_law_pages T F, F.kp, ⟨[], .nil, F.bindsN fun _ _ _ _ _ _ us hl => match us, hl with | [_], _ => rfl⟩⟩
theorem fi_law_cells (T : Tx K w mg) {fd : FuncData} (F : FunD K "_law_cells" "_law_cells" (defArgs st_law_cells) (defBody st_law_cells) (defScope st_law_cells) ([] : List V) [] (He.fAd K ("_law_cells", none)) fd) : FI P w K mg base 2 (He.fAd K ("_law_cells", none)) fd ps_law_cells f_law_cells := by
  obtain ⟨fd_law_pick, F_law_pick, k_law_pick, ⟨ds_law_pick_3, v_law_pick_3, b_law_pick_3⟩⟩ := ok_law_pick (P := P) (w := w) (base := base) T
  have w_law_pick_3 : GVals K (([] : List V).drop 0) [] := trivial
  have h := fi_of (P := P) (w := w) (mg := mg) (base := base) F sc_law_cells (m := m_law_cells) (k := 1) (fun cdv A outer s H E hr => by
    exact (iss_cons (is_set (i := 1) sc_law_cells.nd (ie_lst ia_nil))
    (iss_cons (is_for (L2.passes_of rfl) rfl (ii_range1 T.b_range ie_int) (ig_name 2 sc_law_cells.nd)
    (iss_cons (is_set (i := 3) sc_law_cells.nd (ie_lst ia_nil))
    (iss_cons (is_for (L2.passes_of rfl) rfl (ii_range1 T.b_range ie_int) (ig_name 4 sc_law_cells.nd)
    (iss_cons (is_set (i := 5) sc_law_cells.nd ie_int)
    (iss_cons (is_if (it_cmp (or_eqM hr.units) oi_eq (ie_bin op_mod oi_mod (ie_BT call_int1 ci_int T.b_int (by decide +kernel) (ia_cons (ie_bin or_addM oi_add (ie_var 2) (ie_var 4)) ia_nil)) ie_int) ie_int (nomark _))
    (iss_one (is_set (i := 5) sc_law_cells.nd ie_int))
    iss_nil)
    (iss_one (is_expr (ie_mt PySem.F.plainAttrs_list PySem.F.slot_list_append PySem.F.type_list_append mt_append chk_list mi_append (ie_var 3) (ia_cons (ie_call (L2.takes_of rfl rfl rfl rfl) F_law_pick rfl (hr.mono (by decide)) T.g__law_pick k_law_pick b_law_pick_3 v_law_pick_3 w_law_pick_3 (ia_cons (ie_var 0) (ia_cons (ie_bin or_addM oi_add ie_int (ie_bin or_mulM oi_mul ie_int (ie_bin or_addM oi_add (ie_bin or_mulM oi_mul ie_int (ie_var 2)) (ie_var 4)))) (ia_cons (ie_var 5) ia_nil)))) ia_nil)))))))
    (iss_one (is_expr (ie_mt PySem.F.plainAttrs_list PySem.F.slot_list_append PySem.F.type_list_append mt_append chk_list mi_append (ie_var 1) (ia_cons (ie_var 3) ia_nil)))))))
    (iss_one (is_ret (ie_var 1))))))
  exact h
theorem ok_law_cells (T : Tx K w mg) : ∃ fd, FI P w K mg base 2 (He.fAd K ("_law_cells", none)) fd ps_law_cells f_law_cells ∧ PySem.W.keepIn K (.ref (He.fAd K ("_law_cells", none))) = true ∧ (∃ ds, Vals (([] : List V).drop 0 : List V) ds ∧ Binds K fd ps_law_cells ds) := by
  obtain ⟨fd, F⟩ := T.d_law_cells
  exact ⟨fd, fi_law_cells T F, F.kp, ⟨[], .nil, F.bindsN fun _ _ _ _ _ _ us hl => match us, hl with | [_], _ => rfl⟩⟩
theorem fi_Processor_init (T : Tx K w mg) {fd : FuncData} (F : FunD K "__init__" "Processor.__init__" (defArgs st_Processor_init) (defBody st_Processor_init) (defScope st_Processor_init) ([] : List V) [] (He.fAd K ("Processor", some "__init__")) fd) : FI P w K mg base 1 (He.fAd K ("Processor", some "__init__")) fd ps_Processor_init f_Processor_init := by
  have h := fi_of (P := P) (w := w) (mg := mg) (base := base) F sc_Processor_init (m := m_Processor_init) (k := 0) (fun cdv A outer s H E hr => by
    exact (iss_cons (is_fld T.att (ie_var 0) ie_int (by decide +kernel))
    (iss_cons (is_if (it_cmp or_isNM oi_isN (ie_var 1) ie_non (nomark _))
    (iss_one (is_fld T.att (ie_var 0) (ie_var 1) (by decide +kernel)))
    iss_nil)
    (iss_cons (is_fld T.att (ie_var 0) (ie_bin or_mulM oi_mul (ie_lst (ia_cons ie_int ia_nil)) (ie_con T.c_REGISTERS)) (by decide +kernel))
    (iss_cons (is_fld T.att (ie_var 0) ie_int (by decide +kernel))
    (iss_cons (is_fld T.att (ie_var 0) ie_int (by decide +kernel))
    (iss_cons (is_fld T.att (ie_var 0) ie_int (by decide +kernel))
    (iss_cons (is_fld T.att (ie_var 0) ie_bl (by decide +kernel))
    (iss_cons (is_fld T.att (ie_var 0) ie_bl (by decide +kernel))
    (iss_cons (is_fld T.att (ie_var 0) (ie_tup (ia_cons ie_int (ia_cons ie_int (ia_cons ie_bl ia_nil)))) (by decide +kernel))
    (iss_one (is_fld T.att (ie_var 0) (ie_cmp or_isM oi_is (ie_var 1) ie_non (nomark _)) (by decide +kernel)))))))))))))
  exact h
theorem ok_Processor_init (T : Tx K w mg) : ∃ fd, FI P w K mg base 1 (He.fAd K ("Processor", some "__init__")) fd ps_Processor_init f_Processor_init ∧ PySem.W.keepIn K (.ref (He.fAd K ("Processor", some "__init__"))) = true ∧ (∃ ds, Vals (([] : List V).drop 0 : List V) ds ∧ Binds K fd ps_Processor_init ds) := by
  obtain ⟨fd, F⟩ := T.d_Processor_init
  exact ⟨fd, fi_Processor_init T F, F.kp, ⟨[], .nil, F.bindsN fun _ _ _ _ _ _ us hl => match us, hl with | [_, _], _ => rfl⟩⟩
theorem fi_Machine_init (T : Tx K w mg) {fd : FuncData} (F : FunD K "__init__" "Machine.__init__" (defArgs st_Machine_init) (defBody st_Machine_init) (defScope st_Machine_init) ([] : List V) [] (He.fAd K ("Machine", some "__init__")) fd) : FI P w K mg base 3 (He.fAd K ("Machine", some "__init__")) fd ps_Machine_init f_Machine_init := by
  obtain ⟨fd_Processor_init, F_Processor_init, k_Processor_init, ⟨ds_Processor_init_2, v_Processor_init_2, b_Processor_init_2⟩⟩ := ok_Processor_init (P := P) (w := w) (base := base) T
  have w_Processor_init_2 : GVals K (([] : List V).drop 0) [] := trivial
  have h := fi_of (P := P) (w := w) (mg := mg) (base := base) F sc_Machine_init (m := m_Machine_init) (k := 2) (fun cdv A outer s H E hr => by
    exact (iss_cons (is_fld T.att (ie_var 0) (ie_var 1) (by decide +kernel))
    (iss_cons (is_fld T.att (ie_var 0) (ie_lc [("frame", 2)] rfl rfl sc_Machine_init.nd (ii_seq (ie_fld T.att (ie_var 1) (by decide +kernel))) (blkOk_by (own := [("frame", 2)]) (N := N_Machine_init) (sc := defScope st_Machine_init) (by decide +kernel)) (by decide) (fun _ _ _ _ _ => (ig_name 2 sc_Machine_init.nd)) (fun _ _ _ _ _ => its_nil) (fun _ _ _ _ _ => (ie_BT call_list_of ci_list T.b_list (by decide +kernel) (ia_cons (ie_var 2) ia_nil)))) (by decide +kernel))
    (iss_cons (is_fld T.att (ie_var 0) (ie_BT call_list_of ci_list T.b_list (by decide +kernel) (ia_cons (ie_fld T.att (ie_var 1) (by decide +kernel)) ia_nil)) (by decide +kernel))
    (iss_cons (is_fld T.att (ie_var 0) (ie_lc [("start", 3)] rfl rfl sc_Machine_init.nd (ii_seq (ie_fld T.att (ie_var 1) (by decide +kernel))) (blkOk_by (own := [("start", 3)]) (N := N_Machine_init) (sc := defScope st_Machine_init) (by decide +kernel)) (by decide) (fun _ _ _ _ _ => (ig_name 3 sc_Machine_init.nd)) (fun _ _ _ _ _ => its_nil) (fun _ _ _ _ _ => (ie_make L2.takes0 T.mk_Processor (congrArg (He.ga K) e_Processor.symm) F_Processor_init rfl (hr.mono (by decide)) T.g_Processor b_Processor_init_2 v_Processor_init_2 w_Processor_init_2 (ia_cons (ie_var 3) ia_nil)))) (by decide +kernel))
    (iss_one (is_fld T.att (ie_var 0) ie_int (by decide +kernel))))))))
  exact h
theorem ok_Machine_init (T : Tx K w mg) : ∃ fd, FI P w K mg base 3 (He.fAd K ("Machine", some "__init__")) fd ps_Machine_init f_Machine_init ∧ PySem.W.keepIn K (.ref (He.fAd K ("Machine", some "__init__"))) = true ∧ (∃ ds, Vals (([] : List V).drop 0 : List V) ds ∧ Binds K fd ps_Machine_init ds) := by
  obtain ⟨fd, F⟩ := T.d_Machine_init
  exact ⟨fd, fi_Machine_init T F, F.kp, ⟨[], .nil, F.bindsN fun _ _ _ _ _ _ us hl => match us, hl with | [_, _], _ => rfl⟩⟩
theorem fi_within (T : Tx K w mg) {fd : FuncData} (F : FunD K "within" "within" (defArgs st_within) (defBody st_within) (defScope st_within) ([] : List V) [] (He.fAd K ("within", none)) fd) : FI P w K mg base 1 (He.fAd K ("within", none)) fd ps_within f_within := by
  have h := fi_of (P := P) (w := w) (mg := mg) (base := base) F sc_within (m := m_within) (k := 0) (fun cdv A outer s H E hr => by
    exact (iss_cons (is_if (it_cmp (or_neM hr.units) oi_ne (ie_B call_len ci_len T.b_len (by decide +kernel) (ia_cons (ie_var 0) ia_nil)) (ie_B call_len ci_len T.b_len (by decide +kernel) (ia_cons (ie_var 1) ia_nil)) (nomark _))
    (iss_one (is_ret ie_bl))
    iss_nil)
    (iss_cons (is_for (L2.passes_of rfl) rfl (ii_range1 T.b_range (ie_B call_len ci_len T.b_len (by decide +kernel) (ia_cons (ie_var 1) ia_nil))) (ig_name 2 sc_within.nd)
    (iss_one (is_if (it_not (it_chain op_le op_lt oi_le oi_lt ie_int (ie_ix (ie_var 0) (ie_var 2)) (ie_ix (ie_var 1) (ie_var 2))))
    (iss_one (is_ret ie_bl))
    iss_nil)))
    (iss_one (is_ret ie_bl)))))
  exact h
theorem ok_within (T : Tx K w mg) : ∃ fd, FI P w K mg base 1 (He.fAd K ("within", none)) fd ps_within f_within ∧ PySem.W.keepIn K (.ref (He.fAd K ("within", none))) = true ∧ (∃ ds, Vals (([] : List V).drop 0 : List V) ds ∧ Binds K fd ps_within ds) := by
  obtain ⟨fd, F⟩ := T.d_within
  exact ⟨fd, fi_within T F, F.kp, ⟨[], .nil, F.bindsN fun _ _ _ _ _ _ us hl => match us, hl with | [_, _], _ => rfl⟩⟩
theorem fi_check_guest (T : Tx K w mg) {fd : FuncData} (F : FunD K "check_guest" "check_guest" (defArgs st_check_guest) (defBody st_check_guest) (defScope st_check_guest) ([] : List V) [] (He.fAd K ("check_guest", none)) fd) : FI P w K mg base 2 (He.fAd K ("check_guest", none)) fd ps_check_guest f_check_guest := by
  obtain ⟨fd_within, F_within, k_within, ⟨ds_within_2, v_within_2, b_within_2⟩⟩ := ok_within (P := P) (w := w) (base := base) T
  have w_within_2 : GVals K (([] : List V).drop 0) [] := trivial
  have h := fi_of (P := P) (w := w) (mg := mg) (base := base) F sc_check_guest (m := m_check_guest) (k := 1) (fun cdv A outer s H E hr => by
    exact (iss_cons (is_if (it_w (iw_or (it_cmp (or_neM hr.units) oi_ne (ie_B call_len ci_len T.b_len (by decide +kernel) (ia_cons (ie_fld T.att (ie_var 0) (by decide +kernel)) ia_nil)) (ie_con T.c_FRAMES) (nomark _)) (iw_or1 (it_not (it_val (ie_B (cr_all rfl) ci_all T.b_all (by decide +kernel) (ia_cons (ie_lc [("frame", 1)] rfl rfl sc_check_guest.nd (ii_seq (ie_fld T.att (ie_var 0) (by decide +kernel))) (blkOk_by (own := [("frame", 1)]) (N := N_check_guest) (sc := defScope st_check_guest) (by decide +kernel)) (by decide) (fun _ _ _ _ _ => (ig_name 1 sc_check_guest.nd)) (fun _ _ _ _ _ => its_nil) (fun _ _ _ _ _ => (ie_call L2.takes0 F_within rfl (hr.mono (by decide)) T.g_within k_within b_within_2 v_within_2 w_within_2 (ia_cons (ie_var 1) (ia_cons (ie_bin or_mulM oi_mul (ie_lst (ia_cons (ie_con T.c_NUMBERS) ia_nil)) (ie_con T.c_CELLS)) ia_nil))))) ia_nil)))))))
    (iss_one is_bad)
    iss_nil)
    (iss_cons (is_if (it_w (iw_or (it_cmp (or_neM hr.units) oi_ne (ie_B call_len ci_len T.b_len (by decide +kernel) (ia_cons (ie_fld T.att (ie_var 0) (by decide +kernel)) ia_nil)) (ie_con T.c_PAGES) (nomark _)) (iw_or1 (it_not (it_val (ie_B (cr_all rfl) ci_all T.b_all (by decide +kernel) (ia_cons (ie_lc [("page", 2)] rfl rfl sc_check_guest.nd (ii_seq (ie_fld T.att (ie_var 0) (by decide +kernel))) (blkOk_by (own := [("page", 2)]) (N := N_check_guest) (sc := defScope st_check_guest) (by decide +kernel)) (by decide) (fun _ _ _ _ _ => (ig_name 2 sc_check_guest.nd)) (fun _ _ _ _ _ => its_nil) (fun _ _ _ _ _ => (ie_call L2.takes0 F_within rfl (hr.mono (by decide)) T.g_within k_within b_within_2 v_within_2 w_within_2 (ia_cons (ie_var 2) (ia_cons (ie_lst (ia_cons (ie_con T.c_FRAMES) (ia_cons ie_int ia_nil))) ia_nil))))) ia_nil)))))))
    (iss_one is_bad)
    iss_nil)
    (iss_cons (is_setLc [("start", 4)] rfl (i := 3) rfl sc_check_guest.nd rfl rfl (sw_true rfl rfl rfl (by decide +kernel)) (ii_seq (ie_fld T.att (ie_var 0) (by decide +kernel))) (blkOk_by (own := [("start", 4)]) (N := N_check_guest) (sc := defScope st_check_guest) (by decide +kernel)) (by decide) (fun _ _ _ _ _ => (ig_name 4 sc_check_guest.nd)) (fun _ _ _ _ _ => (its_one (it_cmp or_isNM oi_isN (ie_var 4) ie_non (nomark _)))) (fun _ _ _ _ _ => (ie_var 4)))
    (iss_cons (is_if (it_w (iw_or (it_cmp (or_neM hr.units) oi_ne (ie_B call_len ci_len T.b_len (by decide +kernel) (ia_cons (ie_fld T.att (ie_var 0) (by decide +kernel)) ia_nil)) (ie_con T.c_PROCESSORS) (nomark _)) (iw_or1 (it_not (it_val (ie_call (L2.takes_of rfl rfl rfl rfl) F_within rfl (hr.mono (by decide)) T.g_within k_within b_within_2 v_within_2 w_within_2 (ia_cons (ie_var 3) (ia_cons (ie_bin or_mulM oi_mul (ie_lst (ia_cons (ie_con T.c_ADDRESSES) ia_nil)) (ie_B call_len ci_len T.b_len (by decide +kernel) (ia_cons (ie_var 3) ia_nil))) ia_nil))))))))
    (iss_one is_bad)
    iss_nil)
    (iss_cons (is_if (it_not (it_val (ie_call (L2.takes_of rfl rfl rfl rfl) F_within rfl (hr.mono (by decide)) T.g_within k_within b_within_2 v_within_2 w_within_2 (ia_cons (ie_fld T.att (ie_var 0) (by decide +kernel)) (ia_cons (ie_bin or_mulM oi_mul (ie_lst (ia_cons (ie_con T.c_ADDRESSES) ia_nil)) (ie_con T.c_PROCESSORS)) ia_nil)))))
    (iss_one is_bad)
    iss_nil)
    (iss_one (is_if (it_w (iw_or (it_cmp op_gt oi_gt (ie_B call_len ci_len T.b_len (by decide +kernel) (ia_cons (ie_fld T.att (ie_var 0) (by decide +kernel)) ia_nil)) (ie_con T.c_MOST_WRITES) (nomark _)) (iw_or1 (it_not (it_val (ie_B (cr_all rfl) ci_all T.b_all (by decide +kernel) (ia_cons (ie_lc [("one", 5)] rfl rfl sc_check_guest.nd (ii_seq (ie_fld T.att (ie_var 0) (by decide +kernel))) (blkOk_by (own := [("one", 5)]) (N := N_check_guest) (sc := defScope st_check_guest) (by decide +kernel)) (by decide) (fun _ _ _ _ _ => (ig_name 5 sc_check_guest.nd)) (fun _ _ _ _ _ => its_nil) (fun _ _ _ _ _ => (ie_call L2.takes0 F_within rfl (hr.mono (by decide)) T.g_within k_within b_within_2 v_within_2 w_within_2 (ia_cons (ie_var 5) (ia_cons (ie_lst (ia_cons (ie_con T.c_FRAMES) (ia_cons (ie_con T.c_CELLS) (ia_cons (ie_con T.c_NUMBERS) ia_nil)))) ia_nil))))) ia_nil)))))))
    (iss_one is_bad)
    iss_nil))))))))
  exact h
theorem ok_check_guest (T : Tx K w mg) : ∃ fd, FI P w K mg base 2 (He.fAd K ("check_guest", none)) fd ps_check_guest f_check_guest ∧ PySem.W.keepIn K (.ref (He.fAd K ("check_guest", none))) = true ∧ (∃ ds, Vals (([] : List V).drop 0 : List V) ds ∧ Binds K fd ps_check_guest ds) := by
  obtain ⟨fd, F⟩ := T.d_check_guest
  exact ⟨fd, fi_check_guest T F, F.kp, ⟨[], .nil, F.bindsN fun _ _ _ _ _ _ us hl => match us, hl with | [_], _ => rfl⟩⟩
theorem fi_Guest_init (T : Tx K w mg) {fd : FuncData} (F : FunD K "__init__" "Guest.__init__" (defArgs st_Guest_init) (defBody st_Guest_init) (defScope st_Guest_init) ([.ref (He.dflAt ("Guest", some "__init__") 0 K), .ref (He.dflAt ("Guest", some "__init__") 1 K), .ref (He.dflAt ("Guest", some "__init__") 2 K), .ref (He.dflAt ("Guest", some "__init__") 3 K)] : List V) [] (He.fAd K ("Guest", some "__init__")) fd) : FI P w K mg base 3 (He.fAd K ("Guest", some "__init__")) fd ps_Guest_init f_Guest_init := by
  obtain ⟨fd_check_guest, F_check_guest, k_check_guest, ⟨ds_check_guest_1, v_check_guest_1, b_check_guest_1⟩⟩ := ok_check_guest (P := P) (w := w) (base := base) T
  have w_check_guest_1 : GVals K (([] : List V).drop 0) [] := trivial
  have h := fi_of (P := P) (w := w) (mg := mg) (base := base) F sc_Guest_init (m := m_Guest_init) (k := 2) (fun cdv A outer s H E hr => by
    exact (iss_cons (is_fld T.att (ie_var 0) (ie_BT call_tuple_of ci_tuple T.b_tuple (by decide +kernel) (ia_cons (ie_lc [("frame", 6)] rfl rfl sc_Guest_init.nd (ii_seq (ie_var 1)) (blkOk_by (own := [("frame", 6)]) (N := N_Guest_init) (sc := defScope st_Guest_init) (by decide +kernel)) (by decide) (fun _ _ _ _ _ => (ig_name 6 sc_Guest_init.nd)) (fun _ _ _ _ _ => its_nil) (fun _ _ _ _ _ => (ie_BT call_tuple_of ci_tuple T.b_tuple (by decide +kernel) (ia_cons (ie_var 6) ia_nil)))) ia_nil)) (by decide +kernel))
    (iss_cons (is_fld T.att (ie_var 0) (ie_BT call_tuple_of ci_tuple T.b_tuple (by decide +kernel) (ia_cons (ie_lc [("page", 7)] rfl rfl sc_Guest_init.nd (ii_seq (ie_var 2)) (blkOk_by (own := [("page", 7)]) (N := N_Guest_init) (sc := defScope st_Guest_init) (by decide +kernel)) (by decide) (fun _ _ _ _ _ => (ig_name 7 sc_Guest_init.nd)) (fun _ _ _ _ _ => its_nil) (fun _ _ _ _ _ => (ie_BT call_tuple_of ci_tuple T.b_tuple (by decide +kernel) (ia_cons (ie_var 7) ia_nil)))) ia_nil)) (by decide +kernel))
    (iss_cons (is_fld T.att (ie_var 0) (ie_BT call_tuple_of ci_tuple T.b_tuple (by decide +kernel) (ia_cons (ie_var 3) ia_nil)) (by decide +kernel))
    (iss_cons (is_fld T.att (ie_var 0) (ie_BT call_tuple_of ci_tuple T.b_tuple (by decide +kernel) (ia_cons (ie_var 4) ia_nil)) (by decide +kernel))
    (iss_cons (is_fld T.att (ie_var 0) (ie_BT call_tuple_of ci_tuple T.b_tuple (by decide +kernel) (ia_cons (ie_lc [("one", 8)] rfl rfl sc_Guest_init.nd (ii_seq (ie_var 5)) (blkOk_by (own := [("one", 8)]) (N := N_Guest_init) (sc := defScope st_Guest_init) (by decide +kernel)) (by decide) (fun _ _ _ _ _ => (ig_name 8 sc_Guest_init.nd)) (fun _ _ _ _ _ => its_nil) (fun _ _ _ _ _ => (ie_BT call_tuple_of ci_tuple T.b_tuple (by decide +kernel) (ia_cons (ie_var 8) ia_nil)))) ia_nil)) (by decide +kernel))
    (iss_one (is_expr (ie_call (L2.takes_of rfl rfl rfl rfl) F_check_guest rfl (hr.mono (by decide)) T.g_check_guest k_check_guest b_check_guest_1 v_check_guest_1 w_check_guest_1 (ia_cons (ie_var 0) ia_nil))))))))))
  exact h
theorem ok_Guest_init (T : Tx K w mg) : ∃ fd, FI P w K mg base 3 (He.fAd K ("Guest", some "__init__")) fd ps_Guest_init f_Guest_init ∧ PySem.W.keepIn K (.ref (He.fAd K ("Guest", some "__init__"))) = true ∧ (∃ ds, Vals (([.ref (He.dflAt ("Guest", some "__init__") 0 K), .ref (He.dflAt ("Guest", some "__init__") 1 K), .ref (He.dflAt ("Guest", some "__init__") 2 K), .ref (He.dflAt ("Guest", some "__init__") 3 K)] : List V).drop 2 : List V) ds ∧ Binds K fd ps_Guest_init ds) := by
  obtain ⟨fd, F⟩ := T.d_Guest_init
  exact ⟨fd, fi_Guest_init T F, F.kp, F.binds1 4 2 (by simp) rfl fun _ _ _ _ _ _ _ us its hu hi => match us, hu, its, hi with | [_, _, _, _], _, [_, _, _, _], _ => ⟨_, rfl, rfl⟩⟩
theorem fi_Processor_key (T : Tx K w mg) {fd : FuncData} (F : FunD K "key" "Processor.key" (defArgs st_Processor_key) (defBody st_Processor_key) (defScope st_Processor_key) ([] : List V) [] (He.fAd K ("Processor", some "key")) fd) : FI P w K mg base 1 (He.fAd K ("Processor", some "key")) fd ps_Processor_key f_Processor_key := by
  have h := fi_of (P := P) (w := w) (mg := mg) (base := base) F sc_Processor_key (m := m_Processor_key) (k := 0) (fun cdv A outer s H E hr => by
    exact (iss_cons (is_set (i := 1) sc_Processor_key.nd (ie_tup (ia_cons (ie_fld T.att (ie_var 0) (by decide +kernel)) (ia_cons (ie_fld T.att (ie_var 0) (by decide +kernel)) ia_nil))))
    (iss_one (is_ret (ie_tup (ia_cons (ie_fld T.att (ie_var 0) (by decide +kernel)) (ia_cons (ie_BT call_tuple_of ci_tuple T.b_tuple (by decide +kernel) (ia_cons (ie_fld T.att (ie_var 0) (by decide +kernel)) ia_nil)) (ia_cons (ie_var 1) (ia_cons (ie_fld T.att (ie_var 0) (by decide +kernel)) (ia_cons (ie_fld T.att (ie_var 0) (by decide +kernel)) (ia_cons (ie_fld T.att (ie_var 0) (by decide +kernel)) (ia_cons (ie_fld T.att (ie_var 0) (by decide +kernel)) (ia_cons (ie_fld T.att (ie_var 0) (by decide +kernel)) ia_nil)))))))))))))
  exact h
theorem ok_Processor_key (T : Tx K w mg) : ∃ fd, FI P w K mg base 1 (He.fAd K ("Processor", some "key")) fd ps_Processor_key f_Processor_key ∧ PySem.W.keepIn K (.ref (He.fAd K ("Processor", some "key"))) = true ∧ (∃ ds, Vals (([] : List V).drop 0 : List V) ds ∧ Binds K fd ps_Processor_key ds) := by
  obtain ⟨fd, F⟩ := T.d_Processor_key
  exact ⟨fd, fi_Processor_key T F, F.kp, ⟨[], .nil, F.bindsN fun _ _ _ _ _ _ us hl => match us, hl with | [_], _ => rfl⟩⟩
theorem fi_Machine_key (T : Tx K w mg) {fd : FuncData} (F : FunD K "key" "Machine.key" (defArgs st_Machine_key) (defBody st_Machine_key) (defScope st_Machine_key) ([] : List V) [] (He.fAd K ("Machine", some "key")) fd) : FI P w K mg base 2 (He.fAd K ("Machine", some "key")) fd ps_Machine_key f_Machine_key := by
  obtain ⟨fd_Processor_key, F_Processor_key, k_Processor_key, ⟨ds_Processor_key_1, v_Processor_key_1, b_Processor_key_1⟩⟩ := ok_Processor_key (P := P) (w := w) (base := base) T
  have w_Processor_key_1 : GVals K (([] : List V).drop 0) [] := trivial
  have h := fi_of (P := P) (w := w) (mg := mg) (base := base) F sc_Machine_key (m := m_Machine_key) (k := 1) (fun cdv A outer s H E hr => by
    exact (iss_cons (is_set (i := 1) sc_Machine_key.nd (ie_BT call_tuple_of ci_tuple T.b_tuple (by decide +kernel) (ia_cons (ie_lc [("frame", 2)] rfl rfl sc_Machine_key.nd (ii_seq (ie_fld T.att (ie_var 0) (by decide +kernel))) (blkOk_by (own := [("frame", 2)]) (N := N_Machine_key) (sc := defScope st_Machine_key) (by decide +kernel)) (by decide) (fun _ _ _ _ _ => (ig_name 2 sc_Machine_key.nd)) (fun _ _ _ _ _ => its_nil) (fun _ _ _ _ _ => (ie_BT call_tuple_of ci_tuple T.b_tuple (by decide +kernel) (ia_cons (ie_var 2) ia_nil)))) ia_nil)))
    (iss_one (is_ret (ie_tup (ia_cons (ie_var 1) (ia_cons (ie_BT call_tuple_of ci_tuple T.b_tuple (by decide +kernel) (ia_cons (ie_fld T.att (ie_var 0) (by decide +kernel)) ia_nil)) (ia_cons (ie_BT call_tuple_of ci_tuple T.b_tuple (by decide +kernel) (ia_cons (ie_lc [("one", 3)] rfl rfl sc_Machine_key.nd (ii_seq (ie_fld T.att (ie_var 0) (by decide +kernel))) (blkOk_by (own := [("one", 3)]) (N := N_Machine_key) (sc := defScope st_Machine_key) (by decide +kernel)) (by decide) (fun _ _ _ _ _ => (ig_name 3 sc_Machine_key.nd)) (fun _ _ _ _ _ => its_nil) (fun _ _ _ _ _ => (ie_meth0 L2.takes0 (ie_var 3) (congrArg (He.ga K) e_Processor.symm) T.cl_Processor T.me_Processor_key (by decide +kernel) F_Processor_key rfl (hr.mono (by decide)) b_Processor_key_1 v_Processor_key_1 w_Processor_key_1))) ia_nil)) (ia_cons (ie_fld T.att (ie_var 0) (by decide +kernel)) ia_nil)))))))))
  exact h
theorem ok_Machine_key (T : Tx K w mg) : ∃ fd, FI P w K mg base 2 (He.fAd K ("Machine", some "key")) fd ps_Machine_key f_Machine_key ∧ PySem.W.keepIn K (.ref (He.fAd K ("Machine", some "key"))) = true ∧ (∃ ds, Vals (([] : List V).drop 0 : List V) ds ∧ Binds K fd ps_Machine_key ds) := by
  obtain ⟨fd, F⟩ := T.d_Machine_key
  exact ⟨fd, fi_Machine_key T F, F.kp, ⟨[], .nil, F.bindsN fun _ _ _ _ _ _ us hl => match us, hl with | [_], _ => rfl⟩⟩
theorem fi_law_whole (T : Tx K w mg) {fd : FuncData} (F : FunD K "_law_whole" "_law_whole" (defArgs st_law_whole) (defBody st_law_whole) (defScope st_law_whole) ([] : List V) [] (He.fAd K ("_law_whole", none)) fd) : FI P w K mg base 1 (He.fAd K ("_law_whole", none)) fd ps_law_whole f_law_whole := by
  have h := fi_of (P := P) (w := w) (mg := mg) (base := base) F sc_law_whole (m := m_law_whole) (k := 0) (fun cdv A outer s H E hr => by
    exact (iss_one (is_ret (ie_and (ie_B call_isi ci_isi T.b_isinstance (by decide +kernel) (ia_cons (ie_var 0) (ia_cons (ie_ty (t := .int) T.b_int (by decide +kernel)) ia_nil))) (ie_one (ie_not (ie_B call_isi ci_isi T.b_isinstance (by decide +kernel) (ia_cons (ie_var 0) (ia_cons (ie_ty (t := .bool) T.b_bool (by decide +kernel)) ia_nil)))))))))
  exact h
theorem ok_law_whole (T : Tx K w mg) : ∃ fd, FI P w K mg base 1 (He.fAd K ("_law_whole", none)) fd ps_law_whole f_law_whole ∧ PySem.W.keepIn K (.ref (He.fAd K ("_law_whole", none))) = true ∧ (∃ ds, Vals (([] : List V).drop 0 : List V) ds ∧ Binds K fd ps_law_whole ds) := by
  obtain ⟨fd, F⟩ := T.d_law_whole
  exact ⟨fd, fi_law_whole T F, F.kp, ⟨[], .nil, F.bindsN fun _ _ _ _ _ _ us hl => match us, hl with | [_], _ => rfl⟩⟩
theorem fi_law_same (T : Tx K w mg) {fd : FuncData} (F : FunD K "_law_same" "_law_same" (defArgs st_law_same) (defBody st_law_same) (defScope st_law_same) ([] : List V) [] (He.fAd K ("_law_same", none)) fd) : FI P w K mg base 2 (He.fAd K ("_law_same", none)) fd ps_law_same f_law_same := by
  obtain ⟨fd_law_whole, F_law_whole, k_law_whole, ⟨ds_law_whole_1, v_law_whole_1, b_law_whole_1⟩⟩ := ok_law_whole (P := P) (w := w) (base := base) T
  have w_law_whole_1 : GVals K (([] : List V).drop 0) [] := trivial
  have h := fi_of (P := P) (w := w) (mg := mg) (base := base) F sc_law_same (m := m_law_same) (k := 1) (fun cdv A outer s H E hr => by
    exact (iss_cons (is_if (it_w (iw_or (it_not (it_val (ie_B call_isi ci_isi T.b_isinstance (by decide +kernel) (ia_cons (ie_var 0) (ia_cons (ie_ty (t := .tuple) T.b_tuple (by decide +kernel)) ia_nil))))) (iw_or1 (it_cmp (or_neM hr.units) oi_ne (ie_B call_len ci_len T.b_len (by decide +kernel) (ia_cons (ie_var 0) ia_nil)) ie_int (nomark _)))))
    (iss_one (is_ret ie_bl))
    iss_nil)
    (iss_cons (is_if (it_cmp or_isM oi_is (ie_ix (ie_var 1) ie_int) ie_non (nomark _))
    (iss_one (is_ret (ie_and (ie_cmp or_isM oi_is (ie_ix (ie_var 0) ie_int) ie_non (nomark _)) (ie_and (ie_B call_isi ci_isi T.b_isinstance (by decide +kernel) (ia_cons (ie_ix (ie_var 0) ie_int) (ia_cons (ie_ty (t := .str) T.b_str (by decide +kernel)) ia_nil))) (ie_one (ie_cmp (or_eqM hr.units) oi_eq (ie_ix (ie_var 0) ie_int) (ie_ix (ie_var 1) ie_int) (nomark _)))))))
    iss_nil)
    (iss_cons (is_set (i := 2) sc_law_same.nd (ie_ix (ie_var 0) ie_int))
    (iss_cons (is_if (it_w (iw_or (it_cmp or_isNM oi_isN (ie_ix (ie_var 0) ie_int) ie_non (nomark _)) (iw_or (it_not (it_val (ie_B call_isi ci_isi T.b_isinstance (by decide +kernel) (ia_cons (ie_var 2) (ia_cons (ie_ty (t := .tuple) T.b_tuple (by decide +kernel)) ia_nil))))) (iw_or1 (it_cmp (or_neM hr.units) oi_ne (ie_B call_len ci_len T.b_len (by decide +kernel) (ia_cons (ie_var 2) ia_nil)) ie_int (nomark _))))))
    (iss_one (is_ret ie_bl))
    iss_nil)
    (iss_cons (is_if (it_w (iw_or (it_not (it_val (ie_B call_isi ci_isi T.b_isinstance (by decide +kernel) (ia_cons (ie_ix (ie_var 2) ie_int) (ia_cons (ie_ty (t := .str) T.b_str (by decide +kernel)) ia_nil))))) (iw_or1 (it_not (it_val (ie_B call_isi ci_isi T.b_isinstance (by decide +kernel) (ia_cons (ie_ix (ie_var 2) ie_int) (ia_cons (ie_ty (t := .tuple) T.b_tuple (by decide +kernel)) ia_nil))))))))
    (iss_one (is_ret ie_bl))
    iss_nil)
    (iss_cons (is_for (L2.passes_of rfl) rfl (ii_seq (ie_ix (ie_var 2) ie_int)) (ig_name 3 sc_law_same.nd)
    (iss_one (is_if (it_not (it_val (ie_call (L2.takes_of rfl rfl rfl rfl) F_law_whole rfl (hr.mono (by decide)) T.g__law_whole k_law_whole b_law_whole_1 v_law_whole_1 w_law_whole_1 (ia_cons (ie_var 3) ia_nil))))
    (iss_one (is_ret ie_bl))
    iss_nil)))
    (iss_one (is_ret (ie_and (ie_cmp (or_eqM hr.units) oi_eq (ie_ix (ie_var 2) ie_int) (ie_ix (ie_ix (ie_var 1) ie_int) ie_int) (nomark _)) (ie_one (ie_cmp (or_eqM hr.units) oi_eq (ie_BT call_list_of ci_list T.b_list (by decide +kernel) (ia_cons (ie_ix (ie_var 2) ie_int) ia_nil)) (ie_ix (ie_ix (ie_var 1) ie_int) ie_int) (nomark _)))))))))))))
  exact h
theorem ok_law_same (T : Tx K w mg) : ∃ fd, FI P w K mg base 2 (He.fAd K ("_law_same", none)) fd ps_law_same f_law_same ∧ PySem.W.keepIn K (.ref (He.fAd K ("_law_same", none))) = true ∧ (∃ ds, Vals (([] : List V).drop 0 : List V) ds ∧ Binds K fd ps_law_same ds) := by
  obtain ⟨fd, F⟩ := T.d_law_same
  exact ⟨fd, fi_law_same T F, F.kp, ⟨[], .nil, F.bindsN fun _ _ _ _ _ _ us hl => match us, hl with | [_, _], _ => rfl⟩⟩
theorem fi_law_kinds (T : Tx K w mg) {fd : FuncData} (F : FunD K "_law_kinds" "_law_kinds" (defArgs st_law_kinds) (defBody st_law_kinds) (defScope st_law_kinds) ([] : List V) [] (He.fAd K ("_law_kinds", none)) fd) : FI P w K mg base 1 (He.fAd K ("_law_kinds", none)) fd ps_law_kinds f_law_kinds := by
  have h := fi_of (P := P) (w := w) (mg := mg) (base := base) F sc_law_kinds (m := m_law_kinds) (k := 0) (fun cdv A outer s H E hr => by
    exact (iss_one (is_ret (ie_lst (ia_cons (ie_str (by decide +kernel)) (ia_cons (ie_str (by decide +kernel)) (ia_cons (ie_str (by decide +kernel)) (ia_cons (ie_str (by decide +kernel)) (ia_cons (ie_str (by decide +kernel)) (ia_cons (ie_str (by decide +kernel)) (ia_cons (ie_str (by decide +kernel)) (ia_cons (ie_str (by decide +kernel)) (ia_cons (ie_str (by decide +kernel)) (ia_cons (ie_str (by decide +kernel)) (ia_cons (ie_str (by decide +kernel)) (ia_cons (ie_str (by decide +kernel)) (ia_cons (ie_str (by decide +kernel)) (ia_cons (ie_str (by decide +kernel)) (ia_cons (ie_str (by decide +kernel)) (ia_cons (ie_str (by decide +kernel)) (ia_cons (ie_str (by decide +kernel)) (ia_cons (ie_str (by decide +kernel)) (ia_cons (ie_str (by decide +kernel)) ia_nil)))))))))))))))))))))))
  exact h
theorem ok_law_kinds (T : Tx K w mg) : ∃ fd, FI P w K mg base 1 (He.fAd K ("_law_kinds", none)) fd ps_law_kinds f_law_kinds ∧ PySem.W.keepIn K (.ref (He.fAd K ("_law_kinds", none))) = true ∧ (∃ ds, Vals (([] : List V).drop 0 : List V) ds ∧ Binds K fd ps_law_kinds ds) := by
  obtain ⟨fd, F⟩ := T.d_law_kinds
  exact ⟨fd, fi_law_kinds T F, F.kp, ⟨[], .nil, F.bindsN fun _ _ _ _ _ _ us hl => match us, hl with | [], _ => rfl⟩⟩
theorem fi_law_limit (T : Tx K w mg) {fd : FuncData} (F : FunD K "_law_limit" "_law_limit" (defArgs st_law_limit) (defBody st_law_limit) (defScope st_law_limit) ([] : List V) [] (He.fAd K ("_law_limit", none)) fd) : FI P w K mg base 1 (He.fAd K ("_law_limit", none)) fd ps_law_limit f_law_limit := by
  have h := fi_of (P := P) (w := w) (mg := mg) (base := base) F sc_law_limit (m := m_law_limit) (k := 0) (fun cdv A outer s H E hr => by
    exact (iss_cons (is_if (it_cmp (or_eqM hr.units) oi_eq (ie_var 0) (ie_str (by decide +kernel)) (nomark _))
    (iss_one (is_ret ie_int))
    iss_nil)
    (iss_cons (is_if (it_cmp (or_eqM hr.units) oi_eq (ie_var 0) (ie_str (by decide +kernel)) (nomark _))
    (iss_one (is_ret ie_int))
    iss_nil)
    (iss_cons (is_if (it_cmp (or_eqM hr.units) oi_eq (ie_var 0) (ie_str (by decide +kernel)) (nomark _))
    (iss_one (is_ret ie_int))
    iss_nil)
    (iss_one (is_ret ie_int))))))
  exact h
theorem ok_law_limit (T : Tx K w mg) : ∃ fd, FI P w K mg base 1 (He.fAd K ("_law_limit", none)) fd ps_law_limit f_law_limit ∧ PySem.W.keepIn K (.ref (He.fAd K ("_law_limit", none))) = true ∧ (∃ ds, Vals (([] : List V).drop 0 : List V) ds ∧ Binds K fd ps_law_limit ds) := by
  obtain ⟨fd, F⟩ := T.d_law_limit
  exact ⟨fd, fi_law_limit T F, F.kp, ⟨[], .nil, F.bindsN fun _ _ _ _ _ _ us hl => match us, hl with | [_], _ => rfl⟩⟩
theorem fi_law_names (T : Tx K w mg) {fd : FuncData} (F : FunD K "_law_names" "_law_names" (defArgs st_law_names) (defBody st_law_names) (defScope st_law_names) ([] : List V) [] (He.fAd K ("_law_names", none)) fd) : FI P w K mg base 1 (He.fAd K ("_law_names", none)) fd ps_law_names f_law_names := by
  have h := fi_of (P := P) (w := w) (mg := mg) (base := base) F sc_law_names (m := m_law_names) (k := 0) (fun cdv A outer s H E hr => by
    exact (iss_cons (is_set (i := 0) sc_law_names.nd (ie_str (by decide +kernel)))
    (iss_one (is_ret (ie_mt PySem.F.plainAttrs_str PySem.F.slot_str_split PySem.F.type_str_split mt_split chk_str mi_split (ie_var 0) (ia_cons (ie_str (by decide +kernel)) ia_nil))))))
  exact h
theorem ok_law_names (T : Tx K w mg) : ∃ fd, FI P w K mg base 1 (He.fAd K ("_law_names", none)) fd ps_law_names f_law_names ∧ PySem.W.keepIn K (.ref (He.fAd K ("_law_names", none))) = true ∧ (∃ ds, Vals (([] : List V).drop 0 : List V) ds ∧ Binds K fd ps_law_names ds) := by
  obtain ⟨fd, F⟩ := T.d_law_names
  exact ⟨fd, fi_law_names T F, F.kp, ⟨[], .nil, F.bindsN fun _ _ _ _ _ _ us hl => match us, hl with | [], _ => rfl⟩⟩
theorem fi_law_due (T : Tx K w mg) {fd : FuncData} (F : FunD K "_law_due" "_law_due" (defArgs st_law_due) (defBody st_law_due) (defScope st_law_due) ([] : List V) [] (He.fAd K ("_law_due", none)) fd) : FI P w K mg base 2 (He.fAd K ("_law_due", none)) fd ps_law_due f_law_due := by
  obtain ⟨fd_law_kinds, F_law_kinds, k_law_kinds, ⟨ds_law_kinds_0, v_law_kinds_0, b_law_kinds_0⟩⟩ := ok_law_kinds (P := P) (w := w) (base := base) T
  have w_law_kinds_0 : GVals K (([] : List V).drop 0) [] := trivial
  obtain ⟨fd_law_limit, F_law_limit, k_law_limit, ⟨ds_law_limit_1, v_law_limit_1, b_law_limit_1⟩⟩ := ok_law_limit (P := P) (w := w) (base := base) T
  have w_law_limit_1 : GVals K (([] : List V).drop 0) [] := trivial
  obtain ⟨fd_law_names, F_law_names, k_law_names, ⟨ds_law_names_0, v_law_names_0, b_law_names_0⟩⟩ := ok_law_names (P := P) (w := w) (base := base) T
  have w_law_names_0 : GVals K (([] : List V).drop 0) [] := trivial
  have h := fi_of (P := P) (w := w) (mg := mg) (base := base) F sc_law_due (m := m_law_due) (k := 1) (fun cdv A outer s H E hr => by
    exact (iss_cons (is_if (it_cmp (or_eqM hr.units) oi_eq (ie_bin op_mod oi_mod (ie_BT call_int1 ci_int T.b_int (by decide +kernel) (ia_cons (ie_ix (ie_ix (ie_var 1) (ie_bin op_fdiv oi_div (ie_var 2) ie_int)) ie_int) ia_nil)) ie_int) ie_int (nomark _))
    (iss_one (is_ret (ie_tup (ia_cons ie_non (ia_cons (ie_str (by decide +kernel)) ia_nil)))))
    iss_nil)
    (iss_cons (is_set (i := 3) sc_law_due.nd (ie_ix (ie_ix (ie_var 0) (ie_ix (ie_ix (ie_var 1) (ie_bin op_fdiv oi_div (ie_var 2) ie_int)) ie_int)) (ie_bin op_mod oi_mod (ie_BT call_int1 ci_int T.b_int (by decide +kernel) (ia_cons (ie_var 2) ia_nil)) ie_int)))
    (iss_cons (is_if (it_cmp op_gt oi_gt (ie_var 3) ie_int (nomark _))
    (iss_one (is_ret (ie_tup (ia_cons ie_non (ia_cons (ie_str (by decide +kernel)) ia_nil)))))
    iss_nil)
    (iss_cons (is_set (i := 4) sc_law_due.nd (ie_ix (ie_call0 (L2.takes_of rfl rfl rfl rfl) F_law_kinds rfl (hr.mono (by decide)) T.g__law_kinds k_law_kinds b_law_kinds_0 v_law_kinds_0 w_law_kinds_0) (ie_var 3)))
    (iss_cons (is_set (i := 5) sc_law_due.nd (ie_lst ia_nil))
    (iss_cons (is_for (L2.passes_of rfl) rfl (ii_range1 T.b_range (ie_B call_len ci_len T.b_len (by decide +kernel) (ia_cons (ie_var 4) ia_nil))) (ig_name 6 sc_law_due.nd)
    (iss_cons (is_set (i := 7) sc_law_due.nd (ie_bin op_mod oi_mod (ie_BT call_int1 ci_int T.b_int (by decide +kernel) (ia_cons (ie_bin or_addM oi_add (ie_bin or_addM oi_add (ie_var 2) ie_int) (ie_var 6)) ia_nil)) ie_int))
    (iss_cons (is_if (it_cmp (or_eqM hr.units) oi_eq (ie_bin op_mod oi_mod (ie_BT call_int1 ci_int T.b_int (by decide +kernel) (ia_cons (ie_ix (ie_ix (ie_var 1) (ie_bin op_fdiv oi_div (ie_var 7) ie_int)) ie_int) ia_nil)) ie_int) ie_int (nomark _))
    (iss_one (is_ret (ie_tup (ia_cons ie_non (ia_cons (ie_str (by decide +kernel)) ia_nil)))))
    iss_nil)
    (iss_one (is_expr (ie_mt PySem.F.plainAttrs_list PySem.F.slot_list_append PySem.F.type_list_append mt_append chk_list mi_append (ie_var 5) (ia_cons (ie_bin op_mod oi_mod (ie_BT call_int1 ci_int T.b_int (by decide +kernel) (ia_cons (ie_ix (ie_ix (ie_var 0) (ie_ix (ie_ix (ie_var 1) (ie_bin op_fdiv oi_div (ie_var 7) ie_int)) ie_int)) (ie_bin op_mod oi_mod (ie_BT call_int1 ci_int T.b_int (by decide +kernel) (ia_cons (ie_var 7) ia_nil)) ie_int)) ia_nil)) (ie_call (L2.takes_of rfl rfl rfl rfl) F_law_limit rfl (hr.mono (by decide)) T.g__law_limit k_law_limit b_law_limit_1 v_law_limit_1 w_law_limit_1 (ia_cons (ie_ix (ie_var 4) (ie_var 6)) ia_nil))) ia_nil)))))))
    (iss_one (is_ret (ie_tup (ia_cons (ie_tup (ia_cons (ie_ix (ie_call0 (L2.takes_of rfl rfl rfl rfl) F_law_names rfl (hr.mono (by decide)) T.g__law_names k_law_names b_law_names_0 v_law_names_0 w_law_names_0) (ie_var 3)) (ia_cons (ie_var 5) ia_nil))) (ia_cons ie_non ia_nil))))))))))))
  exact h
theorem ok_law_due (T : Tx K w mg) : ∃ fd, FI P w K mg base 2 (He.fAd K ("_law_due", none)) fd ps_law_due f_law_due ∧ PySem.W.keepIn K (.ref (He.fAd K ("_law_due", none))) = true ∧ (∃ ds, Vals (([] : List V).drop 0 : List V) ds ∧ Binds K fd ps_law_due ds) := by
  obtain ⟨fd, F⟩ := T.d_law_due
  exact ⟨fd, fi_law_due T F, F.kp, ⟨[], .nil, F.bindsN fun _ _ _ _ _ _ us hl => match us, hl with | [_, _, _], _ => rfl⟩⟩
theorem fi_Machine_rights_at (T : Tx K w mg) {fd : FuncData} (F : FunD K "rights_at" "Machine.rights_at" (defArgs st_Machine_rights_at) (defBody st_Machine_rights_at) (defScope st_Machine_rights_at) ([] : List V) [] (He.fAd K ("Machine", some "rights_at")) fd) : FI P w K mg base 1 (He.fAd K ("Machine", some "rights_at")) fd ps_Machine_rights_at f_Machine_rights_at := by
  have h := fi_of (P := P) (w := w) (mg := mg) (base := base) F sc_Machine_rights_at (m := m_Machine_rights_at) (k := 0) (fun cdv A outer s H E hr => by
    exact (iss_one (is_ret (ie_ix (ie_ix (ie_fld T.att (ie_var 0) (by decide +kernel)) (ie_bin op_fdiv oi_div (ie_var 1) (ie_con T.c_CELLS))) ie_int))))
  exact h
theorem ok_Machine_rights_at (T : Tx K w mg) : ∃ fd, FI P w K mg base 1 (He.fAd K ("Machine", some "rights_at")) fd ps_Machine_rights_at f_Machine_rights_at ∧ PySem.W.keepIn K (.ref (He.fAd K ("Machine", some "rights_at"))) = true ∧ (∃ ds, Vals (([] : List V).drop 0 : List V) ds ∧ Binds K fd ps_Machine_rights_at ds) := by
  obtain ⟨fd, F⟩ := T.d_Machine_rights_at
  exact ⟨fd, fi_Machine_rights_at T F, F.kp, ⟨[], .nil, F.bindsN fun _ _ _ _ _ _ us hl => match us, hl with | [_, _], _ => rfl⟩⟩
theorem fi_may_execute (T : Tx K w mg) {fd : FuncData} (F : FunD K "may_execute" "may_execute" (defArgs st_may_execute) (defBody st_may_execute) (defScope st_may_execute) ([] : List V) [] (He.fAd K ("may_execute", none)) fd) : FI P w K mg base 2 (He.fAd K ("may_execute", none)) fd ps_may_execute f_may_execute := by
  obtain ⟨fd_Machine_rights_at, F_Machine_rights_at, k_Machine_rights_at, ⟨ds_Machine_rights_at_2, v_Machine_rights_at_2, b_Machine_rights_at_2⟩⟩ := ok_Machine_rights_at (P := P) (w := w) (base := base) T
  have w_Machine_rights_at_2 : GVals K (([] : List V).drop 0) [] := trivial
  have h := fi_of (P := P) (w := w) (mg := mg) (base := base) F sc_may_execute (m := m_may_execute) (k := 1) (fun cdv A outer s H E hr => by
    exact (iss_one (is_ret (ie_cmp (or_neM hr.units) oi_ne (ie_bin op_and oi_band (ie_meth (L2.takes_of rfl rfl rfl rfl) (ie_var 0) (congrArg (He.ga K) e_Machine.symm) T.cl_Machine T.me_Machine_rights_at (by decide +kernel) F_Machine_rights_at rfl (hr.mono (by decide)) b_Machine_rights_at_2 v_Machine_rights_at_2 w_Machine_rights_at_2 (ia_cons (ie_var 1) ia_nil)) (ie_con T.c_EXECUTE)) ie_int (nomark _)))))
  exact h
theorem ok_may_execute (T : Tx K w mg) : ∃ fd, FI P w K mg base 2 (He.fAd K ("may_execute", none)) fd ps_may_execute f_may_execute ∧ PySem.W.keepIn K (.ref (He.fAd K ("may_execute", none))) = true ∧ (∃ ds, Vals (([] : List V).drop 0 : List V) ds ∧ Binds K fd ps_may_execute ds) := by
  obtain ⟨fd, F⟩ := T.d_may_execute
  exact ⟨fd, fi_may_execute T F, F.kp, ⟨[], .nil, F.bindsN fun _ _ _ _ _ _ us hl => match us, hl with | [_, _], _ => rfl⟩⟩
theorem fi_Machine_place (T : Tx K w mg) {fd : FuncData} (F : FunD K "place" "Machine.place" (defArgs st_Machine_place) (defBody st_Machine_place) (defScope st_Machine_place) ([] : List V) [] (He.fAd K ("Machine", some "place")) fd) : FI P w K mg base 1 (He.fAd K ("Machine", some "place")) fd ps_Machine_place f_Machine_place := by
  have h := fi_of (P := P) (w := w) (mg := mg) (base := base) F sc_Machine_place (m := m_Machine_place) (k := 0) (fun cdv A outer s H E hr => by
    exact (iss_one (is_ret (ie_tup (ia_cons (ie_ix (ie_ix (ie_fld T.att (ie_var 0) (by decide +kernel)) (ie_bin op_fdiv oi_div (ie_var 1) (ie_con T.c_CELLS))) ie_int) (ia_cons (ie_bin op_mod oi_mod (ie_var 1) (ie_con T.c_CELLS)) ia_nil))))))
  exact h
theorem ok_Machine_place (T : Tx K w mg) : ∃ fd, FI P w K mg base 1 (He.fAd K ("Machine", some "place")) fd ps_Machine_place f_Machine_place ∧ PySem.W.keepIn K (.ref (He.fAd K ("Machine", some "place"))) = true ∧ (∃ ds, Vals (([] : List V).drop 0 : List V) ds ∧ Binds K fd ps_Machine_place ds) := by
  obtain ⟨fd, F⟩ := T.d_Machine_place
  exact ⟨fd, fi_Machine_place T F, F.kp, ⟨[], .nil, F.bindsN fun _ _ _ _ _ _ us hl => match us, hl with | [_, _], _ => rfl⟩⟩
theorem fi_Machine_number_at (T : Tx K w mg) {fd : FuncData} (F : FunD K "number_at" "Machine.number_at" (defArgs st_Machine_number_at) (defBody st_Machine_number_at) (defScope st_Machine_number_at) ([] : List V) [] (He.fAd K ("Machine", some "number_at")) fd) : FI P w K mg base 2 (He.fAd K ("Machine", some "number_at")) fd ps_Machine_number_at f_Machine_number_at := by
  obtain ⟨fd_Machine_place, F_Machine_place, k_Machine_place, ⟨ds_Machine_place_2, v_Machine_place_2, b_Machine_place_2⟩⟩ := ok_Machine_place (P := P) (w := w) (base := base) T
  have w_Machine_place_2 : GVals K (([] : List V).drop 0) [] := trivial
  have h := fi_of (P := P) (w := w) (mg := mg) (base := base) F sc_Machine_number_at (m := m_Machine_number_at) (k := 1) (fun cdv A outer s H E hr => by
    exact (iss_cons (is_asg (ig_tup rfl (igs_cons (ig_name 2 sc_Machine_number_at.nd) (igs_cons (ig_name 3 sc_Machine_number_at.nd) igs_nil))) (ie_meth (L2.takes_of rfl rfl rfl rfl) (ie_var 0) (congrArg (He.ga K) e_Machine.symm) T.cl_Machine T.me_Machine_place (by decide +kernel) F_Machine_place rfl (hr.mono (by decide)) b_Machine_place_2 v_Machine_place_2 w_Machine_place_2 (ia_cons (ie_var 1) ia_nil)))
    (iss_one (is_ret (ie_ix (ie_ix (ie_fld T.att (ie_var 0) (by decide +kernel)) (ie_var 2)) (ie_var 3))))))
  exact h
theorem ok_Machine_number_at (T : Tx K w mg) : ∃ fd, FI P w K mg base 2 (He.fAd K ("Machine", some "number_at")) fd ps_Machine_number_at f_Machine_number_at ∧ PySem.W.keepIn K (.ref (He.fAd K ("Machine", some "number_at"))) = true ∧ (∃ ds, Vals (([] : List V).drop 0 : List V) ds ∧ Binds K fd ps_Machine_number_at ds) := by
  obtain ⟨fd, F⟩ := T.d_Machine_number_at
  exact ⟨fd, fi_Machine_number_at T F, F.kp, ⟨[], .nil, F.bindsN fun _ _ _ _ _ _ us hl => match us, hl with | [_, _], _ => rfl⟩⟩
theorem fi_next_address (T : Tx K w mg) {fd : FuncData} (F : FunD K "next_address" "next_address" (defArgs st_next_address) (defBody st_next_address) (defScope st_next_address) ([] : List V) [] (He.fAd K ("next_address", none)) fd) : FI P w K mg base 1 (He.fAd K ("next_address", none)) fd ps_next_address f_next_address := by
  have h := fi_of (P := P) (w := w) (mg := mg) (base := base) F sc_next_address (m := m_next_address) (k := 0) (fun cdv A outer s H E hr => by
    exact (iss_one (is_ret (ie_bin op_mod oi_mod (ie_bin or_addM oi_add (ie_var 0) (ie_var 1)) (ie_con T.c_ADDRESSES)))))
  exact h
theorem ok_next_address (T : Tx K w mg) : ∃ fd, FI P w K mg base 1 (He.fAd K ("next_address", none)) fd ps_next_address f_next_address ∧ PySem.W.keepIn K (.ref (He.fAd K ("next_address", none))) = true ∧ (∃ ds, Vals (([] : List V).drop 0 : List V) ds ∧ Binds K fd ps_next_address ds) := by
  obtain ⟨fd, F⟩ := T.d_next_address
  exact ⟨fd, fi_next_address T F, F.kp, ⟨[], .nil, F.bindsN fun _ _ _ _ _ _ us hl => match us, hl with | [_, _], _ => rfl⟩⟩
theorem fi_decode (T : Tx K w mg) {fd : FuncData} (F : FunD K "decode" "decode" (defArgs st_decode) (defBody st_decode) (defScope st_decode) ([] : List V) [] (He.fAd K ("decode", none)) fd) : FI P w K mg base 1 (He.fAd K ("decode", none)) fd ps_decode f_decode := by
  have h := fi_of (P := P) (w := w) (mg := mg) (base := base) F sc_decode (m := m_decode) (k := 0) (fun cdv A outer s H E hr => by
    exact (iss_cons (is_if (it_w (iw_or (it_cmp (or_eqM hr.units) oi_eq (ie_B call_len ci_len T.b_len (by decide +kernel) (ia_cons (ie_var 0) ia_nil)) ie_int (nomark _)) (iw_or1 (it_cmp op_ge oi_ge (ie_ix (ie_var 0) ie_int) (ie_B call_len ci_len T.b_len (by decide +kernel) (ia_cons (ie_con T.c_OPS) ia_nil)) (nomark _)))))
    (iss_one (is_ret ie_non))
    iss_nil)
    (iss_cons (is_asg (ig_tup rfl (igs_cons (ig_name 1 sc_decode.nd) (igs_cons (ig_name 2 sc_decode.nd) igs_nil))) (ie_ix (ie_con T.c_OPS) (ie_ix (ie_var 0) ie_int)))
    (iss_cons (is_if (it_cmp op_lt oi_lt (ie_B call_len ci_len T.b_len (by decide +kernel) (ia_cons (ie_var 0) ia_nil)) (ie_bin or_addM oi_add ie_int (ie_B call_len ci_len T.b_len (by decide +kernel) (ia_cons (ie_var 2) ia_nil))) (nomark _))
    (iss_one (is_ret ie_non))
    iss_nil)
    (iss_cons (is_set (i := 3) sc_decode.nd (ie_lst ia_nil))
    (iss_cons (is_for (L2.passes_of rfl) rfl (ii_range1 T.b_range (ie_B call_len ci_len T.b_len (by decide +kernel) (ia_cons (ie_var 2) ia_nil))) (ig_name 4 sc_decode.nd)
    (iss_one (is_expr (ie_mt PySem.F.plainAttrs_list PySem.F.slot_list_append PySem.F.type_list_append mt_append chk_list mi_append (ie_var 3) (ia_cons (ie_bin op_mod oi_mod (ie_ix (ie_var 0) (ie_bin or_addM oi_add ie_int (ie_var 4))) (ie_kd T.kd_KIND_LIMITS (ie_ix (ie_var 2) (ie_var 4)))) ia_nil)))))
    (iss_one (is_ret (ie_tup (ia_cons (ie_var 1) (ia_cons (ie_BT call_tuple_of ci_tuple T.b_tuple (by decide +kernel) (ia_cons (ie_var 3) ia_nil)) ia_nil)))))))))))
  exact h
theorem ok_decode (T : Tx K w mg) : ∃ fd, FI P w K mg base 1 (He.fAd K ("decode", none)) fd ps_decode f_decode ∧ PySem.W.keepIn K (.ref (He.fAd K ("decode", none))) = true ∧ (∃ ds, Vals (([] : List V).drop 0 : List V) ds ∧ Binds K fd ps_decode ds) := by
  obtain ⟨fd, F⟩ := T.d_decode
  exact ⟨fd, fi_decode T F, F.kp, ⟨[], .nil, F.bindsN fun _ _ _ _ _ _ us hl => match us, hl with | [_], _ => rfl⟩⟩
theorem fi_fetch_at (T : Tx K w mg) {fd : FuncData} (F : FunD K "fetch_at" "fetch_at" (defArgs st_fetch_at) (defBody st_fetch_at) (defScope st_fetch_at) ([] : List V) [] (He.fAd K ("fetch_at", none)) fd) : FI P w K mg base 3 (He.fAd K ("fetch_at", none)) fd ps_fetch_at f_fetch_at := by
  obtain ⟨fd_may_execute, F_may_execute, k_may_execute, ⟨ds_may_execute_2, v_may_execute_2, b_may_execute_2⟩⟩ := ok_may_execute (P := P) (w := w) (base := base) T
  have w_may_execute_2 : GVals K (([] : List V).drop 0) [] := trivial
  obtain ⟨fd_Machine_number_at, F_Machine_number_at, k_Machine_number_at, ⟨ds_Machine_number_at_2, v_Machine_number_at_2, b_Machine_number_at_2⟩⟩ := ok_Machine_number_at (P := P) (w := w) (base := base) T
  have w_Machine_number_at_2 : GVals K (([] : List V).drop 0) [] := trivial
  obtain ⟨fd_next_address, F_next_address, k_next_address, ⟨ds_next_address_2, v_next_address_2, b_next_address_2⟩⟩ := ok_next_address (P := P) (w := w) (base := base) T
  have w_next_address_2 : GVals K (([] : List V).drop 0) [] := trivial
  obtain ⟨fd_decode, F_decode, k_decode, ⟨ds_decode_1, v_decode_1, b_decode_1⟩⟩ := ok_decode (P := P) (w := w) (base := base) T
  have w_decode_1 : GVals K (([] : List V).drop 0) [] := trivial
  have h := fi_of (P := P) (w := w) (mg := mg) (base := base) F sc_fetch_at (m := m_fetch_at) (k := 2) (fun cdv A outer s H E hr => by
    exact (iss_cons (is_if (it_not (it_val (ie_call (L2.takes_of rfl rfl rfl rfl) F_may_execute rfl (hr.mono (by decide)) T.g_may_execute k_may_execute b_may_execute_2 v_may_execute_2 w_may_execute_2 (ia_cons (ie_var 0) (ia_cons (ie_var 1) ia_nil)))))
    (iss_one (is_ret (ie_tup (ia_cons ie_non (ia_cons (ie_str (by decide +kernel)) ia_nil)))))
    iss_nil)
    (iss_cons (is_set (i := 2) sc_fetch_at.nd (ie_lst (ia_cons (ie_meth (L2.takes_of rfl rfl rfl rfl) (ie_var 0) (congrArg (He.ga K) e_Machine.symm) T.cl_Machine T.me_Machine_number_at (by decide +kernel) F_Machine_number_at rfl (hr.mono (by decide)) b_Machine_number_at_2 v_Machine_number_at_2 w_Machine_number_at_2 (ia_cons (ie_var 1) ia_nil)) ia_nil)))
    (iss_cons (is_if (it_cmp op_ge oi_ge (ie_ix (ie_var 2) ie_int) (ie_B call_len ci_len T.b_len (by decide +kernel) (ia_cons (ie_con T.c_OPS) ia_nil)) (nomark _))
    (iss_one (is_ret (ie_tup (ia_cons ie_non (ia_cons (ie_str (by decide +kernel)) ia_nil)))))
    iss_nil)
    (iss_cons (is_for (L2.passes_of rfl) rfl (ii_range1 T.b_range (ie_B call_len ci_len T.b_len (by decide +kernel) (ia_cons (ie_ix (ie_ix (ie_con T.c_OPS) (ie_ix (ie_var 2) ie_int)) ie_int) ia_nil))) (ig_name 3 sc_fetch_at.nd)
    (iss_cons (is_set (i := 4) sc_fetch_at.nd (ie_call (L2.takes_of rfl rfl rfl rfl) F_next_address rfl (hr.mono (by decide)) T.g_next_address k_next_address b_next_address_2 v_next_address_2 w_next_address_2 (ia_cons (ie_var 1) (ia_cons (ie_bin or_addM oi_add (ie_var 3) ie_int) ia_nil))))
    (iss_cons (is_if (it_not (it_val (ie_call (L2.takes_of rfl rfl rfl rfl) F_may_execute rfl (hr.mono (by decide)) T.g_may_execute k_may_execute b_may_execute_2 v_may_execute_2 w_may_execute_2 (ia_cons (ie_var 0) (ia_cons (ie_var 4) ia_nil)))))
    (iss_one (is_ret (ie_tup (ia_cons ie_non (ia_cons (ie_str (by decide +kernel)) ia_nil)))))
    iss_nil)
    (iss_one (is_expr (ie_mt PySem.F.plainAttrs_list PySem.F.slot_list_append PySem.F.type_list_append mt_append chk_list mi_append (ie_var 2) (ia_cons (ie_meth (L2.takes_of rfl rfl rfl rfl) (ie_var 0) (congrArg (He.ga K) e_Machine.symm) T.cl_Machine T.me_Machine_number_at (by decide +kernel) F_Machine_number_at rfl (hr.mono (by decide)) b_Machine_number_at_2 v_Machine_number_at_2 w_Machine_number_at_2 (ia_cons (ie_var 4) ia_nil)) ia_nil)))))))
    (iss_one (is_ret (ie_tup (ia_cons (ie_call (L2.takes_of rfl rfl rfl rfl) F_decode rfl (hr.mono (by decide)) T.g_decode k_decode b_decode_1 v_decode_1 w_decode_1 (ia_cons (ie_var 2) ia_nil)) (ia_cons ie_non ia_nil))))))))))
  exact h
theorem ok_fetch_at (T : Tx K w mg) : ∃ fd, FI P w K mg base 3 (He.fAd K ("fetch_at", none)) fd ps_fetch_at f_fetch_at ∧ PySem.W.keepIn K (.ref (He.fAd K ("fetch_at", none))) = true ∧ (∃ ds, Vals (([] : List V).drop 0 : List V) ds ∧ Binds K fd ps_fetch_at ds) := by
  obtain ⟨fd, F⟩ := T.d_fetch_at
  exact ⟨fd, fi_fetch_at T F, F.kp, ⟨[], .nil, F.bindsN fun _ _ _ _ _ _ us hl => match us, hl with | [_, _], _ => rfl⟩⟩
theorem fi_law_fetches (T : Tx K w mg) {fd : FuncData} (F : FunD K "_law_fetches" "_law_fetches" (defArgs st_law_fetches) (defBody st_law_fetches) (defScope st_law_fetches) ([] : List V) [] (He.fAd K ("_law_fetches", none)) fd) : FI P w K mg base 4 (He.fAd K ("_law_fetches", none)) fd ps_law_fetches f_law_fetches := by
  obtain ⟨fd_Machine_key, F_Machine_key, k_Machine_key, ⟨ds_Machine_key_1, v_Machine_key_1, b_Machine_key_1⟩⟩ := ok_Machine_key (P := P) (w := w) (base := base) T
  have w_Machine_key_1 : GVals K (([] : List V).drop 0) [] := trivial
  obtain ⟨fd_law_same, F_law_same, k_law_same, ⟨ds_law_same_2, v_law_same_2, b_law_same_2⟩⟩ := ok_law_same (P := P) (w := w) (base := base) T
  have w_law_same_2 : GVals K (([] : List V).drop 0) [] := trivial
  obtain ⟨fd_law_due, F_law_due, k_law_due, ⟨ds_law_due_3, v_law_due_3, b_law_due_3⟩⟩ := ok_law_due (P := P) (w := w) (base := base) T
  have w_law_due_3 : GVals K (([] : List V).drop 0) [] := trivial
  obtain ⟨fd_fetch_at, F_fetch_at, k_fetch_at, ⟨ds_fetch_at_2, v_fetch_at_2, b_fetch_at_2⟩⟩ := ok_fetch_at (P := P) (w := w) (base := base) T
  have w_fetch_at_2 : GVals K (([] : List V).drop 0) [] := trivial
  have h := fi_of (P := P) (w := w) (mg := mg) (base := base) F sc_law_fetches (m := m_law_fetches) (k := 3) (fun cdv A outer s H E hr => by
    exact (iss_cons (is_set (i := 3) sc_law_fetches.nd (ie_meth0 (L2.takes_of rfl rfl rfl rfl) (ie_var 0) (congrArg (He.ga K) e_Machine.symm) T.cl_Machine T.me_Machine_key (by decide +kernel) F_Machine_key rfl (hr.mono (by decide)) b_Machine_key_1 v_Machine_key_1 w_Machine_key_1))
    (iss_cons (is_for (L2.passes_of rfl) rfl (ii_range1 T.b_range ie_int) (ig_name 4 sc_law_fetches.nd)
    (iss_one (is_if (it_not (it_val (ie_call (L2.takes_of rfl rfl rfl rfl) F_law_same rfl (hr.mono (by decide)) T.g__law_same k_law_same b_law_same_2 v_law_same_2 w_law_same_2 (ia_cons (ie_call (L2.takes_of rfl rfl rfl rfl) F_fetch_at rfl (hr.mono (by decide)) T.g_fetch_at k_fetch_at b_fetch_at_2 v_fetch_at_2 w_fetch_at_2 (ia_cons (ie_var 0) (ia_cons (ie_var 4) ia_nil))) (ia_cons (ie_call (L2.takes_of rfl rfl rfl rfl) F_law_due rfl (hr.mono (by decide)) T.g__law_due k_law_due b_law_due_3 v_law_due_3 w_law_due_3 (ia_cons (ie_var 1) (ia_cons (ie_var 2) (ia_cons (ie_var 4) ia_nil)))) ia_nil)))))
    (iss_one (is_ret ie_bl))
    iss_nil)))
    (iss_one (is_ret (ie_cmp (or_eqM hr.units) oi_eq (ie_meth0 (L2.takes_of rfl rfl rfl rfl) (ie_var 0) (congrArg (He.ga K) e_Machine.symm) T.cl_Machine T.me_Machine_key (by decide +kernel) F_Machine_key rfl (hr.mono (by decide)) b_Machine_key_1 v_Machine_key_1 w_Machine_key_1) (ie_var 3) (nomark _)))))))
  exact h
theorem ok_law_fetches (T : Tx K w mg) : ∃ fd, FI P w K mg base 4 (He.fAd K ("_law_fetches", none)) fd ps_law_fetches f_law_fetches ∧ PySem.W.keepIn K (.ref (He.fAd K ("_law_fetches", none))) = true ∧ (∃ ds, Vals (([] : List V).drop 0 : List V) ds ∧ Binds K fd ps_law_fetches ds) := by
  obtain ⟨fd, F⟩ := T.d_law_fetches
  exact ⟨fd, fi_law_fetches T F, F.kp, ⟨[], .nil, F.bindsN fun _ _ _ _ _ _ us hl => match us, hl with | [_, _, _], _ => rfl⟩⟩
theorem fi_Processor_copy (T : Tx K w mg) {fd : FuncData} (F : FunD K "copy" "Processor.copy" (defArgs st_Processor_copy) (defBody st_Processor_copy) (defScope st_Processor_copy) ([] : List V) [] (He.fAd K ("Processor", some "copy")) fd) : FI P w K mg base 3 (He.fAd K ("Processor", some "copy")) fd ps_Processor_copy f_Processor_copy := by
  obtain ⟨fd_Processor_init, F_Processor_init, k_Processor_init, ⟨ds_Processor_init_2, v_Processor_init_2, b_Processor_init_2⟩⟩ := ok_Processor_init (P := P) (w := w) (base := base) T
  have w_Processor_init_2 : GVals K (([] : List V).drop 0) [] := trivial
  have h := fi_of (P := P) (w := w) (mg := mg) (base := base) F sc_Processor_copy (m := m_Processor_copy) (k := 2) (fun cdv A outer s H E hr => by
    exact (iss_cons (is_set (i := 1) sc_Processor_copy.nd (ie_make (L2.takes_of rfl rfl rfl rfl) T.mk_Processor (congrArg (He.ga K) e_Processor.symm) F_Processor_init rfl (hr.mono (by decide)) T.g_Processor b_Processor_init_2 v_Processor_init_2 w_Processor_init_2 (ia_cons (ie_fld T.att (ie_var 0) (by decide +kernel)) ia_nil)))
    (iss_cons (is_fld T.att (ie_var 1) (ie_BT call_list_of ci_list T.b_list (by decide +kernel) (ia_cons (ie_fld T.att (ie_var 0) (by decide +kernel)) ia_nil)) (by decide +kernel))
    (iss_cons (is_fld T.att (ie_var 1) (ie_fld T.att (ie_var 0) (by decide +kernel)) (by decide +kernel))
    (iss_cons (is_fld T.att (ie_var 1) (ie_fld T.att (ie_var 0) (by decide +kernel)) (by decide +kernel))
    (iss_cons (is_fld T.att (ie_var 1) (ie_fld T.att (ie_var 0) (by decide +kernel)) (by decide +kernel))
    (iss_cons (is_fld T.att (ie_var 1) (ie_fld T.att (ie_var 0) (by decide +kernel)) (by decide +kernel))
    (iss_cons (is_fld T.att (ie_var 1) (ie_fld T.att (ie_var 0) (by decide +kernel)) (by decide +kernel))
    (iss_cons (is_fld T.att (ie_var 1) (ie_fld T.att (ie_var 0) (by decide +kernel)) (by decide +kernel))
    (iss_cons (is_fld T.att (ie_var 1) (ie_fld T.att (ie_var 0) (by decide +kernel)) (by decide +kernel))
    (iss_one (is_ret (ie_var 1)))))))))))))
  exact h
theorem ok_Processor_copy (T : Tx K w mg) : ∃ fd, FI P w K mg base 3 (He.fAd K ("Processor", some "copy")) fd ps_Processor_copy f_Processor_copy ∧ PySem.W.keepIn K (.ref (He.fAd K ("Processor", some "copy"))) = true ∧ (∃ ds, Vals (([] : List V).drop 0 : List V) ds ∧ Binds K fd ps_Processor_copy ds) := by
  obtain ⟨fd, F⟩ := T.d_Processor_copy
  exact ⟨fd, fi_Processor_copy T F, F.kp, ⟨[], .nil, F.bindsN fun _ _ _ _ _ _ us hl => match us, hl with | [_], _ => rfl⟩⟩
theorem fi_Machine_copy (T : Tx K w mg) {fd : FuncData} (F : FunD K "copy" "Machine.copy" (defArgs st_Machine_copy) (defBody st_Machine_copy) (defScope st_Machine_copy) ([] : List V) [] (He.fAd K ("Machine", some "copy")) fd) : FI P w K mg base 5 (He.fAd K ("Machine", some "copy")) fd ps_Machine_copy f_Machine_copy := by
  obtain ⟨fd_Machine_init, F_Machine_init, k_Machine_init, ⟨ds_Machine_init_2, v_Machine_init_2, b_Machine_init_2⟩⟩ := ok_Machine_init (P := P) (w := w) (base := base) T
  have w_Machine_init_2 : GVals K (([] : List V).drop 0) [] := trivial
  obtain ⟨fd_Processor_copy, F_Processor_copy, k_Processor_copy, ⟨ds_Processor_copy_1, v_Processor_copy_1, b_Processor_copy_1⟩⟩ := ok_Processor_copy (P := P) (w := w) (base := base) T
  have w_Processor_copy_1 : GVals K (([] : List V).drop 0) [] := trivial
  have h := fi_of (P := P) (w := w) (mg := mg) (base := base) F sc_Machine_copy (m := m_Machine_copy) (k := 4) (fun cdv A outer s H E hr => by
    exact (iss_cons (is_set (i := 1) sc_Machine_copy.nd (ie_make (L2.takes_of rfl rfl rfl rfl) T.mk_Machine (congrArg (He.ga K) e_Machine.symm) F_Machine_init rfl (hr.mono (by decide)) T.g_Machine b_Machine_init_2 v_Machine_init_2 w_Machine_init_2 (ia_cons (ie_fld T.att (ie_var 0) (by decide +kernel)) ia_nil)))
    (iss_cons (is_fld T.att (ie_var 1) (ie_lc [("frame", 2)] rfl rfl sc_Machine_copy.nd (ii_seq (ie_fld T.att (ie_var 0) (by decide +kernel))) (blkOk_by (own := [("frame", 2)]) (N := N_Machine_copy) (sc := defScope st_Machine_copy) (by decide +kernel)) (by decide) (fun _ _ _ _ _ => (ig_name 2 sc_Machine_copy.nd)) (fun _ _ _ _ _ => its_nil) (fun _ _ _ _ _ => (ie_BT call_list_of ci_list T.b_list (by decide +kernel) (ia_cons (ie_var 2) ia_nil)))) (by decide +kernel))
    (iss_cons (is_fld T.att (ie_var 1) (ie_BT call_list_of ci_list T.b_list (by decide +kernel) (ia_cons (ie_fld T.att (ie_var 0) (by decide +kernel)) ia_nil)) (by decide +kernel))
    (iss_cons (is_fld T.att (ie_var 1) (ie_lc [("one", 3)] rfl rfl sc_Machine_copy.nd (ii_seq (ie_fld T.att (ie_var 0) (by decide +kernel))) (blkOk_by (own := [("one", 3)]) (N := N_Machine_copy) (sc := defScope st_Machine_copy) (by decide +kernel)) (by decide) (fun _ _ _ _ _ => (ig_name 3 sc_Machine_copy.nd)) (fun _ _ _ _ _ => its_nil) (fun _ _ _ _ _ => (ie_meth0 L2.takes0 (ie_var 3) (congrArg (He.ga K) e_Processor.symm) T.cl_Processor T.me_Processor_copy (by decide +kernel) F_Processor_copy rfl (hr.mono (by decide)) b_Processor_copy_1 v_Processor_copy_1 w_Processor_copy_1))) (by decide +kernel))
    (iss_cons (is_fld T.att (ie_var 1) (ie_fld T.att (ie_var 0) (by decide +kernel)) (by decide +kernel))
    (iss_one (is_ret (ie_var 1)))))))))
  exact h
theorem ok_Machine_copy (T : Tx K w mg) : ∃ fd, FI P w K mg base 5 (He.fAd K ("Machine", some "copy")) fd ps_Machine_copy f_Machine_copy ∧ PySem.W.keepIn K (.ref (He.fAd K ("Machine", some "copy"))) = true ∧ (∃ ds, Vals (([] : List V).drop 0 : List V) ds ∧ Binds K fd ps_Machine_copy ds) := by
  obtain ⟨fd, F⟩ := T.d_Machine_copy
  exact ⟨fd, fi_Machine_copy T F, F.kp, ⟨[], .nil, F.bindsN fun _ _ _ _ _ _ us hl => match us, hl with | [_], _ => rfl⟩⟩
theorem fi_law (T : Tx K w mg) {fd : FuncData} (F : FunD K "law" "law" (defArgs st_law) (defBody st_law) (defScope st_law) ([] : List V) [] (He.fAd K ("law", none)) fd) : FI P w K mg base 6 (He.fAd K ("law", none)) fd ps_law f_law := by
  obtain ⟨fd_law_row, F_law_row, k_law_row, ⟨ds_law_row_2, v_law_row_2, b_law_row_2⟩⟩ := ok_law_row (P := P) (w := w) (base := base) T
  have w_law_row_2 : GVals K (([] : List V).drop 0) [] := trivial
  obtain ⟨fd_law_pages, F_law_pages, k_law_pages, ⟨ds_law_pages_1, v_law_pages_1, b_law_pages_1⟩⟩ := ok_law_pages (P := P) (w := w) (base := base) T
  have w_law_pages_1 : GVals K (([] : List V).drop 0) [] := trivial
  obtain ⟨fd_law_cells, F_law_cells, k_law_cells, ⟨ds_law_cells_1, v_law_cells_1, b_law_cells_1⟩⟩ := ok_law_cells (P := P) (w := w) (base := base) T
  have w_law_cells_1 : GVals K (([] : List V).drop 0) [] := trivial
  obtain ⟨fd_law_pick, F_law_pick, k_law_pick, ⟨ds_law_pick_3, v_law_pick_3, b_law_pick_3⟩⟩ := ok_law_pick (P := P) (w := w) (base := base) T
  have w_law_pick_3 : GVals K (([] : List V).drop 0) [] := trivial
  obtain ⟨fd_Machine_init, F_Machine_init, k_Machine_init, ⟨ds_Machine_init_2, v_Machine_init_2, b_Machine_init_2⟩⟩ := ok_Machine_init (P := P) (w := w) (base := base) T
  have w_Machine_init_2 : GVals K (([] : List V).drop 0) [] := trivial
  obtain ⟨fd_Guest_init, F_Guest_init, k_Guest_init, ⟨ds_Guest_init_4, v_Guest_init_4, b_Guest_init_4⟩⟩ := ok_Guest_init (P := P) (w := w) (base := base) T
  have w_Guest_init_4 : GVals K (([.ref (He.dflAt ("Guest", some "__init__") 0 K), .ref (He.dflAt ("Guest", some "__init__") 1 K), .ref (He.dflAt ("Guest", some "__init__") 2 K), .ref (He.dflAt ("Guest", some "__init__") 3 K)] : List V).drop 2) [(.tup [(.int 60), (.int 60)]), (.tup [])] := ⟨T.dv_Guest_init_2, T.dv_Guest_init_3, trivial⟩
  obtain ⟨fd_law_fetches, F_law_fetches, k_law_fetches, ⟨ds_law_fetches_3, v_law_fetches_3, b_law_fetches_3⟩⟩ := ok_law_fetches (P := P) (w := w) (base := base) T
  have w_law_fetches_3 : GVals K (([] : List V).drop 0) [] := trivial
  obtain ⟨fd_Machine_copy, F_Machine_copy, k_Machine_copy, ⟨ds_Machine_copy_1, v_Machine_copy_1, b_Machine_copy_1⟩⟩ := ok_Machine_copy (P := P) (w := w) (base := base) T
  have w_Machine_copy_1 : GVals K (([] : List V).drop 0) [] := trivial
  have h := fi_of (P := P) (w := w) (mg := mg) (base := base) F sc_law (m := m_law) (k := 5) (fun cdv A outer s H E hr => by
    exact (iss_cons (is_set (i := 1) sc_law.nd (ie_call (L2.takes_of rfl rfl rfl rfl) F_law_row rfl (hr.mono (by decide)) T.g__law_row k_law_row b_law_row_2 v_law_row_2 w_law_row_2 (ia_cons (ie_var 0) (ia_cons ie_int ia_nil))))
    (iss_cons (is_set (i := 2) sc_law.nd (ie_call (L2.takes_of rfl rfl rfl rfl) F_law_pages rfl (hr.mono (by decide)) T.g__law_pages k_law_pages b_law_pages_1 v_law_pages_1 w_law_pages_1 (ia_cons (ie_var 1) ia_nil)))
    (iss_cons (is_set (i := 3) sc_law.nd (ie_call (L2.takes_of rfl rfl rfl rfl) F_law_cells rfl (hr.mono (by decide)) T.g__law_cells k_law_cells b_law_cells_1 v_law_cells_1 w_law_cells_1 (ia_cons (ie_var 1) ia_nil)))
    (iss_cons (is_set (i := 4) sc_law.nd (ie_ix (ie_lst (ia_cons (ie_tup (ia_cons ie_int (ia_cons ie_non ia_nil))) (ia_cons (ie_tup (ia_cons ie_non (ia_cons ie_non ia_nil))) (ia_cons (ie_tup (ia_cons ie_int (ia_cons ie_int ia_nil))) ia_nil)))) (ie_call (L2.takes_of rfl rfl rfl rfl) F_law_pick rfl (hr.mono (by decide)) T.g__law_pick k_law_pick b_law_pick_3 v_law_pick_3 w_law_pick_3 (ia_cons (ie_var 1) (ia_cons ie_int (ia_cons ie_int ia_nil))))))
    (iss_cons (is_set (i := 5) sc_law.nd (ie_make (L2.takes_of rfl rfl rfl rfl) T.mk_Machine (congrArg (He.ga K) e_Machine.symm) F_Machine_init rfl (hr.mono (by decide)) T.g_Machine b_Machine_init_2 v_Machine_init_2 w_Machine_init_2 (ia_cons (ie_make (L2.takes_of rfl rfl rfl rfl) T.mk_Guest (congrArg (He.ga K) e_Guest.symm) F_Guest_init rfl (hr.mono (by decide)) T.g_Guest b_Guest_init_4 v_Guest_init_4 w_Guest_init_4 (ia_cons (ie_lc [("_law_one", 6)] rfl rfl sc_law.nd (ii_seq (ie_var 3)) (blkOk_by (own := [("_law_one", 6)]) (N := N_law) (sc := defScope st_law) (by decide +kernel)) (by decide) (fun _ _ _ _ _ => (ig_name 6 sc_law.nd)) (fun _ _ _ _ _ => its_nil) (fun _ _ _ _ _ => (ie_BT call_list_of ci_list T.b_list (by decide +kernel) (ia_cons (ie_var 6) ia_nil)))) (ia_cons (ie_BT call_list_of ci_list T.b_list (by decide +kernel) (ia_cons (ie_var 2) ia_nil)) (ia_cons (ie_var 4) ia_nil)))) ia_nil)))
    (iss_cons (is_if (it_not (it_val (ie_call (L2.takes_of rfl rfl rfl rfl) F_law_fetches rfl (hr.mono (by decide)) T.g__law_fetches k_law_fetches b_law_fetches_3 v_law_fetches_3 w_law_fetches_3 (ia_cons (ie_var 5) (ia_cons (ie_var 3) (ia_cons (ie_var 2) ia_nil))))))
    (iss_one (is_ret ie_bl))
    iss_nil)
    (iss_cons (is_set (i := 7) sc_law.nd (ie_meth0 (L2.takes_of rfl rfl rfl rfl) (ie_var 5) (congrArg (He.ga K) e_Machine.symm) T.cl_Machine T.me_Machine_copy (by decide +kernel) F_Machine_copy rfl (hr.mono (by decide)) b_Machine_copy_1 v_Machine_copy_1 w_Machine_copy_1))
    (iss_cons (is_set (i := 8) sc_law.nd (ie_call (L2.takes_of rfl rfl rfl rfl) F_law_pick rfl (hr.mono (by decide)) T.g__law_pick k_law_pick b_law_pick_3 v_law_pick_3 w_law_pick_3 (ia_cons (ie_var 1) (ia_cons ie_int (ia_cons ie_int ia_nil)))))
    (iss_cons (is_set (i := 9) sc_law.nd (ie_call (L2.takes_of rfl rfl rfl rfl) F_law_pick rfl (hr.mono (by decide)) T.g__law_pick k_law_pick b_law_pick_3 v_law_pick_3 w_law_pick_3 (ia_cons (ie_var 1) (ia_cons ie_int (ia_cons ie_int ia_nil)))))
    (iss_cons (is_set (i := 10) sc_law.nd (ie_call (L2.takes_of rfl rfl rfl rfl) F_law_pick rfl (hr.mono (by decide)) T.g__law_pick k_law_pick b_law_pick_3 v_law_pick_3 w_law_pick_3 (ia_cons (ie_var 1) (ia_cons ie_int (ia_cons ie_int ia_nil)))))
    (iss_cons (is_sub (ie_ix (ie_fld T.att (ie_var 5) (by decide +kernel)) (ie_var 8)) (ie_var 9) (ie_call (L2.takes_of rfl rfl rfl rfl) F_law_pick rfl (hr.mono (by decide)) T.g__law_pick k_law_pick b_law_pick_3 v_law_pick_3 w_law_pick_3 (ia_cons (ie_var 1) (ia_cons ie_int (ia_cons ie_int ia_nil)))))
    (iss_cons (is_sub (ie_fld T.att (ie_var 5) (by decide +kernel)) (ie_var 10) (ie_tup (ia_cons (ie_call (L2.takes_of rfl rfl rfl rfl) F_law_pick rfl (hr.mono (by decide)) T.g__law_pick k_law_pick b_law_pick_3 v_law_pick_3 w_law_pick_3 (ia_cons (ie_var 1) (ia_cons ie_int (ia_cons ie_int ia_nil)))) (ia_cons (ie_call (L2.takes_of rfl rfl rfl rfl) F_law_pick rfl (hr.mono (by decide)) T.g__law_pick k_law_pick b_law_pick_3 v_law_pick_3 w_law_pick_3 (ia_cons (ie_var 1) (ia_cons ie_int (ia_cons ie_int ia_nil)))) ia_nil))))
    (iss_cons (is_setLc [("_law_one", 6)] rfl (i := 11) rfl sc_law.nd rfl rfl (sw_true rfl rfl rfl (by decide +kernel)) (ii_seq (ie_var 3)) (blkOk_by (own := [("_law_one", 6)]) (N := N_law) (sc := defScope st_law) (by decide +kernel)) (by decide) (fun _ _ _ _ _ => (ig_name 6 sc_law.nd)) (fun _ _ _ _ _ => its_nil) (fun _ _ _ _ _ => (ie_BT call_list_of ci_list T.b_list (by decide +kernel) (ia_cons (ie_var 6) ia_nil))))
    (iss_cons (is_sub (ie_ix (ie_var 11) (ie_var 8)) (ie_var 9) (ie_call (L2.takes_of rfl rfl rfl rfl) F_law_pick rfl (hr.mono (by decide)) T.g__law_pick k_law_pick b_law_pick_3 v_law_pick_3 w_law_pick_3 (ia_cons (ie_var 1) (ia_cons ie_int (ia_cons ie_int ia_nil)))))
    (iss_cons (is_set (i := 12) sc_law.nd (ie_BT call_list_of ci_list T.b_list (by decide +kernel) (ia_cons (ie_var 2) ia_nil)))
    (iss_cons (is_sub (ie_var 12) (ie_var 10) (ie_tup (ia_cons (ie_call (L2.takes_of rfl rfl rfl rfl) F_law_pick rfl (hr.mono (by decide)) T.g__law_pick k_law_pick b_law_pick_3 v_law_pick_3 w_law_pick_3 (ia_cons (ie_var 1) (ia_cons ie_int (ia_cons ie_int ia_nil)))) (ia_cons (ie_call (L2.takes_of rfl rfl rfl rfl) F_law_pick rfl (hr.mono (by decide)) T.g__law_pick k_law_pick b_law_pick_3 v_law_pick_3 w_law_pick_3 (ia_cons (ie_var 1) (ia_cons ie_int (ia_cons ie_int ia_nil)))) ia_nil))))
    (iss_cons (is_if (it_not (it_val (ie_call (L2.takes_of rfl rfl rfl rfl) F_law_fetches rfl (hr.mono (by decide)) T.g__law_fetches k_law_fetches b_law_fetches_3 v_law_fetches_3 w_law_fetches_3 (ia_cons (ie_var 5) (ia_cons (ie_var 11) (ia_cons (ie_var 12) ia_nil))))))
    (iss_one (is_ret ie_bl))
    iss_nil)
    (iss_one (is_ret (ie_and (ie_call (L2.takes_of rfl rfl rfl rfl) F_law_fetches rfl (hr.mono (by decide)) T.g__law_fetches k_law_fetches b_law_fetches_3 v_law_fetches_3 w_law_fetches_3 (ia_cons (ie_var 7) (ia_cons (ie_var 3) (ia_cons (ie_var 2) ia_nil)))) (ie_one (ie_call (L2.takes_of rfl rfl rfl rfl) F_law_fetches rfl (hr.mono (by decide)) T.g__law_fetches k_law_fetches b_law_fetches_3 v_law_fetches_3 w_law_fetches_3 (ia_cons (ie_var 5) (ia_cons (ie_var 11) (ia_cons (ie_var 12) ia_nil))))))))))))))))))))))))))
  exact h
theorem ok_law (T : Tx K w mg) : ∃ fd, FI P w K mg base 6 (He.fAd K ("law", none)) fd ps_law f_law ∧ PySem.W.keepIn K (.ref (He.fAd K ("law", none))) = true := by
  obtain ⟨fd, F⟩ := T.d_law
  exact ⟨fd, fi_law T F, F.kp⟩
end
end K08

set_option Elab.async false
set_option linter.all false
set_option maxRecDepth 100000
set_option maxHeartbeats 40000000
namespace K08
open PySem PySem.Spec PyProof.Rows L2 GL
def fn : List He.DefD := [⟨("_law_row", none), "_law_row", "_law_row", defArgs st_law_row, defBody st_law_row, defScope st_law_row, [], []⟩,
  ⟨("_law_pick", none), "_law_pick", "_law_pick", defArgs st_law_pick, defBody st_law_pick, defScope st_law_pick, [], []⟩,
  ⟨("_law_pages", none), "_law_pages", "_law_pages", defArgs st_law_pages, defBody st_law_pages, defScope st_law_pages, [], []⟩,
  ⟨("_law_cells", none), "_law_cells", "_law_cells", defArgs st_law_cells, defBody st_law_cells, defScope st_law_cells, [], []⟩,
  ⟨("Processor", some "__init__"), "__init__", "Processor.__init__", defArgs st_Processor_init, defBody st_Processor_init, defScope st_Processor_init, [], []⟩,
  ⟨("Machine", some "__init__"), "__init__", "Machine.__init__", defArgs st_Machine_init, defBody st_Machine_init, defScope st_Machine_init, [], []⟩,
  ⟨("within", none), "within", "within", defArgs st_within, defBody st_within, defScope st_within, [], []⟩,
  ⟨("check_guest", none), "check_guest", "check_guest", defArgs st_check_guest, defBody st_check_guest, defScope st_check_guest, [], []⟩,
  ⟨("Guest", some "__init__"), "__init__", "Guest.__init__", defArgs st_Guest_init, defBody st_Guest_init, defScope st_Guest_init, [.adr (He.dflAt ("Guest", some "__init__") 0), .adr (He.dflAt ("Guest", some "__init__") 1), .adr (He.dflAt ("Guest", some "__init__") 2), .adr (He.dflAt ("Guest", some "__init__") 3)], []⟩,
  ⟨("Processor", some "key"), "key", "Processor.key", defArgs st_Processor_key, defBody st_Processor_key, defScope st_Processor_key, [], []⟩,
  ⟨("Machine", some "key"), "key", "Machine.key", defArgs st_Machine_key, defBody st_Machine_key, defScope st_Machine_key, [], []⟩,
  ⟨("_law_whole", none), "_law_whole", "_law_whole", defArgs st_law_whole, defBody st_law_whole, defScope st_law_whole, [], []⟩,
  ⟨("_law_same", none), "_law_same", "_law_same", defArgs st_law_same, defBody st_law_same, defScope st_law_same, [], []⟩,
  ⟨("_law_kinds", none), "_law_kinds", "_law_kinds", defArgs st_law_kinds, defBody st_law_kinds, defScope st_law_kinds, [], []⟩,
  ⟨("_law_limit", none), "_law_limit", "_law_limit", defArgs st_law_limit, defBody st_law_limit, defScope st_law_limit, [], []⟩,
  ⟨("_law_names", none), "_law_names", "_law_names", defArgs st_law_names, defBody st_law_names, defScope st_law_names, [], []⟩,
  ⟨("_law_due", none), "_law_due", "_law_due", defArgs st_law_due, defBody st_law_due, defScope st_law_due, [], []⟩,
  ⟨("Machine", some "rights_at"), "rights_at", "Machine.rights_at", defArgs st_Machine_rights_at, defBody st_Machine_rights_at, defScope st_Machine_rights_at, [], []⟩,
  ⟨("may_execute", none), "may_execute", "may_execute", defArgs st_may_execute, defBody st_may_execute, defScope st_may_execute, [], []⟩,
  ⟨("Machine", some "place"), "place", "Machine.place", defArgs st_Machine_place, defBody st_Machine_place, defScope st_Machine_place, [], []⟩,
  ⟨("Machine", some "number_at"), "number_at", "Machine.number_at", defArgs st_Machine_number_at, defBody st_Machine_number_at, defScope st_Machine_number_at, [], []⟩,
  ⟨("next_address", none), "next_address", "next_address", defArgs st_next_address, defBody st_next_address, defScope st_next_address, [], []⟩,
  ⟨("decode", none), "decode", "decode", defArgs st_decode, defBody st_decode, defScope st_decode, [], []⟩,
  ⟨("fetch_at", none), "fetch_at", "fetch_at", defArgs st_fetch_at, defBody st_fetch_at, defScope st_fetch_at, [], []⟩,
  ⟨("_law_fetches", none), "_law_fetches", "_law_fetches", defArgs st_law_fetches, defBody st_law_fetches, defScope st_law_fetches, [], []⟩,
  ⟨("Processor", some "copy"), "copy", "Processor.copy", defArgs st_Processor_copy, defBody st_Processor_copy, defScope st_Processor_copy, [], []⟩,
  ⟨("Machine", some "copy"), "copy", "Machine.copy", defArgs st_Machine_copy, defBody st_Machine_copy, defScope st_Machine_copy, [], []⟩,
  ⟨("law", none), "law", "law", defArgs st_law, defBody st_law, defScope st_law, [], []⟩]
def fbs : List (PySem.W.Frag → Bool) := [(He.Fa.free "abs").ok,
  (He.Fa.free "all").ok,
  (He.Fa.free "bool").ok,
  (He.Fa.free "int").ok,
  (He.Fa.free "isinstance").ok,
  (He.Fa.free "len").ok,
  (He.Fa.free "list").ok,
  (He.Fa.free "range").ok,
  (He.Fa.free "str").ok,
  (He.Fa.free "tuple").ok,
  (He.Fa.glo "_law_row").ok,
  (He.Fa.glo "_law_pick").ok,
  (He.Fa.glo "_law_pages").ok,
  (He.Fa.glo "_law_cells").ok,
  (He.Fa.glo "within").ok,
  (He.Fa.glo "check_guest").ok,
  (He.Fa.glo "_law_whole").ok,
  (He.Fa.glo "_law_same").ok,
  (He.Fa.glo "_law_kinds").ok,
  (He.Fa.glo "_law_limit").ok,
  (He.Fa.glo "_law_names").ok,
  (He.Fa.glo "_law_due").ok,
  (He.Fa.glo "may_execute").ok,
  (He.Fa.glo "next_address").ok,
  (He.Fa.glo "decode").ok,
  (He.Fa.glo "fetch_at").ok,
  (He.Fa.glo "_law_fetches").ok,
  (He.Fa.glo "law").ok,
  (He.Fa.cls "Guest").ok,
  (He.Fa.cls "Machine").ok,
  (He.Fa.cls "Processor").ok,
  (He.Fa.glo "Guest").ok,
  (He.Fa.mkr "Guest").ok,
  (He.Fa.glo "Machine").ok,
  (He.Fa.mkr "Machine").ok,
  (He.Fa.glo "Processor").ok,
  (He.Fa.mkr "Processor").ok,
  (He.Fa.meth "Machine" "copy").ok,
  (He.Fa.meth "Machine" "key").ok,
  (He.Fa.meth "Machine" "number_at").ok,
  (He.Fa.meth "Machine" "place").ok,
  (He.Fa.meth "Machine" "rights_at").ok,
  (He.Fa.meth "Processor" "copy").ok,
  (He.Fa.meth "Processor" "key").ok,
  (fun K => conV K "ADDRESSES" w_ADDRESSES),
  (fun K => conV K "CELLS" w_CELLS),
  (fun K => conV K "EXECUTE" w_EXECUTE),
  (fun K => conV K "FRAMES" w_FRAMES),
  (fun K => conV K "MOST_WRITES" w_MOST_WRITES),
  (fun K => conV K "NUMBERS" w_NUMBERS),
  (fun K => conV K "OPS" w_OPS),
  (fun K => conV K "PAGES" w_PAGES),
  (fun K => conV K "PROCESSORS" w_PROCESSORS),
  (fun K => conV K "REGISTERS" w_REGISTERS),
  (He.Fa.glo "KIND_LIMITS").ok,
  (fun K => kdB K (He.ga K "KIND_LIMITS") kd_KIND_LIMITS),
  (He.Fa.noat "Processor" "enabled").ok,
  (He.Fa.noat "Processor" "halted").ok,
  (He.Fa.noat "Processor" "less").ok,
  (He.Fa.noat "Processor" "level").ok,
  (He.Fa.noat "Processor" "pc").ok,
  (He.Fa.noat "Processor" "pending").ok,
  (He.Fa.noat "Processor" "regs").ok,
  (He.Fa.noat "Processor" "saved").ok,
  (He.Fa.noat "Processor" "zero").ok,
  (He.Fa.noat "Machine" "frames").ok,
  (He.Fa.noat "Machine" "guest").ok,
  (He.Fa.noat "Machine" "pages").ok,
  (He.Fa.noat "Machine" "processors").ok,
  (He.Fa.noat "Machine" "written").ok,
  (He.Fa.noat "Guest" "frames").ok,
  (He.Fa.noat "Guest" "handlers").ok,
  (He.Fa.noat "Guest" "pages").ok,
  (He.Fa.noat "Guest" "starts").ok,
  (He.Fa.noat "Guest" "writes").ok,
  (fun K => dflV K ("Guest", some "__init__") 0 (.tup [(.tup [(.int 0), (.int 7)]), (.tup [(.int 1), (.int 7)]), (.tup [(.int 2), (.int 7)]), (.tup [(.int 3), (.int 7)])])),
  (fun K => dflV K ("Guest", some "__init__") 1 (.tup [(.int 0), .non])),
  (fun K => dflV K ("Guest", some "__init__") 2 (.tup [(.int 60), (.int 60)])),
  (fun K => dflV K ("Guest", some "__init__") 3 (.tup []))]
abbrev R : PySem.W.OpenRow := PySem.W.OpenLaw.row PySem.Challenge.rw_guestlives_k08_fetch_reads_the_cells_of
def tabs : List He.Tab := [(kdA "KIND_LIMITS", ([("r" : Str), ("n" : Str), ("a" : Str), ("g" : Str), ("f" : Str), ("k" : Str)] : List Str))]
abbrev hk : PySem.W.Hook := hookK 6 (allB fbs) fn tabs
def ob (s : PySem.W.SharedT) : AlK := obsKG 6 (allB fbs) fn tabs (HandSHeadRun.getT s)
theorem ob_eq (s : PySem.W.SharedT) : ob s = hk.obs s.abs := obsKG_eq (HandSHeadRun.getT_eq s)
def loose : List Str := (["_wall", "FRAMES", "CELLS", "PAGES", "ADDRESSES", "NUMBERS", "REGISTERS", "PROCESSORS", "EXECUTE", "MOST_WRITES", "next_address", "Processor", "Machine", "GuestlivesError", "GuestError", "OPS", "KIND_LIMITS", "decode", "may_execute", "fetch_at"] : List Str) ++ (["PLAIN_PAGES", "within", "check_guest", "Guest", "_law_row", "_law_pick", "_law_whole", "_law_names", "_law_kinds", "_law_limit", "_law_pages", "_law_cells", "_law_due", "_law_same", "_law_fetches"] : List Str)
theorem tx_of {K : PySem.W.Frag} {w : World} {h : Heap} {mg : Str → Option Value} (X : K.In h) (G : h.Ns mainGlobals mg) (c : SaysK (allB fbs) fn tabs w K) : Tx K w mg where
  b_abs := He.free_ok X G (allB_at c.d.facts 0)
  b_all := He.free_ok X G (allB_at c.d.facts 1)
  b_bool := He.free_ok X G (allB_at c.d.facts 2)
  b_int := He.free_ok X G (allB_at c.d.facts 3)
  b_isinstance := He.free_ok X G (allB_at c.d.facts 4)
  b_len := He.free_ok X G (allB_at c.d.facts 5)
  b_list := He.free_ok X G (allB_at c.d.facts 6)
  b_range := He.free_ok X G (allB_at c.d.facts 7)
  b_str := He.free_ok X G (allB_at c.d.facts 8)
  b_tuple := He.free_ok X G (allB_at c.d.facts 9)
  g__law_row := He.glo_ok X G (allB_at c.d.facts 10)
  g__law_pick := He.glo_ok X G (allB_at c.d.facts 11)
  g__law_pages := He.glo_ok X G (allB_at c.d.facts 12)
  g__law_cells := He.glo_ok X G (allB_at c.d.facts 13)
  g_within := He.glo_ok X G (allB_at c.d.facts 14)
  g_check_guest := He.glo_ok X G (allB_at c.d.facts 15)
  g__law_whole := He.glo_ok X G (allB_at c.d.facts 16)
  g__law_same := He.glo_ok X G (allB_at c.d.facts 17)
  g__law_kinds := He.glo_ok X G (allB_at c.d.facts 18)
  g__law_limit := He.glo_ok X G (allB_at c.d.facts 19)
  g__law_names := He.glo_ok X G (allB_at c.d.facts 20)
  g__law_due := He.glo_ok X G (allB_at c.d.facts 21)
  g_may_execute := He.glo_ok X G (allB_at c.d.facts 22)
  g_next_address := He.glo_ok X G (allB_at c.d.facts 23)
  g_decode := He.glo_ok X G (allB_at c.d.facts 24)
  g_fetch_at := He.glo_ok X G (allB_at c.d.facts 25)
  g__law_fetches := He.glo_ok X G (allB_at c.d.facts 26)
  g_law := He.glo_ok X G (allB_at c.d.facts 27)
  cl_Guest := He.cls_ok (allB_at c.d.facts 28)
  cl_Machine := He.cls_ok (allB_at c.d.facts 29)
  cl_Processor := He.cls_ok (allB_at c.d.facts 30)
  g_Guest := He.glo_ok X G (allB_at c.d.facts 31)
  mk_Guest := He.mkr_ok (allB_at c.d.facts 32)
  g_Machine := He.glo_ok X G (allB_at c.d.facts 33)
  mk_Machine := He.mkr_ok (allB_at c.d.facts 34)
  g_Processor := He.glo_ok X G (allB_at c.d.facts 35)
  mk_Processor := He.mkr_ok (allB_at c.d.facts 36)
  me_Machine_copy := He.meth_ok (allB_at c.d.facts 37)
  me_Machine_key := He.meth_ok (allB_at c.d.facts 38)
  me_Machine_number_at := He.meth_ok (allB_at c.d.facts 39)
  me_Machine_place := He.meth_ok (allB_at c.d.facts 40)
  me_Machine_rights_at := He.meth_ok (allB_at c.d.facts 41)
  me_Processor_copy := He.meth_ok (allB_at c.d.facts 42)
  me_Processor_key := He.meth_ok (allB_at c.d.facts 43)
  c_ADDRESSES := conV_ok X G (allB_at c.d.facts 44)
  c_CELLS := conV_ok X G (allB_at c.d.facts 45)
  c_EXECUTE := conV_ok X G (allB_at c.d.facts 46)
  c_FRAMES := conV_ok X G (allB_at c.d.facts 47)
  c_MOST_WRITES := conV_ok X G (allB_at c.d.facts 48)
  c_NUMBERS := conV_ok X G (allB_at c.d.facts 49)
  c_OPS := conV_ok X G (allB_at c.d.facts 50)
  c_PAGES := conV_ok X G (allB_at c.d.facts 51)
  c_PROCESSORS := conV_ok X G (allB_at c.d.facts 52)
  c_REGISTERS := conV_ok X G (allB_at c.d.facts 53)
  kd_KIND_LIMITS := kd_ok X G (allB_at c.d.facts 54) (c.tab 0) (allB_at c.d.facts 55)
  att := fun C f e => by
    have e := List.any_eq_true.mp e
    obtain ⟨p, hp, q⟩ := e
    have q := Bool.and_eq_true_iff.mp q
    obtain ⟨q1, q2⟩ := q
    have q1 := of_decide_eq_true q1
    have q2 := of_decide_eq_true q2
    subst q1 q2
    simp only [tabL, List.mem_cons, List.not_mem_nil, or_false] at hp
    rcases hp with rfl | rfl | rfl | rfl | rfl | rfl | rfl | rfl | rfl | rfl | rfl | rfl | rfl | rfl | rfl | rfl | rfl | rfl | rfl
    · rw [show toS (n_Processor, n_enabled).1 = ("Processor" : Str) from e_Processor, show toS (n_Processor, n_enabled).2 = ("enabled" : Str) by decide +kernel]; exact ⟨He.cls_ok (allB_at c.d.facts 30), He.noat_ok (allB_at c.d.facts 56)⟩
    · rw [show toS (n_Processor, n_halted).1 = ("Processor" : Str) from e_Processor, show toS (n_Processor, n_halted).2 = ("halted" : Str) by decide +kernel]; exact ⟨He.cls_ok (allB_at c.d.facts 30), He.noat_ok (allB_at c.d.facts 57)⟩
    · rw [show toS (n_Processor, n_less).1 = ("Processor" : Str) from e_Processor, show toS (n_Processor, n_less).2 = ("less" : Str) by decide +kernel]; exact ⟨He.cls_ok (allB_at c.d.facts 30), He.noat_ok (allB_at c.d.facts 58)⟩
    · rw [show toS (n_Processor, n_level).1 = ("Processor" : Str) from e_Processor, show toS (n_Processor, n_level).2 = ("level" : Str) by decide +kernel]; exact ⟨He.cls_ok (allB_at c.d.facts 30), He.noat_ok (allB_at c.d.facts 59)⟩
    · rw [show toS (n_Processor, n_pc).1 = ("Processor" : Str) from e_Processor, show toS (n_Processor, n_pc).2 = ("pc" : Str) by decide +kernel]; exact ⟨He.cls_ok (allB_at c.d.facts 30), He.noat_ok (allB_at c.d.facts 60)⟩
    · rw [show toS (n_Processor, n_pending).1 = ("Processor" : Str) from e_Processor, show toS (n_Processor, n_pending).2 = ("pending" : Str) by decide +kernel]; exact ⟨He.cls_ok (allB_at c.d.facts 30), He.noat_ok (allB_at c.d.facts 61)⟩
    · rw [show toS (n_Processor, n_regs).1 = ("Processor" : Str) from e_Processor, show toS (n_Processor, n_regs).2 = ("regs" : Str) by decide +kernel]; exact ⟨He.cls_ok (allB_at c.d.facts 30), He.noat_ok (allB_at c.d.facts 62)⟩
    · rw [show toS (n_Processor, n_saved).1 = ("Processor" : Str) from e_Processor, show toS (n_Processor, n_saved).2 = ("saved" : Str) by decide +kernel]; exact ⟨He.cls_ok (allB_at c.d.facts 30), He.noat_ok (allB_at c.d.facts 63)⟩
    · rw [show toS (n_Processor, n_zero).1 = ("Processor" : Str) from e_Processor, show toS (n_Processor, n_zero).2 = ("zero" : Str) by decide +kernel]; exact ⟨He.cls_ok (allB_at c.d.facts 30), He.noat_ok (allB_at c.d.facts 64)⟩
    · rw [show toS (n_Machine, n_frames).1 = ("Machine" : Str) from e_Machine, show toS (n_Machine, n_frames).2 = ("frames" : Str) by decide +kernel]; exact ⟨He.cls_ok (allB_at c.d.facts 29), He.noat_ok (allB_at c.d.facts 65)⟩
    · rw [show toS (n_Machine, n_guest).1 = ("Machine" : Str) from e_Machine, show toS (n_Machine, n_guest).2 = ("guest" : Str) by decide +kernel]; exact ⟨He.cls_ok (allB_at c.d.facts 29), He.noat_ok (allB_at c.d.facts 66)⟩
    · rw [show toS (n_Machine, n_pages).1 = ("Machine" : Str) from e_Machine, show toS (n_Machine, n_pages).2 = ("pages" : Str) by decide +kernel]; exact ⟨He.cls_ok (allB_at c.d.facts 29), He.noat_ok (allB_at c.d.facts 67)⟩
    · rw [show toS (n_Machine, n_processors).1 = ("Machine" : Str) from e_Machine, show toS (n_Machine, n_processors).2 = ("processors" : Str) by decide +kernel]; exact ⟨He.cls_ok (allB_at c.d.facts 29), He.noat_ok (allB_at c.d.facts 68)⟩
    · rw [show toS (n_Machine, n_written).1 = ("Machine" : Str) from e_Machine, show toS (n_Machine, n_written).2 = ("written" : Str) by decide +kernel]; exact ⟨He.cls_ok (allB_at c.d.facts 29), He.noat_ok (allB_at c.d.facts 69)⟩
    · rw [show toS (n_Guest, n_frames).1 = ("Guest" : Str) from e_Guest, show toS (n_Guest, n_frames).2 = ("frames" : Str) by decide +kernel]; exact ⟨He.cls_ok (allB_at c.d.facts 28), He.noat_ok (allB_at c.d.facts 70)⟩
    · rw [show toS (n_Guest, n_handlers).1 = ("Guest" : Str) from e_Guest, show toS (n_Guest, n_handlers).2 = ("handlers" : Str) by decide +kernel]; exact ⟨He.cls_ok (allB_at c.d.facts 28), He.noat_ok (allB_at c.d.facts 71)⟩
    · rw [show toS (n_Guest, n_pages).1 = ("Guest" : Str) from e_Guest, show toS (n_Guest, n_pages).2 = ("pages" : Str) by decide +kernel]; exact ⟨He.cls_ok (allB_at c.d.facts 28), He.noat_ok (allB_at c.d.facts 72)⟩
    · rw [show toS (n_Guest, n_starts).1 = ("Guest" : Str) from e_Guest, show toS (n_Guest, n_starts).2 = ("starts" : Str) by decide +kernel]; exact ⟨He.cls_ok (allB_at c.d.facts 28), He.noat_ok (allB_at c.d.facts 73)⟩
    · rw [show toS (n_Guest, n_writes).1 = ("Guest" : Str) from e_Guest, show toS (n_Guest, n_writes).2 = ("writes" : Str) by decide +kernel]; exact ⟨He.cls_ok (allB_at c.d.facts 28), He.noat_ok (allB_at c.d.facts 74)⟩
  dv_Guest_init_0 := dflV_ok (allB_at c.d.facts 75)
  dv_Guest_init_1 := dflV_ok (allB_at c.d.facts 76)
  dv_Guest_init_2 := dflV_ok (allB_at c.d.facts 77)
  dv_Guest_init_3 := dflV_ok (allB_at c.d.facts 78)
  d_law_row := c.d.defs 0
  d_law_pick := c.d.defs 1
  d_law_pages := c.d.defs 2
  d_law_cells := c.d.defs 3
  d_Processor_init := c.d.defs 4
  d_Machine_init := c.d.defs 5
  d_within := c.d.defs 6
  d_check_guest := c.d.defs 7
  d_Guest_init := c.d.defs 8
  d_Processor_key := c.d.defs 9
  d_Machine_key := c.d.defs 10
  d_law_whole := c.d.defs 11
  d_law_same := c.d.defs 12
  d_law_kinds := c.d.defs 13
  d_law_limit := c.d.defs 14
  d_law_names := c.d.defs 15
  d_law_due := c.d.defs 16
  d_Machine_rights_at := c.d.defs 17
  d_may_execute := c.d.defs 18
  d_Machine_place := c.d.defs 19
  d_Machine_number_at := c.d.defs 20
  d_next_address := c.d.defs 21
  d_decode := c.d.defs 22
  d_fetch_at := c.d.defs 23
  d_law_fetches := c.d.defs 24
  d_Processor_copy := c.d.defs 25
  d_Machine_copy := c.d.defs 26
  d_law := c.d.defs 27
end K08
open PySem PySem.W PySem.Calls PyProof.Rows in
theorem K08.holds : PySem.Challenge.rw_guestlives_k08_fetch_reads_the_cells_of.Holds := by
  w_on; o_law
  o_head K08.hk
  case hw => w_witness2
  case hc =>
    refine GL.walk_end (l := PySem.Challenge.rw_guestlives_k08_fetch_reads_the_cells_of) (n := 63) (k := 6) (x := "_law_script") rfl (by decide) (by kernel_rfl) ⟨rfl, by decide, by decide⟩ ?F
    intro w mg fa h Y G hmg0
    obtain ⟨K, KX, c⟩ := Y
    have T : K08.Tx K w mg := K08.tx_of KX G c
    have hmg : mg ("law" : PySem.Str) = some (.ref fa) := by
      have e : (HandSHeadRun.topDef (OpenLaw.row PySem.Challenge.rw_guestlives_k08_fetch_reads_the_cells_of).prog 41).name = ("law" : PySem.Str) := by kernel_rfl
      rw [← e]; exact hmg0
    have e := hmg.symm.trans T.g_law
    cases e
    obtain ⟨fd0, F0⟩ := T.d_law
    have hb := F0.bindsA (ps := [("_law_script" : PySem.Str)]) fun _ _ _ _ _ _ us hl => match us, hl with | [_], _ => rfl
    exact ⟨K, fd0, GL.spI K 1 K08.f_law, KX, fun s v => hb s [v] rfl, fun H a ns hl hO hS => GL.law_sp rfl K08.plain H a ns hl hO hS, fun base X2 G2 => K08.fi_law T F0⟩

set_option maxRecDepth 100000 in
set_option maxHeartbeats 4000000 in
theorem PySem.Challenge.cw_guestlives_k08_fetch_reads_the_cells_of_holds : PySem.Challenge.rw_guestlives_k08_fetch_reads_the_cells_of.Holds := by
  exact K08.holds
