import PyProof.Rows.All
import Wide.All
import OpenK.AllK
import Wide.FinOn
import HandS.ForMost
import HandS.Walk
import HandS.Exc
import HandS.ExcOwn
import HandS.WordsExc
import HandS.HeadHook1
import HandS.HeadHook2
import HandS.TupAny
import HandS.IsInst
import HandS.TupLe
import HandS.TupMul
import HandS.Defaults
import HandS.CallSlots
import HandS.Head0
import HandS.Head1
import HandS.Head2
import HandS.HeadEnd
import KE.KExcSuper
import KE.KSuper
import HandS.ExcInit
import HandS.ExcSuper
import HandS.ClsMeth
import HandS.TryMany
import HandS.ExcIs
import HandS.ExcField
import HandS.HeadHook3
import HandS.FStr
import HandS.Flow
import HandS.RaiseMore
import HandS.SetFor
import HandS.Strs
import HandS.Dict
import HandS.MakeKw
import HandS.MakeKwOnly
import HandS.Style
import PyProof.RulesMatch
import PyProof.Rows.StrRules
import PyProof.AssignAttr
import PyProof.P3Eq
import KE.DataEq
import PySem.Challenge.RW_guestlives_k44_shortest_moves_of_explici
set_option Elab.async false
set_option linter.all false
set_option maxRecDepth 100000
set_option maxHeartbeats 1000000
namespace GL
open PySem PySem.Spec PyProof.Rows L2
abbrev Nm := List Nat
def toS (l : Nm) : Str := ⟨l.toArray⟩
theorem toS_inj {a b : Nm} (h : toS a = toS b) : a = b := by
  have := congrArg (fun s : Str => s.cps.toList) h
  simpa [toS] using this
theorem toS_cps (x : Str) : toS x.cps.toList = x := by
  cases x; simp [toS]
inductive BT where
  | int | bool | str | list | tuple | dict | set | none
  deriving DecidableEq, Inhabited
def BT.name : BT → String
  | .int => "int" | .bool => "bool" | .str => "str" | .list => "list" | .tuple => "tuple" | .dict => "dict" | .set => "set" | .none => "NoneType"
inductive PV where
  | non | bl (b : Bool) | int (i : Int) | str (s : List Nat) | tup (xs : List PV) | loc (n : Nat) | gl (x : Nm) | ty (b : BT) | xn (a d : Nat) (C : Nm) (ns : List Nm) (ws : List PV)
  deriving Inhabited
inductive OB where
  | lst (xs : List PV)
  | rol (xs : List PV)
  | dct (kvs : List (PV × PV))
  | fdct (kvs : List (PV × PV))
  | ins (C : Nm) (fs : List (Nm × PV))
  deriving Inhabited
def OB.mut : OB → Bool
  | .rol _ => false
  | .fdct _ => false
  | _ => true
abbrev Sto := List OB
abbrev Ls := List (Option PV)
structure Exn where
  cls : Nm
  fs : List (Nm × PV)
inductive Out (α : Type) where
  | ok (a : α) (S : Sto)
  | exc (e : Exn) (S : Sto)
  | bad
inductive SOut where
  | nx (ls : Ls) (S : Sto)
  | rt (w : PV) (S : Sto)
  | bk (ls : Ls) (S : Sto)
  | ct (ls : Ls) (S : Sto)
  | exc (e : Exn) (ls : Ls) (S : Sto)
  | bad
abbrev ME := Ls → Sto → Out PV
abbrev MT := Ls → Sto → Out Bool
abbrev MA := Ls → Sto → Out (List PV)
abbrev MS := Ls → Sto → SOut
def Out.bind {α β : Type} (o : Out α) (f : α → Sto → Out β) : Out β := match o with
  | .ok a S => f a S
  | .exc e S => .exc e S
  | .bad => .bad
def Out.then {α : Type} (o : Out α) (ls : Ls) (f : α → Sto → SOut) : SOut := match o with
  | .ok a S => f a S
  | .exc e S => .exc e ls S
  | .bad => .bad
def SOut.seq (o : SOut) (f : MS) : SOut := match o with
  | .nx ls S => f ls S
  | r => r
mutual
inductive RW (K : PySem.W.Frag) (ρ : Nat → Addr) (N : Nat) (H : Hp) : PV → V → Prop
  | non : RW K ρ N H .non .non
  | bl (b : Bool) : RW K ρ N H (.bl b) (.bl b)
  | int (i : Int) : RW K ρ N H (.int i) (.int i)
  | str (x : Str) : RW K ρ N H (.str x.cps.toList) (.str x)
  | tup {xs : List PV} {a : Addr} {vs : List V} : SqT K H a vs → RWs K ρ N H xs vs → RW K ρ N H (.tup xs) (.ref a)
  | loc (n : Nat) : n < N → RW K ρ N H (.loc n) (.ref (ρ n))
  | gl (x : Nm) : RW K ρ N H (.gl x) (.ref (He.ga K (toS x)))
  | ty (n : BT) : RW K ρ N H (.ty n) (.ty n.name)
  | xn {a d : Addr} {C : Nm} {ns : List Nm} {ws : List PV} {fs : List (Str × V)} : H d = some (.xd fs) → fs.map (·.1) = ns.map toS → RWs K ρ N H ws (fs.map (·.2)) → RW K ρ N H (.xn a d C ns ws) (.ref a)
inductive RWs (K : PySem.W.Frag) (ρ : Nat → Addr) (N : Nat) (H : Hp) : List PV → List V → Prop
  | nil : RWs K ρ N H [] []
  | cons {w : PV} {ws : List PV} {v : V} {vs : List V} : RW K ρ N H w v → RWs K ρ N H ws vs → RWs K ρ N H (w :: ws) (v :: vs)
end
def RoL (K : PySem.W.Frag) (H : Hp) (a : Addr) (xs : List V) : Prop :=
  (∃ o, H a = some (.frz o (.lst xs))) ∨
    ∃ (o : Obj) (its : Array Value) (n : Nat), K.lookup a = some o ∧ o.cls = .type "list" ∧ o.dict = none ∧ o.data = .seq its n ∧ its.size ≤ sizeLine ∧ Vals xs its.toList
theorem RoL.sq {K : PySem.W.Frag} {H : Hp} {a : Addr} {xs : List V} (h : RoL K H a xs) : SqL K H a xs := by
  rcases h with ⟨o, h⟩ | h
  · exact .inl (.inr ⟨o, h⟩)
  · exact .inr h
def Ext (K : PySem.W.Frag) (ρ : Nat → Addr) (N : Nat) (H : Hp) (ρ' : Nat → Addr) (N' : Nat) (H' : Hp) : Prop :=
  N ≤ N' ∧ (∀ n, n < N → ρ' n = ρ n) ∧ (∀ a vs, SqT K H a vs → SqT K H' a vs) ∧ (∀ a vs, RoL K H a vs → RoL K H' a vs) ∧ ∀ a fs, H a = some (.xd fs) → H' a = some (.xd fs)
section
variable {K : PySem.W.Frag} {ρ ρ' ρ'' : Nat → Addr} {N N' N'' : Nat} {H H' H'' : Hp}
theorem Ext.refl : Ext K ρ N H ρ N H := ⟨Nat.le_refl _, fun _ _ => rfl, fun _ _ h => h, fun _ _ h => h, fun _ _ h => h⟩
theorem Ext.trans (a : Ext K ρ N H ρ' N' H') (b : Ext K ρ' N' H' ρ'' N'' H'') : Ext K ρ N H ρ'' N'' H'' :=
  ⟨Nat.le_trans a.1 b.1, fun n h => (b.2.1 n (Nat.lt_of_lt_of_le h a.1)).trans (a.2.1 n h), fun x vs h => b.2.2.1 x vs (a.2.2.1 x vs h), fun x vs h => b.2.2.2.1 x vs (a.2.2.2.1 x vs h), fun x vs h => b.2.2.2.2 x vs (a.2.2.2.2 x vs h)⟩
mutual
theorem RW.ext (e : Ext K ρ N H ρ' N' H') : ∀ {w : PV} {v : V}, RW K ρ N H w v → RW K ρ' N' H' w v
  | _, _, .non => .non
  | _, _, .bl b => .bl b
  | _, _, .int i => .int i
  | _, _, .str x => .str x
  | _, _, .tup h hs => .tup (e.2.2.1 _ _ h) (RWs.ext e hs)
  | _, _, .loc n h => by
    rw [← e.2.1 n h]
    exact .loc n (Nat.lt_of_lt_of_le h e.1)
  | _, _, .gl x => .gl x
  | _, _, .ty n => .ty n
  | _, _, .xn h hn hs => .xn (e.2.2.2.2 _ _ h) hn (RWs.ext e hs)
theorem RWs.ext (e : Ext K ρ N H ρ' N' H') : ∀ {w : List PV} {v : List V}, RWs K ρ N H w v → RWs K ρ' N' H' w v
  | _, _, .nil => .nil
  | _, _, .cons h hs => .cons (RW.ext e h) (RWs.ext e hs)
end
theorem RWs.length : ∀ {ws : List PV} {vs : List V}, RWs K ρ N H ws vs → ws.length = vs.length
  | _, _, .nil => rfl
  | _, _, .cons _ t => by simp [RWs.length t]
theorem RWs.get : ∀ {ws : List PV} {vs : List V} {i : Nat} {w : PV}, RWs K ρ N H ws vs → ws[i]? = some w → ∃ v, vs[i]? = some v ∧ RW K ρ N H w v
  | _, _, _, _, .nil, e => by simp at e
  | _, _, 0, _, .cons r _, e => by simp at e; subst e; exact ⟨_, rfl, r⟩
  | _, _, i + 1, w, .cons _ t, e => by
    obtain ⟨v, h1, h2⟩ := RWs.get (i := i) (w := w) t (by simpa using e)
    exact ⟨v, by simpa using h1, h2⟩
theorem RWs.app : ∀ {ws ws' : List PV} {vs vs' : List V}, RWs K ρ N H ws vs → RWs K ρ N H ws' vs' → RWs K ρ N H (ws ++ ws') (vs ++ vs')
  | _, _, _, _, .nil, s => s
  | _, _, _, _, .cons r t, s => .cons r (RWs.app t s)
theorem RWs.take : ∀ {ws : List PV} {vs : List V} (n : Nat), RWs K ρ N H ws vs → RWs K ρ N H (ws.take n) (vs.take n)
  | _, _, 0, _ => .nil
  | _, _, _ + 1, .nil => .nil
  | _, _, n + 1, .cons r t => .cons r (RWs.take n t)
theorem RWs.drop : ∀ {ws : List PV} {vs : List V} (n : Nat), RWs K ρ N H ws vs → RWs K ρ N H (ws.drop n) (vs.drop n)
  | _, _, 0, r => r
  | _, _, _ + 1, .nil => .nil
  | _, _, n + 1, .cons _ t => RWs.drop n t
theorem RWs.set {w : PV} {v : V} (r : RW K ρ N H w v) : ∀ {ws : List PV} {vs : List V} (i : Nat), RWs K ρ N H ws vs → RWs K ρ N H (ws.set i w) (vs.set i v)
  | _, _, _, .nil => .nil
  | _, _, 0, .cons _ t => .cons r t
  | _, _, i + 1, .cons q t => .cons q (RWs.set r i t)
theorem RWs.dropLast {ws : List PV} {vs : List V} (h : RWs K ρ N H ws vs) : RWs K ρ N H ws.dropLast vs.dropLast := by
  rw [List.dropLast_eq_take, List.dropLast_eq_take, h.length]; exact h.take _
end
inductive RFs (K : PySem.W.Frag) (ρ : Nat → Addr) (N : Nat) (H : Hp) : List (Nm × PV) → List (Str × V) → Prop
  | nil : RFs K ρ N H [] []
  | cons {f : Nm} {w : PV} {r : List (Nm × PV)} {v : V} {r' : List (Str × V)} : RW K ρ N H w v → RFs K ρ N H r r' → RFs K ρ N H ((f, w) :: r) ((toS f, v) :: r')
def RKey : PV → Key → Prop
  | .int i, .inl j => i = j
  | .str l, .inr x => x.cps.toList = l
  | _, _ => False
inductive RKs (K : PySem.W.Frag) (ρ : Nat → Addr) (N : Nat) (H : Hp) : List (PV × PV) → List (Key × V) → Prop
  | nil : RKs K ρ N H [] []
  | cons {k w : PV} {r : List (PV × PV)} {kk : Key} {v : V} {r' : List (Key × V)} : RKey k kk → RW K ρ N H w v → RKs K ρ N H r r' → RKs K ρ N H ((k, w) :: r) ((kk, v) :: r')
def RO (K : PySem.W.Frag) (ρ : Nat → Addr) (N : Nat) (H : Hp) : OB → Addr → Prop
  | .lst xs, a => ∃ vs, H a = some (.lst vs) ∧ RWs K ρ N H xs vs
  | .rol xs, a => ∃ vs, RoL K H a vs ∧ RWs K ρ N H xs vs
  | .dct kvs, a => ∃ kv', H a = some (.dK kv') ∧ RKs K ρ N H kvs kv'
  | .fdct kvs, a => ∃ o kv', H a = some (.frz o (.dK kv')) ∧ RKs K ρ N H kvs kv'
  | .ins C fs, a => ∃ dx fs', H a = some (.ins (He.ga K (toS C)) dx fs') ∧ RFs K ρ N H fs fs'
structure RSt (K : PySem.W.Frag) (ρ : Nat → Addr) (H : Hp) (S : Sto) : Prop where
  at_ : ∀ n o, S[n]? = some o → RO K ρ S.length H o (ρ n)
  inj : ∀ n m o o', S[n]? = some o → S[m]? = some o' → o.mut = true → o'.mut = true → ρ n = ρ m → n = m
section
variable {K : PySem.W.Frag} {ρ ρ' ρ'' : Nat → Addr} {N N' N'' : Nat} {H H' H'' : Hp} {S : Sto}
theorem RFs.ext (e : Ext K ρ N H ρ' N' H') : ∀ {w : List (Nm × PV)} {v : List (Str × V)}, RFs K ρ N H w v → RFs K ρ' N' H' w v
  | _, _, .nil => .nil
  | _, _, .cons h hs => .cons (RW.ext e h) (RFs.ext e hs)
theorem RKs.ext (e : Ext K ρ N H ρ' N' H') : ∀ {w : List (PV × PV)} {v : List (Key × V)}, RKs K ρ N H w v → RKs K ρ' N' H' w v
  | _, _, .nil => .nil
  | _, _, .cons hk h hs => .cons hk (RW.ext e h) (RKs.ext e hs)
theorem RoL.keep {a : Addr} {xs : List V} (k : ∀ h, H a = some h → H' a = some h) (h : RoL K H a xs) : RoL K H' a xs := by
  rcases h with ⟨o, h⟩ | h
  · exact .inl ⟨o, k _ h⟩
  · exact .inr h
theorem RO.ext {o : OB} {a : Addr} (e : Ext K ρ N H ρ' N' H') (k : ∀ h, H a = some h → H' a = some h) (r : RO K ρ N H o a) : RO K ρ' N' H' o a := by
  cases o with
  | lst xs => obtain ⟨vs, h, r⟩ := r; exact ⟨vs, k _ h, r.ext e⟩
  | rol xs => obtain ⟨vs, h, r⟩ := r; exact ⟨vs, h.keep k, r.ext e⟩
  | dct kvs => obtain ⟨vs, h, r⟩ := r; exact ⟨vs, k _ h, r.ext e⟩
  | fdct kvs => obtain ⟨o, vs, h, r⟩ := r; exact ⟨o, vs, k _ h, r.ext e⟩
  | ins C fs => obtain ⟨dx, vs, h, r⟩ := r; exact ⟨dx, vs, k _ h, r.ext e⟩
def MutH : HO → Prop
  | .lst _ => True
  | .dK _ => True
  | .ins _ _ _ => True
  | _ => False
theorem RO.mutH {o : OB} {a : Addr} (r : RO K ρ N H o a) (m : o.mut = true) : ∃ h, H a = some h ∧ MutH h := by
  cases o with
  | lst xs => obtain ⟨vs, h, r⟩ := r; exact ⟨_, h, trivial⟩
  | rol xs => cases m
  | dct kvs => obtain ⟨vs, h, r⟩ := r; exact ⟨_, h, trivial⟩
  | fdct kvs => cases m
  | ins C fs => obtain ⟨dx, vs, h, r⟩ := r; exact ⟨_, h, trivial⟩
theorem sqt_upd_new {p a : Addr} {ho : HO} {vs : List V} (hp : H p = none) (h : SqT K H a vs) : SqT K (upd H p ho) a vs := by
  rcases h with (h | ⟨o, h⟩) | h
  · exact .inl (.inl (by rw [upd_ne (ne_of_none h hp)]; exact h))
  · exact .inl (.inr ⟨o, by rw [upd_ne (ne_of_none h hp)]; exact h⟩)
  · exact .inr h
theorem sqt_upd_mut {p a : Addr} {h0 ho : HO} {vs : List V} (hp : H p = some h0) (m : MutH h0) (h : SqT K H a vs) : SqT K (upd H p ho) a vs := by
  rcases h with (h | ⟨o, h⟩) | h
  · exact .inl (.inl (by rw [upd_ne (ne_of h hp (by rintro rfl; exact m))]; exact h))
  · exact .inl (.inr ⟨o, by rw [upd_ne (ne_of h hp (by rintro rfl; exact m))]; exact h⟩)
  · exact .inr h
theorem rol_upd_new {p a : Addr} {ho : HO} {vs : List V} (hp : H p = none) (h : RoL K H a vs) : RoL K (upd H p ho) a vs :=
  h.keep fun _ e => by rw [upd_ne (ne_of_none e hp)]; exact e
theorem rol_upd_mut {p a : Addr} {h0 ho : HO} {vs : List V} (hp : H p = some h0) (m : MutH h0) (h : RoL K H a vs) : RoL K (upd H p ho) a vs := by
  rcases h with ⟨o, h⟩ | h
  · exact .inl ⟨o, by rw [upd_ne (ne_of h hp (by rintro rfl; exact m))]; exact h⟩
  · exact .inr h
def grow (ρ : Nat → Addr) (N : Nat) (p : Addr) : Nat → Addr := fun n => if n = N then p else ρ n
theorem grow_new {p : Addr} : grow ρ N p N = p := by simp [grow]
theorem grow_old {p : Addr} {n : Nat} (h : n < N) : grow ρ N p n = ρ n := by simp [grow, Nat.ne_of_lt h]
theorem ext_new {p : Addr} {ho : HO} (hp : H p = none) : Ext K ρ N H (grow ρ N p) (N + 1) (upd H p ho) :=
  ⟨Nat.le_succ _, fun _ h => grow_old h, fun _ _ h => sqt_upd_new hp h, fun _ _ h => rol_upd_new hp h, fun _ _ h => by rw [upd_ne (ne_of_none h hp)]; exact h⟩
theorem ext_keep {p : Addr} {ho : HO} (hp : H p = none) : Ext K ρ N H ρ N (upd H p ho) :=
  ⟨Nat.le_refl _, fun _ _ => rfl, fun _ _ h => sqt_upd_new hp h, fun _ _ h => rol_upd_new hp h, fun _ _ h => by rw [upd_ne (ne_of_none h hp)]; exact h⟩
theorem ext_upd {p : Addr} {h0 ho : HO} (hp : H p = some h0) (m : MutH h0) : Ext K ρ N H ρ N (upd H p ho) :=
  ⟨Nat.le_refl _, fun _ _ => rfl, fun _ _ h => sqt_upd_mut hp m h, fun _ _ h => rol_upd_mut hp m h, fun _ _ h => by rw [upd_ne (ne_of h hp (by rintro rfl; exact m))]; exact h⟩
theorem lt_of_get {n : Nat} {o : OB} (h : S[n]? = some o) : n < S.length := (List.getElem?_eq_some_iff.mp h).1
theorem RSt.keep (r : RSt K ρ H S) {p : Addr} {ho : HO} (hp : H p = none) : RSt K ρ (upd H p ho) S :=
  ⟨fun n o h => (r.at_ n o h).ext (ext_keep hp) fun h' e => by rw [upd_ne (ne_of_none e hp)]; exact e, r.inj⟩
theorem RSt.new (r : RSt K ρ H S) {p : Addr} {ho : HO} {o : OB} (hp : H p = none) (hm : o.mut = true) (ro : RO K (grow ρ S.length p) (S.length + 1) (upd H p ho) o p) :
    RSt K (grow ρ S.length p) (upd H p ho) (S ++ [o]) := by
  have e : Ext K ρ S.length H (grow ρ S.length p) (S.length + 1) (upd H p ho) := ext_new hp
  have hl : (S ++ [o]).length = S.length + 1 := by simp
  refine ⟨fun n o' h => ?_, fun n m o1 o2 h1 h2 m1 m2 q => ?_⟩
  · rw [hl]
    by_cases hn : n < S.length
    · rw [List.getElem?_append_left hn] at h
      rw [grow_old hn]
      exact (r.at_ n o' h).ext e fun h' e' => by rw [upd_ne (ne_of_none e' hp)]; exact e'
    · have : n = S.length := by have := lt_of_get h; omega
      subst this
      rw [List.getElem?_append_right (Nat.le_refl _)] at h
      simp at h; subst h
      rw [grow_new]; exact ro
  · have l1 := lt_of_get h1
    have l2 := lt_of_get h2
    rw [hl] at l1 l2
    by_cases a1 : n < S.length
    · rw [List.getElem?_append_left a1] at h1
      by_cases a2 : m < S.length
      · rw [List.getElem?_append_left a2] at h2
        rw [grow_old a1, grow_old a2] at q
        exact r.inj n m o1 o2 h1 h2 m1 m2 q
      · have : m = S.length := by omega
        subst this
        rw [grow_old a1, grow_new] at q
        obtain ⟨ho', e1, _⟩ := (r.at_ n o1 h1).mutH m1
        rw [q, hp] at e1; cases e1
    · have : n = S.length := by omega
      subst this
      by_cases a2 : m < S.length
      · rw [List.getElem?_append_left a2] at h2
        rw [grow_old a2, grow_new] at q
        obtain ⟨ho', e1, _⟩ := (r.at_ m o2 h2).mutH m2
        rw [← q, hp] at e1; cases e1
      · omega
theorem RSt.set (r : RSt K ρ H S) {n : Nat} {o o' : OB} {ho : HO} (hn : S[n]? = some o) (hm : o.mut = true) (hm' : o'.mut = true) (ro : RO K ρ S.length (upd H (ρ n) ho) o' (ρ n)) :
    RSt K ρ (upd H (ρ n) ho) (S.set n o') := by
  obtain ⟨h0, e0, mh⟩ := (r.at_ n o hn).mutH hm
  have e : Ext K ρ S.length H ρ S.length (upd H (ρ n) ho) := ext_upd e0 mh
  have ln := lt_of_get hn
  refine ⟨fun m o2 h => ?_, fun m m' o1 o2 h1 h2 m1 m2 q => ?_⟩
  · rw [List.length_set]
    by_cases hmn : n = m
    · subst hmn
      rw [List.getElem?_set_self ln] at h
      cases h; exact ro
    · rw [List.getElem?_set_ne hmn] at h
      have ro2 := r.at_ m o2 h
      by_cases mm : o2.mut = true
      · refine ro2.ext e fun h' e' => ?_
        rw [upd_ne (fun z => hmn (r.inj n m o o2 hn h hm mm z.symm))]; exact e'
      · cases o2 with
        | rol xs =>
          obtain ⟨vs, hr, rr⟩ := ro2
          refine ⟨vs, ?_, rr.ext e⟩
          rcases hr with ⟨ob, hr⟩ | hr
          · exact .inl ⟨ob, by rw [upd_ne (ne_of hr e0 (by rintro rfl; exact mh))]; exact hr⟩
          · exact .inr hr
        | fdct kvs =>
          obtain ⟨ob, vs, hr, rr⟩ := ro2
          exact ⟨ob, vs, by rw [upd_ne (ne_of hr e0 (by rintro rfl; exact mh))]; exact hr, rr.ext e⟩
        | _ => exact absurd rfl mm
  · have g : ∀ {k : Nat} {ob : OB}, (S.set n o')[k]? = some ob → ob.mut = true → ∃ ob', S[k]? = some ob' ∧ ob'.mut = true := fun {k ob} hk mk => by
      by_cases hkn : n = k
      · subst hkn; exact ⟨o, hn, hm⟩
      · rw [List.getElem?_set_ne hkn] at hk; exact ⟨ob, hk, mk⟩
    obtain ⟨a, a1, a2⟩ := g h1 m1
    obtain ⟨b, b1, b2⟩ := g h2 m2
    exact r.inj m m' a b a1 b1 a2 b2 q
end
end GL
set_option Elab.async false
set_option linter.all false
set_option maxRecDepth 100000
set_option maxHeartbeats 1000000
namespace GL
open PySem PySem.Spec PyProof.Rows L2
inductive RL (K : PySem.W.Frag) (ρ : Nat → Addr) (N : Nat) (H : Hp) : Ls → L2.St → Prop
  | nil : RL K ρ N H [] []
  | no {ls : Ls} {o : Option V} {σ : L2.St} : RL K ρ N H ls σ → RL K ρ N H (none :: ls) (o :: σ)
  | yes {w : PV} {v : V} {ls : Ls} {σ : L2.St} : RW K ρ N H w v → RL K ρ N H ls σ → RL K ρ N H (some w :: ls) (some v :: σ)
section
variable {K : PySem.W.Frag} {ρ ρ' ρ'' : Nat → Addr} {N N' N'' : Nat} {H H' H'' : Hp} {S : Sto} {ls : Ls} {σ : L2.St}
theorem RL.ext (e : Ext K ρ N H ρ' N' H') : ∀ {ls : Ls} {σ : L2.St}, RL K ρ N H ls σ → RL K ρ' N' H' ls σ
  | _, _, .nil => .nil
  | _, _, .no t => .no (RL.ext e t)
  | _, _, .yes r t => .yes (r.ext e) (RL.ext e t)
theorem RL.length : ∀ {ls : Ls} {σ : L2.St}, RL K ρ N H ls σ → ls.length = σ.length
  | _, _, .nil => rfl
  | _, _, .no t => by simp [RL.length t]
  | _, _, .yes _ t => by simp [RL.length t]
theorem RL.get : ∀ {ls : Ls} {σ : L2.St} {i : Nat} {w : PV}, RL K ρ N H ls σ → ls[i]? = some (some w) → ∃ v, σ[i]? = some (some v) ∧ RW K ρ N H w v
  | _, _, _, _, .nil, e => by simp at e
  | _, _, 0, _, .no _, e => by simp at e
  | _, _, 0, _, .yes r _, e => by simp at e; subst e; exact ⟨_, rfl, r⟩
  | _, _, i + 1, w, .no t, e => by
    obtain ⟨v, h1, h2⟩ := RL.get (i := i) (w := w) t (by simpa using e)
    exact ⟨v, by simpa using h1, h2⟩
  | _, _, i + 1, w, .yes _ t, e => by
    obtain ⟨v, h1, h2⟩ := RL.get (i := i) (w := w) t (by simpa using e)
    exact ⟨v, by simpa using h1, h2⟩
theorem RL.set {w : PV} {v : V} (r : RW K ρ N H w v) : ∀ {ls : Ls} {σ : L2.St} (i : Nat), RL K ρ N H ls σ → RL K ρ N H (ls.set i (some w)) (σ.set i (some v))
  | _, _, _, .nil => .nil
  | _, _, 0, .no t => .yes r t
  | _, _, 0, .yes _ t => .yes r t
  | _, _, i + 1, .no t => .no (RL.set r i t)
  | _, _, i + 1, .yes q t => .yes q (RL.set r i t)
theorem RL.wipe1 (o : Option V) : ∀ {ls : Ls} {σ : L2.St} (i : Nat), RL K ρ N H ls σ → RL K ρ N H (ls.set i none) (σ.set i o)
  | _, _, _, .nil => .nil
  | _, _, 0, .no t => .no t
  | _, _, 0, .yes _ t => .no t
  | _, _, i + 1, .no t => .no (RL.wipe1 o i t)
  | _, _, i + 1, .yes q t => .yes q (RL.wipe1 o i t)
end
def wipeL (ls : Ls) : List Nat → Ls
  | [] => ls
  | v :: vs => (wipeL ls vs).set v none
theorem RL.wipe {K : PySem.W.Frag} {ρ : Nat → Addr} {N : Nat} {H : Hp} {ls : Ls} {σ : L2.St} (h : RL K ρ N H ls σ) : ∀ vs : List Nat, RL K ρ N H (wipeL ls vs) (L2.wipe σ vs)
  | [] => h
  | v :: vs => RL.wipe1 _ v (RL.wipe h vs)
def RX (K : PySem.W.Frag) (ρ : Nat → Addr) (N : Nat) (H : Hp) (e : Exn) (cls : Value) (d : Option Addr) : Prop :=
  cls = .ref (He.ga K (toS e.cls)) ∧ ∃ dx fs', d = some dx ∧ H dx = some (.xd fs') ∧ RFs K ρ N H e.fs fs'
abbrev RelF (α β : Type) := PySem.W.Frag → (Nat → Addr) → Nat → Hp → α → β → Prop
def Post {α β : Type} (R : RelF α β) (K : PySem.W.Frag) (ρ : Nat → Addr) (N : Nat) (H : Hp) (Ex : XK) (o : Out α) (Q : β → Hp → Prop) : Prop := match o with
  | .ok a S' => ∀ ρ' H' b, Ext K ρ N H ρ' S'.length H' → RSt K ρ' H' S' → R K ρ' S'.length H' a b → Q b H'
  | .exc e S' => ∀ ρ' H' cls d, Ext K ρ N H ρ' S'.length H' → RSt K ρ' H' S' → RX K ρ' S'.length H' e cls d → Ex cls d H'
  | .bad => False
def PostS (K : PySem.W.Frag) (ρ : Nat → Addr) (N : Nat) (H : Hp) (Wx : WX) (o : SOut) (D : Ends) : Prop := match o with
  | .nx ls' S' => ∀ ρ' H' σ', Ext K ρ N H ρ' S'.length H' → RSt K ρ' H' S' → RL K ρ' S'.length H' ls' σ' → D.nx σ' H'
  | .bk ls' S' => ∀ ρ' H' σ', Ext K ρ N H ρ' S'.length H' → RSt K ρ' H' S' → RL K ρ' S'.length H' ls' σ' → D.bk σ' H'
  | .ct ls' S' => ∀ ρ' H' σ', Ext K ρ N H ρ' S'.length H' → RSt K ρ' H' S' → RL K ρ' S'.length H' ls' σ' → D.ct σ' H'
  | .rt w S' => ∀ ρ' H' v, Ext K ρ N H ρ' S'.length H' → RSt K ρ' H' S' → RW K ρ' S'.length H' w v → D.rt v H'
  | .exc e ls' S' => ∀ ρ' H' σ' cls d, Ext K ρ N H ρ' S'.length H' → RSt K ρ' H' S' → RL K ρ' S'.length H' ls' σ' → RX K ρ' S'.length H' e cls d → Wx cls d σ' H'
  | .bad => False
abbrev RBool : RelF Bool Bool := fun _ _ _ _ a b => a = b
section
variable {α β γ δ : Type} {R : RelF α β} {R2 : RelF γ δ} {K : PySem.W.Frag} {ρ ρ' : Nat → Addr} {N N' : Nat} {H H' : Hp} {Ex : XK} {o : Out α} {Q Q' : β → Hp → Prop}
theorem Post.imp (h : Post R K ρ N H Ex o Q) (q : ∀ b H', Q b H' → Q' b H') : Post R K ρ N H Ex o Q' := by
  cases o with
  | ok a S' => exact fun ρ' H' b e r x => q b H' (h ρ' H' b e r x)
  | exc e S' => exact h
  | bad => exact h
theorem Post.ext (e : Ext K ρ N H ρ' N' H') (h : Post R K ρ N H Ex o Q) : Post R K ρ' N' H' Ex o Q := by
  cases o with
  | ok a S' => exact fun ρ2 H2 b e2 r x => h ρ2 H2 b (e.trans e2) r x
  | exc x S' => exact fun ρ2 H2 c d e2 r x => h ρ2 H2 c d (e.trans e2) r x
  | bad => exact h
theorem PostS.ext {Wx : WX} {so : SOut} {D : Ends} (e : Ext K ρ N H ρ' N' H') (h : PostS K ρ N H Wx so D) : PostS K ρ' N' H' Wx so D := by
  cases so with
  | nx a S' => exact fun ρ2 H2 b e2 r x => h ρ2 H2 b (e.trans e2) r x
  | bk a S' => exact fun ρ2 H2 b e2 r x => h ρ2 H2 b (e.trans e2) r x
  | ct a S' => exact fun ρ2 H2 b e2 r x => h ρ2 H2 b (e.trans e2) r x
  | rt a S' => exact fun ρ2 H2 b e2 r x => h ρ2 H2 b (e.trans e2) r x
  | exc x a S' => exact fun ρ2 H2 b c d e2 r x => h ρ2 H2 b c d (e.trans e2) r x
  | bad => exact h
theorem Post.bind {f : α → Sto → Out γ} {Q : δ → Hp → Prop} (h : Post R2 K ρ N H Ex (o.bind f) Q) :
    Post R K ρ N H Ex o fun b H1 => ∃ ρ1 S1 a, Ext K ρ N H ρ1 S1.length H1 ∧ RSt K ρ1 H1 S1 ∧ R K ρ1 S1.length H1 a b ∧ Post R2 K ρ1 S1.length H1 Ex (f a S1) Q := by
  cases o with
  | ok a S' => exact fun ρ1 H1 b e r x => ⟨ρ1, S', a, e, r, x, Post.ext e h⟩
  | exc x S' => exact h
  | bad => exact h
theorem Post.then {Wx : WX} {ls : Ls} {σ : L2.St} {f : α → Sto → SOut} {D : Ends} (hl : RL K ρ N H ls σ) (h : PostS K ρ N H Wx (o.then ls f) D) :
    Post R K ρ N H (fun c d H' => Wx c d σ H') o fun b H1 => ∃ ρ1 S1 a, Ext K ρ N H ρ1 S1.length H1 ∧ RSt K ρ1 H1 S1 ∧ R K ρ1 S1.length H1 a b ∧ PostS K ρ1 S1.length H1 Wx (f a S1) D := by
  cases o with
  | ok a S' => exact fun ρ1 H1 b e r x => ⟨ρ1, S', a, e, r, x, PostS.ext e h⟩
  | exc x S' => exact fun ρ1 H1 c d e r x => h ρ1 H1 σ c d e r (hl.ext e) x
  | bad => exact h
theorem PostS.seq {Wx : WX} {so : SOut} {f : MS} {D : Ends} (h : PostS K ρ N H Wx (so.seq f) D) :
    PostS K ρ N H Wx so { D with nx := fun σ1 H1 => ∃ ρ1 S1 ls1, Ext K ρ N H ρ1 S1.length H1 ∧ RSt K ρ1 H1 S1 ∧ RL K ρ1 S1.length H1 ls1 σ1 ∧ PostS K ρ1 S1.length H1 Wx (f ls1 S1) D } := by
  cases so with
  | nx a S' => exact fun ρ1 H1 b e r x => ⟨ρ1, S', a, e, r, x, PostS.ext e h⟩
  | _ => exact h
end
def tE (K : PySem.W.Frag) (Wx : WX) (m : ME) : TE := fun σ H Q => ∃ ρ S ls, RSt K ρ H S ∧ RL K ρ S.length H ls σ ∧ Post RW K ρ S.length H (fun c d H' => Wx c d σ H') (m ls S) Q
def tT (K : PySem.W.Frag) (Wx : WX) (m : MT) : TT := fun σ H Q => ∃ ρ S ls, RSt K ρ H S ∧ RL K ρ S.length H ls σ ∧ Post RBool K ρ S.length H (fun c d H' => Wx c d σ H') (m ls S) Q
def tA (K : PySem.W.Frag) (Wx : WX) (m : MA) : TA := fun σ H Q => ∃ ρ S ls, RSt K ρ H S ∧ RL K ρ S.length H ls σ ∧ Post RWs K ρ S.length H (fun c d H' => Wx c d σ H') (m ls S) Q
def tS (K : PySem.W.Frag) (Wx : WX) (m : MS) : TS := fun D σ H => ∃ ρ S ls, RSt K ρ H S ∧ RL K ρ S.length H ls σ ∧ PostS K ρ S.length H Wx (m ls S) D
abbrev IE (X : Cx) (Wx : WX) (e : Expr) (m : ME) : Prop := PE X e (tE X.K Wx m)
abbrev IT (X : Cx) (Wx : WX) (e : Expr) (m : MT) : Prop := PT X e (tT X.K Wx m)
abbrev IW (X : Cx) (Wx : WX) (e : Expr) (m : MT) : Prop := PW X e (tT X.K Wx m)
abbrev IA (X : Cx) (Wx : WX) (es : List Expr) (m : MA) : Prop := PA X es (tA X.K Wx m)
abbrev IS (X : Cx) (Wx : WX) (st : Stmt) (m : MS) : Prop := PS X st (tS X.K Wx m)
abbrev ISs (X : Cx) (Wx : WX) (st : List Stmt) (m : MS) : Prop := PSs X st (tS X.K Wx m)
theorem PEi {X : Cx} {e : Expr} {t t' : TE} (h : PE X e t) (i : ∀ σ H Q, t' σ H Q → t σ H Q) : PE X e t' := ⟨fun pins s σ H Q I hw => h.run pins s σ H Q I (i _ _ _ hw)⟩
theorem PTi {X : Cx} {e : Expr} {t t' : TT} (h : PT X e t) (i : ∀ σ H Q, t' σ H Q → t σ H Q) : PT X e t' := ⟨fun pins s σ H Q I hw => h.run pins s σ H Q I (i _ _ _ hw)⟩
theorem PWi {X : Cx} {e : Expr} {t t' : TT} (h : PW X e t) (i : ∀ σ H Q, t' σ H Q → t σ H Q) : PW X e t' := ⟨fun wh pins s σ H Q I hw => h.run wh pins s σ H Q I (i _ _ _ hw)⟩
theorem PAi {X : Cx} {e : List Expr} {t t' : TA} (h : PA X e t) (i : ∀ σ H Q, t' σ H Q → t σ H Q) : PA X e t' := ⟨fun pos pins s σ H Q I hw => h.run pos pins s σ H Q I (i _ _ _ hw)⟩
theorem PSi {X : Cx} {e : Stmt} {t t' : TS} (h : PS X e t) (i : ∀ D σ H, t' D σ H → t D σ H) : PS X e t' := ⟨fun pins s σ H D I hw => h.run pins s σ H D I (i _ _ _ hw)⟩
theorem PSsi {X : Cx} {e : List Stmt} {t t' : TS} (h : PSs X e t) (i : ∀ D σ H, t' D σ H → t D σ H) : PSs X e t' := ⟨fun pins s σ H D I hw => h.run pins s σ H D I (i _ _ _ hw)⟩
section
variable {X : Cx} {Wx : WX} {pos : Pos}
def eVar (i : Nat) : ME := fun ls S => match ls[i]? with
  | some (some w) => .ok w S
  | _ => .bad
def eC (w : PV) : ME := fun _ S => .ok w S
theorem ie_var (i : Nat) {x : Str} (hN : X.N[i]? = some x := by rfl) (hv : Vis X.env.scope x := by first | exact Or.inl rfl | exact Or.inr (Or.inl rfl) | exact Or.inr (Or.inr rfl)) (hd : (x == ("__debug__" : Str)) = false := by decide) (hcd : (x == ("__classdict__" : Str)) = false := by decide) :
    IE X Wx (.Name x pos) (eVar i) := PEi (pe_var hN hv hd hcd) fun σ H Q ⟨ρ, S, ls, hS, hL, h⟩ => by
  unfold eVar at h
  split at h
  · rename_i w e
    obtain ⟨v, e1, r⟩ := hL.get e
    exact ⟨v, e1, h ρ H v .refl hS r⟩
  · exact h.elim
theorem ie_int {i j} : IE X Wx (.Constant (.int i) j pos) (eC (.int i)) := PEi pe_int fun σ H Q ⟨ρ, S, ls, hS, hL, h⟩ => h ρ H _ .refl hS (.int i)
theorem ie_bl {i j} : IE X Wx (.Constant (.bool i) j pos) (eC (.bl i)) := PEi pe_bl fun σ H Q ⟨ρ, S, ls, hS, hL, h⟩ => h ρ H _ .refl hS (.bl i)
theorem ie_non {j} : IE X Wx (.Constant .none j pos) (eC .non) := PEi pe_non fun σ H Q ⟨ρ, S, ls, hS, hL, h⟩ => h ρ H _ .refl hS .non
theorem ie_str {x : Str} {l : List Nat} {j} (hx : x.cps.toList = l) : IE X Wx (.Constant (.str x) j pos) (eC (.str l)) := PEi pe_str fun σ H Q ⟨ρ, S, ls, hS, hL, h⟩ => h ρ H _ .refl hS (by rw [← hx]; exact .str x)
def GVal (K : PySem.W.Frag) (v : V) (w : PV) : Prop := ∀ ρ N H, RW K ρ N H w v
theorem ie_glob {x : Str} {v : V} {u : Value} {w : PV} (hg : Gl X x) (hm : X.mg x = some u) (r : RelV v u) (g : GVal X.K v w) (hd : (x == ("__debug__" : Str)) = false := by decide) : IE X Wx (.Name x pos) (eC w) :=
  PEi (pe_glob hg hm r hd) fun σ H Q ⟨ρ, S, ls, hS, hL, h⟩ => h ρ H _ .refl hS (g _ _ _)
def OpI (X : Cx) (Wx : WX) (r : R2) (g : PV → PV → Sto → Out PV) : Prop :=
  ∀ (ρ : Nat → Addr) (S : Sto) (H : Hp) (w1 w2 : PV) (x y : V) (Ex : XK) (Q : VK), RSt X.K ρ H S → RW X.K ρ S.length H w1 x → RW X.K ρ S.length H w2 y → Post RW X.K ρ S.length H Ex (g w1 w2 S) Q → r x y H Q
def eOp (g : PV → PV → Sto → Out PV) (a b : ME) : ME := fun ls S => (a ls S).bind fun w1 S1 => (b ls S1).bind fun w2 S2 => g w1 w2 S2
variable {a b c : Expr} {ma mb mc : ME} {g : PV → PV → Sto → Out PV} {r : R2}
theorem bin_in {σ : L2.St} {H : Hp} {Q : VK} (hi : OpI X Wx r g) (h : tE X.K Wx (eOp g ma mb) σ H Q) : tOp r (tE X.K Wx ma) (tE X.K Wx mb) σ H Q := by
  obtain ⟨ρ, S, ls, hS, hL, h⟩ := h
  refine ⟨ρ, S, ls, hS, hL, (Post.bind (R := RW) h).imp ?_⟩
  rintro x H1 ⟨ρ1, S1, w1, e1, hS1, r1, h1⟩
  refine ⟨ρ1, S1, ls, hS1, hL.ext e1, (Post.bind (R := RW) h1).imp ?_⟩
  rintro y H2 ⟨ρ2, S2, w2, e2, hS2, r2, h2⟩
  exact hi ρ2 S2 H2 w1 w2 x y _ Q hS2 (r1.ext e2) r2 h2
theorem ie_bin {op : Operator} (ho : OpR X (binaryOp op) r) (hi : OpI X Wx r g) (ha : IE X Wx a ma) (hb : IE X Wx b mb) : IE X Wx (.BinOp a op b pos) (eOp g ma mb) :=
  PEi (pe_op ho ha hb) fun σ H Q h => bin_in hi h
theorem ie_cmp {op : CmpOp} (ho : OpR X (compareOp op) r) (hi : OpI X Wx r g) (ha : IE X Wx a ma) (hb : IE X Wx b mb) (hm : behindInMarks op b = false) : IE X Wx (.Compare a [op] [b] pos) (eOp g ma mb) :=
  PEi (pe_cmpR ho ha hb hm) fun σ H Q h => bin_in hi h
def asB : PV → Sto → Out Bool := fun w S => match w with
  | .bl b => .ok b S
  | _ => .bad
def toT (m : ME) : MT := fun ls S => (m ls S).bind asB
theorem test_in {σ : L2.St} {H : Hp} {Q : Bool → Hp → Prop} (h : tT X.K Wx (toT ma) σ H Q) : tTest (tE X.K Wx ma) σ H Q := by
  obtain ⟨ρ, S, ls, hS, hL, h⟩ := h
  refine ⟨ρ, S, ls, hS, hL, (Post.bind (R := RW) h).imp ?_⟩
  rintro x H1 ⟨ρ1, S1, w1, e1, hS1, r1, h1⟩
  unfold asB at h1
  split at h1
  · cases r1
    exact ⟨_, rfl, h1 ρ1 H1 _ .refl hS1 rfl⟩
  · exact h1.elim
theorem it_cmp {op : CmpOp} (ho : OpR X (compareOp op) r) (hi : OpI X Wx r g) (ha : IE X Wx a ma) (hb : IE X Wx b mb) (hm : behindInMarks op b = false) : IT X Wx (.Compare a [op] [b] pos) (toT (eOp g ma mb)) :=
  PTi (pt_cmpR ho ha hb hm) fun σ H Q h => bin_in hi (test_in h)
variable {g' : PV → PV → Sto → Out PV} {r' : R2}
end
end GL
set_option Elab.async false
set_option linter.all false
set_option maxRecDepth 100000
set_option maxHeartbeats 1000000
namespace GL
open PySem PySem.Spec PyProof.Rows L2
mutual
def PV.beq : PV → PV → Bool
  | .non, .non => true
  | .bl a, .bl b => a == b
  | .int a, .int b => decide (a = b)
  | .str a, .str b => decide (a = b)
  | .tup a, .tup b => PV.beqs a b
  | .loc a, .loc b => Nat.beq a b
  | .gl a, .gl b => decide (a = b)
  | .ty a, .ty b => decide (a = b)
  | .xn a b c d e, .xn a' b' c' d' e' => (Nat.beq a a' && (Nat.beq b b' && (decide (c = c') && decide (d = d')))) && PV.beqs e e'
  | _, _ => false
def PV.beqs : List PV → List PV → Bool
  | [], [] => true
  | a :: r, b :: s => PV.beq a b && PV.beqs r s
  | _, _ => false
end
mutual
theorem PV.eq_of_beq : ∀ {a b : PV}, PV.beq a b = true → a = b
  | .non, b, h => by cases b <;> first | rfl | (simp [PV.beq] at h)
  | .bl a, b, h => by cases b <;> first | (simp [PV.beq] at h; subst h; rfl) | (simp [PV.beq] at h)
  | .int a, b, h => by cases b <;> first | (simp [PV.beq] at h; subst h; rfl) | (simp [PV.beq] at h)
  | .str a, b, h => by cases b <;> first | (simp [PV.beq] at h; subst h; rfl) | (simp [PV.beq] at h)
  | .tup a, b, h => by
    cases b with
    | tup c => simp only [PV.beq] at h; rw [PV.eqs_of_beqs h]
    | _ => simp [PV.beq] at h
  | .loc a, b, h => by
    cases b with
    | loc c => simp only [PV.beq] at h; rw [Nat.eq_of_beq_eq_true h]
    | _ => simp [PV.beq] at h
  | .gl a, b, h => by cases b <;> first | (simp [PV.beq] at h; subst h; rfl) | (simp [PV.beq] at h)
  | .ty a, b, h => by cases b <;> first | (simp [PV.beq] at h; subst h; rfl) | (simp [PV.beq] at h)
  | .xn a b c d e, z, h => by
    cases z with
    | xn a' b' c' d' e' =>
      simp only [PV.beq, Bool.and_eq_true, decide_eq_true_eq] at h
      obtain ⟨⟨h1, h2, h3, h4⟩, h5⟩ := h
      rw [Nat.eq_of_beq_eq_true h1, Nat.eq_of_beq_eq_true h2, h3, h4, PV.eqs_of_beqs h5]
    | _ => simp [PV.beq] at h
theorem PV.eqs_of_beqs : ∀ {a b : List PV}, PV.beqs a b = true → a = b
  | [], [], _ => rfl
  | [], _ :: _, h => by simp [PV.beqs] at h
  | _ :: _, [], h => by simp [PV.beqs] at h
  | a :: r, b :: s, h => by
    simp only [PV.beqs, Bool.and_eq_true] at h
    rw [PV.eq_of_beq h.1, PV.eqs_of_beqs h.2]
end
mutual
theorem PV.beq_self : ∀ a : PV, PV.beq a a = true
  | .non => by simp [PV.beq]
  | .bl a => by simp [PV.beq]
  | .int a => by simp [PV.beq]
  | .str a => by simp [PV.beq]
  | .tup a => by simp only [PV.beq]; exact PV.beqs_self a
  | .loc a => by simp only [PV.beq]; exact Nat.beq_refl a
  | .gl a => by simp [PV.beq]
  | .ty a => by simp [PV.beq]
  | .xn a b c d e => by simp only [PV.beq]; rw [Nat.beq_refl, Nat.beq_refl, PV.beqs_self e]; simp
theorem PV.beqs_self : ∀ a : List PV, PV.beqs a a = true
  | [] => by simp [PV.beqs]
  | a :: r => by simp only [PV.beqs, Bool.and_eq_true]; exact ⟨PV.beq_self a, PV.beqs_self r⟩
end
def tAndM (a b : MT) : MT := fun ls S => (a ls S).bind fun k S1 => if k = true then b ls S1 else .ok false S1
def tOrM (a b : MT) : MT := fun ls S => (a ls S).bind fun k S1 => if k = true then .ok true S1 else b ls S1
def tNotM (a : MT) : MT := fun ls S => (a ls S).bind fun k S1 => .ok (!k) S1
def eNotM (a : ME) : ME := fun ls S => (a ls S).bind fun w S1 => match w with
  | .bl k => .ok (.bl (!k)) S1
  | _ => .bad
def eAndM (a b : ME) : ME := fun ls S => (a ls S).bind fun w S1 => match w with
  | .bl true => b ls S1
  | .bl false => .ok (.bl false) S1
  | _ => .bad
section
variable {X : Cx} {Wx : WX} {pos : Pos} {a b c : Expr} {rest : List Expr} {ma mb mc : ME} {ta tb : MT}
theorem it_val (h : IE X Wx a ma) (he : ∀ whole, isTrue a X.env whole = (do let v ← whole; standAt a.pos; holding [v] (truthy v)) := by intro _; rfl) : IT X Wx a (toT ma) :=
  PTi (pt_val h he) fun σ H Q q => test_in q
theorem iw_and1 (ha : IT X Wx a ta) : IW X Wx (.BoolOp .And [a] pos) ta := pw_and1 ha
theorem iw_or1 (ha : IT X Wx a ta) : IW X Wx (.BoolOp .Or [a] pos) ta := pw_or1 ha
theorem iw_and (ha : IT X Wx a ta) (hb : IW X Wx (.BoolOp .And (b :: rest) pos) tb) : IW X Wx (.BoolOp .And (a :: b :: rest) pos) (tAndM ta tb) :=
  PWi (pw_and ha hb) fun σ H Q ⟨ρ, S, ls, hS, hL, h⟩ => ⟨ρ, S, ls, hS, hL, (Post.bind (R := RBool) h).imp fun k H1 ⟨ρ1, S1, k1, e1, hS1, r1, h1⟩ => by
    have r1 : k1 = k := r1
    subst k
    cases k1
    · rw [if_neg Bool.false_ne_true] at h1 ⊢; exact h1 ρ1 H1 _ .refl hS1 rfl
    · rw [if_pos rfl] at h1 ⊢; exact ⟨ρ1, S1, ls, hS1, hL.ext e1, h1⟩⟩
theorem iw_or (ha : IT X Wx a ta) (hb : IW X Wx (.BoolOp .Or (b :: rest) pos) tb) : IW X Wx (.BoolOp .Or (a :: b :: rest) pos) (tOrM ta tb) :=
  PWi (pw_or ha hb) fun σ H Q ⟨ρ, S, ls, hS, hL, h⟩ => ⟨ρ, S, ls, hS, hL, (Post.bind (R := RBool) h).imp fun k H1 ⟨ρ1, S1, k1, e1, hS1, r1, h1⟩ => by
    have r1 : k1 = k := r1
    subst k
    cases k1
    · rw [if_neg Bool.false_ne_true] at h1 ⊢; exact ⟨ρ1, S1, ls, hS1, hL.ext e1, h1⟩
    · rw [if_pos rfl] at h1 ⊢; exact h1 ρ1 H1 _ .refl hS1 rfl⟩
theorem it_w {e : Expr} {t : MT} (h : IW X Wx e t) : IT X Wx e t := PW.pt h
theorem it_not (ha : IT X Wx a ta) : IT X Wx (.UnaryOp .Not a pos) (tNotM ta) :=
  PTi (pt_not ha) fun σ H Q ⟨ρ, S, ls, hS, hL, h⟩ => ⟨ρ, S, ls, hS, hL, (Post.bind (R := RBool) h).imp fun k H1 ⟨ρ1, S1, k1, e1, hS1, r1, h1⟩ => by
    cases r1
    exact h1 ρ1 H1 _ .refl hS1 rfl⟩
theorem ie_not (ha : IE X Wx a ma) : IE X Wx (.UnaryOp .Not a pos) (eNotM ma) :=
  PEi (pe_not ha) fun σ H Q ⟨ρ, S, ls, hS, hL, h⟩ => ⟨ρ, S, ls, hS, hL, (Post.bind (R := RW) h).imp fun x H1 ⟨ρ1, S1, w1, e1, hS1, r1, h1⟩ => by
    split at h1
    · cases r1
      exact ⟨_, rfl, h1 ρ1 H1 _ .refl hS1 (.bl _)⟩
    · exact h1.elim⟩
theorem ie_one {op} {m : ME} (h : IE X Wx a m) : IE X Wx (.BoolOp op [a] pos) m := pe_one h
theorem ie_and (ha : IE X Wx a ma) (hb : IE X Wx (.BoolOp .And (b :: rest) pos) mb) : IE X Wx (.BoolOp .And (a :: b :: rest) pos) (eAndM ma mb) :=
  PEi (pe_and ha hb) fun σ H Q ⟨ρ, S, ls, hS, hL, h⟩ => ⟨ρ, S, ls, hS, hL, (Post.bind (R := RW) h).imp fun x H1 ⟨ρ1, S1, w1, e1, hS1, r1, h1⟩ => by
    split at h1
    · cases r1
      exact ⟨true, rfl, by rw [if_pos rfl]; exact ⟨ρ1, S1, ls, hS1, hL.ext e1, h1⟩⟩
    · cases r1
      exact ⟨false, rfl, by rw [if_neg Bool.false_ne_true]; exact h1 ρ1 H1 _ .refl hS1 (.bl _)⟩
    · exact h1.elim⟩
def aNil : MA := fun _ S => .ok [] S
def aCons (a : ME) (r : MA) : MA := fun ls S => (a ls S).bind fun w S1 => (r ls S1).bind fun ws S2 => .ok (w :: ws) S2
variable {es : List Expr} {e : Expr} {mr : MA}
theorem ia_nil : IA X Wx [] aNil := PAi pa_nil fun σ H Q ⟨ρ, S, ls, hS, hL, h⟩ => h ρ H _ .refl hS .nil
theorem ia_cons (ha : IE X Wx e ma) (hr : IA X Wx es mr) (hs : starEach (e :: es) X.env = (false, eval e X.env) :: starEach es X.env := by rfl) : IA X Wx (e :: es) (aCons ma mr) :=
  PAi (pa_cons ha hr hs) fun σ H Q ⟨ρ, S, ls, hS, hL, h⟩ => ⟨ρ, S, ls, hS, hL, (Post.bind (R := RW) h).imp fun x H1 ⟨ρ1, S1, w1, e1, hS1, r1, h1⟩ =>
    ⟨ρ1, S1, ls, hS1, hL.ext e1, (Post.bind (R := RWs) h1).imp fun xs H2 ⟨ρ2, S2, ws, e2, hS2, r2, h2⟩ => h2 ρ2 H2 _ .refl hS2 (.cons (r1.ext e2) r2)⟩⟩
def lim : Nat := 100000
theorem lim_sz {n : Nat} (h : n ≤ lim) : n ≤ sizeLine := Nat.le_trans h (by decide)
theorem lim_lt {n : Nat} (h : n < lim) : n < sizeLine := Nat.lt_of_lt_of_le h (by decide)
def eTup (m : MA) : ME := fun ls S => (m ls S).bind fun ws S1 => if ws.length ≤ lim then .ok (.tup ws) S1 else .bad
def eLst (m : MA) : ME := fun ls S => (m ls S).bind fun ws S1 => if ws.length ≤ lim then .ok (.loc S1.length) (S1 ++ [.lst ws]) else .bad
theorem mk_tup {K : PySem.W.Frag} {ρ : Nat → Addr} {S : Sto} {H : Hp} {ws : List PV} {vs : List V} {Ex : XK} {Q : VK} (hS : RSt K ρ H S) (r : RWs K ρ S.length H ws vs) (h : Post RW K ρ S.length H Ex (.ok (.tup ws) S) Q) :
    ∀ p, H p = none → Q (.ref p) (upd H p (.tup vs)) := fun p hp => by
  have e : Ext K ρ S.length H ρ S.length (upd H p (.tup vs)) := ext_keep hp
  exact h ρ _ _ e (hS.keep hp) (.tup (SqT.of upd_same) (r.ext e))
theorem mk_lst {K : PySem.W.Frag} {ρ : Nat → Addr} {S : Sto} {H : Hp} {ws : List PV} {vs : List V} {Ex : XK} {Q : VK} (hS : RSt K ρ H S) (r : RWs K ρ S.length H ws vs) (h : Post RW K ρ S.length H Ex (.ok (.loc S.length) (S ++ [.lst ws])) Q) :
    ∀ p, H p = none → Q (.ref p) (upd H p (.lst vs)) := fun p hp => by
  have e : Ext K ρ S.length H (grow ρ S.length p) (S.length + 1) (upd H p (.lst vs)) := ext_new hp
  have hl : (S ++ [OB.lst ws]).length = S.length + 1 := by simp
  have n := RSt.new (o := .lst ws) hS hp rfl ⟨vs, upd_same, r.ext e⟩
  refine h _ _ _ (by rw [hl]; exact e) n ?_
  rw [hl]
  have q : RW K (grow ρ S.length p) (S.length + 1) (upd H p (.lst vs)) (.loc S.length) (.ref (grow ρ S.length p S.length)) := .loc _ (Nat.lt_succ_self _)
  rw [grow_new] at q
  exact q
theorem ie_tup {x1} (h : IA X Wx es mr) : IE X Wx (.Tuple es x1 pos) (eTup mr) :=
  PEi (pe_tup h) fun σ H Q ⟨ρ, S, ls, hS, hL, h⟩ => ⟨ρ, S, ls, hS, hL, (Post.bind (R := RWs) h).imp fun xs H1 ⟨ρ1, S1, ws, e1, hS1, r1, h1⟩ => by
    split at h1
    · rename_i hz
      exact ⟨by rw [← r1.length]; exact lim_sz hz, mk_tup hS1 r1 h1⟩
    · exact h1.elim⟩
theorem ie_lst (h : IA X Wx es mr) : IE X Wx (.List es pos) (eLst mr) :=
  PEi (pe_lst h) fun σ H Q ⟨ρ, S, ls, hS, hL, h⟩ => ⟨ρ, S, ls, hS, hL, (Post.bind (R := RWs) h).imp fun xs H1 ⟨ρ1, S1, ws, e1, hS1, r1, h1⟩ => by
    split at h1
    · rename_i hz
      exact ⟨by rw [← r1.length]; exact lim_sz hz, mk_lst hS1 r1 h1⟩
    · exact h1.elim⟩
end
def sNil : MS := fun ls S => .nx ls S
def sSeq (a b : MS) : MS := fun ls S => (a ls S).seq b
def sSet (i : Nat) (m : ME) : MS := fun ls S => (m ls S).then ls fun w S1 => .nx (ls.set i (some w)) S1
def sExpr (m : ME) : MS := fun ls S => (m ls S).then ls fun _ S1 => .nx ls S1
def sRet (m : ME) : MS := fun ls S => (m ls S).then ls fun w S1 => .rt w S1
def sIf (c : MT) (a b : MS) : MS := fun ls S => (c ls S).then ls fun k S1 => if k = true then a ls S1 else b ls S1
def sBk : MS := fun ls S => .bk ls S
section
variable {X : Cx} {Wx : WX} {pos : Pos} {st : Stmt} {rest : List Stmt} {m1 m2 : MS} {e c : Expr} {me : ME} {mt : MT}
theorem iss_nil : ISs X Wx [] sNil := PSsi pss_nil fun D σ H ⟨ρ, S, ls, hS, hL, h⟩ => h ρ H σ .refl hS hL
theorem iss_cons (h1 : IS X Wx st m1) (h2 : ISs X Wx rest m2) : ISs X Wx (st :: rest) (sSeq m1 m2) :=
  PSsi (pss_cons h1 h2) fun D σ H ⟨ρ, S, ls, hS, hL, h⟩ => ⟨ρ, S, ls, hS, hL, by
    have q := PostS.seq h
    cases hm : m1 ls S with
    | nx a S' =>
      rw [hm] at q
      exact fun ρ1 H1 σ1 e r x => by
        obtain ⟨ρ2, S2, ls2, _, a, b, c⟩ := q ρ1 H1 σ1 e r x
        exact ⟨ρ2, S2, ls2, a, b, c⟩
    | bk a S' => rw [hm] at q; exact q
    | ct a S' => rw [hm] at q; exact q
    | rt a S' => rw [hm] at q; exact q
    | exc a b S' => rw [hm] at q; exact q
    | bad => rw [hm] at q; exact q⟩
theorem iss_one (h1 : IS X Wx st m1) : ISs X Wx [st] m1 := pss_one h1
theorem is_break : IS X Wx (.Break pos) sBk := PSi ps_break fun D σ H ⟨ρ, S, ls, hS, hL, h⟩ => h ρ H σ .refl hS hL
theorem is_set {i : Nat} {x : Str} {pos' : Pos} (hN : X.N.Nodup) (he : IE X Wx e me) (hi : X.N[i]? = some x := by rfl) (hx : Loc X.env.scope x := by first | exact Or.inl rfl | exact Or.inr rfl) (hs : swapsWith e (some (.Name x pos')) pos.line X.env = pure false := by rfl) (hf : X.fn x = true ∨ X.env.scope.names.lookup x = some .local := by first | exact .inl rfl | exact .inr rfl) :
    IS X Wx (.Assign [.Name x pos'] e pos) (sSet i me) :=
  PSi (ps_set (i := i) hN hi hx he hs hf) fun D σ H ⟨ρ, S, ls, hS, hL, h⟩ => ⟨ρ, S, ls, hS, hL, (Post.then (R := RW) hL h).imp fun x H1 ⟨ρ1, S1, w1, e1, hS1, r1, h1⟩ => h1 ρ1 H1 _ .refl hS1 (RL.set r1 _ (hL.ext e1))⟩
theorem is_expr (he : IE X Wx e me) (hs : swapsWith e none pos.line X.env = pure false := by rfl) : IS X Wx (.Expr e pos) (sExpr me) :=
  PSi (ps_expr he hs) fun D σ H ⟨ρ, S, ls, hS, hL, h⟩ => ⟨ρ, S, ls, hS, hL, (Post.then (R := RW) hL h).imp fun x H1 ⟨ρ1, S1, w1, e1, hS1, r1, h1⟩ => h1 ρ1 H1 _ .refl hS1 (hL.ext e1)⟩
theorem is_ret (he : IE X Wx e me) : IS X Wx (.Return (some e) pos) (sRet me) :=
  PSi (ps_ret he) fun D σ H ⟨ρ, S, ls, hS, hL, h⟩ => ⟨ρ, S, ls, hS, hL, (Post.then (R := RW) hL h).imp fun x H1 ⟨ρ1, S1, w1, e1, hS1, r1, h1⟩ => h1 ρ1 H1 _ .refl hS1 r1⟩
theorem is_if {a b : List Stmt} (hc : IT X Wx c mt) (ha : ISs X Wx a m1) (hb : ISs X Wx b m2) : IS X Wx (.If c a b pos) (sIf mt m1 m2) :=
  PSi (ps_if hc ha hb) fun D σ H ⟨ρ, S, ls, hS, hL, h⟩ => ⟨ρ, S, ls, hS, hL, (Post.then (R := RBool) hL h).imp fun k H1 ⟨ρ1, S1, k1, e1, hS1, r1, h1⟩ => by
    have r1 : k1 = k := r1
    subst k
    cases k1
    · rw [if_neg Bool.false_ne_true] at h1 ⊢; exact ⟨ρ1, S1, ls, hS1, hL.ext e1, h1⟩
    · rw [if_pos rfl] at h1 ⊢; exact ⟨ρ1, S1, ls, hS1, hL.ext e1, h1⟩⟩
def whileL (c : MT) (body : MS) : Nat → MS
  | 0, _, _ => .bad
  | n + 1, ls, S => (c ls S).then ls fun k S1 => if k = true then (match body ls S1 with
      | .nx ls2 S2 => whileL c body n ls2 S2
      | .ct ls2 S2 => whileL c body n ls2 S2
      | .bk ls2 S2 => .nx ls2 S2
      | r => r) else .nx ls S1
theorem is_while {body : List Stmt} {mb : MS} (n : Nat) (hp : PassesOwn (model X.prog X.w) X.A X.env X.xe) (hc : IT X Wx c mt) (hb : ISs X Wx body mb) : IS X Wx (.While c body [] pos) (whileL mt mb n) :=
  PSi (ps_while hp hc hb) fun D σ H ⟨ρ, S, ls, hS, hL, h⟩ => by
    refine ⟨fun m σ H => ∃ ρ S ls, RSt X.K ρ H S ∧ RL X.K ρ S.length H ls σ ∧ PostS X.K ρ S.length H Wx (whileL mt mb m ls S) D, ⟨n, ρ, S, ls, hS, hL, h⟩, ?_⟩
    rintro m σ H ⟨ρ, S, ls, hS, hL, h⟩
    cases m with
    | zero => exact h.elim
    | succ m =>
      refine ⟨ρ, S, ls, hS, hL, (Post.then (R := RBool) hL h).imp fun k H1 ⟨ρ1, S1, k1, e1, hS1, r1, h1⟩ => ?_⟩
      have r1 : k1 = k := r1
      subst k
      cases k1
      · rw [if_neg Bool.false_ne_true] at h1 ⊢; exact h1 ρ1 H1 σ .refl hS1 (hL.ext e1)
      · rw [if_pos rfl] at h1 ⊢
        refine ⟨_, fun σ' H' w => ⟨m, Nat.lt_succ_self m, w⟩, ρ1, S1, ls, hS1, hL.ext e1, ?_⟩
        cases hm : mb ls S1 with
        | nx a S' => rw [hm] at h1; exact fun ρ2 H2 σ2 e2 r2 l2 => ⟨ρ2, S', a, r2, l2, PostS.ext e2 h1⟩
        | ct a S' => rw [hm] at h1; exact fun ρ2 H2 σ2 e2 r2 l2 => ⟨ρ2, S', a, r2, l2, PostS.ext e2 h1⟩
        | bk a S' => rw [hm] at h1; exact h1
        | rt a S' => rw [hm] at h1; exact h1
        | exc a b S' => rw [hm] at h1; exact h1
        | bad => rw [hm] at h1; exact h1
end
end GL
set_option Elab.async false
set_option linter.all false
set_option maxRecDepth 100000
set_option maxHeartbeats 1000000
namespace GL
open PySem PySem.Spec PyProof.Rows L2
def lstAt (S : Sto) (n : Nat) : Option (List PV) := match S[n]? with
  | some (.lst xs) => some xs
  | _ => none
def seqAt (S : Sto) (n : Nat) : Option (List PV) := match S[n]? with
  | some (.lst xs) => some xs
  | some (.rol xs) => some xs
  | _ => none
section
variable {K : PySem.W.Frag} {ρ : Nat → Addr} {H : Hp} {S : Sto} {n : Nat} {xs : List PV}
theorem lstAt_get (h : lstAt S n = some xs) : S[n]? = some (.lst xs) := by
  unfold lstAt at h; split at h
  · rename_i e; cases h; exact e
  · cases h
theorem lst_of (hS : RSt K ρ H S) (h : lstAt S n = some xs) : ∃ vs, H (ρ n) = some (.lst vs) ∧ RWs K ρ S.length H xs vs := hS.at_ _ _ (lstAt_get h)
theorem seq_of (hS : RSt K ρ H S) (h : seqAt S n = some xs) : ∃ vs, SqL K H (ρ n) vs ∧ RWs K ρ S.length H xs vs := by
  unfold seqAt at h; split at h
  · rename_i e; cases h
    obtain ⟨vs, a, b⟩ := hS.at_ _ _ e
    exact ⟨vs, SqL.of a, b⟩
  · rename_i e; cases h
    obtain ⟨vs, a, b⟩ := hS.at_ _ _ e
    exact ⟨vs, a.sq, b⟩
  · cases h
theorem set_lst (hS : RSt K ρ H S) (h : lstAt S n = some xs) {ys : List PV} {vs : List V} (r : RWs K ρ S.length H ys vs) :
    RSt K ρ (upd H (ρ n) (.lst vs)) (S.set n (.lst ys)) ∧ Ext K ρ S.length H ρ (S.set n (.lst ys)).length (upd H (ρ n) (.lst vs)) := by
  obtain ⟨v0, h0, _⟩ := lst_of hS h
  have e : Ext K ρ S.length H ρ S.length (upd H (ρ n) (.lst vs)) := ext_upd h0 trivial
  exact ⟨hS.set (lstAt_get h) rfl rfl ⟨vs, upd_same, r.ext e⟩, by rw [List.length_set]; exact e⟩
end
theorem RWs.nil_inv {K : PySem.W.Frag} {ρ : Nat → Addr} {N : Nat} {H : Hp} {ws : List PV} (r : RWs K ρ N H ws []) : ws = [] := by cases r; rfl
theorem Post.here {K : PySem.W.Frag} {ρ : Nat → Addr} {S : Sto} {H : Hp} {Ex : XK} {Q : VK} {w : PV} {v : V} (h : Post RW K ρ S.length H Ex (.ok w S) Q) (hS : RSt K ρ H S) (r : RW K ρ S.length H w v) : Q v H := h ρ H v .refl hS r
def gAdd : PV → PV → Sto → Out PV := fun a b S => match a, b with
  | .int i, .int j => .ok (.int (i + j)) S
  | .str x, .str y => if x.length + y.length ≤ lim then .ok (.str (x ++ y)) S else .bad
  | .tup x, .tup y => if x.length + y.length ≤ lim then .ok (.tup (x ++ y)) S else .bad
  | .loc n, .loc m => (match lstAt S n, lstAt S m with
    | some x, some y => if x.length + y.length ≤ lim then .ok (.loc S.length) (S ++ [.lst (x ++ y)]) else .bad
    | _, _ => .bad)
  | _, _ => .bad
def rAddM (K : PySem.W.Frag) : R2 := fun x y H Q => (rI0 fun i j => .int (i + j)) x y H Q ∨
  (∃ i j, x = .str i ∧ y = .str j ∧ i.length + j.length ≤ sizeLine ∧ Q (.str (i ++ j)) H) ∨ rCatA K x y H Q ∨ rCat x y H Q
section
variable {X : Cx} {Wx : WX}
theorem or_addM : OpR X (binaryOp .Add) (rAddM X.K) := op_add.or (op_add_str.or (op_catA.or op_cat))
theorem str_len {x : Str} : x.cps.toList.length = x.length := by simp [Str.length]
theorem oi_add : OpI X Wx (rAddM X.K) gAdd := by
  intro ρ S H w1 w2 x y Ex Q hS r1 r2 h
  unfold gAdd at h
  split at h
  · cases r1; cases r2
    exact .inl ⟨_, _, rfl, rfl, h.here hS (.int _)⟩
  · split at h
    · rename_i hz
      cases r1 with
      | str i => cases r2 with
        | str j =>
          rw [str_len, str_len] at hz
          refine .inr (.inl ⟨_, _, rfl, rfl, lim_sz hz, h.here hS ?_⟩)
          have : (i ++ j).cps.toList = i.cps.toList ++ j.cps.toList := by
            show (i.cps ++ j.cps).toList = _
            simp
          rw [← this]; exact .str _
    · exact h.elim
  · split at h
    · rename_i hz
      cases r1 with
      | tup s1 t1 => cases r2 with
        | tup s2 t2 =>
          rw [t1.length, t2.length] at hz
          refine .inr (.inr (.inl ⟨_, _, _, _, rfl, rfl, s1, s2, lim_sz hz, fun e => ?_, fun _ e => ?_, fun _ _ => mk_tup hS (t1.app t2) h⟩))
          · subst e
            rw [t1.nil_inv, List.nil_append] at h
            exact h.here hS (.tup s2 t2)
          · subst e
            rw [t2.nil_inv, List.append_nil] at h
            exact h.here hS (.tup s1 t1)
    · exact h.elim
  · split at h
    · split at h
      · rename_i e1 e2 hz
        cases r1; cases r2
        obtain ⟨v1, h1, t1⟩ := lst_of hS e1
        obtain ⟨v2, h2, t2⟩ := lst_of hS e2
        rw [t1.length, t2.length] at hz
        exact .inr (.inr (.inr ⟨_, _, _, _, rfl, rfl, h1, h2, lim_sz hz, mk_lst hS (t1.app t2) h⟩))
      · exact h.elim
    · exact h.elim
  · exact h.elim
def gInt (g : Int → Int → Int) : PV → PV → Sto → Out PV := fun a b S => match a, b with
  | .int i, .int j => .ok (.int (g i j)) S
  | _, _ => .bad
def gIntC (c : Int → Int → Bool) (g : Int → Int → Int) : PV → PV → Sto → Out PV := fun a b S => match a, b with
  | .int i, .int j => if c i j = true then .ok (.int (g i j)) S else .bad
  | _, _ => .bad
def gCmpI (g : Int → Int → Bool) : PV → PV → Sto → Out PV := fun a b S => match a, b with
  | .int i, .int j => .ok (.bl (g i j)) S
  | _, _ => .bad
theorem oi_int {g : Int → Int → Int} : OpI X Wx (rI0 fun i j => .int (g i j)) (gInt g) := by
  intro ρ S H w1 w2 x y Ex Q hS r1 r2 h
  unfold gInt at h
  split at h
  · cases r1; cases r2; exact ⟨_, _, rfl, rfl, h.here hS (.int _)⟩
  · exact h.elim
theorem oi_intC {C : Int → Int → Prop} {c : Int → Int → Bool} {g : Int → Int → Int} (hc : ∀ i j, c i j = true → C i j) : OpI X Wx (rI C fun i j => .int (g i j)) (gIntC c g) := by
  intro ρ S H w1 w2 x y Ex Q hS r1 r2 h
  unfold gIntC at h
  split at h
  · split at h
    · rename_i q
      cases r1; cases r2; exact ⟨_, _, rfl, rfl, hc _ _ q, h.here hS (.int _)⟩
    · exact h.elim
  · exact h.elim
theorem oi_cmpI {g : Int → Int → Bool} : OpI X Wx (rI0 fun i j => .bl (g i j)) (gCmpI g) := by
  intro ρ S H w1 w2 x y Ex Q hS r1 r2 h
  unfold gCmpI at h
  split at h
  · cases r1; cases r2; exact ⟨_, _, rfl, rfl, h.here hS (.bl _)⟩
  · exact h.elim
def gSub := gInt fun i j => i - j
def cDiv : Int → Int → Bool := fun _ j => decide (0 < j) && decide (j < 1073741824)
def cMod : Int → Int → Bool := fun _ j => decide (0 < j)
def gDiv := gIntC cDiv fun i j => i / j
def gMod := gIntC cMod fun i j => i % j
def gLt := gCmpI fun i j => decide (i < j)
def gGt := gCmpI fun i j => decide (j < i)
theorem oi_sub : OpI X Wx (rI0 fun i j => .int (i - j)) gSub := oi_int
theorem oi_div : OpI X Wx (rI CDiv fun i j => .int (i / j)) gDiv := oi_intC fun i j h => by
  simp only [cDiv, Bool.and_eq_true, decide_eq_true_eq] at h; exact h
theorem oi_mod : OpI X Wx (rI (fun _ j => 0 < j) fun i j => .int (i % j)) gMod := oi_intC fun i j h => by
  simp only [cMod, decide_eq_true_eq] at h; exact h
theorem oi_lt : OpI X Wx (rI0 fun i j => .bl (decide (i < j))) gLt := oi_cmpI
theorem oi_gt : OpI X Wx (rI0 fun i j => .bl (decide (j < i))) gGt := oi_cmpI
def big : Int := 18446744073709551616
def smallI (i : Int) : Bool := decide (-big < i) && decide (i < big)
def gMul : PV → PV → Sto → Out PV := fun a b S => match a, b with
  | .int i, .int j => if (smallI i || smallI j) = true then .ok (.int (i * j)) S else .bad
  | .loc n, .int j => (match lstAt S n with
    | some x => if decide (0 ≤ j) && decide (j < 100000) && decide (x.length * j.toNat ≤ lim) then .ok (.loc S.length) (S ++ [.lst (List.replicate j.toNat x).flatten]) else .bad
    | none => .bad)
  | _, _ => .bad
def rMulM : R2 := fun x y H Q => (rI CMul fun i j => .int (i * j)) x y H Q ∨ rRep x y H Q
theorem or_mulM : OpR X (binaryOp .Mult) rMulM := op_mul.or op_rep
theorem smallI_ok {i : Int} (h : smallI i = true) : -(2 ^ 64) < i ∧ i < 2 ^ 64 := by
  have h := Bool.and_eq_true_iff.mp h
  have h : -18446744073709551616 < i ∧ i < 18446744073709551616 := ⟨of_decide_eq_true h.1, of_decide_eq_true h.2⟩
  have e : (2 : Int) ^ 64 = 18446744073709551616 := by decide
  rw [e]; exact h
theorem RWs.rep {K : PySem.W.Frag} {ρ : Nat → Addr} {N : Nat} {H : Hp} {ws : List PV} {vs : List V} (h : RWs K ρ N H ws vs) : ∀ k : Nat, RWs K ρ N H (List.replicate k ws).flatten (List.replicate k vs).flatten
  | 0 => .nil
  | k + 1 => by
    rw [List.replicate_succ, List.replicate_succ, List.flatten_cons, List.flatten_cons]
    exact h.app (RWs.rep h k)
theorem oi_mul : OpI X Wx rMulM gMul := by
  intro ρ S H w1 w2 x y Ex Q hS r1 r2 h
  unfold gMul at h
  split at h
  · split at h
    · rename_i q
      cases r1; cases r2
      refine .inl ⟨_, _, rfl, rfl, ?_, h.here hS (.int _)⟩
      rcases Bool.or_eq_true_iff.mp q with q | q
      · exact .inl (smallI_ok q)
      · exact .inr (smallI_ok q)
    · exact h.elim
  · split at h
    · split at h
      · rename_i e1 hz
        cases r1; cases r2
        obtain ⟨v1, h1, t1⟩ := lst_of hS e1
        simp only [Bool.and_eq_true, decide_eq_true_eq] at hz
        rw [t1.length] at hz
        refine .inr ⟨_, _, _, rfl, rfl, h1, by omega, by omega, lim_sz hz.2, ?_⟩
        exact mk_lst hS (t1.rep _) h
      · exact h.elim
    · exact h.elim
  · exact h.elim
end
def scalP : PV → PV → Option Bool
  | .int i, .int j => some (decide (i = j))
  | .str x, .str y => some (decide (x = y))
  | .bl x, .bl y => some (x == y)
  | .non, .non => some true
  | .non, .int _ => some false
  | .int _, .non => some false
  | .non, .bl _ => some false
  | .bl _, .non => some false
  | .non, .str _ => some false
  | .str _, .non => some false
  | .int _, .str _ => some false
  | .str _, .int _ => some false
  | .bl _, .str _ => some false
  | .str _, .bl _ => some false
  | _, _ => none
def optAll {α β : Type} (f : α → Option β) : List α → Option (List β)
  | [] => some []
  | x :: r => match f x, optAll f r with
    | some d, some ds => some (d :: ds)
    | _, _ => none
def datP (S : Sto) : Nat → PV → Option PyData
  | 0, _ => none
  | f + 1, w => match w with
    | .non => some .none
    | .bl b => some (.bool b)
    | .int i => some (.int i)
    | .str l => if PyData.strOk (toS l) = true then some (.str (toS l)) else none
    | .tup xs => (optAll (datP S f) xs).map .tuple
    | .loc n => (match seqAt S n with
      | some xs => (optAll (datP S f) xs).map .list
      | none => none)
    | _ => none
theorem optAll_some {α β : Type} {f : α → Option β} : ∀ {xs : List α} {ds : List β}, optAll f xs = some ds → ∀ d ∈ ds, ∃ x ∈ xs, f x = some d
  | [], ds, h => by cases h; intro d hd; cases hd
  | x :: r, ds, h => by
    unfold optAll at h
    split at h
    · rename_i d ds' e1 e2
      cases h
      intro d' hd
      rcases List.mem_cons.mp hd with rfl | hd
      · exact ⟨x, List.mem_cons_self, e1⟩
      · obtain ⟨y, hy, q⟩ := optAll_some e2 d' hd
        exact ⟨y, List.mem_cons_of_mem _ hy, q⟩
    · cases h
theorem canAll : ∀ {ds : List PyData}, (∀ d ∈ ds, d.canLay0 = true) → PyData.canLayAll0 ds = true
  | [], _ => by simp [PyData.canLayAll0]
  | d :: r, h => by
    simp only [PyData.canLayAll0, Bool.and_eq_true]
    exact ⟨h d List.mem_cons_self, canAll fun x hx => h x (List.mem_cons_of_mem _ hx)⟩
theorem depAll {n : Nat} : ∀ {ds : List PyData}, (∀ d ∈ ds, d.depth ≤ n) → PyData.depthAll ds ≤ n
  | [], _ => by simp [PyData.depthAll]
  | d :: r, h => by
    simp only [PyData.depthAll]
    exact Nat.max_le.mpr ⟨h d List.mem_cons_self, depAll fun x hx => h x (List.mem_cons_of_mem _ hx)⟩
theorem datP_ok {S : Sto} : ∀ {f : Nat} {w : PV} {d : PyData}, datP S f w = some d → d.canLay0 = true ∧ d.depth ≤ f
  | 0, _, _, h => by cases h
  | f + 1, w, d, h => by
    cases w with
    | non => cases h; simp [PyData.canLay0, PyData.depth]
    | bl b => cases h; simp [PyData.canLay0, PyData.depth]
    | int i => cases h; simp [PyData.canLay0, PyData.depth]
    | str l =>
      simp only [datP] at h
      split at h
      · rename_i q; cases h; simp [PyData.canLay0, PyData.depth, q]
      · cases h
    | tup xs =>
      simp only [datP] at h
      cases e : optAll (datP S f) xs with
      | none => rw [e] at h; cases h
      | some ds =>
        rw [e] at h; cases h
        have q : ∀ d ∈ ds, d.canLay0 = true ∧ d.depth ≤ f := fun d hd => by
          obtain ⟨x, _, q⟩ := optAll_some e d hd
          exact datP_ok q
        simp only [PyData.canLay0, PyData.depth]
        exact ⟨canAll fun d hd => (q d hd).1, Nat.succ_le_succ (depAll fun d hd => (q d hd).2)⟩
    | loc n =>
      simp only [datP] at h
      split at h
      · rename_i xs _
        cases e : optAll (datP S f) xs with
        | none => rw [e] at h; cases h
        | some ds =>
          rw [e] at h; cases h
          have q : ∀ d ∈ ds, d.canLay0 = true ∧ d.depth ≤ f := fun d hd => by
            obtain ⟨x, _, q⟩ := optAll_some e d hd
            exact datP_ok q
          simp only [PyData.canLay0, PyData.depth]
          exact ⟨canAll fun d hd => (q d hd).1, Nat.succ_le_succ (depAll fun d hd => (q d hd).2)⟩
      · cases h
    | gl x => cases h
    | ty b => cases h
    | xn a b c d e => cases h
section
variable {K : PySem.W.Frag} {ρ : Nat → Addr} {H : Hp} {S : Sto}
theorem datP_all {f : Nat} (ih : ∀ {w : PV} {v : V} {d : PyData}, RW K ρ S.length H w v → datP S f w = some d → Dp K H v d) :
    ∀ {xs : List PV} {vs : List V} {ds : List PyData}, RWs K ρ S.length H xs vs → optAll (datP S f) xs = some ds → DpAll K H vs ds
  | [], _, _, r, h => by cases r; cases h; exact .nil
  | x :: xs, _, _, r, h => by
    cases r with
    | cons r rs =>
      unfold optAll at h
      split at h
      · rename_i d ds e1 e2
        cases h
        exact .cons (ih r e1) (datP_all ih rs e2)
      · cases h
theorem datP_dp (hS : RSt K ρ H S) : ∀ {f : Nat} {w : PV} {v : V} {d : PyData}, RW K ρ S.length H w v → datP S f w = some d → Dp K H v d
  | 0, _, _, _, _, h => by cases h
  | f + 1, w, v, d, r, h => by
    cases r with
    | non => cases h; exact .non
    | bl b => cases h; exact .bl b
    | int i => cases h; exact .int i
    | str x =>
      simp only [datP, toS_cps] at h
      split at h
      · cases h; exact .str x
      · cases h
    | tup s t =>
      simp only [datP] at h
      cases e : optAll (datP S f) _ with
      | none => rw [e] at h; cases h
      | some ds => rw [e] at h; cases h; exact .tup s (datP_all (datP_dp hS) t e)
    | loc n hn =>
      simp only [datP] at h
      split at h
      · rename_i xs e0
        obtain ⟨vs, s, t⟩ := seq_of hS e0
        cases e : optAll (datP S f) _ with
        | none => rw [e] at h; cases h
        | some ds => rw [e] at h; cases h; exact .lst s (datP_all (datP_dp hS) t e)
      · cases h
    | gl x => cases h
    | ty n => cases h
    | xn _ _ _ => cases h
end
def eqM (neg : Bool) : PV → PV → Sto → Out PV := fun a b S => match scalP a b with
  | some k => .ok (.bl (if neg = true then !k else k)) S
  | none => match datP S 60 a, datP S 60 b with
    | some d, some e => .ok (.bl (if neg = true then !PyData.eqv d e else PyData.eqv d e)) S
    | _, _ => .bad
def gEq := eqM false
def gNe := eqM true
def rEqM (K : PySem.W.Frag) : R2 := fun x y H Q => rEq x y H Q ∨ rEqD K x y H Q
def rNeM (K : PySem.W.Frag) : R2 := fun x y H Q => rNe x y H Q ∨ rNeD K x y H Q
theorem shaped_of {S : Sto} {w : PV} {d : PyData} (h : datP S 60 w = some d) : SeqAt.shaped d = true := by
  obtain ⟨a, b⟩ := datP_ok h
  unfold SeqAt.shaped
  rw [a, Bool.true_and]
  exact decide_eq_true (Nat.le_trans b (by decide))
theorem cps_iff {x y : Str} : x.cps = y.cps ↔ x = y := by
  cases x; cases y; simp
theorem cps_iff' {x y : Str} : x = y ↔ x.cps = y.cps := cps_iff.symm
theorem scal_of {K : PySem.W.Frag} {ρ : Nat → Addr} {N : Nat} {H : Hp} {a b : PV} {x y : V} {k : Bool} (ra : RW K ρ N H a x) (rb : RW K ρ N H b y) (h : scalP a b = some k) : scal x y = true ∧ k = decide (x = y) := by
  cases ra <;> cases rb <;> first
    | (simp [scalP] at h; done)
    | (simp only [scalP, Option.some.injEq] at h; subst h; refine ⟨rfl, ?_⟩; first | rfl | (simp [cps_iff]; done) | (rename_i b1 b2; cases b1 <;> cases b2 <;> rfl))
section
variable {X : Cx} {Wx : WX}
theorem or_eqM (hu : X.A.units + 64 < cLine) : OpR X (compareOp .Eq) (rEqM X.K) := op_eq.or (op_eqD hu)
theorem or_neM (hu : X.A.units + 64 < cLine) : OpR X (compareOp .NotEq) (rNeM X.K) := op_ne.or (op_neD hu)
theorem oi_eq : OpI X Wx (rEqM X.K) gEq := by
  intro ρ S H w1 w2 x y Ex Q hS r1 r2 h
  unfold gEq eqM at h
  split at h
  · rename_i k e
    obtain ⟨a, b⟩ := scal_of r1 r2 e
    subst b
    exact .inl ⟨a, h.here hS (.bl _)⟩
  · split at h
    · rename_i d1 d2 e1 e2
      exact .inr ⟨_, _, datP_dp hS r1 e1, datP_dp hS r2 e2, shaped_of e1, shaped_of e2, h.here hS (.bl _)⟩
    · exact h.elim
theorem oi_ne : OpI X Wx (rNeM X.K) gNe := by
  intro ρ S H w1 w2 x y Ex Q hS r1 r2 h
  unfold gNe eqM at h
  split at h
  · rename_i k e
    obtain ⟨a, b⟩ := scal_of r1 r2 e
    subst b
    exact .inl ⟨a, h.here hS (.bl _)⟩
  · split at h
    · rename_i d1 d2 e1 e2
      exact .inr ⟨_, _, datP_dp hS r1 e1, datP_dp hS r2 e2, shaped_of e1, shaped_of e2, h.here hS (.bl _)⟩
    · exact h.elim
end
def flatP : PV → Bool
  | .non => true
  | .bl _ => true
  | .int _ => true
  | .str _ => true
  | _ => false
def eqF : PV → PV → Bool
  | .non, .non => true
  | .bl a, .bl b => a == b
  | .bl a, .int b => (if a then 1 else 0) == b
  | .int a, .bl b => a == (if b then 1 else 0)
  | .int a, .int b => a == b
  | .str a, .str b => decide (a = b)
  | _, _ => false
def inP (x : PV) (xs : List PV) : Bool := xs.any fun y => eqF y x
section
variable {K : PySem.W.Frag} {ρ : Nat → Addr} {N : Nat} {H : Hp}
theorem flat_of {w : PV} {v : V} (r : RW K ρ N H w v) : flatV v = flatP w := by cases r <;> rfl
theorem flats_of : ∀ {ws : List PV} {vs : List V}, RWs K ρ N H ws vs → vs.all flatV = ws.all flatP
  | _, _, .nil => rfl
  | _, _, .cons r t => by rw [List.all_cons, List.all_cons, flat_of r, flats_of t]
theorem eqF_of {a b : PV} {x y : V} (r : RW K ρ N H a x) (q : RW K ρ N H b y) : eqV x y = eqF a b := by
  cases r <;> cases q <;> first | rfl | skip
  rename_i s t
  show (s == t) = decide (s.cps.toList = t.cps.toList)
  rw [Bool.eq_iff_iff]
  simp [cps_iff']
theorem inP_of {x : PV} {v : V} (r : RW K ρ N H x v) : ∀ {ws : List PV} {vs : List V}, RWs K ρ N H ws vs → inV v vs = inP x ws
  | _, _, .nil => rfl
  | _, _, .cons q t => by
    have := inP_of r t
    unfold inV inP at this ⊢
    rw [List.any_cons, List.any_cons, eqF_of q r, this]
end
def inM (neg : Bool) : PV → PV → Sto → Out PV := fun a b S => match b with
  | .tup xs => if flatP a && xs.all flatP then .ok (.bl (if neg then !inP a xs else inP a xs)) S else .bad
  | .loc n => (match seqAt S n with
    | some xs => if flatP a && xs.all flatP then .ok (.bl (if neg then !inP a xs else inP a xs)) S else .bad
    | none => .bad)
  | _ => .bad
section
variable {X : Cx} {Wx : WX}
theorem oi_inS {neg : Bool} : OpI X Wx (rIn X.K neg) (inM neg) := by
  intro ρ S H w1 w2 x y Ex Q hS r1 r2 h
  unfold inM at h
  split at h
  · split at h
    · rename_i q
      rw [Bool.and_eq_true] at q
      cases r2 with
      | tup s t =>
        refine ⟨_, _, rfl, .inr s, by rw [flat_of r1]; exact q.1, by rw [flats_of t]; exact q.2, ?_⟩
        rw [inP_of r1 t]
        exact h.here hS (.bl _)
    · exact h.elim
  · split at h
    · split at h
      · rename_i e q
        rw [Bool.and_eq_true] at q
        cases r2
        obtain ⟨vs, s, t⟩ := seq_of hS e
        refine ⟨_, _, rfl, .inl s, by rw [flat_of r1]; exact q.1, by rw [flats_of t]; exact q.2, ?_⟩
        rw [inP_of r1 t]
        exact h.here hS (.bl _)
      · exact h.elim
    · exact h.elim
  · exact h.elim
def isNonP : PV → Bool
  | .non => true
  | _ => false
def isM (neg : Bool) : PV → PV → Sto → Out PV := fun a b S => match b with
  | .non => .ok (.bl (if neg then !isNonP a else isNonP a)) S
  | .bl k => (match a with
    | .bl j => .ok (.bl (if neg then !decide (j = k) else decide (j = k))) S
    | _ => .bad)
  | _ => .bad
def rIsM : R2 := fun x y H Q => (y = .non ∧ Q (.bl (decide (x = .non))) H) ∨ ∃ a b, x = .bl a ∧ y = .bl b ∧ Q (.bl (decide (a = b))) H
def rIsNM : R2 := fun x y H Q => (y = .non ∧ Q (.bl (!decide (x = .non))) H) ∨ ∃ a b, x = .bl a ∧ y = .bl b ∧ Q (.bl (!decide (a = b))) H
theorem or_isM : OpR X (compareOp .Is) rIsM := op_isN.or op_is_bl
theorem or_isNM : OpR X (compareOp .IsNot) rIsNM := op_notN.or op_isnot_bl
theorem non_of {K : PySem.W.Frag} {ρ : Nat → Addr} {N : Nat} {H : Hp} {w : PV} {v : V} (r : RW K ρ N H w v) : decide (v = .non) = isNonP w := by cases r <;> simp [isNonP]
theorem oi_is : OpI X Wx rIsM (isM false) := by
  intro ρ S H w1 w2 x y Ex Q hS r1 r2 h
  unfold isM at h
  split at h
  · cases r2
    refine .inl ⟨rfl, ?_⟩
    rw [non_of r1]
    exact h.here hS (.bl _)
  · split at h
    · cases r1; cases r2
      exact .inr ⟨_, _, rfl, rfl, h.here hS (.bl _)⟩
    · exact h.elim
  · exact h.elim
theorem oi_isN : OpI X Wx rIsNM (isM true) := by
  intro ρ S H w1 w2 x y Ex Q hS r1 r2 h
  unfold isM at h
  split at h
  · cases r2
    refine .inl ⟨rfl, ?_⟩
    rw [non_of r1]
    exact h.here hS (.bl _)
  · split at h
    · cases r1; cases r2
      exact .inr ⟨_, _, rfl, rfl, h.here hS (.bl _)⟩
    · exact h.elim
  · exact h.elim
end
end GL
set_option Elab.async false
set_option linter.all false
set_option maxRecDepth 100000
set_option maxHeartbeats 1000000
namespace GL
open PySem PySem.Spec PyProof.Rows L2
abbrev MG := PV → Ls → Option Ls
abbrev MGs := List PV → Ls → Option Ls
def gN (i : Nat) : MG := fun w ls => some (ls.set i (some w))
def gsNil : MGs := fun ws ls => match ws with
  | [] => some ls
  | _ => none
def gsCons (g : MG) (r : MGs) : MGs := fun ws ls => match ws with
  | w :: t => (match g w ls with
    | some ls1 => r t ls1
    | none => none)
  | [] => none
def gT (r : MGs) : MG := fun w ls => match w with
  | .tup xs => r xs ls
  | _ => none
def Off (sl : List Nat) (σ σ' : L2.St) : Prop := σ'.length = σ.length ∧ ∀ j, j ∉ sl → σ'[j]? = σ[j]?
theorem Off.trans {s1 s2 : List Nat} {a b c : L2.St} (h : Off s1 a b) (h' : Off s2 b c) : Off (s1 ++ s2) a c :=
  ⟨h'.1.trans h.1, fun j hj => by
    rw [List.mem_append, not_or] at hj
    exact (h'.2 j hj.2).trans (h.2 j hj.1)⟩
theorem wipe_get {σ : L2.St} {j : Nat} : ∀ {vs : List Nat}, (L2.wipe σ vs)[j]? = if j ∈ vs ∧ j < σ.length then some none else σ[j]?
  | [] => by simp [L2.wipe]
  | v :: vs => by
    have hl := L2.wipe_length σ vs
    show ((L2.wipe σ vs).set v none)[j]? = _
    by_cases hv : v = j
    · subst hv
      by_cases hj : v < σ.length
      · rw [List.getElem?_set_self (by rw [hl]; exact hj), if_pos ⟨List.mem_cons_self, hj⟩]
      · rw [List.getElem?_eq_none (by rw [List.length_set, hl]; omega), if_neg (fun h => hj h.2), List.getElem?_eq_none (by omega)]
    · rw [List.getElem?_set_ne hv, wipe_get (vs := vs)]
      have : (j ∈ v :: vs) = (j ∈ vs) := by
        apply propext
        rw [List.mem_cons]
        exact ⟨fun h => h.elim (fun e => absurd e.symm hv) id, .inr⟩
      simp only [this]
theorem Off.wipe {sl vs : List Nat} {σ σ' : L2.St} (h : Off sl (L2.wipe σ vs) σ') (hs : ∀ j ∈ sl, j ∈ vs) : L2.wipe σ' vs = L2.wipe σ vs := by
  have hl := L2.wipe_length σ vs
  apply List.ext_getElem?
  intro j
  rw [wipe_get, wipe_get, h.1, hl]
  split
  · rfl
  · rename_i q
    by_cases hj : j ∈ vs
    · have : ¬ j < σ.length := fun z => q ⟨hj, z⟩
      rw [List.getElem?_eq_none (by rw [h.1, hl]; omega), List.getElem?_eq_none (by omega)]
    · rw [h.2 j (fun z => hj (hs j z)), wipe_get, if_neg (fun z => hj z.1)]
section
variable {X : Cx} {pos : Pos}
def tGm (K : PySem.W.Frag) (g : MG) (sl : List Nat) : TG := fun v σ H Q => ∃ ρ S ls w ls', RSt K ρ H S ∧ RL K ρ S.length H ls σ ∧ RW K ρ S.length H w v ∧ g w ls = some ls' ∧
  ∀ σ', Off sl σ σ' → RL K ρ S.length H ls' σ' → Q σ' H
def tGms (K : PySem.W.Frag) (g : MGs) (sl : List Nat) : TGs := fun vs σ H Q => ∃ ρ S ls ws ls', RSt K ρ H S ∧ RL K ρ S.length H ls σ ∧ RWs K ρ S.length H ws vs ∧ g ws ls = some ls' ∧
  ∀ σ', Off sl σ σ' → RL K ρ S.length H ls' σ' → Q σ' H
abbrev IG (X : Cx) (e : Expr) (g : MG) (sl : List Nat) : Prop := PG X e (tGm X.K g sl)
def IGs (X : Cx) (es : List Expr) (g : MGs) (n : Nat) (sl : List Nat) : Prop := PGs X es (tGms X.K g sl) ∧ ∀ ws ls ls', g ws ls = some ls' → ws.length = n
theorem PGi {e : Expr} {t t' : TG} (h : PG X e t) (i : ∀ v σ H Q, t' v σ H Q → t v σ H Q) : PG X e t' := ⟨fun pins s σ H v u Q I r hw => h.run pins s σ H v u Q I r (i _ _ _ _ hw)⟩
theorem PGsi {e : List Expr} {t t' : TGs} (h : PGs X e t) (i : ∀ v σ H Q, t' v σ H Q → t v σ H Q) : PGs X e t' := ⟨fun pins s σ H v u Q I r hw => h.run pins s σ H v u Q I r (i _ _ _ _ hw)⟩
theorem off_set {σ : L2.St} {i : Nat} {o : Option V} : Off [i] σ (σ.set i o) := ⟨List.length_set, fun j hj => List.getElem?_set_ne (fun e => hj (List.mem_singleton.mpr e.symm))⟩
theorem ig_name {x : Str} (i : Nat) (hN : X.N.Nodup) (hi : X.N[i]? = some x := by rfl) (hx : Loc X.env.scope x := by first | exact Or.inl rfl | exact Or.inr rfl) (hf : X.fn x = true ∨ X.env.scope.names.lookup x = some .local := by first | exact .inl rfl | exact .inr rfl) :
    IG X (.Name x pos) (gN i) [i] := PGi (pg_name (i := i) hN hi hx hf) fun v σ H Q ⟨ρ, S, ls, w, ls', hS, hL, r, e, h⟩ => by
  cases e
  exact h _ off_set (RL.set r i hL)
theorem igs_nil : IGs X [] gsNil 0 [] := by
  refine ⟨PGsi pgs_nil fun vs σ H Q ⟨ρ, S, ls, ws, ls', hS, hL, r, e, h⟩ => ?_, fun ws ls ls' e => ?_⟩
  · unfold gsNil at e
    split at e
    · cases e; cases r; exact ⟨rfl, h σ ⟨rfl, fun _ _ => rfl⟩ hL⟩
    · cases e
  · unfold gsNil at e
    split at e
    · rfl
    · cases e
theorem igs_cons {e : Expr} {es : List Expr} {g : MG} {gs : MGs} {n : Nat} {s1 s2 : List Nat} (h1 : IG X e g s1) (h2 : IGs X es gs n s2) (hs : (assignEach (e :: es) X.env).map (·.2) = assign e X.env :: (assignEach es X.env).map (·.2) := by rfl) : IGs X (e :: es) (gsCons g gs) (n + 1) (s1 ++ s2) := by
  refine ⟨PGsi (pgs_cons h1 h2.1 hs) fun vs σ H Q ⟨ρ, S, ls, ws, ls', hS, hL, r, e, h⟩ => ?_, fun ws ls ls' e => ?_⟩
  · cases r with
    | nil => cases e
    | cons r rs =>
      unfold gsCons at e
      dsimp only at e
      split at e
      · rename_i ls1 e1
        exact ⟨_, _, rfl, ρ, S, ls, _, ls1, hS, hL, r, e1, fun σ1 o1 l1 => ⟨ρ, S, ls1, _, ls', hS, l1, rs, e, fun σ2 o2 l2 => h σ2 (o1.trans o2) l2⟩⟩
      · cases e
  · cases ws with
    | nil => cases e
    | cons w t =>
      unfold gsCons at e
      dsimp only at e
      split at e
      · rename_i ls1 e1
        rw [List.length_cons, h2.2 _ _ _ e]
      · cases e
theorem ig_tup {es : List Expr} {k : Nat} {gs : MGs} {n : Nat} {sl : List Nat} (hc : X.calm = true) (h : IGs X es gs n sl) (hn : (assignEach es X.env).length = n := by rfl) (hst : (assignEach es X.env).findIdx? (·.1) = none := by rfl) :
    IG X (.Tuple es k pos) (gT gs) sl := PGi (pg_tup hc h.1 hn hst) fun v σ H Q ⟨ρ, S, ls, w, ls', hS, hL, r, e, q⟩ => by
  unfold gT at e
  split at e
  · cases r with
    | tup s t => exact ⟨_, _, rfl, s, by rw [← t.length]; exact h.2 _ _ _ e, ρ, S, ls, _, ls', hS, hL, t, e, q⟩
  · cases e
end
structure Wk where
  items : List PV
  chk : Nat → Sto → Bool
def RIt (K : PySem.W.Frag) (ρ : Nat → Addr) (N : Nat) (H : Hp) (it : Wk) (J : It) : Prop :=
  ∀ ρ' S' H', Ext K ρ N H ρ' S'.length H' → RSt K ρ' H' S' →
    (∀ i x, it.items[i]? = some x → it.chk i S' = true → J.go i H' ∧ ∀ v H2, J.yld i H' v H2 → ∃ ρ2, Ext K ρ' S'.length H' ρ2 S'.length H2 ∧ RSt K ρ2 H2 S' ∧ RW K ρ2 S'.length H2 x v) ∧
    (it.chk it.items.length S' = true → J.stop it.items.length H')
abbrev MI := Ls → Sto → Out Wk
abbrev RItF : RelF Wk It := RIt
def tI (K : PySem.W.Frag) (Wx : WX) (m : MI) : TI := fun σ H R => ∃ ρ S ls, RSt K ρ H S ∧ RL K ρ S.length H ls σ ∧ Post RItF K ρ S.length H (fun c d H' => Wx c d σ H') (m ls S) R
abbrev II (X : Cx) (Wx : WX) (tg e : Expr) (m : MI) : Prop := PI X tg e (tI X.K Wx m)
theorem PIi {X : Cx} {tg e : Expr} {t t' : TI} (h : PI X tg e t) (i : ∀ σ H R, t' σ H R → t σ H R) : PI X tg e t' := ⟨fun pins s σ H R I hw => h.run pins s σ H R I (i _ _ _ hw)⟩
def always : Nat → Sto → Bool := fun _ _ => true
def isLst (n : Nat) (xs : List PV) : Nat → Sto → Bool := fun _ S => match S[n]? with
  | some (.lst ys) => PV.beqs ys xs
  | _ => false
theorem isLst_get {n : Nat} {xs : List PV} {S : Sto} {i : Nat} (h : isLst n xs i S = true) : S[n]? = some (.lst xs) := by
  unfold isLst at h
  split at h
  · rename_i e; rw [e, PV.eqs_of_beqs h]
  · cases h
section
variable {K : PySem.W.Frag} {ρ : Nat → Addr} {N : Nat} {H : Hp}
theorem rit_tup {xs : List PV} {a : Addr} {vs : List V} (s : SqT K H a vs) (t : RWs K ρ N H xs vs) : RIt K ρ N H ⟨xs, always⟩ (Itt K a) := by
  intro ρ' S' H' e hS
  have s' := e.2.2.1 _ _ s
  have t' := t.ext e
  have w := walk_tup (K := K) (a := a) (xs := vs)
  have hl := t.length
  refine ⟨fun i x hx _ => ?_, fun _ => ?_⟩
  · obtain ⟨v, hv, r⟩ := t'.get hx
    have hi := (List.getElem?_eq_some_iff.mp hv).1
    refine ⟨w.goes i H' hi s', fun v' H2 y => ?_⟩
    obtain ⟨e1, e2⟩ := w.yields i H' v' H2 hi s' y
    subst e1
    rw [hv] at e2; cases e2
    exact ⟨ρ', .refl, hS, r⟩
  · show (Itt K a).stop xs.length H'
    rw [hl]; exact w.stops H' s'
theorem rit_rol {xs : List PV} {a : Addr} {vs : List V} (stay : ∀ ρ' S' H', Ext K ρ N H ρ' S'.length H' → RSt K ρ' H' S' → SqL K H' a vs) (t : RWs K ρ N H xs vs) : RIt K ρ N H ⟨xs, always⟩ (Itl K a) := by
  intro ρ' S' H' e hS
  have s' := stay ρ' S' H' e hS
  have t' := t.ext e
  have w := walk_list (K := K) (a := a) (xs := vs)
  have hl := t.length
  refine ⟨fun i x hx _ => ?_, fun _ => ?_⟩
  · obtain ⟨v, hv, r⟩ := t'.get hx
    have hi := (List.getElem?_eq_some_iff.mp hv).1
    refine ⟨w.goes i H' hi s', fun v' H2 y => ?_⟩
    obtain ⟨e1, e2⟩ := w.yields i H' v' H2 hi s' y
    subst e1
    rw [hv] at e2; cases e2
    exact ⟨ρ', .refl, hS, r⟩
  · show (Itl K a).stop xs.length H'
    rw [hl]; exact w.stops H' s'
theorem rit_lst {xs : List PV} {n : Nat} (hn : n < N) : RIt K ρ N H ⟨xs, isLst n xs⟩ (Itl K (ρ n)) := by
  intro ρ' S' H' e hS
  have en : ρ' n = ρ n := e.2.1 n hn
  refine ⟨fun i x hx hc => ?_, fun hc => ?_⟩
  · obtain ⟨vs, hv, t⟩ := hS.at_ _ _ (isLst_get (i := 0) hc)
    rw [en] at hv
    have w := walk_list (K := K) (a := ρ n) (xs := vs)
    obtain ⟨v, hv2, r⟩ := t.get hx
    have hi := (List.getElem?_eq_some_iff.mp hv2).1
    refine ⟨w.goes i H' hi (SqL.of hv), fun v' H2 y => ?_⟩
    obtain ⟨e1, e2⟩ := w.yields i H' v' H2 hi (SqL.of hv) y
    subst e1
    rw [hv2] at e2; cases e2
    exact ⟨ρ', .refl, hS, r⟩
  · obtain ⟨vs, hv, t⟩ := hS.at_ _ _ (isLst_get (i := 0) hc)
    rw [en] at hv
    have w := walk_list (K := K) (a := ρ n) (xs := vs)
    show (Itl K (ρ n)).stop xs.length H'
    rw [t.length]; exact w.stops H' (SqL.of hv)
theorem rit_rng {lo : Int} {n : Nat} : RIt K ρ N H ⟨(List.range n).map fun i => .int (lo + (i : Nat)), always⟩ (L2.Itr lo n) := by
  intro ρ' S' H' e hS
  have w := walk_range (lo := lo) (n := n)
  refine ⟨fun i x hx _ => ?_, fun _ => ?_⟩
  · rw [List.getElem?_map] at hx
    by_cases hi : i < n
    · rw [List.getElem?_range hi] at hx
      cases hx
      refine ⟨w.goes i H' hi trivial, fun v' H2 y => ?_⟩
      obtain ⟨e1, e2⟩ := w.yields i H' v' H2 hi trivial y
      subst e1; subst e2
      exact ⟨ρ', .refl, hS, .int _⟩
    · rw [List.getElem?_eq_none (by simpa using hi)] at hx; cases hx
  · have : ((List.range n).map fun (i : Nat) => PV.int (lo + (i : Nat))).length = n := by simp
    show (L2.Itr lo n).stop _ H'
    rw [this]; exact w.stops H' trivial
end
section
variable {X : Cx} {Wx : WX} {tg e : Expr} {m : ME} {mr : MA} {p pos : Pos}
def iSeq (m : ME) : MI := fun ls S => (m ls S).bind fun w S1 => match w with
  | .tup xs => .ok ⟨xs, always⟩ S1
  | .loc n => (match S1[n]? with
    | some (.lst xs) => .ok ⟨xs, isLst n xs⟩ S1
    | some (.rol xs) => .ok ⟨xs, always⟩ S1
    | _ => .bad)
  | _ => .bad
def rIterM (K : PySem.W.Frag) (x : V) (H : Hp) (R : It → Hp → Prop) : Prop := ∃ a, x = .ref a ∧ (((∃ xs, SqL K H a xs) ∧ R (Itl K a) H) ∨ ((∃ xs, SqT K H a xs) ∧ R (Itt K a) H))
theorem pi_seq {te : TE} (he : PE X e te) : PI X tg e (fun σ H R => te σ H fun x H1 => rIterM X.K x H1 R) := by
  constructor
  intro pins s σ H R I h
  apply thn (he.run pins s σ H _ I h)
  rintro v s1 ⟨x, H1, I1, r1, a, rfl, q⟩
  cases r1
  have fp : ∀ b ∈ [s1.heap.objs.size], FpOk X pins H1 b := by
    intro b hb
    have hb : b = s1.heap.objs.size := List.mem_singleton.mp hb
    rw [hb]
    exact I1.fpOk (Nat.le_refl _) I1.fresh
  rcases q with ⟨⟨xs, hq⟩, q⟩ | ⟨⟨xs, hq⟩, q⟩
  · obtain ⟨its, _, pl, _⟩ := I1.list hq
    apply wpAny_pyIter_list pl.isList
    exact ⟨_, [_], _, _, H1, rfl, I1.kept (t' := s1.toks) (fun _ _ z => Heap.get?_push_of_some _ z), turn_list a _, ⟨_, Heap.get?_push_size _ rfl, rfl, rfl⟩, fp, q⟩
  · obtain ⟨its, _, pl, _⟩ := I1.tuple hq
    apply wpAny_pyIter_tuple (items := its.toArray) pl
    exact ⟨_, [_], _, _, H1, rfl, I1.kept (t' := s1.toks) (fun _ _ z => Heap.get?_push_of_some _ z), turn_tuple a _, ⟨_, Heap.get?_push_size _ rfl, rfl, rfl⟩, fp, q⟩
theorem ii_seq (he : IE X Wx e m) : II X Wx tg e (iSeq m) := PIi (pi_seq he) fun σ H R ⟨ρ, S, ls, hS, hL, h⟩ => ⟨ρ, S, ls, hS, hL, (Post.bind (R := RW) h).imp fun x H1 ⟨ρ1, S1, w1, e1, hS1, r1, h1⟩ => by
    split at h1
    · cases r1 with
      | tup s t => exact ⟨_, rfl, .inr ⟨⟨_, s⟩, h1 ρ1 H1 _ .refl hS1 (rit_tup s t)⟩⟩
    · cases r1 with
      | loc n hn =>
        split at h1
        · rename_i xs e2
          obtain ⟨vs, a, b⟩ := hS1.at_ _ _ e2
          exact ⟨_, rfl, .inl ⟨⟨_, SqL.of a⟩, h1 ρ1 H1 _ .refl hS1 (rit_lst hn)⟩⟩
        · rename_i xs e2
          obtain ⟨vs, a, b⟩ := hS1.at_ _ _ e2
          refine ⟨_, rfl, .inl ⟨⟨_, a.sq⟩, h1 ρ1 H1 _ .refl hS1 (rit_rol (fun ρ' S' H' e hS' => (e.2.2.2.1 _ _ a).sq) b)⟩⟩
        · exact h1.elim
    · exact h1.elim⟩
def rngL (lo hi : Int) : List PV := (List.range (hi - lo).toNat).map fun (i : Nat) => .int (lo + (i : Nat))
def med : Int := 4611686018427387904
theorem med_ok {i : Int} (h : (decide (-med ≤ i) && decide (i < med)) = true) : -(2 ^ 62) ≤ i ∧ i < 2 ^ 62 := by
  rw [Bool.and_eq_true] at h
  have h : -4611686018427387904 ≤ i ∧ i < 4611686018427387904 := ⟨of_decide_eq_true h.1, of_decide_eq_true h.2⟩
  have e : (2 : Int) ^ 62 = 4611686018427387904 := by decide
  rw [e]; exact h
def iR1 (m : ME) : MI := fun ls S => (m ls S).bind fun w S1 => match w with
  | .int j => if (decide (-med ≤ j) && decide (j < med)) = true then .ok ⟨rngL 0 j, always⟩ S1 else .bad
  | _ => .bad
variable {e2 : Expr} {m2 : ME}
theorem ii_range1 (hm : X.mg "range" = none) (he : IE X Wx e m) (hg : Gl X "range" := by rfl) (hst : starEach [e] X.env = (false, eval e X.env) :: starEach [] X.env := by rfl) (hs : starEach [e] X.env = [(false, eval e X.env)] := by rfl) : II X Wx tg (.Call (.Name "range" p) [e] [] pos) (iR1 m) :=
  PIi (pi_range1 hg hm (pa_cons he pa_nil hst) hs) fun σ H R ⟨ρ, S, ls, hS, hL, h⟩ => ⟨ρ, S, ls, hS, hL, (Post.bind (R := RW) h).imp fun x H1 ⟨ρ1, S1, w1, e1, hS1, r1, h1⟩ => by
    split at h1
    · split at h1
      · rename_i q
        cases r1
        obtain ⟨a, b⟩ := med_ok q
        refine ⟨_, rfl, a, b, h1 ρ1 H1 _ .refl hS1 ?_⟩
        unfold rngL
        rw [Int.sub_zero]
        exact rit_rng
      · exact h1.elim
    · exact h1.elim⟩
end
def forGo (chk : Nat → Sto → Bool) (g : MG) (body : MS) : Nat → List PV → MS
  | i, [], ls, S => if chk i S = true then .nx ls S else .bad
  | i, x :: r, ls, S => if chk i S = true then (match g x ls with
    | none => .bad
    | some ls1 => (match body ls1 S with
      | .nx ls2 S2 => forGo chk g body (i + 1) r ls2 S2
      | .ct ls2 S2 => forGo chk g body (i + 1) r ls2 S2
      | .bk ls2 S2 => .nx ls2 S2
      | q => q)) else .bad
def sFor (it : MI) (g : MG) (body : MS) : MS := fun ls S => (it ls S).then ls fun t S1 => forGo t.chk g body 0 t.items ls S1
section
variable {X : Cx} {Wx : WX} {tg e : Expr} {mi : MI} {g : MG} {mb : MS} {pos : Pos} {body : List Stmt} {sl : List Nat}
theorem is_for (hp : PassesOwn (model X.prog X.w) X.A X.env X.xe) (hc : X.calm = true) (hi : II X Wx tg e mi) (hg : IG X tg g sl) (hb : ISs X Wx body mb) (hs : ∀ x, foldedSetIterable e X.env x = pure x := by intro _; rfl) :
    IS X Wx (.For tg e body [] pos) (sFor mi g mb) :=
  PSi (ps_for hp hc hi hg hb hs) fun D σ H ⟨ρ, S, ls, hS, hL, h⟩ => ⟨ρ, S, ls, hS, hL, (Post.then (R := RItF) hL h).imp fun J H1 ⟨ρ1, S1, t, e1, hS1, r1, h1⟩ => by
    have l1 := hL.ext e1
    clear h hS hL
    refine ⟨fun i m σ H => m = t.items.length - i ∧ i ≤ t.items.length ∧ ∃ ρ S ls, Ext X.K ρ1 S1.length H1 ρ S.length H ∧ RSt X.K ρ H S ∧ RL X.K ρ S.length H ls σ ∧ PostS X.K ρ S.length H Wx (forGo t.chk g mb i (t.items.drop i) ls S) D,
      ⟨_, rfl, Nat.zero_le _, ρ1, S1, ls, .refl, hS1, l1, by rw [List.drop_zero]; exact h1⟩, ?_⟩
    rintro i m σ2 H2 ⟨rfl, hi, ρ2, S2, ls2, e2, hS2, l2, h2⟩
    obtain ⟨w1, w2⟩ := r1 ρ2 S2 H2 e2 hS2
    by_cases hlt : i < t.items.length
    · rw [List.drop_eq_getElem_cons hlt] at h2
      unfold forGo at h2
      split at h2
      · rename_i hc
        obtain ⟨go, yl⟩ := w1 i _ (List.getElem?_eq_getElem hlt) hc
        refine .inr ⟨go, fun σ3 H3 => ∃ ρ S ls, Ext X.K ρ1 S1.length H1 ρ S.length H3 ∧ RSt X.K ρ H3 S ∧ RL X.K ρ S.length H3 ls σ3 ∧ PostS X.K ρ S.length H3 Wx (forGo t.chk g mb (i + 1) (t.items.drop (i + 1)) ls S) D,
          fun σ' H' q => ⟨_, by omega, rfl, hlt, q⟩, fun v H3 y => ?_⟩
        obtain ⟨ρ3, e3, hS3, r3⟩ := yl v H3 y
        split at h2
        · exact h2.elim
        · rename_i ls3 eg
          refine ⟨ρ3, S2, ls2, _, ls3, hS3, l2.ext e3, r3, eg, fun σ4 _ l4 => ⟨ρ3, S2, ls3, hS3, l4, ?_⟩⟩
          have h3 := PostS.ext e3 h2
          cases hm : mb ls3 S2 with
          | nx a S' => rw [hm] at h3; exact fun ρ4 H4 σ5 e4 s4 l5 => ⟨ρ4, S', a, (e2.trans e3).trans e4, s4, l5, PostS.ext e4 h3⟩
          | ct a S' => rw [hm] at h3; exact fun ρ4 H4 σ5 e4 s4 l5 => ⟨ρ4, S', a, (e2.trans e3).trans e4, s4, l5, PostS.ext e4 h3⟩
          | bk a S' => rw [hm] at h3; exact h3
          | rt a S' => rw [hm] at h3; exact h3
          | exc a b S' => rw [hm] at h3; exact h3
          | bad => rw [hm] at h3; exact h3
      · exact h2.elim
    · have ei : i = t.items.length := by omega
      subst ei
      rw [List.drop_length] at h2
      unfold forGo at h2
      split at h2
      · rename_i hc
        exact .inl ⟨w2 hc, h2 ρ2 H2 σ2 .refl hS2 l2⟩
      · exact h2.elim⟩
end
def lcGo (chk : Nat → Sto → Bool) (g : MG) (tt : MT) (te : ME) (vs : List Nat) (D : Nat) (ls : Ls) : Nat → List PV → Sto → Out PV
  | i, [], S => if chk i S = true then .ok (.loc D) S else .bad
  | i, x :: r, S => if chk i S = true then (match g x (wipeL ls vs) with
    | none => .bad
    | some ls1 => (match tt ls1 S with
      | .ok true S1 => (match te ls1 S1 with
        | .ok w S2 => (match lstAt S2 D with
          | some acc => if acc.length < lim then lcGo chk g tt te vs D ls (i + 1) r (S2.set D (.lst (acc ++ [w]))) else .bad
          | none => .bad)
        | _ => .bad)
      | .ok false S1 => lcGo chk g tt te vs D ls (i + 1) r S1
      | _ => .bad)) else .bad
def eLc (it : MI) (g : MG) (tt : MT) (te : ME) (vs : List Nat) : ME := fun ls S => (it ls S).bind fun t S1 => lcGo t.chk g tt te vs S1.length ls 0 t.items (S1 ++ [.lst []])
def tYesM : MT := fun _ S => .ok true S
abbrev ITs (X : Cx) (ifs : List Expr) (m : MT) : Prop := PTs X ifs (tT X.K (fun _ _ _ _ => False) m)
theorem its_nil {X : Cx} : ITs X [] tYesM := ⟨fun pins s σ H Q I ⟨ρ, S, ls, hS, hL, h⟩ => pts_nil.run pins s σ H Q I (h ρ H true .refl hS rfl)⟩
theorem its_one {X : Cx} {c : Expr} {m : MT} (h : IT X (fun _ _ _ _ => False) c m) : ITs X [c] m := pts_one h
section
variable {X : Cx} {Wx : WX} {elt tg iter : Expr} {ifs : List Expr} {scope : Scope} {own : List (Str × Nat)} {pos : Pos} {mi : MI} {g : MG} {mt : MT} {me : ME} {sl : List Nat}
theorem lc_in {σ : L2.St} {H : Hp} {Q : VK} (hsl : ∀ j ∈ sl, j ∈ own.map (·.2)) (h : tE X.K Wx (eLc mi g mt me (own.map (·.2))) σ H Q) :
    tLc (tI X.K Wx mi) (tGm X.K g sl) (tT X.K (fun _ _ _ _ => False) mt) (tE X.K (fun _ _ _ _ => False) me) (own.map (·.2)) σ H Q := by
  obtain ⟨ρ, S, ls, hS, hL, h⟩ := h
  refine ⟨ρ, S, ls, hS, hL, (Post.bind (R := RItF) h).imp ?_⟩
  rintro J H1 ⟨ρ1, S1, t, e1, hS1, r1, h1⟩ D hD
  have l1 := hL.ext e1
  clear h hS hL
  have eD : Ext X.K ρ1 S1.length H1 (grow ρ1 S1.length D) (S1 ++ [OB.lst []]).length (upd H1 D (.lst [])) := by
    rw [List.length_append, List.length_singleton]; exact ext_new hD
  have hS2 : RSt X.K (grow ρ1 S1.length D) (upd H1 D (.lst [])) (S1 ++ [OB.lst []]) := hS1.new hD rfl ⟨[], upd_same, .nil⟩
  refine ⟨fun i m H => m = t.items.length - i ∧ i ≤ t.items.length ∧ ∃ ρ S, Ext X.K (grow ρ1 S1.length D) (S1 ++ [OB.lst []]).length (upd H1 D (.lst [])) ρ S.length H ∧ RSt X.K ρ H S ∧
    Post RW X.K ρ S.length H (fun c d H' => Wx c d σ H') (lcGo t.chk g mt me (own.map (·.2)) S1.length ls i (t.items.drop i) S) Q,
    ⟨_, rfl, Nat.zero_le _, _, _, .refl, hS2, by rw [List.drop_zero]; exact Post.ext eD h1⟩, ?_⟩
  rintro i m H2 ⟨rfl, hi, ρ2, S2, e2, hS2', h2⟩
  have eAll := eD.trans e2
  have aD : ρ2 S1.length = D := by rw [e2.2.1 S1.length (by rw [List.length_append, List.length_singleton]; exact Nat.lt_succ_self _), grow_new]
  obtain ⟨w1, w2⟩ := r1 ρ2 S2 H2 eAll hS2'
  by_cases hlt : i < t.items.length
  · rw [List.drop_eq_getElem_cons hlt] at h2
    unfold lcGo at h2
    split at h2
    · rename_i hc
      obtain ⟨go, yl⟩ := w1 i _ (List.getElem?_eq_getElem hlt) hc
      refine .inr ⟨go, fun H3 => ∃ ρ S, Ext X.K (grow ρ1 S1.length D) (S1 ++ [OB.lst []]).length (upd H1 D (.lst [])) ρ S.length H3 ∧ RSt X.K ρ H3 S ∧
        Post RW X.K ρ S.length H3 (fun c d H' => Wx c d σ H') (lcGo t.chk g mt me (own.map (·.2)) S1.length ls (i + 1) (t.items.drop (i + 1)) S) Q, fun H' q => ⟨_, by omega, rfl, hlt, q⟩, fun v H3 y => ?_⟩
      obtain ⟨ρ3, e3, hS3, r3⟩ := yl v H3 y
      split at h2
      · exact h2.elim
      · rename_i ls1 eg
        refine ⟨ρ3, S2, wipeL ls (own.map (·.2)), _, ls1, hS3, RL.wipe ((l1.ext eAll).ext e3) _, r3, eg, fun σ4 o4 l4 => ⟨o4.wipe hsl, ρ3, S2, ls1, hS3, l4, ?_⟩⟩
        have h3 := Post.ext e3 h2
        cases hm : mt ls1 S2 with
        | exc a b => rw [hm] at h3; exact h3.elim
        | bad => rw [hm] at h3; exact h3.elim
        | ok k S5 =>
          rw [hm] at h3
          intro ρ5 H5 k' e5 s5 q5
          have q5 : k = k' := q5
          subst k'
          cases k with
          | false =>
            rw [if_neg Bool.false_ne_true]
            exact ⟨ρ5, S5, (e2.trans e3).trans e5, s5, Post.ext e5 h3⟩
          | true =>
            rw [if_pos rfl]
            refine ⟨ρ5, S5, ls1, s5, l4.ext e5, ?_⟩
            dsimp only at h3
            cases hm2 : me ls1 S5 with
            | exc a b => rw [hm2] at h3; exact h3.elim
            | bad => rw [hm2] at h3; exact h3.elim
            | ok w S6 =>
              rw [hm2] at h3
              intro ρ6 H6 v6 e6 s6 r6
              dsimp only at h3
              split at h3
              · rename_i acc ea
                split at h3
                · rename_i hz
                  obtain ⟨vs, hv, tv⟩ := lst_of s6 ea
                  have aD6 : ρ6 S1.length = D := by rw [(e3.trans (e5.trans e6)).2.1 S1.length (Nat.lt_of_lt_of_le (by rw [List.length_append, List.length_singleton]; exact Nat.lt_succ_self _) e2.1), aD]
                  obtain ⟨s7, e7⟩ := set_lst s6 ea (tv.app (.cons r6 .nil))
                  rw [aD6] at hv s7 e7
                  exact ⟨vs, hv, by rw [← tv.length]; exact lim_lt hz, ρ6, _, ((e2.trans (e3.trans (e5.trans e6))).trans e7), s7, Post.ext ((e5.trans e6).trans e7) h3⟩
                · exact h3.elim
              · exact h3.elim
    · exact h2.elim
  · have ei : i = t.items.length := by omega
    subst ei
    rw [List.drop_length] at h2
    unfold lcGo at h2
    split at h2
    · rename_i hc
      refine .inl ⟨w2 hc, h2 ρ2 H2 _ .refl hS2' ?_⟩
      have q : RW X.K ρ2 S2.length H2 (.loc S1.length) (.ref (ρ2 S1.length)) := .loc _ (Nat.lt_of_lt_of_le (by rw [List.length_append, List.length_singleton]; exact Nat.lt_succ_self _) e2.1)
      rw [aD] at q
      exact q
    · exact h2.elim
theorem ie_lc {vs : List Nat} (own : List (Str × Nat)) (hvs : own.map (·.2) = vs) (hc : X.calm = true) (hN : X.N.Nodup) (hi : II X Wx tg iter mi) (ok : BlkOk X.N X.env.scope scope own) (hsl : ∀ j ∈ sl, j ∈ own.map (·.2))
    (hg : ∀ (s : Shared) (H : Hp) (C : Addr) (cl : List (Str × Addr)) (fp : List Addr), IG (X.blk s H scope (compEnvC scope cl C X.env) fp) tg g sl)
    (ht : ∀ (s : Shared) (H : Hp) (C : Addr) (cl : List (Str × Addr)) (fp : List Addr), ITs (X.blk s H scope (compEnvC scope cl C X.env) fp) ifs mt)
    (he : ∀ (s : Shared) (H : Hp) (C : Addr) (cl : List (Str × Addr)) (fp : List Addr), IE (X.blk s H scope (compEnvC scope cl C X.env) fp) (fun _ _ _ _ => False) elt me)
    (hs : ∀ x, foldedSetIterable iter X.env x = pure x := by intro _; rfl) : IE X Wx (.ListComp elt [⟨tg, iter, ifs, 0⟩] scope pos) (eLc mi g mt me vs) := by
  subst hvs
  exact PEi (pe_lc hc hN hi ok hg ht he hs) fun σ H Q h => lc_in hsl h
end
end GL
set_option Elab.async false
set_option linter.all false
set_option maxRecDepth 100000
set_option maxHeartbeats 1000000
namespace GL
open PySem PySem.Spec PyProof.Rows L2
abbrev MF := List PV → Sto → Out PV
def fnOf (np n : Nat) (m : MS) : MF := fun ws S => if ws.length = np then (match m (ws.map some ++ List.replicate (n - np) none) S with
  | .nx _ S' => .ok .non S'
  | .rt w S' => .ok w S'
  | .exc e _ S' => .exc e S'
  | _ => .bad) else .bad
def spI (K : PySem.W.Frag) (n : Nat) (fn : MF) : Sp := fun vs H Q E => ∃ ρ S ws, RSt K ρ H S ∧ RWs K ρ S.length H ws vs ∧ ws.length = n ∧ Post RW K ρ S.length H E (fn ws S) Q
abbrev topW (E : XK) : WX := fun cls d _ H => E cls d H
abbrev FI (P : Program) (w : World) (K : PySem.W.Frag) (mg : Str → Option Value) (base : Heap) (k : Nat) (f : Addr) (fd : FuncData) (ps : List Str) (fn : MF) : Prop :=
  FnOk P w K mg base (L2.CX P w) k f fd ps (spI K ps.length fn)
theorem RL.start {K : PySem.W.Frag} {ρ : Nat → Addr} {N : Nat} {H : Hp} (n : Nat) : ∀ {ws : List PV} {vs : List V}, RWs K ρ N H ws vs → RL K ρ N H (ws.map some ++ List.replicate n none) (vs.map some ++ List.replicate n none)
  | _, _, .nil => by
    induction n with
    | zero => exact .nil
    | succ n ih => exact .no ih
  | _, _, .cons r t => .yes r (RL.start n t)
section
variable {P : Program} {w : World} {K : PySem.W.Frag} {mg : Str → Option Value} {base : Heap} {x qual : Str} {params : Arguments} {body : List Stmt} {scope : Scope} {dvs : List V} {kws : List (Str × V)} {f : Addr} {fd : FuncData}
theorem fi_of {N ps : List Str} {k : Nat} {m : MS} (F : FunD K x qual params body scope dvs kws f fd) (S : FnScope N ps scope)
    (hb : ∀ (cdv : Value) (A : Around) (outer : List Env) (s : Shared) (H : Hp) (E : XK), Room k (A.deeper (envOfC qual scope s.heap.objs.size f cdv)) →
      ISs (cxOf (L2.CX P w) P w K mg base N qual scope f cdv A outer s H E) (topW E) body m) : FI P w K mg base (k + 1) f fd ps (fnOf ps.length N.length m) := by
  refine F.ok S (fun vs H Q E h => ?_) (fun cdv A outer s H vs Q E hr h => ⟨_, hb cdv A outer s H E hr, ?_⟩)
  · obtain ⟨ρ, S, ws, _, r, e, _⟩ := h
    rw [← r.length]; exact e
  · obtain ⟨ρ, S, ws, hS, r, e, h⟩ := h
    unfold fnOf at h
    rw [if_pos e] at h
    have el : L2.start N vs = vs.map some ++ List.replicate (N.length - ps.length) none := by
      unfold L2.start
      rw [← r.length, e]
    refine ⟨ρ, S, ws.map some ++ List.replicate (N.length - ps.length) none, hS, by rw [el]; exact RL.start (N.length - ps.length) r, ?_⟩
    cases hm : m (ws.map some ++ List.replicate (N.length - ps.length) none) S with
    | nx a S' => rw [hm] at h; exact fun ρ' H' σ' e' s' _ => h ρ' H' _ e' s' .non
    | rt a S' => rw [hm] at h; exact fun ρ' H' v e' s' r' => h ρ' H' v e' s' r'
    | exc a b S' => rw [hm] at h; exact fun ρ' H' σ' c d e' s' _ q => h ρ' H' c d e' s' q
    | bk a S' => rw [hm] at h; exact h.elim
    | ct a S' => rw [hm] at h; exact h.elim
    | bad => rw [hm] at h; exact h.elim
end
def eCall (fn : MF) (dws : List PV) (args : MA) : ME := fun ls S => (args ls S).bind fun ws S1 => fn (ws ++ dws) S1
def GVals (K : PySem.W.Frag) : List V → List PV → Prop
  | [], [] => True
  | v :: vs, w :: ws => GVal K v w ∧ GVals K vs ws
  | _, _ => False
theorem GVals.rel {K : PySem.W.Frag} {ρ : Nat → Addr} {N : Nat} {H : Hp} : ∀ {vs : List V} {ws : List PV}, GVals K vs ws → RWs K ρ N H ws vs
  | [], [], _ => .nil
  | _ :: _, _ :: _, h => .cons (h.1 _ _ _) (GVals.rel h.2)
  | [], _ :: _, h => h.elim
  | _ :: _, [], h => h.elim
section
variable {X : Cx} {Wx : WX} {k : Nat} {f C : Addr} {fd : FuncData} {ps : List Str} {fn : MF} {dvs : List V} {ds : List Value} {dws : List PV} {x m : Str} {p pos apos : Pos} {e o : Expr} {es : List Expr} {mo : ME} {ma : MA} {np N : Nat} {mb : MS}
theorem sp_in {σ : L2.St} {ρ : Nat → Addr} {S : Sto} {H : Hp} {ws : List PV} {vs : List V} {Ex : XK} {Q : VK} (hS : RSt X.K ρ H S) (r : RWs X.K ρ S.length H ws vs) (g : GVals X.K dvs dws)
    (h : Post RW X.K ρ S.length H Ex (fnOf np N mb (ws ++ dws) S) Q) : spI X.K np (fnOf np N mb) (vs ++ dvs) H Q Ex := by
  refine ⟨ρ, S, ws ++ dws, hS, r.app g.rel, ?_, h⟩
  unfold fnOf at h
  split at h
  · assumption
  · exact h.elim
theorem ie_call (tk : Takes X Wx) (F : FI X.prog X.w X.K X.mg X.base k f fd ps (fnOf np N mb)) (hnp : ps.length = np) (hr : Room k X.A) (hm : X.mg x = some (.ref f)) (hk : PySem.W.keepIn X.K (.ref f) = true) (hb : Binds X.K fd ps ds) (hd : Vals dvs ds) (g : GVals X.K dvs dws)
    (ha : IA X Wx (e :: es) ma) (hg : Gl X x := by rfl) (hdb : (x == ("__debug__" : Str)) = false := by decide) (he : starEach (e :: es) X.env = (false, eval e X.env) :: starEach es X.env := by rfl) (hpl : (backTo pos (starEach es X.env)).any (·.1) = false := by rfl) :
    IE X Wx (.Call (.Name x p) (e :: es) [] pos) (eCall (fnOf np N mb) dws ma) :=
  PEi (pe_callSD (E := WE Wx) F hr hg hm hk hb hd (passAt tk) ha hdb he hpl) fun σ H Q ⟨ρ, S, ls, hS, hL, h⟩ => ⟨ρ, S, ls, hS, hL, (Post.bind (R := RWs) h).imp fun vs H1 ⟨ρ1, S1, ws, e1, hS1, r1, h1⟩ => by
    rw [hnp]; exact sp_in (σ := σ) hS1 r1 g h1⟩
theorem pe_call0D {E : L2.St → XK} {sp : Sp} (F : FnOk X.prog X.w X.K X.mg X.base (L2.CX X.prog X.w) k f fd ps sp) (hr : Room k X.A) (hg : Gl X x) (hm : X.mg x = some (.ref f)) (hk : PySem.W.keepIn X.K (.ref f) = true) (hb : Binds X.K fd ps ds) (hd : Vals dvs ds)
    (hx : ∀ σ, PassesAt (L2.CX X.prog X.w) X σ (E σ)) (hdb : (x == ("__debug__" : Str)) = false := by decide) : PE X (.Call (.Name x p) [] [] pos) (tCallSD sp dvs E tNil) := by
  constructor
  intro pins s σ H Q I h
  apply wpAny_Call_Name_kw
  apply ld_glob I hg hm _ hdb
  apply PySem.W.callWith_K0 I.kIn hk
  exact run_fnSD (us := []) F hr hb hd (hx σ) I .nil h
theorem ie_call0 (tk : Takes X Wx) (F : FI X.prog X.w X.K X.mg X.base k f fd ps (fnOf np N mb)) (hnp : ps.length = np) (hr : Room k X.A) (hm : X.mg x = some (.ref f)) (hk : PySem.W.keepIn X.K (.ref f) = true) (hb : Binds X.K fd ps ds) (hd : Vals dvs ds) (g : GVals X.K dvs dws)
    (hg : Gl X x := by rfl) (hdb : (x == ("__debug__" : Str)) = false := by decide) : IE X Wx (.Call (.Name x p) [] [] pos) (eCall (fnOf np N mb) dws aNil) :=
  PEi (pe_call0D (E := WE Wx) F hr hg hm hk hb hd (passAt tk) hdb) fun σ H Q ⟨ρ, S, ls, hS, hL, h⟩ => by
    rw [hnp]; exact sp_in (σ := σ) (ws := []) hS .nil g h
def lookN (f : Nm) : List (Nm × PV) → Option PV
  | [] => none
  | (g, w) :: r => if g = f then some w else lookN f r
def putN (f : Nm) (w : PV) : List (Nm × PV) → List (Nm × PV)
  | [] => [(f, w)]
  | (g, v) :: r => if g = f then (g, w) :: r else (g, v) :: putN f w r
theorem beq_toS {a b : Nm} : (toS a == toS b) = decide (a = b) := by
  by_cases h : a = b
  · subst h; simp
  · have : ¬ toS a = toS b := fun e => h (toS_inj e)
    simp [h, this]
theorem look_some {K : PySem.W.Frag} {ρ : Nat → Addr} {N : Nat} {H : Hp} {f : Nm} {w : PV} : ∀ {fs : List (Nm × PV)} {fs' : List (Str × V)}, RFs K ρ N H fs fs' → lookN f fs = some w → ∃ v, fs'.lookup (toS f) = some v ∧ RW K ρ N H w v
  | _, _, .nil, h => by cases h
  | _, _, .cons (f := g) r t, h => by
    unfold lookN at h
    rw [List.lookup_cons, beq_toS]
    split at h
    · rename_i e
      cases h
      subst e
      exact ⟨_, by simp, r⟩
    · rename_i e
      have : ¬ f = g := fun z => e z.symm
      simp only [decide_eq_false this]
      exact look_some t h
theorem look_none {K : PySem.W.Frag} {ρ : Nat → Addr} {N : Nat} {H : Hp} {f : Nm} : ∀ {fs : List (Nm × PV)} {fs' : List (Str × V)}, RFs K ρ N H fs fs' → lookN f fs = none → fs'.lookup (toS f) = none
  | _, _, .nil, h => rfl
  | _, _, .cons (f := g) r t, h => by
    unfold lookN at h
    rw [List.lookup_cons, beq_toS]
    split at h
    · cases h
    · rename_i e
      have : ¬ f = g := fun z => e z.symm
      simp only [decide_eq_false this]
      exact look_none t h
theorem RFs.length {K : PySem.W.Frag} {ρ : Nat → Addr} {N : Nat} {H : Hp} : ∀ {fs : List (Nm × PV)} {fs' : List (Str × V)}, RFs K ρ N H fs fs' → fs.length = fs'.length
  | _, _, .nil => rfl
  | _, _, .cons _ t => by simp [RFs.length t]
def insAt (S : Sto) (w : PV) : Option (Nat × Nm × List (Nm × PV)) := match w with
  | .loc n => (match S[n]? with
    | some (.ins C fs) => some (n, C, fs)
    | _ => none)
  | _ => none
theorem insAt_get {S : Sto} {w : PV} {n : Nat} {C : Nm} {fs : List (Nm × PV)} (h : insAt S w = some (n, C, fs)) : w = .loc n ∧ S[n]? = some (.ins C fs) := by
  unfold insAt at h
  split at h
  · split at h
    · rename_i e; cases h; exact ⟨rfl, e⟩
    · cases h
  · cases h
theorem ins_of {K : PySem.W.Frag} {ρ : Nat → Addr} {H : Hp} {S : Sto} {w : PV} {v : V} {n : Nat} {D : Nm} {fs : List (Nm × PV)} (hS : RSt K ρ H S) (r : RW K ρ S.length H w v) (h : insAt S w = some (n, D, fs)) :
    v = .ref (ρ n) ∧ ∃ dx fs', H (ρ n) = some (.ins (He.ga K (toS D)) dx fs') ∧ RFs K ρ S.length H fs fs' := by
  obtain ⟨rfl, e⟩ := insAt_get h
  cases r
  exact ⟨rfl, hS.at_ _ _ e⟩
def eMeth (C m : Nm) (fn : MF) (dws : List PV) (o : ME) (args : MA) : ME := fun ls S => (o ls S).bind fun w S1 => match insAt S1 w with
  | some (_, D, fs) => if D = C then (match lookN m fs with
    | none => (args ls S1).bind fun ws S2 => fn (w :: (ws ++ dws)) S2
    | some _ => .bad) else .bad
  | none => .bad
def tMethD (C : Addr) (m : Str) (sp : Sp) (dvs : List V) (E : L2.St → XK) (ta : TE) (t : TA) : TE := fun σ H Q => ta σ H fun x H1 => ∃ a dx fs, x = .ref a ∧ H1 a = some (.ins C dx fs) ∧ fs.lookup m = none ∧
  t σ H1 fun vs H2 => sp (x :: (vs ++ dvs)) H2 Q (E σ)
theorem pe_methD {E : L2.St → XK} {sp : Sp} {ta : TE} {t : TA} {pl : Sem Bool} (he : PE X o ta) (c : Cls X.K C) (hm : Meth X.K C m f) (F : FnOk X.prog X.w X.K X.mg X.base (L2.CX X.prog X.w) k f fd ps sp) (hr : Room k X.A) (hb : Binds X.K fd ps ds) (hd : Vals dvs ds)
    (hx : ∀ σ, PassesAt (L2.CX X.prog X.w) X σ (E σ)) (ha : PA X (e :: es) t) (hst : starEach (e :: es) X.env = (false, eval e X.env) :: starEach es X.env := by rfl) (hpl : (backTo pos (starEach es X.env)).any (·.1) = false := by rfl)
    (ht : eval (.Call (.Attribute o m apos) (e :: es) [] pos) X.env = (do
      let ov ← eval o X.env
      standAt apos.atName
      let (f, first) ← holding [ov] (getMethod ov m pl)
      callWith pos f first (backTo pos (starEach (e :: es) X.env)) (backToKw pos (keywordEach [] X.env))) := by rfl) : PE X (.Call (.Attribute o m apos) (e :: es) [] pos) (tMethD C m sp dvs E ta t) := by
  constructor
  intro pins s σ H Q I h
  apply PySem.W.methodCall_KW (pl := pl) _ ht
  apply thn (he.run pins s σ H _ I h)
  rintro u s1 ⟨x, H1, I1, rx, a, dx, fs, rfl, ea, l, q⟩
  cases rx
  apply getmeth_ok I1 ea c hm l
  apply PySem.W.callWith_K (first := [.ref a]) (h₀ := X.base) I.ok.mod.kin hm.kp _ hst hpl
  apply thn (ha.run pos pins s1 σ H1 _ I1 q)
  rintro us s2 ⟨vs, H2, I2, r, q2⟩
  exact ⟨I2.kIn, run_fnSD (us := .ref a :: us) (vs := .ref a :: vs) F hr hb hd (hx σ) I2 (.cons rfl r) q2⟩
theorem pe_methD0 {E : L2.St → XK} {sp : Sp} {ta : TE} {pl : Sem Bool} (he : PE X o ta) (c : Cls X.K C) (hm : Meth X.K C m f) (F : FnOk X.prog X.w X.K X.mg X.base (L2.CX X.prog X.w) k f fd ps sp) (hr : Room k X.A) (hb : Binds X.K fd ps ds) (hd : Vals dvs ds)
    (hx : ∀ σ, PassesAt (L2.CX X.prog X.w) X σ (E σ))
    (ht : eval (.Call (.Attribute o m apos) [] [] pos) X.env = (do
      let ov ← eval o X.env
      standAt apos.atName
      let (f, first) ← holding [ov] (getMethod ov m pl)
      callWith pos f first (backTo pos (starEach [] X.env)) (backToKw pos (keywordEach [] X.env))) := by rfl) : PE X (.Call (.Attribute o m apos) [] [] pos) (tMethD C m sp dvs E ta tNil) := by
  constructor
  intro pins s σ H Q I h
  apply PySem.W.methodCall_KW (pl := pl) _ ht
  apply thn (he.run pins s σ H _ I h)
  rintro u s1 ⟨x, H1, I1, rx, a, dx, fs, rfl, ea, l, q⟩
  cases rx
  apply getmeth_ok I1 ea c hm l
  exact PySem.W.callWith_K0 (first := [.ref a]) I1.kIn hm.kp (run_fnSD (us := [.ref a]) (vs := [.ref a]) F hr hb hd (hx σ) I1 (.cons rfl .nil) q)
variable {cn mn : Nm}
theorem meth_in {σ : L2.St} {H : Hp} {Q : VK} {ta : TA} (g : GVals X.K dvs dws) (ha : ∀ σ H Q, tA X.K Wx ma σ H Q → ta σ H Q) (hC : C = He.ga X.K (toS cn)) (hmn : m = toS mn) (h : tE X.K Wx (eMeth cn mn (fnOf np N mb) dws mo ma) σ H Q) :
    tMethD C m (spI X.K np (fnOf np N mb)) dvs (WE Wx) (tE X.K Wx mo) ta σ H Q := by
  obtain ⟨ρ, S, ls, hS, hL, h⟩ := h
  refine ⟨ρ, S, ls, hS, hL, (Post.bind (R := RW) h).imp ?_⟩
  rintro x H1 ⟨ρ1, S1, w1, e1, hS1, r1, h1⟩
  split at h1
  · rename_i n D fs ei
    split at h1
    · rename_i eD
      subst eD
      split at h1
      · rename_i el
        obtain ⟨rfl, dx, fs', hH, rf⟩ := ins_of hS1 r1 ei
        refine ⟨_, dx, fs', rfl, by rw [hC]; exact hH, by rw [hmn]; exact look_none rf el, ha _ _ _ ⟨ρ1, S1, ls, hS1, hL.ext e1, (Post.bind (R := RWs) h1).imp ?_⟩⟩
        rintro vs H2 ⟨ρ2, S2, ws, e2, hS2, r2, h2⟩
        exact sp_in (σ := σ) (ws := w1 :: ws) (vs := _ :: vs) hS2 (.cons (r1.ext e2) r2) g h2
      · exact h1.elim
    · exact h1.elim
  · exact h1.elim
theorem ie_meth {pl : Sem Bool} (tk : Takes X Wx) (he : IE X Wx o mo) (hC : C = He.ga X.K (toS cn)) (c : Cls X.K C) (hm : Meth X.K C m f) (hmn : m = toS mn) (F : FI X.prog X.w X.K X.mg X.base k f fd ps (fnOf np N mb)) (hnp : ps.length = np) (hr : Room k X.A) (hb : Binds X.K fd ps ds) (hd : Vals dvs ds) (g : GVals X.K dvs dws)
    (ha : IA X Wx (e :: es) ma) (hst : starEach (e :: es) X.env = (false, eval e X.env) :: starEach es X.env := by rfl) (hpl : (backTo pos (starEach es X.env)).any (·.1) = false := by rfl)
    (ht : eval (.Call (.Attribute o m apos) (e :: es) [] pos) X.env = (do
      let ov ← eval o X.env
      standAt apos.atName
      let (f, first) ← holding [ov] (getMethod ov m pl)
      callWith pos f first (backTo pos (starEach (e :: es) X.env)) (backToKw pos (keywordEach [] X.env))) := by rfl) : IE X Wx (.Call (.Attribute o m apos) (e :: es) [] pos) (eMeth cn mn (fnOf np N mb) dws mo ma) :=
  PEi (pe_methD (E := WE Wx) he c hm F hr hb hd (passAt tk) ha hst hpl ht) fun σ H Q h => by rw [hnp]; exact meth_in g (fun _ _ _ q => q) hC hmn h
theorem ie_meth0 {pl : Sem Bool} (tk : Takes X Wx) (he : IE X Wx o mo) (hC : C = He.ga X.K (toS cn)) (c : Cls X.K C) (hm : Meth X.K C m f) (hmn : m = toS mn) (F : FI X.prog X.w X.K X.mg X.base k f fd ps (fnOf np N mb)) (hnp : ps.length = np) (hr : Room k X.A) (hb : Binds X.K fd ps ds) (hd : Vals dvs ds) (g : GVals X.K dvs dws)
    (ht : eval (.Call (.Attribute o m apos) [] [] pos) X.env = (do
      let ov ← eval o X.env
      standAt apos.atName
      let (f, first) ← holding [ov] (getMethod ov m pl)
      callWith pos f first (backTo pos (starEach [] X.env)) (backToKw pos (keywordEach [] X.env))) := by rfl) : IE X Wx (.Call (.Attribute o m apos) [] [] pos) (eMeth cn mn (fnOf np N mb) dws mo aNil) :=
  PEi (pe_methD0 (E := WE Wx) he c hm F hr hb hd (passAt tk) ht) fun σ H Q h => by
    rw [hnp]
    exact meth_in g (fun σ H Q ⟨ρ, S, ls, hS, hL, h⟩ => h ρ H _ .refl hS .nil) hC hmn h
def eMake (C : Nm) (fn : MF) (dws : List PV) (args : MA) : ME := fun ls S => (args ls S).bind fun ws S1 => (fn (.loc S1.length :: (ws ++ dws)) (S1 ++ [.ins C []])).bind fun r S2 => match r with
  | .non => .ok (.loc S1.length) S2
  | _ => .bad
def tMakeD (C : Addr) (sp : Sp) (dvs : List V) (E : L2.St → XK) (t : TA) : TE := fun σ H Q => t σ H fun vs H1 => ∀ x dx, H1 x = none → H1 dx = none → dx ≠ x →
  sp (.ref x :: (vs ++ dvs)) (upd (upd H1 dx (.own x)) x (.ins C dx [])) (fun v H2 => v = .non ∧ Q (.ref x) H2) (E σ)
theorem run_makeD {pins : List (Addr × Obj)} {σ : L2.St} {H : Hp} {s : Shared} {Q : VK} {us : List Value} {vs : List V} {sp : Sp} {E : L2.St → XK} (M : Mk X.K C f) (F : FnOk X.prog X.w X.K X.mg X.base (L2.CX X.prog X.w) k f fd ps sp) (hr : Room (k + 1) X.A) (hb : Binds X.K fd ps ds) (hd : Vals dvs ds)
    (hx : ∀ σ, PassesAt (L2.CX X.prog X.w) X σ (E σ)) (I : Inv X pins σ H s) (r : Vals vs us)
    (h : ∀ x dx, H x = none → H dx = none → dx ≠ x → sp (.ref x :: (vs ++ dvs)) (upd (upd H dx (.own x)) x (.ins C dx [])) (fun v H2 => v = .non ∧ Q (.ref x) H2) (E σ)) :
    wpAny (model X.prog X.w) X.A (call (.ref C) us) (EP X pins σ Q) X.xe s := by
  let n := s.heap.objs.size
  have q := h (n + 1) n (I.hok.fresh (Nat.le_succ n)) I.fresh (Nat.ne_of_lt (Nat.lt_succ_self n))
  have J := Inv.made (C := C) I
  have rr : Vals (V.ref (n + 1) :: (vs ++ dvs)) (Value.ref (n + 1) :: (us ++ ds)) := .cons rfl (r.append hd)
  have len := F.len _ _ _ _ q
  rw [rr.length] at len
  apply wpAny_call
  apply make_map (f := f) I.kIn M.makes M.init (beq_iff_eq.mp M.fn)
  have run := F.run _ X.stack _ _ ⟨Value.ref (n + 1) :: us, []⟩ _ _ _ (E σ) (hr.make C us []) (J.env0.make C us []) (hb _ (Value.ref (n + 1) :: us) J.kIn len) rr q
  apply codeAny_mono run
  intro res s' hq
  match res, hq with
  | .error e, hq => exact hx σ pins _ _ e s' J hq
  | .ok (.ret u), hq =>
    obtain ⟨v, H', I3, rv, rfl, q3⟩ := J.after hq
    exact ⟨rv, V.ref (n + 1), H', I3, rfl, q3⟩
theorem pe_makeD {E : L2.St → XK} {sp : Sp} {t : TA} (M : Mk X.K C f) (F : FnOk X.prog X.w X.K X.mg X.base (L2.CX X.prog X.w) k f fd ps sp) (hr : Room (k + 1) X.A) (hg : Gl X x) (hm : X.mg x = some (.ref C)) (hb : Binds X.K fd ps ds) (hd : Vals dvs ds) (hx : ∀ σ, PassesAt (L2.CX X.prog X.w) X σ (E σ))
    (ha : PA X (e :: es) t) (hdb : (x == ("__debug__" : Str)) = false := by decide) (he : starEach (e :: es) X.env = (false, eval e X.env) :: starEach es X.env := by rfl) (hpl : (backTo pos (starEach es X.env)).any (·.1) = false := by rfl) :
    PE X (.Call (.Name x p) (e :: es) [] pos) (tMakeD C sp dvs E t) := by
  constructor
  intro pins s σ H Q I h
  apply wpAny_Call_Name_kw
  apply ld_glob I hg hm _ hdb
  apply PySem.W.callWith_K (h₀ := X.base) I.ok.mod.kin M.kp _ he hpl
  apply thn (ha.run pos pins s σ H _ I h)
  rintro us s1 ⟨vs, H1, I1, r, q⟩
  exact ⟨I1.kIn, run_makeD M F hr hb hd hx I1 r q⟩
theorem pe_makeD0 {E : L2.St → XK} {sp : Sp} (M : Mk X.K C f) (F : FnOk X.prog X.w X.K X.mg X.base (L2.CX X.prog X.w) k f fd ps sp) (hr : Room (k + 1) X.A) (hg : Gl X x) (hm : X.mg x = some (.ref C)) (hb : Binds X.K fd ps ds) (hd : Vals dvs ds) (hx : ∀ σ, PassesAt (L2.CX X.prog X.w) X σ (E σ))
    (hdb : (x == ("__debug__" : Str)) = false := by decide) : PE X (.Call (.Name x p) [] [] pos) (tMakeD C sp dvs E tNil) := by
  constructor
  intro pins s σ H Q I h
  apply wpAny_Call_Name_kw
  apply ld_glob I hg hm _ hdb
  exact PySem.W.callWith_K0 I.kIn M.kp (run_makeD (us := []) M F hr hb hd hx I .nil h)
theorem make_in {σ : L2.St} {H : Hp} {Q : VK} {ta : TA} (g : GVals X.K dvs dws) (ha : ∀ σ H Q, tA X.K Wx ma σ H Q → ta σ H Q) (hC : C = He.ga X.K (toS cn)) (h : tE X.K Wx (eMake cn (fnOf np N mb) dws ma) σ H Q) :
    tMakeD C (spI X.K np (fnOf np N mb)) dvs (WE Wx) ta σ H Q := by
  obtain ⟨ρ, S, ls, hS, hL, h⟩ := h
  refine ha _ _ _ ⟨ρ, S, ls, hS, hL, (Post.bind (R := RWs) h).imp ?_⟩
  rintro vs H1 ⟨ρ1, S1, ws, e1, hS1, r1, h1⟩ x dx hx hdx hne
  have e2 : Ext X.K ρ1 S1.length H1 ρ1 S1.length (upd H1 dx (.own x)) := ext_keep hdx
  have hx2 : (upd H1 dx (.own x)) x = none := by rw [upd_ne (Ne.symm hne)]; exact hx
  have e3 : Ext X.K ρ1 S1.length (upd H1 dx (.own x)) (grow ρ1 S1.length x) (S1 ++ [OB.ins cn []]).length (upd (upd H1 dx (.own x)) x (.ins C dx [])) := by
    rw [List.length_append, List.length_singleton]; exact ext_new hx2
  have s3 : RSt X.K (grow ρ1 S1.length x) (upd (upd H1 dx (.own x)) x (.ins C dx [])) (S1 ++ [OB.ins cn []]) := (hS1.keep hdx).new (o := .ins cn []) hx2 rfl ⟨dx, [], by rw [upd_same, hC], .nil⟩
  have rx : RW X.K (grow ρ1 S1.length x) (S1 ++ [OB.ins cn []]).length (upd (upd H1 dx (.own x)) x (.ins C dx [])) (.loc S1.length) (.ref x) := by
    have q : RW X.K (grow ρ1 S1.length x) (S1 ++ [OB.ins cn []]).length (upd (upd H1 dx (.own x)) x (.ins C dx [])) (.loc S1.length) (.ref (grow ρ1 S1.length x S1.length)) := .loc _ (by rw [List.length_append, List.length_singleton]; exact Nat.lt_succ_self _)
    rw [grow_new] at q
    exact q
  refine sp_in (σ := σ) (ws := .loc S1.length :: ws) (vs := .ref x :: vs) s3 (.cons rx ((r1.ext e2).ext e3)) g ((Post.bind (R := RW) (Post.ext (e2.trans e3) h1)).imp ?_)
  rintro v H4 ⟨ρ4, S4, w4, e4, hS4, r4, h4⟩
  split at h4
  · cases r4
    exact ⟨rfl, h4 ρ4 H4 _ .refl hS4 (rx.ext e4)⟩
  · exact h4.elim
theorem ie_make (tk : Takes X Wx) (M : Mk X.K C f) (hC : C = He.ga X.K (toS cn)) (F : FI X.prog X.w X.K X.mg X.base k f fd ps (fnOf np N mb)) (hnp : ps.length = np) (hr : Room (k + 1) X.A) (hm : X.mg x = some (.ref C)) (hb : Binds X.K fd ps ds) (hd : Vals dvs ds) (g : GVals X.K dvs dws)
    (ha : IA X Wx (e :: es) ma) (hg : Gl X x := by rfl) (hdb : (x == ("__debug__" : Str)) = false := by decide) (he : starEach (e :: es) X.env = (false, eval e X.env) :: starEach es X.env := by rfl) (hpl : (backTo pos (starEach es X.env)).any (·.1) = false := by rfl) :
    IE X Wx (.Call (.Name x p) (e :: es) [] pos) (eMake cn (fnOf np N mb) dws ma) :=
  PEi (pe_makeD (E := WE Wx) M F hr hg hm hb hd (passAt tk) ha hdb he hpl) fun σ H Q h => by rw [hnp]; exact make_in g (fun _ _ _ q => q) hC h
theorem ie_make0 (tk : Takes X Wx) (M : Mk X.K C f) (hC : C = He.ga X.K (toS cn)) (F : FI X.prog X.w X.K X.mg X.base k f fd ps (fnOf np N mb)) (hnp : ps.length = np) (hr : Room (k + 1) X.A) (hm : X.mg x = some (.ref C)) (hb : Binds X.K fd ps ds) (hd : Vals dvs ds) (g : GVals X.K dvs dws)
    (hg : Gl X x := by rfl) (hdb : (x == ("__debug__" : Str)) = false := by decide) : IE X Wx (.Call (.Name x p) [] [] pos) (eMake cn (fnOf np N mb) dws aNil) :=
  PEi (pe_makeD0 (E := WE Wx) M F hr hg hm hb hd (passAt tk) hdb) fun σ H Q h => by
    rw [hnp]
    exact make_in g (fun σ H Q ⟨ρ, S, ls, hS, hL, h⟩ => h ρ H _ .refl hS .nil) hC h
def Atts (K : PySem.W.Frag) (tab : Nm → Nm → Bool) : Prop := ∀ C f, tab C f = true → Cls K (He.ga K (toS C)) ∧ NoAttr K (He.ga K (toS C)) (toS f)
def eFld (tab : Nm → Nm → Bool) (f : Nm) (o : ME) : ME := fun ls S => (o ls S).bind fun w S1 => match insAt S1 w with
  | some (_, C, fs) => if tab C f = true then (match lookN f fs with
    | some v => .ok v S1
    | none => .bad) else .bad
  | none => .bad
variable {tab : Nm → Nm → Bool} {fl : Nm} {fs : Str}
theorem ie_fld (T : Atts X.K tab) (he : IE X Wx o mo) (hf : fs = toS fl) (hb : attributeBase o fs X.env (eval o X.env) = eval o X.env := by rfl) : IE X Wx (.Attribute o fs pos) (eFld tab fl mo) :=
  PEi (pe_fld he hb) fun σ H Q ⟨ρ, S, ls, hS, hL, h⟩ => ⟨ρ, S, ls, hS, hL, (Post.bind (R := RW) h).imp fun x H1 ⟨ρ1, S1, w1, e1, hS1, r1, h1⟩ => by
    split at h1
    · rename_i n D gs ei
      split at h1
      · rename_i et
        split at h1
        · rename_i v el
          obtain ⟨rfl, dx, fs', hH, rf⟩ := ins_of hS1 r1 ei
          obtain ⟨c, na⟩ := T _ _ et
          obtain ⟨u, hu, ru⟩ := look_some rf el
          subst hf
          exact ⟨_, _, dx, fs', u, rfl, hH, c, na, hu, h1 ρ1 H1 u .refl hS1 ru⟩
        · exact h1.elim
      · exact h1.elim
    · exact h1.elim⟩
def sFldM (tab : Nm → Nm → Bool) (f : Nm) (o v : ME) : MS := fun ls S => (v ls S).then ls fun y S1 => (o ls S1).then ls fun w S2 => match insAt S2 w with
  | some (n, C, fs) => if tab C f && decide (fs.length < 1000) then .nx ls (S2.set n (.ins C (putN f y fs))) else .bad
  | none => .bad
theorem put_rel {K : PySem.W.Frag} {ρ : Nat → Addr} {N : Nat} {H : Hp} {f : Nm} {w : PV} {v : V} (q : RW K ρ N H w v) : ∀ {fs : List (Nm × PV)} {fs' : List (Str × V)}, RFs K ρ N H fs fs' → RFs K ρ N H (putN f w fs) (putF (toS f) v fs')
  | _, _, .nil => .cons q .nil
  | _, _, .cons (f := g) (v := u) (r' := r') r t => by
    unfold putN
    show RFs K ρ N H _ (if toS g = toS f then (toS g, v) :: r' else (toS g, u) :: putF (toS f) v r')
    by_cases e : g = f
    · subst e
      rw [if_pos rfl, if_pos rfl]; exact .cons q t
    · rw [if_neg e, if_neg fun z => e (toS_inj z)]; exact .cons r (put_rel q t)
theorem is_fld {val : Expr} {mv : ME} {pos' : Pos} (T : Atts X.K tab) (ho : IE X Wx o mo) (hv : IE X Wx val mv) (hf : fs = toS fl) (hs : swapsWith val (some (.Attribute o fs pos')) pos.line X.env = pure false := by rfl) :
    IS X Wx (.Assign [.Attribute o fs pos'] val pos) (sFldM tab fl mo mv) :=
  PSi (ps_fld ho hv hs) fun D σ H ⟨ρ, S, ls, hS, hL, h⟩ => ⟨ρ, S, ls, hS, hL, (Post.then (R := RW) hL h).imp fun y H1 ⟨ρ1, S1, wy, e1, hS1, r1, h1⟩ =>
    ⟨ρ1, S1, ls, hS1, hL.ext e1, (Post.then (R := RW) (hL.ext e1) h1).imp fun x H2 ⟨ρ2, S2, w2, e2, hS2, r2, h2⟩ => by
      split at h2
      · rename_i n D' gs ei
        split at h2
        · rename_i et
          rw [Bool.and_eq_true] at et
          obtain ⟨rfl, dx, fs', hH, rf⟩ := ins_of hS2 r2 ei
          obtain ⟨rfl, eg⟩ := insAt_get ei
          obtain ⟨c, na⟩ := T _ _ et.1
          subst hf
          refine ⟨_, _, dx, fs', rfl, hH, c, na, by rw [← rf.length]; exact of_decide_eq_true et.2, ?_⟩
          have ee : Ext X.K ρ2 S2.length H2 ρ2 S2.length (upd H2 (ρ2 n) (.ins (He.ga X.K (toS D')) dx (putF (toS fl) y fs'))) := ext_upd hH trivial
          refine h2 ρ2 _ σ (by rw [List.length_set]; exact ee) (hS2.set eg rfl rfl ⟨dx, _, upd_same, put_rel ((r1.ext e2).ext ee) (rf.ext ee)⟩) (by rw [List.length_set]; exact ((hL.ext e1).ext e2).ext ee)
        · exact h2.elim
      · exact h2.elim⟩⟩
end
end GL
set_option Elab.async false
set_option linter.all false
set_option maxRecDepth 100000
set_option maxHeartbeats 1000000
namespace GL
open PySem PySem.Spec PyProof.Rows L2
def gIx : PV → PV → Sto → Out PV := fun a b S => match a, b with
  | .tup xs, .int i => (match atI xs i with
    | some v => .ok v S
    | none => .bad)
  | .loc n, .int i => (match seqAt S n with
    | some xs => (match atI xs i with
      | some v => .ok v S
      | none => .bad)
    | none => .bad)
  | .str s, .int i => if s.length ≤ lim then (match atI s i with
    | some c => .ok (.str [c]) S
    | none => .bad) else .bad
  | _, _ => .bad
section
variable {K : PySem.W.Frag} {ρ : Nat → Addr} {N : Nat} {H : Hp}
theorem RWs.at {ws : List PV} {vs : List V} (t : RWs K ρ N H ws vs) {i : Int} {w : PV} (h : atI ws i = some w) : ∃ v, atI vs i = some v ∧ RW K ρ N H w v := by
  unfold atI at h ⊢
  rw [t.length] at h
  cases e : ixN vs.length i with
  | none => rw [e] at h; cases h
  | some j =>
    rw [e] at h
    exact t.get h
end
section
variable {X : Cx} {Wx : WX} {pos : Pos} {a b e o : Expr} {ma mb me mo : ME}
theorem oi_ix : OpI X Wx (rIx X.K) gIx := by
  intro ρ S H w1 w2 x y Ex Q hS r1 r2 h
  unfold gIx at h
  split at h
  · split at h
    · rename_i v ev
      cases r1 with
      | tup s t =>
        obtain ⟨u, hu, ru⟩ := t.at ev
        cases r2
        exact .inr (.inl ⟨_, _, _, u, rfl, rfl, s, hu, h.here hS ru⟩)
    · exact h.elim
  · split at h
    · split at h
      · rename_i xs exs _ v ev
        cases r1; cases r2
        obtain ⟨vs, s, t⟩ := seq_of hS exs
        obtain ⟨u, hu, ru⟩ := t.at ev
        exact .inl ⟨_, _, _, u, rfl, rfl, s, hu, h.here hS ru⟩
      · exact h.elim
    · exact h.elim
  · split at h
    · split at h
      · rename_i hz _ c ec
        cases r1; cases r2
        rw [str_len] at hz
        exact .inr (.inr ⟨_, _, c, rfl, rfl, lim_sz hz, ec, h.here hS (.str ⟨#[c]⟩)⟩)
      · exact h.elim
    · exact h.elim
  · exact h.elim
theorem ie_ix (ha : IE X Wx a ma) (hb : IE X Wx b mb) (hs : PlainIx b := by exact fun _ _ => rfl) : IE X Wx (.Subscript a b pos) (eOp gIx ma mb) :=
  PEi (pe_ix ix_seq ha hb hs) fun σ H Q h => bin_in oi_ix h
abbrev MO := Ls → Sto → Out (Option Int)
abbrev ROI : RelF (Option Int) (Option Int) := fun _ _ _ _ a b => a = b
def tO (K : PySem.W.Frag) (Wx : WX) (m : MO) : TO := fun σ H Q => ∃ ρ S ls, RSt K ρ H S ∧ RL K ρ S.length H ls σ ∧ Post ROI K ρ S.length H (fun c d H' => Wx c d σ H') (m ls S) Q
abbrev IO (X : Cx) (Wx : WX) (e : Option Expr) (m : MO) : Prop := PO X e (tO X.K Wx m)
theorem POi {e : Option Expr} {t t' : TO} (h : PO X e t) (i : ∀ σ H Q, t' σ H Q → t σ H Q) : PO X e t' := ⟨fun pins s σ H Q I hw => h.run pins s σ H Q I (i _ _ _ hw)⟩
def oNo : MO := fun _ S => .ok none S
def oYes (m : ME) : MO := fun ls S => (m ls S).bind fun w S1 => match w with
  | .int i => .ok (some i) S1
  | _ => .bad
theorem io_none : IO X Wx none oNo := POi po_none fun σ H Q ⟨ρ, S, ls, hS, hL, h⟩ => h ρ H none .refl hS rfl
theorem io_some (h : IE X Wx e me) : IO X Wx (some e) (oYes me) := POi (po_some h) fun σ H Q ⟨ρ, S, ls, hS, hL, h⟩ => ⟨ρ, S, ls, hS, hL, (Post.bind (R := RW) h).imp fun x H1 ⟨ρ1, S1, w1, e1, hS1, r1, h1⟩ => by
  split at h1
  · cases r1
    exact ⟨_, rfl, h1 ρ1 H1 _ .refl hS1 rfl⟩
  · exact h1.elim⟩
def cutP {α : Type} (xs : List α) (lo hi : Option Int) : List α := (xs.drop (HT.sIx xs.length 0 lo)).take (HT.sIx xs.length xs.length hi - HT.sIx xs.length 0 lo)
def gSl : PV → Option Int → Option Int → Sto → Out PV := fun a lo hi S => match a with
  | .tup xs => .ok (.tup (cutP xs lo hi)) S
  | .loc n => (match seqAt S n with
    | some xs => .ok (.loc S.length) (S ++ [.lst (cutP xs lo hi)])
    | none => .bad)
  | .str s => if s.length ≤ lim then .ok (.str (cutP s lo hi)) S else .bad
  | _ => .bad
def eSl (o : ME) (lo hi : MO) : ME := fun ls S => (o ls S).bind fun w S1 => (lo ls S1).bind fun l S2 => (hi ls S2).bind fun h S3 => gSl w l h S3
theorem RWs.cut {K : PySem.W.Frag} {ρ : Nat → Addr} {N : Nat} {H : Hp} {ws : List PV} {vs : List V} (t : RWs K ρ N H ws vs) (lo hi : Option Int) : RWs K ρ N H (cutP ws lo hi) (cutV vs lo hi) := by
  unfold cutP cutV
  rw [t.length]
  exact (t.drop _).take _
theorem RWs.cut_whole {K : PySem.W.Frag} {ρ : Nat → Addr} {N : Nat} {H : Hp} {ws : List PV} {vs : List V} (t : RWs K ρ N H ws vs) {l u : Option Int} (whole : HT.sIx vs.length 0 l = 0 ∧ HT.sIx vs.length vs.length u = vs.length) : cutP ws l u = ws := by
  unfold cutP
  rw [t.length, whole.1, whole.2, ← t.length]
  simp
def rSlM (K : PySem.W.Frag) : V → Option Int → Option Int → Hp → VK → Prop := fun x lo hi H Q => rSlA K x lo hi H Q ∨ rSlL K x lo hi H Q ∨ rSlS x lo hi H Q
theorem sl_M : SlR X (rSlM X.K) := sl_tupA.or (sl_list.or sl_str)
theorem ie_sl {lo hi : Option Expr} {ml mh : MO} {p2 : Pos} (ho : IE X Wx o mo) (hl : IO X Wx lo ml) (hh : IO X Wx hi mh) : IE X Wx (.Subscript o (.Slice lo hi none p2) pos) (eSl mo ml mh) :=
  PEi (pe_slice sl_M ho hl hh) fun σ H Q ⟨ρ, S, ls, hS, hL, h⟩ => ⟨ρ, S, ls, hS, hL, (Post.bind (R := RW) h).imp fun x H1 ⟨ρ1, S1, w1, e1, hS1, r1, h1⟩ =>
    ⟨ρ1, S1, ls, hS1, hL.ext e1, (Post.bind (R := ROI) h1).imp fun l H2 ⟨ρ2, S2, l2, e2, hS2, q2, h2⟩ =>
      ⟨ρ2, S2, ls, hS2, (hL.ext e1).ext e2, (Post.bind (R := ROI) h2).imp fun u H3 ⟨ρ3, S3, u3, e3, hS3, q3, h3⟩ => by
        cases q2; cases q3
        have r1 := (r1.ext e2).ext e3
        unfold gSl at h3
        split at h3
        · cases r1 with
          | tup s t =>
            refine .inl ⟨_, _, rfl, s, fun whole => ?_, fun _ => mk_tup hS3 (t.cut l u) h3⟩
            rw [t.cut_whole whole] at h3
            exact h3.here hS3 (.tup s t)
        · split at h3
          · rename_i xs ex
            cases r1
            obtain ⟨vs, s, t⟩ := seq_of hS3 ex
            exact .inr (.inl ⟨_, _, rfl, s, mk_lst hS3 (t.cut l u) h3⟩)
          · exact h3.elim
        · split at h3
          · rename_i hz
            cases r1 with
            | str z =>
              rw [str_len] at hz
              refine .inr (.inr ⟨_, rfl, lim_sz hz, h3.here hS3 ?_⟩)
              have : cutP z.cps.toList l u = (cutS z l u).cps.toList := by
                unfold cutP cutS
                simp [Str.length]
              rw [this]; exact .str _
          · exact h3.elim
        · exact h3.elim⟩⟩⟩
def CallI (X : Cx) (r : List V → Hp → VK → Prop) (g : MF) : Prop :=
  ∀ (ρ : Nat → Addr) (S : Sto) (H : Hp) (ws : List PV) (vs : List V) (Ex : XK) (Q : VK), RSt X.K ρ H S → RWs X.K ρ S.length H ws vs → Post RW X.K ρ S.length H Ex (g ws S) Q → r vs H Q
def eB (g : MF) (args : MA) : ME := fun ls S => (args ls S).bind fun ws S1 => g ws S1
variable {x : Str} {p : Pos} {es : List Expr} {mr : MA} {id T : String} {r : List V → Hp → VK → Prop} {g : MF}
theorem callB_in {σ : L2.St} {H : Hp} {Q : VK} (hi : CallI X r g) (h : tE X.K Wx (eB g mr) σ H Q) : tCB r (tA X.K Wx mr) σ H Q := by
  obtain ⟨ρ, S, ls, hS, hL, h⟩ := h
  exact ⟨ρ, S, ls, hS, hL, (Post.bind (R := RWs) h).imp fun vs H1 ⟨ρ1, S1, ws, e1, hS1, r1, h1⟩ => hi ρ1 S1 H1 ws vs _ Q hS1 r1 h1⟩
theorem ie_B (hc : CallR X (.builtin id) r) (hi : CallI X r g) (hm : X.mg x = none) (hv : bootBuiltins x = some (.builtin id)) (ha : IA X Wx (e :: es) mr) (hg : Gl X x := by rfl) (hn : x ≠ "__name__" := by decide) (hdb : (x == ("__debug__" : Str)) = false := by decide)
    (he : starEach (e :: es) X.env = (false, eval e X.env) :: starEach es X.env := by rfl) (hpl : (backTo pos (starEach es X.env)).any (·.1) = false := by rfl) : IE X Wx (.Call (.Name x p) (e :: es) [] pos) (eB g mr) :=
  PEi (pe_callB hc hg hm hv ha hn hdb he hpl) fun σ H Q h => callB_in hi h
theorem ie_BT (hc : CallR X (.type T) r) (hi : CallI X r g) (hm : X.mg x = none) (hv : bootBuiltins x = some (.type T)) (ha : IA X Wx (e :: es) mr) (hg : Gl X x := by rfl) (hn : x ≠ "__name__" := by decide) (hdb : (x == ("__debug__" : Str)) = false := by decide)
    (he : starEach (e :: es) X.env = (false, eval e X.env) :: starEach es X.env := by rfl) (hpl : (backTo pos (starEach es X.env)).any (·.1) = false := by rfl) : IE X Wx (.Call (.Name x p) (e :: es) [] pos) (eB g mr) :=
  PEi (pe_callTy hc hg hm hv ha hn hdb he hpl) fun σ H Q h => callB_in hi h
def fInt : MF := fun ws S => match ws with
  | [.int i] => .ok (.int i) S
  | [.bl k] => .ok (.int (if k then 1 else 0)) S
  | _ => .bad
theorem ci_int : CallI X (fun xs H Q => (∃ i, xs = [.int i] ∧ Q (.int i) H) ∨ ∃ k, xs = [.bl k] ∧ Q (.int (if k then 1 else 0)) H) fInt := by
  intro ρ S H ws vs Ex Q hS r h
  unfold fInt at h
  split at h
  · cases r with | cons r t => cases t; cases r; exact .inl ⟨_, rfl, h.here hS (.int _)⟩
  · cases r with | cons r t => cases t; cases r; exact .inr ⟨_, rfl, h.here hS (.int _)⟩
  · exact h.elim
def fAbs : MF := fun ws S => match ws with
  | [.int i] => .ok (.int (if i < 0 then -i else i)) S
  | _ => .bad
theorem ci_abs : CallI X (fun xs H Q => ∃ i, xs = [.int i] ∧ Q (.int (if i < 0 then -i else i)) H) fAbs := by
  intro ρ S H ws vs Ex Q hS r h
  unfold fAbs at h
  split at h
  · cases r with | cons r t => cases t; cases r; exact ⟨_, rfl, h.here hS (.int _)⟩
  · exact h.elim
def fLen : MF := fun ws S => match ws with
  | [.tup xs] => .ok (.int xs.length) S
  | [.str s] => if s.length ≤ lim then .ok (.int s.length) S else .bad
  | [.loc n] => (match seqAt S n with
    | some xs => .ok (.int xs.length) S
    | none => .bad)
  | _ => .bad
theorem ci_len : CallI X (fun xs H Q => ∃ x n, xs = [x] ∧ LenV X.K x H n ∧ Q (.int n) H) fLen := by
  intro ρ S H ws vs Ex Q hS r h
  unfold fLen at h
  split at h
  · cases r with
    | cons r t => cases t; cases r with
      | tup s t => exact ⟨_, _, rfl, .inr ⟨_, s, rfl⟩, h.here hS (by rw [t.length]; exact .int _)⟩
  · split at h
    · rename_i hz
      cases r with
      | cons r t => cases t; cases r with
        | str z =>
          rw [str_len] at hz h
          exact ⟨_, _, rfl, ⟨lim_sz hz, rfl⟩, h.here hS (.int _)⟩
    · exact h.elim
  · split at h
    · rename_i xs ex
      obtain ⟨vs, s, t⟩ := seq_of hS ex
      cases r with
      | cons r t' => cases t'; cases r; exact ⟨_, _, rfl, .inl ⟨_, s, rfl⟩, h.here hS (by rw [t.length]; exact .int _)⟩
    · exact h.elim
  · exact h.elim
def fList : MF := fun ws S => match ws with
  | [.tup xs] => .ok (.loc S.length) (S ++ [.lst xs])
  | [.loc n] => (match seqAt S n with
    | some xs => .ok (.loc S.length) (S ++ [.lst xs])
    | none => .bad)
  | _ => .bad
theorem ci_list : CallI X (fun xs H Q => ∃ p ys, xs = [.ref p] ∧ (SqL X.K H p ys ∨ SqT X.K H p ys) ∧ ∀ l, H l = none → Q (.ref l) (upd H l (.lst ys))) fList := by
  intro ρ S H ws vs Ex Q hS r h
  unfold fList at h
  split at h
  · cases r with
    | cons r t => cases t; cases r with
      | tup s t => exact ⟨_, _, rfl, .inr s, mk_lst hS t h⟩
  · split at h
    · rename_i xs ex
      obtain ⟨vs, s, t⟩ := seq_of hS ex
      cases r with
      | cons r t' => cases t'; cases r; exact ⟨_, _, rfl, .inl s, mk_lst hS t h⟩
    · exact h.elim
  · exact h.elim
def fTuple : MF := fun ws S => match ws with
  | [.tup xs] => .ok (.tup xs) S
  | [.loc n] => (match seqAt S n with
    | some xs => .ok (.tup xs) S
    | none => .bad)
  | _ => .bad
theorem ci_tuple : CallI X (fun xs H Q => ∃ p ys, xs = [.ref p] ∧ ((SqL X.K H p ys ∧ ∀ l, H l = none → Q (.ref l) (upd H l (.tup ys))) ∨ (SqT X.K H p ys ∧ Q (.ref p) H))) fTuple := by
  intro ρ S H ws vs Ex Q hS r h
  unfold fTuple at h
  split at h
  · cases r with
    | cons r t => cases t; cases r with
      | tup s t => exact ⟨_, _, rfl, .inr ⟨s, h.here hS (.tup s t)⟩⟩
  · split at h
    · rename_i xs ex
      obtain ⟨vs, s, t⟩ := seq_of hS ex
      cases r with
      | cons r t' => cases t'; cases r; exact ⟨_, _, rfl, .inl ⟨s, mk_tup hS t h⟩⟩
    · exact h.elim
  · exact h.elim
def tyP (S : Sto) : PV → Option BT
  | .non => some .none
  | .bl _ => some .bool
  | .int _ => some .int
  | .str _ => some .str
  | .tup _ => some .tuple
  | .loc n => (match S[n]? with
    | some (.lst _) => some .list
    | some (.rol _) => some .list
    | some (.dct _) => some .dict
    | some (.fdct _) => some .dict
    | _ => none)
  | _ => none
def isB : BT → BT → Bool
  | .bool, .int => true
  | a, b => decide (a = b)
theorem kit_is : ∀ a b : BT, b ≠ .none → kitB a.name b.name = some (isB a b) := by
  intro a b hb
  cases a <;> cases b <;> first | (exact absurd rfl hb) | (decide +kernel)
theorem tyX_of {K : PySem.W.Frag} {ρ : Nat → Addr} {H : Hp} {S : Sto} (hS : RSt K ρ H S) {w : PV} {v : V} {t : BT} (r : RW K ρ S.length H w v) (h : tyP S w = some t) : TyX K H v (.type t.name) := by
  cases r with
  | non => cases h; exact .base .non
  | bl b => cases h; exact .base (.bl b)
  | int i => cases h; exact .base (.int i)
  | str x => cases h; exact .base (.str x)
  | tup s _ =>
    cases h
    rcases s with (s | ⟨o, s⟩) | ⟨o, its, n, hk, hc, _⟩
    · exact .base (.tup s)
    · exact .fTuple s
    · exact .kTuple hk hc
  | gl x => cases h
  | ty n => cases h
  | xn _ _ _ => cases h
  | loc n hn =>
    unfold tyP at h
    dsimp only at h
    split at h
    · rename_i e; cases h
      obtain ⟨vs, a, _⟩ := hS.at_ _ _ e
      exact .base (.lst a)
    · rename_i e; cases h
      obtain ⟨vs, a, _⟩ := hS.at_ _ _ e
      rcases a with ⟨o, a⟩ | ⟨o, its, n, hk, hc, _⟩
      · exact .base (.frz a)
      · exact .kList hk hc
    · rename_i e; cases h
      obtain ⟨vs, a, _⟩ := hS.at_ _ _ e
      exact .base (.dK a)
    · rename_i e; cases h
      obtain ⟨o, vs, a, _⟩ := hS.at_ _ _ e
      exact .fDict a
    · cases h
def fIsi : MF := fun ws S => match ws with
  | [w, .ty b] => if b = .none then .bad else (match tyP S w with
    | some t => .ok (.bl (isB t b)) S
    | none => .bad)
  | _ => .bad
theorem ci_isi : CallI X (rIsi X.K) fIsi := by
  intro ρ S H ws vs Ex Q hS r h
  unfold fIsi at h
  split at h
  · split at h
    · exact h.elim
    · rename_i hb
      split at h
      · rename_i t et
        cases r with
        | cons r1 t => cases t with
          | cons r2 t =>
            cases t; cases r2
            exact ⟨_, _, _, _, _, rfl, .ty _, tyX_of hS r1 et, kit_ty (kit_is _ _ hb), h.here hS (.bl _)⟩
      · exact h.elim
  · exact h.elim
theorem ie_ty {t : BT} (hm : X.mg x = none) (hv : bootBuiltins x = some (.type t.name)) (hg : Gl X x := by rfl) (hn : x ≠ "__name__" := by decide) (hdb : (x == ("__debug__" : Str)) = false := by decide) : IE X Wx (.Name x p) (eC (.ty t)) :=
  PEi (pe_bltn (v := .ty t.name) hg hm hv rfl hn hdb) fun σ H Q ⟨ρ, S, ls, hS, hL, h⟩ => h ρ H _ .refl hS (.ty _)
def MtI (X : Cx) (r : V → List V → Hp → VK → Prop) (g : PV → MF) : Prop :=
  ∀ (ρ : Nat → Addr) (S : Sto) (H : Hp) (w : PV) (ws : List PV) (v : V) (vs : List V) (Ex : XK) (Q : VK), RSt X.K ρ H S → RW X.K ρ S.length H w v → RWs X.K ρ S.length H ws vs → Post RW X.K ρ S.length H Ex (g w ws S) Q → r v vs H Q
def eMt (chk : PV → Sto → Bool) (g : PV → MF) (o : ME) (args : MA) : ME := fun ls S => (o ls S).bind fun w S1 => if chk w S1 = true then (args ls S1).bind fun ws S2 => g w ws S2 else .bad
def kList : PV → Sto → Bool := fun w S => match w with
  | .loc n => (seqAt S n).isSome
  | _ => false
def ChkT (X : Cx) (T : String) (chk : PV → Sto → Bool) : Prop := ∀ (ρ : Nat → Addr) (S : Sto) (H : Hp) (w : PV) (v : V), RSt X.K ρ H S → RW X.K ρ S.length H w v → chk w S = true → tyV X.K T v H
theorem chk_list : ChkT X "list" kList := by
  intro ρ S H w v hS r h
  unfold kList at h
  split at h
  · rename_i n
    cases e : seqAt S n with
    | none => rw [e] at h; cases h
    | some xs =>
      obtain ⟨vs, s, _⟩ := seq_of hS e
      cases r
      exact .inl ⟨rfl, _, s⟩
  · cases h
variable {name : Str} {apos cpos : Pos} {rm : V → List V → Hp → VK → Prop} {gm : PV → MF} {chk : PV → Sto → Bool}
theorem ie_mt (pa : PlainAttrs T) (slot : Slot T name id) (hty : typeOf (.builtin id) = pure (.type "method_descriptor")) (hm : MtR X id rm) (hk : ChkT X T chk) (hi : MtI X rm gm) (ho : IE X Wx o mo) (ha : IA X Wx (e :: es) mr)
    (hbase : attributeBase o name X.env (eval o X.env) = eval o X.env := by rfl)
    (hfew : ((backTo cpos (starEach (e :: es) X.env)).all (fun x => !x.1) && (backToKw cpos (keywordEach [] X.env)).all (fun x => x.1.isSome)
      && decide ((e :: es).length + ([] : List Keyword).length + (if ([] : List Keyword).isEmpty then 0 else 1) < 30)) = true := by rfl)
    (hline : (apos.endLine == cpos.line) = true := by rfl) (hs : starEach (e :: es) X.env = (false, eval e X.env) :: starEach es X.env := by rfl) (hplain : (backTo cpos (starEach es X.env)).any (·.1) = false := by rfl) :
    IE X Wx (.Call (.Attribute o name apos) (e :: es) [] cpos) (eMt chk gm mo mr) :=
  PEi (pe_bm pa slot hty hm ho ha hbase hfew hline hs hplain) fun σ H Q ⟨ρ, S, ls, hS, hL, h⟩ => ⟨ρ, S, ls, hS, hL, (Post.bind (R := RW) h).imp fun x H1 ⟨ρ1, S1, w1, e1, hS1, r1, h1⟩ => by
    split at h1
    · rename_i hc
      exact ⟨hk _ _ _ _ _ hS1 r1 hc, ρ1, S1, ls, hS1, hL.ext e1, (Post.bind (R := RWs) h1).imp fun vs H2 ⟨ρ2, S2, ws, e2, hS2, r2, h2⟩ => hi ρ2 S2 H2 _ _ _ _ _ Q hS2 (r1.ext e2) r2 h2⟩
    · exact h1.elim⟩
theorem ie_mt0 (pa : PlainAttrs T) (slot : Slot T name id) (hty : typeOf (.builtin id) = pure (.type "method_descriptor")) (hm : MtR X id rm) (hk : ChkT X T chk) (hi : MtI X rm gm) (ho : IE X Wx o mo)
    (hbase : attributeBase o name X.env (eval o X.env) = eval o X.env := by rfl) (hline : (apos.endLine == cpos.line) = true := by rfl) : IE X Wx (.Call (.Attribute o name apos) [] [] cpos) (eMt chk gm mo aNil) :=
  PEi (pe_bm0 pa slot hty hm ho hbase hline) fun σ H Q ⟨ρ, S, ls, hS, hL, h⟩ => ⟨ρ, S, ls, hS, hL, (Post.bind (R := RW) h).imp fun x H1 ⟨ρ1, S1, w1, e1, hS1, r1, h1⟩ => by
    split at h1
    · rename_i hc
      exact ⟨hk _ _ _ _ _ hS1 r1 hc, hi ρ1 S1 H1 _ [] _ [] (fun c d H' => Wx c d σ H') Q hS1 r1 .nil h1⟩
    · exact h1.elim⟩
def mAppend : PV → MF := fun w ws S => match w, ws with
  | .loc n, [y] => (match lstAt S n with
    | some xs => if xs.length < lim then .ok .non (S.set n (.lst (xs ++ [y]))) else .bad
    | none => .bad)
  | _, _ => .bad
theorem mi_append : MtI X rAppend mAppend := by
  intro ρ S H w ws v vs Ex Q hS r rs h
  unfold mAppend at h
  split at h
  · split at h
    · split at h
      · rename_i xs ex hz
        cases r
        cases rs with
        | cons ry t =>
          cases t
          obtain ⟨us, hu, t⟩ := lst_of hS ex
          obtain ⟨s2, e2⟩ := set_lst hS ex (t.app (.cons ry .nil))
          exact ⟨_, us, _, rfl, rfl, hu, by rw [← t.length]; exact lim_lt hz, h ρ _ _ e2 s2 .non⟩
      · exact h.elim
    · exact h.elim
  · exact h.elim
def mPop : PV → MF := fun w ws S => match w, ws with
  | .loc n, [] => (match lstAt S n with
    | some xs => (match xs[xs.length - 1]? with
      | some y => .ok y (S.set n (.lst xs.dropLast))
      | none => .bad)
    | none => .bad)
  | _, _ => .bad
theorem mi_pop : MtI X rPop mPop := by
  intro ρ S H w ws v vs Ex Q hS r rs h
  unfold mPop at h
  split at h
  · split at h
    · split at h
      · rename_i xs ex _ y ey
        cases r; cases rs
        obtain ⟨us, hu, t⟩ := lst_of hS ex
        obtain ⟨z, hz, rz⟩ := t.get ey
        obtain ⟨s2, e2⟩ := set_lst hS ex t.dropLast
        exact ⟨_, us, z, rfl, rfl, hu, by rw [← t.length]; exact hz, h ρ _ _ e2 s2 (rz.ext (by rw [List.length_set] at e2; exact e2) |> fun q => by rw [List.length_set]; exact q)⟩
      · exact h.elim
    · exact h.elim
  · exact h.elim
def mClear : PV → MF := fun w ws S => match w, ws with
  | .loc n, [] => (match lstAt S n with
    | some _ => .ok .non (S.set n (.lst []))
    | none => .bad)
  | _, _ => .bad
theorem mi_clear : MtI X rClear mClear := by
  intro ρ S H w ws v vs Ex Q hS r rs h
  unfold mClear at h
  split at h
  · split at h
    · rename_i xs ex
      cases r; cases rs
      obtain ⟨us, hu, t⟩ := lst_of hS ex
      obtain ⟨s2, e2⟩ := set_lst hS ex .nil
      exact ⟨_, us, rfl, rfl, hu, h ρ _ _ e2 s2 .non⟩
    · exact h.elim
  · exact h.elim
def sAug (i : Nat) (g : PV → PV → Sto → Out PV) (e : ME) : MS := fun ls S => match ls[i]? with
  | some (some w) => (e ls S).then ls fun v S1 => (g w v S1).then ls fun z S2 => .nx (ls.set i (some z)) S2
  | _ => .bad
theorem is_aug {op : Operator} {t : TIp} {gg : PV → PV → Sto → Out PV} {i : Nat} {pos' : Pos} (hN : X.N.Nodup) (ho : PIp X op t) (hi : OpI X Wx t gg) (he : IE X Wx e me) (hx : X.N[i]? = some x := by rfl) (hl : Loc X.env.scope x := by first | exact Or.inl rfl | exact Or.inr rfl)
    (hf : X.fn x = true ∨ X.env.scope.names.lookup x = some .local := by first | exact .inl rfl | exact .inr rfl) : IS X Wx (.AugAssign (.Name x pos') op e pos) (sAug i gg me) :=
  PSi (ps_aug (i := i) hN hx hl he ho hf) fun D σ H ⟨ρ, S, ls, hS, hL, h⟩ => by
    unfold sAug at h
    split at h
    · rename_i w ew
      obtain ⟨v, ev, rv⟩ := hL.get ew
      refine ⟨v, ev, ρ, S, ls, hS, hL, (Post.then (R := RW) hL h).imp fun y H1 ⟨ρ1, S1, w1, e1, hS1, r1, h1⟩ => ?_⟩
      refine hi ρ1 S1 H1 w w1 v y (fun c d H' => Wx c d σ H') _ hS1 (rv.ext e1) r1 ((Post.then (R := RW) (hL.ext e1) h1).imp fun z H2 ⟨ρ2, S2, w2, e2, hS2, r2, h2⟩ => ?_)
      exact h2 ρ2 H2 _ .refl hS2 (RL.set r2 _ ((hL.ext e1).ext e2))
    · exact h.elim
theorem oi_ip {f : Int → Int → Int} : OpI X Wx (ipI f) (gInt f) := by
  intro ρ S H w1 w2 x y Ex Q hS r1 r2 h
  unfold gInt at h
  split at h
  · cases r1; cases r2; exact ⟨_, _, rfl, rfl, h.here hS (.int _)⟩
  · exact h.elim
variable {c : Expr} {mc : ME} {r' : R2} {gg gg' : PV → PV → Sto → Out PV} {rr : R2}
end
end GL
set_option Elab.async false
set_option linter.all false
set_option maxRecDepth 100000
set_option maxHeartbeats 1000000
namespace GL
open PySem PySem.Spec PyProof.Rows L2
def all2 {α β : Type} (f : α → β → Bool) : List α → List β → Bool
  | [], [] => true
  | a :: r, b :: s => f a b && all2 f r s
  | _, _ => false
def gvB (K : PySem.W.Frag) : Nat → PV → Value → Bool
  | 0, _, _ => false
  | f + 1, w, u => match w, u with
    | .non, .none => true
    | .bl a, .bool b => a == b
    | .int i, .int j _ => decide (j = i)
    | .str l, .str x _ => decide (x.cps.toList = l)
    | .tup ws, .ref a => (match K.lookup a with
      | some ⟨.type c, _, .seq its _, _⟩ => decide (c = "tuple") && (decide (its.size ≤ sizeLine) && all2 (gvB K f) ws its.toList)
      | _ => false)
    | .gl x, .ref a => decide (a = He.ga K (toS x))
    | .ty b, .type n => decide (n = b.name)
    | _, _ => false
theorem gv_all {K : PySem.W.Frag} {g : PV → Value → Bool} (h : ∀ w u, g w u = true → ∃ v, RelV v u ∧ GVal K v w) : ∀ {ws : List PV} {us : List Value}, all2 g ws us = true →
    ∃ vs, Vals vs us ∧ ∀ ρ N H, RWs K ρ N H ws vs
  | [], [], _ => ⟨[], .nil, fun _ _ _ => .nil⟩
  | [], _ :: _, e => by cases e
  | _ :: _, [], e => by cases e
  | w :: ws, u :: us, e => by
    have e2 := Bool.and_eq_true_iff.mp (show (g w u && all2 g ws us) = true from e)
    obtain ⟨v, r, q⟩ := h w u e2.1
    obtain ⟨vs, r2, q2⟩ := gv_all h e2.2
    exact ⟨v :: vs, .cons r r2, fun ρ N H => .cons (q ρ N H) (q2 ρ N H)⟩
theorem gv_ok {K : PySem.W.Frag} : ∀ {f : Nat} {w : PV} {u : Value}, gvB K f w u = true → ∃ v, RelV v u ∧ GVal K v w
  | 0, _, _, h => by cases h
  | f + 1, w, u, h => by
    unfold gvB at h
    split at h
    · exact ⟨.non, rfl, fun _ _ _ => .non⟩
    · have e := eq_of_beq h
      subst e
      exact ⟨.bl _, rfl, fun _ _ _ => .bl _⟩
    · have e := of_decide_eq_true h
      subst e
      exact ⟨.int _, ⟨_, rfl⟩, fun _ _ _ => .int _⟩
    · have e := of_decide_eq_true h
      subst e
      exact ⟨.str _, ⟨_, rfl⟩, fun _ _ _ => .str _⟩
    · split at h
      · rename_i ws a _ c dd its n sl q
        have e := Bool.and_eq_true_iff.mp h
        have e2 := Bool.and_eq_true_iff.mp e.2
        obtain ⟨vs, r, g⟩ := gv_all (K := K) (g := gvB K f) (fun w u => gv_ok) e2.2
        have ec := of_decide_eq_true e.1
        exact ⟨.ref a, rfl, fun ρ N H => .tup (.inr ⟨_, its, n, q, by rw [ec], rfl, of_decide_eq_true e2.1, r⟩) (g ρ N H)⟩
      · cases h
    · have e := of_decide_eq_true h
      subst e
      exact ⟨.ref _, rfl, fun _ _ _ => .gl _⟩
    · have e := of_decide_eq_true h
      subst e
      exact ⟨.ty _, rfl, fun _ _ _ => .ty _⟩
    · cases h
def conV (K : PySem.W.Frag) (x : Str) (w : PV) : Bool := match PySem.W.nsIn K mainGlobals x with
  | some (some u) => gvB K 20 w u
  | _ => false
structure GCon (K : PySem.W.Frag) (mg : Str → Option Value) (x : Str) (w : PV) : Prop where
  ex : ∃ u v, mg x = some u ∧ RelV v u ∧ GVal K v w
theorem conV_ok {K : PySem.W.Frag} {h : Heap} {mg : Str → Option Value} {x : Str} {w : PV} (X : K.In h) (G : h.Ns mainGlobals mg) (c : conV K x w = true) : GCon K mg x w := by
  unfold conV at c
  split at c
  · rename_i u e
    obtain ⟨v, r, g⟩ := gv_ok c
    exact ⟨u, v, PySem.W.mg_of X G e, r, g⟩
  · cases c
def dflV (K : PySem.W.Frag) (f : Str × Option Str) (i : Nat) (w : PV) : Bool := gvB K 20 w (.ref (He.dflAt f i K))
theorem dflV_ok {K : PySem.W.Frag} {f : Str × Option Str} {i : Nat} {w : PV} (c : dflV K f i w = true) : GVal K (.ref (He.dflAt f i K)) w := by
  obtain ⟨v, r, g⟩ := gv_ok c
  have e : v = .ref (He.dflAt f i K) := RelV.inj r (show RelV (.ref (He.dflAt f i K)) (.ref (He.dflAt f i K)) from rfl)
  rw [← e]; exact g
theorem ie_con {X : Cx} {Wx : WX} {pos : Pos} {x : Str} {w : PV} (c : GCon X.K X.mg x w) (hg : Gl X x := by rfl) (hd : (x == ("__debug__" : Str)) = false := by decide) : IE X Wx (.Name x pos) (eC w) := by
  obtain ⟨u, v, a, b, g⟩ := c.ex
  exact ie_glob hg a b g hd
def obsB (fb : PySem.W.Frag → Bool) (fn : List He.DefD) (K : PySem.W.Frag) : He.AlD := (fb K && fn.all fun d => d.ok K, fn.map fun d => He.fnW K d.at_)
def SaysB (fb : PySem.W.Frag → Bool) (fn : List He.DefD) (K : PySem.W.Frag) : Prop := obsB fb fn K = He.valD fn
def obsBG (n : Nat) (fb : PySem.W.Frag → Bool) (fn : List He.DefD) (g : Addr → Option Obj) : He.AlD := obsB fb fn (He.frG g (He.asD g n))
def hookB (n : Nat) (fb : PySem.W.Frag → Bool) (fn : List He.DefD) : PySem.W.Hook where
  α := He.AlD
  obs := fun s => obsBG n fb fn s.heap.get?
  val := fun _ => He.valD fn
  says := fun _ h => ∃ K : PySem.W.Frag, K.In h ∧ SaysB fb fn K
  of := fun _ _ e => ⟨_, He.frG_in, e⟩
  keeps := fun _ _ _ ⟨K, hK, c⟩ k => ⟨K, PySem.W.Frag.In.keeps hK k, c⟩
theorem obsBG_eq {n : Nat} {fb : PySem.W.Frag → Bool} {fn : List He.DefD} {g : Addr → Option Obj} {s : Shared} (h : ∀ a, g a = s.heap.get? a) : obsBG n fb fn g = (hookB n fb fn).obs s := by
  have e : g = s.heap.get? := funext h
  rw [e]
  rfl
section
variable {fb : PySem.W.Frag → Bool} {fn : List He.DefD} {K : PySem.W.Frag}
theorem SaysB.facts (c : SaysB fb fn K) : fb K = true := (Bool.and_eq_true_iff.mp (show (fb K && fn.all fun d => d.ok K) = true from congrArg (fun z : He.AlD => z.1) c)).1
theorem SaysB.defs (c : SaysB fb fn K) (i : Nat) {d : He.DefD} (h : fn[i]? = some d := by rfl) : ∃ fd, FunD K d.name d.qual d.params d.body d.scope (d.dvs K) (d.kws K) (He.fAd K d.at_) fd := by
  have c2 := (Bool.and_eq_true_iff.mp (show (fb K && fn.all fun d => d.ok K) = true from congrArg (fun z : He.AlD => z.1) c)).2
  have e : fn.map (fun d => He.fnW K d.at_) = fn.map He.DefD.val := congrArg (fun z : He.AlD => z.2) c
  have e2 : (fn.map fun d => He.fnW K d.at_)[i]? = (fn.map He.DefD.val)[i]? := by rw [e]
  rw [List.getElem?_map, List.getElem?_map, h] at e2
  exact He.DefD.funD (Option.some.inj e2) (List.all_eq_true.mp c2 d (List.mem_of_getElem? h))
end
def allB (fs : List (PySem.W.Frag → Bool)) (K : PySem.W.Frag) : Bool := fs.all fun f => f K
theorem allB_at {fs : List (PySem.W.Frag → Bool)} {K : PySem.W.Frag} (h : allB fs K = true) (i : Nat) {f : PySem.W.Frag → Bool} (e : fs[i]? = some f := by rfl) : f K = true := List.all_eq_true.mp h f (List.mem_of_getElem? e)
theorem RWs.ints {K : PySem.W.Frag} {ρ : Nat → Addr} {N : Nat} {H : Hp} : ∀ ns : List Int, RWs K ρ N H (ns.map PV.int) (ns.map V.int)
  | [] => .nil
  | n :: r => .cons (.int n) (RWs.ints r)
theorem law_sp {K : PySem.W.Frag} {np N : Nat} {mb : MS} (hnp : np = 1) (h : ∀ ns : List Int, ns.length ≤ 63 → ∃ S', fnOf np N mb [.loc 0] [.rol (ns.map .int)] = .ok (.bl true) S') (H : Hp) (a : Addr) (ns : List Int) (hl : ns.length ≤ 63) (hO : Only H) (hS : SqL K H a (ns.map V.int)) :
    spI K np (fnOf np N mb) [.ref a] H (fun v _ => v = .bl true) fun _ _ _ => False := by
  subst hnp
  have ro : RoL K H a (ns.map V.int) := by
    rcases hS with (hS | hS) | hS
    · rcases hO a with z | ⟨o, xs, z⟩
      · rw [z] at hS; cases hS
      · rw [z] at hS; cases hS
    · exact .inl hS
    · exact .inr hS
  obtain ⟨S', e⟩ := h ns hl
  refine ⟨fun _ => a, [.rol (ns.map .int)], [.loc 0], ⟨fun n o hn => ?_, fun n m o o' hn hm q _ _ => ?_⟩, .cons (.loc (ρ := fun _ => a) 0 (Nat.lt_succ_self 0)) .nil, rfl, ?_⟩
  · cases n with
    | zero => cases hn; exact ⟨_, ro, RWs.ints ns⟩
    | succ n => simp at hn
  · cases n with
    | zero => cases hn; cases q
    | succ n => simp at hn
  · rw [e]
    exact fun ρ' H' v _ _ r => by cases r; rfl
theorem cx_none {P : Program} {w : World} {H : Hp} {s : Shared} {e : Value} {s' : Shared} (h : L2.CX P w [] H s (fun _ _ _ => False) e s') : False := by
  obtain ⟨_, _, _, _, _, _, _, _, _, _, _, _, z⟩ := h
  exact z
theorem walk_end {l : PySem.W.OpenLaw} {n k : Nat} {q : Program} {loose : List Str} {XP : (Str → Option Value) → Heap → Prop} {YP : World → Heap → Prop} {d : DefRec} {x : Str}
    (hn : l.most = some n) (hz : n ≤ sizeLine) (hdf : d.params.defaults = []) (hr : Room k callerA)
    (F : ∀ (w : World) (mg : Str → Option Value) (fa : Addr) (h : Heap), YP w h → h.Ns mainGlobals mg → mg d.name = some (.ref fa) → ∃ (K : PySem.W.Frag) (fd : FuncData) (sp : Sp),
      K.In h ∧ (∀ (s : Shared) (u : Value), BindsTo s fd ⟨[u], []⟩ [(x, u)]) ∧
      (∀ (H : Hp) (a : Addr) (ns : List Int), ns.length ≤ n → Only H → SqL K H a (ns.map V.int) → sp [.ref a] H (fun v _ => v = .bl true) fun _ _ _ => False) ∧
      ∀ base : Heap, K.In base → base.Ns mainGlobals mg → FnOk l.prog w K mg base (L2.CX l.prog w) k fa fd [x] sp) :
    PySem.W.WalkO q loose XP YP l.row.toRowW d [] (fun f vs => PySem.call f vs) := by
  apply Att.attach_call hn hdf
  intro w s₀ s₁ mg mb fa o pm cd doc a vs ns G Y ho hd hcd hmg hobj hints hlen hg
  obtain ⟨K, fd, sp, KX, hb, hsp, hF⟩ := F w mg fa _ Y G.T.g hmg
  have go := law_call KX G.T.g G.T.b G.T.builtins G.T.nolimit hg hobj hints (Nat.le_trans hlen hz) hr hF hb
  exact go (fun H hO hS => hsp H a ns hlen hO hS) fun H e s' z => cx_none z
end GL
set_option Elab.async false
set_option linter.all false
set_option maxRecDepth 100000
set_option maxHeartbeats 1000000
namespace GL
open PySem PySem.Spec PyProof.Rows L2
end GL
set_option Elab.async false
set_option linter.all false
set_option maxRecDepth 100000
set_option maxHeartbeats 1000000
namespace GL
open PySem PySem.Spec PyProof.Rows L2
end GL
set_option Elab.async false
set_option linter.all false
set_option maxRecDepth 100000
set_option maxHeartbeats 2000000
namespace GL
open PySem PySem.Spec PyProof.Rows L2
end GL
set_option Elab.async false
set_option linter.all false
set_option maxRecDepth 100000
set_option maxHeartbeats 2000000
namespace GL
open PySem PySem.Spec PyProof.Rows L2
end GL
set_option Elab.async false
set_option linter.all false
set_option maxRecDepth 100000
set_option maxHeartbeats 2000000
namespace GL
open PySem PySem.Spec PyProof.Rows L2
end GL
set_option Elab.async false
set_option linter.all false
set_option maxRecDepth 100000
set_option maxHeartbeats 2000000
namespace GL
open PySem PySem.Spec PyProof.Rows L2
end GL
set_option Elab.async false
set_option linter.all false
set_option maxRecDepth 100000
set_option maxHeartbeats 2000000
namespace GL
open PySem PySem.Spec PySem.Calls PyProof.Rows L2
theorem ClsV.rel {v : V} {u : Value} (c : ClsV v u) : RelV v u := by cases c <;> rfl
end GL
set_option Elab.async false
set_option linter.all false
set_option maxRecDepth 100000
set_option maxHeartbeats 1000000
namespace GL
open PySem PySem.Spec PyProof.Rows L2
abbrev AlK : Type := He.AlD × List (Option (List (Option (Str × Int))))
def obsK (fb : PySem.W.Frag → Bool) (fn : List He.DefD) (ts : List He.Tab) (K : PySem.W.Frag) : AlK := (obsB fb fn K, ts.map fun t => He.dicW K (t.1 K))
def valK (fn : List He.DefD) (ts : List He.Tab) (w : World) : AlK := (He.valD fn, ts.map fun t => some (He.keysIn w.params t.2))
def SaysK (fb : PySem.W.Frag → Bool) (fn : List He.DefD) (ts : List He.Tab) (w : World) (K : PySem.W.Frag) : Prop := obsK fb fn ts K = valK fn ts w
section
variable {fb : PySem.W.Frag → Bool} {fn : List He.DefD} {ts : List He.Tab} {w : World} {K : PySem.W.Frag}
theorem SaysK.d (c : SaysK fb fn ts w K) : SaysB fb fn K := congrArg (fun z : AlK => z.1) c
end
end GL
set_option Elab.async false
set_option linter.all false
set_option maxRecDepth 100000
set_option maxHeartbeats 2000000
namespace GL
open PySem PySem.Spec PyProof.Rows L2
end GL
set_option Elab.async false
set_option linter.all false
set_option maxRecDepth 100000
set_option maxHeartbeats 2000000
namespace GL
open PySem PySem.Spec PyProof.Rows L2
abbrev XnW : Type := Option (Str × Str × Arguments × FuncBody × Scope × Addr × List Str × Addr)
def xnW (K : PySem.W.Frag) (p : Str × Option Str) : XnW := match K.lookup (He.fAd K p) with
  | some ⟨_, _, .func fd, _⟩ => some (fd.name, fd.qualname, fd.params, fd.body, fd.scope, fd.globals, fd.closure.map (·.1), fd.builtins)
  | _ => none
def xnV (d : He.DefD) : XnW := some (d.name, d.qual, d.params, .stmts d.body, d.scope, mainGlobals, ["__class__"], builtinsNs)
abbrev AlX : Type := AlK × List XnW
def obsX (fb : PySem.W.Frag → Bool) (fn : List He.DefD) (ts : List He.Tab) (xs : List He.DefD) (K : PySem.W.Frag) : AlX := (obsK fb fn ts K, xs.map fun d => xnW K d.at_)
def valX (fn : List He.DefD) (ts : List He.Tab) (xs : List He.DefD) (w : World) : AlX := (valK fn ts w, xs.map xnV)
def SaysX (fb : PySem.W.Frag → Bool) (fn : List He.DefD) (ts : List He.Tab) (xs : List He.DefD) (w : World) (K : PySem.W.Frag) : Prop := obsX fb fn ts xs K = valX fn ts xs w
section
variable {fb : PySem.W.Frag → Bool} {fn : List He.DefD} {ts : List He.Tab} {xs : List He.DefD} {w : World} {K : PySem.W.Frag}
theorem SaysX.k (c : SaysX fb fn ts xs w K) : SaysK fb fn ts w K := congrArg (fun z : AlX => z.1) c
theorem SaysX.d (c : SaysX fb fn ts xs w K) : SaysB fb fn K := c.k.d
theorem SaysX.xn (c : SaysX fb fn ts xs w K) (i : Nat) {d : He.DefD} (h : xs[i]? = some d := by rfl) : xnW K d.at_ = xnV d := by
  have e : xs.map (fun d => xnW K d.at_) = xs.map xnV := congrArg (fun z : AlX => z.2) c
  have e2 : (xs.map fun d => xnW K d.at_)[i]? = (xs.map xnV)[i]? := by rw [e]
  rw [List.getElem?_map, List.getElem?_map, h] at e2
  exact Option.some.inj e2
end
end GL
set_option Elab.async false
set_option linter.all false
set_option maxRecDepth 100000
set_option maxHeartbeats 1000000
namespace GL
open PySem PySem.Spec PyProof.Rows L2
end GL
set_option Elab.async false
set_option linter.all false
set_option maxRecDepth 100000
set_option maxHeartbeats 1000000
namespace GL
open PySem PySem.Spec PyProof.Rows L2
end GL
set_option Elab.async false
set_option linter.all false
set_option maxRecDepth 100000
set_option maxHeartbeats 2000000
namespace GL
open PySem PySem.Spec PyProof.Rows L2
end GL
set_option Elab.async false
set_option linter.all false
set_option maxRecDepth 100000
set_option maxHeartbeats 2000000
namespace GL
open PySem PySem.Spec PyProof.Rows L2
def keqP : PV → PV → Bool
  | .int i, .int j => decide (i = j)
  | .str a, .str b => decide (a = b)
  | _, _ => false
def isKeyP : PV → Bool
  | .int _ => true
  | .str _ => true
  | _ => false
def lookP (k : PV) : List (PV × PV) → Option PV
  | [] => none
  | (a, w) :: r => if keqP a k = true then some w else lookP k r
def setP (k w : PV) : List (PV × PV) → List (PV × PV)
  | [] => []
  | (a, v) :: r => (if keqP a k = true then (a, w) else (a, v)) :: setP k w r
def putP (k w : PV) (kvs : List (PV × PV)) : List (PV × PV) := match lookP k kvs with
  | some _ => setP k w kvs
  | none => kvs ++ [(k, w)]
theorem rkey_of {k : PV} {v : V} {K : PySem.W.Frag} {ρ : Nat → Addr} {N : Nat} {H : Hp} (r : RW K ρ N H k v) (h : isKeyP k = true) : ∃ kk, RKey k kk ∧ v = kV kk := by
  cases r with
  | int i => exact ⟨.inl i, rfl, rfl⟩
  | str x => exact ⟨.inr x, rfl, rfl⟩
  | _ => cases h
theorem keq_rel {a b : PV} {x y : Key} (ra : RKey a x) (rb : RKey b y) : keqP a b = decide (x = y) := by
  cases a with
  | int i => cases x with
    | inl i' => cases b with
      | int j => cases y with
        | inl j' =>
          have ra : i = i' := ra
          have rb : j = j' := rb
          subst ra rb
          show decide (i = j) = _
          by_cases h : i = j
          · subst h; simp
          · have : ¬ (Sum.inl i : Key) = Sum.inl j := fun z => h (Sum.inl.inj z)
            rw [decide_eq_false h, decide_eq_false this]
        | inr _ => exact rb.elim
      | str _ => cases y with
        | inl _ => exact rb.elim
        | inr _ => simp [keqP]
      | _ => exact rb.elim
    | inr _ => exact ra.elim
  | str l => cases x with
    | inr x' => cases b with
      | str m => cases y with
        | inr y' =>
          have ra : x'.cps.toList = l := ra
          have rb : y'.cps.toList = m := rb
          subst ra rb
          show decide (x'.cps.toList = y'.cps.toList) = _
          by_cases h : x' = y'
          · subst h; simp
          · have : ¬ (Sum.inr x' : Key) = Sum.inr y' := fun z => h (Sum.inr.inj z)
            have h2 : ¬ x'.cps.toList = y'.cps.toList := fun z => h (by
              cases x'; cases y'; exact congrArg _ (Array.toList_inj.mp z))
            rw [decide_eq_false h2, decide_eq_false this]
        | inl _ => exact rb.elim
      | int _ => cases y with
        | inr _ => exact rb.elim
        | inl _ => simp [keqP]
      | _ => exact rb.elim
    | inl _ => exact ra.elim
  | _ => exact ra.elim
section
variable {K : PySem.W.Frag} {ρ : Nat → Addr} {N : Nat} {H : Hp} {k w : PV} {kk : Key} {v : V}
theorem lookP_rel (rk : RKey k kk) : ∀ {kvs : List (PV × PV)} {kv' : List (Key × V)}, RKs K ρ N H kvs kv' → (∀ w, lookP k kvs = some w → ∃ v, valV kv' kk = some v ∧ RW K ρ N H w v) ∧ (lookP k kvs = none → valV kv' kk = none)
  | _, _, .nil => ⟨fun w h => (by cases h), fun _ => rfl⟩
  | _, _, .cons (k := a) (kk := x) (w := w0) (v := v0) ra r t => by
    obtain ⟨h1, h2⟩ := lookP_rel rk t
    have e := keq_rel ra rk
    unfold lookP
    by_cases h : x = kk
    · rw [decide_eq_true h] at e
      rw [e, valV_pos h]
      exact ⟨fun w z => by cases z; exact ⟨_, rfl, r⟩, fun z => by cases z⟩
    · rw [decide_eq_false h] at e
      rw [e, valV_neg h]
      exact ⟨h1, h2⟩
theorem setP_rel (rk : RKey k kk) (rw_ : RW K ρ N H w v) : ∀ {kvs : List (PV × PV)} {kv' : List (Key × V)}, RKs K ρ N H kvs kv' → RKs K ρ N H (setP k w kvs) (kv'.map fun kv => if kv.1 = kk then (kv.1, v) else kv)
  | _, _, .nil => .nil
  | _, _, .cons (k := a) (kk := x) (w := w0) (v := v0) ra r t => by
    have ih := setP_rel rk rw_ t
    have e := keq_rel ra rk
    unfold setP
    rw [List.map_cons]
    by_cases h : x = kk
    · rw [decide_eq_true h] at e
      rw [e, if_pos rfl, if_pos h]
      exact .cons ra rw_ ih
    · rw [decide_eq_false h] at e
      rw [e, if_neg Bool.false_ne_true, if_neg h]
      exact .cons ra r ih
theorem RKs.app : ∀ {a b : List (PV × PV)} {x y : List (Key × V)}, RKs K ρ N H a x → RKs K ρ N H b y → RKs K ρ N H (a ++ b) (x ++ y)
  | _, _, _, _, .nil, s => s
  | _, _, _, _, .cons rk r t, s => .cons rk r (RKs.app t s)
theorem RKs.length : ∀ {a : List (PV × PV)} {x : List (Key × V)}, RKs K ρ N H a x → a.length = x.length
  | _, _, .nil => rfl
  | _, _, .cons _ _ t => by simp [RKs.length t]
theorem putP_rel (rk : RKey k kk) (rw_ : RW K ρ N H w v) {kvs : List (PV × PV)} {kv' : List (Key × V)} (t : RKs K ρ N H kvs kv') : RKs K ρ N H (putP k w kvs) (putK kv' kk v) := by
  obtain ⟨h1, h2⟩ := lookP_rel rk t
  unfold putP putK
  rw [valV_any]
  cases e : lookP k kvs with
  | some w0 =>
    obtain ⟨v0, e2, _⟩ := h1 w0 e
    rw [e2]
    exact setP_rel rk rw_ t
  | none =>
    rw [h2 e]
    exact t.app (.cons rk rw_ .nil)
end
def dctAt (S : Sto) (n : Nat) : Option (List (PV × PV)) := match S[n]? with
  | some (.dct kvs) => some kvs
  | _ => none
def rdctAt (S : Sto) (n : Nat) : Option (List (PV × PV)) := match S[n]? with
  | some (.dct kvs) => some kvs
  | some (.fdct kvs) => some kvs
  | _ => none
theorem dctAt_get {S : Sto} {n : Nat} {kvs : List (PV × PV)} (h : dctAt S n = some kvs) : S[n]? = some (.dct kvs) := by
  unfold dctAt at h
  split at h
  · rename_i e; cases h; exact e
  · cases h
theorem rdct_of {K : PySem.W.Frag} {ρ : Nat → Addr} {H : Hp} {S : Sto} {n : Nat} {kvs : List (PV × PV)} (hS : RSt K ρ H S) (h : rdctAt S n = some kvs) : ∃ kv', Rd H (ρ n) (.dK kv') ∧ RKs K ρ S.length H kvs kv' := by
  unfold rdctAt at h
  split at h
  · rename_i e; cases h
    obtain ⟨kv', a, t⟩ := hS.at_ _ _ e
    exact ⟨kv', .inl a, t⟩
  · rename_i e; cases h
    obtain ⟨o, kv', a, t⟩ := hS.at_ _ _ e
    exact ⟨kv', .inr ⟨o, a⟩, t⟩
  · cases h
theorem units_le {n : Nat} (h : n + 64 < cLine) : n + 1 < cLine := by omega
def eDGet (d k : ME) : ME := fun ls S => (d ls S).bind fun w S1 => (k ls S1).bind fun y S2 => match w with
  | .loc n => (match rdctAt S2 n with
    | some kvs => if isKeyP y = true then (match lookP y kvs with
      | some v => .ok v S2
      | none => .bad) else .bad
    | none => .bad)
  | _ => .bad
def eDIn (neg : Bool) (k d : ME) : ME := fun ls S => (k ls S).bind fun y S1 => (d ls S1).bind fun w S2 => match w with
  | .loc n => (match rdctAt S2 n with
    | some kvs => if isKeyP y = true then .ok (.bl (if neg then !(lookP y kvs).isSome else (lookP y kvs).isSome)) S2 else .bad
    | none => .bad)
  | _ => .bad
def sDPutM (d k e : ME) : MS := fun ls S => (e ls S).then ls fun v S1 => (d ls S1).then ls fun w S2 => (k ls S2).then ls fun y S3 => match w with
  | .loc n => (match dctAt S3 n with
    | some kvs => if (isKeyP y && decide (kvs.length < 1000)) = true then .nx ls (S3.set n (.dct (putP y v kvs))) else .bad
    | none => .bad)
  | _ => .bad
section
variable {X : Cx} {Wx : L2.WX} {d k e : Expr} {md mk me : ME} {pos pos' : Pos}
theorem ie_dget (hu : X.A.units + 64 < cLine) (hd : IE X Wx d md) (hk : IE X Wx k mk) (hs : NoSl k := by exact fun _ _ => rfl) : IE X Wx (.Subscript d k pos) (eDGet md mk) :=
  PEi (pe_dget (units_le hu) hd hk hs) fun σ H Q ⟨ρ, S, ls, hS, hL, h⟩ => ⟨ρ, S, ls, hS, hL, (Post.bind (R := RW) h).imp fun x H1 ⟨ρ1, S1, w1, e1, hS1, r1, h1⟩ =>
    ⟨ρ1, S1, ls, hS1, hL.ext e1, (Post.bind (R := RW) h1).imp fun y H2 ⟨ρ2, S2, w2, e2, hS2, r2, h2⟩ => by
      have r1 := r1.ext e2
      split at h2
      · split at h2
        · rename_i kvs ek
          split at h2
          · rename_i hk
            split at h2
            · rename_i v0 el
              cases r1 with
              | loc n hn =>
                obtain ⟨kv', hr, t⟩ := rdct_of hS2 ek
                obtain ⟨kk, rk, ey⟩ := rkey_of r2 hk
                obtain ⟨v, ev, rv⟩ := (lookP_rel rk t).1 _ el
                exact ⟨_, v, rfl, .inl ⟨kv', kk, hr, ey, ev.symm⟩, h2.here hS2 rv⟩
            · exact h2.elim
          · exact h2.elim
        · exact h2.elim
      · exact h2.elim⟩⟩
theorem din_in {σ : L2.St} {H : Hp} {Q : VK} {neg : Bool} (h : tE X.K Wx (eDIn neg mk md) σ H Q) : tE X.K Wx mk σ H fun y H1 => tE X.K Wx md σ H1 fun x H2 => ∃ a o, x = .ref a ∧ DGet H2 a y o ∧ Q (.bl (if neg then !o.isSome else o.isSome)) H2 := by
  obtain ⟨ρ, S, ls, hS, hL, h⟩ := h
  exact ⟨ρ, S, ls, hS, hL, (Post.bind (R := RW) h).imp fun y H1 ⟨ρ1, S1, w1, e1, hS1, r1, h1⟩ =>
    ⟨ρ1, S1, ls, hS1, hL.ext e1, (Post.bind (R := RW) h1).imp fun x H2 ⟨ρ2, S2, w2, e2, hS2, r2, h2⟩ => by
      have r1 := r1.ext e2
      split at h2
      · split at h2
        · rename_i kvs ek
          split at h2
          · rename_i hk
            cases r2 with
            | loc n hn =>
              obtain ⟨kv', hr, t⟩ := rdct_of hS2 ek
              obtain ⟨kk, rk, ey⟩ := rkey_of r1 hk
              obtain ⟨q1, q2⟩ := lookP_rel rk t
              refine ⟨_, valV kv' kk, rfl, .inl ⟨kv', kk, hr, ey, rfl⟩, ?_⟩
              have es : (valV kv' kk).isSome = (lookP w1 kvs).isSome := by
                cases el : lookP w1 kvs with
                | some v0 => obtain ⟨v, ev, _⟩ := q1 v0 el; rw [ev]; rfl
                | none => rw [q2 el]; rfl
              rw [es]
              exact h2.here hS2 (.bl _)
          · exact h2.elim
        · exact h2.elim
      · exact h2.elim⟩⟩
theorem it_din (hu : X.A.units + 64 < cLine) (hk : IE X Wx k mk) (hd : IE X Wx d md) (h1 : behindInMarks .In d = false := by first | exact nobehind _ (by decide) (by decide) | rfl) : IT X Wx (.Compare k [.In] [d] pos) (toT (eDIn false mk md)) :=
  PTi (pt_cmp (pc_din (units_le hu) hk hd) h1) fun σ H Q h => din_in (test_in h)
theorem it_dnin (hu : X.A.units + 64 < cLine) (hk : IE X Wx k mk) (hd : IE X Wx d md) (h1 : behindInMarks .NotIn d = false := by first | exact nobehind _ (by decide) (by decide) | rfl) : IT X Wx (.Compare k [.NotIn] [d] pos) (toT (eDIn true mk md)) :=
  PTi (pt_cmp (pc_dnotin (units_le hu) hk hd) h1) fun σ H Q h => din_in (test_in h)
theorem is_dput (hu : X.A.units + 64 < cLine) (hd : IE X Wx d md) (hk : IE X Wx k mk) (he : IE X Wx e me) (hs : swapsWith e (some (.Subscript d k pos')) pos.line X.env = pure false := by rfl) : IS X Wx (.Assign [.Subscript d k pos'] e pos) (sDPutM md mk me) :=
  PSi (ps_dput (units_le hu) hd hk he hs) fun D σ H ⟨ρ, S, ls, hS, hL, h⟩ => ⟨ρ, S, ls, hS, hL, (Post.then (R := RW) hL h).imp fun v H1 ⟨ρ1, S1, w1, e1, hS1, r1, h1⟩ =>
    ⟨ρ1, S1, ls, hS1, hL.ext e1, (Post.then (R := RW) (hL.ext e1) h1).imp fun x H2 ⟨ρ2, S2, w2, e2, hS2, r2, h2⟩ =>
      ⟨ρ2, S2, ls, hS2, (hL.ext e1).ext e2, (Post.then (R := RW) ((hL.ext e1).ext e2) h2).imp fun y H3 ⟨ρ3, S3, w3, e3, hS3, r3, h3⟩ => by
        have r2 := r2.ext e3
        have r1 := (r1.ext e2).ext e3
        cases w2 with
        | loc n =>
          dsimp only at h3
          split at h3
          · rename_i kvs ek
            split at h3
            · rename_i hz
              obtain ⟨hk, hl⟩ := Bool.and_eq_true_iff.mp hz
              have hl := of_decide_eq_true hl
              cases r2 with
              | loc n hn =>
                have eg := dctAt_get ek
                obtain ⟨kv', hr, t⟩ := hS3.at_ _ _ eg
                obtain ⟨kk, rk, ey⟩ := rkey_of r3 hk
                refine ⟨_, _, rfl, .inl ⟨kv', kk, hr, ey, by rw [← t.length, sizeLine_eq]; omega, rfl⟩, ?_⟩
                have e4 : Ext X.K ρ3 S3.length H3 ρ3 S3.length (upd H3 (ρ3 n) (.dK (putK kv' kk v))) := ext_upd hr trivial
                have t4 := (putP_rel rk r1 t).ext e4
                have s4 := hS3.set (o' := .dct (putP w3 w1 kvs)) (ho := .dK (putK kv' kk v)) eg rfl rfl ⟨_, upd_same, t4⟩
                refine h3 ρ3 _ σ ?_ s4 ?_
                · rw [List.length_set]; exact e4
                · rw [List.length_set]; exact (((hL.ext e1).ext e2).ext e3).ext e4
            · exact h3.elim
          · exact h3.elim
        | _ => exact False.elim h3⟩⟩⟩
end
def mPairs : List (ME × ME) → Ls → Sto → Out (List (PV × PV))
  | [], _, S => .ok [] S
  | (k, v) :: r, ls, S => (k ls S).bind fun x S1 => (v ls S1).bind fun y S2 => (mPairs r ls S2).bind fun ps S3 => .ok ((x, y) :: ps) S3
def mergeP (kvs more : List (PV × PV)) : List (PV × PV) := more.foldl (fun acc kv => putP kv.1 kv.2 acc) kvs
def eDisp (ps : List (ME × ME)) : ME := fun ls S => (mPairs ps ls (S ++ [.dct []])).bind fun kvs S1 => match S1[S.length]? with
  | some (.dct []) => if (kvs.all (fun kv => isKeyP kv.1) && decide (kvs.length ≤ 15)) = true then .ok (.loc S.length) (S1.set S.length (.dct (mergeP [] kvs))) else .bad
  | _ => .bad
inductive RPs (K : PySem.W.Frag) (ρ : Nat → Addr) (N : Nat) (H : Hp) : List (PV × PV) → List (V × V) → Prop
  | nil : RPs K ρ N H [] []
  | cons {a b : PV} {x y : V} {r : List (PV × PV)} {s : List (V × V)} : RW K ρ N H a x → RW K ρ N H b y → RPs K ρ N H r s → RPs K ρ N H ((a, b) :: r) ((x, y) :: s)
theorem RPs.ext {K : PySem.W.Frag} {ρ ρ' : Nat → Addr} {N N' : Nat} {H H' : Hp} (e : Ext K ρ N H ρ' N' H') : ∀ {a : List (PV × PV)} {b : List (V × V)}, RPs K ρ N H a b → RPs K ρ' N' H' a b
  | _, _, .nil => .nil
  | _, _, .cons r1 r2 t => .cons (r1.ext e) (r2.ext e) (RPs.ext e t)
theorem RPs.keys {K : PySem.W.Frag} {ρ : Nat → Addr} {N : Nat} {H : Hp} : ∀ {a : List (PV × PV)} {b : List (V × V)}, RPs K ρ N H a b → (a.all fun kv => isKeyP kv.1) = true → ∃ kvs : List (Key × V), b = kvs.map (fun kv => (kV kv.1, kv.2)) ∧ RKs K ρ N H a kvs
  | _, _, .nil, _ => ⟨[], rfl, .nil⟩
  | _, _, .cons r1 r2 t, h => by
    rw [List.all_cons] at h
    obtain ⟨h1, h2⟩ := Bool.and_eq_true_iff.mp h
    obtain ⟨kk, rk, ex⟩ := rkey_of r1 h1
    obtain ⟨kvs, eb, rt⟩ := RPs.keys t h2
    refine ⟨(kk, _) :: kvs, ?_, .cons rk r2 rt⟩
    rw [List.map_cons, ← eb, ex]
theorem merge_rel {K : PySem.W.Frag} {ρ : Nat → Addr} {N : Nat} {H : Hp} {more : List (PV × PV)} {m' : List (Key × V)} (s : RKs K ρ N H more m') : ∀ {kvs : List (PV × PV)} {kv' : List (Key × V)}, RKs K ρ N H kvs kv' → RKs K ρ N H (mergeP kvs more) (mergeK kv' m') := by
  induction s with
  | nil => exact fun t => t
  | cons rk r _ ih => exact fun t => ih (putP_rel rk r t)
inductive IPs (X : Cx) (Wx : L2.WX) (pos : Pos) : List (Option Expr) → List Expr → List (ME × ME) → Prop
  | nil : IPs X Wx pos [] [] []
  | cons {k v : Expr} {ks : List (Option Expr)} {vs : List Expr} {mk mv : ME} {ms : List (ME × ME)} (hk : IE X Wx k mk) (hv : IE X Wx v mv) (r : IPs X Wx pos ks vs ms) : IPs X Wx pos (some k :: ks) (v :: vs) ((mk, mv) :: ms)
theorem IPs.pps {X : Cx} {Wx : L2.WX} {pos : Pos} {ks : List (Option Expr)} {vs : List Expr} {ms : List (ME × ME)} (h : IPs X Wx pos ks vs ms) : PPs X pos ks vs (ms.map fun p => (tE X.K Wx p.1, tE X.K Wx p.2)) := by
  induction h with
  | nil => exact pps_nil
  | cons hk hv _ ih => exact pps_cons hk hv ih
theorem pairs_in {X : Cx} {Wx : L2.WX} {σ : L2.St} : ∀ {ms : List (ME × ME)} {ρ : Nat → Addr} {S : Sto} {ls : Ls} {H : Hp} {Q : List (V × V) → Hp → Prop}, RSt X.K ρ H S → RL X.K ρ S.length H ls σ → Post RPs X.K ρ S.length H (fun c d H' => Wx c d σ H') (mPairs ms ls S) Q →
    tPairs (ms.map fun p => (tE X.K Wx p.1, tE X.K Wx p.2)) σ H Q
  | [], ρ, S, ls, H, Q, hS, hL, h => h ρ H _ .refl hS .nil
  | (mk, mv) :: r, ρ, S, ls, H, Q, hS, hL, h => by
    show tE X.K Wx mk σ H fun x H1 => tE X.K Wx mv σ H1 fun y H2 => _
    unfold mPairs at h
    refine ⟨ρ, S, ls, hS, hL, (Post.bind (R := RW) h).imp fun x H1 ⟨ρ1, S1, w1, e1, hS1, r1, h1⟩ => ⟨ρ1, S1, ls, hS1, hL.ext e1, (Post.bind (R := RW) h1).imp fun y H2 ⟨ρ2, S2, w2, e2, hS2, r2, h2⟩ => ?_⟩⟩
    exact pairs_in hS2 ((hL.ext e1).ext e2) ((Post.bind (R := RPs) h2).imp fun ps H3 ⟨ρ3, S3, w3, e3, hS3, r3, h3⟩ => h3 ρ3 H3 _ .refl hS3 (.cons ((r1.ext e2).ext e3) (r2.ext e3) r3))
theorem ie_disp {X : Cx} {Wx : L2.WX} {pos : Pos} {ks : List (Option Expr)} {vs : List Expr} {ms : List (ME × ME)} (h : IPs X Wx pos ks vs ms) (hall : ks.all (·.isSome) = true := by rfl) (hl : ks.length = vs.length := by rfl) (h0 : ks ≠ [] := by simp) (h15 : ks.length ≤ 15 := by exact Nat.le_of_ble_eq_true rfl) :
    IE X Wx (.Dict ks vs pos) (eDisp ms) :=
  PEi (pe_disp h.pps hall hl h0 h15) fun σ H Q ⟨ρ, S, ls, hS, hL, hq⟩ => by
    intro p hp
    have e0 : Ext X.K ρ S.length H (grow ρ S.length p) (S ++ [OB.dct []]).length (upd H p (.dK [])) := by rw [List.length_append, List.length_singleton]; exact ext_new hp
    have s0 : RSt X.K (grow ρ S.length p) (upd H p (.dK [])) (S ++ [OB.dct []]) := hS.new hp rfl ⟨[], upd_same, .nil⟩
    refine pairs_in s0 (hL.ext e0) ((Post.bind (R := RPs) (Post.ext e0 hq)).imp fun ps H2 ⟨ρ2, S2, kvs, e2, hS2, r2, h2⟩ => ?_)
    have hlt : S.length < (S ++ [OB.dct []]).length := by rw [List.length_append, List.length_singleton]; exact Nat.lt_succ_self _
    have ep : ρ2 S.length = p := by rw [e2.2.1 _ hlt, grow_new]
    split at h2
    · rename_i eg
      split at h2
      · rename_i hz
        obtain ⟨hk, hz⟩ := Bool.and_eq_true_iff.mp hz
        have hz := of_decide_eq_true hz
        obtain ⟨kv0, hr, t0⟩ := hS2.at_ _ _ eg
        cases t0
        rw [ep] at hr
        obtain ⟨kv', eps, rk⟩ := r2.keys hk
        refine ⟨hr, kv', eps, by rw [← rk.length]; exact hz, ?_⟩
        have e4 : Ext X.K ρ2 S2.length H2 ρ2 S2.length (upd H2 p (.dK (mergeK [] kv'))) := ext_upd hr trivial
        have t4 := (merge_rel rk (.nil : RKs X.K ρ2 S2.length H2 [] [])).ext e4
        have s4 := hS2.set (o' := .dct (mergeP [] kvs)) (ho := .dK (mergeK [] kv')) eg rfl rfl ⟨_, upd_same, by rw [ep]; exact t4⟩
        rw [ep] at s4
        refine h2 ρ2 _ _ (by rw [List.length_set]; exact e4) s4 ?_
        have q : RW X.K ρ2 S2.length (upd H2 p (.dK (mergeK [] kv'))) (.loc S.length) (.ref (ρ2 S.length)) := .loc _ (Nat.lt_of_lt_of_le hlt e2.1)
        rw [ep] at q
        rw [List.length_set]; exact q
      · exact h2.elim
    · exact h2.elim
end GL
set_option Elab.async false
set_option linter.all false
set_option maxRecDepth 100000
set_option maxHeartbeats 2000000
namespace GL
open PySem PySem.Spec PyProof.Rows L2
def arr {α : Type} (c : List Nat) (xs : List α) : List α := c.filterMap fun i => xs[i]?
theorem Vals.arr {a : List V} {b : List Value} (r : Vals a b) : ∀ c : List Nat, Vals (GL.arr c a) (GL.arr c b)
  | [] => .nil
  | i :: c => by
    have h : (a[i]? = none ∧ b[i]? = none) ∨ ∃ x y, a[i]? = some x ∧ b[i]? = some y ∧ RelV x y := by
      induction r generalizing i with
      | nil => exact .inl ⟨rfl, rfl⟩
      | cons q t ih => cases i with
        | zero => exact .inr ⟨_, _, rfl, rfl, q⟩
        | succ i => exact ih i
    unfold GL.arr
    rw [List.filterMap_cons, List.filterMap_cons]
    rcases h with ⟨e1, e2⟩ | ⟨x, y, e1, e2, q⟩
    · rw [e1, e2]; exact Vals.arr r c
    · rw [e1, e2]; exact .cons q (Vals.arr r c)
theorem RWs.at2 {K : PySem.W.Frag} {ρ : Nat → Addr} {N : Nat} {H : Hp} : ∀ {a : List PV} {b : List V}, RWs K ρ N H a b → ∀ i : Nat, (a[i]? = none ∧ b[i]? = none) ∨ ∃ x y, a[i]? = some x ∧ b[i]? = some y ∧ RW K ρ N H x y
  | _, _, .nil, i => .inl ⟨rfl, rfl⟩
  | _, _, .cons q t, 0 => .inr ⟨_, _, rfl, rfl, q⟩
  | _, _, .cons q t, i + 1 => RWs.at2 t i
theorem RWs.arr {K : PySem.W.Frag} {ρ : Nat → Addr} {N : Nat} {H : Hp} {a : List PV} {b : List V} (r : RWs K ρ N H a b) : ∀ c : List Nat, RWs K ρ N H (GL.arr c a) (GL.arr c b)
  | [] => .nil
  | i :: c => by
    unfold GL.arr
    rw [List.filterMap_cons, List.filterMap_cons]
    rcases r.at2 i with ⟨e1, e2⟩ | ⟨x, y, e1, e2, q⟩
    · rw [e1, e2]; exact RWs.arr r c
    · rw [e1, e2]; exact .cons q (RWs.arr r c)
def KB (K : PySem.W.Frag) (fd : FuncData) (ps : List Str) (n : Nat) (ks : List Str) (c : List Nat) (dvs : List V) : Prop :=
  ∃ its : List Value, KBn K fd ps n ks (fun us ws => arr c (us ++ ws ++ its)) (fun vs zs => arr c (vs ++ zs ++ dvs))
section
variable {K : PySem.W.Frag} {x qual : Str} {params : Arguments} {body : List Stmt} {scope : Scope} {dvs : List V} {kws : List (Str × V)} {f : Addr} {fd : FuncData} {ps : List Str}
theorem kb_dfl (F : FunD K x qual params body scope dvs kws f fd) (n : Nat) (ks : List Str) (c : List Nat) (hd : dvs ≠ [])
    (h : ∀ (T : Addr) (kV doc pm : Value) (an : Option Addr) (cdv ct : Value) (us its ws : List Value), us.length = n → its.length = dvs.length → ws.length = ks.length →
      ∃ k, bindArgs (PySem.W.fnOf x qual params body scope (.ref T) kV doc pm an cdv ct) ⟨us, ks.zip ws⟩ = seqItems? (.ref T) >>= k ∧ k (some its.toArray) = pure (ps.zip (arr c (us ++ ws ++ its)))) : KB K fd ps n ks c dvs := by
  obtain ⟨its, B⟩ := F.kbindsD (ps := ps) n ks (fun us ds ws => arr c (us ++ ws ++ ds)) hd (fun r1 r2 r3 => Vals.arr ((r1.append r3).append r2) c) h
  exact ⟨its, B⟩
end
theorem gval_str {K : PySem.W.Frag} {x : Str} {l : List Nat} (h : x.cps.toList = l) : GVal K (.str x) (.str l) := fun _ _ _ => by rw [← h]; exact .str x
def tMakeKD (C : Addr) (n m : Nat) (sp : Sp) (gV : List V → List V → List V) (E : L2.St → XK) (t tk : TA) : TE := fun σ H Q => t σ H fun vs H1 => tk σ H1 fun zs H2 => vs.length = n ∧ zs.length = m ∧
  ∀ x dx, H2 x = none → H2 dx = none → dx ≠ x → sp (gV (.ref x :: vs) zs) (upd (upd H2 dx (.own x)) x (.ins C dx [])) (fun v H3 => v = .non ∧ Q (.ref x) H3) (E σ)
section
variable {X : Cx} {k n : Nat} {f C : Addr} {fd : FuncData} {ps ks : List Str} {sp : Sp} {E : L2.St → XK} {x m : Str} {p pos apos : Pos} {e o : Expr} {es : List Expr} {kws : List Keyword} {t tk : TA} {ta : TE} {g : List Value → List Value → List Value} {gV : List V → List V → List V}
theorem run_makeKD {pins : List (Addr × Obj)} {σ : L2.St} {H : Hp} {s : Shared} {Q : VK} {us ws : List Value} {vs zs : List V} (M : Mk X.K C f) (F : FnOk X.prog X.w X.K X.mg X.base (L2.CX X.prog X.w) k f fd ps sp) (hr : Room (k + 1) X.A) (hb : KBn X.K fd ps (n + 1) ks g gV)
    (hx : ∀ σ, PassesAt (L2.CX X.prog X.w) X σ (E σ)) (I : Inv X pins σ H s) (r : Vals vs us) (rz : Vals zs ws) (l1 : vs.length = n) (l2 : zs.length = ks.length)
    (h : ∀ x dx, H x = none → H dx = none → dx ≠ x → sp (gV (.ref x :: vs) zs) (upd (upd H dx (.own x)) x (.ins C dx [])) (fun v H2 => v = .non ∧ Q (.ref x) H2) (E σ)) :
    wpAny (model X.prog X.w) X.A (call (.ref C) us (ks.zip ws)) (EP X pins σ Q) X.xe s := by
  have hq := h (s.heap.objs.size + 1) s.heap.objs.size (I.hok.fresh (Nat.le_succ _)) (I.hok.fresh (Nat.le_refl _)) (Nat.ne_of_lt (Nat.lt_succ_self _))
  have I2 := Inv.made (C := C) I
  have r1 : Vals (V.ref (s.heap.objs.size + 1) :: vs) (Value.ref (s.heap.objs.size + 1) :: us) := .cons rfl r
  have r2 := hb.rel r1 rz
  have e1 : (Value.ref (s.heap.objs.size + 1) :: us).length = n + 1 := r1.length.symm.trans (congrArg Nat.succ l1)
  have e2 : ws.length = ks.length := rz.length.symm.trans l2
  refine wpAny_call (make_map (f := f) I.kIn M.makes M.init (beq_iff_eq.mp M.fn) (codeAny_mono (F.run _ X.stack _ _ ⟨Value.ref (s.heap.objs.size + 1) :: us, ks.zip ws⟩ (g (Value.ref (s.heap.objs.size + 1) :: us) ws) _ _ (E σ) (hr.make C us (ks.zip ws))
    (I2.env0.make C us (ks.zip ws)) (hb.to _ (Value.ref (s.heap.objs.size + 1) :: us) ws I2.kIn e1 e2) r2 hq) fun r s' hq' => ?_))
  cases r with
  | error e => exact hx σ pins _ _ e s' I2 hq'
  | ok fl =>
    cases fl with
    | ret u =>
      obtain ⟨v, H', I3, rv, ev, q3⟩ := I2.after hq'
      subst ev
      exact ⟨rv, ⟨V.ref (s.heap.objs.size + 1), H', I3, rfl, q3⟩⟩
    | next => exact False.elim hq'
    | brk => exact False.elim hq'
    | cont => exact False.elim hq'
end
abbrev IK (X : Cx) (Wx : L2.WX) (kws : List Keyword) (m : MA) : Prop := PK X kws (tA X.K Wx m)
section
variable {X : Cx} {Wx : L2.WX} {k n : Nat} {f C : Addr} {fd : FuncData} {ps ks : List Str} {x m : Str} {p pos apos kpos : Pos} {e o : Expr} {es : List Expr} {kws : List Keyword} {np N : Nat} {mb : MS} {me mo : ME} {ma mk : MA} {dvs : List V} {dws : List PV} {c : List Nat} {nm : Option Str} {cn : Nm}
theorem ik_nil : IK X Wx [] aNil := ⟨fun pos pins s σ H Q I ⟨ρ, S, ls, hS, hL, h⟩ => pk_nil.run pos pins s σ H Q I (h ρ H _ .refl hS .nil)⟩
theorem ik_cons (ha : IE X Wx e me) (hr : IK X Wx kws mk) : IK X Wx (⟨nm, e, kpos⟩ :: kws) (aCons me mk) :=
  ⟨fun pos pins s σ H Q I ⟨ρ, S, ls, hS, hL, h⟩ => (pk_cons ha hr).run pos pins s σ H Q I ⟨ρ, S, ls, hS, hL, (Post.bind (R := RW) h).imp fun x H1 ⟨ρ1, S1, w1, e1, hS1, r1, h1⟩ =>
    ⟨ρ1, S1, ls, hS1, hL.ext e1, (Post.bind (R := RWs) h1).imp fun xs H2 ⟨ρ2, S2, w2, e2, hS2, r2, h2⟩ => h2 ρ2 H2 _ .refl hS2 (.cons (r1.ext e2) r2)⟩⟩⟩
theorem sp_inA {σ : L2.St} {ρ : Nat → Addr} {S : Sto} {H : Hp} {ws : List PV} {vs : List V} {Ex : XK} {Q : VK} (hS : RSt X.K ρ H S) (r : RWs X.K ρ S.length H ws vs)
    (h : Post RW X.K ρ S.length H Ex (fnOf np N mb ws S) Q) : spI X.K np (fnOf np N mb) vs H Q Ex := by
  refine ⟨ρ, S, ws, hS, r, ?_, h⟩
  unfold fnOf at h
  split at h
  · assumption
  · exact h.elim
def eMakeK (n m : Nat) (c : List Nat) (C : Nm) (fn : MF) (dws : List PV) (args kws : MA) : ME := fun ls S => (args ls S).bind fun ws S1 => (kws ls S1).bind fun zs S2 =>
  if (decide (ws.length = n) && decide (zs.length = m)) = true then (fn (arr c (.loc S2.length :: ws ++ zs ++ dws)) (S2 ++ [.ins C []])).bind fun r S3 => match r with
    | .non => .ok (.loc S2.length) S3
    | _ => .bad
  else .bad
theorem makeK_in {σ : L2.St} {H : Hp} {Q : VK} {ta : TA} (g : GVals X.K dvs dws) (ha : ∀ σ H Q, tA X.K Wx ma σ H Q → ta σ H Q) (hC : C = He.ga X.K (toS cn)) (h : tE X.K Wx (eMakeK n ks.length c cn (fnOf np N mb) dws ma mk) σ H Q) :
    tMakeKD C n ks.length (spI X.K np (fnOf np N mb)) (fun vs zs => arr c (vs ++ zs ++ dvs)) (WE Wx) ta (tA X.K Wx mk) σ H Q := by
  obtain ⟨ρ, S, ls, hS, hL, h⟩ := h
  refine ha _ _ _ ⟨ρ, S, ls, hS, hL, (Post.bind (R := RWs) h).imp ?_⟩
  rintro vs H0 ⟨ρ0, S0, ws, e0, hS0, r0, h0⟩
  refine ⟨ρ0, S0, ls, hS0, hL.ext e0, (Post.bind (R := RWs) h0).imp ?_⟩
  rintro zs H1 ⟨ρ1, S1, us, e1, hS1, r1, h1⟩
  split at h1
  · rename_i hz
    obtain ⟨z1, z2⟩ := Bool.and_eq_true_iff.mp hz
    have z1 := of_decide_eq_true z1
    have z2 := of_decide_eq_true z2
    refine ⟨by rw [← r0.length]; exact z1, by rw [← r1.length]; exact z2, ?_⟩
    have r0 := r0.ext e1
    intro x dx hx hdx hne
    have e2 : Ext X.K ρ1 S1.length H1 ρ1 S1.length (upd H1 dx (.own x)) := ext_keep hdx
    have hx2 : (upd H1 dx (.own x)) x = none := by rw [upd_ne (Ne.symm hne)]; exact hx
    have e3 : Ext X.K ρ1 S1.length (upd H1 dx (.own x)) (grow ρ1 S1.length x) (S1 ++ [OB.ins cn []]).length (upd (upd H1 dx (.own x)) x (.ins C dx [])) := by
      rw [List.length_append, List.length_singleton]; exact ext_new hx2
    have s3 : RSt X.K (grow ρ1 S1.length x) (upd (upd H1 dx (.own x)) x (.ins C dx [])) (S1 ++ [OB.ins cn []]) := (hS1.keep hdx).new (o := .ins cn []) hx2 rfl ⟨dx, [], by rw [upd_same, hC], .nil⟩
    have rx : RW X.K (grow ρ1 S1.length x) (S1 ++ [OB.ins cn []]).length (upd (upd H1 dx (.own x)) x (.ins C dx [])) (.loc S1.length) (.ref x) := by
      have q : RW X.K (grow ρ1 S1.length x) (S1 ++ [OB.ins cn []]).length (upd (upd H1 dx (.own x)) x (.ins C dx [])) (.loc S1.length) (.ref (grow ρ1 S1.length x S1.length)) := .loc _ (by rw [List.length_append, List.length_singleton]; exact Nat.lt_succ_self _)
      rw [grow_new] at q
      exact q
    have rr : RWs X.K (grow ρ1 S1.length x) (S1 ++ [OB.ins cn []]).length (upd (upd H1 dx (.own x)) x (.ins C dx [])) (.loc S1.length :: ws ++ us ++ dws) (.ref x :: vs ++ zs ++ dvs) := (RWs.app (RWs.app (.cons rx ((r0.ext e2).ext e3)) ((r1.ext e2).ext e3)) g.rel)
    refine sp_inA (σ := σ) s3 (RWs.arr rr c) ((Post.bind (R := RW) (Post.ext (e2.trans e3) h1)).imp ?_)
    rintro v H4 ⟨ρ4, S4, w4, e4, hS4, r4, h4⟩
    split at h4
    · cases r4
      exact ⟨rfl, h4 ρ4 H4 _ .refl hS4 (rx.ext e4)⟩
    · exact h4.elim
  · exact h1.elim
end
end GL
set_option Elab.async false
set_option linter.all false
set_option maxRecDepth 100000
set_option maxHeartbeats 1000000
namespace GL
open PySem PySem.Spec PyProof.Rows L2
end GL
set_option Elab.async false
set_option linter.all false
set_option maxRecDepth 100000
set_option maxHeartbeats 1000000
namespace GL
open PySem PySem.Spec PyProof.Rows L2
end GL
set_option Elab.async false
set_option linter.all false
set_option maxRecDepth 100000
set_option maxHeartbeats 1000000
namespace L2
open PySem PySem.Spec PyProof.Rows
variable {X : Cx} {pos : Pos}
def gFld (K : PySem.W.Frag) (to : TE) (f : Str) : TG := fun v σ H Q => to σ H fun x H1 => ∃ a C dx fs, x = .ref a ∧ H1 a = some (.ins C dx fs) ∧ Cls K C ∧ NoAttr K C f ∧ fs.length < 1000 ∧ Q σ (upd H1 a (.ins C dx (putF f v fs)))
end L2
namespace GL
open PySem PySem.Spec PyProof.Rows L2
end GL
set_option Elab.async false
set_option linter.all false
set_option maxRecDepth 100000
set_option maxHeartbeats 1000000
namespace GL
open PySem PySem.Spec PyProof.Rows L2
end GL
set_option Elab.async false
set_option linter.all false
set_option maxRecDepth 100000
set_option maxHeartbeats 400000
namespace GL
open PySem PySem.Spec PyProof.Rows L2
section
variable {X : Cx} {Wx : L2.WX} {k : Nat} {f C : Addr} {fd : FuncData} {ps ks : List Str} {sp : Sp} {E : L2.St → XK} {x : Str} {p pos : Pos} {kws : List Keyword} {tk : TA} {g : List Value → List Value → List Value} {gV : List V → List V → List V}
variable {np N : Nat} {mb : MS} {mk : MA} {dvs : List V} {dws : List PV} {c : List Nat} {cn : Nm}
theorem pe_makeKD0 (M : Mk X.K C f) (F : FnOk X.prog X.w X.K X.mg X.base (L2.CX X.prog X.w) k f fd ps sp) (hr : Room (k + 1) X.A) (hg : Gl X x) (hm : X.mg x = some (.ref C)) (hb : KBn X.K fd ps 1 ks g gV) (hx : ∀ σ, PassesAt (L2.CX X.prog X.w) X σ (E σ))
    (hkw : PK X kws tk) (hall : (backToKw pos (keywordEach kws X.env)).all (·.1.isSome) = true := by rfl) (hks : (backToKw pos (keywordEach kws X.env)).filterMap (·.1) = ks := by rfl)
    (hdb : (x == ("__debug__" : Str)) = false := by decide)
    (hpl : ((backTo pos (starEach [] X.env)).any (·.1) || (backToKw pos (keywordEach kws X.env)).any (·.1.isNone)) = false := by rfl) :
    PE X (.Call (.Name x p) [] kws pos) (tMakeKD C 0 ks.length sp gV E tNil tk) := by
  refine ⟨fun pins s σ H Q I h => ?_⟩
  refine wpAny_Call_Name_kw (ld_glob I hg hm ?_ hdb)
  refine PySem.W.callWith_KW0 (h₀ := X.base) I.ok.mod.kin M.kp hall ?_ hpl
  refine thn (hkw.run pos pins s σ H _ I h) fun ws s2 ⟨zs, H2, I2, rz, l1, l2, q2⟩ => ⟨I2.kIn, ?_⟩
  rw [hks]
  exact run_makeKD (us := []) (vs := []) M F hr hb hx I2 .nil rz rfl l2 q2
theorem ie_makeK0 {nk : Nat} (tk : Takes X Wx) (M : Mk X.K C f) (hC : C = He.ga X.K (toS cn)) (F : FI X.prog X.w X.K X.mg X.base k f fd ps (fnOf np N mb)) (hnp : ps.length = np) (hr : Room (k + 1) X.A) (hm : X.mg x = some (.ref C)) (hb : KB X.K fd ps 1 ks c dvs) (g : GVals X.K dvs dws)
    (hkw : IK X Wx kws mk) (hg : Gl X x := by rfl) (hall : (backToKw pos (keywordEach kws X.env)).all (·.1.isSome) = true := by rfl) (hks : (backToKw pos (keywordEach kws X.env)).filterMap (·.1) = ks := by rfl)
    (hdb : (x == ("__debug__" : Str)) = false := by decide)
    (hpl : ((backTo pos (starEach [] X.env)).any (·.1) || (backToKw pos (keywordEach kws X.env)).any (·.1.isNone)) = false := by rfl) (hl : ks.length = nk := by rfl) :
    IE X Wx (.Call (.Name x p) [] kws pos) (eMakeK 0 nk c cn (fnOf np N mb) dws aNil mk) := by
  subst hl
  obtain ⟨its, hb⟩ := hb
  exact PEi (pe_makeKD0 (E := WE Wx) M F hr hg hm hb (passAt tk) hkw hall hks hdb hpl) fun σ H Q h => by
    rw [hnp]; exact makeK_in g (fun σ H Q ⟨ρ, S, ls, hS, hL, h⟩ => h ρ H _ .refl hS .nil) hC h
end
end GL
set_option Elab.async false
set_option linter.all false
set_option maxRecDepth 100000
set_option maxHeartbeats 400000
namespace K44
open GL
open PySem (Str)
abbrev n_stop : List Nat := [115, 116, 111, 112]
abbrev n_z : List Nat := [122]
abbrev n_be : List Nat := [98, 101]
abbrev n_c : List Nat := [99]
abbrev n_bad_ : List Nat := [98, 97, 100, 32]
abbrev n_Bad : List Nat := [66, 97, 100]
abbrev n_empty : List Nat := []
abbrev n_ba : List Nat := [98, 97]
abbrev n_b : List Nat := [98]
abbrev n_ab : List Nat := [97, 98]
abbrev n_aa : List Nat := [97, 97]
abbrev n_a : List Nat := [97]
abbrev n_start : List Nat := [115, 116, 97, 114, 116]
abbrev n_left : List Nat := [108, 101, 102, 116]
abbrev n_bad : List Nat := [98, 97, 100]
abbrev n_u : List Nat := [117]
abbrev n_down : List Nat := [100, 111, 119, 110]
abbrev n_up : List Nat := [117, 112]
abbrev n_first : List Nat := [102, 105, 114, 115, 116]
abbrev n_rows : List Nat := [114, 111, 119, 115]
abbrev n_Table : List Nat := [84, 97, 98, 108, 101]
abbrev n_further : List Nat := [102, 117, 114, 116, 104, 101, 114]
abbrev n_moves : List Nat := [109, 111, 118, 101, 115]
abbrev n_scenario : List Nat := [115, 99, 101, 110, 97, 114, 105, 111]
abbrev n_states : List Nat := [115, 116, 97, 116, 101, 115]
def tabL : List (Nm × Nm) := [(n_Table, n_first), (n_Table, n_rows)]
def tab (C f : Nm) : Bool := tabL.any fun p => decide (p.1 = C) && decide (p.2 = f)
abbrev w_BAD : PV := (.str [98, 97, 100])
def m_law_row : MS := (sSeq (sSet 2 (eLst aNil))
  (sSeq (sFor (iSeq (eVar 0)) (gN 3)
  (sSeq (sSet 4 (eB fAbs (aCons (eB fInt (aCons (eVar 3) aNil)) aNil)))
  (sFor (iR1 (eC (.int 60))) (gN 5)
  (sSeq (sIf (toT (eOp gLt (eB fLen (aCons (eVar 2) aNil)) (eVar 1)))
  (sExpr (eMt kList mAppend (eVar 2) (aCons (eOp gMod (eVar 4) (eC (.int 16))) aNil)))
  sNil)
  (sSeq (sSet 4 (eOp gDiv (eVar 4) (eC (.int 16))))
  (sIf (toT (eOp gEq (eVar 4) (eC (.int 0))))
  sBk
  sNil))))))
  (sRet (eVar 2))))
abbrev f_law_row : MF := fnOf 2 6 m_law_row
def m_law_digit : MS := (sSeq (sIf (toT (eOp gLt (eVar 1) (eB fLen (aCons (eVar 0) aNil))))
  (sRet (eOp gIx (eVar 0) (eVar 1)))
  sNil)
  (sRet (eC (.int 0))))
abbrev f_law_digit : MF := fnOf 2 2 m_law_digit
def m_law_places : MS := (sRet (eLst (aCons (eC (.str n_start)) (aCons (eC (.str n_a)) (aCons (eC (.str n_aa)) (aCons (eC (.str n_ab)) (aCons (eC (.str n_b)) (aCons (eC (.str n_ba)) (aCons (eC (.str n_empty)) (aCons (eC (.str n_Bad)) (aCons (eC (.str n_bad_)) (aCons (eC (.str n_c)) (aCons (eC (.str n_be)) (aCons (eC (.str n_z)) (aCons (eC (.str n_stop)) aNil)))))))))))))))
abbrev f_law_places : MF := fnOf 0 0 m_law_places
def m_law_begin : MS := (sSeq (sSet 2 (eOp gAdd (eC (.int 2)) (eOp gMod (eB fInt (aCons (eCall f_law_digit [] (aCons (eVar 0) (aCons (eVar 1) aNil))) aNil)) (eC (.int 12)))))
  (sRet (eOp gIx (eCall f_law_places [] aNil) (eOp gMod (eB fInt (aCons (eCall f_law_digit [] (aCons (eVar 0) (aCons (eOp gAdd (eVar 1) (eC (.int 3))) aNil))) aNil)) (eVar 2)))))
abbrev f_law_begin : MF := fnOf 2 3 m_law_begin
def m_law_pick : MS := (sSeq (sSet 3 (eC (.int 0)))
  (sSeq (sIf (toT (eOp gLt (eVar 1) (eB fLen (aCons (eVar 0) aNil))))
  (sSet 3 (eOp gIx (eVar 0) (eVar 1)))
  sNil)
  (sSeq (sIf (toT (eOp gLt (eOp gAdd (eVar 1) (eC (.int 1))) (eB fLen (aCons (eVar 0) aNil))))
  (sSet 3 (eOp gAdd (eVar 3) (eOp gMul (eC (.int 16)) (eOp gIx (eVar 0) (eOp gAdd (eVar 1) (eC (.int 1)))))))
  sNil)
  (sRet (eOp gMod (eB fInt (aCons (eVar 3) aNil)) (eVar 2))))))
abbrev f_law_pick : MF := fnOf 3 4 m_law_pick
def m_law_listed : MS := (sSeq (sSet 2 (eCall f_law_places [] aNil))
  (sSeq (sSet 3 (eLst (aCons (eC (.str n_up)) (aCons (eC (.str n_down)) (aCons (eC (.str n_u)) (aCons (eC (.str n_empty)) (aCons (eC (.str n_bad)) (aCons (eC (.str n_left)) (aCons (eC (.str n_a)) aNil)))))))))
  (sSeq (sSet 4 (eOp gAdd (eC (.int 2)) (eOp gMod (eB fInt (aCons (eCall f_law_digit [] (aCons (eVar 0) (aCons (eVar 1) aNil))) aNil)) (eC (.int 12)))))
  (sSeq (sSet 5 (eLst aNil))
  (sSeq (sFor (iR1 (eC (.int 4))) (gN 6)
  (sFor (iR1 (eVar 4)) (gN 7)
  (sSeq (sSet 8 (eOp gAdd (eOp gAdd (eVar 1) (eC (.int 4))) (eOp gMul (eC (.int 6)) (eVar 7))))
  (sIf (toT (eOp gLt (eVar 6) (eOp gMod (eB fInt (aCons (eOp gAdd (eCall f_law_digit [] (aCons (eVar 0) (aCons (eVar 8) aNil))) (eC (.int 1))) aNil)) (eC (.int 5)))))
  (sSeq (sSet 9 (eOp gMod (eB fInt (aCons (eOp gAdd (eOp gAdd (eCall f_law_digit [] (aCons (eVar 0) (aCons (eOp gAdd (eOp gAdd (eVar 8) (eC (.int 2))) (eVar 6)) aNil))) (eVar 7)) (eC (.int 1))) aNil)) (eOp gAdd (eVar 4) (eC (.int 1)))))
  (sSeq (sSet 10 (eC (.str n_bad)))
  (sSeq (sIf (toT (eOp gLt (eVar 9) (eVar 4)))
  (sSet 10 (eOp gIx (eVar 2) (eVar 9)))
  sNil)
  (sExpr (eMt kList mAppend (eVar 5) (aCons (eTup (aCons (eOp gIx (eVar 2) (eVar 7)) (aCons (eOp gIx (eVar 3) (eOp gMod (eB fInt (aCons (eOp gAdd (eCall f_law_digit [] (aCons (eVar 0) (aCons (eOp gAdd (eVar 8) (eC (.int 1))) aNil))) (eVar 6)) aNil)) (eC (.int 7)))) (aCons (eVar 10) aNil)))) aNil))))))
  sNil))))
  (sSeq (sSet 11 (eCall f_law_pick [] (aCons (eVar 0) (aCons (eOp gAdd (eVar 1) (eC (.int 1))) (aCons (eOp gAdd (eB fLen (aCons (eVar 5) aNil)) (eC (.int 1))) aNil)))))
  (sRet (eOp gAdd (eSl (eVar 5) (oYes (eVar 11)) oNo) (eSl (eVar 5) oNo (oYes (eVar 11)))))))))))
abbrev f_law_listed : MF := fnOf 2 12 m_law_listed
def m_Table_init : MS := (sSeq (sFldM tab n_first (eVar 0) (eVar 1))
  (sFldM tab n_rows (eVar 0) (eLc (iSeq (eVar 2)) (gN 3) tYesM (eB fTuple (aCons (eVar 3) aNil)) [3])))
abbrev f_Table_init : MF := fnOf 3 4 m_Table_init
def m_law_far : MS := (sSeq (sSet 1 (eDisp [((eC (.str n_bad)), (eC (.int 0)))]))
  (sSeq (sFor (iR1 (eC (.int 14))) (gN 2)
  (sFor (iSeq (eVar 0)) (gN 3)
  (sIf (tAndM (toT (eDIn false (eOp gIx (eVar 3) (eC (.int 2))) (eVar 1))) (tOrM (toT (eDIn true (eOp gIx (eVar 3) (eC (.int 0))) (eVar 1))) (toT (eOp gGt (eDGet (eVar 1) (eOp gIx (eVar 3) (eC (.int 0)))) (eOp gAdd (eC (.int 1)) (eDGet (eVar 1) (eOp gIx (eVar 3) (eC (.int 2)))))))))
  (sDPutM (eVar 1) (eOp gIx (eVar 3) (eC (.int 0))) (eOp gAdd (eC (.int 1)) (eDGet (eVar 1) (eOp gIx (eVar 3) (eC (.int 2))))))
  sNil)))
  (sRet (eVar 1))))
abbrev f_law_far : MF := fnOf 1 4 m_law_far
def m_law_due : MS := (sSeq (sSet 2 (eCall f_law_far [] (aCons (eVar 0) aNil)))
  (sSeq (sIf (toT (eDIn true (eVar 1) (eVar 2)))
  (sRet (eC .non))
  sNil)
  (sSeq (sSet 3 (eLst aNil))
  (sSeq (sSet 4 (eVar 1))
  (sSeq (sFor (iR1 (eDGet (eVar 2) (eVar 1))) (gN 5)
  (sSeq (sSet 6 (eVar 4))
  (sSeq (sFor (iSeq (eVar 0)) (gN 7)
  (sIf (tAndM (toT (eOp gEq (eOp gIx (eVar 7) (eC (.int 0))) (eVar 4))) (tAndM (toT (eOp gEq (eVar 6) (eVar 4))) (tAndM (toT (eDIn false (eOp gIx (eVar 7) (eC (.int 2))) (eVar 2))) (toT (eOp gEq (eDGet (eVar 2) (eOp gIx (eVar 7) (eC (.int 2)))) (eOp gSub (eDGet (eVar 2) (eVar 4)) (eC (.int 1))))))))
  (sSeq (sSet 6 (eOp gIx (eVar 7) (eC (.int 2))))
  (sExpr (eMt kList mAppend (eVar 3) (aCons (eOp gIx (eVar 7) (eC (.int 1))) aNil))))
  sNil))
  (sSet 4 (eVar 6)))))
  (sRet (eVar 3)))))))
abbrev f_law_due : MF := fnOf 2 8 m_law_due
def m_Table_start : MS := (sRet (eFld tab n_first (eVar 0)))
abbrev f_Table_start : MF := fnOf 1 1 m_Table_start
def m_Table_moves : MS := (sRet (eLc (iSeq (eFld tab n_rows (eVar 0))) (gT (gsCons (gN 2) (gsCons (gN 3) (gsCons (gN 4) gsNil)))) (toT (eOp gEq (eVar 2) (eVar 1))) (eTup (aCons (eVar 3) (aCons (eVar 4) aNil))) [2, 3, 4]))
abbrev f_Table_moves : MF := fnOf 2 5 m_Table_moves
def m_Table_scenario : MS := (sSeq (sSet 1 (eDisp [((eMeth n_Table n_start f_Table_start [] (eVar 0) aNil), (eTup aNil))]))
  (sSeq (sSet 2 (eLst (aCons (eMeth n_Table n_start f_Table_start [] (eVar 0) aNil) aNil)))
  (sSeq (sSet 3 (eC (.int 0)))
  (sSeq (whileL (toT (eOp gLt (eVar 3) (eB fLen (aCons (eVar 2) aNil))))
  (sSeq (sSet 4 (eOp gIx (eVar 2) (eVar 3)))
  (sSeq (sFor (iSeq (eMeth n_Table n_moves f_Table_moves [] (eVar 0) (aCons (eVar 4) aNil))) (gT (gsCons (gN 5) (gsCons (gN 6) gsNil)))
  (sSeq (sIf (toT (eOp gEq (eVar 6) (eC w_BAD)))
  (sRet (eOp gAdd (eB fList (aCons (eDGet (eVar 1) (eVar 4)) aNil)) (eLst (aCons (eVar 5) aNil))))
  sNil)
  (sIf (toT (eDIn true (eVar 6) (eVar 1)))
  (sSeq (sDPutM (eVar 1) (eVar 6) (eOp gAdd (eDGet (eVar 1) (eVar 4)) (eTup (aCons (eVar 5) aNil))))
  (sExpr (eMt kList mAppend (eVar 2) (aCons (eVar 6) aNil))))
  sNil)))
  (sAug 3 (gInt fun i j => i + j) (eC (.int 1))))) 4000)
  (sRet (eC .non))))))
abbrev f_Table_scenario : MF := fnOf 1 7 m_Table_scenario
def m_law_whole : MS := (sRet (eAndM (eB fIsi (aCons (eVar 0) (aCons (eC (.ty .int)) aNil))) (eNotM (eB fIsi (aCons (eVar 0) (aCons (eC (.ty .bool)) aNil))))))
abbrev f_law_whole : MF := fnOf 1 1 m_law_whole
def m_law_equal : MS := (sSeq (sSet 2 (eLst (aCons (eTup (aCons (eVar 0) (aCons (eVar 1) aNil))) aNil)))
  (sSeq (sFor (iR1 (eC (.int 6000))) (gN 3)
  (sSeq (sIf (toT (eOp gEq (eB fLen (aCons (eVar 2) aNil)) (eC (.int 0))))
  (sRet (eC (.bl true)))
  sNil)
  (sSeq (sSet 4 (eMt kList mPop (eVar 2) aNil))
  (sSeq (sSet 5 (eOp gIx (eVar 4) (eC (.int 0))))
  (sSeq (sSet 6 (eOp gIx (eVar 4) (eC (.int 1))))
  (sIf (tOrM (toT (eOp (isM false) (eVar 6) (eC .non))) (toT (eB fIsi (aCons (eVar 6) (aCons (eC (.ty .bool)) aNil)))))
  (sIf (tOrM (toT (eOp gNe (eB fIsi (aCons (eVar 5) (aCons (eC (.ty .bool)) aNil))) (eB fIsi (aCons (eVar 6) (aCons (eC (.ty .bool)) aNil))))) (toT (eOp gNe (eVar 5) (eVar 6))))
  (sRet (eC (.bl false)))
  sNil)
  (sIf (toT (eB fIsi (aCons (eVar 6) (aCons (eC (.ty .int)) aNil))))
  (sIf (tOrM (tNotM (toT (eCall f_law_whole [] (aCons (eVar 5) aNil)))) (toT (eOp gNe (eVar 5) (eVar 6))))
  (sRet (eC (.bl false)))
  sNil)
  (sIf (toT (eB fIsi (aCons (eVar 6) (aCons (eC (.ty .str)) aNil))))
  (sIf (tOrM (tNotM (toT (eB fIsi (aCons (eVar 5) (aCons (eC (.ty .str)) aNil))))) (toT (eOp gNe (eVar 5) (eVar 6))))
  (sRet (eC (.bl false)))
  sNil)
  (sSeq (sIf (tOrM (toT (eOp gNe (eB fIsi (aCons (eVar 5) (aCons (eC (.ty .list)) aNil))) (eB fIsi (aCons (eVar 6) (aCons (eC (.ty .list)) aNil))))) (toT (eOp gNe (eB fIsi (aCons (eVar 5) (aCons (eC (.ty .tuple)) aNil))) (eB fIsi (aCons (eVar 6) (aCons (eC (.ty .tuple)) aNil))))))
  (sRet (eC (.bl false)))
  sNil)
  (sSeq (sIf (toT (eB fIsi (aCons (eVar 6) (aCons (eC (.ty .dict)) aNil))))
  (sSeq (sIf (tOrM (tNotM (toT (eB fIsi (aCons (eVar 5) (aCons (eC (.ty .dict)) aNil))))) (toT (eOp gNe (eB fList (aCons (eVar 5) aNil)) (eB fList (aCons (eVar 6) aNil)))))
  (sRet (eC (.bl false)))
  sNil)
  (sSeq (sSet 5 (eLc (iSeq (eVar 6)) (gN 7) tYesM (eOp gIx (eVar 5) (eVar 7)) [7]))
  (sSet 6 (eLc (iSeq (eVar 6)) (gN 7) tYesM (eOp gIx (eVar 6) (eVar 7)) [7]))))
  sNil)
  (sSeq (sIf (toT (eOp gNe (eB fLen (aCons (eVar 5) aNil)) (eB fLen (aCons (eVar 6) aNil))))
  (sRet (eC (.bl false)))
  sNil)
  (sFor (iR1 (eB fLen (aCons (eVar 6) aNil))) (gN 8)
  (sExpr (eMt kList mAppend (eVar 2) (aCons (eTup (aCons (eOp gIx (eVar 5) (eVar 8)) (aCons (eOp gIx (eVar 6) (eVar 8)) aNil))) aNil)))))))))))))))
  (sRet (eC (.bl false)))))
abbrev f_law_equal : MF := fnOf 2 9 m_law_equal
def m_Table_states : MS := (sSeq (sSet 1 (eLst (aCons (eMeth n_Table n_start f_Table_start [] (eVar 0) aNil) aNil)))
  (sSeq (sSet 2 (eC (.int 0)))
  (sSeq (whileL (toT (eOp gLt (eVar 2) (eB fLen (aCons (eVar 1) aNil))))
  (sSeq (sFor (iSeq (eMeth n_Table n_moves f_Table_moves [] (eVar 0) (aCons (eOp gIx (eVar 1) (eVar 2)) aNil))) (gT (gsCons (gN 3) (gsCons (gN 4) gsNil)))
  (sIf (tAndM (toT (eOp gNe (eVar 4) (eC w_BAD))) (toT (eOp (inM true) (eVar 4) (eVar 1))))
  (sExpr (eMt kList mAppend (eVar 1) (aCons (eVar 4) aNil)))
  sNil))
  (sAug 2 (gInt fun i j => i + j) (eC (.int 1)))) 4000)
  (sRet (eVar 1)))))
abbrev f_Table_states : MF := fnOf 1 5 m_Table_states
def m_law_of : MS := (sRet (eLc (iSeq (eVar 0)) (gN 2) (toT (eOp gEq (eOp gIx (eVar 2) (eC (.int 0))) (eVar 1))) (eTup (aCons (eOp gIx (eVar 2) (eC (.int 1))) (aCons (eOp gIx (eVar 2) (eC (.int 2))) aNil))) [2]))
abbrev f_law_of : MF := fnOf 2 3 m_law_of
def m_law_reached : MS := (sSeq (sSet 2 (eLst (aCons (eVar 1) aNil)))
  (sSeq (sFor (iR1 (eC (.int 14))) (gN 3)
  (sIf (toT (eOp gLt (eVar 3) (eB fLen (aCons (eVar 2) aNil))))
  (sFor (iSeq (eCall f_law_of [] (aCons (eVar 0) (aCons (eOp gIx (eVar 2) (eVar 3)) aNil)))) (gN 4)
  (sIf (tAndM (toT (eOp gNe (eOp gIx (eVar 4) (eC (.int 1))) (eC (.str n_bad)))) (toT (eOp (inM true) (eOp gIx (eVar 4) (eC (.int 1))) (eVar 2))))
  (sExpr (eMt kList mAppend (eVar 2) (aCons (eOp gIx (eVar 4) (eC (.int 1))) aNil)))
  sNil))
  sNil))
  (sRet (eVar 2))))
abbrev f_law_reached : MF := fnOf 2 5 m_law_reached
def m_law_asked : MS := (sSeq (sSet 3 (eCall f_law_due [] (aCons (eVar 2) (aCons (eVar 1) aNil))))
  (sSeq (sSet 4 (eMeth n_Table n_scenario f_Table_scenario [] (eVar 0) aNil))
  (sSeq (sIf (tOrM (tNotM (toT (eCall f_law_equal [] (aCons (eMeth n_Table n_start f_Table_start [] (eVar 0) aNil) (aCons (eVar 1) aNil))))) (tNotM (toT (eCall f_law_equal [] (aCons (eVar 4) (aCons (eVar 3) aNil))))))
  (sRet (eC (.bl false)))
  sNil)
  (sSeq (sIf (toT (eOp (isM true) (eVar 4) (eC .non)))
  (sExpr (eMt kList mAppend (eVar 4) (aCons (eC (.str n_further)) aNil)))
  sNil)
  (sSeq (sSet 5 (eMeth n_Table n_states f_Table_states [] (eVar 0) aNil))
  (sSeq (sIf (tNotM (toT (eCall f_law_equal [] (aCons (eVar 5) (aCons (eCall f_law_reached [] (aCons (eVar 2) (aCons (eVar 1) aNil))) aNil)))))
  (sRet (eC (.bl false)))
  sNil)
  (sSeq (sExpr (eMt kList mAppend (eVar 5) (aCons (eC (.str n_further)) aNil)))
  (sSeq (sFor (iSeq (eCall f_law_places [] aNil)) (gN 6)
  (sSeq (sSet 7 (eMeth n_Table n_moves f_Table_moves [] (eVar 0) (aCons (eVar 6) aNil)))
  (sSeq (sIf (tNotM (toT (eCall f_law_equal [] (aCons (eVar 7) (aCons (eCall f_law_of [] (aCons (eVar 2) (aCons (eVar 6) aNil))) aNil)))))
  (sRet (eC (.bl false)))
  sNil)
  (sSeq (sExpr (eMt kList mAppend (eVar 7) (aCons (eTup (aCons (eC (.str n_further)) (aCons (eC (.str n_bad)) aNil))) aNil)))
  (sIf (tNotM (toT (eCall f_law_equal [] (aCons (eMeth n_Table n_moves f_Table_moves [] (eVar 0) (aCons (eVar 6) aNil)) (aCons (eCall f_law_of [] (aCons (eVar 2) (aCons (eVar 6) aNil))) aNil)))))
  (sRet (eC (.bl false)))
  sNil)))))
  (sRet (eAndM (eCall f_law_equal [] (aCons (eMeth n_Table n_scenario f_Table_scenario [] (eVar 0) aNil) (aCons (eVar 3) aNil))) (eCall f_law_equal [] (aCons (eMeth n_Table n_states f_Table_states [] (eVar 0) aNil) (aCons (eCall f_law_reached [] (aCons (eVar 2) (aCons (eVar 1) aNil))) aNil)))))))))))))
abbrev f_law_asked : MF := fnOf 3 8 m_law_asked
def m_law_bare : MS := (sSeq (sIf (tOrM (tNotM (toT (eCall f_law_equal [] (aCons (eMeth n_Table n_start f_Table_start [] (eVar 0) aNil) (aCons (eVar 1) aNil))))) (tNotM (toT (eCall f_law_equal [] (aCons (eMeth n_Table n_moves f_Table_moves [] (eVar 0) (aCons (eVar 1) aNil)) (aCons (eLst aNil) aNil))))))
  (sRet (eC (.bl false)))
  sNil)
  (sRet (eAndM (eOp (isM false) (eMeth n_Table n_scenario f_Table_scenario [] (eVar 0) aNil) (eC .non)) (eCall f_law_equal [] (aCons (eMeth n_Table n_states f_Table_states [] (eVar 0) aNil) (aCons (eLst (aCons (eVar 1) aNil)) aNil))))))
abbrev f_law_bare : MF := fnOf 2 2 m_law_bare
def m_law : MS := (sSeq (sSet 1 (eCall f_law_row [] (aCons (eVar 0) (aCons (eC (.int 170)) aNil))))
  (sSeq (sSet 2 (eCall f_law_begin [] (aCons (eVar 1) (aCons (eC (.int 0)) aNil))))
  (sSeq (sSet 3 (eCall f_law_listed [] (aCons (eVar 1) (aCons (eC (.int 0)) aNil))))
  (sSeq (sSet 4 (eB fList (aCons (eVar 3) aNil)))
  (sSeq (sSet 5 (eMake n_Table f_Table_init [] (aCons (eVar 2) (aCons (eVar 4) aNil))))
  (sSeq (sExpr (eMt kList mAppend (eVar 4) (aCons (eTup (aCons (eVar 2) (aCons (eC (.str n_further)) (aCons (eC (.str n_bad)) aNil)))) aNil)))
  (sSeq (sSet 6 (eCall f_law_begin [] (aCons (eVar 1) (aCons (eC (.int 84)) aNil))))
  (sSeq (sSet 7 (eCall f_law_listed [] (aCons (eVar 1) (aCons (eC (.int 84)) aNil))))
  (sSeq (sSet 8 (eMakeK 0 2 [0, 2, 1] n_Table f_Table_init [(.str [115, 116, 97, 114, 116]), (.tup [])] aNil (aCons (eB fTuple (aCons (eVar 7) aNil)) (aCons (eVar 6) aNil))))
  (sSeq (sIf (tOrM (tNotM (toT (eCall f_law_asked [] (aCons (eVar 5) (aCons (eVar 2) (aCons (eVar 3) aNil)))))) (tNotM (toT (eCall f_law_asked [] (aCons (eVar 8) (aCons (eVar 6) (aCons (eVar 7) aNil)))))))
  (sRet (eC (.bl false)))
  sNil)
  (sSeq (sExpr (eMt kList mClear (eVar 4) aNil))
  (sSeq (sIf (tOrM (tNotM (toT (eCall f_law_asked [] (aCons (eVar 5) (aCons (eVar 2) (aCons (eVar 3) aNil)))))) (tNotM (toT (eCall f_law_asked [] (aCons (eVar 8) (aCons (eVar 6) (aCons (eVar 7) aNil)))))))
  (sRet (eC (.bl false)))
  sNil)
  (sSeq (sIf (tOrM (tNotM (toT (eCall f_law_bare [] (aCons (eMake n_Table f_Table_init [(.str [115, 116, 97, 114, 116]), (.tup [])] aNil) (aCons (eC (.str n_start)) aNil))))) (tNotM (toT (eCall f_law_bare [] (aCons (eMake n_Table f_Table_init [(.tup [])] (aCons (eVar 6) aNil)) (aCons (eVar 6) aNil))))))
  (sRet (eC (.bl false)))
  sNil)
  (sRet (eAndM (eB fIsi (aCons (eC w_BAD) (aCons (eC (.ty .str)) aNil))) (eOp gEq (eC w_BAD) (eC (.str n_bad))))))))))))))))))
abbrev f_law : MF := fnOf 1 9 m_law
end K44
set_option Elab.async false
set_option linter.all false
set_option maxRecDepth 100000
set_option maxHeartbeats 400000
namespace K44
open PySem PySem.Spec PyProof.Rows L2 GL
def top (i : Nat) : Stmt := PySem.Challenge.pw_guestlives_k44_shortest_moves_of_explici.main.body.getD i (.Pass ⟨0, 0, 0, 0⟩)
abbrev st_law_row : Stmt := top 4
abbrev N_law_row : List Str := ["_law_script", "_law_most", "_law_row_here", "_law_cell", "_law_rest", "_law_k"]
abbrev ps_law_row : List Str := ["_law_script", "_law_most"]
theorem sc_law_row : FnScope N_law_row ps_law_row (defScope st_law_row) := ⟨rfl, rfl, rfl, by decide +kernel, rfl, by decide +kernel, by decide +kernel⟩
abbrev st_law_digit : Stmt := top 5
abbrev N_law_digit : List Str := ["_law_row_here", "_law_at"]
abbrev ps_law_digit : List Str := ["_law_row_here", "_law_at"]
theorem sc_law_digit : FnScope N_law_digit ps_law_digit (defScope st_law_digit) := ⟨rfl, rfl, rfl, by decide +kernel, rfl, by decide +kernel, by decide +kernel⟩
abbrev st_law_places : Stmt := top 9
abbrev N_law_places : List Str := []
abbrev ps_law_places : List Str := []
theorem sc_law_places : FnScope N_law_places ps_law_places (defScope st_law_places) := ⟨rfl, rfl, rfl, by decide +kernel, rfl, by decide +kernel, by decide +kernel⟩
abbrev st_law_begin : Stmt := top 11
abbrev N_law_begin : List Str := ["_law_row_here", "_law_at", "_law_count"]
abbrev ps_law_begin : List Str := ["_law_row_here", "_law_at"]
theorem sc_law_begin : FnScope N_law_begin ps_law_begin (defScope st_law_begin) := ⟨rfl, rfl, rfl, by decide +kernel, rfl, by decide +kernel, by decide +kernel⟩
abbrev st_law_pick : Stmt := top 6
abbrev N_law_pick : List Str := ["_law_row_here", "_law_at", "_law_limit", "_law_value"]
abbrev ps_law_pick : List Str := ["_law_row_here", "_law_at", "_law_limit"]
theorem sc_law_pick : FnScope N_law_pick ps_law_pick (defScope st_law_pick) := ⟨rfl, rfl, rfl, by decide +kernel, rfl, by decide +kernel, by decide +kernel⟩
abbrev st_law_listed : Stmt := top 10
abbrev N_law_listed : List Str := ["_law_row_here", "_law_at", "_law_places_here", "_law_moves", "_law_count", "_law_listed_here", "_law_j", "_law_k", "_law_base", "_law_end", "_law_after", "_law_turn"]
abbrev ps_law_listed : List Str := ["_law_row_here", "_law_at"]
theorem sc_law_listed : FnScope N_law_listed ps_law_listed (defScope st_law_listed) := ⟨rfl, rfl, rfl, by decide +kernel, rfl, by decide +kernel, by decide +kernel⟩
abbrev st_Table_init : Stmt := inClass (top 2) 0
abbrev N_Table_init : List Str := ["self", "first", "rows", "row"]
abbrev ps_Table_init : List Str := ["self", "first", "rows"]
theorem sc_Table_init : FnScope N_Table_init ps_Table_init (defScope st_Table_init) := ⟨rfl, rfl, rfl, by decide +kernel, rfl, by decide +kernel, by decide +kernel⟩
abbrev st_law_far : Stmt := top 13
abbrev N_law_far : List Str := ["_law_listed_here", "_law_far_here", "_law_k", "_law_one"]
abbrev ps_law_far : List Str := ["_law_listed_here"]
theorem sc_law_far : FnScope N_law_far ps_law_far (defScope st_law_far) := ⟨rfl, rfl, rfl, by decide +kernel, rfl, by decide +kernel, by decide +kernel⟩
abbrev st_law_due : Stmt := top 14
abbrev N_law_due : List Str := ["_law_listed_here", "_law_begin_here", "_law_far_here", "_law_moves", "_law_state", "_law_k", "_law_after", "_law_one"]
abbrev ps_law_due : List Str := ["_law_listed_here", "_law_begin_here"]
theorem sc_law_due : FnScope N_law_due ps_law_due (defScope st_law_due) := ⟨rfl, rfl, rfl, by decide +kernel, rfl, by decide +kernel, by decide +kernel⟩
abbrev st_Table_start : Stmt := inClass (top 2) 1
abbrev N_Table_start : List Str := ["self"]
abbrev ps_Table_start : List Str := ["self"]
theorem sc_Table_start : FnScope N_Table_start ps_Table_start (defScope st_Table_start) := ⟨rfl, rfl, rfl, by decide +kernel, rfl, by decide +kernel, by decide +kernel⟩
abbrev st_Table_moves : Stmt := inClass (top 2) 2
abbrev N_Table_moves : List Str := ["self", "state", "before", "move", "after"]
abbrev ps_Table_moves : List Str := ["self", "state"]
theorem sc_Table_moves : FnScope N_Table_moves ps_Table_moves (defScope st_Table_moves) := ⟨rfl, rfl, rfl, by decide +kernel, rfl, by decide +kernel, by decide +kernel⟩
abbrev st_Table_scenario : Stmt := inClass (top 2) 3
abbrev N_Table_scenario : List Str := ["self", "ways", "queue", "place", "state", "move", "after"]
abbrev ps_Table_scenario : List Str := ["self"]
theorem sc_Table_scenario : FnScope N_Table_scenario ps_Table_scenario (defScope st_Table_scenario) := ⟨rfl, rfl, rfl, by decide +kernel, rfl, by decide +kernel, by decide +kernel⟩
abbrev st_law_whole : Stmt := top 7
abbrev N_law_whole : List Str := ["_law_value"]
abbrev ps_law_whole : List Str := ["_law_value"]
theorem sc_law_whole : FnScope N_law_whole ps_law_whole (defScope st_law_whole) := ⟨rfl, rfl, rfl, by decide +kernel, rfl, by decide +kernel, by decide +kernel⟩
abbrev st_law_equal : Stmt := top 8
abbrev N_law_equal : List Str := ["_law_actual", "_law_expected", "_law_waiting", "_law_k", "_law_pair", "_law_one", "_law_due_here", "_law_key", "_law_j"]
abbrev ps_law_equal : List Str := ["_law_actual", "_law_expected"]
theorem sc_law_equal : FnScope N_law_equal ps_law_equal (defScope st_law_equal) := ⟨rfl, rfl, rfl, by decide +kernel, rfl, by decide +kernel, by decide +kernel⟩
abbrev st_Table_states : Stmt := inClass (top 2) 4
abbrev N_Table_states : List Str := ["self", "found", "place", "_", "after"]
abbrev ps_Table_states : List Str := ["self"]
theorem sc_Table_states : FnScope N_Table_states ps_Table_states (defScope st_Table_states) := ⟨rfl, rfl, rfl, by decide +kernel, rfl, by decide +kernel, by decide +kernel⟩
abbrev st_law_of : Stmt := top 12
abbrev N_law_of : List Str := ["_law_listed_here", "_law_state", "_law_one"]
abbrev ps_law_of : List Str := ["_law_listed_here", "_law_state"]
theorem sc_law_of : FnScope N_law_of ps_law_of (defScope st_law_of) := ⟨rfl, rfl, rfl, by decide +kernel, rfl, by decide +kernel, by decide +kernel⟩
abbrev st_law_reached : Stmt := top 15
abbrev N_law_reached : List Str := ["_law_listed_here", "_law_begin_here", "_law_found", "_law_at", "_law_pair"]
abbrev ps_law_reached : List Str := ["_law_listed_here", "_law_begin_here"]
theorem sc_law_reached : FnScope N_law_reached ps_law_reached (defScope st_law_reached) := ⟨rfl, rfl, rfl, by decide +kernel, rfl, by decide +kernel, by decide +kernel⟩
abbrev st_law_asked : Stmt := top 16
abbrev N_law_asked : List Str := ["_law_table", "_law_begin_here", "_law_listed_here", "_law_due_here", "_law_told", "_law_places_here", "_law_state", "_law_pairs"]
abbrev ps_law_asked : List Str := ["_law_table", "_law_begin_here", "_law_listed_here"]
theorem sc_law_asked : FnScope N_law_asked ps_law_asked (defScope st_law_asked) := ⟨rfl, rfl, rfl, by decide +kernel, rfl, by decide +kernel, by decide +kernel⟩
abbrev st_law_bare : Stmt := top 17
abbrev N_law_bare : List Str := ["_law_table", "_law_begin_here"]
abbrev ps_law_bare : List Str := ["_law_table", "_law_begin_here"]
theorem sc_law_bare : FnScope N_law_bare ps_law_bare (defScope st_law_bare) := ⟨rfl, rfl, rfl, by decide +kernel, rfl, by decide +kernel, by decide +kernel⟩
abbrev st_law : Stmt := top 18
abbrev N_law : List Str := ["_law_script", "_law_row_here", "_law_begin_here", "_law_listed_here", "_law_given", "_law_table", "_law_origin", "_law_others", "_law_twin"]
abbrev ps_law : List Str := ["_law_script"]
theorem sc_law : FnScope N_law ps_law (defScope st_law) := ⟨rfl, rfl, rfl, by decide +kernel, rfl, by decide +kernel, by decide +kernel⟩
theorem e_Table : toS n_Table = ("Table" : Str) := by decide +kernel
structure Tx (K : PySem.W.Frag) (mg : Str → Option Value) : Prop where
  b_abs : mg "abs" = none
  b_bool : mg "bool" = none
  b_dict : mg "dict" = none
  b_int : mg "int" = none
  b_isinstance : mg "isinstance" = none
  b_len : mg "len" = none
  b_list : mg "list" = none
  b_range : mg "range" = none
  b_str : mg "str" = none
  b_tuple : mg "tuple" = none
  g__law_row : mg "_law_row" = some (.ref (He.ga K "_law_row"))
  g__law_digit : mg "_law_digit" = some (.ref (He.ga K "_law_digit"))
  g__law_places : mg "_law_places" = some (.ref (He.ga K "_law_places"))
  g__law_begin : mg "_law_begin" = some (.ref (He.ga K "_law_begin"))
  g__law_pick : mg "_law_pick" = some (.ref (He.ga K "_law_pick"))
  g__law_listed : mg "_law_listed" = some (.ref (He.ga K "_law_listed"))
  g__law_far : mg "_law_far" = some (.ref (He.ga K "_law_far"))
  g__law_due : mg "_law_due" = some (.ref (He.ga K "_law_due"))
  g__law_whole : mg "_law_whole" = some (.ref (He.ga K "_law_whole"))
  g__law_equal : mg "_law_equal" = some (.ref (He.ga K "_law_equal"))
  g__law_of : mg "_law_of" = some (.ref (He.ga K "_law_of"))
  g__law_reached : mg "_law_reached" = some (.ref (He.ga K "_law_reached"))
  g__law_asked : mg "_law_asked" = some (.ref (He.ga K "_law_asked"))
  g__law_bare : mg "_law_bare" = some (.ref (He.ga K "_law_bare"))
  g_law : mg "law" = some (.ref (He.ga K "law"))
  cl_Table : Cls K (He.ga K "Table")
  g_Table : mg "Table" = some (.ref (He.ga K "Table"))
  mk_Table : Mk K (He.ga K "Table") (He.ma K (He.ga K "Table") "__init__")
  me_Table_moves : Meth K (He.ga K "Table") "moves" (He.ma K (He.ga K "Table") "moves")
  me_Table_scenario : Meth K (He.ga K "Table") "scenario" (He.ma K (He.ga K "Table") "scenario")
  me_Table_start : Meth K (He.ga K "Table") "start" (He.ma K (He.ga K "Table") "start")
  me_Table_states : Meth K (He.ga K "Table") "states" (He.ma K (He.ga K "Table") "states")
  c_BAD : GCon K mg "BAD" w_BAD
  att : Atts K tab
  dv_Table_init_1 : GVal K (.ref (He.dflAt ("Table", some "__init__") 1 K)) (.tup [])
  d_law_row : ∃ fd, FunD K "_law_row" "_law_row" (defArgs st_law_row) (defBody st_law_row) (defScope st_law_row) ([] : List V) ([] : List (Str × V)) (He.fAd K ("_law_row", none)) fd
  d_law_digit : ∃ fd, FunD K "_law_digit" "_law_digit" (defArgs st_law_digit) (defBody st_law_digit) (defScope st_law_digit) ([] : List V) ([] : List (Str × V)) (He.fAd K ("_law_digit", none)) fd
  d_law_places : ∃ fd, FunD K "_law_places" "_law_places" (defArgs st_law_places) (defBody st_law_places) (defScope st_law_places) ([] : List V) ([] : List (Str × V)) (He.fAd K ("_law_places", none)) fd
  d_law_begin : ∃ fd, FunD K "_law_begin" "_law_begin" (defArgs st_law_begin) (defBody st_law_begin) (defScope st_law_begin) ([] : List V) ([] : List (Str × V)) (He.fAd K ("_law_begin", none)) fd
  d_law_pick : ∃ fd, FunD K "_law_pick" "_law_pick" (defArgs st_law_pick) (defBody st_law_pick) (defScope st_law_pick) ([] : List V) ([] : List (Str × V)) (He.fAd K ("_law_pick", none)) fd
  d_law_listed : ∃ fd, FunD K "_law_listed" "_law_listed" (defArgs st_law_listed) (defBody st_law_listed) (defScope st_law_listed) ([] : List V) ([] : List (Str × V)) (He.fAd K ("_law_listed", none)) fd
  d_Table_init : ∃ fd, FunD K "__init__" "Table.__init__" (defArgs st_Table_init) (defBody st_Table_init) (defScope st_Table_init) ([.str "start", .ref (He.dflAt ("Table", some "__init__") 1 K)] : List V) ([] : List (Str × V)) (He.fAd K ("Table", some "__init__")) fd
  d_law_far : ∃ fd, FunD K "_law_far" "_law_far" (defArgs st_law_far) (defBody st_law_far) (defScope st_law_far) ([] : List V) ([] : List (Str × V)) (He.fAd K ("_law_far", none)) fd
  d_law_due : ∃ fd, FunD K "_law_due" "_law_due" (defArgs st_law_due) (defBody st_law_due) (defScope st_law_due) ([] : List V) ([] : List (Str × V)) (He.fAd K ("_law_due", none)) fd
  d_Table_start : ∃ fd, FunD K "start" "Table.start" (defArgs st_Table_start) (defBody st_Table_start) (defScope st_Table_start) ([] : List V) ([] : List (Str × V)) (He.fAd K ("Table", some "start")) fd
  d_Table_moves : ∃ fd, FunD K "moves" "Table.moves" (defArgs st_Table_moves) (defBody st_Table_moves) (defScope st_Table_moves) ([] : List V) ([] : List (Str × V)) (He.fAd K ("Table", some "moves")) fd
  d_Table_scenario : ∃ fd, FunD K "scenario" "Table.scenario" (defArgs st_Table_scenario) (defBody st_Table_scenario) (defScope st_Table_scenario) ([] : List V) ([] : List (Str × V)) (He.fAd K ("Table", some "scenario")) fd
  d_law_whole : ∃ fd, FunD K "_law_whole" "_law_whole" (defArgs st_law_whole) (defBody st_law_whole) (defScope st_law_whole) ([] : List V) ([] : List (Str × V)) (He.fAd K ("_law_whole", none)) fd
  d_law_equal : ∃ fd, FunD K "_law_equal" "_law_equal" (defArgs st_law_equal) (defBody st_law_equal) (defScope st_law_equal) ([] : List V) ([] : List (Str × V)) (He.fAd K ("_law_equal", none)) fd
  d_Table_states : ∃ fd, FunD K "states" "Table.states" (defArgs st_Table_states) (defBody st_Table_states) (defScope st_Table_states) ([] : List V) ([] : List (Str × V)) (He.fAd K ("Table", some "states")) fd
  d_law_of : ∃ fd, FunD K "_law_of" "_law_of" (defArgs st_law_of) (defBody st_law_of) (defScope st_law_of) ([] : List V) ([] : List (Str × V)) (He.fAd K ("_law_of", none)) fd
  d_law_reached : ∃ fd, FunD K "_law_reached" "_law_reached" (defArgs st_law_reached) (defBody st_law_reached) (defScope st_law_reached) ([] : List V) ([] : List (Str × V)) (He.fAd K ("_law_reached", none)) fd
  d_law_asked : ∃ fd, FunD K "_law_asked" "_law_asked" (defArgs st_law_asked) (defBody st_law_asked) (defScope st_law_asked) ([] : List V) ([] : List (Str × V)) (He.fAd K ("_law_asked", none)) fd
  d_law_bare : ∃ fd, FunD K "_law_bare" "_law_bare" (defArgs st_law_bare) (defBody st_law_bare) (defScope st_law_bare) ([] : List V) ([] : List (Str × V)) (He.fAd K ("_law_bare", none)) fd
  d_law : ∃ fd, FunD K "law" "law" (defArgs st_law) (defBody st_law) (defScope st_law) ([] : List V) ([] : List (Str × V)) (He.fAd K ("law", none)) fd
section
variable {P : Program} {w : World} {K : PySem.W.Frag} {mg : Str → Option Value} {base : Heap}
theorem fi_law_row (T : Tx K mg) {fd : FuncData} (F : FunD K "_law_row" "_law_row" (defArgs st_law_row) (defBody st_law_row) (defScope st_law_row) ([] : List V) ([] : List (Str × V)) (He.fAd K ("_law_row", none)) fd) : FI P w K mg base 1 (He.fAd K ("_law_row", none)) fd ps_law_row f_law_row := by
  have h := fi_of (P := P) (w := w) (mg := mg) (base := base) F sc_law_row (m := m_law_row) (k := 0) (fun cdv A outer s H E hr => by
    exact (iss_cons (is_set (i := 2) sc_law_row.nd (ie_lst ia_nil))
    (iss_cons (is_for (L2.passes_of rfl) rfl (ii_seq (ie_var 0)) (ig_name 3 sc_law_row.nd)
    (iss_cons (is_set (i := 4) sc_law_row.nd (ie_B call_abs ci_abs T.b_abs (by decide +kernel) (ia_cons (ie_BT call_int1 ci_int T.b_int (by decide +kernel) (ia_cons (ie_var 3) ia_nil)) ia_nil)))
    (iss_one (is_for (L2.passes_of rfl) rfl (ii_range1 T.b_range ie_int) (ig_name 5 sc_law_row.nd)
    (iss_cons (is_if (it_cmp op_lt oi_lt (ie_B call_len ci_len T.b_len (by decide +kernel) (ia_cons (ie_var 2) ia_nil)) (ie_var 1) (nomark _))
    (iss_one (is_expr (ie_mt PySem.F.plainAttrs_list PySem.F.slot_list_append PySem.F.type_list_append mt_append chk_list mi_append (ie_var 2) (ia_cons (ie_bin op_mod oi_mod (ie_var 4) ie_int) ia_nil))))
    iss_nil)
    (iss_cons (is_set (i := 4) sc_law_row.nd (ie_bin op_fdiv oi_div (ie_var 4) ie_int))
    (iss_one (is_if (it_cmp (or_eqM hr.units) oi_eq (ie_var 4) ie_int (nomark _))
    (iss_one is_break)
    iss_nil))))))))
    (iss_one (is_ret (ie_var 2))))))
  exact h
theorem ok_law_row (T : Tx K mg) : ∃ fd, FI P w K mg base 1 (He.fAd K ("_law_row", none)) fd ps_law_row f_law_row ∧ PySem.W.keepIn K (.ref (He.fAd K ("_law_row", none))) = true ∧ (∃ ds, Vals (([] : List V).drop 0 : List V) ds ∧ Binds K fd ps_law_row ds) := by
  obtain ⟨fd, F⟩ := T.d_law_row
  exact ⟨fd, fi_law_row T F, F.kp, ⟨[], .nil, F.bindsN fun _ _ _ _ _ _ us hl => match us, hl with | [_, _], _ => rfl⟩⟩
theorem fi_law_digit (T : Tx K mg) {fd : FuncData} (F : FunD K "_law_digit" "_law_digit" (defArgs st_law_digit) (defBody st_law_digit) (defScope st_law_digit) ([] : List V) ([] : List (Str × V)) (He.fAd K ("_law_digit", none)) fd) : FI P w K mg base 1 (He.fAd K ("_law_digit", none)) fd ps_law_digit f_law_digit := by
  have h := fi_of (P := P) (w := w) (mg := mg) (base := base) F sc_law_digit (m := m_law_digit) (k := 0) (fun cdv A outer s H E hr => by
    exact (iss_cons (is_if (it_cmp op_lt oi_lt (ie_var 1) (ie_B call_len ci_len T.b_len (by decide +kernel) (ia_cons (ie_var 0) ia_nil)) (nomark _))
    (iss_one (is_ret (ie_ix (ie_var 0) (ie_var 1))))
    iss_nil)
    (iss_one (is_ret ie_int))))
  exact h
theorem ok_law_digit (T : Tx K mg) : ∃ fd, FI P w K mg base 1 (He.fAd K ("_law_digit", none)) fd ps_law_digit f_law_digit ∧ PySem.W.keepIn K (.ref (He.fAd K ("_law_digit", none))) = true ∧ (∃ ds, Vals (([] : List V).drop 0 : List V) ds ∧ Binds K fd ps_law_digit ds) := by
  obtain ⟨fd, F⟩ := T.d_law_digit
  exact ⟨fd, fi_law_digit T F, F.kp, ⟨[], .nil, F.bindsN fun _ _ _ _ _ _ us hl => match us, hl with | [_, _], _ => rfl⟩⟩
theorem fi_law_places (T : Tx K mg) {fd : FuncData} (F : FunD K "_law_places" "_law_places" (defArgs st_law_places) (defBody st_law_places) (defScope st_law_places) ([] : List V) ([] : List (Str × V)) (He.fAd K ("_law_places", none)) fd) : FI P w K mg base 1 (He.fAd K ("_law_places", none)) fd ps_law_places f_law_places := by
  have h := fi_of (P := P) (w := w) (mg := mg) (base := base) F sc_law_places (m := m_law_places) (k := 0) (fun cdv A outer s H E hr => by
    exact (iss_one (is_ret (ie_lst (ia_cons (ie_str (by decide +kernel)) (ia_cons (ie_str (by decide +kernel)) (ia_cons (ie_str (by decide +kernel)) (ia_cons (ie_str (by decide +kernel)) (ia_cons (ie_str (by decide +kernel)) (ia_cons (ie_str (by decide +kernel)) (ia_cons (ie_str (by decide +kernel)) (ia_cons (ie_str (by decide +kernel)) (ia_cons (ie_str (by decide +kernel)) (ia_cons (ie_str (by decide +kernel)) (ia_cons (ie_str (by decide +kernel)) (ia_cons (ie_str (by decide +kernel)) (ia_cons (ie_str (by decide +kernel)) ia_nil)))))))))))))))))
  exact h
theorem ok_law_places (T : Tx K mg) : ∃ fd, FI P w K mg base 1 (He.fAd K ("_law_places", none)) fd ps_law_places f_law_places ∧ PySem.W.keepIn K (.ref (He.fAd K ("_law_places", none))) = true ∧ (∃ ds, Vals (([] : List V).drop 0 : List V) ds ∧ Binds K fd ps_law_places ds) := by
  obtain ⟨fd, F⟩ := T.d_law_places
  exact ⟨fd, fi_law_places T F, F.kp, ⟨[], .nil, F.bindsN fun _ _ _ _ _ _ us hl => match us, hl with | [], _ => rfl⟩⟩
theorem fi_law_begin (T : Tx K mg) {fd : FuncData} (F : FunD K "_law_begin" "_law_begin" (defArgs st_law_begin) (defBody st_law_begin) (defScope st_law_begin) ([] : List V) ([] : List (Str × V)) (He.fAd K ("_law_begin", none)) fd) : FI P w K mg base 2 (He.fAd K ("_law_begin", none)) fd ps_law_begin f_law_begin := by
  obtain ⟨fd_law_digit, F_law_digit, k_law_digit, ⟨ds_law_digit_2, v_law_digit_2, b_law_digit_2⟩⟩ := ok_law_digit (P := P) (w := w) (base := base) T
  have w_law_digit_2 : GVals K (([] : List V).drop 0 : List V) [] := trivial
  obtain ⟨fd_law_places, F_law_places, k_law_places, ⟨ds_law_places_0, v_law_places_0, b_law_places_0⟩⟩ := ok_law_places (P := P) (w := w) (base := base) T
  have w_law_places_0 : GVals K (([] : List V).drop 0 : List V) [] := trivial
  have h := fi_of (P := P) (w := w) (mg := mg) (base := base) F sc_law_begin (m := m_law_begin) (k := 1) (fun cdv A outer s H E hr => by
    exact (iss_cons (is_set (i := 2) sc_law_begin.nd (ie_bin or_addM oi_add ie_int (ie_bin op_mod oi_mod (ie_BT call_int1 ci_int T.b_int (by decide +kernel) (ia_cons (ie_call (L2.takes_of rfl rfl rfl rfl) F_law_digit rfl (hr.mono (by decide)) T.g__law_digit k_law_digit b_law_digit_2 v_law_digit_2 w_law_digit_2 (ia_cons (ie_var 0) (ia_cons (ie_var 1) ia_nil))) ia_nil)) ie_int)))
    (iss_one (is_ret (ie_ix (ie_call0 (L2.takes_of rfl rfl rfl rfl) F_law_places rfl (hr.mono (by decide)) T.g__law_places k_law_places b_law_places_0 v_law_places_0 w_law_places_0) (ie_bin op_mod oi_mod (ie_BT call_int1 ci_int T.b_int (by decide +kernel) (ia_cons (ie_call (L2.takes_of rfl rfl rfl rfl) F_law_digit rfl (hr.mono (by decide)) T.g__law_digit k_law_digit b_law_digit_2 v_law_digit_2 w_law_digit_2 (ia_cons (ie_var 0) (ia_cons (ie_bin or_addM oi_add (ie_var 1) ie_int) ia_nil))) ia_nil)) (ie_var 2)))))))
  exact h
theorem ok_law_begin (T : Tx K mg) : ∃ fd, FI P w K mg base 2 (He.fAd K ("_law_begin", none)) fd ps_law_begin f_law_begin ∧ PySem.W.keepIn K (.ref (He.fAd K ("_law_begin", none))) = true ∧ (∃ ds, Vals (([] : List V).drop 0 : List V) ds ∧ Binds K fd ps_law_begin ds) := by
  obtain ⟨fd, F⟩ := T.d_law_begin
  exact ⟨fd, fi_law_begin T F, F.kp, ⟨[], .nil, F.bindsN fun _ _ _ _ _ _ us hl => match us, hl with | [_, _], _ => rfl⟩⟩
theorem fi_law_pick (T : Tx K mg) {fd : FuncData} (F : FunD K "_law_pick" "_law_pick" (defArgs st_law_pick) (defBody st_law_pick) (defScope st_law_pick) ([] : List V) ([] : List (Str × V)) (He.fAd K ("_law_pick", none)) fd) : FI P w K mg base 1 (He.fAd K ("_law_pick", none)) fd ps_law_pick f_law_pick := by
  have h := fi_of (P := P) (w := w) (mg := mg) (base := base) F sc_law_pick (m := m_law_pick) (k := 0) (fun cdv A outer s H E hr => by
    exact (iss_cons (is_set (i := 3) sc_law_pick.nd ie_int)
    (iss_cons (is_if (it_cmp op_lt oi_lt (ie_var 1) (ie_B call_len ci_len T.b_len (by decide +kernel) (ia_cons (ie_var 0) ia_nil)) (nomark _))
    (iss_one (is_set (i := 3) sc_law_pick.nd (ie_ix (ie_var 0) (ie_var 1))))
    iss_nil)
    (iss_cons (is_if (it_cmp op_lt oi_lt (ie_bin or_addM oi_add (ie_var 1) ie_int) (ie_B call_len ci_len T.b_len (by decide +kernel) (ia_cons (ie_var 0) ia_nil)) (nomark _))
    (iss_one (is_set (i := 3) sc_law_pick.nd (ie_bin or_addM oi_add (ie_var 3) (ie_bin or_mulM oi_mul ie_int (ie_ix (ie_var 0) (ie_bin or_addM oi_add (ie_var 1) ie_int))))))
    iss_nil)
    (iss_one (is_ret (ie_bin op_mod oi_mod (ie_BT call_int1 ci_int T.b_int (by decide +kernel) (ia_cons (ie_var 3) ia_nil)) (ie_var 2))))))))
  exact h
theorem ok_law_pick (T : Tx K mg) : ∃ fd, FI P w K mg base 1 (He.fAd K ("_law_pick", none)) fd ps_law_pick f_law_pick ∧ PySem.W.keepIn K (.ref (He.fAd K ("_law_pick", none))) = true ∧ (∃ ds, Vals (([] : List V).drop 0 : List V) ds ∧ Binds K fd ps_law_pick ds) := by
  obtain ⟨fd, F⟩ := T.d_law_pick
  exact ⟨fd, fi_law_pick T F, F.kp, ⟨[], .nil, F.bindsN fun _ _ _ _ _ _ us hl => match us, hl with | [_, _, _], _ => rfl⟩⟩
theorem fi_law_listed (T : Tx K mg) {fd : FuncData} (F : FunD K "_law_listed" "_law_listed" (defArgs st_law_listed) (defBody st_law_listed) (defScope st_law_listed) ([] : List V) ([] : List (Str × V)) (He.fAd K ("_law_listed", none)) fd) : FI P w K mg base 2 (He.fAd K ("_law_listed", none)) fd ps_law_listed f_law_listed := by
  obtain ⟨fd_law_places, F_law_places, k_law_places, ⟨ds_law_places_0, v_law_places_0, b_law_places_0⟩⟩ := ok_law_places (P := P) (w := w) (base := base) T
  have w_law_places_0 : GVals K (([] : List V).drop 0 : List V) [] := trivial
  obtain ⟨fd_law_digit, F_law_digit, k_law_digit, ⟨ds_law_digit_2, v_law_digit_2, b_law_digit_2⟩⟩ := ok_law_digit (P := P) (w := w) (base := base) T
  have w_law_digit_2 : GVals K (([] : List V).drop 0 : List V) [] := trivial
  obtain ⟨fd_law_pick, F_law_pick, k_law_pick, ⟨ds_law_pick_3, v_law_pick_3, b_law_pick_3⟩⟩ := ok_law_pick (P := P) (w := w) (base := base) T
  have w_law_pick_3 : GVals K (([] : List V).drop 0 : List V) [] := trivial
  have h := fi_of (P := P) (w := w) (mg := mg) (base := base) F sc_law_listed (m := m_law_listed) (k := 1) (fun cdv A outer s H E hr => by
    exact (iss_cons (is_set (i := 2) sc_law_listed.nd (ie_call0 (L2.takes_of rfl rfl rfl rfl) F_law_places rfl (hr.mono (by decide)) T.g__law_places k_law_places b_law_places_0 v_law_places_0 w_law_places_0))
    (iss_cons (is_set (i := 3) sc_law_listed.nd (ie_lst (ia_cons (ie_str (by decide +kernel)) (ia_cons (ie_str (by decide +kernel)) (ia_cons (ie_str (by decide +kernel)) (ia_cons (ie_str (by decide +kernel)) (ia_cons (ie_str (by decide +kernel)) (ia_cons (ie_str (by decide +kernel)) (ia_cons (ie_str (by decide +kernel)) ia_nil)))))))))
    (iss_cons (is_set (i := 4) sc_law_listed.nd (ie_bin or_addM oi_add ie_int (ie_bin op_mod oi_mod (ie_BT call_int1 ci_int T.b_int (by decide +kernel) (ia_cons (ie_call (L2.takes_of rfl rfl rfl rfl) F_law_digit rfl (hr.mono (by decide)) T.g__law_digit k_law_digit b_law_digit_2 v_law_digit_2 w_law_digit_2 (ia_cons (ie_var 0) (ia_cons (ie_var 1) ia_nil))) ia_nil)) ie_int)))
    (iss_cons (is_set (i := 5) sc_law_listed.nd (ie_lst ia_nil))
    (iss_cons (is_for (L2.passes_of rfl) rfl (ii_range1 T.b_range ie_int) (ig_name 6 sc_law_listed.nd)
    (iss_one (is_for (L2.passes_of rfl) rfl (ii_range1 T.b_range (ie_var 4)) (ig_name 7 sc_law_listed.nd)
    (iss_cons (is_set (i := 8) sc_law_listed.nd (ie_bin or_addM oi_add (ie_bin or_addM oi_add (ie_var 1) ie_int) (ie_bin or_mulM oi_mul ie_int (ie_var 7))))
    (iss_one (is_if (it_cmp op_lt oi_lt (ie_var 6) (ie_bin op_mod oi_mod (ie_BT call_int1 ci_int T.b_int (by decide +kernel) (ia_cons (ie_bin or_addM oi_add (ie_call (L2.takes_of rfl rfl rfl rfl) F_law_digit rfl (hr.mono (by decide)) T.g__law_digit k_law_digit b_law_digit_2 v_law_digit_2 w_law_digit_2 (ia_cons (ie_var 0) (ia_cons (ie_var 8) ia_nil))) ie_int) ia_nil)) ie_int) (nomark _))
    (iss_cons (is_set (i := 9) sc_law_listed.nd (ie_bin op_mod oi_mod (ie_BT call_int1 ci_int T.b_int (by decide +kernel) (ia_cons (ie_bin or_addM oi_add (ie_bin or_addM oi_add (ie_call (L2.takes_of rfl rfl rfl rfl) F_law_digit rfl (hr.mono (by decide)) T.g__law_digit k_law_digit b_law_digit_2 v_law_digit_2 w_law_digit_2 (ia_cons (ie_var 0) (ia_cons (ie_bin or_addM oi_add (ie_bin or_addM oi_add (ie_var 8) ie_int) (ie_var 6)) ia_nil))) (ie_var 7)) ie_int) ia_nil)) (ie_bin or_addM oi_add (ie_var 4) ie_int)))
    (iss_cons (is_set (i := 10) sc_law_listed.nd (ie_str (by decide +kernel)))
    (iss_cons (is_if (it_cmp op_lt oi_lt (ie_var 9) (ie_var 4) (nomark _))
    (iss_one (is_set (i := 10) sc_law_listed.nd (ie_ix (ie_var 2) (ie_var 9))))
    iss_nil)
    (iss_one (is_expr (ie_mt PySem.F.plainAttrs_list PySem.F.slot_list_append PySem.F.type_list_append mt_append chk_list mi_append (ie_var 5) (ia_cons (ie_tup (ia_cons (ie_ix (ie_var 2) (ie_var 7)) (ia_cons (ie_ix (ie_var 3) (ie_bin op_mod oi_mod (ie_BT call_int1 ci_int T.b_int (by decide +kernel) (ia_cons (ie_bin or_addM oi_add (ie_call (L2.takes_of rfl rfl rfl rfl) F_law_digit rfl (hr.mono (by decide)) T.g__law_digit k_law_digit b_law_digit_2 v_law_digit_2 w_law_digit_2 (ia_cons (ie_var 0) (ia_cons (ie_bin or_addM oi_add (ie_var 8) ie_int) ia_nil))) (ie_var 6)) ia_nil)) ie_int)) (ia_cons (ie_var 10) ia_nil)))) ia_nil)))))))
    iss_nil))))))
    (iss_cons (is_set (i := 11) sc_law_listed.nd (ie_call (L2.takes_of rfl rfl rfl rfl) F_law_pick rfl (hr.mono (by decide)) T.g__law_pick k_law_pick b_law_pick_3 v_law_pick_3 w_law_pick_3 (ia_cons (ie_var 0) (ia_cons (ie_bin or_addM oi_add (ie_var 1) ie_int) (ia_cons (ie_bin or_addM oi_add (ie_B call_len ci_len T.b_len (by decide +kernel) (ia_cons (ie_var 5) ia_nil)) ie_int) ia_nil)))))
    (iss_one (is_ret (ie_bin or_addM oi_add (ie_sl (ie_var 5) (io_some (ie_var 11)) io_none) (ie_sl (ie_var 5) io_none (io_some (ie_var 11)))))))))))))
  exact h
theorem ok_law_listed (T : Tx K mg) : ∃ fd, FI P w K mg base 2 (He.fAd K ("_law_listed", none)) fd ps_law_listed f_law_listed ∧ PySem.W.keepIn K (.ref (He.fAd K ("_law_listed", none))) = true ∧ (∃ ds, Vals (([] : List V).drop 0 : List V) ds ∧ Binds K fd ps_law_listed ds) := by
  obtain ⟨fd, F⟩ := T.d_law_listed
  exact ⟨fd, fi_law_listed T F, F.kp, ⟨[], .nil, F.bindsN fun _ _ _ _ _ _ us hl => match us, hl with | [_, _], _ => rfl⟩⟩
theorem fi_Table_init (T : Tx K mg) {fd : FuncData} (F : FunD K "__init__" "Table.__init__" (defArgs st_Table_init) (defBody st_Table_init) (defScope st_Table_init) ([.str "start", .ref (He.dflAt ("Table", some "__init__") 1 K)] : List V) ([] : List (Str × V)) (He.fAd K ("Table", some "__init__")) fd) : FI P w K mg base 1 (He.fAd K ("Table", some "__init__")) fd ps_Table_init f_Table_init := by
  have h := fi_of (P := P) (w := w) (mg := mg) (base := base) F sc_Table_init (m := m_Table_init) (k := 0) (fun cdv A outer s H E hr => by
    exact (iss_cons (is_fld T.att (ie_var 0) (ie_var 1) (by decide +kernel))
    (iss_one (is_fld T.att (ie_var 0) (ie_lc [("row", 3)] rfl rfl sc_Table_init.nd (ii_seq (ie_var 2)) (blkOk_by (own := [("row", 3)]) (N := N_Table_init) (sc := defScope st_Table_init) (by decide +kernel)) (by decide) (fun _ _ _ _ _ => (ig_name 3 sc_Table_init.nd)) (fun _ _ _ _ _ => its_nil) (fun _ _ _ _ _ => (ie_BT call_tuple_of ci_tuple T.b_tuple (by decide +kernel) (ia_cons (ie_var 3) ia_nil)))) (by decide +kernel)))))
  exact h
theorem ok_Table_init (T : Tx K mg) : ∃ fd, FI P w K mg base 1 (He.fAd K ("Table", some "__init__")) fd ps_Table_init f_Table_init ∧ PySem.W.keepIn K (.ref (He.fAd K ("Table", some "__init__"))) = true ∧ KB K fd ps_Table_init 1 [("rows" : Str), ("first" : Str)] [0, 2, 1] ([.str "start", .ref (He.dflAt ("Table", some "__init__") 1 K)] : List V) ∧ (∃ ds, Vals (([.str "start", .ref (He.dflAt ("Table", some "__init__") 1 K)] : List V).drop 0 : List V) ds ∧ Binds K fd ps_Table_init ds) ∧ (∃ ds, Vals (([.str "start", .ref (He.dflAt ("Table", some "__init__") 1 K)] : List V).drop 1 : List V) ds ∧ Binds K fd ps_Table_init ds) ∧ (∃ ds, Vals (([.str "start", .ref (He.dflAt ("Table", some "__init__") 1 K)] : List V).drop 2 : List V) ds ∧ Binds K fd ps_Table_init ds) := by
  obtain ⟨fd, F⟩ := T.d_Table_init
  exact ⟨fd, fi_Table_init T F, F.kp, kb_dfl F 1 [("rows" : Str), ("first" : Str)] [0, 2, 1] (by simp) fun _ _ _ _ _ _ _ us its ws hu hi hw => match us, hu, its, hi, ws, hw with | [_], _, [_, _], _, [_, _], _ => ⟨_, rfl, rfl⟩, F.binds1 1 0 (by simp) rfl fun _ _ _ _ _ _ _ us its hu hi => match us, hu, its, hi with | [_], _, [_, _], _ => ⟨_, rfl, rfl⟩, F.binds1 2 1 (by simp) rfl fun _ _ _ _ _ _ _ us its hu hi => match us, hu, its, hi with | [_, _], _, [_, _], _ => ⟨_, rfl, rfl⟩, F.binds1 3 2 (by simp) rfl fun _ _ _ _ _ _ _ us its hu hi => match us, hu, its, hi with | [_, _, _], _, [_, _], _ => ⟨_, rfl, rfl⟩⟩
theorem fi_law_far (T : Tx K mg) {fd : FuncData} (F : FunD K "_law_far" "_law_far" (defArgs st_law_far) (defBody st_law_far) (defScope st_law_far) ([] : List V) ([] : List (Str × V)) (He.fAd K ("_law_far", none)) fd) : FI P w K mg base 1 (He.fAd K ("_law_far", none)) fd ps_law_far f_law_far := by
  have h := fi_of (P := P) (w := w) (mg := mg) (base := base) F sc_law_far (m := m_law_far) (k := 0) (fun cdv A outer s H E hr => by
    exact (iss_cons (is_set (i := 1) sc_law_far.nd (ie_disp (.cons (ie_str (by decide +kernel)) ie_int .nil)))
    (iss_cons (is_for (L2.passes_of rfl) rfl (ii_range1 T.b_range ie_int) (ig_name 2 sc_law_far.nd)
    (iss_one (is_for (L2.passes_of rfl) rfl (ii_seq (ie_var 0)) (ig_name 3 sc_law_far.nd)
    (iss_one (is_if (it_w (iw_and (it_din hr.units (ie_ix (ie_var 3) ie_int) (ie_var 1)) (iw_and1 (it_w (iw_or (it_dnin hr.units (ie_ix (ie_var 3) ie_int) (ie_var 1)) (iw_or1 (it_cmp op_gt oi_gt (ie_dget hr.units (ie_var 1) (ie_ix (ie_var 3) ie_int)) (ie_bin or_addM oi_add ie_int (ie_dget hr.units (ie_var 1) (ie_ix (ie_var 3) ie_int))) (nomark _))))))))
    (iss_one (is_dput hr.units (ie_var 1) (ie_ix (ie_var 3) ie_int) (ie_bin or_addM oi_add ie_int (ie_dget hr.units (ie_var 1) (ie_ix (ie_var 3) ie_int)))))
    iss_nil)))))
    (iss_one (is_ret (ie_var 1))))))
  exact h
theorem ok_law_far (T : Tx K mg) : ∃ fd, FI P w K mg base 1 (He.fAd K ("_law_far", none)) fd ps_law_far f_law_far ∧ PySem.W.keepIn K (.ref (He.fAd K ("_law_far", none))) = true ∧ (∃ ds, Vals (([] : List V).drop 0 : List V) ds ∧ Binds K fd ps_law_far ds) := by
  obtain ⟨fd, F⟩ := T.d_law_far
  exact ⟨fd, fi_law_far T F, F.kp, ⟨[], .nil, F.bindsN fun _ _ _ _ _ _ us hl => match us, hl with | [_], _ => rfl⟩⟩
theorem fi_law_due (T : Tx K mg) {fd : FuncData} (F : FunD K "_law_due" "_law_due" (defArgs st_law_due) (defBody st_law_due) (defScope st_law_due) ([] : List V) ([] : List (Str × V)) (He.fAd K ("_law_due", none)) fd) : FI P w K mg base 2 (He.fAd K ("_law_due", none)) fd ps_law_due f_law_due := by
  obtain ⟨fd_law_far, F_law_far, k_law_far, ⟨ds_law_far_1, v_law_far_1, b_law_far_1⟩⟩ := ok_law_far (P := P) (w := w) (base := base) T
  have w_law_far_1 : GVals K (([] : List V).drop 0 : List V) [] := trivial
  have h := fi_of (P := P) (w := w) (mg := mg) (base := base) F sc_law_due (m := m_law_due) (k := 1) (fun cdv A outer s H E hr => by
    exact (iss_cons (is_set (i := 2) sc_law_due.nd (ie_call (L2.takes_of rfl rfl rfl rfl) F_law_far rfl (hr.mono (by decide)) T.g__law_far k_law_far b_law_far_1 v_law_far_1 w_law_far_1 (ia_cons (ie_var 0) ia_nil)))
    (iss_cons (is_if (it_dnin hr.units (ie_var 1) (ie_var 2))
    (iss_one (is_ret ie_non))
    iss_nil)
    (iss_cons (is_set (i := 3) sc_law_due.nd (ie_lst ia_nil))
    (iss_cons (is_set (i := 4) sc_law_due.nd (ie_var 1))
    (iss_cons (is_for (L2.passes_of rfl) rfl (ii_range1 T.b_range (ie_dget hr.units (ie_var 2) (ie_var 1))) (ig_name 5 sc_law_due.nd)
    (iss_cons (is_set (i := 6) sc_law_due.nd (ie_var 4))
    (iss_cons (is_for (L2.passes_of rfl) rfl (ii_seq (ie_var 0)) (ig_name 7 sc_law_due.nd)
    (iss_one (is_if (it_w (iw_and (it_cmp (or_eqM hr.units) oi_eq (ie_ix (ie_var 7) ie_int) (ie_var 4) (nomark _)) (iw_and (it_cmp (or_eqM hr.units) oi_eq (ie_var 6) (ie_var 4) (nomark _)) (iw_and (it_din hr.units (ie_ix (ie_var 7) ie_int) (ie_var 2)) (iw_and1 (it_cmp (or_eqM hr.units) oi_eq (ie_dget hr.units (ie_var 2) (ie_ix (ie_var 7) ie_int)) (ie_bin op_sub oi_sub (ie_dget hr.units (ie_var 2) (ie_var 4)) ie_int) (nomark _)))))))
    (iss_cons (is_set (i := 6) sc_law_due.nd (ie_ix (ie_var 7) ie_int))
    (iss_one (is_expr (ie_mt PySem.F.plainAttrs_list PySem.F.slot_list_append PySem.F.type_list_append mt_append chk_list mi_append (ie_var 3) (ia_cons (ie_ix (ie_var 7) ie_int) ia_nil)))))
    iss_nil)))
    (iss_one (is_set (i := 4) sc_law_due.nd (ie_var 6))))))
    (iss_one (is_ret (ie_var 3)))))))))
  exact h
theorem ok_law_due (T : Tx K mg) : ∃ fd, FI P w K mg base 2 (He.fAd K ("_law_due", none)) fd ps_law_due f_law_due ∧ PySem.W.keepIn K (.ref (He.fAd K ("_law_due", none))) = true ∧ (∃ ds, Vals (([] : List V).drop 0 : List V) ds ∧ Binds K fd ps_law_due ds) := by
  obtain ⟨fd, F⟩ := T.d_law_due
  exact ⟨fd, fi_law_due T F, F.kp, ⟨[], .nil, F.bindsN fun _ _ _ _ _ _ us hl => match us, hl with | [_, _], _ => rfl⟩⟩
theorem fi_Table_start (T : Tx K mg) {fd : FuncData} (F : FunD K "start" "Table.start" (defArgs st_Table_start) (defBody st_Table_start) (defScope st_Table_start) ([] : List V) ([] : List (Str × V)) (He.fAd K ("Table", some "start")) fd) : FI P w K mg base 1 (He.fAd K ("Table", some "start")) fd ps_Table_start f_Table_start := by
  have h := fi_of (P := P) (w := w) (mg := mg) (base := base) F sc_Table_start (m := m_Table_start) (k := 0) (fun cdv A outer s H E hr => by
    exact (iss_one (is_ret (ie_fld T.att (ie_var 0) (by decide +kernel)))))
  exact h
theorem ok_Table_start (T : Tx K mg) : ∃ fd, FI P w K mg base 1 (He.fAd K ("Table", some "start")) fd ps_Table_start f_Table_start ∧ PySem.W.keepIn K (.ref (He.fAd K ("Table", some "start"))) = true ∧ (∃ ds, Vals (([] : List V).drop 0 : List V) ds ∧ Binds K fd ps_Table_start ds) := by
  obtain ⟨fd, F⟩ := T.d_Table_start
  exact ⟨fd, fi_Table_start T F, F.kp, ⟨[], .nil, F.bindsN fun _ _ _ _ _ _ us hl => match us, hl with | [_], _ => rfl⟩⟩
theorem fi_Table_moves (T : Tx K mg) {fd : FuncData} (F : FunD K "moves" "Table.moves" (defArgs st_Table_moves) (defBody st_Table_moves) (defScope st_Table_moves) ([] : List V) ([] : List (Str × V)) (He.fAd K ("Table", some "moves")) fd) : FI P w K mg base 1 (He.fAd K ("Table", some "moves")) fd ps_Table_moves f_Table_moves := by
  have h := fi_of (P := P) (w := w) (mg := mg) (base := base) F sc_Table_moves (m := m_Table_moves) (k := 0) (fun cdv A outer s H E hr => by
    exact (iss_one (is_ret (ie_lc [("before", 2), ("move", 3), ("after", 4)] rfl rfl sc_Table_moves.nd (ii_seq (ie_fld T.att (ie_var 0) (by decide +kernel))) (blkOk_by (own := [("before", 2), ("move", 3), ("after", 4)]) (N := N_Table_moves) (sc := defScope st_Table_moves) (by decide +kernel)) (by decide) (fun _ _ _ _ _ => (ig_tup rfl (igs_cons (ig_name 2 sc_Table_moves.nd) (igs_cons (ig_name 3 sc_Table_moves.nd) (igs_cons (ig_name 4 sc_Table_moves.nd) igs_nil))))) (fun _ _ _ _ _ => (its_one (it_cmp (or_eqM hr.units) oi_eq (ie_var 2) (ie_var 1) (nomark _)))) (fun _ _ _ _ _ => (ie_tup (ia_cons (ie_var 3) (ia_cons (ie_var 4) ia_nil))))))))
  exact h
theorem ok_Table_moves (T : Tx K mg) : ∃ fd, FI P w K mg base 1 (He.fAd K ("Table", some "moves")) fd ps_Table_moves f_Table_moves ∧ PySem.W.keepIn K (.ref (He.fAd K ("Table", some "moves"))) = true ∧ (∃ ds, Vals (([] : List V).drop 0 : List V) ds ∧ Binds K fd ps_Table_moves ds) := by
  obtain ⟨fd, F⟩ := T.d_Table_moves
  exact ⟨fd, fi_Table_moves T F, F.kp, ⟨[], .nil, F.bindsN fun _ _ _ _ _ _ us hl => match us, hl with | [_, _], _ => rfl⟩⟩
theorem fi_Table_scenario (T : Tx K mg) {fd : FuncData} (F : FunD K "scenario" "Table.scenario" (defArgs st_Table_scenario) (defBody st_Table_scenario) (defScope st_Table_scenario) ([] : List V) ([] : List (Str × V)) (He.fAd K ("Table", some "scenario")) fd) : FI P w K mg base 2 (He.fAd K ("Table", some "scenario")) fd ps_Table_scenario f_Table_scenario := by
  obtain ⟨fd_Table_start, F_Table_start, k_Table_start, ⟨ds_Table_start_1, v_Table_start_1, b_Table_start_1⟩⟩ := ok_Table_start (P := P) (w := w) (base := base) T
  have w_Table_start_1 : GVals K (([] : List V).drop 0 : List V) [] := trivial
  obtain ⟨fd_Table_moves, F_Table_moves, k_Table_moves, ⟨ds_Table_moves_2, v_Table_moves_2, b_Table_moves_2⟩⟩ := ok_Table_moves (P := P) (w := w) (base := base) T
  have w_Table_moves_2 : GVals K (([] : List V).drop 0 : List V) [] := trivial
  have h := fi_of (P := P) (w := w) (mg := mg) (base := base) F sc_Table_scenario (m := m_Table_scenario) (k := 1) (fun cdv A outer s H E hr => by
    exact (iss_cons (is_set (i := 1) sc_Table_scenario.nd (ie_disp (.cons (ie_meth0 (L2.takes_of rfl rfl rfl rfl) (ie_var 0) (congrArg (He.ga K) e_Table.symm) T.cl_Table T.me_Table_start (by decide +kernel) F_Table_start rfl (hr.mono (by decide)) b_Table_start_1 v_Table_start_1 w_Table_start_1) (ie_tup ia_nil) .nil)))
    (iss_cons (is_set (i := 2) sc_Table_scenario.nd (ie_lst (ia_cons (ie_meth0 (L2.takes_of rfl rfl rfl rfl) (ie_var 0) (congrArg (He.ga K) e_Table.symm) T.cl_Table T.me_Table_start (by decide +kernel) F_Table_start rfl (hr.mono (by decide)) b_Table_start_1 v_Table_start_1 w_Table_start_1) ia_nil)))
    (iss_cons (is_set (i := 3) sc_Table_scenario.nd ie_int)
    (iss_cons (is_while 4000 (L2.passes_of rfl) (it_cmp op_lt oi_lt (ie_var 3) (ie_B call_len ci_len T.b_len (by decide +kernel) (ia_cons (ie_var 2) ia_nil)) (nomark _))
    (iss_cons (is_set (i := 4) sc_Table_scenario.nd (ie_ix (ie_var 2) (ie_var 3)))
    (iss_cons (is_for (L2.passes_of rfl) rfl (ii_seq (ie_meth (L2.takes_of rfl rfl rfl rfl) (ie_var 0) (congrArg (He.ga K) e_Table.symm) T.cl_Table T.me_Table_moves (by decide +kernel) F_Table_moves rfl (hr.mono (by decide)) b_Table_moves_2 v_Table_moves_2 w_Table_moves_2 (ia_cons (ie_var 4) ia_nil))) (ig_tup rfl (igs_cons (ig_name 5 sc_Table_scenario.nd) (igs_cons (ig_name 6 sc_Table_scenario.nd) igs_nil)))
    (iss_cons (is_if (it_cmp (or_eqM hr.units) oi_eq (ie_var 6) (ie_con T.c_BAD) (nomark _))
    (iss_one (is_ret (ie_bin or_addM oi_add (ie_BT call_list_of ci_list T.b_list (by decide +kernel) (ia_cons (ie_dget hr.units (ie_var 1) (ie_var 4)) ia_nil)) (ie_lst (ia_cons (ie_var 5) ia_nil)))))
    iss_nil)
    (iss_one (is_if (it_dnin hr.units (ie_var 6) (ie_var 1))
    (iss_cons (is_dput hr.units (ie_var 1) (ie_var 6) (ie_bin or_addM oi_add (ie_dget hr.units (ie_var 1) (ie_var 4)) (ie_tup (ia_cons (ie_var 5) ia_nil))))
    (iss_one (is_expr (ie_mt PySem.F.plainAttrs_list PySem.F.slot_list_append PySem.F.type_list_append mt_append chk_list mi_append (ie_var 2) (ia_cons (ie_var 6) ia_nil)))))
    iss_nil))))
    (iss_one (is_aug (i := 3) sc_Table_scenario.nd ip_add oi_ip ie_int)))))
    (iss_one (is_ret ie_non)))))))
  exact h
theorem ok_Table_scenario (T : Tx K mg) : ∃ fd, FI P w K mg base 2 (He.fAd K ("Table", some "scenario")) fd ps_Table_scenario f_Table_scenario ∧ PySem.W.keepIn K (.ref (He.fAd K ("Table", some "scenario"))) = true ∧ (∃ ds, Vals (([] : List V).drop 0 : List V) ds ∧ Binds K fd ps_Table_scenario ds) := by
  obtain ⟨fd, F⟩ := T.d_Table_scenario
  exact ⟨fd, fi_Table_scenario T F, F.kp, ⟨[], .nil, F.bindsN fun _ _ _ _ _ _ us hl => match us, hl with | [_], _ => rfl⟩⟩
theorem fi_law_whole (T : Tx K mg) {fd : FuncData} (F : FunD K "_law_whole" "_law_whole" (defArgs st_law_whole) (defBody st_law_whole) (defScope st_law_whole) ([] : List V) ([] : List (Str × V)) (He.fAd K ("_law_whole", none)) fd) : FI P w K mg base 1 (He.fAd K ("_law_whole", none)) fd ps_law_whole f_law_whole := by
  have h := fi_of (P := P) (w := w) (mg := mg) (base := base) F sc_law_whole (m := m_law_whole) (k := 0) (fun cdv A outer s H E hr => by
    exact (iss_one (is_ret (ie_and (ie_B call_isi ci_isi T.b_isinstance (by decide +kernel) (ia_cons (ie_var 0) (ia_cons (ie_ty (t := .int) T.b_int (by decide +kernel)) ia_nil))) (ie_one (ie_not (ie_B call_isi ci_isi T.b_isinstance (by decide +kernel) (ia_cons (ie_var 0) (ia_cons (ie_ty (t := .bool) T.b_bool (by decide +kernel)) ia_nil)))))))))
  exact h
theorem ok_law_whole (T : Tx K mg) : ∃ fd, FI P w K mg base 1 (He.fAd K ("_law_whole", none)) fd ps_law_whole f_law_whole ∧ PySem.W.keepIn K (.ref (He.fAd K ("_law_whole", none))) = true ∧ (∃ ds, Vals (([] : List V).drop 0 : List V) ds ∧ Binds K fd ps_law_whole ds) := by
  obtain ⟨fd, F⟩ := T.d_law_whole
  exact ⟨fd, fi_law_whole T F, F.kp, ⟨[], .nil, F.bindsN fun _ _ _ _ _ _ us hl => match us, hl with | [_], _ => rfl⟩⟩
theorem fi_law_equal (T : Tx K mg) {fd : FuncData} (F : FunD K "_law_equal" "_law_equal" (defArgs st_law_equal) (defBody st_law_equal) (defScope st_law_equal) ([] : List V) ([] : List (Str × V)) (He.fAd K ("_law_equal", none)) fd) : FI P w K mg base 2 (He.fAd K ("_law_equal", none)) fd ps_law_equal f_law_equal := by
  obtain ⟨fd_law_whole, F_law_whole, k_law_whole, ⟨ds_law_whole_1, v_law_whole_1, b_law_whole_1⟩⟩ := ok_law_whole (P := P) (w := w) (base := base) T
  have w_law_whole_1 : GVals K (([] : List V).drop 0 : List V) [] := trivial
  have h := fi_of (P := P) (w := w) (mg := mg) (base := base) F sc_law_equal (m := m_law_equal) (k := 1) (fun cdv A outer s H E hr => by
    exact (iss_cons (is_set (i := 2) sc_law_equal.nd (ie_lst (ia_cons (ie_tup (ia_cons (ie_var 0) (ia_cons (ie_var 1) ia_nil))) ia_nil)))
    (iss_cons (is_for (L2.passes_of rfl) rfl (ii_range1 T.b_range ie_int) (ig_name 3 sc_law_equal.nd)
    (iss_cons (is_if (it_cmp (or_eqM hr.units) oi_eq (ie_B call_len ci_len T.b_len (by decide +kernel) (ia_cons (ie_var 2) ia_nil)) ie_int (nomark _))
    (iss_one (is_ret ie_bl))
    iss_nil)
    (iss_cons (is_set (i := 4) sc_law_equal.nd (ie_mt0 PySem.F.plainAttrs_list PySem.F.slot_list_pop PySem.F.type_list_pop mt_pop chk_list mi_pop (ie_var 2)))
    (iss_cons (is_set (i := 5) sc_law_equal.nd (ie_ix (ie_var 4) ie_int))
    (iss_cons (is_set (i := 6) sc_law_equal.nd (ie_ix (ie_var 4) ie_int))
    (iss_one (is_if (it_w (iw_or (it_cmp or_isM oi_is (ie_var 6) ie_non (nomark _)) (iw_or1 (it_val (ie_B call_isi ci_isi T.b_isinstance (by decide +kernel) (ia_cons (ie_var 6) (ia_cons (ie_ty (t := .bool) T.b_bool (by decide +kernel)) ia_nil)))))))
    (iss_one (is_if (it_w (iw_or (it_cmp (or_neM hr.units) oi_ne (ie_B call_isi ci_isi T.b_isinstance (by decide +kernel) (ia_cons (ie_var 5) (ia_cons (ie_ty (t := .bool) T.b_bool (by decide +kernel)) ia_nil))) (ie_B call_isi ci_isi T.b_isinstance (by decide +kernel) (ia_cons (ie_var 6) (ia_cons (ie_ty (t := .bool) T.b_bool (by decide +kernel)) ia_nil))) (nomark _)) (iw_or1 (it_cmp (or_neM hr.units) oi_ne (ie_var 5) (ie_var 6) (nomark _)))))
    (iss_one (is_ret ie_bl))
    iss_nil))
    (iss_one (is_if (it_val (ie_B call_isi ci_isi T.b_isinstance (by decide +kernel) (ia_cons (ie_var 6) (ia_cons (ie_ty (t := .int) T.b_int (by decide +kernel)) ia_nil))))
    (iss_one (is_if (it_w (iw_or (it_not (it_val (ie_call (L2.takes_of rfl rfl rfl rfl) F_law_whole rfl (hr.mono (by decide)) T.g__law_whole k_law_whole b_law_whole_1 v_law_whole_1 w_law_whole_1 (ia_cons (ie_var 5) ia_nil)))) (iw_or1 (it_cmp (or_neM hr.units) oi_ne (ie_var 5) (ie_var 6) (nomark _)))))
    (iss_one (is_ret ie_bl))
    iss_nil))
    (iss_one (is_if (it_val (ie_B call_isi ci_isi T.b_isinstance (by decide +kernel) (ia_cons (ie_var 6) (ia_cons (ie_ty (t := .str) T.b_str (by decide +kernel)) ia_nil))))
    (iss_one (is_if (it_w (iw_or (it_not (it_val (ie_B call_isi ci_isi T.b_isinstance (by decide +kernel) (ia_cons (ie_var 5) (ia_cons (ie_ty (t := .str) T.b_str (by decide +kernel)) ia_nil))))) (iw_or1 (it_cmp (or_neM hr.units) oi_ne (ie_var 5) (ie_var 6) (nomark _)))))
    (iss_one (is_ret ie_bl))
    iss_nil))
    (iss_cons (is_if (it_w (iw_or (it_cmp (or_neM hr.units) oi_ne (ie_B call_isi ci_isi T.b_isinstance (by decide +kernel) (ia_cons (ie_var 5) (ia_cons (ie_ty (t := .list) T.b_list (by decide +kernel)) ia_nil))) (ie_B call_isi ci_isi T.b_isinstance (by decide +kernel) (ia_cons (ie_var 6) (ia_cons (ie_ty (t := .list) T.b_list (by decide +kernel)) ia_nil))) (nomark _)) (iw_or1 (it_cmp (or_neM hr.units) oi_ne (ie_B call_isi ci_isi T.b_isinstance (by decide +kernel) (ia_cons (ie_var 5) (ia_cons (ie_ty (t := .tuple) T.b_tuple (by decide +kernel)) ia_nil))) (ie_B call_isi ci_isi T.b_isinstance (by decide +kernel) (ia_cons (ie_var 6) (ia_cons (ie_ty (t := .tuple) T.b_tuple (by decide +kernel)) ia_nil))) (nomark _)))))
    (iss_one (is_ret ie_bl))
    iss_nil)
    (iss_cons (is_if (it_val (ie_B call_isi ci_isi T.b_isinstance (by decide +kernel) (ia_cons (ie_var 6) (ia_cons (ie_ty (t := .dict) T.b_dict (by decide +kernel)) ia_nil))))
    (iss_cons (is_if (it_w (iw_or (it_not (it_val (ie_B call_isi ci_isi T.b_isinstance (by decide +kernel) (ia_cons (ie_var 5) (ia_cons (ie_ty (t := .dict) T.b_dict (by decide +kernel)) ia_nil))))) (iw_or1 (it_cmp (or_neM hr.units) oi_ne (ie_BT call_list_of ci_list T.b_list (by decide +kernel) (ia_cons (ie_var 5) ia_nil)) (ie_BT call_list_of ci_list T.b_list (by decide +kernel) (ia_cons (ie_var 6) ia_nil)) (nomark _)))))
    (iss_one (is_ret ie_bl))
    iss_nil)
    (iss_cons (is_set (i := 5) sc_law_equal.nd (ie_lc [("_law_key", 7)] rfl rfl sc_law_equal.nd (ii_seq (ie_var 6)) (blkOk_by (own := [("_law_key", 7)]) (N := N_law_equal) (sc := defScope st_law_equal) (by decide +kernel)) (by decide) (fun _ _ _ _ _ => (ig_name 7 sc_law_equal.nd)) (fun _ _ _ _ _ => its_nil) (fun _ _ _ _ _ => (ie_ix (ie_var 5) (ie_var 7)))))
    (iss_one (is_set (i := 6) sc_law_equal.nd (ie_lc [("_law_key", 7)] rfl rfl sc_law_equal.nd (ii_seq (ie_var 6)) (blkOk_by (own := [("_law_key", 7)]) (N := N_law_equal) (sc := defScope st_law_equal) (by decide +kernel)) (by decide) (fun _ _ _ _ _ => (ig_name 7 sc_law_equal.nd)) (fun _ _ _ _ _ => its_nil) (fun _ _ _ _ _ => (ie_ix (ie_var 6) (ie_var 7))))))))
    iss_nil)
    (iss_cons (is_if (it_cmp (or_neM hr.units) oi_ne (ie_B call_len ci_len T.b_len (by decide +kernel) (ia_cons (ie_var 5) ia_nil)) (ie_B call_len ci_len T.b_len (by decide +kernel) (ia_cons (ie_var 6) ia_nil)) (nomark _))
    (iss_one (is_ret ie_bl))
    iss_nil)
    (iss_one (is_for (L2.passes_of rfl) rfl (ii_range1 T.b_range (ie_B call_len ci_len T.b_len (by decide +kernel) (ia_cons (ie_var 6) ia_nil))) (ig_name 8 sc_law_equal.nd)
    (iss_one (is_expr (ie_mt PySem.F.plainAttrs_list PySem.F.slot_list_append PySem.F.type_list_append mt_append chk_list mi_append (ie_var 2) (ia_cons (ie_tup (ia_cons (ie_ix (ie_var 5) (ie_var 8)) (ia_cons (ie_ix (ie_var 6) (ie_var 8)) ia_nil))) ia_nil))))))))))))))))))))
    (iss_one (is_ret ie_bl)))))
  exact h
theorem ok_law_equal (T : Tx K mg) : ∃ fd, FI P w K mg base 2 (He.fAd K ("_law_equal", none)) fd ps_law_equal f_law_equal ∧ PySem.W.keepIn K (.ref (He.fAd K ("_law_equal", none))) = true ∧ (∃ ds, Vals (([] : List V).drop 0 : List V) ds ∧ Binds K fd ps_law_equal ds) := by
  obtain ⟨fd, F⟩ := T.d_law_equal
  exact ⟨fd, fi_law_equal T F, F.kp, ⟨[], .nil, F.bindsN fun _ _ _ _ _ _ us hl => match us, hl with | [_, _], _ => rfl⟩⟩
theorem fi_Table_states (T : Tx K mg) {fd : FuncData} (F : FunD K "states" "Table.states" (defArgs st_Table_states) (defBody st_Table_states) (defScope st_Table_states) ([] : List V) ([] : List (Str × V)) (He.fAd K ("Table", some "states")) fd) : FI P w K mg base 2 (He.fAd K ("Table", some "states")) fd ps_Table_states f_Table_states := by
  obtain ⟨fd_Table_start, F_Table_start, k_Table_start, ⟨ds_Table_start_1, v_Table_start_1, b_Table_start_1⟩⟩ := ok_Table_start (P := P) (w := w) (base := base) T
  have w_Table_start_1 : GVals K (([] : List V).drop 0 : List V) [] := trivial
  obtain ⟨fd_Table_moves, F_Table_moves, k_Table_moves, ⟨ds_Table_moves_2, v_Table_moves_2, b_Table_moves_2⟩⟩ := ok_Table_moves (P := P) (w := w) (base := base) T
  have w_Table_moves_2 : GVals K (([] : List V).drop 0 : List V) [] := trivial
  have h := fi_of (P := P) (w := w) (mg := mg) (base := base) F sc_Table_states (m := m_Table_states) (k := 1) (fun cdv A outer s H E hr => by
    exact (iss_cons (is_set (i := 1) sc_Table_states.nd (ie_lst (ia_cons (ie_meth0 (L2.takes_of rfl rfl rfl rfl) (ie_var 0) (congrArg (He.ga K) e_Table.symm) T.cl_Table T.me_Table_start (by decide +kernel) F_Table_start rfl (hr.mono (by decide)) b_Table_start_1 v_Table_start_1 w_Table_start_1) ia_nil)))
    (iss_cons (is_set (i := 2) sc_Table_states.nd ie_int)
    (iss_cons (is_while 4000 (L2.passes_of rfl) (it_cmp op_lt oi_lt (ie_var 2) (ie_B call_len ci_len T.b_len (by decide +kernel) (ia_cons (ie_var 1) ia_nil)) (nomark _))
    (iss_cons (is_for (L2.passes_of rfl) rfl (ii_seq (ie_meth (L2.takes_of rfl rfl rfl rfl) (ie_var 0) (congrArg (He.ga K) e_Table.symm) T.cl_Table T.me_Table_moves (by decide +kernel) F_Table_moves rfl (hr.mono (by decide)) b_Table_moves_2 v_Table_moves_2 w_Table_moves_2 (ia_cons (ie_ix (ie_var 1) (ie_var 2)) ia_nil))) (ig_tup rfl (igs_cons (ig_name 3 sc_Table_states.nd) (igs_cons (ig_name 4 sc_Table_states.nd) igs_nil)))
    (iss_one (is_if (it_w (iw_and (it_cmp (or_neM hr.units) oi_ne (ie_var 4) (ie_con T.c_BAD) (nomark _)) (iw_and1 (it_cmp op_notIn_seq oi_inS (ie_var 4) (ie_var 1) (by rfl)))))
    (iss_one (is_expr (ie_mt PySem.F.plainAttrs_list PySem.F.slot_list_append PySem.F.type_list_append mt_append chk_list mi_append (ie_var 1) (ia_cons (ie_var 4) ia_nil))))
    iss_nil)))
    (iss_one (is_aug (i := 2) sc_Table_states.nd ip_add oi_ip ie_int))))
    (iss_one (is_ret (ie_var 1)))))))
  exact h
theorem ok_Table_states (T : Tx K mg) : ∃ fd, FI P w K mg base 2 (He.fAd K ("Table", some "states")) fd ps_Table_states f_Table_states ∧ PySem.W.keepIn K (.ref (He.fAd K ("Table", some "states"))) = true ∧ (∃ ds, Vals (([] : List V).drop 0 : List V) ds ∧ Binds K fd ps_Table_states ds) := by
  obtain ⟨fd, F⟩ := T.d_Table_states
  exact ⟨fd, fi_Table_states T F, F.kp, ⟨[], .nil, F.bindsN fun _ _ _ _ _ _ us hl => match us, hl with | [_], _ => rfl⟩⟩
theorem fi_law_of (T : Tx K mg) {fd : FuncData} (F : FunD K "_law_of" "_law_of" (defArgs st_law_of) (defBody st_law_of) (defScope st_law_of) ([] : List V) ([] : List (Str × V)) (He.fAd K ("_law_of", none)) fd) : FI P w K mg base 1 (He.fAd K ("_law_of", none)) fd ps_law_of f_law_of := by
  have h := fi_of (P := P) (w := w) (mg := mg) (base := base) F sc_law_of (m := m_law_of) (k := 0) (fun cdv A outer s H E hr => by
    exact (iss_one (is_ret (ie_lc [("_law_one", 2)] rfl rfl sc_law_of.nd (ii_seq (ie_var 0)) (blkOk_by (own := [("_law_one", 2)]) (N := N_law_of) (sc := defScope st_law_of) (by decide +kernel)) (by decide) (fun _ _ _ _ _ => (ig_name 2 sc_law_of.nd)) (fun _ _ _ _ _ => (its_one (it_cmp (or_eqM hr.units) oi_eq (ie_ix (ie_var 2) ie_int) (ie_var 1) (nomark _)))) (fun _ _ _ _ _ => (ie_tup (ia_cons (ie_ix (ie_var 2) ie_int) (ia_cons (ie_ix (ie_var 2) ie_int) ia_nil))))))))
  exact h
theorem ok_law_of (T : Tx K mg) : ∃ fd, FI P w K mg base 1 (He.fAd K ("_law_of", none)) fd ps_law_of f_law_of ∧ PySem.W.keepIn K (.ref (He.fAd K ("_law_of", none))) = true ∧ (∃ ds, Vals (([] : List V).drop 0 : List V) ds ∧ Binds K fd ps_law_of ds) := by
  obtain ⟨fd, F⟩ := T.d_law_of
  exact ⟨fd, fi_law_of T F, F.kp, ⟨[], .nil, F.bindsN fun _ _ _ _ _ _ us hl => match us, hl with | [_, _], _ => rfl⟩⟩
theorem fi_law_reached (T : Tx K mg) {fd : FuncData} (F : FunD K "_law_reached" "_law_reached" (defArgs st_law_reached) (defBody st_law_reached) (defScope st_law_reached) ([] : List V) ([] : List (Str × V)) (He.fAd K ("_law_reached", none)) fd) : FI P w K mg base 2 (He.fAd K ("_law_reached", none)) fd ps_law_reached f_law_reached := by
  obtain ⟨fd_law_of, F_law_of, k_law_of, ⟨ds_law_of_2, v_law_of_2, b_law_of_2⟩⟩ := ok_law_of (P := P) (w := w) (base := base) T
  have w_law_of_2 : GVals K (([] : List V).drop 0 : List V) [] := trivial
  have h := fi_of (P := P) (w := w) (mg := mg) (base := base) F sc_law_reached (m := m_law_reached) (k := 1) (fun cdv A outer s H E hr => by
    exact (iss_cons (is_set (i := 2) sc_law_reached.nd (ie_lst (ia_cons (ie_var 1) ia_nil)))
    (iss_cons (is_for (L2.passes_of rfl) rfl (ii_range1 T.b_range ie_int) (ig_name 3 sc_law_reached.nd)
    (iss_one (is_if (it_cmp op_lt oi_lt (ie_var 3) (ie_B call_len ci_len T.b_len (by decide +kernel) (ia_cons (ie_var 2) ia_nil)) (nomark _))
    (iss_one (is_for (L2.passes_of rfl) rfl (ii_seq (ie_call (L2.takes_of rfl rfl rfl rfl) F_law_of rfl (hr.mono (by decide)) T.g__law_of k_law_of b_law_of_2 v_law_of_2 w_law_of_2 (ia_cons (ie_var 0) (ia_cons (ie_ix (ie_var 2) (ie_var 3)) ia_nil)))) (ig_name 4 sc_law_reached.nd)
    (iss_one (is_if (it_w (iw_and (it_cmp (or_neM hr.units) oi_ne (ie_ix (ie_var 4) ie_int) (ie_str (by decide +kernel)) (nomark _)) (iw_and1 (it_cmp op_notIn_seq oi_inS (ie_ix (ie_var 4) ie_int) (ie_var 2) (by rfl)))))
    (iss_one (is_expr (ie_mt PySem.F.plainAttrs_list PySem.F.slot_list_append PySem.F.type_list_append mt_append chk_list mi_append (ie_var 2) (ia_cons (ie_ix (ie_var 4) ie_int) ia_nil))))
    iss_nil))))
    iss_nil)))
    (iss_one (is_ret (ie_var 2))))))
  exact h
theorem ok_law_reached (T : Tx K mg) : ∃ fd, FI P w K mg base 2 (He.fAd K ("_law_reached", none)) fd ps_law_reached f_law_reached ∧ PySem.W.keepIn K (.ref (He.fAd K ("_law_reached", none))) = true ∧ (∃ ds, Vals (([] : List V).drop 0 : List V) ds ∧ Binds K fd ps_law_reached ds) := by
  obtain ⟨fd, F⟩ := T.d_law_reached
  exact ⟨fd, fi_law_reached T F, F.kp, ⟨[], .nil, F.bindsN fun _ _ _ _ _ _ us hl => match us, hl with | [_, _], _ => rfl⟩⟩
theorem fi_law_asked (T : Tx K mg) {fd : FuncData} (F : FunD K "_law_asked" "_law_asked" (defArgs st_law_asked) (defBody st_law_asked) (defScope st_law_asked) ([] : List V) ([] : List (Str × V)) (He.fAd K ("_law_asked", none)) fd) : FI P w K mg base 3 (He.fAd K ("_law_asked", none)) fd ps_law_asked f_law_asked := by
  obtain ⟨fd_law_due, F_law_due, k_law_due, ⟨ds_law_due_2, v_law_due_2, b_law_due_2⟩⟩ := ok_law_due (P := P) (w := w) (base := base) T
  have w_law_due_2 : GVals K (([] : List V).drop 0 : List V) [] := trivial
  obtain ⟨fd_Table_scenario, F_Table_scenario, k_Table_scenario, ⟨ds_Table_scenario_1, v_Table_scenario_1, b_Table_scenario_1⟩⟩ := ok_Table_scenario (P := P) (w := w) (base := base) T
  have w_Table_scenario_1 : GVals K (([] : List V).drop 0 : List V) [] := trivial
  obtain ⟨fd_law_equal, F_law_equal, k_law_equal, ⟨ds_law_equal_2, v_law_equal_2, b_law_equal_2⟩⟩ := ok_law_equal (P := P) (w := w) (base := base) T
  have w_law_equal_2 : GVals K (([] : List V).drop 0 : List V) [] := trivial
  obtain ⟨fd_Table_start, F_Table_start, k_Table_start, ⟨ds_Table_start_1, v_Table_start_1, b_Table_start_1⟩⟩ := ok_Table_start (P := P) (w := w) (base := base) T
  have w_Table_start_1 : GVals K (([] : List V).drop 0 : List V) [] := trivial
  obtain ⟨fd_Table_states, F_Table_states, k_Table_states, ⟨ds_Table_states_1, v_Table_states_1, b_Table_states_1⟩⟩ := ok_Table_states (P := P) (w := w) (base := base) T
  have w_Table_states_1 : GVals K (([] : List V).drop 0 : List V) [] := trivial
  obtain ⟨fd_law_reached, F_law_reached, k_law_reached, ⟨ds_law_reached_2, v_law_reached_2, b_law_reached_2⟩⟩ := ok_law_reached (P := P) (w := w) (base := base) T
  have w_law_reached_2 : GVals K (([] : List V).drop 0 : List V) [] := trivial
  obtain ⟨fd_law_places, F_law_places, k_law_places, ⟨ds_law_places_0, v_law_places_0, b_law_places_0⟩⟩ := ok_law_places (P := P) (w := w) (base := base) T
  have w_law_places_0 : GVals K (([] : List V).drop 0 : List V) [] := trivial
  obtain ⟨fd_Table_moves, F_Table_moves, k_Table_moves, ⟨ds_Table_moves_2, v_Table_moves_2, b_Table_moves_2⟩⟩ := ok_Table_moves (P := P) (w := w) (base := base) T
  have w_Table_moves_2 : GVals K (([] : List V).drop 0 : List V) [] := trivial
  obtain ⟨fd_law_of, F_law_of, k_law_of, ⟨ds_law_of_2, v_law_of_2, b_law_of_2⟩⟩ := ok_law_of (P := P) (w := w) (base := base) T
  have w_law_of_2 : GVals K (([] : List V).drop 0 : List V) [] := trivial
  have h := fi_of (P := P) (w := w) (mg := mg) (base := base) F sc_law_asked (m := m_law_asked) (k := 2) (fun cdv A outer s H E hr => by
    exact (iss_cons (is_set (i := 3) sc_law_asked.nd (ie_call (L2.takes_of rfl rfl rfl rfl) F_law_due rfl (hr.mono (by decide)) T.g__law_due k_law_due b_law_due_2 v_law_due_2 w_law_due_2 (ia_cons (ie_var 2) (ia_cons (ie_var 1) ia_nil))))
    (iss_cons (is_set (i := 4) sc_law_asked.nd (ie_meth0 (L2.takes_of rfl rfl rfl rfl) (ie_var 0) (congrArg (He.ga K) e_Table.symm) T.cl_Table T.me_Table_scenario (by decide +kernel) F_Table_scenario rfl (hr.mono (by decide)) b_Table_scenario_1 v_Table_scenario_1 w_Table_scenario_1))
    (iss_cons (is_if (it_w (iw_or (it_not (it_val (ie_call (L2.takes_of rfl rfl rfl rfl) F_law_equal rfl (hr.mono (by decide)) T.g__law_equal k_law_equal b_law_equal_2 v_law_equal_2 w_law_equal_2 (ia_cons (ie_meth0 (L2.takes_of rfl rfl rfl rfl) (ie_var 0) (congrArg (He.ga K) e_Table.symm) T.cl_Table T.me_Table_start (by decide +kernel) F_Table_start rfl (hr.mono (by decide)) b_Table_start_1 v_Table_start_1 w_Table_start_1) (ia_cons (ie_var 1) ia_nil))))) (iw_or1 (it_not (it_val (ie_call (L2.takes_of rfl rfl rfl rfl) F_law_equal rfl (hr.mono (by decide)) T.g__law_equal k_law_equal b_law_equal_2 v_law_equal_2 w_law_equal_2 (ia_cons (ie_var 4) (ia_cons (ie_var 3) ia_nil))))))))
    (iss_one (is_ret ie_bl))
    iss_nil)
    (iss_cons (is_if (it_cmp or_isNM oi_isN (ie_var 4) ie_non (nomark _))
    (iss_one (is_expr (ie_mt PySem.F.plainAttrs_list PySem.F.slot_list_append PySem.F.type_list_append mt_append chk_list mi_append (ie_var 4) (ia_cons (ie_str (by decide +kernel)) ia_nil))))
    iss_nil)
    (iss_cons (is_set (i := 5) sc_law_asked.nd (ie_meth0 (L2.takes_of rfl rfl rfl rfl) (ie_var 0) (congrArg (He.ga K) e_Table.symm) T.cl_Table T.me_Table_states (by decide +kernel) F_Table_states rfl (hr.mono (by decide)) b_Table_states_1 v_Table_states_1 w_Table_states_1))
    (iss_cons (is_if (it_not (it_val (ie_call (L2.takes_of rfl rfl rfl rfl) F_law_equal rfl (hr.mono (by decide)) T.g__law_equal k_law_equal b_law_equal_2 v_law_equal_2 w_law_equal_2 (ia_cons (ie_var 5) (ia_cons (ie_call (L2.takes_of rfl rfl rfl rfl) F_law_reached rfl (hr.mono (by decide)) T.g__law_reached k_law_reached b_law_reached_2 v_law_reached_2 w_law_reached_2 (ia_cons (ie_var 2) (ia_cons (ie_var 1) ia_nil))) ia_nil)))))
    (iss_one (is_ret ie_bl))
    iss_nil)
    (iss_cons (is_expr (ie_mt PySem.F.plainAttrs_list PySem.F.slot_list_append PySem.F.type_list_append mt_append chk_list mi_append (ie_var 5) (ia_cons (ie_str (by decide +kernel)) ia_nil)))
    (iss_cons (is_for (L2.passes_of rfl) rfl (ii_seq (ie_call0 (L2.takes_of rfl rfl rfl rfl) F_law_places rfl (hr.mono (by decide)) T.g__law_places k_law_places b_law_places_0 v_law_places_0 w_law_places_0)) (ig_name 6 sc_law_asked.nd)
    (iss_cons (is_set (i := 7) sc_law_asked.nd (ie_meth (L2.takes_of rfl rfl rfl rfl) (ie_var 0) (congrArg (He.ga K) e_Table.symm) T.cl_Table T.me_Table_moves (by decide +kernel) F_Table_moves rfl (hr.mono (by decide)) b_Table_moves_2 v_Table_moves_2 w_Table_moves_2 (ia_cons (ie_var 6) ia_nil)))
    (iss_cons (is_if (it_not (it_val (ie_call (L2.takes_of rfl rfl rfl rfl) F_law_equal rfl (hr.mono (by decide)) T.g__law_equal k_law_equal b_law_equal_2 v_law_equal_2 w_law_equal_2 (ia_cons (ie_var 7) (ia_cons (ie_call (L2.takes_of rfl rfl rfl rfl) F_law_of rfl (hr.mono (by decide)) T.g__law_of k_law_of b_law_of_2 v_law_of_2 w_law_of_2 (ia_cons (ie_var 2) (ia_cons (ie_var 6) ia_nil))) ia_nil)))))
    (iss_one (is_ret ie_bl))
    iss_nil)
    (iss_cons (is_expr (ie_mt PySem.F.plainAttrs_list PySem.F.slot_list_append PySem.F.type_list_append mt_append chk_list mi_append (ie_var 7) (ia_cons (ie_tup (ia_cons (ie_str (by decide +kernel)) (ia_cons (ie_str (by decide +kernel)) ia_nil))) ia_nil)))
    (iss_one (is_if (it_not (it_val (ie_call (L2.takes_of rfl rfl rfl rfl) F_law_equal rfl (hr.mono (by decide)) T.g__law_equal k_law_equal b_law_equal_2 v_law_equal_2 w_law_equal_2 (ia_cons (ie_meth (L2.takes_of rfl rfl rfl rfl) (ie_var 0) (congrArg (He.ga K) e_Table.symm) T.cl_Table T.me_Table_moves (by decide +kernel) F_Table_moves rfl (hr.mono (by decide)) b_Table_moves_2 v_Table_moves_2 w_Table_moves_2 (ia_cons (ie_var 6) ia_nil)) (ia_cons (ie_call (L2.takes_of rfl rfl rfl rfl) F_law_of rfl (hr.mono (by decide)) T.g__law_of k_law_of b_law_of_2 v_law_of_2 w_law_of_2 (ia_cons (ie_var 2) (ia_cons (ie_var 6) ia_nil))) ia_nil)))))
    (iss_one (is_ret ie_bl))
    iss_nil))))))
    (iss_one (is_ret (ie_and (ie_call (L2.takes_of rfl rfl rfl rfl) F_law_equal rfl (hr.mono (by decide)) T.g__law_equal k_law_equal b_law_equal_2 v_law_equal_2 w_law_equal_2 (ia_cons (ie_meth0 (L2.takes_of rfl rfl rfl rfl) (ie_var 0) (congrArg (He.ga K) e_Table.symm) T.cl_Table T.me_Table_scenario (by decide +kernel) F_Table_scenario rfl (hr.mono (by decide)) b_Table_scenario_1 v_Table_scenario_1 w_Table_scenario_1) (ia_cons (ie_var 3) ia_nil))) (ie_one (ie_call (L2.takes_of rfl rfl rfl rfl) F_law_equal rfl (hr.mono (by decide)) T.g__law_equal k_law_equal b_law_equal_2 v_law_equal_2 w_law_equal_2 (ia_cons (ie_meth0 (L2.takes_of rfl rfl rfl rfl) (ie_var 0) (congrArg (He.ga K) e_Table.symm) T.cl_Table T.me_Table_states (by decide +kernel) F_Table_states rfl (hr.mono (by decide)) b_Table_states_1 v_Table_states_1 w_Table_states_1) (ia_cons (ie_call (L2.takes_of rfl rfl rfl rfl) F_law_reached rfl (hr.mono (by decide)) T.g__law_reached k_law_reached b_law_reached_2 v_law_reached_2 w_law_reached_2 (ia_cons (ie_var 2) (ia_cons (ie_var 1) ia_nil))) ia_nil))))))))))))))))
  exact h
theorem ok_law_asked (T : Tx K mg) : ∃ fd, FI P w K mg base 3 (He.fAd K ("_law_asked", none)) fd ps_law_asked f_law_asked ∧ PySem.W.keepIn K (.ref (He.fAd K ("_law_asked", none))) = true ∧ (∃ ds, Vals (([] : List V).drop 0 : List V) ds ∧ Binds K fd ps_law_asked ds) := by
  obtain ⟨fd, F⟩ := T.d_law_asked
  exact ⟨fd, fi_law_asked T F, F.kp, ⟨[], .nil, F.bindsN fun _ _ _ _ _ _ us hl => match us, hl with | [_, _, _], _ => rfl⟩⟩
theorem fi_law_bare (T : Tx K mg) {fd : FuncData} (F : FunD K "_law_bare" "_law_bare" (defArgs st_law_bare) (defBody st_law_bare) (defScope st_law_bare) ([] : List V) ([] : List (Str × V)) (He.fAd K ("_law_bare", none)) fd) : FI P w K mg base 3 (He.fAd K ("_law_bare", none)) fd ps_law_bare f_law_bare := by
  obtain ⟨fd_law_equal, F_law_equal, k_law_equal, ⟨ds_law_equal_2, v_law_equal_2, b_law_equal_2⟩⟩ := ok_law_equal (P := P) (w := w) (base := base) T
  have w_law_equal_2 : GVals K (([] : List V).drop 0 : List V) [] := trivial
  obtain ⟨fd_Table_start, F_Table_start, k_Table_start, ⟨ds_Table_start_1, v_Table_start_1, b_Table_start_1⟩⟩ := ok_Table_start (P := P) (w := w) (base := base) T
  have w_Table_start_1 : GVals K (([] : List V).drop 0 : List V) [] := trivial
  obtain ⟨fd_Table_moves, F_Table_moves, k_Table_moves, ⟨ds_Table_moves_2, v_Table_moves_2, b_Table_moves_2⟩⟩ := ok_Table_moves (P := P) (w := w) (base := base) T
  have w_Table_moves_2 : GVals K (([] : List V).drop 0 : List V) [] := trivial
  obtain ⟨fd_Table_scenario, F_Table_scenario, k_Table_scenario, ⟨ds_Table_scenario_1, v_Table_scenario_1, b_Table_scenario_1⟩⟩ := ok_Table_scenario (P := P) (w := w) (base := base) T
  have w_Table_scenario_1 : GVals K (([] : List V).drop 0 : List V) [] := trivial
  obtain ⟨fd_Table_states, F_Table_states, k_Table_states, ⟨ds_Table_states_1, v_Table_states_1, b_Table_states_1⟩⟩ := ok_Table_states (P := P) (w := w) (base := base) T
  have w_Table_states_1 : GVals K (([] : List V).drop 0 : List V) [] := trivial
  have h := fi_of (P := P) (w := w) (mg := mg) (base := base) F sc_law_bare (m := m_law_bare) (k := 2) (fun cdv A outer s H E hr => by
    exact (iss_cons (is_if (it_w (iw_or (it_not (it_val (ie_call (L2.takes_of rfl rfl rfl rfl) F_law_equal rfl (hr.mono (by decide)) T.g__law_equal k_law_equal b_law_equal_2 v_law_equal_2 w_law_equal_2 (ia_cons (ie_meth0 (L2.takes_of rfl rfl rfl rfl) (ie_var 0) (congrArg (He.ga K) e_Table.symm) T.cl_Table T.me_Table_start (by decide +kernel) F_Table_start rfl (hr.mono (by decide)) b_Table_start_1 v_Table_start_1 w_Table_start_1) (ia_cons (ie_var 1) ia_nil))))) (iw_or1 (it_not (it_val (ie_call (L2.takes_of rfl rfl rfl rfl) F_law_equal rfl (hr.mono (by decide)) T.g__law_equal k_law_equal b_law_equal_2 v_law_equal_2 w_law_equal_2 (ia_cons (ie_meth (L2.takes_of rfl rfl rfl rfl) (ie_var 0) (congrArg (He.ga K) e_Table.symm) T.cl_Table T.me_Table_moves (by decide +kernel) F_Table_moves rfl (hr.mono (by decide)) b_Table_moves_2 v_Table_moves_2 w_Table_moves_2 (ia_cons (ie_var 1) ia_nil)) (ia_cons (ie_lst ia_nil) ia_nil))))))))
    (iss_one (is_ret ie_bl))
    iss_nil)
    (iss_one (is_ret (ie_and (ie_cmp or_isM oi_is (ie_meth0 (L2.takes_of rfl rfl rfl rfl) (ie_var 0) (congrArg (He.ga K) e_Table.symm) T.cl_Table T.me_Table_scenario (by decide +kernel) F_Table_scenario rfl (hr.mono (by decide)) b_Table_scenario_1 v_Table_scenario_1 w_Table_scenario_1) ie_non (nomark _)) (ie_one (ie_call (L2.takes_of rfl rfl rfl rfl) F_law_equal rfl (hr.mono (by decide)) T.g__law_equal k_law_equal b_law_equal_2 v_law_equal_2 w_law_equal_2 (ia_cons (ie_meth0 (L2.takes_of rfl rfl rfl rfl) (ie_var 0) (congrArg (He.ga K) e_Table.symm) T.cl_Table T.me_Table_states (by decide +kernel) F_Table_states rfl (hr.mono (by decide)) b_Table_states_1 v_Table_states_1 w_Table_states_1) (ia_cons (ie_lst (ia_cons (ie_var 1) ia_nil)) ia_nil)))))))))
  exact h
theorem ok_law_bare (T : Tx K mg) : ∃ fd, FI P w K mg base 3 (He.fAd K ("_law_bare", none)) fd ps_law_bare f_law_bare ∧ PySem.W.keepIn K (.ref (He.fAd K ("_law_bare", none))) = true ∧ (∃ ds, Vals (([] : List V).drop 0 : List V) ds ∧ Binds K fd ps_law_bare ds) := by
  obtain ⟨fd, F⟩ := T.d_law_bare
  exact ⟨fd, fi_law_bare T F, F.kp, ⟨[], .nil, F.bindsN fun _ _ _ _ _ _ us hl => match us, hl with | [_, _], _ => rfl⟩⟩
theorem fi_law (T : Tx K mg) {fd : FuncData} (F : FunD K "law" "law" (defArgs st_law) (defBody st_law) (defScope st_law) ([] : List V) ([] : List (Str × V)) (He.fAd K ("law", none)) fd) : FI P w K mg base 4 (He.fAd K ("law", none)) fd ps_law f_law := by
  obtain ⟨fd_law_row, F_law_row, k_law_row, ⟨ds_law_row_2, v_law_row_2, b_law_row_2⟩⟩ := ok_law_row (P := P) (w := w) (base := base) T
  have w_law_row_2 : GVals K (([] : List V).drop 0 : List V) [] := trivial
  obtain ⟨fd_law_begin, F_law_begin, k_law_begin, ⟨ds_law_begin_2, v_law_begin_2, b_law_begin_2⟩⟩ := ok_law_begin (P := P) (w := w) (base := base) T
  have w_law_begin_2 : GVals K (([] : List V).drop 0 : List V) [] := trivial
  obtain ⟨fd_law_listed, F_law_listed, k_law_listed, ⟨ds_law_listed_2, v_law_listed_2, b_law_listed_2⟩⟩ := ok_law_listed (P := P) (w := w) (base := base) T
  have w_law_listed_2 : GVals K (([] : List V).drop 0 : List V) [] := trivial
  obtain ⟨fd_Table_init, F_Table_init, k_Table_init, b_Table_init_1_rows_first, ⟨ds_Table_init_1, v_Table_init_1, b_Table_init_1⟩, ⟨ds_Table_init_2, v_Table_init_2, b_Table_init_2⟩, ⟨ds_Table_init_3, v_Table_init_3, b_Table_init_3⟩⟩ := ok_Table_init (P := P) (w := w) (base := base) T
  have w_Table_init_1_rows_first : GVals K ([.str "start", .ref (He.dflAt ("Table", some "__init__") 1 K)] : List V) [(.str [115, 116, 97, 114, 116]), (.tup [])] := ⟨(gval_str (by decide +kernel)), T.dv_Table_init_1, trivial⟩
  have w_Table_init_1 : GVals K (([.str "start", .ref (He.dflAt ("Table", some "__init__") 1 K)] : List V).drop 0 : List V) [(.str [115, 116, 97, 114, 116]), (.tup [])] := ⟨(gval_str (by decide +kernel)), T.dv_Table_init_1, trivial⟩
  have w_Table_init_2 : GVals K (([.str "start", .ref (He.dflAt ("Table", some "__init__") 1 K)] : List V).drop 1 : List V) [(.tup [])] := ⟨T.dv_Table_init_1, trivial⟩
  have w_Table_init_3 : GVals K (([.str "start", .ref (He.dflAt ("Table", some "__init__") 1 K)] : List V).drop 2 : List V) [] := trivial
  obtain ⟨fd_law_asked, F_law_asked, k_law_asked, ⟨ds_law_asked_3, v_law_asked_3, b_law_asked_3⟩⟩ := ok_law_asked (P := P) (w := w) (base := base) T
  have w_law_asked_3 : GVals K (([] : List V).drop 0 : List V) [] := trivial
  obtain ⟨fd_law_bare, F_law_bare, k_law_bare, ⟨ds_law_bare_2, v_law_bare_2, b_law_bare_2⟩⟩ := ok_law_bare (P := P) (w := w) (base := base) T
  have w_law_bare_2 : GVals K (([] : List V).drop 0 : List V) [] := trivial
  have h := fi_of (P := P) (w := w) (mg := mg) (base := base) F sc_law (m := m_law) (k := 3) (fun cdv A outer s H E hr => by
    exact (iss_cons (is_set (i := 1) sc_law.nd (ie_call (L2.takes_of rfl rfl rfl rfl) F_law_row rfl (hr.mono (by decide)) T.g__law_row k_law_row b_law_row_2 v_law_row_2 w_law_row_2 (ia_cons (ie_var 0) (ia_cons ie_int ia_nil))))
    (iss_cons (is_set (i := 2) sc_law.nd (ie_call (L2.takes_of rfl rfl rfl rfl) F_law_begin rfl (hr.mono (by decide)) T.g__law_begin k_law_begin b_law_begin_2 v_law_begin_2 w_law_begin_2 (ia_cons (ie_var 1) (ia_cons ie_int ia_nil))))
    (iss_cons (is_set (i := 3) sc_law.nd (ie_call (L2.takes_of rfl rfl rfl rfl) F_law_listed rfl (hr.mono (by decide)) T.g__law_listed k_law_listed b_law_listed_2 v_law_listed_2 w_law_listed_2 (ia_cons (ie_var 1) (ia_cons ie_int ia_nil))))
    (iss_cons (is_set (i := 4) sc_law.nd (ie_BT call_list_of ci_list T.b_list (by decide +kernel) (ia_cons (ie_var 3) ia_nil)))
    (iss_cons (is_set (i := 5) sc_law.nd (ie_make (L2.takes_of rfl rfl rfl rfl) T.mk_Table (congrArg (He.ga K) e_Table.symm) F_Table_init rfl (hr.mono (by decide)) T.g_Table b_Table_init_3 v_Table_init_3 w_Table_init_3 (ia_cons (ie_var 2) (ia_cons (ie_var 4) ia_nil))))
    (iss_cons (is_expr (ie_mt PySem.F.plainAttrs_list PySem.F.slot_list_append PySem.F.type_list_append mt_append chk_list mi_append (ie_var 4) (ia_cons (ie_tup (ia_cons (ie_var 2) (ia_cons (ie_str (by decide +kernel)) (ia_cons (ie_str (by decide +kernel)) ia_nil)))) ia_nil)))
    (iss_cons (is_set (i := 6) sc_law.nd (ie_call (L2.takes_of rfl rfl rfl rfl) F_law_begin rfl (hr.mono (by decide)) T.g__law_begin k_law_begin b_law_begin_2 v_law_begin_2 w_law_begin_2 (ia_cons (ie_var 1) (ia_cons ie_int ia_nil))))
    (iss_cons (is_set (i := 7) sc_law.nd (ie_call (L2.takes_of rfl rfl rfl rfl) F_law_listed rfl (hr.mono (by decide)) T.g__law_listed k_law_listed b_law_listed_2 v_law_listed_2 w_law_listed_2 (ia_cons (ie_var 1) (ia_cons ie_int ia_nil))))
    (iss_cons (is_set (i := 8) sc_law.nd (ie_makeK0 (L2.takes_of rfl rfl rfl rfl) T.mk_Table (congrArg (He.ga K) e_Table.symm) F_Table_init rfl (hr.mono (by decide)) T.g_Table b_Table_init_1_rows_first w_Table_init_1_rows_first (ik_cons (ie_BT call_tuple_of ci_tuple T.b_tuple (by decide +kernel) (ia_cons (ie_var 7) ia_nil)) (ik_cons (ie_var 6) ik_nil))))
    (iss_cons (is_if (it_w (iw_or (it_not (it_val (ie_call (L2.takes_of rfl rfl rfl rfl) F_law_asked rfl (hr.mono (by decide)) T.g__law_asked k_law_asked b_law_asked_3 v_law_asked_3 w_law_asked_3 (ia_cons (ie_var 5) (ia_cons (ie_var 2) (ia_cons (ie_var 3) ia_nil)))))) (iw_or1 (it_not (it_val (ie_call (L2.takes_of rfl rfl rfl rfl) F_law_asked rfl (hr.mono (by decide)) T.g__law_asked k_law_asked b_law_asked_3 v_law_asked_3 w_law_asked_3 (ia_cons (ie_var 8) (ia_cons (ie_var 6) (ia_cons (ie_var 7) ia_nil)))))))))
    (iss_one (is_ret ie_bl))
    iss_nil)
    (iss_cons (is_expr (ie_mt0 PySem.F.plainAttrs_list PySem.F.slot_list_clear PySem.F.type_list_clear mt_clear chk_list mi_clear (ie_var 4)))
    (iss_cons (is_if (it_w (iw_or (it_not (it_val (ie_call (L2.takes_of rfl rfl rfl rfl) F_law_asked rfl (hr.mono (by decide)) T.g__law_asked k_law_asked b_law_asked_3 v_law_asked_3 w_law_asked_3 (ia_cons (ie_var 5) (ia_cons (ie_var 2) (ia_cons (ie_var 3) ia_nil)))))) (iw_or1 (it_not (it_val (ie_call (L2.takes_of rfl rfl rfl rfl) F_law_asked rfl (hr.mono (by decide)) T.g__law_asked k_law_asked b_law_asked_3 v_law_asked_3 w_law_asked_3 (ia_cons (ie_var 8) (ia_cons (ie_var 6) (ia_cons (ie_var 7) ia_nil)))))))))
    (iss_one (is_ret ie_bl))
    iss_nil)
    (iss_cons (is_if (it_w (iw_or (it_not (it_val (ie_call (L2.takes_of rfl rfl rfl rfl) F_law_bare rfl (hr.mono (by decide)) T.g__law_bare k_law_bare b_law_bare_2 v_law_bare_2 w_law_bare_2 (ia_cons (ie_make0 (L2.takes_of rfl rfl rfl rfl) T.mk_Table (congrArg (He.ga K) e_Table.symm) F_Table_init rfl (hr.mono (by decide)) T.g_Table b_Table_init_1 v_Table_init_1 w_Table_init_1) (ia_cons (ie_str (by decide +kernel)) ia_nil))))) (iw_or1 (it_not (it_val (ie_call (L2.takes_of rfl rfl rfl rfl) F_law_bare rfl (hr.mono (by decide)) T.g__law_bare k_law_bare b_law_bare_2 v_law_bare_2 w_law_bare_2 (ia_cons (ie_make (L2.takes_of rfl rfl rfl rfl) T.mk_Table (congrArg (He.ga K) e_Table.symm) F_Table_init rfl (hr.mono (by decide)) T.g_Table b_Table_init_2 v_Table_init_2 w_Table_init_2 (ia_cons (ie_var 6) ia_nil)) (ia_cons (ie_var 6) ia_nil))))))))
    (iss_one (is_ret ie_bl))
    iss_nil)
    (iss_one (is_ret (ie_and (ie_B call_isi ci_isi T.b_isinstance (by decide +kernel) (ia_cons (ie_con T.c_BAD) (ia_cons (ie_ty (t := .str) T.b_str (by decide +kernel)) ia_nil))) (ie_one (ie_cmp (or_eqM hr.units) oi_eq (ie_con T.c_BAD) (ie_str (by decide +kernel)) (nomark _))))))))))))))))))))
  exact h
end
end K44
set_option Elab.async false
set_option linter.all false
set_option maxRecDepth 100000
set_option maxHeartbeats 40000000
namespace K44
open PySem PySem.Spec PyProof.Rows L2 GL
def fn : List He.DefD := [⟨("_law_row", none), "_law_row", "_law_row", defArgs st_law_row, defBody st_law_row, defScope st_law_row, [], []⟩,
  ⟨("_law_digit", none), "_law_digit", "_law_digit", defArgs st_law_digit, defBody st_law_digit, defScope st_law_digit, [], []⟩,
  ⟨("_law_places", none), "_law_places", "_law_places", defArgs st_law_places, defBody st_law_places, defScope st_law_places, [], []⟩,
  ⟨("_law_begin", none), "_law_begin", "_law_begin", defArgs st_law_begin, defBody st_law_begin, defScope st_law_begin, [], []⟩,
  ⟨("_law_pick", none), "_law_pick", "_law_pick", defArgs st_law_pick, defBody st_law_pick, defScope st_law_pick, [], []⟩,
  ⟨("_law_listed", none), "_law_listed", "_law_listed", defArgs st_law_listed, defBody st_law_listed, defScope st_law_listed, [], []⟩,
  ⟨("Table", some "__init__"), "__init__", "Table.__init__", defArgs st_Table_init, defBody st_Table_init, defScope st_Table_init, [.str "start", .adr (He.dflAt ("Table", some "__init__") 1)], []⟩,
  ⟨("_law_far", none), "_law_far", "_law_far", defArgs st_law_far, defBody st_law_far, defScope st_law_far, [], []⟩,
  ⟨("_law_due", none), "_law_due", "_law_due", defArgs st_law_due, defBody st_law_due, defScope st_law_due, [], []⟩,
  ⟨("Table", some "start"), "start", "Table.start", defArgs st_Table_start, defBody st_Table_start, defScope st_Table_start, [], []⟩,
  ⟨("Table", some "moves"), "moves", "Table.moves", defArgs st_Table_moves, defBody st_Table_moves, defScope st_Table_moves, [], []⟩,
  ⟨("Table", some "scenario"), "scenario", "Table.scenario", defArgs st_Table_scenario, defBody st_Table_scenario, defScope st_Table_scenario, [], []⟩,
  ⟨("_law_whole", none), "_law_whole", "_law_whole", defArgs st_law_whole, defBody st_law_whole, defScope st_law_whole, [], []⟩,
  ⟨("_law_equal", none), "_law_equal", "_law_equal", defArgs st_law_equal, defBody st_law_equal, defScope st_law_equal, [], []⟩,
  ⟨("Table", some "states"), "states", "Table.states", defArgs st_Table_states, defBody st_Table_states, defScope st_Table_states, [], []⟩,
  ⟨("_law_of", none), "_law_of", "_law_of", defArgs st_law_of, defBody st_law_of, defScope st_law_of, [], []⟩,
  ⟨("_law_reached", none), "_law_reached", "_law_reached", defArgs st_law_reached, defBody st_law_reached, defScope st_law_reached, [], []⟩,
  ⟨("_law_asked", none), "_law_asked", "_law_asked", defArgs st_law_asked, defBody st_law_asked, defScope st_law_asked, [], []⟩,
  ⟨("_law_bare", none), "_law_bare", "_law_bare", defArgs st_law_bare, defBody st_law_bare, defScope st_law_bare, [], []⟩,
  ⟨("law", none), "law", "law", defArgs st_law, defBody st_law, defScope st_law, [], []⟩]
def fbs : List (PySem.W.Frag → Bool) := [(He.Fa.free "abs").ok,
  (He.Fa.free "bool").ok,
  (He.Fa.free "dict").ok,
  (He.Fa.free "int").ok,
  (He.Fa.free "isinstance").ok,
  (He.Fa.free "len").ok,
  (He.Fa.free "list").ok,
  (He.Fa.free "range").ok,
  (He.Fa.free "str").ok,
  (He.Fa.free "tuple").ok,
  (He.Fa.glo "_law_row").ok,
  (He.Fa.glo "_law_digit").ok,
  (He.Fa.glo "_law_places").ok,
  (He.Fa.glo "_law_begin").ok,
  (He.Fa.glo "_law_pick").ok,
  (He.Fa.glo "_law_listed").ok,
  (He.Fa.glo "_law_far").ok,
  (He.Fa.glo "_law_due").ok,
  (He.Fa.glo "_law_whole").ok,
  (He.Fa.glo "_law_equal").ok,
  (He.Fa.glo "_law_of").ok,
  (He.Fa.glo "_law_reached").ok,
  (He.Fa.glo "_law_asked").ok,
  (He.Fa.glo "_law_bare").ok,
  (He.Fa.glo "law").ok,
  (He.Fa.cls "Table").ok,
  (He.Fa.glo "Table").ok,
  (He.Fa.mkr "Table").ok,
  (He.Fa.meth "Table" "moves").ok,
  (He.Fa.meth "Table" "scenario").ok,
  (He.Fa.meth "Table" "start").ok,
  (He.Fa.meth "Table" "states").ok,
  (fun K => conV K "BAD" w_BAD),
  (He.Fa.noat "Table" "first").ok,
  (He.Fa.noat "Table" "rows").ok,
  (fun K => dflV K ("Table", some "__init__") 1 (.tup []))]
abbrev R : PySem.W.OpenRow := PySem.W.OpenLaw.row PySem.Challenge.rw_guestlives_k44_shortest_moves_of_explici
abbrev hk : PySem.W.Hook := hookB 6 (allB fbs) fn
def ob (s : PySem.W.SharedT) : He.AlD := obsBG 6 (allB fbs) fn (HandSHeadRun.getT s)
theorem ob_eq (s : PySem.W.SharedT) : ob s = hk.obs s.abs := obsBG_eq (HandSHeadRun.getT_eq s)
def loose : List Str := (["_wall", "BAD", "Table", "_law_row", "_law_digit", "_law_pick", "_law_whole", "_law_equal", "_law_places", "_law_listed", "_law_begin", "_law_of", "_law_far", "_law_due", "_law_reached", "_law_asked", "_law_bare"] : List Str)
theorem run (w : World) : HandSHeadRun.RunEq R (PySem.W.view R.prog [18]) hk ob 4000 loose w := by
  intro os
  kernel_rfl
theorem tx_of {K : PySem.W.Frag} {h : Heap} {mg : Str → Option Value} (X : K.In h) (G : h.Ns mainGlobals mg) (c : SaysB (allB fbs) fn K) : Tx K mg where
  b_abs := He.free_ok X G (allB_at c.facts 0)
  b_bool := He.free_ok X G (allB_at c.facts 1)
  b_dict := He.free_ok X G (allB_at c.facts 2)
  b_int := He.free_ok X G (allB_at c.facts 3)
  b_isinstance := He.free_ok X G (allB_at c.facts 4)
  b_len := He.free_ok X G (allB_at c.facts 5)
  b_list := He.free_ok X G (allB_at c.facts 6)
  b_range := He.free_ok X G (allB_at c.facts 7)
  b_str := He.free_ok X G (allB_at c.facts 8)
  b_tuple := He.free_ok X G (allB_at c.facts 9)
  g__law_row := He.glo_ok X G (allB_at c.facts 10)
  g__law_digit := He.glo_ok X G (allB_at c.facts 11)
  g__law_places := He.glo_ok X G (allB_at c.facts 12)
  g__law_begin := He.glo_ok X G (allB_at c.facts 13)
  g__law_pick := He.glo_ok X G (allB_at c.facts 14)
  g__law_listed := He.glo_ok X G (allB_at c.facts 15)
  g__law_far := He.glo_ok X G (allB_at c.facts 16)
  g__law_due := He.glo_ok X G (allB_at c.facts 17)
  g__law_whole := He.glo_ok X G (allB_at c.facts 18)
  g__law_equal := He.glo_ok X G (allB_at c.facts 19)
  g__law_of := He.glo_ok X G (allB_at c.facts 20)
  g__law_reached := He.glo_ok X G (allB_at c.facts 21)
  g__law_asked := He.glo_ok X G (allB_at c.facts 22)
  g__law_bare := He.glo_ok X G (allB_at c.facts 23)
  g_law := He.glo_ok X G (allB_at c.facts 24)
  cl_Table := He.cls_ok (allB_at c.facts 25)
  g_Table := He.glo_ok X G (allB_at c.facts 26)
  mk_Table := He.mkr_ok (allB_at c.facts 27)
  me_Table_moves := He.meth_ok (allB_at c.facts 28)
  me_Table_scenario := He.meth_ok (allB_at c.facts 29)
  me_Table_start := He.meth_ok (allB_at c.facts 30)
  me_Table_states := He.meth_ok (allB_at c.facts 31)
  c_BAD := conV_ok X G (allB_at c.facts 32)
  att := fun C f e => by
    have e := List.any_eq_true.mp e
    obtain ⟨p, hp, q⟩ := e
    have q := Bool.and_eq_true_iff.mp q
    obtain ⟨q1, q2⟩ := q
    have q1 := of_decide_eq_true q1
    have q2 := of_decide_eq_true q2
    subst q1 q2
    simp only [tabL, List.mem_cons, List.not_mem_nil, or_false] at hp
    rcases hp with rfl | rfl
    · rw [show toS (n_Table, n_first).1 = ("Table" : Str) from e_Table, show toS (n_Table, n_first).2 = ("first" : Str) by decide +kernel]; exact ⟨He.cls_ok (allB_at c.facts 25), He.noat_ok (allB_at c.facts 33)⟩
    · rw [show toS (n_Table, n_rows).1 = ("Table" : Str) from e_Table, show toS (n_Table, n_rows).2 = ("rows" : Str) by decide +kernel]; exact ⟨He.cls_ok (allB_at c.facts 25), He.noat_ok (allB_at c.facts 34)⟩
  dv_Table_init_1 := dflV_ok (allB_at c.facts 35)
  d_law_row := c.defs 0
  d_law_digit := c.defs 1
  d_law_places := c.defs 2
  d_law_begin := c.defs 3
  d_law_pick := c.defs 4
  d_law_listed := c.defs 5
  d_Table_init := c.defs 6
  d_law_far := c.defs 7
  d_law_due := c.defs 8
  d_Table_start := c.defs 9
  d_Table_moves := c.defs 10
  d_Table_scenario := c.defs 11
  d_law_whole := c.defs 12
  d_law_equal := c.defs 13
  d_Table_states := c.defs 14
  d_law_of := c.defs 15
  d_law_reached := c.defs 16
  d_law_asked := c.defs 17
  d_law_bare := c.defs 18
  d_law := c.defs 19
end K44
open PySem PySem.W PySem.Calls PyProof.Rows in
theorem K44.holds_of (plain : ∀ ns : List Int, ns.length ≤ 63 → ∃ S, K44.f_law [.loc 0] [.rol (ns.map .int)] = .ok (.bl true) S) : PySem.Challenge.rw_guestlives_k44_shortest_moves_of_explici.Holds := by
  w_on; o_law
  refine HandSHeadRun.head_any (r := OpenLaw.row PySem.Challenge.rw_guestlives_k44_shortest_moves_of_explici) (q := view (OpenLaw.row PySem.Challenge.rw_guestlives_k44_shortest_moves_of_explici).prog [18]) (H := K44.hk) (ob := K44.ob) (M := 4000) (loose := K44.loose) (d := HandSHeadRun.topDef (OpenLaw.row PySem.Challenge.rw_guestlives_k44_shortest_moves_of_explici).prog 18) (kwd := []) K44.ob_eq
    (by kernel_rfl) (fun s => by kernel_rfl) K44.run (by kernel_rfl) (by kernel_rfl) (by kernel_rfl) (by rfl) (by first | assumption | decide +kernel) (by decide +kernel) ⟨rfl, rfl, rfl, rfl, rfl, by decide +kernel⟩ ?hw ?hc
  case hw => w_witness2
  case hc =>
    refine GL.walk_end (l := PySem.Challenge.rw_guestlives_k44_shortest_moves_of_explici) (n := 63) (k := 4) (x := "_law_script") rfl (by decide) (by kernel_rfl) ⟨rfl, by decide, by decide⟩ ?F
    intro w mg fa h Y G hmg0
    obtain ⟨K, KX, c⟩ := Y
    have T : K44.Tx K mg := K44.tx_of KX G c
    have hmg : mg ("law" : PySem.Str) = some (.ref fa) := by
      have e : (HandSHeadRun.topDef (OpenLaw.row PySem.Challenge.rw_guestlives_k44_shortest_moves_of_explici).prog 18).name = ("law" : PySem.Str) := by kernel_rfl
      rw [← e]; exact hmg0
    have e := hmg.symm.trans T.g_law
    cases e
    obtain ⟨fd0, F0⟩ := T.d_law
    have hb := F0.bindsA (ps := [("_law_script" : PySem.Str)]) fun _ _ _ _ _ _ us hl => match us, hl with | [_], _ => rfl
    exact ⟨K, fd0, GL.spI K 1 K44.f_law, KX, fun s v => hb s [v] rfl, fun H a ns hl hO hS => GL.law_sp rfl plain H a ns hl hO hS, fun base X2 G2 => K44.fi_law T F0⟩
set_option Elab.async false
set_option linter.all false
set_option maxRecDepth 100000
set_option maxHeartbeats 1000000
namespace VL
open GL (PV OB Sto Ls Nm BT)
inductive Fl where
  | fz | ow | lk
  deriving DecidableEq, Inhabited
inductive Sc where
  | non | bl (b : Bool) | int (i : Int) | str (s : List Nat) | ty (b : BT) | gl (x : Nm)
  deriving DecidableEq, Inhabited
inductive Hd where
  | lst | rol | dct (ks : List PV) | ins (C : Nm) (ns : List Nm)
  deriving Inhabited
inductive D where
  | sc (s : Sc) | tup (xs : List D) | nd (k : Fl) (h : Hd) (xs : List D)
  deriving Inhabited
inductive A where
  | sc (s : Sc) | tup (xs : List A) | nd (k : Fl) (n : Nat) (h : Hd) (xs : List A)
  deriving Inhabited
theorem A.ind {P : A → Prop} (h1 : ∀ s, P (.sc s)) (h2 : ∀ xs, (∀ x ∈ xs, P x) → P (.tup xs)) (h3 : ∀ k n h xs, (∀ x ∈ xs, P x) → P (.nd k n h xs)) (a : A) : P a :=
  A.rec (motive_1 := P) (motive_2 := fun xs => ∀ x ∈ xs, P x) h1 h2 h3 (fun _ h => by cases h) (fun x r hx hr y hy => by
    rcases List.mem_cons.mp hy with rfl | h
    · exact hx
    · exact hr y h) a
theorem D.ind {P : D → Prop} (h1 : ∀ s, P (.sc s)) (h2 : ∀ xs, (∀ x ∈ xs, P x) → P (.tup xs)) (h3 : ∀ k h xs, (∀ x ∈ xs, P x) → P (.nd k h xs)) (a : D) : P a :=
  D.rec (motive_1 := P) (motive_2 := fun xs => ∀ x ∈ xs, P x) h1 h2 h3 (fun _ h => by cases h) (fun x r hx hr y hy => by
    rcases List.mem_cons.mp hy with rfl | h
    · exact hx
    · exact hr y h) a
def Sc.pv : Sc → PV
  | .non => .non
  | .bl b => .bl b
  | .int i => .int i
  | .str s => .str s
  | .ty b => .ty b
  | .gl x => .gl x
def Hd.wf : Hd → Nat → Bool
  | .lst, _ => true
  | .rol, _ => true
  | .dct ks, n => decide (ks.length = n)
  | .ins _ ns, n => decide (ns.length = n)
def mkO : Hd → List PV → OB
  | .lst, ws => .lst ws
  | .rol, ws => .rol ws
  | .dct ks, ws => .dct (ks.zip ws)
  | .ins C ns, ws => .ins C (ns.zip ws)
mutual
def A.er : A → D
  | .sc s => .sc s
  | .tup xs => .tup (A.ers xs)
  | .nd k _ h xs => .nd k h (A.ers xs)
def A.ers : List A → List D
  | [] => []
  | x :: r => A.er x :: A.ers r
end
mutual
def A.pv : A → PV
  | .sc s => s.pv
  | .tup xs => .tup (A.pvs xs)
  | .nd _ n _ _ => .loc n
def A.pvs : List A → List PV
  | [] => []
  | x :: r => A.pv x :: A.pvs r
end
mutual
def A.fp : A → List Nat
  | .sc _ => []
  | .tup xs => A.fps xs
  | .nd .fz _ _ xs => A.fps xs
  | .nd .ow n _ xs => n :: A.fps xs
  | .nd .lk n _ xs => n :: A.fps xs
def A.fps : List A → List Nat
  | [] => []
  | x :: r => A.fp x ++ A.fps r
end
abbrev FM := Nat → Option (Bool × OB)
mutual
def A.ok (F : FM) (S : Sto) : A → Prop
  | .sc _ => True
  | .tup xs => A.fps xs = [] ∧ A.oks F S xs
  | .nd .fz n h xs => F n = some (true, mkO h (A.pvs xs)) ∧ h.wf xs.length = true ∧ A.fps xs = [] ∧ A.oks F S xs
  | .nd .lk n h xs => F n = some (false, mkO h (A.pvs xs)) ∧ h.wf xs.length = true ∧ A.oks F S xs
  | .nd .ow n h xs => (F n = none ∧ S[n]? = some (mkO h (A.pvs xs))) ∧ h.wf xs.length = true ∧ A.oks F S xs
def A.oks (F : FM) (S : Sto) : List A → Prop
  | [] => True
  | x :: r => A.ok F S x ∧ A.oks F S r
end
theorem ers_map (xs : List A) : A.ers xs = xs.map A.er := by induction xs <;> simp_all [A.ers]
theorem pvs_map (xs : List A) : A.pvs xs = xs.map A.pv := by induction xs <;> simp_all [A.pvs]
theorem fps_map (xs : List A) : A.fps xs = xs.flatMap A.fp := by induction xs <;> simp_all [A.fps]
theorem oks_iff {F : FM} {S : Sto} (xs : List A) : A.oks F S xs ↔ ∀ x ∈ xs, x.ok F S := by induction xs <;> simp_all [A.oks]
def D.shr : D → Bool
  | .nd .ow _ _ => false
  | .nd .lk _ _ => false
  | _ => true
def A.shr : A → Bool
  | .nd .ow _ _ _ => false
  | .nd .lk _ _ _ => false
  | _ => true
theorem shr_er (a : A) : a.er.shr = a.shr := by
  cases a with
  | sc s => simp [A.er, D.shr, A.shr]
  | tup xs => simp [A.er, D.shr, A.shr]
  | nd k n h xs => cases k <;> simp [A.er, D.shr, A.shr]
variable {F F' : FM} {S S' : Sto}
theorem fp_shr {a : A} (h : a.ok F S) (s : a.shr = true) : a.fp = [] := by
  cases a with
  | sc s => simp [A.fp]
  | tup xs => simp only [A.ok] at h; simp [A.fp, h.1]
  | nd k n hd xs => cases k <;> simp_all [A.fp, A.ok, A.shr]
def Mono (F F' : FM) : Prop := ∀ n b o, F n = some (b, o) → F' n = some (b, o)
theorem Mono.refl : Mono F F := fun _ _ _ h => h
theorem Mono.trans {F1 F2 F3 : FM} (a : Mono F1 F2) (b : Mono F2 F3) : Mono F1 F3 := fun n x o h => b n x o (a n x o h)
def MonoT (F F' : FM) : Prop := ∀ n o, F n = some (true, o) → F' n = some (true, o)
theorem Mono.t (m : Mono F F') : MonoT F F' := fun n o h => m n true o h
theorem ok_frameT (m : MonoT F F') : ∀ {a : A}, (∀ n ∈ a.fp, F' n = F n ∧ S'[n]? = S[n]?) → a.ok F S → a.ok F' S' := by
  intro a
  induction a using A.ind with
  | h1 s => intros; simp [A.ok]
  | h2 xs ih =>
    intro hn h
    simp only [A.ok, oks_iff, A.fp] at h hn ⊢
    refine ⟨h.1, fun x hx => ih x hx (fun n q => ?_) (h.2 x hx)⟩
    exact hn n (by rw [fps_map]; exact List.mem_flatMap.mpr ⟨x, hx, q⟩)
  | h3 k n hd xs ih =>
    intro hn h
    have kid : A.oks F S xs → (∀ n ∈ A.fps xs, F' n = F n ∧ S'[n]? = S[n]?) → A.oks F' S' xs := fun h hn => by
      rw [oks_iff] at h ⊢
      exact fun x hx => ih x hx (fun n q => hn n (by rw [fps_map]; exact List.mem_flatMap.mpr ⟨x, hx, q⟩)) (h x hx)
    cases k with
    | fz =>
      simp only [A.ok, A.fp] at h hn ⊢
      exact ⟨m _ _ h.1, h.2.1, h.2.2.1, kid h.2.2.2 hn⟩
    | lk =>
      simp only [A.ok, A.fp] at h hn ⊢
      have e := hn n List.mem_cons_self
      rw [e.1]
      exact ⟨h.1, h.2.1, kid h.2.2 fun n q => hn n (List.mem_cons_of_mem _ q)⟩
    | ow =>
      simp only [A.ok, A.fp] at h hn ⊢
      have e := hn n List.mem_cons_self
      rw [e.1, e.2]
      exact ⟨h.1, h.2.1, kid h.2.2 fun n q => hn n (List.mem_cons_of_mem _ q)⟩
theorem ok_frame (m : Mono F F') {a : A} (hn : ∀ n ∈ a.fp, F' n = F n ∧ S'[n]? = S[n]?) (h : a.ok F S) : a.ok F' S' := ok_frameT m.t hn h
def FS (F : FM) (S : Sto) : Prop := ∀ n b o, F n = some (b, o) → S[n]? = some o
theorem fp_lt (fs : FS F S) : ∀ {a : A}, a.ok F S → ∀ n ∈ a.fp, n < S.length := by
  intro a
  induction a using A.ind with
  | h1 s => intro _ n h; simp [A.fp] at h
  | h2 xs ih =>
    intro h n hn
    simp only [A.ok] at h
    rw [A.fp, h.1] at hn
    cases hn
  | h3 k n hd xs ih =>
    intro h m hm
    have kid : A.oks F S xs → m ∈ A.fps xs → m < S.length := fun h hm => by
      rw [fps_map] at hm
      obtain ⟨x, hx, q⟩ := List.mem_flatMap.mp hm
      exact ih x hx ((oks_iff xs).mp h x hx) m q
    have lt : ∀ {o : OB}, S[n]? = some o → n < S.length := fun h => (List.getElem?_eq_some_iff.mp h).1
    cases k with
    | fz => simp only [A.ok, A.fp] at h hm; exact kid h.2.2.2 hm
    | lk =>
      simp only [A.ok, A.fp] at h hm
      rcases List.mem_cons.mp hm with rfl | q
      · exact lt (fs _ _ _ h.1)
      · exact kid h.2.2 q
    | ow =>
      simp only [A.ok, A.fp] at h hm
      rcases List.mem_cons.mp hm with rfl | q
      · exact lt h.1.2
      · exact kid h.2.2 q
mutual
def D.frz : D → Option D
  | .sc s => some (.sc s)
  | .tup xs => some (.tup xs)
  | .nd .fz h xs => some (.nd .fz h xs)
  | .nd .ow h xs => (D.frzs xs).map fun ys => .nd .fz h ys
  | .nd .lk _ _ => none
def D.frzs : List D → Option (List D)
  | [] => some []
  | x :: r => match D.frz x, D.frzs r with
    | some y, some ys => some (y :: ys)
    | _, _ => none
end
mutual
def A.frz : A → A
  | .sc s => .sc s
  | .tup xs => .tup xs
  | .nd .fz n h xs => .nd .fz n h xs
  | .nd .ow n h xs => .nd .fz n h (A.frzs xs)
  | .nd .lk n h xs => .nd .lk n h xs
def A.frzs : List A → List A
  | [] => []
  | x :: r => A.frz x :: A.frzs r
end
theorem frzs_map (xs : List A) : A.frzs xs = xs.map A.frz := by induction xs <;> simp_all [A.frzs]
theorem dfrzs_iff : ∀ (xs ys : List D), D.frzs xs = some ys ↔ ys.length = xs.length ∧ ∀ (i : Nat) (x : D), xs[i]? = some x → ∃ y : D, ys[i]? = some y ∧ D.frz x = some y
  | [], ys => by
    simp only [D.frzs, Option.some.injEq, List.length_nil, List.length_eq_zero_iff]
    constructor
    · rintro rfl; simp
    · rintro ⟨rfl, _⟩; rfl
  | x :: r, ys => by
    rw [D.frzs]
    have ih := dfrzs_iff r
    constructor
    · intro h
      split at h
      · rename_i y zs e1 e2
        cases h
        obtain ⟨l, q⟩ := (ih zs).mp e2
        refine ⟨by simp [l], fun i x' hx => ?_⟩
        cases i with
        | zero => simp at hx; subst hx; exact ⟨y, rfl, e1⟩
        | succ i => simpa using q i x' (by simpa using hx)
      · cases h
    · rintro ⟨l, q⟩
      cases ys with
      | nil => simp at l
      | cons y zs =>
        obtain ⟨y', e1, e2⟩ := q 0 x rfl
        simp at e1; subst e1
        have : D.frzs r = some zs := (ih zs).mpr ⟨by simpa using l, fun i x' hx => by
          obtain ⟨y', a, b⟩ := q (i + 1) x' (by simpa using hx)
          exact ⟨y', by simpa using a, b⟩⟩
        rw [e2, this]
theorem frz_pv : ∀ (a : A), a.frz.pv = a.pv := by
  intro a
  cases a with
  | sc s => simp [A.frz]
  | tup xs => simp [A.frz]
  | nd k n h xs => cases k <;> simp [A.frz, A.pv]
theorem frzs_pvs (xs : List A) : A.pvs (A.frzs xs) = A.pvs xs := by
  rw [pvs_map, frzs_map, pvs_map, List.map_map]
  exact List.map_congr_left fun a _ => frz_pv a
theorem frz_er : ∀ (a : A) {d : D}, D.frz a.er = some d → a.frz.er = d := by
  intro a
  induction a using A.ind with
  | h1 s => intro d h; simp [A.er, D.frz] at h; simp [A.frz, A.er, h]
  | h2 xs ih => intro d h; simp [A.er, D.frz] at h; simp [A.frz, A.er, h]
  | h3 k n hd xs ih =>
    intro d h
    cases k with
    | fz => simp [A.er, D.frz] at h; simp [A.frz, A.er, h]
    | lk => simp [A.er, D.frz] at h
    | ow =>
      simp only [A.er, D.frz, Option.map_eq_some_iff] at h
      obtain ⟨ys, e, rfl⟩ := h
      obtain ⟨l, q⟩ := (dfrzs_iff _ _).mp e
      simp only [A.frz, A.er, D.nd.injEq, true_and]
      rw [ers_map, frzs_map, List.map_map]
      apply List.ext_getElem?
      intro i
      rw [ers_map] at l q
      simp only [List.getElem?_map] at q ⊢
      cases hx : xs[i]? with
      | none =>
        rw [List.getElem?_eq_none_iff] at hx
        simp only [Option.map_none]
        exact (List.getElem?_eq_none_iff.mpr (by rw [l, List.length_map]; exact hx)).symm
      | some x =>
        obtain ⟨y, a, b⟩ := q i x.er (by rw [hx]; rfl)
        rw [a, Option.map_some, Function.comp, ih x (List.mem_of_getElem? hx) b]
def frF (F : FM) (S : Sto) (ns : List Nat) : FM := fun n => if n ∈ ns then (S[n]?).map fun o => (true, o) else F n
theorem frz_none (a : A) {d : D} (h : D.frz a.er = some d) : a.ok F S → ∀ n ∈ a.fp, F n = none := by
  induction a using A.ind generalizing d with
  | h1 s => intro _ n hn; simp [A.fp] at hn
  | h2 xs ih => intro k n hn; simp only [A.ok] at k; rw [A.fp, k.1] at hn; cases hn
  | h3 k n hd xs ih =>
    intro hk m hm
    cases k with
    | fz => simp only [A.ok, A.fp] at hk hm; rw [hk.2.2.1] at hm; cases hm
    | lk => simp [A.er, D.frz] at h
    | ow =>
      simp only [A.ok, A.fp] at hk hm
      rcases List.mem_cons.mp hm with rfl | q
      · exact hk.1.1
      · simp only [A.er, D.frz, Option.map_eq_some_iff] at h
        obtain ⟨ys, e, rfl⟩ := h
        obtain ⟨l, qq⟩ := (dfrzs_iff _ _).mp e
        rw [fps_map] at q
        obtain ⟨x, hx, q⟩ := List.mem_flatMap.mp q
        obtain ⟨i, hi⟩ := List.getElem?_of_mem hx
        obtain ⟨y, _, b⟩ := qq i x.er (by rw [ers_map, List.getElem?_map, hi]; rfl)
        exact ih x hx b ((oks_iff xs).mp hk.2.2 x hx) m q
theorem frz_fp (a : A) {d : D} (h : D.frz a.er = some d) : a.ok F S → a.frz.fp = [] := by
  induction a using A.ind generalizing d with
  | h1 s => intro _; simp [A.frz, A.fp]
  | h2 xs ih => intro k; simp only [A.ok] at k; simp [A.frz, A.fp, k.1]
  | h3 k n hd xs ih =>
    intro hk
    cases k with
    | fz => simp only [A.ok] at hk; simp [A.frz, A.fp, hk.2.2.1]
    | lk => simp [A.er, D.frz] at h
    | ow =>
      simp only [A.ok] at hk
      simp only [A.er, D.frz, Option.map_eq_some_iff] at h
      obtain ⟨ys, e, rfl⟩ := h
      obtain ⟨l, qq⟩ := (dfrzs_iff _ _).mp e
      simp only [A.frz, A.fp]
      rw [fps_map, frzs_map, List.flatMap_map, List.flatMap_eq_nil_iff]
      intro x hx
      obtain ⟨i, hi⟩ := List.getElem?_of_mem hx
      obtain ⟨y, _, b⟩ := qq i x.er (by rw [ers_map, List.getElem?_map, hi]; rfl)
      exact ih x hx b ((oks_iff xs).mp hk.2.2 x hx)
theorem frz_ok (a : A) {d : D} (h : D.frz a.er = some d) (ns : List Nat) (hF : Mono F F') (hn : ∀ n ∈ a.fp, F' n = (S[n]?).map fun o => (true, o)) : a.ok F S → a.frz.ok F' S := by
  induction a using A.ind generalizing d with
  | h1 s => intro _; simp [A.frz, A.ok]
  | h2 xs ih =>
    intro k
    have e : (A.tup xs).fp = [] := by simp only [A.ok] at k; rw [A.fp, k.1]
    exact ok_frame (a := .tup xs) hF (by rw [e]; intro n hn; cases hn) k
  | h3 k n hd xs ih =>
    intro hk
    cases k with
    | fz =>
      have e : (A.nd .fz n hd xs).fp = [] := by simp only [A.ok] at hk; rw [A.fp, hk.2.2.1]
      exact ok_frame (a := .nd .fz n hd xs) hF (by rw [e]; intro n hn; cases hn) hk
    | lk => simp [A.er, D.frz] at h
    | ow =>
      have hfp := frz_fp (F := F) (S := S) (.nd .ow n hd xs) h hk
      simp only [A.ok] at hk
      simp only [A.er, D.frz, Option.map_eq_some_iff] at h
      obtain ⟨ys, e, rfl⟩ := h
      obtain ⟨l, qq⟩ := (dfrzs_iff _ _).mp e
      simp only [A.frz, A.fp] at hfp
      simp only [A.frz, A.ok]
      refine ⟨?_, ?_, hfp, ?_⟩
      · rw [hn n (by simp [A.fp]), hk.1.2, frzs_pvs]; rfl
      · rw [frzs_map, List.length_map]; exact hk.2.1
      · rw [oks_iff, frzs_map]
        intro y hy
        obtain ⟨x, hx, rfl⟩ := List.mem_map.mp hy
        obtain ⟨i, hi⟩ := List.getElem?_of_mem hx
        obtain ⟨y, _, b⟩ := qq i x.er (by rw [ers_map, List.getElem?_map, hi]; rfl)
        exact ih x hx b (fun n hn' => hn n (by rw [A.fp, fps_map]; exact List.mem_cons_of_mem _ (List.mem_flatMap.mpr ⟨x, hx, hn'⟩))) ((oks_iff xs).mp hk.2.2 x hx)
def D.kids : D → List D
  | .sc _ => []
  | .tup xs => xs
  | .nd _ _ xs => xs
def D.wk : D → List D → D
  | .sc s, _ => .sc s
  | .tup _, ys => .tup ys
  | .nd k h _, ys => .nd k h ys
def A.kids : A → List A
  | .sc _ => []
  | .tup xs => xs
  | .nd _ _ _ xs => xs
def A.wk : A → List A → A
  | .sc s, _ => .sc s
  | .tup _, ys => .tup ys
  | .nd k n h _, ys => .nd k n h ys
def getP : List Nat → D → Option D
  | [], d => some d
  | i :: p, d => match d.kids[i]? with
    | some x => getP p x
    | none => none
def setP : List Nat → D → D → D
  | [], _, y => y
  | i :: p, d, y => match d.kids[i]? with
    | some x => d.wk (d.kids.set i (setP p x y))
    | none => d
def getA : List Nat → A → Option A
  | [], d => some d
  | i :: p, d => match d.kids[i]? with
    | some x => getA p x
    | none => none
def setA : List Nat → A → A → A
  | [], _, y => y
  | i :: p, d, y => match d.kids[i]? with
    | some x => d.wk (d.kids.set i (setA p x y))
    | none => d
theorem kids_er (a : A) : a.er.kids = a.kids.map A.er := by cases a <;> simp [A.er, A.kids, D.kids, ers_map]
theorem wk_er (a : A) (ys : List A) : (a.wk ys).er = a.er.wk (ys.map A.er) := by cases a <;> simp [A.er, A.wk, D.wk, ers_map]
theorem wk_pv (a : A) (ys : List A) (h : A.pvs ys = A.pvs a.kids) : (a.wk ys).pv = a.pv := by cases a <;> simp_all [A.pv, A.wk, A.kids]
theorem get_er : ∀ (p : List Nat) (a : A), getP p a.er = (getA p a).map A.er
  | [], a => rfl
  | i :: p, a => by
    unfold getP getA
    rw [kids_er, List.getElem?_map]
    cases a.kids[i]? with
    | none => rfl
    | some x => exact get_er p x
theorem set_er : ∀ (p : List Nat) (a y : A), (setA p a y).er = setP p a.er y.er
  | [], a, y => rfl
  | i :: p, a, y => by
    unfold setP setA
    rw [kids_er, List.getElem?_map]
    cases a.kids[i]? with
    | none => rfl
    | some x =>
      dsimp only [Option.map_some]
      rw [wk_er, List.map_set, set_er p x y]
theorem set_pv : ∀ (p : List Nat) (a y x : A), getA p a = some x → y.pv = x.pv → (setA p a y).pv = a.pv
  | [], a, y, x, h, e => by cases h; exact e
  | i :: p, a, y, x, h, e => by
    unfold getA at h
    unfold setA
    cases hk : a.kids[i]? with
    | none => rfl
    | some z =>
      rw [hk] at h
      dsimp only at h ⊢
      refine wk_pv a _ ?_
      have := set_pv p z y x h e
      rw [pvs_map, pvs_map, List.map_set, this]
      apply List.ext_getElem?
      intro j
      by_cases hj : i = j
      · subst hj
        have lt := (List.getElem?_eq_some_iff.mp hk).1
        rw [List.getElem?_set_self (by rw [List.length_map]; exact lt), List.getElem?_map, hk]; rfl
      · rw [List.getElem?_set_ne hj]
theorem fp_kids {a : A} (h : a.ok F S) (hs : a.shr = true) : A.fps a.kids = [] := by
  cases a with
  | sc s => rfl
  | tup xs => simp only [A.ok] at h; exact h.1
  | nd k n hd xs => cases k <;> simp_all [A.ok, A.kids, A.shr]
theorem ok_kids {a : A} (h : a.ok F S) : A.oks F S a.kids := by
  cases a with
  | sc s => trivial
  | tup xs => simp only [A.ok] at h; exact h.2
  | nd k n hd xs => cases k <;> simp_all [A.ok, A.kids]
theorem flat_set {xs : List A} {i : Nat} {x : A} (h : xs[i]? = some x) : ∃ L R, A.fps xs = L ++ x.fp ++ R ∧ ∀ y : A, A.fps (xs.set i y) = L ++ y.fp ++ R := by
  induction xs generalizing i with
  | nil => simp at h
  | cons z r ih =>
    cases i with
    | zero =>
      simp at h; subst h
      exact ⟨[], A.fps r, by simp [A.fps], fun y => by simp [A.fps]⟩
    | succ i =>
      obtain ⟨L, R, e, q⟩ := ih (i := i) (by simpa using h)
      exact ⟨z.fp ++ L, R, by simp [A.fps, e], fun y => by simp [A.fps, q]⟩
theorem focusT : ∀ (p : List Nat) (a x : A), a.ok F S → getA p a = some x → x.shr = false → x.ok F S ∧ ∃ L R, a.fp = L ++ x.fp ++ R ∧ (∀ y : A, (setA p a y).fp = L ++ y.fp ++ R) ∧
    (∀ F' S' (y : A), MonoT F F' → (∀ n, n ∈ L ∨ n ∈ R → F' n = F n ∧ S'[n]? = S[n]?) → y.ok F' S' → y.pv = x.pv → (setA p a y).ok F' S')
  | [], a, x, h, e, hs => by
    cases e
    exact ⟨h, [], [], by simp, fun y => by simp [setA], fun F' S' y _ _ hy _ => hy⟩
  | i :: p, a, x, h, e, hs => by
    unfold getA at e
    cases hk : a.kids[i]? with
    | none => rw [hk] at e; cases e
    | some z =>
      rw [hk] at e
      dsimp only at e
      have hz : z.ok F S := (oks_iff _).mp (ok_kids h) z (List.mem_of_getElem? hk)
      obtain ⟨hx, L, R, e1, e2, e3⟩ := focusT p z x hz e hs
      obtain ⟨L2, R2, f1, f2⟩ := flat_set hk
      have ha : a.shr = false := by
        cases hq : a.shr with
        | false => rfl
        | true =>
          have := fp_kids h hq
          rw [f1, e1] at this
          have hxn : x.fp ≠ [] := by
            cases x with
            | sc s => cases hs
            | tup xs => cases hs
            | nd k n hd xs =>
              cases k with
              | fz => cases hs
              | ow => rw [A.fp]; exact List.cons_ne_nil _ _
              | lk => rw [A.fp]; exact List.cons_ne_nil _ _
          simp only [List.append_eq_nil_iff] at this
          exact absurd this.1.2.1.2 hxn
      have hset : setA (i :: p) a = fun y => a.wk (a.kids.set i (setA p z y)) := by
        funext y; rw [setA, hk]
      cases a with
      | sc s => cases ha
      | tup xs => cases ha
      | nd k n hd xs =>
        have hp : ∀ y : A, y.pv = x.pv → A.pvs (xs.set i (setA p z y)) = A.pvs xs := fun y hy => by
          have := set_pv p z y x e hy
          rw [pvs_map, pvs_map, List.map_set, this]
          apply List.ext_getElem?
          intro j
          by_cases hj : i = j
          · subst hj
            have lt := (List.getElem?_eq_some_iff.mp hk).1
            rw [List.getElem?_set_self (by rw [List.length_map]; exact lt), List.getElem?_map, show xs[i]? = some z from hk]; rfl
          · rw [List.getElem?_set_ne hj]
        have kidok : ∀ F' S' (y : A), MonoT F F' → (∀ m, m ∈ L2 ++ L ∨ m ∈ R ++ R2 → F' m = F m ∧ S'[m]? = S[m]?) → y.ok F' S' → y.pv = x.pv → A.oks F' S' (xs.set i (setA p z y)) := fun F' S' y m hn hy hv => by
          rw [oks_iff]
          intro w hw
          obtain ⟨j, hj⟩ := List.getElem?_of_mem hw
          by_cases hij : i = j
          · subst hij
            have lt : i < xs.length := (List.getElem?_eq_some_iff.mp hk).1
            rw [List.getElem?_set_self lt] at hj
            cases hj
            exact e3 F' S' y m (fun q hq => hn q (by simp only [List.mem_append]; rcases hq with hq | hq <;> simp [hq])) hy hv
          · rw [List.getElem?_set_ne hij] at hj
            refine ok_frameT m (fun q hq => hn q ?_) ((oks_iff _).mp (ok_kids h) w (List.mem_of_getElem? hj))
            have hL : A.fps (xs.set i (.sc .non)) = L2 ++ R2 := by
              have := f2 (.sc .non)
              simpa [A.fp, A.kids] using this
            have : q ∈ A.fps (xs.set i (.sc .non)) := by
              rw [fps_map]
              exact List.mem_flatMap.mpr ⟨w, List.mem_of_getElem? (i := j) (by rw [List.getElem?_set_ne hij]; exact hj), hq⟩
            rw [hL] at this
            simp only [List.mem_append] at this ⊢
            rcases this with t | t <;> simp [t]
        cases k with
        | fz => cases ha
        | ow =>
          simp only [A.kids] at f1 f2 hk
          refine ⟨hx, n :: (L2 ++ L), R ++ R2, ?_, fun y => ?_, fun F' S' y m hn hy hv => ?_⟩
          · simp [A.fp, f1, e1]
          · rw [hset]; simp [A.wk, A.fp, A.kids, f2, e2]
          · rw [hset]
            simp only [A.ok] at h
            simp only [A.wk, A.kids, A.ok]
            rw [hp y hv, List.length_set]
            have hnn := hn n (by simp)
            rw [hnn.1, hnn.2]
            exact ⟨h.1, h.2.1, kidok F' S' y m (fun q hq => hn q (by simp only [List.mem_cons]; rcases hq with hq | hq <;> simp [hq])) hy hv⟩
        | lk =>
          simp only [A.kids] at f1 f2 hk
          refine ⟨hx, n :: (L2 ++ L), R ++ R2, ?_, fun y => ?_, fun F' S' y m hn hy hv => ?_⟩
          · simp [A.fp, f1, e1]
          · rw [hset]; simp [A.wk, A.fp, A.kids, f2, e2]
          · rw [hset]
            simp only [A.ok] at h
            simp only [A.wk, A.kids, A.ok]
            rw [hp y hv, List.length_set]
            have hnn := hn n (by simp)
            rw [hnn.1]
            exact ⟨h.1, h.2.1, kidok F' S' y m (fun q hq => hn q (by simp only [List.mem_cons]; rcases hq with hq | hq <;> simp [hq])) hy hv⟩
theorem focus (p : List Nat) (a x : A) (h : a.ok F S) (e : getA p a = some x) (hs : x.shr = false) : x.ok F S ∧ ∃ L R, a.fp = L ++ x.fp ++ R ∧ (∀ y : A, (setA p a y).fp = L ++ y.fp ++ R) ∧
    (∀ F' S' (y : A), Mono F F' → (∀ n, n ∈ L ∨ n ∈ R → F' n = F n ∧ S'[n]? = S[n]?) → y.ok F' S' → y.pv = x.pv → (setA p a y).ok F' S') := by
  obtain ⟨h1, L, R, h2, h3, h4⟩ := focusT p a x h e hs
  exact ⟨h1, L, R, h2, h3, fun F' S' y m => h4 F' S' y m.t⟩
end VL
set_option Elab.async false
set_option linter.all false
set_option maxRecDepth 100000
set_option maxHeartbeats 1000000
namespace VL
open GL (PV OB Sto Nm BT)
variable {F F' : FM} {S S' : Sto}
def Per (Q : List Nat → Prop) (x y : A) : Prop := ∀ p w, Q p → (getA p x).map A.pv = some w → (getA p y).map A.pv = some w
theorem Per.pv {Q : List Nat → Prop} {x y : A} (h : Per Q x y) (q : Q []) : y.pv = x.pv := by
  have := h [] x.pv q rfl
  simpa [getA] using this
theorem Per.refl {Q : List Nat → Prop} {x : A} : Per Q x x := fun _ _ _ h => h
theorem per_set : ∀ (q : List Nat) (a x y : A) {Q : List Nat → Prop}, getA q a = some x → y.pv = x.pv → Per Q x y → Per (fun p => ∀ s, p = q ++ s → Q s) a (setA q a y)
  | [], a, x, y, Q, h, hv, hp => by
    cases h
    intro p w hq e
    exact hp p w (hq p rfl) e
  | i :: q, a, x, y, Q, h, hv, hp => by
    intro p w hq e
    unfold getA at h
    cases hk : a.kids[i]? with
    | none => rw [hk] at h; cases h
    | some z =>
      rw [hk] at h
      dsimp only at h
      have hset : setA (i :: q) a y = a.wk (a.kids.set i (setA q z y)) := by rw [setA, hk]
      cases p with
      | nil =>
        simp only [getA, Option.map_some, Option.some.injEq] at e ⊢
        rw [set_pv (i :: q) a y x (by unfold getA; rw [hk]; exact h) hv, e]
      | cons j p =>
        have hne : a.kids ≠ [] := by intro h0; rw [h0] at hk; simp at hk
        have hkw : (a.wk (a.kids.set i (setA q z y))).kids = a.kids.set i (setA q z y) := by
          cases a with
          | sc s => exact absurd rfl hne
          | tup xs => rfl
          | nd k n hd xs => rfl
        rw [hset]
        unfold getA at e ⊢
        rw [hkw]
        by_cases hij : i = j
        · subst hij
          have lt := (List.getElem?_eq_some_iff.mp hk).1
          rw [List.getElem?_set_self lt]
          rw [hk] at e
          dsimp only at e ⊢
          exact per_set q z x y h hv hp p w (fun s hs => hq s (by rw [hs]; rfl)) e
        · rw [List.getElem?_set_ne hij]
          exact e
theorem per_frz (a : A) {d : D} (h : D.frz a.er = some d) : Per (fun _ => True) a a.frz := by
  induction a using A.ind generalizing d with
  | h1 s => exact Per.refl
  | h2 xs ih => exact Per.refl
  | h3 k n hd xs ih =>
    cases k with
    | fz => exact Per.refl
    | lk => exact Per.refl
    | ow =>
      simp only [A.er, D.frz, Option.map_eq_some_iff] at h
      obtain ⟨ys, e, rfl⟩ := h
      obtain ⟨l, qq⟩ := (dfrzs_iff _ _).mp e
      intro p w _ hp
      cases p with
      | nil => simpa [getA, A.frz, A.pv] using hp
      | cons i p =>
        unfold getA at hp ⊢
        simp only [A.frz, A.kids, frzs_map, List.getElem?_map] at hp ⊢
        cases hx : xs[i]? with
        | none => rw [hx] at hp; cases hp
        | some x =>
          rw [hx] at hp
          dsimp only [Option.map_some] at hp ⊢
          obtain ⟨y, _, b⟩ := qq i x.er (by rw [ers_map, List.getElem?_map, hx]; rfl)
          exact ih x (List.mem_of_getElem? hx) b p w trivial hp
inductive Rt where
  | l (i : Nat) | g (j : Nat)
  deriving DecidableEq, Inhabited
inductive V where
  | v (d : D) | io (d : D) | al (r : Rt) (p : List Nat) | xn (C : Nm) (ns : List Nm) (ds : List D)
  deriving Inhabited
abbrev Ls := List (Option V)
structure Exn where
  cls : Nm
  ns : List Nm
  ds : List D
inductive Out (α : Type) where
  | ok (a : α) (ls gh : Ls)
  | exc (e : Exn) (ls gh : Ls)
  | bad
inductive SOut where
  | nx (ls gh : Ls)
  | rt (d : D) (gh : Ls)
  | bk (ls gh : Ls)
  | ct (ls gh : Ls)
  | exc (e : Exn) (ls gh : Ls)
  | bad
inductive RV where
  | v (d : D) | pth (r : Rt) (p : List Nat)
  deriving Inhabited
inductive AV where
  | un (o : Option PV) | v (a : A) | io (a : A) | al (r : Rt) (p : List Nat) | xn (C : Nm) (ns : List Nm) (xs : List A)
  deriving Inhabited
def AV.er : AV → Option V
  | .un _ => none
  | .v a => some (.v a.er)
  | .io a => some (.io a.er)
  | .al r p => some (.al r p)
  | .xn C ns xs => some (.xn C ns (A.ers xs))
abbrev erS (as : List AV) : Ls := as.map AV.er
def slotD : Option (Option V) → Option D
  | some (some (.v d)) => some d
  | some (some (.io d)) => some d
  | _ => none
def rootD (ls gh : Ls) : Rt → Option D
  | .l i => slotD ls[i]?
  | .g j => slotD gh[j]?
def slotA : Option AV → Option A
  | some (.v a) => some a
  | some (.io a) => some a
  | _ => none
def rootA (as ag : List AV) : Rt → Option A
  | .l i => slotA as[i]?
  | .g j => slotA ag[j]?
theorem slot_er (x : Option AV) : slotD (x.map AV.er) = (slotA x).map A.er := by
  cases x with
  | none => rfl
  | some x => cases x <;> rfl
theorem root_er (as ag : List AV) (r : Rt) : rootD (erS as) (erS ag) r = (rootA as ag r).map A.er := by
  cases r <;> simp only [rootD, rootA, erS, List.getElem?_map, slot_er]
def atD (ls gh : Ls) (r : Rt) (p : List Nat) : Option D := (rootD ls gh r).bind (getP p)
def atA (as ag : List AV) (r : Rt) (p : List Nat) : Option A := (rootA as ag r).bind (getA p)
theorem at_er (as ag : List AV) (r : Rt) (p : List Nat) : atD (erS as) (erS ag) r p = (atA as ag r p).map A.er := by
  unfold atD atA
  rw [root_er]
  cases rootA as ag r with
  | none => rfl
  | some a => exact get_er p a
def glv (as ag : List AV) (ad : Nat × Nat) : AV → Option PV
  | .un o => o
  | .v a => some a.pv
  | .io a => some a.pv
  | .al r p => (atA as ag r p).map A.pv
  | .xn C ns xs => some (.xn ad.1 ad.2 C ns (A.pvs xs))
abbrev glS (as ag : List AV) (ad : Nat × Nat) (zs : List AV) : GL.Ls := zs.map (glv as ag ad)
def AV.fp : AV → List Nat
  | .v a => a.fp
  | .io a => a.fp
  | _ => []
def AV.ok (F : FM) (S : Sto) : AV → Prop
  | .v a => a.ok F S
  | .io a => a.ok F S
  | .xn _ _ xs => A.fps xs = [] ∧ A.oks F S xs
  | _ => True
def fpS (zs : List AV) : List Nat := zs.flatMap AV.fp
@[simp] theorem fpS_nil : fpS [] = [] := rfl
theorem fpS_cons (z : AV) (r : List AV) : fpS (z :: r) = z.fp ++ fpS r := rfl
theorem fpS_app (z r : List AV) : fpS (z ++ r) = fpS z ++ fpS r := by simp [fpS]
def Alive (as ag : List AV) (z : AV) : Prop := match z with
  | .al r p => (atA as ag r p).isSome = true
  | _ => True
structure Good (F : FM) (S : Sto) (as ag : List AV) : Prop where
  fs : FS F S
  ok : ∀ z ∈ as ++ ag, z.ok F S
  nd : (fpS (as ++ ag)).Nodup
  al : ∀ z ∈ as ++ ag, Alive as ag z
structure Ev (q : Bool) (F : FM) (S : Sto) (as ag : List AV) (x0 : List Nat) (F' : FM) (S' : Sto) (as' ag' : List AV) (x : List Nat) : Prop where
  good : Good F' S' as' ag'
  nd : (fpS (as' ++ ag') ++ x).Nodup
  lt : ∀ n ∈ x, n < S'.length
  mono : Mono F F'
  len : S.length ≤ S'.length
  keep : ∀ n, n < S.length → n ∉ fpS (as ++ ag) ++ x0 → F' n = F n ∧ S'[n]? = S[n]?
  new : ∀ n, n ∈ fpS (as' ++ ag') ++ x → n ∈ fpS (as ++ ag) ++ x0 ∨ S.length ≤ n
  gl : ∀ ad, glS as' ag' ad as' = glS as ag ad as
  gg : ∀ ad, glS as' ag' ad ag' = glS as ag ad ag
  rt : ∀ r w, (rootA as ag r).map A.pv = some w → (rootA as' ag' r).map A.pv = some w
  per : q = true → ∀ r p w, (atA as ag r p).map A.pv = some w → (atA as' ag' r p).map A.pv = some w
section
variable {as as' as'' ag ag' ag'' : List AV} {x0 x x1 x2 : List Nat} {q q' : Bool} {F'' : FM} {S'' : Sto}
theorem Ev.refl (g : Good F S as ag) (nd : (fpS (as ++ ag) ++ x).Nodup) (lt : ∀ n ∈ x, n < S.length) : Ev q F S as ag x F S as ag x :=
  ⟨g, nd, lt, Mono.refl, Nat.le_refl _, fun _ _ _ => ⟨rfl, rfl⟩, fun _ h => .inl h, fun _ => rfl, fun _ => rfl, fun _ _ h => h, fun _ _ _ _ h => h⟩
theorem Ev.trans (a : Ev q F S as ag x0 F' S' as' ag' x1) (b : Ev q' F' S' as' ag' x1 F'' S'' as'' ag'' x2) : Ev (q && q') F S as ag x0 F'' S'' as'' ag'' x2 where
  good := b.good
  nd := b.nd
  lt := b.lt
  mono := a.mono.trans b.mono
  len := Nat.le_trans a.len b.len
  keep := fun n hn hx => by
    have h1 := a.keep n hn hx
    have h2 := b.keep n (Nat.lt_of_lt_of_le hn a.len) fun h => by
      rcases a.new n h with h | h
      · exact hx h
      · exact absurd hn (Nat.not_lt.mpr h)
    exact ⟨h2.1.trans h1.1, h2.2.trans h1.2⟩
  new := fun n hn => by
    rcases b.new n hn with h | h
    · exact a.new n h
    · exact .inr (Nat.le_trans a.len h)
  gl := fun ad => (b.gl ad).trans (a.gl ad)
  gg := fun ad => (b.gg ad).trans (a.gg ad)
  rt := fun r w h => b.rt r w (a.rt r w h)
  per := fun hq r p w h => by
    obtain ⟨h1, h2⟩ := Bool.and_eq_true_iff.mp hq
    exact b.per h2 r p w (a.per h1 r p w h)
theorem Ev.weak (a : Ev q F S as ag x0 F' S' as' ag' x) (h : q' = true → q = true) : Ev q' F S as ag x0 F' S' as' ag' x :=
  ⟨a.good, a.nd, a.lt, a.mono, a.len, a.keep, a.new, a.gl, a.gg, a.rt, fun e => a.per (h e)⟩
theorem Ev.sub (a : Ev q F S as ag x0 F' S' as' ag' x) {y : List Nat} (h : y.Sublist x) : Ev q F S as ag x0 F' S' as' ag' y :=
  ⟨a.good, a.nd.sublist (List.Sublist.append_left h _), fun n hn => a.lt n (h.subset hn), a.mono, a.len, a.keep, fun n hn => a.new n (by
    rcases List.mem_append.mp hn with t | t
    · exact List.mem_append_left _ t
    · exact List.mem_append_right _ (h.subset t)), a.gl, a.gg, a.rt, a.per⟩
theorem nodup_app_comm3 {a b c : List Nat} (h : (a ++ (b ++ c)).Nodup) : (a ++ (c ++ b)).Nodup := by
  refine (List.Perm.nodup_iff ?_).mp h
  exact (List.Perm.append_left _ List.perm_append_comm)
theorem Ev.frame (a : Ev q F S as ag x0 F' S' as' ag' x) {z : List Nat} (hn : (fpS (as ++ ag) ++ (z ++ x0)).Nodup) (hz : ∀ n ∈ z, n < S.length) : Ev q F S as ag (z ++ x0) F' S' as' ag' (z ++ x) := by
  have hd : ∀ n ∈ z, n ∉ fpS (as ++ ag) ++ x0 := fun n hz hx => by
    have h1 := List.nodup_append.mp hn
    have h2 := List.nodup_append.mp h1.2.1
    rcases List.mem_append.mp hx with t | t
    · exact h1.2.2 n t n (List.mem_append_left _ hz) rfl
    · exact h2.2.2 n hz n t rfl
  have hd2 : ∀ n ∈ z, n ∉ fpS (as' ++ ag') ++ x := fun n hz' hx => by
    rcases a.new n hx with t | t
    · exact hd n hz' t
    · exact absurd (hz n hz') (Nat.not_lt.mpr t)
  refine ⟨a.good, ?_, fun n hn => ?_, a.mono, a.len, fun n hl hx => a.keep n hl fun h => hx ?_, fun n h => ?_, a.gl, a.gg, a.rt, a.per⟩
  · have h1 := List.nodup_append.mp a.nd
    refine List.nodup_append.mpr ⟨h1.1, List.nodup_append.mpr ⟨?_, h1.2.1, fun n h m h' e => ?_⟩, fun n h m h' e => ?_⟩
    · exact (List.nodup_append.mp (List.nodup_append.mp hn).2.1).1
    · exact hd2 n h (e ▸ List.mem_append_right _ h')
    · rcases List.mem_append.mp h' with t | t
      · exact hd2 m t (e ▸ List.mem_append_left _ h)
      · exact h1.2.2 n h m t e
  · rcases List.mem_append.mp hn with t | t
    · exact Nat.lt_of_lt_of_le (hz n t) a.len
    · exact a.lt n t
  · rcases List.mem_append.mp h with t | t
    · exact List.mem_append_left _ t
    · exact List.mem_append_right _ (List.mem_append_right _ t)
  · have : n ∈ z ∨ n ∈ fpS (as' ++ ag') ++ x := by
      simp only [List.mem_append] at h ⊢
      rcases h with h | h | h <;> simp [h]
    rcases this with t | t
    · exact .inl (List.mem_append_right _ (List.mem_append_left _ t))
    · rcases a.new n t with u | u
      · left
        simp only [List.mem_append] at u ⊢
        rcases u with u | u <;> simp [u]
      · exact .inr u
theorem Ev.stay (a : Ev q F S as ag x0 F' S' as' ag' x) {z : A} (h : z.ok F S) (hn : (fpS (as ++ ag) ++ (z.fp ++ x0)).Nodup) (fs : FS F S) : z.ok F' S' :=
  ok_frame a.mono (fun n hz => a.keep n (fp_lt fs h n hz) fun hx => by
    have h1 := List.nodup_append.mp hn
    have h2 := List.nodup_append.mp h1.2.1
    rcases List.mem_append.mp hx with t | t
    · exact h1.2.2 n t n (List.mem_append_left _ hz) rfl
    · exact h2.2.2 n hz n t rfl) h
end
structure RT (α β γ : Type) where
  er : γ → β
  pv : List AV → List AV → γ → Option α
  ok : FM → Sto → γ → Prop
  fp : γ → List Nat
inductive ARV where
  | v (a : A) | pth (r : Rt) (p : List Nat)
def ARV.er : ARV → RV
  | .v a => .v a.er
  | .pth r p => .pth r p
def ARV.pv (as ag : List AV) : ARV → Option PV
  | .v a => some a.pv
  | .pth r p => (atA as ag r p).map A.pv
def ARV.ok (F : FM) (S : Sto) : ARV → Prop
  | .v a => a.ok F S
  | .pth _ _ => True
def ARV.fp : ARV → List Nat
  | .v a => a.fp
  | .pth _ _ => []
def RE : RT PV RV ARV := ⟨ARV.er, ARV.pv, ARV.ok, ARV.fp⟩
def RB : RT Bool Bool Bool := ⟨id, fun _ _ b => some b, fun _ _ _ => True, fun _ => []⟩
def RO : RT (Option Int) (Option Int) (Option Int) := ⟨id, fun _ _ b => some b, fun _ _ _ => True, fun _ => []⟩
def seqO {α : Type} : List (Option α) → Option (List α)
  | [] => some []
  | x :: r => match x, seqO r with
    | some y, some ys => some (y :: ys)
    | _, _ => none
def RA : RT (List PV) (List RV) (List ARV) := ⟨List.map ARV.er, fun as ag cs => seqO (cs.map (ARV.pv as ag)), fun F S cs => ∀ c ∈ cs, c.ok F S, List.flatMap ARV.fp⟩
structure AE where
  cls : Nm
  ns : List Nm
  xs : List A
def AE.er (e : AE) : Exn := ⟨e.cls, e.ns, A.ers e.xs⟩
def AE.gl (e : AE) : GL.Exn := ⟨e.cls, e.ns.zip (A.pvs e.xs)⟩
def AE.ok (F : FM) (S : Sto) (e : AE) : Prop := e.ns.length = e.xs.length ∧ A.fps e.xs = [] ∧ A.oks F S e.xs
abbrev AD := Nat × Nat
abbrev PX (β : Type) := Ls → Ls → Out β
def SimO {α β γ : Type} (q : Bool) (R : RT α β γ) (F : FM) (S : Sto) (as ag : List AV) (x0 : List Nat) (o : AD → GL.Out α) (p : Out β) : Prop := match p with
  | .ok b ls' gh' => ∃ F' S' as' ag' c w, erS as' = ls' ∧ erS ag' = gh' ∧ R.er c = b ∧ (∀ ad, o ad = .ok w S') ∧ R.pv as' ag' c = some w ∧ R.ok F' S' c ∧ Ev q F S as ag x0 F' S' as' ag' (R.fp c)
  | .exc e ls' gh' => ∃ F' S' as' ag' x, erS as' = ls' ∧ erS ag' = gh' ∧ AE.er x = e ∧ (∀ ad, o ad = .exc x.gl S') ∧ x.ok F' S' ∧ Ev q F S as ag x0 F' S' as' ag' []
  | .bad => True
def SimX {α β γ : Type} (q : Bool) (R : RT α β γ) (m : AD → GL.Ls → Sto → GL.Out α) (p : PX β) : Prop :=
  ∀ F S as ag, Good F S as ag → SimO q R F S as ag [] (fun ad => m ad (glS as ag ad as) S) (p (erS as) (erS ag))
abbrev SimE (q : Bool) (m : AD → GL.ME) (p : PX RV) : Prop := SimX q RE m p
abbrev SimT (q : Bool) (m : AD → GL.MT) (p : PX Bool) : Prop := SimX q RB m p
abbrev SimA (q : Bool) (m : AD → GL.MA) (p : PX (List RV)) : Prop := SimX q RA m p
def Out.bind {α β : Type} (o : Out α) (f : α → Ls → Ls → Out β) : Out β := match o with
  | .ok a ls gh => f a ls gh
  | .exc e ls gh => .exc e ls gh
  | .bad => .bad
theorem SimO.weak {α β γ : Type} {R : RT α β γ} {q q' : Bool} {as ag : List AV} {x0 : List Nat} {o : AD → GL.Out α} {p : Out β} (h : SimO q R F S as ag x0 o p) (hq : q' = true → q = true) : SimO q' R F S as ag x0 o p := by
  cases p with
  | ok b ls gh => obtain ⟨F', S', as', ag', c, w, a1, a2, a3, a4, a5, a6, a7⟩ := h; exact ⟨F', S', as', ag', c, w, a1, a2, a3, a4, a5, a6, a7.weak hq⟩
  | exc e ls gh => obtain ⟨F', S', as', ag', x, a1, a2, a3, a4, a5, a7⟩ := h; exact ⟨F', S', as', ag', x, a1, a2, a3, a4, a5, a7.weak hq⟩
  | bad => trivial
end VL
set_option Elab.async false
set_option linter.all false
set_option maxRecDepth 100000
set_option maxHeartbeats 1000000
namespace VL
open GL (PV OB Sto Nm BT)
variable {F F' : FM} {S S' : Sto}
def cut : List Nat → List Nat → Option (List Nat)
  | [], s => some s
  | i :: p, j :: s => if i = j then cut p s else none
  | _ :: _, [] => none
theorem cut_app : ∀ (p s : List Nat), cut p (p ++ s) = some s
  | [], s => rfl
  | i :: p, s => by show cut (i :: p) (i :: (p ++ s)) = _; unfold cut; rw [if_pos rfl]; exact cut_app p s
def lives (t : List Nat → Bool) (r : Rt) (p : List Nat) (r' : Rt) (p' : List Nat) : Bool :=
  if r' = r then (match cut p p' with
    | some s => t s
    | none => true) else true
theorem lives_all {t : List Nat → Bool} {r r' : Rt} {p p' : List Nat} (h : ∀ s, t s = true) : lives t r p r' p' = true := by
  unfold lives
  split
  · split
    · exact h _
    · rfl
  · rfl
def killD (t : List Nat → Bool) (r : Rt) (p : List Nat) : Option V → Option V
  | some (.al r' p') => if lives t r p r' p' = true then some (.al r' p') else none
  | z => z
def putV (d : D) : Option V → Option V
  | some (.v _) => some (.v d)
  | some (.io _) => some (.io d)
  | z => z
def modN {α : Type} (f : α → α) : Nat → List α → List α
  | _, [] => []
  | 0, x :: r => f x :: r
  | i + 1, x :: r => x :: modN f i r
theorem modN_map {α β : Type} (e : α → β) (f : α → α) (g : β → β) (h : ∀ x, e (f x) = g (e x)) : ∀ (i : Nat) (xs : List α), (modN f i xs).map e = modN g i (xs.map e)
  | _, [] => by simp [modN]
  | 0, x :: r => by simp [modN, h]
  | i + 1, x :: r => by simp [modN, modN_map e f g h i r]
theorem modN_get {α : Type} (f : α → α) : ∀ (i j : Nat) (xs : List α), (modN f i xs)[j]? = if i = j then xs[j]?.map f else xs[j]?
  | _, _, [] => by simp [modN]
  | 0, 0, x :: r => by simp [modN]
  | 0, j + 1, x :: r => by simp [modN]
  | i + 1, 0, x :: r => by simp [modN]
  | i + 1, j + 1, x :: r => by simp [modN, modN_get f i j r]
def chD (t : List Nat → Bool) (r : Rt) (p : List Nat) (y : D) (ls gh : Ls) : Ls × Ls :=
  let z := (rootD ls gh r).map fun d => setP p d y
  match r, z with
  | .l i, some d => (modN (putV d) i (ls.map (killD t r p)), gh.map (killD t r p))
  | .g j, some d => (ls.map (killD t r p), modN (putV d) j (gh.map (killD t r p)))
  | _, none => (ls, gh)
def killA (as ag : List AV) (t : List Nat → Bool) (r : Rt) (p : List Nat) : AV → AV
  | .al r' p' => if lives t r p r' p' = true then .al r' p' else .un ((atA as ag r' p').map A.pv)
  | z => z
def putA (a : A) : AV → AV
  | .v _ => .v a
  | .io _ => .io a
  | z => z
def chA (t : List Nat → Bool) (r : Rt) (p : List Nat) (y : A) (as ag : List AV) : List AV × List AV :=
  let z := (rootA as ag r).map fun d => setA p d y
  match r, z with
  | .l i, some d => (modN (putA d) i (as.map (killA as ag t r p)), ag.map (killA as ag t r p))
  | .g j, some d => (as.map (killA as ag t r p), modN (putA d) j (ag.map (killA as ag t r p)))
  | _, none => (as, ag)
theorem kill_er (as ag : List AV) (t : List Nat → Bool) (r : Rt) (p : List Nat) (z : AV) : (killA as ag t r p z).er = killD t r p z.er := by
  cases z with
  | al r' p' => simp only [killA, AV.er, killD]; by_cases h : lives t r p r' p' = true <;> simp [h]
  | _ => rfl
theorem put_er (a : A) (z : AV) : (putA a z).er = putV a.er z.er := by cases z <;> rfl
theorem ch_er (t : List Nat → Bool) (r : Rt) (p : List Nat) (y : A) (as ag : List AV) : (erS (chA t r p y as ag).1, erS (chA t r p y as ag).2) = chD t r p y.er (erS as) (erS ag) := by
  have k : ∀ zs : List AV, erS (zs.map (killA as ag t r p)) = (erS zs).map (killD t r p) := fun zs => by
    simp only [erS, List.map_map]
    exact List.map_congr_left fun z _ => kill_er as ag t r p z
  unfold chA chD
  rw [root_er]
  cases r with
  | l i =>
    cases h : rootA as ag (.l i) with
    | none => rfl
    | some a =>
      simp only [Option.map_some]
      rw [← set_er, ← k, ← k]
      congr 1
      exact modN_map _ _ _ (fun x => put_er _ x) i _
  | g i =>
    cases h : rootA as ag (.g i) with
    | none => rfl
    | some a =>
      simp only [Option.map_some]
      rw [← set_er, ← k, ← k]
      congr 1
      exact modN_map _ _ _ (fun x => put_er _ x) i _
theorem kill_fp (as ag : List AV) (t : List Nat → Bool) (r : Rt) (p : List Nat) (z : AV) : (killA as ag t r p z).fp = z.fp := by
  cases z with
  | al r' p' => simp only [killA]; split <;> rfl
  | _ => rfl
theorem kill_fpS (as ag : List AV) (t : List Nat → Bool) (r : Rt) (p : List Nat) (zs : List AV) : fpS (zs.map (killA as ag t r p)) = fpS zs := by
  unfold fpS
  rw [List.flatMap_map]
  exact congrArg List.flatten (List.map_congr_left fun z _ => kill_fp as ag t r p z)
theorem kill_slot (as ag : List AV) (t : List Nat → Bool) (r : Rt) (p : List Nat) (z : Option AV) : slotA (z.map (killA as ag t r p)) = slotA z := by
  cases z with
  | none => rfl
  | some z =>
    cases z with
    | al r' p' => simp only [Option.map_some, killA]; split <;> rfl
    | _ => rfl
theorem slot_some {z : Option AV} {a : A} (h : slotA z = some a) : z = some (.v a) ∨ z = some (.io a) := by
  cases z with
  | none => cases h
  | some z => cases z <;> simp_all [slotA]
theorem mod_fp {zs : List AV} {i : Nat} {a : A} (h : slotA zs[i]? = some a) : ∃ L R, fpS zs = L ++ a.fp ++ R ∧ ∀ b : A, fpS (modN (putA b) i zs) = L ++ b.fp ++ R := by
  induction zs generalizing i with
  | nil => simp [slotA] at h
  | cons z r ih =>
    cases i with
    | zero =>
      refine ⟨[], fpS r, ?_, fun b => ?_⟩
      · rcases slot_some h with e | e <;> (simp at e; subst e; simp [fpS, AV.fp])
      · rcases slot_some h with e | e <;> (simp at e; subst e; simp [fpS, AV.fp, modN, putA])
    | succ i =>
      obtain ⟨L, R, e1, e2⟩ := ih (i := i) (by simpa using h)
      exact ⟨z.fp ++ L, R, by simp [fpS_cons, e1], fun b => by simp [modN, fpS_cons, e2]⟩
section
variable {t : List Nat → Bool} {r : Rt} {p : List Nat} {as ag : List AV} {a x y : A}
theorem ch_root (hr : rootA as ag r = some a) (r' : Rt) : rootA (chA t r p y as ag).1 (chA t r p y as ag).2 r' = if r' = r then some (setA p a y) else rootA as ag r' := by
  unfold chA
  rw [hr]
  cases r with
  | l i =>
    simp only [Option.map_some]
    cases r' with
    | l j =>
      simp only [rootA, modN_get, Rt.l.injEq, List.getElem?_map]
      by_cases hij : i = j
      · subst hij
        simp only [if_true, List.getElem?_map]
        rcases slot_some (show slotA as[i]? = some a from hr) with e | e <;> (rw [e]; rfl)
      · rw [if_neg hij, if_neg (fun e => hij e.symm)]
        rw [← List.getElem?_map, List.getElem?_map, kill_slot]
    | g j => simp only [rootA, List.getElem?_map, kill_slot, reduceCtorEq, if_false]
  | g i =>
    simp only [Option.map_some]
    cases r' with
    | g j =>
      simp only [rootA, modN_get, Rt.g.injEq, List.getElem?_map]
      by_cases hij : i = j
      · subst hij
        simp only [if_true, List.getElem?_map]
        rcases slot_some (show slotA ag[i]? = some a from hr) with e | e <;> (rw [e]; rfl)
      · rw [if_neg hij, if_neg (fun e => hij e.symm)]
        rw [← List.getElem?_map, List.getElem?_map, kill_slot]
    | l j => simp only [rootA, List.getElem?_map, kill_slot, reduceCtorEq, if_false]
theorem ch_fp (hr : rootA as ag r = some a) : ∃ L R, fpS (as ++ ag) = L ++ a.fp ++ R ∧ fpS ((chA t r p y as ag).1 ++ (chA t r p y as ag).2) = L ++ (setA p a y).fp ++ R := by
  unfold chA
  rw [hr]
  cases r with
  | l i =>
    simp only [Option.map_some]
    have h2 : slotA (as.map (killA as ag t (.l i) p))[i]? = some a := by rw [List.getElem?_map, kill_slot]; exact hr
    obtain ⟨L, R, e1, e2⟩ := mod_fp h2
    refine ⟨L, R ++ fpS ag, ?_, ?_⟩
    · rw [kill_fpS] at e1
      rw [fpS_app, e1]; simp
    · rw [fpS_app, e2, kill_fpS]; simp
  | g i =>
    simp only [Option.map_some]
    have h2 : slotA (ag.map (killA as ag t (.g i) p))[i]? = some a := by rw [List.getElem?_map, kill_slot]; exact hr
    obtain ⟨L, R, e1, e2⟩ := mod_fp h2
    refine ⟨fpS as ++ L, R, ?_, ?_⟩
    · rw [kill_fpS] at e1
      rw [fpS_app, e1]; simp
    · rw [fpS_app, e2, kill_fpS]; simp
theorem modN_take {α : Type} {f : α → α} : ∀ {i : Nat} {zs : List α} {z : α}, zs[i]? = some z → modN f i zs = zs.take i ++ f z :: zs.drop (i + 1)
  | _, [], _, h => by simp at h
  | 0, x :: r, z, h => by simp at h; subst h; rfl
  | i + 1, x :: r, z, h => by
    have e := modN_take (f := f) (i := i) (zs := r) (z := z) (by simpa using h)
    rw [modN, e]; rfl
theorem take_self {α : Type} {i : Nat} {zs : List α} {z : α} (h : zs[i]? = some z) : zs = zs.take i ++ z :: zs.drop (i + 1) := by
  have e := modN_take (f := id) h
  rw [id] at e
  rw [← e]
  apply List.ext_getElem?
  intro j
  rw [modN_get]
  split <;> simp
theorem split_root (hr : rootA as ag r = some a) : ∃ Z1 zr Z2, as ++ ag = Z1 ++ zr :: Z2 ∧ (zr = .v a ∨ zr = .io a) ∧ (chA t r p y as ag).1 ++ (chA t r p y as ag).2 = Z1.map (killA as ag t r p) ++ putA (setA p a y) zr :: Z2.map (killA as ag t r p) := by
  unfold chA
  rw [hr]
  have key : ∀ (i : Nat) (zs : List AV), slotA zs[i]? = some a → ∃ A zr B, zs = A ++ zr :: B ∧ (zr = .v a ∨ zr = .io a) ∧ modN (putA (setA p a y)) i (zs.map (killA as ag t r p)) = A.map (killA as ag t r p) ++ putA (setA p a y) zr :: B.map (killA as ag t r p) := fun i zs hs => by
    have : ∃ zr, zs[i]? = some zr ∧ (zr = .v a ∨ zr = .io a) := by
      rcases slot_some hs with e | e
      · exact ⟨_, e, .inl rfl⟩
      · exact ⟨_, e, .inr rfl⟩
    obtain ⟨zr, hz, hc⟩ := this
    have hk : killA as ag t r p zr = zr := by rcases hc with rfl | rfl <;> rfl
    refine ⟨zs.take i, zr, zs.drop (i + 1), take_self hz, hc, ?_⟩
    rw [modN_take (z := zr) (by rw [List.getElem?_map, hz, Option.map_some, hk]), List.map_take, List.map_drop]
  cases r with
  | l i =>
    obtain ⟨A, zr, B, e1, e2, e3⟩ := key i as hr
    refine ⟨A, zr, B ++ ag, by rw [e1]; simp, e2, ?_⟩
    simp only [Option.map_some]
    rw [e3]; simp
  | g i =>
    obtain ⟨A, zr, B, e1, e2, e3⟩ := key i ag hr
    refine ⟨as ++ A, zr, B, by rw [e1]; simp, e2, ?_⟩
    simp only [Option.map_some]
    rw [e3]; simp
theorem mem_ch (nd : (fpS (as ++ ag)).Nodup) (hr : rootA as ag r = some a) {z : AV} (h : z ∈ (chA t r p y as ag).1 ++ (chA t r p y as ag).2) : (∃ z0 ∈ as ++ ag, z = killA as ag t r p z0 ∧ ∀ n ∈ z0.fp, n ∉ a.fp) ∨ z = .v (setA p a y) ∨ z = .io (setA p a y) := by
  obtain ⟨Z1, zr, Z2, e1, e2, e3⟩ := split_root (t := t) (p := p) (y := y) hr
  rw [e3] at h
  have hzr : zr.fp = a.fp := by rcases e2 with rfl | rfl <;> rfl
  have nd' : (fpS Z1 ++ (a.fp ++ fpS Z2)).Nodup := by rw [← hzr, ← fpS_cons, ← fpS_app, ← e1]; exact nd
  have d1 := List.nodup_append.mp nd'
  have d2 := List.nodup_append.mp d1.2.1
  rcases List.mem_append.mp h with h | h
  · obtain ⟨z0, h0, rfl⟩ := List.mem_map.mp h
    refine .inl ⟨z0, by rw [e1]; exact List.mem_append_left _ h0, rfl, fun n hn hx => d1.2.2 n (List.mem_flatMap.mpr ⟨z0, h0, hn⟩) n (List.mem_append_left _ hx) rfl⟩
  · rcases List.mem_cons.mp h with rfl | h
    · rcases e2 with rfl | rfl
      · exact .inr (.inl rfl)
      · exact .inr (.inr rfl)
    · obtain ⟨z0, h0, rfl⟩ := List.mem_map.mp h
      exact .inl ⟨z0, by rw [e1]; exact List.mem_append_right _ (List.mem_cons_of_mem _ h0), rfl, fun n hn hx => d2.2.2 n hx n (List.mem_flatMap.mpr ⟨z0, h0, hn⟩) rfl⟩
theorem ch_per (hr : rootA as ag r = some a) (hx : getA p a = some x) (hv : y.pv = x.pv) (hp : Per (fun s => t s = true) x y) {r' : Rt} {p' : List Nat} (hl : lives t r p r' p' = true) {w : PV} (h : (atA as ag r' p').map A.pv = some w) :
    (atA (chA t r p y as ag).1 (chA t r p y as ag).2 r' p').map A.pv = some w := by
  unfold atA at h ⊢
  rw [ch_root hr]
  split
  · rename_i e; subst e
    rw [hr] at h
    refine per_set p a x y hx hv hp p' w (fun s hs => ?_) h
    unfold lives at hl
    rw [if_pos rfl, hs, cut_app] at hl
    exact hl
  · exact h
theorem ch_glv (hr : rootA as ag r = some a) (hx : getA p a = some x) (hv : y.pv = x.pv) (hp : Per (fun s => t s = true) x y) (hal : ∀ z ∈ as ++ ag, Alive as ag z) (ad : Nat × Nat) {z : AV} (hz : z ∈ as ++ ag) :
    glv (chA t r p y as ag).1 (chA t r p y as ag).2 ad (killA as ag t r p z) = glv as ag ad z := by
  cases z with
  | al r' p' =>
    simp only [killA]
    split
    · rename_i hl
      have hs : (atA as ag r' p').isSome = true := hal _ hz
      obtain ⟨b, hb⟩ := Option.isSome_iff_exists.mp hs
      simp only [glv]
      rw [ch_per hr hx hv hp hl (w := b.pv) (by rw [hb]; rfl), hb]; rfl
    · rfl
  | _ => rfl
theorem ch_gl (hr : rootA as ag r = some a) (hx : getA p a = some x) (hv : y.pv = x.pv) (hp : Per (fun s => t s = true) x y) (hal : ∀ z ∈ as ++ ag, Alive as ag z) (ad : Nat × Nat) :
    glS (chA t r p y as ag).1 (chA t r p y as ag).2 ad (chA t r p y as ag).1 = glS as ag ad as ∧ glS (chA t r p y as ag).1 (chA t r p y as ag).2 ad (chA t r p y as ag).2 = glS as ag ad ag := by
  have sv := set_pv p a y x hx hv
  have plain : ∀ zs : List AV, (∀ z ∈ zs, z ∈ as ++ ag) → (zs.map (killA as ag t r p)).map (glv (chA t r p y as ag).1 (chA t r p y as ag).2 ad) = zs.map (glv as ag ad) := fun zs hz => by
    rw [List.map_map]
    exact List.map_congr_left fun z h => ch_glv hr hx hv hp hal ad (hz z h)
  have md : ∀ (i : Nat) (zs : List AV), slotA zs[i]? = some a → (∀ z ∈ zs, z ∈ as ++ ag) → (modN (putA (setA p a y)) i (zs.map (killA as ag t r p))).map (glv (chA t r p y as ag).1 (chA t r p y as ag).2 ad) = zs.map (glv as ag ad) := fun i zs hs hz => by
    rw [← plain zs hz]
    apply List.ext_getElem?
    intro j
    rw [List.getElem?_map, modN_get, List.getElem?_map]
    split
    · rename_i e; subst e
      rw [List.getElem?_map]
      rcases slot_some hs with e | e
      · simp [e, killA, putA, glv, sv]
      · simp [e, killA, putA, glv, sv]
    · rw [List.getElem?_map, List.getElem?_map]
  have ha := plain as (fun z h => List.mem_append_left _ h)
  have hg := plain ag (fun z h => List.mem_append_right _ h)
  cases r with
  | l i =>
    have hm := md i as hr (fun z h => List.mem_append_left _ h)
    have e : chA t (.l i) p y as ag = (modN (putA (setA p a y)) i (as.map (killA as ag t (.l i) p)), ag.map (killA as ag t (.l i) p)) := by unfold chA; rw [hr]; rfl
    rw [e] at hm hg ⊢
    exact ⟨hm, hg⟩
  | g i =>
    have hm := md i ag hr (fun z h => List.mem_append_right _ h)
    have e : chA t (.g i) p y as ag = (as.map (killA as ag t (.g i) p), modN (putA (setA p a y)) i (ag.map (killA as ag t (.g i) p))) := by unfold chA; rw [hr]; rfl
    rw [e] at hm ha ⊢
    exact ⟨ha, hm⟩
theorem ev_ch {q : Bool} {x0 x1 : List Nat} (hq : q = true → ∀ s, t s = true) (g : Good F S as ag) (nd : (fpS (as ++ ag) ++ x0).Nodup) (hr : rootA as ag r = some a) (hx : getA p a = some x) (hs : x.shr = false) (hv : y.pv = x.pv) (hp : Per (fun s => t s = true) x y)
    (m : Mono F F') (fs : FS F' S') (len : S.length ≤ S'.length) (keep : ∀ n, n < S.length → n ∉ x.fp ++ x0 → F' n = F n ∧ S'[n]? = S[n]?) (hy : y.ok F' S') (hn : (y.fp ++ x1).Nodup)
    (new : ∀ n, n ∈ y.fp ++ x1 → n ∈ x.fp ++ x0 ∨ S.length ≤ n) (lt : ∀ n ∈ x1, n < S'.length) :
    Ev q F S as ag x0 F' S' (chA t r p y as ag).1 (chA t r p y as ag).2 x1 := by
  have aok : a.ok F S := by
    have : ∃ z ∈ as ++ ag, z = .v a ∨ z = .io a := by
      cases r with
      | l i => rcases slot_some hr with e | e <;> exact ⟨_, List.mem_append_left _ (List.mem_of_getElem? e), by simp⟩
      | g i => rcases slot_some hr with e | e <;> exact ⟨_, List.mem_append_right _ (List.mem_of_getElem? e), by simp⟩
    obtain ⟨z, hz, rfl | rfl⟩ := this
    · exact g.ok _ hz
    · exact g.ok _ hz
  obtain ⟨xok, L, R, e1, e2, e3⟩ := focus p a x aok hx hs
  obtain ⟨L2, R2, f1, f2⟩ := ch_fp (t := t) (p := p) (y := y) hr
  rw [e1] at f1
  rw [e2] at f2
  have xlt := fp_lt g.fs xok
  have apart : ∀ n, n ∈ L2 ++ L ∨ n ∈ R ++ R2 → n < S.length ∧ n ∉ x.fp ++ x0 ∧ n ∉ y.fp ++ x1 := fun n hn' => by
    have hmem : n ∈ fpS (as ++ ag) := by rw [f1]; simp only [List.mem_append] at hn' ⊢; rcases hn' with (h | h) | h | h <;> simp [h]
    have hlt : n < S.length := by
      unfold fpS at hmem
      obtain ⟨z, hz, hq⟩ := List.mem_flatMap.mp hmem
      have zok := g.ok z hz
      cases z with
      | v b => exact fp_lt g.fs zok n hq
      | io b => exact fp_lt g.fs zok n hq
      | _ => cases hq
    have hnx : n ∉ x.fp ++ x0 := by
      rw [f1] at nd
      intro hx'
      have nd' : ((L2 ++ L) ++ (x.fp ++ (R ++ R2)) ++ x0).Nodup := by simpa using nd
      have d1 := List.nodup_append.mp nd'
      have d2 := List.nodup_append.mp d1.1
      have d3 := List.nodup_append.mp d2.2.1
      rcases List.mem_append.mp hx' with u | u
      · rcases hn' with v | v
        · exact d2.2.2 n v n (List.mem_append_left _ u) rfl
        · exact d3.2.2 n u n v rfl
      · refine d1.2.2 n ?_ n u rfl
        rcases hn' with v | v
        · exact List.mem_append_left _ v
        · exact List.mem_append_right _ (List.mem_append_right _ v)
    refine ⟨hlt, hnx, fun hy' => ?_⟩
    rcases new n hy' with u | u
    · exact hnx u
    · omega
  have agree : ∀ n, n ∈ L2 ++ L ∨ n ∈ R ++ R2 → F' n = F n ∧ S'[n]? = S[n]? := fun n h => keep n (apart n h).1 (apart n h).2.1
  have newok : (setA p a y).ok F' S' := e3 F' S' y m (fun n h => agree n (by simp only [List.mem_append]; rcases h with h | h <;> simp [h])) hy hv
  have ndall : (fpS ((chA t r p y as ag).1 ++ (chA t r p y as ag).2) ++ x1).Nodup := by
    rw [f2]
    have h0 : (L2 ++ L ++ (R ++ R2)).Nodup := by
      have : (L2 ++ (L ++ x.fp ++ R) ++ R2).Nodup := by rw [← f1]; exact g.nd
      refine this.sublist ?_
      have s1 : (L ++ R).Sublist (L ++ x.fp ++ R) := by
        have : (L ++ ([] ++ R)).Sublist (L ++ (x.fp ++ R)) := List.Sublist.append_left (List.Sublist.append_right (List.nil_sublist _) _) _
        simpa using this
      have : (L2 ++ ((L ++ R) ++ R2)).Sublist (L2 ++ ((L ++ x.fp ++ R) ++ R2)) := List.Sublist.append_left (List.Sublist.append_right s1 _) _
      simpa using this
    have h1 : ((L2 ++ L ++ (R ++ R2)) ++ (y.fp ++ x1)).Nodup := List.nodup_append.mpr ⟨h0, hn, fun n h k h' e => by
      subst e
      exact (apart n (List.mem_append.mp h)).2.2 h'⟩
    refine (List.Perm.nodup_iff ?_).mp h1
    simp only [List.append_assoc]
    refine List.Perm.append_left _ (List.Perm.append_left _ ?_)
    rw [← List.append_assoc, ← List.append_assoc]
    have : (R ++ R2 ++ (y.fp ++ x1)).Perm (y.fp ++ (R ++ R2) ++ x1) := by
      rw [← List.append_assoc]
      exact List.Perm.append_right _ List.perm_append_comm
    simpa using this
  have gl := fun ad => ch_gl (t := t) (p := p) hr hx hv hp g.al ad
  refine ⟨⟨fs, fun z hz => ?_, (List.nodup_append.mp ndall).1, fun z hz => ?_⟩, ndall, lt, m, len, fun n hl hx' => keep n hl fun h => hx' ?_, fun n h => ?_, fun ad => (gl ad).1, fun ad => (gl ad).2, fun r' w h => ?_, (fun h r' p' w hw => ch_per hr hx hv hp (lives_all (hq h)) hw)⟩
  · -- each slot holds
    have other : ∀ b : A, b.ok F S → (∀ n ∈ b.fp, n ∉ a.fp) → (∀ n ∈ b.fp, n ∈ fpS (as ++ ag)) → b.ok F' S' := fun b hb h1 h2 =>
      ok_frame m (fun n hn' => keep n (fp_lt g.fs hb n hn') fun hq => by
        rcases List.mem_append.mp hq with u | u
        · exact h1 n hn' (by rw [e1]; simp [u])
        · exact (List.nodup_append.mp nd).2.2 n (h2 n hn') n u rfl) hb
    have inS : ∀ z0 ∈ as ++ ag, ∀ n ∈ z0.fp, n ∈ fpS (as ++ ag) := fun z0 h0 n h => List.mem_flatMap.mpr ⟨z0, h0, h⟩
    rcases mem_ch g.nd hr hz with ⟨z0, h0, rfl, hd⟩ | rfl | rfl
    · cases z0 with
      | al r' p' => simp only [killA]; split <;> trivial
      | un o => trivial
      | v b => exact other b (g.ok _ h0) hd (inS _ h0)
      | io b => exact other b (g.ok _ h0) hd (inS _ h0)
      | xn C ns xs =>
        have := g.ok _ h0
        refine ⟨this.1, ?_⟩
        have t : (A.tup xs).ok F' S' := ok_frame (a := .tup xs) m (by rw [A.fp, this.1]; intro n hn'; cases hn') (show (A.tup xs).ok F S from this)
        exact t.2
    · exact newok
    · exact newok
  · rcases mem_ch g.nd hr hz with ⟨z0, h0, rfl, hd⟩ | rfl | rfl
    · cases z0 with
      | al r' p' =>
        simp only [killA]
        split
        · rename_i hl
          obtain ⟨b, hb⟩ := Option.isSome_iff_exists.mp (show (atA as ag r' p').isSome = true from g.al _ h0)
          have := ch_per hr hx hv hp hl (w := b.pv) (by rw [hb]; rfl)
          obtain ⟨c, hc, _⟩ := Option.map_eq_some_iff.mp this
          show (atA _ _ r' p').isSome = true
          rw [hc]; rfl
        · trivial
      | _ => trivial
    · trivial
    · trivial
  · rcases List.mem_append.mp h with u | u
    · refine List.mem_append_left _ ?_
      rw [f1]; simp [u]
    · exact List.mem_append_right _ u
  · rw [f2] at h
    by_cases hq : n ∈ y.fp ++ x1
    · rcases new n hq with u | u
      · left
        rcases List.mem_append.mp u with v | v
        · exact List.mem_append_left _ (by rw [f1]; simp [v])
        · exact List.mem_append_right _ v
      · exact .inr u
    · left
      refine List.mem_append_left _ ?_
      rw [f1]
      simp only [List.mem_append] at h hq ⊢
      rcases h with (((h | (h | h) | h) | h) | h) <;> simp_all
  · rw [ch_root hr]
    split
    · rename_i e; subst e
      rw [hr] at h
      rw [Option.map_some, set_pv p a y x hx hv]; exact h
    · exact h
end
end VL
set_option Elab.async false
set_option linter.all false
set_option maxRecDepth 100000
set_option maxHeartbeats 1000000
namespace VL
open GL (PV OB Sto Nm BT)
variable {F F' : FM} {S S' : Sto} {as as' ag ag' : List AV}
abbrev D.non : D := .sc .non
abbrev D.bl (b : Bool) : D := .sc (.bl b)
abbrev D.int (i : Int) : D := .sc (.int i)
abbrev D.str (s : List Nat) : D := .sc (.str s)
abbrev D.ty (b : BT) : D := .sc (.ty b)
abbrev D.lst (k : Fl) (xs : List D) : D := .nd k .lst xs
mutual
def dOf : PV → D
  | .non => .sc .non
  | .bl b => .sc (.bl b)
  | .int i => .sc (.int i)
  | .str s => .sc (.str s)
  | .tup xs => .tup (dOfs xs)
  | .gl x => .sc (.gl x)
  | .ty b => .sc (.ty b)
  | _ => .sc .non
def dOfs : List PV → List D
  | [] => []
  | x :: r => dOf x :: dOfs r
end
mutual
def aOf : PV → A
  | .non => .sc .non
  | .bl b => .sc (.bl b)
  | .int i => .sc (.int i)
  | .str s => .sc (.str s)
  | .tup xs => .tup (aOfs xs)
  | .gl x => .sc (.gl x)
  | .ty b => .sc (.ty b)
  | _ => .sc .non
def aOfs : List PV → List A
  | [] => []
  | x :: r => aOf x :: aOfs r
end
mutual
def rig : PV → Bool
  | .tup xs => rigs xs
  | .loc _ => false
  | .xn _ _ _ _ _ => false
  | _ => true
def rigs : List PV → Bool
  | [] => true
  | x :: r => rig x && rigs r
end
mutual
theorem aOf_er : ∀ w : PV, (aOf w).er = dOf w
  | .tup xs => by simp [aOf, A.er, dOf, aOfs_er xs]
  | .non => rfl
  | .bl _ => rfl
  | .int _ => rfl
  | .str _ => rfl
  | .gl _ => rfl
  | .ty _ => rfl
  | .loc _ => rfl
  | .xn _ _ _ _ _ => rfl
theorem aOfs_er : ∀ w : List PV, A.ers (aOfs w) = dOfs w
  | [] => rfl
  | x :: r => by simp [aOfs, A.ers, dOfs, aOf_er x, aOfs_er r]
end
mutual
theorem aOf_pv : ∀ {w : PV}, rig w = true → (aOf w).pv = w
  | .tup xs, h => by simp [aOf, A.pv, aOfs_pv (show rigs xs = true from h)]
  | .non, _ => rfl
  | .bl _, _ => rfl
  | .int _, _ => rfl
  | .str _, _ => rfl
  | .gl _, _ => rfl
  | .ty _, _ => rfl
theorem aOfs_pv : ∀ {w : List PV}, rigs w = true → A.pvs (aOfs w) = w
  | [], _ => rfl
  | x :: r, h => by
    obtain ⟨h1, h2⟩ := Bool.and_eq_true_iff.mp (show (rig x && rigs r) = true from h)
    simp [aOfs, A.pvs, aOf_pv h1, aOfs_pv h2]
end
mutual
theorem aOf_fp : ∀ (w : PV), (aOf w).fp = [] ∧ (aOf w).ok F S
  | .tup xs => by have := aOfs_fp xs; simp [aOf, A.fp, A.ok, this]
  | .non => ⟨rfl, trivial⟩
  | .bl _ => ⟨rfl, trivial⟩
  | .int _ => ⟨rfl, trivial⟩
  | .str _ => ⟨rfl, trivial⟩
  | .gl _ => ⟨rfl, trivial⟩
  | .ty _ => ⟨rfl, trivial⟩
  | .loc _ => ⟨rfl, trivial⟩
  | .xn _ _ _ _ _ => ⟨rfl, trivial⟩
theorem aOfs_fp : ∀ (w : List PV), A.fps (aOfs w) = [] ∧ A.oks F S (aOfs w)
  | [] => ⟨rfl, trivial⟩
  | x :: r => by
    have h1 := aOf_fp x
    have h2 := aOfs_fp r
    simp [aOfs, A.fps, A.oks, h1, h2]
end
theorem good_nd (g : Good F S as ag) : (fpS (as ++ ag) ++ []).Nodup := by rw [List.append_nil]; exact g.nd
theorem root_ok (g : Good F S as ag) {r : Rt} {a : A} (h : rootA as ag r = some a) : a.ok F S := by
  have : ∃ z ∈ as ++ ag, z = .v a ∨ z = .io a := by
    cases r with
    | l i => rcases slot_some h with e | e <;> exact ⟨_, List.mem_append_left _ (List.mem_of_getElem? e), by simp⟩
    | g i => rcases slot_some h with e | e <;> exact ⟨_, List.mem_append_right _ (List.mem_of_getElem? e), by simp⟩
  obtain ⟨z, hz, rfl | rfl⟩ := this
  · exact g.ok _ hz
  · exact g.ok _ hz
theorem get_ok : ∀ {p : List Nat} {a x : A}, a.ok F S → getA p a = some x → x.ok F S
  | [], a, x, h, e => by cases e; exact h
  | i :: p, a, x, h, e => by
    unfold getA at e
    cases hk : a.kids[i]? with
    | none => rw [hk] at e; cases e
    | some z => rw [hk] at e; exact get_ok ((oks_iff _).mp (ok_kids h) z (List.mem_of_getElem? hk)) e
theorem at_split {r : Rt} {p : List Nat} {x : A} (h : atA as ag r p = some x) : ∃ a, rootA as ag r = some a ∧ getA p a = some x := Option.bind_eq_some_iff.mp h
theorem at_ok (g : Good F S as ag) {r : Rt} {p : List Nat} {x : A} (h : atA as ag r p = some x) : x.ok F S := by
  obtain ⟨a, e, h⟩ := at_split h
  exact get_ok (root_ok g e) h
theorem obj_of (fs : FS F S) {k : Fl} {n : Nat} {h : Hd} {xs : List A} (o : (A.nd k n h xs).ok F S) : S[n]? = some (mkO h (A.pvs xs)) := by
  cases k with
  | fz => simp only [A.ok] at o; exact fs _ _ _ o.1
  | lk => simp only [A.ok] at o; exact fs _ _ _ o.1
  | ow => simp only [A.ok] at o; exact o.1.2
def val (x : RV) (ls gh : Ls) : Option D := match x with
  | .v d => some d
  | .pth r p => atD ls gh r p
theorem val_er (c : ARV) {d : D} (h : val c.er (erS as) (erS ag) = some d) {w : PV} (hp : c.pv as ag = some w) (g : Good F S as ag) (hc : c.ok F S) :
    ∃ a : A, a.er = d ∧ a.pv = w ∧ a.ok F S ∧ ((c = .v a) ∨ ∃ r p, c = .pth r p ∧ atA as ag r p = some a) := by
  cases c with
  | v a => cases h; cases hp; exact ⟨a, rfl, rfl, hc, .inl rfl⟩
  | pth r p =>
    simp only [ARV.er, val] at h
    rw [at_er] at h
    obtain ⟨a, e, rfl⟩ := Option.map_eq_some_iff.mp h
    simp only [ARV.pv, e, Option.map_some, Option.some.injEq] at hp
    exact ⟨a, rfl, hp, at_ok g e, .inr ⟨r, p, rfl, e⟩⟩
theorem sim_ok {α β γ : Type} {R : RT α β γ} {q : Bool} {x0 : List Nat} (g : Good F S as ag) (nd : (fpS (as ++ ag) ++ x0).Nodup) (lt : ∀ n ∈ x0, n < S.length) (c : γ) {w : α} {b : β} {o : AD → GL.Out α} (ho : ∀ ad, o ad = .ok w S) (hb : R.er c = b) (hc : R.pv as ag c = some w) (hok : R.ok F S c) (sub : (R.fp c).Sublist x0) :
    SimO q R F S as ag x0 o (.ok b (erS as) (erS ag)) :=
  ⟨F, S, as, ag, c, w, rfl, rfl, hb, ho, hc, hok, (Ev.refl g nd lt).sub sub⟩
theorem sim_okE {q : Bool} {x0 : List Nat} (g : Good F S as ag) (nd : (fpS (as ++ ag) ++ x0).Nodup) (lt : ∀ n ∈ x0, n < S.length) (c : ARV) {w : PV} {b : RV} {o : AD → GL.Out PV} (ho : ∀ ad, o ad = .ok w S) (hb : c.er = b) (hc : c.pv as ag = some w) (hok : c.ok F S) (sub : c.fp.Sublist x0) :
    SimO q RE F S as ag x0 o (.ok b (erS as) (erS ag)) := sim_ok (R := RE) g nd lt c ho hb hc hok sub
theorem sim_sc {q : Bool} {x0 : List Nat} (g : Good F S as ag) (nd : (fpS (as ++ ag) ++ x0).Nodup) (lt : ∀ n ∈ x0, n < S.length) (s : Sc) {o : AD → GL.Out PV} (ho : ∀ ad, o ad = .ok s.pv S) :
    SimO q RE F S as ag x0 o (.ok (.v (.sc s)) (erS as) (erS ag)) :=
  sim_ok (R := RE) g nd lt (.v (.sc s)) ho rfl rfl (by exact trivial) (List.nil_sublist _)
def Stab {α β γ : Type} (R : RT α β γ) (q : Bool) (c : γ) : Prop := ∀ F S as ag x0 F' S' as' ag' x w, Ev q F S as ag x0 F' S' as' ag' x → Good F S as ag → (fpS (as ++ ag) ++ (R.fp c ++ x0)).Nodup → R.pv as ag c = some w → R.ok F S c → R.pv as' ag' c = some w ∧ R.ok F' S' c
def ARV.flat : ARV → Bool
  | .v _ => true
  | .pth _ p => p.isEmpty
theorem stab_re (q : Bool) (c : ARV) (h : q = true ∨ c.flat = true) : Stab RE q c := by
  intro F S as ag x0 F' S' as' ag' x w e g nd hp hk
  cases c with
  | v a => exact ⟨hp, e.stay hk nd g.fs⟩
  | pth r p =>
    refine ⟨?_, trivial⟩
    rcases h with h | h
    · exact e.per h r p w hp
    · have : p = [] := by simpa [ARV.flat] using h
      subst this
      have hr : ∀ as ag, ARV.pv as ag (.pth r []) = (rootA as ag r).map A.pv := fun as ag => by
        simp only [ARV.pv, atA]; cases rootA as ag r <;> rfl
      exact (hr _ _).trans (e.rt r w ((hr _ _).symm.trans hp))
theorem seqO_cons {α : Type} {x : Option α} {r : List (Option α)} {ws : List α} (h : seqO (x :: r) = some ws) : ∃ w t, x = some w ∧ seqO r = some t ∧ ws = w :: t := by
  unfold seqO at h
  split at h
  · rename_i y ys e2; cases h; exact ⟨y, ys, rfl, e2, rfl⟩
  · cases h
theorem seqO_mk {α : Type} {x : Option α} {r : List (Option α)} {w : α} {t : List α} (h1 : x = some w) (h2 : seqO r = some t) : seqO (x :: r) = some (w :: t) := by subst h1; unfold seqO; rw [h2]
theorem stab_ra (q : Bool) (cs : List ARV) (h : q = true ∨ ∀ c ∈ cs, c.flat = true) : Stab RA q cs := by
  induction cs with
  | nil => intro F S as ag x0 F' S' as' ag' x w e g nd hp hk; exact ⟨hp, fun c hc => by cases hc⟩
  | cons c r ih =>
    intro F S as ag x0 F' S' as' ag' x w e g nd hp hk
    have nd' : (fpS (as ++ ag) ++ (c.fp ++ (RA.fp r ++ x0))).Nodup := by
      rw [← List.append_assoc c.fp]; exact nd
    obtain ⟨w1, w2, e1, e2, rfl⟩ := seqO_cons hp
    have h1 := stab_re q c (h.imp id fun h => h c List.mem_cons_self) F S as ag x0 F' S' as' ag' x w1 e g (nd'.sublist (List.Sublist.append_left (List.Sublist.append_left (List.sublist_append_right _ _) _) _)) e1 (hk c List.mem_cons_self)
    have h2 := ih (h.imp id fun h c hc => h c (List.mem_cons_of_mem _ hc)) F S as ag x0 F' S' as' ag' x w2 e g (nd'.sublist (List.Sublist.append_left (List.sublist_append_right _ _) _)) e2 (fun c hc => hk c (List.mem_cons_of_mem _ hc))
    exact ⟨seqO_mk h1.1 h2.1, fun c' hc => by
      rcases List.mem_cons.mp hc with rfl | hc
      · exact h1.2
      · exact h2.2 c' hc⟩
theorem sim_next {α β γ α0 β0 γ0 α' β' γ' : Type} {R : RT α β γ} {R0 : RT α0 β0 γ0} {R' : RT α' β' γ'} {qb q' : Bool} {mb : AD → GL.Ls → Sto → GL.Out α} {pb : PX β} {f : AD → α → Sto → GL.Out α'} {k : β → Ls → Ls → Out β'} {L : AD → GL.Ls}
    (hb : SimX qb R mb pb) (g : Good F S as ag) (c0 : γ0) {w0 : α0} (hpv : R0.pv as ag c0 = some w0) (hok : R0.ok F S c0) (nd : (fpS (as ++ ag) ++ R0.fp c0).Nodup) (lt : ∀ n ∈ R0.fp c0, n < S.length) (st : Stab R0 qb c0) (hL : ∀ ad, L ad = glS as ag ad as)
    (hk : ∀ F' S' as' ag' c w, R0.pv as' ag' c0 = some w0 → R0.ok F' S' c0 → R.pv as' ag' c = some w → R.ok F' S' c → Good F' S' as' ag' → (fpS (as' ++ ag') ++ (R0.fp c0 ++ R.fp c)).Nodup → (∀ n ∈ R0.fp c0 ++ R.fp c, n < S'.length) → (∀ ad, L ad = glS as' ag' ad as') →
      SimO q' R' F' S' as' ag' (R0.fp c0 ++ R.fp c) (fun ad => f ad w S') (k (R.er c) (erS as') (erS ag'))) :
    SimO (qb && q') R' F S as ag (R0.fp c0) (fun ad => (mb ad (L ad) S).bind (f ad)) ((pb (erS as) (erS ag)).bind k) := by
  have hb := hb F S as ag g
  have hfr : ∀ {F' : FM} {S' : Sto} {as' ag' : List AV} {x : List Nat}, Ev qb F S as ag [] F' S' as' ag' x → Ev qb F S as ag (R0.fp c0) F' S' as' ag' (R0.fp c0 ++ x) := fun e => by
    have := e.frame (z := R0.fp c0) (by rw [List.append_nil]; exact nd) lt
    rwa [List.append_nil] at this
  cases hp : pb (erS as) (erS ag) with
  | bad => trivial
  | exc e ls gh =>
    rw [hp] at hb
    obtain ⟨F', S', as', ag', x, a1, a2, a3, a4, a5, a6⟩ := hb
    refine ⟨F', S', as', ag', x, a1, a2, a3, fun ad => ?_, a5, ((hfr a6).sub (List.nil_sublist _)).weak fun e => (Bool.and_eq_true_iff.mp e).1⟩
    show (mb ad (L ad) S).bind _ = _
    have a4' : mb ad (glS as ag ad as) S = _ := a4 ad
    rw [hL, a4']; rfl
  | ok b ls gh =>
    rw [hp] at hb
    obtain ⟨F', S', as', ag', c, w, rfl, rfl, rfl, a4, a5, a6, a7⟩ := hb
    have hst := st F S as ag [] F' S' as' ag' _ w0 a7 g (by rw [List.append_nil]; exact nd) hpv hok
    have e7 := hfr a7
    have h2 := hk F' S' as' ag' c w hst.1 hst.2 a5 a6 a7.good e7.nd e7.lt (fun ad => (hL ad).trans (a7.gl ad).symm)
    have h4 : ∀ ad, (mb ad (L ad) S).bind (f ad) = f ad w S' := fun ad => by
      have a4' : mb ad (glS as ag ad as) S = _ := a4 ad
      rw [hL, a4']; rfl
    show SimO _ _ _ _ _ _ _ _ (k (R.er c) (erS as') (erS ag'))
    cases hp : k (R.er c) (erS as') (erS ag') with
    | bad => trivial
    | exc e ls gh =>
      rw [hp] at h2
      obtain ⟨F2, S2, as2, ag2, x, b1, b2, b3, b4, b5, b6⟩ := h2
      exact ⟨F2, S2, as2, ag2, x, b1, b2, b3, fun ad => (h4 ad).trans (b4 ad), b5, e7.trans b6⟩
    | ok b ls gh =>
      rw [hp] at h2
      obtain ⟨F2, S2, as2, ag2, c2, w2, b1, b2, b3, b4, b5, b6, b7⟩ := h2
      exact ⟨F2, S2, as2, ag2, c2, w2, b1, b2, b3, fun ad => (h4 ad).trans (b4 ad), b5, b6, e7.trans b7⟩
def RU : RT Unit Unit Unit := ⟨id, fun _ _ _ => some (), fun _ _ _ => True, fun _ => []⟩
theorem stab_ru (q : Bool) : Stab RU q () := fun _ _ _ _ _ _ _ _ _ _ _ _ _ _ _ _ => ⟨rfl, trivial⟩
theorem sim_first {α β γ α' β' γ' : Type} {R : RT α β γ} {R' : RT α' β' γ'} {qb q' : Bool} {mb : AD → GL.Ls → Sto → GL.Out α} {pb : PX β} {f : AD → α → Sto → GL.Out α'} {k : β → Ls → Ls → Out β'} {L : AD → GL.Ls}
    (hb : SimX qb R mb pb) (g : Good F S as ag) (hL : ∀ ad, L ad = glS as ag ad as)
    (hk : ∀ F' S' as' ag' c w, R.pv as' ag' c = some w → R.ok F' S' c → Good F' S' as' ag' → (fpS (as' ++ ag') ++ R.fp c).Nodup → (∀ n ∈ R.fp c, n < S'.length) → (∀ ad, L ad = glS as' ag' ad as') →
      SimO q' R' F' S' as' ag' (R.fp c) (fun ad => f ad w S') (k (R.er c) (erS as') (erS ag'))) :
    SimO (qb && q') R' F S as ag [] (fun ad => (mb ad (L ad) S).bind (f ad)) ((pb (erS as) (erS ag)).bind k) :=
  sim_next (R0 := RU) hb g () (w0 := ()) rfl trivial (good_nd g) (fun _ h => by cases h) (stab_ru qb) hL fun F' S' as' ag' c w _ _ h3 h4 h5 h6 h7 h8 => hk F' S' as' ag' c w h3 h4 h5 (by simpa [RU] using h6) (by simpa [RU] using h7) h8
abbrev PE := PX RV
abbrev PT := PX Bool
abbrev PA := PX (List RV)
def mkR (d : D) (r : Rt) (p : List Nat) : RV := if d.shr = true then .v d else .pth r p
def eVar (i : Nat) : PE := fun ls gh => match ls[i]? with
  | some (some (.v d)) => .ok (mkR d (.l i) []) ls gh
  | some (some (.al r p)) => (match atD ls gh r p with
    | some d => .ok (mkR d r p) ls gh
    | none => .bad)
  | _ => .bad
theorem sim_mkR {q : Bool} {x0 : List Nat} (g : Good F S as ag) (nd : (fpS (as ++ ag) ++ x0).Nodup) (lt : ∀ n ∈ x0, n < S.length) {r : Rt} {p : List Nat} {a : A} (h : atA as ag r p = some a) {o : AD → GL.Out PV} (ho : ∀ ad, o ad = .ok a.pv S) :
    SimO q RE F S as ag x0 o (.ok (mkR a.er r p) (erS as) (erS ag)) := by
  unfold mkR
  rw [shr_er]
  cases hs : a.shr with
  | true =>
    have ok := at_ok g h
    exact sim_okE g nd lt (.v a) ho rfl rfl ok (by show (A.fp a).Sublist _; rw [fp_shr ok hs]; exact List.nil_sublist _)
  | false => exact sim_okE g nd lt (.pth r p) ho rfl (by show (atA as ag r p).map A.pv = _; rw [h]; rfl) trivial (List.nil_sublist _)
theorem sim_var (i : Nat) : SimE true (fun _ => GL.eVar i) (eVar i) := by
  intro F S as ag g
  unfold eVar
  simp only [erS, List.getElem?_map]
  cases hi : as[i]? with
  | none => trivial
  | some z =>
    have hgl : ∀ ad o, glv as ag ad z = some o → GL.eVar i (glS as ag ad as) S = .ok o S := fun ad o h => by
      unfold GL.eVar
      simp only [glS, List.getElem?_map, hi, Option.map_some, h]
    have hmem : z ∈ as ++ ag := List.mem_append_left _ (List.mem_of_getElem? hi)
    cases z with
    | v a =>
      exact sim_mkR g (good_nd g) (fun _ h => by cases h) (r := .l i) (p := []) (a := a) (by show (slotA as[i]?).bind _ = _; rw [hi]; rfl) (fun ad => hgl ad _ rfl)
    | al r p =>
      show SimO _ _ _ _ _ _ _ _ (match atD (erS as) (erS ag) r p with | some d => .ok (mkR d r p) (erS as) (erS ag) | none => .bad)
      rw [at_er]
      cases ha : atA as ag r p with
      | none => trivial
      | some a => exact sim_mkR g (good_nd g) (fun _ h => by cases h) ha (fun ad => hgl ad _ (by show (atA as ag r p).map A.pv = _; rw [ha]; rfl))
    | un o => trivial
    | io a => trivial
    | xn C ns xs => trivial
def eC (w : PV) : PE := fun ls gh => .ok (.v (dOf w)) ls gh
theorem sim_c {w : PV} (h : rig w = true) : SimE true (fun _ => GL.eC w) (eC w) := fun F S as ag g =>
  sim_okE g (good_nd g) (fun _ h => by cases h) (.v (aOf w)) (fun ad => by show GL.Out.ok w S = _; rw [aOf_pv h]) (by show RV.v (aOf w).er = _; rw [aOf_er]) rfl (aOf_fp w).2 (by show (A.fp _).Sublist _; rw [(aOf_fp (F := F) (S := S) w).1]; exact List.nil_sublist _)
abbrev G2 := RV → RV → PE
def eOp (g : G2) (a b : PE) : PE := fun ls gh => (a ls gh).bind fun x ls gh => (b ls gh).bind fun y ls gh => g x y ls gh
def RV.flat : RV → Bool
  | .v _ => true
  | .pth _ p => p.isEmpty
def SimG (q : Bool) (gg : PV → PV → Sto → GL.Out PV) (g : G2) : Prop := ∀ (F : FM) (S : Sto) (as ag : List AV) (c1 c2 : ARV) (w1 w2 : PV), Good F S as ag → (fpS (as ++ ag) ++ (c1.fp ++ c2.fp)).Nodup → (∀ n ∈ c1.fp ++ c2.fp, n < S.length) → c1.pv as ag = some w1 → c2.pv as ag = some w2 → c1.ok F S → c2.ok F S →
  SimO q RE F S as ag (c1.fp ++ c2.fp) (fun _ => gg w1 w2 S) (g c1.er c2.er (erS as) (erS ag))
section
variable {qa qb qg : Bool} {ma mb : AD → GL.ME} {pa pb : PE} {gg : PV → PV → Sto → GL.Out PV} {g : G2}
theorem sim_op (ha : SimE qa ma pa) (hb : SimE true mb pb) (hg : SimG true gg g) : SimE qa (fun ad => GL.eOp gg (ma ad) (mb ad)) (eOp g pa pb) := fun F S as ag gd =>
  SimO.weak (sim_first (q' := true && true) (k := fun x ls gh => (pb ls gh).bind fun y ls gh => g x y ls gh) (f := fun ad w1 S1 => (mb ad (glS as ag ad as) S1).bind fun w2 S2 => gg w1 w2 S2) ha gd (fun _ => rfl) fun F1 S1 as1 ag1 c1 w1 h1 h2 g1 n1 l1 L1 =>
    sim_next (R0 := RE) (k := fun y ls gh => g (RE.er c1) y ls gh) (f := fun ad w2 S2 => gg w1 w2 S2) hb g1 c1 h1 h2 n1 l1 (stab_re true c1 (.inl rfl)) L1 fun F2 S2 as2 ag2 c2 w2 h1 h2 h3 h4 g2 n2 l2 L2 => hg F2 S2 as2 ag2 c1 c2 w1 w2 g2 n2 l2 h1 h3 h2 h4) (by simp)
end
def aNil : PA := fun ls gh => .ok [] ls gh
def aCons (a : PE) (r : PA) : PA := fun ls gh => (a ls gh).bind fun x ls gh => (r ls gh).bind fun xs ls gh => .ok (x :: xs) ls gh
section
variable {qa qb : Bool} {ma : AD → GL.ME} {mr : AD → GL.MA} {pa : PE} {pr : PA}
theorem sim_anil : SimA true (fun _ => GL.aNil) aNil := fun F S as ag g =>
  sim_ok (R := RA) g (good_nd g) (fun _ h => by cases h) [] (fun _ => rfl) rfl rfl (fun c hc => by cases hc) (List.nil_sublist _)
theorem sim_acons (ha : SimE qa ma pa) (hr : SimA true mr pr) : SimA qa (fun ad => GL.aCons (ma ad) (mr ad)) (aCons pa pr) := fun F S as ag gd =>
  SimO.weak (sim_first (q' := true && true) (k := fun x ls gh => (pr ls gh).bind fun y ls gh => .ok (x :: y) ls gh) (f := fun ad w1 S1 => (mr ad (glS as ag ad as) S1).bind fun w2 S2 => .ok (w1 :: w2) S2) ha gd (fun _ => rfl) fun F1 S1 as1 ag1 c1 w1 h1 h2 g1 n1 l1 L1 =>
    sim_next (R0 := RE) (R := RA) (R' := RA) (k := fun y ls gh => .ok (RE.er c1 :: y) ls gh) (f := fun ad w2 S2 => .ok (w1 :: w2) S2) hr g1 c1 h1 h2 n1 l1 (stab_re true c1 (.inl rfl)) L1 fun F2 S2 as2 ag2 c2 w2 h1 h2 h3 h4 g2 n2 l2 L2 =>
      sim_ok (R := RA) g2 n2 l2 (c1 :: c2) (fun _ => rfl) rfl (seqO_mk h1 h3) (fun c hc => by
        rcases List.mem_cons.mp hc with rfl | hc
        · exact h2
        · exact h4 c hc) (List.Sublist.refl _)) (by simp)
end
end VL
set_option Elab.async false
set_option linter.all false
set_option maxRecDepth 100000
set_option maxHeartbeats 1000000
namespace VL
open GL (PV OB Sto Nm BT lim)
variable {F F' : FM} {S S' : Sto} {as as' ag ag' : List AV}
theorem Ev.perm {q : Bool} {x0 x0' x x' : List Nat} (e : Ev q F S as ag x0 F' S' as' ag' x) (h0 : x0.Perm x0') (h : x.Perm x') : Ev q F S as ag x0' F' S' as' ag' x' :=
  ⟨e.good, (List.Perm.nodup_iff (List.Perm.append_left _ h)).mp e.nd, fun n hn => e.lt n (h.mem_iff.mpr hn), e.mono, e.len, fun n hn hx => e.keep n hn fun h' => hx (by
    rcases List.mem_append.mp h' with t | t
    · exact List.mem_append_left _ t
    · exact List.mem_append_right _ (h0.mem_iff.mp t)), fun n hn => by
    rcases e.new n (by
      rcases List.mem_append.mp hn with t | t
      · exact List.mem_append_left _ t
      · exact List.mem_append_right _ (h.mem_iff.mpr t)) with t | t
    · left
      rcases List.mem_append.mp t with t | t
      · exact List.mem_append_left _ t
      · exact List.mem_append_right _ (h0.mem_iff.mp t)
    · exact .inr t, e.gl, e.gg, e.rt, e.per⟩
theorem SimO.pre {α β γ : Type} {R : RT α β γ} {q : Bool} {x0 x1 : List Nat} {o : AD → GL.Out α} {p : Out β} (e : Ev true F S as ag x0 F' S' as' ag' x1) (h : SimO q R F' S' as' ag' x1 o p) : SimO q R F S as ag x0 o p := by
  cases p with
  | bad => trivial
  | exc e' ls gh => obtain ⟨F2, S2, as2, ag2, x, b1, b2, b3, b4, b5, b6⟩ := h; exact ⟨F2, S2, as2, ag2, x, b1, b2, b3, b4, b5, (e.trans b6).weak fun h => by rw [h]; rfl⟩
  | ok b ls gh => obtain ⟨F2, S2, as2, ag2, c, w, b1, b2, b3, b4, b5, b6, b7⟩ := h; exact ⟨F2, S2, as2, ag2, c, w, b1, b2, b3, b4, b5, b6, (e.trans b7).weak fun h => by rw [h]; rfl⟩
theorem SimO.preF {α β γ : Type} {R : RT α β γ} {q : Bool} {x0 x1 : List Nat} {o : AD → GL.Out α} {p : Out β} (e : Ev false F S as ag x0 F' S' as' ag' x1) (h : SimO q R F' S' as' ag' x1 o p) : SimO false R F S as ag x0 o p := by
  cases p with
  | bad => trivial
  | exc e' ls gh => obtain ⟨F2, S2, as2, ag2, x, b1, b2, b3, b4, b5, b6⟩ := h; exact ⟨F2, S2, as2, ag2, x, b1, b2, b3, b4, b5, (e.trans b6).weak fun h => by cases h⟩
  | ok b ls gh => obtain ⟨F2, S2, as2, ag2, c, w, b1, b2, b3, b4, b5, b6, b7⟩ := h; exact ⟨F2, S2, as2, ag2, c, w, b1, b2, b3, b4, b5, b6, (e.trans b7).weak fun h => by cases h⟩
theorem ev_same {q : Bool} {x0 x1 : List Nat} (g : Good F S as ag) (nd0 : (fpS (as ++ ag) ++ x0).Nodup) (m : Mono F F') (fs : FS F' S') (len : S.length ≤ S'.length) (keep : ∀ n, n < S.length → n ∉ x0 → F' n = F n ∧ S'[n]? = S[n]?)
    (nd1 : x1.Nodup) (new : ∀ n ∈ x1, n ∈ x0 ∨ S.length ≤ n) (lt : ∀ n ∈ x1, n < S'.length) : Ev q F S as ag x0 F' S' as ag x1 := by
  have inS : ∀ z ∈ as ++ ag, ∀ n ∈ z.fp, n ∈ fpS (as ++ ag) := fun z h n hn => List.mem_flatMap.mpr ⟨z, h, hn⟩
  have dj : ∀ n ∈ fpS (as ++ ag), n ∉ x0 := fun n h h' => (List.nodup_append.mp nd0).2.2 n h n h' rfl
  have lt0 : ∀ n ∈ fpS (as ++ ag), n < S.length := fun n h => by
    obtain ⟨z, hz, hn⟩ := List.mem_flatMap.mp h
    have zok := g.ok z hz
    cases z with
    | v b => exact fp_lt g.fs zok n hn
    | io b => exact fp_lt g.fs zok n hn
    | _ => cases hn
  have ag1 : ∀ n ∈ fpS (as ++ ag), F' n = F n ∧ S'[n]? = S[n]? := fun n h => keep n (lt0 n h) (dj n h)
  refine ⟨⟨fs, fun z hz => ?_, g.nd, g.al⟩, List.nodup_append.mpr ⟨g.nd, nd1, fun n h k h' e => ?_⟩, lt, m, len, fun n hn hx => keep n hn fun h => hx (List.mem_append_right _ h), fun n h => ?_, fun _ => rfl, fun _ => rfl, fun _ _ h => h, fun _ _ _ _ h => h⟩
  · have zok := g.ok z hz
    cases z with
    | v b => exact ok_frame m (fun n hn => ag1 n (inS _ hz n hn)) zok
    | io b => exact ok_frame m (fun n hn => ag1 n (inS _ hz n hn)) zok
    | xn C ns xs =>
      have t : (A.tup xs).ok F' S' := ok_frame (a := .tup xs) m (by rw [A.fp, zok.1]; intro n hn'; cases hn') (show (A.tup xs).ok F S from zok)
      exact t
    | un o => trivial
    | al r p => trivial
  · subst e
    rcases new n h' with t | t
    · exact dj n h t
    · exact absurd (lt0 n h) (Nat.not_lt.mpr t)
  · rcases List.mem_append.mp h with t | t
    · exact .inl (List.mem_append_left _ t)
    · rcases new n t with u | u
      · exact .inl (List.mem_append_right _ u)
      · exact .inr u
theorem frF_mono {ns : List Nat} (h : ∀ n ∈ ns, F n = none) : Mono F (frF F S ns) := fun n b o e => by
  unfold frF
  split
  · rename_i hn; rw [h n hn] at e; cases e
  · exact e
theorem frF_fs {ns : List Nat} (fs : FS F S) : FS (frF F S ns) S := fun n b o e => by
  unfold frF at e
  split at e
  · obtain ⟨o', h, q⟩ := Option.map_eq_some_iff.mp e; cases q; exact h
  · exact fs n b o e
def cvR (k : Bool) (x : RV) (ls gh : Ls) : Option (D × Ls × Ls) := match x with
  | .v d => if k = true then some (d, ls, gh) else (D.frz d).map fun e => (e, ls, gh)
  | .pth r p => match atD ls gh r p with
    | some d => if d.shr = true then some (d, ls, gh) else (match D.frz d with
      | some e => let z := chD (fun _ => true) r p e ls gh; some (e, z.1, z.2)
      | none => none)
    | none => none
theorem frz_sim {z : List Nat} (g : Good F S as ag) {a : A} {d : D} (nd : (fpS (as ++ ag) ++ (a.fp ++ z)).Nodup) (lt : ∀ n ∈ a.fp ++ z, n < S.length) (hk : a.ok F S) (h : D.frz a.er = some d) :
    a.frz.ok (frF F S a.fp) S ∧ a.frz.fp = [] ∧ a.frz.er = d ∧ Ev true F S as ag (a.fp ++ z) (frF F S a.fp) S as ag z := by
  have hm := frF_mono (S := S) (frz_none a h hk)
  have n1 := (List.nodup_append.mp (List.nodup_append.mp nd).2.1)
  refine ⟨frz_ok a h [] hm (fun n hn => by unfold frF; rw [if_pos hn]) hk, frz_fp a h hk, frz_er a h, ?_⟩
  exact ev_same g nd hm (frF_fs g.fs) (Nat.le_refl _) (fun n hn hx => ⟨by unfold frF; rw [if_neg fun h => hx (List.mem_append_left _ h)], rfl⟩) n1.2.1 (fun n hn => .inl (List.mem_append_right _ hn)) (fun n hn => lt n (List.mem_append_right _ hn))
theorem cv_sim {k : Bool} {z : List Nat} (g : Good F S as ag) {c : ARV} {w : PV} {d : D} {ls' gh' : Ls} (nd : (fpS (as ++ ag) ++ (c.fp ++ z)).Nodup) (lt : ∀ n ∈ c.fp ++ z, n < S.length) (hp : c.pv as ag = some w) (hk : c.ok F S) (h : cvR k c.er (erS as) (erS ag) = some (d, ls', gh')) :
    ∃ (F' : FM) (as' ag' : List AV) (a : A), erS as' = ls' ∧ erS ag' = gh' ∧ a.er = d ∧ a.pv = w ∧ a.ok F' S ∧ (k = false → a.fp = []) ∧ Ev true F S as ag (c.fp ++ z) F' S as' ag' (a.fp ++ z) := by
  cases c with
  | v a =>
    cases hp
    cases k with
    | true =>
      simp only [cvR, ARV.er, if_true, Option.some.injEq, Prod.mk.injEq] at h
      obtain ⟨rfl, rfl, rfl⟩ := h
      exact ⟨F, as, ag, a, rfl, rfl, rfl, rfl, hk, (fun e => by cases e), Ev.refl g nd lt⟩
    | false =>
      simp only [cvR, ARV.er, Bool.false_eq_true, if_false, Option.map_eq_some_iff, Prod.mk.injEq] at h
      obtain ⟨d', hd, rfl, rfl, rfl⟩ := h
      obtain ⟨h1, h2, h3, h4⟩ := frz_sim g nd lt hk hd
      exact ⟨_, as, ag, a.frz, rfl, rfl, h3, frz_pv a, h1, fun _ => h2, by rw [h2]; exact h4⟩
  | pth r p =>
    simp only [cvR, ARV.er] at h
    rw [at_er] at h
    cases hat : atA as ag r p with
    | none => rw [hat] at h; cases h
    | some a =>
      rw [hat] at h
      simp only [Option.map_some] at h
      have hw : a.pv = w := by simpa [ARV.pv, hat] using hp
      have aok := at_ok g hat
      rw [shr_er] at h
      cases hs : a.shr with
      | true =>
        rw [hs] at h
        simp only [if_true, Option.some.injEq, Prod.mk.injEq] at h
        obtain ⟨rfl, rfl, rfl⟩ := h
        have e0 := fp_shr aok hs
        exact ⟨F, as, ag, a, rfl, rfl, rfl, hw, aok, fun _ => e0, by rw [e0]; exact Ev.refl g nd lt⟩
      | false =>
        rw [hs] at h
        simp only [Bool.false_eq_true, if_false] at h
        cases hf : D.frz a.er with
        | none => rw [hf] at h; cases h
        | some e =>
          rw [hf] at h
          simp only [Option.some.injEq, Prod.mk.injEq] at h
          obtain ⟨rfl, h1, h2⟩ := h
          obtain ⟨root, hr, hx⟩ := at_split hat
          have hfe := frz_er a hf
          rw [← hfe, ← ch_er] at h1 h2
          have hm := frF_mono (S := S) (frz_none a hf aok)
          have fpz := frz_fp a hf aok
          refine ⟨frF F S a.fp, (chA (fun _ => true) r p a.frz as ag).1, (chA (fun _ => true) r p a.frz as ag).2, a.frz, h1, h2, hfe, by rw [frz_pv]; exact hw, frz_ok a hf [] hm (fun n hn => by unfold frF; rw [if_pos hn]) aok, fun _ => fpz, ?_⟩
          rw [fpz]
          have nz := (List.nodup_append.mp nd).2.1
          exact ev_ch (t := fun _ => true) (fun _ _ => rfl) g nd hr hx hs (frz_pv a) (fun p w _ => per_frz a hf p w trivial) hm (frF_fs g.fs) (Nat.le_refl _)
            (fun n hn hx => ⟨by unfold frF; rw [if_neg fun h => hx (List.mem_append_left _ h)], rfl⟩) (frz_ok a hf [] hm (fun n hn => by unfold frF; rw [if_pos hn]) aok) (by rw [fpz]; exact nz) (fun n hn => .inl (by rw [fpz] at hn; exact List.mem_append_right _ hn)) (fun n hn => lt n hn)
theorem cv_sim0 {k : Bool} (g : Good F S as ag) {c : ARV} {w : PV} {d : D} {ls' gh' : Ls} (nd : (fpS (as ++ ag) ++ c.fp).Nodup) (lt : ∀ n ∈ c.fp, n < S.length) (hp : c.pv as ag = some w) (hk : c.ok F S) (h : cvR k c.er (erS as) (erS ag) = some (d, ls', gh')) :
    ∃ (F' : FM) (as' ag' : List AV) (a : A), erS as' = ls' ∧ erS ag' = gh' ∧ a.er = d ∧ a.pv = w ∧ a.ok F' S ∧ (k = false → a.fp = []) ∧ Ev true F S as ag c.fp F' S as' ag' a.fp := by
  obtain ⟨F', as', ag', a, h1, h2, h3, h4, h5, h6, h7⟩ := cv_sim (z := []) g (by rw [List.append_nil]; exact nd) (by rw [List.append_nil]; exact lt) hp hk h
  rw [List.append_nil, List.append_nil] at h7
  exact ⟨F', as', ag', a, h1, h2, h3, h4, h5, h6, h7⟩
def cvL (k : Bool) : List RV → Ls → Ls → Option (List D × Ls × Ls)
  | [], ls, gh => some ([], ls, gh)
  | x :: r, ls, gh => match cvR k x ls gh with
    | some (d, ls, gh) => (match cvL k r ls gh with
      | some (ds, ls, gh) => some (d :: ds, ls, gh)
      | none => none)
    | none => none
theorem nd_sub {a b c : List Nat} (h : (a ++ (b ++ c)).Nodup) : (a ++ b).Nodup ∧ (a ++ c).Nodup ∧ (a ++ (c ++ b)).Nodup :=
  ⟨h.sublist (List.Sublist.append_left (List.sublist_append_left _ _) _), h.sublist (List.Sublist.append_left (List.sublist_append_right _ _) _), nodup_app_comm3 h⟩
theorem cvL_sim {k : Bool} : ∀ {cs : List ARV} {F : FM} {as ag : List AV} {ws : List PV} {ds : List D} {ls' gh' : Ls}, Good F S as ag → (fpS (as ++ ag) ++ RA.fp cs).Nodup → (∀ n ∈ RA.fp cs, n < S.length) → RA.pv as ag cs = some ws → RA.ok F S cs →
    cvL k (cs.map ARV.er) (erS as) (erS ag) = some (ds, ls', gh') →
    ∃ (F' : FM) (as' ag' : List AV) (xs : List A), erS as' = ls' ∧ erS ag' = gh' ∧ A.ers xs = ds ∧ A.pvs xs = ws ∧ A.oks F' S xs ∧ (k = false → A.fps xs = []) ∧ Ev true F S as ag (RA.fp cs) F' S as' ag' (A.fps xs)
  | [], F, as, ag, ws, ds, ls', gh', g, nd, lt, hp, hk, h => by
    simp only [List.map_nil, cvL, Option.some.injEq, Prod.mk.injEq] at h
    obtain ⟨rfl, rfl, rfl⟩ := h
    cases hp
    exact ⟨F, as, ag, [], rfl, rfl, rfl, rfl, trivial, fun _ => rfl, Ev.refl g nd lt⟩
  | c :: r, F, as, ag, ws, ds, ls', gh', g, nd, lt, hp, hk, h => by
    obtain ⟨w, ws, hw, hws, rfl⟩ := seqO_cons hp
    simp only [List.map_cons, cvL] at h
    cases h1 : cvR k c.er (erS as) (erS ag) with
    | none => rw [h1] at h; cases h
    | some t =>
      obtain ⟨d, l1, g1⟩ := t
      rw [h1] at h
      dsimp only at h
      have e0 : RA.fp (c :: r) = c.fp ++ RA.fp r := rfl
      rw [e0] at nd lt ⊢
      obtain ⟨n1, n2, n3⟩ := nd_sub nd
      obtain ⟨F1, as1, ag1, a, rfl, rfl, rfl, rfl, aok, afp, ev⟩ := cv_sim0 g n1 (fun n h => lt n (List.mem_append_left _ h)) hw (hk c List.mem_cons_self) h1
      cases h2 : cvL k (r.map ARV.er) (erS as1) (erS ag1) with
      | none => rw [h2] at h; cases h
      | some t2 =>
        obtain ⟨ds2, l2, g2⟩ := t2
        rw [h2] at h
        simp only [Option.some.injEq, Prod.mk.injEq] at h
        obtain ⟨rfl, rfl, rfl⟩ := h
        have st := stab_ra true r (.inl rfl) F S as ag _ F1 S as1 ag1 _ ws ev g n3 hws (fun c hc => hk c (List.mem_cons_of_mem _ hc))
        have evf := (ev.frame n3 (fun n h => lt n (List.mem_append_right _ h))).perm List.perm_append_comm List.perm_append_comm
        obtain ⟨m1, m2, m3⟩ := nd_sub evf.nd
        obtain ⟨F2, as2, ag2, xs, rfl, rfl, rfl, rfl, xok, xfp, ev2⟩ := cvL_sim evf.good m2 (fun n h => evf.lt n (List.mem_append_right _ h)) st.1 st.2 h2
        refine ⟨F2, as2, ag2, a :: xs, rfl, rfl, rfl, rfl, ⟨ev2.stay (z := a) aok evf.nd evf.good.fs, xok⟩, fun e => ?_, evf.trans (ev2.frame evf.nd (fun n h => evf.lt n (List.mem_append_left _ h)))⟩
        show A.fp a ++ A.fps xs = []
        rw [afp e, xfp e]; rfl
theorem sim_alloc {q : Bool} {x0 : List Nat} (g : Good F S as ag) (nd : (fpS (as ++ ag) ++ x0).Nodup) (lt : ∀ n ∈ x0, n < S.length) (h : Hd) (xs : List A) (hw : h.wf xs.length = true) (ok : A.oks F S xs) (sub : (A.fps xs).Sublist x0) {o : AD → GL.Out PV} (ho : ∀ ad, o ad = .ok (.loc S.length) (S ++ [mkO h (A.pvs xs)])) :
    SimO q RE F S as ag x0 o (.ok (.v (.nd .ow h (A.ers xs))) (erS as) (erS ag)) := by
  have hF : F S.length = none := by
    cases hf : F S.length with
    | none => rfl
    | some z =>
      obtain ⟨b, o⟩ := z
      have := (List.getElem?_eq_some_iff.mp (g.fs _ _ _ hf)).1
      omega
  have gr : ∀ n, n < S.length → (S ++ [mkO h (A.pvs xs)])[n]? = S[n]? := fun n hn => List.getElem?_append_left hn
  have fs : FS F (S ++ [mkO h (A.pvs xs)]) := fun n b o e => by
    have := g.fs n b o e
    rw [gr n (List.getElem?_eq_some_iff.mp this).1]; exact this
  have lx : ∀ n ∈ A.fps xs, n < S.length := fun n hn => lt n (sub.subset hn)
  have ok' : A.oks F (S ++ [mkO h (A.pvs xs)]) xs := by
    rw [oks_iff] at ok ⊢
    exact fun x hx => ok_frame Mono.refl (fun n hn => ⟨rfl, gr n (lx n (by rw [fps_map]; exact List.mem_flatMap.mpr ⟨x, hx, hn⟩))⟩) (ok x hx)
  refine ⟨F, _, as, ag, .v (.nd .ow S.length h xs), .loc S.length, rfl, rfl, rfl, ho, rfl, ?_, ?_⟩
  · show A.ok _ _ _
    simp only [A.ok]
    exact ⟨⟨hF, by rw [List.getElem?_append_right (Nat.le_refl _)]; simp⟩, hw, ok'⟩
  · show Ev q F S as ag x0 F _ as ag (S.length :: A.fps xs)
    refine ev_same g nd Mono.refl fs (by simp) (fun n hn _ => ⟨rfl, gr n hn⟩) ?_ ?_ ?_
    · exact List.nodup_cons.mpr ⟨fun h => absurd (lx _ h) (Nat.lt_irrefl _), ((List.nodup_append.mp nd).2.1).sublist sub⟩
    · intro n hn
      rcases List.mem_cons.mp hn with rfl | h
      · exact .inr (Nat.le_refl _)
      · exact .inl (sub.subset h)
    · intro n hn
      rw [List.length_append, List.length_singleton]
      rcases List.mem_cons.mp hn with rfl | h
      · omega
      · have := lx n h; omega
def eTup (m : PA) : PE := fun ls gh => (m ls gh).bind fun xs ls gh => match cvL false xs ls gh with
  | some (ds, ls, gh) => if ds.length ≤ lim then .ok (.v (.tup ds)) ls gh else .bad
  | none => .bad
def eLst (m : PA) : PE := fun ls gh => (m ls gh).bind fun xs ls gh => match cvL true xs ls gh with
  | some (ds, ls, gh) => if ds.length ≤ lim then .ok (.v (.nd .ow .lst ds)) ls gh else .bad
  | none => .bad
theorem pvs_len (xs : List A) : (A.pvs xs).length = xs.length := by rw [pvs_map, List.length_map]
theorem ers_len (xs : List A) : (A.ers xs).length = xs.length := by rw [ers_map, List.length_map]
section
variable {q : Bool} {mr : AD → GL.MA} {pr : PA}
theorem sim_tup (h : SimA q mr pr) : SimE q (fun ad => GL.eTup (mr ad)) (eTup pr) := fun F S as ag gd =>
  SimO.weak (sim_first (R' := RE) (q' := true) (k := fun xs ls gh => match cvL false xs ls gh with
    | some (ds, ls, gh) => if ds.length ≤ lim then .ok (.v (.tup ds)) ls gh else .bad
    | none => .bad) (f := fun ad ws S1 => if ws.length ≤ lim then .ok (.tup ws) S1 else .bad) h gd (fun _ => rfl) fun F1 S1 as1 ag1 cs ws h1 h2 g1 n1 l1 L1 => by
    cases hc : cvL false (RA.er cs) (erS as1) (erS ag1) with
    | none => simp only [hc]; trivial
    | some t =>
      obtain ⟨ds, l2, g2⟩ := t
      obtain ⟨F2, as2, ag2, xs, rfl, rfl, rfl, rfl, xok, xfp, ev⟩ := cvL_sim g1 n1 l1 h1 h2 hc
      simp only [hc]
      by_cases hl : (A.ers xs).length ≤ lim
      · have hl2 : (A.pvs xs).length ≤ lim := by rw [pvs_len, ← ers_len]; exact hl
        rw [if_pos hl]
        simp only [if_pos hl2]
        refine SimO.pre ev ?_
        refine sim_okE ev.good ev.nd ev.lt (.v (.tup xs)) (fun _ => rfl) rfl rfl ⟨xfp rfl, xok⟩ ?_
        show (A.fps xs).Sublist _
        rw [xfp rfl]; exact List.Sublist.refl _
      · rw [if_neg hl]; trivial) (by simp)
theorem sim_lst (h : SimA q mr pr) : SimE q (fun ad => GL.eLst (mr ad)) (eLst pr) := fun F S as ag gd =>
  SimO.weak (sim_first (R' := RE) (q' := true) (k := fun xs ls gh => match cvL true xs ls gh with
    | some (ds, ls, gh) => if ds.length ≤ lim then .ok (.v (.nd .ow .lst ds)) ls gh else .bad
    | none => .bad) (f := fun ad ws S1 => if ws.length ≤ lim then .ok (.loc S1.length) (S1 ++ [.lst ws]) else .bad) h gd (fun _ => rfl) fun F1 S1 as1 ag1 cs ws h1 h2 g1 n1 l1 L1 => by
    cases hc : cvL true (RA.er cs) (erS as1) (erS ag1) with
    | none => simp only [hc]; trivial
    | some t =>
      obtain ⟨ds, l2, g2⟩ := t
      obtain ⟨F2, as2, ag2, xs, rfl, rfl, rfl, rfl, xok, xfp, ev⟩ := cvL_sim g1 n1 l1 h1 h2 hc
      simp only [hc]
      by_cases hl : (A.ers xs).length ≤ lim
      · have hl2 : (A.pvs xs).length ≤ lim := by rw [pvs_len, ← ers_len]; exact hl
        rw [if_pos hl]
        simp only [if_pos hl2]
        refine SimO.pre ev ?_
        exact sim_alloc ev.good ev.nd ev.lt .lst xs rfl xok (List.Sublist.refl _) (fun _ => rfl)
      · rw [if_neg hl]; trivial) (by simp)
end
end VL
set_option Elab.async false
set_option linter.all false
set_option maxRecDepth 100000
set_option maxHeartbeats 1000000
namespace VL
open GL (PV OB Sto Nm BT lim)
open PySem (PyData Builtin)
variable {F F' : FM} {S S' : Sto} {as as' ag ag' : List AV}
theorem er_v {c : ARV} {d : D} (h : c.er = .v d) {w : PV} (hp : c.pv as ag = some w) : ∃ a, c = .v a ∧ a.er = d ∧ a.pv = w := by
  cases c with
  | v a => cases h; cases hp; exact ⟨a, rfl, rfl, rfl⟩
  | pth r p => cases h
theorem er_sc {a : A} {s : Sc} (h : a.er = .sc s) : a = .sc s := by
  cases a with
  | sc t => simp only [A.er, D.sc.injEq] at h; rw [h]
  | tup xs => simp [A.er] at h
  | nd k n hd xs => simp [A.er] at h
theorem er_tup {a : A} {xs : List D} (h : a.er = .tup xs) : ∃ ys, a = .tup ys ∧ A.ers ys = xs := by
  cases a with
  | sc t => simp [A.er] at h
  | tup ys => simp only [A.er, D.tup.injEq] at h; exact ⟨ys, rfl, h⟩
  | nd k n hd xs => simp [A.er] at h
theorem er_nd {a : A} {k : Fl} {hd : Hd} {xs : List D} (h : a.er = .nd k hd xs) : ∃ n ys, a = .nd k n hd ys ∧ A.ers ys = xs := by
  cases a with
  | sc t => simp [A.er] at h
  | tup ys => simp [A.er] at h
  | nd k n hd ys => simp only [A.er, D.nd.injEq] at h; obtain ⟨rfl, rfl, h⟩ := h; exact ⟨n, ys, rfl, h⟩
theorem er_vsc {c : ARV} {s : Sc} (h : c.er = .v (.sc s)) {w : PV} (hp : c.pv as ag = some w) : w = s.pv := by
  obtain ⟨a, rfl, e, rfl⟩ := er_v h hp
  rw [er_sc e]; rfl
def gInt (g : Int → Int → Int) : G2 := fun x y ls gh => match x, y with
  | .v (.sc (.int i)), .v (.sc (.int j)) => .ok (.v (.int (g i j))) ls gh
  | _, _ => .bad
def gIntC (c : Int → Int → Bool) (g : Int → Int → Int) : G2 := fun x y ls gh => match x, y with
  | .v (.sc (.int i)), .v (.sc (.int j)) => if c i j = true then .ok (.v (.int (g i j))) ls gh else .bad
  | _, _ => .bad
def gCmpI (g : Int → Int → Bool) : G2 := fun x y ls gh => match x, y with
  | .v (.sc (.int i)), .v (.sc (.int j)) => .ok (.v (.bl (g i j))) ls gh
  | _, _ => .bad
abbrev gSub : G2 := gInt fun i j => i - j
abbrev gDiv : G2 := gIntC GL.cDiv fun i j => i / j
abbrev gMod : G2 := gIntC GL.cMod fun i j => i % j
abbrev gLt : G2 := gCmpI fun i j => decide (i < j)
abbrev gGt : G2 := gCmpI fun i j => decide (j < i)
theorem sim_gInt (f : Int → Int → Int) : SimG true (GL.gInt f) (gInt f) := by
  intro F S as ag c1 c2 w1 w2 g nd lt h1 h2 k1 k2
  unfold gInt
  split
  · rename_i i j e1 e2
    rw [er_vsc e1 h1, er_vsc e2 h2]
    exact sim_sc g nd lt (.int (f i j)) (fun _ => rfl)
  · trivial
theorem sim_gIntC (c : Int → Int → Bool) (f : Int → Int → Int) : SimG true (GL.gIntC c f) (gIntC c f) := by
  intro F S as ag c1 c2 w1 w2 g nd lt h1 h2 k1 k2
  unfold gIntC
  split
  · rename_i i j e1 e2
    rw [er_vsc e1 h1, er_vsc e2 h2]
    by_cases hc : c i j = true
    · rw [if_pos hc]
      exact sim_sc g nd lt (.int (f i j)) (fun _ => by simp [GL.gIntC, Sc.pv, hc])
    · rw [if_neg hc]; trivial
  · trivial
theorem sim_gCmpI (f : Int → Int → Bool) : SimG true (GL.gCmpI f) (gCmpI f) := by
  intro F S as ag c1 c2 w1 w2 g nd lt h1 h2 k1 k2
  unfold gCmpI
  split
  · rename_i i j e1 e2
    rw [er_vsc e1 h1, er_vsc e2 h2]
    exact sim_sc g nd lt (.bl (f i j)) (fun _ => rfl)
  · trivial
theorem sim_gSub : SimG true GL.gSub gSub := sim_gInt _
theorem sim_gDiv : SimG true GL.gDiv gDiv := sim_gIntC _ _
theorem sim_gMod : SimG true GL.gMod gMod := sim_gIntC _ _
theorem sim_gLt : SimG true GL.gLt gLt := sim_gCmpI _
theorem sim_gGt : SimG true GL.gGt gGt := sim_gCmpI _
def shrK (x : RV) (xs : List D) : Option (List D) := if xs.all D.shr = true then some xs else match x with
  | .v _ => D.frzs xs
  | .pth _ _ => none
theorem all_shr {xs : List A} (h : (A.ers xs).all D.shr = true) : ∀ x ∈ xs, x.shr = true := by
  rw [ers_map, List.all_map, List.all_eq_true] at h
  exact fun x hx => by have := h x hx; simpa [shr_er] using this
theorem fps_shr {xs : List A} (h : ∀ x ∈ xs, x.shr = true) (ok : A.oks F S xs) : A.fps xs = [] := by
  rw [fps_map, List.flatMap_eq_nil_iff]
  exact fun x hx => fp_shr ((oks_iff xs).mp ok x hx) (h x hx)
theorem shrK_sim (g : Good F S as ag) {c : ARV} {ks : List A} {ds : List D} (nd : (fpS (as ++ ag) ++ c.fp).Nodup) (lt : ∀ n ∈ c.fp, n < S.length) (hk : A.oks F S ks) (hc : ∀ d, c.er = .v d → ∀ n ∈ A.fps ks, n ∈ c.fp) (h : shrK c.er (A.ers ks) = some ds) :
    ∃ (F' : FM) (zs : List A), A.ers zs = ds ∧ A.pvs zs = A.pvs ks ∧ A.fps zs = [] ∧ A.oks F' S zs ∧ Ev true F S as ag c.fp F' S as ag [] := by
  unfold shrK at h
  by_cases ha : (A.ers ks).all D.shr = true
  · rw [if_pos ha] at h
    cases h
    exact ⟨F, ks, rfl, rfl, fps_shr (all_shr ha) hk, hk, (Ev.refl g nd lt).sub (List.nil_sublist _)⟩
  · rw [if_neg ha] at h
    cases c with
    | pth r p => cases h
    | v a =>
      simp only [ARV.er] at h
      obtain ⟨l, q⟩ := (dfrzs_iff _ _).mp h
      have each : ∀ x ∈ ks, ∃ d, D.frz x.er = some d := fun x hx => by
        obtain ⟨i, hi⟩ := List.getElem?_of_mem hx
        obtain ⟨y, _, b⟩ := q i x.er (by rw [ers_map, List.getElem?_map, hi]; rfl)
        exact ⟨y, b⟩
      have hn : ∀ n ∈ A.fps ks, F n = none := fun n hn => by
        rw [fps_map] at hn
        obtain ⟨x, hx, hn⟩ := List.mem_flatMap.mp hn
        obtain ⟨d, hd⟩ := each x hx
        exact frz_none x hd ((oks_iff ks).mp hk x hx) n hn
      have hm := frF_mono (S := S) hn
      refine ⟨frF F S (A.fps ks), A.frzs ks, ?_, frzs_pvs ks, ?_, ?_, ?_⟩
      · apply List.ext_getElem?
        intro i
        rw [ers_map, frzs_map, List.map_map, List.getElem?_map]
        rw [ers_map] at l q
        cases hx : ks[i]? with
        | none =>
          rw [List.getElem?_eq_none_iff] at hx
          exact (List.getElem?_eq_none_iff.mpr (by rw [l, List.length_map]; exact hx)).symm
        | some x =>
          obtain ⟨y, a, b⟩ := q i x.er (by rw [List.getElem?_map, hx]; rfl)
          rw [a, Option.map_some, Function.comp, frz_er x b]
      · rw [fps_map, frzs_map, List.flatMap_map, List.flatMap_eq_nil_iff]
        intro x hx
        obtain ⟨d, hd⟩ := each x hx
        exact frz_fp x hd ((oks_iff ks).mp hk x hx)
      · rw [oks_iff, frzs_map]
        intro y hy
        obtain ⟨x, hx, rfl⟩ := List.mem_map.mp hy
        obtain ⟨d, hd⟩ := each x hx
        exact frz_ok x hd [] hm (fun n hn => by unfold frF; rw [if_pos (by rw [fps_map]; exact List.mem_flatMap.mpr ⟨x, hx, hn⟩)]) ((oks_iff ks).mp hk x hx)
      · exact ev_same g nd hm (frF_fs g.fs) (Nat.le_refl _) (fun n _ hx => ⟨by unfold frF; rw [if_neg fun h => hx (hc _ rfl n h)], rfl⟩) List.nodup_nil (fun n hn => by cases hn) (fun n hn => by cases hn)
inductive Kd where
  | lst | rol | tup
  deriving DecidableEq
def seqD : D → Option (Kd × List D)
  | .tup xs => some (.tup, xs)
  | .nd _ .lst xs => some (.lst, xs)
  | .nd _ .rol xs => some (.rol, xs)
  | _ => none
def seqV (x : RV) (ls gh : Ls) : Option (Kd × List D) := (val x ls gh).bind seqD
def SeqG (S : Sto) : Kd → PV → List PV → Prop
  | .tup, w, ws => w = .tup ws
  | .lst, w, ws => ∃ n, w = .loc n ∧ S[n]? = some (.lst ws)
  | .rol, w, ws => ∃ n, w = .loc n ∧ S[n]? = some (.rol ws)
theorem seqV_er {c : ARV} {k : Kd} {ds : List D} (h : seqV c.er (erS as) (erS ag) = some (k, ds)) {w : PV} (hp : c.pv as ag = some w) (g : Good F S as ag) (hk : c.ok F S) :
    ∃ ks : List A, A.ers ks = ds ∧ SeqG S k w (A.pvs ks) ∧ A.oks F S ks ∧ (∀ d, c.er = .v d → ∀ n ∈ A.fps ks, n ∈ c.fp) ∧ (k = .tup → A.fps ks = []) ∧
      ((∃ a, c = .v a ∧ a.kids = ks) ∨ ∃ r p a, c = .pth r p ∧ atA as ag r p = some a ∧ a.kids = ks) := by
  obtain ⟨d, e1, e2⟩ := Option.bind_eq_some_iff.mp h
  obtain ⟨a, rfl, rfl, aok, hc⟩ := val_er c e1 hp g hk
  have key : ∀ ks : List A, a.kids = ks → ((∃ a, c = .v a ∧ a.kids = ks) ∨ ∃ r p a, c = .pth r p ∧ atA as ag r p = some a ∧ a.kids = ks) := fun ks hks => by
    rcases hc with rfl | ⟨r, p, rfl, h'⟩
    · exact .inl ⟨a, rfl, hks⟩
    · exact .inr ⟨r, p, a, rfl, h', hks⟩
  have fpk : ∀ d, c.er = .v d → ∀ n ∈ A.fps a.kids, n ∈ c.fp := fun d hd n hn => by
    rcases hc with rfl | ⟨r, p, rfl, h⟩
    · show n ∈ a.fp
      cases a with
      | sc s => simp [A.kids, A.fps] at hn
      | tup xs => exact hn
      | nd k m hd xs => cases k <;> simp_all [A.fp, A.kids]
    · cases hd
  cases a with
  | sc s => simp [A.er, seqD] at e2
  | tup xs =>
    simp only [A.er, seqD, Option.some.injEq, Prod.mk.injEq] at e2
    obtain ⟨rfl, rfl⟩ := e2
    simp only [A.ok] at aok
    exact ⟨xs, rfl, rfl, aok.2, fpk, fun _ => aok.1, key xs rfl⟩
  | nd k n hd xs =>
    have ob := obj_of g.fs aok
    cases hd with
    | lst =>
      simp only [A.er, seqD, Option.some.injEq, Prod.mk.injEq] at e2
      obtain ⟨rfl, rfl⟩ := e2
      exact ⟨xs, rfl, ⟨n, rfl, ob⟩, ok_kids aok, fpk, (fun e => by cases e), key xs rfl⟩
    | rol =>
      simp only [A.er, seqD, Option.some.injEq, Prod.mk.injEq] at e2
      obtain ⟨rfl, rfl⟩ := e2
      exact ⟨xs, rfl, ⟨n, rfl, ob⟩, ok_kids aok, fpk, (fun e => by cases e), key xs rfl⟩
    | dct ks => simp [A.er, seqD] at e2
    | ins C ns => simp [A.er, seqD] at e2
def lstK (x : RV) (ls gh : Ls) : Option (List D) := match seqV x ls gh with
  | some (.lst, xs) => shrK x xs
  | _ => none
theorem lstK_sim (g : Good F S as ag) {c : ARV} {ds : List D} {w : PV} (nd : (fpS (as ++ ag) ++ c.fp).Nodup) (lt : ∀ n ∈ c.fp, n < S.length) (hp : c.pv as ag = some w) (hk : c.ok F S) (h : lstK c.er (erS as) (erS ag) = some ds) :
    ∃ (F' : FM) (zs : List A) (n : Nat), A.ers zs = ds ∧ w = .loc n ∧ S[n]? = some (.lst (A.pvs zs)) ∧ A.fps zs = [] ∧ A.oks F' S zs ∧ Ev true F S as ag c.fp F' S as ag [] := by
  unfold lstK at h
  split at h
  · rename_i xs e
    obtain ⟨ks, rfl, ⟨n, rfl, hs⟩, ok, fpk, _, _⟩ := seqV_er e hp g hk
    obtain ⟨F', zs, h1, h2, h3, h4, h5⟩ := shrK_sim g nd lt ok fpk h
    exact ⟨F', zs, n, h1, rfl, by rw [h2]; exact hs, h3, h4, h5⟩
  · cases h
def gAdd : G2 := fun x y ls gh => match x, y with
  | .v (.sc (.int i)), .v (.sc (.int j)) => .ok (.v (.int (i + j))) ls gh
  | .v (.sc (.str a)), .v (.sc (.str b)) => if a.length + b.length ≤ lim then .ok (.v (.str (a ++ b))) ls gh else .bad
  | .v (.tup a), .v (.tup b) => if a.length + b.length ≤ lim then .ok (.v (.tup (a ++ b))) ls gh else .bad
  | x, y => match lstK x ls gh, lstK y ls gh with
    | some a, some b => if a.length + b.length ≤ lim then .ok (.v (.nd .ow .lst (a ++ b))) ls gh else .bad
    | _, _ => .bad
theorem ers_app (xs ys : List A) : A.ers (xs ++ ys) = A.ers xs ++ A.ers ys := by simp [ers_map]
theorem pvs_app (xs ys : List A) : A.pvs (xs ++ ys) = A.pvs xs ++ A.pvs ys := by simp [pvs_map]
theorem fps_app (xs ys : List A) : A.fps (xs ++ ys) = A.fps xs ++ A.fps ys := by simp [fps_map]
theorem oks_app {xs ys : List A} (h1 : A.oks F S xs) (h2 : A.oks F S ys) : A.oks F S (xs ++ ys) := by
  rw [oks_iff] at *
  intro x hx
  rcases List.mem_append.mp hx with h | h
  · exact h1 x h
  · exact h2 x h
theorem oks_mono {xs : List A} (m : Mono F F') (h : A.oks F S xs) (e : A.fps xs = []) : A.oks F' S' xs := by
  rw [oks_iff] at *
  exact fun x hx => ok_frame m (fun n hn => by
    have : n ∈ A.fps xs := by rw [fps_map]; exact List.mem_flatMap.mpr ⟨x, hx, hn⟩
    rw [e] at this; cases this) (h x hx)
theorem lstAt_of {S : Sto} {n : Nat} {xs : List PV} (h : S[n]? = some (.lst xs)) : GL.lstAt S n = some xs := by unfold GL.lstAt; rw [h]
theorem seqAt_of {S : Sto} {n : Nat} {xs : List PV} (h : S[n]? = some (.lst xs)) : GL.seqAt S n = some xs := by unfold GL.seqAt; rw [h]
theorem seqAt_of' {S : Sto} {n : Nat} {xs : List PV} (h : S[n]? = some (.rol xs)) : GL.seqAt S n = some xs := by unfold GL.seqAt; rw [h]
theorem two_lists (g : Good F S as ag) {c1 c2 : ARV} {a b : List D} {w1 w2 : PV} (nd : (fpS (as ++ ag) ++ (c1.fp ++ c2.fp)).Nodup) (lt : ∀ n ∈ c1.fp ++ c2.fp, n < S.length) (h1 : c1.pv as ag = some w1) (h2 : c2.pv as ag = some w2) (k1 : c1.ok F S) (k2 : c2.ok F S)
    (e1 : lstK c1.er (erS as) (erS ag) = some a) (e2 : lstK c2.er (erS as) (erS ag) = some b) :
    ∃ (F' : FM) (ys zs : List A) (n m : Nat), A.ers ys = a ∧ A.ers zs = b ∧ w1 = .loc n ∧ w2 = .loc m ∧ S[n]? = some (.lst (A.pvs ys)) ∧ S[m]? = some (.lst (A.pvs zs)) ∧ A.fps ys = [] ∧ A.fps zs = [] ∧ A.oks F' S ys ∧ A.oks F' S zs ∧ Ev true F S as ag (c1.fp ++ c2.fp) F' S as ag [] := by
  obtain ⟨n1, n2, n3⟩ := nd_sub nd
  obtain ⟨F1, ys, n, r1, rfl, r3, r4, r5, ev1⟩ := lstK_sim g n1 (fun n h => lt n (List.mem_append_left _ h)) h1 k1 e1
  have ev1f := (ev1.frame n3 (fun n h => lt n (List.mem_append_right _ h))).perm List.perm_append_comm List.perm_append_comm
  have k2' := (stab_re true c2 (.inl rfl) _ _ _ _ _ _ _ _ _ _ _ ev1 g n3 h2 k2)
  obtain ⟨F2, zs, m, s1, rfl, s3, s4, s5, ev2⟩ := lstK_sim ev1.good (by simpa using ev1f.nd) (fun n h => ev1f.lt n (by simpa using h)) k2'.1 k2'.2 e2
  refine ⟨F2, ys, zs, n, m, r1, s1, rfl, rfl, r3, s3, r4, s4, oks_mono ev2.mono r5 r4, s5, ?_⟩
  have := ev1f.trans (by simpa using ev2)
  simpa using this
theorem sim_gAdd : SimG true GL.gAdd gAdd := by
  intro F S as ag c1 c2 w1 w2 g nd lt h1 h2 k1 k2
  unfold gAdd
  split
  · rename_i i j e1 e2
    rw [er_vsc e1 h1, er_vsc e2 h2]
    exact sim_sc g nd lt (.int (i + j)) (fun _ => rfl)
  · rename_i a b e1 e2
    rw [er_vsc e1 h1, er_vsc e2 h2]
    by_cases hl : a.length + b.length ≤ lim
    · rw [if_pos hl]
      exact sim_sc g nd lt (.str (a ++ b)) (fun _ => by simp only [GL.gAdd, Sc.pv, if_pos hl])
    · rw [if_neg hl]; trivial
  · rename_i a b e1 e2
    obtain ⟨x, rfl, ex, rfl⟩ := er_v e1 h1
    obtain ⟨y, rfl, ey, rfl⟩ := er_v e2 h2
    obtain ⟨xs, rfl, rfl⟩ := er_tup ex
    obtain ⟨ys, rfl, rfl⟩ := er_tup ey
    rw [ers_len, ers_len]
    by_cases hl : xs.length + ys.length ≤ lim
    · rw [if_pos hl]
      have p1 : A.fps xs = [] ∧ A.oks F S xs := k1
      have p2 : A.fps ys = [] ∧ A.oks F S ys := k2
      refine sim_okE g nd lt (.v (.tup (xs ++ ys))) (fun _ => ?_) (by simp [ARV.er, A.er, ers_app]) rfl ⟨by rw [fps_app, p1.1, p2.1]; rfl, oks_app p1.2 p2.2⟩ (by show (A.fps _).Sublist _; rw [fps_app, p1.1, p2.1]; exact List.nil_sublist _)
      simp only [GL.gAdd, A.pv, pvs_len, if_pos hl, pvs_app]
    · rw [if_neg hl]; trivial
  · split
    · rename_i a b e1 e2
      obtain ⟨F', ys, zs, n, m, rfl, rfl, rfl, rfl, s1, s2, f1, f2, o1, o2, ev⟩ := two_lists g nd lt h1 h2 k1 k2 e1 e2
      rw [ers_len, ers_len]
      by_cases hl : ys.length + zs.length ≤ lim
      · rw [if_pos hl, ← ers_app]
        refine SimO.pre ev ?_
        refine sim_alloc ev.good ev.nd ev.lt .lst (ys ++ zs) rfl (oks_app o1 o2) (by rw [fps_app, f1, f2]; exact List.nil_sublist _) (fun _ => ?_)
        simp only [GL.gAdd, lstAt_of s1, lstAt_of s2, pvs_len, if_pos hl, mkO, pvs_app]
      · rw [if_neg hl]; trivial
    · trivial
def repD (n : Nat) (xs : List D) : List D := (List.replicate n xs).flatten
def gMul : G2 := fun x y ls gh => match x, y with
  | .v (.sc (.int i)), .v (.sc (.int j)) => if (GL.smallI i || GL.smallI j) = true then .ok (.v (.int (i * j))) ls gh else .bad
  | x, .v (.sc (.int j)) => (match lstK x ls gh with
    | some a => if (decide (0 ≤ j) && decide (j < 100000) && decide (a.length * j.toNat ≤ lim)) = true then .ok (.v (.nd .ow .lst (repD j.toNat a))) ls gh else .bad
    | none => .bad)
  | _, _ => .bad
theorem sim_gMul : SimG true GL.gMul gMul := by
  intro F S as ag c1 c2 w1 w2 g nd lt h1 h2 k1 k2
  unfold gMul
  split
  · rename_i i j e1 e2
    rw [er_vsc e1 h1, er_vsc e2 h2]
    by_cases hl : (GL.smallI i || GL.smallI j) = true
    · rw [if_pos hl]
      exact sim_sc g nd lt (.int (i * j)) (fun _ => by simp only [GL.gMul, Sc.pv, if_pos hl])
    · rw [if_neg hl]; trivial
  · rename_i j e2 hne
    rw [er_vsc e2 h2]
    split
    · rename_i a e1
      obtain ⟨n1, n2, n3⟩ := nd_sub nd
      obtain ⟨F1, ys, n, rfl, rfl, r3, r4, r5, ev1⟩ := lstK_sim g n1 (fun n h => lt n (List.mem_append_left _ h)) h1 k1 e1
      have ev1f := (ev1.frame n3 (fun n h => lt n (List.mem_append_right _ h))).perm List.perm_append_comm List.perm_append_comm
      rw [ers_len]
      by_cases hl : (decide (0 ≤ j) && decide (j < 100000) && decide (ys.length * j.toNat ≤ lim)) = true
      · rw [if_pos hl]
        refine SimO.pre ev1f ?_
        have eE : repD j.toNat (A.ers ys) = A.ers (List.replicate j.toNat ys).flatten := by
          unfold repD
          rw [ers_map, ers_map, List.map_flatten, List.map_replicate]
        have fpE : A.fps (List.replicate j.toNat ys).flatten = [] := by
          rw [fps_map, List.flatMap_eq_nil_iff]
          intro x hx
          obtain ⟨l, hl, hx⟩ := List.mem_flatten.mp hx
          rw [List.eq_of_mem_replicate hl] at hx
          rw [fps_map, List.flatMap_eq_nil_iff] at r4
          exact r4 x hx
        rw [eE]
        refine sim_alloc ev1f.good ev1f.nd ev1f.lt .lst _ rfl ?_ (by rw [fpE]; exact List.nil_sublist _) (fun _ => ?_)
        · rw [oks_iff] at r5 ⊢
          intro x hx
          obtain ⟨l, hl, hx⟩ := List.mem_flatten.mp hx
          rw [List.eq_of_mem_replicate hl] at hx
          exact r5 x hx
        · simp only [GL.gMul, Sc.pv, lstAt_of r3, pvs_len, if_pos hl, mkO]
          rw [pvs_map, pvs_map, List.map_flatten, List.map_replicate]
      · rw [if_neg hl]; trivial
    · trivial
  · trivial
def scalD : D → D → Option Bool
  | .sc (.int i), .sc (.int j) => some (decide (i = j))
  | .sc (.str x), .sc (.str y) => some (decide (x = y))
  | .sc (.bl x), .sc (.bl y) => some (x == y)
  | .sc .non, .sc .non => some true
  | .sc .non, .sc (.int _) => some false
  | .sc (.int _), .sc .non => some false
  | .sc .non, .sc (.bl _) => some false
  | .sc (.bl _), .sc .non => some false
  | .sc .non, .sc (.str _) => some false
  | .sc (.str _), .sc .non => some false
  | .sc (.int _), .sc (.str _) => some false
  | .sc (.str _), .sc (.int _) => some false
  | .sc (.bl _), .sc (.str _) => some false
  | .sc (.str _), .sc (.bl _) => some false
  | _, _ => none
theorem scal_er (a b : A) {k : Bool} (h : scalD a.er b.er = some k) : GL.scalP a.pv b.pv = some k := by
  cases a with
  | sc s =>
    cases b with
    | sc t => cases s <;> cases t <;> first | exact h | cases h
    | tup ys => cases s <;> simp [A.er, scalD] at h
    | nd k n hd ys => cases s <;> simp [A.er, scalD] at h
  | tup xs => simp [A.er, scalD] at h
  | nd k n hd xs => simp [A.er, scalD] at h
theorem scal_none (a b : A) (h : scalD a.er b.er = none) : GL.scalP a.pv b.pv = none := by
  cases a with
  | sc s =>
    cases b with
    | sc t => cases s <;> cases t <;> first | rfl | cases h
    | tup ys => cases s <;> rfl
    | nd k n hd ys => cases s <;> rfl
  | tup xs => cases b with
    | sc t => cases t <;> rfl
    | tup ys => rfl
    | nd k n hd ys => rfl
  | nd k n hd xs => cases b with
    | sc t => cases t <;> rfl
    | tup ys => rfl
    | nd k n hd ys => rfl
def datD : Nat → D → Option PyData
  | 0, _ => none
  | f + 1, d => match d with
    | .sc .non => some .none
    | .sc (.bl b) => some (.bool b)
    | .sc (.int i) => some (.int i)
    | .sc (.str l) => if PyData.strOk (GL.toS l) = true then some (.str (GL.toS l)) else none
    | .tup xs => (GL.optAll (datD f) xs).map .tuple
    | .nd _ .lst xs => (GL.optAll (datD f) xs).map .list
    | .nd _ .rol xs => (GL.optAll (datD f) xs).map .list
    | _ => none
theorem optAll_er {f : Nat} {xs : List A} (h : ∀ x ∈ xs, GL.datP S f x.pv = datD f x.er) : GL.optAll (GL.datP S f) (A.pvs xs) = GL.optAll (datD f) (A.ers xs) := by
  induction xs with
  | nil => rfl
  | cons x r ih =>
    simp only [A.pvs, A.ers, GL.optAll]
    rw [h x List.mem_cons_self, ih fun y hy => h y (List.mem_cons_of_mem _ hy)]
theorem dat_er (fs : FS F S) : ∀ (f : Nat) {a : A}, a.ok F S → GL.datP S f a.pv = datD f a.er
  | 0, a, _ => rfl
  | f + 1, a, h => by
    cases a with
    | sc s => cases s <;> rfl
    | tup xs =>
      simp only [A.ok] at h
      show (GL.optAll (GL.datP S f) (A.pvs xs)).map _ = (GL.optAll (datD f) (A.ers xs)).map _
      rw [optAll_er fun x hx => dat_er fs f ((oks_iff xs).mp h.2 x hx)]
    | nd k n hd xs =>
      have ob := obj_of fs h
      have kd := ok_kids h
      have e := optAll_er (S := S) (f := f) (xs := xs) fun x hx => dat_er fs f ((oks_iff xs).mp kd x hx)
      cases hd with
      | lst =>
        show (match GL.seqAt S n with | some xs => (GL.optAll (GL.datP S f) xs).map _ | none => none) = (GL.optAll (datD f) (A.ers xs)).map _
        rw [seqAt_of ob]
        dsimp only
        rw [e]
      | rol =>
        show (match GL.seqAt S n with | some xs => (GL.optAll (GL.datP S f) xs).map _ | none => none) = (GL.optAll (datD f) (A.ers xs)).map _
        rw [seqAt_of' ob]
        dsimp only
        rw [e]
      | dct ks =>
        show (match GL.seqAt S n with | some xs => (GL.optAll (GL.datP S f) xs).map _ | none => none) = none
        have : GL.seqAt S n = none := by unfold GL.seqAt; rw [ob]; rfl
        rw [this]
      | ins C ns =>
        show (match GL.seqAt S n with | some xs => (GL.optAll (GL.datP S f) xs).map _ | none => none) = none
        have : GL.seqAt S n = none := by unfold GL.seqAt; rw [ob]; rfl
        rw [this]
def eqD (neg : Bool) (a b : D) : Option Bool := match scalD a b with
  | some k => some (if neg = true then !k else k)
  | none => match datD 60 a, datD 60 b with
    | some d, some e => some (if neg = true then !PyData.eqv d e else PyData.eqv d e)
    | _, _ => none
def eqM (neg : Bool) : G2 := fun x y ls gh => match val x ls gh, val y ls gh with
  | some a, some b => (match eqD neg a b with
    | some k => .ok (.v (.bl k)) ls gh
    | none => .bad)
  | _, _ => .bad
abbrev gEq : G2 := eqM false
abbrev gNe : G2 := eqM true
theorem sim_eqM (neg : Bool) : SimG true (GL.eqM neg) (eqM neg) := by
  intro F S as ag c1 c2 w1 w2 g nd lt h1 h2 k1 k2
  unfold eqM
  split
  · rename_i d e e1 e2
    obtain ⟨a, rfl, rfl, aok, _⟩ := val_er c1 e1 h1 g k1
    obtain ⟨b, rfl, rfl, bok, _⟩ := val_er c2 e2 h2 g k2
    split
    · rename_i k hk
      refine sim_sc g nd lt (.bl k) (fun _ => ?_)
      unfold eqD at hk
      unfold GL.eqM
      cases hs : scalD a.er b.er with
      | some j =>
        rw [hs] at hk
        rw [scal_er a b hs]
        cases hk; rfl
      | none =>
        rw [hs] at hk
        rw [scal_none a b hs, dat_er g.fs 60 aok, dat_er g.fs 60 bok]
        dsimp only at hk ⊢
        cases ha : datD 60 a.er with
        | none => rw [ha] at hk; cases hk
        | some x =>
          cases hb : datD 60 b.er with
          | none => rw [ha, hb] at hk; cases hk
          | some y => rw [ha, hb] at hk; cases hk; rfl
    · trivial
  · trivial
theorem sim_gEq : SimG true GL.gEq gEq := sim_eqM false
theorem sim_gNe : SimG true GL.gNe gNe := sim_eqM true
def flatD : D → Bool
  | .sc .non => true
  | .sc (.bl _) => true
  | .sc (.int _) => true
  | .sc (.str _) => true
  | _ => false
def eqF : D → D → Bool
  | .sc .non, .sc .non => true
  | .sc (.bl a), .sc (.bl b) => a == b
  | .sc (.bl a), .sc (.int b) => (if a then 1 else 0) == b
  | .sc (.int a), .sc (.bl b) => a == (if b then 1 else 0)
  | .sc (.int a), .sc (.int b) => a == b
  | .sc (.str a), .sc (.str b) => decide (a = b)
  | _, _ => false
def inD (x : D) (xs : List D) : Bool := xs.any fun y => eqF y x
theorem flat_pv (a : A) : GL.flatP a.pv = flatD a.er := by
  cases a with
  | sc s => cases s <;> rfl
  | tup xs => rfl
  | nd k n hd xs => rfl
theorem eqF_pv (a b : A) (ha : flatD a.er = true) (hb : flatD b.er = true) : GL.eqF a.pv b.pv = eqF a.er b.er := by
  cases a with
  | sc s =>
    cases b with
    | sc t => cases s <;> cases t <;> rfl
    | tup xs => cases hb
    | nd k n hd xs => cases hb
  | tup xs => cases ha
  | nd k n hd xs => cases ha
theorem in_pv (x : A) (xs : List A) (hx : flatD x.er = true) (h : (A.ers xs).all flatD = true) : (A.pvs xs).all GL.flatP = true ∧ GL.inP x.pv (A.pvs xs) = inD x.er (A.ers xs) := by
  induction xs with
  | nil => exact ⟨rfl, rfl⟩
  | cons y r ih =>
    simp only [A.ers, List.all_cons, Bool.and_eq_true] at h
    obtain ⟨i1, i2⟩ := ih h.2
    refine ⟨by simp only [A.pvs, List.all_cons, i1, flat_pv, h.1, Bool.and_true], ?_⟩
    simp only [GL.inP, inD, A.pvs, A.ers, List.any_cons] at i2 ⊢
    rw [i2, eqF_pv y x h.1 hx]
def inM (neg : Bool) : G2 := fun x y ls gh => match val x ls gh, seqV y ls gh with
  | some a, some (_, xs) => if (flatD a && xs.all flatD) = true then .ok (.v (.bl (if neg then !inD a xs else inD a xs))) ls gh else .bad
  | _, _ => .bad
theorem sim_inM (neg : Bool) : SimG true (GL.inM neg) (inM neg) := by
  intro F S as ag c1 c2 w1 w2 g nd lt h1 h2 k1 k2
  unfold inM
  split
  · rename_i d k xs e1 e2
    obtain ⟨a, rfl, rfl, aok, _⟩ := val_er c1 e1 h1 g k1
    obtain ⟨ks, rfl, sg, ok, _, _, _⟩ := seqV_er e2 h2 g k2
    by_cases hf : (flatD a.er && (A.ers ks).all flatD) = true
    · rw [if_pos hf]
      obtain ⟨f1, f2⟩ := Bool.and_eq_true_iff.mp hf
      obtain ⟨q1, q2⟩ := in_pv a ks f1 f2
      refine sim_sc g nd lt (.bl _) (fun _ => ?_)
      have fa : GL.flatP a.pv = true := by rw [flat_pv]; exact f1
      cases k with
      | tup => cases sg; simp only [GL.inM, fa, q1, q2, Bool.and_self, if_true, Sc.pv]
      | lst => obtain ⟨n, rfl, hs⟩ := sg; simp only [GL.inM, seqAt_of hs, fa, q1, q2, Bool.and_self, if_true, Sc.pv]
      | rol => obtain ⟨n, rfl, hs⟩ := sg; simp only [GL.inM, seqAt_of' hs, fa, q1, q2, Bool.and_self, if_true, Sc.pv]
    · rw [if_neg hf]; trivial
  · trivial
def isNonD : D → Bool
  | .sc .non => true
  | _ => false
theorem isNon_pv (a : A) : GL.isNonP a.pv = isNonD a.er := by
  cases a with
  | sc s => cases s <;> rfl
  | tup xs => rfl
  | nd k n hd xs => rfl
def isM (neg : Bool) : G2 := fun x y ls gh => match y with
  | .v (.sc .non) => (match val x ls gh with
    | some d => .ok (.v (.bl (if neg then !isNonD d else isNonD d))) ls gh
    | none => .bad)
  | .v (.sc (.bl k)) => (match x with
    | .v (.sc (.bl j)) => .ok (.v (.bl (if neg then !decide (j = k) else decide (j = k)))) ls gh
    | _ => .bad)
  | _ => .bad
theorem sim_isM (neg : Bool) : SimG true (GL.isM neg) (isM neg) := by
  intro F S as ag c1 c2 w1 w2 g nd lt h1 h2 k1 k2
  unfold isM
  split
  · rename_i e2
    rw [er_vsc e2 h2]
    split
    · rename_i d e1
      obtain ⟨a, rfl, rfl, aok, _⟩ := val_er c1 e1 h1 g k1
      refine sim_sc g nd lt (.bl _) (fun _ => ?_)
      show GL.Out.ok (PV.bl (if neg = true then !GL.isNonP a.pv else GL.isNonP a.pv)) S = _
      rw [isNon_pv]; rfl
    · trivial
  · rename_i k e2
    rw [er_vsc e2 h2]
    split
    · rename_i j e1
      rw [er_vsc e1 h1]
      exact sim_sc g nd lt (.bl _) (fun _ => rfl)
    · trivial
  · trivial
end VL
set_option Elab.async false
set_option linter.all false
set_option maxRecDepth 100000
set_option maxHeartbeats 1000000
namespace VL
open GL (PV OB Sto Nm BT lim)
open PySem (PyData Builtin)
variable {F F' : FM} {S S' : Sto} {as as' ag ag' : List AV}
theorem sim_at {α β γ : Type} {R : RT α β γ} {q : Bool} {m : AD → GL.Ls → Sto → GL.Out α} {p : PX β} {L : AD → GL.Ls} (h : SimX q R m p) (g : Good F S as ag) (hL : ∀ ad, L ad = glS as ag ad as) : SimO q R F S as ag [] (fun ad => m ad (L ad) S) (p (erS as) (erS ag)) := by
  have := h F S as ag g
  simpa only [hL] using this
def asB (x : RV) : PT := fun ls gh => match x with
  | .v (.sc (.bl b)) => .ok b ls gh
  | _ => .bad
def toT (m : PE) : PT := fun ls gh => (m ls gh).bind fun x ls gh => asB x ls gh
def tAndM (a b : PT) : PT := fun ls gh => (a ls gh).bind fun k ls gh => if k = true then b ls gh else .ok false ls gh
def tOrM (a b : PT) : PT := fun ls gh => (a ls gh).bind fun k ls gh => if k = true then .ok true ls gh else b ls gh
def tNotM (a : PT) : PT := fun ls gh => (a ls gh).bind fun k ls gh => .ok (!k) ls gh
def tYesM : PT := fun ls gh => .ok true ls gh
def eNotM (a : PE) : PE := fun ls gh => (a ls gh).bind fun x ls gh => match x with
  | .v (.sc (.bl b)) => .ok (.v (.bl (!b))) ls gh
  | _ => .bad
def eAndM (a b : PE) : PE := fun ls gh => (a ls gh).bind fun x ls gh => match x with
  | .v (.sc (.bl true)) => b ls gh
  | .v (.sc (.bl false)) => .ok (.v (.bl false)) ls gh
  | _ => .bad
def kNot (w : PV) (S1 : Sto) : GL.Out PV := match w with
  | .bl k => .ok (.bl (!k)) S1
  | _ => .bad
def kAnd (m : Sto → GL.Out PV) (w : PV) (S1 : Sto) : GL.Out PV := match w with
  | .bl true => m S1
  | .bl false => .ok (.bl false) S1
  | _ => .bad
def kYes (w : PV) (S1 : Sto) : GL.Out (Option Int) := match w with
  | .int i => .ok (some i) S1
  | _ => .bad
section
variable {qa qb qc : Bool} {ma mb mc : AD → GL.ME} {pa pb pc : PE} {ta tb : AD → GL.MT} {ua ub : PT}
theorem sim_toT (h : SimE qa ma pa) : SimT qa (fun ad => GL.toT (ma ad)) (toT pa) := fun F S as ag gd =>
  SimO.weak (sim_first (R' := RB) (q' := true) (k := fun x ls gh => asB x ls gh) (f := fun ad w S1 => GL.asB w S1) h gd (fun _ => rfl) fun F1 S1 as1 ag1 c w h1 h2 g1 n1 l1 L1 => by
    show SimO _ _ _ _ _ _ _ _ (asB c.er (erS as1) (erS ag1))
    unfold asB
    split
    · rename_i b e
      rw [er_vsc e h1]
      exact sim_ok (R := RB) g1 n1 l1 b (fun _ => rfl) rfl rfl trivial (List.nil_sublist _)
    · trivial) (by simp)
theorem sim_tnot (h : SimT qa ta ua) : SimT qa (fun ad => GL.tNotM (ta ad)) (tNotM ua) := fun F S as ag gd =>
  SimO.weak (sim_first (R' := RB) (q' := true) (k := fun x ls gh => .ok (!x) ls gh) (f := fun ad w S1 => .ok (!w) S1) h gd (fun _ => rfl) fun F1 S1 as1 ag1 c w h1 h2 g1 n1 l1 L1 => by
    cases h1
    exact sim_ok (R := RB) g1 n1 l1 (!c) (fun _ => rfl) rfl rfl trivial (List.nil_sublist _)) (by simp)
theorem sim_tand (h : SimT qa ta ua) (h2 : SimT qb tb ub) : SimT (qa && qb) (fun ad => GL.tAndM (ta ad) (tb ad)) (tAndM ua ub) := fun F S as ag gd =>
  sim_first (R' := RB) (q' := qb) (k := fun k ls gh => if k = true then ub ls gh else .ok false ls gh) (f := fun ad k S1 => if k = true then tb ad (glS as ag ad as) S1 else .ok false S1) h gd (fun _ => rfl) fun F1 S1 as1 ag1 c w h1 _ g1 n1 l1 L1 => by
    cases h1
    cases c with
    | true => exact sim_at (R := RB) h2 g1 L1
    | false => exact sim_ok (R := RB) g1 n1 l1 false (fun _ => rfl) rfl rfl trivial (List.nil_sublist _)
theorem sim_tor (h : SimT qa ta ua) (h2 : SimT qb tb ub) : SimT (qa && qb) (fun ad => GL.tOrM (ta ad) (tb ad)) (tOrM ua ub) := fun F S as ag gd =>
  sim_first (R' := RB) (q' := qb) (k := fun k ls gh => if k = true then .ok true ls gh else ub ls gh) (f := fun ad k S1 => if k = true then .ok true S1 else tb ad (glS as ag ad as) S1) h gd (fun _ => rfl) fun F1 S1 as1 ag1 c w h1 _ g1 n1 l1 L1 => by
    cases h1
    cases c with
    | false => exact sim_at (R := RB) h2 g1 L1
    | true => exact sim_ok (R := RB) g1 n1 l1 true (fun _ => rfl) rfl rfl trivial (List.nil_sublist _)
theorem sim_tyes : SimT true (fun _ => GL.tYesM) tYesM := fun F S as ag g => sim_ok (R := RB) g (good_nd g) (fun _ h => by cases h) true (fun _ => rfl) rfl rfl trivial (List.nil_sublist _)
theorem sim_not (h : SimE qa ma pa) : SimE qa (fun ad => GL.eNotM (ma ad)) (eNotM pa) := fun F S as ag gd =>
  SimO.weak (sim_first (R' := RE) (q' := true) (k := fun (x : RV) (ls gh : Ls) => match x with
  | .v (.sc (.bl b)) => .ok (.v (.bl (!b))) ls gh
  | _ => .bad) (f := fun (ad : AD) (w : PV) (S1 : Sto) => kNot w S1) h gd (fun _ => rfl) fun F1 S1 as1 ag1 c w h1 h2 g1 n1 l1 L1 => by
    split
    · rename_i b e
      rw [er_vsc e h1]
      exact sim_sc g1 n1 l1 (.bl (!b)) (fun _ => rfl)
    · trivial) (by simp)
theorem nil_x0 {α β γ : Type} {R : RT α β γ} {q : Bool} {o : AD → GL.Out α} {p : Out β} {x0 : List Nat} (nd : (fpS (as ++ ag) ++ x0).Nodup) (h : SimO q R F S as ag [] o p) : SimO q R F S as ag x0 o p := by
  have wk : ∀ {F' : FM} {S' : Sto} {as' ag' : List AV} {x : List Nat}, Ev q F S as ag [] F' S' as' ag' x → Ev q F S as ag x0 F' S' as' ag' x := fun e =>
    ⟨e.good, e.nd, e.lt, e.mono, e.len, fun n hn hx => e.keep n hn fun h => hx (by
      rcases List.mem_append.mp h with t | t
      · exact List.mem_append_left _ t
      · cases t), fun n hn => (e.new n hn).imp (fun h => by
      rcases List.mem_append.mp h with t | t
      · exact List.mem_append_left _ t
      · cases t) id, e.gl, e.gg, e.rt, e.per⟩
  cases p with
  | bad => trivial
  | exc e ls gh => obtain ⟨F2, S2, as2, ag2, x, b1, b2, b3, b4, b5, b6⟩ := h; exact ⟨F2, S2, as2, ag2, x, b1, b2, b3, b4, b5, wk b6⟩
  | ok b ls gh => obtain ⟨F2, S2, as2, ag2, c, w, b1, b2, b3, b4, b5, b6, b7⟩ := h; exact ⟨F2, S2, as2, ag2, c, w, b1, b2, b3, b4, b5, b6, wk b7⟩
theorem sim_and (h : SimE qa ma pa) (hb : SimE qb mb pb) : SimE (qa && qb) (fun ad => GL.eAndM (ma ad) (mb ad)) (eAndM pa pb) := fun F S as ag gd =>
  sim_first (R' := RE) (q' := qb) (k := fun (x : RV) (ls gh : Ls) => match x with
  | .v (.sc (.bl true)) => pb ls gh
  | .v (.sc (.bl false)) => .ok (.v (.bl false)) ls gh
  | _ => .bad) (f := fun (ad : AD) (w : PV) (S1 : Sto) => kAnd (mb ad (glS as ag ad as)) w S1) h gd (fun _ => rfl) fun F1 S1 as1 ag1 c w h1 h2 g1 n1 l1 L1 => by
    split
    · rename_i e
      rw [er_vsc e h1]
      exact nil_x0 n1 (sim_at (R := RE) hb g1 L1)
    · rename_i e
      rw [er_vsc e h1]
      exact sim_sc g1 n1 l1 (.bl false) (fun _ => rfl)
    · trivial
end
def e1 (f : RV → PE) (a : PE) : PE := fun ls gh => (a ls gh).bind fun x ls gh => f x ls gh
def SimF1 (q : Bool) (ff : PV → Sto → GL.Out PV) (f : RV → PE) : Prop := ∀ (F : FM) (S : Sto) (as ag : List AV) (c : ARV) (w : PV), Good F S as ag → (fpS (as ++ ag) ++ c.fp).Nodup → (∀ n ∈ c.fp, n < S.length) → c.pv as ag = some w → c.ok F S →
  SimO q RE F S as ag c.fp (fun _ => ff w S) (f c.er (erS as) (erS ag))
theorem sim_e1 {qa qf : Bool} {ma : AD → GL.ME} {pa : PE} {ff : PV → Sto → GL.Out PV} {f : RV → PE} (h : SimE qa ma pa) (hf : SimF1 qf ff f) : SimE (qa && qf) (fun ad ls S => (ma ad ls S).bind fun w S1 => ff w S1) (e1 f pa) := fun F S as ag gd =>
  sim_first (R' := RE) (q' := qf) (k := fun x ls gh => f x ls gh) (f := fun ad w S1 => ff w S1) h gd (fun _ => rfl) fun F1 S1 as1 ag1 c w h1 h2 g1 n1 l1 L1 => hf F1 S1 as1 ag1 c w g1 n1 l1 h1 h2
def childR (c : RV) (i : Nat) (d : D) : RV := if d.shr = true then .v d else match c with
  | .v _ => .v d
  | .pth r p => .pth r (p ++ [i])
theorem get_app : ∀ (p : List Nat) (a : A) (i : Nat), getA (p ++ [i]) a = (getA p a).bind fun z => z.kids[i]?
  | [], a, i => by
    show getA [i] a = _
    unfold getA
    cases h : a.kids[i]? with
    | none => simp [h]
    | some z => simp [h, getA]
  | j :: p, a, i => by
    show getA (j :: (p ++ [i])) a = _
    rw [getA, getA]
    cases h : a.kids[j]? with
    | none => rfl
    | some z => exact get_app p z i
theorem sim_child {q : Bool} {x0 : List Nat} (g : Good F S as ag) (nd : (fpS (as ++ ag) ++ x0).Nodup) (lt : ∀ n ∈ x0, n < S.length) {c : ARV} (sub : c.fp.Sublist x0) (hk : c.ok F S) {ks : List A} (hc : (∃ a, c = .v a ∧ a.kids = ks) ∨ ∃ r p a, c = .pth r p ∧ atA as ag r p = some a ∧ a.kids = ks) {i : Nat} {x : A} (hi : ks[i]? = some x) (oks : A.oks F S ks)
    {o : AD → GL.Out PV} (ho : ∀ ad, o ad = .ok x.pv S) : SimO q RE F S as ag x0 o (.ok (childR c.er i x.er) (erS as) (erS ag)) := by
  have xok := (oks_iff ks).mp oks x (List.mem_of_getElem? hi)
  unfold childR
  rw [shr_er]
  cases hs : x.shr with
  | true => exact sim_okE g nd lt (.v x) ho rfl rfl xok (by show (A.fp x).Sublist _; rw [fp_shr xok hs]; exact List.nil_sublist _)
  | false =>
    rcases hc with ⟨a, rfl, rfl⟩ | ⟨r, p, a, rfl, hat, rfl⟩
    · refine sim_okE g nd lt (.v x) ho rfl rfl xok (List.Sublist.trans ?_ sub)
      show (A.fp x).Sublist (A.fp a)
      have s1 : (A.fp x).Sublist (A.fps a.kids) := by
        rw [fps_map, List.flatMap]
        exact List.sublist_flatten_of_mem (List.mem_map.mpr ⟨x, List.mem_of_getElem? hi, rfl⟩)
      cases a with
      | sc s => simp [A.kids] at hi
      | tup xs => exact s1
      | nd k n hd xs =>
        cases k with
        | fz => exact s1
        | ow => exact s1.trans (List.sublist_cons_self _ _)
        | lk => exact s1.trans (List.sublist_cons_self _ _)
    · refine sim_okE g nd lt (.pth r (p ++ [i])) ho rfl ?_ trivial (List.nil_sublist _)
      show (atA as ag r (p ++ [i])).map A.pv = _
      unfold atA at hat ⊢
      obtain ⟨b, hb, hx⟩ := Option.bind_eq_some_iff.mp hat
      rw [hb, Option.bind_some, get_app, hx, Option.bind_some, hi]; rfl
def gIx : G2 := fun x y ls gh => match y with
  | .v (.sc (.int i)) => (match x with
    | .v (.sc (.str s)) => if s.length ≤ lim then (match L2.atI s i with
      | some c => .ok (.v (.str [c])) ls gh
      | none => .bad) else .bad
    | x => (match seqV x ls gh with
      | some (_, xs) => (match L2.ixN xs.length i with
        | some j => (match xs[j]? with
          | some d => .ok (childR x j d) ls gh
          | none => .bad)
        | none => .bad)
      | none => .bad))
  | _ => .bad
theorem sim_gIx : SimG true GL.gIx gIx := by
  intro F S as ag c1 c2 w1 w2 g nd lt h1 h2 k1 k2
  unfold gIx
  split
  · rename_i i e2
    rw [er_vsc e2 h2]
    split
    · rename_i s e1
      rw [er_vsc e1 h1]
      by_cases hl : s.length ≤ lim
      · rw [if_pos hl]
        split
        · rename_i c hc
          exact sim_sc g nd lt (.str [c]) (fun _ => by simp only [GL.gIx, Sc.pv, if_pos hl, hc])
        · trivial
      · rw [if_neg hl]; trivial
    · split
      · rename_i k xs e1
        obtain ⟨ks, rfl, sg, ok, _, _, hc⟩ := seqV_er e1 h1 g k1
        split
        · rename_i j hj
          split
          · rename_i d hd
            rw [ers_map, List.getElem?_map] at hd
            obtain ⟨x, hx, rfl⟩ := Option.map_eq_some_iff.mp hd
            refine sim_child g nd lt (List.sublist_append_left _ _) k1 hc hx ok (fun _ => ?_)
            have hat : L2.atI (A.pvs ks) i = some x.pv := by
              unfold L2.atI
              rw [pvs_len, ← ers_len, hj, Option.bind_some, pvs_map, List.getElem?_map, hx]; rfl
            cases k with
            | tup => cases sg; simp only [GL.gIx, Sc.pv, hat]
            | lst => obtain ⟨n, rfl, hs⟩ := sg; simp only [GL.gIx, Sc.pv, seqAt_of hs, hat]
            | rol => obtain ⟨n, rfl, hs⟩ := sg; simp only [GL.gIx, Sc.pv, seqAt_of' hs, hat]
          · trivial
        · trivial
      · trivial
  · trivial
abbrev PO := PX (Option Int)
def oNo : PO := fun ls gh => .ok none ls gh
def oYes (m : PE) : PO := fun ls gh => (m ls gh).bind fun x ls gh => match x with
  | .v (.sc (.int i)) => .ok (some i) ls gh
  | _ => .bad
def gSl (x : RV) (lo hi : Option Int) : PE := fun ls gh => match x with
  | .v (.tup xs) => .ok (.v (.tup (GL.cutP xs lo hi))) ls gh
  | .v (.sc (.str s)) => if s.length ≤ lim then .ok (.v (.str (GL.cutP s lo hi))) ls gh else .bad
  | x => match seqV x ls gh with
    | some (.tup, _) => .bad
    | some (_, xs) => (match shrK x xs with
      | some ys => .ok (.v (.nd .ow .lst (GL.cutP ys lo hi))) ls gh
      | none => .bad)
    | none => .bad
def eSl (o : PE) (lo hi : PO) : PE := fun ls gh => (o ls gh).bind fun x ls gh => (lo ls gh).bind fun l ls gh => (hi ls gh).bind fun h ls gh => gSl x l h ls gh
theorem cut_map {α β : Type} (f : α → β) (xs : List α) (lo hi : Option Int) : (GL.cutP xs lo hi).map f = GL.cutP (xs.map f) lo hi := by
  unfold GL.cutP
  rw [List.map_take, List.map_drop, List.length_map]
theorem cut_sub {α : Type} (xs : List α) (lo hi : Option Int) {x : α} (h : x ∈ GL.cutP xs lo hi) : x ∈ xs := by
  unfold GL.cutP at h
  exact List.mem_of_mem_drop (List.mem_of_mem_take h)
theorem cut_oks {xs : List A} {lo hi : Option Int} (h : A.oks F S xs) : A.oks F S (GL.cutP xs lo hi) := by
  rw [oks_iff] at *
  exact fun x hx => h x (cut_sub xs lo hi hx)
theorem cut_fps {xs : List A} {lo hi : Option Int} (h : A.fps xs = []) : A.fps (GL.cutP xs lo hi) = [] := by
  rw [fps_map, List.flatMap_eq_nil_iff] at *
  exact fun x hx => h x (cut_sub xs lo hi hx)
theorem sim_gSl {c : ARV} {w : PV} {lo hi : Option Int} (g : Good F S as ag) (nd : (fpS (as ++ ag) ++ c.fp).Nodup) (lt : ∀ n ∈ c.fp, n < S.length) (hp : c.pv as ag = some w) (hk : c.ok F S) :
    SimO true RE F S as ag c.fp (fun _ => GL.gSl w lo hi S) (gSl c.er lo hi (erS as) (erS ag)) := by
  unfold gSl
  split
  · rename_i xs e
    obtain ⟨a, rfl, ea, rfl⟩ := er_v e hp
    obtain ⟨ys, rfl, rfl⟩ := er_tup ea
    have p1 : A.fps ys = [] ∧ A.oks F S ys := hk
    refine sim_okE g nd lt (.v (.tup (GL.cutP ys lo hi))) (fun _ => ?_) (by simp [ARV.er, A.er, ers_map, cut_map]) rfl ⟨cut_fps p1.1, cut_oks p1.2⟩ (by show (A.fps _).Sublist _; rw [cut_fps p1.1]; exact List.nil_sublist _)
    simp only [GL.gSl, A.pv, pvs_map, cut_map]
  · rename_i s e
    rw [er_vsc e hp]
    by_cases hl : s.length ≤ lim
    · rw [if_pos hl]
      exact sim_sc g nd lt (.str _) (fun _ => by simp only [GL.gSl, Sc.pv, if_pos hl])
    · rw [if_neg hl]; trivial
  · split
    · trivial
    · rename_i k xs hne e
      obtain ⟨ks, rfl, sg, ok, fpk, _, _⟩ := seqV_er e hp g hk
      split
      · rename_i ys hy
        obtain ⟨F', zs, rfl, h2, h3, h4, ev⟩ := shrK_sim g nd lt ok fpk hy
        refine SimO.pre ev ?_
        have : GL.cutP (A.ers zs) lo hi = A.ers (GL.cutP zs lo hi) := by simp only [ers_map, cut_map]
        rw [this]
        refine sim_alloc ev.good ev.nd ev.lt .lst _ rfl (cut_oks h4) (by rw [cut_fps h3]; exact List.nil_sublist _) (fun _ => ?_)
        have hp2 : A.pvs (GL.cutP zs lo hi) = GL.cutP (A.pvs ks) lo hi := by rw [← h2]; simp only [pvs_map, cut_map]
        cases k with
        | tup => exact (hne rfl).elim
        | lst => obtain ⟨n, rfl, hs⟩ := sg; simp only [GL.gSl, seqAt_of hs, mkO, hp2]
        | rol => obtain ⟨n, rfl, hs⟩ := sg; simp only [GL.gSl, seqAt_of' hs, mkO, hp2]
      · trivial
    · trivial
abbrev SimOI (q : Bool) (m : AD → GL.MO) (p : PO) : Prop := SimX q RO m p
theorem sim_ono : SimOI true (fun _ => GL.oNo) oNo := fun F S as ag g => sim_ok (R := RO) g (good_nd g) (fun _ h => by cases h) none (fun _ => rfl) rfl rfl trivial (List.nil_sublist _)
theorem sim_oyes {q : Bool} {ma : AD → GL.ME} {pa : PE} (h : SimE q ma pa) : SimOI q (fun ad => GL.oYes (ma ad)) (oYes pa) := fun F S as ag gd =>
  SimO.weak (sim_first (R' := RO) (q' := true) (k := fun (x : RV) (ls gh : Ls) => match x with
  | .v (.sc (.int i)) => .ok (some i) ls gh
  | _ => .bad) (f := fun (ad : AD) (w : PV) (S1 : Sto) => kYes w S1) h gd (fun _ => rfl) fun F1 S1 as1 ag1 c w h1 h2 g1 n1 l1 L1 => by
    split
    · rename_i b e
      rw [er_vsc e h1]
      exact sim_ok (R := RO) g1 n1 l1 (some b) (fun _ => rfl) rfl rfl trivial (List.nil_sublist _)
    · trivial) (by simp)
theorem sim_sl {qa : Bool} {ma : AD → GL.ME} {pa : PE} {ml mh : AD → GL.MO} {pl ph : PO} (ha : SimE qa ma pa) (hl : SimOI true ml pl) (hh : SimOI true mh ph) : SimE qa (fun ad => GL.eSl (ma ad) (ml ad) (mh ad)) (eSl pa pl ph) := fun F S as ag gd =>
  SimO.weak (sim_first (R' := RE) (q' := true && (true && true)) (k := fun x ls gh => (pl ls gh).bind fun l ls gh => (ph ls gh).bind fun h ls gh => gSl x l h ls gh) (f := fun ad w S1 => (ml ad (glS as ag ad as) S1).bind fun l S2 => (mh ad (glS as ag ad as) S2).bind fun h S3 => GL.gSl w l h S3) ha gd (fun _ => rfl) fun F1 S1 as1 ag1 c1 w1 h1 h2 g1 n1 l1 L1 =>
    sim_next (R0 := RE) (R := RO) (R' := RE) (k := fun l ls gh => (ph ls gh).bind fun h ls gh => gSl (RE.er c1) l h ls gh) (f := fun ad l S2 => (mh ad (glS as ag ad as) S2).bind fun h S3 => GL.gSl w1 l h S3) hl g1 c1 h1 h2 n1 l1 (stab_re true c1 (.inl rfl)) L1 fun F2 S2 as2 ag2 l l' h1 h2 h3 _ g2 n2 l2 L2 => by
      cases h3
      have e0 : RE.fp c1 ++ RO.fp l = RE.fp c1 := List.append_nil _
      rw [e0] at n2 l2 ⊢
      exact sim_next (R0 := RE) (R := RO) (R' := RE) (k := fun h ls gh => gSl (RE.er c1) l h ls gh) (f := fun ad h S3 => GL.gSl w1 l h S3) hh g2 c1 h1 h2 n2 l2 (stab_re true c1 (.inl rfl)) L2 fun F3 S3 as3 ag3 h h' h1 h2 h3 _ g3 n3 l3 L3 => by
        cases h3
        have e1 : RE.fp c1 ++ RO.fp h = RE.fp c1 := List.append_nil _
        rw [e1] at n3 l3 ⊢
        exact sim_gSl g3 n3 l3 h1 h2) (by simp)
end VL
set_option Elab.async false
set_option linter.all false
set_option maxRecDepth 100000
set_option maxHeartbeats 1000000
namespace VL
open GL (PV OB Sto Nm BT lim)
open PySem (PyData Builtin)
variable {F F' : FM} {S S' : Sto} {as as' ag ag' : List AV}
def eB (g : List RV → PE) (args : PA) : PE := fun ls gh => (args ls gh).bind fun xs ls gh => g xs ls gh
def SimB (q : Bool) (gg : GL.MF) (g : List RV → PE) : Prop := ∀ (F : FM) (S : Sto) (as ag : List AV) (cs : List ARV) (ws : List PV), Good F S as ag → (fpS (as ++ ag) ++ RA.fp cs).Nodup → (∀ n ∈ RA.fp cs, n < S.length) → RA.pv as ag cs = some ws → RA.ok F S cs →
  SimO q RE F S as ag (RA.fp cs) (fun _ => gg ws S) (g (cs.map ARV.er) (erS as) (erS ag))
theorem sim_b {qa q : Bool} {mr : AD → GL.MA} {pr : PA} {gg : GL.MF} {g : List RV → PE} (h : SimA qa mr pr) (hg : SimB q gg g) : SimE (qa && q) (fun ad => GL.eB gg (mr ad)) (eB g pr) := fun F S as ag gd =>
  sim_first (R' := RE) (q' := q) (k := fun xs ls gh => g xs ls gh) (f := fun ad ws S1 => gg ws S1) h gd (fun _ => rfl) fun F1 S1 as1 ag1 cs ws h1 h2 g1 n1 l1 L1 => hg F1 S1 as1 ag1 cs ws g1 n1 l1 h1 h2
def un (f : RV → PE) : List RV → PE := fun xs => match xs with
  | [x] => f x
  | _ => fun _ _ => .bad
def bi (f : RV → RV → PE) : List RV → PE := fun xs => match xs with
  | [x, y] => f x y
  | _ => fun _ _ => .bad
theorem simB1 {q : Bool} {gg : GL.MF} {f : RV → PE} (h : SimF1 q (fun w S => gg [w] S) f) : SimB q gg (un f) := by
  intro F S as ag cs ws g nd lt hp hk
  match cs with
  | [] => trivial
  | [c] =>
    obtain ⟨w, t, hw, ht, rfl⟩ := seqO_cons hp
    cases ht
    have e : RA.fp [c] = c.fp := List.append_nil _
    rw [e] at nd lt ⊢
    exact h F S as ag c w g nd lt hw (hk c List.mem_cons_self)
  | _ :: _ :: _ => trivial
theorem simB2 {q : Bool} {gg : GL.MF} {f : RV → RV → PE} (h : SimG q (fun w v S => gg [w, v] S) f) : SimB q gg (bi f) := by
  intro F S as ag cs ws g nd lt hp hk
  match cs with
  | [] => trivial
  | [c] => trivial
  | [c, d] =>
    obtain ⟨w, t, hw, ht, rfl⟩ := seqO_cons hp
    obtain ⟨w2, t2, hw2, ht2, rfl⟩ := seqO_cons ht
    cases ht2
    have e : RA.fp [c, d] = c.fp ++ d.fp := by show c.fp ++ (d.fp ++ []) = _; rw [List.append_nil]
    rw [e] at nd lt ⊢
    exact h F S as ag c d w w2 g nd lt hw hw2 (hk c List.mem_cons_self) (hk d (List.mem_cons_of_mem _ List.mem_cons_self))
  | _ :: _ :: _ :: _ => trivial
def f1Int (x : RV) : PE := fun ls gh => match x with
  | .v (.sc (.int i)) => .ok (.v (.int i)) ls gh
  | .v (.sc (.bl k)) => .ok (.v (.int (if k then 1 else 0))) ls gh
  | _ => .bad
theorem sim_f1Int : SimF1 true (fun w S => GL.fInt [w] S) f1Int := by
  intro F S as ag c w g nd lt hp hk
  unfold f1Int
  split
  · rename_i i e; rw [er_vsc e hp]; exact sim_sc g nd lt (.int i) (fun _ => rfl)
  · rename_i i e; rw [er_vsc e hp]; exact sim_sc g nd lt (.int _) (fun _ => rfl)
  · trivial
def f1Abs (x : RV) : PE := fun ls gh => match x with
  | .v (.sc (.int i)) => .ok (.v (.int (if i < 0 then -i else i))) ls gh
  | _ => .bad
theorem sim_f1Abs : SimF1 true (fun w S => GL.fAbs [w] S) f1Abs := by
  intro F S as ag c w g nd lt hp hk
  unfold f1Abs
  split
  · rename_i i e; rw [er_vsc e hp]; exact sim_sc g nd lt (.int _) (fun _ => rfl)
  · trivial
def f1Len (x : RV) : PE := fun ls gh => match x with
  | .v (.sc (.str s)) => if s.length ≤ lim then .ok (.v (.int s.length)) ls gh else .bad
  | x => match seqV x ls gh with
    | some (_, xs) => .ok (.v (.int xs.length)) ls gh
    | none => .bad
theorem sim_f1Len : SimF1 true (fun w S => GL.fLen [w] S) f1Len := by
  intro F S as ag c w g nd lt hp hk
  unfold f1Len
  split
  · rename_i s e
    rw [er_vsc e hp]
    by_cases hl : s.length ≤ lim
    · rw [if_pos hl]; exact sim_sc g nd lt (.int _) (fun _ => by simp only [GL.fLen, Sc.pv, if_pos hl])
    · rw [if_neg hl]; trivial
  · split
    · rename_i k xs e
      obtain ⟨ks, rfl, sg, ok, _, _, _⟩ := seqV_er e hp g hk
      rw [ers_len]
      refine sim_sc g nd lt (.int _) (fun _ => ?_)
      cases k with
      | tup => cases sg; simp only [GL.fLen, Sc.pv, pvs_len]
      | lst => obtain ⟨n, rfl, hs⟩ := sg; simp only [GL.fLen, Sc.pv, seqAt_of hs, pvs_len]
      | rol => obtain ⟨n, rfl, hs⟩ := sg; simp only [GL.fLen, Sc.pv, seqAt_of' hs, pvs_len]
    · trivial
def f1List (x : RV) : PE := fun ls gh => match seqV x ls gh with
  | some (_, xs) => (match shrK x xs with
    | some ys => .ok (.v (.nd .ow .lst ys)) ls gh
    | none => .bad)
  | none => .bad
theorem sim_f1List : SimF1 true (fun w S => GL.fList [w] S) f1List := by
  intro F S as ag c w g nd lt hp hk
  unfold f1List
  split
  · rename_i k xs e
    obtain ⟨ks, rfl, sg, ok, fpk, _, _⟩ := seqV_er e hp g hk
    split
    · rename_i ys hy
      obtain ⟨F', zs, rfl, h2, h3, h4, ev⟩ := shrK_sim g nd lt ok fpk hy
      refine SimO.pre ev (sim_alloc ev.good ev.nd ev.lt .lst zs rfl h4 (by rw [h3]; exact List.nil_sublist _) (fun _ => ?_))
      rw [h2]
      cases k with
      | tup => cases sg; rfl
      | lst => obtain ⟨n, rfl, hs⟩ := sg; simp only [GL.fList, seqAt_of hs, mkO]
      | rol => obtain ⟨n, rfl, hs⟩ := sg; simp only [GL.fList, seqAt_of' hs, mkO]
    · trivial
  · trivial
def f1Tuple (x : RV) : PE := fun ls gh => match seqV x ls gh with
  | some (_, xs) => (match shrK x xs with
    | some ys => .ok (.v (.tup ys)) ls gh
    | none => .bad)
  | none => .bad
theorem sim_f1Tuple : SimF1 true (fun w S => GL.fTuple [w] S) f1Tuple := by
  intro F S as ag c w g nd lt hp hk
  unfold f1Tuple
  split
  · rename_i k xs e
    obtain ⟨ks, rfl, sg, ok, fpk, _, _⟩ := seqV_er e hp g hk
    split
    · rename_i ys hy
      obtain ⟨F', zs, rfl, h2, h3, h4, ev⟩ := shrK_sim g nd lt ok fpk hy
      refine SimO.pre ev (sim_okE ev.good ev.nd ev.lt (.v (.tup zs)) (w := .tup (A.pvs zs)) (fun _ => ?_) rfl rfl ⟨h3, h4⟩ (by show (A.fps zs).Sublist _; rw [h3]; exact List.Sublist.refl _))
      rw [h2]
      cases k with
      | tup => cases sg; rfl
      | lst => obtain ⟨n, rfl, hs⟩ := sg; simp only [GL.fTuple, seqAt_of hs]
      | rol => obtain ⟨n, rfl, hs⟩ := sg; simp only [GL.fTuple, seqAt_of' hs]
    · trivial
  · trivial
def tyD : D → Option BT
  | .sc .non => some .none
  | .sc (.bl _) => some .bool
  | .sc (.int _) => some .int
  | .sc (.str _) => some .str
  | .tup _ => some .tuple
  | .nd _ .lst _ => some .list
  | .nd _ .rol _ => some .list
  | .nd _ (.dct _) _ => some .dict
  | _ => none
theorem ty_er (fs : FS F S) {a : A} (h : a.ok F S) : GL.tyP S a.pv = tyD a.er := by
  cases a with
  | sc s => cases s <;> rfl
  | tup xs => rfl
  | nd k n hd xs =>
    have ob := obj_of fs h
    show (match S[n]? with | some (.lst _) => some BT.list | some (.rol _) => some .list | some (.dct _) => some .dict | some (.fdct _) => some .dict | _ => none) = tyD (.nd k hd (A.ers xs))
    rw [ob]
    cases hd <;> rfl
def f2Isi : G2 := fun x y ls gh => match y with
  | .v (.sc (.ty b)) => if b = .none then .bad else (match (val x ls gh).bind tyD with
    | some t => .ok (.v (.bl (GL.isB t b))) ls gh
    | none => .bad)
  | _ => .bad
theorem sim_f2Isi : SimG true (fun w v S => GL.fIsi [w, v] S) f2Isi := by
  intro F S as ag c1 c2 w1 w2 g nd lt h1 h2 k1 k2
  unfold f2Isi
  split
  · rename_i b e2
    rw [er_vsc e2 h2]
    by_cases hb : b = .none
    · rw [if_pos hb]; trivial
    · rw [if_neg hb]
      split
      · rename_i t e1
        obtain ⟨d, e1, e3⟩ := Option.bind_eq_some_iff.mp e1
        obtain ⟨a, rfl, rfl, aok, _⟩ := val_er c1 e1 h1 g k1
        refine sim_sc g nd lt (.bl _) (fun _ => ?_)
        simp only [GL.fIsi, Sc.pv, if_neg hb, ty_er g.fs aok, e3]
      · trivial
  · trivial
abbrev fInt := un f1Int
abbrev fAbs := un f1Abs
abbrev fLen := un f1Len
abbrev fList := un f1List
abbrev fTuple := un f1Tuple
abbrev fIsi := bi f2Isi
theorem sim_fInt : SimB true GL.fInt fInt := simB1 sim_f1Int
theorem sim_fAbs : SimB true GL.fAbs fAbs := simB1 sim_f1Abs
theorem sim_fLen : SimB true GL.fLen fLen := simB1 sim_f1Len
theorem sim_fList : SimB true GL.fList fList := simB1 sim_f1List
theorem sim_fTuple : SimB true GL.fTuple fTuple := simB1 sim_f1Tuple
theorem sim_fIsi : SimB true GL.fIsi fIsi := simB2 sim_f2Isi
def aInts (ns : List Int) : List A := ns.map fun i => .sc (.int i)
theorem aInts_er (ns : List Int) : A.ers (aInts ns) = ns.map D.int := by rw [ers_map, aInts, List.map_map]; exact List.map_congr_left fun _ _ => by simp [A.er]
theorem aInts_pv (ns : List Int) : A.pvs (aInts ns) = ns.map .int := by rw [pvs_map, aInts, List.map_map]; exact List.map_congr_left fun _ _ => by simp [A.pv, Sc.pv]
theorem aInts_fp (ns : List Int) : A.fps (aInts ns) = [] := by
  rw [fps_map, List.flatMap_eq_nil_iff]
  intro x hx
  obtain ⟨i, _, rfl⟩ := List.mem_map.mp hx
  rfl
theorem aInts_ok (ns : List Int) : A.oks F S (aInts ns) := by
  rw [oks_iff]
  intro x hx
  obtain ⟨i, _, rfl⟩ := List.mem_map.mp hx
  trivial
end VL
set_option Elab.async false
set_option linter.all false
set_option maxRecDepth 100000
set_option maxHeartbeats 1000000
namespace VL
open GL (PV OB Sto Nm BT lim)
open PySem (PyData Builtin)
variable {F F' : FM} {S S' : Sto} {as as' ag ag' : List AV}
def idxN (f : Nm) : List Nm → Option Nat
  | [] => none
  | g :: r => if g = f then some 0 else (idxN f r).map (· + 1)
theorem lookN_zip {f : Nm} : ∀ (ns : List Nm) (ws : List PV), ns.length = ws.length → GL.lookN f (ns.zip ws) = (idxN f ns).bind fun i => ws[i]?
  | [], _, _ => rfl
  | g :: r, [], h => by cases h
  | g :: r, w :: ws, h => by
    show GL.lookN f ((g, w) :: r.zip ws) = _
    unfold GL.lookN idxN
    by_cases hg : g = f
    · rw [if_pos hg, if_pos hg]; rfl
    · rw [if_neg hg, if_neg hg, lookN_zip r ws (Nat.succ.inj h)]
      cases idxN f r <;> rfl
def idxK (k : PV) : List PV → Option Nat
  | [] => none
  | g :: r => if GL.keqP g k = true then some 0 else (idxK k r).map (· + 1)
theorem lookP_zip {k : PV} : ∀ (ns : List PV) (ws : List PV), ns.length = ws.length → GL.lookP k (ns.zip ws) = (idxK k ns).bind fun i => ws[i]?
  | [], _, _ => rfl
  | g :: r, [], h => by cases h
  | g :: r, w :: ws, h => by
    show GL.lookP k ((g, w) :: r.zip ws) = _
    unfold GL.lookP idxK
    by_cases hg : GL.keqP g k = true
    · rw [if_pos hg, if_pos hg]; rfl
    · rw [if_neg hg, if_neg hg, lookP_zip r ws (Nat.succ.inj h)]
      cases idxK k r <;> rfl
theorem wf_of {k : Fl} {n : Nat} {h : Hd} {xs : List A} (o : (A.nd k n h xs).ok F S) : h.wf xs.length = true := by
  cases k with
  | fz => simp only [A.ok] at o; exact o.2.1
  | lk => simp only [A.ok] at o; exact o.2.1
  | ow => simp only [A.ok] at o; exact o.2.1
theorem kids_of {c : ARV} {k : Fl} {n : Nat} {h : Hd} {xs : List A} (hc : c = .v (.nd k n h xs) ∨ ∃ r p, c = .pth r p ∧ atA as ag r p = some (.nd k n h xs)) : (∃ a, c = .v a ∧ a.kids = xs) ∨ ∃ r p a, c = .pth r p ∧ atA as ag r p = some a ∧ a.kids = xs := by
  rcases hc with rfl | ⟨r, p, rfl, e⟩
  · exact .inl ⟨_, rfl, rfl⟩
  · exact .inr ⟨r, p, _, rfl, e, rfl⟩
def k1Fld (tab : Nm → Nm → Bool) (f : Nm) (x : RV) : PE := fun ls gh => match val x ls gh with
  | some (.nd _ (.ins C ns) xs) => if tab C f = true then (match idxN f ns with
    | some i => (match xs[i]? with
      | some d => .ok (childR x i d) ls gh
      | none => .bad)
    | none => .bad) else .bad
  | _ => .bad
def eFld (tab : Nm → Nm → Bool) (f : Nm) (o : PE) : PE := e1 (k1Fld tab f) o
def gFld (tab : Nm → Nm → Bool) (f : Nm) (w : PV) (S1 : Sto) : GL.Out PV := match GL.insAt S1 w with
  | some (_, C, fs) => if tab C f = true then (match GL.lookN f fs with
    | some v => .ok v S1
    | none => .bad) else .bad
  | none => .bad
theorem sim_fld {q : Bool} {ma : AD → GL.ME} {pa : PE} {tab : Nm → Nm → Bool} {f : Nm} (h : SimE q ma pa) : SimE q (fun ad => GL.eFld tab f (ma ad)) (eFld tab f pa) := fun F S as ag gd =>
  SimO.weak (sim_e1 (qf := true) (ff := gFld tab f) h (by
    intro F S as ag c w g nd lt hp hk
    unfold k1Fld
    split
    · rename_i k C ns xs e
      obtain ⟨a, ea, rfl, aok, hc⟩ := val_er c e hp g hk
      obtain ⟨n, ys, rfl, rfl⟩ := er_nd ea
      by_cases ht : tab C f = true
      · rw [if_pos ht]
        split
        · rename_i i hi
          split
          · rename_i d hd
            rw [ers_map, List.getElem?_map] at hd
            obtain ⟨x, hx, rfl⟩ := Option.map_eq_some_iff.mp hd
            refine sim_child g nd lt (List.Sublist.refl _) hk (kids_of hc) hx (ok_kids aok) (fun _ => ?_)
            have ob := obj_of g.fs aok
            have hw : ns.length = ys.length := by simpa [Hd.wf] using wf_of aok
            have hl := lookN_zip (f := f) ns (A.pvs ys) (by rw [pvs_len]; exact hw)
            rw [hi, Option.bind_some, pvs_map, List.getElem?_map, hx] at hl
            simp only [gFld, A.pv, GL.insAt, ob, mkO, if_pos ht]
            rw [pvs_map, hl]; rfl
          · trivial
        · trivial
      · rw [if_neg ht]; trivial
    · trivial) F S as ag gd) (by simp)
def keyD : RV → Option PV
  | .v (.sc (.int i)) => some (.int i)
  | .v (.sc (.str s)) => some (.str s)
  | _ => none
theorem keyD_er {c : ARV} {k : PV} (h : keyD c.er = some k) {w : PV} (hp : c.pv as ag = some w) : w = k ∧ GL.isKeyP k = true := by
  unfold keyD at h
  split at h
  · rename_i i e; cases h; rw [er_vsc e hp]; exact ⟨rfl, rfl⟩
  · rename_i i e; cases h; rw [er_vsc e hp]; exact ⟨rfl, rfl⟩
  · cases h
def gDGet : G2 := fun x y ls gh => match val x ls gh, keyD y with
  | some (.nd _ (.dct ks) xs), some k => (match idxK k ks with
    | some i => (match xs[i]? with
      | some d => .ok (childR x i d) ls gh
      | none => .bad)
    | none => .bad)
  | _, _ => .bad
def GDGet (w y : PV) (S2 : Sto) : GL.Out PV := match w with
  | .loc n => (match GL.rdctAt S2 n with
    | some kvs => if GL.isKeyP y = true then (match GL.lookP y kvs with
      | some v => .ok v S2
      | none => .bad) else .bad
    | none => .bad)
  | _ => .bad
theorem rdct_of {n : Nat} {kvs : List (PV × PV)} (h : S[n]? = some (.dct kvs)) : GL.rdctAt S n = some kvs := by unfold GL.rdctAt; rw [h]
theorem sim_gDGet : SimG true GDGet gDGet := by
  intro F S as ag c1 c2 w1 w2 g nd lt h1 h2 k1 k2
  unfold gDGet
  split
  · rename_i fl ks xs k e1 e2
    obtain ⟨a, ea, rfl, aok, hc⟩ := val_er c1 e1 h1 g k1
    obtain ⟨n, ys, rfl, rfl⟩ := er_nd ea
    obtain ⟨rfl, hkey⟩ := keyD_er e2 h2
    split
    · rename_i i hi
      split
      · rename_i d hd
        rw [ers_map, List.getElem?_map] at hd
        obtain ⟨x, hx, rfl⟩ := Option.map_eq_some_iff.mp hd
        refine sim_child g nd lt (List.sublist_append_left _ _) k1 (kids_of hc) hx (ok_kids aok) (fun _ => ?_)
        have ob := obj_of g.fs aok
        have hw : ks.length = ys.length := by simpa [Hd.wf] using wf_of aok
        have hl := lookP_zip (k := w2) ks (A.pvs ys) (by rw [pvs_len]; exact hw)
        rw [hi, Option.bind_some, pvs_map, List.getElem?_map, hx] at hl
        simp only [GDGet, A.pv, rdct_of ob, if_pos hkey]
        rw [pvs_map, hl]; rfl
      · trivial
    · trivial
  · trivial
def eDGet (d k : PE) : PE := eOp gDGet d k
theorem sim_dget {qa : Bool} {ma mb : AD → GL.ME} {pa pb : PE} (ha : SimE qa ma pa) (hb : SimE true mb pb) : SimE qa (fun ad => GL.eDGet (ma ad) (mb ad)) (eDGet pa pb) := sim_op (gg := GDGet) ha hb sim_gDGet
def gDIn (neg : Bool) : G2 := fun y x ls gh => match val x ls gh, keyD y with
  | some (.nd _ (.dct ks) _), some k => .ok (.v (.bl (if neg then !(idxK k ks).isSome else (idxK k ks).isSome))) ls gh
  | _, _ => .bad
def GDIn (neg : Bool) (y w : PV) (S2 : Sto) : GL.Out PV := match w with
  | .loc n => (match GL.rdctAt S2 n with
    | some kvs => if GL.isKeyP y = true then .ok (.bl (if neg then !(GL.lookP y kvs).isSome else (GL.lookP y kvs).isSome)) S2 else .bad
    | none => .bad)
  | _ => .bad
theorem idxK_lt {k : PV} : ∀ {ks : List PV} {i : Nat}, idxK k ks = some i → i < ks.length
  | [], i, h => by cases h
  | g :: r, i, h => by
    unfold idxK at h
    split at h
    · cases h; simp
    · obtain ⟨j, hj, rfl⟩ := Option.map_eq_some_iff.mp h
      have := idxK_lt hj
      simp only [List.length_cons]; omega
theorem sim_gDIn (neg : Bool) : SimG true (GDIn neg) (gDIn neg) := by
  intro F S as ag c1 c2 w1 w2 g nd lt h1 h2 k1 k2
  unfold gDIn
  split
  · rename_i fl ks xs k e1 e2
    obtain ⟨a, ea, rfl, aok, hc⟩ := val_er c2 e1 h2 g k2
    obtain ⟨n, ys, rfl, rfl⟩ := er_nd ea
    obtain ⟨rfl, hkey⟩ := keyD_er e2 h1
    refine sim_sc g nd lt (.bl _) (fun _ => ?_)
    have ob := obj_of g.fs aok
    have hw : ks.length = ys.length := by simpa [Hd.wf] using wf_of aok
    have hl := lookP_zip (k := w1) ks (A.pvs ys) (by rw [pvs_len]; exact hw)
    have hs : (GL.lookP w1 (ks.zip (A.pvs ys))).isSome = (idxK w1 ks).isSome := by
      rw [hl]
      cases hi : idxK w1 ks with
      | none => rfl
      | some i =>
        have := idxK_lt hi
        rw [Option.bind_some, List.getElem?_eq_getElem (by rw [pvs_len]; omega)]; rfl
    simp only [GDIn, A.pv, rdct_of ob, if_pos hkey, hs, Sc.pv]
  · trivial
def eDIn (neg : Bool) (k d : PE) : PE := eOp (gDIn neg) k d
theorem sim_din {neg : Bool} {qa : Bool} {ma mb : AD → GL.ME} {pa pb : PE} (ha : SimE qa ma pa) (hb : SimE true mb pb) : SimE qa (fun ad => GL.eDIn neg (ma ad) (mb ad)) (eDIn neg pa pb) := sim_op (gg := GDIn neg) ha hb (sim_gDIn neg)
theorem node_write {q : Bool} {x0 x1 : List Nat} {t : List Nat → Bool} {r : Rt} {p : List Nat} {n : Nat} {h h' : Hd} {ks ks' : List A} (hq : q = true → ∀ s, t s = true) (g : Good F S as ag) (nd : (fpS (as ++ ag) ++ x0).Nodup) (lt : ∀ m ∈ x0, m < S.length)
    (hat : atA as ag r p = some (.nd .ow n h ks)) (hw : h'.wf ks'.length = true) (ok' : A.oks F S ks') (hn : (A.fps ks' ++ x1).Nodup) (new : ∀ m ∈ A.fps ks' ++ x1, m ∈ A.fps ks ++ x0) (keepk : ∀ i s k, t (i :: s) = true → ks[i]? = some k → ks'[i]? = some k) :
    Ev q F S as ag x0 F (S.set n (mkO h' (A.pvs ks'))) (chA t r p (.nd .ow n h' ks') as ag).1 (chA t r p (.nd .ow n h' ks') as ag).2 x1 := by
  obtain ⟨root, hr, hx⟩ := at_split hat
  have aok := at_ok g hat
  have aok' := aok
  simp only [A.ok] at aok'
  have ln : n < S.length := (List.getElem?_eq_some_iff.mp aok'.1.2).1
  obtain ⟨_, L, R, e1, _, _⟩ := focus p root _ (root_ok g hr) hx rfl
  have sub1 : ((A.nd .ow n h ks).fp ++ x0).Sublist (fpS (as ++ ag) ++ x0) := by
    obtain ⟨L2, R2, f1, _⟩ := ch_fp (t := t) (p := p) (y := A.nd .ow n h ks) hr
    rw [f1, e1]
    refine List.Sublist.append_right ?_ _
    have s1 : ((A.nd .ow n h ks).fp).Sublist (L ++ (A.nd .ow n h ks).fp ++ R) := (List.sublist_append_right L _).trans (List.sublist_append_left _ _)
    exact s1.trans ((List.sublist_append_right L2 _).trans (List.sublist_append_left _ _))
  have nd1 : (n :: (A.fps ks ++ x0)).Nodup := by
    have := nd.sublist sub1
    simpa [A.fp] using this
  have nn := (List.nodup_cons.mp nd1).1
  have ne : ∀ m ∈ A.fps ks' ++ x1, m ≠ n := fun m hm e => nn (e ▸ new m hm)
  have gr : ∀ m, m ≠ n → (S.set n (mkO h' (A.pvs ks')))[m]? = S[m]? := fun m hm => List.getElem?_set_ne (fun e => hm e.symm)
  have fs : FS F (S.set n (mkO h' (A.pvs ks'))) := fun m b o e => by
    rw [gr m (fun h => by subst h; rw [aok'.1.1] at e; cases e)]
    exact g.fs m b o e
  have okn : A.oks F (S.set n (mkO h' (A.pvs ks'))) ks' := by
    rw [oks_iff] at ok' ⊢
    exact fun x hx => ok_frame Mono.refl (fun m hm => ⟨rfl, gr m (ne m (List.mem_append_left _ (by rw [fps_map]; exact List.mem_flatMap.mpr ⟨x, hx, hm⟩)))⟩) (ok' x hx)
  refine ev_ch hq g nd hr hx rfl rfl ?_ Mono.refl fs (by simp) ?_ ?_ ?_ ?_ ?_
  · intro s w hs hw
    cases s with
    | nil => exact hw
    | cons i s =>
      unfold getA at hw ⊢
      simp only [A.kids] at hw ⊢
      cases hk : ks[i]? with
      | none => rw [hk] at hw; cases hw
      | some k =>
        rw [keepk i s k hs hk]
        rw [hk] at hw
        exact hw
  · intro m hm hx'
    refine ⟨rfl, gr m fun e => hx' ?_⟩
    rw [e]
    exact List.mem_append_left _ (by simp [A.fp])
  · simp only [A.ok]
    exact ⟨⟨aok'.1.1, by rw [List.getElem?_set_self ln]⟩, hw, okn⟩
  · show (n :: A.fps ks' ++ x1).Nodup
    exact List.nodup_cons.mpr ⟨fun h => ne n h rfl, hn⟩
  · intro m hm
    rcases List.mem_cons.mp (show m ∈ n :: (A.fps ks' ++ x1) from hm) with rfl | h
    · exact .inl (by simp [A.fp])
    · have := new m h
      left
      simp only [A.fp, List.mem_append, List.mem_cons] at this ⊢
      rcases this with u | u <;> simp [u]
  · intro m hm
    rw [List.length_set]
    have := new m (List.mem_append_right _ hm)
    rcases List.mem_append.mp this with u | u
    · rw [fps_map] at u
      obtain ⟨x, hx, u⟩ := List.mem_flatMap.mp u
      exact fp_lt g.fs ((oks_iff ks).mp aok'.2.2 x hx) m u
    · exact lt m u
def eMt (chk : D → Bool) (m : RV → List RV → PE) (o : PE) (args : PA) : PE := fun ls gh => (o ls gh).bind fun x ls gh => match val x ls gh with
  | some d => if chk d = true then (args ls gh).bind fun ys ls gh => m x ys ls gh else .bad
  | none => .bad
def kList : D → Bool
  | .nd _ .lst _ => true
  | .nd _ .rol _ => true
  | _ => false
def SimK (cg : PV → Sto → Bool) (ck : D → Bool) : Prop := ∀ (F : FM) (S : Sto) (a : A), FS F S → a.ok F S → ck a.er = true → cg a.pv S = true
theorem sim_kList : SimK GL.kList kList := by
  intro F S a fs ok h
  cases a with
  | sc s => cases h
  | tup xs => cases h
  | nd k n hd xs =>
    have ob := obj_of fs ok
    cases hd with
    | lst => show (GL.seqAt S n).isSome = true; rw [seqAt_of ob]; rfl
    | rol => show (GL.seqAt S n).isSome = true; rw [seqAt_of' ob]; rfl
    | dct ks => cases h
    | ins C ns => cases h
def SimM (q : Bool) (gg : PV → GL.MF) (m : RV → List RV → PE) : Prop := ∀ (F : FM) (S : Sto) (as ag : List AV) (c : ARV) (cs : List ARV) (w : PV) (ws : List PV), Good F S as ag → (fpS (as ++ ag) ++ (c.fp ++ RA.fp cs)).Nodup → (∀ n ∈ c.fp ++ RA.fp cs, n < S.length) → c.pv as ag = some w → RA.pv as ag cs = some ws → c.ok F S → RA.ok F S cs →
  SimO q RE F S as ag (c.fp ++ RA.fp cs) (fun _ => gg w ws S) (m c.er (cs.map ARV.er) (erS as) (erS ag))
def kMt (ad : AD) (cg : PV → Sto → Bool) (gg : PV → GL.MF) (mr : AD → GL.MA) (L : GL.Ls) (w : PV) (S1 : Sto) : GL.Out PV := if cg w S1 = true then (mr ad L S1).bind fun ws S2 => gg w ws S2 else .bad
section
variable {qa qb qm : Bool} {ma : AD → GL.ME} {pa : PE} {mr : AD → GL.MA} {pr : PA} {cg : PV → Sto → Bool} {ck : D → Bool} {gg : PV → GL.MF} {m : RV → List RV → PE}
theorem sim_mt (hk : SimK cg ck) (hm : SimM qm gg m) (ha : SimE qa ma pa) (hr : SimA true mr pr) : SimE (qa && qm) (fun ad => GL.eMt cg gg (ma ad) (mr ad)) (eMt ck m pa pr) := fun F S as ag gd =>
  SimO.weak (sim_first (R' := RE) (q' := true && qm) (k := fun (x : RV) (ls gh : Ls) => match val x ls gh with
  | some d => if ck d = true then (pr ls gh).bind fun ys ls gh => m x ys ls gh else .bad
  | none => .bad) (f := fun ad w S1 => kMt ad cg gg mr (glS as ag ad as) w S1) ha gd (fun _ => rfl) fun F1 S1 as1 ag1 c w h1 h2 g1 n1 l1 L1 => by
    split
    · rename_i d e
      obtain ⟨a, rfl, rfl, aok, hc⟩ := val_er c e h1 g1 h2
      by_cases hck : ck a.er = true
      · rw [if_pos hck]
        have hcg := hk F1 S1 a g1.fs aok hck
        simp only [kMt, if_pos hcg]
        exact sim_next (R0 := RE) (R := RA) (R' := RE) (k := fun ys ls gh => m c.er ys ls gh) (f := fun ad ws S2 => gg a.pv ws S2) hr g1 c h1 h2 n1 l1 (stab_re true c (.inl rfl)) L1 fun F2 S2 as2 ag2 cs ws h1 h2 h3 h4 g2 n2 l2 L2 => hm F2 S2 as2 ag2 c cs a.pv ws g2 n2 l2 h1 h3 h2 h4
      · rw [if_neg hck]; trivial
    · trivial) (by simp)
end
def allT : List Nat → Bool := fun _ => true
def wrote (t : List Nat → Bool) (r : Rt) (p : List Nat) (y : D) (ls gh : Ls) : Out RV := let z := chD t r p y ls gh; .ok (.v .non) z.1 z.2
def mAppend (x : RV) (ys : List RV) : PE := fun ls gh => match x, ys with
  | .pth r p, [y] => (match cvR true y ls gh with
    | some (d, ls, gh) => (match atD ls gh r p with
      | some (.nd .ow .lst xs) => if xs.length < lim then wrote allT r p (.nd .ow .lst (xs ++ [d])) ls gh else .bad
      | _ => .bad)
    | none => .bad)
  | _, _ => .bad
theorem sim_wrote {q : Bool} {x0 : List Nat} {t : List Nat → Bool} {r : Rt} {p : List Nat} {y : A} {d : D} (hd : y.er = d) {o : AD → GL.Out PV} (ho : ∀ ad, o ad = .ok .non S') (ev : Ev q F S as ag x0 F' S' (chA t r p y as ag).1 (chA t r p y as ag).2 []) :
    SimO q RE F S as ag x0 o (wrote t r p d (erS as) (erS ag)) := by
  subst hd
  have e := ch_er t r p y as ag
  unfold wrote
  rw [← e]
  exact ⟨F', S', _, _, .v (.sc .non), .non, rfl, rfl, rfl, ho, rfl, trivial, ev⟩
theorem at_er' {r : Rt} {p : List Nat} {d : D} (h : atD (erS as) (erS ag) r p = some d) : ∃ a, atA as ag r p = some a ∧ a.er = d := by
  rw [at_er] at h
  exact Option.map_eq_some_iff.mp h
theorem sim_mAppend : SimM false GL.mAppend mAppend := by
  intro F S as ag c cs w ws g nd lt h1 h2 k1 k2
  unfold mAppend
  cases c with
  | v a => trivial
  | pth r p =>
    match cs with
    | [] => trivial
    | _ :: _ :: _ => trivial
    | [c2] =>
      obtain ⟨w2, t, hw, ht, rfl⟩ := seqO_cons h2
      cases ht
      have e0 : (ARV.pth r p).fp ++ RA.fp [c2] = c2.fp := List.append_nil _
      rw [e0] at nd lt ⊢
      show SimO _ _ _ _ _ _ _ _ (match cvR true c2.er (erS as) (erS ag) with
        | some (d, ls, gh) => (match atD ls gh r p with
          | some (.nd .ow .lst xs) => if xs.length < lim then wrote allT r p (.nd .ow .lst (xs ++ [d])) ls gh else .bad
          | _ => .bad)
        | none => .bad)
      cases hc : cvR true c2.er (erS as) (erS ag) with
      | none => trivial
      | some z =>
        obtain ⟨d, l1, g1⟩ := z
        obtain ⟨F1, as1, ag1, a, rfl, rfl, rfl, rfl, aok, _, ev⟩ := cv_sim0 g nd lt hw (k2 c2 List.mem_cons_self) hc
        dsimp only
        split
        · rename_i xs hx
          obtain ⟨b, hb, eb⟩ := at_er' hx
          obtain ⟨n, ys, rfl, rfl⟩ := er_nd eb
          have hpv := ev.per rfl r p w h1
          rw [hb] at hpv
          cases hpv
          have bok := at_ok ev.good hb
          have bok' := bok
          simp only [A.ok] at bok'
          by_cases hl : (A.ers ys).length < lim
          · rw [if_pos hl]
            refine SimO.preF (ev.weak (fun h => by cases h)) (q := false) ?_
            refine sim_wrote (y := .nd .ow n .lst (ys ++ [a])) (S' := S.set n (mkO .lst (A.pvs (ys ++ [a])))) (F' := F1) (by simp [A.er, ers_app, A.ers]) (fun _ => ?_) ?_
            · simp only [GL.mAppend, A.pv, lstAt_of (show S[n]? = some (.lst (A.pvs ys)) from bok'.1.2)]
              rw [if_pos (by rw [pvs_len, ← ers_len]; exact hl), pvs_app]; rfl
            · refine node_write (fun h => by cases h) ev.good ev.nd ev.lt hb rfl (oks_app bok'.2.2 ⟨aok, trivial⟩) ?_ ?_ ?_
              · rw [List.append_nil, fps_app]
                have hsub : (A.fps ys ++ A.fps [a]).Sublist (fpS (as1 ++ ag1) ++ a.fp) := by
                  obtain ⟨root, hr, hx⟩ := at_split hb
                  obtain ⟨_, L, R, e1, _, _⟩ := focus p root _ (root_ok ev.good hr) hx rfl
                  obtain ⟨L2, R2, f1, _⟩ := ch_fp (t := allT) (p := p) (y := a) hr
                  rw [f1, e1]
                  refine List.Sublist.append ?_ (by simp [A.fps])
                  have s0 : (A.fps ys).Sublist ((A.nd .ow n .lst ys).fp) := List.sublist_cons_self _ _
                  exact s0.trans (((List.sublist_append_right L _).trans (List.sublist_append_left _ R)).trans ((List.sublist_append_right L2 _).trans (List.sublist_append_left _ _)))
                exact ev.nd.sublist hsub
              · intro m hm
                rw [List.append_nil, fps_app] at hm
                simpa [A.fps] using hm
              · intro i s k _ hk
                rw [List.getElem?_append_left (List.getElem?_eq_some_iff.mp hk).1]; exact hk
          · rw [if_neg hl]; trivial
        · trivial
end VL
set_option Elab.async false
set_option linter.all false
set_option maxRecDepth 100000
set_option maxHeartbeats 1000000
namespace VL
open GL (PV OB Sto Nm BT lim)
open PySem (PyData Builtin)
variable {F F' : FM} {S S' : Sto} {as as' ag ag' : List AV}
theorem sub_node (g : Good F S as ag) {r : Rt} {p : List Nat} {x : A} (h : atA as ag r p = some x) (hs : x.shr = false) : (x.fp).Sublist (fpS (as ++ ag)) := by
  obtain ⟨root, hr, hx⟩ := at_split h
  obtain ⟨_, L, R, e1, _, _⟩ := focus p root _ (root_ok g hr) hx hs
  obtain ⟨L2, R2, f1, _⟩ := ch_fp (t := allT) (p := p) (y := x) hr
  rw [f1, e1]
  exact ((List.sublist_append_right L _).trans (List.sublist_append_left _ R)).trans ((List.sublist_append_right L2 _).trans (List.sublist_append_left _ _))
theorem sub_kids (g : Good F S as ag) {r : Rt} {p : List Nat} {n : Nat} {h : Hd} {ks : List A} (e : atA as ag r p = some (.nd .ow n h ks)) : (A.fps ks).Sublist (fpS (as ++ ag)) :=
  (List.sublist_cons_self _ _).trans (sub_node g e rfl)
def topT : List Nat → Bool := fun s => s.isEmpty
def exT (i : Nat) : List Nat → Bool := fun s => match s with
  | [] => true
  | j :: _ => decide (j ≠ i)
def wroteV (d : D) (t : List Nat → Bool) (r : Rt) (p : List Nat) (y : D) (ls gh : Ls) : Out RV := let z := chD t r p y ls gh; .ok (.v d) z.1 z.2
def mPop (x : RV) (ys : List RV) : PE := fun ls gh => match x, ys with
  | .pth r p, [] => (match atD ls gh r p with
    | some (.nd .ow .lst xs) => (match xs[xs.length - 1]? with
      | some d => wroteV d topT r p (.nd .ow .lst xs.dropLast) ls gh
      | none => .bad)
    | _ => .bad)
  | _, _ => .bad
theorem drop_last {α : Type} : ∀ {xs : List α} {x : α}, xs[xs.length - 1]? = some x → xs = xs.dropLast ++ [x]
  | [], x, h => by simp at h
  | [a], x, h => by simp at h; subst h; rfl
  | a :: b :: r, x, h => by
    have ih := drop_last (xs := b :: r) (x := x) (by simpa using h)
    show a :: b :: r = a :: (b :: r).dropLast ++ [x]
    rw [List.cons_append, ← ih]
theorem sim_mPop : SimM false GL.mPop mPop := by
  intro F S as ag c cs w ws g nd lt h1 h2 k1 k2
  unfold mPop
  cases c with
  | v a => trivial
  | pth r p =>
    match cs with
    | _ :: _ => trivial
    | [] =>
      cases h2
      show SimO _ _ _ _ _ _ _ _ (match atD (erS as) (erS ag) r p with
    | some (.nd .ow .lst xs) => (match xs[xs.length - 1]? with
      | some d => wroteV d topT r p (.nd .ow .lst xs.dropLast) (erS as) (erS ag)
      | none => .bad)
    | _ => .bad)
      split
      · rename_i xs hx
        obtain ⟨b, hb, eb⟩ := at_er' hx
        obtain ⟨n, ys, rfl, rfl⟩ := er_nd eb
        have hpv : (atA as ag r p).map A.pv = some w := h1
        rw [hb] at hpv
        cases hpv
        have bok' := at_ok g hb
        simp only [A.ok] at bok'
        split
        · rename_i d hd
          rw [ers_len, ers_map, List.getElem?_map] at hd
          obtain ⟨z, hz, rfl⟩ := Option.map_eq_some_iff.mp hd
          have hdl := drop_last hz
          have e2 : (A.ers ys).dropLast = A.ers ys.dropLast := by rw [ers_map, ers_map, List.map_dropLast]
          have fpe : A.fps ys = A.fps ys.dropLast ++ z.fp := by
            have : A.fps (ys.dropLast ++ [z]) = A.fps ys.dropLast ++ z.fp := by rw [fps_app]; simp [A.fps]
            rw [← hdl] at this; exact this
          have e := ch_er topT r p (.nd .ow n .lst ys.dropLast) as ag
          unfold wroteV
          rw [e2, show D.nd .ow .lst (A.ers ys.dropLast) = (A.nd .ow n .lst ys.dropLast).er from by simp [A.er], ← e]
          have oks := (oks_iff ys).mp bok'.2.2
          have zok : z.ok F S := oks z (List.mem_of_getElem? hz)
          have dok : A.oks F S ys.dropLast := (oks_iff _).mpr fun x hx => oks x (List.dropLast_subset ys hx)
          have ndk : (A.fps ys.dropLast ++ z.fp).Nodup := by rw [← fpe]; exact g.nd.sublist (sub_kids g hb)
          have evw := node_write (q := false) (t := topT) (x1 := z.fp) (h' := .lst) (fun h => by cases h) g nd lt hb rfl dok ndk (fun m hm => List.mem_append_left _ (by rw [fpe]; exact hm)) (fun i s k hs _ => by cases hs)
          refine ⟨F, _, _, _, .v z, z.pv, rfl, rfl, rfl, fun _ => ?_, rfl, ?_, evw⟩
          · simp only [GL.mPop, A.pv, lstAt_of (show S[n]? = some (.lst (A.pvs ys)) from bok'.1.2)]
            rw [pvs_len, pvs_map, List.getElem?_map, hz, Option.map_some]
            simp only [mkO, pvs_map, List.map_dropLast]
          · -- the popped one holds in the new store
            show z.ok F _
            refine ok_frame Mono.refl (fun m hm => ⟨rfl, List.getElem?_set_ne fun e => ?_⟩) zok
            subst e
            have nn : (n :: A.fps ys).Nodup := by
              have := g.nd.sublist (sub_node g hb rfl)
              simpa [A.fp] using this
            exact (List.nodup_cons.mp nn).1 (by rw [fpe]; exact List.mem_append_right _ hm)
        · trivial
      · trivial
def mClear (x : RV) (ys : List RV) : PE := fun ls gh => match x, ys with
  | .pth r p, [] => (match atD ls gh r p with
    | some (.nd .ow .lst _) => wrote topT r p (.nd .ow .lst []) ls gh
    | _ => .bad)
  | _, _ => .bad
theorem sim_mClear : SimM false GL.mClear mClear := by
  intro F S as ag c cs w ws g nd lt h1 h2 k1 k2
  unfold mClear
  cases c with
  | v a => trivial
  | pth r p =>
    match cs with
    | _ :: _ => trivial
    | [] =>
      cases h2
      show SimO _ _ _ _ _ _ _ _ (match atD (erS as) (erS ag) r p with
    | some (.nd .ow .lst _) => wrote topT r p (.nd .ow .lst []) (erS as) (erS ag)
    | _ => .bad)
      split
      · rename_i xs hx
        obtain ⟨b, hb, eb⟩ := at_er' hx
        obtain ⟨n, ys, rfl, rfl⟩ := er_nd eb
        have hpv : (atA as ag r p).map A.pv = some w := h1
        rw [hb] at hpv
        cases hpv
        have bok' := at_ok g hb
        simp only [A.ok] at bok'
        refine sim_wrote (y := .nd .ow n .lst []) (S' := S.set n (mkO .lst (A.pvs []))) (F' := F) (by simp [A.er, A.ers]) (fun _ => ?_) ?_
        · simp only [GL.mClear, A.pv, lstAt_of (show S[n]? = some (.lst (A.pvs ys)) from bok'.1.2)]; rfl
        · exact node_write (fun h => by cases h) g nd lt hb rfl trivial List.nodup_nil (fun m hm => by cases hm) (fun i s k hs _ => by cases hs)
      · trivial
end VL
set_option Elab.async false
set_option linter.all false
set_option maxRecDepth 100000
set_option maxHeartbeats 1000000
namespace VL
open GL (PV OB Sto Nm BT lim)
open PySem (PyData Builtin)
variable {F F' F'' : FM} {S S' S'' : Sto} {as as' as'' ag ag' ag'' : List AV} {x0 x1 x2 : List Nat}
abbrev MS := Ls → Ls → SOut
structure Sv (F : FM) (S : Sto) (as ag : List AV) (x0 : List Nat) (F' : FM) (S' : Sto) (as' ag' : List AV) (x : List Nat) : Prop where
  good : Good F' S' as' ag'
  nd : (fpS (as' ++ ag') ++ x).Nodup
  lt : ∀ n ∈ x, n < S'.length
  mono : Mono F F'
  len : S.length ≤ S'.length
  keep : ∀ n, n < S.length → n ∉ fpS (as ++ ag) ++ x0 → F' n = F n ∧ S'[n]? = S[n]?
  new : ∀ n, n ∈ fpS (as' ++ ag') ++ x → n ∈ fpS (as ++ ag) ++ x0 ∨ S.length ≤ n
  gg : ∀ ad, glS as' ag' ad ag' = glS as ag ad ag
theorem Ev.sv {q : Bool} (e : Ev q F S as ag x0 F' S' as' ag' x1) : Sv F S as ag x0 F' S' as' ag' x1 := ⟨e.good, e.nd, e.lt, e.mono, e.len, e.keep, e.new, e.gg⟩
theorem Sv.refl (g : Good F S as ag) : Sv F S as ag [] F S as ag [] := (Ev.refl (q := true) g (good_nd g) (fun _ h => by cases h)).sv
theorem Sv.trans (a : Sv F S as ag x0 F' S' as' ag' x1) (b : Sv F' S' as' ag' x1 F'' S'' as'' ag'' x2) : Sv F S as ag x0 F'' S'' as'' ag'' x2 where
  good := b.good
  nd := b.nd
  lt := b.lt
  mono := a.mono.trans b.mono
  len := Nat.le_trans a.len b.len
  keep := fun n hn hx => by
    have h1 := a.keep n hn hx
    have h2 := b.keep n (Nat.lt_of_lt_of_le hn a.len) fun h => by
      rcases a.new n h with h | h
      · exact hx h
      · exact absurd hn (Nat.not_lt.mpr h)
    exact ⟨h2.1.trans h1.1, h2.2.trans h1.2⟩
  new := fun n hn => by
    rcases b.new n hn with h | h
    · exact a.new n h
    · exact .inr (Nat.le_trans a.len h)
  gg := fun ad => (b.gg ad).trans (a.gg ad)
def SimSO (F : FM) (S : Sto) (as ag : List AV) (x0 : List Nat) (o : AD → GL.SOut) (p : SOut) : Prop := match p with
  | .nx ls' gh' => ∃ F' S' as' ag', erS as' = ls' ∧ erS ag' = gh' ∧ (∀ ad, o ad = .nx (glS as' ag' ad as') S') ∧ Sv F S as ag x0 F' S' as' ag' []
  | .bk ls' gh' => ∃ F' S' as' ag', erS as' = ls' ∧ erS ag' = gh' ∧ (∀ ad, o ad = .bk (glS as' ag' ad as') S') ∧ Sv F S as ag x0 F' S' as' ag' []
  | .ct ls' gh' => ∃ F' S' as' ag', erS as' = ls' ∧ erS ag' = gh' ∧ (∀ ad, o ad = .ct (glS as' ag' ad as') S') ∧ Sv F S as ag x0 F' S' as' ag' []
  | .rt d gh' => ∃ F' S' ag' a, erS ag' = gh' ∧ A.er a = d ∧ (∀ ad, o ad = .rt a.pv S') ∧ a.ok F' S' ∧ Sv F S as ag x0 F' S' [] ag' a.fp
  | .exc e ls' gh' => ∃ F' S' as' ag' x, erS as' = ls' ∧ erS ag' = gh' ∧ AE.er x = e ∧ (∀ ad, o ad = .exc x.gl (glS as' ag' ad as') S') ∧ x.ok F' S' ∧ Sv F S as ag x0 F' S' as' ag' []
  | .bad => True
def SimS (m : AD → GL.MS) (p : MS) : Prop := ∀ F S as ag, Good F S as ag → SimSO F S as ag [] (fun ad => m ad (glS as ag ad as) S) (p (erS as) (erS ag))
theorem SimSO.pre {o : AD → GL.SOut} {p : SOut} (e : Sv F S as ag x0 F' S' as' ag' x1) (h : SimSO F' S' as' ag' x1 o p) : SimSO F S as ag x0 o p := by
  cases p with
  | bad => trivial
  | nx ls gh => obtain ⟨F2, S2, as2, ag2, a1, a2, a3, a4⟩ := h; exact ⟨F2, S2, as2, ag2, a1, a2, a3, e.trans a4⟩
  | bk ls gh => obtain ⟨F2, S2, as2, ag2, a1, a2, a3, a4⟩ := h; exact ⟨F2, S2, as2, ag2, a1, a2, a3, e.trans a4⟩
  | ct ls gh => obtain ⟨F2, S2, as2, ag2, a1, a2, a3, a4⟩ := h; exact ⟨F2, S2, as2, ag2, a1, a2, a3, e.trans a4⟩
  | rt d gh => obtain ⟨F2, S2, ag2, a, a1, a2, a3, a4, a5⟩ := h; exact ⟨F2, S2, ag2, a, a1, a2, a3, a4, e.trans a5⟩
  | exc e' ls gh => obtain ⟨F2, S2, as2, ag2, x, a1, a2, a3, a4, a5, a6⟩ := h; exact ⟨F2, S2, as2, ag2, x, a1, a2, a3, a4, a5, e.trans a6⟩
theorem SimSO.cg {o o' : AD → GL.SOut} {p : SOut} (h : SimSO F S as ag x0 o p) (e : ∀ ad, o' ad = o ad) : SimSO F S as ag x0 o' p := by
  have : o' = o := funext e
  rw [this]; exact h
theorem sims_at {m : AD → GL.MS} {p : MS} {L : AD → GL.Ls} (h : SimS m p) (g : Good F S as ag) (hL : ∀ ad, L ad = glS as ag ad as) : SimSO F S as ag [] (fun ad => m ad (L ad) S) (p (erS as) (erS ag)) := by
  have := h F S as ag g
  simpa only [hL] using this
def sNil : MS := fun ls gh => .nx ls gh
def sBk : MS := fun ls gh => .bk ls gh
def SOut.seq (o : SOut) (f : MS) : SOut := match o with
  | .nx ls gh => f ls gh
  | r => r
def sSeq (a b : MS) : MS := fun ls gh => (a ls gh).seq b
theorem sim_nil : SimS (fun _ => GL.sNil) sNil := fun F S as ag g => ⟨F, S, as, ag, rfl, rfl, fun _ => rfl, Sv.refl g⟩
theorem sim_bk : SimS (fun _ => GL.sBk) sBk := fun F S as ag g => ⟨F, S, as, ag, rfl, rfl, fun _ => rfl, Sv.refl g⟩
theorem sim_seq {m1 m2 : AD → GL.MS} {p1 p2 : MS} (h1 : SimS m1 p1) (h2 : SimS m2 p2) : SimS (fun ad => GL.sSeq (m1 ad) (m2 ad)) (sSeq p1 p2) := by
  intro F S as ag g
  have h := h1 F S as ag g
  show SimSO _ _ _ _ _ (fun ad => (m1 ad (glS as ag ad as) S).seq (m2 ad)) ((p1 (erS as) (erS ag)).seq p2)
  cases hp : p1 (erS as) (erS ag) with
  | bad => trivial
  | nx ls gh =>
    rw [hp] at h
    obtain ⟨F2, S2, as2, ag2, rfl, rfl, a3, a4⟩ := h
    exact SimSO.pre a4 ((h2 F2 S2 as2 ag2 a4.good).cg fun ad => by show (m1 ad _ S).seq _ = _; rw [show m1 ad (glS as ag ad as) S = _ from a3 ad]; rfl)
  | bk ls gh => rw [hp] at h; obtain ⟨F2, S2, as2, ag2, a1, a2, a3, a4⟩ := h; exact ⟨F2, S2, as2, ag2, a1, a2, fun ad => by show (m1 ad _ S).seq _ = _; rw [show m1 ad (glS as ag ad as) S = _ from a3 ad]; rfl, a4⟩
  | ct ls gh => rw [hp] at h; obtain ⟨F2, S2, as2, ag2, a1, a2, a3, a4⟩ := h; exact ⟨F2, S2, as2, ag2, a1, a2, fun ad => by show (m1 ad _ S).seq _ = _; rw [show m1 ad (glS as ag ad as) S = _ from a3 ad]; rfl, a4⟩
  | rt d gh => rw [hp] at h; obtain ⟨F2, S2, ag2, a, a1, a2, a3, a4, a5⟩ := h; exact ⟨F2, S2, ag2, a, a1, a2, fun ad => by show (m1 ad _ S).seq _ = _; rw [show m1 ad (glS as ag ad as) S = _ from a3 ad]; rfl, a4, a5⟩
  | exc e ls gh => rw [hp] at h; obtain ⟨F2, S2, as2, ag2, x, a1, a2, a3, a4, a5, a6⟩ := h; exact ⟨F2, S2, as2, ag2, x, a1, a2, a3, fun ad => by show (m1 ad _ S).seq _ = _; rw [show m1 ad (glS as ag ad as) S = _ from a4 ad]; rfl, a5, a6⟩
def Out.then {α : Type} (o : Out α) (f : α → Ls → Ls → SOut) : SOut := match o with
  | .ok a ls gh => f a ls gh
  | .exc e ls gh => .exc e ls gh
  | .bad => .bad
theorem sim_then {α β γ : Type} {R : RT α β γ} {q : Bool} {ma : AD → GL.Ls → Sto → GL.Out α} {pa : PX β} {f : AD → α → Sto → GL.SOut} {k : β → Ls → Ls → SOut} {L : AD → GL.Ls}
    (hm : SimX q R ma pa) (g : Good F S as ag) (hL : ∀ ad, L ad = glS as ag ad as)
    (hk : ∀ F' S' as' ag' c w, R.pv as' ag' c = some w → R.ok F' S' c → Good F' S' as' ag' → (fpS (as' ++ ag') ++ R.fp c).Nodup → (∀ n ∈ R.fp c, n < S'.length) → (∀ ad, L ad = glS as' ag' ad as') →
      SimSO F' S' as' ag' (R.fp c) (fun ad => f ad w S') (k (R.er c) (erS as') (erS ag'))) :
    SimSO F S as ag [] (fun ad => (ma ad (L ad) S).then (L ad) (f ad)) ((pa (erS as) (erS ag)).then k) := by
  have h := hm F S as ag g
  cases hp : pa (erS as) (erS ag) with
  | bad => trivial
  | exc e ls gh =>
    rw [hp] at h
    obtain ⟨F2, S2, as2, ag2, x, a1, a2, a3, a4, a5, a6⟩ := h
    refine ⟨F2, S2, as2, ag2, x, a1, a2, a3, fun ad => ?_, a5, a6.sv⟩
    show (ma ad (L ad) S).then (L ad) _ = _
    rw [hL, show ma ad (glS as ag ad as) S = _ from a4 ad, a6.gl]; rfl
  | ok b ls gh =>
    rw [hp] at h
    obtain ⟨F2, S2, as2, ag2, c, w, rfl, rfl, rfl, a4, a5, a6, a7⟩ := h
    have h2 := hk F2 S2 as2 ag2 c w a5 a6 a7.good a7.nd a7.lt (fun ad => (hL ad).trans (a7.gl ad).symm)
    exact SimSO.pre a7.sv (h2.cg fun ad => by
      show (ma ad (L ad) S).then (L ad) _ = _
      rw [hL, show ma ad (glS as ag ad as) S = _ from a4 ad]; rfl)
def sExpr (m : PE) : MS := fun ls gh => (m ls gh).then fun _ ls gh => .nx ls gh
theorem sim_expr {q : Bool} {ma : AD → GL.ME} {pa : PE} (h : SimE q ma pa) : SimS (fun ad => GL.sExpr (ma ad)) (sExpr pa) := fun F S as ag g =>
  sim_then (R := RE) (f := fun ad _ S1 => .nx (glS as ag ad as) S1) (k := fun _ ls gh => .nx ls gh) h g (fun _ => rfl) fun F1 S1 as1 ag1 c w h1 h2 g1 n1 l1 L1 =>
    ⟨F1, S1, as1, ag1, rfl, rfl, fun ad => congrArg (fun l => GL.SOut.nx l S1) (L1 ad), ((Ev.refl (q := true) g1 n1 l1).sub (List.nil_sublist _)).sv⟩
def sIf (c : PT) (a b : MS) : MS := fun ls gh => (c ls gh).then fun k ls gh => if k = true then a ls gh else b ls gh
theorem sim_sif {q : Bool} {tc : AD → GL.MT} {uc : PT} {m1 m2 : AD → GL.MS} {p1 p2 : MS} (hc : SimT q tc uc) (h1 : SimS m1 p1) (h2 : SimS m2 p2) : SimS (fun ad => GL.sIf (tc ad) (m1 ad) (m2 ad)) (sIf uc p1 p2) := fun F S as ag g =>
  sim_then (R := RB) (f := fun ad k S1 => if k = true then m1 ad (glS as ag ad as) S1 else m2 ad (glS as ag ad as) S1) (k := fun k ls gh => if k = true then p1 ls gh else p2 ls gh) hc g (fun _ => rfl) fun F1 S1 as1 ag1 c w e1 _ g1 n1 l1 L1 => by
    cases e1
    cases c with
    | true => exact sims_at h1 g1 L1
    | false => exact sims_at h2 g1 L1
def killR (i : Nat) : Option V → Option V
  | some (.al (.l j) p) => if j = i then none else some (.al (.l j) p)
  | z => z
def killRA (as ag : List AV) (i : Nat) : AV → AV
  | .al (.l j) p => if j = i then .un ((atA as ag (.l j) p).map A.pv) else .al (.l j) p
  | z => z
theorem killR_er (i : Nat) (z : AV) : (killRA as ag i z).er = killR i z.er := by
  cases z with
  | al r p =>
    cases r with
    | l j => simp only [killRA, AV.er, killR]; by_cases h : j = i <;> simp [h]
    | g j => rfl
  | _ => rfl
theorem killR_fp (i : Nat) (z : AV) : (killRA as ag i z).fp = z.fp := by
  cases z with
  | al r p =>
    cases r with
    | l j => simp only [killRA]; split <;> rfl
    | g j => rfl
  | _ => rfl
theorem killR_slot (i : Nat) (z : Option AV) : slotA (z.map (killRA as ag i)) = slotA z := by
  cases z with
  | none => rfl
  | some z =>
    cases z with
    | al r p =>
      cases r with
      | l j => simp only [Option.map_some, killRA]; split <;> rfl
      | g j => rfl
    | _ => rfl
theorem killR_ok (i : Nat) {z : AV} (h : z.ok F S) : (killRA as ag i z).ok F S := by
  cases z with
  | al r p =>
    cases r with
    | l j => simp only [killRA]; split <;> trivial
    | g j => trivial
  | _ => exact h
def stA (as ag : List AV) (i : Nat) (z : AV) : List AV × List AV := ((as.map (killRA as ag i)).set i z, ag.map (killRA as ag i))
def stD (ls gh : Ls) (i : Nat) (z : V) : Ls × Ls := ((ls.map (killR i)).set i (some z), gh.map (killR i))
theorem st_er {i : Nat} {z : AV} {v : V} (hz : z.er = some v) : (erS (stA as ag i z).1, erS (stA as ag i z).2) = stD (erS as) (erS ag) i v := by
  have k : ∀ zs : List AV, erS (zs.map (killRA as ag i)) = (erS zs).map (killR i) := fun zs => by
    simp only [erS, List.map_map]
    exact List.map_congr_left fun z _ => killR_er i z
  unfold stA stD
  rw [← k, ← k]
  simp only [erS, List.map_set, hz]
theorem st_root {i : Nat} {z : AV} {r : Rt} (hr : r ≠ .l i) : rootA (stA as ag i z).1 (stA as ag i z).2 r = rootA as ag r := by
  cases r with
  | l j =>
    have : i ≠ j := fun e => hr (by rw [e])
    simp only [rootA, stA]
    rw [List.getElem?_set_ne this, List.getElem?_map, killR_slot]
  | g j => simp only [rootA, stA, List.getElem?_map, killR_slot]
theorem st_glv {i : Nat} {z y : AV} (ad : AD) : glv (stA as ag i z).1 (stA as ag i z).2 ad (killRA as ag i y) = glv as ag ad y := by
  cases y with
  | al r p =>
    cases r with
    | l j =>
      by_cases h : j = i
      · simp only [killRA, if_pos h, glv]
      · simp only [killRA, if_neg h, glv]
        unfold atA
        rw [st_root (fun e => h (by cases e; rfl))]
    | g j =>
      show (atA _ _ (.g j) p).map _ = (atA as ag (.g j) p).map _
      unfold atA
      rw [st_root (by simp)]
  | _ => rfl
theorem st_gl {i : Nat} {z : AV} {w : PV} (hi : i < as.length) (ad : AD) (hz : glv (stA as ag i z).1 (stA as ag i z).2 ad z = some w) :
    glS (stA as ag i z).1 (stA as ag i z).2 ad (stA as ag i z).1 = (glS as ag ad as).set i (some w) ∧ glS (stA as ag i z).1 (stA as ag i z).2 ad (stA as ag i z).2 = glS as ag ad ag := by
  constructor
  · show ((as.map (killRA as ag i)).set i z).map _ = _
    rw [List.map_set, hz, List.map_map]
    congr 1
    exact List.map_congr_left fun y _ => st_glv ad
  · show (ag.map (killRA as ag i)).map _ = _
    rw [List.map_map]
    exact List.map_congr_left fun y _ => st_glv ad
theorem set_split {α : Type} {xs : List α} {i : Nat} {x y : α} (h : xs[i]? = some x) : ∃ A B, xs = A ++ x :: B ∧ xs.set i y = A ++ y :: B := by
  refine ⟨xs.take i, xs.drop (i + 1), take_self h, ?_⟩
  rw [List.set_eq_take_append_cons_drop, if_pos (List.getElem?_eq_some_iff.mp h).1]
theorem kill_fps (zs : List AV) (i : Nat) : fpS (zs.map (killRA as ag i)) = fpS zs := by
  unfold fpS
  rw [List.flatMap_map]
  exact congrArg List.flatten (List.map_congr_left fun z _ => killR_fp i z)
theorem sv_set {i : Nat} {z : AV} (g : Good F S as ag) (nd : (fpS (as ++ ag) ++ x0).Nodup) (lt : ∀ n ∈ x0, n < S.length) (hi : i < as.length) (zok : z.ok F S) (zal : Alive (stA as ag i z).1 (stA as ag i z).2 z)
    (hf : ∀ y, as[i]? = some y → z.fp.Sublist y.fp ∨ z.fp.Sublist x0) : Sv F S as ag x0 F S (stA as ag i z).1 (stA as ag i z).2 [] := by
  have hy : as[i]? = some as[i] := List.getElem?_eq_getElem hi
  have hk : (as.map (killRA as ag i))[i]? = some (killRA as ag i as[i]) := by rw [List.getElem?_map, hy]; rfl
  obtain ⟨A1, B1, e1, e2⟩ := set_split (y := z) hk
  have f1 : fpS as = fpS A1 ++ (as[i].fp ++ fpS B1) := by
    have : fpS (as.map (killRA as ag i)) = fpS as := kill_fps as i
    rw [← this, e1, fpS_app, fpS_cons, killR_fp]
  have f2 : fpS ((stA as ag i z).1 ++ (stA as ag i z).2) = fpS A1 ++ (z.fp ++ fpS B1) ++ fpS ag := by
    show fpS ((as.map (killRA as ag i)).set i z ++ ag.map (killRA as ag i)) = _
    rw [fpS_app, kill_fps, e2, fpS_app, fpS_cons]
  have ndn : (fpS ((stA as ag i z).1 ++ (stA as ag i z).2)).Nodup := by
    rw [f2]
    rcases hf _ hy with hs | hs
    · refine g.nd.sublist ?_
      rw [fpS_app, f1]
      exact List.Sublist.append_right (List.Sublist.append_left (List.Sublist.append_right hs _) _) _
    · have n1 : (fpS A1 ++ (as[i].fp ++ fpS B1) ++ fpS ag ++ x0).Nodup := by rw [← f1, ← fpS_app]; exact nd
      have n2 : (fpS A1 ++ fpS B1 ++ fpS ag ++ z.fp).Nodup := by
        refine n1.sublist (List.Sublist.append (List.Sublist.append_right ?_ _) hs)
        exact List.Sublist.append_left (List.sublist_append_right _ _) _
      refine (List.Perm.nodup_iff ?_).mp n2
      have : (fpS A1 ++ (fpS B1 ++ fpS ag ++ z.fp)).Perm (fpS A1 ++ (z.fp ++ (fpS B1 ++ fpS ag))) := List.Perm.append_left _ List.perm_append_comm
      simpa using this
  have mem : ∀ y ∈ (stA as ag i z).1 ++ (stA as ag i z).2, y = z ∨ ∃ y0 ∈ as ++ ag, y = killRA as ag i y0 := fun y h => by
    rcases List.mem_append.mp h with h | h
    · rcases List.mem_or_eq_of_mem_set h with h | h
      · obtain ⟨y0, h0, rfl⟩ := List.mem_map.mp h
        exact .inr ⟨y0, List.mem_append_left _ h0, rfl⟩
      · exact .inl h
    · obtain ⟨y0, h0, rfl⟩ := List.mem_map.mp h
      exact .inr ⟨y0, List.mem_append_right _ h0, rfl⟩
  refine ⟨⟨g.fs, fun y h => ?_, ndn, fun y h => ?_⟩, by rw [List.append_nil]; exact ndn, fun _ h => (by cases h), Mono.refl, Nat.le_refl _, fun _ _ _ => ⟨rfl, rfl⟩, fun n h => .inl ?_, fun ad => ?_⟩
  · rcases mem y h with rfl | ⟨y0, h0, rfl⟩
    · exact zok
    · exact killR_ok i (g.ok _ h0)
  · rcases mem y h with rfl | ⟨y0, h0, rfl⟩
    · exact zal
    · have al := g.al _ h0
      cases y0 with
      | al r p =>
        cases r with
        | l j =>
          simp only [killRA]
          split
          · trivial
          · rename_i hj
            show (atA _ _ (.l j) p).isSome = true
            unfold atA
            rw [st_root (fun e => hj (by cases e; rfl))]
            exact al
        | g j =>
          show (atA _ _ (.g j) p).isSome = true
          unfold atA
          rw [st_root (by simp)]
          exact al
      | _ => trivial
  · rw [List.append_nil, f2] at h
    rw [fpS_app, f1]
    simp only [List.mem_append] at h ⊢
    rcases h with (h | h | h) | h
    · simp [h]
    · rcases hf _ hy with hs | hs
      · have := hs.subset h; simp [this]
      · have := hs.subset h; simp [this]
    · simp [h]
    · simp [h]
  · show (ag.map (killRA as ag i)).map _ = _
    rw [List.map_map]
    exact List.map_congr_left fun y _ => st_glv ad
def setL (i : Nat) (x : RV) (ls gh : Ls) : Option (Ls × Ls) := if i < ls.length then (match x with
  | .v d => some (stD ls gh i (.v d))
  | .pth r p => if r = .l i then (match atD ls gh r p with
      | some d => some (stD ls gh i (.v d))
      | none => none) else some (stD ls gh i (.al r p))) else none
theorem setL_sim {i : Nat} {c : ARV} {w : PV} {ls' gh' : Ls} (g : Good F S as ag) (nd : (fpS (as ++ ag) ++ c.fp).Nodup) (lt : ∀ n ∈ c.fp, n < S.length) (hp : c.pv as ag = some w) (hk : c.ok F S) (h : setL i c.er (erS as) (erS ag) = some (ls', gh')) :
    ∃ as' ag', erS as' = ls' ∧ erS ag' = gh' ∧ (∀ ad, glS as' ag' ad as' = (glS as ag ad as).set i (some w)) ∧ (∀ r, r ≠ .l i → rootA as' ag' r = rootA as ag r) ∧ Sv F S as ag c.fp F S as' ag' [] := by
  unfold setL at h
  split at h
  · rename_i hi
    have hi : i < as.length := by simpa [erS] using hi
    cases c with
    | v a =>
      simp only [ARV.er, Option.some.injEq] at h
      rw [← st_er (z := .v a) rfl, Prod.mk.injEq] at h
      cases hp
      exact ⟨_, _, h.1, h.2, fun ad => (st_gl hi ad rfl).1, fun r hr => st_root hr, sv_set g nd lt hi hk trivial (fun _ _ => .inr (List.Sublist.refl _))⟩
    | pth r p =>
      simp only [ARV.er] at h
      split at h
      · rename_i hr; subst hr
        split at h
        · rename_i d hd
          obtain ⟨a, ha, rfl⟩ := at_er' hd
          simp only [Option.some.injEq] at h
          rw [← st_er (z := .v a) rfl, Prod.mk.injEq] at h
          have hp : (atA as ag (.l i) p).map A.pv = some w := hp
          rw [ha] at hp
          cases hp
          refine ⟨_, _, h.1, h.2, fun ad => (st_gl hi ad rfl).1, fun r hr => st_root hr, sv_set g nd lt hi (at_ok g ha) trivial (fun y hy => .inl ?_)⟩
          obtain ⟨root, hr, hx⟩ := at_split ha
          have hroot : y.fp = root.fp := by
            have hr : slotA as[i]? = some root := hr
            rw [hy] at hr
            cases y <;> cases hr <;> rfl
          show (A.fp a).Sublist y.fp
          rw [hroot]
          cases hs : a.shr with
          | true => rw [fp_shr (at_ok g ha) hs]; exact List.nil_sublist _
          | false =>
            obtain ⟨_, L, R, e1, _, _⟩ := focus p root a (root_ok g hr) hx hs
            rw [e1]
            exact (List.sublist_append_right L _).trans (List.sublist_append_left _ R)
        · cases h
      · rename_i hr
        simp only [Option.some.injEq] at h
        rw [← st_er (z := .al r p) rfl, Prod.mk.injEq] at h
        have hp : (atA as ag r p).map A.pv = some w := hp
        have hv : ∀ ad, glv (stA as ag i (.al r p)).1 (stA as ag i (.al r p)).2 ad (.al r p) = some w := fun ad => by
          show (atA _ _ r p).map A.pv = some w
          unfold atA at hp ⊢
          rw [st_root hr]; exact hp
        refine ⟨_, _, h.1, h.2, fun ad => (st_gl hi ad (hv ad)).1, fun r hr => st_root hr, sv_set g nd lt hi trivial ?_ (fun _ _ => .inr (List.nil_sublist _))⟩
        show (atA _ _ r p).isSome = true
        unfold atA
        rw [st_root hr]
        cases hq : atA as ag r p with
        | none => rw [hq] at hp; cases hp
        | some a => unfold atA at hq; rw [hq]; rfl
  · cases h
def sSet (i : Nat) (m : PE) : MS := fun ls gh => (m ls gh).then fun x ls gh => match setL i x ls gh with
  | some z => .nx z.1 z.2
  | none => .bad
theorem sim_set {i : Nat} {q : Bool} {ma : AD → GL.ME} {pa : PE} (h : SimE q ma pa) : SimS (fun ad => GL.sSet i (ma ad)) (sSet i pa) := fun F S as ag g =>
  sim_then (R := RE) (f := fun ad w S1 => .nx ((glS as ag ad as).set i (some w)) S1) (k := fun x ls gh => match setL i x ls gh with
  | some z => .nx z.1 z.2
  | none => .bad) h g (fun _ => rfl) fun F1 S1 as1 ag1 c w h1 h2 g1 n1 l1 L1 => by
    cases hs : setL i (RE.er c) (erS as1) (erS ag1) with
    | none => simp only [hs]; trivial
    | some z =>
      obtain ⟨as2, ag2, e1, e2, e3, _, sv⟩ := setL_sim g1 n1 l1 h1 h2 (show setL i c.er _ _ = some (z.1, z.2) from hs)
      simp only [hs]
      exact ⟨F1, S1, as2, ag2, e1, e2, fun ad => by show GL.SOut.nx ((glS as ag ad as).set i (some w)) S1 = _; rw [e3, L1], sv⟩
theorem aug_eq (i : Nat) (gg : PV → PV → Sto → GL.Out PV) (e : GL.ME) : GL.sAug i gg e = GL.sSet i (GL.eOp gg (GL.eVar i) e) := by
  funext ls S
  unfold GL.sAug GL.sSet GL.eOp GL.eVar
  cases h : ls[i]? with
  | none => rfl
  | some o =>
    cases o with
    | none => rfl
    | some w =>
      show (e ls S).then ls _ = ((e ls S).bind _).then ls _
      cases e ls S <;> rfl
def sAug (i : Nat) (g : G2) (e : PE) : MS := sSet i (eOp g (eVar i) e)
theorem sim_aug {i : Nat} {ma : AD → GL.ME} {pa : PE} {gg : PV → PV → Sto → GL.Out PV} {gp : G2} (h : SimE true ma pa) (hg : SimG true gg gp) : SimS (fun ad => GL.sAug i gg (ma ad)) (sAug i gp pa) := by
  have := sim_set (i := i) (sim_op (sim_var i) h hg)
  intro F S as ag g
  have := this F S as ag g
  have e : (fun ad => GL.sAug i gg (ma ad) (glS as ag ad as) S) = fun ad => GL.sSet i (GL.eOp gg (GL.eVar i) (ma ad)) (glS as ag ad as) S := by
    funext ad; rw [aug_eq]
  rw [e]; exact this
def dropG : Option V → Option V
  | some (.al (.l _) _) => none
  | z => z
def retV (x : RV) (ls gh : Ls) : Option (D × Ls) := match x with
  | .v d => some (d, gh.map dropG)
  | .pth (.l i) [] => (match ls[i]? with
    | some (some (.v d)) => some (d, gh.map dropG)
    | _ => none)
  | .pth r p => (match cvR false (.pth r p) ls gh with
    | some (d, _, gh) => some (d, gh.map dropG)
    | none => none)
def sRet (m : PE) : MS := fun ls gh => (m ls gh).then fun x ls gh => match retV x ls gh with
  | some z => .rt z.1 z.2
  | none => .bad
def dropA (as ag : List AV) : AV → AV
  | .al (.l j) p => .un ((atA as ag (.l j) p).map A.pv)
  | z => z
theorem drop_er (z : AV) : (dropA as ag z).er = dropG z.er := by
  cases z with
  | al r p => cases r <;> rfl
  | _ => rfl
theorem drop_fp (z : AV) : (dropA as ag z).fp = z.fp := by
  cases z with
  | al r p => cases r <;> rfl
  | _ => rfl
theorem drop_slot (z : Option AV) : slotA (z.map (dropA as ag)) = slotA z := by
  cases z with
  | none => rfl
  | some z =>
    cases z with
    | al r p => cases r <;> rfl
    | _ => rfl
theorem drop_at (j : Nat) (p : List Nat) : atA [] (ag.map (dropA as ag)) (.g j) p = atA as ag (.g j) p := by
  unfold atA
  show (slotA (ag.map (dropA as ag))[j]?).bind _ = (slotA ag[j]?).bind _
  rw [List.getElem?_map, drop_slot]
theorem sv_drop (g : Good F S as ag) (nd : (fpS (as ++ ag) ++ x0).Nodup) (lt : ∀ n ∈ x0, n < S.length) (hx : (fpS ag ++ x1).Nodup) (sub : ∀ n ∈ x1, n ∈ fpS (as ++ ag) ++ x0) (lt1 : ∀ n ∈ x1, n < S.length) : Sv F S as ag x0 F S [] (ag.map (dropA as ag)) x1 := by
  have f1 : fpS (ag.map (dropA as ag)) = fpS ag := by
    unfold fpS
    rw [List.flatMap_map]
    exact congrArg List.flatten (List.map_congr_left fun z _ => drop_fp z)
  refine ⟨⟨g.fs, fun z h => ?_, ?_, fun z h => ?_⟩, ?_, lt1, Mono.refl, Nat.le_refl _, fun _ _ _ => ⟨rfl, rfl⟩, fun n h => .inl ?_, fun ad => ?_⟩
  · obtain ⟨y, hy, rfl⟩ := List.mem_map.mp (by simpa using h)
    have := g.ok y (List.mem_append_right _ hy)
    cases y with
    | al r p => cases r <;> trivial
    | _ => exact this
  · show (fpS ([] ++ _)).Nodup
    rw [List.nil_append, f1]
    exact (List.nodup_append.mp hx).1
  · obtain ⟨y, hy, rfl⟩ := List.mem_map.mp (by simpa using h)
    have := g.al y (List.mem_append_right _ hy)
    cases y with
    | al r p =>
      cases r with
      | l j => trivial
      | g j =>
        show (atA [] _ (.g j) p).isSome = true
        rw [drop_at]; exact this
    | _ => trivial
  · rw [List.nil_append, f1]; exact hx
  · rw [List.nil_append, f1] at h
    rcases List.mem_append.mp h with t | t
    · exact List.mem_append_left _ (by rw [fpS_app]; exact List.mem_append_right _ t)
    · exact sub n t
  · show (ag.map (dropA as ag)).map _ = _
    rw [List.map_map]
    refine List.map_congr_left fun y hy => ?_
    cases y with
    | al r p =>
      cases r with
      | l j => rfl
      | g j => show (atA [] _ (.g j) p).map _ = (atA as ag (.g j) p).map _; rw [drop_at]
    | _ => rfl
theorem erS_drop : erS (ag.map (dropA as ag)) = (erS ag).map dropG := by
  simp only [erS, List.map_map]
  exact List.map_congr_left fun z _ => drop_er z
theorem sim_ret {q : Bool} {ma : AD → GL.ME} {pa : PE} (h : SimE q ma pa) : SimS (fun ad => GL.sRet (ma ad)) (sRet pa) := fun F S as ag g =>
  sim_then (R := RE) (f := fun ad w S1 => .rt w S1) (k := fun x ls gh => match retV x ls gh with
  | some z => .rt z.1 z.2
  | none => .bad) h g (fun _ => rfl) fun F1 S1 as1 ag1 c w h1 h2 g1 n1 l1 L1 => by
    have ndg : (fpS ag1 ++ c.fp).Nodup := by
      have n1 : (fpS (as1 ++ ag1) ++ c.fp).Nodup := n1
      rw [fpS_app, List.append_assoc] at n1
      exact (List.nodup_append.mp n1).2.1
    have frz : ∀ r p, c = .pth r p → ∀ d l g', cvR false (.pth r p) (erS as1) (erS ag1) = some (d, l, g') → SimSO F1 S1 as1 ag1 (RE.fp c) (fun ad => .rt w S1) (.rt d (g'.map dropG)) := fun r p hc d l g' hcv => by
      subst hc
      obtain ⟨F2, as2, ag2, a, rfl, rfl, rfl, rfl, aok, afp, ev⟩ := cv_sim0 (k := false) (c := .pth r p) g1 n1 l1 h1 h2 hcv
      have fz := afp rfl
      refine SimSO.pre ev.sv ?_
      refine ⟨F2, S1, ag2.map (dropA as2 ag2), a, erS_drop, rfl, fun _ => rfl, aok, sv_drop ev.good ev.nd ev.lt ?_ (fun n h => by rw [fz] at h; cases h) (fun n h => by rw [fz] at h; cases h)⟩
      rw [fz, List.append_nil]
      have := ev.good.nd
      rw [fpS_app] at this
      exact (List.nodup_append.mp this).2.1
    cases c with
    | v a =>
      cases h1
      exact ⟨F1, S1, ag1.map (dropA as1 ag1), a, erS_drop, rfl, fun _ => rfl, h2, sv_drop g1 n1 l1 ndg (fun n h => List.mem_append_right _ h) l1⟩
    | pth r p =>
      show SimSO _ _ _ _ _ _ (match retV (.pth r p) (erS as1) (erS ag1) with
        | some z => .rt z.1 z.2
        | none => .bad)
      cases hr : retV (.pth r p) (erS as1) (erS ag1) with
      | none => trivial
      | some z =>
        obtain ⟨d, g'⟩ := z
        dsimp only
        unfold retV at hr
        split at hr
        · rename_i heq; cases heq
        · rename_i i heq
          cases heq
          split at hr
          · rename_i d' hd
            cases hr
            simp only [erS, List.getElem?_map] at hd
            cases hi : as1[i]? with
            | none => rw [hi] at hd; cases hd
            | some y =>
              rw [hi] at hd
              cases y with
              | v a =>
                simp only [Option.map_some, AV.er, Option.some.injEq, V.v.injEq] at hd
                subst hd
                have hw : w = a.pv := by
                  have h1 : (atA as1 ag1 (.l i) []).map A.pv = some w := h1
                  have h1 : ((slotA as1[i]?).bind (getA [])).map A.pv = some w := h1
                  rw [hi] at h1
                  cases h1; rfl
                have hm : AV.v a ∈ as1 := List.mem_of_getElem? hi
                have s1 : (a.fp).Sublist (fpS as1) := by
                  unfold fpS
                  rw [List.flatMap]
                  exact List.sublist_flatten_of_mem (List.mem_map.mpr ⟨_, hm, rfl⟩)
                subst hw
                refine ⟨F1, S1, ag1.map (dropA as1 ag1), a, erS_drop, rfl, fun _ => rfl, g1.ok _ (List.mem_append_left _ hm), sv_drop g1 n1 l1 ?_ (fun n h => List.mem_append_left _ (by rw [fpS_app]; exact List.mem_append_left _ (s1.subset h))) (fun n h => fp_lt g1.fs (g1.ok _ (List.mem_append_left _ hm)) n h)⟩
                have := g1.nd
                rw [fpS_app] at this
                exact (List.Perm.nodup_iff List.perm_append_comm).mp (this.sublist (List.Sublist.append_right s1 _))
              | un o => cases hd
              | io a => cases hd
              | al r p => cases hd
              | xn C ns xs => cases hd
          · cases hr
        · rename_i r' p' _ heq
          cases heq
          split at hr
          · rename_i d' l' g'' hcv
            cases hr
            exact frz r p rfl d l' g'' hcv
          · cases hr
end VL
set_option Elab.async false
set_option linter.all false
set_option maxRecDepth 100000
set_option maxHeartbeats 1000000
namespace VL
open GL (PV OB Sto Nm BT lim)
open PySem (PyData Builtin)
variable {F F' F'' : FM} {S S' S'' : Sto} {as as' as'' ag ag' ag'' : List AV} {x0 x1 x2 : List Nat}
inductive FOut where
  | ok (d : D) (ios : List D)
  | exc (e : Exn) (ios : List D)
  | bad
abbrev MF := List V → List D → FOut
def ioD : Ls → Option (List D)
  | [] => some []
  | some (.io d) :: r => (ioD r).map (d :: ·)
  | _ => none
def endF (gh : Ls) (f : List D → FOut) : FOut := match ioD gh with
  | some ios => f ios
  | none => .bad
def fnOf (np n : Nat) (m : MS) : MF := fun vs hs => if vs.length = np then (match m (vs.map some ++ List.replicate (n - np) none) (hs.map fun d => some (.io d)) with
  | .nx _ gh => endF gh fun ios => .ok .non ios
  | .rt d gh => endF gh fun ios => .ok d ios
  | .exc e _ gh => endF gh fun ios => .exc e ios
  | _ => .bad) else .bad
def SimFn (f : GL.MF) (p : MF) : Prop := ∀ (F : FM) (S : Sto) (cs : List AV) (hs : List A) (vs : List V) (ws : List PV), Good F S cs (hs.map .io) → erS cs = vs.map some → (∀ ad, glS cs (hs.map .io) ad cs = ws.map some) → match p vs (hs.map A.er) with
  | .ok d ios => ∃ (F' : FM) (S' : Sto) (hs' : List A) (a : A), hs'.map A.er = ios ∧ A.er a = d ∧ f ws S = .ok a.pv S' ∧ a.ok F' S' ∧ Sv F S cs (hs.map .io) [] F' S' [] (hs'.map .io) a.fp
  | .exc e ios => ∃ (F' : FM) (S' : Sto) (hs' : List A) (x : AE), hs'.map A.er = ios ∧ AE.er x = e ∧ f ws S = .exc x.gl S' ∧ x.ok F' S' ∧ Sv F S cs (hs.map .io) [] F' S' [] (hs'.map .io) []
  | .bad => True
theorem ioD_er : ∀ {ag : List AV} {ios : List D}, ioD (erS ag) = some ios → ∃ hs : List A, ag = hs.map .io ∧ hs.map A.er = ios
  | [], ios, h => by cases h; exact ⟨[], rfl, rfl⟩
  | z :: r, ios, h => by
    cases z with
    | io a =>
      have h : (ioD (erS r)).map (a.er :: ·) = some ios := h
      obtain ⟨ds, hd, rfl⟩ := Option.map_eq_some_iff.mp h
      obtain ⟨hs, rfl, rfl⟩ := ioD_er hd
      exact ⟨a :: hs, rfl, rfl⟩
    | _ => cases h
theorem fpS_un (zs : List AV) (n : Nat) : fpS (zs ++ List.replicate n (.un none)) = fpS zs := by
  rw [fpS_app]
  have : fpS (List.replicate n (AV.un none)) = [] := by
    unfold fpS
    rw [List.flatMap_eq_nil_iff]
    intro z hz
    rw [List.eq_of_mem_replicate hz]; rfl
  rw [this, List.append_nil]
theorem root_un (zs : List AV) (n : Nat) (ag : List AV) (r : Rt) : rootA (zs ++ List.replicate n (.un none)) ag r = rootA zs ag r := by
  cases r with
  | g j => rfl
  | l i =>
    show slotA (zs ++ _)[i]? = slotA zs[i]?
    by_cases h : i < zs.length
    · rw [List.getElem?_append_left h]
    · rw [List.getElem?_append_right (Nat.le_of_not_lt h), List.getElem?_eq_none_iff.mpr (Nat.le_of_not_lt h), List.getElem?_replicate]
      split <;> rfl
theorem good_un (n : Nat) (g : Good F S as ag) : Good F S (as ++ List.replicate n (.un none)) ag := by
  have mem : ∀ z ∈ (as ++ List.replicate n (.un none)) ++ ag, z = .un none ∨ z ∈ as ++ ag := fun z h => by
    rcases List.mem_append.mp h with h | h
    · rcases List.mem_append.mp h with h | h
      · exact .inr (List.mem_append_left _ h)
      · exact .inl (List.eq_of_mem_replicate h)
    · exact .inr (List.mem_append_right _ h)
  refine ⟨g.fs, fun z h => ?_, ?_, fun z h => ?_⟩
  · rcases mem z h with rfl | h
    · trivial
    · exact g.ok z h
  · rw [fpS_app, fpS_un, ← fpS_app]; exact g.nd
  · rcases mem z h with rfl | h
    · trivial
    · have := g.al z h
      cases z with
      | al r p =>
        show (atA _ ag r p).isSome = true
        unfold atA
        rw [root_un]; exact this
      | _ => trivial
theorem glS_un (n : Nat) (ad : AD) (zs : List AV) : glS (as ++ List.replicate n (.un none)) ag ad zs = glS as ag ad zs := by
  refine List.map_congr_left fun z _ => ?_
  cases z with
  | al r p =>
    show (atA _ ag r p).map _ = (atA as ag r p).map _
    unfold atA
    rw [root_un]
  | _ => rfl
theorem sim_fn {np n : Nat} {m : GL.MS} {p : MS} (h : SimS (fun _ => m) p) : SimFn (GL.fnOf np n m) (fnOf np n p) := by
  intro F S cs hs vs ws g e1 e2
  unfold fnOf
  have lv : vs.length = ws.length := by
    have a := congrArg List.length e1
    have b := congrArg List.length (e2 (0, 0))
    simp [erS, glS] at a b
    omega
  by_cases hl : vs.length = np
  · rw [if_pos hl]
    have h2 := h F S (cs ++ List.replicate (n - np) (.un none)) (hs.map .io) (good_un _ g)
    have q1 : erS (cs ++ List.replicate (n - np) (.un none)) = vs.map some ++ List.replicate (n - np) none := by
      rw [← e1]
      simp [erS, AV.er]
    have q2 : erS (hs.map .io) = (hs.map A.er).map fun d => some (V.io d) := by
      simp [erS, List.map_map]
      exact fun _ _ => rfl
    have q3 : ∀ ad, glS (cs ++ List.replicate (n - np) (.un none)) (hs.map .io) ad (cs ++ List.replicate (n - np) (.un none)) = ws.map some ++ List.replicate (n - np) none := fun ad => by
      rw [glS_un, ← e2 ad]
      simp [glS, glv]
    simp only [q1, q2, q3] at h2
    have hf : ∀ o, m (ws.map some ++ List.replicate (n - np) none) S = o → GL.fnOf np n m ws S = (match o with
      | .nx _ S' => .ok .non S'
      | .rt w S' => .ok w S'
      | .exc e _ S' => .exc e S'
      | _ => .bad) := fun o ho => by
      unfold GL.fnOf
      rw [if_pos (lv ▸ hl), ho]
      all_goals (cases o <;> rfl)
    have lift : ∀ {F' : FM} {S' : Sto} {as' ag' : List AV} {x : List Nat}, Sv F S (cs ++ List.replicate (n - np) (.un none)) (hs.map .io) [] F' S' as' ag' x → Sv F S cs (hs.map .io) [] F' S' as' ag' x := fun sv =>
      ⟨sv.good, sv.nd, sv.lt, sv.mono, sv.len, fun k hk hx => sv.keep k hk (by rw [fpS_app, fpS_un, ← fpS_app]; exact hx), fun k hk => by
        have := sv.new k hk
        rwa [fpS_app, fpS_un, ← fpS_app] at this, fun ad => by rw [sv.gg, glS_un]⟩
    have dropL : ∀ {F' : FM} {S' : Sto} {as' : List AV} {hs' : List A}, Sv F S cs (hs.map .io) [] F' S' as' (hs'.map .io) [] → Sv F S cs (hs.map .io) [] F' S' [] (hs'.map .io) [] := fun {F' S' as' hs'} sv => by
      have e : (hs'.map AV.io).map (dropA as' (hs'.map .io)) = hs'.map .io := by
        rw [List.map_map]; exact List.map_congr_left fun _ _ => rfl
      have := sv.trans (sv_drop (x1 := []) sv.good sv.nd sv.lt (by
        have := sv.good.nd
        rw [fpS_app] at this
        rw [List.append_nil]; exact (List.nodup_append.mp this).2.1) (fun n h => by cases h) (fun n h => by cases h))
      rwa [e] at this
    cases hp : p (vs.map some ++ List.replicate (n - np) none) ((hs.map A.er).map fun d => some (V.io d)) with
    | bad => trivial
    | bk ls gh => trivial
    | ct ls gh => trivial
    | nx ls gh =>
      rw [hp] at h2
      obtain ⟨F', S', as', ag', rfl, rfl, a3, sv⟩ := h2
      show match endF (erS ag') _ with | .ok d ios => _ | .exc e ios => _ | .bad => True
      unfold endF
      cases hi : ioD (erS ag') with
      | none => trivial
      | some ios =>
        obtain ⟨hs', rfl, rfl⟩ := ioD_er hi
        exact ⟨F', S', hs', .sc .non, rfl, rfl, hf _ (a3 (0, 0)), trivial, dropL (lift sv)⟩
    | rt d gh =>
      rw [hp] at h2
      obtain ⟨F', S', ag', a, rfl, rfl, a3, aok, sv⟩ := h2
      show match endF (erS ag') _ with | .ok d ios => _ | .exc e ios => _ | .bad => True
      unfold endF
      cases hi : ioD (erS ag') with
      | none => trivial
      | some ios =>
        obtain ⟨hs', rfl, rfl⟩ := ioD_er hi
        exact ⟨F', S', hs', a, rfl, rfl, hf _ (a3 (0, 0)), aok, lift sv⟩
    | exc e ls gh =>
      rw [hp] at h2
      obtain ⟨F', S', as', ag', x, rfl, rfl, rfl, a3, xok, sv⟩ := h2
      show match endF (erS ag') _ with | .ok d ios => _ | .exc e ios => _ | .bad => True
      unfold endF
      cases hi : ioD (erS ag') with
      | none => trivial
      | some ios =>
        obtain ⟨hs', rfl, rfl⟩ := ioD_er hi
        exact ⟨F', S', hs', x, rfl, rfl, hf _ (a3 (0, 0)), xok, dropL (lift sv)⟩
  · rw [if_neg hl]; trivial
def callD (fn : MF) (vs : List V) (ls gh : Ls) : Out RV := match fn vs [] with
  | .ok d _ => .ok (.v d) ls gh
  | .exc e _ => .exc e ls gh
  | .bad => .bad
theorem v_list (xs : List A) : erS (xs.map .v) = ((A.ers xs).map V.v).map some := by
  rw [ers_map, erS, List.map_map, List.map_map, List.map_map]; rfl
theorem v_gl (as0 ag0 : List AV) (ad : AD) (xs : List A) : glS as0 ag0 ad (xs.map .v) = (A.pvs xs).map some := by
  rw [pvs_map, glS, List.map_map, List.map_map]; rfl
theorem v_fp (xs : List A) : fpS (xs.map .v) = A.fps xs := by rw [fps_map, fpS, List.flatMap_map]; rfl
theorem good_v (g : Good F S as ag) {xs : List A} (ok : A.oks F S xs) (nd : (A.fps xs).Nodup) : Good F S (xs.map .v) [] := by
  refine ⟨g.fs, fun z h => ?_, ?_, fun z h => ?_⟩
  · obtain ⟨x, hx, rfl⟩ := List.mem_map.mp (by simpa using h)
    exact (oks_iff xs).mp ok x hx
  · rw [List.append_nil, v_fp]; exact nd
  · obtain ⟨x, hx, rfl⟩ := List.mem_map.mp (by simpa using h)
    trivial
theorem call_sim {f : GL.MF} {fn : MF} (hf : SimFn f fn) (g : Good F S as ag) (nd : (fpS (as ++ ag) ++ x0).Nodup) (lt : ∀ n ∈ x0, n < S.length) {xs : List A} (ok : A.oks F S xs) (ndx : (A.fps xs).Nodup) (sub : ∀ n ∈ A.fps xs, n ∈ x0) :
    SimO true RE F S as ag x0 (fun _ => f (A.pvs xs) S) (callD fn ((A.ers xs).map .v) (erS as) (erS ag)) := by
  have h := hf F S (xs.map .v) [] ((A.ers xs).map .v) (A.pvs xs) (good_v g ok ndx) (v_list xs) (fun ad => v_gl _ _ ad xs)
  unfold callD
  simp only [List.map_nil] at h
  cases hp : fn ((A.ers xs).map .v) [] with
  | bad => trivial
  | exc e ios =>
    rw [hp] at h
    obtain ⟨F', S', hs', x, _, rfl, a3, xok, sv⟩ := h
    refine ⟨F', S', as, ag, x, rfl, rfl, rfl, fun _ => a3, xok, ?_⟩
    exact ev_same g nd sv.mono sv.good.fs sv.len (fun n hn hx => sv.keep n hn (by rw [List.append_nil, List.append_nil, v_fp]; exact fun h => hx (sub n h))) List.nodup_nil (fun n h => by cases h) (fun n h => by cases h)
  | ok d ios =>
    rw [hp] at h
    obtain ⟨F', S', hs', a, _, rfl, a3, aok, sv⟩ := h
    refine ⟨F', S', as, ag, .v a, a.pv, rfl, rfl, rfl, fun _ => a3, rfl, aok, ?_⟩
    refine ev_same g nd sv.mono sv.good.fs sv.len (fun n hn hx => sv.keep n hn (by rw [List.append_nil, List.append_nil, v_fp]; exact fun h => hx (sub n h))) ((List.nodup_append.mp sv.nd).2.1) (fun n h => ?_) sv.lt
    rcases sv.new n (List.mem_append_right _ h) with u | u
    · rw [List.append_nil, List.append_nil, v_fp] at u
      exact .inl (sub n u)
    · exact .inr u
def eCall (fn : MF) (dws : List PV) (args : PA) : PE := fun ls gh => (args ls gh).bind fun xs ls gh => match cvL true xs ls gh with
  | some (ds, ls, gh) => callD fn ((ds ++ dOfs dws).map .v) ls gh
  | none => .bad
section
variable {q : Bool} {mr : AD → GL.MA} {pr : PA} {f : GL.MF} {fn : MF} {dws : List PV}
theorem call_args (hf : SimFn f fn) (hd : rigs dws = true) (g : Good F S as ag) {cs : List ARV} {ws : List PV} (nd : (fpS (as ++ ag) ++ RA.fp cs).Nodup) (lt : ∀ n ∈ RA.fp cs, n < S.length) (h1 : RA.pv as ag cs = some ws) (h2 : RA.ok F S cs) :
    SimO true RE F S as ag (RA.fp cs) (fun _ => f (ws ++ dws) S) (match cvL true (cs.map ARV.er) (erS as) (erS ag) with
      | some (ds, ls, gh) => callD fn ((ds ++ dOfs dws).map .v) ls gh
      | none => .bad) := by
  cases hc : cvL true (cs.map ARV.er) (erS as) (erS ag) with
  | none => trivial
  | some t =>
    obtain ⟨ds, l2, g2⟩ := t
    obtain ⟨F2, as2, ag2, xs, rfl, rfl, rfl, rfl, xok, xfp, ev⟩ := cvL_sim g nd lt h1 h2 hc
    refine SimO.pre ev ?_
    have e1 : A.ers xs ++ dOfs dws = A.ers (xs ++ aOfs dws) := by rw [ers_app, aOfs_er]
    have e2 : A.pvs xs ++ dws = A.pvs (xs ++ aOfs dws) := by rw [pvs_app, aOfs_pv hd]
    have e3 : A.fps (xs ++ aOfs dws) = A.fps xs := by rw [fps_app, (aOfs_fp (F := F) (S := S) dws).1, List.append_nil]
    dsimp only
    rw [e1, e2]
    exact call_sim hf ev.good ev.nd ev.lt (oks_app xok (aOfs_fp dws).2) (by rw [e3]; exact (List.nodup_append.mp ev.nd).2.1) (by rw [e3]; exact fun n h => h)
theorem sim_call (hf : SimFn f fn) (hd : rigs dws = true) (h : SimA q mr pr) : SimE q (fun ad => GL.eCall f dws (mr ad)) (eCall fn dws pr) := fun F S as ag gd =>
  SimO.weak (sim_first (R' := RE) (q' := true) (k := fun xs ls gh => match cvL true xs ls gh with
  | some (ds, ls, gh) => callD fn ((ds ++ dOfs dws).map .v) ls gh
  | none => .bad) (f := fun ad ws S1 => f (ws ++ dws) S1) h gd (fun _ => rfl) fun F1 S1 as1 ag1 cs ws h1 h2 g1 n1 l1 L1 => call_args hf hd g1 n1 l1 h1 h2) (by simp)
def isIns (C m : Nm) : D → Bool
  | .nd _ (.ins D ns) _ => decide (D = C) && (idxN m ns).isNone
  | _ => false
def eMeth (C m : Nm) (fn : MF) (dws : List PV) (o : PE) (args : PA) : PE := fun ls gh => (o ls gh).bind fun x ls gh => match val x ls gh with
  | some d => if isIns C m d = true then (args ls gh).bind fun xs ls gh => (match cvL true (x :: xs) ls gh with
    | some (ds, ls, gh) => callD fn ((ds ++ dOfs dws).map .v) ls gh
    | none => .bad) else .bad
  | none => .bad
def gMeth (C m : Nm) (ad : AD) (f : GL.MF) (dws : List PV) (mr : AD → GL.MA) (L : GL.Ls) (w : PV) (S1 : Sto) : GL.Out PV := match GL.insAt S1 w with
  | some (_, D, fs) => if D = C then (match GL.lookN m fs with
    | none => (mr ad L S1).bind fun ws S2 => f (w :: (ws ++ dws)) S2
    | some _ => .bad) else .bad
  | none => .bad
theorem isIns_gl {C m : Nm} {a : A} (fs : FS F S) (ok : a.ok F S) (h : isIns C m a.er = true) : ∃ n fs', GL.insAt S a.pv = some (n, C, fs') ∧ GL.lookN m fs' = none := by
  cases a with
  | sc s => cases h
  | tup xs => cases h
  | nd k n hd xs =>
    cases hd with
    | ins D ns =>
      obtain ⟨h1, h2⟩ := Bool.and_eq_true_iff.mp (show (decide (D = C) && (idxN m ns).isNone) = true from h)
      have e := of_decide_eq_true h1
      subst e
      have ob := obj_of fs ok
      have hw : ns.length = xs.length := by simpa [Hd.wf] using wf_of ok
      refine ⟨n, ns.zip (A.pvs xs), ?_, ?_⟩
      · simp only [GL.insAt, A.pv, ob, mkO]
      · rw [lookN_zip ns _ (by rw [pvs_len]; exact hw), Option.isNone_iff_eq_none.mp h2]; rfl
    | _ => cases h
theorem sim_meth {C m : Nm} {qa : Bool} {ma : AD → GL.ME} {pa : PE} (hf : SimFn f fn) (hd : rigs dws = true) (ha : SimE qa ma pa) (hr : SimA true mr pr) : SimE qa (fun ad => GL.eMeth C m f dws (ma ad) (mr ad)) (eMeth C m fn dws pa pr) := fun F S as ag gd =>
  SimO.weak (sim_first (R' := RE) (q' := true && true) (k := fun (x : RV) (ls gh : Ls) => match val x ls gh with
  | some d => if isIns C m d = true then (pr ls gh).bind fun xs ls gh => (match cvL true (x :: xs) ls gh with
    | some (ds, ls, gh) => callD fn ((ds ++ dOfs dws).map .v) ls gh
    | none => .bad) else .bad
  | none => .bad) (f := fun ad w S1 => gMeth C m ad f dws mr (glS as ag ad as) w S1) ha gd (fun _ => rfl) fun F1 S1 as1 ag1 c w h1 h2 g1 n1 l1 L1 => by
    split
    · rename_i d e
      obtain ⟨a, rfl, rfl, aok, hc⟩ := val_er c e h1 g1 h2
      by_cases hi : isIns C m a.er = true
      · rw [if_pos hi]
        obtain ⟨n, fs', e1, e2⟩ := isIns_gl g1.fs aok hi
        have eg : ∀ ad, gMeth C m ad f dws mr (glS as ag ad as) a.pv S1 = (mr ad (glS as ag ad as) S1).bind fun ws S2 => f (a.pv :: (ws ++ dws)) S2 := fun ad => by
          unfold gMeth
          simp only [e1, e2, if_true]
        simp only [eg]
        refine sim_next (R0 := RE) (R := RA) (R' := RE) (k := fun xs ls gh => (match cvL true (RE.er c :: xs) ls gh with
    | some (ds, ls, gh) => callD fn ((ds ++ dOfs dws).map .v) ls gh
    | none => .bad)) (f := fun ad ws S2 => f (a.pv :: (ws ++ dws)) S2) hr g1 c h1 h2 n1 l1 (stab_re true c (.inl rfl)) L1 fun F2 S2 as2 ag2 cs ws h1 h2 h3 h4 g2 n2 l2 L2 => ?_
        exact call_args (cs := c :: cs) (ws := a.pv :: ws) hf hd g2 n2 l2 (seqO_mk h1 h3) (fun c' hc' => by
          rcases List.mem_cons.mp hc' with rfl | h
          · exact h2
          · exact h4 c' h)
      · rw [if_neg hi]; trivial
    · trivial) (by simp)
def makeD (fn : MF) (C : Nm) (ds : List D) (ls gh : Ls) : Out RV := match fn (.al (.g 0) [] :: ds.map .v) [.nd .ow (.ins C []) []] with
  | .ok (.sc .non) [d] => .ok (.v d) ls gh
  | .exc e [_] => .exc e ls gh
  | _ => .bad
theorem make_sim {C : Nm} (hf : SimFn f fn) (g : Good F S as ag) (nd : (fpS (as ++ ag) ++ x0).Nodup) (lt : ∀ n ∈ x0, n < S.length) {xs : List A} (ok : A.oks F S xs) (ndx : (A.fps xs).Nodup) (sub : ∀ n ∈ A.fps xs, n ∈ x0) :
    SimO true RE F S as ag x0 (fun _ => (f (.loc S.length :: A.pvs xs) (S ++ [.ins C []])).bind fun r S2 => match r with
      | .non => .ok (.loc S.length) S2
      | _ => .bad) (makeD fn C (A.ers xs) (erS as) (erS ag)) := by
  have lx : ∀ n ∈ A.fps xs, n < S.length := fun n hn => lt n (sub n hn)
  have hF : F S.length = none := by
    cases hf : F S.length with
    | none => rfl
    | some z =>
      obtain ⟨b, o⟩ := z
      have := (List.getElem?_eq_some_iff.mp (g.fs _ _ _ hf)).1
      omega
  have gr : ∀ n, n < S.length → (S ++ [OB.ins C []])[n]? = S[n]? := fun n hn => List.getElem?_append_left hn
  have fs : FS F (S ++ [OB.ins C []]) := fun n b o e => by
    have := g.fs n b o e
    rw [gr n (List.getElem?_eq_some_iff.mp this).1]; exact this
  have ok' : A.oks F (S ++ [OB.ins C []]) xs := by
    rw [oks_iff] at ok ⊢
    exact fun x hx => ok_frame Mono.refl (fun n hn => ⟨rfl, gr n (lx n (by rw [fps_map]; exact List.mem_flatMap.mpr ⟨x, hx, hn⟩))⟩) (ok x hx)
  have nok : (A.nd .ow S.length (.ins C []) []).ok F (S ++ [OB.ins C []]) := by
    simp only [A.ok]
    exact ⟨⟨hF, by rw [List.getElem?_append_right (Nat.le_refl _)]; simp [mkO]⟩, rfl, trivial⟩
  let cs : List AV := .al (.g 0) [] :: xs.map .v
  let hs : List A := [.nd .ow S.length (.ins C []) []]
  have fpc : fpS (cs ++ hs.map .io) = A.fps xs ++ [S.length] := by
    show fpS ((.al (.g 0) [] :: xs.map .v) ++ [.io (.nd .ow S.length (.ins C []) [])]) = _
    rw [fpS_app, fpS_cons, v_fp]
    simp [AV.fp, fpS, A.fp, A.fps]
  have gc : Good F (S ++ [OB.ins C []]) cs (hs.map .io) := by
    refine ⟨fs, fun z h => ?_, ?_, fun z h => ?_⟩
    · rcases List.mem_append.mp h with h | h
      · rcases List.mem_cons.mp h with rfl | h
        · trivial
        · obtain ⟨x, hx, rfl⟩ := List.mem_map.mp h
          exact (oks_iff xs).mp ok' x hx
      · obtain ⟨x, hx, rfl⟩ := List.mem_map.mp h
        rw [List.mem_singleton.mp hx]
        exact nok
    · rw [fpc]
      refine List.nodup_append.mpr ⟨ndx, by simp, fun n h m h' e => ?_⟩
      rw [List.mem_singleton.mp h'] at e
      have := lx n h
      omega
    · rcases List.mem_append.mp h with h | h
      · rcases List.mem_cons.mp h with rfl | h
        · rfl
        · obtain ⟨x, hx, rfl⟩ := List.mem_map.mp h
          trivial
      · obtain ⟨x, hx, rfl⟩ := List.mem_map.mp h
        trivial
  have h := hf F (S ++ [OB.ins C []]) cs hs (.al (.g 0) [] :: (A.ers xs).map .v) (.loc S.length :: A.pvs xs) gc (by
      show AV.er _ :: erS (xs.map .v) = _
      rw [v_list]; rfl) (fun ad => by
      show glv _ _ ad (.al (.g 0) []) :: glS _ _ ad (xs.map .v) = _
      rw [v_gl]; rfl)
  have hs_er : hs.map A.er = [D.nd .ow (.ins C []) []] := rfl
  rw [hs_er] at h
  unfold makeD
  have lift : ∀ {F' : FM} {S' : Sto} {hs' : List A} {x y : List Nat}, Sv F (S ++ [OB.ins C []]) cs (hs.map .io) [] F' S' [] (hs'.map .io) x → y.Nodup → (∀ n ∈ y, n ∈ fpS ([] ++ hs'.map .io) ++ x) → (∀ n ∈ y, n < S'.length) → Ev true F S as ag x0 F' S' as ag y := fun {F' S' hs' x y} sv ndy sy ly => by
    refine ev_same g nd sv.mono sv.good.fs (Nat.le_trans (by simp) sv.len) (fun n hn hx => ?_) ndy (fun n h => ?_) ly
    · have := sv.keep n (by rw [List.length_append]; omega) (by
        rw [List.append_nil, fpc]
        intro hq
        rcases List.mem_append.mp hq with u | u
        · exact hx (sub n u)
        · rw [List.mem_singleton.mp u] at hn; omega)
      rw [gr n hn] at this
      exact this
    · rcases sv.new n (sy n h) with u | u
      · rw [List.append_nil, fpc] at u
        rcases List.mem_append.mp u with u | u
        · exact .inl (sub n u)
        · rw [List.mem_singleton.mp u]; exact .inr (Nat.le_refl _)
      · rw [List.length_append] at u; exact .inr (by omega)
  split
  · rename_i d hp
    rw [hp] at h
    obtain ⟨F', S', hs', a, e1, e2, a3, aok, sv⟩ := h
    have hs1 : ∃ b, hs' = [b] ∧ b.er = d := by
      cases hs' with
      | nil => cases e1
      | cons b r =>
        cases r with
        | nil => simp at e1; exact ⟨b, rfl, e1⟩
        | cons _ _ => cases e1
    obtain ⟨b, rfl, rfl⟩ := hs1
    have ha : a = .sc .non := er_sc e2
    subst ha
    have hb : b.pv = .loc S.length := by
      have := sv.gg (0, 0)
      have h1 : some b.pv = some (PV.loc S.length) := by
        have := congrArg (fun l : List (Option PV) => l.head?) this
        simpa [glS, glv, A.pv, hs] using this
      exact Option.some.inj h1
    have bok : b.ok F' S' := sv.good.ok (.io b) (by simp)
    refine ⟨F', S', as, ag, .v b, .loc S.length, rfl, rfl, rfl, fun _ => ?_, by show some b.pv = _; rw [hb], bok, ?_⟩
    · show (f (.loc S.length :: A.pvs xs) (S ++ [.ins C []])).bind _ = _
      rw [a3]; rfl
    · show Ev true F S as ag x0 F' S' as ag b.fp
      have fpb : fpS ([] ++ [AV.io b]) = b.fp := by simp [fpS, AV.fp]
      refine lift sv ?_ (fun n h => ?_) (fun n h => fp_lt sv.good.fs bok n h)
      · have := sv.good.nd
        rw [show ([b].map AV.io) = [AV.io b] from rfl, fpb] at this; exact this
      · rw [show ([b].map AV.io) = [AV.io b] from rfl, fpb]; exact List.mem_append_left _ h
  · rename_i e d hp
    rw [hp] at h
    obtain ⟨F', S', hs', x, e1, rfl, a3, xok, sv⟩ := h
    refine ⟨F', S', as, ag, x, rfl, rfl, rfl, fun _ => ?_, xok, lift sv List.nodup_nil (fun n h => by cases h) (fun n h => by cases h)⟩
    show (f (.loc S.length :: A.pvs xs) (S ++ [.ins C []])).bind _ = _
    rw [a3]; rfl
  · trivial
def eMake (C : Nm) (fn : MF) (dws : List PV) (args : PA) : PE := fun ls gh => (args ls gh).bind fun xs ls gh => match cvL true xs ls gh with
  | some (ds, ls, gh) => makeD fn C (ds ++ dOfs dws) ls gh
  | none => .bad
end
end VL
set_option Elab.async false
set_option linter.all false
set_option maxRecDepth 100000
set_option maxHeartbeats 1000000
namespace VL
open GL (PV OB Sto Nm BT lim)
open PySem (PyData Builtin)
variable {F F' F'' : FM} {S S' S'' : Sto} {as as' as'' ag ag' ag'' : List AV} {x0 x1 x2 : List Nat}
abbrev MG := RV → Ls → Ls → Option (Ls × Ls)
abbrev MGs := List D → Ls → Ls → Option (Ls × Ls)
def gN (i : Nat) : MG := setL i
def gsNil : MGs := fun ds ls gh => match ds with
  | [] => some (ls, gh)
  | _ => none
def gsCons (g : MG) (r : MGs) : MGs := fun ds ls gh => match ds with
  | d :: t => (match g (.v d) ls gh with
    | some z => r t z.1 z.2
    | none => none)
  | [] => none
def gT (r : MGs) : MG := fun x ls gh => match x with
  | .v (.tup ds) => r ds ls gh
  | _ => none
def Apart (vs : List Nat) (as ag as' ag' : List AV) : Prop := (∀ ad j, j ∉ vs → (glS as' ag' ad as')[j]? = (glS as ag ad as)[j]?) ∧ (∀ r, (∀ v ∈ vs, r ≠ .l v) → rootA as' ag' r = rootA as ag r) ∧ as'.length = as.length
theorem Apart.refl {vs : List Nat} : Apart vs as ag as ag := ⟨fun _ _ _ => rfl, fun _ _ => rfl, rfl⟩
theorem Apart.trans {vs : List Nat} (a : Apart vs as ag as' ag') (b : Apart vs as' ag' as'' ag'') : Apart vs as ag as'' ag'' := ⟨fun ad j h => (b.1 ad j h).trans (a.1 ad j h), fun r h => (b.2.1 r h).trans (a.2.1 r h), b.2.2.trans a.2.2⟩
def SimGt (vs : List Nat) (gg : GL.MG) (g : MG) : Prop := ∀ (F : FM) (S : Sto) (as ag : List AV) (c : ARV) (w : PV) (ls' gh' : Ls), Good F S as ag → (fpS (as ++ ag) ++ c.fp).Nodup → (∀ n ∈ c.fp, n < S.length) → c.pv as ag = some w → c.ok F S → g c.er (erS as) (erS ag) = some (ls', gh') →
  ∃ as' ag', erS as' = ls' ∧ erS ag' = gh' ∧ (∀ ad, gg w (glS as ag ad as) = some (glS as' ag' ad as')) ∧ Apart vs as ag as' ag' ∧ Sv F S as ag c.fp F S as' ag' []
def SimGs (vs : List Nat) (gg : GL.MGs) (g : MGs) : Prop := ∀ (F : FM) (S : Sto) (as ag : List AV) (ks : List A) (ls' gh' : Ls), Good F S as ag → A.fps ks = [] → A.oks F S ks → g (A.ers ks) (erS as) (erS ag) = some (ls', gh') →
  ∃ as' ag', erS as' = ls' ∧ erS ag' = gh' ∧ (∀ ad, gg (A.pvs ks) (glS as ag ad as) = some (glS as' ag' ad as')) ∧ Apart vs as ag as' ag' ∧ Sv F S as ag [] F S as' ag' []
theorem sim_gN {vs : List Nat} {i : Nat} (h : i ∈ vs) : SimGt vs (GL.gN i) (gN i) := by
  intro F S as ag c w ls' gh' g nd lt hp hk e
  obtain ⟨as', ag', e1, e2, e3, e4, sv⟩ := setL_sim g nd lt hp hk e
  refine ⟨as', ag', e1, e2, fun ad => by rw [e3]; rfl, ⟨fun ad j hj => ?_, fun r hr => e4 r (hr i h), by have := congrArg List.length (e3 (0, 0)); simpa [glS] using this⟩, sv⟩
  rw [e3, List.getElem?_set_ne]
  exact fun q => hj (q ▸ h)
theorem sim_gsnil {vs : List Nat} : SimGs vs GL.gsNil gsNil := by
  intro F S as ag ks ls' gh' g _ _ e
  cases ks with
  | nil => cases e; exact ⟨as, ag, rfl, rfl, fun _ => rfl, .refl, Sv.refl g⟩
  | cons _ _ => cases e
theorem sim_gscons {vs : List Nat} {gg : GL.MG} {g : MG} {gr : GL.MGs} {r : MGs} (hg : SimGt vs gg g) (hr : SimGs vs gr r) : SimGs vs (GL.gsCons gg gr) (gsCons g r) := by
  intro F S as ag ks ls' gh' gd fk ok e
  cases ks with
  | nil => cases e
  | cons k t =>
    have e : (match g (.v k.er) (erS as) (erS ag) with
      | some z => r (A.ers t) z.1 z.2
      | none => none) = some (ls', gh') := e
    have fk : k.fp ++ A.fps t = [] := fk
    obtain ⟨f1, f2⟩ := List.append_eq_nil_iff.mp fk
    cases hc : g (.v k.er) (erS as) (erS ag) with
    | none => rw [hc] at e; cases e
    | some z =>
      rw [hc] at e
      have ef : (ARV.v k).fp = [] := f1
      obtain ⟨as1, ag1, a1, a2, a3, a4, a5⟩ := hg F S as ag (.v k) k.pv z.1 z.2 gd (by rw [ef, List.append_nil]; exact gd.nd) (by rw [ef]; intro n h; cases h) rfl ok.1 hc
      dsimp only at e
      rw [← a1, ← a2] at e
      obtain ⟨as2, ag2, b1, b2, b3, b4, b5⟩ := hr F S as1 ag1 t ls' gh' a5.good f2 ok.2 e
      rw [ef] at a5
      refine ⟨as2, ag2, b1, b2, fun ad => ?_, a4.trans b4, a5.trans b5⟩
      show (match gg k.pv (glS as ag ad as) with | some ls1 => gr (A.pvs t) ls1 | none => none) = _
      rw [a3]; exact b3 ad
theorem sim_gT {vs : List Nat} {gr : GL.MGs} {r : MGs} (hr : SimGs vs gr r) : SimGt vs (GL.gT gr) (gT r) := by
  intro F S as ag c w ls' gh' g nd lt hp hk e
  unfold gT at e
  split at e
  · rename_i ds hc
    obtain ⟨a, rfl, ea, rfl⟩ := er_v hc hp
    obtain ⟨ks, rfl, rfl⟩ := er_tup ea
    have h : A.fps ks = [] ∧ A.oks F S ks := hk
    obtain ⟨as', ag', e1, e2, e3, e4, sv⟩ := hr F S as ag ks ls' gh' g h.1 h.2 e
    have ef : (ARV.v (.tup ks)).fp = [] := h.1
    rw [ef]
    exact ⟨as', ag', e1, e2, fun ad => e3 ad, e4, sv⟩
  · cases e
def RI : RT GL.Wk (List D) (List A × (Nat → Sto → Bool)) := ⟨fun c => A.ers c.1, fun _ _ c => some ⟨A.pvs c.1, c.2⟩, fun F S c => A.fps c.1 = [] ∧ A.oks F S c.1 ∧ ∀ F' S' j, Mono F F' → FS F' S' → c.2 j S' = true, fun _ => []⟩
abbrev PI := PX (List D)
abbrev SimI (q : Bool) (m : AD → GL.MI) (p : PI) : Prop := SimX q RI m p
mutual
theorem beq_self : ∀ w : PV, PV.beq w w = true
  | .tup xs => by rw [PV.beq]; exact beqs_self xs
  | .xn a b c d e => by simp [PV.beq, beqs_self e]
  | .non => rfl
  | .bl b => by simp [PV.beq]
  | .int _ => by simp [PV.beq]
  | .str _ => by simp [PV.beq]
  | .loc _ => by simp [PV.beq]
  | .gl _ => by simp [PV.beq]
  | .ty _ => by simp [PV.beq]
theorem beqs_self : ∀ w : List PV, PV.beqs w w = true
  | [] => rfl
  | x :: r => by simp [PV.beqs, beq_self x, beqs_self r]
end
def frzSeq (x : RV) (ls gh : Ls) : Option ((Kd × List D) × Ls × Ls) := match cvR false x ls gh with
  | some (d, ls, gh) => (seqD d).map fun k => (k, ls, gh)
  | none => none
def FzG (F : FM) : Kd → PV → List PV → Prop
  | .tup, w, ws => w = .tup ws
  | .lst, w, ws => ∃ n, w = .loc n ∧ F n = some (true, .lst ws)
  | .rol, w, ws => ∃ n, w = .loc n ∧ F n = some (true, .rol ws)
theorem frzSeq_sim {c : ARV} {w : PV} {k : Kd} {ds : List D} {ls' gh' : Ls} (g : Good F S as ag) (nd : (fpS (as ++ ag) ++ c.fp).Nodup) (lt : ∀ n ∈ c.fp, n < S.length) (hp : c.pv as ag = some w) (hk : c.ok F S) (h : frzSeq c.er (erS as) (erS ag) = some ((k, ds), ls', gh')) :
    ∃ (F' : FM) (as' ag' : List AV) (ks : List A), erS as' = ls' ∧ erS ag' = gh' ∧ A.ers ks = ds ∧ A.fps ks = [] ∧ A.oks F' S ks ∧ Ev true F S as ag c.fp F' S as' ag' [] ∧
      FzG F' k w (A.pvs ks) := by
  unfold frzSeq at h
  cases hc : cvR false c.er (erS as) (erS ag) with
  | none => rw [hc] at h; cases h
  | some t =>
    obtain ⟨d, l2, g2⟩ := t
    rw [hc] at h
    obtain ⟨F', as', ag', a, rfl, rfl, rfl, rfl, aok, afp, ev⟩ := cv_sim0 (k := false) g nd lt hp hk hc
    simp only [Option.map_eq_some_iff, Prod.mk.injEq] at h
    obtain ⟨z, hz, rfl, rfl, rfl⟩ := h
    have fz := afp rfl
    rw [fz] at ev
    cases a with
    | sc s => simp [A.er, seqD] at hz
    | tup xs =>
      simp only [A.er, seqD, Option.some.injEq, Prod.mk.injEq] at hz
      obtain ⟨rfl, rfl⟩ := hz
      have aok : A.fps xs = [] ∧ A.oks F' S xs := aok
      exact ⟨F', as', ag', xs, rfl, rfl, rfl, aok.1, aok.2, ev, rfl⟩
    | nd fl n hd xs =>
      cases fl with
      | ow => simp [A.fp] at fz
      | lk => simp [A.fp] at fz
      | fz =>
        simp only [A.ok] at aok
        cases hd with
        | lst =>
          simp only [A.er, seqD, Option.some.injEq, Prod.mk.injEq] at hz
          obtain ⟨rfl, rfl⟩ := hz
          exact ⟨F', as', ag', xs, rfl, rfl, rfl, aok.2.2.1, aok.2.2.2, ev, n, rfl, aok.1⟩
        | rol =>
          simp only [A.er, seqD, Option.some.injEq, Prod.mk.injEq] at hz
          obtain ⟨rfl, rfl⟩ := hz
          exact ⟨F', as', ag', xs, rfl, rfl, rfl, aok.2.2.1, aok.2.2.2, ev, n, rfl, aok.1⟩
        | dct ks => simp [A.er, seqD] at hz
        | ins C ns => simp [A.er, seqD] at hz
def kSeq (f : Kd → List D → Option (List D)) (x : RV) (ls gh : Ls) : Out (List D) := match frzSeq x ls gh with
  | some ((k, xs), ls, gh) => (match f k xs with
    | some ys => .ok ys ls gh
    | none => .bad)
  | none => .bad
def iSeq (m : PE) : PI := fun ls gh => (m ls gh).bind fun x ls gh => kSeq (fun _ xs => some xs) x ls gh
theorem fz_lst {n : Nat} {xs : List PV} (h : F n = some (true, .lst xs)) (j : Nat) : ∀ F' S', Mono F F' → FS F' S' → GL.isLst n xs j S' = true := fun F' S' m fs => by
  unfold GL.isLst
  rw [fs _ _ _ (m _ _ _ h)]; exact beqs_self xs
def gSeqI (w : PV) (S1 : Sto) : GL.Out GL.Wk := match w with
  | .tup xs => .ok ⟨xs, GL.always⟩ S1
  | .loc n => (match S1[n]? with
    | some (.lst xs) => .ok ⟨xs, GL.isLst n xs⟩ S1
    | some (.rol xs) => .ok ⟨xs, GL.always⟩ S1
    | _ => .bad)
  | _ => .bad
theorem sim_okI {q : Bool} (ev : Ev true F S as ag x0 F' S' as' ag' []) {ks : List A} {chk : Nat → Sto → Bool} {ds : List D} {ls gh : Ls} {o : AD → GL.Out GL.Wk} (ho : ∀ ad, o ad = .ok ⟨A.pvs ks, chk⟩ S') (e0 : A.ers ks = ds) (e1 : erS as' = ls) (e2 : erS ag' = gh) (fk : A.fps ks = []) (ok : A.oks F' S' ks) (hc : ∀ F'' S'' j, Mono F' F'' → FS F'' S'' → chk j S'' = true) :
    SimO q RI F S as ag x0 o (.ok ds ls gh) :=
  ⟨F', S', as', ag', (ks, chk), ⟨A.pvs ks, chk⟩, e1, e2, e0, ho, rfl, ⟨fk, ok, hc⟩, ev.weak fun _ => rfl⟩
section
variable {qa qb : Bool} {ma mb : AD → GL.ME} {pa pb : PE}
theorem sim_iseq (h : SimE qa ma pa) : SimI qa (fun ad => GL.iSeq (ma ad)) (iSeq pa) := fun F S as ag gd =>
  SimO.weak (sim_first (R' := RI) (q' := true) (k := fun x ls gh => kSeq (fun _ xs => some xs) x ls gh) (f := fun ad w S1 => gSeqI w S1) h gd (fun _ => rfl) fun F1 S1 as1 ag1 c w h1 h2 g1 n1 l1 L1 => by
    show SimO _ _ _ _ _ _ _ _ (kSeq (fun _ xs => some xs) c.er (erS as1) (erS ag1))
    unfold kSeq
    cases hc : frzSeq c.er (erS as1) (erS ag1) with
    | none => trivial
    | some t =>
      obtain ⟨⟨k, ds⟩, l2, g2⟩ := t
      obtain ⟨F2, as2, ag2, ks, e1, e2, e0, fk, ok, ev, hw⟩ := frzSeq_sim g1 n1 l1 h1 h2 hc
      cases k with
      | tup =>
        have hw : w = .tup (A.pvs ks) := hw
        subst hw
        exact sim_okI ev (ks := ks) (chk := GL.always) (fun _ => rfl) e0 e1 e2 fk ok (fun _ _ _ _ _ => rfl)
      | lst =>
        obtain ⟨n, rfl, hF⟩ := hw
        exact sim_okI ev (ks := ks) (chk := GL.isLst n (A.pvs ks)) (fun _ => by simp only [gSeqI, ev.good.fs _ _ _ hF]) e0 e1 e2 fk ok (fun F'' S'' j m fs => fz_lst hF j F'' S'' m fs)
      | rol =>
        obtain ⟨n, rfl, hF⟩ := hw
        exact sim_okI ev (ks := ks) (chk := GL.always) (fun _ => by simp only [gSeqI, ev.good.fs _ _ _ hF]) e0 e1 e2 fk ok (fun _ _ _ _ _ => rfl)) (by simp)
def rngD (lo hi : Int) : List D := (List.range (hi - lo).toNat).map fun (i : Nat) => D.int (lo + (i : Nat))
def rngI (lo hi : Int) : List Int := (List.range (hi - lo).toNat).map fun (i : Nat) => lo + (i : Nat)
theorem rng_er (lo hi : Int) : A.ers (aInts (rngI lo hi)) = rngD lo hi := by rw [aInts_er]; unfold rngI rngD; rw [List.map_map]; rfl
theorem rng_pv (lo hi : Int) : A.pvs (aInts (rngI lo hi)) = GL.rngL lo hi := by rw [aInts_pv]; unfold rngI GL.rngL; rw [List.map_map]; rfl
def k1R (x : RV) (ls gh : Ls) : Out (List D) := match x with
  | .v (.sc (.int j)) => if (decide (-GL.med ≤ j) && decide (j < GL.med)) = true then .ok (rngD 0 j) ls gh else .bad
  | _ => .bad
def iR1 (m : PE) : PI := fun ls gh => (m ls gh).bind fun x ls gh => k1R x ls gh
def g1R (w : PV) (S1 : Sto) : GL.Out GL.Wk := match w with
  | .int j => if (decide (-GL.med ≤ j) && decide (j < GL.med)) = true then .ok ⟨GL.rngL 0 j, GL.always⟩ S1 else .bad
  | _ => .bad
theorem sim_ir1 (h : SimE qa ma pa) : SimI qa (fun ad => GL.iR1 (ma ad)) (iR1 pa) := fun F S as ag gd =>
  SimO.weak (sim_first (R' := RI) (q' := true) (k := fun x ls gh => k1R x ls gh) (f := fun ad w S1 => g1R w S1) h gd (fun _ => rfl) fun F1 S1 as1 ag1 c w h1 h2 g1 n1 l1 L1 => by
    show SimO _ _ _ _ _ _ _ _ (k1R c.er (erS as1) (erS ag1))
    unfold k1R
    split
    · rename_i j e
      rw [er_vsc e h1]
      by_cases hl : (decide (-GL.med ≤ j) && decide (j < GL.med)) = true
      · rw [if_pos hl]
        refine sim_okI ((Ev.refl g1 n1 l1).sub (List.nil_sublist _)) (ks := aInts (rngI 0 j)) (chk := GL.always) (fun _ => ?_) (rng_er 0 j) rfl rfl (aInts_fp _) (aInts_ok _) (fun _ _ _ _ _ => rfl)
        simp only [g1R, Sc.pv, if_pos hl, rng_pv]
      · rw [if_neg hl]; trivial
    · trivial) (by simp)
end
def forV (g : MG) (body : MS) : List D → MS
  | [], ls, gh => .nx ls gh
  | d :: r, ls, gh => match g (.v d) ls gh with
    | none => .bad
    | some z => (match body z.1 z.2 with
      | .nx ls2 gh2 => forV g body r ls2 gh2
      | .ct ls2 gh2 => forV g body r ls2 gh2
      | .bk ls2 gh2 => .nx ls2 gh2
      | q => q)
theorem forV_sim {vs : List Nat} {gg : GL.MG} {g : MG} {mb : AD → GL.MS} {pb : MS} {chk : Nat → Sto → Bool} (hg : SimGt vs gg g) (hb : SimS mb pb) : ∀ (ks : List A) (i : Nat) (F : FM) (S : Sto) (as ag : List AV), Good F S as ag → A.fps ks = [] → A.oks F S ks → (∀ F' S' j, Mono F F' → FS F' S' → chk j S' = true) →
    SimSO F S as ag [] (fun ad => GL.forGo chk gg (mb ad) i (A.pvs ks) (glS as ag ad as) S) (forV g pb (A.ers ks) (erS as) (erS ag))
  | [], i, F, S, as, ag, gd, _, _, hc => by
    refine ⟨F, S, as, ag, rfl, rfl, fun ad => ?_, Sv.refl gd⟩
    show GL.forGo chk gg (mb ad) i [] _ S = _
    rw [GL.forGo, if_pos (hc F S i Mono.refl gd.fs)]
  | k :: t, i, F, S, as, ag, gd, fk, ok, hc => by
    have fk : k.fp ++ A.fps t = [] := fk
    obtain ⟨f1, f2⟩ := List.append_eq_nil_iff.mp fk
    have ef : (ARV.v k).fp = [] := f1
    show SimSO _ _ _ _ _ _ (match g (.v k.er) (erS as) (erS ag) with
    | none => .bad
    | some z => (match pb z.1 z.2 with
      | .nx ls2 gh2 => forV g pb (A.ers t) ls2 gh2
      | .ct ls2 gh2 => forV g pb (A.ers t) ls2 gh2
      | .bk ls2 gh2 => .nx ls2 gh2
      | q => q))
    cases hz : g (.v k.er) (erS as) (erS ag) with
    | none => trivial
    | some z =>
      obtain ⟨as1, ag1, a1, a2, a3, _, a5⟩ := hg F S as ag (.v k) k.pv z.1 z.2 gd (by rw [ef, List.append_nil]; exact gd.nd) (by rw [ef]; intro n h; cases h) rfl ok.1 hz
      rw [ef] at a5
      dsimp only
      rw [← a1, ← a2]
      have h2 := hb F S as1 ag1 a5.good
      have hgo : ∀ ad, GL.forGo chk gg (mb ad) i (A.pvs (k :: t)) (glS as ag ad as) S = (match mb ad (glS as1 ag1 ad as1) S with
        | .nx ls2 S2 => GL.forGo chk gg (mb ad) (i + 1) (A.pvs t) ls2 S2
        | .ct ls2 S2 => GL.forGo chk gg (mb ad) (i + 1) (A.pvs t) ls2 S2
        | .bk ls2 S2 => .nx ls2 S2
        | q => q) := fun ad => by
        show GL.forGo chk gg (mb ad) i (k.pv :: A.pvs t) _ S = _
        rw [GL.forGo, if_pos (hc F S i Mono.refl gd.fs), a3]
        all_goals (dsimp only; cases mb ad (glS as1 ag1 ad as1) S <;> rfl)
      refine SimSO.pre a5 ?_
      cases hp : pb (erS as1) (erS ag1) with
      | bad => trivial
      | nx ls gh =>
        rw [hp] at h2
        obtain ⟨F2, S2, as2, ag2, rfl, rfl, b3, sv⟩ := h2
        refine SimSO.pre sv ((forV_sim hg hb t (i + 1) F2 S2 as2 ag2 sv.good f2 (oks_mono sv.mono ok.2 f2) (fun F' S' j m fs => hc F' S' j (sv.mono.trans m) fs)).cg fun ad => ?_)
        rw [hgo]
        rw [show mb ad (glS as1 ag1 ad as1) S = _ from b3 ad]
      | ct ls gh =>
        rw [hp] at h2
        obtain ⟨F2, S2, as2, ag2, rfl, rfl, b3, sv⟩ := h2
        refine SimSO.pre sv ((forV_sim hg hb t (i + 1) F2 S2 as2 ag2 sv.good f2 (oks_mono sv.mono ok.2 f2) (fun F' S' j m fs => hc F' S' j (sv.mono.trans m) fs)).cg fun ad => ?_)
        rw [hgo]
        rw [show mb ad (glS as1 ag1 ad as1) S = _ from b3 ad]
      | bk ls gh =>
        rw [hp] at h2
        obtain ⟨F2, S2, as2, ag2, e1, e2, b3, sv⟩ := h2
        exact ⟨F2, S2, as2, ag2, e1, e2, fun ad => (hgo ad).trans (by rw [show mb ad (glS as1 ag1 ad as1) S = _ from b3 ad]), sv⟩
      | rt d gh =>
        rw [hp] at h2
        obtain ⟨F2, S2, ag2, a, e1, e2, b3, aok, sv⟩ := h2
        exact ⟨F2, S2, ag2, a, e1, e2, fun ad => (hgo ad).trans (by rw [show mb ad (glS as1 ag1 ad as1) S = _ from b3 ad]), aok, sv⟩
      | exc e ls gh =>
        rw [hp] at h2
        obtain ⟨F2, S2, as2, ag2, x, e1, e2, e3, b3, xok, sv⟩ := h2
        exact ⟨F2, S2, as2, ag2, x, e1, e2, e3, fun ad => (hgo ad).trans (by rw [show mb ad (glS as1 ag1 ad as1) S = _ from b3 ad]), xok, sv⟩
def sFor (it : PI) (g : MG) (body : MS) : MS := fun ls gh => (it ls gh).then fun ds ls gh => forV g body ds ls gh
theorem sim_for {vs : List Nat} {q : Bool} {mi : AD → GL.MI} {pi : PI} {gg : GL.MG} {g : MG} {mb : AD → GL.MS} {pb : MS} (hi : SimI q mi pi) (hg : SimGt vs gg g) (hb : SimS mb pb) : SimS (fun ad => GL.sFor (mi ad) gg (mb ad)) (sFor pi g pb) := fun F S as ag gd =>
  sim_then (R := RI) (f := fun ad t S1 => GL.forGo t.chk gg (mb ad) 0 t.items (glS as ag ad as) S1) (k := fun ds ls gh => forV g pb ds ls gh) hi gd (fun _ => rfl) fun F1 S1 as1 ag1 c w h1 h2 g1 n1 l1 L1 => by
    cases h1
    obtain ⟨fk, ok, hc⟩ := h2
    exact (forV_sim hg hb c.1 0 F1 S1 as1 ag1 g1 fk ok hc).cg fun ad => by show GL.forGo c.2 gg (mb ad) 0 (A.pvs c.1) (glS as ag ad as) S1 = _; rw [L1]
def whileL (c : PT) (body : MS) : Nat → MS
  | 0, _, _ => .bad
  | n + 1, ls, gh => (c ls gh).then fun k ls gh => if k = true then (match body ls gh with
      | .nx ls2 gh2 => whileL c body n ls2 gh2
      | .ct ls2 gh2 => whileL c body n ls2 gh2
      | .bk ls2 gh2 => .nx ls2 gh2
      | r => r) else .nx ls gh
def kWh (ad : AD) (mc : AD → GL.MT) (mb : AD → GL.MS) (n : Nat) (L : GL.Ls) (k : Bool) (S1 : Sto) : GL.SOut := if k = true then (match mb ad L S1 with
      | .nx ls2 S2 => GL.whileL (mc ad) (mb ad) n ls2 S2
      | .ct ls2 S2 => GL.whileL (mc ad) (mb ad) n ls2 S2
      | .bk ls2 S2 => .nx ls2 S2
      | r => r) else .nx L S1
theorem sim_while {q : Bool} {mc : AD → GL.MT} {pc : PT} {mb : AD → GL.MS} {pb : MS} (hc : SimT q mc pc) (hb : SimS mb pb) : ∀ n, SimS (fun ad => GL.whileL (mc ad) (mb ad) n) (whileL pc pb n)
  | 0 => fun _ _ _ _ _ => trivial
  | n + 1 => fun F S as ag gd =>
    sim_then (R := RB) (f := fun ad k S1 => kWh ad mc mb n (glS as ag ad as) k S1) (k := fun k ls gh => if k = true then (match pb ls gh with
      | .nx ls2 gh2 => whileL pc pb n ls2 gh2
      | .ct ls2 gh2 => whileL pc pb n ls2 gh2
      | .bk ls2 gh2 => .nx ls2 gh2
      | r => r) else .nx ls gh) hc gd (fun _ => rfl) fun F1 S1 as1 ag1 c w h1 _ g1 n1 l1 L1 => by
      cases h1
      cases c with
      | false => exact ⟨F1, S1, as1, ag1, rfl, rfl, fun ad => congrArg (fun l => GL.SOut.nx l S1) (L1 ad), Sv.refl g1⟩
      | true =>
        have h2 := hb F1 S1 as1 ag1 g1
        have e0 : ∀ ad, kWh ad mc mb n (glS as ag ad as) true S1 = (match mb ad (glS as1 ag1 ad as1) S1 with
          | .nx ls2 S2 => GL.whileL (mc ad) (mb ad) n ls2 S2
          | .ct ls2 S2 => GL.whileL (mc ad) (mb ad) n ls2 S2
          | .bk ls2 S2 => .nx ls2 S2
          | r => r) := fun ad => by unfold kWh; rw [if_pos rfl, L1]
        show SimSO _ _ _ _ _ (fun ad => kWh ad mc mb n (glS as ag ad as) true S1) (match pb (erS as1) (erS ag1) with
          | .nx ls2 gh2 => whileL pc pb n ls2 gh2
          | .ct ls2 gh2 => whileL pc pb n ls2 gh2
          | .bk ls2 gh2 => .nx ls2 gh2
          | r => r)
        cases hp : pb (erS as1) (erS ag1) with
        | bad => trivial
        | nx ls gh =>
          rw [hp] at h2
          obtain ⟨F2, S2, as2, ag2, rfl, rfl, b3, sv⟩ := h2
          exact SimSO.pre sv ((sim_while hc hb n F2 S2 as2 ag2 sv.good).cg fun ad => (e0 ad).trans (by rw [show mb ad (glS as1 ag1 ad as1) S1 = _ from b3 ad]))
        | ct ls gh =>
          rw [hp] at h2
          obtain ⟨F2, S2, as2, ag2, rfl, rfl, b3, sv⟩ := h2
          exact SimSO.pre sv ((sim_while hc hb n F2 S2 as2 ag2 sv.good).cg fun ad => (e0 ad).trans (by rw [show mb ad (glS as1 ag1 ad as1) S1 = _ from b3 ad]))
        | bk ls gh =>
          rw [hp] at h2
          obtain ⟨F2, S2, as2, ag2, e1, e2, b3, sv⟩ := h2
          exact ⟨F2, S2, as2, ag2, e1, e2, fun ad => (e0 ad).trans (by rw [show mb ad (glS as1 ag1 ad as1) S1 = _ from b3 ad]), sv⟩
        | rt d gh =>
          rw [hp] at h2
          obtain ⟨F2, S2, ag2, a, e1, e2, b3, aok, sv⟩ := h2
          exact ⟨F2, S2, ag2, a, e1, e2, fun ad => (e0 ad).trans (by rw [show mb ad (glS as1 ag1 ad as1) S1 = _ from b3 ad]), aok, sv⟩
        | exc e ls gh =>
          rw [hp] at h2
          obtain ⟨F2, S2, as2, ag2, x, e1, e2, e3, b3, xok, sv⟩ := h2
          exact ⟨F2, S2, as2, ag2, x, e1, e2, e3, fun ad => (e0 ad).trans (by rw [show mb ad (glS as1 ag1 ad as1) S1 = _ from b3 ad]), xok, sv⟩
end VL
set_option Elab.async false
set_option linter.all false
set_option maxRecDepth 100000
set_option maxHeartbeats 1000000
namespace VL
open GL (PV OB Sto Nm BT lim)
open PySem (PyData Builtin)
variable {F F' F'' : FM} {S S' S'' : Sto} {as as' as'' ag ag' ag'' : List AV} {x0 x1 x2 : List Nat}
theorem RA_app {as ag : List AV} : ∀ {cs : List ARV} {c : ARV} {ws : List PV} {w : PV}, RA.pv as ag cs = some ws → c.pv as ag = some w → RA.pv as ag (cs ++ [c]) = some (ws ++ [w])
  | [], c, ws, w, h1, h2 => by cases h1; exact seqO_mk h2 rfl
  | d :: r, c, ws, w, h1, h2 => by
    obtain ⟨v, t, hv, ht, rfl⟩ := seqO_cons h1
    exact seqO_mk hv (RA_app (cs := r) ht h2)
theorem sim_thenN {ma : AD → GL.ME} {pa : PE} {f : AD → PV → Sto → GL.SOut} {k : RV → Ls → Ls → SOut} {L : AD → GL.Ls} {cs : List ARV} {ws : List PV}
    (hm : SimE true ma pa) (g : Good F S as ag) (h1 : RA.pv as ag cs = some ws) (h2 : RA.ok F S cs) (nd : (fpS (as ++ ag) ++ RA.fp cs).Nodup) (lt : ∀ n ∈ RA.fp cs, n < S.length) (hL : ∀ ad, L ad = glS as ag ad as)
    (hk : ∀ F' S' as' ag' c w, RA.pv as' ag' (cs ++ [c]) = some (ws ++ [w]) → RA.ok F' S' (cs ++ [c]) → Good F' S' as' ag' → (fpS (as' ++ ag') ++ RA.fp (cs ++ [c])).Nodup → (∀ n ∈ RA.fp (cs ++ [c]), n < S'.length) → (∀ ad, L ad = glS as' ag' ad as') →
      SimSO F' S' as' ag' (RA.fp (cs ++ [c])) (fun ad => f ad w S') (k c.er (erS as') (erS ag'))) :
    SimSO F S as ag (RA.fp cs) (fun ad => (ma ad (L ad) S).then (L ad) (f ad)) ((pa (erS as) (erS ag)).then k) := by
  have h := hm F S as ag g
  have hfr : ∀ {F' : FM} {S' : Sto} {as' ag' : List AV} {x : List Nat}, Ev true F S as ag [] F' S' as' ag' x → Ev true F S as ag (RA.fp cs) F' S' as' ag' (RA.fp cs ++ x) := fun e => by
    have := e.frame (z := RA.fp cs) (by rw [List.append_nil]; exact nd) lt
    rwa [List.append_nil] at this
  cases hp : pa (erS as) (erS ag) with
  | bad => trivial
  | exc e ls gh =>
    rw [hp] at h
    obtain ⟨F2, S2, as2, ag2, x, a1, a2, a3, a4, a5, a6⟩ := h
    refine ⟨F2, S2, as2, ag2, x, a1, a2, a3, fun ad => ?_, a5, ((hfr a6).sub (List.nil_sublist _)).sv⟩
    show (ma ad (L ad) S).then (L ad) _ = _
    rw [hL, show ma ad (glS as ag ad as) S = _ from a4 ad, a6.gl]; rfl
  | ok b ls gh =>
    rw [hp] at h
    obtain ⟨F2, S2, as2, ag2, c, w, rfl, rfl, rfl, a4, a5, a6, a7⟩ := h
    have st := stab_ra true cs (.inl rfl) F S as ag [] F2 S2 as2 ag2 _ ws a7 g (by rw [List.append_nil]; exact nd) h1 h2
    have ev := hfr a7
    have e0 : RA.fp (cs ++ [c]) = RA.fp cs ++ c.fp := by show List.flatMap _ _ = _; rw [List.flatMap_append]; simp; rfl
    have h3 := hk F2 S2 as2 ag2 c w (RA_app st.1 a5) (fun d hd => by
      rcases List.mem_append.mp hd with t | t
      · exact st.2 d t
      · rw [List.mem_singleton.mp t]; exact a6) a7.good (by rw [e0]; exact ev.nd) (by rw [e0]; exact ev.lt) (fun ad => (hL ad).trans (a7.gl ad).symm)
    rw [e0] at h3
    exact SimSO.pre ev.sv (h3.cg fun ad => by
      show (ma ad (L ad) S).then (L ad) _ = _
      rw [hL, show ma ad (glS as ag ad as) S = _ from a4 ad]; rfl)
theorem node_put {t : List Nat → Bool} {r : Rt} {p : List Nat} {n : Nat} {h h' : Hd} {ks ks' : List A} {a : A} (g : Good F S as ag) (nd : (fpS (as ++ ag) ++ a.fp).Nodup) (lt : ∀ m ∈ a.fp, m < S.length) (aok : a.ok F S)
    (hat : atA as ag r p = some (.nd .ow n h ks)) (hw : h'.wf ks'.length = true) (hc : (∃ m, m < ks.length ∧ ks' = ks.set m a ∧ t = exT m) ∨ (ks' = ks ++ [a] ∧ t = allT)) :
    Ev false F S as ag a.fp F (S.set n (mkO h' (A.pvs ks'))) (chA t r p (.nd .ow n h' ks') as ag).1 (chA t r p (.nd .ow n h' ks') as ag).2 [] := by
  have bok := at_ok g hat
  simp only [A.ok] at bok
  have sk := sub_kids g hat
  have nda : (A.fps ks ++ a.fp).Nodup := nd.sublist (List.Sublist.append_right sk _)
  rcases hc with ⟨m, hm, rfl, rfl⟩ | ⟨rfl, rfl⟩
  · have hx : ks[m]? = some ks[m] := List.getElem?_eq_getElem hm
    obtain ⟨L, R, e1, e2⟩ := flat_set hx
    refine node_write (fun h => by cases h) g nd lt hat hw ?_ ?_ ?_ ?_
    · rw [oks_iff]
      intro x hx
      rcases List.mem_or_eq_of_mem_set hx with h | h
      · exact (oks_iff ks).mp bok.2.2 x h
      · rw [h]; exact aok
    · rw [List.append_nil, e2]
      rw [e1] at nda
      have n2 : (L ++ R ++ a.fp).Nodup := nda.sublist (List.Sublist.append_right (List.Sublist.append_right (List.sublist_append_left _ _) _) _)
      refine (List.Perm.nodup_iff ?_).mp n2
      have : (L ++ (R ++ a.fp)).Perm (L ++ (a.fp ++ R)) := List.Perm.append_left _ List.perm_append_comm
      simpa using this
    · intro k hk
      rw [List.append_nil, e2] at hk
      rw [e1]
      simp only [List.mem_append] at hk ⊢
      rcases hk with (h | h) | h <;> simp [h]
    · intro i s k hs hk
      have : i ≠ m := of_decide_eq_true hs
      rw [List.getElem?_set_ne (fun e => this e.symm)]; exact hk
  · refine node_write (fun h => by cases h) g nd lt hat hw (oks_app bok.2.2 ⟨aok, trivial⟩) ?_ ?_ ?_
    · rw [List.append_nil, fps_app]; simpa [A.fps] using nda
    · intro k hk
      rw [List.append_nil, fps_app] at hk
      simpa [A.fps] using hk
    · intro i s k _ hk
      rw [List.getElem?_append_left (List.getElem?_eq_some_iff.mp hk).1]; exact hk
def nxD (z : Ls × Ls) : SOut := .nx z.1 z.2
theorem sim_nxD {t : List Nat → Bool} {r : Rt} {p : List Nat} {y : A} {d : D} (hd : y.er = d) {L : AD → GL.Ls} {o : AD → GL.SOut} (ho : ∀ ad, o ad = .nx (L ad) S') (hL : ∀ ad, L ad = glS as ag ad as) (ev : Ev false F S as ag x0 F' S' (chA t r p y as ag).1 (chA t r p y as ag).2 []) :
    SimSO F S as ag x0 o (nxD (chD t r p d (erS as) (erS ag))) := by
  subst hd
  have e := ch_er t r p y as ag
  rw [← e]
  exact ⟨F', S', _, _, rfl, rfl, fun ad => by rw [ho, hL, ev.gl], ev.sv⟩
theorem ers_set (xs : List A) (m : Nat) (a : A) : A.ers (xs.set m a) = (A.ers xs).set m a.er := by rw [ers_map, ers_map, List.map_set]
theorem pvs_set (xs : List A) (m : Nat) (a : A) : A.pvs (xs.set m a) = (A.pvs xs).set m a.pv := by rw [pvs_map, pvs_map, List.map_set]
theorem three {as ag : List AV} {c1 c2 c3 : ARV} {w1 w2 w3 : PV} (h : RA.pv as ag (([c1] ++ [c2]) ++ [c3]) = some (([w1] ++ [w2]) ++ [w3])) : c1.pv as ag = some w1 ∧ c2.pv as ag = some w2 ∧ c3.pv as ag = some w3 := by
  obtain ⟨a, t, ha, ht, e⟩ := seqO_cons h
  cases e
  obtain ⟨b, t2, hb, ht2, e⟩ := seqO_cons ht
  cases e
  obtain ⟨c, t3, hc, ht3, e⟩ := seqO_cons ht2
  cases e
  exact ⟨ha, hb, hc⟩
theorem two {as ag : List AV} {c1 c2 : ARV} {w1 w2 : PV} (h : RA.pv as ag ([c1] ++ [c2]) = some ([w1] ++ [w2])) : c1.pv as ag = some w1 ∧ c2.pv as ag = some w2 := by
  obtain ⟨a, t, ha, ht, e⟩ := seqO_cons h
  cases e
  obtain ⟨b, t2, hb, ht2, e⟩ := seqO_cons ht
  cases e
  exact ⟨ha, hb⟩
theorem sub1 (c1 : ARV) (r : List ARV) : (c1.fp).Sublist (RA.fp (c1 :: r)) := List.sublist_append_left _ _
theorem preSub (g : Good F S as ag) (nd : (fpS (as ++ ag) ++ x0).Nodup) (lt : ∀ n ∈ x0, n < S.length) (sub : x1.Sublist x0) {o : AD → GL.SOut} {p : SOut} (h : SimSO F S as ag x1 o p) : SimSO F S as ag x0 o p :=
  SimSO.pre ((Ev.refl (q := true) g nd lt).sub sub).sv h
theorem putN_zip {f : Nm} {y : PV} : ∀ (ns : List Nm) (ws : List PV), ns.length = ws.length → GL.putN f y (ns.zip ws) = match idxN f ns with
    | some i => ns.zip (ws.set i y)
    | none => (ns ++ [f]).zip (ws ++ [y])
  | [], [], _ => rfl
  | [], _ :: _, h => by cases h
  | _ :: _, [], h => by cases h
  | g :: r, w :: ws, h => by
    have ih := putN_zip (f := f) (y := y) r ws (Nat.succ.inj h)
    show GL.putN f y ((g, w) :: r.zip ws) = _
    unfold GL.putN idxN
    by_cases hg : g = f
    · rw [if_pos hg, if_pos hg]; simp
    · rw [if_neg hg, if_neg hg, ih]
      cases idxN f r with
      | none => rfl
      | some i => rfl
theorem idxN_lt {f : Nm} : ∀ {ns : List Nm} {i : Nat}, idxN f ns = some i → i < ns.length
  | [], i, h => by cases h
  | g :: r, i, h => by
    unfold idxN at h
    split at h
    · cases h; simp
    · obtain ⟨j, hj, rfl⟩ := Option.map_eq_some_iff.mp h
      have := idxN_lt hj
      simp only [List.length_cons]; omega
def putF (tab : Nm → Nm → Bool) (f : Nm) (x y : RV) (ls gh : Ls) : SOut := match y with
  | .pth r p => (match cvR true x ls gh with
    | some (d, ls, gh) => (match atD ls gh r p with
      | some (.nd .ow (.ins C ns) xs) => if (tab C f && decide (xs.length < 1000)) = true then (match idxN f ns with
        | some i => nxD (chD (exT i) r p (.nd .ow (.ins C ns) (xs.set i d)) ls gh)
        | none => nxD (chD allT r p (.nd .ow (.ins C (ns ++ [f])) (xs ++ [d])) ls gh)) else .bad
      | _ => .bad)
    | none => .bad)
  | _ => .bad
def sFldM (tab : Nm → Nm → Bool) (f : Nm) (o v : PE) : MS := fun ls gh => (v ls gh).then fun x ls gh => (o ls gh).then fun y ls gh => putF tab f x y ls gh
def gPutF (tab : Nm → Nm → Bool) (f : Nm) (L : GL.Ls) (y w : PV) (S2 : Sto) : GL.SOut := match GL.insAt S2 w with
  | some (n, C, fs) => if (tab C f && decide (fs.length < 1000)) = true then .nx L (S2.set n (.ins C (GL.putN f y fs))) else .bad
  | none => .bad
theorem putF_sim {tab : Nm → Nm → Bool} {f : Nm} {c1 c2 : ARV} {w1 w2 : PV} {L : AD → GL.Ls} (g : Good F S as ag) (nd : (fpS (as ++ ag) ++ RA.fp ([c1] ++ [c2])).Nodup) (lt : ∀ n ∈ RA.fp ([c1] ++ [c2]), n < S.length) (h : RA.pv as ag ([c1] ++ [c2]) = some ([w1] ++ [w2])) (hk : RA.ok F S ([c1] ++ [c2])) (hL : ∀ ad, L ad = glS as ag ad as) :
    SimSO F S as ag (RA.fp ([c1] ++ [c2])) (fun ad => gPutF tab f (L ad) w1 w2 S) (putF tab f c1.er c2.er (erS as) (erS ag)) := by
  obtain ⟨h1, h2⟩ := two h
  have s1 : (c1.fp).Sublist (RA.fp ([c1] ++ [c2])) := sub1 c1 _
  have nd1 := nd.sublist (List.Sublist.append_left s1 _)
  have lt1 : ∀ n ∈ c1.fp, n < S.length := fun n hn => lt n (s1.subset hn)
  refine preSub g nd lt s1 ?_
  unfold putF
  split
  · rename_i r p e2
    cases hc : cvR true c1.er (erS as) (erS ag) with
    | none => trivial
    | some z =>
      obtain ⟨d, l1, g1⟩ := z
      obtain ⟨F1, as1, ag1, a, rfl, rfl, rfl, rfl, aok, _, ev⟩ := cv_sim0 g nd1 lt1 h1 (hk c1 (by simp)) hc
      dsimp only
      split
      · rename_i C ns xs hx
        obtain ⟨b, hb, eb⟩ := at_er' hx
        obtain ⟨n, ys, rfl, rfl⟩ := er_nd eb
        have hw2 : w2 = .loc n := by
          cases c2 with
          | v _ => cases e2
          | pth r' p' =>
            cases e2
            have := ev.per rfl r p w2 h2
            rw [hb] at this
            cases this; rfl
        subst hw2
        have bok := at_ok ev.good hb
        have hw : ns.length = ys.length := by simpa [Hd.wf] using wf_of bok
        simp only [A.ok] at bok
        have ob : S[n]? = some (.ins C (ns.zip (A.pvs ys))) := bok.1.2
        have hins : GL.insAt S (.loc n) = some (n, C, ns.zip (A.pvs ys)) := by unfold GL.insAt; simp only [ob]
        have hzl : (ns.zip (A.pvs ys)).length = (A.ers ys).length := by rw [List.length_zip, pvs_len, ers_len, hw]; simp
        have hpz := putN_zip (f := f) (y := a.pv) ns (A.pvs ys) (by rw [pvs_len]; exact hw)
        by_cases hl : (tab C f && decide ((A.ers ys).length < 1000)) = true
        · rw [if_pos hl]
          refine SimSO.pre ev.sv ?_
          have hg : ∀ ad, gPutF tab f (L ad) a.pv (.loc n) S = .nx (L ad) (S.set n (.ins C (GL.putN f a.pv (ns.zip (A.pvs ys))))) := fun ad => by
            unfold gPutF
            simp only [hins, hzl, if_pos hl]
          split
          · rename_i i hi
            rw [hi] at hpz
            have hil : i < ys.length := hw ▸ idxN_lt hi
            refine sim_nxD (y := .nd .ow n (.ins C ns) (ys.set i a)) (S' := S.set n (mkO (.ins C ns) (A.pvs (ys.set i a)))) (F' := F1) (L := L) (by simp [A.er, ers_set]) (fun ad => ?_) (fun ad => (hL ad).trans (ev.gl ad).symm) (node_put ev.good ev.nd ev.lt aok hb (by simp [Hd.wf, hw]) (.inl ⟨i, hil, rfl, rfl⟩))
            rw [hg, hpz]; simp only [mkO, pvs_set]
          · rename_i hi
            rw [hi] at hpz
            refine sim_nxD (y := .nd .ow n (.ins C (ns ++ [f])) (ys ++ [a])) (S' := S.set n (mkO (.ins C (ns ++ [f])) (A.pvs (ys ++ [a])))) (F' := F1) (L := L) (by simp [A.er, ers_app, A.ers]) (fun ad => ?_) (fun ad => (hL ad).trans (ev.gl ad).symm) (node_put ev.good ev.nd ev.lt aok hb (by simp [Hd.wf, hw]) (.inr ⟨rfl, rfl⟩))
            rw [hg, hpz]; simp [mkO, pvs_app, A.pvs]
        · rw [if_neg hl]; trivial
      · trivial
  · trivial
theorem sim_sfld {tab : Nm → Nm → Bool} {f : Nm} {q : Bool} {mo mv : AD → GL.ME} {po pv : PE} (ho : SimE true mo po) (hv : SimE q mv pv) : SimS (fun ad => GL.sFldM tab f (mo ad) (mv ad)) (sFldM tab f po pv) := fun F S as ag g =>
  sim_then (R := RE) (f := fun ad y S1 => (mo ad (glS as ag ad as) S1).then (glS as ag ad as) fun w S2 => gPutF tab f (glS as ag ad as) y w S2) (k := fun x ls gh => (po ls gh).then fun y ls gh => putF tab f x y ls gh) hv g (fun _ => rfl) fun F1 S1 as1 ag1 c1 w1 h1 h2 g1 n1 l1 L1 => by
    have e0 : RA.fp [c1] = c1.fp := List.append_nil _
    have h := sim_thenN (cs := [c1]) (ws := [w1]) (L := fun ad => glS as ag ad as) (f := fun ad w S2 => gPutF tab f (glS as ag ad as) w1 w S2) (k := fun y ls gh => putF tab f (RE.er c1) y ls gh) ho g1 (seqO_mk h1 rfl) (fun c hc => by rw [List.mem_singleton.mp hc]; exact h2) (by rw [e0]; exact n1) (by rw [e0]; exact l1) L1
      (fun F2 S2 as2 ag2 c2 w2 h1 h2 g2 n2 l2 L2 => putF_sim g2 n2 l2 h1 h2 L2)
    rw [e0] at h
    exact h
theorem setP_zip {k y : PV} : ∀ (ks : List PV) (ws : List PV) {i : Nat}, ks.length = ws.length → idxK k ks = some i → idxK k (ks.drop (i + 1)) = none → GL.setP k y (ks.zip ws) = ks.zip (ws.set i y)
  | [], _, i, _, h, _ => by cases h
  | _ :: _, [], i, h, _, _ => by cases h
  | g :: r, w :: ws, i, h, hi, hn => by
    have none_set : ∀ (ks : List PV) (ws : List PV), idxK k ks = none → GL.setP k y (ks.zip ws) = ks.zip ws := fun ks => by
      induction ks with
      | nil => intro ws _; rfl
      | cons a t ih =>
        intro ws hk
        cases ws with
        | nil => rfl
        | cons b u =>
          unfold idxK at hk
          split at hk
          · cases hk
          · rename_i ha
            show (if GL.keqP a k = true then (a, y) else (a, b)) :: GL.setP k y (t.zip u) = _
            rw [if_neg ha, ih u (Option.map_eq_none_iff.mp hk)]; rfl
    unfold idxK at hi
    show (if GL.keqP g k = true then (g, y) else (g, w)) :: GL.setP k y (r.zip ws) = _
    split at hi
    · rename_i hg
      cases hi
      rw [if_pos hg, none_set r ws (by simpa using hn)]; rfl
    · rename_i hg
      obtain ⟨j, hj, rfl⟩ := Option.map_eq_some_iff.mp hi
      rw [if_neg hg, setP_zip r ws (Nat.succ.inj h) hj (by simpa using hn)]; rfl
def putK (x y z : RV) (ls gh : Ls) : SOut := match y, keyD z with
  | .pth r p, some k => (match cvR true x ls gh with
    | some (d, ls, gh) => (match atD ls gh r p with
      | some (.nd .ow (.dct ks) xs) => if xs.length < 1000 then (match idxK k ks with
        | some i => if (idxK k (ks.drop (i + 1))).isNone = true then nxD (chD (exT i) r p (.nd .ow (.dct ks) (xs.set i d)) ls gh) else .bad
        | none => nxD (chD allT r p (.nd .ow (.dct (ks ++ [k])) (xs ++ [d])) ls gh)) else .bad
      | _ => .bad)
    | none => .bad)
  | _, _ => .bad
def sDPutM (d k e : PE) : MS := fun ls gh => (e ls gh).then fun x ls gh => (d ls gh).then fun y ls gh => (k ls gh).then fun z ls gh => putK x y z ls gh
def gPutK (L : GL.Ls) (v w y : PV) (S3 : Sto) : GL.SOut := match w with
  | .loc n => (match GL.dctAt S3 n with
    | some kvs => if (GL.isKeyP y && decide (kvs.length < 1000)) = true then .nx L (S3.set n (.dct (GL.putP y v kvs))) else .bad
    | none => .bad)
  | _ => .bad
theorem putK_sim {c1 c2 c3 : ARV} {w1 w2 w3 : PV} {L : AD → GL.Ls} (g : Good F S as ag) (nd : (fpS (as ++ ag) ++ RA.fp (([c1] ++ [c2]) ++ [c3])).Nodup) (lt : ∀ n ∈ RA.fp (([c1] ++ [c2]) ++ [c3]), n < S.length) (h : RA.pv as ag (([c1] ++ [c2]) ++ [c3]) = some (([w1] ++ [w2]) ++ [w3])) (hk : RA.ok F S (([c1] ++ [c2]) ++ [c3])) (hL : ∀ ad, L ad = glS as ag ad as) :
    SimSO F S as ag (RA.fp (([c1] ++ [c2]) ++ [c3])) (fun ad => gPutK (L ad) w1 w2 w3 S) (putK c1.er c2.er c3.er (erS as) (erS ag)) := by
  obtain ⟨h1, h2, h3⟩ := three h
  have s1 : (c1.fp).Sublist (RA.fp (([c1] ++ [c2]) ++ [c3])) := sub1 c1 _
  have nd1 := nd.sublist (List.Sublist.append_left s1 _)
  have lt1 : ∀ n ∈ c1.fp, n < S.length := fun n hn => lt n (s1.subset hn)
  refine preSub g nd lt s1 ?_
  unfold putK
  split
  · rename_i r p k e2 e3
    obtain ⟨rfl, hkey⟩ := keyD_er e3 h3
    cases hc : cvR true c1.er (erS as) (erS ag) with
    | none => trivial
    | some z =>
      obtain ⟨d, l1, g1⟩ := z
      obtain ⟨F1, as1, ag1, a, rfl, rfl, rfl, rfl, aok, _, ev⟩ := cv_sim0 g nd1 lt1 h1 (hk c1 (by simp)) hc
      dsimp only
      split
      · rename_i ks xs hx
        obtain ⟨b, hb, eb⟩ := at_er' hx
        obtain ⟨n, ys, rfl, rfl⟩ := er_nd eb
        have hw2 : w2 = .loc n := by
          cases c2 with
          | v _ => cases e2
          | pth r' p' =>
            cases e2
            have := ev.per rfl r p w2 h2
            rw [hb] at this
            cases this; rfl
        subst hw2
        have bok := at_ok ev.good hb
        have hw : ks.length = ys.length := by simpa [Hd.wf] using wf_of bok
        simp only [A.ok] at bok
        have ob : S[n]? = some (.dct (ks.zip (A.pvs ys))) := bok.1.2
        have hd : GL.dctAt S n = some (ks.zip (A.pvs ys)) := by unfold GL.dctAt; rw [ob]
        have hzl : (ks.zip (A.pvs ys)).length = (A.ers ys).length := by rw [List.length_zip, pvs_len, ers_len, hw]; simp
        have hlp := lookP_zip (k := w3) ks (A.pvs ys) (by rw [pvs_len]; exact hw)
        by_cases hl : (A.ers ys).length < 1000
        · rw [if_pos hl]
          refine SimSO.pre ev.sv ?_
          have hg : ∀ ad, gPutK (L ad) a.pv (.loc n) w3 S = .nx (L ad) (S.set n (.dct (GL.putP w3 a.pv (ks.zip (A.pvs ys))))) := fun ad => by
            unfold gPutK
            simp only [hd, hzl, hkey, Bool.true_and, decide_eq_true hl, if_true]
          split
          · rename_i i hi
            by_cases hu : (idxK w3 (ks.drop (i + 1))).isNone = true
            · rw [if_pos hu]
              have hil : i < ys.length := hw ▸ idxK_lt hi
              have hpz : GL.putP w3 a.pv (ks.zip (A.pvs ys)) = ks.zip ((A.pvs ys).set i a.pv) := by
                unfold GL.putP
                rw [hlp, hi, Option.bind_some, List.getElem?_eq_getElem (by rw [pvs_len]; exact hil)]
                exact setP_zip ks _ (by rw [pvs_len]; exact hw) hi (Option.isNone_iff_eq_none.mp hu)
              refine sim_nxD (y := .nd .ow n (.dct ks) (ys.set i a)) (S' := S.set n (mkO (.dct ks) (A.pvs (ys.set i a)))) (F' := F1) (L := L) (by simp [A.er, ers_set]) (fun ad => ?_) (fun ad => (hL ad).trans (ev.gl ad).symm) (node_put ev.good ev.nd ev.lt aok hb (by simp [Hd.wf, hw]) (.inl ⟨i, hil, rfl, rfl⟩))
              rw [hg, hpz]; simp only [mkO, pvs_set]
            · rw [if_neg hu]; trivial
          · rename_i hi
            have hpz : GL.putP w3 a.pv (ks.zip (A.pvs ys)) = ks.zip (A.pvs ys) ++ [(w3, a.pv)] := by
              unfold GL.putP
              rw [hlp, hi]; rfl
            refine sim_nxD (y := .nd .ow n (.dct (ks ++ [w3])) (ys ++ [a])) (S' := S.set n (mkO (.dct (ks ++ [w3])) (A.pvs (ys ++ [a])))) (F' := F1) (L := L) (by simp [A.er, ers_app, A.ers]) (fun ad => ?_) (fun ad => (hL ad).trans (ev.gl ad).symm) (node_put ev.good ev.nd ev.lt aok hb (by simp [Hd.wf, hw]) (.inr ⟨rfl, rfl⟩))
            rw [hg, hpz]
            have : (ks ++ [w3]).zip (A.pvs ys ++ [a.pv]) = ks.zip (A.pvs ys) ++ [(w3, a.pv)] := by
              rw [List.zip_append (by rw [pvs_len]; exact hw)]; rfl
            simp [mkO, pvs_app, A.pvs, this]
        · rw [if_neg hl]; trivial
      · trivial
  · trivial
theorem sim_dput {q : Bool} {md mk me : AD → GL.ME} {pd pk pe : PE} (hd : SimE true md pd) (hkk : SimE true mk pk) (he : SimE q me pe) : SimS (fun ad => GL.sDPutM (md ad) (mk ad) (me ad)) (sDPutM pd pk pe) := fun F S as ag g =>
  sim_then (R := RE) (f := fun ad w S1 => (md ad (glS as ag ad as) S1).then (glS as ag ad as) fun l S2 => (mk ad (glS as ag ad as) S2).then (glS as ag ad as) fun k S3 => gPutK (glS as ag ad as) w l k S3)
    (k := fun x ls gh => (pd ls gh).then fun y ls gh => (pk ls gh).then fun k ls gh => putK x y k ls gh) he g (fun _ => rfl) fun F1 S1 as1 ag1 c1 w1 h1 h2 g1 n1 l1 L1 => by
    have e0 : RA.fp [c1] = c1.fp := List.append_nil _
    have h := sim_thenN (cs := [c1]) (ws := [w1]) (L := fun ad => glS as ag ad as) (f := fun ad l S2 => (mk ad (glS as ag ad as) S2).then (glS as ag ad as) fun k S3 => gPutK (glS as ag ad as) w1 l k S3) (k := fun y ls gh => (pk ls gh).then fun k ls gh => putK (RE.er c1) y k ls gh) hd g1 (seqO_mk h1 rfl) (fun c hc => by rw [List.mem_singleton.mp hc]; exact h2) (by rw [e0]; exact n1) (by rw [e0]; exact l1) L1
      (fun F2 S2 as2 ag2 c2 w2 h1 h2 g2 n2 l2 L2 => sim_thenN (cs := [c1] ++ [c2]) (ws := [w1] ++ [w2]) (L := fun ad => glS as ag ad as) (f := fun ad k S3 => gPutK (glS as ag ad as) w1 w2 k S3) (k := fun k ls gh => putK (RE.er c1) c2.er k ls gh) hkk g2 h1 h2 n2 l2 L2
        (fun F3 S3 as3 ag3 c3 w3 h1 h2 g3 n3 l3 L3 => putK_sim g3 n3 l3 h1 h2 L3))
    rw [e0] at h
    exact h
end VL
set_option Elab.async false
set_option linter.all false
set_option maxRecDepth 100000
set_option maxHeartbeats 1000000
namespace VL
open GL (PV OB Sto Nm BT lim)
open PySem (PyData Builtin)
variable {F F' F'' : FM} {S S' S'' : Sto} {as as' as'' ag ag' ag'' : List AV} {x0 x1 x2 : List Nat}
def resD (f : Nat → Option V) : List Nat → Ls → Ls → Ls × Ls
  | [], ls, gh => (ls, gh)
  | v :: r, ls, gh => resD f r ((ls.map (killR v)).set v (f v)) (gh.map (killR v))
def resA (f : Nat → AV) : List Nat → List AV → List AV → List AV × List AV
  | [], as, ag => (as, ag)
  | v :: r, as, ag => resA f r (stA as ag v (f v)).1 (stA as ag v (f v)).2
theorem res_er (f : Nat → AV) : ∀ (vs : List Nat) (as ag : List AV), (erS (resA f vs as ag).1, erS (resA f vs as ag).2) = resD (fun v => (f v).er) vs (erS as) (erS ag)
  | [], as, ag => rfl
  | v :: r, as, ag => by
    unfold resA resD
    rw [res_er f r]
    have k : ∀ zs : List AV, erS (zs.map (killRA as ag v)) = (erS zs).map (killR v) := fun zs => by
      simp only [erS, List.map_map]
      exact List.map_congr_left fun z _ => killR_er v z
    have e1 : erS (stA as ag v (f v)).1 = ((erS as).map (killR v)).set v (f v).er := by
      show erS ((as.map (killRA as ag v)).set v (f v)) = _
      rw [← k]; simp only [erS, List.map_set]
    have e2 : erS (stA as ag v (f v)).2 = (erS ag).map (killR v) := k ag
    rw [e1, e2]
structure Cst (F : FM) (S : Sto) (z : AV) (o : Option PV) : Prop where
  fp : z.fp = []
  ok : z.ok F S
  gl : ∀ as ag ad, glv as ag ad z = o
  al : ∀ as ag, Alive as ag z
structure Res (F : FM) (S : Sto) (vs : List Nat) (f : Nat → AV) (o : Nat → Option PV) (as ag as' ag' : List AV) : Prop where
  sv : Sv F S as ag [] F S as' ag' []
  inn : ∀ ad j, j ∈ vs → (glS as' ag' ad as')[j]? = some (o j)
  out : ∀ ad j, j ∉ vs → (glS as' ag' ad as')[j]? = (glS as ag ad as)[j]?
  rt : ∀ r, (∀ v ∈ vs, r ≠ .l v) → rootA as' ag' r = rootA as ag r
  rv : ∀ v ∈ vs, rootA as' ag' (.l v) = slotA (some (f v))
  len : as'.length = as.length
theorem res_sim (f : Nat → AV) (o : Nat → Option PV) : ∀ (vs : List Nat) (as ag : List AV), (∀ v ∈ vs, Cst F S (f v) (o v)) → Good F S as ag → (∀ v ∈ vs, v < as.length) → Res F S vs f o as ag (resA f vs as ag).1 (resA f vs as ag).2
  | [], as, ag, _, g, _ => ⟨Sv.refl g, (fun _ _ h => by cases h), (fun _ _ _ => rfl), (fun _ _ => rfl), (fun _ h => by cases h), rfl⟩
  | v :: r, as, ag, hc, g, hl => by
    have cv := hc v List.mem_cons_self
    have lv := hl v List.mem_cons_self
    have sv1 : Sv F S as ag [] F S (stA as ag v (f v)).1 (stA as ag v (f v)).2 [] := sv_set g (good_nd g) (fun _ h => by cases h) lv cv.ok (cv.al _ _) (fun _ _ => .inr (by rw [cv.fp]; exact List.nil_sublist _))
    have l1 : (stA as ag v (f v)).1.length = as.length := by simp [stA]
    have ih := res_sim f o r (stA as ag v (f v)).1 (stA as ag v (f v)).2 (fun u hu => hc u (List.mem_cons_of_mem _ hu)) sv1.good (fun u hu => by rw [l1]; exact hl u (List.mem_cons_of_mem _ hu))
    have g1 : ∀ ad j, (glS (stA as ag v (f v)).1 (stA as ag v (f v)).2 ad (stA as ag v (f v)).1)[j]? = if j = v then some (o v) else (glS as ag ad as)[j]? := fun ad j => by
      show (((as.map (killRA as ag v)).set v (f v)).map _)[j]? = _
      rw [List.map_set, cv.gl, List.map_map]
      have e : (as.map (glv (stA as ag v (f v)).1 (stA as ag v (f v)).2 ad ∘ killRA as ag v)) = glS as ag ad as := List.map_congr_left fun y _ => st_glv ad
      show ((as.map (glv (stA as ag v (f v)).1 (stA as ag v (f v)).2 ad ∘ killRA as ag v)).set v (o v))[j]? = _
      rw [e]
      by_cases hj : j = v
      · subst hj
        rw [if_pos rfl, List.getElem?_set_self (by simpa [glS] using lv)]
      · rw [if_neg hj, List.getElem?_set_ne (fun q => hj q.symm)]
    have rv1 : rootA (stA as ag v (f v)).1 (stA as ag v (f v)).2 (.l v) = slotA (some (f v)) := by
      show slotA ((as.map (killRA as ag v)).set v (f v))[v]? = _
      rw [List.getElem?_set_self (by simpa using lv)]
    refine ⟨sv1.trans ih.sv, fun ad j hj => ?_, fun ad j hj => ?_, fun rr hr => ?_, fun u hu => ?_, ih.len.trans l1⟩
    · by_cases hjr : j ∈ r
      · exact ih.inn ad j hjr
      · rcases List.mem_cons.mp hj with rfl | h
        · exact (ih.out ad j hjr).trans ((g1 ad j).trans (if_pos rfl))
        · exact absurd h hjr
    · have h1 : j ≠ v := fun e => hj (e ▸ List.mem_cons_self)
      have h2 : j ∉ r := fun e => hj (List.mem_cons_of_mem _ e)
      exact (ih.out ad j h2).trans ((g1 ad j).trans (if_neg h1))
    · exact (ih.rt rr fun u hu => hr u (List.mem_cons_of_mem _ hu)).trans (st_root (hr v List.mem_cons_self))
    · by_cases hur : u ∈ r
      · exact ih.rv u hur
      · rcases List.mem_cons.mp hu with rfl | h
        · exact (ih.rt (.l u) fun w hw e => hur (by cases e; exact hw)).trans rv1
        · exact absurd h hur
def okV : Option V → Bool
  | some (.v d) => d.shr
  | some (.al _ _) => true
  | none => true
  | _ => false
def keepV : Option V → Option V
  | some (.v d) => some (.v d)
  | _ => none
def lcV (g : MG) (tt : PT) (te : PE) (vs : List Nat) (ls0 : Ls) : List D → List D → PE
  | [], acc, ls, gh => .ok (.v (.nd .ow .lst acc)) ls gh
  | d :: r, acc, ls, gh => match g (.v d) (resD (fun _ => none) vs ls gh).1 (resD (fun _ => none) vs ls gh).2 with
    | none => .bad
    | some z => (match tt z.1 z.2 with
      | .ok true ls2 gh2 => (match te ls2 gh2 with
        | .ok x ls3 gh3 => (match cvR true x ls3 gh3 with
          | some (e, ls4, gh4) => if acc.length < lim then lcV g tt te vs ls0 r (acc ++ [e]) (resD (fun v => keepV (ls0.getD v none)) vs ls4 gh4).1 (resD (fun v => keepV (ls0.getD v none)) vs ls4 gh4).2 else .bad
          | none => .bad)
        | _ => .bad)
      | .ok false ls2 gh2 => lcV g tt te vs ls0 r acc (resD (fun v => keepV (ls0.getD v none)) vs ls2 gh2).1 (resD (fun v => keepV (ls0.getD v none)) vs ls2 gh2).2
      | _ => .bad)
def eLc (it : PI) (g : MG) (tt : PT) (te : PE) (vs : List Nat) : PE := fun ls gh => (it ls gh).bind fun ds ls gh =>
  if (vs.all fun v => decide (v < ls.length) && okV (ls.getD v none)) = true then lcV g tt te vs ls ds [] ls gh else .bad
def keepA (as ag : List AV) (z : AV) : AV := match z with
  | .v a => .v a
  | z => .un (glv as ag (0, 0) z)
theorem keep_er (z : AV) : (keepA as ag z).er = keepV z.er := by cases z <;> rfl
theorem wipe_in : ∀ (vs : List Nat) (L : GL.Ls) (j : Nat), j ∈ vs → j < L.length → (GL.wipeL L vs)[j]? = some none
  | [], _, _, h, _ => by cases h
  | v :: r, L, j, h, hj => by
    have wl : ∀ (r : List Nat) (L : GL.Ls), (GL.wipeL L r).length = L.length := fun r => by
      induction r with
      | nil => intro L; rfl
      | cons a t ih => intro L; show ((GL.wipeL L t).set a none).length = _; rw [List.length_set, ih]
    show ((GL.wipeL L r).set v none)[j]? = _
    by_cases e : j = v
    · subst e; rw [List.getElem?_set_self (by rw [wl]; exact hj)]
    · rw [List.getElem?_set_ne (fun q => e q.symm)]
      exact wipe_in r L j (by rcases List.mem_cons.mp h with h | h; exact absurd h e; exact h) hj
theorem wipe_out : ∀ (vs : List Nat) (L : GL.Ls) (j : Nat), j ∉ vs → (GL.wipeL L vs)[j]? = L[j]?
  | [], _, _, _ => rfl
  | v :: r, L, j, h => by
    show ((GL.wipeL L r).set v none)[j]? = _
    have hne : v ≠ j := fun e => h (by rw [e]; exact List.mem_cons_self)
    rw [List.getElem?_set_ne hne]
    exact wipe_out r L j fun e => h (List.mem_cons_of_mem _ e)
theorem Sv.frame (a : Sv F S as ag x0 F' S' as' ag' x1) {z : List Nat} (hn : (fpS (as ++ ag) ++ (z ++ x0)).Nodup) (hz : ∀ n ∈ z, n < S.length) : (∀ n ∈ z, F' n = F n ∧ S'[n]? = S[n]?) ∧ (fpS (as' ++ ag') ++ (z ++ x1)).Nodup ∧ (∀ n ∈ z ++ x1, n < S'.length) := by
  have hd : ∀ n ∈ z, n ∉ fpS (as ++ ag) ++ x0 := fun n hz hx => by
    have h1 := List.nodup_append.mp hn
    have h2 := List.nodup_append.mp h1.2.1
    rcases List.mem_append.mp hx with t | t
    · exact h1.2.2 n t n (List.mem_append_left _ hz) rfl
    · exact h2.2.2 n hz n t rfl
  have hd2 : ∀ n ∈ z, n ∉ fpS (as' ++ ag') ++ x1 := fun n hz' hx => by
    rcases a.new n hx with t | t
    · exact hd n hz' t
    · exact absurd (hz n hz') (Nat.not_lt.mpr t)
  refine ⟨fun n h => a.keep n (hz n h) (hd n h), ?_, fun n hn => ?_⟩
  · have h1 := List.nodup_append.mp a.nd
    refine List.nodup_append.mpr ⟨h1.1, List.nodup_append.mpr ⟨?_, h1.2.1, fun n h m h' e => ?_⟩, fun n h m h' e => ?_⟩
    · exact (List.nodup_append.mp (List.nodup_append.mp hn).2.1).1
    · exact hd2 n h (e ▸ List.mem_append_right _ h')
    · rcases List.mem_append.mp h' with t | t
      · exact hd2 m t (e ▸ List.mem_append_left _ h)
      · exact h1.2.2 n h m t e
  · rcases List.mem_append.mp hn with t | t
    · exact Nat.lt_of_lt_of_le (hz n t) a.len
    · exact a.lt n t
theorem Sv.frameS (a : Sv F S as ag x0 F' S' as' ag' x1) {z : List Nat} (hn : (fpS (as ++ ag) ++ (z ++ x0)).Nodup) (hz : ∀ n ∈ z, n < S.length) : Sv F S as ag (z ++ x0) F' S' as' ag' (z ++ x1) := by
  obtain ⟨_, h2, h3⟩ := a.frame hn hz
  refine ⟨a.good, h2, h3, a.mono, a.len, fun n hl hx => a.keep n hl fun h => hx ?_, fun n h => ?_, a.gg⟩
  · rcases List.mem_append.mp h with t | t
    · exact List.mem_append_left _ t
    · exact List.mem_append_right _ (List.mem_append_right _ t)
  · have : n ∈ z ∨ n ∈ fpS (as' ++ ag') ++ x1 := by
      simp only [List.mem_append] at h ⊢
      rcases h with h | h | h <;> simp [h]
    rcases this with t | t
    · exact .inl (List.mem_append_right _ (List.mem_append_left _ t))
    · rcases a.new n t with u | u
      · left
        simp only [List.mem_append] at u ⊢
        rcases u with u | u <;> simp [u]
      · exact .inr u
structure LcI (q : Bool) (vs : List Nat) (F0 : FM) (S0 : Sto) (as0 ag0 : List AV) (n0 : Nat) (F : FM) (S : Sto) (as ag : List AV) (acc : List A) : Prop where
  ev : Ev q F0 S0 as0 ag0 [] F S as ag (n0 :: A.fps acc)
  ob : S[n0]? = some (.lst (A.pvs acc))
  fr : F n0 = none
  oks : A.oks F S acc
  rv : ∀ v ∈ vs, rootA as ag (.l v) = slotA (some (keepA as0 ag0 (as0.getD v (.un none))))
  len : as.length = as0.length
theorem kp_cst {z : AV} (h : okV z.er = true) (hz : z.ok F S) (m : Mono F F') : Cst F' S' (keepA as ag z) (glv as ag (0, 0) z) := by
  cases z with
  | v a =>
    have hs : a.shr = true := by rw [← shr_er]; exact h
    have f0 := fp_shr hz hs
    exact ⟨f0, ok_frame m (by rw [f0]; intro n hn; cases hn) hz, fun _ _ _ => rfl, fun _ _ => trivial⟩
  | io a => cases h
  | xn C ns xs => cases h
  | un o => exact ⟨rfl, trivial, fun _ _ _ => rfl, fun _ _ => trivial⟩
  | al r p => exact ⟨rfl, trivial, fun _ _ _ => rfl, fun _ _ => trivial⟩
theorem gl_const {z : AV} (h : okV z.er = true) (ad : AD) : glv as ag ad z = glv as ag (0, 0) z := by
  cases z with
  | xn C ns xs => cases h
  | _ => rfl
section
variable {q : Bool} {vs : List Nat} {F0 : FM} {S0 : Sto} {as0 ag0 : List AV} {n0 : Nat} {acc : List A}
theorem lc_mid (hvs : ∀ v ∈ vs, v < as0.length ∧ okV (as0.getD v (.un none)).er = true) (g0 : Good F0 S0 as0 ag0) (I : LcI q vs F0 S0 as0 ag0 n0 F S as ag acc) {asw agw as1 ag1 as4 ag4 : List AV} {F1 F4 : FM} {S1 S4 : Sto} {a : List Nat}
    (hw : Res F S vs (fun _ => .un none) (fun _ => none) as ag asw agw) (ap : Apart vs asw agw as1 ag1) (sv1 : Sv F S asw agw [] F1 S1 as1 ag1 []) (ev : Ev q F1 S1 as1 ag1 [] F4 S4 as4 ag4 a) (hl4 : as4.length = as0.length) :
    Ev q F S as ag [] F4 S4 (resA (fun v => keepA as0 ag0 (as0.getD v (.un none))) vs as4 ag4).1 (resA (fun v => keepA as0 ag0 (as0.getD v (.un none))) vs as4 ag4).2 a ∧
      (∀ v ∈ vs, rootA (resA (fun v => keepA as0 ag0 (as0.getD v (.un none))) vs as4 ag4).1 (resA (fun v => keepA as0 ag0 (as0.getD v (.un none))) vs as4 ag4).2 (.l v) = slotA (some (keepA as0 ag0 (as0.getD v (.un none))))) ∧
      (resA (fun v => keepA as0 ag0 (as0.getD v (.un none))) vs as4 ag4).1.length = as0.length := by
  have zmem : ∀ v, v < as0.length → as0.getD v (.un none) ∈ as0 ++ ag0 := fun v hv => by
    rw [List.getD_eq_getElem?_getD, List.getElem?_eq_getElem hv]
    exact List.mem_append_left _ (List.getElem_mem hv)
  have m4 : Mono F0 F4 := I.ev.mono.trans (hw.sv.mono.trans (sv1.mono.trans ev.mono))
  have B := res_sim (F := F4) (S := S4) (fun v => keepA as0 ag0 (as0.getD v (.un none))) (fun v => glv as0 ag0 (0, 0) (as0.getD v (.un none))) vs as4 ag4 (fun v hv => kp_cst (hvs v hv).2 (g0.ok _ (zmem v (hvs v hv).1)) m4) ev.good (fun v hv => by rw [hl4]; exact (hvs v hv).1)
  generalize (resA (fun v => keepA as0 ag0 (as0.getD v (.un none))) vs as4 ag4).1 = as5 at B ⊢
  generalize (resA (fun v => keepA as0 ag0 (as0.getD v (.un none))) vs as4 ag4).2 = ag5 at B ⊢
  have svB := B.sv.frameS (z := a) (by rw [List.append_nil]; exact ev.nd) ev.lt
  rw [List.append_nil] at svB
  have all := ((hw.sv.trans sv1).trans ev.sv).trans svB
  have gl0 : ∀ ad j, j < as0.length → (glS as0 ag0 ad as0)[j]? = some (glv as0 ag0 ad (as0.getD j (.un none))) := fun ad j hj => by
    rw [glS, List.getElem?_map, List.getElem?_eq_getElem hj, List.getD_eq_getElem?_getD, List.getElem?_eq_getElem hj]; rfl
  have roots : ∀ r, (∀ v ∈ vs, r ≠ .l v) → rootA as1 ag1 r = rootA as ag r := fun r hr => (ap.2.1 r hr).trans (hw.rt r hr)
  have gl5 : ∀ ad, glS as5 ag5 ad as5 = glS as ag ad as := fun ad => by
    apply List.ext_getElem?
    intro j
    by_cases hj : j ∈ vs
    · rw [B.inn ad j hj, I.ev.gl ad, gl0 ad j (hvs j hj).1, gl_const (hvs j hj).2 ad]
    · rw [B.out ad j hj, ev.gl ad, ap.1 ad j hj, hw.out ad j hj]
  have decR : ∀ r : Rt, (∃ v ∈ vs, r = .l v) ∨ ∀ v ∈ vs, r ≠ .l v := fun r => by
    by_cases h : ∃ v ∈ vs, r = .l v
    · exact .inl h
    · exact .inr fun v hv e => h ⟨v, hv, e⟩
  refine ⟨⟨all.good, all.nd, all.lt, all.mono, all.len, all.keep, all.new, gl5, all.gg, fun r w h => ?_, fun hq r p w h => ?_⟩, B.rv, B.len.trans hl4⟩
  · rcases decR r with ⟨v, hv, rfl⟩ | hr
    · rw [B.rv v hv, ← I.rv v hv]; exact h
    · rw [B.rt r hr]
      exact ev.rt r w (by rw [roots r hr]; exact h)
  · rcases decR r with ⟨v, hv, rfl⟩ | hr
    · unfold atA at h ⊢
      rw [B.rv v hv, ← I.rv v hv]; exact h
    · have e1 : (atA as1 ag1 r p).map A.pv = some w := by
        unfold atA at h ⊢
        rw [roots r hr]; exact h
      have := ev.per hq r p w e1
      unfold atA at this ⊢
      rw [B.rt r hr]; exact this
end
theorem Ev.llen {q : Bool} (e : Ev q F S as ag x0 F' S' as' ag' x1) : as'.length = as.length := by
  have := congrArg List.length (e.gl (0, 0))
  simpa [glS] using this
theorem lc_push {n0 : Nat} {acc : List A} {a : A} (g : Good F S as ag) (nd : (fpS (as ++ ag) ++ ((n0 :: A.fps acc) ++ a.fp)).Nodup) (lt : ∀ n ∈ (n0 :: A.fps acc) ++ a.fp, n < S.length) (fr : F n0 = none) (ok1 : A.oks F S acc) (ok2 : a.ok F S) :
    Ev true F S as ag ((n0 :: A.fps acc) ++ a.fp) F (S.set n0 (.lst (A.pvs acc ++ [a.pv]))) as ag (n0 :: A.fps (acc ++ [a])) ∧ A.oks F (S.set n0 (.lst (A.pvs acc ++ [a.pv]))) (acc ++ [a]) ∧ (S.set n0 (.lst (A.pvs acc ++ [a.pv])))[n0]? = some (.lst (A.pvs (acc ++ [a]))) := by
  have n1 := (List.nodup_append.mp nd).2.1
  have e0 : (n0 :: A.fps acc) ++ a.fp = n0 :: A.fps (acc ++ [a]) := by rw [fps_app]; simp [A.fps]
  rw [e0] at nd lt n1 ⊢
  have nn := (List.nodup_cons.mp n1).1
  have gr : ∀ n, n ≠ n0 → (S.set n0 (.lst (A.pvs acc ++ [a.pv])))[n]? = S[n]? := fun n hn => List.getElem?_set_ne (fun e => hn e.symm)
  have fs : FS F (S.set n0 (.lst (A.pvs acc ++ [a.pv]))) := fun m b o e => by
    rw [gr m (fun h => by subst h; rw [fr] at e; cases e)]
    exact g.fs m b o e
  refine ⟨ev_same g nd Mono.refl fs (by simp) (fun n hn hx => ⟨rfl, gr n fun e => hx (e ▸ List.mem_cons_self)⟩) n1 (fun n h => .inl h) (fun n h => by rw [List.length_set]; exact lt n h), ?_, ?_⟩
  · have := oks_app ok1 (show A.oks F S [a] from ⟨ok2, trivial⟩)
    rw [oks_iff] at this ⊢
    exact fun x hx => ok_frame Mono.refl (fun n hn => ⟨rfl, gr n fun e => nn (by rw [← e, fps_map]; exact List.mem_flatMap.mpr ⟨x, hx, hn⟩)⟩) (this x hx)
  · rw [List.getElem?_set_self (lt n0 List.mem_cons_self), pvs_app]; rfl
section
variable {q : Bool} {vs : List Nat} {gg : GL.MG} {g : MG} {mt : AD → GL.MT} {tt : PT} {me : AD → GL.ME} {te : PE} {chk : Nat → Sto → Bool} {F0 : FM} {S0 : Sto} {as0 ag0 : List AV} {n0 : Nat}
theorem lcV_sim (hg : SimGt vs gg g) (ht : SimT q mt tt) (he : SimE q me te) (hvs : ∀ v ∈ vs, v < as0.length ∧ okV (as0.getD v (.un none)).er = true) (g0 : Good F0 S0 as0 ag0) : ∀ (ks : List A) (i : Nat) (F : FM) (S : Sto) (as ag : List AV) (acc : List A), LcI q vs F0 S0 as0 ag0 n0 F S as ag acc →
    A.fps ks = [] → A.oks F S ks → (∀ F' S' j, Mono F F' → FS F' S' → chk j S' = true) →
    SimO q RE F0 S0 as0 ag0 [] (fun ad => GL.lcGo chk gg (mt ad) (me ad) vs n0 (glS as0 ag0 ad as0) i (A.pvs ks) S) (lcV g tt te vs (erS as0) (A.ers ks) (A.ers acc) (erS as) (erS ag))
  | [], i, F, S, as, ag, acc, I, _, _, hc => by
    refine ⟨F, S, as, ag, .v (.nd .ow n0 .lst acc), .loc n0, rfl, rfl, by simp [RE, ARV.er, A.er], fun ad => ?_, rfl, ?_, ?_⟩
    · show GL.lcGo chk gg (mt ad) (me ad) vs n0 _ i [] S = _
      rw [GL.lcGo, if_pos (hc F S i Mono.refl I.ev.good.fs)]
    · show A.ok F S _
      simp only [A.ok]
      exact ⟨⟨I.fr, I.ob⟩, rfl, I.oks⟩
    · exact I.ev
  | k :: t, i, F, S, as, ag, acc, I, fk, ok, hc => by
    have fk : k.fp ++ A.fps t = [] := fk
    obtain ⟨f1, f2⟩ := List.append_eq_nil_iff.mp fk
    have ef : (ARV.v k).fp = [] := f1
    have gd := I.ev.good
    have W := res_sim (F := F) (S := S) (fun _ => AV.un none) (fun _ => none) vs as ag (fun v hv => ⟨rfl, trivial, fun _ _ _ => rfl, fun _ _ => trivial⟩) gd (fun v hv => by rw [I.len]; exact (hvs v hv).1)
    have we := res_er (fun _ => AV.un none) vs as ag
    have be : ∀ as4 ag4, (erS (resA (fun v => keepA as0 ag0 (as0.getD v (.un none))) vs as4 ag4).1, erS (resA (fun v => keepA as0 ag0 (as0.getD v (.un none))) vs as4 ag4).2) = resD (fun v => keepV ((erS as0).getD v none)) vs (erS as4) (erS ag4) := fun as4 ag4 => by
      rw [res_er]
      congr 1
      funext v
      rw [keep_er]
      congr 1
      rw [List.getD_eq_getElem?_getD, List.getD_eq_getElem?_getD, erS, List.getElem?_map]
      cases as0[v]? <;> rfl
    show SimO _ _ _ _ _ _ _ _ (match g (.v k.er) (resD (fun _ => none) vs (erS as) (erS ag)).1 (resD (fun _ => none) vs (erS as) (erS ag)).2 with
    | none => .bad
    | some z => (match tt z.1 z.2 with
      | .ok true ls2 gh2 => (match te ls2 gh2 with
        | .ok x ls3 gh3 => (match cvR true x ls3 gh3 with
          | some (e, ls4, gh4) => if (A.ers acc).length < lim then lcV g tt te vs (erS as0) (A.ers t) (A.ers acc ++ [e]) (resD (fun v => keepV ((erS as0).getD v none)) vs ls4 gh4).1 (resD (fun v => keepV ((erS as0).getD v none)) vs ls4 gh4).2 else .bad
          | none => .bad)
        | _ => .bad)
      | .ok false ls2 gh2 => lcV g tt te vs (erS as0) (A.ers t) (A.ers acc) (resD (fun v => keepV ((erS as0).getD v none)) vs ls2 gh2).1 (resD (fun v => keepV ((erS as0).getD v none)) vs ls2 gh2).2
      | _ => .bad))
    rw [show resD (fun _ => (none : Option V)) vs (erS as) (erS ag) = (erS (resA (fun _ => AV.un none) vs as ag).1, erS (resA (fun _ => AV.un none) vs as ag).2) from we.symm]
    generalize (resA (fun _ => AV.un none) vs as ag).1 = asw at W ⊢
    generalize (resA (fun _ => AV.un none) vs as ag).2 = agw at W ⊢
    dsimp only
    cases hz : g (.v k.er) (erS asw) (erS agw) with
    | none => trivial
    | some z =>
      have gw := W.sv.good
      have kok : k.ok F S := ok.1
      obtain ⟨as1, ag1, a1, a2, a3, ap, sv1⟩ := hg F S asw agw (.v k) k.pv z.1 z.2 gw (by rw [ef, List.append_nil]; exact gw.nd) (by rw [ef]; intro n h; cases h) rfl kok hz
      rw [ef] at sv1
      have glw : ∀ ad, glS asw agw ad asw = GL.wipeL (glS as0 ag0 ad as0) vs := fun ad => by
        apply List.ext_getElem?
        intro j
        by_cases hj : j ∈ vs
        · rw [W.inn ad j hj, wipe_in vs _ j hj (by simpa [glS] using (hvs j hj).1)]
        · rw [W.out ad j hj, wipe_out vs _ j hj, I.ev.gl]
      have head : ∀ ad, GL.lcGo chk gg (mt ad) (me ad) vs n0 (glS as0 ag0 ad as0) i (A.pvs (k :: t)) S = (match mt ad (glS as1 ag1 ad as1) S with
          | .ok true S1 => (match me ad (glS as1 ag1 ad as1) S1 with
            | .ok w S2 => (match GL.lstAt S2 n0 with
              | some acc => if acc.length < lim then GL.lcGo chk gg (mt ad) (me ad) vs n0 (glS as0 ag0 ad as0) (i + 1) (A.pvs t) (S2.set n0 (.lst (acc ++ [w]))) else .bad
              | none => .bad)
            | _ => .bad)
          | .ok false S1 => GL.lcGo chk gg (mt ad) (me ad) vs n0 (glS as0 ag0 ad as0) (i + 1) (A.pvs t) S1
          | _ => .bad) := fun ad => by
        show GL.lcGo chk gg (mt ad) (me ad) vs n0 _ i (k.pv :: A.pvs t) S = _
        rw [GL.lcGo, if_pos (hc F S i Mono.refl gd.fs), ← glw ad, a3]
        all_goals rfl
      dsimp only
      rw [← a1, ← a2]
      have h2 := ht F S as1 ag1 sv1.good
      have L1 : as1.length = as0.length := ap.2.2.trans (W.len.trans I.len)
      have ndz : (fpS (as ++ ag) ++ ((n0 :: A.fps acc) ++ [])).Nodup := by rw [List.append_nil]; exact I.ev.nd
      cases hp : tt (erS as1) (erS ag1) with
      | bad => trivial
      | exc e ls gh => trivial
      | ok b ls gh =>
        rw [hp] at h2
        obtain ⟨F2, S2, as2, ag2, c2, w2, rfl, rfl, e3, b4, b5, _, ev2⟩ := h2
        have e3 : c2 = b := e3
        subst e3
        cases b5
        cases c2 with
        | false =>
          dsimp only
          have mid := lc_mid hvs g0 I W ap sv1 (show Ev q F S as1 ag1 [] F2 S2 as2 ag2 [] from ev2) (ev2.llen.trans L1)
          rw [show resD (fun v => keepV ((erS as0).getD v none)) vs (erS as2) (erS ag2) = _ from (be as2 ag2).symm]
          obtain ⟨evm, rvm, lnm⟩ := mid
          generalize (resA (fun v => keepA as0 ag0 (as0.getD v (.un none))) vs as2 ag2).1 = as5 at evm rvm lnm ⊢
          generalize (resA (fun v => keepA as0 ag0 (as0.getD v (.un none))) vs as2 ag2).2 = ag5 at evm rvm ⊢
          have evf := evm.frame ndz I.ev.lt
          rw [List.append_nil] at evf
          have keepz : ∀ n ∈ n0 :: A.fps acc, F2 n = F n ∧ S2[n]? = S[n]? := fun n hn => evm.keep n (I.ev.lt n hn) fun h => by
            rw [List.append_nil] at h
            exact (List.nodup_append.mp I.ev.nd).2.2 n h n hn rfl
          have I2 : LcI q vs F0 S0 as0 ag0 n0 F2 S2 as5 ag5 acc := ⟨(I.ev.trans evf).weak (fun h => by rw [h]; rfl), by rw [(keepz n0 List.mem_cons_self).2]; exact I.ob, by rw [(keepz n0 List.mem_cons_self).1]; exact I.fr, by
            have := I.oks
            rw [oks_iff] at this ⊢
            exact fun x hx => ok_frame evm.mono (fun n hn => keepz n (List.mem_cons_of_mem _ (by rw [fps_map]; exact List.mem_flatMap.mpr ⟨x, hx, hn⟩))) (this x hx), rvm, lnm⟩
          have h3 := lcV_sim hg ht he hvs g0 t (i + 1) F2 S2 as5 ag5 acc I2 f2 (oks_mono evm.mono ok.2 f2) (fun F' S' j m fs => hc F' S' j (evm.mono.trans m) fs)
          have e5 : (fun ad => GL.lcGo chk gg (mt ad) (me ad) vs n0 (glS as0 ag0 ad as0) i (A.pvs (k :: t)) S) = fun ad => GL.lcGo chk gg (mt ad) (me ad) vs n0 (glS as0 ag0 ad as0) (i + 1) (A.pvs t) S2 := by
            funext ad
            rw [head ad, show mt ad (glS as1 ag1 ad as1) S = _ from b4 ad]
          rw [e5]
          exact h3
        | true =>
          dsimp only
          have h4 := he F2 S2 as2 ag2 ev2.good
          cases hq : te (erS as2) (erS ag2) with
          | bad => trivial
          | exc e ls gh => trivial
          | ok x ls gh =>
            rw [hq] at h4
            obtain ⟨F3, S3, as3, ag3, c3, w3, rfl, rfl, rfl, d4, d5, d6, ev3⟩ := h4
            dsimp only
            show SimO _ _ _ _ _ _ _ _ (match cvR true c3.er (erS as3) (erS ag3) with
              | some (e, ls4, gh4) => if (A.ers acc).length < lim then lcV g tt te vs (erS as0) (A.ers t) (A.ers acc ++ [e]) (resD (fun v => keepV ((erS as0).getD v none)) vs ls4 gh4).1 (resD (fun v => keepV ((erS as0).getD v none)) vs ls4 gh4).2 else .bad
              | none => .bad)
            cases hv : cvR true c3.er (erS as3) (erS ag3) with
            | none => trivial
            | some u =>
              obtain ⟨d, l4, g4⟩ := u
              obtain ⟨F4, as4, ag4, a, rfl, rfl, rfl, rfl, aok, _, ev4⟩ := cv_sim0 ev3.good ev3.nd ev3.lt d5 d6 hv
              dsimp only
              by_cases hl : (A.ers acc).length < lim
              · rw [if_pos hl]
                have evq : Ev q F S as1 ag1 [] F4 S3 as4 ag4 a.fp := ((show Ev q F S as1 ag1 [] F2 S2 as2 ag2 [] from ev2).trans ((show Ev q F2 S2 as2 ag2 [] F3 S3 as3 ag3 c3.fp from ev3).trans ev4)).weak (fun h => by rw [h]; rfl)
                have mid := lc_mid hvs g0 I W ap sv1 evq (evq.llen.trans L1)
                rw [show resD (fun v => keepV ((erS as0).getD v none)) vs (erS as4) (erS ag4) = _ from (be as4 ag4).symm]
                obtain ⟨evm, rvm, lnm⟩ := mid
                generalize (resA (fun v => keepA as0 ag0 (as0.getD v (.un none))) vs as4 ag4).1 = as5 at evm rvm lnm ⊢
                generalize (resA (fun v => keepA as0 ag0 (as0.getD v (.un none))) vs as4 ag4).2 = ag5 at evm rvm ⊢
                have evf := evm.frame ndz I.ev.lt
                rw [List.append_nil] at evf
                have keepz : ∀ n ∈ n0 :: A.fps acc, F4 n = F n ∧ S3[n]? = S[n]? := fun n hn => evm.keep n (I.ev.lt n hn) fun h => by
                  rw [List.append_nil] at h
                  exact (List.nodup_append.mp I.ev.nd).2.2 n h n hn rfl
                have acok : A.oks F4 S3 acc := by
                  have := I.oks
                  rw [oks_iff] at this ⊢
                  exact fun x hx => ok_frame evm.mono (fun n hn => keepz n (List.mem_cons_of_mem _ (by rw [fps_map]; exact List.mem_flatMap.mpr ⟨x, hx, hn⟩))) (this x hx)
                have fr4 : F4 n0 = none := by rw [(keepz n0 List.mem_cons_self).1]; exact I.fr
                obtain ⟨evp, okp, obp⟩ := lc_push evf.good evf.nd evf.lt fr4 acok aok
                have I2 : LcI q vs F0 S0 as0 ag0 n0 F4 (S3.set n0 (.lst (A.pvs acc ++ [a.pv]))) as5 ag5 (acc ++ [a]) := ⟨(I.ev.trans (evf.trans evp)).weak (fun h => by rw [h]; rfl), obp, fr4, okp, rvm, lnm⟩
                have h3 := lcV_sim hg ht he hvs g0 t (i + 1) F4 _ as5 ag5 (acc ++ [a]) I2 f2 (oks_mono evm.mono ok.2 f2) (fun F' S' j m fs => hc F' S' j (evm.mono.trans m) fs)
                have e5 : (fun ad => GL.lcGo chk gg (mt ad) (me ad) vs n0 (glS as0 ag0 ad as0) i (A.pvs (k :: t)) S) = fun ad => GL.lcGo chk gg (mt ad) (me ad) vs n0 (glS as0 ag0 ad as0) (i + 1) (A.pvs t) (S3.set n0 (.lst (A.pvs acc ++ [a.pv]))) := by
                  funext ad
                  rw [head ad, show mt ad (glS as1 ag1 ad as1) S = _ from b4 ad]
                  dsimp only
                  rw [← ev2.gl ad, show me ad (glS as2 ag2 ad as2) S2 = _ from d4 ad]
                  dsimp only
                  rw [lstAt_of (xs := A.pvs acc) (by rw [(keepz n0 List.mem_cons_self).2]; exact I.ob)]
                  dsimp only
                  rw [if_pos (by rw [pvs_len, ← ers_len]; exact hl)]
                rw [e5, show A.ers acc ++ [a.er] = A.ers (acc ++ [a]) from by rw [ers_app]; rfl]
                exact h3
              · rw [if_neg hl]; trivial
theorem sim_lc {mi : AD → GL.MI} {pi : PI} {qi : Bool} (hi : SimI qi mi pi) (hg : SimGt vs gg g) (ht : SimT q mt tt) (he : SimE q me te) : SimE (qi && q) (fun ad => GL.eLc (mi ad) gg (mt ad) (me ad) vs) (eLc pi g tt te vs) := fun F S as ag gd =>
  sim_first (R' := RE) (q' := q) (k := fun (ds : List D) (ls gh : Ls) => if (vs.all fun v => decide (v < ls.length) && okV (ls.getD v none)) = true then lcV g tt te vs ls ds [] ls gh else .bad) (f := fun (ad : AD) (t : GL.Wk) (S1 : Sto) => GL.lcGo t.chk gg (mt ad) (me ad) vs S1.length (glS as ag ad as) 0 t.items (S1 ++ [OB.lst []])) hi gd (fun _ => rfl) fun F1 S1 as1 ag1 c w h1 h2 g1 n1 l1 L1 => by
    cases h1
    obtain ⟨fk, ok, hc⟩ := h2
    by_cases hv : (vs.all fun v => decide (v < (erS as1).length) && okV ((erS as1).getD v none)) = true
    · simp only [if_pos hv]
      have hvs : ∀ v ∈ vs, v < as1.length ∧ okV (as1.getD v (.un none)).er = true := fun v hm => by
        have := List.all_eq_true.mp hv v hm
        obtain ⟨p1, p2⟩ := Bool.and_eq_true_iff.mp this
        have p1 := of_decide_eq_true p1
        have p1 : v < as1.length := by simpa [erS] using p1
        refine ⟨p1, ?_⟩
        rw [List.getD_eq_getElem?_getD, erS, List.getElem?_map, List.getElem?_eq_getElem p1] at p2
        rw [List.getD_eq_getElem?_getD, List.getElem?_eq_getElem p1]
        exact p2
      have hF : F1 S1.length = none := by
        cases hf : F1 S1.length with
        | none => rfl
        | some z =>
          obtain ⟨b, o⟩ := z
          have := (List.getElem?_eq_some_iff.mp (g1.fs _ _ _ hf)).1
          omega
      have gr : ∀ n, n < S1.length → (S1 ++ [OB.lst []])[n]? = S1[n]? := fun n hn => List.getElem?_append_left hn
      have fs : FS F1 (S1 ++ [OB.lst []]) := fun n b o e => by
        have := g1.fs n b o e
        rw [gr n (List.getElem?_eq_some_iff.mp this).1]; exact this
      have ev0 : Ev q F1 S1 as1 ag1 [] F1 (S1 ++ [OB.lst []]) as1 ag1 (S1.length :: A.fps []) := by
        refine ev_same g1 (good_nd g1) Mono.refl fs (by simp) (fun n hn _ => ⟨rfl, gr n hn⟩) (by simp [A.fps]) (fun n hn => ?_) (fun n hn => ?_)
        · simp [A.fps] at hn; exact .inr (by omega)
        · simp [A.fps] at hn; simp; omega
      have I0 : LcI q vs F1 S1 as1 ag1 S1.length F1 (S1 ++ [OB.lst []]) as1 ag1 [] := ⟨ev0, by rw [List.getElem?_append_right (Nat.le_refl _)]; simp [A.pvs], hF, trivial, fun v hm => by
        show slotA as1[v]? = slotA (some (keepA as1 ag1 (as1.getD v (.un none))))
        have p1 := (hvs v hm).1
        have p2 := (hvs v hm).2
        rw [List.getD_eq_getElem?_getD, List.getElem?_eq_getElem p1] at p2 ⊢
        simp only [Option.getD_some] at p2 ⊢
        cases hz : as1[v] with
        | io a => rw [hz] at p2; cases p2
        | xn C ns xs => rfl
        | v a => rfl
        | un o => rfl
        | al r p => rfl, rfl⟩
      have := lcV_sim hg ht he hvs g1 c.1 0 F1 _ as1 ag1 [] I0 fk (oks_mono Mono.refl ok fk) hc
      have e5 : (fun ad => GL.lcGo c.2 gg (mt ad) (me ad) vs S1.length (glS as ag ad as) 0 (A.pvs c.1) (S1 ++ [OB.lst []])) = fun ad => GL.lcGo c.2 gg (mt ad) (me ad) vs S1.length (glS as1 ag1 ad as1) 0 (A.pvs c.1) (S1 ++ [OB.lst []]) := by
        funext ad; rw [L1]
      show SimO q RE F1 S1 as1 ag1 [] (fun ad => GL.lcGo c.2 gg (mt ad) (me ad) vs S1.length (glS as ag ad as) 0 (A.pvs c.1) (S1 ++ [OB.lst []])) _
      rw [e5]
      exact this
    · simp only [if_neg hv]; trivial
end
end VL
set_option Elab.async false
set_option linter.all false
set_option maxRecDepth 100000
set_option maxHeartbeats 1000000
namespace VL
open GL (PV OB Sto Nm BT lim)
open PySem (PyData Builtin)
variable {F F' F'' : FM} {S S' S'' : Sto} {as as' as'' ag ag' ag'' : List AV} {x0 x1 x2 : List Nat}
theorem vl_end {f : GL.MF} {p : MF} (hf : SimFn f p) (ns : List Int) (h : p [.v (.nd .fz .rol (ns.map D.int))] [] = .ok (.bl true) []) : ∃ S, f [.loc 0] [.rol (ns.map .int)] = .ok (.bl true) S := by
  let a : A := .nd .fz 0 .rol (aInts ns)
  let F : FM := fun n => if n = 0 then some (true, .rol (ns.map .int)) else none
  have fs : FS F [.rol (ns.map .int)] := fun n b o e => by
    by_cases hn : n = 0
    · subst hn
      have : (true, OB.rol (ns.map PV.int)) = (b, o) := by simpa [F] using e
      cases this; rfl
    · simp [F, hn] at e
  have aok : a.ok F [.rol (ns.map .int)] := by
    simp only [a, A.ok]
    exact ⟨by simp [F, mkO, aInts_pv], rfl, aInts_fp ns, aInts_ok ns⟩
  have afp : a.fp = [] := by simp only [a, A.fp]; exact aInts_fp ns
  have g : Good F [.rol (ns.map .int)] [.v a] [] := by
    refine ⟨fs, fun z hz => ?_, ?_, fun z hz => ?_⟩
    · rw [List.append_nil, List.mem_singleton] at hz; subst hz; exact aok
    · simp [fpS, AV.fp, afp]
    · rw [List.append_nil, List.mem_singleton] at hz; subst hz; trivial
  have h2 := hf F _ [.v a] [] [.v (.nd .fz .rol (ns.map D.int))] [.loc 0] g (by simp [a, erS, AV.er, A.er, aInts_er]) (fun ad => rfl)
  have h3 : p [.v (.nd .fz .rol (ns.map D.int))] (([] : List A).map A.er) = .ok (.bl true) [] := h
  rw [h3] at h2
  obtain ⟨F', S', hs', b, _, e2, e3, _, _⟩ := h2
  have : b = .sc (.bl true) := er_sc e2
  subst this
  exact ⟨S', e3⟩
end VL
set_option Elab.async false
set_option linter.all false
set_option maxRecDepth 100000
set_option maxHeartbeats 1000000
namespace VL
open GL (PV OB Sto Nm BT lim)
open PySem (PyData Builtin)
variable {F F' F'' : FM} {S S' S'' : Sto} {as as' as'' ag ag' ag'' : List AV} {x0 x1 x2 : List Nat}
def flatP : List (PE × PE) → PA
  | [] => aNil
  | (k, v) :: r => aCons k (aCons v (flatP r))
def flatG : List (GL.ME × GL.ME) → GL.MA
  | [] => GL.aNil
  | (k, v) :: r => GL.aCons k (GL.aCons v (flatG r))
def pairUp : List PV → List (PV × PV)
  | k :: v :: r => (k, v) :: pairUp r
  | _ => []
theorem pairs_flat : ∀ (ps : List (GL.ME × GL.ME)) (ls : GL.Ls) (S : Sto), GL.mPairs ps ls S = (flatG ps ls S).bind fun ws S1 => .ok (pairUp ws) S1
  | [], _, _ => rfl
  | (k, v) :: r, ls, S => by
    show (k ls S).bind _ = ((k ls S).bind _).bind _
    cases k ls S with
    | bad => rfl
    | exc e S => rfl
    | ok x S1 =>
      show (v ls S1).bind _ = (((v ls S1).bind _).bind _).bind _
      cases v ls S1 with
      | bad => rfl
      | exc e S => rfl
      | ok y S2 =>
        show (GL.mPairs r ls S2).bind _ = ((((flatG r ls S2).bind _)).bind _).bind _
        rw [pairs_flat r ls S2]
        cases flatG r ls S2 <;> rfl
inductive SimPs : (AD → List (GL.ME × GL.ME)) → List (PE × PE) → Prop
  | nil : SimPs (fun _ => []) []
  | cons {mk mv : AD → GL.ME} {pk pv : PE} {mr : AD → List (GL.ME × GL.ME)} {pr : List (PE × PE)} : SimE true mk pk → SimE true mv pv → SimPs mr pr → SimPs (fun ad => (mk ad, mv ad) :: mr ad) ((pk, pv) :: pr)
theorem sim_flat : ∀ {mr : AD → List (GL.ME × GL.ME)} {pr : List (PE × PE)}, SimPs mr pr → SimA true (fun ad => flatG (mr ad)) (flatP pr)
  | _, _, .nil => sim_anil
  | _, _, .cons hk hv hr => sim_acons hk (sim_acons hv (sim_flat hr))
def splitKV : List RV → Option (List PV × List RV)
  | [] => some ([], [])
  | k :: v :: r => match keyD k, splitKV r with
    | some x, some (ks, vs) => some (x :: ks, v :: vs)
    | _, _ => none
  | _ => none
def distG (seen : List PV) : List PV → Bool
  | [] => true
  | k :: r => (idxK k seen).isNone && distG (seen ++ [k]) r
def eDisp (ps : List (PE × PE)) : PE := fun ls gh => (flatP ps ls gh).bind fun xs ls gh => match splitKV xs with
  | some (ks, vs) => if (distG [] ks && decide (ks.length ≤ 15)) = true then (match cvL true vs ls gh with
    | some (ds, ls, gh) => .ok (.v (.nd .ow (.dct ks) ds)) ls gh
    | none => .bad) else .bad
  | none => .bad
theorem split_er : ∀ {cs : List ARV} {ws : List PV} {ks : List PV} {vs : List RV}, splitKV (cs.map ARV.er) = some (ks, vs) → RA.pv as ag cs = some ws →
    ∃ (ds : List ARV) (us : List PV), ds.map ARV.er = vs ∧ RA.pv as ag ds = some us ∧ ks.length = us.length ∧ pairUp ws = ks.zip us ∧ (ks.all GL.isKeyP) = true ∧ (RA.fp ds).Sublist (RA.fp cs) ∧ (∀ d ∈ ds, d ∈ cs)
  | [], ws, ks, vs, h, hp => by cases h; cases hp; exact ⟨[], [], rfl, rfl, rfl, rfl, rfl, List.Sublist.refl _, fun d h => h⟩
  | [c], ws, ks, vs, h, hp => by cases h
  | c1 :: c2 :: r, ws, ks, vs, h, hp => by
    obtain ⟨w1, t1, h1, ht1, rfl⟩ := seqO_cons hp
    obtain ⟨w2, t2, h2, ht2, rfl⟩ := seqO_cons ht1
    have h : (match keyD c1.er, splitKV (r.map ARV.er) with
      | some x, some (ks, vs) => some (x :: ks, c2.er :: vs)
      | _, _ => none) = some (ks, vs) := h
    split at h
    · rename_i x ks' vs' e1 e2
      cases h
      obtain ⟨rfl, hk⟩ := keyD_er e1 h1
      obtain ⟨ds, us, a1, a2, a3, a4, a5, a6, a7⟩ := split_er (cs := r) e2 ht2
      refine ⟨c2 :: ds, w2 :: us, by simp [a1], seqO_mk h2 a2, by simp [a3], ?_, by simp [hk, a5], ?_, fun d hd => ?_⟩
      · show (w1, w2) :: pairUp t2 = _
        rw [a4]; rfl
      · show (c2.fp ++ RA.fp ds).Sublist (c1.fp ++ (c2.fp ++ RA.fp r))
        exact (List.Sublist.append_left a6 _).trans (List.sublist_append_right _ _)
      · rcases List.mem_cons.mp hd with rfl | h
        · simp
        · simp [a7 d h]
    · cases h
theorem merge_dist : ∀ (ks : List PV) (us : List PV) (sk su : List PV), ks.length = us.length → sk.length = su.length → distG sk ks = true → GL.mergeP (sk.zip su) (ks.zip us) = (sk ++ ks).zip (su ++ us)
  | [], [], sk, su, _, _, _ => by simp [GL.mergeP]
  | [], _ :: _, _, _, h, _, _ => by cases h
  | _ :: _, [], _, _, h, _, _ => by cases h
  | k :: r, u :: t, sk, su, h, hs, hd => by
    obtain ⟨h1, h2⟩ := Bool.and_eq_true_iff.mp (show ((idxK k sk).isNone && distG (sk ++ [k]) r) = true from hd)
    have hl := lookP_zip (k := k) sk su hs
    rw [Option.isNone_iff_eq_none.mp h1] at hl
    have ih := merge_dist r t (sk ++ [k]) (su ++ [u]) (Nat.succ.inj h) (by simp [hs]) h2
    show GL.mergeP (GL.putP k u (sk.zip su)) (r.zip t) = _
    have e : GL.putP k u (sk.zip su) = (sk ++ [k]).zip (su ++ [u]) := by
      unfold GL.putP
      rw [hl, List.zip_append hs]; rfl
    rw [e, ih]
    simp
def gDisp (n0 : Nat) (kvs : List (PV × PV)) (S1 : Sto) : GL.Out PV := match S1[n0]? with
  | some (.dct []) => if (kvs.all (fun kv => GL.isKeyP kv.1) && decide (kvs.length ≤ 15)) = true then .ok (.loc n0) (S1.set n0 (.dct (GL.mergeP [] kvs))) else .bad
  | _ => .bad
theorem sim_disp {mr : AD → List (GL.ME × GL.ME)} {pr : List (PE × PE)} (h : SimPs mr pr) : SimE true (fun ad => GL.eDisp (mr ad)) (eDisp pr) := by
  intro F S as ag g
  have hF : F S.length = none := by
    cases hf : F S.length with
    | none => rfl
    | some z =>
      obtain ⟨b, o⟩ := z
      have := (List.getElem?_eq_some_iff.mp (g.fs _ _ _ hf)).1
      omega
  have gr : ∀ n, n < S.length → (S ++ [OB.dct []])[n]? = S[n]? := fun n hn => List.getElem?_append_left hn
  have fs : FS F (S ++ [OB.dct []]) := fun n b o e => by
    have := g.fs n b o e
    rw [gr n (List.getElem?_eq_some_iff.mp this).1]; exact this
  have ev0 : Ev true F S as ag [] F (S ++ [OB.dct []]) as ag [S.length] :=
    ev_same g (good_nd g) Mono.refl fs (by simp) (fun n hn _ => ⟨rfl, gr n hn⟩) (by simp) (fun n hn => by rw [List.mem_singleton.mp hn]; exact .inr (Nat.le_refl _)) (fun n hn => by rw [List.mem_singleton.mp hn]; simp)
  have nok : (A.nd .ow S.length (.dct []) []).ok F (S ++ [OB.dct []]) := by
    simp only [A.ok]
    exact ⟨⟨hF, by rw [List.getElem?_append_right (Nat.le_refl _)]; simp [mkO]⟩, rfl, trivial⟩
  have efp : RE.fp (.v (.nd .ow S.length (.dct []) [])) = [S.length] := rfl
  have eo : (fun ad => GL.eDisp (mr ad) (glS as ag ad as) S) = fun ad => (flatG (mr ad) (glS as ag ad as) (S ++ [OB.dct []])).bind fun ws S1 => gDisp S.length (pairUp ws) S1 := by
    funext ad
    show (GL.mPairs (mr ad) _ _).bind _ = _
    rw [pairs_flat]
    cases flatG (mr ad) (glS as ag ad as) (S ++ [OB.dct []]) <;> rfl
  show SimO _ _ _ _ _ _ _ (fun ad => GL.eDisp (mr ad) (glS as ag ad as) S) _
  rw [eo]
  refine SimO.pre ev0 (SimO.weak ?_ (q := true && true) (fun _ => rfl))
  refine sim_next (R := RA) (R0 := RE) (R' := RE) (L := fun ad => glS as ag ad as) (q' := true) (k := fun (xs : List RV) (ls gh : Ls) => match splitKV xs with
  | some (ks, vs) => if (distG [] ks && decide (ks.length ≤ 15)) = true then (match cvL true vs ls gh with
    | some (ds, ls, gh) => Out.ok (RV.v (.nd .ow (.dct ks) ds)) ls gh
    | none => .bad) else .bad
  | none => .bad) (f := fun (ad : AD) (ws : List PV) (S1 : Sto) => gDisp S.length (pairUp ws) S1) (sim_flat h) ev0.good (.v (.nd .ow S.length (.dct []) [])) (w0 := .loc S.length) rfl nok ev0.nd ev0.lt (stab_re true _ (.inl rfl)) (fun _ => rfl) fun F1 S1 as1 ag1 cs ws h1 h2 h3 h4 g1 n1 l1 L1 => ?_
  cases hs : splitKV (RA.er cs) with
  | none => simp only [hs]; trivial
  | some z =>
    obtain ⟨ks, vs⟩ := z
    simp only [hs]
    obtain ⟨ds, us, rfl, a2, a3, a4, a5, a6, a7⟩ := split_er hs h3
    by_cases hd : (distG [] ks && decide (ks.length ≤ 15)) = true
    · rw [if_pos hd]
      obtain ⟨d1, d2⟩ := Bool.and_eq_true_iff.mp hd
      rw [efp] at n1 l1 ⊢
      have s1 : ([S.length] ++ RA.fp ds).Sublist ([S.length] ++ RA.fp cs) := List.Sublist.append_left a6 _
      have n2 := n1.sublist (List.Sublist.append_left s1 (fpS (as1 ++ ag1)))
      have l2 : ∀ n ∈ [S.length] ++ RA.fp ds, n < S1.length := fun n hn => l1 n (s1.subset hn)
      obtain ⟨m1, m2, m3⟩ := nd_sub n2
      cases hc : cvL true (ds.map ARV.er) (erS as1) (erS ag1) with
      | none => trivial
      | some u =>
        obtain ⟨es, l3, g3⟩ := u
        obtain ⟨F2, as2, ag2, xs, rfl, rfl, rfl, rfl, xok, _, ev⟩ := cvL_sim g1 m2 (fun n hn => l2 n (List.mem_append_right _ hn)) a2 (fun c hc => h4 c (a7 c hc)) hc
        dsimp only
        have evf := ev.frame n2 (fun n hn => l2 n (List.mem_append_left _ hn))
        have h2 : (A.nd .ow S.length (.dct []) []).ok F1 S1 := h2
        have kp := ev.stay (z := .nd .ow S.length (.dct []) []) h2 n2 g1.fs
        simp only [A.ok] at kp
        have ob : S1[S.length]? = some (.dct []) := kp.1.2
        have ndx : (S.length :: A.fps xs).Nodup := (List.nodup_append.mp evf.nd).2.1
        have nn := (List.nodup_cons.mp ndx).1
        have gr2 : ∀ (o : OB) n, n ≠ S.length → (S1.set S.length o)[n]? = S1[n]? := fun o n hn => List.getElem?_set_ne (fun e => hn e.symm)
        have lt0 : S.length < S1.length := l2 _ (by simp)
        have kl : ks.length = xs.length := by rw [a3, pvs_len]
        let o : OB := .dct (ks.zip (A.pvs xs))
        have fs2 : FS F2 (S1.set S.length o) := fun m b q e => by
          rw [gr2 o m (fun h => by subst h; rw [kp.1.1] at e; cases e)]
          exact ev.good.fs m b q e
        refine SimO.pre ((Ev.refl g1 n1 l1).sub s1) (SimO.pre evf ?_)
        refine ⟨F2, S1.set S.length o, as2, ag2, .v (.nd .ow S.length (.dct ks) xs), .loc S.length, rfl, rfl, by simp [RE, ARV.er, A.er], fun ad => ?_, rfl, ?_, ?_⟩
        · show gDisp S.length (pairUp ws) S1 = _
          unfold gDisp
          rw [ob]
          have e1 : pairUp ws = ks.zip (A.pvs xs) := a4
          have e2 : (ks.zip (A.pvs xs)).all (fun kv => GL.isKeyP kv.1) = true := by
            rw [List.all_eq_true] at a5 ⊢
            exact fun kv hkv => a5 kv.1 (List.of_mem_zip hkv).1
          have e3 : (ks.zip (A.pvs xs)).length ≤ 15 := by
            rw [List.length_zip]
            have := of_decide_eq_true d2
            omega
          have e4 := merge_dist ks (A.pvs xs) [] [] (by rw [pvs_len]; exact kl) rfl d1
          simp only [List.nil_append, List.zip_nil_left] at e4
          rw [e1]
          simp only [e2, decide_eq_true e3, Bool.and_self, if_true, e4]
          rfl
        · show A.ok _ _ _
          simp only [A.ok]
          refine ⟨⟨kp.1.1, by rw [List.getElem?_set_self lt0]; rfl⟩, by simp [Hd.wf, kl], ?_⟩
          rw [oks_iff] at xok ⊢
          exact fun x hx => ok_frame Mono.refl (fun n hn => ⟨rfl, gr2 o n fun e => nn (by rw [← e, fps_map]; exact List.mem_flatMap.mpr ⟨x, hx, hn⟩)⟩) (xok x hx)
        · show Ev true F2 S1 as2 ag2 ([S.length] ++ A.fps xs) F2 _ as2 ag2 (S.length :: A.fps xs)
          exact ev_same ev.good evf.nd Mono.refl fs2 (by simp) (fun n hn hx => ⟨rfl, gr2 o n fun e => hx (by rw [e]; simp)⟩) ndx (fun n hn => .inl hn) (fun n hn => by rw [List.length_set]; exact evf.lt n hn)
    · rw [if_neg hd]; trivial
theorem arr_map {α β : Type} (f : α → β) (c : List Nat) (xs : List α) : GL.arr c (xs.map f) = (GL.arr c xs).map f := by
  unfold GL.arr
  rw [List.map_filterMap]
  congr 1
  funext i
  rw [List.getElem?_map]
theorem arr_mem {α : Type} {c : List Nat} {xs : List α} {x : α} (h : x ∈ GL.arr c xs) : x ∈ xs := by
  obtain ⟨i, _, hi⟩ := List.mem_filterMap.mp h
  exact List.mem_of_getElem? hi
theorem arr_fps {xs : List A} (nd : (A.fps xs).Nodup) : ∀ {c : List Nat}, c.Nodup → (A.fps (GL.arr c xs)).Nodup
  | [], _ => List.nodup_nil
  | i :: c, hc => by
    obtain ⟨h1, h2⟩ := List.nodup_cons.mp hc
    have ih := arr_fps nd h2
    unfold GL.arr at ih ⊢
    rw [List.filterMap_cons]
    cases hi : xs[i]? with
    | none => exact ih
    | some x =>
      show (x.fp ++ A.fps _).Nodup
      obtain ⟨L, R, e1, e2⟩ := flat_set hi
      rw [e1] at nd
      have d1 := List.nodup_append.mp nd
      have d0 := List.nodup_append.mp d1.1
      refine List.nodup_append.mpr ⟨d0.2.1, ih, fun n hn m hm e => ?_⟩
      subst e
      rw [fps_map] at hm
      obtain ⟨y, hy, hm⟩ := List.mem_flatMap.mp hm
      obtain ⟨j, hj, hy⟩ := List.mem_filterMap.mp hy
      have hij : i ≠ j := fun e => h1 (e ▸ hj)
      have : n ∈ A.fps (xs.set i (.sc .non)) := by
        rw [fps_map]
        exact List.mem_flatMap.mpr ⟨y, List.mem_of_getElem? (i := j) (by rw [List.getElem?_set_ne hij]; exact hy), hm⟩
      rw [e2] at this
      simp only [A.fp, List.append_nil, List.mem_append] at this
      rcases this with t | t
      · exact d0.2.2 n t n hn rfl
      · exact d1.2.2 n (List.mem_append_right _ hn) n t rfl
theorem arr_oks {c : List Nat} {xs : List A} (h : A.oks F S xs) : A.oks F S (GL.arr c xs) := by
  rw [oks_iff] at *
  exact fun x hx => h x (arr_mem hx)
theorem arr_sub {c : List Nat} {xs : List A} : ∀ n ∈ A.fps (GL.arr c xs), n ∈ A.fps xs := fun n hn => by
  rw [fps_map] at *
  obtain ⟨x, hx, hn⟩ := List.mem_flatMap.mp hn
  exact List.mem_flatMap.mpr ⟨x, arr_mem hx, hn⟩
theorem RA_app2 {as ag : List AV} : ∀ {cs ds : List ARV} {ws vs : List PV}, RA.pv as ag cs = some ws → RA.pv as ag ds = some vs → RA.pv as ag (cs ++ ds) = some (ws ++ vs)
  | [], ds, ws, vs, h1, h2 => by cases h1; exact h2
  | c :: r, ds, ws, vs, h1, h2 => by
    obtain ⟨w, t, hw, ht, rfl⟩ := seqO_cons h1
    exact seqO_mk hw (RA_app2 (cs := r) ht h2)
def eMakeK (n m : Nat) (c : List Nat) (C : Nm) (fn : MF) (dws : List PV) (args kws : PA) : PE := fun ls gh => (args ls gh).bind fun xs ls gh => (kws ls gh).bind fun ys ls gh =>
  if (decide (xs.length = n) && decide (ys.length = m)) = true then (match cvL true (xs ++ ys) ls gh with
    | some (ds, ls, gh) => makeD fn C (GL.arr (c.tail.map (· - 1)) (ds ++ dOfs dws)) ls gh
    | none => .bad) else .bad
theorem ra_len {cs : List ARV} {ws : List PV} (h : RA.pv as ag cs = some ws) : cs.length = ws.length := by
  induction cs generalizing ws with
  | nil => cases h; rfl
  | cons c r ih =>
    obtain ⟨w, t, _, ht, rfl⟩ := seqO_cons h
    simp [ih ht]
section
variable {q : Bool} {mr mk : AD → GL.MA} {pr pk : PA} {f : GL.MF} {fn : MF} {dws : List PV} {n m : Nat} {c : List Nat}
def gMakeK (n m : Nat) (c : List Nat) (C : Nm) (f : GL.MF) (dws ws zs : List PV) (S2 : Sto) : GL.Out PV := if (decide (ws.length = n) && decide (zs.length = m)) = true then (f (GL.arr c (.loc S2.length :: ws ++ zs ++ dws)) (S2 ++ [.ins C []])).bind fun r S3 => match r with
    | .non => .ok (.loc S2.length) S3
    | _ => .bad
  else .bad
theorem arr_shift {α : Type} (c : List Nat) (x : α) (xs : List α) : GL.arr (0 :: c.map (· + 1)) (x :: xs) = x :: GL.arr c xs := by
  unfold GL.arr
  rw [List.filterMap_cons, List.filterMap_map]
  rfl
theorem sim_makeK {C : Nm} (hf : SimFn f fn) (hd : rigs dws = true) (hc0 : c = 0 :: (c.tail.map (· - 1)).map (· + 1)) (hc : (c.tail.map (· - 1)).Nodup) (h : SimA q mr pr) (hk : SimA true mk pk) : SimE q (fun ad => GL.eMakeK n m c C f dws (mr ad) (mk ad)) (eMakeK n m c C fn dws pr pk) := fun F S as ag gd =>
  SimO.weak (sim_first (R' := RE) (q' := true && true) (k := fun (xs : List RV) (ls gh : Ls) => (pk ls gh).bind fun ys ls gh =>
    if (decide (xs.length = n) && decide (ys.length = m)) = true then (match cvL true (xs ++ ys) ls gh with
      | some (ds, ls, gh) => makeD fn C (GL.arr (c.tail.map (· - 1)) (ds ++ dOfs dws)) ls gh
      | none => .bad) else .bad) (f := fun ad ws S1 => (mk ad (glS as ag ad as) S1).bind fun zs S2 => gMakeK n m c C f dws ws zs S2) h gd (fun _ => rfl) fun F1 S1 as1 ag1 cs ws h1 h2 g1 n1 l1 L1 =>
    sim_next (R0 := RA) (R := RA) (R' := RE) (k := fun (ys : List RV) (ls gh : Ls) => if (decide ((RA.er cs).length = n) && decide (ys.length = m)) = true then (match cvL true (RA.er cs ++ ys) ls gh with
      | some (ds, ls, gh) => makeD fn C (GL.arr (c.tail.map (· - 1)) (ds ++ dOfs dws)) ls gh
      | none => .bad) else .bad) (f := fun ad zs S2 => gMakeK n m c C f dws ws zs S2) hk g1 cs h1 h2 n1 l1 (stab_ra true cs (.inl rfl)) L1 fun F2 S2 as2 ag2 ds zs h1 h2 h3 h4 g2 n2 l2 L2 => by
      have e1 : (RA.er cs).length = ws.length := by rw [← ra_len h1]; simp [RA]
      have e2 : (RA.er ds).length = zs.length := by rw [← ra_len h3]; simp [RA]
      rw [e1, e2]
      by_cases hl : (decide (ws.length = n) && decide (zs.length = m)) = true
      · rw [if_pos hl]
        simp only [gMakeK, if_pos hl]
        have efp : RA.fp cs ++ RA.fp ds = RA.fp (cs ++ ds) := by show _ = List.flatMap _ _; rw [List.flatMap_append]; rfl
        have eer : RA.er cs ++ RA.er ds = (cs ++ ds).map ARV.er := by simp [RA]
        rw [efp] at n2 l2 ⊢
        rw [eer]
        cases hv : cvL true ((cs ++ ds).map ARV.er) (erS as2) (erS ag2) with
        | none => trivial
        | some t =>
          obtain ⟨es, l3, g3⟩ := t
          obtain ⟨F3, as3, ag3, xs, rfl, rfl, rfl, hxs, xok, _, ev⟩ := cvL_sim g2 n2 l2 (RA_app2 h1 h3) (fun c hc => by
            rcases List.mem_append.mp hc with t | t
            · exact h2 c t
            · exact h4 c t) hv
          dsimp only
          refine SimO.pre ev ?_
          generalize c.tail.map (· - 1) = c' at hc0 hc ⊢
          have q1 : GL.arr c' (A.ers xs ++ dOfs dws) = A.ers (GL.arr c' (xs ++ aOfs dws)) := by rw [ers_map (GL.arr c' _), ← arr_map, ← ers_map, ers_app, aOfs_er]
          have q2 : GL.arr c (.loc S2.length :: ws ++ zs ++ dws) = .loc S2.length :: A.pvs (GL.arr c' (xs ++ aOfs dws)) := by
            rw [hc0, List.cons_append, List.cons_append, arr_shift]
            rw [pvs_map (GL.arr c' _), ← arr_map, ← pvs_map, pvs_app, aOfs_pv hd, hxs]
          have q3 : A.fps (xs ++ aOfs dws) = A.fps xs := by rw [fps_app, (aOfs_fp (F := F) (S := S) dws).1, List.append_nil]
          rw [q1, q2]
          exact make_sim hf ev.good ev.nd ev.lt (arr_oks (oks_app xok (aOfs_fp dws).2)) (arr_fps (by rw [q3]; exact (List.nodup_append.mp ev.nd).2.1) hc) (fun n hn => by have := arr_sub n hn; rwa [q3] at this)
      · rw [if_neg hl]; trivial) (by simp)
end
end VL
set_option Elab.async false
set_option linter.all false
set_option maxRecDepth 100000
set_option maxHeartbeats 1000000
namespace VL
open GL (PV OB Sto Nm BT lim)
open PySem (PyData Builtin)
variable {F F' F'' : FM} {S S' S'' : Sto} {as as' as'' ag ag' ag'' : List AV} {x0 x1 x2 : List Nat}
theorem SimX.weak {α β γ : Type} {q q' : Bool} {R : RT α β γ} {m : AD → GL.Ls → Sto → GL.Out α} {p : PX β} (h : SimX q R m p) (hq : q' = true → q = true) : SimX q' R m p := fun F S as ag g => (h F S as ag g).weak hq
end VL
set_option Elab.async false
set_option linter.all false
set_option maxRecDepth 100000
set_option maxHeartbeats 1000000
namespace VL
open GL (PV OB Sto Nm BT lim)
open PySem (PyData Builtin)
end VL
set_option Elab.async false
set_option linter.all false
set_option maxRecDepth 100000
set_option maxHeartbeats 1000000
namespace VL
open GL (PV OB Sto Nm BT lim)
open PySem (PyData Builtin)
variable {F F' F'' : FM} {S S' S'' : Sto} {as as' as'' ag ag' ag'' : List AV} {x0 x1 x2 : List Nat}
inductive ACv where
  | v (a : A) | al (s : List Nat)
def ACv.fp : ACv → List Nat
  | .v a => a.fp
  | _ => []
def ACv.ok (F : FM) (S : Sto) : ACv → Prop
  | .v a => a.ok F S
  | _ => True
def ACv.pv (x : A) : ACv → Option PV
  | .v a => some a.pv
  | .al s => (getA s x).map A.pv
end VL
set_option Elab.async false
set_option linter.all false
set_option maxRecDepth 100000
set_option maxHeartbeats 1000000
namespace VL
open GL (PV OB Sto Nm BT lim)
variable {F F' F1 : FM} {S S' S1 : Sto} {as ag as' ag' : List AV} {x0 : List Nat}
mutual
def noL : D → Bool
  | .sc _ => true
  | .tup xs => noLs xs
  | .nd k h xs => (match k, h with
    | .fz, .lst => false
    | _, _ => true) && noLs xs
def noLs : List D → Bool
  | [] => true
  | x :: r => noL x && noLs r
end
mutual
def onlyL : D → Bool
  | .sc _ => true
  | .tup _ => true
  | .nd k h xs => match k, h with
    | .fz, _ => true
    | .ow, .lst => onlyLs xs
    | _, _ => false
def onlyLs : List D → Bool
  | [] => true
  | x :: r => onlyL x && onlyLs r
end
theorem noLs_iff (xs : List D) : noLs xs = true ↔ ∀ x ∈ xs, noL x = true := by induction xs <;> simp_all [noLs]
theorem onlyLs_iff (xs : List D) : onlyLs xs = true ↔ ∀ x ∈ xs, onlyL x = true := by induction xs <;> simp_all [onlyLs]
theorem onlyL_fp : ∀ (a : A), onlyL a.er = true → a.ok F S → ∀ m ∈ a.fp, ∃ ws, S[m]? = some (mkO .lst ws) := by
  intro a
  induction a using A.ind with
  | h1 s => intro _ _ m hm; simp [A.fp] at hm
  | h2 xs ih =>
    intro _ h m hm
    simp only [A.ok] at h
    rw [A.fp, h.1] at hm; cases hm
  | h3 k n hd xs ih =>
    intro ho h m hm
    cases k with
    | fz =>
      simp only [A.ok] at h
      rw [A.fp, h.2.2.1] at hm; cases hm
    | lk => simp [A.er, onlyL] at ho
    | ow =>
      cases hd with
      | lst =>
        simp only [A.er, onlyL, onlyLs_iff, ers_map] at ho
        simp only [A.ok] at h
        simp only [A.fp] at hm
        rcases List.mem_cons.mp hm with rfl | hm
        · exact ⟨_, h.1.2⟩
        · rw [fps_map] at hm
          obtain ⟨x, hx, q⟩ := List.mem_flatMap.mp hm
          exact ih x hx (ho _ (List.mem_map_of_mem hx)) ((oks_iff xs).mp h.2.2 x hx) m q
      | _ => simp [A.er, onlyL] at ho
def cutF (F : FM) (B : List Nat) : FM := fun n => if n ∈ B then none else F n
theorem cut_ok {B : List Nat} (hB : ∀ m ∈ B, ∃ ws, F m = some (true, mkO .lst ws)) : ∀ (a : A), noL a.er = true → a.ok F S → a.ok (cutF F B) S := by
  intro a
  induction a using A.ind with
  | h1 s => intros; simp [A.ok]
  | h2 xs ih =>
    intro ho h
    simp only [A.er, noL, noLs_iff, ers_map] at ho
    simp only [A.ok, oks_iff] at h ⊢
    exact ⟨h.1, fun x hx => ih x hx (ho _ (List.mem_map_of_mem hx)) (h.2 x hx)⟩
  | h3 k n hd xs ih =>
    intro ho h
    simp only [A.er, noL, Bool.and_eq_true, noLs_iff, ers_map] at ho
    have kid : A.oks F S xs → A.oks (cutF F B) S xs := fun h => by
      rw [oks_iff] at h ⊢
      exact fun x hx => ih x hx (ho.2 _ (List.mem_map_of_mem hx)) (h x hx)
    have out : ∀ {v : Option (Bool × OB)}, F n = v → (n ∈ B → v = none ∨ (∃ o, v = some (false, o)) ∨ (∃ o, v = some (true, o) ∧ ∀ ws, o ≠ mkO .lst ws)) → cutF F B n = v := fun {v} e hv => by
      unfold cutF
      split
      · rename_i hn
        obtain ⟨ws, q⟩ := hB n hn
        rw [e] at q
        rcases hv hn with r | ⟨o, r⟩ | ⟨o, r, r2⟩
        · exact r.symm
        · rw [q] at r; cases r
        · rw [q] at r
          simp only [Option.some.injEq, Prod.mk.injEq, true_and] at r
          exact absurd r.symm (r2 ws)
      · exact e
    cases k with
    | fz =>
      simp only [A.ok] at h ⊢
      refine ⟨out h.1 fun _ => .inr (.inr ⟨_, rfl, fun ws e => ?_⟩), h.2.1, h.2.2.1, kid h.2.2.2⟩
      cases hd with
      | lst => simp at ho
      | rol => cases e
      | dct ks => cases e
      | ins C ns => cases e
    | lk =>
      simp only [A.ok] at h ⊢
      exact ⟨out h.1 fun _ => .inr (.inl ⟨_, rfl⟩), h.2.1, kid h.2.2⟩
    | ow =>
      simp only [A.ok] at h ⊢
      exact ⟨⟨out h.1.1 fun _ => .inl rfl, h.1.2⟩, h.2.1, kid h.2.2⟩
def bwR (x : RV) (ls gh : Ls) : Option D := match x with
  | .v d => some d
  | .pth r p => match atD ls gh r p with
    | some d => if d.shr = true then some d else if onlyL d = true then D.frz d else none
    | none => none
def bwL : List RV → Ls → Ls → Option (List D)
  | [], _, _ => some []
  | x :: r, ls, gh => match bwR x ls gh, bwL r ls gh with
    | some d, some ds => some (d :: ds)
    | _, _ => none
theorem bw_sim (g : Good F S as ag) {z : List Nat} {c : ARV} {w : PV} {d : D} (nd : (fpS (as ++ ag) ++ z).Nodup) (hz : ∀ n ∈ c.fp, n ∈ z) (h1 : c.pv as ag = some w) (h2 : c.ok F S) (h : bwR c.er (erS as) (erS ag) = some d) :
    ∃ (a : A) (B : List Nat), a.er = d ∧ a.pv = w ∧ a.fp = c.fp ∧ (∀ m ∈ B, m ∈ fpS (as ++ ag) ∧ F m = none ∧ ∃ ws, S[m]? = some (mkO .lst ws)) ∧
      ∀ B' : List Nat, (∀ m ∈ B, m ∈ B') → (∀ m ∈ B', m ∈ fpS (as ++ ag) ∧ F m = none) → a.ok (frF F S B') S := by
  have out : ∀ (a : A), (∀ n ∈ a.fp, n ∈ z) → a.ok F S → ∀ B' : List Nat, (∀ m ∈ B', m ∈ fpS (as ++ ag) ∧ F m = none) → a.ok (frF F S B') S := fun a ha aok B' hB' =>
    ok_frame (frF_mono fun n hn => (hB' n hn).2) (fun n hn => ⟨by
      unfold frF
      rw [if_neg fun q => (List.nodup_append.mp nd).2.2 n (hB' n q).1 n (ha n hn) rfl], rfl⟩) aok
  cases c with
  | v a =>
    cases h1
    cases h
    exact ⟨a, [], rfl, rfl, rfl, (fun m hm => by cases hm), fun B' _ hB' => out a hz h2 B' hB'⟩
  | pth r p =>
    simp only [bwR, ARV.er] at h
    rw [at_er] at h
    cases hat : atA as ag r p with
    | none => rw [hat] at h; cases h
    | some a =>
      rw [hat] at h
      simp only [Option.map_some] at h
      have hw : a.pv = w := by simpa [ARV.pv, hat] using h1
      have aok := at_ok g hat
      split at h
      · rename_i hs
        cases h
        rw [shr_er] at hs
        have e0 := fp_shr aok hs
        exact ⟨a, [], rfl, hw, e0, (fun m hm => by cases hm), fun B' _ hB' => out a (by rw [e0]; intro n hn; cases hn) aok B' hB'⟩
      · rename_i hs
        split at h
        · rename_i ho
          rw [shr_er] at hs
          have hs : a.shr = false := by simpa using hs
          have sub := sub_node g hat hs
          exact ⟨a.frz, a.fp, frz_er a h, by rw [frz_pv]; exact hw, frz_fp a h aok, fun m hm => ⟨sub.subset hm, frz_none a h aok m hm, onlyL_fp a ho aok m hm⟩,
            fun B' hs' hB' => frz_ok a h [] (frF_mono fun n hn => (hB' n hn).2) (fun n hn => by unfold frF; rw [if_pos (hs' n hn)]) aok⟩
        · cases h
theorem bwL_sim (g : Good F S as ag) {z : List Nat} (nd : (fpS (as ++ ag) ++ z).Nodup) : ∀ (cs : List ARV) (ws : List PV) (ds : List D), (∀ n ∈ RA.fp cs, n ∈ z) → RA.pv as ag cs = some ws → RA.ok F S cs → bwL (cs.map ARV.er) (erS as) (erS ag) = some ds →
    ∃ (xs : List A) (B : List Nat), A.ers xs = ds ∧ A.pvs xs = ws ∧ A.fps xs = RA.fp cs ∧ (∀ m ∈ B, m ∈ fpS (as ++ ag) ∧ F m = none ∧ ∃ ws, S[m]? = some (mkO .lst ws)) ∧
      ∀ B' : List Nat, (∀ m ∈ B, m ∈ B') → (∀ m ∈ B', m ∈ fpS (as ++ ag) ∧ F m = none) → A.oks (frF F S B') S xs
  | [], ws, ds, _, h1, _, h => by
    cases h1; cases h
    exact ⟨[], [], rfl, rfl, rfl, (fun m hm => by cases hm), fun B' _ _ => trivial⟩
  | c :: r, ws, ds, hz, h1, h2, h => by
    obtain ⟨w, t, hw, ht, rfl⟩ := seqO_cons h1
    rw [List.map_cons, bwL] at h
    split at h
    · rename_i d ds' e1 e2
      cases h
      obtain ⟨a, B1, a1, a2, a3, a4, a5⟩ := bw_sim g nd (fun n hn => hz n (List.mem_append_left _ hn)) hw (h2 c List.mem_cons_self) e1
      obtain ⟨xs, B2, b1, b2, b3, b4, b5⟩ := bwL_sim g nd r t ds' (fun n hn => hz n (List.mem_append_right _ hn)) ht (fun c hc => h2 c (List.mem_cons_of_mem _ hc)) e2
      refine ⟨a :: xs, B1 ++ B2, by rw [A.ers, a1, b1], by rw [A.pvs, a2, b2], by rw [A.fps, a3, b3]; rfl, fun m hm => ?_, fun B' hs hB' => ?_⟩
      · rcases List.mem_append.mp hm with q | q
        · exact a4 m q
        · exact b4 m q
      · exact ⟨a5 B' (fun m hm => hs m (List.mem_append_left _ hm)) hB', b5 B' (fun m hm => hs m (List.mem_append_right _ hm)) hB'⟩
    · cases h
def callB (fn : MF) (dws : List PV) (xs : List RV) (ls gh : Ls) : Out RV := match bwL xs ls gh with
  | some ds => (match fn ((ds ++ dOfs dws).map .v) [] with
    | .ok d _ => if noL d = true then .ok (.v d) ls gh else .bad
    | .exc e _ => if noLs e.ds = true then .exc e ls gh else .bad
    | .bad => .bad)
  | none => .bad
def eCallB (fn : MF) (dws : List PV) (args : PA) : PE := fun ls gh => (args ls gh).bind fun xs ls gh => callB fn dws xs ls gh
section
variable {q : Bool} {mr : AD → GL.MA} {pr : PA} {f : GL.MF} {fn : MF} {dws : List PV}
theorem callB_sim (hf : SimFn f fn) (hd : rigs dws = true) (g : Good F S as ag) {cs : List ARV} {ws : List PV} (nd : (fpS (as ++ ag) ++ RA.fp cs).Nodup) (lt : ∀ n ∈ RA.fp cs, n < S.length) (h1 : RA.pv as ag cs = some ws) (h2 : RA.ok F S cs) :
    SimO true RE F S as ag (RA.fp cs) (fun _ => f (ws ++ dws) S) (callB fn dws (cs.map ARV.er) (erS as) (erS ag)) := by
  unfold callB
  cases hc : bwL (cs.map ARV.er) (erS as) (erS ag) with
  | none => trivial
  | some ds =>
    obtain ⟨xs, B, e1, e2, e3, hB, hok⟩ := bwL_sim g nd cs ws ds (fun n h => h) h1 h2 hc
    have ok1 := hok B (fun m h => h) fun m h => ⟨(hB m h).1, (hB m h).2.1⟩
    have hm := frF_mono (S := S) fun m h => (hB m h).2.1
    have q1 : ds ++ dOfs dws = A.ers (xs ++ aOfs dws) := by rw [ers_app, aOfs_er, e1]
    have q2 : ws ++ dws = A.pvs (xs ++ aOfs dws) := by rw [pvs_app, aOfs_pv hd, e2]
    have q3 : A.fps (xs ++ aOfs dws) = RA.fp cs := by rw [fps_app, (aOfs_fp (F := F) (S := S) dws).1, List.append_nil, e3]
    have ok2 := oks_app ok1 (aOfs_fp (F := frF F S B) (S := S) dws).2
    have gd1 : Good (frF F S B) S ((xs ++ aOfs dws).map .v) [] := by
      refine ⟨frF_fs g.fs, fun z h => ?_, ?_, fun z h => ?_⟩
      · obtain ⟨x, hx, rfl⟩ := List.mem_map.mp ((List.append_nil _) ▸ h)
        exact (oks_iff _).mp ok2 x hx
      · rw [List.append_nil, v_fp, q3]; exact (List.nodup_append.mp nd).2.1
      · obtain ⟨x, hx, rfl⟩ := List.mem_map.mp ((List.append_nil _) ▸ h)
        trivial
    have h := hf (frF F S B) S ((xs ++ aOfs dws).map .v) [] ((A.ers (xs ++ aOfs dws)).map .v) (A.pvs (xs ++ aOfs dws)) gd1 (v_list _) (fun ad => v_gl _ _ ad _)
    simp only [List.map_nil] at h
    dsimp only
    rw [q1, q2]
    have frB : ∀ m ∈ B, ∃ vs, frF F S B m = some (true, mkO .lst vs) := fun m hm => by
      obtain ⟨vs, hv⟩ := (hB m hm).2.2
      exact ⟨vs, by unfold frF; rw [if_pos hm, hv]; rfl⟩
    have back : ∀ {F' : FM} {S' : Sto} {ag1 : List AV} {x : List Nat}, Sv (frF F S B) S ((xs ++ aOfs dws).map .v) [] [] F' S' [] ag1 x →
        (∀ m ∈ B, ∃ vs, F' m = some (true, mkO .lst vs)) ∧ Mono F (cutF F' B) ∧ FS (cutF F' B) S' ∧ ∀ n, n < S.length → n ∉ RA.fp cs → cutF F' B n = F n ∧ S'[n]? = S[n]? := fun {F' S' ag1 x} sv => by
      have k1 : ∀ m ∈ B, ∃ vs, F' m = some (true, mkO .lst vs) := fun m hm => by
        obtain ⟨vs, hv⟩ := frB m hm
        exact ⟨vs, sv.mono _ _ _ hv⟩
      have k2 : ∀ n b o, F n = some (b, o) → n ∉ B := fun n b o e h => by rw [(hB n h).2.1] at e; cases e
      refine ⟨k1, fun n b o e => ?_, fun n b o e => ?_, fun n hn hx => ?_⟩
      · unfold cutF
        rw [if_neg (k2 n b o e)]
        exact sv.mono _ _ _ (hm _ _ _ e)
      · unfold cutF at e
        split at e
        · cases e
        · exact sv.good.fs _ _ _ e
      · have kp := sv.keep n hn (by rw [List.append_nil, List.append_nil, v_fp, q3]; exact hx)
        refine ⟨?_, kp.2⟩
        unfold cutF
        split
        · rename_i hb; exact ((hB n hb).2.1).symm
        · rename_i hb
          rw [kp.1]; unfold frF; rw [if_neg hb]
    cases hp : fn ((A.ers (xs ++ aOfs dws)).map .v) [] with
    | bad => trivial
    | exc e ios =>
      rw [hp] at h
      obtain ⟨F', S', hs', x, _, rfl, a3, xok, sv⟩ := h
      dsimp only
      split
      · rename_i hn
        obtain ⟨k1, k2, k3, k4⟩ := back sv
        refine ⟨cutF F' B, S', as, ag, x, rfl, rfl, rfl, fun _ => a3, ⟨xok.1, xok.2.1, ?_⟩, ?_⟩
        · rw [oks_iff]
          have hn : noLs (A.ers x.xs) = true := hn
          rw [noLs_iff, ers_map] at hn
          exact fun y hy => cut_ok k1 y (hn _ (List.mem_map_of_mem hy)) ((oks_iff _).mp xok.2.2 y hy)
        · exact ev_same g nd k2 k3 sv.len k4 List.nodup_nil (fun n h => by cases h) (fun n h => by cases h)
      · trivial
    | ok d ios =>
      rw [hp] at h
      obtain ⟨F', S', hs', a, _, rfl, a3, aok, sv⟩ := h
      dsimp only
      split
      · rename_i hn
        obtain ⟨k1, k2, k3, k4⟩ := back sv
        refine ⟨cutF F' B, S', as, ag, .v a, a.pv, rfl, rfl, rfl, fun _ => a3, rfl, cut_ok k1 a hn aok, ?_⟩
        refine ev_same g nd k2 k3 sv.len k4 ((List.nodup_append.mp sv.nd).2.1) (fun n h => ?_) sv.lt
        rcases sv.new n (List.mem_append_right _ h) with u | u
        · rw [List.append_nil, List.append_nil, v_fp, q3] at u
          exact .inl u
        · exact .inr u
      · trivial
theorem sim_callB (hf : SimFn f fn) (hd : rigs dws = true) (h : SimA q mr pr) : SimE q (fun ad => GL.eCall f dws (mr ad)) (eCallB fn dws pr) := fun F S as ag gd =>
  SimO.weak (sim_first (R' := RE) (q' := true) (k := fun xs ls gh => callB fn dws xs ls gh) (f := fun ad ws S1 => f (ws ++ dws) S1) h gd (fun _ => rfl) fun F1 S1 as1 ag1 cs ws h1 h2 g1 n1 l1 L1 => callB_sim hf hd g1 n1 l1 h1 h2) (by simp)
end
end VL
set_option Elab.async false
set_option linter.all false
set_option maxRecDepth 100000
set_option maxHeartbeats 1000000
namespace VL
open GL (PV OB Sto Nm BT lim)
end VL
set_option Elab.async false
set_option linter.all false
set_option maxRecDepth 100000
set_option maxHeartbeats 1000000
namespace VL
open GL (PV OB Sto Nm BT lim)
variable {F F' F1 : FM} {S S' S1 : Sto} {as ag as' ag' : List AV} {x0 : List Nat}
def hk : Hd → Nat × Nm
  | .lst => (0, [])
  | .rol => (1, [])
  | .dct _ => (2, [])
  | .ins C _ => (3, C)
end VL
set_option Elab.async false
set_option linter.all false
set_option maxRecDepth 100000
set_option maxHeartbeats 1000000
namespace VL
open GL (PV OB Sto Nm BT lim)
end VL
set_option Elab.async false
set_option linter.all false
set_option maxRecDepth 100000
set_option maxHeartbeats 1000000
namespace VL
open GL (PV OB Sto Nm BT lim)
end VL
set_option Elab.async false
set_option linter.all false
set_option maxRecDepth 100000
set_option maxHeartbeats 1000000
namespace VL
open GL (PV OB Sto Nm BT lim)
end VL
set_option Elab.async false
set_option linter.all false
set_option maxRecDepth 100000
set_option maxHeartbeats 1000000
namespace VL
open GL (PV OB Sto Nm BT lim)
end VL
set_option Elab.async false
set_option linter.all false
set_option maxRecDepth 100000
set_option maxHeartbeats 1000000
namespace VL
open GL (PV OB Sto Nm BT lim)
variable {F F' F1 : FM} {S S' S1 : Sto} {as ag as' ag' : List AV} {x0 : List Nat}
def vD : List V → Option (List D)
  | [] => some []
  | .v d :: r => (vD r).map (d :: ·)
  | _ => none
theorem vD_er : ∀ {cs : List AV} {vs : List V} {ds : List D}, erS cs = vs.map some → vD vs = some ds → ∃ xs : List A, cs = xs.map .v ∧ A.ers xs = ds ∧ vs = ds.map .v
  | [], [], ds, _, h => by cases h; exact ⟨[], rfl, rfl, rfl⟩
  | [], v :: r, ds, e, h => by cases e
  | z :: cs, [], ds, e, h => by cases e
  | z :: cs, v :: vs, ds, e, h => by
    rw [erS, List.map_cons, List.map_cons] at e
    injection e with e1 e2
    cases v with
    | v d =>
      obtain ⟨t, ht, rfl⟩ := Option.map_eq_some_iff.mp (show (vD vs).map (d :: ·) = some ds from h)
      obtain ⟨xs, rfl, q, rfl⟩ := vD_er (cs := cs) (vs := vs) e2 ht
      cases z with
      | v a =>
        have e1 : some (V.v a.er) = some (V.v d) := e1
        injection e1 with e1
        injection e1 with e1
        exact ⟨a :: xs, rfl, by rw [A.ers, e1, q], rfl⟩
      | un o => cases e1
      | io a => cases e1
      | al r p => cases e1
      | xn C ns xs => cases e1
    | io d => cases h
    | al r p => cases h
    | xn C ns ds => cases h
def mkG (C : Nm) (f : GL.MF) : GL.MF := fun ws S => (f (.loc S.length :: ws) (S ++ [.ins C []])).bind fun r S2 => match r with
  | .non => .ok (.loc S.length) S2
  | _ => .bad
def mkF (C : Nm) (fn : MF) : MF := fun vs hs => match hs with
  | [] => (match vD vs with
    | some ds => (match makeD fn C ds [] [] with
      | .ok (.v d) _ _ => .ok d []
      | .exc e _ _ => .exc e []
      | _ => .bad)
    | none => .bad)
  | _ :: _ => .bad
theorem sim_mkF {f : GL.MF} {fn : MF} {C : Nm} (hf : SimFn f fn) : SimFn (mkG C f) (mkF C fn) := by
  intro F S cs hs vs ws g e1 e2
  cases hs with
  | cons h r => trivial
  | nil =>
    unfold mkF
    simp only [List.map_nil]
    cases hv : vD vs with
    | none => trivial
    | some ds =>
      obtain ⟨xs, rfl, rfl, rfl⟩ := vD_er e1 hv
      have e3 : A.pvs xs = ws := by
        have := e2 default
        rw [v_gl] at this
        exact List.map_inj_right (fun a b h => by injection h) |>.mp this
      subst e3
      have fp : fpS (([] : List AV) ++ []) = [] := rfl
      have xok : A.oks F S xs := (oks_iff _).mpr fun x hx => g.ok (.v x) (List.mem_append_left _ (List.mem_map_of_mem hx))
      have nd : (A.fps xs).Nodup := by have := g.nd; rw [List.map_nil, List.append_nil, v_fp] at this; exact this
      have lt : ∀ n ∈ A.fps xs, n < S.length := fun n hn => by
        rw [fps_map] at hn
        obtain ⟨x, hx, hn⟩ := List.mem_flatMap.mp hn
        exact fp_lt g.fs ((oks_iff _).mp xok x hx) n hn
      have g0 : Good F S ([] : List AV) ([] : List AV) := ⟨g.fs, (fun z h => by cases h), List.nodup_nil, (fun z h => by cases h)⟩
      have h := make_sim (C := C) (x0 := A.fps xs) hf g0 (by rw [fp]; exact nd) lt xok nd (fun n h => h)
      have sv : ∀ {F' : FM} {S' : Sto} {as' ag' : List AV} {y : List Nat}, erS as' = [] → erS ag' = [] → Ev true F S [] [] (A.fps xs) F' S' as' ag' y → Sv F S (xs.map .v) [] [] F' S' [] [] y := fun {F' S' as' ag' y} q1 q2 ev => by
        have q1 : as' = [] := List.map_eq_nil_iff.mp q1
        have q2 : ag' = [] := List.map_eq_nil_iff.mp q2
        subst q1; subst q2
        refine ⟨ev.good, ev.nd, ev.lt, ev.mono, ev.len, fun n h1 h2 => ev.keep n h1 fun h => h2 ?_, fun n h => ?_, fun ad => rfl⟩
        · rw [List.append_nil, List.append_nil, v_fp]; exact h
        · rw [List.append_nil, List.append_nil, v_fp]; exact ev.new n h
      dsimp only
      rw [show makeD fn C (A.ers xs) [] [] = makeD fn C (A.ers xs) (erS []) (erS []) from rfl]
      cases hp : makeD fn C (A.ers xs) (erS []) (erS []) with
      | bad => trivial
      | exc e l1 l2 =>
        rw [hp] at h
        obtain ⟨F', S', as', ag', x, q1, q2, q3, q4, q5, q6⟩ := h
        have hl : l1 = [] ∧ l2 = [] := by
          unfold makeD at hp
          split at hp
          · cases hp
          · cases hp; exact ⟨rfl, rfl⟩
          · cases hp
        rw [hl.1] at q1; rw [hl.2] at q2
        exact ⟨F', S', [], x, rfl, q3, q4 default, q5, sv q1 q2 q6⟩
      | ok d l1 l2 =>
        rw [hp] at h
        obtain ⟨F', S', as', ag', c, w, q1, q2, q3, q4, q5, q6, q7⟩ := h
        have hl : l1 = [] ∧ l2 = [] := by
          unfold makeD at hp
          split at hp
          · cases hp; exact ⟨rfl, rfl⟩
          · cases hp
          · cases hp
        rw [hl.1] at q1; rw [hl.2] at q2
        cases c with
        | pth r p => rw [← q3]; trivial
        | v a =>
          rw [← q3]
          have q5 : some a.pv = some w := q5
          injection q5 with q5
          subst q5
          exact ⟨F', S', [], a, rfl, rfl, q4 default, q6, sv q1 q2 q7⟩
def eMakeB (C : Nm) (fn : MF) (dws : List PV) (args : PA) : PE := eCallB (mkF C fn) dws args
theorem sim_makeB {q : Bool} {mr : AD → GL.MA} {pr : PA} {f : GL.MF} {fn : MF} {dws : List PV} {C : Nm} (hf : SimFn f fn) (hd : rigs dws = true) (h : SimA q mr pr) : SimE q (fun ad => GL.eMake C f dws (mr ad)) (eMakeB C fn dws pr) :=
  sim_callB (sim_mkF hf) hd h
end VL
set_option Elab.async false
set_option linter.all false
set_option maxRecDepth 100000
set_option maxHeartbeats 4000000
namespace K44.V
open VL
open PySem (Str)
def m_law_row : MS := (sSeq (sSet 2 (eLst aNil))
  (sSeq (sFor (iSeq (eVar 0)) (gN 3)
  (sSeq (sSet 4 (eB fAbs (aCons (eB fInt (aCons (eVar 3) aNil)) aNil)))
  (sFor (iR1 (eC (.int 60))) (gN 5)
  (sSeq (sIf (toT (eOp gLt (eB fLen (aCons (eVar 2) aNil)) (eVar 1)))
  (sExpr (eMt kList mAppend (eVar 2) (aCons (eOp gMod (eVar 4) (eC (.int 16))) aNil)))
  sNil)
  (sSeq (sSet 4 (eOp gDiv (eVar 4) (eC (.int 16))))
  (sIf (toT (eOp gEq (eVar 4) (eC (.int 0))))
  sBk
  sNil))))))
  (sRet (eVar 2))))
abbrev f_law_row : MF := fnOf 2 6 m_law_row
theorem s_m_law_row : SimS (fun _ => K44.m_law_row) m_law_row := (sim_seq (sim_set (sim_lst sim_anil))
  (sim_seq (sim_for (sim_iseq (sim_var 0)) (sim_gN (vs := [3]) (by decide))
  (sim_seq (sim_set (sim_b (sim_acons (sim_b (sim_acons (sim_var 3) sim_anil) sim_fInt) sim_anil) sim_fAbs))
  (sim_for (sim_ir1 (sim_c rfl)) (sim_gN (vs := [5]) (by decide))
  (sim_seq (sim_sif (sim_toT (sim_op (sim_b (sim_acons (sim_var 2) sim_anil) sim_fLen) (sim_var 1) sim_gLt))
  (sim_expr (sim_mt sim_kList sim_mAppend (sim_var 2) (sim_acons (sim_op (sim_var 4) (sim_c rfl) sim_gMod) sim_anil)))
  sim_nil)
  (sim_seq (sim_set (sim_op (sim_var 4) (sim_c rfl) sim_gDiv))
  (sim_sif (sim_toT (sim_op (sim_var 4) (sim_c rfl) sim_gEq))
  sim_bk
  sim_nil))))))
  (sim_ret (sim_var 2))))
theorem s_f_law_row : SimFn K44.f_law_row f_law_row := sim_fn s_m_law_row
def m_law_digit : MS := (sSeq (sIf (toT (eOp gLt (eVar 1) (eB fLen (aCons (eVar 0) aNil))))
  (sRet (eOp gIx (eVar 0) (eVar 1)))
  sNil)
  (sRet (eC (.int 0))))
abbrev f_law_digit : MF := fnOf 2 2 m_law_digit
theorem s_m_law_digit : SimS (fun _ => K44.m_law_digit) m_law_digit := (sim_seq (sim_sif (sim_toT (sim_op (sim_var 1) (sim_b (sim_acons (sim_var 0) sim_anil) sim_fLen) sim_gLt))
  (sim_ret (sim_op (sim_var 0) (sim_var 1) sim_gIx))
  sim_nil)
  (sim_ret (sim_c rfl)))
theorem s_f_law_digit : SimFn K44.f_law_digit f_law_digit := sim_fn s_m_law_digit
def m_law_places : MS := (sRet (eLst (aCons (eC (.str n_start)) (aCons (eC (.str n_a)) (aCons (eC (.str n_aa)) (aCons (eC (.str n_ab)) (aCons (eC (.str n_b)) (aCons (eC (.str n_ba)) (aCons (eC (.str n_empty)) (aCons (eC (.str n_Bad)) (aCons (eC (.str n_bad_)) (aCons (eC (.str n_c)) (aCons (eC (.str n_be)) (aCons (eC (.str n_z)) (aCons (eC (.str n_stop)) aNil)))))))))))))))
abbrev f_law_places : MF := fnOf 0 0 m_law_places
theorem s_m_law_places : SimS (fun _ => K44.m_law_places) m_law_places := (sim_ret (sim_lst (sim_acons (sim_c rfl) (sim_acons (sim_c rfl) (sim_acons (sim_c rfl) (sim_acons (sim_c rfl) (sim_acons (sim_c rfl) (sim_acons (sim_c rfl) (sim_acons (sim_c rfl) (sim_acons (sim_c rfl) (sim_acons (sim_c rfl) (sim_acons (sim_c rfl) (sim_acons (sim_c rfl) (sim_acons (sim_c rfl) (sim_acons (sim_c rfl) sim_anil)))))))))))))))
theorem s_f_law_places : SimFn K44.f_law_places f_law_places := sim_fn s_m_law_places
def m_law_begin : MS := (sSeq (sSet 2 (eOp gAdd (eC (.int 2)) (eOp gMod (eB fInt (aCons (eCall f_law_digit [] (aCons (eVar 0) (aCons (eVar 1) aNil))) aNil)) (eC (.int 12)))))
  (sRet (eOp gIx (eCall f_law_places [] aNil) (eOp gMod (eB fInt (aCons (eCall f_law_digit [] (aCons (eVar 0) (aCons (eOp gAdd (eVar 1) (eC (.int 3))) aNil))) aNil)) (eVar 2)))))
abbrev f_law_begin : MF := fnOf 2 3 m_law_begin
theorem s_m_law_begin : SimS (fun _ => K44.m_law_begin) m_law_begin := (sim_seq (sim_set (sim_op (sim_c rfl) (sim_op (sim_b (sim_acons (sim_call s_f_law_digit rfl (sim_acons (sim_var 0) (sim_acons (sim_var 1) sim_anil))) sim_anil) sim_fInt) (sim_c rfl) sim_gMod) sim_gAdd))
  (sim_ret (sim_op (sim_call s_f_law_places rfl sim_anil) (sim_op (sim_b (sim_acons (sim_call s_f_law_digit rfl (sim_acons (sim_var 0) (sim_acons (sim_op (sim_var 1) (sim_c rfl) sim_gAdd) sim_anil))) sim_anil) sim_fInt) (sim_var 2) sim_gMod) sim_gIx)))
theorem s_f_law_begin : SimFn K44.f_law_begin f_law_begin := sim_fn s_m_law_begin
def m_law_pick : MS := (sSeq (sSet 3 (eC (.int 0)))
  (sSeq (sIf (toT (eOp gLt (eVar 1) (eB fLen (aCons (eVar 0) aNil))))
  (sSet 3 (eOp gIx (eVar 0) (eVar 1)))
  sNil)
  (sSeq (sIf (toT (eOp gLt (eOp gAdd (eVar 1) (eC (.int 1))) (eB fLen (aCons (eVar 0) aNil))))
  (sSet 3 (eOp gAdd (eVar 3) (eOp gMul (eC (.int 16)) (eOp gIx (eVar 0) (eOp gAdd (eVar 1) (eC (.int 1)))))))
  sNil)
  (sRet (eOp gMod (eB fInt (aCons (eVar 3) aNil)) (eVar 2))))))
abbrev f_law_pick : MF := fnOf 3 4 m_law_pick
theorem s_m_law_pick : SimS (fun _ => K44.m_law_pick) m_law_pick := (sim_seq (sim_set (sim_c rfl))
  (sim_seq (sim_sif (sim_toT (sim_op (sim_var 1) (sim_b (sim_acons (sim_var 0) sim_anil) sim_fLen) sim_gLt))
  (sim_set (sim_op (sim_var 0) (sim_var 1) sim_gIx))
  sim_nil)
  (sim_seq (sim_sif (sim_toT (sim_op (sim_op (sim_var 1) (sim_c rfl) sim_gAdd) (sim_b (sim_acons (sim_var 0) sim_anil) sim_fLen) sim_gLt))
  (sim_set (sim_op (sim_var 3) (sim_op (sim_c rfl) (sim_op (sim_var 0) (sim_op (sim_var 1) (sim_c rfl) sim_gAdd) sim_gIx) sim_gMul) sim_gAdd))
  sim_nil)
  (sim_ret (sim_op (sim_b (sim_acons (sim_var 3) sim_anil) sim_fInt) (sim_var 2) sim_gMod)))))
theorem s_f_law_pick : SimFn K44.f_law_pick f_law_pick := sim_fn s_m_law_pick
def m_law_listed : MS := (sSeq (sSet 2 (eCall f_law_places [] aNil))
  (sSeq (sSet 3 (eLst (aCons (eC (.str n_up)) (aCons (eC (.str n_down)) (aCons (eC (.str n_u)) (aCons (eC (.str n_empty)) (aCons (eC (.str n_bad)) (aCons (eC (.str n_left)) (aCons (eC (.str n_a)) aNil)))))))))
  (sSeq (sSet 4 (eOp gAdd (eC (.int 2)) (eOp gMod (eB fInt (aCons (eCall f_law_digit [] (aCons (eVar 0) (aCons (eVar 1) aNil))) aNil)) (eC (.int 12)))))
  (sSeq (sSet 5 (eLst aNil))
  (sSeq (sFor (iR1 (eC (.int 4))) (gN 6)
  (sFor (iR1 (eVar 4)) (gN 7)
  (sSeq (sSet 8 (eOp gAdd (eOp gAdd (eVar 1) (eC (.int 4))) (eOp gMul (eC (.int 6)) (eVar 7))))
  (sIf (toT (eOp gLt (eVar 6) (eOp gMod (eB fInt (aCons (eOp gAdd (eCall f_law_digit [] (aCons (eVar 0) (aCons (eVar 8) aNil))) (eC (.int 1))) aNil)) (eC (.int 5)))))
  (sSeq (sSet 9 (eOp gMod (eB fInt (aCons (eOp gAdd (eOp gAdd (eCall f_law_digit [] (aCons (eVar 0) (aCons (eOp gAdd (eOp gAdd (eVar 8) (eC (.int 2))) (eVar 6)) aNil))) (eVar 7)) (eC (.int 1))) aNil)) (eOp gAdd (eVar 4) (eC (.int 1)))))
  (sSeq (sSet 10 (eC (.str n_bad)))
  (sSeq (sIf (toT (eOp gLt (eVar 9) (eVar 4)))
  (sSet 10 (eOp gIx (eVar 2) (eVar 9)))
  sNil)
  (sExpr (eMt kList mAppend (eVar 5) (aCons (eTup (aCons (eOp gIx (eVar 2) (eVar 7)) (aCons (eOp gIx (eVar 3) (eOp gMod (eB fInt (aCons (eOp gAdd (eCall f_law_digit [] (aCons (eVar 0) (aCons (eOp gAdd (eVar 8) (eC (.int 1))) aNil))) (eVar 6)) aNil)) (eC (.int 7)))) (aCons (eVar 10) aNil)))) aNil))))))
  sNil))))
  (sSeq (sSet 11 (eCall f_law_pick [] (aCons (eVar 0) (aCons (eOp gAdd (eVar 1) (eC (.int 1))) (aCons (eOp gAdd (eB fLen (aCons (eVar 5) aNil)) (eC (.int 1))) aNil)))))
  (sRet (eOp gAdd (eSl (eVar 5) (oYes (eVar 11)) oNo) (eSl (eVar 5) oNo (oYes (eVar 11)))))))))))
abbrev f_law_listed : MF := fnOf 2 12 m_law_listed
theorem s_m_law_listed : SimS (fun _ => K44.m_law_listed) m_law_listed := (sim_seq (sim_set (sim_call s_f_law_places rfl sim_anil))
  (sim_seq (sim_set (sim_lst (sim_acons (sim_c rfl) (sim_acons (sim_c rfl) (sim_acons (sim_c rfl) (sim_acons (sim_c rfl) (sim_acons (sim_c rfl) (sim_acons (sim_c rfl) (sim_acons (sim_c rfl) sim_anil)))))))))
  (sim_seq (sim_set (sim_op (sim_c rfl) (sim_op (sim_b (sim_acons (sim_call s_f_law_digit rfl (sim_acons (sim_var 0) (sim_acons (sim_var 1) sim_anil))) sim_anil) sim_fInt) (sim_c rfl) sim_gMod) sim_gAdd))
  (sim_seq (sim_set (sim_lst sim_anil))
  (sim_seq (sim_for (sim_ir1 (sim_c rfl)) (sim_gN (vs := [6]) (by decide))
  (sim_for (sim_ir1 (sim_var 4)) (sim_gN (vs := [7]) (by decide))
  (sim_seq (sim_set (sim_op (sim_op (sim_var 1) (sim_c rfl) sim_gAdd) (sim_op (sim_c rfl) (sim_var 7) sim_gMul) sim_gAdd))
  (sim_sif (sim_toT (sim_op (sim_var 6) (sim_op (sim_b (sim_acons (sim_op (sim_call s_f_law_digit rfl (sim_acons (sim_var 0) (sim_acons (sim_var 8) sim_anil))) (sim_c rfl) sim_gAdd) sim_anil) sim_fInt) (sim_c rfl) sim_gMod) sim_gLt))
  (sim_seq (sim_set (sim_op (sim_b (sim_acons (sim_op (sim_op (sim_call s_f_law_digit rfl (sim_acons (sim_var 0) (sim_acons (sim_op (sim_op (sim_var 8) (sim_c rfl) sim_gAdd) (sim_var 6) sim_gAdd) sim_anil))) (sim_var 7) sim_gAdd) (sim_c rfl) sim_gAdd) sim_anil) sim_fInt) (sim_op (sim_var 4) (sim_c rfl) sim_gAdd) sim_gMod))
  (sim_seq (sim_set (sim_c rfl))
  (sim_seq (sim_sif (sim_toT (sim_op (sim_var 9) (sim_var 4) sim_gLt))
  (sim_set (sim_op (sim_var 2) (sim_var 9) sim_gIx))
  sim_nil)
  (sim_expr (sim_mt sim_kList sim_mAppend (sim_var 5) (sim_acons (sim_tup (sim_acons (sim_op (sim_var 2) (sim_var 7) sim_gIx) (sim_acons (sim_op (sim_var 3) (sim_op (sim_b (sim_acons (sim_op (sim_call s_f_law_digit rfl (sim_acons (sim_var 0) (sim_acons (sim_op (sim_var 8) (sim_c rfl) sim_gAdd) sim_anil))) (sim_var 6) sim_gAdd) sim_anil) sim_fInt) (sim_c rfl) sim_gMod) sim_gIx) (sim_acons (sim_var 10) sim_anil)))) sim_anil))))))
  sim_nil))))
  (sim_seq (sim_set (sim_call s_f_law_pick rfl (sim_acons (sim_var 0) (sim_acons (sim_op (sim_var 1) (sim_c rfl) sim_gAdd) (sim_acons (sim_op (sim_b (sim_acons (sim_var 5) sim_anil) sim_fLen) (sim_c rfl) sim_gAdd) sim_anil)))))
  (sim_ret (sim_op (sim_sl (sim_var 5) (sim_oyes (sim_var 11)) sim_ono) (sim_sl (sim_var 5) sim_ono (sim_oyes (sim_var 11))) sim_gAdd))))))))
theorem s_f_law_listed : SimFn K44.f_law_listed f_law_listed := sim_fn s_m_law_listed
def m_Table_init : MS := (sSeq (sFldM tab n_first (eVar 0) (eVar 1))
  (sFldM tab n_rows (eVar 0) (eLc (iSeq (eVar 2)) (gN 3) tYesM (eB fTuple (aCons (eVar 3) aNil)) [3])))
abbrev f_Table_init : MF := fnOf 3 4 m_Table_init
theorem s_m_Table_init : SimS (fun _ => K44.m_Table_init) m_Table_init := (sim_seq (sim_sfld (sim_var 0) (sim_var 1))
  (sim_sfld (sim_var 0) (sim_lc (sim_iseq (sim_var 2)) (sim_gN (vs := [3]) (by decide)) sim_tyes (sim_b (sim_acons (sim_var 3) sim_anil) sim_fTuple))))
theorem s_f_Table_init : SimFn K44.f_Table_init f_Table_init := sim_fn s_m_Table_init
def m_law_far : MS := (sSeq (sSet 1 (eDisp [((eC (.str n_bad)), (eC (.int 0)))]))
  (sSeq (sFor (iR1 (eC (.int 14))) (gN 2)
  (sFor (iSeq (eVar 0)) (gN 3)
  (sIf (tAndM (toT (eDIn false (eOp gIx (eVar 3) (eC (.int 2))) (eVar 1))) (tOrM (toT (eDIn true (eOp gIx (eVar 3) (eC (.int 0))) (eVar 1))) (toT (eOp gGt (eDGet (eVar 1) (eOp gIx (eVar 3) (eC (.int 0)))) (eOp gAdd (eC (.int 1)) (eDGet (eVar 1) (eOp gIx (eVar 3) (eC (.int 2)))))))))
  (sDPutM (eVar 1) (eOp gIx (eVar 3) (eC (.int 0))) (eOp gAdd (eC (.int 1)) (eDGet (eVar 1) (eOp gIx (eVar 3) (eC (.int 2))))))
  sNil)))
  (sRet (eVar 1))))
abbrev f_law_far : MF := fnOf 1 4 m_law_far
theorem s_m_law_far : SimS (fun _ => K44.m_law_far) m_law_far := (sim_seq (sim_set (sim_disp (.cons (sim_c rfl) (sim_c rfl) .nil)))
  (sim_seq (sim_for (sim_ir1 (sim_c rfl)) (sim_gN (vs := [2]) (by decide))
  (sim_for (sim_iseq (sim_var 0)) (sim_gN (vs := [3]) (by decide))
  (sim_sif (sim_tand (sim_toT (sim_din (sim_op (sim_var 3) (sim_c rfl) sim_gIx) (sim_var 1))) (sim_tor (sim_toT (sim_din (sim_op (sim_var 3) (sim_c rfl) sim_gIx) (sim_var 1))) (sim_toT (sim_op (sim_dget (sim_var 1) (sim_op (sim_var 3) (sim_c rfl) sim_gIx)) (sim_op (sim_c rfl) (sim_dget (sim_var 1) (sim_op (sim_var 3) (sim_c rfl) sim_gIx)) sim_gAdd) sim_gGt))))
  (sim_dput (sim_var 1) (sim_op (sim_var 3) (sim_c rfl) sim_gIx) (sim_op (sim_c rfl) (sim_dget (sim_var 1) (sim_op (sim_var 3) (sim_c rfl) sim_gIx)) sim_gAdd))
  sim_nil)))
  (sim_ret (sim_var 1))))
theorem s_f_law_far : SimFn K44.f_law_far f_law_far := sim_fn s_m_law_far
def m_law_due : MS := (sSeq (sSet 2 (eCall f_law_far [] (aCons (eVar 0) aNil)))
  (sSeq (sIf (toT (eDIn true (eVar 1) (eVar 2)))
  (sRet (eC .non))
  sNil)
  (sSeq (sSet 3 (eLst aNil))
  (sSeq (sSet 4 (eVar 1))
  (sSeq (sFor (iR1 (eDGet (eVar 2) (eVar 1))) (gN 5)
  (sSeq (sSet 6 (eVar 4))
  (sSeq (sFor (iSeq (eVar 0)) (gN 7)
  (sIf (tAndM (toT (eOp gEq (eOp gIx (eVar 7) (eC (.int 0))) (eVar 4))) (tAndM (toT (eOp gEq (eVar 6) (eVar 4))) (tAndM (toT (eDIn false (eOp gIx (eVar 7) (eC (.int 2))) (eVar 2))) (toT (eOp gEq (eDGet (eVar 2) (eOp gIx (eVar 7) (eC (.int 2)))) (eOp gSub (eDGet (eVar 2) (eVar 4)) (eC (.int 1))))))))
  (sSeq (sSet 6 (eOp gIx (eVar 7) (eC (.int 2))))
  (sExpr (eMt kList mAppend (eVar 3) (aCons (eOp gIx (eVar 7) (eC (.int 1))) aNil))))
  sNil))
  (sSet 4 (eVar 6)))))
  (sRet (eVar 3)))))))
abbrev f_law_due : MF := fnOf 2 8 m_law_due
theorem s_m_law_due : SimS (fun _ => K44.m_law_due) m_law_due := (sim_seq (sim_set (sim_call s_f_law_far rfl (sim_acons (sim_var 0) sim_anil)))
  (sim_seq (sim_sif (sim_toT (sim_din (sim_var 1) (sim_var 2)))
  (sim_ret (sim_c rfl))
  sim_nil)
  (sim_seq (sim_set (sim_lst sim_anil))
  (sim_seq (sim_set (sim_var 1))
  (sim_seq (sim_for (sim_ir1 (sim_dget (sim_var 2) (sim_var 1))) (sim_gN (vs := [5]) (by decide))
  (sim_seq (sim_set (sim_var 4))
  (sim_seq (sim_for (sim_iseq (sim_var 0)) (sim_gN (vs := [7]) (by decide))
  (sim_sif (sim_tand (sim_toT (sim_op (sim_op (sim_var 7) (sim_c rfl) sim_gIx) (sim_var 4) sim_gEq)) (sim_tand (sim_toT (sim_op (sim_var 6) (sim_var 4) sim_gEq)) (sim_tand (sim_toT (sim_din (sim_op (sim_var 7) (sim_c rfl) sim_gIx) (sim_var 2))) (sim_toT (sim_op (sim_dget (sim_var 2) (sim_op (sim_var 7) (sim_c rfl) sim_gIx)) (sim_op (sim_dget (sim_var 2) (sim_var 4)) (sim_c rfl) sim_gSub) sim_gEq)))))
  (sim_seq (sim_set (sim_op (sim_var 7) (sim_c rfl) sim_gIx))
  (sim_expr (sim_mt sim_kList sim_mAppend (sim_var 3) (sim_acons (sim_op (sim_var 7) (sim_c rfl) sim_gIx) sim_anil))))
  sim_nil))
  (sim_set (sim_var 6)))))
  (sim_ret (sim_var 3)))))))
theorem s_f_law_due : SimFn K44.f_law_due f_law_due := sim_fn s_m_law_due
def m_Table_start : MS := (sRet (eFld tab n_first (eVar 0)))
abbrev f_Table_start : MF := fnOf 1 1 m_Table_start
theorem s_m_Table_start : SimS (fun _ => K44.m_Table_start) m_Table_start := (sim_ret (sim_fld (sim_var 0)))
theorem s_f_Table_start : SimFn K44.f_Table_start f_Table_start := sim_fn s_m_Table_start
def m_Table_moves : MS := (sRet (eLc (iSeq (eFld tab n_rows (eVar 0))) (gT (gsCons (gN 2) (gsCons (gN 3) (gsCons (gN 4) gsNil)))) (toT (eOp gEq (eVar 2) (eVar 1))) (eTup (aCons (eVar 3) (aCons (eVar 4) aNil))) [2, 3, 4]))
abbrev f_Table_moves : MF := fnOf 2 5 m_Table_moves
theorem s_m_Table_moves : SimS (fun _ => K44.m_Table_moves) m_Table_moves := (sim_ret (sim_lc (sim_iseq (sim_fld (sim_var 0))) (sim_gT (sim_gscons (sim_gN (vs := [2, 3, 4]) (by decide)) (sim_gscons (sim_gN (vs := [2, 3, 4]) (by decide)) (sim_gscons (sim_gN (vs := [2, 3, 4]) (by decide)) sim_gsnil)))) (sim_toT (sim_op (sim_var 2) (sim_var 1) sim_gEq)) (sim_tup (sim_acons (sim_var 3) (sim_acons (sim_var 4) sim_anil)))))
theorem s_f_Table_moves : SimFn K44.f_Table_moves f_Table_moves := sim_fn s_m_Table_moves
def m_Table_scenario : MS := (sSeq (sSet 1 (eDisp [((eMeth n_Table n_start f_Table_start [] (eVar 0) aNil), (eTup aNil))]))
  (sSeq (sSet 2 (eLst (aCons (eMeth n_Table n_start f_Table_start [] (eVar 0) aNil) aNil)))
  (sSeq (sSet 3 (eC (.int 0)))
  (sSeq (whileL (toT (eOp gLt (eVar 3) (eB fLen (aCons (eVar 2) aNil))))
  (sSeq (sSet 4 (eOp gIx (eVar 2) (eVar 3)))
  (sSeq (sFor (iSeq (eMeth n_Table n_moves f_Table_moves [] (eVar 0) (aCons (eVar 4) aNil))) (gT (gsCons (gN 5) (gsCons (gN 6) gsNil)))
  (sSeq (sIf (toT (eOp gEq (eVar 6) (eC w_BAD)))
  (sRet (eOp gAdd (eB fList (aCons (eDGet (eVar 1) (eVar 4)) aNil)) (eLst (aCons (eVar 5) aNil))))
  sNil)
  (sIf (toT (eDIn true (eVar 6) (eVar 1)))
  (sSeq (sDPutM (eVar 1) (eVar 6) (eOp gAdd (eDGet (eVar 1) (eVar 4)) (eTup (aCons (eVar 5) aNil))))
  (sExpr (eMt kList mAppend (eVar 2) (aCons (eVar 6) aNil))))
  sNil)))
  (sAug 3 (gInt fun i j => i + j) (eC (.int 1))))) 4000)
  (sRet (eC .non))))))
abbrev f_Table_scenario : MF := fnOf 1 7 m_Table_scenario
theorem s_m_Table_scenario : SimS (fun _ => K44.m_Table_scenario) m_Table_scenario := (sim_seq (sim_set (sim_disp (.cons (sim_meth s_f_Table_start rfl (sim_var 0) sim_anil) (sim_tup sim_anil) .nil)))
  (sim_seq (sim_set (sim_lst (sim_acons (sim_meth s_f_Table_start rfl (sim_var 0) sim_anil) sim_anil)))
  (sim_seq (sim_set (sim_c rfl))
  (sim_seq (sim_while (sim_toT (sim_op (sim_var 3) (sim_b (sim_acons (sim_var 2) sim_anil) sim_fLen) sim_gLt))
  (sim_seq (sim_set (sim_op (sim_var 2) (sim_var 3) sim_gIx))
  (sim_seq (sim_for (sim_iseq (sim_meth s_f_Table_moves rfl (sim_var 0) (sim_acons (sim_var 4) sim_anil))) (sim_gT (sim_gscons (sim_gN (vs := [5, 6]) (by decide)) (sim_gscons (sim_gN (vs := [5, 6]) (by decide)) sim_gsnil)))
  (sim_seq (sim_sif (sim_toT (sim_op (sim_var 6) (sim_c rfl) sim_gEq))
  (sim_ret (sim_op (sim_b (sim_acons (sim_dget (sim_var 1) (sim_var 4)) sim_anil) sim_fList) (sim_lst (sim_acons (sim_var 5) sim_anil)) sim_gAdd))
  sim_nil)
  (sim_sif (sim_toT (sim_din (sim_var 6) (sim_var 1)))
  (sim_seq (sim_dput (sim_var 1) (sim_var 6) (sim_op (sim_dget (sim_var 1) (sim_var 4)) (sim_tup (sim_acons (sim_var 5) sim_anil)) sim_gAdd))
  (sim_expr (sim_mt sim_kList sim_mAppend (sim_var 2) (sim_acons (sim_var 6) sim_anil))))
  sim_nil)))
  (sim_aug (sim_c rfl) (sim_gInt _)))) 4000)
  (sim_ret (sim_c rfl))))))
theorem s_f_Table_scenario : SimFn K44.f_Table_scenario f_Table_scenario := sim_fn s_m_Table_scenario
def m_law_whole : MS := (sRet (eAndM (eB fIsi (aCons (eVar 0) (aCons (eC (.ty .int)) aNil))) (eNotM (eB fIsi (aCons (eVar 0) (aCons (eC (.ty .bool)) aNil))))))
abbrev f_law_whole : MF := fnOf 1 1 m_law_whole
theorem s_m_law_whole : SimS (fun _ => K44.m_law_whole) m_law_whole := (sim_ret (sim_and (sim_b (sim_acons (sim_var 0) (sim_acons (sim_c rfl) sim_anil)) sim_fIsi) (sim_not (sim_b (sim_acons (sim_var 0) (sim_acons (sim_c rfl) sim_anil)) sim_fIsi))))
theorem s_f_law_whole : SimFn K44.f_law_whole f_law_whole := sim_fn s_m_law_whole
def m_law_equal : MS := (sSeq (sSet 2 (eLst (aCons (eTup (aCons (eVar 0) (aCons (eVar 1) aNil))) aNil)))
  (sSeq (sFor (iR1 (eC (.int 6000))) (gN 3)
  (sSeq (sIf (toT (eOp gEq (eB fLen (aCons (eVar 2) aNil)) (eC (.int 0))))
  (sRet (eC (.bl true)))
  sNil)
  (sSeq (sSet 4 (eMt kList mPop (eVar 2) aNil))
  (sSeq (sSet 5 (eOp gIx (eVar 4) (eC (.int 0))))
  (sSeq (sSet 6 (eOp gIx (eVar 4) (eC (.int 1))))
  (sIf (tOrM (toT (eOp (isM false) (eVar 6) (eC .non))) (toT (eB fIsi (aCons (eVar 6) (aCons (eC (.ty .bool)) aNil)))))
  (sIf (tOrM (toT (eOp gNe (eB fIsi (aCons (eVar 5) (aCons (eC (.ty .bool)) aNil))) (eB fIsi (aCons (eVar 6) (aCons (eC (.ty .bool)) aNil))))) (toT (eOp gNe (eVar 5) (eVar 6))))
  (sRet (eC (.bl false)))
  sNil)
  (sIf (toT (eB fIsi (aCons (eVar 6) (aCons (eC (.ty .int)) aNil))))
  (sIf (tOrM (tNotM (toT (eCall f_law_whole [] (aCons (eVar 5) aNil)))) (toT (eOp gNe (eVar 5) (eVar 6))))
  (sRet (eC (.bl false)))
  sNil)
  (sIf (toT (eB fIsi (aCons (eVar 6) (aCons (eC (.ty .str)) aNil))))
  (sIf (tOrM (tNotM (toT (eB fIsi (aCons (eVar 5) (aCons (eC (.ty .str)) aNil))))) (toT (eOp gNe (eVar 5) (eVar 6))))
  (sRet (eC (.bl false)))
  sNil)
  (sSeq (sIf (tOrM (toT (eOp gNe (eB fIsi (aCons (eVar 5) (aCons (eC (.ty .list)) aNil))) (eB fIsi (aCons (eVar 6) (aCons (eC (.ty .list)) aNil))))) (toT (eOp gNe (eB fIsi (aCons (eVar 5) (aCons (eC (.ty .tuple)) aNil))) (eB fIsi (aCons (eVar 6) (aCons (eC (.ty .tuple)) aNil))))))
  (sRet (eC (.bl false)))
  sNil)
  (sSeq (sIf (toT (eB fIsi (aCons (eVar 6) (aCons (eC (.ty .dict)) aNil))))
  (sSeq (sIf (tOrM (tNotM (toT (eB fIsi (aCons (eVar 5) (aCons (eC (.ty .dict)) aNil))))) (toT (eOp gNe (eB fList (aCons (eVar 5) aNil)) (eB fList (aCons (eVar 6) aNil)))))
  (sRet (eC (.bl false)))
  sNil)
  (sSeq (sSet 5 (eLc (iSeq (eVar 6)) (gN 7) tYesM (eOp gIx (eVar 5) (eVar 7)) [7]))
  (sSet 6 (eLc (iSeq (eVar 6)) (gN 7) tYesM (eOp gIx (eVar 6) (eVar 7)) [7]))))
  sNil)
  (sSeq (sIf (toT (eOp gNe (eB fLen (aCons (eVar 5) aNil)) (eB fLen (aCons (eVar 6) aNil))))
  (sRet (eC (.bl false)))
  sNil)
  (sFor (iR1 (eB fLen (aCons (eVar 6) aNil))) (gN 8)
  (sExpr (eMt kList mAppend (eVar 2) (aCons (eTup (aCons (eOp gIx (eVar 5) (eVar 8)) (aCons (eOp gIx (eVar 6) (eVar 8)) aNil))) aNil)))))))))))))))
  (sRet (eC (.bl false)))))
abbrev f_law_equal : MF := fnOf 2 9 m_law_equal
theorem s_m_law_equal : SimS (fun _ => K44.m_law_equal) m_law_equal := (sim_seq (sim_set (sim_lst (sim_acons (sim_tup (sim_acons (sim_var 0) (sim_acons (sim_var 1) sim_anil))) sim_anil)))
  (sim_seq (sim_for (sim_ir1 (sim_c rfl)) (sim_gN (vs := [3]) (by decide))
  (sim_seq (sim_sif (sim_toT (sim_op (sim_b (sim_acons (sim_var 2) sim_anil) sim_fLen) (sim_c rfl) sim_gEq))
  (sim_ret (sim_c rfl))
  sim_nil)
  (sim_seq (sim_set (sim_mt sim_kList sim_mPop (sim_var 2) sim_anil))
  (sim_seq (sim_set (sim_op (sim_var 4) (sim_c rfl) sim_gIx))
  (sim_seq (sim_set (sim_op (sim_var 4) (sim_c rfl) sim_gIx))
  (sim_sif (sim_tor (sim_toT (sim_op (sim_var 6) (sim_c rfl) (sim_isM false))) (sim_toT (sim_b (sim_acons (sim_var 6) (sim_acons (sim_c rfl) sim_anil)) sim_fIsi)))
  (sim_sif (sim_tor (sim_toT (sim_op (sim_b (sim_acons (sim_var 5) (sim_acons (sim_c rfl) sim_anil)) sim_fIsi) (sim_b (sim_acons (sim_var 6) (sim_acons (sim_c rfl) sim_anil)) sim_fIsi) sim_gNe)) (sim_toT (sim_op (sim_var 5) (sim_var 6) sim_gNe)))
  (sim_ret (sim_c rfl))
  sim_nil)
  (sim_sif (sim_toT (sim_b (sim_acons (sim_var 6) (sim_acons (sim_c rfl) sim_anil)) sim_fIsi))
  (sim_sif (sim_tor (sim_tnot (sim_toT (sim_call s_f_law_whole rfl (sim_acons (sim_var 5) sim_anil)))) (sim_toT (sim_op (sim_var 5) (sim_var 6) sim_gNe)))
  (sim_ret (sim_c rfl))
  sim_nil)
  (sim_sif (sim_toT (sim_b (sim_acons (sim_var 6) (sim_acons (sim_c rfl) sim_anil)) sim_fIsi))
  (sim_sif (sim_tor (sim_tnot (sim_toT (sim_b (sim_acons (sim_var 5) (sim_acons (sim_c rfl) sim_anil)) sim_fIsi))) (sim_toT (sim_op (sim_var 5) (sim_var 6) sim_gNe)))
  (sim_ret (sim_c rfl))
  sim_nil)
  (sim_seq (sim_sif (sim_tor (sim_toT (sim_op (sim_b (sim_acons (sim_var 5) (sim_acons (sim_c rfl) sim_anil)) sim_fIsi) (sim_b (sim_acons (sim_var 6) (sim_acons (sim_c rfl) sim_anil)) sim_fIsi) sim_gNe)) (sim_toT (sim_op (sim_b (sim_acons (sim_var 5) (sim_acons (sim_c rfl) sim_anil)) sim_fIsi) (sim_b (sim_acons (sim_var 6) (sim_acons (sim_c rfl) sim_anil)) sim_fIsi) sim_gNe)))
  (sim_ret (sim_c rfl))
  sim_nil)
  (sim_seq (sim_sif (sim_toT (sim_b (sim_acons (sim_var 6) (sim_acons (sim_c rfl) sim_anil)) sim_fIsi))
  (sim_seq (sim_sif (sim_tor (sim_tnot (sim_toT (sim_b (sim_acons (sim_var 5) (sim_acons (sim_c rfl) sim_anil)) sim_fIsi))) (sim_toT (sim_op (sim_b (sim_acons (sim_var 5) sim_anil) sim_fList) (sim_b (sim_acons (sim_var 6) sim_anil) sim_fList) sim_gNe)))
  (sim_ret (sim_c rfl))
  sim_nil)
  (sim_seq (sim_set (sim_lc (sim_iseq (sim_var 6)) (sim_gN (vs := [7]) (by decide)) sim_tyes (sim_op (sim_var 5) (sim_var 7) sim_gIx)))
  (sim_set (sim_lc (sim_iseq (sim_var 6)) (sim_gN (vs := [7]) (by decide)) sim_tyes (sim_op (sim_var 6) (sim_var 7) sim_gIx)))))
  sim_nil)
  (sim_seq (sim_sif (sim_toT (sim_op (sim_b (sim_acons (sim_var 5) sim_anil) sim_fLen) (sim_b (sim_acons (sim_var 6) sim_anil) sim_fLen) sim_gNe))
  (sim_ret (sim_c rfl))
  sim_nil)
  (sim_for (sim_ir1 (sim_b (sim_acons (sim_var 6) sim_anil) sim_fLen)) (sim_gN (vs := [8]) (by decide))
  (sim_expr (sim_mt sim_kList sim_mAppend (sim_var 2) (sim_acons (sim_tup (sim_acons (sim_op (sim_var 5) (sim_var 8) sim_gIx) (sim_acons (sim_op (sim_var 6) (sim_var 8) sim_gIx) sim_anil))) sim_anil)))))))))))))))
  (sim_ret (sim_c rfl))))
theorem s_f_law_equal : SimFn K44.f_law_equal f_law_equal := sim_fn s_m_law_equal
def m_Table_states : MS := (sSeq (sSet 1 (eLst (aCons (eMeth n_Table n_start f_Table_start [] (eVar 0) aNil) aNil)))
  (sSeq (sSet 2 (eC (.int 0)))
  (sSeq (whileL (toT (eOp gLt (eVar 2) (eB fLen (aCons (eVar 1) aNil))))
  (sSeq (sFor (iSeq (eMeth n_Table n_moves f_Table_moves [] (eVar 0) (aCons (eOp gIx (eVar 1) (eVar 2)) aNil))) (gT (gsCons (gN 3) (gsCons (gN 4) gsNil)))
  (sIf (tAndM (toT (eOp gNe (eVar 4) (eC w_BAD))) (toT (eOp (inM true) (eVar 4) (eVar 1))))
  (sExpr (eMt kList mAppend (eVar 1) (aCons (eVar 4) aNil)))
  sNil))
  (sAug 2 (gInt fun i j => i + j) (eC (.int 1)))) 4000)
  (sRet (eVar 1)))))
abbrev f_Table_states : MF := fnOf 1 5 m_Table_states
theorem s_m_Table_states : SimS (fun _ => K44.m_Table_states) m_Table_states := (sim_seq (sim_set (sim_lst (sim_acons (sim_meth s_f_Table_start rfl (sim_var 0) sim_anil) sim_anil)))
  (sim_seq (sim_set (sim_c rfl))
  (sim_seq (sim_while (sim_toT (sim_op (sim_var 2) (sim_b (sim_acons (sim_var 1) sim_anil) sim_fLen) sim_gLt))
  (sim_seq (sim_for (sim_iseq (sim_meth s_f_Table_moves rfl (sim_var 0) (sim_acons (sim_op (sim_var 1) (sim_var 2) sim_gIx) sim_anil))) (sim_gT (sim_gscons (sim_gN (vs := [3, 4]) (by decide)) (sim_gscons (sim_gN (vs := [3, 4]) (by decide)) sim_gsnil)))
  (sim_sif (sim_tand (sim_toT (sim_op (sim_var 4) (sim_c rfl) sim_gNe)) (sim_toT (sim_op (sim_var 4) (sim_var 1) (sim_inM true))))
  (sim_expr (sim_mt sim_kList sim_mAppend (sim_var 1) (sim_acons (sim_var 4) sim_anil)))
  sim_nil))
  (sim_aug (sim_c rfl) (sim_gInt _))) 4000)
  (sim_ret (sim_var 1)))))
theorem s_f_Table_states : SimFn K44.f_Table_states f_Table_states := sim_fn s_m_Table_states
def m_law_of : MS := (sRet (eLc (iSeq (eVar 0)) (gN 2) (toT (eOp gEq (eOp gIx (eVar 2) (eC (.int 0))) (eVar 1))) (eTup (aCons (eOp gIx (eVar 2) (eC (.int 1))) (aCons (eOp gIx (eVar 2) (eC (.int 2))) aNil))) [2]))
abbrev f_law_of : MF := fnOf 2 3 m_law_of
theorem s_m_law_of : SimS (fun _ => K44.m_law_of) m_law_of := (sim_ret (sim_lc (sim_iseq (sim_var 0)) (sim_gN (vs := [2]) (by decide)) (sim_toT (sim_op (sim_op (sim_var 2) (sim_c rfl) sim_gIx) (sim_var 1) sim_gEq)) (sim_tup (sim_acons (sim_op (sim_var 2) (sim_c rfl) sim_gIx) (sim_acons (sim_op (sim_var 2) (sim_c rfl) sim_gIx) sim_anil)))))
theorem s_f_law_of : SimFn K44.f_law_of f_law_of := sim_fn s_m_law_of
def m_law_reached : MS := (sSeq (sSet 2 (eLst (aCons (eVar 1) aNil)))
  (sSeq (sFor (iR1 (eC (.int 14))) (gN 3)
  (sIf (toT (eOp gLt (eVar 3) (eB fLen (aCons (eVar 2) aNil))))
  (sFor (iSeq (eCall f_law_of [] (aCons (eVar 0) (aCons (eOp gIx (eVar 2) (eVar 3)) aNil)))) (gN 4)
  (sIf (tAndM (toT (eOp gNe (eOp gIx (eVar 4) (eC (.int 1))) (eC (.str n_bad)))) (toT (eOp (inM true) (eOp gIx (eVar 4) (eC (.int 1))) (eVar 2))))
  (sExpr (eMt kList mAppend (eVar 2) (aCons (eOp gIx (eVar 4) (eC (.int 1))) aNil)))
  sNil))
  sNil))
  (sRet (eVar 2))))
abbrev f_law_reached : MF := fnOf 2 5 m_law_reached
theorem s_m_law_reached : SimS (fun _ => K44.m_law_reached) m_law_reached := (sim_seq (sim_set (sim_lst (sim_acons (sim_var 1) sim_anil)))
  (sim_seq (sim_for (sim_ir1 (sim_c rfl)) (sim_gN (vs := [3]) (by decide))
  (sim_sif (sim_toT (sim_op (sim_var 3) (sim_b (sim_acons (sim_var 2) sim_anil) sim_fLen) sim_gLt))
  (sim_for (sim_iseq (sim_call s_f_law_of rfl (sim_acons (sim_var 0) (sim_acons (sim_op (sim_var 2) (sim_var 3) sim_gIx) sim_anil)))) (sim_gN (vs := [4]) (by decide))
  (sim_sif (sim_tand (sim_toT (sim_op (sim_op (sim_var 4) (sim_c rfl) sim_gIx) (sim_c rfl) sim_gNe)) (sim_toT (sim_op (sim_op (sim_var 4) (sim_c rfl) sim_gIx) (sim_var 2) (sim_inM true))))
  (sim_expr (sim_mt sim_kList sim_mAppend (sim_var 2) (sim_acons (sim_op (sim_var 4) (sim_c rfl) sim_gIx) sim_anil)))
  sim_nil))
  sim_nil))
  (sim_ret (sim_var 2))))
theorem s_f_law_reached : SimFn K44.f_law_reached f_law_reached := sim_fn s_m_law_reached
def m_law_asked : MS := (sSeq (sSet 3 (eCall f_law_due [] (aCons (eVar 2) (aCons (eVar 1) aNil))))
  (sSeq (sSet 4 (eMeth n_Table n_scenario f_Table_scenario [] (eVar 0) aNil))
  (sSeq (sIf (tOrM (tNotM (toT (eCallB f_law_equal [] (aCons (eMeth n_Table n_start f_Table_start [] (eVar 0) aNil) (aCons (eVar 1) aNil))))) (tNotM (toT (eCallB f_law_equal [] (aCons (eVar 4) (aCons (eVar 3) aNil))))))
  (sRet (eC (.bl false)))
  sNil)
  (sSeq (sIf (toT (eOp (isM true) (eVar 4) (eC .non)))
  (sExpr (eMt kList mAppend (eVar 4) (aCons (eC (.str n_further)) aNil)))
  sNil)
  (sSeq (sSet 5 (eMeth n_Table n_states f_Table_states [] (eVar 0) aNil))
  (sSeq (sIf (tNotM (toT (eCallB f_law_equal [] (aCons (eVar 5) (aCons (eCall f_law_reached [] (aCons (eVar 2) (aCons (eVar 1) aNil))) aNil)))))
  (sRet (eC (.bl false)))
  sNil)
  (sSeq (sExpr (eMt kList mAppend (eVar 5) (aCons (eC (.str n_further)) aNil)))
  (sSeq (sFor (iSeq (eCall f_law_places [] aNil)) (gN 6)
  (sSeq (sSet 7 (eMeth n_Table n_moves f_Table_moves [] (eVar 0) (aCons (eVar 6) aNil)))
  (sSeq (sIf (tNotM (toT (eCallB f_law_equal [] (aCons (eVar 7) (aCons (eCall f_law_of [] (aCons (eVar 2) (aCons (eVar 6) aNil))) aNil)))))
  (sRet (eC (.bl false)))
  sNil)
  (sSeq (sExpr (eMt kList mAppend (eVar 7) (aCons (eTup (aCons (eC (.str n_further)) (aCons (eC (.str n_bad)) aNil))) aNil)))
  (sIf (tNotM (toT (eCallB f_law_equal [] (aCons (eMeth n_Table n_moves f_Table_moves [] (eVar 0) (aCons (eVar 6) aNil)) (aCons (eCall f_law_of [] (aCons (eVar 2) (aCons (eVar 6) aNil))) aNil)))))
  (sRet (eC (.bl false)))
  sNil)))))
  (sRet (eAndM (eCallB f_law_equal [] (aCons (eMeth n_Table n_scenario f_Table_scenario [] (eVar 0) aNil) (aCons (eVar 3) aNil))) (eCallB f_law_equal [] (aCons (eMeth n_Table n_states f_Table_states [] (eVar 0) aNil) (aCons (eCall f_law_reached [] (aCons (eVar 2) (aCons (eVar 1) aNil))) aNil)))))))))))))
abbrev f_law_asked : MF := fnOf 3 8 m_law_asked
theorem s_m_law_asked : SimS (fun _ => K44.m_law_asked) m_law_asked := (sim_seq (sim_set (sim_call s_f_law_due rfl (sim_acons (sim_var 2) (sim_acons (sim_var 1) sim_anil))))
  (sim_seq (sim_set (sim_meth s_f_Table_scenario rfl (sim_var 0) sim_anil))
  (sim_seq (sim_sif (sim_tor (sim_tnot (sim_toT (sim_callB s_f_law_equal rfl (sim_acons (sim_meth s_f_Table_start rfl (sim_var 0) sim_anil) (sim_acons (sim_var 1) sim_anil))))) (sim_tnot (sim_toT (sim_callB s_f_law_equal rfl (sim_acons (sim_var 4) (sim_acons (sim_var 3) sim_anil))))))
  (sim_ret (sim_c rfl))
  sim_nil)
  (sim_seq (sim_sif (sim_toT (sim_op (sim_var 4) (sim_c rfl) (sim_isM true)))
  (sim_expr (sim_mt sim_kList sim_mAppend (sim_var 4) (sim_acons (sim_c rfl) sim_anil)))
  sim_nil)
  (sim_seq (sim_set (sim_meth s_f_Table_states rfl (sim_var 0) sim_anil))
  (sim_seq (sim_sif (sim_tnot (sim_toT (sim_callB s_f_law_equal rfl (sim_acons (sim_var 5) (sim_acons (sim_call s_f_law_reached rfl (sim_acons (sim_var 2) (sim_acons (sim_var 1) sim_anil))) sim_anil)))))
  (sim_ret (sim_c rfl))
  sim_nil)
  (sim_seq (sim_expr (sim_mt sim_kList sim_mAppend (sim_var 5) (sim_acons (sim_c rfl) sim_anil)))
  (sim_seq (sim_for (sim_iseq (sim_call s_f_law_places rfl sim_anil)) (sim_gN (vs := [6]) (by decide))
  (sim_seq (sim_set (sim_meth s_f_Table_moves rfl (sim_var 0) (sim_acons (sim_var 6) sim_anil)))
  (sim_seq (sim_sif (sim_tnot (sim_toT (sim_callB s_f_law_equal rfl (sim_acons (sim_var 7) (sim_acons (sim_call s_f_law_of rfl (sim_acons (sim_var 2) (sim_acons (sim_var 6) sim_anil))) sim_anil)))))
  (sim_ret (sim_c rfl))
  sim_nil)
  (sim_seq (sim_expr (sim_mt sim_kList sim_mAppend (sim_var 7) (sim_acons (sim_tup (sim_acons (sim_c rfl) (sim_acons (sim_c rfl) sim_anil))) sim_anil)))
  (sim_sif (sim_tnot (sim_toT (sim_callB s_f_law_equal rfl (sim_acons (sim_meth s_f_Table_moves rfl (sim_var 0) (sim_acons (sim_var 6) sim_anil)) (sim_acons (sim_call s_f_law_of rfl (sim_acons (sim_var 2) (sim_acons (sim_var 6) sim_anil))) sim_anil)))))
  (sim_ret (sim_c rfl))
  sim_nil)))))
  (sim_ret (sim_and (sim_callB s_f_law_equal rfl (sim_acons (sim_meth s_f_Table_scenario rfl (sim_var 0) sim_anil) (sim_acons (sim_var 3) sim_anil))) (sim_callB s_f_law_equal rfl (sim_acons (sim_meth s_f_Table_states rfl (sim_var 0) sim_anil) (sim_acons (sim_call s_f_law_reached rfl (sim_acons (sim_var 2) (sim_acons (sim_var 1) sim_anil))) sim_anil)))))))))))))
theorem s_f_law_asked : SimFn K44.f_law_asked f_law_asked := sim_fn s_m_law_asked
def m_law_bare : MS := (sSeq (sIf (tOrM (tNotM (toT (eCall f_law_equal [] (aCons (eMeth n_Table n_start f_Table_start [] (eVar 0) aNil) (aCons (eVar 1) aNil))))) (tNotM (toT (eCall f_law_equal [] (aCons (eMeth n_Table n_moves f_Table_moves [] (eVar 0) (aCons (eVar 1) aNil)) (aCons (eLst aNil) aNil))))))
  (sRet (eC (.bl false)))
  sNil)
  (sRet (eAndM (eOp (isM false) (eMeth n_Table n_scenario f_Table_scenario [] (eVar 0) aNil) (eC .non)) (eCall f_law_equal [] (aCons (eMeth n_Table n_states f_Table_states [] (eVar 0) aNil) (aCons (eLst (aCons (eVar 1) aNil)) aNil))))))
abbrev f_law_bare : MF := fnOf 2 2 m_law_bare
theorem s_m_law_bare : SimS (fun _ => K44.m_law_bare) m_law_bare := (sim_seq (sim_sif (sim_tor (sim_tnot (sim_toT (sim_call s_f_law_equal rfl (sim_acons (sim_meth s_f_Table_start rfl (sim_var 0) sim_anil) (sim_acons (sim_var 1) sim_anil))))) (sim_tnot (sim_toT (sim_call s_f_law_equal rfl (sim_acons (sim_meth s_f_Table_moves rfl (sim_var 0) (sim_acons (sim_var 1) sim_anil)) (sim_acons (sim_lst sim_anil) sim_anil))))))
  (sim_ret (sim_c rfl))
  sim_nil)
  (sim_ret (sim_and (sim_op (sim_meth s_f_Table_scenario rfl (sim_var 0) sim_anil) (sim_c rfl) (sim_isM false)) (sim_call s_f_law_equal rfl (sim_acons (sim_meth s_f_Table_states rfl (sim_var 0) sim_anil) (sim_acons (sim_lst (sim_acons (sim_var 1) sim_anil)) sim_anil))))))
theorem s_f_law_bare : SimFn K44.f_law_bare f_law_bare := sim_fn s_m_law_bare
def m_law : MS := (sSeq (sSet 1 (eCall f_law_row [] (aCons (eVar 0) (aCons (eC (.int 170)) aNil))))
  (sSeq (sSet 2 (eCall f_law_begin [] (aCons (eVar 1) (aCons (eC (.int 0)) aNil))))
  (sSeq (sSet 3 (eCall f_law_listed [] (aCons (eVar 1) (aCons (eC (.int 0)) aNil))))
  (sSeq (sSet 4 (eB fList (aCons (eVar 3) aNil)))
  (sSeq (sSet 5 (eMakeB n_Table f_Table_init [] (aCons (eVar 2) (aCons (eVar 4) aNil))))
  (sSeq (sExpr (eMt kList mAppend (eVar 4) (aCons (eTup (aCons (eVar 2) (aCons (eC (.str n_further)) (aCons (eC (.str n_bad)) aNil)))) aNil)))
  (sSeq (sSet 6 (eCall f_law_begin [] (aCons (eVar 1) (aCons (eC (.int 84)) aNil))))
  (sSeq (sSet 7 (eCall f_law_listed [] (aCons (eVar 1) (aCons (eC (.int 84)) aNil))))
  (sSeq (sSet 8 (eMakeK 0 2 [0, 2, 1] n_Table f_Table_init [(.str [115, 116, 97, 114, 116]), (.tup [])] aNil (aCons (eB fTuple (aCons (eVar 7) aNil)) (aCons (eVar 6) aNil))))
  (sSeq (sIf (tOrM (tNotM (toT (eCall f_law_asked [] (aCons (eVar 5) (aCons (eVar 2) (aCons (eVar 3) aNil)))))) (tNotM (toT (eCall f_law_asked [] (aCons (eVar 8) (aCons (eVar 6) (aCons (eVar 7) aNil)))))))
  (sRet (eC (.bl false)))
  sNil)
  (sSeq (sExpr (eMt kList mClear (eVar 4) aNil))
  (sSeq (sIf (tOrM (tNotM (toT (eCall f_law_asked [] (aCons (eVar 5) (aCons (eVar 2) (aCons (eVar 3) aNil)))))) (tNotM (toT (eCall f_law_asked [] (aCons (eVar 8) (aCons (eVar 6) (aCons (eVar 7) aNil)))))))
  (sRet (eC (.bl false)))
  sNil)
  (sSeq (sIf (tOrM (tNotM (toT (eCall f_law_bare [] (aCons (eMakeB n_Table f_Table_init [(.str [115, 116, 97, 114, 116]), (.tup [])] aNil) (aCons (eC (.str n_start)) aNil))))) (tNotM (toT (eCall f_law_bare [] (aCons (eMakeB n_Table f_Table_init [(.tup [])] (aCons (eVar 6) aNil)) (aCons (eVar 6) aNil))))))
  (sRet (eC (.bl false)))
  sNil)
  (sRet (eAndM (eB fIsi (aCons (eC w_BAD) (aCons (eC (.ty .str)) aNil))) (eOp gEq (eC w_BAD) (eC (.str n_bad))))))))))))))))))
abbrev f_law : MF := fnOf 1 9 m_law
theorem s_m_law : SimS (fun _ => K44.m_law) m_law := (sim_seq (sim_set (sim_call s_f_law_row rfl (sim_acons (sim_var 0) (sim_acons (sim_c rfl) sim_anil))))
  (sim_seq (sim_set (sim_call s_f_law_begin rfl (sim_acons (sim_var 1) (sim_acons (sim_c rfl) sim_anil))))
  (sim_seq (sim_set (sim_call s_f_law_listed rfl (sim_acons (sim_var 1) (sim_acons (sim_c rfl) sim_anil))))
  (sim_seq (sim_set (sim_b (sim_acons (sim_var 3) sim_anil) sim_fList))
  (sim_seq (sim_set (sim_makeB s_f_Table_init rfl (sim_acons (sim_var 2) (sim_acons (sim_var 4) sim_anil))))
  (sim_seq (sim_expr (sim_mt sim_kList sim_mAppend (sim_var 4) (sim_acons (sim_tup (sim_acons (sim_var 2) (sim_acons (sim_c rfl) (sim_acons (sim_c rfl) sim_anil)))) sim_anil)))
  (sim_seq (sim_set (sim_call s_f_law_begin rfl (sim_acons (sim_var 1) (sim_acons (sim_c rfl) sim_anil))))
  (sim_seq (sim_set (sim_call s_f_law_listed rfl (sim_acons (sim_var 1) (sim_acons (sim_c rfl) sim_anil))))
  (sim_seq (sim_set (sim_makeK s_f_Table_init rfl rfl (by decide) sim_anil (sim_acons (sim_b (sim_acons (sim_var 7) sim_anil) sim_fTuple) (sim_acons (sim_var 6) sim_anil))))
  (sim_seq (sim_sif (sim_tor (sim_tnot (sim_toT (sim_call s_f_law_asked rfl (sim_acons (sim_var 5) (sim_acons (sim_var 2) (sim_acons (sim_var 3) sim_anil)))))) (sim_tnot (sim_toT (sim_call s_f_law_asked rfl (sim_acons (sim_var 8) (sim_acons (sim_var 6) (sim_acons (sim_var 7) sim_anil)))))))
  (sim_ret (sim_c rfl))
  sim_nil)
  (sim_seq (sim_expr (sim_mt sim_kList sim_mClear (sim_var 4) sim_anil))
  (sim_seq (sim_sif (sim_tor (sim_tnot (sim_toT (sim_call s_f_law_asked rfl (sim_acons (sim_var 5) (sim_acons (sim_var 2) (sim_acons (sim_var 3) sim_anil)))))) (sim_tnot (sim_toT (sim_call s_f_law_asked rfl (sim_acons (sim_var 8) (sim_acons (sim_var 6) (sim_acons (sim_var 7) sim_anil)))))))
  (sim_ret (sim_c rfl))
  sim_nil)
  (sim_seq (sim_sif (sim_tor (sim_tnot (sim_toT (sim_call s_f_law_bare rfl (sim_acons (sim_makeB s_f_Table_init rfl sim_anil) (sim_acons (sim_c rfl) sim_anil))))) (sim_tnot (sim_toT (sim_call s_f_law_bare rfl (sim_acons (sim_makeB s_f_Table_init rfl (sim_acons (sim_var 6) sim_anil)) (sim_acons (sim_var 6) sim_anil))))))
  (sim_ret (sim_c rfl))
  sim_nil)
  (sim_ret (sim_and (sim_b (sim_acons (sim_c rfl) (sim_acons (sim_c rfl) sim_anil)) sim_fIsi) (sim_op (sim_c rfl) (sim_c rfl) sim_gEq))))))))))))))))
theorem s_f_law : SimFn K44.f_law f_law := sim_fn s_m_law
end K44.V
set_option Elab.async false
set_option linter.all false
set_option maxRecDepth 100000
set_option maxHeartbeats 1000000
namespace VL
open GL (PV OB Sto Nm BT lim)
section
variable {α β : Type} {ls gh ls' gh' : Ls} {a b c : PE} {t u : PT} {m m1 m2 : MS} {d e : D} {x y : RV} {i : Nat}
@[simp] theorem bind_ok {x : α} {f : α → Ls → Ls → Out β} : (Out.ok x ls gh).bind f = f x ls gh := rfl
@[simp] theorem bind_exc {e : Exn} {f : α → Ls → Ls → Out β} : (Out.exc e ls gh).bind f = .exc e ls gh := rfl
@[simp] theorem bind_bad {f : α → Ls → Ls → Out β} : (Out.bad : Out α).bind f = .bad := rfl
@[simp] theorem then_ok {x : α} {f : α → Ls → Ls → SOut} : (Out.ok x ls gh).then f = f x ls gh := rfl
@[simp] theorem then_exc {e : Exn} {f : α → Ls → Ls → SOut} : (Out.exc e ls gh).then f = .exc e ls gh := rfl
@[simp] theorem seq_nx {f : MS} : (SOut.nx ls gh).seq f = f ls gh := rfl
@[simp] theorem seq_rt {f : MS} : (SOut.rt d gh).seq f = .rt d gh := rfl
@[simp] theorem seq_bk {f : MS} : (SOut.bk ls gh).seq f = .bk ls gh := rfl
@[simp] theorem seq_ct {f : MS} : (SOut.ct ls gh).seq f = .ct ls gh := rfl
@[simp] theorem seq_exc {e : Exn} {f : MS} : (SOut.exc e ls gh).seq f = .exc e ls gh := rfl
@[simp] theorem eC_ap {w : PV} : eC w ls gh = .ok (.v (dOf w)) ls gh := rfl
@[simp] theorem dOf_int {i : Int} : dOf (.int i) = .int i := rfl
@[simp] theorem dOf_str {i : List Nat} : dOf (.str i) = .str i := rfl
@[simp] theorem dOf_bl {i : Bool} : dOf (.bl i) = .bl i := rfl
@[simp] theorem dOf_non : dOf .non = .non := rfl
@[simp] theorem dOf_ty {b : BT} : dOf (.ty b) = .ty b := rfl
@[simp] theorem dOf_tup {xs : List PV} : dOf (.tup xs) = .tup (dOfs xs) := rfl
@[simp] theorem dOfs_nil : dOfs [] = [] := rfl
@[simp] theorem dOfs_cons {x : PV} {r : List PV} : dOfs (x :: r) = dOf x :: dOfs r := rfl
@[simp] theorem sSeq_ap : sSeq m1 m2 ls gh = (m1 ls gh).seq m2 := rfl
@[simp] theorem sNil_ap : sNil ls gh = .nx ls gh := rfl
@[simp] theorem sBk_ap : sBk ls gh = .bk ls gh := rfl
theorem sSet_ap : sSet i a ls gh = (a ls gh).then fun x ls gh => match setL i x ls gh with
  | some z => .nx z.1 z.2
  | none => .bad := rfl
theorem sRet_ap : sRet a ls gh = (a ls gh).then fun x ls gh => match retV x ls gh with
  | some z => .rt z.1 z.2
  | none => .bad := rfl
theorem sExpr_ap : sExpr a ls gh = (a ls gh).then fun _ ls gh => .nx ls gh := rfl
theorem sIf_ap : sIf t m1 m2 ls gh = (t ls gh).then fun k ls gh => if k = true then m1 ls gh else m2 ls gh := rfl
@[simp] theorem aNil_ap : aNil ls gh = .ok [] ls gh := rfl
@[simp] theorem aCons_ap {r : PA} : aCons a r ls gh = (a ls gh).bind fun x ls gh => (r ls gh).bind fun xs ls gh => .ok (x :: xs) ls gh := rfl
@[simp] theorem eOp_ap {g : G2} : eOp g a b ls gh = (a ls gh).bind fun x ls gh => (b ls gh).bind fun y ls gh => g x y ls gh := rfl
@[simp] theorem e1_ap {f : RV → PE} : e1 f a ls gh = (a ls gh).bind fun x ls gh => f x ls gh := rfl
@[simp] theorem eB_ap {g : List RV → PE} {r : PA} : eB g r ls gh = (r ls gh).bind fun xs ls gh => g xs ls gh := rfl
@[simp] theorem un_ap {f : RV → PE} : un f [x] ls gh = f x ls gh := rfl
@[simp] theorem bi_ap {f : RV → RV → PE} : bi f [x, y] ls gh = f x y ls gh := rfl
@[simp] theorem toT_ap : toT a ls gh = (a ls gh).bind fun x ls gh => asB x ls gh := rfl
@[simp] theorem asB_bl {k : Bool} : asB (.v (.sc (.bl k))) ls gh = .ok k ls gh := rfl
@[simp] theorem tAndM_ap : tAndM t u ls gh = (t ls gh).bind fun k ls gh => if k = true then u ls gh else .ok false ls gh := rfl
@[simp] theorem tOrM_ap : tOrM t u ls gh = (t ls gh).bind fun k ls gh => if k = true then .ok true ls gh else u ls gh := rfl
@[simp] theorem tNotM_ap : tNotM t ls gh = (t ls gh).bind fun k ls gh => .ok (!k) ls gh := rfl
@[simp] theorem tYesM_ap : tYesM ls gh = .ok true ls gh := rfl
@[simp] theorem gSub_int {i j : Int} : gInt (fun i j => i - j) (.v (.sc (.int i))) (.v (.sc (.int j))) ls gh = .ok (.v (.int (i - j))) ls gh := rfl
@[simp] theorem gInt_int {f : Int → Int → Int} {i j : Int} : gInt f (.v (.sc (.int i))) (.v (.sc (.int j))) ls gh = .ok (.v (.int (f i j))) ls gh := rfl
@[simp] theorem gCmp_int {f : Int → Int → Bool} {i j : Int} : gCmpI f (.v (.sc (.int i))) (.v (.sc (.int j))) ls gh = .ok (.v (.bl (f i j))) ls gh := rfl
@[simp] theorem gAdd_int {i j : Int} : gAdd (.v (.sc (.int i))) (.v (.sc (.int j))) ls gh = .ok (.v (.int (i + j))) ls gh := rfl
theorem gMod_int {i j : Int} (h : 0 < j) : gMod (.v (.sc (.int i))) (.v (.sc (.int j))) ls gh = .ok (.v (.int (i % j))) ls gh := by
  simp [gIntC, GL.cMod, h]
theorem gDiv_int {i j : Int} (h : 0 < j) (h2 : j < 1073741824) : gDiv (.v (.sc (.int i))) (.v (.sc (.int j))) ls gh = .ok (.v (.int (i / j))) ls gh := by
  simp [gIntC, GL.cDiv, h, h2]
theorem gMul_int {i j : Int} (h : GL.smallI i = true ∨ GL.smallI j = true) : gMul (.v (.sc (.int i))) (.v (.sc (.int j))) ls gh = .ok (.v (.int (i * j))) ls gh := by
  simp [gMul, h]
@[simp] theorem gEq_int {neg : Bool} {i j : Int} : eqM neg (.v (.sc (.int i))) (.v (.sc (.int j))) ls gh = .ok (.v (.bl (if neg = true then !decide (i = j) else decide (i = j)))) ls gh := rfl
@[simp] theorem gEq_str {neg : Bool} {i j : List Nat} : eqM neg (.v (.sc (.str i))) (.v (.sc (.str j))) ls gh = .ok (.v (.bl (if neg = true then !decide (i = j) else decide (i = j)))) ls gh := rfl
@[simp] theorem f1Int_int {i : Int} : f1Int (.v (.sc (.int i))) ls gh = .ok (.v (.int i)) ls gh := rfl
@[simp] theorem f1Int_bl {k : Bool} : f1Int (.v (.sc (.bl k))) ls gh = .ok (.v (.int (if k then 1 else 0))) ls gh := rfl
@[simp] theorem f1Abs_int {i : Int} : f1Abs (.v (.sc (.int i))) ls gh = .ok (.v (.int (if i < 0 then -i else i))) ls gh := rfl
end
@[simp] theorem shr_sc {s : Sc} : (D.sc s).shr = true := rfl
@[simp] theorem shr_tup {xs : List D} : (D.tup xs).shr = true := rfl
@[simp] theorem shr_fz {h : Hd} {xs : List D} : (D.nd .fz h xs).shr = true := rfl
@[simp] theorem shr_ow {h : Hd} {xs : List D} : (D.nd .ow h xs).shr = false := rfl
theorem eVar_v {i : Nat} {ls gh : Ls} {d : D} (h : ls[i]? = some (some (.v d))) (hs : d.shr = true) : eVar i ls gh = .ok (.v d) ls gh := by
  unfold eVar; rw [h]; simp [mkR, hs]
theorem eVar_o {i : Nat} {ls gh : Ls} {d : D} (h : ls[i]? = some (some (.v d))) (hs : d.shr = false) : eVar i ls gh = .ok (.pth (.l i) []) ls gh := by
  unfold eVar; rw [h]; simp [mkR, hs]
@[simp] theorem killR_v {i : Nat} {d : D} : killR i (some (.v d)) = some (.v d) := rfl
@[simp] theorem killR_io {i : Nat} {d : D} : killR i (some (.io d)) = some (.io d) := rfl
@[simp] theorem killR_none {i : Nat} : killR i none = none := rfl
@[simp] theorem killD_v {t : List Nat → Bool} {r : Rt} {p : List Nat} {d : D} : killD t r p (some (.v d)) = some (.v d) := rfl
@[simp] theorem killD_io {t : List Nat → Bool} {r : Rt} {p : List Nat} {d : D} : killD t r p (some (.io d)) = some (.io d) := rfl
@[simp] theorem killD_none {t : List Nat → Bool} {r : Rt} {p : List Nat} : killD t r p none = none := rfl
theorem fnOf_rt {np n : Nat} {m : MS} {vs : List V} {hs : List D} {d : D} {gh : Ls} {ios : List D} (hl : vs.length = np) (h : m (vs.map some ++ List.replicate (n - np) none) (hs.map fun d => some (.io d)) = .rt d gh) (hg : ioD gh = some ios) : fnOf np n m vs hs = .ok d ios := by
  unfold fnOf; rw [if_pos hl, h]; simp [endF, hg]
theorem fnOf_nx {np n : Nat} {m : MS} {vs : List V} {hs : List D} {ls gh : Ls} {ios : List D} (hl : vs.length = np) (h : m (vs.map some ++ List.replicate (n - np) none) (hs.map fun d => some (.io d)) = .nx ls gh) (hg : ioD gh = some ios) : fnOf np n m vs hs = .ok .non ios := by
  unfold fnOf; rw [if_pos hl, h]; simp [endF, hg]
def intL (ns : List Int) : List D := ns.map D.int
def strL (ns : List (List Nat)) : List D := ns.map D.str
@[simp] theorem intL_len {ns : List Int} : (intL ns).length = ns.length := by simp [intL]
@[simp] theorem strL_len {ns : List (List Nat)} : (strL ns).length = ns.length := by simp [strL]
@[simp] theorem intL_shr {ns : List Int} : (intL ns).all D.shr = true := by simp [intL]
@[simp] theorem strL_shr {ns : List (List Nat)} : (strL ns).all D.shr = true := by simp [strL]
theorem frzs_shr : ∀ {xs : List D}, xs.all D.shr = true → D.frzs xs = some xs
  | [], _ => by simp [D.frzs]
  | x :: r, h => by
    rw [List.all_cons, Bool.and_eq_true] at h
    have h1 : D.frz x = some x := by
      cases x with
      | sc s => simp [D.frz]
      | tup xs => simp [D.frz]
      | nd k hd xs =>
        cases k with
        | fz => simp [D.frz]
        | ow => cases h.1
        | lk => cases h.1
    rw [D.frzs, h1, frzs_shr h.2]
@[simp] theorem frzs_int {ns : List Int} : D.frzs (intL ns) = some (intL ns) := frzs_shr intL_shr
@[simp] theorem frzs_str {ns : List (List Nat)} : D.frzs (strL ns) = some (strL ns) := frzs_shr strL_shr
def Digs (most : Nat) (ds : List Int) : Prop := ds.length ≤ most ∧ ∀ d ∈ ds, 0 ≤ d ∧ d < 16
def m_row : MS := (sSeq (sSet 2 (eLst aNil))
  (sSeq (sFor (iSeq (eVar 0)) (gN 3)
  (sSeq (sSet 4 (eB fAbs (aCons (eB fInt (aCons (eVar 3) aNil)) aNil)))
  (sFor (iR1 (eC (.int 60))) (gN 5)
  (sSeq (sIf (toT (eOp gLt (eB fLen (aCons (eVar 2) aNil)) (eVar 1)))
  (sExpr (eMt kList mAppend (eVar 2) (aCons (eOp gMod (eVar 4) (eC (.int 16))) aNil)))
  sNil)
  (sSeq (sSet 4 (eOp gDiv (eVar 4) (eC (.int 16))))
  (sIf (toT (eOp gEq (eVar 4) (eC (.int 0))))
  sBk
  sNil))))))
  (sRet (eVar 2))))
def m_pick : MS := (sSeq (sSet 3 (eC (.int 0)))
  (sSeq (sIf (toT (eOp gLt (eVar 1) (eB fLen (aCons (eVar 0) aNil))))
  (sSet 3 (eOp gIx (eVar 0) (eVar 1)))
  sNil)
  (sSeq (sIf (toT (eOp gLt (eOp gAdd (eVar 1) (eC (.int 1))) (eB fLen (aCons (eVar 0) aNil))))
  (sSet 3 (eOp gAdd (eVar 3) (eOp gMul (eC (.int 16)) (eOp gIx (eVar 0) (eOp gAdd (eVar 1) (eC (.int 1)))))))
  sNil)
  (sRet (eOp gMod (eB fInt (aCons (eVar 3) aNil)) (eVar 2))))))
section
variable {ls gh : Ls} {k : Fl} {xs : List D} {d : D} {r : Rt} {p : List Nat}
theorem ixN_nat {n i : Nat} (h : i < n) : L2.ixN n (i : Int) = some i := by unfold L2.ixN; simp [h]
@[simp] theorem seqV_lst : seqV (.v (.nd k .lst xs)) ls gh = some (.lst, xs) := rfl
@[simp] theorem seqV_rol : seqV (.v (.nd k .rol xs)) ls gh = some (.rol, xs) := rfl
@[simp] theorem seqV_tup : seqV (.v (.tup xs)) ls gh = some (.tup, xs) := rfl
theorem seqV_p (h : atD ls gh r p = some (.nd k .lst xs)) : seqV (.pth r p) ls gh = some (.lst, xs) := by
  show (atD ls gh r p).bind seqD = _
  rw [h]; rfl
theorem gIx_of {x : RV} {kd : Kd} {i : Nat} (hx : ∀ s, x ≠ .v (.sc (.str s))) (h : seqV x ls gh = some (kd, xs)) (hi : xs[i]? = some d) : gIx x (.v (.sc (.int (i : Int)))) ls gh = .ok (childR x i d) ls gh := by
  have hl := (List.getElem?_eq_some_iff.mp hi).1
  unfold gIx
  split
  · rename_i i' e
    cases e
    split
    · rename_i s; exact absurd rfl (hx s)
    · simp only [h, ixN_nat hl, hi]
  · rename_i h0; exact absurd rfl (h0 _)
theorem gIx_lst {i : Nat} (hi : xs[i]? = some d) (hs : d.shr = true) : gIx (.v (.nd k .lst xs)) (.v (.sc (.int (i : Int)))) ls gh = .ok (.v d) ls gh := by
  rw [gIx_of (by simp) seqV_lst hi]; simp [childR, hs]
theorem gIx_tup {i : Nat} (hi : xs[i]? = some d) (hs : d.shr = true) : gIx (.v (.tup xs)) (.v (.sc (.int (i : Int)))) ls gh = .ok (.v d) ls gh := by
  rw [gIx_of (by simp) seqV_tup hi]; simp [childR, hs]
theorem gIx_p {i : Nat} (h : atD ls gh r p = some (.nd k .lst xs)) (hi : xs[i]? = some d) (hs : d.shr = true) : gIx (.pth r p) (.v (.sc (.int (i : Int)))) ls gh = .ok (.v d) ls gh := by
  rw [gIx_of (by simp) (seqV_p h) hi]; simp [childR, hs]
@[simp] theorem f1Len_lst : f1Len (.v (.nd k .lst xs)) ls gh = .ok (.v (.int xs.length)) ls gh := rfl
@[simp] theorem f1Len_tup : f1Len (.v (.tup xs)) ls gh = .ok (.v (.int xs.length)) ls gh := rfl
theorem f1Len_p (h : atD ls gh r p = some (.nd k .lst xs)) : f1Len (.pth r p) ls gh = .ok (.v (.int xs.length)) ls gh := by
  unfold f1Len; simp only [seqV_p h]
end
def dg (ds : List Int) (i : Nat) : Int := ds.getD i 0
theorem intL_get {ds : List Int} {i : Nat} (h : i < ds.length) : (intL ds)[i]? = some (.int (dg ds i)) := by
  unfold intL
  rw [List.getElem?_map, dg, List.getD_eq_getElem?_getD, List.getElem?_eq_getElem h]; rfl
def pickV (ds : List Int) (i : Nat) (l : Int) : Int := (dg ds i + 16 * dg ds (i + 1)) % l
theorem getD_out {ds : List Int} {i : Nat} (h : ds.length ≤ i) : dg ds i = 0 := by rw [dg, List.getD_eq_getElem?_getD, List.getElem?_eq_none h]; rfl
theorem pick_ok {i : Nat} {ds : List Int} {l : Int} (hl : 0 < l) : fnOf 3 4 m_pick [.v (.nd .fz .lst (intL ds)), .v (.int (i : Int)), .v (.int l)] [] = .ok (.int (pickV ds i l)) [] := by
  refine fnOf_rt (gh := []) rfl ?_ rfl
  have hv {ls gh : Ls} {j : Nat} {d : D} (h : ls[j]? = some (some (.v d))) (hs : d.shr = true) : eVar j ls gh = .ok (.v d) ls gh := eVar_v h hs
  unfold m_pick
  by_cases h1 : i < ds.length
  · by_cases h2 : i + 1 < ds.length
    · have e1 : gIx (.v (.nd .fz .lst (intL ds))) (.v (.sc (.int (i : Int)))) [some (.v (.nd .fz .lst (intL ds))), some (.v (.int (i : Int))), some (.v (.int l)), some (.v (.int 0))] [] = .ok (.v (.int (dg ds i))) [some (.v (.nd .fz .lst (intL ds))), some (.v (.int (i : Int))), some (.v (.int l)), some (.v (.int 0))] [] := gIx_lst (intL_get h1) rfl
      have e2 : gIx (.v (.nd .fz .lst (intL ds))) (.v (.sc (.int ((i : Int) + 1)))) [some (.v (.nd .fz .lst (intL ds))), some (.v (.int (i : Int))), some (.v (.int l)), some (.v (.int (dg ds i)))] [] = .ok (.v (.int (dg ds (i + 1)))) [some (.v (.nd .fz .lst (intL ds))), some (.v (.int (i : Int))), some (.v (.int l)), some (.v (.int (dg ds i)))] [] := gIx_lst (i := i + 1) (intL_get h2) rfl
      have h3 : (i : Int) < ds.length := by omega
      have h4 : (i : Int) + 1 < ds.length := by omega
      simp [sSet_ap, setL, stD, sIf_ap, eVar, mkR, h3, h4, e1, e2, sRet_ap, retV, gMod_int hl, gMul_int (i := 16) (Or.inl rfl), pickV]
    · have e1 : gIx (.v (.nd .fz .lst (intL ds))) (.v (.sc (.int (i : Int)))) [some (.v (.nd .fz .lst (intL ds))), some (.v (.int (i : Int))), some (.v (.int l)), some (.v (.int 0))] [] = .ok (.v (.int (dg ds i))) [some (.v (.nd .fz .lst (intL ds))), some (.v (.int (i : Int))), some (.v (.int l)), some (.v (.int 0))] [] := gIx_lst (intL_get h1) rfl
      have h3 : (i : Int) < ds.length := by omega
      have h4 : ¬ (i : Int) + 1 < ds.length := by omega
      simp [sSet_ap, setL, stD, sIf_ap, eVar, mkR, h3, h4, e1, sRet_ap, retV, gMod_int hl, pickV, getD_out (show ds.length ≤ i + 1 by omega)]
  · have h3 : ¬ (i : Int) < ds.length := by omega
    have h4 : ¬ (i : Int) + 1 < ds.length := by omega
    simp [sSet_ap, setL, stD, sIf_ap, eVar, mkR, h3, h4, sRet_ap, retV, gMod_int hl, pickV, getD_out (show ds.length ≤ i + 1 by omega), getD_out (show ds.length ≤ i by omega)]
def loopK (q : SOut) (k : Ls → Ls → SOut) : SOut := match q with
  | .nx ls gh => k ls gh
  | .ct ls gh => k ls gh
  | .bk ls gh => .nx ls gh
  | q => q
section
variable {ls gh : Ls} {k : Ls → Ls → SOut} {d : D}
@[simp] theorem loopK_nx : loopK (.nx ls gh) k = k ls gh := rfl
@[simp] theorem loopK_ct : loopK (.ct ls gh) k = k ls gh := rfl
@[simp] theorem loopK_bk : loopK (.bk ls gh) k = .nx ls gh := rfl
@[simp] theorem loopK_rt : loopK (.rt d gh) k = .rt d gh := rfl
@[simp] theorem loopK_exc {e : Exn} : loopK (.exc e ls gh) k = .exc e ls gh := rfl
variable {g : MG} {body : MS} {r : List D} {z : Ls × Ls}
theorem forV_cons (hg : g (.v d) ls gh = some z) : forV g body (d :: r) ls gh = loopK (body z.1 z.2) (forV g body r) := by
  rw [forV, hg]
  dsimp only
  cases body z.1 z.2 <;> rfl
@[simp] theorem forV_nil : forV g body [] ls gh = .nx ls gh := rfl
theorem sFor_of {it : PI} {ds : List D} {ls1 gh1 : Ls} (hi : it ls gh = .ok ds ls1 gh1) : sFor it g body ls gh = forV g body ds ls1 gh1 := by unfold sFor; rw [hi]; rfl
end
theorem forV_inv {g : MG} {body : MS} (I : Nat → Ls → Ls → Prop) : ∀ (xs : List D) (i : Nat) (ls gh : Ls),
    (∀ j x ls gh, xs[j]? = some x → I (i + j) ls gh → ∃ z, g (.v x) ls gh = some z ∧ ∃ ls2 gh2, (body z.1 z.2 = .nx ls2 gh2 ∨ body z.1 z.2 = .ct ls2 gh2) ∧ I (i + j + 1) ls2 gh2) →
    I i ls gh → ∃ ls' gh', forV g body xs ls gh = .nx ls' gh' ∧ I (i + xs.length) ls' gh'
  | [], i, ls, gh, _, h => ⟨ls, gh, rfl, h⟩
  | x :: r, i, ls, gh, h1, h => by
    obtain ⟨z, e1, ls2, gh2, e2, h3⟩ := h1 0 x ls gh (by simp) h
    obtain ⟨ls', gh', e, h4⟩ := forV_inv I r (i + 1) ls2 gh2 (fun j y ls gh hj hI => by
      have := h1 (j + 1) y ls gh (by simpa using hj) (by rw [show i + (j + 1) = i + 1 + j by omega]; exact hI)
      rw [show i + (j + 1) = i + 1 + j by omega] at this
      exact this) h3
    refine ⟨ls', gh', ?_, by rw [List.length_cons, show i + (r.length + 1) = i + 1 + r.length by omega]; exact h4⟩
    rw [forV_cons e1]
    rcases e2 with e2 | e2 <;> (rw [e2]; exact e)
theorem iSeq_of {m : PE} {ls gh ls1 gh1 : Ls} {d : D} {k : Kd} {xs : List D} (h : m ls gh = .ok (.v d) ls1 gh1) (hf : D.frz d = some d) (hs : seqD d = some (k, xs)) : iSeq m ls gh = .ok xs ls1 gh1 := by
  unfold iSeq
  rw [h, bind_ok]
  simp [kSeq, frzSeq, cvR, hf, hs]
theorem iR1_of {m : PE} {ls gh ls1 gh1 : Ls} {n : Nat} (h : m ls gh = .ok (.v (.int (n : Int))) ls1 gh1) (hn : n < 1000000000) : iR1 m ls gh = .ok (rngD 0 n) ls1 gh1 := by
  have hm : GL.med = 4611686018427387904 := rfl
  unfold iR1
  rw [h, bind_ok]
  unfold k1R
  dsimp only
  rw [if_pos]
  rw [Bool.and_eq_true]
  exact ⟨decide_eq_true (by omega), decide_eq_true (by omega)⟩
theorem rng0 (n : Nat) : rngD 0 (n : Int) = (List.range n).map fun (i : Nat) => D.int (i : Int) := by
  unfold rngD
  simp
section
variable {ls gh : Ls} {t : List Nat → Bool} {i : Nat} {p : List Nat} {y d0 : D}
theorem atD_l (h : ls[i]? = some (some (.v d0))) : atD ls gh (.l i) [] = some d0 := by
  unfold atD rootD; simp only [h, slotD, Option.bind_some, getP]
theorem chD_l (h : ls[i]? = some (some (.v d0))) : chD t (.l i) p y ls gh = (modN (putV (setP p d0 y)) i (ls.map (killD t (.l i) p)), gh.map (killD t (.l i) p)) := by
  unfold chD rootD; simp only [h, slotD, Option.map_some]
theorem mAppend_l {xs : List D} {d : D} (h : ls[i]? = some (some (.v (.nd .ow .lst xs)))) (hl : xs.length < lim) : mAppend (.pth (.l i) []) [.v d] ls gh = .ok (.v .non) (modN (putV (.nd .ow .lst (xs ++ [d]))) i (ls.map (killD allT (.l i) []))) (gh.map (killD allT (.l i) [])) := by
  unfold mAppend
  simp only [cvR, if_true, atD_l h, if_pos hl, wrote, chD_l h, setP]
end
@[simp] theorem putV_v {d d' : D} : putV d (some (.v d')) = some (.v d) := rfl
@[simp] theorem kList_lst {k : Fl} {xs : List D} : kList (.nd k .lst xs) = true := rfl
theorem row_inner (most : Nat) (hm : most ≤ 1000) (a0 a3 : D) : ∀ (xs : List D) (rest : Int) (a5 : Option V) (ds : List Int), 0 ≤ rest → Digs most ds → (∀ q, a5 = some q → ∃ d, q = .v d) → (∀ x ∈ xs, ∃ i, x = .int i) →
    ∃ rest' a5' ds', forV (gN 5) (sSeq (sIf (toT (eOp gLt (eB fLen (aCons (eVar 2) aNil)) (eVar 1)))
      (sExpr (eMt kList mAppend (eVar 2) (aCons (eOp gMod (eVar 4) (eC (.int 16))) aNil)))
      sNil)
      (sSeq (sSet 4 (eOp gDiv (eVar 4) (eC (.int 16))))
      (sIf (toT (eOp gEq (eVar 4) (eC (.int 0))))
      sBk
      sNil))) xs [some (.v a0), some (.v (.int most)), some (.v (.nd .ow .lst (intL ds))), some (.v a3), some (.v (.int rest)), a5] [] = .nx [some (.v a0), some (.v (.int most)), some (.v (.nd .ow .lst (intL ds'))), some (.v a3), some (.v (.int rest')), a5'] [] ∧ Digs most ds' ∧ (∀ q, a5' = some q → ∃ d, q = .v d)
  | [], rest, a5, ds, h0, hd, h5, _ => ⟨rest, a5, ds, rfl, hd, h5⟩
  | x :: r, rest, a5, ds, h0, hd, h5, hx => by
    obtain ⟨i, rfl⟩ := hx x List.mem_cons_self
    have hx' : ∀ x ∈ r, ∃ i, x = .int i := fun y hy => hx y (List.mem_cons_of_mem _ hy)
    have k5 : killR 5 a5 = a5 := by
      cases a5 with
      | none => rfl
      | some q => obtain ⟨d, rfl⟩ := h5 q rfl; rfl
    have hg : gN 5 (.v (.int i)) [some (.v a0), some (.v (.int most)), some (.v (.nd .ow .lst (intL ds))), some (.v a3), some (.v (.int rest)), a5] [] = some ([some (.v a0), some (.v (.int most)), some (.v (.nd .ow .lst (intL ds))), some (.v a3), some (.v (.int rest)), some (.v (.int i))], []) := by
      simp [gN, setL, stD]
    rw [forV_cons hg]
    dsimp only
    have h16 : (0 : Int) ≤ rest % 16 ∧ rest % 16 < 16 := by omega
    have hdiv : 0 ≤ rest / 16 := by omega
    have hv2 : ∀ z a5, eVar 2 [some (.v a0), some (.v (.int most)), some (.v (.nd .ow .lst (intL ds))), some (.v a3), z, a5] [] = .ok (.pth (.l 2) []) [some (.v a0), some (.v (.int most)), some (.v (.nd .ow .lst (intL ds))), some (.v a3), z, a5] [] := fun z a5 => eVar_o rfl rfl
    have hat : ∀ z a5, atD [some (.v a0), some (.v (.int most)), some (.v (.nd .ow .lst (intL ds))), some (.v a3), z, a5] [] (.l 2) [] = some (.nd .ow .lst (intL ds)) := fun z a5 => atD_l rfl
    by_cases hlt : (ds.length : Int) < most
    · have e1 : (sIf (toT (eOp gLt (eB fLen (aCons (eVar 2) aNil)) (eVar 1)))
          (sExpr (eMt kList mAppend (eVar 2) (aCons (eOp gMod (eVar 4) (eC (.int 16))) aNil)))
          sNil) [some (.v a0), some (.v (.int most)), some (.v (.nd .ow .lst (intL ds))), some (.v a3), some (.v (.int rest)), some (.v (.int i))] [] = .nx [some (.v a0), some (.v (.int most)), some (.v (.nd .ow .lst (intL (ds ++ [rest % 16])))), some (.v a3), some (.v (.int rest)), some (.v (.int i))] [] := by
        have hz : (intL ds).length < lim := by rw [intL_len]; have : lim = 100000 := rfl; omega
        have ha : intL ds ++ [D.int (rest % 16)] = intL (ds ++ [rest % 16]) := by simp [intL]
        have hap := mAppend_l (ls := [some (.v a0), some (.v (.int most)), some (.v (.nd .ow .lst (intL ds))), some (.v a3), some (.v (.int rest)), some (.v (.int i))]) (gh := []) (i := 2) (d := .int (rest % 16)) rfl hz
        simp [sIf_ap, hv2, f1Len_p (hat _ _), eVar, mkR, hlt, sExpr_ap, eMt, val, hat, gMod_int, hap, modN, ha]
      have hd2 : Digs most (ds ++ [rest % 16]) := ⟨by rw [List.length_append, List.length_singleton]; omega, fun d hd' => by
        rcases List.mem_append.mp hd' with h | h
        · exact hd.2 d h
        · rw [List.mem_singleton.mp h]; exact h16⟩
      rw [sSeq_ap, e1]
      by_cases hz : rest / 16 = 0
      · refine ⟨rest / 16, some (.v (.int i)), ds ++ [rest % 16], ?_, hd2, fun q h => by cases h; exact ⟨_, rfl⟩⟩
        simp [sSet_ap, eVar, mkR, gDiv_int, setL, stD, sIf_ap, hz]
      · obtain ⟨rest', a5', ds', e, hd', h5'⟩ := row_inner most hm a0 a3 r (rest / 16) (some (.v (.int i))) _ hdiv hd2 (fun q h => by cases h; exact ⟨_, rfl⟩) hx'
        refine ⟨rest', a5', ds', ?_, hd', h5'⟩
        rw [← e]
        simp [sSet_ap, eVar, mkR, gDiv_int, setL, stD, sIf_ap, hz]
    · have e1 : (sIf (toT (eOp gLt (eB fLen (aCons (eVar 2) aNil)) (eVar 1)))
          (sExpr (eMt kList mAppend (eVar 2) (aCons (eOp gMod (eVar 4) (eC (.int 16))) aNil)))
          sNil) [some (.v a0), some (.v (.int most)), some (.v (.nd .ow .lst (intL ds))), some (.v a3), some (.v (.int rest)), some (.v (.int i))] [] = .nx [some (.v a0), some (.v (.int most)), some (.v (.nd .ow .lst (intL ds))), some (.v a3), some (.v (.int rest)), some (.v (.int i))] [] := by
        simp [sIf_ap, hv2, f1Len_p (hat _ _), eVar, mkR, hlt]
      rw [sSeq_ap, e1]
      by_cases hz : rest / 16 = 0
      · refine ⟨rest / 16, some (.v (.int i)), ds, ?_, hd, fun q h => by cases h; exact ⟨_, rfl⟩⟩
        simp [sSet_ap, eVar, mkR, gDiv_int, setL, stD, sIf_ap, hz]
      · obtain ⟨rest', a5', ds', e, hd', h5'⟩ := row_inner most hm a0 a3 r (rest / 16) (some (.v (.int i))) _ hdiv hd (fun q h => by cases h; exact ⟨_, rfl⟩) hx'
        refine ⟨rest', a5', ds', ?_, hd', h5'⟩
        rw [← e]
        simp [sSet_ap, eVar, mkR, gDiv_int, setL, stD, sIf_ap, hz]
theorem row_outer (most : Nat) (hm : most ≤ 1000) (a0 : D) : ∀ (ns : List Int) (a3 a4 a5 : Option V) (ds : List Int), Digs most ds → (∀ q, a3 = some q → ∃ d, q = .v d) → (∀ q, a4 = some q → ∃ d, q = .v d) → (∀ q, a5 = some q → ∃ d, q = .v d) →
    ∃ a3' a4' a5' ds', forV (gN 3) (sSeq (sSet 4 (eB fAbs (aCons (eB fInt (aCons (eVar 3) aNil)) aNil)))
      (sFor (iR1 (eC (.int 60))) (gN 5)
      (sSeq (sIf (toT (eOp gLt (eB fLen (aCons (eVar 2) aNil)) (eVar 1)))
      (sExpr (eMt kList mAppend (eVar 2) (aCons (eOp gMod (eVar 4) (eC (.int 16))) aNil)))
      sNil)
      (sSeq (sSet 4 (eOp gDiv (eVar 4) (eC (.int 16))))
      (sIf (toT (eOp gEq (eVar 4) (eC (.int 0))))
      sBk
      sNil))))) (intL ns) [some (.v a0), some (.v (.int most)), some (.v (.nd .ow .lst (intL ds))), a3, a4, a5] [] = .nx [some (.v a0), some (.v (.int most)), some (.v (.nd .ow .lst (intL ds'))), a3', a4', a5'] [] ∧ Digs most ds'
  | [], a3, a4, a5, ds, hd, _, _, _ => ⟨a3, a4, a5, ds, rfl, hd⟩
  | x :: r, a3, a4, a5, ds, hd, h3, h4, h5 => by
    have kl : ∀ {a : Option V}, (∀ q, a = some q → ∃ d, q = .v d) → ∀ i, killR i a = a := fun {a} h i => by
      cases a with
      | none => rfl
      | some q => obtain ⟨d, rfl⟩ := h q rfl; rfl
    have hg : gN 3 (.v (.int x)) [some (.v a0), some (.v (.int most)), some (.v (.nd .ow .lst (intL ds))), a3, a4, a5] [] = some ([some (.v a0), some (.v (.int most)), some (.v (.nd .ow .lst (intL ds))), some (.v (.int x)), a4, a5], []) := by
      simp [gN, setL, stD, kl h4, kl h5]
    show ∃ a3' a4' a5' ds', forV (gN 3) _ (.int x :: intL r) _ _ = _ ∧ _
    rw [forV_cons hg]
    dsimp only
    have h0 : (0 : Int) ≤ (if x < 0 then -x else x) := by split <;> omega
    obtain ⟨rest', a5', ds1, e, hd1, h5'⟩ := row_inner most hm a0 (.int x) (rngD 0 ((60 : Nat) : Int)) _ a5 ds h0 hd h5 (fun y hy => by
      obtain ⟨i, _, rfl⟩ := List.mem_map.mp (show y ∈ (List.range _).map _ from hy)
      exact ⟨_, rfl⟩)
    obtain ⟨b3, b4, b5, ds2, e2, hd2⟩ := row_outer most hm a0 r (some (.v (.int x))) (some (.v (.int rest'))) a5' ds1 hd1 (fun q h => by cases h; exact ⟨_, rfl⟩) (fun q h => by cases h; exact ⟨_, rfl⟩) h5'
    refine ⟨b3, b4, b5, ds2, ?_, hd2⟩
    rw [← e2]
    have e1 : sSet 4 (eB fAbs (aCons (eB fInt (aCons (eVar 3) aNil)) aNil)) [some (.v a0), some (.v (.int most)), some (.v (.nd .ow .lst (intL ds))), some (.v (.int x)), a4, a5] [] = .nx [some (.v a0), some (.v (.int most)), some (.v (.nd .ow .lst (intL ds))), some (.v (.int x)), some (.v (.int (if x < 0 then -x else x))), a5] [] := by
      simp [sSet_ap, eVar, mkR, setL, stD, kl h5]
    rw [sSeq_ap, e1, seq_nx, sFor_of (it := iR1 (eC (.int 60))) (iR1_of (m := eC (.int 60)) (n := 60) rfl (by decide)), e]
    rfl
theorem row_ok {ns : List Int} {most : Nat} (hm : most ≤ 1000) : ∃ ds, fnOf 2 6 m_row [.v (.nd .fz .rol (intL ns)), .v (.int most)] [] = .ok (.nd .ow .lst (intL ds)) [] ∧ Digs most ds := by
  obtain ⟨b3, b4, b5, ds, e, hd⟩ := row_outer most hm (.nd .fz .rol (intL ns)) ns none none none [] ⟨by simp, by simp⟩ (by simp) (by simp) (by simp)
  refine ⟨ds, fnOf_rt (gh := []) rfl ?_ rfl, hd⟩
  show m_row [some (.v (.nd .fz .rol (intL ns))), some (.v (.int most)), none, none, none, none] [] = _
  unfold m_row
  have e1 : sSet 2 (eLst aNil) [some (.v (.nd .fz .rol (intL ns))), some (.v (.int most)), none, none, none, none] [] = .nx [some (.v (.nd .fz .rol (intL ns))), some (.v (.int most)), some (.v (.nd .ow .lst (intL []))), none, none, none] [] := rfl
  rw [sSeq_ap, e1, seq_nx, sSeq_ap, sFor_of (it := iSeq (eVar 0)) (iSeq_of (m := eVar 0) (d := .nd .fz .rol (intL ns)) (k := .rol) rfl rfl rfl), e, seq_nx, sRet_ap, eVar_o (d := .nd .ow .lst (intL ds)) rfl rfl]
  rfl
end VL
set_option Elab.async false
set_option linter.all false
set_option maxRecDepth 100000
set_option maxHeartbeats 1000000
namespace VL
open GL (PV OB Sto Nm BT lim)
open PySem (PyData)
def okD : Nat → D → Bool
  | 0, _ => false
  | f + 1, d => match d with
    | .sc .non => true
    | .sc (.bl _) => true
    | .sc (.int _) => true
    | .sc (.str l) => PyData.strOk (GL.toS l)
    | .tup xs => xs.all (okD f)
    | .nd _ .lst xs => xs.all (okD f)
    | .nd _ .rol xs => xs.all (okD f)
    | _ => false
theorem optAll_ok {f : Nat} (ih : ∀ d, okD f d = true → ∃ t, datD f d = some t ∧ t.plain = true) : ∀ xs : List D, xs.all (okD f) = true → ∃ ts, GL.optAll (datD f) xs = some ts ∧ PyData.plainAll ts = true
  | [], _ => ⟨[], rfl, rfl⟩
  | x :: r, h => by
    rw [List.all_cons, Bool.and_eq_true] at h
    obtain ⟨t, h1, h2⟩ := ih x h.1
    obtain ⟨ts, h3, h4⟩ := optAll_ok ih r h.2
    refine ⟨t :: ts, ?_, ?_⟩
    · rw [GL.optAll, h1, h3]
    · rw [PyData.plainAll, h2, h4]; rfl
theorem okD_dat : ∀ (f : Nat) (d : D), okD f d = true → ∃ t, datD f d = some t ∧ t.plain = true
  | 0, d, h => by cases h
  | f + 1, d, h => by
    cases d with
    | sc s =>
      cases s with
      | non => exact ⟨_, rfl, rfl⟩
      | bl b => exact ⟨_, rfl, rfl⟩
      | int i => exact ⟨_, rfl, rfl⟩
      | str l =>
        have h : PyData.strOk (GL.toS l) = true := h
        refine ⟨.str (GL.toS l), ?_, rfl⟩
        show (if PyData.strOk (GL.toS l) = true then _ else _) = _
        rw [if_pos h]
      | ty b => cases h
      | gl x => cases h
    | tup xs =>
      obtain ⟨ts, h1, h2⟩ := optAll_ok (okD_dat f) xs h
      exact ⟨.tuple ts, by show (GL.optAll (datD f) xs).map _ = _; rw [h1]; rfl, h2⟩
    | nd k hd xs =>
      cases hd with
      | lst =>
        obtain ⟨ts, h1, h2⟩ := optAll_ok (okD_dat f) xs h
        exact ⟨.list ts, by show (GL.optAll (datD f) xs).map _ = _; rw [h1]; rfl, h2⟩
      | rol =>
        obtain ⟨ts, h1, h2⟩ := optAll_ok (okD_dat f) xs h
        exact ⟨.list ts, by show (GL.optAll (datD f) xs).map _ = _; rw [h1]; rfl, h2⟩
      | dct ks => cases h
      | ins C ns => cases h
theorem same_ok {neg : Bool} {x y : RV} {ls gh : Ls} {d : D} (hx : val x ls gh = some d) (hy : val y ls gh = some d) (h : okD 60 d = true) : eqM neg x y ls gh = .ok (.v (.bl (!neg))) ls gh := by
  obtain ⟨t, h1, h2⟩ := okD_dat 60 d h
  have hr := PySem.SeqAt.eqv_refl_plain t h2
  have e : eqD neg d d = some (!neg) := by
    unfold eqD
    cases d with
    | sc s =>
      cases s with
      | non => cases neg <;> rfl
      | bl b => cases neg <;> cases b <;> rfl
      | int i => first | (simp [scalD]; done) | (simp [scalD]; cases neg <;> rfl)
      | str l => first | (simp [scalD]; done) | (simp [scalD]; cases neg <;> rfl)
      | ty b => cases h
      | gl x => cases h
    | tup xs => first | (simp [scalD, h1, hr]; done) | (simp [scalD, h1, hr]; cases neg <;> rfl)
    | nd k hd xs => first | (simp [scalD, h1, hr]; done) | (simp [scalD, h1, hr]; cases neg <;> rfl)
  unfold eqM
  simp only [hx, hy, e]
end VL
set_option Elab.async false
set_option linter.all false
set_option maxRecDepth 100000
set_option maxHeartbeats 4000000
set_option cbv.maxSteps 1000000
namespace VL
open GL (PV OB Sto Nm BT lim)
open PySem (PyData)
def m_whole : MS := (sRet (eAndM (eB fIsi (aCons (eVar 0) (aCons (eC (.ty .int)) aNil))) (eNotM (eB fIsi (aCons (eVar 0) (aCons (eC (.ty .bool)) aNil))))))
abbrev f_whole : MF := fnOf 1 1 m_whole
def eqB (S0 S4 S9 : MS) (NE : G2) (WH : MF) : MS := (sSeq S0
  (sSeq S4
  (sSeq (sSet 5 (eOp gIx (eVar 4) (eC (.int 0))))
  (sSeq (sSet 6 (eOp gIx (eVar 4) (eC (.int 1))))
  (sIf (tOrM (toT (eOp (isM false) (eVar 6) (eC .non))) (toT (eB fIsi (aCons (eVar 6) (aCons (eC (.ty .bool)) aNil)))))
  (sIf (tOrM (toT (eOp NE (eB fIsi (aCons (eVar 5) (aCons (eC (.ty .bool)) aNil))) (eB fIsi (aCons (eVar 6) (aCons (eC (.ty .bool)) aNil))))) (toT (eOp NE (eVar 5) (eVar 6))))
  (sRet (eC (.bl false)))
  sNil)
  (sIf (toT (eB fIsi (aCons (eVar 6) (aCons (eC (.ty .int)) aNil))))
  (sIf (tOrM (tNotM (toT (eCall WH [] (aCons (eVar 5) aNil)))) (toT (eOp NE (eVar 5) (eVar 6))))
  (sRet (eC (.bl false)))
  sNil)
  (sIf (toT (eB fIsi (aCons (eVar 6) (aCons (eC (.ty .str)) aNil))))
  (sIf (tOrM (tNotM (toT (eB fIsi (aCons (eVar 5) (aCons (eC (.ty .str)) aNil))))) (toT (eOp NE (eVar 5) (eVar 6))))
  (sRet (eC (.bl false)))
  sNil)
  (sSeq (sIf (tOrM (toT (eOp NE (eB fIsi (aCons (eVar 5) (aCons (eC (.ty .list)) aNil))) (eB fIsi (aCons (eVar 6) (aCons (eC (.ty .list)) aNil))))) (toT (eOp NE (eB fIsi (aCons (eVar 5) (aCons (eC (.ty .tuple)) aNil))) (eB fIsi (aCons (eVar 6) (aCons (eC (.ty .tuple)) aNil))))))
  (sRet (eC (.bl false)))
  sNil)
  (sSeq (sIf (toT (eB fIsi (aCons (eVar 6) (aCons (eC (.ty .dict)) aNil))))
  (sSeq (sIf (tOrM (tNotM (toT (eB fIsi (aCons (eVar 5) (aCons (eC (.ty .dict)) aNil))))) (toT (eOp NE (eB fList (aCons (eVar 5) aNil)) (eB fList (aCons (eVar 6) aNil)))))
  (sRet (eC (.bl false)))
  sNil)
  (sSeq (sSet 5 (eLc (iSeq (eVar 6)) (gN 7) tYesM (eOp gIx (eVar 5) (eVar 7)) [7]))
  (sSet 6 (eLc (iSeq (eVar 6)) (gN 7) tYesM (eOp gIx (eVar 6) (eVar 7)) [7]))))
  sNil)
  (sSeq (sIf (toT (eOp NE (eB fLen (aCons (eVar 5) aNil)) (eB fLen (aCons (eVar 6) aNil))))
  (sRet (eC (.bl false)))
  sNil)
  S9))))))))))
def eqBody : MS := (sSeq (sIf (toT (eOp gEq (eB fLen (aCons (eVar 2) aNil)) (eC (.int 0))))
  (sRet (eC (.bl true)))
  sNil)
  (sSeq (sSet 4 (eMt kList mPop (eVar 2) aNil))
  (sSeq (sSet 5 (eOp gIx (eVar 4) (eC (.int 0))))
  (sSeq (sSet 6 (eOp gIx (eVar 4) (eC (.int 1))))
  (sIf (tOrM (toT (eOp (isM false) (eVar 6) (eC .non))) (toT (eB fIsi (aCons (eVar 6) (aCons (eC (.ty .bool)) aNil)))))
  (sIf (tOrM (toT (eOp gNe (eB fIsi (aCons (eVar 5) (aCons (eC (.ty .bool)) aNil))) (eB fIsi (aCons (eVar 6) (aCons (eC (.ty .bool)) aNil))))) (toT (eOp gNe (eVar 5) (eVar 6))))
  (sRet (eC (.bl false)))
  sNil)
  (sIf (toT (eB fIsi (aCons (eVar 6) (aCons (eC (.ty .int)) aNil))))
  (sIf (tOrM (tNotM (toT (eCall f_whole [] (aCons (eVar 5) aNil)))) (toT (eOp gNe (eVar 5) (eVar 6))))
  (sRet (eC (.bl false)))
  sNil)
  (sIf (toT (eB fIsi (aCons (eVar 6) (aCons (eC (.ty .str)) aNil))))
  (sIf (tOrM (tNotM (toT (eB fIsi (aCons (eVar 5) (aCons (eC (.ty .str)) aNil))))) (toT (eOp gNe (eVar 5) (eVar 6))))
  (sRet (eC (.bl false)))
  sNil)
  (sSeq (sIf (tOrM (toT (eOp gNe (eB fIsi (aCons (eVar 5) (aCons (eC (.ty .list)) aNil))) (eB fIsi (aCons (eVar 6) (aCons (eC (.ty .list)) aNil))))) (toT (eOp gNe (eB fIsi (aCons (eVar 5) (aCons (eC (.ty .tuple)) aNil))) (eB fIsi (aCons (eVar 6) (aCons (eC (.ty .tuple)) aNil))))))
  (sRet (eC (.bl false)))
  sNil)
  (sSeq (sIf (toT (eB fIsi (aCons (eVar 6) (aCons (eC (.ty .dict)) aNil))))
  (sSeq (sIf (tOrM (tNotM (toT (eB fIsi (aCons (eVar 5) (aCons (eC (.ty .dict)) aNil))))) (toT (eOp gNe (eB fList (aCons (eVar 5) aNil)) (eB fList (aCons (eVar 6) aNil)))))
  (sRet (eC (.bl false)))
  sNil)
  (sSeq (sSet 5 (eLc (iSeq (eVar 6)) (gN 7) tYesM (eOp gIx (eVar 5) (eVar 7)) [7]))
  (sSet 6 (eLc (iSeq (eVar 6)) (gN 7) tYesM (eOp gIx (eVar 6) (eVar 7)) [7]))))
  sNil)
  (sSeq (sIf (toT (eOp gNe (eB fLen (aCons (eVar 5) aNil)) (eB fLen (aCons (eVar 6) aNil))))
  (sRet (eC (.bl false)))
  sNil)
  (sFor (iR1 (eB fLen (aCons (eVar 6) aNil))) (gN 8)
  (sExpr (eMt kList mAppend (eVar 2) (aCons (eTup (aCons (eOp gIx (eVar 5) (eVar 8)) (aCons (eOp gIx (eVar 6) (eVar 8)) aNil))) aNil))))))))))))))
def m_equal : MS := (sSeq (sSet 2 (eLst (aCons (eTup (aCons (eVar 0) (aCons (eVar 1) aNil))) aNil)))
  (sSeq (sFor (iR1 (eC (.int 6000))) (gN 3)
  eqBody)
  (sRet (eC (.bl false)))))
abbrev f_equal : MF := fnOf 2 9 m_equal
def plD : Nat → D → Bool
  | 0, _ => false
  | f + 1, d => match d with
    | .sc .non => true
    | .sc (.bl _) => true
    | .sc (.int _) => true
    | .sc (.str l) => PyData.strOk (GL.toS l)
    | .tup xs => xs.all (plD f)
    | .nd .fz .lst xs => xs.all (plD f)
    | _ => false
def szD : Nat → D → Nat
  | 0, _ => 1
  | f + 1, d => match d with
    | .tup xs => 1 + (xs.map (szD f)).sum
    | .nd _ _ xs => 1 + (xs.map (szD f)).sum
    | _ => 1
theorem plD_shr : ∀ {f : Nat} {d : D}, plD f d = true → d.shr = true
  | 0, _, h => by cases h
  | f + 1, .sc _, _ => rfl
  | f + 1, .tup _, _ => rfl
  | f + 1, .nd .fz _ _, _ => rfl
  | f + 1, .nd .ow h xs, e => by cases h <;> cases e
  | f + 1, .nd .lk h xs, e => by cases h <;> cases e
section
variable {S0 S4 S9 : MS} {NE : G2} {WH : MF} {a b p : D} {W W' xs : List D} {k : Int} {x4 x5 x6 x8 y8 : Option V}
theorem eqB_non_nn {e4 e5 e6 e8 : D} (h0 : S0 [some (.v a), some (.v b), some (.v (.nd .ow .lst W)), some (.v (.int k)), none, none, none, none, none] [] = .nx [some (.v a), some (.v b), some (.v (.nd .ow .lst W)), some (.v (.int k)), none, none, none, none, none] [])
    (h4 : S4 [some (.v a), some (.v b), some (.v (.nd .ow .lst W)), some (.v (.int k)), none, none, none, none, none] [] = .nx [some (.v a), some (.v b), some (.v (.nd .ow .lst W')), some (.v (.int k)), (some (.v (.tup [.non, .non]))), none, none, none, none] []) (hN : ∀ d ls gh, okD 60 d = true → NE (.v d) (.v d) ls gh = .ok (.v (.bl false)) ls gh) (hW : ∀ i : Int, WH [.v (.int i)] [] = .ok (.bl true) []) :
    eqB S0 S4 S9 NE WH [some (.v a), some (.v b), some (.v (.nd .ow .lst W)), some (.v (.int k)), none, none, none, none, none] [] = .nx [some (.v a), some (.v b), some (.v (.nd .ow .lst W')), some (.v (.int k)), (some (.v (.tup [.non, .non]))), (some (.v .non)), (some (.v .non)), none, none] [] := by
  unfold eqB
  have c0 : ∀ {ls gh r}, S0 ls gh = r → S0 ls gh = r := fun h => h
  have c4 : ∀ {ls gh r}, S4 ls gh = r → S4 ls gh = r := fun h => h
  have cN : ∀ {x y ls gh r}, NE x y ls gh = r → NE x y ls gh = r := fun h => h
  have cW : ∀ {vs hs r}, WH vs hs = r → WH vs hs = r := fun h => h
  repeat (cbv; first | (rw [c0]; rotate_left; exact h0) | (rw [c4]; rotate_left; exact h4) | (rw [cN]; rotate_left; exact hN _ _ _ (by first | rfl | assumption)) | (rw [cW]; rotate_left; exact hW _))
  kernel_rfl
theorem eqB_non_ns {e4 e5 e6 e8 : D} (h0 : S0 [some (.v a), some (.v b), some (.v (.nd .ow .lst W)), some (.v (.int k)), none, none, none, none, (some (.v e8))] [] = .nx [some (.v a), some (.v b), some (.v (.nd .ow .lst W)), some (.v (.int k)), none, none, none, none, (some (.v e8))] [])
    (h4 : S4 [some (.v a), some (.v b), some (.v (.nd .ow .lst W)), some (.v (.int k)), none, none, none, none, (some (.v e8))] [] = .nx [some (.v a), some (.v b), some (.v (.nd .ow .lst W')), some (.v (.int k)), (some (.v (.tup [.non, .non]))), none, none, none, (some (.v e8))] []) (hN : ∀ d ls gh, okD 60 d = true → NE (.v d) (.v d) ls gh = .ok (.v (.bl false)) ls gh) (hW : ∀ i : Int, WH [.v (.int i)] [] = .ok (.bl true) []) :
    eqB S0 S4 S9 NE WH [some (.v a), some (.v b), some (.v (.nd .ow .lst W)), some (.v (.int k)), none, none, none, none, (some (.v e8))] [] = .nx [some (.v a), some (.v b), some (.v (.nd .ow .lst W')), some (.v (.int k)), (some (.v (.tup [.non, .non]))), (some (.v .non)), (some (.v .non)), none, (some (.v e8))] [] := by
  unfold eqB
  have c0 : ∀ {ls gh r}, S0 ls gh = r → S0 ls gh = r := fun h => h
  have c4 : ∀ {ls gh r}, S4 ls gh = r → S4 ls gh = r := fun h => h
  have cN : ∀ {x y ls gh r}, NE x y ls gh = r → NE x y ls gh = r := fun h => h
  have cW : ∀ {vs hs r}, WH vs hs = r → WH vs hs = r := fun h => h
  repeat (cbv; first | (rw [c0]; rotate_left; exact h0) | (rw [c4]; rotate_left; exact h4) | (rw [cN]; rotate_left; exact hN _ _ _ (by first | rfl | assumption)) | (rw [cW]; rotate_left; exact hW _))
  kernel_rfl
theorem eqB_non_sn {e4 e5 e6 e8 : D} (h0 : S0 [some (.v a), some (.v b), some (.v (.nd .ow .lst W)), some (.v (.int k)), (some (.v e4)), (some (.v e5)), (some (.v e6)), none, none] [] = .nx [some (.v a), some (.v b), some (.v (.nd .ow .lst W)), some (.v (.int k)), (some (.v e4)), (some (.v e5)), (some (.v e6)), none, none] [])
    (h4 : S4 [some (.v a), some (.v b), some (.v (.nd .ow .lst W)), some (.v (.int k)), (some (.v e4)), (some (.v e5)), (some (.v e6)), none, none] [] = .nx [some (.v a), some (.v b), some (.v (.nd .ow .lst W')), some (.v (.int k)), (some (.v (.tup [.non, .non]))), (some (.v e5)), (some (.v e6)), none, none] []) (hN : ∀ d ls gh, okD 60 d = true → NE (.v d) (.v d) ls gh = .ok (.v (.bl false)) ls gh) (hW : ∀ i : Int, WH [.v (.int i)] [] = .ok (.bl true) []) :
    eqB S0 S4 S9 NE WH [some (.v a), some (.v b), some (.v (.nd .ow .lst W)), some (.v (.int k)), (some (.v e4)), (some (.v e5)), (some (.v e6)), none, none] [] = .nx [some (.v a), some (.v b), some (.v (.nd .ow .lst W')), some (.v (.int k)), (some (.v (.tup [.non, .non]))), (some (.v .non)), (some (.v .non)), none, none] [] := by
  unfold eqB
  have c0 : ∀ {ls gh r}, S0 ls gh = r → S0 ls gh = r := fun h => h
  have c4 : ∀ {ls gh r}, S4 ls gh = r → S4 ls gh = r := fun h => h
  have cN : ∀ {x y ls gh r}, NE x y ls gh = r → NE x y ls gh = r := fun h => h
  have cW : ∀ {vs hs r}, WH vs hs = r → WH vs hs = r := fun h => h
  repeat (cbv; first | (rw [c0]; rotate_left; exact h0) | (rw [c4]; rotate_left; exact h4) | (rw [cN]; rotate_left; exact hN _ _ _ (by first | rfl | assumption)) | (rw [cW]; rotate_left; exact hW _))
  kernel_rfl
theorem eqB_non_ss {e4 e5 e6 e8 : D} (h0 : S0 [some (.v a), some (.v b), some (.v (.nd .ow .lst W)), some (.v (.int k)), (some (.v e4)), (some (.v e5)), (some (.v e6)), none, (some (.v e8))] [] = .nx [some (.v a), some (.v b), some (.v (.nd .ow .lst W)), some (.v (.int k)), (some (.v e4)), (some (.v e5)), (some (.v e6)), none, (some (.v e8))] [])
    (h4 : S4 [some (.v a), some (.v b), some (.v (.nd .ow .lst W)), some (.v (.int k)), (some (.v e4)), (some (.v e5)), (some (.v e6)), none, (some (.v e8))] [] = .nx [some (.v a), some (.v b), some (.v (.nd .ow .lst W')), some (.v (.int k)), (some (.v (.tup [.non, .non]))), (some (.v e5)), (some (.v e6)), none, (some (.v e8))] []) (hN : ∀ d ls gh, okD 60 d = true → NE (.v d) (.v d) ls gh = .ok (.v (.bl false)) ls gh) (hW : ∀ i : Int, WH [.v (.int i)] [] = .ok (.bl true) []) :
    eqB S0 S4 S9 NE WH [some (.v a), some (.v b), some (.v (.nd .ow .lst W)), some (.v (.int k)), (some (.v e4)), (some (.v e5)), (some (.v e6)), none, (some (.v e8))] [] = .nx [some (.v a), some (.v b), some (.v (.nd .ow .lst W')), some (.v (.int k)), (some (.v (.tup [.non, .non]))), (some (.v .non)), (some (.v .non)), none, (some (.v e8))] [] := by
  unfold eqB
  have c0 : ∀ {ls gh r}, S0 ls gh = r → S0 ls gh = r := fun h => h
  have c4 : ∀ {ls gh r}, S4 ls gh = r → S4 ls gh = r := fun h => h
  have cN : ∀ {x y ls gh r}, NE x y ls gh = r → NE x y ls gh = r := fun h => h
  have cW : ∀ {vs hs r}, WH vs hs = r → WH vs hs = r := fun h => h
  repeat (cbv; first | (rw [c0]; rotate_left; exact h0) | (rw [c4]; rotate_left; exact h4) | (rw [cN]; rotate_left; exact hN _ _ _ (by first | rfl | assumption)) | (rw [cW]; rotate_left; exact hW _))
  kernel_rfl
theorem eqB_bl_nn {q : Bool} {e4 e5 e6 e8 : D} (h0 : S0 [some (.v a), some (.v b), some (.v (.nd .ow .lst W)), some (.v (.int k)), none, none, none, none, none] [] = .nx [some (.v a), some (.v b), some (.v (.nd .ow .lst W)), some (.v (.int k)), none, none, none, none, none] [])
    (h4 : S4 [some (.v a), some (.v b), some (.v (.nd .ow .lst W)), some (.v (.int k)), none, none, none, none, none] [] = .nx [some (.v a), some (.v b), some (.v (.nd .ow .lst W')), some (.v (.int k)), (some (.v (.tup [(.bl q), (.bl q)]))), none, none, none, none] []) (hN : ∀ d ls gh, okD 60 d = true → NE (.v d) (.v d) ls gh = .ok (.v (.bl false)) ls gh) (hW : ∀ i : Int, WH [.v (.int i)] [] = .ok (.bl true) []) :
    eqB S0 S4 S9 NE WH [some (.v a), some (.v b), some (.v (.nd .ow .lst W)), some (.v (.int k)), none, none, none, none, none] [] = .nx [some (.v a), some (.v b), some (.v (.nd .ow .lst W')), some (.v (.int k)), (some (.v (.tup [(.bl q), (.bl q)]))), (some (.v (.bl q))), (some (.v (.bl q))), none, none] [] := by
  unfold eqB
  have c0 : ∀ {ls gh r}, S0 ls gh = r → S0 ls gh = r := fun h => h
  have c4 : ∀ {ls gh r}, S4 ls gh = r → S4 ls gh = r := fun h => h
  have cN : ∀ {x y ls gh r}, NE x y ls gh = r → NE x y ls gh = r := fun h => h
  have cW : ∀ {vs hs r}, WH vs hs = r → WH vs hs = r := fun h => h
  repeat (cbv; first | (rw [c0]; rotate_left; exact h0) | (rw [c4]; rotate_left; exact h4) | (rw [cN]; rotate_left; exact hN _ _ _ (by first | rfl | assumption)) | (rw [cW]; rotate_left; exact hW _))
  kernel_rfl
theorem eqB_bl_ns {q : Bool} {e4 e5 e6 e8 : D} (h0 : S0 [some (.v a), some (.v b), some (.v (.nd .ow .lst W)), some (.v (.int k)), none, none, none, none, (some (.v e8))] [] = .nx [some (.v a), some (.v b), some (.v (.nd .ow .lst W)), some (.v (.int k)), none, none, none, none, (some (.v e8))] [])
    (h4 : S4 [some (.v a), some (.v b), some (.v (.nd .ow .lst W)), some (.v (.int k)), none, none, none, none, (some (.v e8))] [] = .nx [some (.v a), some (.v b), some (.v (.nd .ow .lst W')), some (.v (.int k)), (some (.v (.tup [(.bl q), (.bl q)]))), none, none, none, (some (.v e8))] []) (hN : ∀ d ls gh, okD 60 d = true → NE (.v d) (.v d) ls gh = .ok (.v (.bl false)) ls gh) (hW : ∀ i : Int, WH [.v (.int i)] [] = .ok (.bl true) []) :
    eqB S0 S4 S9 NE WH [some (.v a), some (.v b), some (.v (.nd .ow .lst W)), some (.v (.int k)), none, none, none, none, (some (.v e8))] [] = .nx [some (.v a), some (.v b), some (.v (.nd .ow .lst W')), some (.v (.int k)), (some (.v (.tup [(.bl q), (.bl q)]))), (some (.v (.bl q))), (some (.v (.bl q))), none, (some (.v e8))] [] := by
  unfold eqB
  have c0 : ∀ {ls gh r}, S0 ls gh = r → S0 ls gh = r := fun h => h
  have c4 : ∀ {ls gh r}, S4 ls gh = r → S4 ls gh = r := fun h => h
  have cN : ∀ {x y ls gh r}, NE x y ls gh = r → NE x y ls gh = r := fun h => h
  have cW : ∀ {vs hs r}, WH vs hs = r → WH vs hs = r := fun h => h
  repeat (cbv; first | (rw [c0]; rotate_left; exact h0) | (rw [c4]; rotate_left; exact h4) | (rw [cN]; rotate_left; exact hN _ _ _ (by first | rfl | assumption)) | (rw [cW]; rotate_left; exact hW _))
  kernel_rfl
theorem eqB_bl_sn {q : Bool} {e4 e5 e6 e8 : D} (h0 : S0 [some (.v a), some (.v b), some (.v (.nd .ow .lst W)), some (.v (.int k)), (some (.v e4)), (some (.v e5)), (some (.v e6)), none, none] [] = .nx [some (.v a), some (.v b), some (.v (.nd .ow .lst W)), some (.v (.int k)), (some (.v e4)), (some (.v e5)), (some (.v e6)), none, none] [])
    (h4 : S4 [some (.v a), some (.v b), some (.v (.nd .ow .lst W)), some (.v (.int k)), (some (.v e4)), (some (.v e5)), (some (.v e6)), none, none] [] = .nx [some (.v a), some (.v b), some (.v (.nd .ow .lst W')), some (.v (.int k)), (some (.v (.tup [(.bl q), (.bl q)]))), (some (.v e5)), (some (.v e6)), none, none] []) (hN : ∀ d ls gh, okD 60 d = true → NE (.v d) (.v d) ls gh = .ok (.v (.bl false)) ls gh) (hW : ∀ i : Int, WH [.v (.int i)] [] = .ok (.bl true) []) :
    eqB S0 S4 S9 NE WH [some (.v a), some (.v b), some (.v (.nd .ow .lst W)), some (.v (.int k)), (some (.v e4)), (some (.v e5)), (some (.v e6)), none, none] [] = .nx [some (.v a), some (.v b), some (.v (.nd .ow .lst W')), some (.v (.int k)), (some (.v (.tup [(.bl q), (.bl q)]))), (some (.v (.bl q))), (some (.v (.bl q))), none, none] [] := by
  unfold eqB
  have c0 : ∀ {ls gh r}, S0 ls gh = r → S0 ls gh = r := fun h => h
  have c4 : ∀ {ls gh r}, S4 ls gh = r → S4 ls gh = r := fun h => h
  have cN : ∀ {x y ls gh r}, NE x y ls gh = r → NE x y ls gh = r := fun h => h
  have cW : ∀ {vs hs r}, WH vs hs = r → WH vs hs = r := fun h => h
  repeat (cbv; first | (rw [c0]; rotate_left; exact h0) | (rw [c4]; rotate_left; exact h4) | (rw [cN]; rotate_left; exact hN _ _ _ (by first | rfl | assumption)) | (rw [cW]; rotate_left; exact hW _))
  kernel_rfl
theorem eqB_bl_ss {q : Bool} {e4 e5 e6 e8 : D} (h0 : S0 [some (.v a), some (.v b), some (.v (.nd .ow .lst W)), some (.v (.int k)), (some (.v e4)), (some (.v e5)), (some (.v e6)), none, (some (.v e8))] [] = .nx [some (.v a), some (.v b), some (.v (.nd .ow .lst W)), some (.v (.int k)), (some (.v e4)), (some (.v e5)), (some (.v e6)), none, (some (.v e8))] [])
    (h4 : S4 [some (.v a), some (.v b), some (.v (.nd .ow .lst W)), some (.v (.int k)), (some (.v e4)), (some (.v e5)), (some (.v e6)), none, (some (.v e8))] [] = .nx [some (.v a), some (.v b), some (.v (.nd .ow .lst W')), some (.v (.int k)), (some (.v (.tup [(.bl q), (.bl q)]))), (some (.v e5)), (some (.v e6)), none, (some (.v e8))] []) (hN : ∀ d ls gh, okD 60 d = true → NE (.v d) (.v d) ls gh = .ok (.v (.bl false)) ls gh) (hW : ∀ i : Int, WH [.v (.int i)] [] = .ok (.bl true) []) :
    eqB S0 S4 S9 NE WH [some (.v a), some (.v b), some (.v (.nd .ow .lst W)), some (.v (.int k)), (some (.v e4)), (some (.v e5)), (some (.v e6)), none, (some (.v e8))] [] = .nx [some (.v a), some (.v b), some (.v (.nd .ow .lst W')), some (.v (.int k)), (some (.v (.tup [(.bl q), (.bl q)]))), (some (.v (.bl q))), (some (.v (.bl q))), none, (some (.v e8))] [] := by
  unfold eqB
  have c0 : ∀ {ls gh r}, S0 ls gh = r → S0 ls gh = r := fun h => h
  have c4 : ∀ {ls gh r}, S4 ls gh = r → S4 ls gh = r := fun h => h
  have cN : ∀ {x y ls gh r}, NE x y ls gh = r → NE x y ls gh = r := fun h => h
  have cW : ∀ {vs hs r}, WH vs hs = r → WH vs hs = r := fun h => h
  repeat (cbv; first | (rw [c0]; rotate_left; exact h0) | (rw [c4]; rotate_left; exact h4) | (rw [cN]; rotate_left; exact hN _ _ _ (by first | rfl | assumption)) | (rw [cW]; rotate_left; exact hW _))
  kernel_rfl
theorem eqB_int_nn {q : Int} {e4 e5 e6 e8 : D} (h0 : S0 [some (.v a), some (.v b), some (.v (.nd .ow .lst W)), some (.v (.int k)), none, none, none, none, none] [] = .nx [some (.v a), some (.v b), some (.v (.nd .ow .lst W)), some (.v (.int k)), none, none, none, none, none] [])
    (h4 : S4 [some (.v a), some (.v b), some (.v (.nd .ow .lst W)), some (.v (.int k)), none, none, none, none, none] [] = .nx [some (.v a), some (.v b), some (.v (.nd .ow .lst W')), some (.v (.int k)), (some (.v (.tup [(.int q), (.int q)]))), none, none, none, none] []) (hN : ∀ d ls gh, okD 60 d = true → NE (.v d) (.v d) ls gh = .ok (.v (.bl false)) ls gh) (hW : ∀ i : Int, WH [.v (.int i)] [] = .ok (.bl true) []) :
    eqB S0 S4 S9 NE WH [some (.v a), some (.v b), some (.v (.nd .ow .lst W)), some (.v (.int k)), none, none, none, none, none] [] = .nx [some (.v a), some (.v b), some (.v (.nd .ow .lst W')), some (.v (.int k)), (some (.v (.tup [(.int q), (.int q)]))), (some (.v (.int q))), (some (.v (.int q))), none, none] [] := by
  unfold eqB
  have c0 : ∀ {ls gh r}, S0 ls gh = r → S0 ls gh = r := fun h => h
  have c4 : ∀ {ls gh r}, S4 ls gh = r → S4 ls gh = r := fun h => h
  have cN : ∀ {x y ls gh r}, NE x y ls gh = r → NE x y ls gh = r := fun h => h
  have cW : ∀ {vs hs r}, WH vs hs = r → WH vs hs = r := fun h => h
  repeat (cbv; first | (rw [c0]; rotate_left; exact h0) | (rw [c4]; rotate_left; exact h4) | (rw [cN]; rotate_left; exact hN _ _ _ (by first | rfl | assumption)) | (rw [cW]; rotate_left; exact hW _))
  kernel_rfl
theorem eqB_int_ns {q : Int} {e4 e5 e6 e8 : D} (h0 : S0 [some (.v a), some (.v b), some (.v (.nd .ow .lst W)), some (.v (.int k)), none, none, none, none, (some (.v e8))] [] = .nx [some (.v a), some (.v b), some (.v (.nd .ow .lst W)), some (.v (.int k)), none, none, none, none, (some (.v e8))] [])
    (h4 : S4 [some (.v a), some (.v b), some (.v (.nd .ow .lst W)), some (.v (.int k)), none, none, none, none, (some (.v e8))] [] = .nx [some (.v a), some (.v b), some (.v (.nd .ow .lst W')), some (.v (.int k)), (some (.v (.tup [(.int q), (.int q)]))), none, none, none, (some (.v e8))] []) (hN : ∀ d ls gh, okD 60 d = true → NE (.v d) (.v d) ls gh = .ok (.v (.bl false)) ls gh) (hW : ∀ i : Int, WH [.v (.int i)] [] = .ok (.bl true) []) :
    eqB S0 S4 S9 NE WH [some (.v a), some (.v b), some (.v (.nd .ow .lst W)), some (.v (.int k)), none, none, none, none, (some (.v e8))] [] = .nx [some (.v a), some (.v b), some (.v (.nd .ow .lst W')), some (.v (.int k)), (some (.v (.tup [(.int q), (.int q)]))), (some (.v (.int q))), (some (.v (.int q))), none, (some (.v e8))] [] := by
  unfold eqB
  have c0 : ∀ {ls gh r}, S0 ls gh = r → S0 ls gh = r := fun h => h
  have c4 : ∀ {ls gh r}, S4 ls gh = r → S4 ls gh = r := fun h => h
  have cN : ∀ {x y ls gh r}, NE x y ls gh = r → NE x y ls gh = r := fun h => h
  have cW : ∀ {vs hs r}, WH vs hs = r → WH vs hs = r := fun h => h
  repeat (cbv; first | (rw [c0]; rotate_left; exact h0) | (rw [c4]; rotate_left; exact h4) | (rw [cN]; rotate_left; exact hN _ _ _ (by first | rfl | assumption)) | (rw [cW]; rotate_left; exact hW _))
  kernel_rfl
theorem eqB_int_sn {q : Int} {e4 e5 e6 e8 : D} (h0 : S0 [some (.v a), some (.v b), some (.v (.nd .ow .lst W)), some (.v (.int k)), (some (.v e4)), (some (.v e5)), (some (.v e6)), none, none] [] = .nx [some (.v a), some (.v b), some (.v (.nd .ow .lst W)), some (.v (.int k)), (some (.v e4)), (some (.v e5)), (some (.v e6)), none, none] [])
    (h4 : S4 [some (.v a), some (.v b), some (.v (.nd .ow .lst W)), some (.v (.int k)), (some (.v e4)), (some (.v e5)), (some (.v e6)), none, none] [] = .nx [some (.v a), some (.v b), some (.v (.nd .ow .lst W')), some (.v (.int k)), (some (.v (.tup [(.int q), (.int q)]))), (some (.v e5)), (some (.v e6)), none, none] []) (hN : ∀ d ls gh, okD 60 d = true → NE (.v d) (.v d) ls gh = .ok (.v (.bl false)) ls gh) (hW : ∀ i : Int, WH [.v (.int i)] [] = .ok (.bl true) []) :
    eqB S0 S4 S9 NE WH [some (.v a), some (.v b), some (.v (.nd .ow .lst W)), some (.v (.int k)), (some (.v e4)), (some (.v e5)), (some (.v e6)), none, none] [] = .nx [some (.v a), some (.v b), some (.v (.nd .ow .lst W')), some (.v (.int k)), (some (.v (.tup [(.int q), (.int q)]))), (some (.v (.int q))), (some (.v (.int q))), none, none] [] := by
  unfold eqB
  have c0 : ∀ {ls gh r}, S0 ls gh = r → S0 ls gh = r := fun h => h
  have c4 : ∀ {ls gh r}, S4 ls gh = r → S4 ls gh = r := fun h => h
  have cN : ∀ {x y ls gh r}, NE x y ls gh = r → NE x y ls gh = r := fun h => h
  have cW : ∀ {vs hs r}, WH vs hs = r → WH vs hs = r := fun h => h
  repeat (cbv; first | (rw [c0]; rotate_left; exact h0) | (rw [c4]; rotate_left; exact h4) | (rw [cN]; rotate_left; exact hN _ _ _ (by first | rfl | assumption)) | (rw [cW]; rotate_left; exact hW _))
  kernel_rfl
theorem eqB_int_ss {q : Int} {e4 e5 e6 e8 : D} (h0 : S0 [some (.v a), some (.v b), some (.v (.nd .ow .lst W)), some (.v (.int k)), (some (.v e4)), (some (.v e5)), (some (.v e6)), none, (some (.v e8))] [] = .nx [some (.v a), some (.v b), some (.v (.nd .ow .lst W)), some (.v (.int k)), (some (.v e4)), (some (.v e5)), (some (.v e6)), none, (some (.v e8))] [])
    (h4 : S4 [some (.v a), some (.v b), some (.v (.nd .ow .lst W)), some (.v (.int k)), (some (.v e4)), (some (.v e5)), (some (.v e6)), none, (some (.v e8))] [] = .nx [some (.v a), some (.v b), some (.v (.nd .ow .lst W')), some (.v (.int k)), (some (.v (.tup [(.int q), (.int q)]))), (some (.v e5)), (some (.v e6)), none, (some (.v e8))] []) (hN : ∀ d ls gh, okD 60 d = true → NE (.v d) (.v d) ls gh = .ok (.v (.bl false)) ls gh) (hW : ∀ i : Int, WH [.v (.int i)] [] = .ok (.bl true) []) :
    eqB S0 S4 S9 NE WH [some (.v a), some (.v b), some (.v (.nd .ow .lst W)), some (.v (.int k)), (some (.v e4)), (some (.v e5)), (some (.v e6)), none, (some (.v e8))] [] = .nx [some (.v a), some (.v b), some (.v (.nd .ow .lst W')), some (.v (.int k)), (some (.v (.tup [(.int q), (.int q)]))), (some (.v (.int q))), (some (.v (.int q))), none, (some (.v e8))] [] := by
  unfold eqB
  have c0 : ∀ {ls gh r}, S0 ls gh = r → S0 ls gh = r := fun h => h
  have c4 : ∀ {ls gh r}, S4 ls gh = r → S4 ls gh = r := fun h => h
  have cN : ∀ {x y ls gh r}, NE x y ls gh = r → NE x y ls gh = r := fun h => h
  have cW : ∀ {vs hs r}, WH vs hs = r → WH vs hs = r := fun h => h
  repeat (cbv; first | (rw [c0]; rotate_left; exact h0) | (rw [c4]; rotate_left; exact h4) | (rw [cN]; rotate_left; exact hN _ _ _ (by first | rfl | assumption)) | (rw [cW]; rotate_left; exact hW _))
  kernel_rfl
theorem eqB_str_nn {q : List Nat} {e4 e5 e6 e8 : D} (hq : okD 60 (.str q) = true) (h0 : S0 [some (.v a), some (.v b), some (.v (.nd .ow .lst W)), some (.v (.int k)), none, none, none, none, none] [] = .nx [some (.v a), some (.v b), some (.v (.nd .ow .lst W)), some (.v (.int k)), none, none, none, none, none] [])
    (h4 : S4 [some (.v a), some (.v b), some (.v (.nd .ow .lst W)), some (.v (.int k)), none, none, none, none, none] [] = .nx [some (.v a), some (.v b), some (.v (.nd .ow .lst W')), some (.v (.int k)), (some (.v (.tup [(.str q), (.str q)]))), none, none, none, none] []) (hN : ∀ d ls gh, okD 60 d = true → NE (.v d) (.v d) ls gh = .ok (.v (.bl false)) ls gh) (hW : ∀ i : Int, WH [.v (.int i)] [] = .ok (.bl true) []) :
    eqB S0 S4 S9 NE WH [some (.v a), some (.v b), some (.v (.nd .ow .lst W)), some (.v (.int k)), none, none, none, none, none] [] = .nx [some (.v a), some (.v b), some (.v (.nd .ow .lst W')), some (.v (.int k)), (some (.v (.tup [(.str q), (.str q)]))), (some (.v (.str q))), (some (.v (.str q))), none, none] [] := by
  unfold eqB
  have c0 : ∀ {ls gh r}, S0 ls gh = r → S0 ls gh = r := fun h => h
  have c4 : ∀ {ls gh r}, S4 ls gh = r → S4 ls gh = r := fun h => h
  have cN : ∀ {x y ls gh r}, NE x y ls gh = r → NE x y ls gh = r := fun h => h
  have cW : ∀ {vs hs r}, WH vs hs = r → WH vs hs = r := fun h => h
  repeat (cbv; first | (rw [c0]; rotate_left; exact h0) | (rw [c4]; rotate_left; exact h4) | (rw [cN]; rotate_left; exact hN _ _ _ (by first | rfl | assumption)) | (rw [cW]; rotate_left; exact hW _))
  kernel_rfl
theorem eqB_str_ns {q : List Nat} {e4 e5 e6 e8 : D} (hq : okD 60 (.str q) = true) (h0 : S0 [some (.v a), some (.v b), some (.v (.nd .ow .lst W)), some (.v (.int k)), none, none, none, none, (some (.v e8))] [] = .nx [some (.v a), some (.v b), some (.v (.nd .ow .lst W)), some (.v (.int k)), none, none, none, none, (some (.v e8))] [])
    (h4 : S4 [some (.v a), some (.v b), some (.v (.nd .ow .lst W)), some (.v (.int k)), none, none, none, none, (some (.v e8))] [] = .nx [some (.v a), some (.v b), some (.v (.nd .ow .lst W')), some (.v (.int k)), (some (.v (.tup [(.str q), (.str q)]))), none, none, none, (some (.v e8))] []) (hN : ∀ d ls gh, okD 60 d = true → NE (.v d) (.v d) ls gh = .ok (.v (.bl false)) ls gh) (hW : ∀ i : Int, WH [.v (.int i)] [] = .ok (.bl true) []) :
    eqB S0 S4 S9 NE WH [some (.v a), some (.v b), some (.v (.nd .ow .lst W)), some (.v (.int k)), none, none, none, none, (some (.v e8))] [] = .nx [some (.v a), some (.v b), some (.v (.nd .ow .lst W')), some (.v (.int k)), (some (.v (.tup [(.str q), (.str q)]))), (some (.v (.str q))), (some (.v (.str q))), none, (some (.v e8))] [] := by
  unfold eqB
  have c0 : ∀ {ls gh r}, S0 ls gh = r → S0 ls gh = r := fun h => h
  have c4 : ∀ {ls gh r}, S4 ls gh = r → S4 ls gh = r := fun h => h
  have cN : ∀ {x y ls gh r}, NE x y ls gh = r → NE x y ls gh = r := fun h => h
  have cW : ∀ {vs hs r}, WH vs hs = r → WH vs hs = r := fun h => h
  repeat (cbv; first | (rw [c0]; rotate_left; exact h0) | (rw [c4]; rotate_left; exact h4) | (rw [cN]; rotate_left; exact hN _ _ _ (by first | rfl | assumption)) | (rw [cW]; rotate_left; exact hW _))
  kernel_rfl
theorem eqB_str_sn {q : List Nat} {e4 e5 e6 e8 : D} (hq : okD 60 (.str q) = true) (h0 : S0 [some (.v a), some (.v b), some (.v (.nd .ow .lst W)), some (.v (.int k)), (some (.v e4)), (some (.v e5)), (some (.v e6)), none, none] [] = .nx [some (.v a), some (.v b), some (.v (.nd .ow .lst W)), some (.v (.int k)), (some (.v e4)), (some (.v e5)), (some (.v e6)), none, none] [])
    (h4 : S4 [some (.v a), some (.v b), some (.v (.nd .ow .lst W)), some (.v (.int k)), (some (.v e4)), (some (.v e5)), (some (.v e6)), none, none] [] = .nx [some (.v a), some (.v b), some (.v (.nd .ow .lst W')), some (.v (.int k)), (some (.v (.tup [(.str q), (.str q)]))), (some (.v e5)), (some (.v e6)), none, none] []) (hN : ∀ d ls gh, okD 60 d = true → NE (.v d) (.v d) ls gh = .ok (.v (.bl false)) ls gh) (hW : ∀ i : Int, WH [.v (.int i)] [] = .ok (.bl true) []) :
    eqB S0 S4 S9 NE WH [some (.v a), some (.v b), some (.v (.nd .ow .lst W)), some (.v (.int k)), (some (.v e4)), (some (.v e5)), (some (.v e6)), none, none] [] = .nx [some (.v a), some (.v b), some (.v (.nd .ow .lst W')), some (.v (.int k)), (some (.v (.tup [(.str q), (.str q)]))), (some (.v (.str q))), (some (.v (.str q))), none, none] [] := by
  unfold eqB
  have c0 : ∀ {ls gh r}, S0 ls gh = r → S0 ls gh = r := fun h => h
  have c4 : ∀ {ls gh r}, S4 ls gh = r → S4 ls gh = r := fun h => h
  have cN : ∀ {x y ls gh r}, NE x y ls gh = r → NE x y ls gh = r := fun h => h
  have cW : ∀ {vs hs r}, WH vs hs = r → WH vs hs = r := fun h => h
  repeat (cbv; first | (rw [c0]; rotate_left; exact h0) | (rw [c4]; rotate_left; exact h4) | (rw [cN]; rotate_left; exact hN _ _ _ (by first | rfl | assumption)) | (rw [cW]; rotate_left; exact hW _))
  kernel_rfl
theorem eqB_str_ss {q : List Nat} {e4 e5 e6 e8 : D} (hq : okD 60 (.str q) = true) (h0 : S0 [some (.v a), some (.v b), some (.v (.nd .ow .lst W)), some (.v (.int k)), (some (.v e4)), (some (.v e5)), (some (.v e6)), none, (some (.v e8))] [] = .nx [some (.v a), some (.v b), some (.v (.nd .ow .lst W)), some (.v (.int k)), (some (.v e4)), (some (.v e5)), (some (.v e6)), none, (some (.v e8))] [])
    (h4 : S4 [some (.v a), some (.v b), some (.v (.nd .ow .lst W)), some (.v (.int k)), (some (.v e4)), (some (.v e5)), (some (.v e6)), none, (some (.v e8))] [] = .nx [some (.v a), some (.v b), some (.v (.nd .ow .lst W')), some (.v (.int k)), (some (.v (.tup [(.str q), (.str q)]))), (some (.v e5)), (some (.v e6)), none, (some (.v e8))] []) (hN : ∀ d ls gh, okD 60 d = true → NE (.v d) (.v d) ls gh = .ok (.v (.bl false)) ls gh) (hW : ∀ i : Int, WH [.v (.int i)] [] = .ok (.bl true) []) :
    eqB S0 S4 S9 NE WH [some (.v a), some (.v b), some (.v (.nd .ow .lst W)), some (.v (.int k)), (some (.v e4)), (some (.v e5)), (some (.v e6)), none, (some (.v e8))] [] = .nx [some (.v a), some (.v b), some (.v (.nd .ow .lst W')), some (.v (.int k)), (some (.v (.tup [(.str q), (.str q)]))), (some (.v (.str q))), (some (.v (.str q))), none, (some (.v e8))] [] := by
  unfold eqB
  have c0 : ∀ {ls gh r}, S0 ls gh = r → S0 ls gh = r := fun h => h
  have c4 : ∀ {ls gh r}, S4 ls gh = r → S4 ls gh = r := fun h => h
  have cN : ∀ {x y ls gh r}, NE x y ls gh = r → NE x y ls gh = r := fun h => h
  have cW : ∀ {vs hs r}, WH vs hs = r → WH vs hs = r := fun h => h
  repeat (cbv; first | (rw [c0]; rotate_left; exact h0) | (rw [c4]; rotate_left; exact h4) | (rw [cN]; rotate_left; exact hN _ _ _ (by first | rfl | assumption)) | (rw [cW]; rotate_left; exact hW _))
  kernel_rfl
theorem eqB_tup_nn {e4 e5 e6 e8 : D} (h0 : S0 [some (.v a), some (.v b), some (.v (.nd .ow .lst W)), some (.v (.int k)), none, none, none, none, none] [] = .nx [some (.v a), some (.v b), some (.v (.nd .ow .lst W)), some (.v (.int k)), none, none, none, none, none] [])
    (h4 : S4 [some (.v a), some (.v b), some (.v (.nd .ow .lst W)), some (.v (.int k)), none, none, none, none, none] [] = .nx [some (.v a), some (.v b), some (.v (.nd .ow .lst W')), some (.v (.int k)), (some (.v (.tup [(.tup xs), (.tup xs)]))), none, none, none, none] []) (hN : ∀ d ls gh, okD 60 d = true → NE (.v d) (.v d) ls gh = .ok (.v (.bl false)) ls gh)
    {r : SOut} (h9 : S9 [some (.v a), some (.v b), some (.v (.nd .ow .lst W')), some (.v (.int k)), (some (.v (.tup [(.tup xs), (.tup xs)]))), (some (.v (.tup xs))), (some (.v (.tup xs))), none, none] [] = r) :
    eqB S0 S4 S9 NE WH [some (.v a), some (.v b), some (.v (.nd .ow .lst W)), some (.v (.int k)), none, none, none, none, none] [] = r := by
  unfold eqB
  have c0 : ∀ {ls gh r}, S0 ls gh = r → S0 ls gh = r := fun h => h
  have c4 : ∀ {ls gh r}, S4 ls gh = r → S4 ls gh = r := fun h => h
  have c9 : ∀ {ls gh r}, S9 ls gh = r → S9 ls gh = r := fun h => h
  have cN : ∀ {x y ls gh r}, NE x y ls gh = r → NE x y ls gh = r := fun h => h
  repeat (cbv; first | (rw [c0]; rotate_left; exact h0) | (rw [c4]; rotate_left; exact h4) | (rw [cN]; rotate_left; exact hN _ _ _ (by first | rfl | assumption)))
  first | cbv | skip
  rw [c9]; rotate_left; exact h9
  all_goals (cases r <;> rfl)
theorem eqB_tup_ns {e4 e5 e6 e8 : D} (h0 : S0 [some (.v a), some (.v b), some (.v (.nd .ow .lst W)), some (.v (.int k)), none, none, none, none, (some (.v e8))] [] = .nx [some (.v a), some (.v b), some (.v (.nd .ow .lst W)), some (.v (.int k)), none, none, none, none, (some (.v e8))] [])
    (h4 : S4 [some (.v a), some (.v b), some (.v (.nd .ow .lst W)), some (.v (.int k)), none, none, none, none, (some (.v e8))] [] = .nx [some (.v a), some (.v b), some (.v (.nd .ow .lst W')), some (.v (.int k)), (some (.v (.tup [(.tup xs), (.tup xs)]))), none, none, none, (some (.v e8))] []) (hN : ∀ d ls gh, okD 60 d = true → NE (.v d) (.v d) ls gh = .ok (.v (.bl false)) ls gh)
    {r : SOut} (h9 : S9 [some (.v a), some (.v b), some (.v (.nd .ow .lst W')), some (.v (.int k)), (some (.v (.tup [(.tup xs), (.tup xs)]))), (some (.v (.tup xs))), (some (.v (.tup xs))), none, (some (.v e8))] [] = r) :
    eqB S0 S4 S9 NE WH [some (.v a), some (.v b), some (.v (.nd .ow .lst W)), some (.v (.int k)), none, none, none, none, (some (.v e8))] [] = r := by
  unfold eqB
  have c0 : ∀ {ls gh r}, S0 ls gh = r → S0 ls gh = r := fun h => h
  have c4 : ∀ {ls gh r}, S4 ls gh = r → S4 ls gh = r := fun h => h
  have c9 : ∀ {ls gh r}, S9 ls gh = r → S9 ls gh = r := fun h => h
  have cN : ∀ {x y ls gh r}, NE x y ls gh = r → NE x y ls gh = r := fun h => h
  repeat (cbv; first | (rw [c0]; rotate_left; exact h0) | (rw [c4]; rotate_left; exact h4) | (rw [cN]; rotate_left; exact hN _ _ _ (by first | rfl | assumption)))
  first | cbv | skip
  rw [c9]; rotate_left; exact h9
  all_goals (cases r <;> rfl)
theorem eqB_tup_sn {e4 e5 e6 e8 : D} (h0 : S0 [some (.v a), some (.v b), some (.v (.nd .ow .lst W)), some (.v (.int k)), (some (.v e4)), (some (.v e5)), (some (.v e6)), none, none] [] = .nx [some (.v a), some (.v b), some (.v (.nd .ow .lst W)), some (.v (.int k)), (some (.v e4)), (some (.v e5)), (some (.v e6)), none, none] [])
    (h4 : S4 [some (.v a), some (.v b), some (.v (.nd .ow .lst W)), some (.v (.int k)), (some (.v e4)), (some (.v e5)), (some (.v e6)), none, none] [] = .nx [some (.v a), some (.v b), some (.v (.nd .ow .lst W')), some (.v (.int k)), (some (.v (.tup [(.tup xs), (.tup xs)]))), (some (.v e5)), (some (.v e6)), none, none] []) (hN : ∀ d ls gh, okD 60 d = true → NE (.v d) (.v d) ls gh = .ok (.v (.bl false)) ls gh)
    {r : SOut} (h9 : S9 [some (.v a), some (.v b), some (.v (.nd .ow .lst W')), some (.v (.int k)), (some (.v (.tup [(.tup xs), (.tup xs)]))), (some (.v (.tup xs))), (some (.v (.tup xs))), none, none] [] = r) :
    eqB S0 S4 S9 NE WH [some (.v a), some (.v b), some (.v (.nd .ow .lst W)), some (.v (.int k)), (some (.v e4)), (some (.v e5)), (some (.v e6)), none, none] [] = r := by
  unfold eqB
  have c0 : ∀ {ls gh r}, S0 ls gh = r → S0 ls gh = r := fun h => h
  have c4 : ∀ {ls gh r}, S4 ls gh = r → S4 ls gh = r := fun h => h
  have c9 : ∀ {ls gh r}, S9 ls gh = r → S9 ls gh = r := fun h => h
  have cN : ∀ {x y ls gh r}, NE x y ls gh = r → NE x y ls gh = r := fun h => h
  repeat (cbv; first | (rw [c0]; rotate_left; exact h0) | (rw [c4]; rotate_left; exact h4) | (rw [cN]; rotate_left; exact hN _ _ _ (by first | rfl | assumption)))
  first | cbv | skip
  rw [c9]; rotate_left; exact h9
  all_goals (cases r <;> rfl)
theorem eqB_tup_ss {e4 e5 e6 e8 : D} (h0 : S0 [some (.v a), some (.v b), some (.v (.nd .ow .lst W)), some (.v (.int k)), (some (.v e4)), (some (.v e5)), (some (.v e6)), none, (some (.v e8))] [] = .nx [some (.v a), some (.v b), some (.v (.nd .ow .lst W)), some (.v (.int k)), (some (.v e4)), (some (.v e5)), (some (.v e6)), none, (some (.v e8))] [])
    (h4 : S4 [some (.v a), some (.v b), some (.v (.nd .ow .lst W)), some (.v (.int k)), (some (.v e4)), (some (.v e5)), (some (.v e6)), none, (some (.v e8))] [] = .nx [some (.v a), some (.v b), some (.v (.nd .ow .lst W')), some (.v (.int k)), (some (.v (.tup [(.tup xs), (.tup xs)]))), (some (.v e5)), (some (.v e6)), none, (some (.v e8))] []) (hN : ∀ d ls gh, okD 60 d = true → NE (.v d) (.v d) ls gh = .ok (.v (.bl false)) ls gh)
    {r : SOut} (h9 : S9 [some (.v a), some (.v b), some (.v (.nd .ow .lst W')), some (.v (.int k)), (some (.v (.tup [(.tup xs), (.tup xs)]))), (some (.v (.tup xs))), (some (.v (.tup xs))), none, (some (.v e8))] [] = r) :
    eqB S0 S4 S9 NE WH [some (.v a), some (.v b), some (.v (.nd .ow .lst W)), some (.v (.int k)), (some (.v e4)), (some (.v e5)), (some (.v e6)), none, (some (.v e8))] [] = r := by
  unfold eqB
  have c0 : ∀ {ls gh r}, S0 ls gh = r → S0 ls gh = r := fun h => h
  have c4 : ∀ {ls gh r}, S4 ls gh = r → S4 ls gh = r := fun h => h
  have c9 : ∀ {ls gh r}, S9 ls gh = r → S9 ls gh = r := fun h => h
  have cN : ∀ {x y ls gh r}, NE x y ls gh = r → NE x y ls gh = r := fun h => h
  repeat (cbv; first | (rw [c0]; rotate_left; exact h0) | (rw [c4]; rotate_left; exact h4) | (rw [cN]; rotate_left; exact hN _ _ _ (by first | rfl | assumption)))
  first | cbv | skip
  rw [c9]; rotate_left; exact h9
  all_goals (cases r <;> rfl)
theorem eqB_lst_nn {e4 e5 e6 e8 : D} (h0 : S0 [some (.v a), some (.v b), some (.v (.nd .ow .lst W)), some (.v (.int k)), none, none, none, none, none] [] = .nx [some (.v a), some (.v b), some (.v (.nd .ow .lst W)), some (.v (.int k)), none, none, none, none, none] [])
    (h4 : S4 [some (.v a), some (.v b), some (.v (.nd .ow .lst W)), some (.v (.int k)), none, none, none, none, none] [] = .nx [some (.v a), some (.v b), some (.v (.nd .ow .lst W')), some (.v (.int k)), (some (.v (.tup [(.nd .fz .lst xs), (.nd .fz .lst xs)]))), none, none, none, none] []) (hN : ∀ d ls gh, okD 60 d = true → NE (.v d) (.v d) ls gh = .ok (.v (.bl false)) ls gh)
    {r : SOut} (h9 : S9 [some (.v a), some (.v b), some (.v (.nd .ow .lst W')), some (.v (.int k)), (some (.v (.tup [(.nd .fz .lst xs), (.nd .fz .lst xs)]))), (some (.v (.nd .fz .lst xs))), (some (.v (.nd .fz .lst xs))), none, none] [] = r) :
    eqB S0 S4 S9 NE WH [some (.v a), some (.v b), some (.v (.nd .ow .lst W)), some (.v (.int k)), none, none, none, none, none] [] = r := by
  unfold eqB
  have c0 : ∀ {ls gh r}, S0 ls gh = r → S0 ls gh = r := fun h => h
  have c4 : ∀ {ls gh r}, S4 ls gh = r → S4 ls gh = r := fun h => h
  have c9 : ∀ {ls gh r}, S9 ls gh = r → S9 ls gh = r := fun h => h
  have cN : ∀ {x y ls gh r}, NE x y ls gh = r → NE x y ls gh = r := fun h => h
  repeat (cbv; first | (rw [c0]; rotate_left; exact h0) | (rw [c4]; rotate_left; exact h4) | (rw [cN]; rotate_left; exact hN _ _ _ (by first | rfl | assumption)))
  first | cbv | skip
  rw [c9]; rotate_left; exact h9
  all_goals (cases r <;> rfl)
theorem eqB_lst_ns {e4 e5 e6 e8 : D} (h0 : S0 [some (.v a), some (.v b), some (.v (.nd .ow .lst W)), some (.v (.int k)), none, none, none, none, (some (.v e8))] [] = .nx [some (.v a), some (.v b), some (.v (.nd .ow .lst W)), some (.v (.int k)), none, none, none, none, (some (.v e8))] [])
    (h4 : S4 [some (.v a), some (.v b), some (.v (.nd .ow .lst W)), some (.v (.int k)), none, none, none, none, (some (.v e8))] [] = .nx [some (.v a), some (.v b), some (.v (.nd .ow .lst W')), some (.v (.int k)), (some (.v (.tup [(.nd .fz .lst xs), (.nd .fz .lst xs)]))), none, none, none, (some (.v e8))] []) (hN : ∀ d ls gh, okD 60 d = true → NE (.v d) (.v d) ls gh = .ok (.v (.bl false)) ls gh)
    {r : SOut} (h9 : S9 [some (.v a), some (.v b), some (.v (.nd .ow .lst W')), some (.v (.int k)), (some (.v (.tup [(.nd .fz .lst xs), (.nd .fz .lst xs)]))), (some (.v (.nd .fz .lst xs))), (some (.v (.nd .fz .lst xs))), none, (some (.v e8))] [] = r) :
    eqB S0 S4 S9 NE WH [some (.v a), some (.v b), some (.v (.nd .ow .lst W)), some (.v (.int k)), none, none, none, none, (some (.v e8))] [] = r := by
  unfold eqB
  have c0 : ∀ {ls gh r}, S0 ls gh = r → S0 ls gh = r := fun h => h
  have c4 : ∀ {ls gh r}, S4 ls gh = r → S4 ls gh = r := fun h => h
  have c9 : ∀ {ls gh r}, S9 ls gh = r → S9 ls gh = r := fun h => h
  have cN : ∀ {x y ls gh r}, NE x y ls gh = r → NE x y ls gh = r := fun h => h
  repeat (cbv; first | (rw [c0]; rotate_left; exact h0) | (rw [c4]; rotate_left; exact h4) | (rw [cN]; rotate_left; exact hN _ _ _ (by first | rfl | assumption)))
  first | cbv | skip
  rw [c9]; rotate_left; exact h9
  all_goals (cases r <;> rfl)
theorem eqB_lst_sn {e4 e5 e6 e8 : D} (h0 : S0 [some (.v a), some (.v b), some (.v (.nd .ow .lst W)), some (.v (.int k)), (some (.v e4)), (some (.v e5)), (some (.v e6)), none, none] [] = .nx [some (.v a), some (.v b), some (.v (.nd .ow .lst W)), some (.v (.int k)), (some (.v e4)), (some (.v e5)), (some (.v e6)), none, none] [])
    (h4 : S4 [some (.v a), some (.v b), some (.v (.nd .ow .lst W)), some (.v (.int k)), (some (.v e4)), (some (.v e5)), (some (.v e6)), none, none] [] = .nx [some (.v a), some (.v b), some (.v (.nd .ow .lst W')), some (.v (.int k)), (some (.v (.tup [(.nd .fz .lst xs), (.nd .fz .lst xs)]))), (some (.v e5)), (some (.v e6)), none, none] []) (hN : ∀ d ls gh, okD 60 d = true → NE (.v d) (.v d) ls gh = .ok (.v (.bl false)) ls gh)
    {r : SOut} (h9 : S9 [some (.v a), some (.v b), some (.v (.nd .ow .lst W')), some (.v (.int k)), (some (.v (.tup [(.nd .fz .lst xs), (.nd .fz .lst xs)]))), (some (.v (.nd .fz .lst xs))), (some (.v (.nd .fz .lst xs))), none, none] [] = r) :
    eqB S0 S4 S9 NE WH [some (.v a), some (.v b), some (.v (.nd .ow .lst W)), some (.v (.int k)), (some (.v e4)), (some (.v e5)), (some (.v e6)), none, none] [] = r := by
  unfold eqB
  have c0 : ∀ {ls gh r}, S0 ls gh = r → S0 ls gh = r := fun h => h
  have c4 : ∀ {ls gh r}, S4 ls gh = r → S4 ls gh = r := fun h => h
  have c9 : ∀ {ls gh r}, S9 ls gh = r → S9 ls gh = r := fun h => h
  have cN : ∀ {x y ls gh r}, NE x y ls gh = r → NE x y ls gh = r := fun h => h
  repeat (cbv; first | (rw [c0]; rotate_left; exact h0) | (rw [c4]; rotate_left; exact h4) | (rw [cN]; rotate_left; exact hN _ _ _ (by first | rfl | assumption)))
  first | cbv | skip
  rw [c9]; rotate_left; exact h9
  all_goals (cases r <;> rfl)
theorem eqB_lst_ss {e4 e5 e6 e8 : D} (h0 : S0 [some (.v a), some (.v b), some (.v (.nd .ow .lst W)), some (.v (.int k)), (some (.v e4)), (some (.v e5)), (some (.v e6)), none, (some (.v e8))] [] = .nx [some (.v a), some (.v b), some (.v (.nd .ow .lst W)), some (.v (.int k)), (some (.v e4)), (some (.v e5)), (some (.v e6)), none, (some (.v e8))] [])
    (h4 : S4 [some (.v a), some (.v b), some (.v (.nd .ow .lst W)), some (.v (.int k)), (some (.v e4)), (some (.v e5)), (some (.v e6)), none, (some (.v e8))] [] = .nx [some (.v a), some (.v b), some (.v (.nd .ow .lst W')), some (.v (.int k)), (some (.v (.tup [(.nd .fz .lst xs), (.nd .fz .lst xs)]))), (some (.v e5)), (some (.v e6)), none, (some (.v e8))] []) (hN : ∀ d ls gh, okD 60 d = true → NE (.v d) (.v d) ls gh = .ok (.v (.bl false)) ls gh)
    {r : SOut} (h9 : S9 [some (.v a), some (.v b), some (.v (.nd .ow .lst W')), some (.v (.int k)), (some (.v (.tup [(.nd .fz .lst xs), (.nd .fz .lst xs)]))), (some (.v (.nd .fz .lst xs))), (some (.v (.nd .fz .lst xs))), none, (some (.v e8))] [] = r) :
    eqB S0 S4 S9 NE WH [some (.v a), some (.v b), some (.v (.nd .ow .lst W)), some (.v (.int k)), (some (.v e4)), (some (.v e5)), (some (.v e6)), none, (some (.v e8))] [] = r := by
  unfold eqB
  have c0 : ∀ {ls gh r}, S0 ls gh = r → S0 ls gh = r := fun h => h
  have c4 : ∀ {ls gh r}, S4 ls gh = r → S4 ls gh = r := fun h => h
  have c9 : ∀ {ls gh r}, S9 ls gh = r → S9 ls gh = r := fun h => h
  have cN : ∀ {x y ls gh r}, NE x y ls gh = r → NE x y ls gh = r := fun h => h
  repeat (cbv; first | (rw [c0]; rotate_left; exact h0) | (rw [c4]; rotate_left; exact h4) | (rw [cN]; rotate_left; exact hN _ _ _ (by first | rfl | assumption)))
  first | cbv | skip
  rw [c9]; rotate_left; exact h9
  all_goals (cases r <;> rfl)
end
end VL
set_option Elab.async false
set_option linter.all false
set_option maxRecDepth 100000
set_option maxHeartbeats 1000000
namespace VL
open GL (PV OB Sto Nm BT lim)
open PySem (PyData)
abbrev pairD (d : D) : D := .tup [d, d]
abbrev LSq (a b : D) (W : List D) (z3 z4 z5 z6 z8 : Option V) : Ls := [some (.v a), some (.v b), some (.v (.nd .ow .lst W)), z3, z4, z5, z6, none, z8]
def okA (z : Option V) : Prop := z = none ∨ ∃ d, z = some (.v d)
theorem okA_killR {z : Option V} (h : okA z) (i : Nat) : killR i z = z := by
  rcases h with rfl | ⟨d, rfl⟩ <;> rfl
theorem okA_killD {z : Option V} (h : okA z) (t : List Nat → Bool) (r : Rt) (p : List Nat) : killD t r p z = z := by
  rcases h with rfl | ⟨d, rfl⟩ <;> rfl
theorem okA_v (d : D) : okA (some (.v d)) := .inr ⟨d, rfl⟩
section
variable {a b p : D} {W : List D} {z3 z4 z5 z6 z8 : Option V}
theorem lsq2 : eVar 2 (LSq a b W z3 z4 z5 z6 z8) [] = .ok (.pth (.l 2) []) (LSq a b W z3 z4 z5 z6 z8) [] := eVar_o rfl rfl
theorem lsqA : atD (LSq a b W z3 z4 z5 z6 z8) [] (.l 2) [] = some (.nd .ow .lst W) := atD_l rfl
theorem s0_done : (sIf (toT (eOp gEq (eB fLen (aCons (eVar 2) aNil)) (eC (.int 0)))) (sRet (eC (.bl true))) sNil) (LSq a b [] z3 z4 z5 z6 z8) [] = .rt (.bl true) [] := by
  have h := lsq2 (a := a) (b := b) (W := []) (z3 := z3) (z4 := z4) (z5 := z5) (z6 := z6) (z8 := z8)
  have h2 := f1Len_p (lsqA (a := a) (b := b) (W := []) (z3 := z3) (z4 := z4) (z5 := z5) (z6 := z6) (z8 := z8))
  simp only [LSq] at h h2
  simp [sIf_ap, h, h2, sRet_ap, retV]
theorem s0_ok (hw : W ≠ []) : (sIf (toT (eOp gEq (eB fLen (aCons (eVar 2) aNil)) (eC (.int 0)))) (sRet (eC (.bl true))) sNil) (LSq a b W z3 z4 z5 z6 z8) [] = .nx (LSq a b W z3 z4 z5 z6 z8) [] := by
  have h := lsq2 (a := a) (b := b) (W := W) (z3 := z3) (z4 := z4) (z5 := z5) (z6 := z6) (z8 := z8)
  have h2 := f1Len_p (lsqA (a := a) (b := b) (W := W) (z3 := z3) (z4 := z4) (z5 := z5) (z6 := z6) (z8 := z8))
  simp only [LSq] at h h2
  simp [sIf_ap, h, h2, hw]
theorem s4_ok (hp : p.shr = true) (h3 : okA z3) (h4 : okA z4) (h5 : okA z5) (h6 : okA z6) (h8 : okA z8) : (sSet 4 (eMt kList mPop (eVar 2) aNil)) (LSq a b (W ++ [p]) z3 z4 z5 z6 z8) [] = .nx (LSq a b W z3 (some (.v p)) z5 z6 z8) [] := by
  have h := lsq2 (a := a) (b := b) (W := W ++ [p]) (z3 := z3) (z4 := z4) (z5 := z5) (z6 := z6) (z8 := z8)
  have h2 := lsqA (a := a) (b := b) (W := W ++ [p]) (z3 := z3) (z4 := z4) (z5 := z5) (z6 := z6) (z8 := z8)
  have e : mPop (.pth (.l 2) []) [] (LSq a b (W ++ [p]) z3 z4 z5 z6 z8) [] = .ok (.v p) (LSq a b W z3 z4 z5 z6 z8) [] := by
    unfold mPop
    simp only [h2]
    rw [show (W ++ [p])[(W ++ [p]).length - 1]? = some p by simp]
    simp only [wroteV]
    rw [chD_l (d0 := .nd .ow .lst (W ++ [p])) rfl]
    simp [setP, modN, putV, okA_killD h3, okA_killD h4, okA_killD h5, okA_killD h6, okA_killD h8, LSq]
  simp only [LSq] at h h2 e
  simp [sSet_ap, eMt, h, val, h2, e, setL, stD, okA_killR h3, okA_killR h5, okA_killR h6, okA_killR h8]
theorem append_ok {q x : D} (hl : W.length < lim) (hq : q.shr = true) (h3 : okA z3) (h4 : okA z4) (h5 : okA z5) (h6 : okA z6) (h8 : okA z8) : mAppend (.pth (.l 2) []) [.v q] (LSq a b W z3 z4 z5 z6 z8) [] = .ok (.v .non) (LSq a b (W ++ [q]) z3 z4 z5 z6 z8) [] := by
  rw [mAppend_l (xs := W) rfl hl]
  simp [modN, putV, okA_killD h3, okA_killD h4, okA_killD h5, okA_killD h6, okA_killD h8, LSq]
theorem frz_self {d : D} (h : d.shr = true) : D.frz d = some d := by
  have := frzs_shr (xs := [d]) (by simp [h])
  unfold D.frzs at this
  cases e : D.frz d with
  | none => rw [e] at this; cases this
  | some y =>
    rw [e] at this
    simp [D.frzs] at this
    rw [this]
theorem s9_ok {d : D} {xs : List D} (hx : ∀ (i : Nat) (y : D), xs[i]? = some y → ∀ ls gh, gIx (.v d) (.v (.sc (.int (i : Int)))) ls gh = .ok (.v y) ls gh) (hn : ∀ ls gh, f1Len (.v d) ls gh = .ok (.v (.int (xs.length : Int))) ls gh) (hd : d.shr = true) (hs : xs.all D.shr = true)
    (hp : okA z4) (h3 : okA z3) (h8 : okA z8) (hl : W.length + xs.length < lim) : ∃ y8, okA y8 ∧
    (sFor (iR1 (eB fLen (aCons (eVar 6) aNil))) (gN 8)
      (sExpr (eMt kList mAppend (eVar 2) (aCons (eTup (aCons (eOp gIx (eVar 5) (eVar 8)) (aCons (eOp gIx (eVar 6) (eVar 8)) aNil))) aNil)))) (LSq a b W z3 z4 (some (.v d)) (some (.v d)) z8) [] = .nx (LSq a b (W ++ xs.map pairD) z3 z4 (some (.v d)) (some (.v d)) y8) [] := by
  have lim' : lim = 100000 := rfl
  have hr : iR1 (eB fLen (aCons (eVar 6) aNil)) (LSq a b W z3 z4 (some (.v d)) (some (.v d)) z8) [] = .ok (rngD 0 (xs.length : Int)) (LSq a b W z3 z4 (some (.v d)) (some (.v d)) z8) [] := by
    refine iR1_of ?_ (by omega)
    have e6 : eVar 6 (LSq a b W z3 z4 (some (.v d)) (some (.v d)) z8) [] = .ok (.v d) (LSq a b W z3 z4 (some (.v d)) (some (.v d)) z8) [] := eVar_v rfl hd
    simp only [LSq] at e6
    simp [e6, hn]
  rw [sFor_of hr, rng0]
  obtain ⟨ls', gh', e, y8, k8, rfl, rfl⟩ := forV_inv (g := gN 8) (body := (sExpr (eMt kList mAppend (eVar 2) (aCons (eTup (aCons (eOp gIx (eVar 5) (eVar 8)) (aCons (eOp gIx (eVar 6) (eVar 8)) aNil))) aNil)))) (fun i ls gh => ∃ y8, okA y8 ∧ ls = LSq a b (W ++ (xs.take i).map pairD) z3 z4 (some (.v d)) (some (.v d)) y8 ∧ gh = []) ((List.range xs.length).map fun (i : Nat) => D.int (i : Int)) 0 (LSq a b W z3 z4 (some (.v d)) (some (.v d)) z8) [] (fun j x ls gh hj => by
    rintro ⟨y8, k8, rfl, rfl⟩
    have hj' : j < xs.length := by
      have := (List.getElem?_eq_some_iff.mp hj).1
      simpa using this
    have hx' : x = .int (j : Int) := by
      rw [List.getElem?_map, List.getElem?_range hj'] at hj
      exact (Option.some.inj hj).symm
    subst hx'
    obtain ⟨y, hy⟩ : ∃ y, xs[j]? = some y := ⟨xs[j], List.getElem?_eq_getElem hj'⟩
    have hys : y.shr = true := List.all_eq_true.mp hs y (List.mem_of_getElem? hy)
    refine ⟨(LSq a b (W ++ (xs.take (0 + j)).map pairD) z3 z4 (some (.v d)) (some (.v d)) (some (.v (.int (j : Int)))), []), ?_, LSq a b (W ++ (xs.take (0 + j + 1)).map pairD) z3 z4 (some (.v d)) (some (.v d)) (some (.v (.int (j : Int)))), [], .inl ?_, _, okA_v _, rfl, rfl⟩
    · simp [gN, setL, stD, LSq, okA_killR h3, okA_killR hp]
    · dsimp only
      have W' : (W ++ (xs.take (0 + j)).map pairD).length < lim := by simp; omega
      have et : xs.take (0 + j + 1) = xs.take (0 + j) ++ [y] := by
        rw [Nat.zero_add, List.take_succ, hy]; rfl
      rw [et, List.map_append, ← List.append_assoc]
      generalize W ++ (xs.take (0 + j)).map pairD = WW at W' ⊢
      have ha := append_ok (a := a) (b := b) (W := WW) (q := pairD y) (x := y) (z3 := z3) (z4 := z4) (z5 := some (.v d)) (z6 := some (.v d)) (z8 := some (.v (.int (j : Int)))) W' rfl h3 hp (okA_v _) (okA_v _) (okA_v _)
      have h2 := lsq2 (a := a) (b := b) (W := WW) (z3 := z3) (z4 := z4) (z5 := some (.v d)) (z6 := some (.v d)) (z8 := some (.v (.int (j : Int))))
      have hA := lsqA (a := a) (b := b) (W := WW) (z3 := z3) (z4 := z4) (z5 := some (.v d)) (z6 := some (.v d)) (z8 := some (.v (.int (j : Int))))
      have e5 : eVar 5 (LSq a b WW z3 z4 (some (.v d)) (some (.v d)) (some (.v (.int (j : Int))))) [] = .ok (.v d) (LSq a b WW z3 z4 (some (.v d)) (some (.v d)) (some (.v (.int (j : Int))))) [] := eVar_v rfl hd
      have e6 : eVar 6 (LSq a b WW z3 z4 (some (.v d)) (some (.v d)) (some (.v (.int (j : Int))))) [] = .ok (.v d) (LSq a b WW z3 z4 (some (.v d)) (some (.v d)) (some (.v (.int (j : Int))))) [] := eVar_v rfl hd
      have e8 : eVar 8 (LSq a b WW z3 z4 (some (.v d)) (some (.v d)) (some (.v (.int (j : Int))))) [] = .ok (.v (.int (j : Int))) (LSq a b WW z3 z4 (some (.v d)) (some (.v d)) (some (.v (.int (j : Int))))) [] := eVar_v rfl rfl
      have eg := hx j y hy
      have ef := frz_self hys
      have lim2 : (2 : Nat) ≤ lim := by omega
      simp only [LSq] at ha h2 hA e5 e6 e8
      simp [sExpr_ap, eMt, h2, val, hA, eTup, e5, e6, e8, eg, cvL, cvR, ef, lim2, ha, pairD]) ⟨z8, h8, by simp, rfl⟩
  refine ⟨y8, k8, ?_⟩
  rw [e]
  simp
end
theorem sum_app (L M : List (Nat × D)) : ((L ++ M).map fun q => szD q.1 q.2).sum = (L.map fun q => szD q.1 q.2).sum + (M.map fun q => szD q.1 q.2).sum := by
  rw [List.map_append, List.sum_append]
theorem szD_pos (f : Nat) (d : D) : 1 ≤ szD f d := by
  cases f with
  | zero => exact Nat.le_refl 1
  | succ f => cases d <;> simp [szD] <;> omega
theorem len_le (L : List (Nat × D)) : L.length ≤ (L.map fun q => szD q.1 q.2).sum := by
  induction L with
  | nil => exact Nat.le_refl 0
  | cons q r ih => have := szD_pos q.1 q.2; simp; omega
theorem ne_ok : ∀ d ls gh, okD 60 d = true → gNe (.v d) (.v d) ls gh = .ok (.v (.bl false)) ls gh := fun d ls gh h => same_ok rfl rfl h
theorem whole_ok : ∀ i : Int, f_whole [.v (.int i)] [] = .ok (.bl true) [] := fun i => by kernel_rfl
def okZ (z4 z5 z6 : Option V) : Prop := (z4 = none ∧ z5 = none ∧ z6 = none) ∨ ∃ e4 e5 e6, z4 = some (.v e4) ∧ z5 = some (.v e5) ∧ z6 = some (.v e6)
theorem okZ4 {z4 z5 z6 : Option V} (h : okZ z4 z5 z6) : okA z4 ∧ okA z5 ∧ okA z6 := by
  rcases h with ⟨rfl, rfl, rfl⟩ | ⟨e4, e5, e6, rfl, rfl, rfl⟩
  · exact ⟨.inl rfl, .inl rfl, .inl rfl⟩
  · exact ⟨okA_v _, okA_v _, okA_v _⟩
theorem eq_run (a b : D) : ∀ (js : List D) (L : List (Nat × D)) (z3 z4 z5 z6 z8 : Option V), (∀ j ∈ js, ∃ i : Int, j = .int i) → okA z3 → okZ z4 z5 z6 → okA z8 → (∀ q ∈ L, plD q.1 q.2 = true) →
    (L.map fun q => szD q.1 q.2).sum < js.length → js.length ≤ 6000 → forV (gN 3) eqBody js (LSq a b (L.map fun q => pairD q.2) z3 z4 z5 z6 z8) [] = .rt (.bl true) []
  | [], L, z3, z4, z5, z6, z8, _, _, _, _, _, h, _ => absurd h (Nat.not_lt_zero _)
  | j :: r, L, z3, z4, z5, z6, z8, hj, h3, hz, h8, hL, hs, hn => by
    obtain ⟨k, rfl⟩ := hj j List.mem_cons_self
    have hr : ∀ j ∈ r, ∃ i : Int, j = .int i := fun j h => hj j (List.mem_cons_of_mem _ h)
    obtain ⟨h4, h5, h6⟩ := okZ4 hz
    have hg : gN 3 (.v (.int k)) (LSq a b (L.map fun q => pairD q.2) z3 z4 z5 z6 z8) [] = some (LSq a b (L.map fun q => pairD q.2) (some (.v (.int k))) z4 z5 z6 z8, []) := by
      simp [gN, setL, stD, LSq, okA_killR h4, okA_killR h5, okA_killR h6, okA_killR h8]
    rw [forV_cons hg]
    dsimp only
    rcases List.eq_nil_or_concat L with rfl | ⟨L', ⟨f, d⟩, rfl⟩
    · have e : eqBody (LSq a b ([].map fun (q : Nat × D) => pairD q.2) (some (.v (.int k))) z4 z5 z6 z8) [] = .rt (.bl true) [] := by
        unfold eqBody
        rw [sSeq_ap, List.map_nil, s0_done]; rfl
      rw [e]; rfl
    · rw [List.concat_eq_append] at hL hs ⊢
      have hd : plD f d = true := hL (f, d) (List.mem_append_right _ (List.mem_singleton.mpr rfl))
      have hL' : ∀ q ∈ L', plD q.1 q.2 = true := fun q hq => hL q (List.mem_append_left _ hq)
      rw [sum_app] at hs
      have hs1 : (L'.map fun q => szD q.1 q.2).sum + szD f d < r.length + 1 := by simpa using hs
      have hn1 : r.length + 1 ≤ 6000 := by simpa using hn
      have hWW : ((L' ++ [(f, d)]).map fun q => pairD q.2) = (L'.map fun q => pairD q.2) ++ [pairD d] := by simp
      rw [hWW]
      have e0 := s0_ok (a := a) (b := b) (W := (L'.map fun q => pairD q.2) ++ [pairD d]) (z3 := some (.v (.int k))) (z4 := z4) (z5 := z5) (z6 := z6) (z8 := z8) (by simp)
      have e4 := s4_ok (a := a) (b := b) (p := pairD d) (W := L'.map fun q => pairD q.2) (z3 := some (.v (.int k))) (z4 := z4) (z5 := z5) (z6 := z6) (z8 := z8) rfl (okA_v _) h4 h5 h6 h8
      have fin : ∀ y8, okA y8 → forV (gN 3) eqBody r (LSq a b (L'.map fun q => pairD q.2) (some (.v (.int k))) (some (.v (pairD d))) (some (.v d)) (some (.v d)) y8) [] = .rt (.bl true) [] := fun y8 hy =>
        eq_run a b r L' _ _ _ _ _ hr (okA_v _) (.inr ⟨_, _, _, rfl, rfl, rfl⟩) hy hL' (by have := szD_pos f d; omega) (by omega)
      have lim' : lim = 100000 := rfl
      have seq : ∀ xs : List D, (∀ x ∈ xs, plD (f - 1) x = true) → szD f d = 1 + (xs.map (szD (f - 1))).sum → (∀ (i : Nat) (y : D), xs[i]? = some y → ∀ ls gh, gIx (.v d) (.v (.sc (.int (i : Int)))) ls gh = .ok (.v y) ls gh) → (∀ ls gh, f1Len (.v d) ls gh = .ok (.v (.int (xs.length : Int))) ls gh) →
          (∀ R : SOut, (sFor (iR1 (eB fLen (aCons (eVar 6) aNil))) (gN 8)
      (sExpr (eMt kList mAppend (eVar 2) (aCons (eTup (aCons (eOp gIx (eVar 5) (eVar 8)) (aCons (eOp gIx (eVar 6) (eVar 8)) aNil))) aNil)))) (LSq a b (L'.map fun q => pairD q.2) (some (.v (.int k))) (some (.v (pairD d))) (some (.v d)) (some (.v d)) z8) [] = R → eqBody (LSq a b ((L'.map fun q => pairD q.2) ++ [pairD d]) (some (.v (.int k))) z4 z5 z6 z8) [] = R) →
          loopK (eqBody (LSq a b ((L'.map fun q => pairD q.2) ++ [pairD d]) (some (.v (.int k))) z4 z5 z6 z8) []) (forV (gN 3) eqBody r) = .rt (.bl true) [] := fun xs hx hsz hix hlen hB => by
        have hxs : xs.all D.shr = true := List.all_eq_true.mpr fun x hxm => plD_shr (hx x hxm)
        have hll := len_le L'
        have hxl : xs.length ≤ (xs.map (szD (f - 1))).sum := by
          have := len_le (xs.map fun x => (f - 1, x))
          simpa [Function.comp_def] using this
        obtain ⟨y8, k8, e9⟩ := s9_ok (a := a) (b := b) (d := d) (xs := xs) (W := L'.map fun q => pairD q.2) (z3 := some (.v (.int k))) (z4 := some (.v (pairD d))) (z8 := z8) hix hlen (plD_shr hd) hxs (okA_v _) (okA_v _) h8 (by rw [List.length_map]; omega)
        rw [hB _ e9, loopK_nx]
        have hm : (L'.map fun q => pairD q.2) ++ xs.map pairD = (L' ++ xs.map fun x => (f - 1, x)).map fun q => pairD q.2 := by simp [Function.comp_def]
        rw [hm]
        refine eq_run a b r (L' ++ xs.map fun x => (f - 1, x)) _ _ _ _ _ hr (okA_v _) (.inr ⟨_, _, _, rfl, rfl, rfl⟩) k8 (fun q hq => ?_) ?_ (by omega)
        · rcases List.mem_append.mp hq with h | h
          · exact hL' q h
          · obtain ⟨x, hx1, rfl⟩ := List.mem_map.mp h
            exact hx x hx1
        · rw [sum_app]
          have : ((xs.map fun x => (f - 1, x)).map fun (q : Nat × D) => szD q.1 q.2) = xs.map (szD (f - 1)) := by simp [Function.comp_def]
          rw [this]
          omega
      cases f with
      | zero => cases hd
      | succ f =>
        have big : ∀ {R : SOut}, eqB (sIf (toT (eOp gEq (eB fLen (aCons (eVar 2) aNil)) (eC (.int 0)))) (sRet (eC (.bl true))) sNil) (sSet 4 (eMt kList mPop (eVar 2) aNil)) (sFor (iR1 (eB fLen (aCons (eVar 6) aNil))) (gN 8)
            (sExpr (eMt kList mAppend (eVar 2) (aCons (eTup (aCons (eOp gIx (eVar 5) (eVar 8)) (aCons (eOp gIx (eVar 6) (eVar 8)) aNil))) aNil)))) gNe f_whole (LSq a b ((L'.map fun q => pairD q.2) ++ [pairD d]) (some (.v (.int k))) z4 z5 z6 z8) [] = R → eqBody (LSq a b ((L'.map fun q => pairD q.2) ++ [pairD d]) (some (.v (.int k))) z4 z5 z6 z8) [] = R := fun h => h
        cases d with
        | sc s =>
          have scal : ∀ {R : SOut}, R = .nx (LSq a b (L'.map fun q => pairD q.2) (some (.v (.int k))) (some (.v (pairD (.sc s)))) (some (.v (.sc s))) (some (.v (.sc s))) z8) [] → loopK R (forV (gN 3) eqBody r) = .rt (.bl true) [] := fun h => by
            rw [h, loopK_nx]; exact fin _ h8
          refine scal (big ?_)
          cases s with
          | non =>
            rcases hz with ⟨rfl, rfl, rfl⟩ | ⟨d4, d5, d6, rfl, rfl, rfl⟩ <;> rcases h8 with rfl | ⟨d8, rfl⟩
            · exact eqB_non_nn (e4 := .non) (e5 := .non) (e6 := .non) (e8 := .non) e0 e4 ne_ok whole_ok
            · exact eqB_non_ns (e4 := .non) (e5 := .non) (e6 := .non) e0 e4 ne_ok whole_ok
            · exact eqB_non_sn (e8 := .non) e0 e4 ne_ok whole_ok
            · exact eqB_non_ss e0 e4 ne_ok whole_ok
          | bl q =>
            rcases hz with ⟨rfl, rfl, rfl⟩ | ⟨d4, d5, d6, rfl, rfl, rfl⟩ <;> rcases h8 with rfl | ⟨d8, rfl⟩
            · exact eqB_bl_nn (e4 := .non) (e5 := .non) (e6 := .non) (e8 := .non) e0 e4 ne_ok whole_ok
            · exact eqB_bl_ns (e4 := .non) (e5 := .non) (e6 := .non) e0 e4 ne_ok whole_ok
            · exact eqB_bl_sn (e8 := .non) e0 e4 ne_ok whole_ok
            · exact eqB_bl_ss e0 e4 ne_ok whole_ok
          | int q =>
            rcases hz with ⟨rfl, rfl, rfl⟩ | ⟨d4, d5, d6, rfl, rfl, rfl⟩ <;> rcases h8 with rfl | ⟨d8, rfl⟩
            · exact eqB_int_nn (e4 := .non) (e5 := .non) (e6 := .non) (e8 := .non) e0 e4 ne_ok whole_ok
            · exact eqB_int_ns (e4 := .non) (e5 := .non) (e6 := .non) e0 e4 ne_ok whole_ok
            · exact eqB_int_sn (e8 := .non) e0 e4 ne_ok whole_ok
            · exact eqB_int_ss e0 e4 ne_ok whole_ok
          | str q =>
            have hq : okD 60 (.str q) = true := hd
            rcases hz with ⟨rfl, rfl, rfl⟩ | ⟨d4, d5, d6, rfl, rfl, rfl⟩ <;> rcases h8 with rfl | ⟨d8, rfl⟩
            · exact eqB_str_nn (e4 := .non) (e5 := .non) (e6 := .non) (e8 := .non) hq e0 e4 ne_ok whole_ok
            · exact eqB_str_ns (e4 := .non) (e5 := .non) (e6 := .non) hq e0 e4 ne_ok whole_ok
            · exact eqB_str_sn (e8 := .non) hq e0 e4 ne_ok whole_ok
            · exact eqB_str_ss hq e0 e4 ne_ok whole_ok
          | ty b => cases hd
          | gl x => cases hd
        | tup xs =>
          have hx : ∀ x ∈ xs, plD f x = true := fun x hx => List.all_eq_true.mp hd x hx
          refine seq xs hx rfl (fun i y hy ls gh => gIx_tup hy (plD_shr (hx y (List.mem_of_getElem? hy)))) (fun ls gh => rfl) fun R h9 => big ?_
          rcases hz with ⟨rfl, rfl, rfl⟩ | ⟨d4, d5, d6, rfl, rfl, rfl⟩ <;> rcases h8 with rfl | ⟨d8, rfl⟩
          · exact eqB_tup_nn (e4 := .non) (e5 := .non) (e6 := .non) (e8 := .non) e0 e4 ne_ok h9
          · exact eqB_tup_ns (e4 := .non) (e5 := .non) (e6 := .non) e0 e4 ne_ok h9
          · exact eqB_tup_sn (e8 := .non) e0 e4 ne_ok h9
          · exact eqB_tup_ss e0 e4 ne_ok h9
        | nd fl hd' xs =>
          cases fl with
          | fz =>
            cases hd' with
            | lst =>
              have hx : ∀ x ∈ xs, plD f x = true := fun x hx => List.all_eq_true.mp hd x hx
              refine seq xs hx rfl (fun i y hy ls gh => gIx_lst hy (plD_shr (hx y (List.mem_of_getElem? hy)))) (fun ls gh => rfl) fun R h9 => big ?_
              rcases hz with ⟨rfl, rfl, rfl⟩ | ⟨d4, d5, d6, rfl, rfl, rfl⟩ <;> rcases h8 with rfl | ⟨d8, rfl⟩
              · exact eqB_lst_nn (e4 := .non) (e5 := .non) (e6 := .non) (e8 := .non) e0 e4 ne_ok h9
              · exact eqB_lst_ns (e4 := .non) (e5 := .non) (e6 := .non) e0 e4 ne_ok h9
              · exact eqB_lst_sn (e8 := .non) e0 e4 ne_ok h9
              · exact eqB_lst_ss e0 e4 ne_ok h9
            | _ => cases hd
          | ow => cases hd' <;> cases hd
          | lk => cases hd' <;> cases hd
theorem equal_ok {f : Nat} {d : D} (h : plD f d = true) (hs : szD f d < 6000) : f_equal [.v d, .v d] [] = .ok (.bl true) [] := by
  refine fnOf_rt (gh := []) rfl ?_ rfl
  have hd := plD_shr h
  have ef := frz_self hd
  have e0 : ∀ l gh, eVar 0 (some (.v d) :: l) gh = .ok (.v d) (some (.v d) :: l) gh := fun l gh => eVar_v rfl hd
  have e1 : ∀ x l gh, eVar 1 (x :: some (.v d) :: l) gh = .ok (.v d) (x :: some (.v d) :: l) gh := fun x l gh => eVar_v rfl hd
  have l2 : (2 : Nat) ≤ lim := by decide
  have l1 : (1 : Nat) ≤ lim := by decide
  have es : (sSet 2 (eLst (aCons (eTup (aCons (eVar 0) (aCons (eVar 1) aNil))) aNil))) [some (.v d), some (.v d), none, none, none, none, none, none, none] [] = .nx (LSq d d [pairD d] none none none none none) [] := by
    simp [sSet_ap, eLst, eTup, e0, e1, cvL, cvR, ef, l2, l1, setL, stD, LSq, pairD, D.frz]
  show m_equal [some (.v d), some (.v d), none, none, none, none, none, none, none] [] = _
  unfold m_equal
  rw [sSeq_ap, es, seq_nx, sSeq_ap]
  have hr : iR1 (eC (.int 6000)) (LSq d d [pairD d] none none none none none) [] = .ok (rngD 0 (6000 : Nat)) (LSq d d [pairD d] none none none none none) [] := iR1_of (n := 6000) rfl (by decide)
  rw [sFor_of hr, rng0]
  have := eq_run d d ((List.range 6000).map fun (i : Nat) => D.int (i : Int)) [(f, d)] none none none none none (fun j hj => by
    obtain ⟨i, _, rfl⟩ := List.mem_map.mp hj
    exact ⟨_, rfl⟩) (.inl rfl) (.inl ⟨rfl, rfl, rfl⟩) (.inl rfl) (fun q hq => by
    rw [List.mem_singleton.mp hq]; exact h) (by simpa using hs) (by simp)
  rw [show [pairD d] = [(f, d)].map fun (q : Nat × D) => pairD q.2 from rfl, this]
  rfl
end VL
set_option Elab.async false
set_option linter.all false
set_option maxRecDepth 100000
set_option maxHeartbeats 1000000
namespace VL
open GL (PV OB Sto Nm BT lim)
theorem equal_from {f : Nat} {d : D} {a b : V} (h : plD f d = true) (hs : szD f d < 6000)
    (es : (sSet 2 (eLst (aCons (eTup (aCons (eVar 0) (aCons (eVar 1) aNil))) aNil))) [some a, some b, none, none, none, none, none, none, none] [] = .nx (LSq d d [pairD d] none none none none none) []) : f_equal [a, b] [] = .ok (.bl true) [] := by
  refine fnOf_rt (gh := []) rfl ?_ rfl
  show m_equal [some a, some b, none, none, none, none, none, none, none] [] = _
  unfold m_equal
  rw [sSeq_ap, es, seq_nx, sSeq_ap]
  have hr : iR1 (eC (.int 6000)) (LSq d d [pairD d] none none none none none) [] = .ok (rngD 0 (6000 : Nat)) (LSq d d [pairD d] none none none none none) [] := iR1_of (n := 6000) rfl (by decide)
  rw [sFor_of hr, rng0]
  have := eq_run d d ((List.range 6000).map fun (i : Nat) => D.int (i : Int)) [(f, d)] none none none none none (fun j hj => by
    obtain ⟨i, _, rfl⟩ := List.mem_map.mp hj
    exact ⟨_, rfl⟩) (.inl rfl) (.inl ⟨rfl, rfl, rfl⟩) (.inl rfl) (fun q hq => by
    rw [List.mem_singleton.mp hq]; exact h) (by simpa using hs) (by simp)
  rw [show [pairD d] = [(f, d)].map fun (q : Nat × D) => pairD q.2 from rfl, this]
  rfl
theorem set2_fo {xs ys : List D} (hz : D.frzs xs = some ys) : (sSet 2 (eLst (aCons (eTup (aCons (eVar 0) (aCons (eVar 1) aNil))) aNil))) [some (.v (.nd .fz .lst ys)), some (.v (.nd .ow .lst xs)), none, none, none, none, none, none, none] [] = .nx (LSq (.nd .fz .lst ys) (.nd .fz .lst ys) [pairD (.nd .fz .lst ys)] none none none none none) [] := by
  unfold D.frzs at hz
  cbv
  rw [hz]
  kernel_rfl
theorem set2_of {xs ys : List D} (hz : D.frzs xs = some ys) : (sSet 2 (eLst (aCons (eTup (aCons (eVar 0) (aCons (eVar 1) aNil))) aNil))) [some (.v (.nd .ow .lst xs)), some (.v (.nd .fz .lst ys)), none, none, none, none, none, none, none] [] = .nx (LSq (.nd .fz .lst ys) (.nd .fz .lst ys) [pairD (.nd .fz .lst ys)] none none none none none) [] := by
  unfold D.frzs at hz
  cbv
  rw [hz]
  kernel_rfl
theorem equal_fo {f : Nat} {xs ys : List D} (hz : D.frzs xs = some ys) (h : plD f (.nd .fz .lst ys) = true) (hs : szD f (.nd .fz .lst ys) < 6000) : f_equal [.v (.nd .fz .lst ys), .v (.nd .ow .lst xs)] [] = .ok (.bl true) [] := equal_from h hs (set2_fo hz)
theorem equal_of {f : Nat} {xs ys : List D} (hz : D.frzs xs = some ys) (h : plD f (.nd .fz .lst ys) = true) (hs : szD f (.nd .fz .lst ys) < 6000) : f_equal [.v (.nd .ow .lst xs), .v (.nd .fz .lst ys)] [] = .ok (.bl true) [] := equal_from h hs (set2_of hz)
end VL
set_option Elab.async false
set_option linter.all false
namespace K44.M
abbrev Nm := List Nat
abbrev bad : Nm := [98, 97, 100]
abbrev Row := Nm × Nm × Nm
abbrev Dt (α : Type) := List (Nm × α)
def get {α : Type} : Dt α → Nm → Option α
  | [], _ => none
  | q :: r, k => if q.1 = k then some q.2 else get r k
def put {α : Type} : Dt α → Nm → α → Dt α
  | [], k, v => [(k, v)]
  | q :: r, k, v => if q.1 = k then (q.1, v) :: r else q :: put r k v
theorem get_put {α : Type} (d : Dt α) (k : Nm) (v : α) (x : Nm) : get (put d k v) x = if k = x then some v else get d x := by
  induction d with
  | nil => rfl
  | cons q r ih =>
    unfold put
    by_cases h : q.1 = k
    · rw [if_pos h]
      unfold get
      by_cases h2 : k = x
      · rw [if_pos (h.trans h2), if_pos h2]
      · rw [if_neg (fun e => h2 (h.symm.trans e)), if_neg h2, if_neg (fun e => h2 (h.symm.trans e))]
    · rw [if_neg h]
      show (if q.1 = x then some q.2 else get (put r k v) x) = if k = x then some v else if q.1 = x then some q.2 else get r x
      rw [ih]
      by_cases h2 : q.1 = x
      · rw [if_pos h2, if_neg (fun e => h (h2.trans e.symm)), if_pos h2]
      · rw [if_neg h2, if_neg h2]
theorem get_mem {α : Type} {d : Dt α} {k : Nm} {v : α} (h : get d k = some v) : (k, v) ∈ d := by
  induction d with
  | nil => cases h
  | cons q r ih =>
    unfold get at h
    split at h
    · rename_i e
      cases h
      rw [← e]; exact List.mem_cons_self
    · exact List.mem_cons_of_mem _ (ih h)
theorem put_keys {α : Type} (d : Dt α) (k : Nm) (v : α) : ∀ x ∈ put d k v, x.1 = k ∨ x.1 ∈ d.map (·.1) := by
  induction d with
  | nil => intro x hx; rw [put, List.mem_singleton] at hx; rw [hx]; exact .inl rfl
  | cons q r ih =>
    intro x hx
    unfold put at hx
    split at hx
    · rcases List.mem_cons.mp hx with h | h
      · rw [h]; right; exact List.mem_cons_self
      · right; exact List.mem_cons_of_mem _ (List.mem_map_of_mem h)
    · rcases List.mem_cons.mp hx with h | h
      · rw [h]; right; exact List.mem_cons_self
      · rcases ih x h with h | h
        · exact .inl h
        · right; exact List.mem_cons_of_mem _ h
theorem nodup_sub {α : Type} [DecidableEq α] : ∀ {l m : List α}, l.Nodup → (∀ x ∈ l, x ∈ m) → l.length ≤ m.length
  | [], m, _, _ => Nat.zero_le _
  | a :: l, m, hn, hs => by
    have hn := List.nodup_cons.mp hn
    have ha : a ∈ m := hs a List.mem_cons_self
    have := nodup_sub (l := l) (m := m.erase a) hn.2 fun x hx => (List.mem_erase_of_ne (fun e => hn.1 (by rw [← e]; exact hx))).mpr (hs x (List.mem_cons_of_mem _ hx))
    rw [List.length_erase_of_mem ha] at this
    have := List.length_pos_of_mem ha
    rw [List.length_cons]; omega
def relax (d : Dt Nat) (r : Row) : Dt Nat := match get d r.2.2 with
  | none => d
  | some j => match get d r.1 with
    | none => put d r.1 (j + 1)
    | some i => if j + 1 < i then put d r.1 (j + 1) else d
def rounds (R : List Row) : Nat → Dt Nat → Dt Nat
  | 0, d => d
  | n + 1, d => rounds R n (R.foldl relax d)
def far (R : List Row) : Dt Nat := rounds R 14 [(bad, 0)]
theorem relax_cases (d : Dt Nat) (r : Row) : (relax d r = d ∧ ∀ j, get d r.2.2 = some j → ∃ i, i ≤ j + 1 ∧ get d r.1 = some i) ∨
    ∃ j, get d r.2.2 = some j ∧ relax d r = put d r.1 (j + 1) ∧ ∀ i, get d r.1 = some i → j + 1 < i := by
  unfold relax
  cases h : get d r.2.2 with
  | none => left; exact ⟨rfl, fun j e => by cases e⟩
  | some j =>
    dsimp only
    cases h2 : get d r.1 with
    | none => right; exact ⟨j, rfl, rfl, fun i e => by cases e⟩
    | some i =>
      dsimp only
      by_cases h3 : j + 1 < i
      · rw [if_pos h3]; right; exact ⟨j, rfl, rfl, fun i' e => by cases e; exact h3⟩
      · rw [if_neg h3]; left; exact ⟨rfl, fun j' e => by cases e; exact ⟨i, by omega, rfl⟩⟩
structure I0 (P : List Nm) (R : List Row) (d : Dt Nat) : Prop where
  b : get d bad = some 0
  z : ∀ s, get d s = some 0 → s = bad
  k : ∀ s v, get d s = some v → s = bad ∨ s ∈ P
  c : ∀ s v, get d s = some v → 0 < v → ∃ r ∈ R, r.1 = s ∧ ∃ j, get d r.2.2 = some j ∧ j < v
theorem I0.relax {P : List Nm} {R : List Row} {d : Dt Nat} (h : I0 P R d) (hR : ∀ r ∈ R, r.1 ≠ bad ∧ r.1 ∈ P) {r : Row} (hr : r ∈ R) : I0 P R (relax d r) := by
  rcases relax_cases d r with ⟨e, _⟩ | ⟨j, e1, e2, e3⟩
  · rw [e]; exact h
  · rw [e2]
    have ne : r.1 ≠ r.2.2 := fun e => by have := e3 j (e ▸ e1); omega
    refine ⟨?_, fun s hs => ?_, fun s v hs => ?_, fun s v hs hv => ?_⟩
    · rw [get_put, if_neg (hR r hr).1]; exact h.b
    · rw [get_put] at hs
      split at hs
      · cases hs
      · exact h.z s hs
    · rw [get_put] at hs
      split at hs
      · rename_i e; rw [← e]; exact .inr (hR r hr).2
      · exact h.k s v hs
    · rw [get_put] at hs
      split at hs
      · rename_i e
        cases hs
        exact ⟨r, hr, e, j, by rw [get_put, if_neg ne]; exact e1, Nat.lt_succ_self _⟩
      · obtain ⟨q, hq, e, i, hi, hl⟩ := h.c s v hs hv
        refine ⟨q, hq, e, ?_⟩
        rw [get_put]
        split
        · rename_i e4
          have := e3 i (e4 ▸ hi)
          exact ⟨j + 1, rfl, by omega⟩
        · exact ⟨i, hi, hl⟩
def Ak (R : List Row) (k : Nat) (d : Dt Nat) : Prop := ∀ r ∈ R, ∀ j, get d r.2.2 = some j → j < k → ∃ i, i ≤ j + 1 ∧ get d r.1 = some i
theorem round_ok {P : List Nm} {R : List Row} {d0 : Dt Nat} {k : Nat} (hR : ∀ r ∈ R, r.1 ≠ bad ∧ r.1 ∈ P) (hA : Ak R k d0) : ∀ (l pre : List Row) (d : Dt Nat), (∀ r ∈ l, r ∈ R) → I0 P R d →
    (∀ s v, get d s = some v → v ≤ k → get d0 s = some v) → (∀ s v, get d0 s = some v → ∃ w, w ≤ v ∧ get d s = some w) →
    (∀ r ∈ pre, ∀ j, get d r.2.2 = some j → j ≤ k → ∃ i, i ≤ j + 1 ∧ get d r.1 = some i) →
    I0 P R (l.foldl relax d) ∧ ∀ r ∈ pre ++ l, ∀ j, get (l.foldl relax d) r.2.2 = some j → j ≤ k → ∃ i, i ≤ j + 1 ∧ get (l.foldl relax d) r.1 = some i
  | [], pre, d, _, h0, h1, h2, h3 => ⟨h0, by rw [List.append_nil]; exact h3⟩
  | r :: l, pre, d, hl, h0, h1, h2, h3 => by
    have hr : r ∈ R := hl r List.mem_cons_self
    have go := round_ok hR hA l (pre ++ [r]) (relax d r) (fun q hq => hl q (List.mem_cons_of_mem _ hq)) (h0.relax hR hr)
    rw [List.append_assoc] at go
    rw [List.foldl_cons]
    rcases relax_cases d r with ⟨e, e1⟩ | ⟨j, e1, e2, e3⟩
    · rw [e] at go ⊢
      refine go h1 h2 fun q hq j hj hk => ?_
      rcases List.mem_append.mp hq with hq | hq
      · exact h3 q hq j hj hk
      · rw [List.mem_singleton.mp hq] at hj ⊢
        exact e1 j hj
    · have big : k < j + 1 := Nat.lt_of_not_le fun hle => by
        obtain ⟨i, hi, hb⟩ := hA r hr j (h1 _ _ e1 (by omega)) (by omega)
        obtain ⟨w, hw, hb2⟩ := h2 _ _ hb
        have := e3 w hb2
        omega
      have ne : r.1 ≠ r.2.2 := fun e => by have := e3 j (e ▸ e1); omega
      rw [e2] at go ⊢
      refine go (fun s v hs hv => ?_) (fun s v hs => ?_) fun q hq j' hj hk => ?_
      · rw [get_put] at hs
        split at hs
        · cases hs; omega
        · exact h1 s v hs hv
      · obtain ⟨w, hw, hb⟩ := h2 s v hs
        rw [get_put]
        split
        · rename_i e
          have := e3 w (e ▸ hb)
          exact ⟨j + 1, by omega, rfl⟩
        · exact ⟨w, hw, hb⟩
      · rw [get_put] at hj
        split at hj
        · cases hj; omega
        · rename_i hne
          rcases List.mem_append.mp hq with hq | hq
          · obtain ⟨i, hi, hb⟩ := h3 q hq j' hj hk
            rw [get_put]
            split
            · rename_i e
              have := e3 i (e ▸ hb)
              exact ⟨j + 1, by omega, rfl⟩
            · exact ⟨i, hi, hb⟩
          · rw [List.mem_singleton.mp hq] at hj hne ⊢
            rw [e1] at hj
            cases hj
            exact ⟨j + 1, Nat.le_refl _, by rw [get_put, if_pos rfl]⟩
theorem rounds_ok {P : List Nm} {R : List Row} (hR : ∀ r ∈ R, r.1 ≠ bad ∧ r.1 ∈ P) : ∀ (n k : Nat) (d : Dt Nat), I0 P R d → Ak R k d → I0 P R (rounds R n d) ∧ Ak R (k + n) (rounds R n d)
  | 0, k, d, h, a => ⟨h, a⟩
  | n + 1, k, d, h, a => by
    obtain ⟨h1, h2⟩ := round_ok hR a R [] d (fun r h => h) h (fun s v hs _ => hs) (fun s v hs => ⟨v, Nat.le_refl _, hs⟩) (fun r hr => by cases hr)
    have := rounds_ok hR n (k + 1) _ h1 (fun r hr j hj hk => h2 r hr j hj (by omega))
    rw [show k + (n + 1) = k + 1 + n by omega]
    exact this
structure Far (R : List Row) (F : Nm → Option Nat) : Prop where
  b : F bad = some 0
  z : ∀ s, F s = some 0 → s = bad
  le : ∀ r ∈ R, ∀ j, F r.2.2 = some j → ∃ i, i ≤ j + 1 ∧ F r.1 = some i
  ex : ∀ s j, F s = some (j + 1) → ∃ r ∈ R, r.1 = s ∧ F r.2.2 = some j
theorem far_both {P : List Nm} {R : List Row} (hP : P.length ≤ 13) (hR : ∀ r ∈ R, r.1 ≠ bad ∧ r.1 ∈ P) : Far R (get (far R)) ∧ ∀ s v, get (far R) s = some v → v ≤ 13 := by
  have s0 : ∀ s v, get [(bad, 0)] s = some v → s = bad ∧ v = 0 := fun s v hs => by
    unfold get at hs
    split at hs
    · rename_i e; cases hs; exact ⟨e.symm, rfl⟩
    · cases hs
  obtain ⟨h, a⟩ := rounds_ok hR 14 0 [(bad, 0)] ⟨rfl, fun s hs => (s0 s _ hs).1, fun s v hs => .inl (s0 s v hs).1, fun s v hs hv => by have := (s0 s v hs).2; omega⟩ (fun r hr j hj hk => absurd hk (Nat.not_lt_zero _))
  rw [Nat.zero_add] at a
  have h : I0 P R (far R) := h
  have a : Ak R 14 (far R) := a
  have dn : ∀ n, n < 14 → (∃ s, get (far R) s = some (n + 1)) → ∃ s, get (far R) s = some n := fun n hn ⟨s, hs⟩ => by
    obtain ⟨r, hr, e, j, hj, hl⟩ := h.c s _ hs (Nat.succ_pos _)
    obtain ⟨i, hi, hb⟩ := a r hr j hj (by omega)
    rw [e, hs] at hb; cases hb
    have : j = n := by omega
    exact ⟨r.2.2, this ▸ hj⟩
  have dn2 : (∃ s, get (far R) s = some 14) → ∀ m n, n + m = 14 → ∃ s, get (far R) s = some n := fun h14 m => by
    induction m with
    | zero => intro n hn; have : n = 14 := hn; exact this ▸ h14
    | succ m ih => intro n hn; exact dn n (by omega) (ih (n + 1) (by omega))
  have no14 : ¬ ∃ s, get (far R) s = some 14 := fun h14 => by
    have all : ∀ n : Nat, ∃ s, n ≤ 14 → get (far R) s = some n := fun n => by
      by_cases hn : n ≤ 14
      · obtain ⟨s, hs⟩ := dn2 h14 (14 - n) n (by omega); exact ⟨s, fun _ => hs⟩
      · exact ⟨[], fun h => absurd h hn⟩
    have hf : ∃ f : Nat → Nm, ∀ n ≤ 14, get (far R) (f n) = some n := ⟨fun n => (all n).choose, fun n hn => (all n).choose_spec hn⟩
    obtain ⟨f, hf⟩ := hf
    have nd : ((List.range 15).map f).Nodup := by
      unfold List.Nodup
      rw [List.pairwise_map]
      refine List.Pairwise.imp_of_mem ?_ (List.nodup_range (n := 15))
      intro x y hx hy hne e
      have hx := List.mem_range.mp hx
      have hy := List.mem_range.mp hy
      have h1 := hf x (by omega)
      have h2 := hf y (by omega)
      rw [e, h2] at h1
      exact hne (Option.some.inj h1).symm
    have := nodup_sub (m := bad :: P) nd fun x hx => by
      obtain ⟨n, hn, rfl⟩ := List.mem_map.mp hx
      rcases h.k _ _ (hf n (by have := List.mem_range.mp hn; omega)) with e | e
      · rw [e]; exact List.mem_cons_self
      · exact List.mem_cons_of_mem _ e
    rw [List.length_map, List.length_range, List.length_cons] at this
    omega
  have no : ∀ v, ∀ s, get (far R) s = some v → v ≤ 13 := fun v => by
    induction v using Nat.strongRecOn with
    | ind v ih =>
      intro s hs
      refine Nat.le_of_not_lt fun hv => ?_
      obtain ⟨r, hr, e, j, hj, hl⟩ := h.c s v hs (by omega)
      have hj13 := ih j hl _ hj
      obtain ⟨i, hi, hb⟩ := a r hr j hj (by omega)
      rw [e, hs] at hb; cases hb
      have : v = 14 := by omega
      exact no14 ⟨s, this ▸ hs⟩
  have le : ∀ r ∈ R, ∀ j, get (far R) r.2.2 = some j → ∃ i, i ≤ j + 1 ∧ get (far R) r.1 = some i := fun r hr j hj => a r hr j hj (by have := no _ _ hj; omega)
  refine ⟨⟨h.b, h.z, le, fun s j hs => ?_⟩, fun s v hs => no v s hs⟩
  obtain ⟨r, hr, e, i, hi, hl⟩ := h.c s _ hs (Nat.succ_pos _)
  obtain ⟨w, hw, hb⟩ := le r hr i hi
  rw [e, hs] at hb; cases hb
  have : i = j := by omega
  exact ⟨r, hr, e, this ▸ hi⟩
theorem far_ok {P : List Nm} {R : List Row} (hP : P.length ≤ 13) (hR : ∀ r ∈ R, r.1 ≠ bad ∧ r.1 ∈ P) : Far R (get (far R)) := (far_both hP hR).1
theorem far_le {P : List Nm} {R : List Row} (hP : P.length ≤ 13) (hR : ∀ r ∈ R, r.1 ≠ bad ∧ r.1 ∈ P) : ∀ s v, get (far R) s = some v → v ≤ 13 := (far_both hP hR).2
end K44.M
set_option Elab.async false
set_option linter.all false
namespace K44.M
def mv (R : List Row) (s : Nm) : List (Nm × Nm) := R.filterMap fun r => if r.1 = s then some r.2 else none
theorem mem_mv {R : List Row} {s : Nm} {q : Nm × Nm} : q ∈ mv R s ↔ (s, q) ∈ R := by
  unfold mv
  rw [List.mem_filterMap]
  constructor
  · rintro ⟨r, hr, e⟩
    split at e
    · rename_i h; cases e; rw [← h]; exact hr
    · cases e
  · exact fun h => ⟨_, h, if_pos rfl⟩
def nxt (F : Nm → Option Nat) (R : List Row) (n : Nat) (s : Nm) : Option (Nm × Nm) := (mv R s).find? fun p => decide (F p.2 = some n)
def W (F : Nm → Option Nat) (R : List Row) : Nat → Nm → List Nm
  | 0, _ => []
  | n + 1, s => match nxt F R n s with
    | some p => p.1 :: W F R n p.2
    | none => []
theorem W_of {F : Nm → Option Nat} {R : List Row} {n : Nat} {s : Nm} {p : Nm × Nm} (h : nxt F R n s = some p) : W F R (n + 1) s = p.1 :: W F R n p.2 := by
  show (match nxt F R n s with | some p => p.1 :: W F R n p.2 | none => []) = _
  rw [h]
abbrev Ws := List (Nm × List Nm)
def keys (ws : Ws) : List Nm := ws.map (·.1)
def inner (wp : List Nm) : List (Nm × Nm) → Ws → List Nm ⊕ Ws
  | [], ws => .inr ws
  | p :: r, ws => if p.2 = bad then .inl (wp ++ [p.1]) else inner wp r (if p.2 ∈ keys ws then ws else ws ++ [(p.2, wp ++ [p.1])])
def bfs (R : List Row) : Nat → Nat → Ws → Option (List Nm)
  | 0, _, _ => none
  | n + 1, p, ws => match ws[p]? with
    | none => none
    | some q => match inner q.2 (mv R q.1) ws with
      | .inl l => some l
      | .inr ws => bfs R n (p + 1) ws
section
variable {F : Nm → Option Nat} {R : List Row} {D : Nat} {s0 : Nm}
def tight (F : Nm → Option Nat) (D : Nat) (q : Nm × List Nm) : Bool := decide (F q.1 = some (D - q.2.length)) && decide (q.2.length ≤ D)
theorem tight_iff {q : Nm × List Nm} : tight F D q = true ↔ ∃ j, F q.1 = some j ∧ q.2.length + j = D := by
  unfold tight
  rw [Bool.and_eq_true, decide_eq_true_iff, decide_eq_true_iff]
  constructor
  · exact fun ⟨h, l⟩ => ⟨_, h, by omega⟩
  · exact fun ⟨j, h, e⟩ => ⟨by rw [h]; congr 1; omega, by omega⟩
def Fit (F : Nm → Option Nat) (R : List Row) (D : Nat) (s0 : Nm) (o : Option (Nm × List Nm)) : Prop := ∃ t j, o = some t ∧ F t.1 = some j ∧ t.2.length + j = D ∧ W F R D s0 = t.2 ++ W F R j t.1
structure BI (F : Nm → Option Nat) (R : List Row) (D : Nat) (s0 : Nm) (P : List Nm) (l : Nat) (A Q1 Q2 : Ws) : Prop where
  la : ∀ q ∈ A, q.2.length ≤ l
  l1 : ∀ q ∈ Q1, q.2.length = l
  l2 : ∀ q ∈ Q2, q.2.length = l + 1
  tri : ∀ q ∈ A ++ (Q1 ++ Q2), ∀ j, F q.1 = some j → D ≤ q.2.length + j
  nb : ∀ q ∈ A ++ (Q1 ++ Q2), q.1 ≠ bad
  nd : (keys (A ++ (Q1 ++ Q2))).Nodup
  kP : ∀ q ∈ A ++ (Q1 ++ Q2), q.1 ∈ P
theorem keys_mem {ws : Ws} {k : Nm} (h : k ∈ keys ws) : ∃ w, (k, w) ∈ ws := by
  obtain ⟨q, hq, rfl⟩ := List.mem_map.mp h
  exact ⟨q.2, hq⟩
theorem nd_add {ws : Ws} {k : Nm} {w : List Nm} (h : (keys ws).Nodup) (hk : k ∉ keys ws) : (keys (ws ++ [(k, w)])).Nodup := by
  unfold keys at *
  rw [List.map_append]
  refine List.nodup_append.mpr ⟨h, by simp, fun a ha b hb e => ?_⟩
  rw [List.map_cons, List.map_nil, List.mem_singleton] at hb
  exact hk ((show a = k from e.trans hb) ▸ ha)
theorem inner_ok {P : List Nm} (hF : Far R F) (hRP : ∀ r ∈ R, r.2.2 = bad ∨ r.2.2 ∈ P) {l : Nat} {A Q1 : Ws} {q : Nm × List Nm} (hq : q.2.length = l) : ∀ (ms pre : List (Nm × Nm)) (Q2 : Ws), pre ++ ms = mv R q.1 → (∀ p ∈ pre, p.2 ≠ bad) → BI F R D s0 P l A (q :: Q1) Q2 →
    (Fit F R D s0 (Q2.find? (tight F D)) ∨ (Q2.find? (tight F D) = none ∧ Fit F R D s0 ((q :: Q1).find? (tight F D)) ∧ ∀ j, F q.1 = some (j + 1) → q.2.length + (j + 1) = D → ∀ p ∈ pre, F p.2 ≠ some j)) →
    (∃ x, inner q.2 ms (A ++ ((q :: Q1) ++ Q2)) = .inl x ∧ x = W F R D s0) ∨
      ∃ Q2', inner q.2 ms (A ++ ((q :: Q1) ++ Q2)) = .inr (A ++ ((q :: Q1) ++ Q2')) ∧ BI F R D s0 P l A (q :: Q1) Q2' ∧ Fit F R D s0 ((Q2' ++ Q1).find? (tight F D))
  | [], pre, Q2, hm, hb, B, h => by
    refine .inr ⟨Q2, rfl, B, ?_⟩
    rw [List.append_nil] at hm
    rw [List.find?_append]
    rcases h with ⟨t, j, e, h⟩ | ⟨e, ⟨t, j, e2, h1, h2, h3⟩, hn⟩
    · rw [e]; exact ⟨t, j, rfl, h⟩
    · rw [e, Option.none_or]
      rw [List.find?_cons] at e2
      split at e2
      · rename_i ht
        obtain ⟨i, hi, hl⟩ := tight_iff.mp ht
        have hi0 : i ≠ 0 := fun e => B.nb q (List.mem_append_right _ (List.mem_append_left _ List.mem_cons_self)) (hF.z _ (e ▸ hi))
        obtain ⟨k, rfl⟩ : ∃ k, i = k + 1 := ⟨i - 1, by omega⟩
        obtain ⟨r, hr, er, hk⟩ := hF.ex _ _ hi
        exact absurd hk (hn k hi hl r.2 (hm ▸ mem_mv.mpr (by rw [← er]; exact hr)))
      · exact ⟨t, j, e2, h1, h2, h3⟩
  | p :: ms, pre, Q2, hm, hb, B, h => by
    have hp : p ∈ mv R q.1 := by rw [← hm]; exact List.mem_append_right _ List.mem_cons_self
    have hpR := mem_mv.mp hp
    have hqm : q ∈ A ++ ((q :: Q1) ++ Q2) := List.mem_append_right _ (List.mem_append_left _ List.mem_cons_self)
    unfold inner
    by_cases hbad : p.2 = bad
    · rw [if_pos hbad]
      refine .inl ⟨_, rfl, ?_⟩
      obtain ⟨i, hi, hq1⟩ := hF.le _ hpR 0 (by show F p.2 = _; rw [hbad]; exact hF.b)
      have hi1 : i = 1 := by
        have : i ≠ 0 := fun e => B.nb q hqm (hF.z _ (e ▸ hq1))
        omega
      subst hi1
      have hD := B.tri q hqm 1 hq1
      have no2 : ∀ t ∈ Q2, ¬ tight F D t = true := fun t ht hh => by
        obtain ⟨j, hj, hl⟩ := tight_iff.mp hh
        have := B.l2 t ht
        have : j = 0 := by omega
        exact B.nb t (List.mem_append_right _ (List.mem_append_right _ ht)) (hF.z _ (this ▸ hj))
      have e2 : Q2.find? (tight F D) = none := List.find?_eq_none.mpr no2
      rcases h with ⟨t, j, e, h⟩ | ⟨_, ⟨t, j, e, h1, h2, h3⟩, hn⟩
      · rw [e2] at e; cases e
      · have ht := List.mem_of_find?_eq_some e
        have hl := B.l1 t ht
        have hj0 : j ≠ 0 := fun e => B.nb t (List.mem_append_right _ (List.mem_append_left _ ht)) (hF.z _ (e ▸ h1))
        have hqt : tight F D q = true := tight_iff.mpr ⟨1, hq1, by omega⟩
        rw [List.find?_cons_of_pos hqt] at e
        cases e
        rw [hq1] at h1; cases h1
        rw [h3]
        congr 1
        refine ((W_of (n := 0) (p := p) ?_).trans rfl).symm
        unfold nxt
        rw [← hm, List.find?_append]
        have : pre.find? (fun p => decide (F p.2 = some 0)) = none := List.find?_eq_none.mpr fun x hx hh => hb x hx (hF.z _ (of_decide_eq_true hh))
        rw [this, Option.none_or, List.find?_cons_of_pos (by rw [hbad]; exact decide_eq_true hF.b)]
    · rw [if_neg hbad]
      have hp2 : p.2 ∈ P := (hRP _ hpR).resolve_left hbad
      have fq : ∀ j, F p.2 = some j → ∃ i, i ≤ j + 1 ∧ F q.1 = some i := fun j hj => hF.le _ hpR j hj
      by_cases hk : p.2 ∈ keys (A ++ ((q :: Q1) ++ Q2))
      · rw [if_pos hk]
        refine inner_ok hF hRP hq ms (pre ++ [p]) Q2 (by rw [← hm, List.append_assoc]; rfl) (fun x hx => ?_) B ?_
        · rcases List.mem_append.mp hx with hx | hx
          · exact hb x hx
          · rw [List.mem_singleton.mp hx]; exact hbad
        · rcases h with h | ⟨e, h, hn⟩
          · exact .inl h
          · refine .inr ⟨e, h, fun j h1 h2 x hx => ?_⟩
            rcases List.mem_append.mp hx with hx | hx
            · exact hn j h1 h2 x hx
            · rw [List.mem_singleton.mp hx]
              intro hj
              obtain ⟨w, hw⟩ := keys_mem hk
              have t := B.tri _ hw j hj
              have t : D ≤ w.length + j := t
              rcases List.mem_append.mp hw with hw | hw
              · have := B.la _ hw; simp only at this; omega
              · rcases List.mem_append.mp hw with hw | hw
                · have := B.l1 _ hw; simp only at this; omega
                · have h5 := B.l2 _ hw
                  simp only at h5
                  exact List.find?_eq_none.mp e _ hw (tight_iff.mpr ⟨j, hj, by simp only; omega⟩)
      · rw [if_neg hk]
        have app : A ++ ((q :: Q1) ++ Q2) ++ [(p.2, q.2 ++ [p.1])] = A ++ ((q :: Q1) ++ (Q2 ++ [(p.2, q.2 ++ [p.1])])) := by simp
        rw [app]
        have mem : ∀ x ∈ A ++ ((q :: Q1) ++ (Q2 ++ [(p.2, q.2 ++ [p.1])])), x ∈ A ++ ((q :: Q1) ++ Q2) ∨ x = (p.2, q.2 ++ [p.1]) := fun x hx => by
          rw [← app] at hx
          rcases List.mem_append.mp hx with hx | hx
          · exact .inl hx
          · exact .inr (List.mem_singleton.mp hx)
        refine inner_ok hF hRP hq ms (pre ++ [p]) _ (by rw [← hm, List.append_assoc]; rfl) (fun x hx => ?_) ⟨B.la, B.l1, fun x hx => ?_, fun x hx j hj => ?_, fun x hx => ?_, ?_, fun x hx => ?_⟩ ?_
        · rcases List.mem_append.mp hx with hx | hx
          · exact hb x hx
          · rw [List.mem_singleton.mp hx]; exact hbad
        · rcases List.mem_append.mp hx with hx | hx
          · exact B.l2 x hx
          · rw [List.mem_singleton.mp hx]; simp [hq]
        · rcases mem x hx with hx | hx
          · exact B.tri x hx j hj
          · subst hx
            obtain ⟨i, hi, h1⟩ := fq j hj
            have := B.tri q hqm i h1
            simp only [List.length_append, List.length_singleton]; omega
        · rcases mem x hx with hx | hx
          · exact B.nb x hx
          · subst hx; exact hbad
        · rw [← app]; exact nd_add B.nd hk
        · rcases mem x hx with hx | hx
          · exact B.kP x hx
          · subst hx; exact hp2
        · rcases h with ⟨t, j, e, h⟩ | ⟨e, h, hn⟩
          · left
            rw [List.find?_append, e]
            exact ⟨t, j, rfl, h⟩
          · by_cases ht : tight F D (p.2, q.2 ++ [p.1]) = true
            · left
              rw [List.find?_append, e, Option.none_or, List.find?_cons_of_pos ht]
              obtain ⟨j, hj, hl⟩ := tight_iff.mp ht
              simp only [List.length_append, List.length_singleton] at hl hj
              obtain ⟨i, hi, h1⟩ := fq j hj
              have := B.tri q hqm i h1
              have hij : i = j + 1 := by omega
              subst hij
              obtain ⟨t, j', e1, g1, g2, g3⟩ := h
              rw [List.find?_cons_of_pos (tight_iff.mpr ⟨_, h1, by omega⟩)] at e1
              cases e1
              rw [h1] at g1; cases g1
              refine ⟨_, j, rfl, hj, by simp only [List.length_append, List.length_singleton]; omega, ?_⟩
              rw [g3, List.append_assoc]
              congr 1
              refine (W_of (p := p) ?_)
              unfold nxt
              rw [← hm, List.find?_append]
              have : pre.find? (fun p => decide (F p.2 = some j)) = none := List.find?_eq_none.mpr fun x hx hh => hn j h1 g2 x hx (of_decide_eq_true hh)
              rw [this, Option.none_or]
              exact List.find?_cons_of_pos (p := fun p : Nm × Nm => decide (F p.2 = some j)) (decide_eq_true hj)
            · right
              refine ⟨by rw [List.find?_append, e, Option.none_or, List.find?_cons_of_neg ht]; rfl, h, fun j h1 h2 x hx => ?_⟩
              rcases List.mem_append.mp hx with hx | hx
              · exact hn j h1 h2 x hx
              · rw [List.mem_singleton.mp hx]
                exact fun hj => ht (tight_iff.mpr ⟨j, hj, by simp only [List.length_append, List.length_singleton]; omega⟩)
theorem bfs_ok {P : List Nm} (hP : P.length ≤ 13) (hF : Far R F) (hRP : ∀ r ∈ R, r.2.2 = bad ∨ r.2.2 ∈ P) : ∀ (n l : Nat) (A Q1 Q2 : Ws), A.length + n = 15 → BI F R D s0 P l A Q1 Q2 → Fit F R D s0 ((Q2 ++ Q1).find? (tight F D)) → bfs R n A.length (A ++ (Q1 ++ Q2)) = some (W F R D s0)
  | 0, l, A, Q1, Q2, hn, B, h => by
    have := nodup_sub B.nd fun x hx => by
      obtain ⟨w, hw⟩ := keys_mem hx
      exact B.kP _ hw
    simp [keys] at this
    omega
  | n + 1, l, A, [], Q2, hn, B, h => by
    cases Q2 with
    | nil => obtain ⟨t, j, e, _⟩ := h; cases e
    | cons q Q2 =>
      have B' : BI F R D s0 P (l + 1) A (q :: Q2) [] := by
        have e : A ++ (q :: Q2 ++ []) = A ++ ([] ++ q :: Q2) := by simp
        exact ⟨fun x hx => Nat.le_succ_of_le (B.la x hx), B.l2, (fun x hx => by cases hx), e ▸ B.tri, e ▸ B.nb, e ▸ B.nd, e ▸ B.kP⟩
      rw [List.append_nil] at h
      rcases inner_ok hF hRP (B'.l1 q List.mem_cons_self) (mv R q.1) [] [] rfl (fun p hp => by cases hp) B' (.inr ⟨rfl, h, fun j _ _ p hp => by cases hp⟩) with ⟨x, e, rfl⟩ | ⟨Q2', e, B2, f⟩
      · unfold bfs
        rw [List.append_nil] at e
        rw [List.getElem?_append_right (Nat.le_refl _), Nat.sub_self]
        show (match inner q.2 (mv R q.1) (A ++ (q :: Q2)) with | .inl l => some l | .inr ws => bfs R n (A.length + 1) ws) = _
        rw [e]
      · unfold bfs
        rw [List.append_nil] at e
        rw [List.getElem?_append_right (Nat.le_refl _), Nat.sub_self]
        show (match inner q.2 (mv R q.1) (A ++ (q :: Q2)) with | .inl l => some l | .inr ws => bfs R n (A.length + 1) ws) = _
        rw [e]
        have e3 : A ++ (q :: Q2 ++ Q2') = (A ++ [q]) ++ (Q2 ++ Q2') := by simp
        have := bfs_ok hP hF hRP n (l + 1) (A ++ [q]) Q2 Q2' (by simp; omega) ⟨fun x hx => ?_, fun x hx => B2.l1 x (List.mem_cons_of_mem _ hx), B2.l2, e3 ▸ B2.tri, e3 ▸ B2.nb, e3 ▸ B2.nd, e3 ▸ B2.kP⟩ f
        · rw [List.length_append] at this
          rw [e3]; exact this
        · rcases List.mem_append.mp hx with hx | hx
          · exact B2.la x hx
          · rw [List.mem_singleton.mp hx]; exact Nat.le_of_eq (B2.l1 q List.mem_cons_self)
  | n + 1, l, A, q :: Q1, Q2, hn, B, h => by
    have hh : Fit F R D s0 (Q2.find? (tight F D)) ∨ (Q2.find? (tight F D) = none ∧ Fit F R D s0 ((q :: Q1).find? (tight F D))) := by
      rw [List.find?_append] at h
      cases e : Q2.find? (tight F D) with
      | some t => rw [e] at h; exact .inl h
      | none => rw [e] at h; exact .inr ⟨rfl, h⟩
    rcases inner_ok hF hRP (B.l1 q List.mem_cons_self) (mv R q.1) [] Q2 rfl (fun p hp => by cases hp) B (hh.imp id fun h => ⟨h.1, h.2, fun j _ _ p hp => by cases hp⟩) with ⟨x, e, rfl⟩ | ⟨Q2', e, B2, f⟩
    · unfold bfs
      rw [List.getElem?_append_right (Nat.le_refl _), Nat.sub_self]
      show (match inner q.2 (mv R q.1) (A ++ (q :: Q1 ++ Q2)) with | .inl l => some l | .inr ws => bfs R n (A.length + 1) ws) = _
      rw [e]
    · unfold bfs
      rw [List.getElem?_append_right (Nat.le_refl _), Nat.sub_self]
      show (match inner q.2 (mv R q.1) (A ++ (q :: Q1 ++ Q2)) with | .inl l => some l | .inr ws => bfs R n (A.length + 1) ws) = _
      rw [e]
      have e3 : A ++ (q :: Q1 ++ Q2') = (A ++ [q]) ++ (Q1 ++ Q2') := by simp
      have := bfs_ok hP hF hRP n l (A ++ [q]) Q1 Q2' (by simp; omega) ⟨fun x hx => ?_, fun x hx => B2.l1 x (List.mem_cons_of_mem _ hx), B2.l2, e3 ▸ B2.tri, e3 ▸ B2.nb, e3 ▸ B2.nd, e3 ▸ B2.kP⟩ f
      · rw [List.length_append] at this
        rw [e3]; exact this
      · rcases List.mem_append.mp hx with hx | hx
        · exact B2.la x hx
        · rw [List.mem_singleton.mp hx]; exact Nat.le_of_eq (B2.l1 q List.mem_cons_self)
theorem inner_no {P : List Nm} (hF : Far R F) (hRP : ∀ r ∈ R, r.2.2 = bad ∨ r.2.2 ∈ P) {s : Nm} {w : List Nm} (hs : F s = none) : ∀ (ms : List (Nm × Nm)) (ws : Ws), (∀ p ∈ ms, p ∈ mv R s) → (∀ q ∈ ws, F q.1 = none) → (keys ws).Nodup → (∀ q ∈ ws, q.1 ∈ P) →
    ∃ N, inner w ms ws = .inr (ws ++ N) ∧ (∀ q ∈ ws ++ N, F q.1 = none) ∧ (keys (ws ++ N)).Nodup ∧ ∀ q ∈ ws ++ N, q.1 ∈ P
  | [], ws, hm, h1, h2, h3 => ⟨[], by rw [List.append_nil]; rfl, by rw [List.append_nil]; exact h1, by rw [List.append_nil]; exact h2, by rw [List.append_nil]; exact h3⟩
  | p :: ms, ws, hm, h1, h2, h3 => by
    have hp := mem_mv.mp (hm p List.mem_cons_self)
    have hn : F p.2 = none := by
      cases e : F p.2 with
      | none => rfl
      | some j =>
        obtain ⟨i, _, hi⟩ := hF.le _ hp j e
        have hi : F s = some i := hi
        rw [hs] at hi; cases hi
    have nb : p.2 ≠ bad := fun e => by rw [e, hF.b] at hn; cases hn
    unfold inner
    rw [if_neg nb]
    split
    · exact inner_no hF hRP hs ms ws (fun q hq => hm q (List.mem_cons_of_mem _ hq)) h1 h2 h3
    · rename_i hk
      have mem : ∀ x ∈ ws ++ [(p.2, w ++ [p.1])], x ∈ ws ∨ x = (p.2, w ++ [p.1]) := fun x hx => (List.mem_append.mp hx).imp id List.mem_singleton.mp
      obtain ⟨N, e, g1, g2, g3⟩ := inner_no hF hRP hs ms (ws ++ [(p.2, w ++ [p.1])]) (fun q hq => hm q (List.mem_cons_of_mem _ hq)) (fun x hx => by
        rcases mem x hx with h | h
        · exact h1 x h
        · subst h; exact hn) (nd_add h2 hk) (fun x hx => by
        rcases mem x hx with h | h
        · exact h3 x h
        · subst h; exact (hRP _ hp).resolve_left nb)
      rw [List.append_assoc] at e g1 g2 g3
      exact ⟨_, e, g1, g2, g3⟩
theorem bfs_no {P : List Nm} (hF : Far R F) (hRP : ∀ r ∈ R, r.2.2 = bad ∨ r.2.2 ∈ P) : ∀ (n p : Nat) (ws : Ws), (∀ q ∈ ws, F q.1 = none) → (keys ws).Nodup → (∀ q ∈ ws, q.1 ∈ P) → bfs R n p ws = none
  | 0, p, ws, _, _, _ => rfl
  | n + 1, p, ws, h1, h2, h3 => by
    unfold bfs
    cases e : ws[p]? with
    | none => rfl
    | some q =>
      have hq := List.mem_of_getElem? e
      obtain ⟨N, e2, g1, g2, g3⟩ := inner_no hF hRP (w := q.2) (h1 q hq) (mv R q.1) ws (fun p h => h) h1 h2 h3
      dsimp only
      rw [e2]
      exact bfs_no hF hRP n (p + 1) _ g1 g2 g3
def dueM (R : List Row) (s : Nm) : Option (List Nm) := match get (far R) s with
  | none => none
  | some n => some (W (get (far R)) R n s)
theorem scen_ok {P : List Nm} (hP : P.length ≤ 13) (hR : ∀ r ∈ R, r.1 ≠ bad ∧ r.1 ∈ P) (hRP : ∀ r ∈ R, r.2.2 = bad ∨ r.2.2 ∈ P) (hs : s0 ∈ P) (hb : s0 ≠ bad) : bfs R 15 0 [(s0, [])] = dueM R s0 := by
  have hF := far_ok hP hR
  unfold dueM
  cases e : get (far R) s0 with
  | none => exact bfs_no hF hRP 15 0 _ (fun q hq => by rw [List.mem_singleton.mp hq]; exact e) (by simp [keys]) (fun q hq => by rw [List.mem_singleton.mp hq]; exact hs)
  | some n =>
    have := bfs_ok (D := n) (s0 := s0) hP hF hRP 15 0 [] [(s0, [])] [] rfl ⟨(fun q hq => by cases hq), (fun q hq => by rw [List.mem_singleton.mp hq]; rfl), (fun q hq => by cases hq), (fun q hq j hj => by
      rw [List.mem_singleton.mp hq] at hj ⊢
      rw [e] at hj; cases hj
      simp), (fun q hq => by rw [List.mem_singleton.mp hq]; exact hb), by simp [keys], (fun q hq => by rw [List.mem_singleton.mp hq]; exact hs)⟩ ⟨(s0, []), n, by
      rw [List.nil_append, List.find?_cons_of_pos (tight_iff.mpr ⟨n, e, by simp⟩)], e, by simp, rfl⟩
    exact this
end
end K44.M
set_option Elab.async false
set_option linter.all false
set_option maxRecDepth 100000
set_option maxHeartbeats 4000000
set_option cbv.maxSteps 1000000
set_option pp.maxSteps 400
namespace K44.V
open VL
open GL (PV)
variable {α : Type}
def kS (d : M.Dt α) : List PV := d.map fun q => PV.str q.1
def dctD (k : Fl) (e : α → D) (d : M.Dt α) : D := .nd k (.dct (kS d)) (d.map fun q => e q.2)
theorem keq_str {a b : List Nat} : GL.keqP (.str a) (.str b) = decide (a = b) := rfl
theorem idx_none : ∀ {d : M.Dt α} {k : List Nat}, M.get d k = none → idxK (.str k) (kS d) = none
  | [], k, _ => rfl
  | q :: r, k, h => by
    unfold M.get at h
    split at h
    · cases h
    · rename_i hn
      show (if GL.keqP (.str q.1) (.str k) = true then some 0 else (idxK (.str k) (kS r)).map (· + 1)) = none
      rw [keq_str, decide_eq_false hn, idx_none h]; rfl
theorem idx_some : ∀ {d : M.Dt α} {k : List Nat} {v : α}, M.get d k = some v → ∃ i, idxK (.str k) (kS d) = some i ∧ d[i]? = some (k, v)
  | [], k, v, h => by cases h
  | q :: r, k, v, h => by
    unfold M.get at h
    split at h
    · rename_i he
      cases h
      exact ⟨0, by show (if GL.keqP (.str q.1) (.str k) = true then some 0 else (idxK (.str k) (kS r)).map (· + 1)) = some 0; rw [keq_str, decide_eq_true he]; rfl, by rw [← he]; rfl⟩
    · rename_i hn
      obtain ⟨i, h1, h2⟩ := idx_some h
      exact ⟨i + 1, by show (if GL.keqP (.str q.1) (.str k) = true then some 0 else (idxK (.str k) (kS r)).map (· + 1)) = some (i + 1); rw [keq_str, decide_eq_false hn, h1]; rfl, h2⟩
section
variable {ls gh : Ls} {x : RV} {k : Fl} {e : α → D} {d : M.Dt α} {key : List Nat} {v : α}
theorem gDIn_of {neg : Bool} (hv : val x ls gh = some (dctD k e d)) : gDIn neg (.v (.str key)) x ls gh = .ok (.v (.bl (if neg = true then !(M.get d key).isSome else (M.get d key).isSome))) ls gh := by
  unfold gDIn
  rw [hv]
  unfold dctD
  have hi : (idxK (.str key) (kS d)).isSome = (M.get d key).isSome := by
    cases h : M.get d key with
    | none => rw [idx_none h]; rfl
    | some v => obtain ⟨i, h1, _⟩ := idx_some h; rw [h1]; rfl
  show Out.ok (RV.v (.bl (if neg = true then !(idxK (.str key) (kS d)).isSome else (idxK (.str key) (kS d)).isSome))) ls gh = _
  rw [hi]
theorem gDGet_of (hv : val x ls gh = some (dctD k e d)) (hg : M.get d key = some v) (hs : (e v).shr = true) : gDGet x (.v (.str key)) ls gh = .ok (.v (e v)) ls gh := by
  unfold gDGet
  rw [hv]
  unfold dctD
  obtain ⟨i, h1, h2⟩ := idx_some hg
  show (match idxK (.str key) (kS d) with
    | some i => (match (d.map fun q : List Nat × α => e q.2)[i]? with
      | some d => Out.ok (childR x i d) ls gh
      | none => .bad)
    | none => .bad) = _
  rw [h1]
  dsimp only
  rw [List.getElem?_map, h2]
  show Out.ok (childR x i (e v)) ls gh = _
  unfold childR
  rw [if_pos hs]
end
theorem put_some : ∀ {d : M.Dt α} {k : List Nat} {w : α} {i : Nat} (e : α → D) (v : α), idxK (.str k) (kS d) = some i → d[i]? = some (k, w) → kS (M.put d k v) = kS d ∧ (M.put d k v).map (fun q : List Nat × α => e q.2) = (d.map fun q : List Nat × α => e q.2).set i (e v)
  | [], k, w, i, e, v, h, _ => by cases h
  | q :: r, k, w, i, e, v, h, hw => by
    have h : (if GL.keqP (.str q.1) (.str k) = true then some 0 else (idxK (.str k) (kS r)).map (· + 1)) = some i := h
    unfold M.put
    rw [keq_str] at h
    by_cases he : q.1 = k
    · rw [decide_eq_true he] at h
      have h : some 0 = some i := h
      cases h
      rw [if_pos he]
      exact ⟨rfl, rfl⟩
    · rw [decide_eq_false he] at h
      obtain ⟨j, h1, rfl⟩ := Option.map_eq_some_iff.mp (show (idxK (.str k) (kS r)).map (· + 1) = some i from h)
      rw [if_neg he]
      obtain ⟨g1, g2⟩ := put_some e v h1 (show r[j]? = some (k, w) from hw)
      exact ⟨by unfold kS at *; rw [List.map_cons, List.map_cons, g1], by rw [List.map_cons, List.map_cons, g2]; rfl⟩
theorem put_none : ∀ {d : M.Dt α} {k : List Nat} (v : α), M.get d k = none → M.put d k v = d ++ [(k, v)]
  | [], k, v, _ => rfl
  | q :: r, k, v, h => by
    unfold M.get at h
    split at h
    · cases h
    · rename_i hn
      unfold M.put
      rw [if_neg hn, put_none v h]; rfl
def Nd (d : M.Dt α) : Prop := (d.map (·.1)).Nodup
theorem nd_idx : ∀ {d : M.Dt α} {k : List Nat} {i : Nat}, Nd d → idxK (.str k) (kS d) = some i → idxK (.str k) ((kS d).drop (i + 1)) = none
  | [], k, i, _, h => by cases h
  | q :: r, k, i, hn, h => by
    have hn : (q.1 :: r.map (·.1)).Nodup := hn
    obtain ⟨n1, n2⟩ := List.nodup_cons.mp hn
    have h : (if GL.keqP (.str q.1) (.str k) = true then some 0 else (idxK (.str k) (kS r)).map (· + 1)) = some i := h
    rw [keq_str] at h
    by_cases he : q.1 = k
    · rw [decide_eq_true he] at h
      have h : some 0 = some i := h
      cases h
      refine idx_none (d := r) ?_
      cases hg : M.get r k with
      | none => rfl
      | some v => exact absurd (List.mem_map_of_mem (f := (·.1)) (M.get_mem hg)) (he ▸ n1)
    · rw [decide_eq_false he] at h
      obtain ⟨j, h1, rfl⟩ := Option.map_eq_some_iff.mp (show (idxK (.str k) (kS r)).map (· + 1) = some i from h)
      exact nd_idx (d := r) n2 h1
theorem nd_put {d : M.Dt α} {k : List Nat} {v : α} (h : Nd d) : Nd (M.put d k v) := by
  cases hg : M.get d k with
  | none =>
    rw [put_none v hg]
    unfold Nd
    rw [List.map_append]
    refine List.nodup_append.mpr ⟨h, by simp, fun a ha b hb e => ?_⟩
    rw [List.map_cons, List.map_nil, List.mem_singleton] at hb
    obtain ⟨q, hq, rfl⟩ := List.mem_map.mp ha
    have : ∀ {d : M.Dt α}, q ∈ d → M.get d q.1 ≠ none := fun {d} => by
      induction d with
      | nil => intro h; cases h
      | cons x r ih =>
        intro h
        unfold M.get
        split
        · intro h; cases h
        · rename_i hn
          rcases List.mem_cons.mp h with h | h
          · exact absurd (by rw [h]) hn
          · exact ih h
    exact this hq (by rw [show q.1 = k from e.trans hb]; exact hg)
  | some w =>
    obtain ⟨i, h1, h2⟩ := idx_some hg
    obtain ⟨g1, _⟩ := put_some (fun _ => D.non) v h1 h2
    unfold Nd at *
    have e : ∀ d : M.Dt α, (kS d).map (fun p => match p with | .str s => s | _ => []) = d.map (·.1) := fun d => by unfold kS; rw [List.map_map]; rfl
    rw [← e, g1, e]; exact h
theorem putK_of {ls gh : Ls} {e : α → D} {d : M.Dt α} {key : List Nat} {v : α} {i : Nat} (h : ls[i]? = some (some (.v (dctD .ow e d)))) (hn : Nd d) (hl : d.length < 1000) : ∃ t, putK (.v (e v)) (.pth (.l i) []) (.v (.str key)) ls gh = .nx (modN (putV (dctD .ow e (M.put d key v))) i (ls.map (killD t (.l i) []))) (gh.map (killD t (.l i) [])) := by
  have hd : atD ls gh (.l i) [] = some (dctD .ow e d) := atD_l h
  unfold putK
  simp only [keyD, cvR, if_true, hd]
  unfold dctD
  simp only [List.length_map, if_pos hl]
  cases hg : M.get d key with
  | none =>
    rw [idx_none hg]
    refine ⟨allT, ?_⟩
    unfold nxD
    rw [chD_l h, put_none v hg]
    simp [setP, kS]
  | some w =>
    obtain ⟨j, h1, h2⟩ := idx_some hg
    obtain ⟨g1, g2⟩ := put_some e v h1 h2
    rw [h1]
    dsimp only
    rw [nd_idx hn h1]
    refine ⟨exT j, ?_⟩
    show nxD (chD (exT j) (Rt.l i) [] (D.nd Fl.ow (Hd.dct (kS d)) ((List.map (fun q => e q.snd) d).set j (e v))) ls gh) = _
    unfold nxD
    rw [chD_l h, g1, g2]
    rfl
section
variable {ls gh : Ls} {a b : PE} {x y : RV} {t u : PT} {m1 m2 : MS} {k : Bool}
theorem op_of {g : G2} {r : Out RV} (ha : a ls gh = .ok x ls gh) (hb : b ls gh = .ok y ls gh) (h : g x y ls gh = r) : eOp g a b ls gh = r := by rw [eOp_ap, ha, bind_ok, hb, bind_ok, h]
theorem toT_of (ha : a ls gh = .ok (.v (.bl k)) ls gh) : toT a ls gh = .ok k ls gh := by rw [toT_ap, ha]; rfl
theorem and_no (h : t ls gh = .ok false ls gh) : tAndM t u ls gh = .ok false ls gh := by rw [tAndM_ap, h]; rfl
theorem and_go (h : t ls gh = .ok true ls gh) (h2 : u ls gh = .ok k ls gh) : tAndM t u ls gh = .ok k ls gh := by rw [tAndM_ap, h]; exact h2
theorem or_yes (h : t ls gh = .ok true ls gh) : tOrM t u ls gh = .ok true ls gh := by rw [tOrM_ap, h]; rfl
theorem or_go (h : t ls gh = .ok false ls gh) (h2 : u ls gh = .ok k ls gh) : tOrM t u ls gh = .ok k ls gh := by rw [tOrM_ap, h]; exact h2
theorem if_yes (h : t ls gh = .ok true ls gh) : sIf t m1 m2 ls gh = m1 ls gh := by rw [sIf_ap, h]; rfl
theorem if_no (h : t ls gh = .ok false ls gh) : sIf t m1 m2 ls gh = m2 ls gh := by rw [sIf_ap, h]; rfl
theorem seq_of {ls2 gh2 : Ls} (h : m1 ls gh = .nx ls2 gh2) : sSeq m1 m2 ls gh = m2 ls2 gh2 := by rw [sSeq_ap, h]; rfl
end
def okA1 (z : Option V) : Prop := z = none ∨ ∃ d, z = some (.v d)
theorem okA1_kill {z : Option V} (h : okA1 z) (t : List Nat → Bool) (r : Rt) (p : List Nat) : killD t r p z = z := okA_killD h t r p
theorem lc_fm {β : Type} {g : MG} {tt : PT} {te : PE} {vs : List Nat} {L0 : Ls} {LA : β → Ls} (f h : β → D) (p : β → Bool)
    (hg : ∀ a, g (.v (f a)) (resD (fun _ => none) vs L0 []).1 (resD (fun _ => none) vs L0 []).2 = some (LA a, []))
    (hr : ∀ a, resD (fun v => keepV (L0.getD v none)) vs (LA a) [] = (L0, [])) : ∀ (l : List β) (acc : List D), acc.length + l.length < 10000 →
    (∀ a ∈ l, tt (LA a) [] = .ok (p a) (LA a) [] ∧ te (LA a) [] = .ok (.v (h a)) (LA a) []) →
    lcV g tt te vs L0 (l.map f) acc L0 [] = .ok (.v (.nd .ow .lst (acc ++ (l.filter p).map h))) L0 []
  | [], acc, _, _ => by rw [List.filter_nil, List.map_nil, List.map_nil, List.append_nil]; rfl
  | a :: r, acc, hl, hh => by
    obtain ⟨h1, h2⟩ := hh a List.mem_cons_self
    have hlim : acc.length < GL.lim := by
      have : GL.lim = 100000 := rfl
      rw [List.length_cons] at hl; omega
    rw [List.map_cons]
    unfold lcV
    rw [hg a]
    dsimp only
    rw [h1]
    cases hp : p a with
    | true =>
      dsimp only
      rw [h2]
      show (if acc.length < GL.lim then lcV g tt te vs L0 (r.map f) (acc ++ [h a]) (resD (fun v => keepV (L0.getD v none)) vs (LA a) []).1 (resD (fun v => keepV (L0.getD v none)) vs (LA a) []).2 else .bad) = _
      rw [if_pos hlim, hr a]
      dsimp only
      rw [lc_fm f h p hg hr r (acc ++ [h a]) (by rw [List.length_append, List.length_cons, List.length_nil]; rw [List.length_cons] at hl; omega) (fun b hb => hh b (List.mem_cons_of_mem _ hb)), List.filter_cons_of_pos hp, List.map_cons, List.append_assoc]
      rfl
    | false =>
      dsimp only
      rw [hr a]
      dsimp only
      rw [lc_fm f h p hg hr r acc (by rw [List.length_cons] at hl; omega) (fun b hb => hh b (List.mem_cons_of_mem _ hb)), List.filter_cons_of_neg (by rw [hp]; decide)]
def rowD (r : M.Row) : D := .tup [.str r.1, .str r.2.1, .str r.2.2]
def mvD (p : M.Nm × M.Nm) : D := .tup [.str p.1, .str p.2]
theorem mv_map (R : List M.Row) (s : M.Nm) : (R.filter fun r => decide (r.1 = s)).map (fun r => mvD r.2) = (M.mv R s).map mvD := by
  unfold M.mv
  induction R with
  | nil => rfl
  | cons r R ih =>
    by_cases h : r.1 = s
    · rw [List.filter_cons_of_pos (by rw [decide_eq_true h]), List.filterMap_cons, if_pos h, List.map_cons, ih]; rfl
    · rw [List.filter_cons_of_neg (by rw [decide_eq_false h]; decide), List.filterMap_cons, if_neg h, ih]
theorem rows_frz (R : List M.Row) : D.frzs (R.map rowD) = some (R.map rowD) := frzs_shr (by rw [List.all_map, List.all_eq_true]; intro x _; rfl)
theorem rows_shr (R : List M.Row) : (R.map rowD).all D.shr = true := by rw [List.all_map, List.all_eq_true]; intro x _; rfl
theorem mvs_shr (l : List (M.Nm × M.Nm)) : (l.map mvD).all D.shr = true := by rw [List.all_map, List.all_eq_true]; intro x _; rfl
theorem of_ok {R : List M.Row} {s : M.Nm} (hl : R.length < 1000) : f_law_of [.v (.nd .fz .lst (R.map rowD)), .v (.str s)] [] = .ok (.nd .ow .lst ((M.mv R s).map mvD)) [] := by
  refine fnOf_rt (gh := []) rfl ?_ rfl
  have c := lc_fm (g := gN 2) (tt := toT (eOp gEq (eOp gIx (eVar 2) (eC (.int 0))) (eVar 1))) (te := eTup (aCons (eOp gIx (eVar 2) (eC (.int 1))) (aCons (eOp gIx (eVar 2) (eC (.int 2))) aNil))) (vs := [2]) (L0 := [some (.v (.nd .fz .lst (R.map rowD))), some (.v (.str s)), none]) (LA := fun r => [some (.v (.nd .fz .lst (R.map rowD))), some (.v (.str s)), some (.v (rowD r))]) rowD (fun r => mvD r.2) (fun r => decide (r.1 = s)) (fun _ => rfl) (fun _ => rfl) R [] (by show 0 + R.length < 10000; omega) (fun r _ => ⟨by
    refine toT_of (op_of (x := .v (.str r.1)) (y := .v (.str s)) rfl rfl gEq_str), rfl⟩)
  rw [List.nil_append, mv_map] at c
  unfold m_law_of
  rw [sRet_ap]
  unfold eLc
  rw [iSeq_of (m := eVar 0) (d := .nd .fz .lst (R.map rowD)) (k := .lst) (xs := R.map rowD) rfl rfl rfl, bind_ok, if_pos]
  rotate_left
  · rfl
  refine (congrArg (fun o : Out RV => o.then _) c).trans ?_
  rfl
def tabD (k : Fl) (s0 : M.Nm) (R : List M.Row) : D := .nd k (.ins n_Table [n_first, n_rows]) [.str s0, .nd k .lst (R.map rowD)]
theorem moves_ok {R : List M.Row} {s0 s : M.Nm} (hl : R.length < 1000) : f_Table_moves [.v (tabD .fz s0 R), .v (.str s)] [] = .ok (.nd .ow .lst ((M.mv R s).map mvD)) [] := by
  refine fnOf_rt (gh := []) rfl ?_ rfl
  have c := lc_fm (g := gT (gsCons (gN 2) (gsCons (gN 3) (gsCons (gN 4) gsNil)))) (tt := toT (eOp gEq (eVar 2) (eVar 1))) (te := eTup (aCons (eVar 3) (aCons (eVar 4) aNil))) (vs := [2, 3, 4]) (L0 := [some (.v (tabD .fz s0 R)), some (.v (.str s)), none, none, none]) (LA := fun r => [some (.v (tabD .fz s0 R)), some (.v (.str s)), some (.v (.str r.1)), some (.v (.str r.2.1)), some (.v (.str r.2.2))]) rowD (fun r => mvD r.2) (fun r => decide (r.1 = s)) (fun _ => rfl) (fun _ => rfl) R [] (by show 0 + R.length < 10000; omega) (fun r _ => ⟨by
    refine toT_of (op_of (x := .v (.str r.1)) (y := .v (.str s)) rfl rfl gEq_str), rfl⟩)
  rw [List.nil_append, mv_map] at c
  unfold m_Table_moves
  rw [sRet_ap]
  unfold eLc
  rw [iSeq_of (m := eFld tab n_rows (eVar 0)) (d := .nd .fz .lst (R.map rowD)) (k := .lst) (xs := R.map rowD) rfl rfl rfl, bind_ok, if_pos]
  rotate_left
  · rfl
  refine (congrArg (fun o : Out RV => o.then _) c).trans ?_
  rfl
end K44.V
set_option Elab.async false
set_option linter.all false
set_option maxRecDepth 100000
set_option maxHeartbeats 4000000
set_option cbv.maxSteps 1000000
set_option pp.maxSteps 400
namespace K44.V
open VL
open GL (PV)
section
variable {fn : MF} {dws : List PV} {args : PA} {ls gh ls1 gh1 ls2 gh2 : Ls} {xs : List RV} {ds : List D} {r d : D} {o : PE} {x : RV} {C m : GL.Nm}
theorem call_of (ha : args ls gh = .ok xs ls1 gh1) (hc : cvL true xs ls1 gh1 = some (ds, ls2, gh2)) {ios : List D} (hf : fn ((ds ++ dOfs dws).map .v) [] = .ok r ios) : eCall fn dws args ls gh = .ok (.v r) ls2 gh2 := by
  unfold eCall
  rw [ha, bind_ok, hc]
  show callD fn ((ds ++ dOfs dws).map .v) ls2 gh2 = _
  unfold callD
  rw [hf]
theorem callB_of (ha : args ls gh = .ok xs ls1 gh1) (hc : bwL xs ls1 gh1 = some ds) {ios : List D} (hf : fn ((ds ++ dOfs dws).map .v) [] = .ok r ios) (hn : noL r = true) : eCallB fn dws args ls gh = .ok (.v r) ls1 gh1 := by
  unfold eCallB
  rw [ha, bind_ok]
  unfold callB
  rw [hc]
  dsimp only
  rw [hf]
  show (if noL r = true then Out.ok (RV.v r) ls1 gh1 else .bad) = _
  rw [if_pos hn]
theorem meth_of (ho : o ls gh = .ok x ls gh) (hv : val x ls gh = some d) (hi : isIns C m d = true) (ha : args ls gh = .ok xs ls1 gh1) (hc : cvL true (x :: xs) ls1 gh1 = some (ds, ls2, gh2)) {ios : List D} (hf : fn ((ds ++ dOfs dws).map .v) [] = .ok r ios) : eMeth C m fn dws o args ls gh = .ok (.v r) ls2 gh2 := by
  unfold eMeth
  rw [ho, bind_ok, hv]
  dsimp only
  rw [if_pos hi, ha, bind_ok, hc]
  show callD fn ((ds ++ dOfs dws).map .v) ls2 gh2 = _
  unfold callD
  rw [hf]
end
def eI : Nat → D := fun n => .int (n : Int)
abbrev rowsD (R : List M.Row) : D := .nd .fz .lst (R.map rowD)
structure DI (P : List M.Nm) (d : M.Dt Nat) : Prop where
  nd : Nd d
  k : ∀ x ∈ d.map (·.1), x ∈ M.bad :: P
theorem DI.len {P : List M.Nm} {d : M.Dt Nat} (h : DI P d) (hP : P.length ≤ 13) : d.length < 1000 := by
  have := M.nodup_sub h.nd h.k
  rw [List.length_map, List.length_cons] at this
  omega
theorem DI.put {P : List M.Nm} {d : M.Dt Nat} (h : DI P d) {k : M.Nm} (hk : k ∈ P) (v : Nat) : DI P (M.put d k v) := ⟨nd_put h.nd, fun x hx => by
  obtain ⟨q, hq, rfl⟩ := List.mem_map.mp hx
  rcases M.put_keys d k v q hq with e | e
  · rw [e]; exact List.mem_cons_of_mem _ hk
  · exact h.k _ e⟩
theorem DI.relax {P : List M.Nm} {d : M.Dt Nat} (h : DI P d) {r : M.Row} (hr : r.1 ∈ P) : DI P (M.relax d r) := by
  rcases M.relax_cases d r with ⟨e, _⟩ | ⟨j, _, e, _⟩
  · rw [e]; exact h
  · rw [e]; exact h.put hr _
abbrev FB : MS := (sIf (tAndM (toT (eDIn false (eOp gIx (eVar 3) (eC (.int 2))) (eVar 1))) (tOrM (toT (eDIn true (eOp gIx (eVar 3) (eC (.int 0))) (eVar 1))) (toT (eOp gGt (eDGet (eVar 1) (eOp gIx (eVar 3) (eC (.int 0)))) (eOp gAdd (eC (.int 1)) (eDGet (eVar 1) (eOp gIx (eVar 3) (eC (.int 2)))))))))
  (sDPutM (eVar 1) (eOp gIx (eVar 3) (eC (.int 0))) (eOp gAdd (eC (.int 1)) (eDGet (eVar 1) (eOp gIx (eVar 3) (eC (.int 2))))))
  sNil)
abbrev FL (a : D) (d : M.Dt Nat) (z2 z3 : Option V) : Ls := [some (.v a), some (.v (dctD .ow eI d)), z2, z3]
theorem far_turn {P : List M.Nm} (hP : P.length ≤ 13) {a : D} {d : M.Dt Nat} (hd : DI P d) {z2 : Option V} (h2 : okA1 z2) (r : M.Row) : FB (FL a d z2 (some (.v (rowD r)))) [] = .nx (FL a (M.relax d r) z2 (some (.v (rowD r)))) [] := by
  have v1 : eVar 1 (FL a d z2 (some (.v (rowD r)))) [] = .ok (.pth (.l 1) []) (FL a d z2 (some (.v (rowD r)))) [] := rfl
  have i0 : (eOp gIx (eVar 3) (eC (.int 0))) (FL a d z2 (some (.v (rowD r)))) [] = .ok (.v (.str r.1)) (FL a d z2 (some (.v (rowD r)))) [] := rfl
  have i2 : (eOp gIx (eVar 3) (eC (.int 2))) (FL a d z2 (some (.v (rowD r)))) [] = .ok (.v (.str r.2.2)) (FL a d z2 (some (.v (rowD r)))) [] := rfl
  have vv : val (.pth (.l 1) []) (FL a d z2 (some (.v (rowD r)))) [] = some (dctD .ow eI d) := atD_l rfl
  unfold M.relax
  cases h : M.get d r.2.2 with
  | none => exact if_no (and_no (toT_of (op_of i2 v1 (by rw [gDIn_of vv, h]; rfl))))
  | some j =>
    have t1 : (toT (eDIn false (eOp gIx (eVar 3) (eC (.int 2))) (eVar 1))) (FL a d z2 (some (.v (rowD r)))) [] = .ok true (FL a d z2 (some (.v (rowD r)))) [] := toT_of (op_of i2 v1 (by rw [gDIn_of vv, h]; rfl))
    have g2 : (eOp gAdd (eC (.int 1)) (eDGet (eVar 1) (eOp gIx (eVar 3) (eC (.int 2))))) (FL a d z2 (some (.v (rowD r)))) [] = .ok (.v (eI (j + 1))) (FL a d z2 (some (.v (rowD r)))) [] :=
      op_of (x := .v (.int 1)) rfl (op_of v1 i2 (gDGet_of vv h rfl)) (by
        show Out.ok (RV.v (.int (1 + (j : Int)))) _ _ = .ok (.v (.int ((j + 1 : Nat) : Int))) _ _
        rw [show (1 : Int) + (j : Int) = ((j + 1 : Nat) : Int) by omega])
    have put : (sDPutM (eVar 1) (eOp gIx (eVar 3) (eC (.int 0))) (eOp gAdd (eC (.int 1)) (eDGet (eVar 1) (eOp gIx (eVar 3) (eC (.int 2)))))) (FL a d z2 (some (.v (rowD r)))) [] = .nx (FL a (M.put d r.1 (j + 1)) z2 (some (.v (rowD r)))) [] := by
      unfold sDPutM
      rw [g2, then_ok, v1, then_ok, i0, then_ok]
      obtain ⟨t, e⟩ := putK_of (e := eI) (key := r.1) (v := j + 1) (ls := FL a d z2 (some (.v (rowD r)))) (gh := []) (i := 1) rfl hd.nd (hd.len hP)
      rw [e]
      show SOut.nx [some (.v a), some (.v (dctD .ow eI (M.put d r.1 (j + 1)))), killD t (.l 1) [] z2, some (.v (rowD r))] [] = _
      rw [okA1_kill h2]
    dsimp only
    cases h0 : M.get d r.1 with
    | none =>
      refine (if_yes (and_go t1 (or_yes (toT_of (op_of i0 v1 (by rw [gDIn_of vv, h0]; rfl)))))).trans put
    | some i =>
      dsimp only
      have t2 : (toT (eDIn true (eOp gIx (eVar 3) (eC (.int 0))) (eVar 1))) (FL a d z2 (some (.v (rowD r)))) [] = .ok false (FL a d z2 (some (.v (rowD r)))) [] := toT_of (op_of i0 v1 (by rw [gDIn_of vv, h0]; rfl))
      have t3 : (toT (eOp gGt (eDGet (eVar 1) (eOp gIx (eVar 3) (eC (.int 0)))) (eOp gAdd (eC (.int 1)) (eDGet (eVar 1) (eOp gIx (eVar 3) (eC (.int 2))))))) (FL a d z2 (some (.v (rowD r)))) [] = .ok (decide (j + 1 < i)) (FL a d z2 (some (.v (rowD r)))) [] :=
        toT_of (op_of (op_of v1 i0 (gDGet_of vv h0 rfl)) g2 (by
          show gCmpI (fun i j => decide (i > j)) (.v (.int (i : Int))) (.v (.int ((j + 1 : Nat) : Int))) _ _ = _
          rw [gCmp_int]
          rw [show decide ((i : Int) > ((j + 1 : Nat) : Int)) = decide (j + 1 < i) from decide_eq_decide.mpr (by omega)]))
      by_cases hlt : j + 1 < i
      · rw [if_pos hlt]
        rw [decide_eq_true hlt] at t3
        exact (if_yes (and_go t1 (or_go t2 t3))).trans put
      · rw [if_neg hlt]
        rw [decide_eq_false hlt] at t3
        exact if_no (and_go t1 (or_go t2 t3))
theorem far_in {P : List M.Nm} (hP : P.length ≤ 13) {a : D} {z2 : Option V} (h2 : okA1 z2) : ∀ (l : List M.Row) (d : M.Dt Nat) (z3 : Option V), (∀ r ∈ l, r.1 ∈ P) → DI P d → okA1 z3 →
    ∃ z3', okA1 z3' ∧ DI P (l.foldl M.relax d) ∧ forV (gN 3) FB (l.map rowD) (FL a d z2 z3) [] = .nx (FL a (l.foldl M.relax d) z2 z3') []
  | [], d, z3, _, hd, h3 => ⟨z3, h3, hd, rfl⟩
  | r :: l, d, z3, hl, hd, h3 => by
    obtain ⟨z3', g1, g2, g3⟩ := far_in hP h2 l (M.relax d r) (some (.v (rowD r))) (fun q hq => hl q (List.mem_cons_of_mem _ hq)) (hd.relax (hl r List.mem_cons_self)) (.inr ⟨_, rfl⟩)
    refine ⟨z3', g1, g2, ?_⟩
    have hg : gN 3 (.v (rowD r)) (FL a d z2 z3) [] = some (FL a d z2 (some (.v (rowD r))), []) := by
      rcases h2 with rfl | ⟨d2, rfl⟩ <;> rcases h3 with rfl | ⟨d3, rfl⟩ <;> rfl
    rw [List.map_cons, forV_cons hg]
    dsimp only
    rw [far_turn hP hd h2 r, loopK_nx]
    exact g3
theorem far_out {P : List M.Nm} (hP : P.length ≤ 13) {R : List M.Row} (hR : ∀ r ∈ R, r.1 ∈ P) : ∀ (xs : List D) (d : M.Dt Nat) (z2 z3 : Option V), DI P d → okA1 z2 → okA1 z3 →
    ∃ z2' z3', DI P (M.rounds R xs.length d) ∧ forV (gN 2) (sFor (iSeq (eVar 0)) (gN 3) FB) xs (FL (rowsD R) d z2 z3) [] = .nx (FL (rowsD R) (M.rounds R xs.length d) z2' z3') []
  | [], d, z2, z3, hd, _, _ => ⟨z2, z3, hd, rfl⟩
  | x :: xs, d, z2, z3, hd, h2, h3 => by
    obtain ⟨z3', g1, g2, g3⟩ := far_in hP (a := rowsD R) (z2 := some (.v x)) (.inr ⟨_, rfl⟩) R d z3 hR hd h3
    obtain ⟨z2'', z3'', g4, g5⟩ := far_out hP hR xs _ (some (.v x)) z3' g2 (.inr ⟨_, rfl⟩) g1
    refine ⟨z2'', z3'', g4, ?_⟩
    have hg : gN 2 (.v x) (FL (rowsD R) d z2 z3) [] = some (FL (rowsD R) d (some (.v x)) z3, []) := by
      rcases h2 with rfl | ⟨d2, rfl⟩ <;> rcases h3 with rfl | ⟨d3, rfl⟩ <;> rfl
    rw [forV_cons hg]
    dsimp only
    rw [sFor_of (iSeq_of (m := eVar 0) (d := rowsD R) (k := .lst) (xs := R.map rowD) rfl rfl rfl), g3, loopK_nx]
    exact g5
theorem far_ok {P : List M.Nm} (hP : P.length ≤ 13) {R : List M.Row} (hR : ∀ r ∈ R, r.1 ∈ P) : f_law_far [.v (rowsD R)] [] = .ok (dctD .ow eI (M.far R)) [] ∧ DI P (M.far R) := by
  obtain ⟨z2, z3, g1, g2⟩ := far_out hP hR (rngD 0 14) [(M.bad, 0)] none none ⟨by unfold Nd; simp, fun x hx => by rw [List.map_cons, List.map_nil, List.mem_singleton] at hx; rw [hx]; exact List.mem_cons_self⟩ (.inl rfl) (.inl rfl)
  refine ⟨fnOf_rt (gh := []) rfl ?_ rfl, g1⟩
  have s1 : (sSet 1 (eDisp [((eC (.str n_bad)), (eC (.int 0)))])) [some (.v (rowsD R)), none, none, none] [] = .nx (FL (rowsD R) [(M.bad, 0)] none none) [] := rfl
  refine (seq_of s1).trans ((seq_of ((sFor_of (iR1_of (n := 14) rfl (by decide))).trans g2)).trans ?_)
  rfl
abbrev DL (a b : D) (d : M.Dt Nat) (ms : List M.Nm) (s : M.Nm) (z5 : Option V) (z6 z7 : Option V) : Ls := [some (.v a), some (.v b), some (.v (dctD .ow eI d)), some (.v (.nd .ow .lst (strL ms))), some (.v (.str s)), z5, z6, z7]
abbrev PB : MS := (sIf (tAndM (toT (eOp gEq (eOp gIx (eVar 7) (eC (.int 0))) (eVar 4))) (tAndM (toT (eOp gEq (eVar 6) (eVar 4))) (tAndM (toT (eDIn false (eOp gIx (eVar 7) (eC (.int 2))) (eVar 2))) (toT (eOp gEq (eDGet (eVar 2) (eOp gIx (eVar 7) (eC (.int 2)))) (eOp gSub (eDGet (eVar 2) (eVar 4)) (eC (.int 1))))))))
  (sSeq (sSet 6 (eOp gIx (eVar 7) (eC (.int 2))))
  (sExpr (eMt kList mAppend (eVar 3) (aCons (eOp gIx (eVar 7) (eC (.int 1))) aNil))))
  sNil)
def stepM (d : M.Dt Nat) (s : M.Nm) (n : Nat) (q : M.Nm × List M.Nm) (r : M.Row) : M.Nm × List M.Nm := if r.1 = s ∧ q.1 = s ∧ M.get d r.2.2 = some n then (r.2.2, q.2 ++ [r.2.1]) else q
theorem due_turn {a b : D} {d : M.Dt Nat} {ms : List M.Nm} {s t : M.Nm} {z5 : Option V} (h5 : okA1 z5) {n : Nat} (hs : M.get d s = some (n + 1)) (hl : ms.length < 1000) (r : M.Row) :
    PB (DL a b d ms s z5 (some (.v (.str t))) (some (.v (rowD r)))) [] = .nx (DL a b d (stepM d s n (t, ms) r).2 s z5 (some (.v (.str (stepM d s n (t, ms) r).1))) (some (.v (rowD r)))) [] := by
  have i0 : (eOp gIx (eVar 7) (eC (.int 0))) (DL a b d ms s z5 (some (.v (.str t))) (some (.v (rowD r)))) [] = .ok (.v (.str r.1)) (DL a b d ms s z5 (some (.v (.str t))) (some (.v (rowD r)))) [] := rfl
  have i2 : (eOp gIx (eVar 7) (eC (.int 2))) (DL a b d ms s z5 (some (.v (.str t))) (some (.v (rowD r)))) [] = .ok (.v (.str r.2.2)) (DL a b d ms s z5 (some (.v (.str t))) (some (.v (rowD r)))) [] := rfl
  have v4 : eVar 4 (DL a b d ms s z5 (some (.v (.str t))) (some (.v (rowD r)))) [] = .ok (.v (.str s)) (DL a b d ms s z5 (some (.v (.str t))) (some (.v (rowD r)))) [] := rfl
  have v6 : eVar 6 (DL a b d ms s z5 (some (.v (.str t))) (some (.v (rowD r)))) [] = .ok (.v (.str t)) (DL a b d ms s z5 (some (.v (.str t))) (some (.v (rowD r)))) [] := rfl
  have v2 : eVar 2 (DL a b d ms s z5 (some (.v (.str t))) (some (.v (rowD r)))) [] = .ok (.pth (.l 2) []) (DL a b d ms s z5 (some (.v (.str t))) (some (.v (rowD r)))) [] := rfl
  have vv : val (.pth (.l 2) []) (DL a b d ms s z5 (some (.v (.str t))) (some (.v (rowD r)))) [] = some (dctD .ow eI d) := atD_l rfl
  have t0 : (toT (eOp gEq (eOp gIx (eVar 7) (eC (.int 0))) (eVar 4))) (DL a b d ms s z5 (some (.v (.str t))) (some (.v (rowD r)))) [] = .ok (decide (r.1 = s)) (DL a b d ms s z5 (some (.v (.str t))) (some (.v (rowD r)))) [] := toT_of (op_of i0 v4 gEq_str)
  have t1 : (toT (eOp gEq (eVar 6) (eVar 4))) (DL a b d ms s z5 (some (.v (.str t))) (some (.v (rowD r)))) [] = .ok (decide (t = s)) (DL a b d ms s z5 (some (.v (.str t))) (some (.v (rowD r)))) [] := toT_of (op_of v6 v4 gEq_str)
  have t2 : (toT (eDIn false (eOp gIx (eVar 7) (eC (.int 2))) (eVar 2))) (DL a b d ms s z5 (some (.v (.str t))) (some (.v (rowD r)))) [] = .ok ((M.get d r.2.2).isSome) (DL a b d ms s z5 (some (.v (.str t))) (some (.v (rowD r)))) [] := toT_of (op_of i2 v2 (gDIn_of vv))
  unfold stepM
  by_cases c0 : r.1 = s
  · rw [decide_eq_true c0] at t0
    by_cases c1 : t = s
    · rw [decide_eq_true c1] at t1
      cases h : M.get d r.2.2 with
      | none =>
        rw [h] at t2
        rw [if_neg (fun q => by cases q.2.2)]
        exact if_no (and_go t0 (and_go t1 (and_no t2)))
      | some j =>
        rw [h] at t2
        have t3 : (toT (eOp gEq (eDGet (eVar 2) (eOp gIx (eVar 7) (eC (.int 2)))) (eOp gSub (eDGet (eVar 2) (eVar 4)) (eC (.int 1))))) (DL a b d ms s z5 (some (.v (.str t))) (some (.v (rowD r)))) [] = .ok (decide (j = n)) (DL a b d ms s z5 (some (.v (.str t))) (some (.v (rowD r)))) [] :=
          toT_of (op_of (op_of v2 i2 (gDGet_of vv h rfl)) (op_of (op_of v2 v4 (gDGet_of vv hs rfl)) (rfl : eC (.int 1) _ _ = .ok (.v (.int 1)) _ _) rfl) (by
            refine (gEq_int (neg := false) (i := (j : Int)) (j := ((n + 1 : Nat) : Int) - 1)).trans ?_
            rw [if_neg (by decide), show decide ((j : Int) = ((n + 1 : Nat) : Int) - 1) = decide (j = n) from decide_eq_decide.mpr (by omega)]))
        by_cases c3 : j = n
        · subst c3
          rw [decide_eq_true rfl] at t3
          rw [if_pos ⟨c0, c1, rfl⟩]
          refine (if_yes (and_go t0 (and_go t1 (and_go t2 t3)))).trans ?_
          have hlim : (strL ms).length < GL.lim := by
            have : GL.lim = 100000 := rfl
            unfold strL
            rw [List.length_map]; omega
          have s6 : (sSet 6 (eOp gIx (eVar 7) (eC (.int 2)))) (DL a b d ms s z5 (some (.v (.str t))) (some (.v (rowD r)))) [] = .nx (DL a b d ms s z5 (some (.v (.str r.2.2))) (some (.v (rowD r)))) [] := by
            rcases h5 with rfl | ⟨d5, rfl⟩ <;> rfl
          refine (seq_of s6).trans ?_
          have m := mAppend_l (ls := DL a b d ms s z5 (some (.v (.str r.2.2))) (some (.v (rowD r)))) (gh := []) (i := 3) (d := .str r.2.1) rfl hlim
          show ((mAppend (.pth (.l 3) []) [.v (.str r.2.1)]) (DL a b d ms s z5 (some (.v (.str r.2.2))) (some (.v (rowD r)))) []).then (fun _ ls gh => .nx ls gh) = _
          rw [m]
          show SOut.nx [some (.v a), some (.v b), some (.v (dctD .ow eI d)), some (.v (.nd .ow .lst (strL ms ++ [.str r.2.1]))), some (.v (.str s)), killD allT (.l 3) [] z5, some (.v (.str r.2.2)), some (.v (rowD r))] [] = _
          have es : strL (ms ++ [r.2.1]) = strL ms ++ [.str r.2.1] := by unfold strL; rw [List.map_append]; rfl
          rw [okA1_kill h5, ← es]
        · rw [decide_eq_false c3] at t3
          rw [if_neg (fun q => c3 (Option.some.inj q.2.2))]
          exact if_no (and_go t0 (and_go t1 (and_go t2 t3)))
    · rw [decide_eq_false c1] at t1
      rw [if_neg (fun q => c1 q.2.1)]
      exact if_no (and_go t0 (and_no t1))
  · rw [decide_eq_false c0] at t0
    rw [if_neg (fun q => c0 q.1)]
    exact if_no (and_no t0)
theorem due_in {a b : D} {d : M.Dt Nat} {s : M.Nm} {z5 : Option V} (h5 : okA1 z5) {n : Nat} (hs : M.get d s = some (n + 1)) : ∀ (l : List M.Row) (t : M.Nm) (ms : List M.Nm) (z7 : Option V), okA1 z7 → ms.length + l.length < 1000 →
    ∃ z7', okA1 z7' ∧ forV (gN 7) PB (l.map rowD) (DL a b d ms s z5 (some (.v (.str t))) z7) [] = .nx (DL a b d (l.foldl (stepM d s n) (t, ms)).2 s z5 (some (.v (.str (l.foldl (stepM d s n) (t, ms)).1))) z7') []
  | [], t, ms, z7, h7, _ => ⟨z7, h7, rfl⟩
  | r :: l, t, ms, z7, h7, hl => by
    rw [List.length_cons] at hl
    have hlen : (stepM d s n (t, ms) r).2.length ≤ ms.length + 1 := by
      unfold stepM
      split
      · simp
      · exact Nat.le_succ _
    obtain ⟨z7', g1, g2⟩ := due_in h5 hs l (stepM d s n (t, ms) r).1 (stepM d s n (t, ms) r).2 (some (.v (rowD r))) (.inr ⟨_, rfl⟩) (by omega)
    refine ⟨z7', g1, ?_⟩
    have hg : gN 7 (.v (rowD r)) (DL a b d ms s z5 (some (.v (.str t))) z7) [] = some (DL a b d ms s z5 (some (.v (.str t))) (some (.v (rowD r))), []) := by
      rcases h5 with rfl | ⟨d5, rfl⟩ <;> rcases h7 with rfl | ⟨d7, rfl⟩ <;> rfl
    rw [List.map_cons, forV_cons hg]
    dsimp only
    rw [due_turn h5 hs (by omega) r, loopK_nx, List.foldl_cons]
    exact g2
theorem step_done {d : M.Dt Nat} {s t : M.Nm} {n : Nat} {ms : List M.Nm} (h : t ≠ s) : ∀ l : List M.Row, l.foldl (stepM d s n) (t, ms) = (t, ms)
  | [] => rfl
  | r :: l => by
    rw [List.foldl_cons]
    have : stepM d s n (t, ms) r = (t, ms) := by unfold stepM; rw [if_neg (fun q => h q.2.1)]
    rw [this]; exact step_done h l
theorem step_nxt {d : M.Dt Nat} {s : M.Nm} {n : Nat} {ms : List M.Nm} (hs : M.get d s = some (n + 1)) : ∀ l : List M.Row, l.foldl (stepM d s n) (s, ms) = (match M.nxt (M.get d) l n s with
    | some p => (p.2, ms ++ [p.1])
    | none => (s, ms))
  | [] => rfl
  | r :: l => by
    have ih := step_nxt (ms := ms) hs l
    unfold M.nxt M.mv at *
    rw [List.foldl_cons, List.filterMap_cons]
    unfold stepM
    by_cases c0 : r.1 = s
    · rw [if_pos c0]
      dsimp only
      by_cases c1 : M.get d r.2.2 = some n
      · rw [if_pos ⟨c0, rfl, c1⟩]
        rw [List.find?_cons_of_pos (p := fun p : M.Nm × M.Nm => decide (M.get d p.2 = some n)) (decide_eq_true c1)]
        refine step_done (fun e => ?_) l
        rw [e, hs] at c1
        have := Option.some.inj c1
        omega
      · rw [if_neg (fun q => c1 q.2.2)]
        rw [List.find?_cons_of_neg (p := fun p : M.Nm × M.Nm => decide (M.get d p.2 = some n)) (by rw [decide_eq_false c1]; decide)]
        exact ih
    · rw [if_neg (fun q => c0 q.1), if_neg c0]
      exact ih
abbrev KB2 : MS := (sSeq (sSet 6 (eVar 4)) (sSeq (sFor (iSeq (eVar 0)) (gN 7) PB) (sSet 4 (eVar 6))))
theorem due_out {R : List M.Row} {b : D} {d : M.Dt Nat} (hF : M.Far R (M.get d)) (hl : R.length < 100) : ∀ (xs : List D) (s : M.Nm) (ms : List M.Nm) (z5 z6 z7 : Option V), M.get d s = some xs.length → okA1 z5 → okA1 z6 → okA1 z7 → ms.length + xs.length < 100 →
    ∃ s' z5' z6' z7', forV (gN 5) KB2 xs (DL (rowsD R) b d ms s z5 z6 z7) [] = .nx (DL (rowsD R) b d (ms ++ M.W (M.get d) R xs.length s) s' z5' z6' z7') []
  | [], s, ms, z5, z6, z7, _, _, _, _, _ => ⟨s, z5, z6, z7, by rw [List.length_nil]; unfold M.W; rw [List.append_nil]; rfl⟩
  | x :: xs, s, ms, z5, z6, z7, hs, h5, h6, h7, hm => by
    rw [List.length_cons] at hs hm ⊢
    obtain ⟨r, hr, er, hk⟩ := hF.ex _ _ hs
    obtain ⟨z7', g1, g2⟩ := due_in (a := rowsD R) (b := b) (d := d) (s := s) (z5 := some (.v x)) (.inr ⟨_, rfl⟩) hs R s ms z7 h7 (by omega)
    rw [step_nxt hs] at g2
    have hg : gN 5 (.v x) (DL (rowsD R) b d ms s z5 z6 z7) [] = some (DL (rowsD R) b d ms s (some (.v x)) z6 z7, []) := by
      rcases h5 with rfl | ⟨d5, rfl⟩ <;> rcases h6 with rfl | ⟨d6, rfl⟩ <;> rcases h7 with rfl | ⟨d7, rfl⟩ <;> rfl
    have s6 : (sSet 6 (eVar 4)) (DL (rowsD R) b d ms s (some (.v x)) z6 z7) [] = .nx (DL (rowsD R) b d ms s (some (.v x)) (some (.v (.str s))) z7) [] := by
      rcases h6 with rfl | ⟨d6, rfl⟩ <;> rcases h7 with rfl | ⟨d7, rfl⟩ <;> rfl
    cases hn : M.nxt (M.get d) R xs.length s with
    | none =>
      unfold M.nxt at hn
      exact absurd (decide_eq_true hk) (List.find?_eq_none.mp hn r.2 (M.mem_mv.mpr (by rw [← er]; exact hr)))
    | some p =>
      rw [hn] at g2
      have hp : M.get d p.2 = some xs.length := by
        unfold M.nxt at hn
        exact of_decide_eq_true (List.find?_some (p := fun p : M.Nm × M.Nm => decide (M.get d p.2 = some xs.length)) hn)
      have s4 : (sSet 4 (eVar 6)) (DL (rowsD R) b d (ms ++ [p.1]) s (some (.v x)) (some (.v (.str p.2))) z7') [] = .nx (DL (rowsD R) b d (ms ++ [p.1]) p.2 (some (.v x)) (some (.v (.str p.2))) z7') [] := by
        rcases g1 with rfl | ⟨d7, rfl⟩ <;> rfl
      obtain ⟨s', y5, y6, y7, e⟩ := due_out hF hl xs p.2 (ms ++ [p.1]) (some (.v x)) (some (.v (.str p.2))) z7' hp (.inr ⟨_, rfl⟩) (.inr ⟨_, rfl⟩) g1 (by rw [List.length_append, List.length_singleton]; omega)
      refine ⟨s', y5, y6, y7, ?_⟩
      rw [forV_cons hg]
      dsimp only
      have body : KB2 (DL (rowsD R) b d ms s (some (.v x)) z6 z7) [] = .nx (DL (rowsD R) b d (ms ++ [p.1]) p.2 (some (.v x)) (some (.v (.str p.2))) z7') [] :=
        (seq_of s6).trans ((seq_of ((sFor_of (iSeq_of (m := eVar 0) (d := rowsD R) (k := .lst) (xs := R.map rowD) rfl rfl rfl)).trans g2)).trans s4)
      rw [body, loopK_nx, e, M.W_of hn, List.append_assoc]; rfl
theorem due_ok {P : List M.Nm} (hP : P.length ≤ 13) {R : List M.Row} (hR : ∀ r ∈ R, r.1 ≠ M.bad ∧ r.1 ∈ P) (hl : R.length < 100) {s : M.Nm} : f_law_due [.v (rowsD R), .v (.str s)] [] = .ok (match M.dueM R s with
    | some l => .nd .ow .lst (strL l)
    | none => .non) [] ∧ ∀ l, M.dueM R s = some l → l.length ≤ 13 := by
  obtain ⟨f1, f2⟩ := far_ok hP fun r hr => (hR r hr).2
  have hF := M.far_ok hP hR
  have no := M.far_le hP hR
  have s2 : (sSet 2 (eCall f_law_far [] (aCons (eVar 0) aNil))) [some (.v (rowsD R)), some (.v (.str s)), none, none, none, none, none, none] [] = .nx [some (.v (rowsD R)), some (.v (.str s)), some (.v (dctD .ow eI (M.far R))), none, none, none, none, none] [] := by
    have c : eCall f_law_far [] (aCons (eVar 0) aNil) [some (.v (rowsD R)), some (.v (.str s)), none, none, none, none, none, none] [] = .ok (.v (dctD .ow eI (M.far R))) [some (.v (rowsD R)), some (.v (.str s)), none, none, none, none, none, none] [] := call_of (xs := [.v (rowsD R)]) (ds := [rowsD R]) rfl rfl f1
    rw [sSet_ap, c]; rfl
  have v2 : eVar 2 [some (.v (rowsD R)), some (.v (.str s)), some (.v (dctD .ow eI (M.far R))), none, none, none, none, none] [] = .ok (.pth (.l 2) []) [some (.v (rowsD R)), some (.v (.str s)), some (.v (dctD .ow eI (M.far R))), none, none, none, none, none] [] := rfl
  have vv : val (.pth (.l 2) []) [some (.v (rowsD R)), some (.v (.str s)), some (.v (dctD .ow eI (M.far R))), none, none, none, none, none] [] = some (dctD .ow eI (M.far R)) := atD_l rfl
  have t : (toT (eDIn true (eVar 1) (eVar 2))) [some (.v (rowsD R)), some (.v (.str s)), some (.v (dctD .ow eI (M.far R))), none, none, none, none, none] [] = .ok (!(M.get (M.far R) s).isSome) [some (.v (rowsD R)), some (.v (.str s)), some (.v (dctD .ow eI (M.far R))), none, none, none, none, none] [] := toT_of (op_of (x := .v (.str s)) rfl v2 (gDIn_of vv))
  unfold M.dueM
  cases h : M.get (M.far R) s with
  | none =>
    rw [h] at t
    refine ⟨fnOf_rt (gh := []) rfl ?_ rfl, fun l e => by cases e⟩
    refine (seq_of s2).trans ?_
    rw [sSeq_ap, if_yes t]; rfl
  | some n =>
    rw [h] at t
    have hn : n ≤ 13 := no s n h
    refine ⟨fnOf_rt (gh := []) rfl ?_ rfl, fun l e => ?_⟩
    · refine (seq_of s2).trans ((seq_of ((if_no t).trans rfl)).trans ?_)
      have e3 : (sSet 3 (eLst aNil)) [some (.v (rowsD R)), some (.v (.str s)), some (.v (dctD .ow eI (M.far R))), none, none, none, none, none] [] = .nx [some (.v (rowsD R)), some (.v (.str s)), some (.v (dctD .ow eI (M.far R))), some (.v (.nd .ow .lst (strL []))), none, none, none, none] [] := rfl
      have e4 : (sSet 4 (eVar 1)) [some (.v (rowsD R)), some (.v (.str s)), some (.v (dctD .ow eI (M.far R))), some (.v (.nd .ow .lst (strL []))), none, none, none, none] [] = .nx (DL (rowsD R) (.str s) (M.far R) [] s none none none) [] := rfl
      refine (seq_of e3).trans ((seq_of e4).trans ?_)
      have ln : (rngD 0 (n : Int)).length = n := by rw [rng0]; simp
      obtain ⟨s', y5, y6, y7, e⟩ := due_out (b := .str s) hF hl (rngD 0 (n : Int)) s [] none none none (by rw [ln]; exact h) (.inl rfl) (.inl rfl) (.inl rfl) (by rw [ln, List.length_nil]; omega)
      rw [ln, List.nil_append] at e
      have vv : val (.pth (.l 2) []) (DL (rowsD R) (.str s) (M.far R) [] s none none none) [] = some (dctD .ow eI (M.far R)) := atD_l rfl
      refine (seq_of ((sFor_of (iR1_of (n := n) (op_of (x := .pth (.l 2) []) (y := .v (.str s)) rfl rfl (gDGet_of (e := eI) vv h rfl)) (by omega))).trans e)).trans ?_
      rfl
    · cases e
      have : ∀ n s, (M.W (M.get (M.far R)) R n s).length ≤ n := fun n => by
        induction n with
        | zero => intro s; exact Nat.le_refl _
        | succ n ih =>
          intro s
          unfold M.W
          split
          · rename_i p _; have := ih p.2; rw [List.length_cons]; omega
          · exact Nat.zero_le _
      have := this n s
      omega
end K44.V
set_option Elab.async false
set_option linter.all false
set_option maxRecDepth 100000
set_option maxHeartbeats 4000000
set_option cbv.maxSteps 1000000
set_option pp.maxSteps 400
namespace K44.V
open VL
open GL (PV)
section
variable {ls gh ls1 gh1 : Ls}
theorem iSeq_o {m : PE} {xs : List D} (h : m ls gh = .ok (.v (.nd .ow .lst xs)) ls1 gh1) (hz : D.frzs xs = some xs) : iSeq m ls gh = .ok xs ls1 gh1 := by
  unfold iSeq
  rw [h, bind_ok]
  unfold kSeq frzSeq
  have e : D.frz (.nd .ow .lst xs) = some (.nd .fz .lst xs) := by simp [D.frz, hz]
  simp only [cvR]
  rw [if_neg (by decide), e]
  rfl
theorem shrK_s {x : RV} {xs : List D} (h : xs.all D.shr = true) : shrK x xs = some xs := by unfold shrK; rw [if_pos h]
theorem strs_shr (xs : List (List Nat)) : (strL xs).all D.shr = true := by unfold strL; rw [List.all_map, List.all_eq_true]; intro x _; rfl
theorem add_vv {k k' : Fl} {a b : List D} (sa : a.all D.shr = true) (sb : b.all D.shr = true) (hl : a.length + b.length ≤ 10000) : gAdd (.v (.nd k .lst a)) (.v (.nd k' .lst b)) ls gh = .ok (.v (.nd .ow .lst (a ++ b))) ls gh := by
  have hlim : a.length + b.length ≤ GL.lim := by
    have : GL.lim = 100000 := rfl
    omega
  have h1 : lstK (.v (.nd k .lst a)) ls gh = some a := by
    have hs : seqV (.v (.nd k .lst a)) ls gh = some (.lst, a) := rfl
    unfold lstK
    rw [hs]
    exact shrK_s sa
  have h2 : lstK (.v (.nd k' .lst b)) ls gh = some b := by
    have hs : seqV (.v (.nd k' .lst b)) ls gh = some (.lst, b) := rfl
    unfold lstK
    rw [hs]
    exact shrK_s sb
  show (match lstK (.v (.nd k .lst a)) ls gh, lstK (.v (.nd k' .lst b)) ls gh with
    | some a, some b => if a.length + b.length ≤ GL.lim then Out.ok (RV.v (.nd .ow .lst (a ++ b))) ls gh else .bad
    | _, _ => .bad) = _
  rw [h1, h2]
  exact if_pos hlim
theorem add_tt {a b : List D} (hl : a.length + b.length ≤ 10000) : gAdd (.v (.tup a)) (.v (.tup b)) ls gh = .ok (.v (.tup (a ++ b))) ls gh := by
  have hlim : a.length + b.length ≤ GL.lim := by
    have : GL.lim = 100000 := rfl
    omega
  show (if a.length + b.length ≤ GL.lim then Out.ok (RV.v (.tup (a ++ b))) ls gh else .bad) = _
  exact if_pos hlim
theorem list_t {xs : List D} (h : xs.all D.shr = true) : f1List (.v (.tup xs)) ls gh = .ok (.v (.nd .ow .lst xs)) ls gh := by
  show (match shrK (.v (.tup xs)) xs with
    | some ys => Out.ok (RV.v (.nd .ow .lst ys)) ls gh
    | none => .bad) = _
  rw [shrK_s h]
end
theorem strL_app (a b : List (List Nat)) : strL (a ++ b) = strL a ++ strL b := by unfold strL; rw [List.map_append]
theorem get_mem_nd {α : Type} : ∀ {d : M.Dt α} {k : M.Nm} {v : α}, Nd d → (k, v) ∈ d → M.get d k = some v
  | [], k, v, _, h => by cases h
  | q :: r, k, v, hn, h => by
    have hn : (q.1 :: r.map (·.1)).Nodup := hn
    obtain ⟨n1, n2⟩ := List.nodup_cons.mp hn
    unfold M.get
    rcases List.mem_cons.mp h with h | h
    · rw [← h, if_pos rfl]
    · have e : ¬ q.1 = k := fun e => n1 (by rw [e]; exact List.mem_map_of_mem (f := (·.1)) h)
      rw [if_neg e]
      exact get_mem_nd n2 h
theorem get_key {ws : M.Ws} {k : M.Nm} : (M.get ws k).isSome = decide (k ∈ M.keys ws) := by
  induction ws with
  | nil => rfl
  | cons q r ih =>
    unfold M.get M.keys
    rw [List.map_cons]
    by_cases h : q.1 = k
    · rw [if_pos h, decide_eq_true (by rw [h]; exact List.mem_cons_self)]; rfl
    · rw [if_neg h, ih]
      exact decide_eq_decide.mpr ⟨fun h => List.mem_cons_of_mem _ h, fun h2 => (List.mem_cons.mp h2).resolve_left (fun e => h e.symm)⟩
theorem get_app {α : Type} {d e : M.Dt α} {k : M.Nm} {v : α} (h : M.get d k = some v) : M.get (d ++ e) k = some v := by
  induction d with
  | nil => cases h
  | cons q r ih =>
    rw [List.cons_append]
    have h : (if q.1 = k then some q.2 else M.get r k) = some v := h
    show (if q.1 = k then some q.2 else M.get (r ++ e) k) = some v
    by_cases hq : q.1 = k
    · rw [if_pos hq] at h ⊢; exact h
    · rw [if_neg hq] at h ⊢; exact ih h
def tw : List M.Nm → D := fun w => .tup (strL w)
abbrev SL (T : D) (ws : M.Ws) (p : Int) (z4 z5 z6 : Option V) : Ls := [some (.v T), some (.v (dctD .ow tw ws)), some (.v (.nd .ow .lst (strL (M.keys ws)))), some (.v (.int p)), z4, z5, z6]
abbrev SB1 : MS := (sIf (toT (eOp gEq (eVar 6) (eC w_BAD)))
  (sRet (eOp gAdd (eB fList (aCons (eDGet (eVar 1) (eVar 4)) aNil)) (eLst (aCons (eVar 5) aNil))))
  sNil)
abbrev SB2 : MS := (sIf (toT (eDIn true (eVar 6) (eVar 1)))
  (sSeq (sDPutM (eVar 1) (eVar 6) (eOp gAdd (eDGet (eVar 1) (eVar 4)) (eTup (aCons (eVar 5) aNil))))
  (sExpr (eMt kList mAppend (eVar 2) (aCons (eVar 6) aNil))))
  sNil)
theorem scen_bad {T : D} {ws : M.Ws} {pl : Int} {q m : M.Nm} {w : List M.Nm} (hq : M.get ws q = some w) (hw : w.length < 1000) :
    sSeq SB1 SB2 (SL T ws pl (some (.v (.str q))) (some (.v (.str m))) (some (.v (.str M.bad)))) [] = .rt (.nd .ow .lst (strL (w ++ [m]))) [] := by
  have vv : val (.pth (.l 1) []) (SL T ws pl (some (.v (.str q))) (some (.v (.str m))) (some (.v (.str M.bad)))) [] = some (dctD .ow tw ws) := atD_l rfl
  have e1 : (toT (eOp gEq (eVar 6) (eC w_BAD))) (SL T ws pl (some (.v (.str q))) (some (.v (.str m))) (some (.v (.str M.bad)))) [] = .ok true (SL T ws pl (some (.v (.str q))) (some (.v (.str m))) (some (.v (.str M.bad)))) [] := rfl
  have g1 : (eDGet (eVar 1) (eVar 4)) (SL T ws pl (some (.v (.str q))) (some (.v (.str m))) (some (.v (.str M.bad)))) [] = .ok (.v (tw w)) (SL T ws pl (some (.v (.str q))) (some (.v (.str m))) (some (.v (.str M.bad)))) [] := op_of (x := .pth (.l 1) []) (y := .v (.str q)) rfl rfl (gDGet_of (e := tw) vv hq rfl)
  have g2 : (eB fList (aCons (eDGet (eVar 1) (eVar 4)) aNil)) (SL T ws pl (some (.v (.str q))) (some (.v (.str m))) (some (.v (.str M.bad)))) [] = .ok (.v (.nd .ow .lst (strL w))) (SL T ws pl (some (.v (.str q))) (some (.v (.str m))) (some (.v (.str M.bad)))) [] := by
    rw [eB_ap, aCons_ap, g1, bind_ok, aNil_ap, bind_ok, bind_ok]
    exact list_t (strs_shr w)
  have g3 := op_of (g := gAdd) g2 (rfl : (eLst (aCons (eVar 5) aNil)) (SL T ws pl (some (.v (.str q))) (some (.v (.str m))) (some (.v (.str M.bad)))) [] = .ok (.v (.nd .ow .lst [.str m])) _ _) (add_vv (strs_shr w) rfl (by unfold strL; rw [List.length_map]; show w.length + 1 ≤ _; omega))
  have e2 : SB1 (SL T ws pl (some (.v (.str q))) (some (.v (.str m))) (some (.v (.str M.bad)))) [] = .rt (.nd .ow .lst (strL w ++ [.str m])) [] := by
    refine (if_yes e1).trans ?_
    rw [sRet_ap, g3]; rfl
  rw [sSeq_ap, e2, strL_app]; rfl
theorem scen_turn {T : D} {ws : M.Ws} {pl : Int} {q m a : M.Nm} {w : List M.Nm} (hn : Nd ws) (hq : M.get ws q = some w) (hw : w.length < 900) (hl : ws.length < 900) (ha : a ≠ M.bad) :
    sSeq SB1 SB2 (SL T ws pl (some (.v (.str q))) (some (.v (.str m))) (some (.v (.str a)))) [] = .nx (SL T (if a ∈ M.keys ws then ws else ws ++ [(a, w ++ [m])]) pl (some (.v (.str q))) (some (.v (.str m))) (some (.v (.str a)))) [] := by
  have vv : val (.pth (.l 1) []) (SL T ws pl (some (.v (.str q))) (some (.v (.str m))) (some (.v (.str a)))) [] = some (dctD .ow tw ws) := atD_l rfl
  have e1 : (toT (eOp gEq (eVar 6) (eC w_BAD))) (SL T ws pl (some (.v (.str q))) (some (.v (.str m))) (some (.v (.str a)))) [] = .ok false (SL T ws pl (some (.v (.str q))) (some (.v (.str m))) (some (.v (.str a)))) [] := by
    have := toT_of (op_of (g := gEq) (a := eVar 6) (b := eC w_BAD) (ls := SL T ws pl (some (.v (.str q))) (some (.v (.str m))) (some (.v (.str a)))) (gh := []) (x := .v (.str a)) (y := .v (.str M.bad)) rfl rfl gEq_str)
    rw [this, if_neg (by decide), decide_eq_false ha]
  have t : (toT (eDIn true (eVar 6) (eVar 1))) (SL T ws pl (some (.v (.str q))) (some (.v (.str m))) (some (.v (.str a)))) [] = .ok (!decide (a ∈ M.keys ws)) (SL T ws pl (some (.v (.str q))) (some (.v (.str m))) (some (.v (.str a)))) [] := by
    rw [← get_key]
    exact toT_of (op_of (x := .v (.str a)) (y := .pth (.l 1) []) rfl rfl (gDIn_of vv))
  refine (seq_of ((if_no e1).trans rfl)).trans ?_
  by_cases hk : a ∈ M.keys ws
  · rw [if_pos hk]
    rw [decide_eq_true hk] at t
    exact if_no t
  · rw [if_neg hk]
    rw [decide_eq_false hk] at t
    refine (if_yes t).trans ?_
    have g1 : (eDGet (eVar 1) (eVar 4)) (SL T ws pl (some (.v (.str q))) (some (.v (.str m))) (some (.v (.str a)))) [] = .ok (.v (tw w)) (SL T ws pl (some (.v (.str q))) (some (.v (.str m))) (some (.v (.str a)))) [] := op_of (x := .pth (.l 1) []) (y := .v (.str q)) rfl rfl (gDGet_of (e := tw) vv hq rfl)
    have g2 : (eOp gAdd (eDGet (eVar 1) (eVar 4)) (eTup (aCons (eVar 5) aNil))) (SL T ws pl (some (.v (.str q))) (some (.v (.str m))) (some (.v (.str a)))) [] = .ok (.v (tw (w ++ [m]))) (SL T ws pl (some (.v (.str q))) (some (.v (.str m))) (some (.v (.str a)))) [] := by
      refine op_of g1 (rfl : (eTup (aCons (eVar 5) aNil)) (SL T ws pl (some (.v (.str q))) (some (.v (.str m))) (some (.v (.str a)))) [] = .ok (.v (.tup [.str m])) _ _) ?_
      unfold tw
      rw [strL_app]
      exact add_tt (by unfold strL; rw [List.length_map]; show w.length + 1 ≤ _; omega)
    have hg0 : M.get ws a = none := by
      have := get_key (ws := ws) (k := a)
      rw [decide_eq_false hk] at this
      cases h : M.get ws a with
      | none => rfl
      | some v => rw [h] at this; cases this
    have put : (sDPutM (eVar 1) (eVar 6) (eOp gAdd (eDGet (eVar 1) (eVar 4)) (eTup (aCons (eVar 5) aNil)))) (SL T ws pl (some (.v (.str q))) (some (.v (.str m))) (some (.v (.str a)))) [] = .nx [some (.v T), some (.v (dctD .ow tw (ws ++ [(a, w ++ [m])]))), some (.v (.nd .ow .lst (strL (M.keys ws)))), some (.v (.int pl)), some (.v (.str q)), some (.v (.str m)), some (.v (.str a))] [] := by
      unfold sDPutM
      rw [g2, then_ok]
      have v1 : eVar 1 (SL T ws pl (some (.v (.str q))) (some (.v (.str m))) (some (.v (.str a)))) [] = .ok (.pth (.l 1) []) (SL T ws pl (some (.v (.str q))) (some (.v (.str m))) (some (.v (.str a)))) [] := rfl
      have v6 : eVar 6 (SL T ws pl (some (.v (.str q))) (some (.v (.str m))) (some (.v (.str a)))) [] = .ok (.v (.str a)) (SL T ws pl (some (.v (.str q))) (some (.v (.str m))) (some (.v (.str a)))) [] := rfl
      rw [v1, then_ok, v6, then_ok]
      obtain ⟨t, e⟩ := putK_of (e := tw) (key := a) (v := w ++ [m]) (ls := SL T ws pl (some (.v (.str q))) (some (.v (.str m))) (some (.v (.str a)))) (gh := []) (i := 1) rfl hn (by omega)
      rw [put_none _ hg0] at e
      rw [e]; rfl
    refine (seq_of put).trans ?_
    have hlim : (strL (M.keys ws)).length < GL.lim := by
      have : GL.lim = 100000 := rfl
      unfold strL M.keys
      rw [List.length_map, List.length_map]; omega
    have mm := mAppend_l (ls := [some (.v T), some (.v (dctD .ow tw (ws ++ [(a, w ++ [m])]))), some (.v (.nd .ow .lst (strL (M.keys ws)))), some (.v (.int pl)), some (.v (.str q)), some (.v (.str m)), some (.v (.str a))]) (gh := []) (i := 2) (d := .str a) rfl hlim
    have es : strL (M.keys (ws ++ [(a, w ++ [m])])) = strL (M.keys ws) ++ [.str a] := by unfold M.keys; rw [List.map_append, strL_app]; rfl
    show ((mAppend (.pth (.l 2) []) [.v (.str a)]) [some (.v T), some (.v (dctD .ow tw (ws ++ [(a, w ++ [m])]))), some (.v (.nd .ow .lst (strL (M.keys ws)))), some (.v (.int pl)), some (.v (.str q)), some (.v (.str m)), some (.v (.str a))] []).then (fun _ ls gh => .nx ls gh) = _
    rw [mm]
    unfold SL
    rw [es]; rfl
abbrev gP : MG := (gT (gsCons (gN 5) (gsCons (gN 6) gsNil)))
theorem gP_ok {T : D} {ws : M.Ws} {pl : Int} {z4 z5 z6 : Option V} (h4 : okA1 z4) (h5 : okA1 z5) (h6 : okA1 z6) (p : M.Nm × M.Nm) : gP (.v (mvD p)) (SL T ws pl z4 z5 z6) [] = some (SL T ws pl z4 (some (.v (.str p.1))) (some (.v (.str p.2))), []) := by
  rcases h4 with rfl | ⟨d4, rfl⟩ <;> rcases h5 with rfl | ⟨d5, rfl⟩ <;> rcases h6 with rfl | ⟨d6, rfl⟩ <;> rfl
structure WI (P : List M.Nm) (n : Nat) (ws : M.Ws) : Prop where
  nd : Nd ws
  k : ∀ x ∈ ws, x.1 ∈ P
  l : ∀ x ∈ ws, x.2.length ≤ n
theorem WI.len {P : List M.Nm} {n : Nat} {ws : M.Ws} (h : WI P n ws) : ws.length ≤ P.length := by
  have := M.nodup_sub h.nd fun x hx => by
    obtain ⟨q, hq, rfl⟩ := List.mem_map.mp hx
    exact h.k q hq
  rw [List.length_map] at this
  exact this
theorem scen_in {P : List M.Nm} (hP : P.length ≤ 13) {T : D} {pl : Int} {q : M.Nm} {w : List M.Nm} {n : Nat} (hw : w.length ≤ n) (hn : n ≤ 20) : ∀ (ms : List (M.Nm × M.Nm)) (ws : M.Ws) (z5 z6 : Option V), (∀ p ∈ ms, p.2 = M.bad ∨ p.2 ∈ P) → WI P (n + 1) ws → M.get ws q = some w → okA1 z5 → okA1 z6 →
    match M.inner w ms ws with
    | .inl l => forV gP (sSeq SB1 SB2) (ms.map mvD) (SL T ws pl (some (.v (.str q))) z5 z6) [] = .rt (.nd .ow .lst (strL l)) []
    | .inr ws' => ∃ z5' z6', okA1 z5' ∧ okA1 z6' ∧ forV gP (sSeq SB1 SB2) (ms.map mvD) (SL T ws pl (some (.v (.str q))) z5 z6) [] = .nx (SL T ws' pl (some (.v (.str q))) z5' z6') [] ∧ WI P (n + 1) ws' ∧ ws.length ≤ ws'.length
  | [], ws, z5, z6, _, h, _, h5, h6 => ⟨z5, z6, h5, h6, rfl, h, Nat.le_refl _⟩
  | p :: ms, ws, z5, z6, hm, h, hq, h5, h6 => by
    have hlen := h.len
    unfold M.inner
    rw [List.map_cons, forV_cons (gP_ok (.inr ⟨_, rfl⟩) h5 h6 p)]
    dsimp only
    by_cases hb : p.2 = M.bad
    · rw [if_pos hb, hb, scen_bad hq (by omega)]; rfl
    · rw [if_neg hb, scen_turn h.nd hq (by omega) (by omega) hb, loopK_nx]
      have hp := (hm p List.mem_cons_self).resolve_left hb
      by_cases hk : p.2 ∈ M.keys ws
      · rw [if_pos hk]
        exact scen_in hP hw hn ms ws _ _ (fun x hx => hm x (List.mem_cons_of_mem _ hx)) h hq (.inr ⟨_, rfl⟩) (.inr ⟨_, rfl⟩)
      · rw [if_neg hk]
        have mem : ∀ x ∈ ws ++ [(p.2, w ++ [p.1])], x ∈ ws ∨ x = (p.2, w ++ [p.1]) := fun x hx => (List.mem_append.mp hx).imp id List.mem_singleton.mp
        have h2 : WI P (n + 1) (ws ++ [(p.2, w ++ [p.1])]) := ⟨M.nd_add h.nd hk, fun x hx => by
          rcases mem x hx with e | e
          · exact h.k x e
          · rw [e]; exact hp, fun x hx => by
          rcases mem x hx with e | e
          · exact h.l x e
          · rw [e]; simp; omega⟩
        have go := scen_in hP (T := T) (pl := pl) (q := q) hw hn ms (ws ++ [(p.2, w ++ [p.1])]) (some (.v (.str p.1))) (some (.v (.str p.2))) (fun x hx => hm x (List.mem_cons_of_mem _ hx)) h2 (get_app hq) (.inr ⟨_, rfl⟩) (.inr ⟨_, rfl⟩)
        cases hi : M.inner w ms (ws ++ [(p.2, w ++ [p.1])]) with
        | inl l => rw [hi] at go; exact go
        | inr ws' =>
          rw [hi] at go
          obtain ⟨y5, y6, g1, g2, g3, g4, g5⟩ := go
          exact ⟨y5, y6, g1, g2, g3, g4, by rw [List.length_append] at g5; omega⟩
abbrev SCo : PT := (toT (eOp gLt (eVar 3) (eB fLen (aCons (eVar 2) aNil))))
abbrev SWb : MS := (sSeq (sSet 4 (eOp gIx (eVar 2) (eVar 3)))
  (sSeq (sFor (iSeq (eMeth n_Table n_moves f_Table_moves [] (eVar 0) (aCons (eVar 4) aNil))) gP (sSeq SB1 SB2))
  (sAug 3 (gInt fun i j => i + j) (eC (.int 1)))))
theorem scen_co {T : D} {ws : M.Ws} {p : Nat} {z4 z5 z6 : Option V} : SCo (SL T ws (p : Int) z4 z5 z6) [] = .ok (decide (p < ws.length)) (SL T ws (p : Int) z4 z5 z6) [] := by
  have hl : (eB fLen (aCons (eVar 2) aNil)) (SL T ws (p : Int) z4 z5 z6) [] = .ok (.v (.int ((strL (M.keys ws)).length : Nat))) (SL T ws (p : Int) z4 z5 z6) [] := by
    rw [eB_ap, aCons_ap]
    show f1Len (.pth (.l 2) []) (SL T ws (p : Int) z4 z5 z6) [] = _
    exact f1Len_p (atD_l rfl)
  have := toT_of (op_of (g := gLt) (rfl : eVar 3 (SL T ws (p : Int) z4 z5 z6) [] = .ok (.v (.int (p : Int))) _ _) hl gCmp_int)
  refine this.trans ?_
  have e : (strL (M.keys ws)).length = ws.length := by unfold strL M.keys; rw [List.length_map, List.length_map]
  rw [e, show decide ((p : Int) < ((ws.length : Nat) : Int)) = decide (p < ws.length) from decide_eq_decide.mpr (by omega)]
theorem scen_wh {P : List M.Nm} (hP : P.length ≤ 13) {R : List M.Row} (hRP : ∀ r ∈ R, r.2.2 = M.bad ∨ r.2.2 ∈ P) (hl : R.length < 1000) {s0 : M.Nm} : ∀ (n p f : Nat) (ws : M.Ws) (z4 z5 z6 : Option V), p + n = 15 → n < f → p ≤ ws.length → WI P p ws → okA1 z4 → okA1 z5 → okA1 z6 →
    match M.bfs R n p ws with
    | some l => whileL SCo SWb f (SL (tabD .fz s0 R) ws (p : Int) z4 z5 z6) [] = .rt (.nd .ow .lst (strL l)) []
    | none => ∃ ls, whileL SCo SWb f (SL (tabD .fz s0 R) ws (p : Int) z4 z5 z6) [] = .nx ls []
  | 0, p, f, ws, z4, z5, z6, hp, hf, hw, h, _, _, _ => by have := h.len; omega
  | n + 1, p, 0, ws, z4, z5, z6, hp, hf, hw, h, _, _, _ => absurd hf (Nat.not_lt_zero _)
  | n + 1, p, f + 1, ws, z4, z5, z6, hp, hf, hw, h, h4, h5, h6 => by
    have hlen := h.len
    unfold M.bfs
    cases hq : ws[p]? with
    | none =>
      have hge : ws.length ≤ p := List.getElem?_eq_none_iff.mp hq
      refine ⟨SL (tabD .fz s0 R) ws (p : Int) z4 z5 z6, ?_⟩
      unfold whileL
      rw [scen_co, decide_eq_false (by omega)]; rfl
    | some q =>
      have hlt : p < ws.length := (List.getElem?_eq_some_iff.mp hq).1
      have hmem := List.mem_of_getElem? hq
      have hg : M.get ws q.1 = some q.2 := get_mem_nd h.nd (by exact hmem)
      have w1 : WI P (p + 1) ws := ⟨h.nd, h.k, fun x hx => Nat.le_succ_of_le (h.l x hx)⟩
      have go := scen_in hP (T := tabD .fz s0 R) (pl := (p : Int)) (q := q.1) (h.l q hmem) (by omega) (M.mv R q.1) ws z5 z6 (fun x hx => hRP _ (M.mem_mv.mp hx)) w1 hg h5 h6
      have s4 : (sSet 4 (eOp gIx (eVar 2) (eVar 3))) (SL (tabD .fz s0 R) ws (p : Int) z4 z5 z6) [] = .nx (SL (tabD .fz s0 R) ws (p : Int) (some (.v (.str q.1))) z5 z6) [] := by
        have e : (eOp gIx (eVar 2) (eVar 3)) (SL (tabD .fz s0 R) ws (p : Int) z4 z5 z6) [] = .ok (.v (.str q.1)) (SL (tabD .fz s0 R) ws (p : Int) z4 z5 z6) [] :=
          op_of (x := .pth (.l 2) []) (y := .v (.int (p : Int))) rfl rfl (gIx_p (atD_l rfl) (by unfold strL M.keys; rw [List.getElem?_map, List.getElem?_map, hq]; rfl) rfl)
        rw [sSet_ap, e]
        rcases h4 with rfl | ⟨d4, rfl⟩ <;> rcases h5 with rfl | ⟨d5, rfl⟩ <;> rcases h6 with rfl | ⟨d6, rfl⟩ <;> rfl
      have mo : iSeq (eMeth n_Table n_moves f_Table_moves [] (eVar 0) (aCons (eVar 4) aNil)) (SL (tabD .fz s0 R) ws (p : Int) (some (.v (.str q.1))) z5 z6) [] = .ok ((M.mv R q.1).map mvD) (SL (tabD .fz s0 R) ws (p : Int) (some (.v (.str q.1))) z5 z6) [] :=
        iSeq_o (meth_of (o := eVar 0) (x := .v (tabD .fz s0 R)) (xs := [.v (.str q.1)]) (ds := [tabD .fz s0 R, .str q.1]) (dws := []) rfl rfl rfl rfl rfl (moves_ok hl)) (frzs_shr (mvs_shr _))
      unfold whileL
      have eb : SWb (SL (tabD .fz s0 R) ws (p : Int) z4 z5 z6) [] = (forV gP (sSeq SB1 SB2) ((M.mv R q.1).map mvD) (SL (tabD .fz s0 R) ws (p : Int) (some (.v (.str q.1))) z5 z6) []).seq (sAug 3 (gInt fun i j => i + j) (eC (.int 1))) := (seq_of s4).trans (by rw [sSeq_ap, sFor_of mo])
      rw [scen_co, decide_eq_true hlt, then_ok, if_pos rfl, eb]
      dsimp only
      cases hi : M.inner q.2 (M.mv R q.1) ws with
      | inl l => rw [hi] at go; rw [go]; rfl
      | inr ws' =>
        rw [hi] at go
        obtain ⟨y5, y6, g1, g2, g3, g4, g5⟩ := go
        rw [g3]
        have aug : (sAug 3 (gInt fun i j => i + j) (eC (.int 1))) (SL (tabD .fz s0 R) ws' (p : Int) (some (.v (.str q.1))) y5 y6) [] = .nx (SL (tabD .fz s0 R) ws' ((p + 1 : Nat) : Int) (some (.v (.str q.1))) y5 y6) [] := by
          rcases g1 with rfl | ⟨d5, rfl⟩ <;> rcases g2 with rfl | ⟨d6, rfl⟩ <;> rfl
        show (match M.bfs R n (p + 1) ws' with
          | some l => (match (sAug 3 (gInt fun i j => i + j) (eC (.int 1))) (SL (tabD .fz s0 R) ws' (p : Int) (some (.v (.str q.1))) y5 y6) [] with
            | .nx ls2 gh2 => whileL SCo SWb f ls2 gh2
            | .ct ls2 gh2 => whileL SCo SWb f ls2 gh2
            | .bk ls2 gh2 => .nx ls2 gh2
            | r => r) = SOut.rt (.nd .ow .lst (strL l)) []
          | none => ∃ ls, (match (sAug 3 (gInt fun i j => i + j) (eC (.int 1))) (SL (tabD .fz s0 R) ws' (p : Int) (some (.v (.str q.1))) y5 y6) [] with
            | .nx ls2 gh2 => whileL SCo SWb f ls2 gh2
            | .ct ls2 gh2 => whileL SCo SWb f ls2 gh2
            | .bk ls2 gh2 => .nx ls2 gh2
            | r => r) = SOut.nx ls [])
        rw [aug]
        exact scen_wh hP hRP hl n (p + 1) f ws' (some (.v (.str q.1))) y5 y6 (by omega) (by omega) (by omega) g4 (.inr ⟨_, rfl⟩) g1 g2
theorem scen_ok {P : List M.Nm} (hP : P.length ≤ 13) {R : List M.Row} (hR : ∀ r ∈ R, r.1 ≠ M.bad ∧ r.1 ∈ P) (hRP : ∀ r ∈ R, r.2.2 = M.bad ∨ r.2.2 ∈ P) (hl : R.length < 1000) {s0 : M.Nm} (hs : s0 ∈ P) (hb : s0 ≠ M.bad) : f_Table_scenario [.v (tabD .fz s0 R)] [] = .ok (match M.dueM R s0 with
    | some l => .nd .ow .lst (strL l)
    | none => .non) [] := by
  have go := scen_wh hP hRP hl (s0 := s0) 15 0 4000 [(s0, [])] none none none rfl (by decide) (Nat.zero_le _) ⟨by unfold Nd; simp, fun x hx => by rw [List.mem_singleton.mp hx]; exact hs, fun x hx => by rw [List.mem_singleton.mp hx]; exact Nat.le_refl _⟩ (.inl rfl) (.inl rfl) (.inl rfl)
  rw [M.scen_ok hP hR hRP hs hb] at go
  have s1 : (sSet 1 (eDisp [((eMeth n_Table n_start f_Table_start [] (eVar 0) aNil), (eTup aNil))])) [some (.v (tabD .fz s0 R)), none, none, none, none, none, none] [] = .nx [some (.v (tabD .fz s0 R)), some (.v (dctD .ow tw [(s0, [])])), none, none, none, none, none] [] := rfl
  have s2 : (sSet 2 (eLst (aCons (eMeth n_Table n_start f_Table_start [] (eVar 0) aNil) aNil))) [some (.v (tabD .fz s0 R)), some (.v (dctD .ow tw [(s0, [])])), none, none, none, none, none] [] = .nx [some (.v (tabD .fz s0 R)), some (.v (dctD .ow tw [(s0, [])])), some (.v (.nd .ow .lst (strL (M.keys [(s0, [])])))), none, none, none, none] [] := rfl
  have s3 : (sSet 3 (eC (.int 0))) [some (.v (tabD .fz s0 R)), some (.v (dctD .ow tw [(s0, [])])), some (.v (.nd .ow .lst (strL (M.keys [(s0, [])])))), none, none, none, none] [] = .nx (SL (tabD .fz s0 R) [(s0, [])] ((0 : Nat) : Int) none none none) [] := rfl
  refine fnOf_rt (gh := []) rfl ?_ rfl
  refine (seq_of s1).trans ((seq_of s2).trans ((seq_of s3).trans ?_))
  rw [sSeq_ap]
  cases hd : M.dueM R s0 with
  | some l =>
    rw [hd] at go
    show SOut.seq (whileL SCo SWb 4000 (SL (tabD .fz s0 R) [(s0, [])] ((0 : Nat) : Int) none none none) []) _ = _
    rw [go]; rfl
  | none =>
    rw [hd] at go
    obtain ⟨ls, e⟩ := go
    show SOut.seq (whileL SCo SWb 4000 (SL (tabD .fz s0 R) [(s0, [])] ((0 : Nat) : Int) none none none) []) _ = _
    rw [e]; rfl
end K44.V
set_option Elab.async false
set_option linter.all false
set_option maxRecDepth 100000
set_option maxHeartbeats 4000000
set_option cbv.maxSteps 1000000
set_option pp.maxSteps 400
namespace K44.V
open VL
open GL (PV)
def grow1 (f : List M.Nm) (p : M.Nm × M.Nm) : List M.Nm := if p.2 ≠ M.bad ∧ p.2 ∉ f then f ++ [p.2] else f
def reach (R : List M.Row) : Nat → Nat → List M.Nm → List M.Nm
  | 0, _, f => f
  | n + 1, p, f => match f[p]? with
    | none => f
    | some s => reach R n (p + 1) ((M.mv R s).foldl grow1 f)
theorem inD_str {a : M.Nm} : ∀ f : List M.Nm, inD (.str a) (strL f) = decide (a ∈ f)
  | [] => rfl
  | b :: f => by
    show (eqF (.str b) (.str a) || inD (.str a) (strL f)) = _
    rw [inD_str f]
    show (decide (b = a) || decide (a ∈ f)) = _
    by_cases h : b = a
    · subst h
      rw [decide_eq_true rfl, decide_eq_true (List.mem_cons_self (a := b) (l := f))]; rfl
    · rw [decide_eq_false h, Bool.false_or]
      exact decide_eq_decide.mpr ⟨fun h => List.mem_cons_of_mem _ h, fun h2 => (List.mem_cons.mp h2).resolve_left (fun e => h e.symm)⟩
theorem strs_flat (f : List M.Nm) : (strL f).all flatD = true := by unfold strL; rw [List.all_map, List.all_eq_true]; intro x _; rfl
theorem inM_str {a : M.Nm} {f : List M.Nm} {x : RV} {ls gh : Ls} {neg : Bool} (hx : seqV x ls gh = some (.lst, strL f)) : inM neg (.v (.str a)) x ls gh = .ok (.v (.bl (if neg then !decide (a ∈ f) else decide (a ∈ f)))) ls gh := by
  unfold inM
  rw [hx]
  show (if (flatD (.str a) && (strL f).all flatD) = true then Out.ok (RV.v (.bl (if neg then !inD (.str a) (strL f) else inD (.str a) (strL f)))) ls gh else .bad) = _
  rw [strs_flat, inD_str]
  exact if_pos rfl
structure RI (P : List M.Nm) (f : List M.Nm) : Prop where
  nd : f.Nodup
  k : ∀ x ∈ f, x ∈ P
theorem RI.len {P f : List M.Nm} (h : RI P f) : f.length ≤ P.length := M.nodup_sub h.nd h.k
theorem RI.grow {P f : List M.Nm} (h : RI P f) {p : M.Nm × M.Nm} (hp : p.2 = M.bad ∨ p.2 ∈ P) : RI P (grow1 f p) ∧ f.length ≤ (grow1 f p).length := by
  unfold grow1
  split
  · rename_i hh
    refine ⟨⟨List.nodup_append.mpr ⟨h.nd, by simp, fun a ha b hb e => hh.2 ?_⟩, fun x hx => ?_⟩, by simp⟩
    · rw [List.mem_singleton.mp hb] at e; rw [← e]; exact ha
    · rcases List.mem_append.mp hx with hx | hx
      · exact h.k x hx
      · rw [List.mem_singleton.mp hx]; exact hp.resolve_left hh.1
  · exact ⟨h, Nat.le_refl _⟩
theorem RI.grows {P : List M.Nm} : ∀ {ms : List (M.Nm × M.Nm)} {f : List M.Nm}, RI P f → (∀ p ∈ ms, p.2 = M.bad ∨ p.2 ∈ P) → RI P (ms.foldl grow1 f) ∧ f.length ≤ (ms.foldl grow1 f).length
  | [], f, h, _ => ⟨h, Nat.le_refl _⟩
  | p :: ms, f, h, hm => by
    have h1 := h.grow (hm p List.mem_cons_self)
    have h2 := RI.grows h1.1 fun x hx => hm x (List.mem_cons_of_mem _ hx)
    exact ⟨h2.1, Nat.le_trans h1.2 h2.2⟩
abbrev GLs (T : D) (f : List M.Nm) (p : Int) (z3 z4 : Option V) : Ls := [some (.v T), some (.v (.nd .ow .lst (strL f))), some (.v (.int p)), z3, z4]
abbrev GB : MS := (sIf (tAndM (toT (eOp gNe (eVar 4) (eC w_BAD))) (toT (eOp (inM true) (eVar 4) (eVar 1))))
  (sExpr (eMt kList mAppend (eVar 1) (aCons (eVar 4) aNil)))
  sNil)
theorem st_turn {T : D} {f : List M.Nm} {pl : Int} (hl : f.length < 1000) (p : M.Nm × M.Nm) : GB (GLs T f pl (some (.v (.str p.1))) (some (.v (.str p.2)))) [] = .nx (GLs T (grow1 f p) pl (some (.v (.str p.1))) (some (.v (.str p.2)))) [] := by
  have t1 : (toT (eOp gNe (eVar 4) (eC w_BAD))) (GLs T f pl (some (.v (.str p.1))) (some (.v (.str p.2)))) [] = .ok (!decide (p.2 = M.bad)) (GLs T f pl (some (.v (.str p.1))) (some (.v (.str p.2)))) [] :=
    toT_of (op_of (x := .v (.str p.2)) (y := .v (.str M.bad)) rfl rfl gEq_str)
  have t2 : (toT (eOp (inM true) (eVar 4) (eVar 1))) (GLs T f pl (some (.v (.str p.1))) (some (.v (.str p.2)))) [] = .ok (!decide (p.2 ∈ f)) (GLs T f pl (some (.v (.str p.1))) (some (.v (.str p.2)))) [] :=
    toT_of (op_of (x := .v (.str p.2)) (y := .pth (.l 1) []) rfl rfl (inM_str (seqV_p (atD_l rfl))))
  unfold grow1
  by_cases h1 : p.2 = M.bad
  · rw [if_neg (fun q => q.1 h1)]
    rw [decide_eq_true h1] at t1
    exact if_no (and_no t1)
  · rw [decide_eq_false h1] at t1
    by_cases h2 : p.2 ∈ f
    · rw [if_neg (fun q => q.2 h2)]
      rw [decide_eq_true h2] at t2
      exact if_no (and_go t1 t2)
    · rw [if_pos ⟨h1, h2⟩]
      rw [decide_eq_false h2] at t2
      refine (if_yes (and_go t1 t2)).trans ?_
      have hlim : (strL f).length < GL.lim := by
        have : GL.lim = 100000 := rfl
        unfold strL
        rw [List.length_map]; omega
      have mm := mAppend_l (ls := GLs T f pl (some (.v (.str p.1))) (some (.v (.str p.2)))) (gh := []) (i := 1) (d := .str p.2) rfl hlim
      show ((mAppend (.pth (.l 1) []) [.v (.str p.2)]) (GLs T f pl (some (.v (.str p.1))) (some (.v (.str p.2)))) []).then (fun _ ls gh => .nx ls gh) = _
      rw [mm]
      unfold GLs
      rw [strL_app]; rfl
abbrev gQ : MG := (gT (gsCons (gN 3) (gsCons (gN 4) gsNil)))
theorem st_in {P : List M.Nm} (hP : P.length ≤ 13) {T : D} {pl : Int} : ∀ (ms : List (M.Nm × M.Nm)) (f : List M.Nm) (z3 z4 : Option V), RI P f → (∀ p ∈ ms, p.2 = M.bad ∨ p.2 ∈ P) → okA1 z3 → okA1 z4 →
    ∃ z3' z4', okA1 z3' ∧ okA1 z4' ∧ forV gQ GB (ms.map mvD) (GLs T f pl z3 z4) [] = .nx (GLs T (ms.foldl grow1 f) pl z3' z4') []
  | [], f, z3, z4, _, _, h3, h4 => ⟨z3, z4, h3, h4, rfl⟩
  | p :: ms, f, z3, z4, h, hm, h3, h4 => by
    have hlen := h.len
    obtain ⟨y3, y4, g3, g4, g⟩ := st_in hP (T := T) (pl := pl) ms (grow1 f p) (some (.v (.str p.1))) (some (.v (.str p.2))) (h.grow (hm p List.mem_cons_self)).1 (fun x hx => hm x (List.mem_cons_of_mem _ hx)) (.inr ⟨_, rfl⟩) (.inr ⟨_, rfl⟩)
    refine ⟨y3, y4, g3, g4, ?_⟩
    have hg : gQ (.v (mvD p)) (GLs T f pl z3 z4) [] = some (GLs T f pl (some (.v (.str p.1))) (some (.v (.str p.2))), []) := by
      rcases h3 with rfl | ⟨d3, rfl⟩ <;> rcases h4 with rfl | ⟨d4, rfl⟩ <;> rfl
    rw [List.map_cons, forV_cons hg]
    dsimp only
    rw [st_turn (by omega), loopK_nx]
    exact g
abbrev TCo : PT := (toT (eOp gLt (eVar 2) (eB fLen (aCons (eVar 1) aNil))))
abbrev TWb : MS := (sSeq (sFor (iSeq (eMeth n_Table n_moves f_Table_moves [] (eVar 0) (aCons (eOp gIx (eVar 1) (eVar 2)) aNil))) gQ GB)
  (sAug 2 (gInt fun i j => i + j) (eC (.int 1))))
theorem st_co {T : D} {f : List M.Nm} {p : Nat} {z3 z4 : Option V} : TCo (GLs T f (p : Int) z3 z4) [] = .ok (decide (p < f.length)) (GLs T f (p : Int) z3 z4) [] := by
  have hl : (eB fLen (aCons (eVar 1) aNil)) (GLs T f (p : Int) z3 z4) [] = .ok (.v (.int ((strL f).length : Nat))) (GLs T f (p : Int) z3 z4) [] := by
    rw [eB_ap, aCons_ap]
    show f1Len (.pth (.l 1) []) (GLs T f (p : Int) z3 z4) [] = _
    exact f1Len_p (atD_l rfl)
  refine (toT_of (op_of (g := gLt) (rfl : eVar 2 (GLs T f (p : Int) z3 z4) [] = .ok (.v (.int (p : Int))) _ _) hl gCmp_int)).trans ?_
  have e : (strL f).length = f.length := by unfold strL; rw [List.length_map]
  rw [e, show decide ((p : Int) < ((f.length : Nat) : Int)) = decide (p < f.length) from decide_eq_decide.mpr (by omega)]
theorem st_wh {P : List M.Nm} (hP : P.length ≤ 13) {R : List M.Row} (hRP : ∀ r ∈ R, r.2.2 = M.bad ∨ r.2.2 ∈ P) (hl : R.length < 1000) {s0 : M.Nm} : ∀ (n p fu : Nat) (f : List M.Nm) (z3 z4 : Option V), p + n = 14 → n < fu → p ≤ f.length → RI P f → okA1 z3 → okA1 z4 →
    ∃ p' z3' z4', whileL TCo TWb fu (GLs (tabD .fz s0 R) f (p : Int) z3 z4) [] = .nx (GLs (tabD .fz s0 R) (reach R n p f) p' z3' z4') []
  | 0, p, fu, f, z3, z4, hp, hf, hw, h, _, _ => by have := h.len; omega
  | n + 1, p, 0, f, z3, z4, hp, hf, hw, h, _, _ => absurd hf (Nat.not_lt_zero _)
  | n + 1, p, fu + 1, f, z3, z4, hp, hf, hw, h, h3, h4 => by
    have hlen := h.len
    unfold reach
    cases hq : f[p]? with
    | none =>
      have hge : f.length ≤ p := List.getElem?_eq_none_iff.mp hq
      refine ⟨(p : Int), z3, z4, ?_⟩
      unfold whileL
      rw [st_co, decide_eq_false (by omega)]; rfl
    | some q =>
      have hlt : p < f.length := (List.getElem?_eq_some_iff.mp hq).1
      have hms : ∀ x ∈ M.mv R q, x.2 = M.bad ∨ x.2 ∈ P := fun x hx => hRP _ (M.mem_mv.mp hx)
      obtain ⟨y3, y4, g3, g4, g⟩ := st_in hP (T := tabD .fz s0 R) (pl := (p : Int)) (M.mv R q) f z3 z4 h hms h3 h4
      have hgr := h.grows hms
      have ix : (eOp gIx (eVar 1) (eVar 2)) (GLs (tabD .fz s0 R) f (p : Int) z3 z4) [] = .ok (.v (.str q)) (GLs (tabD .fz s0 R) f (p : Int) z3 z4) [] :=
        op_of (x := .pth (.l 1) []) (y := .v (.int (p : Int))) rfl rfl (gIx_p (atD_l rfl) (by unfold strL; rw [List.getElem?_map, hq]; rfl) rfl)
      have mo : iSeq (eMeth n_Table n_moves f_Table_moves [] (eVar 0) (aCons (eOp gIx (eVar 1) (eVar 2)) aNil)) (GLs (tabD .fz s0 R) f (p : Int) z3 z4) [] = .ok ((M.mv R q).map mvD) (GLs (tabD .fz s0 R) f (p : Int) z3 z4) [] :=
        iSeq_o (meth_of (o := eVar 0) (x := .v (tabD .fz s0 R)) (xs := [.v (.str q)]) (ds := [tabD .fz s0 R, .str q]) (dws := []) rfl rfl rfl (by rw [aCons_ap, ix]; rfl) rfl (moves_ok hl)) (frzs_shr (mvs_shr _))
      have aug : (sAug 2 (gInt fun i j => i + j) (eC (.int 1))) (GLs (tabD .fz s0 R) ((M.mv R q).foldl grow1 f) (p : Int) y3 y4) [] = .nx (GLs (tabD .fz s0 R) ((M.mv R q).foldl grow1 f) ((p + 1 : Nat) : Int) y3 y4) [] := by
        rcases g3 with rfl | ⟨d3, rfl⟩ <;> rcases g4 with rfl | ⟨d4, rfl⟩ <;> rfl
      have eb : TWb (GLs (tabD .fz s0 R) f (p : Int) z3 z4) [] = .nx (GLs (tabD .fz s0 R) ((M.mv R q).foldl grow1 f) ((p + 1 : Nat) : Int) y3 y4) [] := (seq_of ((sFor_of mo).trans g)).trans aug
      obtain ⟨p', x3, x4, e⟩ := st_wh hP hRP hl n (p + 1) fu ((M.mv R q).foldl grow1 f) y3 y4 (by omega) (by omega) (by omega) hgr.1 g3 g4
      refine ⟨p', x3, x4, ?_⟩
      unfold whileL
      rw [st_co, decide_eq_true hlt, then_ok, if_pos rfl, eb]
      exact e
theorem states_ok {P : List M.Nm} (hP : P.length ≤ 13) {R : List M.Row} (hRP : ∀ r ∈ R, r.2.2 = M.bad ∨ r.2.2 ∈ P) (hl : R.length < 1000) {s0 : M.Nm} (hs : s0 ∈ P) : f_Table_states [.v (tabD .fz s0 R)] [] = .ok (.nd .ow .lst (strL (reach R 14 0 [s0]))) [] := by
  obtain ⟨p', z3, z4, e⟩ := st_wh hP hRP hl (s0 := s0) 14 0 4000 [s0] none none rfl (by decide) (Nat.zero_le _) ⟨by simp, fun x hx => by rw [List.mem_singleton.mp hx]; exact hs⟩ (.inl rfl) (.inl rfl)
  have s1 : (sSet 1 (eLst (aCons (eMeth n_Table n_start f_Table_start [] (eVar 0) aNil) aNil))) [some (.v (tabD .fz s0 R)), none, none, none, none] [] = .nx [some (.v (tabD .fz s0 R)), some (.v (.nd .ow .lst (strL [s0]))), none, none, none] [] := rfl
  have s2 : (sSet 2 (eC (.int 0))) [some (.v (tabD .fz s0 R)), some (.v (.nd .ow .lst (strL [s0]))), none, none, none] [] = .nx (GLs (tabD .fz s0 R) [s0] ((0 : Nat) : Int) none none) [] := rfl
  refine fnOf_rt (gh := []) rfl ?_ rfl
  exact (seq_of s1).trans ((seq_of s2).trans ((seq_of e).trans rfl))
abbrev RLs (a b : D) (f : List M.Nm) (z3 z4 : Option V) : Ls := [some (.v a), some (.v b), some (.v (.nd .ow .lst (strL f))), z3, z4]
abbrev RB : MS := (sIf (tAndM (toT (eOp gNe (eOp gIx (eVar 4) (eC (.int 1))) (eC (.str n_bad)))) (toT (eOp (inM true) (eOp gIx (eVar 4) (eC (.int 1))) (eVar 2))))
  (sExpr (eMt kList mAppend (eVar 2) (aCons (eOp gIx (eVar 4) (eC (.int 1))) aNil)))
  sNil)
theorem re_turn {a b : D} {f : List M.Nm} {z3 : Option V} (h3 : okA1 z3) (hl : f.length < 1000) (p : M.Nm × M.Nm) : RB (RLs a b f z3 (some (.v (mvD p)))) [] = .nx (RLs a b (grow1 f p) z3 (some (.v (mvD p)))) [] := by
  have i1 : (eOp gIx (eVar 4) (eC (.int 1))) (RLs a b f z3 (some (.v (mvD p)))) [] = .ok (.v (.str p.2)) (RLs a b f z3 (some (.v (mvD p)))) [] := rfl
  have t1 : (toT (eOp gNe (eOp gIx (eVar 4) (eC (.int 1))) (eC (.str n_bad)))) (RLs a b f z3 (some (.v (mvD p)))) [] = .ok (!decide (p.2 = M.bad)) (RLs a b f z3 (some (.v (mvD p)))) [] :=
    toT_of (op_of (x := .v (.str p.2)) (y := .v (.str M.bad)) i1 rfl gEq_str)
  have t2 : (toT (eOp (inM true) (eOp gIx (eVar 4) (eC (.int 1))) (eVar 2))) (RLs a b f z3 (some (.v (mvD p)))) [] = .ok (!decide (p.2 ∈ f)) (RLs a b f z3 (some (.v (mvD p)))) [] :=
    toT_of (op_of (x := .v (.str p.2)) (y := .pth (.l 2) []) i1 rfl (inM_str (seqV_p (atD_l rfl))))
  unfold grow1
  by_cases h1 : p.2 = M.bad
  · rw [if_neg (fun q => q.1 h1)]
    rw [decide_eq_true h1] at t1
    exact if_no (and_no t1)
  · rw [decide_eq_false h1] at t1
    by_cases h2 : p.2 ∈ f
    · rw [if_neg (fun q => q.2 h2)]
      rw [decide_eq_true h2] at t2
      exact if_no (and_go t1 t2)
    · rw [if_pos ⟨h1, h2⟩]
      rw [decide_eq_false h2] at t2
      refine (if_yes (and_go t1 t2)).trans ?_
      have hlim : (strL f).length < GL.lim := by
        have : GL.lim = 100000 := rfl
        unfold strL
        rw [List.length_map]; omega
      have mm := mAppend_l (ls := RLs a b f z3 (some (.v (mvD p)))) (gh := []) (i := 2) (d := .str p.2) rfl hlim
      show ((mAppend (.pth (.l 2) []) [.v (.str p.2)]) (RLs a b f z3 (some (.v (mvD p)))) []).then (fun _ ls gh => .nx ls gh) = _
      rw [mm]
      unfold RLs
      rw [strL_app]
      show SOut.nx [some (.v a), some (.v b), some (.v (.nd .ow .lst (strL f ++ [.str p.2]))), killD allT (.l 2) [] z3, some (.v (mvD p))] [] = _
      rw [okA1_kill h3]; rfl
theorem re_in {P : List M.Nm} (hP : P.length ≤ 13) {a b : D} {z3 : Option V} (h3 : okA1 z3) : ∀ (ms : List (M.Nm × M.Nm)) (f : List M.Nm) (z4 : Option V), RI P f → (∀ p ∈ ms, p.2 = M.bad ∨ p.2 ∈ P) → okA1 z4 →
    ∃ z4', okA1 z4' ∧ forV (gN 4) RB (ms.map mvD) (RLs a b f z3 z4) [] = .nx (RLs a b (ms.foldl grow1 f) z3 z4') []
  | [], f, z4, _, _, h4 => ⟨z4, h4, rfl⟩
  | p :: ms, f, z4, h, hm, h4 => by
    have hlen := h.len
    obtain ⟨y4, g4, g⟩ := re_in hP (a := a) (b := b) h3 ms (grow1 f p) (some (.v (mvD p))) (h.grow (hm p List.mem_cons_self)).1 (fun x hx => hm x (List.mem_cons_of_mem _ hx)) (.inr ⟨_, rfl⟩)
    refine ⟨y4, g4, ?_⟩
    have hg : gN 4 (.v (mvD p)) (RLs a b f z3 z4) [] = some (RLs a b f z3 (some (.v (mvD p))), []) := by
      rcases h3 with rfl | ⟨d3, rfl⟩ <;> rcases h4 with rfl | ⟨d4, rfl⟩ <;> rfl
    rw [List.map_cons, forV_cons hg]
    dsimp only
    rw [re_turn h3 (by omega), loopK_nx]
    exact g
abbrev RO2 : MS := (sIf (toT (eOp gLt (eVar 3) (eB fLen (aCons (eVar 2) aNil))))
  (sFor (iSeq (eCall f_law_of [] (aCons (eVar 0) (aCons (eOp gIx (eVar 2) (eVar 3)) aNil)))) (gN 4) RB)
  sNil)
theorem re_out {P : List M.Nm} (hP : P.length ≤ 13) {R : List M.Row} (hRP : ∀ r ∈ R, r.2.2 = M.bad ∨ r.2.2 ∈ P) (hl : R.length < 1000) {b : D} : ∀ (n p : Nat) (f : List M.Nm) (z3 z4 : Option V), RI P f → okA1 z3 → okA1 z4 →
    ∃ z3' z4', forV (gN 3) RO2 ((List.range' p n).map fun (i : Nat) => D.int (i : Int)) (RLs (rowsD R) b f z3 z4) [] = .nx (RLs (rowsD R) b (reach R n p f) z3' z4') []
  | 0, p, f, z3, z4, h, _, _ => ⟨z3, z4, rfl⟩
  | n + 1, p, f, z3, z4, h, h3, h4 => by
    have hg : gN 3 (.v (.int (p : Int))) (RLs (rowsD R) b f z3 z4) [] = some (RLs (rowsD R) b f (some (.v (.int (p : Int)))) z4, []) := by
      rcases h3 with rfl | ⟨d3, rfl⟩ <;> rcases h4 with rfl | ⟨d4, rfl⟩ <;> rfl
    have co : (toT (eOp gLt (eVar 3) (eB fLen (aCons (eVar 2) aNil)))) (RLs (rowsD R) b f (some (.v (.int (p : Int)))) z4) [] = .ok (decide (p < f.length)) (RLs (rowsD R) b f (some (.v (.int (p : Int)))) z4) [] := by
      have hl : (eB fLen (aCons (eVar 2) aNil)) (RLs (rowsD R) b f (some (.v (.int (p : Int)))) z4) [] = .ok (.v (.int ((strL f).length : Nat))) (RLs (rowsD R) b f (some (.v (.int (p : Int)))) z4) [] := by
        rw [eB_ap, aCons_ap]
        show f1Len (.pth (.l 2) []) (RLs (rowsD R) b f (some (.v (.int (p : Int)))) z4) [] = _
        exact f1Len_p (atD_l rfl)
      refine (toT_of (op_of (g := gLt) (rfl : eVar 3 (RLs (rowsD R) b f (some (.v (.int (p : Int)))) z4) [] = .ok (.v (.int (p : Int))) _ _) hl gCmp_int)).trans ?_
      have e : (strL f).length = f.length := by unfold strL; rw [List.length_map]
      rw [e, show decide ((p : Int) < ((f.length : Nat) : Int)) = decide (p < f.length) from decide_eq_decide.mpr (by omega)]
    rw [List.range'_succ, List.map_cons, forV_cons hg]
    dsimp only
    unfold reach
    cases hq : f[p]? with
    | none =>
      have hge : f.length ≤ p := List.getElem?_eq_none_iff.mp hq
      rw [decide_eq_false (by omega)] at co
      obtain ⟨y3, y4, e⟩ := re_out hP hRP hl (b := b) n (p + 1) f (some (.v (.int (p : Int)))) z4 h (.inr ⟨_, rfl⟩) h4
      have er : reach R n (p + 1) f = f := by
        cases n with
        | zero => rfl
        | succ n => unfold reach; rw [List.getElem?_eq_none (by omega)]
      rw [er] at e
      refine ⟨y3, y4, ?_⟩
      have t : RO2 (RLs (rowsD R) b f (some (.v (.int (p : Int)))) z4) [] = .nx (RLs (rowsD R) b f (some (.v (.int (p : Int)))) z4) [] := if_no co
      rw [t, loopK_nx]
      exact e
    | some q =>
      have hlt : p < f.length := (List.getElem?_eq_some_iff.mp hq).1
      rw [decide_eq_true hlt] at co
      have hms : ∀ x ∈ M.mv R q, x.2 = M.bad ∨ x.2 ∈ P := fun x hx => hRP _ (M.mem_mv.mp hx)
      obtain ⟨y4, g4, g⟩ := re_in hP (a := rowsD R) (b := b) (z3 := some (.v (.int (p : Int)))) (.inr ⟨_, rfl⟩) (M.mv R q) f z4 h hms h4
      have ix : (eOp gIx (eVar 2) (eVar 3)) (RLs (rowsD R) b f (some (.v (.int (p : Int)))) z4) [] = .ok (.v (.str q)) (RLs (rowsD R) b f (some (.v (.int (p : Int)))) z4) [] :=
        op_of (x := .pth (.l 2) []) (y := .v (.int (p : Int))) rfl rfl (gIx_p (atD_l rfl) (by unfold strL; rw [List.getElem?_map, hq]; rfl) rfl)
      have mo : iSeq (eCall f_law_of [] (aCons (eVar 0) (aCons (eOp gIx (eVar 2) (eVar 3)) aNil))) (RLs (rowsD R) b f (some (.v (.int (p : Int)))) z4) [] = .ok ((M.mv R q).map mvD) (RLs (rowsD R) b f (some (.v (.int (p : Int)))) z4) [] :=
        iSeq_o (call_of (xs := [.v (rowsD R), .v (.str q)]) (ds := [rowsD R, .str q]) (dws := []) (by
          have e : (aCons (eOp gIx (eVar 2) (eVar 3)) aNil) (RLs (rowsD R) b f (some (.v (.int (p : Int)))) z4) [] = .ok [.v (.str q)] (RLs (rowsD R) b f (some (.v (.int (p : Int)))) z4) [] := by rw [aCons_ap, ix]; rfl
          show ((aCons (eOp gIx (eVar 2) (eVar 3)) aNil) (RLs (rowsD R) b f (some (.v (.int (p : Int)))) z4) []).bind (fun xs ls gh => .ok (.v (rowsD R) :: xs) ls gh) = _
          rw [e]; rfl) rfl (of_ok hl)) (frzs_shr (mvs_shr _))
      have t : RO2 (RLs (rowsD R) b f (some (.v (.int (p : Int)))) z4) [] = .nx (RLs (rowsD R) b ((M.mv R q).foldl grow1 f) (some (.v (.int (p : Int)))) y4) [] := (if_yes co).trans ((sFor_of mo).trans g)
      obtain ⟨x3, x4, e⟩ := re_out hP hRP hl (b := b) n (p + 1) ((M.mv R q).foldl grow1 f) (some (.v (.int (p : Int)))) y4 (h.grows hms).1 (.inr ⟨_, rfl⟩) g4
      refine ⟨x3, x4, ?_⟩
      rw [t, loopK_nx]
      exact e
theorem reached_ok {P : List M.Nm} (hP : P.length ≤ 13) {R : List M.Row} (hRP : ∀ r ∈ R, r.2.2 = M.bad ∨ r.2.2 ∈ P) (hl : R.length < 1000) {s0 : M.Nm} (hs : s0 ∈ P) : f_law_reached [.v (rowsD R), .v (.str s0)] [] = .ok (.nd .ow .lst (strL (reach R 14 0 [s0]))) [] := by
  obtain ⟨z3, z4, e⟩ := re_out hP hRP hl (b := .str s0) 14 0 [s0] none none ⟨by simp, fun x hx => by rw [List.mem_singleton.mp hx]; exact hs⟩ (.inl rfl) (.inl rfl)
  have s2 : (sSet 2 (eLst (aCons (eVar 1) aNil))) [some (.v (rowsD R)), some (.v (.str s0)), none, none, none] [] = .nx (RLs (rowsD R) (.str s0) [s0] none none) [] := rfl
  have r : rngD 0 ((14 : Nat) : Int) = (List.range' 0 14).map fun (i : Nat) => D.int (i : Int) := by rw [rng0, List.range_eq_range']
  refine fnOf_rt (gh := []) rfl ?_ rfl
  refine (seq_of s2).trans ((seq_of ((sFor_of (iR1_of (n := 14) rfl (by decide))).trans (by rw [r]; exact e))).trans rfl)
theorem reach_len {P : List M.Nm} (hP : P.length ≤ 13) {R : List M.Row} (hRP : ∀ r ∈ R, r.2.2 = M.bad ∨ r.2.2 ∈ P) : ∀ (n p : Nat) (f : List M.Nm), RI P f → (reach R n p f).length ≤ 13
  | 0, p, f, h => Nat.le_trans h.len hP
  | n + 1, p, f, h => by
    unfold reach
    split
    · exact Nat.le_trans h.len hP
    · rename_i q _
      exact reach_len hP hRP n (p + 1) _ (h.grows fun x hx => hRP _ (M.mem_mv.mp hx)).1
end K44.V
set_option Elab.async false
set_option linter.all false
set_option maxRecDepth 100000
set_option maxHeartbeats 4000000
set_option cbv.maxSteps 1000000
set_option pp.maxSteps 400
namespace K44.V
open VL
open GL (PV)
def PL : List M.Nm := [n_start, n_a, n_aa, n_ab, n_b, n_ba, n_empty, n_Bad, n_bad_, n_c, n_be, n_z, n_stop]
def ML : List M.Nm := [n_up, n_down, n_u, n_empty, n_bad, n_left, n_a]
theorem PL_len : PL.length ≤ 13 := by decide
theorem PL_nb : ∀ x ∈ PL, x ≠ M.bad := by decide
theorem places_ok : f_law_places [] [] = .ok (.nd .ow .lst (strL PL)) [] := by kernel_rfl
abbrev inD' (ds : List Int) : D := .nd .fz .lst (intL ds)
theorem digit_ok {ds : List Int} (i : Nat) : f_law_digit [.v (inD' ds), .v (.int (i : Int))] [] = .ok (.int (dg ds i)) [] := by
  refine fnOf_rt (gh := []) rfl ?_ rfl
  have t : (toT (eOp gLt (eVar 1) (eB fLen (aCons (eVar 0) aNil)))) [some (.v (inD' ds)), some (.v (.int (i : Int)))] [] = .ok (decide (i < ds.length)) [some (.v (inD' ds)), some (.v (.int (i : Int)))] [] := by
    have hl : (eB fLen (aCons (eVar 0) aNil)) [some (.v (inD' ds)), some (.v (.int (i : Int)))] [] = .ok (.v (.int ((intL ds).length : Nat))) [some (.v (inD' ds)), some (.v (.int (i : Int)))] [] := rfl
    refine (toT_of (op_of (g := gLt) (x := .v (.int (i : Int))) rfl hl gCmp_int)).trans ?_
    have e : (intL ds).length = ds.length := by unfold intL; rw [List.length_map]
    rw [e, show decide ((i : Int) < ((ds.length : Nat) : Int)) = decide (i < ds.length) from decide_eq_decide.mpr (by omega)]
  by_cases h : i < ds.length
  · rw [decide_eq_true h] at t
    have g : (eOp gIx (eVar 0) (eVar 1)) [some (.v (inD' ds)), some (.v (.int (i : Int)))] [] = .ok (.v (.int (dg ds i))) [some (.v (inD' ds)), some (.v (.int (i : Int)))] [] := op_of (x := .v (inD' ds)) (y := .v (.int (i : Int))) rfl rfl (gIx_lst (intL_get h) rfl)
    have r : (sIf (toT (eOp gLt (eVar 1) (eB fLen (aCons (eVar 0) aNil)))) (sRet (eOp gIx (eVar 0) (eVar 1))) sNil) [some (.v (inD' ds)), some (.v (.int (i : Int)))] [] = .rt (.int (dg ds i)) [] := by
      refine (if_yes t).trans ?_
      rw [sRet_ap, g]; rfl
    show (sSeq _ _) [some (.v (inD' ds)), some (.v (.int (i : Int)))] [] = _
    rw [sSeq_ap, r]; rfl
  · rw [decide_eq_false h] at t
    refine (seq_of (if_no t)).trans ?_
    rw [getD_out (Nat.le_of_not_lt h)]; rfl
theorem dig_call {ds : List Int} {ls : Ls} {e : PE} {a : Nat} {v : Int} (h0 : ls[0]? = some (some (.v (inD' ds)))) (he : e ls [] = .ok (.v (.int v)) ls []) (hv : v = (a : Int)) : (eCall f_law_digit [] (aCons (eVar 0) (aCons e aNil))) ls [] = .ok (.v (.int (dg ds a))) ls [] := by
  subst hv
  refine call_of (xs := [.v (inD' ds), .v (.int (a : Int))]) (ds := [inD' ds, .int (a : Int)]) ?_ rfl (digit_ok a)
  rw [aCons_ap, eVar_v h0 rfl, bind_ok, aCons_ap, he, bind_ok, aNil_ap, bind_ok, bind_ok]
theorem fint_of {e : PE} {ls : Ls} {v : Int} (he : e ls [] = .ok (.v (.int v)) ls []) : (eB fInt (aCons e aNil)) ls [] = .ok (.v (.int v)) ls [] := by
  rw [eB_ap, aCons_ap, he, bind_ok, aNil_ap, bind_ok, bind_ok]; rfl
theorem nat_of {v n : Int} (h : 0 < n) : ∃ k : Nat, v % n = (k : Int) ∧ (k : Int) < n := by
  have h0 := Int.emod_nonneg v (show n ≠ 0 by omega)
  have h1 := Int.emod_lt_of_pos v h
  obtain ⟨k, hk⟩ := Int.eq_ofNat_of_zero_le h0
  exact ⟨k, hk, by omega⟩
theorem PL_at {k : Nat} (h : k < 13) : ∃ s, (strL PL)[k]? = some (.str s) ∧ s ∈ PL := by
  have hl : PL.length = 13 := rfl
  have hk : k < PL.length := by omega
  exact ⟨PL[k], by unfold strL; rw [List.getElem?_map, List.getElem?_eq_getElem hk]; rfl, List.getElem_mem hk⟩
def Sok (s : M.Nm) : Prop := PySem.PyData.strOk (GL.toS s) = true
theorem PL_s : ∀ x ∈ PL, Sok x := by unfold Sok; decide +kernel
theorem ML_s : ∀ x ∈ ML, Sok x := by unfold Sok; decide +kernel
theorem ML_at {k : Nat} (h : k < 7) : ∃ s, (strL ML)[k]? = some (.str s) ∧ Sok s := by
  have hk : k < ML.length := h
  exact ⟨ML[k], by unfold strL; rw [List.getElem?_map, List.getElem?_eq_getElem hk]; rfl, ML_s _ (List.getElem_mem hk)⟩
theorem begin_ok {ds : List Int} {a : Nat} : ∃ s, s ∈ PL ∧ f_law_begin [.v (inD' ds), .v (.int (a : Int))] [] = .ok (.str s) [] := by
  obtain ⟨c, hc, hc2⟩ := nat_of (v := dg ds a) (n := 12) (by decide)
  obtain ⟨k, hk, hk2⟩ := nat_of (v := dg ds (a + 3)) (n := ((2 + c : Nat) : Int)) (by omega)
  obtain ⟨s, hs, hm⟩ := PL_at (k := k) (by omega)
  refine ⟨s, hm, fnOf_rt (gh := []) rfl ?_ rfl⟩
  have s2 : (sSet 2 (eOp gAdd (eC (.int 2)) (eOp gMod (eB fInt (aCons (eCall f_law_digit [] (aCons (eVar 0) (aCons (eVar 1) aNil))) aNil)) (eC (.int 12))))) [some (.v (inD' ds)), some (.v (.int (a : Int))), none] [] = .nx [some (.v (inD' ds)), some (.v (.int (a : Int))), some (.v (.int ((2 + c : Nat) : Int)))] [] := by
    have e := op_of (g := gAdd) (a := eC (.int 2)) (ls := [some (.v (inD' ds)), some (.v (.int (a : Int))), none]) (gh := []) (x := .v (.int 2)) rfl (op_of (g := gMod) (fint_of (dig_call (ds := ds) (ls := [some (.v (inD' ds)), some (.v (.int (a : Int))), none]) (e := eVar 1) (a := a) rfl rfl rfl)) (rfl : eC (.int 12) _ _ = .ok (.v (.int 12)) _ _) (gMod_int (by decide))) gAdd_int
    rw [sSet_ap, e, hc]
    show SOut.nx [some (.v (inD' ds)), some (.v (.int (a : Int))), some (.v (.int (2 + (c : Int))))] [] = _
    rw [show (2 : Int) + (c : Int) = ((2 + c : Nat) : Int) by omega]
  refine (seq_of s2).trans ?_
  have pl : (eCall f_law_places [] aNil) [some (.v (inD' ds)), some (.v (.int (a : Int))), some (.v (.int ((2 + c : Nat) : Int)))] [] = .ok (.v (.nd .ow .lst (strL PL))) [some (.v (inD' ds)), some (.v (.int (a : Int))), some (.v (.int ((2 + c : Nat) : Int)))] [] := call_of (xs := []) (ds := []) rfl rfl places_ok
  have a3 : (eOp gAdd (eVar 1) (eC (.int 3))) [some (.v (inD' ds)), some (.v (.int (a : Int))), some (.v (.int ((2 + c : Nat) : Int)))] [] = .ok (.v (.int ((a : Int) + 3))) [some (.v (inD' ds)), some (.v (.int (a : Int))), some (.v (.int ((2 + c : Nat) : Int)))] [] := rfl
  have e := op_of (g := gIx) pl (op_of (g := gMod) (fint_of (dig_call (ds := ds) (e := (eOp gAdd (eVar 1) (eC (.int 3)))) (a := a + 3) rfl a3 (by omega))) (rfl : eVar 2 [some (.v (inD' ds)), some (.v (.int (a : Int))), some (.v (.int ((2 + c : Nat) : Int)))] [] = .ok (.v (.int ((2 + c : Nat) : Int))) _ _) (gMod_int (by omega))) (r := .ok (.v (.str s)) [some (.v (inD' ds)), some (.v (.int (a : Int))), some (.v (.int ((2 + c : Nat) : Int)))] []) (by rw [hk]; exact gIx_lst hs rfl)
  rw [sRet_ap, e]; rfl
theorem mt_of {chk : D → Bool} {m : RV → List RV → PE} {o : PE} {args : PA} {ls gh : Ls} {x : RV} {d : D} {ys : List RV} (ho : o ls gh = .ok x ls gh) (hv : val x ls gh = some d) (hk : chk d = true) (ha : args ls gh = .ok ys ls gh) : eMt chk m o args ls gh = m x ys ls gh := by
  unfold eMt
  rw [ho, bind_ok, hv]
  dsimp only
  rw [if_pos hk, ha, bind_ok]
abbrev IL (ds : List Int) (a c : Nat) (R : List M.Row) (z6 z7 z8 z9 z10 : Option V) : Ls := [some (.v (inD' ds)), some (.v (.int (a : Int))), some (.v (.nd .ow .lst (strL PL))), some (.v (.nd .ow .lst (strL ML))), some (.v (.int (c : Int))), some (.v (.nd .ow .lst (R.map rowD))), z6, z7, z8, z9, z10, none]
abbrev I10 : MS := (sIf (toT (eOp gLt (eVar 9) (eVar 4)))
  (sSet 10 (eOp gIx (eVar 2) (eVar 9)))
  sNil)
abbrev IAp : MS := (sExpr (eMt kList mAppend (eVar 5) (aCons (eTup (aCons (eOp gIx (eVar 2) (eVar 7)) (aCons (eOp gIx (eVar 3) (eOp gMod (eB fInt (aCons (eOp gAdd (eCall f_law_digit [] (aCons (eVar 0) (aCons (eOp gAdd (eVar 8) (eC (.int 1))) aNil))) (eVar 6)) aNil)) (eC (.int 7)))) (aCons (eVar 10) aNil)))) aNil)))
abbrev I9 : PE := (eOp gMod (eB fInt (aCons (eOp gAdd (eOp gAdd (eCall f_law_digit [] (aCons (eVar 0) (aCons (eOp gAdd (eOp gAdd (eVar 8) (eC (.int 2))) (eVar 6)) aNil))) (eVar 7)) (eC (.int 1))) aNil)) (eOp gAdd (eVar 4) (eC (.int 1))))
abbrev IT8 : PT := (toT (eOp gLt (eVar 6) (eOp gMod (eB fInt (aCons (eOp gAdd (eCall f_law_digit [] (aCons (eVar 0) (aCons (eVar 8) aNil))) (eC (.int 1))) aNil)) (eC (.int 5)))))
abbrev IB : MS := (sSeq (sSet 8 (eOp gAdd (eOp gAdd (eVar 1) (eC (.int 4))) (eOp gMul (eC (.int 6)) (eVar 7))))
  (sIf IT8 (sSeq (sSet 9 I9) (sSeq (sSet 10 (eC (.str n_bad))) (sSeq I10 IAp))) sNil))
structure RowsOk (R : List M.Row) : Prop where
  a : ∀ r ∈ R, r.1 ∈ PL
  b : ∀ r ∈ R, r.2.2 = M.bad ∨ r.2.2 ∈ PL
  c : ∀ r ∈ R, Sok r.2.1
theorem li_turn {ds : List Int} {a c j k : Nat} (hc : c ≤ 13) (hk : k < c) {R : List M.Row} (hR : RowsOk R) (hl : R.length < 1000) {z8 z9 z10 : Option V} (h8 : okA1 z8) (h9 : okA1 z9) (h10 : okA1 z10) :
    ∃ R' z8' z9' z10', RowsOk R' ∧ R'.length ≤ R.length + 1 ∧ okA1 z8' ∧ okA1 z9' ∧ okA1 z10' ∧ IB (IL ds a c R (some (.v (.int (j : Int)))) (some (.v (.int (k : Int)))) z8 z9 z10) [] = .nx (IL ds a c R' (some (.v (.int (j : Int)))) (some (.v (.int (k : Int)))) z8' z9' z10') [] := by
  have s8 : (sSet 8 (eOp gAdd (eOp gAdd (eVar 1) (eC (.int 4))) (eOp gMul (eC (.int 6)) (eVar 7)))) (IL ds a c R (some (.v (.int (j : Int)))) (some (.v (.int (k : Int)))) z8 z9 z10) [] = .nx (IL ds a c R (some (.v (.int (j : Int)))) (some (.v (.int (k : Int)))) (some (.v (.int ((a + 4 + 6 * k : Nat) : Int)))) z9 z10) [] := by
    have e := op_of (g := gAdd) (a := (eOp gAdd (eVar 1) (eC (.int 4)))) (ls := IL ds a c R (some (.v (.int (j : Int)))) (some (.v (.int (k : Int)))) z8 z9 z10) (gh := []) (x := .v (.int ((a : Int) + 4))) rfl (op_of (g := gMul) (a := eC (.int 6)) (b := eVar 7) (x := .v (.int 6)) (y := .v (.int (k : Int))) rfl rfl (gMul_int (i := 6) (j := (k : Int)) (.inl rfl))) gAdd_int
    rw [sSet_ap, e, show (a : Int) + 4 + 6 * (k : Int) = ((a + 4 + 6 * k : Nat) : Int) by omega]
    rcases h8 with rfl | ⟨d8, rfl⟩ <;> rcases h9 with rfl | ⟨d9, rfl⟩ <;> rcases h10 with rfl | ⟨d10, rfl⟩ <;> rfl
  generalize hb : a + 4 + 6 * k = b at s8
  have t8 : IT8 (IL ds a c R (some (.v (.int (j : Int)))) (some (.v (.int (k : Int)))) (some (.v (.int (b : Int)))) z9 z10) [] = .ok (decide ((j : Int) < (dg ds b + 1) % 5)) (IL ds a c R (some (.v (.int (j : Int)))) (some (.v (.int (k : Int)))) (some (.v (.int (b : Int)))) z9 z10) [] :=
    toT_of (op_of (g := gLt) (x := .v (.int (j : Int))) rfl (op_of (g := gMod) (fint_of (op_of (g := gAdd) (dig_call (ds := ds) (e := eVar 8) (a := b) rfl rfl rfl) (rfl : eC (.int 1) _ _ = .ok (.v (.int 1)) _ _) gAdd_int)) (rfl : eC (.int 5) _ _ = .ok (.v (.int 5)) _ _) (gMod_int (by decide))) gCmp_int)
  cases ht : decide ((j : Int) < (dg ds b + 1) % 5) with
  | false =>
    rw [ht] at t8
    exact ⟨R, _, z9, z10, hR, Nat.le_succ _, .inr ⟨_, rfl⟩, h9, h10, (seq_of s8).trans (if_no t8)⟩
  | true =>
    rw [ht] at t8
    obtain ⟨e, he, he2⟩ := nat_of (v := dg ds (b + 2 + j) + (k : Int) + 1) (n := ((c + 1 : Nat) : Int)) (by omega)
    obtain ⟨m, hm, hm2⟩ := nat_of (v := dg ds (b + 1) + (j : Int)) (n := 7) (by decide)
    obtain ⟨sk, hsk, hskm⟩ := PL_at (k := k) (by omega)
    obtain ⟨sm, hsm, hsok⟩ := ML_at (k := m) (by omega)
    have s9 : (sSet 9 I9) (IL ds a c R (some (.v (.int (j : Int)))) (some (.v (.int (k : Int)))) (some (.v (.int (b : Int)))) z9 z10) [] = .nx (IL ds a c R (some (.v (.int (j : Int)))) (some (.v (.int (k : Int)))) (some (.v (.int (b : Int)))) (some (.v (.int (e : Int)))) z10) [] := by
      have q : I9 (IL ds a c R (some (.v (.int (j : Int)))) (some (.v (.int (k : Int)))) (some (.v (.int (b : Int)))) z9 z10) [] = .ok (.v (.int (e : Int))) (IL ds a c R (some (.v (.int (j : Int)))) (some (.v (.int (k : Int)))) (some (.v (.int (b : Int)))) z9 z10) [] := by
        have ix : (eOp gAdd (eOp gAdd (eVar 8) (eC (.int 2))) (eVar 6)) (IL ds a c R (some (.v (.int (j : Int)))) (some (.v (.int (k : Int)))) (some (.v (.int (b : Int)))) z9 z10) [] = .ok (.v (.int ((b : Int) + 2 + (j : Int)))) (IL ds a c R (some (.v (.int (j : Int)))) (some (.v (.int (k : Int)))) (some (.v (.int (b : Int)))) z9 z10) [] := rfl
        have c1 : (eOp gAdd (eVar 4) (eC (.int 1))) (IL ds a c R (some (.v (.int (j : Int)))) (some (.v (.int (k : Int)))) (some (.v (.int (b : Int)))) z9 z10) [] = .ok (.v (.int ((c : Int) + 1))) (IL ds a c R (some (.v (.int (j : Int)))) (some (.v (.int (k : Int)))) (some (.v (.int (b : Int)))) z9 z10) [] := rfl
        have v7 : eVar 7 (IL ds a c R (some (.v (.int (j : Int)))) (some (.v (.int (k : Int)))) (some (.v (.int (b : Int)))) z9 z10) [] = .ok (.v (.int (k : Int))) (IL ds a c R (some (.v (.int (j : Int)))) (some (.v (.int (k : Int)))) (some (.v (.int (b : Int)))) z9 z10) [] := rfl
        refine op_of (g := gMod) (fint_of (op_of (g := gAdd) (op_of (g := gAdd) (dig_call (ds := ds) (a := b + 2 + j) rfl ix (by omega)) v7 gAdd_int) (rfl : eC (.int 1) _ _ = .ok (.v (.int 1)) _ _) gAdd_int)) c1 ?_
        rw [show (c : Int) + 1 = ((c + 1 : Nat) : Int) by omega, gMod_int (by omega), he]
      rw [sSet_ap, q]
      rcases h9 with rfl | ⟨d9, rfl⟩ <;> rcases h10 with rfl | ⟨d10, rfl⟩ <;> rfl
    have s10 : (sSet 10 (eC (.str n_bad))) (IL ds a c R (some (.v (.int (j : Int)))) (some (.v (.int (k : Int)))) (some (.v (.int (b : Int)))) (some (.v (.int (e : Int)))) z10) [] = .nx (IL ds a c R (some (.v (.int (j : Int)))) (some (.v (.int (k : Int)))) (some (.v (.int (b : Int)))) (some (.v (.int (e : Int)))) (some (.v (.str M.bad)))) [] := by
      rcases h10 with rfl | ⟨d10, rfl⟩ <;> rfl
    obtain ⟨af, haf, saf⟩ : ∃ af, (af = M.bad ∨ af ∈ PL) ∧ I10 (IL ds a c R (some (.v (.int (j : Int)))) (some (.v (.int (k : Int)))) (some (.v (.int (b : Int)))) (some (.v (.int (e : Int)))) (some (.v (.str M.bad)))) [] = .nx (IL ds a c R (some (.v (.int (j : Int)))) (some (.v (.int (k : Int)))) (some (.v (.int (b : Int)))) (some (.v (.int (e : Int)))) (some (.v (.str af)))) [] := by
      have t := toT_of (op_of (g := gLt) (a := eVar 9) (b := eVar 4) (ls := IL ds a c R (some (.v (.int (j : Int)))) (some (.v (.int (k : Int)))) (some (.v (.int (b : Int)))) (some (.v (.int (e : Int)))) (some (.v (.str M.bad)))) (gh := []) (x := .v (.int (e : Int))) (y := .v (.int (c : Int))) rfl rfl gCmp_int)
      by_cases hlt : (e : Int) < (c : Int)
      · rw [decide_eq_true hlt] at t
        obtain ⟨se, hse, hsem⟩ := PL_at (k := e) (by omega)
        refine ⟨se, .inr hsem, (if_yes t).trans ?_⟩
        have q : (eOp gIx (eVar 2) (eVar 9)) (IL ds a c R (some (.v (.int (j : Int)))) (some (.v (.int (k : Int)))) (some (.v (.int (b : Int)))) (some (.v (.int (e : Int)))) (some (.v (.str M.bad)))) [] = .ok (.v (.str se)) (IL ds a c R (some (.v (.int (j : Int)))) (some (.v (.int (k : Int)))) (some (.v (.int (b : Int)))) (some (.v (.int (e : Int)))) (some (.v (.str M.bad)))) [] :=
          op_of (x := .pth (.l 2) []) (y := .v (.int (e : Int))) rfl rfl (gIx_p (atD_l rfl) hse rfl)
        rw [sSet_ap, q]; rfl
      · rw [decide_eq_false hlt] at t
        exact ⟨M.bad, .inl rfl, if_no t⟩
    have ap : IAp (IL ds a c R (some (.v (.int (j : Int)))) (some (.v (.int (k : Int)))) (some (.v (.int (b : Int)))) (some (.v (.int (e : Int)))) (some (.v (.str af)))) [] = .nx (IL ds a c (R ++ [(sk, sm, af)]) (some (.v (.int (j : Int)))) (some (.v (.int (k : Int)))) (some (.v (.int (b : Int)))) (some (.v (.int (e : Int)))) (some (.v (.str af)))) [] := by
      have q1 : (eOp gIx (eVar 2) (eVar 7)) (IL ds a c R (some (.v (.int (j : Int)))) (some (.v (.int (k : Int)))) (some (.v (.int (b : Int)))) (some (.v (.int (e : Int)))) (some (.v (.str af)))) [] = .ok (.v (.str sk)) (IL ds a c R (some (.v (.int (j : Int)))) (some (.v (.int (k : Int)))) (some (.v (.int (b : Int)))) (some (.v (.int (e : Int)))) (some (.v (.str af)))) [] :=
        op_of (x := .pth (.l 2) []) (y := .v (.int (k : Int))) rfl rfl (gIx_p (atD_l rfl) hsk rfl)
      have v6 : eVar 6 (IL ds a c R (some (.v (.int (j : Int)))) (some (.v (.int (k : Int)))) (some (.v (.int (b : Int)))) (some (.v (.int (e : Int)))) (some (.v (.str af)))) [] = .ok (.v (.int (j : Int))) (IL ds a c R (some (.v (.int (j : Int)))) (some (.v (.int (k : Int)))) (some (.v (.int (b : Int)))) (some (.v (.int (e : Int)))) (some (.v (.str af)))) [] := rfl
      have b1 : (eOp gAdd (eVar 8) (eC (.int 1))) (IL ds a c R (some (.v (.int (j : Int)))) (some (.v (.int (k : Int)))) (some (.v (.int (b : Int)))) (some (.v (.int (e : Int)))) (some (.v (.str af)))) [] = .ok (.v (.int ((b : Int) + 1))) (IL ds a c R (some (.v (.int (j : Int)))) (some (.v (.int (k : Int)))) (some (.v (.int (b : Int)))) (some (.v (.int (e : Int)))) (some (.v (.str af)))) [] := rfl
      have q2 : (eOp gIx (eVar 3) (eOp gMod (eB fInt (aCons (eOp gAdd (eCall f_law_digit [] (aCons (eVar 0) (aCons (eOp gAdd (eVar 8) (eC (.int 1))) aNil))) (eVar 6)) aNil)) (eC (.int 7)))) (IL ds a c R (some (.v (.int (j : Int)))) (some (.v (.int (k : Int)))) (some (.v (.int (b : Int)))) (some (.v (.int (e : Int)))) (some (.v (.str af)))) [] = .ok (.v (.str sm)) (IL ds a c R (some (.v (.int (j : Int)))) (some (.v (.int (k : Int)))) (some (.v (.int (b : Int)))) (some (.v (.int (e : Int)))) (some (.v (.str af)))) [] :=
        op_of (x := .pth (.l 3) []) rfl (op_of (g := gMod) (fint_of (op_of (g := gAdd) (dig_call (ds := ds) (a := b + 1) rfl b1 (by omega)) v6 gAdd_int)) (rfl : eC (.int 7) _ _ = .ok (.v (.int 7)) _ _) (gMod_int (by decide))) (by rw [hm]; exact gIx_p (atD_l rfl) hsm rfl)
      have hlim : (R.map rowD).length < GL.lim := by
        have : GL.lim = 100000 := rfl
        rw [List.length_map]; omega
      have mm := mAppend_l (ls := IL ds a c R (some (.v (.int (j : Int)))) (some (.v (.int (k : Int)))) (some (.v (.int (b : Int)))) (some (.v (.int (e : Int)))) (some (.v (.str af)))) (gh := []) (i := 5) (d := rowD (sk, sm, af)) rfl hlim
      have tp : (eTup (aCons (eOp gIx (eVar 2) (eVar 7)) (aCons (eOp gIx (eVar 3) (eOp gMod (eB fInt (aCons (eOp gAdd (eCall f_law_digit [] (aCons (eVar 0) (aCons (eOp gAdd (eVar 8) (eC (.int 1))) aNil))) (eVar 6)) aNil)) (eC (.int 7)))) (aCons (eVar 10) aNil)))) (IL ds a c R (some (.v (.int (j : Int)))) (some (.v (.int (k : Int)))) (some (.v (.int (b : Int)))) (some (.v (.int (e : Int)))) (some (.v (.str af)))) [] = .ok (.v (rowD (sk, sm, af))) (IL ds a c R (some (.v (.int (j : Int)))) (some (.v (.int (k : Int)))) (some (.v (.int (b : Int)))) (some (.v (.int (e : Int)))) (some (.v (.str af)))) [] := by
        unfold eTup
        rw [aCons_ap, q1, bind_ok, aCons_ap, q2, bind_ok]; rfl
      have go : (eMt kList mAppend (eVar 5) (aCons (eTup (aCons (eOp gIx (eVar 2) (eVar 7)) (aCons (eOp gIx (eVar 3) (eOp gMod (eB fInt (aCons (eOp gAdd (eCall f_law_digit [] (aCons (eVar 0) (aCons (eOp gAdd (eVar 8) (eC (.int 1))) aNil))) (eVar 6)) aNil)) (eC (.int 7)))) (aCons (eVar 10) aNil)))) aNil)) (IL ds a c R (some (.v (.int (j : Int)))) (some (.v (.int (k : Int)))) (some (.v (.int (b : Int)))) (some (.v (.int (e : Int)))) (some (.v (.str af)))) [] = mAppend (.pth (.l 5) []) [.v (rowD (sk, sm, af))] (IL ds a c R (some (.v (.int (j : Int)))) (some (.v (.int (k : Int)))) (some (.v (.int (b : Int)))) (some (.v (.int (e : Int)))) (some (.v (.str af)))) [] := by
        have a1 : (aCons (eTup (aCons (eOp gIx (eVar 2) (eVar 7)) (aCons (eOp gIx (eVar 3) (eOp gMod (eB fInt (aCons (eOp gAdd (eCall f_law_digit [] (aCons (eVar 0) (aCons (eOp gAdd (eVar 8) (eC (.int 1))) aNil))) (eVar 6)) aNil)) (eC (.int 7)))) (aCons (eVar 10) aNil)))) aNil) (IL ds a c R (some (.v (.int (j : Int)))) (some (.v (.int (k : Int)))) (some (.v (.int (b : Int)))) (some (.v (.int (e : Int)))) (some (.v (.str af)))) [] = .ok [.v (rowD (sk, sm, af))] (IL ds a c R (some (.v (.int (j : Int)))) (some (.v (.int (k : Int)))) (some (.v (.int (b : Int)))) (some (.v (.int (e : Int)))) (some (.v (.str af)))) [] := by
          rw [aCons_ap, tp]; rfl
        exact mt_of (d := .nd .ow .lst (R.map rowD)) rfl (atD_l rfl) rfl a1
      have es : (R ++ [(sk, sm, af)]).map rowD = R.map rowD ++ [rowD (sk, sm, af)] := by rw [List.map_append]; rfl
      unfold IAp
      rw [sExpr_ap, go, mm]
      unfold IL
      rw [es]; rfl
    refine ⟨R ++ [(sk, sm, af)], _, _, _, ⟨fun r hr => ?_, fun r hr => ?_, fun r hr => ?_⟩, by simp, .inr ⟨_, rfl⟩, .inr ⟨_, rfl⟩, .inr ⟨_, rfl⟩, (seq_of s8).trans ((if_yes t8).trans ((seq_of s9).trans ((seq_of s10).trans ((seq_of saf).trans ap))))⟩
    · rcases List.mem_append.mp hr with hr | hr
      · exact hR.a r hr
      · rw [List.mem_singleton.mp hr]; exact hskm
    · rcases List.mem_append.mp hr with hr | hr
      · exact hR.b r hr
      · rw [List.mem_singleton.mp hr]; exact haf
    · rcases List.mem_append.mp hr with hr | hr
      · exact hR.c r hr
      · rw [List.mem_singleton.mp hr]; exact hsok
end K44.V
set_option Elab.async false
set_option linter.all false
set_option maxRecDepth 100000
set_option maxHeartbeats 4000000
set_option cbv.maxSteps 1000000
set_option pp.maxSteps 400
namespace K44.V
open VL
open GL (PV)
theorem li_in {ds : List Int} {a c j : Nat} (hc : c ≤ 13) : ∀ (n k : Nat) (R : List M.Row) (z7 z8 z9 z10 : Option V), k + n = c → RowsOk R → R.length + n < 1000 → okA1 z7 → okA1 z8 → okA1 z9 → okA1 z10 →
    ∃ R' z7' z8' z9' z10', RowsOk R' ∧ R'.length ≤ R.length + n ∧ okA1 z7' ∧ okA1 z8' ∧ okA1 z9' ∧ okA1 z10' ∧ forV (gN 7) IB ((List.range' k n).map fun (i : Nat) => D.int (i : Int)) (IL ds a c R (some (.v (.int (j : Int)))) z7 z8 z9 z10) [] = .nx (IL ds a c R' (some (.v (.int (j : Int)))) z7' z8' z9' z10') []
  | 0, k, R, z7, z8, z9, z10, _, hR, _, h7, h8, h9, h10 => ⟨R, z7, z8, z9, z10, hR, Nat.le_refl _, h7, h8, h9, h10, rfl⟩
  | n + 1, k, R, z7, z8, z9, z10, hk, hR, hl, h7, h8, h9, h10 => by
    obtain ⟨R1, y8, y9, y10, g1, g2, g8, g9, g10, g⟩ := li_turn (ds := ds) (a := a) (j := j) (k := k) hc (by omega) hR (by omega) h8 h9 h10
    obtain ⟨R2, x7, x8, x9, x10, e1, e2, e7, e8, e9, e10, e⟩ := li_in (ds := ds) (a := a) (j := j) hc n (k + 1) R1 (some (.v (.int (k : Int)))) y8 y9 y10 (by omega) g1 (by omega) (.inr ⟨_, rfl⟩) g8 g9 g10
    refine ⟨R2, x7, x8, x9, x10, e1, by omega, e7, e8, e9, e10, ?_⟩
    have hg : gN 7 (.v (.int (k : Int))) (IL ds a c R (some (.v (.int (j : Int)))) z7 z8 z9 z10) [] = some (IL ds a c R (some (.v (.int (j : Int)))) (some (.v (.int (k : Int)))) z8 z9 z10, []) := by
      rcases h7 with rfl | ⟨d7, rfl⟩ <;> rcases h8 with rfl | ⟨d8, rfl⟩ <;> rcases h9 with rfl | ⟨d9, rfl⟩ <;> rcases h10 with rfl | ⟨d10, rfl⟩ <;> rfl
    rw [List.range'_succ, List.map_cons, forV_cons hg]
    dsimp only
    rw [g, loopK_nx]
    exact e
theorem li_out {ds : List Int} {a c : Nat} (hc : c ≤ 13) : ∀ (n j : Nat) (R : List M.Row) (z6 z7 z8 z9 z10 : Option V), n ≤ 4 → RowsOk R → R.length + n * 13 < 1000 → okA1 z6 → okA1 z7 → okA1 z8 → okA1 z9 → okA1 z10 →
    ∃ R' z6' z7' z8' z9' z10', RowsOk R' ∧ R'.length ≤ R.length + n * 13 ∧ okA1 z6' ∧ okA1 z7' ∧ okA1 z8' ∧ okA1 z9' ∧ okA1 z10' ∧ forV (gN 6) (sFor (iR1 (eVar 4)) (gN 7) IB) ((List.range' j n).map fun (i : Nat) => D.int (i : Int)) (IL ds a c R z6 z7 z8 z9 z10) [] = .nx (IL ds a c R' z6' z7' z8' z9' z10') []
  | 0, j, R, z6, z7, z8, z9, z10, _, hR, _, h6, h7, h8, h9, h10 => ⟨R, z6, z7, z8, z9, z10, hR, by omega, h6, h7, h8, h9, h10, rfl⟩
  | n + 1, j, R, z6, z7, z8, z9, z10, hn, hR, hl, h6, h7, h8, h9, h10 => by
    obtain ⟨R1, y7, y8, y9, y10, g1, g2, g7, g8, g9, g10, g⟩ := li_in (ds := ds) (a := a) (c := c) (j := j) hc c 0 R z7 z8 z9 z10 (by omega) hR (by omega) h7 h8 h9 h10
    obtain ⟨R2, x6, x7, x8, x9, x10, e1, e2, e6, e7, e8, e9, e10, e⟩ := li_out (ds := ds) (a := a) hc n (j + 1) R1 (some (.v (.int (j : Int)))) y7 y8 y9 y10 (by omega) g1 (by omega) (.inr ⟨_, rfl⟩) g7 g8 g9 g10
    refine ⟨R2, x6, x7, x8, x9, x10, e1, by omega, e6, e7, e8, e9, e10, ?_⟩
    have hg : gN 6 (.v (.int (j : Int))) (IL ds a c R z6 z7 z8 z9 z10) [] = some (IL ds a c R (some (.v (.int (j : Int)))) z7 z8 z9 z10, []) := by
      rcases h6 with rfl | ⟨d6, rfl⟩ <;> rcases h7 with rfl | ⟨d7, rfl⟩ <;> rcases h8 with rfl | ⟨d8, rfl⟩ <;> rcases h9 with rfl | ⟨d9, rfl⟩ <;> rcases h10 with rfl | ⟨d10, rfl⟩ <;> rfl
    have r : rngD 0 ((c : Nat) : Int) = (List.range' 0 c).map fun (i : Nat) => D.int (i : Int) := by rw [rng0, List.range_eq_range']
    rw [List.range'_succ, List.map_cons, forV_cons hg]
    dsimp only
    rw [sFor_of (iR1_of (m := eVar 4) (n := c) rfl (by omega)), r, g, loopK_nx]
    exact e
theorem lpick_ok {i : Nat} {ds : List Int} {l : Int} (hl : 0 < l) : f_law_pick [.v (inD' ds), .v (.int (i : Int)), .v (.int l)] [] = .ok (.int (pickV ds i l)) [] := pick_ok hl
theorem gSl_p {r : Rt} {p : List Nat} {k : Fl} {xs : List D} {lo hi : Option Int} {ls gh : Ls} (h : atD ls gh r p = some (.nd k .lst xs)) (hs : xs.all D.shr = true) : gSl (.pth r p) lo hi ls gh = .ok (.v (.nd .ow .lst (GL.cutP xs lo hi))) ls gh := by
  show (match seqV (.pth r p) ls gh with
    | some (.tup, _) => Out.bad
    | some (_, xs) => (match shrK (.pth r p) xs with
      | some ys => Out.ok (RV.v (.nd .ow .lst (GL.cutP ys lo hi))) ls gh
      | none => .bad)
    | none => .bad) = _
  rw [seqV_p h]
  show (match shrK (.pth r p) xs with
      | some ys => Out.ok (RV.v (.nd .ow .lst (GL.cutP ys lo hi))) ls gh
      | none => .bad) = _
  rw [shrK_s hs]
theorem cut_a {α : Type} {xs : List α} {t : Nat} (h : t ≤ xs.length) : GL.cutP xs none (some (t : Int)) = xs.take t := by
  unfold GL.cutP
  rw [_root_.HT.sIx_none, _root_.HT.sIx_nat, Nat.min_eq_left h]; rfl
theorem cut_b {α : Type} {xs : List α} {t : Nat} (h : t ≤ xs.length) : GL.cutP xs (some (t : Int)) none = xs.drop t := by
  unfold GL.cutP
  rw [_root_.HT.sIx_none, _root_.HT.sIx_nat, Nat.min_eq_left h]
  exact List.take_of_length_le (by rw [List.length_drop]; exact Nat.le_refl _)
theorem listed_ok {ds : List Int} {a : Nat} : ∃ R, RowsOk R ∧ R.length ≤ 52 ∧ f_law_listed [.v (inD' ds), .v (.int (a : Int))] [] = .ok (.nd .ow .lst (R.map rowD)) [] := by
  obtain ⟨c0, hc, hc2⟩ := nat_of (v := dg ds a) (n := 12) (by decide)
  obtain ⟨R, z6, z7, z8, z9, z10, g1, g2, g6, g7, g8, g9, g10, g⟩ := li_out (ds := ds) (a := a) (c := 2 + c0) (by omega) 4 0 [] none none none none none (Nat.le_refl _) ⟨(fun r h => by cases h), (fun r h => by cases h), (fun r h => by cases h)⟩ (by decide) (.inl rfl) (.inl rfl) (.inl rfl) (.inl rfl) (.inl rfl)
  rw [List.length_nil] at g2
  obtain ⟨t, ht, ht2⟩ := nat_of (v := dg ds (a + 1) + 16 * dg ds (a + 1 + 1)) (n := ((R.length + 1 : Nat) : Int)) (by omega)
  have htl : t ≤ R.length := by omega
  refine ⟨R.drop t ++ R.take t, ⟨fun r hr => ?_, fun r hr => ?_, fun r hr => ?_⟩, ?_, fnOf_rt (gh := []) rfl ?_ rfl⟩
  · rcases List.mem_append.mp hr with hr | hr
    · exact g1.a r (List.mem_of_mem_drop hr)
    · exact g1.a r (List.mem_of_mem_take hr)
  · rcases List.mem_append.mp hr with hr | hr
    · exact g1.b r (List.mem_of_mem_drop hr)
    · exact g1.b r (List.mem_of_mem_take hr)
  · rcases List.mem_append.mp hr with hr | hr
    · exact g1.c r (List.mem_of_mem_drop hr)
    · exact g1.c r (List.mem_of_mem_take hr)
  · rw [List.length_append, List.length_drop, List.length_take]; omega
  have s2 : (sSet 2 (eCall f_law_places [] aNil)) [some (.v (inD' ds)), some (.v (.int (a : Int))), none, none, none, none, none, none, none, none, none, none] [] = .nx [some (.v (inD' ds)), some (.v (.int (a : Int))), some (.v (.nd .ow .lst (strL PL))), none, none, none, none, none, none, none, none, none] [] := by
    have pl : (eCall f_law_places [] aNil) [some (.v (inD' ds)), some (.v (.int (a : Int))), none, none, none, none, none, none, none, none, none, none] [] = .ok (.v (.nd .ow .lst (strL PL))) [some (.v (inD' ds)), some (.v (.int (a : Int))), none, none, none, none, none, none, none, none, none, none] [] := call_of (xs := []) (ds := []) rfl rfl places_ok
    rw [sSet_ap, pl]; rfl
  have s3 : (sSet 3 (eLst (aCons (eC (.str n_up)) (aCons (eC (.str n_down)) (aCons (eC (.str n_u)) (aCons (eC (.str n_empty)) (aCons (eC (.str n_bad)) (aCons (eC (.str n_left)) (aCons (eC (.str n_a)) aNil))))))))) [some (.v (inD' ds)), some (.v (.int (a : Int))), some (.v (.nd .ow .lst (strL PL))), none, none, none, none, none, none, none, none, none] [] = .nx [some (.v (inD' ds)), some (.v (.int (a : Int))), some (.v (.nd .ow .lst (strL PL))), some (.v (.nd .ow .lst (strL ML))), none, none, none, none, none, none, none, none] [] := by kernel_rfl
  have s4 : (sSet 4 (eOp gAdd (eC (.int 2)) (eOp gMod (eB fInt (aCons (eCall f_law_digit [] (aCons (eVar 0) (aCons (eVar 1) aNil))) aNil)) (eC (.int 12))))) [some (.v (inD' ds)), some (.v (.int (a : Int))), some (.v (.nd .ow .lst (strL PL))), some (.v (.nd .ow .lst (strL ML))), none, none, none, none, none, none, none, none] [] = .nx [some (.v (inD' ds)), some (.v (.int (a : Int))), some (.v (.nd .ow .lst (strL PL))), some (.v (.nd .ow .lst (strL ML))), some (.v (.int ((2 + c0 : Nat) : Int))), none, none, none, none, none, none, none] [] := by
    have e := op_of (g := gAdd) (a := eC (.int 2)) (ls := [some (.v (inD' ds)), some (.v (.int (a : Int))), some (.v (.nd .ow .lst (strL PL))), some (.v (.nd .ow .lst (strL ML))), none, none, none, none, none, none, none, none]) (gh := []) (x := .v (.int 2)) rfl (op_of (g := gMod) (fint_of (dig_call (ds := ds) (ls := [some (.v (inD' ds)), some (.v (.int (a : Int))), some (.v (.nd .ow .lst (strL PL))), some (.v (.nd .ow .lst (strL ML))), none, none, none, none, none, none, none, none]) (e := eVar 1) (a := a) rfl rfl rfl)) (rfl : eC (.int 12) _ _ = .ok (.v (.int 12)) _ _) (gMod_int (by decide))) gAdd_int
    rw [sSet_ap, e, hc]
    show SOut.nx [some (.v (inD' ds)), some (.v (.int (a : Int))), some (.v (.nd .ow .lst (strL PL))), some (.v (.nd .ow .lst (strL ML))), some (.v (.int (2 + (c0 : Int)))), none, none, none, none, none, none, none] [] = _
    rw [show (2 : Int) + (c0 : Int) = ((2 + c0 : Nat) : Int) by omega]
  have s5 : (sSet 5 (eLst aNil)) [some (.v (inD' ds)), some (.v (.int (a : Int))), some (.v (.nd .ow .lst (strL PL))), some (.v (.nd .ow .lst (strL ML))), some (.v (.int ((2 + c0 : Nat) : Int))), none, none, none, none, none, none, none] [] = .nx (IL ds a (2 + c0) [] none none none none none) [] := rfl
  have r : rngD 0 ((4 : Nat) : Int) = (List.range' 0 4).map fun (i : Nat) => D.int (i : Int) := by rw [rng0, List.range_eq_range']
  refine (seq_of s2).trans ((seq_of s3).trans ((seq_of s4).trans ((seq_of s5).trans ((seq_of ((sFor_of (iR1_of (n := 4) rfl (by decide))).trans (by rw [r]; exact g))).trans ?_))))
  have s11 : (sSet 11 (eCall f_law_pick [] (aCons (eVar 0) (aCons (eOp gAdd (eVar 1) (eC (.int 1))) (aCons (eOp gAdd (eB fLen (aCons (eVar 5) aNil)) (eC (.int 1))) aNil))))) (IL ds a (2 + c0) R z6 z7 z8 z9 z10) [] = .nx [some (.v (inD' ds)), some (.v (.int (a : Int))), some (.v (.nd .ow .lst (strL PL))), some (.v (.nd .ow .lst (strL ML))), some (.v (.int ((2 + c0 : Nat) : Int))), some (.v (.nd .ow .lst (R.map rowD))), z6, z7, z8, z9, z10, some (.v (.int (t : Int)))] [] := by
    have ln : (eB fLen (aCons (eVar 5) aNil)) (IL ds a (2 + c0) R z6 z7 z8 z9 z10) [] = .ok (.v (.int ((R.map rowD).length : Nat))) (IL ds a (2 + c0) R z6 z7 z8 z9 z10) [] := by
      rw [eB_ap, aCons_ap]
      show f1Len (.pth (.l 5) []) (IL ds a (2 + c0) R z6 z7 z8 z9 z10) [] = _
      exact f1Len_p (atD_l rfl)
    have l1 : (eOp gAdd (eB fLen (aCons (eVar 5) aNil)) (eC (.int 1))) (IL ds a (2 + c0) R z6 z7 z8 z9 z10) [] = .ok (.v (.int ((R.length + 1 : Nat) : Int))) (IL ds a (2 + c0) R z6 z7 z8 z9 z10) [] := by
      rw [op_of (g := gAdd) ln (rfl : eC (.int 1) _ _ = .ok (.v (.int 1)) _ _) gAdd_int, List.length_map, show ((R.length : Nat) : Int) + 1 = ((R.length + 1 : Nat) : Int) by omega]
    have a1 : (eOp gAdd (eVar 1) (eC (.int 1))) (IL ds a (2 + c0) R z6 z7 z8 z9 z10) [] = .ok (.v (.int ((a + 1 : Nat) : Int))) (IL ds a (2 + c0) R z6 z7 z8 z9 z10) [] := rfl
    have v0 : eVar 0 (IL ds a (2 + c0) R z6 z7 z8 z9 z10) [] = .ok (.v (inD' ds)) (IL ds a (2 + c0) R z6 z7 z8 z9 z10) [] := rfl
    have c : (eCall f_law_pick [] (aCons (eVar 0) (aCons (eOp gAdd (eVar 1) (eC (.int 1))) (aCons (eOp gAdd (eB fLen (aCons (eVar 5) aNil)) (eC (.int 1))) aNil)))) (IL ds a (2 + c0) R z6 z7 z8 z9 z10) [] = .ok (.v (.int (t : Int))) (IL ds a (2 + c0) R z6 z7 z8 z9 z10) [] := by
      rw [← ht]
      refine call_of (xs := [.v (inD' ds), .v (.int ((a + 1 : Nat) : Int)), .v (.int ((R.length + 1 : Nat) : Int))]) (ds := [inD' ds, .int ((a + 1 : Nat) : Int), .int ((R.length + 1 : Nat) : Int)]) ?_ rfl (lpick_ok (i := a + 1) (by omega))
      rw [aCons_ap, v0, bind_ok, aCons_ap, a1, bind_ok, aCons_ap, l1, bind_ok, aNil_ap, bind_ok, bind_ok, bind_ok]
    rw [sSet_ap, c]
    rcases g6 with rfl | ⟨d6, rfl⟩ <;> rcases g7 with rfl | ⟨d7, rfl⟩ <;> rcases g8 with rfl | ⟨d8, rfl⟩ <;> rcases g9 with rfl | ⟨d9, rfl⟩ <;> rcases g10 with rfl | ⟨d10, rfl⟩ <;> rfl
  refine (seq_of s11).trans ?_
  generalize hL : [some (V.v (inD' ds)), some (V.v (.int (a : Int))), some (V.v (.nd .ow .lst (strL PL))), some (V.v (.nd .ow .lst (strL ML))), some (V.v (.int ((2 + c0 : Nat) : Int))), some (V.v (.nd .ow .lst (R.map rowD))), z6, z7, z8, z9, z10, some (V.v (.int (t : Int)))] = L
  have v5 : eVar 5 L [] = .ok (.pth (.l 5) []) L [] := by rw [← hL]; rfl
  have at5 : atD L [] (.l 5) [] = some (.nd .ow .lst (R.map rowD)) := by rw [← hL]; exact atD_l rfl
  have y11 : oYes (eVar 11) L [] = .ok (some (t : Int)) L [] := by rw [← hL]; rfl
  have b1 : (eSl (eVar 5) (oYes (eVar 11)) oNo) L [] = .ok (.v (.nd .ow .lst ((R.map rowD).drop t))) L [] := by
    unfold eSl
    rw [v5, bind_ok, y11, bind_ok]
    show gSl (.pth (.l 5) []) (some (t : Int)) none L [] = _
    rw [gSl_p at5 (rows_shr R), cut_b (by rw [List.length_map]; exact htl)]
  have b2 : (eSl (eVar 5) oNo (oYes (eVar 11))) L [] = .ok (.v (.nd .ow .lst ((R.map rowD).take t))) L [] := by
    unfold eSl
    rw [v5, bind_ok]
    show ((oYes (eVar 11) L []).bind fun h ls gh => gSl (.pth (.l 5) []) none h ls gh) = _
    rw [y11, bind_ok, gSl_p at5 (rows_shr R), cut_a (by rw [List.length_map]; exact htl)]
  have e := op_of (g := gAdd) b1 b2 (add_vv (by rw [← List.map_drop]; exact rows_shr _) (by rw [← List.map_take]; exact rows_shr _) (by rw [List.length_drop, List.length_take, List.length_map]; omega))
  rw [sRet_ap, e, ← List.map_drop, ← List.map_take, ← List.map_append]
  rfl
end K44.V
set_option Elab.async false
set_option linter.all false
set_option maxRecDepth 100000
set_option maxHeartbeats 4000000
set_option cbv.maxSteps 1000000
set_option pp.maxSteps 400
namespace K44.V
open VL
open GL (PV)
def GE (E : List D) : Prop := E.all (fun e => plD 9 e && Nat.ble (szD 9 e) 60) = true ∧ E.length ≤ 90
theorem ge_pl {E : List D} (h : GE E) : plD 10 (.nd .fz .lst E) = true := by
  show E.all (plD 9) = true
  have h := h.1
  rw [List.all_eq_true] at h ⊢
  intro x hx
  have := h x hx
  rw [Bool.and_eq_true] at this
  exact this.1
theorem ge_shr {E : List D} (h : GE E) : E.all D.shr = true := by
  have h := h.1
  rw [List.all_eq_true] at h ⊢
  intro x hx
  have := h x hx
  rw [Bool.and_eq_true] at this
  exact plD_shr this.1
theorem ge_sum : ∀ {E : List D}, E.all (fun e => plD 9 e && Nat.ble (szD 9 e) 60) = true → (E.map (szD 9)).sum ≤ 60 * E.length
  | [], _ => Nat.le_refl 0
  | e :: r, h => by
    rw [List.all_cons, Bool.and_eq_true, Bool.and_eq_true] at h
    have h1 := Nat.le_of_ble_eq_true h.1.2
    have h2 := ge_sum h.2
    rw [List.map_cons, List.sum_cons, List.length_cons]
    omega
theorem ge_sz {E : List D} (h : GE E) : szD 10 (.nd .fz .lst E) < 6000 := by
  have h1 := ge_sum h.1
  have h2 := h.2
  show 1 + (E.map (szD 9)).sum < 6000
  omega
theorem eq_eq : f_law_equal = VL.f_equal := rfl
theorem eq_str {s : M.Nm} (h : Sok s) : f_law_equal [.v (.str s), .v (.str s)] [] = .ok (.bl true) [] := by
  rw [eq_eq]
  exact equal_ok (f := 9) (d := .str s) h (by show 1 < 6000; decide)
theorem eq_non : f_law_equal [.v .non, .v .non] [] = .ok (.bl true) [] := by
  rw [eq_eq]
  exact equal_ok (f := 9) (d := .non) rfl (by show 1 < 6000; decide)
theorem eq_ff {E : List D} (h : GE E) : f_law_equal [.v (.nd .fz .lst E), .v (.nd .fz .lst E)] [] = .ok (.bl true) [] := by
  rw [eq_eq]
  exact equal_ok (ge_pl h) (ge_sz h)
theorem eq_fo {E : List D} (h : GE E) : f_law_equal [.v (.nd .fz .lst E), .v (.nd .ow .lst E)] [] = .ok (.bl true) [] := by
  rw [eq_eq]
  exact equal_fo (frzs_shr (ge_shr h)) (ge_pl h) (ge_sz h)
theorem eq_of' {E : List D} (h : GE E) : f_law_equal [.v (.nd .ow .lst E), .v (.nd .fz .lst E)] [] = .ok (.bl true) [] := by
  rw [eq_eq]
  exact equal_of (frzs_shr (ge_shr h)) (ge_pl h) (ge_sz h)
theorem set2_oo {xs ys : List D} (hz : D.frzs xs = some ys) : (sSet 2 (eLst (aCons (eTup (aCons (eVar 0) (aCons (eVar 1) aNil))) aNil))) [some (.v (.nd .ow .lst xs)), some (.v (.nd .ow .lst xs)), none, none, none, none, none, none, none] [] = .nx (LSq (.nd .fz .lst ys) (.nd .fz .lst ys) [pairD (.nd .fz .lst ys)] none none none none none) [] := by
  unfold D.frzs at hz
  cbv
  rw [hz]
  cbv
  rw [hz]
  kernel_rfl
theorem eq_oo {E : List D} (h : GE E) : f_law_equal [.v (.nd .ow .lst E), .v (.nd .ow .lst E)] [] = .ok (.bl true) [] := by
  rw [eq_eq]
  exact equal_from (ge_pl h) (ge_sz h) (set2_oo (frzs_shr (ge_shr h)))
theorem ge_str {l : List M.Nm} (h : ∀ x ∈ l, Sok x) (hl : l.length ≤ 90) : GE (strL l) := by
  refine ⟨?_, by unfold strL; rw [List.length_map]; exact hl⟩
  unfold strL
  rw [List.all_map, List.all_eq_true]
  intro x hx
  show (plD 9 (.str x) && Nat.ble (szD 9 (.str x)) 60) = true
  have e : plD 9 (.str x) = true := h x hx
  rw [e]; rfl
theorem ge_mv {R : List M.Row} (hR : RowsOk R) (hl : R.length ≤ 52) (s : M.Nm) : GE ((M.mv R s).map mvD) := by
  refine ⟨?_, ?_⟩
  · rw [List.all_map, List.all_eq_true]
    intro p hp
    have hp := M.mem_mv.mp hp
    have e1 : Sok p.1 := hR.c _ hp
    have e2 : Sok p.2 := by
      rcases hR.b _ hp with e | e
      · show Sok p.2; rw [show p.2 = M.bad from e]; unfold Sok; decide +kernel
      · exact PL_s _ e
    show (plD 9 (.tup [.str p.1, .str p.2]) && Nat.ble (szD 9 (.tup [.str p.1, .str p.2])) 60) = true
    have e : plD 9 (.tup [.str p.1, .str p.2]) = true := by
      show (plD 8 (.str p.1) && (plD 8 (.str p.2) && true)) = true
      have a1 : plD 8 (.str p.1) = true := e1
      have a2 : plD 8 (.str p.2) = true := e2
      rw [a1, a2]; rfl
    rw [e]; rfl
  · rw [List.length_map]
    unfold M.mv
    exact Nat.le_trans (List.length_filterMap_le _ _) (by omega)
theorem due_sok {R : List M.Row} (hR : RowsOk R) (F : M.Nm → Option Nat) : ∀ (n : Nat) (s : M.Nm), ∀ x ∈ M.W F R n s, Sok x
  | 0, s, x, hx => by cases hx
  | n + 1, s, x, hx => by
    unfold M.W at hx
    split at hx
    · rename_i p hp
      unfold M.nxt at hp
      rcases List.mem_cons.mp hx with h | h
      · rw [h]; exact hR.c _ (M.mem_mv.mp (List.mem_of_find?_eq_some hp))
      · exact due_sok hR F n p.2 x h
    · cases hx
theorem reach_in {P : List M.Nm} {R : List M.Row} (hRP : ∀ r ∈ R, r.2.2 = M.bad ∨ r.2.2 ∈ P) : ∀ (n p : Nat) (f : List M.Nm), RI P f → ∀ x ∈ reach R n p f, x ∈ P
  | 0, p, f, h => h.k
  | n + 1, p, f, h => by
    unfold reach
    split
    · exact h.k
    · rename_i q _
      exact reach_in hRP n (p + 1) _ (h.grows fun x hx => hRP _ (M.mem_mv.mp hx)).1
theorem lc_fmG {β : Type} {g : MG} {tt : PT} {te : PE} {vs : List Nat} {L0 gh : Ls} {LA : β → Ls} (f h : β → D) (p : β → Bool)
    (hg : ∀ a, g (.v (f a)) (resD (fun _ => none) vs L0 gh).1 (resD (fun _ => none) vs L0 gh).2 = some (LA a, gh))
    (hr : ∀ a, resD (fun v => keepV (L0.getD v none)) vs (LA a) gh = (L0, gh)) : ∀ (l : List β) (acc : List D), acc.length + l.length < 10000 →
    (∀ a ∈ l, tt (LA a) gh = .ok (p a) (LA a) gh ∧ te (LA a) gh = .ok (.v (h a)) (LA a) gh) →
    lcV g tt te vs L0 (l.map f) acc L0 gh = .ok (.v (.nd .ow .lst (acc ++ (l.filter p).map h))) L0 gh
  | [], acc, _, _ => by rw [List.filter_nil, List.map_nil, List.map_nil, List.append_nil]; rfl
  | a :: r, acc, hl, hh => by
    obtain ⟨h1, h2⟩ := hh a List.mem_cons_self
    have hlim : acc.length < GL.lim := by
      have : GL.lim = 100000 := rfl
      rw [List.length_cons] at hl; omega
    rw [List.map_cons]
    unfold lcV
    rw [hg a]
    dsimp only
    rw [h1]
    cases hp : p a with
    | true =>
      dsimp only
      rw [h2]
      show (if acc.length < GL.lim then lcV g tt te vs L0 (r.map f) (acc ++ [h a]) (resD (fun v => keepV (L0.getD v none)) vs (LA a) gh).1 (resD (fun v => keepV (L0.getD v none)) vs (LA a) gh).2 else .bad) = _
      rw [if_pos hlim, hr a]
      dsimp only
      rw [lc_fmG f h p hg hr r (acc ++ [h a]) (by rw [List.length_append, List.length_cons, List.length_nil]; rw [List.length_cons] at hl; omega) (fun b hb => hh b (List.mem_cons_of_mem _ hb)), List.filter_cons_of_pos hp, List.map_cons, List.append_assoc]
      rfl
    | false =>
      dsimp only
      rw [hr a]
      dsimp only
      rw [lc_fmG f h p hg hr r acc (by rw [List.length_cons] at hl; omega) (fun b hb => hh b (List.mem_cons_of_mem _ hb)), List.filter_cons_of_neg (by rw [hp]; decide)]
theorem init_ok {R : List M.Row} {s : M.Nm} {x : D} {k : Kd} (hx : x = .nd .fz .lst (R.map rowD) ∨ x = .tup (R.map rowD)) (hl : R.length < 1000) : f_Table_init [.al (.g 0) [], .v (.str s), .v x] [.nd .ow (.ins n_Table []) []] = .ok .non [tabD .ow s R] := by
  have c := lc_fmG (g := gN 3) (tt := tYesM) (te := eB fTuple (aCons (eVar 3) aNil)) (vs := [3]) (L0 := [some (.al (.g 0) []), some (.v (.str s)), some (.v x), none]) (gh := [some (.io (.nd .ow (.ins n_Table [n_first]) [.str s]))]) (LA := fun r => [some (.al (.g 0) []), some (.v (.str s)), some (.v x), some (.v (rowD r))]) rowD rowD (fun _ => true) (fun _ => rfl) (fun _ => rfl) R [] (by show 0 + R.length < 10000; omega) (fun r _ => ⟨rfl, rfl⟩)
  rw [List.nil_append, List.filter_eq_self.mpr (fun _ _ => rfl)] at c
  have it : iSeq (eVar 2) [some (.al (.g 0) []), some (.v (.str s)), some (.v x), none] [some (.io (.nd .ow (.ins n_Table [n_first]) [.str s]))] = .ok (R.map rowD) [some (.al (.g 0) []), some (.v (.str s)), some (.v x), none] [some (.io (.nd .ow (.ins n_Table [n_first]) [.str s]))] := by
    rcases hx with rfl | rfl
    · exact iSeq_of (d := .nd .fz .lst (R.map rowD)) (k := .lst) rfl rfl rfl
    · exact iSeq_of (d := .tup (R.map rowD)) (k := .tup) rfl rfl rfl
  have e : (eLc (iSeq (eVar 2)) (gN 3) tYesM (eB fTuple (aCons (eVar 3) aNil)) [3]) [some (.al (.g 0) []), some (.v (.str s)), some (.v x), none] [some (.io (.nd .ow (.ins n_Table [n_first]) [.str s]))] = .ok (.v (.nd .ow .lst (R.map rowD))) [some (.al (.g 0) []), some (.v (.str s)), some (.v x), none] [some (.io (.nd .ow (.ins n_Table [n_first]) [.str s]))] := by
    unfold eLc
    rw [it, bind_ok, if_pos]
    · exact c
    · rfl
  have s1 : (sFldM tab n_first (eVar 0) (eVar 1)) [some (.al (.g 0) []), some (.v (.str s)), some (.v x), none] [some (.io (.nd .ow (.ins n_Table []) []))] = .nx [some (.al (.g 0) []), some (.v (.str s)), some (.v x), none] [some (.io (.nd .ow (.ins n_Table [n_first]) [.str s]))] := by
    rcases hx with rfl | rfl <;> rfl
  have s2 : (sFldM tab n_rows (eVar 0) (eLc (iSeq (eVar 2)) (gN 3) tYesM (eB fTuple (aCons (eVar 3) aNil)) [3])) [some (.al (.g 0) []), some (.v (.str s)), some (.v x), none] [some (.io (.nd .ow (.ins n_Table [n_first]) [.str s]))] = .nx [some (.al (.g 0) []), some (.v (.str s)), some (.v x), none] [some (.io (tabD .ow s R))] := by
    unfold sFldM
    rw [e]
    rcases hx with rfl | rfl <;> rfl
  exact fnOf_nx (gh := [some (.io (tabD .ow s R))]) rfl ((seq_of s1).trans s2) rfl
theorem make_ok {R : List M.Row} {s : M.Nm} {x : D} (hx : x = .nd .fz .lst (R.map rowD) ∨ x = .tup (R.map rowD)) (hl : R.length < 1000) : mkF n_Table f_Table_init [.v (.str s), .v x] [] = .ok (tabD .ow s R) [] := by
  have h := init_ok (s := s) (k := .lst) hx hl
  show (match makeD f_Table_init n_Table [.str s, x] [] [] with
      | .ok (.v d) _ _ => FOut.ok d []
      | .exc e _ _ => .exc e []
      | _ => .bad) = _
  have m : makeD f_Table_init n_Table [.str s, x] [] [] = .ok (.v (tabD .ow s R)) [] [] := by
    unfold makeD
    show (match f_Table_init [.al (.g 0) [], .v (.str s), .v x] [.nd .ow (.ins n_Table []) []] with
      | .ok (.sc .non) [d] => Out.ok (RV.v d) [] []
      | .exc e [_] => .exc e [] []
      | _ => .bad) = _
    rw [h]
  rw [m]
theorem noLs_rows (R : List M.Row) : noLs (R.map rowD) = true := by
  rw [noLs_iff]
  intro x hx
  obtain ⟨r, _, rfl⟩ := List.mem_map.mp hx
  rfl
theorem onlyLs_rows (R : List M.Row) : onlyLs (R.map rowD) = true := by
  rw [onlyLs_iff]
  intro x hx
  obtain ⟨r, _, rfl⟩ := List.mem_map.mp hx
  rfl
theorem noL_tab (s : M.Nm) (R : List M.Row) : noL (tabD .ow s R) = true := by
  show (noL (.str s) && (noL (.nd .ow .lst (R.map rowD)) && true)) = true
  show (true && ((true && noLs (R.map rowD)) && true)) = true
  rw [noLs_rows]; rfl
theorem frz_tab (s : M.Nm) (R : List M.Row) : D.frz (tabD .ow s R) = some (tabD .fz s R) := by
  unfold tabD
  simp [D.frz, D.frzs, rows_frz]
theorem bw_pth {r : Rt} {p : List Nat} {ls gh : Ls} {xs : List D} (h : atD ls gh r p = some (.nd .ow .lst xs)) (ho : onlyLs xs = true) (hz : D.frzs xs = some xs) : bwR (.pth r p) ls gh = some (.nd .fz .lst xs) := by
  unfold bwR
  simp only [h]
  rw [if_neg (fun h => by cases h)]
  have e : onlyL (.nd .ow .lst xs) = true := ho
  rw [if_pos e]
  simp [D.frz, hz]
theorem bw2_vv {a b : D} {ls gh : Ls} : bwL [.v a, .v b] ls gh = some [a, b] := rfl
theorem bw2_pp {x y : RV} {ls gh : Ls} {a b : D} (h1 : bwR x ls gh = some a) (h2 : bwR y ls gh = some b) : bwL [x, y] ls gh = some [a, b] := by
  simp only [bwL, h1, h2]
theorem only_str (l : List M.Nm) : onlyLs (strL l) = true := by
  rw [onlyLs_iff]
  intro x hx
  obtain ⟨r, _, rfl⟩ := List.mem_map.mp hx
  rfl
theorem only_mv (l : List (M.Nm × M.Nm)) : onlyLs (l.map mvD) = true := by
  rw [onlyLs_iff]
  intro x hx
  obtain ⟨r, _, rfl⟩ := List.mem_map.mp hx
  rfl
end K44.V
set_option Elab.async false
set_option linter.all false
set_option maxRecDepth 100000
set_option maxHeartbeats 4000000
set_option cbv.maxSteps 1000000
set_option pp.maxSteps 400
namespace K44.V
open VL
open GL (PV)
section
variable {ls gh : Ls} {a b : PE} {t u : PT} {x y : RV} {k : Bool}
theorem not_of (h : t ls gh = .ok k ls gh) : tNotM t ls gh = .ok (!k) ls gh := by rw [tNotM_ap, h]; rfl
theorem and_of {r : Out RV} (h : a ls gh = .ok (.v (.bl true)) ls gh) (h2 : b ls gh = r) : eAndM a b ls gh = r := by
  unfold eAndM
  rw [h]; exact h2
theorem args2 (h1 : a ls gh = .ok x ls gh) (h2 : b ls gh = .ok y ls gh) : (aCons a (aCons b aNil)) ls gh = .ok [x, y] ls gh := by
  rw [aCons_ap, h1, bind_ok, aCons_ap, h2, bind_ok, aNil_ap, bind_ok, bind_ok]
theorem eqB_of {d e : D} (h1 : a ls gh = .ok x ls gh) (h2 : b ls gh = .ok y ls gh) (hb : bwL [x, y] ls gh = some [d, e]) (he : f_law_equal [.v d, .v e] [] = .ok (.bl true) []) : (eCallB f_law_equal [] (aCons a (aCons b aNil))) ls gh = .ok (.v (.bl true)) ls gh :=
  callB_of (args2 h1 h2) hb he rfl
theorem exp_ap {args : PA} {ys : List RV} {xs : List D} {v : RV} {ls2 gh2 : Ls} (ho : a ls gh = .ok x ls gh) (hv : val x ls gh = some (.nd .ow .lst xs)) (ha : args ls gh = .ok ys ls gh) (hm : mAppend x ys ls gh = .ok v ls2 gh2) : sExpr (eMt kList mAppend a args) ls gh = .nx ls2 gh2 := by
  rw [sExpr_ap, mt_of ho hv rfl ha, hm]; rfl
theorem ret_of {d : D} {ls : Ls} (h : a ls [] = .ok (.v d) ls []) : sRet a ls [] = .rt d [] := by rw [sRet_ap, h]; rfl
end
abbrev AL (s : M.Nm) (R : List M.Row) (z3 z4 z5 z6 z7 : Option V) : Ls := [some (.v (tabD .fz s R)), some (.v (.str s)), some (.v (rowsD R)), z3, z4, z5, z6, z7]
abbrev mE : PE := (eMeth n_Table n_moves f_Table_moves [] (eVar 0) (aCons (eVar 6) aNil))
abbrev oE : PE := (eCall f_law_of [] (aCons (eVar 2) (aCons (eVar 6) aNil)))
abbrev AB : MS := (sSeq (sSet 7 mE)
  (sSeq (sIf (tNotM (toT (eCallB f_law_equal [] (aCons (eVar 7) (aCons oE aNil))))) (sRet (eC (.bl false))) sNil)
  (sSeq (sExpr (eMt kList mAppend (eVar 7) (aCons (eTup (aCons (eC (.str n_further)) (aCons (eC (.str n_bad)) aNil))) aNil)))
  (sIf (tNotM (toT (eCallB f_law_equal [] (aCons mE (aCons oE aNil))))) (sRet (eC (.bl false))) sNil))))
theorem as_turn {s p : M.Nm} {R : List M.Row} (hR : RowsOk R) (hl : R.length ≤ 52) {a3 a4 a5 : D} {z7 : Option V} (h7 : okA1 z7) : ∃ z7', okA1 z7' ∧ AB (AL s R (some (.v a3)) (some (.v a4)) (some (.v a5)) (some (.v (.str p))) z7) [] = .nx (AL s R (some (.v a3)) (some (.v a4)) (some (.v a5)) (some (.v (.str p))) z7') [] := by
  have m : ∀ z7, mE (AL s R (some (.v a3)) (some (.v a4)) (some (.v a5)) (some (.v (.str p))) z7) [] = .ok (.v (.nd .ow .lst ((M.mv R p).map mvD))) (AL s R (some (.v a3)) (some (.v a4)) (some (.v a5)) (some (.v (.str p))) z7) [] := fun z7 =>
    meth_of (o := eVar 0) (x := .v (tabD .fz s R)) (xs := [.v (.str p)]) (ds := [tabD .fz s R, .str p]) (dws := []) rfl rfl rfl rfl rfl (moves_ok (by omega))
  have o : ∀ z7, oE (AL s R (some (.v a3)) (some (.v a4)) (some (.v a5)) (some (.v (.str p))) z7) [] = .ok (.v (.nd .ow .lst ((M.mv R p).map mvD))) (AL s R (some (.v a3)) (some (.v a4)) (some (.v a5)) (some (.v (.str p))) z7) [] := fun z7 =>
    call_of (xs := [.v (rowsD R), .v (.str p)]) (ds := [rowsD R, .str p]) (dws := []) rfl rfl (of_ok (by omega))
  have G := ge_mv hR hl p
  have s7 : (sSet 7 mE) (AL s R (some (.v a3)) (some (.v a4)) (some (.v a5)) (some (.v (.str p))) z7) [] = .nx (AL s R (some (.v a3)) (some (.v a4)) (some (.v a5)) (some (.v (.str p))) (some (.v (.nd .ow .lst ((M.mv R p).map mvD))))) [] := by
    rw [sSet_ap, m z7]
    rcases h7 with rfl | ⟨d7, rfl⟩ <;> rfl
  have e1 := eqB_of (a := eVar 7) (ls := AL s R (some (.v a3)) (some (.v a4)) (some (.v a5)) (some (.v (.str p))) (some (.v (.nd .ow .lst ((M.mv R p).map mvD))))) (gh := []) (x := .pth (.l 7) []) rfl (o _) (bw2_pp (bw_pth (atD_l rfl) (only_mv _) (frzs_shr (mvs_shr _))) rfl) (eq_fo G)
  have hlim : ((M.mv R p).map mvD).length < GL.lim := by
    have h1 : GL.lim = 100000 := rfl
    have := G.2
    omega
  have mm := mAppend_l (ls := AL s R (some (.v a3)) (some (.v a4)) (some (.v a5)) (some (.v (.str p))) (some (.v (.nd .ow .lst ((M.mv R p).map mvD))))) (gh := []) (i := 7) (d := mvD (n_further, n_bad)) rfl hlim
  have ap : (sExpr (eMt kList mAppend (eVar 7) (aCons (eTup (aCons (eC (.str n_further)) (aCons (eC (.str n_bad)) aNil))) aNil))) (AL s R (some (.v a3)) (some (.v a4)) (some (.v a5)) (some (.v (.str p))) (some (.v (.nd .ow .lst ((M.mv R p).map mvD))))) [] = .nx (AL s R (some (.v a3)) (some (.v a4)) (some (.v a5)) (some (.v (.str p))) (some (.v (.nd .ow .lst ((M.mv R p).map mvD ++ [mvD (n_further, n_bad)]))))) [] := exp_ap (x := .pth (.l 7) []) (ys := [.v (mvD (n_further, n_bad))]) rfl (atD_l rfl) rfl mm
  have e2 := eqB_of (ls := AL s R (some (.v a3)) (some (.v a4)) (some (.v a5)) (some (.v (.str p))) (some (.v (.nd .ow .lst ((M.mv R p).map mvD ++ [mvD (n_further, n_bad)]))))) (gh := []) (m _) (o _) bw2_vv (eq_oo G)
  exact ⟨_, .inr ⟨_, rfl⟩, (seq_of s7).trans ((seq_of (if_no (not_of (toT_of e1)))).trans ((seq_of ap).trans (if_no (not_of (toT_of e2)))))⟩
theorem as_loop {s : M.Nm} {R : List M.Row} (hR : RowsOk R) (hl : R.length ≤ 52) {a3 a4 a5 : D} : ∀ (ps : List M.Nm) (z6 z7 : Option V), okA1 z6 → okA1 z7 →
    ∃ z6' z7', forV (gN 6) AB (strL ps) (AL s R (some (.v a3)) (some (.v a4)) (some (.v a5)) z6 z7) [] = .nx (AL s R (some (.v a3)) (some (.v a4)) (some (.v a5)) z6' z7') []
  | [], z6, z7, _, _ => ⟨z6, z7, rfl⟩
  | p :: ps, z6, z7, h6, h7 => by
    obtain ⟨y7, g7, g⟩ := as_turn (s := s) (p := p) hR hl (a3 := a3) (a4 := a4) (a5 := a5) h7
    obtain ⟨x6, x7, e⟩ := as_loop (s := s) hR hl (a3 := a3) (a4 := a4) (a5 := a5) ps (some (.v (.str p))) y7 (.inr ⟨_, rfl⟩) g7
    refine ⟨x6, x7, ?_⟩
    have hg : gN 6 (.v (.str p)) (AL s R (some (.v a3)) (some (.v a4)) (some (.v a5)) z6 z7) [] = some (AL s R (some (.v a3)) (some (.v a4)) (some (.v a5)) (some (.v (.str p))) z7, []) := by
      rcases h6 with rfl | ⟨d6, rfl⟩ <;> rcases h7 with rfl | ⟨d7, rfl⟩ <;> rfl
    show forV (gN 6) AB (D.str p :: strL ps) _ [] = _
    rw [forV_cons hg]
    dsimp only
    rw [g, loopK_nx]
    exact e
abbrev stE : PE := (eMeth n_Table n_start f_Table_start [] (eVar 0) aNil)
abbrev scE : PE := (eMeth n_Table n_scenario f_Table_scenario [] (eVar 0) aNil)
abbrev ssE : PE := (eMeth n_Table n_states f_Table_states [] (eVar 0) aNil)
abbrev reE : PE := (eCall f_law_reached [] (aCons (eVar 2) (aCons (eVar 1) aNil)))
abbrev AT : MS := (sSeq (sSet 5 ssE)
  (sSeq (sIf (tNotM (toT (eCallB f_law_equal [] (aCons (eVar 5) (aCons reE aNil))))) (sRet (eC (.bl false))) sNil)
  (sSeq (sExpr (eMt kList mAppend (eVar 5) (aCons (eC (.str n_further)) aNil)))
  (sSeq (sFor (iSeq (eCall f_law_places [] aNil)) (gN 6) AB)
  (sRet (eAndM (eCallB f_law_equal [] (aCons scE (aCons (eVar 3) aNil))) (eCallB f_law_equal [] (aCons ssE (aCons reE aNil)))))))))
theorem asked_eq : m_law_asked = (sSeq (sSet 3 (eCall f_law_due [] (aCons (eVar 2) (aCons (eVar 1) aNil))))
  (sSeq (sSet 4 scE)
  (sSeq (sIf (tOrM (tNotM (toT (eCallB f_law_equal [] (aCons stE (aCons (eVar 1) aNil))))) (tNotM (toT (eCallB f_law_equal [] (aCons (eVar 4) (aCons (eVar 3) aNil))))))
  (sRet (eC (.bl false)))
  sNil)
  (sSeq (sIf (toT (eOp (isM true) (eVar 4) (eC .non)))
  (sExpr (eMt kList mAppend (eVar 4) (aCons (eC (.str n_further)) aNil)))
  sNil) AT)))) := rfl
theorem PL_RI {s : M.Nm} (hs : s ∈ PL) : RI PL [s] := ⟨by simp, fun x hx => by rw [List.mem_singleton.mp hx]; exact hs⟩
section
variable {s : M.Nm} {R : List M.Row} (hR : RowsOk R) (hl : R.length ≤ 52) (hs : s ∈ PL)
theorem ss_ok {z3 z4 z5 z6 z7 : Option V} (hR : RowsOk R) (hl : R.length ≤ 52) (hs : s ∈ PL) : ssE (AL s R z3 z4 z5 z6 z7) [] = .ok (.v (.nd .ow .lst (strL (reach R 14 0 [s])))) (AL s R z3 z4 z5 z6 z7) [] :=
  meth_of (o := eVar 0) (x := .v (tabD .fz s R)) (xs := []) (ds := [tabD .fz s R]) (dws := []) rfl rfl rfl rfl rfl (states_ok PL_len hR.b (by omega) hs)
theorem re_ok {z3 z4 z5 z6 z7 : Option V} (hR : RowsOk R) (hl : R.length ≤ 52) (hs : s ∈ PL) : reE (AL s R z3 z4 z5 z6 z7) [] = .ok (.v (.nd .ow .lst (strL (reach R 14 0 [s])))) (AL s R z3 z4 z5 z6 z7) [] :=
  call_of (xs := [.v (rowsD R), .v (.str s)]) (ds := [rowsD R, .str s]) (dws := []) rfl rfl (reached_ok PL_len hR.b (by omega) hs)
theorem st_ok {z3 z4 z5 z6 z7 : Option V} : stE (AL s R z3 z4 z5 z6 z7) [] = .ok (.v (.str s)) (AL s R z3 z4 z5 z6 z7) [] :=
  meth_of (o := eVar 0) (x := .v (tabD .fz s R)) (xs := []) (ds := [tabD .fz s R]) (dws := []) (ios := []) rfl rfl rfl rfl rfl rfl
theorem sc_ok {z3 z4 z5 z6 z7 : Option V} (hR : RowsOk R) (hl : R.length ≤ 52) (hs : s ∈ PL) : scE (AL s R z3 z4 z5 z6 z7) [] = .ok (.v (match M.dueM R s with
    | some l => .nd .ow .lst (strL l)
    | none => .non)) (AL s R z3 z4 z5 z6 z7) [] :=
  meth_of (o := eVar 0) (x := .v (tabD .fz s R)) (xs := []) (ds := [tabD .fz s R]) (dws := []) rfl rfl rfl rfl rfl (scen_ok PL_len (fun r hr => ⟨PL_nb _ (hR.a r hr), hR.a r hr⟩) hR.b (by omega) hs (PL_nb _ hs))
theorem as_tail {a3 a4 : D} (hR : RowsOk R) (hl : R.length ≤ 52) (hs : s ∈ PL) (he : ∀ z5 z6 z7, (eCallB f_law_equal [] (aCons scE (aCons (eVar 3) aNil))) (AL s R (some (.v a3)) (some (.v a4)) z5 z6 z7) [] = .ok (.v (.bl true)) (AL s R (some (.v a3)) (some (.v a4)) z5 z6 z7) []) :
    AT (AL s R (some (.v a3)) (some (.v a4)) none none none) [] = .rt (.bl true) [] := by
  have G : GE (strL (reach R 14 0 [s])) := ge_str (fun x hx => PL_s x (reach_in hR.b 14 0 [s] (PL_RI hs) x hx)) (Nat.le_trans (reach_len PL_len hR.b 14 0 [s] (PL_RI hs)) (by decide))
  have s5 : (sSet 5 ssE) (AL s R (some (.v a3)) (some (.v a4)) none none none) [] = .nx (AL s R (some (.v a3)) (some (.v a4)) (some (.v (.nd .ow .lst (strL (reach R 14 0 [s]))))) none none) [] := by
    rw [sSet_ap, ss_ok hR hl hs]; rfl
  have e1 := eqB_of (a := eVar 5) (ls := AL s R (some (.v a3)) (some (.v a4)) (some (.v (.nd .ow .lst (strL (reach R 14 0 [s]))))) none none) (gh := []) (x := .pth (.l 5) []) rfl (re_ok hR hl hs) (bw2_pp (bw_pth (atD_l rfl) (only_str _) (frzs_shr (strs_shr _))) rfl) (eq_fo G)
  have hlim : (strL (reach R 14 0 [s])).length < GL.lim := by
    have h1 : GL.lim = 100000 := rfl
    have := G.2
    omega
  have mm := mAppend_l (ls := AL s R (some (.v a3)) (some (.v a4)) (some (.v (.nd .ow .lst (strL (reach R 14 0 [s]))))) none none) (gh := []) (i := 5) (d := .str n_further) rfl hlim
  have ap : (sExpr (eMt kList mAppend (eVar 5) (aCons (eC (.str n_further)) aNil))) (AL s R (some (.v a3)) (some (.v a4)) (some (.v (.nd .ow .lst (strL (reach R 14 0 [s]))))) none none) [] = .nx (AL s R (some (.v a3)) (some (.v a4)) (some (.v (.nd .ow .lst (strL (reach R 14 0 [s]) ++ [.str n_further])))) none none) [] := exp_ap (x := .pth (.l 5) []) (ys := [.v (.str n_further)]) rfl (atD_l rfl) rfl mm
  obtain ⟨z6, z7, lo⟩ := as_loop (s := s) hR hl (a3 := a3) (a4 := a4) (a5 := .nd .ow .lst (strL (reach R 14 0 [s]) ++ [.str n_further])) PL none none (.inl rfl) (.inl rfl)
  have it : iSeq (eCall f_law_places [] aNil) (AL s R (some (.v a3)) (some (.v a4)) (some (.v (.nd .ow .lst (strL (reach R 14 0 [s]) ++ [.str n_further])))) none none) [] = .ok (strL PL) (AL s R (some (.v a3)) (some (.v a4)) (some (.v (.nd .ow .lst (strL (reach R 14 0 [s]) ++ [.str n_further])))) none none) [] :=
    iSeq_o (call_of (xs := []) (ds := []) (dws := []) rfl rfl places_ok) (frzs_shr (strs_shr _))
  have e2 := eqB_of (ls := AL s R (some (.v a3)) (some (.v a4)) (some (.v (.nd .ow .lst (strL (reach R 14 0 [s]) ++ [.str n_further])))) z6 z7) (gh := []) (ss_ok hR hl hs) (re_ok hR hl hs) bw2_vv (eq_oo G)
  exact (seq_of s5).trans ((seq_of (if_no (not_of (toT_of e1)))).trans ((seq_of ap).trans ((seq_of ((sFor_of it).trans lo)).trans (ret_of (and_of (he _ _ _) e2)))))
theorem asked_ok (hR : RowsOk R) (hl : R.length ≤ 52) (hs : s ∈ PL) : f_law_asked [.v (tabD .fz s R), .v (.str s), .v (rowsD R)] [] = .ok (.bl true) [] := by
  obtain ⟨d1, d2⟩ := due_ok PL_len (fun r hr => ⟨PL_nb _ (hR.a r hr), hR.a r hr⟩) (show R.length < 100 by omega) (s := s)
  refine fnOf_rt (gh := []) rfl ?_ rfl
  show m_law_asked (AL s R none none none none none) [] = _
  rw [asked_eq]
  have es := eq_str (PL_s s hs)
  cases hd : M.dueM R s with
  | none =>
    rw [hd] at d1
    have s3 : (sSet 3 (eCall f_law_due [] (aCons (eVar 2) (aCons (eVar 1) aNil)))) (AL s R none none none none none) [] = .nx (AL s R (some (.v .non)) none none none none) [] := by
      have c : (eCall f_law_due [] (aCons (eVar 2) (aCons (eVar 1) aNil))) (AL s R none none none none none) [] = .ok (.v .non) (AL s R none none none none none) [] := call_of (xs := [.v (rowsD R), .v (.str s)]) (ds := [rowsD R, .str s]) (dws := []) rfl rfl d1
      rw [sSet_ap, c]; rfl
    have sc : ∀ z3 z4 z5 z6 z7, scE (AL s R z3 z4 z5 z6 z7) [] = .ok (.v .non) (AL s R z3 z4 z5 z6 z7) [] := fun z3 z4 z5 z6 z7 => by
      have := sc_ok (z3 := z3) (z4 := z4) (z5 := z5) (z6 := z6) (z7 := z7) hR hl hs
      rw [hd] at this; exact this
    have s4 : (sSet 4 scE) (AL s R (some (.v .non)) none none none none) [] = .nx (AL s R (some (.v .non)) (some (.v .non)) none none none) [] := by rw [sSet_ap, sc]; rfl
    have e1 := eqB_of (b := eVar 1) (ls := AL s R (some (.v .non)) (some (.v .non)) none none none) (gh := []) st_ok rfl bw2_vv es
    have e2 := eqB_of (a := eVar 4) (b := eVar 3) (ls := AL s R (some (.v .non)) (some (.v .non)) none none none) (gh := []) (x := .v .non) (y := .v .non) rfl rfl bw2_vv eq_non
    have s5 : (sIf (toT (eOp (isM true) (eVar 4) (eC .non))) (sExpr (eMt kList mAppend (eVar 4) (aCons (eC (.str n_further)) aNil))) sNil) (AL s R (some (.v .non)) (some (.v .non)) none none none) [] = .nx (AL s R (some (.v .non)) (some (.v .non)) none none none) [] := rfl
    exact (seq_of s3).trans ((seq_of s4).trans ((seq_of (if_no (or_go (not_of (toT_of e1)) (not_of (toT_of e2))))).trans ((seq_of s5).trans (as_tail hR hl hs fun z5 z6 z7 => eqB_of (b := eVar 3) (sc _ _ _ _ _) (y := .v .non) rfl bw2_vv eq_non))))
  | some l =>
    rw [hd] at d1
    have ll := d2 l hd
    have hsok : ∀ x ∈ l, Sok x := fun x hx => by
      unfold M.dueM at hd
      split at hd
      · cases hd
      · cases hd
        exact due_sok hR _ _ _ x hx
    have G : GE (strL l) := ge_str hsok (by omega)
    have s3 : (sSet 3 (eCall f_law_due [] (aCons (eVar 2) (aCons (eVar 1) aNil)))) (AL s R none none none none none) [] = .nx (AL s R (some (.v (.nd .ow .lst (strL l)))) none none none none) [] := by
      have c : (eCall f_law_due [] (aCons (eVar 2) (aCons (eVar 1) aNil))) (AL s R none none none none none) [] = .ok (.v (.nd .ow .lst (strL l))) (AL s R none none none none none) [] := call_of (xs := [.v (rowsD R), .v (.str s)]) (ds := [rowsD R, .str s]) (dws := []) rfl rfl d1
      rw [sSet_ap, c]; rfl
    have sc : ∀ z3 z4 z5 z6 z7, scE (AL s R z3 z4 z5 z6 z7) [] = .ok (.v (.nd .ow .lst (strL l))) (AL s R z3 z4 z5 z6 z7) [] := fun z3 z4 z5 z6 z7 => by
      have := sc_ok (z3 := z3) (z4 := z4) (z5 := z5) (z6 := z6) (z7 := z7) hR hl hs
      rw [hd] at this; exact this
    have s4 : (sSet 4 scE) (AL s R (some (.v (.nd .ow .lst (strL l)))) none none none none) [] = .nx (AL s R (some (.v (.nd .ow .lst (strL l)))) (some (.v (.nd .ow .lst (strL l)))) none none none) [] := by rw [sSet_ap, sc]; rfl
    have z := frzs_shr (strs_shr l)
    have e1 := eqB_of (b := eVar 1) (ls := AL s R (some (.v (.nd .ow .lst (strL l)))) (some (.v (.nd .ow .lst (strL l)))) none none none) (gh := []) st_ok rfl bw2_vv es
    have e2 := eqB_of (a := eVar 4) (b := eVar 3) (ls := AL s R (some (.v (.nd .ow .lst (strL l)))) (some (.v (.nd .ow .lst (strL l)))) none none none) (gh := []) (x := .pth (.l 4) []) (y := .pth (.l 3) []) rfl rfl (bw2_pp (bw_pth (atD_l rfl) (only_str _) z) (bw_pth (atD_l rfl) (only_str _) z)) (eq_ff G)
    have hlim : (strL l).length < GL.lim := by
      have h1 : GL.lim = 100000 := rfl
      have := G.2
      omega
    have mm := mAppend_l (ls := AL s R (some (.v (.nd .ow .lst (strL l)))) (some (.v (.nd .ow .lst (strL l)))) none none none) (gh := []) (i := 4) (d := .str n_further) rfl hlim
    have ap : (sExpr (eMt kList mAppend (eVar 4) (aCons (eC (.str n_further)) aNil))) (AL s R (some (.v (.nd .ow .lst (strL l)))) (some (.v (.nd .ow .lst (strL l)))) none none none) [] = .nx (AL s R (some (.v (.nd .ow .lst (strL l)))) (some (.v (.nd .ow .lst (strL l ++ [.str n_further])))) none none none) [] := exp_ap (x := .pth (.l 4) []) (ys := [.v (.str n_further)]) rfl (atD_l rfl) rfl mm
    have t5 : (toT (eOp (isM true) (eVar 4) (eC .non))) (AL s R (some (.v (.nd .ow .lst (strL l)))) (some (.v (.nd .ow .lst (strL l)))) none none none) [] = .ok true (AL s R (some (.v (.nd .ow .lst (strL l)))) (some (.v (.nd .ow .lst (strL l)))) none none none) [] := rfl
    exact (seq_of s3).trans ((seq_of s4).trans ((seq_of (if_no (or_go (not_of (toT_of e1)) (not_of (toT_of e2))))).trans ((seq_of ((if_yes t5).trans ap)).trans (as_tail hR hl hs fun z5 z6 z7 => eqB_of (b := eVar 3) (sc _ _ _ _ _) (y := .pth (.l 3) []) rfl (bw2_pp rfl (bw_pth (atD_l rfl) (only_str _) z)) (eq_of' G)))))
end
end K44.V
set_option Elab.async false
set_option linter.all false
set_option maxRecDepth 100000
set_option maxHeartbeats 4000000
set_option cbv.maxSteps 1000000
set_option pp.maxSteps 400
namespace K44.V
open VL
open GL (PV)
section
variable {ls gh ls1 gh1 ls2 gh2 ls3 gh3 : Ls} {t u : PT} {m1 m2 : MS} {x y z : RV} {a b c : D}
theorem or_not (h1 : t ls gh = .ok true ls1 gh1) (h2 : u ls1 gh1 = .ok true ls2 gh2) : tOrM (tNotM t) (tNotM u) ls gh = .ok false ls2 gh2 := by
  rw [tOrM_ap, tNotM_ap, h1]
  show (if (!true) = true then Out.ok true ls1 gh1 else tNotM u ls1 gh1) = _
  rw [if_neg (by decide), tNotM_ap, h2]; rfl
theorem if_no2 (h : t ls gh = .ok false ls2 gh2) : sIf t m1 sNil ls gh = .nx ls2 gh2 := by rw [sIf_ap, h]; rfl
theorem toT_2 {e : PE} (h : e ls gh = .ok (.v (.bl true)) ls2 gh2) : toT e ls gh = .ok true ls2 gh2 := by rw [toT_ap, h]; rfl
theorem cvL2 (h1 : cvR true x ls gh = some (a, ls1, gh1)) (h2 : cvR true y ls1 gh1 = some (b, ls2, gh2)) : cvL true [x, y] ls gh = some ([a, b], ls2, gh2) := by simp only [cvL, h1, h2]
theorem cvL3 (h1 : cvR true x ls gh = some (a, ls1, gh1)) (h2 : cvR true y ls1 gh1 = some (b, ls2, gh2)) (h3 : cvR true z ls2 gh2 = some (c, ls3, gh3)) : cvL true [x, y, z] ls gh = some ([a, b, c], ls3, gh3) := by simp only [cvL, h1, h2, h3]
theorem cv_l {i : Nat} {d e : D} (h : ls[i]? = some (some (.v d))) (hs : d.shr = false) (hz : D.frz d = some e) : cvR true (.pth (.l i) []) ls gh = some (e, modN (putV e) i (ls.map (killD (fun _ => true) (.l i) [])), gh.map (killD (fun _ => true) (.l i) [])) := by
  unfold cvR
  simp only [atD_l h]
  rw [if_neg (by rw [hs]; decide), hz]
  dsimp only
  rw [chD_l h]; rfl
end
theorem frz_lst {xs : List D} (h : D.frzs xs = some xs) : D.frz (.nd .ow .lst xs) = some (.nd .fz .lst xs) := by simp [D.frz, h]
theorem make2 {R : List M.Row} {s : M.Nm} {x : D} {ls gh : Ls} (hx : x = .nd .fz .lst (R.map rowD) ∨ x = .tup (R.map rowD)) (hl : R.length < 1000) : makeD f_Table_init n_Table [.str s, x] ls gh = .ok (.v (tabD .ow s R)) ls gh := by
  have h := init_ok (s := s) (k := .lst) hx hl
  unfold makeD
  show (match f_Table_init [.al (.g 0) [], .v (.str s), .v x] [.nd .ow (.ins n_Table []) []] with
    | .ok (.sc .non) [d] => Out.ok (RV.v d) ls gh
    | .exc e [_] => .exc e ls gh
    | _ => .bad) = _
  rw [h]
theorem ge_nil : GE [] := ⟨rfl, by decide⟩
abbrev BLs (k : Fl) (s : M.Nm) : Ls := [some (.v (tabD k s [])), some (.v (.str s))]
theorem bare_ok {s : M.Nm} (hs : s ∈ PL) : f_law_bare [.v (tabD .ow s []), .v (.str s)] [] = .ok (.bl true) [] := by
  have hb := PL_nb s hs
  have es := eq_str (PL_s s hs)
  refine fnOf_rt (gh := []) rfl ?_ rfl
  have st0 : stE (BLs .ow s) [] = .ok (.v (.str s)) (BLs .fz s) [] := meth_of (o := eVar 0) (x := .pth (.l 0) []) (d := tabD .ow s []) (xs := []) (ds := [tabD .fz s []]) (dws := []) (ios := []) rfl rfl rfl rfl rfl rfl
  have t1 : (toT (eCall f_law_equal [] (aCons stE (aCons (eVar 1) aNil)))) (BLs .ow s) [] = .ok true (BLs .fz s) [] := by
    have a : (aCons stE (aCons (eVar 1) aNil)) (BLs .ow s) [] = .ok [.v (.str s), .v (.str s)] (BLs .fz s) [] := by rw [aCons_ap, st0]; rfl
    exact toT_2 (call_of (dws := []) a rfl es)
  have mo : (eMeth n_Table n_moves f_Table_moves [] (eVar 0) (aCons (eVar 1) aNil)) (BLs .fz s) [] = .ok (.v (.nd .ow .lst [])) (BLs .fz s) [] :=
    meth_of (o := eVar 0) (x := .v (tabD .fz s [])) (xs := [.v (.str s)]) (ds := [tabD .fz s [], .str s]) (dws := []) rfl rfl rfl rfl rfl (moves_ok (R := []) (s0 := s) (s := s) (by decide))
  have t2 : (toT (eCall f_law_equal [] (aCons (eMeth n_Table n_moves f_Table_moves [] (eVar 0) (aCons (eVar 1) aNil)) (aCons (eLst aNil) aNil)))) (BLs .fz s) [] = .ok true (BLs .fz s) [] :=
    toT_2 (call_of (dws := []) (args2 mo (rfl : (eLst aNil) (BLs .fz s) [] = .ok (.v (.nd .ow .lst [])) _ _)) rfl (eq_oo ge_nil))
  have dn : M.dueM [] s = none := by
    unfold M.dueM
    have : M.get (M.far []) s = none := by
      show (if M.bad = s then some 0 else none) = none
      rw [if_neg (fun e => hb e.symm)]
    rw [this]
  have sc : scE (BLs .fz s) [] = .ok (.v .non) (BLs .fz s) [] := by
    have h := scen_ok PL_len (R := []) (fun r hr => by cases hr) (fun r hr => by cases hr) (by decide) hs hb
    rw [dn] at h
    exact meth_of (o := eVar 0) (x := .v (tabD .fz s [])) (xs := []) (ds := [tabD .fz s []]) (dws := []) rfl rfl rfl rfl rfl h
  have ss : ssE (BLs .fz s) [] = .ok (.v (.nd .ow .lst (strL [s]))) (BLs .fz s) [] := by
    have h := states_ok PL_len (R := []) (fun r hr => by cases hr) (by decide) hs
    exact meth_of (o := eVar 0) (x := .v (tabD .fz s [])) (xs := []) (ds := [tabD .fz s []]) (dws := []) rfl rfl rfl rfl rfl h
  have G : GE (strL [s]) := ge_str (fun x hx => by rw [List.mem_singleton.mp hx]; exact PL_s s hs) (by show 1 ≤ 90; decide)
  have e1 : (eOp (isM false) scE (eC .non)) (BLs .fz s) [] = .ok (.v (.bl true)) (BLs .fz s) [] := op_of sc (rfl : eC .non _ _ = .ok (.v .non) _ _) rfl
  have e2 : (eCall f_law_equal [] (aCons ssE (aCons (eLst (aCons (eVar 1) aNil)) aNil))) (BLs .fz s) [] = .ok (.v (.bl true)) (BLs .fz s) [] :=
    call_of (dws := []) (args2 ss (rfl : (eLst (aCons (eVar 1) aNil)) (BLs .fz s) [] = .ok (.v (.nd .ow .lst (strL [s]))) _ _)) rfl (eq_oo G)
  exact (seq_of (if_no2 (or_not t1 t2))).trans (ret_of (and_of e1 e2))
abbrev W1 (sc a1 : D) : Ls := [some (.v sc), some (.v a1), none, none, none, none, none, none, none]
abbrev W2 (sc a1 a2 : D) : Ls := [some (.v sc), some (.v a1), some (.v a2), none, none, none, none, none, none]
abbrev W3 (sc a1 a2 a3 : D) : Ls := [some (.v sc), some (.v a1), some (.v a2), some (.v a3), none, none, none, none, none]
abbrev W4 (sc a1 a2 a3 a4 : D) : Ls := [some (.v sc), some (.v a1), some (.v a2), some (.v a3), some (.v a4), none, none, none, none]
abbrev W5 (sc a1 a2 a3 a4 a5 : D) : Ls := [some (.v sc), some (.v a1), some (.v a2), some (.v a3), some (.v a4), some (.v a5), none, none, none]
abbrev W6 (sc a1 a2 a3 a4 a5 a6 : D) : Ls := [some (.v sc), some (.v a1), some (.v a2), some (.v a3), some (.v a4), some (.v a5), some (.v a6), none, none]
abbrev W7 (sc a1 a2 a3 a4 a5 a6 a7 : D) : Ls := [some (.v sc), some (.v a1), some (.v a2), some (.v a3), some (.v a4), some (.v a5), some (.v a6), some (.v a7), none]
abbrev W8 (sc a1 a2 a3 a4 a5 a6 a7 a8 : D) : Ls := [some (.v sc), some (.v a1), some (.v a2), some (.v a3), some (.v a4), some (.v a5), some (.v a6), some (.v a7), some (.v a8)]
abbrev asE : PT := (tOrM (tNotM (toT (eCall f_law_asked [] (aCons (eVar 5) (aCons (eVar 2) (aCons (eVar 3) aNil)))))) (tNotM (toT (eCall f_law_asked [] (aCons (eVar 8) (aCons (eVar 6) (aCons (eVar 7) aNil)))))))
theorem args3 {ls gh : Ls} {a b c : PE} {x y z : RV} (h1 : a ls gh = .ok x ls gh) (h2 : b ls gh = .ok y ls gh) (h3 : c ls gh = .ok z ls gh) : (aCons a (aCons b (aCons c aNil))) ls gh = .ok [x, y, z] ls gh := by
  rw [aCons_ap, h1, bind_ok, aCons_ap, h2, bind_ok, aCons_ap, h3, bind_ok, aNil_ap, bind_ok, bind_ok, bind_ok]
theorem law_ok (ns : List Int) : f_law [.v (.nd .fz .rol (ns.map D.int))] [] = .ok (.bl true) [] := by
  obtain ⟨ds, hrow, hdig⟩ := row_ok (ns := ns) (most := 170) (by decide)
  obtain ⟨s1, hs1, b1⟩ := begin_ok (ds := ds) (a := 0)
  obtain ⟨s2, hs2, b2⟩ := begin_ok (ds := ds) (a := 84)
  obtain ⟨R, hR, hRl, l1⟩ := listed_ok (ds := ds) (a := 0)
  obtain ⟨Q, hQ, hQl, l2⟩ := listed_ok (ds := ds) (a := 84)
  generalize hsc : D.nd .fz .rol (ns.map D.int) = sc at *
  have hsh : sc.shr = true := by rw [← hsc]; rfl
  have zI : D.frzs (intL ds) = some (intL ds) := frzs_shr (by unfold intL; rw [List.all_map, List.all_eq_true]; intro x _; rfl)
  refine fnOf_rt (gh := []) rfl ?_ rfl
  have v0 : eVar 0 [some (.v sc), none, none, none, none, none, none, none, none] [] = .ok (.v sc) [some (.v sc), none, none, none, none, none, none, none, none] [] := eVar_v rfl hsh
  have s_1 : (sSet 1 (eCall f_law_row [] (aCons (eVar 0) (aCons (eC (.int 170)) aNil)))) [some (.v sc), none, none, none, none, none, none, none, none] [] = .nx (W1 sc (.nd .ow .lst (intL ds))) [] := by
    have c : (eCall f_law_row [] (aCons (eVar 0) (aCons (eC (.int 170)) aNil))) [some (.v sc), none, none, none, none, none, none, none, none] [] = .ok (.v (.nd .ow .lst (intL ds))) [some (.v sc), none, none, none, none, none, none, none, none] [] :=
      call_of (dws := []) (ds := [sc, .int 170]) (args2 v0 rfl) (cvL2 rfl rfl) (by rw [← hsc]; exact hrow)
    rw [sSet_ap, c]; rfl
  have s_2 : (sSet 2 (eCall f_law_begin [] (aCons (eVar 1) (aCons (eC (.int 0)) aNil)))) (W1 sc (.nd .ow .lst (intL ds))) [] = .nx (W2 sc (inD' ds) (.str s1)) [] := by
    have c : (eCall f_law_begin [] (aCons (eVar 1) (aCons (eC (.int 0)) aNil))) (W1 sc (.nd .ow .lst (intL ds))) [] = .ok (.v (.str s1)) (W1 sc (inD' ds)) [] :=
      call_of (dws := []) (ds := [inD' ds, .int 0]) (args2 (x := .pth (.l 1) []) rfl rfl) (cvL2 (cv_l rfl rfl (frz_lst zI)) rfl) b1
    rw [sSet_ap, c]; rfl
  have s_3 : (sSet 3 (eCall f_law_listed [] (aCons (eVar 1) (aCons (eC (.int 0)) aNil)))) (W2 sc (inD' ds) (.str s1)) [] = .nx (W3 sc (inD' ds) (.str s1) (.nd .ow .lst (R.map rowD))) [] := by
    have c : (eCall f_law_listed [] (aCons (eVar 1) (aCons (eC (.int 0)) aNil))) (W2 sc (inD' ds) (.str s1)) [] = .ok (.v (.nd .ow .lst (R.map rowD))) (W2 sc (inD' ds) (.str s1)) [] :=
      call_of (dws := []) (ds := [inD' ds, .int 0]) (args2 (x := .v (inD' ds)) rfl rfl) (cvL2 rfl rfl) l1
    rw [sSet_ap, c]; rfl
  have s_4 : (sSet 4 (eB fList (aCons (eVar 3) aNil))) (W3 sc (inD' ds) (.str s1) (.nd .ow .lst (R.map rowD))) [] = .nx (W4 sc (inD' ds) (.str s1) (.nd .ow .lst (R.map rowD)) (.nd .ow .lst (R.map rowD))) [] := by
    have c : (eB fList (aCons (eVar 3) aNil)) (W3 sc (inD' ds) (.str s1) (.nd .ow .lst (R.map rowD))) [] = .ok (.v (.nd .ow .lst (R.map rowD))) (W3 sc (inD' ds) (.str s1) (.nd .ow .lst (R.map rowD))) [] := by
      rw [eB_ap, aCons_ap]
      show f1List (.pth (.l 3) []) (W3 sc (inD' ds) (.str s1) (.nd .ow .lst (R.map rowD))) [] = _
      unfold f1List
      rw [seqV_p (k := .ow) (xs := R.map rowD) (atD_l rfl)]
      dsimp only
      rw [shrK_s (rows_shr R)]
    rw [sSet_ap, c]; rfl
  have s_5 : (sSet 5 (eMakeB n_Table f_Table_init [] (aCons (eVar 2) (aCons (eVar 4) aNil)))) (W4 sc (inD' ds) (.str s1) (.nd .ow .lst (R.map rowD)) (.nd .ow .lst (R.map rowD))) [] = .nx (W5 sc (inD' ds) (.str s1) (.nd .ow .lst (R.map rowD)) (.nd .ow .lst (R.map rowD)) (tabD .ow s1 R)) [] := by
    have c : (eMakeB n_Table f_Table_init [] (aCons (eVar 2) (aCons (eVar 4) aNil))) (W4 sc (inD' ds) (.str s1) (.nd .ow .lst (R.map rowD)) (.nd .ow .lst (R.map rowD))) [] = .ok (.v (tabD .ow s1 R)) (W4 sc (inD' ds) (.str s1) (.nd .ow .lst (R.map rowD)) (.nd .ow .lst (R.map rowD))) [] :=
      callB_of (dws := []) (ds := [.str s1, rowsD R]) (args2 (x := .v (.str s1)) (y := .pth (.l 4) []) rfl rfl) (bw2_pp rfl (bw_pth (atD_l rfl) (onlyLs_rows R) (rows_frz R))) (make_ok (.inl rfl) (by omega)) (noL_tab s1 R)
    rw [sSet_ap, c]; rfl
  have hlim : (R.map rowD).length < GL.lim := by
    have h1 : GL.lim = 100000 := rfl
    rw [List.length_map]; omega
  have mm := mAppend_l (ls := W5 sc (inD' ds) (.str s1) (.nd .ow .lst (R.map rowD)) (.nd .ow .lst (R.map rowD)) (tabD .ow s1 R)) (gh := []) (i := 4) (d := rowD (s1, n_further, n_bad)) rfl hlim
  have s_a : (sExpr (eMt kList mAppend (eVar 4) (aCons (eTup (aCons (eVar 2) (aCons (eC (.str n_further)) (aCons (eC (.str n_bad)) aNil)))) aNil))) (W5 sc (inD' ds) (.str s1) (.nd .ow .lst (R.map rowD)) (.nd .ow .lst (R.map rowD)) (tabD .ow s1 R)) [] = .nx (W5 sc (inD' ds) (.str s1) (.nd .ow .lst (R.map rowD)) (.nd .ow .lst (R.map rowD ++ [rowD (s1, n_further, n_bad)])) (tabD .ow s1 R)) [] :=
    exp_ap (x := .pth (.l 4) []) (ys := [.v (rowD (s1, n_further, n_bad))]) rfl (atD_l rfl) rfl mm
  generalize R.map rowD ++ [rowD (s1, n_further, n_bad)] = G4 at s_a
  have s_6 : (sSet 6 (eCall f_law_begin [] (aCons (eVar 1) (aCons (eC (.int 84)) aNil)))) (W5 sc (inD' ds) (.str s1) (.nd .ow .lst (R.map rowD)) (.nd .ow .lst G4) (tabD .ow s1 R)) [] = .nx (W6 sc (inD' ds) (.str s1) (.nd .ow .lst (R.map rowD)) (.nd .ow .lst G4) (tabD .ow s1 R) (.str s2)) [] := by
    have c : (eCall f_law_begin [] (aCons (eVar 1) (aCons (eC (.int 84)) aNil))) (W5 sc (inD' ds) (.str s1) (.nd .ow .lst (R.map rowD)) (.nd .ow .lst G4) (tabD .ow s1 R)) [] = .ok (.v (.str s2)) (W5 sc (inD' ds) (.str s1) (.nd .ow .lst (R.map rowD)) (.nd .ow .lst G4) (tabD .ow s1 R)) [] :=
      call_of (dws := []) (ds := [inD' ds, .int 84]) (args2 (x := .v (inD' ds)) rfl rfl) (cvL2 rfl rfl) b2
    rw [sSet_ap, c]; rfl
  have s_7 : (sSet 7 (eCall f_law_listed [] (aCons (eVar 1) (aCons (eC (.int 84)) aNil)))) (W6 sc (inD' ds) (.str s1) (.nd .ow .lst (R.map rowD)) (.nd .ow .lst G4) (tabD .ow s1 R) (.str s2)) [] = .nx (W7 sc (inD' ds) (.str s1) (.nd .ow .lst (R.map rowD)) (.nd .ow .lst G4) (tabD .ow s1 R) (.str s2) (.nd .ow .lst (Q.map rowD))) [] := by
    have c : (eCall f_law_listed [] (aCons (eVar 1) (aCons (eC (.int 84)) aNil))) (W6 sc (inD' ds) (.str s1) (.nd .ow .lst (R.map rowD)) (.nd .ow .lst G4) (tabD .ow s1 R) (.str s2)) [] = .ok (.v (.nd .ow .lst (Q.map rowD))) (W6 sc (inD' ds) (.str s1) (.nd .ow .lst (R.map rowD)) (.nd .ow .lst G4) (tabD .ow s1 R) (.str s2)) [] :=
      call_of (dws := []) (ds := [inD' ds, .int 84]) (args2 (x := .v (inD' ds)) rfl rfl) (cvL2 rfl rfl) l2
    rw [sSet_ap, c]; rfl
  have s_8 : (sSet 8 (eMakeK 0 2 [0, 2, 1] n_Table f_Table_init [(.str [115, 116, 97, 114, 116]), (.tup [])] aNil (aCons (eB fTuple (aCons (eVar 7) aNil)) (aCons (eVar 6) aNil)))) (W7 sc (inD' ds) (.str s1) (.nd .ow .lst (R.map rowD)) (.nd .ow .lst G4) (tabD .ow s1 R) (.str s2) (.nd .ow .lst (Q.map rowD))) [] = .nx (W8 sc (inD' ds) (.str s1) (.nd .ow .lst (R.map rowD)) (.nd .ow .lst G4) (tabD .ow s1 R) (.str s2) (.nd .ow .lst (Q.map rowD)) (tabD .ow s2 Q)) [] := by
    have tq : (eB fTuple (aCons (eVar 7) aNil)) (W7 sc (inD' ds) (.str s1) (.nd .ow .lst (R.map rowD)) (.nd .ow .lst G4) (tabD .ow s1 R) (.str s2) (.nd .ow .lst (Q.map rowD))) [] = .ok (.v (.tup (Q.map rowD))) (W7 sc (inD' ds) (.str s1) (.nd .ow .lst (R.map rowD)) (.nd .ow .lst G4) (tabD .ow s1 R) (.str s2) (.nd .ow .lst (Q.map rowD))) [] := by
      rw [eB_ap, aCons_ap]
      show f1Tuple (.pth (.l 7) []) (W7 sc (inD' ds) (.str s1) (.nd .ow .lst (R.map rowD)) (.nd .ow .lst G4) (tabD .ow s1 R) (.str s2) (.nd .ow .lst (Q.map rowD))) [] = _
      unfold f1Tuple
      rw [seqV_p (k := .ow) (xs := Q.map rowD) (atD_l rfl)]
      dsimp only
      rw [shrK_s (rows_shr Q)]
    have c : (eMakeK 0 2 [0, 2, 1] n_Table f_Table_init [(.str [115, 116, 97, 114, 116]), (.tup [])] aNil (aCons (eB fTuple (aCons (eVar 7) aNil)) (aCons (eVar 6) aNil))) (W7 sc (inD' ds) (.str s1) (.nd .ow .lst (R.map rowD)) (.nd .ow .lst G4) (tabD .ow s1 R) (.str s2) (.nd .ow .lst (Q.map rowD))) [] = .ok (.v (tabD .ow s2 Q)) (W7 sc (inD' ds) (.str s1) (.nd .ow .lst (R.map rowD)) (.nd .ow .lst G4) (tabD .ow s1 R) (.str s2) (.nd .ow .lst (Q.map rowD))) [] := by
      unfold eMakeK
      rw [aNil_ap, bind_ok, args2 (b := eVar 6) tq (y := .v (.str s2)) rfl, bind_ok]
      show makeD f_Table_init n_Table [.str s2, .tup (Q.map rowD)] _ [] = _
      exact make2 (.inr rfl) (by omega)
    rw [sSet_ap, c]; rfl
  have kR := asked_ok hR hRl hs1
  have kQ := asked_ok hQ hQl hs2
  have q_1 : asE (W8 sc (inD' ds) (.str s1) (.nd .ow .lst (R.map rowD)) (.nd .ow .lst G4) (tabD .ow s1 R) (.str s2) (.nd .ow .lst (Q.map rowD)) (tabD .ow s2 Q)) [] = .ok false (W8 sc (inD' ds) (.str s1) (rowsD R) (.nd .ow .lst G4) (tabD .fz s1 R) (.str s2) (rowsD Q) (tabD .fz s2 Q)) [] := by
    have c1 : (eCall f_law_asked [] (aCons (eVar 5) (aCons (eVar 2) (aCons (eVar 3) aNil)))) (W8 sc (inD' ds) (.str s1) (.nd .ow .lst (R.map rowD)) (.nd .ow .lst G4) (tabD .ow s1 R) (.str s2) (.nd .ow .lst (Q.map rowD)) (tabD .ow s2 Q)) [] = .ok (.v (.bl true)) (W8 sc (inD' ds) (.str s1) (rowsD R) (.nd .ow .lst G4) (tabD .fz s1 R) (.str s2) (.nd .ow .lst (Q.map rowD)) (tabD .ow s2 Q)) [] :=
      call_of (dws := []) (ds := [tabD .fz s1 R, .str s1, rowsD R]) (args3 (x := .pth (.l 5) []) (y := .v (.str s1)) (z := .pth (.l 3) []) rfl rfl rfl) (cvL3 (ls1 := W8 sc (inD' ds) (.str s1) (.nd .ow .lst (R.map rowD)) (.nd .ow .lst G4) (tabD .fz s1 R) (.str s2) (.nd .ow .lst (Q.map rowD)) (tabD .ow s2 Q)) (gh1 := []) (cv_l rfl rfl (frz_tab s1 R)) rfl (cv_l (d := .nd .ow .lst (R.map rowD)) rfl rfl (frz_lst (rows_frz R)))) kR
    have c2 : (eCall f_law_asked [] (aCons (eVar 8) (aCons (eVar 6) (aCons (eVar 7) aNil)))) (W8 sc (inD' ds) (.str s1) (rowsD R) (.nd .ow .lst G4) (tabD .fz s1 R) (.str s2) (.nd .ow .lst (Q.map rowD)) (tabD .ow s2 Q)) [] = .ok (.v (.bl true)) (W8 sc (inD' ds) (.str s1) (rowsD R) (.nd .ow .lst G4) (tabD .fz s1 R) (.str s2) (rowsD Q) (tabD .fz s2 Q)) [] :=
      call_of (dws := []) (ds := [tabD .fz s2 Q, .str s2, rowsD Q]) (args3 (x := .pth (.l 8) []) (y := .v (.str s2)) (z := .pth (.l 7) []) rfl rfl rfl) (cvL3 (ls1 := W8 sc (inD' ds) (.str s1) (rowsD R) (.nd .ow .lst G4) (tabD .fz s1 R) (.str s2) (.nd .ow .lst (Q.map rowD)) (tabD .fz s2 Q)) (gh1 := []) (cv_l rfl rfl (frz_tab s2 Q)) rfl (cv_l (d := .nd .ow .lst (Q.map rowD)) rfl rfl (frz_lst (rows_frz Q)))) kQ
    exact or_not (toT_2 c1) (toT_2 c2)
  have s_c : (sExpr (eMt kList mClear (eVar 4) aNil)) (W8 sc (inD' ds) (.str s1) (rowsD R) (.nd .ow .lst G4) (tabD .fz s1 R) (.str s2) (rowsD Q) (tabD .fz s2 Q)) [] = .nx (W8 sc (inD' ds) (.str s1) (rowsD R) (.nd .ow .lst []) (tabD .fz s1 R) (.str s2) (rowsD Q) (tabD .fz s2 Q)) [] := rfl
  have q_2 : asE (W8 sc (inD' ds) (.str s1) (rowsD R) (.nd .ow .lst []) (tabD .fz s1 R) (.str s2) (rowsD Q) (tabD .fz s2 Q)) [] = .ok false (W8 sc (inD' ds) (.str s1) (rowsD R) (.nd .ow .lst []) (tabD .fz s1 R) (.str s2) (rowsD Q) (tabD .fz s2 Q)) [] := by
    have c1 : (eCall f_law_asked [] (aCons (eVar 5) (aCons (eVar 2) (aCons (eVar 3) aNil)))) (W8 sc (inD' ds) (.str s1) (rowsD R) (.nd .ow .lst []) (tabD .fz s1 R) (.str s2) (rowsD Q) (tabD .fz s2 Q)) [] = .ok (.v (.bl true)) (W8 sc (inD' ds) (.str s1) (rowsD R) (.nd .ow .lst []) (tabD .fz s1 R) (.str s2) (rowsD Q) (tabD .fz s2 Q)) [] :=
      call_of (dws := []) (ds := [tabD .fz s1 R, .str s1, rowsD R]) (args3 (x := .v (tabD .fz s1 R)) (y := .v (.str s1)) (z := .v (rowsD R)) rfl rfl rfl) (cvL3 rfl rfl rfl) kR
    have c2 : (eCall f_law_asked [] (aCons (eVar 8) (aCons (eVar 6) (aCons (eVar 7) aNil)))) (W8 sc (inD' ds) (.str s1) (rowsD R) (.nd .ow .lst []) (tabD .fz s1 R) (.str s2) (rowsD Q) (tabD .fz s2 Q)) [] = .ok (.v (.bl true)) (W8 sc (inD' ds) (.str s1) (rowsD R) (.nd .ow .lst []) (tabD .fz s1 R) (.str s2) (rowsD Q) (tabD .fz s2 Q)) [] :=
      call_of (dws := []) (ds := [tabD .fz s2 Q, .str s2, rowsD Q]) (args3 (x := .v (tabD .fz s2 Q)) (y := .v (.str s2)) (z := .v (rowsD Q)) rfl rfl rfl) (cvL3 rfl rfl rfl) kQ
    exact or_not (toT_2 c1) (toT_2 c2)
  have q_3 : (tOrM (tNotM (toT (eCall f_law_bare [] (aCons (eMakeB n_Table f_Table_init [(.str [115, 116, 97, 114, 116]), (.tup [])] aNil) (aCons (eC (.str n_start)) aNil))))) (tNotM (toT (eCall f_law_bare [] (aCons (eMakeB n_Table f_Table_init [(.tup [])] (aCons (eVar 6) aNil)) (aCons (eVar 6) aNil)))))) (W8 sc (inD' ds) (.str s1) (rowsD R) (.nd .ow .lst []) (tabD .fz s1 R) (.str s2) (rowsD Q) (tabD .fz s2 Q)) [] = .ok false (W8 sc (inD' ds) (.str s1) (rowsD R) (.nd .ow .lst []) (tabD .fz s1 R) (.str s2) (rowsD Q) (tabD .fz s2 Q)) [] := by
    have m1 : (eMakeB n_Table f_Table_init [(.str [115, 116, 97, 114, 116]), (.tup [])] aNil) (W8 sc (inD' ds) (.str s1) (rowsD R) (.nd .ow .lst []) (tabD .fz s1 R) (.str s2) (rowsD Q) (tabD .fz s2 Q)) [] = .ok (.v (tabD .ow n_start [])) (W8 sc (inD' ds) (.str s1) (rowsD R) (.nd .ow .lst []) (tabD .fz s1 R) (.str s2) (rowsD Q) (tabD .fz s2 Q)) [] :=
      callB_of (xs := []) (ds := []) rfl rfl (make_ok (R := []) (s := n_start) (x := .tup []) (.inr rfl) (by decide)) (noL_tab _ _)
    have m2 : (eMakeB n_Table f_Table_init [(.tup [])] (aCons (eVar 6) aNil)) (W8 sc (inD' ds) (.str s1) (rowsD R) (.nd .ow .lst []) (tabD .fz s1 R) (.str s2) (rowsD Q) (tabD .fz s2 Q)) [] = .ok (.v (tabD .ow s2 [])) (W8 sc (inD' ds) (.str s1) (rowsD R) (.nd .ow .lst []) (tabD .fz s1 R) (.str s2) (rowsD Q) (tabD .fz s2 Q)) [] :=
      callB_of (xs := [.v (.str s2)]) (ds := [.str s2]) rfl rfl (make_ok (R := []) (s := s2) (x := .tup []) (.inr rfl) (by decide)) (noL_tab _ _)
    exact or_not (toT_2 (call_of (dws := []) (args2 m1 (y := .v (.str n_start)) rfl) (cvL2 rfl rfl) (bare_ok (s := n_start) List.mem_cons_self))) (toT_2 (call_of (dws := []) (args2 m2 (y := .v (.str s2)) rfl) (cvL2 rfl rfl) (bare_ok hs2)))
  have s_e : (sRet (eAndM (eB fIsi (aCons (eC w_BAD) (aCons (eC (.ty .str)) aNil))) (eOp gEq (eC w_BAD) (eC (.str n_bad))))) (W8 sc (inD' ds) (.str s1) (rowsD R) (.nd .ow .lst []) (tabD .fz s1 R) (.str s2) (rowsD Q) (tabD .fz s2 Q)) [] = .rt (.bl true) [] := rfl
  exact (seq_of s_1).trans ((seq_of s_2).trans ((seq_of s_3).trans ((seq_of s_4).trans ((seq_of s_5).trans ((seq_of s_a).trans ((seq_of s_6).trans ((seq_of s_7).trans ((seq_of s_8).trans ((seq_of (if_no2 q_1)).trans ((seq_of s_c).trans ((seq_of (if_no2 q_2)).trans ((seq_of (if_no2 q_3)).trans s_e))))))))))))
end K44.V
set_option Elab.async false
set_option linter.all false
set_option maxRecDepth 100000
set_option maxHeartbeats 1000000
namespace K44
theorem plain (ns : List Int) (h : ns.length ≤ 63) : ∃ S, f_law [.loc 0] [.rol (ns.map .int)] = .ok (.bl true) S := VL.vl_end V.s_f_law ns (V.law_ok ns)
end K44
set_option linter.all false
set_option maxRecDepth 100000 in
set_option maxHeartbeats 4000000 in
theorem PySem.Challenge.cw_guestlives_k44_shortest_moves_of_explici_holds : PySem.Challenge.rw_guestlives_k44_shortest_moves_of_explici.Holds := by
  exact K44.holds_of K44.plain
