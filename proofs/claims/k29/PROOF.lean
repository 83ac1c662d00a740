import PyProof.Rows.All
import Wide.All
import OpenK.AllK
import Wide.FinOn
import HandS.ForMost
import HandS.Walk
import HandS.Exc
import HandS.ExcOwn
import HandS.WordsExc
import HandS.HeadHook1
import HandS.HeadHook2
import KE.KDictKeyed
import KE.KDictDisplayH
import HandS.TupAny
import HandS.IsInst
import HandS.TupLe
import HandS.TupMul
import HandS.Defaults
import HandS.CallSlots
import HandS.Head0
import HandS.Head1
import HandS.Head2
import HandS.HeadEnd
import KE.KExcSuper
import KE.KSuper
import HandS.ExcInit
import HandS.ExcSuper
import HandS.ClsMeth
import HandS.TryMany
import HandS.ExcIs
import HandS.ExcField
import HandS.HeadHook3
import HandS.FStr
import HandS.Flow
import HandS.RaiseMore
import HandS.SetFor
import HandS.Strs
import HandS.Dict
import HandS.MakeKw
import HandS.MakeKwOnly
import HandS.Style
import PyProof.RulesMatch
import PyProof.Rows.StrRules
import PyProof.AssignAttr
import HandS.Replace
import HandS.ReplaceLit
import HandS.Rev
import OpenK.KMeth
import PyProof.P3Eq
import KE.DataEq
import HandS.Text
import HandS.More
import PyProof.P3In
import HandS.Iter
import KE.SortCalls
import KE.SortKeyed
import KE.DataCmp
import HandS.DictComp
import PySem.Challenge.RW_guestlives_k29_policy_numbers_and_senten
set_option Elab.async false
set_option linter.all false
set_option maxRecDepth 100000
set_option maxHeartbeats 1000000
namespace GL
open PySem PySem.Spec PyProof.Rows L2
structure PgW where
  P : Program
  w : World
abbrev pwX (X : Cx) : PgW := ⟨X.prog, X.w⟩
variable {pw : PgW}
abbrev Nm := List Nat
def toS (l : Nm) : Str := ⟨l.toArray⟩
theorem toS_inj {a b : Nm} (h : toS a = toS b) : a = b := by
  have := congrArg (fun s : Str => s.cps.toList) h
  simpa [toS] using this
theorem toS_cps (x : Str) : toS x.cps.toList = x := by
  cases x; simp [toS]
inductive BT where
  | int | bool | str | list | tuple | dict | set | none
  deriving DecidableEq, Inhabited
def BT.name : BT → String
  | .int => "int" | .bool => "bool" | .str => "str" | .list => "list" | .tuple => "tuple" | .dict => "dict" | .set => "set" | .none => "NoneType"
inductive PV where
  | non | bl (b : Bool) | int (i : Int) | str (s : List Nat) | tup (xs : List PV) | loc (n : Nat) | gl (x : Nm) | ty (b : BT) | xn (a d : Nat) (C : Nm) (ns : List Nm) (ws : List PV)
  deriving Inhabited
inductive OB where
  | lst (xs : List PV)
  | rol (xs : List PV)
  | dct (kvs : List (PV × PV))
  | fdct (kvs : List (PV × PV))
  | ins (C : Nm) (fs : List (Nm × PV))
  | dcn (kvs : List (PV × PV))
  | ptp (xs : List PV)
  deriving Inhabited
def OB.mut : OB → Bool
  | .rol _ => false
  | .fdct _ => false
  | .ptp _ => false
  | _ => true
def OB.uniq : OB → Bool
  | .rol _ => false
  | .ptp _ => false
  | _ => true
theorem OB.uniq_of {o : OB} (h : o.mut = true) : o.uniq = true := by cases o <;> first | rfl | cases h
abbrev Sto := List OB
abbrev Ls := List (Option PV)
structure Exn where
  cls : Nm
  fs : List (Nm × PV)
inductive Out (α : Type) where
  | ok (a : α) (S : Sto)
  | exc (e : Exn) (S : Sto)
  | bad
inductive SOut where
  | nx (ls : Ls) (S : Sto)
  | rt (w : PV) (S : Sto)
  | bk (ls : Ls) (S : Sto)
  | ct (ls : Ls) (S : Sto)
  | exc (e : Exn) (ls : Ls) (S : Sto)
  | bad
abbrev ME := Ls → Sto → Out PV
abbrev MT := Ls → Sto → Out Bool
abbrev MA := Ls → Sto → Out (List PV)
abbrev MS := Ls → Sto → SOut
def Out.bind {α β : Type} (o : Out α) (f : α → Sto → Out β) : Out β := match o with
  | .ok a S => f a S
  | .exc e S => .exc e S
  | .bad => .bad
def Out.then {α : Type} (o : Out α) (ls : Ls) (f : α → Sto → SOut) : SOut := match o with
  | .ok a S => f a S
  | .exc e S => .exc e ls S
  | .bad => .bad
def SOut.seq (o : SOut) (f : MS) : SOut := match o with
  | .nx ls S => f ls S
  | r => r
mutual
inductive RW (K : PySem.W.Frag) (ρ : Nat → Addr) (N : Nat) (H : Hp) : PV → V → Prop
  | non : RW K ρ N H .non .non
  | bl (b : Bool) : RW K ρ N H (.bl b) (.bl b)
  | int (i : Int) : RW K ρ N H (.int i) (.int i)
  | str (x : Str) : RW K ρ N H (.str x.cps.toList) (.str x)
  | tup {xs : List PV} {a : Addr} {vs : List V} : SqT K H a vs → RWs K ρ N H xs vs → RW K ρ N H (.tup xs) (.ref a)
  | loc (n : Nat) : n < N → RW K ρ N H (.loc n) (.ref (ρ n))
  | gl (x : Nm) : RW K ρ N H (.gl x) (.ref (He.ga K (toS x)))
  | ty (n : BT) : RW K ρ N H (.ty n) (.ty n.name)
  | xn {a d : Addr} {C : Nm} {ns : List Nm} {ws : List PV} {fs : List (Str × V)} : H d = some (.xd fs) → fs.map (·.1) = ns.map toS → RWs K ρ N H ws (fs.map (·.2)) → RW K ρ N H (.xn a d C ns ws) (.ref a)
inductive RWs (K : PySem.W.Frag) (ρ : Nat → Addr) (N : Nat) (H : Hp) : List PV → List V → Prop
  | nil : RWs K ρ N H [] []
  | cons {w : PV} {ws : List PV} {v : V} {vs : List V} : RW K ρ N H w v → RWs K ρ N H ws vs → RWs K ρ N H (w :: ws) (v :: vs)
end
def RoL (K : PySem.W.Frag) (H : Hp) (a : Addr) (xs : List V) : Prop :=
  (∃ o, H a = some (.frz o (.lst xs))) ∨
    ∃ (o : Obj) (its : Array Value) (n : Nat), K.lookup a = some o ∧ o.cls = .type "list" ∧ o.dict = none ∧ o.data = .seq its n ∧ its.size ≤ sizeLine ∧ Vals xs its.toList
theorem RoL.sq {K : PySem.W.Frag} {H : Hp} {a : Addr} {xs : List V} (h : RoL K H a xs) : SqL K H a xs := by
  rcases h with ⟨o, h⟩ | h
  · exact .inl (.inr ⟨o, h⟩)
  · exact .inr h
def Ext (K : PySem.W.Frag) (ρ : Nat → Addr) (N : Nat) (H : Hp) (ρ' : Nat → Addr) (N' : Nat) (H' : Hp) : Prop :=
  N ≤ N' ∧ (∀ n, n < N → ρ' n = ρ n) ∧ (∀ a vs, SqT K H a vs → SqT K H' a vs) ∧ (∀ a vs, RoL K H a vs → RoL K H' a vs) ∧ (∀ a fs, H a = some (.xd fs) → H' a = some (.xd fs)) ∧ ∀ a o u, H a = some (.frz o u) → H' a = some (.frz o u)
section
variable {K : PySem.W.Frag} {ρ ρ' ρ'' : Nat → Addr} {N N' N'' : Nat} {H H' H'' : Hp}
theorem Ext.refl : Ext K ρ N H ρ N H := ⟨Nat.le_refl _, fun _ _ => rfl, fun _ _ h => h, fun _ _ h => h, fun _ _ h => h, fun _ _ _ h => h⟩
theorem Ext.trans (a : Ext K ρ N H ρ' N' H') (b : Ext K ρ' N' H' ρ'' N'' H'') : Ext K ρ N H ρ'' N'' H'' :=
  ⟨Nat.le_trans a.1 b.1, fun n h => (b.2.1 n (Nat.lt_of_lt_of_le h a.1)).trans (a.2.1 n h), fun x vs h => b.2.2.1 x vs (a.2.2.1 x vs h), fun x vs h => b.2.2.2.1 x vs (a.2.2.2.1 x vs h), fun x vs h => b.2.2.2.2.1 x vs (a.2.2.2.2.1 x vs h), fun x o u h => b.2.2.2.2.2 x o u (a.2.2.2.2.2 x o u h)⟩
mutual
theorem RW.ext (e : Ext K ρ N H ρ' N' H') : ∀ {w : PV} {v : V}, RW K ρ N H w v → RW K ρ' N' H' w v
  | _, _, .non => .non
  | _, _, .bl b => .bl b
  | _, _, .int i => .int i
  | _, _, .str x => .str x
  | _, _, .tup h hs => .tup (e.2.2.1 _ _ h) (RWs.ext e hs)
  | _, _, .loc n h => by
    rw [← e.2.1 n h]
    exact .loc n (Nat.lt_of_lt_of_le h e.1)
  | _, _, .gl x => .gl x
  | _, _, .ty n => .ty n
  | _, _, .xn h hn hs => .xn (e.2.2.2.2.1 _ _ h) hn (RWs.ext e hs)
theorem RWs.ext (e : Ext K ρ N H ρ' N' H') : ∀ {w : List PV} {v : List V}, RWs K ρ N H w v → RWs K ρ' N' H' w v
  | _, _, .nil => .nil
  | _, _, .cons h hs => .cons (RW.ext e h) (RWs.ext e hs)
end
theorem RWs.length : ∀ {ws : List PV} {vs : List V}, RWs K ρ N H ws vs → ws.length = vs.length
  | _, _, .nil => rfl
  | _, _, .cons _ t => by simp [RWs.length t]
theorem RWs.get : ∀ {ws : List PV} {vs : List V} {i : Nat} {w : PV}, RWs K ρ N H ws vs → ws[i]? = some w → ∃ v, vs[i]? = some v ∧ RW K ρ N H w v
  | _, _, _, _, .nil, e => by simp at e
  | _, _, 0, _, .cons r _, e => by simp at e; subst e; exact ⟨_, rfl, r⟩
  | _, _, i + 1, w, .cons _ t, e => by
    obtain ⟨v, h1, h2⟩ := RWs.get (i := i) (w := w) t (by simpa using e)
    exact ⟨v, by simpa using h1, h2⟩
theorem RWs.app : ∀ {ws ws' : List PV} {vs vs' : List V}, RWs K ρ N H ws vs → RWs K ρ N H ws' vs' → RWs K ρ N H (ws ++ ws') (vs ++ vs')
  | _, _, _, _, .nil, s => s
  | _, _, _, _, .cons r t, s => .cons r (RWs.app t s)
theorem RWs.take : ∀ {ws : List PV} {vs : List V} (n : Nat), RWs K ρ N H ws vs → RWs K ρ N H (ws.take n) (vs.take n)
  | _, _, 0, _ => .nil
  | _, _, _ + 1, .nil => .nil
  | _, _, n + 1, .cons r t => .cons r (RWs.take n t)
theorem RWs.drop : ∀ {ws : List PV} {vs : List V} (n : Nat), RWs K ρ N H ws vs → RWs K ρ N H (ws.drop n) (vs.drop n)
  | _, _, 0, r => r
  | _, _, _ + 1, .nil => .nil
  | _, _, n + 1, .cons _ t => RWs.drop n t
theorem RWs.set {w : PV} {v : V} (r : RW K ρ N H w v) : ∀ {ws : List PV} {vs : List V} (i : Nat), RWs K ρ N H ws vs → RWs K ρ N H (ws.set i w) (vs.set i v)
  | _, _, _, .nil => .nil
  | _, _, 0, .cons _ t => .cons r t
  | _, _, i + 1, .cons q t => .cons q (RWs.set r i t)
theorem RWs.reverse : ∀ {ws : List PV} {vs : List V}, RWs K ρ N H ws vs → RWs K ρ N H ws.reverse vs.reverse
  | _, _, .nil => .nil
  | _, _, .cons r t => by
    rw [List.reverse_cons, List.reverse_cons]
    exact RWs.app (RWs.reverse t) (.cons r .nil)
theorem RWs.dropLast {ws : List PV} {vs : List V} (h : RWs K ρ N H ws vs) : RWs K ρ N H ws.dropLast vs.dropLast := by
  rw [List.dropLast_eq_take, List.dropLast_eq_take, h.length]; exact h.take _
end
inductive RFs (K : PySem.W.Frag) (ρ : Nat → Addr) (N : Nat) (H : Hp) : List (Nm × PV) → List (Str × V) → Prop
  | nil : RFs K ρ N H [] []
  | cons {f : Nm} {w : PV} {r : List (Nm × PV)} {v : V} {r' : List (Str × V)} : RW K ρ N H w v → RFs K ρ N H r r' → RFs K ρ N H ((f, w) :: r) ((toS f, v) :: r')
def RKey : PV → Key → Prop
  | .int i, .inl j => i = j
  | .str l, .inr x => x.cps.toList = l
  | _, _ => False
inductive RKs (K : PySem.W.Frag) (ρ : Nat → Addr) (N : Nat) (H : Hp) : List (PV × PV) → List (Key × V) → Prop
  | nil : RKs K ρ N H [] []
  | cons {k w : PV} {r : List (PV × PV)} {kk : Key} {v : V} {r' : List (Key × V)} : RKey k kk → RW K ρ N H w v → RKs K ρ N H r r' → RKs K ρ N H ((k, w) :: r) ((kk, v) :: r')
mutual
def keyN : PV → Option NestedKey
  | .non => some .none
  | .bl b => some (.num (if b = true then 1 else 0))
  | .int i => some (.num i)
  | .str s => some (.text (toS s))
  | .tup xs => (keyNs xs).map .tup
  | _ => none
def keyNs : List PV → Option (List NestedKey)
  | [] => some []
  | x :: r => match keyN x, keyNs r with
    | some k, some ks => some (k :: ks)
    | _, _ => none
end
abbrev KVN : List (NestedKey × Addr × V) → List (NestedKey × Addr × Value) → Prop := Paired fun p q => p.1 = q.1 ∧ p.2.1 = q.2.1 ∧ RelV p.2.2 q.2.2
def DcnH (pw : PgW) (a : Addr) (xs : List (NestedKey × Addr × V)) (h : Heap) : Prop := (a == sysModules) = false ∧ xs.length ≤ sizeLine ∧ ∃ ys, KVN xs ys ∧
  ∃ o es ep, h.get? a = some o ∧ o.ExactDict ∧ o.data = .dict es ep ∧ es.toList = ys.map (entryOfKey (nestedKind pw.P pw.w)) ∧ (ys.map (·.1)).Nodup
inductive RNs (K : PySem.W.Frag) (ρ : Nat → Addr) (N : Nat) (H : Hp) : List (PV × PV) → List (NestedKey × Addr × V) → Prop
  | nil : RNs K ρ N H [] []
  | cons {k : List PV} {w : PV} {r : List (PV × PV)} {kk : NestedKey} {t : Addr} {v : V} {r' : List (NestedKey × Addr × V)} : keyN (.tup k) = some kk → kk.depth ≤ 8 → RW K ρ N H (.tup k) (.ref t) → RW K ρ N H w v → RNs K ρ N H r r' → RNs K ρ N H ((.tup k, w) :: r) ((kk, t, v) :: r')
def PtT (K : PySem.W.Frag) (H : Hp) (a : Addr) (xs : List V) : Prop :=
  (∃ o, H a = some (.frz o (.tup xs)) ∧ o.dict = none) ∨
    ∃ (o : Obj) (its : Array Value) (n : Nat), K.lookup a = some o ∧ o.cls = .type "tuple" ∧ o.dict = none ∧ o.data = .seq its n ∧ its.size ≤ sizeLine ∧ Vals xs its.toList
theorem PtT.keep {K : PySem.W.Frag} {H H' : Hp} {a : Addr} {xs : List V} (k : ∀ o u, H a = some (.frz o u) → H' a = some (.frz o u)) (h : PtT K H a xs) : PtT K H' a xs := by
  rcases h with ⟨o, h, d⟩ | h
  · exact .inl ⟨o, k _ _ h, d⟩
  · exact .inr h
theorem PtT.sq {K : PySem.W.Frag} {H : Hp} {a : Addr} {xs : List V} (h : PtT K H a xs) : SqT K H a xs := by
  rcases h with ⟨o, h, d⟩ | ⟨o, its, n, h1, h2, _, h3⟩
  · exact .inl (.inr ⟨o, h⟩)
  · exact .inr ⟨o, its, n, h1, h2, h3⟩
def RO (pw : PgW) (K : PySem.W.Frag) (ρ : Nat → Addr) (N : Nat) (H : Hp) : OB → Addr → Prop
  | .lst xs, a => ∃ vs, H a = some (.lst vs) ∧ RWs K ρ N H xs vs
  | .rol xs, a => ∃ vs, RoL K H a vs ∧ RWs K ρ N H xs vs
  | .dct kvs, a => ∃ kv', H a = some (.dK kv') ∧ RKs K ρ N H kvs kv'
  | .fdct kvs, a => ∃ o kv', H a = some (.frz o (.dK kv')) ∧ RKs K ρ N H kvs kv'
  | .dcn kvs, a => ∃ xs, H a = some (.ext (DcnH pw a xs)) ∧ RNs K ρ N H kvs xs
  | .ptp xs, a => ∃ vs, PtT K H a vs ∧ RWs K ρ N H xs vs
  | .ins C fs, a => ∃ dx fs', H a = some (.ins (He.ga K (toS C)) dx fs') ∧ RFs K ρ N H fs fs'
structure RSt (pw : PgW) (K : PySem.W.Frag) (ρ : Nat → Addr) (H : Hp) (S : Sto) : Prop where
  at_ : ∀ n o, S[n]? = some o → RO pw K ρ S.length H o (ρ n)
  inj : ∀ n m o o', S[n]? = some o → S[m]? = some o' → o.uniq = true → o'.uniq = true → ρ n = ρ m → n = m
section
variable {K : PySem.W.Frag} {ρ ρ' ρ'' : Nat → Addr} {N N' N'' : Nat} {H H' H'' : Hp} {S : Sto}
theorem RFs.ext (e : Ext K ρ N H ρ' N' H') : ∀ {w : List (Nm × PV)} {v : List (Str × V)}, RFs K ρ N H w v → RFs K ρ' N' H' w v
  | _, _, .nil => .nil
  | _, _, .cons h hs => .cons (RW.ext e h) (RFs.ext e hs)
theorem RKs.ext (e : Ext K ρ N H ρ' N' H') : ∀ {w : List (PV × PV)} {v : List (Key × V)}, RKs K ρ N H w v → RKs K ρ' N' H' w v
  | _, _, .nil => .nil
  | _, _, .cons hk h hs => .cons hk (RW.ext e h) (RKs.ext e hs)
theorem RNs.ext (e : Ext K ρ N H ρ' N' H') : ∀ {w : List (PV × PV)} {v : List (NestedKey × Addr × V)}, RNs K ρ N H w v → RNs K ρ' N' H' w v
  | _, _, .nil => .nil
  | _, _, .cons hk hd hr h hs => .cons hk hd (RW.ext e hr) (RW.ext e h) (RNs.ext e hs)
theorem RoL.keep {a : Addr} {xs : List V} (k : ∀ h, H a = some h → H' a = some h) (h : RoL K H a xs) : RoL K H' a xs := by
  rcases h with ⟨o, h⟩ | h
  · exact .inl ⟨o, k _ h⟩
  · exact .inr h
theorem RO.ext {o : OB} {a : Addr} (e : Ext K ρ N H ρ' N' H') (k : ∀ h, H a = some h → H' a = some h) (r : RO pw K ρ N H o a) : RO pw K ρ' N' H' o a := by
  cases o with
  | lst xs => obtain ⟨vs, h, r⟩ := r; exact ⟨vs, k _ h, r.ext e⟩
  | rol xs => obtain ⟨vs, h, r⟩ := r; exact ⟨vs, h.keep k, r.ext e⟩
  | dct kvs => obtain ⟨vs, h, r⟩ := r; exact ⟨vs, k _ h, r.ext e⟩
  | fdct kvs => obtain ⟨o, vs, h, r⟩ := r; exact ⟨o, vs, k _ h, r.ext e⟩
  | dcn kvs => obtain ⟨xs, h, r⟩ := r; exact ⟨xs, k _ h, r.ext e⟩
  | ptp xs => obtain ⟨vs, h, r⟩ := r; exact ⟨vs, h.keep (fun _ _ e => k _ e), r.ext e⟩
  | ins C fs => obtain ⟨dx, vs, h, r⟩ := r; exact ⟨dx, vs, k _ h, r.ext e⟩
def MutH : HO → Prop
  | .lst _ => True
  | .dK _ => True
  | .ins _ _ _ => True
  | .ext _ => True
  | _ => False
theorem RO.mutH {o : OB} {a : Addr} (r : RO pw K ρ N H o a) (m : o.mut = true) : ∃ h, H a = some h ∧ MutH h := by
  cases o with
  | lst xs => obtain ⟨vs, h, r⟩ := r; exact ⟨_, h, trivial⟩
  | rol xs => cases m
  | dct kvs => obtain ⟨vs, h, r⟩ := r; exact ⟨_, h, trivial⟩
  | fdct kvs => cases m
  | dcn kvs => obtain ⟨xs, h, r⟩ := r; exact ⟨_, h, trivial⟩
  | ptp xs => cases m
  | ins C fs => obtain ⟨dx, vs, h, r⟩ := r; exact ⟨_, h, trivial⟩
theorem RO.hasH {o : OB} {a : Addr} (r : RO pw K ρ N H o a) (m : o.uniq = true) : ∃ h, H a = some h := by
  cases o with
  | lst xs => obtain ⟨vs, h, r⟩ := r; exact ⟨_, h⟩
  | rol xs => cases m
  | dct kvs => obtain ⟨vs, h, r⟩ := r; exact ⟨_, h⟩
  | fdct kvs => obtain ⟨o, vs, h, r⟩ := r; exact ⟨_, h⟩
  | dcn kvs => obtain ⟨xs, h, r⟩ := r; exact ⟨_, h⟩
  | ptp xs => cases m
  | ins C fs => obtain ⟨dx, vs, h, r⟩ := r; exact ⟨_, h⟩
theorem sqt_upd_new {p a : Addr} {ho : HO} {vs : List V} (hp : H p = none) (h : SqT K H a vs) : SqT K (upd H p ho) a vs := by
  rcases h with (h | ⟨o, h⟩) | h
  · exact .inl (.inl (by rw [upd_ne (ne_of_none h hp)]; exact h))
  · exact .inl (.inr ⟨o, by rw [upd_ne (ne_of_none h hp)]; exact h⟩)
  · exact .inr h
theorem sqt_upd_mut {p a : Addr} {h0 ho : HO} {vs : List V} (hp : H p = some h0) (m : MutH h0) (h : SqT K H a vs) : SqT K (upd H p ho) a vs := by
  rcases h with (h | ⟨o, h⟩) | h
  · exact .inl (.inl (by rw [upd_ne (ne_of h hp (by rintro rfl; exact m))]; exact h))
  · exact .inl (.inr ⟨o, by rw [upd_ne (ne_of h hp (by rintro rfl; exact m))]; exact h⟩)
  · exact .inr h
theorem rol_upd_new {p a : Addr} {ho : HO} {vs : List V} (hp : H p = none) (h : RoL K H a vs) : RoL K (upd H p ho) a vs :=
  h.keep fun _ e => by rw [upd_ne (ne_of_none e hp)]; exact e
theorem rol_upd_mut {p a : Addr} {h0 ho : HO} {vs : List V} (hp : H p = some h0) (m : MutH h0) (h : RoL K H a vs) : RoL K (upd H p ho) a vs := by
  rcases h with ⟨o, h⟩ | h
  · exact .inl ⟨o, by rw [upd_ne (ne_of h hp (by rintro rfl; exact m))]; exact h⟩
  · exact .inr h
def grow (ρ : Nat → Addr) (N : Nat) (p : Addr) : Nat → Addr := fun n => if n = N then p else ρ n
theorem grow_new {p : Addr} : grow ρ N p N = p := by simp [grow]
theorem grow_old {p : Addr} {n : Nat} (h : n < N) : grow ρ N p n = ρ n := by simp [grow, Nat.ne_of_lt h]
theorem ext_new {p : Addr} {ho : HO} (hp : H p = none) : Ext K ρ N H (grow ρ N p) (N + 1) (upd H p ho) :=
  ⟨Nat.le_succ _, fun _ h => grow_old h, fun _ _ h => sqt_upd_new hp h, fun _ _ h => rol_upd_new hp h, fun _ _ h => by rw [upd_ne (ne_of_none h hp)]; exact h, fun _ _ _ h => by rw [upd_ne (ne_of_none h hp)]; exact h⟩
theorem ext_keep {p : Addr} {ho : HO} (hp : H p = none) : Ext K ρ N H ρ N (upd H p ho) :=
  ⟨Nat.le_refl _, fun _ _ => rfl, fun _ _ h => sqt_upd_new hp h, fun _ _ h => rol_upd_new hp h, fun _ _ h => by rw [upd_ne (ne_of_none h hp)]; exact h, fun _ _ _ h => by rw [upd_ne (ne_of_none h hp)]; exact h⟩
theorem ext_upd {p : Addr} {h0 ho : HO} (hp : H p = some h0) (m : MutH h0) : Ext K ρ N H ρ N (upd H p ho) :=
  ⟨Nat.le_refl _, fun _ _ => rfl, fun _ _ h => sqt_upd_mut hp m h, fun _ _ h => rol_upd_mut hp m h, fun _ _ h => by rw [upd_ne (ne_of h hp (by rintro rfl; exact m))]; exact h, fun _ _ _ h => by rw [upd_ne (ne_of h hp (by rintro rfl; exact m))]; exact h⟩
theorem lt_of_get {n : Nat} {o : OB} (h : S[n]? = some o) : n < S.length := (List.getElem?_eq_some_iff.mp h).1
theorem RSt.keep (r : RSt pw K ρ H S) {p : Addr} {ho : HO} (hp : H p = none) : RSt pw K ρ (upd H p ho) S :=
  ⟨fun n o h => (r.at_ n o h).ext (ext_keep hp) fun h' e => by rw [upd_ne (ne_of_none e hp)]; exact e, r.inj⟩
theorem RSt.newU (r : RSt pw K ρ H S) {p : Addr} {ho : HO} {o : OB} (hp : H p = none) (ro : RO pw K (grow ρ S.length p) (S.length + 1) (upd H p ho) o p) :
    RSt pw K (grow ρ S.length p) (upd H p ho) (S ++ [o]) := by
  have e : Ext K ρ S.length H (grow ρ S.length p) (S.length + 1) (upd H p ho) := ext_new hp
  have hl : (S ++ [o]).length = S.length + 1 := by simp
  refine ⟨fun n o' h => ?_, fun n m o1 o2 h1 h2 m1 m2 q => ?_⟩
  · rw [hl]
    by_cases hn : n < S.length
    · rw [List.getElem?_append_left hn] at h
      rw [grow_old hn]
      exact (r.at_ n o' h).ext e fun h' e' => by rw [upd_ne (ne_of_none e' hp)]; exact e'
    · have : n = S.length := by have := lt_of_get h; omega
      subst this
      rw [List.getElem?_append_right (Nat.le_refl _)] at h
      simp at h; subst h
      rw [grow_new]; exact ro
  · have l1 := lt_of_get h1
    have l2 := lt_of_get h2
    rw [hl] at l1 l2
    by_cases a1 : n < S.length
    · rw [List.getElem?_append_left a1] at h1
      by_cases a2 : m < S.length
      · rw [List.getElem?_append_left a2] at h2
        rw [grow_old a1, grow_old a2] at q
        exact r.inj n m o1 o2 h1 h2 m1 m2 q
      · have : m = S.length := by omega
        subst this
        rw [grow_old a1, grow_new] at q
        obtain ⟨ho', e1⟩ := (r.at_ n o1 h1).hasH m1
        rw [q, hp] at e1; cases e1
    · have : n = S.length := by omega
      subst this
      by_cases a2 : m < S.length
      · rw [List.getElem?_append_left a2] at h2
        rw [grow_old a2, grow_new] at q
        obtain ⟨ho', e1⟩ := (r.at_ m o2 h2).hasH m2
        rw [← q, hp] at e1; cases e1
      · omega
theorem RSt.new (r : RSt pw K ρ H S) {p : Addr} {ho : HO} {o : OB} (hp : H p = none) (hm : o.mut = true) (ro : RO pw K (grow ρ S.length p) (S.length + 1) (upd H p ho) o p) :
    RSt pw K (grow ρ S.length p) (upd H p ho) (S ++ [o]) := r.newU hp ro
theorem RSt.set (r : RSt pw K ρ H S) {n : Nat} {o o' : OB} {ho : HO} (hn : S[n]? = some o) (hm : o.mut = true) (hm' : o'.mut = true) (ro : RO pw K ρ S.length (upd H (ρ n) ho) o' (ρ n)) :
    RSt pw K ρ (upd H (ρ n) ho) (S.set n o') := by
  obtain ⟨h0, e0, mh⟩ := (r.at_ n o hn).mutH hm
  have e : Ext K ρ S.length H ρ S.length (upd H (ρ n) ho) := ext_upd e0 mh
  have ln := lt_of_get hn
  refine ⟨fun m o2 h => ?_, fun m m' o1 o2 h1 h2 m1 m2 q => ?_⟩
  · rw [List.length_set]
    by_cases hmn : n = m
    · subst hmn
      rw [List.getElem?_set_self ln] at h
      cases h; exact ro
    · rw [List.getElem?_set_ne hmn] at h
      have ro2 := r.at_ m o2 h
      by_cases mm : o2.mut = true
      · refine ro2.ext e fun h' e' => ?_
        rw [upd_ne (fun z => hmn (r.inj n m o o2 hn h (OB.uniq_of hm) (OB.uniq_of mm) z.symm))]; exact e'
      · cases o2 with
        | rol xs =>
          obtain ⟨vs, hr, rr⟩ := ro2
          refine ⟨vs, ?_, rr.ext e⟩
          rcases hr with ⟨ob, hr⟩ | hr
          · exact .inl ⟨ob, by rw [upd_ne (ne_of hr e0 (by rintro rfl; exact mh))]; exact hr⟩
          · exact .inr hr
        | fdct kvs =>
          obtain ⟨ob, vs, hr, rr⟩ := ro2
          exact ⟨ob, vs, by rw [upd_ne (ne_of hr e0 (by rintro rfl; exact mh))]; exact hr, rr.ext e⟩
        | ptp xs =>
          obtain ⟨vs, hr, rr⟩ := ro2
          exact ⟨vs, hr.keep (fun o u hr => by rw [upd_ne (ne_of hr e0 (by rintro rfl; exact mh))]; exact hr), rr.ext e⟩
        | _ => exact absurd rfl mm
  · have g : ∀ {k : Nat} {ob : OB}, (S.set n o')[k]? = some ob → ob.uniq = true → ∃ ob', S[k]? = some ob' ∧ ob'.uniq = true := fun {k ob} hk mk => by
      by_cases hkn : n = k
      · subst hkn; exact ⟨o, hn, OB.uniq_of hm⟩
      · rw [List.getElem?_set_ne hkn] at hk; exact ⟨ob, hk, mk⟩
    obtain ⟨a, a1, a2⟩ := g h1 m1
    obtain ⟨b, b1, b2⟩ := g h2 m2
    exact r.inj m m' a b a1 b1 a2 b2 q
end
end GL
set_option Elab.async false
set_option linter.all false
set_option maxRecDepth 100000
set_option maxHeartbeats 1000000
namespace GL
open PySem PySem.Spec PyProof.Rows L2
variable {pw : PgW}
inductive RL (K : PySem.W.Frag) (ρ : Nat → Addr) (N : Nat) (H : Hp) : Ls → L2.St → Prop
  | nil : RL K ρ N H [] []
  | no {ls : Ls} {o : Option V} {σ : L2.St} : RL K ρ N H ls σ → RL K ρ N H (none :: ls) (o :: σ)
  | yes {w : PV} {v : V} {ls : Ls} {σ : L2.St} : RW K ρ N H w v → RL K ρ N H ls σ → RL K ρ N H (some w :: ls) (some v :: σ)
section
variable {K : PySem.W.Frag} {ρ ρ' ρ'' : Nat → Addr} {N N' N'' : Nat} {H H' H'' : Hp} {S : Sto} {ls : Ls} {σ : L2.St}
theorem RL.ext (e : Ext K ρ N H ρ' N' H') : ∀ {ls : Ls} {σ : L2.St}, RL K ρ N H ls σ → RL K ρ' N' H' ls σ
  | _, _, .nil => .nil
  | _, _, .no t => .no (RL.ext e t)
  | _, _, .yes r t => .yes (r.ext e) (RL.ext e t)
theorem RL.length : ∀ {ls : Ls} {σ : L2.St}, RL K ρ N H ls σ → ls.length = σ.length
  | _, _, .nil => rfl
  | _, _, .no t => by simp [RL.length t]
  | _, _, .yes _ t => by simp [RL.length t]
theorem RL.get : ∀ {ls : Ls} {σ : L2.St} {i : Nat} {w : PV}, RL K ρ N H ls σ → ls[i]? = some (some w) → ∃ v, σ[i]? = some (some v) ∧ RW K ρ N H w v
  | _, _, _, _, .nil, e => by simp at e
  | _, _, 0, _, .no _, e => by simp at e
  | _, _, 0, _, .yes r _, e => by simp at e; subst e; exact ⟨_, rfl, r⟩
  | _, _, i + 1, w, .no t, e => by
    obtain ⟨v, h1, h2⟩ := RL.get (i := i) (w := w) t (by simpa using e)
    exact ⟨v, by simpa using h1, h2⟩
  | _, _, i + 1, w, .yes _ t, e => by
    obtain ⟨v, h1, h2⟩ := RL.get (i := i) (w := w) t (by simpa using e)
    exact ⟨v, by simpa using h1, h2⟩
theorem RL.set {w : PV} {v : V} (r : RW K ρ N H w v) : ∀ {ls : Ls} {σ : L2.St} (i : Nat), RL K ρ N H ls σ → RL K ρ N H (ls.set i (some w)) (σ.set i (some v))
  | _, _, _, .nil => .nil
  | _, _, 0, .no t => .yes r t
  | _, _, 0, .yes _ t => .yes r t
  | _, _, i + 1, .no t => .no (RL.set r i t)
  | _, _, i + 1, .yes q t => .yes q (RL.set r i t)
theorem RL.wipe1 (o : Option V) : ∀ {ls : Ls} {σ : L2.St} (i : Nat), RL K ρ N H ls σ → RL K ρ N H (ls.set i none) (σ.set i o)
  | _, _, _, .nil => .nil
  | _, _, 0, .no t => .no t
  | _, _, 0, .yes _ t => .no t
  | _, _, i + 1, .no t => .no (RL.wipe1 o i t)
  | _, _, i + 1, .yes q t => .yes q (RL.wipe1 o i t)
end
def wipeL (ls : Ls) : List Nat → Ls
  | [] => ls
  | v :: vs => (wipeL ls vs).set v none
theorem RL.wipe {K : PySem.W.Frag} {ρ : Nat → Addr} {N : Nat} {H : Hp} {ls : Ls} {σ : L2.St} (h : RL K ρ N H ls σ) : ∀ vs : List Nat, RL K ρ N H (wipeL ls vs) (L2.wipe σ vs)
  | [] => h
  | v :: vs => RL.wipe1 _ v (RL.wipe h vs)
def RX (K : PySem.W.Frag) (ρ : Nat → Addr) (N : Nat) (H : Hp) (e : Exn) (cls : Value) (d : Option Addr) : Prop :=
  cls = .ref (He.ga K (toS e.cls)) ∧ ∃ dx fs', d = some dx ∧ H dx = some (.xd fs') ∧ RFs K ρ N H e.fs fs'
abbrev RelF (α β : Type) := PySem.W.Frag → (Nat → Addr) → Nat → Hp → α → β → Prop
def Post {α β : Type} (pw : PgW) (R : RelF α β) (K : PySem.W.Frag) (ρ : Nat → Addr) (N : Nat) (H : Hp) (Ex : XK) (o : Out α) (Q : β → Hp → Prop) : Prop := match o with
  | .ok a S' => ∀ ρ' H' b, Ext K ρ N H ρ' S'.length H' → RSt pw K ρ' H' S' → R K ρ' S'.length H' a b → Q b H'
  | .exc e S' => ∀ ρ' H' cls d, Ext K ρ N H ρ' S'.length H' → RSt pw K ρ' H' S' → RX K ρ' S'.length H' e cls d → Ex cls d H'
  | .bad => False
def PostS (pw : PgW) (K : PySem.W.Frag) (ρ : Nat → Addr) (N : Nat) (H : Hp) (Wx : WX) (o : SOut) (D : Ends) : Prop := match o with
  | .nx ls' S' => ∀ ρ' H' σ', Ext K ρ N H ρ' S'.length H' → RSt pw K ρ' H' S' → RL K ρ' S'.length H' ls' σ' → D.nx σ' H'
  | .bk ls' S' => ∀ ρ' H' σ', Ext K ρ N H ρ' S'.length H' → RSt pw K ρ' H' S' → RL K ρ' S'.length H' ls' σ' → D.bk σ' H'
  | .ct ls' S' => ∀ ρ' H' σ', Ext K ρ N H ρ' S'.length H' → RSt pw K ρ' H' S' → RL K ρ' S'.length H' ls' σ' → D.ct σ' H'
  | .rt w S' => ∀ ρ' H' v, Ext K ρ N H ρ' S'.length H' → RSt pw K ρ' H' S' → RW K ρ' S'.length H' w v → D.rt v H'
  | .exc e ls' S' => ∀ ρ' H' σ' cls d, Ext K ρ N H ρ' S'.length H' → RSt pw K ρ' H' S' → RL K ρ' S'.length H' ls' σ' → RX K ρ' S'.length H' e cls d → Wx cls d σ' H'
  | .bad => False
abbrev RBool : RelF Bool Bool := fun _ _ _ _ a b => a = b
section
variable {α β γ δ : Type} {R : RelF α β} {R2 : RelF γ δ} {K : PySem.W.Frag} {ρ ρ' : Nat → Addr} {N N' : Nat} {H H' : Hp} {Ex : XK} {o : Out α} {Q Q' : β → Hp → Prop}
theorem Post.imp (h : Post pw R K ρ N H Ex o Q) (q : ∀ b H', Q b H' → Q' b H') : Post pw R K ρ N H Ex o Q' := by
  cases o with
  | ok a S' => exact fun ρ' H' b e r x => q b H' (h ρ' H' b e r x)
  | exc e S' => exact h
  | bad => exact h
theorem Post.ext (e : Ext K ρ N H ρ' N' H') (h : Post pw R K ρ N H Ex o Q) : Post pw R K ρ' N' H' Ex o Q := by
  cases o with
  | ok a S' => exact fun ρ2 H2 b e2 r x => h ρ2 H2 b (e.trans e2) r x
  | exc x S' => exact fun ρ2 H2 c d e2 r x => h ρ2 H2 c d (e.trans e2) r x
  | bad => exact h
theorem PostS.ext {Wx : WX} {so : SOut} {D : Ends} (e : Ext K ρ N H ρ' N' H') (h : PostS pw K ρ N H Wx so D) : PostS pw K ρ' N' H' Wx so D := by
  cases so with
  | nx a S' => exact fun ρ2 H2 b e2 r x => h ρ2 H2 b (e.trans e2) r x
  | bk a S' => exact fun ρ2 H2 b e2 r x => h ρ2 H2 b (e.trans e2) r x
  | ct a S' => exact fun ρ2 H2 b e2 r x => h ρ2 H2 b (e.trans e2) r x
  | rt a S' => exact fun ρ2 H2 b e2 r x => h ρ2 H2 b (e.trans e2) r x
  | exc x a S' => exact fun ρ2 H2 b c d e2 r x => h ρ2 H2 b c d (e.trans e2) r x
  | bad => exact h
theorem Post.bind {f : α → Sto → Out γ} {Q : δ → Hp → Prop} (h : Post pw R2 K ρ N H Ex (o.bind f) Q) :
    Post pw R K ρ N H Ex o fun b H1 => ∃ ρ1 S1 a, Ext K ρ N H ρ1 S1.length H1 ∧ RSt pw K ρ1 H1 S1 ∧ R K ρ1 S1.length H1 a b ∧ Post pw R2 K ρ1 S1.length H1 Ex (f a S1) Q := by
  cases o with
  | ok a S' => exact fun ρ1 H1 b e r x => ⟨ρ1, S', a, e, r, x, Post.ext e h⟩
  | exc x S' => exact h
  | bad => exact h
theorem Post.then {Wx : WX} {ls : Ls} {σ : L2.St} {f : α → Sto → SOut} {D : Ends} (hl : RL K ρ N H ls σ) (h : PostS pw K ρ N H Wx (o.then ls f) D) :
    Post pw R K ρ N H (fun c d H' => Wx c d σ H') o fun b H1 => ∃ ρ1 S1 a, Ext K ρ N H ρ1 S1.length H1 ∧ RSt pw K ρ1 H1 S1 ∧ R K ρ1 S1.length H1 a b ∧ PostS pw K ρ1 S1.length H1 Wx (f a S1) D := by
  cases o with
  | ok a S' => exact fun ρ1 H1 b e r x => ⟨ρ1, S', a, e, r, x, PostS.ext e h⟩
  | exc x S' => exact fun ρ1 H1 c d e r x => h ρ1 H1 σ c d e r (hl.ext e) x
  | bad => exact h
theorem PostS.seq {Wx : WX} {so : SOut} {f : MS} {D : Ends} (h : PostS pw K ρ N H Wx (so.seq f) D) :
    PostS pw K ρ N H Wx so { D with nx := fun σ1 H1 => ∃ ρ1 S1 ls1, Ext K ρ N H ρ1 S1.length H1 ∧ RSt pw K ρ1 H1 S1 ∧ RL K ρ1 S1.length H1 ls1 σ1 ∧ PostS pw K ρ1 S1.length H1 Wx (f ls1 S1) D } := by
  cases so with
  | nx a S' => exact fun ρ1 H1 b e r x => ⟨ρ1, S', a, e, r, x, PostS.ext e h⟩
  | _ => exact h
end
def tE (pw : PgW) (K : PySem.W.Frag) (Wx : WX) (m : ME) : TE := fun σ H Q => ∃ ρ S ls, RSt pw K ρ H S ∧ RL K ρ S.length H ls σ ∧ Post pw RW K ρ S.length H (fun c d H' => Wx c d σ H') (m ls S) Q
def tT (pw : PgW) (K : PySem.W.Frag) (Wx : WX) (m : MT) : TT := fun σ H Q => ∃ ρ S ls, RSt pw K ρ H S ∧ RL K ρ S.length H ls σ ∧ Post pw RBool K ρ S.length H (fun c d H' => Wx c d σ H') (m ls S) Q
def tA (pw : PgW) (K : PySem.W.Frag) (Wx : WX) (m : MA) : TA := fun σ H Q => ∃ ρ S ls, RSt pw K ρ H S ∧ RL K ρ S.length H ls σ ∧ Post pw RWs K ρ S.length H (fun c d H' => Wx c d σ H') (m ls S) Q
def tS (pw : PgW) (K : PySem.W.Frag) (Wx : WX) (m : MS) : TS := fun D σ H => ∃ ρ S ls, RSt pw K ρ H S ∧ RL K ρ S.length H ls σ ∧ PostS pw K ρ S.length H Wx (m ls S) D
abbrev IE (X : Cx) (Wx : WX) (e : Expr) (m : ME) : Prop := PE X e (tE (pwX X) X.K Wx m)
abbrev IT (X : Cx) (Wx : WX) (e : Expr) (m : MT) : Prop := PT X e (tT (pwX X) X.K Wx m)
abbrev IW (X : Cx) (Wx : WX) (e : Expr) (m : MT) : Prop := PW X e (tT (pwX X) X.K Wx m)
abbrev IA (X : Cx) (Wx : WX) (es : List Expr) (m : MA) : Prop := PA X es (tA (pwX X) X.K Wx m)
abbrev IS (X : Cx) (Wx : WX) (st : Stmt) (m : MS) : Prop := PS X st (tS (pwX X) X.K Wx m)
abbrev ISs (X : Cx) (Wx : WX) (st : List Stmt) (m : MS) : Prop := PSs X st (tS (pwX X) X.K Wx m)
theorem PEi {X : Cx} {e : Expr} {t t' : TE} (h : PE X e t) (i : ∀ σ H Q, t' σ H Q → t σ H Q) : PE X e t' := ⟨fun pins s σ H Q I hw => h.run pins s σ H Q I (i _ _ _ hw)⟩
theorem PTi {X : Cx} {e : Expr} {t t' : TT} (h : PT X e t) (i : ∀ σ H Q, t' σ H Q → t σ H Q) : PT X e t' := ⟨fun pins s σ H Q I hw => h.run pins s σ H Q I (i _ _ _ hw)⟩
theorem PWi {X : Cx} {e : Expr} {t t' : TT} (h : PW X e t) (i : ∀ σ H Q, t' σ H Q → t σ H Q) : PW X e t' := ⟨fun wh pins s σ H Q I hw => h.run wh pins s σ H Q I (i _ _ _ hw)⟩
theorem PAi {X : Cx} {e : List Expr} {t t' : TA} (h : PA X e t) (i : ∀ σ H Q, t' σ H Q → t σ H Q) : PA X e t' := ⟨fun pos pins s σ H Q I hw => h.run pos pins s σ H Q I (i _ _ _ hw)⟩
theorem PSi {X : Cx} {e : Stmt} {t t' : TS} (h : PS X e t) (i : ∀ D σ H, t' D σ H → t D σ H) : PS X e t' := ⟨fun pins s σ H D I hw => h.run pins s σ H D I (i _ _ _ hw)⟩
theorem PSsi {X : Cx} {e : List Stmt} {t t' : TS} (h : PSs X e t) (i : ∀ D σ H, t' D σ H → t D σ H) : PSs X e t' := ⟨fun pins s σ H D I hw => h.run pins s σ H D I (i _ _ _ hw)⟩
section
variable {X : Cx} {Wx : WX} {pos : Pos}
def eVar (i : Nat) : ME := fun ls S => match ls[i]? with
  | some (some w) => .ok w S
  | _ => .bad
def eC (w : PV) : ME := fun _ S => .ok w S
theorem ie_var (i : Nat) {x : Str} (hN : X.N[i]? = some x := by rfl) (hv : Vis X.env.scope x := by first | exact Or.inl rfl | exact Or.inr (Or.inl rfl) | exact Or.inr (Or.inr rfl)) (hd : (x == ("__debug__" : Str)) = false := by decide) (hcd : (x == ("__classdict__" : Str)) = false := by decide) :
    IE X Wx (.Name x pos) (eVar i) := PEi (pe_var hN hv hd hcd) fun σ H Q ⟨ρ, S, ls, hS, hL, h⟩ => by
  unfold eVar at h
  split at h
  · rename_i w e
    obtain ⟨v, e1, r⟩ := hL.get e
    exact ⟨v, e1, h ρ H v .refl hS r⟩
  · exact h.elim
theorem ie_int {i j} : IE X Wx (.Constant (.int i) j pos) (eC (.int i)) := PEi pe_int fun σ H Q ⟨ρ, S, ls, hS, hL, h⟩ => h ρ H _ .refl hS (.int i)
theorem ie_bl {i j} : IE X Wx (.Constant (.bool i) j pos) (eC (.bl i)) := PEi pe_bl fun σ H Q ⟨ρ, S, ls, hS, hL, h⟩ => h ρ H _ .refl hS (.bl i)
theorem ie_non {j} : IE X Wx (.Constant .none j pos) (eC .non) := PEi pe_non fun σ H Q ⟨ρ, S, ls, hS, hL, h⟩ => h ρ H _ .refl hS .non
theorem ie_str {x : Str} {l : List Nat} {j} (hx : x.cps.toList = l) : IE X Wx (.Constant (.str x) j pos) (eC (.str l)) := PEi pe_str fun σ H Q ⟨ρ, S, ls, hS, hL, h⟩ => h ρ H _ .refl hS (by rw [← hx]; exact .str x)
def GVal (K : PySem.W.Frag) (v : V) (w : PV) : Prop := ∀ ρ N H, RW K ρ N H w v
theorem ie_glob {x : Str} {v : V} {u : Value} {w : PV} (hg : Gl X x) (hm : X.mg x = some u) (r : RelV v u) (g : GVal X.K v w) (hd : (x == ("__debug__" : Str)) = false := by decide) : IE X Wx (.Name x pos) (eC w) :=
  PEi (pe_glob hg hm r hd) fun σ H Q ⟨ρ, S, ls, hS, hL, h⟩ => h ρ H _ .refl hS (g _ _ _)
def OpI (X : Cx) (Wx : WX) (r : R2) (g : PV → PV → Sto → Out PV) : Prop :=
  ∀ (ρ : Nat → Addr) (S : Sto) (H : Hp) (w1 w2 : PV) (x y : V) (Ex : XK) (Q : VK), RSt (pwX X) X.K ρ H S → RW X.K ρ S.length H w1 x → RW X.K ρ S.length H w2 y → Post (pwX X) RW X.K ρ S.length H Ex (g w1 w2 S) Q → r x y H Q
def eOp (g : PV → PV → Sto → Out PV) (a b : ME) : ME := fun ls S => (a ls S).bind fun w1 S1 => (b ls S1).bind fun w2 S2 => g w1 w2 S2
variable {a b c : Expr} {ma mb mc : ME} {g : PV → PV → Sto → Out PV} {r : R2}
theorem bin_in {σ : L2.St} {H : Hp} {Q : VK} (hi : OpI X Wx r g) (h : tE (pwX X) X.K Wx (eOp g ma mb) σ H Q) : tOp r (tE (pwX X) X.K Wx ma) (tE (pwX X) X.K Wx mb) σ H Q := by
  obtain ⟨ρ, S, ls, hS, hL, h⟩ := h
  refine ⟨ρ, S, ls, hS, hL, (Post.bind (R := RW) h).imp ?_⟩
  rintro x H1 ⟨ρ1, S1, w1, e1, hS1, r1, h1⟩
  refine ⟨ρ1, S1, ls, hS1, hL.ext e1, (Post.bind (R := RW) h1).imp ?_⟩
  rintro y H2 ⟨ρ2, S2, w2, e2, hS2, r2, h2⟩
  exact hi ρ2 S2 H2 w1 w2 x y _ Q hS2 (r1.ext e2) r2 h2
theorem ie_bin {op : Operator} (ho : OpR X (binaryOp op) r) (hi : OpI X Wx r g) (ha : IE X Wx a ma) (hb : IE X Wx b mb) : IE X Wx (.BinOp a op b pos) (eOp g ma mb) :=
  PEi (pe_op ho ha hb) fun σ H Q h => bin_in hi h
theorem ie_cmp {op : CmpOp} (ho : OpR X (compareOp op) r) (hi : OpI X Wx r g) (ha : IE X Wx a ma) (hb : IE X Wx b mb) (hm : behindInMarks op b = false) : IE X Wx (.Compare a [op] [b] pos) (eOp g ma mb) :=
  PEi (pe_cmpR ho ha hb hm) fun σ H Q h => bin_in hi h
def asB : PV → Sto → Out Bool := fun w S => match w with
  | .bl b => .ok b S
  | _ => .bad
def toT (m : ME) : MT := fun ls S => (m ls S).bind asB
theorem test_in {σ : L2.St} {H : Hp} {Q : Bool → Hp → Prop} (h : tT (pwX X) X.K Wx (toT ma) σ H Q) : tTest (tE (pwX X) X.K Wx ma) σ H Q := by
  obtain ⟨ρ, S, ls, hS, hL, h⟩ := h
  refine ⟨ρ, S, ls, hS, hL, (Post.bind (R := RW) h).imp ?_⟩
  rintro x H1 ⟨ρ1, S1, w1, e1, hS1, r1, h1⟩
  unfold asB at h1
  split at h1
  · cases r1
    exact ⟨_, rfl, h1 ρ1 H1 _ .refl hS1 rfl⟩
  · exact h1.elim
theorem it_cmp {op : CmpOp} (ho : OpR X (compareOp op) r) (hi : OpI X Wx r g) (ha : IE X Wx a ma) (hb : IE X Wx b mb) (hm : behindInMarks op b = false) : IT X Wx (.Compare a [op] [b] pos) (toT (eOp g ma mb)) :=
  PTi (pt_cmpR ho ha hb hm) fun σ H Q h => bin_in hi (test_in h)
def eChain (g g' : PV → PV → Sto → Out PV) (a b c : ME) : ME := fun ls S => (a ls S).bind fun w1 S1 => (b ls S1).bind fun w2 S2 => (g w1 w2 S2).bind fun z S3 => match z with
  | .bl true => (c ls S3).bind fun w3 S4 => g' w2 w3 S4
  | .bl false => .ok (.bl false) S3
  | _ => .bad
variable {g' : PV → PV → Sto → Out PV} {r' : R2}
theorem chain_in {σ : L2.St} {H : Hp} {Q : VK} (hi : OpI X Wx r g) (hi' : OpI X Wx r' g') (h : tE (pwX X) X.K Wx (eChain g g' ma mb mc) σ H Q) : tChain r r' (tE (pwX X) X.K Wx ma) (tE (pwX X) X.K Wx mb) (tE (pwX X) X.K Wx mc) σ H Q := by
  obtain ⟨ρ, S, ls, hS, hL, h⟩ := h
  refine ⟨ρ, S, ls, hS, hL, (Post.bind (R := RW) h).imp ?_⟩
  rintro x H1 ⟨ρ1, S1, w1, e1, hS1, r1, h1⟩
  refine ⟨ρ1, S1, ls, hS1, hL.ext e1, (Post.bind (R := RW) h1).imp ?_⟩
  rintro y H2 ⟨ρ2, S2, w2, e2, hS2, r2, h2⟩
  refine hi ρ2 S2 H2 w1 w2 x y (fun c d H' => Wx c d σ H') _ hS2 (r1.ext e2) r2 ((Post.bind (R := RW) h2).imp ?_)
  rintro z H3 ⟨ρ3, S3, w3, e3, hS3, r3, h3⟩
  split at h3
  · cases r3
    refine ⟨true, rfl, ?_⟩
    rw [if_pos rfl]
    refine ⟨ρ3, S3, ls, hS3, ((hL.ext e1).ext e2).ext e3, (Post.bind (R := RW) h3).imp ?_⟩
    rintro u H4 ⟨ρ4, S4, w4, e4, hS4, r4, h4⟩
    exact hi' ρ4 S4 H4 w2 w4 y u _ Q hS4 ((r2.ext e3).ext e4) r4 h4
  · cases r3
    refine ⟨false, rfl, ?_⟩
    rw [if_neg Bool.false_ne_true]
    exact h3 ρ3 H3 _ .refl hS3 (.bl false)
  · exact h3.elim
end
end GL
set_option Elab.async false
set_option linter.all false
set_option maxRecDepth 100000
set_option maxHeartbeats 1000000
namespace GL
open PySem PySem.Spec PyProof.Rows L2
variable {pw : PgW}
mutual
def PV.beq : PV → PV → Bool
  | .non, .non => true
  | .bl a, .bl b => a == b
  | .int a, .int b => decide (a = b)
  | .str a, .str b => decide (a = b)
  | .tup a, .tup b => PV.beqs a b
  | .loc a, .loc b => Nat.beq a b
  | .gl a, .gl b => decide (a = b)
  | .ty a, .ty b => decide (a = b)
  | .xn a b c d e, .xn a' b' c' d' e' => (Nat.beq a a' && (Nat.beq b b' && (decide (c = c') && decide (d = d')))) && PV.beqs e e'
  | _, _ => false
def PV.beqs : List PV → List PV → Bool
  | [], [] => true
  | a :: r, b :: s => PV.beq a b && PV.beqs r s
  | _, _ => false
end
mutual
theorem PV.eq_of_beq : ∀ {a b : PV}, PV.beq a b = true → a = b
  | .non, b, h => by cases b <;> first | rfl | (simp [PV.beq] at h)
  | .bl a, b, h => by cases b <;> first | (simp [PV.beq] at h; subst h; rfl) | (simp [PV.beq] at h)
  | .int a, b, h => by cases b <;> first | (simp [PV.beq] at h; subst h; rfl) | (simp [PV.beq] at h)
  | .str a, b, h => by cases b <;> first | (simp [PV.beq] at h; subst h; rfl) | (simp [PV.beq] at h)
  | .tup a, b, h => by
    cases b with
    | tup c => simp only [PV.beq] at h; rw [PV.eqs_of_beqs h]
    | _ => simp [PV.beq] at h
  | .loc a, b, h => by
    cases b with
    | loc c => simp only [PV.beq] at h; rw [Nat.eq_of_beq_eq_true h]
    | _ => simp [PV.beq] at h
  | .gl a, b, h => by cases b <;> first | (simp [PV.beq] at h; subst h; rfl) | (simp [PV.beq] at h)
  | .ty a, b, h => by cases b <;> first | (simp [PV.beq] at h; subst h; rfl) | (simp [PV.beq] at h)
  | .xn a b c d e, z, h => by
    cases z with
    | xn a' b' c' d' e' =>
      simp only [PV.beq, Bool.and_eq_true, decide_eq_true_eq] at h
      obtain ⟨⟨h1, h2, h3, h4⟩, h5⟩ := h
      rw [Nat.eq_of_beq_eq_true h1, Nat.eq_of_beq_eq_true h2, h3, h4, PV.eqs_of_beqs h5]
    | _ => simp [PV.beq] at h
theorem PV.eqs_of_beqs : ∀ {a b : List PV}, PV.beqs a b = true → a = b
  | [], [], _ => rfl
  | [], _ :: _, h => by simp [PV.beqs] at h
  | _ :: _, [], h => by simp [PV.beqs] at h
  | a :: r, b :: s, h => by
    simp only [PV.beqs, Bool.and_eq_true] at h
    rw [PV.eq_of_beq h.1, PV.eqs_of_beqs h.2]
end
mutual
theorem PV.beq_self : ∀ a : PV, PV.beq a a = true
  | .non => by simp [PV.beq]
  | .bl a => by simp [PV.beq]
  | .int a => by simp [PV.beq]
  | .str a => by simp [PV.beq]
  | .tup a => by simp only [PV.beq]; exact PV.beqs_self a
  | .loc a => by simp only [PV.beq]; exact Nat.beq_refl a
  | .gl a => by simp [PV.beq]
  | .ty a => by simp [PV.beq]
  | .xn a b c d e => by simp only [PV.beq]; rw [Nat.beq_refl, Nat.beq_refl, PV.beqs_self e]; simp
theorem PV.beqs_self : ∀ a : List PV, PV.beqs a a = true
  | [] => by simp [PV.beqs]
  | a :: r => by simp only [PV.beqs, Bool.and_eq_true]; exact ⟨PV.beq_self a, PV.beqs_self r⟩
end
def tAndM (a b : MT) : MT := fun ls S => (a ls S).bind fun k S1 => if k = true then b ls S1 else .ok false S1
def tOrM (a b : MT) : MT := fun ls S => (a ls S).bind fun k S1 => if k = true then .ok true S1 else b ls S1
def tNotM (a : MT) : MT := fun ls S => (a ls S).bind fun k S1 => .ok (!k) S1
def eNotM (a : ME) : ME := fun ls S => (a ls S).bind fun w S1 => match w with
  | .bl k => .ok (.bl (!k)) S1
  | _ => .bad
def eAndM (a b : ME) : ME := fun ls S => (a ls S).bind fun w S1 => match w with
  | .bl true => b ls S1
  | .bl false => .ok (.bl false) S1
  | _ => .bad
section
variable {X : Cx} {Wx : WX} {pos : Pos} {a b c : Expr} {rest : List Expr} {ma mb mc : ME} {ta tb : MT}
theorem it_val (h : IE X Wx a ma) (he : ∀ whole, isTrue a X.env whole = (do let v ← whole; standAt a.pos; holding [v] (truthy v)) := by intro _; rfl) : IT X Wx a (toT ma) :=
  PTi (pt_val h he) fun σ H Q q => test_in q
theorem iw_or1 (ha : IT X Wx a ta) : IW X Wx (.BoolOp .Or [a] pos) ta := pw_or1 ha
theorem iw_or (ha : IT X Wx a ta) (hb : IW X Wx (.BoolOp .Or (b :: rest) pos) tb) : IW X Wx (.BoolOp .Or (a :: b :: rest) pos) (tOrM ta tb) :=
  PWi (pw_or ha hb) fun σ H Q ⟨ρ, S, ls, hS, hL, h⟩ => ⟨ρ, S, ls, hS, hL, (Post.bind (R := RBool) h).imp fun k H1 ⟨ρ1, S1, k1, e1, hS1, r1, h1⟩ => by
    have r1 : k1 = k := r1
    subst k
    cases k1
    · rw [if_neg Bool.false_ne_true] at h1 ⊢; exact ⟨ρ1, S1, ls, hS1, hL.ext e1, h1⟩
    · rw [if_pos rfl] at h1 ⊢; exact h1 ρ1 H1 _ .refl hS1 rfl⟩
theorem it_w {e : Expr} {t : MT} (h : IW X Wx e t) : IT X Wx e t := PW.pt h
theorem it_not (ha : IT X Wx a ta) : IT X Wx (.UnaryOp .Not a pos) (tNotM ta) :=
  PTi (pt_not ha) fun σ H Q ⟨ρ, S, ls, hS, hL, h⟩ => ⟨ρ, S, ls, hS, hL, (Post.bind (R := RBool) h).imp fun k H1 ⟨ρ1, S1, k1, e1, hS1, r1, h1⟩ => by
    cases r1
    exact h1 ρ1 H1 _ .refl hS1 rfl⟩
theorem ie_not (ha : IE X Wx a ma) : IE X Wx (.UnaryOp .Not a pos) (eNotM ma) :=
  PEi (pe_not ha) fun σ H Q ⟨ρ, S, ls, hS, hL, h⟩ => ⟨ρ, S, ls, hS, hL, (Post.bind (R := RW) h).imp fun x H1 ⟨ρ1, S1, w1, e1, hS1, r1, h1⟩ => by
    split at h1
    · cases r1
      exact ⟨_, rfl, h1 ρ1 H1 _ .refl hS1 (.bl _)⟩
    · exact h1.elim⟩
theorem ie_one {op} {m : ME} (h : IE X Wx a m) : IE X Wx (.BoolOp op [a] pos) m := pe_one h
theorem ie_and (ha : IE X Wx a ma) (hb : IE X Wx (.BoolOp .And (b :: rest) pos) mb) : IE X Wx (.BoolOp .And (a :: b :: rest) pos) (eAndM ma mb) :=
  PEi (pe_and ha hb) fun σ H Q ⟨ρ, S, ls, hS, hL, h⟩ => ⟨ρ, S, ls, hS, hL, (Post.bind (R := RW) h).imp fun x H1 ⟨ρ1, S1, w1, e1, hS1, r1, h1⟩ => by
    split at h1
    · cases r1
      exact ⟨true, rfl, by rw [if_pos rfl]; exact ⟨ρ1, S1, ls, hS1, hL.ext e1, h1⟩⟩
    · cases r1
      exact ⟨false, rfl, by rw [if_neg Bool.false_ne_true]; exact h1 ρ1 H1 _ .refl hS1 (.bl _)⟩
    · exact h1.elim⟩
def aNil : MA := fun _ S => .ok [] S
def aCons (a : ME) (r : MA) : MA := fun ls S => (a ls S).bind fun w S1 => (r ls S1).bind fun ws S2 => .ok (w :: ws) S2
variable {es : List Expr} {e : Expr} {mr : MA}
theorem ia_nil : IA X Wx [] aNil := PAi pa_nil fun σ H Q ⟨ρ, S, ls, hS, hL, h⟩ => h ρ H _ .refl hS .nil
theorem ia_cons (ha : IE X Wx e ma) (hr : IA X Wx es mr) (hs : starEach (e :: es) X.env = (false, eval e X.env) :: starEach es X.env := by rfl) : IA X Wx (e :: es) (aCons ma mr) :=
  PAi (pa_cons ha hr hs) fun σ H Q ⟨ρ, S, ls, hS, hL, h⟩ => ⟨ρ, S, ls, hS, hL, (Post.bind (R := RW) h).imp fun x H1 ⟨ρ1, S1, w1, e1, hS1, r1, h1⟩ =>
    ⟨ρ1, S1, ls, hS1, hL.ext e1, (Post.bind (R := RWs) h1).imp fun xs H2 ⟨ρ2, S2, ws, e2, hS2, r2, h2⟩ => h2 ρ2 H2 _ .refl hS2 (.cons (r1.ext e2) r2)⟩⟩
def lim : Nat := 100000
theorem lim_sz {n : Nat} (h : n ≤ lim) : n ≤ sizeLine := Nat.le_trans h (by decide)
theorem lim_lt {n : Nat} (h : n < lim) : n < sizeLine := Nat.lt_of_lt_of_le h (by decide)
def eTup (m : MA) : ME := fun ls S => (m ls S).bind fun ws S1 => if ws.length ≤ lim then .ok (.tup ws) S1 else .bad
def eLst (m : MA) : ME := fun ls S => (m ls S).bind fun ws S1 => if ws.length ≤ lim then .ok (.loc S1.length) (S1 ++ [.lst ws]) else .bad
theorem mk_tup {K : PySem.W.Frag} {ρ : Nat → Addr} {S : Sto} {H : Hp} {ws : List PV} {vs : List V} {Ex : XK} {Q : VK} (hS : RSt pw K ρ H S) (r : RWs K ρ S.length H ws vs) (h : Post pw RW K ρ S.length H Ex (.ok (.tup ws) S) Q) :
    ∀ p, H p = none → Q (.ref p) (upd H p (.tup vs)) := fun p hp => by
  have e : Ext K ρ S.length H ρ S.length (upd H p (.tup vs)) := ext_keep hp
  exact h ρ _ _ e (hS.keep hp) (.tup (SqT.of upd_same) (r.ext e))
theorem mk_lst {K : PySem.W.Frag} {ρ : Nat → Addr} {S : Sto} {H : Hp} {ws : List PV} {vs : List V} {Ex : XK} {Q : VK} (hS : RSt pw K ρ H S) (r : RWs K ρ S.length H ws vs) (h : Post pw RW K ρ S.length H Ex (.ok (.loc S.length) (S ++ [.lst ws])) Q) :
    ∀ p, H p = none → Q (.ref p) (upd H p (.lst vs)) := fun p hp => by
  have e : Ext K ρ S.length H (grow ρ S.length p) (S.length + 1) (upd H p (.lst vs)) := ext_new hp
  have hl : (S ++ [OB.lst ws]).length = S.length + 1 := by simp
  have n := RSt.new (o := .lst ws) hS hp rfl ⟨vs, upd_same, r.ext e⟩
  refine h _ _ _ (by rw [hl]; exact e) n ?_
  rw [hl]
  have q : RW K (grow ρ S.length p) (S.length + 1) (upd H p (.lst vs)) (.loc S.length) (.ref (grow ρ S.length p S.length)) := .loc _ (Nat.lt_succ_self _)
  rw [grow_new] at q
  exact q
theorem ie_tup {x1} (h : IA X Wx es mr) : IE X Wx (.Tuple es x1 pos) (eTup mr) :=
  PEi (pe_tup h) fun σ H Q ⟨ρ, S, ls, hS, hL, h⟩ => ⟨ρ, S, ls, hS, hL, (Post.bind (R := RWs) h).imp fun xs H1 ⟨ρ1, S1, ws, e1, hS1, r1, h1⟩ => by
    split at h1
    · rename_i hz
      exact ⟨by rw [← r1.length]; exact lim_sz hz, mk_tup hS1 r1 h1⟩
    · exact h1.elim⟩
theorem ie_lst (h : IA X Wx es mr) : IE X Wx (.List es pos) (eLst mr) :=
  PEi (pe_lst h) fun σ H Q ⟨ρ, S, ls, hS, hL, h⟩ => ⟨ρ, S, ls, hS, hL, (Post.bind (R := RWs) h).imp fun xs H1 ⟨ρ1, S1, ws, e1, hS1, r1, h1⟩ => by
    split at h1
    · rename_i hz
      exact ⟨by rw [← r1.length]; exact lim_sz hz, mk_lst hS1 r1 h1⟩
    · exact h1.elim⟩
end
def sNil : MS := fun ls S => .nx ls S
def sSeq (a b : MS) : MS := fun ls S => (a ls S).seq b
def sSet (i : Nat) (m : ME) : MS := fun ls S => (m ls S).then ls fun w S1 => .nx (ls.set i (some w)) S1
def sExpr (m : ME) : MS := fun ls S => (m ls S).then ls fun _ S1 => .nx ls S1
def sRet (m : ME) : MS := fun ls S => (m ls S).then ls fun w S1 => .rt w S1
def sIf (c : MT) (a b : MS) : MS := fun ls S => (c ls S).then ls fun k S1 => if k = true then a ls S1 else b ls S1
def sBk : MS := fun ls S => .bk ls S
section
variable {X : Cx} {Wx : WX} {pos : Pos} {st : Stmt} {rest : List Stmt} {m1 m2 : MS} {e c : Expr} {me : ME} {mt : MT}
theorem iss_nil : ISs X Wx [] sNil := PSsi pss_nil fun D σ H ⟨ρ, S, ls, hS, hL, h⟩ => h ρ H σ .refl hS hL
theorem iss_cons (h1 : IS X Wx st m1) (h2 : ISs X Wx rest m2) : ISs X Wx (st :: rest) (sSeq m1 m2) :=
  PSsi (pss_cons h1 h2) fun D σ H ⟨ρ, S, ls, hS, hL, h⟩ => ⟨ρ, S, ls, hS, hL, by
    have q := PostS.seq h
    cases hm : m1 ls S with
    | nx a S' =>
      rw [hm] at q
      exact fun ρ1 H1 σ1 e r x => by
        obtain ⟨ρ2, S2, ls2, _, a, b, c⟩ := q ρ1 H1 σ1 e r x
        exact ⟨ρ2, S2, ls2, a, b, c⟩
    | bk a S' => rw [hm] at q; exact q
    | ct a S' => rw [hm] at q; exact q
    | rt a S' => rw [hm] at q; exact q
    | exc a b S' => rw [hm] at q; exact q
    | bad => rw [hm] at q; exact q⟩
theorem iss_one (h1 : IS X Wx st m1) : ISs X Wx [st] m1 := pss_one h1
theorem is_break : IS X Wx (.Break pos) sBk := PSi ps_break fun D σ H ⟨ρ, S, ls, hS, hL, h⟩ => h ρ H σ .refl hS hL
theorem is_set {i : Nat} {x : Str} {pos' : Pos} (hN : X.N.Nodup) (he : IE X Wx e me) (hi : X.N[i]? = some x := by rfl) (hx : Loc X.env.scope x := by first | exact Or.inl rfl | exact Or.inr rfl) (hs : swapsWith e (some (.Name x pos')) pos.line X.env = pure false := by rfl) (hf : X.fn x = true ∨ X.env.scope.names.lookup x = some .local := by first | exact .inl rfl | exact .inr rfl) :
    IS X Wx (.Assign [.Name x pos'] e pos) (sSet i me) :=
  PSi (ps_set (i := i) hN hi hx he hs hf) fun D σ H ⟨ρ, S, ls, hS, hL, h⟩ => ⟨ρ, S, ls, hS, hL, (Post.then (R := RW) hL h).imp fun x H1 ⟨ρ1, S1, w1, e1, hS1, r1, h1⟩ => h1 ρ1 H1 _ .refl hS1 (RL.set r1 _ (hL.ext e1))⟩
theorem is_expr (he : IE X Wx e me) (hs : swapsWith e none pos.line X.env = pure false := by rfl) : IS X Wx (.Expr e pos) (sExpr me) :=
  PSi (ps_expr he hs) fun D σ H ⟨ρ, S, ls, hS, hL, h⟩ => ⟨ρ, S, ls, hS, hL, (Post.then (R := RW) hL h).imp fun x H1 ⟨ρ1, S1, w1, e1, hS1, r1, h1⟩ => h1 ρ1 H1 _ .refl hS1 (hL.ext e1)⟩
theorem is_ret (he : IE X Wx e me) : IS X Wx (.Return (some e) pos) (sRet me) :=
  PSi (ps_ret he) fun D σ H ⟨ρ, S, ls, hS, hL, h⟩ => ⟨ρ, S, ls, hS, hL, (Post.then (R := RW) hL h).imp fun x H1 ⟨ρ1, S1, w1, e1, hS1, r1, h1⟩ => h1 ρ1 H1 _ .refl hS1 r1⟩
theorem is_if {a b : List Stmt} (hc : IT X Wx c mt) (ha : ISs X Wx a m1) (hb : ISs X Wx b m2) : IS X Wx (.If c a b pos) (sIf mt m1 m2) :=
  PSi (ps_if hc ha hb) fun D σ H ⟨ρ, S, ls, hS, hL, h⟩ => ⟨ρ, S, ls, hS, hL, (Post.then (R := RBool) hL h).imp fun k H1 ⟨ρ1, S1, k1, e1, hS1, r1, h1⟩ => by
    have r1 : k1 = k := r1
    subst k
    cases k1
    · rw [if_neg Bool.false_ne_true] at h1 ⊢; exact ⟨ρ1, S1, ls, hS1, hL.ext e1, h1⟩
    · rw [if_pos rfl] at h1 ⊢; exact ⟨ρ1, S1, ls, hS1, hL.ext e1, h1⟩⟩
end
end GL
set_option Elab.async false
set_option linter.all false
set_option maxRecDepth 100000
set_option maxHeartbeats 1000000
namespace GL
open PySem PySem.Spec PyProof.Rows L2
variable {pw : PgW}
def lstAt (S : Sto) (n : Nat) : Option (List PV) := match S[n]? with
  | some (.lst xs) => some xs
  | _ => none
def seqAt (S : Sto) (n : Nat) : Option (List PV) := match S[n]? with
  | some (.lst xs) => some xs
  | some (.rol xs) => some xs
  | _ => none
def ptpA (S : Sto) (n : Nat) : Option (List PV) := match S[n]? with
  | some (.ptp xs) => some xs
  | _ => none
section
variable {K : PySem.W.Frag} {ρ : Nat → Addr} {H : Hp} {S : Sto} {n : Nat} {xs : List PV}
theorem ptpA_of (hS : RSt pw K ρ H S) (h : ptpA S n = some xs) : ∃ vs, PtT K H (ρ n) vs ∧ RWs K ρ S.length H xs vs := by
  unfold ptpA at h; split at h
  · rename_i e; cases h
    exact hS.at_ _ _ e
  · cases h
theorem lstAt_get (h : lstAt S n = some xs) : S[n]? = some (.lst xs) := by
  unfold lstAt at h; split at h
  · rename_i e; cases h; exact e
  · cases h
theorem lst_of (hS : RSt pw K ρ H S) (h : lstAt S n = some xs) : ∃ vs, H (ρ n) = some (.lst vs) ∧ RWs K ρ S.length H xs vs := hS.at_ _ _ (lstAt_get h)
theorem seq_of (hS : RSt pw K ρ H S) (h : seqAt S n = some xs) : ∃ vs, SqL K H (ρ n) vs ∧ RWs K ρ S.length H xs vs := by
  unfold seqAt at h; split at h
  · rename_i e; cases h
    obtain ⟨vs, a, b⟩ := hS.at_ _ _ e
    exact ⟨vs, SqL.of a, b⟩
  · rename_i e; cases h
    obtain ⟨vs, a, b⟩ := hS.at_ _ _ e
    exact ⟨vs, a.sq, b⟩
  · cases h
theorem set_lst (hS : RSt pw K ρ H S) (h : lstAt S n = some xs) {ys : List PV} {vs : List V} (r : RWs K ρ S.length H ys vs) :
    RSt pw K ρ (upd H (ρ n) (.lst vs)) (S.set n (.lst ys)) ∧ Ext K ρ S.length H ρ (S.set n (.lst ys)).length (upd H (ρ n) (.lst vs)) := by
  obtain ⟨v0, h0, _⟩ := lst_of hS h
  have e : Ext K ρ S.length H ρ S.length (upd H (ρ n) (.lst vs)) := ext_upd h0 trivial
  exact ⟨hS.set (lstAt_get h) rfl rfl ⟨vs, upd_same, r.ext e⟩, by rw [List.length_set]; exact e⟩
end
theorem RWs.nil_inv {K : PySem.W.Frag} {ρ : Nat → Addr} {N : Nat} {H : Hp} {ws : List PV} (r : RWs K ρ N H ws []) : ws = [] := by cases r; rfl
theorem Post.here {K : PySem.W.Frag} {ρ : Nat → Addr} {S : Sto} {H : Hp} {Ex : XK} {Q : VK} {w : PV} {v : V} (h : Post pw RW K ρ S.length H Ex (.ok w S) Q) (hS : RSt pw K ρ H S) (r : RW K ρ S.length H w v) : Q v H := h ρ H v .refl hS r
def gAdd : PV → PV → Sto → Out PV := fun a b S => match a, b with
  | .int i, .int j => .ok (.int (i + j)) S
  | .str x, .str y => if x.length + y.length ≤ lim then .ok (.str (x ++ y)) S else .bad
  | .tup x, .tup y => if x.length + y.length ≤ lim then .ok (.tup (x ++ y)) S else .bad
  | .loc n, .loc m => (match lstAt S n, lstAt S m with
    | some x, some y => if x.length + y.length ≤ lim then .ok (.loc S.length) (S ++ [.lst (x ++ y)]) else .bad
    | _, _ => .bad)
  | _, _ => .bad
def rAddM (K : PySem.W.Frag) : R2 := fun x y H Q => (rI0 fun i j => .int (i + j)) x y H Q ∨
  (∃ i j, x = .str i ∧ y = .str j ∧ i.length + j.length ≤ sizeLine ∧ Q (.str (i ++ j)) H) ∨ rCatA K x y H Q ∨ rCat x y H Q
section
variable {X : Cx} {Wx : WX}
theorem or_addM : OpR X (binaryOp .Add) (rAddM X.K) := op_add.or (op_add_str.or (op_catA.or op_cat))
theorem str_len {x : Str} : x.cps.toList.length = x.length := by simp [Str.length]
theorem oi_add : OpI X Wx (rAddM X.K) gAdd := by
  intro ρ S H w1 w2 x y Ex Q hS r1 r2 h
  unfold gAdd at h
  split at h
  · cases r1; cases r2
    exact .inl ⟨_, _, rfl, rfl, h.here hS (.int _)⟩
  · split at h
    · rename_i hz
      cases r1 with
      | str i => cases r2 with
        | str j =>
          rw [str_len, str_len] at hz
          refine .inr (.inl ⟨_, _, rfl, rfl, lim_sz hz, h.here hS ?_⟩)
          have : (i ++ j).cps.toList = i.cps.toList ++ j.cps.toList := by
            show (i.cps ++ j.cps).toList = _
            simp
          rw [← this]; exact .str _
    · exact h.elim
  · split at h
    · rename_i hz
      cases r1 with
      | tup s1 t1 => cases r2 with
        | tup s2 t2 =>
          rw [t1.length, t2.length] at hz
          refine .inr (.inr (.inl ⟨_, _, _, _, rfl, rfl, s1, s2, lim_sz hz, fun e => ?_, fun _ e => ?_, fun _ _ => mk_tup hS (t1.app t2) h⟩))
          · subst e
            rw [t1.nil_inv, List.nil_append] at h
            exact h.here hS (.tup s2 t2)
          · subst e
            rw [t2.nil_inv, List.append_nil] at h
            exact h.here hS (.tup s1 t1)
    · exact h.elim
  · split at h
    · split at h
      · rename_i e1 e2 hz
        cases r1; cases r2
        obtain ⟨v1, h1, t1⟩ := lst_of hS e1
        obtain ⟨v2, h2, t2⟩ := lst_of hS e2
        rw [t1.length, t2.length] at hz
        exact .inr (.inr (.inr ⟨_, _, _, _, rfl, rfl, h1, h2, lim_sz hz, mk_lst hS (t1.app t2) h⟩))
      · exact h.elim
    · exact h.elim
  · exact h.elim
def gInt (g : Int → Int → Int) : PV → PV → Sto → Out PV := fun a b S => match a, b with
  | .int i, .int j => .ok (.int (g i j)) S
  | _, _ => .bad
def gIntC (c : Int → Int → Bool) (g : Int → Int → Int) : PV → PV → Sto → Out PV := fun a b S => match a, b with
  | .int i, .int j => if c i j = true then .ok (.int (g i j)) S else .bad
  | _, _ => .bad
def gCmpI (g : Int → Int → Bool) : PV → PV → Sto → Out PV := fun a b S => match a, b with
  | .int i, .int j => .ok (.bl (g i j)) S
  | _, _ => .bad
theorem oi_int {g : Int → Int → Int} : OpI X Wx (rI0 fun i j => .int (g i j)) (gInt g) := by
  intro ρ S H w1 w2 x y Ex Q hS r1 r2 h
  unfold gInt at h
  split at h
  · cases r1; cases r2; exact ⟨_, _, rfl, rfl, h.here hS (.int _)⟩
  · exact h.elim
theorem oi_intC {C : Int → Int → Prop} {c : Int → Int → Bool} {g : Int → Int → Int} (hc : ∀ i j, c i j = true → C i j) : OpI X Wx (rI C fun i j => .int (g i j)) (gIntC c g) := by
  intro ρ S H w1 w2 x y Ex Q hS r1 r2 h
  unfold gIntC at h
  split at h
  · split at h
    · rename_i q
      cases r1; cases r2; exact ⟨_, _, rfl, rfl, hc _ _ q, h.here hS (.int _)⟩
    · exact h.elim
  · exact h.elim
theorem oi_cmpI {g : Int → Int → Bool} : OpI X Wx (rI0 fun i j => .bl (g i j)) (gCmpI g) := by
  intro ρ S H w1 w2 x y Ex Q hS r1 r2 h
  unfold gCmpI at h
  split at h
  · cases r1; cases r2; exact ⟨_, _, rfl, rfl, h.here hS (.bl _)⟩
  · exact h.elim
def gSub := gInt fun i j => i - j
def cDiv : Int → Int → Bool := fun _ j => decide (0 < j) && decide (j < 1073741824)
def cMod : Int → Int → Bool := fun _ j => decide (0 < j)
def gDiv := gIntC cDiv fun i j => i / j
def gMod := gIntC cMod fun i j => i % j
def gLt := gCmpI fun i j => decide (i < j)
def gLe := gCmpI fun i j => decide (i ≤ j)
def gGe := gCmpI fun i j => decide (j ≤ i)
theorem oi_sub : OpI X Wx (rI0 fun i j => .int (i - j)) gSub := oi_int
theorem oi_div : OpI X Wx (rI CDiv fun i j => .int (i / j)) gDiv := oi_intC fun i j h => by
  simp only [cDiv, Bool.and_eq_true, decide_eq_true_eq] at h; exact h
theorem oi_mod : OpI X Wx (rI (fun _ j => 0 < j) fun i j => .int (i % j)) gMod := oi_intC fun i j h => by
  simp only [cMod, decide_eq_true_eq] at h; exact h
theorem oi_lt : OpI X Wx (rI0 fun i j => .bl (decide (i < j))) gLt := oi_cmpI
theorem oi_le : OpI X Wx (rI0 fun i j => .bl (decide (i ≤ j))) gLe := oi_cmpI
theorem oi_ge : OpI X Wx (rI0 fun i j => .bl (decide (j ≤ i))) gGe := oi_cmpI
def big : Int := 18446744073709551616
def smallI (i : Int) : Bool := decide (-big < i) && decide (i < big)
def gMul : PV → PV → Sto → Out PV := fun a b S => match a, b with
  | .int i, .int j => if (smallI i || smallI j) = true then .ok (.int (i * j)) S else .bad
  | .loc n, .int j => (match lstAt S n with
    | some x => if decide (0 ≤ j) && decide (j < 100000) && decide (x.length * j.toNat ≤ lim) then .ok (.loc S.length) (S ++ [.lst (List.replicate j.toNat x).flatten]) else .bad
    | none => .bad)
  | _, _ => .bad
def rMulM : R2 := fun x y H Q => (rI CMul fun i j => .int (i * j)) x y H Q ∨ rRep x y H Q
theorem or_mulM : OpR X (binaryOp .Mult) rMulM := op_mul.or op_rep
theorem smallI_ok {i : Int} (h : smallI i = true) : -(2 ^ 64) < i ∧ i < 2 ^ 64 := by
  have h := Bool.and_eq_true_iff.mp h
  have h : -18446744073709551616 < i ∧ i < 18446744073709551616 := ⟨of_decide_eq_true h.1, of_decide_eq_true h.2⟩
  have e : (2 : Int) ^ 64 = 18446744073709551616 := by decide
  rw [e]; exact h
theorem RWs.rep {K : PySem.W.Frag} {ρ : Nat → Addr} {N : Nat} {H : Hp} {ws : List PV} {vs : List V} (h : RWs K ρ N H ws vs) : ∀ k : Nat, RWs K ρ N H (List.replicate k ws).flatten (List.replicate k vs).flatten
  | 0 => .nil
  | k + 1 => by
    rw [List.replicate_succ, List.replicate_succ, List.flatten_cons, List.flatten_cons]
    exact h.app (RWs.rep h k)
theorem oi_mul : OpI X Wx rMulM gMul := by
  intro ρ S H w1 w2 x y Ex Q hS r1 r2 h
  unfold gMul at h
  split at h
  · split at h
    · rename_i q
      cases r1; cases r2
      refine .inl ⟨_, _, rfl, rfl, ?_, h.here hS (.int _)⟩
      rcases Bool.or_eq_true_iff.mp q with q | q
      · exact .inl (smallI_ok q)
      · exact .inr (smallI_ok q)
    · exact h.elim
  · split at h
    · split at h
      · rename_i e1 hz
        cases r1; cases r2
        obtain ⟨v1, h1, t1⟩ := lst_of hS e1
        simp only [Bool.and_eq_true, decide_eq_true_eq] at hz
        rw [t1.length] at hz
        refine .inr ⟨_, _, _, rfl, rfl, h1, by omega, by omega, lim_sz hz.2, ?_⟩
        exact mk_lst hS (t1.rep _) h
      · exact h.elim
    · exact h.elim
  · exact h.elim
end
def scalP : PV → PV → Option Bool
  | .int i, .int j => some (decide (i = j))
  | .str x, .str y => some (decide (x = y))
  | .bl x, .bl y => some (x == y)
  | .non, .non => some true
  | .non, .int _ => some false
  | .int _, .non => some false
  | .non, .bl _ => some false
  | .bl _, .non => some false
  | .non, .str _ => some false
  | .str _, .non => some false
  | .int _, .str _ => some false
  | .str _, .int _ => some false
  | .bl _, .str _ => some false
  | .str _, .bl _ => some false
  | _, _ => none
def optAll {α β : Type} (f : α → Option β) : List α → Option (List β)
  | [] => some []
  | x :: r => match f x, optAll f r with
    | some d, some ds => some (d :: ds)
    | _, _ => none
def datP (S : Sto) : Nat → PV → Option PyData
  | 0, _ => none
  | f + 1, w => match w with
    | .non => some .none
    | .bl b => some (.bool b)
    | .int i => some (.int i)
    | .str l => if PyData.strOk (toS l) = true then some (.str (toS l)) else none
    | .tup xs => (optAll (datP S f) xs).map .tuple
    | .loc n => (match seqAt S n with
      | some xs => (optAll (datP S f) xs).map .list
      | none => (match ptpA S n with
        | some xs => (optAll (datP S f) xs).map .tuple
        | none => none))
    | _ => none
theorem optAll_some {α β : Type} {f : α → Option β} : ∀ {xs : List α} {ds : List β}, optAll f xs = some ds → ∀ d ∈ ds, ∃ x ∈ xs, f x = some d
  | [], ds, h => by cases h; intro d hd; cases hd
  | x :: r, ds, h => by
    unfold optAll at h
    split at h
    · rename_i d ds' e1 e2
      cases h
      intro d' hd
      rcases List.mem_cons.mp hd with rfl | hd
      · exact ⟨x, List.mem_cons_self, e1⟩
      · obtain ⟨y, hy, q⟩ := optAll_some e2 d' hd
        exact ⟨y, List.mem_cons_of_mem _ hy, q⟩
    · cases h
theorem canAll : ∀ {ds : List PyData}, (∀ d ∈ ds, d.canLay0 = true) → PyData.canLayAll0 ds = true
  | [], _ => by simp [PyData.canLayAll0]
  | d :: r, h => by
    simp only [PyData.canLayAll0, Bool.and_eq_true]
    exact ⟨h d List.mem_cons_self, canAll fun x hx => h x (List.mem_cons_of_mem _ hx)⟩
theorem depAll {n : Nat} : ∀ {ds : List PyData}, (∀ d ∈ ds, d.depth ≤ n) → PyData.depthAll ds ≤ n
  | [], _ => by simp [PyData.depthAll]
  | d :: r, h => by
    simp only [PyData.depthAll]
    exact Nat.max_le.mpr ⟨h d List.mem_cons_self, depAll fun x hx => h x (List.mem_cons_of_mem _ hx)⟩
theorem datP_ok {S : Sto} : ∀ {f : Nat} {w : PV} {d : PyData}, datP S f w = some d → d.canLay0 = true ∧ d.depth ≤ f
  | 0, _, _, h => by cases h
  | f + 1, w, d, h => by
    cases w with
    | non => cases h; simp [PyData.canLay0, PyData.depth]
    | bl b => cases h; simp [PyData.canLay0, PyData.depth]
    | int i => cases h; simp [PyData.canLay0, PyData.depth]
    | str l =>
      simp only [datP] at h
      split at h
      · rename_i q; cases h; simp [PyData.canLay0, PyData.depth, q]
      · cases h
    | tup xs =>
      simp only [datP] at h
      cases e : optAll (datP S f) xs with
      | none => rw [e] at h; cases h
      | some ds =>
        rw [e] at h; cases h
        have q : ∀ d ∈ ds, d.canLay0 = true ∧ d.depth ≤ f := fun d hd => by
          obtain ⟨x, _, q⟩ := optAll_some e d hd
          exact datP_ok q
        simp only [PyData.canLay0, PyData.depth]
        exact ⟨canAll fun d hd => (q d hd).1, Nat.succ_le_succ (depAll fun d hd => (q d hd).2)⟩
    | loc n =>
      simp only [datP] at h
      split at h
      · rename_i xs _
        cases e : optAll (datP S f) xs with
        | none => rw [e] at h; cases h
        | some ds =>
          rw [e] at h; cases h
          have q : ∀ d ∈ ds, d.canLay0 = true ∧ d.depth ≤ f := fun d hd => by
            obtain ⟨x, _, q⟩ := optAll_some e d hd
            exact datP_ok q
          simp only [PyData.canLay0, PyData.depth]
          exact ⟨canAll fun d hd => (q d hd).1, Nat.succ_le_succ (depAll fun d hd => (q d hd).2)⟩
      · split at h
        · rename_i xs _
          cases e : optAll (datP S f) xs with
          | none => rw [e] at h; cases h
          | some ds =>
            rw [e] at h; cases h
            have q : ∀ d ∈ ds, d.canLay0 = true ∧ d.depth ≤ f := fun d hd => by
              obtain ⟨x, _, q⟩ := optAll_some e d hd
              exact datP_ok q
            simp only [PyData.canLay0, PyData.depth]
            exact ⟨canAll fun d hd => (q d hd).1, Nat.succ_le_succ (depAll fun d hd => (q d hd).2)⟩
        · cases h
    | gl x => cases h
    | ty b => cases h
    | xn a b c d e => cases h
section
variable {K : PySem.W.Frag} {ρ : Nat → Addr} {H : Hp} {S : Sto}
theorem datP_all {f : Nat} (ih : ∀ {w : PV} {v : V} {d : PyData}, RW K ρ S.length H w v → datP S f w = some d → Dp K H v d) :
    ∀ {xs : List PV} {vs : List V} {ds : List PyData}, RWs K ρ S.length H xs vs → optAll (datP S f) xs = some ds → DpAll K H vs ds
  | [], _, _, r, h => by cases r; cases h; exact .nil
  | x :: xs, _, _, r, h => by
    cases r with
    | cons r rs =>
      unfold optAll at h
      split at h
      · rename_i d ds e1 e2
        cases h
        exact .cons (ih r e1) (datP_all ih rs e2)
      · cases h
theorem datP_dp (hS : RSt pw K ρ H S) : ∀ {f : Nat} {w : PV} {v : V} {d : PyData}, RW K ρ S.length H w v → datP S f w = some d → Dp K H v d
  | 0, _, _, _, _, h => by cases h
  | f + 1, w, v, d, r, h => by
    cases r with
    | non => cases h; exact .non
    | bl b => cases h; exact .bl b
    | int i => cases h; exact .int i
    | str x =>
      simp only [datP, toS_cps] at h
      split at h
      · cases h; exact .str x
      · cases h
    | tup s t =>
      simp only [datP] at h
      cases e : optAll (datP S f) _ with
      | none => rw [e] at h; cases h
      | some ds => rw [e] at h; cases h; exact .tup s (datP_all (datP_dp hS) t e)
    | loc n hn =>
      simp only [datP] at h
      split at h
      · rename_i xs e0
        obtain ⟨vs, s, t⟩ := seq_of hS e0
        cases e : optAll (datP S f) _ with
        | none => rw [e] at h; cases h
        | some ds => rw [e] at h; cases h; exact .lst s (datP_all (datP_dp hS) t e)
      · split at h
        · rename_i xs e0
          obtain ⟨vs, s, t⟩ := ptpA_of hS e0
          cases e : optAll (datP S f) _ with
          | none => rw [e] at h; cases h
          | some ds => rw [e] at h; cases h; exact .tup s.sq (datP_all (datP_dp hS) t e)
        · cases h
    | gl x => cases h
    | ty n => cases h
    | xn _ _ _ => cases h
end
def eqM (neg : Bool) : PV → PV → Sto → Out PV := fun a b S => match scalP a b with
  | some k => .ok (.bl (if neg = true then !k else k)) S
  | none => match datP S 60 a, datP S 60 b with
    | some d, some e => .ok (.bl (if neg = true then !PyData.eqv d e else PyData.eqv d e)) S
    | _, _ => .bad
def gEq := eqM false
def gNe := eqM true
def rEqM (K : PySem.W.Frag) : R2 := fun x y H Q => rEq x y H Q ∨ rEqD K x y H Q
def rNeM (K : PySem.W.Frag) : R2 := fun x y H Q => rNe x y H Q ∨ rNeD K x y H Q
theorem shaped_of {S : Sto} {w : PV} {d : PyData} (h : datP S 60 w = some d) : SeqAt.shaped d = true := by
  obtain ⟨a, b⟩ := datP_ok h
  unfold SeqAt.shaped
  rw [a, Bool.true_and]
  exact decide_eq_true (Nat.le_trans b (by decide))
theorem cps_iff {x y : Str} : x.cps = y.cps ↔ x = y := by
  cases x; cases y; simp
theorem cps_iff' {x y : Str} : x = y ↔ x.cps = y.cps := cps_iff.symm
theorem scal_of {K : PySem.W.Frag} {ρ : Nat → Addr} {N : Nat} {H : Hp} {a b : PV} {x y : V} {k : Bool} (ra : RW K ρ N H a x) (rb : RW K ρ N H b y) (h : scalP a b = some k) : scal x y = true ∧ k = decide (x = y) := by
  cases ra <;> cases rb <;> first
    | (simp [scalP] at h; done)
    | (simp only [scalP, Option.some.injEq] at h; subst h; refine ⟨rfl, ?_⟩; first | rfl | (simp [cps_iff]; done) | (rename_i b1 b2; cases b1 <;> cases b2 <;> rfl))
section
variable {X : Cx} {Wx : WX}
theorem or_eqM (hu : X.A.units + 64 < cLine) : OpR X (compareOp .Eq) (rEqM X.K) := op_eq.or (op_eqD hu)
theorem or_neM (hu : X.A.units + 64 < cLine) : OpR X (compareOp .NotEq) (rNeM X.K) := op_ne.or (op_neD hu)
theorem oi_eq : OpI X Wx (rEqM X.K) gEq := by
  intro ρ S H w1 w2 x y Ex Q hS r1 r2 h
  unfold gEq eqM at h
  split at h
  · rename_i k e
    obtain ⟨a, b⟩ := scal_of r1 r2 e
    subst b
    exact .inl ⟨a, h.here hS (.bl _)⟩
  · split at h
    · rename_i d1 d2 e1 e2
      exact .inr ⟨_, _, datP_dp hS r1 e1, datP_dp hS r2 e2, shaped_of e1, shaped_of e2, h.here hS (.bl _)⟩
    · exact h.elim
theorem oi_ne : OpI X Wx (rNeM X.K) gNe := by
  intro ρ S H w1 w2 x y Ex Q hS r1 r2 h
  unfold gNe eqM at h
  split at h
  · rename_i k e
    obtain ⟨a, b⟩ := scal_of r1 r2 e
    subst b
    exact .inl ⟨a, h.here hS (.bl _)⟩
  · split at h
    · rename_i d1 d2 e1 e2
      exact .inr ⟨_, _, datP_dp hS r1 e1, datP_dp hS r2 e2, shaped_of e1, shaped_of e2, h.here hS (.bl _)⟩
    · exact h.elim
end
def flatP : PV → Bool
  | .non => true
  | .bl _ => true
  | .int _ => true
  | .str _ => true
  | _ => false
def eqF : PV → PV → Bool
  | .non, .non => true
  | .bl a, .bl b => a == b
  | .bl a, .int b => (if a then 1 else 0) == b
  | .int a, .bl b => a == (if b then 1 else 0)
  | .int a, .int b => a == b
  | .str a, .str b => decide (a = b)
  | _, _ => false
def inP (x : PV) (xs : List PV) : Bool := xs.any fun y => eqF y x
section
variable {K : PySem.W.Frag} {ρ : Nat → Addr} {N : Nat} {H : Hp}
theorem flat_of {w : PV} {v : V} (r : RW K ρ N H w v) : flatV v = flatP w := by cases r <;> rfl
theorem flats_of : ∀ {ws : List PV} {vs : List V}, RWs K ρ N H ws vs → vs.all flatV = ws.all flatP
  | _, _, .nil => rfl
  | _, _, .cons r t => by rw [List.all_cons, List.all_cons, flat_of r, flats_of t]
theorem eqF_of {a b : PV} {x y : V} (r : RW K ρ N H a x) (q : RW K ρ N H b y) : eqV x y = eqF a b := by
  cases r <;> cases q <;> first | rfl | skip
  rename_i s t
  show (s == t) = decide (s.cps.toList = t.cps.toList)
  rw [Bool.eq_iff_iff]
  simp [cps_iff']
theorem inP_of {x : PV} {v : V} (r : RW K ρ N H x v) : ∀ {ws : List PV} {vs : List V}, RWs K ρ N H ws vs → inV v vs = inP x ws
  | _, _, .nil => rfl
  | _, _, .cons q t => by
    have := inP_of r t
    unfold inV inP at this ⊢
    rw [List.any_cons, List.any_cons, eqF_of q r, this]
end
def inM (neg : Bool) : PV → PV → Sto → Out PV := fun a b S => match b with
  | .tup xs => if flatP a && xs.all flatP then .ok (.bl (if neg then !inP a xs else inP a xs)) S else .bad
  | .loc n => (match seqAt S n with
    | some xs => if flatP a && xs.all flatP then .ok (.bl (if neg then !inP a xs else inP a xs)) S else .bad
    | none => .bad)
  | _ => .bad
section
variable {X : Cx} {Wx : WX}
theorem oi_inS {neg : Bool} : OpI X Wx (rIn X.K neg) (inM neg) := by
  intro ρ S H w1 w2 x y Ex Q hS r1 r2 h
  unfold inM at h
  split at h
  · split at h
    · rename_i q
      rw [Bool.and_eq_true] at q
      cases r2 with
      | tup s t =>
        refine ⟨_, _, rfl, .inr s, by rw [flat_of r1]; exact q.1, by rw [flats_of t]; exact q.2, ?_⟩
        rw [inP_of r1 t]
        exact h.here hS (.bl _)
    · exact h.elim
  · split at h
    · split at h
      · rename_i e q
        rw [Bool.and_eq_true] at q
        cases r2
        obtain ⟨vs, s, t⟩ := seq_of hS e
        refine ⟨_, _, rfl, .inl s, by rw [flat_of r1]; exact q.1, by rw [flats_of t]; exact q.2, ?_⟩
        rw [inP_of r1 t]
        exact h.here hS (.bl _)
      · exact h.elim
    · exact h.elim
  · exact h.elim
def isNonP : PV → Bool
  | .non => true
  | _ => false
def isM (neg : Bool) : PV → PV → Sto → Out PV := fun a b S => match b with
  | .non => .ok (.bl (if neg then !isNonP a else isNonP a)) S
  | .bl k => (match a with
    | .bl j => .ok (.bl (if neg then !decide (j = k) else decide (j = k))) S
    | _ => .bad)
  | _ => .bad
def rIsM : R2 := fun x y H Q => (y = .non ∧ Q (.bl (decide (x = .non))) H) ∨ ∃ a b, x = .bl a ∧ y = .bl b ∧ Q (.bl (decide (a = b))) H
theorem or_isM : OpR X (compareOp .Is) rIsM := op_isN.or op_is_bl
theorem non_of {K : PySem.W.Frag} {ρ : Nat → Addr} {N : Nat} {H : Hp} {w : PV} {v : V} (r : RW K ρ N H w v) : decide (v = .non) = isNonP w := by cases r <;> simp [isNonP]
theorem oi_is : OpI X Wx rIsM (isM false) := by
  intro ρ S H w1 w2 x y Ex Q hS r1 r2 h
  unfold isM at h
  split at h
  · cases r2
    refine .inl ⟨rfl, ?_⟩
    rw [non_of r1]
    exact h.here hS (.bl _)
  · split at h
    · cases r1; cases r2
      exact .inr ⟨_, _, rfl, rfl, h.here hS (.bl _)⟩
    · exact h.elim
  · exact h.elim
end
end GL
set_option Elab.async false
set_option linter.all false
set_option maxRecDepth 100000
set_option maxHeartbeats 1000000
namespace GL
open PySem PySem.Spec PyProof.Rows L2
variable {pw : PgW}
abbrev MG := PV → Ls → Option Ls
abbrev MGs := List PV → Ls → Option Ls
def gN (i : Nat) : MG := fun w ls => some (ls.set i (some w))
def gsNil : MGs := fun ws ls => match ws with
  | [] => some ls
  | _ => none
def gsCons (g : MG) (r : MGs) : MGs := fun ws ls => match ws with
  | w :: t => (match g w ls with
    | some ls1 => r t ls1
    | none => none)
  | [] => none
def gT (r : MGs) : MG := fun w ls => match w with
  | .tup xs => r xs ls
  | _ => none
def Off (sl : List Nat) (σ σ' : L2.St) : Prop := σ'.length = σ.length ∧ ∀ j, j ∉ sl → σ'[j]? = σ[j]?
theorem Off.trans {s1 s2 : List Nat} {a b c : L2.St} (h : Off s1 a b) (h' : Off s2 b c) : Off (s1 ++ s2) a c :=
  ⟨h'.1.trans h.1, fun j hj => by
    rw [List.mem_append, not_or] at hj
    exact (h'.2 j hj.2).trans (h.2 j hj.1)⟩
theorem wipe_get {σ : L2.St} {j : Nat} : ∀ {vs : List Nat}, (L2.wipe σ vs)[j]? = if j ∈ vs ∧ j < σ.length then some none else σ[j]?
  | [] => by simp [L2.wipe]
  | v :: vs => by
    have hl := L2.wipe_length σ vs
    show ((L2.wipe σ vs).set v none)[j]? = _
    by_cases hv : v = j
    · subst hv
      by_cases hj : v < σ.length
      · rw [List.getElem?_set_self (by rw [hl]; exact hj), if_pos ⟨List.mem_cons_self, hj⟩]
      · rw [List.getElem?_eq_none (by rw [List.length_set, hl]; omega), if_neg (fun h => hj h.2), List.getElem?_eq_none (by omega)]
    · rw [List.getElem?_set_ne hv, wipe_get (vs := vs)]
      have : (j ∈ v :: vs) = (j ∈ vs) := by
        apply propext
        rw [List.mem_cons]
        exact ⟨fun h => h.elim (fun e => absurd e.symm hv) id, .inr⟩
      simp only [this]
theorem Off.wipe {sl vs : List Nat} {σ σ' : L2.St} (h : Off sl (L2.wipe σ vs) σ') (hs : ∀ j ∈ sl, j ∈ vs) : L2.wipe σ' vs = L2.wipe σ vs := by
  have hl := L2.wipe_length σ vs
  apply List.ext_getElem?
  intro j
  rw [wipe_get, wipe_get, h.1, hl]
  split
  · rfl
  · rename_i q
    by_cases hj : j ∈ vs
    · have : ¬ j < σ.length := fun z => q ⟨hj, z⟩
      rw [List.getElem?_eq_none (by rw [h.1, hl]; omega), List.getElem?_eq_none (by omega)]
    · rw [h.2 j (fun z => hj (hs j z)), wipe_get, if_neg (fun z => hj z.1)]
section
variable {X : Cx} {pos : Pos}
def tGm (pw : PgW) (K : PySem.W.Frag) (g : MG) (sl : List Nat) : TG := fun v σ H Q => ∃ ρ S ls w ls', RSt pw K ρ H S ∧ RL K ρ S.length H ls σ ∧ RW K ρ S.length H w v ∧ g w ls = some ls' ∧
  ∀ σ', Off sl σ σ' → RL K ρ S.length H ls' σ' → Q σ' H
def tGms (pw : PgW) (K : PySem.W.Frag) (g : MGs) (sl : List Nat) : TGs := fun vs σ H Q => ∃ ρ S ls ws ls', RSt pw K ρ H S ∧ RL K ρ S.length H ls σ ∧ RWs K ρ S.length H ws vs ∧ g ws ls = some ls' ∧
  ∀ σ', Off sl σ σ' → RL K ρ S.length H ls' σ' → Q σ' H
abbrev IG (X : Cx) (e : Expr) (g : MG) (sl : List Nat) : Prop := PG X e (tGm (pwX X) X.K g sl)
def IGs (X : Cx) (es : List Expr) (g : MGs) (n : Nat) (sl : List Nat) : Prop := PGs X es (tGms (pwX X) X.K g sl) ∧ ∀ ws ls ls', g ws ls = some ls' → ws.length = n
theorem PGi {e : Expr} {t t' : TG} (h : PG X e t) (i : ∀ v σ H Q, t' v σ H Q → t v σ H Q) : PG X e t' := ⟨fun pins s σ H v u Q I r hw => h.run pins s σ H v u Q I r (i _ _ _ _ hw)⟩
theorem PGsi {e : List Expr} {t t' : TGs} (h : PGs X e t) (i : ∀ v σ H Q, t' v σ H Q → t v σ H Q) : PGs X e t' := ⟨fun pins s σ H v u Q I r hw => h.run pins s σ H v u Q I r (i _ _ _ _ hw)⟩
theorem off_set {σ : L2.St} {i : Nat} {o : Option V} : Off [i] σ (σ.set i o) := ⟨List.length_set, fun j hj => List.getElem?_set_ne (fun e => hj (List.mem_singleton.mpr e.symm))⟩
theorem ig_name {x : Str} (i : Nat) (hN : X.N.Nodup) (hi : X.N[i]? = some x := by rfl) (hx : Loc X.env.scope x := by first | exact Or.inl rfl | exact Or.inr rfl) (hf : X.fn x = true ∨ X.env.scope.names.lookup x = some .local := by first | exact .inl rfl | exact .inr rfl) :
    IG X (.Name x pos) (gN i) [i] := PGi (pg_name (i := i) hN hi hx hf) fun v σ H Q ⟨ρ, S, ls, w, ls', hS, hL, r, e, h⟩ => by
  cases e
  exact h _ off_set (RL.set r i hL)
theorem igs_nil : IGs X [] gsNil 0 [] := by
  refine ⟨PGsi pgs_nil fun vs σ H Q ⟨ρ, S, ls, ws, ls', hS, hL, r, e, h⟩ => ?_, fun ws ls ls' e => ?_⟩
  · unfold gsNil at e
    split at e
    · cases e; cases r; exact ⟨rfl, h σ ⟨rfl, fun _ _ => rfl⟩ hL⟩
    · cases e
  · unfold gsNil at e
    split at e
    · rfl
    · cases e
theorem igs_cons {e : Expr} {es : List Expr} {g : MG} {gs : MGs} {n : Nat} {s1 s2 : List Nat} (h1 : IG X e g s1) (h2 : IGs X es gs n s2) (hs : (assignEach (e :: es) X.env).map (·.2) = assign e X.env :: (assignEach es X.env).map (·.2) := by rfl) : IGs X (e :: es) (gsCons g gs) (n + 1) (s1 ++ s2) := by
  refine ⟨PGsi (pgs_cons h1 h2.1 hs) fun vs σ H Q ⟨ρ, S, ls, ws, ls', hS, hL, r, e, h⟩ => ?_, fun ws ls ls' e => ?_⟩
  · cases r with
    | nil => cases e
    | cons r rs =>
      unfold gsCons at e
      dsimp only at e
      split at e
      · rename_i ls1 e1
        exact ⟨_, _, rfl, ρ, S, ls, _, ls1, hS, hL, r, e1, fun σ1 o1 l1 => ⟨ρ, S, ls1, _, ls', hS, l1, rs, e, fun σ2 o2 l2 => h σ2 (o1.trans o2) l2⟩⟩
      · cases e
  · cases ws with
    | nil => cases e
    | cons w t =>
      unfold gsCons at e
      dsimp only at e
      split at e
      · rename_i ls1 e1
        rw [List.length_cons, h2.2 _ _ _ e]
      · cases e
theorem ig_tup {es : List Expr} {k : Nat} {gs : MGs} {n : Nat} {sl : List Nat} (hc : X.calm = true) (h : IGs X es gs n sl) (hn : (assignEach es X.env).length = n := by rfl) (hst : (assignEach es X.env).findIdx? (·.1) = none := by rfl) :
    IG X (.Tuple es k pos) (gT gs) sl := PGi (pg_tup hc h.1 hn hst) fun v σ H Q ⟨ρ, S, ls, w, ls', hS, hL, r, e, q⟩ => by
  unfold gT at e
  split at e
  · cases r with
    | tup s t => exact ⟨_, _, rfl, s, by rw [← t.length]; exact h.2 _ _ _ e, ρ, S, ls, _, ls', hS, hL, t, e, q⟩
  · cases e
end
structure Wk where
  items : List PV
  chk : Nat → Sto → Bool
def RIt (pw : PgW) (K : PySem.W.Frag) (ρ : Nat → Addr) (N : Nat) (H : Hp) (it : Wk) (J : It) : Prop :=
  ∀ ρ' S' H', Ext K ρ N H ρ' S'.length H' → RSt pw K ρ' H' S' →
    (∀ i x, it.items[i]? = some x → it.chk i S' = true → J.go i H' ∧ ∀ v H2, J.yld i H' v H2 → ∃ ρ2, Ext K ρ' S'.length H' ρ2 S'.length H2 ∧ RSt pw K ρ2 H2 S' ∧ RW K ρ2 S'.length H2 x v) ∧
    (it.chk it.items.length S' = true → J.stop it.items.length H')
abbrev MI := Ls → Sto → Out Wk
abbrev RItF {pw : PgW} : RelF Wk It := RIt pw
def tI (pw : PgW) (K : PySem.W.Frag) (Wx : WX) (m : MI) : TI := fun σ H R => ∃ ρ S ls, RSt pw K ρ H S ∧ RL K ρ S.length H ls σ ∧ Post pw (RItF (pw := pw)) K ρ S.length H (fun c d H' => Wx c d σ H') (m ls S) R
abbrev II (X : Cx) (Wx : WX) (tg e : Expr) (m : MI) : Prop := PI X tg e (tI (pwX X) X.K Wx m)
theorem PIi {X : Cx} {tg e : Expr} {t t' : TI} (h : PI X tg e t) (i : ∀ σ H R, t' σ H R → t σ H R) : PI X tg e t' := ⟨fun pins s σ H R I hw => h.run pins s σ H R I (i _ _ _ hw)⟩
def always : Nat → Sto → Bool := fun _ _ => true
def isLst (n : Nat) (xs : List PV) : Nat → Sto → Bool := fun _ S => match S[n]? with
  | some (.lst ys) => PV.beqs ys xs
  | _ => false
theorem isLst_get {n : Nat} {xs : List PV} {S : Sto} {i : Nat} (h : isLst n xs i S = true) : S[n]? = some (.lst xs) := by
  unfold isLst at h
  split at h
  · rename_i e; rw [e, PV.eqs_of_beqs h]
  · cases h
section
variable {K : PySem.W.Frag} {ρ : Nat → Addr} {N : Nat} {H : Hp}
theorem rit_tup {xs : List PV} {a : Addr} {vs : List V} (s : SqT K H a vs) (t : RWs K ρ N H xs vs) : RIt pw K ρ N H ⟨xs, always⟩ (Itt K a) := by
  intro ρ' S' H' e hS
  have s' := e.2.2.1 _ _ s
  have t' := t.ext e
  have w := walk_tup (K := K) (a := a) (xs := vs)
  have hl := t.length
  refine ⟨fun i x hx _ => ?_, fun _ => ?_⟩
  · obtain ⟨v, hv, r⟩ := t'.get hx
    have hi := (List.getElem?_eq_some_iff.mp hv).1
    refine ⟨w.goes i H' hi s', fun v' H2 y => ?_⟩
    obtain ⟨e1, e2⟩ := w.yields i H' v' H2 hi s' y
    subst e1
    rw [hv] at e2; cases e2
    exact ⟨ρ', .refl, hS, r⟩
  · show (Itt K a).stop xs.length H'
    rw [hl]; exact w.stops H' s'
theorem rit_rol {xs : List PV} {a : Addr} {vs : List V} (stay : ∀ ρ' S' H', Ext K ρ N H ρ' S'.length H' → RSt pw K ρ' H' S' → SqL K H' a vs) (t : RWs K ρ N H xs vs) : RIt pw K ρ N H ⟨xs, always⟩ (Itl K a) := by
  intro ρ' S' H' e hS
  have s' := stay ρ' S' H' e hS
  have t' := t.ext e
  have w := walk_list (K := K) (a := a) (xs := vs)
  have hl := t.length
  refine ⟨fun i x hx _ => ?_, fun _ => ?_⟩
  · obtain ⟨v, hv, r⟩ := t'.get hx
    have hi := (List.getElem?_eq_some_iff.mp hv).1
    refine ⟨w.goes i H' hi s', fun v' H2 y => ?_⟩
    obtain ⟨e1, e2⟩ := w.yields i H' v' H2 hi s' y
    subst e1
    rw [hv] at e2; cases e2
    exact ⟨ρ', .refl, hS, r⟩
  · show (Itl K a).stop xs.length H'
    rw [hl]; exact w.stops H' s'
theorem rit_lst {xs : List PV} {n : Nat} (hn : n < N) : RIt pw K ρ N H ⟨xs, isLst n xs⟩ (Itl K (ρ n)) := by
  intro ρ' S' H' e hS
  have en : ρ' n = ρ n := e.2.1 n hn
  refine ⟨fun i x hx hc => ?_, fun hc => ?_⟩
  · obtain ⟨vs, hv, t⟩ := hS.at_ _ _ (isLst_get (i := 0) hc)
    rw [en] at hv
    have w := walk_list (K := K) (a := ρ n) (xs := vs)
    obtain ⟨v, hv2, r⟩ := t.get hx
    have hi := (List.getElem?_eq_some_iff.mp hv2).1
    refine ⟨w.goes i H' hi (SqL.of hv), fun v' H2 y => ?_⟩
    obtain ⟨e1, e2⟩ := w.yields i H' v' H2 hi (SqL.of hv) y
    subst e1
    rw [hv2] at e2; cases e2
    exact ⟨ρ', .refl, hS, r⟩
  · obtain ⟨vs, hv, t⟩ := hS.at_ _ _ (isLst_get (i := 0) hc)
    rw [en] at hv
    have w := walk_list (K := K) (a := ρ n) (xs := vs)
    show (Itl K (ρ n)).stop xs.length H'
    rw [t.length]; exact w.stops H' (SqL.of hv)
theorem rit_rng {lo : Int} {n : Nat} : RIt pw K ρ N H ⟨(List.range n).map fun i => .int (lo + (i : Nat)), always⟩ (L2.Itr lo n) := by
  intro ρ' S' H' e hS
  have w := walk_range (lo := lo) (n := n)
  refine ⟨fun i x hx _ => ?_, fun _ => ?_⟩
  · rw [List.getElem?_map] at hx
    by_cases hi : i < n
    · rw [List.getElem?_range hi] at hx
      cases hx
      refine ⟨w.goes i H' hi trivial, fun v' H2 y => ?_⟩
      obtain ⟨e1, e2⟩ := w.yields i H' v' H2 hi trivial y
      subst e1; subst e2
      exact ⟨ρ', .refl, hS, .int _⟩
    · rw [List.getElem?_eq_none (by simpa using hi)] at hx; cases hx
  · have : ((List.range n).map fun (i : Nat) => PV.int (lo + (i : Nat))).length = n := by simp
    show (L2.Itr lo n).stop _ H'
    rw [this]; exact w.stops H' trivial
end
section
variable {X : Cx} {Wx : WX} {tg e : Expr} {m : ME} {mr : MA} {p pos : Pos}
def iSeq (m : ME) : MI := fun ls S => (m ls S).bind fun w S1 => match w with
  | .tup xs => .ok ⟨xs, always⟩ S1
  | .loc n => (match S1[n]? with
    | some (.lst xs) => .ok ⟨xs, isLst n xs⟩ S1
    | some (.rol xs) => .ok ⟨xs, always⟩ S1
    | _ => .bad)
  | _ => .bad
def rIterM (K : PySem.W.Frag) (x : V) (H : Hp) (R : It → Hp → Prop) : Prop := ∃ a, x = .ref a ∧ (((∃ xs, SqL K H a xs) ∧ R (Itl K a) H) ∨ ((∃ xs, SqT K H a xs) ∧ R (Itt K a) H))
theorem pi_seq {te : TE} (he : PE X e te) : PI X tg e (fun σ H R => te σ H fun x H1 => rIterM X.K x H1 R) := by
  constructor
  intro pins s σ H R I h
  apply thn (he.run pins s σ H _ I h)
  rintro v s1 ⟨x, H1, I1, r1, a, rfl, q⟩
  cases r1
  have fp : ∀ b ∈ [s1.heap.objs.size], FpOk X pins H1 b := by
    intro b hb
    have hb : b = s1.heap.objs.size := List.mem_singleton.mp hb
    rw [hb]
    exact I1.fpOk (Nat.le_refl _) I1.fresh
  rcases q with ⟨⟨xs, hq⟩, q⟩ | ⟨⟨xs, hq⟩, q⟩
  · obtain ⟨its, _, pl, _⟩ := I1.list hq
    apply wpAny_pyIter_list pl.isList
    exact ⟨_, [_], _, _, H1, rfl, I1.kept (t' := s1.toks) (fun _ _ z => Heap.get?_push_of_some _ z), turn_list a _, ⟨_, Heap.get?_push_size _ rfl, rfl, rfl⟩, fp, q⟩
  · obtain ⟨its, _, pl, _⟩ := I1.tuple hq
    apply wpAny_pyIter_tuple (items := its.toArray) pl
    exact ⟨_, [_], _, _, H1, rfl, I1.kept (t' := s1.toks) (fun _ _ z => Heap.get?_push_of_some _ z), turn_tuple a _, ⟨_, Heap.get?_push_size _ rfl, rfl, rfl⟩, fp, q⟩
theorem ii_seq (he : IE X Wx e m) : II X Wx tg e (iSeq m) := PIi (pi_seq he) fun σ H R ⟨ρ, S, ls, hS, hL, h⟩ => ⟨ρ, S, ls, hS, hL, (Post.bind (R := RW) h).imp fun x H1 ⟨ρ1, S1, w1, e1, hS1, r1, h1⟩ => by
    split at h1
    · cases r1 with
      | tup s t => exact ⟨_, rfl, .inr ⟨⟨_, s⟩, h1 ρ1 H1 _ .refl hS1 (rit_tup s t)⟩⟩
    · cases r1 with
      | loc n hn =>
        split at h1
        · rename_i xs e2
          obtain ⟨vs, a, b⟩ := hS1.at_ _ _ e2
          exact ⟨_, rfl, .inl ⟨⟨_, SqL.of a⟩, h1 ρ1 H1 _ .refl hS1 (rit_lst hn)⟩⟩
        · rename_i xs e2
          obtain ⟨vs, a, b⟩ := hS1.at_ _ _ e2
          refine ⟨_, rfl, .inl ⟨⟨_, a.sq⟩, h1 ρ1 H1 _ .refl hS1 (rit_rol (fun ρ' S' H' e hS' => (e.2.2.2.1 _ _ a).sq) b)⟩⟩
        · exact h1.elim
    · exact h1.elim⟩
def rngL (lo hi : Int) : List PV := (List.range (hi - lo).toNat).map fun (i : Nat) => .int (lo + (i : Nat))
def med : Int := 4611686018427387904
theorem med_ok {i : Int} (h : (decide (-med ≤ i) && decide (i < med)) = true) : -(2 ^ 62) ≤ i ∧ i < 2 ^ 62 := by
  rw [Bool.and_eq_true] at h
  have h : -4611686018427387904 ≤ i ∧ i < 4611686018427387904 := ⟨of_decide_eq_true h.1, of_decide_eq_true h.2⟩
  have e : (2 : Int) ^ 62 = 4611686018427387904 := by decide
  rw [e]; exact h
def iR1 (m : ME) : MI := fun ls S => (m ls S).bind fun w S1 => match w with
  | .int j => if (decide (-med ≤ j) && decide (j < med)) = true then .ok ⟨rngL 0 j, always⟩ S1 else .bad
  | _ => .bad
variable {e2 : Expr} {m2 : ME}
theorem ii_range1 (hm : X.mg "range" = none) (he : IE X Wx e m) (hg : Gl X "range" := by rfl) (hst : starEach [e] X.env = (false, eval e X.env) :: starEach [] X.env := by rfl) (hs : starEach [e] X.env = [(false, eval e X.env)] := by rfl) : II X Wx tg (.Call (.Name "range" p) [e] [] pos) (iR1 m) :=
  PIi (pi_range1 hg hm (pa_cons he pa_nil hst) hs) fun σ H R ⟨ρ, S, ls, hS, hL, h⟩ => ⟨ρ, S, ls, hS, hL, (Post.bind (R := RW) h).imp fun x H1 ⟨ρ1, S1, w1, e1, hS1, r1, h1⟩ => by
    split at h1
    · split at h1
      · rename_i q
        cases r1
        obtain ⟨a, b⟩ := med_ok q
        refine ⟨_, rfl, a, b, h1 ρ1 H1 _ .refl hS1 ?_⟩
        unfold rngL
        rw [Int.sub_zero]
        exact rit_rng
      · exact h1.elim
    · exact h1.elim⟩
end
def forGo (chk : Nat → Sto → Bool) (g : MG) (body : MS) : Nat → List PV → MS
  | i, [], ls, S => if chk i S = true then .nx ls S else .bad
  | i, x :: r, ls, S => if chk i S = true then (match g x ls with
    | none => .bad
    | some ls1 => (match body ls1 S with
      | .nx ls2 S2 => forGo chk g body (i + 1) r ls2 S2
      | .ct ls2 S2 => forGo chk g body (i + 1) r ls2 S2
      | .bk ls2 S2 => .nx ls2 S2
      | q => q)) else .bad
def sFor (it : MI) (g : MG) (body : MS) : MS := fun ls S => (it ls S).then ls fun t S1 => forGo t.chk g body 0 t.items ls S1
section
variable {X : Cx} {Wx : WX} {tg e : Expr} {mi : MI} {g : MG} {mb : MS} {pos : Pos} {body : List Stmt} {sl : List Nat}
theorem is_for (hp : PassesOwn (model X.prog X.w) X.A X.env X.xe) (hc : X.calm = true) (hi : II X Wx tg e mi) (hg : IG X tg g sl) (hb : ISs X Wx body mb) (hs : ∀ x, foldedSetIterable e X.env x = pure x := by intro _; rfl) :
    IS X Wx (.For tg e body [] pos) (sFor mi g mb) :=
  PSi (ps_for hp hc hi hg hb hs) fun D σ H ⟨ρ, S, ls, hS, hL, h⟩ => ⟨ρ, S, ls, hS, hL, (Post.then (R := RItF) hL h).imp fun J H1 ⟨ρ1, S1, t, e1, hS1, r1, h1⟩ => by
    have l1 := hL.ext e1
    clear h hS hL
    refine ⟨fun i m σ H => m = t.items.length - i ∧ i ≤ t.items.length ∧ ∃ ρ S ls, Ext X.K ρ1 S1.length H1 ρ S.length H ∧ RSt (pwX X) X.K ρ H S ∧ RL X.K ρ S.length H ls σ ∧ PostS (pwX X) X.K ρ S.length H Wx (forGo t.chk g mb i (t.items.drop i) ls S) D,
      ⟨_, rfl, Nat.zero_le _, ρ1, S1, ls, .refl, hS1, l1, by rw [List.drop_zero]; exact h1⟩, ?_⟩
    rintro i m σ2 H2 ⟨rfl, hi, ρ2, S2, ls2, e2, hS2, l2, h2⟩
    obtain ⟨w1, w2⟩ := r1 ρ2 S2 H2 e2 hS2
    by_cases hlt : i < t.items.length
    · rw [List.drop_eq_getElem_cons hlt] at h2
      unfold forGo at h2
      split at h2
      · rename_i hc
        obtain ⟨go, yl⟩ := w1 i _ (List.getElem?_eq_getElem hlt) hc
        refine .inr ⟨go, fun σ3 H3 => ∃ ρ S ls, Ext X.K ρ1 S1.length H1 ρ S.length H3 ∧ RSt (pwX X) X.K ρ H3 S ∧ RL X.K ρ S.length H3 ls σ3 ∧ PostS (pwX X) X.K ρ S.length H3 Wx (forGo t.chk g mb (i + 1) (t.items.drop (i + 1)) ls S) D,
          fun σ' H' q => ⟨_, by omega, rfl, hlt, q⟩, fun v H3 y => ?_⟩
        obtain ⟨ρ3, e3, hS3, r3⟩ := yl v H3 y
        split at h2
        · exact h2.elim
        · rename_i ls3 eg
          refine ⟨ρ3, S2, ls2, _, ls3, hS3, l2.ext e3, r3, eg, fun σ4 _ l4 => ⟨ρ3, S2, ls3, hS3, l4, ?_⟩⟩
          have h3 := PostS.ext e3 h2
          cases hm : mb ls3 S2 with
          | nx a S' => rw [hm] at h3; exact fun ρ4 H4 σ5 e4 s4 l5 => ⟨ρ4, S', a, (e2.trans e3).trans e4, s4, l5, PostS.ext e4 h3⟩
          | ct a S' => rw [hm] at h3; exact fun ρ4 H4 σ5 e4 s4 l5 => ⟨ρ4, S', a, (e2.trans e3).trans e4, s4, l5, PostS.ext e4 h3⟩
          | bk a S' => rw [hm] at h3; exact h3
          | rt a S' => rw [hm] at h3; exact h3
          | exc a b S' => rw [hm] at h3; exact h3
          | bad => rw [hm] at h3; exact h3
      · exact h2.elim
    · have ei : i = t.items.length := by omega
      subst ei
      rw [List.drop_length] at h2
      unfold forGo at h2
      split at h2
      · rename_i hc
        exact .inl ⟨w2 hc, h2 ρ2 H2 σ2 .refl hS2 l2⟩
      · exact h2.elim⟩
end
def lcGo (chk : Nat → Sto → Bool) (g : MG) (tt : MT) (te : ME) (vs : List Nat) (D : Nat) (ls : Ls) : Nat → List PV → Sto → Out PV
  | i, [], S => if chk i S = true then .ok (.loc D) S else .bad
  | i, x :: r, S => if chk i S = true then (match g x (wipeL ls vs) with
    | none => .bad
    | some ls1 => (match tt ls1 S with
      | .ok true S1 => (match te ls1 S1 with
        | .ok w S2 => (match lstAt S2 D with
          | some acc => if acc.length < lim then lcGo chk g tt te vs D ls (i + 1) r (S2.set D (.lst (acc ++ [w]))) else .bad
          | none => .bad)
        | _ => .bad)
      | .ok false S1 => lcGo chk g tt te vs D ls (i + 1) r S1
      | _ => .bad)) else .bad
def eLc (it : MI) (g : MG) (tt : MT) (te : ME) (vs : List Nat) : ME := fun ls S => (it ls S).bind fun t S1 => lcGo t.chk g tt te vs S1.length ls 0 t.items (S1 ++ [.lst []])
def tYesM : MT := fun _ S => .ok true S
abbrev ITs (X : Cx) (ifs : List Expr) (m : MT) : Prop := PTs X ifs (tT (pwX X) X.K (fun _ _ _ _ => False) m)
theorem its_nil {X : Cx} : ITs X [] tYesM := ⟨fun pins s σ H Q I ⟨ρ, S, ls, hS, hL, h⟩ => pts_nil.run pins s σ H Q I (h ρ H true .refl hS rfl)⟩
theorem its_one {X : Cx} {c : Expr} {m : MT} (h : IT X (fun _ _ _ _ => False) c m) : ITs X [c] m := pts_one h
section
variable {X : Cx} {Wx : WX} {elt tg iter : Expr} {ifs : List Expr} {scope : Scope} {own : List (Str × Nat)} {pos : Pos} {mi : MI} {g : MG} {mt : MT} {me : ME} {sl : List Nat}
theorem lc_in {σ : L2.St} {H : Hp} {Q : VK} (hsl : ∀ j ∈ sl, j ∈ own.map (·.2)) (h : tE (pwX X) X.K Wx (eLc mi g mt me (own.map (·.2))) σ H Q) :
    tLc (tI (pwX X) X.K Wx mi) (tGm (pwX X) X.K g sl) (tT (pwX X) X.K (fun _ _ _ _ => False) mt) (tE (pwX X) X.K (fun _ _ _ _ => False) me) (own.map (·.2)) σ H Q := by
  obtain ⟨ρ, S, ls, hS, hL, h⟩ := h
  refine ⟨ρ, S, ls, hS, hL, (Post.bind (R := RItF) h).imp ?_⟩
  rintro J H1 ⟨ρ1, S1, t, e1, hS1, r1, h1⟩ D hD
  have l1 := hL.ext e1
  clear h hS hL
  have eD : Ext X.K ρ1 S1.length H1 (grow ρ1 S1.length D) (S1 ++ [OB.lst []]).length (upd H1 D (.lst [])) := by
    rw [List.length_append, List.length_singleton]; exact ext_new hD
  have hS2 : RSt (pwX X) X.K (grow ρ1 S1.length D) (upd H1 D (.lst [])) (S1 ++ [OB.lst []]) := hS1.new hD rfl ⟨[], upd_same, .nil⟩
  refine ⟨fun i m H => m = t.items.length - i ∧ i ≤ t.items.length ∧ ∃ ρ S, Ext X.K (grow ρ1 S1.length D) (S1 ++ [OB.lst []]).length (upd H1 D (.lst [])) ρ S.length H ∧ RSt (pwX X) X.K ρ H S ∧
    Post (pwX X) RW X.K ρ S.length H (fun c d H' => Wx c d σ H') (lcGo t.chk g mt me (own.map (·.2)) S1.length ls i (t.items.drop i) S) Q,
    ⟨_, rfl, Nat.zero_le _, _, _, .refl, hS2, by rw [List.drop_zero]; exact Post.ext eD h1⟩, ?_⟩
  rintro i m H2 ⟨rfl, hi, ρ2, S2, e2, hS2', h2⟩
  have eAll := eD.trans e2
  have aD : ρ2 S1.length = D := by rw [e2.2.1 S1.length (by rw [List.length_append, List.length_singleton]; exact Nat.lt_succ_self _), grow_new]
  obtain ⟨w1, w2⟩ := r1 ρ2 S2 H2 eAll hS2'
  by_cases hlt : i < t.items.length
  · rw [List.drop_eq_getElem_cons hlt] at h2
    unfold lcGo at h2
    split at h2
    · rename_i hc
      obtain ⟨go, yl⟩ := w1 i _ (List.getElem?_eq_getElem hlt) hc
      refine .inr ⟨go, fun H3 => ∃ ρ S, Ext X.K (grow ρ1 S1.length D) (S1 ++ [OB.lst []]).length (upd H1 D (.lst [])) ρ S.length H3 ∧ RSt (pwX X) X.K ρ H3 S ∧
        Post (pwX X) RW X.K ρ S.length H3 (fun c d H' => Wx c d σ H') (lcGo t.chk g mt me (own.map (·.2)) S1.length ls (i + 1) (t.items.drop (i + 1)) S) Q, fun H' q => ⟨_, by omega, rfl, hlt, q⟩, fun v H3 y => ?_⟩
      obtain ⟨ρ3, e3, hS3, r3⟩ := yl v H3 y
      split at h2
      · exact h2.elim
      · rename_i ls1 eg
        refine ⟨ρ3, S2, wipeL ls (own.map (·.2)), _, ls1, hS3, RL.wipe ((l1.ext eAll).ext e3) _, r3, eg, fun σ4 o4 l4 => ⟨o4.wipe hsl, ρ3, S2, ls1, hS3, l4, ?_⟩⟩
        have h3 := Post.ext e3 h2
        cases hm : mt ls1 S2 with
        | exc a b => rw [hm] at h3; exact h3.elim
        | bad => rw [hm] at h3; exact h3.elim
        | ok k S5 =>
          rw [hm] at h3
          intro ρ5 H5 k' e5 s5 q5
          have q5 : k = k' := q5
          subst k'
          cases k with
          | false =>
            rw [if_neg Bool.false_ne_true]
            exact ⟨ρ5, S5, (e2.trans e3).trans e5, s5, Post.ext e5 h3⟩
          | true =>
            rw [if_pos rfl]
            refine ⟨ρ5, S5, ls1, s5, l4.ext e5, ?_⟩
            dsimp only at h3
            cases hm2 : me ls1 S5 with
            | exc a b => rw [hm2] at h3; exact h3.elim
            | bad => rw [hm2] at h3; exact h3.elim
            | ok w S6 =>
              rw [hm2] at h3
              intro ρ6 H6 v6 e6 s6 r6
              dsimp only at h3
              split at h3
              · rename_i acc ea
                split at h3
                · rename_i hz
                  obtain ⟨vs, hv, tv⟩ := lst_of s6 ea
                  have aD6 : ρ6 S1.length = D := by rw [(e3.trans (e5.trans e6)).2.1 S1.length (Nat.lt_of_lt_of_le (by rw [List.length_append, List.length_singleton]; exact Nat.lt_succ_self _) e2.1), aD]
                  obtain ⟨s7, e7⟩ := set_lst s6 ea (tv.app (.cons r6 .nil))
                  rw [aD6] at hv s7 e7
                  exact ⟨vs, hv, by rw [← tv.length]; exact lim_lt hz, ρ6, _, ((e2.trans (e3.trans (e5.trans e6))).trans e7), s7, Post.ext ((e5.trans e6).trans e7) h3⟩
                · exact h3.elim
              · exact h3.elim
    · exact h2.elim
  · have ei : i = t.items.length := by omega
    subst ei
    rw [List.drop_length] at h2
    unfold lcGo at h2
    split at h2
    · rename_i hc
      refine .inl ⟨w2 hc, h2 ρ2 H2 _ .refl hS2' ?_⟩
      have q : RW X.K ρ2 S2.length H2 (.loc S1.length) (.ref (ρ2 S1.length)) := .loc _ (Nat.lt_of_lt_of_le (by rw [List.length_append, List.length_singleton]; exact Nat.lt_succ_self _) e2.1)
      rw [aD] at q
      exact q
    · exact h2.elim
theorem ie_lc {vs : List Nat} (own : List (Str × Nat)) (hvs : own.map (·.2) = vs) (hc : X.calm = true) (hN : X.N.Nodup) (hi : II X Wx tg iter mi) (ok : BlkOk X.N X.env.scope scope own) (hsl : ∀ j ∈ sl, j ∈ own.map (·.2))
    (hg : ∀ (s : Shared) (H : Hp) (C : Addr) (cl : List (Str × Addr)) (fp : List Addr), IG (X.blk s H scope (compEnvC scope cl C X.env) fp) tg g sl)
    (ht : ∀ (s : Shared) (H : Hp) (C : Addr) (cl : List (Str × Addr)) (fp : List Addr), ITs (X.blk s H scope (compEnvC scope cl C X.env) fp) ifs mt)
    (he : ∀ (s : Shared) (H : Hp) (C : Addr) (cl : List (Str × Addr)) (fp : List Addr), IE (X.blk s H scope (compEnvC scope cl C X.env) fp) (fun _ _ _ _ => False) elt me)
    (hs : ∀ x, foldedSetIterable iter X.env x = pure x := by intro _; rfl) : IE X Wx (.ListComp elt [⟨tg, iter, ifs, 0⟩] scope pos) (eLc mi g mt me vs) := by
  subst hvs
  exact PEi (pe_lc hc hN hi ok hg ht he hs) fun σ H Q h => lc_in hsl h
theorem is_setLc {vs : List Nat} (own : List (Str × Nat)) (hvs : own.map (·.2) = vs) {i : Nat} {y : Str} {py spos : Pos} (hc : X.calm = true) (hN : X.N.Nodup) (hy : X.N[i]? = some y) (hyl : X.env.scope.names.lookup y = some .local) (hsw : swapsWith (.ListComp elt [⟨tg, iter, ifs, 0⟩] scope pos) (some (.Name y py)) spos.line X.env = pure true)
    (hi : II X Wx tg iter mi) (ok : BlkOk X.N X.env.scope scope own) (hsl : ∀ j ∈ sl, j ∈ own.map (·.2))
    (hg : ∀ (s : Shared) (H : Hp) (C : Addr) (cl : List (Str × Addr)) (fp : List Addr), IG (X.blk s H scope (compEnvC scope cl C X.env) fp) tg g sl)
    (ht : ∀ (s : Shared) (H : Hp) (C : Addr) (cl : List (Str × Addr)) (fp : List Addr), ITs (X.blk s H scope (compEnvC scope cl C X.env) fp) ifs mt)
    (he : ∀ (s : Shared) (H : Hp) (C : Addr) (cl : List (Str × Addr)) (fp : List Addr), IE (X.blk s H scope (compEnvC scope cl C X.env) fp) (fun _ _ _ _ => False) elt me)
    (hs : ∀ x, foldedSetIterable iter X.env x = pure x := by intro _; rfl) : IS X Wx (.Assign [.Name y py] (.ListComp elt [⟨tg, iter, ifs, 0⟩] scope pos) spos) (sSet i (eLc mi g mt me vs)) := by
  subst hvs
  exact PSi (ps_setLc hc hN hy hyl hsw hi ok hg ht he hs) fun D σ H ⟨ρ, S, ls, hS, hL, h⟩ => lc_in (Q := fun x H1 => gName i x σ H1 D.nx) hsl
    ⟨ρ, S, ls, hS, hL, (Post.then (R := RW) hL h).imp fun x H1 ⟨ρ1, S1, w1, e1, hS1, r1, h1⟩ => h1 ρ1 H1 _ .refl hS1 (RL.set r1 _ (hL.ext e1))⟩
end
end GL
set_option Elab.async false
set_option linter.all false
set_option maxRecDepth 100000
set_option maxHeartbeats 1000000
namespace GL
open PySem PySem.Spec PyProof.Rows L2
variable {pw : PgW}
abbrev MF := List PV → Sto → Out PV
def fnOf (np n : Nat) (m : MS) : MF := fun ws S => if ws.length = np then (match m (ws.map some ++ List.replicate (n - np) none) S with
  | .nx _ S' => .ok .non S'
  | .rt w S' => .ok w S'
  | .exc e _ S' => .exc e S'
  | _ => .bad) else .bad
def spI (pw : PgW) (K : PySem.W.Frag) (n : Nat) (fn : MF) : Sp := fun vs H Q E => ∃ ρ S ws, RSt pw K ρ H S ∧ RWs K ρ S.length H ws vs ∧ ws.length = n ∧ Post pw RW K ρ S.length H E (fn ws S) Q
abbrev topW (E : XK) : WX := fun cls d _ H => E cls d H
abbrev FI (P : Program) (w : World) (K : PySem.W.Frag) (mg : Str → Option Value) (base : Heap) (k : Nat) (f : Addr) (fd : FuncData) (ps : List Str) (fn : MF) : Prop :=
  FnOk P w K mg base (L2.CX P w) k f fd ps (spI (⟨P, w⟩ : PgW) K ps.length fn)
theorem RL.start {K : PySem.W.Frag} {ρ : Nat → Addr} {N : Nat} {H : Hp} (n : Nat) : ∀ {ws : List PV} {vs : List V}, RWs K ρ N H ws vs → RL K ρ N H (ws.map some ++ List.replicate n none) (vs.map some ++ List.replicate n none)
  | _, _, .nil => by
    induction n with
    | zero => exact .nil
    | succ n ih => exact .no ih
  | _, _, .cons r t => .yes r (RL.start n t)
section
variable {P : Program} {w : World} {K : PySem.W.Frag} {mg : Str → Option Value} {base : Heap} {x qual : Str} {params : Arguments} {body : List Stmt} {scope : Scope} {dvs : List V} {kws : List (Str × V)} {f : Addr} {fd : FuncData}
theorem fi_of {N ps : List Str} {k : Nat} {m : MS} (F : FunD K x qual params body scope dvs kws f fd) (S : FnScope N ps scope)
    (hb : ∀ (cdv : Value) (A : Around) (outer : List Env) (s : Shared) (H : Hp) (E : XK), Room k (A.deeper (envOfC qual scope s.heap.objs.size f cdv)) →
      ISs (cxOf (L2.CX P w) P w K mg base N qual scope f cdv A outer s H E) (topW E) body m) : FI P w K mg base (k + 1) f fd ps (fnOf ps.length N.length m) := by
  refine F.ok S (fun vs H Q E h => ?_) (fun cdv A outer s H vs Q E hr h => ⟨_, hb cdv A outer s H E hr, ?_⟩)
  · obtain ⟨ρ, S, ws, _, r, e, _⟩ := h
    rw [← r.length]; exact e
  · obtain ⟨ρ, S, ws, hS, r, e, h⟩ := h
    unfold fnOf at h
    rw [if_pos e] at h
    have el : L2.start N vs = vs.map some ++ List.replicate (N.length - ps.length) none := by
      unfold L2.start
      rw [← r.length, e]
    refine ⟨ρ, S, ws.map some ++ List.replicate (N.length - ps.length) none, hS, by rw [el]; exact RL.start (N.length - ps.length) r, ?_⟩
    cases hm : m (ws.map some ++ List.replicate (N.length - ps.length) none) S with
    | nx a S' => rw [hm] at h; exact fun ρ' H' σ' e' s' _ => h ρ' H' _ e' s' .non
    | rt a S' => rw [hm] at h; exact fun ρ' H' v e' s' r' => h ρ' H' v e' s' r'
    | exc a b S' => rw [hm] at h; exact fun ρ' H' σ' c d e' s' _ q => h ρ' H' c d e' s' q
    | bk a S' => rw [hm] at h; exact h.elim
    | ct a S' => rw [hm] at h; exact h.elim
    | bad => rw [hm] at h; exact h.elim
end
def eCall (fn : MF) (dws : List PV) (args : MA) : ME := fun ls S => (args ls S).bind fun ws S1 => fn (ws ++ dws) S1
def GVals (K : PySem.W.Frag) : List V → List PV → Prop
  | [], [] => True
  | v :: vs, w :: ws => GVal K v w ∧ GVals K vs ws
  | _, _ => False
theorem GVals.rel {K : PySem.W.Frag} {ρ : Nat → Addr} {N : Nat} {H : Hp} : ∀ {vs : List V} {ws : List PV}, GVals K vs ws → RWs K ρ N H ws vs
  | [], [], _ => .nil
  | _ :: _, _ :: _, h => .cons (h.1 _ _ _) (GVals.rel h.2)
  | [], _ :: _, h => h.elim
  | _ :: _, [], h => h.elim
section
variable {X : Cx} {Wx : WX} {k : Nat} {f C : Addr} {fd : FuncData} {ps : List Str} {fn : MF} {dvs : List V} {ds : List Value} {dws : List PV} {x m : Str} {p pos apos : Pos} {e o : Expr} {es : List Expr} {mo : ME} {ma : MA} {np N : Nat} {mb : MS}
theorem sp_in {σ : L2.St} {ρ : Nat → Addr} {S : Sto} {H : Hp} {ws : List PV} {vs : List V} {Ex : XK} {Q : VK} (hS : RSt (pwX X) X.K ρ H S) (r : RWs X.K ρ S.length H ws vs) (g : GVals X.K dvs dws)
    (h : Post (pwX X) RW X.K ρ S.length H Ex (fnOf np N mb (ws ++ dws) S) Q) : spI (pwX X) X.K np (fnOf np N mb) (vs ++ dvs) H Q Ex := by
  refine ⟨ρ, S, ws ++ dws, hS, r.app g.rel, ?_, h⟩
  unfold fnOf at h
  split at h
  · assumption
  · exact h.elim
theorem ie_call (tk : Takes X Wx) (F : FI X.prog X.w X.K X.mg X.base k f fd ps (fnOf np N mb)) (hnp : ps.length = np) (hr : Room k X.A) (hm : X.mg x = some (.ref f)) (hk : PySem.W.keepIn X.K (.ref f) = true) (hb : Binds X.K fd ps ds) (hd : Vals dvs ds) (g : GVals X.K dvs dws)
    (ha : IA X Wx (e :: es) ma) (hg : Gl X x := by rfl) (hdb : (x == ("__debug__" : Str)) = false := by decide) (he : starEach (e :: es) X.env = (false, eval e X.env) :: starEach es X.env := by rfl) (hpl : (backTo pos (starEach es X.env)).any (·.1) = false := by rfl) :
    IE X Wx (.Call (.Name x p) (e :: es) [] pos) (eCall (fnOf np N mb) dws ma) :=
  PEi (pe_callSD (E := WE Wx) F hr hg hm hk hb hd (passAt tk) ha hdb he hpl) fun σ H Q ⟨ρ, S, ls, hS, hL, h⟩ => ⟨ρ, S, ls, hS, hL, (Post.bind (R := RWs) h).imp fun vs H1 ⟨ρ1, S1, ws, e1, hS1, r1, h1⟩ => by
    rw [hnp]; exact sp_in (σ := σ) hS1 r1 g h1⟩
theorem pe_call0D {E : L2.St → XK} {sp : Sp} (F : FnOk X.prog X.w X.K X.mg X.base (L2.CX X.prog X.w) k f fd ps sp) (hr : Room k X.A) (hg : Gl X x) (hm : X.mg x = some (.ref f)) (hk : PySem.W.keepIn X.K (.ref f) = true) (hb : Binds X.K fd ps ds) (hd : Vals dvs ds)
    (hx : ∀ σ, PassesAt (L2.CX X.prog X.w) X σ (E σ)) (hdb : (x == ("__debug__" : Str)) = false := by decide) : PE X (.Call (.Name x p) [] [] pos) (tCallSD sp dvs E tNil) := by
  constructor
  intro pins s σ H Q I h
  apply wpAny_Call_Name_kw
  apply ld_glob I hg hm _ hdb
  apply PySem.W.callWith_K0 I.kIn hk
  exact run_fnSD (us := []) F hr hb hd (hx σ) I .nil h
theorem ie_call0 (tk : Takes X Wx) (F : FI X.prog X.w X.K X.mg X.base k f fd ps (fnOf np N mb)) (hnp : ps.length = np) (hr : Room k X.A) (hm : X.mg x = some (.ref f)) (hk : PySem.W.keepIn X.K (.ref f) = true) (hb : Binds X.K fd ps ds) (hd : Vals dvs ds) (g : GVals X.K dvs dws)
    (hg : Gl X x := by rfl) (hdb : (x == ("__debug__" : Str)) = false := by decide) : IE X Wx (.Call (.Name x p) [] [] pos) (eCall (fnOf np N mb) dws aNil) :=
  PEi (pe_call0D (E := WE Wx) F hr hg hm hk hb hd (passAt tk) hdb) fun σ H Q ⟨ρ, S, ls, hS, hL, h⟩ => by
    rw [hnp]; exact sp_in (σ := σ) (ws := []) hS .nil g h
def lookN (f : Nm) : List (Nm × PV) → Option PV
  | [] => none
  | (g, w) :: r => if g = f then some w else lookN f r
def putN (f : Nm) (w : PV) : List (Nm × PV) → List (Nm × PV)
  | [] => [(f, w)]
  | (g, v) :: r => if g = f then (g, w) :: r else (g, v) :: putN f w r
theorem beq_toS {a b : Nm} : (toS a == toS b) = decide (a = b) := by
  by_cases h : a = b
  · subst h; simp
  · have : ¬ toS a = toS b := fun e => h (toS_inj e)
    simp [h, this]
theorem look_some {K : PySem.W.Frag} {ρ : Nat → Addr} {N : Nat} {H : Hp} {f : Nm} {w : PV} : ∀ {fs : List (Nm × PV)} {fs' : List (Str × V)}, RFs K ρ N H fs fs' → lookN f fs = some w → ∃ v, fs'.lookup (toS f) = some v ∧ RW K ρ N H w v
  | _, _, .nil, h => by cases h
  | _, _, .cons (f := g) r t, h => by
    unfold lookN at h
    rw [List.lookup_cons, beq_toS]
    split at h
    · rename_i e
      cases h
      subst e
      exact ⟨_, by simp, r⟩
    · rename_i e
      have : ¬ f = g := fun z => e z.symm
      simp only [decide_eq_false this]
      exact look_some t h
theorem look_none {K : PySem.W.Frag} {ρ : Nat → Addr} {N : Nat} {H : Hp} {f : Nm} : ∀ {fs : List (Nm × PV)} {fs' : List (Str × V)}, RFs K ρ N H fs fs' → lookN f fs = none → fs'.lookup (toS f) = none
  | _, _, .nil, h => rfl
  | _, _, .cons (f := g) r t, h => by
    unfold lookN at h
    rw [List.lookup_cons, beq_toS]
    split at h
    · cases h
    · rename_i e
      have : ¬ f = g := fun z => e z.symm
      simp only [decide_eq_false this]
      exact look_none t h
theorem RFs.length {K : PySem.W.Frag} {ρ : Nat → Addr} {N : Nat} {H : Hp} : ∀ {fs : List (Nm × PV)} {fs' : List (Str × V)}, RFs K ρ N H fs fs' → fs.length = fs'.length
  | _, _, .nil => rfl
  | _, _, .cons _ t => by simp [RFs.length t]
def insAt (S : Sto) (w : PV) : Option (Nat × Nm × List (Nm × PV)) := match w with
  | .loc n => (match S[n]? with
    | some (.ins C fs) => some (n, C, fs)
    | _ => none)
  | _ => none
theorem insAt_get {S : Sto} {w : PV} {n : Nat} {C : Nm} {fs : List (Nm × PV)} (h : insAt S w = some (n, C, fs)) : w = .loc n ∧ S[n]? = some (.ins C fs) := by
  unfold insAt at h
  split at h
  · split at h
    · rename_i e; cases h; exact ⟨rfl, e⟩
    · cases h
  · cases h
theorem ins_of {K : PySem.W.Frag} {ρ : Nat → Addr} {H : Hp} {S : Sto} {w : PV} {v : V} {n : Nat} {D : Nm} {fs : List (Nm × PV)} (hS : RSt pw K ρ H S) (r : RW K ρ S.length H w v) (h : insAt S w = some (n, D, fs)) :
    v = .ref (ρ n) ∧ ∃ dx fs', H (ρ n) = some (.ins (He.ga K (toS D)) dx fs') ∧ RFs K ρ S.length H fs fs' := by
  obtain ⟨rfl, e⟩ := insAt_get h
  cases r
  exact ⟨rfl, hS.at_ _ _ e⟩
def eMeth (C m : Nm) (fn : MF) (dws : List PV) (o : ME) (args : MA) : ME := fun ls S => (o ls S).bind fun w S1 => match insAt S1 w with
  | some (_, D, fs) => if D = C then (match lookN m fs with
    | none => (args ls S1).bind fun ws S2 => fn (w :: (ws ++ dws)) S2
    | some _ => .bad) else .bad
  | none => .bad
def tMethD (C : Addr) (m : Str) (sp : Sp) (dvs : List V) (E : L2.St → XK) (ta : TE) (t : TA) : TE := fun σ H Q => ta σ H fun x H1 => ∃ a dx fs, x = .ref a ∧ H1 a = some (.ins C dx fs) ∧ fs.lookup m = none ∧
  t σ H1 fun vs H2 => sp (x :: (vs ++ dvs)) H2 Q (E σ)
theorem pe_methD {E : L2.St → XK} {sp : Sp} {ta : TE} {t : TA} {pl : Sem Bool} (he : PE X o ta) (c : Cls X.K C) (hm : Meth X.K C m f) (F : FnOk X.prog X.w X.K X.mg X.base (L2.CX X.prog X.w) k f fd ps sp) (hr : Room k X.A) (hb : Binds X.K fd ps ds) (hd : Vals dvs ds)
    (hx : ∀ σ, PassesAt (L2.CX X.prog X.w) X σ (E σ)) (ha : PA X (e :: es) t) (hst : starEach (e :: es) X.env = (false, eval e X.env) :: starEach es X.env := by rfl) (hpl : (backTo pos (starEach es X.env)).any (·.1) = false := by rfl)
    (ht : eval (.Call (.Attribute o m apos) (e :: es) [] pos) X.env = (do
      let ov ← eval o X.env
      standAt apos.atName
      let (f, first) ← holding [ov] (getMethod ov m pl)
      callWith pos f first (backTo pos (starEach (e :: es) X.env)) (backToKw pos (keywordEach [] X.env))) := by rfl) : PE X (.Call (.Attribute o m apos) (e :: es) [] pos) (tMethD C m sp dvs E ta t) := by
  constructor
  intro pins s σ H Q I h
  apply PySem.W.methodCall_KW (pl := pl) _ ht
  apply thn (he.run pins s σ H _ I h)
  rintro u s1 ⟨x, H1, I1, rx, a, dx, fs, rfl, ea, l, q⟩
  cases rx
  apply getmeth_ok I1 ea c hm l
  apply PySem.W.callWith_K (first := [.ref a]) (h₀ := X.base) I.ok.mod.kin hm.kp _ hst hpl
  apply thn (ha.run pos pins s1 σ H1 _ I1 q)
  rintro us s2 ⟨vs, H2, I2, r, q2⟩
  exact ⟨I2.kIn, run_fnSD (us := .ref a :: us) (vs := .ref a :: vs) F hr hb hd (hx σ) I2 (.cons rfl r) q2⟩
variable {cn mn : Nm}
theorem meth_in {σ : L2.St} {H : Hp} {Q : VK} {ta : TA} (g : GVals X.K dvs dws) (ha : ∀ σ H Q, tA (pwX X) X.K Wx ma σ H Q → ta σ H Q) (hC : C = He.ga X.K (toS cn)) (hmn : m = toS mn) (h : tE (pwX X) X.K Wx (eMeth cn mn (fnOf np N mb) dws mo ma) σ H Q) :
    tMethD C m (spI (pwX X) X.K np (fnOf np N mb)) dvs (WE Wx) (tE (pwX X) X.K Wx mo) ta σ H Q := by
  obtain ⟨ρ, S, ls, hS, hL, h⟩ := h
  refine ⟨ρ, S, ls, hS, hL, (Post.bind (R := RW) h).imp ?_⟩
  rintro x H1 ⟨ρ1, S1, w1, e1, hS1, r1, h1⟩
  split at h1
  · rename_i n D fs ei
    split at h1
    · rename_i eD
      subst eD
      split at h1
      · rename_i el
        obtain ⟨rfl, dx, fs', hH, rf⟩ := ins_of hS1 r1 ei
        refine ⟨_, dx, fs', rfl, by rw [hC]; exact hH, by rw [hmn]; exact look_none rf el, ha _ _ _ ⟨ρ1, S1, ls, hS1, hL.ext e1, (Post.bind (R := RWs) h1).imp ?_⟩⟩
        rintro vs H2 ⟨ρ2, S2, ws, e2, hS2, r2, h2⟩
        exact sp_in (σ := σ) (ws := w1 :: ws) (vs := _ :: vs) hS2 (.cons (r1.ext e2) r2) g h2
      · exact h1.elim
    · exact h1.elim
  · exact h1.elim
theorem ie_meth {pl : Sem Bool} (tk : Takes X Wx) (he : IE X Wx o mo) (hC : C = He.ga X.K (toS cn)) (c : Cls X.K C) (hm : Meth X.K C m f) (hmn : m = toS mn) (F : FI X.prog X.w X.K X.mg X.base k f fd ps (fnOf np N mb)) (hnp : ps.length = np) (hr : Room k X.A) (hb : Binds X.K fd ps ds) (hd : Vals dvs ds) (g : GVals X.K dvs dws)
    (ha : IA X Wx (e :: es) ma) (hst : starEach (e :: es) X.env = (false, eval e X.env) :: starEach es X.env := by rfl) (hpl : (backTo pos (starEach es X.env)).any (·.1) = false := by rfl)
    (ht : eval (.Call (.Attribute o m apos) (e :: es) [] pos) X.env = (do
      let ov ← eval o X.env
      standAt apos.atName
      let (f, first) ← holding [ov] (getMethod ov m pl)
      callWith pos f first (backTo pos (starEach (e :: es) X.env)) (backToKw pos (keywordEach [] X.env))) := by rfl) : IE X Wx (.Call (.Attribute o m apos) (e :: es) [] pos) (eMeth cn mn (fnOf np N mb) dws mo ma) :=
  PEi (pe_methD (E := WE Wx) he c hm F hr hb hd (passAt tk) ha hst hpl ht) fun σ H Q h => by rw [hnp]; exact meth_in g (fun _ _ _ q => q) hC hmn h
def eMake (C : Nm) (fn : MF) (dws : List PV) (args : MA) : ME := fun ls S => (args ls S).bind fun ws S1 => (fn (.loc S1.length :: (ws ++ dws)) (S1 ++ [.ins C []])).bind fun r S2 => match r with
  | .non => .ok (.loc S1.length) S2
  | _ => .bad
def tMakeD (C : Addr) (sp : Sp) (dvs : List V) (E : L2.St → XK) (t : TA) : TE := fun σ H Q => t σ H fun vs H1 => ∀ x dx, H1 x = none → H1 dx = none → dx ≠ x →
  sp (.ref x :: (vs ++ dvs)) (upd (upd H1 dx (.own x)) x (.ins C dx [])) (fun v H2 => v = .non ∧ Q (.ref x) H2) (E σ)
theorem run_makeD {pins : List (Addr × Obj)} {σ : L2.St} {H : Hp} {s : Shared} {Q : VK} {us : List Value} {vs : List V} {sp : Sp} {E : L2.St → XK} (M : Mk X.K C f) (F : FnOk X.prog X.w X.K X.mg X.base (L2.CX X.prog X.w) k f fd ps sp) (hr : Room (k + 1) X.A) (hb : Binds X.K fd ps ds) (hd : Vals dvs ds)
    (hx : ∀ σ, PassesAt (L2.CX X.prog X.w) X σ (E σ)) (I : Inv X pins σ H s) (r : Vals vs us)
    (h : ∀ x dx, H x = none → H dx = none → dx ≠ x → sp (.ref x :: (vs ++ dvs)) (upd (upd H dx (.own x)) x (.ins C dx [])) (fun v H2 => v = .non ∧ Q (.ref x) H2) (E σ)) :
    wpAny (model X.prog X.w) X.A (call (.ref C) us) (EP X pins σ Q) X.xe s := by
  let n := s.heap.objs.size
  have q := h (n + 1) n (I.hok.fresh (Nat.le_succ n)) I.fresh (Nat.ne_of_lt (Nat.lt_succ_self n))
  have J := Inv.made (C := C) I
  have rr : Vals (V.ref (n + 1) :: (vs ++ dvs)) (Value.ref (n + 1) :: (us ++ ds)) := .cons rfl (r.append hd)
  have len := F.len _ _ _ _ q
  rw [rr.length] at len
  apply wpAny_call
  apply make_map (f := f) I.kIn M.makes M.init (beq_iff_eq.mp M.fn)
  have run := F.run _ X.stack _ _ ⟨Value.ref (n + 1) :: us, []⟩ _ _ _ (E σ) (hr.make C us []) (J.env0.make C us []) (hb _ (Value.ref (n + 1) :: us) J.kIn len) rr q
  apply codeAny_mono run
  intro res s' hq
  match res, hq with
  | .error e, hq => exact hx σ pins _ _ e s' J hq
  | .ok (.ret u), hq =>
    obtain ⟨v, H', I3, rv, rfl, q3⟩ := J.after hq
    exact ⟨rv, V.ref (n + 1), H', I3, rfl, q3⟩
theorem pe_makeD {E : L2.St → XK} {sp : Sp} {t : TA} (M : Mk X.K C f) (F : FnOk X.prog X.w X.K X.mg X.base (L2.CX X.prog X.w) k f fd ps sp) (hr : Room (k + 1) X.A) (hg : Gl X x) (hm : X.mg x = some (.ref C)) (hb : Binds X.K fd ps ds) (hd : Vals dvs ds) (hx : ∀ σ, PassesAt (L2.CX X.prog X.w) X σ (E σ))
    (ha : PA X (e :: es) t) (hdb : (x == ("__debug__" : Str)) = false := by decide) (he : starEach (e :: es) X.env = (false, eval e X.env) :: starEach es X.env := by rfl) (hpl : (backTo pos (starEach es X.env)).any (·.1) = false := by rfl) :
    PE X (.Call (.Name x p) (e :: es) [] pos) (tMakeD C sp dvs E t) := by
  constructor
  intro pins s σ H Q I h
  apply wpAny_Call_Name_kw
  apply ld_glob I hg hm _ hdb
  apply PySem.W.callWith_K (h₀ := X.base) I.ok.mod.kin M.kp _ he hpl
  apply thn (ha.run pos pins s σ H _ I h)
  rintro us s1 ⟨vs, H1, I1, r, q⟩
  exact ⟨I1.kIn, run_makeD M F hr hb hd hx I1 r q⟩
theorem make_in {σ : L2.St} {H : Hp} {Q : VK} {ta : TA} (g : GVals X.K dvs dws) (ha : ∀ σ H Q, tA (pwX X) X.K Wx ma σ H Q → ta σ H Q) (hC : C = He.ga X.K (toS cn)) (h : tE (pwX X) X.K Wx (eMake cn (fnOf np N mb) dws ma) σ H Q) :
    tMakeD C (spI (pwX X) X.K np (fnOf np N mb)) dvs (WE Wx) ta σ H Q := by
  obtain ⟨ρ, S, ls, hS, hL, h⟩ := h
  refine ha _ _ _ ⟨ρ, S, ls, hS, hL, (Post.bind (R := RWs) h).imp ?_⟩
  rintro vs H1 ⟨ρ1, S1, ws, e1, hS1, r1, h1⟩ x dx hx hdx hne
  have e2 : Ext X.K ρ1 S1.length H1 ρ1 S1.length (upd H1 dx (.own x)) := ext_keep hdx
  have hx2 : (upd H1 dx (.own x)) x = none := by rw [upd_ne (Ne.symm hne)]; exact hx
  have e3 : Ext X.K ρ1 S1.length (upd H1 dx (.own x)) (grow ρ1 S1.length x) (S1 ++ [OB.ins cn []]).length (upd (upd H1 dx (.own x)) x (.ins C dx [])) := by
    rw [List.length_append, List.length_singleton]; exact ext_new hx2
  have s3 : RSt (pwX X) X.K (grow ρ1 S1.length x) (upd (upd H1 dx (.own x)) x (.ins C dx [])) (S1 ++ [OB.ins cn []]) := (hS1.keep hdx).new (o := .ins cn []) hx2 rfl ⟨dx, [], by rw [upd_same, hC], .nil⟩
  have rx : RW X.K (grow ρ1 S1.length x) (S1 ++ [OB.ins cn []]).length (upd (upd H1 dx (.own x)) x (.ins C dx [])) (.loc S1.length) (.ref x) := by
    have q : RW X.K (grow ρ1 S1.length x) (S1 ++ [OB.ins cn []]).length (upd (upd H1 dx (.own x)) x (.ins C dx [])) (.loc S1.length) (.ref (grow ρ1 S1.length x S1.length)) := .loc _ (by rw [List.length_append, List.length_singleton]; exact Nat.lt_succ_self _)
    rw [grow_new] at q
    exact q
  refine sp_in (σ := σ) (ws := .loc S1.length :: ws) (vs := .ref x :: vs) s3 (.cons rx ((r1.ext e2).ext e3)) g ((Post.bind (R := RW) (Post.ext (e2.trans e3) h1)).imp ?_)
  rintro v H4 ⟨ρ4, S4, w4, e4, hS4, r4, h4⟩
  split at h4
  · cases r4
    exact ⟨rfl, h4 ρ4 H4 _ .refl hS4 (rx.ext e4)⟩
  · exact h4.elim
theorem ie_make (tk : Takes X Wx) (M : Mk X.K C f) (hC : C = He.ga X.K (toS cn)) (F : FI X.prog X.w X.K X.mg X.base k f fd ps (fnOf np N mb)) (hnp : ps.length = np) (hr : Room (k + 1) X.A) (hm : X.mg x = some (.ref C)) (hb : Binds X.K fd ps ds) (hd : Vals dvs ds) (g : GVals X.K dvs dws)
    (ha : IA X Wx (e :: es) ma) (hg : Gl X x := by rfl) (hdb : (x == ("__debug__" : Str)) = false := by decide) (he : starEach (e :: es) X.env = (false, eval e X.env) :: starEach es X.env := by rfl) (hpl : (backTo pos (starEach es X.env)).any (·.1) = false := by rfl) :
    IE X Wx (.Call (.Name x p) (e :: es) [] pos) (eMake cn (fnOf np N mb) dws ma) :=
  PEi (pe_makeD (E := WE Wx) M F hr hg hm hb hd (passAt tk) ha hdb he hpl) fun σ H Q h => by rw [hnp]; exact make_in g (fun _ _ _ q => q) hC h
def Atts (K : PySem.W.Frag) (tab : Nm → Nm → Bool) : Prop := ∀ C f, tab C f = true → Cls K (He.ga K (toS C)) ∧ NoAttr K (He.ga K (toS C)) (toS f)
def eFld (tab : Nm → Nm → Bool) (f : Nm) (o : ME) : ME := fun ls S => (o ls S).bind fun w S1 => match insAt S1 w with
  | some (_, C, fs) => if tab C f = true then (match lookN f fs with
    | some v => .ok v S1
    | none => .bad) else .bad
  | none => .bad
variable {tab : Nm → Nm → Bool} {fl : Nm} {fs : Str}
theorem ie_fld (T : Atts X.K tab) (he : IE X Wx o mo) (hf : fs = toS fl) (hb : attributeBase o fs X.env (eval o X.env) = eval o X.env := by rfl) : IE X Wx (.Attribute o fs pos) (eFld tab fl mo) :=
  PEi (pe_fld he hb) fun σ H Q ⟨ρ, S, ls, hS, hL, h⟩ => ⟨ρ, S, ls, hS, hL, (Post.bind (R := RW) h).imp fun x H1 ⟨ρ1, S1, w1, e1, hS1, r1, h1⟩ => by
    split at h1
    · rename_i n D gs ei
      split at h1
      · rename_i et
        split at h1
        · rename_i v el
          obtain ⟨rfl, dx, fs', hH, rf⟩ := ins_of hS1 r1 ei
          obtain ⟨c, na⟩ := T _ _ et
          obtain ⟨u, hu, ru⟩ := look_some rf el
          subst hf
          exact ⟨_, _, dx, fs', u, rfl, hH, c, na, hu, h1 ρ1 H1 u .refl hS1 ru⟩
        · exact h1.elim
      · exact h1.elim
    · exact h1.elim⟩
def sFldM (tab : Nm → Nm → Bool) (f : Nm) (o v : ME) : MS := fun ls S => (v ls S).then ls fun y S1 => (o ls S1).then ls fun w S2 => match insAt S2 w with
  | some (n, C, fs) => if tab C f && decide (fs.length < 1000) then .nx ls (S2.set n (.ins C (putN f y fs))) else .bad
  | none => .bad
theorem put_rel {K : PySem.W.Frag} {ρ : Nat → Addr} {N : Nat} {H : Hp} {f : Nm} {w : PV} {v : V} (q : RW K ρ N H w v) : ∀ {fs : List (Nm × PV)} {fs' : List (Str × V)}, RFs K ρ N H fs fs' → RFs K ρ N H (putN f w fs) (putF (toS f) v fs')
  | _, _, .nil => .cons q .nil
  | _, _, .cons (f := g) (v := u) (r' := r') r t => by
    unfold putN
    show RFs K ρ N H _ (if toS g = toS f then (toS g, v) :: r' else (toS g, u) :: putF (toS f) v r')
    by_cases e : g = f
    · subst e
      rw [if_pos rfl, if_pos rfl]; exact .cons q t
    · rw [if_neg e, if_neg fun z => e (toS_inj z)]; exact .cons r (put_rel q t)
theorem is_fld {val : Expr} {mv : ME} {pos' : Pos} (T : Atts X.K tab) (ho : IE X Wx o mo) (hv : IE X Wx val mv) (hf : fs = toS fl) (hs : swapsWith val (some (.Attribute o fs pos')) pos.line X.env = pure false := by rfl) :
    IS X Wx (.Assign [.Attribute o fs pos'] val pos) (sFldM tab fl mo mv) :=
  PSi (ps_fld ho hv hs) fun D σ H ⟨ρ, S, ls, hS, hL, h⟩ => ⟨ρ, S, ls, hS, hL, (Post.then (R := RW) hL h).imp fun y H1 ⟨ρ1, S1, wy, e1, hS1, r1, h1⟩ =>
    ⟨ρ1, S1, ls, hS1, hL.ext e1, (Post.then (R := RW) (hL.ext e1) h1).imp fun x H2 ⟨ρ2, S2, w2, e2, hS2, r2, h2⟩ => by
      split at h2
      · rename_i n D' gs ei
        split at h2
        · rename_i et
          rw [Bool.and_eq_true] at et
          obtain ⟨rfl, dx, fs', hH, rf⟩ := ins_of hS2 r2 ei
          obtain ⟨rfl, eg⟩ := insAt_get ei
          obtain ⟨c, na⟩ := T _ _ et.1
          subst hf
          refine ⟨_, _, dx, fs', rfl, hH, c, na, by rw [← rf.length]; exact of_decide_eq_true et.2, ?_⟩
          have ee : Ext X.K ρ2 S2.length H2 ρ2 S2.length (upd H2 (ρ2 n) (.ins (He.ga X.K (toS D')) dx (putF (toS fl) y fs'))) := ext_upd hH trivial
          refine h2 ρ2 _ σ (by rw [List.length_set]; exact ee) (hS2.set eg rfl rfl ⟨dx, _, upd_same, put_rel ((r1.ext e2).ext ee) (rf.ext ee)⟩) (by rw [List.length_set]; exact ((hL.ext e1).ext e2).ext ee)
        · exact h2.elim
      · exact h2.elim⟩⟩
end
end GL
set_option Elab.async false
set_option linter.all false
set_option maxRecDepth 100000
set_option maxHeartbeats 1000000
namespace GL
open PySem PySem.Spec PyProof.Rows L2
variable {pw : PgW}
def gIx : PV → PV → Sto → Out PV := fun a b S => match a, b with
  | .tup xs, .int i => (match atI xs i with
    | some v => .ok v S
    | none => .bad)
  | .loc n, .int i => (match seqAt S n with
    | some xs => (match atI xs i with
      | some v => .ok v S
      | none => .bad)
    | none => .bad)
  | .str s, .int i => if s.length ≤ lim then (match atI s i with
    | some c => .ok (.str [c]) S
    | none => .bad) else .bad
  | _, _ => .bad
section
variable {K : PySem.W.Frag} {ρ : Nat → Addr} {N : Nat} {H : Hp}
theorem RWs.at {ws : List PV} {vs : List V} (t : RWs K ρ N H ws vs) {i : Int} {w : PV} (h : atI ws i = some w) : ∃ v, atI vs i = some v ∧ RW K ρ N H w v := by
  unfold atI at h ⊢
  rw [t.length] at h
  cases e : ixN vs.length i with
  | none => rw [e] at h; cases h
  | some j =>
    rw [e] at h
    exact t.get h
end
section
variable {X : Cx} {Wx : WX} {pos : Pos} {a b e o : Expr} {ma mb me mo : ME}
theorem oi_ix : OpI X Wx (rIx X.K) gIx := by
  intro ρ S H w1 w2 x y Ex Q hS r1 r2 h
  unfold gIx at h
  split at h
  · split at h
    · rename_i v ev
      cases r1 with
      | tup s t =>
        obtain ⟨u, hu, ru⟩ := t.at ev
        cases r2
        exact .inr (.inl ⟨_, _, _, u, rfl, rfl, s, hu, h.here hS ru⟩)
    · exact h.elim
  · split at h
    · split at h
      · rename_i xs exs _ v ev
        cases r1; cases r2
        obtain ⟨vs, s, t⟩ := seq_of hS exs
        obtain ⟨u, hu, ru⟩ := t.at ev
        exact .inl ⟨_, _, _, u, rfl, rfl, s, hu, h.here hS ru⟩
      · exact h.elim
    · exact h.elim
  · split at h
    · split at h
      · rename_i hz _ c ec
        cases r1; cases r2
        rw [str_len] at hz
        exact .inr (.inr ⟨_, _, c, rfl, rfl, lim_sz hz, ec, h.here hS (.str ⟨#[c]⟩)⟩)
      · exact h.elim
    · exact h.elim
  · exact h.elim
theorem ie_ix (ha : IE X Wx a ma) (hb : IE X Wx b mb) (hs : PlainIx b := by exact fun _ _ => rfl) : IE X Wx (.Subscript a b pos) (eOp gIx ma mb) :=
  PEi (pe_ix ix_seq ha hb hs) fun σ H Q h => bin_in oi_ix h
abbrev MO := Ls → Sto → Out (Option Int)
abbrev ROI : RelF (Option Int) (Option Int) := fun _ _ _ _ a b => a = b
def tO (pw : PgW) (K : PySem.W.Frag) (Wx : WX) (m : MO) : TO := fun σ H Q => ∃ ρ S ls, RSt pw K ρ H S ∧ RL K ρ S.length H ls σ ∧ Post pw ROI K ρ S.length H (fun c d H' => Wx c d σ H') (m ls S) Q
abbrev IO (X : Cx) (Wx : WX) (e : Option Expr) (m : MO) : Prop := PO X e (tO (pwX X) X.K Wx m)
theorem POi {e : Option Expr} {t t' : TO} (h : PO X e t) (i : ∀ σ H Q, t' σ H Q → t σ H Q) : PO X e t' := ⟨fun pins s σ H Q I hw => h.run pins s σ H Q I (i _ _ _ hw)⟩
def oNo : MO := fun _ S => .ok none S
def oYes (m : ME) : MO := fun ls S => (m ls S).bind fun w S1 => match w with
  | .int i => .ok (some i) S1
  | _ => .bad
theorem io_none : IO X Wx none oNo := POi po_none fun σ H Q ⟨ρ, S, ls, hS, hL, h⟩ => h ρ H none .refl hS rfl
theorem io_some (h : IE X Wx e me) : IO X Wx (some e) (oYes me) := POi (po_some h) fun σ H Q ⟨ρ, S, ls, hS, hL, h⟩ => ⟨ρ, S, ls, hS, hL, (Post.bind (R := RW) h).imp fun x H1 ⟨ρ1, S1, w1, e1, hS1, r1, h1⟩ => by
  split at h1
  · cases r1
    exact ⟨_, rfl, h1 ρ1 H1 _ .refl hS1 rfl⟩
  · exact h1.elim⟩
def cutP {α : Type} (xs : List α) (lo hi : Option Int) : List α := (xs.drop (HT.sIx xs.length 0 lo)).take (HT.sIx xs.length xs.length hi - HT.sIx xs.length 0 lo)
def gSl : PV → Option Int → Option Int → Sto → Out PV := fun a lo hi S => match a with
  | .tup xs => .ok (.tup (cutP xs lo hi)) S
  | .loc n => (match seqAt S n with
    | some xs => .ok (.loc S.length) (S ++ [.lst (cutP xs lo hi)])
    | none => .bad)
  | .str s => if s.length ≤ lim then .ok (.str (cutP s lo hi)) S else .bad
  | _ => .bad
def eSl (o : ME) (lo hi : MO) : ME := fun ls S => (o ls S).bind fun w S1 => (lo ls S1).bind fun l S2 => (hi ls S2).bind fun h S3 => gSl w l h S3
theorem RWs.cut {K : PySem.W.Frag} {ρ : Nat → Addr} {N : Nat} {H : Hp} {ws : List PV} {vs : List V} (t : RWs K ρ N H ws vs) (lo hi : Option Int) : RWs K ρ N H (cutP ws lo hi) (cutV vs lo hi) := by
  unfold cutP cutV
  rw [t.length]
  exact (t.drop _).take _
theorem RWs.cut_whole {K : PySem.W.Frag} {ρ : Nat → Addr} {N : Nat} {H : Hp} {ws : List PV} {vs : List V} (t : RWs K ρ N H ws vs) {l u : Option Int} (whole : HT.sIx vs.length 0 l = 0 ∧ HT.sIx vs.length vs.length u = vs.length) : cutP ws l u = ws := by
  unfold cutP
  rw [t.length, whole.1, whole.2, ← t.length]
  simp
def rSlM (K : PySem.W.Frag) : V → Option Int → Option Int → Hp → VK → Prop := fun x lo hi H Q => rSlA K x lo hi H Q ∨ rSlL K x lo hi H Q ∨ rSlS x lo hi H Q
theorem sl_M : SlR X (rSlM X.K) := sl_tupA.or (sl_list.or sl_str)
theorem ie_sl {lo hi : Option Expr} {ml mh : MO} {p2 : Pos} (ho : IE X Wx o mo) (hl : IO X Wx lo ml) (hh : IO X Wx hi mh) : IE X Wx (.Subscript o (.Slice lo hi none p2) pos) (eSl mo ml mh) :=
  PEi (pe_slice sl_M ho hl hh) fun σ H Q ⟨ρ, S, ls, hS, hL, h⟩ => ⟨ρ, S, ls, hS, hL, (Post.bind (R := RW) h).imp fun x H1 ⟨ρ1, S1, w1, e1, hS1, r1, h1⟩ =>
    ⟨ρ1, S1, ls, hS1, hL.ext e1, (Post.bind (R := ROI) h1).imp fun l H2 ⟨ρ2, S2, l2, e2, hS2, q2, h2⟩ =>
      ⟨ρ2, S2, ls, hS2, (hL.ext e1).ext e2, (Post.bind (R := ROI) h2).imp fun u H3 ⟨ρ3, S3, u3, e3, hS3, q3, h3⟩ => by
        cases q2; cases q3
        have r1 := (r1.ext e2).ext e3
        unfold gSl at h3
        split at h3
        · cases r1 with
          | tup s t =>
            refine .inl ⟨_, _, rfl, s, fun whole => ?_, fun _ => mk_tup hS3 (t.cut l u) h3⟩
            rw [t.cut_whole whole] at h3
            exact h3.here hS3 (.tup s t)
        · split at h3
          · rename_i xs ex
            cases r1
            obtain ⟨vs, s, t⟩ := seq_of hS3 ex
            exact .inr (.inl ⟨_, _, rfl, s, mk_lst hS3 (t.cut l u) h3⟩)
          · exact h3.elim
        · split at h3
          · rename_i hz
            cases r1 with
            | str z =>
              rw [str_len] at hz
              refine .inr (.inr ⟨_, rfl, lim_sz hz, h3.here hS3 ?_⟩)
              have : cutP z.cps.toList l u = (cutS z l u).cps.toList := by
                unfold cutP cutS
                simp [Str.length]
              rw [this]; exact .str _
          · exact h3.elim
        · exact h3.elim⟩⟩⟩
def CallI (X : Cx) (r : List V → Hp → VK → Prop) (g : MF) : Prop :=
  ∀ (ρ : Nat → Addr) (S : Sto) (H : Hp) (ws : List PV) (vs : List V) (Ex : XK) (Q : VK), RSt (pwX X) X.K ρ H S → RWs X.K ρ S.length H ws vs → Post (pwX X) RW X.K ρ S.length H Ex (g ws S) Q → r vs H Q
def eB (g : MF) (args : MA) : ME := fun ls S => (args ls S).bind fun ws S1 => g ws S1
variable {x : Str} {p : Pos} {es : List Expr} {mr : MA} {id T : String} {r : List V → Hp → VK → Prop} {g : MF}
theorem callB_in {σ : L2.St} {H : Hp} {Q : VK} (hi : CallI X r g) (h : tE (pwX X) X.K Wx (eB g mr) σ H Q) : tCB r (tA (pwX X) X.K Wx mr) σ H Q := by
  obtain ⟨ρ, S, ls, hS, hL, h⟩ := h
  exact ⟨ρ, S, ls, hS, hL, (Post.bind (R := RWs) h).imp fun vs H1 ⟨ρ1, S1, ws, e1, hS1, r1, h1⟩ => hi ρ1 S1 H1 ws vs _ Q hS1 r1 h1⟩
theorem ie_B (hc : CallR X (.builtin id) r) (hi : CallI X r g) (hm : X.mg x = none) (hv : bootBuiltins x = some (.builtin id)) (ha : IA X Wx (e :: es) mr) (hg : Gl X x := by rfl) (hn : x ≠ "__name__" := by decide) (hdb : (x == ("__debug__" : Str)) = false := by decide)
    (he : starEach (e :: es) X.env = (false, eval e X.env) :: starEach es X.env := by rfl) (hpl : (backTo pos (starEach es X.env)).any (·.1) = false := by rfl) : IE X Wx (.Call (.Name x p) (e :: es) [] pos) (eB g mr) :=
  PEi (pe_callB hc hg hm hv ha hn hdb he hpl) fun σ H Q h => callB_in hi h
theorem ie_BT (hc : CallR X (.type T) r) (hi : CallI X r g) (hm : X.mg x = none) (hv : bootBuiltins x = some (.type T)) (ha : IA X Wx (e :: es) mr) (hg : Gl X x := by rfl) (hn : x ≠ "__name__" := by decide) (hdb : (x == ("__debug__" : Str)) = false := by decide)
    (he : starEach (e :: es) X.env = (false, eval e X.env) :: starEach es X.env := by rfl) (hpl : (backTo pos (starEach es X.env)).any (·.1) = false := by rfl) : IE X Wx (.Call (.Name x p) (e :: es) [] pos) (eB g mr) :=
  PEi (pe_callTy hc hg hm hv ha hn hdb he hpl) fun σ H Q h => callB_in hi h
def fInt : MF := fun ws S => match ws with
  | [.int i] => .ok (.int i) S
  | [.bl k] => .ok (.int (if k then 1 else 0)) S
  | _ => .bad
theorem ci_int : CallI X (fun xs H Q => (∃ i, xs = [.int i] ∧ Q (.int i) H) ∨ ∃ k, xs = [.bl k] ∧ Q (.int (if k then 1 else 0)) H) fInt := by
  intro ρ S H ws vs Ex Q hS r h
  unfold fInt at h
  split at h
  · cases r with | cons r t => cases t; cases r; exact .inl ⟨_, rfl, h.here hS (.int _)⟩
  · cases r with | cons r t => cases t; cases r; exact .inr ⟨_, rfl, h.here hS (.int _)⟩
  · exact h.elim
def fAbs : MF := fun ws S => match ws with
  | [.int i] => .ok (.int (if i < 0 then -i else i)) S
  | _ => .bad
theorem ci_abs : CallI X (fun xs H Q => ∃ i, xs = [.int i] ∧ Q (.int (if i < 0 then -i else i)) H) fAbs := by
  intro ρ S H ws vs Ex Q hS r h
  unfold fAbs at h
  split at h
  · cases r with | cons r t => cases t; cases r; exact ⟨_, rfl, h.here hS (.int _)⟩
  · exact h.elim
def fLen : MF := fun ws S => match ws with
  | [.tup xs] => .ok (.int xs.length) S
  | [.str s] => if s.length ≤ lim then .ok (.int s.length) S else .bad
  | [.loc n] => (match seqAt S n with
    | some xs => .ok (.int xs.length) S
    | none => .bad)
  | _ => .bad
theorem ci_len : CallI X (fun xs H Q => ∃ x n, xs = [x] ∧ LenV X.K x H n ∧ Q (.int n) H) fLen := by
  intro ρ S H ws vs Ex Q hS r h
  unfold fLen at h
  split at h
  · cases r with
    | cons r t => cases t; cases r with
      | tup s t => exact ⟨_, _, rfl, .inr ⟨_, s, rfl⟩, h.here hS (by rw [t.length]; exact .int _)⟩
  · split at h
    · rename_i hz
      cases r with
      | cons r t => cases t; cases r with
        | str z =>
          rw [str_len] at hz h
          exact ⟨_, _, rfl, ⟨lim_sz hz, rfl⟩, h.here hS (.int _)⟩
    · exact h.elim
  · split at h
    · rename_i xs ex
      obtain ⟨vs, s, t⟩ := seq_of hS ex
      cases r with
      | cons r t' => cases t'; cases r; exact ⟨_, _, rfl, .inl ⟨_, s, rfl⟩, h.here hS (by rw [t.length]; exact .int _)⟩
    · exact h.elim
  · exact h.elim
def fList : MF := fun ws S => match ws with
  | [.tup xs] => .ok (.loc S.length) (S ++ [.lst xs])
  | [.loc n] => (match seqAt S n with
    | some xs => .ok (.loc S.length) (S ++ [.lst xs])
    | none => .bad)
  | _ => .bad
theorem ci_list : CallI X (fun xs H Q => ∃ p ys, xs = [.ref p] ∧ (SqL X.K H p ys ∨ SqT X.K H p ys) ∧ ∀ l, H l = none → Q (.ref l) (upd H l (.lst ys))) fList := by
  intro ρ S H ws vs Ex Q hS r h
  unfold fList at h
  split at h
  · cases r with
    | cons r t => cases t; cases r with
      | tup s t => exact ⟨_, _, rfl, .inr s, mk_lst hS t h⟩
  · split at h
    · rename_i xs ex
      obtain ⟨vs, s, t⟩ := seq_of hS ex
      cases r with
      | cons r t' => cases t'; cases r; exact ⟨_, _, rfl, .inl s, mk_lst hS t h⟩
    · exact h.elim
  · exact h.elim
def fTuple : MF := fun ws S => match ws with
  | [.tup xs] => .ok (.tup xs) S
  | [.loc n] => (match seqAt S n with
    | some xs => .ok (.tup xs) S
    | none => .bad)
  | _ => .bad
theorem ci_tuple : CallI X (fun xs H Q => ∃ p ys, xs = [.ref p] ∧ ((SqL X.K H p ys ∧ ∀ l, H l = none → Q (.ref l) (upd H l (.tup ys))) ∨ (SqT X.K H p ys ∧ Q (.ref p) H))) fTuple := by
  intro ρ S H ws vs Ex Q hS r h
  unfold fTuple at h
  split at h
  · cases r with
    | cons r t => cases t; cases r with
      | tup s t => exact ⟨_, _, rfl, .inr ⟨s, h.here hS (.tup s t)⟩⟩
  · split at h
    · rename_i xs ex
      obtain ⟨vs, s, t⟩ := seq_of hS ex
      cases r with
      | cons r t' => cases t'; cases r; exact ⟨_, _, rfl, .inl ⟨s, mk_tup hS t h⟩⟩
    · exact h.elim
  · exact h.elim
def tyP (S : Sto) : PV → Option BT
  | .non => some .none
  | .bl _ => some .bool
  | .int _ => some .int
  | .str _ => some .str
  | .tup _ => some .tuple
  | .loc n => (match S[n]? with
    | some (.lst _) => some .list
    | some (.rol _) => some .list
    | some (.dct _) => some .dict
    | some (.fdct _) => some .dict
    | some (.ptp _) => some .tuple
    | _ => none)
  | _ => none
def isB : BT → BT → Bool
  | .bool, .int => true
  | a, b => decide (a = b)
theorem kit_is : ∀ a b : BT, b ≠ .none → kitB a.name b.name = some (isB a b) := by
  intro a b hb
  cases a <;> cases b <;> first | (exact absurd rfl hb) | (decide +kernel)
theorem tyX_of {K : PySem.W.Frag} {ρ : Nat → Addr} {H : Hp} {S : Sto} (hS : RSt pw K ρ H S) {w : PV} {v : V} {t : BT} (r : RW K ρ S.length H w v) (h : tyP S w = some t) : TyX K H v (.type t.name) := by
  cases r with
  | non => cases h; exact .base .non
  | bl b => cases h; exact .base (.bl b)
  | int i => cases h; exact .base (.int i)
  | str x => cases h; exact .base (.str x)
  | tup s _ =>
    cases h
    rcases s with (s | ⟨o, s⟩) | ⟨o, its, n, hk, hc, _⟩
    · exact .base (.tup s)
    · exact .fTuple s
    · exact .kTuple hk hc
  | gl x => cases h
  | ty n => cases h
  | xn _ _ _ => cases h
  | loc n hn =>
    unfold tyP at h
    dsimp only at h
    split at h
    · rename_i e; cases h
      obtain ⟨vs, a, _⟩ := hS.at_ _ _ e
      exact .base (.lst a)
    · rename_i e; cases h
      obtain ⟨vs, a, _⟩ := hS.at_ _ _ e
      rcases a with ⟨o, a⟩ | ⟨o, its, n, hk, hc, _⟩
      · exact .base (.frz a)
      · exact .kList hk hc
    · rename_i e; cases h
      obtain ⟨vs, a, _⟩ := hS.at_ _ _ e
      exact .base (.dK a)
    · rename_i e; cases h
      obtain ⟨o, vs, a, _⟩ := hS.at_ _ _ e
      exact .fDict a
    · rename_i e; cases h
      obtain ⟨vs, a, _⟩ := hS.at_ _ _ e
      rcases a with ⟨o, a, _⟩ | ⟨o, its, n, hk, hc, _⟩
      · exact .fTuple a
      · exact .kTuple hk hc
    · cases h
def fIsi : MF := fun ws S => match ws with
  | [w, .ty b] => if b = .none then .bad else (match tyP S w with
    | some t => .ok (.bl (isB t b)) S
    | none => .bad)
  | _ => .bad
theorem ci_isi : CallI X (rIsi X.K) fIsi := by
  intro ρ S H ws vs Ex Q hS r h
  unfold fIsi at h
  split at h
  · split at h
    · exact h.elim
    · rename_i hb
      split at h
      · rename_i t et
        cases r with
        | cons r1 t => cases t with
          | cons r2 t =>
            cases t; cases r2
            exact ⟨_, _, _, _, _, rfl, .ty _, tyX_of hS r1 et, kit_ty (kit_is _ _ hb), h.here hS (.bl _)⟩
      · exact h.elim
  · exact h.elim
theorem ie_ty {t : BT} (hm : X.mg x = none) (hv : bootBuiltins x = some (.type t.name)) (hg : Gl X x := by rfl) (hn : x ≠ "__name__" := by decide) (hdb : (x == ("__debug__" : Str)) = false := by decide) : IE X Wx (.Name x p) (eC (.ty t)) :=
  PEi (pe_bltn (v := .ty t.name) hg hm hv rfl hn hdb) fun σ H Q ⟨ρ, S, ls, hS, hL, h⟩ => h ρ H _ .refl hS (.ty _)
def MtI (X : Cx) (r : V → List V → Hp → VK → Prop) (g : PV → MF) : Prop :=
  ∀ (ρ : Nat → Addr) (S : Sto) (H : Hp) (w : PV) (ws : List PV) (v : V) (vs : List V) (Ex : XK) (Q : VK), RSt (pwX X) X.K ρ H S → RW X.K ρ S.length H w v → RWs X.K ρ S.length H ws vs → Post (pwX X) RW X.K ρ S.length H Ex (g w ws S) Q → r v vs H Q
def eMt (chk : PV → Sto → Bool) (g : PV → MF) (o : ME) (args : MA) : ME := fun ls S => (o ls S).bind fun w S1 => if chk w S1 = true then (args ls S1).bind fun ws S2 => g w ws S2 else .bad
def kList : PV → Sto → Bool := fun w S => match w with
  | .loc n => (seqAt S n).isSome
  | _ => false
def kStr : PV → Sto → Bool := fun w _ => match w with
  | .str _ => true
  | _ => false
def ChkT (X : Cx) (T : String) (chk : PV → Sto → Bool) : Prop := ∀ (ρ : Nat → Addr) (S : Sto) (H : Hp) (w : PV) (v : V), RSt (pwX X) X.K ρ H S → RW X.K ρ S.length H w v → chk w S = true → tyV X.K T v H
theorem chk_list : ChkT X "list" kList := by
  intro ρ S H w v hS r h
  unfold kList at h
  split at h
  · rename_i n
    cases e : seqAt S n with
    | none => rw [e] at h; cases h
    | some xs =>
      obtain ⟨vs, s, _⟩ := seq_of hS e
      cases r
      exact .inl ⟨rfl, _, s⟩
  · cases h
theorem chk_str : ChkT X "str" kStr := by
  intro ρ S H w v hS r h
  unfold kStr at h
  split at h
  · cases r; rfl
  · cases h
variable {name : Str} {apos cpos : Pos} {rm : V → List V → Hp → VK → Prop} {gm : PV → MF} {chk : PV → Sto → Bool}
theorem ie_mt (pa : PlainAttrs T) (slot : Slot T name id) (hty : typeOf (.builtin id) = pure (.type "method_descriptor")) (hm : MtR X id rm) (hk : ChkT X T chk) (hi : MtI X rm gm) (ho : IE X Wx o mo) (ha : IA X Wx (e :: es) mr)
    (hbase : attributeBase o name X.env (eval o X.env) = eval o X.env := by rfl)
    (hfew : ((backTo cpos (starEach (e :: es) X.env)).all (fun x => !x.1) && (backToKw cpos (keywordEach [] X.env)).all (fun x => x.1.isSome)
      && decide ((e :: es).length + ([] : List Keyword).length + (if ([] : List Keyword).isEmpty then 0 else 1) < 30)) = true := by rfl)
    (hline : (apos.endLine == cpos.line) = true := by rfl) (hs : starEach (e :: es) X.env = (false, eval e X.env) :: starEach es X.env := by rfl) (hplain : (backTo cpos (starEach es X.env)).any (·.1) = false := by rfl) :
    IE X Wx (.Call (.Attribute o name apos) (e :: es) [] cpos) (eMt chk gm mo mr) :=
  PEi (pe_bm pa slot hty hm ho ha hbase hfew hline hs hplain) fun σ H Q ⟨ρ, S, ls, hS, hL, h⟩ => ⟨ρ, S, ls, hS, hL, (Post.bind (R := RW) h).imp fun x H1 ⟨ρ1, S1, w1, e1, hS1, r1, h1⟩ => by
    split at h1
    · rename_i hc
      exact ⟨hk _ _ _ _ _ hS1 r1 hc, ρ1, S1, ls, hS1, hL.ext e1, (Post.bind (R := RWs) h1).imp fun vs H2 ⟨ρ2, S2, ws, e2, hS2, r2, h2⟩ => hi ρ2 S2 H2 _ _ _ _ _ Q hS2 (r1.ext e2) r2 h2⟩
    · exact h1.elim⟩
theorem ie_mt0 (pa : PlainAttrs T) (slot : Slot T name id) (hty : typeOf (.builtin id) = pure (.type "method_descriptor")) (hm : MtR X id rm) (hk : ChkT X T chk) (hi : MtI X rm gm) (ho : IE X Wx o mo)
    (hbase : attributeBase o name X.env (eval o X.env) = eval o X.env := by rfl) (hline : (apos.endLine == cpos.line) = true := by rfl) : IE X Wx (.Call (.Attribute o name apos) [] [] cpos) (eMt chk gm mo aNil) :=
  PEi (pe_bm0 pa slot hty hm ho hbase hline) fun σ H Q ⟨ρ, S, ls, hS, hL, h⟩ => ⟨ρ, S, ls, hS, hL, (Post.bind (R := RW) h).imp fun x H1 ⟨ρ1, S1, w1, e1, hS1, r1, h1⟩ => by
    split at h1
    · rename_i hc
      exact ⟨hk _ _ _ _ _ hS1 r1 hc, hi ρ1 S1 H1 _ [] _ [] (fun c d H' => Wx c d σ H') Q hS1 r1 .nil h1⟩
    · exact h1.elim⟩
def mAppend : PV → MF := fun w ws S => match w, ws with
  | .loc n, [y] => (match lstAt S n with
    | some xs => if xs.length < lim then .ok .non (S.set n (.lst (xs ++ [y]))) else .bad
    | none => .bad)
  | _, _ => .bad
theorem mi_append : MtI X rAppend mAppend := by
  intro ρ S H w ws v vs Ex Q hS r rs h
  unfold mAppend at h
  split at h
  · split at h
    · split at h
      · rename_i xs ex hz
        cases r
        cases rs with
        | cons ry t =>
          cases t
          obtain ⟨us, hu, t⟩ := lst_of hS ex
          obtain ⟨s2, e2⟩ := set_lst hS ex (t.app (.cons ry .nil))
          exact ⟨_, us, _, rfl, rfl, hu, by rw [← t.length]; exact lim_lt hz, h ρ _ _ e2 s2 .non⟩
      · exact h.elim
    · exact h.elim
  · exact h.elim
def mPop : PV → MF := fun w ws S => match w, ws with
  | .loc n, [] => (match lstAt S n with
    | some xs => (match xs[xs.length - 1]? with
      | some y => .ok y (S.set n (.lst xs.dropLast))
      | none => .bad)
    | none => .bad)
  | _, _ => .bad
theorem mi_pop : MtI X rPop mPop := by
  intro ρ S H w ws v vs Ex Q hS r rs h
  unfold mPop at h
  split at h
  · split at h
    · split at h
      · rename_i xs ex _ y ey
        cases r; cases rs
        obtain ⟨us, hu, t⟩ := lst_of hS ex
        obtain ⟨z, hz, rz⟩ := t.get ey
        obtain ⟨s2, e2⟩ := set_lst hS ex t.dropLast
        exact ⟨_, us, z, rfl, rfl, hu, by rw [← t.length]; exact hz, h ρ _ _ e2 s2 (rz.ext (by rw [List.length_set] at e2; exact e2) |> fun q => by rw [List.length_set]; exact q)⟩
      · exact h.elim
    · exact h.elim
  · exact h.elim
def mSplit : PV → MF := fun w ws S => match w, ws with
  | .str a, [.str b] => if (decide (b ≠ []) && decide (a.length < lim)) = true then .ok (.loc S.length) (S ++ [.lst ((Txt.split (toS a) (toS b)).map fun z => .str z.cps.toList)]) else .bad
  | _, _ => .bad
theorem strs_rel {K : PySem.W.Frag} {ρ : Nat → Addr} {N : Nat} {H : Hp} : ∀ l : List Str, RWs K ρ N H (l.map fun z => .str z.cps.toList) (l.map V.str)
  | [] => .nil
  | z :: r => .cons (.str z) (strs_rel r)
theorem mi_split : MtI X (fun x xs H Q => ∃ a b, x = .str a ∧ xs = [.str b] ∧ (b.length == 0) = false ∧ a.length + 2 ≤ sizeLine ∧ rNewStrs (Txt.split a b) H Q) mSplit := by
  intro ρ S H w ws v vs Ex Q hS r rs h
  unfold mSplit at h
  split at h
  · split at h
    · rename_i q
      rw [Bool.and_eq_true] at q
      cases r with
      | str a => cases rs with
        | cons ry t => cases t; cases ry with
          | str b =>
            rw [toS_cps, toS_cps] at h
            refine ⟨a, b, rfl, rfl, ?_, ?_, mk_lst hS (strs_rel _) h⟩
            · have q1 := of_decide_eq_true q.1
              rw [beq_eq_false_iff_ne]
              intro z
              apply q1
              rw [← List.length_eq_zero_iff, str_len]; exact z
            · have q2 := of_decide_eq_true q.2
              rw [str_len] at q2
              have : lim = 100000 := rfl
              have e : sizeLine = 16777216 := sizeLine_eq
              omega
    · exact h.elim
  · exact h.elim
variable {c : Expr} {mc : ME} {r' : R2} {gg gg' : PV → PV → Sto → Out PV} {rr : R2}
theorem it_chain {op op' : CmpOp} (ho : OpR X (compareOp op) rr) (ho' : OpR X (compareOp op') r') (hi : OpI X Wx rr gg) (hi' : OpI X Wx r' gg') (ha : IE X Wx a ma) (hb : IE X Wx b mb) (hc : IE X Wx c mc) (hm : lastMarks [op, op'] [b, c] = false := by with_unfolding_all rfl) :
    IT X Wx (.Compare a [op, op'] [b, c] pos) (toT (eChain gg gg' ma mb mc)) := PTi (pt_chain ho ho' ha hb hc hm) fun σ H Q h => chain_in hi hi' (test_in h)
def eNegM (a : ME) : ME := fun ls S => (a ls S).bind fun w S1 => match w with
  | .int i => .ok (.int (-i)) S1
  | _ => .bad
theorem ie_neg (ha : IE X Wx a ma) : IE X Wx (.UnaryOp .USub a pos) (eNegM ma) :=
  PEi (pe_un un_neg ha) fun σ H Q ⟨ρ, S, ls, hS, hL, h⟩ => ⟨ρ, S, ls, hS, hL, (Post.bind (R := RW) h).imp fun x H1 ⟨ρ1, S1, w1, e1, hS1, r1, h1⟩ => by
    split at h1
    · cases r1
      exact ⟨_, rfl, h1 ρ1 H1 _ .refl hS1 (.int _)⟩
    · exact h1.elim⟩
end
end GL
set_option Elab.async false
set_option linter.all false
set_option maxRecDepth 100000
set_option maxHeartbeats 1000000
namespace GL
open PySem PySem.Spec PyProof.Rows L2
variable {pw : PgW}
def all2 {α β : Type} (f : α → β → Bool) : List α → List β → Bool
  | [], [] => true
  | a :: r, b :: s => f a b && all2 f r s
  | _, _ => false
def gvB (K : PySem.W.Frag) : Nat → PV → Value → Bool
  | 0, _, _ => false
  | f + 1, w, u => match w, u with
    | .non, .none => true
    | .bl a, .bool b => a == b
    | .int i, .int j _ => decide (j = i)
    | .str l, .str x _ => decide (x.cps.toList = l)
    | .tup ws, .ref a => (match K.lookup a with
      | some ⟨.type c, _, .seq its _, _⟩ => decide (c = "tuple") && (decide (its.size ≤ sizeLine) && all2 (gvB K f) ws its.toList)
      | _ => false)
    | .gl x, .ref a => decide (a = He.ga K (toS x))
    | .ty b, .type n => decide (n = b.name)
    | _, _ => false
theorem gv_all {K : PySem.W.Frag} {g : PV → Value → Bool} (h : ∀ w u, g w u = true → ∃ v, RelV v u ∧ GVal K v w) : ∀ {ws : List PV} {us : List Value}, all2 g ws us = true →
    ∃ vs, Vals vs us ∧ ∀ ρ N H, RWs K ρ N H ws vs
  | [], [], _ => ⟨[], .nil, fun _ _ _ => .nil⟩
  | [], _ :: _, e => by cases e
  | _ :: _, [], e => by cases e
  | w :: ws, u :: us, e => by
    have e2 := Bool.and_eq_true_iff.mp (show (g w u && all2 g ws us) = true from e)
    obtain ⟨v, r, q⟩ := h w u e2.1
    obtain ⟨vs, r2, q2⟩ := gv_all h e2.2
    exact ⟨v :: vs, .cons r r2, fun ρ N H => .cons (q ρ N H) (q2 ρ N H)⟩
theorem gv_ok {K : PySem.W.Frag} : ∀ {f : Nat} {w : PV} {u : Value}, gvB K f w u = true → ∃ v, RelV v u ∧ GVal K v w
  | 0, _, _, h => by cases h
  | f + 1, w, u, h => by
    unfold gvB at h
    split at h
    · exact ⟨.non, rfl, fun _ _ _ => .non⟩
    · have e := eq_of_beq h
      subst e
      exact ⟨.bl _, rfl, fun _ _ _ => .bl _⟩
    · have e := of_decide_eq_true h
      subst e
      exact ⟨.int _, ⟨_, rfl⟩, fun _ _ _ => .int _⟩
    · have e := of_decide_eq_true h
      subst e
      exact ⟨.str _, ⟨_, rfl⟩, fun _ _ _ => .str _⟩
    · split at h
      · rename_i ws a _ c dd its n sl q
        have e := Bool.and_eq_true_iff.mp h
        have e2 := Bool.and_eq_true_iff.mp e.2
        obtain ⟨vs, r, g⟩ := gv_all (K := K) (g := gvB K f) (fun w u => gv_ok) e2.2
        have ec := of_decide_eq_true e.1
        exact ⟨.ref a, rfl, fun ρ N H => .tup (.inr ⟨_, its, n, q, by rw [ec], rfl, of_decide_eq_true e2.1, r⟩) (g ρ N H)⟩
      · cases h
    · have e := of_decide_eq_true h
      subst e
      exact ⟨.ref _, rfl, fun _ _ _ => .gl _⟩
    · have e := of_decide_eq_true h
      subst e
      exact ⟨.ty _, rfl, fun _ _ _ => .ty _⟩
    · cases h
def conV (K : PySem.W.Frag) (x : Str) (w : PV) : Bool := match PySem.W.nsIn K mainGlobals x with
  | some (some u) => gvB K 20 w u
  | _ => false
structure GCon (K : PySem.W.Frag) (mg : Str → Option Value) (x : Str) (w : PV) : Prop where
  ex : ∃ u v, mg x = some u ∧ RelV v u ∧ GVal K v w
theorem conV_ok {K : PySem.W.Frag} {h : Heap} {mg : Str → Option Value} {x : Str} {w : PV} (X : K.In h) (G : h.Ns mainGlobals mg) (c : conV K x w = true) : GCon K mg x w := by
  unfold conV at c
  split at c
  · rename_i u e
    obtain ⟨v, r, g⟩ := gv_ok c
    exact ⟨u, v, PySem.W.mg_of X G e, r, g⟩
  · cases c
def dflV (K : PySem.W.Frag) (f : Str × Option Str) (i : Nat) (w : PV) : Bool := gvB K 20 w (.ref (He.dflAt f i K))
theorem dflV_ok {K : PySem.W.Frag} {f : Str × Option Str} {i : Nat} {w : PV} (c : dflV K f i w = true) : GVal K (.ref (He.dflAt f i K)) w := by
  obtain ⟨v, r, g⟩ := gv_ok c
  have e : v = .ref (He.dflAt f i K) := RelV.inj r (show RelV (.ref (He.dflAt f i K)) (.ref (He.dflAt f i K)) from rfl)
  rw [← e]; exact g
theorem ie_con {X : Cx} {Wx : WX} {pos : Pos} {x : Str} {w : PV} (c : GCon X.K X.mg x w) (hg : Gl X x := by rfl) (hd : (x == ("__debug__" : Str)) = false := by decide) : IE X Wx (.Name x pos) (eC w) := by
  obtain ⟨u, v, a, b, g⟩ := c.ex
  exact ie_glob hg a b g hd
def obsB (fb : PySem.W.Frag → Bool) (fn : List He.DefD) (K : PySem.W.Frag) : He.AlD := (fb K && fn.all fun d => d.ok K, fn.map fun d => He.fnW K d.at_)
def SaysB (fb : PySem.W.Frag → Bool) (fn : List He.DefD) (K : PySem.W.Frag) : Prop := obsB fb fn K = He.valD fn
section
variable {fb : PySem.W.Frag → Bool} {fn : List He.DefD} {K : PySem.W.Frag}
theorem SaysB.facts (c : SaysB fb fn K) : fb K = true := (Bool.and_eq_true_iff.mp (show (fb K && fn.all fun d => d.ok K) = true from congrArg (fun z : He.AlD => z.1) c)).1
theorem SaysB.defs (c : SaysB fb fn K) (i : Nat) {d : He.DefD} (h : fn[i]? = some d := by rfl) : ∃ fd, FunD K d.name d.qual d.params d.body d.scope (d.dvs K) (d.kws K) (He.fAd K d.at_) fd := by
  have c2 := (Bool.and_eq_true_iff.mp (show (fb K && fn.all fun d => d.ok K) = true from congrArg (fun z : He.AlD => z.1) c)).2
  have e : fn.map (fun d => He.fnW K d.at_) = fn.map He.DefD.val := congrArg (fun z : He.AlD => z.2) c
  have e2 : (fn.map fun d => He.fnW K d.at_)[i]? = (fn.map He.DefD.val)[i]? := by rw [e]
  rw [List.getElem?_map, List.getElem?_map, h] at e2
  exact He.DefD.funD (Option.some.inj e2) (List.all_eq_true.mp c2 d (List.mem_of_getElem? h))
end
def allB (fs : List (PySem.W.Frag → Bool)) (K : PySem.W.Frag) : Bool := fs.all fun f => f K
theorem allB_at {fs : List (PySem.W.Frag → Bool)} {K : PySem.W.Frag} (h : allB fs K = true) (i : Nat) {f : PySem.W.Frag → Bool} (e : fs[i]? = some f := by rfl) : f K = true := List.all_eq_true.mp h f (List.mem_of_getElem? e)
theorem RWs.ints {K : PySem.W.Frag} {ρ : Nat → Addr} {N : Nat} {H : Hp} : ∀ ns : List Int, RWs K ρ N H (ns.map PV.int) (ns.map V.int)
  | [] => .nil
  | n :: r => .cons (.int n) (RWs.ints r)
theorem law_sp {K : PySem.W.Frag} {np N : Nat} {mb : MS} (hnp : np = 1) (h : ∀ ns : List Int, ns.length ≤ 63 → ∃ S', fnOf np N mb [.loc 0] [.rol (ns.map .int)] = .ok (.bl true) S') (H : Hp) (a : Addr) (ns : List Int) (hl : ns.length ≤ 63) (hO : Only H) (hS : SqL K H a (ns.map V.int)) :
    spI pw K np (fnOf np N mb) [.ref a] H (fun v _ => v = .bl true) fun _ _ _ => False := by
  subst hnp
  have ro : RoL K H a (ns.map V.int) := by
    rcases hS with (hS | hS) | hS
    · rcases hO a with z | ⟨o, xs, z⟩
      · rw [z] at hS; cases hS
      · rw [z] at hS; cases hS
    · exact .inl hS
    · exact .inr hS
  obtain ⟨S', e⟩ := h ns hl
  refine ⟨fun _ => a, [.rol (ns.map .int)], [.loc 0], ⟨fun n o hn => ?_, fun n m o o' hn hm q _ _ => ?_⟩, .cons (.loc (ρ := fun _ => a) 0 (Nat.lt_succ_self 0)) .nil, rfl, ?_⟩
  · cases n with
    | zero => cases hn; exact ⟨_, ro, RWs.ints ns⟩
    | succ n => simp at hn
  · cases n with
    | zero => cases hn; cases q
    | succ n => simp at hn
  · rw [e]
    exact fun ρ' H' v _ _ r => by cases r; rfl
theorem cx_none {P : Program} {w : World} {H : Hp} {s : Shared} {e : Value} {s' : Shared} (h : L2.CX P w [] H s (fun _ _ _ => False) e s') : False := by
  obtain ⟨_, _, _, _, _, _, _, _, _, _, _, _, z⟩ := h
  exact z
theorem walk_end {l : PySem.W.OpenLaw} {n k : Nat} {q : Program} {loose : List Str} {XP : (Str → Option Value) → Heap → Prop} {YP : World → Heap → Prop} {d : DefRec} {x : Str}
    (hn : l.most = some n) (hz : n ≤ sizeLine) (hdf : d.params.defaults = []) (hr : Room k callerA)
    (F : ∀ (w : World) (mg : Str → Option Value) (fa : Addr) (h : Heap), YP w h → h.Ns mainGlobals mg → mg d.name = some (.ref fa) → ∃ (K : PySem.W.Frag) (fd : FuncData) (sp : Sp),
      K.In h ∧ (∀ (s : Shared) (u : Value), BindsTo s fd ⟨[u], []⟩ [(x, u)]) ∧
      (∀ (H : Hp) (a : Addr) (ns : List Int), ns.length ≤ n → Only H → SqL K H a (ns.map V.int) → sp [.ref a] H (fun v _ => v = .bl true) fun _ _ _ => False) ∧
      ∀ base : Heap, K.In base → base.Ns mainGlobals mg → FnOk l.prog w K mg base (L2.CX l.prog w) k fa fd [x] sp) :
    PySem.W.WalkO q loose XP YP l.row.toRowW d [] (fun f vs => PySem.call f vs) := by
  apply Att.attach_call hn hdf
  intro w s₀ s₁ mg mb fa o pm cd doc a vs ns G Y ho hd hcd hmg hobj hints hlen hg
  obtain ⟨K, fd, sp, KX, hb, hsp, hF⟩ := F w mg fa _ Y G.T.g hmg
  have go := law_call KX G.T.g G.T.b G.T.builtins G.T.nolimit hg hobj hints (Nat.le_trans hlen hz) hr hF hb
  exact go (fun H hO hS => hsp H a ns hlen hO hS) fun H e s' z => cx_none z
end GL
set_option Elab.async false
set_option linter.all false
set_option maxRecDepth 100000
set_option maxHeartbeats 1000000
namespace GL
open PySem PySem.Spec PyProof.Rows L2
end GL
set_option Elab.async false
set_option linter.all false
set_option maxRecDepth 100000
set_option maxHeartbeats 1000000
namespace GL
open PySem PySem.Spec PyProof.Rows L2
structure FnScopeK (N P : List Str) (sc : Scope) : Prop where
  kind : sc.kind = .function
  co : sc.isCoroutine = false
  gen : sc.isGenerator = false
  nd : N.Nodup
  pre : N.take P.length = P
  par : ∀ x ∈ P, sc.names.lookup x = some .local
  nocell : ∀ y ∈ sc.names, y.2 ≠ .cell
  free : ∀ y ∈ sc.names, y.2 = .free → y.1 = "__class__"
abbrev kEnv (qual : Str) (scope : Scope) (L f : Addr) (cd : Value) (cc : Addr) : Env := PySem.W.ksEnv qual scope L f cd cc
def cxK (CX : CXT) (P : Program) (w : World) (K : PySem.W.Frag) (mg : Str → Option Value) (base : Heap) (N : List Str) (qual : Str) (scope : Scope) (f : Addr) (cd : Value) (cc : Addr) (A : Around) (outer : List Env) (s : Shared) (H : Hp) (E : XK) : Cx where
  prog := P
  w := w
  K := K
  mg := mg
  base := base
  A := A.deeper (kEnv qual scope s.heap.objs.size f cd cc)
  N := N
  s_0 := s
  H_0 := H
  env := kEnv qual scope s.heap.objs.size f cd cc
  outer := outer
  stack := kEnv qual scope s.heap.objs.size f cd cc :: outer
  ex := []
  calm := true
  fn := fun _ => false
  pn := []
  xe := fun e s' => wpAny (model P w) (A.deeper (kEnv qual scope s.heap.objs.size f cd cc)) (leaving (kEnv qual scope s.heap.objs.size f cd cc) e) (fun _ s'' => CX outer H s E e s'') (fun e' s'' => CX outer H s E e' s'') s'
theorem zip_get {x : Str} {v : Value} : ∀ {P : List Str} {vs : List Value} {i : Nat}, P.Nodup → P[i]? = some x → vs[i]? = some v → (P.zip vs).lookup x = some v
  | [], _, _, _, h, _ => by simp at h
  | _ :: _, [], _, _, _, h => by simp at h
  | p :: P, w :: vs, 0, nd, h1, h2 => by
    simp at h1 h2; subst h1; subst h2
    show List.lookup p ((p, w) :: P.zip vs) = _
    simp [List.lookup]
  | p :: P, w :: vs, i + 1, nd, h1, h2 => by
    have hm : x ∈ P := List.mem_of_getElem? (show P[i]? = some x by simpa using h1)
    have ne : ¬ x = p := fun e => (List.nodup_cons.mp nd).1 (e ▸ hm)
    have e : (x == p) = false := by simpa using ne
    show List.lookup x ((p, w) :: P.zip vs) = _
    rw [List.lookup_cons, e]
    exact zip_get (i := i) (List.nodup_cons.mp nd).2 (by simpa using h1) (by simpa using h2)
theorem inv_startK {CX : CXT} {P : Program} {w : World} {K : PySem.W.Frag} {mg : Str → Option Value} {base : Heap} {N ps : List Str} {qual : Str} {scope : Scope} {f cc D : Addr} {cd ccl : Value} {cld : Option Addr} {csl : Array (Option Value)} {A : Around} {outer : List Env} {s : Shared} {h1 : Heap} {tk : Nat} {H : Hp} {E : XK} {us : List Value} {vs : List V}
    (S : FnScopeK N ps scope) (kc : K.lookup cc = some ⟨ccl, cld, .cell (some (.ref D)), csl⟩) (hd : A.handled = none) (e0 : Env0 P w K mg base A outer s H) (hl : vs.length = ps.length) (r : Vals vs us)
    (hns : h1.Ns s.heap.objs.size (fun x => (ps.zip us).reverse.lookup x)) (hk : ∀ b o, s.heap.get? b = some o → h1.get? b = some o) :
    Inv (cxK CX P w K mg base N qual scope f cd cc A outer s H E) [] (L2.start N vs) H { s with heap := h1, toks := tk } := by
  have hpl : ps.length ≤ N.length := by have := congrArg List.length S.pre; rw [List.length_take] at this; omega
  have hcb := e0.mod.kin _ _ kc
  have noA : ∀ b : Addr, b ∉ (cxK CX P w K mg base N qual scope f cd cc A outer s H E).ex := fun b z => absurd (show b ∈ ([] : List Addr) from z) (by simp)
  have one : ∀ {x : Str} {c : Addr}, ([("__class__", cc)] : List (Str × Addr)).lookup x = some c → x = "__class__" ∧ c = cc := by
    intro x c h
    rw [List.lookup_cons] at h
    split at h
    · rename_i e
      exact ⟨by simpa using e, (Option.some.inj h).symm⟩
    · cases h
  have key : ∀ {y : Str}, (kEnv qual scope s.heap.objs.size f cd cc).kindOf y = some .cell ∨ (kEnv qual scope s.heap.objs.size f cd cc).kindOf y = some .free → y = "__class__" := by
    intro y hy
    have hy : scope.names.lookup y = some .cell ∨ scope.names.lookup y = some .free := hy
    rcases hy with hy | hy
    · exact absurd rfl (S.nocell _ (PySem.mem_of_lookup hy))
    · exact S.free _ (PySem.mem_of_lookup hy) rfl
  refine ⟨⟨e0.mod, S.kind, rfl, rfl, Nat.le_refl _, fun y z c h1 h2 => ?_, fun y hy => ?_, fun y c h => absurd (show false = true from h) (by decide), fun _ => hd, Around.frames_deeper e0.frames, .inr ⟨rfl, rfl⟩, fun b z => absurd z (noA b), e0.bs, e0.bsz, fun b _ _ => noA b, fun b z => absurd z (noA b), e0.funs, e0.frf⟩,
    rfl, e0.bare, Un.kept hk, ⟨_, hns, fun i y v h1 h2 h3 => ?_⟩, fun y c h => ?_, e0.hok.fresh (Nat.le_refl _), fun y c h => ?_, fun p hp => absurd (show p ∈ ([] : List (Addr × Obj)) from hp) (by simp), e0.hok.kept hk, ?_⟩
  · rw [(one h1).1, (one h2).1]
  · rw [key hy]; exact ⟨cc, rfl⟩
  · have hi : i < vs.length := by
      unfold L2.start at h2
      by_cases hi : i < vs.length
      · exact hi
      · rw [List.getElem?_append_right (by simpa using hi)] at h2
        rw [List.getElem?_replicate] at h2
        split at h2 <;> cases h2
    have ha : vs[i]? = some v := by
      unfold L2.start at h2
      rw [List.getElem?_append_left (by simpa using hi), List.getElem?_map] at h2
      cases e : vs[i]? with
      | none => rw [e] at h2; cases h2
      | some a => rw [e] at h2; cases h2; rfl
    obtain ⟨u, hu, rv⟩ := r.get ha
    have hp : ps[i]? = some y := by
      rw [← S.pre, List.getElem?_take_of_lt (by omega)]; exact h1
    have ndP : ps.Nodup := by rw [← S.pre]; exact S.nd.sublist (List.take_sublist _ _)
    refine ⟨u, rv, .inl ⟨S.par y (List.mem_of_getElem? hp), ?_⟩⟩
    show (ps.zip us).reverse.lookup y = some u
    rw [lookup_reverse_of_nodup _ (by rw [List.map_fst_zip (by rw [← r.length, hl]; exact Nat.le_refl _)]; exact ndP)]
    exact zip_get ndP hp hu
  · rw [(one h).2]
    exact ⟨_, _, hk _ _ (e0.bs _ _ hcb).1, rfl⟩
  · rw [(one h).2]
    exact (e0.bs _ _ hcb).2
  · unfold L2.start
    show _ = N.length
    rw [List.length_append, List.length_map, List.length_replicate]
    omega
end GL
set_option Elab.async false
set_option linter.all false
set_option maxRecDepth 100000
set_option maxHeartbeats 2000000
namespace GL
open PySem PySem.Spec PyProof.Rows L2
structure SupK (X : Cx) (f cda cc C : Addr) (x : Str) : Prop where
  fu : X.env.func = some f
  fd : ∃ oc od osl fd ar, X.K.lookup f = some ⟨oc, od, .func fd, osl⟩ ∧ (fd.params.posonlyargs ++ fd.params.args).head? = some ar ∧ ar.arg = x
  co : X.env.code = .ref cda
  cd : ∃ ccl cdd ccs vs file tf, X.K.lookup cda = some ⟨ccl, cdd, .fields vs, ccs⟩ ∧ vs[2]? = some (.str file tf) ∧ ((X.prog.main.file : Str) == file) = true
  ce : X.env.cells = [(("__class__" : Str), cc)]
  cl : ∃ ccl cld csl, X.K.lookup cc = some ⟨ccl, cld, .cell (some (.ref C)), csl⟩
  sup : X.mg "super" = none
  ks : X.env.kindOf "super" = some .globalImplicit
  kc : X.env.kindOf "__class__" = some .free
  kx : X.env.kindOf x = some .local
  n0 : X.N[0]? = some x
  top : (X.prog.main.scope.names.lookup ("super" : Str)).isSome = false
  opq : PySem.W.nsIn X.K cStatics "thirdparty.any" = some none
  ini : PySem.W.ks_superIn X.K C C "__init__" = some (some (.builtin "ValueError.__init__"))
  sub : PySem.W.subIn X.K (.ref C) (.type "ValueError") = some true
  mro : PySem.W.mroIn X.K C (.ref C) = some true
  oex : OexC X.K C
section
variable {X : Cx} {f cda cc C a : Addr} {x : Str} {pins : List (Addr × Obj)} {σ : L2.St} {H : Hp} {s : Shared} {body : List Stmt} {p0 p1 : Pos} {whole : Sem Value} {Q : Value → Shared → Prop} {E : Value → Shared → Prop}
theorem sup_base (Z : SupK X f cda cc C x) (I : Inv X pins σ H s) (h0 : σ[0]? = some (some (.ref a))) (ha : H a = some (exo a C none))
    (h : ∀ so h', (∀ y o, s.heap.get? y = some o → h'.get? y = some o) → so = s.heap.objs.size → h'.get? so = some (PySem.W.ks_superObj C a C) → Q (.ref so) { s with heap := h' }) :
    _root_.PySem.wpAt (model X.prog X.w) X.A (.func body X.env) (attributeBase (.Call (.Name "super" p0) [] [] p1) "__init__" X.env whole) Q E s := by
  obtain ⟨oc, od, osl, fd, ar, lk, hh, rfl⟩ := Z.fd
  obtain ⟨ccl, cdd, ccs, vs, file, tf, lc, hv2, hfile⟩ := Z.cd
  obtain ⟨cl, cld, csl, lcell⟩ := Z.cl
  have KI := I.kIn
  obtain ⟨t1, hoe⟩ := exo_at I.hok ha
  obtain ⟨nm, q, N, bs, bm, sn, sub, ab, col, dd, k0, k1, k2, k3, k5, hC, hbm⟩ := Z.oex.cls
  have hCo := KI _ _ hC
  obtain ⟨m, hns, hl⟩ := I.loc
  obtain ⟨u, ru, lu⟩ := hl 0 ar.arg (.ref a) Z.n0 h0 (.inl Z.kx)
  obtain rfl : u = Value.ref a := ru
  have hm : m ar.arg = some (.ref a) := by
    rcases lu with ⟨_, e⟩ | ⟨e, _⟩
    · exact e
    · rw [Z.kx] at e; rcases e with e | e <;> cases e
  obtain ⟨mb, b1, b2⟩ := I.mod.blt
  obtain ⟨hp, g, d, t, os⟩ := s
  refine ks_wpAt_super_base Z.ks Z.kc (by decide) Z.fu (KI _ _ lk) rfl hh Z.co (KI _ _ lc) rfl hv2 hfile Z.top ?_
  refine PySem.W.ks_loadName_global I.ok.kind Z.ks (Calls.loadGlobal_builtin (by rw [I.ok.glob]; exact I.mod.glob.keeps I.bk) Z.sup (by rw [I.ok.blt]; exact b1.keeps I.bk) ((b2 _ (by decide)).trans (by decide +kernel)) ⟨rfl, ?_⟩)
  refine wpAny_loadName_free I.ok.kind Z.kc (c := cc) (by rw [Z.ce]; rfl) ⟨_, KI _ _ lcell, rfl⟩ ?_
  refine wpAny_loadName_local I.ok.kind Z.kx hns hm ?_
  refine ks_wpAny_isType_cls hCo rfl ⟨rfl, ?_⟩
  refine ks_wpAny_call_super hCo rfl hoe rfl (fun c e => by cases e) (PySem.W.looks_mroIn KI Z.mro) (fun h' e k => ?_)
  exact h _ _ k rfl e
theorem call_mw {prog : Program} {w : World} {A : Around} {E : Value → Shared → Prop} {h : Heap} {g : Array GenState} {d : Drawn} {t : Nat} {os : OsState} {nm q : Str} {C N : Addr} {bs bm : List Value} {hdct : Bool} {sn : List Str} {sub : List Value} {ab : Bool} {col : Option Bool} {dd : Option Addr} {k0 k1 k2 k3 k5 : Option Value}
    {u e t0 : Addr} {rest : List Value} {Q : Value → Shared → Prop}
    (hC : h.get? C = some (excClassObj nm q C N bs bm hdct sn sub ab col dd k0 k1 k2 k3 k5 "ValueError.__new__")) (he : h.get? e = some (HandSPX.excO C t0)) (hu : h.get? u = some (PySem.W.kxs_mw "ValueError.__init__" e)) (hrest : rest.length ≤ sizeLine)
    (hq : ∀ h' t1, (∀ b o, b ≠ e → h.get? b = some o → h'.get? b = some o) → h'.get? e = some (HandSPX.excO C t1) → Q .none ⟨h', g, d, t, os⟩) :
    wpAny (model prog w) A (call (.ref u) rest) Q E ⟨h, g, d, t, os⟩ := by
  refine wpAny_call (codeAny_of_tree ?_)
  show wpAny _ A.in1 (callAny (.ref u) ⟨rest, []⟩) _ _ _
  simp only [callAny]
  refine wpAny_bind (wpAny_load hu ?_)
  simp only [PySem.W.kxs_mw, show (Value.type "method-wrapper" == Value.type "method" || Value.type "method-wrapper" == Value.type "builtin_function_or_method" || Value.type "method-wrapper" == Value.type "method-wrapper") = true by decide, if_true]
  refine PySem.W.KFB.if_so (by decide) ?_
  refine wpAny_bind (ESX.check_bound F.excBase_ValueError hC he rfl ?_)
  refine wpAny_bind (wpAny_pure (wpAny_pure ?_))
  refine ⟨Code.quiet_builtin _ (by decide +kernel), codeAny_builtin F.excBase_ValueError.initEntry ?_⟩
  rw [Around.under_plainId F.excBase_ValueError.init.plain _]
  wp_walk
  refine hq _ h.objs.size (fun b o hb ho => ?_) ?_
  · rw [Heap.get?_update_other _ _ (Ne.symm hb)]
    exact Heap.get?_push_of_some _ ho
  · rw [Heap.get?_update_self _ (Heap.get?_push_of_some _ he) rfl]
    rfl
theorem sup_call {e : Expr} {es : List Expr} {ta : TA} {p2 pos : Pos} {pl : Sem Bool} {Q0 : Hp → Prop} (Z : SupK X f cda cc C x) (I : Inv X pins σ H s) (h0 : σ[0]? = some (some (.ref a))) (ha : H a = some (exo a C none)) (hA : PA X (e :: es) ta)
    (h : ta σ H fun vs H1 => vs.length ≤ 1000 ∧ H1 a = some (exo a C none) ∧ Q0 H1)
    (hc : eval (.Call (.Attribute (.Call (.Name "super" p0) [] [] p1) "__init__" p2) (e :: es) [] pos) X.env = (do
      let ov ← attributeBase (.Call (.Name "super" p0) [] [] p1) "__init__" X.env (eval (.Call (.Name "super" p0) [] [] p1) X.env)
      standAt p2.atName
      let (f, first) ← holding [ov] (getMethod ov "__init__" pl)
      callWith pos f first (backTo pos (starEach (e :: es) X.env)) (backToKw pos (keywordEach [] X.env))) := by rfl)
    (he : starEach (e :: es) X.env = (false, eval e X.env) :: starEach es X.env := by rfl) (hpl : (backTo pos (starEach es X.env)).any (·.1) = false := by rfl) :
    _root_.PySem.wpAt (model X.prog X.w) X.A (.func body X.env) (eval (.Call (.Attribute (.Call (.Name "super" p0) [] [] p1) "__init__" p2) (e :: es) [] pos) X.env)
      (fun v s' => v = .none ∧ ∃ H1, Inv X pins σ H1 s' ∧ Q0 H1) X.xe s := by
  rw [hc]
  refine PySem.wpAt_bind (sup_base Z I h0 ha fun so h' k hso ho => ?_)
  refine PySem.wpAt_of_wpAny ?_
  refine wpAny_bind (wpAny_standAt ?_)
  have I1 : Inv X ((so, PySem.W.ks_superObj C a C) :: pins) σ H { s with heap := h' } := ClX.pin_new (t' := s.toks) I k (by rw [hso]; exact Nat.le_refl _) ho (fun v z => by cases z)
  have KI : X.K.In h' := I1.kIn
  obtain ⟨nm, q, N, bs, bm, sn, sub, ab, col, dd, k0, k1, k2, k3, k5, hC, hbm⟩ := Z.oex.cls
  obtain ⟨t1, hoe⟩ := exo_at I1.hok ha
  have hini := Z.ini
  unfold PySem.W.ks_superIn at hini
  have hcl : ∃ cd, PySem.W.clsIn X.K C = some cd := by
    cases hq : PySem.W.clsIn X.K C with
    | none => rw [hq] at hini; cases hini
    | some cd => exact ⟨cd, rfl⟩
  obtain ⟨cd, hcl⟩ := hcl
  rw [hcl] at hini
  have IA : PySem.W.InstAt h' a _ C none := ⟨hoe, rfl, rfl, trivial⟩
  have hI : PySem.W.Looks (model X.prog X.w) h' (isInstance (.ref a) (.type "ValueError")) true := IA.type.andThen (PySem.W.looks_subIn KI Z.sub)
  refine wpAny_bind (wpAny_holding ?_)
  refine PySem.W.kxs_getMethod PySem.W.kxs_ValueError ho (PySem.W.looks_opaque KI Z.opq) (l₀ := cd.mro) (fun A Q E s k q => wpAny_bind ((PySem.W.looks_clsIn KI hcl) A _ E s k (wpAny_pure q))) rfl KI hini hI (PySem.W.ks_ne KI IA hcl) (by decide) ?_
  have I2 : Inv X ((h'.objs.size, PySem.W.kxs_mw "ValueError.__init__" a) :: (so, PySem.W.ks_superObj C a C) :: pins) σ H { s with heap := h'.push (PySem.W.kxs_mw "ValueError.__init__" a), toks := s.toks + 1 } :=
    ClX.pin_new (s := { s with heap := h' }) (t' := s.toks + 1) I1 (fun b o z => Heap.get?_push_of_some _ z) (Nat.le_refl _) (by show (h'.push _).get? h'.objs.size = _; heap_get) (fun v z => by cases z)
  refine PySem.W.kxs_callWith (i := "ValueError.__init__") (x := a) (by rw [he]; show (false || (backTo pos (starEach es X.env)).any (·.1)) = false; rw [hpl]; rfl) ?_
  have hrun := hA.run pos ((h'.objs.size, PySem.W.kxs_mw "ValueError.__init__" a) :: (so, PySem.W.ks_superObj C a C) :: pins) _ σ H _ I2 h
  rw [he] at hrun ⊢
  refine PySem.Calls.evalArgs_plain (wpAny_mono hrun (fun us s1 hs => ?_) fun _ _ z => z)
  obtain ⟨vs, H1, J, r1, hz, ea, q0⟩ := hs
  refine ⟨ClX.pin_at J, ?_⟩
  obtain ⟨t2, hoe2⟩ := exo_at J.hok ea
  have hlen : us.length ≤ sizeLine := by rw [← Paired.length r1, sizeLine_eq]; omega
  have hmw := ClX.pin_at J
  obtain ⟨hp, g, dr, tk, os⟩ := s1
  refine call_mw (J.kIn _ _ hC) hoe2 hmw hlen fun h2 t3 k2 hx => ?_
  have J2 := J.write (t' := tk) (x := a) (e := a) (o := exo a C none) (by rw [ea]; exact True.intro) (.inl rfl) k2 ⟨_, hx⟩ (exo_ok hx)
  have eu : upd H1 a (exo a C none) = H1 := by
    funext b
    by_cases hb : b = a
    · rw [hb, upd_same, ea]
    · rw [upd_ne hb]
  rw [eu] at J2
  exact ⟨rfl, H1, ClX.unpin (ClX.unpin J2), q0⟩
end
end GL
set_option Elab.async false
set_option linter.all false
set_option maxRecDepth 100000
set_option maxHeartbeats 2000000
namespace GL
open PySem PySem.Spec PyProof.Rows L2
theorem fn_initK {CX : CXT} {P : Program} {w : World} {K : PySem.W.Frag} {mg : Str → Option Value} {base : Heap} {k : Nat} {f cc C cda : Addr} {name qual x : Str} {params : Arguments} {e : Expr} {es : List Expr} {p0 p1 p2 p3 p4 : Pos} {rest : List Stmt} {scope : Scope} {dV kV doc pm ct oc ccl : Value} {an od cld : Option Addr}
    {osl csl : Array (Option Value)} {N ps : List Str} {sp : Sp} {pl : Env → Sem Bool} (lk : K.lookup f = some ⟨oc, od, .func (PySem.W.ksFn name qual params (.Expr (.Call (.Attribute (.Call (.Name "super" p0) [] [] p1) "__init__" p2) (e :: es) [] p3) p4 :: rest) scope dV kV doc pm an (.ref cda) ct cc), osl⟩) (hcd : PySem.W.codeIn K (.ref cda) qual = true) (S : FnScopeK N ps scope)
    (kc : K.lookup cc = some ⟨ccl, cld, .cell (some (.ref C)), csl⟩) (len : ∀ vs H Q E, sp vs H Q E → vs.length = ps.length)
    (hZ : ∀ (A : Around) (outer : List Env) (s : Shared) (H : Hp) (E : XK), SupK (cxK CX P w K mg base N qual scope f (.ref cda) cc A outer s H E) f cda cc C x)
    (hbody : ∀ (A : Around) (outer : List Env) (s : Shared) (H : Hp) (vs : List V) (Q : VK) (E : XK), Room k (A.deeper (kEnv qual scope s.heap.objs.size f (.ref cda) cc)) → sp vs H Q E →
      ∃ (a : Addr) (ws : List V) (ta : TA) (t : TS), vs = .ref a :: ws ∧ H a = some (exo a C none) ∧ PA (cxK CX P w K mg base N qual scope f (.ref cda) cc A outer s H E) (e :: es) ta ∧ PSs (cxK CX P w K mg base N qual scope f (.ref cda) cc A outer s H E) rest t ∧
        ta (L2.start N vs) H fun us H1 => us.length ≤ 1000 ∧ H1 a = some (exo a C none) ∧ t { nx := fun _ H' => Q .non H', rt := Q } (L2.start N vs) H1)
    (hc : ∀ env : Env, eval (.Call (.Attribute (.Call (.Name "super" p0) [] [] p1) "__init__" p2) (e :: es) [] p3) env = (do
      let ov ← attributeBase (.Call (.Name "super" p0) [] [] p1) "__init__" env (eval (.Call (.Name "super" p0) [] [] p1) env)
      standAt p2.atName
      let (f, first) ← holding [ov] (getMethod ov "__init__" (pl env))
      callWith p3 f first (backTo p3 (starEach (e :: es) env)) (backToKw p3 (keywordEach [] env))))
    (he : ∀ env : Env, starEach (e :: es) env = (false, eval e env) :: starEach es env) (hpl : ∀ env : Env, (backTo p3 (starEach es env)).any (·.1) = false)
    (hsw : ∀ env : Env, swapsWith (.Call (.Attribute (.Call (.Name "super" p0) [] [] p1) "__init__" p2) (e :: es) [] p3) none p4.line env = pure false) :
    FnOk P w K mg base CX (k + 1) f (PySem.W.ksFn name qual params (.Expr (.Call (.Attribute (.Call (.Name "super" p0) [] [] p1) "__init__" p2) (e :: es) [] p3) p4 :: rest) scope dV kV doc pm an (.ref cda) ct cc) ps sp := by
  refine ⟨len, fun A outer s H args us vs Q E hr e0 hb r hsp => ?_⟩
  have hl := len _ _ _ _ hsp
  have KX : K.In s.heap := e0.mod.kin.keeps fun b o e => (e0.bs b o e).1
  have lim : s.heap.NoLimit := e0.mod.nolimit.keeps fun b o e => (e0.bs b o e).1
  refine PySem.ks_codeAny_call_defAt (body := .Expr (.Call (.Attribute (.Call (.Name "super" p0) [] [] p1) "__init__" p2) (e :: es) [] p3) p4 :: rest) (binds := ps.zip us) hr.depth (KX _ _ lk) rfl lim (PySem.W.codeRec_of KX hcd) rfl hb S.nocell (fun x hx => S.par _ (List.of_mem_zip hx).1) ?_ S.co S.gen S.kind
  intro h₀ hns hk
  obtain ⟨a, ws, ta, t, hvs, ha, hA, hT, hq⟩ := hbody A outer s H vs Q E (hr.deeper _) hsp
  have I : Inv (cxK CX P w K mg base N qual scope f (.ref cda) cc A outer s H E) [] (L2.start N vs) H { s with heap := h₀, toks := s.toks + (ps.zip us).length } := inv_startK S kc hr.hd e0 hl r hns hk
  refine PySem.ks_wpAt_execs_cons (PySem.ks_wpAt_Expr_any (PySem.ks_wpAt_mono (sup_call (hZ A outer s H E) I (by rw [hvs]; rfl) ha hA hq (hc _) (he _) (hpl _)) (fun v s' hs => ?_) fun _ _ z => z) I.quiet (hsw _))
  obtain ⟨_, H1, J, q⟩ := hs
  refine PySem.wpAt_of_wpAny ?_
  refine wpAny_mono (hT.run [] _ (L2.start N vs) H1 _ J q) (fun fl s' hs => ?_) fun e s' hs => hs
  have fin : ∀ {σ' : L2.St} {H' : Hp} {v : V} {u : Value}, Inv (cxK CX P w K mg base N qual scope f (.ref cda) cc A outer s H E) [] σ' H' s' → RelV v u → Q v H' → CE outer P w H s Q u s' :=
    fun {σ' H' v u} J rv q => ⟨v, H', J.os, J.bare, J.base, J.hok, rv, q⟩
  cases fl with
  | ret u =>
    obtain ⟨v, σ', H', J, rv, q⟩ := hs
    exact fin J rv q
  | next =>
    obtain ⟨σ', H', J, q⟩ := hs
    exact fin (v := V.non) (u := Value.none) J rfl q
  | brk =>
    obtain ⟨_, _, _, q⟩ := hs
    exact False.elim q
  | cont =>
    obtain ⟨_, _, _, q⟩ := hs
    exact False.elim q
end GL
set_option Elab.async false
set_option linter.all false
set_option maxRecDepth 100000
set_option maxHeartbeats 2000000
namespace GL
open PySem PySem.Spec PyProof.Rows L2
structure Cl where
  c : Value
  i : Option Nat
  ts : Addr → Value → Option Addr → TS
def endsI (i : Option Nat) (D : Ends) : Ends := match i with
  | none => D
  | some i => { nx := fun σ H => D.nx (σ.set i none) H, rt := D.rt, bk := fun σ H => D.bk (σ.set i none) H, ct := fun σ H => D.ct (σ.set i none) H }
def wMix (K : PySem.W.Frag) (Wout : L2.WX) (D : Ends) : List Cl → L2.WX
  | [] => Wout
  | k :: r => fun cls d σ H => ∃ b, PySem.W.exmOne K cls k.c = some b ∧ (b = true → ∀ a, H a = none → k.ts a cls d (endsI k.i D) (match k.i with
      | none => σ
      | some i => σ.set i (some (.ref a))) H) ∧ (b = false → wMix K Wout D r cls d σ H)
abbrev SuiteOk (X : Cx) (b₀ : Stmt) (su : List Stmt) (ts : Addr → Value → Option Addr → TS) : Prop := ∀ (a : Addr) (o : Obj) (cls : Value) (d : Option Addr) (pn : List (Addr × Obj)), Zc cls d o → (∃ vs, o.data = .fields vs) → PSs (X.suite a ((a, o) :: pn)) (b₀ :: su) (ts a cls d)
inductive HdsMix (X : Cx) : List ExceptHandler → List Cl → Prop
  | nil : HdsMix X [] []
  | un {x : Str} {c : Value} {ts : Addr → Value → Option Addr → TS} {b₀ : Stmt} {su : List Stmt} {np ps : Pos} {hds : List ExceptHandler} {l : List Cl} (hc : Names X x c) (hs : SuiteOk X b₀ su ts) (r : HdsMix X hds l) :
      HdsMix X (.ExceptHandler (some (.Name x np)) none (b₀ :: su) ps :: hds) (⟨c, none, ts⟩ :: l)
  | as {x n : Str} {i : Nat} {c : Value} {ts : Addr → Value → Option Addr → TS} {b₀ : Stmt} {su : List Stmt} {np ps : Pos} {hds : List ExceptHandler} {l : List Cl} (hc : Names X x c) (hi : X.N[i]? = some n) (hn : X.env.kindOf n = some .local) (hs : SuiteOk X b₀ su ts) (r : HdsMix X hds l) :
      HdsMix X (.ExceptHandler (some (.Name x np)) (some n) (b₀ :: su) ps :: hds) (⟨c, some i, ts⟩ :: l)
section
variable {X : Cx} {body : List Stmt} {h₀ : ExceptHandler} {hds : List ExceptHandler} {l : List Cl} {pos : Pos} {tb : L2.WX → TS} {Wout : L2.WX}
theorem ps_try_mix (hst : X.stack = X.env :: X.outer) (hfl : X.env.frame = some X.env.locals) (hN : X.N.Nodup) (tk : Takes X Wout)
    (hb : ∀ (W : L2.WX) (pn : List (Addr × Obj)) (xe : Value → Shared → Prop), Takes (X.tr pn xe) W → PassesOwn (model X.prog X.w) X.A X.env xe → PSs (X.tr pn xe) body (tb W))
    (hh : HdsMix X (h₀ :: hds) l) : PS X (.Try body (h₀ :: hds) [] [] pos) (fun D σ H => tb (wMix X.K Wout D l) D σ H) := by
  constructor
  intro pins s σ H D I hw
  have ok := I.ok
  have frm : X.A.frames = some (X.env :: X.outer) := by rw [ok.frames, hst]
  refine wpAny_Try_except (wpAny_mono ((hb (wMix X.K Wout D l) (X.pn ++ pins) (fun e s₁ => wpAny (model X.prog X.w) X.A (noteFrame e X.env) (fun _ s₂ => wpAny (model X.prog X.w) X.A (setFlight e none) (fun _ s₃ =>
    wpAny (model X.prog X.w) X.A (handleBy e X.env (h₀ :: hds)) (SP X pins D) X.xe s₃) X.xe s₂) X.xe s₁) (fun u s' xx => ?_) PassesOwn.looking).run [] s σ H D (I.toTry _) hw) (fun fl s1 q => ?_) (fun e s1 he => he))
  · obtain ⟨a, B, sI, pins', τ, G, cls, d, rfl, J', nb, up, sky, na, eos, ag, w⟩ := xx
    have J : Inv X pins τ G sI := J'.ofTry ok
    have sky2 : Sky B (X.env :: X.outer) a (Zc cls d) X.env.locals s'.heap := by rw [← hst]; exact sky
    show wpAny (model X.prog X.w) X.A (noteFrame (.ref a) X.env) _ _ _
    refine Sky.land Zc.steady frm hfl sky2 fun h3 f3 up3 => ?_
    have J3 : Inv X pins τ G { s' with heap := h3 } := J.landed nb f3.1 (up.trans up3) eos ag
    obtain ⟨o3, vs3, he3, hz3, hd3⟩ := f3.there
    have notIn : a ∉ frs (X.env :: X.outer) := fun hm => by
      obtain ⟨_, o', e', hnf⟩ := f3.2.2.1.mem hm
      rw [he3] at e'; cases e'
      exact hnf _ hd3
    have aL : a ≠ X.env.locals := fun z => notIn (List.mem_filterMap.mpr ⟨X.env, List.mem_cons_self, by rw [hfl, z]⟩)
    have aF : a ∉ X.fs := fun hm => by
      obtain ⟨e, he, q⟩ := List.mem_filterMap.mp hm
      exact notIn (List.mem_filterMap.mpr ⟨e, List.mem_cons_of_mem _ he, q⟩)
    have S3 := J3.suite he3 hd3 na aL aF
    have LT : PySem.W.Looks (model X.prog X.w) h3 (typeOf (.ref a)) cls := fun A Q E s k q => wpAny_typeOf_ref (k _ _ he3) (by rw [hz3.1]; exact q)
    have nameOf : ∀ {x : Str} {c : Value} {np : Pos} {Q : Value → Shared → Prop} {E : Value → Shared → Prop}, Names X x c → Q c { s' with heap := h3 } → wpAny (model X.prog X.w) (X.A.mark (some (.ref a))) (eval (.Name x np) X.env) Q E { s' with heap := h3 } := by
      intro x c np Q E hc q
      obtain ⟨hg, hdbg, hm | ⟨hm, hv, hnn⟩⟩ := hc
      · exact ld_glob (X := X.suite a ((a, o3) :: (X.pn ++ pins))) S3 hg hm q hdbg
      · exact ld_blt (X := X.suite a ((a, o3) :: (X.pn ++ pins))) S3 hg hm hv q hnn hdbg
    have go : ∀ {hs2 : List ExceptHandler} {l2 : List Cl}, HdsMix X hs2 l2 → wMix X.K Wout D l2 cls d τ G →
        wpAny (model X.prog X.w) X.A (handleBy (.ref a) X.env hs2) (SP X pins D) X.xe { s' with heap := h3 } := by
      intro hs2 l2 hk
      induction hk with
      | nil =>
        intro w
        refine wpAny_handleBy_nil ?_
        obtain ⟨k1, k2, k3, oe, vs, T, oT, ts', he, hz, hd, h1, hr⟩ := id f3
        unfold PySem.passOn
        refine wpAny_bind (wpAny_field he hd h1 ?_)
        rw [if_neg (by simp : ¬ ((Value.ref T == Value.none) = true))]
        have up' : wpAny (model X.prog X.w) X.A (setFlight (.ref a) X.env.frame) (fun _ s4 => wpAny (model X.prog X.w) X.A (throw (.ref a) : Sem Flow) (SP X pins D) X.xe s4) X.xe { s' with heap := h3 } := by
          rw [hfl]
          exact HandSPX.setFlight_upZ f3 fun h4 hh4 up4 => wpAny_throw (tk _ _ ⟨a, B, sI, pins, τ, G, cls, d, rfl, J, nb, (up.trans up3).trans up4, .inr (.inr (by rw [hst]; exact hh4)), na, eos, ag, w⟩)
        first
          | exact wpAny_bind (wpAny_pure (wpAny_bind up'))
          | exact wpAny_bind up'
      | @un x c ts b₀ su np ps hds2 l3 hc hs r ih =>
        intro w
        obtain ⟨b, hb1, yes, no⟩ := w
        refine wpAny_handleBy_cons (codeAny_handlers_test (nameOf hc ((PySem.W.exm_one (M := model X.prog X.w) J3.kIn LT hb1).here ?_))) (by intro q; cases q)
        cases b with
        | false => exact ih (no rfl)
        | true =>
          refine codeAny_handlers_suite (HandSPX.lands_againZ f3 fun h4 f4 up4 => ?_)
          have J4 : Inv X pins τ G { s' with heap := h4 } := J.landed nb f4.1 ((up.trans up3).trans up4) eos ag
          obtain ⟨o4, vs4, he4, hz4, hd4⟩ := f4.there
          refine wpAny_mono ((hs a o4 cls d (X.pn ++ pins) hz4 ⟨_, hd4⟩).run [] _ _ G _ (J4.suite he4 hd4 na aL aF) (yes rfl a na)) (fun fl s6 q => ?_) (fun _ _ z => False.elim z)
          cases fl with
          | ret u =>
            obtain ⟨v6, σ6, H6, S6, r6, q6⟩ := q
            exact ⟨_, _, _, S6.unsuite ok, r6, q6⟩
          | _ =>
            obtain ⟨σ6, H6, S6, q6⟩ := q
            exact ⟨_, _, S6.unsuite ok, q6⟩
      | @as x n i c ts b₀ su np ps hds2 l3 hc hi hn hs r ih =>
        intro w
        obtain ⟨b, hb1, yes, no⟩ := w
        refine wpAny_handleBy_cons (codeAny_handlers_test (nameOf hc ((PySem.W.exm_one (M := model X.prog X.w) J3.kIn LT hb1).here ?_))) (by intro q; cases q)
        cases b with
        | false => exact ih (no rfl)
        | true =>
          refine codeAny_handlers_suite_as (HandSPX.lands_againZ f3 fun h4 f4 up4 => ?_)
          have J4 : Inv X pins τ G { s' with heap := h4 } := J.landed nb f4.1 ((up.trans up3).trans up4) eos ag
          obtain ⟨o4, vs4, he4, hz4, hd4⟩ := f4.there
          refine store_ok (X := X.suite a ((a, o4) :: (X.pn ++ pins))) (v := .ref a) (J4.suite he4 hd4 na aL aF) hN hi (.inl hn) rfl (fun s5 S5 => ?_) (.inr hn)
          refine wpAny_mono ((hs a o4 cls d (X.pn ++ pins) hz4 ⟨_, hd4⟩).run [] s5 _ G _ S5 (yes rfl a na)) (fun fl s6 q => ?_) (fun _ _ z => False.elim z)
          have fin : ∀ {σ6 : L2.St} {H6 : Hp} {Q : Shared → Prop}, Inv (X.suite a ((a, o4) :: (X.pn ++ pins))) [] σ6 H6 s6 → (∀ s7, Inv X pins (σ6.set i none) H6 s7 → Q s7) →
              wpAny (model X.prog X.w) X.A (do bindName X.env n .none; unbindBehindTheSuite X.env n ps) (fun _ s7 => Q s7) X.xe s6 := fun {σ6 H6 Q} S6 hq => gone_ok (S6.unsuite ok) hN hi hn hq
          cases fl with
          | ret u =>
            obtain ⟨v6, σ6, H6, S6, r6, q6⟩ := q
            exact fin S6 fun s7 J7 => ⟨_, _, _, J7, r6, q6⟩
          | next =>
            obtain ⟨σ6, H6, S6, q6⟩ := q
            exact fin S6 fun s7 J7 => ⟨_, _, J7, q6⟩
          | brk =>
            obtain ⟨σ6, H6, S6, q6⟩ := q
            exact fin S6 fun s7 J7 => ⟨_, _, J7, q6⟩
          | cont =>
            obtain ⟨σ6, H6, S6, q6⟩ := q
            exact fin S6 fun s7 J7 => ⟨_, _, J7, q6⟩
    exact go hh w
  · cases fl with
    | next =>
      obtain ⟨σ', H', J', z⟩ := q
      exact wpAny_execs_nil ⟨σ', H', J'.ofTry ok, z⟩
    | ret u =>
      obtain ⟨v, σ', H', J', r, z⟩ := q
      exact ⟨v, σ', H', J'.ofTry ok, r, z⟩
    | _ =>
      obtain ⟨σ', H', J', z⟩ := q
      exact ⟨σ', H', J'.ofTry ok, z⟩
end
end GL
set_option Elab.async false
set_option linter.all false
set_option maxRecDepth 100000
set_option maxHeartbeats 2000000
namespace GL
open PySem PySem.Spec PyProof.Rows L2
def clearO (i : Option Nat) : SOut → SOut
  | .nx ls S => .nx (match i with | none => ls | some i => ls.set i none) S
  | .bk ls S => .bk (match i with | none => ls | some i => ls.set i none) S
  | .ct ls S => .ct (match i with | none => ls | some i => ls.set i none) S
  | .rt w S => .rt w S
  | _ => .bad
open Classical in
noncomputable def anyAD (f : Nat → Nat → SOut) : SOut := if h : ∃ o, ∀ a d, f a d = o then h.choose else .bad
theorem anyAD_eq {f : Nat → Nat → SOut} {o : SOut} (h : ∀ a d, f a d = o) : anyAD f = o := by
  unfold anyAD
  have e : ∃ o, ∀ a d, f a d = o := ⟨o, h⟩
  rw [dif_pos e, ← e.choose_spec 0 0, h]
theorem anyAD_at {f : Nat → Nat → SOut} (h : anyAD f ≠ .bad) (a d : Nat) : anyAD f = f a d := by
  unfold anyAD at h ⊢
  split
  · rename_i e
    rw [e.choose_spec a d]
  · rename_i e
    rw [dif_neg e] at h
    exact absurd rfl h
structure CM where
  tbl : List (Nm × Bool)
  i : Option Nat
  suite : Nat → Nat → Nm → MS
def xnOf (a d : Nat) (ex : Exn) : PV := .xn a d ex.cls (ex.fs.map (·.1)) (ex.fs.map (·.2))
noncomputable def catchM : List CM → Exn → Ls → Sto → SOut
  | [], ex, ls, S => .exc ex ls S
  | k :: r, ex, ls, S => match k.tbl.lookup ex.cls with
    | some true => anyAD fun a d => clearO k.i (k.suite a d ex.cls (match k.i with
      | none => ls
      | some i => ls.set i (some (xnOf a d ex))) S)
    | some false => catchM r ex ls S
    | none => .bad
noncomputable def sTry (body : MS) (cs : List CM) : MS := fun ls S => match body ls S with
  | .exc ex ls' S' => catchM cs ex ls' S'
  | r => r
abbrev noW : L2.WX := fun _ _ _ _ => False
abbrev SuiteI (X : Cx) (tbl : List (Nm × Bool)) (b₀ : Stmt) (su : List Stmt) (ms : Nat → Nat → Nm → MS) : Prop := ∀ (a d : Addr) (C : Nm) (o : Obj) (pn : List (Addr × Obj)), Zc (.ref (He.ga X.K (toS C))) (some d) o → (∃ vs, o.data = .fields vs) → tbl.lookup C = some true → ISs (X.suite a ((a, o) :: pn)) noW (b₀ :: su) (ms a d C)
inductive HI (X : Cx) : List ExceptHandler → List CM → Prop
  | nil : HI X [] []
  | un {x : Str} {c : Value} {tbl : List (Nm × Bool)} {ms : Nat → Nat → Nm → MS} {b₀ : Stmt} {su : List Stmt} {np ps : Pos} {hds : List ExceptHandler} {l : List CM} (hc : Names X x c) (ht : ∀ p ∈ tbl, PySem.W.exmOne X.K (.ref (He.ga X.K (toS p.1))) c = some p.2) (hs : SuiteI X tbl b₀ su ms) (r : HI X hds l) :
      HI X (.ExceptHandler (some (.Name x np)) none (b₀ :: su) ps :: hds) (⟨tbl, none, ms⟩ :: l)
  | as {x n : Str} {i : Nat} {c : Value} {tbl : List (Nm × Bool)} {ms : Nat → Nat → Nm → MS} {b₀ : Stmt} {su : List Stmt} {np ps : Pos} {hds : List ExceptHandler} {l : List CM} (hc : Names X x c) (ht : ∀ p ∈ tbl, PySem.W.exmOne X.K (.ref (He.ga X.K (toS p.1))) c = some p.2) (hi : X.N[i]? = some n) (hn : X.env.kindOf n = some .local) (hs : SuiteI X tbl b₀ su ms) (r : HI X hds l) :
      HI X (.ExceptHandler (some (.Name x np)) (some n) (b₀ :: su) ps :: hds) (⟨tbl, some i, ms⟩ :: l)
theorem lookup_mem {α β : Type} [BEq α] [LawfulBEq α] {k : α} {v : β} : ∀ {l : List (α × β)}, l.lookup k = some v → (k, v) ∈ l
  | [], h => by cases h
  | (a, b) :: r, h => by
    rw [List.lookup_cons] at h
    split at h
    · rename_i e
      cases h
      rw [eq_of_beq e]
      exact List.mem_cons_self
    · exact List.mem_cons_of_mem _ (lookup_mem h)
def tsOf (X : Cx) (tbl : List (Nm × Bool)) (ms : Nat → Nat → Nm → MS) : Addr → Value → Option Addr → TS := fun a cls d D σ H => ∃ C d', d = some d' ∧ cls = .ref (He.ga X.K (toS C)) ∧ tbl.lookup C = some true ∧ tS (pwX X) X.K noW (ms a d' C) D σ H
theorem suite_ok {X : Cx} {tbl : List (Nm × Bool)} {b₀ : Stmt} {su : List Stmt} {ms : Nat → Nat → Nm → MS} (h : SuiteI X tbl b₀ su ms) : SuiteOk X b₀ su (tsOf X tbl ms) := by
  intro a o cls d pn hz hf
  constructor
  intro pins s σ H D I ⟨C, d', ed, ec, hC, q⟩
  subst ed ec
  exact (h a d' C o pn hz hf hC).run pins s σ H D I q
theorem HI.mix {X : Cx} {hds : List ExceptHandler} {l : List CM} (h : HI X hds l) : ∃ l', HdsMix X hds l' ∧ ∀ {Wx : L2.WX} {D : Ends} {ρ : Nat → Addr} {ex : Exn} {ls : Ls} {S : Sto} {σ : L2.St} {H : Hp} {cls : Value} {d : Option Addr},
    RSt (pwX X) X.K ρ H S → RL X.K ρ S.length H ls σ → RX X.K ρ S.length H ex cls d → PostS (pwX X) X.K ρ S.length H Wx (catchM l ex ls S) D → wMix X.K Wx D l' cls d σ H := by
  induction h with
  | nil => exact ⟨[], .nil, fun {Wx D ρ ex ls S σ H cls d} hS hL hX h => h ρ H σ cls d .refl hS hL hX⟩
  | @un x c tbl ms b₀ su np ps hds l hc ht hs r ih =>
    obtain ⟨l', hm, hq⟩ := ih
    refine ⟨_, .un hc (suite_ok hs) hm, fun {Wx D ρ ex ls S σ H cls d} hS hL hX h => ?_⟩
    obtain ⟨ec, dx, fs', ed, hd, rf⟩ := id hX
    unfold catchM at h
    split at h
    · rename_i el
      refine ⟨true, by rw [ec]; exact ht _ (lookup_mem el), fun _ a na => ?_, fun z => by cases z⟩
      refine ⟨ex.cls, dx, ed, ec, el, ρ, S, ls, hS, hL, ?_⟩
      dsimp only at h ⊢
      rw [anyAD_at (fun z => by rw [z] at h; exact h) a dx] at h
      cases hm : ms a dx ex.cls ls S with
      | exc _ _ _ => rw [hm] at h; exact h.elim
      | bad => rw [hm] at h; exact h.elim
      | nx _ _ => rw [hm] at h; exact h
      | bk _ _ => rw [hm] at h; exact h
      | ct _ _ => rw [hm] at h; exact h
      | rt _ _ => rw [hm] at h; exact h
    · rename_i el
      exact ⟨false, by rw [ec]; exact ht _ (lookup_mem el), (fun z => by cases z), fun _ => hq hS hL hX h⟩
    · exact h.elim
  | @as x n i c tbl ms b₀ su np ps hds l hc ht hi hn hs r ih =>
    obtain ⟨l', hm, hq⟩ := ih
    refine ⟨_, .as hc hi hn (suite_ok hs) hm, fun {Wx D ρ ex ls S σ H cls d} hS hL hX h => ?_⟩
    obtain ⟨ec, dx, fs', ed, hd, rf⟩ := id hX
    unfold catchM at h
    split at h
    · rename_i el
      refine ⟨true, by rw [ec]; exact ht _ (lookup_mem el), fun _ a na => ?_, fun z => by cases z⟩
      have rn : ∀ {fs : List (Nm × PV)} {gs : List (Str × V)}, RFs X.K ρ S.length H fs gs → gs.map (·.1) = (fs.map (·.1)).map toS ∧ RWs X.K ρ S.length H (fs.map (·.2)) (gs.map (·.2)) := by
        intro fs gs rr
        induction rr with
        | nil => exact ⟨rfl, .nil⟩
        | cons r t ih => exact ⟨by simp [ih.1], .cons r ih.2⟩
      have rx : RW X.K ρ S.length H (xnOf a dx ex) (.ref a) := .xn hd (rn rf).1 (rn rf).2
      refine ⟨ex.cls, dx, ed, ec, el, ρ, S, ls.set i (some (xnOf a dx ex)), hS, RL.set rx i hL, ?_⟩
      dsimp only at h ⊢
      rw [anyAD_at (fun z => by rw [z] at h; exact h) a dx] at h
      cases hm : ms a dx ex.cls (ls.set i (some (xnOf a dx ex))) S with
      | exc _ _ _ => rw [hm] at h; exact h.elim
      | bad => rw [hm] at h; exact h.elim
      | nx _ _ => rw [hm] at h; exact fun ρ1 H1 σ1 e1 s1 l1 => h ρ1 H1 _ e1 s1 (RL.wipe1 none i l1)
      | bk _ _ => rw [hm] at h; exact fun ρ1 H1 σ1 e1 s1 l1 => h ρ1 H1 _ e1 s1 (RL.wipe1 none i l1)
      | ct _ _ => rw [hm] at h; exact fun ρ1 H1 σ1 e1 s1 l1 => h ρ1 H1 _ e1 s1 (RL.wipe1 none i l1)
      | rt _ _ => rw [hm] at h; exact h
    · rename_i el
      exact ⟨false, by rw [ec]; exact ht _ (lookup_mem el), (fun z => by cases z), fun _ => hq hS hL hX h⟩
    · exact h.elim
theorem is_try {X : Cx} {Wx : L2.WX} {body : List Stmt} {h₀ : ExceptHandler} {hds : List ExceptHandler} {l : List CM} {mb : MS} {pos : Pos} (hst : X.stack = X.env :: X.outer) (hfl : X.env.frame = some X.env.locals) (hN : X.N.Nodup) (tk : Takes X Wx)
    (hb : ∀ (W : L2.WX) (pn : List (Addr × Obj)) (xe : Value → Shared → Prop), Takes (X.tr pn xe) W → PassesOwn (model X.prog X.w) X.A X.env xe → ISs (X.tr pn xe) W body mb)
    (hh : HI X (h₀ :: hds) l) : IS X Wx (.Try body (h₀ :: hds) [] [] pos) (sTry mb l) := by
  obtain ⟨l', hm, hq⟩ := hh.mix
  refine PSi (ps_try_mix (tb := fun W => tS (pwX X) X.K W mb) hst hfl hN tk hb hm) fun D σ H ⟨ρ, S, ls, hS, hL, h⟩ => ⟨ρ, S, ls, hS, hL, ?_⟩
  unfold sTry at h
  cases e : mb ls S with
  | exc ex ls' S' =>
    rw [e] at h
    exact fun ρ1 H1 σ1 cls d e1 s1 l1 x1 => hq s1 l1 x1 (PostS.ext e1 h)
  | nx _ _ => rw [e] at h; exact h
  | bk _ _ => rw [e] at h; exact h
  | ct _ _ => rw [e] at h; exact h
  | rt _ _ => rw [e] at h; exact h
  | bad => rw [e] at h; exact h.elim
def lookF (f : Nm) : List Nm → List PV → Option PV
  | n :: ns, w :: ws => if n = f then some w else lookF f ns ws
  | _, _ => none
def eXf (a d : Nat) (f : Nm) (m : ME) : ME := fun ls S => (m ls S).bind fun w S1 => match w with
  | .xn a' d' _ ns ws => if a' = a ∧ d' = d then (match lookF f ns ws with
    | some v => .ok v S1
    | none => .bad) else .bad
  | _ => .bad
theorem lookF_ok {K : PySem.W.Frag} {ρ : Nat → Addr} {N : Nat} {H : Hp} {f : Nm} : ∀ {ns : List Nm} {ws : List PV} {fs : List (Str × V)} {w : PV}, fs.map (·.1) = ns.map toS → RWs K ρ N H ws (fs.map (·.2)) → lookF f ns ws = some w → ∃ v, fs.lookup (toS f) = some v ∧ RW K ρ N H w v
  | [], _, _, _, _, _, h => by cases h
  | _ :: _, [], _, _, _, _, h => by cases h
  | n :: ns, w :: ws, [], _, e, _, _ => by cases e
  | n :: ns, w :: ws, (g, v) :: fs, w', e, r, h => by
    simp only [List.map_cons, List.cons.injEq] at e
    cases r with
    | cons r1 r2 =>
      unfold lookF at h
      rw [List.lookup_cons, e.1, beq_toS]
      split at h
      · rename_i z
        cases h
        subst z
        exact ⟨v, by simp, r1⟩
      · rename_i z
        have z2 : ¬ f = n := fun q => z q.symm
        simp only [decide_eq_false z2]
        exact lookF_ok e.2 r2 h
theorem ie_xf {X : Cx} {a d : Addr} {C f : Nm} {o : Obj} {pn : List (Addr × Obj)} {e : Expr} {m : ME} {pos : Pos} {n : Str} (hn : n = toS f) (T : XfC X.K (He.ga X.K (toS C))) (hno : PySem.W.findIn X.K (.ref (He.ga X.K (toS C))) n = some none)
    (hz : Zc (.ref (He.ga X.K (toS C))) (some d) o) (hf : ∃ vs, o.data = .fields vs) (he : IE (X.suite a ((a, o) :: pn)) noW e m) (hb : attributeBase e n X.env (eval e X.env) = eval e X.env := by rfl) :
    IE (X.suite a ((a, o) :: pn)) noW (.Attribute e n pos) (eXf a d f m) :=
  PEi (pe_xf T hno hz hf he hb) fun σ H Q ⟨ρ, S, ls, hS, hL, h⟩ => ⟨ρ, S, ls, hS, hL, (Post.bind (R := RW) h).imp fun x H1 ⟨ρ1, S1, w1, e1, hS1, r1, h1⟩ => by
    split at h1
    · rename_i a' d' _ ns ws
      split at h1
      · rename_i q
        obtain ⟨q1, q2⟩ := q
        subst q1 q2
        cases r1 with
        | @xn _ _ _ _ _ fs hd hm r2 =>
          split at h1
          · rename_i v ev
            obtain ⟨v2, l2, r3⟩ := lookF_ok hm r2 ev
            exact ⟨rfl, rfl, _, fs, v2, rfl, hd, by rw [hn]; exact l2, h1.here hS1 r3⟩
          · exact h1.elim
      · exact h1.elim
    · exact h1.elim⟩
end GL
set_option Elab.async false
set_option linter.all false
set_option maxRecDepth 100000
set_option maxHeartbeats 2000000
namespace GL
open PySem PySem.Spec PySem.Calls PyProof.Rows L2
theorem cls_attr {prog : Program} {w : World} {A : Around} {E : Value → Shared → Prop} {s : Shared} {K : PySem.W.Frag} {x D : Addr} {ox od : Obj} {Q : Option Value → Shared → Prop} (T : ExcC K D)
    (X : K.In s.heap) (I : PySem.W.InstAt s.heap x ox D (some od)) (h : Q (some (.ref D)) { s with toks := s.toks + 1 }) : wpAny (model prog w) A (getAttr? (.ref x) "__class__") Q E s := by
  have fo : PySem.W.findObj K D (some od) "__class__" = some (.bind (.builtin "getset_descriptor.__get__") (.builtin "object.__class__")) := PySem.W.findObj_data (by obtain ⟨cd, hc, _⟩ := PySem.W.any_some T.hd; rw [hc]; rfl) T.ha T.hn T.ht
  obtain ⟨hp, g, d, t, os⟩ := s
  have ty := I.type (M := model prog w)
  have l1 := PySem.W.looks_findIn (M := model prog w) X T.hg
  have l2 := PySem.W.looks_findIn (M := model prog w) X T.hk
  have l3 := PySem.W.looks_find (M := model prog w) X I fo
  have isB : PySem.W.Looks (model prog w) hp (isInstance (.ref x) (.type "BaseException")) true := ty.andThen (PySem.W.looks_subIn X T.hs)
  have z0 : (false && onTheHeap (Value.builtin "BaseException.__getattribute__")) = false := rfl
  have z1 : (Value.builtin "BaseException.__getattribute__" == Value.builtin "object.__getattribute__") = false := by decide +kernel
  have z2 : (onTheHeap (Value.ref D) && Value.builtin "BaseException.__getattribute__" == Value.builtin "object.__getattribute__") = false := by rw [z1]; rfl
  unfold getAttr? getAttrBy? getAttrBy
  refine wpAny_bind (wpAny_mkText (wpAny_bind (wpAny_attempt (wpAny_holding (wpAny_bind (ty.at (wpAny_bind (l1.at ?_))))))))
  show wpAny _ _ (if (onTheHeap (Value.ref D) && Value.builtin "BaseException.__getattribute__" == Value.builtin "object.__getattribute__") = true then _ else _) _ _ _
  rw [z2, if_neg Bool.false_ne_true]
  unfold getAttrByItsOwn hookBefore
  refine wpAny_bind ?_
  rw [if_pos (show onTheHeap (.ref D) = true from rfl)]
  refine l2.at (wpAny_bind (wpAny_attempt (wpAny_holding ?_)))
  unfold callGetattribute
  rw [z0, if_neg Bool.false_ne_true]
  unfold boundAndCalled
  rw [PySem.F.excAttr_ValueError.ga.bind (.ref x)]
  refine wpAny_bind (wpAny_pure ?_)
  show wpAny _ _ (call (.builtin "BaseException.__getattribute__") [.ref x, .str "__class__" t]) _ _ _
  refine wpAny_call (codeAny_call_builtin PySem.F.excAttr_ValueError.ga.plain PySem.F.entry_bexc_ga (@PySem.W.check_slot (model prog w) _ _ ⟨hp, g, d, t + 1, os⟩ "BaseException.__getattribute__" "BaseException" "__getattribute__" (.ref x) [.str "__class__" t] [] _ (by decide +kernel) (by decide +kernel) isB (PySem.F.args_bexc_ga (.ref x) (.str "__class__" t)) ?_))
  unfold Builtin.«object.__getattribute__»
  refine wpAny_bind (wpAny_of_eq (a := ((Value.ref x : Value), [Value.str "__class__" t])) (by first | rfl | (simp only [slotArgs]; rfl)) (wpAny_bind (wpAny_pure (wpAny_bind (ty.at (wpAny_bind (l3.at ?_)))))))
  show wpAny _ _ (holding [Value.builtin "object.__class__"] (call (.builtin "getset_descriptor.__get__") [.builtin "object.__class__", .ref x, .ref D]) >>= ret) _ _ _
  refine wpAny_bind (wpAny_holding (wpAny_call (PySem.W.class_get (s := ⟨hp, g, d, t + 1, os⟩) (ox := ox) (od := some od) X I T.hm ?_)))
  refine wpAny_pure ?_
  show wpAny _ _ (handedOut (.ref D)) _ _ _
  rw [PySem.W.handedOut_of (v := .ref D) rfl]
  first
    | exact wpAny_pure (wpAny_pure h)
    | exact wpAny_pure h
    | exact wpAny_pure (wpAny_bind (wpAny_pure (wpAny_pure h)))
theorem kit_exc {K : PySem.W.Frag} {x D : Addr} {ox od : Obj} (T : ExcC K D) : PySem.W.KitX K (.ref x) (.ref D) (fun h => PySem.W.InstAt h x ox D (some od)) where
  ty := fun _ _ _ I => I.type
  it := fun M h X _ => by
    obtain ⟨cdD, hcD, _⟩ := PySem.W.any_some T.hd
    unfold PySem.W.clsIn at hcD
    split at hcD
    · rename_i c1 d1 cd1 sl1 ho
      intro A1 Q1 E1 s1 k q
      unfold isType loadHead
      exact wpAny_bind (wpAny_loadPart (k _ _ (X _ _ ho)) (wpAny_pure q))
    · cases hcD
  ne := (PySem.W.handS_kitx_exc (x := x) (ox := ox) T.hg T.hk T.hs T.hd T.ha T.hn T.ht T.hm).ne
  ca := fun X I k => cls_attr T X I k
structure NmV (X : Cx) (x : Str) (v : V) (u : Value) : Prop where
  gl : Gl X x
  db : (x == ("__debug__" : Str)) = false
  cv : ClsV v u
  is : X.mg x = some u ∨ (X.mg x = none ∧ bootBuiltins x = some u ∧ x ≠ "__name__")
theorem ClsV.rel {v : V} {u : Value} (c : ClsV v u) : RelV v u := by cases c <;> rfl
theorem NmV.pe {X : Cx} {x : Str} {v : V} {u : Value} {p : Pos} (n : NmV X x v u) : PE X (.Name x p) (tC v) := by
  rcases n.is with h | ⟨h1, h2, h3⟩
  · exact pe_glob n.gl h (GL.ClsV.rel n.cv) n.db
  · exact pe_bltn n.gl h1 h2 (GL.ClsV.rel n.cv) h3 n.db
inductive NmVs (X : Cx) : List Expr → List V → List Value → Prop
  | nil : NmVs X [] [] []
  | cons {x : Str} {p : Pos} {es : List Expr} {v : V} {vs : List V} {u : Value} {us : List Value} (h : NmV X x v u) (r : NmVs X es vs us) (hs : starEach (.Name x p :: es) X.env = (false, eval (.Name x p) X.env) :: starEach es X.env := by rfl) : NmVs X (.Name x p :: es) (v :: vs) (u :: us)
def tNs (vs : List V) : TA := fun _ H Q => Q vs H
theorem NmVs.pa {X : Cx} {es : List Expr} {vs : List V} {us : List Value} (h : NmVs X es vs us) : PA X es (tNs vs) ∧ Paired ClsV vs us := by
  induction h with
  | nil => exact ⟨pa_nil, .nil⟩
  | cons h r hs ih => exact ⟨⟨fun pos pins s σ H Q I hw => (pa_cons h.pe ih.1 hs).run pos pins s σ H Q I hw⟩, .cons h.cv ih.2⟩
def eXis (a d : Nat) (C : Nm) (tb : List (Nm × Bool)) (m : ME) : ME := fun ls S => (m ls S).bind fun w S1 => match w with
  | .xn a' d' _ _ _ => if a' = a ∧ d' = d then (match tb.lookup C with
    | some b => .ok (.bl b) S1
    | none => .bad) else .bad
  | _ => .bad
def rIsX (K : PySem.W.Frag) (D a d : Addr) : List V → Hp → VK → Prop := fun xs H Q => (∃ fs, H d = some (.xd fs)) ∧ ((∃ v u b, xs = [.ref a, v] ∧ ClsV v u ∧ PySem.W.kitOne K (.ref D) u = some b ∧ Q (.bl b) H) ∨
  ∃ tp cs us b, xs = [.ref a, .ref tp] ∧ H tp = some (.tup cs) ∧ Paired ClsV cs us ∧ PySem.W.kitAny K (.ref D) us = some b ∧ Q (.bl b) H)
section
variable {X : Cx} {a d D : Addr} {o : Obj} {pn : List (Addr × Obj)}
theorem call_isX (T : ExcC X.K D) (hz : Zc (.ref D) (some d) o) (hf : ∃ vs, o.data = .fields vs) : CallR (X.suite a ((a, o) :: pn)) (.builtin "isinstance") (rIsX X.K D a d) := by
  intro pins s σ H xs us Q I r ⟨⟨fs, hd⟩, h⟩
  obtain ⟨hget, _⟩ := I.pin (a, o) (List.mem_append_left _ List.mem_cons_self)
  obtain ⟨mA, hns, _⟩ := (show ObjOk X.prog X.w H s.heap d (.xd fs) from I.hok d _ hd)
  obtain ⟨od, ho, _⟩ := lookIn_ns hns
  obtain ⟨vs, hv⟩ := hf
  have J : PySem.W.InstAt s.heap a o D (some od) := ⟨hget, hz.1, by unfold PySem.W.notCls; rw [hv] <;> rfl, by rw [hz.2]; exact ho⟩
  rcases h with ⟨v, u, b, rfl, hc, e, q⟩ | ⟨tp, cs, ws, b, rfl, hT, hc, e, q⟩
  · obtain ⟨u1, u2, rfl, r1, r2⟩ := vals2 r
    cases (show u1 = Value.ref a from r1)
    have e2 := hc.eq r2
    subst e2
    exact PySem.W.kia_one (kit_exc T) I.kIn J e (fun z => nomatch z) fun tk => ⟨.bl b, H, I.tok tk, rfl, q⟩
  · obtain ⟨u1, u2, rfl, r1, r2⟩ := vals2 r
    cases (show u1 = Value.ref a from r1)
    cases (show u2 = Value.ref tp from r2)
    obtain ⟨_, its, rv, ob, h1, h2, n, h3⟩ := (show ObjOk X.prog X.w H s.heap tp (.tup cs) from I.hok tp _ hT)
    have e3 := ClsV.all hc rv
    subst e3
    obtain ⟨oc, od2, dt, sl⟩ := ob
    simp only at h2 h3
    subst h2 h3
    exact PySem.W.kia_tup (kit_exc T) I.kIn J h1 e (fun z => nomatch z) fun tk => ⟨.bl b, H, I.tok tk, rfl, q⟩
variable {C : Nm} {e : Expr} {m : ME} {x : Str} {v : V} {u : Value} {tb : List (Nm × Bool)} {p p2 pos : Pos} {es : List Expr} {vs : List V} {us : List Value} {k : Nat}
theorem xis_in {σ : L2.St} {H : Hp} {Q : VK} (h : tE (pwX X) X.K noW (eXis a d C tb m) σ H Q) :
    tE (pwX X) X.K noW m σ H fun x H1 => x = .ref a ∧ (∃ fs, H1 d = some (.xd fs)) ∧ ∃ b, tb.lookup C = some b ∧ Q (.bl b) H1 ∧ ∀ p ho, H1 p = none → Q (.bl b) (upd H1 p ho) := by
  obtain ⟨ρ, S, ls, hS, hL, h⟩ := h
  refine ⟨ρ, S, ls, hS, hL, (Post.bind (R := RW) h).imp fun x H1 ⟨ρ1, S1, w1, e1, hS1, r1, h1⟩ => ?_⟩
  split at h1
  · split at h1
    · rename_i q
      obtain ⟨q1, q2⟩ := q
      subst q1 q2
      cases r1 with
      | @xn _ _ _ _ _ fs hd hm r2 =>
        split at h1
        · rename_i b eb
          exact ⟨rfl, ⟨fs, hd⟩, b, eb, h1.here hS1 (.bl b), fun p ho hp => h1 ρ1 _ _ (ext_keep hp) (hS1.keep hp) (.bl b)⟩
        · exact h1.elim
    · exact h1.elim
  · exact h1.elim
theorem ie_xis (T : ExcC X.K (He.ga X.K (toS C))) (hz : Zc (.ref (He.ga X.K (toS C))) (some d) o) (hf : ∃ vs, o.data = .fields vs) (hm : X.mg "isinstance" = none) (he : IE (X.suite a ((a, o) :: pn)) noW e m) (hx : NmV X x v u) (ht : ∀ p ∈ tb, PySem.W.kitOne X.K (.ref (He.ga X.K (toS p.1))) u = some p.2)
    (hg : Gl X "isinstance" := by rfl) (hs : starEach [e, .Name x p2] X.env = (false, eval e X.env) :: starEach [.Name x p2] X.env := by rfl) (hs2 : starEach [.Name x p2] X.env = (false, eval (.Name x p2) X.env) :: starEach [] X.env := by rfl) (hpl : (backTo pos (starEach [.Name x p2] X.env)).any (·.1) = false := by rfl) :
    IE (X.suite a ((a, o) :: pn)) noW (.Call (.Name "isinstance" p) [e, .Name x p2] [] pos) (eXis a d C tb m) := by
  have hx2 : PE (X.suite a ((a, o) :: pn)) (.Name x p2) (tC v) := NmV.pe (X := X.suite a ((a, o) :: pn)) ⟨hx.gl, hx.db, hx.cv, hx.is⟩
  refine PEi (pe_callB (call_isX T hz hf) hg hm (by decide +kernel) (pa_cons he (pa_cons hx2 pa_nil hs2) hs) (by decide) (by decide) hs hpl) fun σ H Q h => ?_
  obtain ⟨ρ, S, ls, hS, hL, h⟩ := xis_in (X := X) h
  exact ⟨ρ, S, ls, hS, hL, h.imp fun y H1 ⟨ey, hd, b, eb, q, _⟩ => ⟨hd, .inl ⟨v, u, b, by rw [ey], hx.cv, ht _ (lookup_mem eb), q⟩⟩⟩
theorem ie_xisT {x1} (T : ExcC X.K (He.ga X.K (toS C))) (hz : Zc (.ref (He.ga X.K (toS C))) (some d) o) (hf : ∃ vs, o.data = .fields vs) (hm : X.mg "isinstance" = none) (he : IE (X.suite a ((a, o) :: pn)) noW e m) (hx : NmVs (X.suite a ((a, o) :: pn)) es vs us) (hl : vs.length ≤ 1000) (ht : ∀ p ∈ tb, PySem.W.kitAny X.K (.ref (He.ga X.K (toS p.1))) us = some p.2)
    (hg : Gl X "isinstance" := by rfl) (hs : starEach [e, .Tuple es x1 p2] X.env = (false, eval e X.env) :: starEach [.Tuple es x1 p2] X.env := by rfl) (hs2 : starEach [.Tuple es x1 p2] X.env = (false, eval (.Tuple es x1 p2) X.env) :: starEach [] X.env := by rfl) (hpl : (backTo pos (starEach [.Tuple es x1 p2] X.env)).any (·.1) = false := by rfl) :
    IE (X.suite a ((a, o) :: pn)) noW (.Call (.Name "isinstance" p) [e, .Tuple es x1 p2] [] pos) (eXis a d C tb m) := by
  have hx2 : PE (X.suite a ((a, o) :: pn)) (.Tuple es x1 p2) (tTup (tNs vs)) := pe_tup hx.pa.1
  refine PEi (pe_callB (call_isX T hz hf) hg hm (by decide +kernel) (pa_cons he (pa_cons hx2 pa_nil hs2) hs) (by decide) (by decide) hs hpl) fun σ H Q h => ?_
  obtain ⟨ρ, S, ls, hS, hL, h⟩ := xis_in (X := X) h
  refine ⟨ρ, S, ls, hS, hL, h.imp fun y H1 ⟨ey, ⟨fs, hd⟩, b, eb, _, q⟩ => ⟨Nat.le_trans hl (by rw [sizeLine_eq]; omega), fun tp htp => ?_⟩⟩
  refine ⟨⟨fs, by rw [upd_ne (ne_of_none hd htp)]; exact hd⟩, .inr ⟨tp, vs, us, b, by rw [ey], upd_same, hx.pa.2, ht _ (lookup_mem eb), ?_⟩⟩
  exact q tp _ htp
end
end GL
set_option Elab.async false
set_option linter.all false
set_option maxRecDepth 100000
set_option maxHeartbeats 1000000
namespace GL
open PySem PySem.Spec PyProof.Rows L2
abbrev AlK : Type := He.AlD × List (Option (List (Option (Str × Int))))
def obsK (fb : PySem.W.Frag → Bool) (fn : List He.DefD) (ts : List He.Tab) (K : PySem.W.Frag) : AlK := (obsB fb fn K, ts.map fun t => He.dicW K (t.1 K))
def valK (fn : List He.DefD) (ts : List He.Tab) (w : World) : AlK := (He.valD fn, ts.map fun t => some (He.keysIn w.params t.2))
def SaysK (fb : PySem.W.Frag → Bool) (fn : List He.DefD) (ts : List He.Tab) (w : World) (K : PySem.W.Frag) : Prop := obsK fb fn ts K = valK fn ts w
section
variable {fb : PySem.W.Frag → Bool} {fn : List He.DefD} {ts : List He.Tab} {w : World} {K : PySem.W.Frag}
theorem SaysK.d (c : SaysK fb fn ts w K) : SaysB fb fn K := congrArg (fun z : AlK => z.1) c
end
end GL
set_option Elab.async false
set_option linter.all false
set_option maxRecDepth 100000
set_option maxHeartbeats 2000000
namespace GL
open PySem PySem.Spec PyProof.Rows L2
def spX (K : PySem.W.Frag) (C : Addr) (f : Str) : Sp := fun vs H Q _ => ∃ a z, vs = [.ref a, .str z] ∧ z.length ≤ 90000 ∧ H a = some (exo a C none) ∧ ∀ dx, H dx = none → dx ≠ a → Q .non (upd (upd H dx (exd dx [(f, .str z)])) a (exo a C (some dx)))
abbrev initBody (s0 y slf f : Str) (j : Nat) (p0 p1 p2 p3 p4 pc py pf pj q1 q2 q3 q4 : Pos) : List Stmt :=
  [.Expr (.Call (.Attribute (.Call (.Name "super" p0) [] [] p1) "__init__" p2) [.JoinedStr [.Constant (.str s0) j pc, .FormattedValue (.Name y py) (-1) none pf] pj] [] p3) p4,
   .Assign [.Attribute (.Name slf q1) f q2] (.Name y q3) q4]
structure XnC (P : Program) (K : PySem.W.Frag) (C fI cc : Addr) (f : Str) : Prop where
  oex : OexC K C
  exc : ExcC K C
  xf : XfC K C
  ini : PySem.W.findIn K (.ref C) "__init__" = some (some (.ref fI))
  tI : PySem.W.typeIn K (.ref fI) = some (.type "function")
  cl : ∃ ccl cld csl, K.lookup cc = some ⟨ccl, cld, .cell (some (.ref C)), csl⟩
  opq : PySem.W.nsIn K cStatics "thirdparty.any" = some none
  sini : PySem.W.ks_superIn K C C "__init__" = some (some (.builtin "ValueError.__init__"))
  sub : PySem.W.subIn K (.ref C) (.type "ValueError") = some true
  mro : PySem.W.mroIn K C (.ref C) = some true
  na : PySem.W.findIn K (.ref C) f = some none
structure XnF (P : Program) (K : PySem.W.Frag) (fI cc : Addr) (x qual : Str) (params : Arguments) (body : List Stmt) (scope : Scope) (fd : FuncData) : Prop where
  ex : ∃ oc od kV doc pm an cda ct osl, fd = PySem.W.ksFn x qual params body scope .none kV doc pm an (.ref cda) ct cc ∧ K.lookup fI = some ⟨oc, od, .func fd, osl⟩ ∧ PySem.W.codeIn K (.ref cda) qual = true ∧
    ∃ ccl cdd ccs vs file tf, K.lookup cda = some ⟨ccl, cdd, .fields vs, ccs⟩ ∧ vs[2]? = some (.str file tf) ∧ ((P.main.file : Str) == file) = true
theorem str_app_len (x y : Str) : (x ++ y).length = x.length + y.length := by
  show (x.cps ++ y.cps).size = _
  rw [Array.size_append]; rfl
theorem init1 {CX : CXT} {P : Program} {w : World} {K : PySem.W.Frag} {mg : Str → Option Value} {base : Heap} {k : Nat} {C fI cc : Addr} {x qual s0 y slf f : Str} {params : Arguments} {scope : Scope} {fd : FuncData} {j : Nat} {p0 p1 p2 p3 p4 pc py pf pj q1 q2 q3 q4 : Pos} {pl : Env → Sem Bool}
    (T : XnC P K C fI cc f) (F : XnF P K fI cc x qual params (initBody s0 y slf f j p0 p1 p2 p3 p4 pc py pf pj q1 q2 q3 q4) scope fd) (S : FnScopeK [slf, y] [slf, y] scope) (hsup : mg "super" = none) (htop : (P.main.scope.names.lookup ("super" : Str)).isSome = false)
    (hks : scope.names.lookup ("super" : Str) = some .globalImplicit) (hkc : scope.names.lookup ("__class__" : Str) = some .free) (hs0 : s0.length ≤ 1000) (hpar : ∃ ar, (params.posonlyargs ++ params.args).head? = some ar ∧ ar.arg = slf)
    (d1 : (slf == ("__debug__" : Str)) = false) (d2 : (slf == ("__classdict__" : Str)) = false) (d3 : (y == ("__debug__" : Str)) = false) (d4 : (y == ("__classdict__" : Str)) = false) (hc : ∀ env : Env, eval (.Call (.Attribute (.Call (.Name "super" p0) [] [] p1) "__init__" p2) [.JoinedStr [.Constant (.str s0) j pc, .FormattedValue (.Name y py) (-1) none pf] pj] [] p3) env = (do
      let ov ← attributeBase (.Call (.Name "super" p0) [] [] p1) "__init__" env (eval (.Call (.Name "super" p0) [] [] p1) env)
      standAt p2.atName
      let (f, first) ← holding [ov] (getMethod ov "__init__" (pl env))
      callWith p3 f first (backTo p3 (starEach [.JoinedStr [.Constant (.str s0) j pc, .FormattedValue (.Name y py) (-1) none pf] pj] env)) (backToKw p3 (keywordEach [] env)))) :
    FnOk P w K mg base CX (k + 1) fI fd [slf, y] (spX K C f) := by
  obtain ⟨oc, od, kV, doc, pm, an, cda, ct, osl, rfl, lk, hcd, hfile⟩ := F.ex
  obtain ⟨ccl, cld, csl, hcl⟩ := T.cl
  obtain ⟨ar, har, hax⟩ := hpar
  have ls : scope.names.lookup slf = some .local := S.par _ (by simp)
  have ly : scope.names.lookup y = some .local := S.par _ (by simp)
  refine fn_initK lk hcd S hcl (x := slf) (fun vs H Q E ⟨a, z, e, _⟩ => by rw [e]; rfl) (fun A outer s H E => ?_) (fun A outer s H vs Q E hr h => ?_) hc (by intro env; rfl) (by intro env; rfl) (by intro env; rfl)
  · exact ⟨rfl, ⟨oc, od, osl, _, ar, lk, har, hax⟩, rfl, hfile, rfl, ⟨ccl, cld, csl, hcl⟩, hsup, hks, hkc, ls, rfl, htop, T.opq, T.sini, T.sub, T.mro, T.oex⟩
  · obtain ⟨a, z, rfl, hz, ha, hq⟩ := h
    have v0 : PE (cxK CX P w K mg base [slf, y] qual scope fI (.ref cda) cc A outer s H E) (.Name slf q1) (tVar 0) := pe_var rfl (.inl ls) d1 d2
    have v1 : ∀ p, PE (cxK CX P w K mg base [slf, y] qual scope fI (.ref cda) cc A outer s H E) (.Name y p) (tVar 1) := fun p => pe_var rfl (.inl ly) d3 d4
    have js := pe_joined (pos := pj) (PJ.cons (pe_str (pos := pc) (X := cxK CX P w K mg base [slf, y] qual scope fI (.ref cda) cc A outer s H E) (x := s0) (j := j)) (.cons (pe_fmt (pos := pf) (v1 py)) .nil))
    have e1 : (Str.empty ++ s0).length ≤ sizeLine := by rw [str_app_len, sizeLine_eq]; show 0 + s0.length ≤ _; omega
    have e2 : (Str.empty ++ s0 ++ z).length ≤ sizeLine := by rw [str_app_len, str_app_len, sizeLine_eq]; show 0 + s0.length + z.length ≤ _; omega
    refine ⟨a, [.str z], _, _, rfl, ha, pa_cons js pa_nil (by rfl), pss_one (ps_ost (f := f) (pos := q4) (p' := q2) v0 (v1 q3) (by rfl)), ?_⟩
    refine ⟨s0, rfl, e1, .str z, rfl, .inl ⟨z, rfl, Nat.le_trans hz (by rw [sizeLine_eq]; omega), z, rfl, e2, ?_⟩⟩
    refine ⟨by simp, ha, .str z, rfl, .ref a, rfl, a, C, rfl, T.oex, T.na, .inl ⟨ha, fun dx hd hne => hq dx hd hne⟩⟩
def sRaise1 (C f : Nm) (m : ME) : MS := fun ls S => (m ls S).then ls fun w S1 => match w with
  | .str l => if l.length ≤ 90000 then .exc ⟨C, [(f, .str l)]⟩ ls S1 else .bad
  | _ => .bad
theorem is_raise1 {X : Cx} {Wx : L2.WX} {C f : Nm} {fI cc : Addr} {k : Nat} {fd : FuncData} {ps : List Str} {e : Expr} {m : ME} {x fs : Str} {c : Addr} {p pos rp : Pos} (hc : X.calm = true) (tk : Takes X Wx) (T : XnC X.prog X.K c fI cc fs) (hC : c = He.ga X.K (toS C)) (hf : fs = toS f)
    (F : FnOk X.prog X.w X.K X.mg X.base (L2.CX X.prog X.w) k fI fd ps (spX X.K c fs)) (hr : Room (k + 1) X.A) (hb : Binds X.K fd ps []) (hm : X.mg x = some (.ref c)) (he : IE X Wx e m) (hg : Gl X x := by rfl) (hdb : (x == ("__debug__" : Str)) = false := by decide)
    (hs : starEach [e] X.env = (false, eval e X.env) :: starEach [] X.env := by rfl) (hpl : (backTo pos (starEach [] X.env)).any (·.1) = false := by rfl) :
    IS X Wx (.Raise (some (.Call (.Name x p) [e] [] pos)) none rp) (sRaise1 C f m) := by
  subst hC
  have hx : Passes (L2.CX X.prog X.w) X (fun _ _ _ => False) := fun _ _ _ _ _ _ _ ⟨_, _, _, _, _, _, _, _, _, _, _, _, z⟩ => z.elim
  refine PSi (ps_raise hc tk (pmk_oex T.oex T.ini T.tI F hr hb .nil hx hg hm (pa_cons he pa_nil hs) hdb hs hpl)) fun D σ H ⟨ρ, S, ls, hS, hL, h⟩ => ⟨ρ, S, ls, hS, hL, (Post.then (R := RW) hL h).imp fun v H1 ⟨ρ1, S1, w1, e1, hS1, r1, h1⟩ => ?_⟩
  split at h1
  · split at h1
    · rename_i l hl
      cases r1 with
      | str z =>
        rw [str_len] at hl
        refine ⟨by simp, fun a ha => ⟨a, z, rfl, hl, upd_same, fun dx hd hne => ?_⟩⟩
        have hd1 : H1 dx = none := by rw [upd_ne hne] at hd; exact hd
        have hd2 : a ≠ dx := fun q => hne q.symm
        refine ⟨rfl, dx, [(fs, .str z)], upd_same, by rw [upd_ne hne, upd_same], hd1, ?_⟩
        have eG : (upd (del (upd (upd (upd H1 a (exo a (He.ga X.K (toS C)) none)) dx (exd dx [(fs, .str z)])) a (exo a (He.ga X.K (toS C)) (some dx))) a) dx (.xd [(fs, .str z)])) = upd H1 dx (.xd [(fs, V.str z)]) := by
          funext b
          by_cases hb : b = dx
          · rw [hb, upd_same, upd_same]
          · rw [upd_ne hb, upd_ne hb]
            by_cases hba : b = a
            · rw [hba, del_same, ha]
            · rw [del_ne hba, upd_ne hba, upd_ne hb, upd_ne hba]
        rw [eG]
        refine h1 ρ1 _ σ _ _ (ext_keep hd1) (hS1.keep hd1) ((hL.ext e1).ext (ext_keep hd1)) ⟨rfl, dx, _, rfl, upd_same, ?_⟩
        rw [hf]
        exact .cons (.str z) .nil
    · exact h1.elim
  · exact h1.elim
end GL
set_option Elab.async false
set_option linter.all false
set_option maxRecDepth 100000
set_option maxHeartbeats 2000000
namespace GL
open PySem PySem.Spec PyProof.Rows L2
def ccAt (p : Str × Option Str) (K : PySem.W.Frag) : Addr := match K.lookup (He.fAd K p) with
  | some ⟨_, _, .func fd, _⟩ => (match fd.closure with
    | (_, c) :: _ => c
    | _ => 0)
  | _ => 0
abbrev XnW : Type := Option (Str × Str × Arguments × FuncBody × Scope × Addr × List Str × Addr)
def xnW (K : PySem.W.Frag) (p : Str × Option Str) : XnW := match K.lookup (He.fAd K p) with
  | some ⟨_, _, .func fd, _⟩ => some (fd.name, fd.qualname, fd.params, fd.body, fd.scope, fd.globals, fd.closure.map (·.1), fd.builtins)
  | _ => none
def xnV (d : He.DefD) : XnW := some (d.name, d.qual, d.params, .stmts d.body, d.scope, mainGlobals, ["__class__"], builtinsNs)
def xnFB (file : Str) (d : He.DefD) (K : PySem.W.Frag) : Bool := match K.lookup (He.fAd K d.at_) with
  | some ⟨_, _, .func fd, _⟩ => (match fd.code, fd.defaults with
    | .ref cda, .none => PySem.W.codeIn K (.ref cda) d.qual && (match K.lookup cda with
      | some ⟨_, _, .fields vs, _⟩ => (match (vs[2]? : Option Value) with
        | some (.str fl _) => file == fl
        | _ => false)
      | _ => false)
    | _, _ => false)
  | _ => false
theorem xnF_ok {P : Program} {K : PySem.W.Frag} {d : He.DefD} (e : xnW K d.at_ = xnV d) (c : xnFB P.main.file d K = true) : ∃ fd, XnF P K (He.fAd K d.at_) (ccAt d.at_ K) d.name d.qual d.params d.body d.scope fd := by
  unfold xnFB at c
  unfold xnW at e
  unfold ccAt
  cases q : K.lookup (He.fAd K d.at_) with
  | none => rw [q] at c; cases c
  | some o =>
    obtain ⟨oc, od, dt, osl⟩ := o
    rw [q] at c e
    cases dt with
    | func fd =>
      obtain ⟨n1, n2, n3, n4, n5, n6, n7, n8, n9, n10, n11, n12, n13, n14, n15⟩ := fd
      have e2 : (some (n1, n2, n3, n4, n5, n6, n7.map (fun p => p.1), n15) : XnW) = (some (d.name, d.qual, d.params, FuncBody.stmts d.body, d.scope, mainGlobals, ["__class__"], builtinsNs) : XnW) := e
      simp only [Option.some.injEq, Prod.mk.injEq] at e2
      obtain ⟨h1, h2, h3, h4, h5, h6, h7, h8⟩ := e2
      subst h1 h2 h3 h4 h5 h6 h8
      dsimp only at c
      match n7, h7 with
      | [(a, cc)], h7 =>
        have ha : a = "__class__" := by simpa using h7
        subst ha
        split at c
        · rename_i cda
          obtain ⟨c1, c2⟩ := Bool.and_eq_true_iff.mp c
          split at c2
          · rename_i z1 z2 vs z3 hl
            split at c2
            · rename_i fl tf hv
              exact ⟨_, ⟨oc, od, n9, n10, n11, n12, cda, n14, osl, rfl, q, c1, z1, z2, z3, vs, fl, tf, hl, hv, c2⟩⟩
            · cases c2
          · cases c2
        · cases c
    | _ => cases c
def oexB (K : PySem.W.Frag) (C : Addr) : Bool := (match K.lookup C with
  | some ⟨.type "type", _, .cls cd, sl⟩ => (match cd.mro, sl.toList with
    | .ref C' :: bm, [_, _, _, _, some (.builtin n), _] => decide (C' = C) && (decide (n = "ValueError.__new__") && (!cd.hasDel && (cd.hasDict && PySem.HandSPX.refsVE bm)))
    | _, _ => false)
  | _ => false) && (decide (PySem.W.findIn K (.ref C) "__setattr__" = some (some (.builtin "object.__setattr__"))) && (decide (PySem.W.subIn K (.ref C) (.type "BaseException") = some true) && (decide (PySem.W.typeIn K (.ref C) = some (.type "type")) && PySem.W.keepIn K (.ref C))))
theorem oexB_ok {K : PySem.W.Frag} {C : Addr} (h : oexB K C = true) : OexC K C := by
  obtain ⟨h1, h⟩ := Bool.and_eq_true_iff.mp h
  obtain ⟨h2, h⟩ := Bool.and_eq_true_iff.mp h
  obtain ⟨h3, h⟩ := Bool.and_eq_true_iff.mp h
  obtain ⟨h4, h5⟩ := Bool.and_eq_true_iff.mp h
  refine ⟨?_, of_decide_eq_true h2, of_decide_eq_true h3, of_decide_eq_true h4, h5⟩
  split at h1
  · rename_i dd cd sl ho
    split at h1
    · rename_i C' bm k0 k1 k2 k3 n k5 hm hs
      simp only [Bool.and_eq_true, decide_eq_true_eq, Bool.not_eq_true'] at h1
      obtain ⟨e1, e2, e3, e4, e5⟩ := h1
      subst e1 e2
      obtain ⟨nm, bs, mro, ns, qn, hd, sn, sub, ab, col, del⟩ := cd
      dsimp only at hm e3 e4
      subst hm e3 e4
      obtain ⟨l⟩ := sl
      simp only at hs
      subst hs
      exact ⟨nm, qn, ns, bs, bm, sn, sub, ab, col, dd, k0, k1, k2, k3, k5, ho, e5⟩
    · cases h1
  · cases h1
def excB (K : PySem.W.Frag) (C : Addr) : Bool := xfB K C && (decide (PySem.W.findIn K (.ref C) "__class__" = some (some (.builtin "object.__class__"))) && (decide (PySem.W.specialIn K (.builtin "object.__class__") "__get__" = some (some (.builtin "getset_descriptor.__get__"))) &&
  (decide (PySem.W.takesIn K (.builtin "object.__class__") = some true) && decide (PySem.W.mroIn K C (.type "object") = some true))))
theorem excB_ok {K : PySem.W.Frag} {C : Addr} (h : excB K C = true) : ExcC K C := by
  obtain ⟨h1, h⟩ := Bool.and_eq_true_iff.mp h
  obtain ⟨h2, h⟩ := Bool.and_eq_true_iff.mp h
  obtain ⟨h3, h⟩ := Bool.and_eq_true_iff.mp h
  obtain ⟨h4, h5⟩ := Bool.and_eq_true_iff.mp h
  have x := xfB_ok h1
  exact ⟨x.ga, x.gg, x.exC, x.hdC, of_decide_eq_true h2, of_decide_eq_true h3, of_decide_eq_true h4, of_decide_eq_true h5⟩
def cellB (K : PySem.W.Frag) (cc C : Addr) : Bool := match K.lookup cc with
  | some ⟨_, _, .cell (some (.ref D)), _⟩ => decide (D = C)
  | _ => false
def xnCB (x f : Str) (K : PySem.W.Frag) : Bool := oexB K (He.ga K x) && (excB K (He.ga K x) && (decide (PySem.W.findIn K (.ref (He.ga K x)) "__init__" = some (some (.ref (He.fAd K (x, some "__init__"))))) && (decide (PySem.W.typeIn K (.ref (He.fAd K (x, some "__init__"))) = some (.type "function")) &&
  (cellB K (ccAt (x, some "__init__") K) (He.ga K x) && (decide (PySem.W.nsIn K cStatics "thirdparty.any" = some none) && (decide (PySem.W.ks_superIn K (He.ga K x) (He.ga K x) "__init__" = some (some (.builtin "ValueError.__init__"))) &&
  (decide (PySem.W.subIn K (.ref (He.ga K x)) (.type "ValueError") = some true) && (decide (PySem.W.mroIn K (He.ga K x) (.ref (He.ga K x)) = some true) && decide (PySem.W.findIn K (.ref (He.ga K x)) f = some none)))))))))
theorem xnC_ok {P : Program} {x f : Str} {K : PySem.W.Frag} (h : xnCB x f K = true) : XnC P K (He.ga K x) (He.fAd K (x, some "__init__")) (ccAt (x, some "__init__") K) f := by
  obtain ⟨h1, h⟩ := Bool.and_eq_true_iff.mp h
  obtain ⟨h2, h⟩ := Bool.and_eq_true_iff.mp h
  obtain ⟨h3, h⟩ := Bool.and_eq_true_iff.mp h
  obtain ⟨h4, h⟩ := Bool.and_eq_true_iff.mp h
  obtain ⟨h5, h⟩ := Bool.and_eq_true_iff.mp h
  obtain ⟨h6, h⟩ := Bool.and_eq_true_iff.mp h
  obtain ⟨h7, h⟩ := Bool.and_eq_true_iff.mp h
  obtain ⟨h8, h⟩ := Bool.and_eq_true_iff.mp h
  obtain ⟨h9, h10⟩ := Bool.and_eq_true_iff.mp h
  refine ⟨oexB_ok h1, excB_ok h2, xfB_ok (Bool.and_eq_true_iff.mp h2).1, of_decide_eq_true h3, of_decide_eq_true h4, ?_, of_decide_eq_true h6, of_decide_eq_true h7, of_decide_eq_true h8, of_decide_eq_true h9, of_decide_eq_true h10⟩
  unfold cellB at h5
  split at h5
  · rename_i a b D c hl
    rw [of_decide_eq_true h5] at hl
    exact ⟨a, b, c, hl⟩
  · cases h5
def caughtB (x : Str) (fs : List Str) (K : PySem.W.Frag) : Bool := excB K (He.ga K x) && fs.all fun f => decide (PySem.W.findIn K (.ref (He.ga K x)) f = some none)
structure Caught (K : PySem.W.Frag) (x : Str) (fs : List Str) : Prop where
  exc : ExcC K (He.ga K x)
  xf : XfC K (He.ga K x)
  na : ∀ f ∈ fs, PySem.W.findIn K (.ref (He.ga K x)) f = some none
theorem caught_ok {x : Str} {fs : List Str} {K : PySem.W.Frag} (h : caughtB x fs K = true) : Caught K x fs := by
  obtain ⟨h1, h2⟩ := Bool.and_eq_true_iff.mp h
  exact ⟨excB_ok h1, xfB_ok (Bool.and_eq_true_iff.mp h1).1, fun f hf => of_decide_eq_true (List.all_eq_true.mp h2 f hf)⟩
def exmB (c : PySem.W.Frag → Value) (tbl : List (Nm × Bool)) (K : PySem.W.Frag) : Bool := tbl.all fun p => decide (PySem.W.exmOne K (.ref (He.ga K (toS p.1))) (c K) = some p.2)
theorem exm_ok {c : PySem.W.Frag → Value} {tbl : List (Nm × Bool)} {K : PySem.W.Frag} (h : exmB c tbl K = true) : ∀ p ∈ tbl, PySem.W.exmOne K (.ref (He.ga K (toS p.1))) (c K) = some p.2 := fun p hp => of_decide_eq_true (List.all_eq_true.mp h p hp)
def kitB1 (c : PySem.W.Frag → Value) (tbl : List (Nm × Bool)) (K : PySem.W.Frag) : Bool := tbl.all fun p => decide (PySem.W.kitOne K (.ref (He.ga K (toS p.1))) (c K) = some p.2)
theorem kit1_ok {c : PySem.W.Frag → Value} {tbl : List (Nm × Bool)} {K : PySem.W.Frag} (h : kitB1 c tbl K = true) : ∀ p ∈ tbl, PySem.W.kitOne K (.ref (He.ga K (toS p.1))) (c K) = some p.2 := fun p hp => of_decide_eq_true (List.all_eq_true.mp h p hp)
def kitBT (cs : PySem.W.Frag → List Value) (tbl : List (Nm × Bool)) (K : PySem.W.Frag) : Bool := tbl.all fun p => decide (PySem.W.kitAny K (.ref (He.ga K (toS p.1))) (cs K) = some p.2)
theorem kitT_ok {cs : PySem.W.Frag → List Value} {tbl : List (Nm × Bool)} {K : PySem.W.Frag} (h : kitBT cs tbl K = true) : ∀ p ∈ tbl, PySem.W.kitAny K (.ref (He.ga K (toS p.1))) (cs K) = some p.2 := fun p hp => of_decide_eq_true (List.all_eq_true.mp h p hp)
abbrev AlX : Type := AlK × List XnW
def obsX (fb : PySem.W.Frag → Bool) (fn : List He.DefD) (ts : List He.Tab) (xs : List He.DefD) (K : PySem.W.Frag) : AlX := (obsK fb fn ts K, xs.map fun d => xnW K d.at_)
def valX (fn : List He.DefD) (ts : List He.Tab) (xs : List He.DefD) (w : World) : AlX := (valK fn ts w, xs.map xnV)
def SaysX (fb : PySem.W.Frag → Bool) (fn : List He.DefD) (ts : List He.Tab) (xs : List He.DefD) (w : World) (K : PySem.W.Frag) : Prop := obsX fb fn ts xs K = valX fn ts xs w
section
variable {fb : PySem.W.Frag → Bool} {fn : List He.DefD} {ts : List He.Tab} {xs : List He.DefD} {w : World} {K : PySem.W.Frag}
theorem SaysX.k (c : SaysX fb fn ts xs w K) : SaysK fb fn ts w K := congrArg (fun z : AlX => z.1) c
theorem SaysX.d (c : SaysX fb fn ts xs w K) : SaysB fb fn K := c.k.d
theorem SaysX.xn (c : SaysX fb fn ts xs w K) (i : Nat) {d : He.DefD} (h : xs[i]? = some d := by rfl) : xnW K d.at_ = xnV d := by
  have e : xs.map (fun d => xnW K d.at_) = xs.map xnV := congrArg (fun z : AlX => z.2) c
  have e2 : (xs.map fun d => xnW K d.at_)[i]? = (xs.map xnV)[i]? := by rw [e]
  rw [List.getElem?_map, List.getElem?_map, h] at e2
  exact Option.some.inj e2
end
end GL
set_option Elab.async false
set_option linter.all false
set_option maxRecDepth 100000
set_option maxHeartbeats 1000000
namespace GL
open PySem PySem.Spec PyProof.Rows L2
def strI (i : Int) : List Nat := (Str.ofString (toString i)).cps.toList
def eFmt (m : ME) : ME := fun ls S => (m ls S).bind fun w S1 => match w with
  | .str s => if s.length ≤ lim then .ok (.str s) S1 else .bad
  | .int i => if i.natAbs.log2 < 1920 then .ok (.str (strI i)) S1 else .bad
  | _ => .bad
def fJs : List ME → List Nat → ME
  | [], acc, _, S => .ok (.str acc) S
  | m :: r, acc, ls, S => (m ls S).bind fun w S1 => match w with
    | .str y => if acc.length + y.length ≤ lim then fJs r (acc ++ y) ls S1 else .bad
    | _ => .bad
section
variable {X : Cx} {Wx : WX} {pos : Pos} {e : Expr} {m : ME}
theorem ie_fmt (he : IE X Wx e m) : IE X Wx (.FormattedValue e (-1) none pos) (eFmt m) :=
  PEi (pe_fmt he) fun σ H Q ⟨ρ, S, ls, hS, hL, h⟩ => ⟨ρ, S, ls, hS, hL, (Post.bind (R := RW) h).imp fun x H1 ⟨ρ1, S1, w1, e1, hS1, r1, h1⟩ => by
    split at h1
    · split at h1
      · rename_i hz
        cases r1 with
        | str z =>
          rw [str_len] at hz
          exact .inl ⟨z, rfl, lim_sz hz, h1.here hS1 (.str z)⟩
      · exact h1.elim
    · split at h1
      · rename_i hz
        cases r1
        exact .inr ⟨_, rfl, hz, h1.here hS1 (.str (Str.ofString (toString _)))⟩
      · exact h1.elim
    · exact h1.elim⟩
inductive IJ (X : Cx) (Wx : WX) : List Expr → List ME → Prop where
  | nil : IJ X Wx [] []
  | cons {e : Expr} {m : ME} {es : List Expr} {ms : List ME} (h : IE X Wx e m) (r : IJ X Wx es ms) : IJ X Wx (e :: es) (m :: ms)
theorem IJ.pj {es : List Expr} {ms : List ME} (h : IJ X Wx es ms) : PJ X es (ms.map (tE (pwX X) X.K Wx)) := by
  induction h with
  | nil => exact .nil
  | cons a b ih => exact .cons a ih
theorem js_in {σ : L2.St} : ∀ {ms : List ME} {z : Str} {H : Hp} {Q : VK}, tE (pwX X) X.K Wx (fJs ms z.cps.toList) σ H Q → tJs (ms.map (tE (pwX X) X.K Wx)) z σ H fun out H1 => Q (.str out) H1
  | [], z, H, Q, ⟨ρ, S, ls, hS, hL, h⟩ => by
    unfold fJs at h
    exact h.here hS (.str z)
  | m :: r, z, H, Q, ⟨ρ, S, ls, hS, hL, h⟩ => by
    unfold fJs at h
    show tE (pwX X) X.K Wx m σ H _
    refine ⟨ρ, S, ls, hS, hL, (Post.bind (R := RW) h).imp fun x H1 ⟨ρ1, S1, w1, e1, hS1, r1, h1⟩ => ?_⟩
    split at h1
    · split at h1
      · rename_i hz
        cases r1 with
        | str y =>
          have el : (z ++ y).cps.toList = z.cps.toList ++ y.cps.toList := by
            show (z.cps ++ y.cps).toList = _
            simp
          refine ⟨y, rfl, ?_, js_in ⟨ρ1, S1, ls, hS1, hL.ext e1, by rw [el]; exact h1⟩⟩
          refine lim_sz ?_
          rw [str_len, str_len] at hz
          show (z.cps ++ y.cps).size ≤ lim
          rw [Array.size_append]
          exact hz
      · exact h1.elim
    · exact h1.elim
theorem ie_fs {v1 v2 : Expr} {rest : List Expr} {ms : List ME} (h : IJ X Wx (v1 :: v2 :: rest) ms) : IE X Wx (.JoinedStr (v1 :: v2 :: rest) pos) (fJs ms []) :=
  PEi (pe_joined h.pj) fun σ H Q q => js_in (z := Str.empty) q
end
end GL
set_option Elab.async false
set_option linter.all false
set_option maxRecDepth 100000
set_option maxHeartbeats 1000000
namespace GL
open PySem PySem.Spec PyProof.Rows L2
theorem mem_keys {C : Nm} {b : Bool} {tb : List (Nm × Bool)} (h : tb.lookup C = some b) : C ∈ tb.map (·.1) := List.mem_map.mpr ⟨_, lookup_mem h, rfl⟩
section
variable {X : Cx} {Wx : L2.WX} {a b e : Expr} {ma mb me : ME} {rest : List Expr} {pos : Pos}
def fStr : MF := fun ws S => match ws with
  | [.int i] => if i.natAbs.log2 < 1920 then .ok (.str (strI i)) S else .bad
  | [.str s] => .ok (.str s) S
  | _ => .bad
theorem cr_str : CallR X (.type "str") (fun xs H Q => (∃ i, xs = [.int i] ∧ i.natAbs.log2 < 1920 ∧ Q (.str (toString i)) H) ∨ ∃ a, xs = [.str a] ∧ Q (.str a) H) := by
  intro pins s σ H xs us Q I r h
  rcases h with h | h
  · exact call_str_int pins s σ H xs us Q I r h
  · exact SkE.call_str_str pins s σ H xs us Q I r h
theorem ci_str : CallI X (fun xs H Q => (∃ i, xs = [.int i] ∧ i.natAbs.log2 < 1920 ∧ Q (.str (toString i)) H) ∨ ∃ a, xs = [.str a] ∧ Q (.str a) H) fStr := by
  intro ρ S H ws vs Ex Q hS r h
  unfold fStr at h
  split at h
  · split at h
    · rename_i hz
      cases r with | cons r t => cases t; cases r; exact .inl ⟨_, rfl, hz, h.here hS (.str (Str.ofString (toString _)))⟩
    · exact h.elim
  · cases r with | cons r t => cases t; cases r; exact .inr ⟨_, rfl, h.here hS (.str _)⟩
  · exact h.elim
end
end GL
set_option Elab.async false
set_option linter.all false
set_option maxRecDepth 100000
set_option maxHeartbeats 2000000
namespace GL
open PySem PySem.Spec PyProof.Rows L2
end GL
set_option Elab.async false
set_option linter.all false
set_option maxRecDepth 100000
set_option maxHeartbeats 2000000
namespace GL
open PySem PySem.Spec PyProof.Rows L2
variable {pw : PgW}
def keqP : PV → PV → Bool
  | .int i, .int j => decide (i = j)
  | .str a, .str b => decide (a = b)
  | _, _ => false
def setP (k w : PV) : List (PV × PV) → List (PV × PV)
  | [] => []
  | (a, v) :: r => (if keqP a k = true then (a, w) else (a, v)) :: setP k w r
section
variable {K : PySem.W.Frag} {ρ : Nat → Addr} {N : Nat} {H : Hp} {k w : PV} {kk : Key} {v : V}
theorem RKs.app : ∀ {a b : List (PV × PV)} {x y : List (Key × V)}, RKs K ρ N H a x → RKs K ρ N H b y → RKs K ρ N H (a ++ b) (x ++ y)
  | _, _, _, _, .nil, s => s
  | _, _, _, _, .cons rk r t, s => .cons rk r (RKs.app t s)
theorem RKs.length : ∀ {a : List (PV × PV)} {x : List (Key × V)}, RKs K ρ N H a x → a.length = x.length
  | _, _, .nil => rfl
  | _, _, .cons _ _ t => by simp [RKs.length t]
end
inductive RPs (K : PySem.W.Frag) (ρ : Nat → Addr) (N : Nat) (H : Hp) : List (PV × PV) → List (V × V) → Prop
  | nil : RPs K ρ N H [] []
  | cons {a b : PV} {x y : V} {r : List (PV × PV)} {s : List (V × V)} : RW K ρ N H a x → RW K ρ N H b y → RPs K ρ N H r s → RPs K ρ N H ((a, b) :: r) ((x, y) :: s)
theorem RPs.ext {K : PySem.W.Frag} {ρ ρ' : Nat → Addr} {N N' : Nat} {H H' : Hp} (e : Ext K ρ N H ρ' N' H') : ∀ {a : List (PV × PV)} {b : List (V × V)}, RPs K ρ N H a b → RPs K ρ' N' H' a b
  | _, _, .nil => .nil
  | _, _, .cons r1 r2 t => .cons (r1.ext e) (r2.ext e) (RPs.ext e t)
end GL
set_option Elab.async false
set_option linter.all false
set_option maxRecDepth 100000
set_option maxHeartbeats 2000000
namespace GL
open PySem PySem.Spec PyProof.Rows L2
section
variable {X : Cx} {Wx : L2.WX} {k n : Nat} {f C : Addr} {fd : FuncData} {ps ks : List Str} {x m : Str} {p pos apos kpos : Pos} {e o : Expr} {es : List Expr} {kws : List Keyword} {np N : Nat} {mb : MS} {me mo : ME} {ma mk : MA} {dvs : List V} {dws : List PV} {c : List Nat} {nm : Option Str} {cn : Nm}
theorem sp_inA {σ : L2.St} {ρ : Nat → Addr} {S : Sto} {H : Hp} {ws : List PV} {vs : List V} {Ex : XK} {Q : VK} (hS : RSt (pwX X) X.K ρ H S) (r : RWs X.K ρ S.length H ws vs)
    (h : Post (pwX X) RW X.K ρ S.length H Ex (fnOf np N mb ws S) Q) : spI (pwX X) X.K np (fnOf np N mb) vs H Q Ex := by
  refine ⟨ρ, S, ws, hS, r, ?_, h⟩
  unfold fnOf at h
  split at h
  · assumption
  · exact h.elim
end
end GL
set_option Elab.async false
set_option linter.all false
set_option maxRecDepth 100000
set_option maxHeartbeats 1000000
namespace GL
open PySem PySem.Spec PyProof.Rows L2
end GL
set_option Elab.async false
set_option linter.all false
set_option maxRecDepth 100000
set_option maxHeartbeats 1000000
namespace GL
open PySem PySem.Spec PyProof.Rows L2
end GL
set_option Elab.async false
set_option linter.all false
set_option maxRecDepth 100000
set_option maxHeartbeats 1000000
namespace L2
open PySem PySem.Spec PyProof.Rows
variable {X : Cx} {pos : Pos}
def gFld (K : PySem.W.Frag) (to : TE) (f : Str) : TG := fun v σ H Q => to σ H fun x H1 => ∃ a C dx fs, x = .ref a ∧ H1 a = some (.ins C dx fs) ∧ Cls K C ∧ NoAttr K C f ∧ fs.length < 1000 ∧ Q σ (upd H1 a (.ins C dx (putF f v fs)))
end L2
namespace GL
open PySem PySem.Spec PyProof.Rows L2
end GL
set_option Elab.async false
set_option linter.all false
set_option maxRecDepth 100000
set_option maxHeartbeats 1000000
namespace GL
open PySem PySem.Spec PyProof.Rows L2
end GL
set_option Elab.async false
set_option linter.all false
set_option maxRecDepth 100000
set_option maxHeartbeats 1000000
namespace GL
open PySem PySem.Spec PyProof.Rows L2
section
variable {X : Cx}
theorem thk {α β : Type} {M : Model} {A : Around} {t : Sem α} {Q P : α → Shared → Prop} {E : Value → Shared → Prop} {s : Shared} (h0 : 1 ≤ s.toks) (h : wpAny M A t Q E s) (q : ∀ v s1, 1 ≤ s1.toks → Q v s1 → P v s1) : wpAny M A t P E s :=
  wpAny_mono (PySem.wpAny_toks h) (fun v s1 z => q v s1 (Nat.le_trans h0 z.1) z.2) fun _ _ z => z.2
theorem pst_setT {i : Nat} {x : Str} {e : Expr} {te : TE} {pos pos' : Pos} (hN : X.N.Nodup) (hi : X.N[i]? = some x) (hx : Loc X.env.scope x) (he : PET X e te) (hs : swapsWith e (some (.Name x pos')) pos.line X.env = pure false := by rfl) (hf : X.fn x = true ∨ X.env.scope.names.lookup x = some .local := by first | exact .inl rfl | exact .inr rfl | assumption) :
    PST X (.Assign [.Name x pos'] e pos) (tAsg te (gName i)) := by
  intro pins s σ H D h0 I h
  refine wpAny_Assign_Name (thn (he pins s σ H _ h0 I h) fun v s1 ⟨y, H1, I1, r1, q1⟩ => ?_) hs
  exact store_ok I1 hN hi hx r1 (fun s2 I2 => ⟨_, H1, I2, q1⟩) hf
end
abbrev IST (X : Cx) (Wx : WX) (st : Stmt) (m : MS) : Prop := PST X st (tS (pwX X) X.K Wx m)
abbrev ISsT (X : Cx) (Wx : WX) (st : List Stmt) (m : MS) : Prop := PSsT X st (tS (pwX X) X.K Wx m)
abbrev IET (X : Cx) (Wx : WX) (e : Expr) (m : ME) : Prop := PET X e (tE (pwX X) X.K Wx m)
theorem PETi {X : Cx} {e : Expr} {t t' : TE} (h : PET X e t) (i : ∀ σ H Q, t' σ H Q → t σ H Q) : PET X e t' := fun pins s σ H Q h0 I hw => h pins s σ H Q h0 I (i _ _ _ hw)
theorem PSTi {X : Cx} {e : Stmt} {t t' : TS} (h : PST X e t) (i : ∀ D σ H, t' D σ H → t D σ H) : PST X e t' := fun pins s σ H D h0 I hw => h pins s σ H D h0 I (i _ _ _ hw)
theorem PSsTi {X : Cx} {e : List Stmt} {t t' : TS} (h : PSsT X e t) (i : ∀ D σ H, t' D σ H → t D σ H) : PSsT X e t' := fun pins s σ H D h0 I hw => h pins s σ H D h0 I (i _ _ _ hw)
section
variable {X : Cx} {Wx : WX} {pos : Pos} {st : Stmt} {rest : List Stmt} {m1 m2 mb : MS} {mt : MT} {me : ME} {e c tg : Expr} {body : List Stmt} {mi : MI} {g : MG} {sl : List Nat}
theorem issT_one (h1 : IST X Wx st m1) : ISsT X Wx [st] m1 := CwR.psst_one h1
theorem issT_of (h : ISs X Wx rest m1) : ISsT X Wx rest m1 := PSsT.of h
theorem issT_cons (h1 : IST X Wx st m1) (h2 : ISsT X Wx rest m2) : ISsT X Wx (st :: rest) (sSeq m1 m2) :=
  PSsTi (psst_cons h1 h2) fun D σ H ⟨ρ, S, ls, hS, hL, h⟩ => ⟨ρ, S, ls, hS, hL, by
    have q := PostS.seq h
    cases hm : m1 ls S with
    | nx a S' =>
      rw [hm] at q
      exact fun ρ1 H1 σ1 e r x => by
        obtain ⟨ρ2, S2, ls2, _, a, b, c⟩ := q ρ1 H1 σ1 e r x
        exact ⟨ρ2, S2, ls2, a, b, c⟩
    | bk a S' => rw [hm] at q; exact q
    | ct a S' => rw [hm] at q; exact q
    | rt a S' => rw [hm] at q; exact q
    | exc a b S' => rw [hm] at q; exact q
    | bad => rw [hm] at q; exact q⟩
theorem isT_if {a b : List Stmt} (hc : IT X Wx c mt) (ha : ISsT X Wx a m1) (hb : ISsT X Wx b m2) : IST X Wx (.If c a b pos) (sIf mt m1 m2) :=
  PSTi (CwR.pst_if hc ha hb) fun D σ H ⟨ρ, S, ls, hS, hL, h⟩ => ⟨ρ, S, ls, hS, hL, (Post.then (R := RBool) hL h).imp fun k H1 ⟨ρ1, S1, k1, e1, hS1, r1, h1⟩ => by
    have r1 : k1 = k := r1
    subst k
    cases k1
    · rw [if_neg Bool.false_ne_true] at h1 ⊢; exact ⟨ρ1, S1, ls, hS1, hL.ext e1, h1⟩
    · rw [if_pos rfl] at h1 ⊢; exact ⟨ρ1, S1, ls, hS1, hL.ext e1, h1⟩⟩
theorem isT_set {i : Nat} {x : Str} {pos' : Pos} (hN : X.N.Nodup) (he : IET X Wx e me) (hi : X.N[i]? = some x := by rfl) (hx : Loc X.env.scope x := by first | exact Or.inl rfl | exact Or.inr rfl) (hs : swapsWith e (some (.Name x pos')) pos.line X.env = pure false := by rfl) (hf : X.fn x = true ∨ X.env.scope.names.lookup x = some .local := by first | exact .inl rfl | exact .inr rfl) :
    IST X Wx (.Assign [.Name x pos'] e pos) (sSet i me) :=
  PSTi (pst_setT (i := i) hN hi hx he hs hf) fun D σ H ⟨ρ, S, ls, hS, hL, h⟩ => ⟨ρ, S, ls, hS, hL, (Post.then (R := RW) hL h).imp fun x H1 ⟨ρ1, S1, w1, e1, hS1, r1, h1⟩ => h1 ρ1 H1 _ .refl hS1 (RL.set r1 _ (hL.ext e1))⟩
def PE1 (X : Cx) (e : Expr) (t : TE) : Prop :=
  ∀ (pins : List (Addr × Obj)) (s : Shared) (σ : L2.St) (H : Hp) (Q : VK), Inv X pins σ H s → t σ H Q → wpAny (model X.prog X.w) X.A (eval e X.env) (fun v s' => 1 ≤ s'.toks ∧ EP X pins σ Q v s') X.xe s
def PA1 (X : Cx) (es : List Expr) (t : TA) : Prop :=
  ∀ (pos : Pos) (pins : List (Addr × Obj)) (s : Shared) (σ : L2.St) (H : Hp) (Q : List V → Hp → Prop), Inv X pins σ H s → t σ H Q → wpAny (model X.prog X.w) X.A (spliced (backTo pos (starEach es X.env))) (fun us s' => 1 ≤ s'.toks ∧ AP X pins σ Q us s') X.xe s
def PI1 (X : Cx) (tg iter : Expr) (wi : TI) : Prop :=
  ∀ (pins : List (Addr × Obj)) (s : Shared) (σ : L2.St) (H : Hp) (R : It → Hp → Prop), Inv X pins σ H s → wi σ H R →
    wpAny (model X.prog X.w) X.A (eval iter X.env) (fun v s1 => wpAny (model X.prog X.w) X.A (pyIter v) (fun it s2 => 1 ≤ s2.toks ∧ PIE X pins σ tg R it s2) X.xe s1) X.xe s
theorem PE1i {t t' : TE} (h : PE1 X e t) (i : ∀ σ H Q, t' σ H Q → t σ H Q) : PE1 X e t' := fun pins s σ H Q I hw => h pins s σ H Q I (i _ _ _ hw)
theorem PA1i {es : List Expr} {t t' : TA} (h : PA1 X es t) (i : ∀ σ H Q, t' σ H Q → t σ H Q) : PA1 X es t' := fun pos pins s σ H Q I hw => h pos pins s σ H Q I (i _ _ _ hw)
theorem PI1i {t t' : TI} (h : PI1 X tg e t) (i : ∀ σ H Q, t' σ H Q → t σ H Q) : PI1 X tg e t' := fun pins s σ H Q I hw => h pins s σ H Q I (i _ _ _ hw)
theorem pe1_str {x : Str} {j : Nat} : PE1 X (.Constant (.str x) j pos) (tC (.str x)) := fun _ s _ H _ I h => Calls.Constant_str ⟨Nat.succ_le_succ (Nat.zero_le _), .str x, H, I.tok _, ⟨_, rfl⟩, h⟩
theorem pa1_cons {es : List Expr} {te : TE} {t : TA} (ha : PE1 X e te) (hr : PA X es t) (hs : starEach (e :: es) X.env = (false, eval e X.env) :: starEach es X.env := by rfl) : PA1 X (e :: es) (tCons te t) := by
  intro pos pins s σ H Q I h
  rw [hs]
  show wpAny _ _ (spliced ((false, eval e X.env) :: backTo pos (starEach es X.env))) _ _ s
  refine Calls.spliced_cons (thn (ha pins s σ H _ I h) fun u s1 ⟨t1, x, H1, I1, r1, q1⟩ => ?_)
  exact thk (β := Unit) t1 (hr.run pos pins s1 σ H1 _ I1 q1) fun us s2 t2 ⟨xs, H2, I2, r2, q2⟩ => ⟨t2, x :: xs, H2, I2, .cons r1 r2, q2⟩
theorem pe1_tup {es : List Expr} {t : TA} {x1} (h : PA1 X es t) : PE1 X (.Tuple es x1 pos) (tTup t) := by
  intro pins s σ H Q I hq
  refine wpAny_Tuple_spliced (thn (h pos pins s σ H _ I hq) fun us s1 ⟨t1, xs, H1, I1, r, z, q⟩ => ⟨by rw [← r.length]; exact z, ?_⟩)
  have hf : H1 s1.heap.objs.size = none := I1.hok.fresh (Nat.le_refl _)
  refine ⟨t1, .ref s1.heap.objs.size, upd H1 s1.heap.objs.size (.tup xs), I1.laid (t' := s1.toks) (fun b u e => Heap.get?_push_of_some _ e) (Nat.le_refl _) ?_, rfl, q _ hf⟩
  exact ⟨z, us, r, ⟨_, Heap.get?_push_size _ rfl, rfl, _, rfl⟩⟩
theorem pi1_seq {te : TE} (he : PE1 X e te) : PI1 X tg e (fun σ H R => te σ H fun x H1 => rIterM X.K x H1 R) := by
  intro pins s σ H R I h
  apply thn (he pins s σ H _ I h)
  rintro v s1 ⟨t1, x, H1, I1, r1, a, rfl, q⟩
  cases r1
  have fp : ∀ b ∈ [s1.heap.objs.size], FpOk X pins H1 b := by
    intro b hb
    have hb : b = s1.heap.objs.size := List.mem_singleton.mp hb
    rw [hb]
    exact I1.fpOk (Nat.le_refl _) I1.fresh
  rcases q with ⟨⟨xs, hq⟩, q⟩ | ⟨⟨xs, hq⟩, q⟩
  · obtain ⟨its, _, pl, _⟩ := I1.list hq
    apply wpAny_pyIter_list pl.isList
    exact ⟨t1, _, [_], _, _, H1, rfl, I1.kept (t' := s1.toks) (fun _ _ z => Heap.get?_push_of_some _ z), turn_list a _, ⟨_, Heap.get?_push_size _ rfl, rfl, rfl⟩, fp, q⟩
  · obtain ⟨its, _, pl, _⟩ := I1.tuple hq
    apply wpAny_pyIter_tuple (items := its.toArray) pl
    exact ⟨t1, _, [_], _, _, H1, rfl, I1.kept (t' := s1.toks) (fun _ _ z => Heap.get?_push_of_some _ z), turn_tuple a _, ⟨_, Heap.get?_push_size _ rfl, rfl, rfl⟩, fp, q⟩
theorem ps_for1 {tg iter : Expr} {body : List Stmt} {wi : TI} {g : TG} {tb : TS} {pos : Pos} (hp : PassesOwn (model X.prog X.w) X.A X.env X.xe) (hc : X.calm = true) (hi : PI1 X tg iter wi) (hg : PG X tg g) (hb : PSsT X body tb)
    (hs : ∀ x, foldedSetIterable iter X.env x = pure x := by intro _; rfl) : PS X (.For tg iter body [] pos) (tFor wi g tb) := by
  refine ⟨fun pins s σ H D I h => ?_⟩
  refine wpAny_For (thn (hi pins s σ H _ I h) fun v s1 h1 => thn h1 fun itv s2 ⟨t2, h2⟩ => ?_) hs
  obtain ⟨it, fp, tn, J, H2, e, I2, T, st2, f2, W, ⟨m0, w0⟩, turn⟩ := h2
  subst e
  have stat : ∀ {H' : Hp}, (∀ b ∈ fp, H' b = none) → ∀ b ∈ fp, FpOk X pins H' b := fun hn b hb => ⟨hn b hb, (f2 b hb).2⟩
  refine codeAny_forLoop_any (fun n s' => 1 ≤ s'.toks ∧ ∃ i σ' H', Inv X pins σ' H' s' ∧ tn i s'.heap ∧ (∀ b ∈ fp, H' b = none) ∧ W i n σ' H') ?_ m0 ⟨t2, 0, σ, H2, I2, st2, fun b hb => (f2 b hb).1, w0⟩
  rintro n s3 ⟨t3, i, σ3, H3, I3, st3, fr3, w3⟩
  rcases turn i n σ3 H3 w3 with ⟨stop, qn⟩ | ⟨go, N, hN, step⟩
  · refine wpAny_passesOwn hp (thn (T.done X rfl rfl rfl hc i pins s3 σ3 H3 X.xe I3 (stat fr3) st3 stop) fun r s4 ⟨hr, I4⟩ => ?_)
    subst hr
    exact wpAny_execs_nil ⟨σ3, H3, I4, qn⟩
  · refine wpAny_passesOwn hp (thk (β := Unit) t3 (T.item X rfl rfl rfl hc i pins s3 σ3 H3 X.xe I3 (stat fr3) st3 go) fun r s4 t4 ⟨u, hr, h4⟩ => ?_)
    subst hr
    refine wpAny_passesOwn hp (thk (β := Unit) t4 h4 fun _ s5 t5 ⟨x, H5, I5, r5, y5, st5, fr5⟩ => ?_)
    have I5' := I5.pinned (stat fr5) (T.obj _ _ st5)
    refine wpAny_passesOwn hp (thk (β := Unit) t5 (hg.run _ s5 σ3 H5 x u _ I5' r5 (step x H5 y5)) fun _ s6 t6 ⟨σ6, H6, I6, q6⟩ => ?_)
    refine wpAny_passesOwn hp (thk (β := Unit) t6 (hb _ s6 σ6 H6 _ t6 I6 q6) fun f s7 t7 q7 => ?_)
    have again : ∀ {σ7 : L2.St} {H7 : Hp}, Inv X (pins ++ pinsAt fp s5.heap) σ7 H7 s7 → N σ7 H7 → ∃ m, m < n ∧ (1 ≤ s7.toks ∧ ∃ i σ' H', Inv X pins σ' H' s7 ∧ tn i s7.heap ∧ (∀ b ∈ fp, H' b = none) ∧ W i m σ' H') := fun {σ7 H7} I7 n7 => by
      obtain ⟨m', hm, w7⟩ := hN σ7 H7 n7
      refine ⟨m', hm, t7, i + 1, σ7, H7, I7.unpinned, T.keep _ _ _ st5 fun b hb o e => (I7.pin (b, o) (List.mem_append_right _ (List.mem_append_right _ (mem_pinsAt hb e)))).1, fun b hb => ?_, w7⟩
      obtain ⟨o, e, d⟩ := T.obj _ _ st5 b hb
      exact (I7.pin (b, o) (List.mem_append_right _ (List.mem_append_right _ (mem_pinsAt hb e)))).2.1
    cases f with
    | next => obtain ⟨σ7, H7, I7, n7⟩ := q7; exact again I7 n7
    | cont => obtain ⟨σ7, H7, I7, n7⟩ := q7; exact again I7 n7
    | brk => obtain ⟨σ7, H7, I7, q7⟩ := q7; exact ⟨σ7, H7, I7.unpinned, q7⟩
    | ret v => obtain ⟨x7, σ7, H7, I7, r7, q7⟩ := q7; exact ⟨x7, σ7, H7, I7.unpinned, r7, q7⟩
abbrev IE1 (X : Cx) (Wx : WX) (e : Expr) (m : ME) : Prop := PE1 X e (tE (pwX X) X.K Wx m)
abbrev IA1 (X : Cx) (Wx : WX) (es : List Expr) (m : MA) : Prop := PA1 X es (tA (pwX X) X.K Wx m)
abbrev II1 (X : Cx) (Wx : WX) (tg e : Expr) (m : MI) : Prop := PI1 X tg e (tI (pwX X) X.K Wx m)
section
variable {es : List Expr} {mr : MA} {ma : ME} {m : ME}
theorem ie1_str {x : Str} {l : List Nat} {j} (hx : x.cps.toList = l) : IE1 X Wx (.Constant (.str x) j pos) (eC (.str l)) := PE1i pe1_str fun σ H Q ⟨ρ, S, ls, hS, hL, h⟩ => h ρ H _ .refl hS (by rw [← hx]; exact .str x)
theorem ia1_cons (ha : IE1 X Wx e ma) (hr : IA X Wx es mr) (hs : starEach (e :: es) X.env = (false, eval e X.env) :: starEach es X.env := by rfl) : IA1 X Wx (e :: es) (aCons ma mr) :=
  PA1i (pa1_cons ha hr hs) fun σ H Q ⟨ρ, S, ls, hS, hL, h⟩ => ⟨ρ, S, ls, hS, hL, (Post.bind (R := RW) h).imp fun x H1 ⟨ρ1, S1, w1, e1, hS1, r1, h1⟩ =>
    ⟨ρ1, S1, ls, hS1, hL.ext e1, (Post.bind (R := RWs) h1).imp fun xs H2 ⟨ρ2, S2, ws, e2, hS2, r2, h2⟩ => h2 ρ2 H2 _ .refl hS2 (.cons (r1.ext e2) r2)⟩⟩
theorem ie1_tup {x1} (h : IA1 X Wx es mr) : IE1 X Wx (.Tuple es x1 pos) (eTup mr) :=
  PE1i (pe1_tup h) fun σ H Q ⟨ρ, S, ls, hS, hL, h⟩ => ⟨ρ, S, ls, hS, hL, (Post.bind (R := RWs) h).imp fun xs H1 ⟨ρ1, S1, ws, e1, hS1, r1, h1⟩ => by
    split at h1
    · rename_i hz
      exact ⟨by rw [← r1.length]; exact lim_sz hz, mk_tup hS1 r1 h1⟩
    · exact h1.elim⟩
theorem ii1_seq (he : IE1 X Wx e m) : II1 X Wx tg e (iSeq m) := PI1i (pi1_seq he) fun σ H R ⟨ρ, S, ls, hS, hL, h⟩ => ⟨ρ, S, ls, hS, hL, (Post.bind (R := RW) h).imp fun x H1 ⟨ρ1, S1, w1, e1, hS1, r1, h1⟩ => by
    split at h1
    · cases r1 with
      | tup s t => exact ⟨_, rfl, .inr ⟨⟨_, s⟩, h1 ρ1 H1 _ .refl hS1 (rit_tup s t)⟩⟩
    · cases r1 with
      | loc n hn =>
        split at h1
        · rename_i xs e2
          obtain ⟨vs, a, b⟩ := hS1.at_ _ _ e2
          exact ⟨_, rfl, .inl ⟨⟨_, SqL.of a⟩, h1 ρ1 H1 _ .refl hS1 (rit_lst hn)⟩⟩
        · rename_i xs e2
          obtain ⟨vs, a, b⟩ := hS1.at_ _ _ e2
          refine ⟨_, rfl, .inl ⟨⟨_, a.sq⟩, h1 ρ1 H1 _ .refl hS1 (rit_rol (fun ρ' S' H' e hS' => (e.2.2.2.1 _ _ a).sq) b)⟩⟩
        · exact h1.elim
    · exact h1.elim⟩
theorem is_for1 (hp : PassesOwn (model X.prog X.w) X.A X.env X.xe) (hc : X.calm = true) (hi : II1 X Wx tg e mi) (hg : IG X tg g sl) (hb : ISsT X Wx body mb) (hs : ∀ x, foldedSetIterable e X.env x = pure x := by intro _; rfl) :
    IS X Wx (.For tg e body [] pos) (sFor mi g mb) :=
  PSi (ps_for1 hp hc hi hg hb hs) fun D σ H ⟨ρ, S, ls, hS, hL, h⟩ => ⟨ρ, S, ls, hS, hL, (Post.then (R := RItF) hL h).imp fun J H1 ⟨ρ1, S1, t, e1, hS1, r1, h1⟩ => by
    have l1 := hL.ext e1
    clear h hS hL
    refine ⟨fun i m σ H => m = t.items.length - i ∧ i ≤ t.items.length ∧ ∃ ρ S ls, Ext X.K ρ1 S1.length H1 ρ S.length H ∧ RSt (pwX X) X.K ρ H S ∧ RL X.K ρ S.length H ls σ ∧ PostS (pwX X) X.K ρ S.length H Wx (forGo t.chk g mb i (t.items.drop i) ls S) D,
      ⟨_, rfl, Nat.zero_le _, ρ1, S1, ls, .refl, hS1, l1, by rw [List.drop_zero]; exact h1⟩, ?_⟩
    rintro i m σ2 H2 ⟨rfl, hi, ρ2, S2, ls2, e2, hS2, l2, h2⟩
    obtain ⟨w1, w2⟩ := r1 ρ2 S2 H2 e2 hS2
    by_cases hlt : i < t.items.length
    · rw [List.drop_eq_getElem_cons hlt] at h2
      unfold forGo at h2
      split at h2
      · rename_i hc
        obtain ⟨go, yl⟩ := w1 i _ (List.getElem?_eq_getElem hlt) hc
        refine .inr ⟨go, fun σ3 H3 => ∃ ρ S ls, Ext X.K ρ1 S1.length H1 ρ S.length H3 ∧ RSt (pwX X) X.K ρ H3 S ∧ RL X.K ρ S.length H3 ls σ3 ∧ PostS (pwX X) X.K ρ S.length H3 Wx (forGo t.chk g mb (i + 1) (t.items.drop (i + 1)) ls S) D,
          fun σ' H' q => ⟨_, by omega, rfl, hlt, q⟩, fun v H3 y => ?_⟩
        obtain ⟨ρ3, e3, hS3, r3⟩ := yl v H3 y
        split at h2
        · exact h2.elim
        · rename_i ls3 eg
          refine ⟨ρ3, S2, ls2, _, ls3, hS3, l2.ext e3, r3, eg, fun σ4 _ l4 => ⟨ρ3, S2, ls3, hS3, l4, ?_⟩⟩
          have h3 := PostS.ext e3 h2
          cases hm : mb ls3 S2 with
          | nx a S' => rw [hm] at h3; exact fun ρ4 H4 σ5 e4 s4 l5 => ⟨ρ4, S', a, (e2.trans e3).trans e4, s4, l5, PostS.ext e4 h3⟩
          | ct a S' => rw [hm] at h3; exact fun ρ4 H4 σ5 e4 s4 l5 => ⟨ρ4, S', a, (e2.trans e3).trans e4, s4, l5, PostS.ext e4 h3⟩
          | bk a S' => rw [hm] at h3; exact h3
          | rt a S' => rw [hm] at h3; exact h3
          | exc a b S' => rw [hm] at h3; exact h3
          | bad => rw [hm] at h3; exact h3
      · exact h2.elim
    · have ei : i = t.items.length := by omega
      subst ei
      rw [List.drop_length] at h2
      unfold forGo at h2
      split at h2
      · rename_i hc
        exact .inl ⟨w2 hc, h2 ρ2 H2 σ2 .refl hS2 l2⟩
      · exact h2.elim⟩
end
def eRepl (y z : Nm) (m : ME) : ME := fun ls S => (m ls S).bind fun w S1 => match w with
  | .str s => if (decide (s.length ≤ 1000) && decide (z.length ≤ 1000)) = true then .ok (.str (Txt.replace (toS s) (toS y) (toS z)).cps.toList) S1 else .bad
  | _ => .bad
theorem toS_len (z : Nm) : (toS z).length = z.length := by show z.toArray.size = _; rw [List.size_toArray]
theorem ieT_repl {y z : Str} {yn zn : Nm} {o : Expr} {mo : ME} {j k : Nat} {c0 c1 apos cpos : Pos} (ho : IE X Wx o mo) (hy : y = toS yn) (hz : z = toS zn) (hyz : (y == z) = false := by decide)
    (hst : starEach [.Constant (.str y) j c0, .Constant (.str z) k c1] X.env = [(false, eval (.Constant (.str y) j c0) X.env), (false, eval (.Constant (.str z) k c1) X.env)] := by rfl)
    (hbase : attributeBase o "replace" X.env (eval o X.env) = eval o X.env := by rfl) (hline : (apos.endLine == cpos.line) = true := by rfl) :
    IET X Wx (.Call (.Attribute o "replace" apos) [.Constant (.str y) j c0, .Constant (.str z) k c1] [] cpos) (eRepl yn zn mo) :=
  PETi (CwR.pet_replC ho hyz hst hbase hline) fun σ H Q ⟨ρ, S, ls, hS, hL, h⟩ => ⟨ρ, S, ls, hS, hL, (Post.bind (R := RW) h).imp fun x H1 ⟨ρ1, S1, w1, e1, hS1, r1, h1⟩ => by
    split at h1
    · split at h1
      · rename_i s q
        rw [Bool.and_eq_true] at q
        have q1 := of_decide_eq_true q.1
        have q2 := of_decide_eq_true q.2
        cases r1 with
        | str a =>
          refine ⟨a, rfl, ?_, ?_⟩
          · have ha : a.length ≤ 1000 := by
              have : a.cps.toList.length = a.length := by rw [Array.length_toList]; rfl
              omega
            have hzl : z.length ≤ 1000 := by rw [hz, toS_len]; exact q2
            have : (a.length + 1) * z.length ≤ 1001 * 1000 := Nat.mul_le_mul (by omega) hzl
            omega
          · rw [toS_cps, ← hy, ← hz] at h1
            exact h1.here hS1 (.str _)
      · exact h1.elim
    · exact h1.elim⟩
def mUpper : PV → MF := fun w ws S => match w, ws with
  | .str a, [] => if a.length ≤ 90000 then .ok (.str (Txt.upper (toS a)).cps.toList) S else .bad
  | _, _ => .bad
theorem mi_upper : MtI X (fun x xs H Q => ∃ a, x = .str a ∧ xs = [] ∧ a.length ≤ 5592405 ∧ Q (.str (Txt.upper a)) H) mUpper := by
  intro ρ S H w ws v vs Ex Q hS r rs h
  unfold mUpper at h
  split at h
  · split at h
    · rename_i q
      cases r with
      | str a => cases rs with
        | nil =>
          rw [toS_cps] at h
          refine ⟨a, rfl, rfl, ?_, h.here hS (.str _)⟩
          have : a.cps.toList.length = a.length := by rw [Array.length_toList]; rfl
          omega
    · exact h.elim
  · exact h.elim
def strsP : List PV → Option (List Nm)
  | [] => some []
  | .str s :: r => (strsP r).map (s :: ·)
  | _ :: _ => none
theorem strsP_rel {K : PySem.W.Frag} {ρ : Nat → Addr} {N : Nat} {H : Hp} : ∀ {xs : List PV} {ys : List Nm} {vs : List V}, strsP xs = some ys → RWs K ρ N H xs vs → vs = (ys.map toS).map V.str
  | [], ys, vs, h, r => by cases h; cases r; rfl
  | .str s :: xs, ys, vs, h, r => by
    unfold strsP at h
    obtain ⟨zs, hz, rfl⟩ := Option.map_eq_some_iff.mp h
    cases r with
    | cons r1 r2 => cases r1 with
      | str a => rw [strsP_rel hz r2, List.map_cons, List.map_cons, toS_cps]
  | .non :: _, _, _, h, _ => by cases h
  | .bl _ :: _, _, _, h, _ => by cases h
  | .int _ :: _, _, _, h, _ => by cases h
  | .tup _ :: _, _, _, h, _ => by cases h
  | .loc _ :: _, _, _, h, _ => by cases h
  | .gl _ :: _, _, _, h, _ => by cases h
  | .ty _ :: _, _, _, h, _ => by cases h
  | .xn _ _ _ _ _ :: _, _, _, h, _ => by cases h
def mJoin : PV → MF := fun w ws S => match w, ws with
  | .str a, [.loc n] => (match seqAt S n with
    | some xs => (match strsP xs with
      | some ys => if (decide (a.length ≤ 1000) && decide (ys.length ≤ 1000) && ys.all (fun y => decide (y.length ≤ 1000))) = true then .ok (.str (Txt.join (toS a) (ys.map toS)).cps.toList) S else .bad
      | none => .bad)
    | none => .bad)
  | _, _ => .bad
theorem sum_le {c : Nat} : ∀ (l : List Nat), (∀ x ∈ l, x ≤ c) → l.sum ≤ l.length * c
  | [], _ => by simp
  | x :: r, h => by
    have h1 := sum_le r fun y hy => h y (List.mem_cons_of_mem _ hy)
    have h2 := h x List.mem_cons_self
    rw [List.sum_cons, List.length_cons, Nat.add_mul]
    omega
theorem mi_join : MtI X (fun x xs H Q => ∃ a p, ∃ ys : List Str, x = .str a ∧ xs = [.ref p] ∧ (SqL X.K H p (ys.map V.str) ∨ SqT X.K H p (ys.map V.str)) ∧
    (ys.map (·.length)).sum + ys.length * a.length ≤ 16777216 ∧ Q (.str (Txt.join a ys)) H) mJoin := by
  intro ρ S H w ws v vs Ex Q hS r rs h
  unfold mJoin at h
  split at h
  · split at h
    · rename_i xs ex
      split at h
      · rename_i ys ey
        split at h
        · rename_i q
          rw [Bool.and_eq_true, Bool.and_eq_true] at q
          have q1 := of_decide_eq_true q.1.1
          have q2 := of_decide_eq_true q.1.2
          have q3 := List.all_eq_true.mp q.2
          obtain ⟨us, sl, t⟩ := seq_of hS ex
          have := strsP_rel ey t
          subst this
          cases r with
          | str a => cases rs with
            | cons ry t' => cases t'; cases ry with
              | loc n hn =>
                rw [toS_cps] at h
                refine ⟨a, _, ys.map toS, rfl, rfl, .inl sl, ?_, h.here hS (.str _)⟩
                have ha : a.length ≤ 1000 := by
                  have : a.cps.toList.length = a.length := by rw [Array.length_toList]; rfl
                  omega
                have hs : (((ys.map toS).map (·.length)).sum) ≤ ((ys.map toS).map (·.length)).length * 1000 := sum_le _ fun x hx => by
                  obtain ⟨z, hz, rfl⟩ := List.mem_map.mp hx
                  obtain ⟨y, hy, rfl⟩ := List.mem_map.mp hz
                  rw [toS_len]
                  exact of_decide_eq_true (q3 y hy)
                rw [List.length_map, List.length_map] at hs
                have hm : (ys.map toS).length * a.length ≤ 1000 * 1000 := Nat.mul_le_mul (by rw [List.length_map]; exact q2) ha
                have : ys.length * 1000 ≤ 1000 * 1000 := Nat.mul_le_mul q2 (Nat.le_refl _)
                omega
        · exact h.elim
      · exact h.elim
    · exact h.elim
  · exact h.elim
def fstIx (z : Nm) : List Nm → Option Nat
  | [] => none
  | y :: r => if y = z then some 0 else (fstIx z r).map (· + 1)
theorem fstIx_ok {z : Nm} : ∀ {ys : List Nm} {j : Nat}, fstIx z ys = some j → ys[j]? = some z ∧ ∀ m, m < j → ys[m]? ≠ some z
  | [], j, h => by cases h
  | y :: r, j, h => by
    unfold fstIx at h
    by_cases e : y = z
    · rw [if_pos e] at h
      cases h
      exact ⟨by rw [e]; rfl, fun m hm => absurd hm (Nat.not_lt_zero _)⟩
    · rw [if_neg e] at h
      obtain ⟨k, hk, rfl⟩ := Option.map_eq_some_iff.mp h
      obtain ⟨h1, h2⟩ := fstIx_ok hk
      refine ⟨h1, fun m hm => ?_⟩
      cases m with
      | zero => intro q; exact e (Option.some.inj q)
      | succ m => exact h2 m (by omega)
structure GTup (K : PySem.W.Frag) (mg : Str → Option Value) (c : Nm) (w : PV) : Prop where
  mg : mg (toS c) = some (.ref (He.ga K (toS c)))
  gv : GVal K (.ref (He.ga K (toS c))) w
  pl : ∃ o, K.lookup (He.ga K (toS c)) = some o ∧ o.cls = .type "tuple" ∧ o.dict = none
def plTB (K : PySem.W.Frag) (a : Addr) : Bool := match K.lookup a with
  | some o => (match o.cls with
    | .type t => decide (t = "tuple")
    | _ => false) && o.dict.isNone
  | none => false
theorem plTB_ok {K : PySem.W.Frag} {a : Addr} (h : plTB K a = true) : ∃ o, K.lookup a = some o ∧ o.cls = .type "tuple" ∧ o.dict = none := by
  unfold plTB at h
  split at h
  · rename_i o e
    rw [Bool.and_eq_true] at h
    refine ⟨o, e, ?_, by cases q : o.dict with | none => rfl | some d => rw [q] at h; cases h.2⟩
    have h1 := h.1
    split at h1
    · rename_i t et
      rw [et, of_decide_eq_true h1]
    · cases h1
  · cases h
def tupGB (c : Str) (w : PV) (K : PySem.W.Frag) : Bool := (He.Fa.glo c).ok K && (conV K c w && plTB K (He.ga K c))
theorem tupGB_ok {K : PySem.W.Frag} {h : Heap} {mg : Str → Option Value} {x : Str} {n : Nm} {w : PV} (X : K.In h) (G : h.Ns mainGlobals mg) (en : toS n = x) (c : tupGB x w K = true) : GTup K mg n w := by
  unfold tupGB at c
  rw [Bool.and_eq_true, Bool.and_eq_true] at c
  subst en
  have m := He.glo_ok X G c.1
  obtain ⟨u, v, h1, h2, h3⟩ := (conV_ok X G c.2.1).ex
  rw [m] at h1
  cases h1
  have e : v = .ref (He.ga K (toS n)) := RelV.inj h2 (show RelV (.ref (He.ga K (toS n))) (.ref (He.ga K (toS n))) from rfl)
  subst e
  exact ⟨m, h3, plTB_ok c.2.2⟩
theorem ie_gtup {c : Nm} {w : PV} {x : Str} (T : GTup X.K X.mg c w) (ex : toS c = x) (hg : Gl X x := by rfl) (hd : (x == ("__debug__" : Str)) = false := by decide) : IE X Wx (.Name x pos) (eC (.gl c)) := by
  subst ex
  exact ie_glob hg T.mg (show RelV (.ref (He.ga X.K (toS c))) (.ref (He.ga X.K (toS c))) from rfl) (fun _ _ _ => .gl c) hd
theorem lk_mem {tb : List (Nm × PV)} {c : Nm} {w : PV} (h : tb.lookup c = some w) : (c, w) ∈ tb := by
  induction tb with
  | nil => cases h
  | cons p r ih =>
    obtain ⟨a, b⟩ := p
    rw [List.lookup_cons] at h
    split at h
    · rename_i e
      cases h
      rw [beq_iff_eq.mp e]
      exact List.mem_cons_self
    · exact List.mem_cons_of_mem _ (ih h)
def eTupG (tb : List (Nm × PV)) (m : ME) : ME := fun ls S => (m ls S).bind fun w S1 => match w with
  | .gl c => (match tb.lookup c with
    | some x => .ok x S1
    | none => .bad)
  | _ => .bad
theorem ie_tupG {tb : List (Nm × PV)} {m : ME} (ht : ∀ p ∈ tb, GTup X.K X.mg p.1 p.2) (he : IE X Wx e m) : IE X Wx e (eTupG tb m) :=
  PEi he fun σ H Q ⟨ρ, S, ls, hS, hL, h⟩ => ⟨ρ, S, ls, hS, hL, (Post.bind (R := RW) h).imp fun x H1 ⟨ρ1, S1, w1, e1, hS1, r1, h1⟩ => by
    split at h1
    · split at h1
      · rename_i c w hl
        cases r1 with
        | gl => exact h1.here hS1 ((ht _ (lk_mem hl)).gv _ _ _)
      · exact h1.elim
    · exact h1.elim⟩
def kGl (tb : List (Nm × PV)) : PV → Sto → Bool := fun w _ => match w with
  | .gl c => (tb.lookup c).isSome
  | _ => false
theorem chk_gl {tb : List (Nm × PV)} (ht : ∀ p ∈ tb, GTup X.K X.mg p.1 p.2) : ChkT X "tuple" (kGl tb) := by
  intro ρ S H w v hS r h
  unfold kGl at h
  split at h
  · rename_i c
    cases e : tb.lookup c with
    | none => rw [e] at h; cases h
    | some w =>
      cases r with
      | gl => exact .inr (.inl ⟨rfl, (ht _ (lk_mem e)).pl⟩)
  · cases h
def mGIdx (tb : List (Nm × PV)) : PV → MF := fun w ws S => match w, ws with
  | .gl c, [.str z] => (match tb.lookup c with
    | some (.tup xs) => (match strsP xs with
      | some ys => (match fstIx z ys with
        | some j => .ok (.int (j : Nat)) S
        | none => .bad)
      | none => .bad)
    | _ => .bad)
  | _, _ => .bad
theorem mi_gidx {tb : List (Nm × PV)} (ht : ∀ p ∈ tb, GTup X.K X.mg p.1 p.2) : MtI X (fun x xs H Q => ∃ p, ∃ ys : List Str, ∃ z j, x = .ref p ∧ xs = [.str z] ∧ SqT X.K H p (ys.map V.str) ∧ ys[j]? = some z ∧ (∀ m, m < j → ys[m]? ≠ some z) ∧ Q (.int (j : Nat)) H) (mGIdx tb) := by
  intro ρ S H w ws v vs Ex Q hS r rs h
  unfold mGIdx at h
  split at h
  · split at h
    · rename_i xs hl
      split at h
      · rename_i ys ey
        split at h
        · rename_i j ej
          cases r with
          | gl =>
            have rw := (ht _ (lk_mem hl)).gv ρ S.length H
            cases rw with
            | tup s t =>
              have := strsP_rel ey t
              subst this
              cases rs with
              | cons ry t' => cases t'; cases ry with
                | str b =>
                  obtain ⟨h1, h2⟩ := fstIx_ok ej
                  refine ⟨_, ys.map toS, b, j, rfl, rfl, s, ?_, fun m hm q => ?_, h.here hS (.int _)⟩
                  · rw [List.getElem?_map, h1]
                    show some (toS b.cps.toList) = _
                    rw [toS_cps]
                  · rw [List.getElem?_map] at q
                    obtain ⟨y, hy, e⟩ := Option.map_eq_some_iff.mp q
                    rw [← toS_cps b] at e
                    exact h2 m hm (by rw [hy, toS_inj e])
        · exact h.elim
      · exact h.elim
    · exact h.elim
  · exact h.elim
end
end GL
set_option Elab.async false
set_option linter.all false
set_option maxRecDepth 100000
set_option maxHeartbeats 1000000
namespace GL
open PySem PySem.Spec PyProof.Rows L2
variable {pw : PgW}
def iRevT (m : ME) : MI := fun ls S => (m ls S).bind fun w S1 => match w with
  | .tup xs => .ok ⟨xs.reverse, always⟩ S1
  | _ => .bad
theorem rit_revT {K : PySem.W.Frag} {ρ : Nat → Addr} {N : Nat} {H : Hp} {xs : List PV} {vs : List V} {p : Addr} (s : SqT K H p vs) (t : RWs K ρ N H xs vs) : RIt pw K ρ N H ⟨xs.reverse, always⟩ (RT.ItvT K p xs.length) := by
  intro ρ' S' H' e hS
  have s' := e.2.2.1 _ _ s
  have t' := t.ext e
  have hl := t.length
  refine ⟨fun i x hx hc => ?_, fun hc => ?_⟩
  · have hi : i < xs.length := by have := (List.getElem?_eq_some_iff.mp hx).1; simpa using this
    rw [List.getElem?_reverse hi] at hx
    obtain ⟨v, hv2, r⟩ := t'.get hx
    refine ⟨⟨hi, vs, v, s', hv2⟩, fun v' H2 y => ?_⟩
    obtain ⟨e1, q2⟩ := y
    subst e1
    have := q2 vs s'
    rw [hv2] at this; cases this
    exact ⟨ρ', .refl, hS, r⟩
  · show xs.length ≤ xs.reverse.length
    rw [List.length_reverse]; exact Nat.le_refl _
section
variable {X : Cx} {Wx : L2.WX} {tg e : Expr} {m : ME} {p pos : Pos}
theorem ii_revT (hm : X.mg "reversed" = none) (he : IE X Wx e m) (hg : Gl X "reversed" := by rfl) (hst : starEach [e] X.env = (false, eval e X.env) :: starEach [] X.env := by rfl) :
    II X Wx tg (.Call (.Name "reversed" p) [e] [] pos) (iRevT m) :=
  PIi (RT.pi_revA hg hm he hst) fun σ H R ⟨ρ, S, ls, hS, hL, h⟩ => ⟨ρ, S, ls, hS, hL, (Post.bind (R := RW) h).imp fun x H1 ⟨ρ1, S1, w1, e1, hS1, r1, h1⟩ => by
    split at h1
    · cases r1 with
      | tup s t =>
        refine ⟨_, _, rfl, .inr ⟨s, ?_⟩⟩
        rw [← t.length]
        exact h1 ρ1 H1 _ .refl hS1 (rit_revT s t)
    · exact h1.elim⟩
end
end GL
set_option Elab.async false
set_option linter.all false
set_option maxRecDepth 100000
set_option maxHeartbeats 400000
namespace GL
open PySem PySem.Spec PyProof.Rows L2
def noE : XK := fun _ _ _ => False
theorem pass_no {X : Cx} : Passes (L2.CX X.prog X.w) X noE := fun _ _ _ _ _ _ _ c => by
  obtain ⟨_, _, _, _, _, _, _, _, _, _, _, _, h⟩ := c
  exact h.elim
def rOwn (C : Addr) (sp : Sp) : R2 := fun x y H Q => ∃ a dx fs b dy gs, x = .ref a ∧ y = .ref b ∧ H a = some (.ins C dx fs) ∧ H b = some (.ins C dy gs) ∧ sp [.ref a, .ref b] H (fun v H' => (∃ c, v = .ref c) ∧ Q v H') noE
section
variable {X : Cx} {Wx : L2.WX} {k np N : Nat} {C f : Addr} {fd : FuncData} {ps : List Str} {ds : List Value} {sp : Sp} {op : Operator} {mb : MS} {cn : Nm}
theorem op_own (F : FnOk X.prog X.w X.K X.mg X.base (L2.CX X.prog X.w) k f fd ps sp) (hr : Room k X.A) (hb : Binds X.K fd ps ds) (hd : Vals [] ds) (hc : PySem.W.selfFirst X.K C = true)
    (hs : PySem.W.findIn X.K (.ref C) (PySem.dunder op.info.2) = some (some (.ref f))) (hf : PySem.W.isFn X.K (.ref f) = true) : OpR X (binaryOp op) (rOwn C sp) := by
  intro pins s σ H x y v u Q I rx ry h
  obtain ⟨a, dx, fs, b, dy, gs, rfl, rfl, ha, hb', h⟩ := h
  cases rx
  cases ry
  obtain ⟨mA, J, _⟩ := ins_get I.hok ha
  obtain ⟨mB, J', _⟩ := ins_get I.hok hb'
  obtain ⟨od, J, _⟩ := J.look
  obtain ⟨od', J', _⟩ := J'.look
  obtain ⟨m, hF⟩ := I.fr
  apply PySem.W.binop_K hF I.ok.mod.kin J J'.type hc hs hf
  refine wpAny_mono (run_fn (dvs := []) (us := [.ref a, .ref b]) (vs := [.ref a, .ref b]) F hr hb hd pass_no I (.cons (show RelV (.ref a) (.ref a) from rfl) (.cons (show RelV (.ref b) (.ref b) from rfl) .nil)) h) (fun r s' q => ?_) fun _ _ e => e
  obtain ⟨v, H', I', rv, ⟨c, rfl⟩, q⟩ := q
  cases rv
  exact ⟨.ref c, H', I', rfl, q⟩
def isIn (S : Sto) (w : PV) (C : Nm) : Bool := match insAt S w with
  | some (_, D, _) => decide (D = C)
  | none => false
def gOwnB (C : Nm) (fn : MF) : PV → PV → Sto → Out PV := fun a b S => if (isIn S a C && isIn S b C) = true then (match fn [a, b] S with
  | .ok (.loc n) S' => .ok (.loc n) S'
  | _ => .bad) else .bad
theorem isIn_of {ρ : Nat → Addr} {H : Hp} {S : Sto} {w : PV} {v : V} (hS : RSt (pwX X) X.K ρ H S) (r : RW X.K ρ S.length H w v) (h : isIn S w cn = true) : ∃ a dx fs, v = .ref a ∧ H a = some (.ins (He.ga X.K (toS cn)) dx fs) := by
  unfold isIn at h
  split at h
  · rename_i n D fs ei
    obtain ⟨rfl, dx, fs', hH, rf⟩ := ins_of hS r ei
    rw [of_decide_eq_true h] at hH
    exact ⟨_, dx, fs', rfl, hH⟩
  · cases h
theorem oi_ownB (hC : C = He.ga X.K (toS cn)) : OpI X Wx (rOwn C (spI (pwX X) X.K np (fnOf np N mb))) (gOwnB cn (fnOf np N mb)) := by
  intro ρ S H w1 w2 x y Ex Q hS r1 r2 h
  unfold gOwnB at h
  split at h
  · rename_i hz
    obtain ⟨z1, z2⟩ := Bool.and_eq_true_iff.mp hz
    obtain ⟨a, dx, fs, rfl, ha⟩ := isIn_of hS r1 z1
    obtain ⟨b, dy, gs, rfl, hb⟩ := isIn_of hS r2 z2
    rw [← hC] at ha hb
    refine ⟨a, dx, fs, b, dy, gs, rfl, rfl, ha, hb, sp_inA (σ := []) hS (.cons r1 (.cons r2 .nil)) ?_⟩
    split at h
    · rename_i n S' e
      rw [e]
      intro ρ' H' v e1 hS' rv
      refine ⟨?_, h ρ' H' v e1 hS' rv⟩
      cases rv
      exact ⟨_, rfl⟩
    · exact h.elim
  · exact h.elim
end
end GL
set_option Elab.async false
set_option linter.all false
set_option maxRecDepth 100000
set_option maxHeartbeats 400000
namespace K29
open GL
open PySem (Str)
abbrev n_invalidate_store_invalidate_de : List Nat := [105, 110, 118, 97, 108, 105, 100, 97, 116, 101, 95, 115, 116, 111, 114, 101, 32, 105, 110, 118, 97, 108, 105, 100, 97, 116, 101, 95, 100, 101, 118, 105, 99, 101, 32, 116, 114, 97, 99, 107, 95, 102, 114, 97, 109, 101, 115, 32, 116, 114, 97, 99, 107, 95, 112, 114, 101, 112, 97, 114, 101, 100, 32, 116, 114, 97, 99, 107, 95, 115, 101, 99, 111, 110, 100, 32, 105, 110, 118, 97, 108, 105, 100, 97, 116, 101, 95, 109, 97, 112]
abbrev n__invalidate_rights_key_level_l : List Nat := [32, 105, 110, 118, 97, 108, 105, 100, 97, 116, 101, 95, 114, 105, 103, 104, 116, 115, 32, 107, 101, 121, 95, 108, 101, 118, 101, 108, 32, 108, 101, 97, 118, 101, 95, 115, 101, 108, 102, 32, 108, 101, 97, 118, 101, 95, 111, 116, 104, 101, 114, 32, 99, 117, 116, 95, 108, 105, 110, 107, 115, 32, 99, 108, 101, 97, 114, 95, 108, 105, 110, 107, 115, 32, 104, 111, 108, 100, 95, 115, 108, 111, 116, 32, 99, 104, 101, 99, 107, 95, 101, 110, 116, 114, 121]
abbrev n__stop_page_stop_store_no_links : List Nat := [32, 115, 116, 111, 112, 95, 112, 97, 103, 101, 32, 115, 116, 111, 112, 95, 115, 116, 111, 114, 101, 32, 110, 111, 95, 108, 105, 110, 107, 115, 32, 115, 105, 110, 103, 108, 101, 32, 101, 97, 103, 101, 114, 32, 102, 108, 117, 115, 104, 95, 101, 120, 105, 116, 32, 102, 108, 117, 115, 104, 95, 115, 111, 117, 114, 99, 101, 32, 107, 101, 101, 112, 95, 100, 114, 111, 112, 112, 101, 100, 32, 109, 97, 112, 95, 105, 110, 115, 112, 101, 99, 116]
abbrev n__map_fault_flush_fault_map_lea : List Nat := [32, 109, 97, 112, 95, 102, 97, 117, 108, 116, 32, 102, 108, 117, 115, 104, 95, 102, 97, 117, 108, 116, 32, 109, 97, 112, 95, 108, 101, 97, 118, 101, 32, 112, 114, 111, 109, 112, 116, 95, 115, 116, 111, 114, 101, 32, 112, 111, 108, 108, 95, 101, 110, 116, 114, 121, 32, 112, 111, 108, 108, 95, 98, 97, 99, 107, 119, 97, 114, 100]
abbrev n__ : List Nat := [32]
abbrev n_PolicyError : List Nat := [80, 111, 108, 105, 99, 121, 69, 114, 114, 111, 114]
abbrev n_name : List Nat := [110, 97, 109, 101]
abbrev n_names : List Nat := [110, 97, 109, 101, 115]
abbrev n_Policy : List Nat := [80, 111, 108, 105, 99, 121]
abbrev n_has : List Nat := [104, 97, 115]
abbrev n_number : List Nat := [110, 117, 109, 98, 101, 114]
abbrev n_SettingError : List Nat := [83, 101, 116, 116, 105, 110, 103, 69, 114, 114, 111, 114]
abbrev n_Code_rule_ : List Nat := [67, 111, 100, 101, 32, 114, 117, 108, 101, 32]
abbrev n_Value_rule_ : List Nat := [86, 97, 108, 117, 101, 32, 114, 117, 108, 101, 32]
abbrev n_Interrupt_rule_ : List Nat := [73, 110, 116, 101, 114, 114, 117, 112, 116, 32, 114, 117, 108, 101, 32]
abbrev n___1 : List Nat := [95]
abbrev n__of_ : List Nat := [32, 111, 102, 32]
abbrev n___ : List Nat := [58, 32]
abbrev n___2 : List Nat := [46]
abbrev n_Code : List Nat := [67, 111, 100, 101]
abbrev n_CODE_RULES : List Nat := [67, 79, 68, 69, 95, 82, 85, 76, 69, 83]
abbrev n_POLL_RULES : List Nat := [80, 79, 76, 76, 95, 82, 85, 76, 69, 83]
abbrev n_Interrupt : List Nat := [73, 110, 116, 101, 114, 114, 117, 112, 116]
abbrev n_VALUE_RULES : List Nat := [86, 65, 76, 85, 69, 95, 82, 85, 76, 69, 83]
abbrev n_Value : List Nat := [86, 97, 108, 117, 101]
abbrev n__rule_ : List Nat := [32, 114, 117, 108, 101, 32]
abbrev n_no_ : List Nat := [110, 111, 32]
abbrev n_s : List Nat := [115]
abbrev n_empty : List Nat := []
abbrev n_rule : List Nat := [114, 117, 108, 101]
abbrev n_track_frames : List Nat := [116, 114, 97, 99, 107, 32, 102, 114, 97, 109, 101, 115]
def tabL : List (Nm × Nm) := [(n_Policy, n_names)]
def tab (C f : Nm) : Bool := tabL.any fun p => decide (p.1 = C) && decide (p.2 = f)
abbrev w_CODE_RULES : PV := (.tup [(.str [105, 110, 118, 97, 108, 105, 100, 97, 116, 101, 95, 115, 116, 111, 114, 101]), (.str [105, 110, 118, 97, 108, 105, 100, 97, 116, 101, 95, 100, 101, 118, 105, 99, 101]), (.str [116, 114, 97, 99, 107, 95, 102, 114, 97, 109, 101, 115]), (.str [116, 114, 97, 99, 107, 95, 112, 114, 101, 112, 97, 114, 101, 100]), (.str [116, 114, 97, 99, 107, 95, 115, 101, 99, 111, 110, 100]), (.str [105, 110, 118, 97, 108, 105, 100, 97, 116, 101, 95, 109, 97, 112]), (.str [105, 110, 118, 97, 108, 105, 100, 97, 116, 101, 95, 114, 105, 103, 104, 116, 115]), (.str [107, 101, 121, 95, 108, 101, 118, 101, 108]), (.str [108, 101, 97, 118, 101, 95, 115, 101, 108, 102]), (.str [108, 101, 97, 118, 101, 95, 111, 116, 104, 101, 114]), (.str [99, 117, 116, 95, 108, 105, 110, 107, 115]), (.str [99, 108, 101, 97, 114, 95, 108, 105, 110, 107, 115]), (.str [104, 111, 108, 100, 95, 115, 108, 111, 116]), (.str [99, 104, 101, 99, 107, 95, 101, 110, 116, 114, 121]), (.str [115, 116, 111, 112, 95, 112, 97, 103, 101]), (.str [115, 116, 111, 112, 95, 115, 116, 111, 114, 101]), (.str [110, 111, 95, 108, 105, 110, 107, 115]), (.str [115, 105, 110, 103, 108, 101])])
abbrev w_MOST_NUMBER : PV := (.int 536870911)
abbrev w_POLL_RULES : PV := (.tup [(.str [112, 111, 108, 108, 95, 101, 110, 116, 114, 121]), (.str [112, 111, 108, 108, 95, 98, 97, 99, 107, 119, 97, 114, 100])])
abbrev w_RULES : PV := (.tup [(.str [105, 110, 118, 97, 108, 105, 100, 97, 116, 101, 95, 115, 116, 111, 114, 101]), (.str [105, 110, 118, 97, 108, 105, 100, 97, 116, 101, 95, 100, 101, 118, 105, 99, 101]), (.str [116, 114, 97, 99, 107, 95, 102, 114, 97, 109, 101, 115]), (.str [116, 114, 97, 99, 107, 95, 112, 114, 101, 112, 97, 114, 101, 100]), (.str [116, 114, 97, 99, 107, 95, 115, 101, 99, 111, 110, 100]), (.str [105, 110, 118, 97, 108, 105, 100, 97, 116, 101, 95, 109, 97, 112]), (.str [105, 110, 118, 97, 108, 105, 100, 97, 116, 101, 95, 114, 105, 103, 104, 116, 115]), (.str [107, 101, 121, 95, 108, 101, 118, 101, 108]), (.str [108, 101, 97, 118, 101, 95, 115, 101, 108, 102]), (.str [108, 101, 97, 118, 101, 95, 111, 116, 104, 101, 114]), (.str [99, 117, 116, 95, 108, 105, 110, 107, 115]), (.str [99, 108, 101, 97, 114, 95, 108, 105, 110, 107, 115]), (.str [104, 111, 108, 100, 95, 115, 108, 111, 116]), (.str [99, 104, 101, 99, 107, 95, 101, 110, 116, 114, 121]), (.str [115, 116, 111, 112, 95, 112, 97, 103, 101]), (.str [115, 116, 111, 112, 95, 115, 116, 111, 114, 101]), (.str [110, 111, 95, 108, 105, 110, 107, 115]), (.str [115, 105, 110, 103, 108, 101]), (.str [101, 97, 103, 101, 114]), (.str [102, 108, 117, 115, 104, 95, 101, 120, 105, 116]), (.str [102, 108, 117, 115, 104, 95, 115, 111, 117, 114, 99, 101]), (.str [107, 101, 101, 112, 95, 100, 114, 111, 112, 112, 101, 100]), (.str [109, 97, 112, 95, 105, 110, 115, 112, 101, 99, 116]), (.str [109, 97, 112, 95, 102, 97, 117, 108, 116]), (.str [102, 108, 117, 115, 104, 95, 102, 97, 117, 108, 116]), (.str [109, 97, 112, 95, 108, 101, 97, 118, 101]), (.str [112, 114, 111, 109, 112, 116, 95, 115, 116, 111, 114, 101]), (.str [112, 111, 108, 108, 95, 101, 110, 116, 114, 121]), (.str [112, 111, 108, 108, 95, 98, 97, 99, 107, 119, 97, 114, 100])])
abbrev w_VALUE_RULES : PV := (.tup [(.str [101, 97, 103, 101, 114]), (.str [102, 108, 117, 115, 104, 95, 101, 120, 105, 116]), (.str [102, 108, 117, 115, 104, 95, 115, 111, 117, 114, 99, 101]), (.str [107, 101, 101, 112, 95, 100, 114, 111, 112, 112, 101, 100]), (.str [109, 97, 112, 95, 105, 110, 115, 112, 101, 99, 116]), (.str [109, 97, 112, 95, 102, 97, 117, 108, 116]), (.str [102, 108, 117, 115, 104, 95, 102, 97, 117, 108, 116]), (.str [109, 97, 112, 95, 108, 101, 97, 118, 101]), (.str [112, 114, 111, 109, 112, 116, 95, 115, 116, 111, 114, 101])])
abbrev tbE_SettingError : List (Nm × Bool) := [(n_PolicyError, false), (n_SettingError, true)]
abbrev tbE_PolicyError : List (Nm × Bool) := [(n_PolicyError, true), (n_SettingError, false)]
abbrev tbI_0 : List (Nm × Bool) := [(n_PolicyError, true), (n_SettingError, false)]
abbrev tbI_1 : List (Nm × Bool) := [(n_PolicyError, true), (n_SettingError, true)]
abbrev tbI_2 : List (Nm × Bool) := [(n_PolicyError, true), (n_SettingError, true)]
abbrev tbI_3 : List (Nm × Bool) := [(n_PolicyError, false), (n_SettingError, true)]
abbrev xcs : List Nm := [n_PolicyError, n_SettingError]
abbrev gtb_describe : List (Nm × PV) := [(n_CODE_RULES, w_CODE_RULES), (n_VALUE_RULES, w_VALUE_RULES), (n_POLL_RULES, w_POLL_RULES)]
noncomputable def m_law_row : MS := (sSeq (sSet 2 (eLst aNil))
  (sSeq (sFor (iSeq (eVar 0)) (gN 3)
  (sSeq (sSet 4 (eB fAbs (aCons (eB fInt (aCons (eVar 3) aNil)) aNil)))
  (sFor (iR1 (eC (.int 60))) (gN 5)
  (sSeq (sIf (toT (eOp gLt (eB fLen (aCons (eVar 2) aNil)) (eVar 1)))
  (sExpr (eMt kList mAppend (eVar 2) (aCons (eOp gMod (eVar 4) (eC (.int 16))) aNil)))
  sNil)
  (sSeq (sSet 4 (eOp gDiv (eVar 4) (eC (.int 16))))
  (sIf (toT (eOp gEq (eVar 4) (eC (.int 0))))
  sBk
  sNil))))))
  (sRet (eVar 2))))
noncomputable abbrev f_law_row : MF := fnOf 2 6 m_law_row
noncomputable def m_law_rules : MS := (sSeq (sSet 0 (eC (.str n_invalidate_store_invalidate_de)))
  (sSeq (sSet 0 (eOp gAdd (eVar 0) (eC (.str n__invalidate_rights_key_level_l))))
  (sSeq (sSet 0 (eOp gAdd (eVar 0) (eC (.str n__stop_page_stop_store_no_links))))
  (sSeq (sSet 0 (eOp gAdd (eVar 0) (eC (.str n__map_fault_flush_fault_map_lea))))
  (sRet (eMt kStr mSplit (eVar 0) (aCons (eC (.str n__)) aNil)))))))
noncomputable abbrev f_law_rules : MF := fnOf 0 1 m_law_rules
noncomputable def m_law_digit : MS := (sSeq (sIf (toT (eOp gLt (eVar 1) (eB fLen (aCons (eVar 0) aNil))))
  (sRet (eOp gIx (eVar 0) (eVar 1)))
  sNil)
  (sRet (eC (.int 0))))
noncomputable abbrev f_law_digit : MF := fnOf 2 2 m_law_digit
noncomputable def m_Policy_init : MS := (sSeq (sSet 2 (eLst aNil))
  (sSeq (sFor (iSeq (eVar 1)) (gN 3)
  (sSeq (sIf (tOrM (toT (eOp (inM true) (eVar 3) (eC w_RULES))) (toT (eOp (inM false) (eVar 3) (eVar 2))))
  (sRaise1 n_PolicyError n_name (eVar 3))
  sNil)
  (sExpr (eMt kList mAppend (eVar 2) (aCons (eVar 3) aNil)))))
  (sFldM tab n_names (eVar 0) (eB fTuple (aCons (eLc (iSeq (eC w_RULES)) (gN 3) (toT (eOp (inM false) (eVar 3) (eVar 2))) (eVar 3) [3]) aNil)))))
noncomputable abbrev f_Policy_init : MF := fnOf 2 4 m_Policy_init
noncomputable def m_Policy_sub : MS := (sRet (eMake n_Policy f_Policy_init [] (aCons (eLc (iSeq (eFld tab n_names (eVar 0))) (gN 2) (toT (eOp (inM true) (eVar 2) (eFld tab n_names (eVar 1)))) (eVar 2) [2]) aNil)))
noncomputable abbrev f_Policy_sub : MF := fnOf 2 3 m_Policy_sub
noncomputable def m_Policy_or : MS := (sRet (eMake n_Policy f_Policy_init [] (aCons (eLc (iSeq (eC w_RULES)) (gN 2) (tOrM (toT (eOp (inM false) (eVar 2) (eFld tab n_names (eVar 0)))) (toT (eOp (inM false) (eVar 2) (eFld tab n_names (eVar 1))))) (eVar 2) [2]) aNil)))
noncomputable abbrev f_Policy_or : MF := fnOf 2 3 m_Policy_or
noncomputable def m_law_whole : MS := (sRet (eAndM (eB fIsi (aCons (eVar 0) (aCons (eC (.ty .int)) aNil))) (eNotM (eB fIsi (aCons (eVar 0) (aCons (eC (.ty .bool)) aNil))))))
noncomputable abbrev f_law_whole : MF := fnOf 1 1 m_law_whole
noncomputable def m_law_equal : MS := (sSeq (sSet 2 (eLst (aCons (eTup (aCons (eVar 0) (aCons (eVar 1) aNil))) aNil)))
  (sSeq (sFor (iR1 (eC (.int 6000))) (gN 3)
  (sSeq (sIf (toT (eOp gEq (eB fLen (aCons (eVar 2) aNil)) (eC (.int 0))))
  (sRet (eC (.bl true)))
  sNil)
  (sSeq (sSet 4 (eMt kList mPop (eVar 2) aNil))
  (sSeq (sSet 5 (eOp gIx (eVar 4) (eC (.int 0))))
  (sSeq (sSet 6 (eOp gIx (eVar 4) (eC (.int 1))))
  (sIf (tOrM (toT (eOp (isM false) (eVar 6) (eC .non))) (toT (eB fIsi (aCons (eVar 6) (aCons (eC (.ty .bool)) aNil)))))
  (sIf (tOrM (toT (eOp gNe (eB fIsi (aCons (eVar 5) (aCons (eC (.ty .bool)) aNil))) (eB fIsi (aCons (eVar 6) (aCons (eC (.ty .bool)) aNil))))) (toT (eOp gNe (eVar 5) (eVar 6))))
  (sRet (eC (.bl false)))
  sNil)
  (sIf (toT (eB fIsi (aCons (eVar 6) (aCons (eC (.ty .int)) aNil))))
  (sIf (tOrM (tNotM (toT (eCall f_law_whole [] (aCons (eVar 5) aNil)))) (toT (eOp gNe (eVar 5) (eVar 6))))
  (sRet (eC (.bl false)))
  sNil)
  (sIf (toT (eB fIsi (aCons (eVar 6) (aCons (eC (.ty .str)) aNil))))
  (sIf (tOrM (tNotM (toT (eB fIsi (aCons (eVar 5) (aCons (eC (.ty .str)) aNil))))) (toT (eOp gNe (eVar 5) (eVar 6))))
  (sRet (eC (.bl false)))
  sNil)
  (sSeq (sIf (tOrM (toT (eOp gNe (eB fIsi (aCons (eVar 5) (aCons (eC (.ty .list)) aNil))) (eB fIsi (aCons (eVar 6) (aCons (eC (.ty .list)) aNil))))) (toT (eOp gNe (eB fIsi (aCons (eVar 5) (aCons (eC (.ty .tuple)) aNil))) (eB fIsi (aCons (eVar 6) (aCons (eC (.ty .tuple)) aNil))))))
  (sRet (eC (.bl false)))
  sNil)
  (sSeq (sIf (toT (eB fIsi (aCons (eVar 6) (aCons (eC (.ty .dict)) aNil))))
  (sSeq (sIf (tOrM (tNotM (toT (eB fIsi (aCons (eVar 5) (aCons (eC (.ty .dict)) aNil))))) (toT (eOp gNe (eB fList (aCons (eVar 5) aNil)) (eB fList (aCons (eVar 6) aNil)))))
  (sRet (eC (.bl false)))
  sNil)
  (sSeq (sSet 5 (eLc (iSeq (eVar 6)) (gN 7) tYesM (eOp gIx (eVar 5) (eVar 7)) [7]))
  (sSet 6 (eLc (iSeq (eVar 6)) (gN 7) tYesM (eOp gIx (eVar 6) (eVar 7)) [7]))))
  sNil)
  (sSeq (sIf (toT (eOp gNe (eB fLen (aCons (eVar 5) aNil)) (eB fLen (aCons (eVar 6) aNil))))
  (sRet (eC (.bl false)))
  sNil)
  (sFor (iR1 (eB fLen (aCons (eVar 6) aNil))) (gN 8)
  (sExpr (eMt kList mAppend (eVar 2) (aCons (eTup (aCons (eOp gIx (eVar 5) (eVar 8)) (aCons (eOp gIx (eVar 6) (eVar 8)) aNil))) aNil)))))))))))))))
  (sRet (eC (.bl false)))))
noncomputable abbrev f_law_equal : MF := fnOf 2 9 m_law_equal
noncomputable def m_law_number : MS := (sSeq (sSet 1 (eC (.int 0)))
  (sSeq (sSet 2 (eC (.int 1)))
  (sSeq (sFor (iSeq (eCall f_law_rules [] aNil)) (gN 3)
  (sSeq (sIf (toT (eOp (inM false) (eVar 3) (eVar 0)))
  (sSet 1 (eOp gAdd (eVar 1) (eVar 2)))
  sNil)
  (sSet 2 (eOp gMul (eC (.int 2)) (eVar 2)))))
  (sRet (eVar 1)))))
noncomputable abbrev f_law_number : MF := fnOf 1 4 m_law_number
noncomputable def m_Policy_has : MS := (sRet (eOp (inM false) (eVar 1) (eFld tab n_names (eVar 0))))
noncomputable abbrev f_Policy_has : MF := fnOf 2 2 m_Policy_has
noncomputable def m_policy_number : MS := (sSeq (sSet 1 (eC (.int 0)))
  (sSeq (sFor (iRevT (eC w_RULES)) (gN 2)
  (sSet 1 (eOp gAdd (eOp gMul (eC (.int 2)) (eVar 1)) (eB fInt (aCons (eMeth n_Policy n_has f_Policy_has [] (eVar 0) (aCons (eVar 2) aNil)) aNil)))))
  (sRet (eVar 1))))
noncomputable abbrev f_policy_number : MF := fnOf 1 3 m_policy_number
noncomputable def m_policy_numbered : MS := (sSeq (sIf (tNotM (toT (eChain gLe gLe (eC (.int 0)) (eVar 0) (eC w_MOST_NUMBER))))
  (sRaise1 n_SettingError n_name (eC (.str n_number)))
  sNil)
  (sSeq (sSet 1 (eLst aNil))
  (sSeq (sFor (iSeq (eC w_RULES)) (gN 2)
  (sSeq (sIf (toT (eOp gEq (eOp gMod (eVar 0) (eC (.int 2))) (eC (.int 1))))
  (sExpr (eMt kList mAppend (eVar 1) (aCons (eVar 2) aNil)))
  sNil)
  (sSet 0 (eOp gDiv (eVar 0) (eC (.int 2))))))
  (sRet (eMake n_Policy f_Policy_init [] (aCons (eVar 1) aNil))))))
noncomputable abbrev f_policy_numbered : MF := fnOf 1 3 m_policy_numbered
noncomputable def m_law_chosen : MS := (sSeq (sSet 1 (eLst aNil))
  (sSeq (sSet 2 (eVar 0))
  (sSeq (sFor (iSeq (eCall f_law_rules [] aNil)) (gN 3)
  (sSeq (sIf (toT (eOp gEq (eOp gMod (eB fInt (aCons (eVar 2) aNil)) (eC (.int 2))) (eC (.int 1))))
  (sExpr (eMt kList mAppend (eVar 1) (aCons (eVar 3) aNil)))
  sNil)
  (sSet 2 (eOp gDiv (eVar 2) (eC (.int 2))))))
  (sRet (eVar 1)))))
noncomputable abbrev f_law_chosen : MF := fnOf 1 4 m_law_chosen
noncomputable def m_law_both : MS := (sSeq (sSet 1 (eCall f_law_chosen [] (aCons (eVar 0) aNil)))
  (sSeq (sSet 2 (eCall f_policy_numbered [] (aCons (eVar 0) aNil)))
  (sSeq (sIf (tOrM (tNotM (toT (eCall f_law_equal [] (aCons (eFld tab n_names (eVar 2)) (aCons (eB fTuple (aCons (eVar 1) aNil)) aNil))))) (toT (eOp gNe (eCall f_law_number [] (aCons (eVar 1) aNil)) (eVar 0))))
  (sRet (eC (.bl false)))
  sNil)
  (sRet (eAndM (eCall f_law_equal [] (aCons (eCall f_policy_number [] (aCons (eVar 2) aNil)) (aCons (eVar 0) aNil))) (eCall f_law_equal [] (aCons (eCall f_policy_number [] (aCons (eMake n_Policy f_Policy_init [] (aCons (eVar 1) aNil)) aNil)) (aCons (eVar 0) aNil))))))))
noncomputable abbrev f_law_both : MF := fnOf 1 3 m_law_both
noncomputable def m_law_refused_number : MS := (sSeq (sTry (sExpr (eCall f_policy_numbered [] (aCons (eVar 0) aNil))) [⟨tbE_SettingError, some 1, fun a d C => (sSeq (sSet 2 (eXis a d C tbI_0 (eVar 1)))
  (sRet (eAndM (eOp gEq (eXf a d n_name (eVar 1)) (eC (.str n_number))) (eAndM (eXis a d C tbI_1 (eVar 1)) (eAndM (eXis a d C tbI_2 (eVar 1)) (eNotM (eVar 2)))))))⟩])
  (sRet (eC (.bl false))))
noncomputable abbrev f_law_refused_number : MF := fnOf 1 3 m_law_refused_number
noncomputable def m_describe : MS := (sSeq (sFor (iSeq (eTup (aCons (eTup (aCons (eC (.str n_Code)) (aCons (eC (.gl n_CODE_RULES)) aNil))) (aCons (eTup (aCons (eC (.str n_Value)) (aCons (eC (.gl n_VALUE_RULES)) aNil))) (aCons (eTup (aCons (eC (.str n_Interrupt)) (aCons (eC (.gl n_POLL_RULES)) aNil))) aNil))))) (gT (gsCons (gN 1) (gsCons (gN 2) gsNil)))
  (sIf (toT (eOp (inM false) (eVar 0) (eTupG gtb_describe (eVar 2))))
  (sSeq (sSet 3 (eRepl n___1 n__ (eVar 0)))
  (sRet (fJs [(eFmt (eVar 1)), (eC (.str n__rule_)), (eFmt (eOp gAdd (eMt (kGl gtb_describe) (mGIdx gtb_describe) (eVar 2) (aCons (eVar 0) aNil)) (eC (.int 1)))), (eC (.str n__of_)), (eFmt (eB fLen (aCons (eTupG gtb_describe (eVar 2)) aNil))), (eC (.str n___)), (eFmt (eVar 3)), (eC (.str n___2))] [])))
  sNil))
  (sRaise1 n_PolicyError n_name (eVar 0)))
noncomputable abbrev f_describe : MF := fnOf 1 4 m_describe
noncomputable def m_law_refused_name : MS := (sSeq (sTry (sExpr (eCall f_describe [] (aCons (eVar 0) aNil))) [⟨tbE_PolicyError, some 1, fun a d C => (sSeq (sSet 2 (eXis a d C tbI_3 (eVar 1)))
  (sRet (eAndM (eOp gEq (eXf a d n_name (eVar 1)) (eVar 0)) (eAndM (eXis a d C tbI_1 (eVar 1)) (eAndM (eXis a d C tbI_2 (eVar 1)) (eNotM (eVar 2)))))))⟩])
  (sRet (eC (.bl false))))
noncomputable abbrev f_law_refused_name : MF := fnOf 1 3 m_law_refused_name
noncomputable def m_law_sentences : MS := (sSeq (sSet 0 (eCall f_law_rules [] aNil))
  (sSeq (sFor (iR1 (eC (.int 29))) (gN 1)
  (sSeq (sSet 2 (eC (.str n_Code_rule_)))
  (sSeq (sSet 3 (eOp gAdd (eVar 1) (eC (.int 1))))
  (sSeq (sSet 4 (eC (.int 18)))
  (sSeq (sIf (toT (eChain gLe gLt (eC (.int 18)) (eVar 1) (eC (.int 27))))
  (sSeq (sSet 2 (eC (.str n_Value_rule_)))
  (sSeq (sSet 3 (eOp gSub (eVar 1) (eC (.int 17))))
  (sSet 4 (eC (.int 9)))))
  (sIf (toT (eOp gGe (eVar 1) (eC (.int 27))))
  (sSeq (sSet 2 (eC (.str n_Interrupt_rule_)))
  (sSeq (sSet 3 (eOp gSub (eVar 1) (eC (.int 26))))
  (sSet 4 (eC (.int 2)))))
  sNil))
  (sSeq (sSet 5 (eMt kStr mJoin (eC (.str n__)) (aCons (eMt kStr mSplit (eOp gIx (eVar 0) (eVar 1)) (aCons (eC (.str n___1)) aNil)) aNil)))
  (sSeq (sIf (tNotM (toT (eCall f_law_equal [] (aCons (eCall f_describe [] (aCons (eOp gIx (eVar 0) (eVar 1)) aNil)) (aCons (eOp gAdd (eOp gAdd (eOp gAdd (eOp gAdd (eOp gAdd (eOp gAdd (eVar 2) (eB fStr (aCons (eVar 3) aNil))) (eC (.str n__of_))) (eB fStr (aCons (eVar 4) aNil))) (eC (.str n___))) (eVar 5)) (eC (.str n___2))) aNil)))))
  (sRet (eC (.bl false)))
  sNil)
  (sFor (iSeq (eLst (aCons (eSl (eOp gIx (eVar 0) (eVar 1)) (oYes (eC (.int 1))) oNo) (aCons (eOp gAdd (eOp gIx (eVar 0) (eVar 1)) (eC (.str n__))) (aCons (eOp gAdd (eC (.str n__)) (eOp gIx (eVar 0) (eVar 1))) (aCons (eMt kStr mUpper (eOp gIx (eVar 0) (eVar 1)) aNil) (aCons (eOp gAdd (eOp gIx (eVar 0) (eVar 1)) (eC (.str n_s))) (aCons (eOp gAdd (eC (.str n_no_)) (eVar 5)) aNil)))))))) (gN 6)
  (sIf (tNotM (toT (eCall f_law_refused_name [] (aCons (eVar 6) aNil))))
  (sRet (eC (.bl false)))
  sNil)))))))))
  (sRet (eAndM (eCall f_law_refused_name [] (aCons (eC (.str n_empty)) aNil)) (eAndM (eCall f_law_refused_name [] (aCons (eC (.str n_rule)) aNil)) (eCall f_law_refused_name [] (aCons (eC (.str n_track_frames)) aNil)))))))
noncomputable abbrev f_law_sentences : MF := fnOf 0 7 m_law_sentences
noncomputable def m_law : MS := (sSeq (sSet 1 (eCall f_law_row [] (aCons (eVar 0) (aCons (eC (.int 66)) aNil))))
  (sSeq (sSet 2 (eCall f_law_rules [] aNil))
  (sSeq (sSet 3 (eLc (iR1 (eC (.int 29))) (gN 4) (toT (eOp gEq (eOp gMod (eB fInt (aCons (eOp gAdd (eCall f_law_digit [] (aCons (eVar 1) (aCons (eVar 4) aNil))) (eOp gDiv (eVar 4) (eC (.int 2)))) aNil)) (eC (.int 2))) (eC (.int 1)))) (eOp gIx (eVar 2) (eVar 4)) [4]))
  (sSeq (sSet 5 (eLc (iR1 (eC (.int 29))) (gN 4) (toT (eOp gEq (eOp gMod (eB fInt (aCons (eOp gAdd (eCall f_law_digit [] (aCons (eVar 1) (aCons (eOp gAdd (eC (.int 29)) (eVar 4)) aNil))) (eVar 4)) aNil)) (eC (.int 3))) (eC (.int 0)))) (eOp gIx (eVar 2) (eVar 4)) [4]))
  (sSeq (sSet 6 (eC (.int 0)))
  (sSeq (sFor (iR1 (eC (.int 8))) (gN 4)
  (sSet 6 (eOp gAdd (eOp gMul (eC (.int 16)) (eVar 6)) (eCall f_law_digit [] (aCons (eVar 1) (aCons (eOp gAdd (eC (.int 58)) (eVar 4)) aNil))))))
  (sSeq (sSet 6 (eOp gMod (eB fInt (aCons (eOp gAdd (eVar 6) (eC (.int 305419896))) aNil)) (eC (.int 536870912))))
  (sSeq (sSet 7 (eMake n_Policy f_Policy_init [] (aCons (eVar 3) aNil)))
  (sSeq (sSet 8 (eMake n_Policy f_Policy_init [] (aCons (eVar 5) aNil)))
  (sSeq (sSet 9 (eLc (iSeq (eVar 2)) (gN 10) (tOrM (toT (eOp (inM false) (eVar 10) (eVar 3))) (toT (eOp (inM false) (eVar 10) (eVar 5)))) (eVar 10) [10]))
  (sSeq (sSet 11 (eLc (iSeq (eVar 3)) (gN 10) (toT (eOp (inM true) (eVar 10) (eVar 5))) (eVar 10) [10]))
  (sSeq (sFor (iSeq (eLst (aCons (eTup (aCons (eVar 7) (aCons (eVar 3) aNil))) (aCons (eTup (aCons (eVar 8) (aCons (eVar 5) aNil))) (aCons (eTup (aCons (eOp (gOwnB n_Policy f_Policy_or) (eVar 7) (eVar 8)) (aCons (eVar 9) aNil))) (aCons (eTup (aCons (eOp (gOwnB n_Policy f_Policy_sub) (eVar 7) (eVar 8)) (aCons (eVar 11) aNil))) (aCons (eTup (aCons (eVar 7) (aCons (eVar 3) aNil))) aNil))))))) (gN 12)
  (sSeq (sIf (tNotM (toT (eCall f_law_equal [] (aCons (eCall f_policy_number [] (aCons (eOp gIx (eVar 12) (eC (.int 0))) aNil)) (aCons (eCall f_law_number [] (aCons (eOp gIx (eVar 12) (eC (.int 1))) aNil)) aNil)))))
  (sRet (eC (.bl false)))
  sNil)
  (sIf (tNotM (toT (eCall f_law_equal [] (aCons (eFld tab n_names (eCall f_policy_numbered [] (aCons (eCall f_law_number [] (aCons (eOp gIx (eVar 12) (eC (.int 1))) aNil)) aNil))) (aCons (eB fTuple (aCons (eOp gIx (eVar 12) (eC (.int 1))) aNil)) aNil)))))
  (sRet (eC (.bl false)))
  sNil)))
  (sSeq (sSet 13 (eLst (aCons (eVar 6) (aCons (eOp gSub (eC (.int 536870911)) (eVar 6)) (aCons (eC (.int 0)) (aCons (eC (.int 536870911)) aNil))))))
  (sSeq (sSet 14 (eC (.int 1)))
  (sSeq (sFor (iR1 (eC (.int 29))) (gN 4)
  (sSeq (sExpr (eMt kList mAppend (eVar 13) (aCons (eVar 14) aNil)))
  (sSet 14 (eOp gMul (eC (.int 2)) (eVar 14)))))
  (sSeq (sFor (iSeq (eVar 13)) (gN 15)
  (sIf (tNotM (toT (eCall f_law_both [] (aCons (eVar 15) aNil))))
  (sRet (eC (.bl false)))
  sNil))
  (sSeq (sFor (iSeq (eLst (aCons (eNegM (eC (.int 1))) (aCons (eC (.int 536870912)) (aCons (eOp gSub (eNegM (eC (.int 2))) (eVar 6)) (aCons (eOp gAdd (eC (.int 536870913)) (eVar 6)) (aCons (eC (.int 1073741824)) (aCons (eNegM (eC (.int 536870912))) (aCons (eNegM (eC (.int 536870911))) (aCons (eC (.int 4294967296)) aNil)))))))))) (gN 15)
  (sIf (tNotM (toT (eCall f_law_refused_number [] (aCons (eVar 15) aNil))))
  (sRet (eC (.bl false)))
  sNil))
  (sSeq (sSet 16 (eTup (aCons (eB fTuple (aCons (eSl (eVar 2) oNo (oYes (eC (.int 18)))) aNil)) (aCons (eB fTuple (aCons (eSl (eVar 2) (oYes (eC (.int 18))) (oYes (eC (.int 27)))) aNil)) (aCons (eB fTuple (aCons (eSl (eVar 2) (oYes (eC (.int 27))) oNo) aNil)) aNil)))))
  (sSeq (sIf (tNotM (toT (eCall f_law_equal [] (aCons (eTup (aCons (eC w_CODE_RULES) (aCons (eC w_VALUE_RULES) (aCons (eC w_POLL_RULES) aNil)))) (aCons (eVar 16) aNil)))))
  (sRet (eC (.bl false)))
  sNil)
  (sRet (eAndM (eCall f_law_equal [] (aCons (eC w_RULES) (aCons (eB fTuple (aCons (eVar 2) aNil)) aNil))) (eCall f_law_sentences [] aNil))))))))))))))))))))))
noncomputable abbrev f_law : MF := fnOf 1 17 m_law
end K29
set_option Elab.async false
set_option linter.all false
set_option maxRecDepth 100000
set_option maxHeartbeats 400000
namespace K29
open PySem PySem.Spec PyProof.Rows L2 GL
def top (i : Nat) : Stmt := PySem.Challenge.pw_guestlives_k29_policy_numbers_and_senten.main.body.getD i (.Pass ⟨0, 0, 0, 0⟩)
abbrev st_law_row : Stmt := top 22
abbrev N_law_row : List Str := ["_law_script", "_law_most", "_law_row_here", "_law_cell", "_law_rest", "_law_k"]
abbrev ps_law_row : List Str := ["_law_script", "_law_most"]
theorem sc_law_row : FnScope N_law_row ps_law_row (defScope st_law_row) := ⟨rfl, rfl, rfl, by decide +kernel, rfl, by decide +kernel, by decide +kernel⟩
abbrev st_law_rules : Stmt := top 26
abbrev N_law_rules : List Str := ["_law_text"]
abbrev ps_law_rules : List Str := []
theorem sc_law_rules : FnScope N_law_rules ps_law_rules (defScope st_law_rules) := ⟨rfl, rfl, rfl, by decide +kernel, rfl, by decide +kernel, by decide +kernel⟩
abbrev st_law_digit : Stmt := top 23
abbrev N_law_digit : List Str := ["_law_row_here", "_law_at"]
abbrev ps_law_digit : List Str := ["_law_row_here", "_law_at"]
theorem sc_law_digit : FnScope N_law_digit ps_law_digit (defScope st_law_digit) := ⟨rfl, rfl, rfl, by decide +kernel, rfl, by decide +kernel, by decide +kernel⟩
abbrev st_Policy_init : Stmt := inClass (top 12) 0
abbrev N_Policy_init : List Str := ["self", "names", "chosen", "name"]
abbrev ps_Policy_init : List Str := ["self", "names"]
theorem sc_Policy_init : FnScope N_Policy_init ps_Policy_init (defScope st_Policy_init) := ⟨rfl, rfl, rfl, by decide +kernel, rfl, by decide +kernel, by decide +kernel⟩
abbrev st_Policy_sub : Stmt := inClass (top 12) 7
abbrev N_Policy_sub : List Str := ["self", "other", "name"]
abbrev ps_Policy_sub : List Str := ["self", "other"]
theorem sc_Policy_sub : FnScope N_Policy_sub ps_Policy_sub (defScope st_Policy_sub) := ⟨rfl, rfl, rfl, by decide +kernel, rfl, by decide +kernel, by decide +kernel⟩
abbrev st_Policy_or : Stmt := inClass (top 12) 6
abbrev N_Policy_or : List Str := ["self", "other", "name"]
abbrev ps_Policy_or : List Str := ["self", "other"]
theorem sc_Policy_or : FnScope N_Policy_or ps_Policy_or (defScope st_Policy_or) := ⟨rfl, rfl, rfl, by decide +kernel, rfl, by decide +kernel, by decide +kernel⟩
abbrev st_law_whole : Stmt := top 24
abbrev N_law_whole : List Str := ["_law_value"]
abbrev ps_law_whole : List Str := ["_law_value"]
theorem sc_law_whole : FnScope N_law_whole ps_law_whole (defScope st_law_whole) := ⟨rfl, rfl, rfl, by decide +kernel, rfl, by decide +kernel, by decide +kernel⟩
abbrev st_law_equal : Stmt := top 25
abbrev N_law_equal : List Str := ["_law_actual", "_law_expected", "_law_waiting", "_law_k", "_law_pair", "_law_one", "_law_due", "_law_key", "_law_j"]
abbrev ps_law_equal : List Str := ["_law_actual", "_law_expected"]
theorem sc_law_equal : FnScope N_law_equal ps_law_equal (defScope st_law_equal) := ⟨rfl, rfl, rfl, by decide +kernel, rfl, by decide +kernel, by decide +kernel⟩
abbrev st_law_number : Stmt := top 27
abbrev N_law_number : List Str := ["_law_names", "_law_number_here", "_law_place", "_law_name"]
abbrev ps_law_number : List Str := ["_law_names"]
theorem sc_law_number : FnScope N_law_number ps_law_number (defScope st_law_number) := ⟨rfl, rfl, rfl, by decide +kernel, rfl, by decide +kernel, by decide +kernel⟩
abbrev st_Policy_has : Stmt := inClass (top 12) 3
abbrev N_Policy_has : List Str := ["self", "name"]
abbrev ps_Policy_has : List Str := ["self", "name"]
theorem sc_Policy_has : FnScope N_Policy_has ps_Policy_has (defScope st_Policy_has) := ⟨rfl, rfl, rfl, by decide +kernel, rfl, by decide +kernel, by decide +kernel⟩
abbrev st_policy_number : Stmt := top 19
abbrev N_policy_number : List Str := ["policy", "number", "name"]
abbrev ps_policy_number : List Str := ["policy"]
theorem sc_policy_number : FnScope N_policy_number ps_policy_number (defScope st_policy_number) := ⟨rfl, rfl, rfl, by decide +kernel, rfl, by decide +kernel, by decide +kernel⟩
abbrev st_policy_numbered : Stmt := top 20
abbrev N_policy_numbered : List Str := ["number", "names", "name"]
abbrev ps_policy_numbered : List Str := ["number"]
theorem sc_policy_numbered : FnScope N_policy_numbered ps_policy_numbered (defScope st_policy_numbered) := ⟨rfl, rfl, rfl, by decide +kernel, rfl, by decide +kernel, by decide +kernel⟩
abbrev st_law_chosen : Stmt := top 28
abbrev N_law_chosen : List Str := ["_law_number_here", "_law_names", "_law_rest", "_law_name"]
abbrev ps_law_chosen : List Str := ["_law_number_here"]
theorem sc_law_chosen : FnScope N_law_chosen ps_law_chosen (defScope st_law_chosen) := ⟨rfl, rfl, rfl, by decide +kernel, rfl, by decide +kernel, by decide +kernel⟩
abbrev st_law_both : Stmt := top 29
abbrev N_law_both : List Str := ["_law_number_here", "_law_names", "_law_policy"]
abbrev ps_law_both : List Str := ["_law_number_here"]
theorem sc_law_both : FnScope N_law_both ps_law_both (defScope st_law_both) := ⟨rfl, rfl, rfl, by decide +kernel, rfl, by decide +kernel, by decide +kernel⟩
abbrev st_law_refused_number : Stmt := top 30
abbrev N_law_refused_number : List Str := ["_law_number_here", "e", "_law_others"]
abbrev ps_law_refused_number : List Str := ["_law_number_here"]
theorem sc_law_refused_number : FnScope N_law_refused_number ps_law_refused_number (defScope st_law_refused_number) := ⟨rfl, rfl, rfl, by decide +kernel, rfl, by decide +kernel, by decide +kernel⟩
abbrev st_describe : Stmt := top 18
abbrev N_describe : List Str := ["name", "title", "names", "words"]
abbrev ps_describe : List Str := ["name"]
theorem sc_describe : FnScope N_describe ps_describe (defScope st_describe) := ⟨rfl, rfl, rfl, by decide +kernel, rfl, by decide +kernel, by decide +kernel⟩
abbrev st_law_refused_name : Stmt := top 31
abbrev N_law_refused_name : List Str := ["_law_name", "e", "_law_others"]
abbrev ps_law_refused_name : List Str := ["_law_name"]
theorem sc_law_refused_name : FnScope N_law_refused_name ps_law_refused_name (defScope st_law_refused_name) := ⟨rfl, rfl, rfl, by decide +kernel, rfl, by decide +kernel, by decide +kernel⟩
abbrev st_law_sentences : Stmt := top 32
abbrev N_law_sentences : List Str := ["_law_rules_here", "_law_k", "_law_group", "_law_place", "_law_many", "_law_words", "_law_name"]
abbrev ps_law_sentences : List Str := []
theorem sc_law_sentences : FnScope N_law_sentences ps_law_sentences (defScope st_law_sentences) := ⟨rfl, rfl, rfl, by decide +kernel, rfl, by decide +kernel, by decide +kernel⟩
abbrev st_law : Stmt := top 33
abbrev N_law : List Str := ["_law_script", "_law_row_here", "_law_rules_here", "_law_first", "_law_k", "_law_second", "_law_value", "_law_one", "_law_two", "_law_joined", "_law_name", "_law_apart", "_law_pair", "_law_numbers", "_law_place", "_law_number_here", "_law_groups"]
abbrev ps_law : List Str := ["_law_script"]
theorem sc_law : FnScope N_law ps_law (defScope st_law) := ⟨rfl, rfl, rfl, by decide +kernel, rfl, by decide +kernel, by decide +kernel⟩
theorem e_Policy : toS n_Policy = ("Policy" : Str) := by decide +kernel
theorem e_PolicyError : toS n_PolicyError = ("PolicyError" : Str) := by decide +kernel
theorem e_SettingError : toS n_SettingError = ("SettingError" : Str) := by decide +kernel
abbrev st_PolicyError_init : Stmt := inClass (top 6) 0
def xd_PolicyError : He.DefD := ⟨("PolicyError", some "__init__"), "__init__", "PolicyError.__init__", defArgs st_PolicyError_init, defBody st_PolicyError_init, defScope st_PolicyError_init, [], []⟩
abbrev st_SettingError_init : Stmt := inClass (top 8) 0
def xd_SettingError : He.DefD := ⟨("SettingError", some "__init__"), "__init__", "SettingError.__init__", defArgs st_SettingError_init, defBody st_SettingError_init, defScope st_SettingError_init, [], []⟩
abbrev xfs : List Str := ["name"]
structure Tx (P : Program) (K : PySem.W.Frag) (mg : Str → Option Value) : Prop where
  b_ValueError : mg "ValueError" = none
  b_abs : mg "abs" = none
  b_bool : mg "bool" = none
  b_dict : mg "dict" = none
  b_int : mg "int" = none
  b_isinstance : mg "isinstance" = none
  b_len : mg "len" = none
  b_list : mg "list" = none
  b_range : mg "range" = none
  b_reversed : mg "reversed" = none
  b_str : mg "str" = none
  b_super : mg "super" = none
  b_tuple : mg "tuple" = none
  g__law_row : mg "_law_row" = some (.ref (He.ga K "_law_row"))
  g__law_rules : mg "_law_rules" = some (.ref (He.ga K "_law_rules"))
  g__law_digit : mg "_law_digit" = some (.ref (He.ga K "_law_digit"))
  g__law_whole : mg "_law_whole" = some (.ref (He.ga K "_law_whole"))
  g__law_equal : mg "_law_equal" = some (.ref (He.ga K "_law_equal"))
  g__law_number : mg "_law_number" = some (.ref (He.ga K "_law_number"))
  g_policy_number : mg "policy_number" = some (.ref (He.ga K "policy_number"))
  g_policy_numbered : mg "policy_numbered" = some (.ref (He.ga K "policy_numbered"))
  g__law_chosen : mg "_law_chosen" = some (.ref (He.ga K "_law_chosen"))
  g__law_both : mg "_law_both" = some (.ref (He.ga K "_law_both"))
  g__law_refused_number : mg "_law_refused_number" = some (.ref (He.ga K "_law_refused_number"))
  g_describe : mg "describe" = some (.ref (He.ga K "describe"))
  g__law_refused_name : mg "_law_refused_name" = some (.ref (He.ga K "_law_refused_name"))
  g__law_sentences : mg "_law_sentences" = some (.ref (He.ga K "_law_sentences"))
  g_law : mg "law" = some (.ref (He.ga K "law"))
  cl_Policy : Cls K (He.ga K "Policy")
  sf_Policy : PySem.W.selfFirst K (He.ga K "Policy") = true
  g_Policy : mg "Policy" = some (.ref (He.ga K "Policy"))
  mk_Policy : Mk K (He.ga K "Policy") (He.ma K (He.ga K "Policy") "__init__")
  me_Policy_or : Meth K (He.ga K "Policy") "__or__" (He.ma K (He.ga K "Policy") "__or__")
  me_Policy_sub : Meth K (He.ga K "Policy") "__sub__" (He.ma K (He.ga K "Policy") "__sub__")
  me_Policy_has : Meth K (He.ga K "Policy") "has" (He.ma K (He.ga K "Policy") "has")
  gt_CODE_RULES : GTup K mg n_CODE_RULES w_CODE_RULES
  gt_POLL_RULES : GTup K mg n_POLL_RULES w_POLL_RULES
  gt_VALUE_RULES : GTup K mg n_VALUE_RULES w_VALUE_RULES
  c_CODE_RULES : GCon K mg "CODE_RULES" w_CODE_RULES
  c_MOST_NUMBER : GCon K mg "MOST_NUMBER" w_MOST_NUMBER
  c_POLL_RULES : GCon K mg "POLL_RULES" w_POLL_RULES
  c_RULES : GCon K mg "RULES" w_RULES
  c_VALUE_RULES : GCon K mg "VALUE_RULES" w_VALUE_RULES
  g_ActionError : mg "ActionError" = some (.ref (He.ga K "ActionError"))
  g_DebuggerError : mg "DebuggerError" = some (.ref (He.ga K "DebuggerError"))
  g_GuestError : mg "GuestError" = some (.ref (He.ga K "GuestError"))
  g_GuestlivesError : mg "GuestlivesError" = some (.ref (He.ga K "GuestlivesError"))
  g_InstructionError : mg "InstructionError" = some (.ref (He.ga K "InstructionError"))
  g_PolicyError : mg "PolicyError" = some (.ref (He.ga K "PolicyError"))
  g_SettingError : mg "SettingError" = some (.ref (He.ga K "SettingError"))
  g_TextError : mg "TextError" = some (.ref (He.ga K "TextError"))
  xn_PolicyError : XnC P K (He.ga K "PolicyError") (He.fAd K ("PolicyError", some "__init__")) (ccAt ("PolicyError", some "__init__") K) "name"
  xn_SettingError : XnC P K (He.ga K "SettingError") (He.fAd K ("SettingError", some "__init__")) (ccAt ("SettingError", some "__init__") K) "name"
  exm_SettingError : ∀ p ∈ tbE_SettingError, PySem.W.exmOne K (.ref (He.ga K (toS p.1))) (.ref (He.ga K "SettingError") : Value) = some p.2
  exm_PolicyError : ∀ p ∈ tbE_PolicyError, PySem.W.exmOne K (.ref (He.ga K (toS p.1))) (.ref (He.ga K "PolicyError") : Value) = some p.2
  kit_0 : ∀ p ∈ tbI_0, PySem.W.kitAny K (.ref (He.ga K (toS p.1))) [(.ref (He.ga K "TextError") : Value), (.ref (He.ga K "InstructionError") : Value), (.ref (He.ga K "GuestError") : Value), (.ref (He.ga K "PolicyError") : Value), (.ref (He.ga K "ActionError") : Value), (.ref (He.ga K "DebuggerError") : Value)] = some p.2
  kit_1 : ∀ p ∈ tbI_1, PySem.W.kitOne K (.ref (He.ga K (toS p.1))) (.ref (He.ga K "GuestlivesError") : Value) = some p.2
  kit_2 : ∀ p ∈ tbI_2, PySem.W.kitOne K (.ref (He.ga K (toS p.1))) (.type "ValueError" : Value) = some p.2
  kit_3 : ∀ p ∈ tbI_3, PySem.W.kitAny K (.ref (He.ga K (toS p.1))) [(.ref (He.ga K "TextError") : Value), (.ref (He.ga K "InstructionError") : Value), (.ref (He.ga K "GuestError") : Value), (.ref (He.ga K "ActionError") : Value), (.ref (He.ga K "SettingError") : Value), (.ref (He.ga K "DebuggerError") : Value)] = some p.2
  att : Atts K tab
  cau : ∀ C ∈ xcs, Caught K (toS C) xfs
  top_ : (P.main.scope.names.lookup ("super" : Str)).isSome = false
  xf_PolicyError : ∃ fd, XnF P K (He.fAd K ("PolicyError", some "__init__")) (ccAt ("PolicyError", some "__init__") K) "__init__" "PolicyError.__init__" (defArgs st_PolicyError_init) (defBody st_PolicyError_init) (defScope st_PolicyError_init) fd
  xf_SettingError : ∃ fd, XnF P K (He.fAd K ("SettingError", some "__init__")) (ccAt ("SettingError", some "__init__") K) "__init__" "SettingError.__init__" (defArgs st_SettingError_init) (defBody st_SettingError_init) (defScope st_SettingError_init) fd
  dv_Policy_init_0 : GVal K (.ref (He.dflAt ("Policy", some "__init__") 0 K)) (.tup [])
  d_law_row : ∃ fd, FunD K "_law_row" "_law_row" (defArgs st_law_row) (defBody st_law_row) (defScope st_law_row) ([] : List V) ([] : List (Str × V)) (He.fAd K ("_law_row", none)) fd
  d_law_rules : ∃ fd, FunD K "_law_rules" "_law_rules" (defArgs st_law_rules) (defBody st_law_rules) (defScope st_law_rules) ([] : List V) ([] : List (Str × V)) (He.fAd K ("_law_rules", none)) fd
  d_law_digit : ∃ fd, FunD K "_law_digit" "_law_digit" (defArgs st_law_digit) (defBody st_law_digit) (defScope st_law_digit) ([] : List V) ([] : List (Str × V)) (He.fAd K ("_law_digit", none)) fd
  d_Policy_init : ∃ fd, FunD K "__init__" "Policy.__init__" (defArgs st_Policy_init) (defBody st_Policy_init) (defScope st_Policy_init) ([.ref (He.dflAt ("Policy", some "__init__") 0 K)] : List V) ([] : List (Str × V)) (He.fAd K ("Policy", some "__init__")) fd
  d_Policy_sub : ∃ fd, FunD K "__sub__" "Policy.__sub__" (defArgs st_Policy_sub) (defBody st_Policy_sub) (defScope st_Policy_sub) ([] : List V) ([] : List (Str × V)) (He.fAd K ("Policy", some "__sub__")) fd
  d_Policy_or : ∃ fd, FunD K "__or__" "Policy.__or__" (defArgs st_Policy_or) (defBody st_Policy_or) (defScope st_Policy_or) ([] : List V) ([] : List (Str × V)) (He.fAd K ("Policy", some "__or__")) fd
  d_law_whole : ∃ fd, FunD K "_law_whole" "_law_whole" (defArgs st_law_whole) (defBody st_law_whole) (defScope st_law_whole) ([] : List V) ([] : List (Str × V)) (He.fAd K ("_law_whole", none)) fd
  d_law_equal : ∃ fd, FunD K "_law_equal" "_law_equal" (defArgs st_law_equal) (defBody st_law_equal) (defScope st_law_equal) ([] : List V) ([] : List (Str × V)) (He.fAd K ("_law_equal", none)) fd
  d_law_number : ∃ fd, FunD K "_law_number" "_law_number" (defArgs st_law_number) (defBody st_law_number) (defScope st_law_number) ([] : List V) ([] : List (Str × V)) (He.fAd K ("_law_number", none)) fd
  d_Policy_has : ∃ fd, FunD K "has" "Policy.has" (defArgs st_Policy_has) (defBody st_Policy_has) (defScope st_Policy_has) ([] : List V) ([] : List (Str × V)) (He.fAd K ("Policy", some "has")) fd
  d_policy_number : ∃ fd, FunD K "policy_number" "policy_number" (defArgs st_policy_number) (defBody st_policy_number) (defScope st_policy_number) ([] : List V) ([] : List (Str × V)) (He.fAd K ("policy_number", none)) fd
  d_policy_numbered : ∃ fd, FunD K "policy_numbered" "policy_numbered" (defArgs st_policy_numbered) (defBody st_policy_numbered) (defScope st_policy_numbered) ([] : List V) ([] : List (Str × V)) (He.fAd K ("policy_numbered", none)) fd
  d_law_chosen : ∃ fd, FunD K "_law_chosen" "_law_chosen" (defArgs st_law_chosen) (defBody st_law_chosen) (defScope st_law_chosen) ([] : List V) ([] : List (Str × V)) (He.fAd K ("_law_chosen", none)) fd
  d_law_both : ∃ fd, FunD K "_law_both" "_law_both" (defArgs st_law_both) (defBody st_law_both) (defScope st_law_both) ([] : List V) ([] : List (Str × V)) (He.fAd K ("_law_both", none)) fd
  d_law_refused_number : ∃ fd, FunD K "_law_refused_number" "_law_refused_number" (defArgs st_law_refused_number) (defBody st_law_refused_number) (defScope st_law_refused_number) ([] : List V) ([] : List (Str × V)) (He.fAd K ("_law_refused_number", none)) fd
  d_describe : ∃ fd, FunD K "describe" "describe" (defArgs st_describe) (defBody st_describe) (defScope st_describe) ([] : List V) ([] : List (Str × V)) (He.fAd K ("describe", none)) fd
  d_law_refused_name : ∃ fd, FunD K "_law_refused_name" "_law_refused_name" (defArgs st_law_refused_name) (defBody st_law_refused_name) (defScope st_law_refused_name) ([] : List V) ([] : List (Str × V)) (He.fAd K ("_law_refused_name", none)) fd
  d_law_sentences : ∃ fd, FunD K "_law_sentences" "_law_sentences" (defArgs st_law_sentences) (defBody st_law_sentences) (defScope st_law_sentences) ([] : List V) ([] : List (Str × V)) (He.fAd K ("_law_sentences", none)) fd
  d_law : ∃ fd, FunD K "law" "law" (defArgs st_law) (defBody st_law) (defScope st_law) ([] : List V) ([] : List (Str × V)) (He.fAd K ("law", none)) fd
section
variable {P : Program} {w : World} {K : PySem.W.Frag} {mg : Str → Option Value} {base : Heap}
theorem okx_PolicyError (T : Tx P K mg) : ∃ fd, FnOk P w K mg base (L2.CX P w) 1 (He.fAd K ("PolicyError", some "__init__")) fd ["self", "name"] (spX K (He.ga K "PolicyError") "name") ∧ Binds K fd ["self", "name"] [] := by
  obtain ⟨fd, F⟩ := T.xf_PolicyError
  refine ⟨fd, init1 (CX := L2.CX P w) (P := P) (w := w) (K := K) (mg := mg) (base := base) (k := 0) (slf := "self") (y := "name") T.xn_PolicyError F ⟨rfl, rfl, rfl, by decide +kernel, rfl, by decide +kernel, by decide +kernel, by decide +kernel⟩ T.b_super T.top_ (by decide +kernel) (by decide +kernel) (by decide +kernel) ⟨_, rfl, rfl⟩ (by decide +kernel) (by decide +kernel) (by decide +kernel) (by decide +kernel) (fun env => by rfl), ?_⟩
  obtain ⟨oc, od, kV, doc, pm, an, cda, ct, osl, rfl, _⟩ := F.ex
  exact Binds.all fun us hl => match us, hl with | [_, _], _ => rfl
theorem okx_SettingError (T : Tx P K mg) : ∃ fd, FnOk P w K mg base (L2.CX P w) 1 (He.fAd K ("SettingError", some "__init__")) fd ["self", "name"] (spX K (He.ga K "SettingError") "name") ∧ Binds K fd ["self", "name"] [] := by
  obtain ⟨fd, F⟩ := T.xf_SettingError
  refine ⟨fd, init1 (CX := L2.CX P w) (P := P) (w := w) (K := K) (mg := mg) (base := base) (k := 0) (slf := "self") (y := "name") T.xn_SettingError F ⟨rfl, rfl, rfl, by decide +kernel, rfl, by decide +kernel, by decide +kernel, by decide +kernel⟩ T.b_super T.top_ (by decide +kernel) (by decide +kernel) (by decide +kernel) ⟨_, rfl, rfl⟩ (by decide +kernel) (by decide +kernel) (by decide +kernel) (by decide +kernel) (fun env => by rfl), ?_⟩
  obtain ⟨oc, od, kV, doc, pm, an, cda, ct, osl, rfl, _⟩ := F.ex
  exact Binds.all fun us hl => match us, hl with | [_, _], _ => rfl
theorem fi_law_row (T : Tx P K mg) {fd : FuncData} (F : FunD K "_law_row" "_law_row" (defArgs st_law_row) (defBody st_law_row) (defScope st_law_row) ([] : List V) ([] : List (Str × V)) (He.fAd K ("_law_row", none)) fd) : FI P w K mg base 1 (He.fAd K ("_law_row", none)) fd ps_law_row f_law_row := by
  have h := fi_of (P := P) (w := w) (mg := mg) (base := base) F sc_law_row (m := m_law_row) (k := 0) (fun cdv A outer s H E hr => by
    exact (iss_cons (is_set (i := 2) sc_law_row.nd (ie_lst ia_nil))
    (iss_cons (is_for (L2.passes_of rfl) rfl (ii_seq (ie_var 0)) (ig_name 3 sc_law_row.nd)
    (iss_cons (is_set (i := 4) sc_law_row.nd (ie_B call_abs ci_abs T.b_abs (by decide +kernel) (ia_cons (ie_BT call_int1 ci_int T.b_int (by decide +kernel) (ia_cons (ie_var 3) ia_nil)) ia_nil)))
    (iss_one (is_for (L2.passes_of rfl) rfl (ii_range1 T.b_range ie_int) (ig_name 5 sc_law_row.nd)
    (iss_cons (is_if (it_cmp op_lt oi_lt (ie_B call_len ci_len T.b_len (by decide +kernel) (ia_cons (ie_var 2) ia_nil)) (ie_var 1) (nomark _))
    (iss_one (is_expr (ie_mt PySem.F.plainAttrs_list PySem.F.slot_list_append PySem.F.type_list_append mt_append chk_list mi_append (ie_var 2) (ia_cons (ie_bin op_mod oi_mod (ie_var 4) ie_int) ia_nil))))
    iss_nil)
    (iss_cons (is_set (i := 4) sc_law_row.nd (ie_bin op_fdiv oi_div (ie_var 4) ie_int))
    (iss_one (is_if (it_cmp (or_eqM hr.units) oi_eq (ie_var 4) ie_int (nomark _))
    (iss_one is_break)
    iss_nil))))))))
    (iss_one (is_ret (ie_var 2))))))
  exact h
theorem ok_law_row (T : Tx P K mg) : ∃ fd, FI P w K mg base 1 (He.fAd K ("_law_row", none)) fd ps_law_row f_law_row ∧ PySem.W.keepIn K (.ref (He.fAd K ("_law_row", none))) = true ∧ (∃ ds, Vals (([] : List V).drop 0 : List V) ds ∧ Binds K fd ps_law_row ds) := by
  obtain ⟨fd, F⟩ := T.d_law_row
  exact ⟨fd, fi_law_row T F, F.kp, ⟨[], .nil, F.bindsN fun _ _ _ _ _ _ us hl => match us, hl with | [_, _], _ => rfl⟩⟩
theorem fi_law_rules (T : Tx P K mg) {fd : FuncData} (F : FunD K "_law_rules" "_law_rules" (defArgs st_law_rules) (defBody st_law_rules) (defScope st_law_rules) ([] : List V) ([] : List (Str × V)) (He.fAd K ("_law_rules", none)) fd) : FI P w K mg base 1 (He.fAd K ("_law_rules", none)) fd ps_law_rules f_law_rules := by
  have h := fi_of (P := P) (w := w) (mg := mg) (base := base) F sc_law_rules (m := m_law_rules) (k := 0) (fun cdv A outer s H E hr => by
    exact (iss_cons (is_set (i := 0) sc_law_rules.nd (ie_str (by decide +kernel)))
    (iss_cons (is_set (i := 0) sc_law_rules.nd (ie_bin or_addM oi_add (ie_var 0) (ie_str (by decide +kernel))))
    (iss_cons (is_set (i := 0) sc_law_rules.nd (ie_bin or_addM oi_add (ie_var 0) (ie_str (by decide +kernel))))
    (iss_cons (is_set (i := 0) sc_law_rules.nd (ie_bin or_addM oi_add (ie_var 0) (ie_str (by decide +kernel))))
    (iss_one (is_ret (ie_mt PySem.F.plainAttrs_str PySem.F.slot_str_split PySem.F.type_str_split mt_split chk_str mi_split (ie_var 0) (ia_cons (ie_str (by decide +kernel)) ia_nil)))))))))
  exact h
theorem ok_law_rules (T : Tx P K mg) : ∃ fd, FI P w K mg base 1 (He.fAd K ("_law_rules", none)) fd ps_law_rules f_law_rules ∧ PySem.W.keepIn K (.ref (He.fAd K ("_law_rules", none))) = true ∧ (∃ ds, Vals (([] : List V).drop 0 : List V) ds ∧ Binds K fd ps_law_rules ds) := by
  obtain ⟨fd, F⟩ := T.d_law_rules
  exact ⟨fd, fi_law_rules T F, F.kp, ⟨[], .nil, F.bindsN fun _ _ _ _ _ _ us hl => match us, hl with | [], _ => rfl⟩⟩
theorem fi_law_digit (T : Tx P K mg) {fd : FuncData} (F : FunD K "_law_digit" "_law_digit" (defArgs st_law_digit) (defBody st_law_digit) (defScope st_law_digit) ([] : List V) ([] : List (Str × V)) (He.fAd K ("_law_digit", none)) fd) : FI P w K mg base 1 (He.fAd K ("_law_digit", none)) fd ps_law_digit f_law_digit := by
  have h := fi_of (P := P) (w := w) (mg := mg) (base := base) F sc_law_digit (m := m_law_digit) (k := 0) (fun cdv A outer s H E hr => by
    exact (iss_cons (is_if (it_cmp op_lt oi_lt (ie_var 1) (ie_B call_len ci_len T.b_len (by decide +kernel) (ia_cons (ie_var 0) ia_nil)) (nomark _))
    (iss_one (is_ret (ie_ix (ie_var 0) (ie_var 1))))
    iss_nil)
    (iss_one (is_ret ie_int))))
  exact h
theorem ok_law_digit (T : Tx P K mg) : ∃ fd, FI P w K mg base 1 (He.fAd K ("_law_digit", none)) fd ps_law_digit f_law_digit ∧ PySem.W.keepIn K (.ref (He.fAd K ("_law_digit", none))) = true ∧ (∃ ds, Vals (([] : List V).drop 0 : List V) ds ∧ Binds K fd ps_law_digit ds) := by
  obtain ⟨fd, F⟩ := T.d_law_digit
  exact ⟨fd, fi_law_digit T F, F.kp, ⟨[], .nil, F.bindsN fun _ _ _ _ _ _ us hl => match us, hl with | [_, _], _ => rfl⟩⟩
theorem fi_Policy_init (T : Tx P K mg) {fd : FuncData} (F : FunD K "__init__" "Policy.__init__" (defArgs st_Policy_init) (defBody st_Policy_init) (defScope st_Policy_init) ([.ref (He.dflAt ("Policy", some "__init__") 0 K)] : List V) ([] : List (Str × V)) (He.fAd K ("Policy", some "__init__")) fd) : FI P w K mg base 3 (He.fAd K ("Policy", some "__init__")) fd ps_Policy_init f_Policy_init := by
  obtain ⟨fd_xPolicyError, X_PolicyError, B_PolicyError⟩ := okx_PolicyError (P := P) (w := w) (base := base) T
  have h := fi_of (P := P) (w := w) (mg := mg) (base := base) F sc_Policy_init (m := m_Policy_init) (k := 2) (fun cdv A outer s H E hr => by
    exact (iss_cons (is_set (i := 2) sc_Policy_init.nd (ie_lst ia_nil))
    (iss_cons (is_for (L2.passes_of rfl) rfl (ii_seq (ie_var 1)) (ig_name 3 sc_Policy_init.nd)
    (iss_cons (is_if (it_w (iw_or (it_cmp op_notIn_seq oi_inS (ie_var 3) (ie_con T.c_RULES) (by rfl)) (iw_or1 (it_cmp op_in_seq oi_inS (ie_var 3) (ie_var 2) (by rfl)))))
    (iss_one (is_raise1 rfl (L2.takes_of rfl rfl rfl rfl) T.xn_PolicyError (congrArg (He.ga K) e_PolicyError.symm) (by decide +kernel) X_PolicyError (hr.mono (by decide)) B_PolicyError T.g_PolicyError (ie_var 3)))
    iss_nil)
    (iss_one (is_expr (ie_mt PySem.F.plainAttrs_list PySem.F.slot_list_append PySem.F.type_list_append mt_append chk_list mi_append (ie_var 2) (ia_cons (ie_var 3) ia_nil))))))
    (iss_one (is_fld T.att (ie_var 0) (ie_BT call_tuple_of ci_tuple T.b_tuple (by decide +kernel) (ia_cons (ie_lc [("name", 3)] rfl rfl sc_Policy_init.nd (ii_seq (ie_con T.c_RULES)) (blkOk_by (own := [("name", 3)]) (N := N_Policy_init) (sc := defScope st_Policy_init) (by decide +kernel)) (by decide) (fun _ _ _ _ _ => (ig_name 3 sc_Policy_init.nd)) (fun _ _ _ _ _ => (its_one (it_cmp op_in_seq oi_inS (ie_var 3) (ie_var 2) (by rfl)))) (fun _ _ _ _ _ => (ie_var 3))) ia_nil)) (by decide +kernel))))))
  exact h
theorem ok_Policy_init (T : Tx P K mg) : ∃ fd, FI P w K mg base 3 (He.fAd K ("Policy", some "__init__")) fd ps_Policy_init f_Policy_init ∧ PySem.W.keepIn K (.ref (He.fAd K ("Policy", some "__init__"))) = true ∧ (∃ ds, Vals (([.ref (He.dflAt ("Policy", some "__init__") 0 K)] : List V).drop 1 : List V) ds ∧ Binds K fd ps_Policy_init ds) := by
  obtain ⟨fd, F⟩ := T.d_Policy_init
  exact ⟨fd, fi_Policy_init T F, F.kp, F.binds1 2 1 (by simp) rfl fun _ _ _ _ _ _ _ us its hu hi => match us, hu, its, hi with | [_, _], _, [_], _ => ⟨_, rfl, rfl⟩⟩
theorem fi_Policy_sub (T : Tx P K mg) {fd : FuncData} (F : FunD K "__sub__" "Policy.__sub__" (defArgs st_Policy_sub) (defBody st_Policy_sub) (defScope st_Policy_sub) ([] : List V) ([] : List (Str × V)) (He.fAd K ("Policy", some "__sub__")) fd) : FI P w K mg base 5 (He.fAd K ("Policy", some "__sub__")) fd ps_Policy_sub f_Policy_sub := by
  obtain ⟨fd_Policy_init, F_Policy_init, k_Policy_init, ⟨ds_Policy_init_2, v_Policy_init_2, b_Policy_init_2⟩⟩ := ok_Policy_init (P := P) (w := w) (base := base) T
  have w_Policy_init_2 : GVals K (([.ref (He.dflAt ("Policy", some "__init__") 0 K)] : List V).drop 1 : List V) [] := trivial
  have h := fi_of (P := P) (w := w) (mg := mg) (base := base) F sc_Policy_sub (m := m_Policy_sub) (k := 4) (fun cdv A outer s H E hr => by
    exact (iss_one (is_ret (ie_make (L2.takes_of rfl rfl rfl rfl) T.mk_Policy (congrArg (He.ga K) e_Policy.symm) F_Policy_init rfl (hr.mono (by decide)) T.g_Policy b_Policy_init_2 v_Policy_init_2 w_Policy_init_2 (ia_cons (ie_lc [("name", 2)] rfl rfl sc_Policy_sub.nd (ii_seq (ie_fld T.att (ie_var 0) (by decide +kernel))) (blkOk_by (own := [("name", 2)]) (N := N_Policy_sub) (sc := defScope st_Policy_sub) (by decide +kernel)) (by decide) (fun _ _ _ _ _ => (ig_name 2 sc_Policy_sub.nd)) (fun _ _ _ _ _ => (its_one (it_cmp op_notIn_seq oi_inS (ie_var 2) (ie_fld T.att (ie_var 1) (by decide +kernel)) (by rfl)))) (fun _ _ _ _ _ => (ie_var 2))) ia_nil)))))
  exact h
theorem ok_Policy_sub (T : Tx P K mg) : ∃ fd, FI P w K mg base 5 (He.fAd K ("Policy", some "__sub__")) fd ps_Policy_sub f_Policy_sub ∧ PySem.W.keepIn K (.ref (He.fAd K ("Policy", some "__sub__"))) = true ∧ (∃ ds, Vals (([] : List V).drop 0 : List V) ds ∧ Binds K fd ps_Policy_sub ds) := by
  obtain ⟨fd, F⟩ := T.d_Policy_sub
  exact ⟨fd, fi_Policy_sub T F, F.kp, ⟨[], .nil, F.bindsN fun _ _ _ _ _ _ us hl => match us, hl with | [_, _], _ => rfl⟩⟩
theorem fi_Policy_or (T : Tx P K mg) {fd : FuncData} (F : FunD K "__or__" "Policy.__or__" (defArgs st_Policy_or) (defBody st_Policy_or) (defScope st_Policy_or) ([] : List V) ([] : List (Str × V)) (He.fAd K ("Policy", some "__or__")) fd) : FI P w K mg base 5 (He.fAd K ("Policy", some "__or__")) fd ps_Policy_or f_Policy_or := by
  obtain ⟨fd_Policy_init, F_Policy_init, k_Policy_init, ⟨ds_Policy_init_2, v_Policy_init_2, b_Policy_init_2⟩⟩ := ok_Policy_init (P := P) (w := w) (base := base) T
  have w_Policy_init_2 : GVals K (([.ref (He.dflAt ("Policy", some "__init__") 0 K)] : List V).drop 1 : List V) [] := trivial
  have h := fi_of (P := P) (w := w) (mg := mg) (base := base) F sc_Policy_or (m := m_Policy_or) (k := 4) (fun cdv A outer s H E hr => by
    exact (iss_one (is_ret (ie_make (L2.takes_of rfl rfl rfl rfl) T.mk_Policy (congrArg (He.ga K) e_Policy.symm) F_Policy_init rfl (hr.mono (by decide)) T.g_Policy b_Policy_init_2 v_Policy_init_2 w_Policy_init_2 (ia_cons (ie_lc [("name", 2)] rfl rfl sc_Policy_or.nd (ii_seq (ie_con T.c_RULES)) (blkOk_by (own := [("name", 2)]) (N := N_Policy_or) (sc := defScope st_Policy_or) (by decide +kernel)) (by decide) (fun _ _ _ _ _ => (ig_name 2 sc_Policy_or.nd)) (fun _ _ _ _ _ => (its_one (it_w (iw_or (it_cmp op_in_seq oi_inS (ie_var 2) (ie_fld T.att (ie_var 0) (by decide +kernel)) (by rfl)) (iw_or1 (it_cmp op_in_seq oi_inS (ie_var 2) (ie_fld T.att (ie_var 1) (by decide +kernel)) (by rfl))))))) (fun _ _ _ _ _ => (ie_var 2))) ia_nil)))))
  exact h
theorem ok_Policy_or (T : Tx P K mg) : ∃ fd, FI P w K mg base 5 (He.fAd K ("Policy", some "__or__")) fd ps_Policy_or f_Policy_or ∧ PySem.W.keepIn K (.ref (He.fAd K ("Policy", some "__or__"))) = true ∧ (∃ ds, Vals (([] : List V).drop 0 : List V) ds ∧ Binds K fd ps_Policy_or ds) := by
  obtain ⟨fd, F⟩ := T.d_Policy_or
  exact ⟨fd, fi_Policy_or T F, F.kp, ⟨[], .nil, F.bindsN fun _ _ _ _ _ _ us hl => match us, hl with | [_, _], _ => rfl⟩⟩
theorem fi_law_whole (T : Tx P K mg) {fd : FuncData} (F : FunD K "_law_whole" "_law_whole" (defArgs st_law_whole) (defBody st_law_whole) (defScope st_law_whole) ([] : List V) ([] : List (Str × V)) (He.fAd K ("_law_whole", none)) fd) : FI P w K mg base 1 (He.fAd K ("_law_whole", none)) fd ps_law_whole f_law_whole := by
  have h := fi_of (P := P) (w := w) (mg := mg) (base := base) F sc_law_whole (m := m_law_whole) (k := 0) (fun cdv A outer s H E hr => by
    exact (iss_one (is_ret (ie_and (ie_B call_isi ci_isi T.b_isinstance (by decide +kernel) (ia_cons (ie_var 0) (ia_cons (ie_ty (t := .int) T.b_int (by decide +kernel)) ia_nil))) (ie_one (ie_not (ie_B call_isi ci_isi T.b_isinstance (by decide +kernel) (ia_cons (ie_var 0) (ia_cons (ie_ty (t := .bool) T.b_bool (by decide +kernel)) ia_nil)))))))))
  exact h
theorem ok_law_whole (T : Tx P K mg) : ∃ fd, FI P w K mg base 1 (He.fAd K ("_law_whole", none)) fd ps_law_whole f_law_whole ∧ PySem.W.keepIn K (.ref (He.fAd K ("_law_whole", none))) = true ∧ (∃ ds, Vals (([] : List V).drop 0 : List V) ds ∧ Binds K fd ps_law_whole ds) := by
  obtain ⟨fd, F⟩ := T.d_law_whole
  exact ⟨fd, fi_law_whole T F, F.kp, ⟨[], .nil, F.bindsN fun _ _ _ _ _ _ us hl => match us, hl with | [_], _ => rfl⟩⟩
theorem fi_law_equal (T : Tx P K mg) {fd : FuncData} (F : FunD K "_law_equal" "_law_equal" (defArgs st_law_equal) (defBody st_law_equal) (defScope st_law_equal) ([] : List V) ([] : List (Str × V)) (He.fAd K ("_law_equal", none)) fd) : FI P w K mg base 2 (He.fAd K ("_law_equal", none)) fd ps_law_equal f_law_equal := by
  obtain ⟨fd_law_whole, F_law_whole, k_law_whole, ⟨ds_law_whole_1, v_law_whole_1, b_law_whole_1⟩⟩ := ok_law_whole (P := P) (w := w) (base := base) T
  have w_law_whole_1 : GVals K (([] : List V).drop 0 : List V) [] := trivial
  have h := fi_of (P := P) (w := w) (mg := mg) (base := base) F sc_law_equal (m := m_law_equal) (k := 1) (fun cdv A outer s H E hr => by
    exact (iss_cons (is_set (i := 2) sc_law_equal.nd (ie_lst (ia_cons (ie_tup (ia_cons (ie_var 0) (ia_cons (ie_var 1) ia_nil))) ia_nil)))
    (iss_cons (is_for (L2.passes_of rfl) rfl (ii_range1 T.b_range ie_int) (ig_name 3 sc_law_equal.nd)
    (iss_cons (is_if (it_cmp (or_eqM hr.units) oi_eq (ie_B call_len ci_len T.b_len (by decide +kernel) (ia_cons (ie_var 2) ia_nil)) ie_int (nomark _))
    (iss_one (is_ret ie_bl))
    iss_nil)
    (iss_cons (is_set (i := 4) sc_law_equal.nd (ie_mt0 PySem.F.plainAttrs_list PySem.F.slot_list_pop PySem.F.type_list_pop mt_pop chk_list mi_pop (ie_var 2)))
    (iss_cons (is_set (i := 5) sc_law_equal.nd (ie_ix (ie_var 4) ie_int))
    (iss_cons (is_set (i := 6) sc_law_equal.nd (ie_ix (ie_var 4) ie_int))
    (iss_one (is_if (it_w (iw_or (it_cmp or_isM oi_is (ie_var 6) ie_non (nomark _)) (iw_or1 (it_val (ie_B call_isi ci_isi T.b_isinstance (by decide +kernel) (ia_cons (ie_var 6) (ia_cons (ie_ty (t := .bool) T.b_bool (by decide +kernel)) ia_nil)))))))
    (iss_one (is_if (it_w (iw_or (it_cmp (or_neM hr.units) oi_ne (ie_B call_isi ci_isi T.b_isinstance (by decide +kernel) (ia_cons (ie_var 5) (ia_cons (ie_ty (t := .bool) T.b_bool (by decide +kernel)) ia_nil))) (ie_B call_isi ci_isi T.b_isinstance (by decide +kernel) (ia_cons (ie_var 6) (ia_cons (ie_ty (t := .bool) T.b_bool (by decide +kernel)) ia_nil))) (nomark _)) (iw_or1 (it_cmp (or_neM hr.units) oi_ne (ie_var 5) (ie_var 6) (nomark _)))))
    (iss_one (is_ret ie_bl))
    iss_nil))
    (iss_one (is_if (it_val (ie_B call_isi ci_isi T.b_isinstance (by decide +kernel) (ia_cons (ie_var 6) (ia_cons (ie_ty (t := .int) T.b_int (by decide +kernel)) ia_nil))))
    (iss_one (is_if (it_w (iw_or (it_not (it_val (ie_call (L2.takes_of rfl rfl rfl rfl) F_law_whole rfl (hr.mono (by decide)) T.g__law_whole k_law_whole b_law_whole_1 v_law_whole_1 w_law_whole_1 (ia_cons (ie_var 5) ia_nil)))) (iw_or1 (it_cmp (or_neM hr.units) oi_ne (ie_var 5) (ie_var 6) (nomark _)))))
    (iss_one (is_ret ie_bl))
    iss_nil))
    (iss_one (is_if (it_val (ie_B call_isi ci_isi T.b_isinstance (by decide +kernel) (ia_cons (ie_var 6) (ia_cons (ie_ty (t := .str) T.b_str (by decide +kernel)) ia_nil))))
    (iss_one (is_if (it_w (iw_or (it_not (it_val (ie_B call_isi ci_isi T.b_isinstance (by decide +kernel) (ia_cons (ie_var 5) (ia_cons (ie_ty (t := .str) T.b_str (by decide +kernel)) ia_nil))))) (iw_or1 (it_cmp (or_neM hr.units) oi_ne (ie_var 5) (ie_var 6) (nomark _)))))
    (iss_one (is_ret ie_bl))
    iss_nil))
    (iss_cons (is_if (it_w (iw_or (it_cmp (or_neM hr.units) oi_ne (ie_B call_isi ci_isi T.b_isinstance (by decide +kernel) (ia_cons (ie_var 5) (ia_cons (ie_ty (t := .list) T.b_list (by decide +kernel)) ia_nil))) (ie_B call_isi ci_isi T.b_isinstance (by decide +kernel) (ia_cons (ie_var 6) (ia_cons (ie_ty (t := .list) T.b_list (by decide +kernel)) ia_nil))) (nomark _)) (iw_or1 (it_cmp (or_neM hr.units) oi_ne (ie_B call_isi ci_isi T.b_isinstance (by decide +kernel) (ia_cons (ie_var 5) (ia_cons (ie_ty (t := .tuple) T.b_tuple (by decide +kernel)) ia_nil))) (ie_B call_isi ci_isi T.b_isinstance (by decide +kernel) (ia_cons (ie_var 6) (ia_cons (ie_ty (t := .tuple) T.b_tuple (by decide +kernel)) ia_nil))) (nomark _)))))
    (iss_one (is_ret ie_bl))
    iss_nil)
    (iss_cons (is_if (it_val (ie_B call_isi ci_isi T.b_isinstance (by decide +kernel) (ia_cons (ie_var 6) (ia_cons (ie_ty (t := .dict) T.b_dict (by decide +kernel)) ia_nil))))
    (iss_cons (is_if (it_w (iw_or (it_not (it_val (ie_B call_isi ci_isi T.b_isinstance (by decide +kernel) (ia_cons (ie_var 5) (ia_cons (ie_ty (t := .dict) T.b_dict (by decide +kernel)) ia_nil))))) (iw_or1 (it_cmp (or_neM hr.units) oi_ne (ie_BT call_list_of ci_list T.b_list (by decide +kernel) (ia_cons (ie_var 5) ia_nil)) (ie_BT call_list_of ci_list T.b_list (by decide +kernel) (ia_cons (ie_var 6) ia_nil)) (nomark _)))))
    (iss_one (is_ret ie_bl))
    iss_nil)
    (iss_cons (is_set (i := 5) sc_law_equal.nd (ie_lc [("_law_key", 7)] rfl rfl sc_law_equal.nd (ii_seq (ie_var 6)) (blkOk_by (own := [("_law_key", 7)]) (N := N_law_equal) (sc := defScope st_law_equal) (by decide +kernel)) (by decide) (fun _ _ _ _ _ => (ig_name 7 sc_law_equal.nd)) (fun _ _ _ _ _ => its_nil) (fun _ _ _ _ _ => (ie_ix (ie_var 5) (ie_var 7)))))
    (iss_one (is_set (i := 6) sc_law_equal.nd (ie_lc [("_law_key", 7)] rfl rfl sc_law_equal.nd (ii_seq (ie_var 6)) (blkOk_by (own := [("_law_key", 7)]) (N := N_law_equal) (sc := defScope st_law_equal) (by decide +kernel)) (by decide) (fun _ _ _ _ _ => (ig_name 7 sc_law_equal.nd)) (fun _ _ _ _ _ => its_nil) (fun _ _ _ _ _ => (ie_ix (ie_var 6) (ie_var 7))))))))
    iss_nil)
    (iss_cons (is_if (it_cmp (or_neM hr.units) oi_ne (ie_B call_len ci_len T.b_len (by decide +kernel) (ia_cons (ie_var 5) ia_nil)) (ie_B call_len ci_len T.b_len (by decide +kernel) (ia_cons (ie_var 6) ia_nil)) (nomark _))
    (iss_one (is_ret ie_bl))
    iss_nil)
    (iss_one (is_for (L2.passes_of rfl) rfl (ii_range1 T.b_range (ie_B call_len ci_len T.b_len (by decide +kernel) (ia_cons (ie_var 6) ia_nil))) (ig_name 8 sc_law_equal.nd)
    (iss_one (is_expr (ie_mt PySem.F.plainAttrs_list PySem.F.slot_list_append PySem.F.type_list_append mt_append chk_list mi_append (ie_var 2) (ia_cons (ie_tup (ia_cons (ie_ix (ie_var 5) (ie_var 8)) (ia_cons (ie_ix (ie_var 6) (ie_var 8)) ia_nil))) ia_nil))))))))))))))))))))
    (iss_one (is_ret ie_bl)))))
  exact h
theorem ok_law_equal (T : Tx P K mg) : ∃ fd, FI P w K mg base 2 (He.fAd K ("_law_equal", none)) fd ps_law_equal f_law_equal ∧ PySem.W.keepIn K (.ref (He.fAd K ("_law_equal", none))) = true ∧ (∃ ds, Vals (([] : List V).drop 0 : List V) ds ∧ Binds K fd ps_law_equal ds) := by
  obtain ⟨fd, F⟩ := T.d_law_equal
  exact ⟨fd, fi_law_equal T F, F.kp, ⟨[], .nil, F.bindsN fun _ _ _ _ _ _ us hl => match us, hl with | [_, _], _ => rfl⟩⟩
theorem fi_law_number (T : Tx P K mg) {fd : FuncData} (F : FunD K "_law_number" "_law_number" (defArgs st_law_number) (defBody st_law_number) (defScope st_law_number) ([] : List V) ([] : List (Str × V)) (He.fAd K ("_law_number", none)) fd) : FI P w K mg base 2 (He.fAd K ("_law_number", none)) fd ps_law_number f_law_number := by
  obtain ⟨fd_law_rules, F_law_rules, k_law_rules, ⟨ds_law_rules_0, v_law_rules_0, b_law_rules_0⟩⟩ := ok_law_rules (P := P) (w := w) (base := base) T
  have w_law_rules_0 : GVals K (([] : List V).drop 0 : List V) [] := trivial
  have h := fi_of (P := P) (w := w) (mg := mg) (base := base) F sc_law_number (m := m_law_number) (k := 1) (fun cdv A outer s H E hr => by
    exact (iss_cons (is_set (i := 1) sc_law_number.nd ie_int)
    (iss_cons (is_set (i := 2) sc_law_number.nd ie_int)
    (iss_cons (is_for (L2.passes_of rfl) rfl (ii_seq (ie_call0 (L2.takes_of rfl rfl rfl rfl) F_law_rules rfl (hr.mono (by decide)) T.g__law_rules k_law_rules b_law_rules_0 v_law_rules_0 w_law_rules_0)) (ig_name 3 sc_law_number.nd)
    (iss_cons (is_if (it_cmp op_in_seq oi_inS (ie_var 3) (ie_var 0) (by rfl))
    (iss_one (is_set (i := 1) sc_law_number.nd (ie_bin or_addM oi_add (ie_var 1) (ie_var 2))))
    iss_nil)
    (iss_one (is_set (i := 2) sc_law_number.nd (ie_bin or_mulM oi_mul ie_int (ie_var 2))))))
    (iss_one (is_ret (ie_var 1)))))))
  exact h
theorem ok_law_number (T : Tx P K mg) : ∃ fd, FI P w K mg base 2 (He.fAd K ("_law_number", none)) fd ps_law_number f_law_number ∧ PySem.W.keepIn K (.ref (He.fAd K ("_law_number", none))) = true ∧ (∃ ds, Vals (([] : List V).drop 0 : List V) ds ∧ Binds K fd ps_law_number ds) := by
  obtain ⟨fd, F⟩ := T.d_law_number
  exact ⟨fd, fi_law_number T F, F.kp, ⟨[], .nil, F.bindsN fun _ _ _ _ _ _ us hl => match us, hl with | [_], _ => rfl⟩⟩
theorem fi_Policy_has (T : Tx P K mg) {fd : FuncData} (F : FunD K "has" "Policy.has" (defArgs st_Policy_has) (defBody st_Policy_has) (defScope st_Policy_has) ([] : List V) ([] : List (Str × V)) (He.fAd K ("Policy", some "has")) fd) : FI P w K mg base 1 (He.fAd K ("Policy", some "has")) fd ps_Policy_has f_Policy_has := by
  have h := fi_of (P := P) (w := w) (mg := mg) (base := base) F sc_Policy_has (m := m_Policy_has) (k := 0) (fun cdv A outer s H E hr => by
    exact (iss_one (is_ret (ie_cmp op_in_seq oi_inS (ie_var 1) (ie_fld T.att (ie_var 0) (by decide +kernel)) (by rfl)))))
  exact h
theorem ok_Policy_has (T : Tx P K mg) : ∃ fd, FI P w K mg base 1 (He.fAd K ("Policy", some "has")) fd ps_Policy_has f_Policy_has ∧ PySem.W.keepIn K (.ref (He.fAd K ("Policy", some "has"))) = true ∧ (∃ ds, Vals (([] : List V).drop 0 : List V) ds ∧ Binds K fd ps_Policy_has ds) := by
  obtain ⟨fd, F⟩ := T.d_Policy_has
  exact ⟨fd, fi_Policy_has T F, F.kp, ⟨[], .nil, F.bindsN fun _ _ _ _ _ _ us hl => match us, hl with | [_, _], _ => rfl⟩⟩
theorem fi_policy_number (T : Tx P K mg) {fd : FuncData} (F : FunD K "policy_number" "policy_number" (defArgs st_policy_number) (defBody st_policy_number) (defScope st_policy_number) ([] : List V) ([] : List (Str × V)) (He.fAd K ("policy_number", none)) fd) : FI P w K mg base 2 (He.fAd K ("policy_number", none)) fd ps_policy_number f_policy_number := by
  obtain ⟨fd_Policy_has, F_Policy_has, k_Policy_has, ⟨ds_Policy_has_2, v_Policy_has_2, b_Policy_has_2⟩⟩ := ok_Policy_has (P := P) (w := w) (base := base) T
  have w_Policy_has_2 : GVals K (([] : List V).drop 0 : List V) [] := trivial
  have h := fi_of (P := P) (w := w) (mg := mg) (base := base) F sc_policy_number (m := m_policy_number) (k := 1) (fun cdv A outer s H E hr => by
    exact (iss_cons (is_set (i := 1) sc_policy_number.nd ie_int)
    (iss_cons (is_for (L2.passes_of rfl) rfl (ii_revT T.b_reversed (ie_con T.c_RULES)) (ig_name 2 sc_policy_number.nd)
    (iss_one (is_set (i := 1) sc_policy_number.nd (ie_bin or_addM oi_add (ie_bin or_mulM oi_mul ie_int (ie_var 1)) (ie_BT call_int1 ci_int T.b_int (by decide +kernel) (ia_cons (ie_meth (L2.takes_of rfl rfl rfl rfl) (ie_var 0) (congrArg (He.ga K) e_Policy.symm) T.cl_Policy T.me_Policy_has (by decide +kernel) F_Policy_has rfl (hr.mono (by decide)) b_Policy_has_2 v_Policy_has_2 w_Policy_has_2 (ia_cons (ie_var 2) ia_nil)) ia_nil))))))
    (iss_one (is_ret (ie_var 1))))))
  exact h
theorem ok_policy_number (T : Tx P K mg) : ∃ fd, FI P w K mg base 2 (He.fAd K ("policy_number", none)) fd ps_policy_number f_policy_number ∧ PySem.W.keepIn K (.ref (He.fAd K ("policy_number", none))) = true ∧ (∃ ds, Vals (([] : List V).drop 0 : List V) ds ∧ Binds K fd ps_policy_number ds) := by
  obtain ⟨fd, F⟩ := T.d_policy_number
  exact ⟨fd, fi_policy_number T F, F.kp, ⟨[], .nil, F.bindsN fun _ _ _ _ _ _ us hl => match us, hl with | [_], _ => rfl⟩⟩
theorem fi_policy_numbered (T : Tx P K mg) {fd : FuncData} (F : FunD K "policy_numbered" "policy_numbered" (defArgs st_policy_numbered) (defBody st_policy_numbered) (defScope st_policy_numbered) ([] : List V) ([] : List (Str × V)) (He.fAd K ("policy_numbered", none)) fd) : FI P w K mg base 5 (He.fAd K ("policy_numbered", none)) fd ps_policy_numbered f_policy_numbered := by
  obtain ⟨fd_xSettingError, X_SettingError, B_SettingError⟩ := okx_SettingError (P := P) (w := w) (base := base) T
  obtain ⟨fd_Policy_init, F_Policy_init, k_Policy_init, ⟨ds_Policy_init_2, v_Policy_init_2, b_Policy_init_2⟩⟩ := ok_Policy_init (P := P) (w := w) (base := base) T
  have w_Policy_init_2 : GVals K (([.ref (He.dflAt ("Policy", some "__init__") 0 K)] : List V).drop 1 : List V) [] := trivial
  have h := fi_of (P := P) (w := w) (mg := mg) (base := base) F sc_policy_numbered (m := m_policy_numbered) (k := 4) (fun cdv A outer s H E hr => by
    exact (iss_cons (is_if (it_not (it_chain op_le op_le oi_le oi_le ie_int (ie_var 0) (ie_con T.c_MOST_NUMBER)))
    (iss_one (is_raise1 rfl (L2.takes_of rfl rfl rfl rfl) T.xn_SettingError (congrArg (He.ga K) e_SettingError.symm) (by decide +kernel) X_SettingError (hr.mono (by decide)) B_SettingError T.g_SettingError (ie_str (by decide +kernel))))
    iss_nil)
    (iss_cons (is_set (i := 1) sc_policy_numbered.nd (ie_lst ia_nil))
    (iss_cons (is_for (L2.passes_of rfl) rfl (ii_seq (ie_con T.c_RULES)) (ig_name 2 sc_policy_numbered.nd)
    (iss_cons (is_if (it_cmp (or_eqM hr.units) oi_eq (ie_bin op_mod oi_mod (ie_var 0) ie_int) ie_int (nomark _))
    (iss_one (is_expr (ie_mt PySem.F.plainAttrs_list PySem.F.slot_list_append PySem.F.type_list_append mt_append chk_list mi_append (ie_var 1) (ia_cons (ie_var 2) ia_nil))))
    iss_nil)
    (iss_one (is_set (i := 0) sc_policy_numbered.nd (ie_bin op_fdiv oi_div (ie_var 0) ie_int)))))
    (iss_one (is_ret (ie_make (L2.takes_of rfl rfl rfl rfl) T.mk_Policy (congrArg (He.ga K) e_Policy.symm) F_Policy_init rfl (hr.mono (by decide)) T.g_Policy b_Policy_init_2 v_Policy_init_2 w_Policy_init_2 (ia_cons (ie_var 1) ia_nil))))))))
  exact h
theorem ok_policy_numbered (T : Tx P K mg) : ∃ fd, FI P w K mg base 5 (He.fAd K ("policy_numbered", none)) fd ps_policy_numbered f_policy_numbered ∧ PySem.W.keepIn K (.ref (He.fAd K ("policy_numbered", none))) = true ∧ (∃ ds, Vals (([] : List V).drop 0 : List V) ds ∧ Binds K fd ps_policy_numbered ds) := by
  obtain ⟨fd, F⟩ := T.d_policy_numbered
  exact ⟨fd, fi_policy_numbered T F, F.kp, ⟨[], .nil, F.bindsN fun _ _ _ _ _ _ us hl => match us, hl with | [_], _ => rfl⟩⟩
theorem fi_law_chosen (T : Tx P K mg) {fd : FuncData} (F : FunD K "_law_chosen" "_law_chosen" (defArgs st_law_chosen) (defBody st_law_chosen) (defScope st_law_chosen) ([] : List V) ([] : List (Str × V)) (He.fAd K ("_law_chosen", none)) fd) : FI P w K mg base 2 (He.fAd K ("_law_chosen", none)) fd ps_law_chosen f_law_chosen := by
  obtain ⟨fd_law_rules, F_law_rules, k_law_rules, ⟨ds_law_rules_0, v_law_rules_0, b_law_rules_0⟩⟩ := ok_law_rules (P := P) (w := w) (base := base) T
  have w_law_rules_0 : GVals K (([] : List V).drop 0 : List V) [] := trivial
  have h := fi_of (P := P) (w := w) (mg := mg) (base := base) F sc_law_chosen (m := m_law_chosen) (k := 1) (fun cdv A outer s H E hr => by
    exact (iss_cons (is_set (i := 1) sc_law_chosen.nd (ie_lst ia_nil))
    (iss_cons (is_set (i := 2) sc_law_chosen.nd (ie_var 0))
    (iss_cons (is_for (L2.passes_of rfl) rfl (ii_seq (ie_call0 (L2.takes_of rfl rfl rfl rfl) F_law_rules rfl (hr.mono (by decide)) T.g__law_rules k_law_rules b_law_rules_0 v_law_rules_0 w_law_rules_0)) (ig_name 3 sc_law_chosen.nd)
    (iss_cons (is_if (it_cmp (or_eqM hr.units) oi_eq (ie_bin op_mod oi_mod (ie_BT call_int1 ci_int T.b_int (by decide +kernel) (ia_cons (ie_var 2) ia_nil)) ie_int) ie_int (nomark _))
    (iss_one (is_expr (ie_mt PySem.F.plainAttrs_list PySem.F.slot_list_append PySem.F.type_list_append mt_append chk_list mi_append (ie_var 1) (ia_cons (ie_var 3) ia_nil))))
    iss_nil)
    (iss_one (is_set (i := 2) sc_law_chosen.nd (ie_bin op_fdiv oi_div (ie_var 2) ie_int)))))
    (iss_one (is_ret (ie_var 1)))))))
  exact h
theorem ok_law_chosen (T : Tx P K mg) : ∃ fd, FI P w K mg base 2 (He.fAd K ("_law_chosen", none)) fd ps_law_chosen f_law_chosen ∧ PySem.W.keepIn K (.ref (He.fAd K ("_law_chosen", none))) = true ∧ (∃ ds, Vals (([] : List V).drop 0 : List V) ds ∧ Binds K fd ps_law_chosen ds) := by
  obtain ⟨fd, F⟩ := T.d_law_chosen
  exact ⟨fd, fi_law_chosen T F, F.kp, ⟨[], .nil, F.bindsN fun _ _ _ _ _ _ us hl => match us, hl with | [_], _ => rfl⟩⟩
theorem fi_law_both (T : Tx P K mg) {fd : FuncData} (F : FunD K "_law_both" "_law_both" (defArgs st_law_both) (defBody st_law_both) (defScope st_law_both) ([] : List V) ([] : List (Str × V)) (He.fAd K ("_law_both", none)) fd) : FI P w K mg base 6 (He.fAd K ("_law_both", none)) fd ps_law_both f_law_both := by
  obtain ⟨fd_law_chosen, F_law_chosen, k_law_chosen, ⟨ds_law_chosen_1, v_law_chosen_1, b_law_chosen_1⟩⟩ := ok_law_chosen (P := P) (w := w) (base := base) T
  have w_law_chosen_1 : GVals K (([] : List V).drop 0 : List V) [] := trivial
  obtain ⟨fd_policy_numbered, F_policy_numbered, k_policy_numbered, ⟨ds_policy_numbered_1, v_policy_numbered_1, b_policy_numbered_1⟩⟩ := ok_policy_numbered (P := P) (w := w) (base := base) T
  have w_policy_numbered_1 : GVals K (([] : List V).drop 0 : List V) [] := trivial
  obtain ⟨fd_law_equal, F_law_equal, k_law_equal, ⟨ds_law_equal_2, v_law_equal_2, b_law_equal_2⟩⟩ := ok_law_equal (P := P) (w := w) (base := base) T
  have w_law_equal_2 : GVals K (([] : List V).drop 0 : List V) [] := trivial
  obtain ⟨fd_law_number, F_law_number, k_law_number, ⟨ds_law_number_1, v_law_number_1, b_law_number_1⟩⟩ := ok_law_number (P := P) (w := w) (base := base) T
  have w_law_number_1 : GVals K (([] : List V).drop 0 : List V) [] := trivial
  obtain ⟨fd_policy_number, F_policy_number, k_policy_number, ⟨ds_policy_number_1, v_policy_number_1, b_policy_number_1⟩⟩ := ok_policy_number (P := P) (w := w) (base := base) T
  have w_policy_number_1 : GVals K (([] : List V).drop 0 : List V) [] := trivial
  obtain ⟨fd_Policy_init, F_Policy_init, k_Policy_init, ⟨ds_Policy_init_2, v_Policy_init_2, b_Policy_init_2⟩⟩ := ok_Policy_init (P := P) (w := w) (base := base) T
  have w_Policy_init_2 : GVals K (([.ref (He.dflAt ("Policy", some "__init__") 0 K)] : List V).drop 1 : List V) [] := trivial
  have h := fi_of (P := P) (w := w) (mg := mg) (base := base) F sc_law_both (m := m_law_both) (k := 5) (fun cdv A outer s H E hr => by
    exact (iss_cons (is_set (i := 1) sc_law_both.nd (ie_call (L2.takes_of rfl rfl rfl rfl) F_law_chosen rfl (hr.mono (by decide)) T.g__law_chosen k_law_chosen b_law_chosen_1 v_law_chosen_1 w_law_chosen_1 (ia_cons (ie_var 0) ia_nil)))
    (iss_cons (is_set (i := 2) sc_law_both.nd (ie_call (L2.takes_of rfl rfl rfl rfl) F_policy_numbered rfl (hr.mono (by decide)) T.g_policy_numbered k_policy_numbered b_policy_numbered_1 v_policy_numbered_1 w_policy_numbered_1 (ia_cons (ie_var 0) ia_nil)))
    (iss_cons (is_if (it_w (iw_or (it_not (it_val (ie_call (L2.takes_of rfl rfl rfl rfl) F_law_equal rfl (hr.mono (by decide)) T.g__law_equal k_law_equal b_law_equal_2 v_law_equal_2 w_law_equal_2 (ia_cons (ie_fld T.att (ie_var 2) (by decide +kernel)) (ia_cons (ie_BT call_tuple_of ci_tuple T.b_tuple (by decide +kernel) (ia_cons (ie_var 1) ia_nil)) ia_nil))))) (iw_or1 (it_cmp (or_neM hr.units) oi_ne (ie_call (L2.takes_of rfl rfl rfl rfl) F_law_number rfl (hr.mono (by decide)) T.g__law_number k_law_number b_law_number_1 v_law_number_1 w_law_number_1 (ia_cons (ie_var 1) ia_nil)) (ie_var 0) (nomark _)))))
    (iss_one (is_ret ie_bl))
    iss_nil)
    (iss_one (is_ret (ie_and (ie_call (L2.takes_of rfl rfl rfl rfl) F_law_equal rfl (hr.mono (by decide)) T.g__law_equal k_law_equal b_law_equal_2 v_law_equal_2 w_law_equal_2 (ia_cons (ie_call (L2.takes_of rfl rfl rfl rfl) F_policy_number rfl (hr.mono (by decide)) T.g_policy_number k_policy_number b_policy_number_1 v_policy_number_1 w_policy_number_1 (ia_cons (ie_var 2) ia_nil)) (ia_cons (ie_var 0) ia_nil))) (ie_one (ie_call (L2.takes_of rfl rfl rfl rfl) F_law_equal rfl (hr.mono (by decide)) T.g__law_equal k_law_equal b_law_equal_2 v_law_equal_2 w_law_equal_2 (ia_cons (ie_call (L2.takes_of rfl rfl rfl rfl) F_policy_number rfl (hr.mono (by decide)) T.g_policy_number k_policy_number b_policy_number_1 v_policy_number_1 w_policy_number_1 (ia_cons (ie_make (L2.takes_of rfl rfl rfl rfl) T.mk_Policy (congrArg (He.ga K) e_Policy.symm) F_Policy_init rfl (hr.mono (by decide)) T.g_Policy b_Policy_init_2 v_Policy_init_2 w_Policy_init_2 (ia_cons (ie_var 1) ia_nil)) ia_nil)) (ia_cons (ie_var 0) ia_nil)))))))))))
  exact h
theorem ok_law_both (T : Tx P K mg) : ∃ fd, FI P w K mg base 6 (He.fAd K ("_law_both", none)) fd ps_law_both f_law_both ∧ PySem.W.keepIn K (.ref (He.fAd K ("_law_both", none))) = true ∧ (∃ ds, Vals (([] : List V).drop 0 : List V) ds ∧ Binds K fd ps_law_both ds) := by
  obtain ⟨fd, F⟩ := T.d_law_both
  exact ⟨fd, fi_law_both T F, F.kp, ⟨[], .nil, F.bindsN fun _ _ _ _ _ _ us hl => match us, hl with | [_], _ => rfl⟩⟩
theorem fi_law_refused_number (T : Tx P K mg) {fd : FuncData} (F : FunD K "_law_refused_number" "_law_refused_number" (defArgs st_law_refused_number) (defBody st_law_refused_number) (defScope st_law_refused_number) ([] : List V) ([] : List (Str × V)) (He.fAd K ("_law_refused_number", none)) fd) : FI P w K mg base 6 (He.fAd K ("_law_refused_number", none)) fd ps_law_refused_number f_law_refused_number := by
  obtain ⟨fd_policy_numbered, F_policy_numbered, k_policy_numbered, ⟨ds_policy_numbered_1, v_policy_numbered_1, b_policy_numbered_1⟩⟩ := ok_policy_numbered (P := P) (w := w) (base := base) T
  have w_policy_numbered_1 : GVals K (([] : List V).drop 0 : List V) [] := trivial
  have h := fi_of (P := P) (w := w) (mg := mg) (base := base) F sc_law_refused_number (m := m_law_refused_number) (k := 5) (fun cdv A outer s H E hr => by
    exact (iss_cons (is_try rfl rfl sc_law_refused_number.nd (L2.takes_of rfl rfl rfl rfl) (fun W pn xe tk0 ps0 => (iss_one (is_expr (ie_call tk0 F_policy_numbered rfl (hr.mono (by decide)) T.g_policy_numbered k_policy_numbered b_policy_numbered_1 v_policy_numbered_1 w_policy_numbered_1 (ia_cons (ie_var 0) ia_nil))))) (.as ⟨rfl, by decide, .inl T.g_SettingError⟩ T.exm_SettingError rfl rfl (fun a d C o pn hz hf hC => (iss_cons (is_set (i := 2) sc_law_refused_number.nd (ie_xisT (T.cau C (mem_keys hC)).exc hz hf T.b_isinstance (ie_var 1) (.cons ⟨rfl, by decide, .own _, .inl T.g_TextError⟩ (.cons ⟨rfl, by decide, .own _, .inl T.g_InstructionError⟩ (.cons ⟨rfl, by decide, .own _, .inl T.g_GuestError⟩ (.cons ⟨rfl, by decide, .own _, .inl T.g_PolicyError⟩ (.cons ⟨rfl, by decide, .own _, .inl T.g_ActionError⟩ (.cons ⟨rfl, by decide, .own _, .inl T.g_DebuggerError⟩ .nil)))))) (Nat.le_of_ble_eq_true rfl) T.kit_0))
    (iss_one (is_ret (ie_and (ie_cmp (or_eqM hr.units) oi_eq (ie_xf (by decide +kernel) (T.cau C (mem_keys hC)).xf ((T.cau C (mem_keys hC)).na _ (by decide)) hz hf (ie_var 1)) (ie_str (by decide +kernel)) (nomark _)) (ie_and (ie_xis (T.cau C (mem_keys hC)).exc hz hf T.b_isinstance (ie_var 1) ⟨rfl, by decide, .own _, .inl T.g_GuestlivesError⟩ T.kit_1) (ie_and (ie_xis (T.cau C (mem_keys hC)).exc hz hf T.b_isinstance (ie_var 1) ⟨rfl, by decide, .ty _, .inr ⟨T.b_ValueError, PyProof.Rows.Boot.«ValueError», by decide⟩⟩ T.kit_2) (ie_one (ie_not (ie_var 2)))))))))) .nil))
    (iss_one (is_ret ie_bl))))
  exact h
theorem ok_law_refused_number (T : Tx P K mg) : ∃ fd, FI P w K mg base 6 (He.fAd K ("_law_refused_number", none)) fd ps_law_refused_number f_law_refused_number ∧ PySem.W.keepIn K (.ref (He.fAd K ("_law_refused_number", none))) = true ∧ (∃ ds, Vals (([] : List V).drop 0 : List V) ds ∧ Binds K fd ps_law_refused_number ds) := by
  obtain ⟨fd, F⟩ := T.d_law_refused_number
  exact ⟨fd, fi_law_refused_number T F, F.kp, ⟨[], .nil, F.bindsN fun _ _ _ _ _ _ us hl => match us, hl with | [_], _ => rfl⟩⟩
theorem gtd_describe (T : Tx P K mg) : ∀ p ∈ gtb_describe, GTup K mg p.1 p.2 := List.forall_mem_cons.mpr ⟨T.gt_CODE_RULES, List.forall_mem_cons.mpr ⟨T.gt_VALUE_RULES, List.forall_mem_cons.mpr ⟨T.gt_POLL_RULES, fun _ h => (by cases h)⟩⟩⟩
theorem fi_describe (T : Tx P K mg) {fd : FuncData} (F : FunD K "describe" "describe" (defArgs st_describe) (defBody st_describe) (defScope st_describe) ([] : List V) ([] : List (Str × V)) (He.fAd K ("describe", none)) fd) : FI P w K mg base 3 (He.fAd K ("describe", none)) fd ps_describe f_describe := by
  obtain ⟨fd_xPolicyError, X_PolicyError, B_PolicyError⟩ := okx_PolicyError (P := P) (w := w) (base := base) T
  have h := fi_of (P := P) (w := w) (mg := mg) (base := base) F sc_describe (m := m_describe) (k := 2) (fun cdv A outer s H E hr => by
    exact (iss_cons (is_for1 (L2.passes_of rfl) rfl (ii1_seq (ie1_tup (ia1_cons (ie1_tup (ia1_cons (ie1_str (by decide +kernel)) (ia_cons (ie_gtup T.gt_CODE_RULES (by decide +kernel)) ia_nil))) (ia_cons (ie_tup (ia_cons (ie_str (by decide +kernel)) (ia_cons (ie_gtup T.gt_VALUE_RULES (by decide +kernel)) ia_nil))) (ia_cons (ie_tup (ia_cons (ie_str (by decide +kernel)) (ia_cons (ie_gtup T.gt_POLL_RULES (by decide +kernel)) ia_nil))) ia_nil))))) (ig_tup rfl (igs_cons (ig_name 1 sc_describe.nd) (igs_cons (ig_name 2 sc_describe.nd) igs_nil)))
    (issT_one (isT_if (it_cmp op_in_seq oi_inS (ie_var 0) (ie_tupG (gtd_describe T) (ie_var 2)) (by rfl))
    (issT_cons (isT_set (i := 3) sc_describe.nd (ieT_repl (ie_var 0) (by decide +kernel) (by decide +kernel)))
    (issT_of (iss_one (is_ret (ie_fs (.cons (ie_fmt (ie_var 1)) (.cons (ie_str (by decide +kernel)) (.cons (ie_fmt (ie_bin or_addM oi_add (ie_mt PySem.F.plainAttrs_tuple PySem.F.slot_tuple_index PySem.F.type_tuple_index mt_tup_index (chk_gl (gtd_describe T)) (mi_gidx (gtd_describe T)) (ie_var 2) (ia_cons (ie_var 0) ia_nil)) ie_int)) (.cons (ie_str (by decide +kernel)) (.cons (ie_fmt (ie_B call_len ci_len T.b_len (by decide +kernel) (ia_cons (ie_tupG (gtd_describe T) (ie_var 2)) ia_nil))) (.cons (ie_str (by decide +kernel)) (.cons (ie_fmt (ie_var 3)) (.cons (ie_str (by decide +kernel)) .nil)))))))))))))
    (issT_of iss_nil))))
    (iss_one (is_raise1 rfl (L2.takes_of rfl rfl rfl rfl) T.xn_PolicyError (congrArg (He.ga K) e_PolicyError.symm) (by decide +kernel) X_PolicyError (hr.mono (by decide)) B_PolicyError T.g_PolicyError (ie_var 0)))))
  exact h
theorem ok_describe (T : Tx P K mg) : ∃ fd, FI P w K mg base 3 (He.fAd K ("describe", none)) fd ps_describe f_describe ∧ PySem.W.keepIn K (.ref (He.fAd K ("describe", none))) = true ∧ (∃ ds, Vals (([] : List V).drop 0 : List V) ds ∧ Binds K fd ps_describe ds) := by
  obtain ⟨fd, F⟩ := T.d_describe
  exact ⟨fd, fi_describe T F, F.kp, ⟨[], .nil, F.bindsN fun _ _ _ _ _ _ us hl => match us, hl with | [_], _ => rfl⟩⟩
theorem fi_law_refused_name (T : Tx P K mg) {fd : FuncData} (F : FunD K "_law_refused_name" "_law_refused_name" (defArgs st_law_refused_name) (defBody st_law_refused_name) (defScope st_law_refused_name) ([] : List V) ([] : List (Str × V)) (He.fAd K ("_law_refused_name", none)) fd) : FI P w K mg base 4 (He.fAd K ("_law_refused_name", none)) fd ps_law_refused_name f_law_refused_name := by
  obtain ⟨fd_describe, F_describe, k_describe, ⟨ds_describe_1, v_describe_1, b_describe_1⟩⟩ := ok_describe (P := P) (w := w) (base := base) T
  have w_describe_1 : GVals K (([] : List V).drop 0 : List V) [] := trivial
  have h := fi_of (P := P) (w := w) (mg := mg) (base := base) F sc_law_refused_name (m := m_law_refused_name) (k := 3) (fun cdv A outer s H E hr => by
    exact (iss_cons (is_try rfl rfl sc_law_refused_name.nd (L2.takes_of rfl rfl rfl rfl) (fun W pn xe tk0 ps0 => (iss_one (is_expr (ie_call tk0 F_describe rfl (hr.mono (by decide)) T.g_describe k_describe b_describe_1 v_describe_1 w_describe_1 (ia_cons (ie_var 0) ia_nil))))) (.as ⟨rfl, by decide, .inl T.g_PolicyError⟩ T.exm_PolicyError rfl rfl (fun a d C o pn hz hf hC => (iss_cons (is_set (i := 2) sc_law_refused_name.nd (ie_xisT (T.cau C (mem_keys hC)).exc hz hf T.b_isinstance (ie_var 1) (.cons ⟨rfl, by decide, .own _, .inl T.g_TextError⟩ (.cons ⟨rfl, by decide, .own _, .inl T.g_InstructionError⟩ (.cons ⟨rfl, by decide, .own _, .inl T.g_GuestError⟩ (.cons ⟨rfl, by decide, .own _, .inl T.g_ActionError⟩ (.cons ⟨rfl, by decide, .own _, .inl T.g_SettingError⟩ (.cons ⟨rfl, by decide, .own _, .inl T.g_DebuggerError⟩ .nil)))))) (Nat.le_of_ble_eq_true rfl) T.kit_3))
    (iss_one (is_ret (ie_and (ie_cmp (or_eqM hr.units) oi_eq (ie_xf (by decide +kernel) (T.cau C (mem_keys hC)).xf ((T.cau C (mem_keys hC)).na _ (by decide)) hz hf (ie_var 1)) (ie_var 0) (nomark _)) (ie_and (ie_xis (T.cau C (mem_keys hC)).exc hz hf T.b_isinstance (ie_var 1) ⟨rfl, by decide, .own _, .inl T.g_GuestlivesError⟩ T.kit_1) (ie_and (ie_xis (T.cau C (mem_keys hC)).exc hz hf T.b_isinstance (ie_var 1) ⟨rfl, by decide, .ty _, .inr ⟨T.b_ValueError, PyProof.Rows.Boot.«ValueError», by decide⟩⟩ T.kit_2) (ie_one (ie_not (ie_var 2)))))))))) .nil))
    (iss_one (is_ret ie_bl))))
  exact h
theorem ok_law_refused_name (T : Tx P K mg) : ∃ fd, FI P w K mg base 4 (He.fAd K ("_law_refused_name", none)) fd ps_law_refused_name f_law_refused_name ∧ PySem.W.keepIn K (.ref (He.fAd K ("_law_refused_name", none))) = true ∧ (∃ ds, Vals (([] : List V).drop 0 : List V) ds ∧ Binds K fd ps_law_refused_name ds) := by
  obtain ⟨fd, F⟩ := T.d_law_refused_name
  exact ⟨fd, fi_law_refused_name T F, F.kp, ⟨[], .nil, F.bindsN fun _ _ _ _ _ _ us hl => match us, hl with | [_], _ => rfl⟩⟩
theorem fi_law_sentences (T : Tx P K mg) {fd : FuncData} (F : FunD K "_law_sentences" "_law_sentences" (defArgs st_law_sentences) (defBody st_law_sentences) (defScope st_law_sentences) ([] : List V) ([] : List (Str × V)) (He.fAd K ("_law_sentences", none)) fd) : FI P w K mg base 5 (He.fAd K ("_law_sentences", none)) fd ps_law_sentences f_law_sentences := by
  obtain ⟨fd_law_rules, F_law_rules, k_law_rules, ⟨ds_law_rules_0, v_law_rules_0, b_law_rules_0⟩⟩ := ok_law_rules (P := P) (w := w) (base := base) T
  have w_law_rules_0 : GVals K (([] : List V).drop 0 : List V) [] := trivial
  obtain ⟨fd_law_equal, F_law_equal, k_law_equal, ⟨ds_law_equal_2, v_law_equal_2, b_law_equal_2⟩⟩ := ok_law_equal (P := P) (w := w) (base := base) T
  have w_law_equal_2 : GVals K (([] : List V).drop 0 : List V) [] := trivial
  obtain ⟨fd_describe, F_describe, k_describe, ⟨ds_describe_1, v_describe_1, b_describe_1⟩⟩ := ok_describe (P := P) (w := w) (base := base) T
  have w_describe_1 : GVals K (([] : List V).drop 0 : List V) [] := trivial
  obtain ⟨fd_law_refused_name, F_law_refused_name, k_law_refused_name, ⟨ds_law_refused_name_1, v_law_refused_name_1, b_law_refused_name_1⟩⟩ := ok_law_refused_name (P := P) (w := w) (base := base) T
  have w_law_refused_name_1 : GVals K (([] : List V).drop 0 : List V) [] := trivial
  have h := fi_of (P := P) (w := w) (mg := mg) (base := base) F sc_law_sentences (m := m_law_sentences) (k := 4) (fun cdv A outer s H E hr => by
    exact (iss_cons (is_set (i := 0) sc_law_sentences.nd (ie_call0 (L2.takes_of rfl rfl rfl rfl) F_law_rules rfl (hr.mono (by decide)) T.g__law_rules k_law_rules b_law_rules_0 v_law_rules_0 w_law_rules_0))
    (iss_cons (is_for (L2.passes_of rfl) rfl (ii_range1 T.b_range ie_int) (ig_name 1 sc_law_sentences.nd)
    (iss_cons (is_set (i := 2) sc_law_sentences.nd (ie_str (by decide +kernel)))
    (iss_cons (is_set (i := 3) sc_law_sentences.nd (ie_bin or_addM oi_add (ie_var 1) ie_int))
    (iss_cons (is_set (i := 4) sc_law_sentences.nd ie_int)
    (iss_cons (is_if (it_chain op_le op_lt oi_le oi_lt ie_int (ie_var 1) ie_int)
    (iss_cons (is_set (i := 2) sc_law_sentences.nd (ie_str (by decide +kernel)))
    (iss_cons (is_set (i := 3) sc_law_sentences.nd (ie_bin op_sub oi_sub (ie_var 1) ie_int))
    (iss_one (is_set (i := 4) sc_law_sentences.nd ie_int))))
    (iss_one (is_if (it_cmp op_ge oi_ge (ie_var 1) ie_int (nomark _))
    (iss_cons (is_set (i := 2) sc_law_sentences.nd (ie_str (by decide +kernel)))
    (iss_cons (is_set (i := 3) sc_law_sentences.nd (ie_bin op_sub oi_sub (ie_var 1) ie_int))
    (iss_one (is_set (i := 4) sc_law_sentences.nd ie_int))))
    iss_nil)))
    (iss_cons (is_set (i := 5) sc_law_sentences.nd (ie_mt PySem.F.plainAttrs_str PySem.F.slot_str_join PySem.F.type_str_join mt_join chk_str mi_join (ie_str (by decide +kernel)) (ia_cons (ie_mt PySem.F.plainAttrs_str PySem.F.slot_str_split PySem.F.type_str_split mt_split chk_str mi_split (ie_ix (ie_var 0) (ie_var 1)) (ia_cons (ie_str (by decide +kernel)) ia_nil)) ia_nil)))
    (iss_cons (is_if (it_not (it_val (ie_call (L2.takes_of rfl rfl rfl rfl) F_law_equal rfl (hr.mono (by decide)) T.g__law_equal k_law_equal b_law_equal_2 v_law_equal_2 w_law_equal_2 (ia_cons (ie_call (L2.takes_of rfl rfl rfl rfl) F_describe rfl (hr.mono (by decide)) T.g_describe k_describe b_describe_1 v_describe_1 w_describe_1 (ia_cons (ie_ix (ie_var 0) (ie_var 1)) ia_nil)) (ia_cons (ie_bin or_addM oi_add (ie_bin or_addM oi_add (ie_bin or_addM oi_add (ie_bin or_addM oi_add (ie_bin or_addM oi_add (ie_bin or_addM oi_add (ie_var 2) (ie_BT cr_str ci_str T.b_str (by decide +kernel) (ia_cons (ie_var 3) ia_nil))) (ie_str (by decide +kernel))) (ie_BT cr_str ci_str T.b_str (by decide +kernel) (ia_cons (ie_var 4) ia_nil))) (ie_str (by decide +kernel))) (ie_var 5)) (ie_str (by decide +kernel))) ia_nil)))))
    (iss_one (is_ret ie_bl))
    iss_nil)
    (iss_one (is_for (L2.passes_of rfl) rfl (ii_seq (ie_lst (ia_cons (ie_sl (ie_ix (ie_var 0) (ie_var 1)) (io_some ie_int) io_none) (ia_cons (ie_bin or_addM oi_add (ie_ix (ie_var 0) (ie_var 1)) (ie_str (by decide +kernel))) (ia_cons (ie_bin or_addM oi_add (ie_str (by decide +kernel)) (ie_ix (ie_var 0) (ie_var 1))) (ia_cons (ie_mt0 PySem.F.plainAttrs_str PySem.F.slot_str_upper PySem.F.type_str_upper mt_upper chk_str mi_upper (ie_ix (ie_var 0) (ie_var 1))) (ia_cons (ie_bin or_addM oi_add (ie_ix (ie_var 0) (ie_var 1)) (ie_str (by decide +kernel))) (ia_cons (ie_bin or_addM oi_add (ie_str (by decide +kernel)) (ie_var 5)) ia_nil)))))))) (ig_name 6 sc_law_sentences.nd)
    (iss_one (is_if (it_not (it_val (ie_call (L2.takes_of rfl rfl rfl rfl) F_law_refused_name rfl (hr.mono (by decide)) T.g__law_refused_name k_law_refused_name b_law_refused_name_1 v_law_refused_name_1 w_law_refused_name_1 (ia_cons (ie_var 6) ia_nil))))
    (iss_one (is_ret ie_bl))
    iss_nil)))))))))))
    (iss_one (is_ret (ie_and (ie_call (L2.takes_of rfl rfl rfl rfl) F_law_refused_name rfl (hr.mono (by decide)) T.g__law_refused_name k_law_refused_name b_law_refused_name_1 v_law_refused_name_1 w_law_refused_name_1 (ia_cons (ie_str (by decide +kernel)) ia_nil)) (ie_and (ie_call (L2.takes_of rfl rfl rfl rfl) F_law_refused_name rfl (hr.mono (by decide)) T.g__law_refused_name k_law_refused_name b_law_refused_name_1 v_law_refused_name_1 w_law_refused_name_1 (ia_cons (ie_str (by decide +kernel)) ia_nil)) (ie_one (ie_call (L2.takes_of rfl rfl rfl rfl) F_law_refused_name rfl (hr.mono (by decide)) T.g__law_refused_name k_law_refused_name b_law_refused_name_1 v_law_refused_name_1 w_law_refused_name_1 (ia_cons (ie_str (by decide +kernel)) ia_nil))))))))))
  exact h
theorem ok_law_sentences (T : Tx P K mg) : ∃ fd, FI P w K mg base 5 (He.fAd K ("_law_sentences", none)) fd ps_law_sentences f_law_sentences ∧ PySem.W.keepIn K (.ref (He.fAd K ("_law_sentences", none))) = true ∧ (∃ ds, Vals (([] : List V).drop 0 : List V) ds ∧ Binds K fd ps_law_sentences ds) := by
  obtain ⟨fd, F⟩ := T.d_law_sentences
  exact ⟨fd, fi_law_sentences T F, F.kp, ⟨[], .nil, F.bindsN fun _ _ _ _ _ _ us hl => match us, hl with | [], _ => rfl⟩⟩
theorem fi_law (T : Tx P K mg) {fd : FuncData} (F : FunD K "law" "law" (defArgs st_law) (defBody st_law) (defScope st_law) ([] : List V) ([] : List (Str × V)) (He.fAd K ("law", none)) fd) : FI P w K mg base 7 (He.fAd K ("law", none)) fd ps_law f_law := by
  obtain ⟨fd_law_row, F_law_row, k_law_row, ⟨ds_law_row_2, v_law_row_2, b_law_row_2⟩⟩ := ok_law_row (P := P) (w := w) (base := base) T
  have w_law_row_2 : GVals K (([] : List V).drop 0 : List V) [] := trivial
  obtain ⟨fd_law_rules, F_law_rules, k_law_rules, ⟨ds_law_rules_0, v_law_rules_0, b_law_rules_0⟩⟩ := ok_law_rules (P := P) (w := w) (base := base) T
  have w_law_rules_0 : GVals K (([] : List V).drop 0 : List V) [] := trivial
  obtain ⟨fd_law_digit, F_law_digit, k_law_digit, ⟨ds_law_digit_2, v_law_digit_2, b_law_digit_2⟩⟩ := ok_law_digit (P := P) (w := w) (base := base) T
  have w_law_digit_2 : GVals K (([] : List V).drop 0 : List V) [] := trivial
  obtain ⟨fd_Policy_init, F_Policy_init, k_Policy_init, ⟨ds_Policy_init_2, v_Policy_init_2, b_Policy_init_2⟩⟩ := ok_Policy_init (P := P) (w := w) (base := base) T
  have w_Policy_init_2 : GVals K (([.ref (He.dflAt ("Policy", some "__init__") 0 K)] : List V).drop 1 : List V) [] := trivial
  obtain ⟨fd_Policy_sub, F_Policy_sub, k_Policy_sub, ⟨ds_Policy_sub_2, v_Policy_sub_2, b_Policy_sub_2⟩⟩ := ok_Policy_sub (P := P) (w := w) (base := base) T
  have w_Policy_sub_2 : GVals K (([] : List V).drop 0 : List V) [] := trivial
  obtain ⟨fd_Policy_or, F_Policy_or, k_Policy_or, ⟨ds_Policy_or_2, v_Policy_or_2, b_Policy_or_2⟩⟩ := ok_Policy_or (P := P) (w := w) (base := base) T
  have w_Policy_or_2 : GVals K (([] : List V).drop 0 : List V) [] := trivial
  obtain ⟨fd_law_equal, F_law_equal, k_law_equal, ⟨ds_law_equal_2, v_law_equal_2, b_law_equal_2⟩⟩ := ok_law_equal (P := P) (w := w) (base := base) T
  have w_law_equal_2 : GVals K (([] : List V).drop 0 : List V) [] := trivial
  obtain ⟨fd_law_number, F_law_number, k_law_number, ⟨ds_law_number_1, v_law_number_1, b_law_number_1⟩⟩ := ok_law_number (P := P) (w := w) (base := base) T
  have w_law_number_1 : GVals K (([] : List V).drop 0 : List V) [] := trivial
  obtain ⟨fd_policy_number, F_policy_number, k_policy_number, ⟨ds_policy_number_1, v_policy_number_1, b_policy_number_1⟩⟩ := ok_policy_number (P := P) (w := w) (base := base) T
  have w_policy_number_1 : GVals K (([] : List V).drop 0 : List V) [] := trivial
  obtain ⟨fd_policy_numbered, F_policy_numbered, k_policy_numbered, ⟨ds_policy_numbered_1, v_policy_numbered_1, b_policy_numbered_1⟩⟩ := ok_policy_numbered (P := P) (w := w) (base := base) T
  have w_policy_numbered_1 : GVals K (([] : List V).drop 0 : List V) [] := trivial
  obtain ⟨fd_law_both, F_law_both, k_law_both, ⟨ds_law_both_1, v_law_both_1, b_law_both_1⟩⟩ := ok_law_both (P := P) (w := w) (base := base) T
  have w_law_both_1 : GVals K (([] : List V).drop 0 : List V) [] := trivial
  obtain ⟨fd_law_refused_number, F_law_refused_number, k_law_refused_number, ⟨ds_law_refused_number_1, v_law_refused_number_1, b_law_refused_number_1⟩⟩ := ok_law_refused_number (P := P) (w := w) (base := base) T
  have w_law_refused_number_1 : GVals K (([] : List V).drop 0 : List V) [] := trivial
  obtain ⟨fd_law_sentences, F_law_sentences, k_law_sentences, ⟨ds_law_sentences_0, v_law_sentences_0, b_law_sentences_0⟩⟩ := ok_law_sentences (P := P) (w := w) (base := base) T
  have w_law_sentences_0 : GVals K (([] : List V).drop 0 : List V) [] := trivial
  have h := fi_of (P := P) (w := w) (mg := mg) (base := base) F sc_law (m := m_law) (k := 6) (fun cdv A outer s H E hr => by
    exact (iss_cons (is_set (i := 1) sc_law.nd (ie_call (L2.takes_of rfl rfl rfl rfl) F_law_row rfl (hr.mono (by decide)) T.g__law_row k_law_row b_law_row_2 v_law_row_2 w_law_row_2 (ia_cons (ie_var 0) (ia_cons ie_int ia_nil))))
    (iss_cons (is_set (i := 2) sc_law.nd (ie_call0 (L2.takes_of rfl rfl rfl rfl) F_law_rules rfl (hr.mono (by decide)) T.g__law_rules k_law_rules b_law_rules_0 v_law_rules_0 w_law_rules_0))
    (iss_cons (is_set (i := 3) sc_law.nd (ie_lc [("_law_k", 4)] rfl rfl sc_law.nd (ii_range1 T.b_range ie_int) (blkOk_by (own := [("_law_k", 4)]) (N := N_law) (sc := defScope st_law) (by decide +kernel)) (by decide) (fun _ _ _ _ _ => (ig_name 4 sc_law.nd)) (fun _ _ _ _ _ => (its_one (it_cmp (or_eqM hr.units) oi_eq (ie_bin op_mod oi_mod (ie_BT call_int1 ci_int T.b_int (by decide +kernel) (ia_cons (ie_bin or_addM oi_add (ie_call L2.takes0 F_law_digit rfl (hr.mono (by decide)) T.g__law_digit k_law_digit b_law_digit_2 v_law_digit_2 w_law_digit_2 (ia_cons (ie_var 1) (ia_cons (ie_var 4) ia_nil))) (ie_bin op_fdiv oi_div (ie_var 4) ie_int)) ia_nil)) ie_int) ie_int (nomark _)))) (fun _ _ _ _ _ => (ie_ix (ie_var 2) (ie_var 4)))))
    (iss_cons (is_set (i := 5) sc_law.nd (ie_lc [("_law_k", 4)] rfl rfl sc_law.nd (ii_range1 T.b_range ie_int) (blkOk_by (own := [("_law_k", 4)]) (N := N_law) (sc := defScope st_law) (by decide +kernel)) (by decide) (fun _ _ _ _ _ => (ig_name 4 sc_law.nd)) (fun _ _ _ _ _ => (its_one (it_cmp (or_eqM hr.units) oi_eq (ie_bin op_mod oi_mod (ie_BT call_int1 ci_int T.b_int (by decide +kernel) (ia_cons (ie_bin or_addM oi_add (ie_call L2.takes0 F_law_digit rfl (hr.mono (by decide)) T.g__law_digit k_law_digit b_law_digit_2 v_law_digit_2 w_law_digit_2 (ia_cons (ie_var 1) (ia_cons (ie_bin or_addM oi_add ie_int (ie_var 4)) ia_nil))) (ie_var 4)) ia_nil)) ie_int) ie_int (nomark _)))) (fun _ _ _ _ _ => (ie_ix (ie_var 2) (ie_var 4)))))
    (iss_cons (is_set (i := 6) sc_law.nd ie_int)
    (iss_cons (is_for (L2.passes_of rfl) rfl (ii_range1 T.b_range ie_int) (ig_name 4 sc_law.nd)
    (iss_one (is_set (i := 6) sc_law.nd (ie_bin or_addM oi_add (ie_bin or_mulM oi_mul ie_int (ie_var 6)) (ie_call (L2.takes_of rfl rfl rfl rfl) F_law_digit rfl (hr.mono (by decide)) T.g__law_digit k_law_digit b_law_digit_2 v_law_digit_2 w_law_digit_2 (ia_cons (ie_var 1) (ia_cons (ie_bin or_addM oi_add ie_int (ie_var 4)) ia_nil)))))))
    (iss_cons (is_set (i := 6) sc_law.nd (ie_bin op_mod oi_mod (ie_BT call_int1 ci_int T.b_int (by decide +kernel) (ia_cons (ie_bin or_addM oi_add (ie_var 6) ie_int) ia_nil)) ie_int))
    (iss_cons (is_set (i := 7) sc_law.nd (ie_make (L2.takes_of rfl rfl rfl rfl) T.mk_Policy (congrArg (He.ga K) e_Policy.symm) F_Policy_init rfl (hr.mono (by decide)) T.g_Policy b_Policy_init_2 v_Policy_init_2 w_Policy_init_2 (ia_cons (ie_var 3) ia_nil)))
    (iss_cons (is_set (i := 8) sc_law.nd (ie_make (L2.takes_of rfl rfl rfl rfl) T.mk_Policy (congrArg (He.ga K) e_Policy.symm) F_Policy_init rfl (hr.mono (by decide)) T.g_Policy b_Policy_init_2 v_Policy_init_2 w_Policy_init_2 (ia_cons (ie_var 5) ia_nil)))
    (iss_cons (is_setLc [("_law_name", 10)] rfl (i := 9) rfl sc_law.nd rfl rfl (sw_true rfl rfl rfl (by decide +kernel)) (ii_seq (ie_var 2)) (blkOk_by (own := [("_law_name", 10)]) (N := N_law) (sc := defScope st_law) (by decide +kernel)) (by decide) (fun _ _ _ _ _ => (ig_name 10 sc_law.nd)) (fun _ _ _ _ _ => (its_one (it_w (iw_or (it_cmp op_in_seq oi_inS (ie_var 10) (ie_var 3) (by rfl)) (iw_or1 (it_cmp op_in_seq oi_inS (ie_var 10) (ie_var 5) (by rfl))))))) (fun _ _ _ _ _ => (ie_var 10)))
    (iss_cons (is_setLc [("_law_name", 10)] rfl (i := 11) rfl sc_law.nd rfl rfl (sw_true rfl rfl rfl (by decide +kernel)) (ii_seq (ie_var 3)) (blkOk_by (own := [("_law_name", 10)]) (N := N_law) (sc := defScope st_law) (by decide +kernel)) (by decide) (fun _ _ _ _ _ => (ig_name 10 sc_law.nd)) (fun _ _ _ _ _ => (its_one (it_cmp op_notIn_seq oi_inS (ie_var 10) (ie_var 5) (by rfl)))) (fun _ _ _ _ _ => (ie_var 10)))
    (iss_cons (is_for (L2.passes_of rfl) rfl (ii_seq (ie_lst (ia_cons (ie_tup (ia_cons (ie_var 7) (ia_cons (ie_var 3) ia_nil))) (ia_cons (ie_tup (ia_cons (ie_var 8) (ia_cons (ie_var 5) ia_nil))) (ia_cons (ie_tup (ia_cons (ie_bin (op_own F_Policy_or (hr.mono (by decide)) b_Policy_or_2 v_Policy_or_2 T.sf_Policy T.me_Policy_or.at_ T.me_Policy_or.fn) (oi_ownB (congrArg (He.ga K) e_Policy.symm)) (ie_var 7) (ie_var 8)) (ia_cons (ie_var 9) ia_nil))) (ia_cons (ie_tup (ia_cons (ie_bin (op_own F_Policy_sub (hr.mono (by decide)) b_Policy_sub_2 v_Policy_sub_2 T.sf_Policy T.me_Policy_sub.at_ T.me_Policy_sub.fn) (oi_ownB (congrArg (He.ga K) e_Policy.symm)) (ie_var 7) (ie_var 8)) (ia_cons (ie_var 11) ia_nil))) (ia_cons (ie_tup (ia_cons (ie_var 7) (ia_cons (ie_var 3) ia_nil))) ia_nil))))))) (ig_name 12 sc_law.nd)
    (iss_cons (is_if (it_not (it_val (ie_call (L2.takes_of rfl rfl rfl rfl) F_law_equal rfl (hr.mono (by decide)) T.g__law_equal k_law_equal b_law_equal_2 v_law_equal_2 w_law_equal_2 (ia_cons (ie_call (L2.takes_of rfl rfl rfl rfl) F_policy_number rfl (hr.mono (by decide)) T.g_policy_number k_policy_number b_policy_number_1 v_policy_number_1 w_policy_number_1 (ia_cons (ie_ix (ie_var 12) ie_int) ia_nil)) (ia_cons (ie_call (L2.takes_of rfl rfl rfl rfl) F_law_number rfl (hr.mono (by decide)) T.g__law_number k_law_number b_law_number_1 v_law_number_1 w_law_number_1 (ia_cons (ie_ix (ie_var 12) ie_int) ia_nil)) ia_nil)))))
    (iss_one (is_ret ie_bl))
    iss_nil)
    (iss_one (is_if (it_not (it_val (ie_call (L2.takes_of rfl rfl rfl rfl) F_law_equal rfl (hr.mono (by decide)) T.g__law_equal k_law_equal b_law_equal_2 v_law_equal_2 w_law_equal_2 (ia_cons (ie_fld T.att (ie_call (L2.takes_of rfl rfl rfl rfl) F_policy_numbered rfl (hr.mono (by decide)) T.g_policy_numbered k_policy_numbered b_policy_numbered_1 v_policy_numbered_1 w_policy_numbered_1 (ia_cons (ie_call (L2.takes_of rfl rfl rfl rfl) F_law_number rfl (hr.mono (by decide)) T.g__law_number k_law_number b_law_number_1 v_law_number_1 w_law_number_1 (ia_cons (ie_ix (ie_var 12) ie_int) ia_nil)) ia_nil)) (by decide +kernel)) (ia_cons (ie_BT call_tuple_of ci_tuple T.b_tuple (by decide +kernel) (ia_cons (ie_ix (ie_var 12) ie_int) ia_nil)) ia_nil)))))
    (iss_one (is_ret ie_bl))
    iss_nil))))
    (iss_cons (is_set (i := 13) sc_law.nd (ie_lst (ia_cons (ie_var 6) (ia_cons (ie_bin op_sub oi_sub ie_int (ie_var 6)) (ia_cons ie_int (ia_cons ie_int ia_nil))))))
    (iss_cons (is_set (i := 14) sc_law.nd ie_int)
    (iss_cons (is_for (L2.passes_of rfl) rfl (ii_range1 T.b_range ie_int) (ig_name 4 sc_law.nd)
    (iss_cons (is_expr (ie_mt PySem.F.plainAttrs_list PySem.F.slot_list_append PySem.F.type_list_append mt_append chk_list mi_append (ie_var 13) (ia_cons (ie_var 14) ia_nil)))
    (iss_one (is_set (i := 14) sc_law.nd (ie_bin or_mulM oi_mul ie_int (ie_var 14))))))
    (iss_cons (is_for (L2.passes_of rfl) rfl (ii_seq (ie_var 13)) (ig_name 15 sc_law.nd)
    (iss_one (is_if (it_not (it_val (ie_call (L2.takes_of rfl rfl rfl rfl) F_law_both rfl (hr.mono (by decide)) T.g__law_both k_law_both b_law_both_1 v_law_both_1 w_law_both_1 (ia_cons (ie_var 15) ia_nil))))
    (iss_one (is_ret ie_bl))
    iss_nil)))
    (iss_cons (is_for (L2.passes_of rfl) rfl (ii_seq (ie_lst (ia_cons (ie_neg ie_int) (ia_cons ie_int (ia_cons (ie_bin op_sub oi_sub (ie_neg ie_int) (ie_var 6)) (ia_cons (ie_bin or_addM oi_add ie_int (ie_var 6)) (ia_cons ie_int (ia_cons (ie_neg ie_int) (ia_cons (ie_neg ie_int) (ia_cons ie_int ia_nil)))))))))) (ig_name 15 sc_law.nd)
    (iss_one (is_if (it_not (it_val (ie_call (L2.takes_of rfl rfl rfl rfl) F_law_refused_number rfl (hr.mono (by decide)) T.g__law_refused_number k_law_refused_number b_law_refused_number_1 v_law_refused_number_1 w_law_refused_number_1 (ia_cons (ie_var 15) ia_nil))))
    (iss_one (is_ret ie_bl))
    iss_nil)))
    (iss_cons (is_set (i := 16) sc_law.nd (ie_tup (ia_cons (ie_BT call_tuple_of ci_tuple T.b_tuple (by decide +kernel) (ia_cons (ie_sl (ie_var 2) io_none (io_some ie_int)) ia_nil)) (ia_cons (ie_BT call_tuple_of ci_tuple T.b_tuple (by decide +kernel) (ia_cons (ie_sl (ie_var 2) (io_some ie_int) (io_some ie_int)) ia_nil)) (ia_cons (ie_BT call_tuple_of ci_tuple T.b_tuple (by decide +kernel) (ia_cons (ie_sl (ie_var 2) (io_some ie_int) io_none) ia_nil)) ia_nil)))))
    (iss_cons (is_if (it_not (it_val (ie_call (L2.takes_of rfl rfl rfl rfl) F_law_equal rfl (hr.mono (by decide)) T.g__law_equal k_law_equal b_law_equal_2 v_law_equal_2 w_law_equal_2 (ia_cons (ie_tup (ia_cons (ie_con T.c_CODE_RULES) (ia_cons (ie_con T.c_VALUE_RULES) (ia_cons (ie_con T.c_POLL_RULES) ia_nil)))) (ia_cons (ie_var 16) ia_nil)))))
    (iss_one (is_ret ie_bl))
    iss_nil)
    (iss_one (is_ret (ie_and (ie_call (L2.takes_of rfl rfl rfl rfl) F_law_equal rfl (hr.mono (by decide)) T.g__law_equal k_law_equal b_law_equal_2 v_law_equal_2 w_law_equal_2 (ia_cons (ie_con T.c_RULES) (ia_cons (ie_BT call_tuple_of ci_tuple T.b_tuple (by decide +kernel) (ia_cons (ie_var 2) ia_nil)) ia_nil))) (ie_one (ie_call0 (L2.takes_of rfl rfl rfl rfl) F_law_sentences rfl (hr.mono (by decide)) T.g__law_sentences k_law_sentences b_law_sentences_0 v_law_sentences_0 w_law_sentences_0)))))))))))))))))))))))))
  exact h
end
end K29
set_option Elab.async false
set_option linter.all false
set_option maxRecDepth 100000
set_option maxHeartbeats 40000000
namespace K29
open PySem PySem.Spec PyProof.Rows L2 GL
def fn : List He.DefD := [⟨("_law_row", none), "_law_row", "_law_row", defArgs st_law_row, defBody st_law_row, defScope st_law_row, [], []⟩,
  ⟨("_law_rules", none), "_law_rules", "_law_rules", defArgs st_law_rules, defBody st_law_rules, defScope st_law_rules, [], []⟩,
  ⟨("_law_digit", none), "_law_digit", "_law_digit", defArgs st_law_digit, defBody st_law_digit, defScope st_law_digit, [], []⟩,
  ⟨("Policy", some "__init__"), "__init__", "Policy.__init__", defArgs st_Policy_init, defBody st_Policy_init, defScope st_Policy_init, [.adr (He.dflAt ("Policy", some "__init__") 0)], []⟩,
  ⟨("Policy", some "__sub__"), "__sub__", "Policy.__sub__", defArgs st_Policy_sub, defBody st_Policy_sub, defScope st_Policy_sub, [], []⟩,
  ⟨("Policy", some "__or__"), "__or__", "Policy.__or__", defArgs st_Policy_or, defBody st_Policy_or, defScope st_Policy_or, [], []⟩,
  ⟨("_law_whole", none), "_law_whole", "_law_whole", defArgs st_law_whole, defBody st_law_whole, defScope st_law_whole, [], []⟩,
  ⟨("_law_equal", none), "_law_equal", "_law_equal", defArgs st_law_equal, defBody st_law_equal, defScope st_law_equal, [], []⟩,
  ⟨("_law_number", none), "_law_number", "_law_number", defArgs st_law_number, defBody st_law_number, defScope st_law_number, [], []⟩,
  ⟨("Policy", some "has"), "has", "Policy.has", defArgs st_Policy_has, defBody st_Policy_has, defScope st_Policy_has, [], []⟩,
  ⟨("policy_number", none), "policy_number", "policy_number", defArgs st_policy_number, defBody st_policy_number, defScope st_policy_number, [], []⟩,
  ⟨("policy_numbered", none), "policy_numbered", "policy_numbered", defArgs st_policy_numbered, defBody st_policy_numbered, defScope st_policy_numbered, [], []⟩,
  ⟨("_law_chosen", none), "_law_chosen", "_law_chosen", defArgs st_law_chosen, defBody st_law_chosen, defScope st_law_chosen, [], []⟩,
  ⟨("_law_both", none), "_law_both", "_law_both", defArgs st_law_both, defBody st_law_both, defScope st_law_both, [], []⟩,
  ⟨("_law_refused_number", none), "_law_refused_number", "_law_refused_number", defArgs st_law_refused_number, defBody st_law_refused_number, defScope st_law_refused_number, [], []⟩,
  ⟨("describe", none), "describe", "describe", defArgs st_describe, defBody st_describe, defScope st_describe, [], []⟩,
  ⟨("_law_refused_name", none), "_law_refused_name", "_law_refused_name", defArgs st_law_refused_name, defBody st_law_refused_name, defScope st_law_refused_name, [], []⟩,
  ⟨("_law_sentences", none), "_law_sentences", "_law_sentences", defArgs st_law_sentences, defBody st_law_sentences, defScope st_law_sentences, [], []⟩,
  ⟨("law", none), "law", "law", defArgs st_law, defBody st_law, defScope st_law, [], []⟩]
def fbs : List (PySem.W.Frag → Bool) := [(He.Fa.free "ValueError").ok,
  (He.Fa.free "abs").ok,
  (He.Fa.free "bool").ok,
  (He.Fa.free "dict").ok,
  (He.Fa.free "int").ok,
  (He.Fa.free "isinstance").ok,
  (He.Fa.free "len").ok,
  (He.Fa.free "list").ok,
  (He.Fa.free "range").ok,
  (He.Fa.free "reversed").ok,
  (He.Fa.free "str").ok,
  (He.Fa.free "super").ok,
  (He.Fa.free "tuple").ok,
  (He.Fa.glo "_law_row").ok,
  (He.Fa.glo "_law_rules").ok,
  (He.Fa.glo "_law_digit").ok,
  (He.Fa.glo "_law_whole").ok,
  (He.Fa.glo "_law_equal").ok,
  (He.Fa.glo "_law_number").ok,
  (He.Fa.glo "policy_number").ok,
  (He.Fa.glo "policy_numbered").ok,
  (He.Fa.glo "_law_chosen").ok,
  (He.Fa.glo "_law_both").ok,
  (He.Fa.glo "_law_refused_number").ok,
  (He.Fa.glo "describe").ok,
  (He.Fa.glo "_law_refused_name").ok,
  (He.Fa.glo "_law_sentences").ok,
  (He.Fa.glo "law").ok,
  (He.Fa.cls "Policy").ok,
  (fun K => PySem.W.selfFirst K (He.ga K "Policy")),
  (He.Fa.glo "Policy").ok,
  (He.Fa.mkr "Policy").ok,
  (He.Fa.meth "Policy" "__or__").ok,
  (He.Fa.meth "Policy" "__sub__").ok,
  (He.Fa.meth "Policy" "has").ok,
  (tupGB "CODE_RULES" w_CODE_RULES),
  (tupGB "POLL_RULES" w_POLL_RULES),
  (tupGB "VALUE_RULES" w_VALUE_RULES),
  (fun K => conV K "CODE_RULES" w_CODE_RULES),
  (fun K => conV K "MOST_NUMBER" w_MOST_NUMBER),
  (fun K => conV K "POLL_RULES" w_POLL_RULES),
  (fun K => conV K "RULES" w_RULES),
  (fun K => conV K "VALUE_RULES" w_VALUE_RULES),
  (He.Fa.glo "ActionError").ok,
  (He.Fa.glo "DebuggerError").ok,
  (He.Fa.glo "GuestError").ok,
  (He.Fa.glo "GuestlivesError").ok,
  (He.Fa.glo "InstructionError").ok,
  (He.Fa.glo "PolicyError").ok,
  (He.Fa.glo "SettingError").ok,
  (He.Fa.glo "TextError").ok,
  (xnCB "PolicyError" "name"),
  (caughtB "PolicyError" xfs),
  (xnCB "SettingError" "name"),
  (caughtB "SettingError" xfs),
  (exmB (fun K => .ref (He.ga K "SettingError")) tbE_SettingError),
  (exmB (fun K => .ref (He.ga K "PolicyError")) tbE_PolicyError),
  (kitBT (fun K => [(.ref (He.ga K "TextError") : Value), (.ref (He.ga K "InstructionError") : Value), (.ref (He.ga K "GuestError") : Value), (.ref (He.ga K "PolicyError") : Value), (.ref (He.ga K "ActionError") : Value), (.ref (He.ga K "DebuggerError") : Value)]) tbI_0),
  (kitB1 (fun K => .ref (He.ga K "GuestlivesError")) tbI_1),
  (kitB1 (fun _ => .type "ValueError") tbI_2),
  (kitBT (fun K => [(.ref (He.ga K "TextError") : Value), (.ref (He.ga K "InstructionError") : Value), (.ref (He.ga K "GuestError") : Value), (.ref (He.ga K "ActionError") : Value), (.ref (He.ga K "SettingError") : Value), (.ref (He.ga K "DebuggerError") : Value)]) tbI_3),
  (xnFB PySem.Challenge.rw_guestlives_k29_policy_numbers_and_senten.prog.main.file (xd_PolicyError)),
  (xnFB PySem.Challenge.rw_guestlives_k29_policy_numbers_and_senten.prog.main.file (xd_SettingError)),
  (He.Fa.noat "Policy" "names").ok,
  (fun K => dflV K ("Policy", some "__init__") 0 (.tup []))]
abbrev R : PySem.W.OpenRow := PySem.W.OpenLaw.row PySem.Challenge.rw_guestlives_k29_policy_numbers_and_senten
def tabs : List He.Tab := []
def xds : List He.DefD := [xd_PolicyError, xd_SettingError]
def hkA (as : List Addr) (fb : PySem.W.Frag → Bool) (fn : List He.DefD) (ts : List He.Tab) (xs : List He.DefD) : PySem.W.Hook where
  α := AlX
  obs := fun s => obsX fb fn ts xs (He.frG s.heap.get? as)
  val := fun w => valX fn ts xs w
  says := fun w h => ∃ K : PySem.W.Frag, K.In h ∧ SaysX fb fn ts xs w K
  of := fun _ _ e => ⟨_, He.frG_in, e⟩
  keeps := fun _ _ _ ⟨K, hK, c⟩ k => ⟨K, PySem.W.Frag.In.keeps hK k, c⟩
def aAll : List Addr := (List.range 650).map (· + 150) ++ List.range 150
abbrev hk : PySem.W.Hook := hkA aAll (allB fbs) fn tabs xds
def frA (s : PySem.W.SharedT) : PySem.W.Frag := He.frG (HandSHeadRun.getT s) aAll
def ob (s : PySem.W.SharedT) : AlX := obsX (allB fbs) fn tabs xds (frA s)
theorem ob_eq (s : PySem.W.SharedT) : ob s = hk.obs s.abs := by
  have e : HandSHeadRun.getT s = s.abs.heap.get? := funext (HandSHeadRun.getT_eq s)
  show obsX (allB fbs) fn tabs xds (He.frG (HandSHeadRun.getT s) aAll) = obsX (allB fbs) fn tabs xds (He.frG s.abs.heap.get? aAll)
  rw [e]
def loose : List Str := (["_wall", "GuestlivesError", "TextError", "InstructionError", "GuestError", "PolicyError", "ActionError", "SettingError", "DebuggerError", "RULES", "Policy", "CODE_RULES", "VALUE_RULES", "POLL_RULES", "MOST_NUMBER", "describe", "policy_number", "policy_numbered", "_law_row", "_law_digit"] : List Str) ++ (["_law_whole", "_law_equal", "_law_rules", "_law_number", "_law_chosen", "_law_both", "_law_refused_number", "_law_refused_name", "_law_sentences"] : List Str)
theorem tx_of {K : PySem.W.Frag} {w : World} {h : Heap} {mg : Str → Option Value} (X : K.In h) (G : h.Ns mainGlobals mg) (c : SaysX (allB fbs) fn tabs xds w K) : Tx PySem.Challenge.rw_guestlives_k29_policy_numbers_and_senten.prog K mg where
  b_ValueError := He.free_ok X G (allB_at c.d.facts 0)
  b_abs := He.free_ok X G (allB_at c.d.facts 1)
  b_bool := He.free_ok X G (allB_at c.d.facts 2)
  b_dict := He.free_ok X G (allB_at c.d.facts 3)
  b_int := He.free_ok X G (allB_at c.d.facts 4)
  b_isinstance := He.free_ok X G (allB_at c.d.facts 5)
  b_len := He.free_ok X G (allB_at c.d.facts 6)
  b_list := He.free_ok X G (allB_at c.d.facts 7)
  b_range := He.free_ok X G (allB_at c.d.facts 8)
  b_reversed := He.free_ok X G (allB_at c.d.facts 9)
  b_str := He.free_ok X G (allB_at c.d.facts 10)
  b_super := He.free_ok X G (allB_at c.d.facts 11)
  b_tuple := He.free_ok X G (allB_at c.d.facts 12)
  g__law_row := He.glo_ok X G (allB_at c.d.facts 13)
  g__law_rules := He.glo_ok X G (allB_at c.d.facts 14)
  g__law_digit := He.glo_ok X G (allB_at c.d.facts 15)
  g__law_whole := He.glo_ok X G (allB_at c.d.facts 16)
  g__law_equal := He.glo_ok X G (allB_at c.d.facts 17)
  g__law_number := He.glo_ok X G (allB_at c.d.facts 18)
  g_policy_number := He.glo_ok X G (allB_at c.d.facts 19)
  g_policy_numbered := He.glo_ok X G (allB_at c.d.facts 20)
  g__law_chosen := He.glo_ok X G (allB_at c.d.facts 21)
  g__law_both := He.glo_ok X G (allB_at c.d.facts 22)
  g__law_refused_number := He.glo_ok X G (allB_at c.d.facts 23)
  g_describe := He.glo_ok X G (allB_at c.d.facts 24)
  g__law_refused_name := He.glo_ok X G (allB_at c.d.facts 25)
  g__law_sentences := He.glo_ok X G (allB_at c.d.facts 26)
  g_law := He.glo_ok X G (allB_at c.d.facts 27)
  cl_Policy := He.cls_ok (allB_at c.d.facts 28)
  sf_Policy := (allB_at c.d.facts 29)
  g_Policy := He.glo_ok X G (allB_at c.d.facts 30)
  mk_Policy := He.mkr_ok (allB_at c.d.facts 31)
  me_Policy_or := He.meth_ok (allB_at c.d.facts 32)
  me_Policy_sub := He.meth_ok (allB_at c.d.facts 33)
  me_Policy_has := He.meth_ok (allB_at c.d.facts 34)
  gt_CODE_RULES := tupGB_ok (x := "CODE_RULES") X G (by decide +kernel) (allB_at c.d.facts 35)
  gt_POLL_RULES := tupGB_ok (x := "POLL_RULES") X G (by decide +kernel) (allB_at c.d.facts 36)
  gt_VALUE_RULES := tupGB_ok (x := "VALUE_RULES") X G (by decide +kernel) (allB_at c.d.facts 37)
  c_CODE_RULES := conV_ok X G (allB_at c.d.facts 38)
  c_MOST_NUMBER := conV_ok X G (allB_at c.d.facts 39)
  c_POLL_RULES := conV_ok X G (allB_at c.d.facts 40)
  c_RULES := conV_ok X G (allB_at c.d.facts 41)
  c_VALUE_RULES := conV_ok X G (allB_at c.d.facts 42)
  g_ActionError := He.glo_ok X G (allB_at c.d.facts 43)
  g_DebuggerError := He.glo_ok X G (allB_at c.d.facts 44)
  g_GuestError := He.glo_ok X G (allB_at c.d.facts 45)
  g_GuestlivesError := He.glo_ok X G (allB_at c.d.facts 46)
  g_InstructionError := He.glo_ok X G (allB_at c.d.facts 47)
  g_PolicyError := He.glo_ok X G (allB_at c.d.facts 48)
  g_SettingError := He.glo_ok X G (allB_at c.d.facts 49)
  g_TextError := He.glo_ok X G (allB_at c.d.facts 50)
  xn_PolicyError := xnC_ok (allB_at c.d.facts 51)
  xn_SettingError := xnC_ok (allB_at c.d.facts 53)
  exm_SettingError := exm_ok (c := (fun K => .ref (He.ga K "SettingError"))) (allB_at c.d.facts 55)
  exm_PolicyError := exm_ok (c := (fun K => .ref (He.ga K "PolicyError"))) (allB_at c.d.facts 56)
  kit_0 := kitT_ok (cs := fun K => [(.ref (He.ga K "TextError") : Value), (.ref (He.ga K "InstructionError") : Value), (.ref (He.ga K "GuestError") : Value), (.ref (He.ga K "PolicyError") : Value), (.ref (He.ga K "ActionError") : Value), (.ref (He.ga K "DebuggerError") : Value)]) (allB_at c.d.facts 57)
  kit_1 := kit1_ok (c := (fun K => .ref (He.ga K "GuestlivesError"))) (allB_at c.d.facts 58)
  kit_2 := kit1_ok (c := (fun _ => .type "ValueError")) (allB_at c.d.facts 59)
  kit_3 := kitT_ok (cs := fun K => [(.ref (He.ga K "TextError") : Value), (.ref (He.ga K "InstructionError") : Value), (.ref (He.ga K "GuestError") : Value), (.ref (He.ga K "ActionError") : Value), (.ref (He.ga K "SettingError") : Value), (.ref (He.ga K "DebuggerError") : Value)]) (allB_at c.d.facts 60)
  att := fun C f e => by
    have e := List.any_eq_true.mp e
    obtain ⟨p, hp, q⟩ := e
    have q := Bool.and_eq_true_iff.mp q
    obtain ⟨q1, q2⟩ := q
    have q1 := of_decide_eq_true q1
    have q2 := of_decide_eq_true q2
    subst q1 q2
    simp only [tabL, List.mem_cons, List.not_mem_nil, or_false] at hp
    rcases hp with rfl
    · rw [show toS (n_Policy, n_names).1 = ("Policy" : Str) from e_Policy, show toS (n_Policy, n_names).2 = ("names" : Str) by decide +kernel]; exact ⟨He.cls_ok (allB_at c.d.facts 28), He.noat_ok (allB_at c.d.facts 63)⟩
  cau := fun C h => by
    simp only [xcs, List.mem_cons, List.not_mem_nil, or_false] at h
    rcases h with rfl | rfl
    · rw [show toS n_PolicyError = ("PolicyError" : Str) from e_PolicyError]; exact caught_ok (allB_at c.d.facts 52)
    · rw [show toS n_SettingError = ("SettingError" : Str) from e_SettingError]; exact caught_ok (allB_at c.d.facts 54)
  top_ := by rfl
  xf_PolicyError := xnF_ok (d := xd_PolicyError) (c.xn 0) (allB_at c.d.facts 61)
  xf_SettingError := xnF_ok (d := xd_SettingError) (c.xn 1) (allB_at c.d.facts 62)
  dv_Policy_init_0 := dflV_ok (allB_at c.d.facts 64)
  d_law_row := c.d.defs 0
  d_law_rules := c.d.defs 1
  d_law_digit := c.d.defs 2
  d_Policy_init := c.d.defs 3
  d_Policy_sub := c.d.defs 4
  d_Policy_or := c.d.defs 5
  d_law_whole := c.d.defs 6
  d_law_equal := c.d.defs 7
  d_law_number := c.d.defs 8
  d_Policy_has := c.d.defs 9
  d_policy_number := c.d.defs 10
  d_policy_numbered := c.d.defs 11
  d_law_chosen := c.d.defs 12
  d_law_both := c.d.defs 13
  d_law_refused_number := c.d.defs 14
  d_describe := c.d.defs 15
  d_law_refused_name := c.d.defs 16
  d_law_sentences := c.d.defs 17
  d_law := c.d.defs 18
theorem join2 {α β γ : Type} {o : Option α} {f : α → β} {g : α → γ} {x : β} {y : γ} (h1 : o.map f = some x) (h2 : o.map g = some y) : o.map (fun s => (f s, g s)) = some (x, y) := by
  cases o with
  | none => cases h1
  | some a =>
    injection h1 with h1
    injection h2 with h2
    show some (f a, g a) = _
    rw [h1, h2]
theorem join_ob {w : World} {o : Option PySem.W.SharedT} (h1 : o.map (fun s => allB fbs (frA s)) = some true) (h2 : o.map (fun s => (fn.all fun d => d.ok (frA s), fn.map fun d => He.fnW (frA s) d.at_, tabs.map fun t => He.dicW (frA s) (t.1 (frA s)), xds.map fun d => xnW (frA s) d.at_)) = some (true, fn.map He.DefD.val, tabs.map fun t => some (He.keysIn w.params t.2), xds.map xnV)) : o.map ob = some (hk.val w) := by
  cases o with
  | none => cases h1
  | some s =>
    injection h1 with h1
    injection h2 with h2
    obtain ⟨h3, h4⟩ := Prod.mk.inj h2
    obtain ⟨h4, h5⟩ := Prod.mk.inj h4
    obtain ⟨h5, h6⟩ := Prod.mk.inj h5
    have h1 : allB fbs (frA s) = true := h1
    show some ((((allB fbs (frA s) && fn.all fun d => d.ok (frA s)), fn.map fun d => He.fnW (frA s) d.at_), tabs.map fun t => He.dicW (frA s) (t.1 (frA s))), xds.map fun d => xnW (frA s) d.at_) = some (((true, fn.map He.DefD.val), tabs.map fun t => some (He.keysIn w.params t.2)), xds.map xnV)
    rw [h1, h3, h4, h5, h6]; rfl
noncomputable def E (w : World) (os : OsState) : Option PySem.W.SharedT := HandSHeadRun.endF (HandSHeadRun.stepQ (HandSHeadRun.denQ HandSHeadRun.tabQ) R.prog w) 12000 R.prog w os
abbrev wf (w : World) : World := w.withFollow "special-get-raises" false
abbrev wt (w : World) : World := w.withFollow "special-get-raises" true
open PySem.W PySem.Calls in
theorem f1 (w : World) (os : OsState) : ((E (wf w) os).map fun s => (HandSHeadRun.looksF R.prog (boot_heap (wf w).params) s.abs, HandSHeadRun.seenQ (view R.prog [33]) loose (importedModules R.prog.main.body) (fun s => xlAt (view R.prog [33]) [] s && recOk R.toRowW.records s) s.abs)) = some (true, openGood (view R.prog [33]) loose) := by kernel_rfl
theorem f2 (w : World) (os : OsState) : ((E (wf w) os).map fun s => allB fbs (frA s)) = some true := by kernel_rfl
theorem f3 (w : World) (os : OsState) : ((E (wf w) os).map fun s => (fn.all fun d => d.ok (frA s), fn.map fun d => He.fnW (frA s) d.at_, tabs.map fun t => He.dicW (frA s) (t.1 (frA s)), xds.map fun d => xnW (frA s) d.at_)) = some (true, fn.map He.DefD.val, tabs.map fun t => some (He.keysIn (wf w).params t.2), xds.map xnV) := by kernel_rfl
theorem runf (w : World) : HandSHeadRun.RunEq R (PySem.W.view R.prog [33]) hk ob 12000 loose (wf w) := fun os => by
  have q := join2 (f1 w os) (join_ob (f2 w os) (f3 w os))
  revert q
  show Option.map _ (E (wf w) os) = _ → Option.map _ (E (wf w) os) = _
  cases E (wf w) os with
  | none => intro q; cases q
  | some s =>
    intro q
    injection q with q
    obtain ⟨q1, q2⟩ := Prod.mk.inj q
    obtain ⟨q3, q4⟩ := Prod.mk.inj q1
    exact congrArg some (Prod.ext q3 (Prod.ext q4 q2))
open PySem.W PySem.Calls in
theorem t1 (w : World) (os : OsState) : ((E (wt w) os).map fun s => (HandSHeadRun.looksF R.prog (boot_heap (wt w).params) s.abs, HandSHeadRun.seenQ (view R.prog [33]) loose (importedModules R.prog.main.body) (fun s => xlAt (view R.prog [33]) [] s && recOk R.toRowW.records s) s.abs)) = some (true, openGood (view R.prog [33]) loose) := by kernel_rfl
theorem t2 (w : World) (os : OsState) : ((E (wt w) os).map fun s => allB fbs (frA s)) = some true := by kernel_rfl
theorem t3 (w : World) (os : OsState) : ((E (wt w) os).map fun s => (fn.all fun d => d.ok (frA s), fn.map fun d => He.fnW (frA s) d.at_, tabs.map fun t => He.dicW (frA s) (t.1 (frA s)), xds.map fun d => xnW (frA s) d.at_)) = some (true, fn.map He.DefD.val, tabs.map fun t => some (He.keysIn (wt w).params t.2), xds.map xnV) := by kernel_rfl
theorem runt (w : World) : HandSHeadRun.RunEq R (PySem.W.view R.prog [33]) hk ob 12000 loose (wt w) := fun os => by
  have q := join2 (t1 w os) (join_ob (t2 w os) (t3 w os))
  revert q
  show Option.map _ (E (wt w) os) = _ → Option.map _ (E (wt w) os) = _
  cases E (wt w) os with
  | none => intro q; cases q
  | some s =>
    intro q
    injection q with q
    obtain ⟨q1, q2⟩ := Prod.mk.inj q
    obtain ⟨q3, q4⟩ := Prod.mk.inj q1
    exact congrArg some (Prod.ext q3 (Prod.ext q4 q2))
theorem run (w : World) : HandSHeadRun.RunEq R (PySem.W.view R.prog [33]) hk ob 12000 loose w := PySem.W.byRow2 "special-get-raises" runf runt w
end K29
set_option Elab.async false
set_option linter.all false
set_option maxRecDepth 100000
set_option maxHeartbeats 1000000
namespace VL
open GL (PV OB Sto Ls Nm BT)
inductive Fl where
  | fz | ow | lk
  deriving DecidableEq, Inhabited
inductive Sc where
  | non | bl (b : Bool) | int (i : Int) | str (s : List Nat) | ty (b : BT) | gl (x : Nm)
  deriving DecidableEq, Inhabited
inductive Hd where
  | lst | rol | dct (ks : List PV) | ins (C : Nm) (ns : List Nm) | dcn (ks : List PV) | ptp
  deriving Inhabited
inductive D where
  | sc (s : Sc) | tup (xs : List D) | nd (k : Fl) (h : Hd) (xs : List D)
  deriving Inhabited
inductive A where
  | sc (s : Sc) | tup (xs : List A) | nd (k : Fl) (n : Nat) (h : Hd) (xs : List A)
  deriving Inhabited
theorem A.ind {P : A → Prop} (h1 : ∀ s, P (.sc s)) (h2 : ∀ xs, (∀ x ∈ xs, P x) → P (.tup xs)) (h3 : ∀ k n h xs, (∀ x ∈ xs, P x) → P (.nd k n h xs)) (a : A) : P a :=
  A.rec (motive_1 := P) (motive_2 := fun xs => ∀ x ∈ xs, P x) h1 h2 h3 (fun _ h => by cases h) (fun x r hx hr y hy => by
    rcases List.mem_cons.mp hy with rfl | h
    · exact hx
    · exact hr y h) a
theorem D.ind {P : D → Prop} (h1 : ∀ s, P (.sc s)) (h2 : ∀ xs, (∀ x ∈ xs, P x) → P (.tup xs)) (h3 : ∀ k h xs, (∀ x ∈ xs, P x) → P (.nd k h xs)) (a : D) : P a :=
  D.rec (motive_1 := P) (motive_2 := fun xs => ∀ x ∈ xs, P x) h1 h2 h3 (fun _ h => by cases h) (fun x r hx hr y hy => by
    rcases List.mem_cons.mp hy with rfl | h
    · exact hx
    · exact hr y h) a
def Sc.pv : Sc → PV
  | .non => .non
  | .bl b => .bl b
  | .int i => .int i
  | .str s => .str s
  | .ty b => .ty b
  | .gl x => .gl x
def Hd.wf : Hd → Nat → Bool
  | .lst, _ => true
  | .rol, _ => true
  | .dct ks, n => decide (ks.length = n)
  | .ins _ ns, n => decide (ns.length = n)
  | .dcn ks, n => decide (ks.length = n)
  | .ptp, _ => true
def mkO : Hd → List PV → OB
  | .lst, ws => .lst ws
  | .rol, ws => .rol ws
  | .dct ks, ws => .dct (ks.zip ws)
  | .ins C ns, ws => .ins C (ns.zip ws)
  | .dcn ks, ws => .dcn (ks.zip ws)
  | .ptp, ws => .ptp ws
mutual
def A.er : A → D
  | .sc s => .sc s
  | .tup xs => .tup (A.ers xs)
  | .nd k _ h xs => .nd k h (A.ers xs)
def A.ers : List A → List D
  | [] => []
  | x :: r => A.er x :: A.ers r
end
mutual
def A.pv : A → PV
  | .sc s => s.pv
  | .tup xs => .tup (A.pvs xs)
  | .nd _ n _ _ => .loc n
def A.pvs : List A → List PV
  | [] => []
  | x :: r => A.pv x :: A.pvs r
end
mutual
def A.fp : A → List Nat
  | .sc _ => []
  | .tup xs => A.fps xs
  | .nd .fz _ _ xs => A.fps xs
  | .nd .ow n _ xs => n :: A.fps xs
  | .nd .lk n _ xs => n :: A.fps xs
def A.fps : List A → List Nat
  | [] => []
  | x :: r => A.fp x ++ A.fps r
end
abbrev FM := Nat → Option (Bool × OB)
mutual
def A.ok (F : FM) (S : Sto) : A → Prop
  | .sc _ => True
  | .tup xs => A.fps xs = [] ∧ A.oks F S xs
  | .nd .fz n h xs => F n = some (true, mkO h (A.pvs xs)) ∧ h.wf xs.length = true ∧ A.fps xs = [] ∧ A.oks F S xs
  | .nd .lk n h xs => F n = some (false, mkO h (A.pvs xs)) ∧ h.wf xs.length = true ∧ A.oks F S xs
  | .nd .ow n h xs => (F n = none ∧ S[n]? = some (mkO h (A.pvs xs))) ∧ h.wf xs.length = true ∧ A.oks F S xs
def A.oks (F : FM) (S : Sto) : List A → Prop
  | [] => True
  | x :: r => A.ok F S x ∧ A.oks F S r
end
theorem ers_map (xs : List A) : A.ers xs = xs.map A.er := by induction xs <;> simp_all [A.ers]
theorem pvs_map (xs : List A) : A.pvs xs = xs.map A.pv := by induction xs <;> simp_all [A.pvs]
theorem fps_map (xs : List A) : A.fps xs = xs.flatMap A.fp := by induction xs <;> simp_all [A.fps]
theorem oks_iff {F : FM} {S : Sto} (xs : List A) : A.oks F S xs ↔ ∀ x ∈ xs, x.ok F S := by induction xs <;> simp_all [A.oks]
def D.shr : D → Bool
  | .nd .ow _ _ => false
  | .nd .lk _ _ => false
  | _ => true
def A.shr : A → Bool
  | .nd .ow _ _ _ => false
  | .nd .lk _ _ _ => false
  | _ => true
theorem shr_er (a : A) : a.er.shr = a.shr := by
  cases a with
  | sc s => simp [A.er, D.shr, A.shr]
  | tup xs => simp [A.er, D.shr, A.shr]
  | nd k n h xs => cases k <;> simp [A.er, D.shr, A.shr]
variable {F F' : FM} {S S' : Sto}
theorem fp_shr {a : A} (h : a.ok F S) (s : a.shr = true) : a.fp = [] := by
  cases a with
  | sc s => simp [A.fp]
  | tup xs => simp only [A.ok] at h; simp [A.fp, h.1]
  | nd k n hd xs => cases k <;> simp_all [A.fp, A.ok, A.shr]
def Mono (F F' : FM) : Prop := ∀ n b o, F n = some (b, o) → F' n = some (b, o)
theorem Mono.refl : Mono F F := fun _ _ _ h => h
theorem Mono.trans {F1 F2 F3 : FM} (a : Mono F1 F2) (b : Mono F2 F3) : Mono F1 F3 := fun n x o h => b n x o (a n x o h)
def MonoT (F F' : FM) : Prop := ∀ n o, F n = some (true, o) → F' n = some (true, o)
theorem Mono.t (m : Mono F F') : MonoT F F' := fun n o h => m n true o h
theorem ok_frameT (m : MonoT F F') : ∀ {a : A}, (∀ n ∈ a.fp, F' n = F n ∧ S'[n]? = S[n]?) → a.ok F S → a.ok F' S' := by
  intro a
  induction a using A.ind with
  | h1 s => intros; simp [A.ok]
  | h2 xs ih =>
    intro hn h
    simp only [A.ok, oks_iff, A.fp] at h hn ⊢
    refine ⟨h.1, fun x hx => ih x hx (fun n q => ?_) (h.2 x hx)⟩
    exact hn n (by rw [fps_map]; exact List.mem_flatMap.mpr ⟨x, hx, q⟩)
  | h3 k n hd xs ih =>
    intro hn h
    have kid : A.oks F S xs → (∀ n ∈ A.fps xs, F' n = F n ∧ S'[n]? = S[n]?) → A.oks F' S' xs := fun h hn => by
      rw [oks_iff] at h ⊢
      exact fun x hx => ih x hx (fun n q => hn n (by rw [fps_map]; exact List.mem_flatMap.mpr ⟨x, hx, q⟩)) (h x hx)
    cases k with
    | fz =>
      simp only [A.ok, A.fp] at h hn ⊢
      exact ⟨m _ _ h.1, h.2.1, h.2.2.1, kid h.2.2.2 hn⟩
    | lk =>
      simp only [A.ok, A.fp] at h hn ⊢
      have e := hn n List.mem_cons_self
      rw [e.1]
      exact ⟨h.1, h.2.1, kid h.2.2 fun n q => hn n (List.mem_cons_of_mem _ q)⟩
    | ow =>
      simp only [A.ok, A.fp] at h hn ⊢
      have e := hn n List.mem_cons_self
      rw [e.1, e.2]
      exact ⟨h.1, h.2.1, kid h.2.2 fun n q => hn n (List.mem_cons_of_mem _ q)⟩
theorem ok_frame (m : Mono F F') {a : A} (hn : ∀ n ∈ a.fp, F' n = F n ∧ S'[n]? = S[n]?) (h : a.ok F S) : a.ok F' S' := ok_frameT m.t hn h
def lkB : Bool := false
def AtU (S : Sto) (n : Nat) (o : OB) : Prop := S[n]? = some o ∨ ∃ k, (o = .dct k ∧ lkB = true) ∧ S[n]? = some (.fdct k)
theorem AtU.lt {S : Sto} {n : Nat} {o : OB} (h : AtU S n o) : n < S.length := by
  rcases h with h | ⟨k, _, h⟩ <;> exact (List.getElem?_eq_some_iff.mp h).1
theorem AtU.eq {S : Sto} {n : Nat} {o : OB} (h : AtU S n o) (nd : ∀ k, o ≠ .dct k) : S[n]? = some o := by
  rcases h with h | ⟨k, e, h⟩
  · exact h
  · exact absurd e.1 (nd k)
theorem AtU.lst {S : Sto} {n : Nat} {xs : List PV} (h : AtU S n (.lst xs)) : S[n]? = some (.lst xs) := h.eq (by intro k e; cases e)
theorem AtU.rol {S : Sto} {n : Nat} {xs : List PV} (h : AtU S n (.rol xs)) : S[n]? = some (.rol xs) := h.eq (by intro k e; cases e)
theorem AtU.ins {S : Sto} {n : Nat} {C : Nm} {fs : List (Nm × PV)} (h : AtU S n (.ins C fs)) : S[n]? = some (.ins C fs) := h.eq (by intro k e; cases e)
theorem AtU.dcn {S : Sto} {n : Nat} {xs : List (PV × PV)} (h : AtU S n (.dcn xs)) : S[n]? = some (.dcn xs) := h.eq (by intro k e; cases e)
theorem AtU.ptp {S : Sto} {n : Nat} {xs : List PV} (h : AtU S n (.ptp xs)) : S[n]? = some (.ptp xs) := h.eq (by intro k e; cases e)
theorem AtU.to {S S' : Sto} {n : Nat} {o : OB} (h : AtU S n o) (e : S'[n]? = S[n]?) : AtU S' n o := by
  unfold AtU
  rw [e]
  exact h
def FS (F : FM) (S : Sto) : Prop := ∀ n b o, F n = some (b, o) → AtU S n o
theorem fp_lt (fs : FS F S) : ∀ {a : A}, a.ok F S → ∀ n ∈ a.fp, n < S.length := by
  intro a
  induction a using A.ind with
  | h1 s => intro _ n h; simp [A.fp] at h
  | h2 xs ih =>
    intro h n hn
    simp only [A.ok] at h
    rw [A.fp, h.1] at hn
    cases hn
  | h3 k n hd xs ih =>
    intro h m hm
    have kid : A.oks F S xs → m ∈ A.fps xs → m < S.length := fun h hm => by
      rw [fps_map] at hm
      obtain ⟨x, hx, q⟩ := List.mem_flatMap.mp hm
      exact ih x hx ((oks_iff xs).mp h x hx) m q
    have lt : ∀ {o : OB}, S[n]? = some o → n < S.length := fun h => (List.getElem?_eq_some_iff.mp h).1
    cases k with
    | fz => simp only [A.ok, A.fp] at h hm; exact kid h.2.2.2 hm
    | lk =>
      simp only [A.ok, A.fp] at h hm
      rcases List.mem_cons.mp hm with rfl | q
      · exact (fs _ _ _ h.1).lt
      · exact kid h.2.2 q
    | ow =>
      simp only [A.ok, A.fp] at h hm
      rcases List.mem_cons.mp hm with rfl | q
      · exact lt h.1.2
      · exact kid h.2.2 q
mutual
def D.frz : D → Option D
  | .sc s => some (.sc s)
  | .tup xs => some (.tup xs)
  | .nd .fz h xs => some (.nd .fz h xs)
  | .nd .ow h xs => (D.frzs xs).map fun ys => .nd .fz h ys
  | .nd .lk _ _ => none
def D.frzs : List D → Option (List D)
  | [] => some []
  | x :: r => match D.frz x, D.frzs r with
    | some y, some ys => some (y :: ys)
    | _, _ => none
end
mutual
def A.frz : A → A
  | .sc s => .sc s
  | .tup xs => .tup xs
  | .nd .fz n h xs => .nd .fz n h xs
  | .nd .ow n h xs => .nd .fz n h (A.frzs xs)
  | .nd .lk n h xs => .nd .lk n h xs
def A.frzs : List A → List A
  | [] => []
  | x :: r => A.frz x :: A.frzs r
end
theorem frzs_map (xs : List A) : A.frzs xs = xs.map A.frz := by induction xs <;> simp_all [A.frzs]
theorem dfrzs_iff : ∀ (xs ys : List D), D.frzs xs = some ys ↔ ys.length = xs.length ∧ ∀ (i : Nat) (x : D), xs[i]? = some x → ∃ y : D, ys[i]? = some y ∧ D.frz x = some y
  | [], ys => by
    simp only [D.frzs, Option.some.injEq, List.length_nil, List.length_eq_zero_iff]
    constructor
    · rintro rfl; simp
    · rintro ⟨rfl, _⟩; rfl
  | x :: r, ys => by
    rw [D.frzs]
    have ih := dfrzs_iff r
    constructor
    · intro h
      split at h
      · rename_i y zs e1 e2
        cases h
        obtain ⟨l, q⟩ := (ih zs).mp e2
        refine ⟨by simp [l], fun i x' hx => ?_⟩
        cases i with
        | zero => simp at hx; subst hx; exact ⟨y, rfl, e1⟩
        | succ i => simpa using q i x' (by simpa using hx)
      · cases h
    · rintro ⟨l, q⟩
      cases ys with
      | nil => simp at l
      | cons y zs =>
        obtain ⟨y', e1, e2⟩ := q 0 x rfl
        simp at e1; subst e1
        have : D.frzs r = some zs := (ih zs).mpr ⟨by simpa using l, fun i x' hx => by
          obtain ⟨y', a, b⟩ := q (i + 1) x' (by simpa using hx)
          exact ⟨y', by simpa using a, b⟩⟩
        rw [e2, this]
theorem frz_pv : ∀ (a : A), a.frz.pv = a.pv := by
  intro a
  cases a with
  | sc s => simp [A.frz]
  | tup xs => simp [A.frz]
  | nd k n h xs => cases k <;> simp [A.frz, A.pv]
theorem frzs_pvs (xs : List A) : A.pvs (A.frzs xs) = A.pvs xs := by
  rw [pvs_map, frzs_map, pvs_map, List.map_map]
  exact List.map_congr_left fun a _ => frz_pv a
theorem frz_er : ∀ (a : A) {d : D}, D.frz a.er = some d → a.frz.er = d := by
  intro a
  induction a using A.ind with
  | h1 s => intro d h; simp [A.er, D.frz] at h; simp [A.frz, A.er, h]
  | h2 xs ih => intro d h; simp [A.er, D.frz] at h; simp [A.frz, A.er, h]
  | h3 k n hd xs ih =>
    intro d h
    cases k with
    | fz => simp [A.er, D.frz] at h; simp [A.frz, A.er, h]
    | lk => simp [A.er, D.frz] at h
    | ow =>
      simp only [A.er, D.frz, Option.map_eq_some_iff] at h
      obtain ⟨ys, e, rfl⟩ := h
      obtain ⟨l, q⟩ := (dfrzs_iff _ _).mp e
      simp only [A.frz, A.er, D.nd.injEq, true_and]
      rw [ers_map, frzs_map, List.map_map]
      apply List.ext_getElem?
      intro i
      rw [ers_map] at l q
      simp only [List.getElem?_map] at q ⊢
      cases hx : xs[i]? with
      | none =>
        rw [List.getElem?_eq_none_iff] at hx
        simp only [Option.map_none]
        exact (List.getElem?_eq_none_iff.mpr (by rw [l, List.length_map]; exact hx)).symm
      | some x =>
        obtain ⟨y, a, b⟩ := q i x.er (by rw [hx]; rfl)
        rw [a, Option.map_some, Function.comp, ih x (List.mem_of_getElem? hx) b]
def frF (F : FM) (S : Sto) (ns : List Nat) : FM := fun n => if n ∈ ns then (S[n]?).map fun o => (true, o) else F n
theorem frz_none (a : A) {d : D} (h : D.frz a.er = some d) : a.ok F S → ∀ n ∈ a.fp, F n = none := by
  induction a using A.ind generalizing d with
  | h1 s => intro _ n hn; simp [A.fp] at hn
  | h2 xs ih => intro k n hn; simp only [A.ok] at k; rw [A.fp, k.1] at hn; cases hn
  | h3 k n hd xs ih =>
    intro hk m hm
    cases k with
    | fz => simp only [A.ok, A.fp] at hk hm; rw [hk.2.2.1] at hm; cases hm
    | lk => simp [A.er, D.frz] at h
    | ow =>
      simp only [A.ok, A.fp] at hk hm
      rcases List.mem_cons.mp hm with rfl | q
      · exact hk.1.1
      · simp only [A.er, D.frz, Option.map_eq_some_iff] at h
        obtain ⟨ys, e, rfl⟩ := h
        obtain ⟨l, qq⟩ := (dfrzs_iff _ _).mp e
        rw [fps_map] at q
        obtain ⟨x, hx, q⟩ := List.mem_flatMap.mp q
        obtain ⟨i, hi⟩ := List.getElem?_of_mem hx
        obtain ⟨y, _, b⟩ := qq i x.er (by rw [ers_map, List.getElem?_map, hi]; rfl)
        exact ih x hx b ((oks_iff xs).mp hk.2.2 x hx) m q
theorem frz_fp (a : A) {d : D} (h : D.frz a.er = some d) : a.ok F S → a.frz.fp = [] := by
  induction a using A.ind generalizing d with
  | h1 s => intro _; simp [A.frz, A.fp]
  | h2 xs ih => intro k; simp only [A.ok] at k; simp [A.frz, A.fp, k.1]
  | h3 k n hd xs ih =>
    intro hk
    cases k with
    | fz => simp only [A.ok] at hk; simp [A.frz, A.fp, hk.2.2.1]
    | lk => simp [A.er, D.frz] at h
    | ow =>
      simp only [A.ok] at hk
      simp only [A.er, D.frz, Option.map_eq_some_iff] at h
      obtain ⟨ys, e, rfl⟩ := h
      obtain ⟨l, qq⟩ := (dfrzs_iff _ _).mp e
      simp only [A.frz, A.fp]
      rw [fps_map, frzs_map, List.flatMap_map, List.flatMap_eq_nil_iff]
      intro x hx
      obtain ⟨i, hi⟩ := List.getElem?_of_mem hx
      obtain ⟨y, _, b⟩ := qq i x.er (by rw [ers_map, List.getElem?_map, hi]; rfl)
      exact ih x hx b ((oks_iff xs).mp hk.2.2 x hx)
theorem frz_ok (a : A) {d : D} (h : D.frz a.er = some d) (ns : List Nat) (hF : Mono F F') (hn : ∀ n ∈ a.fp, F' n = (S[n]?).map fun o => (true, o)) : a.ok F S → a.frz.ok F' S := by
  induction a using A.ind generalizing d with
  | h1 s => intro _; simp [A.frz, A.ok]
  | h2 xs ih =>
    intro k
    have e : (A.tup xs).fp = [] := by simp only [A.ok] at k; rw [A.fp, k.1]
    exact ok_frame (a := .tup xs) hF (by rw [e]; intro n hn; cases hn) k
  | h3 k n hd xs ih =>
    intro hk
    cases k with
    | fz =>
      have e : (A.nd .fz n hd xs).fp = [] := by simp only [A.ok] at hk; rw [A.fp, hk.2.2.1]
      exact ok_frame (a := .nd .fz n hd xs) hF (by rw [e]; intro n hn; cases hn) hk
    | lk => simp [A.er, D.frz] at h
    | ow =>
      have hfp := frz_fp (F := F) (S := S) (.nd .ow n hd xs) h hk
      simp only [A.ok] at hk
      simp only [A.er, D.frz, Option.map_eq_some_iff] at h
      obtain ⟨ys, e, rfl⟩ := h
      obtain ⟨l, qq⟩ := (dfrzs_iff _ _).mp e
      simp only [A.frz, A.fp] at hfp
      simp only [A.frz, A.ok]
      refine ⟨?_, ?_, hfp, ?_⟩
      · rw [hn n (by simp [A.fp]), hk.1.2, frzs_pvs]; rfl
      · rw [frzs_map, List.length_map]; exact hk.2.1
      · rw [oks_iff, frzs_map]
        intro y hy
        obtain ⟨x, hx, rfl⟩ := List.mem_map.mp hy
        obtain ⟨i, hi⟩ := List.getElem?_of_mem hx
        obtain ⟨y, _, b⟩ := qq i x.er (by rw [ers_map, List.getElem?_map, hi]; rfl)
        exact ih x hx b (fun n hn' => hn n (by rw [A.fp, fps_map]; exact List.mem_cons_of_mem _ (List.mem_flatMap.mpr ⟨x, hx, hn'⟩))) ((oks_iff xs).mp hk.2.2 x hx)
def D.kids : D → List D
  | .sc _ => []
  | .tup xs => xs
  | .nd _ _ xs => xs
def D.wk : D → List D → D
  | .sc s, _ => .sc s
  | .tup _, ys => .tup ys
  | .nd k h _, ys => .nd k h ys
def A.kids : A → List A
  | .sc _ => []
  | .tup xs => xs
  | .nd _ _ _ xs => xs
def A.wk : A → List A → A
  | .sc s, _ => .sc s
  | .tup _, ys => .tup ys
  | .nd k n h _, ys => .nd k n h ys
def getP : List Nat → D → Option D
  | [], d => some d
  | i :: p, d => match d.kids[i]? with
    | some x => getP p x
    | none => none
def setP : List Nat → D → D → D
  | [], _, y => y
  | i :: p, d, y => match d.kids[i]? with
    | some x => d.wk (d.kids.set i (setP p x y))
    | none => d
def getA : List Nat → A → Option A
  | [], d => some d
  | i :: p, d => match d.kids[i]? with
    | some x => getA p x
    | none => none
def setA : List Nat → A → A → A
  | [], _, y => y
  | i :: p, d, y => match d.kids[i]? with
    | some x => d.wk (d.kids.set i (setA p x y))
    | none => d
theorem kids_er (a : A) : a.er.kids = a.kids.map A.er := by cases a <;> simp [A.er, A.kids, D.kids, ers_map]
theorem wk_er (a : A) (ys : List A) : (a.wk ys).er = a.er.wk (ys.map A.er) := by cases a <;> simp [A.er, A.wk, D.wk, ers_map]
theorem wk_pv (a : A) (ys : List A) (h : A.pvs ys = A.pvs a.kids) : (a.wk ys).pv = a.pv := by cases a <;> simp_all [A.pv, A.wk, A.kids]
theorem get_er : ∀ (p : List Nat) (a : A), getP p a.er = (getA p a).map A.er
  | [], a => rfl
  | i :: p, a => by
    unfold getP getA
    rw [kids_er, List.getElem?_map]
    cases a.kids[i]? with
    | none => rfl
    | some x => exact get_er p x
theorem set_er : ∀ (p : List Nat) (a y : A), (setA p a y).er = setP p a.er y.er
  | [], a, y => rfl
  | i :: p, a, y => by
    unfold setP setA
    rw [kids_er, List.getElem?_map]
    cases a.kids[i]? with
    | none => rfl
    | some x =>
      dsimp only [Option.map_some]
      rw [wk_er, List.map_set, set_er p x y]
theorem set_pv : ∀ (p : List Nat) (a y x : A), getA p a = some x → y.pv = x.pv → (setA p a y).pv = a.pv
  | [], a, y, x, h, e => by cases h; exact e
  | i :: p, a, y, x, h, e => by
    unfold getA at h
    unfold setA
    cases hk : a.kids[i]? with
    | none => rfl
    | some z =>
      rw [hk] at h
      dsimp only at h ⊢
      refine wk_pv a _ ?_
      have := set_pv p z y x h e
      rw [pvs_map, pvs_map, List.map_set, this]
      apply List.ext_getElem?
      intro j
      by_cases hj : i = j
      · subst hj
        have lt := (List.getElem?_eq_some_iff.mp hk).1
        rw [List.getElem?_set_self (by rw [List.length_map]; exact lt), List.getElem?_map, hk]; rfl
      · rw [List.getElem?_set_ne hj]
theorem fp_kids {a : A} (h : a.ok F S) (hs : a.shr = true) : A.fps a.kids = [] := by
  cases a with
  | sc s => rfl
  | tup xs => simp only [A.ok] at h; exact h.1
  | nd k n hd xs => cases k <;> simp_all [A.ok, A.kids, A.shr]
theorem ok_kids {a : A} (h : a.ok F S) : A.oks F S a.kids := by
  cases a with
  | sc s => trivial
  | tup xs => simp only [A.ok] at h; exact h.2
  | nd k n hd xs => cases k <;> simp_all [A.ok, A.kids]
theorem flat_set {xs : List A} {i : Nat} {x : A} (h : xs[i]? = some x) : ∃ L R, A.fps xs = L ++ x.fp ++ R ∧ ∀ y : A, A.fps (xs.set i y) = L ++ y.fp ++ R := by
  induction xs generalizing i with
  | nil => simp at h
  | cons z r ih =>
    cases i with
    | zero =>
      simp at h; subst h
      exact ⟨[], A.fps r, by simp [A.fps], fun y => by simp [A.fps]⟩
    | succ i =>
      obtain ⟨L, R, e, q⟩ := ih (i := i) (by simpa using h)
      exact ⟨z.fp ++ L, R, by simp [A.fps, e], fun y => by simp [A.fps, q]⟩
theorem focusT : ∀ (p : List Nat) (a x : A), a.ok F S → getA p a = some x → x.shr = false → x.ok F S ∧ ∃ L R, a.fp = L ++ x.fp ++ R ∧ (∀ y : A, (setA p a y).fp = L ++ y.fp ++ R) ∧
    (∀ F' S' (y : A), MonoT F F' → (∀ n, n ∈ L ∨ n ∈ R → F' n = F n ∧ S'[n]? = S[n]?) → y.ok F' S' → y.pv = x.pv → (setA p a y).ok F' S')
  | [], a, x, h, e, hs => by
    cases e
    exact ⟨h, [], [], by simp, fun y => by simp [setA], fun F' S' y _ _ hy _ => hy⟩
  | i :: p, a, x, h, e, hs => by
    unfold getA at e
    cases hk : a.kids[i]? with
    | none => rw [hk] at e; cases e
    | some z =>
      rw [hk] at e
      dsimp only at e
      have hz : z.ok F S := (oks_iff _).mp (ok_kids h) z (List.mem_of_getElem? hk)
      obtain ⟨hx, L, R, e1, e2, e3⟩ := focusT p z x hz e hs
      obtain ⟨L2, R2, f1, f2⟩ := flat_set hk
      have ha : a.shr = false := by
        cases hq : a.shr with
        | false => rfl
        | true =>
          have := fp_kids h hq
          rw [f1, e1] at this
          have hxn : x.fp ≠ [] := by
            cases x with
            | sc s => cases hs
            | tup xs => cases hs
            | nd k n hd xs =>
              cases k with
              | fz => cases hs
              | ow => rw [A.fp]; exact List.cons_ne_nil _ _
              | lk => rw [A.fp]; exact List.cons_ne_nil _ _
          simp only [List.append_eq_nil_iff] at this
          exact absurd this.1.2.1.2 hxn
      have hset : setA (i :: p) a = fun y => a.wk (a.kids.set i (setA p z y)) := by
        funext y; rw [setA, hk]
      cases a with
      | sc s => cases ha
      | tup xs => cases ha
      | nd k n hd xs =>
        have hp : ∀ y : A, y.pv = x.pv → A.pvs (xs.set i (setA p z y)) = A.pvs xs := fun y hy => by
          have := set_pv p z y x e hy
          rw [pvs_map, pvs_map, List.map_set, this]
          apply List.ext_getElem?
          intro j
          by_cases hj : i = j
          · subst hj
            have lt := (List.getElem?_eq_some_iff.mp hk).1
            rw [List.getElem?_set_self (by rw [List.length_map]; exact lt), List.getElem?_map, show xs[i]? = some z from hk]; rfl
          · rw [List.getElem?_set_ne hj]
        have kidok : ∀ F' S' (y : A), MonoT F F' → (∀ m, m ∈ L2 ++ L ∨ m ∈ R ++ R2 → F' m = F m ∧ S'[m]? = S[m]?) → y.ok F' S' → y.pv = x.pv → A.oks F' S' (xs.set i (setA p z y)) := fun F' S' y m hn hy hv => by
          rw [oks_iff]
          intro w hw
          obtain ⟨j, hj⟩ := List.getElem?_of_mem hw
          by_cases hij : i = j
          · subst hij
            have lt : i < xs.length := (List.getElem?_eq_some_iff.mp hk).1
            rw [List.getElem?_set_self lt] at hj
            cases hj
            exact e3 F' S' y m (fun q hq => hn q (by simp only [List.mem_append]; rcases hq with hq | hq <;> simp [hq])) hy hv
          · rw [List.getElem?_set_ne hij] at hj
            refine ok_frameT m (fun q hq => hn q ?_) ((oks_iff _).mp (ok_kids h) w (List.mem_of_getElem? hj))
            have hL : A.fps (xs.set i (.sc .non)) = L2 ++ R2 := by
              have := f2 (.sc .non)
              simpa [A.fp, A.kids] using this
            have : q ∈ A.fps (xs.set i (.sc .non)) := by
              rw [fps_map]
              exact List.mem_flatMap.mpr ⟨w, List.mem_of_getElem? (i := j) (by rw [List.getElem?_set_ne hij]; exact hj), hq⟩
            rw [hL] at this
            simp only [List.mem_append] at this ⊢
            rcases this with t | t <;> simp [t]
        cases k with
        | fz => cases ha
        | ow =>
          simp only [A.kids] at f1 f2 hk
          refine ⟨hx, n :: (L2 ++ L), R ++ R2, ?_, fun y => ?_, fun F' S' y m hn hy hv => ?_⟩
          · simp [A.fp, f1, e1]
          · rw [hset]; simp [A.wk, A.fp, A.kids, f2, e2]
          · rw [hset]
            simp only [A.ok] at h
            simp only [A.wk, A.kids, A.ok]
            rw [hp y hv, List.length_set]
            have hnn := hn n (by simp)
            rw [hnn.1, hnn.2]
            exact ⟨h.1, h.2.1, kidok F' S' y m (fun q hq => hn q (by simp only [List.mem_cons]; rcases hq with hq | hq <;> simp [hq])) hy hv⟩
        | lk =>
          simp only [A.kids] at f1 f2 hk
          refine ⟨hx, n :: (L2 ++ L), R ++ R2, ?_, fun y => ?_, fun F' S' y m hn hy hv => ?_⟩
          · simp [A.fp, f1, e1]
          · rw [hset]; simp [A.wk, A.fp, A.kids, f2, e2]
          · rw [hset]
            simp only [A.ok] at h
            simp only [A.wk, A.kids, A.ok]
            rw [hp y hv, List.length_set]
            have hnn := hn n (by simp)
            rw [hnn.1]
            exact ⟨h.1, h.2.1, kidok F' S' y m (fun q hq => hn q (by simp only [List.mem_cons]; rcases hq with hq | hq <;> simp [hq])) hy hv⟩
theorem focus (p : List Nat) (a x : A) (h : a.ok F S) (e : getA p a = some x) (hs : x.shr = false) : x.ok F S ∧ ∃ L R, a.fp = L ++ x.fp ++ R ∧ (∀ y : A, (setA p a y).fp = L ++ y.fp ++ R) ∧
    (∀ F' S' (y : A), Mono F F' → (∀ n, n ∈ L ∨ n ∈ R → F' n = F n ∧ S'[n]? = S[n]?) → y.ok F' S' → y.pv = x.pv → (setA p a y).ok F' S') := by
  obtain ⟨h1, L, R, h2, h3, h4⟩ := focusT p a x h e hs
  exact ⟨h1, L, R, h2, h3, fun F' S' y m => h4 F' S' y m.t⟩
end VL
set_option Elab.async false
set_option linter.all false
set_option maxRecDepth 100000
set_option maxHeartbeats 1000000
namespace VL
open GL (PV OB Sto Nm BT)
variable {F F' : FM} {S S' : Sto}
def Per (Q : List Nat → Prop) (x y : A) : Prop := ∀ p w, Q p → (getA p x).map A.pv = some w → (getA p y).map A.pv = some w
theorem Per.pv {Q : List Nat → Prop} {x y : A} (h : Per Q x y) (q : Q []) : y.pv = x.pv := by
  have := h [] x.pv q rfl
  simpa [getA] using this
theorem Per.refl {Q : List Nat → Prop} {x : A} : Per Q x x := fun _ _ _ h => h
theorem per_set : ∀ (q : List Nat) (a x y : A) {Q : List Nat → Prop}, getA q a = some x → y.pv = x.pv → Per Q x y → Per (fun p => ∀ s, p = q ++ s → Q s) a (setA q a y)
  | [], a, x, y, Q, h, hv, hp => by
    cases h
    intro p w hq e
    exact hp p w (hq p rfl) e
  | i :: q, a, x, y, Q, h, hv, hp => by
    intro p w hq e
    unfold getA at h
    cases hk : a.kids[i]? with
    | none => rw [hk] at h; cases h
    | some z =>
      rw [hk] at h
      dsimp only at h
      have hset : setA (i :: q) a y = a.wk (a.kids.set i (setA q z y)) := by rw [setA, hk]
      cases p with
      | nil =>
        simp only [getA, Option.map_some, Option.some.injEq] at e ⊢
        rw [set_pv (i :: q) a y x (by unfold getA; rw [hk]; exact h) hv, e]
      | cons j p =>
        have hne : a.kids ≠ [] := by intro h0; rw [h0] at hk; simp at hk
        have hkw : (a.wk (a.kids.set i (setA q z y))).kids = a.kids.set i (setA q z y) := by
          cases a with
          | sc s => exact absurd rfl hne
          | tup xs => rfl
          | nd k n hd xs => rfl
        rw [hset]
        unfold getA at e ⊢
        rw [hkw]
        by_cases hij : i = j
        · subst hij
          have lt := (List.getElem?_eq_some_iff.mp hk).1
          rw [List.getElem?_set_self lt]
          rw [hk] at e
          dsimp only at e ⊢
          exact per_set q z x y h hv hp p w (fun s hs => hq s (by rw [hs]; rfl)) e
        · rw [List.getElem?_set_ne hij]
          exact e
theorem per_frz (a : A) {d : D} (h : D.frz a.er = some d) : Per (fun _ => True) a a.frz := by
  induction a using A.ind generalizing d with
  | h1 s => exact Per.refl
  | h2 xs ih => exact Per.refl
  | h3 k n hd xs ih =>
    cases k with
    | fz => exact Per.refl
    | lk => exact Per.refl
    | ow =>
      simp only [A.er, D.frz, Option.map_eq_some_iff] at h
      obtain ⟨ys, e, rfl⟩ := h
      obtain ⟨l, qq⟩ := (dfrzs_iff _ _).mp e
      intro p w _ hp
      cases p with
      | nil => simpa [getA, A.frz, A.pv] using hp
      | cons i p =>
        unfold getA at hp ⊢
        simp only [A.frz, A.kids, frzs_map, List.getElem?_map] at hp ⊢
        cases hx : xs[i]? with
        | none => rw [hx] at hp; cases hp
        | some x =>
          rw [hx] at hp
          dsimp only [Option.map_some] at hp ⊢
          obtain ⟨y, _, b⟩ := qq i x.er (by rw [ers_map, List.getElem?_map, hx]; rfl)
          exact ih x (List.mem_of_getElem? hx) b p w trivial hp
inductive Rt where
  | l (i : Nat) | g (j : Nat)
  deriving DecidableEq, Inhabited
inductive V where
  | v (d : D) | io (d : D) | al (r : Rt) (p : List Nat) | xn (C : Nm) (ns : List Nm) (ds : List D)
  deriving Inhabited
abbrev Ls := List (Option V)
structure Exn where
  cls : Nm
  ns : List Nm
  ds : List D
inductive Out (α : Type) where
  | ok (a : α) (ls gh : Ls)
  | exc (e : Exn) (ls gh : Ls)
  | bad
inductive SOut where
  | nx (ls gh : Ls)
  | rt (d : D) (gh : Ls)
  | bk (ls gh : Ls)
  | ct (ls gh : Ls)
  | exc (e : Exn) (ls gh : Ls)
  | bad
inductive RV where
  | v (d : D) | pth (r : Rt) (p : List Nat)
  deriving Inhabited
inductive AV where
  | un (o : Option PV) | v (a : A) | io (a : A) | al (r : Rt) (p : List Nat) | xn (C : Nm) (ns : List Nm) (xs : List A)
  deriving Inhabited
def AV.er : AV → Option V
  | .un _ => none
  | .v a => some (.v a.er)
  | .io a => some (.io a.er)
  | .al r p => some (.al r p)
  | .xn C ns xs => some (.xn C ns (A.ers xs))
abbrev erS (as : List AV) : Ls := as.map AV.er
def slotD : Option (Option V) → Option D
  | some (some (.v d)) => some d
  | some (some (.io d)) => some d
  | _ => none
def rootD (ls gh : Ls) : Rt → Option D
  | .l i => slotD ls[i]?
  | .g j => slotD gh[j]?
def slotA : Option AV → Option A
  | some (.v a) => some a
  | some (.io a) => some a
  | _ => none
def rootA (as ag : List AV) : Rt → Option A
  | .l i => slotA as[i]?
  | .g j => slotA ag[j]?
theorem slot_er (x : Option AV) : slotD (x.map AV.er) = (slotA x).map A.er := by
  cases x with
  | none => rfl
  | some x => cases x <;> rfl
theorem root_er (as ag : List AV) (r : Rt) : rootD (erS as) (erS ag) r = (rootA as ag r).map A.er := by
  cases r <;> simp only [rootD, rootA, erS, List.getElem?_map, slot_er]
def atD (ls gh : Ls) (r : Rt) (p : List Nat) : Option D := (rootD ls gh r).bind (getP p)
def atA (as ag : List AV) (r : Rt) (p : List Nat) : Option A := (rootA as ag r).bind (getA p)
theorem at_er (as ag : List AV) (r : Rt) (p : List Nat) : atD (erS as) (erS ag) r p = (atA as ag r p).map A.er := by
  unfold atD atA
  rw [root_er]
  cases rootA as ag r with
  | none => rfl
  | some a => exact get_er p a
def glv (as ag : List AV) (ad : Nat × Nat) : AV → Option PV
  | .un o => o
  | .v a => some a.pv
  | .io a => some a.pv
  | .al r p => (atA as ag r p).map A.pv
  | .xn C ns xs => some (.xn ad.1 ad.2 C ns (A.pvs xs))
abbrev glS (as ag : List AV) (ad : Nat × Nat) (zs : List AV) : GL.Ls := zs.map (glv as ag ad)
def AV.fp : AV → List Nat
  | .v a => a.fp
  | .io a => a.fp
  | _ => []
def AV.ok (F : FM) (S : Sto) : AV → Prop
  | .v a => a.ok F S
  | .io a => a.ok F S
  | .xn _ _ xs => A.fps xs = [] ∧ A.oks F S xs
  | _ => True
def fpS (zs : List AV) : List Nat := zs.flatMap AV.fp
@[simp] theorem fpS_nil : fpS [] = [] := rfl
theorem fpS_cons (z : AV) (r : List AV) : fpS (z :: r) = z.fp ++ fpS r := rfl
theorem fpS_app (z r : List AV) : fpS (z ++ r) = fpS z ++ fpS r := by simp [fpS]
def Alive (as ag : List AV) (z : AV) : Prop := match z with
  | .al r p => (atA as ag r p).isSome = true
  | _ => True
structure Good (F : FM) (S : Sto) (as ag : List AV) : Prop where
  fs : FS F S
  ok : ∀ z ∈ as ++ ag, z.ok F S
  nd : (fpS (as ++ ag)).Nodup
  al : ∀ z ∈ as ++ ag, Alive as ag z
structure Ev (q : Bool) (F : FM) (S : Sto) (as ag : List AV) (x0 : List Nat) (F' : FM) (S' : Sto) (as' ag' : List AV) (x : List Nat) : Prop where
  good : Good F' S' as' ag'
  nd : (fpS (as' ++ ag') ++ x).Nodup
  lt : ∀ n ∈ x, n < S'.length
  mono : Mono F F'
  len : S.length ≤ S'.length
  keep : ∀ n, n < S.length → n ∉ fpS (as ++ ag) ++ x0 → F' n = F n ∧ S'[n]? = S[n]?
  new : ∀ n, n ∈ fpS (as' ++ ag') ++ x → n ∈ fpS (as ++ ag) ++ x0 ∨ S.length ≤ n
  gl : ∀ ad, glS as' ag' ad as' = glS as ag ad as
  gg : ∀ ad, glS as' ag' ad ag' = glS as ag ad ag
  rt : ∀ r w, (rootA as ag r).map A.pv = some w → (rootA as' ag' r).map A.pv = some w
  per : q = true → ∀ r p w, (atA as ag r p).map A.pv = some w → (atA as' ag' r p).map A.pv = some w
section
variable {as as' as'' ag ag' ag'' : List AV} {x0 x x1 x2 : List Nat} {q q' : Bool} {F'' : FM} {S'' : Sto}
theorem Ev.refl (g : Good F S as ag) (nd : (fpS (as ++ ag) ++ x).Nodup) (lt : ∀ n ∈ x, n < S.length) : Ev q F S as ag x F S as ag x :=
  ⟨g, nd, lt, Mono.refl, Nat.le_refl _, fun _ _ _ => ⟨rfl, rfl⟩, fun _ h => .inl h, fun _ => rfl, fun _ => rfl, fun _ _ h => h, fun _ _ _ _ h => h⟩
theorem Ev.trans (a : Ev q F S as ag x0 F' S' as' ag' x1) (b : Ev q' F' S' as' ag' x1 F'' S'' as'' ag'' x2) : Ev (q && q') F S as ag x0 F'' S'' as'' ag'' x2 where
  good := b.good
  nd := b.nd
  lt := b.lt
  mono := a.mono.trans b.mono
  len := Nat.le_trans a.len b.len
  keep := fun n hn hx => by
    have h1 := a.keep n hn hx
    have h2 := b.keep n (Nat.lt_of_lt_of_le hn a.len) fun h => by
      rcases a.new n h with h | h
      · exact hx h
      · exact absurd hn (Nat.not_lt.mpr h)
    exact ⟨h2.1.trans h1.1, h2.2.trans h1.2⟩
  new := fun n hn => by
    rcases b.new n hn with h | h
    · exact a.new n h
    · exact .inr (Nat.le_trans a.len h)
  gl := fun ad => (b.gl ad).trans (a.gl ad)
  gg := fun ad => (b.gg ad).trans (a.gg ad)
  rt := fun r w h => b.rt r w (a.rt r w h)
  per := fun hq r p w h => by
    obtain ⟨h1, h2⟩ := Bool.and_eq_true_iff.mp hq
    exact b.per h2 r p w (a.per h1 r p w h)
theorem Ev.weak (a : Ev q F S as ag x0 F' S' as' ag' x) (h : q' = true → q = true) : Ev q' F S as ag x0 F' S' as' ag' x :=
  ⟨a.good, a.nd, a.lt, a.mono, a.len, a.keep, a.new, a.gl, a.gg, a.rt, fun e => a.per (h e)⟩
theorem Ev.sub (a : Ev q F S as ag x0 F' S' as' ag' x) {y : List Nat} (h : y.Sublist x) : Ev q F S as ag x0 F' S' as' ag' y :=
  ⟨a.good, a.nd.sublist (List.Sublist.append_left h _), fun n hn => a.lt n (h.subset hn), a.mono, a.len, a.keep, fun n hn => a.new n (by
    rcases List.mem_append.mp hn with t | t
    · exact List.mem_append_left _ t
    · exact List.mem_append_right _ (h.subset t)), a.gl, a.gg, a.rt, a.per⟩
theorem nodup_app_comm3 {a b c : List Nat} (h : (a ++ (b ++ c)).Nodup) : (a ++ (c ++ b)).Nodup := by
  refine (List.Perm.nodup_iff ?_).mp h
  exact (List.Perm.append_left _ List.perm_append_comm)
theorem Ev.frame (a : Ev q F S as ag x0 F' S' as' ag' x) {z : List Nat} (hn : (fpS (as ++ ag) ++ (z ++ x0)).Nodup) (hz : ∀ n ∈ z, n < S.length) : Ev q F S as ag (z ++ x0) F' S' as' ag' (z ++ x) := by
  have hd : ∀ n ∈ z, n ∉ fpS (as ++ ag) ++ x0 := fun n hz hx => by
    have h1 := List.nodup_append.mp hn
    have h2 := List.nodup_append.mp h1.2.1
    rcases List.mem_append.mp hx with t | t
    · exact h1.2.2 n t n (List.mem_append_left _ hz) rfl
    · exact h2.2.2 n hz n t rfl
  have hd2 : ∀ n ∈ z, n ∉ fpS (as' ++ ag') ++ x := fun n hz' hx => by
    rcases a.new n hx with t | t
    · exact hd n hz' t
    · exact absurd (hz n hz') (Nat.not_lt.mpr t)
  refine ⟨a.good, ?_, fun n hn => ?_, a.mono, a.len, fun n hl hx => a.keep n hl fun h => hx ?_, fun n h => ?_, a.gl, a.gg, a.rt, a.per⟩
  · have h1 := List.nodup_append.mp a.nd
    refine List.nodup_append.mpr ⟨h1.1, List.nodup_append.mpr ⟨?_, h1.2.1, fun n h m h' e => ?_⟩, fun n h m h' e => ?_⟩
    · exact (List.nodup_append.mp (List.nodup_append.mp hn).2.1).1
    · exact hd2 n h (e ▸ List.mem_append_right _ h')
    · rcases List.mem_append.mp h' with t | t
      · exact hd2 m t (e ▸ List.mem_append_left _ h)
      · exact h1.2.2 n h m t e
  · rcases List.mem_append.mp hn with t | t
    · exact Nat.lt_of_lt_of_le (hz n t) a.len
    · exact a.lt n t
  · rcases List.mem_append.mp h with t | t
    · exact List.mem_append_left _ t
    · exact List.mem_append_right _ (List.mem_append_right _ t)
  · have : n ∈ z ∨ n ∈ fpS (as' ++ ag') ++ x := by
      simp only [List.mem_append] at h ⊢
      rcases h with h | h | h <;> simp [h]
    rcases this with t | t
    · exact .inl (List.mem_append_right _ (List.mem_append_left _ t))
    · rcases a.new n t with u | u
      · left
        simp only [List.mem_append] at u ⊢
        rcases u with u | u <;> simp [u]
      · exact .inr u
theorem Ev.stay (a : Ev q F S as ag x0 F' S' as' ag' x) {z : A} (h : z.ok F S) (hn : (fpS (as ++ ag) ++ (z.fp ++ x0)).Nodup) (fs : FS F S) : z.ok F' S' :=
  ok_frame a.mono (fun n hz => a.keep n (fp_lt fs h n hz) fun hx => by
    have h1 := List.nodup_append.mp hn
    have h2 := List.nodup_append.mp h1.2.1
    rcases List.mem_append.mp hx with t | t
    · exact h1.2.2 n t n (List.mem_append_left _ hz) rfl
    · exact h2.2.2 n hz n t rfl) h
end
structure RT (α β γ : Type) where
  er : γ → β
  pv : List AV → List AV → γ → Option α
  ok : FM → Sto → γ → Prop
  fp : γ → List Nat
inductive ARV where
  | v (a : A) | pth (r : Rt) (p : List Nat)
def ARV.er : ARV → RV
  | .v a => .v a.er
  | .pth r p => .pth r p
def ARV.pv (as ag : List AV) : ARV → Option PV
  | .v a => some a.pv
  | .pth r p => (atA as ag r p).map A.pv
def ARV.ok (F : FM) (S : Sto) : ARV → Prop
  | .v a => a.ok F S
  | .pth _ _ => True
def ARV.fp : ARV → List Nat
  | .v a => a.fp
  | .pth _ _ => []
def RE : RT PV RV ARV := ⟨ARV.er, ARV.pv, ARV.ok, ARV.fp⟩
def RB : RT Bool Bool Bool := ⟨id, fun _ _ b => some b, fun _ _ _ => True, fun _ => []⟩
def RO : RT (Option Int) (Option Int) (Option Int) := ⟨id, fun _ _ b => some b, fun _ _ _ => True, fun _ => []⟩
def seqO {α : Type} : List (Option α) → Option (List α)
  | [] => some []
  | x :: r => match x, seqO r with
    | some y, some ys => some (y :: ys)
    | _, _ => none
def RA : RT (List PV) (List RV) (List ARV) := ⟨List.map ARV.er, fun as ag cs => seqO (cs.map (ARV.pv as ag)), fun F S cs => ∀ c ∈ cs, c.ok F S, List.flatMap ARV.fp⟩
structure AE where
  cls : Nm
  ns : List Nm
  xs : List A
def AE.er (e : AE) : Exn := ⟨e.cls, e.ns, A.ers e.xs⟩
def AE.gl (e : AE) : GL.Exn := ⟨e.cls, e.ns.zip (A.pvs e.xs)⟩
def AE.ok (F : FM) (S : Sto) (e : AE) : Prop := e.ns.length = e.xs.length ∧ A.fps e.xs = [] ∧ A.oks F S e.xs
abbrev AD := Nat × Nat
abbrev PX (β : Type) := Ls → Ls → Out β
def SimO {α β γ : Type} (q : Bool) (R : RT α β γ) (F : FM) (S : Sto) (as ag : List AV) (x0 : List Nat) (o : AD → GL.Out α) (p : Out β) : Prop := match p with
  | .ok b ls' gh' => ∃ F' S' as' ag' c w, erS as' = ls' ∧ erS ag' = gh' ∧ R.er c = b ∧ (∀ ad, o ad = .ok w S') ∧ R.pv as' ag' c = some w ∧ R.ok F' S' c ∧ Ev q F S as ag x0 F' S' as' ag' (R.fp c)
  | .exc e ls' gh' => ∃ F' S' as' ag' x, erS as' = ls' ∧ erS ag' = gh' ∧ AE.er x = e ∧ (∀ ad, o ad = .exc x.gl S') ∧ x.ok F' S' ∧ Ev q F S as ag x0 F' S' as' ag' []
  | .bad => True
def SimX {α β γ : Type} (q : Bool) (R : RT α β γ) (m : AD → GL.Ls → Sto → GL.Out α) (p : PX β) : Prop :=
  ∀ F S as ag, Good F S as ag → SimO q R F S as ag [] (fun ad => m ad (glS as ag ad as) S) (p (erS as) (erS ag))
abbrev SimE (q : Bool) (m : AD → GL.ME) (p : PX RV) : Prop := SimX q RE m p
abbrev SimT (q : Bool) (m : AD → GL.MT) (p : PX Bool) : Prop := SimX q RB m p
abbrev SimA (q : Bool) (m : AD → GL.MA) (p : PX (List RV)) : Prop := SimX q RA m p
def Out.bind {α β : Type} (o : Out α) (f : α → Ls → Ls → Out β) : Out β := match o with
  | .ok a ls gh => f a ls gh
  | .exc e ls gh => .exc e ls gh
  | .bad => .bad
theorem SimO.weak {α β γ : Type} {R : RT α β γ} {q q' : Bool} {as ag : List AV} {x0 : List Nat} {o : AD → GL.Out α} {p : Out β} (h : SimO q R F S as ag x0 o p) (hq : q' = true → q = true) : SimO q' R F S as ag x0 o p := by
  cases p with
  | ok b ls gh => obtain ⟨F', S', as', ag', c, w, a1, a2, a3, a4, a5, a6, a7⟩ := h; exact ⟨F', S', as', ag', c, w, a1, a2, a3, a4, a5, a6, a7.weak hq⟩
  | exc e ls gh => obtain ⟨F', S', as', ag', x, a1, a2, a3, a4, a5, a7⟩ := h; exact ⟨F', S', as', ag', x, a1, a2, a3, a4, a5, a7.weak hq⟩
  | bad => trivial
theorem sim_bind {α β γ α' β' γ' : Type} {R : RT α β γ} {R' : RT α' β' γ'} {q q' : Bool} {as ag : List AV} {x0 : List Nat} {o : AD → GL.Out α} {p : Out β} {f : AD → α → Sto → GL.Out α'} {k : β → Ls → Ls → Out β'}
    (h : SimO q R F S as ag x0 o p)
    (hk : ∀ F' S' as' ag' c w, R.pv as' ag' c = some w → R.ok F' S' c → Ev q F S as ag x0 F' S' as' ag' (R.fp c) → SimO q' R' F' S' as' ag' (R.fp c) (fun ad => f ad w S') (k (R.er c) (erS as') (erS ag'))) :
    SimO (q && q') R' F S as ag x0 (fun ad => (o ad).bind (f ad)) (p.bind k) := by
  cases p with
  | bad => trivial
  | exc e ls gh =>
    obtain ⟨F', S', as', ag', x, a1, a2, a3, a4, a5, a6⟩ := h
    exact ⟨F', S', as', ag', x, a1, a2, a3, fun ad => by show (o ad).bind (f ad) = _; rw [a4]; rfl, a5, a6.weak fun e => (Bool.and_eq_true_iff.mp e).1⟩
  | ok b ls gh =>
    obtain ⟨F', S', as', ag', c, w, rfl, rfl, rfl, a4, a5, a6, a7⟩ := h
    have h2 := hk F' S' as' ag' c w a5 a6 a7
    show SimO _ _ _ _ _ _ _ _ (k (R.er c) (erS as') (erS ag'))
    cases hp : k (R.er c) (erS as') (erS ag') with
    | bad => trivial
    | exc e ls gh =>
      rw [hp] at h2
      obtain ⟨F2, S2, as2, ag2, x, b1, b2, b3, b4, b5, b6⟩ := h2
      exact ⟨F2, S2, as2, ag2, x, b1, b2, b3, fun ad => by show (o ad).bind (f ad) = _; rw [a4]; exact b4 ad, b5, a7.trans b6⟩
    | ok b ls gh =>
      rw [hp] at h2
      obtain ⟨F2, S2, as2, ag2, c2, w2, b1, b2, b3, b4, b5, b6, b7⟩ := h2
      exact ⟨F2, S2, as2, ag2, c2, w2, b1, b2, b3, fun ad => by show (o ad).bind (f ad) = _; rw [a4]; exact b4 ad, b5, b6, a7.trans b7⟩
end VL
set_option Elab.async false
set_option linter.all false
set_option maxRecDepth 100000
set_option maxHeartbeats 1000000
namespace VL
open GL (PV OB Sto Nm BT)
variable {F F' : FM} {S S' : Sto}
def cut : List Nat → List Nat → Option (List Nat)
  | [], s => some s
  | i :: p, j :: s => if i = j then cut p s else none
  | _ :: _, [] => none
theorem cut_app : ∀ (p s : List Nat), cut p (p ++ s) = some s
  | [], s => rfl
  | i :: p, s => by show cut (i :: p) (i :: (p ++ s)) = _; unfold cut; rw [if_pos rfl]; exact cut_app p s
def lives (t : List Nat → Bool) (r : Rt) (p : List Nat) (r' : Rt) (p' : List Nat) : Bool :=
  if r' = r then (match cut p p' with
    | some s => t s
    | none => true) else true
theorem lives_all {t : List Nat → Bool} {r r' : Rt} {p p' : List Nat} (h : ∀ s, t s = true) : lives t r p r' p' = true := by
  unfold lives
  split
  · split
    · exact h _
    · rfl
  · rfl
def killD (t : List Nat → Bool) (r : Rt) (p : List Nat) : Option V → Option V
  | some (.al r' p') => if lives t r p r' p' = true then some (.al r' p') else none
  | z => z
def putV (d : D) : Option V → Option V
  | some (.v _) => some (.v d)
  | some (.io _) => some (.io d)
  | z => z
def modN {α : Type} (f : α → α) : Nat → List α → List α
  | _, [] => []
  | 0, x :: r => f x :: r
  | i + 1, x :: r => x :: modN f i r
theorem modN_map {α β : Type} (e : α → β) (f : α → α) (g : β → β) (h : ∀ x, e (f x) = g (e x)) : ∀ (i : Nat) (xs : List α), (modN f i xs).map e = modN g i (xs.map e)
  | _, [] => by simp [modN]
  | 0, x :: r => by simp [modN, h]
  | i + 1, x :: r => by simp [modN, modN_map e f g h i r]
theorem modN_get {α : Type} (f : α → α) : ∀ (i j : Nat) (xs : List α), (modN f i xs)[j]? = if i = j then xs[j]?.map f else xs[j]?
  | _, _, [] => by simp [modN]
  | 0, 0, x :: r => by simp [modN]
  | 0, j + 1, x :: r => by simp [modN]
  | i + 1, 0, x :: r => by simp [modN]
  | i + 1, j + 1, x :: r => by simp [modN, modN_get f i j r]
def chD (t : List Nat → Bool) (r : Rt) (p : List Nat) (y : D) (ls gh : Ls) : Ls × Ls :=
  let z := (rootD ls gh r).map fun d => setP p d y
  match r, z with
  | .l i, some d => (modN (putV d) i (ls.map (killD t r p)), gh.map (killD t r p))
  | .g j, some d => (ls.map (killD t r p), modN (putV d) j (gh.map (killD t r p)))
  | _, none => (ls, gh)
def killA (as ag : List AV) (t : List Nat → Bool) (r : Rt) (p : List Nat) : AV → AV
  | .al r' p' => if lives t r p r' p' = true then .al r' p' else .un ((atA as ag r' p').map A.pv)
  | z => z
def putA (a : A) : AV → AV
  | .v _ => .v a
  | .io _ => .io a
  | z => z
def chA (t : List Nat → Bool) (r : Rt) (p : List Nat) (y : A) (as ag : List AV) : List AV × List AV :=
  let z := (rootA as ag r).map fun d => setA p d y
  match r, z with
  | .l i, some d => (modN (putA d) i (as.map (killA as ag t r p)), ag.map (killA as ag t r p))
  | .g j, some d => (as.map (killA as ag t r p), modN (putA d) j (ag.map (killA as ag t r p)))
  | _, none => (as, ag)
theorem kill_er (as ag : List AV) (t : List Nat → Bool) (r : Rt) (p : List Nat) (z : AV) : (killA as ag t r p z).er = killD t r p z.er := by
  cases z with
  | al r' p' => simp only [killA, AV.er, killD]; by_cases h : lives t r p r' p' = true <;> simp [h]
  | _ => rfl
theorem put_er (a : A) (z : AV) : (putA a z).er = putV a.er z.er := by cases z <;> rfl
theorem ch_er (t : List Nat → Bool) (r : Rt) (p : List Nat) (y : A) (as ag : List AV) : (erS (chA t r p y as ag).1, erS (chA t r p y as ag).2) = chD t r p y.er (erS as) (erS ag) := by
  have k : ∀ zs : List AV, erS (zs.map (killA as ag t r p)) = (erS zs).map (killD t r p) := fun zs => by
    simp only [erS, List.map_map]
    exact List.map_congr_left fun z _ => kill_er as ag t r p z
  unfold chA chD
  rw [root_er]
  cases r with
  | l i =>
    cases h : rootA as ag (.l i) with
    | none => rfl
    | some a =>
      simp only [Option.map_some]
      rw [← set_er, ← k, ← k]
      congr 1
      exact modN_map _ _ _ (fun x => put_er _ x) i _
  | g i =>
    cases h : rootA as ag (.g i) with
    | none => rfl
    | some a =>
      simp only [Option.map_some]
      rw [← set_er, ← k, ← k]
      congr 1
      exact modN_map _ _ _ (fun x => put_er _ x) i _
theorem kill_fp (as ag : List AV) (t : List Nat → Bool) (r : Rt) (p : List Nat) (z : AV) : (killA as ag t r p z).fp = z.fp := by
  cases z with
  | al r' p' => simp only [killA]; split <;> rfl
  | _ => rfl
theorem kill_fpS (as ag : List AV) (t : List Nat → Bool) (r : Rt) (p : List Nat) (zs : List AV) : fpS (zs.map (killA as ag t r p)) = fpS zs := by
  unfold fpS
  rw [List.flatMap_map]
  exact congrArg List.flatten (List.map_congr_left fun z _ => kill_fp as ag t r p z)
theorem kill_slot (as ag : List AV) (t : List Nat → Bool) (r : Rt) (p : List Nat) (z : Option AV) : slotA (z.map (killA as ag t r p)) = slotA z := by
  cases z with
  | none => rfl
  | some z =>
    cases z with
    | al r' p' => simp only [Option.map_some, killA]; split <;> rfl
    | _ => rfl
theorem slot_some {z : Option AV} {a : A} (h : slotA z = some a) : z = some (.v a) ∨ z = some (.io a) := by
  cases z with
  | none => cases h
  | some z => cases z <;> simp_all [slotA]
theorem mod_fp {zs : List AV} {i : Nat} {a : A} (h : slotA zs[i]? = some a) : ∃ L R, fpS zs = L ++ a.fp ++ R ∧ ∀ b : A, fpS (modN (putA b) i zs) = L ++ b.fp ++ R := by
  induction zs generalizing i with
  | nil => simp [slotA] at h
  | cons z r ih =>
    cases i with
    | zero =>
      refine ⟨[], fpS r, ?_, fun b => ?_⟩
      · rcases slot_some h with e | e <;> (simp at e; subst e; simp [fpS, AV.fp])
      · rcases slot_some h with e | e <;> (simp at e; subst e; simp [fpS, AV.fp, modN, putA])
    | succ i =>
      obtain ⟨L, R, e1, e2⟩ := ih (i := i) (by simpa using h)
      exact ⟨z.fp ++ L, R, by simp [fpS_cons, e1], fun b => by simp [modN, fpS_cons, e2]⟩
section
variable {t : List Nat → Bool} {r : Rt} {p : List Nat} {as ag : List AV} {a x y : A}
theorem ch_root (hr : rootA as ag r = some a) (r' : Rt) : rootA (chA t r p y as ag).1 (chA t r p y as ag).2 r' = if r' = r then some (setA p a y) else rootA as ag r' := by
  unfold chA
  rw [hr]
  cases r with
  | l i =>
    simp only [Option.map_some]
    cases r' with
    | l j =>
      simp only [rootA, modN_get, Rt.l.injEq, List.getElem?_map]
      by_cases hij : i = j
      · subst hij
        simp only [if_true, List.getElem?_map]
        rcases slot_some (show slotA as[i]? = some a from hr) with e | e <;> (rw [e]; rfl)
      · rw [if_neg hij, if_neg (fun e => hij e.symm)]
        rw [← List.getElem?_map, List.getElem?_map, kill_slot]
    | g j => simp only [rootA, List.getElem?_map, kill_slot, reduceCtorEq, if_false]
  | g i =>
    simp only [Option.map_some]
    cases r' with
    | g j =>
      simp only [rootA, modN_get, Rt.g.injEq, List.getElem?_map]
      by_cases hij : i = j
      · subst hij
        simp only [if_true, List.getElem?_map]
        rcases slot_some (show slotA ag[i]? = some a from hr) with e | e <;> (rw [e]; rfl)
      · rw [if_neg hij, if_neg (fun e => hij e.symm)]
        rw [← List.getElem?_map, List.getElem?_map, kill_slot]
    | l j => simp only [rootA, List.getElem?_map, kill_slot, reduceCtorEq, if_false]
theorem ch_fp (hr : rootA as ag r = some a) : ∃ L R, fpS (as ++ ag) = L ++ a.fp ++ R ∧ fpS ((chA t r p y as ag).1 ++ (chA t r p y as ag).2) = L ++ (setA p a y).fp ++ R := by
  unfold chA
  rw [hr]
  cases r with
  | l i =>
    simp only [Option.map_some]
    have h2 : slotA (as.map (killA as ag t (.l i) p))[i]? = some a := by rw [List.getElem?_map, kill_slot]; exact hr
    obtain ⟨L, R, e1, e2⟩ := mod_fp h2
    refine ⟨L, R ++ fpS ag, ?_, ?_⟩
    · rw [kill_fpS] at e1
      rw [fpS_app, e1]; simp
    · rw [fpS_app, e2, kill_fpS]; simp
  | g i =>
    simp only [Option.map_some]
    have h2 : slotA (ag.map (killA as ag t (.g i) p))[i]? = some a := by rw [List.getElem?_map, kill_slot]; exact hr
    obtain ⟨L, R, e1, e2⟩ := mod_fp h2
    refine ⟨fpS as ++ L, R, ?_, ?_⟩
    · rw [kill_fpS] at e1
      rw [fpS_app, e1]; simp
    · rw [fpS_app, e2, kill_fpS]; simp
theorem modN_take {α : Type} {f : α → α} : ∀ {i : Nat} {zs : List α} {z : α}, zs[i]? = some z → modN f i zs = zs.take i ++ f z :: zs.drop (i + 1)
  | _, [], _, h => by simp at h
  | 0, x :: r, z, h => by simp at h; subst h; rfl
  | i + 1, x :: r, z, h => by
    have e := modN_take (f := f) (i := i) (zs := r) (z := z) (by simpa using h)
    rw [modN, e]; rfl
theorem take_self {α : Type} {i : Nat} {zs : List α} {z : α} (h : zs[i]? = some z) : zs = zs.take i ++ z :: zs.drop (i + 1) := by
  have e := modN_take (f := id) h
  rw [id] at e
  rw [← e]
  apply List.ext_getElem?
  intro j
  rw [modN_get]
  split <;> simp
theorem split_root (hr : rootA as ag r = some a) : ∃ Z1 zr Z2, as ++ ag = Z1 ++ zr :: Z2 ∧ (zr = .v a ∨ zr = .io a) ∧ (chA t r p y as ag).1 ++ (chA t r p y as ag).2 = Z1.map (killA as ag t r p) ++ putA (setA p a y) zr :: Z2.map (killA as ag t r p) := by
  unfold chA
  rw [hr]
  have key : ∀ (i : Nat) (zs : List AV), slotA zs[i]? = some a → ∃ A zr B, zs = A ++ zr :: B ∧ (zr = .v a ∨ zr = .io a) ∧ modN (putA (setA p a y)) i (zs.map (killA as ag t r p)) = A.map (killA as ag t r p) ++ putA (setA p a y) zr :: B.map (killA as ag t r p) := fun i zs hs => by
    have : ∃ zr, zs[i]? = some zr ∧ (zr = .v a ∨ zr = .io a) := by
      rcases slot_some hs with e | e
      · exact ⟨_, e, .inl rfl⟩
      · exact ⟨_, e, .inr rfl⟩
    obtain ⟨zr, hz, hc⟩ := this
    have hk : killA as ag t r p zr = zr := by rcases hc with rfl | rfl <;> rfl
    refine ⟨zs.take i, zr, zs.drop (i + 1), take_self hz, hc, ?_⟩
    rw [modN_take (z := zr) (by rw [List.getElem?_map, hz, Option.map_some, hk]), List.map_take, List.map_drop]
  cases r with
  | l i =>
    obtain ⟨A, zr, B, e1, e2, e3⟩ := key i as hr
    refine ⟨A, zr, B ++ ag, by rw [e1]; simp, e2, ?_⟩
    simp only [Option.map_some]
    rw [e3]; simp
  | g i =>
    obtain ⟨A, zr, B, e1, e2, e3⟩ := key i ag hr
    refine ⟨as ++ A, zr, B, by rw [e1]; simp, e2, ?_⟩
    simp only [Option.map_some]
    rw [e3]; simp
theorem mem_ch (nd : (fpS (as ++ ag)).Nodup) (hr : rootA as ag r = some a) {z : AV} (h : z ∈ (chA t r p y as ag).1 ++ (chA t r p y as ag).2) : (∃ z0 ∈ as ++ ag, z = killA as ag t r p z0 ∧ ∀ n ∈ z0.fp, n ∉ a.fp) ∨ z = .v (setA p a y) ∨ z = .io (setA p a y) := by
  obtain ⟨Z1, zr, Z2, e1, e2, e3⟩ := split_root (t := t) (p := p) (y := y) hr
  rw [e3] at h
  have hzr : zr.fp = a.fp := by rcases e2 with rfl | rfl <;> rfl
  have nd' : (fpS Z1 ++ (a.fp ++ fpS Z2)).Nodup := by rw [← hzr, ← fpS_cons, ← fpS_app, ← e1]; exact nd
  have d1 := List.nodup_append.mp nd'
  have d2 := List.nodup_append.mp d1.2.1
  rcases List.mem_append.mp h with h | h
  · obtain ⟨z0, h0, rfl⟩ := List.mem_map.mp h
    refine .inl ⟨z0, by rw [e1]; exact List.mem_append_left _ h0, rfl, fun n hn hx => d1.2.2 n (List.mem_flatMap.mpr ⟨z0, h0, hn⟩) n (List.mem_append_left _ hx) rfl⟩
  · rcases List.mem_cons.mp h with rfl | h
    · rcases e2 with rfl | rfl
      · exact .inr (.inl rfl)
      · exact .inr (.inr rfl)
    · obtain ⟨z0, h0, rfl⟩ := List.mem_map.mp h
      exact .inl ⟨z0, by rw [e1]; exact List.mem_append_right _ (List.mem_cons_of_mem _ h0), rfl, fun n hn hx => d2.2.2 n hx n (List.mem_flatMap.mpr ⟨z0, h0, hn⟩) rfl⟩
theorem ch_per (hr : rootA as ag r = some a) (hx : getA p a = some x) (hv : y.pv = x.pv) (hp : Per (fun s => t s = true) x y) {r' : Rt} {p' : List Nat} (hl : lives t r p r' p' = true) {w : PV} (h : (atA as ag r' p').map A.pv = some w) :
    (atA (chA t r p y as ag).1 (chA t r p y as ag).2 r' p').map A.pv = some w := by
  unfold atA at h ⊢
  rw [ch_root hr]
  split
  · rename_i e; subst e
    rw [hr] at h
    refine per_set p a x y hx hv hp p' w (fun s hs => ?_) h
    unfold lives at hl
    rw [if_pos rfl, hs, cut_app] at hl
    exact hl
  · exact h
theorem ch_glv (hr : rootA as ag r = some a) (hx : getA p a = some x) (hv : y.pv = x.pv) (hp : Per (fun s => t s = true) x y) (hal : ∀ z ∈ as ++ ag, Alive as ag z) (ad : Nat × Nat) {z : AV} (hz : z ∈ as ++ ag) :
    glv (chA t r p y as ag).1 (chA t r p y as ag).2 ad (killA as ag t r p z) = glv as ag ad z := by
  cases z with
  | al r' p' =>
    simp only [killA]
    split
    · rename_i hl
      have hs : (atA as ag r' p').isSome = true := hal _ hz
      obtain ⟨b, hb⟩ := Option.isSome_iff_exists.mp hs
      simp only [glv]
      rw [ch_per hr hx hv hp hl (w := b.pv) (by rw [hb]; rfl), hb]; rfl
    · rfl
  | _ => rfl
theorem ch_gl (hr : rootA as ag r = some a) (hx : getA p a = some x) (hv : y.pv = x.pv) (hp : Per (fun s => t s = true) x y) (hal : ∀ z ∈ as ++ ag, Alive as ag z) (ad : Nat × Nat) :
    glS (chA t r p y as ag).1 (chA t r p y as ag).2 ad (chA t r p y as ag).1 = glS as ag ad as ∧ glS (chA t r p y as ag).1 (chA t r p y as ag).2 ad (chA t r p y as ag).2 = glS as ag ad ag := by
  have sv := set_pv p a y x hx hv
  have plain : ∀ zs : List AV, (∀ z ∈ zs, z ∈ as ++ ag) → (zs.map (killA as ag t r p)).map (glv (chA t r p y as ag).1 (chA t r p y as ag).2 ad) = zs.map (glv as ag ad) := fun zs hz => by
    rw [List.map_map]
    exact List.map_congr_left fun z h => ch_glv hr hx hv hp hal ad (hz z h)
  have md : ∀ (i : Nat) (zs : List AV), slotA zs[i]? = some a → (∀ z ∈ zs, z ∈ as ++ ag) → (modN (putA (setA p a y)) i (zs.map (killA as ag t r p))).map (glv (chA t r p y as ag).1 (chA t r p y as ag).2 ad) = zs.map (glv as ag ad) := fun i zs hs hz => by
    rw [← plain zs hz]
    apply List.ext_getElem?
    intro j
    rw [List.getElem?_map, modN_get, List.getElem?_map]
    split
    · rename_i e; subst e
      rw [List.getElem?_map]
      rcases slot_some hs with e | e
      · simp [e, killA, putA, glv, sv]
      · simp [e, killA, putA, glv, sv]
    · rw [List.getElem?_map, List.getElem?_map]
  have ha := plain as (fun z h => List.mem_append_left _ h)
  have hg := plain ag (fun z h => List.mem_append_right _ h)
  cases r with
  | l i =>
    have hm := md i as hr (fun z h => List.mem_append_left _ h)
    have e : chA t (.l i) p y as ag = (modN (putA (setA p a y)) i (as.map (killA as ag t (.l i) p)), ag.map (killA as ag t (.l i) p)) := by unfold chA; rw [hr]; rfl
    rw [e] at hm hg ⊢
    exact ⟨hm, hg⟩
  | g i =>
    have hm := md i ag hr (fun z h => List.mem_append_right _ h)
    have e : chA t (.g i) p y as ag = (as.map (killA as ag t (.g i) p), modN (putA (setA p a y)) i (ag.map (killA as ag t (.g i) p))) := by unfold chA; rw [hr]; rfl
    rw [e] at hm ha ⊢
    exact ⟨ha, hm⟩
theorem ev_ch {q : Bool} {x0 x1 : List Nat} (hq : q = true → ∀ s, t s = true) (g : Good F S as ag) (nd : (fpS (as ++ ag) ++ x0).Nodup) (hr : rootA as ag r = some a) (hx : getA p a = some x) (hs : x.shr = false) (hv : y.pv = x.pv) (hp : Per (fun s => t s = true) x y)
    (m : Mono F F') (fs : FS F' S') (len : S.length ≤ S'.length) (keep : ∀ n, n < S.length → n ∉ x.fp ++ x0 → F' n = F n ∧ S'[n]? = S[n]?) (hy : y.ok F' S') (hn : (y.fp ++ x1).Nodup)
    (new : ∀ n, n ∈ y.fp ++ x1 → n ∈ x.fp ++ x0 ∨ S.length ≤ n) (lt : ∀ n ∈ x1, n < S'.length) :
    Ev q F S as ag x0 F' S' (chA t r p y as ag).1 (chA t r p y as ag).2 x1 := by
  have aok : a.ok F S := by
    have : ∃ z ∈ as ++ ag, z = .v a ∨ z = .io a := by
      cases r with
      | l i => rcases slot_some hr with e | e <;> exact ⟨_, List.mem_append_left _ (List.mem_of_getElem? e), by simp⟩
      | g i => rcases slot_some hr with e | e <;> exact ⟨_, List.mem_append_right _ (List.mem_of_getElem? e), by simp⟩
    obtain ⟨z, hz, rfl | rfl⟩ := this
    · exact g.ok _ hz
    · exact g.ok _ hz
  obtain ⟨xok, L, R, e1, e2, e3⟩ := focus p a x aok hx hs
  obtain ⟨L2, R2, f1, f2⟩ := ch_fp (t := t) (p := p) (y := y) hr
  rw [e1] at f1
  rw [e2] at f2
  have xlt := fp_lt g.fs xok
  have apart : ∀ n, n ∈ L2 ++ L ∨ n ∈ R ++ R2 → n < S.length ∧ n ∉ x.fp ++ x0 ∧ n ∉ y.fp ++ x1 := fun n hn' => by
    have hmem : n ∈ fpS (as ++ ag) := by rw [f1]; simp only [List.mem_append] at hn' ⊢; rcases hn' with (h | h) | h | h <;> simp [h]
    have hlt : n < S.length := by
      unfold fpS at hmem
      obtain ⟨z, hz, hq⟩ := List.mem_flatMap.mp hmem
      have zok := g.ok z hz
      cases z with
      | v b => exact fp_lt g.fs zok n hq
      | io b => exact fp_lt g.fs zok n hq
      | _ => cases hq
    have hnx : n ∉ x.fp ++ x0 := by
      rw [f1] at nd
      intro hx'
      have nd' : ((L2 ++ L) ++ (x.fp ++ (R ++ R2)) ++ x0).Nodup := by simpa using nd
      have d1 := List.nodup_append.mp nd'
      have d2 := List.nodup_append.mp d1.1
      have d3 := List.nodup_append.mp d2.2.1
      rcases List.mem_append.mp hx' with u | u
      · rcases hn' with v | v
        · exact d2.2.2 n v n (List.mem_append_left _ u) rfl
        · exact d3.2.2 n u n v rfl
      · refine d1.2.2 n ?_ n u rfl
        rcases hn' with v | v
        · exact List.mem_append_left _ v
        · exact List.mem_append_right _ (List.mem_append_right _ v)
    refine ⟨hlt, hnx, fun hy' => ?_⟩
    rcases new n hy' with u | u
    · exact hnx u
    · omega
  have agree : ∀ n, n ∈ L2 ++ L ∨ n ∈ R ++ R2 → F' n = F n ∧ S'[n]? = S[n]? := fun n h => keep n (apart n h).1 (apart n h).2.1
  have newok : (setA p a y).ok F' S' := e3 F' S' y m (fun n h => agree n (by simp only [List.mem_append]; rcases h with h | h <;> simp [h])) hy hv
  have ndall : (fpS ((chA t r p y as ag).1 ++ (chA t r p y as ag).2) ++ x1).Nodup := by
    rw [f2]
    have h0 : (L2 ++ L ++ (R ++ R2)).Nodup := by
      have : (L2 ++ (L ++ x.fp ++ R) ++ R2).Nodup := by rw [← f1]; exact g.nd
      refine this.sublist ?_
      have s1 : (L ++ R).Sublist (L ++ x.fp ++ R) := by
        have : (L ++ ([] ++ R)).Sublist (L ++ (x.fp ++ R)) := List.Sublist.append_left (List.Sublist.append_right (List.nil_sublist _) _) _
        simpa using this
      have : (L2 ++ ((L ++ R) ++ R2)).Sublist (L2 ++ ((L ++ x.fp ++ R) ++ R2)) := List.Sublist.append_left (List.Sublist.append_right s1 _) _
      simpa using this
    have h1 : ((L2 ++ L ++ (R ++ R2)) ++ (y.fp ++ x1)).Nodup := List.nodup_append.mpr ⟨h0, hn, fun n h k h' e => by
      subst e
      exact (apart n (List.mem_append.mp h)).2.2 h'⟩
    refine (List.Perm.nodup_iff ?_).mp h1
    simp only [List.append_assoc]
    refine List.Perm.append_left _ (List.Perm.append_left _ ?_)
    rw [← List.append_assoc, ← List.append_assoc]
    have : (R ++ R2 ++ (y.fp ++ x1)).Perm (y.fp ++ (R ++ R2) ++ x1) := by
      rw [← List.append_assoc]
      exact List.Perm.append_right _ List.perm_append_comm
    simpa using this
  have gl := fun ad => ch_gl (t := t) (p := p) hr hx hv hp g.al ad
  refine ⟨⟨fs, fun z hz => ?_, (List.nodup_append.mp ndall).1, fun z hz => ?_⟩, ndall, lt, m, len, fun n hl hx' => keep n hl fun h => hx' ?_, fun n h => ?_, fun ad => (gl ad).1, fun ad => (gl ad).2, fun r' w h => ?_, (fun h r' p' w hw => ch_per hr hx hv hp (lives_all (hq h)) hw)⟩
  · -- each slot holds
    have other : ∀ b : A, b.ok F S → (∀ n ∈ b.fp, n ∉ a.fp) → (∀ n ∈ b.fp, n ∈ fpS (as ++ ag)) → b.ok F' S' := fun b hb h1 h2 =>
      ok_frame m (fun n hn' => keep n (fp_lt g.fs hb n hn') fun hq => by
        rcases List.mem_append.mp hq with u | u
        · exact h1 n hn' (by rw [e1]; simp [u])
        · exact (List.nodup_append.mp nd).2.2 n (h2 n hn') n u rfl) hb
    have inS : ∀ z0 ∈ as ++ ag, ∀ n ∈ z0.fp, n ∈ fpS (as ++ ag) := fun z0 h0 n h => List.mem_flatMap.mpr ⟨z0, h0, h⟩
    rcases mem_ch g.nd hr hz with ⟨z0, h0, rfl, hd⟩ | rfl | rfl
    · cases z0 with
      | al r' p' => simp only [killA]; split <;> trivial
      | un o => trivial
      | v b => exact other b (g.ok _ h0) hd (inS _ h0)
      | io b => exact other b (g.ok _ h0) hd (inS _ h0)
      | xn C ns xs =>
        have := g.ok _ h0
        refine ⟨this.1, ?_⟩
        have t : (A.tup xs).ok F' S' := ok_frame (a := .tup xs) m (by rw [A.fp, this.1]; intro n hn'; cases hn') (show (A.tup xs).ok F S from this)
        exact t.2
    · exact newok
    · exact newok
  · rcases mem_ch g.nd hr hz with ⟨z0, h0, rfl, hd⟩ | rfl | rfl
    · cases z0 with
      | al r' p' =>
        simp only [killA]
        split
        · rename_i hl
          obtain ⟨b, hb⟩ := Option.isSome_iff_exists.mp (show (atA as ag r' p').isSome = true from g.al _ h0)
          have := ch_per hr hx hv hp hl (w := b.pv) (by rw [hb]; rfl)
          obtain ⟨c, hc, _⟩ := Option.map_eq_some_iff.mp this
          show (atA _ _ r' p').isSome = true
          rw [hc]; rfl
        · trivial
      | _ => trivial
    · trivial
    · trivial
  · rcases List.mem_append.mp h with u | u
    · refine List.mem_append_left _ ?_
      rw [f1]; simp [u]
    · exact List.mem_append_right _ u
  · rw [f2] at h
    by_cases hq : n ∈ y.fp ++ x1
    · rcases new n hq with u | u
      · left
        rcases List.mem_append.mp u with v | v
        · exact List.mem_append_left _ (by rw [f1]; simp [v])
        · exact List.mem_append_right _ v
      · exact .inr u
    · left
      refine List.mem_append_left _ ?_
      rw [f1]
      simp only [List.mem_append] at h hq ⊢
      rcases h with (((h | (h | h) | h) | h) | h) <;> simp_all
  · rw [ch_root hr]
    split
    · rename_i e; subst e
      rw [hr] at h
      rw [Option.map_some, set_pv p a y x hx hv]; exact h
    · exact h
end
end VL
set_option Elab.async false
set_option linter.all false
set_option maxRecDepth 100000
set_option maxHeartbeats 1000000
namespace VL
open GL (PV OB Sto Nm BT)
variable {F F' : FM} {S S' : Sto} {as as' ag ag' : List AV}
abbrev D.non : D := .sc .non
abbrev D.bl (b : Bool) : D := .sc (.bl b)
abbrev D.int (i : Int) : D := .sc (.int i)
abbrev D.str (s : List Nat) : D := .sc (.str s)
abbrev D.ty (b : BT) : D := .sc (.ty b)
abbrev D.lst (k : Fl) (xs : List D) : D := .nd k .lst xs
mutual
def dOf : PV → D
  | .non => .sc .non
  | .bl b => .sc (.bl b)
  | .int i => .sc (.int i)
  | .str s => .sc (.str s)
  | .tup xs => .tup (dOfs xs)
  | .gl x => .sc (.gl x)
  | .ty b => .sc (.ty b)
  | _ => .sc .non
def dOfs : List PV → List D
  | [] => []
  | x :: r => dOf x :: dOfs r
end
mutual
def aOf : PV → A
  | .non => .sc .non
  | .bl b => .sc (.bl b)
  | .int i => .sc (.int i)
  | .str s => .sc (.str s)
  | .tup xs => .tup (aOfs xs)
  | .gl x => .sc (.gl x)
  | .ty b => .sc (.ty b)
  | _ => .sc .non
def aOfs : List PV → List A
  | [] => []
  | x :: r => aOf x :: aOfs r
end
mutual
def rig : PV → Bool
  | .tup xs => rigs xs
  | .loc _ => false
  | .xn _ _ _ _ _ => false
  | _ => true
def rigs : List PV → Bool
  | [] => true
  | x :: r => rig x && rigs r
end
mutual
theorem aOf_er : ∀ w : PV, (aOf w).er = dOf w
  | .tup xs => by simp [aOf, A.er, dOf, aOfs_er xs]
  | .non => rfl
  | .bl _ => rfl
  | .int _ => rfl
  | .str _ => rfl
  | .gl _ => rfl
  | .ty _ => rfl
  | .loc _ => rfl
  | .xn _ _ _ _ _ => rfl
theorem aOfs_er : ∀ w : List PV, A.ers (aOfs w) = dOfs w
  | [] => rfl
  | x :: r => by simp [aOfs, A.ers, dOfs, aOf_er x, aOfs_er r]
end
mutual
theorem aOf_pv : ∀ {w : PV}, rig w = true → (aOf w).pv = w
  | .tup xs, h => by simp [aOf, A.pv, aOfs_pv (show rigs xs = true from h)]
  | .non, _ => rfl
  | .bl _, _ => rfl
  | .int _, _ => rfl
  | .str _, _ => rfl
  | .gl _, _ => rfl
  | .ty _, _ => rfl
theorem aOfs_pv : ∀ {w : List PV}, rigs w = true → A.pvs (aOfs w) = w
  | [], _ => rfl
  | x :: r, h => by
    obtain ⟨h1, h2⟩ := Bool.and_eq_true_iff.mp (show (rig x && rigs r) = true from h)
    simp [aOfs, A.pvs, aOf_pv h1, aOfs_pv h2]
end
mutual
theorem aOf_fp : ∀ (w : PV), (aOf w).fp = [] ∧ (aOf w).ok F S
  | .tup xs => by have := aOfs_fp xs; simp [aOf, A.fp, A.ok, this]
  | .non => ⟨rfl, trivial⟩
  | .bl _ => ⟨rfl, trivial⟩
  | .int _ => ⟨rfl, trivial⟩
  | .str _ => ⟨rfl, trivial⟩
  | .gl _ => ⟨rfl, trivial⟩
  | .ty _ => ⟨rfl, trivial⟩
  | .loc _ => ⟨rfl, trivial⟩
  | .xn _ _ _ _ _ => ⟨rfl, trivial⟩
theorem aOfs_fp : ∀ (w : List PV), A.fps (aOfs w) = [] ∧ A.oks F S (aOfs w)
  | [] => ⟨rfl, trivial⟩
  | x :: r => by
    have h1 := aOf_fp x
    have h2 := aOfs_fp r
    simp [aOfs, A.fps, A.oks, h1, h2]
end
theorem good_nd (g : Good F S as ag) : (fpS (as ++ ag) ++ []).Nodup := by rw [List.append_nil]; exact g.nd
theorem root_ok (g : Good F S as ag) {r : Rt} {a : A} (h : rootA as ag r = some a) : a.ok F S := by
  have : ∃ z ∈ as ++ ag, z = .v a ∨ z = .io a := by
    cases r with
    | l i => rcases slot_some h with e | e <;> exact ⟨_, List.mem_append_left _ (List.mem_of_getElem? e), by simp⟩
    | g i => rcases slot_some h with e | e <;> exact ⟨_, List.mem_append_right _ (List.mem_of_getElem? e), by simp⟩
  obtain ⟨z, hz, rfl | rfl⟩ := this
  · exact g.ok _ hz
  · exact g.ok _ hz
theorem get_ok : ∀ {p : List Nat} {a x : A}, a.ok F S → getA p a = some x → x.ok F S
  | [], a, x, h, e => by cases e; exact h
  | i :: p, a, x, h, e => by
    unfold getA at e
    cases hk : a.kids[i]? with
    | none => rw [hk] at e; cases e
    | some z => rw [hk] at e; exact get_ok ((oks_iff _).mp (ok_kids h) z (List.mem_of_getElem? hk)) e
theorem at_split {r : Rt} {p : List Nat} {x : A} (h : atA as ag r p = some x) : ∃ a, rootA as ag r = some a ∧ getA p a = some x := Option.bind_eq_some_iff.mp h
theorem at_ok (g : Good F S as ag) {r : Rt} {p : List Nat} {x : A} (h : atA as ag r p = some x) : x.ok F S := by
  obtain ⟨a, e, h⟩ := at_split h
  exact get_ok (root_ok g e) h
theorem obj_of (fs : FS F S) {k : Fl} {n : Nat} {h : Hd} {xs : List A} (o : (A.nd k n h xs).ok F S) : AtU S n (mkO h (A.pvs xs)) := by
  cases k with
  | fz => simp only [A.ok] at o; exact fs _ _ _ o.1
  | lk => simp only [A.ok] at o; exact fs _ _ _ o.1
  | ow => simp only [A.ok] at o; exact .inl o.1.2
def val (x : RV) (ls gh : Ls) : Option D := match x with
  | .v d => some d
  | .pth r p => atD ls gh r p
theorem val_er (c : ARV) {d : D} (h : val c.er (erS as) (erS ag) = some d) {w : PV} (hp : c.pv as ag = some w) (g : Good F S as ag) (hc : c.ok F S) :
    ∃ a : A, a.er = d ∧ a.pv = w ∧ a.ok F S ∧ ((c = .v a) ∨ ∃ r p, c = .pth r p ∧ atA as ag r p = some a) := by
  cases c with
  | v a => cases h; cases hp; exact ⟨a, rfl, rfl, hc, .inl rfl⟩
  | pth r p =>
    simp only [ARV.er, val] at h
    rw [at_er] at h
    obtain ⟨a, e, rfl⟩ := Option.map_eq_some_iff.mp h
    simp only [ARV.pv, e, Option.map_some, Option.some.injEq] at hp
    exact ⟨a, rfl, hp, at_ok g e, .inr ⟨r, p, rfl, e⟩⟩
theorem sim_ok {α β γ : Type} {R : RT α β γ} {q : Bool} {x0 : List Nat} (g : Good F S as ag) (nd : (fpS (as ++ ag) ++ x0).Nodup) (lt : ∀ n ∈ x0, n < S.length) (c : γ) {w : α} {b : β} {o : AD → GL.Out α} (ho : ∀ ad, o ad = .ok w S) (hb : R.er c = b) (hc : R.pv as ag c = some w) (hok : R.ok F S c) (sub : (R.fp c).Sublist x0) :
    SimO q R F S as ag x0 o (.ok b (erS as) (erS ag)) :=
  ⟨F, S, as, ag, c, w, rfl, rfl, hb, ho, hc, hok, (Ev.refl g nd lt).sub sub⟩
theorem sim_okE {q : Bool} {x0 : List Nat} (g : Good F S as ag) (nd : (fpS (as ++ ag) ++ x0).Nodup) (lt : ∀ n ∈ x0, n < S.length) (c : ARV) {w : PV} {b : RV} {o : AD → GL.Out PV} (ho : ∀ ad, o ad = .ok w S) (hb : c.er = b) (hc : c.pv as ag = some w) (hok : c.ok F S) (sub : c.fp.Sublist x0) :
    SimO q RE F S as ag x0 o (.ok b (erS as) (erS ag)) := sim_ok (R := RE) g nd lt c ho hb hc hok sub
theorem sim_sc {q : Bool} {x0 : List Nat} (g : Good F S as ag) (nd : (fpS (as ++ ag) ++ x0).Nodup) (lt : ∀ n ∈ x0, n < S.length) (s : Sc) {o : AD → GL.Out PV} (ho : ∀ ad, o ad = .ok s.pv S) :
    SimO q RE F S as ag x0 o (.ok (.v (.sc s)) (erS as) (erS ag)) :=
  sim_ok (R := RE) g nd lt (.v (.sc s)) ho rfl rfl (by exact trivial) (List.nil_sublist _)
def Stab {α β γ : Type} (R : RT α β γ) (q : Bool) (c : γ) : Prop := ∀ F S as ag x0 F' S' as' ag' x w, Ev q F S as ag x0 F' S' as' ag' x → Good F S as ag → (fpS (as ++ ag) ++ (R.fp c ++ x0)).Nodup → R.pv as ag c = some w → R.ok F S c → R.pv as' ag' c = some w ∧ R.ok F' S' c
def ARV.flat : ARV → Bool
  | .v _ => true
  | .pth _ p => p.isEmpty
theorem stab_re (q : Bool) (c : ARV) (h : q = true ∨ c.flat = true) : Stab RE q c := by
  intro F S as ag x0 F' S' as' ag' x w e g nd hp hk
  cases c with
  | v a => exact ⟨hp, e.stay hk nd g.fs⟩
  | pth r p =>
    refine ⟨?_, trivial⟩
    rcases h with h | h
    · exact e.per h r p w hp
    · have : p = [] := by simpa [ARV.flat] using h
      subst this
      have hr : ∀ as ag, ARV.pv as ag (.pth r []) = (rootA as ag r).map A.pv := fun as ag => by
        simp only [ARV.pv, atA]; cases rootA as ag r <;> rfl
      exact (hr _ _).trans (e.rt r w ((hr _ _).symm.trans hp))
theorem seqO_cons {α : Type} {x : Option α} {r : List (Option α)} {ws : List α} (h : seqO (x :: r) = some ws) : ∃ w t, x = some w ∧ seqO r = some t ∧ ws = w :: t := by
  unfold seqO at h
  split at h
  · rename_i y ys e2; cases h; exact ⟨y, ys, rfl, e2, rfl⟩
  · cases h
theorem seqO_mk {α : Type} {x : Option α} {r : List (Option α)} {w : α} {t : List α} (h1 : x = some w) (h2 : seqO r = some t) : seqO (x :: r) = some (w :: t) := by subst h1; unfold seqO; rw [h2]
theorem stab_ra (q : Bool) (cs : List ARV) (h : q = true ∨ ∀ c ∈ cs, c.flat = true) : Stab RA q cs := by
  induction cs with
  | nil => intro F S as ag x0 F' S' as' ag' x w e g nd hp hk; exact ⟨hp, fun c hc => by cases hc⟩
  | cons c r ih =>
    intro F S as ag x0 F' S' as' ag' x w e g nd hp hk
    have nd' : (fpS (as ++ ag) ++ (c.fp ++ (RA.fp r ++ x0))).Nodup := by
      rw [← List.append_assoc c.fp]; exact nd
    obtain ⟨w1, w2, e1, e2, rfl⟩ := seqO_cons hp
    have h1 := stab_re q c (h.imp id fun h => h c List.mem_cons_self) F S as ag x0 F' S' as' ag' x w1 e g (nd'.sublist (List.Sublist.append_left (List.Sublist.append_left (List.sublist_append_right _ _) _) _)) e1 (hk c List.mem_cons_self)
    have h2 := ih (h.imp id fun h c hc => h c (List.mem_cons_of_mem _ hc)) F S as ag x0 F' S' as' ag' x w2 e g (nd'.sublist (List.Sublist.append_left (List.sublist_append_right _ _) _)) e2 (fun c hc => hk c (List.mem_cons_of_mem _ hc))
    exact ⟨seqO_mk h1.1 h2.1, fun c' hc => by
      rcases List.mem_cons.mp hc with rfl | hc
      · exact h1.2
      · exact h2.2 c' hc⟩
theorem sim_next {α β γ α0 β0 γ0 α' β' γ' : Type} {R : RT α β γ} {R0 : RT α0 β0 γ0} {R' : RT α' β' γ'} {qb q' : Bool} {mb : AD → GL.Ls → Sto → GL.Out α} {pb : PX β} {f : AD → α → Sto → GL.Out α'} {k : β → Ls → Ls → Out β'} {L : AD → GL.Ls}
    (hb : SimX qb R mb pb) (g : Good F S as ag) (c0 : γ0) {w0 : α0} (hpv : R0.pv as ag c0 = some w0) (hok : R0.ok F S c0) (nd : (fpS (as ++ ag) ++ R0.fp c0).Nodup) (lt : ∀ n ∈ R0.fp c0, n < S.length) (st : Stab R0 qb c0) (hL : ∀ ad, L ad = glS as ag ad as)
    (hk : ∀ F' S' as' ag' c w, R0.pv as' ag' c0 = some w0 → R0.ok F' S' c0 → R.pv as' ag' c = some w → R.ok F' S' c → Good F' S' as' ag' → (fpS (as' ++ ag') ++ (R0.fp c0 ++ R.fp c)).Nodup → (∀ n ∈ R0.fp c0 ++ R.fp c, n < S'.length) → (∀ ad, L ad = glS as' ag' ad as') →
      SimO q' R' F' S' as' ag' (R0.fp c0 ++ R.fp c) (fun ad => f ad w S') (k (R.er c) (erS as') (erS ag'))) :
    SimO (qb && q') R' F S as ag (R0.fp c0) (fun ad => (mb ad (L ad) S).bind (f ad)) ((pb (erS as) (erS ag)).bind k) := by
  have hb := hb F S as ag g
  have hfr : ∀ {F' : FM} {S' : Sto} {as' ag' : List AV} {x : List Nat}, Ev qb F S as ag [] F' S' as' ag' x → Ev qb F S as ag (R0.fp c0) F' S' as' ag' (R0.fp c0 ++ x) := fun e => by
    have := e.frame (z := R0.fp c0) (by rw [List.append_nil]; exact nd) lt
    rwa [List.append_nil] at this
  cases hp : pb (erS as) (erS ag) with
  | bad => trivial
  | exc e ls gh =>
    rw [hp] at hb
    obtain ⟨F', S', as', ag', x, a1, a2, a3, a4, a5, a6⟩ := hb
    refine ⟨F', S', as', ag', x, a1, a2, a3, fun ad => ?_, a5, ((hfr a6).sub (List.nil_sublist _)).weak fun e => (Bool.and_eq_true_iff.mp e).1⟩
    show (mb ad (L ad) S).bind _ = _
    have a4' : mb ad (glS as ag ad as) S = _ := a4 ad
    rw [hL, a4']; rfl
  | ok b ls gh =>
    rw [hp] at hb
    obtain ⟨F', S', as', ag', c, w, rfl, rfl, rfl, a4, a5, a6, a7⟩ := hb
    have hst := st F S as ag [] F' S' as' ag' _ w0 a7 g (by rw [List.append_nil]; exact nd) hpv hok
    have e7 := hfr a7
    have h2 := hk F' S' as' ag' c w hst.1 hst.2 a5 a6 a7.good e7.nd e7.lt (fun ad => (hL ad).trans (a7.gl ad).symm)
    have h4 : ∀ ad, (mb ad (L ad) S).bind (f ad) = f ad w S' := fun ad => by
      have a4' : mb ad (glS as ag ad as) S = _ := a4 ad
      rw [hL, a4']; rfl
    show SimO _ _ _ _ _ _ _ _ (k (R.er c) (erS as') (erS ag'))
    cases hp : k (R.er c) (erS as') (erS ag') with
    | bad => trivial
    | exc e ls gh =>
      rw [hp] at h2
      obtain ⟨F2, S2, as2, ag2, x, b1, b2, b3, b4, b5, b6⟩ := h2
      exact ⟨F2, S2, as2, ag2, x, b1, b2, b3, fun ad => (h4 ad).trans (b4 ad), b5, e7.trans b6⟩
    | ok b ls gh =>
      rw [hp] at h2
      obtain ⟨F2, S2, as2, ag2, c2, w2, b1, b2, b3, b4, b5, b6, b7⟩ := h2
      exact ⟨F2, S2, as2, ag2, c2, w2, b1, b2, b3, fun ad => (h4 ad).trans (b4 ad), b5, b6, e7.trans b7⟩
def RU : RT Unit Unit Unit := ⟨id, fun _ _ _ => some (), fun _ _ _ => True, fun _ => []⟩
theorem stab_ru (q : Bool) : Stab RU q () := fun _ _ _ _ _ _ _ _ _ _ _ _ _ _ _ _ => ⟨rfl, trivial⟩
theorem sim_first {α β γ α' β' γ' : Type} {R : RT α β γ} {R' : RT α' β' γ'} {qb q' : Bool} {mb : AD → GL.Ls → Sto → GL.Out α} {pb : PX β} {f : AD → α → Sto → GL.Out α'} {k : β → Ls → Ls → Out β'} {L : AD → GL.Ls}
    (hb : SimX qb R mb pb) (g : Good F S as ag) (hL : ∀ ad, L ad = glS as ag ad as)
    (hk : ∀ F' S' as' ag' c w, R.pv as' ag' c = some w → R.ok F' S' c → Good F' S' as' ag' → (fpS (as' ++ ag') ++ R.fp c).Nodup → (∀ n ∈ R.fp c, n < S'.length) → (∀ ad, L ad = glS as' ag' ad as') →
      SimO q' R' F' S' as' ag' (R.fp c) (fun ad => f ad w S') (k (R.er c) (erS as') (erS ag'))) :
    SimO (qb && q') R' F S as ag [] (fun ad => (mb ad (L ad) S).bind (f ad)) ((pb (erS as) (erS ag)).bind k) :=
  sim_next (R0 := RU) hb g () (w0 := ()) rfl trivial (good_nd g) (fun _ h => by cases h) (stab_ru qb) hL fun F' S' as' ag' c w _ _ h3 h4 h5 h6 h7 h8 => hk F' S' as' ag' c w h3 h4 h5 (by simpa [RU] using h6) (by simpa [RU] using h7) h8
abbrev PE := PX RV
abbrev PT := PX Bool
abbrev PA := PX (List RV)
def mkR (d : D) (r : Rt) (p : List Nat) : RV := if d.shr = true then .v d else .pth r p
def eVar (i : Nat) : PE := fun ls gh => match ls[i]? with
  | some (some (.v d)) => .ok (mkR d (.l i) []) ls gh
  | some (some (.al r p)) => (match atD ls gh r p with
    | some d => .ok (mkR d r p) ls gh
    | none => .bad)
  | _ => .bad
theorem sim_mkR {q : Bool} {x0 : List Nat} (g : Good F S as ag) (nd : (fpS (as ++ ag) ++ x0).Nodup) (lt : ∀ n ∈ x0, n < S.length) {r : Rt} {p : List Nat} {a : A} (h : atA as ag r p = some a) {o : AD → GL.Out PV} (ho : ∀ ad, o ad = .ok a.pv S) :
    SimO q RE F S as ag x0 o (.ok (mkR a.er r p) (erS as) (erS ag)) := by
  unfold mkR
  rw [shr_er]
  cases hs : a.shr with
  | true =>
    have ok := at_ok g h
    exact sim_okE g nd lt (.v a) ho rfl rfl ok (by show (A.fp a).Sublist _; rw [fp_shr ok hs]; exact List.nil_sublist _)
  | false => exact sim_okE g nd lt (.pth r p) ho rfl (by show (atA as ag r p).map A.pv = _; rw [h]; rfl) trivial (List.nil_sublist _)
theorem sim_var (i : Nat) : SimE true (fun _ => GL.eVar i) (eVar i) := by
  intro F S as ag g
  unfold eVar
  simp only [erS, List.getElem?_map]
  cases hi : as[i]? with
  | none => trivial
  | some z =>
    have hgl : ∀ ad o, glv as ag ad z = some o → GL.eVar i (glS as ag ad as) S = .ok o S := fun ad o h => by
      unfold GL.eVar
      simp only [glS, List.getElem?_map, hi, Option.map_some, h]
    have hmem : z ∈ as ++ ag := List.mem_append_left _ (List.mem_of_getElem? hi)
    cases z with
    | v a =>
      exact sim_mkR g (good_nd g) (fun _ h => by cases h) (r := .l i) (p := []) (a := a) (by show (slotA as[i]?).bind _ = _; rw [hi]; rfl) (fun ad => hgl ad _ rfl)
    | al r p =>
      show SimO _ _ _ _ _ _ _ _ (match atD (erS as) (erS ag) r p with | some d => .ok (mkR d r p) (erS as) (erS ag) | none => .bad)
      rw [at_er]
      cases ha : atA as ag r p with
      | none => trivial
      | some a => exact sim_mkR g (good_nd g) (fun _ h => by cases h) ha (fun ad => hgl ad _ (by show (atA as ag r p).map A.pv = _; rw [ha]; rfl))
    | un o => trivial
    | io a => trivial
    | xn C ns xs => trivial
def eC (w : PV) : PE := fun ls gh => .ok (.v (dOf w)) ls gh
theorem sim_c {w : PV} (h : rig w = true) : SimE true (fun _ => GL.eC w) (eC w) := fun F S as ag g =>
  sim_okE g (good_nd g) (fun _ h => by cases h) (.v (aOf w)) (fun ad => by show GL.Out.ok w S = _; rw [aOf_pv h]) (by show RV.v (aOf w).er = _; rw [aOf_er]) rfl (aOf_fp w).2 (by show (A.fp _).Sublist _; rw [(aOf_fp (F := F) (S := S) w).1]; exact List.nil_sublist _)
abbrev G2 := RV → RV → PE
def eOp (g : G2) (a b : PE) : PE := fun ls gh => (a ls gh).bind fun x ls gh => (b ls gh).bind fun y ls gh => g x y ls gh
def RV.flat : RV → Bool
  | .v _ => true
  | .pth _ p => p.isEmpty
def SimG (q : Bool) (gg : PV → PV → Sto → GL.Out PV) (g : G2) : Prop := ∀ (F : FM) (S : Sto) (as ag : List AV) (c1 c2 : ARV) (w1 w2 : PV), Good F S as ag → (fpS (as ++ ag) ++ (c1.fp ++ c2.fp)).Nodup → (∀ n ∈ c1.fp ++ c2.fp, n < S.length) → c1.pv as ag = some w1 → c2.pv as ag = some w2 → c1.ok F S → c2.ok F S →
  SimO q RE F S as ag (c1.fp ++ c2.fp) (fun _ => gg w1 w2 S) (g c1.er c2.er (erS as) (erS ag))
section
variable {qa qb qg : Bool} {ma mb : AD → GL.ME} {pa pb : PE} {gg : PV → PV → Sto → GL.Out PV} {g : G2}
theorem sim_op (ha : SimE qa ma pa) (hb : SimE true mb pb) (hg : SimG true gg g) : SimE qa (fun ad => GL.eOp gg (ma ad) (mb ad)) (eOp g pa pb) := fun F S as ag gd =>
  SimO.weak (sim_first (q' := true && true) (k := fun x ls gh => (pb ls gh).bind fun y ls gh => g x y ls gh) (f := fun ad w1 S1 => (mb ad (glS as ag ad as) S1).bind fun w2 S2 => gg w1 w2 S2) ha gd (fun _ => rfl) fun F1 S1 as1 ag1 c1 w1 h1 h2 g1 n1 l1 L1 =>
    sim_next (R0 := RE) (k := fun y ls gh => g (RE.er c1) y ls gh) (f := fun ad w2 S2 => gg w1 w2 S2) hb g1 c1 h1 h2 n1 l1 (stab_re true c1 (.inl rfl)) L1 fun F2 S2 as2 ag2 c2 w2 h1 h2 h3 h4 g2 n2 l2 L2 => hg F2 S2 as2 ag2 c1 c2 w1 w2 g2 n2 l2 h1 h3 h2 h4) (by simp)
end
def aNil : PA := fun ls gh => .ok [] ls gh
def aCons (a : PE) (r : PA) : PA := fun ls gh => (a ls gh).bind fun x ls gh => (r ls gh).bind fun xs ls gh => .ok (x :: xs) ls gh
section
variable {qa qb : Bool} {ma : AD → GL.ME} {mr : AD → GL.MA} {pa : PE} {pr : PA}
theorem sim_anil : SimA true (fun _ => GL.aNil) aNil := fun F S as ag g =>
  sim_ok (R := RA) g (good_nd g) (fun _ h => by cases h) [] (fun _ => rfl) rfl rfl (fun c hc => by cases hc) (List.nil_sublist _)
theorem sim_acons (ha : SimE qa ma pa) (hr : SimA true mr pr) : SimA qa (fun ad => GL.aCons (ma ad) (mr ad)) (aCons pa pr) := fun F S as ag gd =>
  SimO.weak (sim_first (q' := true && true) (k := fun x ls gh => (pr ls gh).bind fun y ls gh => .ok (x :: y) ls gh) (f := fun ad w1 S1 => (mr ad (glS as ag ad as) S1).bind fun w2 S2 => .ok (w1 :: w2) S2) ha gd (fun _ => rfl) fun F1 S1 as1 ag1 c1 w1 h1 h2 g1 n1 l1 L1 =>
    sim_next (R0 := RE) (R := RA) (R' := RA) (k := fun y ls gh => .ok (RE.er c1 :: y) ls gh) (f := fun ad w2 S2 => .ok (w1 :: w2) S2) hr g1 c1 h1 h2 n1 l1 (stab_re true c1 (.inl rfl)) L1 fun F2 S2 as2 ag2 c2 w2 h1 h2 h3 h4 g2 n2 l2 L2 =>
      sim_ok (R := RA) g2 n2 l2 (c1 :: c2) (fun _ => rfl) rfl (seqO_mk h1 h3) (fun c hc => by
        rcases List.mem_cons.mp hc with rfl | hc
        · exact h2
        · exact h4 c hc) (List.Sublist.refl _)) (by simp)
end
end VL
set_option Elab.async false
set_option linter.all false
set_option maxRecDepth 100000
set_option maxHeartbeats 1000000
namespace VL
open GL (PV OB Sto Nm BT lim)
variable {F F' : FM} {S S' : Sto} {as as' ag ag' : List AV}
theorem Ev.perm {q : Bool} {x0 x0' x x' : List Nat} (e : Ev q F S as ag x0 F' S' as' ag' x) (h0 : x0.Perm x0') (h : x.Perm x') : Ev q F S as ag x0' F' S' as' ag' x' :=
  ⟨e.good, (List.Perm.nodup_iff (List.Perm.append_left _ h)).mp e.nd, fun n hn => e.lt n (h.mem_iff.mpr hn), e.mono, e.len, fun n hn hx => e.keep n hn fun h' => hx (by
    rcases List.mem_append.mp h' with t | t
    · exact List.mem_append_left _ t
    · exact List.mem_append_right _ (h0.mem_iff.mp t)), fun n hn => by
    rcases e.new n (by
      rcases List.mem_append.mp hn with t | t
      · exact List.mem_append_left _ t
      · exact List.mem_append_right _ (h.mem_iff.mpr t)) with t | t
    · left
      rcases List.mem_append.mp t with t | t
      · exact List.mem_append_left _ t
      · exact List.mem_append_right _ (h0.mem_iff.mp t)
    · exact .inr t, e.gl, e.gg, e.rt, e.per⟩
theorem SimO.pre {α β γ : Type} {R : RT α β γ} {q : Bool} {x0 x1 : List Nat} {o : AD → GL.Out α} {p : Out β} (e : Ev true F S as ag x0 F' S' as' ag' x1) (h : SimO q R F' S' as' ag' x1 o p) : SimO q R F S as ag x0 o p := by
  cases p with
  | bad => trivial
  | exc e' ls gh => obtain ⟨F2, S2, as2, ag2, x, b1, b2, b3, b4, b5, b6⟩ := h; exact ⟨F2, S2, as2, ag2, x, b1, b2, b3, b4, b5, (e.trans b6).weak fun h => by rw [h]; rfl⟩
  | ok b ls gh => obtain ⟨F2, S2, as2, ag2, c, w, b1, b2, b3, b4, b5, b6, b7⟩ := h; exact ⟨F2, S2, as2, ag2, c, w, b1, b2, b3, b4, b5, b6, (e.trans b7).weak fun h => by rw [h]; rfl⟩
theorem SimO.preF {α β γ : Type} {R : RT α β γ} {q : Bool} {x0 x1 : List Nat} {o : AD → GL.Out α} {p : Out β} (e : Ev false F S as ag x0 F' S' as' ag' x1) (h : SimO q R F' S' as' ag' x1 o p) : SimO false R F S as ag x0 o p := by
  cases p with
  | bad => trivial
  | exc e' ls gh => obtain ⟨F2, S2, as2, ag2, x, b1, b2, b3, b4, b5, b6⟩ := h; exact ⟨F2, S2, as2, ag2, x, b1, b2, b3, b4, b5, (e.trans b6).weak fun h => by cases h⟩
  | ok b ls gh => obtain ⟨F2, S2, as2, ag2, c, w, b1, b2, b3, b4, b5, b6, b7⟩ := h; exact ⟨F2, S2, as2, ag2, c, w, b1, b2, b3, b4, b5, b6, (e.trans b7).weak fun h => by cases h⟩
theorem ev_same {q : Bool} {x0 x1 : List Nat} (g : Good F S as ag) (nd0 : (fpS (as ++ ag) ++ x0).Nodup) (m : Mono F F') (fs : FS F' S') (len : S.length ≤ S'.length) (keep : ∀ n, n < S.length → n ∉ x0 → F' n = F n ∧ S'[n]? = S[n]?)
    (nd1 : x1.Nodup) (new : ∀ n ∈ x1, n ∈ x0 ∨ S.length ≤ n) (lt : ∀ n ∈ x1, n < S'.length) : Ev q F S as ag x0 F' S' as ag x1 := by
  have inS : ∀ z ∈ as ++ ag, ∀ n ∈ z.fp, n ∈ fpS (as ++ ag) := fun z h n hn => List.mem_flatMap.mpr ⟨z, h, hn⟩
  have dj : ∀ n ∈ fpS (as ++ ag), n ∉ x0 := fun n h h' => (List.nodup_append.mp nd0).2.2 n h n h' rfl
  have lt0 : ∀ n ∈ fpS (as ++ ag), n < S.length := fun n h => by
    obtain ⟨z, hz, hn⟩ := List.mem_flatMap.mp h
    have zok := g.ok z hz
    cases z with
    | v b => exact fp_lt g.fs zok n hn
    | io b => exact fp_lt g.fs zok n hn
    | _ => cases hn
  have ag1 : ∀ n ∈ fpS (as ++ ag), F' n = F n ∧ S'[n]? = S[n]? := fun n h => keep n (lt0 n h) (dj n h)
  refine ⟨⟨fs, fun z hz => ?_, g.nd, g.al⟩, List.nodup_append.mpr ⟨g.nd, nd1, fun n h k h' e => ?_⟩, lt, m, len, fun n hn hx => keep n hn fun h => hx (List.mem_append_right _ h), fun n h => ?_, fun _ => rfl, fun _ => rfl, fun _ _ h => h, fun _ _ _ _ h => h⟩
  · have zok := g.ok z hz
    cases z with
    | v b => exact ok_frame m (fun n hn => ag1 n (inS _ hz n hn)) zok
    | io b => exact ok_frame m (fun n hn => ag1 n (inS _ hz n hn)) zok
    | xn C ns xs =>
      have t : (A.tup xs).ok F' S' := ok_frame (a := .tup xs) m (by rw [A.fp, zok.1]; intro n hn'; cases hn') (show (A.tup xs).ok F S from zok)
      exact t
    | un o => trivial
    | al r p => trivial
  · subst e
    rcases new n h' with t | t
    · exact dj n h t
    · exact absurd (lt0 n h) (Nat.not_lt.mpr t)
  · rcases List.mem_append.mp h with t | t
    · exact .inl (List.mem_append_left _ t)
    · rcases new n t with u | u
      · exact .inl (List.mem_append_right _ u)
      · exact .inr u
theorem frF_mono {ns : List Nat} (h : ∀ n ∈ ns, F n = none) : Mono F (frF F S ns) := fun n b o e => by
  unfold frF
  split
  · rename_i hn; rw [h n hn] at e; cases e
  · exact e
theorem frF_fs {ns : List Nat} (fs : FS F S) : FS (frF F S ns) S := fun n b o e => by
  unfold frF at e
  split at e
  · obtain ⟨o', h, q⟩ := Option.map_eq_some_iff.mp e; cases q; exact .inl h
  · exact fs n b o e
def cvR (k : Bool) (x : RV) (ls gh : Ls) : Option (D × Ls × Ls) := match x with
  | .v d => if k = true then some (d, ls, gh) else (D.frz d).map fun e => (e, ls, gh)
  | .pth r p => match atD ls gh r p with
    | some d => if d.shr = true then some (d, ls, gh) else (match D.frz d with
      | some e => let z := chD (fun _ => true) r p e ls gh; some (e, z.1, z.2)
      | none => none)
    | none => none
theorem frz_sim {z : List Nat} (g : Good F S as ag) {a : A} {d : D} (nd : (fpS (as ++ ag) ++ (a.fp ++ z)).Nodup) (lt : ∀ n ∈ a.fp ++ z, n < S.length) (hk : a.ok F S) (h : D.frz a.er = some d) :
    a.frz.ok (frF F S a.fp) S ∧ a.frz.fp = [] ∧ a.frz.er = d ∧ Ev true F S as ag (a.fp ++ z) (frF F S a.fp) S as ag z := by
  have hm := frF_mono (S := S) (frz_none a h hk)
  have n1 := (List.nodup_append.mp (List.nodup_append.mp nd).2.1)
  refine ⟨frz_ok a h [] hm (fun n hn => by unfold frF; rw [if_pos hn]) hk, frz_fp a h hk, frz_er a h, ?_⟩
  exact ev_same g nd hm (frF_fs g.fs) (Nat.le_refl _) (fun n hn hx => ⟨by unfold frF; rw [if_neg fun h => hx (List.mem_append_left _ h)], rfl⟩) n1.2.1 (fun n hn => .inl (List.mem_append_right _ hn)) (fun n hn => lt n (List.mem_append_right _ hn))
theorem cv_sim {k : Bool} {z : List Nat} (g : Good F S as ag) {c : ARV} {w : PV} {d : D} {ls' gh' : Ls} (nd : (fpS (as ++ ag) ++ (c.fp ++ z)).Nodup) (lt : ∀ n ∈ c.fp ++ z, n < S.length) (hp : c.pv as ag = some w) (hk : c.ok F S) (h : cvR k c.er (erS as) (erS ag) = some (d, ls', gh')) :
    ∃ (F' : FM) (as' ag' : List AV) (a : A), erS as' = ls' ∧ erS ag' = gh' ∧ a.er = d ∧ a.pv = w ∧ a.ok F' S ∧ (k = false → a.fp = []) ∧ Ev true F S as ag (c.fp ++ z) F' S as' ag' (a.fp ++ z) := by
  cases c with
  | v a =>
    cases hp
    cases k with
    | true =>
      simp only [cvR, ARV.er, if_true, Option.some.injEq, Prod.mk.injEq] at h
      obtain ⟨rfl, rfl, rfl⟩ := h
      exact ⟨F, as, ag, a, rfl, rfl, rfl, rfl, hk, (fun e => by cases e), Ev.refl g nd lt⟩
    | false =>
      simp only [cvR, ARV.er, Bool.false_eq_true, if_false, Option.map_eq_some_iff, Prod.mk.injEq] at h
      obtain ⟨d', hd, rfl, rfl, rfl⟩ := h
      obtain ⟨h1, h2, h3, h4⟩ := frz_sim g nd lt hk hd
      exact ⟨_, as, ag, a.frz, rfl, rfl, h3, frz_pv a, h1, fun _ => h2, by rw [h2]; exact h4⟩
  | pth r p =>
    simp only [cvR, ARV.er] at h
    rw [at_er] at h
    cases hat : atA as ag r p with
    | none => rw [hat] at h; cases h
    | some a =>
      rw [hat] at h
      simp only [Option.map_some] at h
      have hw : a.pv = w := by simpa [ARV.pv, hat] using hp
      have aok := at_ok g hat
      rw [shr_er] at h
      cases hs : a.shr with
      | true =>
        rw [hs] at h
        simp only [if_true, Option.some.injEq, Prod.mk.injEq] at h
        obtain ⟨rfl, rfl, rfl⟩ := h
        have e0 := fp_shr aok hs
        exact ⟨F, as, ag, a, rfl, rfl, rfl, hw, aok, fun _ => e0, by rw [e0]; exact Ev.refl g nd lt⟩
      | false =>
        rw [hs] at h
        simp only [Bool.false_eq_true, if_false] at h
        cases hf : D.frz a.er with
        | none => rw [hf] at h; cases h
        | some e =>
          rw [hf] at h
          simp only [Option.some.injEq, Prod.mk.injEq] at h
          obtain ⟨rfl, h1, h2⟩ := h
          obtain ⟨root, hr, hx⟩ := at_split hat
          have hfe := frz_er a hf
          rw [← hfe, ← ch_er] at h1 h2
          have hm := frF_mono (S := S) (frz_none a hf aok)
          have fpz := frz_fp a hf aok
          refine ⟨frF F S a.fp, (chA (fun _ => true) r p a.frz as ag).1, (chA (fun _ => true) r p a.frz as ag).2, a.frz, h1, h2, hfe, by rw [frz_pv]; exact hw, frz_ok a hf [] hm (fun n hn => by unfold frF; rw [if_pos hn]) aok, fun _ => fpz, ?_⟩
          rw [fpz]
          have nz := (List.nodup_append.mp nd).2.1
          exact ev_ch (t := fun _ => true) (fun _ _ => rfl) g nd hr hx hs (frz_pv a) (fun p w _ => per_frz a hf p w trivial) hm (frF_fs g.fs) (Nat.le_refl _)
            (fun n hn hx => ⟨by unfold frF; rw [if_neg fun h => hx (List.mem_append_left _ h)], rfl⟩) (frz_ok a hf [] hm (fun n hn => by unfold frF; rw [if_pos hn]) aok) (by rw [fpz]; exact nz) (fun n hn => .inl (by rw [fpz] at hn; exact List.mem_append_right _ hn)) (fun n hn => lt n hn)
theorem cv_sim0 {k : Bool} (g : Good F S as ag) {c : ARV} {w : PV} {d : D} {ls' gh' : Ls} (nd : (fpS (as ++ ag) ++ c.fp).Nodup) (lt : ∀ n ∈ c.fp, n < S.length) (hp : c.pv as ag = some w) (hk : c.ok F S) (h : cvR k c.er (erS as) (erS ag) = some (d, ls', gh')) :
    ∃ (F' : FM) (as' ag' : List AV) (a : A), erS as' = ls' ∧ erS ag' = gh' ∧ a.er = d ∧ a.pv = w ∧ a.ok F' S ∧ (k = false → a.fp = []) ∧ Ev true F S as ag c.fp F' S as' ag' a.fp := by
  obtain ⟨F', as', ag', a, h1, h2, h3, h4, h5, h6, h7⟩ := cv_sim (z := []) g (by rw [List.append_nil]; exact nd) (by rw [List.append_nil]; exact lt) hp hk h
  rw [List.append_nil, List.append_nil] at h7
  exact ⟨F', as', ag', a, h1, h2, h3, h4, h5, h6, h7⟩
def cvL (k : Bool) : List RV → Ls → Ls → Option (List D × Ls × Ls)
  | [], ls, gh => some ([], ls, gh)
  | x :: r, ls, gh => match cvR k x ls gh with
    | some (d, ls, gh) => (match cvL k r ls gh with
      | some (ds, ls, gh) => some (d :: ds, ls, gh)
      | none => none)
    | none => none
theorem nd_sub {a b c : List Nat} (h : (a ++ (b ++ c)).Nodup) : (a ++ b).Nodup ∧ (a ++ c).Nodup ∧ (a ++ (c ++ b)).Nodup :=
  ⟨h.sublist (List.Sublist.append_left (List.sublist_append_left _ _) _), h.sublist (List.Sublist.append_left (List.sublist_append_right _ _) _), nodup_app_comm3 h⟩
theorem cvL_sim {k : Bool} : ∀ {cs : List ARV} {F : FM} {as ag : List AV} {ws : List PV} {ds : List D} {ls' gh' : Ls}, Good F S as ag → (fpS (as ++ ag) ++ RA.fp cs).Nodup → (∀ n ∈ RA.fp cs, n < S.length) → RA.pv as ag cs = some ws → RA.ok F S cs →
    cvL k (cs.map ARV.er) (erS as) (erS ag) = some (ds, ls', gh') →
    ∃ (F' : FM) (as' ag' : List AV) (xs : List A), erS as' = ls' ∧ erS ag' = gh' ∧ A.ers xs = ds ∧ A.pvs xs = ws ∧ A.oks F' S xs ∧ (k = false → A.fps xs = []) ∧ Ev true F S as ag (RA.fp cs) F' S as' ag' (A.fps xs)
  | [], F, as, ag, ws, ds, ls', gh', g, nd, lt, hp, hk, h => by
    simp only [List.map_nil, cvL, Option.some.injEq, Prod.mk.injEq] at h
    obtain ⟨rfl, rfl, rfl⟩ := h
    cases hp
    exact ⟨F, as, ag, [], rfl, rfl, rfl, rfl, trivial, fun _ => rfl, Ev.refl g nd lt⟩
  | c :: r, F, as, ag, ws, ds, ls', gh', g, nd, lt, hp, hk, h => by
    obtain ⟨w, ws, hw, hws, rfl⟩ := seqO_cons hp
    simp only [List.map_cons, cvL] at h
    cases h1 : cvR k c.er (erS as) (erS ag) with
    | none => rw [h1] at h; cases h
    | some t =>
      obtain ⟨d, l1, g1⟩ := t
      rw [h1] at h
      dsimp only at h
      have e0 : RA.fp (c :: r) = c.fp ++ RA.fp r := rfl
      rw [e0] at nd lt ⊢
      obtain ⟨n1, n2, n3⟩ := nd_sub nd
      obtain ⟨F1, as1, ag1, a, rfl, rfl, rfl, rfl, aok, afp, ev⟩ := cv_sim0 g n1 (fun n h => lt n (List.mem_append_left _ h)) hw (hk c List.mem_cons_self) h1
      cases h2 : cvL k (r.map ARV.er) (erS as1) (erS ag1) with
      | none => rw [h2] at h; cases h
      | some t2 =>
        obtain ⟨ds2, l2, g2⟩ := t2
        rw [h2] at h
        simp only [Option.some.injEq, Prod.mk.injEq] at h
        obtain ⟨rfl, rfl, rfl⟩ := h
        have st := stab_ra true r (.inl rfl) F S as ag _ F1 S as1 ag1 _ ws ev g n3 hws (fun c hc => hk c (List.mem_cons_of_mem _ hc))
        have evf := (ev.frame n3 (fun n h => lt n (List.mem_append_right _ h))).perm List.perm_append_comm List.perm_append_comm
        obtain ⟨m1, m2, m3⟩ := nd_sub evf.nd
        obtain ⟨F2, as2, ag2, xs, rfl, rfl, rfl, rfl, xok, xfp, ev2⟩ := cvL_sim evf.good m2 (fun n h => evf.lt n (List.mem_append_right _ h)) st.1 st.2 h2
        refine ⟨F2, as2, ag2, a :: xs, rfl, rfl, rfl, rfl, ⟨ev2.stay (z := a) aok evf.nd evf.good.fs, xok⟩, fun e => ?_, evf.trans (ev2.frame evf.nd (fun n h => evf.lt n (List.mem_append_left _ h)))⟩
        show A.fp a ++ A.fps xs = []
        rw [afp e, xfp e]; rfl
theorem sim_alloc {q : Bool} {x0 : List Nat} (g : Good F S as ag) (nd : (fpS (as ++ ag) ++ x0).Nodup) (lt : ∀ n ∈ x0, n < S.length) (h : Hd) (xs : List A) (hw : h.wf xs.length = true) (ok : A.oks F S xs) (sub : (A.fps xs).Sublist x0) {o : AD → GL.Out PV} (ho : ∀ ad, o ad = .ok (.loc S.length) (S ++ [mkO h (A.pvs xs)])) :
    SimO q RE F S as ag x0 o (.ok (.v (.nd .ow h (A.ers xs))) (erS as) (erS ag)) := by
  have hF : F S.length = none := by
    cases hf : F S.length with
    | none => rfl
    | some z =>
      obtain ⟨b, o⟩ := z
      have := (g.fs _ _ _ hf).lt
      omega
  have gr : ∀ n, n < S.length → (S ++ [mkO h (A.pvs xs)])[n]? = S[n]? := fun n hn => List.getElem?_append_left hn
  have fs : FS F (S ++ [mkO h (A.pvs xs)]) := fun n b o e => by
    have := g.fs n b o e
    exact this.to (gr n this.lt)
  have lx : ∀ n ∈ A.fps xs, n < S.length := fun n hn => lt n (sub.subset hn)
  have ok' : A.oks F (S ++ [mkO h (A.pvs xs)]) xs := by
    rw [oks_iff] at ok ⊢
    exact fun x hx => ok_frame Mono.refl (fun n hn => ⟨rfl, gr n (lx n (by rw [fps_map]; exact List.mem_flatMap.mpr ⟨x, hx, hn⟩))⟩) (ok x hx)
  refine ⟨F, _, as, ag, .v (.nd .ow S.length h xs), .loc S.length, rfl, rfl, rfl, ho, rfl, ?_, ?_⟩
  · show A.ok _ _ _
    simp only [A.ok]
    exact ⟨⟨hF, by rw [List.getElem?_append_right (Nat.le_refl _)]; simp⟩, hw, ok'⟩
  · show Ev q F S as ag x0 F _ as ag (S.length :: A.fps xs)
    refine ev_same g nd Mono.refl fs (by simp) (fun n hn _ => ⟨rfl, gr n hn⟩) ?_ ?_ ?_
    · exact List.nodup_cons.mpr ⟨fun h => absurd (lx _ h) (Nat.lt_irrefl _), ((List.nodup_append.mp nd).2.1).sublist sub⟩
    · intro n hn
      rcases List.mem_cons.mp hn with rfl | h
      · exact .inr (Nat.le_refl _)
      · exact .inl (sub.subset h)
    · intro n hn
      rw [List.length_append, List.length_singleton]
      rcases List.mem_cons.mp hn with rfl | h
      · omega
      · have := lx n h; omega
def eTup (m : PA) : PE := fun ls gh => (m ls gh).bind fun xs ls gh => match cvL false xs ls gh with
  | some (ds, ls, gh) => if ds.length ≤ lim then .ok (.v (.tup ds)) ls gh else .bad
  | none => .bad
def eLst (m : PA) : PE := fun ls gh => (m ls gh).bind fun xs ls gh => match cvL true xs ls gh with
  | some (ds, ls, gh) => if ds.length ≤ lim then .ok (.v (.nd .ow .lst ds)) ls gh else .bad
  | none => .bad
theorem pvs_len (xs : List A) : (A.pvs xs).length = xs.length := by rw [pvs_map, List.length_map]
theorem ers_len (xs : List A) : (A.ers xs).length = xs.length := by rw [ers_map, List.length_map]
section
variable {q : Bool} {mr : AD → GL.MA} {pr : PA}
theorem sim_tup (h : SimA q mr pr) : SimE q (fun ad => GL.eTup (mr ad)) (eTup pr) := fun F S as ag gd =>
  SimO.weak (sim_first (R' := RE) (q' := true) (k := fun xs ls gh => match cvL false xs ls gh with
    | some (ds, ls, gh) => if ds.length ≤ lim then .ok (.v (.tup ds)) ls gh else .bad
    | none => .bad) (f := fun ad ws S1 => if ws.length ≤ lim then .ok (.tup ws) S1 else .bad) h gd (fun _ => rfl) fun F1 S1 as1 ag1 cs ws h1 h2 g1 n1 l1 L1 => by
    cases hc : cvL false (RA.er cs) (erS as1) (erS ag1) with
    | none => simp only [hc]; trivial
    | some t =>
      obtain ⟨ds, l2, g2⟩ := t
      obtain ⟨F2, as2, ag2, xs, rfl, rfl, rfl, rfl, xok, xfp, ev⟩ := cvL_sim g1 n1 l1 h1 h2 hc
      simp only [hc]
      by_cases hl : (A.ers xs).length ≤ lim
      · have hl2 : (A.pvs xs).length ≤ lim := by rw [pvs_len, ← ers_len]; exact hl
        rw [if_pos hl]
        simp only [if_pos hl2]
        refine SimO.pre ev ?_
        refine sim_okE ev.good ev.nd ev.lt (.v (.tup xs)) (fun _ => rfl) rfl rfl ⟨xfp rfl, xok⟩ ?_
        show (A.fps xs).Sublist _
        rw [xfp rfl]; exact List.Sublist.refl _
      · rw [if_neg hl]; trivial) (by simp)
theorem sim_lst (h : SimA q mr pr) : SimE q (fun ad => GL.eLst (mr ad)) (eLst pr) := fun F S as ag gd =>
  SimO.weak (sim_first (R' := RE) (q' := true) (k := fun xs ls gh => match cvL true xs ls gh with
    | some (ds, ls, gh) => if ds.length ≤ lim then .ok (.v (.nd .ow .lst ds)) ls gh else .bad
    | none => .bad) (f := fun ad ws S1 => if ws.length ≤ lim then .ok (.loc S1.length) (S1 ++ [.lst ws]) else .bad) h gd (fun _ => rfl) fun F1 S1 as1 ag1 cs ws h1 h2 g1 n1 l1 L1 => by
    cases hc : cvL true (RA.er cs) (erS as1) (erS ag1) with
    | none => simp only [hc]; trivial
    | some t =>
      obtain ⟨ds, l2, g2⟩ := t
      obtain ⟨F2, as2, ag2, xs, rfl, rfl, rfl, rfl, xok, xfp, ev⟩ := cvL_sim g1 n1 l1 h1 h2 hc
      simp only [hc]
      by_cases hl : (A.ers xs).length ≤ lim
      · have hl2 : (A.pvs xs).length ≤ lim := by rw [pvs_len, ← ers_len]; exact hl
        rw [if_pos hl]
        simp only [if_pos hl2]
        refine SimO.pre ev ?_
        exact sim_alloc ev.good ev.nd ev.lt .lst xs rfl xok (List.Sublist.refl _) (fun _ => rfl)
      · rw [if_neg hl]; trivial) (by simp)
end
end VL
set_option Elab.async false
set_option linter.all false
set_option maxRecDepth 100000
set_option maxHeartbeats 1000000
namespace VL
open GL (PV OB Sto Nm BT lim)
open PySem (PyData Builtin)
variable {F F' : FM} {S S' : Sto} {as as' ag ag' : List AV}
theorem er_v {c : ARV} {d : D} (h : c.er = .v d) {w : PV} (hp : c.pv as ag = some w) : ∃ a, c = .v a ∧ a.er = d ∧ a.pv = w := by
  cases c with
  | v a => cases h; cases hp; exact ⟨a, rfl, rfl, rfl⟩
  | pth r p => cases h
theorem er_sc {a : A} {s : Sc} (h : a.er = .sc s) : a = .sc s := by
  cases a with
  | sc t => simp only [A.er, D.sc.injEq] at h; rw [h]
  | tup xs => simp [A.er] at h
  | nd k n hd xs => simp [A.er] at h
theorem er_tup {a : A} {xs : List D} (h : a.er = .tup xs) : ∃ ys, a = .tup ys ∧ A.ers ys = xs := by
  cases a with
  | sc t => simp [A.er] at h
  | tup ys => simp only [A.er, D.tup.injEq] at h; exact ⟨ys, rfl, h⟩
  | nd k n hd xs => simp [A.er] at h
theorem er_nd {a : A} {k : Fl} {hd : Hd} {xs : List D} (h : a.er = .nd k hd xs) : ∃ n ys, a = .nd k n hd ys ∧ A.ers ys = xs := by
  cases a with
  | sc t => simp [A.er] at h
  | tup ys => simp [A.er] at h
  | nd k n hd ys => simp only [A.er, D.nd.injEq] at h; obtain ⟨rfl, rfl, h⟩ := h; exact ⟨n, ys, rfl, h⟩
theorem er_vsc {c : ARV} {s : Sc} (h : c.er = .v (.sc s)) {w : PV} (hp : c.pv as ag = some w) : w = s.pv := by
  obtain ⟨a, rfl, e, rfl⟩ := er_v h hp
  rw [er_sc e]; rfl
def gInt (g : Int → Int → Int) : G2 := fun x y ls gh => match x, y with
  | .v (.sc (.int i)), .v (.sc (.int j)) => .ok (.v (.int (g i j))) ls gh
  | _, _ => .bad
def gIntC (c : Int → Int → Bool) (g : Int → Int → Int) : G2 := fun x y ls gh => match x, y with
  | .v (.sc (.int i)), .v (.sc (.int j)) => if c i j = true then .ok (.v (.int (g i j))) ls gh else .bad
  | _, _ => .bad
def gCmpI (g : Int → Int → Bool) : G2 := fun x y ls gh => match x, y with
  | .v (.sc (.int i)), .v (.sc (.int j)) => .ok (.v (.bl (g i j))) ls gh
  | _, _ => .bad
abbrev gSub : G2 := gInt fun i j => i - j
abbrev gDiv : G2 := gIntC GL.cDiv fun i j => i / j
abbrev gMod : G2 := gIntC GL.cMod fun i j => i % j
abbrev gLt : G2 := gCmpI fun i j => decide (i < j)
abbrev gLe : G2 := gCmpI fun i j => decide (i ≤ j)
abbrev gGe : G2 := gCmpI fun i j => decide (j ≤ i)
theorem sim_gInt (f : Int → Int → Int) : SimG true (GL.gInt f) (gInt f) := by
  intro F S as ag c1 c2 w1 w2 g nd lt h1 h2 k1 k2
  unfold gInt
  split
  · rename_i i j e1 e2
    rw [er_vsc e1 h1, er_vsc e2 h2]
    exact sim_sc g nd lt (.int (f i j)) (fun _ => rfl)
  · trivial
theorem sim_gIntC (c : Int → Int → Bool) (f : Int → Int → Int) : SimG true (GL.gIntC c f) (gIntC c f) := by
  intro F S as ag c1 c2 w1 w2 g nd lt h1 h2 k1 k2
  unfold gIntC
  split
  · rename_i i j e1 e2
    rw [er_vsc e1 h1, er_vsc e2 h2]
    by_cases hc : c i j = true
    · rw [if_pos hc]
      exact sim_sc g nd lt (.int (f i j)) (fun _ => by simp [GL.gIntC, Sc.pv, hc])
    · rw [if_neg hc]; trivial
  · trivial
theorem sim_gCmpI (f : Int → Int → Bool) : SimG true (GL.gCmpI f) (gCmpI f) := by
  intro F S as ag c1 c2 w1 w2 g nd lt h1 h2 k1 k2
  unfold gCmpI
  split
  · rename_i i j e1 e2
    rw [er_vsc e1 h1, er_vsc e2 h2]
    exact sim_sc g nd lt (.bl (f i j)) (fun _ => rfl)
  · trivial
theorem sim_gSub : SimG true GL.gSub gSub := sim_gInt _
theorem sim_gDiv : SimG true GL.gDiv gDiv := sim_gIntC _ _
theorem sim_gMod : SimG true GL.gMod gMod := sim_gIntC _ _
theorem sim_gLt : SimG true GL.gLt gLt := sim_gCmpI _
theorem sim_gLe : SimG true GL.gLe gLe := sim_gCmpI _
theorem sim_gGe : SimG true GL.gGe gGe := sim_gCmpI _
def shrK (x : RV) (xs : List D) : Option (List D) := if xs.all D.shr = true then some xs else match x with
  | .v _ => D.frzs xs
  | .pth _ _ => none
theorem all_shr {xs : List A} (h : (A.ers xs).all D.shr = true) : ∀ x ∈ xs, x.shr = true := by
  rw [ers_map, List.all_map, List.all_eq_true] at h
  exact fun x hx => by have := h x hx; simpa [shr_er] using this
theorem fps_shr {xs : List A} (h : ∀ x ∈ xs, x.shr = true) (ok : A.oks F S xs) : A.fps xs = [] := by
  rw [fps_map, List.flatMap_eq_nil_iff]
  exact fun x hx => fp_shr ((oks_iff xs).mp ok x hx) (h x hx)
theorem shrK_sim (g : Good F S as ag) {c : ARV} {ks : List A} {ds : List D} (nd : (fpS (as ++ ag) ++ c.fp).Nodup) (lt : ∀ n ∈ c.fp, n < S.length) (hk : A.oks F S ks) (hc : ∀ d, c.er = .v d → ∀ n ∈ A.fps ks, n ∈ c.fp) (h : shrK c.er (A.ers ks) = some ds) :
    ∃ (F' : FM) (zs : List A), A.ers zs = ds ∧ A.pvs zs = A.pvs ks ∧ A.fps zs = [] ∧ A.oks F' S zs ∧ Ev true F S as ag c.fp F' S as ag [] := by
  unfold shrK at h
  by_cases ha : (A.ers ks).all D.shr = true
  · rw [if_pos ha] at h
    cases h
    exact ⟨F, ks, rfl, rfl, fps_shr (all_shr ha) hk, hk, (Ev.refl g nd lt).sub (List.nil_sublist _)⟩
  · rw [if_neg ha] at h
    cases c with
    | pth r p => cases h
    | v a =>
      simp only [ARV.er] at h
      obtain ⟨l, q⟩ := (dfrzs_iff _ _).mp h
      have each : ∀ x ∈ ks, ∃ d, D.frz x.er = some d := fun x hx => by
        obtain ⟨i, hi⟩ := List.getElem?_of_mem hx
        obtain ⟨y, _, b⟩ := q i x.er (by rw [ers_map, List.getElem?_map, hi]; rfl)
        exact ⟨y, b⟩
      have hn : ∀ n ∈ A.fps ks, F n = none := fun n hn => by
        rw [fps_map] at hn
        obtain ⟨x, hx, hn⟩ := List.mem_flatMap.mp hn
        obtain ⟨d, hd⟩ := each x hx
        exact frz_none x hd ((oks_iff ks).mp hk x hx) n hn
      have hm := frF_mono (S := S) hn
      refine ⟨frF F S (A.fps ks), A.frzs ks, ?_, frzs_pvs ks, ?_, ?_, ?_⟩
      · apply List.ext_getElem?
        intro i
        rw [ers_map, frzs_map, List.map_map, List.getElem?_map]
        rw [ers_map] at l q
        cases hx : ks[i]? with
        | none =>
          rw [List.getElem?_eq_none_iff] at hx
          exact (List.getElem?_eq_none_iff.mpr (by rw [l, List.length_map]; exact hx)).symm
        | some x =>
          obtain ⟨y, a, b⟩ := q i x.er (by rw [List.getElem?_map, hx]; rfl)
          rw [a, Option.map_some, Function.comp, frz_er x b]
      · rw [fps_map, frzs_map, List.flatMap_map, List.flatMap_eq_nil_iff]
        intro x hx
        obtain ⟨d, hd⟩ := each x hx
        exact frz_fp x hd ((oks_iff ks).mp hk x hx)
      · rw [oks_iff, frzs_map]
        intro y hy
        obtain ⟨x, hx, rfl⟩ := List.mem_map.mp hy
        obtain ⟨d, hd⟩ := each x hx
        exact frz_ok x hd [] hm (fun n hn => by unfold frF; rw [if_pos (by rw [fps_map]; exact List.mem_flatMap.mpr ⟨x, hx, hn⟩)]) ((oks_iff ks).mp hk x hx)
      · exact ev_same g nd hm (frF_fs g.fs) (Nat.le_refl _) (fun n _ hx => ⟨by unfold frF; rw [if_neg fun h => hx (hc _ rfl n h)], rfl⟩) List.nodup_nil (fun n hn => by cases hn) (fun n hn => by cases hn)
inductive Kd where
  | lst | rol | tup
  deriving DecidableEq
def seqD : D → Option (Kd × List D)
  | .tup xs => some (.tup, xs)
  | .nd _ .lst xs => some (.lst, xs)
  | .nd _ .rol xs => some (.rol, xs)
  | _ => none
def seqV (x : RV) (ls gh : Ls) : Option (Kd × List D) := (val x ls gh).bind seqD
def SeqG (S : Sto) : Kd → PV → List PV → Prop
  | .tup, w, ws => w = .tup ws
  | .lst, w, ws => ∃ n, w = .loc n ∧ S[n]? = some (.lst ws)
  | .rol, w, ws => ∃ n, w = .loc n ∧ S[n]? = some (.rol ws)
theorem seqV_er {c : ARV} {k : Kd} {ds : List D} (h : seqV c.er (erS as) (erS ag) = some (k, ds)) {w : PV} (hp : c.pv as ag = some w) (g : Good F S as ag) (hk : c.ok F S) :
    ∃ ks : List A, A.ers ks = ds ∧ SeqG S k w (A.pvs ks) ∧ A.oks F S ks ∧ (∀ d, c.er = .v d → ∀ n ∈ A.fps ks, n ∈ c.fp) ∧ (k = .tup → A.fps ks = []) ∧
      ((∃ a, c = .v a ∧ a.kids = ks) ∨ ∃ r p a, c = .pth r p ∧ atA as ag r p = some a ∧ a.kids = ks) := by
  obtain ⟨d, e1, e2⟩ := Option.bind_eq_some_iff.mp h
  obtain ⟨a, rfl, rfl, aok, hc⟩ := val_er c e1 hp g hk
  have key : ∀ ks : List A, a.kids = ks → ((∃ a, c = .v a ∧ a.kids = ks) ∨ ∃ r p a, c = .pth r p ∧ atA as ag r p = some a ∧ a.kids = ks) := fun ks hks => by
    rcases hc with rfl | ⟨r, p, rfl, h'⟩
    · exact .inl ⟨a, rfl, hks⟩
    · exact .inr ⟨r, p, a, rfl, h', hks⟩
  have fpk : ∀ d, c.er = .v d → ∀ n ∈ A.fps a.kids, n ∈ c.fp := fun d hd n hn => by
    rcases hc with rfl | ⟨r, p, rfl, h⟩
    · show n ∈ a.fp
      cases a with
      | sc s => simp [A.kids, A.fps] at hn
      | tup xs => exact hn
      | nd k m hd xs => cases k <;> simp_all [A.fp, A.kids]
    · cases hd
  cases a with
  | sc s => simp [A.er, seqD] at e2
  | tup xs =>
    simp only [A.er, seqD, Option.some.injEq, Prod.mk.injEq] at e2
    obtain ⟨rfl, rfl⟩ := e2
    simp only [A.ok] at aok
    exact ⟨xs, rfl, rfl, aok.2, fpk, fun _ => aok.1, key xs rfl⟩
  | nd k n hd xs =>
    have ob := obj_of g.fs aok
    cases hd with
    | lst =>
      simp only [A.er, seqD, Option.some.injEq, Prod.mk.injEq] at e2
      obtain ⟨rfl, rfl⟩ := e2
      exact ⟨xs, rfl, ⟨n, rfl, ob.lst⟩, ok_kids aok, fpk, (fun e => by cases e), key xs rfl⟩
    | rol =>
      simp only [A.er, seqD, Option.some.injEq, Prod.mk.injEq] at e2
      obtain ⟨rfl, rfl⟩ := e2
      exact ⟨xs, rfl, ⟨n, rfl, ob.rol⟩, ok_kids aok, fpk, (fun e => by cases e), key xs rfl⟩
    | dct ks => simp [A.er, seqD] at e2
    | dcn ks => simp [A.er, seqD] at e2
    | ptp => simp [A.er, seqD] at e2
    | ins C ns => simp [A.er, seqD] at e2
def lstK (x : RV) (ls gh : Ls) : Option (List D) := match seqV x ls gh with
  | some (.lst, xs) => shrK x xs
  | _ => none
theorem lstK_sim (g : Good F S as ag) {c : ARV} {ds : List D} {w : PV} (nd : (fpS (as ++ ag) ++ c.fp).Nodup) (lt : ∀ n ∈ c.fp, n < S.length) (hp : c.pv as ag = some w) (hk : c.ok F S) (h : lstK c.er (erS as) (erS ag) = some ds) :
    ∃ (F' : FM) (zs : List A) (n : Nat), A.ers zs = ds ∧ w = .loc n ∧ S[n]? = some (.lst (A.pvs zs)) ∧ A.fps zs = [] ∧ A.oks F' S zs ∧ Ev true F S as ag c.fp F' S as ag [] := by
  unfold lstK at h
  split at h
  · rename_i xs e
    obtain ⟨ks, rfl, ⟨n, rfl, hs⟩, ok, fpk, _, _⟩ := seqV_er e hp g hk
    obtain ⟨F', zs, h1, h2, h3, h4, h5⟩ := shrK_sim g nd lt ok fpk h
    exact ⟨F', zs, n, h1, rfl, by rw [h2]; exact hs, h3, h4, h5⟩
  · cases h
def gAdd : G2 := fun x y ls gh => match x, y with
  | .v (.sc (.int i)), .v (.sc (.int j)) => .ok (.v (.int (i + j))) ls gh
  | .v (.sc (.str a)), .v (.sc (.str b)) => if a.length + b.length ≤ lim then .ok (.v (.str (a ++ b))) ls gh else .bad
  | .v (.tup a), .v (.tup b) => if a.length + b.length ≤ lim then .ok (.v (.tup (a ++ b))) ls gh else .bad
  | x, y => match lstK x ls gh, lstK y ls gh with
    | some a, some b => if a.length + b.length ≤ lim then .ok (.v (.nd .ow .lst (a ++ b))) ls gh else .bad
    | _, _ => .bad
theorem ers_app (xs ys : List A) : A.ers (xs ++ ys) = A.ers xs ++ A.ers ys := by simp [ers_map]
theorem pvs_app (xs ys : List A) : A.pvs (xs ++ ys) = A.pvs xs ++ A.pvs ys := by simp [pvs_map]
theorem fps_app (xs ys : List A) : A.fps (xs ++ ys) = A.fps xs ++ A.fps ys := by simp [fps_map]
theorem oks_app {xs ys : List A} (h1 : A.oks F S xs) (h2 : A.oks F S ys) : A.oks F S (xs ++ ys) := by
  rw [oks_iff] at *
  intro x hx
  rcases List.mem_append.mp hx with h | h
  · exact h1 x h
  · exact h2 x h
theorem oks_mono {xs : List A} (m : Mono F F') (h : A.oks F S xs) (e : A.fps xs = []) : A.oks F' S' xs := by
  rw [oks_iff] at *
  exact fun x hx => ok_frame m (fun n hn => by
    have : n ∈ A.fps xs := by rw [fps_map]; exact List.mem_flatMap.mpr ⟨x, hx, hn⟩
    rw [e] at this; cases this) (h x hx)
theorem lstAt_of {S : Sto} {n : Nat} {xs : List PV} (h : S[n]? = some (.lst xs)) : GL.lstAt S n = some xs := by unfold GL.lstAt; rw [h]
theorem seqAt_of {S : Sto} {n : Nat} {xs : List PV} (h : S[n]? = some (.lst xs)) : GL.seqAt S n = some xs := by unfold GL.seqAt; rw [h]
theorem seqAt_of' {S : Sto} {n : Nat} {xs : List PV} (h : S[n]? = some (.rol xs)) : GL.seqAt S n = some xs := by unfold GL.seqAt; rw [h]
theorem two_lists (g : Good F S as ag) {c1 c2 : ARV} {a b : List D} {w1 w2 : PV} (nd : (fpS (as ++ ag) ++ (c1.fp ++ c2.fp)).Nodup) (lt : ∀ n ∈ c1.fp ++ c2.fp, n < S.length) (h1 : c1.pv as ag = some w1) (h2 : c2.pv as ag = some w2) (k1 : c1.ok F S) (k2 : c2.ok F S)
    (e1 : lstK c1.er (erS as) (erS ag) = some a) (e2 : lstK c2.er (erS as) (erS ag) = some b) :
    ∃ (F' : FM) (ys zs : List A) (n m : Nat), A.ers ys = a ∧ A.ers zs = b ∧ w1 = .loc n ∧ w2 = .loc m ∧ S[n]? = some (.lst (A.pvs ys)) ∧ S[m]? = some (.lst (A.pvs zs)) ∧ A.fps ys = [] ∧ A.fps zs = [] ∧ A.oks F' S ys ∧ A.oks F' S zs ∧ Ev true F S as ag (c1.fp ++ c2.fp) F' S as ag [] := by
  obtain ⟨n1, n2, n3⟩ := nd_sub nd
  obtain ⟨F1, ys, n, r1, rfl, r3, r4, r5, ev1⟩ := lstK_sim g n1 (fun n h => lt n (List.mem_append_left _ h)) h1 k1 e1
  have ev1f := (ev1.frame n3 (fun n h => lt n (List.mem_append_right _ h))).perm List.perm_append_comm List.perm_append_comm
  have k2' := (stab_re true c2 (.inl rfl) _ _ _ _ _ _ _ _ _ _ _ ev1 g n3 h2 k2)
  obtain ⟨F2, zs, m, s1, rfl, s3, s4, s5, ev2⟩ := lstK_sim ev1.good (by simpa using ev1f.nd) (fun n h => ev1f.lt n (by simpa using h)) k2'.1 k2'.2 e2
  refine ⟨F2, ys, zs, n, m, r1, s1, rfl, rfl, r3, s3, r4, s4, oks_mono ev2.mono r5 r4, s5, ?_⟩
  have := ev1f.trans (by simpa using ev2)
  simpa using this
theorem sim_gAdd : SimG true GL.gAdd gAdd := by
  intro F S as ag c1 c2 w1 w2 g nd lt h1 h2 k1 k2
  unfold gAdd
  split
  · rename_i i j e1 e2
    rw [er_vsc e1 h1, er_vsc e2 h2]
    exact sim_sc g nd lt (.int (i + j)) (fun _ => rfl)
  · rename_i a b e1 e2
    rw [er_vsc e1 h1, er_vsc e2 h2]
    by_cases hl : a.length + b.length ≤ lim
    · rw [if_pos hl]
      exact sim_sc g nd lt (.str (a ++ b)) (fun _ => by simp only [GL.gAdd, Sc.pv, if_pos hl])
    · rw [if_neg hl]; trivial
  · rename_i a b e1 e2
    obtain ⟨x, rfl, ex, rfl⟩ := er_v e1 h1
    obtain ⟨y, rfl, ey, rfl⟩ := er_v e2 h2
    obtain ⟨xs, rfl, rfl⟩ := er_tup ex
    obtain ⟨ys, rfl, rfl⟩ := er_tup ey
    rw [ers_len, ers_len]
    by_cases hl : xs.length + ys.length ≤ lim
    · rw [if_pos hl]
      have p1 : A.fps xs = [] ∧ A.oks F S xs := k1
      have p2 : A.fps ys = [] ∧ A.oks F S ys := k2
      refine sim_okE g nd lt (.v (.tup (xs ++ ys))) (fun _ => ?_) (by simp [ARV.er, A.er, ers_app]) rfl ⟨by rw [fps_app, p1.1, p2.1]; rfl, oks_app p1.2 p2.2⟩ (by show (A.fps _).Sublist _; rw [fps_app, p1.1, p2.1]; exact List.nil_sublist _)
      simp only [GL.gAdd, A.pv, pvs_len, if_pos hl, pvs_app]
    · rw [if_neg hl]; trivial
  · split
    · rename_i a b e1 e2
      obtain ⟨F', ys, zs, n, m, rfl, rfl, rfl, rfl, s1, s2, f1, f2, o1, o2, ev⟩ := two_lists g nd lt h1 h2 k1 k2 e1 e2
      rw [ers_len, ers_len]
      by_cases hl : ys.length + zs.length ≤ lim
      · rw [if_pos hl, ← ers_app]
        refine SimO.pre ev ?_
        refine sim_alloc ev.good ev.nd ev.lt .lst (ys ++ zs) rfl (oks_app o1 o2) (by rw [fps_app, f1, f2]; exact List.nil_sublist _) (fun _ => ?_)
        simp only [GL.gAdd, lstAt_of s1, lstAt_of s2, pvs_len, if_pos hl, mkO, pvs_app]
      · rw [if_neg hl]; trivial
    · trivial
def repD (n : Nat) (xs : List D) : List D := (List.replicate n xs).flatten
def gMul : G2 := fun x y ls gh => match x, y with
  | .v (.sc (.int i)), .v (.sc (.int j)) => if (GL.smallI i || GL.smallI j) = true then .ok (.v (.int (i * j))) ls gh else .bad
  | x, .v (.sc (.int j)) => (match lstK x ls gh with
    | some a => if (decide (0 ≤ j) && decide (j < 100000) && decide (a.length * j.toNat ≤ lim)) = true then .ok (.v (.nd .ow .lst (repD j.toNat a))) ls gh else .bad
    | none => .bad)
  | _, _ => .bad
theorem sim_gMul : SimG true GL.gMul gMul := by
  intro F S as ag c1 c2 w1 w2 g nd lt h1 h2 k1 k2
  unfold gMul
  split
  · rename_i i j e1 e2
    rw [er_vsc e1 h1, er_vsc e2 h2]
    by_cases hl : (GL.smallI i || GL.smallI j) = true
    · rw [if_pos hl]
      exact sim_sc g nd lt (.int (i * j)) (fun _ => by simp only [GL.gMul, Sc.pv, if_pos hl])
    · rw [if_neg hl]; trivial
  · rename_i j e2 hne
    rw [er_vsc e2 h2]
    split
    · rename_i a e1
      obtain ⟨n1, n2, n3⟩ := nd_sub nd
      obtain ⟨F1, ys, n, rfl, rfl, r3, r4, r5, ev1⟩ := lstK_sim g n1 (fun n h => lt n (List.mem_append_left _ h)) h1 k1 e1
      have ev1f := (ev1.frame n3 (fun n h => lt n (List.mem_append_right _ h))).perm List.perm_append_comm List.perm_append_comm
      rw [ers_len]
      by_cases hl : (decide (0 ≤ j) && decide (j < 100000) && decide (ys.length * j.toNat ≤ lim)) = true
      · rw [if_pos hl]
        refine SimO.pre ev1f ?_
        have eE : repD j.toNat (A.ers ys) = A.ers (List.replicate j.toNat ys).flatten := by
          unfold repD
          rw [ers_map, ers_map, List.map_flatten, List.map_replicate]
        have fpE : A.fps (List.replicate j.toNat ys).flatten = [] := by
          rw [fps_map, List.flatMap_eq_nil_iff]
          intro x hx
          obtain ⟨l, hl, hx⟩ := List.mem_flatten.mp hx
          rw [List.eq_of_mem_replicate hl] at hx
          rw [fps_map, List.flatMap_eq_nil_iff] at r4
          exact r4 x hx
        rw [eE]
        refine sim_alloc ev1f.good ev1f.nd ev1f.lt .lst _ rfl ?_ (by rw [fpE]; exact List.nil_sublist _) (fun _ => ?_)
        · rw [oks_iff] at r5 ⊢
          intro x hx
          obtain ⟨l, hl, hx⟩ := List.mem_flatten.mp hx
          rw [List.eq_of_mem_replicate hl] at hx
          exact r5 x hx
        · simp only [GL.gMul, Sc.pv, lstAt_of r3, pvs_len, if_pos hl, mkO]
          rw [pvs_map, pvs_map, List.map_flatten, List.map_replicate]
      · rw [if_neg hl]; trivial
    · trivial
  · trivial
def scalD : D → D → Option Bool
  | .sc (.int i), .sc (.int j) => some (decide (i = j))
  | .sc (.str x), .sc (.str y) => some (decide (x = y))
  | .sc (.bl x), .sc (.bl y) => some (x == y)
  | .sc .non, .sc .non => some true
  | .sc .non, .sc (.int _) => some false
  | .sc (.int _), .sc .non => some false
  | .sc .non, .sc (.bl _) => some false
  | .sc (.bl _), .sc .non => some false
  | .sc .non, .sc (.str _) => some false
  | .sc (.str _), .sc .non => some false
  | .sc (.int _), .sc (.str _) => some false
  | .sc (.str _), .sc (.int _) => some false
  | .sc (.bl _), .sc (.str _) => some false
  | .sc (.str _), .sc (.bl _) => some false
  | _, _ => none
theorem scal_er (a b : A) {k : Bool} (h : scalD a.er b.er = some k) : GL.scalP a.pv b.pv = some k := by
  cases a with
  | sc s =>
    cases b with
    | sc t => cases s <;> cases t <;> first | exact h | cases h
    | tup ys => cases s <;> simp [A.er, scalD] at h
    | nd k n hd ys => cases s <;> simp [A.er, scalD] at h
  | tup xs => simp [A.er, scalD] at h
  | nd k n hd xs => simp [A.er, scalD] at h
theorem scal_none (a b : A) (h : scalD a.er b.er = none) : GL.scalP a.pv b.pv = none := by
  cases a with
  | sc s =>
    cases b with
    | sc t => cases s <;> cases t <;> first | rfl | cases h
    | tup ys => cases s <;> rfl
    | nd k n hd ys => cases s <;> rfl
  | tup xs => cases b with
    | sc t => cases t <;> rfl
    | tup ys => rfl
    | nd k n hd ys => rfl
  | nd k n hd xs => cases b with
    | sc t => cases t <;> rfl
    | tup ys => rfl
    | nd k n hd ys => rfl
def datD : Nat → D → Option PyData
  | 0, _ => none
  | f + 1, d => match d with
    | .sc .non => some .none
    | .sc (.bl b) => some (.bool b)
    | .sc (.int i) => some (.int i)
    | .sc (.str l) => if PyData.strOk (GL.toS l) = true then some (.str (GL.toS l)) else none
    | .tup xs => (GL.optAll (datD f) xs).map .tuple
    | .nd _ .lst xs => (GL.optAll (datD f) xs).map .list
    | .nd _ .rol xs => (GL.optAll (datD f) xs).map .list
    | .nd _ .ptp xs => (GL.optAll (datD f) xs).map .tuple
    | _ => none
theorem optAll_er {f : Nat} {xs : List A} (h : ∀ x ∈ xs, GL.datP S f x.pv = datD f x.er) : GL.optAll (GL.datP S f) (A.pvs xs) = GL.optAll (datD f) (A.ers xs) := by
  induction xs with
  | nil => rfl
  | cons x r ih =>
    simp only [A.pvs, A.ers, GL.optAll]
    rw [h x List.mem_cons_self, ih fun y hy => h y (List.mem_cons_of_mem _ hy)]
theorem dat_er (fs : FS F S) : ∀ (f : Nat) {a : A}, a.ok F S → GL.datP S f a.pv = datD f a.er
  | 0, a, _ => rfl
  | f + 1, a, h => by
    cases a with
    | sc s => cases s <;> rfl
    | tup xs =>
      simp only [A.ok] at h
      show (GL.optAll (GL.datP S f) (A.pvs xs)).map _ = (GL.optAll (datD f) (A.ers xs)).map _
      rw [optAll_er fun x hx => dat_er fs f ((oks_iff xs).mp h.2 x hx)]
    | nd k n hd xs =>
      have ob := obj_of fs h
      have kd := ok_kids h
      have e := optAll_er (S := S) (f := f) (xs := xs) fun x hx => dat_er fs f ((oks_iff xs).mp kd x hx)
      cases hd with
      | lst =>
        show (match GL.seqAt S n with | some xs => (GL.optAll (GL.datP S f) xs).map _ | none => (match GL.ptpA S n with | some xs => (GL.optAll (GL.datP S f) xs).map _ | none => none)) = (GL.optAll (datD f) (A.ers xs)).map _
        rw [seqAt_of (AtU.lst ob)]
        dsimp only
        rw [e]
      | rol =>
        show (match GL.seqAt S n with | some xs => (GL.optAll (GL.datP S f) xs).map _ | none => (match GL.ptpA S n with | some xs => (GL.optAll (GL.datP S f) xs).map _ | none => none)) = (GL.optAll (datD f) (A.ers xs)).map _
        rw [seqAt_of' (AtU.rol ob)]
        dsimp only
        rw [e]
      | dct ks =>
        show (match GL.seqAt S n with | some xs => (GL.optAll (GL.datP S f) xs).map _ | none => (match GL.ptpA S n with | some xs => (GL.optAll (GL.datP S f) xs).map _ | none => none)) = none
        have : GL.seqAt S n = none := by
          unfold GL.seqAt
          rcases ob with ob | ⟨k, _, ob⟩ <;> rw [ob] <;> rfl
        have t2 : GL.ptpA S n = none := by
          unfold GL.ptpA
          rcases ob with ob | ⟨k, _, ob⟩ <;> rw [ob] <;> rfl
        rw [this, t2]
      | dcn ks =>
        show (match GL.seqAt S n with | some xs => (GL.optAll (GL.datP S f) xs).map _ | none => (match GL.ptpA S n with | some xs => (GL.optAll (GL.datP S f) xs).map _ | none => none)) = none
        have : GL.seqAt S n = none := by unfold GL.seqAt; rw [AtU.dcn ob]
        have t2 : GL.ptpA S n = none := by unfold GL.ptpA; rw [AtU.dcn ob]
        rw [this, t2]
      | ptp =>
        show (match GL.seqAt S n with | some xs => (GL.optAll (GL.datP S f) xs).map _ | none => (match GL.ptpA S n with | some xs => (GL.optAll (GL.datP S f) xs).map _ | none => none)) = (GL.optAll (datD f) (A.ers xs)).map _
        have : GL.seqAt S n = none := by unfold GL.seqAt; rw [AtU.ptp ob]
        have t2 : GL.ptpA S n = some (A.pvs xs) := by unfold GL.ptpA; rw [AtU.ptp ob]
        rw [this, t2]
        dsimp only
        rw [e]
      | ins C ns =>
        show (match GL.seqAt S n with | some xs => (GL.optAll (GL.datP S f) xs).map _ | none => (match GL.ptpA S n with | some xs => (GL.optAll (GL.datP S f) xs).map _ | none => none)) = none
        have : GL.seqAt S n = none := by unfold GL.seqAt; rw [AtU.ins ob]
        have t2 : GL.ptpA S n = none := by unfold GL.ptpA; rw [AtU.ins ob]
        rw [this, t2]
def eqD (neg : Bool) (a b : D) : Option Bool := match scalD a b with
  | some k => some (if neg = true then !k else k)
  | none => match datD 60 a, datD 60 b with
    | some d, some e => some (if neg = true then !PyData.eqv d e else PyData.eqv d e)
    | _, _ => none
def eqM (neg : Bool) : G2 := fun x y ls gh => match val x ls gh, val y ls gh with
  | some a, some b => (match eqD neg a b with
    | some k => .ok (.v (.bl k)) ls gh
    | none => .bad)
  | _, _ => .bad
abbrev gEq : G2 := eqM false
abbrev gNe : G2 := eqM true
theorem sim_eqM (neg : Bool) : SimG true (GL.eqM neg) (eqM neg) := by
  intro F S as ag c1 c2 w1 w2 g nd lt h1 h2 k1 k2
  unfold eqM
  split
  · rename_i d e e1 e2
    obtain ⟨a, rfl, rfl, aok, _⟩ := val_er c1 e1 h1 g k1
    obtain ⟨b, rfl, rfl, bok, _⟩ := val_er c2 e2 h2 g k2
    split
    · rename_i k hk
      refine sim_sc g nd lt (.bl k) (fun _ => ?_)
      unfold eqD at hk
      unfold GL.eqM
      cases hs : scalD a.er b.er with
      | some j =>
        rw [hs] at hk
        rw [scal_er a b hs]
        cases hk; rfl
      | none =>
        rw [hs] at hk
        rw [scal_none a b hs, dat_er g.fs 60 aok, dat_er g.fs 60 bok]
        dsimp only at hk ⊢
        cases ha : datD 60 a.er with
        | none => rw [ha] at hk; cases hk
        | some x =>
          cases hb : datD 60 b.er with
          | none => rw [ha, hb] at hk; cases hk
          | some y => rw [ha, hb] at hk; cases hk; rfl
    · trivial
  · trivial
theorem sim_gEq : SimG true GL.gEq gEq := sim_eqM false
theorem sim_gNe : SimG true GL.gNe gNe := sim_eqM true
def flatD : D → Bool
  | .sc .non => true
  | .sc (.bl _) => true
  | .sc (.int _) => true
  | .sc (.str _) => true
  | _ => false
def eqF : D → D → Bool
  | .sc .non, .sc .non => true
  | .sc (.bl a), .sc (.bl b) => a == b
  | .sc (.bl a), .sc (.int b) => (if a then 1 else 0) == b
  | .sc (.int a), .sc (.bl b) => a == (if b then 1 else 0)
  | .sc (.int a), .sc (.int b) => a == b
  | .sc (.str a), .sc (.str b) => decide (a = b)
  | _, _ => false
def inD (x : D) (xs : List D) : Bool := xs.any fun y => eqF y x
theorem flat_pv (a : A) : GL.flatP a.pv = flatD a.er := by
  cases a with
  | sc s => cases s <;> rfl
  | tup xs => rfl
  | nd k n hd xs => rfl
theorem eqF_pv (a b : A) (ha : flatD a.er = true) (hb : flatD b.er = true) : GL.eqF a.pv b.pv = eqF a.er b.er := by
  cases a with
  | sc s =>
    cases b with
    | sc t => cases s <;> cases t <;> rfl
    | tup xs => cases hb
    | nd k n hd xs => cases hb
  | tup xs => cases ha
  | nd k n hd xs => cases ha
theorem in_pv (x : A) (xs : List A) (hx : flatD x.er = true) (h : (A.ers xs).all flatD = true) : (A.pvs xs).all GL.flatP = true ∧ GL.inP x.pv (A.pvs xs) = inD x.er (A.ers xs) := by
  induction xs with
  | nil => exact ⟨rfl, rfl⟩
  | cons y r ih =>
    simp only [A.ers, List.all_cons, Bool.and_eq_true] at h
    obtain ⟨i1, i2⟩ := ih h.2
    refine ⟨by simp only [A.pvs, List.all_cons, i1, flat_pv, h.1, Bool.and_true], ?_⟩
    simp only [GL.inP, inD, A.pvs, A.ers, List.any_cons] at i2 ⊢
    rw [i2, eqF_pv y x h.1 hx]
def inM (neg : Bool) : G2 := fun x y ls gh => match val x ls gh, seqV y ls gh with
  | some a, some (_, xs) => if (flatD a && xs.all flatD) = true then .ok (.v (.bl (if neg then !inD a xs else inD a xs))) ls gh else .bad
  | _, _ => .bad
theorem sim_inM (neg : Bool) : SimG true (GL.inM neg) (inM neg) := by
  intro F S as ag c1 c2 w1 w2 g nd lt h1 h2 k1 k2
  unfold inM
  split
  · rename_i d k xs e1 e2
    obtain ⟨a, rfl, rfl, aok, _⟩ := val_er c1 e1 h1 g k1
    obtain ⟨ks, rfl, sg, ok, _, _, _⟩ := seqV_er e2 h2 g k2
    by_cases hf : (flatD a.er && (A.ers ks).all flatD) = true
    · rw [if_pos hf]
      obtain ⟨f1, f2⟩ := Bool.and_eq_true_iff.mp hf
      obtain ⟨q1, q2⟩ := in_pv a ks f1 f2
      refine sim_sc g nd lt (.bl _) (fun _ => ?_)
      have fa : GL.flatP a.pv = true := by rw [flat_pv]; exact f1
      cases k with
      | tup => cases sg; simp only [GL.inM, fa, q1, q2, Bool.and_self, if_true, Sc.pv]
      | lst => obtain ⟨n, rfl, hs⟩ := sg; simp only [GL.inM, seqAt_of hs, fa, q1, q2, Bool.and_self, if_true, Sc.pv]
      | rol => obtain ⟨n, rfl, hs⟩ := sg; simp only [GL.inM, seqAt_of' hs, fa, q1, q2, Bool.and_self, if_true, Sc.pv]
    · rw [if_neg hf]; trivial
  · trivial
def isNonD : D → Bool
  | .sc .non => true
  | _ => false
theorem isNon_pv (a : A) : GL.isNonP a.pv = isNonD a.er := by
  cases a with
  | sc s => cases s <;> rfl
  | tup xs => rfl
  | nd k n hd xs => rfl
def isM (neg : Bool) : G2 := fun x y ls gh => match y with
  | .v (.sc .non) => (match val x ls gh with
    | some d => .ok (.v (.bl (if neg then !isNonD d else isNonD d))) ls gh
    | none => .bad)
  | .v (.sc (.bl k)) => (match x with
    | .v (.sc (.bl j)) => .ok (.v (.bl (if neg then !decide (j = k) else decide (j = k)))) ls gh
    | _ => .bad)
  | _ => .bad
theorem sim_isM (neg : Bool) : SimG true (GL.isM neg) (isM neg) := by
  intro F S as ag c1 c2 w1 w2 g nd lt h1 h2 k1 k2
  unfold isM
  split
  · rename_i e2
    rw [er_vsc e2 h2]
    split
    · rename_i d e1
      obtain ⟨a, rfl, rfl, aok, _⟩ := val_er c1 e1 h1 g k1
      refine sim_sc g nd lt (.bl _) (fun _ => ?_)
      show GL.Out.ok (PV.bl (if neg = true then !GL.isNonP a.pv else GL.isNonP a.pv)) S = _
      rw [isNon_pv]; rfl
    · trivial
  · rename_i k e2
    rw [er_vsc e2 h2]
    split
    · rename_i j e1
      rw [er_vsc e1 h1]
      exact sim_sc g nd lt (.bl _) (fun _ => rfl)
    · trivial
  · trivial
end VL
set_option Elab.async false
set_option linter.all false
set_option maxRecDepth 100000
set_option maxHeartbeats 1000000
namespace VL
open GL (PV OB Sto Nm BT lim)
open PySem (PyData Builtin)
variable {F F' : FM} {S S' : Sto} {as as' ag ag' : List AV}
theorem sim_at {α β γ : Type} {R : RT α β γ} {q : Bool} {m : AD → GL.Ls → Sto → GL.Out α} {p : PX β} {L : AD → GL.Ls} (h : SimX q R m p) (g : Good F S as ag) (hL : ∀ ad, L ad = glS as ag ad as) : SimO q R F S as ag [] (fun ad => m ad (L ad) S) (p (erS as) (erS ag)) := by
  have := h F S as ag g
  simpa only [hL] using this
def asB (x : RV) : PT := fun ls gh => match x with
  | .v (.sc (.bl b)) => .ok b ls gh
  | _ => .bad
def toT (m : PE) : PT := fun ls gh => (m ls gh).bind fun x ls gh => asB x ls gh
def tAndM (a b : PT) : PT := fun ls gh => (a ls gh).bind fun k ls gh => if k = true then b ls gh else .ok false ls gh
def tOrM (a b : PT) : PT := fun ls gh => (a ls gh).bind fun k ls gh => if k = true then .ok true ls gh else b ls gh
def tNotM (a : PT) : PT := fun ls gh => (a ls gh).bind fun k ls gh => .ok (!k) ls gh
def tYesM : PT := fun ls gh => .ok true ls gh
def eNotM (a : PE) : PE := fun ls gh => (a ls gh).bind fun x ls gh => match x with
  | .v (.sc (.bl b)) => .ok (.v (.bl (!b))) ls gh
  | _ => .bad
def eAndM (a b : PE) : PE := fun ls gh => (a ls gh).bind fun x ls gh => match x with
  | .v (.sc (.bl true)) => b ls gh
  | .v (.sc (.bl false)) => .ok (.v (.bl false)) ls gh
  | _ => .bad
def eNegM (a : PE) : PE := fun ls gh => (a ls gh).bind fun x ls gh => match x with
  | .v (.sc (.int i)) => .ok (.v (.int (-i))) ls gh
  | _ => .bad
def kNot (w : PV) (S1 : Sto) : GL.Out PV := match w with
  | .bl k => .ok (.bl (!k)) S1
  | _ => .bad
def kNeg (w : PV) (S1 : Sto) : GL.Out PV := match w with
  | .int i => .ok (.int (-i)) S1
  | _ => .bad
def kAnd (m : Sto → GL.Out PV) (w : PV) (S1 : Sto) : GL.Out PV := match w with
  | .bl true => m S1
  | .bl false => .ok (.bl false) S1
  | _ => .bad
def kYes (w : PV) (S1 : Sto) : GL.Out (Option Int) := match w with
  | .int i => .ok (some i) S1
  | _ => .bad
section
variable {qa qb qc : Bool} {ma mb mc : AD → GL.ME} {pa pb pc : PE} {ta tb : AD → GL.MT} {ua ub : PT}
theorem sim_toT (h : SimE qa ma pa) : SimT qa (fun ad => GL.toT (ma ad)) (toT pa) := fun F S as ag gd =>
  SimO.weak (sim_first (R' := RB) (q' := true) (k := fun x ls gh => asB x ls gh) (f := fun ad w S1 => GL.asB w S1) h gd (fun _ => rfl) fun F1 S1 as1 ag1 c w h1 h2 g1 n1 l1 L1 => by
    show SimO _ _ _ _ _ _ _ _ (asB c.er (erS as1) (erS ag1))
    unfold asB
    split
    · rename_i b e
      rw [er_vsc e h1]
      exact sim_ok (R := RB) g1 n1 l1 b (fun _ => rfl) rfl rfl trivial (List.nil_sublist _)
    · trivial) (by simp)
theorem sim_tnot (h : SimT qa ta ua) : SimT qa (fun ad => GL.tNotM (ta ad)) (tNotM ua) := fun F S as ag gd =>
  SimO.weak (sim_first (R' := RB) (q' := true) (k := fun x ls gh => .ok (!x) ls gh) (f := fun ad w S1 => .ok (!w) S1) h gd (fun _ => rfl) fun F1 S1 as1 ag1 c w h1 h2 g1 n1 l1 L1 => by
    cases h1
    exact sim_ok (R := RB) g1 n1 l1 (!c) (fun _ => rfl) rfl rfl trivial (List.nil_sublist _)) (by simp)
theorem sim_tor (h : SimT qa ta ua) (h2 : SimT qb tb ub) : SimT (qa && qb) (fun ad => GL.tOrM (ta ad) (tb ad)) (tOrM ua ub) := fun F S as ag gd =>
  sim_first (R' := RB) (q' := qb) (k := fun k ls gh => if k = true then .ok true ls gh else ub ls gh) (f := fun ad k S1 => if k = true then .ok true S1 else tb ad (glS as ag ad as) S1) h gd (fun _ => rfl) fun F1 S1 as1 ag1 c w h1 _ g1 n1 l1 L1 => by
    cases h1
    cases c with
    | false => exact sim_at (R := RB) h2 g1 L1
    | true => exact sim_ok (R := RB) g1 n1 l1 true (fun _ => rfl) rfl rfl trivial (List.nil_sublist _)
theorem sim_tyes : SimT true (fun _ => GL.tYesM) tYesM := fun F S as ag g => sim_ok (R := RB) g (good_nd g) (fun _ h => by cases h) true (fun _ => rfl) rfl rfl trivial (List.nil_sublist _)
theorem sim_not (h : SimE qa ma pa) : SimE qa (fun ad => GL.eNotM (ma ad)) (eNotM pa) := fun F S as ag gd =>
  SimO.weak (sim_first (R' := RE) (q' := true) (k := fun (x : RV) (ls gh : Ls) => match x with
  | .v (.sc (.bl b)) => .ok (.v (.bl (!b))) ls gh
  | _ => .bad) (f := fun (ad : AD) (w : PV) (S1 : Sto) => kNot w S1) h gd (fun _ => rfl) fun F1 S1 as1 ag1 c w h1 h2 g1 n1 l1 L1 => by
    split
    · rename_i b e
      rw [er_vsc e h1]
      exact sim_sc g1 n1 l1 (.bl (!b)) (fun _ => rfl)
    · trivial) (by simp)
theorem sim_neg (h : SimE qa ma pa) : SimE qa (fun ad => GL.eNegM (ma ad)) (eNegM pa) := fun F S as ag gd =>
  SimO.weak (sim_first (R' := RE) (q' := true) (k := fun (x : RV) (ls gh : Ls) => match x with
  | .v (.sc (.int i)) => .ok (.v (.int (-i))) ls gh
  | _ => .bad) (f := fun (ad : AD) (w : PV) (S1 : Sto) => kNeg w S1) h gd (fun _ => rfl) fun F1 S1 as1 ag1 c w h1 h2 g1 n1 l1 L1 => by
    split
    · rename_i b e
      rw [er_vsc e h1]
      exact sim_sc g1 n1 l1 (.int (-b)) (fun _ => rfl)
    · trivial) (by simp)
theorem nil_x0 {α β γ : Type} {R : RT α β γ} {q : Bool} {o : AD → GL.Out α} {p : Out β} {x0 : List Nat} (nd : (fpS (as ++ ag) ++ x0).Nodup) (h : SimO q R F S as ag [] o p) : SimO q R F S as ag x0 o p := by
  have wk : ∀ {F' : FM} {S' : Sto} {as' ag' : List AV} {x : List Nat}, Ev q F S as ag [] F' S' as' ag' x → Ev q F S as ag x0 F' S' as' ag' x := fun e =>
    ⟨e.good, e.nd, e.lt, e.mono, e.len, fun n hn hx => e.keep n hn fun h => hx (by
      rcases List.mem_append.mp h with t | t
      · exact List.mem_append_left _ t
      · cases t), fun n hn => (e.new n hn).imp (fun h => by
      rcases List.mem_append.mp h with t | t
      · exact List.mem_append_left _ t
      · cases t) id, e.gl, e.gg, e.rt, e.per⟩
  cases p with
  | bad => trivial
  | exc e ls gh => obtain ⟨F2, S2, as2, ag2, x, b1, b2, b3, b4, b5, b6⟩ := h; exact ⟨F2, S2, as2, ag2, x, b1, b2, b3, b4, b5, wk b6⟩
  | ok b ls gh => obtain ⟨F2, S2, as2, ag2, c, w, b1, b2, b3, b4, b5, b6, b7⟩ := h; exact ⟨F2, S2, as2, ag2, c, w, b1, b2, b3, b4, b5, b6, wk b7⟩
theorem sim_and (h : SimE qa ma pa) (hb : SimE qb mb pb) : SimE (qa && qb) (fun ad => GL.eAndM (ma ad) (mb ad)) (eAndM pa pb) := fun F S as ag gd =>
  sim_first (R' := RE) (q' := qb) (k := fun (x : RV) (ls gh : Ls) => match x with
  | .v (.sc (.bl true)) => pb ls gh
  | .v (.sc (.bl false)) => .ok (.v (.bl false)) ls gh
  | _ => .bad) (f := fun (ad : AD) (w : PV) (S1 : Sto) => kAnd (mb ad (glS as ag ad as)) w S1) h gd (fun _ => rfl) fun F1 S1 as1 ag1 c w h1 h2 g1 n1 l1 L1 => by
    split
    · rename_i e
      rw [er_vsc e h1]
      exact nil_x0 n1 (sim_at (R := RE) hb g1 L1)
    · rename_i e
      rw [er_vsc e h1]
      exact sim_sc g1 n1 l1 (.bl false) (fun _ => rfl)
    · trivial
end
def e1 (f : RV → PE) (a : PE) : PE := fun ls gh => (a ls gh).bind fun x ls gh => f x ls gh
def SimF1 (q : Bool) (ff : PV → Sto → GL.Out PV) (f : RV → PE) : Prop := ∀ (F : FM) (S : Sto) (as ag : List AV) (c : ARV) (w : PV), Good F S as ag → (fpS (as ++ ag) ++ c.fp).Nodup → (∀ n ∈ c.fp, n < S.length) → c.pv as ag = some w → c.ok F S →
  SimO q RE F S as ag c.fp (fun _ => ff w S) (f c.er (erS as) (erS ag))
theorem sim_e1 {qa qf : Bool} {ma : AD → GL.ME} {pa : PE} {ff : PV → Sto → GL.Out PV} {f : RV → PE} (h : SimE qa ma pa) (hf : SimF1 qf ff f) : SimE (qa && qf) (fun ad ls S => (ma ad ls S).bind fun w S1 => ff w S1) (e1 f pa) := fun F S as ag gd =>
  sim_first (R' := RE) (q' := qf) (k := fun x ls gh => f x ls gh) (f := fun ad w S1 => ff w S1) h gd (fun _ => rfl) fun F1 S1 as1 ag1 c w h1 h2 g1 n1 l1 L1 => hf F1 S1 as1 ag1 c w g1 n1 l1 h1 h2
def childR (c : RV) (i : Nat) (d : D) : RV := if d.shr = true then .v d else match c with
  | .v _ => .v d
  | .pth r p => .pth r (p ++ [i])
theorem get_app : ∀ (p : List Nat) (a : A) (i : Nat), getA (p ++ [i]) a = (getA p a).bind fun z => z.kids[i]?
  | [], a, i => by
    show getA [i] a = _
    unfold getA
    cases h : a.kids[i]? with
    | none => simp [h]
    | some z => simp [h, getA]
  | j :: p, a, i => by
    show getA (j :: (p ++ [i])) a = _
    rw [getA, getA]
    cases h : a.kids[j]? with
    | none => rfl
    | some z => exact get_app p z i
theorem sim_child {q : Bool} {x0 : List Nat} (g : Good F S as ag) (nd : (fpS (as ++ ag) ++ x0).Nodup) (lt : ∀ n ∈ x0, n < S.length) {c : ARV} (sub : c.fp.Sublist x0) (hk : c.ok F S) {ks : List A} (hc : (∃ a, c = .v a ∧ a.kids = ks) ∨ ∃ r p a, c = .pth r p ∧ atA as ag r p = some a ∧ a.kids = ks) {i : Nat} {x : A} (hi : ks[i]? = some x) (oks : A.oks F S ks)
    {o : AD → GL.Out PV} (ho : ∀ ad, o ad = .ok x.pv S) : SimO q RE F S as ag x0 o (.ok (childR c.er i x.er) (erS as) (erS ag)) := by
  have xok := (oks_iff ks).mp oks x (List.mem_of_getElem? hi)
  unfold childR
  rw [shr_er]
  cases hs : x.shr with
  | true => exact sim_okE g nd lt (.v x) ho rfl rfl xok (by show (A.fp x).Sublist _; rw [fp_shr xok hs]; exact List.nil_sublist _)
  | false =>
    rcases hc with ⟨a, rfl, rfl⟩ | ⟨r, p, a, rfl, hat, rfl⟩
    · refine sim_okE g nd lt (.v x) ho rfl rfl xok (List.Sublist.trans ?_ sub)
      show (A.fp x).Sublist (A.fp a)
      have s1 : (A.fp x).Sublist (A.fps a.kids) := by
        rw [fps_map, List.flatMap]
        exact List.sublist_flatten_of_mem (List.mem_map.mpr ⟨x, List.mem_of_getElem? hi, rfl⟩)
      cases a with
      | sc s => simp [A.kids] at hi
      | tup xs => exact s1
      | nd k n hd xs =>
        cases k with
        | fz => exact s1
        | ow => exact s1.trans (List.sublist_cons_self _ _)
        | lk => exact s1.trans (List.sublist_cons_self _ _)
    · refine sim_okE g nd lt (.pth r (p ++ [i])) ho rfl ?_ trivial (List.nil_sublist _)
      show (atA as ag r (p ++ [i])).map A.pv = _
      unfold atA at hat ⊢
      obtain ⟨b, hb, hx⟩ := Option.bind_eq_some_iff.mp hat
      rw [hb, Option.bind_some, get_app, hx, Option.bind_some, hi]; rfl
def gIx : G2 := fun x y ls gh => match y with
  | .v (.sc (.int i)) => (match x with
    | .v (.sc (.str s)) => if s.length ≤ lim then (match L2.atI s i with
      | some c => .ok (.v (.str [c])) ls gh
      | none => .bad) else .bad
    | x => (match seqV x ls gh with
      | some (_, xs) => (match L2.ixN xs.length i with
        | some j => (match xs[j]? with
          | some d => .ok (childR x j d) ls gh
          | none => .bad)
        | none => .bad)
      | none => .bad))
  | _ => .bad
theorem sim_gIx : SimG true GL.gIx gIx := by
  intro F S as ag c1 c2 w1 w2 g nd lt h1 h2 k1 k2
  unfold gIx
  split
  · rename_i i e2
    rw [er_vsc e2 h2]
    split
    · rename_i s e1
      rw [er_vsc e1 h1]
      by_cases hl : s.length ≤ lim
      · rw [if_pos hl]
        split
        · rename_i c hc
          exact sim_sc g nd lt (.str [c]) (fun _ => by simp only [GL.gIx, Sc.pv, if_pos hl, hc])
        · trivial
      · rw [if_neg hl]; trivial
    · split
      · rename_i k xs e1
        obtain ⟨ks, rfl, sg, ok, _, _, hc⟩ := seqV_er e1 h1 g k1
        split
        · rename_i j hj
          split
          · rename_i d hd
            rw [ers_map, List.getElem?_map] at hd
            obtain ⟨x, hx, rfl⟩ := Option.map_eq_some_iff.mp hd
            refine sim_child g nd lt (List.sublist_append_left _ _) k1 hc hx ok (fun _ => ?_)
            have hat : L2.atI (A.pvs ks) i = some x.pv := by
              unfold L2.atI
              rw [pvs_len, ← ers_len, hj, Option.bind_some, pvs_map, List.getElem?_map, hx]; rfl
            cases k with
            | tup => cases sg; simp only [GL.gIx, Sc.pv, hat]
            | lst => obtain ⟨n, rfl, hs⟩ := sg; simp only [GL.gIx, Sc.pv, seqAt_of hs, hat]
            | rol => obtain ⟨n, rfl, hs⟩ := sg; simp only [GL.gIx, Sc.pv, seqAt_of' hs, hat]
          · trivial
        · trivial
      · trivial
  · trivial
abbrev PO := PX (Option Int)
def oNo : PO := fun ls gh => .ok none ls gh
def oYes (m : PE) : PO := fun ls gh => (m ls gh).bind fun x ls gh => match x with
  | .v (.sc (.int i)) => .ok (some i) ls gh
  | _ => .bad
def gSl (x : RV) (lo hi : Option Int) : PE := fun ls gh => match x with
  | .v (.tup xs) => .ok (.v (.tup (GL.cutP xs lo hi))) ls gh
  | .v (.sc (.str s)) => if s.length ≤ lim then .ok (.v (.str (GL.cutP s lo hi))) ls gh else .bad
  | x => match seqV x ls gh with
    | some (.tup, _) => .bad
    | some (_, xs) => (match shrK x xs with
      | some ys => .ok (.v (.nd .ow .lst (GL.cutP ys lo hi))) ls gh
      | none => .bad)
    | none => .bad
def eSl (o : PE) (lo hi : PO) : PE := fun ls gh => (o ls gh).bind fun x ls gh => (lo ls gh).bind fun l ls gh => (hi ls gh).bind fun h ls gh => gSl x l h ls gh
theorem cut_map {α β : Type} (f : α → β) (xs : List α) (lo hi : Option Int) : (GL.cutP xs lo hi).map f = GL.cutP (xs.map f) lo hi := by
  unfold GL.cutP
  rw [List.map_take, List.map_drop, List.length_map]
theorem cut_sub {α : Type} (xs : List α) (lo hi : Option Int) {x : α} (h : x ∈ GL.cutP xs lo hi) : x ∈ xs := by
  unfold GL.cutP at h
  exact List.mem_of_mem_drop (List.mem_of_mem_take h)
theorem cut_oks {xs : List A} {lo hi : Option Int} (h : A.oks F S xs) : A.oks F S (GL.cutP xs lo hi) := by
  rw [oks_iff] at *
  exact fun x hx => h x (cut_sub xs lo hi hx)
theorem cut_fps {xs : List A} {lo hi : Option Int} (h : A.fps xs = []) : A.fps (GL.cutP xs lo hi) = [] := by
  rw [fps_map, List.flatMap_eq_nil_iff] at *
  exact fun x hx => h x (cut_sub xs lo hi hx)
theorem sim_gSl {c : ARV} {w : PV} {lo hi : Option Int} (g : Good F S as ag) (nd : (fpS (as ++ ag) ++ c.fp).Nodup) (lt : ∀ n ∈ c.fp, n < S.length) (hp : c.pv as ag = some w) (hk : c.ok F S) :
    SimO true RE F S as ag c.fp (fun _ => GL.gSl w lo hi S) (gSl c.er lo hi (erS as) (erS ag)) := by
  unfold gSl
  split
  · rename_i xs e
    obtain ⟨a, rfl, ea, rfl⟩ := er_v e hp
    obtain ⟨ys, rfl, rfl⟩ := er_tup ea
    have p1 : A.fps ys = [] ∧ A.oks F S ys := hk
    refine sim_okE g nd lt (.v (.tup (GL.cutP ys lo hi))) (fun _ => ?_) (by simp [ARV.er, A.er, ers_map, cut_map]) rfl ⟨cut_fps p1.1, cut_oks p1.2⟩ (by show (A.fps _).Sublist _; rw [cut_fps p1.1]; exact List.nil_sublist _)
    simp only [GL.gSl, A.pv, pvs_map, cut_map]
  · rename_i s e
    rw [er_vsc e hp]
    by_cases hl : s.length ≤ lim
    · rw [if_pos hl]
      exact sim_sc g nd lt (.str _) (fun _ => by simp only [GL.gSl, Sc.pv, if_pos hl])
    · rw [if_neg hl]; trivial
  · split
    · trivial
    · rename_i k xs hne e
      obtain ⟨ks, rfl, sg, ok, fpk, _, _⟩ := seqV_er e hp g hk
      split
      · rename_i ys hy
        obtain ⟨F', zs, rfl, h2, h3, h4, ev⟩ := shrK_sim g nd lt ok fpk hy
        refine SimO.pre ev ?_
        have : GL.cutP (A.ers zs) lo hi = A.ers (GL.cutP zs lo hi) := by simp only [ers_map, cut_map]
        rw [this]
        refine sim_alloc ev.good ev.nd ev.lt .lst _ rfl (cut_oks h4) (by rw [cut_fps h3]; exact List.nil_sublist _) (fun _ => ?_)
        have hp2 : A.pvs (GL.cutP zs lo hi) = GL.cutP (A.pvs ks) lo hi := by rw [← h2]; simp only [pvs_map, cut_map]
        cases k with
        | tup => exact (hne rfl).elim
        | lst => obtain ⟨n, rfl, hs⟩ := sg; simp only [GL.gSl, seqAt_of hs, mkO, hp2]
        | rol => obtain ⟨n, rfl, hs⟩ := sg; simp only [GL.gSl, seqAt_of' hs, mkO, hp2]
      · trivial
    · trivial
abbrev SimOI (q : Bool) (m : AD → GL.MO) (p : PO) : Prop := SimX q RO m p
theorem sim_ono : SimOI true (fun _ => GL.oNo) oNo := fun F S as ag g => sim_ok (R := RO) g (good_nd g) (fun _ h => by cases h) none (fun _ => rfl) rfl rfl trivial (List.nil_sublist _)
theorem sim_oyes {q : Bool} {ma : AD → GL.ME} {pa : PE} (h : SimE q ma pa) : SimOI q (fun ad => GL.oYes (ma ad)) (oYes pa) := fun F S as ag gd =>
  SimO.weak (sim_first (R' := RO) (q' := true) (k := fun (x : RV) (ls gh : Ls) => match x with
  | .v (.sc (.int i)) => .ok (some i) ls gh
  | _ => .bad) (f := fun (ad : AD) (w : PV) (S1 : Sto) => kYes w S1) h gd (fun _ => rfl) fun F1 S1 as1 ag1 c w h1 h2 g1 n1 l1 L1 => by
    split
    · rename_i b e
      rw [er_vsc e h1]
      exact sim_ok (R := RO) g1 n1 l1 (some b) (fun _ => rfl) rfl rfl trivial (List.nil_sublist _)
    · trivial) (by simp)
theorem sim_sl {qa : Bool} {ma : AD → GL.ME} {pa : PE} {ml mh : AD → GL.MO} {pl ph : PO} (ha : SimE qa ma pa) (hl : SimOI true ml pl) (hh : SimOI true mh ph) : SimE qa (fun ad => GL.eSl (ma ad) (ml ad) (mh ad)) (eSl pa pl ph) := fun F S as ag gd =>
  SimO.weak (sim_first (R' := RE) (q' := true && (true && true)) (k := fun x ls gh => (pl ls gh).bind fun l ls gh => (ph ls gh).bind fun h ls gh => gSl x l h ls gh) (f := fun ad w S1 => (ml ad (glS as ag ad as) S1).bind fun l S2 => (mh ad (glS as ag ad as) S2).bind fun h S3 => GL.gSl w l h S3) ha gd (fun _ => rfl) fun F1 S1 as1 ag1 c1 w1 h1 h2 g1 n1 l1 L1 =>
    sim_next (R0 := RE) (R := RO) (R' := RE) (k := fun l ls gh => (ph ls gh).bind fun h ls gh => gSl (RE.er c1) l h ls gh) (f := fun ad l S2 => (mh ad (glS as ag ad as) S2).bind fun h S3 => GL.gSl w1 l h S3) hl g1 c1 h1 h2 n1 l1 (stab_re true c1 (.inl rfl)) L1 fun F2 S2 as2 ag2 l l' h1 h2 h3 _ g2 n2 l2 L2 => by
      cases h3
      have e0 : RE.fp c1 ++ RO.fp l = RE.fp c1 := List.append_nil _
      rw [e0] at n2 l2 ⊢
      exact sim_next (R0 := RE) (R := RO) (R' := RE) (k := fun h ls gh => gSl (RE.er c1) l h ls gh) (f := fun ad h S3 => GL.gSl w1 l h S3) hh g2 c1 h1 h2 n2 l2 (stab_re true c1 (.inl rfl)) L2 fun F3 S3 as3 ag3 h h' h1 h2 h3 _ g3 n3 l3 L3 => by
        cases h3
        have e1 : RE.fp c1 ++ RO.fp h = RE.fp c1 := List.append_nil _
        rw [e1] at n3 l3 ⊢
        exact sim_gSl g3 n3 l3 h1 h2) (by simp)
end VL
set_option Elab.async false
set_option linter.all false
set_option maxRecDepth 100000
set_option maxHeartbeats 1000000
namespace VL
open GL (PV OB Sto Nm BT lim)
open PySem (PyData Builtin)
variable {F F' : FM} {S S' : Sto} {as as' ag ag' : List AV}
def eB (g : List RV → PE) (args : PA) : PE := fun ls gh => (args ls gh).bind fun xs ls gh => g xs ls gh
def SimB (q : Bool) (gg : GL.MF) (g : List RV → PE) : Prop := ∀ (F : FM) (S : Sto) (as ag : List AV) (cs : List ARV) (ws : List PV), Good F S as ag → (fpS (as ++ ag) ++ RA.fp cs).Nodup → (∀ n ∈ RA.fp cs, n < S.length) → RA.pv as ag cs = some ws → RA.ok F S cs →
  SimO q RE F S as ag (RA.fp cs) (fun _ => gg ws S) (g (cs.map ARV.er) (erS as) (erS ag))
theorem sim_b {qa q : Bool} {mr : AD → GL.MA} {pr : PA} {gg : GL.MF} {g : List RV → PE} (h : SimA qa mr pr) (hg : SimB q gg g) : SimE (qa && q) (fun ad => GL.eB gg (mr ad)) (eB g pr) := fun F S as ag gd =>
  sim_first (R' := RE) (q' := q) (k := fun xs ls gh => g xs ls gh) (f := fun ad ws S1 => gg ws S1) h gd (fun _ => rfl) fun F1 S1 as1 ag1 cs ws h1 h2 g1 n1 l1 L1 => hg F1 S1 as1 ag1 cs ws g1 n1 l1 h1 h2
def un (f : RV → PE) : List RV → PE := fun xs => match xs with
  | [x] => f x
  | _ => fun _ _ => .bad
def bi (f : RV → RV → PE) : List RV → PE := fun xs => match xs with
  | [x, y] => f x y
  | _ => fun _ _ => .bad
theorem simB1 {q : Bool} {gg : GL.MF} {f : RV → PE} (h : SimF1 q (fun w S => gg [w] S) f) : SimB q gg (un f) := by
  intro F S as ag cs ws g nd lt hp hk
  match cs with
  | [] => trivial
  | [c] =>
    obtain ⟨w, t, hw, ht, rfl⟩ := seqO_cons hp
    cases ht
    have e : RA.fp [c] = c.fp := List.append_nil _
    rw [e] at nd lt ⊢
    exact h F S as ag c w g nd lt hw (hk c List.mem_cons_self)
  | _ :: _ :: _ => trivial
theorem simB2 {q : Bool} {gg : GL.MF} {f : RV → RV → PE} (h : SimG q (fun w v S => gg [w, v] S) f) : SimB q gg (bi f) := by
  intro F S as ag cs ws g nd lt hp hk
  match cs with
  | [] => trivial
  | [c] => trivial
  | [c, d] =>
    obtain ⟨w, t, hw, ht, rfl⟩ := seqO_cons hp
    obtain ⟨w2, t2, hw2, ht2, rfl⟩ := seqO_cons ht
    cases ht2
    have e : RA.fp [c, d] = c.fp ++ d.fp := by show c.fp ++ (d.fp ++ []) = _; rw [List.append_nil]
    rw [e] at nd lt ⊢
    exact h F S as ag c d w w2 g nd lt hw hw2 (hk c List.mem_cons_self) (hk d (List.mem_cons_of_mem _ List.mem_cons_self))
  | _ :: _ :: _ :: _ => trivial
def f1Int (x : RV) : PE := fun ls gh => match x with
  | .v (.sc (.int i)) => .ok (.v (.int i)) ls gh
  | .v (.sc (.bl k)) => .ok (.v (.int (if k then 1 else 0))) ls gh
  | _ => .bad
theorem sim_f1Int : SimF1 true (fun w S => GL.fInt [w] S) f1Int := by
  intro F S as ag c w g nd lt hp hk
  unfold f1Int
  split
  · rename_i i e; rw [er_vsc e hp]; exact sim_sc g nd lt (.int i) (fun _ => rfl)
  · rename_i i e; rw [er_vsc e hp]; exact sim_sc g nd lt (.int _) (fun _ => rfl)
  · trivial
def f1Abs (x : RV) : PE := fun ls gh => match x with
  | .v (.sc (.int i)) => .ok (.v (.int (if i < 0 then -i else i))) ls gh
  | _ => .bad
theorem sim_f1Abs : SimF1 true (fun w S => GL.fAbs [w] S) f1Abs := by
  intro F S as ag c w g nd lt hp hk
  unfold f1Abs
  split
  · rename_i i e; rw [er_vsc e hp]; exact sim_sc g nd lt (.int _) (fun _ => rfl)
  · trivial
def f1Len (x : RV) : PE := fun ls gh => match x with
  | .v (.sc (.str s)) => if s.length ≤ lim then .ok (.v (.int s.length)) ls gh else .bad
  | x => match seqV x ls gh with
    | some (_, xs) => .ok (.v (.int xs.length)) ls gh
    | none => .bad
theorem sim_f1Len : SimF1 true (fun w S => GL.fLen [w] S) f1Len := by
  intro F S as ag c w g nd lt hp hk
  unfold f1Len
  split
  · rename_i s e
    rw [er_vsc e hp]
    by_cases hl : s.length ≤ lim
    · rw [if_pos hl]; exact sim_sc g nd lt (.int _) (fun _ => by simp only [GL.fLen, Sc.pv, if_pos hl])
    · rw [if_neg hl]; trivial
  · split
    · rename_i k xs e
      obtain ⟨ks, rfl, sg, ok, _, _, _⟩ := seqV_er e hp g hk
      rw [ers_len]
      refine sim_sc g nd lt (.int _) (fun _ => ?_)
      cases k with
      | tup => cases sg; simp only [GL.fLen, Sc.pv, pvs_len]
      | lst => obtain ⟨n, rfl, hs⟩ := sg; simp only [GL.fLen, Sc.pv, seqAt_of hs, pvs_len]
      | rol => obtain ⟨n, rfl, hs⟩ := sg; simp only [GL.fLen, Sc.pv, seqAt_of' hs, pvs_len]
    · trivial
def f1List (x : RV) : PE := fun ls gh => match seqV x ls gh with
  | some (_, xs) => (match shrK x xs with
    | some ys => .ok (.v (.nd .ow .lst ys)) ls gh
    | none => .bad)
  | none => .bad
theorem sim_f1List : SimF1 true (fun w S => GL.fList [w] S) f1List := by
  intro F S as ag c w g nd lt hp hk
  unfold f1List
  split
  · rename_i k xs e
    obtain ⟨ks, rfl, sg, ok, fpk, _, _⟩ := seqV_er e hp g hk
    split
    · rename_i ys hy
      obtain ⟨F', zs, rfl, h2, h3, h4, ev⟩ := shrK_sim g nd lt ok fpk hy
      refine SimO.pre ev (sim_alloc ev.good ev.nd ev.lt .lst zs rfl h4 (by rw [h3]; exact List.nil_sublist _) (fun _ => ?_))
      rw [h2]
      cases k with
      | tup => cases sg; rfl
      | lst => obtain ⟨n, rfl, hs⟩ := sg; simp only [GL.fList, seqAt_of hs, mkO]
      | rol => obtain ⟨n, rfl, hs⟩ := sg; simp only [GL.fList, seqAt_of' hs, mkO]
    · trivial
  · trivial
def f1Tuple (x : RV) : PE := fun ls gh => match seqV x ls gh with
  | some (_, xs) => (match shrK x xs with
    | some ys => .ok (.v (.tup ys)) ls gh
    | none => .bad)
  | none => .bad
theorem sim_f1Tuple : SimF1 true (fun w S => GL.fTuple [w] S) f1Tuple := by
  intro F S as ag c w g nd lt hp hk
  unfold f1Tuple
  split
  · rename_i k xs e
    obtain ⟨ks, rfl, sg, ok, fpk, _, _⟩ := seqV_er e hp g hk
    split
    · rename_i ys hy
      obtain ⟨F', zs, rfl, h2, h3, h4, ev⟩ := shrK_sim g nd lt ok fpk hy
      refine SimO.pre ev (sim_okE ev.good ev.nd ev.lt (.v (.tup zs)) (w := .tup (A.pvs zs)) (fun _ => ?_) rfl rfl ⟨h3, h4⟩ (by show (A.fps zs).Sublist _; rw [h3]; exact List.Sublist.refl _))
      rw [h2]
      cases k with
      | tup => cases sg; rfl
      | lst => obtain ⟨n, rfl, hs⟩ := sg; simp only [GL.fTuple, seqAt_of hs]
      | rol => obtain ⟨n, rfl, hs⟩ := sg; simp only [GL.fTuple, seqAt_of' hs]
    · trivial
  · trivial
def tyD : D → Option BT
  | .sc .non => some .none
  | .sc (.bl _) => some .bool
  | .sc (.int _) => some .int
  | .sc (.str _) => some .str
  | .tup _ => some .tuple
  | .nd _ .lst _ => some .list
  | .nd _ .rol _ => some .list
  | .nd _ (.dct _) _ => some .dict
  | .nd _ .ptp _ => some .tuple
  | _ => none
theorem ty_er (fs : FS F S) {a : A} (h : a.ok F S) : GL.tyP S a.pv = tyD a.er := by
  cases a with
  | sc s => cases s <;> rfl
  | tup xs => rfl
  | nd k n hd xs =>
    have ob := obj_of fs h
    show (match S[n]? with | some (.lst _) => some BT.list | some (.rol _) => some .list | some (.dct _) => some .dict | some (.fdct _) => some .dict | some (.ptp _) => some .tuple | _ => none) = tyD (.nd k hd (A.ers xs))
    cases hd with
    | lst => rw [AtU.lst ob]; rfl
    | rol => rw [AtU.rol ob]; rfl
    | dct ks => rcases ob with ob | ⟨k, _, ob⟩ <;> rw [ob] <;> rfl
    | ins C ns => rw [AtU.ins ob]; rfl
    | dcn ks => rw [AtU.dcn ob]; rfl
    | ptp => rw [AtU.ptp ob]; rfl
def f2Isi : G2 := fun x y ls gh => match y with
  | .v (.sc (.ty b)) => if b = .none then .bad else (match (val x ls gh).bind tyD with
    | some t => .ok (.v (.bl (GL.isB t b))) ls gh
    | none => .bad)
  | _ => .bad
theorem sim_f2Isi : SimG true (fun w v S => GL.fIsi [w, v] S) f2Isi := by
  intro F S as ag c1 c2 w1 w2 g nd lt h1 h2 k1 k2
  unfold f2Isi
  split
  · rename_i b e2
    rw [er_vsc e2 h2]
    by_cases hb : b = .none
    · rw [if_pos hb]; trivial
    · rw [if_neg hb]
      split
      · rename_i t e1
        obtain ⟨d, e1, e3⟩ := Option.bind_eq_some_iff.mp e1
        obtain ⟨a, rfl, rfl, aok, _⟩ := val_er c1 e1 h1 g k1
        refine sim_sc g nd lt (.bl _) (fun _ => ?_)
        simp only [GL.fIsi, Sc.pv, if_neg hb, ty_er g.fs aok, e3]
      · trivial
  · trivial
def f1Str (x : RV) : PE := fun ls gh => match x with
  | .v (.sc (.int i)) => if i.natAbs.log2 < 1920 then .ok (.v (.str (GL.strI i))) ls gh else .bad
  | .v (.sc (.str s)) => .ok (.v (.str s)) ls gh
  | _ => .bad
theorem sim_f1Str : SimF1 true (fun w S => GL.fStr [w] S) f1Str := by
  intro F S as ag c w g nd lt hp hk
  unfold f1Str
  split
  · rename_i i e
    rw [er_vsc e hp]
    by_cases hl : i.natAbs.log2 < 1920
    · rw [if_pos hl]; exact sim_sc g nd lt (.str _) (fun _ => by simp only [GL.fStr, Sc.pv, if_pos hl])
    · rw [if_neg hl]; trivial
  · rename_i s e; rw [er_vsc e hp]; exact sim_sc g nd lt (.str s) (fun _ => rfl)
  · trivial
abbrev fInt := un f1Int
abbrev fAbs := un f1Abs
abbrev fLen := un f1Len
abbrev fList := un f1List
abbrev fTuple := un f1Tuple
abbrev fStr := un f1Str
abbrev fIsi := bi f2Isi
theorem sim_fInt : SimB true GL.fInt fInt := simB1 sim_f1Int
theorem sim_fAbs : SimB true GL.fAbs fAbs := simB1 sim_f1Abs
theorem sim_fLen : SimB true GL.fLen fLen := simB1 sim_f1Len
theorem sim_fList : SimB true GL.fList fList := simB1 sim_f1List
theorem sim_fTuple : SimB true GL.fTuple fTuple := simB1 sim_f1Tuple
theorem sim_fStr : SimB true GL.fStr fStr := simB1 sim_f1Str
theorem sim_fIsi : SimB true GL.fIsi fIsi := simB2 sim_f2Isi
def k1Fmt (x : RV) : PE := fun ls gh => match x with
  | .v (.sc (.str s)) => if s.length ≤ lim then .ok (.v (.str s)) ls gh else .bad
  | .v (.sc (.int i)) => if i.natAbs.log2 < 1920 then .ok (.v (.str (GL.strI i))) ls gh else .bad
  | _ => .bad
def eFmt (m : PE) : PE := e1 k1Fmt m
def gFmt (w : PV) (S1 : Sto) : GL.Out PV := match w with
  | .str s => if s.length ≤ lim then .ok (.str s) S1 else .bad
  | .int i => if i.natAbs.log2 < 1920 then .ok (.str (GL.strI i)) S1 else .bad
  | _ => .bad
theorem sim_fmt {q : Bool} {ma : AD → GL.ME} {pa : PE} (h : SimE q ma pa) : SimE q (fun ad => GL.eFmt (ma ad)) (eFmt pa) := fun F S as ag gd =>
  SimO.weak (sim_e1 (qf := true) (ff := gFmt) h (by
    intro F S as ag c w g nd lt hp hk
    unfold k1Fmt
    split
    · rename_i s e
      rw [er_vsc e hp]
      by_cases hl : s.length ≤ lim
      · rw [if_pos hl]; exact sim_sc g nd lt (.str s) (fun _ => by simp only [gFmt, Sc.pv, if_pos hl])
      · rw [if_neg hl]; trivial
    · rename_i i e
      rw [er_vsc e hp]
      by_cases hl : i.natAbs.log2 < 1920
      · rw [if_pos hl]; exact sim_sc g nd lt (.str _) (fun _ => by simp only [gFmt, Sc.pv, if_pos hl])
      · rw [if_neg hl]; trivial
    · trivial) F S as ag gd) (by simp)
def fJs : List PE → List Nat → PE
  | [], acc, ls, gh => .ok (.v (.str acc)) ls gh
  | m :: r, acc, ls, gh => (m ls gh).bind fun x ls gh => match x with
    | .v (.sc (.str y)) => if acc.length + y.length ≤ lim then fJs r (acc ++ y) ls gh else .bad
    | _ => .bad
inductive SimL : (AD → List GL.ME) → List PE → Prop
  | nil : SimL (fun _ => []) []
  | cons {ma : AD → GL.ME} {pa : PE} {mr : AD → List GL.ME} {pr : List PE} : SimE true ma pa → SimL mr pr → SimL (fun ad => ma ad :: mr ad) (pa :: pr)
def gJs (ad : AD) (mr : AD → List GL.ME) (acc : List Nat) (L : GL.Ls) (w : PV) (S1 : Sto) : GL.Out PV := match w with
  | .str y => if acc.length + y.length ≤ lim then GL.fJs (mr ad) (acc ++ y) L S1 else .bad
  | _ => .bad
theorem sim_js : ∀ {mr : AD → List GL.ME} {pr : List PE}, SimL mr pr → ∀ acc, SimE true (fun ad => GL.fJs (mr ad) acc) (fJs pr acc)
  | _, _, .nil, acc => fun F S as ag g => sim_sc g (good_nd g) (fun _ h => by cases h) (.str acc) (fun _ => rfl)
  | _, _, .cons (ma := ma) (pa := pa) (mr := mr) (pr := pr) h hr, acc => fun F S as ag gd =>
    SimO.weak (sim_first (R' := RE) (q' := true) (k := fun (x : RV) (ls gh : Ls) => match x with
      | .v (.sc (.str y)) => if acc.length + y.length ≤ lim then fJs pr (acc ++ y) ls gh else .bad
      | _ => .bad) (f := fun ad w S1 => gJs ad mr acc (glS as ag ad as) w S1) h gd (fun _ => rfl) fun F1 S1 as1 ag1 c w h1 h2 g1 n1 l1 L1 => by
      split
      · rename_i y e
        rw [er_vsc e h1]
        by_cases hl : acc.length + y.length ≤ lim
        · rw [if_pos hl]
          have := nil_x0 n1 (sim_at (R := RE) (sim_js hr (acc ++ y)) g1 L1)
          simp only [gJs, Sc.pv, if_pos hl]
          exact this
        · rw [if_neg hl]; trivial
      · trivial) (by simp)
def aInts (ns : List Int) : List A := ns.map fun i => .sc (.int i)
theorem aInts_er (ns : List Int) : A.ers (aInts ns) = ns.map D.int := by rw [ers_map, aInts, List.map_map]; exact List.map_congr_left fun _ _ => by simp [A.er]
theorem aInts_pv (ns : List Int) : A.pvs (aInts ns) = ns.map .int := by rw [pvs_map, aInts, List.map_map]; exact List.map_congr_left fun _ _ => by simp [A.pv, Sc.pv]
theorem aInts_fp (ns : List Int) : A.fps (aInts ns) = [] := by
  rw [fps_map, List.flatMap_eq_nil_iff]
  intro x hx
  obtain ⟨i, _, rfl⟩ := List.mem_map.mp hx
  rfl
theorem aInts_ok (ns : List Int) : A.oks F S (aInts ns) := by
  rw [oks_iff]
  intro x hx
  obtain ⟨i, _, rfl⟩ := List.mem_map.mp hx
  trivial
end VL
set_option Elab.async false
set_option linter.all false
set_option maxRecDepth 100000
set_option maxHeartbeats 1000000
namespace VL
open GL (PV OB Sto Nm BT lim)
open PySem (PyData Builtin)
variable {F F' : FM} {S S' : Sto} {as as' ag ag' : List AV}
def idxN (f : Nm) : List Nm → Option Nat
  | [] => none
  | g :: r => if g = f then some 0 else (idxN f r).map (· + 1)
theorem lookN_zip {f : Nm} : ∀ (ns : List Nm) (ws : List PV), ns.length = ws.length → GL.lookN f (ns.zip ws) = (idxN f ns).bind fun i => ws[i]?
  | [], _, _ => rfl
  | g :: r, [], h => by cases h
  | g :: r, w :: ws, h => by
    show GL.lookN f ((g, w) :: r.zip ws) = _
    unfold GL.lookN idxN
    by_cases hg : g = f
    · rw [if_pos hg, if_pos hg]; rfl
    · rw [if_neg hg, if_neg hg, lookN_zip r ws (Nat.succ.inj h)]
      cases idxN f r <;> rfl
theorem wf_of {k : Fl} {n : Nat} {h : Hd} {xs : List A} (o : (A.nd k n h xs).ok F S) : h.wf xs.length = true := by
  cases k with
  | fz => simp only [A.ok] at o; exact o.2.1
  | lk => simp only [A.ok] at o; exact o.2.1
  | ow => simp only [A.ok] at o; exact o.2.1
theorem kids_of {c : ARV} {k : Fl} {n : Nat} {h : Hd} {xs : List A} (hc : c = .v (.nd k n h xs) ∨ ∃ r p, c = .pth r p ∧ atA as ag r p = some (.nd k n h xs)) : (∃ a, c = .v a ∧ a.kids = xs) ∨ ∃ r p a, c = .pth r p ∧ atA as ag r p = some a ∧ a.kids = xs := by
  rcases hc with rfl | ⟨r, p, rfl, e⟩
  · exact .inl ⟨_, rfl, rfl⟩
  · exact .inr ⟨r, p, _, rfl, e, rfl⟩
def k1Fld (tab : Nm → Nm → Bool) (f : Nm) (x : RV) : PE := fun ls gh => match val x ls gh with
  | some (.nd _ (.ins C ns) xs) => if tab C f = true then (match idxN f ns with
    | some i => (match xs[i]? with
      | some d => .ok (childR x i d) ls gh
      | none => .bad)
    | none => .bad) else .bad
  | _ => .bad
def eFld (tab : Nm → Nm → Bool) (f : Nm) (o : PE) : PE := e1 (k1Fld tab f) o
def gFld (tab : Nm → Nm → Bool) (f : Nm) (w : PV) (S1 : Sto) : GL.Out PV := match GL.insAt S1 w with
  | some (_, C, fs) => if tab C f = true then (match GL.lookN f fs with
    | some v => .ok v S1
    | none => .bad) else .bad
  | none => .bad
theorem sim_fld {q : Bool} {ma : AD → GL.ME} {pa : PE} {tab : Nm → Nm → Bool} {f : Nm} (h : SimE q ma pa) : SimE q (fun ad => GL.eFld tab f (ma ad)) (eFld tab f pa) := fun F S as ag gd =>
  SimO.weak (sim_e1 (qf := true) (ff := gFld tab f) h (by
    intro F S as ag c w g nd lt hp hk
    unfold k1Fld
    split
    · rename_i k C ns xs e
      obtain ⟨a, ea, rfl, aok, hc⟩ := val_er c e hp g hk
      obtain ⟨n, ys, rfl, rfl⟩ := er_nd ea
      by_cases ht : tab C f = true
      · rw [if_pos ht]
        split
        · rename_i i hi
          split
          · rename_i d hd
            rw [ers_map, List.getElem?_map] at hd
            obtain ⟨x, hx, rfl⟩ := Option.map_eq_some_iff.mp hd
            refine sim_child g nd lt (List.Sublist.refl _) hk (kids_of hc) hx (ok_kids aok) (fun _ => ?_)
            have ob := obj_of g.fs aok
            have hw : ns.length = ys.length := by simpa [Hd.wf] using wf_of aok
            have hl := lookN_zip (f := f) ns (A.pvs ys) (by rw [pvs_len]; exact hw)
            rw [hi, Option.bind_some, pvs_map, List.getElem?_map, hx] at hl
            have ob := AtU.ins ob
            simp only [gFld, A.pv, GL.insAt, ob, mkO, if_pos ht]
            rw [pvs_map, hl]; rfl
          · trivial
        · trivial
      · rw [if_neg ht]; trivial
    · trivial) F S as ag gd) (by simp)
theorem node_write {q : Bool} {x0 x1 : List Nat} {t : List Nat → Bool} {r : Rt} {p : List Nat} {n : Nat} {h h' : Hd} {ks ks' : List A} (hq : q = true → ∀ s, t s = true) (g : Good F S as ag) (nd : (fpS (as ++ ag) ++ x0).Nodup) (lt : ∀ m ∈ x0, m < S.length)
    (hat : atA as ag r p = some (.nd .ow n h ks)) (hw : h'.wf ks'.length = true) (ok' : A.oks F S ks') (hn : (A.fps ks' ++ x1).Nodup) (new : ∀ m ∈ A.fps ks' ++ x1, m ∈ A.fps ks ++ x0) (keepk : ∀ i s k, t (i :: s) = true → ks[i]? = some k → ks'[i]? = some k) :
    Ev q F S as ag x0 F (S.set n (mkO h' (A.pvs ks'))) (chA t r p (.nd .ow n h' ks') as ag).1 (chA t r p (.nd .ow n h' ks') as ag).2 x1 := by
  obtain ⟨root, hr, hx⟩ := at_split hat
  have aok := at_ok g hat
  have aok' := aok
  simp only [A.ok] at aok'
  have ln : n < S.length := (List.getElem?_eq_some_iff.mp aok'.1.2).1
  obtain ⟨_, L, R, e1, _, _⟩ := focus p root _ (root_ok g hr) hx rfl
  have sub1 : ((A.nd .ow n h ks).fp ++ x0).Sublist (fpS (as ++ ag) ++ x0) := by
    obtain ⟨L2, R2, f1, _⟩ := ch_fp (t := t) (p := p) (y := A.nd .ow n h ks) hr
    rw [f1, e1]
    refine List.Sublist.append_right ?_ _
    have s1 : ((A.nd .ow n h ks).fp).Sublist (L ++ (A.nd .ow n h ks).fp ++ R) := (List.sublist_append_right L _).trans (List.sublist_append_left _ _)
    exact s1.trans ((List.sublist_append_right L2 _).trans (List.sublist_append_left _ _))
  have nd1 : (n :: (A.fps ks ++ x0)).Nodup := by
    have := nd.sublist sub1
    simpa [A.fp] using this
  have nn := (List.nodup_cons.mp nd1).1
  have ne : ∀ m ∈ A.fps ks' ++ x1, m ≠ n := fun m hm e => nn (e ▸ new m hm)
  have gr : ∀ m, m ≠ n → (S.set n (mkO h' (A.pvs ks')))[m]? = S[m]? := fun m hm => List.getElem?_set_ne (fun e => hm e.symm)
  have fs : FS F (S.set n (mkO h' (A.pvs ks'))) := fun m b o e => by
    exact (g.fs m b o e).to (gr m (fun h => by subst h; rw [aok'.1.1] at e; cases e))
  have okn : A.oks F (S.set n (mkO h' (A.pvs ks'))) ks' := by
    rw [oks_iff] at ok' ⊢
    exact fun x hx => ok_frame Mono.refl (fun m hm => ⟨rfl, gr m (ne m (List.mem_append_left _ (by rw [fps_map]; exact List.mem_flatMap.mpr ⟨x, hx, hm⟩)))⟩) (ok' x hx)
  refine ev_ch hq g nd hr hx rfl rfl ?_ Mono.refl fs (by simp) ?_ ?_ ?_ ?_ ?_
  · intro s w hs hw
    cases s with
    | nil => exact hw
    | cons i s =>
      unfold getA at hw ⊢
      simp only [A.kids] at hw ⊢
      cases hk : ks[i]? with
      | none => rw [hk] at hw; cases hw
      | some k =>
        rw [keepk i s k hs hk]
        rw [hk] at hw
        exact hw
  · intro m hm hx'
    refine ⟨rfl, gr m fun e => hx' ?_⟩
    rw [e]
    exact List.mem_append_left _ (by simp [A.fp])
  · simp only [A.ok]
    exact ⟨⟨aok'.1.1, by rw [List.getElem?_set_self ln]⟩, hw, okn⟩
  · show (n :: A.fps ks' ++ x1).Nodup
    exact List.nodup_cons.mpr ⟨fun h => ne n h rfl, hn⟩
  · intro m hm
    rcases List.mem_cons.mp (show m ∈ n :: (A.fps ks' ++ x1) from hm) with rfl | h
    · exact .inl (by simp [A.fp])
    · have := new m h
      left
      simp only [A.fp, List.mem_append, List.mem_cons] at this ⊢
      rcases this with u | u <;> simp [u]
  · intro m hm
    rw [List.length_set]
    have := new m (List.mem_append_right _ hm)
    rcases List.mem_append.mp this with u | u
    · rw [fps_map] at u
      obtain ⟨x, hx, u⟩ := List.mem_flatMap.mp u
      exact fp_lt g.fs ((oks_iff ks).mp aok'.2.2 x hx) m u
    · exact lt m u
def eMt (chk : D → Bool) (m : RV → List RV → PE) (o : PE) (args : PA) : PE := fun ls gh => (o ls gh).bind fun x ls gh => match val x ls gh with
  | some d => if chk d = true then (args ls gh).bind fun ys ls gh => m x ys ls gh else .bad
  | none => .bad
def kList : D → Bool
  | .nd _ .lst _ => true
  | .nd _ .rol _ => true
  | _ => false
def kStr : D → Bool
  | .sc (.str _) => true
  | _ => false
def SimK (cg : PV → Sto → Bool) (ck : D → Bool) : Prop := ∀ (F : FM) (S : Sto) (a : A), FS F S → a.ok F S → ck a.er = true → cg a.pv S = true
theorem sim_kList : SimK GL.kList kList := by
  intro F S a fs ok h
  cases a with
  | sc s => cases h
  | tup xs => cases h
  | nd k n hd xs =>
    have ob := obj_of fs ok
    cases hd with
    | lst => show (GL.seqAt S n).isSome = true; rw [seqAt_of (AtU.lst ob)]; rfl
    | rol => show (GL.seqAt S n).isSome = true; rw [seqAt_of' (AtU.rol ob)]; rfl
    | dct ks => cases h
    | dcn ks => cases h
    | ptp => cases h
    | ins C ns => cases h
theorem sim_kStr : SimK GL.kStr kStr := by
  intro F S a fs ok h
  cases a with
  | sc s => cases s <;> first | rfl | cases h
  | tup xs => cases h
  | nd k n hd xs => cases h
def SimM (q : Bool) (gg : PV → GL.MF) (m : RV → List RV → PE) : Prop := ∀ (F : FM) (S : Sto) (as ag : List AV) (c : ARV) (cs : List ARV) (w : PV) (ws : List PV), Good F S as ag → (fpS (as ++ ag) ++ (c.fp ++ RA.fp cs)).Nodup → (∀ n ∈ c.fp ++ RA.fp cs, n < S.length) → c.pv as ag = some w → RA.pv as ag cs = some ws → c.ok F S → RA.ok F S cs →
  SimO q RE F S as ag (c.fp ++ RA.fp cs) (fun _ => gg w ws S) (m c.er (cs.map ARV.er) (erS as) (erS ag))
def kMt (ad : AD) (cg : PV → Sto → Bool) (gg : PV → GL.MF) (mr : AD → GL.MA) (L : GL.Ls) (w : PV) (S1 : Sto) : GL.Out PV := if cg w S1 = true then (mr ad L S1).bind fun ws S2 => gg w ws S2 else .bad
section
variable {qa qb qm : Bool} {ma : AD → GL.ME} {pa : PE} {mr : AD → GL.MA} {pr : PA} {cg : PV → Sto → Bool} {ck : D → Bool} {gg : PV → GL.MF} {m : RV → List RV → PE}
theorem sim_mt (hk : SimK cg ck) (hm : SimM qm gg m) (ha : SimE qa ma pa) (hr : SimA true mr pr) : SimE (qa && qm) (fun ad => GL.eMt cg gg (ma ad) (mr ad)) (eMt ck m pa pr) := fun F S as ag gd =>
  SimO.weak (sim_first (R' := RE) (q' := true && qm) (k := fun (x : RV) (ls gh : Ls) => match val x ls gh with
  | some d => if ck d = true then (pr ls gh).bind fun ys ls gh => m x ys ls gh else .bad
  | none => .bad) (f := fun ad w S1 => kMt ad cg gg mr (glS as ag ad as) w S1) ha gd (fun _ => rfl) fun F1 S1 as1 ag1 c w h1 h2 g1 n1 l1 L1 => by
    split
    · rename_i d e
      obtain ⟨a, rfl, rfl, aok, hc⟩ := val_er c e h1 g1 h2
      by_cases hck : ck a.er = true
      · rw [if_pos hck]
        have hcg := hk F1 S1 a g1.fs aok hck
        simp only [kMt, if_pos hcg]
        exact sim_next (R0 := RE) (R := RA) (R' := RE) (k := fun ys ls gh => m c.er ys ls gh) (f := fun ad ws S2 => gg a.pv ws S2) hr g1 c h1 h2 n1 l1 (stab_re true c (.inl rfl)) L1 fun F2 S2 as2 ag2 cs ws h1 h2 h3 h4 g2 n2 l2 L2 => hm F2 S2 as2 ag2 c cs a.pv ws g2 n2 l2 h1 h3 h2 h4
      · rw [if_neg hck]; trivial
    · trivial) (by simp)
end
def allT : List Nat → Bool := fun _ => true
def wrote (t : List Nat → Bool) (r : Rt) (p : List Nat) (y : D) (ls gh : Ls) : Out RV := let z := chD t r p y ls gh; .ok (.v .non) z.1 z.2
def mAppend (x : RV) (ys : List RV) : PE := fun ls gh => match x, ys with
  | .pth r p, [y] => (match cvR true y ls gh with
    | some (d, ls, gh) => (match atD ls gh r p with
      | some (.nd .ow .lst xs) => if xs.length < lim then wrote allT r p (.nd .ow .lst (xs ++ [d])) ls gh else .bad
      | _ => .bad)
    | none => .bad)
  | _, _ => .bad
theorem sim_wrote {q : Bool} {x0 : List Nat} {t : List Nat → Bool} {r : Rt} {p : List Nat} {y : A} {d : D} (hd : y.er = d) {o : AD → GL.Out PV} (ho : ∀ ad, o ad = .ok .non S') (ev : Ev q F S as ag x0 F' S' (chA t r p y as ag).1 (chA t r p y as ag).2 []) :
    SimO q RE F S as ag x0 o (wrote t r p d (erS as) (erS ag)) := by
  subst hd
  have e := ch_er t r p y as ag
  unfold wrote
  rw [← e]
  exact ⟨F', S', _, _, .v (.sc .non), .non, rfl, rfl, rfl, ho, rfl, trivial, ev⟩
theorem at_er' {r : Rt} {p : List Nat} {d : D} (h : atD (erS as) (erS ag) r p = some d) : ∃ a, atA as ag r p = some a ∧ a.er = d := by
  rw [at_er] at h
  exact Option.map_eq_some_iff.mp h
theorem sim_mAppend : SimM false GL.mAppend mAppend := by
  intro F S as ag c cs w ws g nd lt h1 h2 k1 k2
  unfold mAppend
  cases c with
  | v a => trivial
  | pth r p =>
    match cs with
    | [] => trivial
    | _ :: _ :: _ => trivial
    | [c2] =>
      obtain ⟨w2, t, hw, ht, rfl⟩ := seqO_cons h2
      cases ht
      have e0 : (ARV.pth r p).fp ++ RA.fp [c2] = c2.fp := List.append_nil _
      rw [e0] at nd lt ⊢
      show SimO _ _ _ _ _ _ _ _ (match cvR true c2.er (erS as) (erS ag) with
        | some (d, ls, gh) => (match atD ls gh r p with
          | some (.nd .ow .lst xs) => if xs.length < lim then wrote allT r p (.nd .ow .lst (xs ++ [d])) ls gh else .bad
          | _ => .bad)
        | none => .bad)
      cases hc : cvR true c2.er (erS as) (erS ag) with
      | none => trivial
      | some z =>
        obtain ⟨d, l1, g1⟩ := z
        obtain ⟨F1, as1, ag1, a, rfl, rfl, rfl, rfl, aok, _, ev⟩ := cv_sim0 g nd lt hw (k2 c2 List.mem_cons_self) hc
        dsimp only
        split
        · rename_i xs hx
          obtain ⟨b, hb, eb⟩ := at_er' hx
          obtain ⟨n, ys, rfl, rfl⟩ := er_nd eb
          have hpv := ev.per rfl r p w h1
          rw [hb] at hpv
          cases hpv
          have bok := at_ok ev.good hb
          have bok' := bok
          simp only [A.ok] at bok'
          by_cases hl : (A.ers ys).length < lim
          · rw [if_pos hl]
            refine SimO.preF (ev.weak (fun h => by cases h)) (q := false) ?_
            refine sim_wrote (y := .nd .ow n .lst (ys ++ [a])) (S' := S.set n (mkO .lst (A.pvs (ys ++ [a])))) (F' := F1) (by simp [A.er, ers_app, A.ers]) (fun _ => ?_) ?_
            · simp only [GL.mAppend, A.pv, lstAt_of (show S[n]? = some (.lst (A.pvs ys)) from bok'.1.2)]
              rw [if_pos (by rw [pvs_len, ← ers_len]; exact hl), pvs_app]; rfl
            · refine node_write (fun h => by cases h) ev.good ev.nd ev.lt hb rfl (oks_app bok'.2.2 ⟨aok, trivial⟩) ?_ ?_ ?_
              · rw [List.append_nil, fps_app]
                have hsub : (A.fps ys ++ A.fps [a]).Sublist (fpS (as1 ++ ag1) ++ a.fp) := by
                  obtain ⟨root, hr, hx⟩ := at_split hb
                  obtain ⟨_, L, R, e1, _, _⟩ := focus p root _ (root_ok ev.good hr) hx rfl
                  obtain ⟨L2, R2, f1, _⟩ := ch_fp (t := allT) (p := p) (y := a) hr
                  rw [f1, e1]
                  refine List.Sublist.append ?_ (by simp [A.fps])
                  have s0 : (A.fps ys).Sublist ((A.nd .ow n .lst ys).fp) := List.sublist_cons_self _ _
                  exact s0.trans (((List.sublist_append_right L _).trans (List.sublist_append_left _ R)).trans ((List.sublist_append_right L2 _).trans (List.sublist_append_left _ _)))
                exact ev.nd.sublist hsub
              · intro m hm
                rw [List.append_nil, fps_app] at hm
                simpa [A.fps] using hm
              · intro i s k _ hk
                rw [List.getElem?_append_left (List.getElem?_eq_some_iff.mp hk).1]; exact hk
          · rw [if_neg hl]; trivial
        · trivial
end VL
set_option Elab.async false
set_option linter.all false
set_option maxRecDepth 100000
set_option maxHeartbeats 1000000
namespace VL
open GL (PV OB Sto Nm BT lim)
open PySem (PyData Builtin)
variable {F F' : FM} {S S' : Sto} {as as' ag ag' : List AV}
theorem sub_node (g : Good F S as ag) {r : Rt} {p : List Nat} {x : A} (h : atA as ag r p = some x) (hs : x.shr = false) : (x.fp).Sublist (fpS (as ++ ag)) := by
  obtain ⟨root, hr, hx⟩ := at_split h
  obtain ⟨_, L, R, e1, _, _⟩ := focus p root _ (root_ok g hr) hx hs
  obtain ⟨L2, R2, f1, _⟩ := ch_fp (t := allT) (p := p) (y := x) hr
  rw [f1, e1]
  exact ((List.sublist_append_right L _).trans (List.sublist_append_left _ R)).trans ((List.sublist_append_right L2 _).trans (List.sublist_append_left _ _))
theorem sub_kids (g : Good F S as ag) {r : Rt} {p : List Nat} {n : Nat} {h : Hd} {ks : List A} (e : atA as ag r p = some (.nd .ow n h ks)) : (A.fps ks).Sublist (fpS (as ++ ag)) :=
  (List.sublist_cons_self _ _).trans (sub_node g e rfl)
def topT : List Nat → Bool := fun s => s.isEmpty
def exT (i : Nat) : List Nat → Bool := fun s => match s with
  | [] => true
  | j :: _ => decide (j ≠ i)
def wroteV (d : D) (t : List Nat → Bool) (r : Rt) (p : List Nat) (y : D) (ls gh : Ls) : Out RV := let z := chD t r p y ls gh; .ok (.v d) z.1 z.2
def mPop (x : RV) (ys : List RV) : PE := fun ls gh => match x, ys with
  | .pth r p, [] => (match atD ls gh r p with
    | some (.nd .ow .lst xs) => (match xs[xs.length - 1]? with
      | some d => wroteV d topT r p (.nd .ow .lst xs.dropLast) ls gh
      | none => .bad)
    | _ => .bad)
  | _, _ => .bad
theorem drop_last {α : Type} : ∀ {xs : List α} {x : α}, xs[xs.length - 1]? = some x → xs = xs.dropLast ++ [x]
  | [], x, h => by simp at h
  | [a], x, h => by simp at h; subst h; rfl
  | a :: b :: r, x, h => by
    have ih := drop_last (xs := b :: r) (x := x) (by simpa using h)
    show a :: b :: r = a :: (b :: r).dropLast ++ [x]
    rw [List.cons_append, ← ih]
theorem sim_mPop : SimM false GL.mPop mPop := by
  intro F S as ag c cs w ws g nd lt h1 h2 k1 k2
  unfold mPop
  cases c with
  | v a => trivial
  | pth r p =>
    match cs with
    | _ :: _ => trivial
    | [] =>
      cases h2
      show SimO _ _ _ _ _ _ _ _ (match atD (erS as) (erS ag) r p with
    | some (.nd .ow .lst xs) => (match xs[xs.length - 1]? with
      | some d => wroteV d topT r p (.nd .ow .lst xs.dropLast) (erS as) (erS ag)
      | none => .bad)
    | _ => .bad)
      split
      · rename_i xs hx
        obtain ⟨b, hb, eb⟩ := at_er' hx
        obtain ⟨n, ys, rfl, rfl⟩ := er_nd eb
        have hpv : (atA as ag r p).map A.pv = some w := h1
        rw [hb] at hpv
        cases hpv
        have bok' := at_ok g hb
        simp only [A.ok] at bok'
        split
        · rename_i d hd
          rw [ers_len, ers_map, List.getElem?_map] at hd
          obtain ⟨z, hz, rfl⟩ := Option.map_eq_some_iff.mp hd
          have hdl := drop_last hz
          have e2 : (A.ers ys).dropLast = A.ers ys.dropLast := by rw [ers_map, ers_map, List.map_dropLast]
          have fpe : A.fps ys = A.fps ys.dropLast ++ z.fp := by
            have : A.fps (ys.dropLast ++ [z]) = A.fps ys.dropLast ++ z.fp := by rw [fps_app]; simp [A.fps]
            rw [← hdl] at this; exact this
          have e := ch_er topT r p (.nd .ow n .lst ys.dropLast) as ag
          unfold wroteV
          rw [e2, show D.nd .ow .lst (A.ers ys.dropLast) = (A.nd .ow n .lst ys.dropLast).er from by simp [A.er], ← e]
          have oks := (oks_iff ys).mp bok'.2.2
          have zok : z.ok F S := oks z (List.mem_of_getElem? hz)
          have dok : A.oks F S ys.dropLast := (oks_iff _).mpr fun x hx => oks x (List.dropLast_subset ys hx)
          have ndk : (A.fps ys.dropLast ++ z.fp).Nodup := by rw [← fpe]; exact g.nd.sublist (sub_kids g hb)
          have evw := node_write (q := false) (t := topT) (x1 := z.fp) (h' := .lst) (fun h => by cases h) g nd lt hb rfl dok ndk (fun m hm => List.mem_append_left _ (by rw [fpe]; exact hm)) (fun i s k hs _ => by cases hs)
          refine ⟨F, _, _, _, .v z, z.pv, rfl, rfl, rfl, fun _ => ?_, rfl, ?_, evw⟩
          · simp only [GL.mPop, A.pv, lstAt_of (show S[n]? = some (.lst (A.pvs ys)) from bok'.1.2)]
            rw [pvs_len, pvs_map, List.getElem?_map, hz, Option.map_some]
            simp only [mkO, pvs_map, List.map_dropLast]
          · -- the popped one holds in the new store
            show z.ok F _
            refine ok_frame Mono.refl (fun m hm => ⟨rfl, List.getElem?_set_ne fun e => ?_⟩) zok
            subst e
            have nn : (n :: A.fps ys).Nodup := by
              have := g.nd.sublist (sub_node g hb rfl)
              simpa [A.fp] using this
            exact (List.nodup_cons.mp nn).1 (by rw [fpe]; exact List.mem_append_right _ hm)
        · trivial
      · trivial
def mSplit (x : RV) (ys : List RV) : PE := fun ls gh => match x, ys with
  | .v (.sc (.str a)), [.v (.sc (.str b))] => if (decide (b ≠ []) && decide (a.length < lim)) = true then .ok (.v (.nd .ow .lst ((PySem.Txt.split (GL.toS a) (GL.toS b)).map fun z => D.str z.cps.toList))) ls gh else .bad
  | _, _ => .bad
def aStrs (ns : List (List Nat)) : List A := ns.map fun i => .sc (.str i)
theorem aStrs_er (ns : List (List Nat)) : A.ers (aStrs ns) = ns.map D.str := by rw [ers_map, aStrs, List.map_map]; exact List.map_congr_left fun _ _ => by simp [A.er]
theorem aStrs_pv (ns : List (List Nat)) : A.pvs (aStrs ns) = ns.map .str := by rw [pvs_map, aStrs, List.map_map]; exact List.map_congr_left fun _ _ => by simp [A.pv, Sc.pv]
theorem aStrs_fp (ns : List (List Nat)) : A.fps (aStrs ns) = [] := by
  rw [fps_map, List.flatMap_eq_nil_iff]
  intro x hx
  obtain ⟨i, _, rfl⟩ := List.mem_map.mp hx
  rfl
theorem aStrs_ok (ns : List (List Nat)) : A.oks F S (aStrs ns) := by
  rw [oks_iff]
  intro x hx
  obtain ⟨i, _, rfl⟩ := List.mem_map.mp hx
  trivial
theorem sim_mSplit : SimM true GL.mSplit mSplit := by
  intro F S as ag c cs w ws g nd lt h1 h2 k1 k2
  unfold mSplit
  split
  · rename_i a b e1 e2
    match cs with
    | [] => simp at e2
    | _ :: _ :: _ => simp at e2
    | [c2] =>
      obtain ⟨w2, t, hw, ht, rfl⟩ := seqO_cons h2
      cases ht
      have e2 : c2.er = .v (.sc (.str b)) := by simpa using e2
      rw [er_vsc e1 h1, er_vsc e2 hw]
      by_cases hl : (decide (b ≠ []) && decide (a.length < lim)) = true
      · rw [if_pos hl]
        have e3 : ((PySem.Txt.split (GL.toS a) (GL.toS b)).map fun z => D.str z.cps.toList) = A.ers (aStrs ((PySem.Txt.split (GL.toS a) (GL.toS b)).map fun z => z.cps.toList)) := by
          rw [aStrs_er, List.map_map]; rfl
        rw [e3]
        refine sim_alloc g nd lt .lst _ rfl (aStrs_ok _) (by rw [aStrs_fp]; exact List.nil_sublist _) (fun _ => ?_)
        simp only [GL.mSplit, Sc.pv, if_pos hl, mkO, aStrs_pv, List.map_map]; rfl
      · rw [if_neg hl]; trivial
  · trivial
end VL
set_option Elab.async false
set_option linter.all false
set_option maxRecDepth 100000
set_option maxHeartbeats 1000000
namespace VL
open GL (PV OB Sto Nm BT lim)
open PySem (PyData Builtin)
variable {F F' F'' : FM} {S S' S'' : Sto} {as as' as'' ag ag' ag'' : List AV} {x0 x1 x2 : List Nat}
abbrev MS := Ls → Ls → SOut
structure Sv (F : FM) (S : Sto) (as ag : List AV) (x0 : List Nat) (F' : FM) (S' : Sto) (as' ag' : List AV) (x : List Nat) : Prop where
  good : Good F' S' as' ag'
  nd : (fpS (as' ++ ag') ++ x).Nodup
  lt : ∀ n ∈ x, n < S'.length
  mono : Mono F F'
  len : S.length ≤ S'.length
  keep : ∀ n, n < S.length → n ∉ fpS (as ++ ag) ++ x0 → F' n = F n ∧ S'[n]? = S[n]?
  new : ∀ n, n ∈ fpS (as' ++ ag') ++ x → n ∈ fpS (as ++ ag) ++ x0 ∨ S.length ≤ n
  gg : ∀ ad, glS as' ag' ad ag' = glS as ag ad ag
theorem Ev.sv {q : Bool} (e : Ev q F S as ag x0 F' S' as' ag' x1) : Sv F S as ag x0 F' S' as' ag' x1 := ⟨e.good, e.nd, e.lt, e.mono, e.len, e.keep, e.new, e.gg⟩
theorem Sv.refl (g : Good F S as ag) : Sv F S as ag [] F S as ag [] := (Ev.refl (q := true) g (good_nd g) (fun _ h => by cases h)).sv
theorem Sv.trans (a : Sv F S as ag x0 F' S' as' ag' x1) (b : Sv F' S' as' ag' x1 F'' S'' as'' ag'' x2) : Sv F S as ag x0 F'' S'' as'' ag'' x2 where
  good := b.good
  nd := b.nd
  lt := b.lt
  mono := a.mono.trans b.mono
  len := Nat.le_trans a.len b.len
  keep := fun n hn hx => by
    have h1 := a.keep n hn hx
    have h2 := b.keep n (Nat.lt_of_lt_of_le hn a.len) fun h => by
      rcases a.new n h with h | h
      · exact hx h
      · exact absurd hn (Nat.not_lt.mpr h)
    exact ⟨h2.1.trans h1.1, h2.2.trans h1.2⟩
  new := fun n hn => by
    rcases b.new n hn with h | h
    · exact a.new n h
    · exact .inr (Nat.le_trans a.len h)
  gg := fun ad => (b.gg ad).trans (a.gg ad)
def SimSO (F : FM) (S : Sto) (as ag : List AV) (x0 : List Nat) (o : AD → GL.SOut) (p : SOut) : Prop := match p with
  | .nx ls' gh' => ∃ F' S' as' ag', erS as' = ls' ∧ erS ag' = gh' ∧ (∀ ad, o ad = .nx (glS as' ag' ad as') S') ∧ Sv F S as ag x0 F' S' as' ag' []
  | .bk ls' gh' => ∃ F' S' as' ag', erS as' = ls' ∧ erS ag' = gh' ∧ (∀ ad, o ad = .bk (glS as' ag' ad as') S') ∧ Sv F S as ag x0 F' S' as' ag' []
  | .ct ls' gh' => ∃ F' S' as' ag', erS as' = ls' ∧ erS ag' = gh' ∧ (∀ ad, o ad = .ct (glS as' ag' ad as') S') ∧ Sv F S as ag x0 F' S' as' ag' []
  | .rt d gh' => ∃ F' S' ag' a, erS ag' = gh' ∧ A.er a = d ∧ (∀ ad, o ad = .rt a.pv S') ∧ a.ok F' S' ∧ Sv F S as ag x0 F' S' [] ag' a.fp
  | .exc e ls' gh' => ∃ F' S' as' ag' x, erS as' = ls' ∧ erS ag' = gh' ∧ AE.er x = e ∧ (∀ ad, o ad = .exc x.gl (glS as' ag' ad as') S') ∧ x.ok F' S' ∧ Sv F S as ag x0 F' S' as' ag' []
  | .bad => True
def SimS (m : AD → GL.MS) (p : MS) : Prop := ∀ F S as ag, Good F S as ag → SimSO F S as ag [] (fun ad => m ad (glS as ag ad as) S) (p (erS as) (erS ag))
theorem SimSO.pre {o : AD → GL.SOut} {p : SOut} (e : Sv F S as ag x0 F' S' as' ag' x1) (h : SimSO F' S' as' ag' x1 o p) : SimSO F S as ag x0 o p := by
  cases p with
  | bad => trivial
  | nx ls gh => obtain ⟨F2, S2, as2, ag2, a1, a2, a3, a4⟩ := h; exact ⟨F2, S2, as2, ag2, a1, a2, a3, e.trans a4⟩
  | bk ls gh => obtain ⟨F2, S2, as2, ag2, a1, a2, a3, a4⟩ := h; exact ⟨F2, S2, as2, ag2, a1, a2, a3, e.trans a4⟩
  | ct ls gh => obtain ⟨F2, S2, as2, ag2, a1, a2, a3, a4⟩ := h; exact ⟨F2, S2, as2, ag2, a1, a2, a3, e.trans a4⟩
  | rt d gh => obtain ⟨F2, S2, ag2, a, a1, a2, a3, a4, a5⟩ := h; exact ⟨F2, S2, ag2, a, a1, a2, a3, a4, e.trans a5⟩
  | exc e' ls gh => obtain ⟨F2, S2, as2, ag2, x, a1, a2, a3, a4, a5, a6⟩ := h; exact ⟨F2, S2, as2, ag2, x, a1, a2, a3, a4, a5, e.trans a6⟩
theorem SimSO.cg {o o' : AD → GL.SOut} {p : SOut} (h : SimSO F S as ag x0 o p) (e : ∀ ad, o' ad = o ad) : SimSO F S as ag x0 o' p := by
  have : o' = o := funext e
  rw [this]; exact h
theorem sims_at {m : AD → GL.MS} {p : MS} {L : AD → GL.Ls} (h : SimS m p) (g : Good F S as ag) (hL : ∀ ad, L ad = glS as ag ad as) : SimSO F S as ag [] (fun ad => m ad (L ad) S) (p (erS as) (erS ag)) := by
  have := h F S as ag g
  simpa only [hL] using this
def sNil : MS := fun ls gh => .nx ls gh
def sBk : MS := fun ls gh => .bk ls gh
def SOut.seq (o : SOut) (f : MS) : SOut := match o with
  | .nx ls gh => f ls gh
  | r => r
def sSeq (a b : MS) : MS := fun ls gh => (a ls gh).seq b
theorem sim_nil : SimS (fun _ => GL.sNil) sNil := fun F S as ag g => ⟨F, S, as, ag, rfl, rfl, fun _ => rfl, Sv.refl g⟩
theorem sim_bk : SimS (fun _ => GL.sBk) sBk := fun F S as ag g => ⟨F, S, as, ag, rfl, rfl, fun _ => rfl, Sv.refl g⟩
theorem sim_seq {m1 m2 : AD → GL.MS} {p1 p2 : MS} (h1 : SimS m1 p1) (h2 : SimS m2 p2) : SimS (fun ad => GL.sSeq (m1 ad) (m2 ad)) (sSeq p1 p2) := by
  intro F S as ag g
  have h := h1 F S as ag g
  show SimSO _ _ _ _ _ (fun ad => (m1 ad (glS as ag ad as) S).seq (m2 ad)) ((p1 (erS as) (erS ag)).seq p2)
  cases hp : p1 (erS as) (erS ag) with
  | bad => trivial
  | nx ls gh =>
    rw [hp] at h
    obtain ⟨F2, S2, as2, ag2, rfl, rfl, a3, a4⟩ := h
    exact SimSO.pre a4 ((h2 F2 S2 as2 ag2 a4.good).cg fun ad => by show (m1 ad _ S).seq _ = _; rw [show m1 ad (glS as ag ad as) S = _ from a3 ad]; rfl)
  | bk ls gh => rw [hp] at h; obtain ⟨F2, S2, as2, ag2, a1, a2, a3, a4⟩ := h; exact ⟨F2, S2, as2, ag2, a1, a2, fun ad => by show (m1 ad _ S).seq _ = _; rw [show m1 ad (glS as ag ad as) S = _ from a3 ad]; rfl, a4⟩
  | ct ls gh => rw [hp] at h; obtain ⟨F2, S2, as2, ag2, a1, a2, a3, a4⟩ := h; exact ⟨F2, S2, as2, ag2, a1, a2, fun ad => by show (m1 ad _ S).seq _ = _; rw [show m1 ad (glS as ag ad as) S = _ from a3 ad]; rfl, a4⟩
  | rt d gh => rw [hp] at h; obtain ⟨F2, S2, ag2, a, a1, a2, a3, a4, a5⟩ := h; exact ⟨F2, S2, ag2, a, a1, a2, fun ad => by show (m1 ad _ S).seq _ = _; rw [show m1 ad (glS as ag ad as) S = _ from a3 ad]; rfl, a4, a5⟩
  | exc e ls gh => rw [hp] at h; obtain ⟨F2, S2, as2, ag2, x, a1, a2, a3, a4, a5, a6⟩ := h; exact ⟨F2, S2, as2, ag2, x, a1, a2, a3, fun ad => by show (m1 ad _ S).seq _ = _; rw [show m1 ad (glS as ag ad as) S = _ from a4 ad]; rfl, a5, a6⟩
def Out.then {α : Type} (o : Out α) (f : α → Ls → Ls → SOut) : SOut := match o with
  | .ok a ls gh => f a ls gh
  | .exc e ls gh => .exc e ls gh
  | .bad => .bad
theorem sim_then {α β γ : Type} {R : RT α β γ} {q : Bool} {ma : AD → GL.Ls → Sto → GL.Out α} {pa : PX β} {f : AD → α → Sto → GL.SOut} {k : β → Ls → Ls → SOut} {L : AD → GL.Ls}
    (hm : SimX q R ma pa) (g : Good F S as ag) (hL : ∀ ad, L ad = glS as ag ad as)
    (hk : ∀ F' S' as' ag' c w, R.pv as' ag' c = some w → R.ok F' S' c → Good F' S' as' ag' → (fpS (as' ++ ag') ++ R.fp c).Nodup → (∀ n ∈ R.fp c, n < S'.length) → (∀ ad, L ad = glS as' ag' ad as') →
      SimSO F' S' as' ag' (R.fp c) (fun ad => f ad w S') (k (R.er c) (erS as') (erS ag'))) :
    SimSO F S as ag [] (fun ad => (ma ad (L ad) S).then (L ad) (f ad)) ((pa (erS as) (erS ag)).then k) := by
  have h := hm F S as ag g
  cases hp : pa (erS as) (erS ag) with
  | bad => trivial
  | exc e ls gh =>
    rw [hp] at h
    obtain ⟨F2, S2, as2, ag2, x, a1, a2, a3, a4, a5, a6⟩ := h
    refine ⟨F2, S2, as2, ag2, x, a1, a2, a3, fun ad => ?_, a5, a6.sv⟩
    show (ma ad (L ad) S).then (L ad) _ = _
    rw [hL, show ma ad (glS as ag ad as) S = _ from a4 ad, a6.gl]; rfl
  | ok b ls gh =>
    rw [hp] at h
    obtain ⟨F2, S2, as2, ag2, c, w, rfl, rfl, rfl, a4, a5, a6, a7⟩ := h
    have h2 := hk F2 S2 as2 ag2 c w a5 a6 a7.good a7.nd a7.lt (fun ad => (hL ad).trans (a7.gl ad).symm)
    exact SimSO.pre a7.sv (h2.cg fun ad => by
      show (ma ad (L ad) S).then (L ad) _ = _
      rw [hL, show ma ad (glS as ag ad as) S = _ from a4 ad]; rfl)
def sExpr (m : PE) : MS := fun ls gh => (m ls gh).then fun _ ls gh => .nx ls gh
theorem sim_expr {q : Bool} {ma : AD → GL.ME} {pa : PE} (h : SimE q ma pa) : SimS (fun ad => GL.sExpr (ma ad)) (sExpr pa) := fun F S as ag g =>
  sim_then (R := RE) (f := fun ad _ S1 => .nx (glS as ag ad as) S1) (k := fun _ ls gh => .nx ls gh) h g (fun _ => rfl) fun F1 S1 as1 ag1 c w h1 h2 g1 n1 l1 L1 =>
    ⟨F1, S1, as1, ag1, rfl, rfl, fun ad => congrArg (fun l => GL.SOut.nx l S1) (L1 ad), ((Ev.refl (q := true) g1 n1 l1).sub (List.nil_sublist _)).sv⟩
def sIf (c : PT) (a b : MS) : MS := fun ls gh => (c ls gh).then fun k ls gh => if k = true then a ls gh else b ls gh
theorem sim_sif {q : Bool} {tc : AD → GL.MT} {uc : PT} {m1 m2 : AD → GL.MS} {p1 p2 : MS} (hc : SimT q tc uc) (h1 : SimS m1 p1) (h2 : SimS m2 p2) : SimS (fun ad => GL.sIf (tc ad) (m1 ad) (m2 ad)) (sIf uc p1 p2) := fun F S as ag g =>
  sim_then (R := RB) (f := fun ad k S1 => if k = true then m1 ad (glS as ag ad as) S1 else m2 ad (glS as ag ad as) S1) (k := fun k ls gh => if k = true then p1 ls gh else p2 ls gh) hc g (fun _ => rfl) fun F1 S1 as1 ag1 c w e1 _ g1 n1 l1 L1 => by
    cases e1
    cases c with
    | true => exact sims_at h1 g1 L1
    | false => exact sims_at h2 g1 L1
def killR (i : Nat) : Option V → Option V
  | some (.al (.l j) p) => if j = i then none else some (.al (.l j) p)
  | z => z
def killRA (as ag : List AV) (i : Nat) : AV → AV
  | .al (.l j) p => if j = i then .un ((atA as ag (.l j) p).map A.pv) else .al (.l j) p
  | z => z
theorem killR_er (i : Nat) (z : AV) : (killRA as ag i z).er = killR i z.er := by
  cases z with
  | al r p =>
    cases r with
    | l j => simp only [killRA, AV.er, killR]; by_cases h : j = i <;> simp [h]
    | g j => rfl
  | _ => rfl
theorem killR_fp (i : Nat) (z : AV) : (killRA as ag i z).fp = z.fp := by
  cases z with
  | al r p =>
    cases r with
    | l j => simp only [killRA]; split <;> rfl
    | g j => rfl
  | _ => rfl
theorem killR_slot (i : Nat) (z : Option AV) : slotA (z.map (killRA as ag i)) = slotA z := by
  cases z with
  | none => rfl
  | some z =>
    cases z with
    | al r p =>
      cases r with
      | l j => simp only [Option.map_some, killRA]; split <;> rfl
      | g j => rfl
    | _ => rfl
theorem killR_ok (i : Nat) {z : AV} (h : z.ok F S) : (killRA as ag i z).ok F S := by
  cases z with
  | al r p =>
    cases r with
    | l j => simp only [killRA]; split <;> trivial
    | g j => trivial
  | _ => exact h
def stA (as ag : List AV) (i : Nat) (z : AV) : List AV × List AV := ((as.map (killRA as ag i)).set i z, ag.map (killRA as ag i))
def stD (ls gh : Ls) (i : Nat) (z : V) : Ls × Ls := ((ls.map (killR i)).set i (some z), gh.map (killR i))
theorem st_er {i : Nat} {z : AV} {v : V} (hz : z.er = some v) : (erS (stA as ag i z).1, erS (stA as ag i z).2) = stD (erS as) (erS ag) i v := by
  have k : ∀ zs : List AV, erS (zs.map (killRA as ag i)) = (erS zs).map (killR i) := fun zs => by
    simp only [erS, List.map_map]
    exact List.map_congr_left fun z _ => killR_er i z
  unfold stA stD
  rw [← k, ← k]
  simp only [erS, List.map_set, hz]
theorem st_root {i : Nat} {z : AV} {r : Rt} (hr : r ≠ .l i) : rootA (stA as ag i z).1 (stA as ag i z).2 r = rootA as ag r := by
  cases r with
  | l j =>
    have : i ≠ j := fun e => hr (by rw [e])
    simp only [rootA, stA]
    rw [List.getElem?_set_ne this, List.getElem?_map, killR_slot]
  | g j => simp only [rootA, stA, List.getElem?_map, killR_slot]
theorem st_glv {i : Nat} {z y : AV} (ad : AD) : glv (stA as ag i z).1 (stA as ag i z).2 ad (killRA as ag i y) = glv as ag ad y := by
  cases y with
  | al r p =>
    cases r with
    | l j =>
      by_cases h : j = i
      · simp only [killRA, if_pos h, glv]
      · simp only [killRA, if_neg h, glv]
        unfold atA
        rw [st_root (fun e => h (by cases e; rfl))]
    | g j =>
      show (atA _ _ (.g j) p).map _ = (atA as ag (.g j) p).map _
      unfold atA
      rw [st_root (by simp)]
  | _ => rfl
theorem st_gl {i : Nat} {z : AV} {w : PV} (hi : i < as.length) (ad : AD) (hz : glv (stA as ag i z).1 (stA as ag i z).2 ad z = some w) :
    glS (stA as ag i z).1 (stA as ag i z).2 ad (stA as ag i z).1 = (glS as ag ad as).set i (some w) ∧ glS (stA as ag i z).1 (stA as ag i z).2 ad (stA as ag i z).2 = glS as ag ad ag := by
  constructor
  · show ((as.map (killRA as ag i)).set i z).map _ = _
    rw [List.map_set, hz, List.map_map]
    congr 1
    exact List.map_congr_left fun y _ => st_glv ad
  · show (ag.map (killRA as ag i)).map _ = _
    rw [List.map_map]
    exact List.map_congr_left fun y _ => st_glv ad
theorem set_split {α : Type} {xs : List α} {i : Nat} {x y : α} (h : xs[i]? = some x) : ∃ A B, xs = A ++ x :: B ∧ xs.set i y = A ++ y :: B := by
  refine ⟨xs.take i, xs.drop (i + 1), take_self h, ?_⟩
  rw [List.set_eq_take_append_cons_drop, if_pos (List.getElem?_eq_some_iff.mp h).1]
theorem kill_fps (zs : List AV) (i : Nat) : fpS (zs.map (killRA as ag i)) = fpS zs := by
  unfold fpS
  rw [List.flatMap_map]
  exact congrArg List.flatten (List.map_congr_left fun z _ => killR_fp i z)
theorem sv_set {i : Nat} {z : AV} (g : Good F S as ag) (nd : (fpS (as ++ ag) ++ x0).Nodup) (lt : ∀ n ∈ x0, n < S.length) (hi : i < as.length) (zok : z.ok F S) (zal : Alive (stA as ag i z).1 (stA as ag i z).2 z)
    (hf : ∀ y, as[i]? = some y → z.fp.Sublist y.fp ∨ z.fp.Sublist x0) : Sv F S as ag x0 F S (stA as ag i z).1 (stA as ag i z).2 [] := by
  have hy : as[i]? = some as[i] := List.getElem?_eq_getElem hi
  have hk : (as.map (killRA as ag i))[i]? = some (killRA as ag i as[i]) := by rw [List.getElem?_map, hy]; rfl
  obtain ⟨A1, B1, e1, e2⟩ := set_split (y := z) hk
  have f1 : fpS as = fpS A1 ++ (as[i].fp ++ fpS B1) := by
    have : fpS (as.map (killRA as ag i)) = fpS as := kill_fps as i
    rw [← this, e1, fpS_app, fpS_cons, killR_fp]
  have f2 : fpS ((stA as ag i z).1 ++ (stA as ag i z).2) = fpS A1 ++ (z.fp ++ fpS B1) ++ fpS ag := by
    show fpS ((as.map (killRA as ag i)).set i z ++ ag.map (killRA as ag i)) = _
    rw [fpS_app, kill_fps, e2, fpS_app, fpS_cons]
  have ndn : (fpS ((stA as ag i z).1 ++ (stA as ag i z).2)).Nodup := by
    rw [f2]
    rcases hf _ hy with hs | hs
    · refine g.nd.sublist ?_
      rw [fpS_app, f1]
      exact List.Sublist.append_right (List.Sublist.append_left (List.Sublist.append_right hs _) _) _
    · have n1 : (fpS A1 ++ (as[i].fp ++ fpS B1) ++ fpS ag ++ x0).Nodup := by rw [← f1, ← fpS_app]; exact nd
      have n2 : (fpS A1 ++ fpS B1 ++ fpS ag ++ z.fp).Nodup := by
        refine n1.sublist (List.Sublist.append (List.Sublist.append_right ?_ _) hs)
        exact List.Sublist.append_left (List.sublist_append_right _ _) _
      refine (List.Perm.nodup_iff ?_).mp n2
      have : (fpS A1 ++ (fpS B1 ++ fpS ag ++ z.fp)).Perm (fpS A1 ++ (z.fp ++ (fpS B1 ++ fpS ag))) := List.Perm.append_left _ List.perm_append_comm
      simpa using this
  have mem : ∀ y ∈ (stA as ag i z).1 ++ (stA as ag i z).2, y = z ∨ ∃ y0 ∈ as ++ ag, y = killRA as ag i y0 := fun y h => by
    rcases List.mem_append.mp h with h | h
    · rcases List.mem_or_eq_of_mem_set h with h | h
      · obtain ⟨y0, h0, rfl⟩ := List.mem_map.mp h
        exact .inr ⟨y0, List.mem_append_left _ h0, rfl⟩
      · exact .inl h
    · obtain ⟨y0, h0, rfl⟩ := List.mem_map.mp h
      exact .inr ⟨y0, List.mem_append_right _ h0, rfl⟩
  refine ⟨⟨g.fs, fun y h => ?_, ndn, fun y h => ?_⟩, by rw [List.append_nil]; exact ndn, fun _ h => (by cases h), Mono.refl, Nat.le_refl _, fun _ _ _ => ⟨rfl, rfl⟩, fun n h => .inl ?_, fun ad => ?_⟩
  · rcases mem y h with rfl | ⟨y0, h0, rfl⟩
    · exact zok
    · exact killR_ok i (g.ok _ h0)
  · rcases mem y h with rfl | ⟨y0, h0, rfl⟩
    · exact zal
    · have al := g.al _ h0
      cases y0 with
      | al r p =>
        cases r with
        | l j =>
          simp only [killRA]
          split
          · trivial
          · rename_i hj
            show (atA _ _ (.l j) p).isSome = true
            unfold atA
            rw [st_root (fun e => hj (by cases e; rfl))]
            exact al
        | g j =>
          show (atA _ _ (.g j) p).isSome = true
          unfold atA
          rw [st_root (by simp)]
          exact al
      | _ => trivial
  · rw [List.append_nil, f2] at h
    rw [fpS_app, f1]
    simp only [List.mem_append] at h ⊢
    rcases h with (h | h | h) | h
    · simp [h]
    · rcases hf _ hy with hs | hs
      · have := hs.subset h; simp [this]
      · have := hs.subset h; simp [this]
    · simp [h]
    · simp [h]
  · show (ag.map (killRA as ag i)).map _ = _
    rw [List.map_map]
    exact List.map_congr_left fun y _ => st_glv ad
def setL (i : Nat) (x : RV) (ls gh : Ls) : Option (Ls × Ls) := if i < ls.length then (match x with
  | .v d => some (stD ls gh i (.v d))
  | .pth r p => if r = .l i then (match atD ls gh r p with
      | some d => some (stD ls gh i (.v d))
      | none => none) else some (stD ls gh i (.al r p))) else none
theorem setL_sim {i : Nat} {c : ARV} {w : PV} {ls' gh' : Ls} (g : Good F S as ag) (nd : (fpS (as ++ ag) ++ c.fp).Nodup) (lt : ∀ n ∈ c.fp, n < S.length) (hp : c.pv as ag = some w) (hk : c.ok F S) (h : setL i c.er (erS as) (erS ag) = some (ls', gh')) :
    ∃ as' ag', erS as' = ls' ∧ erS ag' = gh' ∧ (∀ ad, glS as' ag' ad as' = (glS as ag ad as).set i (some w)) ∧ (∀ r, r ≠ .l i → rootA as' ag' r = rootA as ag r) ∧ Sv F S as ag c.fp F S as' ag' [] := by
  unfold setL at h
  split at h
  · rename_i hi
    have hi : i < as.length := by simpa [erS] using hi
    cases c with
    | v a =>
      simp only [ARV.er, Option.some.injEq] at h
      rw [← st_er (z := .v a) rfl, Prod.mk.injEq] at h
      cases hp
      exact ⟨_, _, h.1, h.2, fun ad => (st_gl hi ad rfl).1, fun r hr => st_root hr, sv_set g nd lt hi hk trivial (fun _ _ => .inr (List.Sublist.refl _))⟩
    | pth r p =>
      simp only [ARV.er] at h
      split at h
      · rename_i hr; subst hr
        split at h
        · rename_i d hd
          obtain ⟨a, ha, rfl⟩ := at_er' hd
          simp only [Option.some.injEq] at h
          rw [← st_er (z := .v a) rfl, Prod.mk.injEq] at h
          have hp : (atA as ag (.l i) p).map A.pv = some w := hp
          rw [ha] at hp
          cases hp
          refine ⟨_, _, h.1, h.2, fun ad => (st_gl hi ad rfl).1, fun r hr => st_root hr, sv_set g nd lt hi (at_ok g ha) trivial (fun y hy => .inl ?_)⟩
          obtain ⟨root, hr, hx⟩ := at_split ha
          have hroot : y.fp = root.fp := by
            have hr : slotA as[i]? = some root := hr
            rw [hy] at hr
            cases y <;> cases hr <;> rfl
          show (A.fp a).Sublist y.fp
          rw [hroot]
          cases hs : a.shr with
          | true => rw [fp_shr (at_ok g ha) hs]; exact List.nil_sublist _
          | false =>
            obtain ⟨_, L, R, e1, _, _⟩ := focus p root a (root_ok g hr) hx hs
            rw [e1]
            exact (List.sublist_append_right L _).trans (List.sublist_append_left _ R)
        · cases h
      · rename_i hr
        simp only [Option.some.injEq] at h
        rw [← st_er (z := .al r p) rfl, Prod.mk.injEq] at h
        have hp : (atA as ag r p).map A.pv = some w := hp
        have hv : ∀ ad, glv (stA as ag i (.al r p)).1 (stA as ag i (.al r p)).2 ad (.al r p) = some w := fun ad => by
          show (atA _ _ r p).map A.pv = some w
          unfold atA at hp ⊢
          rw [st_root hr]; exact hp
        refine ⟨_, _, h.1, h.2, fun ad => (st_gl hi ad (hv ad)).1, fun r hr => st_root hr, sv_set g nd lt hi trivial ?_ (fun _ _ => .inr (List.nil_sublist _))⟩
        show (atA _ _ r p).isSome = true
        unfold atA
        rw [st_root hr]
        cases hq : atA as ag r p with
        | none => rw [hq] at hp; cases hp
        | some a => unfold atA at hq; rw [hq]; rfl
  · cases h
def sSet (i : Nat) (m : PE) : MS := fun ls gh => (m ls gh).then fun x ls gh => match setL i x ls gh with
  | some z => .nx z.1 z.2
  | none => .bad
theorem sim_set {i : Nat} {q : Bool} {ma : AD → GL.ME} {pa : PE} (h : SimE q ma pa) : SimS (fun ad => GL.sSet i (ma ad)) (sSet i pa) := fun F S as ag g =>
  sim_then (R := RE) (f := fun ad w S1 => .nx ((glS as ag ad as).set i (some w)) S1) (k := fun x ls gh => match setL i x ls gh with
  | some z => .nx z.1 z.2
  | none => .bad) h g (fun _ => rfl) fun F1 S1 as1 ag1 c w h1 h2 g1 n1 l1 L1 => by
    cases hs : setL i (RE.er c) (erS as1) (erS ag1) with
    | none => simp only [hs]; trivial
    | some z =>
      obtain ⟨as2, ag2, e1, e2, e3, _, sv⟩ := setL_sim g1 n1 l1 h1 h2 (show setL i c.er _ _ = some (z.1, z.2) from hs)
      simp only [hs]
      exact ⟨F1, S1, as2, ag2, e1, e2, fun ad => by show GL.SOut.nx ((glS as ag ad as).set i (some w)) S1 = _; rw [e3, L1], sv⟩
def dropG : Option V → Option V
  | some (.al (.l _) _) => none
  | z => z
def retV (x : RV) (ls gh : Ls) : Option (D × Ls) := match x with
  | .v d => some (d, gh.map dropG)
  | .pth (.l i) [] => (match ls[i]? with
    | some (some (.v d)) => some (d, gh.map dropG)
    | _ => none)
  | .pth r p => (match cvR false (.pth r p) ls gh with
    | some (d, _, gh) => some (d, gh.map dropG)
    | none => none)
def sRet (m : PE) : MS := fun ls gh => (m ls gh).then fun x ls gh => match retV x ls gh with
  | some z => .rt z.1 z.2
  | none => .bad
def dropA (as ag : List AV) : AV → AV
  | .al (.l j) p => .un ((atA as ag (.l j) p).map A.pv)
  | z => z
theorem drop_er (z : AV) : (dropA as ag z).er = dropG z.er := by
  cases z with
  | al r p => cases r <;> rfl
  | _ => rfl
theorem drop_fp (z : AV) : (dropA as ag z).fp = z.fp := by
  cases z with
  | al r p => cases r <;> rfl
  | _ => rfl
theorem drop_slot (z : Option AV) : slotA (z.map (dropA as ag)) = slotA z := by
  cases z with
  | none => rfl
  | some z =>
    cases z with
    | al r p => cases r <;> rfl
    | _ => rfl
theorem drop_at (j : Nat) (p : List Nat) : atA [] (ag.map (dropA as ag)) (.g j) p = atA as ag (.g j) p := by
  unfold atA
  show (slotA (ag.map (dropA as ag))[j]?).bind _ = (slotA ag[j]?).bind _
  rw [List.getElem?_map, drop_slot]
theorem sv_drop (g : Good F S as ag) (nd : (fpS (as ++ ag) ++ x0).Nodup) (lt : ∀ n ∈ x0, n < S.length) (hx : (fpS ag ++ x1).Nodup) (sub : ∀ n ∈ x1, n ∈ fpS (as ++ ag) ++ x0) (lt1 : ∀ n ∈ x1, n < S.length) : Sv F S as ag x0 F S [] (ag.map (dropA as ag)) x1 := by
  have f1 : fpS (ag.map (dropA as ag)) = fpS ag := by
    unfold fpS
    rw [List.flatMap_map]
    exact congrArg List.flatten (List.map_congr_left fun z _ => drop_fp z)
  refine ⟨⟨g.fs, fun z h => ?_, ?_, fun z h => ?_⟩, ?_, lt1, Mono.refl, Nat.le_refl _, fun _ _ _ => ⟨rfl, rfl⟩, fun n h => .inl ?_, fun ad => ?_⟩
  · obtain ⟨y, hy, rfl⟩ := List.mem_map.mp (by simpa using h)
    have := g.ok y (List.mem_append_right _ hy)
    cases y with
    | al r p => cases r <;> trivial
    | _ => exact this
  · show (fpS ([] ++ _)).Nodup
    rw [List.nil_append, f1]
    exact (List.nodup_append.mp hx).1
  · obtain ⟨y, hy, rfl⟩ := List.mem_map.mp (by simpa using h)
    have := g.al y (List.mem_append_right _ hy)
    cases y with
    | al r p =>
      cases r with
      | l j => trivial
      | g j =>
        show (atA [] _ (.g j) p).isSome = true
        rw [drop_at]; exact this
    | _ => trivial
  · rw [List.nil_append, f1]; exact hx
  · rw [List.nil_append, f1] at h
    rcases List.mem_append.mp h with t | t
    · exact List.mem_append_left _ (by rw [fpS_app]; exact List.mem_append_right _ t)
    · exact sub n t
  · show (ag.map (dropA as ag)).map _ = _
    rw [List.map_map]
    refine List.map_congr_left fun y hy => ?_
    cases y with
    | al r p =>
      cases r with
      | l j => rfl
      | g j => show (atA [] _ (.g j) p).map _ = (atA as ag (.g j) p).map _; rw [drop_at]
    | _ => rfl
theorem erS_drop : erS (ag.map (dropA as ag)) = (erS ag).map dropG := by
  simp only [erS, List.map_map]
  exact List.map_congr_left fun z _ => drop_er z
theorem sim_ret {q : Bool} {ma : AD → GL.ME} {pa : PE} (h : SimE q ma pa) : SimS (fun ad => GL.sRet (ma ad)) (sRet pa) := fun F S as ag g =>
  sim_then (R := RE) (f := fun ad w S1 => .rt w S1) (k := fun x ls gh => match retV x ls gh with
  | some z => .rt z.1 z.2
  | none => .bad) h g (fun _ => rfl) fun F1 S1 as1 ag1 c w h1 h2 g1 n1 l1 L1 => by
    have ndg : (fpS ag1 ++ c.fp).Nodup := by
      have n1 : (fpS (as1 ++ ag1) ++ c.fp).Nodup := n1
      rw [fpS_app, List.append_assoc] at n1
      exact (List.nodup_append.mp n1).2.1
    have frz : ∀ r p, c = .pth r p → ∀ d l g', cvR false (.pth r p) (erS as1) (erS ag1) = some (d, l, g') → SimSO F1 S1 as1 ag1 (RE.fp c) (fun ad => .rt w S1) (.rt d (g'.map dropG)) := fun r p hc d l g' hcv => by
      subst hc
      obtain ⟨F2, as2, ag2, a, rfl, rfl, rfl, rfl, aok, afp, ev⟩ := cv_sim0 (k := false) (c := .pth r p) g1 n1 l1 h1 h2 hcv
      have fz := afp rfl
      refine SimSO.pre ev.sv ?_
      refine ⟨F2, S1, ag2.map (dropA as2 ag2), a, erS_drop, rfl, fun _ => rfl, aok, sv_drop ev.good ev.nd ev.lt ?_ (fun n h => by rw [fz] at h; cases h) (fun n h => by rw [fz] at h; cases h)⟩
      rw [fz, List.append_nil]
      have := ev.good.nd
      rw [fpS_app] at this
      exact (List.nodup_append.mp this).2.1
    cases c with
    | v a =>
      cases h1
      exact ⟨F1, S1, ag1.map (dropA as1 ag1), a, erS_drop, rfl, fun _ => rfl, h2, sv_drop g1 n1 l1 ndg (fun n h => List.mem_append_right _ h) l1⟩
    | pth r p =>
      show SimSO _ _ _ _ _ _ (match retV (.pth r p) (erS as1) (erS ag1) with
        | some z => .rt z.1 z.2
        | none => .bad)
      cases hr : retV (.pth r p) (erS as1) (erS ag1) with
      | none => trivial
      | some z =>
        obtain ⟨d, g'⟩ := z
        dsimp only
        unfold retV at hr
        split at hr
        · rename_i heq; cases heq
        · rename_i i heq
          cases heq
          split at hr
          · rename_i d' hd
            cases hr
            simp only [erS, List.getElem?_map] at hd
            cases hi : as1[i]? with
            | none => rw [hi] at hd; cases hd
            | some y =>
              rw [hi] at hd
              cases y with
              | v a =>
                simp only [Option.map_some, AV.er, Option.some.injEq, V.v.injEq] at hd
                subst hd
                have hw : w = a.pv := by
                  have h1 : (atA as1 ag1 (.l i) []).map A.pv = some w := h1
                  have h1 : ((slotA as1[i]?).bind (getA [])).map A.pv = some w := h1
                  rw [hi] at h1
                  cases h1; rfl
                have hm : AV.v a ∈ as1 := List.mem_of_getElem? hi
                have s1 : (a.fp).Sublist (fpS as1) := by
                  unfold fpS
                  rw [List.flatMap]
                  exact List.sublist_flatten_of_mem (List.mem_map.mpr ⟨_, hm, rfl⟩)
                subst hw
                refine ⟨F1, S1, ag1.map (dropA as1 ag1), a, erS_drop, rfl, fun _ => rfl, g1.ok _ (List.mem_append_left _ hm), sv_drop g1 n1 l1 ?_ (fun n h => List.mem_append_left _ (by rw [fpS_app]; exact List.mem_append_left _ (s1.subset h))) (fun n h => fp_lt g1.fs (g1.ok _ (List.mem_append_left _ hm)) n h)⟩
                have := g1.nd
                rw [fpS_app] at this
                exact (List.Perm.nodup_iff List.perm_append_comm).mp (this.sublist (List.Sublist.append_right s1 _))
              | un o => cases hd
              | io a => cases hd
              | al r p => cases hd
              | xn C ns xs => cases hd
          · cases hr
        · rename_i r' p' _ heq
          cases heq
          split at hr
          · rename_i d' l' g'' hcv
            cases hr
            exact frz r p rfl d l' g'' hcv
          · cases hr
end VL
set_option Elab.async false
set_option linter.all false
set_option maxRecDepth 100000
set_option maxHeartbeats 1000000
namespace VL
open GL (PV OB Sto Nm BT lim)
open PySem (PyData Builtin)
variable {F F' F'' : FM} {S S' S'' : Sto} {as as' as'' ag ag' ag'' : List AV} {x0 x1 x2 : List Nat}
inductive FOut where
  | ok (d : D) (ios : List D)
  | exc (e : Exn) (ios : List D)
  | bad
abbrev MF := List V → List D → FOut
def ioD : Ls → Option (List D)
  | [] => some []
  | some (.io d) :: r => (ioD r).map (d :: ·)
  | _ => none
def endF (gh : Ls) (f : List D → FOut) : FOut := match ioD gh with
  | some ios => f ios
  | none => .bad
def fnOf (np n : Nat) (m : MS) : MF := fun vs hs => if vs.length = np then (match m (vs.map some ++ List.replicate (n - np) none) (hs.map fun d => some (.io d)) with
  | .nx _ gh => endF gh fun ios => .ok .non ios
  | .rt d gh => endF gh fun ios => .ok d ios
  | .exc e _ gh => endF gh fun ios => .exc e ios
  | _ => .bad) else .bad
def SimFn (f : GL.MF) (p : MF) : Prop := ∀ (F : FM) (S : Sto) (cs : List AV) (hs : List A) (vs : List V) (ws : List PV), Good F S cs (hs.map .io) → erS cs = vs.map some → (∀ ad, glS cs (hs.map .io) ad cs = ws.map some) → match p vs (hs.map A.er) with
  | .ok d ios => ∃ (F' : FM) (S' : Sto) (hs' : List A) (a : A), hs'.map A.er = ios ∧ A.er a = d ∧ f ws S = .ok a.pv S' ∧ a.ok F' S' ∧ Sv F S cs (hs.map .io) [] F' S' [] (hs'.map .io) a.fp
  | .exc e ios => ∃ (F' : FM) (S' : Sto) (hs' : List A) (x : AE), hs'.map A.er = ios ∧ AE.er x = e ∧ f ws S = .exc x.gl S' ∧ x.ok F' S' ∧ Sv F S cs (hs.map .io) [] F' S' [] (hs'.map .io) []
  | .bad => True
theorem ioD_er : ∀ {ag : List AV} {ios : List D}, ioD (erS ag) = some ios → ∃ hs : List A, ag = hs.map .io ∧ hs.map A.er = ios
  | [], ios, h => by cases h; exact ⟨[], rfl, rfl⟩
  | z :: r, ios, h => by
    cases z with
    | io a =>
      have h : (ioD (erS r)).map (a.er :: ·) = some ios := h
      obtain ⟨ds, hd, rfl⟩ := Option.map_eq_some_iff.mp h
      obtain ⟨hs, rfl, rfl⟩ := ioD_er hd
      exact ⟨a :: hs, rfl, rfl⟩
    | _ => cases h
theorem fpS_un (zs : List AV) (n : Nat) : fpS (zs ++ List.replicate n (.un none)) = fpS zs := by
  rw [fpS_app]
  have : fpS (List.replicate n (AV.un none)) = [] := by
    unfold fpS
    rw [List.flatMap_eq_nil_iff]
    intro z hz
    rw [List.eq_of_mem_replicate hz]; rfl
  rw [this, List.append_nil]
theorem root_un (zs : List AV) (n : Nat) (ag : List AV) (r : Rt) : rootA (zs ++ List.replicate n (.un none)) ag r = rootA zs ag r := by
  cases r with
  | g j => rfl
  | l i =>
    show slotA (zs ++ _)[i]? = slotA zs[i]?
    by_cases h : i < zs.length
    · rw [List.getElem?_append_left h]
    · rw [List.getElem?_append_right (Nat.le_of_not_lt h), List.getElem?_eq_none_iff.mpr (Nat.le_of_not_lt h), List.getElem?_replicate]
      split <;> rfl
theorem good_un (n : Nat) (g : Good F S as ag) : Good F S (as ++ List.replicate n (.un none)) ag := by
  have mem : ∀ z ∈ (as ++ List.replicate n (.un none)) ++ ag, z = .un none ∨ z ∈ as ++ ag := fun z h => by
    rcases List.mem_append.mp h with h | h
    · rcases List.mem_append.mp h with h | h
      · exact .inr (List.mem_append_left _ h)
      · exact .inl (List.eq_of_mem_replicate h)
    · exact .inr (List.mem_append_right _ h)
  refine ⟨g.fs, fun z h => ?_, ?_, fun z h => ?_⟩
  · rcases mem z h with rfl | h
    · trivial
    · exact g.ok z h
  · rw [fpS_app, fpS_un, ← fpS_app]; exact g.nd
  · rcases mem z h with rfl | h
    · trivial
    · have := g.al z h
      cases z with
      | al r p =>
        show (atA _ ag r p).isSome = true
        unfold atA
        rw [root_un]; exact this
      | _ => trivial
theorem glS_un (n : Nat) (ad : AD) (zs : List AV) : glS (as ++ List.replicate n (.un none)) ag ad zs = glS as ag ad zs := by
  refine List.map_congr_left fun z _ => ?_
  cases z with
  | al r p =>
    show (atA _ ag r p).map _ = (atA as ag r p).map _
    unfold atA
    rw [root_un]
  | _ => rfl
theorem sim_fn {np n : Nat} {m : GL.MS} {p : MS} (h : SimS (fun _ => m) p) : SimFn (GL.fnOf np n m) (fnOf np n p) := by
  intro F S cs hs vs ws g e1 e2
  unfold fnOf
  have lv : vs.length = ws.length := by
    have a := congrArg List.length e1
    have b := congrArg List.length (e2 (0, 0))
    simp [erS, glS] at a b
    omega
  by_cases hl : vs.length = np
  · rw [if_pos hl]
    have h2 := h F S (cs ++ List.replicate (n - np) (.un none)) (hs.map .io) (good_un _ g)
    have q1 : erS (cs ++ List.replicate (n - np) (.un none)) = vs.map some ++ List.replicate (n - np) none := by
      rw [← e1]
      simp [erS, AV.er]
    have q2 : erS (hs.map .io) = (hs.map A.er).map fun d => some (V.io d) := by
      simp [erS, List.map_map]
      exact fun _ _ => rfl
    have q3 : ∀ ad, glS (cs ++ List.replicate (n - np) (.un none)) (hs.map .io) ad (cs ++ List.replicate (n - np) (.un none)) = ws.map some ++ List.replicate (n - np) none := fun ad => by
      rw [glS_un, ← e2 ad]
      simp [glS, glv]
    simp only [q1, q2, q3] at h2
    have hf : ∀ o, m (ws.map some ++ List.replicate (n - np) none) S = o → GL.fnOf np n m ws S = (match o with
      | .nx _ S' => .ok .non S'
      | .rt w S' => .ok w S'
      | .exc e _ S' => .exc e S'
      | _ => .bad) := fun o ho => by
      unfold GL.fnOf
      rw [if_pos (lv ▸ hl), ho]
      all_goals (cases o <;> rfl)
    have lift : ∀ {F' : FM} {S' : Sto} {as' ag' : List AV} {x : List Nat}, Sv F S (cs ++ List.replicate (n - np) (.un none)) (hs.map .io) [] F' S' as' ag' x → Sv F S cs (hs.map .io) [] F' S' as' ag' x := fun sv =>
      ⟨sv.good, sv.nd, sv.lt, sv.mono, sv.len, fun k hk hx => sv.keep k hk (by rw [fpS_app, fpS_un, ← fpS_app]; exact hx), fun k hk => by
        have := sv.new k hk
        rwa [fpS_app, fpS_un, ← fpS_app] at this, fun ad => by rw [sv.gg, glS_un]⟩
    have dropL : ∀ {F' : FM} {S' : Sto} {as' : List AV} {hs' : List A}, Sv F S cs (hs.map .io) [] F' S' as' (hs'.map .io) [] → Sv F S cs (hs.map .io) [] F' S' [] (hs'.map .io) [] := fun {F' S' as' hs'} sv => by
      have e : (hs'.map AV.io).map (dropA as' (hs'.map .io)) = hs'.map .io := by
        rw [List.map_map]; exact List.map_congr_left fun _ _ => rfl
      have := sv.trans (sv_drop (x1 := []) sv.good sv.nd sv.lt (by
        have := sv.good.nd
        rw [fpS_app] at this
        rw [List.append_nil]; exact (List.nodup_append.mp this).2.1) (fun n h => by cases h) (fun n h => by cases h))
      rwa [e] at this
    cases hp : p (vs.map some ++ List.replicate (n - np) none) ((hs.map A.er).map fun d => some (V.io d)) with
    | bad => trivial
    | bk ls gh => trivial
    | ct ls gh => trivial
    | nx ls gh =>
      rw [hp] at h2
      obtain ⟨F', S', as', ag', rfl, rfl, a3, sv⟩ := h2
      show match endF (erS ag') _ with | .ok d ios => _ | .exc e ios => _ | .bad => True
      unfold endF
      cases hi : ioD (erS ag') with
      | none => trivial
      | some ios =>
        obtain ⟨hs', rfl, rfl⟩ := ioD_er hi
        exact ⟨F', S', hs', .sc .non, rfl, rfl, hf _ (a3 (0, 0)), trivial, dropL (lift sv)⟩
    | rt d gh =>
      rw [hp] at h2
      obtain ⟨F', S', ag', a, rfl, rfl, a3, aok, sv⟩ := h2
      show match endF (erS ag') _ with | .ok d ios => _ | .exc e ios => _ | .bad => True
      unfold endF
      cases hi : ioD (erS ag') with
      | none => trivial
      | some ios =>
        obtain ⟨hs', rfl, rfl⟩ := ioD_er hi
        exact ⟨F', S', hs', a, rfl, rfl, hf _ (a3 (0, 0)), aok, lift sv⟩
    | exc e ls gh =>
      rw [hp] at h2
      obtain ⟨F', S', as', ag', x, rfl, rfl, rfl, a3, xok, sv⟩ := h2
      show match endF (erS ag') _ with | .ok d ios => _ | .exc e ios => _ | .bad => True
      unfold endF
      cases hi : ioD (erS ag') with
      | none => trivial
      | some ios =>
        obtain ⟨hs', rfl, rfl⟩ := ioD_er hi
        exact ⟨F', S', hs', x, rfl, rfl, hf _ (a3 (0, 0)), xok, dropL (lift sv)⟩
  · rw [if_neg hl]; trivial
def callD (fn : MF) (vs : List V) (ls gh : Ls) : Out RV := match fn vs [] with
  | .ok d _ => .ok (.v d) ls gh
  | .exc e _ => .exc e ls gh
  | .bad => .bad
theorem v_list (xs : List A) : erS (xs.map .v) = ((A.ers xs).map V.v).map some := by
  rw [ers_map, erS, List.map_map, List.map_map, List.map_map]; rfl
theorem v_gl (as0 ag0 : List AV) (ad : AD) (xs : List A) : glS as0 ag0 ad (xs.map .v) = (A.pvs xs).map some := by
  rw [pvs_map, glS, List.map_map, List.map_map]; rfl
theorem v_fp (xs : List A) : fpS (xs.map .v) = A.fps xs := by rw [fps_map, fpS, List.flatMap_map]; rfl
theorem good_v (g : Good F S as ag) {xs : List A} (ok : A.oks F S xs) (nd : (A.fps xs).Nodup) : Good F S (xs.map .v) [] := by
  refine ⟨g.fs, fun z h => ?_, ?_, fun z h => ?_⟩
  · obtain ⟨x, hx, rfl⟩ := List.mem_map.mp (by simpa using h)
    exact (oks_iff xs).mp ok x hx
  · rw [List.append_nil, v_fp]; exact nd
  · obtain ⟨x, hx, rfl⟩ := List.mem_map.mp (by simpa using h)
    trivial
theorem call_sim {f : GL.MF} {fn : MF} (hf : SimFn f fn) (g : Good F S as ag) (nd : (fpS (as ++ ag) ++ x0).Nodup) (lt : ∀ n ∈ x0, n < S.length) {xs : List A} (ok : A.oks F S xs) (ndx : (A.fps xs).Nodup) (sub : ∀ n ∈ A.fps xs, n ∈ x0) :
    SimO true RE F S as ag x0 (fun _ => f (A.pvs xs) S) (callD fn ((A.ers xs).map .v) (erS as) (erS ag)) := by
  have h := hf F S (xs.map .v) [] ((A.ers xs).map .v) (A.pvs xs) (good_v g ok ndx) (v_list xs) (fun ad => v_gl _ _ ad xs)
  unfold callD
  simp only [List.map_nil] at h
  cases hp : fn ((A.ers xs).map .v) [] with
  | bad => trivial
  | exc e ios =>
    rw [hp] at h
    obtain ⟨F', S', hs', x, _, rfl, a3, xok, sv⟩ := h
    refine ⟨F', S', as, ag, x, rfl, rfl, rfl, fun _ => a3, xok, ?_⟩
    exact ev_same g nd sv.mono sv.good.fs sv.len (fun n hn hx => sv.keep n hn (by rw [List.append_nil, List.append_nil, v_fp]; exact fun h => hx (sub n h))) List.nodup_nil (fun n h => by cases h) (fun n h => by cases h)
  | ok d ios =>
    rw [hp] at h
    obtain ⟨F', S', hs', a, _, rfl, a3, aok, sv⟩ := h
    refine ⟨F', S', as, ag, .v a, a.pv, rfl, rfl, rfl, fun _ => a3, rfl, aok, ?_⟩
    refine ev_same g nd sv.mono sv.good.fs sv.len (fun n hn hx => sv.keep n hn (by rw [List.append_nil, List.append_nil, v_fp]; exact fun h => hx (sub n h))) ((List.nodup_append.mp sv.nd).2.1) (fun n h => ?_) sv.lt
    rcases sv.new n (List.mem_append_right _ h) with u | u
    · rw [List.append_nil, List.append_nil, v_fp] at u
      exact .inl (sub n u)
    · exact .inr u
def eCall (fn : MF) (dws : List PV) (args : PA) : PE := fun ls gh => (args ls gh).bind fun xs ls gh => match cvL true xs ls gh with
  | some (ds, ls, gh) => callD fn ((ds ++ dOfs dws).map .v) ls gh
  | none => .bad
section
variable {q : Bool} {mr : AD → GL.MA} {pr : PA} {f : GL.MF} {fn : MF} {dws : List PV}
theorem call_args (hf : SimFn f fn) (hd : rigs dws = true) (g : Good F S as ag) {cs : List ARV} {ws : List PV} (nd : (fpS (as ++ ag) ++ RA.fp cs).Nodup) (lt : ∀ n ∈ RA.fp cs, n < S.length) (h1 : RA.pv as ag cs = some ws) (h2 : RA.ok F S cs) :
    SimO true RE F S as ag (RA.fp cs) (fun _ => f (ws ++ dws) S) (match cvL true (cs.map ARV.er) (erS as) (erS ag) with
      | some (ds, ls, gh) => callD fn ((ds ++ dOfs dws).map .v) ls gh
      | none => .bad) := by
  cases hc : cvL true (cs.map ARV.er) (erS as) (erS ag) with
  | none => trivial
  | some t =>
    obtain ⟨ds, l2, g2⟩ := t
    obtain ⟨F2, as2, ag2, xs, rfl, rfl, rfl, rfl, xok, xfp, ev⟩ := cvL_sim g nd lt h1 h2 hc
    refine SimO.pre ev ?_
    have e1 : A.ers xs ++ dOfs dws = A.ers (xs ++ aOfs dws) := by rw [ers_app, aOfs_er]
    have e2 : A.pvs xs ++ dws = A.pvs (xs ++ aOfs dws) := by rw [pvs_app, aOfs_pv hd]
    have e3 : A.fps (xs ++ aOfs dws) = A.fps xs := by rw [fps_app, (aOfs_fp (F := F) (S := S) dws).1, List.append_nil]
    dsimp only
    rw [e1, e2]
    exact call_sim hf ev.good ev.nd ev.lt (oks_app xok (aOfs_fp dws).2) (by rw [e3]; exact (List.nodup_append.mp ev.nd).2.1) (by rw [e3]; exact fun n h => h)
theorem sim_call (hf : SimFn f fn) (hd : rigs dws = true) (h : SimA q mr pr) : SimE q (fun ad => GL.eCall f dws (mr ad)) (eCall fn dws pr) := fun F S as ag gd =>
  SimO.weak (sim_first (R' := RE) (q' := true) (k := fun xs ls gh => match cvL true xs ls gh with
  | some (ds, ls, gh) => callD fn ((ds ++ dOfs dws).map .v) ls gh
  | none => .bad) (f := fun ad ws S1 => f (ws ++ dws) S1) h gd (fun _ => rfl) fun F1 S1 as1 ag1 cs ws h1 h2 g1 n1 l1 L1 => call_args hf hd g1 n1 l1 h1 h2) (by simp)
def isIns (C m : Nm) : D → Bool
  | .nd _ (.ins D ns) _ => decide (D = C) && (idxN m ns).isNone
  | _ => false
def eMeth (C m : Nm) (fn : MF) (dws : List PV) (o : PE) (args : PA) : PE := fun ls gh => (o ls gh).bind fun x ls gh => match val x ls gh with
  | some d => if isIns C m d = true then (args ls gh).bind fun xs ls gh => (match cvL true (x :: xs) ls gh with
    | some (ds, ls, gh) => callD fn ((ds ++ dOfs dws).map .v) ls gh
    | none => .bad) else .bad
  | none => .bad
def gMeth (C m : Nm) (ad : AD) (f : GL.MF) (dws : List PV) (mr : AD → GL.MA) (L : GL.Ls) (w : PV) (S1 : Sto) : GL.Out PV := match GL.insAt S1 w with
  | some (_, D, fs) => if D = C then (match GL.lookN m fs with
    | none => (mr ad L S1).bind fun ws S2 => f (w :: (ws ++ dws)) S2
    | some _ => .bad) else .bad
  | none => .bad
theorem isIns_gl {C m : Nm} {a : A} (fs : FS F S) (ok : a.ok F S) (h : isIns C m a.er = true) : ∃ n fs', GL.insAt S a.pv = some (n, C, fs') ∧ GL.lookN m fs' = none := by
  cases a with
  | sc s => cases h
  | tup xs => cases h
  | nd k n hd xs =>
    cases hd with
    | ins D ns =>
      obtain ⟨h1, h2⟩ := Bool.and_eq_true_iff.mp (show (decide (D = C) && (idxN m ns).isNone) = true from h)
      have e := of_decide_eq_true h1
      subst e
      have ob := obj_of fs ok
      have hw : ns.length = xs.length := by simpa [Hd.wf] using wf_of ok
      refine ⟨n, ns.zip (A.pvs xs), ?_, ?_⟩
      · have ob := AtU.ins ob
        simp only [GL.insAt, A.pv, ob, mkO]
      · rw [lookN_zip ns _ (by rw [pvs_len]; exact hw), Option.isNone_iff_eq_none.mp h2]; rfl
    | _ => cases h
theorem sim_meth {C m : Nm} {qa : Bool} {ma : AD → GL.ME} {pa : PE} (hf : SimFn f fn) (hd : rigs dws = true) (ha : SimE qa ma pa) (hr : SimA true mr pr) : SimE qa (fun ad => GL.eMeth C m f dws (ma ad) (mr ad)) (eMeth C m fn dws pa pr) := fun F S as ag gd =>
  SimO.weak (sim_first (R' := RE) (q' := true && true) (k := fun (x : RV) (ls gh : Ls) => match val x ls gh with
  | some d => if isIns C m d = true then (pr ls gh).bind fun xs ls gh => (match cvL true (x :: xs) ls gh with
    | some (ds, ls, gh) => callD fn ((ds ++ dOfs dws).map .v) ls gh
    | none => .bad) else .bad
  | none => .bad) (f := fun ad w S1 => gMeth C m ad f dws mr (glS as ag ad as) w S1) ha gd (fun _ => rfl) fun F1 S1 as1 ag1 c w h1 h2 g1 n1 l1 L1 => by
    split
    · rename_i d e
      obtain ⟨a, rfl, rfl, aok, hc⟩ := val_er c e h1 g1 h2
      by_cases hi : isIns C m a.er = true
      · rw [if_pos hi]
        obtain ⟨n, fs', e1, e2⟩ := isIns_gl g1.fs aok hi
        have eg : ∀ ad, gMeth C m ad f dws mr (glS as ag ad as) a.pv S1 = (mr ad (glS as ag ad as) S1).bind fun ws S2 => f (a.pv :: (ws ++ dws)) S2 := fun ad => by
          unfold gMeth
          simp only [e1, e2, if_true]
        simp only [eg]
        refine sim_next (R0 := RE) (R := RA) (R' := RE) (k := fun xs ls gh => (match cvL true (RE.er c :: xs) ls gh with
    | some (ds, ls, gh) => callD fn ((ds ++ dOfs dws).map .v) ls gh
    | none => .bad)) (f := fun ad ws S2 => f (a.pv :: (ws ++ dws)) S2) hr g1 c h1 h2 n1 l1 (stab_re true c (.inl rfl)) L1 fun F2 S2 as2 ag2 cs ws h1 h2 h3 h4 g2 n2 l2 L2 => ?_
        exact call_args (cs := c :: cs) (ws := a.pv :: ws) hf hd g2 n2 l2 (seqO_mk h1 h3) (fun c' hc' => by
          rcases List.mem_cons.mp hc' with rfl | h
          · exact h2
          · exact h4 c' h)
      · rw [if_neg hi]; trivial
    · trivial) (by simp)
def makeD (fn : MF) (C : Nm) (ds : List D) (ls gh : Ls) : Out RV := match fn (.al (.g 0) [] :: ds.map .v) [.nd .ow (.ins C []) []] with
  | .ok (.sc .non) [d] => .ok (.v d) ls gh
  | .exc e [_] => .exc e ls gh
  | _ => .bad
theorem make_sim {C : Nm} (hf : SimFn f fn) (g : Good F S as ag) (nd : (fpS (as ++ ag) ++ x0).Nodup) (lt : ∀ n ∈ x0, n < S.length) {xs : List A} (ok : A.oks F S xs) (ndx : (A.fps xs).Nodup) (sub : ∀ n ∈ A.fps xs, n ∈ x0) :
    SimO true RE F S as ag x0 (fun _ => (f (.loc S.length :: A.pvs xs) (S ++ [.ins C []])).bind fun r S2 => match r with
      | .non => .ok (.loc S.length) S2
      | _ => .bad) (makeD fn C (A.ers xs) (erS as) (erS ag)) := by
  have lx : ∀ n ∈ A.fps xs, n < S.length := fun n hn => lt n (sub n hn)
  have hF : F S.length = none := by
    cases hf : F S.length with
    | none => rfl
    | some z =>
      obtain ⟨b, o⟩ := z
      have := (g.fs _ _ _ hf).lt
      omega
  have gr : ∀ n, n < S.length → (S ++ [OB.ins C []])[n]? = S[n]? := fun n hn => List.getElem?_append_left hn
  have fs : FS F (S ++ [OB.ins C []]) := fun n b o e => by
    have := g.fs n b o e
    exact this.to (gr n this.lt)
  have ok' : A.oks F (S ++ [OB.ins C []]) xs := by
    rw [oks_iff] at ok ⊢
    exact fun x hx => ok_frame Mono.refl (fun n hn => ⟨rfl, gr n (lx n (by rw [fps_map]; exact List.mem_flatMap.mpr ⟨x, hx, hn⟩))⟩) (ok x hx)
  have nok : (A.nd .ow S.length (.ins C []) []).ok F (S ++ [OB.ins C []]) := by
    simp only [A.ok]
    exact ⟨⟨hF, by rw [List.getElem?_append_right (Nat.le_refl _)]; simp [mkO]⟩, rfl, trivial⟩
  let cs : List AV := .al (.g 0) [] :: xs.map .v
  let hs : List A := [.nd .ow S.length (.ins C []) []]
  have fpc : fpS (cs ++ hs.map .io) = A.fps xs ++ [S.length] := by
    show fpS ((.al (.g 0) [] :: xs.map .v) ++ [.io (.nd .ow S.length (.ins C []) [])]) = _
    rw [fpS_app, fpS_cons, v_fp]
    simp [AV.fp, fpS, A.fp, A.fps]
  have gc : Good F (S ++ [OB.ins C []]) cs (hs.map .io) := by
    refine ⟨fs, fun z h => ?_, ?_, fun z h => ?_⟩
    · rcases List.mem_append.mp h with h | h
      · rcases List.mem_cons.mp h with rfl | h
        · trivial
        · obtain ⟨x, hx, rfl⟩ := List.mem_map.mp h
          exact (oks_iff xs).mp ok' x hx
      · obtain ⟨x, hx, rfl⟩ := List.mem_map.mp h
        rw [List.mem_singleton.mp hx]
        exact nok
    · rw [fpc]
      refine List.nodup_append.mpr ⟨ndx, by simp, fun n h m h' e => ?_⟩
      rw [List.mem_singleton.mp h'] at e
      have := lx n h
      omega
    · rcases List.mem_append.mp h with h | h
      · rcases List.mem_cons.mp h with rfl | h
        · rfl
        · obtain ⟨x, hx, rfl⟩ := List.mem_map.mp h
          trivial
      · obtain ⟨x, hx, rfl⟩ := List.mem_map.mp h
        trivial
  have h := hf F (S ++ [OB.ins C []]) cs hs (.al (.g 0) [] :: (A.ers xs).map .v) (.loc S.length :: A.pvs xs) gc (by
      show AV.er _ :: erS (xs.map .v) = _
      rw [v_list]; rfl) (fun ad => by
      show glv _ _ ad (.al (.g 0) []) :: glS _ _ ad (xs.map .v) = _
      rw [v_gl]; rfl)
  have hs_er : hs.map A.er = [D.nd .ow (.ins C []) []] := rfl
  rw [hs_er] at h
  unfold makeD
  have lift : ∀ {F' : FM} {S' : Sto} {hs' : List A} {x y : List Nat}, Sv F (S ++ [OB.ins C []]) cs (hs.map .io) [] F' S' [] (hs'.map .io) x → y.Nodup → (∀ n ∈ y, n ∈ fpS ([] ++ hs'.map .io) ++ x) → (∀ n ∈ y, n < S'.length) → Ev true F S as ag x0 F' S' as ag y := fun {F' S' hs' x y} sv ndy sy ly => by
    refine ev_same g nd sv.mono sv.good.fs (Nat.le_trans (by simp) sv.len) (fun n hn hx => ?_) ndy (fun n h => ?_) ly
    · have := sv.keep n (by rw [List.length_append]; omega) (by
        rw [List.append_nil, fpc]
        intro hq
        rcases List.mem_append.mp hq with u | u
        · exact hx (sub n u)
        · rw [List.mem_singleton.mp u] at hn; omega)
      rw [gr n hn] at this
      exact this
    · rcases sv.new n (sy n h) with u | u
      · rw [List.append_nil, fpc] at u
        rcases List.mem_append.mp u with u | u
        · exact .inl (sub n u)
        · rw [List.mem_singleton.mp u]; exact .inr (Nat.le_refl _)
      · rw [List.length_append] at u; exact .inr (by omega)
  split
  · rename_i d hp
    rw [hp] at h
    obtain ⟨F', S', hs', a, e1, e2, a3, aok, sv⟩ := h
    have hs1 : ∃ b, hs' = [b] ∧ b.er = d := by
      cases hs' with
      | nil => cases e1
      | cons b r =>
        cases r with
        | nil => simp at e1; exact ⟨b, rfl, e1⟩
        | cons _ _ => cases e1
    obtain ⟨b, rfl, rfl⟩ := hs1
    have ha : a = .sc .non := er_sc e2
    subst ha
    have hb : b.pv = .loc S.length := by
      have := sv.gg (0, 0)
      have h1 : some b.pv = some (PV.loc S.length) := by
        have := congrArg (fun l : List (Option PV) => l.head?) this
        simpa [glS, glv, A.pv, hs] using this
      exact Option.some.inj h1
    have bok : b.ok F' S' := sv.good.ok (.io b) (by simp)
    refine ⟨F', S', as, ag, .v b, .loc S.length, rfl, rfl, rfl, fun _ => ?_, by show some b.pv = _; rw [hb], bok, ?_⟩
    · show (f (.loc S.length :: A.pvs xs) (S ++ [.ins C []])).bind _ = _
      rw [a3]; rfl
    · show Ev true F S as ag x0 F' S' as ag b.fp
      have fpb : fpS ([] ++ [AV.io b]) = b.fp := by simp [fpS, AV.fp]
      refine lift sv ?_ (fun n h => ?_) (fun n h => fp_lt sv.good.fs bok n h)
      · have := sv.good.nd
        rw [show ([b].map AV.io) = [AV.io b] from rfl, fpb] at this; exact this
      · rw [show ([b].map AV.io) = [AV.io b] from rfl, fpb]; exact List.mem_append_left _ h
  · rename_i e d hp
    rw [hp] at h
    obtain ⟨F', S', hs', x, e1, rfl, a3, xok, sv⟩ := h
    refine ⟨F', S', as, ag, x, rfl, rfl, rfl, fun _ => ?_, xok, lift sv List.nodup_nil (fun n h => by cases h) (fun n h => by cases h)⟩
    show (f (.loc S.length :: A.pvs xs) (S ++ [.ins C []])).bind _ = _
    rw [a3]; rfl
  · trivial
def eMake (C : Nm) (fn : MF) (dws : List PV) (args : PA) : PE := fun ls gh => (args ls gh).bind fun xs ls gh => match cvL true xs ls gh with
  | some (ds, ls, gh) => makeD fn C (ds ++ dOfs dws) ls gh
  | none => .bad
theorem sim_make {C : Nm} (hf : SimFn f fn) (hd : rigs dws = true) (h : SimA q mr pr) : SimE q (fun ad => GL.eMake C f dws (mr ad)) (eMake C fn dws pr) := fun F S as ag gd =>
  SimO.weak (sim_first (R' := RE) (q' := true) (k := fun xs ls gh => match cvL true xs ls gh with
  | some (ds, ls, gh) => makeD fn C (ds ++ dOfs dws) ls gh
  | none => .bad) (f := fun ad ws S1 => (f (.loc S1.length :: (ws ++ dws)) (S1 ++ [.ins C []])).bind fun r S2 => match r with
    | .non => .ok (.loc S1.length) S2
    | _ => .bad) h gd (fun _ => rfl) fun F1 S1 as1 ag1 cs ws h1 h2 g1 n1 l1 L1 => by
    cases hc : cvL true (RA.er cs) (erS as1) (erS ag1) with
    | none => simp only [hc]; trivial
    | some t =>
      obtain ⟨ds, l2, g2⟩ := t
      obtain ⟨F2, as2, ag2, xs, rfl, rfl, rfl, rfl, xok, xfp, ev⟩ := cvL_sim g1 n1 l1 h1 h2 hc
      simp only [hc]
      refine SimO.pre ev ?_
      have e1 : A.ers xs ++ dOfs dws = A.ers (xs ++ aOfs dws) := by rw [ers_app, aOfs_er]
      have e2 : A.pvs xs ++ dws = A.pvs (xs ++ aOfs dws) := by rw [pvs_app, aOfs_pv hd]
      have e3 : A.fps (xs ++ aOfs dws) = A.fps xs := by rw [fps_app, (aOfs_fp (F := F) (S := S) dws).1, List.append_nil]
      rw [e1, e2]
      exact make_sim hf ev.good ev.nd ev.lt (oks_app xok (aOfs_fp dws).2) (by rw [e3]; exact (List.nodup_append.mp ev.nd).2.1) (by rw [e3]; exact fun n h => h)) (by simp)
end
end VL
set_option Elab.async false
set_option linter.all false
set_option maxRecDepth 100000
set_option maxHeartbeats 1000000
namespace VL
open GL (PV OB Sto Nm BT lim)
open PySem (PyData Builtin)
variable {F F' F'' : FM} {S S' S'' : Sto} {as as' as'' ag ag' ag'' : List AV} {x0 x1 x2 : List Nat}
abbrev MG := RV → Ls → Ls → Option (Ls × Ls)
abbrev MGs := List D → Ls → Ls → Option (Ls × Ls)
def gN (i : Nat) : MG := setL i
def gsNil : MGs := fun ds ls gh => match ds with
  | [] => some (ls, gh)
  | _ => none
def gsCons (g : MG) (r : MGs) : MGs := fun ds ls gh => match ds with
  | d :: t => (match g (.v d) ls gh with
    | some z => r t z.1 z.2
    | none => none)
  | [] => none
def gT (r : MGs) : MG := fun x ls gh => match x with
  | .v (.tup ds) => r ds ls gh
  | _ => none
def Apart (vs : List Nat) (as ag as' ag' : List AV) : Prop := (∀ ad j, j ∉ vs → (glS as' ag' ad as')[j]? = (glS as ag ad as)[j]?) ∧ (∀ r, (∀ v ∈ vs, r ≠ .l v) → rootA as' ag' r = rootA as ag r) ∧ as'.length = as.length
theorem Apart.refl {vs : List Nat} : Apart vs as ag as ag := ⟨fun _ _ _ => rfl, fun _ _ => rfl, rfl⟩
theorem Apart.trans {vs : List Nat} (a : Apart vs as ag as' ag') (b : Apart vs as' ag' as'' ag'') : Apart vs as ag as'' ag'' := ⟨fun ad j h => (b.1 ad j h).trans (a.1 ad j h), fun r h => (b.2.1 r h).trans (a.2.1 r h), b.2.2.trans a.2.2⟩
def SimGt (vs : List Nat) (gg : GL.MG) (g : MG) : Prop := ∀ (F : FM) (S : Sto) (as ag : List AV) (c : ARV) (w : PV) (ls' gh' : Ls), Good F S as ag → (fpS (as ++ ag) ++ c.fp).Nodup → (∀ n ∈ c.fp, n < S.length) → c.pv as ag = some w → c.ok F S → g c.er (erS as) (erS ag) = some (ls', gh') →
  ∃ as' ag', erS as' = ls' ∧ erS ag' = gh' ∧ (∀ ad, gg w (glS as ag ad as) = some (glS as' ag' ad as')) ∧ Apart vs as ag as' ag' ∧ Sv F S as ag c.fp F S as' ag' []
def SimGs (vs : List Nat) (gg : GL.MGs) (g : MGs) : Prop := ∀ (F : FM) (S : Sto) (as ag : List AV) (ks : List A) (ls' gh' : Ls), Good F S as ag → A.fps ks = [] → A.oks F S ks → g (A.ers ks) (erS as) (erS ag) = some (ls', gh') →
  ∃ as' ag', erS as' = ls' ∧ erS ag' = gh' ∧ (∀ ad, gg (A.pvs ks) (glS as ag ad as) = some (glS as' ag' ad as')) ∧ Apart vs as ag as' ag' ∧ Sv F S as ag [] F S as' ag' []
theorem sim_gN {vs : List Nat} {i : Nat} (h : i ∈ vs) : SimGt vs (GL.gN i) (gN i) := by
  intro F S as ag c w ls' gh' g nd lt hp hk e
  obtain ⟨as', ag', e1, e2, e3, e4, sv⟩ := setL_sim g nd lt hp hk e
  refine ⟨as', ag', e1, e2, fun ad => by rw [e3]; rfl, ⟨fun ad j hj => ?_, fun r hr => e4 r (hr i h), by have := congrArg List.length (e3 (0, 0)); simpa [glS] using this⟩, sv⟩
  rw [e3, List.getElem?_set_ne]
  exact fun q => hj (q ▸ h)
theorem sim_gsnil {vs : List Nat} : SimGs vs GL.gsNil gsNil := by
  intro F S as ag ks ls' gh' g _ _ e
  cases ks with
  | nil => cases e; exact ⟨as, ag, rfl, rfl, fun _ => rfl, .refl, Sv.refl g⟩
  | cons _ _ => cases e
theorem sim_gscons {vs : List Nat} {gg : GL.MG} {g : MG} {gr : GL.MGs} {r : MGs} (hg : SimGt vs gg g) (hr : SimGs vs gr r) : SimGs vs (GL.gsCons gg gr) (gsCons g r) := by
  intro F S as ag ks ls' gh' gd fk ok e
  cases ks with
  | nil => cases e
  | cons k t =>
    have e : (match g (.v k.er) (erS as) (erS ag) with
      | some z => r (A.ers t) z.1 z.2
      | none => none) = some (ls', gh') := e
    have fk : k.fp ++ A.fps t = [] := fk
    obtain ⟨f1, f2⟩ := List.append_eq_nil_iff.mp fk
    cases hc : g (.v k.er) (erS as) (erS ag) with
    | none => rw [hc] at e; cases e
    | some z =>
      rw [hc] at e
      have ef : (ARV.v k).fp = [] := f1
      obtain ⟨as1, ag1, a1, a2, a3, a4, a5⟩ := hg F S as ag (.v k) k.pv z.1 z.2 gd (by rw [ef, List.append_nil]; exact gd.nd) (by rw [ef]; intro n h; cases h) rfl ok.1 hc
      dsimp only at e
      rw [← a1, ← a2] at e
      obtain ⟨as2, ag2, b1, b2, b3, b4, b5⟩ := hr F S as1 ag1 t ls' gh' a5.good f2 ok.2 e
      rw [ef] at a5
      refine ⟨as2, ag2, b1, b2, fun ad => ?_, a4.trans b4, a5.trans b5⟩
      show (match gg k.pv (glS as ag ad as) with | some ls1 => gr (A.pvs t) ls1 | none => none) = _
      rw [a3]; exact b3 ad
theorem sim_gT {vs : List Nat} {gr : GL.MGs} {r : MGs} (hr : SimGs vs gr r) : SimGt vs (GL.gT gr) (gT r) := by
  intro F S as ag c w ls' gh' g nd lt hp hk e
  unfold gT at e
  split at e
  · rename_i ds hc
    obtain ⟨a, rfl, ea, rfl⟩ := er_v hc hp
    obtain ⟨ks, rfl, rfl⟩ := er_tup ea
    have h : A.fps ks = [] ∧ A.oks F S ks := hk
    obtain ⟨as', ag', e1, e2, e3, e4, sv⟩ := hr F S as ag ks ls' gh' g h.1 h.2 e
    have ef : (ARV.v (.tup ks)).fp = [] := h.1
    rw [ef]
    exact ⟨as', ag', e1, e2, fun ad => e3 ad, e4, sv⟩
  · cases e
def RI : RT GL.Wk (List D) (List A × (Nat → Sto → Bool)) := ⟨fun c => A.ers c.1, fun _ _ c => some ⟨A.pvs c.1, c.2⟩, fun F S c => A.fps c.1 = [] ∧ A.oks F S c.1 ∧ ∀ F' S' j, Mono F F' → FS F' S' → c.2 j S' = true, fun _ => []⟩
abbrev PI := PX (List D)
abbrev SimI (q : Bool) (m : AD → GL.MI) (p : PI) : Prop := SimX q RI m p
mutual
theorem beq_self : ∀ w : PV, PV.beq w w = true
  | .tup xs => by rw [PV.beq]; exact beqs_self xs
  | .xn a b c d e => by simp [PV.beq, beqs_self e]
  | .non => rfl
  | .bl b => by simp [PV.beq]
  | .int _ => by simp [PV.beq]
  | .str _ => by simp [PV.beq]
  | .loc _ => by simp [PV.beq]
  | .gl _ => by simp [PV.beq]
  | .ty _ => by simp [PV.beq]
theorem beqs_self : ∀ w : List PV, PV.beqs w w = true
  | [] => rfl
  | x :: r => by simp [PV.beqs, beq_self x, beqs_self r]
end
def frzSeq (x : RV) (ls gh : Ls) : Option ((Kd × List D) × Ls × Ls) := match cvR false x ls gh with
  | some (d, ls, gh) => (seqD d).map fun k => (k, ls, gh)
  | none => none
def FzG (F : FM) : Kd → PV → List PV → Prop
  | .tup, w, ws => w = .tup ws
  | .lst, w, ws => ∃ n, w = .loc n ∧ F n = some (true, .lst ws)
  | .rol, w, ws => ∃ n, w = .loc n ∧ F n = some (true, .rol ws)
theorem frzSeq_sim {c : ARV} {w : PV} {k : Kd} {ds : List D} {ls' gh' : Ls} (g : Good F S as ag) (nd : (fpS (as ++ ag) ++ c.fp).Nodup) (lt : ∀ n ∈ c.fp, n < S.length) (hp : c.pv as ag = some w) (hk : c.ok F S) (h : frzSeq c.er (erS as) (erS ag) = some ((k, ds), ls', gh')) :
    ∃ (F' : FM) (as' ag' : List AV) (ks : List A), erS as' = ls' ∧ erS ag' = gh' ∧ A.ers ks = ds ∧ A.fps ks = [] ∧ A.oks F' S ks ∧ Ev true F S as ag c.fp F' S as' ag' [] ∧
      FzG F' k w (A.pvs ks) := by
  unfold frzSeq at h
  cases hc : cvR false c.er (erS as) (erS ag) with
  | none => rw [hc] at h; cases h
  | some t =>
    obtain ⟨d, l2, g2⟩ := t
    rw [hc] at h
    obtain ⟨F', as', ag', a, rfl, rfl, rfl, rfl, aok, afp, ev⟩ := cv_sim0 (k := false) g nd lt hp hk hc
    simp only [Option.map_eq_some_iff, Prod.mk.injEq] at h
    obtain ⟨z, hz, rfl, rfl, rfl⟩ := h
    have fz := afp rfl
    rw [fz] at ev
    cases a with
    | sc s => simp [A.er, seqD] at hz
    | tup xs =>
      simp only [A.er, seqD, Option.some.injEq, Prod.mk.injEq] at hz
      obtain ⟨rfl, rfl⟩ := hz
      have aok : A.fps xs = [] ∧ A.oks F' S xs := aok
      exact ⟨F', as', ag', xs, rfl, rfl, rfl, aok.1, aok.2, ev, rfl⟩
    | nd fl n hd xs =>
      cases fl with
      | ow => simp [A.fp] at fz
      | lk => simp [A.fp] at fz
      | fz =>
        simp only [A.ok] at aok
        cases hd with
        | lst =>
          simp only [A.er, seqD, Option.some.injEq, Prod.mk.injEq] at hz
          obtain ⟨rfl, rfl⟩ := hz
          exact ⟨F', as', ag', xs, rfl, rfl, rfl, aok.2.2.1, aok.2.2.2, ev, n, rfl, aok.1⟩
        | rol =>
          simp only [A.er, seqD, Option.some.injEq, Prod.mk.injEq] at hz
          obtain ⟨rfl, rfl⟩ := hz
          exact ⟨F', as', ag', xs, rfl, rfl, rfl, aok.2.2.1, aok.2.2.2, ev, n, rfl, aok.1⟩
        | dct ks => simp [A.er, seqD] at hz
        | dcn ks => simp [A.er, seqD] at hz
        | ptp => simp [A.er, seqD] at hz
        | ins C ns => simp [A.er, seqD] at hz
def kSeq (f : Kd → List D → Option (List D)) (x : RV) (ls gh : Ls) : Out (List D) := match frzSeq x ls gh with
  | some ((k, xs), ls, gh) => (match f k xs with
    | some ys => .ok ys ls gh
    | none => .bad)
  | none => .bad
def iSeq (m : PE) : PI := fun ls gh => (m ls gh).bind fun x ls gh => kSeq (fun _ xs => some xs) x ls gh
theorem fz_lst {n : Nat} {xs : List PV} (h : F n = some (true, .lst xs)) (j : Nat) : ∀ F' S', Mono F F' → FS F' S' → GL.isLst n xs j S' = true := fun F' S' m fs => by
  unfold GL.isLst
  rw [(fs _ _ _ (m _ _ _ h)).lst]; exact beqs_self xs
def gSeqI (w : PV) (S1 : Sto) : GL.Out GL.Wk := match w with
  | .tup xs => .ok ⟨xs, GL.always⟩ S1
  | .loc n => (match S1[n]? with
    | some (.lst xs) => .ok ⟨xs, GL.isLst n xs⟩ S1
    | some (.rol xs) => .ok ⟨xs, GL.always⟩ S1
    | _ => .bad)
  | _ => .bad
theorem sim_okI {q : Bool} (ev : Ev true F S as ag x0 F' S' as' ag' []) {ks : List A} {chk : Nat → Sto → Bool} {ds : List D} {ls gh : Ls} {o : AD → GL.Out GL.Wk} (ho : ∀ ad, o ad = .ok ⟨A.pvs ks, chk⟩ S') (e0 : A.ers ks = ds) (e1 : erS as' = ls) (e2 : erS ag' = gh) (fk : A.fps ks = []) (ok : A.oks F' S' ks) (hc : ∀ F'' S'' j, Mono F' F'' → FS F'' S'' → chk j S'' = true) :
    SimO q RI F S as ag x0 o (.ok ds ls gh) :=
  ⟨F', S', as', ag', (ks, chk), ⟨A.pvs ks, chk⟩, e1, e2, e0, ho, rfl, ⟨fk, ok, hc⟩, ev.weak fun _ => rfl⟩
section
variable {qa qb : Bool} {ma mb : AD → GL.ME} {pa pb : PE}
theorem sim_iseq (h : SimE qa ma pa) : SimI qa (fun ad => GL.iSeq (ma ad)) (iSeq pa) := fun F S as ag gd =>
  SimO.weak (sim_first (R' := RI) (q' := true) (k := fun x ls gh => kSeq (fun _ xs => some xs) x ls gh) (f := fun ad w S1 => gSeqI w S1) h gd (fun _ => rfl) fun F1 S1 as1 ag1 c w h1 h2 g1 n1 l1 L1 => by
    show SimO _ _ _ _ _ _ _ _ (kSeq (fun _ xs => some xs) c.er (erS as1) (erS ag1))
    unfold kSeq
    cases hc : frzSeq c.er (erS as1) (erS ag1) with
    | none => trivial
    | some t =>
      obtain ⟨⟨k, ds⟩, l2, g2⟩ := t
      obtain ⟨F2, as2, ag2, ks, e1, e2, e0, fk, ok, ev, hw⟩ := frzSeq_sim g1 n1 l1 h1 h2 hc
      cases k with
      | tup =>
        have hw : w = .tup (A.pvs ks) := hw
        subst hw
        exact sim_okI ev (ks := ks) (chk := GL.always) (fun _ => rfl) e0 e1 e2 fk ok (fun _ _ _ _ _ => rfl)
      | lst =>
        obtain ⟨n, rfl, hF⟩ := hw
        exact sim_okI ev (ks := ks) (chk := GL.isLst n (A.pvs ks)) (fun _ => by simp only [gSeqI, (ev.good.fs _ _ _ hF).lst]) e0 e1 e2 fk ok (fun F'' S'' j m fs => fz_lst hF j F'' S'' m fs)
      | rol =>
        obtain ⟨n, rfl, hF⟩ := hw
        exact sim_okI ev (ks := ks) (chk := GL.always) (fun _ => by simp only [gSeqI, (ev.good.fs _ _ _ hF).rol]) e0 e1 e2 fk ok (fun _ _ _ _ _ => rfl)) (by simp)
theorem rev_fp {xs : List A} (h : A.fps xs = []) : A.fps xs.reverse = [] := by
  rw [fps_map, List.flatMap_eq_nil_iff] at *
  exact fun x hx => h x (List.mem_reverse.mp hx)
theorem rev_ok {xs : List A} (h : A.oks F S xs) : A.oks F S xs.reverse := by
  rw [oks_iff] at *
  exact fun x hx => h x (List.mem_reverse.mp hx)
def rngD (lo hi : Int) : List D := (List.range (hi - lo).toNat).map fun (i : Nat) => D.int (lo + (i : Nat))
def rngI (lo hi : Int) : List Int := (List.range (hi - lo).toNat).map fun (i : Nat) => lo + (i : Nat)
theorem rng_er (lo hi : Int) : A.ers (aInts (rngI lo hi)) = rngD lo hi := by rw [aInts_er]; unfold rngI rngD; rw [List.map_map]; rfl
theorem rng_pv (lo hi : Int) : A.pvs (aInts (rngI lo hi)) = GL.rngL lo hi := by rw [aInts_pv]; unfold rngI GL.rngL; rw [List.map_map]; rfl
def k1R (x : RV) (ls gh : Ls) : Out (List D) := match x with
  | .v (.sc (.int j)) => if (decide (-GL.med ≤ j) && decide (j < GL.med)) = true then .ok (rngD 0 j) ls gh else .bad
  | _ => .bad
def iR1 (m : PE) : PI := fun ls gh => (m ls gh).bind fun x ls gh => k1R x ls gh
def g1R (w : PV) (S1 : Sto) : GL.Out GL.Wk := match w with
  | .int j => if (decide (-GL.med ≤ j) && decide (j < GL.med)) = true then .ok ⟨GL.rngL 0 j, GL.always⟩ S1 else .bad
  | _ => .bad
theorem sim_ir1 (h : SimE qa ma pa) : SimI qa (fun ad => GL.iR1 (ma ad)) (iR1 pa) := fun F S as ag gd =>
  SimO.weak (sim_first (R' := RI) (q' := true) (k := fun x ls gh => k1R x ls gh) (f := fun ad w S1 => g1R w S1) h gd (fun _ => rfl) fun F1 S1 as1 ag1 c w h1 h2 g1 n1 l1 L1 => by
    show SimO _ _ _ _ _ _ _ _ (k1R c.er (erS as1) (erS ag1))
    unfold k1R
    split
    · rename_i j e
      rw [er_vsc e h1]
      by_cases hl : (decide (-GL.med ≤ j) && decide (j < GL.med)) = true
      · rw [if_pos hl]
        refine sim_okI ((Ev.refl g1 n1 l1).sub (List.nil_sublist _)) (ks := aInts (rngI 0 j)) (chk := GL.always) (fun _ => ?_) (rng_er 0 j) rfl rfl (aInts_fp _) (aInts_ok _) (fun _ _ _ _ _ => rfl)
        simp only [g1R, Sc.pv, if_pos hl, rng_pv]
      · rw [if_neg hl]; trivial
    · trivial) (by simp)
end
def forV (g : MG) (body : MS) : List D → MS
  | [], ls, gh => .nx ls gh
  | d :: r, ls, gh => match g (.v d) ls gh with
    | none => .bad
    | some z => (match body z.1 z.2 with
      | .nx ls2 gh2 => forV g body r ls2 gh2
      | .ct ls2 gh2 => forV g body r ls2 gh2
      | .bk ls2 gh2 => .nx ls2 gh2
      | q => q)
theorem forV_sim {vs : List Nat} {gg : GL.MG} {g : MG} {mb : AD → GL.MS} {pb : MS} {chk : Nat → Sto → Bool} (hg : SimGt vs gg g) (hb : SimS mb pb) : ∀ (ks : List A) (i : Nat) (F : FM) (S : Sto) (as ag : List AV), Good F S as ag → A.fps ks = [] → A.oks F S ks → (∀ F' S' j, Mono F F' → FS F' S' → chk j S' = true) →
    SimSO F S as ag [] (fun ad => GL.forGo chk gg (mb ad) i (A.pvs ks) (glS as ag ad as) S) (forV g pb (A.ers ks) (erS as) (erS ag))
  | [], i, F, S, as, ag, gd, _, _, hc => by
    refine ⟨F, S, as, ag, rfl, rfl, fun ad => ?_, Sv.refl gd⟩
    show GL.forGo chk gg (mb ad) i [] _ S = _
    rw [GL.forGo, if_pos (hc F S i Mono.refl gd.fs)]
  | k :: t, i, F, S, as, ag, gd, fk, ok, hc => by
    have fk : k.fp ++ A.fps t = [] := fk
    obtain ⟨f1, f2⟩ := List.append_eq_nil_iff.mp fk
    have ef : (ARV.v k).fp = [] := f1
    show SimSO _ _ _ _ _ _ (match g (.v k.er) (erS as) (erS ag) with
    | none => .bad
    | some z => (match pb z.1 z.2 with
      | .nx ls2 gh2 => forV g pb (A.ers t) ls2 gh2
      | .ct ls2 gh2 => forV g pb (A.ers t) ls2 gh2
      | .bk ls2 gh2 => .nx ls2 gh2
      | q => q))
    cases hz : g (.v k.er) (erS as) (erS ag) with
    | none => trivial
    | some z =>
      obtain ⟨as1, ag1, a1, a2, a3, _, a5⟩ := hg F S as ag (.v k) k.pv z.1 z.2 gd (by rw [ef, List.append_nil]; exact gd.nd) (by rw [ef]; intro n h; cases h) rfl ok.1 hz
      rw [ef] at a5
      dsimp only
      rw [← a1, ← a2]
      have h2 := hb F S as1 ag1 a5.good
      have hgo : ∀ ad, GL.forGo chk gg (mb ad) i (A.pvs (k :: t)) (glS as ag ad as) S = (match mb ad (glS as1 ag1 ad as1) S with
        | .nx ls2 S2 => GL.forGo chk gg (mb ad) (i + 1) (A.pvs t) ls2 S2
        | .ct ls2 S2 => GL.forGo chk gg (mb ad) (i + 1) (A.pvs t) ls2 S2
        | .bk ls2 S2 => .nx ls2 S2
        | q => q) := fun ad => by
        show GL.forGo chk gg (mb ad) i (k.pv :: A.pvs t) _ S = _
        rw [GL.forGo, if_pos (hc F S i Mono.refl gd.fs), a3]
        all_goals (dsimp only; cases mb ad (glS as1 ag1 ad as1) S <;> rfl)
      refine SimSO.pre a5 ?_
      cases hp : pb (erS as1) (erS ag1) with
      | bad => trivial
      | nx ls gh =>
        rw [hp] at h2
        obtain ⟨F2, S2, as2, ag2, rfl, rfl, b3, sv⟩ := h2
        refine SimSO.pre sv ((forV_sim hg hb t (i + 1) F2 S2 as2 ag2 sv.good f2 (oks_mono sv.mono ok.2 f2) (fun F' S' j m fs => hc F' S' j (sv.mono.trans m) fs)).cg fun ad => ?_)
        rw [hgo]
        rw [show mb ad (glS as1 ag1 ad as1) S = _ from b3 ad]
      | ct ls gh =>
        rw [hp] at h2
        obtain ⟨F2, S2, as2, ag2, rfl, rfl, b3, sv⟩ := h2
        refine SimSO.pre sv ((forV_sim hg hb t (i + 1) F2 S2 as2 ag2 sv.good f2 (oks_mono sv.mono ok.2 f2) (fun F' S' j m fs => hc F' S' j (sv.mono.trans m) fs)).cg fun ad => ?_)
        rw [hgo]
        rw [show mb ad (glS as1 ag1 ad as1) S = _ from b3 ad]
      | bk ls gh =>
        rw [hp] at h2
        obtain ⟨F2, S2, as2, ag2, e1, e2, b3, sv⟩ := h2
        exact ⟨F2, S2, as2, ag2, e1, e2, fun ad => (hgo ad).trans (by rw [show mb ad (glS as1 ag1 ad as1) S = _ from b3 ad]), sv⟩
      | rt d gh =>
        rw [hp] at h2
        obtain ⟨F2, S2, ag2, a, e1, e2, b3, aok, sv⟩ := h2
        exact ⟨F2, S2, ag2, a, e1, e2, fun ad => (hgo ad).trans (by rw [show mb ad (glS as1 ag1 ad as1) S = _ from b3 ad]), aok, sv⟩
      | exc e ls gh =>
        rw [hp] at h2
        obtain ⟨F2, S2, as2, ag2, x, e1, e2, e3, b3, xok, sv⟩ := h2
        exact ⟨F2, S2, as2, ag2, x, e1, e2, e3, fun ad => (hgo ad).trans (by rw [show mb ad (glS as1 ag1 ad as1) S = _ from b3 ad]), xok, sv⟩
def sFor (it : PI) (g : MG) (body : MS) : MS := fun ls gh => (it ls gh).then fun ds ls gh => forV g body ds ls gh
theorem sim_for {vs : List Nat} {q : Bool} {mi : AD → GL.MI} {pi : PI} {gg : GL.MG} {g : MG} {mb : AD → GL.MS} {pb : MS} (hi : SimI q mi pi) (hg : SimGt vs gg g) (hb : SimS mb pb) : SimS (fun ad => GL.sFor (mi ad) gg (mb ad)) (sFor pi g pb) := fun F S as ag gd =>
  sim_then (R := RI) (f := fun ad t S1 => GL.forGo t.chk gg (mb ad) 0 t.items (glS as ag ad as) S1) (k := fun ds ls gh => forV g pb ds ls gh) hi gd (fun _ => rfl) fun F1 S1 as1 ag1 c w h1 h2 g1 n1 l1 L1 => by
    cases h1
    obtain ⟨fk, ok, hc⟩ := h2
    exact (forV_sim hg hb c.1 0 F1 S1 as1 ag1 g1 fk ok hc).cg fun ad => by show GL.forGo c.2 gg (mb ad) 0 (A.pvs c.1) (glS as ag ad as) S1 = _; rw [L1]
end VL
set_option Elab.async false
set_option linter.all false
set_option maxRecDepth 100000
set_option maxHeartbeats 1000000
namespace VL
open GL (PV OB Sto Nm BT lim)
open PySem (PyData Builtin)
variable {F F' F'' : FM} {S S' S'' : Sto} {as as' as'' ag ag' ag'' : List AV} {x0 x1 x2 : List Nat}
theorem RA_app {as ag : List AV} : ∀ {cs : List ARV} {c : ARV} {ws : List PV} {w : PV}, RA.pv as ag cs = some ws → c.pv as ag = some w → RA.pv as ag (cs ++ [c]) = some (ws ++ [w])
  | [], c, ws, w, h1, h2 => by cases h1; exact seqO_mk h2 rfl
  | d :: r, c, ws, w, h1, h2 => by
    obtain ⟨v, t, hv, ht, rfl⟩ := seqO_cons h1
    exact seqO_mk hv (RA_app (cs := r) ht h2)
theorem sim_thenN {ma : AD → GL.ME} {pa : PE} {f : AD → PV → Sto → GL.SOut} {k : RV → Ls → Ls → SOut} {L : AD → GL.Ls} {cs : List ARV} {ws : List PV}
    (hm : SimE true ma pa) (g : Good F S as ag) (h1 : RA.pv as ag cs = some ws) (h2 : RA.ok F S cs) (nd : (fpS (as ++ ag) ++ RA.fp cs).Nodup) (lt : ∀ n ∈ RA.fp cs, n < S.length) (hL : ∀ ad, L ad = glS as ag ad as)
    (hk : ∀ F' S' as' ag' c w, RA.pv as' ag' (cs ++ [c]) = some (ws ++ [w]) → RA.ok F' S' (cs ++ [c]) → Good F' S' as' ag' → (fpS (as' ++ ag') ++ RA.fp (cs ++ [c])).Nodup → (∀ n ∈ RA.fp (cs ++ [c]), n < S'.length) → (∀ ad, L ad = glS as' ag' ad as') →
      SimSO F' S' as' ag' (RA.fp (cs ++ [c])) (fun ad => f ad w S') (k c.er (erS as') (erS ag'))) :
    SimSO F S as ag (RA.fp cs) (fun ad => (ma ad (L ad) S).then (L ad) (f ad)) ((pa (erS as) (erS ag)).then k) := by
  have h := hm F S as ag g
  have hfr : ∀ {F' : FM} {S' : Sto} {as' ag' : List AV} {x : List Nat}, Ev true F S as ag [] F' S' as' ag' x → Ev true F S as ag (RA.fp cs) F' S' as' ag' (RA.fp cs ++ x) := fun e => by
    have := e.frame (z := RA.fp cs) (by rw [List.append_nil]; exact nd) lt
    rwa [List.append_nil] at this
  cases hp : pa (erS as) (erS ag) with
  | bad => trivial
  | exc e ls gh =>
    rw [hp] at h
    obtain ⟨F2, S2, as2, ag2, x, a1, a2, a3, a4, a5, a6⟩ := h
    refine ⟨F2, S2, as2, ag2, x, a1, a2, a3, fun ad => ?_, a5, ((hfr a6).sub (List.nil_sublist _)).sv⟩
    show (ma ad (L ad) S).then (L ad) _ = _
    rw [hL, show ma ad (glS as ag ad as) S = _ from a4 ad, a6.gl]; rfl
  | ok b ls gh =>
    rw [hp] at h
    obtain ⟨F2, S2, as2, ag2, c, w, rfl, rfl, rfl, a4, a5, a6, a7⟩ := h
    have st := stab_ra true cs (.inl rfl) F S as ag [] F2 S2 as2 ag2 _ ws a7 g (by rw [List.append_nil]; exact nd) h1 h2
    have ev := hfr a7
    have e0 : RA.fp (cs ++ [c]) = RA.fp cs ++ c.fp := by show List.flatMap _ _ = _; rw [List.flatMap_append]; simp; rfl
    have h3 := hk F2 S2 as2 ag2 c w (RA_app st.1 a5) (fun d hd => by
      rcases List.mem_append.mp hd with t | t
      · exact st.2 d t
      · rw [List.mem_singleton.mp t]; exact a6) a7.good (by rw [e0]; exact ev.nd) (by rw [e0]; exact ev.lt) (fun ad => (hL ad).trans (a7.gl ad).symm)
    rw [e0] at h3
    exact SimSO.pre ev.sv (h3.cg fun ad => by
      show (ma ad (L ad) S).then (L ad) _ = _
      rw [hL, show ma ad (glS as ag ad as) S = _ from a4 ad]; rfl)
theorem node_put {t : List Nat → Bool} {r : Rt} {p : List Nat} {n : Nat} {h h' : Hd} {ks ks' : List A} {a : A} (g : Good F S as ag) (nd : (fpS (as ++ ag) ++ a.fp).Nodup) (lt : ∀ m ∈ a.fp, m < S.length) (aok : a.ok F S)
    (hat : atA as ag r p = some (.nd .ow n h ks)) (hw : h'.wf ks'.length = true) (hc : (∃ m, m < ks.length ∧ ks' = ks.set m a ∧ t = exT m) ∨ (ks' = ks ++ [a] ∧ t = allT)) :
    Ev false F S as ag a.fp F (S.set n (mkO h' (A.pvs ks'))) (chA t r p (.nd .ow n h' ks') as ag).1 (chA t r p (.nd .ow n h' ks') as ag).2 [] := by
  have bok := at_ok g hat
  simp only [A.ok] at bok
  have sk := sub_kids g hat
  have nda : (A.fps ks ++ a.fp).Nodup := nd.sublist (List.Sublist.append_right sk _)
  rcases hc with ⟨m, hm, rfl, rfl⟩ | ⟨rfl, rfl⟩
  · have hx : ks[m]? = some ks[m] := List.getElem?_eq_getElem hm
    obtain ⟨L, R, e1, e2⟩ := flat_set hx
    refine node_write (fun h => by cases h) g nd lt hat hw ?_ ?_ ?_ ?_
    · rw [oks_iff]
      intro x hx
      rcases List.mem_or_eq_of_mem_set hx with h | h
      · exact (oks_iff ks).mp bok.2.2 x h
      · rw [h]; exact aok
    · rw [List.append_nil, e2]
      rw [e1] at nda
      have n2 : (L ++ R ++ a.fp).Nodup := nda.sublist (List.Sublist.append_right (List.Sublist.append_right (List.sublist_append_left _ _) _) _)
      refine (List.Perm.nodup_iff ?_).mp n2
      have : (L ++ (R ++ a.fp)).Perm (L ++ (a.fp ++ R)) := List.Perm.append_left _ List.perm_append_comm
      simpa using this
    · intro k hk
      rw [List.append_nil, e2] at hk
      rw [e1]
      simp only [List.mem_append] at hk ⊢
      rcases hk with (h | h) | h <;> simp [h]
    · intro i s k hs hk
      have : i ≠ m := of_decide_eq_true hs
      rw [List.getElem?_set_ne (fun e => this e.symm)]; exact hk
  · refine node_write (fun h => by cases h) g nd lt hat hw (oks_app bok.2.2 ⟨aok, trivial⟩) ?_ ?_ ?_
    · rw [List.append_nil, fps_app]; simpa [A.fps] using nda
    · intro k hk
      rw [List.append_nil, fps_app] at hk
      simpa [A.fps] using hk
    · intro i s k _ hk
      rw [List.getElem?_append_left (List.getElem?_eq_some_iff.mp hk).1]; exact hk
def nxD (z : Ls × Ls) : SOut := .nx z.1 z.2
theorem sim_nxD {t : List Nat → Bool} {r : Rt} {p : List Nat} {y : A} {d : D} (hd : y.er = d) {L : AD → GL.Ls} {o : AD → GL.SOut} (ho : ∀ ad, o ad = .nx (L ad) S') (hL : ∀ ad, L ad = glS as ag ad as) (ev : Ev false F S as ag x0 F' S' (chA t r p y as ag).1 (chA t r p y as ag).2 []) :
    SimSO F S as ag x0 o (nxD (chD t r p d (erS as) (erS ag))) := by
  subst hd
  have e := ch_er t r p y as ag
  rw [← e]
  exact ⟨F', S', _, _, rfl, rfl, fun ad => by rw [ho, hL, ev.gl], ev.sv⟩
theorem ers_set (xs : List A) (m : Nat) (a : A) : A.ers (xs.set m a) = (A.ers xs).set m a.er := by rw [ers_map, ers_map, List.map_set]
theorem pvs_set (xs : List A) (m : Nat) (a : A) : A.pvs (xs.set m a) = (A.pvs xs).set m a.pv := by rw [pvs_map, pvs_map, List.map_set]
theorem two {as ag : List AV} {c1 c2 : ARV} {w1 w2 : PV} (h : RA.pv as ag ([c1] ++ [c2]) = some ([w1] ++ [w2])) : c1.pv as ag = some w1 ∧ c2.pv as ag = some w2 := by
  obtain ⟨a, t, ha, ht, e⟩ := seqO_cons h
  cases e
  obtain ⟨b, t2, hb, ht2, e⟩ := seqO_cons ht
  cases e
  exact ⟨ha, hb⟩
theorem sub1 (c1 : ARV) (r : List ARV) : (c1.fp).Sublist (RA.fp (c1 :: r)) := List.sublist_append_left _ _
theorem preSub (g : Good F S as ag) (nd : (fpS (as ++ ag) ++ x0).Nodup) (lt : ∀ n ∈ x0, n < S.length) (sub : x1.Sublist x0) {o : AD → GL.SOut} {p : SOut} (h : SimSO F S as ag x1 o p) : SimSO F S as ag x0 o p :=
  SimSO.pre ((Ev.refl (q := true) g nd lt).sub sub).sv h
theorem putN_zip {f : Nm} {y : PV} : ∀ (ns : List Nm) (ws : List PV), ns.length = ws.length → GL.putN f y (ns.zip ws) = match idxN f ns with
    | some i => ns.zip (ws.set i y)
    | none => (ns ++ [f]).zip (ws ++ [y])
  | [], [], _ => rfl
  | [], _ :: _, h => by cases h
  | _ :: _, [], h => by cases h
  | g :: r, w :: ws, h => by
    have ih := putN_zip (f := f) (y := y) r ws (Nat.succ.inj h)
    show GL.putN f y ((g, w) :: r.zip ws) = _
    unfold GL.putN idxN
    by_cases hg : g = f
    · rw [if_pos hg, if_pos hg]; simp
    · rw [if_neg hg, if_neg hg, ih]
      cases idxN f r with
      | none => rfl
      | some i => rfl
theorem idxN_lt {f : Nm} : ∀ {ns : List Nm} {i : Nat}, idxN f ns = some i → i < ns.length
  | [], i, h => by cases h
  | g :: r, i, h => by
    unfold idxN at h
    split at h
    · cases h; simp
    · obtain ⟨j, hj, rfl⟩ := Option.map_eq_some_iff.mp h
      have := idxN_lt hj
      simp only [List.length_cons]; omega
def putF (tab : Nm → Nm → Bool) (f : Nm) (x y : RV) (ls gh : Ls) : SOut := match y with
  | .pth r p => (match cvR true x ls gh with
    | some (d, ls, gh) => (match atD ls gh r p with
      | some (.nd .ow (.ins C ns) xs) => if (tab C f && decide (xs.length < 1000)) = true then (match idxN f ns with
        | some i => nxD (chD (exT i) r p (.nd .ow (.ins C ns) (xs.set i d)) ls gh)
        | none => nxD (chD allT r p (.nd .ow (.ins C (ns ++ [f])) (xs ++ [d])) ls gh)) else .bad
      | _ => .bad)
    | none => .bad)
  | _ => .bad
def sFldM (tab : Nm → Nm → Bool) (f : Nm) (o v : PE) : MS := fun ls gh => (v ls gh).then fun x ls gh => (o ls gh).then fun y ls gh => putF tab f x y ls gh
def gPutF (tab : Nm → Nm → Bool) (f : Nm) (L : GL.Ls) (y w : PV) (S2 : Sto) : GL.SOut := match GL.insAt S2 w with
  | some (n, C, fs) => if (tab C f && decide (fs.length < 1000)) = true then .nx L (S2.set n (.ins C (GL.putN f y fs))) else .bad
  | none => .bad
theorem putF_sim {tab : Nm → Nm → Bool} {f : Nm} {c1 c2 : ARV} {w1 w2 : PV} {L : AD → GL.Ls} (g : Good F S as ag) (nd : (fpS (as ++ ag) ++ RA.fp ([c1] ++ [c2])).Nodup) (lt : ∀ n ∈ RA.fp ([c1] ++ [c2]), n < S.length) (h : RA.pv as ag ([c1] ++ [c2]) = some ([w1] ++ [w2])) (hk : RA.ok F S ([c1] ++ [c2])) (hL : ∀ ad, L ad = glS as ag ad as) :
    SimSO F S as ag (RA.fp ([c1] ++ [c2])) (fun ad => gPutF tab f (L ad) w1 w2 S) (putF tab f c1.er c2.er (erS as) (erS ag)) := by
  obtain ⟨h1, h2⟩ := two h
  have s1 : (c1.fp).Sublist (RA.fp ([c1] ++ [c2])) := sub1 c1 _
  have nd1 := nd.sublist (List.Sublist.append_left s1 _)
  have lt1 : ∀ n ∈ c1.fp, n < S.length := fun n hn => lt n (s1.subset hn)
  refine preSub g nd lt s1 ?_
  unfold putF
  split
  · rename_i r p e2
    cases hc : cvR true c1.er (erS as) (erS ag) with
    | none => trivial
    | some z =>
      obtain ⟨d, l1, g1⟩ := z
      obtain ⟨F1, as1, ag1, a, rfl, rfl, rfl, rfl, aok, _, ev⟩ := cv_sim0 g nd1 lt1 h1 (hk c1 (by simp)) hc
      dsimp only
      split
      · rename_i C ns xs hx
        obtain ⟨b, hb, eb⟩ := at_er' hx
        obtain ⟨n, ys, rfl, rfl⟩ := er_nd eb
        have hw2 : w2 = .loc n := by
          cases c2 with
          | v _ => cases e2
          | pth r' p' =>
            cases e2
            have := ev.per rfl r p w2 h2
            rw [hb] at this
            cases this; rfl
        subst hw2
        have bok := at_ok ev.good hb
        have hw : ns.length = ys.length := by simpa [Hd.wf] using wf_of bok
        simp only [A.ok] at bok
        have ob : S[n]? = some (.ins C (ns.zip (A.pvs ys))) := bok.1.2
        have hins : GL.insAt S (.loc n) = some (n, C, ns.zip (A.pvs ys)) := by unfold GL.insAt; simp only [ob]
        have hzl : (ns.zip (A.pvs ys)).length = (A.ers ys).length := by rw [List.length_zip, pvs_len, ers_len, hw]; simp
        have hpz := putN_zip (f := f) (y := a.pv) ns (A.pvs ys) (by rw [pvs_len]; exact hw)
        by_cases hl : (tab C f && decide ((A.ers ys).length < 1000)) = true
        · rw [if_pos hl]
          refine SimSO.pre ev.sv ?_
          have hg : ∀ ad, gPutF tab f (L ad) a.pv (.loc n) S = .nx (L ad) (S.set n (.ins C (GL.putN f a.pv (ns.zip (A.pvs ys))))) := fun ad => by
            unfold gPutF
            simp only [hins, hzl, if_pos hl]
          split
          · rename_i i hi
            rw [hi] at hpz
            have hil : i < ys.length := hw ▸ idxN_lt hi
            refine sim_nxD (y := .nd .ow n (.ins C ns) (ys.set i a)) (S' := S.set n (mkO (.ins C ns) (A.pvs (ys.set i a)))) (F' := F1) (L := L) (by simp [A.er, ers_set]) (fun ad => ?_) (fun ad => (hL ad).trans (ev.gl ad).symm) (node_put ev.good ev.nd ev.lt aok hb (by simp [Hd.wf, hw]) (.inl ⟨i, hil, rfl, rfl⟩))
            rw [hg, hpz]; simp only [mkO, pvs_set]
          · rename_i hi
            rw [hi] at hpz
            refine sim_nxD (y := .nd .ow n (.ins C (ns ++ [f])) (ys ++ [a])) (S' := S.set n (mkO (.ins C (ns ++ [f])) (A.pvs (ys ++ [a])))) (F' := F1) (L := L) (by simp [A.er, ers_app, A.ers]) (fun ad => ?_) (fun ad => (hL ad).trans (ev.gl ad).symm) (node_put ev.good ev.nd ev.lt aok hb (by simp [Hd.wf, hw]) (.inr ⟨rfl, rfl⟩))
            rw [hg, hpz]; simp [mkO, pvs_app, A.pvs]
        · rw [if_neg hl]; trivial
      · trivial
  · trivial
theorem sim_sfld {tab : Nm → Nm → Bool} {f : Nm} {q : Bool} {mo mv : AD → GL.ME} {po pv : PE} (ho : SimE true mo po) (hv : SimE q mv pv) : SimS (fun ad => GL.sFldM tab f (mo ad) (mv ad)) (sFldM tab f po pv) := fun F S as ag g =>
  sim_then (R := RE) (f := fun ad y S1 => (mo ad (glS as ag ad as) S1).then (glS as ag ad as) fun w S2 => gPutF tab f (glS as ag ad as) y w S2) (k := fun x ls gh => (po ls gh).then fun y ls gh => putF tab f x y ls gh) hv g (fun _ => rfl) fun F1 S1 as1 ag1 c1 w1 h1 h2 g1 n1 l1 L1 => by
    have e0 : RA.fp [c1] = c1.fp := List.append_nil _
    have h := sim_thenN (cs := [c1]) (ws := [w1]) (L := fun ad => glS as ag ad as) (f := fun ad w S2 => gPutF tab f (glS as ag ad as) w1 w S2) (k := fun y ls gh => putF tab f (RE.er c1) y ls gh) ho g1 (seqO_mk h1 rfl) (fun c hc => by rw [List.mem_singleton.mp hc]; exact h2) (by rw [e0]; exact n1) (by rw [e0]; exact l1) L1
      (fun F2 S2 as2 ag2 c2 w2 h1 h2 g2 n2 l2 L2 => putF_sim g2 n2 l2 h1 h2 L2)
    rw [e0] at h
    exact h
end VL
set_option Elab.async false
set_option linter.all false
set_option maxRecDepth 100000
set_option maxHeartbeats 1000000
namespace VL
open GL (PV OB Sto Nm BT lim)
open PySem (PyData Builtin)
variable {F F' F'' : FM} {S S' S'' : Sto} {as as' as'' ag ag' ag'' : List AV} {x0 x1 x2 : List Nat}
def resD (f : Nat → Option V) : List Nat → Ls → Ls → Ls × Ls
  | [], ls, gh => (ls, gh)
  | v :: r, ls, gh => resD f r ((ls.map (killR v)).set v (f v)) (gh.map (killR v))
def resA (f : Nat → AV) : List Nat → List AV → List AV → List AV × List AV
  | [], as, ag => (as, ag)
  | v :: r, as, ag => resA f r (stA as ag v (f v)).1 (stA as ag v (f v)).2
theorem res_er (f : Nat → AV) : ∀ (vs : List Nat) (as ag : List AV), (erS (resA f vs as ag).1, erS (resA f vs as ag).2) = resD (fun v => (f v).er) vs (erS as) (erS ag)
  | [], as, ag => rfl
  | v :: r, as, ag => by
    unfold resA resD
    rw [res_er f r]
    have k : ∀ zs : List AV, erS (zs.map (killRA as ag v)) = (erS zs).map (killR v) := fun zs => by
      simp only [erS, List.map_map]
      exact List.map_congr_left fun z _ => killR_er v z
    have e1 : erS (stA as ag v (f v)).1 = ((erS as).map (killR v)).set v (f v).er := by
      show erS ((as.map (killRA as ag v)).set v (f v)) = _
      rw [← k]; simp only [erS, List.map_set]
    have e2 : erS (stA as ag v (f v)).2 = (erS ag).map (killR v) := k ag
    rw [e1, e2]
structure Cst (F : FM) (S : Sto) (z : AV) (o : Option PV) : Prop where
  fp : z.fp = []
  ok : z.ok F S
  gl : ∀ as ag ad, glv as ag ad z = o
  al : ∀ as ag, Alive as ag z
structure Res (F : FM) (S : Sto) (vs : List Nat) (f : Nat → AV) (o : Nat → Option PV) (as ag as' ag' : List AV) : Prop where
  sv : Sv F S as ag [] F S as' ag' []
  inn : ∀ ad j, j ∈ vs → (glS as' ag' ad as')[j]? = some (o j)
  out : ∀ ad j, j ∉ vs → (glS as' ag' ad as')[j]? = (glS as ag ad as)[j]?
  rt : ∀ r, (∀ v ∈ vs, r ≠ .l v) → rootA as' ag' r = rootA as ag r
  rv : ∀ v ∈ vs, rootA as' ag' (.l v) = slotA (some (f v))
  len : as'.length = as.length
theorem res_sim (f : Nat → AV) (o : Nat → Option PV) : ∀ (vs : List Nat) (as ag : List AV), (∀ v ∈ vs, Cst F S (f v) (o v)) → Good F S as ag → (∀ v ∈ vs, v < as.length) → Res F S vs f o as ag (resA f vs as ag).1 (resA f vs as ag).2
  | [], as, ag, _, g, _ => ⟨Sv.refl g, (fun _ _ h => by cases h), (fun _ _ _ => rfl), (fun _ _ => rfl), (fun _ h => by cases h), rfl⟩
  | v :: r, as, ag, hc, g, hl => by
    have cv := hc v List.mem_cons_self
    have lv := hl v List.mem_cons_self
    have sv1 : Sv F S as ag [] F S (stA as ag v (f v)).1 (stA as ag v (f v)).2 [] := sv_set g (good_nd g) (fun _ h => by cases h) lv cv.ok (cv.al _ _) (fun _ _ => .inr (by rw [cv.fp]; exact List.nil_sublist _))
    have l1 : (stA as ag v (f v)).1.length = as.length := by simp [stA]
    have ih := res_sim f o r (stA as ag v (f v)).1 (stA as ag v (f v)).2 (fun u hu => hc u (List.mem_cons_of_mem _ hu)) sv1.good (fun u hu => by rw [l1]; exact hl u (List.mem_cons_of_mem _ hu))
    have g1 : ∀ ad j, (glS (stA as ag v (f v)).1 (stA as ag v (f v)).2 ad (stA as ag v (f v)).1)[j]? = if j = v then some (o v) else (glS as ag ad as)[j]? := fun ad j => by
      show (((as.map (killRA as ag v)).set v (f v)).map _)[j]? = _
      rw [List.map_set, cv.gl, List.map_map]
      have e : (as.map (glv (stA as ag v (f v)).1 (stA as ag v (f v)).2 ad ∘ killRA as ag v)) = glS as ag ad as := List.map_congr_left fun y _ => st_glv ad
      show ((as.map (glv (stA as ag v (f v)).1 (stA as ag v (f v)).2 ad ∘ killRA as ag v)).set v (o v))[j]? = _
      rw [e]
      by_cases hj : j = v
      · subst hj
        rw [if_pos rfl, List.getElem?_set_self (by simpa [glS] using lv)]
      · rw [if_neg hj, List.getElem?_set_ne (fun q => hj q.symm)]
    have rv1 : rootA (stA as ag v (f v)).1 (stA as ag v (f v)).2 (.l v) = slotA (some (f v)) := by
      show slotA ((as.map (killRA as ag v)).set v (f v))[v]? = _
      rw [List.getElem?_set_self (by simpa using lv)]
    refine ⟨sv1.trans ih.sv, fun ad j hj => ?_, fun ad j hj => ?_, fun rr hr => ?_, fun u hu => ?_, ih.len.trans l1⟩
    · by_cases hjr : j ∈ r
      · exact ih.inn ad j hjr
      · rcases List.mem_cons.mp hj with rfl | h
        · exact (ih.out ad j hjr).trans ((g1 ad j).trans (if_pos rfl))
        · exact absurd h hjr
    · have h1 : j ≠ v := fun e => hj (e ▸ List.mem_cons_self)
      have h2 : j ∉ r := fun e => hj (List.mem_cons_of_mem _ e)
      exact (ih.out ad j h2).trans ((g1 ad j).trans (if_neg h1))
    · exact (ih.rt rr fun u hu => hr u (List.mem_cons_of_mem _ hu)).trans (st_root (hr v List.mem_cons_self))
    · by_cases hur : u ∈ r
      · exact ih.rv u hur
      · rcases List.mem_cons.mp hu with rfl | h
        · exact (ih.rt (.l u) fun w hw e => hur (by cases e; exact hw)).trans rv1
        · exact absurd h hur
def okV : Option V → Bool
  | some (.v d) => d.shr
  | some (.al _ _) => true
  | none => true
  | _ => false
def keepV : Option V → Option V
  | some (.v d) => some (.v d)
  | _ => none
def lcV (g : MG) (tt : PT) (te : PE) (vs : List Nat) (ls0 : Ls) : List D → List D → PE
  | [], acc, ls, gh => .ok (.v (.nd .ow .lst acc)) ls gh
  | d :: r, acc, ls, gh => match g (.v d) (resD (fun _ => none) vs ls gh).1 (resD (fun _ => none) vs ls gh).2 with
    | none => .bad
    | some z => (match tt z.1 z.2 with
      | .ok true ls2 gh2 => (match te ls2 gh2 with
        | .ok x ls3 gh3 => (match cvR true x ls3 gh3 with
          | some (e, ls4, gh4) => if acc.length < lim then lcV g tt te vs ls0 r (acc ++ [e]) (resD (fun v => keepV (ls0.getD v none)) vs ls4 gh4).1 (resD (fun v => keepV (ls0.getD v none)) vs ls4 gh4).2 else .bad
          | none => .bad)
        | _ => .bad)
      | .ok false ls2 gh2 => lcV g tt te vs ls0 r acc (resD (fun v => keepV (ls0.getD v none)) vs ls2 gh2).1 (resD (fun v => keepV (ls0.getD v none)) vs ls2 gh2).2
      | _ => .bad)
def eLc (it : PI) (g : MG) (tt : PT) (te : PE) (vs : List Nat) : PE := fun ls gh => (it ls gh).bind fun ds ls gh =>
  if (vs.all fun v => decide (v < ls.length) && okV (ls.getD v none)) = true then lcV g tt te vs ls ds [] ls gh else .bad
def keepA (as ag : List AV) (z : AV) : AV := match z with
  | .v a => .v a
  | z => .un (glv as ag (0, 0) z)
theorem keep_er (z : AV) : (keepA as ag z).er = keepV z.er := by cases z <;> rfl
theorem wipe_in : ∀ (vs : List Nat) (L : GL.Ls) (j : Nat), j ∈ vs → j < L.length → (GL.wipeL L vs)[j]? = some none
  | [], _, _, h, _ => by cases h
  | v :: r, L, j, h, hj => by
    have wl : ∀ (r : List Nat) (L : GL.Ls), (GL.wipeL L r).length = L.length := fun r => by
      induction r with
      | nil => intro L; rfl
      | cons a t ih => intro L; show ((GL.wipeL L t).set a none).length = _; rw [List.length_set, ih]
    show ((GL.wipeL L r).set v none)[j]? = _
    by_cases e : j = v
    · subst e; rw [List.getElem?_set_self (by rw [wl]; exact hj)]
    · rw [List.getElem?_set_ne (fun q => e q.symm)]
      exact wipe_in r L j (by rcases List.mem_cons.mp h with h | h; exact absurd h e; exact h) hj
theorem wipe_out : ∀ (vs : List Nat) (L : GL.Ls) (j : Nat), j ∉ vs → (GL.wipeL L vs)[j]? = L[j]?
  | [], _, _, _ => rfl
  | v :: r, L, j, h => by
    show ((GL.wipeL L r).set v none)[j]? = _
    have hne : v ≠ j := fun e => h (by rw [e]; exact List.mem_cons_self)
    rw [List.getElem?_set_ne hne]
    exact wipe_out r L j fun e => h (List.mem_cons_of_mem _ e)
theorem Sv.frame (a : Sv F S as ag x0 F' S' as' ag' x1) {z : List Nat} (hn : (fpS (as ++ ag) ++ (z ++ x0)).Nodup) (hz : ∀ n ∈ z, n < S.length) : (∀ n ∈ z, F' n = F n ∧ S'[n]? = S[n]?) ∧ (fpS (as' ++ ag') ++ (z ++ x1)).Nodup ∧ (∀ n ∈ z ++ x1, n < S'.length) := by
  have hd : ∀ n ∈ z, n ∉ fpS (as ++ ag) ++ x0 := fun n hz hx => by
    have h1 := List.nodup_append.mp hn
    have h2 := List.nodup_append.mp h1.2.1
    rcases List.mem_append.mp hx with t | t
    · exact h1.2.2 n t n (List.mem_append_left _ hz) rfl
    · exact h2.2.2 n hz n t rfl
  have hd2 : ∀ n ∈ z, n ∉ fpS (as' ++ ag') ++ x1 := fun n hz' hx => by
    rcases a.new n hx with t | t
    · exact hd n hz' t
    · exact absurd (hz n hz') (Nat.not_lt.mpr t)
  refine ⟨fun n h => a.keep n (hz n h) (hd n h), ?_, fun n hn => ?_⟩
  · have h1 := List.nodup_append.mp a.nd
    refine List.nodup_append.mpr ⟨h1.1, List.nodup_append.mpr ⟨?_, h1.2.1, fun n h m h' e => ?_⟩, fun n h m h' e => ?_⟩
    · exact (List.nodup_append.mp (List.nodup_append.mp hn).2.1).1
    · exact hd2 n h (e ▸ List.mem_append_right _ h')
    · rcases List.mem_append.mp h' with t | t
      · exact hd2 m t (e ▸ List.mem_append_left _ h)
      · exact h1.2.2 n h m t e
  · rcases List.mem_append.mp hn with t | t
    · exact Nat.lt_of_lt_of_le (hz n t) a.len
    · exact a.lt n t
theorem Sv.frameS (a : Sv F S as ag x0 F' S' as' ag' x1) {z : List Nat} (hn : (fpS (as ++ ag) ++ (z ++ x0)).Nodup) (hz : ∀ n ∈ z, n < S.length) : Sv F S as ag (z ++ x0) F' S' as' ag' (z ++ x1) := by
  obtain ⟨_, h2, h3⟩ := a.frame hn hz
  refine ⟨a.good, h2, h3, a.mono, a.len, fun n hl hx => a.keep n hl fun h => hx ?_, fun n h => ?_, a.gg⟩
  · rcases List.mem_append.mp h with t | t
    · exact List.mem_append_left _ t
    · exact List.mem_append_right _ (List.mem_append_right _ t)
  · have : n ∈ z ∨ n ∈ fpS (as' ++ ag') ++ x1 := by
      simp only [List.mem_append] at h ⊢
      rcases h with h | h | h <;> simp [h]
    rcases this with t | t
    · exact .inl (List.mem_append_right _ (List.mem_append_left _ t))
    · rcases a.new n t with u | u
      · left
        simp only [List.mem_append] at u ⊢
        rcases u with u | u <;> simp [u]
      · exact .inr u
structure LcI (q : Bool) (vs : List Nat) (F0 : FM) (S0 : Sto) (as0 ag0 : List AV) (n0 : Nat) (F : FM) (S : Sto) (as ag : List AV) (acc : List A) : Prop where
  ev : Ev q F0 S0 as0 ag0 [] F S as ag (n0 :: A.fps acc)
  ob : S[n0]? = some (.lst (A.pvs acc))
  fr : F n0 = none
  oks : A.oks F S acc
  rv : ∀ v ∈ vs, rootA as ag (.l v) = slotA (some (keepA as0 ag0 (as0.getD v (.un none))))
  len : as.length = as0.length
theorem kp_cst {z : AV} (h : okV z.er = true) (hz : z.ok F S) (m : Mono F F') : Cst F' S' (keepA as ag z) (glv as ag (0, 0) z) := by
  cases z with
  | v a =>
    have hs : a.shr = true := by rw [← shr_er]; exact h
    have f0 := fp_shr hz hs
    exact ⟨f0, ok_frame m (by rw [f0]; intro n hn; cases hn) hz, fun _ _ _ => rfl, fun _ _ => trivial⟩
  | io a => cases h
  | xn C ns xs => cases h
  | un o => exact ⟨rfl, trivial, fun _ _ _ => rfl, fun _ _ => trivial⟩
  | al r p => exact ⟨rfl, trivial, fun _ _ _ => rfl, fun _ _ => trivial⟩
theorem gl_const {z : AV} (h : okV z.er = true) (ad : AD) : glv as ag ad z = glv as ag (0, 0) z := by
  cases z with
  | xn C ns xs => cases h
  | _ => rfl
section
variable {q : Bool} {vs : List Nat} {F0 : FM} {S0 : Sto} {as0 ag0 : List AV} {n0 : Nat} {acc : List A}
theorem lc_mid (hvs : ∀ v ∈ vs, v < as0.length ∧ okV (as0.getD v (.un none)).er = true) (g0 : Good F0 S0 as0 ag0) (I : LcI q vs F0 S0 as0 ag0 n0 F S as ag acc) {asw agw as1 ag1 as4 ag4 : List AV} {F1 F4 : FM} {S1 S4 : Sto} {a : List Nat}
    (hw : Res F S vs (fun _ => .un none) (fun _ => none) as ag asw agw) (ap : Apart vs asw agw as1 ag1) (sv1 : Sv F S asw agw [] F1 S1 as1 ag1 []) (ev : Ev q F1 S1 as1 ag1 [] F4 S4 as4 ag4 a) (hl4 : as4.length = as0.length) :
    Ev q F S as ag [] F4 S4 (resA (fun v => keepA as0 ag0 (as0.getD v (.un none))) vs as4 ag4).1 (resA (fun v => keepA as0 ag0 (as0.getD v (.un none))) vs as4 ag4).2 a ∧
      (∀ v ∈ vs, rootA (resA (fun v => keepA as0 ag0 (as0.getD v (.un none))) vs as4 ag4).1 (resA (fun v => keepA as0 ag0 (as0.getD v (.un none))) vs as4 ag4).2 (.l v) = slotA (some (keepA as0 ag0 (as0.getD v (.un none))))) ∧
      (resA (fun v => keepA as0 ag0 (as0.getD v (.un none))) vs as4 ag4).1.length = as0.length := by
  have zmem : ∀ v, v < as0.length → as0.getD v (.un none) ∈ as0 ++ ag0 := fun v hv => by
    rw [List.getD_eq_getElem?_getD, List.getElem?_eq_getElem hv]
    exact List.mem_append_left _ (List.getElem_mem hv)
  have m4 : Mono F0 F4 := I.ev.mono.trans (hw.sv.mono.trans (sv1.mono.trans ev.mono))
  have B := res_sim (F := F4) (S := S4) (fun v => keepA as0 ag0 (as0.getD v (.un none))) (fun v => glv as0 ag0 (0, 0) (as0.getD v (.un none))) vs as4 ag4 (fun v hv => kp_cst (hvs v hv).2 (g0.ok _ (zmem v (hvs v hv).1)) m4) ev.good (fun v hv => by rw [hl4]; exact (hvs v hv).1)
  generalize (resA (fun v => keepA as0 ag0 (as0.getD v (.un none))) vs as4 ag4).1 = as5 at B ⊢
  generalize (resA (fun v => keepA as0 ag0 (as0.getD v (.un none))) vs as4 ag4).2 = ag5 at B ⊢
  have svB := B.sv.frameS (z := a) (by rw [List.append_nil]; exact ev.nd) ev.lt
  rw [List.append_nil] at svB
  have all := ((hw.sv.trans sv1).trans ev.sv).trans svB
  have gl0 : ∀ ad j, j < as0.length → (glS as0 ag0 ad as0)[j]? = some (glv as0 ag0 ad (as0.getD j (.un none))) := fun ad j hj => by
    rw [glS, List.getElem?_map, List.getElem?_eq_getElem hj, List.getD_eq_getElem?_getD, List.getElem?_eq_getElem hj]; rfl
  have roots : ∀ r, (∀ v ∈ vs, r ≠ .l v) → rootA as1 ag1 r = rootA as ag r := fun r hr => (ap.2.1 r hr).trans (hw.rt r hr)
  have gl5 : ∀ ad, glS as5 ag5 ad as5 = glS as ag ad as := fun ad => by
    apply List.ext_getElem?
    intro j
    by_cases hj : j ∈ vs
    · rw [B.inn ad j hj, I.ev.gl ad, gl0 ad j (hvs j hj).1, gl_const (hvs j hj).2 ad]
    · rw [B.out ad j hj, ev.gl ad, ap.1 ad j hj, hw.out ad j hj]
  have decR : ∀ r : Rt, (∃ v ∈ vs, r = .l v) ∨ ∀ v ∈ vs, r ≠ .l v := fun r => by
    by_cases h : ∃ v ∈ vs, r = .l v
    · exact .inl h
    · exact .inr fun v hv e => h ⟨v, hv, e⟩
  refine ⟨⟨all.good, all.nd, all.lt, all.mono, all.len, all.keep, all.new, gl5, all.gg, fun r w h => ?_, fun hq r p w h => ?_⟩, B.rv, B.len.trans hl4⟩
  · rcases decR r with ⟨v, hv, rfl⟩ | hr
    · rw [B.rv v hv, ← I.rv v hv]; exact h
    · rw [B.rt r hr]
      exact ev.rt r w (by rw [roots r hr]; exact h)
  · rcases decR r with ⟨v, hv, rfl⟩ | hr
    · unfold atA at h ⊢
      rw [B.rv v hv, ← I.rv v hv]; exact h
    · have e1 : (atA as1 ag1 r p).map A.pv = some w := by
        unfold atA at h ⊢
        rw [roots r hr]; exact h
      have := ev.per hq r p w e1
      unfold atA at this ⊢
      rw [B.rt r hr]; exact this
end
theorem Ev.llen {q : Bool} (e : Ev q F S as ag x0 F' S' as' ag' x1) : as'.length = as.length := by
  have := congrArg List.length (e.gl (0, 0))
  simpa [glS] using this
theorem lc_push {n0 : Nat} {acc : List A} {a : A} (g : Good F S as ag) (nd : (fpS (as ++ ag) ++ ((n0 :: A.fps acc) ++ a.fp)).Nodup) (lt : ∀ n ∈ (n0 :: A.fps acc) ++ a.fp, n < S.length) (fr : F n0 = none) (ok1 : A.oks F S acc) (ok2 : a.ok F S) :
    Ev true F S as ag ((n0 :: A.fps acc) ++ a.fp) F (S.set n0 (.lst (A.pvs acc ++ [a.pv]))) as ag (n0 :: A.fps (acc ++ [a])) ∧ A.oks F (S.set n0 (.lst (A.pvs acc ++ [a.pv]))) (acc ++ [a]) ∧ (S.set n0 (.lst (A.pvs acc ++ [a.pv])))[n0]? = some (.lst (A.pvs (acc ++ [a]))) := by
  have n1 := (List.nodup_append.mp nd).2.1
  have e0 : (n0 :: A.fps acc) ++ a.fp = n0 :: A.fps (acc ++ [a]) := by rw [fps_app]; simp [A.fps]
  rw [e0] at nd lt n1 ⊢
  have nn := (List.nodup_cons.mp n1).1
  have gr : ∀ n, n ≠ n0 → (S.set n0 (.lst (A.pvs acc ++ [a.pv])))[n]? = S[n]? := fun n hn => List.getElem?_set_ne (fun e => hn e.symm)
  have fs : FS F (S.set n0 (.lst (A.pvs acc ++ [a.pv]))) := fun m b o e => by
    exact (g.fs m b o e).to (gr m (fun h => by subst h; rw [fr] at e; cases e))
  refine ⟨ev_same g nd Mono.refl fs (by simp) (fun n hn hx => ⟨rfl, gr n fun e => hx (e ▸ List.mem_cons_self)⟩) n1 (fun n h => .inl h) (fun n h => by rw [List.length_set]; exact lt n h), ?_, ?_⟩
  · have := oks_app ok1 (show A.oks F S [a] from ⟨ok2, trivial⟩)
    rw [oks_iff] at this ⊢
    exact fun x hx => ok_frame Mono.refl (fun n hn => ⟨rfl, gr n fun e => nn (by rw [← e, fps_map]; exact List.mem_flatMap.mpr ⟨x, hx, hn⟩)⟩) (this x hx)
  · rw [List.getElem?_set_self (lt n0 List.mem_cons_self), pvs_app]; rfl
section
variable {q : Bool} {vs : List Nat} {gg : GL.MG} {g : MG} {mt : AD → GL.MT} {tt : PT} {me : AD → GL.ME} {te : PE} {chk : Nat → Sto → Bool} {F0 : FM} {S0 : Sto} {as0 ag0 : List AV} {n0 : Nat}
theorem lcV_sim (hg : SimGt vs gg g) (ht : SimT q mt tt) (he : SimE q me te) (hvs : ∀ v ∈ vs, v < as0.length ∧ okV (as0.getD v (.un none)).er = true) (g0 : Good F0 S0 as0 ag0) : ∀ (ks : List A) (i : Nat) (F : FM) (S : Sto) (as ag : List AV) (acc : List A), LcI q vs F0 S0 as0 ag0 n0 F S as ag acc →
    A.fps ks = [] → A.oks F S ks → (∀ F' S' j, Mono F F' → FS F' S' → chk j S' = true) →
    SimO q RE F0 S0 as0 ag0 [] (fun ad => GL.lcGo chk gg (mt ad) (me ad) vs n0 (glS as0 ag0 ad as0) i (A.pvs ks) S) (lcV g tt te vs (erS as0) (A.ers ks) (A.ers acc) (erS as) (erS ag))
  | [], i, F, S, as, ag, acc, I, _, _, hc => by
    refine ⟨F, S, as, ag, .v (.nd .ow n0 .lst acc), .loc n0, rfl, rfl, by simp [RE, ARV.er, A.er], fun ad => ?_, rfl, ?_, ?_⟩
    · show GL.lcGo chk gg (mt ad) (me ad) vs n0 _ i [] S = _
      rw [GL.lcGo, if_pos (hc F S i Mono.refl I.ev.good.fs)]
    · show A.ok F S _
      simp only [A.ok]
      exact ⟨⟨I.fr, I.ob⟩, rfl, I.oks⟩
    · exact I.ev
  | k :: t, i, F, S, as, ag, acc, I, fk, ok, hc => by
    have fk : k.fp ++ A.fps t = [] := fk
    obtain ⟨f1, f2⟩ := List.append_eq_nil_iff.mp fk
    have ef : (ARV.v k).fp = [] := f1
    have gd := I.ev.good
    have W := res_sim (F := F) (S := S) (fun _ => AV.un none) (fun _ => none) vs as ag (fun v hv => ⟨rfl, trivial, fun _ _ _ => rfl, fun _ _ => trivial⟩) gd (fun v hv => by rw [I.len]; exact (hvs v hv).1)
    have we := res_er (fun _ => AV.un none) vs as ag
    have be : ∀ as4 ag4, (erS (resA (fun v => keepA as0 ag0 (as0.getD v (.un none))) vs as4 ag4).1, erS (resA (fun v => keepA as0 ag0 (as0.getD v (.un none))) vs as4 ag4).2) = resD (fun v => keepV ((erS as0).getD v none)) vs (erS as4) (erS ag4) := fun as4 ag4 => by
      rw [res_er]
      congr 1
      funext v
      rw [keep_er]
      congr 1
      rw [List.getD_eq_getElem?_getD, List.getD_eq_getElem?_getD, erS, List.getElem?_map]
      cases as0[v]? <;> rfl
    show SimO _ _ _ _ _ _ _ _ (match g (.v k.er) (resD (fun _ => none) vs (erS as) (erS ag)).1 (resD (fun _ => none) vs (erS as) (erS ag)).2 with
    | none => .bad
    | some z => (match tt z.1 z.2 with
      | .ok true ls2 gh2 => (match te ls2 gh2 with
        | .ok x ls3 gh3 => (match cvR true x ls3 gh3 with
          | some (e, ls4, gh4) => if (A.ers acc).length < lim then lcV g tt te vs (erS as0) (A.ers t) (A.ers acc ++ [e]) (resD (fun v => keepV ((erS as0).getD v none)) vs ls4 gh4).1 (resD (fun v => keepV ((erS as0).getD v none)) vs ls4 gh4).2 else .bad
          | none => .bad)
        | _ => .bad)
      | .ok false ls2 gh2 => lcV g tt te vs (erS as0) (A.ers t) (A.ers acc) (resD (fun v => keepV ((erS as0).getD v none)) vs ls2 gh2).1 (resD (fun v => keepV ((erS as0).getD v none)) vs ls2 gh2).2
      | _ => .bad))
    rw [show resD (fun _ => (none : Option V)) vs (erS as) (erS ag) = (erS (resA (fun _ => AV.un none) vs as ag).1, erS (resA (fun _ => AV.un none) vs as ag).2) from we.symm]
    generalize (resA (fun _ => AV.un none) vs as ag).1 = asw at W ⊢
    generalize (resA (fun _ => AV.un none) vs as ag).2 = agw at W ⊢
    dsimp only
    cases hz : g (.v k.er) (erS asw) (erS agw) with
    | none => trivial
    | some z =>
      have gw := W.sv.good
      have kok : k.ok F S := ok.1
      obtain ⟨as1, ag1, a1, a2, a3, ap, sv1⟩ := hg F S asw agw (.v k) k.pv z.1 z.2 gw (by rw [ef, List.append_nil]; exact gw.nd) (by rw [ef]; intro n h; cases h) rfl kok hz
      rw [ef] at sv1
      have glw : ∀ ad, glS asw agw ad asw = GL.wipeL (glS as0 ag0 ad as0) vs := fun ad => by
        apply List.ext_getElem?
        intro j
        by_cases hj : j ∈ vs
        · rw [W.inn ad j hj, wipe_in vs _ j hj (by simpa [glS] using (hvs j hj).1)]
        · rw [W.out ad j hj, wipe_out vs _ j hj, I.ev.gl]
      have head : ∀ ad, GL.lcGo chk gg (mt ad) (me ad) vs n0 (glS as0 ag0 ad as0) i (A.pvs (k :: t)) S = (match mt ad (glS as1 ag1 ad as1) S with
          | .ok true S1 => (match me ad (glS as1 ag1 ad as1) S1 with
            | .ok w S2 => (match GL.lstAt S2 n0 with
              | some acc => if acc.length < lim then GL.lcGo chk gg (mt ad) (me ad) vs n0 (glS as0 ag0 ad as0) (i + 1) (A.pvs t) (S2.set n0 (.lst (acc ++ [w]))) else .bad
              | none => .bad)
            | _ => .bad)
          | .ok false S1 => GL.lcGo chk gg (mt ad) (me ad) vs n0 (glS as0 ag0 ad as0) (i + 1) (A.pvs t) S1
          | _ => .bad) := fun ad => by
        show GL.lcGo chk gg (mt ad) (me ad) vs n0 _ i (k.pv :: A.pvs t) S = _
        rw [GL.lcGo, if_pos (hc F S i Mono.refl gd.fs), ← glw ad, a3]
        all_goals rfl
      dsimp only
      rw [← a1, ← a2]
      have h2 := ht F S as1 ag1 sv1.good
      have L1 : as1.length = as0.length := ap.2.2.trans (W.len.trans I.len)
      have ndz : (fpS (as ++ ag) ++ ((n0 :: A.fps acc) ++ [])).Nodup := by rw [List.append_nil]; exact I.ev.nd
      cases hp : tt (erS as1) (erS ag1) with
      | bad => trivial
      | exc e ls gh => trivial
      | ok b ls gh =>
        rw [hp] at h2
        obtain ⟨F2, S2, as2, ag2, c2, w2, rfl, rfl, e3, b4, b5, _, ev2⟩ := h2
        have e3 : c2 = b := e3
        subst e3
        cases b5
        cases c2 with
        | false =>
          dsimp only
          have mid := lc_mid hvs g0 I W ap sv1 (show Ev q F S as1 ag1 [] F2 S2 as2 ag2 [] from ev2) (ev2.llen.trans L1)
          rw [show resD (fun v => keepV ((erS as0).getD v none)) vs (erS as2) (erS ag2) = _ from (be as2 ag2).symm]
          obtain ⟨evm, rvm, lnm⟩ := mid
          generalize (resA (fun v => keepA as0 ag0 (as0.getD v (.un none))) vs as2 ag2).1 = as5 at evm rvm lnm ⊢
          generalize (resA (fun v => keepA as0 ag0 (as0.getD v (.un none))) vs as2 ag2).2 = ag5 at evm rvm ⊢
          have evf := evm.frame ndz I.ev.lt
          rw [List.append_nil] at evf
          have keepz : ∀ n ∈ n0 :: A.fps acc, F2 n = F n ∧ S2[n]? = S[n]? := fun n hn => evm.keep n (I.ev.lt n hn) fun h => by
            rw [List.append_nil] at h
            exact (List.nodup_append.mp I.ev.nd).2.2 n h n hn rfl
          have I2 : LcI q vs F0 S0 as0 ag0 n0 F2 S2 as5 ag5 acc := ⟨(I.ev.trans evf).weak (fun h => by rw [h]; rfl), by rw [(keepz n0 List.mem_cons_self).2]; exact I.ob, by rw [(keepz n0 List.mem_cons_self).1]; exact I.fr, by
            have := I.oks
            rw [oks_iff] at this ⊢
            exact fun x hx => ok_frame evm.mono (fun n hn => keepz n (List.mem_cons_of_mem _ (by rw [fps_map]; exact List.mem_flatMap.mpr ⟨x, hx, hn⟩))) (this x hx), rvm, lnm⟩
          have h3 := lcV_sim hg ht he hvs g0 t (i + 1) F2 S2 as5 ag5 acc I2 f2 (oks_mono evm.mono ok.2 f2) (fun F' S' j m fs => hc F' S' j (evm.mono.trans m) fs)
          have e5 : (fun ad => GL.lcGo chk gg (mt ad) (me ad) vs n0 (glS as0 ag0 ad as0) i (A.pvs (k :: t)) S) = fun ad => GL.lcGo chk gg (mt ad) (me ad) vs n0 (glS as0 ag0 ad as0) (i + 1) (A.pvs t) S2 := by
            funext ad
            rw [head ad, show mt ad (glS as1 ag1 ad as1) S = _ from b4 ad]
          rw [e5]
          exact h3
        | true =>
          dsimp only
          have h4 := he F2 S2 as2 ag2 ev2.good
          cases hq : te (erS as2) (erS ag2) with
          | bad => trivial
          | exc e ls gh => trivial
          | ok x ls gh =>
            rw [hq] at h4
            obtain ⟨F3, S3, as3, ag3, c3, w3, rfl, rfl, rfl, d4, d5, d6, ev3⟩ := h4
            dsimp only
            show SimO _ _ _ _ _ _ _ _ (match cvR true c3.er (erS as3) (erS ag3) with
              | some (e, ls4, gh4) => if (A.ers acc).length < lim then lcV g tt te vs (erS as0) (A.ers t) (A.ers acc ++ [e]) (resD (fun v => keepV ((erS as0).getD v none)) vs ls4 gh4).1 (resD (fun v => keepV ((erS as0).getD v none)) vs ls4 gh4).2 else .bad
              | none => .bad)
            cases hv : cvR true c3.er (erS as3) (erS ag3) with
            | none => trivial
            | some u =>
              obtain ⟨d, l4, g4⟩ := u
              obtain ⟨F4, as4, ag4, a, rfl, rfl, rfl, rfl, aok, _, ev4⟩ := cv_sim0 ev3.good ev3.nd ev3.lt d5 d6 hv
              dsimp only
              by_cases hl : (A.ers acc).length < lim
              · rw [if_pos hl]
                have evq : Ev q F S as1 ag1 [] F4 S3 as4 ag4 a.fp := ((show Ev q F S as1 ag1 [] F2 S2 as2 ag2 [] from ev2).trans ((show Ev q F2 S2 as2 ag2 [] F3 S3 as3 ag3 c3.fp from ev3).trans ev4)).weak (fun h => by rw [h]; rfl)
                have mid := lc_mid hvs g0 I W ap sv1 evq (evq.llen.trans L1)
                rw [show resD (fun v => keepV ((erS as0).getD v none)) vs (erS as4) (erS ag4) = _ from (be as4 ag4).symm]
                obtain ⟨evm, rvm, lnm⟩ := mid
                generalize (resA (fun v => keepA as0 ag0 (as0.getD v (.un none))) vs as4 ag4).1 = as5 at evm rvm lnm ⊢
                generalize (resA (fun v => keepA as0 ag0 (as0.getD v (.un none))) vs as4 ag4).2 = ag5 at evm rvm ⊢
                have evf := evm.frame ndz I.ev.lt
                rw [List.append_nil] at evf
                have keepz : ∀ n ∈ n0 :: A.fps acc, F4 n = F n ∧ S3[n]? = S[n]? := fun n hn => evm.keep n (I.ev.lt n hn) fun h => by
                  rw [List.append_nil] at h
                  exact (List.nodup_append.mp I.ev.nd).2.2 n h n hn rfl
                have acok : A.oks F4 S3 acc := by
                  have := I.oks
                  rw [oks_iff] at this ⊢
                  exact fun x hx => ok_frame evm.mono (fun n hn => keepz n (List.mem_cons_of_mem _ (by rw [fps_map]; exact List.mem_flatMap.mpr ⟨x, hx, hn⟩))) (this x hx)
                have fr4 : F4 n0 = none := by rw [(keepz n0 List.mem_cons_self).1]; exact I.fr
                obtain ⟨evp, okp, obp⟩ := lc_push evf.good evf.nd evf.lt fr4 acok aok
                have I2 : LcI q vs F0 S0 as0 ag0 n0 F4 (S3.set n0 (.lst (A.pvs acc ++ [a.pv]))) as5 ag5 (acc ++ [a]) := ⟨(I.ev.trans (evf.trans evp)).weak (fun h => by rw [h]; rfl), obp, fr4, okp, rvm, lnm⟩
                have h3 := lcV_sim hg ht he hvs g0 t (i + 1) F4 _ as5 ag5 (acc ++ [a]) I2 f2 (oks_mono evm.mono ok.2 f2) (fun F' S' j m fs => hc F' S' j (evm.mono.trans m) fs)
                have e5 : (fun ad => GL.lcGo chk gg (mt ad) (me ad) vs n0 (glS as0 ag0 ad as0) i (A.pvs (k :: t)) S) = fun ad => GL.lcGo chk gg (mt ad) (me ad) vs n0 (glS as0 ag0 ad as0) (i + 1) (A.pvs t) (S3.set n0 (.lst (A.pvs acc ++ [a.pv]))) := by
                  funext ad
                  rw [head ad, show mt ad (glS as1 ag1 ad as1) S = _ from b4 ad]
                  dsimp only
                  rw [← ev2.gl ad, show me ad (glS as2 ag2 ad as2) S2 = _ from d4 ad]
                  dsimp only
                  rw [lstAt_of (xs := A.pvs acc) (by rw [(keepz n0 List.mem_cons_self).2]; exact I.ob)]
                  dsimp only
                  rw [if_pos (by rw [pvs_len, ← ers_len]; exact hl)]
                rw [e5, show A.ers acc ++ [a.er] = A.ers (acc ++ [a]) from by rw [ers_app]; rfl]
                exact h3
              · rw [if_neg hl]; trivial
theorem sim_lc {mi : AD → GL.MI} {pi : PI} {qi : Bool} (hi : SimI qi mi pi) (hg : SimGt vs gg g) (ht : SimT q mt tt) (he : SimE q me te) : SimE (qi && q) (fun ad => GL.eLc (mi ad) gg (mt ad) (me ad) vs) (eLc pi g tt te vs) := fun F S as ag gd =>
  sim_first (R' := RE) (q' := q) (k := fun (ds : List D) (ls gh : Ls) => if (vs.all fun v => decide (v < ls.length) && okV (ls.getD v none)) = true then lcV g tt te vs ls ds [] ls gh else .bad) (f := fun (ad : AD) (t : GL.Wk) (S1 : Sto) => GL.lcGo t.chk gg (mt ad) (me ad) vs S1.length (glS as ag ad as) 0 t.items (S1 ++ [OB.lst []])) hi gd (fun _ => rfl) fun F1 S1 as1 ag1 c w h1 h2 g1 n1 l1 L1 => by
    cases h1
    obtain ⟨fk, ok, hc⟩ := h2
    by_cases hv : (vs.all fun v => decide (v < (erS as1).length) && okV ((erS as1).getD v none)) = true
    · simp only [if_pos hv]
      have hvs : ∀ v ∈ vs, v < as1.length ∧ okV (as1.getD v (.un none)).er = true := fun v hm => by
        have := List.all_eq_true.mp hv v hm
        obtain ⟨p1, p2⟩ := Bool.and_eq_true_iff.mp this
        have p1 := of_decide_eq_true p1
        have p1 : v < as1.length := by simpa [erS] using p1
        refine ⟨p1, ?_⟩
        rw [List.getD_eq_getElem?_getD, erS, List.getElem?_map, List.getElem?_eq_getElem p1] at p2
        rw [List.getD_eq_getElem?_getD, List.getElem?_eq_getElem p1]
        exact p2
      have hF : F1 S1.length = none := by
        cases hf : F1 S1.length with
        | none => rfl
        | some z =>
          obtain ⟨b, o⟩ := z
          have := (g1.fs _ _ _ hf).lt
          omega
      have gr : ∀ n, n < S1.length → (S1 ++ [OB.lst []])[n]? = S1[n]? := fun n hn => List.getElem?_append_left hn
      have fs : FS F1 (S1 ++ [OB.lst []]) := fun n b o e => by
        have := g1.fs n b o e
        exact this.to (gr n this.lt)
      have ev0 : Ev q F1 S1 as1 ag1 [] F1 (S1 ++ [OB.lst []]) as1 ag1 (S1.length :: A.fps []) := by
        refine ev_same g1 (good_nd g1) Mono.refl fs (by simp) (fun n hn _ => ⟨rfl, gr n hn⟩) (by simp [A.fps]) (fun n hn => ?_) (fun n hn => ?_)
        · simp [A.fps] at hn; exact .inr (by omega)
        · simp [A.fps] at hn; simp; omega
      have I0 : LcI q vs F1 S1 as1 ag1 S1.length F1 (S1 ++ [OB.lst []]) as1 ag1 [] := ⟨ev0, by rw [List.getElem?_append_right (Nat.le_refl _)]; simp [A.pvs], hF, trivial, fun v hm => by
        show slotA as1[v]? = slotA (some (keepA as1 ag1 (as1.getD v (.un none))))
        have p1 := (hvs v hm).1
        have p2 := (hvs v hm).2
        rw [List.getD_eq_getElem?_getD, List.getElem?_eq_getElem p1] at p2 ⊢
        simp only [Option.getD_some] at p2 ⊢
        cases hz : as1[v] with
        | io a => rw [hz] at p2; cases p2
        | xn C ns xs => rfl
        | v a => rfl
        | un o => rfl
        | al r p => rfl, rfl⟩
      have := lcV_sim hg ht he hvs g1 c.1 0 F1 _ as1 ag1 [] I0 fk (oks_mono Mono.refl ok fk) hc
      have e5 : (fun ad => GL.lcGo c.2 gg (mt ad) (me ad) vs S1.length (glS as ag ad as) 0 (A.pvs c.1) (S1 ++ [OB.lst []])) = fun ad => GL.lcGo c.2 gg (mt ad) (me ad) vs S1.length (glS as1 ag1 ad as1) 0 (A.pvs c.1) (S1 ++ [OB.lst []]) := by
        funext ad; rw [L1]
      show SimO q RE F1 S1 as1 ag1 [] (fun ad => GL.lcGo c.2 gg (mt ad) (me ad) vs S1.length (glS as ag ad as) 0 (A.pvs c.1) (S1 ++ [OB.lst []])) _
      rw [e5]
      exact this
    · simp only [if_neg hv]; trivial
end
end VL
set_option Elab.async false
set_option linter.all false
set_option maxRecDepth 100000
set_option maxHeartbeats 1000000
namespace VL
open GL (PV OB Sto Nm BT lim)
open PySem (PyData Builtin)
variable {F F' F'' : FM} {S S' S'' : Sto} {as as' as'' ag ag' ag'' : List AV} {x0 x1 x2 : List Nat}
def sRaise1 (C f : Nm) (m : PE) : MS := fun ls gh => (m ls gh).then fun x ls gh => match x with
  | .v (.sc (.str l)) => if l.length ≤ 90000 then .exc ⟨C, [f], [.str l]⟩ ls gh else .bad
  | _ => .bad
def gRaise (C f : Nm) (L : GL.Ls) (w : PV) (S1 : Sto) : GL.SOut := match w with
  | .str l => if l.length ≤ 90000 then .exc ⟨C, [(f, .str l)]⟩ L S1 else .bad
  | _ => .bad
theorem sim_raise {C f : Nm} {q : Bool} {ma : AD → GL.ME} {pa : PE} (h : SimE q ma pa) : SimS (fun ad => GL.sRaise1 C f (ma ad)) (sRaise1 C f pa) := fun F S as ag g =>
  sim_then (R := RE) (f := fun ad w S1 => gRaise C f (glS as ag ad as) w S1) (k := fun (x : RV) (ls gh : Ls) => match x with
  | .v (.sc (.str l)) => if l.length ≤ 90000 then SOut.exc ⟨C, [f], [.str l]⟩ ls gh else .bad
  | _ => .bad) h g (fun _ => rfl) fun F1 S1 as1 ag1 c w h1 h2 g1 n1 l1 L1 => by
    split
    · rename_i l e
      rw [er_vsc e h1]
      by_cases hl : l.length ≤ 90000
      · rw [if_pos hl]
        refine ⟨F1, S1, as1, ag1, ⟨C, [f], [.sc (.str l)]⟩, rfl, rfl, rfl, fun ad => ?_, ⟨rfl, rfl, trivial, trivial⟩, ((Ev.refl (q := true) g1 n1 l1).sub (List.nil_sublist _)).sv⟩
        show gRaise C f (glS as ag ad as) (.str l) S1 = _
        unfold gRaise
        simp only [if_pos hl, L1]
        rfl
      · rw [if_neg hl]; trivial
    · trivial
def eXf (f : Nm) (i : Nat) : PE := fun ls gh => match ls[i]? with
  | some (some (.xn _ ns ds)) => (match idxN f ns with
    | some j => (match ds[j]? with
      | some d => if d.shr = true then .ok (.v d) ls gh else .bad
      | none => .bad)
    | none => .bad)
  | _ => .bad
theorem sim_xf {f : Nm} {i : Nat} : SimE true (fun ad => GL.eXf ad.1 ad.2 f (GL.eVar i)) (eXf f i) := by
  intro F S as ag g
  unfold eXf
  simp only [erS, List.getElem?_map]
  cases hi : as[i]? with
  | none => trivial
  | some z =>
    cases z with
    | xn C ns xs =>
      have zok : A.fps xs = [] ∧ A.oks F S xs := g.ok _ (List.mem_append_left _ (List.mem_of_getElem? hi))
      show SimO _ _ _ _ _ _ _ _ (match idxN f ns with
    | some j => (match (A.ers xs)[j]? with
      | some d => if d.shr = true then Out.ok (RV.v d) (erS as) (erS ag) else Out.bad
      | none => Out.bad)
    | none => Out.bad)
      cases hj : idxN f ns with
      | none => trivial
      | some j =>
        dsimp only
        cases hd : (A.ers xs)[j]? with
        | none => trivial
        | some d =>
          rw [ers_map, List.getElem?_map] at hd
          obtain ⟨x, hx, rfl⟩ := Option.map_eq_some_iff.mp hd
          dsimp only
          by_cases hs : x.er.shr = true
          · rw [if_pos hs]
            have xok := (oks_iff xs).mp zok.2 x (List.mem_of_getElem? hx)
            have xfp : x.fp = [] := fp_shr xok (by rw [← shr_er]; exact hs)
            refine sim_okE g (good_nd g) (fun _ h => by cases h) (.v x) (fun ad => ?_) rfl rfl xok (by show (A.fp x).Sublist _; rw [xfp]; exact List.nil_sublist _)
            have hl : ∀ (ns : List Nm) (ws : List PV) (j : Nat) (w : PV), idxN f ns = some j → ws[j]? = some w → GL.lookF f ns ws = some w := fun ns => by
              induction ns with
              | nil => intro ws j w h _; cases h
              | cons g r ih =>
                intro ws j w h hw
                unfold idxN at h
                cases ws with
                | nil => simp at hw
                | cons v t =>
                  unfold GL.lookF
                  by_cases hg : g = f
                  · rw [if_pos hg] at h ⊢; cases h; simpa using hw
                  · rw [if_neg hg] at h ⊢
                    obtain ⟨k, hk, rfl⟩ := Option.map_eq_some_iff.mp h
                    exact ih t k w hk (by simpa using hw)
            have e1 : GL.eVar i (glS as ag ad as) S = .ok (.xn ad.1 ad.2 C ns (A.pvs xs)) S := by
              unfold GL.eVar
              simp only [glS, List.getElem?_map, hi, Option.map_some, glv]
            show GL.eXf ad.1 ad.2 f (GL.eVar i) (glS as ag ad as) S = _
            unfold GL.eXf
            rw [e1]
            show (if ad.1 = ad.1 ∧ ad.2 = ad.2 then _ else _) = _
            rw [if_pos ⟨rfl, rfl⟩, hl ns (A.pvs xs) j x.pv hj (by rw [pvs_map, List.getElem?_map, hx]; rfl)]
          · rw [if_neg hs]; trivial
    | _ => trivial
def eXis (C : Nm) (tb : List (Nm × Bool)) (i : Nat) : PE := fun ls gh => match ls[i]? with
  | some (some (.xn _ _ _)) => (match tb.lookup C with
    | some b => .ok (.v (.bl b)) ls gh
    | none => .bad)
  | _ => .bad
theorem sim_xis {C : Nm} {tb : List (Nm × Bool)} {i : Nat} : SimE true (fun ad => GL.eXis ad.1 ad.2 C tb (GL.eVar i)) (eXis C tb i) := by
  intro F S as ag g
  unfold eXis
  simp only [erS, List.getElem?_map]
  cases hi : as[i]? with
  | none => trivial
  | some z =>
    cases z with
    | xn D ns xs =>
      show SimO _ _ _ _ _ _ _ _ (match tb.lookup C with
    | some b => Out.ok (RV.v (.bl b)) (erS as) (erS ag)
    | none => Out.bad)
      cases hb : tb.lookup C with
      | none => trivial
      | some b =>
        refine sim_sc g (good_nd g) (fun _ h => by cases h) (.bl b) (fun ad => ?_)
        have e1 : GL.eVar i (glS as ag ad as) S = .ok (.xn ad.1 ad.2 D ns (A.pvs xs)) S := by
          unfold GL.eVar
          simp only [glS, List.getElem?_map, hi, Option.map_some, glv]
        show GL.eXis ad.1 ad.2 C tb (GL.eVar i) (glS as ag ad as) S = _
        unfold GL.eXis
        rw [e1]
        show (if ad.1 = ad.1 ∧ ad.2 = ad.2 then _ else _) = _
        rw [if_pos ⟨rfl, rfl⟩, hb]; rfl
    | _ => trivial
structure CM where
  tbl : List (Nm × Bool)
  i : Option Nat
  suite : Nm → MS
def setX (i : Nat) (o : Option V) (ls gh : Ls) : Option (Ls × Ls) := if i < ls.length then some ((ls.map (killR i)).set i o, gh.map (killR i)) else none
def clearO (i : Option Nat) (o : SOut) : SOut := match i with
  | none => (match o with
    | .exc _ _ _ => .bad
    | o => o)
  | some i => (match o with
    | .nx ls gh => (match setX i none ls gh with
      | some z => .nx z.1 z.2
      | none => .bad)
    | .bk ls gh => (match setX i none ls gh with
      | some z => .bk z.1 z.2
      | none => .bad)
    | .ct ls gh => (match setX i none ls gh with
      | some z => .ct z.1 z.2
      | none => .bad)
    | .rt d gh => .rt d gh
    | _ => .bad)
def noX : Ls → Bool := fun ls => ls.all fun z => match z with
  | some (.xn _ _ _) => false
  | _ => true
theorem glS_noX {zs : List AV} (h : noX (erS zs) = true) (hu : ∀ z ∈ zs, ∀ C ns xs, z ≠ .xn C ns xs) (ad : AD) : glS as ag ad zs = glS as ag (0, 0) zs := by
  refine List.map_congr_left fun z hz => ?_
  cases z with
  | xn C ns xs => exact absurd rfl (hu _ hz C ns xs)
  | _ => rfl
theorem noX_mem {zs : List AV} (h : noX (erS zs) = true) : ∀ z ∈ zs, ∀ C ns xs, z ≠ .xn C ns xs := fun z hz C ns xs e => by
  subst e
  have := List.all_eq_true.mp h _ (List.mem_map.mpr ⟨_, hz, rfl⟩)
  cases this
def ckX : SOut → SOut
  | .nx ls gh => if noX ls = true then .nx ls gh else .bad
  | .bk ls gh => if noX ls = true then .bk ls gh else .bad
  | .ct ls gh => if noX ls = true then .ct ls gh else .bad
  | .rt d gh => .rt d gh
  | _ => .bad
def catchM : List CM → Exn → Ls → Ls → SOut
  | [], ex, ls, gh => .exc ex ls gh
  | k :: r, ex, ls, gh => match k.tbl.lookup ex.cls with
    | some true => (match k.i with
      | none => ckX (clearO none (k.suite ex.cls ls gh))
      | some i => (match setX i (some (.xn ex.cls ex.ns ex.ds)) ls gh with
        | some z => ckX (clearO (some i) (k.suite ex.cls z.1 z.2))
        | none => .bad))
    | some false => catchM r ex ls gh
    | none => .bad
def sTry (body : MS) (cs : List CM) : MS := fun ls gh => match body ls gh with
  | .exc ex ls gh => if noX ls = true then catchM cs ex ls gh else .bad
  | r => r
inductive SimC : List GL.CM → List CM → Prop
  | nil : SimC [] []
  | cons {tb : List (Nm × Bool)} {i : Option Nat} {ms : Nat → Nat → Nm → GL.MS} {p : Nm → MS} {r : List GL.CM} {r' : List CM} : (∀ C, SimS (fun ad => ms ad.1 ad.2 C) (p C)) → SimC r r' → SimC (⟨tb, i, ms⟩ :: r) (⟨tb, i, p⟩ :: r')
theorem setX_sim {i : Nat} {z : AV} {ls' gh' : Ls} (g : Good F S as ag) (zf : z.fp = []) (zok : z.ok F S) (zal : ∀ as ag, Alive as ag z) (h : setX i z.er (erS as) (erS ag) = some (ls', gh')) :
    i < as.length ∧ erS (stA as ag i z).1 = ls' ∧ erS (stA as ag i z).2 = gh' ∧ Sv F S as ag [] F S (stA as ag i z).1 (stA as ag i z).2 [] := by
  unfold setX at h
  split at h
  · rename_i hi
    have hi : i < as.length := by simpa [erS] using hi
    have e := res_er (fun _ => z) [i] as ag
    simp only [Option.some.injEq] at h
    have e : (erS (stA as ag i z).1, erS (stA as ag i z).2) = (((erS as).map (killR i)).set i z.er, (erS ag).map (killR i)) := e
    rw [h] at e
    cases e
    exact ⟨hi, rfl, rfl, sv_set g (good_nd g) (fun _ h => by cases h) hi zok (zal _ _) (fun _ _ => .inr (by rw [zf]; exact List.nil_sublist _))⟩
  · cases h
theorem st_gl0 {i : Nat} {z : AV} (ad : AD) {o : Option PV} (hz : ∀ as ag, glv as ag ad z = o) : glS (stA as ag i z).1 (stA as ag i z).2 ad (stA as ag i z).1 = (glS as ag ad as).set i o := by
  show ((as.map (killRA as ag i)).set i z).map _ = _
  rw [List.map_set, hz, List.map_map]
  congr 1
  exact List.map_congr_left fun y _ => st_glv ad
theorem clear_sim {i : Option Nat} {o : AD → GL.SOut} {p : SOut} (h : SimSO F S as ag x0 o p) : SimSO F S as ag x0 (fun ad => GL.clearO i (o ad)) (clearO i p) := by
  cases i with
  | none =>
    cases p with
    | bad => trivial
    | exc e ls gh => trivial
    | nx ls gh => obtain ⟨F2, S2, as2, ag2, a1, a2, a3, a4⟩ := h; exact ⟨F2, S2, as2, ag2, a1, a2, fun ad => by show GL.clearO none (o ad) = _; rw [a3]; rfl, a4⟩
    | bk ls gh => obtain ⟨F2, S2, as2, ag2, a1, a2, a3, a4⟩ := h; exact ⟨F2, S2, as2, ag2, a1, a2, fun ad => by show GL.clearO none (o ad) = _; rw [a3]; rfl, a4⟩
    | ct ls gh => obtain ⟨F2, S2, as2, ag2, a1, a2, a3, a4⟩ := h; exact ⟨F2, S2, as2, ag2, a1, a2, fun ad => by show GL.clearO none (o ad) = _; rw [a3]; rfl, a4⟩
    | rt d gh => obtain ⟨F2, S2, ag2, a, a1, a2, a3, a4⟩ := h; exact ⟨F2, S2, ag2, a, a1, a2, fun ad => by show GL.clearO none (o ad) = _; rw [a3]; rfl, a4⟩
  | some i =>
    cases p with
    | bad => trivial
    | exc e ls gh => trivial
    | rt d gh => obtain ⟨F2, S2, ag2, a, a1, a2, a3, a4⟩ := h; exact ⟨F2, S2, ag2, a, a1, a2, fun ad => by show GL.clearO (some i) (o ad) = _; rw [a3]; rfl, a4⟩
    | nx ls gh =>
      obtain ⟨F2, S2, as2, ag2, rfl, rfl, a3, a4⟩ := h
      show SimSO _ _ _ _ _ _ (match setX i none (erS as2) (erS ag2) with | some z => .nx z.1 z.2 | none => .bad)
      cases hs : setX i none (erS as2) (erS ag2) with
      | none => trivial
      | some z =>
        obtain ⟨hi, e1, e2, sv⟩ := setX_sim (z := .un none) a4.good rfl trivial (fun _ _ => trivial) (show setX i (AV.un none).er _ _ = some (z.1, z.2) from hs)
        exact ⟨F2, S2, _, _, e1, e2, fun ad => by show GL.clearO (some i) (o ad) = _; rw [a3, st_gl0 ad (fun _ _ => rfl)]; rfl, a4.trans sv⟩
    | bk ls gh =>
      obtain ⟨F2, S2, as2, ag2, rfl, rfl, a3, a4⟩ := h
      show SimSO _ _ _ _ _ _ (match setX i none (erS as2) (erS ag2) with | some z => .bk z.1 z.2 | none => .bad)
      cases hs : setX i none (erS as2) (erS ag2) with
      | none => trivial
      | some z =>
        obtain ⟨hi, e1, e2, sv⟩ := setX_sim (z := .un none) a4.good rfl trivial (fun _ _ => trivial) (show setX i (AV.un none).er _ _ = some (z.1, z.2) from hs)
        exact ⟨F2, S2, _, _, e1, e2, fun ad => by show GL.clearO (some i) (o ad) = _; rw [a3, st_gl0 ad (fun _ _ => rfl)]; rfl, a4.trans sv⟩
    | ct ls gh =>
      obtain ⟨F2, S2, as2, ag2, rfl, rfl, a3, a4⟩ := h
      show SimSO _ _ _ _ _ _ (match setX i none (erS as2) (erS ag2) with | some z => .ct z.1 z.2 | none => .bad)
      cases hs : setX i none (erS as2) (erS ag2) with
      | none => trivial
      | some z =>
        obtain ⟨hi, e1, e2, sv⟩ := setX_sim (z := .un none) a4.good rfl trivial (fun _ _ => trivial) (show setX i (AV.un none).er _ _ = some (z.1, z.2) from hs)
        exact ⟨F2, S2, _, _, e1, e2, fun ad => by show GL.clearO (some i) (o ad) = _; rw [a3, st_gl0 ad (fun _ _ => rfl)]; rfl, a4.trans sv⟩
theorem any_sim {f : Nat → Nat → GL.SOut} {p : SOut} (h : SimSO F S as ag x0 (fun ad => f ad.1 ad.2) p) : SimSO F S as ag x0 (fun _ => GL.anyAD f) (ckX p) := by
  cases p with
  | bad => trivial
  | exc e ls gh => trivial
  | rt d gh =>
    obtain ⟨F2, S2, ag2, a, a1, a2, a3, a4⟩ := h
    exact ⟨F2, S2, ag2, a, a1, a2, fun _ => GL.anyAD_eq fun x y => a3 (x, y), a4⟩
  | nx ls gh =>
    obtain ⟨F2, S2, as2, ag2, rfl, rfl, a3, a4⟩ := h
    show SimSO _ _ _ _ _ _ (if noX (erS as2) = true then .nx (erS as2) (erS ag2) else .bad)
    by_cases hn : noX (erS as2) = true
    · rw [if_pos hn]
      refine ⟨F2, S2, as2, ag2, rfl, rfl, fun ad => ?_, a4⟩
      have e := fun ad => glS_noX (as := as2) (ag := ag2) hn (noX_mem hn) ad
      rw [e ad]
      exact GL.anyAD_eq fun x y => (a3 (x, y)).trans (by rw [e (x, y)])
    · rw [if_neg hn]; trivial
  | bk ls gh =>
    obtain ⟨F2, S2, as2, ag2, rfl, rfl, a3, a4⟩ := h
    show SimSO _ _ _ _ _ _ (if noX (erS as2) = true then .bk (erS as2) (erS ag2) else .bad)
    by_cases hn : noX (erS as2) = true
    · rw [if_pos hn]
      refine ⟨F2, S2, as2, ag2, rfl, rfl, fun ad => ?_, a4⟩
      have e := fun ad => glS_noX (as := as2) (ag := ag2) hn (noX_mem hn) ad
      rw [e ad]
      exact GL.anyAD_eq fun x y => (a3 (x, y)).trans (by rw [e (x, y)])
    · rw [if_neg hn]; trivial
  | ct ls gh =>
    obtain ⟨F2, S2, as2, ag2, rfl, rfl, a3, a4⟩ := h
    show SimSO _ _ _ _ _ _ (if noX (erS as2) = true then .ct (erS as2) (erS ag2) else .bad)
    by_cases hn : noX (erS as2) = true
    · rw [if_pos hn]
      refine ⟨F2, S2, as2, ag2, rfl, rfl, fun ad => ?_, a4⟩
      have e := fun ad => glS_noX (as := as2) (ag := ag2) hn (noX_mem hn) ad
      rw [e ad]
      exact GL.anyAD_eq fun x y => (a3 (x, y)).trans (by rw [e (x, y)])
    · rw [if_neg hn]; trivial
theorem catch_sim : ∀ {cs : List GL.CM} {ps : List CM}, SimC cs ps → ∀ (F : FM) (S : Sto) (as ag : List AV) (x : AE), Good F S as ag → noX (erS as) = true → x.ok F S → SimSO F S as ag [] (fun ad => GL.catchM cs x.gl (glS as ag ad as) S) (catchM ps x.er (erS as) (erS ag))
  | _, _, .nil, F, S, as, ag, x, g, _, xok => ⟨F, S, as, ag, x, rfl, rfl, rfl, fun _ => rfl, xok, Sv.refl g⟩
  | _, _, .cons (tb := tb) (i := i) (ms := ms) (p := p) (r := r) (r' := r') h hr, F, S, as, ag, x, g, hn, xok => by
    have ec := fun ad => glS_noX (as := as) (ag := ag) hn (noX_mem hn) ad
    show SimSO _ _ _ _ _ _ (match tb.lookup x.cls with
    | some true => (match i with
      | none => ckX (clearO none (p x.cls (erS as) (erS ag)))
      | some i => (match setX i (some (.xn x.cls x.ns (A.ers x.xs))) (erS as) (erS ag) with
        | some z => ckX (clearO (some i) (p x.cls z.1 z.2))
        | none => .bad))
    | some false => catchM r' x.er (erS as) (erS ag)
    | none => .bad)
    cases hl : tb.lookup x.cls with
    | none => trivial
    | some b =>
      have hl' : List.lookup x.gl.cls tb = some b := hl
      cases b with
      | false =>
        dsimp only
        refine (catch_sim hr F S as ag x g hn xok).cg fun ad => ?_
        show GL.catchM (⟨tb, i, ms⟩ :: r) x.gl (glS as ag ad as) S = _
        rw [GL.catchM]
        simp only [hl']
      | true =>
        dsimp only
        cases i with
        | none =>
          dsimp only
          have h1 := h x.cls F S as ag g
          have h2 := any_sim (f := fun a d => GL.clearO none (ms a d x.cls (glS as ag (a, d) as) S)) (clear_sim (i := none) h1)
          refine h2.cg fun ad => ?_
          show GL.catchM (⟨tb, none, ms⟩ :: r) x.gl (glS as ag ad as) S = _
          rw [GL.catchM]
          simp only [hl']
          congr 1
          funext a d
          rw [ec ad, ec (a, d)]; rfl
        | some i =>
          dsimp only
          cases hs : setX i (some (.xn x.cls x.ns (A.ers x.xs))) (erS as) (erS ag) with
          | none => trivial
          | some z =>
            dsimp only
            obtain ⟨hi, e1, e2, sv⟩ := setX_sim (z := .xn x.cls x.ns x.xs) g rfl ⟨xok.2.1, xok.2.2⟩ (fun _ _ => trivial) (show setX i (AV.xn x.cls x.ns x.xs).er _ _ = some (z.1, z.2) from hs)
            rw [← e1, ← e2]
            have h1 := h x.cls F S _ _ sv.good
            have h2 := any_sim (f := fun a d => GL.clearO (some i) (ms a d x.cls (glS (stA as ag i (.xn x.cls x.ns x.xs)).1 (stA as ag i (.xn x.cls x.ns x.xs)).2 (a, d) (stA as ag i (.xn x.cls x.ns x.xs)).1) S)) (clear_sim (i := some i) h1)
            refine SimSO.pre sv (h2.cg fun ad => ?_)
            show GL.catchM (⟨tb, some i, ms⟩ :: r) x.gl (glS as ag ad as) S = _
            rw [GL.catchM]
            simp only [hl']
            congr 1
            funext a d
            rw [st_gl0 (o := some (.xn a d x.cls x.ns (A.pvs x.xs))) (a, d) (fun _ _ => rfl), ec ad, ec (a, d)]
            have e3 : GL.xnOf a d x.gl = .xn a d x.cls x.ns (A.pvs x.xs) := by
              have hlen : x.ns.length = (A.pvs x.xs).length := by rw [pvs_len]; exact xok.1
              unfold GL.xnOf AE.gl
              simp only [List.map_fst_zip (Nat.le_of_eq hlen), List.map_snd_zip (Nat.le_of_eq hlen.symm)]
            rw [e3]; rfl
theorem sim_try {mb : AD → GL.MS} {pb : MS} {cs : List GL.CM} {ps : List CM} (hb : SimS mb pb) (hc : SimC cs ps) : SimS (fun ad => GL.sTry (mb ad) cs) (sTry pb ps) := by
  intro F S as ag g
  have h := hb F S as ag g
  have e0 : ∀ ad o, mb ad (glS as ag ad as) S = o → GL.sTry (mb ad) cs (glS as ag ad as) S = (match o with
    | .exc ex ls' S' => GL.catchM cs ex ls' S'
    | r => r) := fun ad o ho => by unfold GL.sTry; rw [ho]; all_goals (cases o <;> rfl)
  show SimSO _ _ _ _ _ _ (match pb (erS as) (erS ag) with
    | .exc ex ls gh => if noX ls = true then catchM ps ex ls gh else .bad
    | r => r)
  cases hp : pb (erS as) (erS ag) with
  | bad => trivial
  | nx ls gh => rw [hp] at h; obtain ⟨F2, S2, as2, ag2, a1, a2, a3, a4⟩ := h; exact ⟨F2, S2, as2, ag2, a1, a2, fun ad => e0 ad _ (a3 ad), a4⟩
  | bk ls gh => rw [hp] at h; obtain ⟨F2, S2, as2, ag2, a1, a2, a3, a4⟩ := h; exact ⟨F2, S2, as2, ag2, a1, a2, fun ad => e0 ad _ (a3 ad), a4⟩
  | ct ls gh => rw [hp] at h; obtain ⟨F2, S2, as2, ag2, a1, a2, a3, a4⟩ := h; exact ⟨F2, S2, as2, ag2, a1, a2, fun ad => e0 ad _ (a3 ad), a4⟩
  | rt d gh => rw [hp] at h; obtain ⟨F2, S2, ag2, a, a1, a2, a3, a4⟩ := h; exact ⟨F2, S2, ag2, a, a1, a2, fun ad => e0 ad _ (a3 ad), a4⟩
  | exc e ls gh =>
    rw [hp] at h
    obtain ⟨F2, S2, as2, ag2, x, rfl, rfl, rfl, a4, xok, sv⟩ := h
    dsimp only
    by_cases hn : noX (erS as2) = true
    · rw [if_pos hn]
      exact SimSO.pre sv ((catch_sim hc F2 S2 as2 ag2 x sv.good hn xok).cg fun ad => e0 ad _ (a4 ad))
    · rw [if_neg hn]; trivial
theorem vl_end {f : GL.MF} {p : MF} (hf : SimFn f p) (ns : List Int) (h : p [.v (.nd .fz .rol (ns.map D.int))] [] = .ok (.bl true) []) : ∃ S, f [.loc 0] [.rol (ns.map .int)] = .ok (.bl true) S := by
  let a : A := .nd .fz 0 .rol (aInts ns)
  let F : FM := fun n => if n = 0 then some (true, .rol (ns.map .int)) else none
  have fs : FS F [.rol (ns.map .int)] := fun n b o e => by
    by_cases hn : n = 0
    · subst hn
      have : (true, OB.rol (ns.map PV.int)) = (b, o) := by simpa [F] using e
      cases this; exact .inl rfl
    · simp [F, hn] at e
  have aok : a.ok F [.rol (ns.map .int)] := by
    simp only [a, A.ok]
    exact ⟨by simp [F, mkO, aInts_pv], rfl, aInts_fp ns, aInts_ok ns⟩
  have afp : a.fp = [] := by simp only [a, A.fp]; exact aInts_fp ns
  have g : Good F [.rol (ns.map .int)] [.v a] [] := by
    refine ⟨fs, fun z hz => ?_, ?_, fun z hz => ?_⟩
    · rw [List.append_nil, List.mem_singleton] at hz; subst hz; exact aok
    · simp [fpS, AV.fp, afp]
    · rw [List.append_nil, List.mem_singleton] at hz; subst hz; trivial
  have h2 := hf F _ [.v a] [] [.v (.nd .fz .rol (ns.map D.int))] [.loc 0] g (by simp [a, erS, AV.er, A.er, aInts_er]) (fun ad => rfl)
  have h3 : p [.v (.nd .fz .rol (ns.map D.int))] (([] : List A).map A.er) = .ok (.bl true) [] := h
  rw [h3] at h2
  obtain ⟨F', S', hs', b, _, e2, e3, _, _⟩ := h2
  have : b = .sc (.bl true) := er_sc e2
  subst this
  exact ⟨S', e3⟩
end VL
set_option Elab.async false
set_option linter.all false
set_option maxRecDepth 100000
set_option maxHeartbeats 1000000
namespace VL
open GL (PV OB Sto Nm BT lim)
open PySem (PyData Builtin)
variable {F F' F'' : FM} {S S' S'' : Sto} {as as' as'' ag ag' ag'' : List AV} {x0 x1 x2 : List Nat}
def flatP : List (PE × PE) → PA
  | [] => aNil
  | (k, v) :: r => aCons k (aCons v (flatP r))
end VL
set_option Elab.async false
set_option linter.all false
set_option maxRecDepth 100000
set_option maxHeartbeats 1000000
namespace VL
open GL (PV OB Sto Nm BT lim)
open PySem (PyData Builtin)
variable {F F' F'' : FM} {S S' S'' : Sto} {as as' as'' ag ag' ag'' : List AV} {x0 x1 x2 : List Nat}
theorem SimX.weak {α β γ : Type} {q q' : Bool} {R : RT α β γ} {m : AD → GL.Ls → Sto → GL.Out α} {p : PX β} (h : SimX q R m p) (hq : q' = true → q = true) : SimX q' R m p := fun F S as ag g => (h F S as ag g).weak hq
def kCh2 (g' : G2) (s : Sc) (c : PE) (z : RV) (ls gh : Ls) : Out RV := match z with
  | .v (.sc (.bl true)) => (c ls gh).bind fun u ls gh => g' (.v (.sc s)) u ls gh
  | .v (.sc (.bl false)) => .ok (.v (.bl false)) ls gh
  | _ => .bad
def kCh (g g' : G2) (c : PE) (x y : RV) (ls gh : Ls) : Out RV := match y with
  | .v (.sc s) => (g x (.v (.sc s)) ls gh).bind fun z ls gh => kCh2 g' s c z ls gh
  | _ => .bad
def eChain (g g' : G2) (a b c : PE) : PE := fun ls gh => (a ls gh).bind fun x ls gh => (b ls gh).bind fun y ls gh => kCh g g' c x y ls gh
def gCh2 (g' : PV → PV → Sto → GL.Out PV) (w2 : PV) (c : Sto → GL.Out PV) (z : PV) (S3 : Sto) : GL.Out PV := match z with
  | .bl true => (c S3).bind fun w3 S4 => g' w2 w3 S4
  | .bl false => .ok (.bl false) S3
  | _ => .bad
section
variable {qa : Bool} {ma mb mc : AD → GL.ME} {pa pb pc : PE} {gg gg' : PV → PV → Sto → GL.Out PV} {g g' : G2}
theorem sim_chain (ha : SimE qa ma pa) (hb : SimE true mb pb) (hc : SimE true mc pc) (hg : SimG true gg g) (hg' : SimG true gg' g') : SimE qa (fun ad => GL.eChain gg gg' (ma ad) (mb ad) (mc ad)) (eChain g g' pa pb pc) := fun F S as ag gd =>
  SimO.weak (sim_first (R' := RE) (q' := true && true) (k := fun (x : RV) (ls gh : Ls) => (pb ls gh).bind fun y ls gh => kCh g g' pc x y ls gh) (f := fun (ad : AD) (w1 : PV) (S1 : Sto) => (mb ad (glS as ag ad as) S1).bind fun w2 S2 => (gg w1 w2 S2).bind fun z S3 => gCh2 gg' w2 (mc ad (glS as ag ad as)) z S3) ha gd (fun _ => rfl) fun F1 S1 as1 ag1 c1 w1 h1 h2 g1 n1 l1 L1 =>
    sim_next (R0 := RE) (R := RE) (R' := RE) (k := fun y ls gh => kCh g g' pc (RE.er c1) y ls gh) (f := fun (ad : AD) (w2 : PV) (S2 : Sto) => (gg w1 w2 S2).bind fun z S3 => gCh2 gg' w2 (mc ad (glS as ag ad as)) z S3) hb g1 c1 h1 h2 n1 l1 (stab_re true c1 (.inl rfl)) L1 fun F2 S2 as2 ag2 c2 w2 h1 h2 h3 h4 g2 n2 l2 L2 => by
      show SimO _ _ _ _ _ _ _ _ (kCh g g' pc c1.er c2.er (erS as2) (erS ag2))
      unfold kCh
      split
      · rename_i s e
        have hop := hg F2 S2 as2 ag2 c1 c2 w1 w2 g2 n2 l2 h1 h3 h2 h4
        rw [e] at hop
        have hw := er_vsc e h3
        refine SimO.weak (sim_bind (q' := true) (R' := RE) (f := fun (ad : AD) (z : PV) (S3 : Sto) => gCh2 gg' w2 (mc ad (glS as ag ad as)) z S3) hop fun F3 S3 as3 ag3 c3 w3 p1 p2 ev => ?_) (by simp)
        have L3 : ∀ ad, glS as ag ad as = glS as3 ag3 ad as3 := fun ad => (L2 ad).trans (ev.gl ad).symm
        show SimO _ _ _ _ _ _ _ _ (kCh2 g' s pc c3.er (erS as3) (erS ag3))
        unfold kCh2
        split
        · rename_i e3
          rw [er_vsc e3 p1]
          refine nil_x0 ev.nd (SimO.weak (sim_first (R' := RE) (q' := true) (k := fun u ls gh => g' (.v (.sc s)) u ls gh) (f := fun (ad : AD) (w4 : PV) (S4 : Sto) => gg' w2 w4 S4) hc ev.good L3 fun F4 S4 as4 ag4 c4 w4 r1 r2 g4 n4 l4 L4 => ?_) (fun _ => rfl))
          have := hg' F4 S4 as4 ag4 (.v (.sc s)) c4 s.pv w4 g4 n4 l4 rfl r1 trivial r2
          rw [hw]
          exact this
        · rename_i e3
          rw [er_vsc e3 p1]
          exact sim_sc ev.good ev.nd ev.lt (.bl false) (fun _ => rfl)
        · trivial
      · trivial) (by simp)
end
end VL
set_option Elab.async false
set_option linter.all false
set_option maxRecDepth 100000
set_option maxHeartbeats 1000000
namespace VL
open GL (PV OB Sto Nm BT lim)
open PySem (PyData Builtin)
end VL
set_option Elab.async false
set_option linter.all false
set_option maxRecDepth 100000
set_option maxHeartbeats 1000000
namespace VL
open GL (PV OB Sto Nm BT lim)
open PySem (PyData Builtin)
variable {F F' F'' : FM} {S S' S'' : Sto} {as as' as'' ag ag' ag'' : List AV} {x0 x1 x2 : List Nat}
inductive ACv where
  | v (a : A) | al (s : List Nat)
def ACv.fp : ACv → List Nat
  | .v a => a.fp
  | _ => []
def ACv.ok (F : FM) (S : Sto) : ACv → Prop
  | .v a => a.ok F S
  | _ => True
def ACv.pv (x : A) : ACv → Option PV
  | .v a => some a.pv
  | .al s => (getA s x).map A.pv
end VL
set_option Elab.async false
set_option linter.all false
set_option maxRecDepth 100000
set_option maxHeartbeats 1000000
namespace VL
open GL (PV OB Sto Nm BT lim)
end VL
set_option Elab.async false
set_option linter.all false
set_option maxRecDepth 100000
set_option maxHeartbeats 1000000
namespace VL
open GL (PV OB Sto Nm BT lim)
end VL
set_option Elab.async false
set_option linter.all false
set_option maxRecDepth 100000
set_option maxHeartbeats 1000000
namespace VL
open GL (PV OB Sto Nm BT lim)
variable {F F' F1 : FM} {S S' S1 : Sto} {as ag as' ag' : List AV} {x0 : List Nat}
def hk : Hd → Nat × Nm
  | .lst => (0, [])
  | .rol => (1, [])
  | .dct _ => (2, [])
  | .ins C _ => (3, C)
  | .dcn _ => (4, [])
  | .ptp => (5, [])
end VL
set_option Elab.async false
set_option linter.all false
set_option maxRecDepth 100000
set_option maxHeartbeats 1000000
namespace VL
open GL (PV OB Sto Nm BT lim)
end VL
set_option Elab.async false
set_option linter.all false
set_option maxRecDepth 100000
set_option maxHeartbeats 1000000
namespace VL
open GL (PV OB Sto Nm BT lim)
end VL
set_option Elab.async false
set_option linter.all false
set_option maxRecDepth 100000
set_option maxHeartbeats 1000000
namespace VL
open GL (PV OB Sto Nm BT lim)
end VL
set_option Elab.async false
set_option linter.all false
set_option maxRecDepth 100000
set_option maxHeartbeats 1000000
namespace VL
open GL (PV OB Sto Nm BT lim)
end VL
set_option Elab.async false
set_option linter.all false
set_option maxRecDepth 100000
set_option maxHeartbeats 1000000
namespace VL
open GL (PV OB Sto Nm BT lim)
variable {F F' : FM} {S S' : Sto} {as ag as' ag' : List AV} {x0 : List Nat}
def isC (C : Nm) : D → Bool
  | .nd _ (.ins D _) _ => decide (D = C)
  | _ => false
theorem isC_gl {C : Nm} {a : A} (fs : FS F S) (ok : a.ok F S) (h : isC C a.er = true) : GL.isIn S a.pv C = true := by
  cases a with
  | sc s => cases h
  | tup xs => cases h
  | nd k n hd xs =>
    cases hd with
    | ins D ns =>
      have e := of_decide_eq_true (show decide (D = C) = true from h)
      subst e
      have ob := obj_of fs ok
      have ob := AtU.ins ob
      unfold GL.isIn
      simp only [GL.insAt, A.pv, ob, mkO, decide_true]
    | _ => cases h
def call2 (fn : MF) (x y : RV) (ls gh : Ls) : Out RV := match cvL true [x, y] ls gh with
  | some (ds, ls, gh) => callD fn (ds.map .v) ls gh
  | none => .bad
theorem call2_sim {f : GL.MF} {fn : MF} (hf : SimFn f fn) (g : Good F S as ag) {c1 c2 : ARV} {w1 w2 : PV} (nd : (fpS (as ++ ag) ++ (c1.fp ++ c2.fp)).Nodup) (lt : ∀ n ∈ c1.fp ++ c2.fp, n < S.length) (h1 : c1.pv as ag = some w1) (h2 : c2.pv as ag = some w2) (k1 : c1.ok F S) (k2 : c2.ok F S) :
    SimO true RE F S as ag (c1.fp ++ c2.fp) (fun _ => f [w1, w2] S) (call2 fn c1.er c2.er (erS as) (erS ag)) := by
  have e : RA.fp [c1, c2] = c1.fp ++ c2.fp := by show c1.fp ++ (c2.fp ++ []) = _; rw [List.append_nil]
  have h := call_args (dws := []) hf rfl g (cs := [c1, c2]) (ws := [w1, w2]) (by rw [e]; exact nd) (by rw [e]; exact lt) (seqO_mk h1 (seqO_mk h2 rfl)) (fun c hc => by
    rcases List.mem_cons.mp hc with rfl | hc
    · exact k1
    · rw [List.mem_singleton.mp hc]; exact k2)
  rw [e] at h
  have e2 : ∀ ds : List D, ds ++ dOfs [] = ds := fun ds => List.append_nil _
  simp only [e2] at h
  exact h
def gOwnB (C : Nm) (fn : MF) : G2 := fun x y ls gh => match val x ls gh, val y ls gh with
  | some a, some b => if (isC C a && isC C b) = true then (match call2 fn x y ls gh with
    | .ok (.v (.nd k h xs)) ls gh => .ok (.v (.nd k h xs)) ls gh
    | _ => .bad) else .bad
  | _, _ => .bad
theorem sim_gOwnB {f : GL.MF} {fn : MF} {C : Nm} (hf : SimFn f fn) : SimG true (GL.gOwnB C f) (gOwnB C fn) := by
  intro F S as ag c1 c2 w1 w2 g nd lt h1 h2 k1 k2
  unfold gOwnB
  split
  · rename_i a b e1 e2
    obtain ⟨a, rfl, rfl, aok, _⟩ := val_er c1 e1 h1 g k1
    obtain ⟨b, rfl, rfl, bok, _⟩ := val_er c2 e2 h2 g k2
    split
    · rename_i hz
      obtain ⟨z1, z2⟩ := Bool.and_eq_true_iff.mp hz
      have y1 := isC_gl g.fs aok z1
      have y2 := isC_gl g.fs bok z2
      have h := call2_sim hf g nd lt h1 h2 k1 k2
      split
      · rename_i k hd xs l1 l2 ec
        rw [ec] at h
        obtain ⟨F', S', as', ag', c, w, q1, q2, q3, q4, q5, q6, q7⟩ := h
        refine ⟨F', S', as', ag', c, w, q1, q2, q3, fun ad => ?_, q5, q6, q7⟩
        have q4 := q4 ad
        unfold GL.gOwnB
        rw [y1, y2]
        have q4 : f [a.pv, b.pv] S = .ok w S' := q4
        show (match f [a.pv, b.pv] S with
          | .ok (PV.loc n) S' => GL.Out.ok (PV.loc n) S'
          | _ => .bad) = _
        rw [q4]
        cases c with
        | pth r p => cases q3
        | v c =>
          have q3 : RV.v c.er = RV.v (.nd k hd xs) := q3
          injection q3 with q3
          cases c with
          | sc s => cases q3
          | tup ys => cases q3
          | nd k' n h' ys =>
            have q5 : some (A.nd k' n h' ys).pv = some w := q5
            injection q5 with q5
            rw [← q5]; rfl
      · trivial
    · trivial
  · trivial
end VL
set_option Elab.async false
set_option linter.all false
set_option maxRecDepth 100000
set_option maxHeartbeats 2000000
namespace VL
open GL (PV OB Sto Nm BT lim)
def eFz (m : PE) : PE := fun ls gh => (m ls gh).bind fun x ls gh => match cvR false x ls gh with
  | some (d, ls, gh) => .ok (.v d) ls gh
  | none => .bad
theorem gbind_ok {α : Type} {o : GL.Out α} : o.bind (fun a S => GL.Out.ok a S) = o := by cases o <;> rfl
theorem sim_fz {q : Bool} {mr : AD → GL.ME} {pr : PE} (h : SimE q mr pr) : SimE q mr (eFz pr) := fun F S as ag gd => by
  have z := sim_first (R' := RE) (q' := true) (k := fun x ls gh => match cvR false x ls gh with
    | some (d, ls, gh) => Out.ok (RV.v d) ls gh
    | none => .bad) (f := fun ad w S1 => GL.Out.ok w S1) h gd (fun _ => rfl) fun F1 S1 as1 ag1 c w h1 h2 g1 n1 l1 L1 => by
    cases hc : cvR false (ARV.er c) (erS as1) (erS ag1) with
    | none =>
      show SimO true RE F1 S1 as1 ag1 _ _ (match cvR false (ARV.er c) (erS as1) (erS ag1) with
        | some (d, ls, gh) => Out.ok (RV.v d) ls gh
        | none => .bad)
      rw [hc]; trivial
    | some t =>
      obtain ⟨d, l2, g2⟩ := t
      obtain ⟨F2, as2, ag2, a, rfl, rfl, rfl, rfl, aok, afp, ev⟩ := cv_sim0 g1 n1 l1 h1 h2 hc
      show SimO true RE F1 S1 as1 ag1 _ _ (match cvR false (ARV.er c) (erS as1) (erS ag1) with
        | some (d, ls, gh) => Out.ok (RV.v d) ls gh
        | none => .bad)
      rw [hc]
      refine SimO.pre ev ?_
      exact sim_okE ev.good ev.nd ev.lt (.v a) (fun _ => rfl) rfl rfl aok (List.Sublist.refl _)
  rw [Bool.and_true] at z
  simp only [gbind_ok] at z
  exact z
end VL
set_option Elab.async false
set_option linter.all false
set_option maxRecDepth 100000
set_option maxHeartbeats 1000000
namespace VL
open GL (PV OB Sto Nm lim)
def onTup (f : List D → List D) : Kd → List D → Option (List D) := fun k xs => match k with
  | .tup => some (f xs)
  | _ => none
def iRevT (m : PE) : PI := fun ls gh => (m ls gh).bind fun x ls gh => kSeq (onTup List.reverse) x ls gh
def gRevT (w : PV) (S1 : Sto) : GL.Out GL.Wk := match w with
  | .tup xs => .ok ⟨xs.reverse, GL.always⟩ S1
  | _ => .bad
variable {F F' : FM} {S S' : Sto} {as ag : List AV} {qa : Bool} {ma : AD → GL.ME} {pa : PE}
theorem sim_irevT (h : SimE qa ma pa) : SimI qa (fun ad => GL.iRevT (ma ad)) (iRevT pa) := fun F S as ag gd =>
  SimO.weak (sim_first (R' := RI) (q' := true) (k := fun x ls gh => kSeq (onTup List.reverse) x ls gh) (f := fun ad w S1 => gRevT w S1) h gd (fun _ => rfl) fun F1 S1 as1 ag1 c w h1 h2 g1 n1 l1 L1 => by
    show SimO _ _ _ _ _ _ _ _ (kSeq (onTup List.reverse) c.er (erS as1) (erS ag1))
    unfold kSeq
    cases hc : frzSeq c.er (erS as1) (erS ag1) with
    | none => trivial
    | some t =>
      obtain ⟨⟨k, ds⟩, l2, g2⟩ := t
      obtain ⟨F2, as2, ag2, ks, e1, e2, rfl, fk, ok, ev, hw⟩ := frzSeq_sim g1 n1 l1 h1 h2 hc
      have er : A.ers ks.reverse = (A.ers ks).reverse := by rw [ers_map, ers_map, List.map_reverse]
      have pr : A.pvs ks.reverse = (A.pvs ks).reverse := by rw [pvs_map, pvs_map, List.map_reverse]
      cases k with
      | tup =>
        have hw : w = .tup (A.pvs ks) := hw
        subst hw
        exact sim_okI ev (ks := ks.reverse) (chk := GL.always) (fun _ => by simp only [gRevT, pr]) er e1 e2 (rev_fp fk) (rev_ok ok) (fun _ _ _ _ _ => rfl)
      | lst => trivial
      | rol => trivial) (by simp)
end VL
set_option Elab.async false
set_option linter.all false
set_option maxRecDepth 100000
set_option maxHeartbeats 1000000
namespace VL
open GL (PV OB Sto Nm lim)
variable {F F' : FM} {S S' : Sto} {as ag : List AV}
def mUpper (x : RV) (ys : List RV) : PE := fun ls gh => match x, ys with
  | .v (.sc (.str a)), [] => if a.length ≤ 90000 then .ok (.v (.str (PySem.Txt.upper (GL.toS a)).cps.toList)) ls gh else .bad
  | _, _ => .bad
theorem sim_mUpper : SimM true GL.mUpper mUpper := by
  intro F S as ag c cs w ws g nd lt h1 h2 k1 k2
  unfold mUpper
  split
  · rename_i a e1 e2
    match cs with
    | _ :: _ => simp at e2
    | [] =>
      cases h2
      rw [er_vsc e1 h1]
      by_cases hl : a.length ≤ 90000
      · rw [if_pos hl]
        refine sim_okE g nd lt (.v (.sc (.str _))) (w := .str _) (fun _ => ?_) rfl rfl trivial (List.nil_sublist _)
        simp only [GL.mUpper, Sc.pv, if_pos hl]
      · rw [if_neg hl]; trivial
  · trivial
def strsD : List D → Option (List Nm)
  | [] => some []
  | .sc (.str s) :: r => (strsD r).map (s :: ·)
  | _ :: _ => none
theorem strsD_er : ∀ {ks : List A} {ys : List Nm}, strsD (A.ers ks) = some ys → GL.strsP (A.pvs ks) = some ys
  | [], ys, h => by cases h; rfl
  | a :: r, ys, h => by
    cases a with
    | sc s =>
      cases s with
      | str s =>
        have h : (strsD (A.ers r)).map (s :: ·) = some ys := h
        obtain ⟨zs, hz, rfl⟩ := Option.map_eq_some_iff.mp h
        show (GL.strsP (A.pvs r)).map (s :: ·) = _
        rw [strsD_er hz]; rfl
      | _ => cases h
    | _ => cases h
def jnOk (a : Nm) (ys : List Nm) : Bool := decide (a.length ≤ 1000) && decide (ys.length ≤ 1000) && ys.all (fun y => decide (y.length ≤ 1000))
def mJoin (x : RV) (ys : List RV) : PE := fun ls gh => match x, ys with
  | .v (.sc (.str a)), [y] => (match seqV y ls gh with
    | some (.tup, _) => .bad
    | some (_, xs) => (match strsD xs with
      | some ys => if jnOk a ys = true then .ok (.v (.str (PySem.Txt.join (GL.toS a) (ys.map GL.toS)).cps.toList)) ls gh else .bad
      | none => .bad)
    | none => .bad)
  | _, _ => .bad
theorem sim_mJoin : SimM true GL.mJoin mJoin := by
  intro F S as ag c cs w ws g nd lt h1 h2 k1 k2
  unfold mJoin
  split
  · rename_i a y e1 e2
    match cs with
    | [] => simp at e2
    | _ :: _ :: _ => simp at e2
    | [c2] =>
      obtain ⟨w2, t, hw, ht, rfl⟩ := seqO_cons h2
      cases ht
      have e2 : c2.er = y := by simpa using e2
      rw [er_vsc e1 h1]
      subst e2
      cases hv : seqV c2.er (erS as) (erS ag) with
      | none => trivial
      | some p =>
        obtain ⟨k, xs⟩ := p
        obtain ⟨ks, rfl, sg, ok, fpk, _, _⟩ := seqV_er hv hw g (k2 c2 List.mem_cons_self)
        have fin : ∀ n, w2 = .loc n → GL.seqAt S n = some (A.pvs ks) → SimO true RE F S as ag (c.fp ++ RA.fp [c2]) (fun _ => GL.mJoin (Sc.pv (.str a)) [w2] S) (match strsD (A.ers ks) with
          | some ys => if jnOk a ys = true then .ok (.v (.str (PySem.Txt.join (GL.toS a) (ys.map GL.toS)).cps.toList)) (erS as) (erS ag) else .bad
          | none => .bad) := fun n e hs => by
          subst e
          cases hd : strsD (A.ers ks) with
          | none => trivial
          | some ys =>
            dsimp only
            by_cases hl : jnOk a ys = true
            · rw [if_pos hl]
              refine sim_okE g nd lt (.v (.sc (.str _))) (w := .str _) (fun _ => ?_) rfl rfl trivial (List.nil_sublist _)
              have hl2 := hl
              unfold jnOk at hl2
              simp only [GL.mJoin, Sc.pv, hs, strsD_er hd]
              rw [if_pos hl2]
            · rw [if_neg hl]; trivial
        cases k with
        | tup => trivial
        | lst => obtain ⟨n, rfl, hs⟩ := sg; exact fin n rfl (seqAt_of hs)
        | rol => obtain ⟨n, rfl, hs⟩ := sg; exact fin n rfl (seqAt_of' hs)
  · trivial
def k1Repl (y z : Nm) (x : RV) : PE := fun ls gh => match x with
  | .v (.sc (.str s)) => if (decide (s.length ≤ 1000) && decide (z.length ≤ 1000)) = true then .ok (.v (.str (PySem.Txt.replace (GL.toS s) (GL.toS y) (GL.toS z)).cps.toList)) ls gh else .bad
  | _ => .bad
def gRepl (y z : Nm) (w : PV) (S1 : Sto) : GL.Out PV := match w with
  | .str s => if (decide (s.length ≤ 1000) && decide (z.length ≤ 1000)) = true then .ok (.str (PySem.Txt.replace (GL.toS s) (GL.toS y) (GL.toS z)).cps.toList) S1 else .bad
  | _ => .bad
def eRepl (y z : Nm) (m : PE) : PE := e1 (k1Repl y z) m
theorem sim_repl {q : Bool} {ma : AD → GL.ME} {pa : PE} {y z : Nm} (h : SimE q ma pa) : SimE q (fun ad => GL.eRepl y z (ma ad)) (eRepl y z pa) := fun F S as ag gd =>
  SimO.weak (sim_e1 (qf := true) (ff := gRepl y z) h (by
    intro F S as ag c w g nd lt hp hk
    unfold k1Repl
    split
    · rename_i s e
      rw [er_vsc e hp]
      by_cases hl : (decide (s.length ≤ 1000) && decide (z.length ≤ 1000)) = true
      · rw [if_pos hl]
        refine sim_okE g nd lt (.v (.sc (.str _))) (w := .str _) (fun _ => ?_) rfl rfl trivial (List.nil_sublist _)
        simp only [gRepl, Sc.pv, if_pos hl]
      · rw [if_neg hl]; trivial
    · trivial) F S as ag gd) (by simp)
def k1TupG (tb : List (Nm × PV)) (x : RV) : PE := fun ls gh => match x with
  | .v (.sc (.gl c)) => (match tb.lookup c with
    | some w => if rig w = true then .ok (.v (dOf w)) ls gh else .bad
    | none => .bad)
  | _ => .bad
def gTupG (tb : List (Nm × PV)) (w : PV) (S1 : Sto) : GL.Out PV := match w with
  | .gl c => (match tb.lookup c with
    | some x => .ok x S1
    | none => .bad)
  | _ => .bad
def eTupG (tb : List (Nm × PV)) (m : PE) : PE := e1 (k1TupG tb) m
theorem sim_tupG {q : Bool} {ma : AD → GL.ME} {pa : PE} {tb : List (Nm × PV)} (h : SimE q ma pa) : SimE q (fun ad => GL.eTupG tb (ma ad)) (eTupG tb pa) := fun F S as ag gd =>
  SimO.weak (sim_e1 (qf := true) (ff := gTupG tb) h (by
    intro F S as ag c w g nd lt hp hk
    unfold k1TupG
    split
    · rename_i s e
      rw [er_vsc e hp]
      cases hl : tb.lookup s with
      | none => trivial
      | some x =>
        dsimp only
        by_cases hr : rig x = true
        · rw [if_pos hr]
          exact sim_okE g nd lt (.v (aOf x)) (fun ad => by simp only [gTupG, Sc.pv, hl]; rw [aOf_pv hr]) (by show RV.v (aOf x).er = _; rw [aOf_er]) rfl (aOf_fp x).2 (by show (A.fp _).Sublist _; rw [(aOf_fp (F := F) (S := S) x).1]; exact List.nil_sublist _)
        · rw [if_neg hr]; trivial
    · trivial) F S as ag gd) (by simp)
def kGl (tb : List (Nm × PV)) : D → Bool
  | .sc (.gl c) => (tb.lookup c).isSome
  | _ => false
theorem sim_kGl {tb : List (Nm × PV)} : SimK (GL.kGl tb) (kGl tb) := by
  intro F S a fs ok h
  cases a with
  | sc s => cases s <;> first | exact h | cases h
  | tup xs => cases h
  | nd k n hd xs => cases h
def mGIdx (tb : List (Nm × PV)) (x : RV) (ys : List RV) : PE := fun ls gh => match x, ys with
  | .v (.sc (.gl c)), [.v (.sc (.str z))] => (match tb.lookup c with
    | some (.tup xs) => (match GL.strsP xs with
      | some ys => (match GL.fstIx z ys with
        | some j => .ok (.v (.int (j : Nat))) ls gh
        | none => .bad)
      | none => .bad)
    | _ => .bad)
  | _, _ => .bad
theorem sim_mGIdx {tb : List (Nm × PV)} : SimM true (GL.mGIdx tb) (mGIdx tb) := by
  intro F S as ag c cs w ws g nd lt h1 h2 k1 k2
  unfold mGIdx
  split
  · rename_i s z e1 e2
    match cs with
    | [] => simp at e2
    | _ :: _ :: _ => simp at e2
    | [c2] =>
      obtain ⟨w2, t, hw, ht, rfl⟩ := seqO_cons h2
      cases ht
      have e2 : c2.er = .v (.sc (.str z)) := by simpa using e2
      rw [er_vsc e1 h1, er_vsc e2 hw]
      split
      · rename_i xs hl
        split
        · rename_i ys hy
          split
          · rename_i j hj
            refine sim_okE g nd lt (.v (.sc (.int (j : Nat)))) (w := .int (j : Nat)) (fun _ => ?_) rfl rfl trivial (List.nil_sublist _)
            simp only [GL.mGIdx, Sc.pv, hl, hy, hj]
          · trivial
        · trivial
      · trivial
  · trivial
end VL
set_option Elab.async false
set_option linter.all false
set_option maxRecDepth 100000
set_option maxHeartbeats 1000000
namespace K29.V
open VL
open PySem (Str)
def m_law_row : MS := (sSeq (sSet 2 (eLst aNil))
  (sSeq (sFor (iSeq (eVar 0)) (gN 3)
  (sSeq (sSet 4 (eB fAbs (aCons (eB fInt (aCons (eVar 3) aNil)) aNil)))
  (sFor (iR1 (eC (.int 60))) (gN 5)
  (sSeq (sIf (toT (eOp gLt (eB fLen (aCons (eVar 2) aNil)) (eVar 1)))
  (sExpr (eMt kList mAppend (eVar 2) (aCons (eOp gMod (eVar 4) (eC (.int 16))) aNil)))
  sNil)
  (sSeq (sSet 4 (eOp gDiv (eVar 4) (eC (.int 16))))
  (sIf (toT (eOp gEq (eVar 4) (eC (.int 0))))
  sBk
  sNil))))))
  (sRet (eVar 2))))
abbrev f_law_row : MF := fnOf 2 6 m_law_row
theorem s_m_law_row : SimS (fun _ => K29.m_law_row) m_law_row := (sim_seq (sim_set (sim_lst sim_anil))
  (sim_seq (sim_for (sim_iseq (sim_var 0)) (sim_gN (vs := [3]) (by decide))
  (sim_seq (sim_set (sim_b (sim_acons (sim_b (sim_acons (sim_var 3) sim_anil) sim_fInt) sim_anil) sim_fAbs))
  (sim_for (sim_ir1 (sim_c rfl)) (sim_gN (vs := [5]) (by decide))
  (sim_seq (sim_sif (sim_toT (sim_op (sim_b (sim_acons (sim_var 2) sim_anil) sim_fLen) (sim_var 1) sim_gLt))
  (sim_expr (sim_mt sim_kList sim_mAppend (sim_var 2) (sim_acons (sim_op (sim_var 4) (sim_c rfl) sim_gMod) sim_anil)))
  sim_nil)
  (sim_seq (sim_set (sim_op (sim_var 4) (sim_c rfl) sim_gDiv))
  (sim_sif (sim_toT (sim_op (sim_var 4) (sim_c rfl) sim_gEq))
  sim_bk
  sim_nil))))))
  (sim_ret (sim_var 2))))
theorem s_f_law_row : SimFn K29.f_law_row f_law_row := sim_fn s_m_law_row
def m_law_rules : MS := (sSeq (sSet 0 (eC (.str n_invalidate_store_invalidate_de)))
  (sSeq (sSet 0 (eOp gAdd (eVar 0) (eC (.str n__invalidate_rights_key_level_l))))
  (sSeq (sSet 0 (eOp gAdd (eVar 0) (eC (.str n__stop_page_stop_store_no_links))))
  (sSeq (sSet 0 (eOp gAdd (eVar 0) (eC (.str n__map_fault_flush_fault_map_lea))))
  (sRet (eMt kStr mSplit (eVar 0) (aCons (eC (.str n__)) aNil)))))))
abbrev f_law_rules : MF := fnOf 0 1 m_law_rules
theorem s_m_law_rules : SimS (fun _ => K29.m_law_rules) m_law_rules := (sim_seq (sim_set (sim_c rfl))
  (sim_seq (sim_set (sim_op (sim_var 0) (sim_c rfl) sim_gAdd))
  (sim_seq (sim_set (sim_op (sim_var 0) (sim_c rfl) sim_gAdd))
  (sim_seq (sim_set (sim_op (sim_var 0) (sim_c rfl) sim_gAdd))
  (sim_ret (sim_mt sim_kStr sim_mSplit (sim_var 0) (sim_acons (sim_c rfl) sim_anil)))))))
theorem s_f_law_rules : SimFn K29.f_law_rules f_law_rules := sim_fn s_m_law_rules
def m_law_digit : MS := (sSeq (sIf (toT (eOp gLt (eVar 1) (eB fLen (aCons (eVar 0) aNil))))
  (sRet (eOp gIx (eVar 0) (eVar 1)))
  sNil)
  (sRet (eC (.int 0))))
abbrev f_law_digit : MF := fnOf 2 2 m_law_digit
theorem s_m_law_digit : SimS (fun _ => K29.m_law_digit) m_law_digit := (sim_seq (sim_sif (sim_toT (sim_op (sim_var 1) (sim_b (sim_acons (sim_var 0) sim_anil) sim_fLen) sim_gLt))
  (sim_ret (sim_op (sim_var 0) (sim_var 1) sim_gIx))
  sim_nil)
  (sim_ret (sim_c rfl)))
theorem s_f_law_digit : SimFn K29.f_law_digit f_law_digit := sim_fn s_m_law_digit
def m_Policy_init : MS := (sSeq (sSet 2 (eLst aNil))
  (sSeq (sFor (iSeq (eVar 1)) (gN 3)
  (sSeq (sIf (tOrM (toT (eOp (inM true) (eVar 3) (eC w_RULES))) (toT (eOp (inM false) (eVar 3) (eVar 2))))
  (sRaise1 n_PolicyError n_name (eVar 3))
  sNil)
  (sExpr (eMt kList mAppend (eVar 2) (aCons (eVar 3) aNil)))))
  (sFldM tab n_names (eVar 0) (eB fTuple (aCons (eLc (iSeq (eC w_RULES)) (gN 3) (toT (eOp (inM false) (eVar 3) (eVar 2))) (eVar 3) [3]) aNil)))))
abbrev f_Policy_init : MF := fnOf 2 4 m_Policy_init
theorem s_m_Policy_init : SimS (fun _ => K29.m_Policy_init) m_Policy_init := (sim_seq (sim_set (sim_lst sim_anil))
  (sim_seq (sim_for (sim_iseq (sim_var 1)) (sim_gN (vs := [3]) (by decide))
  (sim_seq (sim_sif (sim_tor (sim_toT (sim_op (sim_var 3) (sim_c rfl) (sim_inM true))) (sim_toT (sim_op (sim_var 3) (sim_var 2) (sim_inM false))))
  (sim_raise (sim_var 3))
  sim_nil)
  (sim_expr (sim_mt sim_kList sim_mAppend (sim_var 2) (sim_acons (sim_var 3) sim_anil)))))
  (sim_sfld (sim_var 0) (sim_b (sim_acons (sim_lc (sim_iseq (sim_c rfl)) (sim_gN (vs := [3]) (by decide)) (sim_toT (sim_op (sim_var 3) (sim_var 2) (sim_inM false))) (sim_var 3)) sim_anil) sim_fTuple))))
theorem s_f_Policy_init : SimFn K29.f_Policy_init f_Policy_init := sim_fn s_m_Policy_init
def m_Policy_sub : MS := (sRet (eMake n_Policy f_Policy_init [] (aCons (eLc (iSeq (eFld tab n_names (eVar 0))) (gN 2) (toT (eOp (inM true) (eVar 2) (eFld tab n_names (eVar 1)))) (eVar 2) [2]) aNil)))
abbrev f_Policy_sub : MF := fnOf 2 3 m_Policy_sub
theorem s_m_Policy_sub : SimS (fun _ => K29.m_Policy_sub) m_Policy_sub := (sim_ret (sim_make s_f_Policy_init rfl (sim_acons (sim_lc (sim_iseq (sim_fld (sim_var 0))) (sim_gN (vs := [2]) (by decide)) (sim_toT (sim_op (sim_var 2) (sim_fld (sim_var 1)) (sim_inM true))) (sim_var 2)) sim_anil)))
theorem s_f_Policy_sub : SimFn K29.f_Policy_sub f_Policy_sub := sim_fn s_m_Policy_sub
def m_Policy_or : MS := (sRet (eMake n_Policy f_Policy_init [] (aCons (eLc (iSeq (eC w_RULES)) (gN 2) (tOrM (toT (eOp (inM false) (eVar 2) (eFld tab n_names (eVar 0)))) (toT (eOp (inM false) (eVar 2) (eFld tab n_names (eVar 1))))) (eVar 2) [2]) aNil)))
abbrev f_Policy_or : MF := fnOf 2 3 m_Policy_or
theorem s_m_Policy_or : SimS (fun _ => K29.m_Policy_or) m_Policy_or := (sim_ret (sim_make s_f_Policy_init rfl (sim_acons (sim_lc (sim_iseq (sim_c rfl)) (sim_gN (vs := [2]) (by decide)) (sim_tor (sim_toT (sim_op (sim_var 2) (sim_fld (sim_var 0)) (sim_inM false))) (sim_toT (sim_op (sim_var 2) (sim_fld (sim_var 1)) (sim_inM false)))) (sim_var 2)) sim_anil)))
theorem s_f_Policy_or : SimFn K29.f_Policy_or f_Policy_or := sim_fn s_m_Policy_or
def m_law_whole : MS := (sRet (eAndM (eB fIsi (aCons (eVar 0) (aCons (eC (.ty .int)) aNil))) (eNotM (eB fIsi (aCons (eVar 0) (aCons (eC (.ty .bool)) aNil))))))
abbrev f_law_whole : MF := fnOf 1 1 m_law_whole
theorem s_m_law_whole : SimS (fun _ => K29.m_law_whole) m_law_whole := (sim_ret (sim_and (sim_b (sim_acons (sim_var 0) (sim_acons (sim_c rfl) sim_anil)) sim_fIsi) (sim_not (sim_b (sim_acons (sim_var 0) (sim_acons (sim_c rfl) sim_anil)) sim_fIsi))))
theorem s_f_law_whole : SimFn K29.f_law_whole f_law_whole := sim_fn s_m_law_whole
def m_law_equal : MS := (sSeq (sSet 2 (eLst (aCons (eTup (aCons (eVar 0) (aCons (eVar 1) aNil))) aNil)))
  (sSeq (sFor (iR1 (eC (.int 6000))) (gN 3)
  (sSeq (sIf (toT (eOp gEq (eB fLen (aCons (eVar 2) aNil)) (eC (.int 0))))
  (sRet (eC (.bl true)))
  sNil)
  (sSeq (sSet 4 (eMt kList mPop (eVar 2) aNil))
  (sSeq (sSet 5 (eOp gIx (eVar 4) (eC (.int 0))))
  (sSeq (sSet 6 (eOp gIx (eVar 4) (eC (.int 1))))
  (sIf (tOrM (toT (eOp (isM false) (eVar 6) (eC .non))) (toT (eB fIsi (aCons (eVar 6) (aCons (eC (.ty .bool)) aNil)))))
  (sIf (tOrM (toT (eOp gNe (eB fIsi (aCons (eVar 5) (aCons (eC (.ty .bool)) aNil))) (eB fIsi (aCons (eVar 6) (aCons (eC (.ty .bool)) aNil))))) (toT (eOp gNe (eVar 5) (eVar 6))))
  (sRet (eC (.bl false)))
  sNil)
  (sIf (toT (eB fIsi (aCons (eVar 6) (aCons (eC (.ty .int)) aNil))))
  (sIf (tOrM (tNotM (toT (eCall f_law_whole [] (aCons (eVar 5) aNil)))) (toT (eOp gNe (eVar 5) (eVar 6))))
  (sRet (eC (.bl false)))
  sNil)
  (sIf (toT (eB fIsi (aCons (eVar 6) (aCons (eC (.ty .str)) aNil))))
  (sIf (tOrM (tNotM (toT (eB fIsi (aCons (eVar 5) (aCons (eC (.ty .str)) aNil))))) (toT (eOp gNe (eVar 5) (eVar 6))))
  (sRet (eC (.bl false)))
  sNil)
  (sSeq (sIf (tOrM (toT (eOp gNe (eB fIsi (aCons (eVar 5) (aCons (eC (.ty .list)) aNil))) (eB fIsi (aCons (eVar 6) (aCons (eC (.ty .list)) aNil))))) (toT (eOp gNe (eB fIsi (aCons (eVar 5) (aCons (eC (.ty .tuple)) aNil))) (eB fIsi (aCons (eVar 6) (aCons (eC (.ty .tuple)) aNil))))))
  (sRet (eC (.bl false)))
  sNil)
  (sSeq (sIf (toT (eB fIsi (aCons (eVar 6) (aCons (eC (.ty .dict)) aNil))))
  (sSeq (sIf (tOrM (tNotM (toT (eB fIsi (aCons (eVar 5) (aCons (eC (.ty .dict)) aNil))))) (toT (eOp gNe (eB fList (aCons (eVar 5) aNil)) (eB fList (aCons (eVar 6) aNil)))))
  (sRet (eC (.bl false)))
  sNil)
  (sSeq (sSet 5 (eLc (iSeq (eVar 6)) (gN 7) tYesM (eOp gIx (eVar 5) (eVar 7)) [7]))
  (sSet 6 (eLc (iSeq (eVar 6)) (gN 7) tYesM (eOp gIx (eVar 6) (eVar 7)) [7]))))
  sNil)
  (sSeq (sIf (toT (eOp gNe (eB fLen (aCons (eVar 5) aNil)) (eB fLen (aCons (eVar 6) aNil))))
  (sRet (eC (.bl false)))
  sNil)
  (sFor (iR1 (eB fLen (aCons (eVar 6) aNil))) (gN 8)
  (sExpr (eMt kList mAppend (eVar 2) (aCons (eTup (aCons (eOp gIx (eVar 5) (eVar 8)) (aCons (eOp gIx (eVar 6) (eVar 8)) aNil))) aNil)))))))))))))))
  (sRet (eC (.bl false)))))
abbrev f_law_equal : MF := fnOf 2 9 m_law_equal
theorem s_m_law_equal : SimS (fun _ => K29.m_law_equal) m_law_equal := (sim_seq (sim_set (sim_lst (sim_acons (sim_tup (sim_acons (sim_var 0) (sim_acons (sim_var 1) sim_anil))) sim_anil)))
  (sim_seq (sim_for (sim_ir1 (sim_c rfl)) (sim_gN (vs := [3]) (by decide))
  (sim_seq (sim_sif (sim_toT (sim_op (sim_b (sim_acons (sim_var 2) sim_anil) sim_fLen) (sim_c rfl) sim_gEq))
  (sim_ret (sim_c rfl))
  sim_nil)
  (sim_seq (sim_set (sim_mt sim_kList sim_mPop (sim_var 2) sim_anil))
  (sim_seq (sim_set (sim_op (sim_var 4) (sim_c rfl) sim_gIx))
  (sim_seq (sim_set (sim_op (sim_var 4) (sim_c rfl) sim_gIx))
  (sim_sif (sim_tor (sim_toT (sim_op (sim_var 6) (sim_c rfl) (sim_isM false))) (sim_toT (sim_b (sim_acons (sim_var 6) (sim_acons (sim_c rfl) sim_anil)) sim_fIsi)))
  (sim_sif (sim_tor (sim_toT (sim_op (sim_b (sim_acons (sim_var 5) (sim_acons (sim_c rfl) sim_anil)) sim_fIsi) (sim_b (sim_acons (sim_var 6) (sim_acons (sim_c rfl) sim_anil)) sim_fIsi) sim_gNe)) (sim_toT (sim_op (sim_var 5) (sim_var 6) sim_gNe)))
  (sim_ret (sim_c rfl))
  sim_nil)
  (sim_sif (sim_toT (sim_b (sim_acons (sim_var 6) (sim_acons (sim_c rfl) sim_anil)) sim_fIsi))
  (sim_sif (sim_tor (sim_tnot (sim_toT (sim_call s_f_law_whole rfl (sim_acons (sim_var 5) sim_anil)))) (sim_toT (sim_op (sim_var 5) (sim_var 6) sim_gNe)))
  (sim_ret (sim_c rfl))
  sim_nil)
  (sim_sif (sim_toT (sim_b (sim_acons (sim_var 6) (sim_acons (sim_c rfl) sim_anil)) sim_fIsi))
  (sim_sif (sim_tor (sim_tnot (sim_toT (sim_b (sim_acons (sim_var 5) (sim_acons (sim_c rfl) sim_anil)) sim_fIsi))) (sim_toT (sim_op (sim_var 5) (sim_var 6) sim_gNe)))
  (sim_ret (sim_c rfl))
  sim_nil)
  (sim_seq (sim_sif (sim_tor (sim_toT (sim_op (sim_b (sim_acons (sim_var 5) (sim_acons (sim_c rfl) sim_anil)) sim_fIsi) (sim_b (sim_acons (sim_var 6) (sim_acons (sim_c rfl) sim_anil)) sim_fIsi) sim_gNe)) (sim_toT (sim_op (sim_b (sim_acons (sim_var 5) (sim_acons (sim_c rfl) sim_anil)) sim_fIsi) (sim_b (sim_acons (sim_var 6) (sim_acons (sim_c rfl) sim_anil)) sim_fIsi) sim_gNe)))
  (sim_ret (sim_c rfl))
  sim_nil)
  (sim_seq (sim_sif (sim_toT (sim_b (sim_acons (sim_var 6) (sim_acons (sim_c rfl) sim_anil)) sim_fIsi))
  (sim_seq (sim_sif (sim_tor (sim_tnot (sim_toT (sim_b (sim_acons (sim_var 5) (sim_acons (sim_c rfl) sim_anil)) sim_fIsi))) (sim_toT (sim_op (sim_b (sim_acons (sim_var 5) sim_anil) sim_fList) (sim_b (sim_acons (sim_var 6) sim_anil) sim_fList) sim_gNe)))
  (sim_ret (sim_c rfl))
  sim_nil)
  (sim_seq (sim_set (sim_lc (sim_iseq (sim_var 6)) (sim_gN (vs := [7]) (by decide)) sim_tyes (sim_op (sim_var 5) (sim_var 7) sim_gIx)))
  (sim_set (sim_lc (sim_iseq (sim_var 6)) (sim_gN (vs := [7]) (by decide)) sim_tyes (sim_op (sim_var 6) (sim_var 7) sim_gIx)))))
  sim_nil)
  (sim_seq (sim_sif (sim_toT (sim_op (sim_b (sim_acons (sim_var 5) sim_anil) sim_fLen) (sim_b (sim_acons (sim_var 6) sim_anil) sim_fLen) sim_gNe))
  (sim_ret (sim_c rfl))
  sim_nil)
  (sim_for (sim_ir1 (sim_b (sim_acons (sim_var 6) sim_anil) sim_fLen)) (sim_gN (vs := [8]) (by decide))
  (sim_expr (sim_mt sim_kList sim_mAppend (sim_var 2) (sim_acons (sim_tup (sim_acons (sim_op (sim_var 5) (sim_var 8) sim_gIx) (sim_acons (sim_op (sim_var 6) (sim_var 8) sim_gIx) sim_anil))) sim_anil)))))))))))))))
  (sim_ret (sim_c rfl))))
theorem s_f_law_equal : SimFn K29.f_law_equal f_law_equal := sim_fn s_m_law_equal
def m_law_number : MS := (sSeq (sSet 1 (eC (.int 0)))
  (sSeq (sSet 2 (eC (.int 1)))
  (sSeq (sFor (iSeq (eCall f_law_rules [] aNil)) (gN 3)
  (sSeq (sIf (toT (eOp (inM false) (eVar 3) (eVar 0)))
  (sSet 1 (eOp gAdd (eVar 1) (eVar 2)))
  sNil)
  (sSet 2 (eOp gMul (eC (.int 2)) (eVar 2)))))
  (sRet (eVar 1)))))
abbrev f_law_number : MF := fnOf 1 4 m_law_number
theorem ac_law_number_1 : SimA true (fun _ => GL.aNil) aNil := sim_anil
theorem c_law_number_1 : SimE true (fun _ => GL.eCall K29.f_law_rules [] GL.aNil) (eCall f_law_rules [] aNil) := by with_reducible exact sim_call (q := true) (f := K29.f_law_rules) (fn := f_law_rules) (dws := []) (mr := fun _ => GL.aNil) (pr := aNil) s_f_law_rules rfl ac_law_number_1
theorem s_m_law_number : SimS (fun _ => K29.m_law_number) m_law_number := (sim_seq (sim_set (sim_c rfl))
  (sim_seq (sim_set (sim_c rfl))
  (sim_seq (sim_for (sim_iseq c_law_number_1) (sim_gN (vs := [3]) (by decide))
  (sim_seq (sim_sif (sim_toT (sim_op (sim_var 3) (sim_var 0) (sim_inM false)))
  (sim_set (sim_op (sim_var 1) (sim_var 2) sim_gAdd))
  sim_nil)
  (sim_set (sim_op (sim_c rfl) (sim_var 2) sim_gMul))))
  (sim_ret (sim_var 1)))))
theorem s_f_law_number : SimFn K29.f_law_number f_law_number := sim_fn s_m_law_number
def m_Policy_has : MS := (sRet (eOp (inM false) (eVar 1) (eFld tab n_names (eVar 0))))
abbrev f_Policy_has : MF := fnOf 2 2 m_Policy_has
theorem s_m_Policy_has : SimS (fun _ => K29.m_Policy_has) m_Policy_has := (sim_ret (sim_op (sim_var 1) (sim_fld (sim_var 0)) (sim_inM false)))
theorem s_f_Policy_has : SimFn K29.f_Policy_has f_Policy_has := sim_fn s_m_Policy_has
def m_policy_number : MS := (sSeq (sSet 1 (eC (.int 0)))
  (sSeq (sFor (iRevT (eC w_RULES)) (gN 2)
  (sSet 1 (eOp gAdd (eOp gMul (eC (.int 2)) (eVar 1)) (eB fInt (aCons (eMeth n_Policy n_has f_Policy_has [] (eVar 0) (aCons (eVar 2) aNil)) aNil)))))
  (sRet (eVar 1))))
abbrev f_policy_number : MF := fnOf 1 3 m_policy_number
theorem s_m_policy_number : SimS (fun _ => K29.m_policy_number) m_policy_number := (sim_seq (sim_set (sim_c rfl))
  (sim_seq (sim_for (sim_irevT (sim_c rfl)) (sim_gN (vs := [2]) (by decide))
  (sim_set (sim_op (sim_op (sim_c rfl) (sim_var 1) sim_gMul) (sim_b (sim_acons (sim_meth s_f_Policy_has rfl (sim_var 0) (sim_acons (sim_var 2) sim_anil)) sim_anil) sim_fInt) sim_gAdd)))
  (sim_ret (sim_var 1))))
theorem s_f_policy_number : SimFn K29.f_policy_number f_policy_number := sim_fn s_m_policy_number
def m_policy_numbered : MS := (sSeq (sIf (tNotM (toT (eChain gLe gLe (eC (.int 0)) (eVar 0) (eC w_MOST_NUMBER))))
  (sRaise1 n_SettingError n_name (eC (.str n_number)))
  sNil)
  (sSeq (sSet 1 (eLst aNil))
  (sSeq (sFor (iSeq (eC w_RULES)) (gN 2)
  (sSeq (sIf (toT (eOp gEq (eOp gMod (eVar 0) (eC (.int 2))) (eC (.int 1))))
  (sExpr (eMt kList mAppend (eVar 1) (aCons (eVar 2) aNil)))
  sNil)
  (sSet 0 (eOp gDiv (eVar 0) (eC (.int 2))))))
  (sRet (eMake n_Policy f_Policy_init [] (aCons (eVar 1) aNil))))))
abbrev f_policy_numbered : MF := fnOf 1 3 m_policy_numbered
theorem s_m_policy_numbered : SimS (fun _ => K29.m_policy_numbered) m_policy_numbered := (sim_seq (sim_sif (sim_tnot (sim_toT (sim_chain (sim_c rfl) (sim_var 0) (sim_c rfl) sim_gLe sim_gLe)))
  (sim_raise (sim_c rfl))
  sim_nil)
  (sim_seq (sim_set (sim_lst sim_anil))
  (sim_seq (sim_for (sim_iseq (sim_c rfl)) (sim_gN (vs := [2]) (by decide))
  (sim_seq (sim_sif (sim_toT (sim_op (sim_op (sim_var 0) (sim_c rfl) sim_gMod) (sim_c rfl) sim_gEq))
  (sim_expr (sim_mt sim_kList sim_mAppend (sim_var 1) (sim_acons (sim_var 2) sim_anil)))
  sim_nil)
  (sim_set (sim_op (sim_var 0) (sim_c rfl) sim_gDiv))))
  (sim_ret (sim_make s_f_Policy_init rfl (sim_acons (sim_var 1) sim_anil))))))
theorem s_f_policy_numbered : SimFn K29.f_policy_numbered f_policy_numbered := sim_fn s_m_policy_numbered
def m_law_chosen : MS := (sSeq (sSet 1 (eLst aNil))
  (sSeq (sSet 2 (eVar 0))
  (sSeq (sFor (iSeq (eCall f_law_rules [] aNil)) (gN 3)
  (sSeq (sIf (toT (eOp gEq (eOp gMod (eB fInt (aCons (eVar 2) aNil)) (eC (.int 2))) (eC (.int 1))))
  (sExpr (eMt kList mAppend (eVar 1) (aCons (eVar 3) aNil)))
  sNil)
  (sSet 2 (eOp gDiv (eVar 2) (eC (.int 2))))))
  (sRet (eVar 1)))))
abbrev f_law_chosen : MF := fnOf 1 4 m_law_chosen
theorem ac_law_chosen_2 : SimA true (fun _ => GL.aNil) aNil := sim_anil
theorem c_law_chosen_2 : SimE true (fun _ => GL.eCall K29.f_law_rules [] GL.aNil) (eCall f_law_rules [] aNil) := by with_reducible exact sim_call (q := true) (f := K29.f_law_rules) (fn := f_law_rules) (dws := []) (mr := fun _ => GL.aNil) (pr := aNil) s_f_law_rules rfl ac_law_chosen_2
theorem s_m_law_chosen : SimS (fun _ => K29.m_law_chosen) m_law_chosen := (sim_seq (sim_set (sim_lst sim_anil))
  (sim_seq (sim_set (sim_var 0))
  (sim_seq (sim_for (sim_iseq c_law_chosen_2) (sim_gN (vs := [3]) (by decide))
  (sim_seq (sim_sif (sim_toT (sim_op (sim_op (sim_b (sim_acons (sim_var 2) sim_anil) sim_fInt) (sim_c rfl) sim_gMod) (sim_c rfl) sim_gEq))
  (sim_expr (sim_mt sim_kList sim_mAppend (sim_var 1) (sim_acons (sim_var 3) sim_anil)))
  sim_nil)
  (sim_set (sim_op (sim_var 2) (sim_c rfl) sim_gDiv))))
  (sim_ret (sim_var 1)))))
theorem s_f_law_chosen : SimFn K29.f_law_chosen f_law_chosen := sim_fn s_m_law_chosen
def m_law_both : MS := (sSeq (sSet 1 (eFz (eCall f_law_chosen [] (aCons (eVar 0) aNil))))
  (sSeq (sSet 2 (eFz (eCall f_policy_numbered [] (aCons (eVar 0) aNil))))
  (sSeq (sIf (tOrM (tNotM (toT (eCall f_law_equal [] (aCons (eFld tab n_names (eVar 2)) (aCons (eB fTuple (aCons (eVar 1) aNil)) aNil))))) (toT (eOp gNe (eCall f_law_number [] (aCons (eVar 1) aNil)) (eVar 0))))
  (sRet (eC (.bl false)))
  sNil)
  (sRet (eAndM (eCall f_law_equal [] (aCons (eCall f_policy_number [] (aCons (eVar 2) aNil)) (aCons (eVar 0) aNil))) (eCall f_law_equal [] (aCons (eCall f_policy_number [] (aCons (eFz (eMake n_Policy f_Policy_init [] (aCons (eVar 1) aNil))) aNil)) (aCons (eVar 0) aNil))))))))
abbrev f_law_both : MF := fnOf 1 3 m_law_both
theorem s_m_law_both : SimS (fun _ => K29.m_law_both) m_law_both := (sim_seq (sim_set (sim_fz (sim_call s_f_law_chosen rfl (sim_acons (sim_var 0) sim_anil))))
  (sim_seq (sim_set (sim_fz (sim_call s_f_policy_numbered rfl (sim_acons (sim_var 0) sim_anil))))
  (sim_seq (sim_sif (sim_tor (sim_tnot (sim_toT (sim_call s_f_law_equal rfl (sim_acons (sim_fld (sim_var 2)) (sim_acons (sim_b (sim_acons (sim_var 1) sim_anil) sim_fTuple) sim_anil))))) (sim_toT (sim_op (sim_call s_f_law_number rfl (sim_acons (sim_var 1) sim_anil)) (sim_var 0) sim_gNe)))
  (sim_ret (sim_c rfl))
  sim_nil)
  (sim_ret (sim_and (sim_call s_f_law_equal rfl (sim_acons (sim_call s_f_policy_number rfl (sim_acons (sim_var 2) sim_anil)) (sim_acons (sim_var 0) sim_anil))) (sim_call s_f_law_equal rfl (sim_acons (sim_call s_f_policy_number rfl (sim_acons (sim_fz (sim_make s_f_Policy_init rfl (sim_acons (sim_var 1) sim_anil))) sim_anil)) (sim_acons (sim_var 0) sim_anil))))))))
theorem s_f_law_both : SimFn K29.f_law_both f_law_both := sim_fn s_m_law_both
def m_law_refused_number : MS := (sSeq (sTry (sExpr (eCall f_policy_numbered [] (aCons (eVar 0) aNil))) [⟨tbE_SettingError, some 1, fun C => (sSeq (sSet 2 (eXis C tbI_0 1))
  (sRet (eAndM (eOp gEq (eXf n_name 1) (eC (.str n_number))) (eAndM (eXis C tbI_1 1) (eAndM (eXis C tbI_2 1) (eNotM (eVar 2)))))))⟩])
  (sRet (eC (.bl false))))
abbrev f_law_refused_number : MF := fnOf 1 3 m_law_refused_number
theorem s_m_law_refused_number : SimS (fun _ => K29.m_law_refused_number) m_law_refused_number := (sim_seq (sim_try (sim_expr (sim_call s_f_policy_numbered rfl (sim_acons (sim_var 0) sim_anil))) (.cons (fun C => (sim_seq (sim_set sim_xis)
  (sim_ret (sim_and (sim_op sim_xf (sim_c rfl) sim_gEq) (sim_and sim_xis (sim_and sim_xis (sim_not (sim_var 2)))))))) .nil))
  (sim_ret (sim_c rfl)))
theorem s_f_law_refused_number : SimFn K29.f_law_refused_number f_law_refused_number := sim_fn s_m_law_refused_number
def m_describe : MS := (sSeq (sFor (iSeq (eTup (aCons (eTup (aCons (eC (.str n_Code)) (aCons (eC (.gl n_CODE_RULES)) aNil))) (aCons (eTup (aCons (eC (.str n_Value)) (aCons (eC (.gl n_VALUE_RULES)) aNil))) (aCons (eTup (aCons (eC (.str n_Interrupt)) (aCons (eC (.gl n_POLL_RULES)) aNil))) aNil))))) (gT (gsCons (gN 1) (gsCons (gN 2) gsNil)))
  (sIf (toT (eOp (inM false) (eVar 0) (eTupG gtb_describe (eVar 2))))
  (sSeq (sSet 3 (eRepl n___1 n__ (eVar 0)))
  (sRet (fJs [(eFmt (eVar 1)), (eC (.str n__rule_)), (eFmt (eOp gAdd (eMt (kGl gtb_describe) (mGIdx gtb_describe) (eVar 2) (aCons (eVar 0) aNil)) (eC (.int 1)))), (eC (.str n__of_)), (eFmt (eB fLen (aCons (eTupG gtb_describe (eVar 2)) aNil))), (eC (.str n___)), (eFmt (eVar 3)), (eC (.str n___2))] [])))
  sNil))
  (sRaise1 n_PolicyError n_name (eVar 0)))
abbrev f_describe : MF := fnOf 1 4 m_describe
theorem s_m_describe : SimS (fun _ => K29.m_describe) m_describe := (sim_seq (sim_for (sim_iseq (sim_tup (sim_acons (sim_tup (sim_acons (sim_c rfl) (sim_acons (sim_c rfl) sim_anil))) (sim_acons (sim_tup (sim_acons (sim_c rfl) (sim_acons (sim_c rfl) sim_anil))) (sim_acons (sim_tup (sim_acons (sim_c rfl) (sim_acons (sim_c rfl) sim_anil))) sim_anil))))) (sim_gT (sim_gscons (sim_gN (vs := [1, 2]) (by decide)) (sim_gscons (sim_gN (vs := [1, 2]) (by decide)) sim_gsnil)))
  (sim_sif (sim_toT (sim_op (sim_var 0) (sim_tupG (sim_var 2)) (sim_inM false)))
  (sim_seq (sim_set (sim_repl (sim_var 0)))
  (sim_ret (sim_js (.cons (sim_fmt (sim_var 1)) (.cons (sim_c rfl) (.cons (sim_fmt (sim_op (sim_mt sim_kGl sim_mGIdx (sim_var 2) (sim_acons (sim_var 0) sim_anil)) (sim_c rfl) sim_gAdd)) (.cons (sim_c rfl) (.cons (sim_fmt (sim_b (sim_acons (sim_tupG (sim_var 2)) sim_anil) sim_fLen)) (.cons (sim_c rfl) (.cons (sim_fmt (sim_var 3)) (.cons (sim_c rfl) .nil)))))))) [])))
  sim_nil))
  (sim_raise (sim_var 0)))
theorem s_f_describe : SimFn K29.f_describe f_describe := sim_fn s_m_describe
def m_law_refused_name : MS := (sSeq (sTry (sExpr (eCall f_describe [] (aCons (eVar 0) aNil))) [⟨tbE_PolicyError, some 1, fun C => (sSeq (sSet 2 (eXis C tbI_3 1))
  (sRet (eAndM (eOp gEq (eXf n_name 1) (eVar 0)) (eAndM (eXis C tbI_1 1) (eAndM (eXis C tbI_2 1) (eNotM (eVar 2)))))))⟩])
  (sRet (eC (.bl false))))
abbrev f_law_refused_name : MF := fnOf 1 3 m_law_refused_name
theorem s_m_law_refused_name : SimS (fun _ => K29.m_law_refused_name) m_law_refused_name := (sim_seq (sim_try (sim_expr (sim_call s_f_describe rfl (sim_acons (sim_var 0) sim_anil))) (.cons (fun C => (sim_seq (sim_set sim_xis)
  (sim_ret (sim_and (sim_op sim_xf (sim_var 0) sim_gEq) (sim_and sim_xis (sim_and sim_xis (sim_not (sim_var 2)))))))) .nil))
  (sim_ret (sim_c rfl)))
theorem s_f_law_refused_name : SimFn K29.f_law_refused_name f_law_refused_name := sim_fn s_m_law_refused_name
def m_law_sentences : MS := (sSeq (sSet 0 (eFz (eCall f_law_rules [] aNil)))
  (sSeq (sFor (iR1 (eC (.int 29))) (gN 1)
  (sSeq (sSet 2 (eC (.str n_Code_rule_)))
  (sSeq (sSet 3 (eOp gAdd (eVar 1) (eC (.int 1))))
  (sSeq (sSet 4 (eC (.int 18)))
  (sSeq (sIf (toT (eChain gLe gLt (eC (.int 18)) (eVar 1) (eC (.int 27))))
  (sSeq (sSet 2 (eC (.str n_Value_rule_)))
  (sSeq (sSet 3 (eOp gSub (eVar 1) (eC (.int 17))))
  (sSet 4 (eC (.int 9)))))
  (sIf (toT (eOp gGe (eVar 1) (eC (.int 27))))
  (sSeq (sSet 2 (eC (.str n_Interrupt_rule_)))
  (sSeq (sSet 3 (eOp gSub (eVar 1) (eC (.int 26))))
  (sSet 4 (eC (.int 2)))))
  sNil))
  (sSeq (sSet 5 (eMt kStr mJoin (eC (.str n__)) (aCons (eMt kStr mSplit (eOp gIx (eVar 0) (eVar 1)) (aCons (eC (.str n___1)) aNil)) aNil)))
  (sSeq (sIf (tNotM (toT (eCall f_law_equal [] (aCons (eCall f_describe [] (aCons (eOp gIx (eVar 0) (eVar 1)) aNil)) (aCons (eOp gAdd (eOp gAdd (eOp gAdd (eOp gAdd (eOp gAdd (eOp gAdd (eVar 2) (eB fStr (aCons (eVar 3) aNil))) (eC (.str n__of_))) (eB fStr (aCons (eVar 4) aNil))) (eC (.str n___))) (eVar 5)) (eC (.str n___2))) aNil)))))
  (sRet (eC (.bl false)))
  sNil)
  (sFor (iSeq (eLst (aCons (eSl (eOp gIx (eVar 0) (eVar 1)) (oYes (eC (.int 1))) oNo) (aCons (eOp gAdd (eOp gIx (eVar 0) (eVar 1)) (eC (.str n__))) (aCons (eOp gAdd (eC (.str n__)) (eOp gIx (eVar 0) (eVar 1))) (aCons (eMt kStr mUpper (eOp gIx (eVar 0) (eVar 1)) aNil) (aCons (eOp gAdd (eOp gIx (eVar 0) (eVar 1)) (eC (.str n_s))) (aCons (eOp gAdd (eC (.str n_no_)) (eVar 5)) aNil)))))))) (gN 6)
  (sIf (tNotM (toT (eCall f_law_refused_name [] (aCons (eVar 6) aNil))))
  (sRet (eC (.bl false)))
  sNil)))))))))
  (sRet (eAndM (eCall f_law_refused_name [] (aCons (eC (.str n_empty)) aNil)) (eAndM (eCall f_law_refused_name [] (aCons (eC (.str n_rule)) aNil)) (eCall f_law_refused_name [] (aCons (eC (.str n_track_frames)) aNil)))))))
abbrev f_law_sentences : MF := fnOf 0 7 m_law_sentences
theorem ac_law_sentences_3 : SimA true (fun _ => GL.aNil) aNil := sim_anil
theorem c_law_sentences_3 : SimE true (fun _ => GL.eCall K29.f_law_rules [] GL.aNil) (eCall f_law_rules [] aNil) := by with_reducible exact sim_call (q := true) (f := K29.f_law_rules) (fn := f_law_rules) (dws := []) (mr := fun _ => GL.aNil) (pr := aNil) s_f_law_rules rfl ac_law_sentences_3
theorem ac_law_sentences_4 : SimA true (fun _ => (GL.aCons (GL.eC (.str n_empty)) GL.aNil)) (aCons (eC (.str n_empty)) aNil) := (sim_acons (sim_c rfl) sim_anil)
theorem c_law_sentences_4 : SimE true (fun _ => GL.eCall K29.f_law_refused_name [] (GL.aCons (GL.eC (.str n_empty)) GL.aNil)) (eCall f_law_refused_name [] (aCons (eC (.str n_empty)) aNil)) := by with_reducible exact sim_call (q := true) (f := K29.f_law_refused_name) (fn := f_law_refused_name) (dws := []) (mr := fun _ => (GL.aCons (GL.eC (.str n_empty)) GL.aNil)) (pr := (aCons (eC (.str n_empty)) aNil)) s_f_law_refused_name rfl ac_law_sentences_4
theorem ac_law_sentences_5 : SimA true (fun _ => (GL.aCons (GL.eC (.str n_rule)) GL.aNil)) (aCons (eC (.str n_rule)) aNil) := (sim_acons (sim_c rfl) sim_anil)
theorem c_law_sentences_5 : SimE true (fun _ => GL.eCall K29.f_law_refused_name [] (GL.aCons (GL.eC (.str n_rule)) GL.aNil)) (eCall f_law_refused_name [] (aCons (eC (.str n_rule)) aNil)) := by with_reducible exact sim_call (q := true) (f := K29.f_law_refused_name) (fn := f_law_refused_name) (dws := []) (mr := fun _ => (GL.aCons (GL.eC (.str n_rule)) GL.aNil)) (pr := (aCons (eC (.str n_rule)) aNil)) s_f_law_refused_name rfl ac_law_sentences_5
theorem ac_law_sentences_6 : SimA true (fun _ => (GL.aCons (GL.eC (.str n_track_frames)) GL.aNil)) (aCons (eC (.str n_track_frames)) aNil) := (sim_acons (sim_c rfl) sim_anil)
theorem c_law_sentences_6 : SimE true (fun _ => GL.eCall K29.f_law_refused_name [] (GL.aCons (GL.eC (.str n_track_frames)) GL.aNil)) (eCall f_law_refused_name [] (aCons (eC (.str n_track_frames)) aNil)) := by with_reducible exact sim_call (q := true) (f := K29.f_law_refused_name) (fn := f_law_refused_name) (dws := []) (mr := fun _ => (GL.aCons (GL.eC (.str n_track_frames)) GL.aNil)) (pr := (aCons (eC (.str n_track_frames)) aNil)) s_f_law_refused_name rfl ac_law_sentences_6
theorem s_m_law_sentences : SimS (fun _ => K29.m_law_sentences) m_law_sentences := (sim_seq (sim_set (sim_fz c_law_sentences_3))
  (sim_seq (sim_for (sim_ir1 (sim_c rfl)) (sim_gN (vs := [1]) (by decide))
  (sim_seq (sim_set (sim_c rfl))
  (sim_seq (sim_set (sim_op (sim_var 1) (sim_c rfl) sim_gAdd))
  (sim_seq (sim_set (sim_c rfl))
  (sim_seq (sim_sif (sim_toT (sim_chain (sim_c rfl) (sim_var 1) (sim_c rfl) sim_gLe sim_gLt))
  (sim_seq (sim_set (sim_c rfl))
  (sim_seq (sim_set (sim_op (sim_var 1) (sim_c rfl) sim_gSub))
  (sim_set (sim_c rfl))))
  (sim_sif (sim_toT (sim_op (sim_var 1) (sim_c rfl) sim_gGe))
  (sim_seq (sim_set (sim_c rfl))
  (sim_seq (sim_set (sim_op (sim_var 1) (sim_c rfl) sim_gSub))
  (sim_set (sim_c rfl))))
  sim_nil))
  (sim_seq (sim_set (sim_mt sim_kStr sim_mJoin (sim_c rfl) (sim_acons (sim_mt sim_kStr sim_mSplit (sim_op (sim_var 0) (sim_var 1) sim_gIx) (sim_acons (sim_c rfl) sim_anil)) sim_anil)))
  (sim_seq (sim_sif (sim_tnot (sim_toT (sim_call s_f_law_equal rfl (sim_acons (sim_call s_f_describe rfl (sim_acons (sim_op (sim_var 0) (sim_var 1) sim_gIx) sim_anil)) (sim_acons (sim_op (sim_op (sim_op (sim_op (sim_op (sim_op (sim_var 2) (sim_b (sim_acons (sim_var 3) sim_anil) sim_fStr) sim_gAdd) (sim_c rfl) sim_gAdd) (sim_b (sim_acons (sim_var 4) sim_anil) sim_fStr) sim_gAdd) (sim_c rfl) sim_gAdd) (sim_var 5) sim_gAdd) (sim_c rfl) sim_gAdd) sim_anil)))))
  (sim_ret (sim_c rfl))
  sim_nil)
  (sim_for (sim_iseq (sim_lst (sim_acons (sim_sl (sim_op (sim_var 0) (sim_var 1) sim_gIx) (sim_oyes (sim_c rfl)) sim_ono) (sim_acons (sim_op (sim_op (sim_var 0) (sim_var 1) sim_gIx) (sim_c rfl) sim_gAdd) (sim_acons (sim_op (sim_c rfl) (sim_op (sim_var 0) (sim_var 1) sim_gIx) sim_gAdd) (sim_acons (sim_mt sim_kStr sim_mUpper (sim_op (sim_var 0) (sim_var 1) sim_gIx) sim_anil) (sim_acons (sim_op (sim_op (sim_var 0) (sim_var 1) sim_gIx) (sim_c rfl) sim_gAdd) (sim_acons (sim_op (sim_c rfl) (sim_var 5) sim_gAdd) sim_anil)))))))) (sim_gN (vs := [6]) (by decide))
  (sim_sif (sim_tnot (sim_toT (sim_call s_f_law_refused_name rfl (sim_acons (sim_var 6) sim_anil))))
  (sim_ret (sim_c rfl))
  sim_nil)))))))))
  (sim_ret (sim_and c_law_sentences_4 (sim_and c_law_sentences_5 c_law_sentences_6)))))
theorem s_f_law_sentences : SimFn K29.f_law_sentences f_law_sentences := sim_fn s_m_law_sentences
def m_law : MS := (sSeq (sSet 1 (eFz (eCall f_law_row [] (aCons (eVar 0) (aCons (eC (.int 66)) aNil)))))
  (sSeq (sSet 2 (eFz (eCall f_law_rules [] aNil)))
  (sSeq (sSet 3 (eFz (eLc (iR1 (eC (.int 29))) (gN 4) (toT (eOp gEq (eOp gMod (eB fInt (aCons (eOp gAdd (eCall f_law_digit [] (aCons (eVar 1) (aCons (eVar 4) aNil))) (eOp gDiv (eVar 4) (eC (.int 2)))) aNil)) (eC (.int 2))) (eC (.int 1)))) (eOp gIx (eVar 2) (eVar 4)) [4])))
  (sSeq (sSet 5 (eFz (eLc (iR1 (eC (.int 29))) (gN 4) (toT (eOp gEq (eOp gMod (eB fInt (aCons (eOp gAdd (eCall f_law_digit [] (aCons (eVar 1) (aCons (eOp gAdd (eC (.int 29)) (eVar 4)) aNil))) (eVar 4)) aNil)) (eC (.int 3))) (eC (.int 0)))) (eOp gIx (eVar 2) (eVar 4)) [4])))
  (sSeq (sSet 6 (eC (.int 0)))
  (sSeq (sFor (iR1 (eC (.int 8))) (gN 4)
  (sSet 6 (eOp gAdd (eOp gMul (eC (.int 16)) (eVar 6)) (eCall f_law_digit [] (aCons (eVar 1) (aCons (eOp gAdd (eC (.int 58)) (eVar 4)) aNil))))))
  (sSeq (sSet 6 (eOp gMod (eB fInt (aCons (eOp gAdd (eVar 6) (eC (.int 305419896))) aNil)) (eC (.int 536870912))))
  (sSeq (sSet 7 (eFz (eMake n_Policy f_Policy_init [] (aCons (eVar 3) aNil))))
  (sSeq (sSet 8 (eFz (eMake n_Policy f_Policy_init [] (aCons (eVar 5) aNil))))
  (sSeq (sSet 9 (eFz (eLc (iSeq (eVar 2)) (gN 10) (tOrM (toT (eOp (inM false) (eVar 10) (eVar 3))) (toT (eOp (inM false) (eVar 10) (eVar 5)))) (eVar 10) [10])))
  (sSeq (sSet 11 (eFz (eLc (iSeq (eVar 3)) (gN 10) (toT (eOp (inM true) (eVar 10) (eVar 5))) (eVar 10) [10])))
  (sSeq (sFor (iSeq (eLst (aCons (eTup (aCons (eVar 7) (aCons (eVar 3) aNil))) (aCons (eTup (aCons (eVar 8) (aCons (eVar 5) aNil))) (aCons (eTup (aCons (eOp (gOwnB n_Policy f_Policy_or) (eVar 7) (eVar 8)) (aCons (eVar 9) aNil))) (aCons (eTup (aCons (eOp (gOwnB n_Policy f_Policy_sub) (eVar 7) (eVar 8)) (aCons (eVar 11) aNil))) (aCons (eTup (aCons (eVar 7) (aCons (eVar 3) aNil))) aNil))))))) (gN 12)
  (sSeq (sIf (tNotM (toT (eCall f_law_equal [] (aCons (eCall f_policy_number [] (aCons (eOp gIx (eVar 12) (eC (.int 0))) aNil)) (aCons (eCall f_law_number [] (aCons (eOp gIx (eVar 12) (eC (.int 1))) aNil)) aNil)))))
  (sRet (eC (.bl false)))
  sNil)
  (sIf (tNotM (toT (eCall f_law_equal [] (aCons (eFld tab n_names (eCall f_policy_numbered [] (aCons (eCall f_law_number [] (aCons (eOp gIx (eVar 12) (eC (.int 1))) aNil)) aNil))) (aCons (eB fTuple (aCons (eOp gIx (eVar 12) (eC (.int 1))) aNil)) aNil)))))
  (sRet (eC (.bl false)))
  sNil)))
  (sSeq (sSet 13 (eLst (aCons (eVar 6) (aCons (eOp gSub (eC (.int 536870911)) (eVar 6)) (aCons (eC (.int 0)) (aCons (eC (.int 536870911)) aNil))))))
  (sSeq (sSet 14 (eC (.int 1)))
  (sSeq (sFor (iR1 (eC (.int 29))) (gN 4)
  (sSeq (sExpr (eMt kList mAppend (eVar 13) (aCons (eVar 14) aNil)))
  (sSet 14 (eOp gMul (eC (.int 2)) (eVar 14)))))
  (sSeq (sFor (iSeq (eVar 13)) (gN 15)
  (sIf (tNotM (toT (eCall f_law_both [] (aCons (eVar 15) aNil))))
  (sRet (eC (.bl false)))
  sNil))
  (sSeq (sFor (iSeq (eLst (aCons (eNegM (eC (.int 1))) (aCons (eC (.int 536870912)) (aCons (eOp gSub (eNegM (eC (.int 2))) (eVar 6)) (aCons (eOp gAdd (eC (.int 536870913)) (eVar 6)) (aCons (eC (.int 1073741824)) (aCons (eNegM (eC (.int 536870912))) (aCons (eNegM (eC (.int 536870911))) (aCons (eC (.int 4294967296)) aNil)))))))))) (gN 15)
  (sIf (tNotM (toT (eCall f_law_refused_number [] (aCons (eVar 15) aNil))))
  (sRet (eC (.bl false)))
  sNil))
  (sSeq (sSet 16 (eTup (aCons (eB fTuple (aCons (eSl (eVar 2) oNo (oYes (eC (.int 18)))) aNil)) (aCons (eB fTuple (aCons (eSl (eVar 2) (oYes (eC (.int 18))) (oYes (eC (.int 27)))) aNil)) (aCons (eB fTuple (aCons (eSl (eVar 2) (oYes (eC (.int 27))) oNo) aNil)) aNil)))))
  (sSeq (sIf (tNotM (toT (eCall f_law_equal [] (aCons (eTup (aCons (eC w_CODE_RULES) (aCons (eC w_VALUE_RULES) (aCons (eC w_POLL_RULES) aNil)))) (aCons (eVar 16) aNil)))))
  (sRet (eC (.bl false)))
  sNil)
  (sRet (eAndM (eCall f_law_equal [] (aCons (eC w_RULES) (aCons (eB fTuple (aCons (eVar 2) aNil)) aNil))) (eCall f_law_sentences [] aNil))))))))))))))))))))))
abbrev f_law : MF := fnOf 1 17 m_law
theorem ac_law_7 : SimA true (fun _ => GL.aNil) aNil := sim_anil
theorem c_law_7 : SimE true (fun _ => GL.eCall K29.f_law_rules [] GL.aNil) (eCall f_law_rules [] aNil) := by with_reducible exact sim_call (q := true) (f := K29.f_law_rules) (fn := f_law_rules) (dws := []) (mr := fun _ => GL.aNil) (pr := aNil) s_f_law_rules rfl ac_law_7
theorem ac_law_8 : SimA true (fun _ => GL.aNil) aNil := sim_anil
theorem c_law_8 : SimE true (fun _ => GL.eCall K29.f_law_sentences [] GL.aNil) (eCall f_law_sentences [] aNil) := by with_reducible exact sim_call (q := true) (f := K29.f_law_sentences) (fn := f_law_sentences) (dws := []) (mr := fun _ => GL.aNil) (pr := aNil) s_f_law_sentences rfl ac_law_8
theorem s_m_law : SimS (fun _ => K29.m_law) m_law := (sim_seq (sim_set (sim_fz (sim_call s_f_law_row rfl (sim_acons (sim_var 0) (sim_acons (sim_c rfl) sim_anil)))))
  (sim_seq (sim_set (sim_fz c_law_7))
  (sim_seq (sim_set (sim_fz (sim_lc (sim_ir1 (sim_c rfl)) (sim_gN (vs := [4]) (by decide)) (sim_toT (sim_op (sim_op (sim_b (sim_acons (sim_op (sim_call s_f_law_digit rfl (sim_acons (sim_var 1) (sim_acons (sim_var 4) sim_anil))) (sim_op (sim_var 4) (sim_c rfl) sim_gDiv) sim_gAdd) sim_anil) sim_fInt) (sim_c rfl) sim_gMod) (sim_c rfl) sim_gEq)) (sim_op (sim_var 2) (sim_var 4) sim_gIx))))
  (sim_seq (sim_set (sim_fz (sim_lc (sim_ir1 (sim_c rfl)) (sim_gN (vs := [4]) (by decide)) (sim_toT (sim_op (sim_op (sim_b (sim_acons (sim_op (sim_call s_f_law_digit rfl (sim_acons (sim_var 1) (sim_acons (sim_op (sim_c rfl) (sim_var 4) sim_gAdd) sim_anil))) (sim_var 4) sim_gAdd) sim_anil) sim_fInt) (sim_c rfl) sim_gMod) (sim_c rfl) sim_gEq)) (sim_op (sim_var 2) (sim_var 4) sim_gIx))))
  (sim_seq (sim_set (sim_c rfl))
  (sim_seq (sim_for (sim_ir1 (sim_c rfl)) (sim_gN (vs := [4]) (by decide))
  (sim_set (sim_op (sim_op (sim_c rfl) (sim_var 6) sim_gMul) (sim_call s_f_law_digit rfl (sim_acons (sim_var 1) (sim_acons (sim_op (sim_c rfl) (sim_var 4) sim_gAdd) sim_anil))) sim_gAdd)))
  (sim_seq (sim_set (sim_op (sim_b (sim_acons (sim_op (sim_var 6) (sim_c rfl) sim_gAdd) sim_anil) sim_fInt) (sim_c rfl) sim_gMod))
  (sim_seq (sim_set (sim_fz (sim_make s_f_Policy_init rfl (sim_acons (sim_var 3) sim_anil))))
  (sim_seq (sim_set (sim_fz (sim_make s_f_Policy_init rfl (sim_acons (sim_var 5) sim_anil))))
  (sim_seq (sim_set (sim_fz (sim_lc (sim_iseq (sim_var 2)) (sim_gN (vs := [10]) (by decide)) (sim_tor (sim_toT (sim_op (sim_var 10) (sim_var 3) (sim_inM false))) (sim_toT (sim_op (sim_var 10) (sim_var 5) (sim_inM false)))) (sim_var 10))))
  (sim_seq (sim_set (sim_fz (sim_lc (sim_iseq (sim_var 3)) (sim_gN (vs := [10]) (by decide)) (sim_toT (sim_op (sim_var 10) (sim_var 5) (sim_inM true))) (sim_var 10))))
  (sim_seq (sim_for (sim_iseq (sim_lst (sim_acons (sim_tup (sim_acons (sim_var 7) (sim_acons (sim_var 3) sim_anil))) (sim_acons (sim_tup (sim_acons (sim_var 8) (sim_acons (sim_var 5) sim_anil))) (sim_acons (sim_tup (sim_acons (sim_op (sim_var 7) (sim_var 8) (sim_gOwnB s_f_Policy_or)) (sim_acons (sim_var 9) sim_anil))) (sim_acons (sim_tup (sim_acons (sim_op (sim_var 7) (sim_var 8) (sim_gOwnB s_f_Policy_sub)) (sim_acons (sim_var 11) sim_anil))) (sim_acons (sim_tup (sim_acons (sim_var 7) (sim_acons (sim_var 3) sim_anil))) sim_anil))))))) (sim_gN (vs := [12]) (by decide))
  (sim_seq (sim_sif (sim_tnot (sim_toT (sim_call s_f_law_equal rfl (sim_acons (sim_call s_f_policy_number rfl (sim_acons (sim_op (sim_var 12) (sim_c rfl) sim_gIx) sim_anil)) (sim_acons (sim_call s_f_law_number rfl (sim_acons (sim_op (sim_var 12) (sim_c rfl) sim_gIx) sim_anil)) sim_anil)))))
  (sim_ret (sim_c rfl))
  sim_nil)
  (sim_sif (sim_tnot (sim_toT (sim_call s_f_law_equal rfl (sim_acons (sim_fld (sim_call s_f_policy_numbered rfl (sim_acons (sim_call s_f_law_number rfl (sim_acons (sim_op (sim_var 12) (sim_c rfl) sim_gIx) sim_anil)) sim_anil))) (sim_acons (sim_b (sim_acons (sim_op (sim_var 12) (sim_c rfl) sim_gIx) sim_anil) sim_fTuple) sim_anil)))))
  (sim_ret (sim_c rfl))
  sim_nil)))
  (sim_seq (sim_set (sim_lst (sim_acons (sim_var 6) (sim_acons (sim_op (sim_c rfl) (sim_var 6) sim_gSub) (sim_acons (sim_c rfl) (sim_acons (sim_c rfl) sim_anil))))))
  (sim_seq (sim_set (sim_c rfl))
  (sim_seq (sim_for (sim_ir1 (sim_c rfl)) (sim_gN (vs := [4]) (by decide))
  (sim_seq (sim_expr (sim_mt sim_kList sim_mAppend (sim_var 13) (sim_acons (sim_var 14) sim_anil)))
  (sim_set (sim_op (sim_c rfl) (sim_var 14) sim_gMul))))
  (sim_seq (sim_for (sim_iseq (sim_var 13)) (sim_gN (vs := [15]) (by decide))
  (sim_sif (sim_tnot (sim_toT (sim_call s_f_law_both rfl (sim_acons (sim_var 15) sim_anil))))
  (sim_ret (sim_c rfl))
  sim_nil))
  (sim_seq (sim_for (sim_iseq (sim_lst (sim_acons (sim_neg (sim_c rfl)) (sim_acons (sim_c rfl) (sim_acons (sim_op (sim_neg (sim_c rfl)) (sim_var 6) sim_gSub) (sim_acons (sim_op (sim_c rfl) (sim_var 6) sim_gAdd) (sim_acons (sim_c rfl) (sim_acons (sim_neg (sim_c rfl)) (sim_acons (sim_neg (sim_c rfl)) (sim_acons (sim_c rfl) sim_anil)))))))))) (sim_gN (vs := [15]) (by decide))
  (sim_sif (sim_tnot (sim_toT (sim_call s_f_law_refused_number rfl (sim_acons (sim_var 15) sim_anil))))
  (sim_ret (sim_c rfl))
  sim_nil))
  (sim_seq (sim_set (sim_tup (sim_acons (sim_b (sim_acons (sim_sl (sim_var 2) sim_ono (sim_oyes (sim_c rfl))) sim_anil) sim_fTuple) (sim_acons (sim_b (sim_acons (sim_sl (sim_var 2) (sim_oyes (sim_c rfl)) (sim_oyes (sim_c rfl))) sim_anil) sim_fTuple) (sim_acons (sim_b (sim_acons (sim_sl (sim_var 2) (sim_oyes (sim_c rfl)) sim_ono) sim_anil) sim_fTuple) sim_anil)))))
  (sim_seq (sim_sif (sim_tnot (sim_toT (sim_call s_f_law_equal rfl (sim_acons (sim_tup (sim_acons (sim_c rfl) (sim_acons (sim_c rfl) (sim_acons (sim_c rfl) sim_anil)))) (sim_acons (sim_var 16) sim_anil)))))
  (sim_ret (sim_c rfl))
  sim_nil)
  (sim_ret (sim_and (sim_call s_f_law_equal rfl (sim_acons (sim_c rfl) (sim_acons (sim_b (sim_acons (sim_var 2) sim_anil) sim_fTuple) sim_anil))) c_law_8)))))))))))))))))))))
theorem s_f_law : SimFn K29.f_law f_law := sim_fn s_m_law
end K29.V
set_option Elab.async false
set_option linter.all false
set_option maxRecDepth 100000
set_option maxHeartbeats 1000000
namespace VL
open GL (PV OB Sto Nm BT lim)
section
variable {α β : Type} {ls gh ls' gh' : Ls} {a b c : PE} {t u : PT} {m m1 m2 : MS} {d e : D} {x y : RV} {i : Nat}
@[simp] theorem bind_ok {x : α} {f : α → Ls → Ls → Out β} : (Out.ok x ls gh).bind f = f x ls gh := rfl
@[simp] theorem bind_exc {e : Exn} {f : α → Ls → Ls → Out β} : (Out.exc e ls gh).bind f = .exc e ls gh := rfl
@[simp] theorem bind_bad {f : α → Ls → Ls → Out β} : (Out.bad : Out α).bind f = .bad := rfl
@[simp] theorem then_ok {x : α} {f : α → Ls → Ls → SOut} : (Out.ok x ls gh).then f = f x ls gh := rfl
@[simp] theorem then_exc {e : Exn} {f : α → Ls → Ls → SOut} : (Out.exc e ls gh).then f = .exc e ls gh := rfl
@[simp] theorem seq_nx {f : MS} : (SOut.nx ls gh).seq f = f ls gh := rfl
@[simp] theorem seq_rt {f : MS} : (SOut.rt d gh).seq f = .rt d gh := rfl
@[simp] theorem seq_bk {f : MS} : (SOut.bk ls gh).seq f = .bk ls gh := rfl
@[simp] theorem seq_ct {f : MS} : (SOut.ct ls gh).seq f = .ct ls gh := rfl
@[simp] theorem seq_exc {e : Exn} {f : MS} : (SOut.exc e ls gh).seq f = .exc e ls gh := rfl
@[simp] theorem eC_ap {w : PV} : eC w ls gh = .ok (.v (dOf w)) ls gh := rfl
@[simp] theorem dOf_int {i : Int} : dOf (.int i) = .int i := rfl
@[simp] theorem dOf_str {i : List Nat} : dOf (.str i) = .str i := rfl
@[simp] theorem dOf_bl {i : Bool} : dOf (.bl i) = .bl i := rfl
@[simp] theorem dOf_non : dOf .non = .non := rfl
@[simp] theorem dOf_ty {b : BT} : dOf (.ty b) = .ty b := rfl
@[simp] theorem dOf_tup {xs : List PV} : dOf (.tup xs) = .tup (dOfs xs) := rfl
@[simp] theorem dOfs_nil : dOfs [] = [] := rfl
@[simp] theorem dOfs_cons {x : PV} {r : List PV} : dOfs (x :: r) = dOf x :: dOfs r := rfl
@[simp] theorem sSeq_ap : sSeq m1 m2 ls gh = (m1 ls gh).seq m2 := rfl
@[simp] theorem sNil_ap : sNil ls gh = .nx ls gh := rfl
@[simp] theorem sBk_ap : sBk ls gh = .bk ls gh := rfl
theorem sSet_ap : sSet i a ls gh = (a ls gh).then fun x ls gh => match setL i x ls gh with
  | some z => .nx z.1 z.2
  | none => .bad := rfl
theorem sRet_ap : sRet a ls gh = (a ls gh).then fun x ls gh => match retV x ls gh with
  | some z => .rt z.1 z.2
  | none => .bad := rfl
theorem sExpr_ap : sExpr a ls gh = (a ls gh).then fun _ ls gh => .nx ls gh := rfl
theorem sIf_ap : sIf t m1 m2 ls gh = (t ls gh).then fun k ls gh => if k = true then m1 ls gh else m2 ls gh := rfl
@[simp] theorem aNil_ap : aNil ls gh = .ok [] ls gh := rfl
@[simp] theorem aCons_ap {r : PA} : aCons a r ls gh = (a ls gh).bind fun x ls gh => (r ls gh).bind fun xs ls gh => .ok (x :: xs) ls gh := rfl
@[simp] theorem eOp_ap {g : G2} : eOp g a b ls gh = (a ls gh).bind fun x ls gh => (b ls gh).bind fun y ls gh => g x y ls gh := rfl
@[simp] theorem e1_ap {f : RV → PE} : e1 f a ls gh = (a ls gh).bind fun x ls gh => f x ls gh := rfl
@[simp] theorem eB_ap {g : List RV → PE} {r : PA} : eB g r ls gh = (r ls gh).bind fun xs ls gh => g xs ls gh := rfl
@[simp] theorem un_ap {f : RV → PE} : un f [x] ls gh = f x ls gh := rfl
@[simp] theorem bi_ap {f : RV → RV → PE} : bi f [x, y] ls gh = f x y ls gh := rfl
@[simp] theorem toT_ap : toT a ls gh = (a ls gh).bind fun x ls gh => asB x ls gh := rfl
@[simp] theorem asB_bl {k : Bool} : asB (.v (.sc (.bl k))) ls gh = .ok k ls gh := rfl
@[simp] theorem tAndM_ap : tAndM t u ls gh = (t ls gh).bind fun k ls gh => if k = true then u ls gh else .ok false ls gh := rfl
@[simp] theorem tOrM_ap : tOrM t u ls gh = (t ls gh).bind fun k ls gh => if k = true then .ok true ls gh else u ls gh := rfl
@[simp] theorem tNotM_ap : tNotM t ls gh = (t ls gh).bind fun k ls gh => .ok (!k) ls gh := rfl
@[simp] theorem tYesM_ap : tYesM ls gh = .ok true ls gh := rfl
@[simp] theorem gSub_int {i j : Int} : gInt (fun i j => i - j) (.v (.sc (.int i))) (.v (.sc (.int j))) ls gh = .ok (.v (.int (i - j))) ls gh := rfl
@[simp] theorem gInt_int {f : Int → Int → Int} {i j : Int} : gInt f (.v (.sc (.int i))) (.v (.sc (.int j))) ls gh = .ok (.v (.int (f i j))) ls gh := rfl
@[simp] theorem gCmp_int {f : Int → Int → Bool} {i j : Int} : gCmpI f (.v (.sc (.int i))) (.v (.sc (.int j))) ls gh = .ok (.v (.bl (f i j))) ls gh := rfl
@[simp] theorem gAdd_int {i j : Int} : gAdd (.v (.sc (.int i))) (.v (.sc (.int j))) ls gh = .ok (.v (.int (i + j))) ls gh := rfl
theorem gMod_int {i j : Int} (h : 0 < j) : gMod (.v (.sc (.int i))) (.v (.sc (.int j))) ls gh = .ok (.v (.int (i % j))) ls gh := by
  simp [gIntC, GL.cMod, h]
theorem gDiv_int {i j : Int} (h : 0 < j) (h2 : j < 1073741824) : gDiv (.v (.sc (.int i))) (.v (.sc (.int j))) ls gh = .ok (.v (.int (i / j))) ls gh := by
  simp [gIntC, GL.cDiv, h, h2]
theorem gMul_int {i j : Int} (h : GL.smallI i = true ∨ GL.smallI j = true) : gMul (.v (.sc (.int i))) (.v (.sc (.int j))) ls gh = .ok (.v (.int (i * j))) ls gh := by
  simp [gMul, h]
@[simp] theorem gEq_int {neg : Bool} {i j : Int} : eqM neg (.v (.sc (.int i))) (.v (.sc (.int j))) ls gh = .ok (.v (.bl (if neg = true then !decide (i = j) else decide (i = j)))) ls gh := rfl
@[simp] theorem gEq_str {neg : Bool} {i j : List Nat} : eqM neg (.v (.sc (.str i))) (.v (.sc (.str j))) ls gh = .ok (.v (.bl (if neg = true then !decide (i = j) else decide (i = j)))) ls gh := rfl
@[simp] theorem f1Int_int {i : Int} : f1Int (.v (.sc (.int i))) ls gh = .ok (.v (.int i)) ls gh := rfl
@[simp] theorem f1Int_bl {k : Bool} : f1Int (.v (.sc (.bl k))) ls gh = .ok (.v (.int (if k then 1 else 0))) ls gh := rfl
@[simp] theorem f1Abs_int {i : Int} : f1Abs (.v (.sc (.int i))) ls gh = .ok (.v (.int (if i < 0 then -i else i))) ls gh := rfl
end
@[simp] theorem shr_sc {s : Sc} : (D.sc s).shr = true := rfl
@[simp] theorem shr_tup {xs : List D} : (D.tup xs).shr = true := rfl
@[simp] theorem shr_fz {h : Hd} {xs : List D} : (D.nd .fz h xs).shr = true := rfl
@[simp] theorem shr_ow {h : Hd} {xs : List D} : (D.nd .ow h xs).shr = false := rfl
theorem eVar_v {i : Nat} {ls gh : Ls} {d : D} (h : ls[i]? = some (some (.v d))) (hs : d.shr = true) : eVar i ls gh = .ok (.v d) ls gh := by
  unfold eVar; rw [h]; simp [mkR, hs]
theorem eVar_o {i : Nat} {ls gh : Ls} {d : D} (h : ls[i]? = some (some (.v d))) (hs : d.shr = false) : eVar i ls gh = .ok (.pth (.l i) []) ls gh := by
  unfold eVar; rw [h]; simp [mkR, hs]
@[simp] theorem killR_v {i : Nat} {d : D} : killR i (some (.v d)) = some (.v d) := rfl
@[simp] theorem killR_io {i : Nat} {d : D} : killR i (some (.io d)) = some (.io d) := rfl
@[simp] theorem killR_none {i : Nat} : killR i none = none := rfl
@[simp] theorem killD_v {t : List Nat → Bool} {r : Rt} {p : List Nat} {d : D} : killD t r p (some (.v d)) = some (.v d) := rfl
@[simp] theorem killD_io {t : List Nat → Bool} {r : Rt} {p : List Nat} {d : D} : killD t r p (some (.io d)) = some (.io d) := rfl
@[simp] theorem killD_none {t : List Nat → Bool} {r : Rt} {p : List Nat} : killD t r p none = none := rfl
theorem fnOf_rt {np n : Nat} {m : MS} {vs : List V} {hs : List D} {d : D} {gh : Ls} {ios : List D} (hl : vs.length = np) (h : m (vs.map some ++ List.replicate (n - np) none) (hs.map fun d => some (.io d)) = .rt d gh) (hg : ioD gh = some ios) : fnOf np n m vs hs = .ok d ios := by
  unfold fnOf; rw [if_pos hl, h]; simp [endF, hg]
theorem fnOf_nx {np n : Nat} {m : MS} {vs : List V} {hs : List D} {ls gh : Ls} {ios : List D} (hl : vs.length = np) (h : m (vs.map some ++ List.replicate (n - np) none) (hs.map fun d => some (.io d)) = .nx ls gh) (hg : ioD gh = some ios) : fnOf np n m vs hs = .ok .non ios := by
  unfold fnOf; rw [if_pos hl, h]; simp [endF, hg]
theorem fnOf_exc {np n : Nat} {m : MS} {vs : List V} {hs : List D} {e : Exn} {ls gh : Ls} {ios : List D} (hl : vs.length = np) (h : m (vs.map some ++ List.replicate (n - np) none) (hs.map fun d => some (.io d)) = .exc e ls gh) (hg : ioD gh = some ios) : fnOf np n m vs hs = .exc e ios := by
  unfold fnOf; rw [if_pos hl, h]; simp [endF, hg]
def intL (ns : List Int) : List D := ns.map D.int
def strL (ns : List (List Nat)) : List D := ns.map D.str
@[simp] theorem intL_len {ns : List Int} : (intL ns).length = ns.length := by simp [intL]
@[simp] theorem strL_len {ns : List (List Nat)} : (strL ns).length = ns.length := by simp [strL]
@[simp] theorem intL_shr {ns : List Int} : (intL ns).all D.shr = true := by simp [intL]
@[simp] theorem strL_shr {ns : List (List Nat)} : (strL ns).all D.shr = true := by simp [strL]
theorem frzs_shr : ∀ {xs : List D}, xs.all D.shr = true → D.frzs xs = some xs
  | [], _ => by simp [D.frzs]
  | x :: r, h => by
    rw [List.all_cons, Bool.and_eq_true] at h
    have h1 : D.frz x = some x := by
      cases x with
      | sc s => simp [D.frz]
      | tup xs => simp [D.frz]
      | nd k hd xs =>
        cases k with
        | fz => simp [D.frz]
        | ow => cases h.1
        | lk => cases h.1
    rw [D.frzs, h1, frzs_shr h.2]
@[simp] theorem frzs_int {ns : List Int} : D.frzs (intL ns) = some (intL ns) := frzs_shr intL_shr
@[simp] theorem frzs_str {ns : List (List Nat)} : D.frzs (strL ns) = some (strL ns) := frzs_shr strL_shr
def Digs (most : Nat) (ds : List Int) : Prop := ds.length ≤ most ∧ ∀ d ∈ ds, 0 ≤ d ∧ d < 16
def m_row : MS := (sSeq (sSet 2 (eLst aNil))
  (sSeq (sFor (iSeq (eVar 0)) (gN 3)
  (sSeq (sSet 4 (eB fAbs (aCons (eB fInt (aCons (eVar 3) aNil)) aNil)))
  (sFor (iR1 (eC (.int 60))) (gN 5)
  (sSeq (sIf (toT (eOp gLt (eB fLen (aCons (eVar 2) aNil)) (eVar 1)))
  (sExpr (eMt kList mAppend (eVar 2) (aCons (eOp gMod (eVar 4) (eC (.int 16))) aNil)))
  sNil)
  (sSeq (sSet 4 (eOp gDiv (eVar 4) (eC (.int 16))))
  (sIf (toT (eOp gEq (eVar 4) (eC (.int 0))))
  sBk
  sNil))))))
  (sRet (eVar 2))))
section
variable {ls gh : Ls} {k : Fl} {xs : List D} {d : D} {r : Rt} {p : List Nat}
theorem ixN_nat {n i : Nat} (h : i < n) : L2.ixN n (i : Int) = some i := by unfold L2.ixN; simp [h]
@[simp] theorem seqV_lst : seqV (.v (.nd k .lst xs)) ls gh = some (.lst, xs) := rfl
@[simp] theorem seqV_rol : seqV (.v (.nd k .rol xs)) ls gh = some (.rol, xs) := rfl
@[simp] theorem seqV_tup : seqV (.v (.tup xs)) ls gh = some (.tup, xs) := rfl
theorem seqV_p (h : atD ls gh r p = some (.nd k .lst xs)) : seqV (.pth r p) ls gh = some (.lst, xs) := by
  show (atD ls gh r p).bind seqD = _
  rw [h]; rfl
theorem gIx_of {x : RV} {kd : Kd} {i : Nat} (hx : ∀ s, x ≠ .v (.sc (.str s))) (h : seqV x ls gh = some (kd, xs)) (hi : xs[i]? = some d) : gIx x (.v (.sc (.int (i : Int)))) ls gh = .ok (childR x i d) ls gh := by
  have hl := (List.getElem?_eq_some_iff.mp hi).1
  unfold gIx
  split
  · rename_i i' e
    cases e
    split
    · rename_i s; exact absurd rfl (hx s)
    · simp only [h, ixN_nat hl, hi]
  · rename_i h0; exact absurd rfl (h0 _)
theorem gIx_lst {i : Nat} (hi : xs[i]? = some d) (hs : d.shr = true) : gIx (.v (.nd k .lst xs)) (.v (.sc (.int (i : Int)))) ls gh = .ok (.v d) ls gh := by
  rw [gIx_of (by simp) seqV_lst hi]; simp [childR, hs]
theorem gIx_tup {i : Nat} (hi : xs[i]? = some d) (hs : d.shr = true) : gIx (.v (.tup xs)) (.v (.sc (.int (i : Int)))) ls gh = .ok (.v d) ls gh := by
  rw [gIx_of (by simp) seqV_tup hi]; simp [childR, hs]
@[simp] theorem f1Len_lst : f1Len (.v (.nd k .lst xs)) ls gh = .ok (.v (.int xs.length)) ls gh := rfl
@[simp] theorem f1Len_tup : f1Len (.v (.tup xs)) ls gh = .ok (.v (.int xs.length)) ls gh := rfl
theorem f1Len_p (h : atD ls gh r p = some (.nd k .lst xs)) : f1Len (.pth r p) ls gh = .ok (.v (.int xs.length)) ls gh := by
  unfold f1Len; simp only [seqV_p h]
end
def dg (ds : List Int) (i : Nat) : Int := ds.getD i 0
theorem intL_get {ds : List Int} {i : Nat} (h : i < ds.length) : (intL ds)[i]? = some (.int (dg ds i)) := by
  unfold intL
  rw [List.getElem?_map, dg, List.getD_eq_getElem?_getD, List.getElem?_eq_getElem h]; rfl
theorem getD_out {ds : List Int} {i : Nat} (h : ds.length ≤ i) : dg ds i = 0 := by rw [dg, List.getD_eq_getElem?_getD, List.getElem?_eq_none h]; rfl
def loopK (q : SOut) (k : Ls → Ls → SOut) : SOut := match q with
  | .nx ls gh => k ls gh
  | .ct ls gh => k ls gh
  | .bk ls gh => .nx ls gh
  | q => q
section
variable {ls gh : Ls} {k : Ls → Ls → SOut} {d : D}
@[simp] theorem loopK_nx : loopK (.nx ls gh) k = k ls gh := rfl
@[simp] theorem loopK_ct : loopK (.ct ls gh) k = k ls gh := rfl
@[simp] theorem loopK_bk : loopK (.bk ls gh) k = .nx ls gh := rfl
@[simp] theorem loopK_rt : loopK (.rt d gh) k = .rt d gh := rfl
@[simp] theorem loopK_exc {e : Exn} : loopK (.exc e ls gh) k = .exc e ls gh := rfl
variable {g : MG} {body : MS} {r : List D} {z : Ls × Ls}
theorem forV_cons (hg : g (.v d) ls gh = some z) : forV g body (d :: r) ls gh = loopK (body z.1 z.2) (forV g body r) := by
  rw [forV, hg]
  dsimp only
  cases body z.1 z.2 <;> rfl
@[simp] theorem forV_nil : forV g body [] ls gh = .nx ls gh := rfl
theorem sFor_of {it : PI} {ds : List D} {ls1 gh1 : Ls} (hi : it ls gh = .ok ds ls1 gh1) : sFor it g body ls gh = forV g body ds ls1 gh1 := by unfold sFor; rw [hi]; rfl
end
theorem forV_inv {g : MG} {body : MS} (I : Nat → Ls → Ls → Prop) : ∀ (xs : List D) (i : Nat) (ls gh : Ls),
    (∀ j x ls gh, xs[j]? = some x → I (i + j) ls gh → ∃ z, g (.v x) ls gh = some z ∧ ∃ ls2 gh2, (body z.1 z.2 = .nx ls2 gh2 ∨ body z.1 z.2 = .ct ls2 gh2) ∧ I (i + j + 1) ls2 gh2) →
    I i ls gh → ∃ ls' gh', forV g body xs ls gh = .nx ls' gh' ∧ I (i + xs.length) ls' gh'
  | [], i, ls, gh, _, h => ⟨ls, gh, rfl, h⟩
  | x :: r, i, ls, gh, h1, h => by
    obtain ⟨z, e1, ls2, gh2, e2, h3⟩ := h1 0 x ls gh (by simp) h
    obtain ⟨ls', gh', e, h4⟩ := forV_inv I r (i + 1) ls2 gh2 (fun j y ls gh hj hI => by
      have := h1 (j + 1) y ls gh (by simpa using hj) (by rw [show i + (j + 1) = i + 1 + j by omega]; exact hI)
      rw [show i + (j + 1) = i + 1 + j by omega] at this
      exact this) h3
    refine ⟨ls', gh', ?_, by rw [List.length_cons, show i + (r.length + 1) = i + 1 + r.length by omega]; exact h4⟩
    rw [forV_cons e1]
    rcases e2 with e2 | e2 <;> (rw [e2]; exact e)
theorem iSeq_of {m : PE} {ls gh ls1 gh1 : Ls} {d : D} {k : Kd} {xs : List D} (h : m ls gh = .ok (.v d) ls1 gh1) (hf : D.frz d = some d) (hs : seqD d = some (k, xs)) : iSeq m ls gh = .ok xs ls1 gh1 := by
  unfold iSeq
  rw [h, bind_ok]
  simp [kSeq, frzSeq, cvR, hf, hs]
theorem iR1_of {m : PE} {ls gh ls1 gh1 : Ls} {n : Nat} (h : m ls gh = .ok (.v (.int (n : Int))) ls1 gh1) (hn : n < 1000000000) : iR1 m ls gh = .ok (rngD 0 n) ls1 gh1 := by
  have hm : GL.med = 4611686018427387904 := rfl
  unfold iR1
  rw [h, bind_ok]
  unfold k1R
  dsimp only
  rw [if_pos]
  rw [Bool.and_eq_true]
  exact ⟨decide_eq_true (by omega), decide_eq_true (by omega)⟩
theorem rng0 (n : Nat) : rngD 0 (n : Int) = (List.range n).map fun (i : Nat) => D.int (i : Int) := by
  unfold rngD
  simp
section
variable {ls gh : Ls} {t : List Nat → Bool} {i : Nat} {p : List Nat} {y d0 : D}
theorem atD_l (h : ls[i]? = some (some (.v d0))) : atD ls gh (.l i) [] = some d0 := by
  unfold atD rootD; simp only [h, slotD, Option.bind_some, getP]
theorem chD_l (h : ls[i]? = some (some (.v d0))) : chD t (.l i) p y ls gh = (modN (putV (setP p d0 y)) i (ls.map (killD t (.l i) p)), gh.map (killD t (.l i) p)) := by
  unfold chD rootD; simp only [h, slotD, Option.map_some]
theorem mAppend_l {xs : List D} {d : D} (h : ls[i]? = some (some (.v (.nd .ow .lst xs)))) (hl : xs.length < lim) : mAppend (.pth (.l i) []) [.v d] ls gh = .ok (.v .non) (modN (putV (.nd .ow .lst (xs ++ [d]))) i (ls.map (killD allT (.l i) []))) (gh.map (killD allT (.l i) [])) := by
  unfold mAppend
  simp only [cvR, if_true, atD_l h, if_pos hl, wrote, chD_l h, setP]
end
@[simp] theorem putV_v {d d' : D} : putV d (some (.v d')) = some (.v d) := rfl
@[simp] theorem kList_lst {k : Fl} {xs : List D} : kList (.nd k .lst xs) = true := rfl
theorem row_inner (most : Nat) (hm : most ≤ 1000) (a0 a3 : D) : ∀ (xs : List D) (rest : Int) (a5 : Option V) (ds : List Int), 0 ≤ rest → Digs most ds → (∀ q, a5 = some q → ∃ d, q = .v d) → (∀ x ∈ xs, ∃ i, x = .int i) →
    ∃ rest' a5' ds', forV (gN 5) (sSeq (sIf (toT (eOp gLt (eB fLen (aCons (eVar 2) aNil)) (eVar 1)))
      (sExpr (eMt kList mAppend (eVar 2) (aCons (eOp gMod (eVar 4) (eC (.int 16))) aNil)))
      sNil)
      (sSeq (sSet 4 (eOp gDiv (eVar 4) (eC (.int 16))))
      (sIf (toT (eOp gEq (eVar 4) (eC (.int 0))))
      sBk
      sNil))) xs [some (.v a0), some (.v (.int most)), some (.v (.nd .ow .lst (intL ds))), some (.v a3), some (.v (.int rest)), a5] [] = .nx [some (.v a0), some (.v (.int most)), some (.v (.nd .ow .lst (intL ds'))), some (.v a3), some (.v (.int rest')), a5'] [] ∧ Digs most ds' ∧ (∀ q, a5' = some q → ∃ d, q = .v d)
  | [], rest, a5, ds, h0, hd, h5, _ => ⟨rest, a5, ds, rfl, hd, h5⟩
  | x :: r, rest, a5, ds, h0, hd, h5, hx => by
    obtain ⟨i, rfl⟩ := hx x List.mem_cons_self
    have hx' : ∀ x ∈ r, ∃ i, x = .int i := fun y hy => hx y (List.mem_cons_of_mem _ hy)
    have k5 : killR 5 a5 = a5 := by
      cases a5 with
      | none => rfl
      | some q => obtain ⟨d, rfl⟩ := h5 q rfl; rfl
    have hg : gN 5 (.v (.int i)) [some (.v a0), some (.v (.int most)), some (.v (.nd .ow .lst (intL ds))), some (.v a3), some (.v (.int rest)), a5] [] = some ([some (.v a0), some (.v (.int most)), some (.v (.nd .ow .lst (intL ds))), some (.v a3), some (.v (.int rest)), some (.v (.int i))], []) := by
      simp [gN, setL, stD]
    rw [forV_cons hg]
    dsimp only
    have h16 : (0 : Int) ≤ rest % 16 ∧ rest % 16 < 16 := by omega
    have hdiv : 0 ≤ rest / 16 := by omega
    have hv2 : ∀ z a5, eVar 2 [some (.v a0), some (.v (.int most)), some (.v (.nd .ow .lst (intL ds))), some (.v a3), z, a5] [] = .ok (.pth (.l 2) []) [some (.v a0), some (.v (.int most)), some (.v (.nd .ow .lst (intL ds))), some (.v a3), z, a5] [] := fun z a5 => eVar_o rfl rfl
    have hat : ∀ z a5, atD [some (.v a0), some (.v (.int most)), some (.v (.nd .ow .lst (intL ds))), some (.v a3), z, a5] [] (.l 2) [] = some (.nd .ow .lst (intL ds)) := fun z a5 => atD_l rfl
    by_cases hlt : (ds.length : Int) < most
    · have e1 : (sIf (toT (eOp gLt (eB fLen (aCons (eVar 2) aNil)) (eVar 1)))
          (sExpr (eMt kList mAppend (eVar 2) (aCons (eOp gMod (eVar 4) (eC (.int 16))) aNil)))
          sNil) [some (.v a0), some (.v (.int most)), some (.v (.nd .ow .lst (intL ds))), some (.v a3), some (.v (.int rest)), some (.v (.int i))] [] = .nx [some (.v a0), some (.v (.int most)), some (.v (.nd .ow .lst (intL (ds ++ [rest % 16])))), some (.v a3), some (.v (.int rest)), some (.v (.int i))] [] := by
        have hz : (intL ds).length < lim := by rw [intL_len]; have : lim = 100000 := rfl; omega
        have ha : intL ds ++ [D.int (rest % 16)] = intL (ds ++ [rest % 16]) := by simp [intL]
        have hap := mAppend_l (ls := [some (.v a0), some (.v (.int most)), some (.v (.nd .ow .lst (intL ds))), some (.v a3), some (.v (.int rest)), some (.v (.int i))]) (gh := []) (i := 2) (d := .int (rest % 16)) rfl hz
        simp [sIf_ap, hv2, f1Len_p (hat _ _), eVar, mkR, hlt, sExpr_ap, eMt, val, hat, gMod_int, hap, modN, ha]
      have hd2 : Digs most (ds ++ [rest % 16]) := ⟨by rw [List.length_append, List.length_singleton]; omega, fun d hd' => by
        rcases List.mem_append.mp hd' with h | h
        · exact hd.2 d h
        · rw [List.mem_singleton.mp h]; exact h16⟩
      rw [sSeq_ap, e1]
      by_cases hz : rest / 16 = 0
      · refine ⟨rest / 16, some (.v (.int i)), ds ++ [rest % 16], ?_, hd2, fun q h => by cases h; exact ⟨_, rfl⟩⟩
        simp [sSet_ap, eVar, mkR, gDiv_int, setL, stD, sIf_ap, hz]
      · obtain ⟨rest', a5', ds', e, hd', h5'⟩ := row_inner most hm a0 a3 r (rest / 16) (some (.v (.int i))) _ hdiv hd2 (fun q h => by cases h; exact ⟨_, rfl⟩) hx'
        refine ⟨rest', a5', ds', ?_, hd', h5'⟩
        rw [← e]
        simp [sSet_ap, eVar, mkR, gDiv_int, setL, stD, sIf_ap, hz]
    · have e1 : (sIf (toT (eOp gLt (eB fLen (aCons (eVar 2) aNil)) (eVar 1)))
          (sExpr (eMt kList mAppend (eVar 2) (aCons (eOp gMod (eVar 4) (eC (.int 16))) aNil)))
          sNil) [some (.v a0), some (.v (.int most)), some (.v (.nd .ow .lst (intL ds))), some (.v a3), some (.v (.int rest)), some (.v (.int i))] [] = .nx [some (.v a0), some (.v (.int most)), some (.v (.nd .ow .lst (intL ds))), some (.v a3), some (.v (.int rest)), some (.v (.int i))] [] := by
        simp [sIf_ap, hv2, f1Len_p (hat _ _), eVar, mkR, hlt]
      rw [sSeq_ap, e1]
      by_cases hz : rest / 16 = 0
      · refine ⟨rest / 16, some (.v (.int i)), ds, ?_, hd, fun q h => by cases h; exact ⟨_, rfl⟩⟩
        simp [sSet_ap, eVar, mkR, gDiv_int, setL, stD, sIf_ap, hz]
      · obtain ⟨rest', a5', ds', e, hd', h5'⟩ := row_inner most hm a0 a3 r (rest / 16) (some (.v (.int i))) _ hdiv hd (fun q h => by cases h; exact ⟨_, rfl⟩) hx'
        refine ⟨rest', a5', ds', ?_, hd', h5'⟩
        rw [← e]
        simp [sSet_ap, eVar, mkR, gDiv_int, setL, stD, sIf_ap, hz]
theorem row_outer (most : Nat) (hm : most ≤ 1000) (a0 : D) : ∀ (ns : List Int) (a3 a4 a5 : Option V) (ds : List Int), Digs most ds → (∀ q, a3 = some q → ∃ d, q = .v d) → (∀ q, a4 = some q → ∃ d, q = .v d) → (∀ q, a5 = some q → ∃ d, q = .v d) →
    ∃ a3' a4' a5' ds', forV (gN 3) (sSeq (sSet 4 (eB fAbs (aCons (eB fInt (aCons (eVar 3) aNil)) aNil)))
      (sFor (iR1 (eC (.int 60))) (gN 5)
      (sSeq (sIf (toT (eOp gLt (eB fLen (aCons (eVar 2) aNil)) (eVar 1)))
      (sExpr (eMt kList mAppend (eVar 2) (aCons (eOp gMod (eVar 4) (eC (.int 16))) aNil)))
      sNil)
      (sSeq (sSet 4 (eOp gDiv (eVar 4) (eC (.int 16))))
      (sIf (toT (eOp gEq (eVar 4) (eC (.int 0))))
      sBk
      sNil))))) (intL ns) [some (.v a0), some (.v (.int most)), some (.v (.nd .ow .lst (intL ds))), a3, a4, a5] [] = .nx [some (.v a0), some (.v (.int most)), some (.v (.nd .ow .lst (intL ds'))), a3', a4', a5'] [] ∧ Digs most ds'
  | [], a3, a4, a5, ds, hd, _, _, _ => ⟨a3, a4, a5, ds, rfl, hd⟩
  | x :: r, a3, a4, a5, ds, hd, h3, h4, h5 => by
    have kl : ∀ {a : Option V}, (∀ q, a = some q → ∃ d, q = .v d) → ∀ i, killR i a = a := fun {a} h i => by
      cases a with
      | none => rfl
      | some q => obtain ⟨d, rfl⟩ := h q rfl; rfl
    have hg : gN 3 (.v (.int x)) [some (.v a0), some (.v (.int most)), some (.v (.nd .ow .lst (intL ds))), a3, a4, a5] [] = some ([some (.v a0), some (.v (.int most)), some (.v (.nd .ow .lst (intL ds))), some (.v (.int x)), a4, a5], []) := by
      simp [gN, setL, stD, kl h4, kl h5]
    show ∃ a3' a4' a5' ds', forV (gN 3) _ (.int x :: intL r) _ _ = _ ∧ _
    rw [forV_cons hg]
    dsimp only
    have h0 : (0 : Int) ≤ (if x < 0 then -x else x) := by split <;> omega
    obtain ⟨rest', a5', ds1, e, hd1, h5'⟩ := row_inner most hm a0 (.int x) (rngD 0 ((60 : Nat) : Int)) _ a5 ds h0 hd h5 (fun y hy => by
      obtain ⟨i, _, rfl⟩ := List.mem_map.mp (show y ∈ (List.range _).map _ from hy)
      exact ⟨_, rfl⟩)
    obtain ⟨b3, b4, b5, ds2, e2, hd2⟩ := row_outer most hm a0 r (some (.v (.int x))) (some (.v (.int rest'))) a5' ds1 hd1 (fun q h => by cases h; exact ⟨_, rfl⟩) (fun q h => by cases h; exact ⟨_, rfl⟩) h5'
    refine ⟨b3, b4, b5, ds2, ?_, hd2⟩
    rw [← e2]
    have e1 : sSet 4 (eB fAbs (aCons (eB fInt (aCons (eVar 3) aNil)) aNil)) [some (.v a0), some (.v (.int most)), some (.v (.nd .ow .lst (intL ds))), some (.v (.int x)), a4, a5] [] = .nx [some (.v a0), some (.v (.int most)), some (.v (.nd .ow .lst (intL ds))), some (.v (.int x)), some (.v (.int (if x < 0 then -x else x))), a5] [] := by
      simp [sSet_ap, eVar, mkR, setL, stD, kl h5]
    rw [sSeq_ap, e1, seq_nx, sFor_of (it := iR1 (eC (.int 60))) (iR1_of (m := eC (.int 60)) (n := 60) rfl (by decide)), e]
    rfl
theorem row_ok {ns : List Int} {most : Nat} (hm : most ≤ 1000) : ∃ ds, fnOf 2 6 m_row [.v (.nd .fz .rol (intL ns)), .v (.int most)] [] = .ok (.nd .ow .lst (intL ds)) [] ∧ Digs most ds := by
  obtain ⟨b3, b4, b5, ds, e, hd⟩ := row_outer most hm (.nd .fz .rol (intL ns)) ns none none none [] ⟨by simp, by simp⟩ (by simp) (by simp) (by simp)
  refine ⟨ds, fnOf_rt (gh := []) rfl ?_ rfl, hd⟩
  show m_row [some (.v (.nd .fz .rol (intL ns))), some (.v (.int most)), none, none, none, none] [] = _
  unfold m_row
  have e1 : sSet 2 (eLst aNil) [some (.v (.nd .fz .rol (intL ns))), some (.v (.int most)), none, none, none, none] [] = .nx [some (.v (.nd .fz .rol (intL ns))), some (.v (.int most)), some (.v (.nd .ow .lst (intL []))), none, none, none] [] := rfl
  rw [sSeq_ap, e1, seq_nx, sSeq_ap, sFor_of (it := iSeq (eVar 0)) (iSeq_of (m := eVar 0) (d := .nd .fz .rol (intL ns)) (k := .rol) rfl rfl rfl), e, seq_nx, sRet_ap, eVar_o (d := .nd .ow .lst (intL ds)) rfl rfl]
  rfl
end VL
set_option Elab.async false
set_option linter.all false
set_option maxRecDepth 100000
set_option maxHeartbeats 1000000
namespace VL
open GL (PV OB Sto Nm BT lim)
open PySem (PyData)
def okD : Nat → D → Bool
  | 0, _ => false
  | f + 1, d => match d with
    | .sc .non => true
    | .sc (.bl _) => true
    | .sc (.int _) => true
    | .sc (.str l) => PyData.strOk (GL.toS l)
    | .tup xs => xs.all (okD f)
    | .nd _ .lst xs => xs.all (okD f)
    | .nd _ .rol xs => xs.all (okD f)
    | .nd _ .ptp xs => xs.all (okD f)
    | _ => false
theorem optAll_ok {f : Nat} (ih : ∀ d, okD f d = true → ∃ t, datD f d = some t ∧ t.plain = true) : ∀ xs : List D, xs.all (okD f) = true → ∃ ts, GL.optAll (datD f) xs = some ts ∧ PyData.plainAll ts = true
  | [], _ => ⟨[], rfl, rfl⟩
  | x :: r, h => by
    rw [List.all_cons, Bool.and_eq_true] at h
    obtain ⟨t, h1, h2⟩ := ih x h.1
    obtain ⟨ts, h3, h4⟩ := optAll_ok ih r h.2
    refine ⟨t :: ts, ?_, ?_⟩
    · rw [GL.optAll, h1, h3]
    · rw [PyData.plainAll, h2, h4]; rfl
theorem okD_dat : ∀ (f : Nat) (d : D), okD f d = true → ∃ t, datD f d = some t ∧ t.plain = true
  | 0, d, h => by cases h
  | f + 1, d, h => by
    cases d with
    | sc s =>
      cases s with
      | non => exact ⟨_, rfl, rfl⟩
      | bl b => exact ⟨_, rfl, rfl⟩
      | int i => exact ⟨_, rfl, rfl⟩
      | str l =>
        have h : PyData.strOk (GL.toS l) = true := h
        refine ⟨.str (GL.toS l), ?_, rfl⟩
        show (if PyData.strOk (GL.toS l) = true then _ else _) = _
        rw [if_pos h]
      | ty b => cases h
      | gl x => cases h
    | tup xs =>
      obtain ⟨ts, h1, h2⟩ := optAll_ok (okD_dat f) xs h
      exact ⟨.tuple ts, by show (GL.optAll (datD f) xs).map _ = _; rw [h1]; rfl, h2⟩
    | nd k hd xs =>
      cases hd with
      | lst =>
        obtain ⟨ts, h1, h2⟩ := optAll_ok (okD_dat f) xs h
        exact ⟨.list ts, by show (GL.optAll (datD f) xs).map _ = _; rw [h1]; rfl, h2⟩
      | rol =>
        obtain ⟨ts, h1, h2⟩ := optAll_ok (okD_dat f) xs h
        exact ⟨.list ts, by show (GL.optAll (datD f) xs).map _ = _; rw [h1]; rfl, h2⟩
      | dct ks => cases h
      | dcn ks => cases h
      | ptp =>
        obtain ⟨ts, h1, h2⟩ := optAll_ok (okD_dat f) xs h
        exact ⟨.tuple ts, by show (GL.optAll (datD f) xs).map _ = _; rw [h1]; rfl, h2⟩
      | ins C ns => cases h
theorem same_ok {neg : Bool} {x y : RV} {ls gh : Ls} {d : D} (hx : val x ls gh = some d) (hy : val y ls gh = some d) (h : okD 60 d = true) : eqM neg x y ls gh = .ok (.v (.bl (!neg))) ls gh := by
  obtain ⟨t, h1, h2⟩ := okD_dat 60 d h
  have hr := PySem.SeqAt.eqv_refl_plain t h2
  have e : eqD neg d d = some (!neg) := by
    unfold eqD
    cases d with
    | sc s =>
      cases s with
      | non => cases neg <;> rfl
      | bl b => cases neg <;> cases b <;> rfl
      | int i => first | (simp [scalD]; done) | (simp [scalD]; cases neg <;> rfl)
      | str l => first | (simp [scalD]; done) | (simp [scalD]; cases neg <;> rfl)
      | ty b => cases h
      | gl x => cases h
    | tup xs => first | (simp [scalD, h1, hr]; done) | (simp [scalD, h1, hr]; cases neg <;> rfl)
    | nd k hd xs => first | (simp [scalD, h1, hr]; done) | (simp [scalD, h1, hr]; cases neg <;> rfl)
  unfold eqM
  simp only [hx, hy, e]
end VL
set_option Elab.async false
set_option linter.all false
set_option maxRecDepth 100000
set_option maxHeartbeats 4000000
set_option cbv.maxSteps 1000000
namespace VL
open GL (PV OB Sto Nm BT lim)
open PySem (PyData)
def m_whole : MS := (sRet (eAndM (eB fIsi (aCons (eVar 0) (aCons (eC (.ty .int)) aNil))) (eNotM (eB fIsi (aCons (eVar 0) (aCons (eC (.ty .bool)) aNil))))))
abbrev f_whole : MF := fnOf 1 1 m_whole
def eqB (S7 S0 S4 S9 : MS) (NE : G2) (WH : MF) : MS := (sSeq S0
  (sSeq S4
  (sSeq (sSet 5 (eOp gIx (eVar 4) (eC (.int 0))))
  (sSeq (sSet 6 (eOp gIx (eVar 4) (eC (.int 1))))
  (sIf (tOrM (toT (eOp (isM false) (eVar 6) (eC .non))) (toT (eB fIsi (aCons (eVar 6) (aCons (eC (.ty .bool)) aNil)))))
  (sIf (tOrM (toT (eOp NE (eB fIsi (aCons (eVar 5) (aCons (eC (.ty .bool)) aNil))) (eB fIsi (aCons (eVar 6) (aCons (eC (.ty .bool)) aNil))))) (toT (eOp NE (eVar 5) (eVar 6))))
  (sRet (eC (.bl false)))
  sNil)
  (sIf (toT (eB fIsi (aCons (eVar 6) (aCons (eC (.ty .int)) aNil))))
  (sIf (tOrM (tNotM (toT (eCall WH [] (aCons (eVar 5) aNil)))) (toT (eOp NE (eVar 5) (eVar 6))))
  (sRet (eC (.bl false)))
  sNil)
  (sIf (toT (eB fIsi (aCons (eVar 6) (aCons (eC (.ty .str)) aNil))))
  (sIf (tOrM (tNotM (toT (eB fIsi (aCons (eVar 5) (aCons (eC (.ty .str)) aNil))))) (toT (eOp NE (eVar 5) (eVar 6))))
  (sRet (eC (.bl false)))
  sNil)
  (sSeq (sIf (tOrM (toT (eOp NE (eB fIsi (aCons (eVar 5) (aCons (eC (.ty .list)) aNil))) (eB fIsi (aCons (eVar 6) (aCons (eC (.ty .list)) aNil))))) (toT (eOp NE (eB fIsi (aCons (eVar 5) (aCons (eC (.ty .tuple)) aNil))) (eB fIsi (aCons (eVar 6) (aCons (eC (.ty .tuple)) aNil))))))
  (sRet (eC (.bl false)))
  sNil)
  (sSeq (sIf (toT (eB fIsi (aCons (eVar 6) (aCons (eC (.ty .dict)) aNil))))
  S7
  sNil)
  (sSeq (sIf (toT (eOp NE (eB fLen (aCons (eVar 5) aNil)) (eB fLen (aCons (eVar 6) aNil))))
  (sRet (eC (.bl false)))
  sNil)
  S9))))))))))
def eqBodyG (S7 : MS) : MS := (sSeq (sIf (toT (eOp gEq (eB fLen (aCons (eVar 2) aNil)) (eC (.int 0))))
  (sRet (eC (.bl true)))
  sNil)
  (sSeq (sSet 4 (eMt kList mPop (eVar 2) aNil))
  (sSeq (sSet 5 (eOp gIx (eVar 4) (eC (.int 0))))
  (sSeq (sSet 6 (eOp gIx (eVar 4) (eC (.int 1))))
  (sIf (tOrM (toT (eOp (isM false) (eVar 6) (eC .non))) (toT (eB fIsi (aCons (eVar 6) (aCons (eC (.ty .bool)) aNil)))))
  (sIf (tOrM (toT (eOp gNe (eB fIsi (aCons (eVar 5) (aCons (eC (.ty .bool)) aNil))) (eB fIsi (aCons (eVar 6) (aCons (eC (.ty .bool)) aNil))))) (toT (eOp gNe (eVar 5) (eVar 6))))
  (sRet (eC (.bl false)))
  sNil)
  (sIf (toT (eB fIsi (aCons (eVar 6) (aCons (eC (.ty .int)) aNil))))
  (sIf (tOrM (tNotM (toT (eCall f_whole [] (aCons (eVar 5) aNil)))) (toT (eOp gNe (eVar 5) (eVar 6))))
  (sRet (eC (.bl false)))
  sNil)
  (sIf (toT (eB fIsi (aCons (eVar 6) (aCons (eC (.ty .str)) aNil))))
  (sIf (tOrM (tNotM (toT (eB fIsi (aCons (eVar 5) (aCons (eC (.ty .str)) aNil))))) (toT (eOp gNe (eVar 5) (eVar 6))))
  (sRet (eC (.bl false)))
  sNil)
  (sSeq (sIf (tOrM (toT (eOp gNe (eB fIsi (aCons (eVar 5) (aCons (eC (.ty .list)) aNil))) (eB fIsi (aCons (eVar 6) (aCons (eC (.ty .list)) aNil))))) (toT (eOp gNe (eB fIsi (aCons (eVar 5) (aCons (eC (.ty .tuple)) aNil))) (eB fIsi (aCons (eVar 6) (aCons (eC (.ty .tuple)) aNil))))))
  (sRet (eC (.bl false)))
  sNil)
  (sSeq (sIf (toT (eB fIsi (aCons (eVar 6) (aCons (eC (.ty .dict)) aNil))))
  S7
  sNil)
  (sSeq (sIf (toT (eOp gNe (eB fLen (aCons (eVar 5) aNil)) (eB fLen (aCons (eVar 6) aNil))))
  (sRet (eC (.bl false)))
  sNil)
  (sFor (iR1 (eB fLen (aCons (eVar 6) aNil))) (gN 8)
  (sExpr (eMt kList mAppend (eVar 2) (aCons (eTup (aCons (eOp gIx (eVar 5) (eVar 8)) (aCons (eOp gIx (eVar 6) (eVar 8)) aNil))) aNil))))))))))))))
def m_equalG (S7 : MS) : MS := (sSeq (sSet 2 (eLst (aCons (eTup (aCons (eVar 0) (aCons (eVar 1) aNil))) aNil)))
  (sSeq (sFor (iR1 (eC (.int 6000))) (gN 3)
  (eqBodyG S7))
  (sRet (eC (.bl false)))))
abbrev f_equalG (S7 : MS) : MF := fnOf 2 9 (m_equalG S7)
def S7o : MS := (sSeq (sIf (tOrM (tNotM (toT (eB fIsi (aCons (eVar 5) (aCons (eC (.ty .dict)) aNil))))) (toT (eOp gNe (eB fList (aCons (eVar 5) aNil)) (eB fList (aCons (eVar 6) aNil)))))
  (sRet (eC (.bl false)))
  sNil)
  (sSeq (sSet 5 (eLc (iSeq (eVar 6)) (gN 7) tYesM (eOp gIx (eVar 5) (eVar 7)) [7]))
  (sSet 6 (eLc (iSeq (eVar 6)) (gN 7) tYesM (eOp gIx (eVar 6) (eVar 7)) [7]))))
abbrev f_equal : MF := f_equalG S7o
def plD : Nat → D → Bool
  | 0, _ => false
  | f + 1, d => match d with
    | .sc .non => true
    | .sc (.bl _) => true
    | .sc (.int _) => true
    | .sc (.str l) => PyData.strOk (GL.toS l)
    | .tup xs => xs.all (plD f)
    | .nd .fz .lst xs => xs.all (plD f)
    | _ => false
def szD : Nat → D → Nat
  | 0, _ => 1
  | f + 1, d => match d with
    | .tup xs => 1 + (xs.map (szD f)).sum
    | .nd _ _ xs => 1 + (xs.map (szD f)).sum
    | _ => 1
theorem plD_shr : ∀ {f : Nat} {d : D}, plD f d = true → d.shr = true
  | 0, _, h => by cases h
  | f + 1, .sc _, _ => rfl
  | f + 1, .tup _, _ => rfl
  | f + 1, .nd .fz _ _, _ => rfl
  | f + 1, .nd .ow h xs, e => by cases h <;> cases e
  | f + 1, .nd .lk h xs, e => by cases h <;> cases e
section
variable {S7 S0 S4 S9 : MS} {NE : G2} {WH : MF} {a b p : D} {W W' xs : List D} {k : Int} {x4 x5 x6 x8 y8 : Option V}
theorem eqB_non_nn {e4 e5 e6 e8 : D} (h0 : S0 [some (.v a), some (.v b), some (.v (.nd .ow .lst W)), some (.v (.int k)), none, none, none, none, none] [] = .nx [some (.v a), some (.v b), some (.v (.nd .ow .lst W)), some (.v (.int k)), none, none, none, none, none] [])
    (h4 : S4 [some (.v a), some (.v b), some (.v (.nd .ow .lst W)), some (.v (.int k)), none, none, none, none, none] [] = .nx [some (.v a), some (.v b), some (.v (.nd .ow .lst W')), some (.v (.int k)), (some (.v (.tup [.non, .non]))), none, none, none, none] []) (hN : ∀ d ls gh, okD 60 d = true → NE (.v d) (.v d) ls gh = .ok (.v (.bl false)) ls gh) (hW : ∀ i : Int, WH [.v (.int i)] [] = .ok (.bl true) []) :
    eqB S7 S0 S4 S9 NE WH [some (.v a), some (.v b), some (.v (.nd .ow .lst W)), some (.v (.int k)), none, none, none, none, none] [] = .nx [some (.v a), some (.v b), some (.v (.nd .ow .lst W')), some (.v (.int k)), (some (.v (.tup [.non, .non]))), (some (.v .non)), (some (.v .non)), none, none] [] := by
  unfold eqB
  have c0 : ∀ {ls gh r}, S0 ls gh = r → S0 ls gh = r := fun h => h
  have c4 : ∀ {ls gh r}, S4 ls gh = r → S4 ls gh = r := fun h => h
  have cN : ∀ {x y ls gh r}, NE x y ls gh = r → NE x y ls gh = r := fun h => h
  have cW : ∀ {vs hs r}, WH vs hs = r → WH vs hs = r := fun h => h
  repeat (cbv; first | (rw [c0]; rotate_left; exact h0) | (rw [c4]; rotate_left; exact h4) | (rw [cN]; rotate_left; exact hN _ _ _ (by first | rfl | assumption)) | (rw [cW]; rotate_left; exact hW _))
  kernel_rfl
theorem eqB_non_ns {e4 e5 e6 e8 : D} (h0 : S0 [some (.v a), some (.v b), some (.v (.nd .ow .lst W)), some (.v (.int k)), none, none, none, none, (some (.v e8))] [] = .nx [some (.v a), some (.v b), some (.v (.nd .ow .lst W)), some (.v (.int k)), none, none, none, none, (some (.v e8))] [])
    (h4 : S4 [some (.v a), some (.v b), some (.v (.nd .ow .lst W)), some (.v (.int k)), none, none, none, none, (some (.v e8))] [] = .nx [some (.v a), some (.v b), some (.v (.nd .ow .lst W')), some (.v (.int k)), (some (.v (.tup [.non, .non]))), none, none, none, (some (.v e8))] []) (hN : ∀ d ls gh, okD 60 d = true → NE (.v d) (.v d) ls gh = .ok (.v (.bl false)) ls gh) (hW : ∀ i : Int, WH [.v (.int i)] [] = .ok (.bl true) []) :
    eqB S7 S0 S4 S9 NE WH [some (.v a), some (.v b), some (.v (.nd .ow .lst W)), some (.v (.int k)), none, none, none, none, (some (.v e8))] [] = .nx [some (.v a), some (.v b), some (.v (.nd .ow .lst W')), some (.v (.int k)), (some (.v (.tup [.non, .non]))), (some (.v .non)), (some (.v .non)), none, (some (.v e8))] [] := by
  unfold eqB
  have c0 : ∀ {ls gh r}, S0 ls gh = r → S0 ls gh = r := fun h => h
  have c4 : ∀ {ls gh r}, S4 ls gh = r → S4 ls gh = r := fun h => h
  have cN : ∀ {x y ls gh r}, NE x y ls gh = r → NE x y ls gh = r := fun h => h
  have cW : ∀ {vs hs r}, WH vs hs = r → WH vs hs = r := fun h => h
  repeat (cbv; first | (rw [c0]; rotate_left; exact h0) | (rw [c4]; rotate_left; exact h4) | (rw [cN]; rotate_left; exact hN _ _ _ (by first | rfl | assumption)) | (rw [cW]; rotate_left; exact hW _))
  kernel_rfl
theorem eqB_non_sn {e4 e5 e6 e8 : D} (h0 : S0 [some (.v a), some (.v b), some (.v (.nd .ow .lst W)), some (.v (.int k)), (some (.v e4)), (some (.v e5)), (some (.v e6)), none, none] [] = .nx [some (.v a), some (.v b), some (.v (.nd .ow .lst W)), some (.v (.int k)), (some (.v e4)), (some (.v e5)), (some (.v e6)), none, none] [])
    (h4 : S4 [some (.v a), some (.v b), some (.v (.nd .ow .lst W)), some (.v (.int k)), (some (.v e4)), (some (.v e5)), (some (.v e6)), none, none] [] = .nx [some (.v a), some (.v b), some (.v (.nd .ow .lst W')), some (.v (.int k)), (some (.v (.tup [.non, .non]))), (some (.v e5)), (some (.v e6)), none, none] []) (hN : ∀ d ls gh, okD 60 d = true → NE (.v d) (.v d) ls gh = .ok (.v (.bl false)) ls gh) (hW : ∀ i : Int, WH [.v (.int i)] [] = .ok (.bl true) []) :
    eqB S7 S0 S4 S9 NE WH [some (.v a), some (.v b), some (.v (.nd .ow .lst W)), some (.v (.int k)), (some (.v e4)), (some (.v e5)), (some (.v e6)), none, none] [] = .nx [some (.v a), some (.v b), some (.v (.nd .ow .lst W')), some (.v (.int k)), (some (.v (.tup [.non, .non]))), (some (.v .non)), (some (.v .non)), none, none] [] := by
  unfold eqB
  have c0 : ∀ {ls gh r}, S0 ls gh = r → S0 ls gh = r := fun h => h
  have c4 : ∀ {ls gh r}, S4 ls gh = r → S4 ls gh = r := fun h => h
  have cN : ∀ {x y ls gh r}, NE x y ls gh = r → NE x y ls gh = r := fun h => h
  have cW : ∀ {vs hs r}, WH vs hs = r → WH vs hs = r := fun h => h
  repeat (cbv; first | (rw [c0]; rotate_left; exact h0) | (rw [c4]; rotate_left; exact h4) | (rw [cN]; rotate_left; exact hN _ _ _ (by first | rfl | assumption)) | (rw [cW]; rotate_left; exact hW _))
  kernel_rfl
theorem eqB_non_ss {e4 e5 e6 e8 : D} (h0 : S0 [some (.v a), some (.v b), some (.v (.nd .ow .lst W)), some (.v (.int k)), (some (.v e4)), (some (.v e5)), (some (.v e6)), none, (some (.v e8))] [] = .nx [some (.v a), some (.v b), some (.v (.nd .ow .lst W)), some (.v (.int k)), (some (.v e4)), (some (.v e5)), (some (.v e6)), none, (some (.v e8))] [])
    (h4 : S4 [some (.v a), some (.v b), some (.v (.nd .ow .lst W)), some (.v (.int k)), (some (.v e4)), (some (.v e5)), (some (.v e6)), none, (some (.v e8))] [] = .nx [some (.v a), some (.v b), some (.v (.nd .ow .lst W')), some (.v (.int k)), (some (.v (.tup [.non, .non]))), (some (.v e5)), (some (.v e6)), none, (some (.v e8))] []) (hN : ∀ d ls gh, okD 60 d = true → NE (.v d) (.v d) ls gh = .ok (.v (.bl false)) ls gh) (hW : ∀ i : Int, WH [.v (.int i)] [] = .ok (.bl true) []) :
    eqB S7 S0 S4 S9 NE WH [some (.v a), some (.v b), some (.v (.nd .ow .lst W)), some (.v (.int k)), (some (.v e4)), (some (.v e5)), (some (.v e6)), none, (some (.v e8))] [] = .nx [some (.v a), some (.v b), some (.v (.nd .ow .lst W')), some (.v (.int k)), (some (.v (.tup [.non, .non]))), (some (.v .non)), (some (.v .non)), none, (some (.v e8))] [] := by
  unfold eqB
  have c0 : ∀ {ls gh r}, S0 ls gh = r → S0 ls gh = r := fun h => h
  have c4 : ∀ {ls gh r}, S4 ls gh = r → S4 ls gh = r := fun h => h
  have cN : ∀ {x y ls gh r}, NE x y ls gh = r → NE x y ls gh = r := fun h => h
  have cW : ∀ {vs hs r}, WH vs hs = r → WH vs hs = r := fun h => h
  repeat (cbv; first | (rw [c0]; rotate_left; exact h0) | (rw [c4]; rotate_left; exact h4) | (rw [cN]; rotate_left; exact hN _ _ _ (by first | rfl | assumption)) | (rw [cW]; rotate_left; exact hW _))
  kernel_rfl
theorem eqB_bl_nn {q : Bool} {e4 e5 e6 e8 : D} (h0 : S0 [some (.v a), some (.v b), some (.v (.nd .ow .lst W)), some (.v (.int k)), none, none, none, none, none] [] = .nx [some (.v a), some (.v b), some (.v (.nd .ow .lst W)), some (.v (.int k)), none, none, none, none, none] [])
    (h4 : S4 [some (.v a), some (.v b), some (.v (.nd .ow .lst W)), some (.v (.int k)), none, none, none, none, none] [] = .nx [some (.v a), some (.v b), some (.v (.nd .ow .lst W')), some (.v (.int k)), (some (.v (.tup [(.bl q), (.bl q)]))), none, none, none, none] []) (hN : ∀ d ls gh, okD 60 d = true → NE (.v d) (.v d) ls gh = .ok (.v (.bl false)) ls gh) (hW : ∀ i : Int, WH [.v (.int i)] [] = .ok (.bl true) []) :
    eqB S7 S0 S4 S9 NE WH [some (.v a), some (.v b), some (.v (.nd .ow .lst W)), some (.v (.int k)), none, none, none, none, none] [] = .nx [some (.v a), some (.v b), some (.v (.nd .ow .lst W')), some (.v (.int k)), (some (.v (.tup [(.bl q), (.bl q)]))), (some (.v (.bl q))), (some (.v (.bl q))), none, none] [] := by
  unfold eqB
  have c0 : ∀ {ls gh r}, S0 ls gh = r → S0 ls gh = r := fun h => h
  have c4 : ∀ {ls gh r}, S4 ls gh = r → S4 ls gh = r := fun h => h
  have cN : ∀ {x y ls gh r}, NE x y ls gh = r → NE x y ls gh = r := fun h => h
  have cW : ∀ {vs hs r}, WH vs hs = r → WH vs hs = r := fun h => h
  repeat (cbv; first | (rw [c0]; rotate_left; exact h0) | (rw [c4]; rotate_left; exact h4) | (rw [cN]; rotate_left; exact hN _ _ _ (by first | rfl | assumption)) | (rw [cW]; rotate_left; exact hW _))
  kernel_rfl
theorem eqB_bl_ns {q : Bool} {e4 e5 e6 e8 : D} (h0 : S0 [some (.v a), some (.v b), some (.v (.nd .ow .lst W)), some (.v (.int k)), none, none, none, none, (some (.v e8))] [] = .nx [some (.v a), some (.v b), some (.v (.nd .ow .lst W)), some (.v (.int k)), none, none, none, none, (some (.v e8))] [])
    (h4 : S4 [some (.v a), some (.v b), some (.v (.nd .ow .lst W)), some (.v (.int k)), none, none, none, none, (some (.v e8))] [] = .nx [some (.v a), some (.v b), some (.v (.nd .ow .lst W')), some (.v (.int k)), (some (.v (.tup [(.bl q), (.bl q)]))), none, none, none, (some (.v e8))] []) (hN : ∀ d ls gh, okD 60 d = true → NE (.v d) (.v d) ls gh = .ok (.v (.bl false)) ls gh) (hW : ∀ i : Int, WH [.v (.int i)] [] = .ok (.bl true) []) :
    eqB S7 S0 S4 S9 NE WH [some (.v a), some (.v b), some (.v (.nd .ow .lst W)), some (.v (.int k)), none, none, none, none, (some (.v e8))] [] = .nx [some (.v a), some (.v b), some (.v (.nd .ow .lst W')), some (.v (.int k)), (some (.v (.tup [(.bl q), (.bl q)]))), (some (.v (.bl q))), (some (.v (.bl q))), none, (some (.v e8))] [] := by
  unfold eqB
  have c0 : ∀ {ls gh r}, S0 ls gh = r → S0 ls gh = r := fun h => h
  have c4 : ∀ {ls gh r}, S4 ls gh = r → S4 ls gh = r := fun h => h
  have cN : ∀ {x y ls gh r}, NE x y ls gh = r → NE x y ls gh = r := fun h => h
  have cW : ∀ {vs hs r}, WH vs hs = r → WH vs hs = r := fun h => h
  repeat (cbv; first | (rw [c0]; rotate_left; exact h0) | (rw [c4]; rotate_left; exact h4) | (rw [cN]; rotate_left; exact hN _ _ _ (by first | rfl | assumption)) | (rw [cW]; rotate_left; exact hW _))
  kernel_rfl
theorem eqB_bl_sn {q : Bool} {e4 e5 e6 e8 : D} (h0 : S0 [some (.v a), some (.v b), some (.v (.nd .ow .lst W)), some (.v (.int k)), (some (.v e4)), (some (.v e5)), (some (.v e6)), none, none] [] = .nx [some (.v a), some (.v b), some (.v (.nd .ow .lst W)), some (.v (.int k)), (some (.v e4)), (some (.v e5)), (some (.v e6)), none, none] [])
    (h4 : S4 [some (.v a), some (.v b), some (.v (.nd .ow .lst W)), some (.v (.int k)), (some (.v e4)), (some (.v e5)), (some (.v e6)), none, none] [] = .nx [some (.v a), some (.v b), some (.v (.nd .ow .lst W')), some (.v (.int k)), (some (.v (.tup [(.bl q), (.bl q)]))), (some (.v e5)), (some (.v e6)), none, none] []) (hN : ∀ d ls gh, okD 60 d = true → NE (.v d) (.v d) ls gh = .ok (.v (.bl false)) ls gh) (hW : ∀ i : Int, WH [.v (.int i)] [] = .ok (.bl true) []) :
    eqB S7 S0 S4 S9 NE WH [some (.v a), some (.v b), some (.v (.nd .ow .lst W)), some (.v (.int k)), (some (.v e4)), (some (.v e5)), (some (.v e6)), none, none] [] = .nx [some (.v a), some (.v b), some (.v (.nd .ow .lst W')), some (.v (.int k)), (some (.v (.tup [(.bl q), (.bl q)]))), (some (.v (.bl q))), (some (.v (.bl q))), none, none] [] := by
  unfold eqB
  have c0 : ∀ {ls gh r}, S0 ls gh = r → S0 ls gh = r := fun h => h
  have c4 : ∀ {ls gh r}, S4 ls gh = r → S4 ls gh = r := fun h => h
  have cN : ∀ {x y ls gh r}, NE x y ls gh = r → NE x y ls gh = r := fun h => h
  have cW : ∀ {vs hs r}, WH vs hs = r → WH vs hs = r := fun h => h
  repeat (cbv; first | (rw [c0]; rotate_left; exact h0) | (rw [c4]; rotate_left; exact h4) | (rw [cN]; rotate_left; exact hN _ _ _ (by first | rfl | assumption)) | (rw [cW]; rotate_left; exact hW _))
  kernel_rfl
theorem eqB_bl_ss {q : Bool} {e4 e5 e6 e8 : D} (h0 : S0 [some (.v a), some (.v b), some (.v (.nd .ow .lst W)), some (.v (.int k)), (some (.v e4)), (some (.v e5)), (some (.v e6)), none, (some (.v e8))] [] = .nx [some (.v a), some (.v b), some (.v (.nd .ow .lst W)), some (.v (.int k)), (some (.v e4)), (some (.v e5)), (some (.v e6)), none, (some (.v e8))] [])
    (h4 : S4 [some (.v a), some (.v b), some (.v (.nd .ow .lst W)), some (.v (.int k)), (some (.v e4)), (some (.v e5)), (some (.v e6)), none, (some (.v e8))] [] = .nx [some (.v a), some (.v b), some (.v (.nd .ow .lst W')), some (.v (.int k)), (some (.v (.tup [(.bl q), (.bl q)]))), (some (.v e5)), (some (.v e6)), none, (some (.v e8))] []) (hN : ∀ d ls gh, okD 60 d = true → NE (.v d) (.v d) ls gh = .ok (.v (.bl false)) ls gh) (hW : ∀ i : Int, WH [.v (.int i)] [] = .ok (.bl true) []) :
    eqB S7 S0 S4 S9 NE WH [some (.v a), some (.v b), some (.v (.nd .ow .lst W)), some (.v (.int k)), (some (.v e4)), (some (.v e5)), (some (.v e6)), none, (some (.v e8))] [] = .nx [some (.v a), some (.v b), some (.v (.nd .ow .lst W')), some (.v (.int k)), (some (.v (.tup [(.bl q), (.bl q)]))), (some (.v (.bl q))), (some (.v (.bl q))), none, (some (.v e8))] [] := by
  unfold eqB
  have c0 : ∀ {ls gh r}, S0 ls gh = r → S0 ls gh = r := fun h => h
  have c4 : ∀ {ls gh r}, S4 ls gh = r → S4 ls gh = r := fun h => h
  have cN : ∀ {x y ls gh r}, NE x y ls gh = r → NE x y ls gh = r := fun h => h
  have cW : ∀ {vs hs r}, WH vs hs = r → WH vs hs = r := fun h => h
  repeat (cbv; first | (rw [c0]; rotate_left; exact h0) | (rw [c4]; rotate_left; exact h4) | (rw [cN]; rotate_left; exact hN _ _ _ (by first | rfl | assumption)) | (rw [cW]; rotate_left; exact hW _))
  kernel_rfl
theorem eqB_int_nn {q : Int} {e4 e5 e6 e8 : D} (h0 : S0 [some (.v a), some (.v b), some (.v (.nd .ow .lst W)), some (.v (.int k)), none, none, none, none, none] [] = .nx [some (.v a), some (.v b), some (.v (.nd .ow .lst W)), some (.v (.int k)), none, none, none, none, none] [])
    (h4 : S4 [some (.v a), some (.v b), some (.v (.nd .ow .lst W)), some (.v (.int k)), none, none, none, none, none] [] = .nx [some (.v a), some (.v b), some (.v (.nd .ow .lst W')), some (.v (.int k)), (some (.v (.tup [(.int q), (.int q)]))), none, none, none, none] []) (hN : ∀ d ls gh, okD 60 d = true → NE (.v d) (.v d) ls gh = .ok (.v (.bl false)) ls gh) (hW : ∀ i : Int, WH [.v (.int i)] [] = .ok (.bl true) []) :
    eqB S7 S0 S4 S9 NE WH [some (.v a), some (.v b), some (.v (.nd .ow .lst W)), some (.v (.int k)), none, none, none, none, none] [] = .nx [some (.v a), some (.v b), some (.v (.nd .ow .lst W')), some (.v (.int k)), (some (.v (.tup [(.int q), (.int q)]))), (some (.v (.int q))), (some (.v (.int q))), none, none] [] := by
  unfold eqB
  have c0 : ∀ {ls gh r}, S0 ls gh = r → S0 ls gh = r := fun h => h
  have c4 : ∀ {ls gh r}, S4 ls gh = r → S4 ls gh = r := fun h => h
  have cN : ∀ {x y ls gh r}, NE x y ls gh = r → NE x y ls gh = r := fun h => h
  have cW : ∀ {vs hs r}, WH vs hs = r → WH vs hs = r := fun h => h
  repeat (cbv; first | (rw [c0]; rotate_left; exact h0) | (rw [c4]; rotate_left; exact h4) | (rw [cN]; rotate_left; exact hN _ _ _ (by first | rfl | assumption)) | (rw [cW]; rotate_left; exact hW _))
  kernel_rfl
theorem eqB_int_ns {q : Int} {e4 e5 e6 e8 : D} (h0 : S0 [some (.v a), some (.v b), some (.v (.nd .ow .lst W)), some (.v (.int k)), none, none, none, none, (some (.v e8))] [] = .nx [some (.v a), some (.v b), some (.v (.nd .ow .lst W)), some (.v (.int k)), none, none, none, none, (some (.v e8))] [])
    (h4 : S4 [some (.v a), some (.v b), some (.v (.nd .ow .lst W)), some (.v (.int k)), none, none, none, none, (some (.v e8))] [] = .nx [some (.v a), some (.v b), some (.v (.nd .ow .lst W')), some (.v (.int k)), (some (.v (.tup [(.int q), (.int q)]))), none, none, none, (some (.v e8))] []) (hN : ∀ d ls gh, okD 60 d = true → NE (.v d) (.v d) ls gh = .ok (.v (.bl false)) ls gh) (hW : ∀ i : Int, WH [.v (.int i)] [] = .ok (.bl true) []) :
    eqB S7 S0 S4 S9 NE WH [some (.v a), some (.v b), some (.v (.nd .ow .lst W)), some (.v (.int k)), none, none, none, none, (some (.v e8))] [] = .nx [some (.v a), some (.v b), some (.v (.nd .ow .lst W')), some (.v (.int k)), (some (.v (.tup [(.int q), (.int q)]))), (some (.v (.int q))), (some (.v (.int q))), none, (some (.v e8))] [] := by
  unfold eqB
  have c0 : ∀ {ls gh r}, S0 ls gh = r → S0 ls gh = r := fun h => h
  have c4 : ∀ {ls gh r}, S4 ls gh = r → S4 ls gh = r := fun h => h
  have cN : ∀ {x y ls gh r}, NE x y ls gh = r → NE x y ls gh = r := fun h => h
  have cW : ∀ {vs hs r}, WH vs hs = r → WH vs hs = r := fun h => h
  repeat (cbv; first | (rw [c0]; rotate_left; exact h0) | (rw [c4]; rotate_left; exact h4) | (rw [cN]; rotate_left; exact hN _ _ _ (by first | rfl | assumption)) | (rw [cW]; rotate_left; exact hW _))
  kernel_rfl
theorem eqB_int_sn {q : Int} {e4 e5 e6 e8 : D} (h0 : S0 [some (.v a), some (.v b), some (.v (.nd .ow .lst W)), some (.v (.int k)), (some (.v e4)), (some (.v e5)), (some (.v e6)), none, none] [] = .nx [some (.v a), some (.v b), some (.v (.nd .ow .lst W)), some (.v (.int k)), (some (.v e4)), (some (.v e5)), (some (.v e6)), none, none] [])
    (h4 : S4 [some (.v a), some (.v b), some (.v (.nd .ow .lst W)), some (.v (.int k)), (some (.v e4)), (some (.v e5)), (some (.v e6)), none, none] [] = .nx [some (.v a), some (.v b), some (.v (.nd .ow .lst W')), some (.v (.int k)), (some (.v (.tup [(.int q), (.int q)]))), (some (.v e5)), (some (.v e6)), none, none] []) (hN : ∀ d ls gh, okD 60 d = true → NE (.v d) (.v d) ls gh = .ok (.v (.bl false)) ls gh) (hW : ∀ i : Int, WH [.v (.int i)] [] = .ok (.bl true) []) :
    eqB S7 S0 S4 S9 NE WH [some (.v a), some (.v b), some (.v (.nd .ow .lst W)), some (.v (.int k)), (some (.v e4)), (some (.v e5)), (some (.v e6)), none, none] [] = .nx [some (.v a), some (.v b), some (.v (.nd .ow .lst W')), some (.v (.int k)), (some (.v (.tup [(.int q), (.int q)]))), (some (.v (.int q))), (some (.v (.int q))), none, none] [] := by
  unfold eqB
  have c0 : ∀ {ls gh r}, S0 ls gh = r → S0 ls gh = r := fun h => h
  have c4 : ∀ {ls gh r}, S4 ls gh = r → S4 ls gh = r := fun h => h
  have cN : ∀ {x y ls gh r}, NE x y ls gh = r → NE x y ls gh = r := fun h => h
  have cW : ∀ {vs hs r}, WH vs hs = r → WH vs hs = r := fun h => h
  repeat (cbv; first | (rw [c0]; rotate_left; exact h0) | (rw [c4]; rotate_left; exact h4) | (rw [cN]; rotate_left; exact hN _ _ _ (by first | rfl | assumption)) | (rw [cW]; rotate_left; exact hW _))
  kernel_rfl
theorem eqB_int_ss {q : Int} {e4 e5 e6 e8 : D} (h0 : S0 [some (.v a), some (.v b), some (.v (.nd .ow .lst W)), some (.v (.int k)), (some (.v e4)), (some (.v e5)), (some (.v e6)), none, (some (.v e8))] [] = .nx [some (.v a), some (.v b), some (.v (.nd .ow .lst W)), some (.v (.int k)), (some (.v e4)), (some (.v e5)), (some (.v e6)), none, (some (.v e8))] [])
    (h4 : S4 [some (.v a), some (.v b), some (.v (.nd .ow .lst W)), some (.v (.int k)), (some (.v e4)), (some (.v e5)), (some (.v e6)), none, (some (.v e8))] [] = .nx [some (.v a), some (.v b), some (.v (.nd .ow .lst W')), some (.v (.int k)), (some (.v (.tup [(.int q), (.int q)]))), (some (.v e5)), (some (.v e6)), none, (some (.v e8))] []) (hN : ∀ d ls gh, okD 60 d = true → NE (.v d) (.v d) ls gh = .ok (.v (.bl false)) ls gh) (hW : ∀ i : Int, WH [.v (.int i)] [] = .ok (.bl true) []) :
    eqB S7 S0 S4 S9 NE WH [some (.v a), some (.v b), some (.v (.nd .ow .lst W)), some (.v (.int k)), (some (.v e4)), (some (.v e5)), (some (.v e6)), none, (some (.v e8))] [] = .nx [some (.v a), some (.v b), some (.v (.nd .ow .lst W')), some (.v (.int k)), (some (.v (.tup [(.int q), (.int q)]))), (some (.v (.int q))), (some (.v (.int q))), none, (some (.v e8))] [] := by
  unfold eqB
  have c0 : ∀ {ls gh r}, S0 ls gh = r → S0 ls gh = r := fun h => h
  have c4 : ∀ {ls gh r}, S4 ls gh = r → S4 ls gh = r := fun h => h
  have cN : ∀ {x y ls gh r}, NE x y ls gh = r → NE x y ls gh = r := fun h => h
  have cW : ∀ {vs hs r}, WH vs hs = r → WH vs hs = r := fun h => h
  repeat (cbv; first | (rw [c0]; rotate_left; exact h0) | (rw [c4]; rotate_left; exact h4) | (rw [cN]; rotate_left; exact hN _ _ _ (by first | rfl | assumption)) | (rw [cW]; rotate_left; exact hW _))
  kernel_rfl
theorem eqB_str_nn {q : List Nat} {e4 e5 e6 e8 : D} (hq : okD 60 (.str q) = true) (h0 : S0 [some (.v a), some (.v b), some (.v (.nd .ow .lst W)), some (.v (.int k)), none, none, none, none, none] [] = .nx [some (.v a), some (.v b), some (.v (.nd .ow .lst W)), some (.v (.int k)), none, none, none, none, none] [])
    (h4 : S4 [some (.v a), some (.v b), some (.v (.nd .ow .lst W)), some (.v (.int k)), none, none, none, none, none] [] = .nx [some (.v a), some (.v b), some (.v (.nd .ow .lst W')), some (.v (.int k)), (some (.v (.tup [(.str q), (.str q)]))), none, none, none, none] []) (hN : ∀ d ls gh, okD 60 d = true → NE (.v d) (.v d) ls gh = .ok (.v (.bl false)) ls gh) (hW : ∀ i : Int, WH [.v (.int i)] [] = .ok (.bl true) []) :
    eqB S7 S0 S4 S9 NE WH [some (.v a), some (.v b), some (.v (.nd .ow .lst W)), some (.v (.int k)), none, none, none, none, none] [] = .nx [some (.v a), some (.v b), some (.v (.nd .ow .lst W')), some (.v (.int k)), (some (.v (.tup [(.str q), (.str q)]))), (some (.v (.str q))), (some (.v (.str q))), none, none] [] := by
  unfold eqB
  have c0 : ∀ {ls gh r}, S0 ls gh = r → S0 ls gh = r := fun h => h
  have c4 : ∀ {ls gh r}, S4 ls gh = r → S4 ls gh = r := fun h => h
  have cN : ∀ {x y ls gh r}, NE x y ls gh = r → NE x y ls gh = r := fun h => h
  have cW : ∀ {vs hs r}, WH vs hs = r → WH vs hs = r := fun h => h
  repeat (cbv; first | (rw [c0]; rotate_left; exact h0) | (rw [c4]; rotate_left; exact h4) | (rw [cN]; rotate_left; exact hN _ _ _ (by first | rfl | assumption)) | (rw [cW]; rotate_left; exact hW _))
  kernel_rfl
theorem eqB_str_ns {q : List Nat} {e4 e5 e6 e8 : D} (hq : okD 60 (.str q) = true) (h0 : S0 [some (.v a), some (.v b), some (.v (.nd .ow .lst W)), some (.v (.int k)), none, none, none, none, (some (.v e8))] [] = .nx [some (.v a), some (.v b), some (.v (.nd .ow .lst W)), some (.v (.int k)), none, none, none, none, (some (.v e8))] [])
    (h4 : S4 [some (.v a), some (.v b), some (.v (.nd .ow .lst W)), some (.v (.int k)), none, none, none, none, (some (.v e8))] [] = .nx [some (.v a), some (.v b), some (.v (.nd .ow .lst W')), some (.v (.int k)), (some (.v (.tup [(.str q), (.str q)]))), none, none, none, (some (.v e8))] []) (hN : ∀ d ls gh, okD 60 d = true → NE (.v d) (.v d) ls gh = .ok (.v (.bl false)) ls gh) (hW : ∀ i : Int, WH [.v (.int i)] [] = .ok (.bl true) []) :
    eqB S7 S0 S4 S9 NE WH [some (.v a), some (.v b), some (.v (.nd .ow .lst W)), some (.v (.int k)), none, none, none, none, (some (.v e8))] [] = .nx [some (.v a), some (.v b), some (.v (.nd .ow .lst W')), some (.v (.int k)), (some (.v (.tup [(.str q), (.str q)]))), (some (.v (.str q))), (some (.v (.str q))), none, (some (.v e8))] [] := by
  unfold eqB
  have c0 : ∀ {ls gh r}, S0 ls gh = r → S0 ls gh = r := fun h => h
  have c4 : ∀ {ls gh r}, S4 ls gh = r → S4 ls gh = r := fun h => h
  have cN : ∀ {x y ls gh r}, NE x y ls gh = r → NE x y ls gh = r := fun h => h
  have cW : ∀ {vs hs r}, WH vs hs = r → WH vs hs = r := fun h => h
  repeat (cbv; first | (rw [c0]; rotate_left; exact h0) | (rw [c4]; rotate_left; exact h4) | (rw [cN]; rotate_left; exact hN _ _ _ (by first | rfl | assumption)) | (rw [cW]; rotate_left; exact hW _))
  kernel_rfl
theorem eqB_str_sn {q : List Nat} {e4 e5 e6 e8 : D} (hq : okD 60 (.str q) = true) (h0 : S0 [some (.v a), some (.v b), some (.v (.nd .ow .lst W)), some (.v (.int k)), (some (.v e4)), (some (.v e5)), (some (.v e6)), none, none] [] = .nx [some (.v a), some (.v b), some (.v (.nd .ow .lst W)), some (.v (.int k)), (some (.v e4)), (some (.v e5)), (some (.v e6)), none, none] [])
    (h4 : S4 [some (.v a), some (.v b), some (.v (.nd .ow .lst W)), some (.v (.int k)), (some (.v e4)), (some (.v e5)), (some (.v e6)), none, none] [] = .nx [some (.v a), some (.v b), some (.v (.nd .ow .lst W')), some (.v (.int k)), (some (.v (.tup [(.str q), (.str q)]))), (some (.v e5)), (some (.v e6)), none, none] []) (hN : ∀ d ls gh, okD 60 d = true → NE (.v d) (.v d) ls gh = .ok (.v (.bl false)) ls gh) (hW : ∀ i : Int, WH [.v (.int i)] [] = .ok (.bl true) []) :
    eqB S7 S0 S4 S9 NE WH [some (.v a), some (.v b), some (.v (.nd .ow .lst W)), some (.v (.int k)), (some (.v e4)), (some (.v e5)), (some (.v e6)), none, none] [] = .nx [some (.v a), some (.v b), some (.v (.nd .ow .lst W')), some (.v (.int k)), (some (.v (.tup [(.str q), (.str q)]))), (some (.v (.str q))), (some (.v (.str q))), none, none] [] := by
  unfold eqB
  have c0 : ∀ {ls gh r}, S0 ls gh = r → S0 ls gh = r := fun h => h
  have c4 : ∀ {ls gh r}, S4 ls gh = r → S4 ls gh = r := fun h => h
  have cN : ∀ {x y ls gh r}, NE x y ls gh = r → NE x y ls gh = r := fun h => h
  have cW : ∀ {vs hs r}, WH vs hs = r → WH vs hs = r := fun h => h
  repeat (cbv; first | (rw [c0]; rotate_left; exact h0) | (rw [c4]; rotate_left; exact h4) | (rw [cN]; rotate_left; exact hN _ _ _ (by first | rfl | assumption)) | (rw [cW]; rotate_left; exact hW _))
  kernel_rfl
theorem eqB_str_ss {q : List Nat} {e4 e5 e6 e8 : D} (hq : okD 60 (.str q) = true) (h0 : S0 [some (.v a), some (.v b), some (.v (.nd .ow .lst W)), some (.v (.int k)), (some (.v e4)), (some (.v e5)), (some (.v e6)), none, (some (.v e8))] [] = .nx [some (.v a), some (.v b), some (.v (.nd .ow .lst W)), some (.v (.int k)), (some (.v e4)), (some (.v e5)), (some (.v e6)), none, (some (.v e8))] [])
    (h4 : S4 [some (.v a), some (.v b), some (.v (.nd .ow .lst W)), some (.v (.int k)), (some (.v e4)), (some (.v e5)), (some (.v e6)), none, (some (.v e8))] [] = .nx [some (.v a), some (.v b), some (.v (.nd .ow .lst W')), some (.v (.int k)), (some (.v (.tup [(.str q), (.str q)]))), (some (.v e5)), (some (.v e6)), none, (some (.v e8))] []) (hN : ∀ d ls gh, okD 60 d = true → NE (.v d) (.v d) ls gh = .ok (.v (.bl false)) ls gh) (hW : ∀ i : Int, WH [.v (.int i)] [] = .ok (.bl true) []) :
    eqB S7 S0 S4 S9 NE WH [some (.v a), some (.v b), some (.v (.nd .ow .lst W)), some (.v (.int k)), (some (.v e4)), (some (.v e5)), (some (.v e6)), none, (some (.v e8))] [] = .nx [some (.v a), some (.v b), some (.v (.nd .ow .lst W')), some (.v (.int k)), (some (.v (.tup [(.str q), (.str q)]))), (some (.v (.str q))), (some (.v (.str q))), none, (some (.v e8))] [] := by
  unfold eqB
  have c0 : ∀ {ls gh r}, S0 ls gh = r → S0 ls gh = r := fun h => h
  have c4 : ∀ {ls gh r}, S4 ls gh = r → S4 ls gh = r := fun h => h
  have cN : ∀ {x y ls gh r}, NE x y ls gh = r → NE x y ls gh = r := fun h => h
  have cW : ∀ {vs hs r}, WH vs hs = r → WH vs hs = r := fun h => h
  repeat (cbv; first | (rw [c0]; rotate_left; exact h0) | (rw [c4]; rotate_left; exact h4) | (rw [cN]; rotate_left; exact hN _ _ _ (by first | rfl | assumption)) | (rw [cW]; rotate_left; exact hW _))
  kernel_rfl
theorem eqB_tup_nn {e4 e5 e6 e8 : D} (h0 : S0 [some (.v a), some (.v b), some (.v (.nd .ow .lst W)), some (.v (.int k)), none, none, none, none, none] [] = .nx [some (.v a), some (.v b), some (.v (.nd .ow .lst W)), some (.v (.int k)), none, none, none, none, none] [])
    (h4 : S4 [some (.v a), some (.v b), some (.v (.nd .ow .lst W)), some (.v (.int k)), none, none, none, none, none] [] = .nx [some (.v a), some (.v b), some (.v (.nd .ow .lst W')), some (.v (.int k)), (some (.v (.tup [(.tup xs), (.tup xs)]))), none, none, none, none] []) (hN : ∀ d ls gh, okD 60 d = true → NE (.v d) (.v d) ls gh = .ok (.v (.bl false)) ls gh)
    {r : SOut} (h9 : S9 [some (.v a), some (.v b), some (.v (.nd .ow .lst W')), some (.v (.int k)), (some (.v (.tup [(.tup xs), (.tup xs)]))), (some (.v (.tup xs))), (some (.v (.tup xs))), none, none] [] = r) :
    eqB S7 S0 S4 S9 NE WH [some (.v a), some (.v b), some (.v (.nd .ow .lst W)), some (.v (.int k)), none, none, none, none, none] [] = r := by
  unfold eqB
  have c0 : ∀ {ls gh r}, S0 ls gh = r → S0 ls gh = r := fun h => h
  have c4 : ∀ {ls gh r}, S4 ls gh = r → S4 ls gh = r := fun h => h
  have c9 : ∀ {ls gh r}, S9 ls gh = r → S9 ls gh = r := fun h => h
  have cN : ∀ {x y ls gh r}, NE x y ls gh = r → NE x y ls gh = r := fun h => h
  repeat (cbv; first | (rw [c0]; rotate_left; exact h0) | (rw [c4]; rotate_left; exact h4) | (rw [cN]; rotate_left; exact hN _ _ _ (by first | rfl | assumption)))
  first | cbv | skip
  rw [c9]; rotate_left; exact h9
  all_goals (cases r <;> rfl)
theorem eqB_tup_ns {e4 e5 e6 e8 : D} (h0 : S0 [some (.v a), some (.v b), some (.v (.nd .ow .lst W)), some (.v (.int k)), none, none, none, none, (some (.v e8))] [] = .nx [some (.v a), some (.v b), some (.v (.nd .ow .lst W)), some (.v (.int k)), none, none, none, none, (some (.v e8))] [])
    (h4 : S4 [some (.v a), some (.v b), some (.v (.nd .ow .lst W)), some (.v (.int k)), none, none, none, none, (some (.v e8))] [] = .nx [some (.v a), some (.v b), some (.v (.nd .ow .lst W')), some (.v (.int k)), (some (.v (.tup [(.tup xs), (.tup xs)]))), none, none, none, (some (.v e8))] []) (hN : ∀ d ls gh, okD 60 d = true → NE (.v d) (.v d) ls gh = .ok (.v (.bl false)) ls gh)
    {r : SOut} (h9 : S9 [some (.v a), some (.v b), some (.v (.nd .ow .lst W')), some (.v (.int k)), (some (.v (.tup [(.tup xs), (.tup xs)]))), (some (.v (.tup xs))), (some (.v (.tup xs))), none, (some (.v e8))] [] = r) :
    eqB S7 S0 S4 S9 NE WH [some (.v a), some (.v b), some (.v (.nd .ow .lst W)), some (.v (.int k)), none, none, none, none, (some (.v e8))] [] = r := by
  unfold eqB
  have c0 : ∀ {ls gh r}, S0 ls gh = r → S0 ls gh = r := fun h => h
  have c4 : ∀ {ls gh r}, S4 ls gh = r → S4 ls gh = r := fun h => h
  have c9 : ∀ {ls gh r}, S9 ls gh = r → S9 ls gh = r := fun h => h
  have cN : ∀ {x y ls gh r}, NE x y ls gh = r → NE x y ls gh = r := fun h => h
  repeat (cbv; first | (rw [c0]; rotate_left; exact h0) | (rw [c4]; rotate_left; exact h4) | (rw [cN]; rotate_left; exact hN _ _ _ (by first | rfl | assumption)))
  first | cbv | skip
  rw [c9]; rotate_left; exact h9
  all_goals (cases r <;> rfl)
theorem eqB_tup_sn {e4 e5 e6 e8 : D} (h0 : S0 [some (.v a), some (.v b), some (.v (.nd .ow .lst W)), some (.v (.int k)), (some (.v e4)), (some (.v e5)), (some (.v e6)), none, none] [] = .nx [some (.v a), some (.v b), some (.v (.nd .ow .lst W)), some (.v (.int k)), (some (.v e4)), (some (.v e5)), (some (.v e6)), none, none] [])
    (h4 : S4 [some (.v a), some (.v b), some (.v (.nd .ow .lst W)), some (.v (.int k)), (some (.v e4)), (some (.v e5)), (some (.v e6)), none, none] [] = .nx [some (.v a), some (.v b), some (.v (.nd .ow .lst W')), some (.v (.int k)), (some (.v (.tup [(.tup xs), (.tup xs)]))), (some (.v e5)), (some (.v e6)), none, none] []) (hN : ∀ d ls gh, okD 60 d = true → NE (.v d) (.v d) ls gh = .ok (.v (.bl false)) ls gh)
    {r : SOut} (h9 : S9 [some (.v a), some (.v b), some (.v (.nd .ow .lst W')), some (.v (.int k)), (some (.v (.tup [(.tup xs), (.tup xs)]))), (some (.v (.tup xs))), (some (.v (.tup xs))), none, none] [] = r) :
    eqB S7 S0 S4 S9 NE WH [some (.v a), some (.v b), some (.v (.nd .ow .lst W)), some (.v (.int k)), (some (.v e4)), (some (.v e5)), (some (.v e6)), none, none] [] = r := by
  unfold eqB
  have c0 : ∀ {ls gh r}, S0 ls gh = r → S0 ls gh = r := fun h => h
  have c4 : ∀ {ls gh r}, S4 ls gh = r → S4 ls gh = r := fun h => h
  have c9 : ∀ {ls gh r}, S9 ls gh = r → S9 ls gh = r := fun h => h
  have cN : ∀ {x y ls gh r}, NE x y ls gh = r → NE x y ls gh = r := fun h => h
  repeat (cbv; first | (rw [c0]; rotate_left; exact h0) | (rw [c4]; rotate_left; exact h4) | (rw [cN]; rotate_left; exact hN _ _ _ (by first | rfl | assumption)))
  first | cbv | skip
  rw [c9]; rotate_left; exact h9
  all_goals (cases r <;> rfl)
theorem eqB_tup_ss {e4 e5 e6 e8 : D} (h0 : S0 [some (.v a), some (.v b), some (.v (.nd .ow .lst W)), some (.v (.int k)), (some (.v e4)), (some (.v e5)), (some (.v e6)), none, (some (.v e8))] [] = .nx [some (.v a), some (.v b), some (.v (.nd .ow .lst W)), some (.v (.int k)), (some (.v e4)), (some (.v e5)), (some (.v e6)), none, (some (.v e8))] [])
    (h4 : S4 [some (.v a), some (.v b), some (.v (.nd .ow .lst W)), some (.v (.int k)), (some (.v e4)), (some (.v e5)), (some (.v e6)), none, (some (.v e8))] [] = .nx [some (.v a), some (.v b), some (.v (.nd .ow .lst W')), some (.v (.int k)), (some (.v (.tup [(.tup xs), (.tup xs)]))), (some (.v e5)), (some (.v e6)), none, (some (.v e8))] []) (hN : ∀ d ls gh, okD 60 d = true → NE (.v d) (.v d) ls gh = .ok (.v (.bl false)) ls gh)
    {r : SOut} (h9 : S9 [some (.v a), some (.v b), some (.v (.nd .ow .lst W')), some (.v (.int k)), (some (.v (.tup [(.tup xs), (.tup xs)]))), (some (.v (.tup xs))), (some (.v (.tup xs))), none, (some (.v e8))] [] = r) :
    eqB S7 S0 S4 S9 NE WH [some (.v a), some (.v b), some (.v (.nd .ow .lst W)), some (.v (.int k)), (some (.v e4)), (some (.v e5)), (some (.v e6)), none, (some (.v e8))] [] = r := by
  unfold eqB
  have c0 : ∀ {ls gh r}, S0 ls gh = r → S0 ls gh = r := fun h => h
  have c4 : ∀ {ls gh r}, S4 ls gh = r → S4 ls gh = r := fun h => h
  have c9 : ∀ {ls gh r}, S9 ls gh = r → S9 ls gh = r := fun h => h
  have cN : ∀ {x y ls gh r}, NE x y ls gh = r → NE x y ls gh = r := fun h => h
  repeat (cbv; first | (rw [c0]; rotate_left; exact h0) | (rw [c4]; rotate_left; exact h4) | (rw [cN]; rotate_left; exact hN _ _ _ (by first | rfl | assumption)))
  first | cbv | skip
  rw [c9]; rotate_left; exact h9
  all_goals (cases r <;> rfl)
theorem eqB_lst_nn {e4 e5 e6 e8 : D} (h0 : S0 [some (.v a), some (.v b), some (.v (.nd .ow .lst W)), some (.v (.int k)), none, none, none, none, none] [] = .nx [some (.v a), some (.v b), some (.v (.nd .ow .lst W)), some (.v (.int k)), none, none, none, none, none] [])
    (h4 : S4 [some (.v a), some (.v b), some (.v (.nd .ow .lst W)), some (.v (.int k)), none, none, none, none, none] [] = .nx [some (.v a), some (.v b), some (.v (.nd .ow .lst W')), some (.v (.int k)), (some (.v (.tup [(.nd .fz .lst xs), (.nd .fz .lst xs)]))), none, none, none, none] []) (hN : ∀ d ls gh, okD 60 d = true → NE (.v d) (.v d) ls gh = .ok (.v (.bl false)) ls gh)
    {r : SOut} (h9 : S9 [some (.v a), some (.v b), some (.v (.nd .ow .lst W')), some (.v (.int k)), (some (.v (.tup [(.nd .fz .lst xs), (.nd .fz .lst xs)]))), (some (.v (.nd .fz .lst xs))), (some (.v (.nd .fz .lst xs))), none, none] [] = r) :
    eqB S7 S0 S4 S9 NE WH [some (.v a), some (.v b), some (.v (.nd .ow .lst W)), some (.v (.int k)), none, none, none, none, none] [] = r := by
  unfold eqB
  have c0 : ∀ {ls gh r}, S0 ls gh = r → S0 ls gh = r := fun h => h
  have c4 : ∀ {ls gh r}, S4 ls gh = r → S4 ls gh = r := fun h => h
  have c9 : ∀ {ls gh r}, S9 ls gh = r → S9 ls gh = r := fun h => h
  have cN : ∀ {x y ls gh r}, NE x y ls gh = r → NE x y ls gh = r := fun h => h
  repeat (cbv; first | (rw [c0]; rotate_left; exact h0) | (rw [c4]; rotate_left; exact h4) | (rw [cN]; rotate_left; exact hN _ _ _ (by first | rfl | assumption)))
  first | cbv | skip
  rw [c9]; rotate_left; exact h9
  all_goals (cases r <;> rfl)
theorem eqB_lst_ns {e4 e5 e6 e8 : D} (h0 : S0 [some (.v a), some (.v b), some (.v (.nd .ow .lst W)), some (.v (.int k)), none, none, none, none, (some (.v e8))] [] = .nx [some (.v a), some (.v b), some (.v (.nd .ow .lst W)), some (.v (.int k)), none, none, none, none, (some (.v e8))] [])
    (h4 : S4 [some (.v a), some (.v b), some (.v (.nd .ow .lst W)), some (.v (.int k)), none, none, none, none, (some (.v e8))] [] = .nx [some (.v a), some (.v b), some (.v (.nd .ow .lst W')), some (.v (.int k)), (some (.v (.tup [(.nd .fz .lst xs), (.nd .fz .lst xs)]))), none, none, none, (some (.v e8))] []) (hN : ∀ d ls gh, okD 60 d = true → NE (.v d) (.v d) ls gh = .ok (.v (.bl false)) ls gh)
    {r : SOut} (h9 : S9 [some (.v a), some (.v b), some (.v (.nd .ow .lst W')), some (.v (.int k)), (some (.v (.tup [(.nd .fz .lst xs), (.nd .fz .lst xs)]))), (some (.v (.nd .fz .lst xs))), (some (.v (.nd .fz .lst xs))), none, (some (.v e8))] [] = r) :
    eqB S7 S0 S4 S9 NE WH [some (.v a), some (.v b), some (.v (.nd .ow .lst W)), some (.v (.int k)), none, none, none, none, (some (.v e8))] [] = r := by
  unfold eqB
  have c0 : ∀ {ls gh r}, S0 ls gh = r → S0 ls gh = r := fun h => h
  have c4 : ∀ {ls gh r}, S4 ls gh = r → S4 ls gh = r := fun h => h
  have c9 : ∀ {ls gh r}, S9 ls gh = r → S9 ls gh = r := fun h => h
  have cN : ∀ {x y ls gh r}, NE x y ls gh = r → NE x y ls gh = r := fun h => h
  repeat (cbv; first | (rw [c0]; rotate_left; exact h0) | (rw [c4]; rotate_left; exact h4) | (rw [cN]; rotate_left; exact hN _ _ _ (by first | rfl | assumption)))
  first | cbv | skip
  rw [c9]; rotate_left; exact h9
  all_goals (cases r <;> rfl)
theorem eqB_lst_sn {e4 e5 e6 e8 : D} (h0 : S0 [some (.v a), some (.v b), some (.v (.nd .ow .lst W)), some (.v (.int k)), (some (.v e4)), (some (.v e5)), (some (.v e6)), none, none] [] = .nx [some (.v a), some (.v b), some (.v (.nd .ow .lst W)), some (.v (.int k)), (some (.v e4)), (some (.v e5)), (some (.v e6)), none, none] [])
    (h4 : S4 [some (.v a), some (.v b), some (.v (.nd .ow .lst W)), some (.v (.int k)), (some (.v e4)), (some (.v e5)), (some (.v e6)), none, none] [] = .nx [some (.v a), some (.v b), some (.v (.nd .ow .lst W')), some (.v (.int k)), (some (.v (.tup [(.nd .fz .lst xs), (.nd .fz .lst xs)]))), (some (.v e5)), (some (.v e6)), none, none] []) (hN : ∀ d ls gh, okD 60 d = true → NE (.v d) (.v d) ls gh = .ok (.v (.bl false)) ls gh)
    {r : SOut} (h9 : S9 [some (.v a), some (.v b), some (.v (.nd .ow .lst W')), some (.v (.int k)), (some (.v (.tup [(.nd .fz .lst xs), (.nd .fz .lst xs)]))), (some (.v (.nd .fz .lst xs))), (some (.v (.nd .fz .lst xs))), none, none] [] = r) :
    eqB S7 S0 S4 S9 NE WH [some (.v a), some (.v b), some (.v (.nd .ow .lst W)), some (.v (.int k)), (some (.v e4)), (some (.v e5)), (some (.v e6)), none, none] [] = r := by
  unfold eqB
  have c0 : ∀ {ls gh r}, S0 ls gh = r → S0 ls gh = r := fun h => h
  have c4 : ∀ {ls gh r}, S4 ls gh = r → S4 ls gh = r := fun h => h
  have c9 : ∀ {ls gh r}, S9 ls gh = r → S9 ls gh = r := fun h => h
  have cN : ∀ {x y ls gh r}, NE x y ls gh = r → NE x y ls gh = r := fun h => h
  repeat (cbv; first | (rw [c0]; rotate_left; exact h0) | (rw [c4]; rotate_left; exact h4) | (rw [cN]; rotate_left; exact hN _ _ _ (by first | rfl | assumption)))
  first | cbv | skip
  rw [c9]; rotate_left; exact h9
  all_goals (cases r <;> rfl)
theorem eqB_lst_ss {e4 e5 e6 e8 : D} (h0 : S0 [some (.v a), some (.v b), some (.v (.nd .ow .lst W)), some (.v (.int k)), (some (.v e4)), (some (.v e5)), (some (.v e6)), none, (some (.v e8))] [] = .nx [some (.v a), some (.v b), some (.v (.nd .ow .lst W)), some (.v (.int k)), (some (.v e4)), (some (.v e5)), (some (.v e6)), none, (some (.v e8))] [])
    (h4 : S4 [some (.v a), some (.v b), some (.v (.nd .ow .lst W)), some (.v (.int k)), (some (.v e4)), (some (.v e5)), (some (.v e6)), none, (some (.v e8))] [] = .nx [some (.v a), some (.v b), some (.v (.nd .ow .lst W')), some (.v (.int k)), (some (.v (.tup [(.nd .fz .lst xs), (.nd .fz .lst xs)]))), (some (.v e5)), (some (.v e6)), none, (some (.v e8))] []) (hN : ∀ d ls gh, okD 60 d = true → NE (.v d) (.v d) ls gh = .ok (.v (.bl false)) ls gh)
    {r : SOut} (h9 : S9 [some (.v a), some (.v b), some (.v (.nd .ow .lst W')), some (.v (.int k)), (some (.v (.tup [(.nd .fz .lst xs), (.nd .fz .lst xs)]))), (some (.v (.nd .fz .lst xs))), (some (.v (.nd .fz .lst xs))), none, (some (.v e8))] [] = r) :
    eqB S7 S0 S4 S9 NE WH [some (.v a), some (.v b), some (.v (.nd .ow .lst W)), some (.v (.int k)), (some (.v e4)), (some (.v e5)), (some (.v e6)), none, (some (.v e8))] [] = r := by
  unfold eqB
  have c0 : ∀ {ls gh r}, S0 ls gh = r → S0 ls gh = r := fun h => h
  have c4 : ∀ {ls gh r}, S4 ls gh = r → S4 ls gh = r := fun h => h
  have c9 : ∀ {ls gh r}, S9 ls gh = r → S9 ls gh = r := fun h => h
  have cN : ∀ {x y ls gh r}, NE x y ls gh = r → NE x y ls gh = r := fun h => h
  repeat (cbv; first | (rw [c0]; rotate_left; exact h0) | (rw [c4]; rotate_left; exact h4) | (rw [cN]; rotate_left; exact hN _ _ _ (by first | rfl | assumption)))
  first | cbv | skip
  rw [c9]; rotate_left; exact h9
  all_goals (cases r <;> rfl)
end
end VL
set_option Elab.async false
set_option linter.all false
set_option maxRecDepth 100000
set_option maxHeartbeats 1000000
namespace VL
open GL (PV OB Sto Nm BT lim)
open PySem (PyData)
abbrev pairD (d : D) : D := .tup [d, d]
abbrev LSq (a b : D) (W : List D) (z3 z4 z5 z6 z8 : Option V) : Ls := [some (.v a), some (.v b), some (.v (.nd .ow .lst W)), z3, z4, z5, z6, none, z8]
def okA (z : Option V) : Prop := z = none ∨ ∃ d, z = some (.v d)
theorem okA_killR {z : Option V} (h : okA z) (i : Nat) : killR i z = z := by
  rcases h with rfl | ⟨d, rfl⟩ <;> rfl
theorem okA_killD {z : Option V} (h : okA z) (t : List Nat → Bool) (r : Rt) (p : List Nat) : killD t r p z = z := by
  rcases h with rfl | ⟨d, rfl⟩ <;> rfl
theorem okA_v (d : D) : okA (some (.v d)) := .inr ⟨d, rfl⟩
section
variable {a b p : D} {W : List D} {z3 z4 z5 z6 z8 : Option V}
theorem lsq2 : eVar 2 (LSq a b W z3 z4 z5 z6 z8) [] = .ok (.pth (.l 2) []) (LSq a b W z3 z4 z5 z6 z8) [] := eVar_o rfl rfl
theorem lsqA : atD (LSq a b W z3 z4 z5 z6 z8) [] (.l 2) [] = some (.nd .ow .lst W) := atD_l rfl
theorem s0_done : (sIf (toT (eOp gEq (eB fLen (aCons (eVar 2) aNil)) (eC (.int 0)))) (sRet (eC (.bl true))) sNil) (LSq a b [] z3 z4 z5 z6 z8) [] = .rt (.bl true) [] := by
  have h := lsq2 (a := a) (b := b) (W := []) (z3 := z3) (z4 := z4) (z5 := z5) (z6 := z6) (z8 := z8)
  have h2 := f1Len_p (lsqA (a := a) (b := b) (W := []) (z3 := z3) (z4 := z4) (z5 := z5) (z6 := z6) (z8 := z8))
  simp only [LSq] at h h2
  simp [sIf_ap, h, h2, sRet_ap, retV]
theorem s0_ok (hw : W ≠ []) : (sIf (toT (eOp gEq (eB fLen (aCons (eVar 2) aNil)) (eC (.int 0)))) (sRet (eC (.bl true))) sNil) (LSq a b W z3 z4 z5 z6 z8) [] = .nx (LSq a b W z3 z4 z5 z6 z8) [] := by
  have h := lsq2 (a := a) (b := b) (W := W) (z3 := z3) (z4 := z4) (z5 := z5) (z6 := z6) (z8 := z8)
  have h2 := f1Len_p (lsqA (a := a) (b := b) (W := W) (z3 := z3) (z4 := z4) (z5 := z5) (z6 := z6) (z8 := z8))
  simp only [LSq] at h h2
  simp [sIf_ap, h, h2, hw]
theorem s4_ok (hp : p.shr = true) (h3 : okA z3) (h4 : okA z4) (h5 : okA z5) (h6 : okA z6) (h8 : okA z8) : (sSet 4 (eMt kList mPop (eVar 2) aNil)) (LSq a b (W ++ [p]) z3 z4 z5 z6 z8) [] = .nx (LSq a b W z3 (some (.v p)) z5 z6 z8) [] := by
  have h := lsq2 (a := a) (b := b) (W := W ++ [p]) (z3 := z3) (z4 := z4) (z5 := z5) (z6 := z6) (z8 := z8)
  have h2 := lsqA (a := a) (b := b) (W := W ++ [p]) (z3 := z3) (z4 := z4) (z5 := z5) (z6 := z6) (z8 := z8)
  have e : mPop (.pth (.l 2) []) [] (LSq a b (W ++ [p]) z3 z4 z5 z6 z8) [] = .ok (.v p) (LSq a b W z3 z4 z5 z6 z8) [] := by
    unfold mPop
    simp only [h2]
    rw [show (W ++ [p])[(W ++ [p]).length - 1]? = some p by simp]
    simp only [wroteV]
    rw [chD_l (d0 := .nd .ow .lst (W ++ [p])) rfl]
    simp [setP, modN, putV, okA_killD h3, okA_killD h4, okA_killD h5, okA_killD h6, okA_killD h8, LSq]
  simp only [LSq] at h h2 e
  simp [sSet_ap, eMt, h, val, h2, e, setL, stD, okA_killR h3, okA_killR h5, okA_killR h6, okA_killR h8]
theorem append_ok {q x : D} (hl : W.length < lim) (hq : q.shr = true) (h3 : okA z3) (h4 : okA z4) (h5 : okA z5) (h6 : okA z6) (h8 : okA z8) : mAppend (.pth (.l 2) []) [.v q] (LSq a b W z3 z4 z5 z6 z8) [] = .ok (.v .non) (LSq a b (W ++ [q]) z3 z4 z5 z6 z8) [] := by
  rw [mAppend_l (xs := W) rfl hl]
  simp [modN, putV, okA_killD h3, okA_killD h4, okA_killD h5, okA_killD h6, okA_killD h8, LSq]
theorem frz_self {d : D} (h : d.shr = true) : D.frz d = some d := by
  have := frzs_shr (xs := [d]) (by simp [h])
  unfold D.frzs at this
  cases e : D.frz d with
  | none => rw [e] at this; cases this
  | some y =>
    rw [e] at this
    simp [D.frzs] at this
    rw [this]
theorem s9_ok {d : D} {xs : List D} (hx : ∀ (i : Nat) (y : D), xs[i]? = some y → ∀ ls gh, gIx (.v d) (.v (.sc (.int (i : Int)))) ls gh = .ok (.v y) ls gh) (hn : ∀ ls gh, f1Len (.v d) ls gh = .ok (.v (.int (xs.length : Int))) ls gh) (hd : d.shr = true) (hs : xs.all D.shr = true)
    (hp : okA z4) (h3 : okA z3) (h8 : okA z8) (hl : W.length + xs.length < lim) : ∃ y8, okA y8 ∧
    (sFor (iR1 (eB fLen (aCons (eVar 6) aNil))) (gN 8)
      (sExpr (eMt kList mAppend (eVar 2) (aCons (eTup (aCons (eOp gIx (eVar 5) (eVar 8)) (aCons (eOp gIx (eVar 6) (eVar 8)) aNil))) aNil)))) (LSq a b W z3 z4 (some (.v d)) (some (.v d)) z8) [] = .nx (LSq a b (W ++ xs.map pairD) z3 z4 (some (.v d)) (some (.v d)) y8) [] := by
  have lim' : lim = 100000 := rfl
  have hr : iR1 (eB fLen (aCons (eVar 6) aNil)) (LSq a b W z3 z4 (some (.v d)) (some (.v d)) z8) [] = .ok (rngD 0 (xs.length : Int)) (LSq a b W z3 z4 (some (.v d)) (some (.v d)) z8) [] := by
    refine iR1_of ?_ (by omega)
    have e6 : eVar 6 (LSq a b W z3 z4 (some (.v d)) (some (.v d)) z8) [] = .ok (.v d) (LSq a b W z3 z4 (some (.v d)) (some (.v d)) z8) [] := eVar_v rfl hd
    simp only [LSq] at e6
    simp [e6, hn]
  rw [sFor_of hr, rng0]
  obtain ⟨ls', gh', e, y8, k8, rfl, rfl⟩ := forV_inv (g := gN 8) (body := (sExpr (eMt kList mAppend (eVar 2) (aCons (eTup (aCons (eOp gIx (eVar 5) (eVar 8)) (aCons (eOp gIx (eVar 6) (eVar 8)) aNil))) aNil)))) (fun i ls gh => ∃ y8, okA y8 ∧ ls = LSq a b (W ++ (xs.take i).map pairD) z3 z4 (some (.v d)) (some (.v d)) y8 ∧ gh = []) ((List.range xs.length).map fun (i : Nat) => D.int (i : Int)) 0 (LSq a b W z3 z4 (some (.v d)) (some (.v d)) z8) [] (fun j x ls gh hj => by
    rintro ⟨y8, k8, rfl, rfl⟩
    have hj' : j < xs.length := by
      have := (List.getElem?_eq_some_iff.mp hj).1
      simpa using this
    have hx' : x = .int (j : Int) := by
      rw [List.getElem?_map, List.getElem?_range hj'] at hj
      exact (Option.some.inj hj).symm
    subst hx'
    obtain ⟨y, hy⟩ : ∃ y, xs[j]? = some y := ⟨xs[j], List.getElem?_eq_getElem hj'⟩
    have hys : y.shr = true := List.all_eq_true.mp hs y (List.mem_of_getElem? hy)
    refine ⟨(LSq a b (W ++ (xs.take (0 + j)).map pairD) z3 z4 (some (.v d)) (some (.v d)) (some (.v (.int (j : Int)))), []), ?_, LSq a b (W ++ (xs.take (0 + j + 1)).map pairD) z3 z4 (some (.v d)) (some (.v d)) (some (.v (.int (j : Int)))), [], .inl ?_, _, okA_v _, rfl, rfl⟩
    · simp [gN, setL, stD, LSq, okA_killR h3, okA_killR hp]
    · dsimp only
      have W' : (W ++ (xs.take (0 + j)).map pairD).length < lim := by simp; omega
      have et : xs.take (0 + j + 1) = xs.take (0 + j) ++ [y] := by
        rw [Nat.zero_add, List.take_succ, hy]; rfl
      rw [et, List.map_append, ← List.append_assoc]
      generalize W ++ (xs.take (0 + j)).map pairD = WW at W' ⊢
      have ha := append_ok (a := a) (b := b) (W := WW) (q := pairD y) (x := y) (z3 := z3) (z4 := z4) (z5 := some (.v d)) (z6 := some (.v d)) (z8 := some (.v (.int (j : Int)))) W' rfl h3 hp (okA_v _) (okA_v _) (okA_v _)
      have h2 := lsq2 (a := a) (b := b) (W := WW) (z3 := z3) (z4 := z4) (z5 := some (.v d)) (z6 := some (.v d)) (z8 := some (.v (.int (j : Int))))
      have hA := lsqA (a := a) (b := b) (W := WW) (z3 := z3) (z4 := z4) (z5 := some (.v d)) (z6 := some (.v d)) (z8 := some (.v (.int (j : Int))))
      have e5 : eVar 5 (LSq a b WW z3 z4 (some (.v d)) (some (.v d)) (some (.v (.int (j : Int))))) [] = .ok (.v d) (LSq a b WW z3 z4 (some (.v d)) (some (.v d)) (some (.v (.int (j : Int))))) [] := eVar_v rfl hd
      have e6 : eVar 6 (LSq a b WW z3 z4 (some (.v d)) (some (.v d)) (some (.v (.int (j : Int))))) [] = .ok (.v d) (LSq a b WW z3 z4 (some (.v d)) (some (.v d)) (some (.v (.int (j : Int))))) [] := eVar_v rfl hd
      have e8 : eVar 8 (LSq a b WW z3 z4 (some (.v d)) (some (.v d)) (some (.v (.int (j : Int))))) [] = .ok (.v (.int (j : Int))) (LSq a b WW z3 z4 (some (.v d)) (some (.v d)) (some (.v (.int (j : Int))))) [] := eVar_v rfl rfl
      have eg := hx j y hy
      have ef := frz_self hys
      have lim2 : (2 : Nat) ≤ lim := by omega
      simp only [LSq] at ha h2 hA e5 e6 e8
      simp [sExpr_ap, eMt, h2, val, hA, eTup, e5, e6, e8, eg, cvL, cvR, ef, lim2, ha, pairD]) ⟨z8, h8, by simp, rfl⟩
  refine ⟨y8, k8, ?_⟩
  rw [e]
  simp
end
theorem sum_app (L M : List (Nat × D)) : ((L ++ M).map fun q => szD q.1 q.2).sum = (L.map fun q => szD q.1 q.2).sum + (M.map fun q => szD q.1 q.2).sum := by
  rw [List.map_append, List.sum_append]
theorem szD_pos (f : Nat) (d : D) : 1 ≤ szD f d := by
  cases f with
  | zero => exact Nat.le_refl 1
  | succ f => cases d <;> simp [szD] <;> omega
theorem len_le (L : List (Nat × D)) : L.length ≤ (L.map fun q => szD q.1 q.2).sum := by
  induction L with
  | nil => exact Nat.le_refl 0
  | cons q r ih => have := szD_pos q.1 q.2; simp; omega
theorem ne_ok : ∀ d ls gh, okD 60 d = true → gNe (.v d) (.v d) ls gh = .ok (.v (.bl false)) ls gh := fun d ls gh h => same_ok rfl rfl h
theorem whole_ok : ∀ i : Int, f_whole [.v (.int i)] [] = .ok (.bl true) [] := fun i => by kernel_rfl
def okZ (z4 z5 z6 : Option V) : Prop := (z4 = none ∧ z5 = none ∧ z6 = none) ∨ ∃ e4 e5 e6, z4 = some (.v e4) ∧ z5 = some (.v e5) ∧ z6 = some (.v e6)
theorem okZ4 {z4 z5 z6 : Option V} (h : okZ z4 z5 z6) : okA z4 ∧ okA z5 ∧ okA z6 := by
  rcases h with ⟨rfl, rfl, rfl⟩ | ⟨e4, e5, e6, rfl, rfl, rfl⟩
  · exact ⟨.inl rfl, .inl rfl, .inl rfl⟩
  · exact ⟨okA_v _, okA_v _, okA_v _⟩
theorem eq_run {S7 : MS} (a b : D) : ∀ (js : List D) (L : List (Nat × D)) (z3 z4 z5 z6 z8 : Option V), (∀ j ∈ js, ∃ i : Int, j = .int i) → okA z3 → okZ z4 z5 z6 → okA z8 → (∀ q ∈ L, plD q.1 q.2 = true) →
    (L.map fun q => szD q.1 q.2).sum < js.length → js.length ≤ 6000 → forV (gN 3) (eqBodyG S7) js (LSq a b (L.map fun q => pairD q.2) z3 z4 z5 z6 z8) [] = .rt (.bl true) []
  | [], L, z3, z4, z5, z6, z8, _, _, _, _, _, h, _ => absurd h (Nat.not_lt_zero _)
  | j :: r, L, z3, z4, z5, z6, z8, hj, h3, hz, h8, hL, hs, hn => by
    obtain ⟨k, rfl⟩ := hj j List.mem_cons_self
    have hr : ∀ j ∈ r, ∃ i : Int, j = .int i := fun j h => hj j (List.mem_cons_of_mem _ h)
    obtain ⟨h4, h5, h6⟩ := okZ4 hz
    have hg : gN 3 (.v (.int k)) (LSq a b (L.map fun q => pairD q.2) z3 z4 z5 z6 z8) [] = some (LSq a b (L.map fun q => pairD q.2) (some (.v (.int k))) z4 z5 z6 z8, []) := by
      simp [gN, setL, stD, LSq, okA_killR h4, okA_killR h5, okA_killR h6, okA_killR h8]
    rw [forV_cons hg]
    dsimp only
    rcases List.eq_nil_or_concat L with rfl | ⟨L', ⟨f, d⟩, rfl⟩
    · have e : (eqBodyG S7) (LSq a b ([].map fun (q : Nat × D) => pairD q.2) (some (.v (.int k))) z4 z5 z6 z8) [] = .rt (.bl true) [] := by
        unfold eqBodyG
        rw [sSeq_ap, List.map_nil, s0_done]; rfl
      rw [e]; rfl
    · rw [List.concat_eq_append] at hL hs ⊢
      have hd : plD f d = true := hL (f, d) (List.mem_append_right _ (List.mem_singleton.mpr rfl))
      have hL' : ∀ q ∈ L', plD q.1 q.2 = true := fun q hq => hL q (List.mem_append_left _ hq)
      rw [sum_app] at hs
      have hs1 : (L'.map fun q => szD q.1 q.2).sum + szD f d < r.length + 1 := by simpa using hs
      have hn1 : r.length + 1 ≤ 6000 := by simpa using hn
      have hWW : ((L' ++ [(f, d)]).map fun q => pairD q.2) = (L'.map fun q => pairD q.2) ++ [pairD d] := by simp
      rw [hWW]
      have e0 := s0_ok (a := a) (b := b) (W := (L'.map fun q => pairD q.2) ++ [pairD d]) (z3 := some (.v (.int k))) (z4 := z4) (z5 := z5) (z6 := z6) (z8 := z8) (by simp)
      have e4 := s4_ok (a := a) (b := b) (p := pairD d) (W := L'.map fun q => pairD q.2) (z3 := some (.v (.int k))) (z4 := z4) (z5 := z5) (z6 := z6) (z8 := z8) rfl (okA_v _) h4 h5 h6 h8
      have fin : ∀ y8, okA y8 → forV (gN 3) (eqBodyG S7) r (LSq a b (L'.map fun q => pairD q.2) (some (.v (.int k))) (some (.v (pairD d))) (some (.v d)) (some (.v d)) y8) [] = .rt (.bl true) [] := fun y8 hy =>
        eq_run (S7 := S7) a b r L' _ _ _ _ _ hr (okA_v _) (.inr ⟨_, _, _, rfl, rfl, rfl⟩) hy hL' (by have := szD_pos f d; omega) (by omega)
      have lim' : lim = 100000 := rfl
      have seq : ∀ xs : List D, (∀ x ∈ xs, plD (f - 1) x = true) → szD f d = 1 + (xs.map (szD (f - 1))).sum → (∀ (i : Nat) (y : D), xs[i]? = some y → ∀ ls gh, gIx (.v d) (.v (.sc (.int (i : Int)))) ls gh = .ok (.v y) ls gh) → (∀ ls gh, f1Len (.v d) ls gh = .ok (.v (.int (xs.length : Int))) ls gh) →
          (∀ R : SOut, (sFor (iR1 (eB fLen (aCons (eVar 6) aNil))) (gN 8)
      (sExpr (eMt kList mAppend (eVar 2) (aCons (eTup (aCons (eOp gIx (eVar 5) (eVar 8)) (aCons (eOp gIx (eVar 6) (eVar 8)) aNil))) aNil)))) (LSq a b (L'.map fun q => pairD q.2) (some (.v (.int k))) (some (.v (pairD d))) (some (.v d)) (some (.v d)) z8) [] = R → (eqBodyG S7) (LSq a b ((L'.map fun q => pairD q.2) ++ [pairD d]) (some (.v (.int k))) z4 z5 z6 z8) [] = R) →
          loopK ((eqBodyG S7) (LSq a b ((L'.map fun q => pairD q.2) ++ [pairD d]) (some (.v (.int k))) z4 z5 z6 z8) []) (forV (gN 3) (eqBodyG S7) r) = .rt (.bl true) [] := fun xs hx hsz hix hlen hB => by
        have hxs : xs.all D.shr = true := List.all_eq_true.mpr fun x hxm => plD_shr (hx x hxm)
        have hll := len_le L'
        have hxl : xs.length ≤ (xs.map (szD (f - 1))).sum := by
          have := len_le (xs.map fun x => (f - 1, x))
          simpa [Function.comp_def] using this
        obtain ⟨y8, k8, e9⟩ := s9_ok (a := a) (b := b) (d := d) (xs := xs) (W := L'.map fun q => pairD q.2) (z3 := some (.v (.int k))) (z4 := some (.v (pairD d))) (z8 := z8) hix hlen (plD_shr hd) hxs (okA_v _) (okA_v _) h8 (by rw [List.length_map]; omega)
        rw [hB _ e9, loopK_nx]
        have hm : (L'.map fun q => pairD q.2) ++ xs.map pairD = (L' ++ xs.map fun x => (f - 1, x)).map fun q => pairD q.2 := by simp [Function.comp_def]
        rw [hm]
        refine eq_run (S7 := S7) a b r (L' ++ xs.map fun x => (f - 1, x)) _ _ _ _ _ hr (okA_v _) (.inr ⟨_, _, _, rfl, rfl, rfl⟩) k8 (fun q hq => ?_) ?_ (by omega)
        · rcases List.mem_append.mp hq with h | h
          · exact hL' q h
          · obtain ⟨x, hx1, rfl⟩ := List.mem_map.mp h
            exact hx x hx1
        · rw [sum_app]
          have : ((xs.map fun x => (f - 1, x)).map fun (q : Nat × D) => szD q.1 q.2) = xs.map (szD (f - 1)) := by simp [Function.comp_def]
          rw [this]
          omega
      cases f with
      | zero => cases hd
      | succ f =>
        have big : ∀ {R : SOut}, eqB S7 (sIf (toT (eOp gEq (eB fLen (aCons (eVar 2) aNil)) (eC (.int 0)))) (sRet (eC (.bl true))) sNil) (sSet 4 (eMt kList mPop (eVar 2) aNil)) (sFor (iR1 (eB fLen (aCons (eVar 6) aNil))) (gN 8)
            (sExpr (eMt kList mAppend (eVar 2) (aCons (eTup (aCons (eOp gIx (eVar 5) (eVar 8)) (aCons (eOp gIx (eVar 6) (eVar 8)) aNil))) aNil)))) gNe f_whole (LSq a b ((L'.map fun q => pairD q.2) ++ [pairD d]) (some (.v (.int k))) z4 z5 z6 z8) [] = R → (eqBodyG S7) (LSq a b ((L'.map fun q => pairD q.2) ++ [pairD d]) (some (.v (.int k))) z4 z5 z6 z8) [] = R := fun h => h
        cases d with
        | sc s =>
          have scal : ∀ {R : SOut}, R = .nx (LSq a b (L'.map fun q => pairD q.2) (some (.v (.int k))) (some (.v (pairD (.sc s)))) (some (.v (.sc s))) (some (.v (.sc s))) z8) [] → loopK R (forV (gN 3) (eqBodyG S7) r) = .rt (.bl true) [] := fun h => by
            rw [h, loopK_nx]; exact fin _ h8
          refine scal (big ?_)
          cases s with
          | non =>
            rcases hz with ⟨rfl, rfl, rfl⟩ | ⟨d4, d5, d6, rfl, rfl, rfl⟩ <;> rcases h8 with rfl | ⟨d8, rfl⟩
            · exact eqB_non_nn (e4 := .non) (e5 := .non) (e6 := .non) (e8 := .non) e0 e4 ne_ok whole_ok
            · exact eqB_non_ns (e4 := .non) (e5 := .non) (e6 := .non) e0 e4 ne_ok whole_ok
            · exact eqB_non_sn (e8 := .non) e0 e4 ne_ok whole_ok
            · exact eqB_non_ss e0 e4 ne_ok whole_ok
          | bl q =>
            rcases hz with ⟨rfl, rfl, rfl⟩ | ⟨d4, d5, d6, rfl, rfl, rfl⟩ <;> rcases h8 with rfl | ⟨d8, rfl⟩
            · exact eqB_bl_nn (e4 := .non) (e5 := .non) (e6 := .non) (e8 := .non) e0 e4 ne_ok whole_ok
            · exact eqB_bl_ns (e4 := .non) (e5 := .non) (e6 := .non) e0 e4 ne_ok whole_ok
            · exact eqB_bl_sn (e8 := .non) e0 e4 ne_ok whole_ok
            · exact eqB_bl_ss e0 e4 ne_ok whole_ok
          | int q =>
            rcases hz with ⟨rfl, rfl, rfl⟩ | ⟨d4, d5, d6, rfl, rfl, rfl⟩ <;> rcases h8 with rfl | ⟨d8, rfl⟩
            · exact eqB_int_nn (e4 := .non) (e5 := .non) (e6 := .non) (e8 := .non) e0 e4 ne_ok whole_ok
            · exact eqB_int_ns (e4 := .non) (e5 := .non) (e6 := .non) e0 e4 ne_ok whole_ok
            · exact eqB_int_sn (e8 := .non) e0 e4 ne_ok whole_ok
            · exact eqB_int_ss e0 e4 ne_ok whole_ok
          | str q =>
            have hq : okD 60 (.str q) = true := hd
            rcases hz with ⟨rfl, rfl, rfl⟩ | ⟨d4, d5, d6, rfl, rfl, rfl⟩ <;> rcases h8 with rfl | ⟨d8, rfl⟩
            · exact eqB_str_nn (e4 := .non) (e5 := .non) (e6 := .non) (e8 := .non) hq e0 e4 ne_ok whole_ok
            · exact eqB_str_ns (e4 := .non) (e5 := .non) (e6 := .non) hq e0 e4 ne_ok whole_ok
            · exact eqB_str_sn (e8 := .non) hq e0 e4 ne_ok whole_ok
            · exact eqB_str_ss hq e0 e4 ne_ok whole_ok
          | ty b => cases hd
          | gl x => cases hd
        | tup xs =>
          have hx : ∀ x ∈ xs, plD f x = true := fun x hx => List.all_eq_true.mp hd x hx
          refine seq xs hx rfl (fun i y hy ls gh => gIx_tup hy (plD_shr (hx y (List.mem_of_getElem? hy)))) (fun ls gh => rfl) fun R h9 => big ?_
          rcases hz with ⟨rfl, rfl, rfl⟩ | ⟨d4, d5, d6, rfl, rfl, rfl⟩ <;> rcases h8 with rfl | ⟨d8, rfl⟩
          · exact eqB_tup_nn (e4 := .non) (e5 := .non) (e6 := .non) (e8 := .non) e0 e4 ne_ok h9
          · exact eqB_tup_ns (e4 := .non) (e5 := .non) (e6 := .non) e0 e4 ne_ok h9
          · exact eqB_tup_sn (e8 := .non) e0 e4 ne_ok h9
          · exact eqB_tup_ss e0 e4 ne_ok h9
        | nd fl hd' xs =>
          cases fl with
          | fz =>
            cases hd' with
            | lst =>
              have hx : ∀ x ∈ xs, plD f x = true := fun x hx => List.all_eq_true.mp hd x hx
              refine seq xs hx rfl (fun i y hy ls gh => gIx_lst hy (plD_shr (hx y (List.mem_of_getElem? hy)))) (fun ls gh => rfl) fun R h9 => big ?_
              rcases hz with ⟨rfl, rfl, rfl⟩ | ⟨d4, d5, d6, rfl, rfl, rfl⟩ <;> rcases h8 with rfl | ⟨d8, rfl⟩
              · exact eqB_lst_nn (e4 := .non) (e5 := .non) (e6 := .non) (e8 := .non) e0 e4 ne_ok h9
              · exact eqB_lst_ns (e4 := .non) (e5 := .non) (e6 := .non) e0 e4 ne_ok h9
              · exact eqB_lst_sn (e8 := .non) e0 e4 ne_ok h9
              · exact eqB_lst_ss e0 e4 ne_ok h9
            | _ => cases hd
          | ow => cases hd' <;> cases hd
          | lk => cases hd' <;> cases hd
theorem equal_ok {S7 : MS} {f : Nat} {d : D} (h : plD f d = true) (hs : szD f d < 6000) : f_equalG S7 [.v d, .v d] [] = .ok (.bl true) [] := by
  refine fnOf_rt (gh := []) rfl ?_ rfl
  have hd := plD_shr h
  have ef := frz_self hd
  have e0 : ∀ l gh, eVar 0 (some (.v d) :: l) gh = .ok (.v d) (some (.v d) :: l) gh := fun l gh => eVar_v rfl hd
  have e1 : ∀ x l gh, eVar 1 (x :: some (.v d) :: l) gh = .ok (.v d) (x :: some (.v d) :: l) gh := fun x l gh => eVar_v rfl hd
  have l2 : (2 : Nat) ≤ lim := by decide
  have l1 : (1 : Nat) ≤ lim := by decide
  have es : (sSet 2 (eLst (aCons (eTup (aCons (eVar 0) (aCons (eVar 1) aNil))) aNil))) [some (.v d), some (.v d), none, none, none, none, none, none, none] [] = .nx (LSq d d [pairD d] none none none none none) [] := by
    simp [sSet_ap, eLst, eTup, e0, e1, cvL, cvR, ef, l2, l1, setL, stD, LSq, pairD, D.frz]
  show m_equalG S7 [some (.v d), some (.v d), none, none, none, none, none, none, none] [] = _
  unfold m_equalG
  rw [sSeq_ap, es, seq_nx, sSeq_ap]
  have hr : iR1 (eC (.int 6000)) (LSq d d [pairD d] none none none none none) [] = .ok (rngD 0 (6000 : Nat)) (LSq d d [pairD d] none none none none none) [] := iR1_of (n := 6000) rfl (by decide)
  rw [sFor_of hr, rng0]
  have   := eq_run (S7 := S7) d d ((List.range 6000).map fun (i : Nat) => D.int (i : Int)) [(f, d)] none none none none none (fun j hj => by
    obtain ⟨i, _, rfl⟩ := List.mem_map.mp hj
    exact ⟨_, rfl⟩) (.inl rfl) (.inl ⟨rfl, rfl, rfl⟩) (.inl rfl) (fun q hq => by
    rw [List.mem_singleton.mp hq]; exact h) (by simpa using hs) (by simp)
  rw [show [pairD d] = [(f, d)].map fun (q : Nat × D) => pairD q.2 from rfl, this]
  rfl
end VL
set_option Elab.async false
set_option linter.all false
set_option maxRecDepth 100000
set_option maxHeartbeats 1000000
namespace VL
open GL (PV OB Sto Nm BT lim)
end VL
set_option Elab.async false
set_option linter.all false
namespace K44.M
abbrev Nm := List Nat
abbrev bad : Nm := [98, 97, 100]
abbrev Row := Nm × Nm × Nm
abbrev Dt (α : Type) := List (Nm × α)
def get {α : Type} : Dt α → Nm → Option α
  | [], _ => none
  | q :: r, k => if q.1 = k then some q.2 else get r k
theorem nodup_sub {α : Type} [DecidableEq α] : ∀ {l m : List α}, l.Nodup → (∀ x ∈ l, x ∈ m) → l.length ≤ m.length
  | [], m, _, _ => Nat.zero_le _
  | a :: l, m, hn, hs => by
    have hn := List.nodup_cons.mp hn
    have ha : a ∈ m := hs a List.mem_cons_self
    have := nodup_sub (l := l) (m := m.erase a) hn.2 fun x hx => (List.mem_erase_of_ne (fun e => hn.1 (by rw [← e]; exact hx))).mpr (hs x (List.mem_cons_of_mem _ hx))
    rw [List.length_erase_of_mem ha] at this
    have := List.length_pos_of_mem ha
    rw [List.length_cons]; omega
end K44.M
set_option Elab.async false
set_option linter.all false
namespace K44.M
def mv (R : List Row) (s : Nm) : List (Nm × Nm) := R.filterMap fun r => if r.1 = s then some r.2 else none
def nxt (F : Nm → Option Nat) (R : List Row) (n : Nat) (s : Nm) : Option (Nm × Nm) := (mv R s).find? fun p => decide (F p.2 = some n)
def W (F : Nm → Option Nat) (R : List Row) : Nat → Nm → List Nm
  | 0, _ => []
  | n + 1, s => match nxt F R n s with
    | some p => p.1 :: W F R n p.2
    | none => []
abbrev Ws := List (Nm × List Nm)
end K44.M
set_option Elab.async false
set_option linter.all false
set_option maxRecDepth 100000
set_option maxHeartbeats 4000000
set_option cbv.maxSteps 1000000
set_option pp.maxSteps 400
namespace VL
open GL (PV)
open K44
variable {α : Type}
def Nd (d : M.Dt α) : Prop := (d.map (·.1)).Nodup
section
variable {ls gh : Ls} {a b : PE} {x y : RV} {t u : PT} {m1 m2 : MS} {k : Bool}
theorem op_of {g : G2} {r : Out RV} (ha : a ls gh = .ok x ls gh) (hb : b ls gh = .ok y ls gh) (h : g x y ls gh = r) : eOp g a b ls gh = r := by rw [eOp_ap, ha, bind_ok, hb, bind_ok, h]
theorem toT_of (ha : a ls gh = .ok (.v (.bl k)) ls gh) : toT a ls gh = .ok k ls gh := by rw [toT_ap, ha]; rfl
theorem or_yes (h : t ls gh = .ok true ls gh) : tOrM t u ls gh = .ok true ls gh := by rw [tOrM_ap, h]; rfl
theorem or_go (h : t ls gh = .ok false ls gh) (h2 : u ls gh = .ok k ls gh) : tOrM t u ls gh = .ok k ls gh := by rw [tOrM_ap, h]; exact h2
theorem if_yes (h : t ls gh = .ok true ls gh) : sIf t m1 m2 ls gh = m1 ls gh := by rw [sIf_ap, h]; rfl
theorem if_no (h : t ls gh = .ok false ls gh) : sIf t m1 m2 ls gh = m2 ls gh := by rw [sIf_ap, h]; rfl
theorem seq_of {ls2 gh2 : Ls} (h : m1 ls gh = .nx ls2 gh2) : sSeq m1 m2 ls gh = m2 ls2 gh2 := by rw [sSeq_ap, h]; rfl
end
def okA1 (z : Option V) : Prop := z = none ∨ ∃ d, z = some (.v d)
theorem okA1_kill {z : Option V} (h : okA1 z) (t : List Nat → Bool) (r : Rt) (p : List Nat) : killD t r p z = z := okA_killD h t r p
theorem lc_fm {β : Type} {g : MG} {tt : PT} {te : PE} {vs : List Nat} {L0 : Ls} {LA : β → Ls} (f h : β → D) (p : β → Bool)
    (hg : ∀ a, g (.v (f a)) (resD (fun _ => none) vs L0 []).1 (resD (fun _ => none) vs L0 []).2 = some (LA a, []))
    (hr : ∀ a, resD (fun v => keepV (L0.getD v none)) vs (LA a) [] = (L0, [])) : ∀ (l : List β) (acc : List D), acc.length + l.length < 10000 →
    (∀ a ∈ l, tt (LA a) [] = .ok (p a) (LA a) [] ∧ te (LA a) [] = .ok (.v (h a)) (LA a) []) →
    lcV g tt te vs L0 (l.map f) acc L0 [] = .ok (.v (.nd .ow .lst (acc ++ (l.filter p).map h))) L0 []
  | [], acc, _, _ => by rw [List.filter_nil, List.map_nil, List.map_nil, List.append_nil]; rfl
  | a :: r, acc, hl, hh => by
    obtain ⟨h1, h2⟩ := hh a List.mem_cons_self
    have hlim : acc.length < GL.lim := by
      have : GL.lim = 100000 := rfl
      rw [List.length_cons] at hl; omega
    rw [List.map_cons]
    unfold lcV
    rw [hg a]
    dsimp only
    rw [h1]
    cases hp : p a with
    | true =>
      dsimp only
      rw [h2]
      show (if acc.length < GL.lim then lcV g tt te vs L0 (r.map f) (acc ++ [h a]) (resD (fun v => keepV (L0.getD v none)) vs (LA a) []).1 (resD (fun v => keepV (L0.getD v none)) vs (LA a) []).2 else .bad) = _
      rw [if_pos hlim, hr a]
      dsimp only
      rw [lc_fm f h p hg hr r (acc ++ [h a]) (by rw [List.length_append, List.length_cons, List.length_nil]; rw [List.length_cons] at hl; omega) (fun b hb => hh b (List.mem_cons_of_mem _ hb)), List.filter_cons_of_pos hp, List.map_cons, List.append_assoc]
      rfl
    | false =>
      dsimp only
      rw [hr a]
      dsimp only
      rw [lc_fm f h p hg hr r acc (by rw [List.length_cons] at hl; omega) (fun b hb => hh b (List.mem_cons_of_mem _ hb)), List.filter_cons_of_neg (by rw [hp]; decide)]
section
variable {fn : MF} {dws : List PV} {args : PA} {ls gh ls1 gh1 ls2 gh2 : Ls} {xs : List RV} {ds : List D} {r d : D} {o : PE} {x : RV} {C m : GL.Nm}
theorem call_of (ha : args ls gh = .ok xs ls1 gh1) (hc : cvL true xs ls1 gh1 = some (ds, ls2, gh2)) {ios : List D} (hf : fn ((ds ++ dOfs dws).map .v) [] = .ok r ios) : eCall fn dws args ls gh = .ok (.v r) ls2 gh2 := by
  unfold eCall
  rw [ha, bind_ok, hc]
  show callD fn ((ds ++ dOfs dws).map .v) ls2 gh2 = _
  unfold callD
  rw [hf]
theorem meth_of (ho : o ls gh = .ok x ls gh) (hv : val x ls gh = some d) (hi : isIns C m d = true) (ha : args ls gh = .ok xs ls1 gh1) (hc : cvL true (x :: xs) ls1 gh1 = some (ds, ls2, gh2)) {ios : List D} (hf : fn ((ds ++ dOfs dws).map .v) [] = .ok r ios) : eMeth C m fn dws o args ls gh = .ok (.v r) ls2 gh2 := by
  unfold eMeth
  rw [ho, bind_ok, hv]
  dsimp only
  rw [if_pos hi, ha, bind_ok, hc]
  show callD fn ((ds ++ dOfs dws).map .v) ls2 gh2 = _
  unfold callD
  rw [hf]
end
section
variable {ls gh ls1 gh1 : Ls}
theorem iSeq_o {m : PE} {xs : List D} (h : m ls gh = .ok (.v (.nd .ow .lst xs)) ls1 gh1) (hz : D.frzs xs = some xs) : iSeq m ls gh = .ok xs ls1 gh1 := by
  unfold iSeq
  rw [h, bind_ok]
  unfold kSeq frzSeq
  have e : D.frz (.nd .ow .lst xs) = some (.nd .fz .lst xs) := by simp [D.frz, hz]
  simp only [cvR]
  rw [if_neg (by decide), e]
  rfl
theorem shrK_s {x : RV} {xs : List D} (h : xs.all D.shr = true) : shrK x xs = some xs := by unfold shrK; rw [if_pos h]
theorem strs_shr (xs : List (List Nat)) : (strL xs).all D.shr = true := by unfold strL; rw [List.all_map, List.all_eq_true]; intro x _; rfl
end
theorem strL_app (a b : List (List Nat)) : strL (a ++ b) = strL a ++ strL b := by unfold strL; rw [List.map_append]
theorem inD_str {a : M.Nm} : ∀ f : List M.Nm, inD (.str a) (strL f) = decide (a ∈ f)
  | [] => rfl
  | b :: f => by
    show (eqF (.str b) (.str a) || inD (.str a) (strL f)) = _
    rw [inD_str f]
    show (decide (b = a) || decide (a ∈ f)) = _
    by_cases h : b = a
    · subst h
      rw [decide_eq_true rfl, decide_eq_true (List.mem_cons_self (a := b) (l := f))]; rfl
    · rw [decide_eq_false h, Bool.false_or]
      exact decide_eq_decide.mpr ⟨fun h => List.mem_cons_of_mem _ h, fun h2 => (List.mem_cons.mp h2).resolve_left (fun e => h e.symm)⟩
theorem strs_flat (f : List M.Nm) : (strL f).all flatD = true := by unfold strL; rw [List.all_map, List.all_eq_true]; intro x _; rfl
def m_digit : MS := (sSeq (sIf (toT (eOp gLt (eVar 1) (eB fLen (aCons (eVar 0) aNil))))
  (sRet (eOp gIx (eVar 0) (eVar 1)))
  sNil)
  (sRet (eC (.int 0))))
abbrev f_digit : MF := fnOf 2 2 m_digit
abbrev inD' (ds : List Int) : D := .nd .fz .lst (intL ds)
theorem digit_ok {ds : List Int} (i : Nat) : f_digit [.v (inD' ds), .v (.int (i : Int))] [] = .ok (.int (dg ds i)) [] := by
  refine fnOf_rt (gh := []) rfl ?_ rfl
  have t : (toT (eOp gLt (eVar 1) (eB fLen (aCons (eVar 0) aNil)))) [some (.v (inD' ds)), some (.v (.int (i : Int)))] [] = .ok (decide (i < ds.length)) [some (.v (inD' ds)), some (.v (.int (i : Int)))] [] := by
    have hl : (eB fLen (aCons (eVar 0) aNil)) [some (.v (inD' ds)), some (.v (.int (i : Int)))] [] = .ok (.v (.int ((intL ds).length : Nat))) [some (.v (inD' ds)), some (.v (.int (i : Int)))] [] := rfl
    refine (toT_of (op_of (g := gLt) (x := .v (.int (i : Int))) rfl hl gCmp_int)).trans ?_
    have e : (intL ds).length = ds.length := by unfold intL; rw [List.length_map]
    rw [e, show decide ((i : Int) < ((ds.length : Nat) : Int)) = decide (i < ds.length) from decide_eq_decide.mpr (by omega)]
  by_cases h : i < ds.length
  · rw [decide_eq_true h] at t
    have g : (eOp gIx (eVar 0) (eVar 1)) [some (.v (inD' ds)), some (.v (.int (i : Int)))] [] = .ok (.v (.int (dg ds i))) [some (.v (inD' ds)), some (.v (.int (i : Int)))] [] := op_of (x := .v (inD' ds)) (y := .v (.int (i : Int))) rfl rfl (gIx_lst (intL_get h) rfl)
    have r : (sIf (toT (eOp gLt (eVar 1) (eB fLen (aCons (eVar 0) aNil)))) (sRet (eOp gIx (eVar 0) (eVar 1))) sNil) [some (.v (inD' ds)), some (.v (.int (i : Int)))] [] = .rt (.int (dg ds i)) [] := by
      refine (if_yes t).trans ?_
      rw [sRet_ap, g]; rfl
    show (sSeq _ _) [some (.v (inD' ds)), some (.v (.int (i : Int)))] [] = _
    rw [sSeq_ap, r]; rfl
  · rw [decide_eq_false h] at t
    refine (seq_of (if_no t)).trans ?_
    rw [getD_out (Nat.le_of_not_lt h)]; rfl
theorem mt_of {chk : D → Bool} {m : RV → List RV → PE} {o : PE} {args : PA} {ls gh : Ls} {x : RV} {d : D} {ys : List RV} (ho : o ls gh = .ok x ls gh) (hv : val x ls gh = some d) (hk : chk d = true) (ha : args ls gh = .ok ys ls gh) : eMt chk m o args ls gh = m x ys ls gh := by
  unfold eMt
  rw [ho, bind_ok, hv]
  dsimp only
  rw [if_pos hk, ha, bind_ok]
def Sok (s : M.Nm) : Prop := PySem.PyData.strOk (GL.toS s) = true
theorem eq_str {S7 : MS} {s : M.Nm} (h : Sok s) : f_equalG S7 [.v (.str s), .v (.str s)] [] = .ok (.bl true) [] := by
  exact equal_ok (f := 9) (d := .str s) h (by show 1 < 6000; decide)
theorem lc_fmG {β : Type} {g : MG} {tt : PT} {te : PE} {vs : List Nat} {L0 gh : Ls} {LA : β → Ls} (f h : β → D) (p : β → Bool)
    (hg : ∀ a, g (.v (f a)) (resD (fun _ => none) vs L0 gh).1 (resD (fun _ => none) vs L0 gh).2 = some (LA a, gh))
    (hr : ∀ a, resD (fun v => keepV (L0.getD v none)) vs (LA a) gh = (L0, gh)) : ∀ (l : List β) (acc : List D), acc.length + l.length < 10000 →
    (∀ a ∈ l, tt (LA a) gh = .ok (p a) (LA a) gh ∧ te (LA a) gh = .ok (.v (h a)) (LA a) gh) →
    lcV g tt te vs L0 (l.map f) acc L0 gh = .ok (.v (.nd .ow .lst (acc ++ (l.filter p).map h))) L0 gh
  | [], acc, _, _ => by rw [List.filter_nil, List.map_nil, List.map_nil, List.append_nil]; rfl
  | a :: r, acc, hl, hh => by
    obtain ⟨h1, h2⟩ := hh a List.mem_cons_self
    have hlim : acc.length < GL.lim := by
      have : GL.lim = 100000 := rfl
      rw [List.length_cons] at hl; omega
    rw [List.map_cons]
    unfold lcV
    rw [hg a]
    dsimp only
    rw [h1]
    cases hp : p a with
    | true =>
      dsimp only
      rw [h2]
      show (if acc.length < GL.lim then lcV g tt te vs L0 (r.map f) (acc ++ [h a]) (resD (fun v => keepV (L0.getD v none)) vs (LA a) gh).1 (resD (fun v => keepV (L0.getD v none)) vs (LA a) gh).2 else .bad) = _
      rw [if_pos hlim, hr a]
      dsimp only
      rw [lc_fmG f h p hg hr r (acc ++ [h a]) (by rw [List.length_append, List.length_cons, List.length_nil]; rw [List.length_cons] at hl; omega) (fun b hb => hh b (List.mem_cons_of_mem _ hb)), List.filter_cons_of_pos hp, List.map_cons, List.append_assoc]
      rfl
    | false =>
      dsimp only
      rw [hr a]
      dsimp only
      rw [lc_fmG f h p hg hr r acc (by rw [List.length_cons] at hl; omega) (fun b hb => hh b (List.mem_cons_of_mem _ hb)), List.filter_cons_of_neg (by rw [hp]; decide)]
section
variable {ls gh : Ls} {a b : PE} {t u : PT} {x y : RV} {k : Bool}
theorem not_of (h : t ls gh = .ok k ls gh) : tNotM t ls gh = .ok (!k) ls gh := by rw [tNotM_ap, h]; rfl
theorem and_of {r : Out RV} (h : a ls gh = .ok (.v (.bl true)) ls gh) (h2 : b ls gh = r) : eAndM a b ls gh = r := by
  unfold eAndM
  rw [h]; exact h2
theorem args2 (h1 : a ls gh = .ok x ls gh) (h2 : b ls gh = .ok y ls gh) : (aCons a (aCons b aNil)) ls gh = .ok [x, y] ls gh := by
  rw [aCons_ap, h1, bind_ok, aCons_ap, h2, bind_ok, aNil_ap, bind_ok, bind_ok]
theorem exp_ap {args : PA} {ys : List RV} {xs : List D} {v : RV} {ls2 gh2 : Ls} (ho : a ls gh = .ok x ls gh) (hv : val x ls gh = some (.nd .ow .lst xs)) (ha : args ls gh = .ok ys ls gh) (hm : mAppend x ys ls gh = .ok v ls2 gh2) : sExpr (eMt kList mAppend a args) ls gh = .nx ls2 gh2 := by
  rw [sExpr_ap, mt_of ho hv rfl ha, hm]; rfl
theorem ret_of {d : D} {ls : Ls} (h : a ls [] = .ok (.v d) ls []) : sRet a ls [] = .rt d [] := by rw [sRet_ap, h]; rfl
end
section
variable {ls gh ls1 gh1 ls2 gh2 ls3 gh3 : Ls} {t u : PT} {m1 m2 : MS} {x y z : RV} {a b c : D}
theorem if_no2 (h : t ls gh = .ok false ls2 gh2) : sIf t m1 sNil ls gh = .nx ls2 gh2 := by rw [sIf_ap, h]; rfl
end
theorem frz_lst {xs : List D} (h : D.frzs xs = some xs) : D.frz (.nd .ow .lst xs) = some (.nd .fz .lst xs) := by simp [D.frz, h]
end VL
set_option Elab.async false
set_option linter.all false
set_option maxRecDepth 100000
set_option maxHeartbeats 4000000
set_option cbv.maxSteps 1000000
set_option pp.maxSteps 400
namespace VL
open GL (PV)
open K44
structure WI (P : List M.Nm) (n : Nat) (ws : M.Ws) : Prop where
  nd : Nd ws
  k : ∀ x ∈ ws, x.1 ∈ P
  l : ∀ x ∈ ws, x.2.length ≤ n
theorem WI.len {P : List M.Nm} {n : Nat} {ws : M.Ws} (h : WI P n ws) : ws.length ≤ P.length := by
  have := M.nodup_sub h.nd fun x hx => by
    obtain ⟨q, hq, rfl⟩ := List.mem_map.mp hx
    exact h.k q hq
  rw [List.length_map] at this
  exact this
end VL
set_option Elab.async false
set_option linter.all false
set_option maxRecDepth 100000
set_option maxHeartbeats 4000000
set_option cbv.maxSteps 1000000
set_option pp.maxSteps 400
namespace VL
open GL (PV)
open K44
structure RcI (P : List M.Nm) (f : List M.Nm) : Prop where
  nd : f.Nodup
  k : ∀ x ∈ f, x ∈ P
theorem RcI.len {P f : List M.Nm} (h : RcI P f) : f.length ≤ P.length := M.nodup_sub h.nd h.k
end VL
set_option Elab.async false
set_option linter.all false
set_option maxRecDepth 100000
set_option maxHeartbeats 1000000
namespace GL
open PySem PySem.Spec PyProof.Rows L2
end GL
set_option Elab.async false
set_option linter.all false
set_option maxRecDepth 100000
set_option maxHeartbeats 1000000
namespace VL
open GL (PV OB Sto Nm BT lim)
open PySem (PyData)
end VL
set_option Elab.async false
set_option linter.all false
set_option maxRecDepth 100000
set_option maxHeartbeats 1000000
namespace VL
open GL (PV)
open K44 (M.Nm)
section
variable {ls : Ls} {t u : PT} {a b c e : PE} {m m1 m2 k : MS} {r : PA} {p q : Bool} {i j : List Nat} {X Y d : D} {x y : RV} {xs : List RV} {w z : Int}
theorem sSetOk {n : Nat} {l2 : Ls} (h : a ls [] = .ok x ls []) (h2 : setL n x ls [] = some (l2, [])) : sSet n a ls [] = .nx l2 [] := by
  rw [sSet_ap, h]
  show (match setL n x ls [] with
    | some z => SOut.nx z.1 z.2
    | none => .bad) = _
  rw [h2]
end
end VL
set_option Elab.async false
set_option linter.all false
set_option maxRecDepth 100000
set_option maxHeartbeats 1000000
namespace GL
open PySem PySem.Spec PyProof.Rows L2
def ExtW (K : PySem.W.Frag) (H H' : Hp) : Prop := (∀ a vs, SqT K H a vs → SqT K H' a vs) ∧ (∀ a vs, RoL K H a vs → RoL K H' a vs) ∧ ∀ a fs, H a = some (.xd fs) → H' a = some (.xd fs)
section
variable {pw : PgW} {K : PySem.W.Frag} {ρ ρ' : Nat → Addr} {N : Nat} {H H' : Hp} {S S2 : Sto} {n : Nat} {kvs : List (PV × PV)} {kv' : List (Key × V)}
mutual
theorem RW.w (e : ExtW K H H') : ∀ {w : PV} {v : V}, RW K ρ N H w v → RW K ρ N H' w v
  | _, _, .non => .non
  | _, _, .bl b => .bl b
  | _, _, .int i => .int i
  | _, _, .str x => .str x
  | _, _, .tup h hs => .tup (e.1 _ _ h) (RWs.w e hs)
  | _, _, .loc n h => .loc n h
  | _, _, .gl x => .gl x
  | _, _, .ty n => .ty n
  | _, _, .xn h hn hs => .xn (e.2.2 _ _ h) hn (RWs.w e hs)
theorem RWs.w (e : ExtW K H H') : ∀ {w : List PV} {v : List V}, RWs K ρ N H w v → RWs K ρ N H' w v
  | _, _, .nil => .nil
  | _, _, .cons h hs => .cons (RW.w e h) (RWs.w e hs)
end
theorem RL.w (e : ExtW K H H') : ∀ {ls : Ls} {σ : L2.St}, RL K ρ N H ls σ → RL K ρ N H' ls σ
  | _, _, .nil => .nil
  | _, _, .no t => .no (RL.w e t)
  | _, _, .yes h t => .yes (RW.w e h) (RL.w e t)
theorem RFs.w (e : ExtW K H H') : ∀ {w : List (Nm × PV)} {v : List (Str × V)}, RFs K ρ N H w v → RFs K ρ N H' w v
  | _, _, .nil => .nil
  | _, _, .cons h hs => .cons (RW.w e h) (RFs.w e hs)
theorem RKs.w (e : ExtW K H H') : ∀ {w : List (PV × PV)} {v : List (Key × V)}, RKs K ρ N H w v → RKs K ρ N H' w v
  | _, _, .nil => .nil
  | _, _, .cons hk h hs => .cons hk (RW.w e h) (RKs.w e hs)
theorem RNs.w (e : ExtW K H H') : ∀ {w : List (PV × PV)} {v : List (NestedKey × Addr × V)}, RNs K ρ N H w v → RNs K ρ N H' w v
  | _, _, .nil => .nil
  | _, _, .cons hk hd hr h hs => .cons hk hd (RW.w e hr) (RW.w e h) (RNs.w e hs)
theorem RX.w (e : ExtW K H H') {x : Exn} {c : Value} {d : Option Addr} (r : RX K ρ N H x c d) : RX K ρ N H' x c d := by
  obtain ⟨ec, dx, fs', ed, hd, rf⟩ := r
  exact ⟨ec, dx, fs', ed, e.2.2 _ _ hd, rf.w e⟩
theorem RO.w {o : OB} {a : Addr} (e : ExtW K H H') (k : ∀ h, H a = some h → H' a = some h) (r : RO pw K ρ N H o a) : RO pw K ρ N H' o a := by
  cases o with
  | lst xs => obtain ⟨vs, h, r⟩ := r; exact ⟨vs, k _ h, r.w e⟩
  | rol xs => obtain ⟨vs, h, r⟩ := r; exact ⟨vs, e.2.1 _ _ h, r.w e⟩
  | dct kvs => obtain ⟨vs, h, r⟩ := r; exact ⟨vs, k _ h, r.w e⟩
  | fdct kvs => obtain ⟨o, vs, h, r⟩ := r; exact ⟨o, vs, k _ h, r.w e⟩
  | dcn kvs => obtain ⟨xs, h, r⟩ := r; exact ⟨xs, k _ h, r.w e⟩
  | ptp xs => obtain ⟨vs, h, r⟩ := r; exact ⟨vs, h.keep (fun _ _ e => k _ e), r.w e⟩
  | ins C fs => obtain ⟨dx, vs, h, r⟩ := r; exact ⟨dx, vs, k _ h, r.w e⟩
end
end GL
set_option Elab.async false
set_option linter.all false
set_option maxRecDepth 100000
set_option maxHeartbeats 1000000
namespace GL
open PySem PySem.Spec PyProof.Rows L2
end GL
set_option Elab.async false
set_option linter.all false
set_option maxRecDepth 100000
set_option maxHeartbeats 1000000
namespace VL
open GL (PV OB Sto Nm lim)
end VL
set_option Elab.async false
set_option linter.all false
set_option maxRecDepth 100000
set_option maxHeartbeats 1000000
namespace GL
open PySem PySem.Spec PyProof.Rows L2
end GL
set_option Elab.async false
set_option linter.all false
set_option maxRecDepth 100000
set_option maxHeartbeats 1000000
namespace VL
open GL (PV OB Sto Nm lim)
end VL
set_option Elab.async false
set_option linter.all false
set_option maxRecDepth 100000
set_option maxHeartbeats 1000000
namespace GL
open PySem PySem.Spec PyProof.Rows L2
end GL
set_option Elab.async false
set_option linter.all false
set_option maxRecDepth 100000
set_option maxHeartbeats 1000000
namespace VL
open GL (PV OB Sto Nm lim)
end VL
set_option Elab.async false
set_option linter.all false
set_option maxRecDepth 100000
set_option maxHeartbeats 1000000
namespace GL
open PySem PySem.Spec PyProof.Rows L2
end GL
set_option Elab.async false
set_option linter.all false
set_option maxRecDepth 100000
set_option maxHeartbeats 1000000
namespace VL
open GL (PV OB Sto Nm lim)
end VL
set_option Elab.async false
set_option linter.all false
set_option maxRecDepth 100000
set_option maxHeartbeats 2000000
namespace GL
open PySem PySem.Spec PyProof.Rows L2
open PySem.W (EachIs alike alikeAll dataLt AllAlike Sortable)
end GL
set_option Elab.async false
set_option linter.all false
set_option maxRecDepth 100000
set_option maxHeartbeats 2000000
namespace VL
open PySem
open GL (PV OB Sto lim)
end VL
set_option Elab.async false
set_option linter.all false
set_option maxRecDepth 100000
set_option maxHeartbeats 1000000
namespace GL
open PySem PySem.Spec PyProof.Rows L2
end GL
set_option Elab.async false
set_option linter.all false
set_option maxRecDepth 100000
set_option maxHeartbeats 1000000
namespace VL
open GL (PV OB Sto Nm lim)
open PySem (PyData)
end VL
set_option Elab.async false
set_option linter.all false
set_option maxRecDepth 100000
set_option maxHeartbeats 1000000
namespace VL
open GL (PV)
open PySem (PyData)
abbrev dv (d : D) : Option V := some (.v d)
abbrev di (v : Nat) : D := .int (v : Int)
abbrev Tb (α : Type) := List (Nat × α)
section
variable {α : Type}
def Tb.get : Tb α → Nat → Option α
  | [], _ => none
  | q :: r, v => if q.1 = v then some q.2 else Tb.get r v
end
end VL
set_option Elab.async false
set_option linter.all false
set_option maxRecDepth 100000
set_option maxHeartbeats 1000000
namespace VL
open GL (PV)
def okL (ls : Ls) : Prop := ∀ z ∈ ls, okA1 z
theorem okL_nil : okL [] := fun z h => by cases h
theorem okL_cons {z : Option V} {ls : Ls} (h : okA1 z) (h2 : okL ls) : okL (z :: ls) := fun y hy => by
  rcases List.mem_cons.mp hy with rfl | hy
  · exact h
  · exact h2 y hy
theorem okAv {d : D} : okA1 (dv d) := .inr ⟨_, rfl⟩
theorem okAn : okA1 none := .inl rfl
section
variable {ls ls1 ls2 : Ls} {i : Nat} {d d0 y : D} {e o : PE} {t : List Nat → Bool} {r : Rt} {p : List Nat}
theorem killR_L (h : okL ls) (i : Nat) : ls.map (killR i) = ls := by
  have : ls.map (killR i) = ls.map id := List.map_congr_left fun z hz => by
    rcases h z hz with rfl | ⟨d, rfl⟩ <;> rfl
  rw [this, List.map_id]
theorem killD_L (h : okL ls) (t : List Nat → Bool) (r : Rt) (p : List Nat) : ls.map (killD t r p) = ls := by
  have : ls.map (killD t r p) = ls.map id := List.map_congr_left fun z hz => okA1_kill (h z hz) t r p
  rw [this, List.map_id]
theorem setL_ok (h : okL ls) (hi : i < ls.length) : setL i (.v d) ls [] = some (ls.set i (dv d), []) := by
  unfold setL
  rw [if_pos hi]
  show some ((ls.map (killR i)).set i (dv d), [].map (killR i)) = _
  rw [killR_L h]; rfl
theorem sSet_ok (he : e ls [] = .ok (.v d) ls2 []) (h : okL ls2) (hi : i < ls2.length) : sSet i e ls [] = .nx (ls2.set i (dv d)) [] := by
  rw [sSet_ap, he]
  show (match setL i (.v d) ls2 [] with
    | some z => SOut.nx z.1 z.2
    | none => .bad) = _
  rw [setL_ok h hi]
theorem gN_ok (h : okL ls) (hi : i < ls.length) : gN i (.v d) ls [] = some (ls.set i (dv d), []) := setL_ok h hi
theorem modN_set {ls : Ls} {i : Nat} (h : ls[i]? = some (dv d0)) : modN (putV d) i ls = ls.set i (dv d) := by
  induction ls generalizing i with
  | nil => cases h
  | cons z r ih =>
    cases i with
    | zero =>
      have e : z = dv d0 := Option.some.inj h
      subst e; rfl
    | succ i => show z :: modN (putV d) i r = z :: r.set i (dv d); rw [ih h]
theorem chD_ok (hk : okL ls) (h : ls[i]? = some (dv d0)) : chD t (.l i) p y ls [] = (ls.set i (dv (setP p d0 y)), []) := by
  rw [chD_l h, killD_L hk, modN_set h]; rfl
theorem mAppend_ok {xs : List D} (hk : okL ls) (h : ls[i]? = some (dv (.nd .ow .lst xs))) (hl : xs.length < 10000) : mAppend (.pth (.l i) []) [.v d] ls [] = .ok (.v .non) (ls.set i (dv (.nd .ow .lst (xs ++ [d])))) [] := by
  have hlim : xs.length < GL.lim := by
    have : GL.lim = 100000 := rfl
    omega
  rw [mAppend_l h hlim, killD_L hk, modN_set h]; rfl
theorem cv_ok (hk : okL ls) (h : ls[i]? = some (dv d0)) (hs : d0.shr = false) (hz : D.frz d0 = some d) {k : Bool} : cvR k (.pth (.l i) []) ls [] = some (d, ls.set i (dv d), []) := by
  unfold cvR
  simp only [atD_l h]
  rw [if_neg (by rw [hs]; decide), hz]
  dsimp only
  rw [chD_ok hk h]; rfl
theorem app_ok' {xs : List D} (ho : o ls [] = .ok (.pth (.l i) []) ls []) (he : e ls [] = .ok (.v d) ls2 []) (hk : okL ls2) (h0 : ls[i]? = some (dv (.nd .ow .lst xs))) (h : ls2[i]? = some (dv (.nd .ow .lst xs))) (hl : xs.length < 10000) : sExpr (eMt kList mAppend o (aCons e aNil)) ls [] = .nx (ls2.set i (dv (.nd .ow .lst (xs ++ [d])))) [] := by
  have h1 : eMt kList mAppend o (aCons e aNil) ls [] = mAppend (.pth (.l i) []) [.v d] ls2 [] := by
    unfold eMt
    rw [ho, bind_ok, show val (.pth (.l i) []) ls [] = some (.nd .ow .lst xs) from atD_l h0]
    dsimp only
    rw [if_pos (by rfl), aCons_ap, he, bind_ok, aNil_ap, bind_ok, bind_ok]
  rw [sExpr_ap, h1, mAppend_ok hk h hl]; rfl
end
theorem resD1_ok {ls : Ls} (h : okL ls) (f : Nat → Option V) (j : Nat) : resD f [j] ls [] = (ls.set j (f j), []) := by
  show (((ls.map (killR j)).set j (f j), [].map (killR j)) : Ls × Ls) = _
  rw [killR_L h]; rfl
theorem okL_set {ls : Ls} (h : okL ls) {z : Option V} (hz : okA1 z) (j : Nat) : okL (ls.set j z) := fun y hy => by
  rcases List.mem_or_eq_of_mem_set hy with q | rfl
  · exact h y q
  · exact hz
theorem lc_ok {β : Type} {j : Nat} {it : PI} {tt : PT} {te : PE} {ls : Ls} {z : Option V} (f h : β → D) (p : β → Bool) (l : List β) (hk : okL ls) (hj : ls[j]? = some z) (hz : okV z = true) (hit : it ls [] = .ok (l.map f) ls []) (hl : l.length < 10000)
    (hh : ∀ a ∈ l, tt (ls.set j (dv (f a))) [] = .ok (p a) (ls.set j (dv (f a))) [] ∧ te (ls.set j (dv (f a))) [] = .ok (.v (h a)) (ls.set j (dv (f a))) []) :
    eLc it (gN j) tt te [j] ls [] = .ok (.v (.nd .ow .lst ((l.filter p).map h))) ls [] := by
  have hjl : j < ls.length := (List.getElem?_eq_some_iff.mp hj).1
  have hzk : keepV z = z := by
    rcases hk z (List.mem_of_getElem? hj) with rfl | ⟨d, rfl⟩ <;> rfl
  have hgd : ls.getD j none = z := by rw [List.getD_eq_getElem?_getD, hj]; rfl
  have hback : ls.set j z = ls := by
    apply List.ext_getElem?
    intro i
    by_cases e : i = j
    · subst e; rw [List.getElem?_set_self hjl, hj]
    · rw [List.getElem?_set_ne (fun q => e q.symm)]
  have c := lc_fm (g := gN j) (tt := tt) (te := te) (vs := [j]) (L0 := ls) (LA := fun a => ls.set j (dv (f a))) f h p (fun a => by
    rw [resD1_ok hk]
    dsimp only
    rw [gN_ok (okL_set hk okAn j) (by rw [List.length_set]; exact hjl), List.set_set]) (fun a => by
    rw [resD1_ok (okL_set hk okAv j), hgd, hzk, List.set_set, hback]) l [] (by rw [List.length_nil]; omega) hh
  unfold eLc
  rw [hit, bind_ok, if_pos]
  · rw [c, List.nil_append]
  · rw [List.all_cons, List.all_nil, Bool.and_true, Bool.and_eq_true]
    exact ⟨decide_eq_true hjl, by rw [hgd]; exact hz⟩
theorem iSeq_ok {ls : Ls} {i : Nat} {xs : List D} (hv : (eVar i) ls [] = .ok (.pth (.l i) []) ls []) (hk : okL ls) (h : ls[i]? = some (dv (.nd .ow .lst xs))) (hz : D.frzs xs = some xs) : iSeq (eVar i) ls [] = .ok xs (ls.set i (dv (.nd .fz .lst xs))) [] := by
  unfold iSeq
  rw [hv, bind_ok]
  unfold kSeq frzSeq
  rw [cv_ok hk h rfl (frz_lst hz)]
  rfl
end VL
set_option Elab.async false
set_option linter.all false
set_option maxRecDepth 100000
set_option maxHeartbeats 1000000
namespace K29.V
open VL
open GL (PV)
open K44 (M.Nm)
def RU : List M.Nm := match w_RULES with
  | .tup xs => xs.map fun x => match x with
    | .str s => s
    | _ => []
  | _ => []
theorem RU_w : dOf w_RULES = .tup (strL RU) := by kernel_rfl
theorem RU_nd : RU.Nodup := by decide +kernel
theorem RU_len : RU.length = 29 := by decide +kernel
theorem RU_s : ∀ x ∈ RU, Sok x := by unfold Sok; decide +kernel
theorem rules_ok : f_law_rules [] [] = .ok (.nd .ow .lst (strL RU)) [] := by kernel_rfl
def NK (N : List M.Nm) : Prop := (∀ x ∈ N, x ∈ RU) ∧ N.Nodup ∧ N.length ≤ 40
def cN (N : List M.Nm) : List M.Nm := RU.filter fun x => decide (x ∈ N)
theorem inM_tup {a : M.Nm} {f : List M.Nm} {x : RV} {ls gh : Ls} {neg : Bool} {k : Kd} (hx : seqV x ls gh = some (k, strL f)) : inM neg (.v (.str a)) x ls gh = .ok (.v (.bl (if neg then !decide (a ∈ f) else decide (a ∈ f)))) ls gh := by
  unfold inM
  rw [hx]
  show (if (flatD (.str a) && (strL f).all flatD) = true then Out.ok (RV.v (.bl (if neg then !inD (.str a) (strL f) else inD (.str a) (strL f)))) ls gh else .bad) = _
  rw [strs_flat, inD_str]
  exact if_pos rfl
def polD (k : Fl) (N : List M.Nm) : D := .nd k (.ins n_Policy [n_names]) [.tup (strL N)]
abbrev hs (N : List M.Nm) (x : M.Nm) : Bool := decide (x ∈ N)
abbrev PIL (x : D) (ch : List M.Nm) (z3 : Option V) : Ls := [some (.al (.g 0) []), some (.v x), some (.v (.nd .ow .lst (strL ch))), z3]
abbrev pG : Ls := [some (.io (.nd .ow (.ins n_Policy []) []))]
abbrev PIB : MS := (sSeq (sIf (tOrM (toT (eOp (inM true) (eVar 3) (eC w_RULES))) (toT (eOp (inM false) (eVar 3) (eVar 2))))
  (sRaise1 n_PolicyError n_name (eVar 3))
  sNil)
  (sExpr (eMt kList mAppend (eVar 2) (aCons (eVar 3) aNil))))
theorem pi_turn {x : D} {ch : List M.Nm} {a : M.Nm} (h1 : a ∈ RU) (h2 : a ∉ ch) (hl : ch.length < 1000) : PIB (PIL x ch (some (.v (.str a)))) pG = .nx (PIL x (ch ++ [a]) (some (.v (.str a)))) pG := by
  have t1 : (toT (eOp (inM true) (eVar 3) (eC w_RULES))) (PIL x ch (some (.v (.str a)))) pG = .ok false (PIL x ch (some (.v (.str a)))) pG := by
    refine toT_of (op_of (x := .v (.str a)) (y := .v (.tup (strL RU))) rfl (by show Out.ok (RV.v (dOf w_RULES)) _ _ = _; rw [RU_w]) ?_)
    rw [inM_tup (k := .tup) (f := RU) rfl, decide_eq_true h1]; rfl
  have t2 : (toT (eOp (inM false) (eVar 3) (eVar 2))) (PIL x ch (some (.v (.str a)))) pG = .ok false (PIL x ch (some (.v (.str a)))) pG := by
    refine toT_of (op_of (x := .v (.str a)) (y := .pth (.l 2) []) rfl rfl ?_)
    rw [inM_tup (k := .lst) (f := ch) (seqV_p (atD_l rfl)), decide_eq_false h2]; rfl
  have hlim : (strL ch).length < GL.lim := by
    have h1 : GL.lim = 100000 := rfl
    unfold strL
    rw [List.length_map]; omega
  have mm := mAppend_l (ls := PIL x ch (some (.v (.str a)))) (gh := pG) (i := 2) (d := .str a) rfl hlim
  refine (seq_of (if_no (or_go t1 t2))).trans ?_
  refine (exp_ap (x := .pth (.l 2) []) (ys := [.v (.str a)]) rfl (atD_l rfl) rfl mm).trans ?_
  unfold PIL
  rw [strL_app]; rfl
def okS (z : Option V) : Prop := z = none ∨ ∃ s, z = some (.v (.str s))
theorem pi_loop {x : D} : ∀ (l ch : List M.Nm) (z3 : Option V), (∀ a ∈ l, a ∈ RU) → (ch ++ l).Nodup → ch.length + l.length < 1000 → okS z3 →
    ∃ z3', okS z3' ∧ forV (gN 3) PIB (strL l) (PIL x ch z3) pG = .nx (PIL x (ch ++ l) z3') pG
  | [], ch, z3, _, _, _, h3 => ⟨z3, h3, by rw [List.append_nil]; rfl⟩
  | a :: l, ch, z3, hr, hn, hl, h3 => by
    rw [List.length_cons] at hl
    have e : ch ++ a :: l = (ch ++ [a]) ++ l := by simp
    have ha : a ∉ ch := fun h => (List.nodup_append.mp hn).2.2 a h a List.mem_cons_self rfl
    obtain ⟨y3, g3, g⟩ := pi_loop (x := x) l (ch ++ [a]) (some (.v (.str a))) (fun b hb => hr b (List.mem_cons_of_mem _ hb)) (e ▸ hn) (by rw [List.length_append, List.length_singleton]; omega) (.inr ⟨_, rfl⟩)
    refine ⟨y3, g3, ?_⟩
    have hg : gN 3 (.v (.str a)) (PIL x ch z3) pG = some (PIL x ch (some (.v (.str a))), pG) := by
      rcases h3 with rfl | ⟨d3, rfl⟩ <;> rfl
    show forV (gN 3) PIB (D.str a :: strL l) _ pG = _
    rw [forV_cons hg]
    dsimp only
    rw [pi_turn (hr a List.mem_cons_self) ha (by omega), loopK_nx, e]
    exact g
theorem pinit_ok {N : List M.Nm} (h : NK N) {k : Fl} (hk : k = .fz ∨ k = .ow) : f_Policy_init [.al (.g 0) [], .v (.nd k .lst (strL N))] [.nd .ow (.ins n_Policy []) []] = .ok .non [polD .ow (cN N)] := by
  have zN := frzs_shr (strs_shr N)
  have s2 : (sSet 2 (eLst aNil)) [some (.al (.g 0) []), some (.v (.nd k .lst (strL N))), none, none] pG = .nx (PIL (.nd k .lst (strL N)) [] none) pG := by
    rcases hk with rfl | rfl <;> rfl
  have it : iSeq (eVar 1) (PIL (.nd k .lst (strL N)) [] none) pG = .ok (strL N) (PIL (.nd .fz .lst (strL N)) [] none) pG := by
    rcases hk with rfl | rfl
    · exact iSeq_of (d := .nd .fz .lst (strL N)) (k := .lst) rfl rfl rfl
    · unfold iSeq
      show kSeq (fun _ xs => some xs) (.pth (.l 1) []) (PIL (.nd .ow .lst (strL N)) [] none) pG = _
      unfold kSeq frzSeq
      have e : cvR false (.pth (.l 1) []) (PIL (.nd .ow .lst (strL N)) [] none) pG = some (.nd .fz .lst (strL N), PIL (.nd .fz .lst (strL N)) [] none, pG) := by
        have hat : atD (PIL (.nd .ow .lst (strL N)) [] none) pG (.l 1) [] = some (.nd .ow .lst (strL N)) := atD_l rfl
        unfold cvR
        dsimp only
        rw [hat]
        dsimp only
        rw [if_neg (fun h => by cases h), frz_lst zN]
        dsimp only
        rw [chD_l (d0 := .nd .ow .lst (strL N)) rfl]; rfl
      rw [e]; rfl
  obtain ⟨z3, h3, lo⟩ := pi_loop (x := .nd .fz .lst (strL N)) N [] none h.1 (by rw [List.nil_append]; exact h.2.1) (by have := h.2.2; rw [List.length_nil]; omega) (.inl rfl)
  rw [List.nil_append] at lo
  have lc : (eLc (iSeq (eC w_RULES)) (gN 3) (toT (eOp (inM false) (eVar 3) (eVar 2))) (eVar 3) [3]) (PIL (.nd .fz .lst (strL N)) N z3) pG = .ok (.v (.nd .ow .lst (strL (cN N)))) (PIL (.nd .fz .lst (strL N)) N z3) pG := by
    have c := lc_fmG (g := gN 3) (tt := toT (eOp (inM false) (eVar 3) (eVar 2))) (te := eVar 3) (vs := [3]) (L0 := PIL (.nd .fz .lst (strL N)) N z3) (gh := pG) (LA := fun a => PIL (.nd .fz .lst (strL N)) N (some (.v (.str a)))) D.str D.str (fun a => decide (a ∈ N)) (fun a => by rcases h3 with rfl | ⟨d3, rfl⟩ <;> rfl) (fun a => by rcases h3 with rfl | ⟨d3, rfl⟩ <;> rfl) RU [] (by rw [RU_len]; decide) (fun a _ => ⟨toT_of (op_of (x := .v (.str a)) (y := .pth (.l 2) []) rfl rfl (inM_tup (k := .lst) (f := N) (seqV_p (atD_l rfl)))), rfl⟩)
    rw [List.nil_append] at c
    unfold eLc
    rw [iSeq_of (m := eC w_RULES) (d := .tup (strL RU)) (k := .tup) (xs := strL RU) (by show Out.ok (RV.v (dOf w_RULES)) _ _ = _; rw [RU_w]) rfl rfl, bind_ok, if_pos]
    · exact c
    · rcases h3 with rfl | ⟨d3, rfl⟩ <;> rfl
  have tu : (eB fTuple (aCons (eLc (iSeq (eC w_RULES)) (gN 3) (toT (eOp (inM false) (eVar 3) (eVar 2))) (eVar 3) [3]) aNil)) (PIL (.nd .fz .lst (strL N)) N z3) pG = .ok (.v (.tup (strL (cN N)))) (PIL (.nd .fz .lst (strL N)) N z3) pG := by
    rw [eB_ap, aCons_ap, lc, bind_ok, aNil_ap, bind_ok, bind_ok]
    show f1Tuple (.v (.nd .ow .lst (strL (cN N)))) (PIL (.nd .fz .lst (strL N)) N z3) pG = _
    show (match shrK (.v (.nd .ow .lst (strL (cN N)))) (strL (cN N)) with
      | some ys => Out.ok (RV.v (.tup ys)) (PIL (.nd .fz .lst (strL N)) N z3) pG
      | none => .bad) = _
    rw [shrK_s (strs_shr (cN N))]
  have s4 : (sFldM tab n_names (eVar 0) (eB fTuple (aCons (eLc (iSeq (eC w_RULES)) (gN 3) (toT (eOp (inM false) (eVar 3) (eVar 2))) (eVar 3) [3]) aNil))) (PIL (.nd .fz .lst (strL N)) N z3) pG = .nx (PIL (.nd .fz .lst (strL N)) N z3) [some (.io (polD .ow (cN N)))] := by
    unfold sFldM
    rw [tu]
    rcases h3 with rfl | ⟨d3, rfl⟩ <;> rfl
  exact fnOf_nx (gh := [some (.io (polD .ow (cN N)))]) rfl ((seq_of s2).trans ((seq_of ((sFor_of it).trans lo)).trans s4)) rfl
theorem pmake_ok {N : List M.Nm} (h : NK N) {k : Fl} (hk : k = .fz ∨ k = .ow) {ls gh : Ls} : makeD f_Policy_init n_Policy [.nd k .lst (strL N)] ls gh = .ok (.v (polD .ow (cN N))) ls gh := by
  have h := pinit_ok h hk
  unfold makeD
  show (match f_Policy_init [.al (.g 0) [], .v (.nd k .lst (strL N))] [.nd .ow (.ins n_Policy []) []] with
    | .ok (.sc .non) [d] => Out.ok (RV.v d) ls gh
    | .exc e [_] => .exc e ls gh
    | _ => .bad) = _
  rw [h]
theorem has_ok {N : List M.Nm} {x : M.Nm} : f_Policy_has [.v (polD .fz N), .v (.str x)] [] = .ok (.bl (decide (x ∈ N))) [] := by
  refine fnOf_rt (gh := []) rfl ?_ rfl
  exact ret_of (op_of (x := .v (.str x)) (y := .v (.tup (strL N))) rfl rfl (inM_tup (k := .tup) (f := N) rfl))
theorem sub_filter {α : Type} [DecidableEq α] : ∀ {S L : List α}, S.Sublist L → L.Nodup → L.filter (fun x => decide (x ∈ S)) = S := by
  intro S L h
  induction h with
  | slnil => intro _; rfl
  | cons a h ih =>
    rename_i S L
    intro hn
    rw [List.nodup_cons] at hn
    rw [List.filter_cons_of_neg, ih hn.2]
    intro e
    exact hn.1 (h.subset (of_decide_eq_true e))
  | cons_cons a h ih =>
    rename_i S L
    intro hn
    rw [List.nodup_cons] at hn
    rw [List.filter_cons_of_pos (by simp)]
    congr 1
    rw [← ih hn.2]
    apply List.filter_congr
    intro x hx
    have : x ≠ a := fun e => hn.1 (e ▸ hx)
    have i2 := ih hn.2
    rw [i2]
    simp [this]
theorem cN_sub {N : List M.Nm} (h : N.Sublist RU) : cN N = N := by
  unfold cN
  exact Eq.trans (List.filter_congr fun x _ => decide_eq_decide.mpr Iff.rfl) (sub_filter h RU_nd)
theorem gOwn_of {C : GL.Nm} {fn : MF} {x y : RV} {ls gh ls2 gh2 : Ls} {a b : D} {k : Fl} {h : Hd} {xs : List D} (va : val x ls gh = some a) (vb : val y ls gh = some b) (hc : (isC C a && isC C b) = true) {ds : List D} (cv : cvL true [x, y] ls gh = some (ds, ls2, gh2)) {ios : List D} (hf : fn (ds.map .v) [] = .ok (.nd k h xs) ios) : gOwnB C fn x y ls gh = .ok (.v (.nd k h xs)) ls2 gh2 := by
  unfold gOwnB
  rw [va, vb]
  dsimp only
  rw [if_pos hc]
  unfold call2
  rw [cv]
  dsimp only
  unfold callD
  rw [hf]
def orN (N Q : List M.Nm) : List M.Nm := RU.filter fun x => decide (x ∈ N) || decide (x ∈ Q)
def subN (N Q : List M.Nm) : List M.Nm := N.filter fun x => !decide (x ∈ Q)
theorem nk_sub {N : List M.Nm} (h : N.Sublist RU) : NK N := ⟨fun x hx => h.subset hx, RU_nd.sublist h, by have := h.length_le; rw [RU_len] at this; omega⟩
theorem make_o {N : List M.Nm} (h : N.Sublist RU) {k : Fl} (hk : k = .fz ∨ k = .ow) {ls gh : Ls} : makeD f_Policy_init n_Policy [.nd k .lst (strL N)] ls gh = .ok (.v (polD .ow N)) ls gh := by
  have := pmake_ok (nk_sub h) hk (ls := ls) (gh := gh)
  rwa [cN_sub h] at this
theorem pol_or {N Q : List M.Nm} : f_Policy_or [.v (polD .fz N), .v (polD .fz Q)] [] = .ok (polD .ow (orN N Q)) [] := by
  refine fnOf_rt (gh := []) rfl ?_ rfl
  have c := lc_ok (j := 2) (it := iSeq (eC w_RULES)) (tt := (tOrM (toT (eOp (inM false) (eVar 2) (eFld tab n_names (eVar 0)))) (toT (eOp (inM false) (eVar 2) (eFld tab n_names (eVar 1)))))) (te := eVar 2) (ls := [dv (polD .fz N), dv (polD .fz Q), none]) (z := none) D.str D.str (fun a => decide (a ∈ N) || decide (a ∈ Q)) RU (okL_cons okAv (okL_cons okAv (okL_cons okAn okL_nil))) rfl rfl (iSeq_of (d := .tup (strL RU)) (k := .tup) (xs := strL RU) (by show Out.ok (RV.v (dOf w_RULES)) _ _ = _; rw [RU_w]) rfl rfl) (by rw [RU_len]; decide) (fun a _ => ⟨by
    have t1 := toT_of (op_of (g := inM false) (a := eVar 2) (b := eFld tab n_names (eVar 0)) (ls := [dv (polD .fz N), dv (polD .fz Q), dv (.str a)]) (gh := []) (x := .v (.str a)) (y := .v (.tup (strL N))) rfl rfl (inM_tup (k := .tup) (f := N) rfl))
    have t2 := toT_of (op_of (g := inM false) (a := eVar 2) (b := eFld tab n_names (eVar 1)) (ls := [dv (polD .fz N), dv (polD .fz Q), dv (.str a)]) (gh := []) (x := .v (.str a)) (y := .v (.tup (strL Q))) rfl rfl (inM_tup (k := .tup) (f := Q) rfl))
    rw [if_neg (by decide)] at t1 t2
    show _ = Out.ok _ [dv (polD .fz N), dv (polD .fz Q), dv (.str a)] []
    cases e : decide (a ∈ N) with
    | true => rw [e] at t1; exact or_yes t1
    | false => rw [e] at t1; rw [Bool.false_or]; exact or_go t1 t2, rfl⟩)
  refine ret_of (ls := [dv (polD .fz N), dv (polD .fz Q), none]) (d := polD .ow (orN N Q)) ?_
  unfold eMake
  rw [aCons_ap, c, bind_ok, aNil_ap, bind_ok, bind_ok]
  exact make_o List.filter_sublist (.inr rfl)
theorem pol_sub {N Q : List M.Nm} (h : N.Sublist RU) : f_Policy_sub [.v (polD .fz N), .v (polD .fz Q)] [] = .ok (polD .ow (subN N Q)) [] := by
  refine fnOf_rt (gh := []) rfl ?_ rfl
  have hl := h.length_le
  rw [RU_len] at hl
  have c := lc_ok (j := 2) (it := iSeq (eFld tab n_names (eVar 0))) (tt := (toT (eOp (inM true) (eVar 2) (eFld tab n_names (eVar 1))))) (te := eVar 2) (ls := [dv (polD .fz N), dv (polD .fz Q), none]) (z := none) D.str D.str (fun a => !decide (a ∈ Q)) N (okL_cons okAv (okL_cons okAv (okL_cons okAn okL_nil))) rfl rfl (iSeq_of (d := .tup (strL N)) (k := .tup) (xs := strL N) rfl rfl rfl) (by omega) (fun a _ => ⟨by
    exact toT_of (op_of (g := inM true) (a := eVar 2) (b := eFld tab n_names (eVar 1)) (ls := [dv (polD .fz N), dv (polD .fz Q), dv (.str a)]) (gh := []) (x := .v (.str a)) (y := .v (.tup (strL Q))) rfl rfl (inM_tup (neg := true) (k := .tup) (f := Q) rfl)), rfl⟩)
  refine ret_of (ls := [dv (polD .fz N), dv (polD .fz Q), none]) (d := polD .ow (subN N Q)) ?_
  unfold eMake
  rw [aCons_ap, c, bind_ok, aNil_ap, bind_ok, bind_ok]
  exact make_o (List.filter_sublist.trans h) (.inr rfl)
theorem fz_of {e : PE} {ls ls2 : Ls} {d x : D} (h : e ls [] = .ok (.v x) ls2 []) (hz : D.frz x = some d) : eFz e ls [] = .ok (.v d) ls2 [] := by
  unfold eFz
  rw [h, bind_ok]
  show (match (if false = true then some (x, ls2, ([] : Ls)) else (D.frz x).map fun e => (e, ls2, ([] : Ls))) with
    | some (d, ls, gh) => Out.ok (RV.v d) ls gh
    | none => .bad) = _
  rw [if_neg Bool.false_ne_true, hz]; rfl
theorem fzl_of {e : PE} {ls : Ls} {N : List M.Nm} (h : e ls [] = .ok (.v (.nd .ow .lst (strL N))) ls []) : eFz e ls [] = .ok (.v (.nd .fz .lst (strL N))) ls [] := fz_of h (frz_lst (frzs_shr (strs_shr N)))
theorem pol_frz {N : List M.Nm} : D.frz (polD .ow N) = some (polD .fz N) := by
  unfold polD
  simp [D.frz, D.frzs, frzs_shr (strs_shr N)]
abbrev fl (N : List M.Nm) : Option V := dv (.nd .fz .lst (strL N))
abbrev fp (N : List M.Nm) : Option V := dv (polD .fz N)
theorem lequ : f_law_equal = VL.f_equal := rfl
theorem eq_int (i : Int) : f_law_equal [.v (.int i), .v (.int i)] [] = .ok (.bl true) [] := by rw [lequ]; exact equal_ok (f := 9) (d := .int i) rfl (by show 1 < 6000; decide)
theorem eq_strF {s : M.Nm} (h : Sok s) : f_law_equal [.v (.str s), .v (.str s)] [] = .ok (.bl true) [] := by rw [lequ]; exact eq_str h
theorem str_len {N : List M.Nm} : (strL N).length = N.length := by unfold strL; rw [List.length_map]
theorem eq_tupF {N : List M.Nm} (h : ∀ x ∈ N, Sok x) (hl : N.length ≤ 40) : f_law_equal [.v (.tup (strL N)), .v (.tup (strL N))] [] = .ok (.bl true) [] := by
  rw [lequ]
  refine equal_ok (f := 10) (d := .tup (strL N)) ?_ ?_
  · show (strL N).all (plD 9) = true
    unfold strL
    rw [List.all_map, List.all_eq_true]
    intro x hx
    exact h x hx
  · show 1 + ((strL N).map (szD 9)).sum < 6000
    have : ((strL N).map (szD 9)).sum = N.length := by
      unfold strL
      rw [List.map_map]
      clear h hl
      induction N with
      | nil => rfl
      | cons a r ih => rw [List.map_cons, List.sum_cons, ih, List.length_cons]; show 1 + r.length = _; omega
    omega
end K29.V
set_option Elab.async false
set_option linter.all false
set_option maxRecDepth 100000
set_option maxHeartbeats 1000000
namespace K29.V
open VL
open GL (PV)
open K44 (M.Nm)
def bi (b : Bool) : Int := if b = true then 1 else 0
def numT (p : M.Nm → Bool) (v : Int) (l : List M.Nm) : Int := l.foldr (fun x v => 2 * v + bi (p x)) v
def chL : Int → List M.Nm → List M.Nm
  | _, [] => []
  | n, x :: r => if n % 2 = 1 then x :: chL (n / 2) r else chL (n / 2) r
abbrev inN (N : List M.Nm) (x : M.Nm) : Bool := decide (x ∈ N)
theorem chL_sub : ∀ (l : List M.Nm) (n : Int), (chL n l).Sublist l
  | [], _ => .refl _
  | x :: r, n => by
    unfold chL
    by_cases h : n % 2 = 1
    · rw [if_pos h]; exact (chL_sub r _).cons_cons x
    · rw [if_neg h]; exact (chL_sub r _).cons x
theorem numT_congr {p q : M.Nm → Bool} : ∀ (l : List M.Nm), (∀ x ∈ l, p x = q x) → numT p 0 l = numT q 0 l
  | [], _ => rfl
  | x :: r, h => by
    show 2 * numT p 0 r + bi (p x) = 2 * numT q 0 r + bi (q x)
    rw [h x List.mem_cons_self, numT_congr r fun y hy => h y (List.mem_cons_of_mem _ hy)]
theorem numT_ch : ∀ (l : List M.Nm) (n : Int), l.Nodup → 0 ≤ n → n < (2 : Int) ^ l.length → numT (inN (chL n l)) 0 l = n
  | [], n, _, h0, h1 => by
    have : n < 1 := by simpa using h1
    show (0 : Int) = n
    omega
  | x :: r, n, hd, h0, h1 => by
    obtain ⟨hx, hr⟩ := List.nodup_cons.mp hd
    have hp : (2 : Int) ^ (x :: r).length = 2 * (2 : Int) ^ r.length := by rw [List.length_cons, Int.pow_succ]; omega
    have ih := numT_ch r (n / 2) hr (by omega) (by rw [hp] at h1; omega)
    have hn : x ∉ chL (n / 2) r := fun h => hx ((chL_sub r _).subset h)
    show 2 * numT (inN (chL n (x :: r))) 0 r + bi (decide (x ∈ chL n (x :: r))) = n
    by_cases h : n % 2 = 1
    · have e : chL n (x :: r) = x :: chL (n / 2) r := by show (if n % 2 = 1 then _ else _) = _; rw [if_pos h]
      rw [e, numT_congr (q := inN (chL (n / 2) r)) r (fun y hy => decide_eq_decide.mpr ⟨fun q => (List.mem_cons.mp q).resolve_left fun z => hx (by rw [← z]; exact hy), fun q => List.mem_cons_of_mem _ q⟩), ih, decide_eq_true List.mem_cons_self]
      show 2 * (n / 2) + 1 = n
      omega
    · have e : chL n (x :: r) = chL (n / 2) r := by show (if n % 2 = 1 then _ else _) = _; rw [if_neg h]
      rw [e, ih, decide_eq_false hn]
      show 2 * (n / 2) + 0 = n
      omega
theorem ch_numT (p : M.Nm → Bool) : ∀ (l : List M.Nm), chL (numT p 0 l) l = l.filter p
  | [] => rfl
  | x :: r => by
    have ih := ch_numT p r
    have e : numT p 0 (x :: r) = 2 * numT p 0 r + bi (p x) := rfl
    rw [e]
    unfold chL
    cases h : p x with
    | true =>
      have e1 : (2 * numT p 0 r + bi true) % 2 = 1 := by show (2 * numT p 0 r + 1) % 2 = 1; omega
      have e2 : (2 * numT p 0 r + bi true) / 2 = numT p 0 r := by show (2 * numT p 0 r + 1) / 2 = _; omega
      rw [if_pos e1, e2, ih, List.filter_cons_of_pos h]
    | false =>
      have e1 : ¬ (2 * numT p 0 r + bi false) % 2 = 1 := by show ¬ (2 * numT p 0 r + 0) % 2 = 1; omega
      have e2 : (2 * numT p 0 r + bi false) / 2 = numT p 0 r := by show (2 * numT p 0 r + 0) / 2 = _; omega
      rw [if_neg e1, e2, ih, List.filter_cons_of_neg (by rw [h]; decide)]
theorem numT_rng (p : M.Nm → Bool) : ∀ (l : List M.Nm), 0 ≤ numT p 0 l ∧ numT p 0 l < (2 : Int) ^ l.length
  | [] => ⟨Int.le_refl 0, by show (0 : Int) < (2 : Int) ^ 0; decide⟩
  | x :: r => by
    obtain ⟨h1, h2⟩ := numT_rng p r
    have e : numT p 0 (x :: r) = 2 * numT p 0 r + bi (p x) := rfl
    have hb : 0 ≤ bi (p x) ∧ bi (p x) ≤ 1 := by cases p x <;> exact ⟨by decide, by decide⟩
    rw [e, List.length_cons, Int.pow_succ]
    omega
abbrev num (N : List M.Nm) : Int := numT (inN N) 0 RU
abbrev chR (n : Int) : List M.Nm := chL n RU
theorem p29 : (2 : Int) ^ RU.length = 536870912 := by rw [RU_len]; decide
theorem num_rng (N : List M.Nm) : 0 ≤ num N ∧ num N ≤ 536870911 := by
  obtain ⟨h1, h2⟩ := numT_rng (inN N) RU
  rw [p29] at h2
  exact ⟨h1, Int.le_of_lt_add_one h2⟩
theorem num_chR {n : Int} (h0 : 0 ≤ n) (h1 : n ≤ 536870911) : num (chR n) = n := numT_ch RU n RU_nd h0 (by rw [p29]; omega)
theorem chR_num {N : List M.Nm} (h : N.Sublist RU) : chR (num N) = N := by
  show chL (numT (inN N) 0 RU) RU = N
  rw [ch_numT]
  exact cN_sub h
abbrev lnB : MS := (sSeq (sIf (toT (eOp (inM false) (eVar 3) (eVar 0)))
  (sSet 1 (eOp gAdd (eVar 1) (eVar 2)))
  sNil)
  (sSet 2 (eOp gMul (eC (.int 2)) (eVar 2))))
abbrev lnL (N : List M.Nm) (a p : Int) (z : Option V) : Ls := [fl N, dv (.int a), dv (.int p), z]
theorem ln_turn {N : List M.Nm} {a p : Int} {x : M.Nm} : lnB (lnL N a p (dv (.str x))) [] = .nx (lnL N (a + p * bi (inN N x)) (2 * p) (dv (.str x))) [] := by
  have t : (toT (eOp (inM false) (eVar 3) (eVar 0))) (lnL N a p (dv (.str x))) [] = .ok (inN N x) (lnL N a p (dv (.str x))) [] := toT_of (op_of (x := .v (.str x)) (y := .v (.nd .fz .lst (strL N))) rfl rfl (inM_tup (k := .lst) (f := N) rfl))
  have m : ∀ a, (sSet 2 (eOp gMul (eC (.int 2)) (eVar 2))) (lnL N a p (dv (.str x))) [] = .nx (lnL N a (2 * p) (dv (.str x))) [] := fun a => sSetOk (op_of (x := .v (.int 2)) (y := .v (.int p)) rfl rfl (gMul_int (.inl rfl))) rfl
  cases h : inN N x with
  | true =>
    rw [h] at t
    refine (seq_of (ls2 := lnL N (a + p) p (dv (.str x))) (gh2 := []) ((if_yes t).trans rfl)).trans ?_
    rw [m]
    show _ = SOut.nx (lnL N (a + p * 1) (2 * p) (dv (.str x))) []
    rw [Int.mul_one]
  | false =>
    rw [h] at t
    refine (seq_of (if_no2 t)).trans ?_
    rw [m]
    show _ = SOut.nx (lnL N (a + p * 0) (2 * p) (dv (.str x))) []
    rw [Int.mul_zero, Int.add_zero]
theorem ln_loop {N : List M.Nm} : ∀ (l : List M.Nm) (a p : Int) (z : Option V), okA1 z → ∃ p' z', okA1 z' ∧ forV (gN 3) lnB (strL l) (lnL N a p z) [] = .nx (lnL N (a + p * numT (inN N) 0 l) p' z') []
  | [], a, p, z, h => ⟨p, z, h, by show SOut.nx _ _ = SOut.nx (lnL N (a + p * 0) p z) []; rw [Int.mul_zero, Int.add_zero]⟩
  | x :: l, a, p, z, h => by
    obtain ⟨p', z', h', e⟩ := ln_loop (N := N) l (a + p * bi (inN N x)) (2 * p) (dv (.str x)) okAv
    refine ⟨p', z', h', ?_⟩
    have hg : gN 3 (.v (.str x)) (lnL N a p z) [] = some (lnL N a p (dv (.str x)), []) := by rcases h with rfl | ⟨d, rfl⟩ <;> rfl
    show forV (gN 3) lnB (D.str x :: strL l) _ [] = _
    rw [forV_cons hg]
    dsimp only
    rw [ln_turn, loopK_nx, e]
    have q : a + p * bi (inN N x) + 2 * p * numT (inN N) 0 l = a + p * numT (inN N) 0 (x :: l) := by
      show _ = a + p * (2 * numT (inN N) 0 l + bi (inN N x))
      rw [Int.mul_add, Int.mul_comm 2 p, Int.mul_assoc]
      omega
    rw [q]
theorem lnum_ok {N : List M.Nm} : f_law_number [.v (.nd .fz .lst (strL N))] [] = .ok (.int (num N)) [] := by
  refine fnOf_rt (gh := []) rfl ?_ rfl
  have r0 : (sSet 1 (eC (.int 0))) [fl N, none, none, none] [] = .nx [fl N, dv (.int 0), none, none] [] := rfl
  have r1 : (sSet 2 (eC (.int 1))) [fl N, dv (.int 0), none, none] [] = .nx (lnL N 0 1 none) [] := rfl
  have it : iSeq (eCall f_law_rules [] aNil) (lnL N 0 1 none) [] = .ok (strL RU) (lnL N 0 1 none) [] := iSeq_o (call_of (xs := []) (ds := []) (dws := []) (ios := []) rfl rfl rules_ok) (frzs_shr (strs_shr _))
  obtain ⟨p', z', h', e⟩ := ln_loop (N := N) RU 0 1 none okAn
  refine (seq_of r0).trans ((seq_of r1).trans ((seq_of ((sFor_of it).trans e)).trans ?_))
  have q : (0 : Int) + 1 * num N = num N := by omega
  rw [q]
  rfl
abbrev pnB : MS := (sSet 1 (eOp gAdd (eOp gMul (eC (.int 2)) (eVar 1)) (eB fInt (aCons (eMeth n_Policy n_has f_Policy_has [] (eVar 0) (aCons (eVar 2) aNil)) aNil))))
abbrev pnL (N : List M.Nm) (a : Int) (z : Option V) : Ls := [fp N, dv (.int a), z]
theorem pn_turn {N : List M.Nm} {a : Int} {x : M.Nm} : pnB (pnL N a (dv (.str x))) [] = .nx (pnL N (2 * a + bi (inN N x)) (dv (.str x))) [] := by
  have m : (eMeth n_Policy n_has f_Policy_has [] (eVar 0) (aCons (eVar 2) aNil)) (pnL N a (dv (.str x))) [] = .ok (.v (.bl (inN N x))) (pnL N a (dv (.str x))) [] :=
    meth_of (x := .v (polD .fz N)) (xs := [.v (.str x)]) (ds := [polD .fz N, .str x]) (ios := []) rfl rfl rfl rfl rfl has_ok
  have f : (eB fInt (aCons (eMeth n_Policy n_has f_Policy_has [] (eVar 0) (aCons (eVar 2) aNil)) aNil)) (pnL N a (dv (.str x))) [] = .ok (.v (.int (bi (inN N x)))) (pnL N a (dv (.str x))) [] := by
    rw [eB_ap, aCons_ap, m, bind_ok, aNil_ap, bind_ok, bind_ok]
    rfl
  exact sSetOk (op_of (x := .v (.int (2 * a))) (op_of (x := .v (.int 2)) (y := .v (.int a)) rfl rfl (gMul_int (.inl rfl))) f rfl) rfl
theorem pn_loop {N : List M.Nm} : ∀ (l : List M.Nm) (a : Int) (z : Option V), okA1 z → ∃ z', okA1 z' ∧ forV (gN 2) pnB (strL l) (pnL N a z) [] = .nx (pnL N (l.foldl (fun v x => 2 * v + bi (inN N x)) a) z') []
  | [], a, z, h => ⟨z, h, rfl⟩
  | x :: l, a, z, h => by
    obtain ⟨z', h', e⟩ := pn_loop (N := N) l (2 * a + bi (inN N x)) (dv (.str x)) okAv
    refine ⟨z', h', ?_⟩
    have hg : gN 2 (.v (.str x)) (pnL N a z) [] = some (pnL N a (dv (.str x)), []) := by rcases h with rfl | ⟨d, rfl⟩ <;> rfl
    show forV (gN 2) pnB (D.str x :: strL l) _ [] = _
    rw [forV_cons hg]
    dsimp only
    rw [pn_turn, loopK_nx, e]
    rfl
theorem rev_of {m : PE} {ls gh : Ls} {xs : List D} (h : m ls gh = .ok (.v (.tup xs)) ls gh) (hs : xs.all D.shr = true) : iRevT m ls gh = .ok xs.reverse ls gh := by
  have hf : D.frz (.tup xs) = some (.tup xs) := by simp [D.frz, frzs_shr hs]
  unfold iRevT
  rw [h, bind_ok]
  simp [kSeq, frzSeq, cvR, hf, seqD, onTup]
theorem pnum_ok {N : List M.Nm} : f_policy_number [.v (polD .fz N)] [] = .ok (.int (num N)) [] := by
  refine fnOf_rt (gh := []) rfl ?_ rfl
  have r0 : (sSet 1 (eC (.int 0))) [fp N, none, none] [] = .nx (pnL N 0 none) [] := rfl
  have it : iRevT (eC w_RULES) (pnL N 0 none) [] = .ok (strL RU.reverse) (pnL N 0 none) [] := by
    have := rev_of (m := eC w_RULES) (ls := pnL N 0 none) (gh := []) (xs := strL RU) (by show Out.ok (RV.v (dOf w_RULES)) _ _ = _; rw [RU_w]) (strs_shr RU)
    rw [this]
    unfold strL
    rw [List.map_reverse]
  obtain ⟨z', h', e⟩ := pn_loop (N := N) RU.reverse 0 none okAn
  rw [List.foldl_reverse] at e
  refine (seq_of r0).trans ((seq_of ((sFor_of it).trans e)).trans ?_)
  rfl
abbrev pbB : MS := (sSeq (sIf (toT (eOp gEq (eOp gMod (eVar 0) (eC (.int 2))) (eC (.int 1))))
  (sExpr (eMt kList mAppend (eVar 1) (aCons (eVar 2) aNil)))
  sNil)
  (sSet 0 (eOp gDiv (eVar 0) (eC (.int 2)))))
abbrev ow (N : List M.Nm) : Option V := dv (.nd .ow .lst (strL N))
abbrev pbL (n : Int) (ch : List M.Nm) (z : Option V) : Ls := [dv (.int n), ow ch, z]
theorem ok3 {a b c : Option V} (h1 : okA1 a) (h2 : okA1 b) (h3 : okA1 c) : okL [a, b, c] := okL_cons h1 (okL_cons h2 (okL_cons h3 okL_nil))
theorem pb_turn {n : Int} {ch : List M.Nm} {x : M.Nm} (hl : ch.length < 1000) : pbB (pbL n ch (dv (.str x))) [] = .nx (pbL (n / 2) (if n % 2 = 1 then ch ++ [x] else ch) (dv (.str x))) [] := by
  have t : (toT (eOp gEq (eOp gMod (eVar 0) (eC (.int 2))) (eC (.int 1)))) (pbL n ch (dv (.str x))) [] = .ok (decide (n % 2 = 1)) (pbL n ch (dv (.str x))) [] :=
    toT_of (op_of (x := .v (.int (n % 2))) (y := .v (.int 1)) (op_of (x := .v (.int n)) (y := .v (.int 2)) rfl rfl (gMod_int (by decide))) rfl rfl)
  have m : ∀ ch, (sSet 0 (eOp gDiv (eVar 0) (eC (.int 2)))) (pbL n ch (dv (.str x))) [] = .nx (pbL (n / 2) ch (dv (.str x))) [] := fun ch => sSetOk (op_of (x := .v (.int n)) (y := .v (.int 2)) rfl rfl (gDiv_int (by decide) (by decide))) rfl
  by_cases h : n % 2 = 1
  · rw [decide_eq_true h] at t
    have a : (sExpr (eMt kList mAppend (eVar 1) (aCons (eVar 2) aNil))) (pbL n ch (dv (.str x))) [] = .nx (pbL n (ch ++ [x]) (dv (.str x))) [] := by
      have := app_ok' (i := 1) (o := eVar 1) (e := eVar 2) (d := .str x) (ls := pbL n ch (dv (.str x))) (ls2 := pbL n ch (dv (.str x))) (xs := strL ch) rfl rfl (ok3 okAv okAv okAv) rfl rfl (by rw [str_len]; omega)
      rw [this]
      unfold pbL ow
      rw [strL_app]; rfl
    rw [if_pos h]
    exact (seq_of ((if_yes t).trans a)).trans (m _)
  · rw [decide_eq_false h] at t
    rw [if_neg h]
    exact (seq_of (if_no2 t)).trans (m _)
theorem pb_loop : ∀ (l : List M.Nm) (n : Int) (ch : List M.Nm) (z : Option V), okA1 z → ch.length + l.length < 1000 → ∃ n' z', okA1 z' ∧ forV (gN 2) pbB (strL l) (pbL n ch z) [] = .nx (pbL n' (ch ++ chL n l) z') []
  | [], n, ch, z, h, _ => ⟨n, z, h, by show SOut.nx _ _ = SOut.nx (pbL n (ch ++ []) z) []; rw [List.append_nil]⟩
  | x :: l, n, ch, z, h, hl => by
    rw [List.length_cons] at hl
    obtain ⟨n', z', h', e⟩ := pb_loop l (n / 2) (if n % 2 = 1 then ch ++ [x] else ch) (dv (.str x)) okAv (by
      by_cases h : n % 2 = 1
      · rw [if_pos h, List.length_append, List.length_singleton]; omega
      · rw [if_neg h]; omega)
    refine ⟨n', z', h', ?_⟩
    have hg : gN 2 (.v (.str x)) (pbL n ch z) [] = some (pbL n ch (dv (.str x)), []) := by rcases h with rfl | ⟨d, rfl⟩ <;> rfl
    show forV (gN 2) pbB (D.str x :: strL l) _ [] = _
    rw [forV_cons hg]
    dsimp only
    rw [pb_turn (by omega), loopK_nx, e]
    have q : (if n % 2 = 1 then ch ++ [x] else ch) ++ chL (n / 2) l = ch ++ chL n (x :: l) := by
      show _ = ch ++ (if n % 2 = 1 then x :: chL (n / 2) l else chL (n / 2) l)
      by_cases h : n % 2 = 1
      · rw [if_pos h, if_pos h]; simp
      · rw [if_neg h, if_neg h]
    rw [q]
abbrev pbC : PE := (eChain gLe gLe (eC (.int 0)) (eVar 0) (eC w_MOST_NUMBER))
theorem pbC_ok {n : Int} {z1 z2 : Option V} : pbC [dv (.int n), z1, z2] [] = .ok (.v (.bl (decide (0 ≤ n) && decide (n ≤ 536870911)))) [dv (.int n), z1, z2] [] := by
  show kCh gLe gLe (eC w_MOST_NUMBER) (.v (.int 0)) (.v (.int n)) [dv (.int n), z1, z2] [] = _
  show Out.bind (Out.ok (RV.v (.bl (decide (0 ≤ n)))) [dv (.int n), z1, z2] []) (fun z ls gh => kCh2 gLe (.int n) (eC w_MOST_NUMBER) z ls gh) = _
  rw [bind_ok]
  generalize decide (0 ≤ n) = b
  cases b <;> rfl
theorem ret_ofs {m : PE} {d : D} {ls ls1 : Ls} (h : m ls [] = .ok (.v d) ls1 []) : sRet m ls [] = .rt d [] := by rw [sRet_ap, h]; rfl
theorem pnbd_ok {n : Int} (h0 : 0 ≤ n) (h1 : n ≤ 536870911) : f_policy_numbered [.v (.int n)] [] = .ok (polD .ow (chR n)) [] := by
  refine fnOf_rt (gh := []) rfl ?_ rfl
  have t : (tNotM (toT pbC)) [dv (.int n), none, none] [] = .ok false [dv (.int n), none, none] [] := by
    have c := pbC_ok (n := n) (z1 := none) (z2 := none)
    rw [decide_eq_true h0, decide_eq_true h1] at c
    exact not_of (k := true) (toT_of c)
  have r1 : (sSet 1 (eLst aNil)) [dv (.int n), none, none] [] = .nx (pbL n [] none) [] := rfl
  have it : iSeq (eC w_RULES) (pbL n [] none) [] = .ok (strL RU) (pbL n [] none) [] := iSeq_of (d := .tup (strL RU)) (k := .tup) (xs := strL RU) (by show Out.ok (RV.v (dOf w_RULES)) _ _ = _; rw [RU_w]) rfl rfl
  obtain ⟨n', z', h', e⟩ := pb_loop RU n [] none okAn (by rw [RU_len]; decide)
  rw [List.nil_append] at e
  refine (seq_of (if_no2 t)).trans ((seq_of r1).trans ((seq_of ((sFor_of it).trans e)).trans ?_))
  have hs : (chR n).Sublist RU := chL_sub RU n
  have c1 := cv_ok (ls := pbL n' (chR n) z') (i := 1) (d0 := .nd .ow .lst (strL (chR n))) (d := .nd .fz .lst (strL (chR n))) (k := true) (ok3 okAv okAv h') rfl rfl (frz_lst (frzs_shr (strs_shr _)))
  refine ret_ofs (d := polD .ow (chR n)) (ls1 := (pbL n' (chR n) z').set 1 (fl (chR n))) ?_
  unfold eMake
  rw [show (aCons (eVar 1) aNil) (pbL n' (chR n) z') [] = .ok [RV.pth (.l 1) []] (pbL n' (chR n) z') [] from rfl]
  rw [bind_ok]
  have cv : cvL true [.pth (.l 1) []] (pbL n' (chR n) z') [] = some ([.nd .fz .lst (strL (chR n))], (pbL n' (chR n) z').set 1 (fl (chR n)), []) := by simp only [cvL, c1]
  rw [cv]
  exact make_o hs (.inl rfl)
theorem pnbd_exc {n : Int} (h : n < 0 ∨ 536870911 < n) : f_policy_numbered [.v (.int n)] [] = .exc ⟨n_SettingError, [n_name], [.str n_number]⟩ [] := by
  refine fnOf_exc (ls := [dv (.int n), none, none]) (gh := []) rfl ?_ rfl
  have t : (tNotM (toT pbC)) [dv (.int n), none, none] [] = .ok true [dv (.int n), none, none] [] := by
    have c := pbC_ok (n := n) (z1 := none) (z2 := none)
    have : (decide (0 ≤ n) && decide (n ≤ 536870911)) = false := by
      rcases h with h | h
      · rw [decide_eq_false (by omega)]; rfl
      · rw [decide_eq_false (show ¬ n ≤ 536870911 by omega), Bool.and_false]
    rw [this] at c
    exact not_of (k := false) (toT_of c)
  show sSeq _ _ [dv (.int n), none, none] [] = _
  rw [sSeq_ap, if_yes t]
  rfl
abbrev lcB : MS := (sSeq (sIf (toT (eOp gEq (eOp gMod (eB fInt (aCons (eVar 2) aNil)) (eC (.int 2))) (eC (.int 1))))
  (sExpr (eMt kList mAppend (eVar 1) (aCons (eVar 3) aNil)))
  sNil)
  (sSet 2 (eOp gDiv (eVar 2) (eC (.int 2)))))
abbrev lcL (m n : Int) (ch : List M.Nm) (z : Option V) : Ls := [dv (.int m), ow ch, dv (.int n), z]
theorem lc_turn {m n : Int} {ch : List M.Nm} {x : M.Nm} (hl : ch.length < 1000) : lcB (lcL m n ch (dv (.str x))) [] = .nx (lcL m (n / 2) (if n % 2 = 1 then ch ++ [x] else ch) (dv (.str x))) [] := by
  have t : (toT (eOp gEq (eOp gMod (eB fInt (aCons (eVar 2) aNil)) (eC (.int 2))) (eC (.int 1)))) (lcL m n ch (dv (.str x))) [] = .ok (decide (n % 2 = 1)) (lcL m n ch (dv (.str x))) [] :=
    toT_of (op_of (x := .v (.int (n % 2))) (y := .v (.int 1)) (op_of (x := .v (.int n)) (y := .v (.int 2)) rfl rfl (gMod_int (by decide))) rfl rfl)
  have q : ∀ ch, (sSet 2 (eOp gDiv (eVar 2) (eC (.int 2)))) (lcL m n ch (dv (.str x))) [] = .nx (lcL m (n / 2) ch (dv (.str x))) [] := fun ch => sSetOk (op_of (x := .v (.int n)) (y := .v (.int 2)) rfl rfl (gDiv_int (by decide) (by decide))) rfl
  by_cases h : n % 2 = 1
  · rw [decide_eq_true h] at t
    have a : (sExpr (eMt kList mAppend (eVar 1) (aCons (eVar 3) aNil))) (lcL m n ch (dv (.str x))) [] = .nx (lcL m n (ch ++ [x]) (dv (.str x))) [] := by
      have := app_ok' (i := 1) (o := eVar 1) (e := eVar 3) (d := .str x) (ls := lcL m n ch (dv (.str x))) (ls2 := lcL m n ch (dv (.str x))) (xs := strL ch) rfl rfl (okL_cons okAv (ok3 okAv okAv okAv)) rfl rfl (by rw [str_len]; omega)
      rw [this]
      unfold lcL ow
      rw [strL_app]; rfl
    rw [if_pos h]
    exact (seq_of ((if_yes t).trans a)).trans (q _)
  · rw [decide_eq_false h] at t
    rw [if_neg h]
    exact (seq_of (if_no2 t)).trans (q _)
theorem lc_loop {m : Int} : ∀ (l : List M.Nm) (n : Int) (ch : List M.Nm) (z : Option V), okA1 z → ch.length + l.length < 1000 → ∃ n' z', okA1 z' ∧ forV (gN 3) lcB (strL l) (lcL m n ch z) [] = .nx (lcL m n' (ch ++ chL n l) z') []
  | [], n, ch, z, h, _ => ⟨n, z, h, by show SOut.nx _ _ = SOut.nx (lcL m n (ch ++ []) z) []; rw [List.append_nil]⟩
  | x :: l, n, ch, z, h, hl => by
    rw [List.length_cons] at hl
    obtain ⟨n', z', h', e⟩ := lc_loop (m := m) l (n / 2) (if n % 2 = 1 then ch ++ [x] else ch) (dv (.str x)) okAv (by
      by_cases h : n % 2 = 1
      · rw [if_pos h, List.length_append, List.length_singleton]; omega
      · rw [if_neg h]; omega)
    refine ⟨n', z', h', ?_⟩
    have hg : gN 3 (.v (.str x)) (lcL m n ch z) [] = some (lcL m n ch (dv (.str x)), []) := by rcases h with rfl | ⟨d, rfl⟩ <;> rfl
    show forV (gN 3) lcB (D.str x :: strL l) _ [] = _
    rw [forV_cons hg]
    dsimp only
    rw [lc_turn (by omega), loopK_nx, e]
    have q : (if n % 2 = 1 then ch ++ [x] else ch) ++ chL (n / 2) l = ch ++ chL n (x :: l) := by
      show _ = ch ++ (if n % 2 = 1 then x :: chL (n / 2) l else chL (n / 2) l)
      by_cases h : n % 2 = 1
      · rw [if_pos h, if_pos h]; simp
      · rw [if_neg h, if_neg h]
    rw [q]
theorem lch_ok {n : Int} : f_law_chosen [.v (.int n)] [] = .ok (.nd .ow .lst (strL (chR n))) [] := by
  refine fnOf_rt (gh := []) rfl ?_ rfl
  have r0 : (sSet 1 (eLst aNil)) [dv (.int n), none, none, none] [] = .nx [dv (.int n), ow [], none, none] [] := rfl
  have r1 : (sSet 2 (eVar 0)) [dv (.int n), ow [], none, none] [] = .nx (lcL n n [] none) [] := rfl
  have it : iSeq (eCall f_law_rules [] aNil) (lcL n n [] none) [] = .ok (strL RU) (lcL n n [] none) [] := iSeq_o (call_of (xs := []) (ds := []) (dws := []) (ios := []) rfl rfl rules_ok) (frzs_shr (strs_shr _))
  obtain ⟨n', z', h', e⟩ := lc_loop (m := n) RU n [] none okAn (by rw [RU_len]; decide)
  rw [List.nil_append] at e
  refine (seq_of r0).trans ((seq_of r1).trans ((seq_of ((sFor_of it).trans e)).trans ?_))
  rcases h' with rfl | ⟨d, rfl⟩ <;> rfl
theorem both_ok {n : Int} (h0 : 0 ≤ n) (h1 : n ≤ 536870911) : f_law_both [.v (.int n)] [] = .ok (.bl true) [] := by
  refine fnOf_rt (gh := []) rfl ?_ rfl
  have hs : (chR n).Sublist RU := chL_sub RU n
  have hl := hs.length_le
  rw [RU_len] at hl
  have hk : ∀ x ∈ chR n, Sok x := fun x hx => RU_s x (hs.subset hx)
  have r0 : (sSet 1 (eFz (eCall f_law_chosen [] (aCons (eVar 0) aNil)))) [dv (.int n), none, none] [] = .nx [dv (.int n), fl (chR n), none] [] :=
    sSetOk (fzl_of (call_of (xs := [.v (.int n)]) (ds := [.int n]) (dws := []) (ios := []) rfl rfl lch_ok)) rfl
  have r1 : (sSet 2 (eFz (eCall f_policy_numbered [] (aCons (eVar 0) aNil)))) [dv (.int n), fl (chR n), none] [] = .nx [dv (.int n), fl (chR n), fp (chR n)] [] :=
    sSetOk (fz_of (call_of (xs := [.v (.int n)]) (ds := [.int n]) (dws := []) (ios := []) rfl rfl (pnbd_ok h0 h1)) pol_frz) rfl
  have nm := num_chR h0 h1
  generalize chR n = N at *
  have tu : (eB fTuple (aCons (eVar 1) aNil)) [dv (.int n), fl N, fp N] [] = .ok (.v (.tup (strL N))) [dv (.int n), fl N, fp N] [] := by
    show (match shrK (.v (.nd .fz .lst (strL N))) (strL N) with
      | some ys => Out.ok (RV.v (.tup ys)) _ []
      | none => .bad) = _
    rw [shrK_s (strs_shr N)]
  have e1 : (eCall f_law_equal [] (aCons (eFld tab n_names (eVar 2)) (aCons (eB fTuple (aCons (eVar 1) aNil)) aNil))) [dv (.int n), fl N, fp N] [] = .ok (.v (.bl true)) [dv (.int n), fl N, fp N] [] :=
    call_of (xs := [.v (.tup (strL N)), .v (.tup (strL N))]) (ds := [.tup (strL N), .tup (strL N)]) (dws := []) (ios := []) (args2 (a := eFld tab n_names (eVar 2)) rfl tu) rfl (eq_tupF hk (by omega))
  have e2 : (eCall f_law_number [] (aCons (eVar 1) aNil)) [dv (.int n), fl N, fp N] [] = .ok (.v (.int n)) [dv (.int n), fl N, fp N] [] := by
    have := call_of (fn := f_law_number) (args := aCons (eVar 1) aNil) (ls := [dv (.int n), fl N, fp N]) (gh := []) (xs := [.v (.nd .fz .lst (strL N))]) (ds := [.nd .fz .lst (strL N)]) (dws := []) (ios := []) rfl rfl (lnum_ok (N := N))
    rwa [nm] at this
  have ne : (toT (eOp gNe (eCall f_law_number [] (aCons (eVar 1) aNil)) (eVar 0))) [dv (.int n), fl N, fp N] [] = .ok false [dv (.int n), fl N, fp N] [] := by
    refine toT_of (op_of (x := .v (.int n)) (y := .v (.int n)) e2 rfl ?_)
    exact same_ok rfl rfl rfl
  refine (seq_of r0).trans ((seq_of r1).trans ((seq_of (if_no2 (or_go (not_of (k := true) (toT_of e1)) ne))).trans ?_))
  have p1 : (eCall f_policy_number [] (aCons (eVar 2) aNil)) [dv (.int n), fl N, fp N] [] = .ok (.v (.int n)) [dv (.int n), fl N, fp N] [] := by
    have := call_of (fn := f_policy_number) (args := aCons (eVar 2) aNil) (ls := [dv (.int n), fl N, fp N]) (gh := []) (xs := [.v (polD .fz N)]) (ds := [polD .fz N]) (dws := []) (ios := []) rfl rfl (pnum_ok (N := N))
    rwa [nm] at this
  have mk : (eFz (eMake n_Policy f_Policy_init [] (aCons (eVar 1) aNil))) [dv (.int n), fl N, fp N] [] = .ok (.v (polD .fz N)) [dv (.int n), fl N, fp N] [] := by
    refine fz_of (x := polD .ow N) ?_ pol_frz
    exact make_o hs (.inl rfl)
  have p2 : (eCall f_policy_number [] (aCons (eFz (eMake n_Policy f_Policy_init [] (aCons (eVar 1) aNil))) aNil)) [dv (.int n), fl N, fp N] [] = .ok (.v (.int n)) [dv (.int n), fl N, fp N] [] := by
    have := call_of (fn := f_policy_number) (args := aCons (eFz (eMake n_Policy f_Policy_init [] (aCons (eVar 1) aNil))) aNil) (ls := [dv (.int n), fl N, fp N]) (gh := []) (xs := [.v (polD .fz N)]) (ds := [polD .fz N]) (dws := []) (ios := []) (by rw [aCons_ap, mk, bind_ok]; rfl) rfl (pnum_ok (N := N))
    rwa [nm] at this
  have q1 := call_of (fn := f_law_equal) (args := aCons (eCall f_policy_number [] (aCons (eVar 2) aNil)) (aCons (eVar 0) aNil)) (ls := [dv (.int n), fl N, fp N]) (gh := []) (xs := [.v (.int n), .v (.int n)]) (ds := [.int n, .int n]) (dws := []) (ios := []) (args2 (b := eVar 0) p1 rfl) rfl (eq_int n)
  have q2 := call_of (fn := f_law_equal) (args := aCons (eCall f_policy_number [] (aCons (eFz (eMake n_Policy f_Policy_init [] (aCons (eVar 1) aNil))) aNil)) (aCons (eVar 0) aNil)) (ls := [dv (.int n), fl N, fp N]) (gh := []) (xs := [.v (.int n), .v (.int n)]) (ds := [.int n, .int n]) (dws := []) (ios := []) (args2 (b := eVar 0) p2 rfl) rfl (eq_int n)
  exact ret_of (and_of q1 q2)
abbrev rnC : List CM := [⟨tbE_SettingError, some 1, fun C => (sSeq (sSet 2 (eXis C tbI_0 1))
  (sRet (eAndM (eOp gEq (eXf n_name 1) (eC (.str n_number))) (eAndM (eXis C tbI_1 1) (eAndM (eXis C tbI_2 1) (eNotM (eVar 2)))))))⟩]
theorem catch_n (n : Int) : catchM rnC ⟨n_SettingError, [n_name], [.str n_number]⟩ [dv (.int n), none, none] [] = .rt (.bl true) [] := by kernel_rfl
theorem try_exc {b : MS} {cs : List CM} {ls ls2 : Ls} {e : Exn} (h : b ls [] = .exc e ls2 []) (hx : noX ls2 = true) : sTry b cs ls [] = catchM cs e ls2 [] := by
  unfold sTry
  rw [h]
  dsimp only
  rw [if_pos hx]
theorem refn_ok {n : Int} (h : n < 0 ∨ 536870911 < n) : f_law_refused_number [.v (.int n)] [] = .ok (.bl true) [] := by
  have run : (sExpr (eCall f_policy_numbered [] (aCons (eVar 0) aNil))) [dv (.int n), none, none] [] = .exc ⟨n_SettingError, [n_name], [.str n_number]⟩ [dv (.int n), none, none] [] := by
    have c : (eCall f_policy_numbered [] (aCons (eVar 0) aNil)) [dv (.int n), none, none] [] = .exc ⟨n_SettingError, [n_name], [.str n_number]⟩ [dv (.int n), none, none] [] := by
      unfold eCall
      show callD f_policy_numbered [.v (.int n)] _ [] = _
      unfold callD
      rw [pnbd_exc h]
    rw [sExpr_ap, c]; rfl
  refine fnOf_rt (gh := []) rfl ?_ rfl
  show sSeq (sTry _ rnC) _ [dv (.int n), none, none] [] = _
  rw [sSeq_ap, try_exc run rfl, catch_n]
  rfl
end K29.V
set_option Elab.async false
set_option linter.all false
set_option maxRecDepth 100000
set_option maxHeartbeats 1000000
namespace K29.V
open VL
open GL (PV)
open K44 (M.Nm)
def CO : List M.Nm := RU.take 18
def VA : List M.Nm := (RU.drop 18).take 9
def PO : List M.Nm := RU.drop 27
theorem CO_w : dOf w_CODE_RULES = .tup (strL CO) := by kernel_rfl
theorem VA_w : dOf w_VALUE_RULES = .tup (strL VA) := by kernel_rfl
theorem PO_w : dOf w_POLL_RULES = .tup (strL PO) := by kernel_rfl
theorem in_co : ∀ x ∈ CO, x ∈ RU := fun x h => List.mem_of_mem_take h
theorem in_va : ∀ x ∈ VA, x ∈ RU := fun x h => List.mem_of_mem_drop (List.mem_of_mem_take h)
theorem in_po : ∀ x ∈ PO, x ∈ RU := fun x h => List.mem_of_mem_drop h
abbrev dB : MS := (sIf (toT (eOp (inM false) (eVar 0) (eTupG gtb_describe (eVar 2)))) (sSeq (sSet 3 (eRepl n___1 n__ (eVar 0))) (sRet (fJs [(eFmt (eVar 1)), (eC (.str n__rule_)), (eFmt (eOp gAdd (eMt (kGl gtb_describe) (mGIdx gtb_describe) (eVar 2) (aCons (eVar 0) aNil)) (eC (.int 1)))), (eC (.str n__of_)), (eFmt (eB fLen (aCons (eTupG gtb_describe (eVar 2)) aNil))), (eC (.str n___)), (eFmt (eVar 3)), (eC (.str n___2))] []))) sNil)
abbrev dL (x : M.Nm) (z1 z2 : Option V) : Ls := [dv (.str x), z1, z2, none]
abbrev gD (c : M.Nm) : D := .sc (.gl c)
theorem d_turn {x : M.Nm} {N : List M.Nm} {t : D} {c : M.Nm} (hc : (eTupG gtb_describe (eVar 2)) (dL x (dv t) (dv (gD c))) [] = .ok (.v (.tup (strL N))) (dL x (dv t) (dv (gD c))) []) (h : x ∉ N) : dB (dL x (dv t) (dv (gD c))) [] = .nx (dL x (dv t) (dv (gD c))) [] := by
  refine if_no2 (toT_of (op_of (x := .v (.str x)) (y := .v (.tup (strL N))) rfl hc ?_))
  rw [inM_tup (k := .tup) (f := N) rfl, decide_eq_false h]; rfl
abbrev pE (a : M.Nm) : Exn := ⟨n_PolicyError, [n_name], [.str a]⟩
theorem desc_exc {x : M.Nm} (h : x ∉ RU) (hl : x.length ≤ 90000) : f_describe [.v (.str x)] [] = .exc (pE x) [] := by
  have h1 : x ∉ CO := fun q => h (in_co x q)
  have h2 : x ∉ VA := fun q => h (in_va x q)
  have h3 : x ∉ PO := fun q => h (in_po x q)
  have it : (iSeq (eTup (aCons (eTup (aCons (eC (.str n_Code)) (aCons (eC (.gl n_CODE_RULES)) aNil))) (aCons (eTup (aCons (eC (.str n_Value)) (aCons (eC (.gl n_VALUE_RULES)) aNil))) (aCons (eTup (aCons (eC (.str n_Interrupt)) (aCons (eC (.gl n_POLL_RULES)) aNil))) aNil))))) (dL x none none) [] = .ok [.tup [.str n_Code, gD n_CODE_RULES], .tup [.str n_Value, gD n_VALUE_RULES], .tup [.str n_Interrupt, gD n_POLL_RULES]] (dL x none none) [] := by kernel_rfl
  have c1 : (eTupG gtb_describe (eVar 2)) (dL x (dv (.str n_Code)) (dv (gD n_CODE_RULES))) [] = .ok (.v (.tup (strL CO))) (dL x (dv (.str n_Code)) (dv (gD n_CODE_RULES))) [] := by rw [← CO_w]; kernel_rfl
  have c2 : (eTupG gtb_describe (eVar 2)) (dL x (dv (.str n_Value)) (dv (gD n_VALUE_RULES))) [] = .ok (.v (.tup (strL VA))) (dL x (dv (.str n_Value)) (dv (gD n_VALUE_RULES))) [] := by rw [← VA_w]; kernel_rfl
  have c3 : (eTupG gtb_describe (eVar 2)) (dL x (dv (.str n_Interrupt)) (dv (gD n_POLL_RULES))) [] = .ok (.v (.tup (strL PO))) (dL x (dv (.str n_Interrupt)) (dv (gD n_POLL_RULES))) [] := by rw [← PO_w]; kernel_rfl
  have lo : forV (gT (gsCons (gN 1) (gsCons (gN 2) gsNil))) dB [.tup [.str n_Code, gD n_CODE_RULES], .tup [.str n_Value, gD n_VALUE_RULES], .tup [.str n_Interrupt, gD n_POLL_RULES]] (dL x none none) [] = .nx (dL x (dv (.str n_Interrupt)) (dv (gD n_POLL_RULES))) [] := by
    rw [forV_cons (z := (dL x (dv (.str n_Code)) (dv (gD n_CODE_RULES)), [])) rfl]
    dsimp only
    rw [d_turn c1 h1, loopK_nx, forV_cons (z := (dL x (dv (.str n_Value)) (dv (gD n_VALUE_RULES)), [])) rfl]
    dsimp only
    rw [d_turn c2 h2, loopK_nx, forV_cons (z := (dL x (dv (.str n_Interrupt)) (dv (gD n_POLL_RULES)), [])) rfl]
    dsimp only
    rw [d_turn c3 h3, loopK_nx]
    rfl
  refine fnOf_exc (ls := dL x (dv (.str n_Interrupt)) (dv (gD n_POLL_RULES))) (gh := []) rfl ?_ rfl
  refine (seq_of ((sFor_of it).trans lo)).trans ?_
  show (if x.length ≤ 90000 then SOut.exc (pE x) (dL x (dv (.str n_Interrupt)) (dv (gD n_POLL_RULES))) [] else .bad) = _
  rw [if_pos hl]
abbrev rfC : List CM := [⟨tbE_PolicyError, some 1, fun C => (sSeq (sSet 2 (eXis C tbI_3 1))
  (sRet (eAndM (eOp gEq (eXf n_name 1) (eVar 0)) (eAndM (eXis C tbI_1 1) (eAndM (eXis C tbI_2 1) (eNotM (eVar 2)))))))⟩]
theorem catch_d (x : M.Nm) : catchM rfC (pE x) [dv (.str x), none, none] [] = .rt (.bl true) [] := by
  have e : (eOp gEq (eXf n_name 1) (eVar 0)) [dv (.str x), some (.xn n_PolicyError [n_name] [.str x]), dv (.bl false)] [] = .ok (.v (.bl true)) [dv (.str x), some (.xn n_PolicyError [n_name] [.str x]), dv (.bl false)] [] := by
    have := op_of (g := gEq) (a := eXf n_name 1) (b := eVar 0) (ls := [dv (.str x), some (.xn n_PolicyError [n_name] [.str x]), dv (.bl false)]) (gh := []) (x := .v (.str x)) (y := .v (.str x)) rfl rfl gEq_str
    rw [this, decide_eq_true rfl]; rfl
  have r : (sRet (eAndM (eOp gEq (eXf n_name 1) (eVar 0)) (eAndM (eXis n_PolicyError tbI_1 1) (eAndM (eXis n_PolicyError tbI_2 1) (eNotM (eVar 2)))))) [dv (.str x), some (.xn n_PolicyError [n_name] [.str x]), dv (.bl false)] [] = .rt (.bl true) [] := by
    rw [sRet_ap, and_of e rfl]; rfl
  show ckX (clearO (some 1) (sSeq (sSet 2 (eXis n_PolicyError tbI_3 1)) (sRet (eAndM (eOp gEq (eXf n_name 1) (eVar 0)) (eAndM (eXis n_PolicyError tbI_1 1) (eAndM (eXis n_PolicyError tbI_2 1) (eNotM (eVar 2)))))) [dv (.str x), some (.xn n_PolicyError [n_name] [.str x]), none] [])) = _
  rw [seq_of (show (sSet 2 (eXis n_PolicyError tbI_3 1)) [dv (.str x), some (.xn n_PolicyError [n_name] [.str x]), none] [] = .nx [dv (.str x), some (.xn n_PolicyError [n_name] [.str x]), dv (.bl false)] [] from rfl), r]
  rfl
theorem refd_ok {x : M.Nm} (h : x ∉ RU) (hl : x.length ≤ 90000) : f_law_refused_name [.v (.str x)] [] = .ok (.bl true) [] := by
  have run : (sExpr (eCall f_describe [] (aCons (eVar 0) aNil))) [dv (.str x), none, none] [] = .exc (pE x) [dv (.str x), none, none] [] := by
    have c : (eCall f_describe [] (aCons (eVar 0) aNil)) [dv (.str x), none, none] [] = .exc (pE x) [dv (.str x), none, none] [] := by
      unfold eCall
      show callD f_describe [.v (.str x)] _ [] = _
      unfold callD
      rw [desc_exc h hl]
    rw [sExpr_ap, c]; rfl
  refine fnOf_rt (gh := []) rfl ?_ rfl
  show sSeq (sTry _ rfC) _ [dv (.str x), none, none] [] = _
  rw [sSeq_ap, try_exc run rfl, catch_d]
  rfl
abbrev sL (k : Nat) (z2 z3 z4 z5 z6 : Option V) : Ls := [fl RU, dv (di k), z2, z3, z4, z5, z6]
theorem sL_ok {k : Nat} {z2 z3 z4 z5 z6 : Option V} (h2 : okA1 z2) (h3 : okA1 z3) (h4 : okA1 z4) (h5 : okA1 z5) (h6 : okA1 z6) : okL (sL k z2 z3 z4 z5 z6) := okL_cons okAv (okL_cons okAv (okL_cons h2 (okL_cons h3 (okL_cons h4 (okL_cons h5 (okL_cons h6 okL_nil))))))
def gr (k : Nat) : M.Nm := if k < 18 then n_Code_rule_ else if k < 27 then n_Value_rule_ else n_Interrupt_rule_
def pl (k : Nat) : Int := if k < 18 then (k : Int) + 1 else if k < 27 then (k : Int) - 17 else (k : Int) - 26
def mn (k : Nat) : Int := if k < 18 then 18 else if k < 27 then 9 else 2
abbrev b0 : MS := (sSet 2 (eC (.str n_Code_rule_)))
abbrev b1 : MS := (sSet 3 (eOp gAdd (eVar 1) (eC (.int 1))))
abbrev b2 : MS := (sSet 4 (eC (.int 18)))
abbrev b3 : MS := (sIf (toT (eChain gLe gLt (eC (.int 18)) (eVar 1) (eC (.int 27)))) (sSeq (sSet 2 (eC (.str n_Value_rule_))) (sSeq (sSet 3 (eOp gSub (eVar 1) (eC (.int 17)))) (sSet 4 (eC (.int 9))))) (sIf (toT (eOp gGe (eVar 1) (eC (.int 27)))) (sSeq (sSet 2 (eC (.str n_Interrupt_rule_))) (sSeq (sSet 3 (eOp gSub (eVar 1) (eC (.int 26)))) (sSet 4 (eC (.int 2))))) sNil))
abbrev b4 : MS := (sSet 5 (eMt kStr mJoin (eC (.str n__)) (aCons (eMt kStr mSplit (eOp gIx (eVar 0) (eVar 1)) (aCons (eC (.str n___1)) aNil)) aNil)))
abbrev b5 : MS := (sIf (tNotM (toT (eCall f_law_equal [] (aCons (eCall f_describe [] (aCons (eOp gIx (eVar 0) (eVar 1)) aNil)) (aCons (eOp gAdd (eOp gAdd (eOp gAdd (eOp gAdd (eOp gAdd (eOp gAdd (eVar 2) (eB fStr (aCons (eVar 3) aNil))) (eC (.str n__of_))) (eB fStr (aCons (eVar 4) aNil))) (eC (.str n___))) (eVar 5)) (eC (.str n___2))) aNil))))) (sRet (eC (.bl false))) sNil)
abbrev b6 : MS := (sFor (iSeq (eLst (aCons (eSl (eOp gIx (eVar 0) (eVar 1)) (oYes (eC (.int 1))) oNo) (aCons (eOp gAdd (eOp gIx (eVar 0) (eVar 1)) (eC (.str n__))) (aCons (eOp gAdd (eC (.str n__)) (eOp gIx (eVar 0) (eVar 1))) (aCons (eMt kStr mUpper (eOp gIx (eVar 0) (eVar 1)) aNil) (aCons (eOp gAdd (eOp gIx (eVar 0) (eVar 1)) (eC (.str n_s))) (aCons (eOp gAdd (eC (.str n_no_)) (eVar 5)) aNil)))))))) (gN 6) (sIf (tNotM (toT (eCall f_law_refused_name [] (aCons (eVar 6) aNil)))) (sRet (eC (.bl false))) sNil))
abbrev wdE : PE := (eMt kStr mJoin (eC (.str n__)) (aCons (eMt kStr mSplit (eOp gIx (eVar 0) (eVar 1)) (aCons (eC (.str n___1)) aNil)) aNil))
abbrev seE : PE := (eOp gAdd (eOp gAdd (eOp gAdd (eOp gAdd (eOp gAdd (eOp gAdd (eVar 2) (eB fStr (aCons (eVar 3) aNil))) (eC (.str n__of_))) (eB fStr (aCons (eVar 4) aNil))) (eC (.str n___))) (eVar 5)) (eC (.str n___2)))
abbrev sxE : PE := (eLst (aCons (eSl (eOp gIx (eVar 0) (eVar 1)) (oYes (eC (.int 1))) oNo) (aCons (eOp gAdd (eOp gIx (eVar 0) (eVar 1)) (eC (.str n__))) (aCons (eOp gAdd (eC (.str n__)) (eOp gIx (eVar 0) (eVar 1))) (aCons (eMt kStr mUpper (eOp gIx (eVar 0) (eVar 1)) aNil) (aCons (eOp gAdd (eOp gIx (eVar 0) (eVar 1)) (eC (.str n_s))) (aCons (eOp gAdd (eC (.str n_no_)) (eVar 5)) aNil)))))))
abbrev dcE : PE := (eCall f_describe [] (aCons (eOp gIx (eVar 0) (eVar 1)) aNil))
abbrev b6B : MS := (sIf (tNotM (toT (eCall f_law_refused_name [] (aCons (eVar 6) aNil)))) (sRet (eC (.bl false))) sNil)
theorem grp_ok {k : Nat} {z2 z3 z4 z5 z6 : Option V} {m : MS} (h2 : okA1 z2) (h3 : okA1 z3) (h4 : okA1 z4) (h5 : okA1 z5) (h6 : okA1 z6) :
    sSeq b0 (sSeq b1 (sSeq b2 (sSeq b3 m))) (sL k z2 z3 z4 z5 z6) [] = m (sL k (dv (.str (gr k))) (dv (.int (pl k))) (dv (.int (mn k))) z5 z6) [] := by
  have r0 : b0 (sL k z2 z3 z4 z5 z6) [] = .nx (sL k (dv (.str n_Code_rule_)) z3 z4 z5 z6) [] := sSet_ok (i := 2) rfl (sL_ok h2 h3 h4 h5 h6) (by show 2 < 7; decide)
  have r1 : b1 (sL k (dv (.str n_Code_rule_)) z3 z4 z5 z6) [] = .nx (sL k (dv (.str n_Code_rule_)) (dv (.int ((k : Int) + 1))) z4 z5 z6) [] := sSet_ok (i := 3) (op_of (x := .v (di k)) (y := .v (.int 1)) rfl rfl rfl) (sL_ok okAv h3 h4 h5 h6) (by show 3 < 7; decide)
  have r2 : b2 (sL k (dv (.str n_Code_rule_)) (dv (.int ((k : Int) + 1))) z4 z5 z6) [] = .nx (sL k (dv (.str n_Code_rule_)) (dv (.int ((k : Int) + 1))) (dv (.int 18)) z5 z6) [] := sSet_ok (i := 4) rfl (sL_ok okAv okAv h4 h5 h6) (by show 4 < 7; decide)
  refine (seq_of r0).trans ((seq_of r1).trans ((seq_of r2).trans (seq_of ?_)))
  have tc : (toT (eChain gLe gLt (eC (.int 18)) (eVar 1) (eC (.int 27)))) (sL k (dv (.str n_Code_rule_)) (dv (.int ((k : Int) + 1))) (dv (.int 18)) z5 z6) [] = .ok (decide ((18 : Int) ≤ (k : Int)) && decide ((k : Int) < 27)) (sL k (dv (.str n_Code_rule_)) (dv (.int ((k : Int) + 1))) (dv (.int 18)) z5 z6) [] := by
    refine toT_of ?_
    show kCh gLe gLt (eC (.int 27)) (.v (.int 18)) (.v (di k)) (sL k (dv (.str n_Code_rule_)) (dv (.int ((k : Int) + 1))) (dv (.int 18)) z5 z6) [] = _
    show Out.bind (Out.ok (RV.v (.bl (decide ((18 : Int) ≤ (k : Int))))) (sL k (dv (.str n_Code_rule_)) (dv (.int ((k : Int) + 1))) (dv (.int 18)) z5 z6) []) (fun z ls gh => kCh2 gLt (.int (k : Int)) (eC (.int 27)) z ls gh) = _
    rw [bind_ok]
    generalize decide ((18 : Int) ≤ (k : Int)) = b
    cases b <;> rfl
  have tg : (toT (eOp gGe (eVar 1) (eC (.int 27)))) (sL k (dv (.str n_Code_rule_)) (dv (.int ((k : Int) + 1))) (dv (.int 18)) z5 z6) [] = .ok (decide ((k : Int) ≥ 27)) (sL k (dv (.str n_Code_rule_)) (dv (.int ((k : Int) + 1))) (dv (.int 18)) z5 z6) [] := toT_of (op_of (x := .v (di k)) (y := .v (.int 27)) rfl rfl rfl)
  have s3 : ∀ (g : M.Nm) (c q : Int), sSeq (sSet 2 (eC (.str g))) (sSeq (sSet 3 (eOp gSub (eVar 1) (eC (.int c)))) (sSet 4 (eC (.int q)))) (sL k (dv (.str n_Code_rule_)) (dv (.int ((k : Int) + 1))) (dv (.int 18)) z5 z6) [] = .nx (sL k (dv (.str g)) (dv (.int ((k : Int) - c))) (dv (.int q)) z5 z6) [] := fun g c q =>
    (seq_of (sSet_ok (i := 2) (d := .str g) rfl (sL_ok okAv okAv okAv h5 h6) (by show 2 < 7; decide))).trans ((seq_of (ls2 := sL k (dv (.str g)) (dv (.int ((k : Int) - c))) (dv (.int 18)) z5 z6) (gh2 := []) (sSet_ok (i := 3) (op_of (x := .v (di k)) (y := .v (.int c)) rfl rfl rfl) (sL_ok okAv okAv okAv h5 h6) (by show 3 < 7; decide))).trans (sSet_ok (i := 4) (d := .int q) rfl (sL_ok okAv okAv okAv h5 h6) (by show 4 < 7; decide)))
  unfold gr pl mn
  by_cases c1 : k < 18
  · rw [if_pos c1, if_pos c1, if_pos c1]
    rw [decide_eq_false (show ¬ (18 : Int) ≤ (k : Int) by omega), Bool.false_and] at tc
    rw [decide_eq_false (show ¬ (k : Int) ≥ 27 by omega)] at tg
    exact (if_no tc).trans (if_no2 tg)
  · rw [if_neg c1, if_neg c1, if_neg c1]
    by_cases c2 : k < 27
    · rw [if_pos c2, if_pos c2, if_pos c2]
      rw [decide_eq_true (show (18 : Int) ≤ (k : Int) by omega), decide_eq_true (show (k : Int) < 27 by omega)] at tc
      exact (if_yes tc).trans (s3 _ _ _)
    · rw [if_neg c2, if_neg c2, if_neg c2]
      rw [decide_eq_false (show ¬ (k : Int) < 27 by omega), Bool.and_false] at tc
      rw [decide_eq_true (show (k : Int) ≥ 27 by omega)] at tg
      exact (if_no tc).trans ((if_yes tg).trans (s3 _ _ _))
theorem six_loop {k : Nat} {z2 z3 z4 z5 : Option V} (h2 : okA1 z2) (h3 : okA1 z3) (h4 : okA1 z4) (h5 : okA1 z5) : ∀ (l : List M.Nm) (z6 : Option V), okA1 z6 → (∀ x ∈ l, x ∉ RU ∧ x.length ≤ 90000) → ∃ z', okA1 z' ∧ forV (gN 6) b6B (strL l) (sL k z2 z3 z4 z5 z6) [] = .nx (sL k z2 z3 z4 z5 z') []
  | [], z, h, _ => ⟨z, h, rfl⟩
  | x :: l, z, h, hx => by
    obtain ⟨z', h', e⟩ := six_loop (k := k) h2 h3 h4 h5 l (dv (.str x)) okAv fun y hy => hx y (List.mem_cons_of_mem _ hy)
    refine ⟨z', h', ?_⟩
    have hg : gN 6 (.v (.str x)) (sL k z2 z3 z4 z5 z) [] = some (sL k z2 z3 z4 z5 (dv (.str x)), []) := gN_ok (sL_ok h2 h3 h4 h5 h) (by show 6 < 7; decide)
    show forV (gN 6) b6B (D.str x :: strL l) _ [] = _
    rw [forV_cons hg]
    dsimp only
    obtain ⟨q1, q2⟩ := hx x List.mem_cons_self
    have c : (eCall f_law_refused_name [] (aCons (eVar 6) aNil)) (sL k z2 z3 z4 z5 (dv (.str x))) [] = .ok (.v (.bl true)) (sL k z2 z3 z4 z5 (dv (.str x))) [] := call_of (xs := [.v (.str x)]) (ds := [.str x]) (dws := []) (ios := []) rfl rfl (refd_ok q1 q2)
    rw [show b6B (sL k z2 z3 z4 z5 (dv (.str x))) [] = .nx (sL k z2 z3 z4 z5 (dv (.str x))) [] from if_no2 (not_of (k := true) (toT_of c)), loopK_nx]
    exact e
def Turn (k : Nat) : Prop := ∀ (z2 z3 z4 z5 z6 : Option V), okA1 z2 → okA1 z3 → okA1 z4 → okA1 z5 → okA1 z6 → ∃ y2 y3 y4 y5 y6, okA1 y2 ∧ okA1 y3 ∧ okA1 y4 ∧ okA1 y5 ∧ okA1 y6 ∧
  sSeq b0 (sSeq b1 (sSeq b2 (sSeq b3 (sSeq b4 (sSeq b5 b6))))) (sL k z2 z3 z4 z5 z6) [] = .nx (sL k y2 y3 y4 y5 y6) []
theorem turn_of {k : Nat} {nm wd se : M.Nm} {sx : List M.Nm} (hn : RU[k]? = some nm)
    (f1 : f_describe [.v (.str nm)] [] = .ok (.str se) []) (f3 : ∀ z2 z3 z4 z5 z6, wdE (sL k z2 z3 z4 z5 z6) [] = .ok (.v (.str wd)) (sL k z2 z3 z4 z5 z6) [])
    (f2 : ∀ z6, seE (sL k (dv (.str (gr k))) (dv (.int (pl k))) (dv (.int (mn k))) (dv (.str wd)) z6) [] = .ok (.v (.str se)) (sL k (dv (.str (gr k))) (dv (.int (pl k))) (dv (.int (mn k))) (dv (.str wd)) z6) [])
    (f4 : ∀ z2 z3 z4 z6, sxE (sL k z2 z3 z4 (dv (.str wd)) z6) [] = .ok (.v (.nd .ow .lst (strL sx))) (sL k z2 z3 z4 (dv (.str wd)) z6) [])
    (f5 : ∀ x ∈ sx, x ∉ RU ∧ x.length ≤ 90000) (f6 : Sok se) : Turn k := by
  intro z2 z3 z4 z5 z6 h2 h3 h4 h5 h6
  have r4 : b4 (sL k (dv (.str (gr k))) (dv (.int (pl k))) (dv (.int (mn k))) z5 z6) [] = .nx (sL k (dv (.str (gr k))) (dv (.int (pl k))) (dv (.int (mn k))) (dv (.str wd)) z6) [] := sSet_ok (i := 5) (f3 _ _ _ _ _) (sL_ok okAv okAv okAv h5 h6) (by show 5 < 7; decide)
  have ix : ∀ {z2 z3 z4 z5 z6 : Option V}, (eOp gIx (eVar 0) (eVar 1)) (sL k z2 z3 z4 z5 z6) [] = .ok (.v (.str nm)) (sL k z2 z3 z4 z5 z6) [] := fun {z2 z3 z4 z5 z6} =>
    op_of (x := .v (.nd .fz .lst (strL RU))) (y := .v (di k)) rfl rfl (gIx_lst (i := k) (by unfold strL; rw [List.getElem?_map, hn]; rfl) rfl)
  have dc : dcE (sL k (dv (.str (gr k))) (dv (.int (pl k))) (dv (.int (mn k))) (dv (.str wd)) z6) [] = .ok (.v (.str se)) (sL k (dv (.str (gr k))) (dv (.int (pl k))) (dv (.int (mn k))) (dv (.str wd)) z6) [] :=
    call_of (xs := [.v (.str nm)]) (ds := [.str nm]) (dws := []) (ios := []) (by rw [aCons_ap, ix, bind_ok]; rfl) rfl f1
  have r5 : b5 (sL k (dv (.str (gr k))) (dv (.int (pl k))) (dv (.int (mn k))) (dv (.str wd)) z6) [] = .nx (sL k (dv (.str (gr k))) (dv (.int (pl k))) (dv (.int (mn k))) (dv (.str wd)) z6) [] :=
    if_no2 (not_of (k := true) (toT_of (call_of (xs := [.v (.str se), .v (.str se)]) (ds := [.str se, .str se]) (dws := []) (ios := []) (args2 (a := dcE) (b := seE) dc (f2 z6)) rfl (eq_strF f6))))
  obtain ⟨y6, hy, lo⟩ := six_loop (k := k) (z2 := dv (.str (gr k))) (z3 := dv (.int (pl k))) (z4 := dv (.int (mn k))) (z5 := dv (.str wd)) okAv okAv okAv okAv sx z6 h6 f5
  have it : iSeq sxE (sL k (dv (.str (gr k))) (dv (.int (pl k))) (dv (.int (mn k))) (dv (.str wd)) z6) [] = .ok (strL sx) (sL k (dv (.str (gr k))) (dv (.int (pl k))) (dv (.int (mn k))) (dv (.str wd)) z6) [] := iSeq_o (f4 _ _ _ _) (frzs_shr (strs_shr _))
  refine ⟨dv (.str (gr k)), dv (.int (pl k)), dv (.int (mn k)), dv (.str wd), y6, okAv, okAv, okAv, okAv, hy, ?_⟩
  rw [grp_ok h2 h3 h4 h5 h6]
  exact (seq_of r4).trans ((seq_of r5).trans ((sFor_of it).trans lo))
theorem turn_0 : Turn 0 := turn_of (nm := [105, 110, 118, 97, 108, 105, 100, 97, 116, 101, 95, 115, 116, 111, 114, 101]) (wd := [105, 110, 118, 97, 108, 105, 100, 97, 116, 101, 32, 115, 116, 111, 114, 101]) (se := [67, 111, 100, 101, 32, 114, 117, 108, 101, 32, 49, 32, 111, 102, 32, 49, 56, 58, 32, 105, 110, 118, 97, 108, 105, 100, 97, 116, 101, 32, 115, 116, 111, 114, 101, 46]) (sx := [[110, 118, 97, 108, 105, 100, 97, 116, 101, 95, 115, 116, 111, 114, 101], [105, 110, 118, 97, 108, 105, 100, 97, 116, 101, 95, 115, 116, 111, 114, 101, 32], [32, 105, 110, 118, 97, 108, 105, 100, 97, 116, 101, 95, 115, 116, 111, 114, 101], [73, 78, 86, 65, 76, 73, 68, 65, 84, 69, 95, 83, 84, 79, 82, 69], [105, 110, 118, 97, 108, 105, 100, 97, 116, 101, 95, 115, 116, 111, 114, 101, 115], [110, 111, 32, 105, 110, 118, 97, 108, 105, 100, 97, 116, 101, 32, 115, 116, 111, 114, 101]]) (by kernel_rfl) (by kernel_rfl) (fun _ _ _ _ _ => by kernel_rfl) (fun _ => by kernel_rfl) (fun _ _ _ _ => by kernel_rfl) (by decide +kernel) (by unfold Sok; decide +kernel)
theorem turn_1 : Turn 1 := turn_of (nm := [105, 110, 118, 97, 108, 105, 100, 97, 116, 101, 95, 100, 101, 118, 105, 99, 101]) (wd := [105, 110, 118, 97, 108, 105, 100, 97, 116, 101, 32, 100, 101, 118, 105, 99, 101]) (se := [67, 111, 100, 101, 32, 114, 117, 108, 101, 32, 50, 32, 111, 102, 32, 49, 56, 58, 32, 105, 110, 118, 97, 108, 105, 100, 97, 116, 101, 32, 100, 101, 118, 105, 99, 101, 46]) (sx := [[110, 118, 97, 108, 105, 100, 97, 116, 101, 95, 100, 101, 118, 105, 99, 101], [105, 110, 118, 97, 108, 105, 100, 97, 116, 101, 95, 100, 101, 118, 105, 99, 101, 32], [32, 105, 110, 118, 97, 108, 105, 100, 97, 116, 101, 95, 100, 101, 118, 105, 99, 101], [73, 78, 86, 65, 76, 73, 68, 65, 84, 69, 95, 68, 69, 86, 73, 67, 69], [105, 110, 118, 97, 108, 105, 100, 97, 116, 101, 95, 100, 101, 118, 105, 99, 101, 115], [110, 111, 32, 105, 110, 118, 97, 108, 105, 100, 97, 116, 101, 32, 100, 101, 118, 105, 99, 101]]) (by kernel_rfl) (by kernel_rfl) (fun _ _ _ _ _ => by kernel_rfl) (fun _ => by kernel_rfl) (fun _ _ _ _ => by kernel_rfl) (by decide +kernel) (by unfold Sok; decide +kernel)
theorem turn_2 : Turn 2 := turn_of (nm := [116, 114, 97, 99, 107, 95, 102, 114, 97, 109, 101, 115]) (wd := [116, 114, 97, 99, 107, 32, 102, 114, 97, 109, 101, 115]) (se := [67, 111, 100, 101, 32, 114, 117, 108, 101, 32, 51, 32, 111, 102, 32, 49, 56, 58, 32, 116, 114, 97, 99, 107, 32, 102, 114, 97, 109, 101, 115, 46]) (sx := [[114, 97, 99, 107, 95, 102, 114, 97, 109, 101, 115], [116, 114, 97, 99, 107, 95, 102, 114, 97, 109, 101, 115, 32], [32, 116, 114, 97, 99, 107, 95, 102, 114, 97, 109, 101, 115], [84, 82, 65, 67, 75, 95, 70, 82, 65, 77, 69, 83], [116, 114, 97, 99, 107, 95, 102, 114, 97, 109, 101, 115, 115], [110, 111, 32, 116, 114, 97, 99, 107, 32, 102, 114, 97, 109, 101, 115]]) (by kernel_rfl) (by kernel_rfl) (fun _ _ _ _ _ => by kernel_rfl) (fun _ => by kernel_rfl) (fun _ _ _ _ => by kernel_rfl) (by decide +kernel) (by unfold Sok; decide +kernel)
theorem turn_3 : Turn 3 := turn_of (nm := [116, 114, 97, 99, 107, 95, 112, 114, 101, 112, 97, 114, 101, 100]) (wd := [116, 114, 97, 99, 107, 32, 112, 114, 101, 112, 97, 114, 101, 100]) (se := [67, 111, 100, 101, 32, 114, 117, 108, 101, 32, 52, 32, 111, 102, 32, 49, 56, 58, 32, 116, 114, 97, 99, 107, 32, 112, 114, 101, 112, 97, 114, 101, 100, 46]) (sx := [[114, 97, 99, 107, 95, 112, 114, 101, 112, 97, 114, 101, 100], [116, 114, 97, 99, 107, 95, 112, 114, 101, 112, 97, 114, 101, 100, 32], [32, 116, 114, 97, 99, 107, 95, 112, 114, 101, 112, 97, 114, 101, 100], [84, 82, 65, 67, 75, 95, 80, 82, 69, 80, 65, 82, 69, 68], [116, 114, 97, 99, 107, 95, 112, 114, 101, 112, 97, 114, 101, 100, 115], [110, 111, 32, 116, 114, 97, 99, 107, 32, 112, 114, 101, 112, 97, 114, 101, 100]]) (by kernel_rfl) (by kernel_rfl) (fun _ _ _ _ _ => by kernel_rfl) (fun _ => by kernel_rfl) (fun _ _ _ _ => by kernel_rfl) (by decide +kernel) (by unfold Sok; decide +kernel)
theorem turn_4 : Turn 4 := turn_of (nm := [116, 114, 97, 99, 107, 95, 115, 101, 99, 111, 110, 100]) (wd := [116, 114, 97, 99, 107, 32, 115, 101, 99, 111, 110, 100]) (se := [67, 111, 100, 101, 32, 114, 117, 108, 101, 32, 53, 32, 111, 102, 32, 49, 56, 58, 32, 116, 114, 97, 99, 107, 32, 115, 101, 99, 111, 110, 100, 46]) (sx := [[114, 97, 99, 107, 95, 115, 101, 99, 111, 110, 100], [116, 114, 97, 99, 107, 95, 115, 101, 99, 111, 110, 100, 32], [32, 116, 114, 97, 99, 107, 95, 115, 101, 99, 111, 110, 100], [84, 82, 65, 67, 75, 95, 83, 69, 67, 79, 78, 68], [116, 114, 97, 99, 107, 95, 115, 101, 99, 111, 110, 100, 115], [110, 111, 32, 116, 114, 97, 99, 107, 32, 115, 101, 99, 111, 110, 100]]) (by kernel_rfl) (by kernel_rfl) (fun _ _ _ _ _ => by kernel_rfl) (fun _ => by kernel_rfl) (fun _ _ _ _ => by kernel_rfl) (by decide +kernel) (by unfold Sok; decide +kernel)
theorem turn_5 : Turn 5 := turn_of (nm := [105, 110, 118, 97, 108, 105, 100, 97, 116, 101, 95, 109, 97, 112]) (wd := [105, 110, 118, 97, 108, 105, 100, 97, 116, 101, 32, 109, 97, 112]) (se := [67, 111, 100, 101, 32, 114, 117, 108, 101, 32, 54, 32, 111, 102, 32, 49, 56, 58, 32, 105, 110, 118, 97, 108, 105, 100, 97, 116, 101, 32, 109, 97, 112, 46]) (sx := [[110, 118, 97, 108, 105, 100, 97, 116, 101, 95, 109, 97, 112], [105, 110, 118, 97, 108, 105, 100, 97, 116, 101, 95, 109, 97, 112, 32], [32, 105, 110, 118, 97, 108, 105, 100, 97, 116, 101, 95, 109, 97, 112], [73, 78, 86, 65, 76, 73, 68, 65, 84, 69, 95, 77, 65, 80], [105, 110, 118, 97, 108, 105, 100, 97, 116, 101, 95, 109, 97, 112, 115], [110, 111, 32, 105, 110, 118, 97, 108, 105, 100, 97, 116, 101, 32, 109, 97, 112]]) (by kernel_rfl) (by kernel_rfl) (fun _ _ _ _ _ => by kernel_rfl) (fun _ => by kernel_rfl) (fun _ _ _ _ => by kernel_rfl) (by decide +kernel) (by unfold Sok; decide +kernel)
theorem turn_6 : Turn 6 := turn_of (nm := [105, 110, 118, 97, 108, 105, 100, 97, 116, 101, 95, 114, 105, 103, 104, 116, 115]) (wd := [105, 110, 118, 97, 108, 105, 100, 97, 116, 101, 32, 114, 105, 103, 104, 116, 115]) (se := [67, 111, 100, 101, 32, 114, 117, 108, 101, 32, 55, 32, 111, 102, 32, 49, 56, 58, 32, 105, 110, 118, 97, 108, 105, 100, 97, 116, 101, 32, 114, 105, 103, 104, 116, 115, 46]) (sx := [[110, 118, 97, 108, 105, 100, 97, 116, 101, 95, 114, 105, 103, 104, 116, 115], [105, 110, 118, 97, 108, 105, 100, 97, 116, 101, 95, 114, 105, 103, 104, 116, 115, 32], [32, 105, 110, 118, 97, 108, 105, 100, 97, 116, 101, 95, 114, 105, 103, 104, 116, 115], [73, 78, 86, 65, 76, 73, 68, 65, 84, 69, 95, 82, 73, 71, 72, 84, 83], [105, 110, 118, 97, 108, 105, 100, 97, 116, 101, 95, 114, 105, 103, 104, 116, 115, 115], [110, 111, 32, 105, 110, 118, 97, 108, 105, 100, 97, 116, 101, 32, 114, 105, 103, 104, 116, 115]]) (by kernel_rfl) (by kernel_rfl) (fun _ _ _ _ _ => by kernel_rfl) (fun _ => by kernel_rfl) (fun _ _ _ _ => by kernel_rfl) (by decide +kernel) (by unfold Sok; decide +kernel)
theorem turn_7 : Turn 7 := turn_of (nm := [107, 101, 121, 95, 108, 101, 118, 101, 108]) (wd := [107, 101, 121, 32, 108, 101, 118, 101, 108]) (se := [67, 111, 100, 101, 32, 114, 117, 108, 101, 32, 56, 32, 111, 102, 32, 49, 56, 58, 32, 107, 101, 121, 32, 108, 101, 118, 101, 108, 46]) (sx := [[101, 121, 95, 108, 101, 118, 101, 108], [107, 101, 121, 95, 108, 101, 118, 101, 108, 32], [32, 107, 101, 121, 95, 108, 101, 118, 101, 108], [75, 69, 89, 95, 76, 69, 86, 69, 76], [107, 101, 121, 95, 108, 101, 118, 101, 108, 115], [110, 111, 32, 107, 101, 121, 32, 108, 101, 118, 101, 108]]) (by kernel_rfl) (by kernel_rfl) (fun _ _ _ _ _ => by kernel_rfl) (fun _ => by kernel_rfl) (fun _ _ _ _ => by kernel_rfl) (by decide +kernel) (by unfold Sok; decide +kernel)
theorem turn_8 : Turn 8 := turn_of (nm := [108, 101, 97, 118, 101, 95, 115, 101, 108, 102]) (wd := [108, 101, 97, 118, 101, 32, 115, 101, 108, 102]) (se := [67, 111, 100, 101, 32, 114, 117, 108, 101, 32, 57, 32, 111, 102, 32, 49, 56, 58, 32, 108, 101, 97, 118, 101, 32, 115, 101, 108, 102, 46]) (sx := [[101, 97, 118, 101, 95, 115, 101, 108, 102], [108, 101, 97, 118, 101, 95, 115, 101, 108, 102, 32], [32, 108, 101, 97, 118, 101, 95, 115, 101, 108, 102], [76, 69, 65, 86, 69, 95, 83, 69, 76, 70], [108, 101, 97, 118, 101, 95, 115, 101, 108, 102, 115], [110, 111, 32, 108, 101, 97, 118, 101, 32, 115, 101, 108, 102]]) (by kernel_rfl) (by kernel_rfl) (fun _ _ _ _ _ => by kernel_rfl) (fun _ => by kernel_rfl) (fun _ _ _ _ => by kernel_rfl) (by decide +kernel) (by unfold Sok; decide +kernel)
theorem turn_9 : Turn 9 := turn_of (nm := [108, 101, 97, 118, 101, 95, 111, 116, 104, 101, 114]) (wd := [108, 101, 97, 118, 101, 32, 111, 116, 104, 101, 114]) (se := [67, 111, 100, 101, 32, 114, 117, 108, 101, 32, 49, 48, 32, 111, 102, 32, 49, 56, 58, 32, 108, 101, 97, 118, 101, 32, 111, 116, 104, 101, 114, 46]) (sx := [[101, 97, 118, 101, 95, 111, 116, 104, 101, 114], [108, 101, 97, 118, 101, 95, 111, 116, 104, 101, 114, 32], [32, 108, 101, 97, 118, 101, 95, 111, 116, 104, 101, 114], [76, 69, 65, 86, 69, 95, 79, 84, 72, 69, 82], [108, 101, 97, 118, 101, 95, 111, 116, 104, 101, 114, 115], [110, 111, 32, 108, 101, 97, 118, 101, 32, 111, 116, 104, 101, 114]]) (by kernel_rfl) (by kernel_rfl) (fun _ _ _ _ _ => by kernel_rfl) (fun _ => by kernel_rfl) (fun _ _ _ _ => by kernel_rfl) (by decide +kernel) (by unfold Sok; decide +kernel)
theorem turn_10 : Turn 10 := turn_of (nm := [99, 117, 116, 95, 108, 105, 110, 107, 115]) (wd := [99, 117, 116, 32, 108, 105, 110, 107, 115]) (se := [67, 111, 100, 101, 32, 114, 117, 108, 101, 32, 49, 49, 32, 111, 102, 32, 49, 56, 58, 32, 99, 117, 116, 32, 108, 105, 110, 107, 115, 46]) (sx := [[117, 116, 95, 108, 105, 110, 107, 115], [99, 117, 116, 95, 108, 105, 110, 107, 115, 32], [32, 99, 117, 116, 95, 108, 105, 110, 107, 115], [67, 85, 84, 95, 76, 73, 78, 75, 83], [99, 117, 116, 95, 108, 105, 110, 107, 115, 115], [110, 111, 32, 99, 117, 116, 32, 108, 105, 110, 107, 115]]) (by kernel_rfl) (by kernel_rfl) (fun _ _ _ _ _ => by kernel_rfl) (fun _ => by kernel_rfl) (fun _ _ _ _ => by kernel_rfl) (by decide +kernel) (by unfold Sok; decide +kernel)
theorem turn_11 : Turn 11 := turn_of (nm := [99, 108, 101, 97, 114, 95, 108, 105, 110, 107, 115]) (wd := [99, 108, 101, 97, 114, 32, 108, 105, 110, 107, 115]) (se := [67, 111, 100, 101, 32, 114, 117, 108, 101, 32, 49, 50, 32, 111, 102, 32, 49, 56, 58, 32, 99, 108, 101, 97, 114, 32, 108, 105, 110, 107, 115, 46]) (sx := [[108, 101, 97, 114, 95, 108, 105, 110, 107, 115], [99, 108, 101, 97, 114, 95, 108, 105, 110, 107, 115, 32], [32, 99, 108, 101, 97, 114, 95, 108, 105, 110, 107, 115], [67, 76, 69, 65, 82, 95, 76, 73, 78, 75, 83], [99, 108, 101, 97, 114, 95, 108, 105, 110, 107, 115, 115], [110, 111, 32, 99, 108, 101, 97, 114, 32, 108, 105, 110, 107, 115]]) (by kernel_rfl) (by kernel_rfl) (fun _ _ _ _ _ => by kernel_rfl) (fun _ => by kernel_rfl) (fun _ _ _ _ => by kernel_rfl) (by decide +kernel) (by unfold Sok; decide +kernel)
theorem turn_12 : Turn 12 := turn_of (nm := [104, 111, 108, 100, 95, 115, 108, 111, 116]) (wd := [104, 111, 108, 100, 32, 115, 108, 111, 116]) (se := [67, 111, 100, 101, 32, 114, 117, 108, 101, 32, 49, 51, 32, 111, 102, 32, 49, 56, 58, 32, 104, 111, 108, 100, 32, 115, 108, 111, 116, 46]) (sx := [[111, 108, 100, 95, 115, 108, 111, 116], [104, 111, 108, 100, 95, 115, 108, 111, 116, 32], [32, 104, 111, 108, 100, 95, 115, 108, 111, 116], [72, 79, 76, 68, 95, 83, 76, 79, 84], [104, 111, 108, 100, 95, 115, 108, 111, 116, 115], [110, 111, 32, 104, 111, 108, 100, 32, 115, 108, 111, 116]]) (by kernel_rfl) (by kernel_rfl) (fun _ _ _ _ _ => by kernel_rfl) (fun _ => by kernel_rfl) (fun _ _ _ _ => by kernel_rfl) (by decide +kernel) (by unfold Sok; decide +kernel)
theorem turn_13 : Turn 13 := turn_of (nm := [99, 104, 101, 99, 107, 95, 101, 110, 116, 114, 121]) (wd := [99, 104, 101, 99, 107, 32, 101, 110, 116, 114, 121]) (se := [67, 111, 100, 101, 32, 114, 117, 108, 101, 32, 49, 52, 32, 111, 102, 32, 49, 56, 58, 32, 99, 104, 101, 99, 107, 32, 101, 110, 116, 114, 121, 46]) (sx := [[104, 101, 99, 107, 95, 101, 110, 116, 114, 121], [99, 104, 101, 99, 107, 95, 101, 110, 116, 114, 121, 32], [32, 99, 104, 101, 99, 107, 95, 101, 110, 116, 114, 121], [67, 72, 69, 67, 75, 95, 69, 78, 84, 82, 89], [99, 104, 101, 99, 107, 95, 101, 110, 116, 114, 121, 115], [110, 111, 32, 99, 104, 101, 99, 107, 32, 101, 110, 116, 114, 121]]) (by kernel_rfl) (by kernel_rfl) (fun _ _ _ _ _ => by kernel_rfl) (fun _ => by kernel_rfl) (fun _ _ _ _ => by kernel_rfl) (by decide +kernel) (by unfold Sok; decide +kernel)
theorem turn_14 : Turn 14 := turn_of (nm := [115, 116, 111, 112, 95, 112, 97, 103, 101]) (wd := [115, 116, 111, 112, 32, 112, 97, 103, 101]) (se := [67, 111, 100, 101, 32, 114, 117, 108, 101, 32, 49, 53, 32, 111, 102, 32, 49, 56, 58, 32, 115, 116, 111, 112, 32, 112, 97, 103, 101, 46]) (sx := [[116, 111, 112, 95, 112, 97, 103, 101], [115, 116, 111, 112, 95, 112, 97, 103, 101, 32], [32, 115, 116, 111, 112, 95, 112, 97, 103, 101], [83, 84, 79, 80, 95, 80, 65, 71, 69], [115, 116, 111, 112, 95, 112, 97, 103, 101, 115], [110, 111, 32, 115, 116, 111, 112, 32, 112, 97, 103, 101]]) (by kernel_rfl) (by kernel_rfl) (fun _ _ _ _ _ => by kernel_rfl) (fun _ => by kernel_rfl) (fun _ _ _ _ => by kernel_rfl) (by decide +kernel) (by unfold Sok; decide +kernel)
theorem turn_15 : Turn 15 := turn_of (nm := [115, 116, 111, 112, 95, 115, 116, 111, 114, 101]) (wd := [115, 116, 111, 112, 32, 115, 116, 111, 114, 101]) (se := [67, 111, 100, 101, 32, 114, 117, 108, 101, 32, 49, 54, 32, 111, 102, 32, 49, 56, 58, 32, 115, 116, 111, 112, 32, 115, 116, 111, 114, 101, 46]) (sx := [[116, 111, 112, 95, 115, 116, 111, 114, 101], [115, 116, 111, 112, 95, 115, 116, 111, 114, 101, 32], [32, 115, 116, 111, 112, 95, 115, 116, 111, 114, 101], [83, 84, 79, 80, 95, 83, 84, 79, 82, 69], [115, 116, 111, 112, 95, 115, 116, 111, 114, 101, 115], [110, 111, 32, 115, 116, 111, 112, 32, 115, 116, 111, 114, 101]]) (by kernel_rfl) (by kernel_rfl) (fun _ _ _ _ _ => by kernel_rfl) (fun _ => by kernel_rfl) (fun _ _ _ _ => by kernel_rfl) (by decide +kernel) (by unfold Sok; decide +kernel)
theorem turn_16 : Turn 16 := turn_of (nm := [110, 111, 95, 108, 105, 110, 107, 115]) (wd := [110, 111, 32, 108, 105, 110, 107, 115]) (se := [67, 111, 100, 101, 32, 114, 117, 108, 101, 32, 49, 55, 32, 111, 102, 32, 49, 56, 58, 32, 110, 111, 32, 108, 105, 110, 107, 115, 46]) (sx := [[111, 95, 108, 105, 110, 107, 115], [110, 111, 95, 108, 105, 110, 107, 115, 32], [32, 110, 111, 95, 108, 105, 110, 107, 115], [78, 79, 95, 76, 73, 78, 75, 83], [110, 111, 95, 108, 105, 110, 107, 115, 115], [110, 111, 32, 110, 111, 32, 108, 105, 110, 107, 115]]) (by kernel_rfl) (by kernel_rfl) (fun _ _ _ _ _ => by kernel_rfl) (fun _ => by kernel_rfl) (fun _ _ _ _ => by kernel_rfl) (by decide +kernel) (by unfold Sok; decide +kernel)
theorem turn_17 : Turn 17 := turn_of (nm := [115, 105, 110, 103, 108, 101]) (wd := [115, 105, 110, 103, 108, 101]) (se := [67, 111, 100, 101, 32, 114, 117, 108, 101, 32, 49, 56, 32, 111, 102, 32, 49, 56, 58, 32, 115, 105, 110, 103, 108, 101, 46]) (sx := [[105, 110, 103, 108, 101], [115, 105, 110, 103, 108, 101, 32], [32, 115, 105, 110, 103, 108, 101], [83, 73, 78, 71, 76, 69], [115, 105, 110, 103, 108, 101, 115], [110, 111, 32, 115, 105, 110, 103, 108, 101]]) (by kernel_rfl) (by kernel_rfl) (fun _ _ _ _ _ => by kernel_rfl) (fun _ => by kernel_rfl) (fun _ _ _ _ => by kernel_rfl) (by decide +kernel) (by unfold Sok; decide +kernel)
theorem turn_18 : Turn 18 := turn_of (nm := [101, 97, 103, 101, 114]) (wd := [101, 97, 103, 101, 114]) (se := [86, 97, 108, 117, 101, 32, 114, 117, 108, 101, 32, 49, 32, 111, 102, 32, 57, 58, 32, 101, 97, 103, 101, 114, 46]) (sx := [[97, 103, 101, 114], [101, 97, 103, 101, 114, 32], [32, 101, 97, 103, 101, 114], [69, 65, 71, 69, 82], [101, 97, 103, 101, 114, 115], [110, 111, 32, 101, 97, 103, 101, 114]]) (by kernel_rfl) (by kernel_rfl) (fun _ _ _ _ _ => by kernel_rfl) (fun _ => by kernel_rfl) (fun _ _ _ _ => by kernel_rfl) (by decide +kernel) (by unfold Sok; decide +kernel)
theorem turn_19 : Turn 19 := turn_of (nm := [102, 108, 117, 115, 104, 95, 101, 120, 105, 116]) (wd := [102, 108, 117, 115, 104, 32, 101, 120, 105, 116]) (se := [86, 97, 108, 117, 101, 32, 114, 117, 108, 101, 32, 50, 32, 111, 102, 32, 57, 58, 32, 102, 108, 117, 115, 104, 32, 101, 120, 105, 116, 46]) (sx := [[108, 117, 115, 104, 95, 101, 120, 105, 116], [102, 108, 117, 115, 104, 95, 101, 120, 105, 116, 32], [32, 102, 108, 117, 115, 104, 95, 101, 120, 105, 116], [70, 76, 85, 83, 72, 95, 69, 88, 73, 84], [102, 108, 117, 115, 104, 95, 101, 120, 105, 116, 115], [110, 111, 32, 102, 108, 117, 115, 104, 32, 101, 120, 105, 116]]) (by kernel_rfl) (by kernel_rfl) (fun _ _ _ _ _ => by kernel_rfl) (fun _ => by kernel_rfl) (fun _ _ _ _ => by kernel_rfl) (by decide +kernel) (by unfold Sok; decide +kernel)
theorem turn_20 : Turn 20 := turn_of (nm := [102, 108, 117, 115, 104, 95, 115, 111, 117, 114, 99, 101]) (wd := [102, 108, 117, 115, 104, 32, 115, 111, 117, 114, 99, 101]) (se := [86, 97, 108, 117, 101, 32, 114, 117, 108, 101, 32, 51, 32, 111, 102, 32, 57, 58, 32, 102, 108, 117, 115, 104, 32, 115, 111, 117, 114, 99, 101, 46]) (sx := [[108, 117, 115, 104, 95, 115, 111, 117, 114, 99, 101], [102, 108, 117, 115, 104, 95, 115, 111, 117, 114, 99, 101, 32], [32, 102, 108, 117, 115, 104, 95, 115, 111, 117, 114, 99, 101], [70, 76, 85, 83, 72, 95, 83, 79, 85, 82, 67, 69], [102, 108, 117, 115, 104, 95, 115, 111, 117, 114, 99, 101, 115], [110, 111, 32, 102, 108, 117, 115, 104, 32, 115, 111, 117, 114, 99, 101]]) (by kernel_rfl) (by kernel_rfl) (fun _ _ _ _ _ => by kernel_rfl) (fun _ => by kernel_rfl) (fun _ _ _ _ => by kernel_rfl) (by decide +kernel) (by unfold Sok; decide +kernel)
theorem turn_21 : Turn 21 := turn_of (nm := [107, 101, 101, 112, 95, 100, 114, 111, 112, 112, 101, 100]) (wd := [107, 101, 101, 112, 32, 100, 114, 111, 112, 112, 101, 100]) (se := [86, 97, 108, 117, 101, 32, 114, 117, 108, 101, 32, 52, 32, 111, 102, 32, 57, 58, 32, 107, 101, 101, 112, 32, 100, 114, 111, 112, 112, 101, 100, 46]) (sx := [[101, 101, 112, 95, 100, 114, 111, 112, 112, 101, 100], [107, 101, 101, 112, 95, 100, 114, 111, 112, 112, 101, 100, 32], [32, 107, 101, 101, 112, 95, 100, 114, 111, 112, 112, 101, 100], [75, 69, 69, 80, 95, 68, 82, 79, 80, 80, 69, 68], [107, 101, 101, 112, 95, 100, 114, 111, 112, 112, 101, 100, 115], [110, 111, 32, 107, 101, 101, 112, 32, 100, 114, 111, 112, 112, 101, 100]]) (by kernel_rfl) (by kernel_rfl) (fun _ _ _ _ _ => by kernel_rfl) (fun _ => by kernel_rfl) (fun _ _ _ _ => by kernel_rfl) (by decide +kernel) (by unfold Sok; decide +kernel)
theorem turn_22 : Turn 22 := turn_of (nm := [109, 97, 112, 95, 105, 110, 115, 112, 101, 99, 116]) (wd := [109, 97, 112, 32, 105, 110, 115, 112, 101, 99, 116]) (se := [86, 97, 108, 117, 101, 32, 114, 117, 108, 101, 32, 53, 32, 111, 102, 32, 57, 58, 32, 109, 97, 112, 32, 105, 110, 115, 112, 101, 99, 116, 46]) (sx := [[97, 112, 95, 105, 110, 115, 112, 101, 99, 116], [109, 97, 112, 95, 105, 110, 115, 112, 101, 99, 116, 32], [32, 109, 97, 112, 95, 105, 110, 115, 112, 101, 99, 116], [77, 65, 80, 95, 73, 78, 83, 80, 69, 67, 84], [109, 97, 112, 95, 105, 110, 115, 112, 101, 99, 116, 115], [110, 111, 32, 109, 97, 112, 32, 105, 110, 115, 112, 101, 99, 116]]) (by kernel_rfl) (by kernel_rfl) (fun _ _ _ _ _ => by kernel_rfl) (fun _ => by kernel_rfl) (fun _ _ _ _ => by kernel_rfl) (by decide +kernel) (by unfold Sok; decide +kernel)
theorem turn_23 : Turn 23 := turn_of (nm := [109, 97, 112, 95, 102, 97, 117, 108, 116]) (wd := [109, 97, 112, 32, 102, 97, 117, 108, 116]) (se := [86, 97, 108, 117, 101, 32, 114, 117, 108, 101, 32, 54, 32, 111, 102, 32, 57, 58, 32, 109, 97, 112, 32, 102, 97, 117, 108, 116, 46]) (sx := [[97, 112, 95, 102, 97, 117, 108, 116], [109, 97, 112, 95, 102, 97, 117, 108, 116, 32], [32, 109, 97, 112, 95, 102, 97, 117, 108, 116], [77, 65, 80, 95, 70, 65, 85, 76, 84], [109, 97, 112, 95, 102, 97, 117, 108, 116, 115], [110, 111, 32, 109, 97, 112, 32, 102, 97, 117, 108, 116]]) (by kernel_rfl) (by kernel_rfl) (fun _ _ _ _ _ => by kernel_rfl) (fun _ => by kernel_rfl) (fun _ _ _ _ => by kernel_rfl) (by decide +kernel) (by unfold Sok; decide +kernel)
theorem turn_24 : Turn 24 := turn_of (nm := [102, 108, 117, 115, 104, 95, 102, 97, 117, 108, 116]) (wd := [102, 108, 117, 115, 104, 32, 102, 97, 117, 108, 116]) (se := [86, 97, 108, 117, 101, 32, 114, 117, 108, 101, 32, 55, 32, 111, 102, 32, 57, 58, 32, 102, 108, 117, 115, 104, 32, 102, 97, 117, 108, 116, 46]) (sx := [[108, 117, 115, 104, 95, 102, 97, 117, 108, 116], [102, 108, 117, 115, 104, 95, 102, 97, 117, 108, 116, 32], [32, 102, 108, 117, 115, 104, 95, 102, 97, 117, 108, 116], [70, 76, 85, 83, 72, 95, 70, 65, 85, 76, 84], [102, 108, 117, 115, 104, 95, 102, 97, 117, 108, 116, 115], [110, 111, 32, 102, 108, 117, 115, 104, 32, 102, 97, 117, 108, 116]]) (by kernel_rfl) (by kernel_rfl) (fun _ _ _ _ _ => by kernel_rfl) (fun _ => by kernel_rfl) (fun _ _ _ _ => by kernel_rfl) (by decide +kernel) (by unfold Sok; decide +kernel)
theorem turn_25 : Turn 25 := turn_of (nm := [109, 97, 112, 95, 108, 101, 97, 118, 101]) (wd := [109, 97, 112, 32, 108, 101, 97, 118, 101]) (se := [86, 97, 108, 117, 101, 32, 114, 117, 108, 101, 32, 56, 32, 111, 102, 32, 57, 58, 32, 109, 97, 112, 32, 108, 101, 97, 118, 101, 46]) (sx := [[97, 112, 95, 108, 101, 97, 118, 101], [109, 97, 112, 95, 108, 101, 97, 118, 101, 32], [32, 109, 97, 112, 95, 108, 101, 97, 118, 101], [77, 65, 80, 95, 76, 69, 65, 86, 69], [109, 97, 112, 95, 108, 101, 97, 118, 101, 115], [110, 111, 32, 109, 97, 112, 32, 108, 101, 97, 118, 101]]) (by kernel_rfl) (by kernel_rfl) (fun _ _ _ _ _ => by kernel_rfl) (fun _ => by kernel_rfl) (fun _ _ _ _ => by kernel_rfl) (by decide +kernel) (by unfold Sok; decide +kernel)
theorem turn_26 : Turn 26 := turn_of (nm := [112, 114, 111, 109, 112, 116, 95, 115, 116, 111, 114, 101]) (wd := [112, 114, 111, 109, 112, 116, 32, 115, 116, 111, 114, 101]) (se := [86, 97, 108, 117, 101, 32, 114, 117, 108, 101, 32, 57, 32, 111, 102, 32, 57, 58, 32, 112, 114, 111, 109, 112, 116, 32, 115, 116, 111, 114, 101, 46]) (sx := [[114, 111, 109, 112, 116, 95, 115, 116, 111, 114, 101], [112, 114, 111, 109, 112, 116, 95, 115, 116, 111, 114, 101, 32], [32, 112, 114, 111, 109, 112, 116, 95, 115, 116, 111, 114, 101], [80, 82, 79, 77, 80, 84, 95, 83, 84, 79, 82, 69], [112, 114, 111, 109, 112, 116, 95, 115, 116, 111, 114, 101, 115], [110, 111, 32, 112, 114, 111, 109, 112, 116, 32, 115, 116, 111, 114, 101]]) (by kernel_rfl) (by kernel_rfl) (fun _ _ _ _ _ => by kernel_rfl) (fun _ => by kernel_rfl) (fun _ _ _ _ => by kernel_rfl) (by decide +kernel) (by unfold Sok; decide +kernel)
theorem turn_27 : Turn 27 := turn_of (nm := [112, 111, 108, 108, 95, 101, 110, 116, 114, 121]) (wd := [112, 111, 108, 108, 32, 101, 110, 116, 114, 121]) (se := [73, 110, 116, 101, 114, 114, 117, 112, 116, 32, 114, 117, 108, 101, 32, 49, 32, 111, 102, 32, 50, 58, 32, 112, 111, 108, 108, 32, 101, 110, 116, 114, 121, 46]) (sx := [[111, 108, 108, 95, 101, 110, 116, 114, 121], [112, 111, 108, 108, 95, 101, 110, 116, 114, 121, 32], [32, 112, 111, 108, 108, 95, 101, 110, 116, 114, 121], [80, 79, 76, 76, 95, 69, 78, 84, 82, 89], [112, 111, 108, 108, 95, 101, 110, 116, 114, 121, 115], [110, 111, 32, 112, 111, 108, 108, 32, 101, 110, 116, 114, 121]]) (by kernel_rfl) (by kernel_rfl) (fun _ _ _ _ _ => by kernel_rfl) (fun _ => by kernel_rfl) (fun _ _ _ _ => by kernel_rfl) (by decide +kernel) (by unfold Sok; decide +kernel)
theorem turn_28 : Turn 28 := turn_of (nm := [112, 111, 108, 108, 95, 98, 97, 99, 107, 119, 97, 114, 100]) (wd := [112, 111, 108, 108, 32, 98, 97, 99, 107, 119, 97, 114, 100]) (se := [73, 110, 116, 101, 114, 114, 117, 112, 116, 32, 114, 117, 108, 101, 32, 50, 32, 111, 102, 32, 50, 58, 32, 112, 111, 108, 108, 32, 98, 97, 99, 107, 119, 97, 114, 100, 46]) (sx := [[111, 108, 108, 95, 98, 97, 99, 107, 119, 97, 114, 100], [112, 111, 108, 108, 95, 98, 97, 99, 107, 119, 97, 114, 100, 32], [32, 112, 111, 108, 108, 95, 98, 97, 99, 107, 119, 97, 114, 100], [80, 79, 76, 76, 95, 66, 65, 67, 75, 87, 65, 82, 68], [112, 111, 108, 108, 95, 98, 97, 99, 107, 119, 97, 114, 100, 115], [110, 111, 32, 112, 111, 108, 108, 32, 98, 97, 99, 107, 119, 97, 114, 100]]) (by kernel_rfl) (by kernel_rfl) (fun _ _ _ _ _ => by kernel_rfl) (fun _ => by kernel_rfl) (fun _ _ _ _ => by kernel_rfl) (by decide +kernel) (by unfold Sok; decide +kernel)
theorem turn_all : ∀ k : Nat, k < 29 → Turn k
  | 0, _ => turn_0
  | 1, _ => turn_1
  | 2, _ => turn_2
  | 3, _ => turn_3
  | 4, _ => turn_4
  | 5, _ => turn_5
  | 6, _ => turn_6
  | 7, _ => turn_7
  | 8, _ => turn_8
  | 9, _ => turn_9
  | 10, _ => turn_10
  | 11, _ => turn_11
  | 12, _ => turn_12
  | 13, _ => turn_13
  | 14, _ => turn_14
  | 15, _ => turn_15
  | 16, _ => turn_16
  | 17, _ => turn_17
  | 18, _ => turn_18
  | 19, _ => turn_19
  | 20, _ => turn_20
  | 21, _ => turn_21
  | 22, _ => turn_22
  | 23, _ => turn_23
  | 24, _ => turn_24
  | 25, _ => turn_25
  | 26, _ => turn_26
  | 27, _ => turn_27
  | 28, _ => turn_28
  | n + 29, h => absurd h (by omega)
theorem s_loop : ∀ (n k : Nat) (z1 z2 z3 z4 z5 z6 : Option V), n + k = 29 → okA1 z1 → okA1 z2 → okA1 z3 → okA1 z4 → okA1 z5 → okA1 z6 → ∃ y1 y2 y3 y4 y5 y6, okA1 y1 ∧ okA1 y2 ∧ okA1 y3 ∧ okA1 y4 ∧ okA1 y5 ∧ okA1 y6 ∧
    forV (gN 1) (sSeq b0 (sSeq b1 (sSeq b2 (sSeq b3 (sSeq b4 (sSeq b5 b6)))))) ((List.range' k n).map di) [fl RU, z1, z2, z3, z4, z5, z6] [] = .nx [fl RU, y1, y2, y3, y4, y5, y6] []
  | 0, k, z1, z2, z3, z4, z5, z6, _, h1, h2, h3, h4, h5, h6 => ⟨z1, z2, z3, z4, z5, z6, h1, h2, h3, h4, h5, h6, rfl⟩
  | n + 1, k, z1, z2, z3, z4, z5, z6, hk, h1, h2, h3, h4, h5, h6 => by
    obtain ⟨y2, y3, y4, y5, y6, q2, q3, q4, q5, q6, e⟩ := turn_all k (by omega) z2 z3 z4 z5 z6 h2 h3 h4 h5 h6
    obtain ⟨x1, x2, x3, x4, x5, x6, p1, p2, p3, p4, p5, p6, e2⟩ := s_loop n (k + 1) (dv (di k)) y2 y3 y4 y5 y6 (by omega) okAv q2 q3 q4 q5 q6
    refine ⟨x1, x2, x3, x4, x5, x6, p1, p2, p3, p4, p5, p6, ?_⟩
    have hg : gN 1 (.v (di k)) [fl RU, z1, z2, z3, z4, z5, z6] [] = some (sL k z2 z3 z4 z5 z6, []) := gN_ok (okL_cons okAv (okL_cons h1 (okL_cons h2 (okL_cons h3 (okL_cons h4 (okL_cons h5 (okL_cons h6 okL_nil))))))) (by show 1 < 7; decide)
    rw [List.range'_succ, List.map_cons, forV_cons hg]
    dsimp only
    rw [e, loopK_nx]
    exact e2
theorem sent_ok : f_law_sentences [] [] = .ok (.bl true) [] := by
  refine fnOf_rt (gh := []) rfl ?_ rfl
  have r0 : (sSet 0 (eFz (eCall f_law_rules [] aNil))) [none, none, none, none, none, none, none] [] = .nx [fl RU, none, none, none, none, none, none] [] :=
    sSetOk (fzl_of (call_of (xs := []) (ds := []) (dws := []) (ios := []) rfl rfl rules_ok)) rfl
  obtain ⟨y1, y2, y3, y4, y5, y6, h1, h2, h3, h4, h5, h6, e⟩ := s_loop 29 0 none none none none none none rfl okAn okAn okAn okAn okAn okAn
  have it : iR1 (eC (.int 29)) [fl RU, none, none, none, none, none, none] [] = .ok ((List.range' 0 29).map di) [fl RU, none, none, none, none, none, none] [] := by
    rw [← List.range_eq_range', show (List.range 29).map di = rngD 0 ((29 : Nat) : Int) from (rng0 29).symm]
    exact iR1_of (n := 29) rfl (by decide)
  refine (seq_of r0).trans ((seq_of ((sFor_of it).trans e)).trans ?_)
  have q : ∀ x : M.Nm, x ∉ RU → x.length ≤ 90000 → (eCall f_law_refused_name [] (aCons (eC (.str x)) aNil)) [fl RU, y1, y2, y3, y4, y5, y6] [] = .ok (.v (.bl true)) [fl RU, y1, y2, y3, y4, y5, y6] [] := fun x a b =>
    call_of (xs := [.v (.str x)]) (ds := [.str x]) (dws := []) (ios := []) rfl rfl (refd_ok a b)
  exact ret_of (and_of (q n_empty (by decide +kernel) (by decide)) (and_of (q n_rule (by decide +kernel) (by decide)) (q n_track_frames (by decide +kernel) (by decide))))
end K29.V
set_option Elab.async false
set_option linter.all false
set_option maxRecDepth 100000
set_option maxHeartbeats 1000000
namespace K29.V
open VL
open GL (PV)
open K44 (M.Nm)
abbrev u0 : MS := (sSet 1 (eFz (eCall f_law_row [] (aCons (eVar 0) (aCons (eC (.int 66)) aNil)))))
abbrev u1 : MS := (sSet 2 (eFz (eCall f_law_rules [] aNil)))
abbrev u2 : MS := (sSet 3 (eFz (eLc (iR1 (eC (.int 29))) (gN 4) (toT (eOp gEq (eOp gMod (eB fInt (aCons (eOp gAdd (eCall f_law_digit [] (aCons (eVar 1) (aCons (eVar 4) aNil))) (eOp gDiv (eVar 4) (eC (.int 2)))) aNil)) (eC (.int 2))) (eC (.int 1)))) (eOp gIx (eVar 2) (eVar 4)) [4])))
abbrev u3 : MS := (sSet 5 (eFz (eLc (iR1 (eC (.int 29))) (gN 4) (toT (eOp gEq (eOp gMod (eB fInt (aCons (eOp gAdd (eCall f_law_digit [] (aCons (eVar 1) (aCons (eOp gAdd (eC (.int 29)) (eVar 4)) aNil))) (eVar 4)) aNil)) (eC (.int 3))) (eC (.int 0)))) (eOp gIx (eVar 2) (eVar 4)) [4])))
abbrev u4 : MS := (sSet 6 (eC (.int 0)))
abbrev u5 : MS := (sFor (iR1 (eC (.int 8))) (gN 4) (sSet 6 (eOp gAdd (eOp gMul (eC (.int 16)) (eVar 6)) (eCall f_law_digit [] (aCons (eVar 1) (aCons (eOp gAdd (eC (.int 58)) (eVar 4)) aNil))))))
abbrev u6 : MS := (sSet 6 (eOp gMod (eB fInt (aCons (eOp gAdd (eVar 6) (eC (.int 305419896))) aNil)) (eC (.int 536870912))))
abbrev u7 : MS := (sSet 7 (eFz (eMake n_Policy f_Policy_init [] (aCons (eVar 3) aNil))))
abbrev u8 : MS := (sSet 8 (eFz (eMake n_Policy f_Policy_init [] (aCons (eVar 5) aNil))))
abbrev u9 : MS := (sSet 9 (eFz (eLc (iSeq (eVar 2)) (gN 10) (tOrM (toT (eOp (inM false) (eVar 10) (eVar 3))) (toT (eOp (inM false) (eVar 10) (eVar 5)))) (eVar 10) [10])))
abbrev u10 : MS := (sSet 11 (eFz (eLc (iSeq (eVar 3)) (gN 10) (toT (eOp (inM true) (eVar 10) (eVar 5))) (eVar 10) [10])))
abbrev u11 : MS := (sFor (iSeq (eLst (aCons (eTup (aCons (eVar 7) (aCons (eVar 3) aNil))) (aCons (eTup (aCons (eVar 8) (aCons (eVar 5) aNil))) (aCons (eTup (aCons (eOp (gOwnB n_Policy f_Policy_or) (eVar 7) (eVar 8)) (aCons (eVar 9) aNil))) (aCons (eTup (aCons (eOp (gOwnB n_Policy f_Policy_sub) (eVar 7) (eVar 8)) (aCons (eVar 11) aNil))) (aCons (eTup (aCons (eVar 7) (aCons (eVar 3) aNil))) aNil))))))) (gN 12) (sSeq (sIf (tNotM (toT (eCall f_law_equal [] (aCons (eCall f_policy_number [] (aCons (eOp gIx (eVar 12) (eC (.int 0))) aNil)) (aCons (eCall f_law_number [] (aCons (eOp gIx (eVar 12) (eC (.int 1))) aNil)) aNil))))) (sRet (eC (.bl false))) sNil) (sIf (tNotM (toT (eCall f_law_equal [] (aCons (eFld tab n_names (eCall f_policy_numbered [] (aCons (eCall f_law_number [] (aCons (eOp gIx (eVar 12) (eC (.int 1))) aNil)) aNil))) (aCons (eB fTuple (aCons (eOp gIx (eVar 12) (eC (.int 1))) aNil)) aNil))))) (sRet (eC (.bl false))) sNil)))
abbrev u12 : MS := (sSet 13 (eLst (aCons (eVar 6) (aCons (eOp gSub (eC (.int 536870911)) (eVar 6)) (aCons (eC (.int 0)) (aCons (eC (.int 536870911)) aNil))))))
abbrev u13 : MS := (sSet 14 (eC (.int 1)))
abbrev u14 : MS := (sFor (iR1 (eC (.int 29))) (gN 4) (sSeq (sExpr (eMt kList mAppend (eVar 13) (aCons (eVar 14) aNil))) (sSet 14 (eOp gMul (eC (.int 2)) (eVar 14)))))
abbrev u15 : MS := (sFor (iSeq (eVar 13)) (gN 15) (sIf (tNotM (toT (eCall f_law_both [] (aCons (eVar 15) aNil)))) (sRet (eC (.bl false))) sNil))
abbrev u16 : MS := (sFor (iSeq (eLst (aCons (eNegM (eC (.int 1))) (aCons (eC (.int 536870912)) (aCons (eOp gSub (eNegM (eC (.int 2))) (eVar 6)) (aCons (eOp gAdd (eC (.int 536870913)) (eVar 6)) (aCons (eC (.int 1073741824)) (aCons (eNegM (eC (.int 536870912))) (aCons (eNegM (eC (.int 536870911))) (aCons (eC (.int 4294967296)) aNil)))))))))) (gN 15) (sIf (tNotM (toT (eCall f_law_refused_number [] (aCons (eVar 15) aNil)))) (sRet (eC (.bl false))) sNil))
abbrev u17 : MS := (sSet 16 (eTup (aCons (eB fTuple (aCons (eSl (eVar 2) oNo (oYes (eC (.int 18)))) aNil)) (aCons (eB fTuple (aCons (eSl (eVar 2) (oYes (eC (.int 18))) (oYes (eC (.int 27)))) aNil)) (aCons (eB fTuple (aCons (eSl (eVar 2) (oYes (eC (.int 27))) oNo) aNil)) aNil)))))
abbrev u18 : MS := (sIf (tNotM (toT (eCall f_law_equal [] (aCons (eTup (aCons (eC w_CODE_RULES) (aCons (eC w_VALUE_RULES) (aCons (eC w_POLL_RULES) aNil)))) (aCons (eVar 16) aNil))))) (sRet (eC (.bl false))) sNil)
abbrev scD (ns : List Int) : D := .nd .fz .rol (intL ns)
abbrev S (ns : List Int) (z1 z2 z3 z4 z5 z6 z7 z8 z9 z10 z11 z12 z13 z14 z15 z16 : Option V) : Ls := [dv (scD ns), z1, z2, z3, z4, z5, z6, z7, z8, z9, z10, z11, z12, z13, z14, z15, z16]
theorem S_ok {ns : List Int} {z1 z2 z3 z4 z5 z6 z7 z8 z9 z10 z11 z12 z13 z14 z15 z16 : Option V} (h1 : okA1 z1) (h2 : okA1 z2) (h3 : okA1 z3) (h4 : okA1 z4) (h5 : okA1 z5) (h6 : okA1 z6) (h7 : okA1 z7) (h8 : okA1 z8) (h9 : okA1 z9) (h10 : okA1 z10) (h11 : okA1 z11) (h12 : okA1 z12) (h13 : okA1 z13) (h14 : okA1 z14) (h15 : okA1 z15) (h16 : okA1 z16) : okL (S ns z1 z2 z3 z4 z5 z6 z7 z8 z9 z10 z11 z12 z13 z14 z15 z16) :=
  okL_cons okAv (okL_cons h1 (okL_cons h2 (okL_cons h3 (okL_cons h4 (okL_cons h5 (okL_cons h6 (okL_cons h7 (okL_cons h8 (okL_cons h9 (okL_cons h10 (okL_cons h11 (okL_cons h12 (okL_cons h13 (okL_cons h14 (okL_cons h15 (okL_cons h16 okL_nil))))))))))))))))
def RUk (k : Nat) : M.Nm := RU.getD k []
theorem RU_map : (List.range 29).map RUk = RU := by decide +kernel
theorem RU_get {k : Nat} (h : k < 29) : RU[k]? = some (RUk k) := by
  have : k < RU.length := by rw [RU_len]; exact h
  unfold RUk
  rw [List.getD_eq_getElem?_getD, List.getElem?_eq_getElem this]; rfl
def names0 (p : Nat → Bool) : List M.Nm := ((List.range 29).filter p).map RUk
theorem names0_sub (p : Nat → Bool) : (names0 p).Sublist RU := by
  rw [← RU_map]
  exact List.filter_sublist.map _
theorem names0_e (p : Nat → Bool) : ((List.range 29).filter p).map (fun k => D.str (RUk k)) = strL (names0 p) := by unfold strL names0; rw [List.map_map]; rfl
theorem rg29 : (List.range 29).map di = rngD 0 ((29 : Nat) : Int) := (rng0 29).symm
theorem mod_of {ls : Ls} {a b : PE} {x m : Int} (ha : a ls [] = .ok (.v (.int x)) ls []) (hb : b ls [] = .ok (.v (.int m)) ls []) (hm : 0 < m) : eOp gMod a b ls [] = .ok (.v (.int (x % m))) ls [] := op_of ha hb (gMod_int hm)
theorem fint {ls : Ls} {e : PE} {x : Int} (he : e ls [] = .ok (.v (.int x)) ls []) : (eB fInt (aCons e aNil)) ls [] = .ok (.v (.int x)) ls [] := by
  rw [eB_ap, aCons_ap, he, bind_ok, aNil_ap, bind_ok, bind_ok]; rfl
theorem dig_of {ds : List Int} {ls : Ls} {e0 e : PE} {a : Nat} {v : Int} (h0 : e0 ls [] = .ok (.v (inD' ds)) ls []) (he : e ls [] = .ok (.v (.int v)) ls []) (hv : v = (a : Int)) : (eCall f_law_digit [] (aCons e0 (aCons e aNil))) ls [] = .ok (.v (.int (dg ds a))) ls [] := by
  subst hv
  exact call_of (xs := [.v (inD' ds), .v (.int (a : Int))]) (ds := [inD' ds, .int (a : Int)]) (dws := []) (ios := []) (args2 h0 he) rfl (digit_ok a)
abbrev pr (N : List M.Nm) : D := .tup [polD .fz N, .nd .fz .lst (strL N)]
theorem tup_of {ls : Ls} {a b : PE} {x y d e : D} (ha : a ls [] = .ok (.v x) ls []) (hb : b ls [] = .ok (.v y) ls []) (hx : D.frz x = some d) (hy : D.frz y = some e) : (eTup (aCons a (aCons b aNil))) ls [] = .ok (.v (.tup [d, e])) ls [] := by
  unfold eTup
  rw [args2 ha hb, bind_ok]
  have c1 : cvR false (.v x) ls [] = some (d, ls, []) := by show (D.frz x).map _ = _; rw [hx]; rfl
  have c2 : cvR false (.v y) ls [] = some (e, ls, []) := by show (D.frz y).map _ = _; rw [hy]; rfl
  simp [cvL, c1, c2]
  decide
theorem pol_fz {N : List M.Nm} : D.frz (polD .fz N) = some (polD .fz N) := rfl
theorem lst_fz {N : List D} : D.frz (.nd .fz .lst N) = some (.nd .fz .lst N) := rfl
abbrev pB : MS := (sSeq (sIf (tNotM (toT (eCall f_law_equal [] (aCons (eCall f_policy_number [] (aCons (eOp gIx (eVar 12) (eC (.int 0))) aNil)) (aCons (eCall f_law_number [] (aCons (eOp gIx (eVar 12) (eC (.int 1))) aNil)) aNil))))) (sRet (eC (.bl false))) sNil) (sIf (tNotM (toT (eCall f_law_equal [] (aCons (eFld tab n_names (eCall f_policy_numbered [] (aCons (eCall f_law_number [] (aCons (eOp gIx (eVar 12) (eC (.int 1))) aNil)) aNil))) (aCons (eB fTuple (aCons (eOp gIx (eVar 12) (eC (.int 1))) aNil)) aNil))))) (sRet (eC (.bl false))) sNil))
section
variable {ns : List Int} {z1 z2 z3 z4 z5 z6 z7 z8 z9 z10 z11 z12 z13 z14 z15 z16 : Option V}
theorem pair_turn {N : List M.Nm} (hN : N.Sublist RU) : pB (S ns z1 z2 z3 z4 z5 z6 z7 z8 z9 z10 z11 (dv (pr N)) z13 z14 z15 z16) [] = .nx (S ns z1 z2 z3 z4 z5 z6 z7 z8 z9 z10 z11 (dv (pr N)) z13 z14 z15 z16) [] := by
  have hl := hN.length_le
  rw [RU_len] at hl
  have x0 : (eOp gIx (eVar 12) (eC (.int 0))) (S ns z1 z2 z3 z4 z5 z6 z7 z8 z9 z10 z11 (dv (pr N)) z13 z14 z15 z16) [] = .ok (.v (polD .fz N)) (S ns z1 z2 z3 z4 z5 z6 z7 z8 z9 z10 z11 (dv (pr N)) z13 z14 z15 z16) [] := op_of (x := .v (pr N)) (y := .v (.int 0)) rfl rfl (gIx_tup (i := 0) rfl rfl)
  have x1 : (eOp gIx (eVar 12) (eC (.int 1))) (S ns z1 z2 z3 z4 z5 z6 z7 z8 z9 z10 z11 (dv (pr N)) z13 z14 z15 z16) [] = .ok (.v (.nd .fz .lst (strL N))) (S ns z1 z2 z3 z4 z5 z6 z7 z8 z9 z10 z11 (dv (pr N)) z13 z14 z15 z16) [] := op_of (x := .v (pr N)) (y := .v (.int 1)) rfl rfl (gIx_tup (i := 1) rfl rfl)
  have n0 : (eCall f_policy_number [] (aCons (eOp gIx (eVar 12) (eC (.int 0))) aNil)) (S ns z1 z2 z3 z4 z5 z6 z7 z8 z9 z10 z11 (dv (pr N)) z13 z14 z15 z16) [] = .ok (.v (.int (num N))) (S ns z1 z2 z3 z4 z5 z6 z7 z8 z9 z10 z11 (dv (pr N)) z13 z14 z15 z16) [] :=
    call_of (xs := [.v (polD .fz N)]) (ds := [polD .fz N]) (dws := []) (ios := []) (by rw [aCons_ap, x0, bind_ok]; rfl) rfl pnum_ok
  have n1 : (eCall f_law_number [] (aCons (eOp gIx (eVar 12) (eC (.int 1))) aNil)) (S ns z1 z2 z3 z4 z5 z6 z7 z8 z9 z10 z11 (dv (pr N)) z13 z14 z15 z16) [] = .ok (.v (.int (num N))) (S ns z1 z2 z3 z4 z5 z6 z7 z8 z9 z10 z11 (dv (pr N)) z13 z14 z15 z16) [] :=
    call_of (xs := [.v (.nd .fz .lst (strL N))]) (ds := [.nd .fz .lst (strL N)]) (dws := []) (ios := []) (by rw [aCons_ap, x1, bind_ok]; rfl) rfl lnum_ok
  have q1 := call_of (fn := f_law_equal) (xs := [.v (.int (num N)), .v (.int (num N))]) (ds := [.int (num N), .int (num N)]) (dws := []) (ios := []) (args2 n0 n1) rfl (eq_int (num N))
  obtain ⟨r0, r1⟩ := num_rng N
  have pb : (eCall f_policy_numbered [] (aCons (eCall f_law_number [] (aCons (eOp gIx (eVar 12) (eC (.int 1))) aNil)) aNil)) (S ns z1 z2 z3 z4 z5 z6 z7 z8 z9 z10 z11 (dv (pr N)) z13 z14 z15 z16) [] = .ok (.v (polD .ow N)) (S ns z1 z2 z3 z4 z5 z6 z7 z8 z9 z10 z11 (dv (pr N)) z13 z14 z15 z16) [] := by
    have h := pnbd_ok r0 r1
    rw [chR_num hN] at h
    exact call_of (xs := [.v (.int (num N))]) (ds := [.int (num N)]) (dws := []) (ios := []) (by rw [aCons_ap, n1, bind_ok]; rfl) rfl h
  have fd : (eFld tab n_names (eCall f_policy_numbered [] (aCons (eCall f_law_number [] (aCons (eOp gIx (eVar 12) (eC (.int 1))) aNil)) aNil))) (S ns z1 z2 z3 z4 z5 z6 z7 z8 z9 z10 z11 (dv (pr N)) z13 z14 z15 z16) [] = .ok (.v (.tup (strL N))) (S ns z1 z2 z3 z4 z5 z6 z7 z8 z9 z10 z11 (dv (pr N)) z13 z14 z15 z16) [] := by
    unfold eFld e1
    rw [pb, bind_ok]
    rfl
  have tu : (eB fTuple (aCons (eOp gIx (eVar 12) (eC (.int 1))) aNil)) (S ns z1 z2 z3 z4 z5 z6 z7 z8 z9 z10 z11 (dv (pr N)) z13 z14 z15 z16) [] = .ok (.v (.tup (strL N))) (S ns z1 z2 z3 z4 z5 z6 z7 z8 z9 z10 z11 (dv (pr N)) z13 z14 z15 z16) [] := by
    rw [eB_ap, aCons_ap, x1, bind_ok, aNil_ap, bind_ok, bind_ok]
    show (match shrK (.v (.nd .fz .lst (strL N))) (strL N) with
      | some ys => Out.ok (RV.v (.tup ys)) _ []
      | none => .bad) = _
    rw [shrK_s (strs_shr N)]
  have q2 := call_of (fn := f_law_equal) (xs := [.v (.tup (strL N)), .v (.tup (strL N))]) (ds := [.tup (strL N), .tup (strL N)]) (dws := []) (ios := []) (args2 fd tu) rfl (eq_tupF (N := N) (fun x hx => RU_s x (hN.subset hx)) (by omega))
  exact (seq_of (if_no2 (not_of (k := true) (toT_of q1)))).trans (if_no2 (not_of (k := true) (toT_of q2)))
theorem pair_loop (h1 : okA1 z1) (h2 : okA1 z2) (h3 : okA1 z3) (h4 : okA1 z4) (h5 : okA1 z5) (h6 : okA1 z6) (h7 : okA1 z7) (h8 : okA1 z8) (h9 : okA1 z9) (h10 : okA1 z10) (h11 : okA1 z11) (h13 : okA1 z13) (h14 : okA1 z14) (h15 : okA1 z15) (h16 : okA1 z16) : ∀ (l : List (List M.Nm)) (z12 : Option V), okA1 z12 → (∀ N ∈ l, N.Sublist RU) → ∃ y, okA1 y ∧ forV (gN 12) pB (l.map pr) (S ns z1 z2 z3 z4 z5 z6 z7 z8 z9 z10 z11 z12 z13 z14 z15 z16) [] = .nx (S ns z1 z2 z3 z4 z5 z6 z7 z8 z9 z10 z11 y z13 z14 z15 z16) []
  | [], z, h, _ => ⟨z, h, rfl⟩
  | N :: l, z, h, hN => by
    obtain ⟨y, hy, e⟩ := pair_loop h1 h2 h3 h4 h5 h6 h7 h8 h9 h10 h11 h13 h14 h15 h16 l (dv (pr N)) okAv fun M hM => hN M (List.mem_cons_of_mem _ hM)
    refine ⟨y, hy, ?_⟩
    have hg : gN 12 (.v (pr N)) (S ns z1 z2 z3 z4 z5 z6 z7 z8 z9 z10 z11 z z13 z14 z15 z16) [] = some (S ns z1 z2 z3 z4 z5 z6 z7 z8 z9 z10 z11 (dv (pr N)) z13 z14 z15 z16, []) := gN_ok (S_ok h1 h2 h3 h4 h5 h6 h7 h8 h9 h10 h11 h h13 h14 h15 h16) (by show 12 < 17; decide)
    rw [List.map_cons, forV_cons hg]
    dsimp only
    rw [pair_turn (hN N List.mem_cons_self), loopK_nx]
    exact e
abbrev vB : MS := (sSet 6 (eOp gAdd (eOp gMul (eC (.int 16)) (eVar 6)) (eCall f_law_digit [] (aCons (eVar 1) (aCons (eOp gAdd (eC (.int 58)) (eVar 4)) aNil)))))
theorem v_loop {ds : List Int} (h2 : okA1 z2) (h3 : okA1 z3) (h5 : okA1 z5) (h7 : okA1 z7) (h8 : okA1 z8) (h9 : okA1 z9) (h10 : okA1 z10) (h11 : okA1 z11) (h12 : okA1 z12) (h13 : okA1 z13) (h14 : okA1 z14) (h15 : okA1 z15) (h16 : okA1 z16) : ∀ (l : List Nat) (v : Int) (z4 : Option V), okA1 z4 → ∃ v' y, okA1 y ∧ forV (gN 4) vB (l.map di) (S ns (dv (inD' ds)) z2 z3 z4 z5 (dv (.int v)) z7 z8 z9 z10 z11 z12 z13 z14 z15 z16) [] = .nx (S ns (dv (inD' ds)) z2 z3 y z5 (dv (.int v')) z7 z8 z9 z10 z11 z12 z13 z14 z15 z16) []
  | [], v, z, h => ⟨v, z, h, rfl⟩
  | k :: l, v, z, h => by
    obtain ⟨v', y, hy, e⟩ := v_loop (ds := ds) h2 h3 h5 h7 h8 h9 h10 h11 h12 h13 h14 h15 h16 l (16 * v + dg ds (58 + k)) (dv (di k)) okAv
    refine ⟨v', y, hy, ?_⟩
    have hg : gN 4 (.v (di k)) (S ns (dv (inD' ds)) z2 z3 z z5 (dv (.int v)) z7 z8 z9 z10 z11 z12 z13 z14 z15 z16) [] = some (S ns (dv (inD' ds)) z2 z3 (dv (di k)) z5 (dv (.int v)) z7 z8 z9 z10 z11 z12 z13 z14 z15 z16, []) := gN_ok (S_ok okAv h2 h3 h h5 okAv h7 h8 h9 h10 h11 h12 h13 h14 h15 h16) (by show 4 < 17; decide)
    rw [List.map_cons, forV_cons hg]
    dsimp only
    have d := dig_of (ds := ds) (ls := S ns (dv (inD' ds)) z2 z3 (dv (di k)) z5 (dv (.int v)) z7 z8 z9 z10 z11 z12 z13 z14 z15 z16) (e0 := eVar 1) (e := eOp gAdd (eC (.int 58)) (eVar 4)) (a := 58 + k) (v := 58 + (k : Int)) rfl rfl (by omega)
    have m : vB (S ns (dv (inD' ds)) z2 z3 (dv (di k)) z5 (dv (.int v)) z7 z8 z9 z10 z11 z12 z13 z14 z15 z16) [] = .nx (S ns (dv (inD' ds)) z2 z3 (dv (di k)) z5 (dv (.int (16 * v + dg ds (58 + k)))) z7 z8 z9 z10 z11 z12 z13 z14 z15 z16) [] :=
      sSet_ok (i := 6) (op_of (x := .v (.int (16 * v))) (op_of (x := .v (.int 16)) (y := .v (.int v)) rfl rfl (gMul_int (.inl rfl))) d rfl) (S_ok okAv h2 h3 okAv h5 okAv h7 h8 h9 h10 h11 h12 h13 h14 h15 h16) (by show 6 < 17; decide)
    rw [m, loopK_nx]
    exact e
abbrev wB : MS := (sSeq (sExpr (eMt kList mAppend (eVar 13) (aCons (eVar 14) aNil))) (sSet 14 (eOp gMul (eC (.int 2)) (eVar 14))))
theorem w_loop (h1 : okA1 z1) (h2 : okA1 z2) (h3 : okA1 z3) (h5 : okA1 z5) (h6 : okA1 z6) (h7 : okA1 z7) (h8 : okA1 z8) (h9 : okA1 z9) (h10 : okA1 z10) (h11 : okA1 z11) (h12 : okA1 z12) (h15 : okA1 z15) (h16 : okA1 z16) : ∀ (l : List Nat) (i : Nat) (L : List Int) (z4 : Option V), okA1 z4 → L.length + l.length < 1000 → ∃ y y2, okA1 y ∧ okA1 y2 ∧ forV (gN 4) wB (l.map di) (S ns z1 z2 z3 z4 z5 z6 z7 z8 z9 z10 z11 z12 (dv (.nd .ow .lst (intL L))) (dv (.int ((2 : Int) ^ i))) z15 z16) [] = .nx (S ns z1 z2 z3 y z5 z6 z7 z8 z9 z10 z11 z12 (dv (.nd .ow .lst (intL (L ++ (List.range' i l.length).map fun j => (2 : Int) ^ j)))) y2 z15 z16) []
  | [], i, L, z, h, _ => ⟨z, dv (.int ((2 : Int) ^ i)), h, okAv, by simp only [List.length_nil, List.range'_zero, List.map_nil, List.append_nil]; rfl⟩
  | k :: l, i, L, z, h, hl => by
    rw [List.length_cons] at hl
    obtain ⟨y, y2, hy, hy2, e⟩ := w_loop h1 h2 h3 h5 h6 h7 h8 h9 h10 h11 h12 h15 h16 l (i + 1) (L ++ [(2 : Int) ^ i]) (dv (di k)) okAv (by rw [List.length_append, List.length_singleton]; omega)
    refine ⟨y, y2, hy, hy2, ?_⟩
    have hg : gN 4 (.v (di k)) (S ns z1 z2 z3 z z5 z6 z7 z8 z9 z10 z11 z12 (dv (.nd .ow .lst (intL L))) (dv (.int ((2 : Int) ^ i))) z15 z16) [] = some (S ns z1 z2 z3 (dv (di k)) z5 z6 z7 z8 z9 z10 z11 z12 (dv (.nd .ow .lst (intL L))) (dv (.int ((2 : Int) ^ i))) z15 z16, []) := gN_ok (S_ok h1 h2 h3 h h5 h6 h7 h8 h9 h10 h11 h12 okAv okAv h15 h16) (by show 4 < 17; decide)
    rw [List.map_cons, forV_cons hg]
    dsimp only
    have a : (sExpr (eMt kList mAppend (eVar 13) (aCons (eVar 14) aNil))) (S ns z1 z2 z3 (dv (di k)) z5 z6 z7 z8 z9 z10 z11 z12 (dv (.nd .ow .lst (intL L))) (dv (.int ((2 : Int) ^ i))) z15 z16) [] = .nx (S ns z1 z2 z3 (dv (di k)) z5 z6 z7 z8 z9 z10 z11 z12 (dv (.nd .ow .lst (intL (L ++ [(2 : Int) ^ i])))) (dv (.int ((2 : Int) ^ i))) z15 z16) [] := by
      have := app_ok' (i := 13) (o := eVar 13) (e := eVar 14) (d := .int ((2 : Int) ^ i)) (ls := S ns z1 z2 z3 (dv (di k)) z5 z6 z7 z8 z9 z10 z11 z12 (dv (.nd .ow .lst (intL L))) (dv (.int ((2 : Int) ^ i))) z15 z16) (ls2 := S ns z1 z2 z3 (dv (di k)) z5 z6 z7 z8 z9 z10 z11 z12 (dv (.nd .ow .lst (intL L))) (dv (.int ((2 : Int) ^ i))) z15 z16) (xs := intL L) rfl rfl (S_ok h1 h2 h3 okAv h5 h6 h7 h8 h9 h10 h11 h12 okAv okAv h15 h16) rfl rfl (by unfold intL; rw [List.length_map]; omega)
      rw [this]
      have q : intL (L ++ [(2 : Int) ^ i]) = intL L ++ [D.int ((2 : Int) ^ i)] := by unfold intL; rw [List.map_append]; rfl
      rw [q]; rfl
    have m : (sSet 14 (eOp gMul (eC (.int 2)) (eVar 14))) (S ns z1 z2 z3 (dv (di k)) z5 z6 z7 z8 z9 z10 z11 z12 (dv (.nd .ow .lst (intL (L ++ [(2 : Int) ^ i])))) (dv (.int ((2 : Int) ^ i))) z15 z16) [] = .nx (S ns z1 z2 z3 (dv (di k)) z5 z6 z7 z8 z9 z10 z11 z12 (dv (.nd .ow .lst (intL (L ++ [(2 : Int) ^ i])))) (dv (.int ((2 : Int) ^ (i + 1)))) z15 z16) [] := by
      have q : (2 : Int) ^ (i + 1) = 2 * (2 : Int) ^ i := by rw [Int.pow_succ, Int.mul_comm]
      rw [q]
      exact sSet_ok (i := 14) (op_of (x := .v (.int 2)) (y := .v (.int ((2 : Int) ^ i))) rfl rfl (gMul_int (.inl rfl))) (S_ok h1 h2 h3 okAv h5 h6 h7 h8 h9 h10 h11 h12 okAv okAv h15 h16) (by show 14 < 17; decide)
    rw [show wB (S ns z1 z2 z3 (dv (di k)) z5 z6 z7 z8 z9 z10 z11 z12 (dv (.nd .ow .lst (intL L))) (dv (.int ((2 : Int) ^ i))) z15 z16) [] = _ from (seq_of a).trans m, loopK_nx, e]
    rw [List.length_cons, List.range'_succ, List.map_cons, List.append_assoc]
    rfl
theorem each_loop {B : MS} {p : Int → Prop} (h1 : okA1 z1) (h2 : okA1 z2) (h3 : okA1 z3) (h4 : okA1 z4) (h5 : okA1 z5) (h6 : okA1 z6) (h7 : okA1 z7) (h8 : okA1 z8) (h9 : okA1 z9) (h10 : okA1 z10) (h11 : okA1 z11) (h12 : okA1 z12) (h13 : okA1 z13) (h14 : okA1 z14) (h16 : okA1 z16)
    (hB : ∀ x, p x → B (S ns z1 z2 z3 z4 z5 z6 z7 z8 z9 z10 z11 z12 z13 z14 (dv (.int x)) z16) [] = .nx (S ns z1 z2 z3 z4 z5 z6 z7 z8 z9 z10 z11 z12 z13 z14 (dv (.int x)) z16) []) : ∀ (l : List Int) (z15 : Option V), okA1 z15 → (∀ x ∈ l, p x) → ∃ y, okA1 y ∧ forV (gN 15) B (intL l) (S ns z1 z2 z3 z4 z5 z6 z7 z8 z9 z10 z11 z12 z13 z14 z15 z16) [] = .nx (S ns z1 z2 z3 z4 z5 z6 z7 z8 z9 z10 z11 z12 z13 z14 y z16) []
  | [], z, h, _ => ⟨z, h, rfl⟩
  | x :: l, z, h, hx => by
    obtain ⟨y, hy, e⟩ := each_loop h1 h2 h3 h4 h5 h6 h7 h8 h9 h10 h11 h12 h13 h14 h16 hB l (dv (.int x)) okAv fun x hx' => hx x (List.mem_cons_of_mem _ hx')
    refine ⟨y, hy, ?_⟩
    have hg : gN 15 (.v (.int x)) (S ns z1 z2 z3 z4 z5 z6 z7 z8 z9 z10 z11 z12 z13 z14 z z16) [] = some (S ns z1 z2 z3 z4 z5 z6 z7 z8 z9 z10 z11 z12 z13 z14 (dv (.int x)) z16, []) := gN_ok (S_ok h1 h2 h3 h4 h5 h6 h7 h8 h9 h10 h11 h12 h13 h14 h h16) (by show 15 < 17; decide)
    show forV (gN 15) B (D.int x :: intL l) _ [] = _
    rw [forV_cons hg]
    dsimp only
    rw [hB x (hx x List.mem_cons_self), loopK_nx]
    exact e
abbrev bothB : MS := (sIf (tNotM (toT (eCall f_law_both [] (aCons (eVar 15) aNil)))) (sRet (eC (.bl false))) sNil)
abbrev refB : MS := (sIf (tNotM (toT (eCall f_law_refused_number [] (aCons (eVar 15) aNil)))) (sRet (eC (.bl false))) sNil)
theorem both_turn {x : Int} (h : 0 ≤ x ∧ x ≤ 536870911) : bothB (S ns z1 z2 z3 z4 z5 z6 z7 z8 z9 z10 z11 z12 z13 z14 (dv (.int x)) z16) [] = .nx (S ns z1 z2 z3 z4 z5 z6 z7 z8 z9 z10 z11 z12 z13 z14 (dv (.int x)) z16) [] :=
  if_no2 (not_of (k := true) (toT_of (call_of (xs := [.v (.int x)]) (ds := [.int x]) (dws := []) (ios := []) rfl rfl (both_ok h.1 h.2))))
theorem ref_turn {x : Int} (h : x < 0 ∨ 536870911 < x) : refB (S ns z1 z2 z3 z4 z5 z6 z7 z8 z9 z10 z11 z12 z13 z14 (dv (.int x)) z16) [] = .nx (S ns z1 z2 z3 z4 z5 z6 z7 z8 z9 z10 z11 z12 z13 z14 (dv (.int x)) z16) [] :=
  if_no2 (not_of (k := true) (toT_of (call_of (xs := [.v (.int x)]) (ds := [.int x]) (dws := []) (ios := []) rfl rfl (refn_ok h))))
end
theorem pow_ok : ∀ x ∈ (List.range' 0 29).map (fun j => (2 : Int) ^ j), 0 ≤ x ∧ x ≤ 536870911 := by decide +kernel
theorem law_ok (ns : List Int) : f_law [.v (.nd .fz .rol (intL ns))] [] = .ok (.bl true) [] := by
  obtain ⟨ds, hrow, hd⟩ := row_ok (ns := ns) (most := 66) (by decide)
  refine fnOf_rt (gh := []) rfl ?_ rfl
  show m_law (S ns none none none none none none none none none none none none none none none none) [] = _
  have r0 : u0 (S ns none none none none none none none none none none none none none none none none) [] = .nx (S ns (dv (inD' ds)) none none none none none none none none none none none none none none none) [] :=
    sSetOk (fz_of (call_of (xs := [.v (scD ns), .v (.int 66)]) (ds := [scD ns, .int 66]) (dws := []) (ios := []) rfl rfl hrow) (frz_lst (frzs_shr intL_shr))) rfl
  have r1 : u1 (S ns (dv (inD' ds)) none none none none none none none none none none none none none none none) [] = .nx (S ns (dv (inD' ds)) (fl RU) none none none none none none none none none none none none none none) [] := sSetOk (fzl_of (call_of (xs := []) (ds := []) (dws := []) (ios := []) rfl rfl rules_ok)) rfl
  have c2 := lc_ok (j := 4) (it := (iR1 (eC (.int 29)))) (tt := (toT (eOp gEq (eOp gMod (eB fInt (aCons (eOp gAdd (eCall f_law_digit [] (aCons (eVar 1) (aCons (eVar 4) aNil))) (eOp gDiv (eVar 4) (eC (.int 2)))) aNil)) (eC (.int 2))) (eC (.int 1))))) (te := (eOp gIx (eVar 2) (eVar 4))) (ls := (S ns (dv (inD' ds)) (fl RU) none none none none none none none none none none none none none none)) (z := none) di (fun k => D.str (RUk k)) (fun k => decide ((dg ds k + (k : Int) / 2) % 2 = 1)) (List.range 29) (S_ok okAv okAv okAn okAn okAn okAn okAn okAn okAn okAn okAn okAn okAn okAn okAn okAn) rfl rfl (by
      rw [rg29]; exact iR1_of (n := 29) rfl (by decide)) (by rw [List.length_range]; decide) (fun k hk => by
      have hk := List.mem_range.mp hk
      have d := dig_of (ds := ds) (ls := (S ns (dv (inD' ds)) (fl RU) none (dv (di k)) none none none none none none none none none none none none)) (e0 := eVar 1) (e := eVar 4) (a := k) (v := (k : Int)) rfl rfl rfl
      refine ⟨toT_of (op_of (g := gEq) (y := .v (.int 1)) (mod_of (b := eC (.int 2)) (m := 2) (fint (op_of (g := gAdd) (y := .v (.int ((k : Int) / 2))) d (op_of (x := .v (di k)) (y := .v (.int 2)) rfl rfl (gDiv_int (by decide) (by decide))) rfl)) rfl (by decide)) rfl rfl), ?_⟩
      exact op_of (x := .v (.nd .fz .lst (strL RU))) (y := .v (di k)) rfl rfl (gIx_lst (i := k) (by unfold strL; rw [List.getElem?_map, RU_get hk]; rfl) rfl))
  rw [names0_e] at c2
  have hN := names0_sub (fun k => decide ((dg ds k + (k : Int) / 2) % 2 = 1))
  generalize names0 (fun k => decide ((dg ds k + (k : Int) / 2) % 2 = 1)) = N at c2 hN
  have r2 : u2 (S ns (dv (inD' ds)) (fl RU) none none none none none none none none none none none none none none) [] = .nx (S ns (dv (inD' ds)) (fl RU) (fl N) none none none none none none none none none none none none none) [] := sSetOk (fzl_of c2) rfl
  have c3 := lc_ok (j := 4) (it := (iR1 (eC (.int 29)))) (tt := (toT (eOp gEq (eOp gMod (eB fInt (aCons (eOp gAdd (eCall f_law_digit [] (aCons (eVar 1) (aCons (eOp gAdd (eC (.int 29)) (eVar 4)) aNil))) (eVar 4)) aNil)) (eC (.int 3))) (eC (.int 0))))) (te := (eOp gIx (eVar 2) (eVar 4))) (ls := (S ns (dv (inD' ds)) (fl RU) (fl N) none none none none none none none none none none none none none)) (z := none) di (fun k => D.str (RUk k)) (fun k => decide ((dg ds (29 + k) + (k : Int)) % 3 = 0)) (List.range 29) (S_ok okAv okAv okAv okAn okAn okAn okAn okAn okAn okAn okAn okAn okAn okAn okAn okAn) rfl rfl (by
      rw [rg29]; exact iR1_of (n := 29) rfl (by decide)) (by rw [List.length_range]; decide) (fun k hk => by
      have hk := List.mem_range.mp hk
      have d := dig_of (ds := ds) (ls := (S ns (dv (inD' ds)) (fl RU) (fl N) (dv (di k)) none none none none none none none none none none none none)) (e0 := eVar 1) (e := eOp gAdd (eC (.int 29)) (eVar 4)) (a := 29 + k) (v := 29 + (k : Int)) rfl rfl (by omega)
      refine ⟨toT_of (op_of (g := gEq) (y := .v (.int 0)) (mod_of (b := eC (.int 3)) (m := 3) (fint (op_of (g := gAdd) (y := .v (di k)) d rfl rfl)) rfl (by decide)) rfl rfl), ?_⟩
      exact op_of (x := .v (.nd .fz .lst (strL RU))) (y := .v (di k)) rfl rfl (gIx_lst (i := k) (by unfold strL; rw [List.getElem?_map, RU_get hk]; rfl) rfl))
  rw [names0_e] at c3
  have hQ := names0_sub (fun k => decide ((dg ds (29 + k) + (k : Int)) % 3 = 0))
  generalize names0 (fun k => decide ((dg ds (29 + k) + (k : Int)) % 3 = 0)) = Q at c3 hQ
  have r3 : u3 (S ns (dv (inD' ds)) (fl RU) (fl N) none none none none none none none none none none none none none) [] = .nx (S ns (dv (inD' ds)) (fl RU) (fl N) none (fl Q) none none none none none none none none none none none) [] := sSetOk (fzl_of c3) rfl
  have r4 : u4 (S ns (dv (inD' ds)) (fl RU) (fl N) none (fl Q) none none none none none none none none none none none) [] = .nx (S ns (dv (inD' ds)) (fl RU) (fl N) none (fl Q) (dv (.int 0)) none none none none none none none none none none) [] := sSetOk (x := .v (.int 0)) rfl rfl
  obtain ⟨v0, y4, hy4, l5⟩ := v_loop (ns := ns) (ds := ds) (z2 := fl RU) (z3 := fl N) (z5 := fl Q) okAv okAv okAv okAn okAn okAn okAn okAn okAn okAn okAn okAn okAn (List.range 8) 0 none okAn
  have r5 : u5 (S ns (dv (inD' ds)) (fl RU) (fl N) none (fl Q) (dv (.int 0)) none none none none none none none none none none) [] = .nx (S ns (dv (inD' ds)) (fl RU) (fl N) y4 (fl Q) (dv (.int v0)) none none none none none none none none none none) [] := by
    have it : iR1 (eC (.int 8)) (S ns (dv (inD' ds)) (fl RU) (fl N) none (fl Q) (dv (.int 0)) none none none none none none none none none none) [] = .ok ((List.range 8).map di) (S ns (dv (inD' ds)) (fl RU) (fl N) none (fl Q) (dv (.int 0)) none none none none none none none none none none) [] := by
      rw [show (List.range 8).map di = rngD 0 ((8 : Nat) : Int) from (rng0 8).symm]; exact iR1_of (n := 8) rfl (by decide)
    exact (sFor_of it).trans l5
  have r6 : u6 (S ns (dv (inD' ds)) (fl RU) (fl N) y4 (fl Q) (dv (.int v0)) none none none none none none none none none none) [] = .nx (S ns (dv (inD' ds)) (fl RU) (fl N) y4 (fl Q) (dv (.int ((v0 + 305419896) % 536870912))) none none none none none none none none none none) [] :=
    sSet_ok (i := 6) (mod_of (b := eC (.int 536870912)) (m := 536870912) (fint (op_of (g := gAdd) (x := .v (.int v0)) (y := .v (.int 305419896)) rfl rfl rfl)) rfl (by decide)) (S_ok okAv okAv okAv hy4 okAv okAv okAn okAn okAn okAn okAn okAn okAn okAn okAn okAn) (by show 6 < 17; decide)
  have v1 : 0 ≤ (v0 + 305419896) % 536870912 := Int.emod_nonneg _ (by decide)
  have v2 : (v0 + 305419896) % 536870912 < 536870912 := Int.emod_lt_of_pos _ (by decide)
  generalize (v0 + 305419896) % 536870912 = v at r6 v1 v2
  have r7 : u7 (S ns (dv (inD' ds)) (fl RU) (fl N) y4 (fl Q) (dv (.int v)) none none none none none none none none none none) [] = .nx (S ns (dv (inD' ds)) (fl RU) (fl N) y4 (fl Q) (dv (.int v)) (fp N) none none none none none none none none none) [] := sSet_ok (i := 7) (fz_of (x := polD .ow N) (make_o hN (.inl rfl)) pol_frz) (S_ok okAv okAv okAv hy4 okAv okAv okAn okAn okAn okAn okAn okAn okAn okAn okAn okAn) (by show 7 < 17; decide)
  have r8 : u8 (S ns (dv (inD' ds)) (fl RU) (fl N) y4 (fl Q) (dv (.int v)) (fp N) none none none none none none none none none) [] = .nx (S ns (dv (inD' ds)) (fl RU) (fl N) y4 (fl Q) (dv (.int v)) (fp N) (fp Q) none none none none none none none none) [] := sSet_ok (i := 8) (fz_of (x := polD .ow Q) (make_o hQ (.inl rfl)) pol_frz) (S_ok okAv okAv okAv hy4 okAv okAv okAv okAn okAn okAn okAn okAn okAn okAn okAn okAn) (by show 8 < 17; decide)
  have hl := hN.length_le
  rw [RU_len] at hl
  have c9 := lc_ok (j := 10) (it := (iSeq (eVar 2))) (tt := (tOrM (toT (eOp (inM false) (eVar 10) (eVar 3))) (toT (eOp (inM false) (eVar 10) (eVar 5))))) (te := (eVar 10)) (ls := (S ns (dv (inD' ds)) (fl RU) (fl N) y4 (fl Q) (dv (.int v)) (fp N) (fp Q) none none none none none none none none)) (z := none) D.str D.str (fun a => decide (a ∈ N) || decide (a ∈ Q)) RU (S_ok okAv okAv okAv hy4 okAv okAv okAv okAv okAn okAn okAn okAn okAn okAn okAn okAn) rfl rfl (iSeq_of (d := .nd .fz .lst (strL RU)) (k := .lst) rfl rfl rfl) (by rw [RU_len]; decide) (fun a _ => ⟨by
      have t1 := toT_of (op_of (g := inM false) (a := eVar 10) (b := eVar 3) (ls := (S ns (dv (inD' ds)) (fl RU) (fl N) y4 (fl Q) (dv (.int v)) (fp N) (fp Q) none (dv (.str a)) none none none none none none)) (gh := []) (x := .v (.str a)) (y := .v (.nd .fz .lst (strL N))) rfl rfl (inM_tup (k := .lst) (f := N) rfl))
      have t2 := toT_of (op_of (g := inM false) (a := eVar 10) (b := eVar 5) (ls := (S ns (dv (inD' ds)) (fl RU) (fl N) y4 (fl Q) (dv (.int v)) (fp N) (fp Q) none (dv (.str a)) none none none none none none)) (gh := []) (x := .v (.str a)) (y := .v (.nd .fz .lst (strL Q))) rfl rfl (inM_tup (k := .lst) (f := Q) rfl))
      rw [if_neg (by decide)] at t1 t2
      show _ = Out.ok _ (S ns (dv (inD' ds)) (fl RU) (fl N) y4 (fl Q) (dv (.int v)) (fp N) (fp Q) none (dv (.str a)) none none none none none none) []
      cases e : decide (a ∈ N) with
      | true => rw [e] at t1; exact or_yes t1
      | false => rw [e] at t1; rw [Bool.false_or]; exact or_go t1 t2, rfl⟩)
  have r9 : u9 (S ns (dv (inD' ds)) (fl RU) (fl N) y4 (fl Q) (dv (.int v)) (fp N) (fp Q) none none none none none none none none) [] = .nx (S ns (dv (inD' ds)) (fl RU) (fl N) y4 (fl Q) (dv (.int v)) (fp N) (fp Q) (fl (orN N Q)) none none none none none none none) [] := sSet_ok (i := 9) (fzl_of (N := orN N Q) c9) (S_ok okAv okAv okAv hy4 okAv okAv okAv okAv okAn okAn okAn okAn okAn okAn okAn okAn) (by show 9 < 17; decide)
  have c10 := lc_ok (j := 10) (it := (iSeq (eVar 3))) (tt := (toT (eOp (inM true) (eVar 10) (eVar 5)))) (te := (eVar 10)) (ls := (S ns (dv (inD' ds)) (fl RU) (fl N) y4 (fl Q) (dv (.int v)) (fp N) (fp Q) (fl (orN N Q)) none none none none none none none)) (z := none) D.str D.str (fun a => !decide (a ∈ Q)) N (S_ok okAv okAv okAv hy4 okAv okAv okAv okAv okAv okAn okAn okAn okAn okAn okAn okAn) rfl rfl (iSeq_of (d := .nd .fz .lst (strL N)) (k := .lst) rfl rfl rfl) (by omega) (fun a _ =>
      ⟨toT_of (op_of (x := .v (.str a)) (y := .v (.nd .fz .lst (strL Q))) rfl rfl (inM_tup (neg := true) (k := .lst) (f := Q) rfl)), rfl⟩)
  have r10 : u10 (S ns (dv (inD' ds)) (fl RU) (fl N) y4 (fl Q) (dv (.int v)) (fp N) (fp Q) (fl (orN N Q)) none none none none none none none) [] = .nx (S ns (dv (inD' ds)) (fl RU) (fl N) y4 (fl Q) (dv (.int v)) (fp N) (fp Q) (fl (orN N Q)) none (fl (subN N Q)) none none none none none) [] := sSet_ok (i := 11) (fzl_of (N := subN N Q) c10) (S_ok okAv okAv okAv hy4 okAv okAv okAv okAv okAv okAn okAn okAn okAn okAn okAn okAn) (by show 11 < 17; decide)
  have go : (eOp (gOwnB n_Policy f_Policy_or) (eVar 7) (eVar 8)) (S ns (dv (inD' ds)) (fl RU) (fl N) y4 (fl Q) (dv (.int v)) (fp N) (fp Q) (fl (orN N Q)) none (fl (subN N Q)) none none none none none) [] = .ok (.v (polD .ow (orN N Q))) (S ns (dv (inD' ds)) (fl RU) (fl N) y4 (fl Q) (dv (.int v)) (fp N) (fp Q) (fl (orN N Q)) none (fl (subN N Q)) none none none none none) [] := op_of (x := .v (polD .fz N)) (y := .v (polD .fz Q)) rfl rfl (gOwn_of (a := polD .fz N) (b := polD .fz Q) (ds := [polD .fz N, polD .fz Q]) (ios := []) rfl rfl rfl rfl pol_or)
  have gs : (eOp (gOwnB n_Policy f_Policy_sub) (eVar 7) (eVar 8)) (S ns (dv (inD' ds)) (fl RU) (fl N) y4 (fl Q) (dv (.int v)) (fp N) (fp Q) (fl (orN N Q)) none (fl (subN N Q)) none none none none none) [] = .ok (.v (polD .ow (subN N Q))) (S ns (dv (inD' ds)) (fl RU) (fl N) y4 (fl Q) (dv (.int v)) (fp N) (fp Q) (fl (orN N Q)) none (fl (subN N Q)) none none none none none) [] := op_of (x := .v (polD .fz N)) (y := .v (polD .fz Q)) rfl rfl (gOwn_of (a := polD .fz N) (b := polD .fz Q) (ds := [polD .fz N, polD .fz Q]) (ios := []) rfl rfl rfl rfl (pol_sub hN))
  have t1 : (eTup (aCons (eVar 7) (aCons (eVar 3) aNil))) (S ns (dv (inD' ds)) (fl RU) (fl N) y4 (fl Q) (dv (.int v)) (fp N) (fp Q) (fl (orN N Q)) none (fl (subN N Q)) none none none none none) [] = .ok (.v (pr N)) (S ns (dv (inD' ds)) (fl RU) (fl N) y4 (fl Q) (dv (.int v)) (fp N) (fp Q) (fl (orN N Q)) none (fl (subN N Q)) none none none none none) [] := tup_of (x := polD .fz N) (y := .nd .fz .lst (strL N)) rfl rfl pol_fz lst_fz
  have t2 : (eTup (aCons (eVar 8) (aCons (eVar 5) aNil))) (S ns (dv (inD' ds)) (fl RU) (fl N) y4 (fl Q) (dv (.int v)) (fp N) (fp Q) (fl (orN N Q)) none (fl (subN N Q)) none none none none none) [] = .ok (.v (pr Q)) (S ns (dv (inD' ds)) (fl RU) (fl N) y4 (fl Q) (dv (.int v)) (fp N) (fp Q) (fl (orN N Q)) none (fl (subN N Q)) none none none none none) [] := tup_of (x := polD .fz Q) (y := .nd .fz .lst (strL Q)) rfl rfl pol_fz lst_fz
  have t3 := tup_of (b := eVar 9) (y := .nd .fz .lst (strL (orN N Q))) go rfl pol_frz lst_fz
  have t4 := tup_of (b := eVar 11) (y := .nd .fz .lst (strL (subN N Q))) gs rfl pol_frz lst_fz
  have t5 : (eLst (aCons (eTup (aCons (eVar 7) (aCons (eVar 3) aNil))) (aCons (eTup (aCons (eVar 8) (aCons (eVar 5) aNil))) (aCons (eTup (aCons (eOp (gOwnB n_Policy f_Policy_or) (eVar 7) (eVar 8)) (aCons (eVar 9) aNil))) (aCons (eTup (aCons (eOp (gOwnB n_Policy f_Policy_sub) (eVar 7) (eVar 8)) (aCons (eVar 11) aNil))) (aCons (eTup (aCons (eVar 7) (aCons (eVar 3) aNil))) aNil)))))) (S ns (dv (inD' ds)) (fl RU) (fl N) y4 (fl Q) (dv (.int v)) (fp N) (fp Q) (fl (orN N Q)) none (fl (subN N Q)) none none none none none) [] = .ok (.v (.nd .ow .lst ([N, Q, orN N Q, subN N Q, N].map pr))) (S ns (dv (inD' ds)) (fl RU) (fl N) y4 (fl Q) (dv (.int v)) (fp N) (fp Q) (fl (orN N Q)) none (fl (subN N Q)) none none none none none) [] := by
    have a5 : (aCons (eTup (aCons (eVar 7) (aCons (eVar 3) aNil))) (aCons (eTup (aCons (eVar 8) (aCons (eVar 5) aNil))) (aCons (eTup (aCons (eOp (gOwnB n_Policy f_Policy_or) (eVar 7) (eVar 8)) (aCons (eVar 9) aNil))) (aCons (eTup (aCons (eOp (gOwnB n_Policy f_Policy_sub) (eVar 7) (eVar 8)) (aCons (eVar 11) aNil))) (aCons (eTup (aCons (eVar 7) (aCons (eVar 3) aNil))) aNil))))) (S ns (dv (inD' ds)) (fl RU) (fl N) y4 (fl Q) (dv (.int v)) (fp N) (fp Q) (fl (orN N Q)) none (fl (subN N Q)) none none none none none) [] = .ok [.v (pr N), .v (pr Q), .v (pr (orN N Q)), .v (pr (subN N Q)), .v (pr N)] (S ns (dv (inD' ds)) (fl RU) (fl N) y4 (fl Q) (dv (.int v)) (fp N) (fp Q) (fl (orN N Q)) none (fl (subN N Q)) none none none none none) [] := by
      rw [aCons_ap, t1, bind_ok, aCons_ap, t2, bind_ok, aCons_ap, t3, bind_ok, aCons_ap, t4, bind_ok, aCons_ap, t1, bind_ok, aNil_ap, bind_ok, bind_ok, bind_ok, bind_ok, bind_ok]
    show Out.bind ((aCons (eTup (aCons (eVar 7) (aCons (eVar 3) aNil))) (aCons (eTup (aCons (eVar 8) (aCons (eVar 5) aNil))) (aCons (eTup (aCons (eOp (gOwnB n_Policy f_Policy_or) (eVar 7) (eVar 8)) (aCons (eVar 9) aNil))) (aCons (eTup (aCons (eOp (gOwnB n_Policy f_Policy_sub) (eVar 7) (eVar 8)) (aCons (eVar 11) aNil))) (aCons (eTup (aCons (eVar 7) (aCons (eVar 3) aNil))) aNil))))) (S ns (dv (inD' ds)) (fl RU) (fl N) y4 (fl Q) (dv (.int v)) (fp N) (fp Q) (fl (orN N Q)) none (fl (subN N Q)) none none none none none) []) _ = _
    rw [a5]
    rfl
  obtain ⟨y12, hy12, l11⟩ := pair_loop (ns := ns) (z1 := (dv (inD' ds))) (z2 := (fl RU)) (z3 := (fl N)) (z4 := y4) (z5 := (fl Q)) (z6 := (dv (.int v))) (z7 := (fp N)) (z8 := (fp Q)) (z9 := (fl (orN N Q))) (z10 := none) (z11 := (fl (subN N Q))) (z13 := none) (z14 := none) (z15 := none) (z16 := none) okAv okAv okAv hy4 okAv okAv okAv okAv okAv okAn okAv okAn okAn okAn okAn [N, Q, orN N Q, subN N Q, N] none okAn (fun M hM => by
    have ho : (orN N Q).Sublist RU := List.filter_sublist
    have hu : (subN N Q).Sublist RU := List.filter_sublist.trans hN
    rcases List.mem_cons.mp hM with rfl | hM
    · exact hN
    rcases List.mem_cons.mp hM with rfl | hM
    · exact hQ
    rcases List.mem_cons.mp hM with rfl | hM
    · exact ho
    rcases List.mem_cons.mp hM with rfl | hM
    · exact hu
    rcases List.mem_cons.mp hM with rfl | hM
    · exact hN
    cases hM)
  have r11 : u11 (S ns (dv (inD' ds)) (fl RU) (fl N) y4 (fl Q) (dv (.int v)) (fp N) (fp Q) (fl (orN N Q)) none (fl (subN N Q)) none none none none none) [] = .nx (S ns (dv (inD' ds)) (fl RU) (fl N) y4 (fl Q) (dv (.int v)) (fp N) (fp Q) (fl (orN N Q)) none (fl (subN N Q)) y12 none none none none) [] := (sFor_of (iSeq_o t5 (frzs_shr rfl))).trans l11
  have r12 : u12 (S ns (dv (inD' ds)) (fl RU) (fl N) y4 (fl Q) (dv (.int v)) (fp N) (fp Q) (fl (orN N Q)) none (fl (subN N Q)) y12 none none none none) [] = .nx (S ns (dv (inD' ds)) (fl RU) (fl N) y4 (fl Q) (dv (.int v)) (fp N) (fp Q) (fl (orN N Q)) none (fl (subN N Q)) y12 (dv (.nd .ow .lst (intL [v, 536870911 - v, 0, 536870911]))) none none none) [] := sSet_ok (i := 13) (by rfl) (S_ok okAv okAv okAv hy4 okAv okAv okAv okAv okAv okAn okAv hy12 okAn okAn okAn okAn) (by show 13 < 17; decide)
  have r13 : u13 (S ns (dv (inD' ds)) (fl RU) (fl N) y4 (fl Q) (dv (.int v)) (fp N) (fp Q) (fl (orN N Q)) none (fl (subN N Q)) y12 (dv (.nd .ow .lst (intL [v, 536870911 - v, 0, 536870911]))) none none none) [] = .nx (S ns (dv (inD' ds)) (fl RU) (fl N) y4 (fl Q) (dv (.int v)) (fp N) (fp Q) (fl (orN N Q)) none (fl (subN N Q)) y12 (dv (.nd .ow .lst (intL [v, 536870911 - v, 0, 536870911]))) (dv (.int ((2 : Int) ^ 0))) none none) [] := sSet_ok (i := 14) (d := .int ((2 : Int) ^ 0)) (by rfl) (S_ok okAv okAv okAv hy4 okAv okAv okAv okAv okAv okAn okAv hy12 okAv okAn okAn okAn) (by show 14 < 17; decide)
  obtain ⟨y4b, y14, hy4b, hy14, l14⟩ := w_loop (ns := ns) (z1 := (dv (inD' ds))) (z2 := (fl RU)) (z3 := (fl N)) (z5 := (fl Q)) (z6 := (dv (.int v))) (z7 := (fp N)) (z8 := (fp Q)) (z9 := (fl (orN N Q))) (z10 := none) (z11 := (fl (subN N Q))) (z12 := y12) (z15 := none) (z16 := none) okAv okAv okAv okAv okAv okAv okAv okAv okAn okAv hy12 okAn okAn (List.range 29) 0 [v, 536870911 - v, 0, 536870911] y4 hy4 (by rw [List.length_range]; show 4 + 29 < 1000; decide)
  rw [List.length_range] at l14
  have r14 : u14 (S ns (dv (inD' ds)) (fl RU) (fl N) y4 (fl Q) (dv (.int v)) (fp N) (fp Q) (fl (orN N Q)) none (fl (subN N Q)) y12 (dv (.nd .ow .lst (intL [v, 536870911 - v, 0, 536870911]))) (dv (.int ((2 : Int) ^ 0))) none none) [] = .nx (S ns (dv (inD' ds)) (fl RU) (fl N) y4b (fl Q) (dv (.int v)) (fp N) (fp Q) (fl (orN N Q)) none (fl (subN N Q)) y12 (dv (.nd .ow .lst (intL ([v, 536870911 - v, 0, 536870911] ++ (List.range' 0 29).map fun j => (2 : Int) ^ j)))) y14 none none) [] := by
    have it : iR1 (eC (.int 29)) (S ns (dv (inD' ds)) (fl RU) (fl N) y4 (fl Q) (dv (.int v)) (fp N) (fp Q) (fl (orN N Q)) none (fl (subN N Q)) y12 (dv (.nd .ow .lst (intL [v, 536870911 - v, 0, 536870911]))) (dv (.int ((2 : Int) ^ 0))) none none) [] = .ok ((List.range 29).map di) (S ns (dv (inD' ds)) (fl RU) (fl N) y4 (fl Q) (dv (.int v)) (fp N) (fp Q) (fl (orN N Q)) none (fl (subN N Q)) y12 (dv (.nd .ow .lst (intL [v, 536870911 - v, 0, 536870911]))) (dv (.int ((2 : Int) ^ 0))) none none) [] := by
      rw [rg29]; exact iR1_of (n := 29) rfl (by decide)
    exact (sFor_of it).trans l14
  have hall : ∀ x ∈ ([v, 536870911 - v, 0, 536870911] ++ (List.range' 0 29).map fun j => (2 : Int) ^ j), 0 ≤ x ∧ x ≤ 536870911 := fun x hx => by
    rcases List.mem_append.mp hx with hx | hx
    · simp only [List.mem_cons, List.not_mem_nil, or_false] at hx
      omega
    · exact pow_ok x hx
  obtain ⟨y15, hy15, l15⟩ := each_loop (B := bothB) (p := fun x => 0 ≤ x ∧ x ≤ 536870911) (ns := ns) (z1 := (dv (inD' ds))) (z2 := (fl RU)) (z3 := (fl N)) (z4 := y4b) (z5 := (fl Q)) (z6 := (dv (.int v))) (z7 := (fp N)) (z8 := (fp Q)) (z9 := (fl (orN N Q))) (z10 := none) (z11 := (fl (subN N Q))) (z12 := y12) (z13 := (dv (.nd .fz .lst (intL ([v, 536870911 - v, 0, 536870911] ++ (List.range' 0 29).map fun j => (2 : Int) ^ j))))) (z14 := y14) (z16 := none) okAv okAv okAv hy4b okAv okAv okAv okAv okAv okAn okAv hy12 okAv hy14 okAn (fun x h => both_turn h) ([v, 536870911 - v, 0, 536870911] ++ (List.range' 0 29).map fun j => (2 : Int) ^ j) none okAn hall
  have r15 : u15 (S ns (dv (inD' ds)) (fl RU) (fl N) y4b (fl Q) (dv (.int v)) (fp N) (fp Q) (fl (orN N Q)) none (fl (subN N Q)) y12 (dv (.nd .ow .lst (intL ([v, 536870911 - v, 0, 536870911] ++ (List.range' 0 29).map fun j => (2 : Int) ^ j)))) y14 none none) [] = .nx (S ns (dv (inD' ds)) (fl RU) (fl N) y4b (fl Q) (dv (.int v)) (fp N) (fp Q) (fl (orN N Q)) none (fl (subN N Q)) y12 (dv (.nd .fz .lst (intL ([v, 536870911 - v, 0, 536870911] ++ (List.range' 0 29).map fun j => (2 : Int) ^ j)))) y14 y15 none) [] := (sFor_of (iSeq_ok (i := 13) (xs := intL ([v, 536870911 - v, 0, 536870911] ++ (List.range' 0 29).map fun j => (2 : Int) ^ j)) rfl (S_ok okAv okAv okAv hy4b okAv okAv okAv okAv okAv okAn okAv hy12 okAv hy14 okAn okAn) rfl (frzs_shr intL_shr))).trans l15
  obtain ⟨y15b, hy15b, l16⟩ := each_loop (B := refB) (p := fun x => x < 0 ∨ 536870911 < x) (ns := ns) (z1 := (dv (inD' ds))) (z2 := (fl RU)) (z3 := (fl N)) (z4 := y4b) (z5 := (fl Q)) (z6 := (dv (.int v))) (z7 := (fp N)) (z8 := (fp Q)) (z9 := (fl (orN N Q))) (z10 := none) (z11 := (fl (subN N Q))) (z12 := y12) (z13 := (dv (.nd .fz .lst (intL ([v, 536870911 - v, 0, 536870911] ++ (List.range' 0 29).map fun j => (2 : Int) ^ j))))) (z14 := y14) (z16 := none) okAv okAv okAv hy4b okAv okAv okAv okAv okAv okAn okAv hy12 okAv hy14 okAn (fun x h => ref_turn h) [-1, 536870912, -2 - v, 536870913 + v, 1073741824, -536870912, -536870911, 4294967296] y15 hy15 (fun x hx => by
    simp only [List.mem_cons, List.not_mem_nil, or_false] at hx
    omega)
  have i16 : (eLst (aCons (eNegM (eC (.int 1))) (aCons (eC (.int 536870912)) (aCons (eOp gSub (eNegM (eC (.int 2))) (eVar 6)) (aCons (eOp gAdd (eC (.int 536870913)) (eVar 6)) (aCons (eC (.int 1073741824)) (aCons (eNegM (eC (.int 536870912))) (aCons (eNegM (eC (.int 536870911))) (aCons (eC (.int 4294967296)) aNil))))))))) (S ns (dv (inD' ds)) (fl RU) (fl N) y4b (fl Q) (dv (.int v)) (fp N) (fp Q) (fl (orN N Q)) none (fl (subN N Q)) y12 (dv (.nd .fz .lst (intL ([v, 536870911 - v, 0, 536870911] ++ (List.range' 0 29).map fun j => (2 : Int) ^ j)))) y14 y15 none) [] = .ok (.v (.nd .ow .lst (intL [-1, 536870912, -2 - v, 536870913 + v, 1073741824, -536870912, -536870911, 4294967296]))) (S ns (dv (inD' ds)) (fl RU) (fl N) y4b (fl Q) (dv (.int v)) (fp N) (fp Q) (fl (orN N Q)) none (fl (subN N Q)) y12 (dv (.nd .fz .lst (intL ([v, 536870911 - v, 0, 536870911] ++ (List.range' 0 29).map fun j => (2 : Int) ^ j)))) y14 y15 none) [] := by rfl
  have r16 : u16 (S ns (dv (inD' ds)) (fl RU) (fl N) y4b (fl Q) (dv (.int v)) (fp N) (fp Q) (fl (orN N Q)) none (fl (subN N Q)) y12 (dv (.nd .fz .lst (intL ([v, 536870911 - v, 0, 536870911] ++ (List.range' 0 29).map fun j => (2 : Int) ^ j)))) y14 y15 none) [] = .nx (S ns (dv (inD' ds)) (fl RU) (fl N) y4b (fl Q) (dv (.int v)) (fp N) (fp Q) (fl (orN N Q)) none (fl (subN N Q)) y12 (dv (.nd .fz .lst (intL ([v, 536870911 - v, 0, 536870911] ++ (List.range' 0 29).map fun j => (2 : Int) ^ j)))) y14 y15b none) [] := (sFor_of (iSeq_o i16 (frzs_shr intL_shr))).trans l16
  have e17 : (eTup (aCons (eB fTuple (aCons (eSl (eVar 2) oNo (oYes (eC (.int 18)))) aNil)) (aCons (eB fTuple (aCons (eSl (eVar 2) (oYes (eC (.int 18))) (oYes (eC (.int 27)))) aNil)) (aCons (eB fTuple (aCons (eSl (eVar 2) (oYes (eC (.int 27))) oNo) aNil)) aNil)))) (S ns (dv (inD' ds)) (fl RU) (fl N) y4b (fl Q) (dv (.int v)) (fp N) (fp Q) (fl (orN N Q)) none (fl (subN N Q)) y12 (dv (.nd .fz .lst (intL ([v, 536870911 - v, 0, 536870911] ++ (List.range' 0 29).map fun j => (2 : Int) ^ j)))) y14 y15b none) [] = .ok (.v (.tup [.tup (strL CO), .tup (strL VA), .tup (strL PO)])) (S ns (dv (inD' ds)) (fl RU) (fl N) y4b (fl Q) (dv (.int v)) (fp N) (fp Q) (fl (orN N Q)) none (fl (subN N Q)) y12 (dv (.nd .fz .lst (intL ([v, 536870911 - v, 0, 536870911] ++ (List.range' 0 29).map fun j => (2 : Int) ^ j)))) y14 y15b none) [] := by kernel_rfl
  have r17 : u17 (S ns (dv (inD' ds)) (fl RU) (fl N) y4b (fl Q) (dv (.int v)) (fp N) (fp Q) (fl (orN N Q)) none (fl (subN N Q)) y12 (dv (.nd .fz .lst (intL ([v, 536870911 - v, 0, 536870911] ++ (List.range' 0 29).map fun j => (2 : Int) ^ j)))) y14 y15b none) [] = .nx (S ns (dv (inD' ds)) (fl RU) (fl N) y4b (fl Q) (dv (.int v)) (fp N) (fp Q) (fl (orN N Q)) none (fl (subN N Q)) y12 (dv (.nd .fz .lst (intL ([v, 536870911 - v, 0, 536870911] ++ (List.range' 0 29).map fun j => (2 : Int) ^ j)))) y14 y15b (dv (.tup [.tup (strL CO), .tup (strL VA), .tup (strL PO)]))) [] := sSet_ok (i := 16) e17 (S_ok okAv okAv okAv hy4b okAv okAv okAv okAv okAv okAn okAv hy12 okAv hy14 hy15b okAn) (by show 16 < 17; decide)
  have e18 : (eTup (aCons (eC w_CODE_RULES) (aCons (eC w_VALUE_RULES) (aCons (eC w_POLL_RULES) aNil)))) (S ns (dv (inD' ds)) (fl RU) (fl N) y4b (fl Q) (dv (.int v)) (fp N) (fp Q) (fl (orN N Q)) none (fl (subN N Q)) y12 (dv (.nd .fz .lst (intL ([v, 536870911 - v, 0, 536870911] ++ (List.range' 0 29).map fun j => (2 : Int) ^ j)))) y14 y15b (dv (.tup [.tup (strL CO), .tup (strL VA), .tup (strL PO)]))) [] = .ok (.v (.tup [.tup (strL CO), .tup (strL VA), .tup (strL PO)])) (S ns (dv (inD' ds)) (fl RU) (fl N) y4b (fl Q) (dv (.int v)) (fp N) (fp Q) (fl (orN N Q)) none (fl (subN N Q)) y12 (dv (.nd .fz .lst (intL ([v, 536870911 - v, 0, 536870911] ++ (List.range' 0 29).map fun j => (2 : Int) ^ j)))) y14 y15b (dv (.tup [.tup (strL CO), .tup (strL VA), .tup (strL PO)]))) [] := by
    rw [← CO_w, ← VA_w, ← PO_w]; kernel_rfl
  have q18 : f_law_equal [.v (.tup [.tup (strL CO), .tup (strL VA), .tup (strL PO)]), .v (.tup [.tup (strL CO), .tup (strL VA), .tup (strL PO)])] [] = .ok (.bl true) [] := by
    rw [lequ]; exact equal_ok (f := 10) (by decide +kernel) (by decide +kernel)
  have r18 : u18 (S ns (dv (inD' ds)) (fl RU) (fl N) y4b (fl Q) (dv (.int v)) (fp N) (fp Q) (fl (orN N Q)) none (fl (subN N Q)) y12 (dv (.nd .fz .lst (intL ([v, 536870911 - v, 0, 536870911] ++ (List.range' 0 29).map fun j => (2 : Int) ^ j)))) y14 y15b (dv (.tup [.tup (strL CO), .tup (strL VA), .tup (strL PO)]))) [] = .nx (S ns (dv (inD' ds)) (fl RU) (fl N) y4b (fl Q) (dv (.int v)) (fp N) (fp Q) (fl (orN N Q)) none (fl (subN N Q)) y12 (dv (.nd .fz .lst (intL ([v, 536870911 - v, 0, 536870911] ++ (List.range' 0 29).map fun j => (2 : Int) ^ j)))) y14 y15b (dv (.tup [.tup (strL CO), .tup (strL VA), .tup (strL PO)]))) [] := if_no2 (not_of (k := true) (toT_of (call_of (xs := [.v (.tup [.tup (strL CO), .tup (strL VA), .tup (strL PO)]), .v (.tup [.tup (strL CO), .tup (strL VA), .tup (strL PO)])]) (ds := [.tup [.tup (strL CO), .tup (strL VA), .tup (strL PO)], .tup [.tup (strL CO), .tup (strL VA), .tup (strL PO)]]) (dws := []) (ios := []) (args2 (b := eVar 16) e18 rfl) rfl q18)))
  have cR : (eC w_RULES) (S ns (dv (inD' ds)) (fl RU) (fl N) y4b (fl Q) (dv (.int v)) (fp N) (fp Q) (fl (orN N Q)) none (fl (subN N Q)) y12 (dv (.nd .fz .lst (intL ([v, 536870911 - v, 0, 536870911] ++ (List.range' 0 29).map fun j => (2 : Int) ^ j)))) y14 y15b (dv (.tup [.tup (strL CO), .tup (strL VA), .tup (strL PO)]))) [] = .ok (.v (.tup (strL RU))) (S ns (dv (inD' ds)) (fl RU) (fl N) y4b (fl Q) (dv (.int v)) (fp N) (fp Q) (fl (orN N Q)) none (fl (subN N Q)) y12 (dv (.nd .fz .lst (intL ([v, 536870911 - v, 0, 536870911] ++ (List.range' 0 29).map fun j => (2 : Int) ^ j)))) y14 y15b (dv (.tup [.tup (strL CO), .tup (strL VA), .tup (strL PO)]))) [] := by show Out.ok (RV.v (dOf w_RULES)) _ _ = _; rw [RU_w]
  have tR : (eB fTuple (aCons (eVar 2) aNil)) (S ns (dv (inD' ds)) (fl RU) (fl N) y4b (fl Q) (dv (.int v)) (fp N) (fp Q) (fl (orN N Q)) none (fl (subN N Q)) y12 (dv (.nd .fz .lst (intL ([v, 536870911 - v, 0, 536870911] ++ (List.range' 0 29).map fun j => (2 : Int) ^ j)))) y14 y15b (dv (.tup [.tup (strL CO), .tup (strL VA), .tup (strL PO)]))) [] = .ok (.v (.tup (strL RU))) (S ns (dv (inD' ds)) (fl RU) (fl N) y4b (fl Q) (dv (.int v)) (fp N) (fp Q) (fl (orN N Q)) none (fl (subN N Q)) y12 (dv (.nd .fz .lst (intL ([v, 536870911 - v, 0, 536870911] ++ (List.range' 0 29).map fun j => (2 : Int) ^ j)))) y14 y15b (dv (.tup [.tup (strL CO), .tup (strL VA), .tup (strL PO)]))) [] := by
    show (match shrK (.v (.nd .fz .lst (strL RU))) (strL RU) with
      | some ys => Out.ok (RV.v (.tup ys)) _ []
      | none => .bad) = _
    rw [shrK_s (strs_shr RU)]
  have q19 := call_of (fn := f_law_equal) (xs := [.v (.tup (strL RU)), .v (.tup (strL RU))]) (ds := [.tup (strL RU), .tup (strL RU)]) (dws := []) (ios := []) (args2 cR tR) rfl (eq_tupF RU_s (by rw [RU_len]; decide))
  have q20 : (eCall f_law_sentences [] aNil) (S ns (dv (inD' ds)) (fl RU) (fl N) y4b (fl Q) (dv (.int v)) (fp N) (fp Q) (fl (orN N Q)) none (fl (subN N Q)) y12 (dv (.nd .fz .lst (intL ([v, 536870911 - v, 0, 536870911] ++ (List.range' 0 29).map fun j => (2 : Int) ^ j)))) y14 y15b (dv (.tup [.tup (strL CO), .tup (strL VA), .tup (strL PO)]))) [] = .ok (.v (.bl true)) (S ns (dv (inD' ds)) (fl RU) (fl N) y4b (fl Q) (dv (.int v)) (fp N) (fp Q) (fl (orN N Q)) none (fl (subN N Q)) y12 (dv (.nd .fz .lst (intL ([v, 536870911 - v, 0, 536870911] ++ (List.range' 0 29).map fun j => (2 : Int) ^ j)))) y14 y15b (dv (.tup [.tup (strL CO), .tup (strL VA), .tup (strL PO)]))) [] := call_of (xs := []) (ds := []) (dws := []) (ios := []) rfl rfl sent_ok
  refine (seq_of r0).trans ((seq_of r1).trans ((seq_of r2).trans ((seq_of r3).trans ((seq_of r4).trans ((seq_of r5).trans ((seq_of r6).trans ((seq_of r7).trans ((seq_of r8).trans ((seq_of r9).trans ((seq_of r10).trans ((seq_of r11).trans ((seq_of r12).trans ((seq_of r13).trans ((seq_of r14).trans ((seq_of r15).trans ((seq_of r16).trans ((seq_of r17).trans ((seq_of r18).trans (?_)))))))))))))))))))
  exact ret_of (and_of q19 q20)
end K29.V
set_option Elab.async false
set_option linter.all false
set_option maxRecDepth 100000
set_option maxHeartbeats 1000000
namespace K29
theorem plain (ns : List Int) (h : ns.length ≤ 63) : ∃ S, f_law [.loc 0] [.rol (ns.map .int)] = .ok (.bl true) S := VL.vl_end V.s_f_law ns (V.law_ok ns)
end K29
set_option Elab.async false
set_option linter.all false
set_option maxRecDepth 100000
set_option maxHeartbeats 40000000
open PySem PySem.W PySem.Calls PyProof.Rows in
theorem K29.holds : PySem.Challenge.rw_guestlives_k29_policy_numbers_and_senten.Holds := by
  w_on; o_law
  refine HandSHeadRun.head_any (r := OpenLaw.row PySem.Challenge.rw_guestlives_k29_policy_numbers_and_senten) (q := view (OpenLaw.row PySem.Challenge.rw_guestlives_k29_policy_numbers_and_senten).prog [33]) (H := K29.hk) (ob := K29.ob) (M := 12000) (loose := K29.loose) (d := HandSHeadRun.topDef (OpenLaw.row PySem.Challenge.rw_guestlives_k29_policy_numbers_and_senten).prog 33) (kwd := []) K29.ob_eq
    (by kernel_rfl) (fun s => by kernel_rfl) K29.run (by kernel_rfl) (by kernel_rfl) (by kernel_rfl) (by rfl) (by first | assumption | decide +kernel) (by decide +kernel) ⟨rfl, rfl, rfl, rfl, rfl, by decide +kernel⟩ ?hw ?hc
  case hw => w_witness2
  case hc =>
    refine GL.walk_end (l := PySem.Challenge.rw_guestlives_k29_policy_numbers_and_senten) (n := 63) (k := 7) (x := "_law_script") rfl (by decide) (by kernel_rfl) ⟨rfl, by decide, by decide⟩ ?F
    intro w mg fa h Y G hmg0
    obtain ⟨K, KX, c⟩ := Y
    have T : K29.Tx PySem.Challenge.rw_guestlives_k29_policy_numbers_and_senten.prog K mg := K29.tx_of KX G c
    have hmg : mg ("law" : PySem.Str) = some (.ref fa) := by
      have e : (HandSHeadRun.topDef (OpenLaw.row PySem.Challenge.rw_guestlives_k29_policy_numbers_and_senten).prog 33).name = ("law" : PySem.Str) := by kernel_rfl
      rw [← e]; exact hmg0
    have e := hmg.symm.trans T.g_law
    cases e
    obtain ⟨fd0, F0⟩ := T.d_law
    have hb := F0.bindsA (ps := [("_law_script" : PySem.Str)]) fun _ _ _ _ _ _ us hl => match us, hl with | [_], _ => rfl
    exact ⟨K, fd0, GL.spI (⟨_, w⟩ : GL.PgW) K 1 K29.f_law, KX, fun s v => hb s [v] rfl, fun H a ns hl hO hS => GL.law_sp rfl K29.plain H a ns hl hO hS, fun base X2 G2 => K29.fi_law T F0⟩
set_option maxRecDepth 100000 in
set_option maxHeartbeats 4000000 in
theorem PySem.Challenge.cw_guestlives_k29_policy_numbers_and_senten_holds : PySem.Challenge.rw_guestlives_k29_policy_numbers_and_senten.Holds := by
  exact K29.holds
