import PyProof.Rows.All
import Wide.All
import OpenK.AllK
import Wide.FinOn
import HandS.ForMost
import HandS.Walk
import HandS.Exc
import HandS.ExcOwn
import HandS.WordsExc
import HandS.HeadHook1
import HandS.HeadHook2
import KE.KDictKeyed
import KE.KDictDisplayH
import HandS.TupAny
import HandS.IsInst
import HandS.TupLe
import HandS.TupMul
import HandS.Defaults
import HandS.CallSlots
import HandS.Head0
import HandS.Head1
import HandS.Head2
import HandS.HeadEnd
import KE.KExcSuper
import KE.KSuper
import HandS.ExcInit
import HandS.ExcSuper
import HandS.ClsMeth
import HandS.TryMany
import HandS.ExcIs
import HandS.ExcField
import HandS.HeadHook3
import HandS.FStr
import HandS.Flow
import HandS.RaiseMore
import HandS.SetFor
import HandS.Strs
import HandS.Dict
import HandS.MakeKw
import HandS.MakeKwOnly
import HandS.Style
import PyProof.RulesMatch
import PyProof.Rows.StrRules
import PyProof.AssignAttr
import PyProof.Rows.MatchSeqLen
import HandS.Iter
import HandS.More
import KE.KDictPairs
import PyProof.TupleOfSeq
import HandS.SetIn
import HandS.DictComp
import KE.SortCalls
import KE.SortKeyed
import KE.DataCmp
import PyProof.P3Eq
import KE.DataEq
import OpenK.KMeth
import HandS.Text
import PyProof.P3In
import PySem.Challenge.RW_guestlives_k16_values_flushed_in_order
set_option Elab.async false
set_option linter.all false
set_option maxRecDepth 100000
set_option maxHeartbeats 1000000
namespace GL
open PySem PySem.Spec PyProof.Rows L2
structure PgW where
  P : Program
  w : World
abbrev pwX (X : Cx) : PgW := ⟨X.prog, X.w⟩
variable {pw : PgW}
abbrev Nm := List Nat
def toS (l : Nm) : Str := ⟨l.toArray⟩
theorem toS_inj {a b : Nm} (h : toS a = toS b) : a = b := by
  have := congrArg (fun s : Str => s.cps.toList) h
  simpa [toS] using this
theorem toS_cps (x : Str) : toS x.cps.toList = x := by
  cases x; simp [toS]
inductive BT where
  | int | bool | str | list | tuple | dict | set | none
  deriving DecidableEq, Inhabited
def BT.name : BT → String
  | .int => "int" | .bool => "bool" | .str => "str" | .list => "list" | .tuple => "tuple" | .dict => "dict" | .set => "set" | .none => "NoneType"
inductive PV where
  | non | bl (b : Bool) | int (i : Int) | str (s : List Nat) | tup (xs : List PV) | loc (n : Nat) | gl (x : Nm) | ty (b : BT) | xn (a d : Nat) (C : Nm) (ns : List Nm) (ws : List PV)
  deriving Inhabited
inductive OB where
  | lst (xs : List PV)
  | rol (xs : List PV)
  | dct (kvs : List (PV × PV))
  | fdct (kvs : List (PV × PV))
  | ins (C : Nm) (fs : List (Nm × PV))
  | dcn (kvs : List (PV × PV))
  | ptp (xs : List PV)
  deriving Inhabited
def OB.mut : OB → Bool
  | .rol _ => false
  | .fdct _ => false
  | .ptp _ => false
  | _ => true
def OB.uniq : OB → Bool
  | .rol _ => false
  | .ptp _ => false
  | _ => true
theorem OB.uniq_of {o : OB} (h : o.mut = true) : o.uniq = true := by cases o <;> first | rfl | cases h
abbrev Sto := List OB
abbrev Ls := List (Option PV)
structure Exn where
  cls : Nm
  fs : List (Nm × PV)
inductive Out (α : Type) where
  | ok (a : α) (S : Sto)
  | exc (e : Exn) (S : Sto)
  | bad
inductive SOut where
  | nx (ls : Ls) (S : Sto)
  | rt (w : PV) (S : Sto)
  | bk (ls : Ls) (S : Sto)
  | ct (ls : Ls) (S : Sto)
  | exc (e : Exn) (ls : Ls) (S : Sto)
  | bad
abbrev ME := Ls → Sto → Out PV
abbrev MT := Ls → Sto → Out Bool
abbrev MA := Ls → Sto → Out (List PV)
abbrev MS := Ls → Sto → SOut
def Out.bind {α β : Type} (o : Out α) (f : α → Sto → Out β) : Out β := match o with
  | .ok a S => f a S
  | .exc e S => .exc e S
  | .bad => .bad
def Out.then {α : Type} (o : Out α) (ls : Ls) (f : α → Sto → SOut) : SOut := match o with
  | .ok a S => f a S
  | .exc e S => .exc e ls S
  | .bad => .bad
def SOut.seq (o : SOut) (f : MS) : SOut := match o with
  | .nx ls S => f ls S
  | r => r
mutual
inductive RW (K : PySem.W.Frag) (ρ : Nat → Addr) (N : Nat) (H : Hp) : PV → V → Prop
  | non : RW K ρ N H .non .non
  | bl (b : Bool) : RW K ρ N H (.bl b) (.bl b)
  | int (i : Int) : RW K ρ N H (.int i) (.int i)
  | str (x : Str) : RW K ρ N H (.str x.cps.toList) (.str x)
  | tup {xs : List PV} {a : Addr} {vs : List V} : SqT K H a vs → RWs K ρ N H xs vs → RW K ρ N H (.tup xs) (.ref a)
  | loc (n : Nat) : n < N → RW K ρ N H (.loc n) (.ref (ρ n))
  | gl (x : Nm) : RW K ρ N H (.gl x) (.ref (He.ga K (toS x)))
  | ty (n : BT) : RW K ρ N H (.ty n) (.ty n.name)
  | xn {a d : Addr} {C : Nm} {ns : List Nm} {ws : List PV} {fs : List (Str × V)} : H d = some (.xd fs) → fs.map (·.1) = ns.map toS → RWs K ρ N H ws (fs.map (·.2)) → RW K ρ N H (.xn a d C ns ws) (.ref a)
inductive RWs (K : PySem.W.Frag) (ρ : Nat → Addr) (N : Nat) (H : Hp) : List PV → List V → Prop
  | nil : RWs K ρ N H [] []
  | cons {w : PV} {ws : List PV} {v : V} {vs : List V} : RW K ρ N H w v → RWs K ρ N H ws vs → RWs K ρ N H (w :: ws) (v :: vs)
end
def RoL (K : PySem.W.Frag) (H : Hp) (a : Addr) (xs : List V) : Prop :=
  (∃ o, H a = some (.frz o (.lst xs))) ∨
    ∃ (o : Obj) (its : Array Value) (n : Nat), K.lookup a = some o ∧ o.cls = .type "list" ∧ o.dict = none ∧ o.data = .seq its n ∧ its.size ≤ sizeLine ∧ Vals xs its.toList
theorem RoL.sq {K : PySem.W.Frag} {H : Hp} {a : Addr} {xs : List V} (h : RoL K H a xs) : SqL K H a xs := by
  rcases h with ⟨o, h⟩ | h
  · exact .inl (.inr ⟨o, h⟩)
  · exact .inr h
def Ext (K : PySem.W.Frag) (ρ : Nat → Addr) (N : Nat) (H : Hp) (ρ' : Nat → Addr) (N' : Nat) (H' : Hp) : Prop :=
  N ≤ N' ∧ (∀ n, n < N → ρ' n = ρ n) ∧ (∀ a vs, SqT K H a vs → SqT K H' a vs) ∧ (∀ a vs, RoL K H a vs → RoL K H' a vs) ∧ (∀ a fs, H a = some (.xd fs) → H' a = some (.xd fs)) ∧ ∀ a o u, H a = some (.frz o u) → H' a = some (.frz o u)
section
variable {K : PySem.W.Frag} {ρ ρ' ρ'' : Nat → Addr} {N N' N'' : Nat} {H H' H'' : Hp}
theorem Ext.refl : Ext K ρ N H ρ N H := ⟨Nat.le_refl _, fun _ _ => rfl, fun _ _ h => h, fun _ _ h => h, fun _ _ h => h, fun _ _ _ h => h⟩
theorem Ext.trans (a : Ext K ρ N H ρ' N' H') (b : Ext K ρ' N' H' ρ'' N'' H'') : Ext K ρ N H ρ'' N'' H'' :=
  ⟨Nat.le_trans a.1 b.1, fun n h => (b.2.1 n (Nat.lt_of_lt_of_le h a.1)).trans (a.2.1 n h), fun x vs h => b.2.2.1 x vs (a.2.2.1 x vs h), fun x vs h => b.2.2.2.1 x vs (a.2.2.2.1 x vs h), fun x vs h => b.2.2.2.2.1 x vs (a.2.2.2.2.1 x vs h), fun x o u h => b.2.2.2.2.2 x o u (a.2.2.2.2.2 x o u h)⟩
mutual
theorem RW.ext (e : Ext K ρ N H ρ' N' H') : ∀ {w : PV} {v : V}, RW K ρ N H w v → RW K ρ' N' H' w v
  | _, _, .non => .non
  | _, _, .bl b => .bl b
  | _, _, .int i => .int i
  | _, _, .str x => .str x
  | _, _, .tup h hs => .tup (e.2.2.1 _ _ h) (RWs.ext e hs)
  | _, _, .loc n h => by
    rw [← e.2.1 n h]
    exact .loc n (Nat.lt_of_lt_of_le h e.1)
  | _, _, .gl x => .gl x
  | _, _, .ty n => .ty n
  | _, _, .xn h hn hs => .xn (e.2.2.2.2.1 _ _ h) hn (RWs.ext e hs)
theorem RWs.ext (e : Ext K ρ N H ρ' N' H') : ∀ {w : List PV} {v : List V}, RWs K ρ N H w v → RWs K ρ' N' H' w v
  | _, _, .nil => .nil
  | _, _, .cons h hs => .cons (RW.ext e h) (RWs.ext e hs)
end
theorem RWs.length : ∀ {ws : List PV} {vs : List V}, RWs K ρ N H ws vs → ws.length = vs.length
  | _, _, .nil => rfl
  | _, _, .cons _ t => by simp [RWs.length t]
theorem RWs.get : ∀ {ws : List PV} {vs : List V} {i : Nat} {w : PV}, RWs K ρ N H ws vs → ws[i]? = some w → ∃ v, vs[i]? = some v ∧ RW K ρ N H w v
  | _, _, _, _, .nil, e => by simp at e
  | _, _, 0, _, .cons r _, e => by simp at e; subst e; exact ⟨_, rfl, r⟩
  | _, _, i + 1, w, .cons _ t, e => by
    obtain ⟨v, h1, h2⟩ := RWs.get (i := i) (w := w) t (by simpa using e)
    exact ⟨v, by simpa using h1, h2⟩
theorem RWs.app : ∀ {ws ws' : List PV} {vs vs' : List V}, RWs K ρ N H ws vs → RWs K ρ N H ws' vs' → RWs K ρ N H (ws ++ ws') (vs ++ vs')
  | _, _, _, _, .nil, s => s
  | _, _, _, _, .cons r t, s => .cons r (RWs.app t s)
theorem RWs.take : ∀ {ws : List PV} {vs : List V} (n : Nat), RWs K ρ N H ws vs → RWs K ρ N H (ws.take n) (vs.take n)
  | _, _, 0, _ => .nil
  | _, _, _ + 1, .nil => .nil
  | _, _, n + 1, .cons r t => .cons r (RWs.take n t)
theorem RWs.drop : ∀ {ws : List PV} {vs : List V} (n : Nat), RWs K ρ N H ws vs → RWs K ρ N H (ws.drop n) (vs.drop n)
  | _, _, 0, r => r
  | _, _, _ + 1, .nil => .nil
  | _, _, n + 1, .cons _ t => RWs.drop n t
theorem RWs.set {w : PV} {v : V} (r : RW K ρ N H w v) : ∀ {ws : List PV} {vs : List V} (i : Nat), RWs K ρ N H ws vs → RWs K ρ N H (ws.set i w) (vs.set i v)
  | _, _, _, .nil => .nil
  | _, _, 0, .cons _ t => .cons r t
  | _, _, i + 1, .cons q t => .cons q (RWs.set r i t)
theorem RWs.reverse : ∀ {ws : List PV} {vs : List V}, RWs K ρ N H ws vs → RWs K ρ N H ws.reverse vs.reverse
  | _, _, .nil => .nil
  | _, _, .cons r t => by
    rw [List.reverse_cons, List.reverse_cons]
    exact RWs.app (RWs.reverse t) (.cons r .nil)
theorem RWs.dropLast {ws : List PV} {vs : List V} (h : RWs K ρ N H ws vs) : RWs K ρ N H ws.dropLast vs.dropLast := by
  rw [List.dropLast_eq_take, List.dropLast_eq_take, h.length]; exact h.take _
end
inductive RFs (K : PySem.W.Frag) (ρ : Nat → Addr) (N : Nat) (H : Hp) : List (Nm × PV) → List (Str × V) → Prop
  | nil : RFs K ρ N H [] []
  | cons {f : Nm} {w : PV} {r : List (Nm × PV)} {v : V} {r' : List (Str × V)} : RW K ρ N H w v → RFs K ρ N H r r' → RFs K ρ N H ((f, w) :: r) ((toS f, v) :: r')
def RKey : PV → Key → Prop
  | .int i, .inl j => i = j
  | .str l, .inr x => x.cps.toList = l
  | _, _ => False
inductive RKs (K : PySem.W.Frag) (ρ : Nat → Addr) (N : Nat) (H : Hp) : List (PV × PV) → List (Key × V) → Prop
  | nil : RKs K ρ N H [] []
  | cons {k w : PV} {r : List (PV × PV)} {kk : Key} {v : V} {r' : List (Key × V)} : RKey k kk → RW K ρ N H w v → RKs K ρ N H r r' → RKs K ρ N H ((k, w) :: r) ((kk, v) :: r')
mutual
def keyN : PV → Option NestedKey
  | .non => some .none
  | .bl b => some (.num (if b = true then 1 else 0))
  | .int i => some (.num i)
  | .str s => some (.text (toS s))
  | .tup xs => (keyNs xs).map .tup
  | _ => none
def keyNs : List PV → Option (List NestedKey)
  | [] => some []
  | x :: r => match keyN x, keyNs r with
    | some k, some ks => some (k :: ks)
    | _, _ => none
end
abbrev KVN : List (NestedKey × Addr × V) → List (NestedKey × Addr × Value) → Prop := Paired fun p q => p.1 = q.1 ∧ p.2.1 = q.2.1 ∧ RelV p.2.2 q.2.2
def DcnH (pw : PgW) (a : Addr) (xs : List (NestedKey × Addr × V)) (h : Heap) : Prop := (a == sysModules) = false ∧ xs.length ≤ sizeLine ∧ ∃ ys, KVN xs ys ∧
  ∃ o es ep, h.get? a = some o ∧ o.ExactDict ∧ o.data = .dict es ep ∧ es.toList = ys.map (entryOfKey (nestedKind pw.P pw.w)) ∧ (ys.map (·.1)).Nodup
inductive RNs (K : PySem.W.Frag) (ρ : Nat → Addr) (N : Nat) (H : Hp) : List (PV × PV) → List (NestedKey × Addr × V) → Prop
  | nil : RNs K ρ N H [] []
  | cons {k : List PV} {w : PV} {r : List (PV × PV)} {kk : NestedKey} {t : Addr} {v : V} {r' : List (NestedKey × Addr × V)} : keyN (.tup k) = some kk → kk.depth ≤ 8 → RW K ρ N H (.tup k) (.ref t) → RW K ρ N H w v → RNs K ρ N H r r' → RNs K ρ N H ((.tup k, w) :: r) ((kk, t, v) :: r')
def PtT (K : PySem.W.Frag) (H : Hp) (a : Addr) (xs : List V) : Prop :=
  (∃ o, H a = some (.frz o (.tup xs)) ∧ o.dict = none) ∨
    ∃ (o : Obj) (its : Array Value) (n : Nat), K.lookup a = some o ∧ o.cls = .type "tuple" ∧ o.dict = none ∧ o.data = .seq its n ∧ its.size ≤ sizeLine ∧ Vals xs its.toList
theorem PtT.keep {K : PySem.W.Frag} {H H' : Hp} {a : Addr} {xs : List V} (k : ∀ o u, H a = some (.frz o u) → H' a = some (.frz o u)) (h : PtT K H a xs) : PtT K H' a xs := by
  rcases h with ⟨o, h, d⟩ | h
  · exact .inl ⟨o, k _ _ h, d⟩
  · exact .inr h
theorem PtT.sq {K : PySem.W.Frag} {H : Hp} {a : Addr} {xs : List V} (h : PtT K H a xs) : SqT K H a xs := by
  rcases h with ⟨o, h, d⟩ | ⟨o, its, n, h1, h2, _, h3⟩
  · exact .inl (.inr ⟨o, h⟩)
  · exact .inr ⟨o, its, n, h1, h2, h3⟩
def RO (pw : PgW) (K : PySem.W.Frag) (ρ : Nat → Addr) (N : Nat) (H : Hp) : OB → Addr → Prop
  | .lst xs, a => ∃ vs, H a = some (.lst vs) ∧ RWs K ρ N H xs vs
  | .rol xs, a => ∃ vs, RoL K H a vs ∧ RWs K ρ N H xs vs
  | .dct kvs, a => ∃ kv', H a = some (.dK kv') ∧ RKs K ρ N H kvs kv'
  | .fdct kvs, a => ∃ o kv', H a = some (.frz o (.dK kv')) ∧ RKs K ρ N H kvs kv'
  | .dcn kvs, a => ∃ xs, H a = some (.ext (DcnH pw a xs)) ∧ RNs K ρ N H kvs xs
  | .ptp xs, a => ∃ vs, PtT K H a vs ∧ RWs K ρ N H xs vs
  | .ins C fs, a => ∃ dx fs', H a = some (.ins (He.ga K (toS C)) dx fs') ∧ RFs K ρ N H fs fs'
structure RSt (pw : PgW) (K : PySem.W.Frag) (ρ : Nat → Addr) (H : Hp) (S : Sto) : Prop where
  at_ : ∀ n o, S[n]? = some o → RO pw K ρ S.length H o (ρ n)
  inj : ∀ n m o o', S[n]? = some o → S[m]? = some o' → o.uniq = true → o'.uniq = true → ρ n = ρ m → n = m
section
variable {K : PySem.W.Frag} {ρ ρ' ρ'' : Nat → Addr} {N N' N'' : Nat} {H H' H'' : Hp} {S : Sto}
theorem RFs.ext (e : Ext K ρ N H ρ' N' H') : ∀ {w : List (Nm × PV)} {v : List (Str × V)}, RFs K ρ N H w v → RFs K ρ' N' H' w v
  | _, _, .nil => .nil
  | _, _, .cons h hs => .cons (RW.ext e h) (RFs.ext e hs)
theorem RKs.ext (e : Ext K ρ N H ρ' N' H') : ∀ {w : List (PV × PV)} {v : List (Key × V)}, RKs K ρ N H w v → RKs K ρ' N' H' w v
  | _, _, .nil => .nil
  | _, _, .cons hk h hs => .cons hk (RW.ext e h) (RKs.ext e hs)
theorem RNs.ext (e : Ext K ρ N H ρ' N' H') : ∀ {w : List (PV × PV)} {v : List (NestedKey × Addr × V)}, RNs K ρ N H w v → RNs K ρ' N' H' w v
  | _, _, .nil => .nil
  | _, _, .cons hk hd hr h hs => .cons hk hd (RW.ext e hr) (RW.ext e h) (RNs.ext e hs)
theorem RoL.keep {a : Addr} {xs : List V} (k : ∀ h, H a = some h → H' a = some h) (h : RoL K H a xs) : RoL K H' a xs := by
  rcases h with ⟨o, h⟩ | h
  · exact .inl ⟨o, k _ h⟩
  · exact .inr h
theorem RO.ext {o : OB} {a : Addr} (e : Ext K ρ N H ρ' N' H') (k : ∀ h, H a = some h → H' a = some h) (r : RO pw K ρ N H o a) : RO pw K ρ' N' H' o a := by
  cases o with
  | lst xs => obtain ⟨vs, h, r⟩ := r; exact ⟨vs, k _ h, r.ext e⟩
  | rol xs => obtain ⟨vs, h, r⟩ := r; exact ⟨vs, h.keep k, r.ext e⟩
  | dct kvs => obtain ⟨vs, h, r⟩ := r; exact ⟨vs, k _ h, r.ext e⟩
  | fdct kvs => obtain ⟨o, vs, h, r⟩ := r; exact ⟨o, vs, k _ h, r.ext e⟩
  | dcn kvs => obtain ⟨xs, h, r⟩ := r; exact ⟨xs, k _ h, r.ext e⟩
  | ptp xs => obtain ⟨vs, h, r⟩ := r; exact ⟨vs, h.keep (fun _ _ e => k _ e), r.ext e⟩
  | ins C fs => obtain ⟨dx, vs, h, r⟩ := r; exact ⟨dx, vs, k _ h, r.ext e⟩
def MutH : HO → Prop
  | .lst _ => True
  | .dK _ => True
  | .ins _ _ _ => True
  | .ext _ => True
  | _ => False
theorem RO.mutH {o : OB} {a : Addr} (r : RO pw K ρ N H o a) (m : o.mut = true) : ∃ h, H a = some h ∧ MutH h := by
  cases o with
  | lst xs => obtain ⟨vs, h, r⟩ := r; exact ⟨_, h, trivial⟩
  | rol xs => cases m
  | dct kvs => obtain ⟨vs, h, r⟩ := r; exact ⟨_, h, trivial⟩
  | fdct kvs => cases m
  | dcn kvs => obtain ⟨xs, h, r⟩ := r; exact ⟨_, h, trivial⟩
  | ptp xs => cases m
  | ins C fs => obtain ⟨dx, vs, h, r⟩ := r; exact ⟨_, h, trivial⟩
theorem RO.hasH {o : OB} {a : Addr} (r : RO pw K ρ N H o a) (m : o.uniq = true) : ∃ h, H a = some h := by
  cases o with
  | lst xs => obtain ⟨vs, h, r⟩ := r; exact ⟨_, h⟩
  | rol xs => cases m
  | dct kvs => obtain ⟨vs, h, r⟩ := r; exact ⟨_, h⟩
  | fdct kvs => obtain ⟨o, vs, h, r⟩ := r; exact ⟨_, h⟩
  | dcn kvs => obtain ⟨xs, h, r⟩ := r; exact ⟨_, h⟩
  | ptp xs => cases m
  | ins C fs => obtain ⟨dx, vs, h, r⟩ := r; exact ⟨_, h⟩
theorem sqt_upd_new {p a : Addr} {ho : HO} {vs : List V} (hp : H p = none) (h : SqT K H a vs) : SqT K (upd H p ho) a vs := by
  rcases h with (h | ⟨o, h⟩) | h
  · exact .inl (.inl (by rw [upd_ne (ne_of_none h hp)]; exact h))
  · exact .inl (.inr ⟨o, by rw [upd_ne (ne_of_none h hp)]; exact h⟩)
  · exact .inr h
theorem sqt_upd_mut {p a : Addr} {h0 ho : HO} {vs : List V} (hp : H p = some h0) (m : MutH h0) (h : SqT K H a vs) : SqT K (upd H p ho) a vs := by
  rcases h with (h | ⟨o, h⟩) | h
  · exact .inl (.inl (by rw [upd_ne (ne_of h hp (by rintro rfl; exact m))]; exact h))
  · exact .inl (.inr ⟨o, by rw [upd_ne (ne_of h hp (by rintro rfl; exact m))]; exact h⟩)
  · exact .inr h
theorem rol_upd_new {p a : Addr} {ho : HO} {vs : List V} (hp : H p = none) (h : RoL K H a vs) : RoL K (upd H p ho) a vs :=
  h.keep fun _ e => by rw [upd_ne (ne_of_none e hp)]; exact e
theorem rol_upd_mut {p a : Addr} {h0 ho : HO} {vs : List V} (hp : H p = some h0) (m : MutH h0) (h : RoL K H a vs) : RoL K (upd H p ho) a vs := by
  rcases h with ⟨o, h⟩ | h
  · exact .inl ⟨o, by rw [upd_ne (ne_of h hp (by rintro rfl; exact m))]; exact h⟩
  · exact .inr h
def grow (ρ : Nat → Addr) (N : Nat) (p : Addr) : Nat → Addr := fun n => if n = N then p else ρ n
theorem grow_new {p : Addr} : grow ρ N p N = p := by simp [grow]
theorem grow_old {p : Addr} {n : Nat} (h : n < N) : grow ρ N p n = ρ n := by simp [grow, Nat.ne_of_lt h]
theorem ext_new {p : Addr} {ho : HO} (hp : H p = none) : Ext K ρ N H (grow ρ N p) (N + 1) (upd H p ho) :=
  ⟨Nat.le_succ _, fun _ h => grow_old h, fun _ _ h => sqt_upd_new hp h, fun _ _ h => rol_upd_new hp h, fun _ _ h => by rw [upd_ne (ne_of_none h hp)]; exact h, fun _ _ _ h => by rw [upd_ne (ne_of_none h hp)]; exact h⟩
theorem ext_keep {p : Addr} {ho : HO} (hp : H p = none) : Ext K ρ N H ρ N (upd H p ho) :=
  ⟨Nat.le_refl _, fun _ _ => rfl, fun _ _ h => sqt_upd_new hp h, fun _ _ h => rol_upd_new hp h, fun _ _ h => by rw [upd_ne (ne_of_none h hp)]; exact h, fun _ _ _ h => by rw [upd_ne (ne_of_none h hp)]; exact h⟩
theorem ext_upd {p : Addr} {h0 ho : HO} (hp : H p = some h0) (m : MutH h0) : Ext K ρ N H ρ N (upd H p ho) :=
  ⟨Nat.le_refl _, fun _ _ => rfl, fun _ _ h => sqt_upd_mut hp m h, fun _ _ h => rol_upd_mut hp m h, fun _ _ h => by rw [upd_ne (ne_of h hp (by rintro rfl; exact m))]; exact h, fun _ _ _ h => by rw [upd_ne (ne_of h hp (by rintro rfl; exact m))]; exact h⟩
theorem lt_of_get {n : Nat} {o : OB} (h : S[n]? = some o) : n < S.length := (List.getElem?_eq_some_iff.mp h).1
theorem RSt.keep (r : RSt pw K ρ H S) {p : Addr} {ho : HO} (hp : H p = none) : RSt pw K ρ (upd H p ho) S :=
  ⟨fun n o h => (r.at_ n o h).ext (ext_keep hp) fun h' e => by rw [upd_ne (ne_of_none e hp)]; exact e, r.inj⟩
theorem RSt.newU (r : RSt pw K ρ H S) {p : Addr} {ho : HO} {o : OB} (hp : H p = none) (ro : RO pw K (grow ρ S.length p) (S.length + 1) (upd H p ho) o p) :
    RSt pw K (grow ρ S.length p) (upd H p ho) (S ++ [o]) := by
  have e : Ext K ρ S.length H (grow ρ S.length p) (S.length + 1) (upd H p ho) := ext_new hp
  have hl : (S ++ [o]).length = S.length + 1 := by simp
  refine ⟨fun n o' h => ?_, fun n m o1 o2 h1 h2 m1 m2 q => ?_⟩
  · rw [hl]
    by_cases hn : n < S.length
    · rw [List.getElem?_append_left hn] at h
      rw [grow_old hn]
      exact (r.at_ n o' h).ext e fun h' e' => by rw [upd_ne (ne_of_none e' hp)]; exact e'
    · have : n = S.length := by have := lt_of_get h; omega
      subst this
      rw [List.getElem?_append_right (Nat.le_refl _)] at h
      simp at h; subst h
      rw [grow_new]; exact ro
  · have l1 := lt_of_get h1
    have l2 := lt_of_get h2
    rw [hl] at l1 l2
    by_cases a1 : n < S.length
    · rw [List.getElem?_append_left a1] at h1
      by_cases a2 : m < S.length
      · rw [List.getElem?_append_left a2] at h2
        rw [grow_old a1, grow_old a2] at q
        exact r.inj n m o1 o2 h1 h2 m1 m2 q
      · have : m = S.length := by omega
        subst this
        rw [grow_old a1, grow_new] at q
        obtain ⟨ho', e1⟩ := (r.at_ n o1 h1).hasH m1
        rw [q, hp] at e1; cases e1
    · have : n = S.length := by omega
      subst this
      by_cases a2 : m < S.length
      · rw [List.getElem?_append_left a2] at h2
        rw [grow_old a2, grow_new] at q
        obtain ⟨ho', e1⟩ := (r.at_ m o2 h2).hasH m2
        rw [← q, hp] at e1; cases e1
      · omega
theorem RSt.new (r : RSt pw K ρ H S) {p : Addr} {ho : HO} {o : OB} (hp : H p = none) (hm : o.mut = true) (ro : RO pw K (grow ρ S.length p) (S.length + 1) (upd H p ho) o p) :
    RSt pw K (grow ρ S.length p) (upd H p ho) (S ++ [o]) := r.newU hp ro
theorem RSt.set (r : RSt pw K ρ H S) {n : Nat} {o o' : OB} {ho : HO} (hn : S[n]? = some o) (hm : o.mut = true) (hm' : o'.mut = true) (ro : RO pw K ρ S.length (upd H (ρ n) ho) o' (ρ n)) :
    RSt pw K ρ (upd H (ρ n) ho) (S.set n o') := by
  obtain ⟨h0, e0, mh⟩ := (r.at_ n o hn).mutH hm
  have e : Ext K ρ S.length H ρ S.length (upd H (ρ n) ho) := ext_upd e0 mh
  have ln := lt_of_get hn
  refine ⟨fun m o2 h => ?_, fun m m' o1 o2 h1 h2 m1 m2 q => ?_⟩
  · rw [List.length_set]
    by_cases hmn : n = m
    · subst hmn
      rw [List.getElem?_set_self ln] at h
      cases h; exact ro
    · rw [List.getElem?_set_ne hmn] at h
      have ro2 := r.at_ m o2 h
      by_cases mm : o2.mut = true
      · refine ro2.ext e fun h' e' => ?_
        rw [upd_ne (fun z => hmn (r.inj n m o o2 hn h (OB.uniq_of hm) (OB.uniq_of mm) z.symm))]; exact e'
      · cases o2 with
        | rol xs =>
          obtain ⟨vs, hr, rr⟩ := ro2
          refine ⟨vs, ?_, rr.ext e⟩
          rcases hr with ⟨ob, hr⟩ | hr
          · exact .inl ⟨ob, by rw [upd_ne (ne_of hr e0 (by rintro rfl; exact mh))]; exact hr⟩
          · exact .inr hr
        | fdct kvs =>
          obtain ⟨ob, vs, hr, rr⟩ := ro2
          exact ⟨ob, vs, by rw [upd_ne (ne_of hr e0 (by rintro rfl; exact mh))]; exact hr, rr.ext e⟩
        | ptp xs =>
          obtain ⟨vs, hr, rr⟩ := ro2
          exact ⟨vs, hr.keep (fun o u hr => by rw [upd_ne (ne_of hr e0 (by rintro rfl; exact mh))]; exact hr), rr.ext e⟩
        | _ => exact absurd rfl mm
  · have g : ∀ {k : Nat} {ob : OB}, (S.set n o')[k]? = some ob → ob.uniq = true → ∃ ob', S[k]? = some ob' ∧ ob'.uniq = true := fun {k ob} hk mk => by
      by_cases hkn : n = k
      · subst hkn; exact ⟨o, hn, OB.uniq_of hm⟩
      · rw [List.getElem?_set_ne hkn] at hk; exact ⟨ob, hk, mk⟩
    obtain ⟨a, a1, a2⟩ := g h1 m1
    obtain ⟨b, b1, b2⟩ := g h2 m2
    exact r.inj m m' a b a1 b1 a2 b2 q
end
end GL
set_option Elab.async false
set_option linter.all false
set_option maxRecDepth 100000
set_option maxHeartbeats 1000000
namespace GL
open PySem PySem.Spec PyProof.Rows L2
variable {pw : PgW}
inductive RL (K : PySem.W.Frag) (ρ : Nat → Addr) (N : Nat) (H : Hp) : Ls → L2.St → Prop
  | nil : RL K ρ N H [] []
  | no {ls : Ls} {o : Option V} {σ : L2.St} : RL K ρ N H ls σ → RL K ρ N H (none :: ls) (o :: σ)
  | yes {w : PV} {v : V} {ls : Ls} {σ : L2.St} : RW K ρ N H w v → RL K ρ N H ls σ → RL K ρ N H (some w :: ls) (some v :: σ)
section
variable {K : PySem.W.Frag} {ρ ρ' ρ'' : Nat → Addr} {N N' N'' : Nat} {H H' H'' : Hp} {S : Sto} {ls : Ls} {σ : L2.St}
theorem RL.ext (e : Ext K ρ N H ρ' N' H') : ∀ {ls : Ls} {σ : L2.St}, RL K ρ N H ls σ → RL K ρ' N' H' ls σ
  | _, _, .nil => .nil
  | _, _, .no t => .no (RL.ext e t)
  | _, _, .yes r t => .yes (r.ext e) (RL.ext e t)
theorem RL.length : ∀ {ls : Ls} {σ : L2.St}, RL K ρ N H ls σ → ls.length = σ.length
  | _, _, .nil => rfl
  | _, _, .no t => by simp [RL.length t]
  | _, _, .yes _ t => by simp [RL.length t]
theorem RL.get : ∀ {ls : Ls} {σ : L2.St} {i : Nat} {w : PV}, RL K ρ N H ls σ → ls[i]? = some (some w) → ∃ v, σ[i]? = some (some v) ∧ RW K ρ N H w v
  | _, _, _, _, .nil, e => by simp at e
  | _, _, 0, _, .no _, e => by simp at e
  | _, _, 0, _, .yes r _, e => by simp at e; subst e; exact ⟨_, rfl, r⟩
  | _, _, i + 1, w, .no t, e => by
    obtain ⟨v, h1, h2⟩ := RL.get (i := i) (w := w) t (by simpa using e)
    exact ⟨v, by simpa using h1, h2⟩
  | _, _, i + 1, w, .yes _ t, e => by
    obtain ⟨v, h1, h2⟩ := RL.get (i := i) (w := w) t (by simpa using e)
    exact ⟨v, by simpa using h1, h2⟩
theorem RL.set {w : PV} {v : V} (r : RW K ρ N H w v) : ∀ {ls : Ls} {σ : L2.St} (i : Nat), RL K ρ N H ls σ → RL K ρ N H (ls.set i (some w)) (σ.set i (some v))
  | _, _, _, .nil => .nil
  | _, _, 0, .no t => .yes r t
  | _, _, 0, .yes _ t => .yes r t
  | _, _, i + 1, .no t => .no (RL.set r i t)
  | _, _, i + 1, .yes q t => .yes q (RL.set r i t)
theorem RL.wipe1 (o : Option V) : ∀ {ls : Ls} {σ : L2.St} (i : Nat), RL K ρ N H ls σ → RL K ρ N H (ls.set i none) (σ.set i o)
  | _, _, _, .nil => .nil
  | _, _, 0, .no t => .no t
  | _, _, 0, .yes _ t => .no t
  | _, _, i + 1, .no t => .no (RL.wipe1 o i t)
  | _, _, i + 1, .yes q t => .yes q (RL.wipe1 o i t)
end
def wipeL (ls : Ls) : List Nat → Ls
  | [] => ls
  | v :: vs => (wipeL ls vs).set v none
theorem RL.wipe {K : PySem.W.Frag} {ρ : Nat → Addr} {N : Nat} {H : Hp} {ls : Ls} {σ : L2.St} (h : RL K ρ N H ls σ) : ∀ vs : List Nat, RL K ρ N H (wipeL ls vs) (L2.wipe σ vs)
  | [] => h
  | v :: vs => RL.wipe1 _ v (RL.wipe h vs)
def RX (K : PySem.W.Frag) (ρ : Nat → Addr) (N : Nat) (H : Hp) (e : Exn) (cls : Value) (d : Option Addr) : Prop :=
  cls = .ref (He.ga K (toS e.cls)) ∧ ∃ dx fs', d = some dx ∧ H dx = some (.xd fs') ∧ RFs K ρ N H e.fs fs'
abbrev RelF (α β : Type) := PySem.W.Frag → (Nat → Addr) → Nat → Hp → α → β → Prop
def Post {α β : Type} (pw : PgW) (R : RelF α β) (K : PySem.W.Frag) (ρ : Nat → Addr) (N : Nat) (H : Hp) (Ex : XK) (o : Out α) (Q : β → Hp → Prop) : Prop := match o with
  | .ok a S' => ∀ ρ' H' b, Ext K ρ N H ρ' S'.length H' → RSt pw K ρ' H' S' → R K ρ' S'.length H' a b → Q b H'
  | .exc e S' => ∀ ρ' H' cls d, Ext K ρ N H ρ' S'.length H' → RSt pw K ρ' H' S' → RX K ρ' S'.length H' e cls d → Ex cls d H'
  | .bad => False
def PostS (pw : PgW) (K : PySem.W.Frag) (ρ : Nat → Addr) (N : Nat) (H : Hp) (Wx : WX) (o : SOut) (D : Ends) : Prop := match o with
  | .nx ls' S' => ∀ ρ' H' σ', Ext K ρ N H ρ' S'.length H' → RSt pw K ρ' H' S' → RL K ρ' S'.length H' ls' σ' → D.nx σ' H'
  | .bk ls' S' => ∀ ρ' H' σ', Ext K ρ N H ρ' S'.length H' → RSt pw K ρ' H' S' → RL K ρ' S'.length H' ls' σ' → D.bk σ' H'
  | .ct ls' S' => ∀ ρ' H' σ', Ext K ρ N H ρ' S'.length H' → RSt pw K ρ' H' S' → RL K ρ' S'.length H' ls' σ' → D.ct σ' H'
  | .rt w S' => ∀ ρ' H' v, Ext K ρ N H ρ' S'.length H' → RSt pw K ρ' H' S' → RW K ρ' S'.length H' w v → D.rt v H'
  | .exc e ls' S' => ∀ ρ' H' σ' cls d, Ext K ρ N H ρ' S'.length H' → RSt pw K ρ' H' S' → RL K ρ' S'.length H' ls' σ' → RX K ρ' S'.length H' e cls d → Wx cls d σ' H'
  | .bad => False
abbrev RBool : RelF Bool Bool := fun _ _ _ _ a b => a = b
section
variable {α β γ δ : Type} {R : RelF α β} {R2 : RelF γ δ} {K : PySem.W.Frag} {ρ ρ' : Nat → Addr} {N N' : Nat} {H H' : Hp} {Ex : XK} {o : Out α} {Q Q' : β → Hp → Prop}
theorem Post.imp (h : Post pw R K ρ N H Ex o Q) (q : ∀ b H', Q b H' → Q' b H') : Post pw R K ρ N H Ex o Q' := by
  cases o with
  | ok a S' => exact fun ρ' H' b e r x => q b H' (h ρ' H' b e r x)
  | exc e S' => exact h
  | bad => exact h
theorem Post.ext (e : Ext K ρ N H ρ' N' H') (h : Post pw R K ρ N H Ex o Q) : Post pw R K ρ' N' H' Ex o Q := by
  cases o with
  | ok a S' => exact fun ρ2 H2 b e2 r x => h ρ2 H2 b (e.trans e2) r x
  | exc x S' => exact fun ρ2 H2 c d e2 r x => h ρ2 H2 c d (e.trans e2) r x
  | bad => exact h
theorem PostS.ext {Wx : WX} {so : SOut} {D : Ends} (e : Ext K ρ N H ρ' N' H') (h : PostS pw K ρ N H Wx so D) : PostS pw K ρ' N' H' Wx so D := by
  cases so with
  | nx a S' => exact fun ρ2 H2 b e2 r x => h ρ2 H2 b (e.trans e2) r x
  | bk a S' => exact fun ρ2 H2 b e2 r x => h ρ2 H2 b (e.trans e2) r x
  | ct a S' => exact fun ρ2 H2 b e2 r x => h ρ2 H2 b (e.trans e2) r x
  | rt a S' => exact fun ρ2 H2 b e2 r x => h ρ2 H2 b (e.trans e2) r x
  | exc x a S' => exact fun ρ2 H2 b c d e2 r x => h ρ2 H2 b c d (e.trans e2) r x
  | bad => exact h
theorem Post.bind {f : α → Sto → Out γ} {Q : δ → Hp → Prop} (h : Post pw R2 K ρ N H Ex (o.bind f) Q) :
    Post pw R K ρ N H Ex o fun b H1 => ∃ ρ1 S1 a, Ext K ρ N H ρ1 S1.length H1 ∧ RSt pw K ρ1 H1 S1 ∧ R K ρ1 S1.length H1 a b ∧ Post pw R2 K ρ1 S1.length H1 Ex (f a S1) Q := by
  cases o with
  | ok a S' => exact fun ρ1 H1 b e r x => ⟨ρ1, S', a, e, r, x, Post.ext e h⟩
  | exc x S' => exact h
  | bad => exact h
theorem Post.then {Wx : WX} {ls : Ls} {σ : L2.St} {f : α → Sto → SOut} {D : Ends} (hl : RL K ρ N H ls σ) (h : PostS pw K ρ N H Wx (o.then ls f) D) :
    Post pw R K ρ N H (fun c d H' => Wx c d σ H') o fun b H1 => ∃ ρ1 S1 a, Ext K ρ N H ρ1 S1.length H1 ∧ RSt pw K ρ1 H1 S1 ∧ R K ρ1 S1.length H1 a b ∧ PostS pw K ρ1 S1.length H1 Wx (f a S1) D := by
  cases o with
  | ok a S' => exact fun ρ1 H1 b e r x => ⟨ρ1, S', a, e, r, x, PostS.ext e h⟩
  | exc x S' => exact fun ρ1 H1 c d e r x => h ρ1 H1 σ c d e r (hl.ext e) x
  | bad => exact h
theorem PostS.seq {Wx : WX} {so : SOut} {f : MS} {D : Ends} (h : PostS pw K ρ N H Wx (so.seq f) D) :
    PostS pw K ρ N H Wx so { D with nx := fun σ1 H1 => ∃ ρ1 S1 ls1, Ext K ρ N H ρ1 S1.length H1 ∧ RSt pw K ρ1 H1 S1 ∧ RL K ρ1 S1.length H1 ls1 σ1 ∧ PostS pw K ρ1 S1.length H1 Wx (f ls1 S1) D } := by
  cases so with
  | nx a S' => exact fun ρ1 H1 b e r x => ⟨ρ1, S', a, e, r, x, PostS.ext e h⟩
  | _ => exact h
end
def tE (pw : PgW) (K : PySem.W.Frag) (Wx : WX) (m : ME) : TE := fun σ H Q => ∃ ρ S ls, RSt pw K ρ H S ∧ RL K ρ S.length H ls σ ∧ Post pw RW K ρ S.length H (fun c d H' => Wx c d σ H') (m ls S) Q
def tT (pw : PgW) (K : PySem.W.Frag) (Wx : WX) (m : MT) : TT := fun σ H Q => ∃ ρ S ls, RSt pw K ρ H S ∧ RL K ρ S.length H ls σ ∧ Post pw RBool K ρ S.length H (fun c d H' => Wx c d σ H') (m ls S) Q
def tA (pw : PgW) (K : PySem.W.Frag) (Wx : WX) (m : MA) : TA := fun σ H Q => ∃ ρ S ls, RSt pw K ρ H S ∧ RL K ρ S.length H ls σ ∧ Post pw RWs K ρ S.length H (fun c d H' => Wx c d σ H') (m ls S) Q
def tS (pw : PgW) (K : PySem.W.Frag) (Wx : WX) (m : MS) : TS := fun D σ H => ∃ ρ S ls, RSt pw K ρ H S ∧ RL K ρ S.length H ls σ ∧ PostS pw K ρ S.length H Wx (m ls S) D
abbrev IE (X : Cx) (Wx : WX) (e : Expr) (m : ME) : Prop := PE X e (tE (pwX X) X.K Wx m)
abbrev IT (X : Cx) (Wx : WX) (e : Expr) (m : MT) : Prop := PT X e (tT (pwX X) X.K Wx m)
abbrev IW (X : Cx) (Wx : WX) (e : Expr) (m : MT) : Prop := PW X e (tT (pwX X) X.K Wx m)
abbrev IA (X : Cx) (Wx : WX) (es : List Expr) (m : MA) : Prop := PA X es (tA (pwX X) X.K Wx m)
abbrev IS (X : Cx) (Wx : WX) (st : Stmt) (m : MS) : Prop := PS X st (tS (pwX X) X.K Wx m)
abbrev ISs (X : Cx) (Wx : WX) (st : List Stmt) (m : MS) : Prop := PSs X st (tS (pwX X) X.K Wx m)
theorem PEi {X : Cx} {e : Expr} {t t' : TE} (h : PE X e t) (i : ∀ σ H Q, t' σ H Q → t σ H Q) : PE X e t' := ⟨fun pins s σ H Q I hw => h.run pins s σ H Q I (i _ _ _ hw)⟩
theorem PTi {X : Cx} {e : Expr} {t t' : TT} (h : PT X e t) (i : ∀ σ H Q, t' σ H Q → t σ H Q) : PT X e t' := ⟨fun pins s σ H Q I hw => h.run pins s σ H Q I (i _ _ _ hw)⟩
theorem PWi {X : Cx} {e : Expr} {t t' : TT} (h : PW X e t) (i : ∀ σ H Q, t' σ H Q → t σ H Q) : PW X e t' := ⟨fun wh pins s σ H Q I hw => h.run wh pins s σ H Q I (i _ _ _ hw)⟩
theorem PAi {X : Cx} {e : List Expr} {t t' : TA} (h : PA X e t) (i : ∀ σ H Q, t' σ H Q → t σ H Q) : PA X e t' := ⟨fun pos pins s σ H Q I hw => h.run pos pins s σ H Q I (i _ _ _ hw)⟩
theorem PSi {X : Cx} {e : Stmt} {t t' : TS} (h : PS X e t) (i : ∀ D σ H, t' D σ H → t D σ H) : PS X e t' := ⟨fun pins s σ H D I hw => h.run pins s σ H D I (i _ _ _ hw)⟩
theorem PSsi {X : Cx} {e : List Stmt} {t t' : TS} (h : PSs X e t) (i : ∀ D σ H, t' D σ H → t D σ H) : PSs X e t' := ⟨fun pins s σ H D I hw => h.run pins s σ H D I (i _ _ _ hw)⟩
section
variable {X : Cx} {Wx : WX} {pos : Pos}
def eVar (i : Nat) : ME := fun ls S => match ls[i]? with
  | some (some w) => .ok w S
  | _ => .bad
def eC (w : PV) : ME := fun _ S => .ok w S
theorem ie_var (i : Nat) {x : Str} (hN : X.N[i]? = some x := by rfl) (hv : Vis X.env.scope x := by first | exact Or.inl rfl | exact Or.inr (Or.inl rfl) | exact Or.inr (Or.inr rfl)) (hd : (x == ("__debug__" : Str)) = false := by decide) (hcd : (x == ("__classdict__" : Str)) = false := by decide) :
    IE X Wx (.Name x pos) (eVar i) := PEi (pe_var hN hv hd hcd) fun σ H Q ⟨ρ, S, ls, hS, hL, h⟩ => by
  unfold eVar at h
  split at h
  · rename_i w e
    obtain ⟨v, e1, r⟩ := hL.get e
    exact ⟨v, e1, h ρ H v .refl hS r⟩
  · exact h.elim
theorem ie_int {i j} : IE X Wx (.Constant (.int i) j pos) (eC (.int i)) := PEi pe_int fun σ H Q ⟨ρ, S, ls, hS, hL, h⟩ => h ρ H _ .refl hS (.int i)
theorem ie_bl {i j} : IE X Wx (.Constant (.bool i) j pos) (eC (.bl i)) := PEi pe_bl fun σ H Q ⟨ρ, S, ls, hS, hL, h⟩ => h ρ H _ .refl hS (.bl i)
theorem ie_non {j} : IE X Wx (.Constant .none j pos) (eC .non) := PEi pe_non fun σ H Q ⟨ρ, S, ls, hS, hL, h⟩ => h ρ H _ .refl hS .non
theorem ie_str {x : Str} {l : List Nat} {j} (hx : x.cps.toList = l) : IE X Wx (.Constant (.str x) j pos) (eC (.str l)) := PEi pe_str fun σ H Q ⟨ρ, S, ls, hS, hL, h⟩ => h ρ H _ .refl hS (by rw [← hx]; exact .str x)
def GVal (K : PySem.W.Frag) (v : V) (w : PV) : Prop := ∀ ρ N H, RW K ρ N H w v
theorem ie_glob {x : Str} {v : V} {u : Value} {w : PV} (hg : Gl X x) (hm : X.mg x = some u) (r : RelV v u) (g : GVal X.K v w) (hd : (x == ("__debug__" : Str)) = false := by decide) : IE X Wx (.Name x pos) (eC w) :=
  PEi (pe_glob hg hm r hd) fun σ H Q ⟨ρ, S, ls, hS, hL, h⟩ => h ρ H _ .refl hS (g _ _ _)
def OpI (X : Cx) (Wx : WX) (r : R2) (g : PV → PV → Sto → Out PV) : Prop :=
  ∀ (ρ : Nat → Addr) (S : Sto) (H : Hp) (w1 w2 : PV) (x y : V) (Ex : XK) (Q : VK), RSt (pwX X) X.K ρ H S → RW X.K ρ S.length H w1 x → RW X.K ρ S.length H w2 y → Post (pwX X) RW X.K ρ S.length H Ex (g w1 w2 S) Q → r x y H Q
def eOp (g : PV → PV → Sto → Out PV) (a b : ME) : ME := fun ls S => (a ls S).bind fun w1 S1 => (b ls S1).bind fun w2 S2 => g w1 w2 S2
variable {a b c : Expr} {ma mb mc : ME} {g : PV → PV → Sto → Out PV} {r : R2}
theorem bin_in {σ : L2.St} {H : Hp} {Q : VK} (hi : OpI X Wx r g) (h : tE (pwX X) X.K Wx (eOp g ma mb) σ H Q) : tOp r (tE (pwX X) X.K Wx ma) (tE (pwX X) X.K Wx mb) σ H Q := by
  obtain ⟨ρ, S, ls, hS, hL, h⟩ := h
  refine ⟨ρ, S, ls, hS, hL, (Post.bind (R := RW) h).imp ?_⟩
  rintro x H1 ⟨ρ1, S1, w1, e1, hS1, r1, h1⟩
  refine ⟨ρ1, S1, ls, hS1, hL.ext e1, (Post.bind (R := RW) h1).imp ?_⟩
  rintro y H2 ⟨ρ2, S2, w2, e2, hS2, r2, h2⟩
  exact hi ρ2 S2 H2 w1 w2 x y _ Q hS2 (r1.ext e2) r2 h2
theorem ie_bin {op : Operator} (ho : OpR X (binaryOp op) r) (hi : OpI X Wx r g) (ha : IE X Wx a ma) (hb : IE X Wx b mb) : IE X Wx (.BinOp a op b pos) (eOp g ma mb) :=
  PEi (pe_op ho ha hb) fun σ H Q h => bin_in hi h
theorem ie_cmp {op : CmpOp} (ho : OpR X (compareOp op) r) (hi : OpI X Wx r g) (ha : IE X Wx a ma) (hb : IE X Wx b mb) (hm : behindInMarks op b = false) : IE X Wx (.Compare a [op] [b] pos) (eOp g ma mb) :=
  PEi (pe_cmpR ho ha hb hm) fun σ H Q h => bin_in hi h
def asB : PV → Sto → Out Bool := fun w S => match w with
  | .bl b => .ok b S
  | _ => .bad
def toT (m : ME) : MT := fun ls S => (m ls S).bind asB
theorem test_in {σ : L2.St} {H : Hp} {Q : Bool → Hp → Prop} (h : tT (pwX X) X.K Wx (toT ma) σ H Q) : tTest (tE (pwX X) X.K Wx ma) σ H Q := by
  obtain ⟨ρ, S, ls, hS, hL, h⟩ := h
  refine ⟨ρ, S, ls, hS, hL, (Post.bind (R := RW) h).imp ?_⟩
  rintro x H1 ⟨ρ1, S1, w1, e1, hS1, r1, h1⟩
  unfold asB at h1
  split at h1
  · cases r1
    exact ⟨_, rfl, h1 ρ1 H1 _ .refl hS1 rfl⟩
  · exact h1.elim
theorem it_cmp {op : CmpOp} (ho : OpR X (compareOp op) r) (hi : OpI X Wx r g) (ha : IE X Wx a ma) (hb : IE X Wx b mb) (hm : behindInMarks op b = false) : IT X Wx (.Compare a [op] [b] pos) (toT (eOp g ma mb)) :=
  PTi (pt_cmpR ho ha hb hm) fun σ H Q h => bin_in hi (test_in h)
variable {g' : PV → PV → Sto → Out PV} {r' : R2}
end
end GL
set_option Elab.async false
set_option linter.all false
set_option maxRecDepth 100000
set_option maxHeartbeats 1000000
namespace GL
open PySem PySem.Spec PyProof.Rows L2
variable {pw : PgW}
mutual
def PV.beq : PV → PV → Bool
  | .non, .non => true
  | .bl a, .bl b => a == b
  | .int a, .int b => decide (a = b)
  | .str a, .str b => decide (a = b)
  | .tup a, .tup b => PV.beqs a b
  | .loc a, .loc b => Nat.beq a b
  | .gl a, .gl b => decide (a = b)
  | .ty a, .ty b => decide (a = b)
  | .xn a b c d e, .xn a' b' c' d' e' => (Nat.beq a a' && (Nat.beq b b' && (decide (c = c') && decide (d = d')))) && PV.beqs e e'
  | _, _ => false
def PV.beqs : List PV → List PV → Bool
  | [], [] => true
  | a :: r, b :: s => PV.beq a b && PV.beqs r s
  | _, _ => false
end
mutual
theorem PV.eq_of_beq : ∀ {a b : PV}, PV.beq a b = true → a = b
  | .non, b, h => by cases b <;> first | rfl | (simp [PV.beq] at h)
  | .bl a, b, h => by cases b <;> first | (simp [PV.beq] at h; subst h; rfl) | (simp [PV.beq] at h)
  | .int a, b, h => by cases b <;> first | (simp [PV.beq] at h; subst h; rfl) | (simp [PV.beq] at h)
  | .str a, b, h => by cases b <;> first | (simp [PV.beq] at h; subst h; rfl) | (simp [PV.beq] at h)
  | .tup a, b, h => by
    cases b with
    | tup c => simp only [PV.beq] at h; rw [PV.eqs_of_beqs h]
    | _ => simp [PV.beq] at h
  | .loc a, b, h => by
    cases b with
    | loc c => simp only [PV.beq] at h; rw [Nat.eq_of_beq_eq_true h]
    | _ => simp [PV.beq] at h
  | .gl a, b, h => by cases b <;> first | (simp [PV.beq] at h; subst h; rfl) | (simp [PV.beq] at h)
  | .ty a, b, h => by cases b <;> first | (simp [PV.beq] at h; subst h; rfl) | (simp [PV.beq] at h)
  | .xn a b c d e, z, h => by
    cases z with
    | xn a' b' c' d' e' =>
      simp only [PV.beq, Bool.and_eq_true, decide_eq_true_eq] at h
      obtain ⟨⟨h1, h2, h3, h4⟩, h5⟩ := h
      rw [Nat.eq_of_beq_eq_true h1, Nat.eq_of_beq_eq_true h2, h3, h4, PV.eqs_of_beqs h5]
    | _ => simp [PV.beq] at h
theorem PV.eqs_of_beqs : ∀ {a b : List PV}, PV.beqs a b = true → a = b
  | [], [], _ => rfl
  | [], _ :: _, h => by simp [PV.beqs] at h
  | _ :: _, [], h => by simp [PV.beqs] at h
  | a :: r, b :: s, h => by
    simp only [PV.beqs, Bool.and_eq_true] at h
    rw [PV.eq_of_beq h.1, PV.eqs_of_beqs h.2]
end
mutual
theorem PV.beq_self : ∀ a : PV, PV.beq a a = true
  | .non => by simp [PV.beq]
  | .bl a => by simp [PV.beq]
  | .int a => by simp [PV.beq]
  | .str a => by simp [PV.beq]
  | .tup a => by simp only [PV.beq]; exact PV.beqs_self a
  | .loc a => by simp only [PV.beq]; exact Nat.beq_refl a
  | .gl a => by simp [PV.beq]
  | .ty a => by simp [PV.beq]
  | .xn a b c d e => by simp only [PV.beq]; rw [Nat.beq_refl, Nat.beq_refl, PV.beqs_self e]; simp
theorem PV.beqs_self : ∀ a : List PV, PV.beqs a a = true
  | [] => by simp [PV.beqs]
  | a :: r => by simp only [PV.beqs, Bool.and_eq_true]; exact ⟨PV.beq_self a, PV.beqs_self r⟩
end
def tAndM (a b : MT) : MT := fun ls S => (a ls S).bind fun k S1 => if k = true then b ls S1 else .ok false S1
def tOrM (a b : MT) : MT := fun ls S => (a ls S).bind fun k S1 => if k = true then .ok true S1 else b ls S1
def tNotM (a : MT) : MT := fun ls S => (a ls S).bind fun k S1 => .ok (!k) S1
def eNotM (a : ME) : ME := fun ls S => (a ls S).bind fun w S1 => match w with
  | .bl k => .ok (.bl (!k)) S1
  | _ => .bad
def eAndM (a b : ME) : ME := fun ls S => (a ls S).bind fun w S1 => match w with
  | .bl true => b ls S1
  | .bl false => .ok (.bl false) S1
  | _ => .bad
section
variable {X : Cx} {Wx : WX} {pos : Pos} {a b c : Expr} {rest : List Expr} {ma mb mc : ME} {ta tb : MT}
theorem it_val (h : IE X Wx a ma) (he : ∀ whole, isTrue a X.env whole = (do let v ← whole; standAt a.pos; holding [v] (truthy v)) := by intro _; rfl) : IT X Wx a (toT ma) :=
  PTi (pt_val h he) fun σ H Q q => test_in q
theorem iw_or1 (ha : IT X Wx a ta) : IW X Wx (.BoolOp .Or [a] pos) ta := pw_or1 ha
theorem iw_or (ha : IT X Wx a ta) (hb : IW X Wx (.BoolOp .Or (b :: rest) pos) tb) : IW X Wx (.BoolOp .Or (a :: b :: rest) pos) (tOrM ta tb) :=
  PWi (pw_or ha hb) fun σ H Q ⟨ρ, S, ls, hS, hL, h⟩ => ⟨ρ, S, ls, hS, hL, (Post.bind (R := RBool) h).imp fun k H1 ⟨ρ1, S1, k1, e1, hS1, r1, h1⟩ => by
    have r1 : k1 = k := r1
    subst k
    cases k1
    · rw [if_neg Bool.false_ne_true] at h1 ⊢; exact ⟨ρ1, S1, ls, hS1, hL.ext e1, h1⟩
    · rw [if_pos rfl] at h1 ⊢; exact h1 ρ1 H1 _ .refl hS1 rfl⟩
theorem it_w {e : Expr} {t : MT} (h : IW X Wx e t) : IT X Wx e t := PW.pt h
theorem it_not (ha : IT X Wx a ta) : IT X Wx (.UnaryOp .Not a pos) (tNotM ta) :=
  PTi (pt_not ha) fun σ H Q ⟨ρ, S, ls, hS, hL, h⟩ => ⟨ρ, S, ls, hS, hL, (Post.bind (R := RBool) h).imp fun k H1 ⟨ρ1, S1, k1, e1, hS1, r1, h1⟩ => by
    cases r1
    exact h1 ρ1 H1 _ .refl hS1 rfl⟩
theorem ie_not (ha : IE X Wx a ma) : IE X Wx (.UnaryOp .Not a pos) (eNotM ma) :=
  PEi (pe_not ha) fun σ H Q ⟨ρ, S, ls, hS, hL, h⟩ => ⟨ρ, S, ls, hS, hL, (Post.bind (R := RW) h).imp fun x H1 ⟨ρ1, S1, w1, e1, hS1, r1, h1⟩ => by
    split at h1
    · cases r1
      exact ⟨_, rfl, h1 ρ1 H1 _ .refl hS1 (.bl _)⟩
    · exact h1.elim⟩
theorem ie_one {op} {m : ME} (h : IE X Wx a m) : IE X Wx (.BoolOp op [a] pos) m := pe_one h
theorem ie_and (ha : IE X Wx a ma) (hb : IE X Wx (.BoolOp .And (b :: rest) pos) mb) : IE X Wx (.BoolOp .And (a :: b :: rest) pos) (eAndM ma mb) :=
  PEi (pe_and ha hb) fun σ H Q ⟨ρ, S, ls, hS, hL, h⟩ => ⟨ρ, S, ls, hS, hL, (Post.bind (R := RW) h).imp fun x H1 ⟨ρ1, S1, w1, e1, hS1, r1, h1⟩ => by
    split at h1
    · cases r1
      exact ⟨true, rfl, by rw [if_pos rfl]; exact ⟨ρ1, S1, ls, hS1, hL.ext e1, h1⟩⟩
    · cases r1
      exact ⟨false, rfl, by rw [if_neg Bool.false_ne_true]; exact h1 ρ1 H1 _ .refl hS1 (.bl _)⟩
    · exact h1.elim⟩
def aNil : MA := fun _ S => .ok [] S
def aCons (a : ME) (r : MA) : MA := fun ls S => (a ls S).bind fun w S1 => (r ls S1).bind fun ws S2 => .ok (w :: ws) S2
variable {es : List Expr} {e : Expr} {mr : MA}
theorem ia_nil : IA X Wx [] aNil := PAi pa_nil fun σ H Q ⟨ρ, S, ls, hS, hL, h⟩ => h ρ H _ .refl hS .nil
theorem ia_cons (ha : IE X Wx e ma) (hr : IA X Wx es mr) (hs : starEach (e :: es) X.env = (false, eval e X.env) :: starEach es X.env := by rfl) : IA X Wx (e :: es) (aCons ma mr) :=
  PAi (pa_cons ha hr hs) fun σ H Q ⟨ρ, S, ls, hS, hL, h⟩ => ⟨ρ, S, ls, hS, hL, (Post.bind (R := RW) h).imp fun x H1 ⟨ρ1, S1, w1, e1, hS1, r1, h1⟩ =>
    ⟨ρ1, S1, ls, hS1, hL.ext e1, (Post.bind (R := RWs) h1).imp fun xs H2 ⟨ρ2, S2, ws, e2, hS2, r2, h2⟩ => h2 ρ2 H2 _ .refl hS2 (.cons (r1.ext e2) r2)⟩⟩
def lim : Nat := 100000
theorem lim_sz {n : Nat} (h : n ≤ lim) : n ≤ sizeLine := Nat.le_trans h (by decide)
theorem lim_lt {n : Nat} (h : n < lim) : n < sizeLine := Nat.lt_of_lt_of_le h (by decide)
def eTup (m : MA) : ME := fun ls S => (m ls S).bind fun ws S1 => if ws.length ≤ lim then .ok (.tup ws) S1 else .bad
def eLst (m : MA) : ME := fun ls S => (m ls S).bind fun ws S1 => if ws.length ≤ lim then .ok (.loc S1.length) (S1 ++ [.lst ws]) else .bad
theorem mk_tup {K : PySem.W.Frag} {ρ : Nat → Addr} {S : Sto} {H : Hp} {ws : List PV} {vs : List V} {Ex : XK} {Q : VK} (hS : RSt pw K ρ H S) (r : RWs K ρ S.length H ws vs) (h : Post pw RW K ρ S.length H Ex (.ok (.tup ws) S) Q) :
    ∀ p, H p = none → Q (.ref p) (upd H p (.tup vs)) := fun p hp => by
  have e : Ext K ρ S.length H ρ S.length (upd H p (.tup vs)) := ext_keep hp
  exact h ρ _ _ e (hS.keep hp) (.tup (SqT.of upd_same) (r.ext e))
theorem mk_lst {K : PySem.W.Frag} {ρ : Nat → Addr} {S : Sto} {H : Hp} {ws : List PV} {vs : List V} {Ex : XK} {Q : VK} (hS : RSt pw K ρ H S) (r : RWs K ρ S.length H ws vs) (h : Post pw RW K ρ S.length H Ex (.ok (.loc S.length) (S ++ [.lst ws])) Q) :
    ∀ p, H p = none → Q (.ref p) (upd H p (.lst vs)) := fun p hp => by
  have e : Ext K ρ S.length H (grow ρ S.length p) (S.length + 1) (upd H p (.lst vs)) := ext_new hp
  have hl : (S ++ [OB.lst ws]).length = S.length + 1 := by simp
  have n := RSt.new (o := .lst ws) hS hp rfl ⟨vs, upd_same, r.ext e⟩
  refine h _ _ _ (by rw [hl]; exact e) n ?_
  rw [hl]
  have q : RW K (grow ρ S.length p) (S.length + 1) (upd H p (.lst vs)) (.loc S.length) (.ref (grow ρ S.length p S.length)) := .loc _ (Nat.lt_succ_self _)
  rw [grow_new] at q
  exact q
theorem ie_tup {x1} (h : IA X Wx es mr) : IE X Wx (.Tuple es x1 pos) (eTup mr) :=
  PEi (pe_tup h) fun σ H Q ⟨ρ, S, ls, hS, hL, h⟩ => ⟨ρ, S, ls, hS, hL, (Post.bind (R := RWs) h).imp fun xs H1 ⟨ρ1, S1, ws, e1, hS1, r1, h1⟩ => by
    split at h1
    · rename_i hz
      exact ⟨by rw [← r1.length]; exact lim_sz hz, mk_tup hS1 r1 h1⟩
    · exact h1.elim⟩
theorem ie_lst (h : IA X Wx es mr) : IE X Wx (.List es pos) (eLst mr) :=
  PEi (pe_lst h) fun σ H Q ⟨ρ, S, ls, hS, hL, h⟩ => ⟨ρ, S, ls, hS, hL, (Post.bind (R := RWs) h).imp fun xs H1 ⟨ρ1, S1, ws, e1, hS1, r1, h1⟩ => by
    split at h1
    · rename_i hz
      exact ⟨by rw [← r1.length]; exact lim_sz hz, mk_lst hS1 r1 h1⟩
    · exact h1.elim⟩
end
def sNil : MS := fun ls S => .nx ls S
def sSeq (a b : MS) : MS := fun ls S => (a ls S).seq b
def sSet (i : Nat) (m : ME) : MS := fun ls S => (m ls S).then ls fun w S1 => .nx (ls.set i (some w)) S1
def sExpr (m : ME) : MS := fun ls S => (m ls S).then ls fun _ S1 => .nx ls S1
def sRet (m : ME) : MS := fun ls S => (m ls S).then ls fun w S1 => .rt w S1
def sIf (c : MT) (a b : MS) : MS := fun ls S => (c ls S).then ls fun k S1 => if k = true then a ls S1 else b ls S1
def sBad : MS := fun _ _ => .bad
def sBk : MS := fun ls S => .bk ls S
section
variable {X : Cx} {Wx : WX} {pos : Pos} {st : Stmt} {rest : List Stmt} {m1 m2 : MS} {e c : Expr} {me : ME} {mt : MT}
theorem iss_nil : ISs X Wx [] sNil := PSsi pss_nil fun D σ H ⟨ρ, S, ls, hS, hL, h⟩ => h ρ H σ .refl hS hL
theorem iss_cons (h1 : IS X Wx st m1) (h2 : ISs X Wx rest m2) : ISs X Wx (st :: rest) (sSeq m1 m2) :=
  PSsi (pss_cons h1 h2) fun D σ H ⟨ρ, S, ls, hS, hL, h⟩ => ⟨ρ, S, ls, hS, hL, by
    have q := PostS.seq h
    cases hm : m1 ls S with
    | nx a S' =>
      rw [hm] at q
      exact fun ρ1 H1 σ1 e r x => by
        obtain ⟨ρ2, S2, ls2, _, a, b, c⟩ := q ρ1 H1 σ1 e r x
        exact ⟨ρ2, S2, ls2, a, b, c⟩
    | bk a S' => rw [hm] at q; exact q
    | ct a S' => rw [hm] at q; exact q
    | rt a S' => rw [hm] at q; exact q
    | exc a b S' => rw [hm] at q; exact q
    | bad => rw [hm] at q; exact q⟩
theorem iss_one (h1 : IS X Wx st m1) : ISs X Wx [st] m1 := pss_one h1
theorem is_break : IS X Wx (.Break pos) sBk := PSi ps_break fun D σ H ⟨ρ, S, ls, hS, hL, h⟩ => h ρ H σ .refl hS hL
theorem is_set {i : Nat} {x : Str} {pos' : Pos} (hN : X.N.Nodup) (he : IE X Wx e me) (hi : X.N[i]? = some x := by rfl) (hx : Loc X.env.scope x := by first | exact Or.inl rfl | exact Or.inr rfl) (hs : swapsWith e (some (.Name x pos')) pos.line X.env = pure false := by rfl) (hf : X.fn x = true ∨ X.env.scope.names.lookup x = some .local := by first | exact .inl rfl | exact .inr rfl) :
    IS X Wx (.Assign [.Name x pos'] e pos) (sSet i me) :=
  PSi (ps_set (i := i) hN hi hx he hs hf) fun D σ H ⟨ρ, S, ls, hS, hL, h⟩ => ⟨ρ, S, ls, hS, hL, (Post.then (R := RW) hL h).imp fun x H1 ⟨ρ1, S1, w1, e1, hS1, r1, h1⟩ => h1 ρ1 H1 _ .refl hS1 (RL.set r1 _ (hL.ext e1))⟩
theorem is_expr (he : IE X Wx e me) (hs : swapsWith e none pos.line X.env = pure false := by rfl) : IS X Wx (.Expr e pos) (sExpr me) :=
  PSi (ps_expr he hs) fun D σ H ⟨ρ, S, ls, hS, hL, h⟩ => ⟨ρ, S, ls, hS, hL, (Post.then (R := RW) hL h).imp fun x H1 ⟨ρ1, S1, w1, e1, hS1, r1, h1⟩ => h1 ρ1 H1 _ .refl hS1 (hL.ext e1)⟩
theorem is_ret (he : IE X Wx e me) : IS X Wx (.Return (some e) pos) (sRet me) :=
  PSi (ps_ret he) fun D σ H ⟨ρ, S, ls, hS, hL, h⟩ => ⟨ρ, S, ls, hS, hL, (Post.then (R := RW) hL h).imp fun x H1 ⟨ρ1, S1, w1, e1, hS1, r1, h1⟩ => h1 ρ1 H1 _ .refl hS1 r1⟩
theorem is_if {a b : List Stmt} (hc : IT X Wx c mt) (ha : ISs X Wx a m1) (hb : ISs X Wx b m2) : IS X Wx (.If c a b pos) (sIf mt m1 m2) :=
  PSi (ps_if hc ha hb) fun D σ H ⟨ρ, S, ls, hS, hL, h⟩ => ⟨ρ, S, ls, hS, hL, (Post.then (R := RBool) hL h).imp fun k H1 ⟨ρ1, S1, k1, e1, hS1, r1, h1⟩ => by
    have r1 : k1 = k := r1
    subst k
    cases k1
    · rw [if_neg Bool.false_ne_true] at h1 ⊢; exact ⟨ρ1, S1, ls, hS1, hL.ext e1, h1⟩
    · rw [if_pos rfl] at h1 ⊢; exact ⟨ρ1, S1, ls, hS1, hL.ext e1, h1⟩⟩
end
end GL
set_option Elab.async false
set_option linter.all false
set_option maxRecDepth 100000
set_option maxHeartbeats 1000000
namespace GL
open PySem PySem.Spec PyProof.Rows L2
variable {pw : PgW}
def lstAt (S : Sto) (n : Nat) : Option (List PV) := match S[n]? with
  | some (.lst xs) => some xs
  | _ => none
def seqAt (S : Sto) (n : Nat) : Option (List PV) := match S[n]? with
  | some (.lst xs) => some xs
  | some (.rol xs) => some xs
  | _ => none
section
variable {K : PySem.W.Frag} {ρ : Nat → Addr} {H : Hp} {S : Sto} {n : Nat} {xs : List PV}
theorem lstAt_get (h : lstAt S n = some xs) : S[n]? = some (.lst xs) := by
  unfold lstAt at h; split at h
  · rename_i e; cases h; exact e
  · cases h
theorem lst_of (hS : RSt pw K ρ H S) (h : lstAt S n = some xs) : ∃ vs, H (ρ n) = some (.lst vs) ∧ RWs K ρ S.length H xs vs := hS.at_ _ _ (lstAt_get h)
theorem seq_of (hS : RSt pw K ρ H S) (h : seqAt S n = some xs) : ∃ vs, SqL K H (ρ n) vs ∧ RWs K ρ S.length H xs vs := by
  unfold seqAt at h; split at h
  · rename_i e; cases h
    obtain ⟨vs, a, b⟩ := hS.at_ _ _ e
    exact ⟨vs, SqL.of a, b⟩
  · rename_i e; cases h
    obtain ⟨vs, a, b⟩ := hS.at_ _ _ e
    exact ⟨vs, a.sq, b⟩
  · cases h
theorem set_lst (hS : RSt pw K ρ H S) (h : lstAt S n = some xs) {ys : List PV} {vs : List V} (r : RWs K ρ S.length H ys vs) :
    RSt pw K ρ (upd H (ρ n) (.lst vs)) (S.set n (.lst ys)) ∧ Ext K ρ S.length H ρ (S.set n (.lst ys)).length (upd H (ρ n) (.lst vs)) := by
  obtain ⟨v0, h0, _⟩ := lst_of hS h
  have e : Ext K ρ S.length H ρ S.length (upd H (ρ n) (.lst vs)) := ext_upd h0 trivial
  exact ⟨hS.set (lstAt_get h) rfl rfl ⟨vs, upd_same, r.ext e⟩, by rw [List.length_set]; exact e⟩
end
theorem RWs.nil_inv {K : PySem.W.Frag} {ρ : Nat → Addr} {N : Nat} {H : Hp} {ws : List PV} (r : RWs K ρ N H ws []) : ws = [] := by cases r; rfl
theorem Post.here {K : PySem.W.Frag} {ρ : Nat → Addr} {S : Sto} {H : Hp} {Ex : XK} {Q : VK} {w : PV} {v : V} (h : Post pw RW K ρ S.length H Ex (.ok w S) Q) (hS : RSt pw K ρ H S) (r : RW K ρ S.length H w v) : Q v H := h ρ H v .refl hS r
def gAdd : PV → PV → Sto → Out PV := fun a b S => match a, b with
  | .int i, .int j => .ok (.int (i + j)) S
  | .str x, .str y => if x.length + y.length ≤ lim then .ok (.str (x ++ y)) S else .bad
  | .tup x, .tup y => if x.length + y.length ≤ lim then .ok (.tup (x ++ y)) S else .bad
  | .loc n, .loc m => (match lstAt S n, lstAt S m with
    | some x, some y => if x.length + y.length ≤ lim then .ok (.loc S.length) (S ++ [.lst (x ++ y)]) else .bad
    | _, _ => .bad)
  | _, _ => .bad
def rAddM (K : PySem.W.Frag) : R2 := fun x y H Q => (rI0 fun i j => .int (i + j)) x y H Q ∨
  (∃ i j, x = .str i ∧ y = .str j ∧ i.length + j.length ≤ sizeLine ∧ Q (.str (i ++ j)) H) ∨ rCatA K x y H Q ∨ rCat x y H Q
section
variable {X : Cx} {Wx : WX}
theorem or_addM : OpR X (binaryOp .Add) (rAddM X.K) := op_add.or (op_add_str.or (op_catA.or op_cat))
theorem str_len {x : Str} : x.cps.toList.length = x.length := by simp [Str.length]
theorem oi_add : OpI X Wx (rAddM X.K) gAdd := by
  intro ρ S H w1 w2 x y Ex Q hS r1 r2 h
  unfold gAdd at h
  split at h
  · cases r1; cases r2
    exact .inl ⟨_, _, rfl, rfl, h.here hS (.int _)⟩
  · split at h
    · rename_i hz
      cases r1 with
      | str i => cases r2 with
        | str j =>
          rw [str_len, str_len] at hz
          refine .inr (.inl ⟨_, _, rfl, rfl, lim_sz hz, h.here hS ?_⟩)
          have : (i ++ j).cps.toList = i.cps.toList ++ j.cps.toList := by
            show (i.cps ++ j.cps).toList = _
            simp
          rw [← this]; exact .str _
    · exact h.elim
  · split at h
    · rename_i hz
      cases r1 with
      | tup s1 t1 => cases r2 with
        | tup s2 t2 =>
          rw [t1.length, t2.length] at hz
          refine .inr (.inr (.inl ⟨_, _, _, _, rfl, rfl, s1, s2, lim_sz hz, fun e => ?_, fun _ e => ?_, fun _ _ => mk_tup hS (t1.app t2) h⟩))
          · subst e
            rw [t1.nil_inv, List.nil_append] at h
            exact h.here hS (.tup s2 t2)
          · subst e
            rw [t2.nil_inv, List.append_nil] at h
            exact h.here hS (.tup s1 t1)
    · exact h.elim
  · split at h
    · split at h
      · rename_i e1 e2 hz
        cases r1; cases r2
        obtain ⟨v1, h1, t1⟩ := lst_of hS e1
        obtain ⟨v2, h2, t2⟩ := lst_of hS e2
        rw [t1.length, t2.length] at hz
        exact .inr (.inr (.inr ⟨_, _, _, _, rfl, rfl, h1, h2, lim_sz hz, mk_lst hS (t1.app t2) h⟩))
      · exact h.elim
    · exact h.elim
  · exact h.elim
def gInt (g : Int → Int → Int) : PV → PV → Sto → Out PV := fun a b S => match a, b with
  | .int i, .int j => .ok (.int (g i j)) S
  | _, _ => .bad
def gIntC (c : Int → Int → Bool) (g : Int → Int → Int) : PV → PV → Sto → Out PV := fun a b S => match a, b with
  | .int i, .int j => if c i j = true then .ok (.int (g i j)) S else .bad
  | _, _ => .bad
def gCmpI (g : Int → Int → Bool) : PV → PV → Sto → Out PV := fun a b S => match a, b with
  | .int i, .int j => .ok (.bl (g i j)) S
  | _, _ => .bad
theorem oi_int {g : Int → Int → Int} : OpI X Wx (rI0 fun i j => .int (g i j)) (gInt g) := by
  intro ρ S H w1 w2 x y Ex Q hS r1 r2 h
  unfold gInt at h
  split at h
  · cases r1; cases r2; exact ⟨_, _, rfl, rfl, h.here hS (.int _)⟩
  · exact h.elim
theorem oi_intC {C : Int → Int → Prop} {c : Int → Int → Bool} {g : Int → Int → Int} (hc : ∀ i j, c i j = true → C i j) : OpI X Wx (rI C fun i j => .int (g i j)) (gIntC c g) := by
  intro ρ S H w1 w2 x y Ex Q hS r1 r2 h
  unfold gIntC at h
  split at h
  · split at h
    · rename_i q
      cases r1; cases r2; exact ⟨_, _, rfl, rfl, hc _ _ q, h.here hS (.int _)⟩
    · exact h.elim
  · exact h.elim
theorem oi_cmpI {g : Int → Int → Bool} : OpI X Wx (rI0 fun i j => .bl (g i j)) (gCmpI g) := by
  intro ρ S H w1 w2 x y Ex Q hS r1 r2 h
  unfold gCmpI at h
  split at h
  · cases r1; cases r2; exact ⟨_, _, rfl, rfl, h.here hS (.bl _)⟩
  · exact h.elim
def gSub := gInt fun i j => i - j
def cDiv : Int → Int → Bool := fun _ j => decide (0 < j) && decide (j < 1073741824)
def cMod : Int → Int → Bool := fun _ j => decide (0 < j)
def gDiv := gIntC cDiv fun i j => i / j
def gMod := gIntC cMod fun i j => i % j
def gLt := gCmpI fun i j => decide (i < j)
theorem oi_sub : OpI X Wx (rI0 fun i j => .int (i - j)) gSub := oi_int
theorem oi_div : OpI X Wx (rI CDiv fun i j => .int (i / j)) gDiv := oi_intC fun i j h => by
  simp only [cDiv, Bool.and_eq_true, decide_eq_true_eq] at h; exact h
theorem oi_mod : OpI X Wx (rI (fun _ j => 0 < j) fun i j => .int (i % j)) gMod := oi_intC fun i j h => by
  simp only [cMod, decide_eq_true_eq] at h; exact h
theorem oi_lt : OpI X Wx (rI0 fun i j => .bl (decide (i < j))) gLt := oi_cmpI
def big : Int := 18446744073709551616
def smallI (i : Int) : Bool := decide (-big < i) && decide (i < big)
def gMul : PV → PV → Sto → Out PV := fun a b S => match a, b with
  | .int i, .int j => if (smallI i || smallI j) = true then .ok (.int (i * j)) S else .bad
  | .loc n, .int j => (match lstAt S n with
    | some x => if decide (0 ≤ j) && decide (j < 100000) && decide (x.length * j.toNat ≤ lim) then .ok (.loc S.length) (S ++ [.lst (List.replicate j.toNat x).flatten]) else .bad
    | none => .bad)
  | _, _ => .bad
def rMulM : R2 := fun x y H Q => (rI CMul fun i j => .int (i * j)) x y H Q ∨ rRep x y H Q
theorem or_mulM : OpR X (binaryOp .Mult) rMulM := op_mul.or op_rep
theorem smallI_ok {i : Int} (h : smallI i = true) : -(2 ^ 64) < i ∧ i < 2 ^ 64 := by
  have h := Bool.and_eq_true_iff.mp h
  have h : -18446744073709551616 < i ∧ i < 18446744073709551616 := ⟨of_decide_eq_true h.1, of_decide_eq_true h.2⟩
  have e : (2 : Int) ^ 64 = 18446744073709551616 := by decide
  rw [e]; exact h
theorem RWs.rep {K : PySem.W.Frag} {ρ : Nat → Addr} {N : Nat} {H : Hp} {ws : List PV} {vs : List V} (h : RWs K ρ N H ws vs) : ∀ k : Nat, RWs K ρ N H (List.replicate k ws).flatten (List.replicate k vs).flatten
  | 0 => .nil
  | k + 1 => by
    rw [List.replicate_succ, List.replicate_succ, List.flatten_cons, List.flatten_cons]
    exact h.app (RWs.rep h k)
theorem oi_mul : OpI X Wx rMulM gMul := by
  intro ρ S H w1 w2 x y Ex Q hS r1 r2 h
  unfold gMul at h
  split at h
  · split at h
    · rename_i q
      cases r1; cases r2
      refine .inl ⟨_, _, rfl, rfl, ?_, h.here hS (.int _)⟩
      rcases Bool.or_eq_true_iff.mp q with q | q
      · exact .inl (smallI_ok q)
      · exact .inr (smallI_ok q)
    · exact h.elim
  · split at h
    · split at h
      · rename_i e1 hz
        cases r1; cases r2
        obtain ⟨v1, h1, t1⟩ := lst_of hS e1
        simp only [Bool.and_eq_true, decide_eq_true_eq] at hz
        rw [t1.length] at hz
        refine .inr ⟨_, _, _, rfl, rfl, h1, by omega, by omega, lim_sz hz.2, ?_⟩
        exact mk_lst hS (t1.rep _) h
      · exact h.elim
    · exact h.elim
  · exact h.elim
end
def scalP : PV → PV → Option Bool
  | .int i, .int j => some (decide (i = j))
  | .str x, .str y => some (decide (x = y))
  | .bl x, .bl y => some (x == y)
  | .non, .non => some true
  | .non, .int _ => some false
  | .int _, .non => some false
  | .non, .bl _ => some false
  | .bl _, .non => some false
  | .non, .str _ => some false
  | .str _, .non => some false
  | .int _, .str _ => some false
  | .str _, .int _ => some false
  | .bl _, .str _ => some false
  | .str _, .bl _ => some false
  | _, _ => none
def optAll {α β : Type} (f : α → Option β) : List α → Option (List β)
  | [] => some []
  | x :: r => match f x, optAll f r with
    | some d, some ds => some (d :: ds)
    | _, _ => none
def datP (S : Sto) : Nat → PV → Option PyData
  | 0, _ => none
  | f + 1, w => match w with
    | .non => some .none
    | .bl b => some (.bool b)
    | .int i => some (.int i)
    | .str l => if PyData.strOk (toS l) = true then some (.str (toS l)) else none
    | .tup xs => (optAll (datP S f) xs).map .tuple
    | .loc n => (match seqAt S n with
      | some xs => (optAll (datP S f) xs).map .list
      | none => none)
    | _ => none
theorem optAll_some {α β : Type} {f : α → Option β} : ∀ {xs : List α} {ds : List β}, optAll f xs = some ds → ∀ d ∈ ds, ∃ x ∈ xs, f x = some d
  | [], ds, h => by cases h; intro d hd; cases hd
  | x :: r, ds, h => by
    unfold optAll at h
    split at h
    · rename_i d ds' e1 e2
      cases h
      intro d' hd
      rcases List.mem_cons.mp hd with rfl | hd
      · exact ⟨x, List.mem_cons_self, e1⟩
      · obtain ⟨y, hy, q⟩ := optAll_some e2 d' hd
        exact ⟨y, List.mem_cons_of_mem _ hy, q⟩
    · cases h
theorem canAll : ∀ {ds : List PyData}, (∀ d ∈ ds, d.canLay0 = true) → PyData.canLayAll0 ds = true
  | [], _ => by simp [PyData.canLayAll0]
  | d :: r, h => by
    simp only [PyData.canLayAll0, Bool.and_eq_true]
    exact ⟨h d List.mem_cons_self, canAll fun x hx => h x (List.mem_cons_of_mem _ hx)⟩
theorem depAll {n : Nat} : ∀ {ds : List PyData}, (∀ d ∈ ds, d.depth ≤ n) → PyData.depthAll ds ≤ n
  | [], _ => by simp [PyData.depthAll]
  | d :: r, h => by
    simp only [PyData.depthAll]
    exact Nat.max_le.mpr ⟨h d List.mem_cons_self, depAll fun x hx => h x (List.mem_cons_of_mem _ hx)⟩
theorem datP_ok {S : Sto} : ∀ {f : Nat} {w : PV} {d : PyData}, datP S f w = some d → d.canLay0 = true ∧ d.depth ≤ f
  | 0, _, _, h => by cases h
  | f + 1, w, d, h => by
    cases w with
    | non => cases h; simp [PyData.canLay0, PyData.depth]
    | bl b => cases h; simp [PyData.canLay0, PyData.depth]
    | int i => cases h; simp [PyData.canLay0, PyData.depth]
    | str l =>
      simp only [datP] at h
      split at h
      · rename_i q; cases h; simp [PyData.canLay0, PyData.depth, q]
      · cases h
    | tup xs =>
      simp only [datP] at h
      cases e : optAll (datP S f) xs with
      | none => rw [e] at h; cases h
      | some ds =>
        rw [e] at h; cases h
        have q : ∀ d ∈ ds, d.canLay0 = true ∧ d.depth ≤ f := fun d hd => by
          obtain ⟨x, _, q⟩ := optAll_some e d hd
          exact datP_ok q
        simp only [PyData.canLay0, PyData.depth]
        exact ⟨canAll fun d hd => (q d hd).1, Nat.succ_le_succ (depAll fun d hd => (q d hd).2)⟩
    | loc n =>
      simp only [datP] at h
      split at h
      · rename_i xs _
        cases e : optAll (datP S f) xs with
        | none => rw [e] at h; cases h
        | some ds =>
          rw [e] at h; cases h
          have q : ∀ d ∈ ds, d.canLay0 = true ∧ d.depth ≤ f := fun d hd => by
            obtain ⟨x, _, q⟩ := optAll_some e d hd
            exact datP_ok q
          simp only [PyData.canLay0, PyData.depth]
          exact ⟨canAll fun d hd => (q d hd).1, Nat.succ_le_succ (depAll fun d hd => (q d hd).2)⟩
      · cases h
    | gl x => cases h
    | ty b => cases h
    | xn a b c d e => cases h
section
variable {K : PySem.W.Frag} {ρ : Nat → Addr} {H : Hp} {S : Sto}
theorem datP_all {f : Nat} (ih : ∀ {w : PV} {v : V} {d : PyData}, RW K ρ S.length H w v → datP S f w = some d → Dp K H v d) :
    ∀ {xs : List PV} {vs : List V} {ds : List PyData}, RWs K ρ S.length H xs vs → optAll (datP S f) xs = some ds → DpAll K H vs ds
  | [], _, _, r, h => by cases r; cases h; exact .nil
  | x :: xs, _, _, r, h => by
    cases r with
    | cons r rs =>
      unfold optAll at h
      split at h
      · rename_i d ds e1 e2
        cases h
        exact .cons (ih r e1) (datP_all ih rs e2)
      · cases h
theorem datP_dp (hS : RSt pw K ρ H S) : ∀ {f : Nat} {w : PV} {v : V} {d : PyData}, RW K ρ S.length H w v → datP S f w = some d → Dp K H v d
  | 0, _, _, _, _, h => by cases h
  | f + 1, w, v, d, r, h => by
    cases r with
    | non => cases h; exact .non
    | bl b => cases h; exact .bl b
    | int i => cases h; exact .int i
    | str x =>
      simp only [datP, toS_cps] at h
      split at h
      · cases h; exact .str x
      · cases h
    | tup s t =>
      simp only [datP] at h
      cases e : optAll (datP S f) _ with
      | none => rw [e] at h; cases h
      | some ds => rw [e] at h; cases h; exact .tup s (datP_all (datP_dp hS) t e)
    | loc n hn =>
      simp only [datP] at h
      split at h
      · rename_i xs e0
        obtain ⟨vs, s, t⟩ := seq_of hS e0
        cases e : optAll (datP S f) _ with
        | none => rw [e] at h; cases h
        | some ds => rw [e] at h; cases h; exact .lst s (datP_all (datP_dp hS) t e)
      · cases h
    | gl x => cases h
    | ty n => cases h
    | xn _ _ _ => cases h
end
def eqM (neg : Bool) : PV → PV → Sto → Out PV := fun a b S => match scalP a b with
  | some k => .ok (.bl (if neg = true then !k else k)) S
  | none => match datP S 60 a, datP S 60 b with
    | some d, some e => .ok (.bl (if neg = true then !PyData.eqv d e else PyData.eqv d e)) S
    | _, _ => .bad
def gEq := eqM false
def gNe := eqM true
def rEqM (K : PySem.W.Frag) : R2 := fun x y H Q => rEq x y H Q ∨ rEqD K x y H Q
def rNeM (K : PySem.W.Frag) : R2 := fun x y H Q => rNe x y H Q ∨ rNeD K x y H Q
theorem shaped_of {S : Sto} {w : PV} {d : PyData} (h : datP S 60 w = some d) : SeqAt.shaped d = true := by
  obtain ⟨a, b⟩ := datP_ok h
  unfold SeqAt.shaped
  rw [a, Bool.true_and]
  exact decide_eq_true (Nat.le_trans b (by decide))
theorem cps_iff {x y : Str} : x.cps = y.cps ↔ x = y := by
  cases x; cases y; simp
theorem scal_of {K : PySem.W.Frag} {ρ : Nat → Addr} {N : Nat} {H : Hp} {a b : PV} {x y : V} {k : Bool} (ra : RW K ρ N H a x) (rb : RW K ρ N H b y) (h : scalP a b = some k) : scal x y = true ∧ k = decide (x = y) := by
  cases ra <;> cases rb <;> first
    | (simp [scalP] at h; done)
    | (simp only [scalP, Option.some.injEq] at h; subst h; refine ⟨rfl, ?_⟩; first | rfl | (simp [cps_iff]; done) | (rename_i b1 b2; cases b1 <;> cases b2 <;> rfl))
section
variable {X : Cx} {Wx : WX}
theorem or_eqM (hu : X.A.units + 64 < cLine) : OpR X (compareOp .Eq) (rEqM X.K) := op_eq.or (op_eqD hu)
theorem or_neM (hu : X.A.units + 64 < cLine) : OpR X (compareOp .NotEq) (rNeM X.K) := op_ne.or (op_neD hu)
theorem oi_eq : OpI X Wx (rEqM X.K) gEq := by
  intro ρ S H w1 w2 x y Ex Q hS r1 r2 h
  unfold gEq eqM at h
  split at h
  · rename_i k e
    obtain ⟨a, b⟩ := scal_of r1 r2 e
    subst b
    exact .inl ⟨a, h.here hS (.bl _)⟩
  · split at h
    · rename_i d1 d2 e1 e2
      exact .inr ⟨_, _, datP_dp hS r1 e1, datP_dp hS r2 e2, shaped_of e1, shaped_of e2, h.here hS (.bl _)⟩
    · exact h.elim
theorem oi_ne : OpI X Wx (rNeM X.K) gNe := by
  intro ρ S H w1 w2 x y Ex Q hS r1 r2 h
  unfold gNe eqM at h
  split at h
  · rename_i k e
    obtain ⟨a, b⟩ := scal_of r1 r2 e
    subst b
    exact .inl ⟨a, h.here hS (.bl _)⟩
  · split at h
    · rename_i d1 d2 e1 e2
      exact .inr ⟨_, _, datP_dp hS r1 e1, datP_dp hS r2 e2, shaped_of e1, shaped_of e2, h.here hS (.bl _)⟩
    · exact h.elim
end
section
variable {X : Cx} {Wx : WX}
def isNonP : PV → Bool
  | .non => true
  | _ => false
def isM (neg : Bool) : PV → PV → Sto → Out PV := fun a b S => match b with
  | .non => .ok (.bl (if neg then !isNonP a else isNonP a)) S
  | .bl k => (match a with
    | .bl j => .ok (.bl (if neg then !decide (j = k) else decide (j = k))) S
    | _ => .bad)
  | _ => .bad
def rIsM : R2 := fun x y H Q => (y = .non ∧ Q (.bl (decide (x = .non))) H) ∨ ∃ a b, x = .bl a ∧ y = .bl b ∧ Q (.bl (decide (a = b))) H
def rIsNM : R2 := fun x y H Q => (y = .non ∧ Q (.bl (!decide (x = .non))) H) ∨ ∃ a b, x = .bl a ∧ y = .bl b ∧ Q (.bl (!decide (a = b))) H
theorem or_isM : OpR X (compareOp .Is) rIsM := op_isN.or op_is_bl
theorem or_isNM : OpR X (compareOp .IsNot) rIsNM := op_notN.or op_isnot_bl
theorem non_of {K : PySem.W.Frag} {ρ : Nat → Addr} {N : Nat} {H : Hp} {w : PV} {v : V} (r : RW K ρ N H w v) : decide (v = .non) = isNonP w := by cases r <;> simp [isNonP]
theorem oi_is : OpI X Wx rIsM (isM false) := by
  intro ρ S H w1 w2 x y Ex Q hS r1 r2 h
  unfold isM at h
  split at h
  · cases r2
    refine .inl ⟨rfl, ?_⟩
    rw [non_of r1]
    exact h.here hS (.bl _)
  · split at h
    · cases r1; cases r2
      exact .inr ⟨_, _, rfl, rfl, h.here hS (.bl _)⟩
    · exact h.elim
  · exact h.elim
theorem oi_isN : OpI X Wx rIsNM (isM true) := by
  intro ρ S H w1 w2 x y Ex Q hS r1 r2 h
  unfold isM at h
  split at h
  · cases r2
    refine .inl ⟨rfl, ?_⟩
    rw [non_of r1]
    exact h.here hS (.bl _)
  · split at h
    · cases r1; cases r2
      exact .inr ⟨_, _, rfl, rfl, h.here hS (.bl _)⟩
    · exact h.elim
  · exact h.elim
end
end GL
set_option Elab.async false
set_option linter.all false
set_option maxRecDepth 100000
set_option maxHeartbeats 1000000
namespace GL
open PySem PySem.Spec PyProof.Rows L2
variable {pw : PgW}
abbrev MG := PV → Ls → Option Ls
abbrev MGs := List PV → Ls → Option Ls
def gN (i : Nat) : MG := fun w ls => some (ls.set i (some w))
def gsNil : MGs := fun ws ls => match ws with
  | [] => some ls
  | _ => none
def gsCons (g : MG) (r : MGs) : MGs := fun ws ls => match ws with
  | w :: t => (match g w ls with
    | some ls1 => r t ls1
    | none => none)
  | [] => none
def gT (r : MGs) : MG := fun w ls => match w with
  | .tup xs => r xs ls
  | _ => none
def Off (sl : List Nat) (σ σ' : L2.St) : Prop := σ'.length = σ.length ∧ ∀ j, j ∉ sl → σ'[j]? = σ[j]?
theorem Off.trans {s1 s2 : List Nat} {a b c : L2.St} (h : Off s1 a b) (h' : Off s2 b c) : Off (s1 ++ s2) a c :=
  ⟨h'.1.trans h.1, fun j hj => by
    rw [List.mem_append, not_or] at hj
    exact (h'.2 j hj.2).trans (h.2 j hj.1)⟩
theorem wipe_get {σ : L2.St} {j : Nat} : ∀ {vs : List Nat}, (L2.wipe σ vs)[j]? = if j ∈ vs ∧ j < σ.length then some none else σ[j]?
  | [] => by simp [L2.wipe]
  | v :: vs => by
    have hl := L2.wipe_length σ vs
    show ((L2.wipe σ vs).set v none)[j]? = _
    by_cases hv : v = j
    · subst hv
      by_cases hj : v < σ.length
      · rw [List.getElem?_set_self (by rw [hl]; exact hj), if_pos ⟨List.mem_cons_self, hj⟩]
      · rw [List.getElem?_eq_none (by rw [List.length_set, hl]; omega), if_neg (fun h => hj h.2), List.getElem?_eq_none (by omega)]
    · rw [List.getElem?_set_ne hv, wipe_get (vs := vs)]
      have : (j ∈ v :: vs) = (j ∈ vs) := by
        apply propext
        rw [List.mem_cons]
        exact ⟨fun h => h.elim (fun e => absurd e.symm hv) id, .inr⟩
      simp only [this]
theorem Off.wipe {sl vs : List Nat} {σ σ' : L2.St} (h : Off sl (L2.wipe σ vs) σ') (hs : ∀ j ∈ sl, j ∈ vs) : L2.wipe σ' vs = L2.wipe σ vs := by
  have hl := L2.wipe_length σ vs
  apply List.ext_getElem?
  intro j
  rw [wipe_get, wipe_get, h.1, hl]
  split
  · rfl
  · rename_i q
    by_cases hj : j ∈ vs
    · have : ¬ j < σ.length := fun z => q ⟨hj, z⟩
      rw [List.getElem?_eq_none (by rw [h.1, hl]; omega), List.getElem?_eq_none (by omega)]
    · rw [h.2 j (fun z => hj (hs j z)), wipe_get, if_neg (fun z => hj z.1)]
section
variable {X : Cx} {pos : Pos}
def tGm (pw : PgW) (K : PySem.W.Frag) (g : MG) (sl : List Nat) : TG := fun v σ H Q => ∃ ρ S ls w ls', RSt pw K ρ H S ∧ RL K ρ S.length H ls σ ∧ RW K ρ S.length H w v ∧ g w ls = some ls' ∧
  ∀ σ', Off sl σ σ' → RL K ρ S.length H ls' σ' → Q σ' H
abbrev IG (X : Cx) (e : Expr) (g : MG) (sl : List Nat) : Prop := PG X e (tGm (pwX X) X.K g sl)
theorem PGi {e : Expr} {t t' : TG} (h : PG X e t) (i : ∀ v σ H Q, t' v σ H Q → t v σ H Q) : PG X e t' := ⟨fun pins s σ H v u Q I r hw => h.run pins s σ H v u Q I r (i _ _ _ _ hw)⟩
theorem PGsi {e : List Expr} {t t' : TGs} (h : PGs X e t) (i : ∀ v σ H Q, t' v σ H Q → t v σ H Q) : PGs X e t' := ⟨fun pins s σ H v u Q I r hw => h.run pins s σ H v u Q I r (i _ _ _ _ hw)⟩
theorem off_set {σ : L2.St} {i : Nat} {o : Option V} : Off [i] σ (σ.set i o) := ⟨List.length_set, fun j hj => List.getElem?_set_ne (fun e => hj (List.mem_singleton.mpr e.symm))⟩
theorem ig_name {x : Str} (i : Nat) (hN : X.N.Nodup) (hi : X.N[i]? = some x := by rfl) (hx : Loc X.env.scope x := by first | exact Or.inl rfl | exact Or.inr rfl) (hf : X.fn x = true ∨ X.env.scope.names.lookup x = some .local := by first | exact .inl rfl | exact .inr rfl) :
    IG X (.Name x pos) (gN i) [i] := PGi (pg_name (i := i) hN hi hx hf) fun v σ H Q ⟨ρ, S, ls, w, ls', hS, hL, r, e, h⟩ => by
  cases e
  exact h _ off_set (RL.set r i hL)
def sAsg (g : MG) (m : ME) : MS := fun ls S => (m ls S).then ls fun w S1 => match g w ls with
  | some ls1 => .nx ls1 S1
  | none => .bad
end
structure Wk where
  items : List PV
  chk : Nat → Sto → Bool
def RIt (pw : PgW) (K : PySem.W.Frag) (ρ : Nat → Addr) (N : Nat) (H : Hp) (it : Wk) (J : It) : Prop :=
  ∀ ρ' S' H', Ext K ρ N H ρ' S'.length H' → RSt pw K ρ' H' S' →
    (∀ i x, it.items[i]? = some x → it.chk i S' = true → J.go i H' ∧ ∀ v H2, J.yld i H' v H2 → ∃ ρ2, Ext K ρ' S'.length H' ρ2 S'.length H2 ∧ RSt pw K ρ2 H2 S' ∧ RW K ρ2 S'.length H2 x v) ∧
    (it.chk it.items.length S' = true → J.stop it.items.length H')
abbrev MI := Ls → Sto → Out Wk
abbrev RItF {pw : PgW} : RelF Wk It := RIt pw
def tI (pw : PgW) (K : PySem.W.Frag) (Wx : WX) (m : MI) : TI := fun σ H R => ∃ ρ S ls, RSt pw K ρ H S ∧ RL K ρ S.length H ls σ ∧ Post pw (RItF (pw := pw)) K ρ S.length H (fun c d H' => Wx c d σ H') (m ls S) R
abbrev II (X : Cx) (Wx : WX) (tg e : Expr) (m : MI) : Prop := PI X tg e (tI (pwX X) X.K Wx m)
theorem PIi {X : Cx} {tg e : Expr} {t t' : TI} (h : PI X tg e t) (i : ∀ σ H R, t' σ H R → t σ H R) : PI X tg e t' := ⟨fun pins s σ H R I hw => h.run pins s σ H R I (i _ _ _ hw)⟩
def always : Nat → Sto → Bool := fun _ _ => true
def isLst (n : Nat) (xs : List PV) : Nat → Sto → Bool := fun _ S => match S[n]? with
  | some (.lst ys) => PV.beqs ys xs
  | _ => false
theorem isLst_get {n : Nat} {xs : List PV} {S : Sto} {i : Nat} (h : isLst n xs i S = true) : S[n]? = some (.lst xs) := by
  unfold isLst at h
  split at h
  · rename_i e; rw [e, PV.eqs_of_beqs h]
  · cases h
section
variable {K : PySem.W.Frag} {ρ : Nat → Addr} {N : Nat} {H : Hp}
theorem rit_tup {xs : List PV} {a : Addr} {vs : List V} (s : SqT K H a vs) (t : RWs K ρ N H xs vs) : RIt pw K ρ N H ⟨xs, always⟩ (Itt K a) := by
  intro ρ' S' H' e hS
  have s' := e.2.2.1 _ _ s
  have t' := t.ext e
  have w := walk_tup (K := K) (a := a) (xs := vs)
  have hl := t.length
  refine ⟨fun i x hx _ => ?_, fun _ => ?_⟩
  · obtain ⟨v, hv, r⟩ := t'.get hx
    have hi := (List.getElem?_eq_some_iff.mp hv).1
    refine ⟨w.goes i H' hi s', fun v' H2 y => ?_⟩
    obtain ⟨e1, e2⟩ := w.yields i H' v' H2 hi s' y
    subst e1
    rw [hv] at e2; cases e2
    exact ⟨ρ', .refl, hS, r⟩
  · show (Itt K a).stop xs.length H'
    rw [hl]; exact w.stops H' s'
theorem rit_rol {xs : List PV} {a : Addr} {vs : List V} (stay : ∀ ρ' S' H', Ext K ρ N H ρ' S'.length H' → RSt pw K ρ' H' S' → SqL K H' a vs) (t : RWs K ρ N H xs vs) : RIt pw K ρ N H ⟨xs, always⟩ (Itl K a) := by
  intro ρ' S' H' e hS
  have s' := stay ρ' S' H' e hS
  have t' := t.ext e
  have w := walk_list (K := K) (a := a) (xs := vs)
  have hl := t.length
  refine ⟨fun i x hx _ => ?_, fun _ => ?_⟩
  · obtain ⟨v, hv, r⟩ := t'.get hx
    have hi := (List.getElem?_eq_some_iff.mp hv).1
    refine ⟨w.goes i H' hi s', fun v' H2 y => ?_⟩
    obtain ⟨e1, e2⟩ := w.yields i H' v' H2 hi s' y
    subst e1
    rw [hv] at e2; cases e2
    exact ⟨ρ', .refl, hS, r⟩
  · show (Itl K a).stop xs.length H'
    rw [hl]; exact w.stops H' s'
theorem rit_lst {xs : List PV} {n : Nat} (hn : n < N) : RIt pw K ρ N H ⟨xs, isLst n xs⟩ (Itl K (ρ n)) := by
  intro ρ' S' H' e hS
  have en : ρ' n = ρ n := e.2.1 n hn
  refine ⟨fun i x hx hc => ?_, fun hc => ?_⟩
  · obtain ⟨vs, hv, t⟩ := hS.at_ _ _ (isLst_get (i := 0) hc)
    rw [en] at hv
    have w := walk_list (K := K) (a := ρ n) (xs := vs)
    obtain ⟨v, hv2, r⟩ := t.get hx
    have hi := (List.getElem?_eq_some_iff.mp hv2).1
    refine ⟨w.goes i H' hi (SqL.of hv), fun v' H2 y => ?_⟩
    obtain ⟨e1, e2⟩ := w.yields i H' v' H2 hi (SqL.of hv) y
    subst e1
    rw [hv2] at e2; cases e2
    exact ⟨ρ', .refl, hS, r⟩
  · obtain ⟨vs, hv, t⟩ := hS.at_ _ _ (isLst_get (i := 0) hc)
    rw [en] at hv
    have w := walk_list (K := K) (a := ρ n) (xs := vs)
    show (Itl K (ρ n)).stop xs.length H'
    rw [t.length]; exact w.stops H' (SqL.of hv)
theorem rit_rng {lo : Int} {n : Nat} : RIt pw K ρ N H ⟨(List.range n).map fun i => .int (lo + (i : Nat)), always⟩ (L2.Itr lo n) := by
  intro ρ' S' H' e hS
  have w := walk_range (lo := lo) (n := n)
  refine ⟨fun i x hx _ => ?_, fun _ => ?_⟩
  · rw [List.getElem?_map] at hx
    by_cases hi : i < n
    · rw [List.getElem?_range hi] at hx
      cases hx
      refine ⟨w.goes i H' hi trivial, fun v' H2 y => ?_⟩
      obtain ⟨e1, e2⟩ := w.yields i H' v' H2 hi trivial y
      subst e1; subst e2
      exact ⟨ρ', .refl, hS, .int _⟩
    · rw [List.getElem?_eq_none (by simpa using hi)] at hx; cases hx
  · have : ((List.range n).map fun (i : Nat) => PV.int (lo + (i : Nat))).length = n := by simp
    show (L2.Itr lo n).stop _ H'
    rw [this]; exact w.stops H' trivial
end
section
variable {X : Cx} {Wx : WX} {tg e : Expr} {m : ME} {mr : MA} {p pos : Pos}
def iSeq (m : ME) : MI := fun ls S => (m ls S).bind fun w S1 => match w with
  | .tup xs => .ok ⟨xs, always⟩ S1
  | .loc n => (match S1[n]? with
    | some (.lst xs) => .ok ⟨xs, isLst n xs⟩ S1
    | some (.rol xs) => .ok ⟨xs, always⟩ S1
    | _ => .bad)
  | _ => .bad
def rIterM (K : PySem.W.Frag) (x : V) (H : Hp) (R : It → Hp → Prop) : Prop := ∃ a, x = .ref a ∧ (((∃ xs, SqL K H a xs) ∧ R (Itl K a) H) ∨ ((∃ xs, SqT K H a xs) ∧ R (Itt K a) H))
theorem pi_seq {te : TE} (he : PE X e te) : PI X tg e (fun σ H R => te σ H fun x H1 => rIterM X.K x H1 R) := by
  constructor
  intro pins s σ H R I h
  apply thn (he.run pins s σ H _ I h)
  rintro v s1 ⟨x, H1, I1, r1, a, rfl, q⟩
  cases r1
  have fp : ∀ b ∈ [s1.heap.objs.size], FpOk X pins H1 b := by
    intro b hb
    have hb : b = s1.heap.objs.size := List.mem_singleton.mp hb
    rw [hb]
    exact I1.fpOk (Nat.le_refl _) I1.fresh
  rcases q with ⟨⟨xs, hq⟩, q⟩ | ⟨⟨xs, hq⟩, q⟩
  · obtain ⟨its, _, pl, _⟩ := I1.list hq
    apply wpAny_pyIter_list pl.isList
    exact ⟨_, [_], _, _, H1, rfl, I1.kept (t' := s1.toks) (fun _ _ z => Heap.get?_push_of_some _ z), turn_list a _, ⟨_, Heap.get?_push_size _ rfl, rfl, rfl⟩, fp, q⟩
  · obtain ⟨its, _, pl, _⟩ := I1.tuple hq
    apply wpAny_pyIter_tuple (items := its.toArray) pl
    exact ⟨_, [_], _, _, H1, rfl, I1.kept (t' := s1.toks) (fun _ _ z => Heap.get?_push_of_some _ z), turn_tuple a _, ⟨_, Heap.get?_push_size _ rfl, rfl, rfl⟩, fp, q⟩
theorem ii_seq (he : IE X Wx e m) : II X Wx tg e (iSeq m) := PIi (pi_seq he) fun σ H R ⟨ρ, S, ls, hS, hL, h⟩ => ⟨ρ, S, ls, hS, hL, (Post.bind (R := RW) h).imp fun x H1 ⟨ρ1, S1, w1, e1, hS1, r1, h1⟩ => by
    split at h1
    · cases r1 with
      | tup s t => exact ⟨_, rfl, .inr ⟨⟨_, s⟩, h1 ρ1 H1 _ .refl hS1 (rit_tup s t)⟩⟩
    · cases r1 with
      | loc n hn =>
        split at h1
        · rename_i xs e2
          obtain ⟨vs, a, b⟩ := hS1.at_ _ _ e2
          exact ⟨_, rfl, .inl ⟨⟨_, SqL.of a⟩, h1 ρ1 H1 _ .refl hS1 (rit_lst hn)⟩⟩
        · rename_i xs e2
          obtain ⟨vs, a, b⟩ := hS1.at_ _ _ e2
          refine ⟨_, rfl, .inl ⟨⟨_, a.sq⟩, h1 ρ1 H1 _ .refl hS1 (rit_rol (fun ρ' S' H' e hS' => (e.2.2.2.1 _ _ a).sq) b)⟩⟩
        · exact h1.elim
    · exact h1.elim⟩
def rngL (lo hi : Int) : List PV := (List.range (hi - lo).toNat).map fun (i : Nat) => .int (lo + (i : Nat))
def med : Int := 4611686018427387904
theorem med_ok {i : Int} (h : (decide (-med ≤ i) && decide (i < med)) = true) : -(2 ^ 62) ≤ i ∧ i < 2 ^ 62 := by
  rw [Bool.and_eq_true] at h
  have h : -4611686018427387904 ≤ i ∧ i < 4611686018427387904 := ⟨of_decide_eq_true h.1, of_decide_eq_true h.2⟩
  have e : (2 : Int) ^ 62 = 4611686018427387904 := by decide
  rw [e]; exact h
def iR1 (m : ME) : MI := fun ls S => (m ls S).bind fun w S1 => match w with
  | .int j => if (decide (-med ≤ j) && decide (j < med)) = true then .ok ⟨rngL 0 j, always⟩ S1 else .bad
  | _ => .bad
variable {e2 : Expr} {m2 : ME}
theorem ii_range1 (hm : X.mg "range" = none) (he : IE X Wx e m) (hg : Gl X "range" := by rfl) (hst : starEach [e] X.env = (false, eval e X.env) :: starEach [] X.env := by rfl) (hs : starEach [e] X.env = [(false, eval e X.env)] := by rfl) : II X Wx tg (.Call (.Name "range" p) [e] [] pos) (iR1 m) :=
  PIi (pi_range1 hg hm (pa_cons he pa_nil hst) hs) fun σ H R ⟨ρ, S, ls, hS, hL, h⟩ => ⟨ρ, S, ls, hS, hL, (Post.bind (R := RW) h).imp fun x H1 ⟨ρ1, S1, w1, e1, hS1, r1, h1⟩ => by
    split at h1
    · split at h1
      · rename_i q
        cases r1
        obtain ⟨a, b⟩ := med_ok q
        refine ⟨_, rfl, a, b, h1 ρ1 H1 _ .refl hS1 ?_⟩
        unfold rngL
        rw [Int.sub_zero]
        exact rit_rng
      · exact h1.elim
    · exact h1.elim⟩
end
def forGo (chk : Nat → Sto → Bool) (g : MG) (body : MS) : Nat → List PV → MS
  | i, [], ls, S => if chk i S = true then .nx ls S else .bad
  | i, x :: r, ls, S => if chk i S = true then (match g x ls with
    | none => .bad
    | some ls1 => (match body ls1 S with
      | .nx ls2 S2 => forGo chk g body (i + 1) r ls2 S2
      | .ct ls2 S2 => forGo chk g body (i + 1) r ls2 S2
      | .bk ls2 S2 => .nx ls2 S2
      | q => q)) else .bad
def sFor (it : MI) (g : MG) (body : MS) : MS := fun ls S => (it ls S).then ls fun t S1 => forGo t.chk g body 0 t.items ls S1
section
variable {X : Cx} {Wx : WX} {tg e : Expr} {mi : MI} {g : MG} {mb : MS} {pos : Pos} {body : List Stmt} {sl : List Nat}
theorem is_for (hp : PassesOwn (model X.prog X.w) X.A X.env X.xe) (hc : X.calm = true) (hi : II X Wx tg e mi) (hg : IG X tg g sl) (hb : ISs X Wx body mb) (hs : ∀ x, foldedSetIterable e X.env x = pure x := by intro _; rfl) :
    IS X Wx (.For tg e body [] pos) (sFor mi g mb) :=
  PSi (ps_for hp hc hi hg hb hs) fun D σ H ⟨ρ, S, ls, hS, hL, h⟩ => ⟨ρ, S, ls, hS, hL, (Post.then (R := RItF) hL h).imp fun J H1 ⟨ρ1, S1, t, e1, hS1, r1, h1⟩ => by
    have l1 := hL.ext e1
    clear h hS hL
    refine ⟨fun i m σ H => m = t.items.length - i ∧ i ≤ t.items.length ∧ ∃ ρ S ls, Ext X.K ρ1 S1.length H1 ρ S.length H ∧ RSt (pwX X) X.K ρ H S ∧ RL X.K ρ S.length H ls σ ∧ PostS (pwX X) X.K ρ S.length H Wx (forGo t.chk g mb i (t.items.drop i) ls S) D,
      ⟨_, rfl, Nat.zero_le _, ρ1, S1, ls, .refl, hS1, l1, by rw [List.drop_zero]; exact h1⟩, ?_⟩
    rintro i m σ2 H2 ⟨rfl, hi, ρ2, S2, ls2, e2, hS2, l2, h2⟩
    obtain ⟨w1, w2⟩ := r1 ρ2 S2 H2 e2 hS2
    by_cases hlt : i < t.items.length
    · rw [List.drop_eq_getElem_cons hlt] at h2
      unfold forGo at h2
      split at h2
      · rename_i hc
        obtain ⟨go, yl⟩ := w1 i _ (List.getElem?_eq_getElem hlt) hc
        refine .inr ⟨go, fun σ3 H3 => ∃ ρ S ls, Ext X.K ρ1 S1.length H1 ρ S.length H3 ∧ RSt (pwX X) X.K ρ H3 S ∧ RL X.K ρ S.length H3 ls σ3 ∧ PostS (pwX X) X.K ρ S.length H3 Wx (forGo t.chk g mb (i + 1) (t.items.drop (i + 1)) ls S) D,
          fun σ' H' q => ⟨_, by omega, rfl, hlt, q⟩, fun v H3 y => ?_⟩
        obtain ⟨ρ3, e3, hS3, r3⟩ := yl v H3 y
        split at h2
        · exact h2.elim
        · rename_i ls3 eg
          refine ⟨ρ3, S2, ls2, _, ls3, hS3, l2.ext e3, r3, eg, fun σ4 _ l4 => ⟨ρ3, S2, ls3, hS3, l4, ?_⟩⟩
          have h3 := PostS.ext e3 h2
          cases hm : mb ls3 S2 with
          | nx a S' => rw [hm] at h3; exact fun ρ4 H4 σ5 e4 s4 l5 => ⟨ρ4, S', a, (e2.trans e3).trans e4, s4, l5, PostS.ext e4 h3⟩
          | ct a S' => rw [hm] at h3; exact fun ρ4 H4 σ5 e4 s4 l5 => ⟨ρ4, S', a, (e2.trans e3).trans e4, s4, l5, PostS.ext e4 h3⟩
          | bk a S' => rw [hm] at h3; exact h3
          | rt a S' => rw [hm] at h3; exact h3
          | exc a b S' => rw [hm] at h3; exact h3
          | bad => rw [hm] at h3; exact h3
      · exact h2.elim
    · have ei : i = t.items.length := by omega
      subst ei
      rw [List.drop_length] at h2
      unfold forGo at h2
      split at h2
      · rename_i hc
        exact .inl ⟨w2 hc, h2 ρ2 H2 σ2 .refl hS2 l2⟩
      · exact h2.elim⟩
end
def lcGo (chk : Nat → Sto → Bool) (g : MG) (tt : MT) (te : ME) (vs : List Nat) (D : Nat) (ls : Ls) : Nat → List PV → Sto → Out PV
  | i, [], S => if chk i S = true then .ok (.loc D) S else .bad
  | i, x :: r, S => if chk i S = true then (match g x (wipeL ls vs) with
    | none => .bad
    | some ls1 => (match tt ls1 S with
      | .ok true S1 => (match te ls1 S1 with
        | .ok w S2 => (match lstAt S2 D with
          | some acc => if acc.length < lim then lcGo chk g tt te vs D ls (i + 1) r (S2.set D (.lst (acc ++ [w]))) else .bad
          | none => .bad)
        | _ => .bad)
      | .ok false S1 => lcGo chk g tt te vs D ls (i + 1) r S1
      | _ => .bad)) else .bad
def eLc (it : MI) (g : MG) (tt : MT) (te : ME) (vs : List Nat) : ME := fun ls S => (it ls S).bind fun t S1 => lcGo t.chk g tt te vs S1.length ls 0 t.items (S1 ++ [.lst []])
def tYesM : MT := fun _ S => .ok true S
abbrev ITs (X : Cx) (ifs : List Expr) (m : MT) : Prop := PTs X ifs (tT (pwX X) X.K (fun _ _ _ _ => False) m)
theorem its_nil {X : Cx} : ITs X [] tYesM := ⟨fun pins s σ H Q I ⟨ρ, S, ls, hS, hL, h⟩ => pts_nil.run pins s σ H Q I (h ρ H true .refl hS rfl)⟩
theorem its_one {X : Cx} {c : Expr} {m : MT} (h : IT X (fun _ _ _ _ => False) c m) : ITs X [c] m := pts_one h
section
variable {X : Cx} {Wx : WX} {elt tg iter : Expr} {ifs : List Expr} {scope : Scope} {own : List (Str × Nat)} {pos : Pos} {mi : MI} {g : MG} {mt : MT} {me : ME} {sl : List Nat}
theorem lc_in {σ : L2.St} {H : Hp} {Q : VK} (hsl : ∀ j ∈ sl, j ∈ own.map (·.2)) (h : tE (pwX X) X.K Wx (eLc mi g mt me (own.map (·.2))) σ H Q) :
    tLc (tI (pwX X) X.K Wx mi) (tGm (pwX X) X.K g sl) (tT (pwX X) X.K (fun _ _ _ _ => False) mt) (tE (pwX X) X.K (fun _ _ _ _ => False) me) (own.map (·.2)) σ H Q := by
  obtain ⟨ρ, S, ls, hS, hL, h⟩ := h
  refine ⟨ρ, S, ls, hS, hL, (Post.bind (R := RItF) h).imp ?_⟩
  rintro J H1 ⟨ρ1, S1, t, e1, hS1, r1, h1⟩ D hD
  have l1 := hL.ext e1
  clear h hS hL
  have eD : Ext X.K ρ1 S1.length H1 (grow ρ1 S1.length D) (S1 ++ [OB.lst []]).length (upd H1 D (.lst [])) := by
    rw [List.length_append, List.length_singleton]; exact ext_new hD
  have hS2 : RSt (pwX X) X.K (grow ρ1 S1.length D) (upd H1 D (.lst [])) (S1 ++ [OB.lst []]) := hS1.new hD rfl ⟨[], upd_same, .nil⟩
  refine ⟨fun i m H => m = t.items.length - i ∧ i ≤ t.items.length ∧ ∃ ρ S, Ext X.K (grow ρ1 S1.length D) (S1 ++ [OB.lst []]).length (upd H1 D (.lst [])) ρ S.length H ∧ RSt (pwX X) X.K ρ H S ∧
    Post (pwX X) RW X.K ρ S.length H (fun c d H' => Wx c d σ H') (lcGo t.chk g mt me (own.map (·.2)) S1.length ls i (t.items.drop i) S) Q,
    ⟨_, rfl, Nat.zero_le _, _, _, .refl, hS2, by rw [List.drop_zero]; exact Post.ext eD h1⟩, ?_⟩
  rintro i m H2 ⟨rfl, hi, ρ2, S2, e2, hS2', h2⟩
  have eAll := eD.trans e2
  have aD : ρ2 S1.length = D := by rw [e2.2.1 S1.length (by rw [List.length_append, List.length_singleton]; exact Nat.lt_succ_self _), grow_new]
  obtain ⟨w1, w2⟩ := r1 ρ2 S2 H2 eAll hS2'
  by_cases hlt : i < t.items.length
  · rw [List.drop_eq_getElem_cons hlt] at h2
    unfold lcGo at h2
    split at h2
    · rename_i hc
      obtain ⟨go, yl⟩ := w1 i _ (List.getElem?_eq_getElem hlt) hc
      refine .inr ⟨go, fun H3 => ∃ ρ S, Ext X.K (grow ρ1 S1.length D) (S1 ++ [OB.lst []]).length (upd H1 D (.lst [])) ρ S.length H3 ∧ RSt (pwX X) X.K ρ H3 S ∧
        Post (pwX X) RW X.K ρ S.length H3 (fun c d H' => Wx c d σ H') (lcGo t.chk g mt me (own.map (·.2)) S1.length ls (i + 1) (t.items.drop (i + 1)) S) Q, fun H' q => ⟨_, by omega, rfl, hlt, q⟩, fun v H3 y => ?_⟩
      obtain ⟨ρ3, e3, hS3, r3⟩ := yl v H3 y
      split at h2
      · exact h2.elim
      · rename_i ls1 eg
        refine ⟨ρ3, S2, wipeL ls (own.map (·.2)), _, ls1, hS3, RL.wipe ((l1.ext eAll).ext e3) _, r3, eg, fun σ4 o4 l4 => ⟨o4.wipe hsl, ρ3, S2, ls1, hS3, l4, ?_⟩⟩
        have h3 := Post.ext e3 h2
        cases hm : mt ls1 S2 with
        | exc a b => rw [hm] at h3; exact h3.elim
        | bad => rw [hm] at h3; exact h3.elim
        | ok k S5 =>
          rw [hm] at h3
          intro ρ5 H5 k' e5 s5 q5
          have q5 : k = k' := q5
          subst k'
          cases k with
          | false =>
            rw [if_neg Bool.false_ne_true]
            exact ⟨ρ5, S5, (e2.trans e3).trans e5, s5, Post.ext e5 h3⟩
          | true =>
            rw [if_pos rfl]
            refine ⟨ρ5, S5, ls1, s5, l4.ext e5, ?_⟩
            dsimp only at h3
            cases hm2 : me ls1 S5 with
            | exc a b => rw [hm2] at h3; exact h3.elim
            | bad => rw [hm2] at h3; exact h3.elim
            | ok w S6 =>
              rw [hm2] at h3
              intro ρ6 H6 v6 e6 s6 r6
              dsimp only at h3
              split at h3
              · rename_i acc ea
                split at h3
                · rename_i hz
                  obtain ⟨vs, hv, tv⟩ := lst_of s6 ea
                  have aD6 : ρ6 S1.length = D := by rw [(e3.trans (e5.trans e6)).2.1 S1.length (Nat.lt_of_lt_of_le (by rw [List.length_append, List.length_singleton]; exact Nat.lt_succ_self _) e2.1), aD]
                  obtain ⟨s7, e7⟩ := set_lst s6 ea (tv.app (.cons r6 .nil))
                  rw [aD6] at hv s7 e7
                  exact ⟨vs, hv, by rw [← tv.length]; exact lim_lt hz, ρ6, _, ((e2.trans (e3.trans (e5.trans e6))).trans e7), s7, Post.ext ((e5.trans e6).trans e7) h3⟩
                · exact h3.elim
              · exact h3.elim
    · exact h2.elim
  · have ei : i = t.items.length := by omega
    subst ei
    rw [List.drop_length] at h2
    unfold lcGo at h2
    split at h2
    · rename_i hc
      refine .inl ⟨w2 hc, h2 ρ2 H2 _ .refl hS2' ?_⟩
      have q : RW X.K ρ2 S2.length H2 (.loc S1.length) (.ref (ρ2 S1.length)) := .loc _ (Nat.lt_of_lt_of_le (by rw [List.length_append, List.length_singleton]; exact Nat.lt_succ_self _) e2.1)
      rw [aD] at q
      exact q
    · exact h2.elim
theorem is_setLc {vs : List Nat} (own : List (Str × Nat)) (hvs : own.map (·.2) = vs) {i : Nat} {y : Str} {py spos : Pos} (hc : X.calm = true) (hN : X.N.Nodup) (hy : X.N[i]? = some y) (hyl : X.env.scope.names.lookup y = some .local) (hsw : swapsWith (.ListComp elt [⟨tg, iter, ifs, 0⟩] scope pos) (some (.Name y py)) spos.line X.env = pure true)
    (hi : II X Wx tg iter mi) (ok : BlkOk X.N X.env.scope scope own) (hsl : ∀ j ∈ sl, j ∈ own.map (·.2))
    (hg : ∀ (s : Shared) (H : Hp) (C : Addr) (cl : List (Str × Addr)) (fp : List Addr), IG (X.blk s H scope (compEnvC scope cl C X.env) fp) tg g sl)
    (ht : ∀ (s : Shared) (H : Hp) (C : Addr) (cl : List (Str × Addr)) (fp : List Addr), ITs (X.blk s H scope (compEnvC scope cl C X.env) fp) ifs mt)
    (he : ∀ (s : Shared) (H : Hp) (C : Addr) (cl : List (Str × Addr)) (fp : List Addr), IE (X.blk s H scope (compEnvC scope cl C X.env) fp) (fun _ _ _ _ => False) elt me)
    (hs : ∀ x, foldedSetIterable iter X.env x = pure x := by intro _; rfl) : IS X Wx (.Assign [.Name y py] (.ListComp elt [⟨tg, iter, ifs, 0⟩] scope pos) spos) (sSet i (eLc mi g mt me vs)) := by
  subst hvs
  exact PSi (ps_setLc hc hN hy hyl hsw hi ok hg ht he hs) fun D σ H ⟨ρ, S, ls, hS, hL, h⟩ => lc_in (Q := fun x H1 => gName i x σ H1 D.nx) hsl
    ⟨ρ, S, ls, hS, hL, (Post.then (R := RW) hL h).imp fun x H1 ⟨ρ1, S1, w1, e1, hS1, r1, h1⟩ => h1 ρ1 H1 _ .refl hS1 (RL.set r1 _ (hL.ext e1))⟩
end
end GL
set_option Elab.async false
set_option linter.all false
set_option maxRecDepth 100000
set_option maxHeartbeats 1000000
namespace GL
open PySem PySem.Spec PyProof.Rows L2
variable {pw : PgW}
abbrev MF := List PV → Sto → Out PV
def fnOf (np n : Nat) (m : MS) : MF := fun ws S => if ws.length = np then (match m (ws.map some ++ List.replicate (n - np) none) S with
  | .nx _ S' => .ok .non S'
  | .rt w S' => .ok w S'
  | .exc e _ S' => .exc e S'
  | _ => .bad) else .bad
def spI (pw : PgW) (K : PySem.W.Frag) (n : Nat) (fn : MF) : Sp := fun vs H Q E => ∃ ρ S ws, RSt pw K ρ H S ∧ RWs K ρ S.length H ws vs ∧ ws.length = n ∧ Post pw RW K ρ S.length H E (fn ws S) Q
abbrev topW (E : XK) : WX := fun cls d _ H => E cls d H
abbrev FI (P : Program) (w : World) (K : PySem.W.Frag) (mg : Str → Option Value) (base : Heap) (k : Nat) (f : Addr) (fd : FuncData) (ps : List Str) (fn : MF) : Prop :=
  FnOk P w K mg base (L2.CX P w) k f fd ps (spI (⟨P, w⟩ : PgW) K ps.length fn)
theorem RL.start {K : PySem.W.Frag} {ρ : Nat → Addr} {N : Nat} {H : Hp} (n : Nat) : ∀ {ws : List PV} {vs : List V}, RWs K ρ N H ws vs → RL K ρ N H (ws.map some ++ List.replicate n none) (vs.map some ++ List.replicate n none)
  | _, _, .nil => by
    induction n with
    | zero => exact .nil
    | succ n ih => exact .no ih
  | _, _, .cons r t => .yes r (RL.start n t)
section
variable {P : Program} {w : World} {K : PySem.W.Frag} {mg : Str → Option Value} {base : Heap} {x qual : Str} {params : Arguments} {body : List Stmt} {scope : Scope} {dvs : List V} {kws : List (Str × V)} {f : Addr} {fd : FuncData}
theorem fi_of {N ps : List Str} {k : Nat} {m : MS} (F : FunD K x qual params body scope dvs kws f fd) (S : FnScope N ps scope)
    (hb : ∀ (cdv : Value) (A : Around) (outer : List Env) (s : Shared) (H : Hp) (E : XK), Room k (A.deeper (envOfC qual scope s.heap.objs.size f cdv)) →
      ISs (cxOf (L2.CX P w) P w K mg base N qual scope f cdv A outer s H E) (topW E) body m) : FI P w K mg base (k + 1) f fd ps (fnOf ps.length N.length m) := by
  refine F.ok S (fun vs H Q E h => ?_) (fun cdv A outer s H vs Q E hr h => ⟨_, hb cdv A outer s H E hr, ?_⟩)
  · obtain ⟨ρ, S, ws, _, r, e, _⟩ := h
    rw [← r.length]; exact e
  · obtain ⟨ρ, S, ws, hS, r, e, h⟩ := h
    unfold fnOf at h
    rw [if_pos e] at h
    have el : L2.start N vs = vs.map some ++ List.replicate (N.length - ps.length) none := by
      unfold L2.start
      rw [← r.length, e]
    refine ⟨ρ, S, ws.map some ++ List.replicate (N.length - ps.length) none, hS, by rw [el]; exact RL.start (N.length - ps.length) r, ?_⟩
    cases hm : m (ws.map some ++ List.replicate (N.length - ps.length) none) S with
    | nx a S' => rw [hm] at h; exact fun ρ' H' σ' e' s' _ => h ρ' H' _ e' s' .non
    | rt a S' => rw [hm] at h; exact fun ρ' H' v e' s' r' => h ρ' H' v e' s' r'
    | exc a b S' => rw [hm] at h; exact fun ρ' H' σ' c d e' s' _ q => h ρ' H' c d e' s' q
    | bk a S' => rw [hm] at h; exact h.elim
    | ct a S' => rw [hm] at h; exact h.elim
    | bad => rw [hm] at h; exact h.elim
end
def eCall (fn : MF) (dws : List PV) (args : MA) : ME := fun ls S => (args ls S).bind fun ws S1 => fn (ws ++ dws) S1
def GVals (K : PySem.W.Frag) : List V → List PV → Prop
  | [], [] => True
  | v :: vs, w :: ws => GVal K v w ∧ GVals K vs ws
  | _, _ => False
theorem GVals.rel {K : PySem.W.Frag} {ρ : Nat → Addr} {N : Nat} {H : Hp} : ∀ {vs : List V} {ws : List PV}, GVals K vs ws → RWs K ρ N H ws vs
  | [], [], _ => .nil
  | _ :: _, _ :: _, h => .cons (h.1 _ _ _) (GVals.rel h.2)
  | [], _ :: _, h => h.elim
  | _ :: _, [], h => h.elim
section
variable {X : Cx} {Wx : WX} {k : Nat} {f C : Addr} {fd : FuncData} {ps : List Str} {fn : MF} {dvs : List V} {ds : List Value} {dws : List PV} {x m : Str} {p pos apos : Pos} {e o : Expr} {es : List Expr} {mo : ME} {ma : MA} {np N : Nat} {mb : MS}
theorem sp_in {σ : L2.St} {ρ : Nat → Addr} {S : Sto} {H : Hp} {ws : List PV} {vs : List V} {Ex : XK} {Q : VK} (hS : RSt (pwX X) X.K ρ H S) (r : RWs X.K ρ S.length H ws vs) (g : GVals X.K dvs dws)
    (h : Post (pwX X) RW X.K ρ S.length H Ex (fnOf np N mb (ws ++ dws) S) Q) : spI (pwX X) X.K np (fnOf np N mb) (vs ++ dvs) H Q Ex := by
  refine ⟨ρ, S, ws ++ dws, hS, r.app g.rel, ?_, h⟩
  unfold fnOf at h
  split at h
  · assumption
  · exact h.elim
theorem ie_call (tk : Takes X Wx) (F : FI X.prog X.w X.K X.mg X.base k f fd ps (fnOf np N mb)) (hnp : ps.length = np) (hr : Room k X.A) (hm : X.mg x = some (.ref f)) (hk : PySem.W.keepIn X.K (.ref f) = true) (hb : Binds X.K fd ps ds) (hd : Vals dvs ds) (g : GVals X.K dvs dws)
    (ha : IA X Wx (e :: es) ma) (hg : Gl X x := by rfl) (hdb : (x == ("__debug__" : Str)) = false := by decide) (he : starEach (e :: es) X.env = (false, eval e X.env) :: starEach es X.env := by rfl) (hpl : (backTo pos (starEach es X.env)).any (·.1) = false := by rfl) :
    IE X Wx (.Call (.Name x p) (e :: es) [] pos) (eCall (fnOf np N mb) dws ma) :=
  PEi (pe_callSD (E := WE Wx) F hr hg hm hk hb hd (passAt tk) ha hdb he hpl) fun σ H Q ⟨ρ, S, ls, hS, hL, h⟩ => ⟨ρ, S, ls, hS, hL, (Post.bind (R := RWs) h).imp fun vs H1 ⟨ρ1, S1, ws, e1, hS1, r1, h1⟩ => by
    rw [hnp]; exact sp_in (σ := σ) hS1 r1 g h1⟩
def lookN (f : Nm) : List (Nm × PV) → Option PV
  | [] => none
  | (g, w) :: r => if g = f then some w else lookN f r
def putN (f : Nm) (w : PV) : List (Nm × PV) → List (Nm × PV)
  | [] => [(f, w)]
  | (g, v) :: r => if g = f then (g, w) :: r else (g, v) :: putN f w r
theorem beq_toS {a b : Nm} : (toS a == toS b) = decide (a = b) := by
  by_cases h : a = b
  · subst h; simp
  · have : ¬ toS a = toS b := fun e => h (toS_inj e)
    simp [h, this]
theorem look_some {K : PySem.W.Frag} {ρ : Nat → Addr} {N : Nat} {H : Hp} {f : Nm} {w : PV} : ∀ {fs : List (Nm × PV)} {fs' : List (Str × V)}, RFs K ρ N H fs fs' → lookN f fs = some w → ∃ v, fs'.lookup (toS f) = some v ∧ RW K ρ N H w v
  | _, _, .nil, h => by cases h
  | _, _, .cons (f := g) r t, h => by
    unfold lookN at h
    rw [List.lookup_cons, beq_toS]
    split at h
    · rename_i e
      cases h
      subst e
      exact ⟨_, by simp, r⟩
    · rename_i e
      have : ¬ f = g := fun z => e z.symm
      simp only [decide_eq_false this]
      exact look_some t h
theorem look_none {K : PySem.W.Frag} {ρ : Nat → Addr} {N : Nat} {H : Hp} {f : Nm} : ∀ {fs : List (Nm × PV)} {fs' : List (Str × V)}, RFs K ρ N H fs fs' → lookN f fs = none → fs'.lookup (toS f) = none
  | _, _, .nil, h => rfl
  | _, _, .cons (f := g) r t, h => by
    unfold lookN at h
    rw [List.lookup_cons, beq_toS]
    split at h
    · cases h
    · rename_i e
      have : ¬ f = g := fun z => e z.symm
      simp only [decide_eq_false this]
      exact look_none t h
theorem RFs.length {K : PySem.W.Frag} {ρ : Nat → Addr} {N : Nat} {H : Hp} : ∀ {fs : List (Nm × PV)} {fs' : List (Str × V)}, RFs K ρ N H fs fs' → fs.length = fs'.length
  | _, _, .nil => rfl
  | _, _, .cons _ t => by simp [RFs.length t]
def insAt (S : Sto) (w : PV) : Option (Nat × Nm × List (Nm × PV)) := match w with
  | .loc n => (match S[n]? with
    | some (.ins C fs) => some (n, C, fs)
    | _ => none)
  | _ => none
theorem insAt_get {S : Sto} {w : PV} {n : Nat} {C : Nm} {fs : List (Nm × PV)} (h : insAt S w = some (n, C, fs)) : w = .loc n ∧ S[n]? = some (.ins C fs) := by
  unfold insAt at h
  split at h
  · split at h
    · rename_i e; cases h; exact ⟨rfl, e⟩
    · cases h
  · cases h
theorem ins_of {K : PySem.W.Frag} {ρ : Nat → Addr} {H : Hp} {S : Sto} {w : PV} {v : V} {n : Nat} {D : Nm} {fs : List (Nm × PV)} (hS : RSt pw K ρ H S) (r : RW K ρ S.length H w v) (h : insAt S w = some (n, D, fs)) :
    v = .ref (ρ n) ∧ ∃ dx fs', H (ρ n) = some (.ins (He.ga K (toS D)) dx fs') ∧ RFs K ρ S.length H fs fs' := by
  obtain ⟨rfl, e⟩ := insAt_get h
  cases r
  exact ⟨rfl, hS.at_ _ _ e⟩
def eMeth (C m : Nm) (fn : MF) (dws : List PV) (o : ME) (args : MA) : ME := fun ls S => (o ls S).bind fun w S1 => match insAt S1 w with
  | some (_, D, fs) => if D = C then (match lookN m fs with
    | none => (args ls S1).bind fun ws S2 => fn (w :: (ws ++ dws)) S2
    | some _ => .bad) else .bad
  | none => .bad
def tMethD (C : Addr) (m : Str) (sp : Sp) (dvs : List V) (E : L2.St → XK) (ta : TE) (t : TA) : TE := fun σ H Q => ta σ H fun x H1 => ∃ a dx fs, x = .ref a ∧ H1 a = some (.ins C dx fs) ∧ fs.lookup m = none ∧
  t σ H1 fun vs H2 => sp (x :: (vs ++ dvs)) H2 Q (E σ)
theorem pe_methD0 {E : L2.St → XK} {sp : Sp} {ta : TE} {pl : Sem Bool} (he : PE X o ta) (c : Cls X.K C) (hm : Meth X.K C m f) (F : FnOk X.prog X.w X.K X.mg X.base (L2.CX X.prog X.w) k f fd ps sp) (hr : Room k X.A) (hb : Binds X.K fd ps ds) (hd : Vals dvs ds)
    (hx : ∀ σ, PassesAt (L2.CX X.prog X.w) X σ (E σ))
    (ht : eval (.Call (.Attribute o m apos) [] [] pos) X.env = (do
      let ov ← eval o X.env
      standAt apos.atName
      let (f, first) ← holding [ov] (getMethod ov m pl)
      callWith pos f first (backTo pos (starEach [] X.env)) (backToKw pos (keywordEach [] X.env))) := by rfl) : PE X (.Call (.Attribute o m apos) [] [] pos) (tMethD C m sp dvs E ta tNil) := by
  constructor
  intro pins s σ H Q I h
  apply PySem.W.methodCall_KW (pl := pl) _ ht
  apply thn (he.run pins s σ H _ I h)
  rintro u s1 ⟨x, H1, I1, rx, a, dx, fs, rfl, ea, l, q⟩
  cases rx
  apply getmeth_ok I1 ea c hm l
  exact PySem.W.callWith_K0 (first := [.ref a]) I1.kIn hm.kp (run_fnSD (us := [.ref a]) (vs := [.ref a]) F hr hb hd (hx σ) I1 (.cons rfl .nil) q)
variable {cn mn : Nm}
theorem meth_in {σ : L2.St} {H : Hp} {Q : VK} {ta : TA} (g : GVals X.K dvs dws) (ha : ∀ σ H Q, tA (pwX X) X.K Wx ma σ H Q → ta σ H Q) (hC : C = He.ga X.K (toS cn)) (hmn : m = toS mn) (h : tE (pwX X) X.K Wx (eMeth cn mn (fnOf np N mb) dws mo ma) σ H Q) :
    tMethD C m (spI (pwX X) X.K np (fnOf np N mb)) dvs (WE Wx) (tE (pwX X) X.K Wx mo) ta σ H Q := by
  obtain ⟨ρ, S, ls, hS, hL, h⟩ := h
  refine ⟨ρ, S, ls, hS, hL, (Post.bind (R := RW) h).imp ?_⟩
  rintro x H1 ⟨ρ1, S1, w1, e1, hS1, r1, h1⟩
  split at h1
  · rename_i n D fs ei
    split at h1
    · rename_i eD
      subst eD
      split at h1
      · rename_i el
        obtain ⟨rfl, dx, fs', hH, rf⟩ := ins_of hS1 r1 ei
        refine ⟨_, dx, fs', rfl, by rw [hC]; exact hH, by rw [hmn]; exact look_none rf el, ha _ _ _ ⟨ρ1, S1, ls, hS1, hL.ext e1, (Post.bind (R := RWs) h1).imp ?_⟩⟩
        rintro vs H2 ⟨ρ2, S2, ws, e2, hS2, r2, h2⟩
        exact sp_in (σ := σ) (ws := w1 :: ws) (vs := _ :: vs) hS2 (.cons (r1.ext e2) r2) g h2
      · exact h1.elim
    · exact h1.elim
  · exact h1.elim
theorem ie_meth0 {pl : Sem Bool} (tk : Takes X Wx) (he : IE X Wx o mo) (hC : C = He.ga X.K (toS cn)) (c : Cls X.K C) (hm : Meth X.K C m f) (hmn : m = toS mn) (F : FI X.prog X.w X.K X.mg X.base k f fd ps (fnOf np N mb)) (hnp : ps.length = np) (hr : Room k X.A) (hb : Binds X.K fd ps ds) (hd : Vals dvs ds) (g : GVals X.K dvs dws)
    (ht : eval (.Call (.Attribute o m apos) [] [] pos) X.env = (do
      let ov ← eval o X.env
      standAt apos.atName
      let (f, first) ← holding [ov] (getMethod ov m pl)
      callWith pos f first (backTo pos (starEach [] X.env)) (backToKw pos (keywordEach [] X.env))) := by rfl) : IE X Wx (.Call (.Attribute o m apos) [] [] pos) (eMeth cn mn (fnOf np N mb) dws mo aNil) :=
  PEi (pe_methD0 (E := WE Wx) he c hm F hr hb hd (passAt tk) ht) fun σ H Q h => by
    rw [hnp]
    exact meth_in g (fun σ H Q ⟨ρ, S, ls, hS, hL, h⟩ => h ρ H _ .refl hS .nil) hC hmn h
def eMake (C : Nm) (fn : MF) (dws : List PV) (args : MA) : ME := fun ls S => (args ls S).bind fun ws S1 => (fn (.loc S1.length :: (ws ++ dws)) (S1 ++ [.ins C []])).bind fun r S2 => match r with
  | .non => .ok (.loc S1.length) S2
  | _ => .bad
def tMakeD (C : Addr) (sp : Sp) (dvs : List V) (E : L2.St → XK) (t : TA) : TE := fun σ H Q => t σ H fun vs H1 => ∀ x dx, H1 x = none → H1 dx = none → dx ≠ x →
  sp (.ref x :: (vs ++ dvs)) (upd (upd H1 dx (.own x)) x (.ins C dx [])) (fun v H2 => v = .non ∧ Q (.ref x) H2) (E σ)
theorem run_makeD {pins : List (Addr × Obj)} {σ : L2.St} {H : Hp} {s : Shared} {Q : VK} {us : List Value} {vs : List V} {sp : Sp} {E : L2.St → XK} (M : Mk X.K C f) (F : FnOk X.prog X.w X.K X.mg X.base (L2.CX X.prog X.w) k f fd ps sp) (hr : Room (k + 1) X.A) (hb : Binds X.K fd ps ds) (hd : Vals dvs ds)
    (hx : ∀ σ, PassesAt (L2.CX X.prog X.w) X σ (E σ)) (I : Inv X pins σ H s) (r : Vals vs us)
    (h : ∀ x dx, H x = none → H dx = none → dx ≠ x → sp (.ref x :: (vs ++ dvs)) (upd (upd H dx (.own x)) x (.ins C dx [])) (fun v H2 => v = .non ∧ Q (.ref x) H2) (E σ)) :
    wpAny (model X.prog X.w) X.A (call (.ref C) us) (EP X pins σ Q) X.xe s := by
  let n := s.heap.objs.size
  have q := h (n + 1) n (I.hok.fresh (Nat.le_succ n)) I.fresh (Nat.ne_of_lt (Nat.lt_succ_self n))
  have J := Inv.made (C := C) I
  have rr : Vals (V.ref (n + 1) :: (vs ++ dvs)) (Value.ref (n + 1) :: (us ++ ds)) := .cons rfl (r.append hd)
  have len := F.len _ _ _ _ q
  rw [rr.length] at len
  apply wpAny_call
  apply make_map (f := f) I.kIn M.makes M.init (beq_iff_eq.mp M.fn)
  have run := F.run _ X.stack _ _ ⟨Value.ref (n + 1) :: us, []⟩ _ _ _ (E σ) (hr.make C us []) (J.env0.make C us []) (hb _ (Value.ref (n + 1) :: us) J.kIn len) rr q
  apply codeAny_mono run
  intro res s' hq
  match res, hq with
  | .error e, hq => exact hx σ pins _ _ e s' J hq
  | .ok (.ret u), hq =>
    obtain ⟨v, H', I3, rv, rfl, q3⟩ := J.after hq
    exact ⟨rv, V.ref (n + 1), H', I3, rfl, q3⟩
theorem pe_makeD {E : L2.St → XK} {sp : Sp} {t : TA} (M : Mk X.K C f) (F : FnOk X.prog X.w X.K X.mg X.base (L2.CX X.prog X.w) k f fd ps sp) (hr : Room (k + 1) X.A) (hg : Gl X x) (hm : X.mg x = some (.ref C)) (hb : Binds X.K fd ps ds) (hd : Vals dvs ds) (hx : ∀ σ, PassesAt (L2.CX X.prog X.w) X σ (E σ))
    (ha : PA X (e :: es) t) (hdb : (x == ("__debug__" : Str)) = false := by decide) (he : starEach (e :: es) X.env = (false, eval e X.env) :: starEach es X.env := by rfl) (hpl : (backTo pos (starEach es X.env)).any (·.1) = false := by rfl) :
    PE X (.Call (.Name x p) (e :: es) [] pos) (tMakeD C sp dvs E t) := by
  constructor
  intro pins s σ H Q I h
  apply wpAny_Call_Name_kw
  apply ld_glob I hg hm _ hdb
  apply PySem.W.callWith_K (h₀ := X.base) I.ok.mod.kin M.kp _ he hpl
  apply thn (ha.run pos pins s σ H _ I h)
  rintro us s1 ⟨vs, H1, I1, r, q⟩
  exact ⟨I1.kIn, run_makeD M F hr hb hd hx I1 r q⟩
theorem make_in {σ : L2.St} {H : Hp} {Q : VK} {ta : TA} (g : GVals X.K dvs dws) (ha : ∀ σ H Q, tA (pwX X) X.K Wx ma σ H Q → ta σ H Q) (hC : C = He.ga X.K (toS cn)) (h : tE (pwX X) X.K Wx (eMake cn (fnOf np N mb) dws ma) σ H Q) :
    tMakeD C (spI (pwX X) X.K np (fnOf np N mb)) dvs (WE Wx) ta σ H Q := by
  obtain ⟨ρ, S, ls, hS, hL, h⟩ := h
  refine ha _ _ _ ⟨ρ, S, ls, hS, hL, (Post.bind (R := RWs) h).imp ?_⟩
  rintro vs H1 ⟨ρ1, S1, ws, e1, hS1, r1, h1⟩ x dx hx hdx hne
  have e2 : Ext X.K ρ1 S1.length H1 ρ1 S1.length (upd H1 dx (.own x)) := ext_keep hdx
  have hx2 : (upd H1 dx (.own x)) x = none := by rw [upd_ne (Ne.symm hne)]; exact hx
  have e3 : Ext X.K ρ1 S1.length (upd H1 dx (.own x)) (grow ρ1 S1.length x) (S1 ++ [OB.ins cn []]).length (upd (upd H1 dx (.own x)) x (.ins C dx [])) := by
    rw [List.length_append, List.length_singleton]; exact ext_new hx2
  have s3 : RSt (pwX X) X.K (grow ρ1 S1.length x) (upd (upd H1 dx (.own x)) x (.ins C dx [])) (S1 ++ [OB.ins cn []]) := (hS1.keep hdx).new (o := .ins cn []) hx2 rfl ⟨dx, [], by rw [upd_same, hC], .nil⟩
  have rx : RW X.K (grow ρ1 S1.length x) (S1 ++ [OB.ins cn []]).length (upd (upd H1 dx (.own x)) x (.ins C dx [])) (.loc S1.length) (.ref x) := by
    have q : RW X.K (grow ρ1 S1.length x) (S1 ++ [OB.ins cn []]).length (upd (upd H1 dx (.own x)) x (.ins C dx [])) (.loc S1.length) (.ref (grow ρ1 S1.length x S1.length)) := .loc _ (by rw [List.length_append, List.length_singleton]; exact Nat.lt_succ_self _)
    rw [grow_new] at q
    exact q
  refine sp_in (σ := σ) (ws := .loc S1.length :: ws) (vs := .ref x :: vs) s3 (.cons rx ((r1.ext e2).ext e3)) g ((Post.bind (R := RW) (Post.ext (e2.trans e3) h1)).imp ?_)
  rintro v H4 ⟨ρ4, S4, w4, e4, hS4, r4, h4⟩
  split at h4
  · cases r4
    exact ⟨rfl, h4 ρ4 H4 _ .refl hS4 (rx.ext e4)⟩
  · exact h4.elim
theorem ie_make (tk : Takes X Wx) (M : Mk X.K C f) (hC : C = He.ga X.K (toS cn)) (F : FI X.prog X.w X.K X.mg X.base k f fd ps (fnOf np N mb)) (hnp : ps.length = np) (hr : Room (k + 1) X.A) (hm : X.mg x = some (.ref C)) (hb : Binds X.K fd ps ds) (hd : Vals dvs ds) (g : GVals X.K dvs dws)
    (ha : IA X Wx (e :: es) ma) (hg : Gl X x := by rfl) (hdb : (x == ("__debug__" : Str)) = false := by decide) (he : starEach (e :: es) X.env = (false, eval e X.env) :: starEach es X.env := by rfl) (hpl : (backTo pos (starEach es X.env)).any (·.1) = false := by rfl) :
    IE X Wx (.Call (.Name x p) (e :: es) [] pos) (eMake cn (fnOf np N mb) dws ma) :=
  PEi (pe_makeD (E := WE Wx) M F hr hg hm hb hd (passAt tk) ha hdb he hpl) fun σ H Q h => by rw [hnp]; exact make_in g (fun _ _ _ q => q) hC h
def Atts (K : PySem.W.Frag) (tab : Nm → Nm → Bool) : Prop := ∀ C f, tab C f = true → Cls K (He.ga K (toS C)) ∧ NoAttr K (He.ga K (toS C)) (toS f)
def eFld (tab : Nm → Nm → Bool) (f : Nm) (o : ME) : ME := fun ls S => (o ls S).bind fun w S1 => match insAt S1 w with
  | some (_, C, fs) => if tab C f = true then (match lookN f fs with
    | some v => .ok v S1
    | none => .bad) else .bad
  | none => .bad
variable {tab : Nm → Nm → Bool} {fl : Nm} {fs : Str}
theorem ie_fld (T : Atts X.K tab) (he : IE X Wx o mo) (hf : fs = toS fl) (hb : attributeBase o fs X.env (eval o X.env) = eval o X.env := by rfl) : IE X Wx (.Attribute o fs pos) (eFld tab fl mo) :=
  PEi (pe_fld he hb) fun σ H Q ⟨ρ, S, ls, hS, hL, h⟩ => ⟨ρ, S, ls, hS, hL, (Post.bind (R := RW) h).imp fun x H1 ⟨ρ1, S1, w1, e1, hS1, r1, h1⟩ => by
    split at h1
    · rename_i n D gs ei
      split at h1
      · rename_i et
        split at h1
        · rename_i v el
          obtain ⟨rfl, dx, fs', hH, rf⟩ := ins_of hS1 r1 ei
          obtain ⟨c, na⟩ := T _ _ et
          obtain ⟨u, hu, ru⟩ := look_some rf el
          subst hf
          exact ⟨_, _, dx, fs', u, rfl, hH, c, na, hu, h1 ρ1 H1 u .refl hS1 ru⟩
        · exact h1.elim
      · exact h1.elim
    · exact h1.elim⟩
def sFldM (tab : Nm → Nm → Bool) (f : Nm) (o v : ME) : MS := fun ls S => (v ls S).then ls fun y S1 => (o ls S1).then ls fun w S2 => match insAt S2 w with
  | some (n, C, fs) => if tab C f && decide (fs.length < 1000) then .nx ls (S2.set n (.ins C (putN f y fs))) else .bad
  | none => .bad
theorem put_rel {K : PySem.W.Frag} {ρ : Nat → Addr} {N : Nat} {H : Hp} {f : Nm} {w : PV} {v : V} (q : RW K ρ N H w v) : ∀ {fs : List (Nm × PV)} {fs' : List (Str × V)}, RFs K ρ N H fs fs' → RFs K ρ N H (putN f w fs) (putF (toS f) v fs')
  | _, _, .nil => .cons q .nil
  | _, _, .cons (f := g) (v := u) (r' := r') r t => by
    unfold putN
    show RFs K ρ N H _ (if toS g = toS f then (toS g, v) :: r' else (toS g, u) :: putF (toS f) v r')
    by_cases e : g = f
    · subst e
      rw [if_pos rfl, if_pos rfl]; exact .cons q t
    · rw [if_neg e, if_neg fun z => e (toS_inj z)]; exact .cons r (put_rel q t)
theorem is_fld {val : Expr} {mv : ME} {pos' : Pos} (T : Atts X.K tab) (ho : IE X Wx o mo) (hv : IE X Wx val mv) (hf : fs = toS fl) (hs : swapsWith val (some (.Attribute o fs pos')) pos.line X.env = pure false := by rfl) :
    IS X Wx (.Assign [.Attribute o fs pos'] val pos) (sFldM tab fl mo mv) :=
  PSi (ps_fld ho hv hs) fun D σ H ⟨ρ, S, ls, hS, hL, h⟩ => ⟨ρ, S, ls, hS, hL, (Post.then (R := RW) hL h).imp fun y H1 ⟨ρ1, S1, wy, e1, hS1, r1, h1⟩ =>
    ⟨ρ1, S1, ls, hS1, hL.ext e1, (Post.then (R := RW) (hL.ext e1) h1).imp fun x H2 ⟨ρ2, S2, w2, e2, hS2, r2, h2⟩ => by
      split at h2
      · rename_i n D' gs ei
        split at h2
        · rename_i et
          rw [Bool.and_eq_true] at et
          obtain ⟨rfl, dx, fs', hH, rf⟩ := ins_of hS2 r2 ei
          obtain ⟨rfl, eg⟩ := insAt_get ei
          obtain ⟨c, na⟩ := T _ _ et.1
          subst hf
          refine ⟨_, _, dx, fs', rfl, hH, c, na, by rw [← rf.length]; exact of_decide_eq_true et.2, ?_⟩
          have ee : Ext X.K ρ2 S2.length H2 ρ2 S2.length (upd H2 (ρ2 n) (.ins (He.ga X.K (toS D')) dx (putF (toS fl) y fs'))) := ext_upd hH trivial
          refine h2 ρ2 _ σ (by rw [List.length_set]; exact ee) (hS2.set eg rfl rfl ⟨dx, _, upd_same, put_rel ((r1.ext e2).ext ee) (rf.ext ee)⟩) (by rw [List.length_set]; exact ((hL.ext e1).ext e2).ext ee)
        · exact h2.elim
      · exact h2.elim⟩⟩
end
end GL
set_option Elab.async false
set_option linter.all false
set_option maxRecDepth 100000
set_option maxHeartbeats 1000000
namespace GL
open PySem PySem.Spec PyProof.Rows L2
variable {pw : PgW}
def gIx : PV → PV → Sto → Out PV := fun a b S => match a, b with
  | .tup xs, .int i => (match atI xs i with
    | some v => .ok v S
    | none => .bad)
  | .loc n, .int i => (match seqAt S n with
    | some xs => (match atI xs i with
      | some v => .ok v S
      | none => .bad)
    | none => .bad)
  | .str s, .int i => if s.length ≤ lim then (match atI s i with
    | some c => .ok (.str [c]) S
    | none => .bad) else .bad
  | _, _ => .bad
section
variable {K : PySem.W.Frag} {ρ : Nat → Addr} {N : Nat} {H : Hp}
theorem RWs.at {ws : List PV} {vs : List V} (t : RWs K ρ N H ws vs) {i : Int} {w : PV} (h : atI ws i = some w) : ∃ v, atI vs i = some v ∧ RW K ρ N H w v := by
  unfold atI at h ⊢
  rw [t.length] at h
  cases e : ixN vs.length i with
  | none => rw [e] at h; cases h
  | some j =>
    rw [e] at h
    exact t.get h
end
section
variable {X : Cx} {Wx : WX} {pos : Pos} {a b e o : Expr} {ma mb me mo : ME}
theorem oi_ix : OpI X Wx (rIx X.K) gIx := by
  intro ρ S H w1 w2 x y Ex Q hS r1 r2 h
  unfold gIx at h
  split at h
  · split at h
    · rename_i v ev
      cases r1 with
      | tup s t =>
        obtain ⟨u, hu, ru⟩ := t.at ev
        cases r2
        exact .inr (.inl ⟨_, _, _, u, rfl, rfl, s, hu, h.here hS ru⟩)
    · exact h.elim
  · split at h
    · split at h
      · rename_i xs exs _ v ev
        cases r1; cases r2
        obtain ⟨vs, s, t⟩ := seq_of hS exs
        obtain ⟨u, hu, ru⟩ := t.at ev
        exact .inl ⟨_, _, _, u, rfl, rfl, s, hu, h.here hS ru⟩
      · exact h.elim
    · exact h.elim
  · split at h
    · split at h
      · rename_i hz _ c ec
        cases r1; cases r2
        rw [str_len] at hz
        exact .inr (.inr ⟨_, _, c, rfl, rfl, lim_sz hz, ec, h.here hS (.str ⟨#[c]⟩)⟩)
      · exact h.elim
    · exact h.elim
  · exact h.elim
theorem ie_ix (ha : IE X Wx a ma) (hb : IE X Wx b mb) (hs : PlainIx b := by exact fun _ _ => rfl) : IE X Wx (.Subscript a b pos) (eOp gIx ma mb) :=
  PEi (pe_ix ix_seq ha hb hs) fun σ H Q h => bin_in oi_ix h
def sSub (o i e : ME) : MS := fun ls S => (e ls S).then ls fun w S1 => (o ls S1).then ls fun l S2 => (i ls S2).then ls fun k S3 => match l, k with
  | .loc n, .int j => (match lstAt S3 n with
    | some xs => (match ixN xs.length j with
      | some m => .nx ls (S3.set n (.lst (xs.set m w)))
      | none => .bad)
    | none => .bad)
  | _, _ => .bad
theorem is_sub {i : Expr} {mi : ME} {pos' : Pos} (ho : IE X Wx o mo) (hi : IE X Wx i mi) (he : IE X Wx e me)
    (hq : ∀ v, assign (.Subscript o i pos') X.env v = (do
      let ov ← holding [v] (eval o X.env)
      let iv ← holding [v, ov] (eval i X.env)
      standAt pos'
      holding [v, ov, iv] (setItem ov iv v)
      release [v, ov, iv] []) := by intro _; rfl)
    (hs : swapsWithSole [.Subscript o i pos'] e pos.line X.env = pure false := by rfl) (hw : swappedStores [.Subscript o i pos'] e X.env = pure none := by rfl)
    (h1 : (assignEach [.Subscript o i pos'] X.env).map (·.2) = [assign (.Subscript o i pos') X.env] := by rfl) : IS X Wx (.Assign [.Subscript o i pos'] e pos) (sSub mo mi me) :=
  PSi (ps_asg he (pg_sub ho hi set_list hq) hs hw h1) fun D σ H ⟨ρ, S, ls, hS, hL, h⟩ => ⟨ρ, S, ls, hS, hL, (Post.then (R := RW) hL h).imp fun x H1 ⟨ρ1, S1, w1, e1, hS1, r1, h1⟩ =>
    ⟨ρ1, S1, ls, hS1, hL.ext e1, (Post.then (R := RW) (hL.ext e1) h1).imp fun y H2 ⟨ρ2, S2, w2, e2, hS2, r2, h2⟩ =>
      ⟨ρ2, S2, ls, hS2, (hL.ext e1).ext e2, (Post.then (R := RW) ((hL.ext e1).ext e2) h2).imp fun z H3 ⟨ρ3, S3, w3, e3, hS3, r3, h3⟩ => by
        have r2 := r2.ext e3
        have r1 := (r1.ext e2).ext e3
        split at h3
        · split at h3
          · split at h3
            · rename_i xs ex _ j ej
              cases r2; cases r3
              obtain ⟨vs, hv, t⟩ := lst_of hS3 ex
              obtain ⟨s4, e4⟩ := set_lst hS3 ex (t.set r1 j)
              exact ⟨_, vs, _, j, rfl, rfl, hv, by rw [← t.length]; exact ej, h3 ρ3 _ σ e4 s4 ((((hL.ext e1).ext e2).ext e3).ext e4)⟩
            · exact h3.elim
          · exact h3.elim
        · exact h3.elim⟩⟩⟩
abbrev MO := Ls → Sto → Out (Option Int)
abbrev ROI : RelF (Option Int) (Option Int) := fun _ _ _ _ a b => a = b
def tO (pw : PgW) (K : PySem.W.Frag) (Wx : WX) (m : MO) : TO := fun σ H Q => ∃ ρ S ls, RSt pw K ρ H S ∧ RL K ρ S.length H ls σ ∧ Post pw ROI K ρ S.length H (fun c d H' => Wx c d σ H') (m ls S) Q
abbrev IO (X : Cx) (Wx : WX) (e : Option Expr) (m : MO) : Prop := PO X e (tO (pwX X) X.K Wx m)
theorem POi {e : Option Expr} {t t' : TO} (h : PO X e t) (i : ∀ σ H Q, t' σ H Q → t σ H Q) : PO X e t' := ⟨fun pins s σ H Q I hw => h.run pins s σ H Q I (i _ _ _ hw)⟩
def oNo : MO := fun _ S => .ok none S
def oYes (m : ME) : MO := fun ls S => (m ls S).bind fun w S1 => match w with
  | .int i => .ok (some i) S1
  | _ => .bad
theorem io_none : IO X Wx none oNo := POi po_none fun σ H Q ⟨ρ, S, ls, hS, hL, h⟩ => h ρ H none .refl hS rfl
theorem io_some (h : IE X Wx e me) : IO X Wx (some e) (oYes me) := POi (po_some h) fun σ H Q ⟨ρ, S, ls, hS, hL, h⟩ => ⟨ρ, S, ls, hS, hL, (Post.bind (R := RW) h).imp fun x H1 ⟨ρ1, S1, w1, e1, hS1, r1, h1⟩ => by
  split at h1
  · cases r1
    exact ⟨_, rfl, h1 ρ1 H1 _ .refl hS1 rfl⟩
  · exact h1.elim⟩
def cutP {α : Type} (xs : List α) (lo hi : Option Int) : List α := (xs.drop (HT.sIx xs.length 0 lo)).take (HT.sIx xs.length xs.length hi - HT.sIx xs.length 0 lo)
def gSl : PV → Option Int → Option Int → Sto → Out PV := fun a lo hi S => match a with
  | .tup xs => .ok (.tup (cutP xs lo hi)) S
  | .loc n => (match seqAt S n with
    | some xs => .ok (.loc S.length) (S ++ [.lst (cutP xs lo hi)])
    | none => .bad)
  | .str s => if s.length ≤ lim then .ok (.str (cutP s lo hi)) S else .bad
  | _ => .bad
def eSl (o : ME) (lo hi : MO) : ME := fun ls S => (o ls S).bind fun w S1 => (lo ls S1).bind fun l S2 => (hi ls S2).bind fun h S3 => gSl w l h S3
theorem RWs.cut {K : PySem.W.Frag} {ρ : Nat → Addr} {N : Nat} {H : Hp} {ws : List PV} {vs : List V} (t : RWs K ρ N H ws vs) (lo hi : Option Int) : RWs K ρ N H (cutP ws lo hi) (cutV vs lo hi) := by
  unfold cutP cutV
  rw [t.length]
  exact (t.drop _).take _
theorem RWs.cut_whole {K : PySem.W.Frag} {ρ : Nat → Addr} {N : Nat} {H : Hp} {ws : List PV} {vs : List V} (t : RWs K ρ N H ws vs) {l u : Option Int} (whole : HT.sIx vs.length 0 l = 0 ∧ HT.sIx vs.length vs.length u = vs.length) : cutP ws l u = ws := by
  unfold cutP
  rw [t.length, whole.1, whole.2, ← t.length]
  simp
def rSlM (K : PySem.W.Frag) : V → Option Int → Option Int → Hp → VK → Prop := fun x lo hi H Q => rSlA K x lo hi H Q ∨ rSlL K x lo hi H Q ∨ rSlS x lo hi H Q
theorem sl_M : SlR X (rSlM X.K) := sl_tupA.or (sl_list.or sl_str)
theorem ie_sl {lo hi : Option Expr} {ml mh : MO} {p2 : Pos} (ho : IE X Wx o mo) (hl : IO X Wx lo ml) (hh : IO X Wx hi mh) : IE X Wx (.Subscript o (.Slice lo hi none p2) pos) (eSl mo ml mh) :=
  PEi (pe_slice sl_M ho hl hh) fun σ H Q ⟨ρ, S, ls, hS, hL, h⟩ => ⟨ρ, S, ls, hS, hL, (Post.bind (R := RW) h).imp fun x H1 ⟨ρ1, S1, w1, e1, hS1, r1, h1⟩ =>
    ⟨ρ1, S1, ls, hS1, hL.ext e1, (Post.bind (R := ROI) h1).imp fun l H2 ⟨ρ2, S2, l2, e2, hS2, q2, h2⟩ =>
      ⟨ρ2, S2, ls, hS2, (hL.ext e1).ext e2, (Post.bind (R := ROI) h2).imp fun u H3 ⟨ρ3, S3, u3, e3, hS3, q3, h3⟩ => by
        cases q2; cases q3
        have r1 := (r1.ext e2).ext e3
        unfold gSl at h3
        split at h3
        · cases r1 with
          | tup s t =>
            refine .inl ⟨_, _, rfl, s, fun whole => ?_, fun _ => mk_tup hS3 (t.cut l u) h3⟩
            rw [t.cut_whole whole] at h3
            exact h3.here hS3 (.tup s t)
        · split at h3
          · rename_i xs ex
            cases r1
            obtain ⟨vs, s, t⟩ := seq_of hS3 ex
            exact .inr (.inl ⟨_, _, rfl, s, mk_lst hS3 (t.cut l u) h3⟩)
          · exact h3.elim
        · split at h3
          · rename_i hz
            cases r1 with
            | str z =>
              rw [str_len] at hz
              refine .inr (.inr ⟨_, rfl, lim_sz hz, h3.here hS3 ?_⟩)
              have : cutP z.cps.toList l u = (cutS z l u).cps.toList := by
                unfold cutP cutS
                simp [Str.length]
              rw [this]; exact .str _
          · exact h3.elim
        · exact h3.elim⟩⟩⟩
def CallI (X : Cx) (r : List V → Hp → VK → Prop) (g : MF) : Prop :=
  ∀ (ρ : Nat → Addr) (S : Sto) (H : Hp) (ws : List PV) (vs : List V) (Ex : XK) (Q : VK), RSt (pwX X) X.K ρ H S → RWs X.K ρ S.length H ws vs → Post (pwX X) RW X.K ρ S.length H Ex (g ws S) Q → r vs H Q
def eB (g : MF) (args : MA) : ME := fun ls S => (args ls S).bind fun ws S1 => g ws S1
variable {x : Str} {p : Pos} {es : List Expr} {mr : MA} {id T : String} {r : List V → Hp → VK → Prop} {g : MF}
theorem callB_in {σ : L2.St} {H : Hp} {Q : VK} (hi : CallI X r g) (h : tE (pwX X) X.K Wx (eB g mr) σ H Q) : tCB r (tA (pwX X) X.K Wx mr) σ H Q := by
  obtain ⟨ρ, S, ls, hS, hL, h⟩ := h
  exact ⟨ρ, S, ls, hS, hL, (Post.bind (R := RWs) h).imp fun vs H1 ⟨ρ1, S1, ws, e1, hS1, r1, h1⟩ => hi ρ1 S1 H1 ws vs _ Q hS1 r1 h1⟩
theorem ie_B (hc : CallR X (.builtin id) r) (hi : CallI X r g) (hm : X.mg x = none) (hv : bootBuiltins x = some (.builtin id)) (ha : IA X Wx (e :: es) mr) (hg : Gl X x := by rfl) (hn : x ≠ "__name__" := by decide) (hdb : (x == ("__debug__" : Str)) = false := by decide)
    (he : starEach (e :: es) X.env = (false, eval e X.env) :: starEach es X.env := by rfl) (hpl : (backTo pos (starEach es X.env)).any (·.1) = false := by rfl) : IE X Wx (.Call (.Name x p) (e :: es) [] pos) (eB g mr) :=
  PEi (pe_callB hc hg hm hv ha hn hdb he hpl) fun σ H Q h => callB_in hi h
theorem ie_BT (hc : CallR X (.type T) r) (hi : CallI X r g) (hm : X.mg x = none) (hv : bootBuiltins x = some (.type T)) (ha : IA X Wx (e :: es) mr) (hg : Gl X x := by rfl) (hn : x ≠ "__name__" := by decide) (hdb : (x == ("__debug__" : Str)) = false := by decide)
    (he : starEach (e :: es) X.env = (false, eval e X.env) :: starEach es X.env := by rfl) (hpl : (backTo pos (starEach es X.env)).any (·.1) = false := by rfl) : IE X Wx (.Call (.Name x p) (e :: es) [] pos) (eB g mr) :=
  PEi (pe_callTy hc hg hm hv ha hn hdb he hpl) fun σ H Q h => callB_in hi h
def fInt : MF := fun ws S => match ws with
  | [.int i] => .ok (.int i) S
  | [.bl k] => .ok (.int (if k then 1 else 0)) S
  | _ => .bad
theorem ci_int : CallI X (fun xs H Q => (∃ i, xs = [.int i] ∧ Q (.int i) H) ∨ ∃ k, xs = [.bl k] ∧ Q (.int (if k then 1 else 0)) H) fInt := by
  intro ρ S H ws vs Ex Q hS r h
  unfold fInt at h
  split at h
  · cases r with | cons r t => cases t; cases r; exact .inl ⟨_, rfl, h.here hS (.int _)⟩
  · cases r with | cons r t => cases t; cases r; exact .inr ⟨_, rfl, h.here hS (.int _)⟩
  · exact h.elim
def fAbs : MF := fun ws S => match ws with
  | [.int i] => .ok (.int (if i < 0 then -i else i)) S
  | _ => .bad
theorem ci_abs : CallI X (fun xs H Q => ∃ i, xs = [.int i] ∧ Q (.int (if i < 0 then -i else i)) H) fAbs := by
  intro ρ S H ws vs Ex Q hS r h
  unfold fAbs at h
  split at h
  · cases r with | cons r t => cases t; cases r; exact ⟨_, rfl, h.here hS (.int _)⟩
  · exact h.elim
def fMax2 : MF := fun ws S => match ws with
  | [.int i, .int j] => .ok (.int (if j > i then j else i)) S
  | _ => .bad
def fMin2 : MF := fun ws S => match ws with
  | [.int i, .int j] => .ok (.int (if j < i then j else i)) S
  | _ => .bad
theorem ci_max2 : CallI X (fun xs H Q => ∃ i j, xs = [.int i, .int j] ∧ Q (.int (if j > i then j else i)) H) fMax2 := by
  intro ρ S H ws vs Ex Q hS r h
  unfold fMax2 at h
  split at h
  · cases r with | cons r t => cases t with | cons r2 t => cases t; cases r; cases r2; exact ⟨_, _, rfl, h.here hS (.int _)⟩
  · exact h.elim
theorem ci_min2 : CallI X (fun xs H Q => ∃ i j, xs = [.int i, .int j] ∧ Q (.int (if j < i then j else i)) H) fMin2 := by
  intro ρ S H ws vs Ex Q hS r h
  unfold fMin2 at h
  split at h
  · cases r with | cons r t => cases t with | cons r2 t => cases t; cases r; cases r2; exact ⟨_, _, rfl, h.here hS (.int _)⟩
  · exact h.elim
def fLen : MF := fun ws S => match ws with
  | [.tup xs] => .ok (.int xs.length) S
  | [.str s] => if s.length ≤ lim then .ok (.int s.length) S else .bad
  | [.loc n] => (match seqAt S n with
    | some xs => .ok (.int xs.length) S
    | none => .bad)
  | _ => .bad
theorem ci_len : CallI X (fun xs H Q => ∃ x n, xs = [x] ∧ LenV X.K x H n ∧ Q (.int n) H) fLen := by
  intro ρ S H ws vs Ex Q hS r h
  unfold fLen at h
  split at h
  · cases r with
    | cons r t => cases t; cases r with
      | tup s t => exact ⟨_, _, rfl, .inr ⟨_, s, rfl⟩, h.here hS (by rw [t.length]; exact .int _)⟩
  · split at h
    · rename_i hz
      cases r with
      | cons r t => cases t; cases r with
        | str z =>
          rw [str_len] at hz h
          exact ⟨_, _, rfl, ⟨lim_sz hz, rfl⟩, h.here hS (.int _)⟩
    · exact h.elim
  · split at h
    · rename_i xs ex
      obtain ⟨vs, s, t⟩ := seq_of hS ex
      cases r with
      | cons r t' => cases t'; cases r; exact ⟨_, _, rfl, .inl ⟨_, s, rfl⟩, h.here hS (by rw [t.length]; exact .int _)⟩
    · exact h.elim
  · exact h.elim
def fList : MF := fun ws S => match ws with
  | [.tup xs] => .ok (.loc S.length) (S ++ [.lst xs])
  | [.loc n] => (match seqAt S n with
    | some xs => .ok (.loc S.length) (S ++ [.lst xs])
    | none => .bad)
  | _ => .bad
theorem ci_list : CallI X (fun xs H Q => ∃ p ys, xs = [.ref p] ∧ (SqL X.K H p ys ∨ SqT X.K H p ys) ∧ ∀ l, H l = none → Q (.ref l) (upd H l (.lst ys))) fList := by
  intro ρ S H ws vs Ex Q hS r h
  unfold fList at h
  split at h
  · cases r with
    | cons r t => cases t; cases r with
      | tup s t => exact ⟨_, _, rfl, .inr s, mk_lst hS t h⟩
  · split at h
    · rename_i xs ex
      obtain ⟨vs, s, t⟩ := seq_of hS ex
      cases r with
      | cons r t' => cases t'; cases r; exact ⟨_, _, rfl, .inl s, mk_lst hS t h⟩
    · exact h.elim
  · exact h.elim
def fTuple : MF := fun ws S => match ws with
  | [.tup xs] => .ok (.tup xs) S
  | [.loc n] => (match seqAt S n with
    | some xs => .ok (.tup xs) S
    | none => .bad)
  | _ => .bad
theorem ci_tuple : CallI X (fun xs H Q => ∃ p ys, xs = [.ref p] ∧ ((SqL X.K H p ys ∧ ∀ l, H l = none → Q (.ref l) (upd H l (.tup ys))) ∨ (SqT X.K H p ys ∧ Q (.ref p) H))) fTuple := by
  intro ρ S H ws vs Ex Q hS r h
  unfold fTuple at h
  split at h
  · cases r with
    | cons r t => cases t; cases r with
      | tup s t => exact ⟨_, _, rfl, .inr ⟨s, h.here hS (.tup s t)⟩⟩
  · split at h
    · rename_i xs ex
      obtain ⟨vs, s, t⟩ := seq_of hS ex
      cases r with
      | cons r t' => cases t'; cases r; exact ⟨_, _, rfl, .inl ⟨s, mk_tup hS t h⟩⟩
    · exact h.elim
  · exact h.elim
def tyP (S : Sto) : PV → Option BT
  | .non => some .none
  | .bl _ => some .bool
  | .int _ => some .int
  | .str _ => some .str
  | .tup _ => some .tuple
  | .loc n => (match S[n]? with
    | some (.lst _) => some .list
    | some (.rol _) => some .list
    | some (.dct _) => some .dict
    | some (.fdct _) => some .dict
    | _ => none)
  | _ => none
def isB : BT → BT → Bool
  | .bool, .int => true
  | a, b => decide (a = b)
theorem kit_is : ∀ a b : BT, b ≠ .none → kitB a.name b.name = some (isB a b) := by
  intro a b hb
  cases a <;> cases b <;> first | (exact absurd rfl hb) | (decide +kernel)
theorem tyX_of {K : PySem.W.Frag} {ρ : Nat → Addr} {H : Hp} {S : Sto} (hS : RSt pw K ρ H S) {w : PV} {v : V} {t : BT} (r : RW K ρ S.length H w v) (h : tyP S w = some t) : TyX K H v (.type t.name) := by
  cases r with
  | non => cases h; exact .base .non
  | bl b => cases h; exact .base (.bl b)
  | int i => cases h; exact .base (.int i)
  | str x => cases h; exact .base (.str x)
  | tup s _ =>
    cases h
    rcases s with (s | ⟨o, s⟩) | ⟨o, its, n, hk, hc, _⟩
    · exact .base (.tup s)
    · exact .fTuple s
    · exact .kTuple hk hc
  | gl x => cases h
  | ty n => cases h
  | xn _ _ _ => cases h
  | loc n hn =>
    unfold tyP at h
    dsimp only at h
    split at h
    · rename_i e; cases h
      obtain ⟨vs, a, _⟩ := hS.at_ _ _ e
      exact .base (.lst a)
    · rename_i e; cases h
      obtain ⟨vs, a, _⟩ := hS.at_ _ _ e
      rcases a with ⟨o, a⟩ | ⟨o, its, n, hk, hc, _⟩
      · exact .base (.frz a)
      · exact .kList hk hc
    · rename_i e; cases h
      obtain ⟨vs, a, _⟩ := hS.at_ _ _ e
      exact .base (.dK a)
    · rename_i e; cases h
      obtain ⟨o, vs, a, _⟩ := hS.at_ _ _ e
      exact .fDict a
    · cases h
def fIsi : MF := fun ws S => match ws with
  | [w, .ty b] => if b = .none then .bad else (match tyP S w with
    | some t => .ok (.bl (isB t b)) S
    | none => .bad)
  | _ => .bad
theorem ci_isi : CallI X (rIsi X.K) fIsi := by
  intro ρ S H ws vs Ex Q hS r h
  unfold fIsi at h
  split at h
  · split at h
    · exact h.elim
    · rename_i hb
      split at h
      · rename_i t et
        cases r with
        | cons r1 t => cases t with
          | cons r2 t =>
            cases t; cases r2
            exact ⟨_, _, _, _, _, rfl, .ty _, tyX_of hS r1 et, kit_ty (kit_is _ _ hb), h.here hS (.bl _)⟩
      · exact h.elim
  · exact h.elim
theorem ie_ty {t : BT} (hm : X.mg x = none) (hv : bootBuiltins x = some (.type t.name)) (hg : Gl X x := by rfl) (hn : x ≠ "__name__" := by decide) (hdb : (x == ("__debug__" : Str)) = false := by decide) : IE X Wx (.Name x p) (eC (.ty t)) :=
  PEi (pe_bltn (v := .ty t.name) hg hm hv rfl hn hdb) fun σ H Q ⟨ρ, S, ls, hS, hL, h⟩ => h ρ H _ .refl hS (.ty _)
def MtI (X : Cx) (r : V → List V → Hp → VK → Prop) (g : PV → MF) : Prop :=
  ∀ (ρ : Nat → Addr) (S : Sto) (H : Hp) (w : PV) (ws : List PV) (v : V) (vs : List V) (Ex : XK) (Q : VK), RSt (pwX X) X.K ρ H S → RW X.K ρ S.length H w v → RWs X.K ρ S.length H ws vs → Post (pwX X) RW X.K ρ S.length H Ex (g w ws S) Q → r v vs H Q
def eMt (chk : PV → Sto → Bool) (g : PV → MF) (o : ME) (args : MA) : ME := fun ls S => (o ls S).bind fun w S1 => if chk w S1 = true then (args ls S1).bind fun ws S2 => g w ws S2 else .bad
def kList : PV → Sto → Bool := fun w S => match w with
  | .loc n => (seqAt S n).isSome
  | _ => false
def ChkT (X : Cx) (T : String) (chk : PV → Sto → Bool) : Prop := ∀ (ρ : Nat → Addr) (S : Sto) (H : Hp) (w : PV) (v : V), RSt (pwX X) X.K ρ H S → RW X.K ρ S.length H w v → chk w S = true → tyV X.K T v H
theorem chk_list : ChkT X "list" kList := by
  intro ρ S H w v hS r h
  unfold kList at h
  split at h
  · rename_i n
    cases e : seqAt S n with
    | none => rw [e] at h; cases h
    | some xs =>
      obtain ⟨vs, s, _⟩ := seq_of hS e
      cases r
      exact .inl ⟨rfl, _, s⟩
  · cases h
variable {name : Str} {apos cpos : Pos} {rm : V → List V → Hp → VK → Prop} {gm : PV → MF} {chk : PV → Sto → Bool}
theorem ie_mt (pa : PlainAttrs T) (slot : Slot T name id) (hty : typeOf (.builtin id) = pure (.type "method_descriptor")) (hm : MtR X id rm) (hk : ChkT X T chk) (hi : MtI X rm gm) (ho : IE X Wx o mo) (ha : IA X Wx (e :: es) mr)
    (hbase : attributeBase o name X.env (eval o X.env) = eval o X.env := by rfl)
    (hfew : ((backTo cpos (starEach (e :: es) X.env)).all (fun x => !x.1) && (backToKw cpos (keywordEach [] X.env)).all (fun x => x.1.isSome)
      && decide ((e :: es).length + ([] : List Keyword).length + (if ([] : List Keyword).isEmpty then 0 else 1) < 30)) = true := by rfl)
    (hline : (apos.endLine == cpos.line) = true := by rfl) (hs : starEach (e :: es) X.env = (false, eval e X.env) :: starEach es X.env := by rfl) (hplain : (backTo cpos (starEach es X.env)).any (·.1) = false := by rfl) :
    IE X Wx (.Call (.Attribute o name apos) (e :: es) [] cpos) (eMt chk gm mo mr) :=
  PEi (pe_bm pa slot hty hm ho ha hbase hfew hline hs hplain) fun σ H Q ⟨ρ, S, ls, hS, hL, h⟩ => ⟨ρ, S, ls, hS, hL, (Post.bind (R := RW) h).imp fun x H1 ⟨ρ1, S1, w1, e1, hS1, r1, h1⟩ => by
    split at h1
    · rename_i hc
      exact ⟨hk _ _ _ _ _ hS1 r1 hc, ρ1, S1, ls, hS1, hL.ext e1, (Post.bind (R := RWs) h1).imp fun vs H2 ⟨ρ2, S2, ws, e2, hS2, r2, h2⟩ => hi ρ2 S2 H2 _ _ _ _ _ Q hS2 (r1.ext e2) r2 h2⟩
    · exact h1.elim⟩
def mAppend : PV → MF := fun w ws S => match w, ws with
  | .loc n, [y] => (match lstAt S n with
    | some xs => if xs.length < lim then .ok .non (S.set n (.lst (xs ++ [y]))) else .bad
    | none => .bad)
  | _, _ => .bad
theorem mi_append : MtI X rAppend mAppend := by
  intro ρ S H w ws v vs Ex Q hS r rs h
  unfold mAppend at h
  split at h
  · split at h
    · split at h
      · rename_i xs ex hz
        cases r
        cases rs with
        | cons ry t =>
          cases t
          obtain ⟨us, hu, t⟩ := lst_of hS ex
          obtain ⟨s2, e2⟩ := set_lst hS ex (t.app (.cons ry .nil))
          exact ⟨_, us, _, rfl, rfl, hu, by rw [← t.length]; exact lim_lt hz, h ρ _ _ e2 s2 .non⟩
      · exact h.elim
    · exact h.elim
  · exact h.elim
def mPop : PV → MF := fun w ws S => match w, ws with
  | .loc n, [] => (match lstAt S n with
    | some xs => (match xs[xs.length - 1]? with
      | some y => .ok y (S.set n (.lst xs.dropLast))
      | none => .bad)
    | none => .bad)
  | _, _ => .bad
variable {c : Expr} {mc : ME} {r' : R2} {gg gg' : PV → PV → Sto → Out PV} {rr : R2}
end
end GL
set_option Elab.async false
set_option linter.all false
set_option maxRecDepth 100000
set_option maxHeartbeats 1000000
namespace GL
open PySem PySem.Spec PyProof.Rows L2
variable {pw : PgW}
def all2 {α β : Type} (f : α → β → Bool) : List α → List β → Bool
  | [], [] => true
  | a :: r, b :: s => f a b && all2 f r s
  | _, _ => false
def gvB (K : PySem.W.Frag) : Nat → PV → Value → Bool
  | 0, _, _ => false
  | f + 1, w, u => match w, u with
    | .non, .none => true
    | .bl a, .bool b => a == b
    | .int i, .int j _ => decide (j = i)
    | .str l, .str x _ => decide (x.cps.toList = l)
    | .tup ws, .ref a => (match K.lookup a with
      | some ⟨.type c, _, .seq its _, _⟩ => decide (c = "tuple") && (decide (its.size ≤ sizeLine) && all2 (gvB K f) ws its.toList)
      | _ => false)
    | .gl x, .ref a => decide (a = He.ga K (toS x))
    | .ty b, .type n => decide (n = b.name)
    | _, _ => false
theorem gv_all {K : PySem.W.Frag} {g : PV → Value → Bool} (h : ∀ w u, g w u = true → ∃ v, RelV v u ∧ GVal K v w) : ∀ {ws : List PV} {us : List Value}, all2 g ws us = true →
    ∃ vs, Vals vs us ∧ ∀ ρ N H, RWs K ρ N H ws vs
  | [], [], _ => ⟨[], .nil, fun _ _ _ => .nil⟩
  | [], _ :: _, e => by cases e
  | _ :: _, [], e => by cases e
  | w :: ws, u :: us, e => by
    have e2 := Bool.and_eq_true_iff.mp (show (g w u && all2 g ws us) = true from e)
    obtain ⟨v, r, q⟩ := h w u e2.1
    obtain ⟨vs, r2, q2⟩ := gv_all h e2.2
    exact ⟨v :: vs, .cons r r2, fun ρ N H => .cons (q ρ N H) (q2 ρ N H)⟩
theorem gv_ok {K : PySem.W.Frag} : ∀ {f : Nat} {w : PV} {u : Value}, gvB K f w u = true → ∃ v, RelV v u ∧ GVal K v w
  | 0, _, _, h => by cases h
  | f + 1, w, u, h => by
    unfold gvB at h
    split at h
    · exact ⟨.non, rfl, fun _ _ _ => .non⟩
    · have e := eq_of_beq h
      subst e
      exact ⟨.bl _, rfl, fun _ _ _ => .bl _⟩
    · have e := of_decide_eq_true h
      subst e
      exact ⟨.int _, ⟨_, rfl⟩, fun _ _ _ => .int _⟩
    · have e := of_decide_eq_true h
      subst e
      exact ⟨.str _, ⟨_, rfl⟩, fun _ _ _ => .str _⟩
    · split at h
      · rename_i ws a _ c dd its n sl q
        have e := Bool.and_eq_true_iff.mp h
        have e2 := Bool.and_eq_true_iff.mp e.2
        obtain ⟨vs, r, g⟩ := gv_all (K := K) (g := gvB K f) (fun w u => gv_ok) e2.2
        have ec := of_decide_eq_true e.1
        exact ⟨.ref a, rfl, fun ρ N H => .tup (.inr ⟨_, its, n, q, by rw [ec], rfl, of_decide_eq_true e2.1, r⟩) (g ρ N H)⟩
      · cases h
    · have e := of_decide_eq_true h
      subst e
      exact ⟨.ref _, rfl, fun _ _ _ => .gl _⟩
    · have e := of_decide_eq_true h
      subst e
      exact ⟨.ty _, rfl, fun _ _ _ => .ty _⟩
    · cases h
def conV (K : PySem.W.Frag) (x : Str) (w : PV) : Bool := match PySem.W.nsIn K mainGlobals x with
  | some (some u) => gvB K 20 w u
  | _ => false
structure GCon (K : PySem.W.Frag) (mg : Str → Option Value) (x : Str) (w : PV) : Prop where
  ex : ∃ u v, mg x = some u ∧ RelV v u ∧ GVal K v w
theorem conV_ok {K : PySem.W.Frag} {h : Heap} {mg : Str → Option Value} {x : Str} {w : PV} (X : K.In h) (G : h.Ns mainGlobals mg) (c : conV K x w = true) : GCon K mg x w := by
  unfold conV at c
  split at c
  · rename_i u e
    obtain ⟨v, r, g⟩ := gv_ok c
    exact ⟨u, v, PySem.W.mg_of X G e, r, g⟩
  · cases c
theorem ie_con {X : Cx} {Wx : WX} {pos : Pos} {x : Str} {w : PV} (c : GCon X.K X.mg x w) (hg : Gl X x := by rfl) (hd : (x == ("__debug__" : Str)) = false := by decide) : IE X Wx (.Name x pos) (eC w) := by
  obtain ⟨u, v, a, b, g⟩ := c.ex
  exact ie_glob hg a b g hd
def obsB (fb : PySem.W.Frag → Bool) (fn : List He.DefD) (K : PySem.W.Frag) : He.AlD := (fb K && fn.all fun d => d.ok K, fn.map fun d => He.fnW K d.at_)
def SaysB (fb : PySem.W.Frag → Bool) (fn : List He.DefD) (K : PySem.W.Frag) : Prop := obsB fb fn K = He.valD fn
def obsBG (n : Nat) (fb : PySem.W.Frag → Bool) (fn : List He.DefD) (g : Addr → Option Obj) : He.AlD := obsB fb fn (He.frG g (He.asD g n))
def hookB (n : Nat) (fb : PySem.W.Frag → Bool) (fn : List He.DefD) : PySem.W.Hook where
  α := He.AlD
  obs := fun s => obsBG n fb fn s.heap.get?
  val := fun _ => He.valD fn
  says := fun _ h => ∃ K : PySem.W.Frag, K.In h ∧ SaysB fb fn K
  of := fun _ _ e => ⟨_, He.frG_in, e⟩
  keeps := fun _ _ _ ⟨K, hK, c⟩ k => ⟨K, PySem.W.Frag.In.keeps hK k, c⟩
theorem obsBG_eq {n : Nat} {fb : PySem.W.Frag → Bool} {fn : List He.DefD} {g : Addr → Option Obj} {s : Shared} (h : ∀ a, g a = s.heap.get? a) : obsBG n fb fn g = (hookB n fb fn).obs s := by
  have e : g = s.heap.get? := funext h
  rw [e]
  rfl
section
variable {fb : PySem.W.Frag → Bool} {fn : List He.DefD} {K : PySem.W.Frag}
theorem SaysB.facts (c : SaysB fb fn K) : fb K = true := (Bool.and_eq_true_iff.mp (show (fb K && fn.all fun d => d.ok K) = true from congrArg (fun z : He.AlD => z.1) c)).1
theorem SaysB.defs (c : SaysB fb fn K) (i : Nat) {d : He.DefD} (h : fn[i]? = some d := by rfl) : ∃ fd, FunD K d.name d.qual d.params d.body d.scope (d.dvs K) (d.kws K) (He.fAd K d.at_) fd := by
  have c2 := (Bool.and_eq_true_iff.mp (show (fb K && fn.all fun d => d.ok K) = true from congrArg (fun z : He.AlD => z.1) c)).2
  have e : fn.map (fun d => He.fnW K d.at_) = fn.map He.DefD.val := congrArg (fun z : He.AlD => z.2) c
  have e2 : (fn.map fun d => He.fnW K d.at_)[i]? = (fn.map He.DefD.val)[i]? := by rw [e]
  rw [List.getElem?_map, List.getElem?_map, h] at e2
  exact He.DefD.funD (Option.some.inj e2) (List.all_eq_true.mp c2 d (List.mem_of_getElem? h))
end
def allB (fs : List (PySem.W.Frag → Bool)) (K : PySem.W.Frag) : Bool := fs.all fun f => f K
theorem allB_at {fs : List (PySem.W.Frag → Bool)} {K : PySem.W.Frag} (h : allB fs K = true) (i : Nat) {f : PySem.W.Frag → Bool} (e : fs[i]? = some f := by rfl) : f K = true := List.all_eq_true.mp h f (List.mem_of_getElem? e)
theorem RWs.ints {K : PySem.W.Frag} {ρ : Nat → Addr} {N : Nat} {H : Hp} : ∀ ns : List Int, RWs K ρ N H (ns.map PV.int) (ns.map V.int)
  | [] => .nil
  | n :: r => .cons (.int n) (RWs.ints r)
theorem law_sp {K : PySem.W.Frag} {np N : Nat} {mb : MS} (hnp : np = 1) (h : ∀ ns : List Int, ns.length ≤ 63 → ∃ S', fnOf np N mb [.loc 0] [.rol (ns.map .int)] = .ok (.bl true) S') (H : Hp) (a : Addr) (ns : List Int) (hl : ns.length ≤ 63) (hO : Only H) (hS : SqL K H a (ns.map V.int)) :
    spI pw K np (fnOf np N mb) [.ref a] H (fun v _ => v = .bl true) fun _ _ _ => False := by
  subst hnp
  have ro : RoL K H a (ns.map V.int) := by
    rcases hS with (hS | hS) | hS
    · rcases hO a with z | ⟨o, xs, z⟩
      · rw [z] at hS; cases hS
      · rw [z] at hS; cases hS
    · exact .inl hS
    · exact .inr hS
  obtain ⟨S', e⟩ := h ns hl
  refine ⟨fun _ => a, [.rol (ns.map .int)], [.loc 0], ⟨fun n o hn => ?_, fun n m o o' hn hm q _ _ => ?_⟩, .cons (.loc (ρ := fun _ => a) 0 (Nat.lt_succ_self 0)) .nil, rfl, ?_⟩
  · cases n with
    | zero => cases hn; exact ⟨_, ro, RWs.ints ns⟩
    | succ n => simp at hn
  · cases n with
    | zero => cases hn; cases q
    | succ n => simp at hn
  · rw [e]
    exact fun ρ' H' v _ _ r => by cases r; rfl
theorem cx_none {P : Program} {w : World} {H : Hp} {s : Shared} {e : Value} {s' : Shared} (h : L2.CX P w [] H s (fun _ _ _ => False) e s') : False := by
  obtain ⟨_, _, _, _, _, _, _, _, _, _, _, _, z⟩ := h
  exact z
theorem walk_end {l : PySem.W.OpenLaw} {n k : Nat} {q : Program} {loose : List Str} {XP : (Str → Option Value) → Heap → Prop} {YP : World → Heap → Prop} {d : DefRec} {x : Str}
    (hn : l.most = some n) (hz : n ≤ sizeLine) (hdf : d.params.defaults = []) (hr : Room k callerA)
    (F : ∀ (w : World) (mg : Str → Option Value) (fa : Addr) (h : Heap), YP w h → h.Ns mainGlobals mg → mg d.name = some (.ref fa) → ∃ (K : PySem.W.Frag) (fd : FuncData) (sp : Sp),
      K.In h ∧ (∀ (s : Shared) (u : Value), BindsTo s fd ⟨[u], []⟩ [(x, u)]) ∧
      (∀ (H : Hp) (a : Addr) (ns : List Int), ns.length ≤ n → Only H → SqL K H a (ns.map V.int) → sp [.ref a] H (fun v _ => v = .bl true) fun _ _ _ => False) ∧
      ∀ base : Heap, K.In base → base.Ns mainGlobals mg → FnOk l.prog w K mg base (L2.CX l.prog w) k fa fd [x] sp) :
    PySem.W.WalkO q loose XP YP l.row.toRowW d [] (fun f vs => PySem.call f vs) := by
  apply Att.attach_call hn hdf
  intro w s₀ s₁ mg mb fa o pm cd doc a vs ns G Y ho hd hcd hmg hobj hints hlen hg
  obtain ⟨K, fd, sp, KX, hb, hsp, hF⟩ := F w mg fa _ Y G.T.g hmg
  have go := law_call KX G.T.g G.T.b G.T.builtins G.T.nolimit hg hobj hints (Nat.le_trans hlen hz) hr hF hb
  exact go (fun H hO hS => hsp H a ns hlen hO hS) fun H e s' z => cx_none z
end GL
set_option Elab.async false
set_option linter.all false
set_option maxRecDepth 100000
set_option maxHeartbeats 1000000
namespace GL
open PySem PySem.Spec PyProof.Rows L2
end GL
set_option Elab.async false
set_option linter.all false
set_option maxRecDepth 100000
set_option maxHeartbeats 1000000
namespace GL
open PySem PySem.Spec PyProof.Rows L2
end GL
set_option Elab.async false
set_option linter.all false
set_option maxRecDepth 100000
set_option maxHeartbeats 2000000
namespace GL
open PySem PySem.Spec PyProof.Rows L2
end GL
set_option Elab.async false
set_option linter.all false
set_option maxRecDepth 100000
set_option maxHeartbeats 2000000
namespace GL
open PySem PySem.Spec PyProof.Rows L2
end GL
set_option Elab.async false
set_option linter.all false
set_option maxRecDepth 100000
set_option maxHeartbeats 2000000
namespace GL
open PySem PySem.Spec PyProof.Rows L2
end GL
set_option Elab.async false
set_option linter.all false
set_option maxRecDepth 100000
set_option maxHeartbeats 2000000
namespace GL
open PySem PySem.Spec PyProof.Rows L2
end GL
set_option Elab.async false
set_option linter.all false
set_option maxRecDepth 100000
set_option maxHeartbeats 2000000
namespace GL
open PySem PySem.Spec PySem.Calls PyProof.Rows L2
theorem ClsV.rel {v : V} {u : Value} (c : ClsV v u) : RelV v u := by cases c <;> rfl
end GL
set_option Elab.async false
set_option linter.all false
set_option maxRecDepth 100000
set_option maxHeartbeats 1000000
namespace GL
open PySem PySem.Spec PyProof.Rows L2
abbrev AlK : Type := He.AlD × List (Option (List (Option (Str × Int))))
def obsK (fb : PySem.W.Frag → Bool) (fn : List He.DefD) (ts : List He.Tab) (K : PySem.W.Frag) : AlK := (obsB fb fn K, ts.map fun t => He.dicW K (t.1 K))
def valK (fn : List He.DefD) (ts : List He.Tab) (w : World) : AlK := (He.valD fn, ts.map fun t => some (He.keysIn w.params t.2))
def SaysK (fb : PySem.W.Frag → Bool) (fn : List He.DefD) (ts : List He.Tab) (w : World) (K : PySem.W.Frag) : Prop := obsK fb fn ts K = valK fn ts w
section
variable {fb : PySem.W.Frag → Bool} {fn : List He.DefD} {ts : List He.Tab} {w : World} {K : PySem.W.Frag}
theorem SaysK.d (c : SaysK fb fn ts w K) : SaysB fb fn K := congrArg (fun z : AlK => z.1) c
end
end GL
set_option Elab.async false
set_option linter.all false
set_option maxRecDepth 100000
set_option maxHeartbeats 2000000
namespace GL
open PySem PySem.Spec PyProof.Rows L2
end GL
set_option Elab.async false
set_option linter.all false
set_option maxRecDepth 100000
set_option maxHeartbeats 2000000
namespace GL
open PySem PySem.Spec PyProof.Rows L2
abbrev XnW : Type := Option (Str × Str × Arguments × FuncBody × Scope × Addr × List Str × Addr)
def xnW (K : PySem.W.Frag) (p : Str × Option Str) : XnW := match K.lookup (He.fAd K p) with
  | some ⟨_, _, .func fd, _⟩ => some (fd.name, fd.qualname, fd.params, fd.body, fd.scope, fd.globals, fd.closure.map (·.1), fd.builtins)
  | _ => none
def xnV (d : He.DefD) : XnW := some (d.name, d.qual, d.params, .stmts d.body, d.scope, mainGlobals, ["__class__"], builtinsNs)
abbrev AlX : Type := AlK × List XnW
def obsX (fb : PySem.W.Frag → Bool) (fn : List He.DefD) (ts : List He.Tab) (xs : List He.DefD) (K : PySem.W.Frag) : AlX := (obsK fb fn ts K, xs.map fun d => xnW K d.at_)
def valX (fn : List He.DefD) (ts : List He.Tab) (xs : List He.DefD) (w : World) : AlX := (valK fn ts w, xs.map xnV)
def SaysX (fb : PySem.W.Frag → Bool) (fn : List He.DefD) (ts : List He.Tab) (xs : List He.DefD) (w : World) (K : PySem.W.Frag) : Prop := obsX fb fn ts xs K = valX fn ts xs w
section
variable {fb : PySem.W.Frag → Bool} {fn : List He.DefD} {ts : List He.Tab} {xs : List He.DefD} {w : World} {K : PySem.W.Frag}
theorem SaysX.k (c : SaysX fb fn ts xs w K) : SaysK fb fn ts w K := congrArg (fun z : AlX => z.1) c
theorem SaysX.d (c : SaysX fb fn ts xs w K) : SaysB fb fn K := c.k.d
theorem SaysX.xn (c : SaysX fb fn ts xs w K) (i : Nat) {d : He.DefD} (h : xs[i]? = some d := by rfl) : xnW K d.at_ = xnV d := by
  have e : xs.map (fun d => xnW K d.at_) = xs.map xnV := congrArg (fun z : AlX => z.2) c
  have e2 : (xs.map fun d => xnW K d.at_)[i]? = (xs.map xnV)[i]? := by rw [e]
  rw [List.getElem?_map, List.getElem?_map, h] at e2
  exact Option.some.inj e2
end
end GL
set_option Elab.async false
set_option linter.all false
set_option maxRecDepth 100000
set_option maxHeartbeats 1000000
namespace GL
open PySem PySem.Spec PyProof.Rows L2
end GL
set_option Elab.async false
set_option linter.all false
set_option maxRecDepth 100000
set_option maxHeartbeats 1000000
namespace GL
open PySem PySem.Spec PyProof.Rows L2
end GL
set_option Elab.async false
set_option linter.all false
set_option maxRecDepth 100000
set_option maxHeartbeats 2000000
namespace GL
open PySem PySem.Spec PyProof.Rows L2
def insI (k : Int) : List Int → List Int
  | [] => [k]
  | x :: r => if k < x then k :: x :: r else if k = x then x :: r else x :: insI k r
def sortI : List Int → List Int
  | [] => []
  | x :: r => insI x (sortI r)
theorem insI_mem {k j : Int} : ∀ {l : List Int}, j ∈ insI k l ↔ j = k ∨ j ∈ l
  | [] => by simp [insI]
  | x :: r => by
    unfold insI
    split
    · simp
    · split
      · rename_i e; subst e; simp
      · rw [List.mem_cons, insI_mem (l := r), List.mem_cons]
        constructor
        · rintro (h | h | h)
          · exact .inr (.inl h)
          · exact .inl h
          · exact .inr (.inr h)
        · rintro (h | h | h)
          · exact .inr (.inl h)
          · exact .inl h
          · exact .inr (.inr h)
theorem insI_sorted {k : Int} : ∀ {l : List Int}, l.Pairwise (· < ·) → (insI k l).Pairwise (· < ·)
  | [], _ => by simp [insI]
  | x :: r, h => by
    obtain ⟨h1, h2⟩ := List.pairwise_cons.mp h
    unfold insI
    split
    · rename_i hk
      refine List.pairwise_cons.mpr ⟨fun y hy => ?_, h⟩
      rcases List.mem_cons.mp hy with rfl | hy
      · exact hk
      · exact Int.lt_trans hk (h1 y hy)
    · split
      · exact h
      · rename_i a b
        refine List.pairwise_cons.mpr ⟨fun y hy => ?_, insI_sorted h2⟩
        rcases insI_mem.mp hy with rfl | hy
        · omega
        · exact h1 y hy
theorem sortI_mem {j : Int} : ∀ {l : List Int}, j ∈ sortI l ↔ j ∈ l
  | [] => by simp [sortI]
  | x :: r => by unfold sortI; rw [insI_mem, sortI_mem, List.mem_cons]
theorem sortI_sorted : ∀ {l : List Int}, (sortI l).Pairwise (· < ·)
  | [] => by simp [sortI]
  | x :: r => insI_sorted sortI_sorted
theorem sorted_uniq : ∀ {a b : List Int}, a.Pairwise (· < ·) → b.Pairwise (· < ·) → (∀ k, k ∈ a ↔ k ∈ b) → a = b
  | [], [], _, _, _ => rfl
  | [], y :: s, _, _, h => by have := (h y).mpr List.mem_cons_self; cases this
  | x :: r, [], _, _, h => by have := (h x).mp List.mem_cons_self; cases this
  | x :: r, y :: s, ha, hb, h => by
    obtain ⟨a1, a2⟩ := List.pairwise_cons.mp ha
    obtain ⟨b1, b2⟩ := List.pairwise_cons.mp hb
    have e : x = y := by
      rcases List.mem_cons.mp ((h x).mp List.mem_cons_self) with e | e
      · exact e
      · rcases List.mem_cons.mp ((h y).mpr List.mem_cons_self) with e2 | e2
        · exact e2.symm
        · have := a1 y e2; have := b1 x e; omega
    subst e
    congr 1
    refine sorted_uniq a2 b2 fun k => ⟨fun hk => ?_, fun hk => ?_⟩
    · rcases List.mem_cons.mp ((h k).mp (List.mem_cons_of_mem _ hk)) with e | e
      · have := a1 k hk; omega
      · exact e
    · rcases List.mem_cons.mp ((h k).mpr (List.mem_cons_of_mem _ hk)) with e | e
      · have := b1 k hk; omega
      · exact e
end GL
set_option Elab.async false
set_option linter.all false
set_option maxRecDepth 100000
set_option maxHeartbeats 2000000
namespace GL
open PySem PySem.Spec PyProof.Rows L2
variable {pw : PgW}
def keqP : PV → PV → Bool
  | .int i, .int j => decide (i = j)
  | .str a, .str b => decide (a = b)
  | _, _ => false
def isKeyP : PV → Bool
  | .int _ => true
  | .str _ => true
  | _ => false
def lookP (k : PV) : List (PV × PV) → Option PV
  | [] => none
  | (a, w) :: r => if keqP a k = true then some w else lookP k r
def setP (k w : PV) : List (PV × PV) → List (PV × PV)
  | [] => []
  | (a, v) :: r => (if keqP a k = true then (a, w) else (a, v)) :: setP k w r
def putP (k w : PV) (kvs : List (PV × PV)) : List (PV × PV) := match lookP k kvs with
  | some _ => setP k w kvs
  | none => kvs ++ [(k, w)]
theorem rkey_of {k : PV} {v : V} {K : PySem.W.Frag} {ρ : Nat → Addr} {N : Nat} {H : Hp} (r : RW K ρ N H k v) (h : isKeyP k = true) : ∃ kk, RKey k kk ∧ v = kV kk := by
  cases r with
  | int i => exact ⟨.inl i, rfl, rfl⟩
  | str x => exact ⟨.inr x, rfl, rfl⟩
  | _ => cases h
theorem keq_rel {a b : PV} {x y : Key} (ra : RKey a x) (rb : RKey b y) : keqP a b = decide (x = y) := by
  cases a with
  | int i => cases x with
    | inl i' => cases b with
      | int j => cases y with
        | inl j' =>
          have ra : i = i' := ra
          have rb : j = j' := rb
          subst ra rb
          show decide (i = j) = _
          by_cases h : i = j
          · subst h; simp
          · have : ¬ (Sum.inl i : Key) = Sum.inl j := fun z => h (Sum.inl.inj z)
            rw [decide_eq_false h, decide_eq_false this]
        | inr _ => exact rb.elim
      | str _ => cases y with
        | inl _ => exact rb.elim
        | inr _ => simp [keqP]
      | _ => exact rb.elim
    | inr _ => exact ra.elim
  | str l => cases x with
    | inr x' => cases b with
      | str m => cases y with
        | inr y' =>
          have ra : x'.cps.toList = l := ra
          have rb : y'.cps.toList = m := rb
          subst ra rb
          show decide (x'.cps.toList = y'.cps.toList) = _
          by_cases h : x' = y'
          · subst h; simp
          · have : ¬ (Sum.inr x' : Key) = Sum.inr y' := fun z => h (Sum.inr.inj z)
            have h2 : ¬ x'.cps.toList = y'.cps.toList := fun z => h (by
              cases x'; cases y'; exact congrArg _ (Array.toList_inj.mp z))
            rw [decide_eq_false h2, decide_eq_false this]
        | inl _ => exact rb.elim
      | int _ => cases y with
        | inr _ => exact rb.elim
        | inl _ => simp [keqP]
      | _ => exact rb.elim
    | inl _ => exact ra.elim
  | _ => exact ra.elim
section
variable {K : PySem.W.Frag} {ρ : Nat → Addr} {N : Nat} {H : Hp} {k w : PV} {kk : Key} {v : V}
theorem lookP_rel (rk : RKey k kk) : ∀ {kvs : List (PV × PV)} {kv' : List (Key × V)}, RKs K ρ N H kvs kv' → (∀ w, lookP k kvs = some w → ∃ v, valV kv' kk = some v ∧ RW K ρ N H w v) ∧ (lookP k kvs = none → valV kv' kk = none)
  | _, _, .nil => ⟨fun w h => (by cases h), fun _ => rfl⟩
  | _, _, .cons (k := a) (kk := x) (w := w0) (v := v0) ra r t => by
    obtain ⟨h1, h2⟩ := lookP_rel rk t
    have e := keq_rel ra rk
    unfold lookP
    by_cases h : x = kk
    · rw [decide_eq_true h] at e
      rw [e, valV_pos h]
      exact ⟨fun w z => by cases z; exact ⟨_, rfl, r⟩, fun z => by cases z⟩
    · rw [decide_eq_false h] at e
      rw [e, valV_neg h]
      exact ⟨h1, h2⟩
theorem setP_rel (rk : RKey k kk) (rw_ : RW K ρ N H w v) : ∀ {kvs : List (PV × PV)} {kv' : List (Key × V)}, RKs K ρ N H kvs kv' → RKs K ρ N H (setP k w kvs) (kv'.map fun kv => if kv.1 = kk then (kv.1, v) else kv)
  | _, _, .nil => .nil
  | _, _, .cons (k := a) (kk := x) (w := w0) (v := v0) ra r t => by
    have ih := setP_rel rk rw_ t
    have e := keq_rel ra rk
    unfold setP
    rw [List.map_cons]
    by_cases h : x = kk
    · rw [decide_eq_true h] at e
      rw [e, if_pos rfl, if_pos h]
      exact .cons ra rw_ ih
    · rw [decide_eq_false h] at e
      rw [e, if_neg Bool.false_ne_true, if_neg h]
      exact .cons ra r ih
theorem RKs.app : ∀ {a b : List (PV × PV)} {x y : List (Key × V)}, RKs K ρ N H a x → RKs K ρ N H b y → RKs K ρ N H (a ++ b) (x ++ y)
  | _, _, _, _, .nil, s => s
  | _, _, _, _, .cons rk r t, s => .cons rk r (RKs.app t s)
theorem RKs.length : ∀ {a : List (PV × PV)} {x : List (Key × V)}, RKs K ρ N H a x → a.length = x.length
  | _, _, .nil => rfl
  | _, _, .cons _ _ t => by simp [RKs.length t]
theorem putP_rel (rk : RKey k kk) (rw_ : RW K ρ N H w v) {kvs : List (PV × PV)} {kv' : List (Key × V)} (t : RKs K ρ N H kvs kv') : RKs K ρ N H (putP k w kvs) (putK kv' kk v) := by
  obtain ⟨h1, h2⟩ := lookP_rel rk t
  unfold putP putK
  rw [valV_any]
  cases e : lookP k kvs with
  | some w0 =>
    obtain ⟨v0, e2, _⟩ := h1 w0 e
    rw [e2]
    exact setP_rel rk rw_ t
  | none =>
    rw [h2 e]
    exact t.app (.cons rk rw_ .nil)
end
def dctAt (S : Sto) (n : Nat) : Option (List (PV × PV)) := match S[n]? with
  | some (.dct kvs) => some kvs
  | _ => none
def rdctAt (S : Sto) (n : Nat) : Option (List (PV × PV)) := match S[n]? with
  | some (.dct kvs) => some kvs
  | some (.fdct kvs) => some kvs
  | _ => none
theorem dctAt_get {S : Sto} {n : Nat} {kvs : List (PV × PV)} (h : dctAt S n = some kvs) : S[n]? = some (.dct kvs) := by
  unfold dctAt at h
  split at h
  · rename_i e; cases h; exact e
  · cases h
theorem rdct_of {K : PySem.W.Frag} {ρ : Nat → Addr} {H : Hp} {S : Sto} {n : Nat} {kvs : List (PV × PV)} (hS : RSt pw K ρ H S) (h : rdctAt S n = some kvs) : ∃ kv', Rd H (ρ n) (.dK kv') ∧ RKs K ρ S.length H kvs kv' := by
  unfold rdctAt at h
  split at h
  · rename_i e; cases h
    obtain ⟨kv', a, t⟩ := hS.at_ _ _ e
    exact ⟨kv', .inl a, t⟩
  · rename_i e; cases h
    obtain ⟨o, kv', a, t⟩ := hS.at_ _ _ e
    exact ⟨kv', .inr ⟨o, a⟩, t⟩
  · cases h
theorem units_le {n : Nat} (h : n + 64 < cLine) : n + 1 < cLine := by omega
def eDGet (d k : ME) : ME := fun ls S => (d ls S).bind fun w S1 => (k ls S1).bind fun y S2 => match w with
  | .loc n => (match rdctAt S2 n with
    | some kvs => if isKeyP y = true then (match lookP y kvs with
      | some v => .ok v S2
      | none => .bad) else .bad
    | none => .bad)
  | _ => .bad
def eDIn (neg : Bool) (k d : ME) : ME := fun ls S => (k ls S).bind fun y S1 => (d ls S1).bind fun w S2 => match w with
  | .loc n => (match rdctAt S2 n with
    | some kvs => if isKeyP y = true then .ok (.bl (if neg then !(lookP y kvs).isSome else (lookP y kvs).isSome)) S2 else .bad
    | none => .bad)
  | _ => .bad
def sDPutM (d k e : ME) : MS := fun ls S => (e ls S).then ls fun v S1 => (d ls S1).then ls fun w S2 => (k ls S2).then ls fun y S3 => match w with
  | .loc n => (match dctAt S3 n with
    | some kvs => if (isKeyP y && decide (kvs.length < 1000)) = true then .nx ls (S3.set n (.dct (putP y v kvs))) else .bad
    | none => .bad)
  | _ => .bad
section
variable {X : Cx} {Wx : L2.WX} {d k e : Expr} {md mk me : ME} {pos pos' : Pos}
theorem ie_dget (hu : X.A.units + 64 < cLine) (hd : IE X Wx d md) (hk : IE X Wx k mk) (hs : NoSl k := by exact fun _ _ => rfl) : IE X Wx (.Subscript d k pos) (eDGet md mk) :=
  PEi (pe_dget (units_le hu) hd hk hs) fun σ H Q ⟨ρ, S, ls, hS, hL, h⟩ => ⟨ρ, S, ls, hS, hL, (Post.bind (R := RW) h).imp fun x H1 ⟨ρ1, S1, w1, e1, hS1, r1, h1⟩ =>
    ⟨ρ1, S1, ls, hS1, hL.ext e1, (Post.bind (R := RW) h1).imp fun y H2 ⟨ρ2, S2, w2, e2, hS2, r2, h2⟩ => by
      have r1 := r1.ext e2
      split at h2
      · split at h2
        · rename_i kvs ek
          split at h2
          · rename_i hk
            split at h2
            · rename_i v0 el
              cases r1 with
              | loc n hn =>
                obtain ⟨kv', hr, t⟩ := rdct_of hS2 ek
                obtain ⟨kk, rk, ey⟩ := rkey_of r2 hk
                obtain ⟨v, ev, rv⟩ := (lookP_rel rk t).1 _ el
                exact ⟨_, v, rfl, .inl ⟨kv', kk, hr, ey, ev.symm⟩, h2.here hS2 rv⟩
            · exact h2.elim
          · exact h2.elim
        · exact h2.elim
      · exact h2.elim⟩⟩
theorem din_in {σ : L2.St} {H : Hp} {Q : VK} {neg : Bool} (h : tE (pwX X) X.K Wx (eDIn neg mk md) σ H Q) : tE (pwX X) X.K Wx mk σ H fun y H1 => tE (pwX X) X.K Wx md σ H1 fun x H2 => ∃ a o, x = .ref a ∧ DGet H2 a y o ∧ Q (.bl (if neg then !o.isSome else o.isSome)) H2 := by
  obtain ⟨ρ, S, ls, hS, hL, h⟩ := h
  exact ⟨ρ, S, ls, hS, hL, (Post.bind (R := RW) h).imp fun y H1 ⟨ρ1, S1, w1, e1, hS1, r1, h1⟩ =>
    ⟨ρ1, S1, ls, hS1, hL.ext e1, (Post.bind (R := RW) h1).imp fun x H2 ⟨ρ2, S2, w2, e2, hS2, r2, h2⟩ => by
      have r1 := r1.ext e2
      split at h2
      · split at h2
        · rename_i kvs ek
          split at h2
          · rename_i hk
            cases r2 with
            | loc n hn =>
              obtain ⟨kv', hr, t⟩ := rdct_of hS2 ek
              obtain ⟨kk, rk, ey⟩ := rkey_of r1 hk
              obtain ⟨q1, q2⟩ := lookP_rel rk t
              refine ⟨_, valV kv' kk, rfl, .inl ⟨kv', kk, hr, ey, rfl⟩, ?_⟩
              have es : (valV kv' kk).isSome = (lookP w1 kvs).isSome := by
                cases el : lookP w1 kvs with
                | some v0 => obtain ⟨v, ev, _⟩ := q1 v0 el; rw [ev]; rfl
                | none => rw [q2 el]; rfl
              rw [es]
              exact h2.here hS2 (.bl _)
          · exact h2.elim
        · exact h2.elim
      · exact h2.elim⟩⟩
theorem it_din (hu : X.A.units + 64 < cLine) (hk : IE X Wx k mk) (hd : IE X Wx d md) (h1 : behindInMarks .In d = false := by first | exact nobehind _ (by decide) (by decide) | rfl) : IT X Wx (.Compare k [.In] [d] pos) (toT (eDIn false mk md)) :=
  PTi (pt_cmp (pc_din (units_le hu) hk hd) h1) fun σ H Q h => din_in (test_in h)
theorem is_dput (hu : X.A.units + 64 < cLine) (hd : IE X Wx d md) (hk : IE X Wx k mk) (he : IE X Wx e me) (hs : swapsWith e (some (.Subscript d k pos')) pos.line X.env = pure false := by rfl) : IS X Wx (.Assign [.Subscript d k pos'] e pos) (sDPutM md mk me) :=
  PSi (ps_dput (units_le hu) hd hk he hs) fun D σ H ⟨ρ, S, ls, hS, hL, h⟩ => ⟨ρ, S, ls, hS, hL, (Post.then (R := RW) hL h).imp fun v H1 ⟨ρ1, S1, w1, e1, hS1, r1, h1⟩ =>
    ⟨ρ1, S1, ls, hS1, hL.ext e1, (Post.then (R := RW) (hL.ext e1) h1).imp fun x H2 ⟨ρ2, S2, w2, e2, hS2, r2, h2⟩ =>
      ⟨ρ2, S2, ls, hS2, (hL.ext e1).ext e2, (Post.then (R := RW) ((hL.ext e1).ext e2) h2).imp fun y H3 ⟨ρ3, S3, w3, e3, hS3, r3, h3⟩ => by
        have r2 := r2.ext e3
        have r1 := (r1.ext e2).ext e3
        cases w2 with
        | loc n =>
          dsimp only at h3
          split at h3
          · rename_i kvs ek
            split at h3
            · rename_i hz
              obtain ⟨hk, hl⟩ := Bool.and_eq_true_iff.mp hz
              have hl := of_decide_eq_true hl
              cases r2 with
              | loc n hn =>
                have eg := dctAt_get ek
                obtain ⟨kv', hr, t⟩ := hS3.at_ _ _ eg
                obtain ⟨kk, rk, ey⟩ := rkey_of r3 hk
                refine ⟨_, _, rfl, .inl ⟨kv', kk, hr, ey, by rw [← t.length, sizeLine_eq]; omega, rfl⟩, ?_⟩
                have e4 : Ext X.K ρ3 S3.length H3 ρ3 S3.length (upd H3 (ρ3 n) (.dK (putK kv' kk v))) := ext_upd hr trivial
                have t4 := (putP_rel rk r1 t).ext e4
                have s4 := hS3.set (o' := .dct (putP w3 w1 kvs)) (ho := .dK (putK kv' kk v)) eg rfl rfl ⟨_, upd_same, t4⟩
                refine h3 ρ3 _ σ ?_ s4 ?_
                · rw [List.length_set]; exact e4
                · rw [List.length_set]; exact (((hL.ext e1).ext e2).ext e3).ext e4
            · exact h3.elim
          · exact h3.elim
        | _ => exact False.elim h3⟩⟩⟩
end
def mergeP (kvs more : List (PV × PV)) : List (PV × PV) := more.foldl (fun acc kv => putP kv.1 kv.2 acc) kvs
inductive RPs (K : PySem.W.Frag) (ρ : Nat → Addr) (N : Nat) (H : Hp) : List (PV × PV) → List (V × V) → Prop
  | nil : RPs K ρ N H [] []
  | cons {a b : PV} {x y : V} {r : List (PV × PV)} {s : List (V × V)} : RW K ρ N H a x → RW K ρ N H b y → RPs K ρ N H r s → RPs K ρ N H ((a, b) :: r) ((x, y) :: s)
theorem RPs.ext {K : PySem.W.Frag} {ρ ρ' : Nat → Addr} {N N' : Nat} {H H' : Hp} (e : Ext K ρ N H ρ' N' H') : ∀ {a : List (PV × PV)} {b : List (V × V)}, RPs K ρ N H a b → RPs K ρ' N' H' a b
  | _, _, .nil => .nil
  | _, _, .cons r1 r2 t => .cons (r1.ext e) (r2.ext e) (RPs.ext e t)
theorem merge_rel {K : PySem.W.Frag} {ρ : Nat → Addr} {N : Nat} {H : Hp} {more : List (PV × PV)} {m' : List (Key × V)} (s : RKs K ρ N H more m') : ∀ {kvs : List (PV × PV)} {kv' : List (Key × V)}, RKs K ρ N H kvs kv' → RKs K ρ N H (mergeP kvs more) (mergeK kv' m') := by
  induction s with
  | nil => exact fun t => t
  | cons rk r _ ih => exact fun t => ih (putP_rel rk r t)
def eDNew : ME := fun _ S => .ok (.loc S.length) (S ++ [.dct []])
theorem ie_dnew {X : Cx} {Wx : L2.WX} {pos : Pos} : IE X Wx (.Dict [] [] pos) eDNew :=
  PEi pe_dnewK fun σ H Q ⟨ρ, S, ls, hS, hL, hq⟩ => by
    intro p hp
    have e0 : Ext X.K ρ S.length H (grow ρ S.length p) (S ++ [OB.dct []]).length (upd H p (.dK [])) := by rw [List.length_append, List.length_singleton]; exact ext_new hp
    have s0 : RSt (pwX X) X.K (grow ρ S.length p) (upd H p (.dK [])) (S ++ [OB.dct []]) := hS.new hp rfl ⟨[], upd_same, .nil⟩
    refine hq _ _ _ e0 s0 ?_
    have q : RW X.K (grow ρ S.length p) (S ++ [OB.dct []]).length (upd H p (.dK [])) (.loc S.length) (.ref (grow ρ S.length p S.length)) := .loc _ (by rw [List.length_append, List.length_singleton]; exact Nat.lt_succ_self _)
    rw [grow_new] at q
    exact q
end GL
set_option Elab.async false
set_option linter.all false
set_option maxRecDepth 100000
set_option maxHeartbeats 2000000
namespace GL
open PySem PySem.Spec PyProof.Rows L2
end GL
set_option Elab.async false
set_option linter.all false
set_option maxRecDepth 100000
set_option maxHeartbeats 1000000
namespace GL
open PySem PySem.Spec PyProof.Rows L2
end GL
set_option Elab.async false
set_option linter.all false
set_option maxRecDepth 100000
set_option maxHeartbeats 1000000
namespace GL
open PySem PySem.Spec PyProof.Rows L2
end GL
set_option Elab.async false
set_option linter.all false
set_option maxRecDepth 100000
set_option maxHeartbeats 1000000
namespace L2
open PySem PySem.Spec PyProof.Rows
variable {X : Cx} {pos : Pos}
def gFld (K : PySem.W.Frag) (to : TE) (f : Str) : TG := fun v σ H Q => to σ H fun x H1 => ∃ a C dx fs, x = .ref a ∧ H1 a = some (.ins C dx fs) ∧ Cls K C ∧ NoAttr K C f ∧ fs.length < 1000 ∧ Q σ (upd H1 a (.ins C dx (putF f v fs)))
theorem pg_fld {o : Expr} {f : Str} {to : TE} (ho : PE X o to) : PG X (.Attribute o f pos) (gFld X.K to f) := by
  refine ⟨fun pins s σ H v u Q I r h => ?_⟩
  rw [assign_Attribute]
  refine wpAny_bind (wpAny_holding (thn (ho.run pins s σ H _ I h) fun ov s1 ⟨x, H1, I1, rx, a, C, dx, fs, ex, ea, c, n, l, q⟩ => ?_))
  subst ex
  obtain rfl : ov = Value.ref a := rx
  first
    | exact wpAny_bind (wpAny_standAt (wpAny_bind (wpAny_holding (setattr_ok I1 ea c n l r fun s3 I3 => wpAny_release ⟨σ, _, I3, q⟩))))
    | exact wpAny_bind (wpAny_standAt (wpAny_holding (setattr_ok I1 ea c n l r fun s3 I3 => ⟨σ, _, I3, q⟩)))
end L2
namespace GL
open PySem PySem.Spec PyProof.Rows L2
variable {pw : PgW}
variable {X : Cx} {Wx : WX} {pos : Pos} {tab : Nm → Nm → Bool}
def putFld (tab : Nm → Nm → Bool) (f : Nm) (o : ME) (w : PV) (ls : Ls) (S : Sto) : Option Sto := match o ls S with
  | .ok x S2 => (match insAt S2 x with
    | some (n, C, fs) => if (tab C f && decide (fs.length < 1000)) = true then some (S2.set n (.ins C (putN f w fs))) else none
    | none => none)
  | _ => none
def putFlds (tab : Nm → Nm → Bool) (o : ME) : List Nm → List PV → Ls → Sto → Option Sto
  | [], [], _, S => some S
  | f :: fr, w :: wr, ls, S => (match putFld tab f o w ls S with
    | some S1 => putFlds tab o fr wr ls S1
    | none => none)
  | _, _, _, _ => none
def sAsgF (tab : Nm → Nm → Bool) (fs : List Nm) (o m : ME) : MS := fun ls S => (m ls S).then ls fun w S1 => match w with
  | .tup ws => (match putFlds tab o fs ws ls S1 with
    | some S2 => .nx ls S2
    | none => .bad)
  | _ => .bad
def tFlds (pw : PgW) (K : PySem.W.Frag) (tab : Nm → Nm → Bool) (o : ME) (fs : List Nm) : TGs := fun vs σ H Q => ∃ ρ S ls ws S', RSt pw K ρ H S ∧ RL K ρ S.length H ls σ ∧ RWs K ρ S.length H ws vs ∧ putFlds tab o fs ws ls S = some S' ∧
  ∀ ρ' H', Ext K ρ S.length H ρ' S'.length H' → RSt pw K ρ' H' S' → RL K ρ' S'.length H' ls σ → Q σ H'
def IGF (X : Cx) (_ : WX) (es : List Expr) (tab : Nm → Nm → Bool) (o : ME) (fs : List Nm) : Prop := PGs X es (tFlds (pwX X) X.K tab o fs)
theorem igf_nil {o : ME} : IGF X Wx [] tab o [] := PGsi pgs_nil fun vs σ H Q ⟨ρ, S, ls, ws, S', hS, hL, r, e, h⟩ => by
  cases r with
  | nil => cases e; exact ⟨rfl, h ρ H .refl hS hL⟩
  | cons a b => cases e
theorem igf_cons {o : Expr} {mo : ME} {fs : Str} {fl : Nm} {pos' : Pos} {es : List Expr} {fr : List Nm} (T : Atts X.K tab) (ho : IE X Wx o mo) (h2 : IGF X Wx es tab mo fr) (hf : fs = toS fl)
    (hs : (assignEach (.Attribute o fs pos' :: es) X.env).map (·.2) = assign (.Attribute o fs pos') X.env :: (assignEach es X.env).map (·.2) := by rfl) : IGF X Wx (.Attribute o fs pos' :: es) tab mo (fl :: fr) :=
  PGsi (pgs_cons (pg_fld ho) h2 hs) fun vs σ H Q ⟨ρ, S, ls, ws, S', hS, hL, r, e, h⟩ => by
    cases r with
    | nil => cases e
    | cons r rs =>
      rename_i w wr v vr _
      unfold putFlds at e
      split at e
      · rename_i S1 e1
        refine ⟨_, _, rfl, ρ, S, ls, hS, hL, ?_⟩
        unfold putFld at e1
        split at e1
        · rename_i x S2 em
          rw [em]
          intro ρ2 H2 xv x2 hS2 r2
          split at e1
          · rename_i n D' gs ei
            split at e1
            · rename_i et
              cases e1
              rw [Bool.and_eq_true] at et
              obtain ⟨rfl, dx, fs', hH, rf⟩ := ins_of hS2 r2 ei
              obtain ⟨rfl, eg⟩ := insAt_get ei
              obtain ⟨c, na⟩ := T _ _ et.1
              subst hf
              refine ⟨_, _, dx, fs', rfl, hH, c, na, by rw [← rf.length]; exact of_decide_eq_true et.2, ?_⟩
              have ee : Ext X.K ρ2 S2.length H2 ρ2 S2.length (upd H2 (ρ2 n) (.ins (He.ga X.K (toS D')) dx (putF (toS fl) v fs'))) := ext_upd hH trivial
              have xx : Ext X.K ρ S.length H ρ2 (S2.set n (.ins D' (putN fl w gs))).length (upd H2 (ρ2 n) (.ins (He.ga X.K (toS D')) dx (putF (toS fl) v fs'))) := by rw [List.length_set]; exact x2.trans ee
              have hset : RSt (pwX X) X.K ρ2 (upd H2 (ρ2 n) (.ins (He.ga X.K (toS D')) dx (putF (toS fl) v fs'))) (S2.set n (.ins D' (putN fl w gs))) := hS2.set eg rfl rfl ⟨dx, _, upd_same, put_rel ((r.ext x2).ext ee) (rf.ext ee)⟩
              refine ⟨ρ2, _, ls, wr, S', hset, hL.ext xx, rs.ext xx, e, fun ρ' H' x' hS' hL' => h ρ' H' (xx.trans x') hS' hL'⟩
            · cases e1
          · cases e1
        · cases e1
      · cases e
theorem putFlds_len {o : ME} : ∀ {fs : List Nm} {ws : List PV} {ls : Ls} {S S' : Sto}, putFlds tab o fs ws ls S = some S' → ws.length = fs.length
  | [], [], _, _, _, _ => rfl
  | f :: fr, w :: wr, ls, S, S', h => by
    unfold putFlds at h
    split at h
    · rw [List.length_cons, List.length_cons, putFlds_len h]
    · cases h
  | [], _ :: _, _, _, _, h => by cases h
  | _ :: _, [], _, _, _, h => by cases h
theorem is_asgF {es : List Expr} {e : Expr} {k : Nat} {m o : ME} {fs : List Nm} {pos2 : Pos} (hc : X.calm = true) (hg : IGF X Wx es tab o fs) (he : IE X Wx e m)
    (hn : (assignEach es X.env).length = fs.length := by rfl) (hst : (assignEach es X.env).findIdx? (·.1) = none := by rfl)
    (hs : swapsWithSole [.Tuple es k pos2] e pos.line X.env = pure false := by rfl) (hw : swappedStores [.Tuple es k pos2] e X.env = pure none := by rfl)
    (h1 : (assignEach [.Tuple es k pos2] X.env).map (·.2) = [assign (.Tuple es k pos2) X.env] := by rfl) : IS X Wx (.Assign [.Tuple es k pos2] e pos) (sAsgF tab fs o m) :=
  PSi (ps_asg he (pg_tup hc hg hn hst) hs hw h1) fun D σ H ⟨ρ, S, ls, hS, hL, h⟩ => ⟨ρ, S, ls, hS, hL, (Post.then (R := RW) hL h).imp fun x H1 ⟨ρ1, S1, w1, e1, hS1, r1, h1⟩ => by
    split at h1
    · rename_i ws
      split at h1
      · rename_i S2 e2
        cases r1 with
        | tup s t =>
          exact ⟨_, _, rfl, s, by rw [← t.length]; exact putFlds_len e2, ρ1, S1, ls, ws, S2, hS1, hL.ext e1, t, e2, fun ρ' H' x' hS' hL' => h1 ρ' H' σ x' hS' hL'⟩
      · exact h1.elim
    · exact h1.elim⟩
end GL
set_option Elab.async false
set_option linter.all false
set_option maxRecDepth 100000
set_option maxHeartbeats 1000000
namespace GL
open PySem PySem.Spec PyProof.Rows L2
end GL
set_option Elab.async false
set_option linter.all false
set_option maxRecDepth 100000
set_option maxHeartbeats 1000000
namespace GL
open PySem PySem.Spec PyProof.Rows L2
inductive P1 where
  | c (s : List Nat)
  | v (i : Nat)
  | w
inductive PRs where
  | hit (bs : List (Nat × PV))
  | miss
  | bad
def mP : List P1 → List PV → PRs
  | [], [] => .hit []
  | .c s :: ps, x :: xs => (match x with
    | .str t => if t = s then mP ps xs else .miss
    | _ => .bad)
  | .v i :: ps, x :: xs => (match mP ps xs with
    | .hit bs => .hit ((i, x) :: bs)
    | .miss => .miss
    | .bad => .bad)
  | .w :: ps, _ :: xs => mP ps xs
  | _, _ => .bad
def putB : List (Nat × PV) → Ls → Ls
  | [], ls => ls
  | b :: r, ls => putB r (ls.set b.1 (some b.2))
def pickT (vs : List PV) : List (List P1 × MS) → MS → MS
  | [], d => d
  | (p, m) :: r, d => fun ls S => if vs.length = p.length then (match mP p vs with
    | .hit bs => m (putB bs ls) S
    | .miss => pickT vs r d ls S
    | .bad => .bad) else pickT vs r d ls S
def sMatchT (e : ME) (l : List (List P1 × MS)) (d : MS) : MS := fun ls S => (e ls S).then ls fun w S1 => match w with
  | .tup vs => pickT vs l d ls S1
  | _ => .bad
section
variable {X : Cx} {Wx : WX}
inductive PTs (X : Cx) : List Pattern → List P1 → Prop
  | nil : PTs X [] []
  | c {c : Str} {l0 : List Nat} {j} {p1 p2 : Pos} {ps : List Pattern} {l : List P1} : c.cps.toList = l0 → PTs X ps l → PTs X (.MatchValue (.Constant (.str c) j p1) p2 :: ps) (.c l0 :: l)
  | v {x : Str} {i : Nat} {p : Pos} {ps : List Pattern} {l : List P1} : X.N[i]? = some x → Loc X.env.scope x → (X.fn x = true ∨ X.env.scope.names.lookup x = some .local) → PTs X ps l → PTs X (.MatchAs none (some x) p :: ps) (.v i :: l)
  | w {p : Pos} {ps : List Pattern} {l : List P1} : PTs X ps l → PTs X (.MatchAs none none p :: ps) (.w :: l)
theorem PTs.len : ∀ {ps : List Pattern} {l : List P1}, PTs X ps l → ps.length = l.length
  | _, _, .nil => rfl
  | _, _, .c _ t => by rw [List.length_cons, List.length_cons, t.len]
  | _, _, .v _ _ _ t => by rw [List.length_cons, List.length_cons, t.len]
  | _, _, .w t => by rw [List.length_cons, List.length_cons, t.len]
inductive BRs (X : Cx) (ρ : Nat → Addr) (N : Nat) (H : Hp) : List (Nat × PV) → List (Str × Value) → Prop
  | nil : BRs X ρ N H [] []
  | cons {i : Nat} {x : Str} {w : PV} {v : V} {u : Value} {bs : List (Nat × PV)} {cs : List (Str × Value)} : X.N[i]? = some x → Loc X.env.scope x → (X.fn x = true ∨ X.env.scope.names.lookup x = some .local) →
      RW X.K ρ N H w v → RelV v u → BRs X ρ N H bs cs → BRs X ρ N H ((i, w) :: bs) ((x, u) :: cs)
theorem each_run {ρ : Nat → Addr} {N : Nat} {H : Hp} {σ : L2.St} {pins : List (Addr × Obj)} : ∀ {ps : List Pattern} {l : List P1}, PTs X ps l → ∀ {ws : List PV} {vs : List V} {us : List Value} {s : Shared} {Q : Option (List (Str × Value)) → Shared → Prop}, Inv X pins σ H s → RWs X.K ρ N H ws vs → Vals vs us →
    mP l ws ≠ .bad → (∀ bs, mP l ws = .hit bs → ∀ s' cs, Inv X pins σ H s' → BRs X ρ N H bs cs → Q (some cs) s') → (mP l ws = .miss → ∀ s', Inv X pins σ H s' → Q none s') →
    wpAny (model X.prog X.w) X.A (matchEach ps X.env us) Q X.xe s
  | _, _, .nil, ws, vs, us, s, Q, I, r, rv, hb, h1, h2 => by
    cases ws with
    | nil => exact wpAny_matchEach_nil (h1 [] rfl s [] I .nil)
    | cons => exact absurd rfl hb
  | _, _, .c (c := c) (l0 := l0) (l := l) hc t, ws, vs, us, s, Q, I, r, rv, hb, h1, h2 => by
    cases r with
    | nil => exact absurd rfl hb
    | cons r rs =>
      cases rv with
      | cons q qs =>
        cases r with
        | str x =>
          obtain ⟨t0, rfl⟩ := q
          refine wpAny_matchEach_cons (wpAny_matchPattern_Value ?_)
          refine thn ((pe_str (X := X)).run pins s σ H (fun v H1 => v = .str c ∧ H1 = H) I ⟨rfl, rfl⟩) fun v s1 ⟨v1, H1, I1, r1, e1, e2⟩ => ?_
          subst e1 e2
          obtain ⟨t1, rfl⟩ := r1
          refine eq_str ?_
          show wpAny _ _ (pure (x == c)) _ _ _
          refine wpAny_pure ?_
          have hx : (x == c) = decide (x.cps.toList = c.cps.toList) := by
            rw [← toList_beq]
            rw [Bool.eq_iff_iff]; simp
          rw [hx]
          unfold mP at hb h1 h2
          dsimp only at hb h1 h2
          rw [hc]
          by_cases e : x.cps.toList = l0
          · rw [decide_eq_true e]
            rw [if_pos e] at hb
            simp only [if_pos e] at h1 h2
            refine each_run t I1 rs qs hb (fun bs e1 s' cs I' b => ?_) h2
            exact h1 bs e1 s' cs I' b
          · rw [decide_eq_false e]
            simp only [if_neg e] at h2
            exact h2 trivial s1 I1
        | _ => exact absurd rfl hb
  | _, _, .v (i := i) (l := l) hi hx hf t, ws, vs, us, s, Q, I, r, rv, hb, h1, h2 => by
    cases r with
    | nil => exact absurd rfl hb
    | cons r rs =>
      cases rv with
      | cons q qs =>
        refine wpAny_matchEach_cons (wpAny_matchPattern_Capture ?_)
        unfold mP at hb h1 h2
        refine each_run t I rs qs (fun e => hb (by rw [e])) (fun bs e s' cs I' b => ?_) (fun e s' I' => ?_)
        · exact h1 _ (by rw [e]) s' _ I' (.cons hi hx hf r q b)
        · exact h2 (by rw [e]) s' I'
  | _, _, .w t, ws, vs, us, s, Q, I, r, rv, hb, h1, h2 => by
    cases r with
    | nil => exact absurd rfl hb
    | cons r rs =>
      cases rv with
      | cons q qs =>
        refine wpAny_matchEach_cons (wpAny_matchPattern_Capture ?_)
        unfold mP at hb h1 h2
        exact each_run t I rs qs hb (fun bs e s' cs I' b => h1 bs e s' cs I' b) h2
theorem bind_run {ρ : Nat → Addr} {N : Nat} {H : Hp} {pins : List (Addr × Obj)} (hN : X.N.Nodup) : ∀ {bs : List (Nat × PV)} {cs : List (Str × Value)}, BRs X ρ N H bs cs → ∀ {ls : Ls} {σ : L2.St} {s : Shared} {Q : Unit → Shared → Prop}, Inv X pins σ H s → RL X.K ρ N H ls σ →
    (∀ s' σ', Inv X pins σ' H s' → RL X.K ρ N H (putB bs ls) σ' → Q () s') → wpAny (model X.prog X.w) X.A (assignInOrder (cs.map fun (n, _) => bindName X.env n) (cs.map (·.2))) Q X.xe s
  | _, _, .nil, ls, σ, s, Q, I, hL, h => wpAny_assignInOrder_none (h s σ I hL)
  | _, _, .cons hi hx hf r q t, ls, σ, s, Q, I, hL, h => by
    show wpAny _ _ (assignInOrder (bindName X.env _ :: _) (_ :: _)) _ _ _
    refine wpAny_assignInOrder_more (wpAny_bindName (store_ok I hN hi hx q (fun s1 I1 => ?_) hf))
    exact bind_run hN t I1 (RL.set r _ hL) h
inductive MCTs (X : Cx) (Wx : WX) : List MatchCase → List (List P1 × MS) → MS → Prop
  | nil : MCTs X Wx [] [] sNil
  | case {ps : List Pattern} {l0 : List P1} {p : Pos} {body : List Stmt} {m : MS} {rest : List MatchCase} {l : List (List P1 × MS)} {d : MS} : PTs X ps l0 → (ps.findIdx? (·.isStar) = none) → ((ps.all fun p => p.isWildcard || (p.isStar && p.names.isEmpty)) = false) → ISs X Wx body m → MCTs X Wx rest l d → MCTs X Wx (⟨.MatchSequence ps p, none, body⟩ :: rest) ((l0, m) :: l) d
  | dflt {p : Pos} {body : List Stmt} {m : MS} : ISs X Wx body m → MCTs X Wx [⟨.MatchAs none none p, none, body⟩] [] m
theorem mct_run (hc : X.calm = true) (hN : X.N.Nodup) : ∀ {cs : List MatchCase} {l : List (List P1 × MS)} {d : MS}, MCTs X Wx cs l d → ∀ (pins : List (Addr × Obj)) (s : Shared) (σ : L2.St) (H : Hp) (D : Ends) (ρ : Nat → Addr) (S : Sto) (ls : Ls) (ws : List PV) (a : Addr) (vs : List V) (first : Bool), Inv X pins σ H s → RSt (pwX X) X.K ρ H S → RL X.K ρ S.length H ls σ →
    SqT X.K H a vs → RWs X.K ρ S.length H ws vs → PostS (pwX X) X.K ρ S.length H Wx (pickT ws l d ls S) D →
    wpAny (model X.prog X.w) X.A (matchCases cs X.env (.ref a) first) (SP X pins D) X.xe s
  | _, _, _, .nil, pins, s, σ, H, D, ρ, S, ls, ws, a, vs, first, I, hS, hL, sq, r, h => wpAny_matchCases_nil ⟨σ, H, I, h ρ H σ .refl hS hL⟩
  | _, _, _, .dflt hb, pins, s, σ, H, D, ρ, S, ls, ws, a, vs, first, I, hS, hL, sq, r, h => by
    refine wpAny_matchCases_cons (wpAny_matchPattern_Capture ?_)
    exact wpAny_assignInOrder_none (hb.run pins s σ H D I ⟨ρ, S, ls, hS, hL, h⟩)
  | _, _, _, .case (ps := ps) (l0 := l0) (l := l) (d := d) hp hst hwi hb hr, pins, s, σ, H, D, ρ, S, ls, ws, a, vs, first, I, hS, hL, sq, r, h => by
    obtain ⟨its, rv, ht, hz⟩ := I.tuple sq
    have hlw : ws.length = its.length := r.length.trans rv.length
    have hfit : (its.toArray.size : Int) < 2 ^ 63 := by
      rw [List.size_toArray]
      have hz' : its.length ≤ sizeLine := by rw [← rv.length]; exact hz
      have : sizeLine < 2 ^ 63 := by decide
      omega
    unfold pickT at h
    refine wpAny_matchCases_cons ?_
    have I1 : Inv X pins σ H { s with toks := s.toks + 1 + 1 } := I.kept (h' := s.heap) fun b o e => e
    by_cases e : ws.length = l0.length
    · rw [if_pos e] at h
      refine matchSeq_tuple_hit ht hfit (by rw [List.size_toArray, ← hlw, e, hp.len]) ?_ hst hwi
      have hn : ps.length = its.toArray.size := by rw [List.size_toArray, ← hlw, e, hp.len]
      rw [hn]
      refine unpackItems_tuple (s := { s with toks := s.toks + 1 + 1 }) (I.ok.hd hc) ht fun h' hx => ?_
      have I2 : Inv X pins σ H { s with heap := h', toks := s.toks + 1 + 1 } := I1.kept (t' := s.toks + 1 + 1) fun b o e => hx b o (Nat.ne_of_lt (Heap.lt_size e)) e
      refine each_run hp I2 r (by simpa using rv) (fun e1 => by rw [e1] at h; exact h.elim) (fun bs e1 s' cs I' b => ?_) (fun e1 s' I' => ?_)
      · rw [e1] at h
        exact bind_run hN b I' hL fun s2 σ2 I3 hL3 => hb.run pins s2 σ2 H D I3 ⟨ρ, S, _, hS, hL3, h⟩
      · rw [e1] at h
        exact mct_run hc hN hr pins s' σ H D ρ S ls ws a vs false I' hS hL sq r h
    · rw [if_neg e] at h
      refine matchSeq_tuple_miss ht hfit (by rw [List.size_toArray, ← hlw, hp.len]; exact e) ?_ hst hwi
      exact mct_run hc hN hr pins _ σ H D ρ S ls ws a vs false I1 hS hL sq r h
theorem is_matchT {e : Expr} {me : ME} {cs : List MatchCase} {l : List (List P1 × MS)} {d : MS} {pos : Pos} (hc : X.calm = true) (hN : X.N.Nodup) (he : IE X Wx e me) (hcs : MCTs X Wx cs l d) : IS X Wx (.Match e cs pos) (sMatchT me l d) :=
  ⟨fun pins s σ H D I ⟨ρ, S, ls, hS, hL, h⟩ => wpAny_Match (thn (he.run pins s σ H _ I ⟨ρ, S, ls, hS, hL, Post.then (R := RW) hL h⟩) fun u s1 ⟨v, H1, I1, r, ρ1, S1, w1, e1, hS1, r1, h1⟩ => by
    cases r1 with
    | tup sq t =>
      cases r
      exact mct_run hc hN hcs pins s1 σ H1 D ρ1 S1 ls _ _ _ true I1 hS1 (hL.ext e1) sq t h1
    | _ => exact h1.elim)⟩
end
end GL
set_option Elab.async false
set_option linter.all false
set_option maxRecDepth 100000
set_option maxHeartbeats 1000000
namespace GL
open PySem PySem.Spec PyProof.Rows L2
def eRev (m : ME) : ME := fun ls S => (m ls S).bind fun w S1 => match w with
  | .loc n => (match seqAt S1 n with
    | some xs => .ok (.loc S1.length) (S1 ++ [.lst xs.reverse])
    | none => .bad)
  | _ => .bad
theorem RWs.rev {K : PySem.W.Frag} {ρ : Nat → Addr} {N : Nat} {H : Hp} {ws : List PV} {vs : List V} (t : RWs K ρ N H ws vs) : RWs K ρ N H ws.reverse vs.reverse := by
  have app : ∀ {a : List PV} {b : List V} {c : List PV} {d : List V}, RWs K ρ N H a b → RWs K ρ N H c d → RWs K ρ N H (a ++ c) (b ++ d) := fun {a b c d} h q => h.app q
  induction ws generalizing vs with
  | nil => cases t; exact .nil
  | cons w ws ih =>
    cases t with
    | cons r t =>
      rw [List.reverse_cons, List.reverse_cons]
      exact app (ih t) (.cons r .nil)
section
variable {X : Cx} {Wx : L2.WX}
theorem ie_rev {e : Expr} {m : ME} {k : Nat} {p1 p2 p3 pos : Pos} (he : IE X Wx e m) : IE X Wx (.Subscript e (.Slice none none (some (.UnaryOp .USub (.Constant (.int 1) k p1) p2)) p3) pos) (eRev m) :=
  PEi (pe_revL he) fun σ H Q ⟨ρ, S, ls, hS, hL, h⟩ => ⟨ρ, S, ls, hS, hL, (Post.bind (R := RW) h).imp fun x H1 ⟨ρ1, S1, w1, e1, hS1, r1, h1⟩ => by
    cases r1 with
    | loc n hn =>
      dsimp only at h1
      split at h1
      · rename_i xs ex
        obtain ⟨vs, s, t⟩ := seq_of hS1 ex
        exact ⟨_, vs, rfl, s, fun p hp => mk_lst hS1 t.rev h1 p hp⟩
      · exact h1.elim
    | _ => exact h1.elim⟩
end
end GL
set_option Elab.async false
set_option linter.all false
set_option maxRecDepth 100000
set_option maxHeartbeats 1000000
namespace GL
open PySem PySem.Spec PyProof.Rows L2
def ExtW (K : PySem.W.Frag) (H H' : Hp) : Prop := (∀ a vs, SqT K H a vs → SqT K H' a vs) ∧ (∀ a vs, RoL K H a vs → RoL K H' a vs) ∧ ∀ a fs, H a = some (.xd fs) → H' a = some (.xd fs)
section
variable {pw : PgW} {K : PySem.W.Frag} {ρ ρ' : Nat → Addr} {N : Nat} {H H' : Hp} {S S2 : Sto} {n : Nat} {kvs : List (PV × PV)} {kv' : List (Key × V)}
mutual
theorem RW.w (e : ExtW K H H') : ∀ {w : PV} {v : V}, RW K ρ N H w v → RW K ρ N H' w v
  | _, _, .non => .non
  | _, _, .bl b => .bl b
  | _, _, .int i => .int i
  | _, _, .str x => .str x
  | _, _, .tup h hs => .tup (e.1 _ _ h) (RWs.w e hs)
  | _, _, .loc n h => .loc n h
  | _, _, .gl x => .gl x
  | _, _, .ty n => .ty n
  | _, _, .xn h hn hs => .xn (e.2.2 _ _ h) hn (RWs.w e hs)
theorem RWs.w (e : ExtW K H H') : ∀ {w : List PV} {v : List V}, RWs K ρ N H w v → RWs K ρ N H' w v
  | _, _, .nil => .nil
  | _, _, .cons h hs => .cons (RW.w e h) (RWs.w e hs)
end
theorem RL.w (e : ExtW K H H') : ∀ {ls : Ls} {σ : L2.St}, RL K ρ N H ls σ → RL K ρ N H' ls σ
  | _, _, .nil => .nil
  | _, _, .no t => .no (RL.w e t)
  | _, _, .yes h t => .yes (RW.w e h) (RL.w e t)
theorem RFs.w (e : ExtW K H H') : ∀ {w : List (Nm × PV)} {v : List (Str × V)}, RFs K ρ N H w v → RFs K ρ N H' w v
  | _, _, .nil => .nil
  | _, _, .cons h hs => .cons (RW.w e h) (RFs.w e hs)
theorem RKs.w (e : ExtW K H H') : ∀ {w : List (PV × PV)} {v : List (Key × V)}, RKs K ρ N H w v → RKs K ρ N H' w v
  | _, _, .nil => .nil
  | _, _, .cons hk h hs => .cons hk (RW.w e h) (RKs.w e hs)
theorem RNs.w (e : ExtW K H H') : ∀ {w : List (PV × PV)} {v : List (NestedKey × Addr × V)}, RNs K ρ N H w v → RNs K ρ N H' w v
  | _, _, .nil => .nil
  | _, _, .cons hk hd hr h hs => .cons hk hd (RW.w e hr) (RW.w e h) (RNs.w e hs)
theorem RX.w (e : ExtW K H H') {x : Exn} {c : Value} {d : Option Addr} (r : RX K ρ N H x c d) : RX K ρ N H' x c d := by
  obtain ⟨ec, dx, fs', ed, hd, rf⟩ := r
  exact ⟨ec, dx, fs', ed, e.2.2 _ _ hd, rf.w e⟩
theorem RO.w {o : OB} {a : Addr} (e : ExtW K H H') (k : ∀ h, H a = some h → H' a = some h) (r : RO pw K ρ N H o a) : RO pw K ρ N H' o a := by
  cases o with
  | lst xs => obtain ⟨vs, h, r⟩ := r; exact ⟨vs, k _ h, r.w e⟩
  | rol xs => obtain ⟨vs, h, r⟩ := r; exact ⟨vs, e.2.1 _ _ h, r.w e⟩
  | dct kvs => obtain ⟨vs, h, r⟩ := r; exact ⟨vs, k _ h, r.w e⟩
  | fdct kvs => obtain ⟨o, vs, h, r⟩ := r; exact ⟨o, vs, k _ h, r.w e⟩
  | dcn kvs => obtain ⟨xs, h, r⟩ := r; exact ⟨xs, k _ h, r.w e⟩
  | ptp xs => obtain ⟨vs, h, r⟩ := r; exact ⟨vs, h.keep (fun _ _ e => k _ e), r.w e⟩
  | ins C fs => obtain ⟨dx, vs, h, r⟩ := r; exact ⟨dx, vs, k _ h, r.w e⟩
end
end GL
set_option Elab.async false
set_option linter.all false
set_option maxRecDepth 100000
set_option maxHeartbeats 1000000
namespace GL
open PySem PySem.Spec PyProof.Rows L2
def fListD : MF := fun ws S => match ws with
  | [.loc n] => (match rdctAt S n with
    | some kvs => .ok (.loc S.length) (S ++ [.lst (kvs.map (·.1))])
    | none => .bad)
  | _ => .bad
def fDictC : MF := fun ws S => match ws with
  | [.loc n] => (match rdctAt S n with
    | some kvs => .ok (.loc S.length) (S ++ [.dct kvs])
    | none => .bad)
  | _ => .bad
def rListD : List V → Hp → VK → Prop := fun xs H Q => ∃ (a : Addr) (kvs : List (Key × V)), xs = [.ref a] ∧ Rd H a (.dK kvs) ∧ ∀ p, H p = none → Q (.ref p) (upd H p (.lst (kvs.map fun kv => kV kv.1)))
def rDictC : List V → Hp → VK → Prop := fun xs H Q => ∃ (a : Addr) (kvs : List (Key × V)), xs = [.ref a] ∧ Rd H a (.dK kvs) ∧ ∀ p, H p = none → Q (.ref p) (upd H p (.dK kvs))
section
variable {K : PySem.W.Frag} {ρ : Nat → Addr} {N : Nat} {H : Hp}
theorem rks_keys : ∀ {kvs : List (PV × PV)} {kv' : List (Key × V)}, RKs K ρ N H kvs kv' → RWs K ρ N H (kvs.map (·.1)) (kv'.map fun kv => kV kv.1)
  | _, _, .nil => .nil
  | _, _, .cons (k := a) (kk := b) ra r t => .cons (by
      match a, b, ra with
      | .int i, .inl j, ra =>
        have ra : i = j := ra
        subst ra
        exact .int _
      | .str l, .inr x, ra =>
        have ra : x.cps.toList = l := ra
        subst ra
        exact .str _) (rks_keys t)
end
section
variable {X : Cx}
theorem callListD (hc : X.calm = true) : CallR X (.type "list") rListD := call_listD hc
theorem callDictC : CallR X (.type "dict") rDictC := call_dictD
theorem ci_listD : CallI X rListD fListD := by
  intro ρ S H ws vs Ex Q hS r h
  unfold fListD at h
  split at h
  · split at h
    · rename_i kvs ek
      cases r with
      | cons r t' =>
        cases t'
        cases r with
        | loc n hn =>
          obtain ⟨kv', hr, t⟩ := rdct_of hS ek
          refine ⟨_, kv', rfl, hr, fun p hp => ?_⟩
          have e : Ext X.K ρ S.length H (grow ρ S.length p) (S.length + 1) (upd H p (.lst (kv'.map fun kv => kV kv.1))) := ext_new hp
          have hS' : RSt (pwX X) X.K (grow ρ S.length p) (upd H p (.lst (kv'.map fun kv => kV kv.1))) (S ++ [OB.lst (kvs.map (·.1))]) := hS.new hp rfl ⟨_, upd_same, (rks_keys t).ext e⟩
          refine h _ _ _ (by rw [List.length_append, List.length_singleton]; exact e) hS' ?_
          have := RW.loc (K := X.K) (ρ := grow ρ S.length p) (N := (S ++ [OB.lst (kvs.map (·.1))]).length) (H := upd H p (.lst (kv'.map fun kv => kV kv.1))) S.length (by rw [List.length_append, List.length_singleton]; exact Nat.lt_succ_self _)
          rw [grow_new] at this
          exact this
    · exact h.elim
  · exact h.elim
theorem ci_dictC : CallI X rDictC fDictC := by
  intro ρ S H ws vs Ex Q hS r h
  unfold fDictC at h
  split at h
  · split at h
    · rename_i kvs ek
      cases r with
      | cons r t' =>
        cases t'
        cases r with
        | loc n hn =>
          obtain ⟨kv', hr, t⟩ := rdct_of hS ek
          refine ⟨_, kv', rfl, hr, fun p hp => ?_⟩
          have e : Ext X.K ρ S.length H (grow ρ S.length p) (S.length + 1) (upd H p (.dK kv')) := ext_new hp
          have hS' : RSt (pwX X) X.K (grow ρ S.length p) (upd H p (.dK kv')) (S ++ [OB.dct kvs]) := hS.new hp rfl ⟨_, upd_same, t.ext e⟩
          refine h _ _ _ (by rw [List.length_append, List.length_singleton]; exact e) hS' ?_
          have := RW.loc (K := X.K) (ρ := grow ρ S.length p) (N := (S ++ [OB.dct kvs]).length) (H := upd H p (.dK kv')) S.length (by rw [List.length_append, List.length_singleton]; exact Nat.lt_succ_self _)
          rw [grow_new] at this
          exact this
    · exact h.elim
  · exact h.elim
end
end GL
set_option Elab.async false
set_option linter.all false
set_option maxRecDepth 100000
set_option maxHeartbeats 1000000
namespace GL
open PySem PySem.Spec PyProof.Rows L2
def pairsP : List PV → Option (List (PV × PV))
  | [] => some []
  | .tup [k, w] :: r => if isKeyP k = true then (pairsP r).map ((k, w) :: ·) else none
  | _ :: _ => none
def fTupP : MF := fun ws S => match ws with
  | [.loc n] => (match lstAt S n with
    | some xs => .ok (.loc S.length) (S ++ [.ptp xs])
    | none => .bad)
  | _ => .bad
def eTupP0 : ME := fun _ S => .ok (.loc S.length) (S ++ [.ptp []])
def dpOut (ps : Option (List (PV × PV))) (S : Sto) : Out PV := match ps with
  | some kvs => .ok (.loc S.length) (S ++ [.dct (mergeP [] kvs)])
  | none => .bad
def fDictP : MF := fun ws S => match ws with
  | [.loc n] => (match S[n]? with
    | some (.dct kvs) => .ok (.loc S.length) (S ++ [.dct kvs])
    | some (.fdct kvs) => .ok (.loc S.length) (S ++ [.dct kvs])
    | some (.lst xs) => dpOut (pairsP xs) S
    | some (.ptp xs) => dpOut (pairsP xs) S
    | _ => .bad)
  | _ => .bad
def rTupP (K : PySem.W.Frag) : List V → Hp → VK → Prop := fun xs H Q => ∃ (a : Addr) (ys : List V), xs = [.ref a] ∧ SqL K H a ys ∧ ∀ (p : Addr) (o : Obj), o.dict = none → H p = none → Q (.ref p) (upd H p (.frz o (.tup ys)))
def rDictP (K : PySem.W.Frag) : List V → Hp → VK → Prop := fun xs H Q => rDictC xs H Q ∨ ∃ (a : Addr) (ps : List Addr) (kvs : List (Key × V)), xs = [.ref a] ∧ (SqL K H a (ps.map V.ref) ∨ PtT K H a (ps.map V.ref)) ∧ Paired (fun p kv => SqT K H p [kV kv.1, kv.2]) ps kvs ∧
  ∀ p, H p = none → Q (.ref p) (upd H p (.dK (mergeK [] kvs)))
section
variable {K : PySem.W.Frag} {ρ : Nat → Addr} {N : Nat} {H : Hp}
theorem pairs_rel : ∀ {xs : List PV} {kvs : List (PV × PV)} {vs : List V}, pairsP xs = some kvs → RWs K ρ N H xs vs → ∃ (ps : List Addr) (kv' : List (Key × V)), vs = ps.map V.ref ∧ Paired (fun p kv => SqT K H p [kV kv.1, kv.2]) ps kv' ∧ RKs K ρ N H kvs kv'
  | [], kvs, vs, h, r => by
    cases h; cases r
    exact ⟨[], [], rfl, .nil, .nil⟩
  | x :: xs, kvs, vs, h, r => by
    unfold pairsP at h
    split at h
    · rename_i heq; cases heq
    · rename_i k w r' heq
      cases heq
      split at h
      · rename_i hk
        cases r with
        | cons r rs =>
          cases r with
          | tup sq t =>
            cases t with
            | cons rk t =>
              cases t with
              | cons rw' t =>
                cases t
                obtain ⟨kk, k1, e⟩ := rkey_of rk hk
                subst e
                obtain ⟨z, hz, rfl⟩ := Option.map_eq_some_iff.mp h
                obtain ⟨ps, kv', rfl, hp, t⟩ := pairs_rel hz rs
                exact ⟨_ :: ps, (kk, _) :: kv', rfl, .cons sq hp, .cons k1 rw' t⟩
      · cases h
    · cases h
end
section
variable {X : Cx} {Wx : WX}
theorem pv_of {pins : List (Addr × Obj)} {σ : L2.St} {H : Hp} {s : Shared} (I : Inv X pins σ H s) : ∀ {ps : List Addr} {kvs : List (Key × V)}, Paired (fun p kv => SqT X.K H p [kV kv.1, kv.2]) ps kvs →
    ∃ (prs : List (Key × Value)) (pvs : List (Value × Value)), KV kvs prs ∧ prs.length = ps.length ∧ pvs.length = ps.length ∧ ∀ (j : Nat) (k v : Value), pvs[j]? = some (k, v) → ∃ (b : Addr) (kk : Key), ps[j]? = some b ∧ s.heap.IsTuple b #[k, v] ∧ prs[j]? = some (kk, v) ∧ keyIs kk k = true
  | _, _, .nil => ⟨[], [], .nil, rfl, rfl, fun j k v e => by simp at e⟩
  | _, _, .cons (a := p) (b := kv) h t => by
    obtain ⟨prs, pvs, r, hl, hl2, hp⟩ := pv_of I t
    obtain ⟨its, rv, ht, _⟩ := I.tuple h
    obtain ⟨u, y, ei, ru, ry⟩ := vals2 rv
    subst ei
    refine ⟨(kv.1, y) :: prs, (u, y) :: pvs, .cons ⟨rfl, ry⟩ r, by rw [List.length_cons, List.length_cons, hl], by rw [List.length_cons, List.length_cons, hl2], fun j k v e => ?_⟩
    cases j with
    | zero =>
      have e' : (u, y) = (k, v) := Option.some.inj e
      cases e'
      exact ⟨p, kv.1, rfl, ht, rfl, kV_is (P := X.prog) (w := X.w) ru⟩
    | succ j =>
      obtain ⟨b, kk, e1, e2, e3, e4⟩ := hp j k v (by simpa using e)
      exact ⟨b, kk, by simpa using e1, e2, by simpa using e3, e4⟩
theorem ptt_at {pins : List (Addr × Obj)} {σ : L2.St} {H : Hp} {s : Shared} {a : Addr} {vs : List V} (I : Inv X pins σ H s) (h : PtT X.K H a vs) : ∃ (o : Obj) (its : List Value) (n : Nat), s.heap.get? a = some o ∧ o.cls = .type "tuple" ∧ o.dict = none ∧ o.data = .seq its.toArray n ∧ its.length ≤ sizeLine ∧ Vals vs its := by
  rcases h with ⟨o, h, d⟩ | ⟨o, its, n, h1, h2, h3, h4, h5, h6⟩
  · obtain ⟨e, z, its, r, o', e', hc, n, hd⟩ := I.hok _ _ h
    rw [e] at e'
    cases e'
    exact ⟨o, its, n, e, hc, d, hd, by rw [← r.length]; exact z, r⟩
  · exact ⟨o, its.toList, n, I.kIn a o h1, h2, h3, by simpa using h4, by simpa using h5, h6⟩
theorem callTupP : CallR X (.type "tuple") (rTupP X.K) := by
  intro pins s σ H xs us Q I r q
  obtain ⟨a, ys, ex, hq, q⟩ := q
  subst ex
  obtain ⟨u, eu, rx⟩ := vals1 r
  subst eu
  cases rx
  obtain ⟨its, rv, pl, hz⟩ := I.list hq
  refine PySem.call_tuple_list pl.isList (fun h' k => ?_) (by rw [List.size_toArray, ← rv.length]; exact hz)
  have I1 : Inv X pins σ H { s with heap := h' } := I.kept (t' := s.toks) k
  refine ⟨.ref h'.objs.size, upd H h'.objs.size (.frz { cls := .type "tuple", data := .seq its.toArray } (.tup ys)), I1.laid (t' := s.toks) (fun b o e => Heap.get?_push_of_some _ e) (Nat.le_refl _) ?_, rfl, q _ _ rfl (I1.hok.fresh (Nat.le_refl _))⟩
  exact ⟨Heap.get?_push_size _ rfl, hz, its, rv, _, Heap.get?_push_size _ rfl, rfl, _, rfl⟩
theorem callDictT (hcalm : X.calm = true) {pins : List (Addr × Obj)} {s : Shared} {σ : L2.St} {H : Hp} {a : Addr} {ps : List Addr} {kvs : List (Key × V)} {Q : VK} (I : Inv X pins σ H s) (hq : PtT X.K H a (ps.map V.ref)) (hp : Paired (fun p kv => SqT X.K H p [kV kv.1, kv.2]) ps kvs)
    (q : ∀ p, H p = none → Q (.ref p) (upd H p (.dK (mergeK [] kvs)))) : wpAny (model X.prog X.w) X.A (call (.type "dict") [.ref a]) (EP X pins σ Q) X.xe s := by
  obtain ⟨o, its, n, ho, hc, hd, hdat, hz, rv⟩ := ptt_at I hq
  have ei := refs_at rv
  subst ei
  rw [List.length_map] at hz
  obtain ⟨prs, pvs, rel, hl, hl2, hpr⟩ := pv_of I hp
  refine _root_.PySem.call_dict_pairs (knd := mixKind X.prog X.w) (kvs := prs) (PySem.PairArg.tuple a (ps.map Value.ref).toArray (fun j => (ps[j]?).getD 0) pvs) (I.ok.hd hcalm) ⟨⟨o, n, ho, hc, hd, hdat⟩, ?_, fun j k v e => ?_⟩ ⟨by rw [hl, hl2], fun i key v e => ?_⟩ (by rw [hl2]; exact hz) fun h' tk hd' k => ?_
  · rw [List.size_toArray, List.length_map, hl2]
  · obtain ⟨b, kk, e1, e2, _, _⟩ := hpr j k v e
    refine ⟨by simp [e1], .inl ?_⟩
    show s.heap.IsTuple ((ps[j]?).getD 0) #[k, v]
    rw [e1]; exact e2
  · obtain ⟨b, kk, e1, e2, e3, e4⟩ := hpr i key v e
    exact ⟨kk, e3, e4⟩
  · have hm : (s.heap.objs.size == sysModules) = false := beq_eq_false_iff_ne.mpr (Nat.ne_of_gt I.big)
    have hlen : (mergeK [] kvs).length ≤ sizeLine := by
      refine Nat.le_trans (length_mergeK kvs []) ?_
      rw [List.length_nil, Nat.zero_add, rel.length, hl]
      exact hz
    exact ⟨.ref s.heap.objs.size, upd H s.heap.objs.size (.dK (mergeK [] kvs)), I.laid (t' := tk) (fun b o e => k b o (List.not_mem_nil) e) (Nat.le_refl _) (show ObjOk X.prog X.w _ _ _ (.dK (mergeK [] kvs)) from ⟨hlen, hm, merged [] prs, KV.merge rel .nil, hd'⟩), rfl, q _ (I.hok.fresh (Nat.le_refl _))⟩
theorem callDictP (hc : X.calm = true) : CallR X (.type "dict") (rDictP X.K) := by
  intro pins s σ H xs us Q I r q
  rcases q with q | ⟨a, ps, kvs, ex, hq | hq, hp, q⟩
  · exact callDictC pins s σ H xs us Q I r q
  · exact call_dictP hc pins s σ H xs us Q I r ⟨a, ps, kvs, ex, hq, hp, q⟩
  · subst ex
    obtain ⟨u, eu, rx⟩ := vals1 r
    subst eu
    cases rx
    exact callDictT hc I hq hp q
theorem ci_tupP : CallI X (rTupP X.K) fTupP := by
  intro ρ S H ws vs Ex Q hS r h
  unfold fTupP at h
  split at h
  · split at h
    · rename_i xs ek
      cases r with
      | cons r t' =>
        cases t'
        cases r with
        | loc n hn =>
          obtain ⟨us, hu, t⟩ := lst_of hS ek
          refine ⟨_, us, rfl, .inl (.inl hu), fun p o hd hp => ?_⟩
          have e : Ext X.K ρ S.length H (grow ρ S.length p) (S.length + 1) (upd H p (.frz o (.tup us))) := ext_new hp
          have hS' : RSt (pwX X) X.K (grow ρ S.length p) (upd H p (.frz o (.tup us))) (S ++ [OB.ptp xs]) := hS.newU hp ⟨us, .inl ⟨o, upd_same, hd⟩, t.ext e⟩
          refine h _ _ _ (by rw [List.length_append, List.length_singleton]; exact e) hS' ?_
          have := RW.loc (K := X.K) (ρ := grow ρ S.length p) (N := (S ++ [OB.ptp xs]).length) (H := upd H p (.frz o (.tup us))) S.length (by rw [List.length_append, List.length_singleton]; exact Nat.lt_succ_self _)
          rw [grow_new] at this
          exact this
    · exact h.elim
  · exact h.elim
theorem ci_dictP : CallI X (rDictP X.K) fDictP := by
  intro ρ S H ws vs Ex Q hS r h
  have key : ∀ {n : Nat} {xs : List PV} {us : List V}, (SqL X.K H (ρ n) us ∨ PtT X.K H (ρ n) us) → RWs X.K ρ S.length H xs us → Post (pwX X) RW X.K ρ S.length H Ex (dpOut (pairsP xs) S) Q → rDictP X.K [.ref (ρ n)] H Q := fun {n xs us} hq t h => by
    unfold dpOut at h
    split at h
    · rename_i kvs ek
      obtain ⟨ps, kv', rfl, hp, t'⟩ := pairs_rel ek t
      refine .inr ⟨_, ps, kv', rfl, hq, hp, fun p hp' => ?_⟩
      have e : Ext X.K ρ S.length H (grow ρ S.length p) (S.length + 1) (upd H p (.dK (mergeK [] kv'))) := ext_new hp'
      have hS' : RSt (pwX X) X.K (grow ρ S.length p) (upd H p (.dK (mergeK [] kv'))) (S ++ [OB.dct (mergeP [] kvs)]) := hS.new hp' rfl ⟨_, upd_same, (merge_rel t' .nil).ext e⟩
      refine h _ _ _ (by rw [List.length_append, List.length_singleton]; exact e) hS' ?_
      have := RW.loc (K := X.K) (ρ := grow ρ S.length p) (N := (S ++ [OB.dct (mergeP [] kvs)]).length) (H := upd H p (.dK (mergeK [] kv'))) S.length (by rw [List.length_append, List.length_singleton]; exact Nat.lt_succ_self _)
      rw [grow_new] at this
      exact this
    · exact h.elim
  unfold fDictP at h
  split at h
  · rename_i n
    cases r with
    | cons r t' =>
      cases t'
      cases r with
      | loc n hn =>
        split at h
        · rename_i kvs ek
          refine .inl (ci_dictC ρ S H [PV.loc n] [.ref (ρ n)] Ex Q hS (.cons (.loc n hn) .nil) ?_)
          unfold fDictC rdctAt; simp only [ek]; exact h
        · rename_i kvs ek
          refine .inl (ci_dictC ρ S H [PV.loc n] [.ref (ρ n)] Ex Q hS (.cons (.loc n hn) .nil) ?_)
          unfold fDictC rdctAt; simp only [ek]; exact h
        · rename_i xs ek
          obtain ⟨us, hu, t⟩ := hS.at_ _ _ ek
          exact key (.inl (.inl (.inl hu))) t h
        · rename_i xs ek
          obtain ⟨us, hu, t⟩ := hS.at_ _ _ ek
          exact key (.inr hu) t h
        · exact h.elim
  · exact h.elim
theorem ie_tupP0 {k : Nat} {pos : Pos} : IE X Wx (.Tuple [] k pos) eTupP0 := by
  refine ⟨fun pins s σ H Q I ⟨ρ, S, ls, hS, hL, hq⟩ => ?_⟩
  refine wpAny_Tuple_spliced (thn ((pa_nil (X := X)).run pos pins s σ H (fun vs H1 => vs = [] ∧ H1 = H) I ⟨rfl, rfl⟩) fun us s1 ⟨xs, H1, I1, r, e1, e2⟩ => ⟨by rw [← r.length, e1]; exact Nat.zero_le _, ?_⟩)
  subst e1 e2
  have hf : H1 s1.heap.objs.size = none := I1.hok.fresh (Nat.le_refl _)
  refine ⟨.ref s1.heap.objs.size, upd H1 s1.heap.objs.size (.frz { cls := .type "tuple", data := .seq us.toArray } (.tup [])), I1.laid (t' := s1.toks) (fun b u e => Heap.get?_push_of_some _ e) (Nat.le_refl _) ?_, rfl, ?_⟩
  · exact ⟨Heap.get?_push_size _ rfl, Nat.zero_le _, us, r, _, Heap.get?_push_size _ rfl, rfl, _, rfl⟩
  · have e : Ext X.K ρ S.length H1 (grow ρ S.length s1.heap.objs.size) (S.length + 1) (upd H1 s1.heap.objs.size (.frz { cls := .type "tuple", data := .seq us.toArray } (.tup []))) := ext_new hf
    have hS' : RSt (pwX X) X.K (grow ρ S.length s1.heap.objs.size) (upd H1 s1.heap.objs.size (.frz { cls := .type "tuple", data := .seq us.toArray } (.tup []))) (S ++ [OB.ptp []]) := hS.newU hf ⟨[], .inl ⟨_, upd_same, rfl⟩, .nil⟩
    refine hq _ _ _ (by rw [List.length_append, List.length_singleton]; exact e) hS' ?_
    have := RW.loc (K := X.K) (ρ := grow ρ S.length s1.heap.objs.size) (N := (S ++ [OB.ptp []]).length) (H := upd H1 s1.heap.objs.size (.frz { cls := .type "tuple", data := .seq us.toArray } (.tup []))) S.length (by rw [List.length_append, List.length_singleton]; exact Nat.lt_succ_self _)
    rw [grow_new] at this
    exact this
end
end GL
set_option Elab.async false
set_option linter.all false
set_option maxRecDepth 100000
set_option maxHeartbeats 2000000
namespace GL
open PySem PySem.Spec PyProof.Rows L2
section
variable {P : Program} {w : World} {A : Around} {E : Value → Shared → Prop} {s : Shared}
theorem newSet_led {Q : Value → Shared → Prop} (h : Q (.ref s.heap.objs.size) { s with heap := s.heap.push { cls := .type "set", dict := none, data := .set #[] 0 (.fresh 0 0 (!w.params.followText "set-order")) } }) : wpAny (model P w) A (newSet (.type "set")) Q E s := by
  unfold newSet setsByText
  refine wpAny_bind (wpAny_bind (wpAny_askSetting (wpAny_pure ?_)))
  dsimp only
  simp only [newObj]
  exact wpAny_bind (wpAny_alloc (wpAny_pure h))
theorem set_core {b : Bool} {elts : List (Bool × Sem Value)} {ts : List (Sem Value)} {Q : Value → Shared → Prop} (hs : elts.findIdx? (·.1) = none) (hlen : elts.length ≤ 30) (hm : elts.map (·.2) = ts)
    (h : wpAny (model P w) A (evalAll ts) (fun vs s' => PySem.W.KdsFill (model P w) A E false s.heap.objs.size Q vs s') E { s with heap := s.heap.push { cls := .type "set", dict := none, data := .set #[] 0 (.fresh 0 0 (!w.params.followText "set-order")) } }) :
    wpAny (model P w) A (setDisplay .oneByOne b elts) Q E s := by
  have hn : (if elts.length > 30 then 0 else (elts.findIdx? (·.1)).getD elts.length) = elts.length := by rw [if_neg (by omega), hs]; rfl
  unfold setDisplay
  try dsimp only
  rw [if_neg (by decide)]
  refine wpAny_bind (newSet_led ?_)
  dsimp only
  rw [hn, List.take_length, List.drop_length, hm]
  refine wpAny_bind (wpAny_holding ?_)
  refine wpAny_bind (wpAny_mono h (fun vs s' h' => ?_) fun _ _ x => x)
  refine wpAny_bind (wpAny_holding ?_)
  refine wpAny_bind (wpAny_mono (PySem.W.kds_for (fun x P s hx => ?_) vs s' h') (fun _ s1 h1 => ?_) fun _ _ x => x)
  · refine wpAny_bind (wpAny_mono hx (fun _ s2 h2 => ?_) fun _ _ x => x)
    first | exact wpAny_pure ⟨rfl, h2⟩ | exact wpAny_bind (wpAny_pure (wpAny_pure ⟨rfl, h2⟩))
  · have h2 : Q (.ref s.heap.objs.size) s1 := by simpa [PySem.W.KdsFill] using h1
    rw [if_neg (by decide)]
    refine wpAny_pure ?_
    rw [List.forIn_nil]
    exact wpAny_pure (wpAny_pure h2)
end
section
variable {X : Cx} {Wx : L2.WX}
theorem add_run {pins : List (Addr × Obj)} {σ : L2.St} {H : Hp} {s : Shared} {p : Addr} {S : Int → Bool} {n : Nat} {k : Int} {tk : Tok} {Q : Bool → Shared → Prop} {E : Value → Shared → Prop} (I : Inv X pins σ H s) (ha : H p = some (SetO X.w p S n)) (room : n + 1 < scanBound)
    (h : ∀ (s' : Shared) (b : Bool), Inv X pins σ (upd H p (SetO X.w p (fun j => S j || decide (j = k)) (if S k = true then n else n + 1))) s' → Q b s') : wpAny (model X.prog X.w) X.A (setAdd p (.int k tk)) Q E s := by
  have R := setO_get I ha
  unfold setAdd
  refine wpAny_holding (wpAny_bind ((intKind X.prog X.w).pyHash (intKind_is X.prog X.w k tk) ?_))
  refine setR_add_hashed (s := { s with toks := s.toks + 1 }) R room fun h' sb new => ?_
  have he : ∃ u, h'.get? p = some u := by
    have ⟨o, _, _, _, ho, _⟩ := new
    exact ⟨o, ho⟩
  exact h _ _ (I.write (e := p) (t' := s.toks + 1) (by rw [ha]; trivial) (.inl rfl) (fun b u hb hu => (sb.2 b hb).trans hu) he (setO_new new))
def tSet2 (w : World) (i j : Nat) : TE := fun σ H Q => ∃ a b : Int, σ[i]? = some (some (.int a)) ∧ σ[j]? = some (some (.int b)) ∧ ∀ p n, n ≤ 2 → H p = none → Q (.ref p) (upd H p (SetO w p (fun k => (false || decide (k = a)) || decide (k = b)) n))
theorem pe_set2 {i j : Nat} {x y : Str} {p1 p2 pos : Pos} (hcd : PySem.W.kdsCode X.K X.env.code = true) (hi : X.N[i]? = some x) (hj : X.N[j]? = some y) (hx : Vis X.env.scope x) (hy : Vis X.env.scope y) (dx : (x == ("__debug__" : Str)) = false) (dy : (y == ("__debug__" : Str)) = false) (cx : (x == ("__classdict__" : Str)) = false) (cy : (y == ("__classdict__" : Str)) = false) :
    PE X (.Set [.Name x p1, .Name y p2] 0 pos) (tSet2 X.w i j) := by
  refine ⟨fun pins s σ H Q I ⟨a, b, ea, eb, q⟩ => ?_⟩
  rw [arm_eval_Set]
  refine wpAny_bind (wpAny_standAt ?_)
  refine wpAny_bind (PySem.W.kds_main I.kIn hcd fun bb => ?_)
  rw [PySem.W.kds_star _ rfl, List.map_map]
  have hf : H s.heap.objs.size = none := I.hok.fresh (Nat.le_refl _)
  refine set_core (ts := (evalEach [.Name x p1, .Name y p2] X.env).map fun t => do let v ← t; standAt pos; pure v) rfl (Nat.le_of_ble_eq_true rfl) rfl ?_
  refine PySem.W.kds_all pos _ _ _ ?_
  have I1 : Inv X pins σ (upd H s.heap.objs.size (SetO X.w s.heap.objs.size (fun _ => false) 0)) { s with heap := s.heap.push { cls := .type "set", dict := none, data := .set #[] 0 (.fresh 0 0 (!X.w.params.followText "set-order")) } } :=
    I.laid (t' := s.toks) (fun b u e => Heap.get?_push_of_some _ e) (Nat.le_refl _) (setO_new (setR_fresh X.w))
  generalize hp : s.heap.objs.size = p at *
  refine thn ((pe_var (i := i) (pos := p1) hi hx dx cx).run pins _ σ _ (fun v H' => v = .int a ∧ H' = upd H p (SetO X.w p (fun _ => false) 0)) I1 ⟨_, ea, rfl, rfl⟩) fun v s1 ⟨v1, H1, J1, r1, e1, e2⟩ => ?_
  subst e1 e2
  refine thn ((pe_var (i := j) (pos := p2) hj hy dy cy).run pins _ σ _ (fun v H' => v = .int b ∧ H' = upd H p (SetO X.w p (fun _ => false) 0)) J1 ⟨_, eb, rfl, rfl⟩) fun u s2 ⟨v2, H2, J2, r2, e1, e2⟩ => ?_
  subst e1 e2
  obtain ⟨t1, rfl⟩ := r1
  obtain ⟨t2, rfl⟩ := r2
  refine PySem.W.kds_fill_cons (add_run J2 upd_same (by decide) fun s3 b3 J3 => ?_)
  rw [upd_upd] at J3
  refine PySem.W.kds_fill_cons (add_run J3 upd_same (by decide) fun s4 b4 J4 => ?_)
  rw [upd_upd] at J4
  refine PySem.W.kds_fill_nil rfl ?_
  exact ⟨.ref p, _, J4, rfl, q p _ (by split <;> simp) hf⟩
def eSSet2 (i j : Nat) : ME := fun ls S => match ls[i]?, ls[j]? with
  | some (some (.int a)), some (some (.int b)) => .ok (.loc S.length) (S ++ [.lst ((sortI [a, b]).map .int)])
  | _, _ => .bad
theorem ie_sset2 {i j : Nat} {x y : Str} {p1 p2 p3 q1 q2 : Pos} (hc : X.calm = true) (hcd : PySem.W.kdsCode X.K X.env.code = true) (h1 : X.mg "sorted" = none) (hi : X.N[i]? = some x := by rfl) (hj : X.N[j]? = some y := by rfl)
    (hx : Vis X.env.scope x := by first | exact Or.inl rfl | exact Or.inr (Or.inl rfl) | exact Or.inr (Or.inr rfl)) (hy : Vis X.env.scope y := by first | exact Or.inl rfl | exact Or.inr (Or.inl rfl) | exact Or.inr (Or.inr rfl))
    (dx : (x == ("__debug__" : Str)) = false := by decide) (dy : (y == ("__debug__" : Str)) = false := by decide) (cx : (x == ("__classdict__" : Str)) = false := by decide) (cy : (y == ("__classdict__" : Str)) = false := by decide) (g1 : Gl X "sorted" := by rfl)
    (hs2 : starEach [.Set [.Name x p1, .Name y p2] 0 p3] X.env = (false, eval (.Set [.Name x p1, .Name y p2] 0 p3) X.env) :: starEach [] X.env := by rfl) (hp1 : (backTo q1 (starEach [] X.env)).any (·.1) = false := by rfl) :
    IE X Wx (.Call (.Name "sorted" q2) [.Set [.Name x p1, .Name y p2] 0 p3] [] q1) (eSSet2 i j) := by
  have inner := pe_set2 (X := X) (p1 := p1) (p2 := p2) (pos := p3) hcd hi hj hx hy dx dy cx cy
  refine PEi (pe_callB (cr_sortedSet hc) g1 h1 (by decide +kernel) (pa_cons inner pa_nil hs2) (by decide) (by decide) hs2 hp1) fun σ H Q ⟨ρ, S, ls, hS, hL, h⟩ => ?_
  unfold eSSet2 at h
  split at h
  · rename_i a b ea eb
    obtain ⟨v1, e1, r1⟩ := hL.get ea
    obtain ⟨v2, e2, r2⟩ := hL.get eb
    cases r1
    cases r2
    refine ⟨a, b, e1, e2, fun p n hn hp => ?_⟩
    refine ⟨p, _, n, rfl, upd_same, by omega, fun ms q hq hm hl hqn => ?_⟩
    have em : ms = sortI [a, b] := sorted_uniq hq sortI_sorted fun k => by rw [hm k, sortI_mem]; simp
    subst em
    have k2 : RSt (pwX X) X.K ρ (upd H p (SetO X.w p (fun k => (false || decide (k = a)) || decide (k = b)) n)) S := hS.keep hp
    have e2 : Ext X.K ρ S.length H ρ S.length (upd H p (SetO X.w p (fun k => (false || decide (k = a)) || decide (k = b)) n)) := ext_keep hp
    have h2 := Post.ext e2 h
    exact mk_lst k2 (vs := (sortI [a, b]).map V.int) (RWs.ints _) h2 q hqn
  · exact h.elim
end
section
variable {P : Program} {w : World} {K : PySem.W.Frag} {mg : Str → Option Value} {base : Heap} {x qual : Str} {params : Arguments} {body : List Stmt} {scope : Scope} {dvs : List V} {kws : List (Str × V)} {f : Addr} {fd : FuncData}
theorem fi_ofC {N ps : List Str} {k : Nat} {m : MS} (F : FunD K x qual params body scope dvs kws f fd) (S : FnScope N ps scope)
    (hb : ∀ (cdv : Value) (A : Around) (outer : List Env) (s : Shared) (H : Hp) (E : XK), PySem.W.kdsCode K cdv = true → Room k (A.deeper (envOfC qual scope s.heap.objs.size f cdv)) →
      ISs (cxOf (L2.CX P w) P w K mg base N qual scope f cdv A outer s H E) (topW E) body m) : FI P w K mg base (k + 1) f fd ps (fnOf ps.length N.length m) := by
  obtain ⟨oc, od, dV, kV, doc, pm, an, cdv, ct, osl, hfd, lk, hcd, _, _⟩ := F.ex
  subst hfd
  refine fn_of lk hcd S (fun vs H Q E h => ?_) (fun A outer s H vs Q E hr h => ⟨_, hb cdv A outer s H E (kdsCode_of hcd) hr, ?_⟩)
  · obtain ⟨ρ, S, ws, _, r, e, _⟩ := h
    rw [← r.length]; exact e
  · obtain ⟨ρ, S, ws, hS, r, e, h⟩ := h
    unfold fnOf at h
    rw [if_pos e] at h
    have el : L2.start N vs = vs.map some ++ List.replicate (N.length - ps.length) none := by
      unfold L2.start
      rw [← r.length, e]
    refine ⟨ρ, S, ws.map some ++ List.replicate (N.length - ps.length) none, hS, by rw [el]; exact RL.start (N.length - ps.length) r, ?_⟩
    cases hm : m (ws.map some ++ List.replicate (N.length - ps.length) none) S with
    | nx a S' => rw [hm] at h; exact fun ρ' H' σ' e' s' _ => h ρ' H' _ e' s' .non
    | rt a S' => rw [hm] at h; exact fun ρ' H' v e' s' r' => h ρ' H' v e' s' r'
    | exc a b S' => rw [hm] at h; exact fun ρ' H' σ' c d e' s' _ q => h ρ' H' c d e' s' q
    | bk a S' => rw [hm] at h; exact h.elim
    | ct a S' => rw [hm] at h; exact h.elim
    | bad => rw [hm] at h; exact h.elim
end
end GL
set_option Elab.async false
set_option linter.all false
set_option maxRecDepth 100000
set_option maxHeartbeats 1000000
namespace GL
open PySem PySem.Spec PyProof.Rows L2
def eqDB (S : Sto) (ks ls : List (PV × PV)) : Bool := decide (ks.length = ls.length) && ks.all fun p => match lookP p.1 ls with
  | some u => (match datP S 60 p.2, datP S 60 u with
    | some d, some e => PyData.eqv d e
    | _, _ => false)
  | none => false
def eqDM (neg : Bool) : PV → PV → Sto → Out PV := fun a b S => match a, b with
  | .loc n, .loc k => (match rdctAt S n, rdctAt S k with
    | some ks, some ls => if eqDB S ks ls = true then .ok (.bl (!neg)) S else .bad
    | _, _ => .bad)
  | _, _ => .bad
def gEqD := eqDM false
def gNeD := eqDM true
def DEq (K : PySem.W.Frag) (H : Hp) (ks ls : List (Key × V)) : Prop := ks.length = ls.length ∧ ∀ p ∈ ks, ∃ u d e, valV ls p.1 = some u ∧ Dp K H p.2 d ∧ Dp K H u e ∧ SeqAt.shaped d = true ∧ SeqAt.shaped e = true ∧ d.depth ≤ 60 ∧ PyData.eqv d e = true
def rDD (K : PySem.W.Frag) (b : Bool) : R2 := fun x y H Q => ∃ (n k : Addr) (ks ls : List (Key × V)), x = .ref n ∧ y = .ref k ∧ Rd H n (.dK ks) ∧ Rd H k (.dK ls) ∧ DEq K H ks ls ∧ Q (.bl b) H
section
variable {X : Cx} {Wx : WX}
theorem hits_dp {pins : List (Addr × Obj)} {σ : L2.St} {H : Hp} {s : Shared} (I : Inv X pins σ H s) {A : Around} (hu : A.units + 61 < cLine) {ls : List (Key × V)} {vb : List (Key × Value)} (rb : KV ls vb) {ks : List (Key × V)} {va : List (Key × Value)} (ra : KV ks va) :
    (∀ p ∈ ks, ∃ u d e, valV ls p.1 = some u ∧ Dp X.K H p.2 d ∧ Dp X.K H u e ∧ SeqAt.shaped d = true ∧ SeqAt.shaped e = true ∧ d.depth ≤ 60 ∧ PyData.eqv d e = true) → PySem.W.KeqHits A s vb va true := by
  unfold KV at ra
  induction ra with
  | nil => intro _; exact .nil
  | @cons p q ps qs h t k =>
    intro hp
    obtain ⟨h1, h2⟩ := h
    obtain ⟨u, d, e, ev, hd, he, sd, se, dd, eq⟩ := hp p List.mem_cons_self
    have rr : RelO (some u) (valueAt vb p.1) := by rw [← ev]; exact rb.val p.1
    obtain ⟨y, hy, ry⟩ := rr.some_of
    obtain ⟨key, v⟩ := q
    have h1' : p.1 = key := h1
    rw [h1'] at hy
    obtain ⟨as, r1⟩ := Dp.reads I d p.2 v hd h2
    obtain ⟨bs, r2⟩ := Dp.reads I e u y he ry
    have q := SeqAt.eqAt_reads d e A s v y as bs r1 r2 (SeqAt.canLay_of_shaped sd) (SeqAt.canLay_of_shaped se) (by have := Nat.min_le_left d.depth e.depth; omega)
    rw [eq] at q
    show PySem.W.KeqHits A s vb ((key, v) :: qs) (true && true)
    exact .hit hy q (k fun p' hm => hp p' (List.mem_cons_of_mem _ hm))
theorem or_eqDD (hu : X.A.units + 64 < cLine) : OpR X (compareOp .Eq) (rDD X.K true) := by
  intro pins s σ H x y v u Q I rx ry h
  obtain ⟨a, b, ks, ls, rfl, rfl, ea, eb, ⟨hlen, hp⟩, q⟩ := h
  obtain rfl : v = Value.ref a := rx
  obtain rfl : u = Value.ref b := ry
  obtain ⟨_, ya, va, ra, da⟩ := dk_rd I.hok ea
  obtain ⟨_, yb, vb, rb, db⟩ := dk_rd I.hok eb
  have hl : va.length = vb.length := by rw [← ra.length, ← rb.length]; exact hlen
  exact PySem.W.keq_eq (knd := mixKind X.prog X.w) (r := true) ya yb da db (by omega) (fun _ => hits_dp I (by show X.A.units + 1 + 61 < cLine; omega) rb ra hp) (by simp only [hl, beq_self_eq_true, Bool.and_self]; exact ⟨.bl true, H, I, rfl, q⟩)
theorem or_neDD (hu : X.A.units + 64 < cLine) : OpR X (compareOp .NotEq) (rDD X.K false) := by
  intro pins s σ H x y v u Q I rx ry h
  obtain ⟨a, b, ks, ls, rfl, rfl, ea, eb, ⟨hlen, hp⟩, q⟩ := h
  obtain rfl : v = Value.ref a := rx
  obtain rfl : u = Value.ref b := ry
  obtain ⟨_, ya, va, ra, da⟩ := dk_rd I.hok ea
  obtain ⟨_, yb, vb, rb, db⟩ := dk_rd I.hok eb
  have hl : va.length = vb.length := by rw [← ra.length, ← rb.length]; exact hlen
  exact PySem.W.keq_ne (knd := mixKind X.prog X.w) (r := true) ya yb da db (by omega) (fun _ => hits_dp I (by show X.A.units + 1 + 61 < cLine; omega) rb ra hp) (by simp only [hl, beq_self_eq_true, Bool.and_self]; exact ⟨.bl false, H, I, rfl, q⟩)
theorem deq_of {ρ : Nat → Addr} {S : Sto} {H : Hp} (hS : RSt (pwX X) X.K ρ H S) : ∀ {ks ls : List (PV × PV)} {ks' ls' : List (Key × V)}, RKs X.K ρ S.length H ks ks' → RKs X.K ρ S.length H ls ls' → (ks.all fun p => match lookP p.1 ls with
  | some u => (match datP S 60 p.2, datP S 60 u with
    | some d, some e => PyData.eqv d e
    | _, _ => false)
  | none => false) = true → ∀ p ∈ ks', ∃ u d e, valV ls' p.1 = some u ∧ Dp X.K H p.2 d ∧ Dp X.K H u e ∧ SeqAt.shaped d = true ∧ SeqAt.shaped e = true ∧ d.depth ≤ 60 ∧ PyData.eqv d e = true
  | _, _, _, _, .nil, _, _, p, hp => by cases hp
  | _, ls, _, ls', .cons rk r t, rl, h, p, hp => by
    rw [List.all_cons, Bool.and_eq_true] at h
    rcases List.mem_cons.mp hp with rfl | hp
    · have h1 := h.1
      split at h1
      · rename_i u eu
        split at h1
        · rename_i d e ed ee
          obtain ⟨v, ev, rv⟩ := (lookP_rel rk rl).1 u eu
          exact ⟨v, d, e, ev, datP_dp hS r ed, datP_dp hS rv ee, shaped_of ed, shaped_of ee, (datP_ok ed).2, h1⟩
        · cases h1
      · cases h1
    · exact deq_of hS t rl h.2 p hp
theorem oi_DD {neg : Bool} : OpI X Wx (rDD X.K (!neg)) (eqDM neg) := by
  intro ρ S H w1 w2 x y Ex Q hS r1 r2 h
  unfold eqDM at h
  split at h
  · split at h
    · rename_i ks ls e1 e2
      split at h
      · rename_i hb
        cases r1 with
        | loc _ hn =>
          cases r2 with
          | loc _ hk =>
            obtain ⟨ks', ha, ta⟩ := rdct_of hS e1
            obtain ⟨ls', hb', tb⟩ := rdct_of hS e2
            unfold eqDB at hb
            rw [Bool.and_eq_true] at hb
            exact ⟨_, _, ks', ls', rfl, rfl, ha, hb', ⟨by rw [← ta.length, ← tb.length]; exact of_decide_eq_true hb.1, deq_of hS ta tb hb.2⟩, h.here hS (.bl _)⟩
      · exact h.elim
    · exact h.elim
  · exact h.elim
theorem oi_eqDD : OpI X Wx (rDD X.K true) gEqD := oi_DD (neg := false)
theorem oi_neDD : OpI X Wx (rDD X.K false) gNeD := oi_DD (neg := true)
end
end GL
set_option Elab.async false
set_option linter.all false
set_option maxRecDepth 100000
set_option maxHeartbeats 1000000
namespace GL
open PySem PySem.Spec PyProof.Rows L2
theorem bind_then {α β : Type} (o : Out α) (f : α → Sto → Out β) (ls : Ls) (k : β → Sto → SOut) : (o.bind f).then ls k = o.then ls fun a S1 => (f a S1).then ls k := by cases o <;> rfl
section
variable {X : Cx} {Wx : WX}
theorem is_par {i j : Nat} {x y : Str} {a b : Expr} {m : MA} {px py pt pos : Pos} {kt k2 pt2} (hc : X.calm = true) (hN : X.N.Nodup) (ha : IA X Wx [a, b] m) (hi : X.N[i]? = some x := by rfl) (hj : X.N[j]? = some y := by rfl) (hij : i ≠ j := by decide)
    (hx : X.env.scope.names.lookup x = some .local := by rfl) (hy : X.env.scope.names.lookup y = some .local := by rfl)
    (hw : swappedStores [.Tuple [.Name x px, .Name y py] kt pt] (.Tuple [a, b] k2 pt2) X.env = pure (some [x, y]) := by rfl)
    (hs : swapsWithSole [.Tuple [.Name x px, .Name y py] kt pt] (.Tuple [a, b] k2 pt2) pos.line X.env = pure false := by rfl) :
    IS X Wx (.Assign [.Tuple [.Name x px, .Name y py] kt pt] (.Tuple [a, b] k2 pt2) pos) (sAsg (gT (gsCons (gN i) (gsCons (gN j) gsNil))) (eTup m)) :=
  PSi (ps_par hc hN hi hj hij hx hy ha hw hs) fun D σ H ⟨ρ, S, ls, hS, hL, h⟩ => by
    unfold sAsg eTup at h
    rw [bind_then] at h
    refine ⟨ρ, S, ls, hS, hL, (Post.then (R := RWs) hL h).imp fun vs H1 ⟨ρ1, S1, ws, e1, hS1, r1, h1⟩ => ?_⟩
    match ws, r1, h1 with
    | [w1, w2], .cons (v := v1) q1 (.cons (v := v2) q2 .nil), h1 =>
      exact ⟨v1, v2, rfl, h1 ρ1 H1 _ .refl hS1 (RL.set q2 j (RL.set q1 i (hL.ext e1)))⟩
    | [], r1, h1 => exact h1.elim
    | [_], r1, h1 => exact h1.elim
    | x1 :: x2 :: x3 :: x4, r1, h1 =>
      by_cases q : (x1 :: x2 :: x3 :: x4).length ≤ lim
      · rw [if_pos q] at h1; exact h1.elim
      · rw [if_neg q] at h1; exact h1.elim
end
end GL
set_option Elab.async false
set_option linter.all false
set_option maxRecDepth 100000
set_option maxHeartbeats 2000000
namespace GL
open PySem PySem.Spec PyProof.Rows L2
open PySem.W (EachIs alike alikeAll dataLt AllAlike Sortable)
def leD (a b : PyData) : Bool := !dataLt b a
def insD {α : Type} (k : α → PyData) (a : α) : List α → List α
  | [] => [a]
  | b :: r => if leD (k a) (k b) then a :: b :: r else b :: insD k a r
def sortD {α : Type} (k : α → PyData) : List α → List α
  | [] => []
  | a :: r => insD k a (sortD k r)
theorem insD_app {α : Type} (k : α → PyData) (a : α) : ∀ (l m : List α), (∀ b ∈ l, leD (k a) (k b) = false) → (∀ b, m.head? = some b → leD (k a) (k b) = true) → insD k a (l ++ m) = l ++ a :: m
  | [], [], _, _ => rfl
  | [], b :: m, _, h => by
    show (if leD (k a) (k b) then a :: b :: m else b :: insD k a m) = _
    rw [if_pos (h b rfl)]; rfl
  | b :: l, m, h1, h2 => by
    show (if leD (k a) (k b) then a :: b :: (l ++ m) else b :: insD k a (l ++ m)) = _
    rw [if_neg (by rw [h1 b List.mem_cons_self]; simp), insD_app k a l m (fun c hc => h1 c (List.mem_cons_of_mem _ hc)) h2]
    rfl
theorem sortD_eq {α : Type} (k : α → PyData) : ∀ l : List α, l.mergeSort (PySem.W.dataLe false k) = sortD k l
  | [] => by simp [sortD]
  | a :: l => by
    have T := PySem.W.sortLe_total (listOrd itemOrd) false fun b => PySem.W.keyToks (k b)
    have tr : ∀ a b c, PySem.W.dataLe false k a b = true → PySem.W.dataLe false k b c = true → PySem.W.dataLe false k a c = true := T.trans
    have to : ∀ a b, (PySem.W.dataLe false k a b || PySem.W.dataLe false k b a) = true := fun a b => Bool.or_eq_true_iff.mpr (T.total a b)
    obtain ⟨l1, l2, e1, e2, h⟩ := List.mergeSort_cons tr to a l
    have hs := List.pairwise_mergeSort tr to (a :: l)
    rw [e1] at hs ⊢
    show _ = insD k a (sortD k l)
    rw [← sortD_eq k l, e2, insD_app k a l1 l2 (fun b hb => ?_) (fun b hb => ?_)]
    · have h3 : PySem.W.dataLe false k a b = false := by simpa using h b hb
      exact h3
    · have h2 := (List.pairwise_append.mp hs).2.1
      match l2, hb, h2 with
      | c :: l3, hb, h2 =>
        cases hb
        exact (List.pairwise_cons.mp h2).1 b List.mem_cons_self
def rSrtD (K : PySem.W.Frag) : List V → Hp → VK → Prop := fun vs H Q => ∃ (a : Addr) (xs : List V) (ds : List PyData), vs = [V.ref a] ∧ SqL K H a xs ∧ DpAll K H xs ds ∧ AllAlike ds ∧ Sortable ds ∧ (∀ d ∈ ds, d.depth ≤ 60) ∧
  ∀ p, H p = none → Q (.ref p) (upd H p (.lst ((sortD Prod.fst (ds.zip xs)).map Prod.snd)))
theorem each_vals {us : List Value} {xs : List V} (h : EachIs (fun u x => RelV x u) us xs) : Vals xs us := by
  induction h with
  | nil => exact .nil
  | cons r _ ih => exact .cons r ih
theorem vals_each {us : List Value} {xs : List V} (h : Vals xs us) : EachIs (fun u x => RelV x u) us xs := by
  induction h with
  | nil => exact .nil
  | cons r _ ih => exact .cons r ih
theorem readsAll_each {h : Heap} : ∀ {us : List Value} {ds : List PyData} {as : List Addr}, ReadsAll h us ds as → EachIs (fun v d => ∃ as, Reads h v d as) us ds
  | _, _, _, .nil => .nil
  | _, _, _, .cons r t => .cons ⟨_, r⟩ (readsAll_each t)
theorem each_zip {α β γ : Type} {R : α → β → Prop} {T : α → γ → Prop} : ∀ {as : List α} {bs : List β} {cs : List γ}, EachIs R as bs → EachIs T as cs → EachIs (fun a (p : β × γ) => R a p.1 ∧ T a p.2) as (bs.zip cs)
  | _, _, _, .nil, .nil => .nil
  | _, _, _, .cons h t, .cons h' t' => .cons ⟨h, h'⟩ (each_zip t t')
theorem cr_sortedD {X : Cx} (hu : X.A.units + 64 < cLine) : CallR X (.builtin "sorted") (rSrtD X.K) := by
  intro pins s σ H vs us Q I r h
  obtain ⟨a, xs, ds, rfl, hs, hd, hal, hk, hdep, q⟩ := h
  obtain ⟨its, rv, hl, hz⟩ := I.list hs
  obtain ⟨u, rfl, ru⟩ := vals1 r
  obtain rfl : u = Value.ref a := ru
  obtain ⟨as, rd⟩ := Dp.readsAll I ds xs its hd rv
  have hz' : its.length ≤ sizeLine := by rw [← rv.length]; exact hz
  have kp : ∀ b o, s.heap.get? b = some o → (PySem.W.sortingHeap (PySem.W.copyHeap s.heap its) (s.heap.objs.size + 1) its).get? b = some o := fun b o e => PySem.W.sorting_copy_old e
  have e0 : EachIs (fun v d => ∃ as, Reads (PySem.W.sortingHeap (PySem.W.copyHeap s.heap its) (s.heap.objs.size + 1) its) v d as) its ds :=
    (readsAll_each rd).mono fun _ _ ⟨_, r⟩ => ⟨_, Reads.keeps kp r⟩
  refine PySem.W.sorted_vals (κ := PySem.W.dataKind (PySem.W.sortingHeap (PySem.W.copyHeap s.heap its) (s.heap.objs.size + 1) its) ds) hl.isList (PySem.W.SortsAt.data (s := { s with heap := PySem.W.sortingHeap (PySem.W.copyHeap s.heap its) (s.heap.objs.size + 1) its }) e0 hal hk fun d hd => ?_) hz' ?_
  · have := hdep d hd
    show X.A.units + 1 + 1 + d.depth < cLine
    omega
  · have e1 := PySem.W.sortVals_each (κ := PySem.W.dataKind (PySem.W.sortingHeap (PySem.W.copyHeap s.heap its) (s.heap.objs.size + 1) its) ds) (rev := false) (R := fun u (p : PyData × V) => RelV p.2 u) (bs := ds.zip xs) (fun p => PySem.W.keyToks p.1)
      ((each_zip e0 (vals_each rv)).mono fun _ _ x => x.2)
      ((each_zip (PySem.W.each_keys hal e0) (vals_each rv)).mono fun _ _ x => x.1)
    have e2 : (ds.zip xs).mergeSort (PySem.W.sortLe (PySem.W.dataKind (PySem.W.sortingHeap (PySem.W.copyHeap s.heap its) (s.heap.objs.size + 1) its) ds).toKeyOrd false fun p => PySem.W.keyToks p.1) = sortD Prod.fst (ds.zip xs) := sortD_eq Prod.fst (ds.zip xs)
    rw [e2] at e1
    have ev : Vals ((sortD Prod.fst (ds.zip xs)).map Prod.snd) (PySem.W.sortVals (PySem.W.dataKind (PySem.W.sortingHeap (PySem.W.copyHeap s.heap its) (s.heap.objs.size + 1) its) ds) false its its) := by
      refine each_vals ?_
      generalize PySem.W.sortVals (PySem.W.dataKind (PySem.W.sortingHeap (PySem.W.copyHeap s.heap its) (s.heap.objs.size + 1) its) ds) false its its = out at e1 ⊢
      generalize sortD Prod.fst (ds.zip xs) = l at e1 ⊢
      clear e2
      induction e1 with
      | nil => exact .nil
      | cons r _ ih => exact .cons r ih
    have hol := PySem.W.sortVals_length (κ := PySem.W.dataKind (PySem.W.sortingHeap (PySem.W.copyHeap s.heap its) (s.heap.objs.size + 1) its) ds) false (ks := its) (vs := its) rfl
    generalize PySem.W.sortVals (PySem.W.dataKind (PySem.W.sortingHeap (PySem.W.copyHeap s.heap its) (s.heap.objs.size + 1) its) ds) false its its = out at ev hol ⊢
    obtain ⟨n, hn⟩ := sortedAll_at s.heap its out.toArray
    refine ⟨.ref (s.heap.objs.size + 1), upd H (s.heap.objs.size + 1) (.lst ((sortD Prod.fst (ds.zip xs)).map Prod.snd)), I.laid (t' := s.toks) (fun b o e => sortedAll_old e) (Nat.le_succ _) ⟨?_, out, n, ev, hn⟩, rfl, q _ (I.hok.fresh (Nat.le_succ _))⟩
    rw [ev.length, hol]
    exact hz'
def isT1 : PyData → Bool
  | .tuple (_ :: _) => true
  | _ => false
def isN1 : PyData → Bool
  | .none => false
  | .tuple _ => false
  | _ => true
def srtOk (ds : List PyData) : Bool := (ds.all fun d => ds.all fun e => alike d e) && (ds.all isT1 || ds.all isN1)
theorem srtOk_al {ds : List PyData} (h : srtOk ds = true) : AllAlike ds := fun d hd e he => by
  have := (Bool.and_eq_true_iff.mp h).1
  exact List.all_eq_true.mp (List.all_eq_true.mp this d hd) e he
theorem srtOk_so {ds : List PyData} (h : srtOk ds = true) : Sortable ds := by
  rcases Bool.or_eq_true_iff.mp (Bool.and_eq_true_iff.mp h).2 with h | h
  · refine .inl fun d hd => ?_
    have := List.all_eq_true.mp h d hd
    match d, this with
    | .tuple (x :: r), _ => exact ⟨x, r, rfl⟩
  · refine .inr fun d hd => ?_
    have := List.all_eq_true.mp h d hd
    refine ⟨fun e => ?_, fun xs e => ?_⟩
    · subst e; cases this
    · subst e; cases this
theorem insD_each {α β : Type} {R : α → β → Prop} {k : α → PyData} {k' : β → PyData} (hk : ∀ a b, R a b → k a = k' b) {a : α} {b : β} (r : R a b) : ∀ {l : List α} {m : List β}, EachIs R l m → EachIs R (insD k a l) (insD k' b m)
  | _, _, .nil => .cons r .nil
  | _, _, .cons (a := c) (b := d) h t => by
    unfold insD
    rw [hk _ _ r, hk _ _ h]
    by_cases q : leD (k' b) (k' d) = true
    · rw [if_pos q, if_pos q]; exact .cons r (.cons h t)
    · rw [if_neg q, if_neg q]; exact .cons h (insD_each hk r t)
theorem sortD_each {α β : Type} {R : α → β → Prop} {k : α → PyData} {k' : β → PyData} (hk : ∀ a b, R a b → k a = k' b) : ∀ {l : List α} {m : List β}, EachIs R l m → EachIs R (sortD k l) (sortD k' m)
  | _, _, .nil => .nil
  | _, _, .cons h t => insD_each hk h (sortD_each hk t)
theorem insD_map {α β : Type} (k : β → PyData) (f : α → β) (a : α) : ∀ l : List α, insD k (f a) (l.map f) = (insD (fun x => k (f x)) a l).map f
  | [] => rfl
  | b :: r => by
    show (if leD (k (f a)) (k (f b)) then f a :: f b :: r.map f else f b :: insD k (f a) (r.map f)) = List.map f (if leD (k (f a)) (k (f b)) then a :: b :: r else b :: insD (fun x => k (f x)) a r)
    rw [insD_map k f a r]
    split <;> rfl
theorem sortD_map {α β : Type} (k : β → PyData) (f : α → β) : ∀ l : List α, sortD k (l.map f) = (sortD (fun x => k (f x)) l).map f
  | [] => rfl
  | a :: r => by
    show insD k (f a) (sortD k (r.map f)) = (insD (fun x => k (f x)) a (sortD (fun x => k (f x)) r)).map f
    rw [sortD_map k f r, insD_map]
theorem insD_perm {α : Type} (k : α → PyData) (a : α) : ∀ l : List α, (insD k a l).Perm (a :: l)
  | [] => List.Perm.refl _
  | b :: r => by
    unfold insD
    split
    · exact List.Perm.refl _
    · exact ((insD_perm k a r).cons b).trans (List.Perm.swap a b r)
theorem sortD_perm {α : Type} (k : α → PyData) : ∀ l : List α, (sortD k l).Perm l
  | [] => List.Perm.refl _
  | a :: r => (insD_perm k a _).trans ((sortD_perm k r).cons a)
def srtB {α : Type} (ds : List PyData) (xs : List α) : List α := (sortD Prod.fst (ds.zip xs)).map Prod.snd
theorem srtB_map {α β : Type} (f : α → β) (ds : List PyData) (xs : List α) : srtB ds (xs.map f) = (srtB ds xs).map f := by
  have e : ds.zip (xs.map f) = (ds.zip xs).map fun p => (p.1, f p.2) := by
    rw [List.zip_map_right]; rfl
  unfold srtB
  rw [e, sortD_map, List.map_map, List.map_map]
  rfl
theorem srtB_perm {α : Type} {ds : List PyData} {xs : List α} (h : ds.length = xs.length) : (srtB ds xs).Perm xs := by
  have := (sortD_perm Prod.fst (ds.zip xs)).map Prod.snd
  rwa [List.map_snd_zip (by omega)] at this
theorem optAll_len {α β : Type} {f : α → Option β} : ∀ {xs : List α} {ds : List β}, optAll f xs = some ds → ds.length = xs.length
  | [], ds, h => by cases h; rfl
  | x :: r, ds, h => by
    unfold optAll at h
    split at h
    · rename_i d ds' e1 e2
      cases h
      rw [List.length_cons, List.length_cons, optAll_len e2]
    · cases h
theorem rws_each {K : PySem.W.Frag} {ρ : Nat → Addr} {N : Nat} {H : Hp} : ∀ {ws : List PV} {vs : List V}, RWs K ρ N H ws vs → EachIs (RW K ρ N H) ws vs
  | _, _, .nil => .nil
  | _, _, .cons r t => .cons r (rws_each t)
theorem each_rws {K : PySem.W.Frag} {ρ : Nat → Addr} {N : Nat} {H : Hp} : ∀ {ws : List PV} {vs : List V}, EachIs (RW K ρ N H) ws vs → RWs K ρ N H ws vs
  | _, _, .nil => .nil
  | _, _, .cons r t => .cons r (each_rws t)
theorem zip_each {α β γ : Type} {R : β → γ → Prop} : ∀ (as : List α) {bs : List β} {cs : List γ}, EachIs R bs cs → EachIs (fun (p : α × β) (q : α × γ) => p.1 = q.1 ∧ R p.2 q.2) (as.zip bs) (as.zip cs)
  | [], _, _, _ => .nil
  | _ :: _, _, _, .nil => .nil
  | _ :: as, _, _, .cons h t => .cons ⟨rfl, h⟩ (zip_each as t)
theorem map_each {α β γ δ : Type} {R : α → β → Prop} {T : γ → δ → Prop} {f : α → γ} {g : β → δ} (h : ∀ a b, R a b → T (f a) (g b)) : ∀ {l : List α} {m : List β}, EachIs R l m → EachIs T (l.map f) (m.map g)
  | _, _, .nil => .nil
  | _, _, .cons r t => .cons (h _ _ r) (map_each h t)
theorem srtB_rws {K : PySem.W.Frag} {ρ : Nat → Addr} {N : Nat} {H : Hp} (ds : List PyData) {ws : List PV} {vs : List V} (r : RWs K ρ N H ws vs) : RWs K ρ N H (srtB ds ws) (srtB ds vs) :=
  each_rws (map_each (R := fun (p : PyData × PV) (q : PyData × V) => p.1 = q.1 ∧ RW K ρ N H p.2 q.2) (fun _ _ x => x.2) (sortD_each (fun _ _ x => x.1) (zip_each ds (rws_each r))))
def fSrtD : MF := fun ws S => match ws with
  | [.loc n] => (match seqAt S n with
    | some xs => (match optAll (datP S 60) xs with
      | some ds => if srtOk ds = true then .ok (.loc S.length) (S ++ [.lst (srtB ds xs)]) else .bad
      | none => .bad)
    | none => .bad)
  | _ => .bad
theorem ci_srtD {X : Cx} : CallI X (rSrtD X.K) fSrtD := by
  intro ρ S H ws vs Ex Q hS r h
  unfold fSrtD at h
  split at h
  · split at h
    · rename_i xs ex
      obtain ⟨vs, s, t⟩ := seq_of hS ex
      split at h
      · rename_i ds ed
        split at h
        · rename_i ok
          cases r with
          | cons r t' =>
            cases t'; cases r
            refine ⟨_, _, ds, rfl, s, datP_all (datP_dp hS) t ed, srtOk_al ok, srtOk_so ok, fun d hd => ?_, mk_lst hS (srtB_rws ds t) h⟩
            obtain ⟨x, _, q⟩ := optAll_some ed d hd
            exact (datP_ok q).2
        · exact h.elim
      · exact h.elim
    · exact h.elim
  · exact h.elim
end GL
set_option Elab.async false
set_option linter.all false
set_option maxRecDepth 100000
set_option maxHeartbeats 400000
namespace K16
open GL
open PySem (Str)
abbrev n_flags : List Nat := [102, 108, 97, 103, 115]
abbrev n_compare : List Nat := [99, 111, 109, 112, 97, 114, 101]
abbrev n_set : List Nat := [115, 101, 116]
abbrev n_move : List Nat := [109, 111, 118, 101]
abbrev n_pc : List Nat := [112, 99]
abbrev n_regs : List Nat := [114, 101, 103, 115]
abbrev n_zero : List Nat := [122, 101, 114, 111]
abbrev n_less : List Nat := [108, 101, 115, 115]
abbrev n_level : List Nat := [108, 101, 118, 101, 108]
abbrev n_enabled : List Nat := [101, 110, 97, 98, 108, 101, 100]
abbrev n_pending : List Nat := [112, 101, 110, 100, 105, 110, 103]
abbrev n_saved : List Nat := [115, 97, 118, 101, 100]
abbrev n_halted : List Nat := [104, 97, 108, 116, 101, 100]
abbrev n_Processor : List Nat := [80, 114, 111, 99, 101, 115, 115, 111, 114]
abbrev n_copy : List Nat := [99, 111, 112, 121]
abbrev n_key : List Nat := [107, 101, 121]
def tabL : List (Nm × Nm) := [(n_Processor, n_enabled), (n_Processor, n_halted), (n_Processor, n_less), (n_Processor, n_level), (n_Processor, n_pc), (n_Processor, n_pending), (n_Processor, n_regs), (n_Processor, n_saved), (n_Processor, n_zero)]
def tab (C f : Nm) : Bool := tabL.any fun p => decide (p.1 = C) && decide (p.2 = f)
abbrev w_REGISTERS : PV := (.int 4)
def m_law_row : MS := (sSeq (sSet 2 (eLst aNil))
  (sSeq (sFor (iSeq (eVar 0)) (gN 3)
  (sSeq (sSet 4 (eB fAbs (aCons (eB fInt (aCons (eVar 3) aNil)) aNil)))
  (sFor (iR1 (eC (.int 60))) (gN 5)
  (sSeq (sIf (toT (eOp gLt (eB fLen (aCons (eVar 2) aNil)) (eVar 1)))
  (sExpr (eMt kList mAppend (eVar 2) (aCons (eOp gMod (eVar 4) (eC (.int 16))) aNil)))
  sNil)
  (sSeq (sSet 4 (eOp gDiv (eVar 4) (eC (.int 16))))
  (sIf (toT (eOp gEq (eVar 4) (eC (.int 0))))
  sBk
  sNil))))))
  (sRet (eVar 2))))
abbrev f_law_row : MF := fnOf 2 6 m_law_row
def m_law_pick : MS := (sSeq (sSet 3 (eC (.int 0)))
  (sSeq (sIf (toT (eOp gLt (eVar 1) (eB fLen (aCons (eVar 0) aNil))))
  (sSet 3 (eOp gIx (eVar 0) (eVar 1)))
  sNil)
  (sSeq (sIf (toT (eOp gLt (eOp gAdd (eVar 1) (eC (.int 1))) (eB fLen (aCons (eVar 0) aNil))))
  (sSet 3 (eOp gAdd (eVar 3) (eOp gMul (eC (.int 16)) (eOp gIx (eVar 0) (eOp gAdd (eVar 1) (eC (.int 1)))))))
  sNil)
  (sRet (eOp gMod (eB fInt (aCons (eVar 3) aNil)) (eVar 2))))))
abbrev f_law_pick : MF := fnOf 3 4 m_law_pick
def m_law_maker : MS := (sSeq (sIf (toT (eOp gEq (eVar 2) (eC (.int 4))))
  (sSeq (sIf (toT (eOp gEq (eCall f_law_pick [] (aCons (eVar 0) (aCons (eVar 1) (aCons (eC (.int 3)) aNil)))) (eC (.int 2))))
  (sRet (eTup (aCons (eC (.str n_flags)) (aCons (eCall f_law_pick [] (aCons (eVar 0) (aCons (eOp gAdd (eVar 1) (eC (.int 2))) (aCons (eC (.int 2)) aNil)))) (aCons (eCall f_law_pick [] (aCons (eVar 0) (aCons (eOp gAdd (eVar 1) (eC (.int 4))) (aCons (eC (.int 2)) aNil)))) aNil)))))
  sNil)
  (sRet (eTup (aCons (eC (.str n_compare)) (aCons (eCall f_law_pick [] (aCons (eVar 0) (aCons (eOp gAdd (eVar 1) (eC (.int 2))) (aCons (eC (.int 4)) aNil)))) (aCons (eCall f_law_pick [] (aCons (eVar 0) (aCons (eOp gAdd (eVar 1) (eC (.int 4))) (aCons (eC (.int 4)) aNil)))) aNil))))))
  sNil)
  (sSeq (sIf (toT (eOp gEq (eCall f_law_pick [] (aCons (eVar 0) (aCons (eVar 1) (aCons (eC (.int 2)) aNil)))) (eC (.int 1))))
  (sRet (eTup (aCons (eC (.str n_set)) (aCons (eCall f_law_pick [] (aCons (eVar 0) (aCons (eOp gAdd (eVar 1) (eC (.int 2))) (aCons (eC (.int 256)) aNil)))) aNil))))
  sNil)
  (sRet (eTup (aCons (eC (.str n_move)) (aCons (eCall f_law_pick [] (aCons (eVar 0) (aCons (eOp gAdd (eVar 1) (eC (.int 2))) (aCons (eC (.int 4)) aNil)))) aNil))))))
abbrev f_law_maker : MF := fnOf 3 3 m_law_maker
def m_law_makers : MS := (sSeq (sSet 2 eDNew)
  (sSeq (sFor (iR1 (eC (.int 5))) (gN 3)
  (sIf (toT (eOp gNe (eCall f_law_pick [] (aCons (eVar 0) (aCons (eOp gAdd (eVar 1) (eOp gMul (eC (.int 7)) (eVar 3))) (aCons (eC (.int 4)) aNil)))) (eC (.int 3))))
  (sDPutM (eVar 2) (eVar 3) (eCall f_law_maker [] (aCons (eVar 0) (aCons (eOp gAdd (eOp gAdd (eVar 1) (eC (.int 1))) (eOp gMul (eC (.int 7)) (eVar 3))) (aCons (eVar 3) aNil)))))
  sNil))
  (sRet (eVar 2))))
abbrev f_law_makers : MF := fnOf 2 4 m_law_makers
def m_sources : MS := (sMatchT (eVar 0) [([(.c n_move), (.v 1)], (sRet (eTup (aCons (eVar 1) aNil)))), ([(.c n_compare), (.v 2), (.v 3)], (sRet (eB fTuple (aCons (eSSet2 2 3) aNil))))] (sRet (eTup aNil)))
abbrev f_sources : MF := fnOf 1 4 m_sources
def m_law_sources : MS := (sSeq (sIf (toT (eOp gEq (eOp gIx (eVar 0) (eC (.int 0))) (eC (.str n_move))))
  (sRet (eLst (aCons (eOp gIx (eVar 0) (eC (.int 1))) aNil)))
  sNil)
  (sSeq (sIf (toT (eOp gEq (eOp gIx (eVar 0) (eC (.int 0))) (eC (.str n_compare))))
  (sSeq (sIf (toT (eOp gEq (eOp gIx (eVar 0) (eC (.int 1))) (eOp gIx (eVar 0) (eC (.int 2)))))
  (sRet (eLst (aCons (eOp gIx (eVar 0) (eC (.int 1))) aNil)))
  sNil)
  (sRet (eLst (aCons (eB fMin2 (aCons (eOp gIx (eVar 0) (eC (.int 1))) (aCons (eOp gIx (eVar 0) (eC (.int 2))) aNil))) (aCons (eB fMax2 (aCons (eOp gIx (eVar 0) (eC (.int 1))) (aCons (eOp gIx (eVar 0) (eC (.int 2))) aNil))) aNil)))))
  sNil)
  (sRet (eLst aNil))))
abbrev f_law_sources : MF := fnOf 1 1 m_law_sources
def m_law_whole : MS := (sRet (eAndM (eB fIsi (aCons (eVar 0) (aCons (eC (.ty .int)) aNil))) (eNotM (eB fIsi (aCons (eVar 0) (aCons (eC (.ty .bool)) aNil))))))
abbrev f_law_whole : MF := fnOf 1 1 m_law_whole
def m_law_sources_told : MS := (sSeq (sFor (iR1 (eC (.int 5))) (gN 1)
  (sIf (toT (eDIn false (eVar 1) (eVar 0)))
  (sSeq (sSet 2 (eCall f_sources [] (aCons (eDGet (eVar 0) (eVar 1)) aNil)))
  (sSeq (sIf (tOrM (tNotM (toT (eB fIsi (aCons (eVar 2) (aCons (eC (.ty .tuple)) aNil))))) (toT (eOp gNe (eB fList (aCons (eVar 2) aNil)) (eCall f_law_sources [] (aCons (eDGet (eVar 0) (eVar 1)) aNil)))))
  (sRet (eC (.bl false)))
  sNil)
  (sFor (iSeq (eVar 2)) (gN 3)
  (sIf (tNotM (toT (eCall f_law_whole [] (aCons (eVar 3) aNil))))
  (sRet (eC (.bl false)))
  sNil))))
  sNil))
  (sRet (eC (.bl true))))
abbrev f_law_sources_told : MF := fnOf 1 4 m_law_sources_told
def m_law_walked : MS := (sSeq (sSet 3 (eB fList (aCons (eVar 0) aNil)))
  (sSeq (sSet 4 (eVar 1))
  (sSeq (sFor (iR1 (eC (.int 5))) (gN 5)
  (sIf (toT (eDIn false (eVar 5) (eVar 2)))
  (sSeq (sSet 6 (eDGet (eVar 2) (eVar 5)))
  (sIf (toT (eOp gEq (eOp gIx (eVar 6) (eC (.int 0))) (eC (.str n_set))))
  (sSub (eVar 3) (eVar 5) (eOp gIx (eVar 6) (eC (.int 1))))
  (sIf (toT (eOp gEq (eOp gIx (eVar 6) (eC (.int 0))) (eC (.str n_move))))
  (sSub (eVar 3) (eVar 5) (eOp gIx (eVar 3) (eOp gIx (eVar 6) (eC (.int 1)))))
  (sIf (toT (eOp gEq (eOp gIx (eVar 6) (eC (.int 0))) (eC (.str n_compare))))
  (sSet 4 (eTup (aCons (eB fInt (aCons (eOp gEq (eOp gIx (eVar 3) (eOp gIx (eVar 6) (eC (.int 1)))) (eOp gIx (eVar 3) (eOp gIx (eVar 6) (eC (.int 2))))) aNil)) (aCons (eB fInt (aCons (eOp gLt (eOp gIx (eVar 3) (eOp gIx (eVar 6) (eC (.int 1)))) (eOp gIx (eVar 3) (eOp gIx (eVar 6) (eC (.int 2))))) aNil)) aNil))))
  (sSet 4 (eTup (aCons (eOp gIx (eVar 6) (eC (.int 1))) (aCons (eOp gIx (eVar 6) (eC (.int 2))) aNil))))))))
  sNil))
  (sRet (eTup (aCons (eB fTuple (aCons (eVar 3) aNil)) (aCons (eVar 4) aNil)))))))
abbrev f_law_walked : MF := fnOf 3 7 m_law_walked
def m_Processor_init : MS := (sSeq (sFldM tab n_pc (eVar 0) (eC (.int 0)))
  (sSeq (sIf (toT (eOp (isM true) (eVar 1) (eC .non)))
  (sFldM tab n_pc (eVar 0) (eVar 1))
  sNil)
  (sSeq (sFldM tab n_regs (eVar 0) (eOp gMul (eLst (aCons (eC (.int 0)) aNil)) (eC w_REGISTERS)))
  (sSeq (sFldM tab n_zero (eVar 0) (eC (.int 0)))
  (sSeq (sFldM tab n_less (eVar 0) (eC (.int 0)))
  (sSeq (sFldM tab n_level (eVar 0) (eC (.int 1)))
  (sSeq (sFldM tab n_enabled (eVar 0) (eC (.bl false)))
  (sSeq (sFldM tab n_pending (eVar 0) (eC (.bl false)))
  (sSeq (sFldM tab n_saved (eVar 0) (eTup (aCons (eC (.int 0)) (aCons (eC (.int 1)) (aCons (eC (.bl false)) aNil)))))
  (sFldM tab n_halted (eVar 0) (eOp (isM false) (eVar 1) (eC .non))))))))))))
abbrev f_Processor_init : MF := fnOf 2 2 m_Processor_init
def m_law_start : MS := (sSeq (sIf (toT (eOp gEq (eCall f_law_pick [] (aCons (eVar 0) (aCons (eC (.int 2)) (aCons (eC (.int 4)) aNil)))) (eC (.int 3))))
  (sRet (eC .non))
  sNil)
  (sRet (eCall f_law_pick [] (aCons (eVar 0) (aCons (eC (.int 0)) (aCons (eC (.int 64)) aNil))))))
abbrev f_law_start : MF := fnOf 1 1 m_law_start
def m_flush_one : MS := (sMatchT (eVar 2) [([(.c n_set), (.v 3)], (sSub (eFld tab n_regs (eVar 0)) (eVar 1) (eVar 3))), ([(.c n_move), (.v 4)], (sSub (eFld tab n_regs (eVar 0)) (eVar 1) (eOp gIx (eFld tab n_regs (eVar 0)) (eVar 4)))), ([(.c n_compare), (.v 5), (.v 6)], (sSeq (sAsg (gT (gsCons (gN 7) (gsCons (gN 8) gsNil))) (eTup (aCons (eOp gIx (eFld tab n_regs (eVar 0)) (eVar 5)) (aCons (eOp gIx (eFld tab n_regs (eVar 0)) (eVar 6)) aNil))))
  (sAsgF tab [n_zero, n_less] (eVar 0) (eTup (aCons (eB fInt (aCons (eOp gEq (eVar 7) (eVar 8)) aNil)) (aCons (eB fInt (aCons (eOp gLt (eVar 7) (eVar 8)) aNil)) aNil)))))), ([(.c n_flags), (.v 9), (.v 10)], (sAsgF tab [n_zero, n_less] (eVar 0) (eTup (aCons (eVar 9) (aCons (eVar 10) aNil)))))] sNil)
abbrev f_flush_one : MF := fnOf 3 11 m_flush_one
def m_flush : MS := (sSeq (sSet 2 (eB fDictP (aCons (eVar 1) aNil)))
  (sFor (iSeq (eB fSrtD (aCons (eB fListD (aCons (eVar 2) aNil)) aNil))) (gN 3)
  (sExpr (eCall f_flush_one [] (aCons (eVar 0) (aCons (eVar 3) (aCons (eDGet (eVar 2) (eVar 3)) aNil)))))))
abbrev f_flush : MF := fnOf 2 4 m_flush
def m_law_processor : MS := (sSeq (sSet 3 (eMake n_Processor f_Processor_init [] (aCons (eCall f_law_start [] (aCons (eVar 0) aNil)) aNil)))
  (sSeq (sFor (iR1 (eC (.int 4))) (gN 4)
  (sSub (eFld tab n_regs (eVar 3)) (eVar 4) (eOp gIx (eVar 1) (eVar 4))))
  (sSeq (sExpr (eCall f_flush [] (aCons (eVar 3) (aCons (eLst (aCons (eTup (aCons (eC (.int 4)) (aCons (eTup (aCons (eC (.str n_flags)) (aCons (eOp gIx (eVar 2) (eC (.int 0))) (aCons (eOp gIx (eVar 2) (eC (.int 1))) aNil)))) aNil))) aNil)) aNil))))
  (sRet (eVar 3)))))
abbrev f_law_processor : MF := fnOf 3 5 m_law_processor
def m_Processor_copy : MS := (sSeq (sSet 1 (eMake n_Processor f_Processor_init [] (aCons (eFld tab n_pc (eVar 0)) aNil)))
  (sSeq (sFldM tab n_regs (eVar 1) (eB fList (aCons (eFld tab n_regs (eVar 0)) aNil)))
  (sSeq (sFldM tab n_zero (eVar 1) (eFld tab n_zero (eVar 0)))
  (sSeq (sFldM tab n_less (eVar 1) (eFld tab n_less (eVar 0)))
  (sSeq (sFldM tab n_level (eVar 1) (eFld tab n_level (eVar 0)))
  (sSeq (sFldM tab n_enabled (eVar 1) (eFld tab n_enabled (eVar 0)))
  (sSeq (sFldM tab n_pending (eVar 1) (eFld tab n_pending (eVar 0)))
  (sSeq (sFldM tab n_saved (eVar 1) (eFld tab n_saved (eVar 0)))
  (sSeq (sFldM tab n_halted (eVar 1) (eFld tab n_halted (eVar 0)))
  (sRet (eVar 1)))))))))))
abbrev f_Processor_copy : MF := fnOf 1 2 m_Processor_copy
def m_flushed : MS := (sSeq (sSet 2 (eMeth n_Processor n_copy f_Processor_copy [] (eVar 0) aNil))
  (sSeq (sExpr (eCall f_flush [] (aCons (eVar 2) (aCons (eVar 1) aNil))))
  (sRet (eVar 2))))
abbrev f_flushed : MF := fnOf 2 3 m_flushed
def m_Processor_key : MS := (sSeq (sSet 1 (eTup (aCons (eFld tab n_zero (eVar 0)) (aCons (eFld tab n_less (eVar 0)) aNil))))
  (sRet (eTup (aCons (eFld tab n_pc (eVar 0)) (aCons (eB fTuple (aCons (eFld tab n_regs (eVar 0)) aNil)) (aCons (eVar 1) (aCons (eFld tab n_level (eVar 0)) (aCons (eFld tab n_enabled (eVar 0)) (aCons (eFld tab n_pending (eVar 0)) (aCons (eFld tab n_saved (eVar 0)) (aCons (eFld tab n_halted (eVar 0)) aNil)))))))))))
abbrev f_Processor_key : MF := fnOf 1 2 m_Processor_key
def m_law_stands : MS := (sSeq (sSet 3 (eCall f_law_start [] (aCons (eVar 1) aNil)))
  (sSeq (sSet 4 (eC (.int 0)))
  (sSeq (sIf (toT (eOp (isM true) (eVar 3) (eC .non)))
  (sSet 4 (eVar 3))
  sNil)
  (sSeq (sIf (toT (eOp gNe (eMeth n_Processor n_key f_Processor_key [] (eVar 0) aNil) (eTup (aCons (eVar 4) (aCons (eOp gIx (eVar 2) (eC (.int 0))) (aCons (eOp gIx (eVar 2) (eC (.int 1))) (aCons (eC (.int 1)) (aCons (eC (.bl false)) (aCons (eC (.bl false)) (aCons (eTup (aCons (eC (.int 0)) (aCons (eC (.int 1)) (aCons (eC (.bl false)) aNil)))) (aCons (eOp (isM false) (eVar 3) (eC .non)) aNil)))))))))))
  (sRet (eC (.bl false)))
  sNil)
  (sSeq (sFor (iSeq (eOp gAdd (eB fList (aCons (eFld tab n_regs (eVar 0)) aNil)) (eLst (aCons (eFld tab n_zero (eVar 0)) (aCons (eFld tab n_less (eVar 0)) aNil))))) (gN 5)
  (sIf (tNotM (toT (eCall f_law_whole [] (aCons (eVar 5) aNil))))
  (sRet (eC (.bl false)))
  sNil))
  (sRet (eC (.bl true))))))))
abbrev f_law_stands : MF := fnOf 3 6 m_law_stands
def m_law_pairs : MS := (sSeq (sSet 2 (eLc (iR1 (eC (.int 5))) (gN 3) (toT (eDIn false (eVar 3) (eVar 0))) (eTup (aCons (eVar 3) (aCons (eDGet (eVar 0) (eVar 3)) aNil))) [3]))
  (sSeq (sSet 4 (eOp gMod (eB fInt (aCons (eVar 1) aNil)) (eOp gAdd (eB fLen (aCons (eVar 2) aNil)) (eC (.int 1)))))
  (sRet (eOp gAdd (eSl (eVar 2) (oYes (eVar 4)) oNo) (eSl (eVar 2) oNo (oYes (eVar 4)))))))
abbrev f_law_pairs : MF := fnOf 2 5 m_law_pairs
def m_law_one_state : MS := (sSeq (sSet 4 (eCall f_law_walked [] (aCons (eVar 1) (aCons (eVar 2) (aCons (eVar 3) aNil)))))
  (sSeq (sSet 5 (eCall f_law_processor [] (aCons (eVar 0) (aCons (eVar 1) (aCons (eVar 2) aNil)))))
  (sSeq (sSet 6 (eB fDictC (aCons (eVar 3) aNil)))
  (sSeq (sSet 7 (eCall f_flushed [] (aCons (eVar 5) (aCons (eVar 6) aNil))))
  (sSeq (sIf (tOrM (toT (eOp gNeD (eVar 6) (eVar 3))) (tOrM (tNotM (toT (eCall f_law_stands [] (aCons (eVar 7) (aCons (eVar 0) (aCons (eVar 4) aNil)))))) (tNotM (toT (eCall f_law_stands [] (aCons (eVar 5) (aCons (eVar 0) (aCons (eTup (aCons (eB fTuple (aCons (eVar 1) aNil)) (aCons (eVar 2) aNil))) aNil))))))))
  (sRet (eC (.bl false)))
  sNil)
  (sSeq (sSub (eFld tab n_regs (eVar 7)) (eC (.int 2)) (eOp gMod (eB fInt (aCons (eOp gAdd (eOp gIx (eOp gIx (eVar 4) (eC (.int 0))) (eC (.int 2))) (eC (.int 1))) aNil)) (eC (.int 256))))
  (sSeq (sSet 8 (eCall f_law_pairs [] (aCons (eVar 3) (aCons (eCall f_law_pick [] (aCons (eVar 0) (aCons (eC (.int 12)) (aCons (eC (.int 6)) aNil)))) aNil))))
  (sSeq (sSet 9 (eB fList (aCons (eVar 8) aNil)))
  (sSeq (sIf (tOrM (tNotM (toT (eCall f_law_stands [] (aCons (eCall f_flushed [] (aCons (eVar 5) (aCons (eVar 8) aNil))) (aCons (eVar 0) (aCons (eVar 4) aNil)))))) (toT (eOp gNe (eVar 8) (eVar 9))))
  (sRet (eC (.bl false)))
  sNil)
  (sSeq (sIf (tNotM (toT (eCall f_law_stands [] (aCons (eCall f_flushed [] (aCons (eVar 5) (aCons eDNew aNil))) (aCons (eVar 0) (aCons (eTup (aCons (eB fTuple (aCons (eVar 1) aNil)) (aCons (eVar 2) aNil))) aNil))))))
  (sRet (eC (.bl false)))
  sNil)
  (sSeq (sIf (tOrM (toT (eOp (isM true) (eCall f_flush [] (aCons (eVar 5) (aCons eTupP0 aNil))) (eC .non))) (tNotM (toT (eCall f_law_stands [] (aCons (eVar 5) (aCons (eVar 0) (aCons (eTup (aCons (eB fTuple (aCons (eVar 1) aNil)) (aCons (eVar 2) aNil))) aNil)))))))
  (sRet (eC (.bl false)))
  sNil)
  (sSeq (sIf (tOrM (toT (eOp (isM true) (eCall f_flush [] (aCons (eVar 5) (aCons (eB fTupP (aCons (eRev (eVar 8)) aNil)) aNil))) (eC .non))) (tNotM (toT (eCall f_law_stands [] (aCons (eVar 5) (aCons (eVar 0) (aCons (eVar 4) aNil)))))))
  (sRet (eC (.bl false)))
  sNil)
  (sSeq (sSet 10 (eCall f_law_processor [] (aCons (eVar 0) (aCons (eVar 1) (aCons (eVar 2) aNil)))))
  (sSeq (sExpr (eCall f_flush [] (aCons (eVar 10) (aCons (eVar 6) aNil))))
  (sRet (eAndM (eOp gEqD (eVar 6) (eVar 3)) (eCall f_law_stands [] (aCons (eVar 10) (aCons (eVar 0) (aCons (eVar 4) aNil))))))))))))))))))))
abbrev f_law_one_state : MF := fnOf 4 11 m_law_one_state
def m_law : MS := (sSeq (sSet 1 (eCall f_law_row [] (aCons (eVar 0) (aCons (eC (.int 80)) aNil))))
  (sSeq (sSet 2 (eLc (iR1 (eC (.int 4))) (gN 3) tYesM (eCall f_law_pick [] (aCons (eVar 1) (aCons (eOp gAdd (eC (.int 14)) (eOp gMul (eC (.int 2)) (eVar 3))) (aCons (eC (.int 256)) aNil)))) [3]))
  (sSeq (sSet 4 (eTup (aCons (eCall f_law_pick [] (aCons (eVar 1) (aCons (eC (.int 22)) (aCons (eC (.int 2)) aNil)))) (aCons (eCall f_law_pick [] (aCons (eVar 1) (aCons (eC (.int 23)) (aCons (eC (.int 2)) aNil)))) aNil))))
  (sSeq (sSet 5 (eCall f_law_makers [] (aCons (eVar 1) (aCons (eC (.int 26)) aNil))))
  (sSeq (sIf (tOrM (tNotM (toT (eCall f_law_sources_told [] (aCons (eVar 5) aNil)))) (tNotM (toT (eCall f_law_one_state [] (aCons (eVar 1) (aCons (eVar 2) (aCons (eVar 4) (aCons (eVar 5) aNil))))))))
  (sRet (eC (.bl false)))
  sNil)
  (sSeq (sSet 6 (eLc (iR1 (eC (.int 4))) (gN 3) tYesM (eCall f_law_pick [] (aCons (eVar 1) (aCons (eOp gAdd (eC (.int 62)) (eOp gMul (eC (.int 2)) (eVar 3))) (aCons (eC (.int 256)) aNil)))) [3]))
  (sRet (eCall f_law_one_state [] (aCons (eVar 1) (aCons (eVar 6) (aCons (eTup (aCons (eOp gSub (eC (.int 1)) (eOp gIx (eVar 4) (eC (.int 0)))) (aCons (eOp gSub (eC (.int 1)) (eOp gIx (eVar 4) (eC (.int 1)))) aNil))) (aCons (eVar 5) aNil))))))))))))
abbrev f_law : MF := fnOf 1 7 m_law
end K16
set_option Elab.async false
set_option linter.all false
set_option maxRecDepth 100000
set_option maxHeartbeats 400000
namespace K16
open PySem PySem.Spec PyProof.Rows L2 GL
def top (i : Nat) : Stmt := PySem.Challenge.pw_guestlives_k16_values_flushed_in_order.main.body.getD i (.Pass ⟨0, 0, 0, 0⟩)
abbrev st_law_row : Stmt := top 9
abbrev N_law_row : List Str := ["_law_script", "_law_most", "_law_row_here", "_law_cell", "_law_rest", "_law_k"]
abbrev ps_law_row : List Str := ["_law_script", "_law_most"]
theorem sc_law_row : FnScope N_law_row ps_law_row (defScope st_law_row) := ⟨rfl, rfl, rfl, by decide +kernel, rfl, by decide +kernel, by decide +kernel⟩
abbrev st_law_pick : Stmt := top 10
abbrev N_law_pick : List Str := ["_law_row_here", "_law_at", "_law_limit", "_law_value"]
abbrev ps_law_pick : List Str := ["_law_row_here", "_law_at", "_law_limit"]
theorem sc_law_pick : FnScope N_law_pick ps_law_pick (defScope st_law_pick) := ⟨rfl, rfl, rfl, by decide +kernel, rfl, by decide +kernel, by decide +kernel⟩
abbrev st_law_maker : Stmt := top 12
abbrev N_law_maker : List Str := ["_law_row_here", "_law_at", "_law_value"]
abbrev ps_law_maker : List Str := ["_law_row_here", "_law_at", "_law_value"]
theorem sc_law_maker : FnScope N_law_maker ps_law_maker (defScope st_law_maker) := ⟨rfl, rfl, rfl, by decide +kernel, rfl, by decide +kernel, by decide +kernel⟩
abbrev st_law_makers : Stmt := top 13
abbrev N_law_makers : List Str := ["_law_row_here", "_law_at", "_law_makers_here", "_law_value"]
abbrev ps_law_makers : List Str := ["_law_row_here", "_law_at"]
theorem sc_law_makers : FnScope N_law_makers ps_law_makers (defScope st_law_makers) := ⟨rfl, rfl, rfl, by decide +kernel, rfl, by decide +kernel, by decide +kernel⟩
abbrev st_sources : Stmt := top 1
abbrev N_sources : List Str := ["maker", "source", "first", "second"]
abbrev ps_sources : List Str := ["maker"]
theorem sc_sources : FnScope N_sources ps_sources (defScope st_sources) := ⟨rfl, rfl, rfl, by decide +kernel, rfl, by decide +kernel, by decide +kernel⟩
abbrev st_law_sources : Stmt := top 14
abbrev N_law_sources : List Str := ["_law_maker_here"]
abbrev ps_law_sources : List Str := ["_law_maker_here"]
theorem sc_law_sources : FnScope N_law_sources ps_law_sources (defScope st_law_sources) := ⟨rfl, rfl, rfl, by decide +kernel, rfl, by decide +kernel, by decide +kernel⟩
abbrev st_law_whole : Stmt := top 11
abbrev N_law_whole : List Str := ["_law_value"]
abbrev ps_law_whole : List Str := ["_law_value"]
theorem sc_law_whole : FnScope N_law_whole ps_law_whole (defScope st_law_whole) := ⟨rfl, rfl, rfl, by decide +kernel, rfl, by decide +kernel, by decide +kernel⟩
abbrev st_law_sources_told : Stmt := top 15
abbrev N_law_sources_told : List Str := ["_law_makers_here", "_law_value", "_law_told", "_law_one"]
abbrev ps_law_sources_told : List Str := ["_law_makers_here"]
theorem sc_law_sources_told : FnScope N_law_sources_told ps_law_sources_told (defScope st_law_sources_told) := ⟨rfl, rfl, rfl, by decide +kernel, rfl, by decide +kernel, by decide +kernel⟩
abbrev st_law_walked : Stmt := top 16
abbrev N_law_walked : List Str := ["_law_regs", "_law_flags", "_law_makers_here", "_law_now", "_law_marks", "_law_value", "_law_maker_here"]
abbrev ps_law_walked : List Str := ["_law_regs", "_law_flags", "_law_makers_here"]
theorem sc_law_walked : FnScope N_law_walked ps_law_walked (defScope st_law_walked) := ⟨rfl, rfl, rfl, by decide +kernel, rfl, by decide +kernel, by decide +kernel⟩
abbrev st_Processor_init : Stmt := inClass (top 7) 0
abbrev N_Processor_init : List Str := ["self", "start"]
abbrev ps_Processor_init : List Str := ["self", "start"]
theorem sc_Processor_init : FnScope N_Processor_init ps_Processor_init (defScope st_Processor_init) := ⟨rfl, rfl, rfl, by decide +kernel, rfl, by decide +kernel, by decide +kernel⟩
abbrev st_law_start : Stmt := top 17
abbrev N_law_start : List Str := ["_law_row_here"]
abbrev ps_law_start : List Str := ["_law_row_here"]
theorem sc_law_start : FnScope N_law_start ps_law_start (defScope st_law_start) := ⟨rfl, rfl, rfl, by decide +kernel, rfl, by decide +kernel, by decide +kernel⟩
abbrev st_flush_one : Stmt := top 2
abbrev N_flush_one : List Str := ["processor", "value", "maker", "number", "source", "first", "second", "left", "right", "zero", "less"]
abbrev ps_flush_one : List Str := ["processor", "value", "maker"]
theorem sc_flush_one : FnScope N_flush_one ps_flush_one (defScope st_flush_one) := ⟨rfl, rfl, rfl, by decide +kernel, rfl, by decide +kernel, by decide +kernel⟩
abbrev st_flush : Stmt := top 3
abbrev N_flush : List Str := ["processor", "deferred", "makers", "value"]
abbrev ps_flush : List Str := ["processor", "deferred"]
theorem sc_flush : FnScope N_flush ps_flush (defScope st_flush) := ⟨rfl, rfl, rfl, by decide +kernel, rfl, by decide +kernel, by decide +kernel⟩
abbrev st_law_processor : Stmt := top 18
abbrev N_law_processor : List Str := ["_law_row_here", "_law_regs", "_law_flags", "_law_processor_here", "_law_k"]
abbrev ps_law_processor : List Str := ["_law_row_here", "_law_regs", "_law_flags"]
theorem sc_law_processor : FnScope N_law_processor ps_law_processor (defScope st_law_processor) := ⟨rfl, rfl, rfl, by decide +kernel, rfl, by decide +kernel, by decide +kernel⟩
abbrev st_Processor_copy : Stmt := inClass (top 7) 2
abbrev N_Processor_copy : List Str := ["self", "twin"]
abbrev ps_Processor_copy : List Str := ["self"]
theorem sc_Processor_copy : FnScope N_Processor_copy ps_Processor_copy (defScope st_Processor_copy) := ⟨rfl, rfl, rfl, by decide +kernel, rfl, by decide +kernel, by decide +kernel⟩
abbrev st_flushed : Stmt := top 4
abbrev N_flushed : List Str := ["processor", "deferred", "twin"]
abbrev ps_flushed : List Str := ["processor", "deferred"]
theorem sc_flushed : FnScope N_flushed ps_flushed (defScope st_flushed) := ⟨rfl, rfl, rfl, by decide +kernel, rfl, by decide +kernel, by decide +kernel⟩
abbrev st_Processor_key : Stmt := inClass (top 7) 1
abbrev N_Processor_key : List Str := ["self", "flags"]
abbrev ps_Processor_key : List Str := ["self"]
theorem sc_Processor_key : FnScope N_Processor_key ps_Processor_key (defScope st_Processor_key) := ⟨rfl, rfl, rfl, by decide +kernel, rfl, by decide +kernel, by decide +kernel⟩
abbrev st_law_stands : Stmt := top 19
abbrev N_law_stands : List Str := ["_law_processor_here", "_law_row_here", "_law_state", "_law_start_here", "_law_pc", "_law_value"]
abbrev ps_law_stands : List Str := ["_law_processor_here", "_law_row_here", "_law_state"]
theorem sc_law_stands : FnScope N_law_stands ps_law_stands (defScope st_law_stands) := ⟨rfl, rfl, rfl, by decide +kernel, rfl, by decide +kernel, by decide +kernel⟩
abbrev st_law_pairs : Stmt := top 20
abbrev N_law_pairs : List Str := ["_law_makers_here", "_law_turn", "_law_pairs_here", "_law_value", "_law_place"]
abbrev ps_law_pairs : List Str := ["_law_makers_here", "_law_turn"]
theorem sc_law_pairs : FnScope N_law_pairs ps_law_pairs (defScope st_law_pairs) := ⟨rfl, rfl, rfl, by decide +kernel, rfl, by decide +kernel, by decide +kernel⟩
abbrev st_law_one_state : Stmt := top 21
abbrev N_law_one_state : List Str := ["_law_row_here", "_law_regs", "_law_flags", "_law_makers_here", "_law_due", "_law_processor_here", "_law_handed", "_law_twin", "_law_pairs_here", "_law_kept", "_law_other"]
abbrev ps_law_one_state : List Str := ["_law_row_here", "_law_regs", "_law_flags", "_law_makers_here"]
theorem sc_law_one_state : FnScope N_law_one_state ps_law_one_state (defScope st_law_one_state) := ⟨rfl, rfl, rfl, by decide +kernel, rfl, by decide +kernel, by decide +kernel⟩
abbrev st_law : Stmt := top 22
abbrev N_law : List Str := ["_law_script", "_law_row_here", "_law_regs", "_law_k", "_law_flags", "_law_makers_here", "_law_others"]
abbrev ps_law : List Str := ["_law_script"]
theorem sc_law : FnScope N_law ps_law (defScope st_law) := ⟨rfl, rfl, rfl, by decide +kernel, rfl, by decide +kernel, by decide +kernel⟩
theorem e_Processor : toS n_Processor = ("Processor" : Str) := by decide +kernel
structure Tx (K : PySem.W.Frag) (mg : Str → Option Value) : Prop where
  b_abs : mg "abs" = none
  b_bool : mg "bool" = none
  b_dict : mg "dict" = none
  b_int : mg "int" = none
  b_isinstance : mg "isinstance" = none
  b_len : mg "len" = none
  b_list : mg "list" = none
  b_max : mg "max" = none
  b_min : mg "min" = none
  b_range : mg "range" = none
  b_sorted : mg "sorted" = none
  b_tuple : mg "tuple" = none
  g__law_row : mg "_law_row" = some (.ref (He.ga K "_law_row"))
  g__law_pick : mg "_law_pick" = some (.ref (He.ga K "_law_pick"))
  g__law_maker : mg "_law_maker" = some (.ref (He.ga K "_law_maker"))
  g__law_makers : mg "_law_makers" = some (.ref (He.ga K "_law_makers"))
  g_sources : mg "sources" = some (.ref (He.ga K "sources"))
  g__law_sources : mg "_law_sources" = some (.ref (He.ga K "_law_sources"))
  g__law_whole : mg "_law_whole" = some (.ref (He.ga K "_law_whole"))
  g__law_sources_told : mg "_law_sources_told" = some (.ref (He.ga K "_law_sources_told"))
  g__law_walked : mg "_law_walked" = some (.ref (He.ga K "_law_walked"))
  g__law_start : mg "_law_start" = some (.ref (He.ga K "_law_start"))
  g_flush_one : mg "flush_one" = some (.ref (He.ga K "flush_one"))
  g_flush : mg "flush" = some (.ref (He.ga K "flush"))
  g__law_processor : mg "_law_processor" = some (.ref (He.ga K "_law_processor"))
  g_flushed : mg "flushed" = some (.ref (He.ga K "flushed"))
  g__law_stands : mg "_law_stands" = some (.ref (He.ga K "_law_stands"))
  g__law_pairs : mg "_law_pairs" = some (.ref (He.ga K "_law_pairs"))
  g__law_one_state : mg "_law_one_state" = some (.ref (He.ga K "_law_one_state"))
  g_law : mg "law" = some (.ref (He.ga K "law"))
  cl_Processor : Cls K (He.ga K "Processor")
  g_Processor : mg "Processor" = some (.ref (He.ga K "Processor"))
  mk_Processor : Mk K (He.ga K "Processor") (He.ma K (He.ga K "Processor") "__init__")
  me_Processor_copy : Meth K (He.ga K "Processor") "copy" (He.ma K (He.ga K "Processor") "copy")
  me_Processor_key : Meth K (He.ga K "Processor") "key" (He.ma K (He.ga K "Processor") "key")
  c_REGISTERS : GCon K mg "REGISTERS" w_REGISTERS
  att : Atts K tab
  d_law_row : ∃ fd, FunD K "_law_row" "_law_row" (defArgs st_law_row) (defBody st_law_row) (defScope st_law_row) ([] : List V) ([] : List (Str × V)) (He.fAd K ("_law_row", none)) fd
  d_law_pick : ∃ fd, FunD K "_law_pick" "_law_pick" (defArgs st_law_pick) (defBody st_law_pick) (defScope st_law_pick) ([] : List V) ([] : List (Str × V)) (He.fAd K ("_law_pick", none)) fd
  d_law_maker : ∃ fd, FunD K "_law_maker" "_law_maker" (defArgs st_law_maker) (defBody st_law_maker) (defScope st_law_maker) ([] : List V) ([] : List (Str × V)) (He.fAd K ("_law_maker", none)) fd
  d_law_makers : ∃ fd, FunD K "_law_makers" "_law_makers" (defArgs st_law_makers) (defBody st_law_makers) (defScope st_law_makers) ([] : List V) ([] : List (Str × V)) (He.fAd K ("_law_makers", none)) fd
  d_sources : ∃ fd, FunD K "sources" "sources" (defArgs st_sources) (defBody st_sources) (defScope st_sources) ([] : List V) ([] : List (Str × V)) (He.fAd K ("sources", none)) fd
  d_law_sources : ∃ fd, FunD K "_law_sources" "_law_sources" (defArgs st_law_sources) (defBody st_law_sources) (defScope st_law_sources) ([] : List V) ([] : List (Str × V)) (He.fAd K ("_law_sources", none)) fd
  d_law_whole : ∃ fd, FunD K "_law_whole" "_law_whole" (defArgs st_law_whole) (defBody st_law_whole) (defScope st_law_whole) ([] : List V) ([] : List (Str × V)) (He.fAd K ("_law_whole", none)) fd
  d_law_sources_told : ∃ fd, FunD K "_law_sources_told" "_law_sources_told" (defArgs st_law_sources_told) (defBody st_law_sources_told) (defScope st_law_sources_told) ([] : List V) ([] : List (Str × V)) (He.fAd K ("_law_sources_told", none)) fd
  d_law_walked : ∃ fd, FunD K "_law_walked" "_law_walked" (defArgs st_law_walked) (defBody st_law_walked) (defScope st_law_walked) ([] : List V) ([] : List (Str × V)) (He.fAd K ("_law_walked", none)) fd
  d_Processor_init : ∃ fd, FunD K "__init__" "Processor.__init__" (defArgs st_Processor_init) (defBody st_Processor_init) (defScope st_Processor_init) ([] : List V) ([] : List (Str × V)) (He.fAd K ("Processor", some "__init__")) fd
  d_law_start : ∃ fd, FunD K "_law_start" "_law_start" (defArgs st_law_start) (defBody st_law_start) (defScope st_law_start) ([] : List V) ([] : List (Str × V)) (He.fAd K ("_law_start", none)) fd
  d_flush_one : ∃ fd, FunD K "flush_one" "flush_one" (defArgs st_flush_one) (defBody st_flush_one) (defScope st_flush_one) ([] : List V) ([] : List (Str × V)) (He.fAd K ("flush_one", none)) fd
  d_flush : ∃ fd, FunD K "flush" "flush" (defArgs st_flush) (defBody st_flush) (defScope st_flush) ([] : List V) ([] : List (Str × V)) (He.fAd K ("flush", none)) fd
  d_law_processor : ∃ fd, FunD K "_law_processor" "_law_processor" (defArgs st_law_processor) (defBody st_law_processor) (defScope st_law_processor) ([] : List V) ([] : List (Str × V)) (He.fAd K ("_law_processor", none)) fd
  d_Processor_copy : ∃ fd, FunD K "copy" "Processor.copy" (defArgs st_Processor_copy) (defBody st_Processor_copy) (defScope st_Processor_copy) ([] : List V) ([] : List (Str × V)) (He.fAd K ("Processor", some "copy")) fd
  d_flushed : ∃ fd, FunD K "flushed" "flushed" (defArgs st_flushed) (defBody st_flushed) (defScope st_flushed) ([] : List V) ([] : List (Str × V)) (He.fAd K ("flushed", none)) fd
  d_Processor_key : ∃ fd, FunD K "key" "Processor.key" (defArgs st_Processor_key) (defBody st_Processor_key) (defScope st_Processor_key) ([] : List V) ([] : List (Str × V)) (He.fAd K ("Processor", some "key")) fd
  d_law_stands : ∃ fd, FunD K "_law_stands" "_law_stands" (defArgs st_law_stands) (defBody st_law_stands) (defScope st_law_stands) ([] : List V) ([] : List (Str × V)) (He.fAd K ("_law_stands", none)) fd
  d_law_pairs : ∃ fd, FunD K "_law_pairs" "_law_pairs" (defArgs st_law_pairs) (defBody st_law_pairs) (defScope st_law_pairs) ([] : List V) ([] : List (Str × V)) (He.fAd K ("_law_pairs", none)) fd
  d_law_one_state : ∃ fd, FunD K "_law_one_state" "_law_one_state" (defArgs st_law_one_state) (defBody st_law_one_state) (defScope st_law_one_state) ([] : List V) ([] : List (Str × V)) (He.fAd K ("_law_one_state", none)) fd
  d_law : ∃ fd, FunD K "law" "law" (defArgs st_law) (defBody st_law) (defScope st_law) ([] : List V) ([] : List (Str × V)) (He.fAd K ("law", none)) fd
section
variable {P : Program} {w : World} {K : PySem.W.Frag} {mg : Str → Option Value} {base : Heap}
theorem fi_law_row (T : Tx K mg) {fd : FuncData} (F : FunD K "_law_row" "_law_row" (defArgs st_law_row) (defBody st_law_row) (defScope st_law_row) ([] : List V) ([] : List (Str × V)) (He.fAd K ("_law_row", none)) fd) : FI P w K mg base 1 (He.fAd K ("_law_row", none)) fd ps_law_row f_law_row := by
  have h := fi_of (P := P) (w := w) (mg := mg) (base := base) F sc_law_row (m := m_law_row) (k := 0) (fun cdv A outer s H E hr => by
    exact (iss_cons (is_set (i := 2) sc_law_row.nd (ie_lst ia_nil))
    (iss_cons (is_for (L2.passes_of rfl) rfl (ii_seq (ie_var 0)) (ig_name 3 sc_law_row.nd)
    (iss_cons (is_set (i := 4) sc_law_row.nd (ie_B call_abs ci_abs T.b_abs (by decide +kernel) (ia_cons (ie_BT call_int1 ci_int T.b_int (by decide +kernel) (ia_cons (ie_var 3) ia_nil)) ia_nil)))
    (iss_one (is_for (L2.passes_of rfl) rfl (ii_range1 T.b_range ie_int) (ig_name 5 sc_law_row.nd)
    (iss_cons (is_if (it_cmp op_lt oi_lt (ie_B call_len ci_len T.b_len (by decide +kernel) (ia_cons (ie_var 2) ia_nil)) (ie_var 1) (nomark _))
    (iss_one (is_expr (ie_mt PySem.F.plainAttrs_list PySem.F.slot_list_append PySem.F.type_list_append mt_append chk_list mi_append (ie_var 2) (ia_cons (ie_bin op_mod oi_mod (ie_var 4) ie_int) ia_nil))))
    iss_nil)
    (iss_cons (is_set (i := 4) sc_law_row.nd (ie_bin op_fdiv oi_div (ie_var 4) ie_int))
    (iss_one (is_if (it_cmp (or_eqM hr.units) oi_eq (ie_var 4) ie_int (nomark _))
    (iss_one is_break)
    iss_nil))))))))
    (iss_one (is_ret (ie_var 2))))))
  exact h
theorem ok_law_row (T : Tx K mg) : ∃ fd, FI P w K mg base 1 (He.fAd K ("_law_row", none)) fd ps_law_row f_law_row ∧ PySem.W.keepIn K (.ref (He.fAd K ("_law_row", none))) = true ∧ (∃ ds, Vals (([] : List V).drop 0 : List V) ds ∧ Binds K fd ps_law_row ds) := by
  obtain ⟨fd, F⟩ := T.d_law_row
  exact ⟨fd, fi_law_row T F, F.kp, ⟨[], .nil, F.bindsN fun _ _ _ _ _ _ us hl => match us, hl with | [_, _], _ => rfl⟩⟩
theorem fi_law_pick (T : Tx K mg) {fd : FuncData} (F : FunD K "_law_pick" "_law_pick" (defArgs st_law_pick) (defBody st_law_pick) (defScope st_law_pick) ([] : List V) ([] : List (Str × V)) (He.fAd K ("_law_pick", none)) fd) : FI P w K mg base 1 (He.fAd K ("_law_pick", none)) fd ps_law_pick f_law_pick := by
  have h := fi_of (P := P) (w := w) (mg := mg) (base := base) F sc_law_pick (m := m_law_pick) (k := 0) (fun cdv A outer s H E hr => by
    exact (iss_cons (is_set (i := 3) sc_law_pick.nd ie_int)
    (iss_cons (is_if (it_cmp op_lt oi_lt (ie_var 1) (ie_B call_len ci_len T.b_len (by decide +kernel) (ia_cons (ie_var 0) ia_nil)) (nomark _))
    (iss_one (is_set (i := 3) sc_law_pick.nd (ie_ix (ie_var 0) (ie_var 1))))
    iss_nil)
    (iss_cons (is_if (it_cmp op_lt oi_lt (ie_bin or_addM oi_add (ie_var 1) ie_int) (ie_B call_len ci_len T.b_len (by decide +kernel) (ia_cons (ie_var 0) ia_nil)) (nomark _))
    (iss_one (is_set (i := 3) sc_law_pick.nd (ie_bin or_addM oi_add (ie_var 3) (ie_bin or_mulM oi_mul ie_int (ie_ix (ie_var 0) (ie_bin or_addM oi_add (ie_var 1) ie_int))))))
    iss_nil)
    (iss_one (is_ret (ie_bin op_mod oi_mod (ie_BT call_int1 ci_int T.b_int (by decide +kernel) (ia_cons (ie_var 3) ia_nil)) (ie_var 2))))))))
  exact h
theorem ok_law_pick (T : Tx K mg) : ∃ fd, FI P w K mg base 1 (He.fAd K ("_law_pick", none)) fd ps_law_pick f_law_pick ∧ PySem.W.keepIn K (.ref (He.fAd K ("_law_pick", none))) = true ∧ (∃ ds, Vals (([] : List V).drop 0 : List V) ds ∧ Binds K fd ps_law_pick ds) := by
  obtain ⟨fd, F⟩ := T.d_law_pick
  exact ⟨fd, fi_law_pick T F, F.kp, ⟨[], .nil, F.bindsN fun _ _ _ _ _ _ us hl => match us, hl with | [_, _, _], _ => rfl⟩⟩
theorem fi_law_maker (T : Tx K mg) {fd : FuncData} (F : FunD K "_law_maker" "_law_maker" (defArgs st_law_maker) (defBody st_law_maker) (defScope st_law_maker) ([] : List V) ([] : List (Str × V)) (He.fAd K ("_law_maker", none)) fd) : FI P w K mg base 2 (He.fAd K ("_law_maker", none)) fd ps_law_maker f_law_maker := by
  obtain ⟨fd_law_pick, F_law_pick, k_law_pick, ⟨ds_law_pick_3, v_law_pick_3, b_law_pick_3⟩⟩ := ok_law_pick (P := P) (w := w) (base := base) T
  have w_law_pick_3 : GVals K (([] : List V).drop 0 : List V) [] := trivial
  have h := fi_of (P := P) (w := w) (mg := mg) (base := base) F sc_law_maker (m := m_law_maker) (k := 1) (fun cdv A outer s H E hr => by
    exact (iss_cons (is_if (it_cmp (or_eqM hr.units) oi_eq (ie_var 2) ie_int (nomark _))
    (iss_cons (is_if (it_cmp (or_eqM hr.units) oi_eq (ie_call (L2.takes_of rfl rfl rfl rfl) F_law_pick rfl (hr.mono (by decide)) T.g__law_pick k_law_pick b_law_pick_3 v_law_pick_3 w_law_pick_3 (ia_cons (ie_var 0) (ia_cons (ie_var 1) (ia_cons ie_int ia_nil)))) ie_int (nomark _))
    (iss_one (is_ret (ie_tup (ia_cons (ie_str (by decide +kernel)) (ia_cons (ie_call (L2.takes_of rfl rfl rfl rfl) F_law_pick rfl (hr.mono (by decide)) T.g__law_pick k_law_pick b_law_pick_3 v_law_pick_3 w_law_pick_3 (ia_cons (ie_var 0) (ia_cons (ie_bin or_addM oi_add (ie_var 1) ie_int) (ia_cons ie_int ia_nil)))) (ia_cons (ie_call (L2.takes_of rfl rfl rfl rfl) F_law_pick rfl (hr.mono (by decide)) T.g__law_pick k_law_pick b_law_pick_3 v_law_pick_3 w_law_pick_3 (ia_cons (ie_var 0) (ia_cons (ie_bin or_addM oi_add (ie_var 1) ie_int) (ia_cons ie_int ia_nil)))) ia_nil))))))
    iss_nil)
    (iss_one (is_ret (ie_tup (ia_cons (ie_str (by decide +kernel)) (ia_cons (ie_call (L2.takes_of rfl rfl rfl rfl) F_law_pick rfl (hr.mono (by decide)) T.g__law_pick k_law_pick b_law_pick_3 v_law_pick_3 w_law_pick_3 (ia_cons (ie_var 0) (ia_cons (ie_bin or_addM oi_add (ie_var 1) ie_int) (ia_cons ie_int ia_nil)))) (ia_cons (ie_call (L2.takes_of rfl rfl rfl rfl) F_law_pick rfl (hr.mono (by decide)) T.g__law_pick k_law_pick b_law_pick_3 v_law_pick_3 w_law_pick_3 (ia_cons (ie_var 0) (ia_cons (ie_bin or_addM oi_add (ie_var 1) ie_int) (ia_cons ie_int ia_nil)))) ia_nil)))))))
    iss_nil)
    (iss_cons (is_if (it_cmp (or_eqM hr.units) oi_eq (ie_call (L2.takes_of rfl rfl rfl rfl) F_law_pick rfl (hr.mono (by decide)) T.g__law_pick k_law_pick b_law_pick_3 v_law_pick_3 w_law_pick_3 (ia_cons (ie_var 0) (ia_cons (ie_var 1) (ia_cons ie_int ia_nil)))) ie_int (nomark _))
    (iss_one (is_ret (ie_tup (ia_cons (ie_str (by decide +kernel)) (ia_cons (ie_call (L2.takes_of rfl rfl rfl rfl) F_law_pick rfl (hr.mono (by decide)) T.g__law_pick k_law_pick b_law_pick_3 v_law_pick_3 w_law_pick_3 (ia_cons (ie_var 0) (ia_cons (ie_bin or_addM oi_add (ie_var 1) ie_int) (ia_cons ie_int ia_nil)))) ia_nil)))))
    iss_nil)
    (iss_one (is_ret (ie_tup (ia_cons (ie_str (by decide +kernel)) (ia_cons (ie_call (L2.takes_of rfl rfl rfl rfl) F_law_pick rfl (hr.mono (by decide)) T.g__law_pick k_law_pick b_law_pick_3 v_law_pick_3 w_law_pick_3 (ia_cons (ie_var 0) (ia_cons (ie_bin or_addM oi_add (ie_var 1) ie_int) (ia_cons ie_int ia_nil)))) ia_nil))))))))
  exact h
theorem ok_law_maker (T : Tx K mg) : ∃ fd, FI P w K mg base 2 (He.fAd K ("_law_maker", none)) fd ps_law_maker f_law_maker ∧ PySem.W.keepIn K (.ref (He.fAd K ("_law_maker", none))) = true ∧ (∃ ds, Vals (([] : List V).drop 0 : List V) ds ∧ Binds K fd ps_law_maker ds) := by
  obtain ⟨fd, F⟩ := T.d_law_maker
  exact ⟨fd, fi_law_maker T F, F.kp, ⟨[], .nil, F.bindsN fun _ _ _ _ _ _ us hl => match us, hl with | [_, _, _], _ => rfl⟩⟩
theorem fi_law_makers (T : Tx K mg) {fd : FuncData} (F : FunD K "_law_makers" "_law_makers" (defArgs st_law_makers) (defBody st_law_makers) (defScope st_law_makers) ([] : List V) ([] : List (Str × V)) (He.fAd K ("_law_makers", none)) fd) : FI P w K mg base 3 (He.fAd K ("_law_makers", none)) fd ps_law_makers f_law_makers := by
  obtain ⟨fd_law_pick, F_law_pick, k_law_pick, ⟨ds_law_pick_3, v_law_pick_3, b_law_pick_3⟩⟩ := ok_law_pick (P := P) (w := w) (base := base) T
  have w_law_pick_3 : GVals K (([] : List V).drop 0 : List V) [] := trivial
  obtain ⟨fd_law_maker, F_law_maker, k_law_maker, ⟨ds_law_maker_3, v_law_maker_3, b_law_maker_3⟩⟩ := ok_law_maker (P := P) (w := w) (base := base) T
  have w_law_maker_3 : GVals K (([] : List V).drop 0 : List V) [] := trivial
  have h := fi_of (P := P) (w := w) (mg := mg) (base := base) F sc_law_makers (m := m_law_makers) (k := 2) (fun cdv A outer s H E hr => by
    exact (iss_cons (is_set (i := 2) sc_law_makers.nd ie_dnew)
    (iss_cons (is_for (L2.passes_of rfl) rfl (ii_range1 T.b_range ie_int) (ig_name 3 sc_law_makers.nd)
    (iss_one (is_if (it_cmp (or_neM hr.units) oi_ne (ie_call (L2.takes_of rfl rfl rfl rfl) F_law_pick rfl (hr.mono (by decide)) T.g__law_pick k_law_pick b_law_pick_3 v_law_pick_3 w_law_pick_3 (ia_cons (ie_var 0) (ia_cons (ie_bin or_addM oi_add (ie_var 1) (ie_bin or_mulM oi_mul ie_int (ie_var 3))) (ia_cons ie_int ia_nil)))) ie_int (nomark _))
    (iss_one (is_dput hr.units (ie_var 2) (ie_var 3) (ie_call (L2.takes_of rfl rfl rfl rfl) F_law_maker rfl (hr.mono (by decide)) T.g__law_maker k_law_maker b_law_maker_3 v_law_maker_3 w_law_maker_3 (ia_cons (ie_var 0) (ia_cons (ie_bin or_addM oi_add (ie_bin or_addM oi_add (ie_var 1) ie_int) (ie_bin or_mulM oi_mul ie_int (ie_var 3))) (ia_cons (ie_var 3) ia_nil))))))
    iss_nil)))
    (iss_one (is_ret (ie_var 2))))))
  exact h
theorem ok_law_makers (T : Tx K mg) : ∃ fd, FI P w K mg base 3 (He.fAd K ("_law_makers", none)) fd ps_law_makers f_law_makers ∧ PySem.W.keepIn K (.ref (He.fAd K ("_law_makers", none))) = true ∧ (∃ ds, Vals (([] : List V).drop 0 : List V) ds ∧ Binds K fd ps_law_makers ds) := by
  obtain ⟨fd, F⟩ := T.d_law_makers
  exact ⟨fd, fi_law_makers T F, F.kp, ⟨[], .nil, F.bindsN fun _ _ _ _ _ _ us hl => match us, hl with | [_, _], _ => rfl⟩⟩
theorem fi_sources (T : Tx K mg) {fd : FuncData} (F : FunD K "sources" "sources" (defArgs st_sources) (defBody st_sources) (defScope st_sources) ([] : List V) ([] : List (Str × V)) (He.fAd K ("sources", none)) fd) : FI P w K mg base 1 (He.fAd K ("sources", none)) fd ps_sources f_sources := by
  have h := fi_ofC (P := P) (w := w) (mg := mg) (base := base) F sc_sources (m := m_sources) (k := 0) (fun cdv A outer s H E hcd hr => by
    exact (iss_one (is_matchT rfl sc_sources.nd (ie_var 0) (.case (.c (by decide +kernel) (.v (i := 1) rfl (by first | exact Or.inl rfl | exact Or.inr rfl) (by first | exact .inl rfl | exact .inr rfl) .nil)) rfl rfl (iss_one (is_ret (ie_tup (ia_cons (ie_var 1) ia_nil)))) (.case (.c (by decide +kernel) (.v (i := 2) rfl (by first | exact Or.inl rfl | exact Or.inr rfl) (by first | exact .inl rfl | exact .inr rfl) (.v (i := 3) rfl (by first | exact Or.inl rfl | exact Or.inr rfl) (by first | exact .inl rfl | exact .inr rfl) .nil))) rfl rfl (iss_one (is_ret (ie_BT call_tuple_of ci_tuple T.b_tuple (by decide +kernel) (ia_cons (ie_sset2 (i := 2) (j := 3) rfl hcd T.b_sorted) ia_nil)))) (.dflt (iss_one (is_ret (ie_tup ia_nil)))))))))
  exact h
theorem ok_sources (T : Tx K mg) : ∃ fd, FI P w K mg base 1 (He.fAd K ("sources", none)) fd ps_sources f_sources ∧ PySem.W.keepIn K (.ref (He.fAd K ("sources", none))) = true ∧ (∃ ds, Vals (([] : List V).drop 0 : List V) ds ∧ Binds K fd ps_sources ds) := by
  obtain ⟨fd, F⟩ := T.d_sources
  exact ⟨fd, fi_sources T F, F.kp, ⟨[], .nil, F.bindsN fun _ _ _ _ _ _ us hl => match us, hl with | [_], _ => rfl⟩⟩
theorem fi_law_sources (T : Tx K mg) {fd : FuncData} (F : FunD K "_law_sources" "_law_sources" (defArgs st_law_sources) (defBody st_law_sources) (defScope st_law_sources) ([] : List V) ([] : List (Str × V)) (He.fAd K ("_law_sources", none)) fd) : FI P w K mg base 1 (He.fAd K ("_law_sources", none)) fd ps_law_sources f_law_sources := by
  have h := fi_of (P := P) (w := w) (mg := mg) (base := base) F sc_law_sources (m := m_law_sources) (k := 0) (fun cdv A outer s H E hr => by
    exact (iss_cons (is_if (it_cmp (or_eqM hr.units) oi_eq (ie_ix (ie_var 0) ie_int) (ie_str (by decide +kernel)) (nomark _))
    (iss_one (is_ret (ie_lst (ia_cons (ie_ix (ie_var 0) ie_int) ia_nil))))
    iss_nil)
    (iss_cons (is_if (it_cmp (or_eqM hr.units) oi_eq (ie_ix (ie_var 0) ie_int) (ie_str (by decide +kernel)) (nomark _))
    (iss_cons (is_if (it_cmp (or_eqM hr.units) oi_eq (ie_ix (ie_var 0) ie_int) (ie_ix (ie_var 0) ie_int) (nomark _))
    (iss_one (is_ret (ie_lst (ia_cons (ie_ix (ie_var 0) ie_int) ia_nil))))
    iss_nil)
    (iss_one (is_ret (ie_lst (ia_cons (ie_B (call_min2 rfl) ci_min2 T.b_min (by decide +kernel) (ia_cons (ie_ix (ie_var 0) ie_int) (ia_cons (ie_ix (ie_var 0) ie_int) ia_nil))) (ia_cons (ie_B (call_max2 rfl) ci_max2 T.b_max (by decide +kernel) (ia_cons (ie_ix (ie_var 0) ie_int) (ia_cons (ie_ix (ie_var 0) ie_int) ia_nil))) ia_nil))))))
    iss_nil)
    (iss_one (is_ret (ie_lst ia_nil))))))
  exact h
theorem ok_law_sources (T : Tx K mg) : ∃ fd, FI P w K mg base 1 (He.fAd K ("_law_sources", none)) fd ps_law_sources f_law_sources ∧ PySem.W.keepIn K (.ref (He.fAd K ("_law_sources", none))) = true ∧ (∃ ds, Vals (([] : List V).drop 0 : List V) ds ∧ Binds K fd ps_law_sources ds) := by
  obtain ⟨fd, F⟩ := T.d_law_sources
  exact ⟨fd, fi_law_sources T F, F.kp, ⟨[], .nil, F.bindsN fun _ _ _ _ _ _ us hl => match us, hl with | [_], _ => rfl⟩⟩
theorem fi_law_whole (T : Tx K mg) {fd : FuncData} (F : FunD K "_law_whole" "_law_whole" (defArgs st_law_whole) (defBody st_law_whole) (defScope st_law_whole) ([] : List V) ([] : List (Str × V)) (He.fAd K ("_law_whole", none)) fd) : FI P w K mg base 1 (He.fAd K ("_law_whole", none)) fd ps_law_whole f_law_whole := by
  have h := fi_of (P := P) (w := w) (mg := mg) (base := base) F sc_law_whole (m := m_law_whole) (k := 0) (fun cdv A outer s H E hr => by
    exact (iss_one (is_ret (ie_and (ie_B call_isi ci_isi T.b_isinstance (by decide +kernel) (ia_cons (ie_var 0) (ia_cons (ie_ty (t := .int) T.b_int (by decide +kernel)) ia_nil))) (ie_one (ie_not (ie_B call_isi ci_isi T.b_isinstance (by decide +kernel) (ia_cons (ie_var 0) (ia_cons (ie_ty (t := .bool) T.b_bool (by decide +kernel)) ia_nil)))))))))
  exact h
theorem ok_law_whole (T : Tx K mg) : ∃ fd, FI P w K mg base 1 (He.fAd K ("_law_whole", none)) fd ps_law_whole f_law_whole ∧ PySem.W.keepIn K (.ref (He.fAd K ("_law_whole", none))) = true ∧ (∃ ds, Vals (([] : List V).drop 0 : List V) ds ∧ Binds K fd ps_law_whole ds) := by
  obtain ⟨fd, F⟩ := T.d_law_whole
  exact ⟨fd, fi_law_whole T F, F.kp, ⟨[], .nil, F.bindsN fun _ _ _ _ _ _ us hl => match us, hl with | [_], _ => rfl⟩⟩
theorem fi_law_sources_told (T : Tx K mg) {fd : FuncData} (F : FunD K "_law_sources_told" "_law_sources_told" (defArgs st_law_sources_told) (defBody st_law_sources_told) (defScope st_law_sources_told) ([] : List V) ([] : List (Str × V)) (He.fAd K ("_law_sources_told", none)) fd) : FI P w K mg base 2 (He.fAd K ("_law_sources_told", none)) fd ps_law_sources_told f_law_sources_told := by
  obtain ⟨fd_sources, F_sources, k_sources, ⟨ds_sources_1, v_sources_1, b_sources_1⟩⟩ := ok_sources (P := P) (w := w) (base := base) T
  have w_sources_1 : GVals K (([] : List V).drop 0 : List V) [] := trivial
  obtain ⟨fd_law_sources, F_law_sources, k_law_sources, ⟨ds_law_sources_1, v_law_sources_1, b_law_sources_1⟩⟩ := ok_law_sources (P := P) (w := w) (base := base) T
  have w_law_sources_1 : GVals K (([] : List V).drop 0 : List V) [] := trivial
  obtain ⟨fd_law_whole, F_law_whole, k_law_whole, ⟨ds_law_whole_1, v_law_whole_1, b_law_whole_1⟩⟩ := ok_law_whole (P := P) (w := w) (base := base) T
  have w_law_whole_1 : GVals K (([] : List V).drop 0 : List V) [] := trivial
  have h := fi_of (P := P) (w := w) (mg := mg) (base := base) F sc_law_sources_told (m := m_law_sources_told) (k := 1) (fun cdv A outer s H E hr => by
    exact (iss_cons (is_for (L2.passes_of rfl) rfl (ii_range1 T.b_range ie_int) (ig_name 1 sc_law_sources_told.nd)
    (iss_one (is_if (it_din hr.units (ie_var 1) (ie_var 0))
    (iss_cons (is_set (i := 2) sc_law_sources_told.nd (ie_call (L2.takes_of rfl rfl rfl rfl) F_sources rfl (hr.mono (by decide)) T.g_sources k_sources b_sources_1 v_sources_1 w_sources_1 (ia_cons (ie_dget hr.units (ie_var 0) (ie_var 1)) ia_nil)))
    (iss_cons (is_if (it_w (iw_or (it_not (it_val (ie_B call_isi ci_isi T.b_isinstance (by decide +kernel) (ia_cons (ie_var 2) (ia_cons (ie_ty (t := .tuple) T.b_tuple (by decide +kernel)) ia_nil))))) (iw_or1 (it_cmp (or_neM hr.units) oi_ne (ie_BT call_list_of ci_list T.b_list (by decide +kernel) (ia_cons (ie_var 2) ia_nil)) (ie_call (L2.takes_of rfl rfl rfl rfl) F_law_sources rfl (hr.mono (by decide)) T.g__law_sources k_law_sources b_law_sources_1 v_law_sources_1 w_law_sources_1 (ia_cons (ie_dget hr.units (ie_var 0) (ie_var 1)) ia_nil)) (nomark _)))))
    (iss_one (is_ret ie_bl))
    iss_nil)
    (iss_one (is_for (L2.passes_of rfl) rfl (ii_seq (ie_var 2)) (ig_name 3 sc_law_sources_told.nd)
    (iss_one (is_if (it_not (it_val (ie_call (L2.takes_of rfl rfl rfl rfl) F_law_whole rfl (hr.mono (by decide)) T.g__law_whole k_law_whole b_law_whole_1 v_law_whole_1 w_law_whole_1 (ia_cons (ie_var 3) ia_nil))))
    (iss_one (is_ret ie_bl))
    iss_nil))))))
    iss_nil)))
    (iss_one (is_ret ie_bl))))
  exact h
theorem ok_law_sources_told (T : Tx K mg) : ∃ fd, FI P w K mg base 2 (He.fAd K ("_law_sources_told", none)) fd ps_law_sources_told f_law_sources_told ∧ PySem.W.keepIn K (.ref (He.fAd K ("_law_sources_told", none))) = true ∧ (∃ ds, Vals (([] : List V).drop 0 : List V) ds ∧ Binds K fd ps_law_sources_told ds) := by
  obtain ⟨fd, F⟩ := T.d_law_sources_told
  exact ⟨fd, fi_law_sources_told T F, F.kp, ⟨[], .nil, F.bindsN fun _ _ _ _ _ _ us hl => match us, hl with | [_], _ => rfl⟩⟩
theorem fi_law_walked (T : Tx K mg) {fd : FuncData} (F : FunD K "_law_walked" "_law_walked" (defArgs st_law_walked) (defBody st_law_walked) (defScope st_law_walked) ([] : List V) ([] : List (Str × V)) (He.fAd K ("_law_walked", none)) fd) : FI P w K mg base 1 (He.fAd K ("_law_walked", none)) fd ps_law_walked f_law_walked := by
  have h := fi_of (P := P) (w := w) (mg := mg) (base := base) F sc_law_walked (m := m_law_walked) (k := 0) (fun cdv A outer s H E hr => by
    exact (iss_cons (is_set (i := 3) sc_law_walked.nd (ie_BT call_list_of ci_list T.b_list (by decide +kernel) (ia_cons (ie_var 0) ia_nil)))
    (iss_cons (is_set (i := 4) sc_law_walked.nd (ie_var 1))
    (iss_cons (is_for (L2.passes_of rfl) rfl (ii_range1 T.b_range ie_int) (ig_name 5 sc_law_walked.nd)
    (iss_one (is_if (it_din hr.units (ie_var 5) (ie_var 2))
    (iss_cons (is_set (i := 6) sc_law_walked.nd (ie_dget hr.units (ie_var 2) (ie_var 5)))
    (iss_one (is_if (it_cmp (or_eqM hr.units) oi_eq (ie_ix (ie_var 6) ie_int) (ie_str (by decide +kernel)) (nomark _))
    (iss_one (is_sub (ie_var 3) (ie_var 5) (ie_ix (ie_var 6) ie_int)))
    (iss_one (is_if (it_cmp (or_eqM hr.units) oi_eq (ie_ix (ie_var 6) ie_int) (ie_str (by decide +kernel)) (nomark _))
    (iss_one (is_sub (ie_var 3) (ie_var 5) (ie_ix (ie_var 3) (ie_ix (ie_var 6) ie_int))))
    (iss_one (is_if (it_cmp (or_eqM hr.units) oi_eq (ie_ix (ie_var 6) ie_int) (ie_str (by decide +kernel)) (nomark _))
    (iss_one (is_set (i := 4) sc_law_walked.nd (ie_tup (ia_cons (ie_BT call_int1 ci_int T.b_int (by decide +kernel) (ia_cons (ie_cmp (or_eqM hr.units) oi_eq (ie_ix (ie_var 3) (ie_ix (ie_var 6) ie_int)) (ie_ix (ie_var 3) (ie_ix (ie_var 6) ie_int)) (nomark _)) ia_nil)) (ia_cons (ie_BT call_int1 ci_int T.b_int (by decide +kernel) (ia_cons (ie_cmp op_lt oi_lt (ie_ix (ie_var 3) (ie_ix (ie_var 6) ie_int)) (ie_ix (ie_var 3) (ie_ix (ie_var 6) ie_int)) (nomark _)) ia_nil)) ia_nil)))))
    (iss_one (is_set (i := 4) sc_law_walked.nd (ie_tup (ia_cons (ie_ix (ie_var 6) ie_int) (ia_cons (ie_ix (ie_var 6) ie_int) ia_nil))))))))))))
    iss_nil)))
    (iss_one (is_ret (ie_tup (ia_cons (ie_BT call_tuple_of ci_tuple T.b_tuple (by decide +kernel) (ia_cons (ie_var 3) ia_nil)) (ia_cons (ie_var 4) ia_nil)))))))))
  exact h
theorem ok_law_walked (T : Tx K mg) : ∃ fd, FI P w K mg base 1 (He.fAd K ("_law_walked", none)) fd ps_law_walked f_law_walked ∧ PySem.W.keepIn K (.ref (He.fAd K ("_law_walked", none))) = true ∧ (∃ ds, Vals (([] : List V).drop 0 : List V) ds ∧ Binds K fd ps_law_walked ds) := by
  obtain ⟨fd, F⟩ := T.d_law_walked
  exact ⟨fd, fi_law_walked T F, F.kp, ⟨[], .nil, F.bindsN fun _ _ _ _ _ _ us hl => match us, hl with | [_, _, _], _ => rfl⟩⟩
theorem fi_Processor_init (T : Tx K mg) {fd : FuncData} (F : FunD K "__init__" "Processor.__init__" (defArgs st_Processor_init) (defBody st_Processor_init) (defScope st_Processor_init) ([] : List V) ([] : List (Str × V)) (He.fAd K ("Processor", some "__init__")) fd) : FI P w K mg base 1 (He.fAd K ("Processor", some "__init__")) fd ps_Processor_init f_Processor_init := by
  have h := fi_of (P := P) (w := w) (mg := mg) (base := base) F sc_Processor_init (m := m_Processor_init) (k := 0) (fun cdv A outer s H E hr => by
    exact (iss_cons (is_fld T.att (ie_var 0) ie_int (by decide +kernel))
    (iss_cons (is_if (it_cmp or_isNM oi_isN (ie_var 1) ie_non (nomark _))
    (iss_one (is_fld T.att (ie_var 0) (ie_var 1) (by decide +kernel)))
    iss_nil)
    (iss_cons (is_fld T.att (ie_var 0) (ie_bin or_mulM oi_mul (ie_lst (ia_cons ie_int ia_nil)) (ie_con T.c_REGISTERS)) (by decide +kernel))
    (iss_cons (is_fld T.att (ie_var 0) ie_int (by decide +kernel))
    (iss_cons (is_fld T.att (ie_var 0) ie_int (by decide +kernel))
    (iss_cons (is_fld T.att (ie_var 0) ie_int (by decide +kernel))
    (iss_cons (is_fld T.att (ie_var 0) ie_bl (by decide +kernel))
    (iss_cons (is_fld T.att (ie_var 0) ie_bl (by decide +kernel))
    (iss_cons (is_fld T.att (ie_var 0) (ie_tup (ia_cons ie_int (ia_cons ie_int (ia_cons ie_bl ia_nil)))) (by decide +kernel))
    (iss_one (is_fld T.att (ie_var 0) (ie_cmp or_isM oi_is (ie_var 1) ie_non (nomark _)) (by decide +kernel)))))))))))))
  exact h
theorem ok_Processor_init (T : Tx K mg) : ∃ fd, FI P w K mg base 1 (He.fAd K ("Processor", some "__init__")) fd ps_Processor_init f_Processor_init ∧ PySem.W.keepIn K (.ref (He.fAd K ("Processor", some "__init__"))) = true ∧ (∃ ds, Vals (([] : List V).drop 0 : List V) ds ∧ Binds K fd ps_Processor_init ds) := by
  obtain ⟨fd, F⟩ := T.d_Processor_init
  exact ⟨fd, fi_Processor_init T F, F.kp, ⟨[], .nil, F.bindsN fun _ _ _ _ _ _ us hl => match us, hl with | [_, _], _ => rfl⟩⟩
theorem fi_law_start (T : Tx K mg) {fd : FuncData} (F : FunD K "_law_start" "_law_start" (defArgs st_law_start) (defBody st_law_start) (defScope st_law_start) ([] : List V) ([] : List (Str × V)) (He.fAd K ("_law_start", none)) fd) : FI P w K mg base 2 (He.fAd K ("_law_start", none)) fd ps_law_start f_law_start := by
  obtain ⟨fd_law_pick, F_law_pick, k_law_pick, ⟨ds_law_pick_3, v_law_pick_3, b_law_pick_3⟩⟩ := ok_law_pick (P := P) (w := w) (base := base) T
  have w_law_pick_3 : GVals K (([] : List V).drop 0 : List V) [] := trivial
  have h := fi_of (P := P) (w := w) (mg := mg) (base := base) F sc_law_start (m := m_law_start) (k := 1) (fun cdv A outer s H E hr => by
    exact (iss_cons (is_if (it_cmp (or_eqM hr.units) oi_eq (ie_call (L2.takes_of rfl rfl rfl rfl) F_law_pick rfl (hr.mono (by decide)) T.g__law_pick k_law_pick b_law_pick_3 v_law_pick_3 w_law_pick_3 (ia_cons (ie_var 0) (ia_cons ie_int (ia_cons ie_int ia_nil)))) ie_int (nomark _))
    (iss_one (is_ret ie_non))
    iss_nil)
    (iss_one (is_ret (ie_call (L2.takes_of rfl rfl rfl rfl) F_law_pick rfl (hr.mono (by decide)) T.g__law_pick k_law_pick b_law_pick_3 v_law_pick_3 w_law_pick_3 (ia_cons (ie_var 0) (ia_cons ie_int (ia_cons ie_int ia_nil))))))))
  exact h
theorem ok_law_start (T : Tx K mg) : ∃ fd, FI P w K mg base 2 (He.fAd K ("_law_start", none)) fd ps_law_start f_law_start ∧ PySem.W.keepIn K (.ref (He.fAd K ("_law_start", none))) = true ∧ (∃ ds, Vals (([] : List V).drop 0 : List V) ds ∧ Binds K fd ps_law_start ds) := by
  obtain ⟨fd, F⟩ := T.d_law_start
  exact ⟨fd, fi_law_start T F, F.kp, ⟨[], .nil, F.bindsN fun _ _ _ _ _ _ us hl => match us, hl with | [_], _ => rfl⟩⟩
theorem fi_flush_one (T : Tx K mg) {fd : FuncData} (F : FunD K "flush_one" "flush_one" (defArgs st_flush_one) (defBody st_flush_one) (defScope st_flush_one) ([] : List V) ([] : List (Str × V)) (He.fAd K ("flush_one", none)) fd) : FI P w K mg base 1 (He.fAd K ("flush_one", none)) fd ps_flush_one f_flush_one := by
  have h := fi_of (P := P) (w := w) (mg := mg) (base := base) F sc_flush_one (m := m_flush_one) (k := 0) (fun cdv A outer s H E hr => by
    exact (iss_one (is_matchT rfl sc_flush_one.nd (ie_var 2) (.case (.c (by decide +kernel) (.v (i := 3) rfl (by first | exact Or.inl rfl | exact Or.inr rfl) (by first | exact .inl rfl | exact .inr rfl) .nil)) rfl rfl (iss_one (is_sub (ie_fld T.att (ie_var 0) (by decide +kernel)) (ie_var 1) (ie_var 3))) (.case (.c (by decide +kernel) (.v (i := 4) rfl (by first | exact Or.inl rfl | exact Or.inr rfl) (by first | exact .inl rfl | exact .inr rfl) .nil)) rfl rfl (iss_one (is_sub (ie_fld T.att (ie_var 0) (by decide +kernel)) (ie_var 1) (ie_ix (ie_fld T.att (ie_var 0) (by decide +kernel)) (ie_var 4)))) (.case (.c (by decide +kernel) (.v (i := 5) rfl (by first | exact Or.inl rfl | exact Or.inr rfl) (by first | exact .inl rfl | exact .inr rfl) (.v (i := 6) rfl (by first | exact Or.inl rfl | exact Or.inr rfl) (by first | exact .inl rfl | exact .inr rfl) .nil))) rfl rfl (iss_cons (is_par (i := 7) (j := 8) rfl sc_flush_one.nd (ia_cons (ie_ix (ie_fld T.att (ie_var 0) (by decide +kernel)) (ie_var 5)) (ia_cons (ie_ix (ie_fld T.att (ie_var 0) (by decide +kernel)) (ie_var 6)) ia_nil)))
    (iss_one (is_asgF rfl (igf_cons T.att (ie_var 0) (igf_cons T.att (ie_var 0) igf_nil (by decide +kernel)) (by decide +kernel)) (ie_tup (ia_cons (ie_BT call_int1 ci_int T.b_int (by decide +kernel) (ia_cons (ie_cmp (or_eqM hr.units) oi_eq (ie_var 7) (ie_var 8) (nomark _)) ia_nil)) (ia_cons (ie_BT call_int1 ci_int T.b_int (by decide +kernel) (ia_cons (ie_cmp op_lt oi_lt (ie_var 7) (ie_var 8) (nomark _)) ia_nil)) ia_nil)))))) (.case (.c (by decide +kernel) (.v (i := 9) rfl (by first | exact Or.inl rfl | exact Or.inr rfl) (by first | exact .inl rfl | exact .inr rfl) (.v (i := 10) rfl (by first | exact Or.inl rfl | exact Or.inr rfl) (by first | exact .inl rfl | exact .inr rfl) .nil))) rfl rfl (iss_one (is_asgF rfl (igf_cons T.att (ie_var 0) (igf_cons T.att (ie_var 0) igf_nil (by decide +kernel)) (by decide +kernel)) (ie_tup (ia_cons (ie_var 9) (ia_cons (ie_var 10) ia_nil))))) .nil)))))))
  exact h
theorem ok_flush_one (T : Tx K mg) : ∃ fd, FI P w K mg base 1 (He.fAd K ("flush_one", none)) fd ps_flush_one f_flush_one ∧ PySem.W.keepIn K (.ref (He.fAd K ("flush_one", none))) = true ∧ (∃ ds, Vals (([] : List V).drop 0 : List V) ds ∧ Binds K fd ps_flush_one ds) := by
  obtain ⟨fd, F⟩ := T.d_flush_one
  exact ⟨fd, fi_flush_one T F, F.kp, ⟨[], .nil, F.bindsN fun _ _ _ _ _ _ us hl => match us, hl with | [_, _, _], _ => rfl⟩⟩
theorem fi_flush (T : Tx K mg) {fd : FuncData} (F : FunD K "flush" "flush" (defArgs st_flush) (defBody st_flush) (defScope st_flush) ([] : List V) ([] : List (Str × V)) (He.fAd K ("flush", none)) fd) : FI P w K mg base 2 (He.fAd K ("flush", none)) fd ps_flush f_flush := by
  obtain ⟨fd_flush_one, F_flush_one, k_flush_one, ⟨ds_flush_one_3, v_flush_one_3, b_flush_one_3⟩⟩ := ok_flush_one (P := P) (w := w) (base := base) T
  have w_flush_one_3 : GVals K (([] : List V).drop 0 : List V) [] := trivial
  have h := fi_of (P := P) (w := w) (mg := mg) (base := base) F sc_flush (m := m_flush) (k := 1) (fun cdv A outer s H E hr => by
    exact (iss_cons (is_set (i := 2) sc_flush.nd (ie_BT (callDictP rfl) ci_dictP T.b_dict (by decide +kernel) (ia_cons (ie_var 1) ia_nil)))
    (iss_one (is_for (L2.passes_of rfl) rfl (ii_seq (ie_B (cr_sortedD hr.units) ci_srtD T.b_sorted (by decide +kernel) (ia_cons (ie_BT (callListD rfl) ci_listD T.b_list (by decide +kernel) (ia_cons (ie_var 2) ia_nil)) ia_nil))) (ig_name 3 sc_flush.nd)
    (iss_one (is_expr (ie_call (L2.takes_of rfl rfl rfl rfl) F_flush_one rfl (hr.mono (by decide)) T.g_flush_one k_flush_one b_flush_one_3 v_flush_one_3 w_flush_one_3 (ia_cons (ie_var 0) (ia_cons (ie_var 3) (ia_cons (ie_dget hr.units (ie_var 2) (ie_var 3)) ia_nil))))))))))
  exact h
theorem ok_flush (T : Tx K mg) : ∃ fd, FI P w K mg base 2 (He.fAd K ("flush", none)) fd ps_flush f_flush ∧ PySem.W.keepIn K (.ref (He.fAd K ("flush", none))) = true ∧ (∃ ds, Vals (([] : List V).drop 0 : List V) ds ∧ Binds K fd ps_flush ds) := by
  obtain ⟨fd, F⟩ := T.d_flush
  exact ⟨fd, fi_flush T F, F.kp, ⟨[], .nil, F.bindsN fun _ _ _ _ _ _ us hl => match us, hl with | [_, _], _ => rfl⟩⟩
theorem fi_law_processor (T : Tx K mg) {fd : FuncData} (F : FunD K "_law_processor" "_law_processor" (defArgs st_law_processor) (defBody st_law_processor) (defScope st_law_processor) ([] : List V) ([] : List (Str × V)) (He.fAd K ("_law_processor", none)) fd) : FI P w K mg base 3 (He.fAd K ("_law_processor", none)) fd ps_law_processor f_law_processor := by
  obtain ⟨fd_Processor_init, F_Processor_init, k_Processor_init, ⟨ds_Processor_init_2, v_Processor_init_2, b_Processor_init_2⟩⟩ := ok_Processor_init (P := P) (w := w) (base := base) T
  have w_Processor_init_2 : GVals K (([] : List V).drop 0 : List V) [] := trivial
  obtain ⟨fd_law_start, F_law_start, k_law_start, ⟨ds_law_start_1, v_law_start_1, b_law_start_1⟩⟩ := ok_law_start (P := P) (w := w) (base := base) T
  have w_law_start_1 : GVals K (([] : List V).drop 0 : List V) [] := trivial
  obtain ⟨fd_flush, F_flush, k_flush, ⟨ds_flush_2, v_flush_2, b_flush_2⟩⟩ := ok_flush (P := P) (w := w) (base := base) T
  have w_flush_2 : GVals K (([] : List V).drop 0 : List V) [] := trivial
  have h := fi_of (P := P) (w := w) (mg := mg) (base := base) F sc_law_processor (m := m_law_processor) (k := 2) (fun cdv A outer s H E hr => by
    exact (iss_cons (is_set (i := 3) sc_law_processor.nd (ie_make (L2.takes_of rfl rfl rfl rfl) T.mk_Processor (congrArg (He.ga K) e_Processor.symm) F_Processor_init rfl (hr.mono (by decide)) T.g_Processor b_Processor_init_2 v_Processor_init_2 w_Processor_init_2 (ia_cons (ie_call (L2.takes_of rfl rfl rfl rfl) F_law_start rfl (hr.mono (by decide)) T.g__law_start k_law_start b_law_start_1 v_law_start_1 w_law_start_1 (ia_cons (ie_var 0) ia_nil)) ia_nil)))
    (iss_cons (is_for (L2.passes_of rfl) rfl (ii_range1 T.b_range ie_int) (ig_name 4 sc_law_processor.nd)
    (iss_one (is_sub (ie_fld T.att (ie_var 3) (by decide +kernel)) (ie_var 4) (ie_ix (ie_var 1) (ie_var 4)))))
    (iss_cons (is_expr (ie_call (L2.takes_of rfl rfl rfl rfl) F_flush rfl (hr.mono (by decide)) T.g_flush k_flush b_flush_2 v_flush_2 w_flush_2 (ia_cons (ie_var 3) (ia_cons (ie_lst (ia_cons (ie_tup (ia_cons ie_int (ia_cons (ie_tup (ia_cons (ie_str (by decide +kernel)) (ia_cons (ie_ix (ie_var 2) ie_int) (ia_cons (ie_ix (ie_var 2) ie_int) ia_nil)))) ia_nil))) ia_nil)) ia_nil))))
    (iss_one (is_ret (ie_var 3)))))))
  exact h
theorem ok_law_processor (T : Tx K mg) : ∃ fd, FI P w K mg base 3 (He.fAd K ("_law_processor", none)) fd ps_law_processor f_law_processor ∧ PySem.W.keepIn K (.ref (He.fAd K ("_law_processor", none))) = true ∧ (∃ ds, Vals (([] : List V).drop 0 : List V) ds ∧ Binds K fd ps_law_processor ds) := by
  obtain ⟨fd, F⟩ := T.d_law_processor
  exact ⟨fd, fi_law_processor T F, F.kp, ⟨[], .nil, F.bindsN fun _ _ _ _ _ _ us hl => match us, hl with | [_, _, _], _ => rfl⟩⟩
theorem fi_Processor_copy (T : Tx K mg) {fd : FuncData} (F : FunD K "copy" "Processor.copy" (defArgs st_Processor_copy) (defBody st_Processor_copy) (defScope st_Processor_copy) ([] : List V) ([] : List (Str × V)) (He.fAd K ("Processor", some "copy")) fd) : FI P w K mg base 3 (He.fAd K ("Processor", some "copy")) fd ps_Processor_copy f_Processor_copy := by
  obtain ⟨fd_Processor_init, F_Processor_init, k_Processor_init, ⟨ds_Processor_init_2, v_Processor_init_2, b_Processor_init_2⟩⟩ := ok_Processor_init (P := P) (w := w) (base := base) T
  have w_Processor_init_2 : GVals K (([] : List V).drop 0 : List V) [] := trivial
  have h := fi_of (P := P) (w := w) (mg := mg) (base := base) F sc_Processor_copy (m := m_Processor_copy) (k := 2) (fun cdv A outer s H E hr => by
    exact (iss_cons (is_set (i := 1) sc_Processor_copy.nd (ie_make (L2.takes_of rfl rfl rfl rfl) T.mk_Processor (congrArg (He.ga K) e_Processor.symm) F_Processor_init rfl (hr.mono (by decide)) T.g_Processor b_Processor_init_2 v_Processor_init_2 w_Processor_init_2 (ia_cons (ie_fld T.att (ie_var 0) (by decide +kernel)) ia_nil)))
    (iss_cons (is_fld T.att (ie_var 1) (ie_BT call_list_of ci_list T.b_list (by decide +kernel) (ia_cons (ie_fld T.att (ie_var 0) (by decide +kernel)) ia_nil)) (by decide +kernel))
    (iss_cons (is_fld T.att (ie_var 1) (ie_fld T.att (ie_var 0) (by decide +kernel)) (by decide +kernel))
    (iss_cons (is_fld T.att (ie_var 1) (ie_fld T.att (ie_var 0) (by decide +kernel)) (by decide +kernel))
    (iss_cons (is_fld T.att (ie_var 1) (ie_fld T.att (ie_var 0) (by decide +kernel)) (by decide +kernel))
    (iss_cons (is_fld T.att (ie_var 1) (ie_fld T.att (ie_var 0) (by decide +kernel)) (by decide +kernel))
    (iss_cons (is_fld T.att (ie_var 1) (ie_fld T.att (ie_var 0) (by decide +kernel)) (by decide +kernel))
    (iss_cons (is_fld T.att (ie_var 1) (ie_fld T.att (ie_var 0) (by decide +kernel)) (by decide +kernel))
    (iss_cons (is_fld T.att (ie_var 1) (ie_fld T.att (ie_var 0) (by decide +kernel)) (by decide +kernel))
    (iss_one (is_ret (ie_var 1)))))))))))))
  exact h
theorem ok_Processor_copy (T : Tx K mg) : ∃ fd, FI P w K mg base 3 (He.fAd K ("Processor", some "copy")) fd ps_Processor_copy f_Processor_copy ∧ PySem.W.keepIn K (.ref (He.fAd K ("Processor", some "copy"))) = true ∧ (∃ ds, Vals (([] : List V).drop 0 : List V) ds ∧ Binds K fd ps_Processor_copy ds) := by
  obtain ⟨fd, F⟩ := T.d_Processor_copy
  exact ⟨fd, fi_Processor_copy T F, F.kp, ⟨[], .nil, F.bindsN fun _ _ _ _ _ _ us hl => match us, hl with | [_], _ => rfl⟩⟩
theorem fi_flushed (T : Tx K mg) {fd : FuncData} (F : FunD K "flushed" "flushed" (defArgs st_flushed) (defBody st_flushed) (defScope st_flushed) ([] : List V) ([] : List (Str × V)) (He.fAd K ("flushed", none)) fd) : FI P w K mg base 4 (He.fAd K ("flushed", none)) fd ps_flushed f_flushed := by
  obtain ⟨fd_Processor_copy, F_Processor_copy, k_Processor_copy, ⟨ds_Processor_copy_1, v_Processor_copy_1, b_Processor_copy_1⟩⟩ := ok_Processor_copy (P := P) (w := w) (base := base) T
  have w_Processor_copy_1 : GVals K (([] : List V).drop 0 : List V) [] := trivial
  obtain ⟨fd_flush, F_flush, k_flush, ⟨ds_flush_2, v_flush_2, b_flush_2⟩⟩ := ok_flush (P := P) (w := w) (base := base) T
  have w_flush_2 : GVals K (([] : List V).drop 0 : List V) [] := trivial
  have h := fi_of (P := P) (w := w) (mg := mg) (base := base) F sc_flushed (m := m_flushed) (k := 3) (fun cdv A outer s H E hr => by
    exact (iss_cons (is_set (i := 2) sc_flushed.nd (ie_meth0 (L2.takes_of rfl rfl rfl rfl) (ie_var 0) (congrArg (He.ga K) e_Processor.symm) T.cl_Processor T.me_Processor_copy (by decide +kernel) F_Processor_copy rfl (hr.mono (by decide)) b_Processor_copy_1 v_Processor_copy_1 w_Processor_copy_1))
    (iss_cons (is_expr (ie_call (L2.takes_of rfl rfl rfl rfl) F_flush rfl (hr.mono (by decide)) T.g_flush k_flush b_flush_2 v_flush_2 w_flush_2 (ia_cons (ie_var 2) (ia_cons (ie_var 1) ia_nil))))
    (iss_one (is_ret (ie_var 2))))))
  exact h
theorem ok_flushed (T : Tx K mg) : ∃ fd, FI P w K mg base 4 (He.fAd K ("flushed", none)) fd ps_flushed f_flushed ∧ PySem.W.keepIn K (.ref (He.fAd K ("flushed", none))) = true ∧ (∃ ds, Vals (([] : List V).drop 0 : List V) ds ∧ Binds K fd ps_flushed ds) := by
  obtain ⟨fd, F⟩ := T.d_flushed
  exact ⟨fd, fi_flushed T F, F.kp, ⟨[], .nil, F.bindsN fun _ _ _ _ _ _ us hl => match us, hl with | [_, _], _ => rfl⟩⟩
theorem fi_Processor_key (T : Tx K mg) {fd : FuncData} (F : FunD K "key" "Processor.key" (defArgs st_Processor_key) (defBody st_Processor_key) (defScope st_Processor_key) ([] : List V) ([] : List (Str × V)) (He.fAd K ("Processor", some "key")) fd) : FI P w K mg base 1 (He.fAd K ("Processor", some "key")) fd ps_Processor_key f_Processor_key := by
  have h := fi_of (P := P) (w := w) (mg := mg) (base := base) F sc_Processor_key (m := m_Processor_key) (k := 0) (fun cdv A outer s H E hr => by
    exact (iss_cons (is_set (i := 1) sc_Processor_key.nd (ie_tup (ia_cons (ie_fld T.att (ie_var 0) (by decide +kernel)) (ia_cons (ie_fld T.att (ie_var 0) (by decide +kernel)) ia_nil))))
    (iss_one (is_ret (ie_tup (ia_cons (ie_fld T.att (ie_var 0) (by decide +kernel)) (ia_cons (ie_BT call_tuple_of ci_tuple T.b_tuple (by decide +kernel) (ia_cons (ie_fld T.att (ie_var 0) (by decide +kernel)) ia_nil)) (ia_cons (ie_var 1) (ia_cons (ie_fld T.att (ie_var 0) (by decide +kernel)) (ia_cons (ie_fld T.att (ie_var 0) (by decide +kernel)) (ia_cons (ie_fld T.att (ie_var 0) (by decide +kernel)) (ia_cons (ie_fld T.att (ie_var 0) (by decide +kernel)) (ia_cons (ie_fld T.att (ie_var 0) (by decide +kernel)) ia_nil)))))))))))))
  exact h
theorem ok_Processor_key (T : Tx K mg) : ∃ fd, FI P w K mg base 1 (He.fAd K ("Processor", some "key")) fd ps_Processor_key f_Processor_key ∧ PySem.W.keepIn K (.ref (He.fAd K ("Processor", some "key"))) = true ∧ (∃ ds, Vals (([] : List V).drop 0 : List V) ds ∧ Binds K fd ps_Processor_key ds) := by
  obtain ⟨fd, F⟩ := T.d_Processor_key
  exact ⟨fd, fi_Processor_key T F, F.kp, ⟨[], .nil, F.bindsN fun _ _ _ _ _ _ us hl => match us, hl with | [_], _ => rfl⟩⟩
theorem fi_law_stands (T : Tx K mg) {fd : FuncData} (F : FunD K "_law_stands" "_law_stands" (defArgs st_law_stands) (defBody st_law_stands) (defScope st_law_stands) ([] : List V) ([] : List (Str × V)) (He.fAd K ("_law_stands", none)) fd) : FI P w K mg base 3 (He.fAd K ("_law_stands", none)) fd ps_law_stands f_law_stands := by
  obtain ⟨fd_law_start, F_law_start, k_law_start, ⟨ds_law_start_1, v_law_start_1, b_law_start_1⟩⟩ := ok_law_start (P := P) (w := w) (base := base) T
  have w_law_start_1 : GVals K (([] : List V).drop 0 : List V) [] := trivial
  obtain ⟨fd_Processor_key, F_Processor_key, k_Processor_key, ⟨ds_Processor_key_1, v_Processor_key_1, b_Processor_key_1⟩⟩ := ok_Processor_key (P := P) (w := w) (base := base) T
  have w_Processor_key_1 : GVals K (([] : List V).drop 0 : List V) [] := trivial
  obtain ⟨fd_law_whole, F_law_whole, k_law_whole, ⟨ds_law_whole_1, v_law_whole_1, b_law_whole_1⟩⟩ := ok_law_whole (P := P) (w := w) (base := base) T
  have w_law_whole_1 : GVals K (([] : List V).drop 0 : List V) [] := trivial
  have h := fi_of (P := P) (w := w) (mg := mg) (base := base) F sc_law_stands (m := m_law_stands) (k := 2) (fun cdv A outer s H E hr => by
    exact (iss_cons (is_set (i := 3) sc_law_stands.nd (ie_call (L2.takes_of rfl rfl rfl rfl) F_law_start rfl (hr.mono (by decide)) T.g__law_start k_law_start b_law_start_1 v_law_start_1 w_law_start_1 (ia_cons (ie_var 1) ia_nil)))
    (iss_cons (is_set (i := 4) sc_law_stands.nd ie_int)
    (iss_cons (is_if (it_cmp or_isNM oi_isN (ie_var 3) ie_non (nomark _))
    (iss_one (is_set (i := 4) sc_law_stands.nd (ie_var 3)))
    iss_nil)
    (iss_cons (is_if (it_cmp (or_neM hr.units) oi_ne (ie_meth0 (L2.takes_of rfl rfl rfl rfl) (ie_var 0) (congrArg (He.ga K) e_Processor.symm) T.cl_Processor T.me_Processor_key (by decide +kernel) F_Processor_key rfl (hr.mono (by decide)) b_Processor_key_1 v_Processor_key_1 w_Processor_key_1) (ie_tup (ia_cons (ie_var 4) (ia_cons (ie_ix (ie_var 2) ie_int) (ia_cons (ie_ix (ie_var 2) ie_int) (ia_cons ie_int (ia_cons ie_bl (ia_cons ie_bl (ia_cons (ie_tup (ia_cons ie_int (ia_cons ie_int (ia_cons ie_bl ia_nil)))) (ia_cons (ie_cmp or_isM oi_is (ie_var 3) ie_non (nomark _)) ia_nil))))))))) (nomark _))
    (iss_one (is_ret ie_bl))
    iss_nil)
    (iss_cons (is_for (L2.passes_of rfl) rfl (ii_seq (ie_bin or_addM oi_add (ie_BT call_list_of ci_list T.b_list (by decide +kernel) (ia_cons (ie_fld T.att (ie_var 0) (by decide +kernel)) ia_nil)) (ie_lst (ia_cons (ie_fld T.att (ie_var 0) (by decide +kernel)) (ia_cons (ie_fld T.att (ie_var 0) (by decide +kernel)) ia_nil))))) (ig_name 5 sc_law_stands.nd)
    (iss_one (is_if (it_not (it_val (ie_call (L2.takes_of rfl rfl rfl rfl) F_law_whole rfl (hr.mono (by decide)) T.g__law_whole k_law_whole b_law_whole_1 v_law_whole_1 w_law_whole_1 (ia_cons (ie_var 5) ia_nil))))
    (iss_one (is_ret ie_bl))
    iss_nil)))
    (iss_one (is_ret ie_bl))))))))
  exact h
theorem ok_law_stands (T : Tx K mg) : ∃ fd, FI P w K mg base 3 (He.fAd K ("_law_stands", none)) fd ps_law_stands f_law_stands ∧ PySem.W.keepIn K (.ref (He.fAd K ("_law_stands", none))) = true ∧ (∃ ds, Vals (([] : List V).drop 0 : List V) ds ∧ Binds K fd ps_law_stands ds) := by
  obtain ⟨fd, F⟩ := T.d_law_stands
  exact ⟨fd, fi_law_stands T F, F.kp, ⟨[], .nil, F.bindsN fun _ _ _ _ _ _ us hl => match us, hl with | [_, _, _], _ => rfl⟩⟩
theorem fi_law_pairs (T : Tx K mg) {fd : FuncData} (F : FunD K "_law_pairs" "_law_pairs" (defArgs st_law_pairs) (defBody st_law_pairs) (defScope st_law_pairs) ([] : List V) ([] : List (Str × V)) (He.fAd K ("_law_pairs", none)) fd) : FI P w K mg base 1 (He.fAd K ("_law_pairs", none)) fd ps_law_pairs f_law_pairs := by
  have h := fi_of (P := P) (w := w) (mg := mg) (base := base) F sc_law_pairs (m := m_law_pairs) (k := 0) (fun cdv A outer s H E hr => by
    exact (iss_cons (is_setLc [("_law_value", 3)] rfl (i := 2) rfl sc_law_pairs.nd rfl rfl (sw_true rfl rfl rfl (by decide +kernel)) (ii_range1 T.b_range ie_int) (blkOk_by (own := [("_law_value", 3)]) (N := N_law_pairs) (sc := defScope st_law_pairs) (by decide +kernel)) (by decide) (fun _ _ _ _ _ => (ig_name 3 sc_law_pairs.nd)) (fun _ _ _ _ _ => (its_one (it_din hr.units (ie_var 3) (ie_var 0)))) (fun _ _ _ _ _ => (ie_tup (ia_cons (ie_var 3) (ia_cons (ie_dget hr.units (ie_var 0) (ie_var 3)) ia_nil)))))
    (iss_cons (is_set (i := 4) sc_law_pairs.nd (ie_bin op_mod oi_mod (ie_BT call_int1 ci_int T.b_int (by decide +kernel) (ia_cons (ie_var 1) ia_nil)) (ie_bin or_addM oi_add (ie_B call_len ci_len T.b_len (by decide +kernel) (ia_cons (ie_var 2) ia_nil)) ie_int)))
    (iss_one (is_ret (ie_bin or_addM oi_add (ie_sl (ie_var 2) (io_some (ie_var 4)) io_none) (ie_sl (ie_var 2) io_none (io_some (ie_var 4)))))))))
  exact h
theorem ok_law_pairs (T : Tx K mg) : ∃ fd, FI P w K mg base 1 (He.fAd K ("_law_pairs", none)) fd ps_law_pairs f_law_pairs ∧ PySem.W.keepIn K (.ref (He.fAd K ("_law_pairs", none))) = true ∧ (∃ ds, Vals (([] : List V).drop 0 : List V) ds ∧ Binds K fd ps_law_pairs ds) := by
  obtain ⟨fd, F⟩ := T.d_law_pairs
  exact ⟨fd, fi_law_pairs T F, F.kp, ⟨[], .nil, F.bindsN fun _ _ _ _ _ _ us hl => match us, hl with | [_, _], _ => rfl⟩⟩
theorem fi_law_one_state (T : Tx K mg) {fd : FuncData} (F : FunD K "_law_one_state" "_law_one_state" (defArgs st_law_one_state) (defBody st_law_one_state) (defScope st_law_one_state) ([] : List V) ([] : List (Str × V)) (He.fAd K ("_law_one_state", none)) fd) : FI P w K mg base 5 (He.fAd K ("_law_one_state", none)) fd ps_law_one_state f_law_one_state := by
  obtain ⟨fd_law_walked, F_law_walked, k_law_walked, ⟨ds_law_walked_3, v_law_walked_3, b_law_walked_3⟩⟩ := ok_law_walked (P := P) (w := w) (base := base) T
  have w_law_walked_3 : GVals K (([] : List V).drop 0 : List V) [] := trivial
  obtain ⟨fd_law_processor, F_law_processor, k_law_processor, ⟨ds_law_processor_3, v_law_processor_3, b_law_processor_3⟩⟩ := ok_law_processor (P := P) (w := w) (base := base) T
  have w_law_processor_3 : GVals K (([] : List V).drop 0 : List V) [] := trivial
  obtain ⟨fd_flushed, F_flushed, k_flushed, ⟨ds_flushed_2, v_flushed_2, b_flushed_2⟩⟩ := ok_flushed (P := P) (w := w) (base := base) T
  have w_flushed_2 : GVals K (([] : List V).drop 0 : List V) [] := trivial
  obtain ⟨fd_law_stands, F_law_stands, k_law_stands, ⟨ds_law_stands_3, v_law_stands_3, b_law_stands_3⟩⟩ := ok_law_stands (P := P) (w := w) (base := base) T
  have w_law_stands_3 : GVals K (([] : List V).drop 0 : List V) [] := trivial
  obtain ⟨fd_law_pairs, F_law_pairs, k_law_pairs, ⟨ds_law_pairs_2, v_law_pairs_2, b_law_pairs_2⟩⟩ := ok_law_pairs (P := P) (w := w) (base := base) T
  have w_law_pairs_2 : GVals K (([] : List V).drop 0 : List V) [] := trivial
  obtain ⟨fd_law_pick, F_law_pick, k_law_pick, ⟨ds_law_pick_3, v_law_pick_3, b_law_pick_3⟩⟩ := ok_law_pick (P := P) (w := w) (base := base) T
  have w_law_pick_3 : GVals K (([] : List V).drop 0 : List V) [] := trivial
  obtain ⟨fd_flush, F_flush, k_flush, ⟨ds_flush_2, v_flush_2, b_flush_2⟩⟩ := ok_flush (P := P) (w := w) (base := base) T
  have w_flush_2 : GVals K (([] : List V).drop 0 : List V) [] := trivial
  have h := fi_of (P := P) (w := w) (mg := mg) (base := base) F sc_law_one_state (m := m_law_one_state) (k := 4) (fun cdv A outer s H E hr => by
    exact (iss_cons (is_set (i := 4) sc_law_one_state.nd (ie_call (L2.takes_of rfl rfl rfl rfl) F_law_walked rfl (hr.mono (by decide)) T.g__law_walked k_law_walked b_law_walked_3 v_law_walked_3 w_law_walked_3 (ia_cons (ie_var 1) (ia_cons (ie_var 2) (ia_cons (ie_var 3) ia_nil)))))
    (iss_cons (is_set (i := 5) sc_law_one_state.nd (ie_call (L2.takes_of rfl rfl rfl rfl) F_law_processor rfl (hr.mono (by decide)) T.g__law_processor k_law_processor b_law_processor_3 v_law_processor_3 w_law_processor_3 (ia_cons (ie_var 0) (ia_cons (ie_var 1) (ia_cons (ie_var 2) ia_nil)))))
    (iss_cons (is_set (i := 6) sc_law_one_state.nd (ie_BT callDictC ci_dictC T.b_dict (by decide +kernel) (ia_cons (ie_var 3) ia_nil)))
    (iss_cons (is_set (i := 7) sc_law_one_state.nd (ie_call (L2.takes_of rfl rfl rfl rfl) F_flushed rfl (hr.mono (by decide)) T.g_flushed k_flushed b_flushed_2 v_flushed_2 w_flushed_2 (ia_cons (ie_var 5) (ia_cons (ie_var 6) ia_nil))))
    (iss_cons (is_if (it_w (iw_or (it_cmp (or_neDD hr.units) oi_neDD (ie_var 6) (ie_var 3) (nomark _)) (iw_or (it_not (it_val (ie_call (L2.takes_of rfl rfl rfl rfl) F_law_stands rfl (hr.mono (by decide)) T.g__law_stands k_law_stands b_law_stands_3 v_law_stands_3 w_law_stands_3 (ia_cons (ie_var 7) (ia_cons (ie_var 0) (ia_cons (ie_var 4) ia_nil)))))) (iw_or1 (it_not (it_val (ie_call (L2.takes_of rfl rfl rfl rfl) F_law_stands rfl (hr.mono (by decide)) T.g__law_stands k_law_stands b_law_stands_3 v_law_stands_3 w_law_stands_3 (ia_cons (ie_var 5) (ia_cons (ie_var 0) (ia_cons (ie_tup (ia_cons (ie_BT call_tuple_of ci_tuple T.b_tuple (by decide +kernel) (ia_cons (ie_var 1) ia_nil)) (ia_cons (ie_var 2) ia_nil))) ia_nil))))))))))
    (iss_one (is_ret ie_bl))
    iss_nil)
    (iss_cons (is_sub (ie_fld T.att (ie_var 7) (by decide +kernel)) ie_int (ie_bin op_mod oi_mod (ie_BT call_int1 ci_int T.b_int (by decide +kernel) (ia_cons (ie_bin or_addM oi_add (ie_ix (ie_ix (ie_var 4) ie_int) ie_int) ie_int) ia_nil)) ie_int))
    (iss_cons (is_set (i := 8) sc_law_one_state.nd (ie_call (L2.takes_of rfl rfl rfl rfl) F_law_pairs rfl (hr.mono (by decide)) T.g__law_pairs k_law_pairs b_law_pairs_2 v_law_pairs_2 w_law_pairs_2 (ia_cons (ie_var 3) (ia_cons (ie_call (L2.takes_of rfl rfl rfl rfl) F_law_pick rfl (hr.mono (by decide)) T.g__law_pick k_law_pick b_law_pick_3 v_law_pick_3 w_law_pick_3 (ia_cons (ie_var 0) (ia_cons ie_int (ia_cons ie_int ia_nil)))) ia_nil))))
    (iss_cons (is_set (i := 9) sc_law_one_state.nd (ie_BT call_list_of ci_list T.b_list (by decide +kernel) (ia_cons (ie_var 8) ia_nil)))
    (iss_cons (is_if (it_w (iw_or (it_not (it_val (ie_call (L2.takes_of rfl rfl rfl rfl) F_law_stands rfl (hr.mono (by decide)) T.g__law_stands k_law_stands b_law_stands_3 v_law_stands_3 w_law_stands_3 (ia_cons (ie_call (L2.takes_of rfl rfl rfl rfl) F_flushed rfl (hr.mono (by decide)) T.g_flushed k_flushed b_flushed_2 v_flushed_2 w_flushed_2 (ia_cons (ie_var 5) (ia_cons (ie_var 8) ia_nil))) (ia_cons (ie_var 0) (ia_cons (ie_var 4) ia_nil)))))) (iw_or1 (it_cmp (or_neM hr.units) oi_ne (ie_var 8) (ie_var 9) (nomark _)))))
    (iss_one (is_ret ie_bl))
    iss_nil)
    (iss_cons (is_if (it_not (it_val (ie_call (L2.takes_of rfl rfl rfl rfl) F_law_stands rfl (hr.mono (by decide)) T.g__law_stands k_law_stands b_law_stands_3 v_law_stands_3 w_law_stands_3 (ia_cons (ie_call (L2.takes_of rfl rfl rfl rfl) F_flushed rfl (hr.mono (by decide)) T.g_flushed k_flushed b_flushed_2 v_flushed_2 w_flushed_2 (ia_cons (ie_var 5) (ia_cons ie_dnew ia_nil))) (ia_cons (ie_var 0) (ia_cons (ie_tup (ia_cons (ie_BT call_tuple_of ci_tuple T.b_tuple (by decide +kernel) (ia_cons (ie_var 1) ia_nil)) (ia_cons (ie_var 2) ia_nil))) ia_nil))))))
    (iss_one (is_ret ie_bl))
    iss_nil)
    (iss_cons (is_if (it_w (iw_or (it_cmp or_isNM oi_isN (ie_call (L2.takes_of rfl rfl rfl rfl) F_flush rfl (hr.mono (by decide)) T.g_flush k_flush b_flush_2 v_flush_2 w_flush_2 (ia_cons (ie_var 5) (ia_cons ie_tupP0 ia_nil))) ie_non (nomark _)) (iw_or1 (it_not (it_val (ie_call (L2.takes_of rfl rfl rfl rfl) F_law_stands rfl (hr.mono (by decide)) T.g__law_stands k_law_stands b_law_stands_3 v_law_stands_3 w_law_stands_3 (ia_cons (ie_var 5) (ia_cons (ie_var 0) (ia_cons (ie_tup (ia_cons (ie_BT call_tuple_of ci_tuple T.b_tuple (by decide +kernel) (ia_cons (ie_var 1) ia_nil)) (ia_cons (ie_var 2) ia_nil))) ia_nil)))))))))
    (iss_one (is_ret ie_bl))
    iss_nil)
    (iss_cons (is_if (it_w (iw_or (it_cmp or_isNM oi_isN (ie_call (L2.takes_of rfl rfl rfl rfl) F_flush rfl (hr.mono (by decide)) T.g_flush k_flush b_flush_2 v_flush_2 w_flush_2 (ia_cons (ie_var 5) (ia_cons (ie_BT callTupP ci_tupP T.b_tuple (by decide +kernel) (ia_cons (ie_rev (ie_var 8)) ia_nil)) ia_nil))) ie_non (nomark _)) (iw_or1 (it_not (it_val (ie_call (L2.takes_of rfl rfl rfl rfl) F_law_stands rfl (hr.mono (by decide)) T.g__law_stands k_law_stands b_law_stands_3 v_law_stands_3 w_law_stands_3 (ia_cons (ie_var 5) (ia_cons (ie_var 0) (ia_cons (ie_var 4) ia_nil)))))))))
    (iss_one (is_ret ie_bl))
    iss_nil)
    (iss_cons (is_set (i := 10) sc_law_one_state.nd (ie_call (L2.takes_of rfl rfl rfl rfl) F_law_processor rfl (hr.mono (by decide)) T.g__law_processor k_law_processor b_law_processor_3 v_law_processor_3 w_law_processor_3 (ia_cons (ie_var 0) (ia_cons (ie_var 1) (ia_cons (ie_var 2) ia_nil)))))
    (iss_cons (is_expr (ie_call (L2.takes_of rfl rfl rfl rfl) F_flush rfl (hr.mono (by decide)) T.g_flush k_flush b_flush_2 v_flush_2 w_flush_2 (ia_cons (ie_var 10) (ia_cons (ie_var 6) ia_nil))))
    (iss_one (is_ret (ie_and (ie_cmp (or_eqDD hr.units) oi_eqDD (ie_var 6) (ie_var 3) (nomark _)) (ie_one (ie_call (L2.takes_of rfl rfl rfl rfl) F_law_stands rfl (hr.mono (by decide)) T.g__law_stands k_law_stands b_law_stands_3 v_law_stands_3 w_law_stands_3 (ia_cons (ie_var 10) (ia_cons (ie_var 0) (ia_cons (ie_var 4) ia_nil)))))))))))))))))))))))
  exact h
theorem ok_law_one_state (T : Tx K mg) : ∃ fd, FI P w K mg base 5 (He.fAd K ("_law_one_state", none)) fd ps_law_one_state f_law_one_state ∧ PySem.W.keepIn K (.ref (He.fAd K ("_law_one_state", none))) = true ∧ (∃ ds, Vals (([] : List V).drop 0 : List V) ds ∧ Binds K fd ps_law_one_state ds) := by
  obtain ⟨fd, F⟩ := T.d_law_one_state
  exact ⟨fd, fi_law_one_state T F, F.kp, ⟨[], .nil, F.bindsN fun _ _ _ _ _ _ us hl => match us, hl with | [_, _, _, _], _ => rfl⟩⟩
theorem fi_law (T : Tx K mg) {fd : FuncData} (F : FunD K "law" "law" (defArgs st_law) (defBody st_law) (defScope st_law) ([] : List V) ([] : List (Str × V)) (He.fAd K ("law", none)) fd) : FI P w K mg base 6 (He.fAd K ("law", none)) fd ps_law f_law := by
  obtain ⟨fd_law_row, F_law_row, k_law_row, ⟨ds_law_row_2, v_law_row_2, b_law_row_2⟩⟩ := ok_law_row (P := P) (w := w) (base := base) T
  have w_law_row_2 : GVals K (([] : List V).drop 0 : List V) [] := trivial
  obtain ⟨fd_law_pick, F_law_pick, k_law_pick, ⟨ds_law_pick_3, v_law_pick_3, b_law_pick_3⟩⟩ := ok_law_pick (P := P) (w := w) (base := base) T
  have w_law_pick_3 : GVals K (([] : List V).drop 0 : List V) [] := trivial
  obtain ⟨fd_law_makers, F_law_makers, k_law_makers, ⟨ds_law_makers_2, v_law_makers_2, b_law_makers_2⟩⟩ := ok_law_makers (P := P) (w := w) (base := base) T
  have w_law_makers_2 : GVals K (([] : List V).drop 0 : List V) [] := trivial
  obtain ⟨fd_law_sources_told, F_law_sources_told, k_law_sources_told, ⟨ds_law_sources_told_1, v_law_sources_told_1, b_law_sources_told_1⟩⟩ := ok_law_sources_told (P := P) (w := w) (base := base) T
  have w_law_sources_told_1 : GVals K (([] : List V).drop 0 : List V) [] := trivial
  obtain ⟨fd_law_one_state, F_law_one_state, k_law_one_state, ⟨ds_law_one_state_4, v_law_one_state_4, b_law_one_state_4⟩⟩ := ok_law_one_state (P := P) (w := w) (base := base) T
  have w_law_one_state_4 : GVals K (([] : List V).drop 0 : List V) [] := trivial
  have h := fi_of (P := P) (w := w) (mg := mg) (base := base) F sc_law (m := m_law) (k := 5) (fun cdv A outer s H E hr => by
    exact (iss_cons (is_set (i := 1) sc_law.nd (ie_call (L2.takes_of rfl rfl rfl rfl) F_law_row rfl (hr.mono (by decide)) T.g__law_row k_law_row b_law_row_2 v_law_row_2 w_law_row_2 (ia_cons (ie_var 0) (ia_cons ie_int ia_nil))))
    (iss_cons (is_setLc [("_law_k", 3)] rfl (i := 2) rfl sc_law.nd rfl rfl (sw_true rfl rfl rfl (by decide +kernel)) (ii_range1 T.b_range ie_int) (blkOk_by (own := [("_law_k", 3)]) (N := N_law) (sc := defScope st_law) (by decide +kernel)) (by decide) (fun _ _ _ _ _ => (ig_name 3 sc_law.nd)) (fun _ _ _ _ _ => its_nil) (fun _ _ _ _ _ => (ie_call L2.takes0 F_law_pick rfl (hr.mono (by decide)) T.g__law_pick k_law_pick b_law_pick_3 v_law_pick_3 w_law_pick_3 (ia_cons (ie_var 1) (ia_cons (ie_bin or_addM oi_add ie_int (ie_bin or_mulM oi_mul ie_int (ie_var 3))) (ia_cons ie_int ia_nil))))))
    (iss_cons (is_set (i := 4) sc_law.nd (ie_tup (ia_cons (ie_call (L2.takes_of rfl rfl rfl rfl) F_law_pick rfl (hr.mono (by decide)) T.g__law_pick k_law_pick b_law_pick_3 v_law_pick_3 w_law_pick_3 (ia_cons (ie_var 1) (ia_cons ie_int (ia_cons ie_int ia_nil)))) (ia_cons (ie_call (L2.takes_of rfl rfl rfl rfl) F_law_pick rfl (hr.mono (by decide)) T.g__law_pick k_law_pick b_law_pick_3 v_law_pick_3 w_law_pick_3 (ia_cons (ie_var 1) (ia_cons ie_int (ia_cons ie_int ia_nil)))) ia_nil))))
    (iss_cons (is_set (i := 5) sc_law.nd (ie_call (L2.takes_of rfl rfl rfl rfl) F_law_makers rfl (hr.mono (by decide)) T.g__law_makers k_law_makers b_law_makers_2 v_law_makers_2 w_law_makers_2 (ia_cons (ie_var 1) (ia_cons ie_int ia_nil))))
    (iss_cons (is_if (it_w (iw_or (it_not (it_val (ie_call (L2.takes_of rfl rfl rfl rfl) F_law_sources_told rfl (hr.mono (by decide)) T.g__law_sources_told k_law_sources_told b_law_sources_told_1 v_law_sources_told_1 w_law_sources_told_1 (ia_cons (ie_var 5) ia_nil)))) (iw_or1 (it_not (it_val (ie_call (L2.takes_of rfl rfl rfl rfl) F_law_one_state rfl (hr.mono (by decide)) T.g__law_one_state k_law_one_state b_law_one_state_4 v_law_one_state_4 w_law_one_state_4 (ia_cons (ie_var 1) (ia_cons (ie_var 2) (ia_cons (ie_var 4) (ia_cons (ie_var 5) ia_nil))))))))))
    (iss_one (is_ret ie_bl))
    iss_nil)
    (iss_cons (is_setLc [("_law_k", 3)] rfl (i := 6) rfl sc_law.nd rfl rfl (sw_true rfl rfl rfl (by decide +kernel)) (ii_range1 T.b_range ie_int) (blkOk_by (own := [("_law_k", 3)]) (N := N_law) (sc := defScope st_law) (by decide +kernel)) (by decide) (fun _ _ _ _ _ => (ig_name 3 sc_law.nd)) (fun _ _ _ _ _ => its_nil) (fun _ _ _ _ _ => (ie_call L2.takes0 F_law_pick rfl (hr.mono (by decide)) T.g__law_pick k_law_pick b_law_pick_3 v_law_pick_3 w_law_pick_3 (ia_cons (ie_var 1) (ia_cons (ie_bin or_addM oi_add ie_int (ie_bin or_mulM oi_mul ie_int (ie_var 3))) (ia_cons ie_int ia_nil))))))
    (iss_one (is_ret (ie_call (L2.takes_of rfl rfl rfl rfl) F_law_one_state rfl (hr.mono (by decide)) T.g__law_one_state k_law_one_state b_law_one_state_4 v_law_one_state_4 w_law_one_state_4 (ia_cons (ie_var 1) (ia_cons (ie_var 6) (ia_cons (ie_tup (ia_cons (ie_bin op_sub oi_sub ie_int (ie_ix (ie_var 4) ie_int)) (ia_cons (ie_bin op_sub oi_sub ie_int (ie_ix (ie_var 4) ie_int)) ia_nil))) (ia_cons (ie_var 5) ia_nil))))))))))))))
  exact h
end
end K16
set_option Elab.async false
set_option linter.all false
set_option maxRecDepth 100000
set_option maxHeartbeats 40000000
namespace K16
open PySem PySem.Spec PyProof.Rows L2 GL
def fn : List He.DefD := [⟨("_law_row", none), "_law_row", "_law_row", defArgs st_law_row, defBody st_law_row, defScope st_law_row, [], []⟩,
  ⟨("_law_pick", none), "_law_pick", "_law_pick", defArgs st_law_pick, defBody st_law_pick, defScope st_law_pick, [], []⟩,
  ⟨("_law_maker", none), "_law_maker", "_law_maker", defArgs st_law_maker, defBody st_law_maker, defScope st_law_maker, [], []⟩,
  ⟨("_law_makers", none), "_law_makers", "_law_makers", defArgs st_law_makers, defBody st_law_makers, defScope st_law_makers, [], []⟩,
  ⟨("sources", none), "sources", "sources", defArgs st_sources, defBody st_sources, defScope st_sources, [], []⟩,
  ⟨("_law_sources", none), "_law_sources", "_law_sources", defArgs st_law_sources, defBody st_law_sources, defScope st_law_sources, [], []⟩,
  ⟨("_law_whole", none), "_law_whole", "_law_whole", defArgs st_law_whole, defBody st_law_whole, defScope st_law_whole, [], []⟩,
  ⟨("_law_sources_told", none), "_law_sources_told", "_law_sources_told", defArgs st_law_sources_told, defBody st_law_sources_told, defScope st_law_sources_told, [], []⟩,
  ⟨("_law_walked", none), "_law_walked", "_law_walked", defArgs st_law_walked, defBody st_law_walked, defScope st_law_walked, [], []⟩,
  ⟨("Processor", some "__init__"), "__init__", "Processor.__init__", defArgs st_Processor_init, defBody st_Processor_init, defScope st_Processor_init, [], []⟩,
  ⟨("_law_start", none), "_law_start", "_law_start", defArgs st_law_start, defBody st_law_start, defScope st_law_start, [], []⟩,
  ⟨("flush_one", none), "flush_one", "flush_one", defArgs st_flush_one, defBody st_flush_one, defScope st_flush_one, [], []⟩,
  ⟨("flush", none), "flush", "flush", defArgs st_flush, defBody st_flush, defScope st_flush, [], []⟩,
  ⟨("_law_processor", none), "_law_processor", "_law_processor", defArgs st_law_processor, defBody st_law_processor, defScope st_law_processor, [], []⟩,
  ⟨("Processor", some "copy"), "copy", "Processor.copy", defArgs st_Processor_copy, defBody st_Processor_copy, defScope st_Processor_copy, [], []⟩,
  ⟨("flushed", none), "flushed", "flushed", defArgs st_flushed, defBody st_flushed, defScope st_flushed, [], []⟩,
  ⟨("Processor", some "key"), "key", "Processor.key", defArgs st_Processor_key, defBody st_Processor_key, defScope st_Processor_key, [], []⟩,
  ⟨("_law_stands", none), "_law_stands", "_law_stands", defArgs st_law_stands, defBody st_law_stands, defScope st_law_stands, [], []⟩,
  ⟨("_law_pairs", none), "_law_pairs", "_law_pairs", defArgs st_law_pairs, defBody st_law_pairs, defScope st_law_pairs, [], []⟩,
  ⟨("_law_one_state", none), "_law_one_state", "_law_one_state", defArgs st_law_one_state, defBody st_law_one_state, defScope st_law_one_state, [], []⟩,
  ⟨("law", none), "law", "law", defArgs st_law, defBody st_law, defScope st_law, [], []⟩]
def fbs : List (PySem.W.Frag → Bool) := [(He.Fa.free "abs").ok,
  (He.Fa.free "bool").ok,
  (He.Fa.free "dict").ok,
  (He.Fa.free "int").ok,
  (He.Fa.free "isinstance").ok,
  (He.Fa.free "len").ok,
  (He.Fa.free "list").ok,
  (He.Fa.free "max").ok,
  (He.Fa.free "min").ok,
  (He.Fa.free "range").ok,
  (He.Fa.free "sorted").ok,
  (He.Fa.free "tuple").ok,
  (He.Fa.glo "_law_row").ok,
  (He.Fa.glo "_law_pick").ok,
  (He.Fa.glo "_law_maker").ok,
  (He.Fa.glo "_law_makers").ok,
  (He.Fa.glo "sources").ok,
  (He.Fa.glo "_law_sources").ok,
  (He.Fa.glo "_law_whole").ok,
  (He.Fa.glo "_law_sources_told").ok,
  (He.Fa.glo "_law_walked").ok,
  (He.Fa.glo "_law_start").ok,
  (He.Fa.glo "flush_one").ok,
  (He.Fa.glo "flush").ok,
  (He.Fa.glo "_law_processor").ok,
  (He.Fa.glo "flushed").ok,
  (He.Fa.glo "_law_stands").ok,
  (He.Fa.glo "_law_pairs").ok,
  (He.Fa.glo "_law_one_state").ok,
  (He.Fa.glo "law").ok,
  (He.Fa.cls "Processor").ok,
  (He.Fa.glo "Processor").ok,
  (He.Fa.mkr "Processor").ok,
  (He.Fa.meth "Processor" "copy").ok,
  (He.Fa.meth "Processor" "key").ok,
  (fun K => conV K "REGISTERS" w_REGISTERS),
  (He.Fa.noat "Processor" "enabled").ok,
  (He.Fa.noat "Processor" "halted").ok,
  (He.Fa.noat "Processor" "less").ok,
  (He.Fa.noat "Processor" "level").ok,
  (He.Fa.noat "Processor" "pc").ok,
  (He.Fa.noat "Processor" "pending").ok,
  (He.Fa.noat "Processor" "regs").ok,
  (He.Fa.noat "Processor" "saved").ok,
  (He.Fa.noat "Processor" "zero").ok]
abbrev R : PySem.W.OpenRow := PySem.W.OpenLaw.row PySem.Challenge.rw_guestlives_k16_values_flushed_in_order
abbrev hk : PySem.W.Hook := hookB 6 (allB fbs) fn
def ob (s : PySem.W.SharedT) : He.AlD := obsBG 6 (allB fbs) fn (HandSHeadRun.getT s)
theorem ob_eq (s : PySem.W.SharedT) : ob s = hk.obs s.abs := obsBG_eq (HandSHeadRun.getT_eq s)
def loose : List Str := (["_wall", "sources", "flush_one", "flush", "flushed", "REGISTERS", "Processor", "_law_row", "_law_pick", "_law_whole", "_law_maker", "_law_makers", "_law_sources", "_law_sources_told", "_law_walked", "_law_start", "_law_processor", "_law_stands", "_law_pairs", "_law_one_state"] : List Str)
theorem run (w : World) : HandSHeadRun.RunEq R (PySem.W.view R.prog [22]) hk ob 4000 loose w := by
  intro os
  kernel_rfl
theorem tx_of {K : PySem.W.Frag} {h : Heap} {mg : Str → Option Value} (X : K.In h) (G : h.Ns mainGlobals mg) (c : SaysB (allB fbs) fn K) : Tx K mg where
  b_abs := He.free_ok X G (allB_at c.facts 0)
  b_bool := He.free_ok X G (allB_at c.facts 1)
  b_dict := He.free_ok X G (allB_at c.facts 2)
  b_int := He.free_ok X G (allB_at c.facts 3)
  b_isinstance := He.free_ok X G (allB_at c.facts 4)
  b_len := He.free_ok X G (allB_at c.facts 5)
  b_list := He.free_ok X G (allB_at c.facts 6)
  b_max := He.free_ok X G (allB_at c.facts 7)
  b_min := He.free_ok X G (allB_at c.facts 8)
  b_range := He.free_ok X G (allB_at c.facts 9)
  b_sorted := He.free_ok X G (allB_at c.facts 10)
  b_tuple := He.free_ok X G (allB_at c.facts 11)
  g__law_row := He.glo_ok X G (allB_at c.facts 12)
  g__law_pick := He.glo_ok X G (allB_at c.facts 13)
  g__law_maker := He.glo_ok X G (allB_at c.facts 14)
  g__law_makers := He.glo_ok X G (allB_at c.facts 15)
  g_sources := He.glo_ok X G (allB_at c.facts 16)
  g__law_sources := He.glo_ok X G (allB_at c.facts 17)
  g__law_whole := He.glo_ok X G (allB_at c.facts 18)
  g__law_sources_told := He.glo_ok X G (allB_at c.facts 19)
  g__law_walked := He.glo_ok X G (allB_at c.facts 20)
  g__law_start := He.glo_ok X G (allB_at c.facts 21)
  g_flush_one := He.glo_ok X G (allB_at c.facts 22)
  g_flush := He.glo_ok X G (allB_at c.facts 23)
  g__law_processor := He.glo_ok X G (allB_at c.facts 24)
  g_flushed := He.glo_ok X G (allB_at c.facts 25)
  g__law_stands := He.glo_ok X G (allB_at c.facts 26)
  g__law_pairs := He.glo_ok X G (allB_at c.facts 27)
  g__law_one_state := He.glo_ok X G (allB_at c.facts 28)
  g_law := He.glo_ok X G (allB_at c.facts 29)
  cl_Processor := He.cls_ok (allB_at c.facts 30)
  g_Processor := He.glo_ok X G (allB_at c.facts 31)
  mk_Processor := He.mkr_ok (allB_at c.facts 32)
  me_Processor_copy := He.meth_ok (allB_at c.facts 33)
  me_Processor_key := He.meth_ok (allB_at c.facts 34)
  c_REGISTERS := conV_ok X G (allB_at c.facts 35)
  att := fun C f e => by
    have e := List.any_eq_true.mp e
    obtain ⟨p, hp, q⟩ := e
    have q := Bool.and_eq_true_iff.mp q
    obtain ⟨q1, q2⟩ := q
    have q1 := of_decide_eq_true q1
    have q2 := of_decide_eq_true q2
    subst q1 q2
    simp only [tabL, List.mem_cons, List.not_mem_nil, or_false] at hp
    rcases hp with rfl | rfl | rfl | rfl | rfl | rfl | rfl | rfl | rfl
    · rw [show toS (n_Processor, n_enabled).1 = ("Processor" : Str) from e_Processor, show toS (n_Processor, n_enabled).2 = ("enabled" : Str) by decide +kernel]; exact ⟨He.cls_ok (allB_at c.facts 30), He.noat_ok (allB_at c.facts 36)⟩
    · rw [show toS (n_Processor, n_halted).1 = ("Processor" : Str) from e_Processor, show toS (n_Processor, n_halted).2 = ("halted" : Str) by decide +kernel]; exact ⟨He.cls_ok (allB_at c.facts 30), He.noat_ok (allB_at c.facts 37)⟩
    · rw [show toS (n_Processor, n_less).1 = ("Processor" : Str) from e_Processor, show toS (n_Processor, n_less).2 = ("less" : Str) by decide +kernel]; exact ⟨He.cls_ok (allB_at c.facts 30), He.noat_ok (allB_at c.facts 38)⟩
    · rw [show toS (n_Processor, n_level).1 = ("Processor" : Str) from e_Processor, show toS (n_Processor, n_level).2 = ("level" : Str) by decide +kernel]; exact ⟨He.cls_ok (allB_at c.facts 30), He.noat_ok (allB_at c.facts 39)⟩
    · rw [show toS (n_Processor, n_pc).1 = ("Processor" : Str) from e_Processor, show toS (n_Processor, n_pc).2 = ("pc" : Str) by decide +kernel]; exact ⟨He.cls_ok (allB_at c.facts 30), He.noat_ok (allB_at c.facts 40)⟩
    · rw [show toS (n_Processor, n_pending).1 = ("Processor" : Str) from e_Processor, show toS (n_Processor, n_pending).2 = ("pending" : Str) by decide +kernel]; exact ⟨He.cls_ok (allB_at c.facts 30), He.noat_ok (allB_at c.facts 41)⟩
    · rw [show toS (n_Processor, n_regs).1 = ("Processor" : Str) from e_Processor, show toS (n_Processor, n_regs).2 = ("regs" : Str) by decide +kernel]; exact ⟨He.cls_ok (allB_at c.facts 30), He.noat_ok (allB_at c.facts 42)⟩
    · rw [show toS (n_Processor, n_saved).1 = ("Processor" : Str) from e_Processor, show toS (n_Processor, n_saved).2 = ("saved" : Str) by decide +kernel]; exact ⟨He.cls_ok (allB_at c.facts 30), He.noat_ok (allB_at c.facts 43)⟩
    · rw [show toS (n_Processor, n_zero).1 = ("Processor" : Str) from e_Processor, show toS (n_Processor, n_zero).2 = ("zero" : Str) by decide +kernel]; exact ⟨He.cls_ok (allB_at c.facts 30), He.noat_ok (allB_at c.facts 44)⟩
  d_law_row := c.defs 0
  d_law_pick := c.defs 1
  d_law_maker := c.defs 2
  d_law_makers := c.defs 3
  d_sources := c.defs 4
  d_law_sources := c.defs 5
  d_law_whole := c.defs 6
  d_law_sources_told := c.defs 7
  d_law_walked := c.defs 8
  d_Processor_init := c.defs 9
  d_law_start := c.defs 10
  d_flush_one := c.defs 11
  d_flush := c.defs 12
  d_law_processor := c.defs 13
  d_Processor_copy := c.defs 14
  d_flushed := c.defs 15
  d_Processor_key := c.defs 16
  d_law_stands := c.defs 17
  d_law_pairs := c.defs 18
  d_law_one_state := c.defs 19
  d_law := c.defs 20
end K16
open PySem PySem.W PySem.Calls PyProof.Rows in
theorem K16.holds_of (plain : ∀ ns : List Int, ns.length ≤ 63 → ∃ S, K16.f_law [.loc 0] [.rol (ns.map .int)] = .ok (.bl true) S) : PySem.Challenge.rw_guestlives_k16_values_flushed_in_order.Holds := by
  w_on; o_law
  refine HandSHeadRun.head_any (r := OpenLaw.row PySem.Challenge.rw_guestlives_k16_values_flushed_in_order) (q := view (OpenLaw.row PySem.Challenge.rw_guestlives_k16_values_flushed_in_order).prog [22]) (H := K16.hk) (ob := K16.ob) (M := 4000) (loose := K16.loose) (d := HandSHeadRun.topDef (OpenLaw.row PySem.Challenge.rw_guestlives_k16_values_flushed_in_order).prog 22) (kwd := []) K16.ob_eq
    (by kernel_rfl) (fun s => by kernel_rfl) K16.run (by kernel_rfl) (by kernel_rfl) (by kernel_rfl) (by rfl) (by first | assumption | decide +kernel) (by decide +kernel) ⟨rfl, rfl, rfl, rfl, rfl, by decide +kernel⟩ ?hw ?hc
  case hw => w_witness2
  case hc =>
    refine GL.walk_end (l := PySem.Challenge.rw_guestlives_k16_values_flushed_in_order) (n := 63) (k := 6) (x := "_law_script") rfl (by decide) (by kernel_rfl) ⟨rfl, by decide, by decide⟩ ?F
    intro w mg fa h Y G hmg0
    obtain ⟨K, KX, c⟩ := Y
    have T : K16.Tx K mg := K16.tx_of KX G c
    have hmg : mg ("law" : PySem.Str) = some (.ref fa) := by
      have e : (HandSHeadRun.topDef (OpenLaw.row PySem.Challenge.rw_guestlives_k16_values_flushed_in_order).prog 22).name = ("law" : PySem.Str) := by kernel_rfl
      rw [← e]; exact hmg0
    have e := hmg.symm.trans T.g_law
    cases e
    obtain ⟨fd0, F0⟩ := T.d_law
    have hb := F0.bindsA (ps := [("_law_script" : PySem.Str)]) fun _ _ _ _ _ _ us hl => match us, hl with | [_], _ => rfl
    exact ⟨K, fd0, GL.spI (⟨_, w⟩ : GL.PgW) K 1 K16.f_law, KX, fun s v => hb s [v] rfl, fun H a ns hl hO hS => GL.law_sp rfl plain H a ns hl hO hS, fun base X2 G2 => K16.fi_law T F0⟩
set_option Elab.async false
set_option linter.all false
set_option maxRecDepth 100000
set_option maxHeartbeats 1000000
namespace VL
open GL (PV OB Sto Ls Nm BT)
inductive Fl where
  | fz | ow | lk
  deriving DecidableEq, Inhabited
inductive Sc where
  | non | bl (b : Bool) | int (i : Int) | str (s : List Nat) | ty (b : BT) | gl (x : Nm)
  deriving DecidableEq, Inhabited
inductive Hd where
  | lst | rol | dct (ks : List PV) | ins (C : Nm) (ns : List Nm) | dcn (ks : List PV) | ptp
  deriving Inhabited
inductive D where
  | sc (s : Sc) | tup (xs : List D) | nd (k : Fl) (h : Hd) (xs : List D)
  deriving Inhabited
inductive A where
  | sc (s : Sc) | tup (xs : List A) | nd (k : Fl) (n : Nat) (h : Hd) (xs : List A)
  deriving Inhabited
theorem A.ind {P : A → Prop} (h1 : ∀ s, P (.sc s)) (h2 : ∀ xs, (∀ x ∈ xs, P x) → P (.tup xs)) (h3 : ∀ k n h xs, (∀ x ∈ xs, P x) → P (.nd k n h xs)) (a : A) : P a :=
  A.rec (motive_1 := P) (motive_2 := fun xs => ∀ x ∈ xs, P x) h1 h2 h3 (fun _ h => by cases h) (fun x r hx hr y hy => by
    rcases List.mem_cons.mp hy with rfl | h
    · exact hx
    · exact hr y h) a
theorem D.ind {P : D → Prop} (h1 : ∀ s, P (.sc s)) (h2 : ∀ xs, (∀ x ∈ xs, P x) → P (.tup xs)) (h3 : ∀ k h xs, (∀ x ∈ xs, P x) → P (.nd k h xs)) (a : D) : P a :=
  D.rec (motive_1 := P) (motive_2 := fun xs => ∀ x ∈ xs, P x) h1 h2 h3 (fun _ h => by cases h) (fun x r hx hr y hy => by
    rcases List.mem_cons.mp hy with rfl | h
    · exact hx
    · exact hr y h) a
def Sc.pv : Sc → PV
  | .non => .non
  | .bl b => .bl b
  | .int i => .int i
  | .str s => .str s
  | .ty b => .ty b
  | .gl x => .gl x
def Hd.wf : Hd → Nat → Bool
  | .lst, _ => true
  | .rol, _ => true
  | .dct ks, n => decide (ks.length = n)
  | .ins _ ns, n => decide (ns.length = n)
  | .dcn ks, n => decide (ks.length = n)
  | .ptp, _ => true
def mkO : Hd → List PV → OB
  | .lst, ws => .lst ws
  | .rol, ws => .rol ws
  | .dct ks, ws => .dct (ks.zip ws)
  | .ins C ns, ws => .ins C (ns.zip ws)
  | .dcn ks, ws => .dcn (ks.zip ws)
  | .ptp, ws => .ptp ws
mutual
def A.er : A → D
  | .sc s => .sc s
  | .tup xs => .tup (A.ers xs)
  | .nd k _ h xs => .nd k h (A.ers xs)
def A.ers : List A → List D
  | [] => []
  | x :: r => A.er x :: A.ers r
end
mutual
def A.pv : A → PV
  | .sc s => s.pv
  | .tup xs => .tup (A.pvs xs)
  | .nd _ n _ _ => .loc n
def A.pvs : List A → List PV
  | [] => []
  | x :: r => A.pv x :: A.pvs r
end
mutual
def A.fp : A → List Nat
  | .sc _ => []
  | .tup xs => A.fps xs
  | .nd .fz _ _ xs => A.fps xs
  | .nd .ow n _ xs => n :: A.fps xs
  | .nd .lk n _ xs => n :: A.fps xs
def A.fps : List A → List Nat
  | [] => []
  | x :: r => A.fp x ++ A.fps r
end
abbrev FM := Nat → Option (Bool × OB)
mutual
def A.ok (F : FM) (S : Sto) : A → Prop
  | .sc _ => True
  | .tup xs => A.fps xs = [] ∧ A.oks F S xs
  | .nd .fz n h xs => F n = some (true, mkO h (A.pvs xs)) ∧ h.wf xs.length = true ∧ A.fps xs = [] ∧ A.oks F S xs
  | .nd .lk n h xs => F n = some (false, mkO h (A.pvs xs)) ∧ h.wf xs.length = true ∧ A.oks F S xs
  | .nd .ow n h xs => (F n = none ∧ S[n]? = some (mkO h (A.pvs xs))) ∧ h.wf xs.length = true ∧ A.oks F S xs
def A.oks (F : FM) (S : Sto) : List A → Prop
  | [] => True
  | x :: r => A.ok F S x ∧ A.oks F S r
end
theorem ers_map (xs : List A) : A.ers xs = xs.map A.er := by induction xs <;> simp_all [A.ers]
theorem pvs_map (xs : List A) : A.pvs xs = xs.map A.pv := by induction xs <;> simp_all [A.pvs]
theorem fps_map (xs : List A) : A.fps xs = xs.flatMap A.fp := by induction xs <;> simp_all [A.fps]
theorem oks_iff {F : FM} {S : Sto} (xs : List A) : A.oks F S xs ↔ ∀ x ∈ xs, x.ok F S := by induction xs <;> simp_all [A.oks]
def D.shr : D → Bool
  | .nd .ow _ _ => false
  | .nd .lk _ _ => false
  | _ => true
def A.shr : A → Bool
  | .nd .ow _ _ _ => false
  | .nd .lk _ _ _ => false
  | _ => true
theorem shr_er (a : A) : a.er.shr = a.shr := by
  cases a with
  | sc s => simp [A.er, D.shr, A.shr]
  | tup xs => simp [A.er, D.shr, A.shr]
  | nd k n h xs => cases k <;> simp [A.er, D.shr, A.shr]
variable {F F' : FM} {S S' : Sto}
theorem fp_shr {a : A} (h : a.ok F S) (s : a.shr = true) : a.fp = [] := by
  cases a with
  | sc s => simp [A.fp]
  | tup xs => simp only [A.ok] at h; simp [A.fp, h.1]
  | nd k n hd xs => cases k <;> simp_all [A.fp, A.ok, A.shr]
def Mono (F F' : FM) : Prop := ∀ n b o, F n = some (b, o) → F' n = some (b, o)
theorem Mono.refl : Mono F F := fun _ _ _ h => h
theorem Mono.trans {F1 F2 F3 : FM} (a : Mono F1 F2) (b : Mono F2 F3) : Mono F1 F3 := fun n x o h => b n x o (a n x o h)
def MonoT (F F' : FM) : Prop := ∀ n o, F n = some (true, o) → F' n = some (true, o)
theorem Mono.t (m : Mono F F') : MonoT F F' := fun n o h => m n true o h
theorem ok_frameT (m : MonoT F F') : ∀ {a : A}, (∀ n ∈ a.fp, F' n = F n ∧ S'[n]? = S[n]?) → a.ok F S → a.ok F' S' := by
  intro a
  induction a using A.ind with
  | h1 s => intros; simp [A.ok]
  | h2 xs ih =>
    intro hn h
    simp only [A.ok, oks_iff, A.fp] at h hn ⊢
    refine ⟨h.1, fun x hx => ih x hx (fun n q => ?_) (h.2 x hx)⟩
    exact hn n (by rw [fps_map]; exact List.mem_flatMap.mpr ⟨x, hx, q⟩)
  | h3 k n hd xs ih =>
    intro hn h
    have kid : A.oks F S xs → (∀ n ∈ A.fps xs, F' n = F n ∧ S'[n]? = S[n]?) → A.oks F' S' xs := fun h hn => by
      rw [oks_iff] at h ⊢
      exact fun x hx => ih x hx (fun n q => hn n (by rw [fps_map]; exact List.mem_flatMap.mpr ⟨x, hx, q⟩)) (h x hx)
    cases k with
    | fz =>
      simp only [A.ok, A.fp] at h hn ⊢
      exact ⟨m _ _ h.1, h.2.1, h.2.2.1, kid h.2.2.2 hn⟩
    | lk =>
      simp only [A.ok, A.fp] at h hn ⊢
      have e := hn n List.mem_cons_self
      rw [e.1]
      exact ⟨h.1, h.2.1, kid h.2.2 fun n q => hn n (List.mem_cons_of_mem _ q)⟩
    | ow =>
      simp only [A.ok, A.fp] at h hn ⊢
      have e := hn n List.mem_cons_self
      rw [e.1, e.2]
      exact ⟨h.1, h.2.1, kid h.2.2 fun n q => hn n (List.mem_cons_of_mem _ q)⟩
theorem ok_frame (m : Mono F F') {a : A} (hn : ∀ n ∈ a.fp, F' n = F n ∧ S'[n]? = S[n]?) (h : a.ok F S) : a.ok F' S' := ok_frameT m.t hn h
def AtU (S : Sto) (n : Nat) (o : OB) : Prop := S[n]? = some o ∨ ∃ k, o = .dct k ∧ S[n]? = some (.fdct k)
theorem AtU.lt {S : Sto} {n : Nat} {o : OB} (h : AtU S n o) : n < S.length := by
  rcases h with h | ⟨k, _, h⟩ <;> exact (List.getElem?_eq_some_iff.mp h).1
theorem AtU.eq {S : Sto} {n : Nat} {o : OB} (h : AtU S n o) (nd : ∀ k, o ≠ .dct k) : S[n]? = some o := by
  rcases h with h | ⟨k, e, h⟩
  · exact h
  · exact absurd e (nd k)
theorem AtU.lst {S : Sto} {n : Nat} {xs : List PV} (h : AtU S n (.lst xs)) : S[n]? = some (.lst xs) := h.eq (by intro k e; cases e)
theorem AtU.rol {S : Sto} {n : Nat} {xs : List PV} (h : AtU S n (.rol xs)) : S[n]? = some (.rol xs) := h.eq (by intro k e; cases e)
theorem AtU.ins {S : Sto} {n : Nat} {C : Nm} {fs : List (Nm × PV)} (h : AtU S n (.ins C fs)) : S[n]? = some (.ins C fs) := h.eq (by intro k e; cases e)
theorem AtU.dcn {S : Sto} {n : Nat} {xs : List (PV × PV)} (h : AtU S n (.dcn xs)) : S[n]? = some (.dcn xs) := h.eq (by intro k e; cases e)
theorem AtU.ptp {S : Sto} {n : Nat} {xs : List PV} (h : AtU S n (.ptp xs)) : S[n]? = some (.ptp xs) := h.eq (by intro k e; cases e)
theorem AtU.to {S S' : Sto} {n : Nat} {o : OB} (h : AtU S n o) (e : S'[n]? = S[n]?) : AtU S' n o := by
  unfold AtU
  rw [e]
  exact h
def FS (F : FM) (S : Sto) : Prop := ∀ n b o, F n = some (b, o) → AtU S n o
theorem fp_lt (fs : FS F S) : ∀ {a : A}, a.ok F S → ∀ n ∈ a.fp, n < S.length := by
  intro a
  induction a using A.ind with
  | h1 s => intro _ n h; simp [A.fp] at h
  | h2 xs ih =>
    intro h n hn
    simp only [A.ok] at h
    rw [A.fp, h.1] at hn
    cases hn
  | h3 k n hd xs ih =>
    intro h m hm
    have kid : A.oks F S xs → m ∈ A.fps xs → m < S.length := fun h hm => by
      rw [fps_map] at hm
      obtain ⟨x, hx, q⟩ := List.mem_flatMap.mp hm
      exact ih x hx ((oks_iff xs).mp h x hx) m q
    have lt : ∀ {o : OB}, S[n]? = some o → n < S.length := fun h => (List.getElem?_eq_some_iff.mp h).1
    cases k with
    | fz => simp only [A.ok, A.fp] at h hm; exact kid h.2.2.2 hm
    | lk =>
      simp only [A.ok, A.fp] at h hm
      rcases List.mem_cons.mp hm with rfl | q
      · exact (fs _ _ _ h.1).lt
      · exact kid h.2.2 q
    | ow =>
      simp only [A.ok, A.fp] at h hm
      rcases List.mem_cons.mp hm with rfl | q
      · exact lt h.1.2
      · exact kid h.2.2 q
mutual
def D.frz : D → Option D
  | .sc s => some (.sc s)
  | .tup xs => some (.tup xs)
  | .nd .fz h xs => some (.nd .fz h xs)
  | .nd .ow h xs => (D.frzs xs).map fun ys => .nd .fz h ys
  | .nd .lk _ _ => none
def D.frzs : List D → Option (List D)
  | [] => some []
  | x :: r => match D.frz x, D.frzs r with
    | some y, some ys => some (y :: ys)
    | _, _ => none
end
mutual
def A.frz : A → A
  | .sc s => .sc s
  | .tup xs => .tup xs
  | .nd .fz n h xs => .nd .fz n h xs
  | .nd .ow n h xs => .nd .fz n h (A.frzs xs)
  | .nd .lk n h xs => .nd .lk n h xs
def A.frzs : List A → List A
  | [] => []
  | x :: r => A.frz x :: A.frzs r
end
theorem frzs_map (xs : List A) : A.frzs xs = xs.map A.frz := by induction xs <;> simp_all [A.frzs]
theorem dfrzs_iff : ∀ (xs ys : List D), D.frzs xs = some ys ↔ ys.length = xs.length ∧ ∀ (i : Nat) (x : D), xs[i]? = some x → ∃ y : D, ys[i]? = some y ∧ D.frz x = some y
  | [], ys => by
    simp only [D.frzs, Option.some.injEq, List.length_nil, List.length_eq_zero_iff]
    constructor
    · rintro rfl; simp
    · rintro ⟨rfl, _⟩; rfl
  | x :: r, ys => by
    rw [D.frzs]
    have ih := dfrzs_iff r
    constructor
    · intro h
      split at h
      · rename_i y zs e1 e2
        cases h
        obtain ⟨l, q⟩ := (ih zs).mp e2
        refine ⟨by simp [l], fun i x' hx => ?_⟩
        cases i with
        | zero => simp at hx; subst hx; exact ⟨y, rfl, e1⟩
        | succ i => simpa using q i x' (by simpa using hx)
      · cases h
    · rintro ⟨l, q⟩
      cases ys with
      | nil => simp at l
      | cons y zs =>
        obtain ⟨y', e1, e2⟩ := q 0 x rfl
        simp at e1; subst e1
        have : D.frzs r = some zs := (ih zs).mpr ⟨by simpa using l, fun i x' hx => by
          obtain ⟨y', a, b⟩ := q (i + 1) x' (by simpa using hx)
          exact ⟨y', by simpa using a, b⟩⟩
        rw [e2, this]
theorem frz_pv : ∀ (a : A), a.frz.pv = a.pv := by
  intro a
  cases a with
  | sc s => simp [A.frz]
  | tup xs => simp [A.frz]
  | nd k n h xs => cases k <;> simp [A.frz, A.pv]
theorem frzs_pvs (xs : List A) : A.pvs (A.frzs xs) = A.pvs xs := by
  rw [pvs_map, frzs_map, pvs_map, List.map_map]
  exact List.map_congr_left fun a _ => frz_pv a
theorem frz_er : ∀ (a : A) {d : D}, D.frz a.er = some d → a.frz.er = d := by
  intro a
  induction a using A.ind with
  | h1 s => intro d h; simp [A.er, D.frz] at h; simp [A.frz, A.er, h]
  | h2 xs ih => intro d h; simp [A.er, D.frz] at h; simp [A.frz, A.er, h]
  | h3 k n hd xs ih =>
    intro d h
    cases k with
    | fz => simp [A.er, D.frz] at h; simp [A.frz, A.er, h]
    | lk => simp [A.er, D.frz] at h
    | ow =>
      simp only [A.er, D.frz, Option.map_eq_some_iff] at h
      obtain ⟨ys, e, rfl⟩ := h
      obtain ⟨l, q⟩ := (dfrzs_iff _ _).mp e
      simp only [A.frz, A.er, D.nd.injEq, true_and]
      rw [ers_map, frzs_map, List.map_map]
      apply List.ext_getElem?
      intro i
      rw [ers_map] at l q
      simp only [List.getElem?_map] at q ⊢
      cases hx : xs[i]? with
      | none =>
        rw [List.getElem?_eq_none_iff] at hx
        simp only [Option.map_none]
        exact (List.getElem?_eq_none_iff.mpr (by rw [l, List.length_map]; exact hx)).symm
      | some x =>
        obtain ⟨y, a, b⟩ := q i x.er (by rw [hx]; rfl)
        rw [a, Option.map_some, Function.comp, ih x (List.mem_of_getElem? hx) b]
def frF (F : FM) (S : Sto) (ns : List Nat) : FM := fun n => if n ∈ ns then (S[n]?).map fun o => (true, o) else F n
theorem frz_none (a : A) {d : D} (h : D.frz a.er = some d) : a.ok F S → ∀ n ∈ a.fp, F n = none := by
  induction a using A.ind generalizing d with
  | h1 s => intro _ n hn; simp [A.fp] at hn
  | h2 xs ih => intro k n hn; simp only [A.ok] at k; rw [A.fp, k.1] at hn; cases hn
  | h3 k n hd xs ih =>
    intro hk m hm
    cases k with
    | fz => simp only [A.ok, A.fp] at hk hm; rw [hk.2.2.1] at hm; cases hm
    | lk => simp [A.er, D.frz] at h
    | ow =>
      simp only [A.ok, A.fp] at hk hm
      rcases List.mem_cons.mp hm with rfl | q
      · exact hk.1.1
      · simp only [A.er, D.frz, Option.map_eq_some_iff] at h
        obtain ⟨ys, e, rfl⟩ := h
        obtain ⟨l, qq⟩ := (dfrzs_iff _ _).mp e
        rw [fps_map] at q
        obtain ⟨x, hx, q⟩ := List.mem_flatMap.mp q
        obtain ⟨i, hi⟩ := List.getElem?_of_mem hx
        obtain ⟨y, _, b⟩ := qq i x.er (by rw [ers_map, List.getElem?_map, hi]; rfl)
        exact ih x hx b ((oks_iff xs).mp hk.2.2 x hx) m q
theorem frz_fp (a : A) {d : D} (h : D.frz a.er = some d) : a.ok F S → a.frz.fp = [] := by
  induction a using A.ind generalizing d with
  | h1 s => intro _; simp [A.frz, A.fp]
  | h2 xs ih => intro k; simp only [A.ok] at k; simp [A.frz, A.fp, k.1]
  | h3 k n hd xs ih =>
    intro hk
    cases k with
    | fz => simp only [A.ok] at hk; simp [A.frz, A.fp, hk.2.2.1]
    | lk => simp [A.er, D.frz] at h
    | ow =>
      simp only [A.ok] at hk
      simp only [A.er, D.frz, Option.map_eq_some_iff] at h
      obtain ⟨ys, e, rfl⟩ := h
      obtain ⟨l, qq⟩ := (dfrzs_iff _ _).mp e
      simp only [A.frz, A.fp]
      rw [fps_map, frzs_map, List.flatMap_map, List.flatMap_eq_nil_iff]
      intro x hx
      obtain ⟨i, hi⟩ := List.getElem?_of_mem hx
      obtain ⟨y, _, b⟩ := qq i x.er (by rw [ers_map, List.getElem?_map, hi]; rfl)
      exact ih x hx b ((oks_iff xs).mp hk.2.2 x hx)
theorem frz_ok (a : A) {d : D} (h : D.frz a.er = some d) (ns : List Nat) (hF : Mono F F') (hn : ∀ n ∈ a.fp, F' n = (S[n]?).map fun o => (true, o)) : a.ok F S → a.frz.ok F' S := by
  induction a using A.ind generalizing d with
  | h1 s => intro _; simp [A.frz, A.ok]
  | h2 xs ih =>
    intro k
    have e : (A.tup xs).fp = [] := by simp only [A.ok] at k; rw [A.fp, k.1]
    exact ok_frame (a := .tup xs) hF (by rw [e]; intro n hn; cases hn) k
  | h3 k n hd xs ih =>
    intro hk
    cases k with
    | fz =>
      have e : (A.nd .fz n hd xs).fp = [] := by simp only [A.ok] at hk; rw [A.fp, hk.2.2.1]
      exact ok_frame (a := .nd .fz n hd xs) hF (by rw [e]; intro n hn; cases hn) hk
    | lk => simp [A.er, D.frz] at h
    | ow =>
      have hfp := frz_fp (F := F) (S := S) (.nd .ow n hd xs) h hk
      simp only [A.ok] at hk
      simp only [A.er, D.frz, Option.map_eq_some_iff] at h
      obtain ⟨ys, e, rfl⟩ := h
      obtain ⟨l, qq⟩ := (dfrzs_iff _ _).mp e
      simp only [A.frz, A.fp] at hfp
      simp only [A.frz, A.ok]
      refine ⟨?_, ?_, hfp, ?_⟩
      · rw [hn n (by simp [A.fp]), hk.1.2, frzs_pvs]; rfl
      · rw [frzs_map, List.length_map]; exact hk.2.1
      · rw [oks_iff, frzs_map]
        intro y hy
        obtain ⟨x, hx, rfl⟩ := List.mem_map.mp hy
        obtain ⟨i, hi⟩ := List.getElem?_of_mem hx
        obtain ⟨y, _, b⟩ := qq i x.er (by rw [ers_map, List.getElem?_map, hi]; rfl)
        exact ih x hx b (fun n hn' => hn n (by rw [A.fp, fps_map]; exact List.mem_cons_of_mem _ (List.mem_flatMap.mpr ⟨x, hx, hn'⟩))) ((oks_iff xs).mp hk.2.2 x hx)
def D.kids : D → List D
  | .sc _ => []
  | .tup xs => xs
  | .nd _ _ xs => xs
def D.wk : D → List D → D
  | .sc s, _ => .sc s
  | .tup _, ys => .tup ys
  | .nd k h _, ys => .nd k h ys
def A.kids : A → List A
  | .sc _ => []
  | .tup xs => xs
  | .nd _ _ _ xs => xs
def A.wk : A → List A → A
  | .sc s, _ => .sc s
  | .tup _, ys => .tup ys
  | .nd k n h _, ys => .nd k n h ys
def getP : List Nat → D → Option D
  | [], d => some d
  | i :: p, d => match d.kids[i]? with
    | some x => getP p x
    | none => none
def setP : List Nat → D → D → D
  | [], _, y => y
  | i :: p, d, y => match d.kids[i]? with
    | some x => d.wk (d.kids.set i (setP p x y))
    | none => d
def getA : List Nat → A → Option A
  | [], d => some d
  | i :: p, d => match d.kids[i]? with
    | some x => getA p x
    | none => none
def setA : List Nat → A → A → A
  | [], _, y => y
  | i :: p, d, y => match d.kids[i]? with
    | some x => d.wk (d.kids.set i (setA p x y))
    | none => d
theorem kids_er (a : A) : a.er.kids = a.kids.map A.er := by cases a <;> simp [A.er, A.kids, D.kids, ers_map]
theorem wk_er (a : A) (ys : List A) : (a.wk ys).er = a.er.wk (ys.map A.er) := by cases a <;> simp [A.er, A.wk, D.wk, ers_map]
theorem wk_pv (a : A) (ys : List A) (h : A.pvs ys = A.pvs a.kids) : (a.wk ys).pv = a.pv := by cases a <;> simp_all [A.pv, A.wk, A.kids]
theorem get_er : ∀ (p : List Nat) (a : A), getP p a.er = (getA p a).map A.er
  | [], a => rfl
  | i :: p, a => by
    unfold getP getA
    rw [kids_er, List.getElem?_map]
    cases a.kids[i]? with
    | none => rfl
    | some x => exact get_er p x
theorem set_er : ∀ (p : List Nat) (a y : A), (setA p a y).er = setP p a.er y.er
  | [], a, y => rfl
  | i :: p, a, y => by
    unfold setP setA
    rw [kids_er, List.getElem?_map]
    cases a.kids[i]? with
    | none => rfl
    | some x =>
      dsimp only [Option.map_some]
      rw [wk_er, List.map_set, set_er p x y]
theorem set_pv : ∀ (p : List Nat) (a y x : A), getA p a = some x → y.pv = x.pv → (setA p a y).pv = a.pv
  | [], a, y, x, h, e => by cases h; exact e
  | i :: p, a, y, x, h, e => by
    unfold getA at h
    unfold setA
    cases hk : a.kids[i]? with
    | none => rfl
    | some z =>
      rw [hk] at h
      dsimp only at h ⊢
      refine wk_pv a _ ?_
      have := set_pv p z y x h e
      rw [pvs_map, pvs_map, List.map_set, this]
      apply List.ext_getElem?
      intro j
      by_cases hj : i = j
      · subst hj
        have lt := (List.getElem?_eq_some_iff.mp hk).1
        rw [List.getElem?_set_self (by rw [List.length_map]; exact lt), List.getElem?_map, hk]; rfl
      · rw [List.getElem?_set_ne hj]
theorem fp_kids {a : A} (h : a.ok F S) (hs : a.shr = true) : A.fps a.kids = [] := by
  cases a with
  | sc s => rfl
  | tup xs => simp only [A.ok] at h; exact h.1
  | nd k n hd xs => cases k <;> simp_all [A.ok, A.kids, A.shr]
theorem ok_kids {a : A} (h : a.ok F S) : A.oks F S a.kids := by
  cases a with
  | sc s => trivial
  | tup xs => simp only [A.ok] at h; exact h.2
  | nd k n hd xs => cases k <;> simp_all [A.ok, A.kids]
theorem flat_set {xs : List A} {i : Nat} {x : A} (h : xs[i]? = some x) : ∃ L R, A.fps xs = L ++ x.fp ++ R ∧ ∀ y : A, A.fps (xs.set i y) = L ++ y.fp ++ R := by
  induction xs generalizing i with
  | nil => simp at h
  | cons z r ih =>
    cases i with
    | zero =>
      simp at h; subst h
      exact ⟨[], A.fps r, by simp [A.fps], fun y => by simp [A.fps]⟩
    | succ i =>
      obtain ⟨L, R, e, q⟩ := ih (i := i) (by simpa using h)
      exact ⟨z.fp ++ L, R, by simp [A.fps, e], fun y => by simp [A.fps, q]⟩
theorem focusT : ∀ (p : List Nat) (a x : A), a.ok F S → getA p a = some x → x.shr = false → x.ok F S ∧ ∃ L R, a.fp = L ++ x.fp ++ R ∧ (∀ y : A, (setA p a y).fp = L ++ y.fp ++ R) ∧
    (∀ F' S' (y : A), MonoT F F' → (∀ n, n ∈ L ∨ n ∈ R → F' n = F n ∧ S'[n]? = S[n]?) → y.ok F' S' → y.pv = x.pv → (setA p a y).ok F' S')
  | [], a, x, h, e, hs => by
    cases e
    exact ⟨h, [], [], by simp, fun y => by simp [setA], fun F' S' y _ _ hy _ => hy⟩
  | i :: p, a, x, h, e, hs => by
    unfold getA at e
    cases hk : a.kids[i]? with
    | none => rw [hk] at e; cases e
    | some z =>
      rw [hk] at e
      dsimp only at e
      have hz : z.ok F S := (oks_iff _).mp (ok_kids h) z (List.mem_of_getElem? hk)
      obtain ⟨hx, L, R, e1, e2, e3⟩ := focusT p z x hz e hs
      obtain ⟨L2, R2, f1, f2⟩ := flat_set hk
      have ha : a.shr = false := by
        cases hq : a.shr with
        | false => rfl
        | true =>
          have := fp_kids h hq
          rw [f1, e1] at this
          have hxn : x.fp ≠ [] := by
            cases x with
            | sc s => cases hs
            | tup xs => cases hs
            | nd k n hd xs =>
              cases k with
              | fz => cases hs
              | ow => rw [A.fp]; exact List.cons_ne_nil _ _
              | lk => rw [A.fp]; exact List.cons_ne_nil _ _
          simp only [List.append_eq_nil_iff] at this
          exact absurd this.1.2.1.2 hxn
      have hset : setA (i :: p) a = fun y => a.wk (a.kids.set i (setA p z y)) := by
        funext y; rw [setA, hk]
      cases a with
      | sc s => cases ha
      | tup xs => cases ha
      | nd k n hd xs =>
        have hp : ∀ y : A, y.pv = x.pv → A.pvs (xs.set i (setA p z y)) = A.pvs xs := fun y hy => by
          have := set_pv p z y x e hy
          rw [pvs_map, pvs_map, List.map_set, this]
          apply List.ext_getElem?
          intro j
          by_cases hj : i = j
          · subst hj
            have lt := (List.getElem?_eq_some_iff.mp hk).1
            rw [List.getElem?_set_self (by rw [List.length_map]; exact lt), List.getElem?_map, show xs[i]? = some z from hk]; rfl
          · rw [List.getElem?_set_ne hj]
        have kidok : ∀ F' S' (y : A), MonoT F F' → (∀ m, m ∈ L2 ++ L ∨ m ∈ R ++ R2 → F' m = F m ∧ S'[m]? = S[m]?) → y.ok F' S' → y.pv = x.pv → A.oks F' S' (xs.set i (setA p z y)) := fun F' S' y m hn hy hv => by
          rw [oks_iff]
          intro w hw
          obtain ⟨j, hj⟩ := List.getElem?_of_mem hw
          by_cases hij : i = j
          · subst hij
            have lt : i < xs.length := (List.getElem?_eq_some_iff.mp hk).1
            rw [List.getElem?_set_self lt] at hj
            cases hj
            exact e3 F' S' y m (fun q hq => hn q (by simp only [List.mem_append]; rcases hq with hq | hq <;> simp [hq])) hy hv
          · rw [List.getElem?_set_ne hij] at hj
            refine ok_frameT m (fun q hq => hn q ?_) ((oks_iff _).mp (ok_kids h) w (List.mem_of_getElem? hj))
            have hL : A.fps (xs.set i (.sc .non)) = L2 ++ R2 := by
              have := f2 (.sc .non)
              simpa [A.fp, A.kids] using this
            have : q ∈ A.fps (xs.set i (.sc .non)) := by
              rw [fps_map]
              exact List.mem_flatMap.mpr ⟨w, List.mem_of_getElem? (i := j) (by rw [List.getElem?_set_ne hij]; exact hj), hq⟩
            rw [hL] at this
            simp only [List.mem_append] at this ⊢
            rcases this with t | t <;> simp [t]
        cases k with
        | fz => cases ha
        | ow =>
          simp only [A.kids] at f1 f2 hk
          refine ⟨hx, n :: (L2 ++ L), R ++ R2, ?_, fun y => ?_, fun F' S' y m hn hy hv => ?_⟩
          · simp [A.fp, f1, e1]
          · rw [hset]; simp [A.wk, A.fp, A.kids, f2, e2]
          · rw [hset]
            simp only [A.ok] at h
            simp only [A.wk, A.kids, A.ok]
            rw [hp y hv, List.length_set]
            have hnn := hn n (by simp)
            rw [hnn.1, hnn.2]
            exact ⟨h.1, h.2.1, kidok F' S' y m (fun q hq => hn q (by simp only [List.mem_cons]; rcases hq with hq | hq <;> simp [hq])) hy hv⟩
        | lk =>
          simp only [A.kids] at f1 f2 hk
          refine ⟨hx, n :: (L2 ++ L), R ++ R2, ?_, fun y => ?_, fun F' S' y m hn hy hv => ?_⟩
          · simp [A.fp, f1, e1]
          · rw [hset]; simp [A.wk, A.fp, A.kids, f2, e2]
          · rw [hset]
            simp only [A.ok] at h
            simp only [A.wk, A.kids, A.ok]
            rw [hp y hv, List.length_set]
            have hnn := hn n (by simp)
            rw [hnn.1]
            exact ⟨h.1, h.2.1, kidok F' S' y m (fun q hq => hn q (by simp only [List.mem_cons]; rcases hq with hq | hq <;> simp [hq])) hy hv⟩
theorem focus (p : List Nat) (a x : A) (h : a.ok F S) (e : getA p a = some x) (hs : x.shr = false) : x.ok F S ∧ ∃ L R, a.fp = L ++ x.fp ++ R ∧ (∀ y : A, (setA p a y).fp = L ++ y.fp ++ R) ∧
    (∀ F' S' (y : A), Mono F F' → (∀ n, n ∈ L ∨ n ∈ R → F' n = F n ∧ S'[n]? = S[n]?) → y.ok F' S' → y.pv = x.pv → (setA p a y).ok F' S') := by
  obtain ⟨h1, L, R, h2, h3, h4⟩ := focusT p a x h e hs
  exact ⟨h1, L, R, h2, h3, fun F' S' y m => h4 F' S' y m.t⟩
end VL
set_option Elab.async false
set_option linter.all false
set_option maxRecDepth 100000
set_option maxHeartbeats 1000000
namespace VL
open GL (PV OB Sto Nm BT)
variable {F F' : FM} {S S' : Sto}
def Per (Q : List Nat → Prop) (x y : A) : Prop := ∀ p w, Q p → (getA p x).map A.pv = some w → (getA p y).map A.pv = some w
theorem Per.pv {Q : List Nat → Prop} {x y : A} (h : Per Q x y) (q : Q []) : y.pv = x.pv := by
  have := h [] x.pv q rfl
  simpa [getA] using this
theorem Per.refl {Q : List Nat → Prop} {x : A} : Per Q x x := fun _ _ _ h => h
theorem per_set : ∀ (q : List Nat) (a x y : A) {Q : List Nat → Prop}, getA q a = some x → y.pv = x.pv → Per Q x y → Per (fun p => ∀ s, p = q ++ s → Q s) a (setA q a y)
  | [], a, x, y, Q, h, hv, hp => by
    cases h
    intro p w hq e
    exact hp p w (hq p rfl) e
  | i :: q, a, x, y, Q, h, hv, hp => by
    intro p w hq e
    unfold getA at h
    cases hk : a.kids[i]? with
    | none => rw [hk] at h; cases h
    | some z =>
      rw [hk] at h
      dsimp only at h
      have hset : setA (i :: q) a y = a.wk (a.kids.set i (setA q z y)) := by rw [setA, hk]
      cases p with
      | nil =>
        simp only [getA, Option.map_some, Option.some.injEq] at e ⊢
        rw [set_pv (i :: q) a y x (by unfold getA; rw [hk]; exact h) hv, e]
      | cons j p =>
        have hne : a.kids ≠ [] := by intro h0; rw [h0] at hk; simp at hk
        have hkw : (a.wk (a.kids.set i (setA q z y))).kids = a.kids.set i (setA q z y) := by
          cases a with
          | sc s => exact absurd rfl hne
          | tup xs => rfl
          | nd k n hd xs => rfl
        rw [hset]
        unfold getA at e ⊢
        rw [hkw]
        by_cases hij : i = j
        · subst hij
          have lt := (List.getElem?_eq_some_iff.mp hk).1
          rw [List.getElem?_set_self lt]
          rw [hk] at e
          dsimp only at e ⊢
          exact per_set q z x y h hv hp p w (fun s hs => hq s (by rw [hs]; rfl)) e
        · rw [List.getElem?_set_ne hij]
          exact e
theorem per_frz (a : A) {d : D} (h : D.frz a.er = some d) : Per (fun _ => True) a a.frz := by
  induction a using A.ind generalizing d with
  | h1 s => exact Per.refl
  | h2 xs ih => exact Per.refl
  | h3 k n hd xs ih =>
    cases k with
    | fz => exact Per.refl
    | lk => exact Per.refl
    | ow =>
      simp only [A.er, D.frz, Option.map_eq_some_iff] at h
      obtain ⟨ys, e, rfl⟩ := h
      obtain ⟨l, qq⟩ := (dfrzs_iff _ _).mp e
      intro p w _ hp
      cases p with
      | nil => simpa [getA, A.frz, A.pv] using hp
      | cons i p =>
        unfold getA at hp ⊢
        simp only [A.frz, A.kids, frzs_map, List.getElem?_map] at hp ⊢
        cases hx : xs[i]? with
        | none => rw [hx] at hp; cases hp
        | some x =>
          rw [hx] at hp
          dsimp only [Option.map_some] at hp ⊢
          obtain ⟨y, _, b⟩ := qq i x.er (by rw [ers_map, List.getElem?_map, hx]; rfl)
          exact ih x (List.mem_of_getElem? hx) b p w trivial hp
inductive Rt where
  | l (i : Nat) | g (j : Nat)
  deriving DecidableEq, Inhabited
inductive V where
  | v (d : D) | io (d : D) | al (r : Rt) (p : List Nat) | xn (C : Nm) (ns : List Nm) (ds : List D)
  deriving Inhabited
abbrev Ls := List (Option V)
structure Exn where
  cls : Nm
  ns : List Nm
  ds : List D
inductive Out (α : Type) where
  | ok (a : α) (ls gh : Ls)
  | exc (e : Exn) (ls gh : Ls)
  | bad
inductive SOut where
  | nx (ls gh : Ls)
  | rt (d : D) (gh : Ls)
  | bk (ls gh : Ls)
  | ct (ls gh : Ls)
  | exc (e : Exn) (ls gh : Ls)
  | bad
inductive RV where
  | v (d : D) | pth (r : Rt) (p : List Nat)
  deriving Inhabited
inductive AV where
  | un (o : Option PV) | v (a : A) | io (a : A) | al (r : Rt) (p : List Nat) | xn (C : Nm) (ns : List Nm) (xs : List A)
  deriving Inhabited
def AV.er : AV → Option V
  | .un _ => none
  | .v a => some (.v a.er)
  | .io a => some (.io a.er)
  | .al r p => some (.al r p)
  | .xn C ns xs => some (.xn C ns (A.ers xs))
abbrev erS (as : List AV) : Ls := as.map AV.er
def slotD : Option (Option V) → Option D
  | some (some (.v d)) => some d
  | some (some (.io d)) => some d
  | _ => none
def rootD (ls gh : Ls) : Rt → Option D
  | .l i => slotD ls[i]?
  | .g j => slotD gh[j]?
def slotA : Option AV → Option A
  | some (.v a) => some a
  | some (.io a) => some a
  | _ => none
def rootA (as ag : List AV) : Rt → Option A
  | .l i => slotA as[i]?
  | .g j => slotA ag[j]?
theorem slot_er (x : Option AV) : slotD (x.map AV.er) = (slotA x).map A.er := by
  cases x with
  | none => rfl
  | some x => cases x <;> rfl
theorem root_er (as ag : List AV) (r : Rt) : rootD (erS as) (erS ag) r = (rootA as ag r).map A.er := by
  cases r <;> simp only [rootD, rootA, erS, List.getElem?_map, slot_er]
def atD (ls gh : Ls) (r : Rt) (p : List Nat) : Option D := (rootD ls gh r).bind (getP p)
def atA (as ag : List AV) (r : Rt) (p : List Nat) : Option A := (rootA as ag r).bind (getA p)
theorem at_er (as ag : List AV) (r : Rt) (p : List Nat) : atD (erS as) (erS ag) r p = (atA as ag r p).map A.er := by
  unfold atD atA
  rw [root_er]
  cases rootA as ag r with
  | none => rfl
  | some a => exact get_er p a
def glv (as ag : List AV) (ad : Nat × Nat) : AV → Option PV
  | .un o => o
  | .v a => some a.pv
  | .io a => some a.pv
  | .al r p => (atA as ag r p).map A.pv
  | .xn C ns xs => some (.xn ad.1 ad.2 C ns (A.pvs xs))
abbrev glS (as ag : List AV) (ad : Nat × Nat) (zs : List AV) : GL.Ls := zs.map (glv as ag ad)
def AV.fp : AV → List Nat
  | .v a => a.fp
  | .io a => a.fp
  | _ => []
def AV.ok (F : FM) (S : Sto) : AV → Prop
  | .v a => a.ok F S
  | .io a => a.ok F S
  | .xn _ _ xs => A.fps xs = [] ∧ A.oks F S xs
  | _ => True
def fpS (zs : List AV) : List Nat := zs.flatMap AV.fp
@[simp] theorem fpS_nil : fpS [] = [] := rfl
theorem fpS_cons (z : AV) (r : List AV) : fpS (z :: r) = z.fp ++ fpS r := rfl
theorem fpS_app (z r : List AV) : fpS (z ++ r) = fpS z ++ fpS r := by simp [fpS]
def Alive (as ag : List AV) (z : AV) : Prop := match z with
  | .al r p => (atA as ag r p).isSome = true
  | _ => True
structure Good (F : FM) (S : Sto) (as ag : List AV) : Prop where
  fs : FS F S
  ok : ∀ z ∈ as ++ ag, z.ok F S
  nd : (fpS (as ++ ag)).Nodup
  al : ∀ z ∈ as ++ ag, Alive as ag z
structure Ev (q : Bool) (F : FM) (S : Sto) (as ag : List AV) (x0 : List Nat) (F' : FM) (S' : Sto) (as' ag' : List AV) (x : List Nat) : Prop where
  good : Good F' S' as' ag'
  nd : (fpS (as' ++ ag') ++ x).Nodup
  lt : ∀ n ∈ x, n < S'.length
  mono : Mono F F'
  len : S.length ≤ S'.length
  keep : ∀ n, n < S.length → n ∉ fpS (as ++ ag) ++ x0 → F' n = F n ∧ S'[n]? = S[n]?
  new : ∀ n, n ∈ fpS (as' ++ ag') ++ x → n ∈ fpS (as ++ ag) ++ x0 ∨ S.length ≤ n
  gl : ∀ ad, glS as' ag' ad as' = glS as ag ad as
  gg : ∀ ad, glS as' ag' ad ag' = glS as ag ad ag
  rt : ∀ r w, (rootA as ag r).map A.pv = some w → (rootA as' ag' r).map A.pv = some w
  per : q = true → ∀ r p w, (atA as ag r p).map A.pv = some w → (atA as' ag' r p).map A.pv = some w
section
variable {as as' as'' ag ag' ag'' : List AV} {x0 x x1 x2 : List Nat} {q q' : Bool} {F'' : FM} {S'' : Sto}
theorem Ev.refl (g : Good F S as ag) (nd : (fpS (as ++ ag) ++ x).Nodup) (lt : ∀ n ∈ x, n < S.length) : Ev q F S as ag x F S as ag x :=
  ⟨g, nd, lt, Mono.refl, Nat.le_refl _, fun _ _ _ => ⟨rfl, rfl⟩, fun _ h => .inl h, fun _ => rfl, fun _ => rfl, fun _ _ h => h, fun _ _ _ _ h => h⟩
theorem Ev.trans (a : Ev q F S as ag x0 F' S' as' ag' x1) (b : Ev q' F' S' as' ag' x1 F'' S'' as'' ag'' x2) : Ev (q && q') F S as ag x0 F'' S'' as'' ag'' x2 where
  good := b.good
  nd := b.nd
  lt := b.lt
  mono := a.mono.trans b.mono
  len := Nat.le_trans a.len b.len
  keep := fun n hn hx => by
    have h1 := a.keep n hn hx
    have h2 := b.keep n (Nat.lt_of_lt_of_le hn a.len) fun h => by
      rcases a.new n h with h | h
      · exact hx h
      · exact absurd hn (Nat.not_lt.mpr h)
    exact ⟨h2.1.trans h1.1, h2.2.trans h1.2⟩
  new := fun n hn => by
    rcases b.new n hn with h | h
    · exact a.new n h
    · exact .inr (Nat.le_trans a.len h)
  gl := fun ad => (b.gl ad).trans (a.gl ad)
  gg := fun ad => (b.gg ad).trans (a.gg ad)
  rt := fun r w h => b.rt r w (a.rt r w h)
  per := fun hq r p w h => by
    obtain ⟨h1, h2⟩ := Bool.and_eq_true_iff.mp hq
    exact b.per h2 r p w (a.per h1 r p w h)
theorem Ev.weak (a : Ev q F S as ag x0 F' S' as' ag' x) (h : q' = true → q = true) : Ev q' F S as ag x0 F' S' as' ag' x :=
  ⟨a.good, a.nd, a.lt, a.mono, a.len, a.keep, a.new, a.gl, a.gg, a.rt, fun e => a.per (h e)⟩
theorem Ev.sub (a : Ev q F S as ag x0 F' S' as' ag' x) {y : List Nat} (h : y.Sublist x) : Ev q F S as ag x0 F' S' as' ag' y :=
  ⟨a.good, a.nd.sublist (List.Sublist.append_left h _), fun n hn => a.lt n (h.subset hn), a.mono, a.len, a.keep, fun n hn => a.new n (by
    rcases List.mem_append.mp hn with t | t
    · exact List.mem_append_left _ t
    · exact List.mem_append_right _ (h.subset t)), a.gl, a.gg, a.rt, a.per⟩
theorem nodup_app_comm3 {a b c : List Nat} (h : (a ++ (b ++ c)).Nodup) : (a ++ (c ++ b)).Nodup := by
  refine (List.Perm.nodup_iff ?_).mp h
  exact (List.Perm.append_left _ List.perm_append_comm)
theorem Ev.frame (a : Ev q F S as ag x0 F' S' as' ag' x) {z : List Nat} (hn : (fpS (as ++ ag) ++ (z ++ x0)).Nodup) (hz : ∀ n ∈ z, n < S.length) : Ev q F S as ag (z ++ x0) F' S' as' ag' (z ++ x) := by
  have hd : ∀ n ∈ z, n ∉ fpS (as ++ ag) ++ x0 := fun n hz hx => by
    have h1 := List.nodup_append.mp hn
    have h2 := List.nodup_append.mp h1.2.1
    rcases List.mem_append.mp hx with t | t
    · exact h1.2.2 n t n (List.mem_append_left _ hz) rfl
    · exact h2.2.2 n hz n t rfl
  have hd2 : ∀ n ∈ z, n ∉ fpS (as' ++ ag') ++ x := fun n hz' hx => by
    rcases a.new n hx with t | t
    · exact hd n hz' t
    · exact absurd (hz n hz') (Nat.not_lt.mpr t)
  refine ⟨a.good, ?_, fun n hn => ?_, a.mono, a.len, fun n hl hx => a.keep n hl fun h => hx ?_, fun n h => ?_, a.gl, a.gg, a.rt, a.per⟩
  · have h1 := List.nodup_append.mp a.nd
    refine List.nodup_append.mpr ⟨h1.1, List.nodup_append.mpr ⟨?_, h1.2.1, fun n h m h' e => ?_⟩, fun n h m h' e => ?_⟩
    · exact (List.nodup_append.mp (List.nodup_append.mp hn).2.1).1
    · exact hd2 n h (e ▸ List.mem_append_right _ h')
    · rcases List.mem_append.mp h' with t | t
      · exact hd2 m t (e ▸ List.mem_append_left _ h)
      · exact h1.2.2 n h m t e
  · rcases List.mem_append.mp hn with t | t
    · exact Nat.lt_of_lt_of_le (hz n t) a.len
    · exact a.lt n t
  · rcases List.mem_append.mp h with t | t
    · exact List.mem_append_left _ t
    · exact List.mem_append_right _ (List.mem_append_right _ t)
  · have : n ∈ z ∨ n ∈ fpS (as' ++ ag') ++ x := by
      simp only [List.mem_append] at h ⊢
      rcases h with h | h | h <;> simp [h]
    rcases this with t | t
    · exact .inl (List.mem_append_right _ (List.mem_append_left _ t))
    · rcases a.new n t with u | u
      · left
        simp only [List.mem_append] at u ⊢
        rcases u with u | u <;> simp [u]
      · exact .inr u
theorem Ev.stay (a : Ev q F S as ag x0 F' S' as' ag' x) {z : A} (h : z.ok F S) (hn : (fpS (as ++ ag) ++ (z.fp ++ x0)).Nodup) (fs : FS F S) : z.ok F' S' :=
  ok_frame a.mono (fun n hz => a.keep n (fp_lt fs h n hz) fun hx => by
    have h1 := List.nodup_append.mp hn
    have h2 := List.nodup_append.mp h1.2.1
    rcases List.mem_append.mp hx with t | t
    · exact h1.2.2 n t n (List.mem_append_left _ hz) rfl
    · exact h2.2.2 n hz n t rfl) h
end
structure RT (α β γ : Type) where
  er : γ → β
  pv : List AV → List AV → γ → Option α
  ok : FM → Sto → γ → Prop
  fp : γ → List Nat
inductive ARV where
  | v (a : A) | pth (r : Rt) (p : List Nat)
def ARV.er : ARV → RV
  | .v a => .v a.er
  | .pth r p => .pth r p
def ARV.pv (as ag : List AV) : ARV → Option PV
  | .v a => some a.pv
  | .pth r p => (atA as ag r p).map A.pv
def ARV.ok (F : FM) (S : Sto) : ARV → Prop
  | .v a => a.ok F S
  | .pth _ _ => True
def ARV.fp : ARV → List Nat
  | .v a => a.fp
  | .pth _ _ => []
def RE : RT PV RV ARV := ⟨ARV.er, ARV.pv, ARV.ok, ARV.fp⟩
def RB : RT Bool Bool Bool := ⟨id, fun _ _ b => some b, fun _ _ _ => True, fun _ => []⟩
def RO : RT (Option Int) (Option Int) (Option Int) := ⟨id, fun _ _ b => some b, fun _ _ _ => True, fun _ => []⟩
def seqO {α : Type} : List (Option α) → Option (List α)
  | [] => some []
  | x :: r => match x, seqO r with
    | some y, some ys => some (y :: ys)
    | _, _ => none
def RA : RT (List PV) (List RV) (List ARV) := ⟨List.map ARV.er, fun as ag cs => seqO (cs.map (ARV.pv as ag)), fun F S cs => ∀ c ∈ cs, c.ok F S, List.flatMap ARV.fp⟩
structure AE where
  cls : Nm
  ns : List Nm
  xs : List A
def AE.er (e : AE) : Exn := ⟨e.cls, e.ns, A.ers e.xs⟩
def AE.gl (e : AE) : GL.Exn := ⟨e.cls, e.ns.zip (A.pvs e.xs)⟩
def AE.ok (F : FM) (S : Sto) (e : AE) : Prop := e.ns.length = e.xs.length ∧ A.fps e.xs = [] ∧ A.oks F S e.xs
abbrev AD := Nat × Nat
abbrev PX (β : Type) := Ls → Ls → Out β
def SimO {α β γ : Type} (q : Bool) (R : RT α β γ) (F : FM) (S : Sto) (as ag : List AV) (x0 : List Nat) (o : AD → GL.Out α) (p : Out β) : Prop := match p with
  | .ok b ls' gh' => ∃ F' S' as' ag' c w, erS as' = ls' ∧ erS ag' = gh' ∧ R.er c = b ∧ (∀ ad, o ad = .ok w S') ∧ R.pv as' ag' c = some w ∧ R.ok F' S' c ∧ Ev q F S as ag x0 F' S' as' ag' (R.fp c)
  | .exc e ls' gh' => ∃ F' S' as' ag' x, erS as' = ls' ∧ erS ag' = gh' ∧ AE.er x = e ∧ (∀ ad, o ad = .exc x.gl S') ∧ x.ok F' S' ∧ Ev q F S as ag x0 F' S' as' ag' []
  | .bad => True
def SimX {α β γ : Type} (q : Bool) (R : RT α β γ) (m : AD → GL.Ls → Sto → GL.Out α) (p : PX β) : Prop :=
  ∀ F S as ag, Good F S as ag → SimO q R F S as ag [] (fun ad => m ad (glS as ag ad as) S) (p (erS as) (erS ag))
abbrev SimE (q : Bool) (m : AD → GL.ME) (p : PX RV) : Prop := SimX q RE m p
abbrev SimT (q : Bool) (m : AD → GL.MT) (p : PX Bool) : Prop := SimX q RB m p
abbrev SimA (q : Bool) (m : AD → GL.MA) (p : PX (List RV)) : Prop := SimX q RA m p
def Out.bind {α β : Type} (o : Out α) (f : α → Ls → Ls → Out β) : Out β := match o with
  | .ok a ls gh => f a ls gh
  | .exc e ls gh => .exc e ls gh
  | .bad => .bad
theorem SimO.weak {α β γ : Type} {R : RT α β γ} {q q' : Bool} {as ag : List AV} {x0 : List Nat} {o : AD → GL.Out α} {p : Out β} (h : SimO q R F S as ag x0 o p) (hq : q' = true → q = true) : SimO q' R F S as ag x0 o p := by
  cases p with
  | ok b ls gh => obtain ⟨F', S', as', ag', c, w, a1, a2, a3, a4, a5, a6, a7⟩ := h; exact ⟨F', S', as', ag', c, w, a1, a2, a3, a4, a5, a6, a7.weak hq⟩
  | exc e ls gh => obtain ⟨F', S', as', ag', x, a1, a2, a3, a4, a5, a7⟩ := h; exact ⟨F', S', as', ag', x, a1, a2, a3, a4, a5, a7.weak hq⟩
  | bad => trivial
end VL
set_option Elab.async false
set_option linter.all false
set_option maxRecDepth 100000
set_option maxHeartbeats 1000000
namespace VL
open GL (PV OB Sto Nm BT)
variable {F F' : FM} {S S' : Sto}
def cut : List Nat → List Nat → Option (List Nat)
  | [], s => some s
  | i :: p, j :: s => if i = j then cut p s else none
  | _ :: _, [] => none
theorem cut_some : ∀ {p q s : List Nat}, cut p q = some s → q = p ++ s
  | [], q, s, h => by cases h; rfl
  | i :: p, [], s, h => by cases h
  | i :: p, j :: q, s, h => by
    unfold cut at h
    split at h
    · rename_i e; rw [cut_some h, e]; rfl
    · cases h
theorem cut_app : ∀ (p s : List Nat), cut p (p ++ s) = some s
  | [], s => rfl
  | i :: p, s => by show cut (i :: p) (i :: (p ++ s)) = _; unfold cut; rw [if_pos rfl]; exact cut_app p s
def lives (t : List Nat → Bool) (r : Rt) (p : List Nat) (r' : Rt) (p' : List Nat) : Bool :=
  if r' = r then (match cut p p' with
    | some s => t s
    | none => true) else true
theorem lives_all {t : List Nat → Bool} {r r' : Rt} {p p' : List Nat} (h : ∀ s, t s = true) : lives t r p r' p' = true := by
  unfold lives
  split
  · split
    · exact h _
    · rfl
  · rfl
def killD (t : List Nat → Bool) (r : Rt) (p : List Nat) : Option V → Option V
  | some (.al r' p') => if lives t r p r' p' = true then some (.al r' p') else none
  | z => z
def putV (d : D) : Option V → Option V
  | some (.v _) => some (.v d)
  | some (.io _) => some (.io d)
  | z => z
def modN {α : Type} (f : α → α) : Nat → List α → List α
  | _, [] => []
  | 0, x :: r => f x :: r
  | i + 1, x :: r => x :: modN f i r
theorem modN_map {α β : Type} (e : α → β) (f : α → α) (g : β → β) (h : ∀ x, e (f x) = g (e x)) : ∀ (i : Nat) (xs : List α), (modN f i xs).map e = modN g i (xs.map e)
  | _, [] => by simp [modN]
  | 0, x :: r => by simp [modN, h]
  | i + 1, x :: r => by simp [modN, modN_map e f g h i r]
theorem modN_get {α : Type} (f : α → α) : ∀ (i j : Nat) (xs : List α), (modN f i xs)[j]? = if i = j then xs[j]?.map f else xs[j]?
  | _, _, [] => by simp [modN]
  | 0, 0, x :: r => by simp [modN]
  | 0, j + 1, x :: r => by simp [modN]
  | i + 1, 0, x :: r => by simp [modN]
  | i + 1, j + 1, x :: r => by simp [modN, modN_get f i j r]
def chD (t : List Nat → Bool) (r : Rt) (p : List Nat) (y : D) (ls gh : Ls) : Ls × Ls :=
  let z := (rootD ls gh r).map fun d => setP p d y
  match r, z with
  | .l i, some d => (modN (putV d) i (ls.map (killD t r p)), gh.map (killD t r p))
  | .g j, some d => (ls.map (killD t r p), modN (putV d) j (gh.map (killD t r p)))
  | _, none => (ls, gh)
def killA (as ag : List AV) (t : List Nat → Bool) (r : Rt) (p : List Nat) : AV → AV
  | .al r' p' => if lives t r p r' p' = true then .al r' p' else .un ((atA as ag r' p').map A.pv)
  | z => z
def putA (a : A) : AV → AV
  | .v _ => .v a
  | .io _ => .io a
  | z => z
def chA (t : List Nat → Bool) (r : Rt) (p : List Nat) (y : A) (as ag : List AV) : List AV × List AV :=
  let z := (rootA as ag r).map fun d => setA p d y
  match r, z with
  | .l i, some d => (modN (putA d) i (as.map (killA as ag t r p)), ag.map (killA as ag t r p))
  | .g j, some d => (as.map (killA as ag t r p), modN (putA d) j (ag.map (killA as ag t r p)))
  | _, none => (as, ag)
theorem kill_er (as ag : List AV) (t : List Nat → Bool) (r : Rt) (p : List Nat) (z : AV) : (killA as ag t r p z).er = killD t r p z.er := by
  cases z with
  | al r' p' => simp only [killA, AV.er, killD]; by_cases h : lives t r p r' p' = true <;> simp [h]
  | _ => rfl
theorem put_er (a : A) (z : AV) : (putA a z).er = putV a.er z.er := by cases z <;> rfl
theorem ch_er (t : List Nat → Bool) (r : Rt) (p : List Nat) (y : A) (as ag : List AV) : (erS (chA t r p y as ag).1, erS (chA t r p y as ag).2) = chD t r p y.er (erS as) (erS ag) := by
  have k : ∀ zs : List AV, erS (zs.map (killA as ag t r p)) = (erS zs).map (killD t r p) := fun zs => by
    simp only [erS, List.map_map]
    exact List.map_congr_left fun z _ => kill_er as ag t r p z
  unfold chA chD
  rw [root_er]
  cases r with
  | l i =>
    cases h : rootA as ag (.l i) with
    | none => rfl
    | some a =>
      simp only [Option.map_some]
      rw [← set_er, ← k, ← k]
      congr 1
      exact modN_map _ _ _ (fun x => put_er _ x) i _
  | g i =>
    cases h : rootA as ag (.g i) with
    | none => rfl
    | some a =>
      simp only [Option.map_some]
      rw [← set_er, ← k, ← k]
      congr 1
      exact modN_map _ _ _ (fun x => put_er _ x) i _
theorem kill_fp (as ag : List AV) (t : List Nat → Bool) (r : Rt) (p : List Nat) (z : AV) : (killA as ag t r p z).fp = z.fp := by
  cases z with
  | al r' p' => simp only [killA]; split <;> rfl
  | _ => rfl
theorem kill_fpS (as ag : List AV) (t : List Nat → Bool) (r : Rt) (p : List Nat) (zs : List AV) : fpS (zs.map (killA as ag t r p)) = fpS zs := by
  unfold fpS
  rw [List.flatMap_map]
  exact congrArg List.flatten (List.map_congr_left fun z _ => kill_fp as ag t r p z)
theorem kill_slot (as ag : List AV) (t : List Nat → Bool) (r : Rt) (p : List Nat) (z : Option AV) : slotA (z.map (killA as ag t r p)) = slotA z := by
  cases z with
  | none => rfl
  | some z =>
    cases z with
    | al r' p' => simp only [Option.map_some, killA]; split <;> rfl
    | _ => rfl
theorem slot_some {z : Option AV} {a : A} (h : slotA z = some a) : z = some (.v a) ∨ z = some (.io a) := by
  cases z with
  | none => cases h
  | some z => cases z <;> simp_all [slotA]
theorem mod_fp {zs : List AV} {i : Nat} {a : A} (h : slotA zs[i]? = some a) : ∃ L R, fpS zs = L ++ a.fp ++ R ∧ ∀ b : A, fpS (modN (putA b) i zs) = L ++ b.fp ++ R := by
  induction zs generalizing i with
  | nil => simp [slotA] at h
  | cons z r ih =>
    cases i with
    | zero =>
      refine ⟨[], fpS r, ?_, fun b => ?_⟩
      · rcases slot_some h with e | e <;> (simp at e; subst e; simp [fpS, AV.fp])
      · rcases slot_some h with e | e <;> (simp at e; subst e; simp [fpS, AV.fp, modN, putA])
    | succ i =>
      obtain ⟨L, R, e1, e2⟩ := ih (i := i) (by simpa using h)
      exact ⟨z.fp ++ L, R, by simp [fpS_cons, e1], fun b => by simp [modN, fpS_cons, e2]⟩
section
variable {t : List Nat → Bool} {r : Rt} {p : List Nat} {as ag : List AV} {a x y : A}
theorem ch_root (hr : rootA as ag r = some a) (r' : Rt) : rootA (chA t r p y as ag).1 (chA t r p y as ag).2 r' = if r' = r then some (setA p a y) else rootA as ag r' := by
  unfold chA
  rw [hr]
  cases r with
  | l i =>
    simp only [Option.map_some]
    cases r' with
    | l j =>
      simp only [rootA, modN_get, Rt.l.injEq, List.getElem?_map]
      by_cases hij : i = j
      · subst hij
        simp only [if_true, List.getElem?_map]
        rcases slot_some (show slotA as[i]? = some a from hr) with e | e <;> (rw [e]; rfl)
      · rw [if_neg hij, if_neg (fun e => hij e.symm)]
        rw [← List.getElem?_map, List.getElem?_map, kill_slot]
    | g j => simp only [rootA, List.getElem?_map, kill_slot, reduceCtorEq, if_false]
  | g i =>
    simp only [Option.map_some]
    cases r' with
    | g j =>
      simp only [rootA, modN_get, Rt.g.injEq, List.getElem?_map]
      by_cases hij : i = j
      · subst hij
        simp only [if_true, List.getElem?_map]
        rcases slot_some (show slotA ag[i]? = some a from hr) with e | e <;> (rw [e]; rfl)
      · rw [if_neg hij, if_neg (fun e => hij e.symm)]
        rw [← List.getElem?_map, List.getElem?_map, kill_slot]
    | l j => simp only [rootA, List.getElem?_map, kill_slot, reduceCtorEq, if_false]
theorem ch_fp (hr : rootA as ag r = some a) : ∃ L R, fpS (as ++ ag) = L ++ a.fp ++ R ∧ fpS ((chA t r p y as ag).1 ++ (chA t r p y as ag).2) = L ++ (setA p a y).fp ++ R := by
  unfold chA
  rw [hr]
  cases r with
  | l i =>
    simp only [Option.map_some]
    have h2 : slotA (as.map (killA as ag t (.l i) p))[i]? = some a := by rw [List.getElem?_map, kill_slot]; exact hr
    obtain ⟨L, R, e1, e2⟩ := mod_fp h2
    refine ⟨L, R ++ fpS ag, ?_, ?_⟩
    · rw [kill_fpS] at e1
      rw [fpS_app, e1]; simp
    · rw [fpS_app, e2, kill_fpS]; simp
  | g i =>
    simp only [Option.map_some]
    have h2 : slotA (ag.map (killA as ag t (.g i) p))[i]? = some a := by rw [List.getElem?_map, kill_slot]; exact hr
    obtain ⟨L, R, e1, e2⟩ := mod_fp h2
    refine ⟨fpS as ++ L, R, ?_, ?_⟩
    · rw [kill_fpS] at e1
      rw [fpS_app, e1]; simp
    · rw [fpS_app, e2, kill_fpS]; simp
theorem modN_take {α : Type} {f : α → α} : ∀ {i : Nat} {zs : List α} {z : α}, zs[i]? = some z → modN f i zs = zs.take i ++ f z :: zs.drop (i + 1)
  | _, [], _, h => by simp at h
  | 0, x :: r, z, h => by simp at h; subst h; rfl
  | i + 1, x :: r, z, h => by
    have e := modN_take (f := f) (i := i) (zs := r) (z := z) (by simpa using h)
    rw [modN, e]; rfl
theorem take_self {α : Type} {i : Nat} {zs : List α} {z : α} (h : zs[i]? = some z) : zs = zs.take i ++ z :: zs.drop (i + 1) := by
  have e := modN_take (f := id) h
  rw [id] at e
  rw [← e]
  apply List.ext_getElem?
  intro j
  rw [modN_get]
  split <;> simp
theorem split_root (hr : rootA as ag r = some a) : ∃ Z1 zr Z2, as ++ ag = Z1 ++ zr :: Z2 ∧ (zr = .v a ∨ zr = .io a) ∧ (chA t r p y as ag).1 ++ (chA t r p y as ag).2 = Z1.map (killA as ag t r p) ++ putA (setA p a y) zr :: Z2.map (killA as ag t r p) := by
  unfold chA
  rw [hr]
  have key : ∀ (i : Nat) (zs : List AV), slotA zs[i]? = some a → ∃ A zr B, zs = A ++ zr :: B ∧ (zr = .v a ∨ zr = .io a) ∧ modN (putA (setA p a y)) i (zs.map (killA as ag t r p)) = A.map (killA as ag t r p) ++ putA (setA p a y) zr :: B.map (killA as ag t r p) := fun i zs hs => by
    have : ∃ zr, zs[i]? = some zr ∧ (zr = .v a ∨ zr = .io a) := by
      rcases slot_some hs with e | e
      · exact ⟨_, e, .inl rfl⟩
      · exact ⟨_, e, .inr rfl⟩
    obtain ⟨zr, hz, hc⟩ := this
    have hk : killA as ag t r p zr = zr := by rcases hc with rfl | rfl <;> rfl
    refine ⟨zs.take i, zr, zs.drop (i + 1), take_self hz, hc, ?_⟩
    rw [modN_take (z := zr) (by rw [List.getElem?_map, hz, Option.map_some, hk]), List.map_take, List.map_drop]
  cases r with
  | l i =>
    obtain ⟨A, zr, B, e1, e2, e3⟩ := key i as hr
    refine ⟨A, zr, B ++ ag, by rw [e1]; simp, e2, ?_⟩
    simp only [Option.map_some]
    rw [e3]; simp
  | g i =>
    obtain ⟨A, zr, B, e1, e2, e3⟩ := key i ag hr
    refine ⟨as ++ A, zr, B, by rw [e1]; simp, e2, ?_⟩
    simp only [Option.map_some]
    rw [e3]; simp
theorem mem_ch (nd : (fpS (as ++ ag)).Nodup) (hr : rootA as ag r = some a) {z : AV} (h : z ∈ (chA t r p y as ag).1 ++ (chA t r p y as ag).2) : (∃ z0 ∈ as ++ ag, z = killA as ag t r p z0 ∧ ∀ n ∈ z0.fp, n ∉ a.fp) ∨ z = .v (setA p a y) ∨ z = .io (setA p a y) := by
  obtain ⟨Z1, zr, Z2, e1, e2, e3⟩ := split_root (t := t) (p := p) (y := y) hr
  rw [e3] at h
  have hzr : zr.fp = a.fp := by rcases e2 with rfl | rfl <;> rfl
  have nd' : (fpS Z1 ++ (a.fp ++ fpS Z2)).Nodup := by rw [← hzr, ← fpS_cons, ← fpS_app, ← e1]; exact nd
  have d1 := List.nodup_append.mp nd'
  have d2 := List.nodup_append.mp d1.2.1
  rcases List.mem_append.mp h with h | h
  · obtain ⟨z0, h0, rfl⟩ := List.mem_map.mp h
    refine .inl ⟨z0, by rw [e1]; exact List.mem_append_left _ h0, rfl, fun n hn hx => d1.2.2 n (List.mem_flatMap.mpr ⟨z0, h0, hn⟩) n (List.mem_append_left _ hx) rfl⟩
  · rcases List.mem_cons.mp h with rfl | h
    · rcases e2 with rfl | rfl
      · exact .inr (.inl rfl)
      · exact .inr (.inr rfl)
    · obtain ⟨z0, h0, rfl⟩ := List.mem_map.mp h
      exact .inl ⟨z0, by rw [e1]; exact List.mem_append_right _ (List.mem_cons_of_mem _ h0), rfl, fun n hn hx => d2.2.2 n hx n (List.mem_flatMap.mpr ⟨z0, h0, hn⟩) rfl⟩
theorem ch_per (hr : rootA as ag r = some a) (hx : getA p a = some x) (hv : y.pv = x.pv) (hp : Per (fun s => t s = true) x y) {r' : Rt} {p' : List Nat} (hl : lives t r p r' p' = true) {w : PV} (h : (atA as ag r' p').map A.pv = some w) :
    (atA (chA t r p y as ag).1 (chA t r p y as ag).2 r' p').map A.pv = some w := by
  unfold atA at h ⊢
  rw [ch_root hr]
  split
  · rename_i e; subst e
    rw [hr] at h
    refine per_set p a x y hx hv hp p' w (fun s hs => ?_) h
    unfold lives at hl
    rw [if_pos rfl, hs, cut_app] at hl
    exact hl
  · exact h
theorem ch_glv (hr : rootA as ag r = some a) (hx : getA p a = some x) (hv : y.pv = x.pv) (hp : Per (fun s => t s = true) x y) (hal : ∀ z ∈ as ++ ag, Alive as ag z) (ad : Nat × Nat) {z : AV} (hz : z ∈ as ++ ag) :
    glv (chA t r p y as ag).1 (chA t r p y as ag).2 ad (killA as ag t r p z) = glv as ag ad z := by
  cases z with
  | al r' p' =>
    simp only [killA]
    split
    · rename_i hl
      have hs : (atA as ag r' p').isSome = true := hal _ hz
      obtain ⟨b, hb⟩ := Option.isSome_iff_exists.mp hs
      simp only [glv]
      rw [ch_per hr hx hv hp hl (w := b.pv) (by rw [hb]; rfl), hb]; rfl
    · rfl
  | _ => rfl
theorem ch_gl (hr : rootA as ag r = some a) (hx : getA p a = some x) (hv : y.pv = x.pv) (hp : Per (fun s => t s = true) x y) (hal : ∀ z ∈ as ++ ag, Alive as ag z) (ad : Nat × Nat) :
    glS (chA t r p y as ag).1 (chA t r p y as ag).2 ad (chA t r p y as ag).1 = glS as ag ad as ∧ glS (chA t r p y as ag).1 (chA t r p y as ag).2 ad (chA t r p y as ag).2 = glS as ag ad ag := by
  have sv := set_pv p a y x hx hv
  have plain : ∀ zs : List AV, (∀ z ∈ zs, z ∈ as ++ ag) → (zs.map (killA as ag t r p)).map (glv (chA t r p y as ag).1 (chA t r p y as ag).2 ad) = zs.map (glv as ag ad) := fun zs hz => by
    rw [List.map_map]
    exact List.map_congr_left fun z h => ch_glv hr hx hv hp hal ad (hz z h)
  have md : ∀ (i : Nat) (zs : List AV), slotA zs[i]? = some a → (∀ z ∈ zs, z ∈ as ++ ag) → (modN (putA (setA p a y)) i (zs.map (killA as ag t r p))).map (glv (chA t r p y as ag).1 (chA t r p y as ag).2 ad) = zs.map (glv as ag ad) := fun i zs hs hz => by
    rw [← plain zs hz]
    apply List.ext_getElem?
    intro j
    rw [List.getElem?_map, modN_get, List.getElem?_map]
    split
    · rename_i e; subst e
      rw [List.getElem?_map]
      rcases slot_some hs with e | e
      · simp [e, killA, putA, glv, sv]
      · simp [e, killA, putA, glv, sv]
    · rw [List.getElem?_map, List.getElem?_map]
  have ha := plain as (fun z h => List.mem_append_left _ h)
  have hg := plain ag (fun z h => List.mem_append_right _ h)
  cases r with
  | l i =>
    have hm := md i as hr (fun z h => List.mem_append_left _ h)
    have e : chA t (.l i) p y as ag = (modN (putA (setA p a y)) i (as.map (killA as ag t (.l i) p)), ag.map (killA as ag t (.l i) p)) := by unfold chA; rw [hr]; rfl
    rw [e] at hm hg ⊢
    exact ⟨hm, hg⟩
  | g i =>
    have hm := md i ag hr (fun z h => List.mem_append_right _ h)
    have e : chA t (.g i) p y as ag = (as.map (killA as ag t (.g i) p), modN (putA (setA p a y)) i (ag.map (killA as ag t (.g i) p))) := by unfold chA; rw [hr]; rfl
    rw [e] at hm ha ⊢
    exact ⟨ha, hm⟩
theorem ev_ch {q : Bool} {x0 x1 : List Nat} (hq : q = true → ∀ s, t s = true) (g : Good F S as ag) (nd : (fpS (as ++ ag) ++ x0).Nodup) (hr : rootA as ag r = some a) (hx : getA p a = some x) (hs : x.shr = false) (hv : y.pv = x.pv) (hp : Per (fun s => t s = true) x y)
    (m : Mono F F') (fs : FS F' S') (len : S.length ≤ S'.length) (keep : ∀ n, n < S.length → n ∉ x.fp ++ x0 → F' n = F n ∧ S'[n]? = S[n]?) (hy : y.ok F' S') (hn : (y.fp ++ x1).Nodup)
    (new : ∀ n, n ∈ y.fp ++ x1 → n ∈ x.fp ++ x0 ∨ S.length ≤ n) (lt : ∀ n ∈ x1, n < S'.length) :
    Ev q F S as ag x0 F' S' (chA t r p y as ag).1 (chA t r p y as ag).2 x1 := by
  have aok : a.ok F S := by
    have : ∃ z ∈ as ++ ag, z = .v a ∨ z = .io a := by
      cases r with
      | l i => rcases slot_some hr with e | e <;> exact ⟨_, List.mem_append_left _ (List.mem_of_getElem? e), by simp⟩
      | g i => rcases slot_some hr with e | e <;> exact ⟨_, List.mem_append_right _ (List.mem_of_getElem? e), by simp⟩
    obtain ⟨z, hz, rfl | rfl⟩ := this
    · exact g.ok _ hz
    · exact g.ok _ hz
  obtain ⟨xok, L, R, e1, e2, e3⟩ := focus p a x aok hx hs
  obtain ⟨L2, R2, f1, f2⟩ := ch_fp (t := t) (p := p) (y := y) hr
  rw [e1] at f1
  rw [e2] at f2
  have xlt := fp_lt g.fs xok
  have apart : ∀ n, n ∈ L2 ++ L ∨ n ∈ R ++ R2 → n < S.length ∧ n ∉ x.fp ++ x0 ∧ n ∉ y.fp ++ x1 := fun n hn' => by
    have hmem : n ∈ fpS (as ++ ag) := by rw [f1]; simp only [List.mem_append] at hn' ⊢; rcases hn' with (h | h) | h | h <;> simp [h]
    have hlt : n < S.length := by
      unfold fpS at hmem
      obtain ⟨z, hz, hq⟩ := List.mem_flatMap.mp hmem
      have zok := g.ok z hz
      cases z with
      | v b => exact fp_lt g.fs zok n hq
      | io b => exact fp_lt g.fs zok n hq
      | _ => cases hq
    have hnx : n ∉ x.fp ++ x0 := by
      rw [f1] at nd
      intro hx'
      have nd' : ((L2 ++ L) ++ (x.fp ++ (R ++ R2)) ++ x0).Nodup := by simpa using nd
      have d1 := List.nodup_append.mp nd'
      have d2 := List.nodup_append.mp d1.1
      have d3 := List.nodup_append.mp d2.2.1
      rcases List.mem_append.mp hx' with u | u
      · rcases hn' with v | v
        · exact d2.2.2 n v n (List.mem_append_left _ u) rfl
        · exact d3.2.2 n u n v rfl
      · refine d1.2.2 n ?_ n u rfl
        rcases hn' with v | v
        · exact List.mem_append_left _ v
        · exact List.mem_append_right _ (List.mem_append_right _ v)
    refine ⟨hlt, hnx, fun hy' => ?_⟩
    rcases new n hy' with u | u
    · exact hnx u
    · omega
  have agree : ∀ n, n ∈ L2 ++ L ∨ n ∈ R ++ R2 → F' n = F n ∧ S'[n]? = S[n]? := fun n h => keep n (apart n h).1 (apart n h).2.1
  have newok : (setA p a y).ok F' S' := e3 F' S' y m (fun n h => agree n (by simp only [List.mem_append]; rcases h with h | h <;> simp [h])) hy hv
  have ndall : (fpS ((chA t r p y as ag).1 ++ (chA t r p y as ag).2) ++ x1).Nodup := by
    rw [f2]
    have h0 : (L2 ++ L ++ (R ++ R2)).Nodup := by
      have : (L2 ++ (L ++ x.fp ++ R) ++ R2).Nodup := by rw [← f1]; exact g.nd
      refine this.sublist ?_
      have s1 : (L ++ R).Sublist (L ++ x.fp ++ R) := by
        have : (L ++ ([] ++ R)).Sublist (L ++ (x.fp ++ R)) := List.Sublist.append_left (List.Sublist.append_right (List.nil_sublist _) _) _
        simpa using this
      have : (L2 ++ ((L ++ R) ++ R2)).Sublist (L2 ++ ((L ++ x.fp ++ R) ++ R2)) := List.Sublist.append_left (List.Sublist.append_right s1 _) _
      simpa using this
    have h1 : ((L2 ++ L ++ (R ++ R2)) ++ (y.fp ++ x1)).Nodup := List.nodup_append.mpr ⟨h0, hn, fun n h k h' e => by
      subst e
      exact (apart n (List.mem_append.mp h)).2.2 h'⟩
    refine (List.Perm.nodup_iff ?_).mp h1
    simp only [List.append_assoc]
    refine List.Perm.append_left _ (List.Perm.append_left _ ?_)
    rw [← List.append_assoc, ← List.append_assoc]
    have : (R ++ R2 ++ (y.fp ++ x1)).Perm (y.fp ++ (R ++ R2) ++ x1) := by
      rw [← List.append_assoc]
      exact List.Perm.append_right _ List.perm_append_comm
    simpa using this
  have gl := fun ad => ch_gl (t := t) (p := p) hr hx hv hp g.al ad
  refine ⟨⟨fs, fun z hz => ?_, (List.nodup_append.mp ndall).1, fun z hz => ?_⟩, ndall, lt, m, len, fun n hl hx' => keep n hl fun h => hx' ?_, fun n h => ?_, fun ad => (gl ad).1, fun ad => (gl ad).2, fun r' w h => ?_, (fun h r' p' w hw => ch_per hr hx hv hp (lives_all (hq h)) hw)⟩
  · -- each slot holds
    have other : ∀ b : A, b.ok F S → (∀ n ∈ b.fp, n ∉ a.fp) → (∀ n ∈ b.fp, n ∈ fpS (as ++ ag)) → b.ok F' S' := fun b hb h1 h2 =>
      ok_frame m (fun n hn' => keep n (fp_lt g.fs hb n hn') fun hq => by
        rcases List.mem_append.mp hq with u | u
        · exact h1 n hn' (by rw [e1]; simp [u])
        · exact (List.nodup_append.mp nd).2.2 n (h2 n hn') n u rfl) hb
    have inS : ∀ z0 ∈ as ++ ag, ∀ n ∈ z0.fp, n ∈ fpS (as ++ ag) := fun z0 h0 n h => List.mem_flatMap.mpr ⟨z0, h0, h⟩
    rcases mem_ch g.nd hr hz with ⟨z0, h0, rfl, hd⟩ | rfl | rfl
    · cases z0 with
      | al r' p' => simp only [killA]; split <;> trivial
      | un o => trivial
      | v b => exact other b (g.ok _ h0) hd (inS _ h0)
      | io b => exact other b (g.ok _ h0) hd (inS _ h0)
      | xn C ns xs =>
        have := g.ok _ h0
        refine ⟨this.1, ?_⟩
        have t : (A.tup xs).ok F' S' := ok_frame (a := .tup xs) m (by rw [A.fp, this.1]; intro n hn'; cases hn') (show (A.tup xs).ok F S from this)
        exact t.2
    · exact newok
    · exact newok
  · rcases mem_ch g.nd hr hz with ⟨z0, h0, rfl, hd⟩ | rfl | rfl
    · cases z0 with
      | al r' p' =>
        simp only [killA]
        split
        · rename_i hl
          obtain ⟨b, hb⟩ := Option.isSome_iff_exists.mp (show (atA as ag r' p').isSome = true from g.al _ h0)
          have := ch_per hr hx hv hp hl (w := b.pv) (by rw [hb]; rfl)
          obtain ⟨c, hc, _⟩ := Option.map_eq_some_iff.mp this
          show (atA _ _ r' p').isSome = true
          rw [hc]; rfl
        · trivial
      | _ => trivial
    · trivial
    · trivial
  · rcases List.mem_append.mp h with u | u
    · refine List.mem_append_left _ ?_
      rw [f1]; simp [u]
    · exact List.mem_append_right _ u
  · rw [f2] at h
    by_cases hq : n ∈ y.fp ++ x1
    · rcases new n hq with u | u
      · left
        rcases List.mem_append.mp u with v | v
        · exact List.mem_append_left _ (by rw [f1]; simp [v])
        · exact List.mem_append_right _ v
      · exact .inr u
    · left
      refine List.mem_append_left _ ?_
      rw [f1]
      simp only [List.mem_append] at h hq ⊢
      rcases h with (((h | (h | h) | h) | h) | h) <;> simp_all
  · rw [ch_root hr]
    split
    · rename_i e; subst e
      rw [hr] at h
      rw [Option.map_some, set_pv p a y x hx hv]; exact h
    · exact h
end
end VL
set_option Elab.async false
set_option linter.all false
set_option maxRecDepth 100000
set_option maxHeartbeats 1000000
namespace VL
open GL (PV OB Sto Nm BT)
variable {F F' : FM} {S S' : Sto} {as as' ag ag' : List AV}
abbrev D.non : D := .sc .non
abbrev D.bl (b : Bool) : D := .sc (.bl b)
abbrev D.int (i : Int) : D := .sc (.int i)
abbrev D.str (s : List Nat) : D := .sc (.str s)
abbrev D.ty (b : BT) : D := .sc (.ty b)
abbrev D.lst (k : Fl) (xs : List D) : D := .nd k .lst xs
mutual
def dOf : PV → D
  | .non => .sc .non
  | .bl b => .sc (.bl b)
  | .int i => .sc (.int i)
  | .str s => .sc (.str s)
  | .tup xs => .tup (dOfs xs)
  | .gl x => .sc (.gl x)
  | .ty b => .sc (.ty b)
  | _ => .sc .non
def dOfs : List PV → List D
  | [] => []
  | x :: r => dOf x :: dOfs r
end
mutual
def aOf : PV → A
  | .non => .sc .non
  | .bl b => .sc (.bl b)
  | .int i => .sc (.int i)
  | .str s => .sc (.str s)
  | .tup xs => .tup (aOfs xs)
  | .gl x => .sc (.gl x)
  | .ty b => .sc (.ty b)
  | _ => .sc .non
def aOfs : List PV → List A
  | [] => []
  | x :: r => aOf x :: aOfs r
end
mutual
def rig : PV → Bool
  | .tup xs => rigs xs
  | .loc _ => false
  | .xn _ _ _ _ _ => false
  | _ => true
def rigs : List PV → Bool
  | [] => true
  | x :: r => rig x && rigs r
end
mutual
theorem aOf_er : ∀ w : PV, (aOf w).er = dOf w
  | .tup xs => by simp [aOf, A.er, dOf, aOfs_er xs]
  | .non => rfl
  | .bl _ => rfl
  | .int _ => rfl
  | .str _ => rfl
  | .gl _ => rfl
  | .ty _ => rfl
  | .loc _ => rfl
  | .xn _ _ _ _ _ => rfl
theorem aOfs_er : ∀ w : List PV, A.ers (aOfs w) = dOfs w
  | [] => rfl
  | x :: r => by simp [aOfs, A.ers, dOfs, aOf_er x, aOfs_er r]
end
mutual
theorem aOf_pv : ∀ {w : PV}, rig w = true → (aOf w).pv = w
  | .tup xs, h => by simp [aOf, A.pv, aOfs_pv (show rigs xs = true from h)]
  | .non, _ => rfl
  | .bl _, _ => rfl
  | .int _, _ => rfl
  | .str _, _ => rfl
  | .gl _, _ => rfl
  | .ty _, _ => rfl
theorem aOfs_pv : ∀ {w : List PV}, rigs w = true → A.pvs (aOfs w) = w
  | [], _ => rfl
  | x :: r, h => by
    obtain ⟨h1, h2⟩ := Bool.and_eq_true_iff.mp (show (rig x && rigs r) = true from h)
    simp [aOfs, A.pvs, aOf_pv h1, aOfs_pv h2]
end
mutual
theorem aOf_fp : ∀ (w : PV), (aOf w).fp = [] ∧ (aOf w).ok F S
  | .tup xs => by have := aOfs_fp xs; simp [aOf, A.fp, A.ok, this]
  | .non => ⟨rfl, trivial⟩
  | .bl _ => ⟨rfl, trivial⟩
  | .int _ => ⟨rfl, trivial⟩
  | .str _ => ⟨rfl, trivial⟩
  | .gl _ => ⟨rfl, trivial⟩
  | .ty _ => ⟨rfl, trivial⟩
  | .loc _ => ⟨rfl, trivial⟩
  | .xn _ _ _ _ _ => ⟨rfl, trivial⟩
theorem aOfs_fp : ∀ (w : List PV), A.fps (aOfs w) = [] ∧ A.oks F S (aOfs w)
  | [] => ⟨rfl, trivial⟩
  | x :: r => by
    have h1 := aOf_fp x
    have h2 := aOfs_fp r
    simp [aOfs, A.fps, A.oks, h1, h2]
end
theorem good_nd (g : Good F S as ag) : (fpS (as ++ ag) ++ []).Nodup := by rw [List.append_nil]; exact g.nd
theorem root_ok (g : Good F S as ag) {r : Rt} {a : A} (h : rootA as ag r = some a) : a.ok F S := by
  have : ∃ z ∈ as ++ ag, z = .v a ∨ z = .io a := by
    cases r with
    | l i => rcases slot_some h with e | e <;> exact ⟨_, List.mem_append_left _ (List.mem_of_getElem? e), by simp⟩
    | g i => rcases slot_some h with e | e <;> exact ⟨_, List.mem_append_right _ (List.mem_of_getElem? e), by simp⟩
  obtain ⟨z, hz, rfl | rfl⟩ := this
  · exact g.ok _ hz
  · exact g.ok _ hz
theorem get_ok : ∀ {p : List Nat} {a x : A}, a.ok F S → getA p a = some x → x.ok F S
  | [], a, x, h, e => by cases e; exact h
  | i :: p, a, x, h, e => by
    unfold getA at e
    cases hk : a.kids[i]? with
    | none => rw [hk] at e; cases e
    | some z => rw [hk] at e; exact get_ok ((oks_iff _).mp (ok_kids h) z (List.mem_of_getElem? hk)) e
theorem at_split {r : Rt} {p : List Nat} {x : A} (h : atA as ag r p = some x) : ∃ a, rootA as ag r = some a ∧ getA p a = some x := Option.bind_eq_some_iff.mp h
theorem at_ok (g : Good F S as ag) {r : Rt} {p : List Nat} {x : A} (h : atA as ag r p = some x) : x.ok F S := by
  obtain ⟨a, e, h⟩ := at_split h
  exact get_ok (root_ok g e) h
theorem obj_of (fs : FS F S) {k : Fl} {n : Nat} {h : Hd} {xs : List A} (o : (A.nd k n h xs).ok F S) : AtU S n (mkO h (A.pvs xs)) := by
  cases k with
  | fz => simp only [A.ok] at o; exact fs _ _ _ o.1
  | lk => simp only [A.ok] at o; exact fs _ _ _ o.1
  | ow => simp only [A.ok] at o; exact .inl o.1.2
def val (x : RV) (ls gh : Ls) : Option D := match x with
  | .v d => some d
  | .pth r p => atD ls gh r p
theorem val_er (c : ARV) {d : D} (h : val c.er (erS as) (erS ag) = some d) {w : PV} (hp : c.pv as ag = some w) (g : Good F S as ag) (hc : c.ok F S) :
    ∃ a : A, a.er = d ∧ a.pv = w ∧ a.ok F S ∧ ((c = .v a) ∨ ∃ r p, c = .pth r p ∧ atA as ag r p = some a) := by
  cases c with
  | v a => cases h; cases hp; exact ⟨a, rfl, rfl, hc, .inl rfl⟩
  | pth r p =>
    simp only [ARV.er, val] at h
    rw [at_er] at h
    obtain ⟨a, e, rfl⟩ := Option.map_eq_some_iff.mp h
    simp only [ARV.pv, e, Option.map_some, Option.some.injEq] at hp
    exact ⟨a, rfl, hp, at_ok g e, .inr ⟨r, p, rfl, e⟩⟩
theorem sim_ok {α β γ : Type} {R : RT α β γ} {q : Bool} {x0 : List Nat} (g : Good F S as ag) (nd : (fpS (as ++ ag) ++ x0).Nodup) (lt : ∀ n ∈ x0, n < S.length) (c : γ) {w : α} {b : β} {o : AD → GL.Out α} (ho : ∀ ad, o ad = .ok w S) (hb : R.er c = b) (hc : R.pv as ag c = some w) (hok : R.ok F S c) (sub : (R.fp c).Sublist x0) :
    SimO q R F S as ag x0 o (.ok b (erS as) (erS ag)) :=
  ⟨F, S, as, ag, c, w, rfl, rfl, hb, ho, hc, hok, (Ev.refl g nd lt).sub sub⟩
theorem sim_okE {q : Bool} {x0 : List Nat} (g : Good F S as ag) (nd : (fpS (as ++ ag) ++ x0).Nodup) (lt : ∀ n ∈ x0, n < S.length) (c : ARV) {w : PV} {b : RV} {o : AD → GL.Out PV} (ho : ∀ ad, o ad = .ok w S) (hb : c.er = b) (hc : c.pv as ag = some w) (hok : c.ok F S) (sub : c.fp.Sublist x0) :
    SimO q RE F S as ag x0 o (.ok b (erS as) (erS ag)) := sim_ok (R := RE) g nd lt c ho hb hc hok sub
theorem sim_sc {q : Bool} {x0 : List Nat} (g : Good F S as ag) (nd : (fpS (as ++ ag) ++ x0).Nodup) (lt : ∀ n ∈ x0, n < S.length) (s : Sc) {o : AD → GL.Out PV} (ho : ∀ ad, o ad = .ok s.pv S) :
    SimO q RE F S as ag x0 o (.ok (.v (.sc s)) (erS as) (erS ag)) :=
  sim_ok (R := RE) g nd lt (.v (.sc s)) ho rfl rfl (by exact trivial) (List.nil_sublist _)
def Stab {α β γ : Type} (R : RT α β γ) (q : Bool) (c : γ) : Prop := ∀ F S as ag x0 F' S' as' ag' x w, Ev q F S as ag x0 F' S' as' ag' x → Good F S as ag → (fpS (as ++ ag) ++ (R.fp c ++ x0)).Nodup → R.pv as ag c = some w → R.ok F S c → R.pv as' ag' c = some w ∧ R.ok F' S' c
def ARV.flat : ARV → Bool
  | .v _ => true
  | .pth _ p => p.isEmpty
theorem stab_re (q : Bool) (c : ARV) (h : q = true ∨ c.flat = true) : Stab RE q c := by
  intro F S as ag x0 F' S' as' ag' x w e g nd hp hk
  cases c with
  | v a => exact ⟨hp, e.stay hk nd g.fs⟩
  | pth r p =>
    refine ⟨?_, trivial⟩
    rcases h with h | h
    · exact e.per h r p w hp
    · have : p = [] := by simpa [ARV.flat] using h
      subst this
      have hr : ∀ as ag, ARV.pv as ag (.pth r []) = (rootA as ag r).map A.pv := fun as ag => by
        simp only [ARV.pv, atA]; cases rootA as ag r <;> rfl
      exact (hr _ _).trans (e.rt r w ((hr _ _).symm.trans hp))
theorem seqO_cons {α : Type} {x : Option α} {r : List (Option α)} {ws : List α} (h : seqO (x :: r) = some ws) : ∃ w t, x = some w ∧ seqO r = some t ∧ ws = w :: t := by
  unfold seqO at h
  split at h
  · rename_i y ys e2; cases h; exact ⟨y, ys, rfl, e2, rfl⟩
  · cases h
theorem seqO_mk {α : Type} {x : Option α} {r : List (Option α)} {w : α} {t : List α} (h1 : x = some w) (h2 : seqO r = some t) : seqO (x :: r) = some (w :: t) := by subst h1; unfold seqO; rw [h2]
theorem stab_ra (q : Bool) (cs : List ARV) (h : q = true ∨ ∀ c ∈ cs, c.flat = true) : Stab RA q cs := by
  induction cs with
  | nil => intro F S as ag x0 F' S' as' ag' x w e g nd hp hk; exact ⟨hp, fun c hc => by cases hc⟩
  | cons c r ih =>
    intro F S as ag x0 F' S' as' ag' x w e g nd hp hk
    have nd' : (fpS (as ++ ag) ++ (c.fp ++ (RA.fp r ++ x0))).Nodup := by
      rw [← List.append_assoc c.fp]; exact nd
    obtain ⟨w1, w2, e1, e2, rfl⟩ := seqO_cons hp
    have h1 := stab_re q c (h.imp id fun h => h c List.mem_cons_self) F S as ag x0 F' S' as' ag' x w1 e g (nd'.sublist (List.Sublist.append_left (List.Sublist.append_left (List.sublist_append_right _ _) _) _)) e1 (hk c List.mem_cons_self)
    have h2 := ih (h.imp id fun h c hc => h c (List.mem_cons_of_mem _ hc)) F S as ag x0 F' S' as' ag' x w2 e g (nd'.sublist (List.Sublist.append_left (List.sublist_append_right _ _) _)) e2 (fun c hc => hk c (List.mem_cons_of_mem _ hc))
    exact ⟨seqO_mk h1.1 h2.1, fun c' hc => by
      rcases List.mem_cons.mp hc with rfl | hc
      · exact h1.2
      · exact h2.2 c' hc⟩
theorem sim_next {α β γ α0 β0 γ0 α' β' γ' : Type} {R : RT α β γ} {R0 : RT α0 β0 γ0} {R' : RT α' β' γ'} {qb q' : Bool} {mb : AD → GL.Ls → Sto → GL.Out α} {pb : PX β} {f : AD → α → Sto → GL.Out α'} {k : β → Ls → Ls → Out β'} {L : AD → GL.Ls}
    (hb : SimX qb R mb pb) (g : Good F S as ag) (c0 : γ0) {w0 : α0} (hpv : R0.pv as ag c0 = some w0) (hok : R0.ok F S c0) (nd : (fpS (as ++ ag) ++ R0.fp c0).Nodup) (lt : ∀ n ∈ R0.fp c0, n < S.length) (st : Stab R0 qb c0) (hL : ∀ ad, L ad = glS as ag ad as)
    (hk : ∀ F' S' as' ag' c w, R0.pv as' ag' c0 = some w0 → R0.ok F' S' c0 → R.pv as' ag' c = some w → R.ok F' S' c → Good F' S' as' ag' → (fpS (as' ++ ag') ++ (R0.fp c0 ++ R.fp c)).Nodup → (∀ n ∈ R0.fp c0 ++ R.fp c, n < S'.length) → (∀ ad, L ad = glS as' ag' ad as') →
      SimO q' R' F' S' as' ag' (R0.fp c0 ++ R.fp c) (fun ad => f ad w S') (k (R.er c) (erS as') (erS ag'))) :
    SimO (qb && q') R' F S as ag (R0.fp c0) (fun ad => (mb ad (L ad) S).bind (f ad)) ((pb (erS as) (erS ag)).bind k) := by
  have hb := hb F S as ag g
  have hfr : ∀ {F' : FM} {S' : Sto} {as' ag' : List AV} {x : List Nat}, Ev qb F S as ag [] F' S' as' ag' x → Ev qb F S as ag (R0.fp c0) F' S' as' ag' (R0.fp c0 ++ x) := fun e => by
    have := e.frame (z := R0.fp c0) (by rw [List.append_nil]; exact nd) lt
    rwa [List.append_nil] at this
  cases hp : pb (erS as) (erS ag) with
  | bad => trivial
  | exc e ls gh =>
    rw [hp] at hb
    obtain ⟨F', S', as', ag', x, a1, a2, a3, a4, a5, a6⟩ := hb
    refine ⟨F', S', as', ag', x, a1, a2, a3, fun ad => ?_, a5, ((hfr a6).sub (List.nil_sublist _)).weak fun e => (Bool.and_eq_true_iff.mp e).1⟩
    show (mb ad (L ad) S).bind _ = _
    have a4' : mb ad (glS as ag ad as) S = _ := a4 ad
    rw [hL, a4']; rfl
  | ok b ls gh =>
    rw [hp] at hb
    obtain ⟨F', S', as', ag', c, w, rfl, rfl, rfl, a4, a5, a6, a7⟩ := hb
    have hst := st F S as ag [] F' S' as' ag' _ w0 a7 g (by rw [List.append_nil]; exact nd) hpv hok
    have e7 := hfr a7
    have h2 := hk F' S' as' ag' c w hst.1 hst.2 a5 a6 a7.good e7.nd e7.lt (fun ad => (hL ad).trans (a7.gl ad).symm)
    have h4 : ∀ ad, (mb ad (L ad) S).bind (f ad) = f ad w S' := fun ad => by
      have a4' : mb ad (glS as ag ad as) S = _ := a4 ad
      rw [hL, a4']; rfl
    show SimO _ _ _ _ _ _ _ _ (k (R.er c) (erS as') (erS ag'))
    cases hp : k (R.er c) (erS as') (erS ag') with
    | bad => trivial
    | exc e ls gh =>
      rw [hp] at h2
      obtain ⟨F2, S2, as2, ag2, x, b1, b2, b3, b4, b5, b6⟩ := h2
      exact ⟨F2, S2, as2, ag2, x, b1, b2, b3, fun ad => (h4 ad).trans (b4 ad), b5, e7.trans b6⟩
    | ok b ls gh =>
      rw [hp] at h2
      obtain ⟨F2, S2, as2, ag2, c2, w2, b1, b2, b3, b4, b5, b6, b7⟩ := h2
      exact ⟨F2, S2, as2, ag2, c2, w2, b1, b2, b3, fun ad => (h4 ad).trans (b4 ad), b5, b6, e7.trans b7⟩
def RU : RT Unit Unit Unit := ⟨id, fun _ _ _ => some (), fun _ _ _ => True, fun _ => []⟩
theorem stab_ru (q : Bool) : Stab RU q () := fun _ _ _ _ _ _ _ _ _ _ _ _ _ _ _ _ => ⟨rfl, trivial⟩
theorem sim_first {α β γ α' β' γ' : Type} {R : RT α β γ} {R' : RT α' β' γ'} {qb q' : Bool} {mb : AD → GL.Ls → Sto → GL.Out α} {pb : PX β} {f : AD → α → Sto → GL.Out α'} {k : β → Ls → Ls → Out β'} {L : AD → GL.Ls}
    (hb : SimX qb R mb pb) (g : Good F S as ag) (hL : ∀ ad, L ad = glS as ag ad as)
    (hk : ∀ F' S' as' ag' c w, R.pv as' ag' c = some w → R.ok F' S' c → Good F' S' as' ag' → (fpS (as' ++ ag') ++ R.fp c).Nodup → (∀ n ∈ R.fp c, n < S'.length) → (∀ ad, L ad = glS as' ag' ad as') →
      SimO q' R' F' S' as' ag' (R.fp c) (fun ad => f ad w S') (k (R.er c) (erS as') (erS ag'))) :
    SimO (qb && q') R' F S as ag [] (fun ad => (mb ad (L ad) S).bind (f ad)) ((pb (erS as) (erS ag)).bind k) :=
  sim_next (R0 := RU) hb g () (w0 := ()) rfl trivial (good_nd g) (fun _ h => by cases h) (stab_ru qb) hL fun F' S' as' ag' c w _ _ h3 h4 h5 h6 h7 h8 => hk F' S' as' ag' c w h3 h4 h5 (by simpa [RU] using h6) (by simpa [RU] using h7) h8
abbrev PE := PX RV
abbrev PT := PX Bool
abbrev PA := PX (List RV)
def mkR (d : D) (r : Rt) (p : List Nat) : RV := if d.shr = true then .v d else .pth r p
def eVar (i : Nat) : PE := fun ls gh => match ls[i]? with
  | some (some (.v d)) => .ok (mkR d (.l i) []) ls gh
  | some (some (.al r p)) => (match atD ls gh r p with
    | some d => .ok (mkR d r p) ls gh
    | none => .bad)
  | _ => .bad
theorem sim_mkR {q : Bool} {x0 : List Nat} (g : Good F S as ag) (nd : (fpS (as ++ ag) ++ x0).Nodup) (lt : ∀ n ∈ x0, n < S.length) {r : Rt} {p : List Nat} {a : A} (h : atA as ag r p = some a) {o : AD → GL.Out PV} (ho : ∀ ad, o ad = .ok a.pv S) :
    SimO q RE F S as ag x0 o (.ok (mkR a.er r p) (erS as) (erS ag)) := by
  unfold mkR
  rw [shr_er]
  cases hs : a.shr with
  | true =>
    have ok := at_ok g h
    exact sim_okE g nd lt (.v a) ho rfl rfl ok (by show (A.fp a).Sublist _; rw [fp_shr ok hs]; exact List.nil_sublist _)
  | false => exact sim_okE g nd lt (.pth r p) ho rfl (by show (atA as ag r p).map A.pv = _; rw [h]; rfl) trivial (List.nil_sublist _)
theorem sim_var (i : Nat) : SimE true (fun _ => GL.eVar i) (eVar i) := by
  intro F S as ag g
  unfold eVar
  simp only [erS, List.getElem?_map]
  cases hi : as[i]? with
  | none => trivial
  | some z =>
    have hgl : ∀ ad o, glv as ag ad z = some o → GL.eVar i (glS as ag ad as) S = .ok o S := fun ad o h => by
      unfold GL.eVar
      simp only [glS, List.getElem?_map, hi, Option.map_some, h]
    have hmem : z ∈ as ++ ag := List.mem_append_left _ (List.mem_of_getElem? hi)
    cases z with
    | v a =>
      exact sim_mkR g (good_nd g) (fun _ h => by cases h) (r := .l i) (p := []) (a := a) (by show (slotA as[i]?).bind _ = _; rw [hi]; rfl) (fun ad => hgl ad _ rfl)
    | al r p =>
      show SimO _ _ _ _ _ _ _ _ (match atD (erS as) (erS ag) r p with | some d => .ok (mkR d r p) (erS as) (erS ag) | none => .bad)
      rw [at_er]
      cases ha : atA as ag r p with
      | none => trivial
      | some a => exact sim_mkR g (good_nd g) (fun _ h => by cases h) ha (fun ad => hgl ad _ (by show (atA as ag r p).map A.pv = _; rw [ha]; rfl))
    | un o => trivial
    | io a => trivial
    | xn C ns xs => trivial
def eC (w : PV) : PE := fun ls gh => .ok (.v (dOf w)) ls gh
theorem sim_c {w : PV} (h : rig w = true) : SimE true (fun _ => GL.eC w) (eC w) := fun F S as ag g =>
  sim_okE g (good_nd g) (fun _ h => by cases h) (.v (aOf w)) (fun ad => by show GL.Out.ok w S = _; rw [aOf_pv h]) (by show RV.v (aOf w).er = _; rw [aOf_er]) rfl (aOf_fp w).2 (by show (A.fp _).Sublist _; rw [(aOf_fp (F := F) (S := S) w).1]; exact List.nil_sublist _)
abbrev G2 := RV → RV → PE
def eOp (g : G2) (a b : PE) : PE := fun ls gh => (a ls gh).bind fun x ls gh => (b ls gh).bind fun y ls gh => g x y ls gh
def RV.flat : RV → Bool
  | .v _ => true
  | .pth _ p => p.isEmpty
def SimG (q : Bool) (gg : PV → PV → Sto → GL.Out PV) (g : G2) : Prop := ∀ (F : FM) (S : Sto) (as ag : List AV) (c1 c2 : ARV) (w1 w2 : PV), Good F S as ag → (fpS (as ++ ag) ++ (c1.fp ++ c2.fp)).Nodup → (∀ n ∈ c1.fp ++ c2.fp, n < S.length) → c1.pv as ag = some w1 → c2.pv as ag = some w2 → c1.ok F S → c2.ok F S →
  SimO q RE F S as ag (c1.fp ++ c2.fp) (fun _ => gg w1 w2 S) (g c1.er c2.er (erS as) (erS ag))
section
variable {qa qb qg : Bool} {ma mb : AD → GL.ME} {pa pb : PE} {gg : PV → PV → Sto → GL.Out PV} {g : G2}
theorem sim_op (ha : SimE qa ma pa) (hb : SimE true mb pb) (hg : SimG true gg g) : SimE qa (fun ad => GL.eOp gg (ma ad) (mb ad)) (eOp g pa pb) := fun F S as ag gd =>
  SimO.weak (sim_first (q' := true && true) (k := fun x ls gh => (pb ls gh).bind fun y ls gh => g x y ls gh) (f := fun ad w1 S1 => (mb ad (glS as ag ad as) S1).bind fun w2 S2 => gg w1 w2 S2) ha gd (fun _ => rfl) fun F1 S1 as1 ag1 c1 w1 h1 h2 g1 n1 l1 L1 =>
    sim_next (R0 := RE) (k := fun y ls gh => g (RE.er c1) y ls gh) (f := fun ad w2 S2 => gg w1 w2 S2) hb g1 c1 h1 h2 n1 l1 (stab_re true c1 (.inl rfl)) L1 fun F2 S2 as2 ag2 c2 w2 h1 h2 h3 h4 g2 n2 l2 L2 => hg F2 S2 as2 ag2 c1 c2 w1 w2 g2 n2 l2 h1 h3 h2 h4) (by simp)
end
def aNil : PA := fun ls gh => .ok [] ls gh
def aCons (a : PE) (r : PA) : PA := fun ls gh => (a ls gh).bind fun x ls gh => (r ls gh).bind fun xs ls gh => .ok (x :: xs) ls gh
section
variable {qa qb : Bool} {ma : AD → GL.ME} {mr : AD → GL.MA} {pa : PE} {pr : PA}
theorem sim_anil : SimA true (fun _ => GL.aNil) aNil := fun F S as ag g =>
  sim_ok (R := RA) g (good_nd g) (fun _ h => by cases h) [] (fun _ => rfl) rfl rfl (fun c hc => by cases hc) (List.nil_sublist _)
theorem sim_acons (ha : SimE qa ma pa) (hr : SimA true mr pr) : SimA qa (fun ad => GL.aCons (ma ad) (mr ad)) (aCons pa pr) := fun F S as ag gd =>
  SimO.weak (sim_first (q' := true && true) (k := fun x ls gh => (pr ls gh).bind fun y ls gh => .ok (x :: y) ls gh) (f := fun ad w1 S1 => (mr ad (glS as ag ad as) S1).bind fun w2 S2 => .ok (w1 :: w2) S2) ha gd (fun _ => rfl) fun F1 S1 as1 ag1 c1 w1 h1 h2 g1 n1 l1 L1 =>
    sim_next (R0 := RE) (R := RA) (R' := RA) (k := fun y ls gh => .ok (RE.er c1 :: y) ls gh) (f := fun ad w2 S2 => .ok (w1 :: w2) S2) hr g1 c1 h1 h2 n1 l1 (stab_re true c1 (.inl rfl)) L1 fun F2 S2 as2 ag2 c2 w2 h1 h2 h3 h4 g2 n2 l2 L2 =>
      sim_ok (R := RA) g2 n2 l2 (c1 :: c2) (fun _ => rfl) rfl (seqO_mk h1 h3) (fun c hc => by
        rcases List.mem_cons.mp hc with rfl | hc
        · exact h2
        · exact h4 c hc) (List.Sublist.refl _)) (by simp)
end
end VL
set_option Elab.async false
set_option linter.all false
set_option maxRecDepth 100000
set_option maxHeartbeats 1000000
namespace VL
open GL (PV OB Sto Nm BT lim)
variable {F F' : FM} {S S' : Sto} {as as' ag ag' : List AV}
theorem Ev.perm {q : Bool} {x0 x0' x x' : List Nat} (e : Ev q F S as ag x0 F' S' as' ag' x) (h0 : x0.Perm x0') (h : x.Perm x') : Ev q F S as ag x0' F' S' as' ag' x' :=
  ⟨e.good, (List.Perm.nodup_iff (List.Perm.append_left _ h)).mp e.nd, fun n hn => e.lt n (h.mem_iff.mpr hn), e.mono, e.len, fun n hn hx => e.keep n hn fun h' => hx (by
    rcases List.mem_append.mp h' with t | t
    · exact List.mem_append_left _ t
    · exact List.mem_append_right _ (h0.mem_iff.mp t)), fun n hn => by
    rcases e.new n (by
      rcases List.mem_append.mp hn with t | t
      · exact List.mem_append_left _ t
      · exact List.mem_append_right _ (h.mem_iff.mpr t)) with t | t
    · left
      rcases List.mem_append.mp t with t | t
      · exact List.mem_append_left _ t
      · exact List.mem_append_right _ (h0.mem_iff.mp t)
    · exact .inr t, e.gl, e.gg, e.rt, e.per⟩
theorem SimO.pre {α β γ : Type} {R : RT α β γ} {q : Bool} {x0 x1 : List Nat} {o : AD → GL.Out α} {p : Out β} (e : Ev true F S as ag x0 F' S' as' ag' x1) (h : SimO q R F' S' as' ag' x1 o p) : SimO q R F S as ag x0 o p := by
  cases p with
  | bad => trivial
  | exc e' ls gh => obtain ⟨F2, S2, as2, ag2, x, b1, b2, b3, b4, b5, b6⟩ := h; exact ⟨F2, S2, as2, ag2, x, b1, b2, b3, b4, b5, (e.trans b6).weak fun h => by rw [h]; rfl⟩
  | ok b ls gh => obtain ⟨F2, S2, as2, ag2, c, w, b1, b2, b3, b4, b5, b6, b7⟩ := h; exact ⟨F2, S2, as2, ag2, c, w, b1, b2, b3, b4, b5, b6, (e.trans b7).weak fun h => by rw [h]; rfl⟩
theorem SimO.preF {α β γ : Type} {R : RT α β γ} {q : Bool} {x0 x1 : List Nat} {o : AD → GL.Out α} {p : Out β} (e : Ev false F S as ag x0 F' S' as' ag' x1) (h : SimO q R F' S' as' ag' x1 o p) : SimO false R F S as ag x0 o p := by
  cases p with
  | bad => trivial
  | exc e' ls gh => obtain ⟨F2, S2, as2, ag2, x, b1, b2, b3, b4, b5, b6⟩ := h; exact ⟨F2, S2, as2, ag2, x, b1, b2, b3, b4, b5, (e.trans b6).weak fun h => by cases h⟩
  | ok b ls gh => obtain ⟨F2, S2, as2, ag2, c, w, b1, b2, b3, b4, b5, b6, b7⟩ := h; exact ⟨F2, S2, as2, ag2, c, w, b1, b2, b3, b4, b5, b6, (e.trans b7).weak fun h => by cases h⟩
theorem ev_same {q : Bool} {x0 x1 : List Nat} (g : Good F S as ag) (nd0 : (fpS (as ++ ag) ++ x0).Nodup) (m : Mono F F') (fs : FS F' S') (len : S.length ≤ S'.length) (keep : ∀ n, n < S.length → n ∉ x0 → F' n = F n ∧ S'[n]? = S[n]?)
    (nd1 : x1.Nodup) (new : ∀ n ∈ x1, n ∈ x0 ∨ S.length ≤ n) (lt : ∀ n ∈ x1, n < S'.length) : Ev q F S as ag x0 F' S' as ag x1 := by
  have inS : ∀ z ∈ as ++ ag, ∀ n ∈ z.fp, n ∈ fpS (as ++ ag) := fun z h n hn => List.mem_flatMap.mpr ⟨z, h, hn⟩
  have dj : ∀ n ∈ fpS (as ++ ag), n ∉ x0 := fun n h h' => (List.nodup_append.mp nd0).2.2 n h n h' rfl
  have lt0 : ∀ n ∈ fpS (as ++ ag), n < S.length := fun n h => by
    obtain ⟨z, hz, hn⟩ := List.mem_flatMap.mp h
    have zok := g.ok z hz
    cases z with
    | v b => exact fp_lt g.fs zok n hn
    | io b => exact fp_lt g.fs zok n hn
    | _ => cases hn
  have ag1 : ∀ n ∈ fpS (as ++ ag), F' n = F n ∧ S'[n]? = S[n]? := fun n h => keep n (lt0 n h) (dj n h)
  refine ⟨⟨fs, fun z hz => ?_, g.nd, g.al⟩, List.nodup_append.mpr ⟨g.nd, nd1, fun n h k h' e => ?_⟩, lt, m, len, fun n hn hx => keep n hn fun h => hx (List.mem_append_right _ h), fun n h => ?_, fun _ => rfl, fun _ => rfl, fun _ _ h => h, fun _ _ _ _ h => h⟩
  · have zok := g.ok z hz
    cases z with
    | v b => exact ok_frame m (fun n hn => ag1 n (inS _ hz n hn)) zok
    | io b => exact ok_frame m (fun n hn => ag1 n (inS _ hz n hn)) zok
    | xn C ns xs =>
      have t : (A.tup xs).ok F' S' := ok_frame (a := .tup xs) m (by rw [A.fp, zok.1]; intro n hn'; cases hn') (show (A.tup xs).ok F S from zok)
      exact t
    | un o => trivial
    | al r p => trivial
  · subst e
    rcases new n h' with t | t
    · exact dj n h t
    · exact absurd (lt0 n h) (Nat.not_lt.mpr t)
  · rcases List.mem_append.mp h with t | t
    · exact .inl (List.mem_append_left _ t)
    · rcases new n t with u | u
      · exact .inl (List.mem_append_right _ u)
      · exact .inr u
theorem frF_mono {ns : List Nat} (h : ∀ n ∈ ns, F n = none) : Mono F (frF F S ns) := fun n b o e => by
  unfold frF
  split
  · rename_i hn; rw [h n hn] at e; cases e
  · exact e
theorem frF_fs {ns : List Nat} (fs : FS F S) : FS (frF F S ns) S := fun n b o e => by
  unfold frF at e
  split at e
  · obtain ⟨o', h, q⟩ := Option.map_eq_some_iff.mp e; cases q; exact .inl h
  · exact fs n b o e
def cvR (k : Bool) (x : RV) (ls gh : Ls) : Option (D × Ls × Ls) := match x with
  | .v d => if k = true then some (d, ls, gh) else (D.frz d).map fun e => (e, ls, gh)
  | .pth r p => match atD ls gh r p with
    | some d => if d.shr = true then some (d, ls, gh) else (match D.frz d with
      | some e => let z := chD (fun _ => true) r p e ls gh; some (e, z.1, z.2)
      | none => none)
    | none => none
theorem frz_sim {z : List Nat} (g : Good F S as ag) {a : A} {d : D} (nd : (fpS (as ++ ag) ++ (a.fp ++ z)).Nodup) (lt : ∀ n ∈ a.fp ++ z, n < S.length) (hk : a.ok F S) (h : D.frz a.er = some d) :
    a.frz.ok (frF F S a.fp) S ∧ a.frz.fp = [] ∧ a.frz.er = d ∧ Ev true F S as ag (a.fp ++ z) (frF F S a.fp) S as ag z := by
  have hm := frF_mono (S := S) (frz_none a h hk)
  have n1 := (List.nodup_append.mp (List.nodup_append.mp nd).2.1)
  refine ⟨frz_ok a h [] hm (fun n hn => by unfold frF; rw [if_pos hn]) hk, frz_fp a h hk, frz_er a h, ?_⟩
  exact ev_same g nd hm (frF_fs g.fs) (Nat.le_refl _) (fun n hn hx => ⟨by unfold frF; rw [if_neg fun h => hx (List.mem_append_left _ h)], rfl⟩) n1.2.1 (fun n hn => .inl (List.mem_append_right _ hn)) (fun n hn => lt n (List.mem_append_right _ hn))
theorem cv_sim {k : Bool} {z : List Nat} (g : Good F S as ag) {c : ARV} {w : PV} {d : D} {ls' gh' : Ls} (nd : (fpS (as ++ ag) ++ (c.fp ++ z)).Nodup) (lt : ∀ n ∈ c.fp ++ z, n < S.length) (hp : c.pv as ag = some w) (hk : c.ok F S) (h : cvR k c.er (erS as) (erS ag) = some (d, ls', gh')) :
    ∃ (F' : FM) (as' ag' : List AV) (a : A), erS as' = ls' ∧ erS ag' = gh' ∧ a.er = d ∧ a.pv = w ∧ a.ok F' S ∧ (k = false → a.fp = []) ∧ Ev true F S as ag (c.fp ++ z) F' S as' ag' (a.fp ++ z) := by
  cases c with
  | v a =>
    cases hp
    cases k with
    | true =>
      simp only [cvR, ARV.er, if_true, Option.some.injEq, Prod.mk.injEq] at h
      obtain ⟨rfl, rfl, rfl⟩ := h
      exact ⟨F, as, ag, a, rfl, rfl, rfl, rfl, hk, (fun e => by cases e), Ev.refl g nd lt⟩
    | false =>
      simp only [cvR, ARV.er, Bool.false_eq_true, if_false, Option.map_eq_some_iff, Prod.mk.injEq] at h
      obtain ⟨d', hd, rfl, rfl, rfl⟩ := h
      obtain ⟨h1, h2, h3, h4⟩ := frz_sim g nd lt hk hd
      exact ⟨_, as, ag, a.frz, rfl, rfl, h3, frz_pv a, h1, fun _ => h2, by rw [h2]; exact h4⟩
  | pth r p =>
    simp only [cvR, ARV.er] at h
    rw [at_er] at h
    cases hat : atA as ag r p with
    | none => rw [hat] at h; cases h
    | some a =>
      rw [hat] at h
      simp only [Option.map_some] at h
      have hw : a.pv = w := by simpa [ARV.pv, hat] using hp
      have aok := at_ok g hat
      rw [shr_er] at h
      cases hs : a.shr with
      | true =>
        rw [hs] at h
        simp only [if_true, Option.some.injEq, Prod.mk.injEq] at h
        obtain ⟨rfl, rfl, rfl⟩ := h
        have e0 := fp_shr aok hs
        exact ⟨F, as, ag, a, rfl, rfl, rfl, hw, aok, fun _ => e0, by rw [e0]; exact Ev.refl g nd lt⟩
      | false =>
        rw [hs] at h
        simp only [Bool.false_eq_true, if_false] at h
        cases hf : D.frz a.er with
        | none => rw [hf] at h; cases h
        | some e =>
          rw [hf] at h
          simp only [Option.some.injEq, Prod.mk.injEq] at h
          obtain ⟨rfl, h1, h2⟩ := h
          obtain ⟨root, hr, hx⟩ := at_split hat
          have hfe := frz_er a hf
          rw [← hfe, ← ch_er] at h1 h2
          have hm := frF_mono (S := S) (frz_none a hf aok)
          have fpz := frz_fp a hf aok
          refine ⟨frF F S a.fp, (chA (fun _ => true) r p a.frz as ag).1, (chA (fun _ => true) r p a.frz as ag).2, a.frz, h1, h2, hfe, by rw [frz_pv]; exact hw, frz_ok a hf [] hm (fun n hn => by unfold frF; rw [if_pos hn]) aok, fun _ => fpz, ?_⟩
          rw [fpz]
          have nz := (List.nodup_append.mp nd).2.1
          exact ev_ch (t := fun _ => true) (fun _ _ => rfl) g nd hr hx hs (frz_pv a) (fun p w _ => per_frz a hf p w trivial) hm (frF_fs g.fs) (Nat.le_refl _)
            (fun n hn hx => ⟨by unfold frF; rw [if_neg fun h => hx (List.mem_append_left _ h)], rfl⟩) (frz_ok a hf [] hm (fun n hn => by unfold frF; rw [if_pos hn]) aok) (by rw [fpz]; exact nz) (fun n hn => .inl (by rw [fpz] at hn; exact List.mem_append_right _ hn)) (fun n hn => lt n hn)
theorem cv_sim0 {k : Bool} (g : Good F S as ag) {c : ARV} {w : PV} {d : D} {ls' gh' : Ls} (nd : (fpS (as ++ ag) ++ c.fp).Nodup) (lt : ∀ n ∈ c.fp, n < S.length) (hp : c.pv as ag = some w) (hk : c.ok F S) (h : cvR k c.er (erS as) (erS ag) = some (d, ls', gh')) :
    ∃ (F' : FM) (as' ag' : List AV) (a : A), erS as' = ls' ∧ erS ag' = gh' ∧ a.er = d ∧ a.pv = w ∧ a.ok F' S ∧ (k = false → a.fp = []) ∧ Ev true F S as ag c.fp F' S as' ag' a.fp := by
  obtain ⟨F', as', ag', a, h1, h2, h3, h4, h5, h6, h7⟩ := cv_sim (z := []) g (by rw [List.append_nil]; exact nd) (by rw [List.append_nil]; exact lt) hp hk h
  rw [List.append_nil, List.append_nil] at h7
  exact ⟨F', as', ag', a, h1, h2, h3, h4, h5, h6, h7⟩
def cvL (k : Bool) : List RV → Ls → Ls → Option (List D × Ls × Ls)
  | [], ls, gh => some ([], ls, gh)
  | x :: r, ls, gh => match cvR k x ls gh with
    | some (d, ls, gh) => (match cvL k r ls gh with
      | some (ds, ls, gh) => some (d :: ds, ls, gh)
      | none => none)
    | none => none
theorem nd_sub {a b c : List Nat} (h : (a ++ (b ++ c)).Nodup) : (a ++ b).Nodup ∧ (a ++ c).Nodup ∧ (a ++ (c ++ b)).Nodup :=
  ⟨h.sublist (List.Sublist.append_left (List.sublist_append_left _ _) _), h.sublist (List.Sublist.append_left (List.sublist_append_right _ _) _), nodup_app_comm3 h⟩
theorem cvL_sim {k : Bool} : ∀ {cs : List ARV} {F : FM} {as ag : List AV} {ws : List PV} {ds : List D} {ls' gh' : Ls}, Good F S as ag → (fpS (as ++ ag) ++ RA.fp cs).Nodup → (∀ n ∈ RA.fp cs, n < S.length) → RA.pv as ag cs = some ws → RA.ok F S cs →
    cvL k (cs.map ARV.er) (erS as) (erS ag) = some (ds, ls', gh') →
    ∃ (F' : FM) (as' ag' : List AV) (xs : List A), erS as' = ls' ∧ erS ag' = gh' ∧ A.ers xs = ds ∧ A.pvs xs = ws ∧ A.oks F' S xs ∧ (k = false → A.fps xs = []) ∧ Ev true F S as ag (RA.fp cs) F' S as' ag' (A.fps xs)
  | [], F, as, ag, ws, ds, ls', gh', g, nd, lt, hp, hk, h => by
    simp only [List.map_nil, cvL, Option.some.injEq, Prod.mk.injEq] at h
    obtain ⟨rfl, rfl, rfl⟩ := h
    cases hp
    exact ⟨F, as, ag, [], rfl, rfl, rfl, rfl, trivial, fun _ => rfl, Ev.refl g nd lt⟩
  | c :: r, F, as, ag, ws, ds, ls', gh', g, nd, lt, hp, hk, h => by
    obtain ⟨w, ws, hw, hws, rfl⟩ := seqO_cons hp
    simp only [List.map_cons, cvL] at h
    cases h1 : cvR k c.er (erS as) (erS ag) with
    | none => rw [h1] at h; cases h
    | some t =>
      obtain ⟨d, l1, g1⟩ := t
      rw [h1] at h
      dsimp only at h
      have e0 : RA.fp (c :: r) = c.fp ++ RA.fp r := rfl
      rw [e0] at nd lt ⊢
      obtain ⟨n1, n2, n3⟩ := nd_sub nd
      obtain ⟨F1, as1, ag1, a, rfl, rfl, rfl, rfl, aok, afp, ev⟩ := cv_sim0 g n1 (fun n h => lt n (List.mem_append_left _ h)) hw (hk c List.mem_cons_self) h1
      cases h2 : cvL k (r.map ARV.er) (erS as1) (erS ag1) with
      | none => rw [h2] at h; cases h
      | some t2 =>
        obtain ⟨ds2, l2, g2⟩ := t2
        rw [h2] at h
        simp only [Option.some.injEq, Prod.mk.injEq] at h
        obtain ⟨rfl, rfl, rfl⟩ := h
        have st := stab_ra true r (.inl rfl) F S as ag _ F1 S as1 ag1 _ ws ev g n3 hws (fun c hc => hk c (List.mem_cons_of_mem _ hc))
        have evf := (ev.frame n3 (fun n h => lt n (List.mem_append_right _ h))).perm List.perm_append_comm List.perm_append_comm
        obtain ⟨m1, m2, m3⟩ := nd_sub evf.nd
        obtain ⟨F2, as2, ag2, xs, rfl, rfl, rfl, rfl, xok, xfp, ev2⟩ := cvL_sim evf.good m2 (fun n h => evf.lt n (List.mem_append_right _ h)) st.1 st.2 h2
        refine ⟨F2, as2, ag2, a :: xs, rfl, rfl, rfl, rfl, ⟨ev2.stay (z := a) aok evf.nd evf.good.fs, xok⟩, fun e => ?_, evf.trans (ev2.frame evf.nd (fun n h => evf.lt n (List.mem_append_left _ h)))⟩
        show A.fp a ++ A.fps xs = []
        rw [afp e, xfp e]; rfl
theorem sim_alloc {q : Bool} {x0 : List Nat} (g : Good F S as ag) (nd : (fpS (as ++ ag) ++ x0).Nodup) (lt : ∀ n ∈ x0, n < S.length) (h : Hd) (xs : List A) (hw : h.wf xs.length = true) (ok : A.oks F S xs) (sub : (A.fps xs).Sublist x0) {o : AD → GL.Out PV} (ho : ∀ ad, o ad = .ok (.loc S.length) (S ++ [mkO h (A.pvs xs)])) :
    SimO q RE F S as ag x0 o (.ok (.v (.nd .ow h (A.ers xs))) (erS as) (erS ag)) := by
  have hF : F S.length = none := by
    cases hf : F S.length with
    | none => rfl
    | some z =>
      obtain ⟨b, o⟩ := z
      have := (g.fs _ _ _ hf).lt
      omega
  have gr : ∀ n, n < S.length → (S ++ [mkO h (A.pvs xs)])[n]? = S[n]? := fun n hn => List.getElem?_append_left hn
  have fs : FS F (S ++ [mkO h (A.pvs xs)]) := fun n b o e => by
    have := g.fs n b o e
    exact this.to (gr n this.lt)
  have lx : ∀ n ∈ A.fps xs, n < S.length := fun n hn => lt n (sub.subset hn)
  have ok' : A.oks F (S ++ [mkO h (A.pvs xs)]) xs := by
    rw [oks_iff] at ok ⊢
    exact fun x hx => ok_frame Mono.refl (fun n hn => ⟨rfl, gr n (lx n (by rw [fps_map]; exact List.mem_flatMap.mpr ⟨x, hx, hn⟩))⟩) (ok x hx)
  refine ⟨F, _, as, ag, .v (.nd .ow S.length h xs), .loc S.length, rfl, rfl, rfl, ho, rfl, ?_, ?_⟩
  · show A.ok _ _ _
    simp only [A.ok]
    exact ⟨⟨hF, by rw [List.getElem?_append_right (Nat.le_refl _)]; simp⟩, hw, ok'⟩
  · show Ev q F S as ag x0 F _ as ag (S.length :: A.fps xs)
    refine ev_same g nd Mono.refl fs (by simp) (fun n hn _ => ⟨rfl, gr n hn⟩) ?_ ?_ ?_
    · exact List.nodup_cons.mpr ⟨fun h => absurd (lx _ h) (Nat.lt_irrefl _), ((List.nodup_append.mp nd).2.1).sublist sub⟩
    · intro n hn
      rcases List.mem_cons.mp hn with rfl | h
      · exact .inr (Nat.le_refl _)
      · exact .inl (sub.subset h)
    · intro n hn
      rw [List.length_append, List.length_singleton]
      rcases List.mem_cons.mp hn with rfl | h
      · omega
      · have := lx n h; omega
def eTup (m : PA) : PE := fun ls gh => (m ls gh).bind fun xs ls gh => match cvL false xs ls gh with
  | some (ds, ls, gh) => if ds.length ≤ lim then .ok (.v (.tup ds)) ls gh else .bad
  | none => .bad
def eLst (m : PA) : PE := fun ls gh => (m ls gh).bind fun xs ls gh => match cvL true xs ls gh with
  | some (ds, ls, gh) => if ds.length ≤ lim then .ok (.v (.nd .ow .lst ds)) ls gh else .bad
  | none => .bad
theorem pvs_len (xs : List A) : (A.pvs xs).length = xs.length := by rw [pvs_map, List.length_map]
theorem ers_len (xs : List A) : (A.ers xs).length = xs.length := by rw [ers_map, List.length_map]
section
variable {q : Bool} {mr : AD → GL.MA} {pr : PA}
theorem sim_tup (h : SimA q mr pr) : SimE q (fun ad => GL.eTup (mr ad)) (eTup pr) := fun F S as ag gd =>
  SimO.weak (sim_first (R' := RE) (q' := true) (k := fun xs ls gh => match cvL false xs ls gh with
    | some (ds, ls, gh) => if ds.length ≤ lim then .ok (.v (.tup ds)) ls gh else .bad
    | none => .bad) (f := fun ad ws S1 => if ws.length ≤ lim then .ok (.tup ws) S1 else .bad) h gd (fun _ => rfl) fun F1 S1 as1 ag1 cs ws h1 h2 g1 n1 l1 L1 => by
    cases hc : cvL false (RA.er cs) (erS as1) (erS ag1) with
    | none => simp only [hc]; trivial
    | some t =>
      obtain ⟨ds, l2, g2⟩ := t
      obtain ⟨F2, as2, ag2, xs, rfl, rfl, rfl, rfl, xok, xfp, ev⟩ := cvL_sim g1 n1 l1 h1 h2 hc
      simp only [hc]
      by_cases hl : (A.ers xs).length ≤ lim
      · have hl2 : (A.pvs xs).length ≤ lim := by rw [pvs_len, ← ers_len]; exact hl
        rw [if_pos hl]
        simp only [if_pos hl2]
        refine SimO.pre ev ?_
        refine sim_okE ev.good ev.nd ev.lt (.v (.tup xs)) (fun _ => rfl) rfl rfl ⟨xfp rfl, xok⟩ ?_
        show (A.fps xs).Sublist _
        rw [xfp rfl]; exact List.Sublist.refl _
      · rw [if_neg hl]; trivial) (by simp)
theorem sim_lst (h : SimA q mr pr) : SimE q (fun ad => GL.eLst (mr ad)) (eLst pr) := fun F S as ag gd =>
  SimO.weak (sim_first (R' := RE) (q' := true) (k := fun xs ls gh => match cvL true xs ls gh with
    | some (ds, ls, gh) => if ds.length ≤ lim then .ok (.v (.nd .ow .lst ds)) ls gh else .bad
    | none => .bad) (f := fun ad ws S1 => if ws.length ≤ lim then .ok (.loc S1.length) (S1 ++ [.lst ws]) else .bad) h gd (fun _ => rfl) fun F1 S1 as1 ag1 cs ws h1 h2 g1 n1 l1 L1 => by
    cases hc : cvL true (RA.er cs) (erS as1) (erS ag1) with
    | none => simp only [hc]; trivial
    | some t =>
      obtain ⟨ds, l2, g2⟩ := t
      obtain ⟨F2, as2, ag2, xs, rfl, rfl, rfl, rfl, xok, xfp, ev⟩ := cvL_sim g1 n1 l1 h1 h2 hc
      simp only [hc]
      by_cases hl : (A.ers xs).length ≤ lim
      · have hl2 : (A.pvs xs).length ≤ lim := by rw [pvs_len, ← ers_len]; exact hl
        rw [if_pos hl]
        simp only [if_pos hl2]
        refine SimO.pre ev ?_
        exact sim_alloc ev.good ev.nd ev.lt .lst xs rfl xok (List.Sublist.refl _) (fun _ => rfl)
      · rw [if_neg hl]; trivial) (by simp)
end
end VL
set_option Elab.async false
set_option linter.all false
set_option maxRecDepth 100000
set_option maxHeartbeats 1000000
namespace VL
open GL (PV OB Sto Nm BT lim)
open PySem (PyData Builtin)
variable {F F' : FM} {S S' : Sto} {as as' ag ag' : List AV}
theorem er_v {c : ARV} {d : D} (h : c.er = .v d) {w : PV} (hp : c.pv as ag = some w) : ∃ a, c = .v a ∧ a.er = d ∧ a.pv = w := by
  cases c with
  | v a => cases h; cases hp; exact ⟨a, rfl, rfl, rfl⟩
  | pth r p => cases h
theorem er_sc {a : A} {s : Sc} (h : a.er = .sc s) : a = .sc s := by
  cases a with
  | sc t => simp only [A.er, D.sc.injEq] at h; rw [h]
  | tup xs => simp [A.er] at h
  | nd k n hd xs => simp [A.er] at h
theorem er_tup {a : A} {xs : List D} (h : a.er = .tup xs) : ∃ ys, a = .tup ys ∧ A.ers ys = xs := by
  cases a with
  | sc t => simp [A.er] at h
  | tup ys => simp only [A.er, D.tup.injEq] at h; exact ⟨ys, rfl, h⟩
  | nd k n hd xs => simp [A.er] at h
theorem er_nd {a : A} {k : Fl} {hd : Hd} {xs : List D} (h : a.er = .nd k hd xs) : ∃ n ys, a = .nd k n hd ys ∧ A.ers ys = xs := by
  cases a with
  | sc t => simp [A.er] at h
  | tup ys => simp [A.er] at h
  | nd k n hd ys => simp only [A.er, D.nd.injEq] at h; obtain ⟨rfl, rfl, h⟩ := h; exact ⟨n, ys, rfl, h⟩
theorem er_vsc {c : ARV} {s : Sc} (h : c.er = .v (.sc s)) {w : PV} (hp : c.pv as ag = some w) : w = s.pv := by
  obtain ⟨a, rfl, e, rfl⟩ := er_v h hp
  rw [er_sc e]; rfl
def gInt (g : Int → Int → Int) : G2 := fun x y ls gh => match x, y with
  | .v (.sc (.int i)), .v (.sc (.int j)) => .ok (.v (.int (g i j))) ls gh
  | _, _ => .bad
def gIntC (c : Int → Int → Bool) (g : Int → Int → Int) : G2 := fun x y ls gh => match x, y with
  | .v (.sc (.int i)), .v (.sc (.int j)) => if c i j = true then .ok (.v (.int (g i j))) ls gh else .bad
  | _, _ => .bad
def gCmpI (g : Int → Int → Bool) : G2 := fun x y ls gh => match x, y with
  | .v (.sc (.int i)), .v (.sc (.int j)) => .ok (.v (.bl (g i j))) ls gh
  | _, _ => .bad
abbrev gSub : G2 := gInt fun i j => i - j
abbrev gDiv : G2 := gIntC GL.cDiv fun i j => i / j
abbrev gMod : G2 := gIntC GL.cMod fun i j => i % j
abbrev gLt : G2 := gCmpI fun i j => decide (i < j)
theorem sim_gInt (f : Int → Int → Int) : SimG true (GL.gInt f) (gInt f) := by
  intro F S as ag c1 c2 w1 w2 g nd lt h1 h2 k1 k2
  unfold gInt
  split
  · rename_i i j e1 e2
    rw [er_vsc e1 h1, er_vsc e2 h2]
    exact sim_sc g nd lt (.int (f i j)) (fun _ => rfl)
  · trivial
theorem sim_gIntC (c : Int → Int → Bool) (f : Int → Int → Int) : SimG true (GL.gIntC c f) (gIntC c f) := by
  intro F S as ag c1 c2 w1 w2 g nd lt h1 h2 k1 k2
  unfold gIntC
  split
  · rename_i i j e1 e2
    rw [er_vsc e1 h1, er_vsc e2 h2]
    by_cases hc : c i j = true
    · rw [if_pos hc]
      exact sim_sc g nd lt (.int (f i j)) (fun _ => by simp [GL.gIntC, Sc.pv, hc])
    · rw [if_neg hc]; trivial
  · trivial
theorem sim_gCmpI (f : Int → Int → Bool) : SimG true (GL.gCmpI f) (gCmpI f) := by
  intro F S as ag c1 c2 w1 w2 g nd lt h1 h2 k1 k2
  unfold gCmpI
  split
  · rename_i i j e1 e2
    rw [er_vsc e1 h1, er_vsc e2 h2]
    exact sim_sc g nd lt (.bl (f i j)) (fun _ => rfl)
  · trivial
theorem sim_gSub : SimG true GL.gSub gSub := sim_gInt _
theorem sim_gDiv : SimG true GL.gDiv gDiv := sim_gIntC _ _
theorem sim_gMod : SimG true GL.gMod gMod := sim_gIntC _ _
theorem sim_gLt : SimG true GL.gLt gLt := sim_gCmpI _
def shrK (x : RV) (xs : List D) : Option (List D) := if xs.all D.shr = true then some xs else match x with
  | .v _ => D.frzs xs
  | .pth _ _ => none
theorem all_shr {xs : List A} (h : (A.ers xs).all D.shr = true) : ∀ x ∈ xs, x.shr = true := by
  rw [ers_map, List.all_map, List.all_eq_true] at h
  exact fun x hx => by have := h x hx; simpa [shr_er] using this
theorem fps_shr {xs : List A} (h : ∀ x ∈ xs, x.shr = true) (ok : A.oks F S xs) : A.fps xs = [] := by
  rw [fps_map, List.flatMap_eq_nil_iff]
  exact fun x hx => fp_shr ((oks_iff xs).mp ok x hx) (h x hx)
theorem shrK_sim (g : Good F S as ag) {c : ARV} {ks : List A} {ds : List D} (nd : (fpS (as ++ ag) ++ c.fp).Nodup) (lt : ∀ n ∈ c.fp, n < S.length) (hk : A.oks F S ks) (hc : ∀ d, c.er = .v d → ∀ n ∈ A.fps ks, n ∈ c.fp) (h : shrK c.er (A.ers ks) = some ds) :
    ∃ (F' : FM) (zs : List A), A.ers zs = ds ∧ A.pvs zs = A.pvs ks ∧ A.fps zs = [] ∧ A.oks F' S zs ∧ Ev true F S as ag c.fp F' S as ag [] := by
  unfold shrK at h
  by_cases ha : (A.ers ks).all D.shr = true
  · rw [if_pos ha] at h
    cases h
    exact ⟨F, ks, rfl, rfl, fps_shr (all_shr ha) hk, hk, (Ev.refl g nd lt).sub (List.nil_sublist _)⟩
  · rw [if_neg ha] at h
    cases c with
    | pth r p => cases h
    | v a =>
      simp only [ARV.er] at h
      obtain ⟨l, q⟩ := (dfrzs_iff _ _).mp h
      have each : ∀ x ∈ ks, ∃ d, D.frz x.er = some d := fun x hx => by
        obtain ⟨i, hi⟩ := List.getElem?_of_mem hx
        obtain ⟨y, _, b⟩ := q i x.er (by rw [ers_map, List.getElem?_map, hi]; rfl)
        exact ⟨y, b⟩
      have hn : ∀ n ∈ A.fps ks, F n = none := fun n hn => by
        rw [fps_map] at hn
        obtain ⟨x, hx, hn⟩ := List.mem_flatMap.mp hn
        obtain ⟨d, hd⟩ := each x hx
        exact frz_none x hd ((oks_iff ks).mp hk x hx) n hn
      have hm := frF_mono (S := S) hn
      refine ⟨frF F S (A.fps ks), A.frzs ks, ?_, frzs_pvs ks, ?_, ?_, ?_⟩
      · apply List.ext_getElem?
        intro i
        rw [ers_map, frzs_map, List.map_map, List.getElem?_map]
        rw [ers_map] at l q
        cases hx : ks[i]? with
        | none =>
          rw [List.getElem?_eq_none_iff] at hx
          exact (List.getElem?_eq_none_iff.mpr (by rw [l, List.length_map]; exact hx)).symm
        | some x =>
          obtain ⟨y, a, b⟩ := q i x.er (by rw [List.getElem?_map, hx]; rfl)
          rw [a, Option.map_some, Function.comp, frz_er x b]
      · rw [fps_map, frzs_map, List.flatMap_map, List.flatMap_eq_nil_iff]
        intro x hx
        obtain ⟨d, hd⟩ := each x hx
        exact frz_fp x hd ((oks_iff ks).mp hk x hx)
      · rw [oks_iff, frzs_map]
        intro y hy
        obtain ⟨x, hx, rfl⟩ := List.mem_map.mp hy
        obtain ⟨d, hd⟩ := each x hx
        exact frz_ok x hd [] hm (fun n hn => by unfold frF; rw [if_pos (by rw [fps_map]; exact List.mem_flatMap.mpr ⟨x, hx, hn⟩)]) ((oks_iff ks).mp hk x hx)
      · exact ev_same g nd hm (frF_fs g.fs) (Nat.le_refl _) (fun n _ hx => ⟨by unfold frF; rw [if_neg fun h => hx (hc _ rfl n h)], rfl⟩) List.nodup_nil (fun n hn => by cases hn) (fun n hn => by cases hn)
inductive Kd where
  | lst | rol | tup
  deriving DecidableEq
def seqD : D → Option (Kd × List D)
  | .tup xs => some (.tup, xs)
  | .nd _ .lst xs => some (.lst, xs)
  | .nd _ .rol xs => some (.rol, xs)
  | _ => none
def seqV (x : RV) (ls gh : Ls) : Option (Kd × List D) := (val x ls gh).bind seqD
def SeqG (S : Sto) : Kd → PV → List PV → Prop
  | .tup, w, ws => w = .tup ws
  | .lst, w, ws => ∃ n, w = .loc n ∧ S[n]? = some (.lst ws)
  | .rol, w, ws => ∃ n, w = .loc n ∧ S[n]? = some (.rol ws)
theorem seqV_er {c : ARV} {k : Kd} {ds : List D} (h : seqV c.er (erS as) (erS ag) = some (k, ds)) {w : PV} (hp : c.pv as ag = some w) (g : Good F S as ag) (hk : c.ok F S) :
    ∃ ks : List A, A.ers ks = ds ∧ SeqG S k w (A.pvs ks) ∧ A.oks F S ks ∧ (∀ d, c.er = .v d → ∀ n ∈ A.fps ks, n ∈ c.fp) ∧ (k = .tup → A.fps ks = []) ∧
      ((∃ a, c = .v a ∧ a.kids = ks) ∨ ∃ r p a, c = .pth r p ∧ atA as ag r p = some a ∧ a.kids = ks) := by
  obtain ⟨d, e1, e2⟩ := Option.bind_eq_some_iff.mp h
  obtain ⟨a, rfl, rfl, aok, hc⟩ := val_er c e1 hp g hk
  have key : ∀ ks : List A, a.kids = ks → ((∃ a, c = .v a ∧ a.kids = ks) ∨ ∃ r p a, c = .pth r p ∧ atA as ag r p = some a ∧ a.kids = ks) := fun ks hks => by
    rcases hc with rfl | ⟨r, p, rfl, h'⟩
    · exact .inl ⟨a, rfl, hks⟩
    · exact .inr ⟨r, p, a, rfl, h', hks⟩
  have fpk : ∀ d, c.er = .v d → ∀ n ∈ A.fps a.kids, n ∈ c.fp := fun d hd n hn => by
    rcases hc with rfl | ⟨r, p, rfl, h⟩
    · show n ∈ a.fp
      cases a with
      | sc s => simp [A.kids, A.fps] at hn
      | tup xs => exact hn
      | nd k m hd xs => cases k <;> simp_all [A.fp, A.kids]
    · cases hd
  cases a with
  | sc s => simp [A.er, seqD] at e2
  | tup xs =>
    simp only [A.er, seqD, Option.some.injEq, Prod.mk.injEq] at e2
    obtain ⟨rfl, rfl⟩ := e2
    simp only [A.ok] at aok
    exact ⟨xs, rfl, rfl, aok.2, fpk, fun _ => aok.1, key xs rfl⟩
  | nd k n hd xs =>
    have ob := obj_of g.fs aok
    cases hd with
    | lst =>
      simp only [A.er, seqD, Option.some.injEq, Prod.mk.injEq] at e2
      obtain ⟨rfl, rfl⟩ := e2
      exact ⟨xs, rfl, ⟨n, rfl, ob.lst⟩, ok_kids aok, fpk, (fun e => by cases e), key xs rfl⟩
    | rol =>
      simp only [A.er, seqD, Option.some.injEq, Prod.mk.injEq] at e2
      obtain ⟨rfl, rfl⟩ := e2
      exact ⟨xs, rfl, ⟨n, rfl, ob.rol⟩, ok_kids aok, fpk, (fun e => by cases e), key xs rfl⟩
    | dct ks => simp [A.er, seqD] at e2
    | dcn ks => simp [A.er, seqD] at e2
    | ptp => simp [A.er, seqD] at e2
    | ins C ns => simp [A.er, seqD] at e2
def lstK (x : RV) (ls gh : Ls) : Option (List D) := match seqV x ls gh with
  | some (.lst, xs) => shrK x xs
  | _ => none
theorem lstK_sim (g : Good F S as ag) {c : ARV} {ds : List D} {w : PV} (nd : (fpS (as ++ ag) ++ c.fp).Nodup) (lt : ∀ n ∈ c.fp, n < S.length) (hp : c.pv as ag = some w) (hk : c.ok F S) (h : lstK c.er (erS as) (erS ag) = some ds) :
    ∃ (F' : FM) (zs : List A) (n : Nat), A.ers zs = ds ∧ w = .loc n ∧ S[n]? = some (.lst (A.pvs zs)) ∧ A.fps zs = [] ∧ A.oks F' S zs ∧ Ev true F S as ag c.fp F' S as ag [] := by
  unfold lstK at h
  split at h
  · rename_i xs e
    obtain ⟨ks, rfl, ⟨n, rfl, hs⟩, ok, fpk, _, _⟩ := seqV_er e hp g hk
    obtain ⟨F', zs, h1, h2, h3, h4, h5⟩ := shrK_sim g nd lt ok fpk h
    exact ⟨F', zs, n, h1, rfl, by rw [h2]; exact hs, h3, h4, h5⟩
  · cases h
def gAdd : G2 := fun x y ls gh => match x, y with
  | .v (.sc (.int i)), .v (.sc (.int j)) => .ok (.v (.int (i + j))) ls gh
  | .v (.sc (.str a)), .v (.sc (.str b)) => if a.length + b.length ≤ lim then .ok (.v (.str (a ++ b))) ls gh else .bad
  | .v (.tup a), .v (.tup b) => if a.length + b.length ≤ lim then .ok (.v (.tup (a ++ b))) ls gh else .bad
  | x, y => match lstK x ls gh, lstK y ls gh with
    | some a, some b => if a.length + b.length ≤ lim then .ok (.v (.nd .ow .lst (a ++ b))) ls gh else .bad
    | _, _ => .bad
theorem ers_app (xs ys : List A) : A.ers (xs ++ ys) = A.ers xs ++ A.ers ys := by simp [ers_map]
theorem pvs_app (xs ys : List A) : A.pvs (xs ++ ys) = A.pvs xs ++ A.pvs ys := by simp [pvs_map]
theorem fps_app (xs ys : List A) : A.fps (xs ++ ys) = A.fps xs ++ A.fps ys := by simp [fps_map]
theorem oks_app {xs ys : List A} (h1 : A.oks F S xs) (h2 : A.oks F S ys) : A.oks F S (xs ++ ys) := by
  rw [oks_iff] at *
  intro x hx
  rcases List.mem_append.mp hx with h | h
  · exact h1 x h
  · exact h2 x h
theorem oks_mono {xs : List A} (m : Mono F F') (h : A.oks F S xs) (e : A.fps xs = []) : A.oks F' S' xs := by
  rw [oks_iff] at *
  exact fun x hx => ok_frame m (fun n hn => by
    have : n ∈ A.fps xs := by rw [fps_map]; exact List.mem_flatMap.mpr ⟨x, hx, hn⟩
    rw [e] at this; cases this) (h x hx)
theorem lstAt_of {S : Sto} {n : Nat} {xs : List PV} (h : S[n]? = some (.lst xs)) : GL.lstAt S n = some xs := by unfold GL.lstAt; rw [h]
theorem seqAt_of {S : Sto} {n : Nat} {xs : List PV} (h : S[n]? = some (.lst xs)) : GL.seqAt S n = some xs := by unfold GL.seqAt; rw [h]
theorem seqAt_of' {S : Sto} {n : Nat} {xs : List PV} (h : S[n]? = some (.rol xs)) : GL.seqAt S n = some xs := by unfold GL.seqAt; rw [h]
theorem two_lists (g : Good F S as ag) {c1 c2 : ARV} {a b : List D} {w1 w2 : PV} (nd : (fpS (as ++ ag) ++ (c1.fp ++ c2.fp)).Nodup) (lt : ∀ n ∈ c1.fp ++ c2.fp, n < S.length) (h1 : c1.pv as ag = some w1) (h2 : c2.pv as ag = some w2) (k1 : c1.ok F S) (k2 : c2.ok F S)
    (e1 : lstK c1.er (erS as) (erS ag) = some a) (e2 : lstK c2.er (erS as) (erS ag) = some b) :
    ∃ (F' : FM) (ys zs : List A) (n m : Nat), A.ers ys = a ∧ A.ers zs = b ∧ w1 = .loc n ∧ w2 = .loc m ∧ S[n]? = some (.lst (A.pvs ys)) ∧ S[m]? = some (.lst (A.pvs zs)) ∧ A.fps ys = [] ∧ A.fps zs = [] ∧ A.oks F' S ys ∧ A.oks F' S zs ∧ Ev true F S as ag (c1.fp ++ c2.fp) F' S as ag [] := by
  obtain ⟨n1, n2, n3⟩ := nd_sub nd
  obtain ⟨F1, ys, n, r1, rfl, r3, r4, r5, ev1⟩ := lstK_sim g n1 (fun n h => lt n (List.mem_append_left _ h)) h1 k1 e1
  have ev1f := (ev1.frame n3 (fun n h => lt n (List.mem_append_right _ h))).perm List.perm_append_comm List.perm_append_comm
  have k2' := (stab_re true c2 (.inl rfl) _ _ _ _ _ _ _ _ _ _ _ ev1 g n3 h2 k2)
  obtain ⟨F2, zs, m, s1, rfl, s3, s4, s5, ev2⟩ := lstK_sim ev1.good (by simpa using ev1f.nd) (fun n h => ev1f.lt n (by simpa using h)) k2'.1 k2'.2 e2
  refine ⟨F2, ys, zs, n, m, r1, s1, rfl, rfl, r3, s3, r4, s4, oks_mono ev2.mono r5 r4, s5, ?_⟩
  have := ev1f.trans (by simpa using ev2)
  simpa using this
theorem sim_gAdd : SimG true GL.gAdd gAdd := by
  intro F S as ag c1 c2 w1 w2 g nd lt h1 h2 k1 k2
  unfold gAdd
  split
  · rename_i i j e1 e2
    rw [er_vsc e1 h1, er_vsc e2 h2]
    exact sim_sc g nd lt (.int (i + j)) (fun _ => rfl)
  · rename_i a b e1 e2
    rw [er_vsc e1 h1, er_vsc e2 h2]
    by_cases hl : a.length + b.length ≤ lim
    · rw [if_pos hl]
      exact sim_sc g nd lt (.str (a ++ b)) (fun _ => by simp only [GL.gAdd, Sc.pv, if_pos hl])
    · rw [if_neg hl]; trivial
  · rename_i a b e1 e2
    obtain ⟨x, rfl, ex, rfl⟩ := er_v e1 h1
    obtain ⟨y, rfl, ey, rfl⟩ := er_v e2 h2
    obtain ⟨xs, rfl, rfl⟩ := er_tup ex
    obtain ⟨ys, rfl, rfl⟩ := er_tup ey
    rw [ers_len, ers_len]
    by_cases hl : xs.length + ys.length ≤ lim
    · rw [if_pos hl]
      have p1 : A.fps xs = [] ∧ A.oks F S xs := k1
      have p2 : A.fps ys = [] ∧ A.oks F S ys := k2
      refine sim_okE g nd lt (.v (.tup (xs ++ ys))) (fun _ => ?_) (by simp [ARV.er, A.er, ers_app]) rfl ⟨by rw [fps_app, p1.1, p2.1]; rfl, oks_app p1.2 p2.2⟩ (by show (A.fps _).Sublist _; rw [fps_app, p1.1, p2.1]; exact List.nil_sublist _)
      simp only [GL.gAdd, A.pv, pvs_len, if_pos hl, pvs_app]
    · rw [if_neg hl]; trivial
  · split
    · rename_i a b e1 e2
      obtain ⟨F', ys, zs, n, m, rfl, rfl, rfl, rfl, s1, s2, f1, f2, o1, o2, ev⟩ := two_lists g nd lt h1 h2 k1 k2 e1 e2
      rw [ers_len, ers_len]
      by_cases hl : ys.length + zs.length ≤ lim
      · rw [if_pos hl, ← ers_app]
        refine SimO.pre ev ?_
        refine sim_alloc ev.good ev.nd ev.lt .lst (ys ++ zs) rfl (oks_app o1 o2) (by rw [fps_app, f1, f2]; exact List.nil_sublist _) (fun _ => ?_)
        simp only [GL.gAdd, lstAt_of s1, lstAt_of s2, pvs_len, if_pos hl, mkO, pvs_app]
      · rw [if_neg hl]; trivial
    · trivial
def repD (n : Nat) (xs : List D) : List D := (List.replicate n xs).flatten
def gMul : G2 := fun x y ls gh => match x, y with
  | .v (.sc (.int i)), .v (.sc (.int j)) => if (GL.smallI i || GL.smallI j) = true then .ok (.v (.int (i * j))) ls gh else .bad
  | x, .v (.sc (.int j)) => (match lstK x ls gh with
    | some a => if (decide (0 ≤ j) && decide (j < 100000) && decide (a.length * j.toNat ≤ lim)) = true then .ok (.v (.nd .ow .lst (repD j.toNat a))) ls gh else .bad
    | none => .bad)
  | _, _ => .bad
theorem sim_gMul : SimG true GL.gMul gMul := by
  intro F S as ag c1 c2 w1 w2 g nd lt h1 h2 k1 k2
  unfold gMul
  split
  · rename_i i j e1 e2
    rw [er_vsc e1 h1, er_vsc e2 h2]
    by_cases hl : (GL.smallI i || GL.smallI j) = true
    · rw [if_pos hl]
      exact sim_sc g nd lt (.int (i * j)) (fun _ => by simp only [GL.gMul, Sc.pv, if_pos hl])
    · rw [if_neg hl]; trivial
  · rename_i j e2 hne
    rw [er_vsc e2 h2]
    split
    · rename_i a e1
      obtain ⟨n1, n2, n3⟩ := nd_sub nd
      obtain ⟨F1, ys, n, rfl, rfl, r3, r4, r5, ev1⟩ := lstK_sim g n1 (fun n h => lt n (List.mem_append_left _ h)) h1 k1 e1
      have ev1f := (ev1.frame n3 (fun n h => lt n (List.mem_append_right _ h))).perm List.perm_append_comm List.perm_append_comm
      rw [ers_len]
      by_cases hl : (decide (0 ≤ j) && decide (j < 100000) && decide (ys.length * j.toNat ≤ lim)) = true
      · rw [if_pos hl]
        refine SimO.pre ev1f ?_
        have eE : repD j.toNat (A.ers ys) = A.ers (List.replicate j.toNat ys).flatten := by
          unfold repD
          rw [ers_map, ers_map, List.map_flatten, List.map_replicate]
        have fpE : A.fps (List.replicate j.toNat ys).flatten = [] := by
          rw [fps_map, List.flatMap_eq_nil_iff]
          intro x hx
          obtain ⟨l, hl, hx⟩ := List.mem_flatten.mp hx
          rw [List.eq_of_mem_replicate hl] at hx
          rw [fps_map, List.flatMap_eq_nil_iff] at r4
          exact r4 x hx
        rw [eE]
        refine sim_alloc ev1f.good ev1f.nd ev1f.lt .lst _ rfl ?_ (by rw [fpE]; exact List.nil_sublist _) (fun _ => ?_)
        · rw [oks_iff] at r5 ⊢
          intro x hx
          obtain ⟨l, hl, hx⟩ := List.mem_flatten.mp hx
          rw [List.eq_of_mem_replicate hl] at hx
          exact r5 x hx
        · simp only [GL.gMul, Sc.pv, lstAt_of r3, pvs_len, if_pos hl, mkO]
          rw [pvs_map, pvs_map, List.map_flatten, List.map_replicate]
      · rw [if_neg hl]; trivial
    · trivial
  · trivial
def scalD : D → D → Option Bool
  | .sc (.int i), .sc (.int j) => some (decide (i = j))
  | .sc (.str x), .sc (.str y) => some (decide (x = y))
  | .sc (.bl x), .sc (.bl y) => some (x == y)
  | .sc .non, .sc .non => some true
  | .sc .non, .sc (.int _) => some false
  | .sc (.int _), .sc .non => some false
  | .sc .non, .sc (.bl _) => some false
  | .sc (.bl _), .sc .non => some false
  | .sc .non, .sc (.str _) => some false
  | .sc (.str _), .sc .non => some false
  | .sc (.int _), .sc (.str _) => some false
  | .sc (.str _), .sc (.int _) => some false
  | .sc (.bl _), .sc (.str _) => some false
  | .sc (.str _), .sc (.bl _) => some false
  | _, _ => none
theorem scal_er (a b : A) {k : Bool} (h : scalD a.er b.er = some k) : GL.scalP a.pv b.pv = some k := by
  cases a with
  | sc s =>
    cases b with
    | sc t => cases s <;> cases t <;> first | exact h | cases h
    | tup ys => cases s <;> simp [A.er, scalD] at h
    | nd k n hd ys => cases s <;> simp [A.er, scalD] at h
  | tup xs => simp [A.er, scalD] at h
  | nd k n hd xs => simp [A.er, scalD] at h
theorem scal_none (a b : A) (h : scalD a.er b.er = none) : GL.scalP a.pv b.pv = none := by
  cases a with
  | sc s =>
    cases b with
    | sc t => cases s <;> cases t <;> first | rfl | cases h
    | tup ys => cases s <;> rfl
    | nd k n hd ys => cases s <;> rfl
  | tup xs => cases b with
    | sc t => cases t <;> rfl
    | tup ys => rfl
    | nd k n hd ys => rfl
  | nd k n hd xs => cases b with
    | sc t => cases t <;> rfl
    | tup ys => rfl
    | nd k n hd ys => rfl
def datD : Nat → D → Option PyData
  | 0, _ => none
  | f + 1, d => match d with
    | .sc .non => some .none
    | .sc (.bl b) => some (.bool b)
    | .sc (.int i) => some (.int i)
    | .sc (.str l) => if PyData.strOk (GL.toS l) = true then some (.str (GL.toS l)) else none
    | .tup xs => (GL.optAll (datD f) xs).map .tuple
    | .nd _ .lst xs => (GL.optAll (datD f) xs).map .list
    | .nd _ .rol xs => (GL.optAll (datD f) xs).map .list
    | _ => none
theorem optAll_er {f : Nat} {xs : List A} (h : ∀ x ∈ xs, GL.datP S f x.pv = datD f x.er) : GL.optAll (GL.datP S f) (A.pvs xs) = GL.optAll (datD f) (A.ers xs) := by
  induction xs with
  | nil => rfl
  | cons x r ih =>
    simp only [A.pvs, A.ers, GL.optAll]
    rw [h x List.mem_cons_self, ih fun y hy => h y (List.mem_cons_of_mem _ hy)]
theorem dat_er (fs : FS F S) : ∀ (f : Nat) {a : A}, a.ok F S → GL.datP S f a.pv = datD f a.er
  | 0, a, _ => rfl
  | f + 1, a, h => by
    cases a with
    | sc s => cases s <;> rfl
    | tup xs =>
      simp only [A.ok] at h
      show (GL.optAll (GL.datP S f) (A.pvs xs)).map _ = (GL.optAll (datD f) (A.ers xs)).map _
      rw [optAll_er fun x hx => dat_er fs f ((oks_iff xs).mp h.2 x hx)]
    | nd k n hd xs =>
      have ob := obj_of fs h
      have kd := ok_kids h
      have e := optAll_er (S := S) (f := f) (xs := xs) fun x hx => dat_er fs f ((oks_iff xs).mp kd x hx)
      cases hd with
      | lst =>
        show (match GL.seqAt S n with | some xs => (GL.optAll (GL.datP S f) xs).map _ | none => none) = (GL.optAll (datD f) (A.ers xs)).map _
        rw [seqAt_of (AtU.lst ob)]
        dsimp only
        rw [e]
      | rol =>
        show (match GL.seqAt S n with | some xs => (GL.optAll (GL.datP S f) xs).map _ | none => none) = (GL.optAll (datD f) (A.ers xs)).map _
        rw [seqAt_of' (AtU.rol ob)]
        dsimp only
        rw [e]
      | dct ks =>
        show (match GL.seqAt S n with | some xs => (GL.optAll (GL.datP S f) xs).map _ | none => none) = none
        have : GL.seqAt S n = none := by
          unfold GL.seqAt
          rcases ob with ob | ⟨k, _, ob⟩ <;> rw [ob] <;> rfl
        rw [this]
      | dcn ks =>
        show (match GL.seqAt S n with | some xs => (GL.optAll (GL.datP S f) xs).map _ | none => none) = none
        have : GL.seqAt S n = none := by unfold GL.seqAt; rw [AtU.dcn ob]
        rw [this]
      | ptp =>
        show (match GL.seqAt S n with | some xs => (GL.optAll (GL.datP S f) xs).map _ | none => none) = none
        have : GL.seqAt S n = none := by unfold GL.seqAt; rw [AtU.ptp ob]
        rw [this]
      | ins C ns =>
        show (match GL.seqAt S n with | some xs => (GL.optAll (GL.datP S f) xs).map _ | none => none) = none
        have : GL.seqAt S n = none := by unfold GL.seqAt; rw [AtU.ins ob]
        rw [this]
def eqD (neg : Bool) (a b : D) : Option Bool := match scalD a b with
  | some k => some (if neg = true then !k else k)
  | none => match datD 60 a, datD 60 b with
    | some d, some e => some (if neg = true then !PyData.eqv d e else PyData.eqv d e)
    | _, _ => none
def eqM (neg : Bool) : G2 := fun x y ls gh => match val x ls gh, val y ls gh with
  | some a, some b => (match eqD neg a b with
    | some k => .ok (.v (.bl k)) ls gh
    | none => .bad)
  | _, _ => .bad
abbrev gEq : G2 := eqM false
abbrev gNe : G2 := eqM true
theorem sim_eqM (neg : Bool) : SimG true (GL.eqM neg) (eqM neg) := by
  intro F S as ag c1 c2 w1 w2 g nd lt h1 h2 k1 k2
  unfold eqM
  split
  · rename_i d e e1 e2
    obtain ⟨a, rfl, rfl, aok, _⟩ := val_er c1 e1 h1 g k1
    obtain ⟨b, rfl, rfl, bok, _⟩ := val_er c2 e2 h2 g k2
    split
    · rename_i k hk
      refine sim_sc g nd lt (.bl k) (fun _ => ?_)
      unfold eqD at hk
      unfold GL.eqM
      cases hs : scalD a.er b.er with
      | some j =>
        rw [hs] at hk
        rw [scal_er a b hs]
        cases hk; rfl
      | none =>
        rw [hs] at hk
        rw [scal_none a b hs, dat_er g.fs 60 aok, dat_er g.fs 60 bok]
        dsimp only at hk ⊢
        cases ha : datD 60 a.er with
        | none => rw [ha] at hk; cases hk
        | some x =>
          cases hb : datD 60 b.er with
          | none => rw [ha, hb] at hk; cases hk
          | some y => rw [ha, hb] at hk; cases hk; rfl
    · trivial
  · trivial
theorem sim_gEq : SimG true GL.gEq gEq := sim_eqM false
theorem sim_gNe : SimG true GL.gNe gNe := sim_eqM true
def isNonD : D → Bool
  | .sc .non => true
  | _ => false
theorem isNon_pv (a : A) : GL.isNonP a.pv = isNonD a.er := by
  cases a with
  | sc s => cases s <;> rfl
  | tup xs => rfl
  | nd k n hd xs => rfl
def isM (neg : Bool) : G2 := fun x y ls gh => match y with
  | .v (.sc .non) => (match val x ls gh with
    | some d => .ok (.v (.bl (if neg then !isNonD d else isNonD d))) ls gh
    | none => .bad)
  | .v (.sc (.bl k)) => (match x with
    | .v (.sc (.bl j)) => .ok (.v (.bl (if neg then !decide (j = k) else decide (j = k)))) ls gh
    | _ => .bad)
  | _ => .bad
theorem sim_isM (neg : Bool) : SimG true (GL.isM neg) (isM neg) := by
  intro F S as ag c1 c2 w1 w2 g nd lt h1 h2 k1 k2
  unfold isM
  split
  · rename_i e2
    rw [er_vsc e2 h2]
    split
    · rename_i d e1
      obtain ⟨a, rfl, rfl, aok, _⟩ := val_er c1 e1 h1 g k1
      refine sim_sc g nd lt (.bl _) (fun _ => ?_)
      show GL.Out.ok (PV.bl (if neg = true then !GL.isNonP a.pv else GL.isNonP a.pv)) S = _
      rw [isNon_pv]; rfl
    · trivial
  · rename_i k e2
    rw [er_vsc e2 h2]
    split
    · rename_i j e1
      rw [er_vsc e1 h1]
      exact sim_sc g nd lt (.bl _) (fun _ => rfl)
    · trivial
  · trivial
end VL
set_option Elab.async false
set_option linter.all false
set_option maxRecDepth 100000
set_option maxHeartbeats 1000000
namespace VL
open GL (PV OB Sto Nm BT lim)
open PySem (PyData Builtin)
variable {F F' : FM} {S S' : Sto} {as as' ag ag' : List AV}
theorem sim_at {α β γ : Type} {R : RT α β γ} {q : Bool} {m : AD → GL.Ls → Sto → GL.Out α} {p : PX β} {L : AD → GL.Ls} (h : SimX q R m p) (g : Good F S as ag) (hL : ∀ ad, L ad = glS as ag ad as) : SimO q R F S as ag [] (fun ad => m ad (L ad) S) (p (erS as) (erS ag)) := by
  have := h F S as ag g
  simpa only [hL] using this
def asB (x : RV) : PT := fun ls gh => match x with
  | .v (.sc (.bl b)) => .ok b ls gh
  | _ => .bad
def toT (m : PE) : PT := fun ls gh => (m ls gh).bind fun x ls gh => asB x ls gh
def tAndM (a b : PT) : PT := fun ls gh => (a ls gh).bind fun k ls gh => if k = true then b ls gh else .ok false ls gh
def tOrM (a b : PT) : PT := fun ls gh => (a ls gh).bind fun k ls gh => if k = true then .ok true ls gh else b ls gh
def tNotM (a : PT) : PT := fun ls gh => (a ls gh).bind fun k ls gh => .ok (!k) ls gh
def tYesM : PT := fun ls gh => .ok true ls gh
def eNotM (a : PE) : PE := fun ls gh => (a ls gh).bind fun x ls gh => match x with
  | .v (.sc (.bl b)) => .ok (.v (.bl (!b))) ls gh
  | _ => .bad
def eAndM (a b : PE) : PE := fun ls gh => (a ls gh).bind fun x ls gh => match x with
  | .v (.sc (.bl true)) => b ls gh
  | .v (.sc (.bl false)) => .ok (.v (.bl false)) ls gh
  | _ => .bad
def kNot (w : PV) (S1 : Sto) : GL.Out PV := match w with
  | .bl k => .ok (.bl (!k)) S1
  | _ => .bad
def kAnd (m : Sto → GL.Out PV) (w : PV) (S1 : Sto) : GL.Out PV := match w with
  | .bl true => m S1
  | .bl false => .ok (.bl false) S1
  | _ => .bad
def kYes (w : PV) (S1 : Sto) : GL.Out (Option Int) := match w with
  | .int i => .ok (some i) S1
  | _ => .bad
section
variable {qa qb qc : Bool} {ma mb mc : AD → GL.ME} {pa pb pc : PE} {ta tb : AD → GL.MT} {ua ub : PT}
theorem sim_toT (h : SimE qa ma pa) : SimT qa (fun ad => GL.toT (ma ad)) (toT pa) := fun F S as ag gd =>
  SimO.weak (sim_first (R' := RB) (q' := true) (k := fun x ls gh => asB x ls gh) (f := fun ad w S1 => GL.asB w S1) h gd (fun _ => rfl) fun F1 S1 as1 ag1 c w h1 h2 g1 n1 l1 L1 => by
    show SimO _ _ _ _ _ _ _ _ (asB c.er (erS as1) (erS ag1))
    unfold asB
    split
    · rename_i b e
      rw [er_vsc e h1]
      exact sim_ok (R := RB) g1 n1 l1 b (fun _ => rfl) rfl rfl trivial (List.nil_sublist _)
    · trivial) (by simp)
theorem sim_tnot (h : SimT qa ta ua) : SimT qa (fun ad => GL.tNotM (ta ad)) (tNotM ua) := fun F S as ag gd =>
  SimO.weak (sim_first (R' := RB) (q' := true) (k := fun x ls gh => .ok (!x) ls gh) (f := fun ad w S1 => .ok (!w) S1) h gd (fun _ => rfl) fun F1 S1 as1 ag1 c w h1 h2 g1 n1 l1 L1 => by
    cases h1
    exact sim_ok (R := RB) g1 n1 l1 (!c) (fun _ => rfl) rfl rfl trivial (List.nil_sublist _)) (by simp)
theorem sim_tor (h : SimT qa ta ua) (h2 : SimT qb tb ub) : SimT (qa && qb) (fun ad => GL.tOrM (ta ad) (tb ad)) (tOrM ua ub) := fun F S as ag gd =>
  sim_first (R' := RB) (q' := qb) (k := fun k ls gh => if k = true then .ok true ls gh else ub ls gh) (f := fun ad k S1 => if k = true then .ok true S1 else tb ad (glS as ag ad as) S1) h gd (fun _ => rfl) fun F1 S1 as1 ag1 c w h1 _ g1 n1 l1 L1 => by
    cases h1
    cases c with
    | false => exact sim_at (R := RB) h2 g1 L1
    | true => exact sim_ok (R := RB) g1 n1 l1 true (fun _ => rfl) rfl rfl trivial (List.nil_sublist _)
theorem sim_tyes : SimT true (fun _ => GL.tYesM) tYesM := fun F S as ag g => sim_ok (R := RB) g (good_nd g) (fun _ h => by cases h) true (fun _ => rfl) rfl rfl trivial (List.nil_sublist _)
theorem sim_not (h : SimE qa ma pa) : SimE qa (fun ad => GL.eNotM (ma ad)) (eNotM pa) := fun F S as ag gd =>
  SimO.weak (sim_first (R' := RE) (q' := true) (k := fun (x : RV) (ls gh : Ls) => match x with
  | .v (.sc (.bl b)) => .ok (.v (.bl (!b))) ls gh
  | _ => .bad) (f := fun (ad : AD) (w : PV) (S1 : Sto) => kNot w S1) h gd (fun _ => rfl) fun F1 S1 as1 ag1 c w h1 h2 g1 n1 l1 L1 => by
    split
    · rename_i b e
      rw [er_vsc e h1]
      exact sim_sc g1 n1 l1 (.bl (!b)) (fun _ => rfl)
    · trivial) (by simp)
theorem nil_x0 {α β γ : Type} {R : RT α β γ} {q : Bool} {o : AD → GL.Out α} {p : Out β} {x0 : List Nat} (nd : (fpS (as ++ ag) ++ x0).Nodup) (h : SimO q R F S as ag [] o p) : SimO q R F S as ag x0 o p := by
  have wk : ∀ {F' : FM} {S' : Sto} {as' ag' : List AV} {x : List Nat}, Ev q F S as ag [] F' S' as' ag' x → Ev q F S as ag x0 F' S' as' ag' x := fun e =>
    ⟨e.good, e.nd, e.lt, e.mono, e.len, fun n hn hx => e.keep n hn fun h => hx (by
      rcases List.mem_append.mp h with t | t
      · exact List.mem_append_left _ t
      · cases t), fun n hn => (e.new n hn).imp (fun h => by
      rcases List.mem_append.mp h with t | t
      · exact List.mem_append_left _ t
      · cases t) id, e.gl, e.gg, e.rt, e.per⟩
  cases p with
  | bad => trivial
  | exc e ls gh => obtain ⟨F2, S2, as2, ag2, x, b1, b2, b3, b4, b5, b6⟩ := h; exact ⟨F2, S2, as2, ag2, x, b1, b2, b3, b4, b5, wk b6⟩
  | ok b ls gh => obtain ⟨F2, S2, as2, ag2, c, w, b1, b2, b3, b4, b5, b6, b7⟩ := h; exact ⟨F2, S2, as2, ag2, c, w, b1, b2, b3, b4, b5, b6, wk b7⟩
theorem sim_and (h : SimE qa ma pa) (hb : SimE qb mb pb) : SimE (qa && qb) (fun ad => GL.eAndM (ma ad) (mb ad)) (eAndM pa pb) := fun F S as ag gd =>
  sim_first (R' := RE) (q' := qb) (k := fun (x : RV) (ls gh : Ls) => match x with
  | .v (.sc (.bl true)) => pb ls gh
  | .v (.sc (.bl false)) => .ok (.v (.bl false)) ls gh
  | _ => .bad) (f := fun (ad : AD) (w : PV) (S1 : Sto) => kAnd (mb ad (glS as ag ad as)) w S1) h gd (fun _ => rfl) fun F1 S1 as1 ag1 c w h1 h2 g1 n1 l1 L1 => by
    split
    · rename_i e
      rw [er_vsc e h1]
      exact nil_x0 n1 (sim_at (R := RE) hb g1 L1)
    · rename_i e
      rw [er_vsc e h1]
      exact sim_sc g1 n1 l1 (.bl false) (fun _ => rfl)
    · trivial
end
def e1 (f : RV → PE) (a : PE) : PE := fun ls gh => (a ls gh).bind fun x ls gh => f x ls gh
def SimF1 (q : Bool) (ff : PV → Sto → GL.Out PV) (f : RV → PE) : Prop := ∀ (F : FM) (S : Sto) (as ag : List AV) (c : ARV) (w : PV), Good F S as ag → (fpS (as ++ ag) ++ c.fp).Nodup → (∀ n ∈ c.fp, n < S.length) → c.pv as ag = some w → c.ok F S →
  SimO q RE F S as ag c.fp (fun _ => ff w S) (f c.er (erS as) (erS ag))
theorem sim_e1 {qa qf : Bool} {ma : AD → GL.ME} {pa : PE} {ff : PV → Sto → GL.Out PV} {f : RV → PE} (h : SimE qa ma pa) (hf : SimF1 qf ff f) : SimE (qa && qf) (fun ad ls S => (ma ad ls S).bind fun w S1 => ff w S1) (e1 f pa) := fun F S as ag gd =>
  sim_first (R' := RE) (q' := qf) (k := fun x ls gh => f x ls gh) (f := fun ad w S1 => ff w S1) h gd (fun _ => rfl) fun F1 S1 as1 ag1 c w h1 h2 g1 n1 l1 L1 => hf F1 S1 as1 ag1 c w g1 n1 l1 h1 h2
def childR (c : RV) (i : Nat) (d : D) : RV := if d.shr = true then .v d else match c with
  | .v _ => .v d
  | .pth r p => .pth r (p ++ [i])
theorem get_app : ∀ (p : List Nat) (a : A) (i : Nat), getA (p ++ [i]) a = (getA p a).bind fun z => z.kids[i]?
  | [], a, i => by
    show getA [i] a = _
    unfold getA
    cases h : a.kids[i]? with
    | none => simp [h]
    | some z => simp [h, getA]
  | j :: p, a, i => by
    show getA (j :: (p ++ [i])) a = _
    rw [getA, getA]
    cases h : a.kids[j]? with
    | none => rfl
    | some z => exact get_app p z i
theorem sim_child {q : Bool} {x0 : List Nat} (g : Good F S as ag) (nd : (fpS (as ++ ag) ++ x0).Nodup) (lt : ∀ n ∈ x0, n < S.length) {c : ARV} (sub : c.fp.Sublist x0) (hk : c.ok F S) {ks : List A} (hc : (∃ a, c = .v a ∧ a.kids = ks) ∨ ∃ r p a, c = .pth r p ∧ atA as ag r p = some a ∧ a.kids = ks) {i : Nat} {x : A} (hi : ks[i]? = some x) (oks : A.oks F S ks)
    {o : AD → GL.Out PV} (ho : ∀ ad, o ad = .ok x.pv S) : SimO q RE F S as ag x0 o (.ok (childR c.er i x.er) (erS as) (erS ag)) := by
  have xok := (oks_iff ks).mp oks x (List.mem_of_getElem? hi)
  unfold childR
  rw [shr_er]
  cases hs : x.shr with
  | true => exact sim_okE g nd lt (.v x) ho rfl rfl xok (by show (A.fp x).Sublist _; rw [fp_shr xok hs]; exact List.nil_sublist _)
  | false =>
    rcases hc with ⟨a, rfl, rfl⟩ | ⟨r, p, a, rfl, hat, rfl⟩
    · refine sim_okE g nd lt (.v x) ho rfl rfl xok (List.Sublist.trans ?_ sub)
      show (A.fp x).Sublist (A.fp a)
      have s1 : (A.fp x).Sublist (A.fps a.kids) := by
        rw [fps_map, List.flatMap]
        exact List.sublist_flatten_of_mem (List.mem_map.mpr ⟨x, List.mem_of_getElem? hi, rfl⟩)
      cases a with
      | sc s => simp [A.kids] at hi
      | tup xs => exact s1
      | nd k n hd xs =>
        cases k with
        | fz => exact s1
        | ow => exact s1.trans (List.sublist_cons_self _ _)
        | lk => exact s1.trans (List.sublist_cons_self _ _)
    · refine sim_okE g nd lt (.pth r (p ++ [i])) ho rfl ?_ trivial (List.nil_sublist _)
      show (atA as ag r (p ++ [i])).map A.pv = _
      unfold atA at hat ⊢
      obtain ⟨b, hb, hx⟩ := Option.bind_eq_some_iff.mp hat
      rw [hb, Option.bind_some, get_app, hx, Option.bind_some, hi]; rfl
def gIx : G2 := fun x y ls gh => match y with
  | .v (.sc (.int i)) => (match x with
    | .v (.sc (.str s)) => if s.length ≤ lim then (match L2.atI s i with
      | some c => .ok (.v (.str [c])) ls gh
      | none => .bad) else .bad
    | x => (match seqV x ls gh with
      | some (_, xs) => (match L2.ixN xs.length i with
        | some j => (match xs[j]? with
          | some d => .ok (childR x j d) ls gh
          | none => .bad)
        | none => .bad)
      | none => .bad))
  | _ => .bad
theorem sim_gIx : SimG true GL.gIx gIx := by
  intro F S as ag c1 c2 w1 w2 g nd lt h1 h2 k1 k2
  unfold gIx
  split
  · rename_i i e2
    rw [er_vsc e2 h2]
    split
    · rename_i s e1
      rw [er_vsc e1 h1]
      by_cases hl : s.length ≤ lim
      · rw [if_pos hl]
        split
        · rename_i c hc
          exact sim_sc g nd lt (.str [c]) (fun _ => by simp only [GL.gIx, Sc.pv, if_pos hl, hc])
        · trivial
      · rw [if_neg hl]; trivial
    · split
      · rename_i k xs e1
        obtain ⟨ks, rfl, sg, ok, _, _, hc⟩ := seqV_er e1 h1 g k1
        split
        · rename_i j hj
          split
          · rename_i d hd
            rw [ers_map, List.getElem?_map] at hd
            obtain ⟨x, hx, rfl⟩ := Option.map_eq_some_iff.mp hd
            refine sim_child g nd lt (List.sublist_append_left _ _) k1 hc hx ok (fun _ => ?_)
            have hat : L2.atI (A.pvs ks) i = some x.pv := by
              unfold L2.atI
              rw [pvs_len, ← ers_len, hj, Option.bind_some, pvs_map, List.getElem?_map, hx]; rfl
            cases k with
            | tup => cases sg; simp only [GL.gIx, Sc.pv, hat]
            | lst => obtain ⟨n, rfl, hs⟩ := sg; simp only [GL.gIx, Sc.pv, seqAt_of hs, hat]
            | rol => obtain ⟨n, rfl, hs⟩ := sg; simp only [GL.gIx, Sc.pv, seqAt_of' hs, hat]
          · trivial
        · trivial
      · trivial
  · trivial
abbrev PO := PX (Option Int)
def oNo : PO := fun ls gh => .ok none ls gh
def oYes (m : PE) : PO := fun ls gh => (m ls gh).bind fun x ls gh => match x with
  | .v (.sc (.int i)) => .ok (some i) ls gh
  | _ => .bad
def gSl (x : RV) (lo hi : Option Int) : PE := fun ls gh => match x with
  | .v (.tup xs) => .ok (.v (.tup (GL.cutP xs lo hi))) ls gh
  | .v (.sc (.str s)) => if s.length ≤ lim then .ok (.v (.str (GL.cutP s lo hi))) ls gh else .bad
  | x => match seqV x ls gh with
    | some (.tup, _) => .bad
    | some (_, xs) => (match shrK x xs with
      | some ys => .ok (.v (.nd .ow .lst (GL.cutP ys lo hi))) ls gh
      | none => .bad)
    | none => .bad
def eSl (o : PE) (lo hi : PO) : PE := fun ls gh => (o ls gh).bind fun x ls gh => (lo ls gh).bind fun l ls gh => (hi ls gh).bind fun h ls gh => gSl x l h ls gh
theorem cut_map {α β : Type} (f : α → β) (xs : List α) (lo hi : Option Int) : (GL.cutP xs lo hi).map f = GL.cutP (xs.map f) lo hi := by
  unfold GL.cutP
  rw [List.map_take, List.map_drop, List.length_map]
theorem cut_sub {α : Type} (xs : List α) (lo hi : Option Int) {x : α} (h : x ∈ GL.cutP xs lo hi) : x ∈ xs := by
  unfold GL.cutP at h
  exact List.mem_of_mem_drop (List.mem_of_mem_take h)
theorem cut_oks {xs : List A} {lo hi : Option Int} (h : A.oks F S xs) : A.oks F S (GL.cutP xs lo hi) := by
  rw [oks_iff] at *
  exact fun x hx => h x (cut_sub xs lo hi hx)
theorem cut_fps {xs : List A} {lo hi : Option Int} (h : A.fps xs = []) : A.fps (GL.cutP xs lo hi) = [] := by
  rw [fps_map, List.flatMap_eq_nil_iff] at *
  exact fun x hx => h x (cut_sub xs lo hi hx)
theorem sim_gSl {c : ARV} {w : PV} {lo hi : Option Int} (g : Good F S as ag) (nd : (fpS (as ++ ag) ++ c.fp).Nodup) (lt : ∀ n ∈ c.fp, n < S.length) (hp : c.pv as ag = some w) (hk : c.ok F S) :
    SimO true RE F S as ag c.fp (fun _ => GL.gSl w lo hi S) (gSl c.er lo hi (erS as) (erS ag)) := by
  unfold gSl
  split
  · rename_i xs e
    obtain ⟨a, rfl, ea, rfl⟩ := er_v e hp
    obtain ⟨ys, rfl, rfl⟩ := er_tup ea
    have p1 : A.fps ys = [] ∧ A.oks F S ys := hk
    refine sim_okE g nd lt (.v (.tup (GL.cutP ys lo hi))) (fun _ => ?_) (by simp [ARV.er, A.er, ers_map, cut_map]) rfl ⟨cut_fps p1.1, cut_oks p1.2⟩ (by show (A.fps _).Sublist _; rw [cut_fps p1.1]; exact List.nil_sublist _)
    simp only [GL.gSl, A.pv, pvs_map, cut_map]
  · rename_i s e
    rw [er_vsc e hp]
    by_cases hl : s.length ≤ lim
    · rw [if_pos hl]
      exact sim_sc g nd lt (.str _) (fun _ => by simp only [GL.gSl, Sc.pv, if_pos hl])
    · rw [if_neg hl]; trivial
  · split
    · trivial
    · rename_i k xs hne e
      obtain ⟨ks, rfl, sg, ok, fpk, _, _⟩ := seqV_er e hp g hk
      split
      · rename_i ys hy
        obtain ⟨F', zs, rfl, h2, h3, h4, ev⟩ := shrK_sim g nd lt ok fpk hy
        refine SimO.pre ev ?_
        have : GL.cutP (A.ers zs) lo hi = A.ers (GL.cutP zs lo hi) := by simp only [ers_map, cut_map]
        rw [this]
        refine sim_alloc ev.good ev.nd ev.lt .lst _ rfl (cut_oks h4) (by rw [cut_fps h3]; exact List.nil_sublist _) (fun _ => ?_)
        have hp2 : A.pvs (GL.cutP zs lo hi) = GL.cutP (A.pvs ks) lo hi := by rw [← h2]; simp only [pvs_map, cut_map]
        cases k with
        | tup => exact (hne rfl).elim
        | lst => obtain ⟨n, rfl, hs⟩ := sg; simp only [GL.gSl, seqAt_of hs, mkO, hp2]
        | rol => obtain ⟨n, rfl, hs⟩ := sg; simp only [GL.gSl, seqAt_of' hs, mkO, hp2]
      · trivial
    · trivial
abbrev SimOI (q : Bool) (m : AD → GL.MO) (p : PO) : Prop := SimX q RO m p
theorem sim_ono : SimOI true (fun _ => GL.oNo) oNo := fun F S as ag g => sim_ok (R := RO) g (good_nd g) (fun _ h => by cases h) none (fun _ => rfl) rfl rfl trivial (List.nil_sublist _)
theorem sim_oyes {q : Bool} {ma : AD → GL.ME} {pa : PE} (h : SimE q ma pa) : SimOI q (fun ad => GL.oYes (ma ad)) (oYes pa) := fun F S as ag gd =>
  SimO.weak (sim_first (R' := RO) (q' := true) (k := fun (x : RV) (ls gh : Ls) => match x with
  | .v (.sc (.int i)) => .ok (some i) ls gh
  | _ => .bad) (f := fun (ad : AD) (w : PV) (S1 : Sto) => kYes w S1) h gd (fun _ => rfl) fun F1 S1 as1 ag1 c w h1 h2 g1 n1 l1 L1 => by
    split
    · rename_i b e
      rw [er_vsc e h1]
      exact sim_ok (R := RO) g1 n1 l1 (some b) (fun _ => rfl) rfl rfl trivial (List.nil_sublist _)
    · trivial) (by simp)
theorem sim_sl {qa : Bool} {ma : AD → GL.ME} {pa : PE} {ml mh : AD → GL.MO} {pl ph : PO} (ha : SimE qa ma pa) (hl : SimOI true ml pl) (hh : SimOI true mh ph) : SimE qa (fun ad => GL.eSl (ma ad) (ml ad) (mh ad)) (eSl pa pl ph) := fun F S as ag gd =>
  SimO.weak (sim_first (R' := RE) (q' := true && (true && true)) (k := fun x ls gh => (pl ls gh).bind fun l ls gh => (ph ls gh).bind fun h ls gh => gSl x l h ls gh) (f := fun ad w S1 => (ml ad (glS as ag ad as) S1).bind fun l S2 => (mh ad (glS as ag ad as) S2).bind fun h S3 => GL.gSl w l h S3) ha gd (fun _ => rfl) fun F1 S1 as1 ag1 c1 w1 h1 h2 g1 n1 l1 L1 =>
    sim_next (R0 := RE) (R := RO) (R' := RE) (k := fun l ls gh => (ph ls gh).bind fun h ls gh => gSl (RE.er c1) l h ls gh) (f := fun ad l S2 => (mh ad (glS as ag ad as) S2).bind fun h S3 => GL.gSl w1 l h S3) hl g1 c1 h1 h2 n1 l1 (stab_re true c1 (.inl rfl)) L1 fun F2 S2 as2 ag2 l l' h1 h2 h3 _ g2 n2 l2 L2 => by
      cases h3
      have e0 : RE.fp c1 ++ RO.fp l = RE.fp c1 := List.append_nil _
      rw [e0] at n2 l2 ⊢
      exact sim_next (R0 := RE) (R := RO) (R' := RE) (k := fun h ls gh => gSl (RE.er c1) l h ls gh) (f := fun ad h S3 => GL.gSl w1 l h S3) hh g2 c1 h1 h2 n2 l2 (stab_re true c1 (.inl rfl)) L2 fun F3 S3 as3 ag3 h h' h1 h2 h3 _ g3 n3 l3 L3 => by
        cases h3
        have e1 : RE.fp c1 ++ RO.fp h = RE.fp c1 := List.append_nil _
        rw [e1] at n3 l3 ⊢
        exact sim_gSl g3 n3 l3 h1 h2) (by simp)
end VL
set_option Elab.async false
set_option linter.all false
set_option maxRecDepth 100000
set_option maxHeartbeats 1000000
namespace VL
open GL (PV OB Sto Nm BT lim)
open PySem (PyData Builtin)
variable {F F' : FM} {S S' : Sto} {as as' ag ag' : List AV}
def eB (g : List RV → PE) (args : PA) : PE := fun ls gh => (args ls gh).bind fun xs ls gh => g xs ls gh
def SimB (q : Bool) (gg : GL.MF) (g : List RV → PE) : Prop := ∀ (F : FM) (S : Sto) (as ag : List AV) (cs : List ARV) (ws : List PV), Good F S as ag → (fpS (as ++ ag) ++ RA.fp cs).Nodup → (∀ n ∈ RA.fp cs, n < S.length) → RA.pv as ag cs = some ws → RA.ok F S cs →
  SimO q RE F S as ag (RA.fp cs) (fun _ => gg ws S) (g (cs.map ARV.er) (erS as) (erS ag))
theorem sim_b {qa q : Bool} {mr : AD → GL.MA} {pr : PA} {gg : GL.MF} {g : List RV → PE} (h : SimA qa mr pr) (hg : SimB q gg g) : SimE (qa && q) (fun ad => GL.eB gg (mr ad)) (eB g pr) := fun F S as ag gd =>
  sim_first (R' := RE) (q' := q) (k := fun xs ls gh => g xs ls gh) (f := fun ad ws S1 => gg ws S1) h gd (fun _ => rfl) fun F1 S1 as1 ag1 cs ws h1 h2 g1 n1 l1 L1 => hg F1 S1 as1 ag1 cs ws g1 n1 l1 h1 h2
def un (f : RV → PE) : List RV → PE := fun xs => match xs with
  | [x] => f x
  | _ => fun _ _ => .bad
def bi (f : RV → RV → PE) : List RV → PE := fun xs => match xs with
  | [x, y] => f x y
  | _ => fun _ _ => .bad
theorem simB1 {q : Bool} {gg : GL.MF} {f : RV → PE} (h : SimF1 q (fun w S => gg [w] S) f) : SimB q gg (un f) := by
  intro F S as ag cs ws g nd lt hp hk
  match cs with
  | [] => trivial
  | [c] =>
    obtain ⟨w, t, hw, ht, rfl⟩ := seqO_cons hp
    cases ht
    have e : RA.fp [c] = c.fp := List.append_nil _
    rw [e] at nd lt ⊢
    exact h F S as ag c w g nd lt hw (hk c List.mem_cons_self)
  | _ :: _ :: _ => trivial
theorem simB2 {q : Bool} {gg : GL.MF} {f : RV → RV → PE} (h : SimG q (fun w v S => gg [w, v] S) f) : SimB q gg (bi f) := by
  intro F S as ag cs ws g nd lt hp hk
  match cs with
  | [] => trivial
  | [c] => trivial
  | [c, d] =>
    obtain ⟨w, t, hw, ht, rfl⟩ := seqO_cons hp
    obtain ⟨w2, t2, hw2, ht2, rfl⟩ := seqO_cons ht
    cases ht2
    have e : RA.fp [c, d] = c.fp ++ d.fp := by show c.fp ++ (d.fp ++ []) = _; rw [List.append_nil]
    rw [e] at nd lt ⊢
    exact h F S as ag c d w w2 g nd lt hw hw2 (hk c List.mem_cons_self) (hk d (List.mem_cons_of_mem _ List.mem_cons_self))
  | _ :: _ :: _ :: _ => trivial
def f1Int (x : RV) : PE := fun ls gh => match x with
  | .v (.sc (.int i)) => .ok (.v (.int i)) ls gh
  | .v (.sc (.bl k)) => .ok (.v (.int (if k then 1 else 0))) ls gh
  | _ => .bad
theorem sim_f1Int : SimF1 true (fun w S => GL.fInt [w] S) f1Int := by
  intro F S as ag c w g nd lt hp hk
  unfold f1Int
  split
  · rename_i i e; rw [er_vsc e hp]; exact sim_sc g nd lt (.int i) (fun _ => rfl)
  · rename_i i e; rw [er_vsc e hp]; exact sim_sc g nd lt (.int _) (fun _ => rfl)
  · trivial
def f1Abs (x : RV) : PE := fun ls gh => match x with
  | .v (.sc (.int i)) => .ok (.v (.int (if i < 0 then -i else i))) ls gh
  | _ => .bad
theorem sim_f1Abs : SimF1 true (fun w S => GL.fAbs [w] S) f1Abs := by
  intro F S as ag c w g nd lt hp hk
  unfold f1Abs
  split
  · rename_i i e; rw [er_vsc e hp]; exact sim_sc g nd lt (.int _) (fun _ => rfl)
  · trivial
def f2Max : G2 := fun x y ls gh => match x, y with
  | .v (.sc (.int i)), .v (.sc (.int j)) => .ok (.v (.int (if j > i then j else i))) ls gh
  | _, _ => .bad
def f2Min : G2 := fun x y ls gh => match x, y with
  | .v (.sc (.int i)), .v (.sc (.int j)) => .ok (.v (.int (if j < i then j else i))) ls gh
  | _, _ => .bad
theorem sim_f2Max : SimG true (fun w v S => GL.fMax2 [w, v] S) f2Max := by
  intro F S as ag c1 c2 w1 w2 g nd lt h1 h2 k1 k2
  unfold f2Max
  split
  · rename_i i j e1 e2
    rw [er_vsc e1 h1, er_vsc e2 h2]
    exact sim_sc g nd lt (.int _) (fun _ => rfl)
  · trivial
theorem sim_f2Min : SimG true (fun w v S => GL.fMin2 [w, v] S) f2Min := by
  intro F S as ag c1 c2 w1 w2 g nd lt h1 h2 k1 k2
  unfold f2Min
  split
  · rename_i i j e1 e2
    rw [er_vsc e1 h1, er_vsc e2 h2]
    exact sim_sc g nd lt (.int _) (fun _ => rfl)
  · trivial
def f1Len (x : RV) : PE := fun ls gh => match x with
  | .v (.sc (.str s)) => if s.length ≤ lim then .ok (.v (.int s.length)) ls gh else .bad
  | x => match seqV x ls gh with
    | some (_, xs) => .ok (.v (.int xs.length)) ls gh
    | none => .bad
theorem sim_f1Len : SimF1 true (fun w S => GL.fLen [w] S) f1Len := by
  intro F S as ag c w g nd lt hp hk
  unfold f1Len
  split
  · rename_i s e
    rw [er_vsc e hp]
    by_cases hl : s.length ≤ lim
    · rw [if_pos hl]; exact sim_sc g nd lt (.int _) (fun _ => by simp only [GL.fLen, Sc.pv, if_pos hl])
    · rw [if_neg hl]; trivial
  · split
    · rename_i k xs e
      obtain ⟨ks, rfl, sg, ok, _, _, _⟩ := seqV_er e hp g hk
      rw [ers_len]
      refine sim_sc g nd lt (.int _) (fun _ => ?_)
      cases k with
      | tup => cases sg; simp only [GL.fLen, Sc.pv, pvs_len]
      | lst => obtain ⟨n, rfl, hs⟩ := sg; simp only [GL.fLen, Sc.pv, seqAt_of hs, pvs_len]
      | rol => obtain ⟨n, rfl, hs⟩ := sg; simp only [GL.fLen, Sc.pv, seqAt_of' hs, pvs_len]
    · trivial
def f1List (x : RV) : PE := fun ls gh => match seqV x ls gh with
  | some (_, xs) => (match shrK x xs with
    | some ys => .ok (.v (.nd .ow .lst ys)) ls gh
    | none => .bad)
  | none => .bad
theorem sim_f1List : SimF1 true (fun w S => GL.fList [w] S) f1List := by
  intro F S as ag c w g nd lt hp hk
  unfold f1List
  split
  · rename_i k xs e
    obtain ⟨ks, rfl, sg, ok, fpk, _, _⟩ := seqV_er e hp g hk
    split
    · rename_i ys hy
      obtain ⟨F', zs, rfl, h2, h3, h4, ev⟩ := shrK_sim g nd lt ok fpk hy
      refine SimO.pre ev (sim_alloc ev.good ev.nd ev.lt .lst zs rfl h4 (by rw [h3]; exact List.nil_sublist _) (fun _ => ?_))
      rw [h2]
      cases k with
      | tup => cases sg; rfl
      | lst => obtain ⟨n, rfl, hs⟩ := sg; simp only [GL.fList, seqAt_of hs, mkO]
      | rol => obtain ⟨n, rfl, hs⟩ := sg; simp only [GL.fList, seqAt_of' hs, mkO]
    · trivial
  · trivial
def f1Tuple (x : RV) : PE := fun ls gh => match seqV x ls gh with
  | some (_, xs) => (match shrK x xs with
    | some ys => .ok (.v (.tup ys)) ls gh
    | none => .bad)
  | none => .bad
theorem sim_f1Tuple : SimF1 true (fun w S => GL.fTuple [w] S) f1Tuple := by
  intro F S as ag c w g nd lt hp hk
  unfold f1Tuple
  split
  · rename_i k xs e
    obtain ⟨ks, rfl, sg, ok, fpk, _, _⟩ := seqV_er e hp g hk
    split
    · rename_i ys hy
      obtain ⟨F', zs, rfl, h2, h3, h4, ev⟩ := shrK_sim g nd lt ok fpk hy
      refine SimO.pre ev (sim_okE ev.good ev.nd ev.lt (.v (.tup zs)) (w := .tup (A.pvs zs)) (fun _ => ?_) rfl rfl ⟨h3, h4⟩ (by show (A.fps zs).Sublist _; rw [h3]; exact List.Sublist.refl _))
      rw [h2]
      cases k with
      | tup => cases sg; rfl
      | lst => obtain ⟨n, rfl, hs⟩ := sg; simp only [GL.fTuple, seqAt_of hs]
      | rol => obtain ⟨n, rfl, hs⟩ := sg; simp only [GL.fTuple, seqAt_of' hs]
    · trivial
  · trivial
def tyD : D → Option BT
  | .sc .non => some .none
  | .sc (.bl _) => some .bool
  | .sc (.int _) => some .int
  | .sc (.str _) => some .str
  | .tup _ => some .tuple
  | .nd _ .lst _ => some .list
  | .nd _ .rol _ => some .list
  | .nd _ (.dct _) _ => some .dict
  | _ => none
theorem ty_er (fs : FS F S) {a : A} (h : a.ok F S) : GL.tyP S a.pv = tyD a.er := by
  cases a with
  | sc s => cases s <;> rfl
  | tup xs => rfl
  | nd k n hd xs =>
    have ob := obj_of fs h
    show (match S[n]? with | some (.lst _) => some BT.list | some (.rol _) => some .list | some (.dct _) => some .dict | some (.fdct _) => some .dict | _ => none) = tyD (.nd k hd (A.ers xs))
    cases hd with
    | lst => rw [AtU.lst ob]; rfl
    | rol => rw [AtU.rol ob]; rfl
    | dct ks => rcases ob with ob | ⟨k, _, ob⟩ <;> rw [ob] <;> rfl
    | ins C ns => rw [AtU.ins ob]; rfl
    | dcn ks => rw [AtU.dcn ob]; rfl
    | ptp => rw [AtU.ptp ob]; rfl
def f2Isi : G2 := fun x y ls gh => match y with
  | .v (.sc (.ty b)) => if b = .none then .bad else (match (val x ls gh).bind tyD with
    | some t => .ok (.v (.bl (GL.isB t b))) ls gh
    | none => .bad)
  | _ => .bad
theorem sim_f2Isi : SimG true (fun w v S => GL.fIsi [w, v] S) f2Isi := by
  intro F S as ag c1 c2 w1 w2 g nd lt h1 h2 k1 k2
  unfold f2Isi
  split
  · rename_i b e2
    rw [er_vsc e2 h2]
    by_cases hb : b = .none
    · rw [if_pos hb]; trivial
    · rw [if_neg hb]
      split
      · rename_i t e1
        obtain ⟨d, e1, e3⟩ := Option.bind_eq_some_iff.mp e1
        obtain ⟨a, rfl, rfl, aok, _⟩ := val_er c1 e1 h1 g k1
        refine sim_sc g nd lt (.bl _) (fun _ => ?_)
        simp only [GL.fIsi, Sc.pv, if_neg hb, ty_er g.fs aok, e3]
      · trivial
  · trivial
abbrev fInt := un f1Int
abbrev fAbs := un f1Abs
abbrev fLen := un f1Len
abbrev fList := un f1List
abbrev fTuple := un f1Tuple
abbrev fMax2 := bi f2Max
abbrev fMin2 := bi f2Min
abbrev fIsi := bi f2Isi
theorem sim_fInt : SimB true GL.fInt fInt := simB1 sim_f1Int
theorem sim_fAbs : SimB true GL.fAbs fAbs := simB1 sim_f1Abs
theorem sim_fLen : SimB true GL.fLen fLen := simB1 sim_f1Len
theorem sim_fList : SimB true GL.fList fList := simB1 sim_f1List
theorem sim_fTuple : SimB true GL.fTuple fTuple := simB1 sim_f1Tuple
theorem sim_fMax2 : SimB true GL.fMax2 fMax2 := simB2 sim_f2Max
theorem sim_fMin2 : SimB true GL.fMin2 fMin2 := simB2 sim_f2Min
theorem sim_fIsi : SimB true GL.fIsi fIsi := simB2 sim_f2Isi
def aInts (ns : List Int) : List A := ns.map fun i => .sc (.int i)
theorem aInts_er (ns : List Int) : A.ers (aInts ns) = ns.map D.int := by rw [ers_map, aInts, List.map_map]; exact List.map_congr_left fun _ _ => by simp [A.er]
theorem aInts_pv (ns : List Int) : A.pvs (aInts ns) = ns.map .int := by rw [pvs_map, aInts, List.map_map]; exact List.map_congr_left fun _ _ => by simp [A.pv, Sc.pv]
theorem aInts_fp (ns : List Int) : A.fps (aInts ns) = [] := by
  rw [fps_map, List.flatMap_eq_nil_iff]
  intro x hx
  obtain ⟨i, _, rfl⟩ := List.mem_map.mp hx
  rfl
theorem aInts_ok (ns : List Int) : A.oks F S (aInts ns) := by
  rw [oks_iff]
  intro x hx
  obtain ⟨i, _, rfl⟩ := List.mem_map.mp hx
  trivial
end VL
set_option Elab.async false
set_option linter.all false
set_option maxRecDepth 100000
set_option maxHeartbeats 1000000
namespace VL
open GL (PV OB Sto Nm BT lim)
open PySem (PyData Builtin)
variable {F F' : FM} {S S' : Sto} {as as' ag ag' : List AV}
def idxN (f : Nm) : List Nm → Option Nat
  | [] => none
  | g :: r => if g = f then some 0 else (idxN f r).map (· + 1)
theorem lookN_zip {f : Nm} : ∀ (ns : List Nm) (ws : List PV), ns.length = ws.length → GL.lookN f (ns.zip ws) = (idxN f ns).bind fun i => ws[i]?
  | [], _, _ => rfl
  | g :: r, [], h => by cases h
  | g :: r, w :: ws, h => by
    show GL.lookN f ((g, w) :: r.zip ws) = _
    unfold GL.lookN idxN
    by_cases hg : g = f
    · rw [if_pos hg, if_pos hg]; rfl
    · rw [if_neg hg, if_neg hg, lookN_zip r ws (Nat.succ.inj h)]
      cases idxN f r <;> rfl
def idxK (k : PV) : List PV → Option Nat
  | [] => none
  | g :: r => if GL.keqP g k = true then some 0 else (idxK k r).map (· + 1)
theorem lookP_zip {k : PV} : ∀ (ns : List PV) (ws : List PV), ns.length = ws.length → GL.lookP k (ns.zip ws) = (idxK k ns).bind fun i => ws[i]?
  | [], _, _ => rfl
  | g :: r, [], h => by cases h
  | g :: r, w :: ws, h => by
    show GL.lookP k ((g, w) :: r.zip ws) = _
    unfold GL.lookP idxK
    by_cases hg : GL.keqP g k = true
    · rw [if_pos hg, if_pos hg]; rfl
    · rw [if_neg hg, if_neg hg, lookP_zip r ws (Nat.succ.inj h)]
      cases idxK k r <;> rfl
theorem wf_of {k : Fl} {n : Nat} {h : Hd} {xs : List A} (o : (A.nd k n h xs).ok F S) : h.wf xs.length = true := by
  cases k with
  | fz => simp only [A.ok] at o; exact o.2.1
  | lk => simp only [A.ok] at o; exact o.2.1
  | ow => simp only [A.ok] at o; exact o.2.1
theorem kids_of {c : ARV} {k : Fl} {n : Nat} {h : Hd} {xs : List A} (hc : c = .v (.nd k n h xs) ∨ ∃ r p, c = .pth r p ∧ atA as ag r p = some (.nd k n h xs)) : (∃ a, c = .v a ∧ a.kids = xs) ∨ ∃ r p a, c = .pth r p ∧ atA as ag r p = some a ∧ a.kids = xs := by
  rcases hc with rfl | ⟨r, p, rfl, e⟩
  · exact .inl ⟨_, rfl, rfl⟩
  · exact .inr ⟨r, p, _, rfl, e, rfl⟩
def k1Fld (tab : Nm → Nm → Bool) (f : Nm) (x : RV) : PE := fun ls gh => match val x ls gh with
  | some (.nd _ (.ins C ns) xs) => if tab C f = true then (match idxN f ns with
    | some i => (match xs[i]? with
      | some d => .ok (childR x i d) ls gh
      | none => .bad)
    | none => .bad) else .bad
  | _ => .bad
def eFld (tab : Nm → Nm → Bool) (f : Nm) (o : PE) : PE := e1 (k1Fld tab f) o
def gFld (tab : Nm → Nm → Bool) (f : Nm) (w : PV) (S1 : Sto) : GL.Out PV := match GL.insAt S1 w with
  | some (_, C, fs) => if tab C f = true then (match GL.lookN f fs with
    | some v => .ok v S1
    | none => .bad) else .bad
  | none => .bad
theorem sim_fld {q : Bool} {ma : AD → GL.ME} {pa : PE} {tab : Nm → Nm → Bool} {f : Nm} (h : SimE q ma pa) : SimE q (fun ad => GL.eFld tab f (ma ad)) (eFld tab f pa) := fun F S as ag gd =>
  SimO.weak (sim_e1 (qf := true) (ff := gFld tab f) h (by
    intro F S as ag c w g nd lt hp hk
    unfold k1Fld
    split
    · rename_i k C ns xs e
      obtain ⟨a, ea, rfl, aok, hc⟩ := val_er c e hp g hk
      obtain ⟨n, ys, rfl, rfl⟩ := er_nd ea
      by_cases ht : tab C f = true
      · rw [if_pos ht]
        split
        · rename_i i hi
          split
          · rename_i d hd
            rw [ers_map, List.getElem?_map] at hd
            obtain ⟨x, hx, rfl⟩ := Option.map_eq_some_iff.mp hd
            refine sim_child g nd lt (List.Sublist.refl _) hk (kids_of hc) hx (ok_kids aok) (fun _ => ?_)
            have ob := obj_of g.fs aok
            have hw : ns.length = ys.length := by simpa [Hd.wf] using wf_of aok
            have hl := lookN_zip (f := f) ns (A.pvs ys) (by rw [pvs_len]; exact hw)
            rw [hi, Option.bind_some, pvs_map, List.getElem?_map, hx] at hl
            have ob := AtU.ins ob
            simp only [gFld, A.pv, GL.insAt, ob, mkO, if_pos ht]
            rw [pvs_map, hl]; rfl
          · trivial
        · trivial
      · rw [if_neg ht]; trivial
    · trivial) F S as ag gd) (by simp)
def keyD : RV → Option PV
  | .v (.sc (.int i)) => some (.int i)
  | .v (.sc (.str s)) => some (.str s)
  | _ => none
theorem keyD_er {c : ARV} {k : PV} (h : keyD c.er = some k) {w : PV} (hp : c.pv as ag = some w) : w = k ∧ GL.isKeyP k = true := by
  unfold keyD at h
  split at h
  · rename_i i e; cases h; rw [er_vsc e hp]; exact ⟨rfl, rfl⟩
  · rename_i i e; cases h; rw [er_vsc e hp]; exact ⟨rfl, rfl⟩
  · cases h
def gDGet : G2 := fun x y ls gh => match val x ls gh, keyD y with
  | some (.nd _ (.dct ks) xs), some k => (match idxK k ks with
    | some i => (match xs[i]? with
      | some d => .ok (childR x i d) ls gh
      | none => .bad)
    | none => .bad)
  | _, _ => .bad
def GDGet (w y : PV) (S2 : Sto) : GL.Out PV := match w with
  | .loc n => (match GL.rdctAt S2 n with
    | some kvs => if GL.isKeyP y = true then (match GL.lookP y kvs with
      | some v => .ok v S2
      | none => .bad) else .bad
    | none => .bad)
  | _ => .bad
theorem rdct_of {n : Nat} {kvs : List (PV × PV)} (h : AtU S n (.dct kvs)) : GL.rdctAt S n = some kvs := by
  unfold GL.rdctAt
  rcases h with h | ⟨k, e, h⟩
  · rw [h]
  · cases e; rw [h]
theorem sim_gDGet : SimG true GDGet gDGet := by
  intro F S as ag c1 c2 w1 w2 g nd lt h1 h2 k1 k2
  unfold gDGet
  split
  · rename_i fl ks xs k e1 e2
    obtain ⟨a, ea, rfl, aok, hc⟩ := val_er c1 e1 h1 g k1
    obtain ⟨n, ys, rfl, rfl⟩ := er_nd ea
    obtain ⟨rfl, hkey⟩ := keyD_er e2 h2
    split
    · rename_i i hi
      split
      · rename_i d hd
        rw [ers_map, List.getElem?_map] at hd
        obtain ⟨x, hx, rfl⟩ := Option.map_eq_some_iff.mp hd
        refine sim_child g nd lt (List.sublist_append_left _ _) k1 (kids_of hc) hx (ok_kids aok) (fun _ => ?_)
        have ob := obj_of g.fs aok
        have hw : ks.length = ys.length := by simpa [Hd.wf] using wf_of aok
        have hl := lookP_zip (k := w2) ks (A.pvs ys) (by rw [pvs_len]; exact hw)
        rw [hi, Option.bind_some, pvs_map, List.getElem?_map, hx] at hl
        simp only [GDGet, A.pv, rdct_of ob, if_pos hkey]
        rw [pvs_map, hl]; rfl
      · trivial
    · trivial
  · trivial
def eDGet (d k : PE) : PE := eOp gDGet d k
theorem sim_dget {qa : Bool} {ma mb : AD → GL.ME} {pa pb : PE} (ha : SimE qa ma pa) (hb : SimE true mb pb) : SimE qa (fun ad => GL.eDGet (ma ad) (mb ad)) (eDGet pa pb) := sim_op (gg := GDGet) ha hb sim_gDGet
def gDIn (neg : Bool) : G2 := fun y x ls gh => match val x ls gh, keyD y with
  | some (.nd _ (.dct ks) _), some k => .ok (.v (.bl (if neg then !(idxK k ks).isSome else (idxK k ks).isSome))) ls gh
  | _, _ => .bad
def GDIn (neg : Bool) (y w : PV) (S2 : Sto) : GL.Out PV := match w with
  | .loc n => (match GL.rdctAt S2 n with
    | some kvs => if GL.isKeyP y = true then .ok (.bl (if neg then !(GL.lookP y kvs).isSome else (GL.lookP y kvs).isSome)) S2 else .bad
    | none => .bad)
  | _ => .bad
theorem idxK_lt {k : PV} : ∀ {ks : List PV} {i : Nat}, idxK k ks = some i → i < ks.length
  | [], i, h => by cases h
  | g :: r, i, h => by
    unfold idxK at h
    split at h
    · cases h; simp
    · obtain ⟨j, hj, rfl⟩ := Option.map_eq_some_iff.mp h
      have := idxK_lt hj
      simp only [List.length_cons]; omega
theorem sim_gDIn (neg : Bool) : SimG true (GDIn neg) (gDIn neg) := by
  intro F S as ag c1 c2 w1 w2 g nd lt h1 h2 k1 k2
  unfold gDIn
  split
  · rename_i fl ks xs k e1 e2
    obtain ⟨a, ea, rfl, aok, hc⟩ := val_er c2 e1 h2 g k2
    obtain ⟨n, ys, rfl, rfl⟩ := er_nd ea
    obtain ⟨rfl, hkey⟩ := keyD_er e2 h1
    refine sim_sc g nd lt (.bl _) (fun _ => ?_)
    have ob := obj_of g.fs aok
    have hw : ks.length = ys.length := by simpa [Hd.wf] using wf_of aok
    have hl := lookP_zip (k := w1) ks (A.pvs ys) (by rw [pvs_len]; exact hw)
    have hs : (GL.lookP w1 (ks.zip (A.pvs ys))).isSome = (idxK w1 ks).isSome := by
      rw [hl]
      cases hi : idxK w1 ks with
      | none => rfl
      | some i =>
        have := idxK_lt hi
        rw [Option.bind_some, List.getElem?_eq_getElem (by rw [pvs_len]; omega)]; rfl
    simp only [GDIn, A.pv, rdct_of ob, if_pos hkey, hs, Sc.pv]
  · trivial
def eDIn (neg : Bool) (k d : PE) : PE := eOp (gDIn neg) k d
theorem sim_din {neg : Bool} {qa : Bool} {ma mb : AD → GL.ME} {pa pb : PE} (ha : SimE qa ma pa) (hb : SimE true mb pb) : SimE qa (fun ad => GL.eDIn neg (ma ad) (mb ad)) (eDIn neg pa pb) := sim_op (gg := GDIn neg) ha hb (sim_gDIn neg)
def eDNew : PE := fun ls gh => .ok (.v (.nd .ow (.dct []) [])) ls gh
theorem sim_dnew : SimE true (fun _ => GL.eDNew) eDNew := fun F S as ag g =>
  sim_alloc g (good_nd g) (fun _ h => by cases h) (.dct []) [] rfl trivial (List.nil_sublist _) (fun _ => rfl)
theorem node_write {q : Bool} {x0 x1 : List Nat} {t : List Nat → Bool} {r : Rt} {p : List Nat} {n : Nat} {h h' : Hd} {ks ks' : List A} (hq : q = true → ∀ s, t s = true) (g : Good F S as ag) (nd : (fpS (as ++ ag) ++ x0).Nodup) (lt : ∀ m ∈ x0, m < S.length)
    (hat : atA as ag r p = some (.nd .ow n h ks)) (hw : h'.wf ks'.length = true) (ok' : A.oks F S ks') (hn : (A.fps ks' ++ x1).Nodup) (new : ∀ m ∈ A.fps ks' ++ x1, m ∈ A.fps ks ++ x0) (keepk : ∀ i s k, t (i :: s) = true → ks[i]? = some k → ks'[i]? = some k) :
    Ev q F S as ag x0 F (S.set n (mkO h' (A.pvs ks'))) (chA t r p (.nd .ow n h' ks') as ag).1 (chA t r p (.nd .ow n h' ks') as ag).2 x1 := by
  obtain ⟨root, hr, hx⟩ := at_split hat
  have aok := at_ok g hat
  have aok' := aok
  simp only [A.ok] at aok'
  have ln : n < S.length := (List.getElem?_eq_some_iff.mp aok'.1.2).1
  obtain ⟨_, L, R, e1, _, _⟩ := focus p root _ (root_ok g hr) hx rfl
  have sub1 : ((A.nd .ow n h ks).fp ++ x0).Sublist (fpS (as ++ ag) ++ x0) := by
    obtain ⟨L2, R2, f1, _⟩ := ch_fp (t := t) (p := p) (y := A.nd .ow n h ks) hr
    rw [f1, e1]
    refine List.Sublist.append_right ?_ _
    have s1 : ((A.nd .ow n h ks).fp).Sublist (L ++ (A.nd .ow n h ks).fp ++ R) := (List.sublist_append_right L _).trans (List.sublist_append_left _ _)
    exact s1.trans ((List.sublist_append_right L2 _).trans (List.sublist_append_left _ _))
  have nd1 : (n :: (A.fps ks ++ x0)).Nodup := by
    have := nd.sublist sub1
    simpa [A.fp] using this
  have nn := (List.nodup_cons.mp nd1).1
  have ne : ∀ m ∈ A.fps ks' ++ x1, m ≠ n := fun m hm e => nn (e ▸ new m hm)
  have gr : ∀ m, m ≠ n → (S.set n (mkO h' (A.pvs ks')))[m]? = S[m]? := fun m hm => List.getElem?_set_ne (fun e => hm e.symm)
  have fs : FS F (S.set n (mkO h' (A.pvs ks'))) := fun m b o e => by
    exact (g.fs m b o e).to (gr m (fun h => by subst h; rw [aok'.1.1] at e; cases e))
  have okn : A.oks F (S.set n (mkO h' (A.pvs ks'))) ks' := by
    rw [oks_iff] at ok' ⊢
    exact fun x hx => ok_frame Mono.refl (fun m hm => ⟨rfl, gr m (ne m (List.mem_append_left _ (by rw [fps_map]; exact List.mem_flatMap.mpr ⟨x, hx, hm⟩)))⟩) (ok' x hx)
  refine ev_ch hq g nd hr hx rfl rfl ?_ Mono.refl fs (by simp) ?_ ?_ ?_ ?_ ?_
  · intro s w hs hw
    cases s with
    | nil => exact hw
    | cons i s =>
      unfold getA at hw ⊢
      simp only [A.kids] at hw ⊢
      cases hk : ks[i]? with
      | none => rw [hk] at hw; cases hw
      | some k =>
        rw [keepk i s k hs hk]
        rw [hk] at hw
        exact hw
  · intro m hm hx'
    refine ⟨rfl, gr m fun e => hx' ?_⟩
    rw [e]
    exact List.mem_append_left _ (by simp [A.fp])
  · simp only [A.ok]
    exact ⟨⟨aok'.1.1, by rw [List.getElem?_set_self ln]⟩, hw, okn⟩
  · show (n :: A.fps ks' ++ x1).Nodup
    exact List.nodup_cons.mpr ⟨fun h => ne n h rfl, hn⟩
  · intro m hm
    rcases List.mem_cons.mp (show m ∈ n :: (A.fps ks' ++ x1) from hm) with rfl | h
    · exact .inl (by simp [A.fp])
    · have := new m h
      left
      simp only [A.fp, List.mem_append, List.mem_cons] at this ⊢
      rcases this with u | u <;> simp [u]
  · intro m hm
    rw [List.length_set]
    have := new m (List.mem_append_right _ hm)
    rcases List.mem_append.mp this with u | u
    · rw [fps_map] at u
      obtain ⟨x, hx, u⟩ := List.mem_flatMap.mp u
      exact fp_lt g.fs ((oks_iff ks).mp aok'.2.2 x hx) m u
    · exact lt m u
def eMt (chk : D → Bool) (m : RV → List RV → PE) (o : PE) (args : PA) : PE := fun ls gh => (o ls gh).bind fun x ls gh => match val x ls gh with
  | some d => if chk d = true then (args ls gh).bind fun ys ls gh => m x ys ls gh else .bad
  | none => .bad
def kList : D → Bool
  | .nd _ .lst _ => true
  | .nd _ .rol _ => true
  | _ => false
def SimK (cg : PV → Sto → Bool) (ck : D → Bool) : Prop := ∀ (F : FM) (S : Sto) (a : A), FS F S → a.ok F S → ck a.er = true → cg a.pv S = true
theorem sim_kList : SimK GL.kList kList := by
  intro F S a fs ok h
  cases a with
  | sc s => cases h
  | tup xs => cases h
  | nd k n hd xs =>
    have ob := obj_of fs ok
    cases hd with
    | lst => show (GL.seqAt S n).isSome = true; rw [seqAt_of (AtU.lst ob)]; rfl
    | rol => show (GL.seqAt S n).isSome = true; rw [seqAt_of' (AtU.rol ob)]; rfl
    | dct ks => cases h
    | dcn ks => cases h
    | ptp => cases h
    | ins C ns => cases h
def SimM (q : Bool) (gg : PV → GL.MF) (m : RV → List RV → PE) : Prop := ∀ (F : FM) (S : Sto) (as ag : List AV) (c : ARV) (cs : List ARV) (w : PV) (ws : List PV), Good F S as ag → (fpS (as ++ ag) ++ (c.fp ++ RA.fp cs)).Nodup → (∀ n ∈ c.fp ++ RA.fp cs, n < S.length) → c.pv as ag = some w → RA.pv as ag cs = some ws → c.ok F S → RA.ok F S cs →
  SimO q RE F S as ag (c.fp ++ RA.fp cs) (fun _ => gg w ws S) (m c.er (cs.map ARV.er) (erS as) (erS ag))
def kMt (ad : AD) (cg : PV → Sto → Bool) (gg : PV → GL.MF) (mr : AD → GL.MA) (L : GL.Ls) (w : PV) (S1 : Sto) : GL.Out PV := if cg w S1 = true then (mr ad L S1).bind fun ws S2 => gg w ws S2 else .bad
section
variable {qa qb qm : Bool} {ma : AD → GL.ME} {pa : PE} {mr : AD → GL.MA} {pr : PA} {cg : PV → Sto → Bool} {ck : D → Bool} {gg : PV → GL.MF} {m : RV → List RV → PE}
theorem sim_mt (hk : SimK cg ck) (hm : SimM qm gg m) (ha : SimE qa ma pa) (hr : SimA true mr pr) : SimE (qa && qm) (fun ad => GL.eMt cg gg (ma ad) (mr ad)) (eMt ck m pa pr) := fun F S as ag gd =>
  SimO.weak (sim_first (R' := RE) (q' := true && qm) (k := fun (x : RV) (ls gh : Ls) => match val x ls gh with
  | some d => if ck d = true then (pr ls gh).bind fun ys ls gh => m x ys ls gh else .bad
  | none => .bad) (f := fun ad w S1 => kMt ad cg gg mr (glS as ag ad as) w S1) ha gd (fun _ => rfl) fun F1 S1 as1 ag1 c w h1 h2 g1 n1 l1 L1 => by
    split
    · rename_i d e
      obtain ⟨a, rfl, rfl, aok, hc⟩ := val_er c e h1 g1 h2
      by_cases hck : ck a.er = true
      · rw [if_pos hck]
        have hcg := hk F1 S1 a g1.fs aok hck
        simp only [kMt, if_pos hcg]
        exact sim_next (R0 := RE) (R := RA) (R' := RE) (k := fun ys ls gh => m c.er ys ls gh) (f := fun ad ws S2 => gg a.pv ws S2) hr g1 c h1 h2 n1 l1 (stab_re true c (.inl rfl)) L1 fun F2 S2 as2 ag2 cs ws h1 h2 h3 h4 g2 n2 l2 L2 => hm F2 S2 as2 ag2 c cs a.pv ws g2 n2 l2 h1 h3 h2 h4
      · rw [if_neg hck]; trivial
    · trivial) (by simp)
end
def allT : List Nat → Bool := fun _ => true
def wrote (t : List Nat → Bool) (r : Rt) (p : List Nat) (y : D) (ls gh : Ls) : Out RV := let z := chD t r p y ls gh; .ok (.v .non) z.1 z.2
def mAppend (x : RV) (ys : List RV) : PE := fun ls gh => match x, ys with
  | .pth r p, [y] => (match cvR true y ls gh with
    | some (d, ls, gh) => (match atD ls gh r p with
      | some (.nd .ow .lst xs) => if xs.length < lim then wrote allT r p (.nd .ow .lst (xs ++ [d])) ls gh else .bad
      | _ => .bad)
    | none => .bad)
  | _, _ => .bad
theorem sim_wrote {q : Bool} {x0 : List Nat} {t : List Nat → Bool} {r : Rt} {p : List Nat} {y : A} {d : D} (hd : y.er = d) {o : AD → GL.Out PV} (ho : ∀ ad, o ad = .ok .non S') (ev : Ev q F S as ag x0 F' S' (chA t r p y as ag).1 (chA t r p y as ag).2 []) :
    SimO q RE F S as ag x0 o (wrote t r p d (erS as) (erS ag)) := by
  subst hd
  have e := ch_er t r p y as ag
  unfold wrote
  rw [← e]
  exact ⟨F', S', _, _, .v (.sc .non), .non, rfl, rfl, rfl, ho, rfl, trivial, ev⟩
theorem at_er' {r : Rt} {p : List Nat} {d : D} (h : atD (erS as) (erS ag) r p = some d) : ∃ a, atA as ag r p = some a ∧ a.er = d := by
  rw [at_er] at h
  exact Option.map_eq_some_iff.mp h
theorem sim_mAppend : SimM false GL.mAppend mAppend := by
  intro F S as ag c cs w ws g nd lt h1 h2 k1 k2
  unfold mAppend
  cases c with
  | v a => trivial
  | pth r p =>
    match cs with
    | [] => trivial
    | _ :: _ :: _ => trivial
    | [c2] =>
      obtain ⟨w2, t, hw, ht, rfl⟩ := seqO_cons h2
      cases ht
      have e0 : (ARV.pth r p).fp ++ RA.fp [c2] = c2.fp := List.append_nil _
      rw [e0] at nd lt ⊢
      show SimO _ _ _ _ _ _ _ _ (match cvR true c2.er (erS as) (erS ag) with
        | some (d, ls, gh) => (match atD ls gh r p with
          | some (.nd .ow .lst xs) => if xs.length < lim then wrote allT r p (.nd .ow .lst (xs ++ [d])) ls gh else .bad
          | _ => .bad)
        | none => .bad)
      cases hc : cvR true c2.er (erS as) (erS ag) with
      | none => trivial
      | some z =>
        obtain ⟨d, l1, g1⟩ := z
        obtain ⟨F1, as1, ag1, a, rfl, rfl, rfl, rfl, aok, _, ev⟩ := cv_sim0 g nd lt hw (k2 c2 List.mem_cons_self) hc
        dsimp only
        split
        · rename_i xs hx
          obtain ⟨b, hb, eb⟩ := at_er' hx
          obtain ⟨n, ys, rfl, rfl⟩ := er_nd eb
          have hpv := ev.per rfl r p w h1
          rw [hb] at hpv
          cases hpv
          have bok := at_ok ev.good hb
          have bok' := bok
          simp only [A.ok] at bok'
          by_cases hl : (A.ers ys).length < lim
          · rw [if_pos hl]
            refine SimO.preF (ev.weak (fun h => by cases h)) (q := false) ?_
            refine sim_wrote (y := .nd .ow n .lst (ys ++ [a])) (S' := S.set n (mkO .lst (A.pvs (ys ++ [a])))) (F' := F1) (by simp [A.er, ers_app, A.ers]) (fun _ => ?_) ?_
            · simp only [GL.mAppend, A.pv, lstAt_of (show S[n]? = some (.lst (A.pvs ys)) from bok'.1.2)]
              rw [if_pos (by rw [pvs_len, ← ers_len]; exact hl), pvs_app]; rfl
            · refine node_write (fun h => by cases h) ev.good ev.nd ev.lt hb rfl (oks_app bok'.2.2 ⟨aok, trivial⟩) ?_ ?_ ?_
              · rw [List.append_nil, fps_app]
                have hsub : (A.fps ys ++ A.fps [a]).Sublist (fpS (as1 ++ ag1) ++ a.fp) := by
                  obtain ⟨root, hr, hx⟩ := at_split hb
                  obtain ⟨_, L, R, e1, _, _⟩ := focus p root _ (root_ok ev.good hr) hx rfl
                  obtain ⟨L2, R2, f1, _⟩ := ch_fp (t := allT) (p := p) (y := a) hr
                  rw [f1, e1]
                  refine List.Sublist.append ?_ (by simp [A.fps])
                  have s0 : (A.fps ys).Sublist ((A.nd .ow n .lst ys).fp) := List.sublist_cons_self _ _
                  exact s0.trans (((List.sublist_append_right L _).trans (List.sublist_append_left _ R)).trans ((List.sublist_append_right L2 _).trans (List.sublist_append_left _ _)))
                exact ev.nd.sublist hsub
              · intro m hm
                rw [List.append_nil, fps_app] at hm
                simpa [A.fps] using hm
              · intro i s k _ hk
                rw [List.getElem?_append_left (List.getElem?_eq_some_iff.mp hk).1]; exact hk
          · rw [if_neg hl]; trivial
        · trivial
end VL
set_option Elab.async false
set_option linter.all false
set_option maxRecDepth 100000
set_option maxHeartbeats 1000000
namespace VL
open GL (PV OB Sto Nm BT lim)
open PySem (PyData Builtin)
variable {F F' : FM} {S S' : Sto} {as as' ag ag' : List AV}
theorem sub_node (g : Good F S as ag) {r : Rt} {p : List Nat} {x : A} (h : atA as ag r p = some x) (hs : x.shr = false) : (x.fp).Sublist (fpS (as ++ ag)) := by
  obtain ⟨root, hr, hx⟩ := at_split h
  obtain ⟨_, L, R, e1, _, _⟩ := focus p root _ (root_ok g hr) hx hs
  obtain ⟨L2, R2, f1, _⟩ := ch_fp (t := allT) (p := p) (y := x) hr
  rw [f1, e1]
  exact ((List.sublist_append_right L _).trans (List.sublist_append_left _ R)).trans ((List.sublist_append_right L2 _).trans (List.sublist_append_left _ _))
theorem sub_kids (g : Good F S as ag) {r : Rt} {p : List Nat} {n : Nat} {h : Hd} {ks : List A} (e : atA as ag r p = some (.nd .ow n h ks)) : (A.fps ks).Sublist (fpS (as ++ ag)) :=
  (List.sublist_cons_self _ _).trans (sub_node g e rfl)
def topT : List Nat → Bool := fun s => s.isEmpty
def exT (i : Nat) : List Nat → Bool := fun s => match s with
  | [] => true
  | j :: _ => decide (j ≠ i)
def wroteV (d : D) (t : List Nat → Bool) (r : Rt) (p : List Nat) (y : D) (ls gh : Ls) : Out RV := let z := chD t r p y ls gh; .ok (.v d) z.1 z.2
def mPop (x : RV) (ys : List RV) : PE := fun ls gh => match x, ys with
  | .pth r p, [] => (match atD ls gh r p with
    | some (.nd .ow .lst xs) => (match xs[xs.length - 1]? with
      | some d => wroteV d topT r p (.nd .ow .lst xs.dropLast) ls gh
      | none => .bad)
    | _ => .bad)
  | _, _ => .bad
end VL
set_option Elab.async false
set_option linter.all false
set_option maxRecDepth 100000
set_option maxHeartbeats 1000000
namespace VL
open GL (PV OB Sto Nm BT lim)
open PySem (PyData Builtin)
variable {F F' F'' : FM} {S S' S'' : Sto} {as as' as'' ag ag' ag'' : List AV} {x0 x1 x2 : List Nat}
abbrev MS := Ls → Ls → SOut
structure Sv (F : FM) (S : Sto) (as ag : List AV) (x0 : List Nat) (F' : FM) (S' : Sto) (as' ag' : List AV) (x : List Nat) : Prop where
  good : Good F' S' as' ag'
  nd : (fpS (as' ++ ag') ++ x).Nodup
  lt : ∀ n ∈ x, n < S'.length
  mono : Mono F F'
  len : S.length ≤ S'.length
  keep : ∀ n, n < S.length → n ∉ fpS (as ++ ag) ++ x0 → F' n = F n ∧ S'[n]? = S[n]?
  new : ∀ n, n ∈ fpS (as' ++ ag') ++ x → n ∈ fpS (as ++ ag) ++ x0 ∨ S.length ≤ n
  gg : ∀ ad, glS as' ag' ad ag' = glS as ag ad ag
theorem Ev.sv {q : Bool} (e : Ev q F S as ag x0 F' S' as' ag' x1) : Sv F S as ag x0 F' S' as' ag' x1 := ⟨e.good, e.nd, e.lt, e.mono, e.len, e.keep, e.new, e.gg⟩
theorem Sv.refl (g : Good F S as ag) : Sv F S as ag [] F S as ag [] := (Ev.refl (q := true) g (good_nd g) (fun _ h => by cases h)).sv
theorem Sv.trans (a : Sv F S as ag x0 F' S' as' ag' x1) (b : Sv F' S' as' ag' x1 F'' S'' as'' ag'' x2) : Sv F S as ag x0 F'' S'' as'' ag'' x2 where
  good := b.good
  nd := b.nd
  lt := b.lt
  mono := a.mono.trans b.mono
  len := Nat.le_trans a.len b.len
  keep := fun n hn hx => by
    have h1 := a.keep n hn hx
    have h2 := b.keep n (Nat.lt_of_lt_of_le hn a.len) fun h => by
      rcases a.new n h with h | h
      · exact hx h
      · exact absurd hn (Nat.not_lt.mpr h)
    exact ⟨h2.1.trans h1.1, h2.2.trans h1.2⟩
  new := fun n hn => by
    rcases b.new n hn with h | h
    · exact a.new n h
    · exact .inr (Nat.le_trans a.len h)
  gg := fun ad => (b.gg ad).trans (a.gg ad)
def SimSO (F : FM) (S : Sto) (as ag : List AV) (x0 : List Nat) (o : AD → GL.SOut) (p : SOut) : Prop := match p with
  | .nx ls' gh' => ∃ F' S' as' ag', erS as' = ls' ∧ erS ag' = gh' ∧ (∀ ad, o ad = .nx (glS as' ag' ad as') S') ∧ Sv F S as ag x0 F' S' as' ag' []
  | .bk ls' gh' => ∃ F' S' as' ag', erS as' = ls' ∧ erS ag' = gh' ∧ (∀ ad, o ad = .bk (glS as' ag' ad as') S') ∧ Sv F S as ag x0 F' S' as' ag' []
  | .ct ls' gh' => ∃ F' S' as' ag', erS as' = ls' ∧ erS ag' = gh' ∧ (∀ ad, o ad = .ct (glS as' ag' ad as') S') ∧ Sv F S as ag x0 F' S' as' ag' []
  | .rt d gh' => ∃ F' S' ag' a, erS ag' = gh' ∧ A.er a = d ∧ (∀ ad, o ad = .rt a.pv S') ∧ a.ok F' S' ∧ Sv F S as ag x0 F' S' [] ag' a.fp
  | .exc e ls' gh' => ∃ F' S' as' ag' x, erS as' = ls' ∧ erS ag' = gh' ∧ AE.er x = e ∧ (∀ ad, o ad = .exc x.gl (glS as' ag' ad as') S') ∧ x.ok F' S' ∧ Sv F S as ag x0 F' S' as' ag' []
  | .bad => True
def SimS (m : AD → GL.MS) (p : MS) : Prop := ∀ F S as ag, Good F S as ag → SimSO F S as ag [] (fun ad => m ad (glS as ag ad as) S) (p (erS as) (erS ag))
theorem SimSO.pre {o : AD → GL.SOut} {p : SOut} (e : Sv F S as ag x0 F' S' as' ag' x1) (h : SimSO F' S' as' ag' x1 o p) : SimSO F S as ag x0 o p := by
  cases p with
  | bad => trivial
  | nx ls gh => obtain ⟨F2, S2, as2, ag2, a1, a2, a3, a4⟩ := h; exact ⟨F2, S2, as2, ag2, a1, a2, a3, e.trans a4⟩
  | bk ls gh => obtain ⟨F2, S2, as2, ag2, a1, a2, a3, a4⟩ := h; exact ⟨F2, S2, as2, ag2, a1, a2, a3, e.trans a4⟩
  | ct ls gh => obtain ⟨F2, S2, as2, ag2, a1, a2, a3, a4⟩ := h; exact ⟨F2, S2, as2, ag2, a1, a2, a3, e.trans a4⟩
  | rt d gh => obtain ⟨F2, S2, ag2, a, a1, a2, a3, a4, a5⟩ := h; exact ⟨F2, S2, ag2, a, a1, a2, a3, a4, e.trans a5⟩
  | exc e' ls gh => obtain ⟨F2, S2, as2, ag2, x, a1, a2, a3, a4, a5, a6⟩ := h; exact ⟨F2, S2, as2, ag2, x, a1, a2, a3, a4, a5, e.trans a6⟩
theorem SimSO.cg {o o' : AD → GL.SOut} {p : SOut} (h : SimSO F S as ag x0 o p) (e : ∀ ad, o' ad = o ad) : SimSO F S as ag x0 o' p := by
  have : o' = o := funext e
  rw [this]; exact h
theorem sims_at {m : AD → GL.MS} {p : MS} {L : AD → GL.Ls} (h : SimS m p) (g : Good F S as ag) (hL : ∀ ad, L ad = glS as ag ad as) : SimSO F S as ag [] (fun ad => m ad (L ad) S) (p (erS as) (erS ag)) := by
  have := h F S as ag g
  simpa only [hL] using this
def sNil : MS := fun ls gh => .nx ls gh
def sBad : MS := fun _ _ => .bad
def sBk : MS := fun ls gh => .bk ls gh
def SOut.seq (o : SOut) (f : MS) : SOut := match o with
  | .nx ls gh => f ls gh
  | r => r
def sSeq (a b : MS) : MS := fun ls gh => (a ls gh).seq b
theorem sim_nil : SimS (fun _ => GL.sNil) sNil := fun F S as ag g => ⟨F, S, as, ag, rfl, rfl, fun _ => rfl, Sv.refl g⟩
theorem sim_bk : SimS (fun _ => GL.sBk) sBk := fun F S as ag g => ⟨F, S, as, ag, rfl, rfl, fun _ => rfl, Sv.refl g⟩
theorem sim_bad {m : AD → GL.MS} : SimS m sBad := fun _ _ _ _ _ => trivial
theorem sim_seq {m1 m2 : AD → GL.MS} {p1 p2 : MS} (h1 : SimS m1 p1) (h2 : SimS m2 p2) : SimS (fun ad => GL.sSeq (m1 ad) (m2 ad)) (sSeq p1 p2) := by
  intro F S as ag g
  have h := h1 F S as ag g
  show SimSO _ _ _ _ _ (fun ad => (m1 ad (glS as ag ad as) S).seq (m2 ad)) ((p1 (erS as) (erS ag)).seq p2)
  cases hp : p1 (erS as) (erS ag) with
  | bad => trivial
  | nx ls gh =>
    rw [hp] at h
    obtain ⟨F2, S2, as2, ag2, rfl, rfl, a3, a4⟩ := h
    exact SimSO.pre a4 ((h2 F2 S2 as2 ag2 a4.good).cg fun ad => by show (m1 ad _ S).seq _ = _; rw [show m1 ad (glS as ag ad as) S = _ from a3 ad]; rfl)
  | bk ls gh => rw [hp] at h; obtain ⟨F2, S2, as2, ag2, a1, a2, a3, a4⟩ := h; exact ⟨F2, S2, as2, ag2, a1, a2, fun ad => by show (m1 ad _ S).seq _ = _; rw [show m1 ad (glS as ag ad as) S = _ from a3 ad]; rfl, a4⟩
  | ct ls gh => rw [hp] at h; obtain ⟨F2, S2, as2, ag2, a1, a2, a3, a4⟩ := h; exact ⟨F2, S2, as2, ag2, a1, a2, fun ad => by show (m1 ad _ S).seq _ = _; rw [show m1 ad (glS as ag ad as) S = _ from a3 ad]; rfl, a4⟩
  | rt d gh => rw [hp] at h; obtain ⟨F2, S2, ag2, a, a1, a2, a3, a4, a5⟩ := h; exact ⟨F2, S2, ag2, a, a1, a2, fun ad => by show (m1 ad _ S).seq _ = _; rw [show m1 ad (glS as ag ad as) S = _ from a3 ad]; rfl, a4, a5⟩
  | exc e ls gh => rw [hp] at h; obtain ⟨F2, S2, as2, ag2, x, a1, a2, a3, a4, a5, a6⟩ := h; exact ⟨F2, S2, as2, ag2, x, a1, a2, a3, fun ad => by show (m1 ad _ S).seq _ = _; rw [show m1 ad (glS as ag ad as) S = _ from a4 ad]; rfl, a5, a6⟩
def Out.then {α : Type} (o : Out α) (f : α → Ls → Ls → SOut) : SOut := match o with
  | .ok a ls gh => f a ls gh
  | .exc e ls gh => .exc e ls gh
  | .bad => .bad
theorem sim_then {α β γ : Type} {R : RT α β γ} {q : Bool} {ma : AD → GL.Ls → Sto → GL.Out α} {pa : PX β} {f : AD → α → Sto → GL.SOut} {k : β → Ls → Ls → SOut} {L : AD → GL.Ls}
    (hm : SimX q R ma pa) (g : Good F S as ag) (hL : ∀ ad, L ad = glS as ag ad as)
    (hk : ∀ F' S' as' ag' c w, R.pv as' ag' c = some w → R.ok F' S' c → Good F' S' as' ag' → (fpS (as' ++ ag') ++ R.fp c).Nodup → (∀ n ∈ R.fp c, n < S'.length) → (∀ ad, L ad = glS as' ag' ad as') →
      SimSO F' S' as' ag' (R.fp c) (fun ad => f ad w S') (k (R.er c) (erS as') (erS ag'))) :
    SimSO F S as ag [] (fun ad => (ma ad (L ad) S).then (L ad) (f ad)) ((pa (erS as) (erS ag)).then k) := by
  have h := hm F S as ag g
  cases hp : pa (erS as) (erS ag) with
  | bad => trivial
  | exc e ls gh =>
    rw [hp] at h
    obtain ⟨F2, S2, as2, ag2, x, a1, a2, a3, a4, a5, a6⟩ := h
    refine ⟨F2, S2, as2, ag2, x, a1, a2, a3, fun ad => ?_, a5, a6.sv⟩
    show (ma ad (L ad) S).then (L ad) _ = _
    rw [hL, show ma ad (glS as ag ad as) S = _ from a4 ad, a6.gl]; rfl
  | ok b ls gh =>
    rw [hp] at h
    obtain ⟨F2, S2, as2, ag2, c, w, rfl, rfl, rfl, a4, a5, a6, a7⟩ := h
    have h2 := hk F2 S2 as2 ag2 c w a5 a6 a7.good a7.nd a7.lt (fun ad => (hL ad).trans (a7.gl ad).symm)
    exact SimSO.pre a7.sv (h2.cg fun ad => by
      show (ma ad (L ad) S).then (L ad) _ = _
      rw [hL, show ma ad (glS as ag ad as) S = _ from a4 ad]; rfl)
def sExpr (m : PE) : MS := fun ls gh => (m ls gh).then fun _ ls gh => .nx ls gh
theorem sim_expr {q : Bool} {ma : AD → GL.ME} {pa : PE} (h : SimE q ma pa) : SimS (fun ad => GL.sExpr (ma ad)) (sExpr pa) := fun F S as ag g =>
  sim_then (R := RE) (f := fun ad _ S1 => .nx (glS as ag ad as) S1) (k := fun _ ls gh => .nx ls gh) h g (fun _ => rfl) fun F1 S1 as1 ag1 c w h1 h2 g1 n1 l1 L1 =>
    ⟨F1, S1, as1, ag1, rfl, rfl, fun ad => congrArg (fun l => GL.SOut.nx l S1) (L1 ad), ((Ev.refl (q := true) g1 n1 l1).sub (List.nil_sublist _)).sv⟩
def sIf (c : PT) (a b : MS) : MS := fun ls gh => (c ls gh).then fun k ls gh => if k = true then a ls gh else b ls gh
theorem sim_sif {q : Bool} {tc : AD → GL.MT} {uc : PT} {m1 m2 : AD → GL.MS} {p1 p2 : MS} (hc : SimT q tc uc) (h1 : SimS m1 p1) (h2 : SimS m2 p2) : SimS (fun ad => GL.sIf (tc ad) (m1 ad) (m2 ad)) (sIf uc p1 p2) := fun F S as ag g =>
  sim_then (R := RB) (f := fun ad k S1 => if k = true then m1 ad (glS as ag ad as) S1 else m2 ad (glS as ag ad as) S1) (k := fun k ls gh => if k = true then p1 ls gh else p2 ls gh) hc g (fun _ => rfl) fun F1 S1 as1 ag1 c w e1 _ g1 n1 l1 L1 => by
    cases e1
    cases c with
    | true => exact sims_at h1 g1 L1
    | false => exact sims_at h2 g1 L1
def killR (i : Nat) : Option V → Option V
  | some (.al (.l j) p) => if j = i then none else some (.al (.l j) p)
  | z => z
def killRA (as ag : List AV) (i : Nat) : AV → AV
  | .al (.l j) p => if j = i then .un ((atA as ag (.l j) p).map A.pv) else .al (.l j) p
  | z => z
theorem killR_er (i : Nat) (z : AV) : (killRA as ag i z).er = killR i z.er := by
  cases z with
  | al r p =>
    cases r with
    | l j => simp only [killRA, AV.er, killR]; by_cases h : j = i <;> simp [h]
    | g j => rfl
  | _ => rfl
theorem killR_fp (i : Nat) (z : AV) : (killRA as ag i z).fp = z.fp := by
  cases z with
  | al r p =>
    cases r with
    | l j => simp only [killRA]; split <;> rfl
    | g j => rfl
  | _ => rfl
theorem killR_slot (i : Nat) (z : Option AV) : slotA (z.map (killRA as ag i)) = slotA z := by
  cases z with
  | none => rfl
  | some z =>
    cases z with
    | al r p =>
      cases r with
      | l j => simp only [Option.map_some, killRA]; split <;> rfl
      | g j => rfl
    | _ => rfl
theorem killR_ok (i : Nat) {z : AV} (h : z.ok F S) : (killRA as ag i z).ok F S := by
  cases z with
  | al r p =>
    cases r with
    | l j => simp only [killRA]; split <;> trivial
    | g j => trivial
  | _ => exact h
def stA (as ag : List AV) (i : Nat) (z : AV) : List AV × List AV := ((as.map (killRA as ag i)).set i z, ag.map (killRA as ag i))
def stD (ls gh : Ls) (i : Nat) (z : V) : Ls × Ls := ((ls.map (killR i)).set i (some z), gh.map (killR i))
theorem st_er {i : Nat} {z : AV} {v : V} (hz : z.er = some v) : (erS (stA as ag i z).1, erS (stA as ag i z).2) = stD (erS as) (erS ag) i v := by
  have k : ∀ zs : List AV, erS (zs.map (killRA as ag i)) = (erS zs).map (killR i) := fun zs => by
    simp only [erS, List.map_map]
    exact List.map_congr_left fun z _ => killR_er i z
  unfold stA stD
  rw [← k, ← k]
  simp only [erS, List.map_set, hz]
theorem st_root {i : Nat} {z : AV} {r : Rt} (hr : r ≠ .l i) : rootA (stA as ag i z).1 (stA as ag i z).2 r = rootA as ag r := by
  cases r with
  | l j =>
    have : i ≠ j := fun e => hr (by rw [e])
    simp only [rootA, stA]
    rw [List.getElem?_set_ne this, List.getElem?_map, killR_slot]
  | g j => simp only [rootA, stA, List.getElem?_map, killR_slot]
theorem st_glv {i : Nat} {z y : AV} (ad : AD) : glv (stA as ag i z).1 (stA as ag i z).2 ad (killRA as ag i y) = glv as ag ad y := by
  cases y with
  | al r p =>
    cases r with
    | l j =>
      by_cases h : j = i
      · simp only [killRA, if_pos h, glv]
      · simp only [killRA, if_neg h, glv]
        unfold atA
        rw [st_root (fun e => h (by cases e; rfl))]
    | g j =>
      show (atA _ _ (.g j) p).map _ = (atA as ag (.g j) p).map _
      unfold atA
      rw [st_root (by simp)]
  | _ => rfl
theorem st_gl {i : Nat} {z : AV} {w : PV} (hi : i < as.length) (ad : AD) (hz : glv (stA as ag i z).1 (stA as ag i z).2 ad z = some w) :
    glS (stA as ag i z).1 (stA as ag i z).2 ad (stA as ag i z).1 = (glS as ag ad as).set i (some w) ∧ glS (stA as ag i z).1 (stA as ag i z).2 ad (stA as ag i z).2 = glS as ag ad ag := by
  constructor
  · show ((as.map (killRA as ag i)).set i z).map _ = _
    rw [List.map_set, hz, List.map_map]
    congr 1
    exact List.map_congr_left fun y _ => st_glv ad
  · show (ag.map (killRA as ag i)).map _ = _
    rw [List.map_map]
    exact List.map_congr_left fun y _ => st_glv ad
theorem set_split {α : Type} {xs : List α} {i : Nat} {x y : α} (h : xs[i]? = some x) : ∃ A B, xs = A ++ x :: B ∧ xs.set i y = A ++ y :: B := by
  refine ⟨xs.take i, xs.drop (i + 1), take_self h, ?_⟩
  rw [List.set_eq_take_append_cons_drop, if_pos (List.getElem?_eq_some_iff.mp h).1]
theorem kill_fps (zs : List AV) (i : Nat) : fpS (zs.map (killRA as ag i)) = fpS zs := by
  unfold fpS
  rw [List.flatMap_map]
  exact congrArg List.flatten (List.map_congr_left fun z _ => killR_fp i z)
theorem sv_set {i : Nat} {z : AV} (g : Good F S as ag) (nd : (fpS (as ++ ag) ++ x0).Nodup) (lt : ∀ n ∈ x0, n < S.length) (hi : i < as.length) (zok : z.ok F S) (zal : Alive (stA as ag i z).1 (stA as ag i z).2 z)
    (hf : ∀ y, as[i]? = some y → z.fp.Sublist y.fp ∨ z.fp.Sublist x0) : Sv F S as ag x0 F S (stA as ag i z).1 (stA as ag i z).2 [] := by
  have hy : as[i]? = some as[i] := List.getElem?_eq_getElem hi
  have hk : (as.map (killRA as ag i))[i]? = some (killRA as ag i as[i]) := by rw [List.getElem?_map, hy]; rfl
  obtain ⟨A1, B1, e1, e2⟩ := set_split (y := z) hk
  have f1 : fpS as = fpS A1 ++ (as[i].fp ++ fpS B1) := by
    have : fpS (as.map (killRA as ag i)) = fpS as := kill_fps as i
    rw [← this, e1, fpS_app, fpS_cons, killR_fp]
  have f2 : fpS ((stA as ag i z).1 ++ (stA as ag i z).2) = fpS A1 ++ (z.fp ++ fpS B1) ++ fpS ag := by
    show fpS ((as.map (killRA as ag i)).set i z ++ ag.map (killRA as ag i)) = _
    rw [fpS_app, kill_fps, e2, fpS_app, fpS_cons]
  have ndn : (fpS ((stA as ag i z).1 ++ (stA as ag i z).2)).Nodup := by
    rw [f2]
    rcases hf _ hy with hs | hs
    · refine g.nd.sublist ?_
      rw [fpS_app, f1]
      exact List.Sublist.append_right (List.Sublist.append_left (List.Sublist.append_right hs _) _) _
    · have n1 : (fpS A1 ++ (as[i].fp ++ fpS B1) ++ fpS ag ++ x0).Nodup := by rw [← f1, ← fpS_app]; exact nd
      have n2 : (fpS A1 ++ fpS B1 ++ fpS ag ++ z.fp).Nodup := by
        refine n1.sublist (List.Sublist.append (List.Sublist.append_right ?_ _) hs)
        exact List.Sublist.append_left (List.sublist_append_right _ _) _
      refine (List.Perm.nodup_iff ?_).mp n2
      have : (fpS A1 ++ (fpS B1 ++ fpS ag ++ z.fp)).Perm (fpS A1 ++ (z.fp ++ (fpS B1 ++ fpS ag))) := List.Perm.append_left _ List.perm_append_comm
      simpa using this
  have mem : ∀ y ∈ (stA as ag i z).1 ++ (stA as ag i z).2, y = z ∨ ∃ y0 ∈ as ++ ag, y = killRA as ag i y0 := fun y h => by
    rcases List.mem_append.mp h with h | h
    · rcases List.mem_or_eq_of_mem_set h with h | h
      · obtain ⟨y0, h0, rfl⟩ := List.mem_map.mp h
        exact .inr ⟨y0, List.mem_append_left _ h0, rfl⟩
      · exact .inl h
    · obtain ⟨y0, h0, rfl⟩ := List.mem_map.mp h
      exact .inr ⟨y0, List.mem_append_right _ h0, rfl⟩
  refine ⟨⟨g.fs, fun y h => ?_, ndn, fun y h => ?_⟩, by rw [List.append_nil]; exact ndn, fun _ h => (by cases h), Mono.refl, Nat.le_refl _, fun _ _ _ => ⟨rfl, rfl⟩, fun n h => .inl ?_, fun ad => ?_⟩
  · rcases mem y h with rfl | ⟨y0, h0, rfl⟩
    · exact zok
    · exact killR_ok i (g.ok _ h0)
  · rcases mem y h with rfl | ⟨y0, h0, rfl⟩
    · exact zal
    · have al := g.al _ h0
      cases y0 with
      | al r p =>
        cases r with
        | l j =>
          simp only [killRA]
          split
          · trivial
          · rename_i hj
            show (atA _ _ (.l j) p).isSome = true
            unfold atA
            rw [st_root (fun e => hj (by cases e; rfl))]
            exact al
        | g j =>
          show (atA _ _ (.g j) p).isSome = true
          unfold atA
          rw [st_root (by simp)]
          exact al
      | _ => trivial
  · rw [List.append_nil, f2] at h
    rw [fpS_app, f1]
    simp only [List.mem_append] at h ⊢
    rcases h with (h | h | h) | h
    · simp [h]
    · rcases hf _ hy with hs | hs
      · have := hs.subset h; simp [this]
      · have := hs.subset h; simp [this]
    · simp [h]
    · simp [h]
  · show (ag.map (killRA as ag i)).map _ = _
    rw [List.map_map]
    exact List.map_congr_left fun y _ => st_glv ad
def setL (i : Nat) (x : RV) (ls gh : Ls) : Option (Ls × Ls) := if i < ls.length then (match x with
  | .v d => some (stD ls gh i (.v d))
  | .pth r p => if r = .l i then (match atD ls gh r p with
      | some d => some (stD ls gh i (.v d))
      | none => none) else some (stD ls gh i (.al r p))) else none
theorem setL_sim {i : Nat} {c : ARV} {w : PV} {ls' gh' : Ls} (g : Good F S as ag) (nd : (fpS (as ++ ag) ++ c.fp).Nodup) (lt : ∀ n ∈ c.fp, n < S.length) (hp : c.pv as ag = some w) (hk : c.ok F S) (h : setL i c.er (erS as) (erS ag) = some (ls', gh')) :
    ∃ as' ag', erS as' = ls' ∧ erS ag' = gh' ∧ (∀ ad, glS as' ag' ad as' = (glS as ag ad as).set i (some w)) ∧ (∀ r, r ≠ .l i → rootA as' ag' r = rootA as ag r) ∧ Sv F S as ag c.fp F S as' ag' [] := by
  unfold setL at h
  split at h
  · rename_i hi
    have hi : i < as.length := by simpa [erS] using hi
    cases c with
    | v a =>
      simp only [ARV.er, Option.some.injEq] at h
      rw [← st_er (z := .v a) rfl, Prod.mk.injEq] at h
      cases hp
      exact ⟨_, _, h.1, h.2, fun ad => (st_gl hi ad rfl).1, fun r hr => st_root hr, sv_set g nd lt hi hk trivial (fun _ _ => .inr (List.Sublist.refl _))⟩
    | pth r p =>
      simp only [ARV.er] at h
      split at h
      · rename_i hr; subst hr
        split at h
        · rename_i d hd
          obtain ⟨a, ha, rfl⟩ := at_er' hd
          simp only [Option.some.injEq] at h
          rw [← st_er (z := .v a) rfl, Prod.mk.injEq] at h
          have hp : (atA as ag (.l i) p).map A.pv = some w := hp
          rw [ha] at hp
          cases hp
          refine ⟨_, _, h.1, h.2, fun ad => (st_gl hi ad rfl).1, fun r hr => st_root hr, sv_set g nd lt hi (at_ok g ha) trivial (fun y hy => .inl ?_)⟩
          obtain ⟨root, hr, hx⟩ := at_split ha
          have hroot : y.fp = root.fp := by
            have hr : slotA as[i]? = some root := hr
            rw [hy] at hr
            cases y <;> cases hr <;> rfl
          show (A.fp a).Sublist y.fp
          rw [hroot]
          cases hs : a.shr with
          | true => rw [fp_shr (at_ok g ha) hs]; exact List.nil_sublist _
          | false =>
            obtain ⟨_, L, R, e1, _, _⟩ := focus p root a (root_ok g hr) hx hs
            rw [e1]
            exact (List.sublist_append_right L _).trans (List.sublist_append_left _ R)
        · cases h
      · rename_i hr
        simp only [Option.some.injEq] at h
        rw [← st_er (z := .al r p) rfl, Prod.mk.injEq] at h
        have hp : (atA as ag r p).map A.pv = some w := hp
        have hv : ∀ ad, glv (stA as ag i (.al r p)).1 (stA as ag i (.al r p)).2 ad (.al r p) = some w := fun ad => by
          show (atA _ _ r p).map A.pv = some w
          unfold atA at hp ⊢
          rw [st_root hr]; exact hp
        refine ⟨_, _, h.1, h.2, fun ad => (st_gl hi ad (hv ad)).1, fun r hr => st_root hr, sv_set g nd lt hi trivial ?_ (fun _ _ => .inr (List.nil_sublist _))⟩
        show (atA _ _ r p).isSome = true
        unfold atA
        rw [st_root hr]
        cases hq : atA as ag r p with
        | none => rw [hq] at hp; cases hp
        | some a => unfold atA at hq; rw [hq]; rfl
  · cases h
def sSet (i : Nat) (m : PE) : MS := fun ls gh => (m ls gh).then fun x ls gh => match setL i x ls gh with
  | some z => .nx z.1 z.2
  | none => .bad
theorem sim_set {i : Nat} {q : Bool} {ma : AD → GL.ME} {pa : PE} (h : SimE q ma pa) : SimS (fun ad => GL.sSet i (ma ad)) (sSet i pa) := fun F S as ag g =>
  sim_then (R := RE) (f := fun ad w S1 => .nx ((glS as ag ad as).set i (some w)) S1) (k := fun x ls gh => match setL i x ls gh with
  | some z => .nx z.1 z.2
  | none => .bad) h g (fun _ => rfl) fun F1 S1 as1 ag1 c w h1 h2 g1 n1 l1 L1 => by
    cases hs : setL i (RE.er c) (erS as1) (erS ag1) with
    | none => simp only [hs]; trivial
    | some z =>
      obtain ⟨as2, ag2, e1, e2, e3, _, sv⟩ := setL_sim g1 n1 l1 h1 h2 (show setL i c.er _ _ = some (z.1, z.2) from hs)
      simp only [hs]
      exact ⟨F1, S1, as2, ag2, e1, e2, fun ad => by show GL.SOut.nx ((glS as ag ad as).set i (some w)) S1 = _; rw [e3, L1], sv⟩
def dropG : Option V → Option V
  | some (.al (.l _) _) => none
  | z => z
def retV (x : RV) (ls gh : Ls) : Option (D × Ls) := match x with
  | .v d => some (d, gh.map dropG)
  | .pth (.l i) [] => (match ls[i]? with
    | some (some (.v d)) => some (d, gh.map dropG)
    | _ => none)
  | .pth r p => (match cvR false (.pth r p) ls gh with
    | some (d, _, gh) => some (d, gh.map dropG)
    | none => none)
def sRet (m : PE) : MS := fun ls gh => (m ls gh).then fun x ls gh => match retV x ls gh with
  | some z => .rt z.1 z.2
  | none => .bad
def dropA (as ag : List AV) : AV → AV
  | .al (.l j) p => .un ((atA as ag (.l j) p).map A.pv)
  | z => z
theorem drop_er (z : AV) : (dropA as ag z).er = dropG z.er := by
  cases z with
  | al r p => cases r <;> rfl
  | _ => rfl
theorem drop_fp (z : AV) : (dropA as ag z).fp = z.fp := by
  cases z with
  | al r p => cases r <;> rfl
  | _ => rfl
theorem drop_slot (z : Option AV) : slotA (z.map (dropA as ag)) = slotA z := by
  cases z with
  | none => rfl
  | some z =>
    cases z with
    | al r p => cases r <;> rfl
    | _ => rfl
theorem drop_at (j : Nat) (p : List Nat) : atA [] (ag.map (dropA as ag)) (.g j) p = atA as ag (.g j) p := by
  unfold atA
  show (slotA (ag.map (dropA as ag))[j]?).bind _ = (slotA ag[j]?).bind _
  rw [List.getElem?_map, drop_slot]
theorem sv_drop (g : Good F S as ag) (nd : (fpS (as ++ ag) ++ x0).Nodup) (lt : ∀ n ∈ x0, n < S.length) (hx : (fpS ag ++ x1).Nodup) (sub : ∀ n ∈ x1, n ∈ fpS (as ++ ag) ++ x0) (lt1 : ∀ n ∈ x1, n < S.length) : Sv F S as ag x0 F S [] (ag.map (dropA as ag)) x1 := by
  have f1 : fpS (ag.map (dropA as ag)) = fpS ag := by
    unfold fpS
    rw [List.flatMap_map]
    exact congrArg List.flatten (List.map_congr_left fun z _ => drop_fp z)
  refine ⟨⟨g.fs, fun z h => ?_, ?_, fun z h => ?_⟩, ?_, lt1, Mono.refl, Nat.le_refl _, fun _ _ _ => ⟨rfl, rfl⟩, fun n h => .inl ?_, fun ad => ?_⟩
  · obtain ⟨y, hy, rfl⟩ := List.mem_map.mp (by simpa using h)
    have := g.ok y (List.mem_append_right _ hy)
    cases y with
    | al r p => cases r <;> trivial
    | _ => exact this
  · show (fpS ([] ++ _)).Nodup
    rw [List.nil_append, f1]
    exact (List.nodup_append.mp hx).1
  · obtain ⟨y, hy, rfl⟩ := List.mem_map.mp (by simpa using h)
    have := g.al y (List.mem_append_right _ hy)
    cases y with
    | al r p =>
      cases r with
      | l j => trivial
      | g j =>
        show (atA [] _ (.g j) p).isSome = true
        rw [drop_at]; exact this
    | _ => trivial
  · rw [List.nil_append, f1]; exact hx
  · rw [List.nil_append, f1] at h
    rcases List.mem_append.mp h with t | t
    · exact List.mem_append_left _ (by rw [fpS_app]; exact List.mem_append_right _ t)
    · exact sub n t
  · show (ag.map (dropA as ag)).map _ = _
    rw [List.map_map]
    refine List.map_congr_left fun y hy => ?_
    cases y with
    | al r p =>
      cases r with
      | l j => rfl
      | g j => show (atA [] _ (.g j) p).map _ = (atA as ag (.g j) p).map _; rw [drop_at]
    | _ => rfl
theorem erS_drop : erS (ag.map (dropA as ag)) = (erS ag).map dropG := by
  simp only [erS, List.map_map]
  exact List.map_congr_left fun z _ => drop_er z
theorem sim_ret {q : Bool} {ma : AD → GL.ME} {pa : PE} (h : SimE q ma pa) : SimS (fun ad => GL.sRet (ma ad)) (sRet pa) := fun F S as ag g =>
  sim_then (R := RE) (f := fun ad w S1 => .rt w S1) (k := fun x ls gh => match retV x ls gh with
  | some z => .rt z.1 z.2
  | none => .bad) h g (fun _ => rfl) fun F1 S1 as1 ag1 c w h1 h2 g1 n1 l1 L1 => by
    have ndg : (fpS ag1 ++ c.fp).Nodup := by
      have n1 : (fpS (as1 ++ ag1) ++ c.fp).Nodup := n1
      rw [fpS_app, List.append_assoc] at n1
      exact (List.nodup_append.mp n1).2.1
    have frz : ∀ r p, c = .pth r p → ∀ d l g', cvR false (.pth r p) (erS as1) (erS ag1) = some (d, l, g') → SimSO F1 S1 as1 ag1 (RE.fp c) (fun ad => .rt w S1) (.rt d (g'.map dropG)) := fun r p hc d l g' hcv => by
      subst hc
      obtain ⟨F2, as2, ag2, a, rfl, rfl, rfl, rfl, aok, afp, ev⟩ := cv_sim0 (k := false) (c := .pth r p) g1 n1 l1 h1 h2 hcv
      have fz := afp rfl
      refine SimSO.pre ev.sv ?_
      refine ⟨F2, S1, ag2.map (dropA as2 ag2), a, erS_drop, rfl, fun _ => rfl, aok, sv_drop ev.good ev.nd ev.lt ?_ (fun n h => by rw [fz] at h; cases h) (fun n h => by rw [fz] at h; cases h)⟩
      rw [fz, List.append_nil]
      have := ev.good.nd
      rw [fpS_app] at this
      exact (List.nodup_append.mp this).2.1
    cases c with
    | v a =>
      cases h1
      exact ⟨F1, S1, ag1.map (dropA as1 ag1), a, erS_drop, rfl, fun _ => rfl, h2, sv_drop g1 n1 l1 ndg (fun n h => List.mem_append_right _ h) l1⟩
    | pth r p =>
      show SimSO _ _ _ _ _ _ (match retV (.pth r p) (erS as1) (erS ag1) with
        | some z => .rt z.1 z.2
        | none => .bad)
      cases hr : retV (.pth r p) (erS as1) (erS ag1) with
      | none => trivial
      | some z =>
        obtain ⟨d, g'⟩ := z
        dsimp only
        unfold retV at hr
        split at hr
        · rename_i heq; cases heq
        · rename_i i heq
          cases heq
          split at hr
          · rename_i d' hd
            cases hr
            simp only [erS, List.getElem?_map] at hd
            cases hi : as1[i]? with
            | none => rw [hi] at hd; cases hd
            | some y =>
              rw [hi] at hd
              cases y with
              | v a =>
                simp only [Option.map_some, AV.er, Option.some.injEq, V.v.injEq] at hd
                subst hd
                have hw : w = a.pv := by
                  have h1 : (atA as1 ag1 (.l i) []).map A.pv = some w := h1
                  have h1 : ((slotA as1[i]?).bind (getA [])).map A.pv = some w := h1
                  rw [hi] at h1
                  cases h1; rfl
                have hm : AV.v a ∈ as1 := List.mem_of_getElem? hi
                have s1 : (a.fp).Sublist (fpS as1) := by
                  unfold fpS
                  rw [List.flatMap]
                  exact List.sublist_flatten_of_mem (List.mem_map.mpr ⟨_, hm, rfl⟩)
                subst hw
                refine ⟨F1, S1, ag1.map (dropA as1 ag1), a, erS_drop, rfl, fun _ => rfl, g1.ok _ (List.mem_append_left _ hm), sv_drop g1 n1 l1 ?_ (fun n h => List.mem_append_left _ (by rw [fpS_app]; exact List.mem_append_left _ (s1.subset h))) (fun n h => fp_lt g1.fs (g1.ok _ (List.mem_append_left _ hm)) n h)⟩
                have := g1.nd
                rw [fpS_app] at this
                exact (List.Perm.nodup_iff List.perm_append_comm).mp (this.sublist (List.Sublist.append_right s1 _))
              | un o => cases hd
              | io a => cases hd
              | al r p => cases hd
              | xn C ns xs => cases hd
          · cases hr
        · rename_i r' p' _ heq
          cases heq
          split at hr
          · rename_i d' l' g'' hcv
            cases hr
            exact frz r p rfl d l' g'' hcv
          · cases hr
end VL
set_option Elab.async false
set_option linter.all false
set_option maxRecDepth 100000
set_option maxHeartbeats 1000000
namespace VL
open GL (PV OB Sto Nm BT lim)
open PySem (PyData Builtin)
variable {F F' F'' : FM} {S S' S'' : Sto} {as as' as'' ag ag' ag'' : List AV} {x0 x1 x2 : List Nat}
inductive FOut where
  | ok (d : D) (ios : List D)
  | exc (e : Exn) (ios : List D)
  | bad
abbrev MF := List V → List D → FOut
def ioD : Ls → Option (List D)
  | [] => some []
  | some (.io d) :: r => (ioD r).map (d :: ·)
  | _ => none
def endF (gh : Ls) (f : List D → FOut) : FOut := match ioD gh with
  | some ios => f ios
  | none => .bad
def fnOf (np n : Nat) (m : MS) : MF := fun vs hs => if vs.length = np then (match m (vs.map some ++ List.replicate (n - np) none) (hs.map fun d => some (.io d)) with
  | .nx _ gh => endF gh fun ios => .ok .non ios
  | .rt d gh => endF gh fun ios => .ok d ios
  | .exc e _ gh => endF gh fun ios => .exc e ios
  | _ => .bad) else .bad
def SimFn (f : GL.MF) (p : MF) : Prop := ∀ (F : FM) (S : Sto) (cs : List AV) (hs : List A) (vs : List V) (ws : List PV), Good F S cs (hs.map .io) → erS cs = vs.map some → (∀ ad, glS cs (hs.map .io) ad cs = ws.map some) → match p vs (hs.map A.er) with
  | .ok d ios => ∃ (F' : FM) (S' : Sto) (hs' : List A) (a : A), hs'.map A.er = ios ∧ A.er a = d ∧ f ws S = .ok a.pv S' ∧ a.ok F' S' ∧ Sv F S cs (hs.map .io) [] F' S' [] (hs'.map .io) a.fp
  | .exc e ios => ∃ (F' : FM) (S' : Sto) (hs' : List A) (x : AE), hs'.map A.er = ios ∧ AE.er x = e ∧ f ws S = .exc x.gl S' ∧ x.ok F' S' ∧ Sv F S cs (hs.map .io) [] F' S' [] (hs'.map .io) []
  | .bad => True
theorem ioD_er : ∀ {ag : List AV} {ios : List D}, ioD (erS ag) = some ios → ∃ hs : List A, ag = hs.map .io ∧ hs.map A.er = ios
  | [], ios, h => by cases h; exact ⟨[], rfl, rfl⟩
  | z :: r, ios, h => by
    cases z with
    | io a =>
      have h : (ioD (erS r)).map (a.er :: ·) = some ios := h
      obtain ⟨ds, hd, rfl⟩ := Option.map_eq_some_iff.mp h
      obtain ⟨hs, rfl, rfl⟩ := ioD_er hd
      exact ⟨a :: hs, rfl, rfl⟩
    | _ => cases h
theorem fpS_un (zs : List AV) (n : Nat) : fpS (zs ++ List.replicate n (.un none)) = fpS zs := by
  rw [fpS_app]
  have : fpS (List.replicate n (AV.un none)) = [] := by
    unfold fpS
    rw [List.flatMap_eq_nil_iff]
    intro z hz
    rw [List.eq_of_mem_replicate hz]; rfl
  rw [this, List.append_nil]
theorem root_un (zs : List AV) (n : Nat) (ag : List AV) (r : Rt) : rootA (zs ++ List.replicate n (.un none)) ag r = rootA zs ag r := by
  cases r with
  | g j => rfl
  | l i =>
    show slotA (zs ++ _)[i]? = slotA zs[i]?
    by_cases h : i < zs.length
    · rw [List.getElem?_append_left h]
    · rw [List.getElem?_append_right (Nat.le_of_not_lt h), List.getElem?_eq_none_iff.mpr (Nat.le_of_not_lt h), List.getElem?_replicate]
      split <;> rfl
theorem good_un (n : Nat) (g : Good F S as ag) : Good F S (as ++ List.replicate n (.un none)) ag := by
  have mem : ∀ z ∈ (as ++ List.replicate n (.un none)) ++ ag, z = .un none ∨ z ∈ as ++ ag := fun z h => by
    rcases List.mem_append.mp h with h | h
    · rcases List.mem_append.mp h with h | h
      · exact .inr (List.mem_append_left _ h)
      · exact .inl (List.eq_of_mem_replicate h)
    · exact .inr (List.mem_append_right _ h)
  refine ⟨g.fs, fun z h => ?_, ?_, fun z h => ?_⟩
  · rcases mem z h with rfl | h
    · trivial
    · exact g.ok z h
  · rw [fpS_app, fpS_un, ← fpS_app]; exact g.nd
  · rcases mem z h with rfl | h
    · trivial
    · have := g.al z h
      cases z with
      | al r p =>
        show (atA _ ag r p).isSome = true
        unfold atA
        rw [root_un]; exact this
      | _ => trivial
theorem glS_un (n : Nat) (ad : AD) (zs : List AV) : glS (as ++ List.replicate n (.un none)) ag ad zs = glS as ag ad zs := by
  refine List.map_congr_left fun z _ => ?_
  cases z with
  | al r p =>
    show (atA _ ag r p).map _ = (atA as ag r p).map _
    unfold atA
    rw [root_un]
  | _ => rfl
theorem sim_fn {np n : Nat} {m : GL.MS} {p : MS} (h : SimS (fun _ => m) p) : SimFn (GL.fnOf np n m) (fnOf np n p) := by
  intro F S cs hs vs ws g e1 e2
  unfold fnOf
  have lv : vs.length = ws.length := by
    have a := congrArg List.length e1
    have b := congrArg List.length (e2 (0, 0))
    simp [erS, glS] at a b
    omega
  by_cases hl : vs.length = np
  · rw [if_pos hl]
    have h2 := h F S (cs ++ List.replicate (n - np) (.un none)) (hs.map .io) (good_un _ g)
    have q1 : erS (cs ++ List.replicate (n - np) (.un none)) = vs.map some ++ List.replicate (n - np) none := by
      rw [← e1]
      simp [erS, AV.er]
    have q2 : erS (hs.map .io) = (hs.map A.er).map fun d => some (V.io d) := by
      simp [erS, List.map_map]
      exact fun _ _ => rfl
    have q3 : ∀ ad, glS (cs ++ List.replicate (n - np) (.un none)) (hs.map .io) ad (cs ++ List.replicate (n - np) (.un none)) = ws.map some ++ List.replicate (n - np) none := fun ad => by
      rw [glS_un, ← e2 ad]
      simp [glS, glv]
    simp only [q1, q2, q3] at h2
    have hf : ∀ o, m (ws.map some ++ List.replicate (n - np) none) S = o → GL.fnOf np n m ws S = (match o with
      | .nx _ S' => .ok .non S'
      | .rt w S' => .ok w S'
      | .exc e _ S' => .exc e S'
      | _ => .bad) := fun o ho => by
      unfold GL.fnOf
      rw [if_pos (lv ▸ hl), ho]
      all_goals (cases o <;> rfl)
    have lift : ∀ {F' : FM} {S' : Sto} {as' ag' : List AV} {x : List Nat}, Sv F S (cs ++ List.replicate (n - np) (.un none)) (hs.map .io) [] F' S' as' ag' x → Sv F S cs (hs.map .io) [] F' S' as' ag' x := fun sv =>
      ⟨sv.good, sv.nd, sv.lt, sv.mono, sv.len, fun k hk hx => sv.keep k hk (by rw [fpS_app, fpS_un, ← fpS_app]; exact hx), fun k hk => by
        have := sv.new k hk
        rwa [fpS_app, fpS_un, ← fpS_app] at this, fun ad => by rw [sv.gg, glS_un]⟩
    have dropL : ∀ {F' : FM} {S' : Sto} {as' : List AV} {hs' : List A}, Sv F S cs (hs.map .io) [] F' S' as' (hs'.map .io) [] → Sv F S cs (hs.map .io) [] F' S' [] (hs'.map .io) [] := fun {F' S' as' hs'} sv => by
      have e : (hs'.map AV.io).map (dropA as' (hs'.map .io)) = hs'.map .io := by
        rw [List.map_map]; exact List.map_congr_left fun _ _ => rfl
      have := sv.trans (sv_drop (x1 := []) sv.good sv.nd sv.lt (by
        have := sv.good.nd
        rw [fpS_app] at this
        rw [List.append_nil]; exact (List.nodup_append.mp this).2.1) (fun n h => by cases h) (fun n h => by cases h))
      rwa [e] at this
    cases hp : p (vs.map some ++ List.replicate (n - np) none) ((hs.map A.er).map fun d => some (V.io d)) with
    | bad => trivial
    | bk ls gh => trivial
    | ct ls gh => trivial
    | nx ls gh =>
      rw [hp] at h2
      obtain ⟨F', S', as', ag', rfl, rfl, a3, sv⟩ := h2
      show match endF (erS ag') _ with | .ok d ios => _ | .exc e ios => _ | .bad => True
      unfold endF
      cases hi : ioD (erS ag') with
      | none => trivial
      | some ios =>
        obtain ⟨hs', rfl, rfl⟩ := ioD_er hi
        exact ⟨F', S', hs', .sc .non, rfl, rfl, hf _ (a3 (0, 0)), trivial, dropL (lift sv)⟩
    | rt d gh =>
      rw [hp] at h2
      obtain ⟨F', S', ag', a, rfl, rfl, a3, aok, sv⟩ := h2
      show match endF (erS ag') _ with | .ok d ios => _ | .exc e ios => _ | .bad => True
      unfold endF
      cases hi : ioD (erS ag') with
      | none => trivial
      | some ios =>
        obtain ⟨hs', rfl, rfl⟩ := ioD_er hi
        exact ⟨F', S', hs', a, rfl, rfl, hf _ (a3 (0, 0)), aok, lift sv⟩
    | exc e ls gh =>
      rw [hp] at h2
      obtain ⟨F', S', as', ag', x, rfl, rfl, rfl, a3, xok, sv⟩ := h2
      show match endF (erS ag') _ with | .ok d ios => _ | .exc e ios => _ | .bad => True
      unfold endF
      cases hi : ioD (erS ag') with
      | none => trivial
      | some ios =>
        obtain ⟨hs', rfl, rfl⟩ := ioD_er hi
        exact ⟨F', S', hs', x, rfl, rfl, hf _ (a3 (0, 0)), xok, dropL (lift sv)⟩
  · rw [if_neg hl]; trivial
def callD (fn : MF) (vs : List V) (ls gh : Ls) : Out RV := match fn vs [] with
  | .ok d _ => .ok (.v d) ls gh
  | .exc e _ => .exc e ls gh
  | .bad => .bad
theorem v_list (xs : List A) : erS (xs.map .v) = ((A.ers xs).map V.v).map some := by
  rw [ers_map, erS, List.map_map, List.map_map, List.map_map]; rfl
theorem v_gl (as0 ag0 : List AV) (ad : AD) (xs : List A) : glS as0 ag0 ad (xs.map .v) = (A.pvs xs).map some := by
  rw [pvs_map, glS, List.map_map, List.map_map]; rfl
theorem v_fp (xs : List A) : fpS (xs.map .v) = A.fps xs := by rw [fps_map, fpS, List.flatMap_map]; rfl
theorem good_v (g : Good F S as ag) {xs : List A} (ok : A.oks F S xs) (nd : (A.fps xs).Nodup) : Good F S (xs.map .v) [] := by
  refine ⟨g.fs, fun z h => ?_, ?_, fun z h => ?_⟩
  · obtain ⟨x, hx, rfl⟩ := List.mem_map.mp (by simpa using h)
    exact (oks_iff xs).mp ok x hx
  · rw [List.append_nil, v_fp]; exact nd
  · obtain ⟨x, hx, rfl⟩ := List.mem_map.mp (by simpa using h)
    trivial
theorem call_sim {f : GL.MF} {fn : MF} (hf : SimFn f fn) (g : Good F S as ag) (nd : (fpS (as ++ ag) ++ x0).Nodup) (lt : ∀ n ∈ x0, n < S.length) {xs : List A} (ok : A.oks F S xs) (ndx : (A.fps xs).Nodup) (sub : ∀ n ∈ A.fps xs, n ∈ x0) :
    SimO true RE F S as ag x0 (fun _ => f (A.pvs xs) S) (callD fn ((A.ers xs).map .v) (erS as) (erS ag)) := by
  have h := hf F S (xs.map .v) [] ((A.ers xs).map .v) (A.pvs xs) (good_v g ok ndx) (v_list xs) (fun ad => v_gl _ _ ad xs)
  unfold callD
  simp only [List.map_nil] at h
  cases hp : fn ((A.ers xs).map .v) [] with
  | bad => trivial
  | exc e ios =>
    rw [hp] at h
    obtain ⟨F', S', hs', x, _, rfl, a3, xok, sv⟩ := h
    refine ⟨F', S', as, ag, x, rfl, rfl, rfl, fun _ => a3, xok, ?_⟩
    exact ev_same g nd sv.mono sv.good.fs sv.len (fun n hn hx => sv.keep n hn (by rw [List.append_nil, List.append_nil, v_fp]; exact fun h => hx (sub n h))) List.nodup_nil (fun n h => by cases h) (fun n h => by cases h)
  | ok d ios =>
    rw [hp] at h
    obtain ⟨F', S', hs', a, _, rfl, a3, aok, sv⟩ := h
    refine ⟨F', S', as, ag, .v a, a.pv, rfl, rfl, rfl, fun _ => a3, rfl, aok, ?_⟩
    refine ev_same g nd sv.mono sv.good.fs sv.len (fun n hn hx => sv.keep n hn (by rw [List.append_nil, List.append_nil, v_fp]; exact fun h => hx (sub n h))) ((List.nodup_append.mp sv.nd).2.1) (fun n h => ?_) sv.lt
    rcases sv.new n (List.mem_append_right _ h) with u | u
    · rw [List.append_nil, List.append_nil, v_fp] at u
      exact .inl (sub n u)
    · exact .inr u
def eCall (fn : MF) (dws : List PV) (args : PA) : PE := fun ls gh => (args ls gh).bind fun xs ls gh => match cvL true xs ls gh with
  | some (ds, ls, gh) => callD fn ((ds ++ dOfs dws).map .v) ls gh
  | none => .bad
section
variable {q : Bool} {mr : AD → GL.MA} {pr : PA} {f : GL.MF} {fn : MF} {dws : List PV}
theorem call_args (hf : SimFn f fn) (hd : rigs dws = true) (g : Good F S as ag) {cs : List ARV} {ws : List PV} (nd : (fpS (as ++ ag) ++ RA.fp cs).Nodup) (lt : ∀ n ∈ RA.fp cs, n < S.length) (h1 : RA.pv as ag cs = some ws) (h2 : RA.ok F S cs) :
    SimO true RE F S as ag (RA.fp cs) (fun _ => f (ws ++ dws) S) (match cvL true (cs.map ARV.er) (erS as) (erS ag) with
      | some (ds, ls, gh) => callD fn ((ds ++ dOfs dws).map .v) ls gh
      | none => .bad) := by
  cases hc : cvL true (cs.map ARV.er) (erS as) (erS ag) with
  | none => trivial
  | some t =>
    obtain ⟨ds, l2, g2⟩ := t
    obtain ⟨F2, as2, ag2, xs, rfl, rfl, rfl, rfl, xok, xfp, ev⟩ := cvL_sim g nd lt h1 h2 hc
    refine SimO.pre ev ?_
    have e1 : A.ers xs ++ dOfs dws = A.ers (xs ++ aOfs dws) := by rw [ers_app, aOfs_er]
    have e2 : A.pvs xs ++ dws = A.pvs (xs ++ aOfs dws) := by rw [pvs_app, aOfs_pv hd]
    have e3 : A.fps (xs ++ aOfs dws) = A.fps xs := by rw [fps_app, (aOfs_fp (F := F) (S := S) dws).1, List.append_nil]
    dsimp only
    rw [e1, e2]
    exact call_sim hf ev.good ev.nd ev.lt (oks_app xok (aOfs_fp dws).2) (by rw [e3]; exact (List.nodup_append.mp ev.nd).2.1) (by rw [e3]; exact fun n h => h)
theorem sim_call (hf : SimFn f fn) (hd : rigs dws = true) (h : SimA q mr pr) : SimE q (fun ad => GL.eCall f dws (mr ad)) (eCall fn dws pr) := fun F S as ag gd =>
  SimO.weak (sim_first (R' := RE) (q' := true) (k := fun xs ls gh => match cvL true xs ls gh with
  | some (ds, ls, gh) => callD fn ((ds ++ dOfs dws).map .v) ls gh
  | none => .bad) (f := fun ad ws S1 => f (ws ++ dws) S1) h gd (fun _ => rfl) fun F1 S1 as1 ag1 cs ws h1 h2 g1 n1 l1 L1 => call_args hf hd g1 n1 l1 h1 h2) (by simp)
def isIns (C m : Nm) : D → Bool
  | .nd _ (.ins D ns) _ => decide (D = C) && (idxN m ns).isNone
  | _ => false
def eMeth (C m : Nm) (fn : MF) (dws : List PV) (o : PE) (args : PA) : PE := fun ls gh => (o ls gh).bind fun x ls gh => match val x ls gh with
  | some d => if isIns C m d = true then (args ls gh).bind fun xs ls gh => (match cvL true (x :: xs) ls gh with
    | some (ds, ls, gh) => callD fn ((ds ++ dOfs dws).map .v) ls gh
    | none => .bad) else .bad
  | none => .bad
def gMeth (C m : Nm) (ad : AD) (f : GL.MF) (dws : List PV) (mr : AD → GL.MA) (L : GL.Ls) (w : PV) (S1 : Sto) : GL.Out PV := match GL.insAt S1 w with
  | some (_, D, fs) => if D = C then (match GL.lookN m fs with
    | none => (mr ad L S1).bind fun ws S2 => f (w :: (ws ++ dws)) S2
    | some _ => .bad) else .bad
  | none => .bad
theorem isIns_gl {C m : Nm} {a : A} (fs : FS F S) (ok : a.ok F S) (h : isIns C m a.er = true) : ∃ n fs', GL.insAt S a.pv = some (n, C, fs') ∧ GL.lookN m fs' = none := by
  cases a with
  | sc s => cases h
  | tup xs => cases h
  | nd k n hd xs =>
    cases hd with
    | ins D ns =>
      obtain ⟨h1, h2⟩ := Bool.and_eq_true_iff.mp (show (decide (D = C) && (idxN m ns).isNone) = true from h)
      have e := of_decide_eq_true h1
      subst e
      have ob := obj_of fs ok
      have hw : ns.length = xs.length := by simpa [Hd.wf] using wf_of ok
      refine ⟨n, ns.zip (A.pvs xs), ?_, ?_⟩
      · have ob := AtU.ins ob
        simp only [GL.insAt, A.pv, ob, mkO]
      · rw [lookN_zip ns _ (by rw [pvs_len]; exact hw), Option.isNone_iff_eq_none.mp h2]; rfl
    | _ => cases h
def makeD (fn : MF) (C : Nm) (ds : List D) (ls gh : Ls) : Out RV := match fn (.al (.g 0) [] :: ds.map .v) [.nd .ow (.ins C []) []] with
  | .ok (.sc .non) [d] => .ok (.v d) ls gh
  | .exc e [_] => .exc e ls gh
  | _ => .bad
theorem make_sim {C : Nm} (hf : SimFn f fn) (g : Good F S as ag) (nd : (fpS (as ++ ag) ++ x0).Nodup) (lt : ∀ n ∈ x0, n < S.length) {xs : List A} (ok : A.oks F S xs) (ndx : (A.fps xs).Nodup) (sub : ∀ n ∈ A.fps xs, n ∈ x0) :
    SimO true RE F S as ag x0 (fun _ => (f (.loc S.length :: A.pvs xs) (S ++ [.ins C []])).bind fun r S2 => match r with
      | .non => .ok (.loc S.length) S2
      | _ => .bad) (makeD fn C (A.ers xs) (erS as) (erS ag)) := by
  have lx : ∀ n ∈ A.fps xs, n < S.length := fun n hn => lt n (sub n hn)
  have hF : F S.length = none := by
    cases hf : F S.length with
    | none => rfl
    | some z =>
      obtain ⟨b, o⟩ := z
      have := (g.fs _ _ _ hf).lt
      omega
  have gr : ∀ n, n < S.length → (S ++ [OB.ins C []])[n]? = S[n]? := fun n hn => List.getElem?_append_left hn
  have fs : FS F (S ++ [OB.ins C []]) := fun n b o e => by
    have := g.fs n b o e
    exact this.to (gr n this.lt)
  have ok' : A.oks F (S ++ [OB.ins C []]) xs := by
    rw [oks_iff] at ok ⊢
    exact fun x hx => ok_frame Mono.refl (fun n hn => ⟨rfl, gr n (lx n (by rw [fps_map]; exact List.mem_flatMap.mpr ⟨x, hx, hn⟩))⟩) (ok x hx)
  have nok : (A.nd .ow S.length (.ins C []) []).ok F (S ++ [OB.ins C []]) := by
    simp only [A.ok]
    exact ⟨⟨hF, by rw [List.getElem?_append_right (Nat.le_refl _)]; simp [mkO]⟩, rfl, trivial⟩
  let cs : List AV := .al (.g 0) [] :: xs.map .v
  let hs : List A := [.nd .ow S.length (.ins C []) []]
  have fpc : fpS (cs ++ hs.map .io) = A.fps xs ++ [S.length] := by
    show fpS ((.al (.g 0) [] :: xs.map .v) ++ [.io (.nd .ow S.length (.ins C []) [])]) = _
    rw [fpS_app, fpS_cons, v_fp]
    simp [AV.fp, fpS, A.fp, A.fps]
  have gc : Good F (S ++ [OB.ins C []]) cs (hs.map .io) := by
    refine ⟨fs, fun z h => ?_, ?_, fun z h => ?_⟩
    · rcases List.mem_append.mp h with h | h
      · rcases List.mem_cons.mp h with rfl | h
        · trivial
        · obtain ⟨x, hx, rfl⟩ := List.mem_map.mp h
          exact (oks_iff xs).mp ok' x hx
      · obtain ⟨x, hx, rfl⟩ := List.mem_map.mp h
        rw [List.mem_singleton.mp hx]
        exact nok
    · rw [fpc]
      refine List.nodup_append.mpr ⟨ndx, by simp, fun n h m h' e => ?_⟩
      rw [List.mem_singleton.mp h'] at e
      have := lx n h
      omega
    · rcases List.mem_append.mp h with h | h
      · rcases List.mem_cons.mp h with rfl | h
        · rfl
        · obtain ⟨x, hx, rfl⟩ := List.mem_map.mp h
          trivial
      · obtain ⟨x, hx, rfl⟩ := List.mem_map.mp h
        trivial
  have h := hf F (S ++ [OB.ins C []]) cs hs (.al (.g 0) [] :: (A.ers xs).map .v) (.loc S.length :: A.pvs xs) gc (by
      show AV.er _ :: erS (xs.map .v) = _
      rw [v_list]; rfl) (fun ad => by
      show glv _ _ ad (.al (.g 0) []) :: glS _ _ ad (xs.map .v) = _
      rw [v_gl]; rfl)
  have hs_er : hs.map A.er = [D.nd .ow (.ins C []) []] := rfl
  rw [hs_er] at h
  unfold makeD
  have lift : ∀ {F' : FM} {S' : Sto} {hs' : List A} {x y : List Nat}, Sv F (S ++ [OB.ins C []]) cs (hs.map .io) [] F' S' [] (hs'.map .io) x → y.Nodup → (∀ n ∈ y, n ∈ fpS ([] ++ hs'.map .io) ++ x) → (∀ n ∈ y, n < S'.length) → Ev true F S as ag x0 F' S' as ag y := fun {F' S' hs' x y} sv ndy sy ly => by
    refine ev_same g nd sv.mono sv.good.fs (Nat.le_trans (by simp) sv.len) (fun n hn hx => ?_) ndy (fun n h => ?_) ly
    · have := sv.keep n (by rw [List.length_append]; omega) (by
        rw [List.append_nil, fpc]
        intro hq
        rcases List.mem_append.mp hq with u | u
        · exact hx (sub n u)
        · rw [List.mem_singleton.mp u] at hn; omega)
      rw [gr n hn] at this
      exact this
    · rcases sv.new n (sy n h) with u | u
      · rw [List.append_nil, fpc] at u
        rcases List.mem_append.mp u with u | u
        · exact .inl (sub n u)
        · rw [List.mem_singleton.mp u]; exact .inr (Nat.le_refl _)
      · rw [List.length_append] at u; exact .inr (by omega)
  split
  · rename_i d hp
    rw [hp] at h
    obtain ⟨F', S', hs', a, e1, e2, a3, aok, sv⟩ := h
    have hs1 : ∃ b, hs' = [b] ∧ b.er = d := by
      cases hs' with
      | nil => cases e1
      | cons b r =>
        cases r with
        | nil => simp at e1; exact ⟨b, rfl, e1⟩
        | cons _ _ => cases e1
    obtain ⟨b, rfl, rfl⟩ := hs1
    have ha : a = .sc .non := er_sc e2
    subst ha
    have hb : b.pv = .loc S.length := by
      have := sv.gg (0, 0)
      have h1 : some b.pv = some (PV.loc S.length) := by
        have := congrArg (fun l : List (Option PV) => l.head?) this
        simpa [glS, glv, A.pv, hs] using this
      exact Option.some.inj h1
    have bok : b.ok F' S' := sv.good.ok (.io b) (by simp)
    refine ⟨F', S', as, ag, .v b, .loc S.length, rfl, rfl, rfl, fun _ => ?_, by show some b.pv = _; rw [hb], bok, ?_⟩
    · show (f (.loc S.length :: A.pvs xs) (S ++ [.ins C []])).bind _ = _
      rw [a3]; rfl
    · show Ev true F S as ag x0 F' S' as ag b.fp
      have fpb : fpS ([] ++ [AV.io b]) = b.fp := by simp [fpS, AV.fp]
      refine lift sv ?_ (fun n h => ?_) (fun n h => fp_lt sv.good.fs bok n h)
      · have := sv.good.nd
        rw [show ([b].map AV.io) = [AV.io b] from rfl, fpb] at this; exact this
      · rw [show ([b].map AV.io) = [AV.io b] from rfl, fpb]; exact List.mem_append_left _ h
  · rename_i e d hp
    rw [hp] at h
    obtain ⟨F', S', hs', x, e1, rfl, a3, xok, sv⟩ := h
    refine ⟨F', S', as, ag, x, rfl, rfl, rfl, fun _ => ?_, xok, lift sv List.nodup_nil (fun n h => by cases h) (fun n h => by cases h)⟩
    show (f (.loc S.length :: A.pvs xs) (S ++ [.ins C []])).bind _ = _
    rw [a3]; rfl
  · trivial
def eMake (C : Nm) (fn : MF) (dws : List PV) (args : PA) : PE := fun ls gh => (args ls gh).bind fun xs ls gh => match cvL true xs ls gh with
  | some (ds, ls, gh) => makeD fn C (ds ++ dOfs dws) ls gh
  | none => .bad
theorem sim_make {C : Nm} (hf : SimFn f fn) (hd : rigs dws = true) (h : SimA q mr pr) : SimE q (fun ad => GL.eMake C f dws (mr ad)) (eMake C fn dws pr) := fun F S as ag gd =>
  SimO.weak (sim_first (R' := RE) (q' := true) (k := fun xs ls gh => match cvL true xs ls gh with
  | some (ds, ls, gh) => makeD fn C (ds ++ dOfs dws) ls gh
  | none => .bad) (f := fun ad ws S1 => (f (.loc S1.length :: (ws ++ dws)) (S1 ++ [.ins C []])).bind fun r S2 => match r with
    | .non => .ok (.loc S1.length) S2
    | _ => .bad) h gd (fun _ => rfl) fun F1 S1 as1 ag1 cs ws h1 h2 g1 n1 l1 L1 => by
    cases hc : cvL true (RA.er cs) (erS as1) (erS ag1) with
    | none => simp only [hc]; trivial
    | some t =>
      obtain ⟨ds, l2, g2⟩ := t
      obtain ⟨F2, as2, ag2, xs, rfl, rfl, rfl, rfl, xok, xfp, ev⟩ := cvL_sim g1 n1 l1 h1 h2 hc
      simp only [hc]
      refine SimO.pre ev ?_
      have e1 : A.ers xs ++ dOfs dws = A.ers (xs ++ aOfs dws) := by rw [ers_app, aOfs_er]
      have e2 : A.pvs xs ++ dws = A.pvs (xs ++ aOfs dws) := by rw [pvs_app, aOfs_pv hd]
      have e3 : A.fps (xs ++ aOfs dws) = A.fps xs := by rw [fps_app, (aOfs_fp (F := F) (S := S) dws).1, List.append_nil]
      rw [e1, e2]
      exact make_sim hf ev.good ev.nd ev.lt (oks_app xok (aOfs_fp dws).2) (by rw [e3]; exact (List.nodup_append.mp ev.nd).2.1) (by rw [e3]; exact fun n h => h)) (by simp)
end
end VL
set_option Elab.async false
set_option linter.all false
set_option maxRecDepth 100000
set_option maxHeartbeats 1000000
namespace VL
open GL (PV OB Sto Nm BT lim)
open PySem (PyData Builtin)
variable {F F' F'' : FM} {S S' S'' : Sto} {as as' as'' ag ag' ag'' : List AV} {x0 x1 x2 : List Nat}
abbrev MG := RV → Ls → Ls → Option (Ls × Ls)
abbrev MGs := List D → Ls → Ls → Option (Ls × Ls)
def gN (i : Nat) : MG := setL i
def gsNil : MGs := fun ds ls gh => match ds with
  | [] => some (ls, gh)
  | _ => none
def gsCons (g : MG) (r : MGs) : MGs := fun ds ls gh => match ds with
  | d :: t => (match g (.v d) ls gh with
    | some z => r t z.1 z.2
    | none => none)
  | [] => none
def gT (r : MGs) : MG := fun x ls gh => match x with
  | .v (.tup ds) => r ds ls gh
  | _ => none
def Apart (vs : List Nat) (as ag as' ag' : List AV) : Prop := (∀ ad j, j ∉ vs → (glS as' ag' ad as')[j]? = (glS as ag ad as)[j]?) ∧ (∀ r, (∀ v ∈ vs, r ≠ .l v) → rootA as' ag' r = rootA as ag r) ∧ as'.length = as.length
theorem Apart.refl {vs : List Nat} : Apart vs as ag as ag := ⟨fun _ _ _ => rfl, fun _ _ => rfl, rfl⟩
theorem Apart.trans {vs : List Nat} (a : Apart vs as ag as' ag') (b : Apart vs as' ag' as'' ag'') : Apart vs as ag as'' ag'' := ⟨fun ad j h => (b.1 ad j h).trans (a.1 ad j h), fun r h => (b.2.1 r h).trans (a.2.1 r h), b.2.2.trans a.2.2⟩
def SimGt (vs : List Nat) (gg : GL.MG) (g : MG) : Prop := ∀ (F : FM) (S : Sto) (as ag : List AV) (c : ARV) (w : PV) (ls' gh' : Ls), Good F S as ag → (fpS (as ++ ag) ++ c.fp).Nodup → (∀ n ∈ c.fp, n < S.length) → c.pv as ag = some w → c.ok F S → g c.er (erS as) (erS ag) = some (ls', gh') →
  ∃ as' ag', erS as' = ls' ∧ erS ag' = gh' ∧ (∀ ad, gg w (glS as ag ad as) = some (glS as' ag' ad as')) ∧ Apart vs as ag as' ag' ∧ Sv F S as ag c.fp F S as' ag' []
def SimGs (vs : List Nat) (gg : GL.MGs) (g : MGs) : Prop := ∀ (F : FM) (S : Sto) (as ag : List AV) (ks : List A) (ls' gh' : Ls), Good F S as ag → A.fps ks = [] → A.oks F S ks → g (A.ers ks) (erS as) (erS ag) = some (ls', gh') →
  ∃ as' ag', erS as' = ls' ∧ erS ag' = gh' ∧ (∀ ad, gg (A.pvs ks) (glS as ag ad as) = some (glS as' ag' ad as')) ∧ Apart vs as ag as' ag' ∧ Sv F S as ag [] F S as' ag' []
theorem sim_gN {vs : List Nat} {i : Nat} (h : i ∈ vs) : SimGt vs (GL.gN i) (gN i) := by
  intro F S as ag c w ls' gh' g nd lt hp hk e
  obtain ⟨as', ag', e1, e2, e3, e4, sv⟩ := setL_sim g nd lt hp hk e
  refine ⟨as', ag', e1, e2, fun ad => by rw [e3]; rfl, ⟨fun ad j hj => ?_, fun r hr => e4 r (hr i h), by have := congrArg List.length (e3 (0, 0)); simpa [glS] using this⟩, sv⟩
  rw [e3, List.getElem?_set_ne]
  exact fun q => hj (q ▸ h)
theorem sim_gsnil {vs : List Nat} : SimGs vs GL.gsNil gsNil := by
  intro F S as ag ks ls' gh' g _ _ e
  cases ks with
  | nil => cases e; exact ⟨as, ag, rfl, rfl, fun _ => rfl, .refl, Sv.refl g⟩
  | cons _ _ => cases e
theorem sim_gscons {vs : List Nat} {gg : GL.MG} {g : MG} {gr : GL.MGs} {r : MGs} (hg : SimGt vs gg g) (hr : SimGs vs gr r) : SimGs vs (GL.gsCons gg gr) (gsCons g r) := by
  intro F S as ag ks ls' gh' gd fk ok e
  cases ks with
  | nil => cases e
  | cons k t =>
    have e : (match g (.v k.er) (erS as) (erS ag) with
      | some z => r (A.ers t) z.1 z.2
      | none => none) = some (ls', gh') := e
    have fk : k.fp ++ A.fps t = [] := fk
    obtain ⟨f1, f2⟩ := List.append_eq_nil_iff.mp fk
    cases hc : g (.v k.er) (erS as) (erS ag) with
    | none => rw [hc] at e; cases e
    | some z =>
      rw [hc] at e
      have ef : (ARV.v k).fp = [] := f1
      obtain ⟨as1, ag1, a1, a2, a3, a4, a5⟩ := hg F S as ag (.v k) k.pv z.1 z.2 gd (by rw [ef, List.append_nil]; exact gd.nd) (by rw [ef]; intro n h; cases h) rfl ok.1 hc
      dsimp only at e
      rw [← a1, ← a2] at e
      obtain ⟨as2, ag2, b1, b2, b3, b4, b5⟩ := hr F S as1 ag1 t ls' gh' a5.good f2 ok.2 e
      rw [ef] at a5
      refine ⟨as2, ag2, b1, b2, fun ad => ?_, a4.trans b4, a5.trans b5⟩
      show (match gg k.pv (glS as ag ad as) with | some ls1 => gr (A.pvs t) ls1 | none => none) = _
      rw [a3]; exact b3 ad
theorem sim_gT {vs : List Nat} {gr : GL.MGs} {r : MGs} (hr : SimGs vs gr r) : SimGt vs (GL.gT gr) (gT r) := by
  intro F S as ag c w ls' gh' g nd lt hp hk e
  unfold gT at e
  split at e
  · rename_i ds hc
    obtain ⟨a, rfl, ea, rfl⟩ := er_v hc hp
    obtain ⟨ks, rfl, rfl⟩ := er_tup ea
    have h : A.fps ks = [] ∧ A.oks F S ks := hk
    obtain ⟨as', ag', e1, e2, e3, e4, sv⟩ := hr F S as ag ks ls' gh' g h.1 h.2 e
    have ef : (ARV.v (.tup ks)).fp = [] := h.1
    rw [ef]
    exact ⟨as', ag', e1, e2, fun ad => e3 ad, e4, sv⟩
  · cases e
def sAsg (g : MG) (m : PE) : MS := fun ls gh => (m ls gh).then fun x ls gh => match g x ls gh with
  | some z => .nx z.1 z.2
  | none => .bad
def kAsg (gg : GL.MG) (L : GL.Ls) (w : PV) (S1 : Sto) : GL.SOut := match gg w L with
  | some ls1 => .nx ls1 S1
  | none => .bad
theorem sim_asg {vs : List Nat} {gg : GL.MG} {g : MG} {q : Bool} {ma : AD → GL.ME} {pa : PE} (hg : SimGt vs gg g) (h : SimE q ma pa) : SimS (fun ad => GL.sAsg gg (ma ad)) (sAsg g pa) := fun F S as ag gd =>
  sim_then (R := RE) (f := fun ad w S1 => kAsg gg (glS as ag ad as) w S1) (k := fun x ls gh => match g x ls gh with
  | some z => .nx z.1 z.2
  | none => .bad) h gd (fun _ => rfl) fun F1 S1 as1 ag1 c w h1 h2 g1 n1 l1 L1 => by
    cases hs : g (RE.er c) (erS as1) (erS ag1) with
    | none => simp only [hs]; trivial
    | some z =>
      obtain ⟨as2, ag2, e1, e2, e3, _, sv⟩ := hg F1 S1 as1 ag1 c w z.1 z.2 g1 n1 l1 h1 h2 hs
      simp only [hs]
      exact ⟨F1, S1, as2, ag2, e1, e2, fun ad => by show kAsg gg (glS as ag ad as) w S1 = _; unfold kAsg; rw [L1, e3], sv⟩
def RI : RT GL.Wk (List D) (List A × (Nat → Sto → Bool)) := ⟨fun c => A.ers c.1, fun _ _ c => some ⟨A.pvs c.1, c.2⟩, fun F S c => A.fps c.1 = [] ∧ A.oks F S c.1 ∧ ∀ F' S' j, Mono F F' → FS F' S' → c.2 j S' = true, fun _ => []⟩
abbrev PI := PX (List D)
abbrev SimI (q : Bool) (m : AD → GL.MI) (p : PI) : Prop := SimX q RI m p
mutual
theorem beq_self : ∀ w : PV, PV.beq w w = true
  | .tup xs => by rw [PV.beq]; exact beqs_self xs
  | .xn a b c d e => by simp [PV.beq, beqs_self e]
  | .non => rfl
  | .bl b => by simp [PV.beq]
  | .int _ => by simp [PV.beq]
  | .str _ => by simp [PV.beq]
  | .loc _ => by simp [PV.beq]
  | .gl _ => by simp [PV.beq]
  | .ty _ => by simp [PV.beq]
theorem beqs_self : ∀ w : List PV, PV.beqs w w = true
  | [] => rfl
  | x :: r => by simp [PV.beqs, beq_self x, beqs_self r]
end
def frzSeq (x : RV) (ls gh : Ls) : Option ((Kd × List D) × Ls × Ls) := match cvR false x ls gh with
  | some (d, ls, gh) => (seqD d).map fun k => (k, ls, gh)
  | none => none
def FzG (F : FM) : Kd → PV → List PV → Prop
  | .tup, w, ws => w = .tup ws
  | .lst, w, ws => ∃ n, w = .loc n ∧ F n = some (true, .lst ws)
  | .rol, w, ws => ∃ n, w = .loc n ∧ F n = some (true, .rol ws)
theorem frzSeq_sim {c : ARV} {w : PV} {k : Kd} {ds : List D} {ls' gh' : Ls} (g : Good F S as ag) (nd : (fpS (as ++ ag) ++ c.fp).Nodup) (lt : ∀ n ∈ c.fp, n < S.length) (hp : c.pv as ag = some w) (hk : c.ok F S) (h : frzSeq c.er (erS as) (erS ag) = some ((k, ds), ls', gh')) :
    ∃ (F' : FM) (as' ag' : List AV) (ks : List A), erS as' = ls' ∧ erS ag' = gh' ∧ A.ers ks = ds ∧ A.fps ks = [] ∧ A.oks F' S ks ∧ Ev true F S as ag c.fp F' S as' ag' [] ∧
      FzG F' k w (A.pvs ks) := by
  unfold frzSeq at h
  cases hc : cvR false c.er (erS as) (erS ag) with
  | none => rw [hc] at h; cases h
  | some t =>
    obtain ⟨d, l2, g2⟩ := t
    rw [hc] at h
    obtain ⟨F', as', ag', a, rfl, rfl, rfl, rfl, aok, afp, ev⟩ := cv_sim0 (k := false) g nd lt hp hk hc
    simp only [Option.map_eq_some_iff, Prod.mk.injEq] at h
    obtain ⟨z, hz, rfl, rfl, rfl⟩ := h
    have fz := afp rfl
    rw [fz] at ev
    cases a with
    | sc s => simp [A.er, seqD] at hz
    | tup xs =>
      simp only [A.er, seqD, Option.some.injEq, Prod.mk.injEq] at hz
      obtain ⟨rfl, rfl⟩ := hz
      have aok : A.fps xs = [] ∧ A.oks F' S xs := aok
      exact ⟨F', as', ag', xs, rfl, rfl, rfl, aok.1, aok.2, ev, rfl⟩
    | nd fl n hd xs =>
      cases fl with
      | ow => simp [A.fp] at fz
      | lk => simp [A.fp] at fz
      | fz =>
        simp only [A.ok] at aok
        cases hd with
        | lst =>
          simp only [A.er, seqD, Option.some.injEq, Prod.mk.injEq] at hz
          obtain ⟨rfl, rfl⟩ := hz
          exact ⟨F', as', ag', xs, rfl, rfl, rfl, aok.2.2.1, aok.2.2.2, ev, n, rfl, aok.1⟩
        | rol =>
          simp only [A.er, seqD, Option.some.injEq, Prod.mk.injEq] at hz
          obtain ⟨rfl, rfl⟩ := hz
          exact ⟨F', as', ag', xs, rfl, rfl, rfl, aok.2.2.1, aok.2.2.2, ev, n, rfl, aok.1⟩
        | dct ks => simp [A.er, seqD] at hz
        | dcn ks => simp [A.er, seqD] at hz
        | ptp => simp [A.er, seqD] at hz
        | ins C ns => simp [A.er, seqD] at hz
def kSeq (f : Kd → List D → Option (List D)) (x : RV) (ls gh : Ls) : Out (List D) := match frzSeq x ls gh with
  | some ((k, xs), ls, gh) => (match f k xs with
    | some ys => .ok ys ls gh
    | none => .bad)
  | none => .bad
def iSeq (m : PE) : PI := fun ls gh => (m ls gh).bind fun x ls gh => kSeq (fun _ xs => some xs) x ls gh
theorem fz_lst {n : Nat} {xs : List PV} (h : F n = some (true, .lst xs)) (j : Nat) : ∀ F' S', Mono F F' → FS F' S' → GL.isLst n xs j S' = true := fun F' S' m fs => by
  unfold GL.isLst
  rw [(fs _ _ _ (m _ _ _ h)).lst]; exact beqs_self xs
def gSeqI (w : PV) (S1 : Sto) : GL.Out GL.Wk := match w with
  | .tup xs => .ok ⟨xs, GL.always⟩ S1
  | .loc n => (match S1[n]? with
    | some (.lst xs) => .ok ⟨xs, GL.isLst n xs⟩ S1
    | some (.rol xs) => .ok ⟨xs, GL.always⟩ S1
    | _ => .bad)
  | _ => .bad
theorem sim_okI {q : Bool} (ev : Ev true F S as ag x0 F' S' as' ag' []) {ks : List A} {chk : Nat → Sto → Bool} {ds : List D} {ls gh : Ls} {o : AD → GL.Out GL.Wk} (ho : ∀ ad, o ad = .ok ⟨A.pvs ks, chk⟩ S') (e0 : A.ers ks = ds) (e1 : erS as' = ls) (e2 : erS ag' = gh) (fk : A.fps ks = []) (ok : A.oks F' S' ks) (hc : ∀ F'' S'' j, Mono F' F'' → FS F'' S'' → chk j S'' = true) :
    SimO q RI F S as ag x0 o (.ok ds ls gh) :=
  ⟨F', S', as', ag', (ks, chk), ⟨A.pvs ks, chk⟩, e1, e2, e0, ho, rfl, ⟨fk, ok, hc⟩, ev.weak fun _ => rfl⟩
section
variable {qa qb : Bool} {ma mb : AD → GL.ME} {pa pb : PE}
theorem sim_iseq (h : SimE qa ma pa) : SimI qa (fun ad => GL.iSeq (ma ad)) (iSeq pa) := fun F S as ag gd =>
  SimO.weak (sim_first (R' := RI) (q' := true) (k := fun x ls gh => kSeq (fun _ xs => some xs) x ls gh) (f := fun ad w S1 => gSeqI w S1) h gd (fun _ => rfl) fun F1 S1 as1 ag1 c w h1 h2 g1 n1 l1 L1 => by
    show SimO _ _ _ _ _ _ _ _ (kSeq (fun _ xs => some xs) c.er (erS as1) (erS ag1))
    unfold kSeq
    cases hc : frzSeq c.er (erS as1) (erS ag1) with
    | none => trivial
    | some t =>
      obtain ⟨⟨k, ds⟩, l2, g2⟩ := t
      obtain ⟨F2, as2, ag2, ks, e1, e2, e0, fk, ok, ev, hw⟩ := frzSeq_sim g1 n1 l1 h1 h2 hc
      cases k with
      | tup =>
        have hw : w = .tup (A.pvs ks) := hw
        subst hw
        exact sim_okI ev (ks := ks) (chk := GL.always) (fun _ => rfl) e0 e1 e2 fk ok (fun _ _ _ _ _ => rfl)
      | lst =>
        obtain ⟨n, rfl, hF⟩ := hw
        exact sim_okI ev (ks := ks) (chk := GL.isLst n (A.pvs ks)) (fun _ => by simp only [gSeqI, (ev.good.fs _ _ _ hF).lst]) e0 e1 e2 fk ok (fun F'' S'' j m fs => fz_lst hF j F'' S'' m fs)
      | rol =>
        obtain ⟨n, rfl, hF⟩ := hw
        exact sim_okI ev (ks := ks) (chk := GL.always) (fun _ => by simp only [gSeqI, (ev.good.fs _ _ _ hF).rol]) e0 e1 e2 fk ok (fun _ _ _ _ _ => rfl)) (by simp)
def rngD (lo hi : Int) : List D := (List.range (hi - lo).toNat).map fun (i : Nat) => D.int (lo + (i : Nat))
def rngI (lo hi : Int) : List Int := (List.range (hi - lo).toNat).map fun (i : Nat) => lo + (i : Nat)
theorem rng_er (lo hi : Int) : A.ers (aInts (rngI lo hi)) = rngD lo hi := by rw [aInts_er]; unfold rngI rngD; rw [List.map_map]; rfl
theorem rng_pv (lo hi : Int) : A.pvs (aInts (rngI lo hi)) = GL.rngL lo hi := by rw [aInts_pv]; unfold rngI GL.rngL; rw [List.map_map]; rfl
def k1R (x : RV) (ls gh : Ls) : Out (List D) := match x with
  | .v (.sc (.int j)) => if (decide (-GL.med ≤ j) && decide (j < GL.med)) = true then .ok (rngD 0 j) ls gh else .bad
  | _ => .bad
def iR1 (m : PE) : PI := fun ls gh => (m ls gh).bind fun x ls gh => k1R x ls gh
def g1R (w : PV) (S1 : Sto) : GL.Out GL.Wk := match w with
  | .int j => if (decide (-GL.med ≤ j) && decide (j < GL.med)) = true then .ok ⟨GL.rngL 0 j, GL.always⟩ S1 else .bad
  | _ => .bad
theorem sim_ir1 (h : SimE qa ma pa) : SimI qa (fun ad => GL.iR1 (ma ad)) (iR1 pa) := fun F S as ag gd =>
  SimO.weak (sim_first (R' := RI) (q' := true) (k := fun x ls gh => k1R x ls gh) (f := fun ad w S1 => g1R w S1) h gd (fun _ => rfl) fun F1 S1 as1 ag1 c w h1 h2 g1 n1 l1 L1 => by
    show SimO _ _ _ _ _ _ _ _ (k1R c.er (erS as1) (erS ag1))
    unfold k1R
    split
    · rename_i j e
      rw [er_vsc e h1]
      by_cases hl : (decide (-GL.med ≤ j) && decide (j < GL.med)) = true
      · rw [if_pos hl]
        refine sim_okI ((Ev.refl g1 n1 l1).sub (List.nil_sublist _)) (ks := aInts (rngI 0 j)) (chk := GL.always) (fun _ => ?_) (rng_er 0 j) rfl rfl (aInts_fp _) (aInts_ok _) (fun _ _ _ _ _ => rfl)
        simp only [g1R, Sc.pv, if_pos hl, rng_pv]
      · rw [if_neg hl]; trivial
    · trivial) (by simp)
end
def forV (g : MG) (body : MS) : List D → MS
  | [], ls, gh => .nx ls gh
  | d :: r, ls, gh => match g (.v d) ls gh with
    | none => .bad
    | some z => (match body z.1 z.2 with
      | .nx ls2 gh2 => forV g body r ls2 gh2
      | .ct ls2 gh2 => forV g body r ls2 gh2
      | .bk ls2 gh2 => .nx ls2 gh2
      | q => q)
theorem forV_sim {vs : List Nat} {gg : GL.MG} {g : MG} {mb : AD → GL.MS} {pb : MS} {chk : Nat → Sto → Bool} (hg : SimGt vs gg g) (hb : SimS mb pb) : ∀ (ks : List A) (i : Nat) (F : FM) (S : Sto) (as ag : List AV), Good F S as ag → A.fps ks = [] → A.oks F S ks → (∀ F' S' j, Mono F F' → FS F' S' → chk j S' = true) →
    SimSO F S as ag [] (fun ad => GL.forGo chk gg (mb ad) i (A.pvs ks) (glS as ag ad as) S) (forV g pb (A.ers ks) (erS as) (erS ag))
  | [], i, F, S, as, ag, gd, _, _, hc => by
    refine ⟨F, S, as, ag, rfl, rfl, fun ad => ?_, Sv.refl gd⟩
    show GL.forGo chk gg (mb ad) i [] _ S = _
    rw [GL.forGo, if_pos (hc F S i Mono.refl gd.fs)]
  | k :: t, i, F, S, as, ag, gd, fk, ok, hc => by
    have fk : k.fp ++ A.fps t = [] := fk
    obtain ⟨f1, f2⟩ := List.append_eq_nil_iff.mp fk
    have ef : (ARV.v k).fp = [] := f1
    show SimSO _ _ _ _ _ _ (match g (.v k.er) (erS as) (erS ag) with
    | none => .bad
    | some z => (match pb z.1 z.2 with
      | .nx ls2 gh2 => forV g pb (A.ers t) ls2 gh2
      | .ct ls2 gh2 => forV g pb (A.ers t) ls2 gh2
      | .bk ls2 gh2 => .nx ls2 gh2
      | q => q))
    cases hz : g (.v k.er) (erS as) (erS ag) with
    | none => trivial
    | some z =>
      obtain ⟨as1, ag1, a1, a2, a3, _, a5⟩ := hg F S as ag (.v k) k.pv z.1 z.2 gd (by rw [ef, List.append_nil]; exact gd.nd) (by rw [ef]; intro n h; cases h) rfl ok.1 hz
      rw [ef] at a5
      dsimp only
      rw [← a1, ← a2]
      have h2 := hb F S as1 ag1 a5.good
      have hgo : ∀ ad, GL.forGo chk gg (mb ad) i (A.pvs (k :: t)) (glS as ag ad as) S = (match mb ad (glS as1 ag1 ad as1) S with
        | .nx ls2 S2 => GL.forGo chk gg (mb ad) (i + 1) (A.pvs t) ls2 S2
        | .ct ls2 S2 => GL.forGo chk gg (mb ad) (i + 1) (A.pvs t) ls2 S2
        | .bk ls2 S2 => .nx ls2 S2
        | q => q) := fun ad => by
        show GL.forGo chk gg (mb ad) i (k.pv :: A.pvs t) _ S = _
        rw [GL.forGo, if_pos (hc F S i Mono.refl gd.fs), a3]
        all_goals (dsimp only; cases mb ad (glS as1 ag1 ad as1) S <;> rfl)
      refine SimSO.pre a5 ?_
      cases hp : pb (erS as1) (erS ag1) with
      | bad => trivial
      | nx ls gh =>
        rw [hp] at h2
        obtain ⟨F2, S2, as2, ag2, rfl, rfl, b3, sv⟩ := h2
        refine SimSO.pre sv ((forV_sim hg hb t (i + 1) F2 S2 as2 ag2 sv.good f2 (oks_mono sv.mono ok.2 f2) (fun F' S' j m fs => hc F' S' j (sv.mono.trans m) fs)).cg fun ad => ?_)
        rw [hgo]
        rw [show mb ad (glS as1 ag1 ad as1) S = _ from b3 ad]
      | ct ls gh =>
        rw [hp] at h2
        obtain ⟨F2, S2, as2, ag2, rfl, rfl, b3, sv⟩ := h2
        refine SimSO.pre sv ((forV_sim hg hb t (i + 1) F2 S2 as2 ag2 sv.good f2 (oks_mono sv.mono ok.2 f2) (fun F' S' j m fs => hc F' S' j (sv.mono.trans m) fs)).cg fun ad => ?_)
        rw [hgo]
        rw [show mb ad (glS as1 ag1 ad as1) S = _ from b3 ad]
      | bk ls gh =>
        rw [hp] at h2
        obtain ⟨F2, S2, as2, ag2, e1, e2, b3, sv⟩ := h2
        exact ⟨F2, S2, as2, ag2, e1, e2, fun ad => (hgo ad).trans (by rw [show mb ad (glS as1 ag1 ad as1) S = _ from b3 ad]), sv⟩
      | rt d gh =>
        rw [hp] at h2
        obtain ⟨F2, S2, ag2, a, e1, e2, b3, aok, sv⟩ := h2
        exact ⟨F2, S2, ag2, a, e1, e2, fun ad => (hgo ad).trans (by rw [show mb ad (glS as1 ag1 ad as1) S = _ from b3 ad]), aok, sv⟩
      | exc e ls gh =>
        rw [hp] at h2
        obtain ⟨F2, S2, as2, ag2, x, e1, e2, e3, b3, xok, sv⟩ := h2
        exact ⟨F2, S2, as2, ag2, x, e1, e2, e3, fun ad => (hgo ad).trans (by rw [show mb ad (glS as1 ag1 ad as1) S = _ from b3 ad]), xok, sv⟩
def sFor (it : PI) (g : MG) (body : MS) : MS := fun ls gh => (it ls gh).then fun ds ls gh => forV g body ds ls gh
theorem sim_for {vs : List Nat} {q : Bool} {mi : AD → GL.MI} {pi : PI} {gg : GL.MG} {g : MG} {mb : AD → GL.MS} {pb : MS} (hi : SimI q mi pi) (hg : SimGt vs gg g) (hb : SimS mb pb) : SimS (fun ad => GL.sFor (mi ad) gg (mb ad)) (sFor pi g pb) := fun F S as ag gd =>
  sim_then (R := RI) (f := fun ad t S1 => GL.forGo t.chk gg (mb ad) 0 t.items (glS as ag ad as) S1) (k := fun ds ls gh => forV g pb ds ls gh) hi gd (fun _ => rfl) fun F1 S1 as1 ag1 c w h1 h2 g1 n1 l1 L1 => by
    cases h1
    obtain ⟨fk, ok, hc⟩ := h2
    exact (forV_sim hg hb c.1 0 F1 S1 as1 ag1 g1 fk ok hc).cg fun ad => by show GL.forGo c.2 gg (mb ad) 0 (A.pvs c.1) (glS as ag ad as) S1 = _; rw [L1]
end VL
set_option Elab.async false
set_option linter.all false
set_option maxRecDepth 100000
set_option maxHeartbeats 1000000
namespace VL
open GL (PV OB Sto Nm BT lim)
open PySem (PyData Builtin)
variable {F F' F'' : FM} {S S' S'' : Sto} {as as' as'' ag ag' ag'' : List AV} {x0 x1 x2 : List Nat}
theorem RA_app {as ag : List AV} : ∀ {cs : List ARV} {c : ARV} {ws : List PV} {w : PV}, RA.pv as ag cs = some ws → c.pv as ag = some w → RA.pv as ag (cs ++ [c]) = some (ws ++ [w])
  | [], c, ws, w, h1, h2 => by cases h1; exact seqO_mk h2 rfl
  | d :: r, c, ws, w, h1, h2 => by
    obtain ⟨v, t, hv, ht, rfl⟩ := seqO_cons h1
    exact seqO_mk hv (RA_app (cs := r) ht h2)
theorem sim_thenN {ma : AD → GL.ME} {pa : PE} {f : AD → PV → Sto → GL.SOut} {k : RV → Ls → Ls → SOut} {L : AD → GL.Ls} {cs : List ARV} {ws : List PV}
    (hm : SimE true ma pa) (g : Good F S as ag) (h1 : RA.pv as ag cs = some ws) (h2 : RA.ok F S cs) (nd : (fpS (as ++ ag) ++ RA.fp cs).Nodup) (lt : ∀ n ∈ RA.fp cs, n < S.length) (hL : ∀ ad, L ad = glS as ag ad as)
    (hk : ∀ F' S' as' ag' c w, RA.pv as' ag' (cs ++ [c]) = some (ws ++ [w]) → RA.ok F' S' (cs ++ [c]) → Good F' S' as' ag' → (fpS (as' ++ ag') ++ RA.fp (cs ++ [c])).Nodup → (∀ n ∈ RA.fp (cs ++ [c]), n < S'.length) → (∀ ad, L ad = glS as' ag' ad as') →
      SimSO F' S' as' ag' (RA.fp (cs ++ [c])) (fun ad => f ad w S') (k c.er (erS as') (erS ag'))) :
    SimSO F S as ag (RA.fp cs) (fun ad => (ma ad (L ad) S).then (L ad) (f ad)) ((pa (erS as) (erS ag)).then k) := by
  have h := hm F S as ag g
  have hfr : ∀ {F' : FM} {S' : Sto} {as' ag' : List AV} {x : List Nat}, Ev true F S as ag [] F' S' as' ag' x → Ev true F S as ag (RA.fp cs) F' S' as' ag' (RA.fp cs ++ x) := fun e => by
    have := e.frame (z := RA.fp cs) (by rw [List.append_nil]; exact nd) lt
    rwa [List.append_nil] at this
  cases hp : pa (erS as) (erS ag) with
  | bad => trivial
  | exc e ls gh =>
    rw [hp] at h
    obtain ⟨F2, S2, as2, ag2, x, a1, a2, a3, a4, a5, a6⟩ := h
    refine ⟨F2, S2, as2, ag2, x, a1, a2, a3, fun ad => ?_, a5, ((hfr a6).sub (List.nil_sublist _)).sv⟩
    show (ma ad (L ad) S).then (L ad) _ = _
    rw [hL, show ma ad (glS as ag ad as) S = _ from a4 ad, a6.gl]; rfl
  | ok b ls gh =>
    rw [hp] at h
    obtain ⟨F2, S2, as2, ag2, c, w, rfl, rfl, rfl, a4, a5, a6, a7⟩ := h
    have st := stab_ra true cs (.inl rfl) F S as ag [] F2 S2 as2 ag2 _ ws a7 g (by rw [List.append_nil]; exact nd) h1 h2
    have ev := hfr a7
    have e0 : RA.fp (cs ++ [c]) = RA.fp cs ++ c.fp := by show List.flatMap _ _ = _; rw [List.flatMap_append]; simp; rfl
    have h3 := hk F2 S2 as2 ag2 c w (RA_app st.1 a5) (fun d hd => by
      rcases List.mem_append.mp hd with t | t
      · exact st.2 d t
      · rw [List.mem_singleton.mp t]; exact a6) a7.good (by rw [e0]; exact ev.nd) (by rw [e0]; exact ev.lt) (fun ad => (hL ad).trans (a7.gl ad).symm)
    rw [e0] at h3
    exact SimSO.pre ev.sv (h3.cg fun ad => by
      show (ma ad (L ad) S).then (L ad) _ = _
      rw [hL, show ma ad (glS as ag ad as) S = _ from a4 ad]; rfl)
theorem node_put {t : List Nat → Bool} {r : Rt} {p : List Nat} {n : Nat} {h h' : Hd} {ks ks' : List A} {a : A} (g : Good F S as ag) (nd : (fpS (as ++ ag) ++ a.fp).Nodup) (lt : ∀ m ∈ a.fp, m < S.length) (aok : a.ok F S)
    (hat : atA as ag r p = some (.nd .ow n h ks)) (hw : h'.wf ks'.length = true) (hc : (∃ m, m < ks.length ∧ ks' = ks.set m a ∧ t = exT m) ∨ (ks' = ks ++ [a] ∧ t = allT)) :
    Ev false F S as ag a.fp F (S.set n (mkO h' (A.pvs ks'))) (chA t r p (.nd .ow n h' ks') as ag).1 (chA t r p (.nd .ow n h' ks') as ag).2 [] := by
  have bok := at_ok g hat
  simp only [A.ok] at bok
  have sk := sub_kids g hat
  have nda : (A.fps ks ++ a.fp).Nodup := nd.sublist (List.Sublist.append_right sk _)
  rcases hc with ⟨m, hm, rfl, rfl⟩ | ⟨rfl, rfl⟩
  · have hx : ks[m]? = some ks[m] := List.getElem?_eq_getElem hm
    obtain ⟨L, R, e1, e2⟩ := flat_set hx
    refine node_write (fun h => by cases h) g nd lt hat hw ?_ ?_ ?_ ?_
    · rw [oks_iff]
      intro x hx
      rcases List.mem_or_eq_of_mem_set hx with h | h
      · exact (oks_iff ks).mp bok.2.2 x h
      · rw [h]; exact aok
    · rw [List.append_nil, e2]
      rw [e1] at nda
      have n2 : (L ++ R ++ a.fp).Nodup := nda.sublist (List.Sublist.append_right (List.Sublist.append_right (List.sublist_append_left _ _) _) _)
      refine (List.Perm.nodup_iff ?_).mp n2
      have : (L ++ (R ++ a.fp)).Perm (L ++ (a.fp ++ R)) := List.Perm.append_left _ List.perm_append_comm
      simpa using this
    · intro k hk
      rw [List.append_nil, e2] at hk
      rw [e1]
      simp only [List.mem_append] at hk ⊢
      rcases hk with (h | h) | h <;> simp [h]
    · intro i s k hs hk
      have : i ≠ m := of_decide_eq_true hs
      rw [List.getElem?_set_ne (fun e => this e.symm)]; exact hk
  · refine node_write (fun h => by cases h) g nd lt hat hw (oks_app bok.2.2 ⟨aok, trivial⟩) ?_ ?_ ?_
    · rw [List.append_nil, fps_app]; simpa [A.fps] using nda
    · intro k hk
      rw [List.append_nil, fps_app] at hk
      simpa [A.fps] using hk
    · intro i s k _ hk
      rw [List.getElem?_append_left (List.getElem?_eq_some_iff.mp hk).1]; exact hk
def nxD (z : Ls × Ls) : SOut := .nx z.1 z.2
theorem sim_nxD {t : List Nat → Bool} {r : Rt} {p : List Nat} {y : A} {d : D} (hd : y.er = d) {L : AD → GL.Ls} {o : AD → GL.SOut} (ho : ∀ ad, o ad = .nx (L ad) S') (hL : ∀ ad, L ad = glS as ag ad as) (ev : Ev false F S as ag x0 F' S' (chA t r p y as ag).1 (chA t r p y as ag).2 []) :
    SimSO F S as ag x0 o (nxD (chD t r p d (erS as) (erS ag))) := by
  subst hd
  have e := ch_er t r p y as ag
  rw [← e]
  exact ⟨F', S', _, _, rfl, rfl, fun ad => by rw [ho, hL, ev.gl], ev.sv⟩
def putIx (x y k : RV) (ls gh : Ls) : SOut := match y, k with
  | .pth r p, .v (.sc (.int j)) => (match cvR true x ls gh with
    | some (d, ls, gh) => (match atD ls gh r p with
      | some (.nd .ow .lst xs) => (match L2.ixN xs.length j with
        | some m => if m < xs.length then nxD (chD (exT m) r p (.nd .ow .lst (xs.set m d)) ls gh) else .bad
        | none => .bad)
      | _ => .bad)
    | none => .bad)
  | _, _ => .bad
def sSub (o i e : PE) : MS := fun ls gh => (e ls gh).then fun x ls gh => (o ls gh).then fun y ls gh => (i ls gh).then fun k ls gh => putIx x y k ls gh
def gPutIx (L : GL.Ls) (w l k : PV) (S3 : Sto) : GL.SOut := match l, k with
  | .loc n, .int j => (match GL.lstAt S3 n with
    | some xs => (match L2.ixN xs.length j with
      | some m => .nx L (S3.set n (.lst (xs.set m w)))
      | none => .bad)
    | none => .bad)
  | _, _ => .bad
theorem ers_set (xs : List A) (m : Nat) (a : A) : A.ers (xs.set m a) = (A.ers xs).set m a.er := by rw [ers_map, ers_map, List.map_set]
theorem pvs_set (xs : List A) (m : Nat) (a : A) : A.pvs (xs.set m a) = (A.pvs xs).set m a.pv := by rw [pvs_map, pvs_map, List.map_set]
theorem three {as ag : List AV} {c1 c2 c3 : ARV} {w1 w2 w3 : PV} (h : RA.pv as ag (([c1] ++ [c2]) ++ [c3]) = some (([w1] ++ [w2]) ++ [w3])) : c1.pv as ag = some w1 ∧ c2.pv as ag = some w2 ∧ c3.pv as ag = some w3 := by
  obtain ⟨a, t, ha, ht, e⟩ := seqO_cons h
  cases e
  obtain ⟨b, t2, hb, ht2, e⟩ := seqO_cons ht
  cases e
  obtain ⟨c, t3, hc, ht3, e⟩ := seqO_cons ht2
  cases e
  exact ⟨ha, hb, hc⟩
theorem two {as ag : List AV} {c1 c2 : ARV} {w1 w2 : PV} (h : RA.pv as ag ([c1] ++ [c2]) = some ([w1] ++ [w2])) : c1.pv as ag = some w1 ∧ c2.pv as ag = some w2 := by
  obtain ⟨a, t, ha, ht, e⟩ := seqO_cons h
  cases e
  obtain ⟨b, t2, hb, ht2, e⟩ := seqO_cons ht
  cases e
  exact ⟨ha, hb⟩
theorem sub1 (c1 : ARV) (r : List ARV) : (c1.fp).Sublist (RA.fp (c1 :: r)) := List.sublist_append_left _ _
theorem preSub (g : Good F S as ag) (nd : (fpS (as ++ ag) ++ x0).Nodup) (lt : ∀ n ∈ x0, n < S.length) (sub : x1.Sublist x0) {o : AD → GL.SOut} {p : SOut} (h : SimSO F S as ag x1 o p) : SimSO F S as ag x0 o p :=
  SimSO.pre ((Ev.refl (q := true) g nd lt).sub sub).sv h
theorem putIx_sim {c1 c2 c3 : ARV} {w1 w2 w3 : PV} {L : AD → GL.Ls} (g : Good F S as ag) (nd : (fpS (as ++ ag) ++ RA.fp (([c1] ++ [c2]) ++ [c3])).Nodup) (lt : ∀ n ∈ RA.fp (([c1] ++ [c2]) ++ [c3]), n < S.length) (h : RA.pv as ag (([c1] ++ [c2]) ++ [c3]) = some (([w1] ++ [w2]) ++ [w3])) (hk : RA.ok F S (([c1] ++ [c2]) ++ [c3])) (hL : ∀ ad, L ad = glS as ag ad as) :
    SimSO F S as ag (RA.fp (([c1] ++ [c2]) ++ [c3])) (fun ad => gPutIx (L ad) w1 w2 w3 S) (putIx c1.er c2.er c3.er (erS as) (erS ag)) := by
  obtain ⟨h1, h2, h3⟩ := three h
  have s1 : (c1.fp).Sublist (RA.fp (([c1] ++ [c2]) ++ [c3])) := sub1 c1 _
  have nd1 := nd.sublist (List.Sublist.append_left s1 _)
  have lt1 : ∀ n ∈ c1.fp, n < S.length := fun n hn => lt n (s1.subset hn)
  refine preSub g nd lt s1 ?_
  unfold putIx
  split
  · rename_i r p j e2 e3
    rw [er_vsc e3 h3]
    cases hc : cvR true c1.er (erS as) (erS ag) with
    | none => trivial
    | some z =>
      obtain ⟨d, l1, g1⟩ := z
      obtain ⟨F1, as1, ag1, a, rfl, rfl, rfl, rfl, aok, _, ev⟩ := cv_sim0 g nd1 lt1 h1 (hk c1 (by simp)) hc
      dsimp only
      split
      · rename_i xs hx
        obtain ⟨b, hb, eb⟩ := at_er' hx
        obtain ⟨n, ys, rfl, rfl⟩ := er_nd eb
        have hw2 : w2 = .loc n := by
          cases c2 with
          | v _ => cases e2
          | pth r' p' =>
            cases e2
            have := ev.per rfl r p w2 h2
            rw [hb] at this
            cases this; rfl
        subst hw2
        have bok := at_ok ev.good hb
        simp only [A.ok] at bok
        split
        · rename_i m hm
          by_cases hl : m < (A.ers ys).length
          · rw [if_pos hl]
            refine SimSO.pre ev.sv ?_
            rw [ers_len] at hl
            refine sim_nxD (y := .nd .ow n .lst (ys.set m a)) (S' := S.set n (mkO .lst (A.pvs (ys.set m a)))) (F' := F1) (L := L) (by simp [A.er, ers_set]) (fun ad => ?_) (fun ad => (hL ad).trans (ev.gl ad).symm) (node_put ev.good ev.nd ev.lt aok hb rfl (.inl ⟨m, hl, rfl, rfl⟩))
            rw [ers_len] at hm
            simp only [gPutIx, Sc.pv, lstAt_of (show S[n]? = some (.lst (A.pvs ys)) from bok.1.2), pvs_len, hm, mkO, pvs_set]
          · rw [if_neg hl]; trivial
        · trivial
      · trivial
  · trivial
theorem sim_sub {q : Bool} {mo mi me : AD → GL.ME} {po pi pe : PE} (he : SimE q me pe) (ho : SimE true mo po) (hi : SimE true mi pi) : SimS (fun ad => GL.sSub (mo ad) (mi ad) (me ad)) (sSub po pi pe) := fun F S as ag g =>
  sim_then (R := RE) (f := fun ad w S1 => (mo ad (glS as ag ad as) S1).then (glS as ag ad as) fun l S2 => (mi ad (glS as ag ad as) S2).then (glS as ag ad as) fun k S3 => gPutIx (glS as ag ad as) w l k S3)
    (k := fun x ls gh => (po ls gh).then fun y ls gh => (pi ls gh).then fun k ls gh => putIx x y k ls gh) he g (fun _ => rfl) fun F1 S1 as1 ag1 c1 w1 h1 h2 g1 n1 l1 L1 => by
    have e0 : RA.fp [c1] = c1.fp := List.append_nil _
    have h := sim_thenN (cs := [c1]) (ws := [w1]) (L := fun ad => glS as ag ad as) (f := fun ad l S2 => (mi ad (glS as ag ad as) S2).then (glS as ag ad as) fun k S3 => gPutIx (glS as ag ad as) w1 l k S3) (k := fun y ls gh => (pi ls gh).then fun k ls gh => putIx (RE.er c1) y k ls gh) ho g1 (seqO_mk h1 rfl) (fun c hc => by rw [List.mem_singleton.mp hc]; exact h2) (by rw [e0]; exact n1) (by rw [e0]; exact l1) L1
      (fun F2 S2 as2 ag2 c2 w2 h1 h2 g2 n2 l2 L2 => sim_thenN (cs := [c1] ++ [c2]) (ws := [w1] ++ [w2]) (L := fun ad => glS as ag ad as) (f := fun ad k S3 => gPutIx (glS as ag ad as) w1 w2 k S3) (k := fun k ls gh => putIx (RE.er c1) c2.er k ls gh) hi g2 h1 h2 n2 l2 L2
        (fun F3 S3 as3 ag3 c3 w3 h1 h2 g3 n3 l3 L3 => putIx_sim g3 n3 l3 h1 h2 L3))
    rw [e0] at h
    exact h
theorem putN_zip {f : Nm} {y : PV} : ∀ (ns : List Nm) (ws : List PV), ns.length = ws.length → GL.putN f y (ns.zip ws) = match idxN f ns with
    | some i => ns.zip (ws.set i y)
    | none => (ns ++ [f]).zip (ws ++ [y])
  | [], [], _ => rfl
  | [], _ :: _, h => by cases h
  | _ :: _, [], h => by cases h
  | g :: r, w :: ws, h => by
    have ih := putN_zip (f := f) (y := y) r ws (Nat.succ.inj h)
    show GL.putN f y ((g, w) :: r.zip ws) = _
    unfold GL.putN idxN
    by_cases hg : g = f
    · rw [if_pos hg, if_pos hg]; simp
    · rw [if_neg hg, if_neg hg, ih]
      cases idxN f r with
      | none => rfl
      | some i => rfl
theorem idxN_lt {f : Nm} : ∀ {ns : List Nm} {i : Nat}, idxN f ns = some i → i < ns.length
  | [], i, h => by cases h
  | g :: r, i, h => by
    unfold idxN at h
    split at h
    · cases h; simp
    · obtain ⟨j, hj, rfl⟩ := Option.map_eq_some_iff.mp h
      have := idxN_lt hj
      simp only [List.length_cons]; omega
def putF (tab : Nm → Nm → Bool) (f : Nm) (x y : RV) (ls gh : Ls) : SOut := match y with
  | .pth r p => (match cvR true x ls gh with
    | some (d, ls, gh) => (match atD ls gh r p with
      | some (.nd .ow (.ins C ns) xs) => if (tab C f && decide (xs.length < 1000)) = true then (match idxN f ns with
        | some i => nxD (chD (exT i) r p (.nd .ow (.ins C ns) (xs.set i d)) ls gh)
        | none => nxD (chD allT r p (.nd .ow (.ins C (ns ++ [f])) (xs ++ [d])) ls gh)) else .bad
      | _ => .bad)
    | none => .bad)
  | _ => .bad
def sFldM (tab : Nm → Nm → Bool) (f : Nm) (o v : PE) : MS := fun ls gh => (v ls gh).then fun x ls gh => (o ls gh).then fun y ls gh => putF tab f x y ls gh
def gPutF (tab : Nm → Nm → Bool) (f : Nm) (L : GL.Ls) (y w : PV) (S2 : Sto) : GL.SOut := match GL.insAt S2 w with
  | some (n, C, fs) => if (tab C f && decide (fs.length < 1000)) = true then .nx L (S2.set n (.ins C (GL.putN f y fs))) else .bad
  | none => .bad
theorem putF_sim {tab : Nm → Nm → Bool} {f : Nm} {c1 c2 : ARV} {w1 w2 : PV} {L : AD → GL.Ls} (g : Good F S as ag) (nd : (fpS (as ++ ag) ++ RA.fp ([c1] ++ [c2])).Nodup) (lt : ∀ n ∈ RA.fp ([c1] ++ [c2]), n < S.length) (h : RA.pv as ag ([c1] ++ [c2]) = some ([w1] ++ [w2])) (hk : RA.ok F S ([c1] ++ [c2])) (hL : ∀ ad, L ad = glS as ag ad as) :
    SimSO F S as ag (RA.fp ([c1] ++ [c2])) (fun ad => gPutF tab f (L ad) w1 w2 S) (putF tab f c1.er c2.er (erS as) (erS ag)) := by
  obtain ⟨h1, h2⟩ := two h
  have s1 : (c1.fp).Sublist (RA.fp ([c1] ++ [c2])) := sub1 c1 _
  have nd1 := nd.sublist (List.Sublist.append_left s1 _)
  have lt1 : ∀ n ∈ c1.fp, n < S.length := fun n hn => lt n (s1.subset hn)
  refine preSub g nd lt s1 ?_
  unfold putF
  split
  · rename_i r p e2
    cases hc : cvR true c1.er (erS as) (erS ag) with
    | none => trivial
    | some z =>
      obtain ⟨d, l1, g1⟩ := z
      obtain ⟨F1, as1, ag1, a, rfl, rfl, rfl, rfl, aok, _, ev⟩ := cv_sim0 g nd1 lt1 h1 (hk c1 (by simp)) hc
      dsimp only
      split
      · rename_i C ns xs hx
        obtain ⟨b, hb, eb⟩ := at_er' hx
        obtain ⟨n, ys, rfl, rfl⟩ := er_nd eb
        have hw2 : w2 = .loc n := by
          cases c2 with
          | v _ => cases e2
          | pth r' p' =>
            cases e2
            have := ev.per rfl r p w2 h2
            rw [hb] at this
            cases this; rfl
        subst hw2
        have bok := at_ok ev.good hb
        have hw : ns.length = ys.length := by simpa [Hd.wf] using wf_of bok
        simp only [A.ok] at bok
        have ob : S[n]? = some (.ins C (ns.zip (A.pvs ys))) := bok.1.2
        have hins : GL.insAt S (.loc n) = some (n, C, ns.zip (A.pvs ys)) := by unfold GL.insAt; simp only [ob]
        have hzl : (ns.zip (A.pvs ys)).length = (A.ers ys).length := by rw [List.length_zip, pvs_len, ers_len, hw]; simp
        have hpz := putN_zip (f := f) (y := a.pv) ns (A.pvs ys) (by rw [pvs_len]; exact hw)
        by_cases hl : (tab C f && decide ((A.ers ys).length < 1000)) = true
        · rw [if_pos hl]
          refine SimSO.pre ev.sv ?_
          have hg : ∀ ad, gPutF tab f (L ad) a.pv (.loc n) S = .nx (L ad) (S.set n (.ins C (GL.putN f a.pv (ns.zip (A.pvs ys))))) := fun ad => by
            unfold gPutF
            simp only [hins, hzl, if_pos hl]
          split
          · rename_i i hi
            rw [hi] at hpz
            have hil : i < ys.length := hw ▸ idxN_lt hi
            refine sim_nxD (y := .nd .ow n (.ins C ns) (ys.set i a)) (S' := S.set n (mkO (.ins C ns) (A.pvs (ys.set i a)))) (F' := F1) (L := L) (by simp [A.er, ers_set]) (fun ad => ?_) (fun ad => (hL ad).trans (ev.gl ad).symm) (node_put ev.good ev.nd ev.lt aok hb (by simp [Hd.wf, hw]) (.inl ⟨i, hil, rfl, rfl⟩))
            rw [hg, hpz]; simp only [mkO, pvs_set]
          · rename_i hi
            rw [hi] at hpz
            refine sim_nxD (y := .nd .ow n (.ins C (ns ++ [f])) (ys ++ [a])) (S' := S.set n (mkO (.ins C (ns ++ [f])) (A.pvs (ys ++ [a])))) (F' := F1) (L := L) (by simp [A.er, ers_app, A.ers]) (fun ad => ?_) (fun ad => (hL ad).trans (ev.gl ad).symm) (node_put ev.good ev.nd ev.lt aok hb (by simp [Hd.wf, hw]) (.inr ⟨rfl, rfl⟩))
            rw [hg, hpz]; simp [mkO, pvs_app, A.pvs]
        · rw [if_neg hl]; trivial
      · trivial
  · trivial
theorem sim_sfld {tab : Nm → Nm → Bool} {f : Nm} {q : Bool} {mo mv : AD → GL.ME} {po pv : PE} (ho : SimE true mo po) (hv : SimE q mv pv) : SimS (fun ad => GL.sFldM tab f (mo ad) (mv ad)) (sFldM tab f po pv) := fun F S as ag g =>
  sim_then (R := RE) (f := fun ad y S1 => (mo ad (glS as ag ad as) S1).then (glS as ag ad as) fun w S2 => gPutF tab f (glS as ag ad as) y w S2) (k := fun x ls gh => (po ls gh).then fun y ls gh => putF tab f x y ls gh) hv g (fun _ => rfl) fun F1 S1 as1 ag1 c1 w1 h1 h2 g1 n1 l1 L1 => by
    have e0 : RA.fp [c1] = c1.fp := List.append_nil _
    have h := sim_thenN (cs := [c1]) (ws := [w1]) (L := fun ad => glS as ag ad as) (f := fun ad w S2 => gPutF tab f (glS as ag ad as) w1 w S2) (k := fun y ls gh => putF tab f (RE.er c1) y ls gh) ho g1 (seqO_mk h1 rfl) (fun c hc => by rw [List.mem_singleton.mp hc]; exact h2) (by rw [e0]; exact n1) (by rw [e0]; exact l1) L1
      (fun F2 S2 as2 ag2 c2 w2 h1 h2 g2 n2 l2 L2 => putF_sim g2 n2 l2 h1 h2 L2)
    rw [e0] at h
    exact h
theorem setP_zip {k y : PV} : ∀ (ks : List PV) (ws : List PV) {i : Nat}, ks.length = ws.length → idxK k ks = some i → idxK k (ks.drop (i + 1)) = none → GL.setP k y (ks.zip ws) = ks.zip (ws.set i y)
  | [], _, i, _, h, _ => by cases h
  | _ :: _, [], i, h, _, _ => by cases h
  | g :: r, w :: ws, i, h, hi, hn => by
    have none_set : ∀ (ks : List PV) (ws : List PV), idxK k ks = none → GL.setP k y (ks.zip ws) = ks.zip ws := fun ks => by
      induction ks with
      | nil => intro ws _; rfl
      | cons a t ih =>
        intro ws hk
        cases ws with
        | nil => rfl
        | cons b u =>
          unfold idxK at hk
          split at hk
          · cases hk
          · rename_i ha
            show (if GL.keqP a k = true then (a, y) else (a, b)) :: GL.setP k y (t.zip u) = _
            rw [if_neg ha, ih u (Option.map_eq_none_iff.mp hk)]; rfl
    unfold idxK at hi
    show (if GL.keqP g k = true then (g, y) else (g, w)) :: GL.setP k y (r.zip ws) = _
    split at hi
    · rename_i hg
      cases hi
      rw [if_pos hg, none_set r ws (by simpa using hn)]; rfl
    · rename_i hg
      obtain ⟨j, hj, rfl⟩ := Option.map_eq_some_iff.mp hi
      rw [if_neg hg, setP_zip r ws (Nat.succ.inj h) hj (by simpa using hn)]; rfl
def putK (x y z : RV) (ls gh : Ls) : SOut := match y, keyD z with
  | .pth r p, some k => (match cvR true x ls gh with
    | some (d, ls, gh) => (match atD ls gh r p with
      | some (.nd .ow (.dct ks) xs) => if xs.length < 1000 then (match idxK k ks with
        | some i => if (idxK k (ks.drop (i + 1))).isNone = true then nxD (chD (exT i) r p (.nd .ow (.dct ks) (xs.set i d)) ls gh) else .bad
        | none => nxD (chD allT r p (.nd .ow (.dct (ks ++ [k])) (xs ++ [d])) ls gh)) else .bad
      | _ => .bad)
    | none => .bad)
  | _, _ => .bad
def sDPutM (d k e : PE) : MS := fun ls gh => (e ls gh).then fun x ls gh => (d ls gh).then fun y ls gh => (k ls gh).then fun z ls gh => putK x y z ls gh
def gPutK (L : GL.Ls) (v w y : PV) (S3 : Sto) : GL.SOut := match w with
  | .loc n => (match GL.dctAt S3 n with
    | some kvs => if (GL.isKeyP y && decide (kvs.length < 1000)) = true then .nx L (S3.set n (.dct (GL.putP y v kvs))) else .bad
    | none => .bad)
  | _ => .bad
theorem putK_sim {c1 c2 c3 : ARV} {w1 w2 w3 : PV} {L : AD → GL.Ls} (g : Good F S as ag) (nd : (fpS (as ++ ag) ++ RA.fp (([c1] ++ [c2]) ++ [c3])).Nodup) (lt : ∀ n ∈ RA.fp (([c1] ++ [c2]) ++ [c3]), n < S.length) (h : RA.pv as ag (([c1] ++ [c2]) ++ [c3]) = some (([w1] ++ [w2]) ++ [w3])) (hk : RA.ok F S (([c1] ++ [c2]) ++ [c3])) (hL : ∀ ad, L ad = glS as ag ad as) :
    SimSO F S as ag (RA.fp (([c1] ++ [c2]) ++ [c3])) (fun ad => gPutK (L ad) w1 w2 w3 S) (putK c1.er c2.er c3.er (erS as) (erS ag)) := by
  obtain ⟨h1, h2, h3⟩ := three h
  have s1 : (c1.fp).Sublist (RA.fp (([c1] ++ [c2]) ++ [c3])) := sub1 c1 _
  have nd1 := nd.sublist (List.Sublist.append_left s1 _)
  have lt1 : ∀ n ∈ c1.fp, n < S.length := fun n hn => lt n (s1.subset hn)
  refine preSub g nd lt s1 ?_
  unfold putK
  split
  · rename_i r p k e2 e3
    obtain ⟨rfl, hkey⟩ := keyD_er e3 h3
    cases hc : cvR true c1.er (erS as) (erS ag) with
    | none => trivial
    | some z =>
      obtain ⟨d, l1, g1⟩ := z
      obtain ⟨F1, as1, ag1, a, rfl, rfl, rfl, rfl, aok, _, ev⟩ := cv_sim0 g nd1 lt1 h1 (hk c1 (by simp)) hc
      dsimp only
      split
      · rename_i ks xs hx
        obtain ⟨b, hb, eb⟩ := at_er' hx
        obtain ⟨n, ys, rfl, rfl⟩ := er_nd eb
        have hw2 : w2 = .loc n := by
          cases c2 with
          | v _ => cases e2
          | pth r' p' =>
            cases e2
            have := ev.per rfl r p w2 h2
            rw [hb] at this
            cases this; rfl
        subst hw2
        have bok := at_ok ev.good hb
        have hw : ks.length = ys.length := by simpa [Hd.wf] using wf_of bok
        simp only [A.ok] at bok
        have ob : S[n]? = some (.dct (ks.zip (A.pvs ys))) := bok.1.2
        have hd : GL.dctAt S n = some (ks.zip (A.pvs ys)) := by unfold GL.dctAt; rw [ob]
        have hzl : (ks.zip (A.pvs ys)).length = (A.ers ys).length := by rw [List.length_zip, pvs_len, ers_len, hw]; simp
        have hlp := lookP_zip (k := w3) ks (A.pvs ys) (by rw [pvs_len]; exact hw)
        by_cases hl : (A.ers ys).length < 1000
        · rw [if_pos hl]
          refine SimSO.pre ev.sv ?_
          have hg : ∀ ad, gPutK (L ad) a.pv (.loc n) w3 S = .nx (L ad) (S.set n (.dct (GL.putP w3 a.pv (ks.zip (A.pvs ys))))) := fun ad => by
            unfold gPutK
            simp only [hd, hzl, hkey, Bool.true_and, decide_eq_true hl, if_true]
          split
          · rename_i i hi
            by_cases hu : (idxK w3 (ks.drop (i + 1))).isNone = true
            · rw [if_pos hu]
              have hil : i < ys.length := hw ▸ idxK_lt hi
              have hpz : GL.putP w3 a.pv (ks.zip (A.pvs ys)) = ks.zip ((A.pvs ys).set i a.pv) := by
                unfold GL.putP
                rw [hlp, hi, Option.bind_some, List.getElem?_eq_getElem (by rw [pvs_len]; exact hil)]
                exact setP_zip ks _ (by rw [pvs_len]; exact hw) hi (Option.isNone_iff_eq_none.mp hu)
              refine sim_nxD (y := .nd .ow n (.dct ks) (ys.set i a)) (S' := S.set n (mkO (.dct ks) (A.pvs (ys.set i a)))) (F' := F1) (L := L) (by simp [A.er, ers_set]) (fun ad => ?_) (fun ad => (hL ad).trans (ev.gl ad).symm) (node_put ev.good ev.nd ev.lt aok hb (by simp [Hd.wf, hw]) (.inl ⟨i, hil, rfl, rfl⟩))
              rw [hg, hpz]; simp only [mkO, pvs_set]
            · rw [if_neg hu]; trivial
          · rename_i hi
            have hpz : GL.putP w3 a.pv (ks.zip (A.pvs ys)) = ks.zip (A.pvs ys) ++ [(w3, a.pv)] := by
              unfold GL.putP
              rw [hlp, hi]; rfl
            refine sim_nxD (y := .nd .ow n (.dct (ks ++ [w3])) (ys ++ [a])) (S' := S.set n (mkO (.dct (ks ++ [w3])) (A.pvs (ys ++ [a])))) (F' := F1) (L := L) (by simp [A.er, ers_app, A.ers]) (fun ad => ?_) (fun ad => (hL ad).trans (ev.gl ad).symm) (node_put ev.good ev.nd ev.lt aok hb (by simp [Hd.wf, hw]) (.inr ⟨rfl, rfl⟩))
            rw [hg, hpz]
            have : (ks ++ [w3]).zip (A.pvs ys ++ [a.pv]) = ks.zip (A.pvs ys) ++ [(w3, a.pv)] := by
              rw [List.zip_append (by rw [pvs_len]; exact hw)]; rfl
            simp [mkO, pvs_app, A.pvs, this]
        · rw [if_neg hl]; trivial
      · trivial
  · trivial
theorem sim_dput {q : Bool} {md mk me : AD → GL.ME} {pd pk pe : PE} (hd : SimE true md pd) (hkk : SimE true mk pk) (he : SimE q me pe) : SimS (fun ad => GL.sDPutM (md ad) (mk ad) (me ad)) (sDPutM pd pk pe) := fun F S as ag g =>
  sim_then (R := RE) (f := fun ad w S1 => (md ad (glS as ag ad as) S1).then (glS as ag ad as) fun l S2 => (mk ad (glS as ag ad as) S2).then (glS as ag ad as) fun k S3 => gPutK (glS as ag ad as) w l k S3)
    (k := fun x ls gh => (pd ls gh).then fun y ls gh => (pk ls gh).then fun k ls gh => putK x y k ls gh) he g (fun _ => rfl) fun F1 S1 as1 ag1 c1 w1 h1 h2 g1 n1 l1 L1 => by
    have e0 : RA.fp [c1] = c1.fp := List.append_nil _
    have h := sim_thenN (cs := [c1]) (ws := [w1]) (L := fun ad => glS as ag ad as) (f := fun ad l S2 => (mk ad (glS as ag ad as) S2).then (glS as ag ad as) fun k S3 => gPutK (glS as ag ad as) w1 l k S3) (k := fun y ls gh => (pk ls gh).then fun k ls gh => putK (RE.er c1) y k ls gh) hd g1 (seqO_mk h1 rfl) (fun c hc => by rw [List.mem_singleton.mp hc]; exact h2) (by rw [e0]; exact n1) (by rw [e0]; exact l1) L1
      (fun F2 S2 as2 ag2 c2 w2 h1 h2 g2 n2 l2 L2 => sim_thenN (cs := [c1] ++ [c2]) (ws := [w1] ++ [w2]) (L := fun ad => glS as ag ad as) (f := fun ad k S3 => gPutK (glS as ag ad as) w1 w2 k S3) (k := fun k ls gh => putK (RE.er c1) c2.er k ls gh) hkk g2 h1 h2 n2 l2 L2
        (fun F3 S3 as3 ag3 c3 w3 h1 h2 g3 n3 l3 L3 => putK_sim g3 n3 l3 h1 h2 L3))
    rw [e0] at h
    exact h
end VL
set_option Elab.async false
set_option linter.all false
set_option maxRecDepth 100000
set_option maxHeartbeats 1000000
namespace VL
open GL (PV OB Sto Nm BT lim)
open PySem (PyData Builtin)
variable {F F' F'' : FM} {S S' S'' : Sto} {as as' as'' ag ag' ag'' : List AV} {x0 x1 x2 : List Nat}
def resD (f : Nat → Option V) : List Nat → Ls → Ls → Ls × Ls
  | [], ls, gh => (ls, gh)
  | v :: r, ls, gh => resD f r ((ls.map (killR v)).set v (f v)) (gh.map (killR v))
def resA (f : Nat → AV) : List Nat → List AV → List AV → List AV × List AV
  | [], as, ag => (as, ag)
  | v :: r, as, ag => resA f r (stA as ag v (f v)).1 (stA as ag v (f v)).2
theorem res_er (f : Nat → AV) : ∀ (vs : List Nat) (as ag : List AV), (erS (resA f vs as ag).1, erS (resA f vs as ag).2) = resD (fun v => (f v).er) vs (erS as) (erS ag)
  | [], as, ag => rfl
  | v :: r, as, ag => by
    unfold resA resD
    rw [res_er f r]
    have k : ∀ zs : List AV, erS (zs.map (killRA as ag v)) = (erS zs).map (killR v) := fun zs => by
      simp only [erS, List.map_map]
      exact List.map_congr_left fun z _ => killR_er v z
    have e1 : erS (stA as ag v (f v)).1 = ((erS as).map (killR v)).set v (f v).er := by
      show erS ((as.map (killRA as ag v)).set v (f v)) = _
      rw [← k]; simp only [erS, List.map_set]
    have e2 : erS (stA as ag v (f v)).2 = (erS ag).map (killR v) := k ag
    rw [e1, e2]
structure Cst (F : FM) (S : Sto) (z : AV) (o : Option PV) : Prop where
  fp : z.fp = []
  ok : z.ok F S
  gl : ∀ as ag ad, glv as ag ad z = o
  al : ∀ as ag, Alive as ag z
structure Res (F : FM) (S : Sto) (vs : List Nat) (f : Nat → AV) (o : Nat → Option PV) (as ag as' ag' : List AV) : Prop where
  sv : Sv F S as ag [] F S as' ag' []
  inn : ∀ ad j, j ∈ vs → (glS as' ag' ad as')[j]? = some (o j)
  out : ∀ ad j, j ∉ vs → (glS as' ag' ad as')[j]? = (glS as ag ad as)[j]?
  rt : ∀ r, (∀ v ∈ vs, r ≠ .l v) → rootA as' ag' r = rootA as ag r
  rv : ∀ v ∈ vs, rootA as' ag' (.l v) = slotA (some (f v))
  len : as'.length = as.length
theorem res_sim (f : Nat → AV) (o : Nat → Option PV) : ∀ (vs : List Nat) (as ag : List AV), (∀ v ∈ vs, Cst F S (f v) (o v)) → Good F S as ag → (∀ v ∈ vs, v < as.length) → Res F S vs f o as ag (resA f vs as ag).1 (resA f vs as ag).2
  | [], as, ag, _, g, _ => ⟨Sv.refl g, (fun _ _ h => by cases h), (fun _ _ _ => rfl), (fun _ _ => rfl), (fun _ h => by cases h), rfl⟩
  | v :: r, as, ag, hc, g, hl => by
    have cv := hc v List.mem_cons_self
    have lv := hl v List.mem_cons_self
    have sv1 : Sv F S as ag [] F S (stA as ag v (f v)).1 (stA as ag v (f v)).2 [] := sv_set g (good_nd g) (fun _ h => by cases h) lv cv.ok (cv.al _ _) (fun _ _ => .inr (by rw [cv.fp]; exact List.nil_sublist _))
    have l1 : (stA as ag v (f v)).1.length = as.length := by simp [stA]
    have ih := res_sim f o r (stA as ag v (f v)).1 (stA as ag v (f v)).2 (fun u hu => hc u (List.mem_cons_of_mem _ hu)) sv1.good (fun u hu => by rw [l1]; exact hl u (List.mem_cons_of_mem _ hu))
    have g1 : ∀ ad j, (glS (stA as ag v (f v)).1 (stA as ag v (f v)).2 ad (stA as ag v (f v)).1)[j]? = if j = v then some (o v) else (glS as ag ad as)[j]? := fun ad j => by
      show (((as.map (killRA as ag v)).set v (f v)).map _)[j]? = _
      rw [List.map_set, cv.gl, List.map_map]
      have e : (as.map (glv (stA as ag v (f v)).1 (stA as ag v (f v)).2 ad ∘ killRA as ag v)) = glS as ag ad as := List.map_congr_left fun y _ => st_glv ad
      show ((as.map (glv (stA as ag v (f v)).1 (stA as ag v (f v)).2 ad ∘ killRA as ag v)).set v (o v))[j]? = _
      rw [e]
      by_cases hj : j = v
      · subst hj
        rw [if_pos rfl, List.getElem?_set_self (by simpa [glS] using lv)]
      · rw [if_neg hj, List.getElem?_set_ne (fun q => hj q.symm)]
    have rv1 : rootA (stA as ag v (f v)).1 (stA as ag v (f v)).2 (.l v) = slotA (some (f v)) := by
      show slotA ((as.map (killRA as ag v)).set v (f v))[v]? = _
      rw [List.getElem?_set_self (by simpa using lv)]
    refine ⟨sv1.trans ih.sv, fun ad j hj => ?_, fun ad j hj => ?_, fun rr hr => ?_, fun u hu => ?_, ih.len.trans l1⟩
    · by_cases hjr : j ∈ r
      · exact ih.inn ad j hjr
      · rcases List.mem_cons.mp hj with rfl | h
        · exact (ih.out ad j hjr).trans ((g1 ad j).trans (if_pos rfl))
        · exact absurd h hjr
    · have h1 : j ≠ v := fun e => hj (e ▸ List.mem_cons_self)
      have h2 : j ∉ r := fun e => hj (List.mem_cons_of_mem _ e)
      exact (ih.out ad j h2).trans ((g1 ad j).trans (if_neg h1))
    · exact (ih.rt rr fun u hu => hr u (List.mem_cons_of_mem _ hu)).trans (st_root (hr v List.mem_cons_self))
    · by_cases hur : u ∈ r
      · exact ih.rv u hur
      · rcases List.mem_cons.mp hu with rfl | h
        · exact (ih.rt (.l u) fun w hw e => hur (by cases e; exact hw)).trans rv1
        · exact absurd h hur
def okV : Option V → Bool
  | some (.v d) => d.shr
  | some (.al _ _) => true
  | none => true
  | _ => false
def keepV : Option V → Option V
  | some (.v d) => some (.v d)
  | _ => none
def lcV (g : MG) (tt : PT) (te : PE) (vs : List Nat) (ls0 : Ls) : List D → List D → PE
  | [], acc, ls, gh => .ok (.v (.nd .ow .lst acc)) ls gh
  | d :: r, acc, ls, gh => match g (.v d) (resD (fun _ => none) vs ls gh).1 (resD (fun _ => none) vs ls gh).2 with
    | none => .bad
    | some z => (match tt z.1 z.2 with
      | .ok true ls2 gh2 => (match te ls2 gh2 with
        | .ok x ls3 gh3 => (match cvR true x ls3 gh3 with
          | some (e, ls4, gh4) => if acc.length < lim then lcV g tt te vs ls0 r (acc ++ [e]) (resD (fun v => keepV (ls0.getD v none)) vs ls4 gh4).1 (resD (fun v => keepV (ls0.getD v none)) vs ls4 gh4).2 else .bad
          | none => .bad)
        | _ => .bad)
      | .ok false ls2 gh2 => lcV g tt te vs ls0 r acc (resD (fun v => keepV (ls0.getD v none)) vs ls2 gh2).1 (resD (fun v => keepV (ls0.getD v none)) vs ls2 gh2).2
      | _ => .bad)
def eLc (it : PI) (g : MG) (tt : PT) (te : PE) (vs : List Nat) : PE := fun ls gh => (it ls gh).bind fun ds ls gh =>
  if (vs.all fun v => decide (v < ls.length) && okV (ls.getD v none)) = true then lcV g tt te vs ls ds [] ls gh else .bad
def keepA (as ag : List AV) (z : AV) : AV := match z with
  | .v a => .v a
  | z => .un (glv as ag (0, 0) z)
theorem keep_er (z : AV) : (keepA as ag z).er = keepV z.er := by cases z <;> rfl
theorem wipe_in : ∀ (vs : List Nat) (L : GL.Ls) (j : Nat), j ∈ vs → j < L.length → (GL.wipeL L vs)[j]? = some none
  | [], _, _, h, _ => by cases h
  | v :: r, L, j, h, hj => by
    have wl : ∀ (r : List Nat) (L : GL.Ls), (GL.wipeL L r).length = L.length := fun r => by
      induction r with
      | nil => intro L; rfl
      | cons a t ih => intro L; show ((GL.wipeL L t).set a none).length = _; rw [List.length_set, ih]
    show ((GL.wipeL L r).set v none)[j]? = _
    by_cases e : j = v
    · subst e; rw [List.getElem?_set_self (by rw [wl]; exact hj)]
    · rw [List.getElem?_set_ne (fun q => e q.symm)]
      exact wipe_in r L j (by rcases List.mem_cons.mp h with h | h; exact absurd h e; exact h) hj
theorem wipe_out : ∀ (vs : List Nat) (L : GL.Ls) (j : Nat), j ∉ vs → (GL.wipeL L vs)[j]? = L[j]?
  | [], _, _, _ => rfl
  | v :: r, L, j, h => by
    show ((GL.wipeL L r).set v none)[j]? = _
    have hne : v ≠ j := fun e => h (by rw [e]; exact List.mem_cons_self)
    rw [List.getElem?_set_ne hne]
    exact wipe_out r L j fun e => h (List.mem_cons_of_mem _ e)
theorem Sv.frame (a : Sv F S as ag x0 F' S' as' ag' x1) {z : List Nat} (hn : (fpS (as ++ ag) ++ (z ++ x0)).Nodup) (hz : ∀ n ∈ z, n < S.length) : (∀ n ∈ z, F' n = F n ∧ S'[n]? = S[n]?) ∧ (fpS (as' ++ ag') ++ (z ++ x1)).Nodup ∧ (∀ n ∈ z ++ x1, n < S'.length) := by
  have hd : ∀ n ∈ z, n ∉ fpS (as ++ ag) ++ x0 := fun n hz hx => by
    have h1 := List.nodup_append.mp hn
    have h2 := List.nodup_append.mp h1.2.1
    rcases List.mem_append.mp hx with t | t
    · exact h1.2.2 n t n (List.mem_append_left _ hz) rfl
    · exact h2.2.2 n hz n t rfl
  have hd2 : ∀ n ∈ z, n ∉ fpS (as' ++ ag') ++ x1 := fun n hz' hx => by
    rcases a.new n hx with t | t
    · exact hd n hz' t
    · exact absurd (hz n hz') (Nat.not_lt.mpr t)
  refine ⟨fun n h => a.keep n (hz n h) (hd n h), ?_, fun n hn => ?_⟩
  · have h1 := List.nodup_append.mp a.nd
    refine List.nodup_append.mpr ⟨h1.1, List.nodup_append.mpr ⟨?_, h1.2.1, fun n h m h' e => ?_⟩, fun n h m h' e => ?_⟩
    · exact (List.nodup_append.mp (List.nodup_append.mp hn).2.1).1
    · exact hd2 n h (e ▸ List.mem_append_right _ h')
    · rcases List.mem_append.mp h' with t | t
      · exact hd2 m t (e ▸ List.mem_append_left _ h)
      · exact h1.2.2 n h m t e
  · rcases List.mem_append.mp hn with t | t
    · exact Nat.lt_of_lt_of_le (hz n t) a.len
    · exact a.lt n t
theorem Sv.frameS (a : Sv F S as ag x0 F' S' as' ag' x1) {z : List Nat} (hn : (fpS (as ++ ag) ++ (z ++ x0)).Nodup) (hz : ∀ n ∈ z, n < S.length) : Sv F S as ag (z ++ x0) F' S' as' ag' (z ++ x1) := by
  obtain ⟨_, h2, h3⟩ := a.frame hn hz
  refine ⟨a.good, h2, h3, a.mono, a.len, fun n hl hx => a.keep n hl fun h => hx ?_, fun n h => ?_, a.gg⟩
  · rcases List.mem_append.mp h with t | t
    · exact List.mem_append_left _ t
    · exact List.mem_append_right _ (List.mem_append_right _ t)
  · have : n ∈ z ∨ n ∈ fpS (as' ++ ag') ++ x1 := by
      simp only [List.mem_append] at h ⊢
      rcases h with h | h | h <;> simp [h]
    rcases this with t | t
    · exact .inl (List.mem_append_right _ (List.mem_append_left _ t))
    · rcases a.new n t with u | u
      · left
        simp only [List.mem_append] at u ⊢
        rcases u with u | u <;> simp [u]
      · exact .inr u
structure LcI (q : Bool) (vs : List Nat) (F0 : FM) (S0 : Sto) (as0 ag0 : List AV) (n0 : Nat) (F : FM) (S : Sto) (as ag : List AV) (acc : List A) : Prop where
  ev : Ev q F0 S0 as0 ag0 [] F S as ag (n0 :: A.fps acc)
  ob : S[n0]? = some (.lst (A.pvs acc))
  fr : F n0 = none
  oks : A.oks F S acc
  rv : ∀ v ∈ vs, rootA as ag (.l v) = slotA (some (keepA as0 ag0 (as0.getD v (.un none))))
  len : as.length = as0.length
theorem kp_cst {z : AV} (h : okV z.er = true) (hz : z.ok F S) (m : Mono F F') : Cst F' S' (keepA as ag z) (glv as ag (0, 0) z) := by
  cases z with
  | v a =>
    have hs : a.shr = true := by rw [← shr_er]; exact h
    have f0 := fp_shr hz hs
    exact ⟨f0, ok_frame m (by rw [f0]; intro n hn; cases hn) hz, fun _ _ _ => rfl, fun _ _ => trivial⟩
  | io a => cases h
  | xn C ns xs => cases h
  | un o => exact ⟨rfl, trivial, fun _ _ _ => rfl, fun _ _ => trivial⟩
  | al r p => exact ⟨rfl, trivial, fun _ _ _ => rfl, fun _ _ => trivial⟩
theorem gl_const {z : AV} (h : okV z.er = true) (ad : AD) : glv as ag ad z = glv as ag (0, 0) z := by
  cases z with
  | xn C ns xs => cases h
  | _ => rfl
section
variable {q : Bool} {vs : List Nat} {F0 : FM} {S0 : Sto} {as0 ag0 : List AV} {n0 : Nat} {acc : List A}
theorem lc_mid (hvs : ∀ v ∈ vs, v < as0.length ∧ okV (as0.getD v (.un none)).er = true) (g0 : Good F0 S0 as0 ag0) (I : LcI q vs F0 S0 as0 ag0 n0 F S as ag acc) {asw agw as1 ag1 as4 ag4 : List AV} {F1 F4 : FM} {S1 S4 : Sto} {a : List Nat}
    (hw : Res F S vs (fun _ => .un none) (fun _ => none) as ag asw agw) (ap : Apart vs asw agw as1 ag1) (sv1 : Sv F S asw agw [] F1 S1 as1 ag1 []) (ev : Ev q F1 S1 as1 ag1 [] F4 S4 as4 ag4 a) (hl4 : as4.length = as0.length) :
    Ev q F S as ag [] F4 S4 (resA (fun v => keepA as0 ag0 (as0.getD v (.un none))) vs as4 ag4).1 (resA (fun v => keepA as0 ag0 (as0.getD v (.un none))) vs as4 ag4).2 a ∧
      (∀ v ∈ vs, rootA (resA (fun v => keepA as0 ag0 (as0.getD v (.un none))) vs as4 ag4).1 (resA (fun v => keepA as0 ag0 (as0.getD v (.un none))) vs as4 ag4).2 (.l v) = slotA (some (keepA as0 ag0 (as0.getD v (.un none))))) ∧
      (resA (fun v => keepA as0 ag0 (as0.getD v (.un none))) vs as4 ag4).1.length = as0.length := by
  have zmem : ∀ v, v < as0.length → as0.getD v (.un none) ∈ as0 ++ ag0 := fun v hv => by
    rw [List.getD_eq_getElem?_getD, List.getElem?_eq_getElem hv]
    exact List.mem_append_left _ (List.getElem_mem hv)
  have m4 : Mono F0 F4 := I.ev.mono.trans (hw.sv.mono.trans (sv1.mono.trans ev.mono))
  have B := res_sim (F := F4) (S := S4) (fun v => keepA as0 ag0 (as0.getD v (.un none))) (fun v => glv as0 ag0 (0, 0) (as0.getD v (.un none))) vs as4 ag4 (fun v hv => kp_cst (hvs v hv).2 (g0.ok _ (zmem v (hvs v hv).1)) m4) ev.good (fun v hv => by rw [hl4]; exact (hvs v hv).1)
  generalize (resA (fun v => keepA as0 ag0 (as0.getD v (.un none))) vs as4 ag4).1 = as5 at B ⊢
  generalize (resA (fun v => keepA as0 ag0 (as0.getD v (.un none))) vs as4 ag4).2 = ag5 at B ⊢
  have svB := B.sv.frameS (z := a) (by rw [List.append_nil]; exact ev.nd) ev.lt
  rw [List.append_nil] at svB
  have all := ((hw.sv.trans sv1).trans ev.sv).trans svB
  have gl0 : ∀ ad j, j < as0.length → (glS as0 ag0 ad as0)[j]? = some (glv as0 ag0 ad (as0.getD j (.un none))) := fun ad j hj => by
    rw [glS, List.getElem?_map, List.getElem?_eq_getElem hj, List.getD_eq_getElem?_getD, List.getElem?_eq_getElem hj]; rfl
  have roots : ∀ r, (∀ v ∈ vs, r ≠ .l v) → rootA as1 ag1 r = rootA as ag r := fun r hr => (ap.2.1 r hr).trans (hw.rt r hr)
  have gl5 : ∀ ad, glS as5 ag5 ad as5 = glS as ag ad as := fun ad => by
    apply List.ext_getElem?
    intro j
    by_cases hj : j ∈ vs
    · rw [B.inn ad j hj, I.ev.gl ad, gl0 ad j (hvs j hj).1, gl_const (hvs j hj).2 ad]
    · rw [B.out ad j hj, ev.gl ad, ap.1 ad j hj, hw.out ad j hj]
  have decR : ∀ r : Rt, (∃ v ∈ vs, r = .l v) ∨ ∀ v ∈ vs, r ≠ .l v := fun r => by
    by_cases h : ∃ v ∈ vs, r = .l v
    · exact .inl h
    · exact .inr fun v hv e => h ⟨v, hv, e⟩
  refine ⟨⟨all.good, all.nd, all.lt, all.mono, all.len, all.keep, all.new, gl5, all.gg, fun r w h => ?_, fun hq r p w h => ?_⟩, B.rv, B.len.trans hl4⟩
  · rcases decR r with ⟨v, hv, rfl⟩ | hr
    · rw [B.rv v hv, ← I.rv v hv]; exact h
    · rw [B.rt r hr]
      exact ev.rt r w (by rw [roots r hr]; exact h)
  · rcases decR r with ⟨v, hv, rfl⟩ | hr
    · unfold atA at h ⊢
      rw [B.rv v hv, ← I.rv v hv]; exact h
    · have e1 : (atA as1 ag1 r p).map A.pv = some w := by
        unfold atA at h ⊢
        rw [roots r hr]; exact h
      have := ev.per hq r p w e1
      unfold atA at this ⊢
      rw [B.rt r hr]; exact this
end
theorem Ev.llen {q : Bool} (e : Ev q F S as ag x0 F' S' as' ag' x1) : as'.length = as.length := by
  have := congrArg List.length (e.gl (0, 0))
  simpa [glS] using this
theorem lc_push {n0 : Nat} {acc : List A} {a : A} (g : Good F S as ag) (nd : (fpS (as ++ ag) ++ ((n0 :: A.fps acc) ++ a.fp)).Nodup) (lt : ∀ n ∈ (n0 :: A.fps acc) ++ a.fp, n < S.length) (fr : F n0 = none) (ok1 : A.oks F S acc) (ok2 : a.ok F S) :
    Ev true F S as ag ((n0 :: A.fps acc) ++ a.fp) F (S.set n0 (.lst (A.pvs acc ++ [a.pv]))) as ag (n0 :: A.fps (acc ++ [a])) ∧ A.oks F (S.set n0 (.lst (A.pvs acc ++ [a.pv]))) (acc ++ [a]) ∧ (S.set n0 (.lst (A.pvs acc ++ [a.pv])))[n0]? = some (.lst (A.pvs (acc ++ [a]))) := by
  have n1 := (List.nodup_append.mp nd).2.1
  have e0 : (n0 :: A.fps acc) ++ a.fp = n0 :: A.fps (acc ++ [a]) := by rw [fps_app]; simp [A.fps]
  rw [e0] at nd lt n1 ⊢
  have nn := (List.nodup_cons.mp n1).1
  have gr : ∀ n, n ≠ n0 → (S.set n0 (.lst (A.pvs acc ++ [a.pv])))[n]? = S[n]? := fun n hn => List.getElem?_set_ne (fun e => hn e.symm)
  have fs : FS F (S.set n0 (.lst (A.pvs acc ++ [a.pv]))) := fun m b o e => by
    exact (g.fs m b o e).to (gr m (fun h => by subst h; rw [fr] at e; cases e))
  refine ⟨ev_same g nd Mono.refl fs (by simp) (fun n hn hx => ⟨rfl, gr n fun e => hx (e ▸ List.mem_cons_self)⟩) n1 (fun n h => .inl h) (fun n h => by rw [List.length_set]; exact lt n h), ?_, ?_⟩
  · have := oks_app ok1 (show A.oks F S [a] from ⟨ok2, trivial⟩)
    rw [oks_iff] at this ⊢
    exact fun x hx => ok_frame Mono.refl (fun n hn => ⟨rfl, gr n fun e => nn (by rw [← e, fps_map]; exact List.mem_flatMap.mpr ⟨x, hx, hn⟩)⟩) (this x hx)
  · rw [List.getElem?_set_self (lt n0 List.mem_cons_self), pvs_app]; rfl
section
variable {q : Bool} {vs : List Nat} {gg : GL.MG} {g : MG} {mt : AD → GL.MT} {tt : PT} {me : AD → GL.ME} {te : PE} {chk : Nat → Sto → Bool} {F0 : FM} {S0 : Sto} {as0 ag0 : List AV} {n0 : Nat}
theorem lcV_sim (hg : SimGt vs gg g) (ht : SimT q mt tt) (he : SimE q me te) (hvs : ∀ v ∈ vs, v < as0.length ∧ okV (as0.getD v (.un none)).er = true) (g0 : Good F0 S0 as0 ag0) : ∀ (ks : List A) (i : Nat) (F : FM) (S : Sto) (as ag : List AV) (acc : List A), LcI q vs F0 S0 as0 ag0 n0 F S as ag acc →
    A.fps ks = [] → A.oks F S ks → (∀ F' S' j, Mono F F' → FS F' S' → chk j S' = true) →
    SimO q RE F0 S0 as0 ag0 [] (fun ad => GL.lcGo chk gg (mt ad) (me ad) vs n0 (glS as0 ag0 ad as0) i (A.pvs ks) S) (lcV g tt te vs (erS as0) (A.ers ks) (A.ers acc) (erS as) (erS ag))
  | [], i, F, S, as, ag, acc, I, _, _, hc => by
    refine ⟨F, S, as, ag, .v (.nd .ow n0 .lst acc), .loc n0, rfl, rfl, by simp [RE, ARV.er, A.er], fun ad => ?_, rfl, ?_, ?_⟩
    · show GL.lcGo chk gg (mt ad) (me ad) vs n0 _ i [] S = _
      rw [GL.lcGo, if_pos (hc F S i Mono.refl I.ev.good.fs)]
    · show A.ok F S _
      simp only [A.ok]
      exact ⟨⟨I.fr, I.ob⟩, rfl, I.oks⟩
    · exact I.ev
  | k :: t, i, F, S, as, ag, acc, I, fk, ok, hc => by
    have fk : k.fp ++ A.fps t = [] := fk
    obtain ⟨f1, f2⟩ := List.append_eq_nil_iff.mp fk
    have ef : (ARV.v k).fp = [] := f1
    have gd := I.ev.good
    have W := res_sim (F := F) (S := S) (fun _ => AV.un none) (fun _ => none) vs as ag (fun v hv => ⟨rfl, trivial, fun _ _ _ => rfl, fun _ _ => trivial⟩) gd (fun v hv => by rw [I.len]; exact (hvs v hv).1)
    have we := res_er (fun _ => AV.un none) vs as ag
    have be : ∀ as4 ag4, (erS (resA (fun v => keepA as0 ag0 (as0.getD v (.un none))) vs as4 ag4).1, erS (resA (fun v => keepA as0 ag0 (as0.getD v (.un none))) vs as4 ag4).2) = resD (fun v => keepV ((erS as0).getD v none)) vs (erS as4) (erS ag4) := fun as4 ag4 => by
      rw [res_er]
      congr 1
      funext v
      rw [keep_er]
      congr 1
      rw [List.getD_eq_getElem?_getD, List.getD_eq_getElem?_getD, erS, List.getElem?_map]
      cases as0[v]? <;> rfl
    show SimO _ _ _ _ _ _ _ _ (match g (.v k.er) (resD (fun _ => none) vs (erS as) (erS ag)).1 (resD (fun _ => none) vs (erS as) (erS ag)).2 with
    | none => .bad
    | some z => (match tt z.1 z.2 with
      | .ok true ls2 gh2 => (match te ls2 gh2 with
        | .ok x ls3 gh3 => (match cvR true x ls3 gh3 with
          | some (e, ls4, gh4) => if (A.ers acc).length < lim then lcV g tt te vs (erS as0) (A.ers t) (A.ers acc ++ [e]) (resD (fun v => keepV ((erS as0).getD v none)) vs ls4 gh4).1 (resD (fun v => keepV ((erS as0).getD v none)) vs ls4 gh4).2 else .bad
          | none => .bad)
        | _ => .bad)
      | .ok false ls2 gh2 => lcV g tt te vs (erS as0) (A.ers t) (A.ers acc) (resD (fun v => keepV ((erS as0).getD v none)) vs ls2 gh2).1 (resD (fun v => keepV ((erS as0).getD v none)) vs ls2 gh2).2
      | _ => .bad))
    rw [show resD (fun _ => (none : Option V)) vs (erS as) (erS ag) = (erS (resA (fun _ => AV.un none) vs as ag).1, erS (resA (fun _ => AV.un none) vs as ag).2) from we.symm]
    generalize (resA (fun _ => AV.un none) vs as ag).1 = asw at W ⊢
    generalize (resA (fun _ => AV.un none) vs as ag).2 = agw at W ⊢
    dsimp only
    cases hz : g (.v k.er) (erS asw) (erS agw) with
    | none => trivial
    | some z =>
      have gw := W.sv.good
      have kok : k.ok F S := ok.1
      obtain ⟨as1, ag1, a1, a2, a3, ap, sv1⟩ := hg F S asw agw (.v k) k.pv z.1 z.2 gw (by rw [ef, List.append_nil]; exact gw.nd) (by rw [ef]; intro n h; cases h) rfl kok hz
      rw [ef] at sv1
      have glw : ∀ ad, glS asw agw ad asw = GL.wipeL (glS as0 ag0 ad as0) vs := fun ad => by
        apply List.ext_getElem?
        intro j
        by_cases hj : j ∈ vs
        · rw [W.inn ad j hj, wipe_in vs _ j hj (by simpa [glS] using (hvs j hj).1)]
        · rw [W.out ad j hj, wipe_out vs _ j hj, I.ev.gl]
      have head : ∀ ad, GL.lcGo chk gg (mt ad) (me ad) vs n0 (glS as0 ag0 ad as0) i (A.pvs (k :: t)) S = (match mt ad (glS as1 ag1 ad as1) S with
          | .ok true S1 => (match me ad (glS as1 ag1 ad as1) S1 with
            | .ok w S2 => (match GL.lstAt S2 n0 with
              | some acc => if acc.length < lim then GL.lcGo chk gg (mt ad) (me ad) vs n0 (glS as0 ag0 ad as0) (i + 1) (A.pvs t) (S2.set n0 (.lst (acc ++ [w]))) else .bad
              | none => .bad)
            | _ => .bad)
          | .ok false S1 => GL.lcGo chk gg (mt ad) (me ad) vs n0 (glS as0 ag0 ad as0) (i + 1) (A.pvs t) S1
          | _ => .bad) := fun ad => by
        show GL.lcGo chk gg (mt ad) (me ad) vs n0 _ i (k.pv :: A.pvs t) S = _
        rw [GL.lcGo, if_pos (hc F S i Mono.refl gd.fs), ← glw ad, a3]
        all_goals rfl
      dsimp only
      rw [← a1, ← a2]
      have h2 := ht F S as1 ag1 sv1.good
      have L1 : as1.length = as0.length := ap.2.2.trans (W.len.trans I.len)
      have ndz : (fpS (as ++ ag) ++ ((n0 :: A.fps acc) ++ [])).Nodup := by rw [List.append_nil]; exact I.ev.nd
      cases hp : tt (erS as1) (erS ag1) with
      | bad => trivial
      | exc e ls gh => trivial
      | ok b ls gh =>
        rw [hp] at h2
        obtain ⟨F2, S2, as2, ag2, c2, w2, rfl, rfl, e3, b4, b5, _, ev2⟩ := h2
        have e3 : c2 = b := e3
        subst e3
        cases b5
        cases c2 with
        | false =>
          dsimp only
          have mid := lc_mid hvs g0 I W ap sv1 (show Ev q F S as1 ag1 [] F2 S2 as2 ag2 [] from ev2) (ev2.llen.trans L1)
          rw [show resD (fun v => keepV ((erS as0).getD v none)) vs (erS as2) (erS ag2) = _ from (be as2 ag2).symm]
          obtain ⟨evm, rvm, lnm⟩ := mid
          generalize (resA (fun v => keepA as0 ag0 (as0.getD v (.un none))) vs as2 ag2).1 = as5 at evm rvm lnm ⊢
          generalize (resA (fun v => keepA as0 ag0 (as0.getD v (.un none))) vs as2 ag2).2 = ag5 at evm rvm ⊢
          have evf := evm.frame ndz I.ev.lt
          rw [List.append_nil] at evf
          have keepz : ∀ n ∈ n0 :: A.fps acc, F2 n = F n ∧ S2[n]? = S[n]? := fun n hn => evm.keep n (I.ev.lt n hn) fun h => by
            rw [List.append_nil] at h
            exact (List.nodup_append.mp I.ev.nd).2.2 n h n hn rfl
          have I2 : LcI q vs F0 S0 as0 ag0 n0 F2 S2 as5 ag5 acc := ⟨(I.ev.trans evf).weak (fun h => by rw [h]; rfl), by rw [(keepz n0 List.mem_cons_self).2]; exact I.ob, by rw [(keepz n0 List.mem_cons_self).1]; exact I.fr, by
            have := I.oks
            rw [oks_iff] at this ⊢
            exact fun x hx => ok_frame evm.mono (fun n hn => keepz n (List.mem_cons_of_mem _ (by rw [fps_map]; exact List.mem_flatMap.mpr ⟨x, hx, hn⟩))) (this x hx), rvm, lnm⟩
          have h3 := lcV_sim hg ht he hvs g0 t (i + 1) F2 S2 as5 ag5 acc I2 f2 (oks_mono evm.mono ok.2 f2) (fun F' S' j m fs => hc F' S' j (evm.mono.trans m) fs)
          have e5 : (fun ad => GL.lcGo chk gg (mt ad) (me ad) vs n0 (glS as0 ag0 ad as0) i (A.pvs (k :: t)) S) = fun ad => GL.lcGo chk gg (mt ad) (me ad) vs n0 (glS as0 ag0 ad as0) (i + 1) (A.pvs t) S2 := by
            funext ad
            rw [head ad, show mt ad (glS as1 ag1 ad as1) S = _ from b4 ad]
          rw [e5]
          exact h3
        | true =>
          dsimp only
          have h4 := he F2 S2 as2 ag2 ev2.good
          cases hq : te (erS as2) (erS ag2) with
          | bad => trivial
          | exc e ls gh => trivial
          | ok x ls gh =>
            rw [hq] at h4
            obtain ⟨F3, S3, as3, ag3, c3, w3, rfl, rfl, rfl, d4, d5, d6, ev3⟩ := h4
            dsimp only
            show SimO _ _ _ _ _ _ _ _ (match cvR true c3.er (erS as3) (erS ag3) with
              | some (e, ls4, gh4) => if (A.ers acc).length < lim then lcV g tt te vs (erS as0) (A.ers t) (A.ers acc ++ [e]) (resD (fun v => keepV ((erS as0).getD v none)) vs ls4 gh4).1 (resD (fun v => keepV ((erS as0).getD v none)) vs ls4 gh4).2 else .bad
              | none => .bad)
            cases hv : cvR true c3.er (erS as3) (erS ag3) with
            | none => trivial
            | some u =>
              obtain ⟨d, l4, g4⟩ := u
              obtain ⟨F4, as4, ag4, a, rfl, rfl, rfl, rfl, aok, _, ev4⟩ := cv_sim0 ev3.good ev3.nd ev3.lt d5 d6 hv
              dsimp only
              by_cases hl : (A.ers acc).length < lim
              · rw [if_pos hl]
                have evq : Ev q F S as1 ag1 [] F4 S3 as4 ag4 a.fp := ((show Ev q F S as1 ag1 [] F2 S2 as2 ag2 [] from ev2).trans ((show Ev q F2 S2 as2 ag2 [] F3 S3 as3 ag3 c3.fp from ev3).trans ev4)).weak (fun h => by rw [h]; rfl)
                have mid := lc_mid hvs g0 I W ap sv1 evq (evq.llen.trans L1)
                rw [show resD (fun v => keepV ((erS as0).getD v none)) vs (erS as4) (erS ag4) = _ from (be as4 ag4).symm]
                obtain ⟨evm, rvm, lnm⟩ := mid
                generalize (resA (fun v => keepA as0 ag0 (as0.getD v (.un none))) vs as4 ag4).1 = as5 at evm rvm lnm ⊢
                generalize (resA (fun v => keepA as0 ag0 (as0.getD v (.un none))) vs as4 ag4).2 = ag5 at evm rvm ⊢
                have evf := evm.frame ndz I.ev.lt
                rw [List.append_nil] at evf
                have keepz : ∀ n ∈ n0 :: A.fps acc, F4 n = F n ∧ S3[n]? = S[n]? := fun n hn => evm.keep n (I.ev.lt n hn) fun h => by
                  rw [List.append_nil] at h
                  exact (List.nodup_append.mp I.ev.nd).2.2 n h n hn rfl
                have acok : A.oks F4 S3 acc := by
                  have := I.oks
                  rw [oks_iff] at this ⊢
                  exact fun x hx => ok_frame evm.mono (fun n hn => keepz n (List.mem_cons_of_mem _ (by rw [fps_map]; exact List.mem_flatMap.mpr ⟨x, hx, hn⟩))) (this x hx)
                have fr4 : F4 n0 = none := by rw [(keepz n0 List.mem_cons_self).1]; exact I.fr
                obtain ⟨evp, okp, obp⟩ := lc_push evf.good evf.nd evf.lt fr4 acok aok
                have I2 : LcI q vs F0 S0 as0 ag0 n0 F4 (S3.set n0 (.lst (A.pvs acc ++ [a.pv]))) as5 ag5 (acc ++ [a]) := ⟨(I.ev.trans (evf.trans evp)).weak (fun h => by rw [h]; rfl), obp, fr4, okp, rvm, lnm⟩
                have h3 := lcV_sim hg ht he hvs g0 t (i + 1) F4 _ as5 ag5 (acc ++ [a]) I2 f2 (oks_mono evm.mono ok.2 f2) (fun F' S' j m fs => hc F' S' j (evm.mono.trans m) fs)
                have e5 : (fun ad => GL.lcGo chk gg (mt ad) (me ad) vs n0 (glS as0 ag0 ad as0) i (A.pvs (k :: t)) S) = fun ad => GL.lcGo chk gg (mt ad) (me ad) vs n0 (glS as0 ag0 ad as0) (i + 1) (A.pvs t) (S3.set n0 (.lst (A.pvs acc ++ [a.pv]))) := by
                  funext ad
                  rw [head ad, show mt ad (glS as1 ag1 ad as1) S = _ from b4 ad]
                  dsimp only
                  rw [← ev2.gl ad, show me ad (glS as2 ag2 ad as2) S2 = _ from d4 ad]
                  dsimp only
                  rw [lstAt_of (xs := A.pvs acc) (by rw [(keepz n0 List.mem_cons_self).2]; exact I.ob)]
                  dsimp only
                  rw [if_pos (by rw [pvs_len, ← ers_len]; exact hl)]
                rw [e5, show A.ers acc ++ [a.er] = A.ers (acc ++ [a]) from by rw [ers_app]; rfl]
                exact h3
              · rw [if_neg hl]; trivial
theorem sim_lc {mi : AD → GL.MI} {pi : PI} {qi : Bool} (hi : SimI qi mi pi) (hg : SimGt vs gg g) (ht : SimT q mt tt) (he : SimE q me te) : SimE (qi && q) (fun ad => GL.eLc (mi ad) gg (mt ad) (me ad) vs) (eLc pi g tt te vs) := fun F S as ag gd =>
  sim_first (R' := RE) (q' := q) (k := fun (ds : List D) (ls gh : Ls) => if (vs.all fun v => decide (v < ls.length) && okV (ls.getD v none)) = true then lcV g tt te vs ls ds [] ls gh else .bad) (f := fun (ad : AD) (t : GL.Wk) (S1 : Sto) => GL.lcGo t.chk gg (mt ad) (me ad) vs S1.length (glS as ag ad as) 0 t.items (S1 ++ [OB.lst []])) hi gd (fun _ => rfl) fun F1 S1 as1 ag1 c w h1 h2 g1 n1 l1 L1 => by
    cases h1
    obtain ⟨fk, ok, hc⟩ := h2
    by_cases hv : (vs.all fun v => decide (v < (erS as1).length) && okV ((erS as1).getD v none)) = true
    · simp only [if_pos hv]
      have hvs : ∀ v ∈ vs, v < as1.length ∧ okV (as1.getD v (.un none)).er = true := fun v hm => by
        have := List.all_eq_true.mp hv v hm
        obtain ⟨p1, p2⟩ := Bool.and_eq_true_iff.mp this
        have p1 := of_decide_eq_true p1
        have p1 : v < as1.length := by simpa [erS] using p1
        refine ⟨p1, ?_⟩
        rw [List.getD_eq_getElem?_getD, erS, List.getElem?_map, List.getElem?_eq_getElem p1] at p2
        rw [List.getD_eq_getElem?_getD, List.getElem?_eq_getElem p1]
        exact p2
      have hF : F1 S1.length = none := by
        cases hf : F1 S1.length with
        | none => rfl
        | some z =>
          obtain ⟨b, o⟩ := z
          have := (g1.fs _ _ _ hf).lt
          omega
      have gr : ∀ n, n < S1.length → (S1 ++ [OB.lst []])[n]? = S1[n]? := fun n hn => List.getElem?_append_left hn
      have fs : FS F1 (S1 ++ [OB.lst []]) := fun n b o e => by
        have := g1.fs n b o e
        exact this.to (gr n this.lt)
      have ev0 : Ev q F1 S1 as1 ag1 [] F1 (S1 ++ [OB.lst []]) as1 ag1 (S1.length :: A.fps []) := by
        refine ev_same g1 (good_nd g1) Mono.refl fs (by simp) (fun n hn _ => ⟨rfl, gr n hn⟩) (by simp [A.fps]) (fun n hn => ?_) (fun n hn => ?_)
        · simp [A.fps] at hn; exact .inr (by omega)
        · simp [A.fps] at hn; simp; omega
      have I0 : LcI q vs F1 S1 as1 ag1 S1.length F1 (S1 ++ [OB.lst []]) as1 ag1 [] := ⟨ev0, by rw [List.getElem?_append_right (Nat.le_refl _)]; simp [A.pvs], hF, trivial, fun v hm => by
        show slotA as1[v]? = slotA (some (keepA as1 ag1 (as1.getD v (.un none))))
        have p1 := (hvs v hm).1
        have p2 := (hvs v hm).2
        rw [List.getD_eq_getElem?_getD, List.getElem?_eq_getElem p1] at p2 ⊢
        simp only [Option.getD_some] at p2 ⊢
        cases hz : as1[v] with
        | io a => rw [hz] at p2; cases p2
        | xn C ns xs => rfl
        | v a => rfl
        | un o => rfl
        | al r p => rfl, rfl⟩
      have := lcV_sim hg ht he hvs g1 c.1 0 F1 _ as1 ag1 [] I0 fk (oks_mono Mono.refl ok fk) hc
      have e5 : (fun ad => GL.lcGo c.2 gg (mt ad) (me ad) vs S1.length (glS as ag ad as) 0 (A.pvs c.1) (S1 ++ [OB.lst []])) = fun ad => GL.lcGo c.2 gg (mt ad) (me ad) vs S1.length (glS as1 ag1 ad as1) 0 (A.pvs c.1) (S1 ++ [OB.lst []]) := by
        funext ad; rw [L1]
      show SimO q RE F1 S1 as1 ag1 [] (fun ad => GL.lcGo c.2 gg (mt ad) (me ad) vs S1.length (glS as ag ad as) 0 (A.pvs c.1) (S1 ++ [OB.lst []])) _
      rw [e5]
      exact this
    · simp only [if_neg hv]; trivial
end
end VL
set_option Elab.async false
set_option linter.all false
set_option maxRecDepth 100000
set_option maxHeartbeats 1000000
namespace VL
open GL (PV OB Sto Nm BT lim)
open PySem (PyData Builtin)
variable {F F' F'' : FM} {S S' S'' : Sto} {as as' as'' ag ag' ag'' : List AV} {x0 x1 x2 : List Nat}
theorem vl_end {f : GL.MF} {p : MF} (hf : SimFn f p) (ns : List Int) (h : p [.v (.nd .fz .rol (ns.map D.int))] [] = .ok (.bl true) []) : ∃ S, f [.loc 0] [.rol (ns.map .int)] = .ok (.bl true) S := by
  let a : A := .nd .fz 0 .rol (aInts ns)
  let F : FM := fun n => if n = 0 then some (true, .rol (ns.map .int)) else none
  have fs : FS F [.rol (ns.map .int)] := fun n b o e => by
    by_cases hn : n = 0
    · subst hn
      have : (true, OB.rol (ns.map PV.int)) = (b, o) := by simpa [F] using e
      cases this; exact .inl rfl
    · simp [F, hn] at e
  have aok : a.ok F [.rol (ns.map .int)] := by
    simp only [a, A.ok]
    exact ⟨by simp [F, mkO, aInts_pv], rfl, aInts_fp ns, aInts_ok ns⟩
  have afp : a.fp = [] := by simp only [a, A.fp]; exact aInts_fp ns
  have g : Good F [.rol (ns.map .int)] [.v a] [] := by
    refine ⟨fs, fun z hz => ?_, ?_, fun z hz => ?_⟩
    · rw [List.append_nil, List.mem_singleton] at hz; subst hz; exact aok
    · simp [fpS, AV.fp, afp]
    · rw [List.append_nil, List.mem_singleton] at hz; subst hz; trivial
  have h2 := hf F _ [.v a] [] [.v (.nd .fz .rol (ns.map D.int))] [.loc 0] g (by simp [a, erS, AV.er, A.er, aInts_er]) (fun ad => rfl)
  have h3 : p [.v (.nd .fz .rol (ns.map D.int))] (([] : List A).map A.er) = .ok (.bl true) [] := h
  rw [h3] at h2
  obtain ⟨F', S', hs', b, _, e2, e3, _, _⟩ := h2
  have : b = .sc (.bl true) := er_sc e2
  subst this
  exact ⟨S', e3⟩
end VL
set_option Elab.async false
set_option linter.all false
set_option maxRecDepth 100000
set_option maxHeartbeats 1000000
namespace VL
open GL (PV OB Sto Nm BT lim)
open PySem (PyData Builtin)
variable {F F' F'' : FM} {S S' S'' : Sto} {as as' as'' ag ag' ag'' : List AV} {x0 x1 x2 : List Nat}
def distG (seen : List PV) : List PV → Bool
  | [] => true
  | k :: r => (idxK k seen).isNone && distG (seen ++ [k]) r
theorem merge_dist : ∀ (ks : List PV) (us : List PV) (sk su : List PV), ks.length = us.length → sk.length = su.length → distG sk ks = true → GL.mergeP (sk.zip su) (ks.zip us) = (sk ++ ks).zip (su ++ us)
  | [], [], sk, su, _, _, _ => by simp [GL.mergeP]
  | [], _ :: _, _, _, h, _, _ => by cases h
  | _ :: _, [], _, _, h, _, _ => by cases h
  | k :: r, u :: t, sk, su, h, hs, hd => by
    obtain ⟨h1, h2⟩ := Bool.and_eq_true_iff.mp (show ((idxK k sk).isNone && distG (sk ++ [k]) r) = true from hd)
    have hl := lookP_zip (k := k) sk su hs
    rw [Option.isNone_iff_eq_none.mp h1] at hl
    have ih := merge_dist r t (sk ++ [k]) (su ++ [u]) (Nat.succ.inj h) (by simp [hs]) h2
    show GL.mergeP (GL.putP k u (sk.zip su)) (r.zip t) = _
    have e : GL.putP k u (sk.zip su) = (sk ++ [k]).zip (su ++ [u]) := by
      unfold GL.putP
      rw [hl, List.zip_append hs]; rfl
    rw [e, ih]
    simp
end VL
set_option Elab.async false
set_option linter.all false
set_option maxRecDepth 100000
set_option maxHeartbeats 1000000
namespace VL
open GL (PV OB Sto Nm BT lim)
open PySem (PyData Builtin)
variable {F F' F'' : FM} {S S' S'' : Sto} {as as' as'' ag ag' ag'' : List AV} {x0 x1 x2 : List Nat}
theorem SimX.weak {α β γ : Type} {q q' : Bool} {R : RT α β γ} {m : AD → GL.Ls → Sto → GL.Out α} {p : PX β} (h : SimX q R m p) (hq : q' = true → q = true) : SimX q' R m p := fun F S as ag g => (h F S as ag g).weak hq
end VL
set_option Elab.async false
set_option linter.all false
set_option maxRecDepth 100000
set_option maxHeartbeats 1000000
namespace VL
open GL (PV OB Sto Nm BT lim)
open PySem (PyData Builtin)
variable {F F' F'' : FM} {S S' S'' : Sto} {as as' as'' ag ag' ag'' : List AV} {x0 x1 x2 : List Nat}
theorem preNil (g : Good F S as ag) (nd : (fpS (as ++ ag) ++ x0).Nodup) (lt : ∀ n ∈ x0, n < S.length) {o : AD → GL.SOut} {p : SOut} (h : SimSO F S as ag [] o p) : SimSO F S as ag x0 o p := preSub g nd lt (List.nil_sublist _) h
end VL
set_option Elab.async false
set_option linter.all false
set_option maxRecDepth 100000
set_option maxHeartbeats 1000000
namespace VL
open GL (PV OB Sto Nm BT lim)
open PySem (PyData Builtin)
variable {F F' F'' : FM} {S S' S'' : Sto} {as as' as'' ag ag' ag'' : List AV} {x0 x1 x2 : List Nat}
def findIO : List Nat → List RV → Option (Rt × List Nat)
  | 1 :: _, .pth r p :: _ => some (r, p)
  | _ :: ms, _ :: xs => findIO ms xs
  | _, _ => none
def convM (r : Rt) (p : List Nat) : List Nat → List RV → Ls → Ls → Option (List V × Ls × Ls)
  | [], [], ls, gh => some ([], ls, gh)
  | 0 :: ms, x :: xs, ls, gh => match cvR true x ls gh with
    | some (d, ls, gh) => (match convM r p ms xs ls gh with
      | some (vs, ls, gh) => some (.v d :: vs, ls, gh)
      | none => none)
    | none => none
  | _ :: ms, .pth r' p' :: xs, ls, gh => if r' = r then (match cut p p' with
      | some s => (match convM r p ms xs ls gh with
        | some (vs, ls, gh) => some (.al (.g 0) s :: vs, ls, gh)
        | none => none)
      | none => none) else none
  | _ :: ms, .v d :: xs, ls, gh => (match convM r p ms xs ls gh with
      | some (vs, ls, gh) => some (.v d :: vs, ls, gh)
      | none => none)
  | _, _, _, _ => none
inductive ACv where
  | v (a : A) | al (s : List Nat)
def ACv.av : ACv → AV
  | .v a => .v a
  | .al s => .al (.g 0) s
def ACv.fp : ACv → List Nat
  | .v a => a.fp
  | _ => []
def ACv.V : ACv → V
  | .v a => .v a.er
  | .al s => .al (.g 0) s
def ACv.ok (F : FM) (S : Sto) : ACv → Prop
  | .v a => a.ok F S
  | _ => True
def ACv.pv (x : A) : ACv → Option PV
  | .v a => some a.pv
  | .al s => (getA s x).map A.pv
abbrev fpC (cs : List ACv) : List Nat := cs.flatMap ACv.fp
def ACv.pvS (as ag : List AV) (r : Rt) (p : List Nat) : ACv → Option PV
  | .v a => some a.pv
  | .al s => (atA as ag r (p ++ s)).map A.pv
theorem convM_sim {r : Rt} {p : List Nat} : ∀ {ms : List Nat} {cs : List ARV} {F : FM} {as ag : List AV} {ws : List PV} {vs : List V} {ls' gh' : Ls}, Good F S as ag → (fpS (as ++ ag) ++ RA.fp cs).Nodup → (∀ n ∈ RA.fp cs, n < S.length) → RA.pv as ag cs = some ws → RA.ok F S cs →
    convM r p ms (cs.map ARV.er) (erS as) (erS ag) = some (vs, ls', gh') →
    ∃ (F' : FM) (as' ag' : List AV) (es : List ACv), erS as' = ls' ∧ erS ag' = gh' ∧ es.map ACv.V = vs ∧ seqO (es.map (ACv.pvS as' ag' r p)) = some ws ∧ (∀ e ∈ es, e.ok F' S) ∧ Ev true F S as ag (RA.fp cs) F' S as' ag' (fpC es)
  | [], [], F, as, ag, ws, vs, ls', gh', g, nd, lt, hp, hk, h => by
    simp only [List.map_nil, convM, Option.some.injEq, Prod.mk.injEq] at h
    obtain ⟨rfl, rfl, rfl⟩ := h
    cases hp
    exact ⟨F, as, ag, [], rfl, rfl, rfl, rfl, (fun e h => by cases h), Ev.refl g nd lt⟩
  | [], _ :: _, _, _, _, _, _, _, _, _, _, _, _, _, h => by simp [convM] at h
  | _ :: _, [], _, _, _, _, _, _, _, _, _, _, _, _, h => by simp [convM] at h
  | m :: ms, c :: cr, F, as, ag, ws, vs, ls', gh', g, nd, lt, hp, hk, h => by
    obtain ⟨w, ws, hw, hws, rfl⟩ := seqO_cons hp
    have e0 : RA.fp (c :: cr) = c.fp ++ RA.fp cr := rfl
    rw [e0] at nd lt ⊢
    obtain ⟨n1, n2, n3⟩ := nd_sub nd
    have keep : ∀ (d : D) (l1 g1 : Ls), cvR true c.er (erS as) (erS ag) = some (d, l1, g1) → ∀ us, convM r p ms (cr.map ARV.er) l1 g1 = some (us, ls', gh') →
        ∃ (F' : FM) (as' ag' : List AV) (es : List ACv), erS as' = ls' ∧ erS ag' = gh' ∧ es.map ACv.V = .v d :: us ∧ seqO (es.map (ACv.pvS as' ag' r p)) = some (w :: ws) ∧ (∀ e ∈ es, e.ok F' S) ∧ Ev true F S as ag (c.fp ++ RA.fp cr) F' S as' ag' (fpC es) := fun d l1 g1 h1 us h2 => by
      obtain ⟨F1, as1, ag1, a, rfl, rfl, rfl, rfl, aok, _, ev⟩ := cv_sim0 g n1 (fun n h => lt n (List.mem_append_left _ h)) hw (hk c List.mem_cons_self) h1
      have st := stab_ra true cr (.inl rfl) F S as ag _ F1 S as1 ag1 _ ws ev g n3 hws (fun c hc => hk c (List.mem_cons_of_mem _ hc))
      have evf := (ev.frame n3 (fun n h => lt n (List.mem_append_right _ h))).perm List.perm_append_comm List.perm_append_comm
      obtain ⟨m1, m2, m3⟩ := nd_sub evf.nd
      obtain ⟨F2, as2, ag2, es, rfl, rfl, rfl, hes, eok, ev2⟩ := convM_sim evf.good m2 (fun n h => evf.lt n (List.mem_append_right _ h)) st.1 st.2 h2
      refine ⟨F2, as2, ag2, .v a :: es, rfl, rfl, rfl, seqO_mk rfl hes, fun e he => ?_, evf.trans (ev2.frame evf.nd (fun n h => evf.lt n (List.mem_append_left _ h)))⟩
      rcases List.mem_cons.mp he with rfl | he
      · exact ev2.stay (z := a) aok evf.nd evf.good.fs
      · exact eok e he
    have part : ∀ (r' : Rt) (p' : List Nat), c = .pth r' p' → (if r' = r then (match cut p p' with
        | some s => (match convM r p ms (cr.map ARV.er) (erS as) (erS ag) with
          | some (vs, ls, gh) => some (V.al (.g 0) s :: vs, ls, gh)
          | none => none)
        | none => none) else none) = some (vs, ls', gh') →
        ∃ (F' : FM) (as' ag' : List AV) (es : List ACv), erS as' = ls' ∧ erS ag' = gh' ∧ es.map ACv.V = vs ∧ seqO (es.map (ACv.pvS as' ag' r p)) = some (w :: ws) ∧ (∀ e ∈ es, e.ok F' S) ∧ Ev true F S as ag (c.fp ++ RA.fp cr) F' S as' ag' (fpC es) := fun r' p' hc hh => by
      subst hc
      split at hh
      · rename_i hr; subst hr
        cases hcut : cut p p' with
        | none => rw [hcut] at hh; cases hh
        | some s =>
          rw [hcut] at hh
          dsimp only at hh
          cases h2 : convM r' p ms (cr.map ARV.er) (erS as) (erS ag) with
          | none => rw [h2] at hh; cases hh
          | some t =>
            obtain ⟨us, l2, g2⟩ := t
            rw [h2] at hh
            simp only [Option.some.injEq, Prod.mk.injEq] at hh
            obtain ⟨rfl, rfl, rfl⟩ := hh
            have e1 : (ARV.pth r' p').fp ++ RA.fp cr = RA.fp cr := rfl
            rw [e1] at nd lt ⊢
            obtain ⟨F2, as2, ag2, es, rfl, rfl, rfl, hes, eok, ev2⟩ := convM_sim (r := r') (p := p) g nd lt hws (fun c hc => hk c (List.mem_cons_of_mem _ hc)) h2
            refine ⟨F2, as2, ag2, .al s :: es, rfl, rfl, rfl, seqO_mk ?_ hes, fun e he => ?_, ev2⟩
            · show (atA as2 ag2 r' (p ++ s)).map A.pv = some w
              rw [← cut_some hcut]
              exact ev2.per rfl r' p' w hw
            · rcases List.mem_cons.mp he with rfl | he
              · trivial
              · exact eok e he
      · cases hh
    have asv : ∀ (a : A), c = .v a → (match convM r p ms (cr.map ARV.er) (erS as) (erS ag) with
        | some (vs, ls, gh) => some (V.v a.er :: vs, ls, gh)
        | none => none) = some (vs, ls', gh') →
        ∃ (F' : FM) (as' ag' : List AV) (es : List ACv), erS as' = ls' ∧ erS ag' = gh' ∧ es.map ACv.V = vs ∧ seqO (es.map (ACv.pvS as' ag' r p)) = some (w :: ws) ∧ (∀ e ∈ es, e.ok F' S) ∧ Ev true F S as ag (c.fp ++ RA.fp cr) F' S as' ag' (fpC es) := fun a hc hh => by
      cases h2 : convM r p ms (cr.map ARV.er) (erS as) (erS ag) with
      | none => rw [h2] at hh; cases hh
      | some t =>
        obtain ⟨us, l2, g2⟩ := t
        rw [h2] at hh
        simp only [Option.some.injEq, Prod.mk.injEq] at hh
        obtain ⟨rfl, rfl, rfl⟩ := hh
        exact keep a.er (erS as) (erS ag) (by subst hc; rfl) us h2
    simp only [List.map_cons] at h
    match m, h with
    | 0, h =>
      rw [convM] at h
      cases h1 : cvR true c.er (erS as) (erS ag) with
      | none => rw [h1] at h; cases h
      | some t =>
        obtain ⟨d, l1, g1⟩ := t
        rw [h1] at h
        dsimp only at h
        cases h2 : convM r p ms (cr.map ARV.er) l1 g1 with
        | none => rw [h2] at h; cases h
        | some t2 =>
          obtain ⟨us, l2, g2⟩ := t2
          rw [h2] at h
          simp only [Option.some.injEq, Prod.mk.injEq] at h
          obtain ⟨rfl, rfl, rfl⟩ := h
          exact keep d l1 g1 h1 us h2
    | k + 1, h =>
      cases c with
      | pth r' p' => exact part r' p' rfl (by simpa [ARV.er, convM] using h)
      | v a => exact asv a rfl (by simpa [ARV.er, convM] using h)
def callM (fn : MF) (r : Rt) (p : List Nat) (vs : List V) (ls gh : Ls) : Out RV := match atD ls gh r p with
  | some x => if x.shr = true then .bad else (match fn vs [x] with
    | .ok d [y] => wroteV d topT r p y ls gh
    | .exc e [y] => let z := chD topT r p y ls gh; .exc e z.1 z.2
    | _ => .bad)
  | none => .bad
theorem callM_sim {f : GL.MF} {fn : MF} {r : Rt} {p : List Nat} {es : List ACv} {ws : List PV} (hf : SimFn f fn) (g : Good F S as ag) (nd : (fpS (as ++ ag) ++ fpC es).Nodup) (lt : ∀ n ∈ fpC es, n < S.length) (hp : seqO (es.map (ACv.pvS as ag r p)) = some ws) (hk : ∀ e ∈ es, e.ok F S) :
    SimO false RE F S as ag (fpC es) (fun _ => f ws S) (callM fn r p (es.map ACv.V) (erS as) (erS ag)) := by
  unfold callM
  cases hx : atD (erS as) (erS ag) r p with
  | none => trivial
  | some d0 =>
    obtain ⟨x, hat, rfl⟩ := at_er' hx
    dsimp only
    cases hs : x.er.shr with
    | true => simp only [if_true]; trivial
    | false =>
      have hs : x.shr = false := by rw [← shr_er]; exact hs
      simp only [Bool.false_eq_true, if_false]
      obtain ⟨root, hr, hg⟩ := at_split hat
      have xok := at_ok g hat
      have sx := sub_node g hat hs
      have ndx : (x.fp ++ fpC es).Nodup := nd.sublist (List.Sublist.append_right sx _)
      have atS : ∀ s, atA as ag r (p ++ s) = getA s x := fun s => by
        unfold atA
        rw [hr, Option.bind_some]
        have app : ∀ (p : List Nat) (a : A), getA (p ++ s) a = (getA p a).bind (getA s) := fun p => by
          induction p with
          | nil => intro a; rfl
          | cons i q ih =>
            intro a
            show getA (i :: (q ++ s)) a = _
            rw [getA, getA]
            cases a.kids[i]? with
            | none => rfl
            | some z => exact ih z
        rw [app, hg, Option.bind_some]
      let cs : List AV := es.map ACv.av
      have fpcs : fpS (cs ++ [x].map .io) = fpC es ++ x.fp := by
        show fpS (es.map ACv.av ++ [.io x]) = _
        rw [fpS_app]
        congr 1
        · unfold fpS fpC
          rw [List.flatMap_map]
          exact congrArg List.flatten (List.map_congr_left fun e _ => by cases e <;> rfl)
        · simp [fpS, AV.fp]
      have alv : ∀ e ∈ es, ∃ v, e.pvS as ag r p = some v := fun e he => by
        have : ∀ (es : List ACv) (ws : List PV), seqO (es.map (ACv.pvS as ag r p)) = some ws → ∀ e ∈ es, ∃ v, e.pvS as ag r p = some v := fun es => by
          induction es with
          | nil => intro ws _ e he; cases he
          | cons c t ih =>
            intro ws h e he
            obtain ⟨w, u, h1, h2, rfl⟩ := seqO_cons h
            rcases List.mem_cons.mp he with rfl | he
            · exact ⟨w, h1⟩
            · exact ih u h2 e he
        exact this es ws hp e he
      have gc : Good F S cs ([x].map .io) := by
        refine ⟨g.fs, fun z h => ?_, ?_, fun z h => ?_⟩
        · rcases List.mem_append.mp h with h | h
          · obtain ⟨e, he, rfl⟩ := List.mem_map.mp h
            have := hk e he
            cases e <;> exact this
          · rw [List.mem_singleton.mp h]; exact xok
        · rw [fpcs]
          exact (List.Perm.nodup_iff List.perm_append_comm).mp ndx
        · rcases List.mem_append.mp h with h | h
          · obtain ⟨e, he, rfl⟩ := List.mem_map.mp h
            cases e with
            | v a => trivial
            | al s =>
              obtain ⟨v, hv⟩ := alv _ he
              show (atA cs [.io x] (.g 0) s).isSome = true
              have hv : (atA as ag r (p ++ s)).map A.pv = some v := hv
              rw [atS] at hv
              show (getA s x).isSome = true
              cases hq : getA s x with
              | none => rw [hq] at hv; cases hv
              | some _ => rfl
          · rw [List.mem_singleton.mp h]; trivial
      have hcall := hf F S cs [x] (es.map ACv.V) ws gc (by
        show (es.map ACv.av).map AV.er = (es.map ACv.V).map some
        rw [List.map_map, List.map_map]
        exact List.map_congr_left fun e _ => by cases e <;> rfl) (fun ad => by
        have : ∀ (es : List ACv) (ws : List PV), seqO (es.map (ACv.pvS as ag r p)) = some ws → (es.map ACv.av).map (glv cs [.io x] ad) = ws.map some := fun es => by
          induction es with
          | nil => intro ws h; cases h; rfl
          | cons c t ih =>
            intro ws h
            obtain ⟨w, u, h1, h2, rfl⟩ := seqO_cons h
            simp only [List.map_cons]
            rw [ih u h2]
            congr 1
            cases c with
            | v a => exact h1
            | al s =>
              have h1 : (atA as ag r (p ++ s)).map A.pv = some w := h1
              rw [atS] at h1
              exact h1
        exact this es ws hp)
      have x1er : [x].map A.er = [x.er] := rfl
      rw [x1er] at hcall
      have back : ∀ {F' : FM} {S' : Sto} {y : A} {z : List Nat}, Sv F S cs ([x].map .io) [] F' S' [] ([y].map .io) z → Ev false F S as ag (fpC es) F' S' (chA topT r p y as ag).1 (chA topT r p y as ag).2 z := fun {F' S' y z} sv => by
        have hv : y.pv = x.pv := by
          have := sv.gg (0, 0)
          have h1 : some y.pv = some x.pv := by
            have := congrArg (fun l : List (Option PV) => l.head?) this
            simpa [glS, glv] using this
          exact Option.some.inj h1
        have yok : y.ok F' S' := sv.good.ok (.io y) (by simp)
        have fpy : fpS ([] ++ [y].map .io) = y.fp := by simp [fpS, AV.fp]
        refine ev_ch (t := topT) (fun h => by cases h) g nd hr hg hs hv (fun s w hs hw => ?_) sv.mono sv.good.fs sv.len (fun n hn hx => ?_) yok ?_ (fun n hn => ?_) (fun n hn => sv.lt n hn)
        · cases s with
          | nil => simpa [getA, hv] using hw
          | cons _ _ => cases hs
        · refine sv.keep n hn fun h => hx ?_
          rw [List.append_nil, fpcs] at h
          rcases List.mem_append.mp h with t | t
          · exact List.mem_append_right _ t
          · exact List.mem_append_left _ t
        · have := sv.nd
          rw [fpy] at this; exact this
        · rcases sv.new n (by rw [fpy]; exact hn) with t | t
          · rw [List.append_nil, fpcs] at t
            left
            rcases List.mem_append.mp t with u | u
            · exact List.mem_append_right _ u
            · exact List.mem_append_left _ u
          · exact .inr t
      have one : ∀ {hs' : List A} {y : D}, hs'.map A.er = [y] → ∃ b, hs' = [b] ∧ b.er = y := fun {hs' y} e1 => by
        cases hs' with
        | nil => cases e1
        | cons b t =>
          cases t with
          | nil => simp at e1; exact ⟨b, rfl, e1⟩
          | cons _ _ => cases e1
      split
      · rename_i d y hfn
        rw [hfn] at hcall
        obtain ⟨F', S', hs', a, e1, rfl, a3, aok, sv⟩ := hcall
        obtain ⟨b, rfl, rfl⟩ := one e1
        have ev := back sv
        have e := ch_er topT r p b as ag
        unfold wroteV
        rw [← e]
        exact ⟨F', S', _, _, .v a, a.pv, rfl, rfl, rfl, fun _ => a3, rfl, aok, ev⟩
      · rename_i e0 y hfn
        rw [hfn] at hcall
        obtain ⟨F', S', hs', xx, e1, rfl, a3, xok', sv⟩ := hcall
        obtain ⟨b, rfl, rfl⟩ := one e1
        have ev := back sv
        have e := ch_er topT r p b as ag
        rw [← e]
        exact ⟨F', S', _, _, xx, rfl, rfl, rfl, fun _ => a3, xok', ev⟩
      · trivial
def runM (fn : MF) (ms : List Nat) (dws : List PV) (xs : List RV) (ls gh : Ls) : Out RV := match findIO ms xs with
  | some (r, p) => (match convM r p ms xs ls gh with
    | some (vs, ls, gh) => callM fn r p (vs ++ (dOfs dws).map .v) ls gh
    | none => .bad)
  | none => (match cvL true xs ls gh with
    | some (ds, ls, gh) => callD fn ((ds ++ dOfs dws).map .v) ls gh
    | none => .bad)
theorem runM_sim {f : GL.MF} {fn : MF} {ms : List Nat} {dws : List PV} (hf : SimFn f fn) (hd : rigs dws = true) (g : Good F S as ag) {cs : List ARV} {ws : List PV} (nd : (fpS (as ++ ag) ++ RA.fp cs).Nodup) (lt : ∀ n ∈ RA.fp cs, n < S.length) (h1 : RA.pv as ag cs = some ws) (h2 : RA.ok F S cs) :
    SimO false RE F S as ag (RA.fp cs) (fun _ => f (ws ++ dws) S) (runM fn ms dws (cs.map ARV.er) (erS as) (erS ag)) := by
  unfold runM
  cases hio : findIO ms (cs.map ARV.er) with
  | none => exact (call_args hf hd g nd lt h1 h2).weak (fun h => by cases h)
  | some rp =>
    obtain ⟨r, p⟩ := rp
    dsimp only
    cases hc : convM r p ms (cs.map ARV.er) (erS as) (erS ag) with
    | none => trivial
    | some t =>
      obtain ⟨vs, l2, g2⟩ := t
      obtain ⟨F1, as1, ag1, es, rfl, rfl, rfl, hes, eok, ev⟩ := convM_sim g nd lt h1 h2 hc
      dsimp only
      refine SimO.preF (ev.weak (fun h => by cases h)) (q := false) ?_
      have e1 : es.map ACv.V ++ (dOfs dws).map VL.V.v = (es ++ (aOfs dws).map ACv.v).map ACv.V := by
        rw [List.map_append, List.map_map, ← aOfs_er, ers_map, List.map_map]; rfl
      have e3 : fpC (es ++ (aOfs dws).map ACv.v) = fpC es := by
        show List.flatMap _ _ = _
        rw [List.flatMap_append]
        have : List.flatMap ACv.fp ((aOfs dws).map ACv.v) = [] := by
          rw [List.flatMap_map]
          have := (aOfs_fp (F := F) (S := S) dws).1
          rw [fps_map] at this
          exact this
        rw [this, List.append_nil]
      have e4 : seqO ((es ++ (aOfs dws).map ACv.v).map (ACv.pvS as1 ag1 r p)) = some (ws ++ dws) := by
        have app : ∀ (es : List ACv) (ws : List PV), seqO (es.map (ACv.pvS as1 ag1 r p)) = some ws → seqO ((es ++ (aOfs dws).map ACv.v).map (ACv.pvS as1 ag1 r p)) = some (ws ++ dws) := fun es => by
          induction es with
          | nil =>
            intro ws h
            cases h
            have : ∀ (zs : List A), seqO ((zs.map ACv.v).map (ACv.pvS as1 ag1 r p)) = some (A.pvs zs) := fun zs => by
              induction zs with
              | nil => rfl
              | cons z t ih => exact seqO_mk rfl ih
            have := this (aOfs dws)
            rw [aOfs_pv hd] at this
            exact this
          | cons c t ih =>
            intro ws h
            obtain ⟨w, u, q1, q2, rfl⟩ := seqO_cons h
            exact seqO_mk q1 (ih u q2)
        exact app es ws hes
      rw [e1, ← e3]
      exact callM_sim hf ev.good (by rw [e3]; exact ev.nd) (by rw [e3]; exact ev.lt) e4 (fun e he => by
        rcases List.mem_append.mp he with h | h
        · exact eok e h
        · obtain ⟨a, ha, rfl⟩ := List.mem_map.mp h
          exact (oks_iff _).mp (aOfs_fp dws).2 a ha)
def eCallM (fn : MF) (ms : List Nat) (dws : List PV) (args : PA) : PE := fun ls gh => (args ls gh).bind fun xs ls gh => runM fn ms dws xs ls gh
section
variable {q : Bool} {mr : AD → GL.MA} {pr : PA} {f : GL.MF} {fn : MF} {ms : List Nat} {dws : List PV}
theorem sim_callM (hf : SimFn f fn) (hd : rigs dws = true) (h : SimA q mr pr) : SimE false (fun ad => GL.eCall f dws (mr ad)) (eCallM fn ms dws pr) := fun F S as ag gd =>
  SimO.weak (sim_first (R' := RE) (q' := false) (k := fun xs ls gh => runM fn ms dws xs ls gh) (f := fun ad ws S1 => f (ws ++ dws) S1) h gd (fun _ => rfl) fun F1 S1 as1 ag1 cs ws h1 h2 g1 n1 l1 L1 => runM_sim hf hd g1 n1 l1 h1 h2) (by simp)
end
end VL
set_option Elab.async false
set_option linter.all false
set_option maxRecDepth 100000
set_option maxHeartbeats 1000000
namespace VL
open GL (PV OB Sto Nm BT lim)
variable {F F' F1 : FM} {S S' S1 : Sto} {as ag as' ag' : List AV} {x0 : List Nat}
def cutF (F : FM) (B : List Nat) : FM := fun n => if n ∈ B then none else F n
end VL
set_option Elab.async false
set_option linter.all false
set_option maxRecDepth 100000
set_option maxHeartbeats 1000000
namespace VL
open GL (PV OB Sto Nm BT lim)
end VL
set_option Elab.async false
set_option linter.all false
set_option maxRecDepth 100000
set_option maxHeartbeats 1000000
namespace VL
open GL (PV OB Sto Nm BT lim)
variable {F F' F1 : FM} {S S' S1 : Sto} {as ag as' ag' : List AV} {x0 : List Nat}
def hk : Hd → Nat × Nm
  | .lst => (0, [])
  | .rol => (1, [])
  | .dct _ => (2, [])
  | .ins C _ => (3, C)
  | .dcn _ => (4, [])
  | .ptp => (5, [])
theorem mkO_hk {h h' : Hd} {ws ws' : List PV} (e : mkO h ws = mkO h' ws') : hk h = hk h' := by
  cases h <;> cases h' <;> simp_all [mkO, hk]
abbrev Ks := List (Nat × Nm)
mutual
def noK (ks : Ks) : D → Bool
  | .sc _ => true
  | .tup xs => noKs ks xs
  | .nd k h xs => (match k with
    | .fz => !ks.contains (hk h)
    | _ => true) && noKs ks xs
def noKs (ks : Ks) : List D → Bool
  | [] => true
  | x :: r => noK ks x && noKs ks r
end
mutual
def kinds : D → Ks
  | .sc _ => []
  | .tup _ => []
  | .nd .fz _ _ => []
  | .nd _ h xs => hk h :: kindss xs
def kindss : List D → Ks
  | [] => []
  | x :: r => kinds x ++ kindss r
end
theorem noKs_iff (ks : Ks) (xs : List D) : noKs ks xs = true ↔ ∀ x ∈ xs, noK ks x = true := by induction xs <;> simp_all [noKs]
theorem kindss_mem {xs : List D} {x : D} {k : Nat × Nm} (h : x ∈ xs) (hk : k ∈ kinds x) : k ∈ kindss xs := by
  induction xs with
  | nil => cases h
  | cons y r ih =>
    rw [kindss]
    rcases List.mem_cons.mp h with rfl | h
    · exact List.mem_append_left _ hk
    · exact List.mem_append_right _ (ih h)
theorem kinds_fp : ∀ (a : A), (∀ m ∈ a.fp, F m = none) → a.ok F S → ∀ m ∈ a.fp, ∃ h ws, S[m]? = some (mkO h ws) ∧ hk h ∈ kinds a.er := by
  intro a
  induction a using A.ind with
  | h1 s => intro _ _ m hm; simp [A.fp] at hm
  | h2 xs ih =>
    intro _ h m hm
    simp only [A.ok] at h
    rw [A.fp, h.1] at hm; cases hm
  | h3 k n hd xs ih =>
    intro hn h m hm
    cases k with
    | fz =>
      simp only [A.ok] at h
      rw [A.fp, h.2.2.1] at hm; cases hm
    | lk =>
      simp only [A.ok] at h
      have := hn n (by simp [A.fp])
      rw [this] at h; cases h.1
    | ow =>
      simp only [A.ok] at h
      simp only [A.fp] at hm hn
      simp only [A.er, kinds]
      rcases List.mem_cons.mp hm with rfl | hm
      · exact ⟨_, _, h.1.2, List.mem_cons_self⟩
      · rw [fps_map] at hm
        obtain ⟨x, hx, q⟩ := List.mem_flatMap.mp hm
        obtain ⟨h', ws, e1, e2⟩ := ih x hx (fun m hm => hn m (List.mem_cons_of_mem _ (by rw [fps_map]; exact List.mem_flatMap.mpr ⟨x, hx, hm⟩))) ((oks_iff xs).mp h.2.2 x hx) m q
        exact ⟨h', ws, e1, List.mem_cons_of_mem _ (kindss_mem (by rw [ers_map]; exact List.mem_map_of_mem hx) e2)⟩
theorem cut_okN {B : List Nat} {ks : Ks} (hB : ∀ m ∈ B, ∃ h ws, F m = some (true, mkO h ws) ∧ hk h ∈ ks) : ∀ (a : A), noK ks a.er = true → a.ok F S → a.ok (cutF F B) S := by
  intro a
  induction a using A.ind with
  | h1 s => intros; simp [A.ok]
  | h2 xs ih =>
    intro ho h
    simp only [A.er, noK, noKs_iff, ers_map] at ho
    simp only [A.ok, oks_iff] at h ⊢
    exact ⟨h.1, fun x hx => ih x hx (ho _ (List.mem_map_of_mem hx)) (h.2 x hx)⟩
  | h3 k n hd xs ih =>
    intro ho h
    simp only [A.er, noK, Bool.and_eq_true, noKs_iff, ers_map] at ho
    have kid : A.oks F S xs → A.oks (cutF F B) S xs := fun h => by
      rw [oks_iff] at h ⊢
      exact fun x hx => ih x hx (ho.2 _ (List.mem_map_of_mem hx)) (h x hx)
    have out : ∀ {v : Option (Bool × OB)}, F n = v → (n ∈ B → v = none ∨ (∃ o, v = some (false, o)) ∨ (∃ o, v = some (true, o) ∧ ∀ h ws, hk h ∈ ks → o ≠ mkO h ws)) → cutF F B n = v := fun {v} e hv => by
      unfold cutF
      split
      · rename_i hn
        obtain ⟨h, ws, q, hks⟩ := hB n hn
        rw [e] at q
        rcases hv hn with r | ⟨o, r⟩ | ⟨o, r, r2⟩
        · exact r.symm
        · rw [q] at r; cases r
        · rw [q] at r
          simp only [Option.some.injEq, Prod.mk.injEq, true_and] at r
          exact absurd r.symm (r2 h ws hks)
      · exact e
    cases k with
    | fz =>
      simp only [A.ok] at h ⊢
      refine ⟨out h.1 fun _ => .inr (.inr ⟨_, rfl, fun h' ws hin e => ?_⟩), h.2.1, h.2.2.1, kid h.2.2.2⟩
      have := mkO_hk e
      rw [← this] at hin
      simp [hin] at ho
    | lk =>
      simp only [A.ok] at h ⊢
      exact ⟨out h.1 fun _ => .inr (.inl ⟨_, rfl⟩), h.2.1, kid h.2.2⟩
    | ow =>
      simp only [A.ok] at h ⊢
      exact ⟨⟨out h.1.1 fun _ => .inl rfl, h.1.2⟩, h.2.1, kid h.2.2⟩
def bwN (x : RV) (ls gh : Ls) : Option (D × Ks) := match x with
  | .v d => some (d, [])
  | .pth r p => match atD ls gh r p with
    | some d => if d.shr = true then some (d, []) else (D.frz d).map fun e => (e, kinds d)
    | none => none
def bwNs : List RV → Ls → Ls → Option (List D × Ks)
  | [], _, _ => some ([], [])
  | x :: r, ls, gh => match bwN x ls gh, bwNs r ls gh with
    | some d, some ds => some (d.1 :: ds.1, d.2 ++ ds.2)
    | _, _ => none
theorem bwN_sim (g : Good F S as ag) {z : List Nat} {c : ARV} {w : PV} {d : D × Ks} (nd : (fpS (as ++ ag) ++ z).Nodup) (hz : ∀ n ∈ c.fp, n ∈ z) (h1 : c.pv as ag = some w) (h2 : c.ok F S) (h : bwN c.er (erS as) (erS ag) = some d) :
    ∃ (a : A) (B : List Nat), a.er = d.1 ∧ a.pv = w ∧ a.fp = c.fp ∧ (∀ m ∈ B, m ∈ fpS (as ++ ag) ∧ F m = none ∧ ∃ h ws, S[m]? = some (mkO h ws) ∧ hk h ∈ d.2) ∧
      ∀ B' : List Nat, (∀ m ∈ B, m ∈ B') → (∀ m ∈ B', m ∈ fpS (as ++ ag) ∧ F m = none) → a.ok (frF F S B') S := by
  have out : ∀ (a : A), (∀ n ∈ a.fp, n ∈ z) → a.ok F S → ∀ B' : List Nat, (∀ m ∈ B', m ∈ fpS (as ++ ag) ∧ F m = none) → a.ok (frF F S B') S := fun a ha aok B' hB' =>
    ok_frame (frF_mono fun n hn => (hB' n hn).2) (fun n hn => ⟨by
      unfold frF
      rw [if_neg fun q => (List.nodup_append.mp nd).2.2 n (hB' n q).1 n (ha n hn) rfl], rfl⟩) aok
  cases c with
  | v a =>
    cases h1
    cases h
    exact ⟨a, [], rfl, rfl, rfl, (fun m hm => by cases hm), fun B' _ hB' => out a hz h2 B' hB'⟩
  | pth r p =>
    simp only [bwN, ARV.er] at h
    rw [at_er] at h
    cases hat : atA as ag r p with
    | none => rw [hat] at h; cases h
    | some a =>
      rw [hat] at h
      simp only [Option.map_some] at h
      have hw : a.pv = w := by simpa [ARV.pv, hat] using h1
      have aok := at_ok g hat
      split at h
      · rename_i hs
        cases h
        rw [shr_er] at hs
        have e0 := fp_shr aok hs
        exact ⟨a, [], rfl, hw, e0, (fun m hm => by cases hm), fun B' _ hB' => out a (by rw [e0]; intro n hn; cases hn) aok B' hB'⟩
      · rename_i hs
        obtain ⟨e, he, rfl⟩ := Option.map_eq_some_iff.mp h
        rw [shr_er] at hs
        have hs : a.shr = false := by simpa using hs
        have sub := sub_node g hat hs
        exact ⟨a.frz, a.fp, frz_er a he, by rw [frz_pv]; exact hw, frz_fp a he aok, fun m hm => ⟨sub.subset hm, frz_none a he aok m hm, kinds_fp a (frz_none a he aok) aok m hm⟩,
          fun B' hs' hB' => frz_ok a he [] (frF_mono fun n hn => (hB' n hn).2) (fun n hn => by unfold frF; rw [if_pos (hs' n hn)]) aok⟩
theorem bwNs_sim (g : Good F S as ag) {z : List Nat} (nd : (fpS (as ++ ag) ++ z).Nodup) : ∀ (cs : List ARV) (ws : List PV) (ds : List D × Ks), (∀ n ∈ RA.fp cs, n ∈ z) → RA.pv as ag cs = some ws → RA.ok F S cs → bwNs (cs.map ARV.er) (erS as) (erS ag) = some ds →
    ∃ (xs : List A) (B : List Nat), A.ers xs = ds.1 ∧ A.pvs xs = ws ∧ A.fps xs = RA.fp cs ∧ (∀ m ∈ B, m ∈ fpS (as ++ ag) ∧ F m = none ∧ ∃ h ws, S[m]? = some (mkO h ws) ∧ hk h ∈ ds.2) ∧
      ∀ B' : List Nat, (∀ m ∈ B, m ∈ B') → (∀ m ∈ B', m ∈ fpS (as ++ ag) ∧ F m = none) → A.oks (frF F S B') S xs
  | [], ws, ds, _, h1, _, h => by
    cases h1; cases h
    exact ⟨[], [], rfl, rfl, rfl, (fun m hm => by cases hm), fun B' _ _ => trivial⟩
  | c :: r, ws, ds, hz, h1, h2, h => by
    obtain ⟨w, t, hw, ht, rfl⟩ := seqO_cons h1
    rw [List.map_cons, bwNs] at h
    split at h
    · rename_i d ds' e1 e2
      cases h
      obtain ⟨a, B1, a1, a2, a3, a4, a5⟩ := bwN_sim g nd (fun n hn => hz n (List.mem_append_left _ hn)) hw (h2 c List.mem_cons_self) e1
      obtain ⟨xs, B2, b1, b2, b3, b4, b5⟩ := bwNs_sim g nd r t ds' (fun n hn => hz n (List.mem_append_right _ hn)) ht (fun c hc => h2 c (List.mem_cons_of_mem _ hc)) e2
      refine ⟨a :: xs, B1 ++ B2, by rw [A.ers, a1, b1], by rw [A.pvs, a2, b2], by rw [A.fps, a3, b3]; rfl, fun m hm => ?_, fun B' hs hB' => ?_⟩
      · rcases List.mem_append.mp hm with q | q
        · obtain ⟨u1, u2, h, ws, u3, u4⟩ := a4 m q
          exact ⟨u1, u2, h, ws, u3, List.mem_append_left _ u4⟩
        · obtain ⟨u1, u2, h, ws, u3, u4⟩ := b4 m q
          exact ⟨u1, u2, h, ws, u3, List.mem_append_right _ u4⟩
      · exact ⟨a5 B' (fun m hm => hs m (List.mem_append_left _ hm)) hB', b5 B' (fun m hm => hs m (List.mem_append_right _ hm)) hB'⟩
    · cases h
def callN (fn : MF) (dws : List PV) (xs : List RV) (ls gh : Ls) : Out RV := match bwNs xs ls gh with
  | some (ds, ks) => (match fn ((ds ++ dOfs dws).map .v) [] with
    | .ok d _ => if noK ks d = true then .ok (.v d) ls gh else .bad
    | .exc e _ => if noKs ks e.ds = true then .exc e ls gh else .bad
    | .bad => .bad)
  | none => .bad
def eCallN (fn : MF) (dws : List PV) (args : PA) : PE := fun ls gh => (args ls gh).bind fun xs ls gh => callN fn dws xs ls gh
section
variable {q : Bool} {mr : AD → GL.MA} {pr : PA} {f : GL.MF} {fn : MF} {dws : List PV}
theorem callN_sim (hf : SimFn f fn) (hd : rigs dws = true) (g : Good F S as ag) {cs : List ARV} {ws : List PV} (nd : (fpS (as ++ ag) ++ RA.fp cs).Nodup) (lt : ∀ n ∈ RA.fp cs, n < S.length) (h1 : RA.pv as ag cs = some ws) (h2 : RA.ok F S cs) :
    SimO true RE F S as ag (RA.fp cs) (fun _ => f (ws ++ dws) S) (callN fn dws (cs.map ARV.er) (erS as) (erS ag)) := by
  unfold callN
  cases hc : bwNs (cs.map ARV.er) (erS as) (erS ag) with
  | none => trivial
  | some dk =>
    obtain ⟨ds, ks⟩ := dk
    obtain ⟨xs, B, e1, e2, e3, hB, hok⟩ := bwNs_sim g nd cs ws (ds, ks) (fun n h => h) h1 h2 hc
    dsimp only at e1 hB
    have ok1 := hok B (fun m h => h) fun m h => ⟨(hB m h).1, (hB m h).2.1⟩
    have hm := frF_mono (S := S) fun m h => (hB m h).2.1
    have q1 : ds ++ dOfs dws = A.ers (xs ++ aOfs dws) := by rw [ers_app, aOfs_er, e1]
    have q2 : ws ++ dws = A.pvs (xs ++ aOfs dws) := by rw [pvs_app, aOfs_pv hd, e2]
    have q3 : A.fps (xs ++ aOfs dws) = RA.fp cs := by rw [fps_app, (aOfs_fp (F := F) (S := S) dws).1, List.append_nil, e3]
    have ok2 := oks_app ok1 (aOfs_fp (F := frF F S B) (S := S) dws).2
    have gd1 : Good (frF F S B) S ((xs ++ aOfs dws).map .v) [] := by
      refine ⟨frF_fs g.fs, fun z h => ?_, ?_, fun z h => ?_⟩
      · obtain ⟨x, hx, rfl⟩ := List.mem_map.mp ((List.append_nil _) ▸ h)
        exact (oks_iff _).mp ok2 x hx
      · rw [List.append_nil, v_fp, q3]; exact (List.nodup_append.mp nd).2.1
      · obtain ⟨x, hx, rfl⟩ := List.mem_map.mp ((List.append_nil _) ▸ h)
        trivial
    have h := hf (frF F S B) S ((xs ++ aOfs dws).map .v) [] ((A.ers (xs ++ aOfs dws)).map .v) (A.pvs (xs ++ aOfs dws)) gd1 (v_list _) (fun ad => v_gl _ _ ad _)
    simp only [List.map_nil] at h
    dsimp only
    rw [q1, q2]
    have frB : ∀ m ∈ B, ∃ h vs, frF F S B m = some (true, mkO h vs) ∧ hk h ∈ ks := fun m hm => by
      obtain ⟨h, vs, hv, hks⟩ := (hB m hm).2.2
      exact ⟨h, vs, by unfold frF; rw [if_pos hm, hv]; rfl, hks⟩
    have back : ∀ {F' : FM} {S' : Sto} {ag1 : List AV} {x : List Nat}, Sv (frF F S B) S ((xs ++ aOfs dws).map .v) [] [] F' S' [] ag1 x →
        (∀ m ∈ B, ∃ h vs, F' m = some (true, mkO h vs) ∧ hk h ∈ ks) ∧ Mono F (cutF F' B) ∧ FS (cutF F' B) S' ∧ ∀ n, n < S.length → n ∉ RA.fp cs → cutF F' B n = F n ∧ S'[n]? = S[n]? := fun {F' S' ag1 x} sv => by
      have k1 : ∀ m ∈ B, ∃ h vs, F' m = some (true, mkO h vs) ∧ hk h ∈ ks := fun m hm => by
        obtain ⟨h, vs, hv, hks⟩ := frB m hm
        exact ⟨h, vs, sv.mono _ _ _ hv, hks⟩
      have k2 : ∀ n b o, F n = some (b, o) → n ∉ B := fun n b o e h => by rw [(hB n h).2.1] at e; cases e
      refine ⟨k1, fun n b o e => ?_, fun n b o e => ?_, fun n hn hx => ?_⟩
      · unfold cutF
        rw [if_neg (k2 n b o e)]
        exact sv.mono _ _ _ (hm _ _ _ e)
      · unfold cutF at e
        split at e
        · cases e
        · exact sv.good.fs _ _ _ e
      · have kp := sv.keep n hn (by rw [List.append_nil, List.append_nil, v_fp, q3]; exact hx)
        refine ⟨?_, kp.2⟩
        unfold cutF
        split
        · rename_i hb; exact ((hB n hb).2.1).symm
        · rename_i hb
          rw [kp.1]; unfold frF; rw [if_neg hb]
    cases hp : fn ((A.ers (xs ++ aOfs dws)).map .v) [] with
    | bad => trivial
    | exc e ios =>
      rw [hp] at h
      obtain ⟨F', S', hs', x, _, rfl, a3, xok, sv⟩ := h
      dsimp only
      split
      · rename_i hn
        obtain ⟨k1, k2, k3, k4⟩ := back sv
        refine ⟨cutF F' B, S', as, ag, x, rfl, rfl, rfl, fun _ => a3, ⟨xok.1, xok.2.1, ?_⟩, ?_⟩
        · rw [oks_iff]
          have hn : noKs ks (A.ers x.xs) = true := hn
          rw [noKs_iff, ers_map] at hn
          exact fun y hy => cut_okN k1 y (hn _ (List.mem_map_of_mem hy)) ((oks_iff _).mp xok.2.2 y hy)
        · exact ev_same g nd k2 k3 sv.len k4 List.nodup_nil (fun n h => by cases h) (fun n h => by cases h)
      · trivial
    | ok d ios =>
      rw [hp] at h
      obtain ⟨F', S', hs', a, _, rfl, a3, aok, sv⟩ := h
      dsimp only
      split
      · rename_i hn
        obtain ⟨k1, k2, k3, k4⟩ := back sv
        refine ⟨cutF F' B, S', as, ag, .v a, a.pv, rfl, rfl, rfl, fun _ => a3, rfl, cut_okN k1 a hn aok, ?_⟩
        refine ev_same g nd k2 k3 sv.len k4 ((List.nodup_append.mp sv.nd).2.1) (fun n h => ?_) sv.lt
        rcases sv.new n (List.mem_append_right _ h) with u | u
        · rw [List.append_nil, List.append_nil, v_fp, q3] at u
          exact .inl u
        · exact .inr u
      · trivial
theorem sim_callN (hf : SimFn f fn) (hd : rigs dws = true) (h : SimA q mr pr) : SimE q (fun ad => GL.eCall f dws (mr ad)) (eCallN fn dws pr) := fun F S as ag gd =>
  SimO.weak (sim_first (R' := RE) (q' := true) (k := fun xs ls gh => callN fn dws xs ls gh) (f := fun ad ws S1 => f (ws ++ dws) S1) h gd (fun _ => rfl) fun F1 S1 as1 ag1 cs ws h1 h2 g1 n1 l1 L1 => callN_sim hf hd g1 n1 l1 h1 h2) (by simp)
def eMethN (C m : Nm) (fn : MF) (dws : List PV) (o : PE) (args : PA) : PE := fun ls gh => (o ls gh).bind fun x ls gh => match val x ls gh with
  | some d => if isIns C m d = true then (args ls gh).bind fun xs ls gh => callN fn dws (x :: xs) ls gh else .bad
  | none => .bad
theorem sim_methN {C m : Nm} {qa : Bool} {ma : AD → GL.ME} {pa : PE} (hf : SimFn f fn) (hd : rigs dws = true) (ha : SimE qa ma pa) (hr : SimA true mr pr) : SimE qa (fun ad => GL.eMeth C m f dws (ma ad) (mr ad)) (eMethN C m fn dws pa pr) := fun F S as ag gd =>
  SimO.weak (sim_first (R' := RE) (q' := true && true) (k := fun (x : RV) (ls gh : Ls) => match val x ls gh with
  | some d => if isIns C m d = true then (pr ls gh).bind fun xs ls gh => callN fn dws (x :: xs) ls gh else .bad
  | none => .bad) (f := fun ad w S1 => gMeth C m ad f dws mr (glS as ag ad as) w S1) ha gd (fun _ => rfl) fun F1 S1 as1 ag1 c w h1 h2 g1 n1 l1 L1 => by
    split
    · rename_i d e
      obtain ⟨a, rfl, rfl, aok, hc⟩ := val_er c e h1 g1 h2
      by_cases hi : isIns C m a.er = true
      · rw [if_pos hi]
        obtain ⟨n, fs', e1, e2⟩ := isIns_gl g1.fs aok hi
        have eg : ∀ ad, gMeth C m ad f dws mr (glS as ag ad as) a.pv S1 = (mr ad (glS as ag ad as) S1).bind fun ws S2 => f (a.pv :: (ws ++ dws)) S2 := fun ad => by
          unfold gMeth
          simp only [e1, e2, if_true]
        simp only [eg]
        refine sim_next (R0 := RE) (R := RA) (R' := RE) (k := fun xs ls gh => callN fn dws (RE.er c :: xs) ls gh) (f := fun ad ws S2 => f (a.pv :: (ws ++ dws)) S2) hr g1 c h1 h2 n1 l1 (stab_re true c (.inl rfl)) L1 fun F2 S2 as2 ag2 cs ws h1 h2 h3 h4 g2 n2 l2 L2 => ?_
        exact callN_sim (cs := c :: cs) (ws := a.pv :: ws) hf hd g2 n2 l2 (seqO_mk h1 h3) (fun c' hc' => by
          rcases List.mem_cons.mp hc' with rfl | h
          · exact h2
          · exact h4 c' h)
      · rw [if_neg hi]; trivial
    · trivial) (by simp)
end
end VL
set_option Elab.async false
set_option linter.all false
set_option maxRecDepth 100000
set_option maxHeartbeats 1000000
namespace VL
open GL (PV OB Sto Nm BT lim)
variable {F F' F1 : FM} {S S' S1 : Sto} {as ag as' ag' : List AV} {x0 : List Nat} {tab : Nm → Nm → Bool}
def fldsV (tab : Nm → Nm → Bool) (i : Nat) : List Nm → List Sc → MS
  | [], [] => sNil
  | f :: fr, s :: sr => sSeq (sFldM tab f (eVar i) (eC s.pv)) (fldsV tab i fr sr)
  | _, _ => sBad
def fldsG (tab : Nm → Nm → Bool) (i : Nat) : List Nm → List Sc → GL.MS
  | [], [] => GL.sNil
  | f :: fr, s :: sr => GL.sSeq (GL.sFldM tab f (GL.eVar i) (GL.eC s.pv)) (fldsG tab i fr sr)
  | _, _ => GL.sBad
theorem rig_sc (s : Sc) : rig s.pv = true := by cases s <;> rfl
theorem sim_flds (i : Nat) : ∀ (fs : List Nm) (ss : List Sc), SimS (fun _ => fldsG tab i fs ss) (fldsV tab i fs ss)
  | [], [] => sim_nil
  | f :: fr, s :: sr => sim_seq (sim_sfld (sim_var i) (sim_c (rig_sc s))) (sim_flds i fr sr)
  | [], _ :: _ => sim_bad
  | _ :: _, [] => sim_bad
theorem flds_put (i : Nat) : ∀ (fs : List Nm) (ss : List Sc) (ls : GL.Ls) (S : Sto), (∃ S', fldsG tab i fs ss ls S = .nx ls S' ∧ GL.putFlds tab (GL.eVar i) fs (ss.map Sc.pv) ls S = some S') ∨ fldsG tab i fs ss ls S = .bad
  | [], [], ls, S => .inl ⟨S, rfl, rfl⟩
  | [], _ :: _, ls, S => .inr rfl
  | _ :: _, [], ls, S => .inr rfl
  | f :: fr, s :: sr, ls, S => by
    have h1 : (∃ S1, GL.sFldM tab f (GL.eVar i) (GL.eC s.pv) ls S = .nx ls S1 ∧ GL.putFld tab f (GL.eVar i) s.pv ls S = some S1) ∨ GL.sFldM tab f (GL.eVar i) (GL.eC s.pv) ls S = .bad := by
      unfold GL.sFldM GL.putFld
      show (∃ S1, ((GL.eVar i ls S).then ls fun w S2 => match GL.insAt S2 w with
        | some (n, C, fs) => if (tab C f && decide (fs.length < 1000)) = true then GL.SOut.nx ls (S2.set n (.ins C (GL.putN f s.pv fs))) else .bad
        | none => .bad) = .nx ls S1 ∧ _) ∨ ((GL.eVar i ls S).then ls fun w S2 => match GL.insAt S2 w with
        | some (n, C, fs) => if (tab C f && decide (fs.length < 1000)) = true then GL.SOut.nx ls (S2.set n (.ins C (GL.putN f s.pv fs))) else .bad
        | none => .bad) = .bad
      cases e : GL.eVar i ls S with
      | bad => exact .inr rfl
      | exc a b => exfalso; unfold GL.eVar at e; split at e <;> cases e
      | ok x S2 =>
        show (∃ S1, (match GL.insAt S2 x with
        | some (n, C, fs) => if (tab C f && decide (fs.length < 1000)) = true then GL.SOut.nx ls (S2.set n (.ins C (GL.putN f s.pv fs))) else .bad
        | none => .bad) = .nx ls S1 ∧ _) ∨ (match GL.insAt S2 x with
        | some (n, C, fs) => if (tab C f && decide (fs.length < 1000)) = true then GL.SOut.nx ls (S2.set n (.ins C (GL.putN f s.pv fs))) else .bad
        | none => .bad) = .bad
        dsimp only
        cases GL.insAt S2 x with
        | none => exact .inr rfl
        | some z =>
          obtain ⟨n, C, gs⟩ := z
          dsimp only
          by_cases h : (tab C f && decide (gs.length < 1000)) = true
          · rw [if_pos h]; exact .inl ⟨_, rfl, by rw [if_pos h]⟩
          · rw [if_neg h]; exact .inr rfl
    rcases h1 with ⟨S1, e1, e2⟩ | e1
    · have q : fldsG tab i (f :: fr) (s :: sr) ls S = fldsG tab i fr sr ls S1 := by
        show GL.sSeq _ _ ls S = _
        unfold GL.sSeq; rw [e1]; rfl
      have p : GL.putFlds tab (GL.eVar i) (f :: fr) ((s :: sr).map Sc.pv) ls S = GL.putFlds tab (GL.eVar i) fr (sr.map Sc.pv) ls S1 := by
        show (match GL.putFld tab f (GL.eVar i) s.pv ls S with
          | some S1 => GL.putFlds tab (GL.eVar i) fr (sr.map Sc.pv) ls S1
          | none => none) = _
        rw [e2]
      rw [q, p]
      exact flds_put i fr sr ls S1
    · refine .inr ?_
      show GL.sSeq _ _ ls S = _
      unfold GL.sSeq; rw [e1]; rfl
def scsD : List D → Option (List Sc)
  | [] => some []
  | .sc s :: r => (scsD r).map (s :: ·)
  | _ :: _ => none
theorem scsD_pv : ∀ {xs : List A} {ss : List Sc}, scsD (A.ers xs) = some ss → A.pvs xs = ss.map Sc.pv
  | [], ss, h => by cases h; rfl
  | .sc s :: r, ss, h => by
    simp only [A.ers, A.er, scsD, Option.map_eq_some_iff] at h
    obtain ⟨t, ht, rfl⟩ := h
    simp only [A.pvs, A.pv, List.map_cons, scsD_pv ht]
  | .tup _ :: _, ss, h => by simp [A.ers, A.er, scsD] at h
  | .nd _ _ _ _ :: _, ss, h => by simp [A.ers, A.er, scsD] at h
def putFs (tab : Nm → Nm → Bool) (fs : List Nm) (i : Nat) (x : RV) (ls gh : Ls) : SOut := match x with
  | .v (.tup ds) => (match scsD ds with
    | some ss => fldsV tab i fs ss ls gh
    | none => .bad)
  | _ => .bad
def sAsgF (tab : Nm → Nm → Bool) (fs : List Nm) (i : Nat) (m : PE) : MS := fun ls gh => (m ls gh).then fun x ls gh => putFs tab fs i x ls gh
def gPutFs (tab : Nm → Nm → Bool) (fs : List Nm) (i : Nat) (L : GL.Ls) (w : PV) (S1 : Sto) : GL.SOut := match w with
  | .tup ws => (match GL.putFlds tab (GL.eVar i) fs ws L S1 with
    | some S2 => .nx L S2
    | none => .bad)
  | _ => .bad
theorem sim_asgF {fs : List Nm} {i : Nat} {q : Bool} {ma : AD → GL.ME} {pa : PE} (h : SimE q ma pa) : SimS (fun ad => GL.sAsgF tab fs (GL.eVar i) (ma ad)) (sAsgF tab fs i pa) := fun F S as ag gd =>
  sim_then (R := RE) (f := fun ad w S1 => gPutFs tab fs i (glS as ag ad as) w S1) (k := fun x ls gh => putFs tab fs i x ls gh) h gd (fun _ => rfl) fun F1 S1 as1 ag1 c w h1 h2 g1 n1 l1 L1 => by
    unfold putFs
    split
    · rename_i ds e
      cases hs : scsD ds with
      | none => trivial
      | some ss =>
        cases c with
        | pth r p => cases e
        | v a =>
          have e : a.er = .tup ds := RV.v.inj (show RV.v a.er = RV.v (D.tup ds) from e)
          cases a with
          | sc s => cases e
          | nd k n hd xs => cases e
          | tup xs =>
            cases e
            have hw : w = .tup (A.pvs xs) := by cases h1; rfl
            subst hw
            have ok2 : (A.tup xs).ok F1 S1 := h2
            simp only [A.ok] at ok2
            have ef : RE.fp (ARV.v (A.tup xs)) = [] := ok2.1
            rw [ef, scsD_pv hs]
            refine (sims_at (L := fun ad => glS as ag ad as) (sim_flds (tab := tab) i fs ss) g1 L1) |> fun hh => ?_
            have key : ∀ ad, (∃ S', fldsG tab i fs ss (glS as ag ad as) S1 = .nx (glS as ag ad as) S' ∧ gPutFs tab fs i (glS as ag ad as) (.tup (ss.map Sc.pv)) S1 = .nx (glS as ag ad as) S') ∨ fldsG tab i fs ss (glS as ag ad as) S1 = .bad := fun ad => by
              rcases flds_put (tab := tab) i fs ss (glS as ag ad as) S1 with ⟨S', e1, e2⟩ | e1
              · exact .inl ⟨S', e1, by unfold gPutFs; simp only [e2]⟩
              · exact .inr e1
            revert hh
            dsimp only
            cases fldsV tab i fs ss (erS as1) (erS ag1) with
            | bad => intro _; trivial
            | nx l g =>
              rintro ⟨F2, S2, as2, ag2, a1, a2, a3, a4⟩
              refine ⟨F2, S2, as2, ag2, a1, a2, fun ad => ?_, a4⟩
              rcases key ad with ⟨S', e1, e2⟩ | e1
              · exact e2.trans (e1.symm.trans (a3 ad))
              · exact absurd (e1.symm.trans (a3 ad)) (by intro h; cases h)
            | bk l g =>
              rintro ⟨F2, S2, as2, ag2, a1, a2, a3, a4⟩
              refine ⟨F2, S2, as2, ag2, a1, a2, fun ad => ?_, a4⟩
              rcases key ad with ⟨S', e1, e2⟩ | e1
              · exact e2.trans (e1.symm.trans (a3 ad))
              · exact absurd (e1.symm.trans (a3 ad)) (by intro h; cases h)
            | ct l g =>
              rintro ⟨F2, S2, as2, ag2, a1, a2, a3, a4⟩
              refine ⟨F2, S2, as2, ag2, a1, a2, fun ad => ?_, a4⟩
              rcases key ad with ⟨S', e1, e2⟩ | e1
              · exact e2.trans (e1.symm.trans (a3 ad))
              · exact absurd (e1.symm.trans (a3 ad)) (by intro h; cases h)
            | rt d g =>
              rintro ⟨F2, S2, ag2, a, a1, a2, a3, a4, a5⟩
              refine ⟨F2, S2, ag2, a, a1, a2, fun ad => ?_, a4, a5⟩
              rcases key ad with ⟨S', e1, e2⟩ | e1
              · exact e2.trans (e1.symm.trans (a3 ad))
              · exact absurd (e1.symm.trans (a3 ad)) (by intro h; cases h)
            | exc e' l g =>
              rintro ⟨F2, S2, as2, ag2, x, a1, a2, a3, a4, a5, a6⟩
              refine ⟨F2, S2, as2, ag2, x, a1, a2, a3, fun ad => ?_, a5, a6⟩
              rcases key ad with ⟨S', e1, e2⟩ | e1
              · exact e2.trans (e1.symm.trans (a4 ad))
              · exact absurd (e1.symm.trans (a4 ad)) (by intro h; cases h)
    · trivial
end VL
set_option Elab.async false
set_option linter.all false
set_option maxRecDepth 100000
set_option maxHeartbeats 1000000
namespace VL
open GL (PV OB Sto Nm BT lim)
end VL
set_option Elab.async false
set_option linter.all false
set_option maxRecDepth 100000
set_option maxHeartbeats 1000000
namespace VL
open GL (PV OB Sto Nm BT lim)
end VL
set_option Elab.async false
set_option linter.all false
set_option maxRecDepth 100000
set_option maxHeartbeats 1000000
namespace VL
open GL (PV OB Sto Nm BT lim)
variable {F F' : FM} {S S' : Sto} {as ag : List AV}
theorem bind_then {α β : Type} (o : GL.Out α) (f : α → Sto → GL.Out β) (l : GL.Ls) (k : β → Sto → GL.SOut) : (o.bind f).then l k = o.then l (fun a S => (f a S).then l k) := by
  cases o <;> rfl
end VL
set_option Elab.async false
set_option linter.all false
set_option maxRecDepth 100000
set_option maxHeartbeats 2000000
namespace VL
open PySem
open GL (PV OB Sto lim)
def f1SrtD (x : RV) : PE := fun ls gh => match seqV x ls gh with
  | some (.tup, _) => .bad
  | some (_, xs) => (match shrK x xs with
    | some ys => (match GL.optAll (datD 60) ys with
      | some ds => if GL.srtOk ds = true then .ok (.v (.nd .ow .lst (GL.srtB ds ys))) ls gh else .bad
      | none => .bad)
    | none => .bad)
  | none => .bad
theorem sim_f1SrtD : SimF1 true (fun w S => GL.fSrtD [w] S) f1SrtD := by
  intro F S as ag c w g nd lt hp hk
  unfold f1SrtD
  split
  · trivial
  · rename_i k xs hnt e
    obtain ⟨ks, rfl, sg, ok, fpk, _, _⟩ := seqV_er e hp g hk
    split
    · rename_i ys hy
      obtain ⟨F', zs, rfl, h2, h3, h4, ev⟩ := shrK_sim g nd lt ok fpk hy
      split
      · rename_i ds hd
        by_cases hs : GL.srtOk ds = true
        · rw [if_pos hs]
          have hds : GL.optAll (GL.datP S 60) (A.pvs zs) = some ds := by
            rw [optAll_er (f := 60) fun x hx => dat_er ev.good.fs 60 ((oks_iff zs).mp h4 x hx)]; exact hd
          have hl : ds.length = zs.length := by rw [GL.optAll_len hd, ers_len]
          have pm := GL.srtB_perm (xs := zs) hl
          have e1 : GL.srtB ds (A.ers zs) = A.ers (GL.srtB ds zs) := by rw [ers_map, ers_map, GL.srtB_map]
          have e2 : GL.srtB ds (A.pvs zs) = A.pvs (GL.srtB ds zs) := by rw [pvs_map, pvs_map, GL.srtB_map]
          rw [e1]
          refine SimO.pre ev (sim_alloc ev.good ev.nd ev.lt .lst (GL.srtB ds zs) rfl ?_ ?_ (fun _ => ?_))
          · rw [oks_iff] at h4 ⊢
            exact fun x hx => h4 x (pm.mem_iff.mp hx)
          · have : A.fps (GL.srtB ds zs) = [] := by
              rw [fps_map, List.flatMap_eq_nil_iff] at h3 ⊢
              exact fun x hx => h3 x (pm.mem_iff.mp hx)
            rw [this]; exact List.nil_sublist _
          · rw [h2] at hds e2
            cases k with
            | tup => exact (hnt rfl).elim
            | lst => obtain ⟨n, rfl, hsq⟩ := sg; simp only [GL.fSrtD, seqAt_of hsq, hds, if_pos hs, mkO, e2]
            | rol => obtain ⟨n, rfl, hsq⟩ := sg; simp only [GL.fSrtD, seqAt_of' hsq, hds, if_pos hs, mkO, e2]
        · rw [if_neg hs]; trivial
      · trivial
    · trivial
  · trivial
abbrev fSrtD := un f1SrtD
theorem sim_fSrtD : SimB true GL.fSrtD fSrtD := simB1 sim_f1SrtD
end VL
set_option Elab.async false
set_option linter.all false
set_option maxRecDepth 100000
set_option maxHeartbeats 1000000
namespace VL
open GL (PV OB Sto Nm lim)
variable {F F' : FM} {S S' : Sto} {as ag : List AV}
def keyS : PV → Sc
  | .int i => .int i
  | .str s => .str s
  | _ => .non
def keysA (ks : List PV) : List A := ks.map fun k => .sc (keyS k)
def keysD (ks : List PV) : List D := ks.map fun k => .sc (keyS k)
theorem keysA_er (ks : List PV) : A.ers (keysA ks) = keysD ks := by
  rw [ers_map]; unfold keysA keysD; rw [List.map_map]; rfl
theorem keysA_pv : ∀ {ks : List PV}, ks.all GL.isKeyP = true → A.pvs (keysA ks) = ks
  | [], _ => rfl
  | k :: r, h => by
    rw [List.all_cons, Bool.and_eq_true] at h
    show Sc.pv (keyS k) :: A.pvs (keysA r) = _
    rw [keysA_pv h.2]
    cases k <;> first | rfl | (exact absurd h.1 (by decide)) | (cases h.1)
theorem keysA_fp (ks : List PV) : A.fps (keysA ks) = [] := by
  rw [fps_map, List.flatMap_eq_nil_iff]
  intro x hx
  obtain ⟨k, _, rfl⟩ := List.mem_map.mp hx
  rfl
theorem keysA_ok (ks : List PV) : A.oks F S (keysA ks) := by
  rw [oks_iff]
  intro x hx
  obtain ⟨k, _, rfl⟩ := List.mem_map.mp hx
  trivial
def f1ListD (x : RV) : PE := fun ls gh => match val x ls gh with
  | some (.nd _ (.dct ks) _) => if ks.all GL.isKeyP = true then .ok (.v (.nd .ow .lst (keysD ks))) ls gh else .bad
  | _ => .bad
theorem zip_fst {ks ws : List PV} (h : ks.length = ws.length) : (ks.zip ws).map (·.1) = ks := by
  rw [List.map_fst_zip]
  omega
theorem sim_f1ListD : SimF1 true (fun w S => GL.fListD [w] S) f1ListD := by
  intro F S as ag c w g nd lt hp hk
  unfold f1ListD
  split
  · rename_i fl ks xs e
    split
    · rename_i hall
      obtain ⟨a, ea, rfl, aok, hc⟩ := val_er c e hp g hk
      obtain ⟨n, ys, rfl, rfl⟩ := er_nd ea
      have ob := obj_of g.fs aok
      have hw : ks.length = ys.length := by simpa [Hd.wf] using wf_of aok
      rw [← keysA_er]
      refine sim_alloc g nd lt .lst (keysA ks) rfl (keysA_ok ks) (by rw [keysA_fp]; exact List.nil_sublist _) (fun _ => ?_)
      simp only [GL.fListD, A.pv, rdct_of ob, mkO]
      rw [zip_fst (by rw [pvs_len]; exact hw), keysA_pv hall]
    · trivial
  · trivial
abbrev fListD := un f1ListD
theorem sim_fListD : SimB true GL.fListD fListD := simB1 sim_f1ListD
def f1DictC (x : RV) : PE := fun ls gh => match val x ls gh with
  | some (.nd _ (.dct ks) xs) => if xs.all D.shr = true then .ok (.v (.nd .ow (.dct ks) xs)) ls gh else .bad
  | _ => .bad
theorem sim_f1DictC : SimF1 true (fun w S => GL.fDictC [w] S) f1DictC := by
  intro F S as ag c w g nd lt hp hk
  unfold f1DictC
  split
  · rename_i fl ks xs e
    split
    · rename_i hall
      obtain ⟨a, ea, rfl, aok, hc⟩ := val_er c e hp g hk
      obtain ⟨n, ys, rfl, rfl⟩ := er_nd ea
      have ob := obj_of g.fs aok
      have hw := wf_of aok
      have oks : A.oks F S ys := ok_kids aok
      have fz : A.fps ys = [] := by
        rw [fps_map, List.flatMap_eq_nil_iff]
        intro y hy
        refine fp_shr ((oks_iff ys).mp oks y hy) ?_
        rw [← shr_er]
        rw [ers_map, List.all_map, List.all_eq_true] at hall
        exact hall y hy
      refine sim_alloc g nd lt (.dct ks) ys hw oks (by rw [fz]; exact List.nil_sublist _) (fun _ => ?_)
      simp only [GL.fDictC, A.pv, rdct_of ob, mkO]
    · trivial
  · trivial
abbrev fDictC := un f1DictC
theorem sim_fDictC : SimB true GL.fDictC fDictC := simB1 sim_f1DictC
end VL
set_option Elab.async false
set_option linter.all false
set_option maxRecDepth 100000
set_option maxHeartbeats 1000000
namespace VL
open GL (PV OB Sto Nm BT lim P1)
open PySem (PyData Builtin)
variable {F F' F'' : FM} {S S' S'' : Sto} {as as' as'' ag ag' ag'' : List AV} {x0 x1 x2 : List Nat}
inductive PRs (α : Type) where
  | hit (bs : List (Nat × α))
  | miss
  | bad
def mP : List P1 → List D → PRs D
  | [], [] => .hit []
  | .c s :: ps, x :: xs => (match x with
    | .sc (.str t) => if t = s then mP ps xs else .miss
    | _ => .bad)
  | .v i :: ps, x :: xs => (match mP ps xs with
    | .hit bs => .hit ((i, x) :: bs)
    | .miss => .miss
    | .bad => .bad)
  | .w :: ps, _ :: xs => mP ps xs
  | _, _ => .bad
def putB : List (Nat × D) → Ls → Ls → Option (Ls × Ls)
  | [], ls, gh => some (ls, gh)
  | b :: r, ls, gh => match setL b.1 (.v b.2) ls gh with
    | some z => putB r z.1 z.2
    | none => none
def pickT (ds : List D) : List (List P1 × MS) → MS → MS
  | [], d => d
  | (p, m) :: r, d => fun ls gh => if ds.length = p.length then (match mP p ds with
    | .hit bs => (match putB bs ls gh with
      | some z => m z.1 z.2
      | none => .bad)
    | .miss => pickT ds r d ls gh
    | .bad => .bad) else pickT ds r d ls gh
def sMatchT (e : PE) (l : List (List P1 × MS)) (d : MS) : MS := fun ls gh => (e ls gh).then fun x ls gh => match x with
  | .v (.tup ds) => pickT ds l d ls gh
  | _ => .bad
abbrev BA := List (Nat × A)
def erB (b : BA) : List (Nat × D) := b.map fun p => (p.1, p.2.er)
def pvB (b : BA) : List (Nat × PV) := b.map fun p => (p.1, p.2.pv)
theorem mP_sim : ∀ (l : List P1) (ks : List A), A.fps ks = [] → A.oks F S ks →
    (mP l (A.ers ks) = .miss → GL.mP l (A.pvs ks) = .miss) ∧ ∀ bs, mP l (A.ers ks) = .hit bs → ∃ b : BA, erB b = bs ∧ GL.mP l (A.pvs ks) = .hit (pvB b) ∧ A.fps (b.map (·.2)) = [] ∧ A.oks F S (b.map (·.2))
  | [], [], _, _ => ⟨fun h => (nomatch h), fun bs h => ⟨[], (by
      have h : PRs.hit ([] : List (Nat × D)) = PRs.hit bs := h
      cases h; rfl), rfl, rfl, trivial⟩⟩
  | [], _ :: _, _, _ => ⟨fun h => (nomatch h), fun bs h => (nomatch h)⟩
  | .c s :: l, [], _, _ => ⟨fun h => (nomatch h), fun bs h => (nomatch h)⟩
  | .v i :: l, [], _, _ => ⟨fun h => (nomatch h), fun bs h => (nomatch h)⟩
  | .w :: l, [], _, _ => ⟨fun h => (nomatch h), fun bs h => (nomatch h)⟩
  | .c s :: l, k :: ks, f, o => by
    obtain ⟨f1, f2⟩ := List.append_eq_nil_iff.mp (show k.fp ++ A.fps ks = [] from f)
    have ih := mP_sim l ks f2 o.2
    show (mP (.c s :: l) (k.er :: A.ers ks) = _ → GL.mP (.c s :: l) (k.pv :: A.pvs ks) = _) ∧ ∀ bs, mP (.c s :: l) (k.er :: A.ers ks) = _ → ∃ b : BA, erB b = bs ∧ GL.mP (.c s :: l) (k.pv :: A.pvs ks) = _ ∧ _
    cases k with
    | sc z =>
      cases z with
      | str t =>
        simp only [A.er, A.pv, Sc.pv, mP, GL.mP]
        by_cases e : t = s
        · simp only [if_pos e]; exact ih
        · simp only [if_neg e]; exact ⟨fun _ => trivial, fun bs h => (nomatch h)⟩
      | _ => exact ⟨fun h => (nomatch h), fun bs h => (nomatch h)⟩
    | _ => exact ⟨fun h => (nomatch h), fun bs h => (nomatch h)⟩
  | .v i :: l, k :: ks, f, o => by
    obtain ⟨f1, f2⟩ := List.append_eq_nil_iff.mp (show k.fp ++ A.fps ks = [] from f)
    obtain ⟨i1, i2⟩ := mP_sim l ks f2 o.2
    show (mP (.v i :: l) (k.er :: A.ers ks) = _ → GL.mP (.v i :: l) (k.pv :: A.pvs ks) = _) ∧ ∀ bs, mP (.v i :: l) (k.er :: A.ers ks) = _ → ∃ b : BA, erB b = bs ∧ GL.mP (.v i :: l) (k.pv :: A.pvs ks) = _ ∧ _
    simp only [mP, GL.mP]
    cases hm : mP l (A.ers ks) with
    | bad => exact ⟨fun h => (nomatch h), fun bs h => (nomatch h)⟩
    | miss => rw [i1 hm]; exact ⟨fun _ => rfl, fun bs h => (nomatch h)⟩
    | hit bs =>
      obtain ⟨b, e1, e2, e3, e4⟩ := i2 bs hm
      rw [e2]
      refine ⟨fun h => (nomatch h), fun bs' h => ⟨(i, k) :: b, ?_, rfl, ?_, ⟨o.1, e4⟩⟩⟩
      · have h : PRs.hit ((i, k.er) :: bs) = PRs.hit bs' := h
        cases h
        show (i, k.er) :: erB b = _
        rw [e1]
      · show k.fp ++ A.fps (b.map (·.2)) = []
        rw [f1, e3]; rfl
  | .w :: l, k :: ks, f, o => by
    obtain ⟨f1, f2⟩ := List.append_eq_nil_iff.mp (show k.fp ++ A.fps ks = [] from f)
    exact mP_sim l ks f2 o.2
theorem putB_sim : ∀ (b : BA) (F : FM) (S : Sto) (as ag : List AV) (ls' gh' : Ls), Good F S as ag → A.fps (b.map (·.2)) = [] → A.oks F S (b.map (·.2)) → putB (erB b) (erS as) (erS ag) = some (ls', gh') →
    ∃ as' ag', erS as' = ls' ∧ erS ag' = gh' ∧ (∀ ad, GL.putB (pvB b) (glS as ag ad as) = glS as' ag' ad as') ∧ Sv F S as ag [] F S as' ag' []
  | [], F, S, as, ag, ls', gh', g, _, _, h => by
    have h : some (erS as, erS ag) = some (ls', gh') := h
    cases h
    exact ⟨as, ag, rfl, rfl, fun _ => rfl, Sv.refl g⟩
  | (i, k) :: t, F, S, as, ag, ls', gh', g, f, o, h => by
    obtain ⟨f1, f2⟩ := List.append_eq_nil_iff.mp (show k.fp ++ A.fps (t.map (·.2)) = [] from f)
    have ef : (ARV.v k).fp = [] := f1
    have h : (match setL i (.v k.er) (erS as) (erS ag) with
      | some z => putB (erB t) z.1 z.2
      | none => none) = some (ls', gh') := h
    cases hz : setL i (.v k.er) (erS as) (erS ag) with
    | none => rw [hz] at h; cases h
    | some z =>
      rw [hz] at h
      obtain ⟨as1, ag1, e1, e2, e3, e4, sv⟩ := setL_sim (c := .v k) (w := k.pv) g (by rw [ef, List.append_nil]; exact g.nd) (by rw [ef]; intro n h; cases h) rfl o.1 hz
      dsimp only at h
      rw [← e1, ← e2] at h
      rw [ef] at sv
      obtain ⟨as2, ag2, a1, a2, a3, a4⟩ := putB_sim t F S as1 ag1 ls' gh' sv.good f2 o.2 h
      refine ⟨as2, ag2, a1, a2, fun ad => ?_, sv.trans a4⟩
      show GL.putB (pvB t) ((glS as ag ad as).set i (some k.pv)) = _
      rw [← e3]
      exact a3 ad
inductive SimMTs : (AD → List (List P1 × GL.MS)) → List (List P1 × MS) → Prop
  | nil : SimMTs (fun _ => []) []
  | cons {c : List P1} {m : AD → GL.MS} {p : MS} {r : AD → List (List P1 × GL.MS)} {r' : List (List P1 × MS)} : SimS m p → SimMTs r r' → SimMTs (fun ad => (c, m ad) :: r ad) ((c, p) :: r')
theorem pickT_sim {d : AD → GL.MS} {d' : MS} (hd : SimS d d') : ∀ {l : AD → List (List P1 × GL.MS)} {l' : List (List P1 × MS)}, SimMTs l l' → ∀ (F : FM) (S : Sto) (as ag : List AV) (ks : List A), Good F S as ag → A.fps ks = [] → A.oks F S ks →
    SimSO F S as ag [] (fun ad => GL.pickT (A.pvs ks) (l ad) (d ad) (glS as ag ad as) S) (pickT (A.ers ks) l' d' (erS as) (erS ag))
  | _, _, .nil, F, S, as, ag, ks, g, f, o => hd F S as ag g
  | _, _, .cons (c := c) (m := m) (p := p) (r := r) (r' := r') h hr, F, S, as, ag, ks, g, f, o => by
    have ih := pickT_sim hd hr F S as ag ks g f o
    have hl : (A.ers ks).length = (A.pvs ks).length := by rw [pvs_len, ers_len]
    show SimSO F S as ag [] (fun ad => if (A.pvs ks).length = c.length then (match GL.mP c (A.pvs ks) with
      | .hit bs => m ad (GL.putB bs (glS as ag ad as)) S
      | .miss => GL.pickT (A.pvs ks) (r ad) (d ad) (glS as ag ad as) S
      | .bad => .bad) else GL.pickT (A.pvs ks) (r ad) (d ad) (glS as ag ad as) S) (if (A.ers ks).length = c.length then (match mP c (A.ers ks) with
      | .hit bs => (match putB bs (erS as) (erS ag) with
        | some z => p z.1 z.2
        | none => .bad)
      | .miss => pickT (A.ers ks) r' d' (erS as) (erS ag)
      | .bad => .bad) else pickT (A.ers ks) r' d' (erS as) (erS ag))
    by_cases e : (A.ers ks).length = c.length
    · have e' : (A.pvs ks).length = c.length := hl ▸ e
      simp only [if_pos e, if_pos e']
      obtain ⟨i1, i2⟩ := mP_sim (F := F) (S := S) c ks f o
      cases hm : mP c (A.ers ks) with
      | bad => trivial
      | miss => rw [i1 hm]; exact ih
      | hit bs =>
        obtain ⟨b, e1, e2, e3, e4⟩ := i2 bs hm
        rw [e2]
        dsimp only
        rw [← e1]
        cases hz : putB (erB b) (erS as) (erS ag) with
        | none => trivial
        | some z =>
          obtain ⟨as1, ag1, a1, a2, a3, a4⟩ := putB_sim b F S as ag z.1 z.2 g e3 e4 hz
          dsimp only
          rw [← a1, ← a2]
          refine SimSO.pre a4 ((h F S as1 ag1 a4.good).cg fun ad => ?_)
          show m ad (GL.putB (pvB b) (glS as ag ad as)) S = _
          rw [a3]
    · have e' : ¬ (A.pvs ks).length = c.length := hl ▸ e
      simp only [if_neg e, if_neg e']
      exact ih
def gMtT (ad : AD) (l : AD → List (List P1 × GL.MS)) (d : AD → GL.MS) (L : GL.Ls) (w : PV) (S1 : Sto) : GL.SOut := match w with
  | .tup vs => GL.pickT vs (l ad) (d ad) L S1
  | _ => .bad
theorem sim_matchT {q : Bool} {ma : AD → GL.ME} {pa : PE} {l : AD → List (List P1 × GL.MS)} {l' : List (List P1 × MS)} {d : AD → GL.MS} {d' : MS} (h : SimE q ma pa) (hl : SimMTs l l') (hd : SimS d d') : SimS (fun ad => GL.sMatchT (ma ad) (l ad) (d ad)) (sMatchT pa l' d') := fun F S as ag g =>
  sim_then (R := RE) (f := fun ad w S1 => gMtT ad l d (glS as ag ad as) w S1) (k := fun (x : RV) (ls gh : Ls) => match x with
  | .v (.tup ds) => pickT ds l' d' ls gh
  | _ => .bad) h g (fun _ => rfl) fun F1 S1 as1 ag1 c w h1 h2 g1 n1 l1 L1 => by
    split
    · rename_i ds e
      obtain ⟨a, rfl, ea, rfl⟩ := er_v e h1
      obtain ⟨ks, rfl, rfl⟩ := er_tup ea
      have hk : A.fps ks = [] ∧ A.oks F1 S1 ks := h2
      refine preNil g1 n1 l1 ((pickT_sim hd hl F1 S1 as1 ag1 ks g1 hk.1 hk.2).cg fun ad => ?_)
      show GL.pickT (A.pvs ks) (l ad) (d ad) (glS as ag ad as) S1 = _
      rw [L1]
    · trivial
end VL
set_option Elab.async false
set_option linter.all false
set_option maxRecDepth 100000
set_option maxHeartbeats 1000000
namespace VL
open GL (PV OB Sto Nm lim)
variable {F F' : FM} {S S' : Sto} {as ag : List AV}
theorem fps_of {xs : List A} (ok : A.oks F S xs) (h : (A.ers xs).all D.shr = true) : A.fps xs = [] := by
  rw [fps_map, List.flatMap_eq_nil_iff]
  intro y hy
  refine fp_shr ((oks_iff xs).mp ok y hy) ?_
  rw [← shr_er]
  rw [ers_map, List.all_map, List.all_eq_true] at h
  exact h y hy
def f1TupP (x : RV) : PE := fun ls gh => match val x ls gh with
  | some (.nd _ .lst xs) => if xs.all D.shr = true then .ok (.v (.nd .ow .ptp xs)) ls gh else .bad
  | _ => .bad
theorem sim_f1TupP : SimF1 true (fun w S => GL.fTupP [w] S) f1TupP := by
  intro F S as ag c w g nd lt hp hk
  unfold f1TupP
  split
  · rename_i fl xs e
    split
    · rename_i hall
      obtain ⟨a, ea, rfl, aok, hc⟩ := val_er c e hp g hk
      obtain ⟨n, ys, rfl, rfl⟩ := er_nd ea
      have ob := obj_of g.fs aok
      have oks : A.oks F S ys := ok_kids aok
      have fz := fps_of oks hall
      refine sim_alloc g nd lt .ptp ys rfl oks (by rw [fz]; exact List.nil_sublist _) (fun _ => ?_)
      have e2 : GL.lstAt S n = some (A.pvs ys) := by unfold GL.lstAt; rw [AtU.lst ob]
      simp only [GL.fTupP, A.pv, e2, mkO]
    · trivial
  · trivial
abbrev fTupP := un f1TupP
theorem sim_fTupP : SimB true GL.fTupP fTupP := simB1 sim_f1TupP
def eTupP0 : PE := fun ls gh => .ok (.v (.nd .ow .ptp [])) ls gh
theorem sim_tupP0 : SimE true (fun _ => GL.eTupP0) eTupP0 := fun F S as ag g =>
  sim_alloc g (good_nd g) (fun _ h => by cases h) .ptp [] rfl trivial (List.Sublist.refl _) (fun _ => rfl)
def keyC : Sc → Option PV
  | .int i => some (.int i)
  | .str s => some (.str s)
  | _ => none
def pairsD : List D → Option (List PV × List D)
  | [] => some ([], [])
  | .tup [.sc k, d] :: r => (match keyC k, pairsD r with
    | some x, some (ks, ds) => some (x :: ks, d :: ds)
    | _, _ => none)
  | _ :: _ => none
theorem pairsD_er : ∀ {xs : List A} {ks : List PV} {ds : List D}, pairsD (A.ers xs) = some (ks, ds) → A.fps xs = [] → A.oks F S xs →
    ∃ ys : List A, A.ers ys = ds ∧ A.fps ys = [] ∧ A.oks F S ys ∧ ks.length = ys.length ∧ GL.pairsP (A.pvs xs) = some (ks.zip (A.pvs ys))
  | [], ks, ds, h, _, _ => by
    have h : some (([] : List PV), ([] : List D)) = some (ks, ds) := h
    cases h
    exact ⟨[], rfl, rfl, trivial, rfl, rfl⟩
  | .sc s :: r, ks, ds, h, _, _ => by cases h
  | .nd k n hd ys :: r, ks, ds, h, _, _ => by cases h
  | .tup [] :: r, ks, ds, h, _, _ => by cases h
  | .tup [a] :: r, ks, ds, h, _, _ => by cases a <;> cases h
  | .tup (.tup _ :: _ :: _) :: r, ks, ds, h, _, _ => by cases h
  | .tup (.nd _ _ _ _ :: _ :: _) :: r, ks, ds, h, _, _ => by cases h
  | .tup (.sc _ :: _ :: _ :: _) :: r, ks, ds, h, _, _ => by cases h
  | .tup [.sc k, d] :: r, ks, ds, h, f, o => by
    have h : (match keyC k, pairsD (A.ers r) with
      | some x, some (ks, ds) => some (x :: ks, d.er :: ds)
      | _, _ => none) = some (ks, ds) := h
    have o : (A.fps [.sc k, d] = [] ∧ A.oks F S [.sc k, d]) ∧ A.oks F S r := o
    have f : A.fps [.sc k, d] ++ A.fps r = [] := f
    obtain ⟨f1, f2⟩ := List.append_eq_nil_iff.mp f
    split at h
    · rename_i x ks' ds' e1 e2
      cases h
      obtain ⟨ys, rfl, b2, b3, b4, b5⟩ := pairsD_er e2 f2 o.2
      have fd : d.fp = [] := (List.append_eq_nil_iff.mp (show d.fp ++ [] = [] from f1)).1
      refine ⟨d :: ys, rfl, by show d.fp ++ A.fps ys = []; rw [fd, b2]; rfl, ⟨o.1.2.2.1, b3⟩, by simp [b4], ?_⟩
      have ex : k.pv = x ∧ GL.isKeyP k.pv = true := by
        cases k <;> first | (cases e1; exact ⟨rfl, rfl⟩) | cases e1
      show GL.pairsP (.tup [k.pv, d.pv] :: A.pvs r) = _
      unfold GL.pairsP
      rw [if_pos ex.2, b5, ex.1]
      rfl
    · cases h
def dpD (z : Option (List PV × List D)) : PE := fun ls gh => match z with
  | some (ks, ds) => if distG [] ks = true then .ok (.v (.nd .ow (.dct ks) ds)) ls gh else .bad
  | none => .bad
def f1DictP (x : RV) : PE := fun ls gh => match val x ls gh with
  | some (.nd _ (.dct ks) xs) => if xs.all D.shr = true then .ok (.v (.nd .ow (.dct ks) xs)) ls gh else .bad
  | some (.nd _ .lst xs) => if xs.all D.shr = true then dpD (pairsD xs) ls gh else .bad
  | some (.nd _ .ptp xs) => if xs.all D.shr = true then dpD (pairsD xs) ls gh else .bad
  | _ => .bad
theorem sim_dp {ys : List A} {x0 : List Nat} (g : Good F S as ag) (nd : (fpS (as ++ ag) ++ x0).Nodup) (lt : ∀ n ∈ x0, n < S.length) (oks : A.oks F S ys) (fz : A.fps ys = []) {o : AD → GL.Out PV} (ho : ∀ ad, o ad = GL.dpOut (GL.pairsP (A.pvs ys)) S) :
    SimO true RE F S as ag x0 o (dpD (pairsD (A.ers ys)) (erS as) (erS ag)) := by
  unfold dpD
  cases hp : pairsD (A.ers ys) with
  | none => trivial
  | some z =>
    obtain ⟨ks, ds⟩ := z
    obtain ⟨zs, rfl, b2, b3, b4, b5⟩ := pairsD_er hp fz oks
    dsimp only
    split
    · rename_i hd
      refine sim_alloc g nd lt (.dct ks) zs (by simp [Hd.wf, b4]) b3 (by rw [b2]; exact List.nil_sublist _) (fun ad => ?_)
      rw [ho, b5]
      have e4 := merge_dist ks (A.pvs zs) [] [] (by rw [pvs_len]; exact b4) rfl hd
      simp only [List.nil_append, List.zip_nil_left] at e4
      show GL.Out.ok _ (S ++ [OB.dct (GL.mergeP [] (ks.zip (A.pvs zs)))]) = _
      rw [e4]
      rfl
    · trivial
theorem sim_f1DictP : SimF1 true (fun w S => GL.fDictP [w] S) f1DictP := by
  intro F S as ag c w g nd lt hp hk
  unfold f1DictP
  split
  · rename_i fl ks xs e
    split
    · rename_i hall
      obtain ⟨a, ea, rfl, aok, hc⟩ := val_er c e hp g hk
      obtain ⟨n, ys, rfl, rfl⟩ := er_nd ea
      have ob := obj_of g.fs aok
      have hw := wf_of aok
      have oks : A.oks F S ys := ok_kids aok
      have fz := fps_of oks hall
      refine sim_alloc g nd lt (.dct ks) ys hw oks (by rw [fz]; exact List.nil_sublist _) (fun _ => ?_)
      show GL.fDictP [.loc n] S = _
      unfold GL.fDictP
      rcases ob with ob | ⟨k, ek, ob⟩
      · simp only [ob, mkO]
      · simp only [ob, mkO]
        simp only [mkO, OB.dct.injEq] at ek
        rw [ek]
    · trivial
  · rename_i fl xs e
    split
    · rename_i hall
      obtain ⟨a, ea, rfl, aok, hc⟩ := val_er c e hp g hk
      obtain ⟨n, ys, rfl, rfl⟩ := er_nd ea
      have ob := obj_of g.fs aok
      have oks : A.oks F S ys := ok_kids aok
      refine sim_dp g nd lt oks (fps_of oks hall) (fun _ => ?_)
      show GL.fDictP [.loc n] S = _
      unfold GL.fDictP
      simp only [AtU.lst ob]
    · trivial
  · rename_i fl xs e
    split
    · rename_i hall
      obtain ⟨a, ea, rfl, aok, hc⟩ := val_er c e hp g hk
      obtain ⟨n, ys, rfl, rfl⟩ := er_nd ea
      have ob := obj_of g.fs aok
      have oks : A.oks F S ys := ok_kids aok
      refine sim_dp g nd lt oks (fps_of oks hall) (fun _ => ?_)
      show GL.fDictP [.loc n] S = _
      unfold GL.fDictP
      simp only [AtU.ptp ob]
    · trivial
  · trivial
abbrev fDictP := un f1DictP
theorem sim_fDictP : SimB true GL.fDictP fDictP := simB1 sim_f1DictP
end VL
set_option Elab.async false
set_option linter.all false
set_option maxRecDepth 100000
set_option maxHeartbeats 1000000
namespace VL
open GL (PV OB Sto Nm lim)
variable {F F' : FM} {S S' : Sto} {as ag : List AV}
def k1Rev (x : RV) : PE := fun ls gh => match val x ls gh with
  | some (.nd _ .lst xs) => if xs.all D.shr = true then .ok (.v (.nd .ow .lst xs.reverse)) ls gh else .bad
  | _ => .bad
def eRev (m : PE) : PE := e1 k1Rev m
def gRev (w : PV) (S1 : Sto) : GL.Out PV := match w with
  | .loc n => (match GL.seqAt S1 n with
    | some xs => .ok (.loc S1.length) (S1 ++ [.lst xs.reverse])
    | none => .bad)
  | _ => .bad
theorem sim_rev {q : Bool} {ma : AD → GL.ME} {pa : PE} (h : SimE q ma pa) : SimE q (fun ad => GL.eRev (ma ad)) (eRev pa) := fun F S as ag gd =>
  SimO.weak (sim_e1 (qf := true) (ff := gRev) h (by
    intro F S as ag c w g nd lt hp hk
    unfold k1Rev
    split
    · rename_i fl xs e
      split
      · rename_i hall
        obtain ⟨a, ea, rfl, aok, hc⟩ := val_er c e hp g hk
        obtain ⟨n, ys, rfl, rfl⟩ := er_nd ea
        have ob := obj_of g.fs aok
        have oks : A.oks F S ys := ok_kids aok
        have fz := fps_of oks hall
        have er : A.ers ys.reverse = (A.ers ys).reverse := by rw [ers_map, ers_map, List.map_reverse]
        rw [← er]
        refine sim_alloc g nd lt .lst ys.reverse rfl ?_ ?_ (fun _ => ?_)
        · rw [oks_iff] at oks ⊢
          exact fun x hx => oks x (List.mem_reverse.mp hx)
        · have : A.fps ys.reverse = [] := by
            rw [fps_map, List.flatMap_eq_nil_iff] at fz ⊢
            exact fun x hx => fz x (List.mem_reverse.mp hx)
          rw [this]; exact List.nil_sublist _
        · show gRev (.loc n) S = _
          unfold gRev
          simp only [seqAt_of (AtU.lst ob), mkO]
          rw [pvs_map, pvs_map, List.map_reverse]
      · trivial
    · trivial) F S as ag gd) (by simp)
end VL
set_option Elab.async false
set_option linter.all false
set_option maxRecDepth 100000
set_option maxHeartbeats 1000000
namespace VL
open GL (PV OB Sto Nm lim)
variable {F F' : FM} {S S' : Sto} {as ag : List AV}
def eSSet2 (i j : Nat) : PE := fun ls gh => match ls[i]?, ls[j]? with
  | some (some (.v (.sc (.int a)))), some (some (.v (.sc (.int b)))) => .ok (.v (.nd .ow .lst ((GL.sortI [a, b]).map D.int))) ls gh
  | _, _ => .bad
theorem int_at {i : Nat} {a : Int} {ad : AD} (h : (erS as)[i]? = some (some (.v (.sc (.int a))))) : (glS as ag ad as)[i]? = some (some (.int a)) := by
  unfold erS at h
  rw [List.getElem?_map] at h
  cases e : as[i]? with
  | none => rw [e] at h; cases h
  | some x =>
    rw [e] at h
    unfold glS
    rw [List.getElem?_map, e]
    cases x with
    | v z =>
      cases z with
      | sc s =>
        have h : some (some (V.v (.sc s))) = some (some (V.v (.sc (.int a)))) := h
        cases h
        rfl
      | tup xs => cases h
      | nd k n hd xs => cases h
    | _ => cases h
theorem sim_sset2 {i j : Nat} : SimE true (fun _ => GL.eSSet2 i j) (eSSet2 i j) := fun F S as ag g => by
  show SimO true RE F S as ag [] (fun ad => GL.eSSet2 i j (glS as ag ad as) S) (eSSet2 i j (erS as) (erS ag))
  unfold eSSet2
  split
  · rename_i a b ea eb
    rw [← aInts_er]
    refine sim_alloc g (good_nd g) (fun _ h => by cases h) .lst (aInts (GL.sortI [a, b])) rfl (aInts_ok _) (by rw [aInts_fp]; exact List.Sublist.refl _) (fun ad => ?_)
    unfold GL.eSSet2
    rw [int_at ea, int_at eb]
    simp only [mkO, aInts_pv]
  · trivial
end VL
set_option Elab.async false
set_option linter.all false
set_option maxRecDepth 100000
set_option maxHeartbeats 1000000
namespace VL
open GL (PV OB Sto Nm lim)
open PySem (PyData)
variable {F F' : FM} {S S' : Sto} {as ag : List AV}
def eqDV (ks : List PV) (xs : List D) (ls : List PV) (ys : List D) : Bool := decide (ks.length = ls.length) && (ks.zip xs).all fun p => match (idxK p.1 ls).bind fun i => ys[i]? with
  | some u => (match datD 60 p.2, datD 60 u with
    | some d, some e => PyData.eqv d e
    | _, _ => false)
  | none => false
def eqDM (neg : Bool) : G2 := fun x y ls gh => match val x ls gh, val y ls gh with
  | some (.nd _ (.dct ks) xs), some (.nd _ (.dct js) ys) => if eqDV ks xs js ys = true then .ok (.v (.bl (!neg))) ls gh else .bad
  | _, _ => .bad
abbrev gEqD : G2 := eqDM false
abbrev gNeD : G2 := eqDM true
theorem zip_all {ks : List PV} {xs : List A} {f : PV × PV → Bool} {g : PV × D → Bool} : ks.length = xs.length → (∀ (k : PV) (x : A), x ∈ xs → f (k, x.pv) = g (k, x.er)) → (ks.zip (A.pvs xs)).all f = (ks.zip (A.ers xs)).all g := by
  induction ks generalizing xs with
  | nil => intro _ _; rfl
  | cons k ks ih =>
    intro hl h
    cases xs with
    | nil => cases hl
    | cons x xs =>
      show (f (k, x.pv) && (ks.zip (A.pvs xs)).all f) = (g (k, x.er) && (ks.zip (A.ers xs)).all g)
      rw [h k x List.mem_cons_self, ih (Nat.succ.inj hl) fun k' y hy => h k' y (List.mem_cons_of_mem _ hy)]
theorem sim_eqDM (neg : Bool) : SimG true (GL.eqDM neg) (eqDM neg) := by
  intro F S as ag c1 c2 w1 w2 g nd lt h1 h2 k1 k2
  unfold eqDM
  split
  · rename_i fl ks xs fl2 js ys e1 e2
    split
    · rename_i hq
      obtain ⟨a, ea, rfl, aok, _⟩ := val_er c1 e1 h1 g k1
      obtain ⟨b, eb, rfl, bok, _⟩ := val_er c2 e2 h2 g k2
      obtain ⟨n, us, rfl, rfl⟩ := er_nd ea
      obtain ⟨m, vs, rfl, rfl⟩ := er_nd eb
      have oa := obj_of g.fs aok
      have ob := obj_of g.fs bok
      have wa : ks.length = us.length := by simpa [Hd.wf] using wf_of aok
      have wb : js.length = vs.length := by simpa [Hd.wf] using wf_of bok
      have ua : A.oks F S us := ok_kids aok
      have ub : A.oks F S vs := ok_kids bok
      refine sim_sc g nd lt (.bl (!neg)) (fun _ => ?_)
      show GL.eqDM neg (.loc n) (.loc m) S = _
      have hall : GL.eqDB S (ks.zip (A.pvs us)) (js.zip (A.pvs vs)) = true := by
        unfold GL.eqDB
        unfold eqDV at hq
        rw [Bool.and_eq_true] at hq ⊢
        refine ⟨decide_eq_true (by rw [List.length_zip, List.length_zip, pvs_len, pvs_len, ← wa, ← wb]; simpa using of_decide_eq_true hq.1), ?_⟩
        rw [← hq.2]
        refine zip_all wa fun k x hx => ?_
        dsimp only
        rw [lookP_zip js (A.pvs vs) (by rw [pvs_len]; exact wb)]
        cases hi : idxK k js with
        | none => rfl
        | some i =>
          show (match (A.pvs vs)[i]? with | some u => _ | none => _) = (match (A.ers vs)[i]? with | some u => _ | none => _)
          rw [pvs_map, ers_map, List.getElem?_map, List.getElem?_map]
          cases hv : vs[i]? with
          | none => rfl
          | some v =>
            dsimp only [Option.map]
            rw [dat_er g.fs 60 ((oks_iff us).mp ua x hx), dat_er g.fs 60 ((oks_iff vs).mp ub v (List.mem_of_getElem? hv))]
            try rfl
      unfold GL.eqDM
      dsimp only
      rw [rdct_of oa, rdct_of ob]
      dsimp only
      rw [if_pos hall]
      rfl
    · trivial
  · trivial
theorem sim_gEqD : SimG true GL.gEqD gEqD := sim_eqDM false
theorem sim_gNeD : SimG true GL.gNeD gNeD := sim_eqDM true
end VL
set_option Elab.async false
set_option linter.all false
set_option maxRecDepth 100000
set_option maxHeartbeats 1000000
namespace K16.V
open VL
open PySem (Str)
def m_law_row : MS := (sSeq (sSet 2 (eLst aNil))
  (sSeq (sFor (iSeq (eVar 0)) (gN 3)
  (sSeq (sSet 4 (eB fAbs (aCons (eB fInt (aCons (eVar 3) aNil)) aNil)))
  (sFor (iR1 (eC (.int 60))) (gN 5)
  (sSeq (sIf (toT (eOp gLt (eB fLen (aCons (eVar 2) aNil)) (eVar 1)))
  (sExpr (eMt kList mAppend (eVar 2) (aCons (eOp gMod (eVar 4) (eC (.int 16))) aNil)))
  sNil)
  (sSeq (sSet 4 (eOp gDiv (eVar 4) (eC (.int 16))))
  (sIf (toT (eOp gEq (eVar 4) (eC (.int 0))))
  sBk
  sNil))))))
  (sRet (eVar 2))))
abbrev f_law_row : MF := fnOf 2 6 m_law_row
theorem s_m_law_row : SimS (fun _ => K16.m_law_row) m_law_row := (sim_seq (sim_set (sim_lst sim_anil))
  (sim_seq (sim_for (sim_iseq (sim_var 0)) (sim_gN (vs := [3]) (by decide))
  (sim_seq (sim_set (sim_b (sim_acons (sim_b (sim_acons (sim_var 3) sim_anil) sim_fInt) sim_anil) sim_fAbs))
  (sim_for (sim_ir1 (sim_c rfl)) (sim_gN (vs := [5]) (by decide))
  (sim_seq (sim_sif (sim_toT (sim_op (sim_b (sim_acons (sim_var 2) sim_anil) sim_fLen) (sim_var 1) sim_gLt))
  (sim_expr (sim_mt sim_kList sim_mAppend (sim_var 2) (sim_acons (sim_op (sim_var 4) (sim_c rfl) sim_gMod) sim_anil)))
  sim_nil)
  (sim_seq (sim_set (sim_op (sim_var 4) (sim_c rfl) sim_gDiv))
  (sim_sif (sim_toT (sim_op (sim_var 4) (sim_c rfl) sim_gEq))
  sim_bk
  sim_nil))))))
  (sim_ret (sim_var 2))))
theorem s_f_law_row : SimFn K16.f_law_row f_law_row := sim_fn s_m_law_row
def m_law_pick : MS := (sSeq (sSet 3 (eC (.int 0)))
  (sSeq (sIf (toT (eOp gLt (eVar 1) (eB fLen (aCons (eVar 0) aNil))))
  (sSet 3 (eOp gIx (eVar 0) (eVar 1)))
  sNil)
  (sSeq (sIf (toT (eOp gLt (eOp gAdd (eVar 1) (eC (.int 1))) (eB fLen (aCons (eVar 0) aNil))))
  (sSet 3 (eOp gAdd (eVar 3) (eOp gMul (eC (.int 16)) (eOp gIx (eVar 0) (eOp gAdd (eVar 1) (eC (.int 1)))))))
  sNil)
  (sRet (eOp gMod (eB fInt (aCons (eVar 3) aNil)) (eVar 2))))))
abbrev f_law_pick : MF := fnOf 3 4 m_law_pick
theorem s_m_law_pick : SimS (fun _ => K16.m_law_pick) m_law_pick := (sim_seq (sim_set (sim_c rfl))
  (sim_seq (sim_sif (sim_toT (sim_op (sim_var 1) (sim_b (sim_acons (sim_var 0) sim_anil) sim_fLen) sim_gLt))
  (sim_set (sim_op (sim_var 0) (sim_var 1) sim_gIx))
  sim_nil)
  (sim_seq (sim_sif (sim_toT (sim_op (sim_op (sim_var 1) (sim_c rfl) sim_gAdd) (sim_b (sim_acons (sim_var 0) sim_anil) sim_fLen) sim_gLt))
  (sim_set (sim_op (sim_var 3) (sim_op (sim_c rfl) (sim_op (sim_var 0) (sim_op (sim_var 1) (sim_c rfl) sim_gAdd) sim_gIx) sim_gMul) sim_gAdd))
  sim_nil)
  (sim_ret (sim_op (sim_b (sim_acons (sim_var 3) sim_anil) sim_fInt) (sim_var 2) sim_gMod)))))
theorem s_f_law_pick : SimFn K16.f_law_pick f_law_pick := sim_fn s_m_law_pick
def m_law_maker : MS := (sSeq (sIf (toT (eOp gEq (eVar 2) (eC (.int 4))))
  (sSeq (sIf (toT (eOp gEq (eCall f_law_pick [] (aCons (eVar 0) (aCons (eVar 1) (aCons (eC (.int 3)) aNil)))) (eC (.int 2))))
  (sRet (eTup (aCons (eC (.str n_flags)) (aCons (eCall f_law_pick [] (aCons (eVar 0) (aCons (eOp gAdd (eVar 1) (eC (.int 2))) (aCons (eC (.int 2)) aNil)))) (aCons (eCall f_law_pick [] (aCons (eVar 0) (aCons (eOp gAdd (eVar 1) (eC (.int 4))) (aCons (eC (.int 2)) aNil)))) aNil)))))
  sNil)
  (sRet (eTup (aCons (eC (.str n_compare)) (aCons (eCall f_law_pick [] (aCons (eVar 0) (aCons (eOp gAdd (eVar 1) (eC (.int 2))) (aCons (eC (.int 4)) aNil)))) (aCons (eCall f_law_pick [] (aCons (eVar 0) (aCons (eOp gAdd (eVar 1) (eC (.int 4))) (aCons (eC (.int 4)) aNil)))) aNil))))))
  sNil)
  (sSeq (sIf (toT (eOp gEq (eCall f_law_pick [] (aCons (eVar 0) (aCons (eVar 1) (aCons (eC (.int 2)) aNil)))) (eC (.int 1))))
  (sRet (eTup (aCons (eC (.str n_set)) (aCons (eCall f_law_pick [] (aCons (eVar 0) (aCons (eOp gAdd (eVar 1) (eC (.int 2))) (aCons (eC (.int 256)) aNil)))) aNil))))
  sNil)
  (sRet (eTup (aCons (eC (.str n_move)) (aCons (eCall f_law_pick [] (aCons (eVar 0) (aCons (eOp gAdd (eVar 1) (eC (.int 2))) (aCons (eC (.int 4)) aNil)))) aNil))))))
abbrev f_law_maker : MF := fnOf 3 3 m_law_maker
theorem s_m_law_maker : SimS (fun _ => K16.m_law_maker) m_law_maker := (sim_seq (sim_sif (sim_toT (sim_op (sim_var 2) (sim_c rfl) sim_gEq))
  (sim_seq (sim_sif (sim_toT (sim_op (sim_call s_f_law_pick rfl (sim_acons (sim_var 0) (sim_acons (sim_var 1) (sim_acons (sim_c rfl) sim_anil)))) (sim_c rfl) sim_gEq))
  (sim_ret (sim_tup (sim_acons (sim_c rfl) (sim_acons (sim_call s_f_law_pick rfl (sim_acons (sim_var 0) (sim_acons (sim_op (sim_var 1) (sim_c rfl) sim_gAdd) (sim_acons (sim_c rfl) sim_anil)))) (sim_acons (sim_call s_f_law_pick rfl (sim_acons (sim_var 0) (sim_acons (sim_op (sim_var 1) (sim_c rfl) sim_gAdd) (sim_acons (sim_c rfl) sim_anil)))) sim_anil)))))
  sim_nil)
  (sim_ret (sim_tup (sim_acons (sim_c rfl) (sim_acons (sim_call s_f_law_pick rfl (sim_acons (sim_var 0) (sim_acons (sim_op (sim_var 1) (sim_c rfl) sim_gAdd) (sim_acons (sim_c rfl) sim_anil)))) (sim_acons (sim_call s_f_law_pick rfl (sim_acons (sim_var 0) (sim_acons (sim_op (sim_var 1) (sim_c rfl) sim_gAdd) (sim_acons (sim_c rfl) sim_anil)))) sim_anil))))))
  sim_nil)
  (sim_seq (sim_sif (sim_toT (sim_op (sim_call s_f_law_pick rfl (sim_acons (sim_var 0) (sim_acons (sim_var 1) (sim_acons (sim_c rfl) sim_anil)))) (sim_c rfl) sim_gEq))
  (sim_ret (sim_tup (sim_acons (sim_c rfl) (sim_acons (sim_call s_f_law_pick rfl (sim_acons (sim_var 0) (sim_acons (sim_op (sim_var 1) (sim_c rfl) sim_gAdd) (sim_acons (sim_c rfl) sim_anil)))) sim_anil))))
  sim_nil)
  (sim_ret (sim_tup (sim_acons (sim_c rfl) (sim_acons (sim_call s_f_law_pick rfl (sim_acons (sim_var 0) (sim_acons (sim_op (sim_var 1) (sim_c rfl) sim_gAdd) (sim_acons (sim_c rfl) sim_anil)))) sim_anil))))))
theorem s_f_law_maker : SimFn K16.f_law_maker f_law_maker := sim_fn s_m_law_maker
def m_law_makers : MS := (sSeq (sSet 2 eDNew)
  (sSeq (sFor (iR1 (eC (.int 5))) (gN 3)
  (sIf (toT (eOp gNe (eCall f_law_pick [] (aCons (eVar 0) (aCons (eOp gAdd (eVar 1) (eOp gMul (eC (.int 7)) (eVar 3))) (aCons (eC (.int 4)) aNil)))) (eC (.int 3))))
  (sDPutM (eVar 2) (eVar 3) (eCall f_law_maker [] (aCons (eVar 0) (aCons (eOp gAdd (eOp gAdd (eVar 1) (eC (.int 1))) (eOp gMul (eC (.int 7)) (eVar 3))) (aCons (eVar 3) aNil)))))
  sNil))
  (sRet (eVar 2))))
abbrev f_law_makers : MF := fnOf 2 4 m_law_makers
theorem s_m_law_makers : SimS (fun _ => K16.m_law_makers) m_law_makers := (sim_seq (sim_set sim_dnew)
  (sim_seq (sim_for (sim_ir1 (sim_c rfl)) (sim_gN (vs := [3]) (by decide))
  (sim_sif (sim_toT (sim_op (sim_call s_f_law_pick rfl (sim_acons (sim_var 0) (sim_acons (sim_op (sim_var 1) (sim_op (sim_c rfl) (sim_var 3) sim_gMul) sim_gAdd) (sim_acons (sim_c rfl) sim_anil)))) (sim_c rfl) sim_gNe))
  (sim_dput (sim_var 2) (sim_var 3) (sim_call s_f_law_maker rfl (sim_acons (sim_var 0) (sim_acons (sim_op (sim_op (sim_var 1) (sim_c rfl) sim_gAdd) (sim_op (sim_c rfl) (sim_var 3) sim_gMul) sim_gAdd) (sim_acons (sim_var 3) sim_anil)))))
  sim_nil))
  (sim_ret (sim_var 2))))
theorem s_f_law_makers : SimFn K16.f_law_makers f_law_makers := sim_fn s_m_law_makers
def m_sources : MS := (sMatchT (eVar 0) [([(.c n_move), (.v 1)], (sRet (eTup (aCons (eVar 1) aNil)))), ([(.c n_compare), (.v 2), (.v 3)], (sRet (eB fTuple (aCons (eSSet2 2 3) aNil))))] (sRet (eTup aNil)))
abbrev f_sources : MF := fnOf 1 4 m_sources
theorem s_m_sources : SimS (fun _ => K16.m_sources) m_sources := (sim_matchT (sim_var 0) (.cons (sim_ret (sim_tup (sim_acons (sim_var 1) sim_anil))) (.cons (sim_ret (sim_b (sim_acons sim_sset2 sim_anil) sim_fTuple)) .nil)) (sim_ret (sim_tup sim_anil)))
theorem s_f_sources : SimFn K16.f_sources f_sources := sim_fn s_m_sources
def m_law_sources : MS := (sSeq (sIf (toT (eOp gEq (eOp gIx (eVar 0) (eC (.int 0))) (eC (.str n_move))))
  (sRet (eLst (aCons (eOp gIx (eVar 0) (eC (.int 1))) aNil)))
  sNil)
  (sSeq (sIf (toT (eOp gEq (eOp gIx (eVar 0) (eC (.int 0))) (eC (.str n_compare))))
  (sSeq (sIf (toT (eOp gEq (eOp gIx (eVar 0) (eC (.int 1))) (eOp gIx (eVar 0) (eC (.int 2)))))
  (sRet (eLst (aCons (eOp gIx (eVar 0) (eC (.int 1))) aNil)))
  sNil)
  (sRet (eLst (aCons (eB fMin2 (aCons (eOp gIx (eVar 0) (eC (.int 1))) (aCons (eOp gIx (eVar 0) (eC (.int 2))) aNil))) (aCons (eB fMax2 (aCons (eOp gIx (eVar 0) (eC (.int 1))) (aCons (eOp gIx (eVar 0) (eC (.int 2))) aNil))) aNil)))))
  sNil)
  (sRet (eLst aNil))))
abbrev f_law_sources : MF := fnOf 1 1 m_law_sources
theorem s_m_law_sources : SimS (fun _ => K16.m_law_sources) m_law_sources := (sim_seq (sim_sif (sim_toT (sim_op (sim_op (sim_var 0) (sim_c rfl) sim_gIx) (sim_c rfl) sim_gEq))
  (sim_ret (sim_lst (sim_acons (sim_op (sim_var 0) (sim_c rfl) sim_gIx) sim_anil)))
  sim_nil)
  (sim_seq (sim_sif (sim_toT (sim_op (sim_op (sim_var 0) (sim_c rfl) sim_gIx) (sim_c rfl) sim_gEq))
  (sim_seq (sim_sif (sim_toT (sim_op (sim_op (sim_var 0) (sim_c rfl) sim_gIx) (sim_op (sim_var 0) (sim_c rfl) sim_gIx) sim_gEq))
  (sim_ret (sim_lst (sim_acons (sim_op (sim_var 0) (sim_c rfl) sim_gIx) sim_anil)))
  sim_nil)
  (sim_ret (sim_lst (sim_acons (sim_b (sim_acons (sim_op (sim_var 0) (sim_c rfl) sim_gIx) (sim_acons (sim_op (sim_var 0) (sim_c rfl) sim_gIx) sim_anil)) sim_fMin2) (sim_acons (sim_b (sim_acons (sim_op (sim_var 0) (sim_c rfl) sim_gIx) (sim_acons (sim_op (sim_var 0) (sim_c rfl) sim_gIx) sim_anil)) sim_fMax2) sim_anil)))))
  sim_nil)
  (sim_ret (sim_lst sim_anil))))
theorem s_f_law_sources : SimFn K16.f_law_sources f_law_sources := sim_fn s_m_law_sources
def m_law_whole : MS := (sRet (eAndM (eB fIsi (aCons (eVar 0) (aCons (eC (.ty .int)) aNil))) (eNotM (eB fIsi (aCons (eVar 0) (aCons (eC (.ty .bool)) aNil))))))
abbrev f_law_whole : MF := fnOf 1 1 m_law_whole
theorem s_m_law_whole : SimS (fun _ => K16.m_law_whole) m_law_whole := (sim_ret (sim_and (sim_b (sim_acons (sim_var 0) (sim_acons (sim_c rfl) sim_anil)) sim_fIsi) (sim_not (sim_b (sim_acons (sim_var 0) (sim_acons (sim_c rfl) sim_anil)) sim_fIsi))))
theorem s_f_law_whole : SimFn K16.f_law_whole f_law_whole := sim_fn s_m_law_whole
def m_law_sources_told : MS := (sSeq (sFor (iR1 (eC (.int 5))) (gN 1)
  (sIf (toT (eDIn false (eVar 1) (eVar 0)))
  (sSeq (sSet 2 (eCall f_sources [] (aCons (eDGet (eVar 0) (eVar 1)) aNil)))
  (sSeq (sIf (tOrM (tNotM (toT (eB fIsi (aCons (eVar 2) (aCons (eC (.ty .tuple)) aNil))))) (toT (eOp gNe (eB fList (aCons (eVar 2) aNil)) (eCall f_law_sources [] (aCons (eDGet (eVar 0) (eVar 1)) aNil)))))
  (sRet (eC (.bl false)))
  sNil)
  (sFor (iSeq (eVar 2)) (gN 3)
  (sIf (tNotM (toT (eCall f_law_whole [] (aCons (eVar 3) aNil))))
  (sRet (eC (.bl false)))
  sNil))))
  sNil))
  (sRet (eC (.bl true))))
abbrev f_law_sources_told : MF := fnOf 1 4 m_law_sources_told
theorem s_m_law_sources_told : SimS (fun _ => K16.m_law_sources_told) m_law_sources_told := (sim_seq (sim_for (sim_ir1 (sim_c rfl)) (sim_gN (vs := [1]) (by decide))
  (sim_sif (sim_toT (sim_din (sim_var 1) (sim_var 0)))
  (sim_seq (sim_set (sim_call s_f_sources rfl (sim_acons (sim_dget (sim_var 0) (sim_var 1)) sim_anil)))
  (sim_seq (sim_sif (sim_tor (sim_tnot (sim_toT (sim_b (sim_acons (sim_var 2) (sim_acons (sim_c rfl) sim_anil)) sim_fIsi))) (sim_toT (sim_op (sim_b (sim_acons (sim_var 2) sim_anil) sim_fList) (sim_call s_f_law_sources rfl (sim_acons (sim_dget (sim_var 0) (sim_var 1)) sim_anil)) sim_gNe)))
  (sim_ret (sim_c rfl))
  sim_nil)
  (sim_for (sim_iseq (sim_var 2)) (sim_gN (vs := [3]) (by decide))
  (sim_sif (sim_tnot (sim_toT (sim_call s_f_law_whole rfl (sim_acons (sim_var 3) sim_anil))))
  (sim_ret (sim_c rfl))
  sim_nil))))
  sim_nil))
  (sim_ret (sim_c rfl)))
theorem s_f_law_sources_told : SimFn K16.f_law_sources_told f_law_sources_told := sim_fn s_m_law_sources_told
def m_law_walked : MS := (sSeq (sSet 3 (eB fList (aCons (eVar 0) aNil)))
  (sSeq (sSet 4 (eVar 1))
  (sSeq (sFor (iR1 (eC (.int 5))) (gN 5)
  (sIf (toT (eDIn false (eVar 5) (eVar 2)))
  (sSeq (sSet 6 (eDGet (eVar 2) (eVar 5)))
  (sIf (toT (eOp gEq (eOp gIx (eVar 6) (eC (.int 0))) (eC (.str n_set))))
  (sSub (eVar 3) (eVar 5) (eOp gIx (eVar 6) (eC (.int 1))))
  (sIf (toT (eOp gEq (eOp gIx (eVar 6) (eC (.int 0))) (eC (.str n_move))))
  (sSub (eVar 3) (eVar 5) (eOp gIx (eVar 3) (eOp gIx (eVar 6) (eC (.int 1)))))
  (sIf (toT (eOp gEq (eOp gIx (eVar 6) (eC (.int 0))) (eC (.str n_compare))))
  (sSet 4 (eTup (aCons (eB fInt (aCons (eOp gEq (eOp gIx (eVar 3) (eOp gIx (eVar 6) (eC (.int 1)))) (eOp gIx (eVar 3) (eOp gIx (eVar 6) (eC (.int 2))))) aNil)) (aCons (eB fInt (aCons (eOp gLt (eOp gIx (eVar 3) (eOp gIx (eVar 6) (eC (.int 1)))) (eOp gIx (eVar 3) (eOp gIx (eVar 6) (eC (.int 2))))) aNil)) aNil))))
  (sSet 4 (eTup (aCons (eOp gIx (eVar 6) (eC (.int 1))) (aCons (eOp gIx (eVar 6) (eC (.int 2))) aNil))))))))
  sNil))
  (sRet (eTup (aCons (eB fTuple (aCons (eVar 3) aNil)) (aCons (eVar 4) aNil)))))))
abbrev f_law_walked : MF := fnOf 3 7 m_law_walked
theorem s_m_law_walked : SimS (fun _ => K16.m_law_walked) m_law_walked := (sim_seq (sim_set (sim_b (sim_acons (sim_var 0) sim_anil) sim_fList))
  (sim_seq (sim_set (sim_var 1))
  (sim_seq (sim_for (sim_ir1 (sim_c rfl)) (sim_gN (vs := [5]) (by decide))
  (sim_sif (sim_toT (sim_din (sim_var 5) (sim_var 2)))
  (sim_seq (sim_set (sim_dget (sim_var 2) (sim_var 5)))
  (sim_sif (sim_toT (sim_op (sim_op (sim_var 6) (sim_c rfl) sim_gIx) (sim_c rfl) sim_gEq))
  (sim_sub (sim_op (sim_var 6) (sim_c rfl) sim_gIx) (sim_var 3) (sim_var 5))
  (sim_sif (sim_toT (sim_op (sim_op (sim_var 6) (sim_c rfl) sim_gIx) (sim_c rfl) sim_gEq))
  (sim_sub (sim_op (sim_var 3) (sim_op (sim_var 6) (sim_c rfl) sim_gIx) sim_gIx) (sim_var 3) (sim_var 5))
  (sim_sif (sim_toT (sim_op (sim_op (sim_var 6) (sim_c rfl) sim_gIx) (sim_c rfl) sim_gEq))
  (sim_set (sim_tup (sim_acons (sim_b (sim_acons (sim_op (sim_op (sim_var 3) (sim_op (sim_var 6) (sim_c rfl) sim_gIx) sim_gIx) (sim_op (sim_var 3) (sim_op (sim_var 6) (sim_c rfl) sim_gIx) sim_gIx) sim_gEq) sim_anil) sim_fInt) (sim_acons (sim_b (sim_acons (sim_op (sim_op (sim_var 3) (sim_op (sim_var 6) (sim_c rfl) sim_gIx) sim_gIx) (sim_op (sim_var 3) (sim_op (sim_var 6) (sim_c rfl) sim_gIx) sim_gIx) sim_gLt) sim_anil) sim_fInt) sim_anil))))
  (sim_set (sim_tup (sim_acons (sim_op (sim_var 6) (sim_c rfl) sim_gIx) (sim_acons (sim_op (sim_var 6) (sim_c rfl) sim_gIx) sim_anil))))))))
  sim_nil))
  (sim_ret (sim_tup (sim_acons (sim_b (sim_acons (sim_var 3) sim_anil) sim_fTuple) (sim_acons (sim_var 4) sim_anil)))))))
theorem s_f_law_walked : SimFn K16.f_law_walked f_law_walked := sim_fn s_m_law_walked
def m_Processor_init : MS := (sSeq (sFldM tab n_pc (eVar 0) (eC (.int 0)))
  (sSeq (sIf (toT (eOp (isM true) (eVar 1) (eC .non)))
  (sFldM tab n_pc (eVar 0) (eVar 1))
  sNil)
  (sSeq (sFldM tab n_regs (eVar 0) (eOp gMul (eLst (aCons (eC (.int 0)) aNil)) (eC w_REGISTERS)))
  (sSeq (sFldM tab n_zero (eVar 0) (eC (.int 0)))
  (sSeq (sFldM tab n_less (eVar 0) (eC (.int 0)))
  (sSeq (sFldM tab n_level (eVar 0) (eC (.int 1)))
  (sSeq (sFldM tab n_enabled (eVar 0) (eC (.bl false)))
  (sSeq (sFldM tab n_pending (eVar 0) (eC (.bl false)))
  (sSeq (sFldM tab n_saved (eVar 0) (eTup (aCons (eC (.int 0)) (aCons (eC (.int 1)) (aCons (eC (.bl false)) aNil)))))
  (sFldM tab n_halted (eVar 0) (eOp (isM false) (eVar 1) (eC .non))))))))))))
abbrev f_Processor_init : MF := fnOf 2 2 m_Processor_init
theorem s_m_Processor_init : SimS (fun _ => K16.m_Processor_init) m_Processor_init := (sim_seq (sim_sfld (sim_var 0) (sim_c rfl))
  (sim_seq (sim_sif (sim_toT (sim_op (sim_var 1) (sim_c rfl) (sim_isM true)))
  (sim_sfld (sim_var 0) (sim_var 1))
  sim_nil)
  (sim_seq (sim_sfld (sim_var 0) (sim_op (sim_lst (sim_acons (sim_c rfl) sim_anil)) (sim_c rfl) sim_gMul))
  (sim_seq (sim_sfld (sim_var 0) (sim_c rfl))
  (sim_seq (sim_sfld (sim_var 0) (sim_c rfl))
  (sim_seq (sim_sfld (sim_var 0) (sim_c rfl))
  (sim_seq (sim_sfld (sim_var 0) (sim_c rfl))
  (sim_seq (sim_sfld (sim_var 0) (sim_c rfl))
  (sim_seq (sim_sfld (sim_var 0) (sim_tup (sim_acons (sim_c rfl) (sim_acons (sim_c rfl) (sim_acons (sim_c rfl) sim_anil)))))
  (sim_sfld (sim_var 0) (sim_op (sim_var 1) (sim_c rfl) (sim_isM false))))))))))))
theorem s_f_Processor_init : SimFn K16.f_Processor_init f_Processor_init := sim_fn s_m_Processor_init
def m_law_start : MS := (sSeq (sIf (toT (eOp gEq (eCall f_law_pick [] (aCons (eVar 0) (aCons (eC (.int 2)) (aCons (eC (.int 4)) aNil)))) (eC (.int 3))))
  (sRet (eC .non))
  sNil)
  (sRet (eCall f_law_pick [] (aCons (eVar 0) (aCons (eC (.int 0)) (aCons (eC (.int 64)) aNil))))))
abbrev f_law_start : MF := fnOf 1 1 m_law_start
theorem s_m_law_start : SimS (fun _ => K16.m_law_start) m_law_start := (sim_seq (sim_sif (sim_toT (sim_op (sim_call s_f_law_pick rfl (sim_acons (sim_var 0) (sim_acons (sim_c rfl) (sim_acons (sim_c rfl) sim_anil)))) (sim_c rfl) sim_gEq))
  (sim_ret (sim_c rfl))
  sim_nil)
  (sim_ret (sim_call s_f_law_pick rfl (sim_acons (sim_var 0) (sim_acons (sim_c rfl) (sim_acons (sim_c rfl) sim_anil))))))
theorem s_f_law_start : SimFn K16.f_law_start f_law_start := sim_fn s_m_law_start
def m_flush_one : MS := (sMatchT (eVar 2) [([(.c n_set), (.v 3)], (sSub (eFld tab n_regs (eVar 0)) (eVar 1) (eVar 3))), ([(.c n_move), (.v 4)], (sSub (eFld tab n_regs (eVar 0)) (eVar 1) (eOp gIx (eFld tab n_regs (eVar 0)) (eVar 4)))), ([(.c n_compare), (.v 5), (.v 6)], (sSeq (sAsg (gT (gsCons (gN 7) (gsCons (gN 8) gsNil))) (eTup (aCons (eOp gIx (eFld tab n_regs (eVar 0)) (eVar 5)) (aCons (eOp gIx (eFld tab n_regs (eVar 0)) (eVar 6)) aNil))))
  (sAsgF tab [n_zero, n_less] 0 (eTup (aCons (eB fInt (aCons (eOp gEq (eVar 7) (eVar 8)) aNil)) (aCons (eB fInt (aCons (eOp gLt (eVar 7) (eVar 8)) aNil)) aNil)))))), ([(.c n_flags), (.v 9), (.v 10)], (sAsgF tab [n_zero, n_less] 0 (eTup (aCons (eVar 9) (aCons (eVar 10) aNil)))))] sNil)
abbrev f_flush_one : MF := fnOf 3 11 m_flush_one
theorem s_m_flush_one : SimS (fun _ => K16.m_flush_one) m_flush_one := (sim_matchT (sim_var 2) (.cons (sim_sub (sim_var 3) (sim_fld (sim_var 0)) (sim_var 1)) (.cons (sim_sub (sim_op (sim_fld (sim_var 0)) (sim_var 4) sim_gIx) (sim_fld (sim_var 0)) (sim_var 1)) (.cons (sim_seq (sim_asg (sim_gT (sim_gscons (sim_gN (vs := [7, 8]) (by decide)) (sim_gscons (sim_gN (vs := [7, 8]) (by decide)) sim_gsnil))) (sim_tup (sim_acons (sim_op (sim_fld (sim_var 0)) (sim_var 5) sim_gIx) (sim_acons (sim_op (sim_fld (sim_var 0)) (sim_var 6) sim_gIx) sim_anil))))
  (sim_asgF (sim_tup (sim_acons (sim_b (sim_acons (sim_op (sim_var 7) (sim_var 8) sim_gEq) sim_anil) sim_fInt) (sim_acons (sim_b (sim_acons (sim_op (sim_var 7) (sim_var 8) sim_gLt) sim_anil) sim_fInt) sim_anil))))) (.cons (sim_asgF (sim_tup (sim_acons (sim_var 9) (sim_acons (sim_var 10) sim_anil)))) .nil)))) sim_nil)
theorem s_f_flush_one : SimFn K16.f_flush_one f_flush_one := sim_fn s_m_flush_one
def m_flush : MS := (sSeq (sSet 2 (eB fDictP (aCons (eVar 1) aNil)))
  (sFor (iSeq (eB fSrtD (aCons (eB fListD (aCons (eVar 2) aNil)) aNil))) (gN 3)
  (sExpr (eCallM f_flush_one [1, 0, 0] [] (aCons (eVar 0) (aCons (eVar 3) (aCons (eDGet (eVar 2) (eVar 3)) aNil)))))))
abbrev f_flush : MF := fnOf 2 4 m_flush
theorem s_m_flush : SimS (fun _ => K16.m_flush) m_flush := (sim_seq (sim_set (sim_b (sim_acons (sim_var 1) sim_anil) sim_fDictP))
  (sim_for (sim_iseq (sim_b (sim_acons (sim_b (sim_acons (sim_var 2) sim_anil) sim_fListD) sim_anil) sim_fSrtD)) (sim_gN (vs := [3]) (by decide))
  (sim_expr (sim_callM s_f_flush_one rfl (sim_acons (sim_var 0) (sim_acons (sim_var 3) (sim_acons (sim_dget (sim_var 2) (sim_var 3)) sim_anil)))))))
theorem s_f_flush : SimFn K16.f_flush f_flush := sim_fn s_m_flush
def m_law_processor : MS := (sSeq (sSet 3 (eMake n_Processor f_Processor_init [] (aCons (eCall f_law_start [] (aCons (eVar 0) aNil)) aNil)))
  (sSeq (sFor (iR1 (eC (.int 4))) (gN 4)
  (sSub (eFld tab n_regs (eVar 3)) (eVar 4) (eOp gIx (eVar 1) (eVar 4))))
  (sSeq (sExpr (eCallM f_flush [1, 0] [] (aCons (eVar 3) (aCons (eLst (aCons (eTup (aCons (eC (.int 4)) (aCons (eTup (aCons (eC (.str n_flags)) (aCons (eOp gIx (eVar 2) (eC (.int 0))) (aCons (eOp gIx (eVar 2) (eC (.int 1))) aNil)))) aNil))) aNil)) aNil))))
  (sRet (eVar 3)))))
abbrev f_law_processor : MF := fnOf 3 5 m_law_processor
theorem s_m_law_processor : SimS (fun _ => K16.m_law_processor) m_law_processor := (sim_seq (sim_set (sim_make s_f_Processor_init rfl (sim_acons (sim_call s_f_law_start rfl (sim_acons (sim_var 0) sim_anil)) sim_anil)))
  (sim_seq (sim_for (sim_ir1 (sim_c rfl)) (sim_gN (vs := [4]) (by decide))
  (sim_sub (sim_op (sim_var 1) (sim_var 4) sim_gIx) (sim_fld (sim_var 3)) (sim_var 4)))
  (sim_seq (sim_expr (sim_callM s_f_flush rfl (sim_acons (sim_var 3) (sim_acons (sim_lst (sim_acons (sim_tup (sim_acons (sim_c rfl) (sim_acons (sim_tup (sim_acons (sim_c rfl) (sim_acons (sim_op (sim_var 2) (sim_c rfl) sim_gIx) (sim_acons (sim_op (sim_var 2) (sim_c rfl) sim_gIx) sim_anil)))) sim_anil))) sim_anil)) sim_anil))))
  (sim_ret (sim_var 3)))))
theorem s_f_law_processor : SimFn K16.f_law_processor f_law_processor := sim_fn s_m_law_processor
def m_Processor_copy : MS := (sSeq (sSet 1 (eMake n_Processor f_Processor_init [] (aCons (eFld tab n_pc (eVar 0)) aNil)))
  (sSeq (sFldM tab n_regs (eVar 1) (eB fList (aCons (eFld tab n_regs (eVar 0)) aNil)))
  (sSeq (sFldM tab n_zero (eVar 1) (eFld tab n_zero (eVar 0)))
  (sSeq (sFldM tab n_less (eVar 1) (eFld tab n_less (eVar 0)))
  (sSeq (sFldM tab n_level (eVar 1) (eFld tab n_level (eVar 0)))
  (sSeq (sFldM tab n_enabled (eVar 1) (eFld tab n_enabled (eVar 0)))
  (sSeq (sFldM tab n_pending (eVar 1) (eFld tab n_pending (eVar 0)))
  (sSeq (sFldM tab n_saved (eVar 1) (eFld tab n_saved (eVar 0)))
  (sSeq (sFldM tab n_halted (eVar 1) (eFld tab n_halted (eVar 0)))
  (sRet (eVar 1)))))))))))
abbrev f_Processor_copy : MF := fnOf 1 2 m_Processor_copy
theorem s_m_Processor_copy : SimS (fun _ => K16.m_Processor_copy) m_Processor_copy := (sim_seq (sim_set (sim_make s_f_Processor_init rfl (sim_acons (sim_fld (sim_var 0)) sim_anil)))
  (sim_seq (sim_sfld (sim_var 1) (sim_b (sim_acons (sim_fld (sim_var 0)) sim_anil) sim_fList))
  (sim_seq (sim_sfld (sim_var 1) (sim_fld (sim_var 0)))
  (sim_seq (sim_sfld (sim_var 1) (sim_fld (sim_var 0)))
  (sim_seq (sim_sfld (sim_var 1) (sim_fld (sim_var 0)))
  (sim_seq (sim_sfld (sim_var 1) (sim_fld (sim_var 0)))
  (sim_seq (sim_sfld (sim_var 1) (sim_fld (sim_var 0)))
  (sim_seq (sim_sfld (sim_var 1) (sim_fld (sim_var 0)))
  (sim_seq (sim_sfld (sim_var 1) (sim_fld (sim_var 0)))
  (sim_ret (sim_var 1)))))))))))
theorem s_f_Processor_copy : SimFn K16.f_Processor_copy f_Processor_copy := sim_fn s_m_Processor_copy
def m_flushed : MS := (sSeq (sSet 2 (eMethN n_Processor n_copy f_Processor_copy [] (eVar 0) aNil))
  (sSeq (sExpr (eCallM f_flush [1, 0] [] (aCons (eVar 2) (aCons (eVar 1) aNil))))
  (sRet (eVar 2))))
abbrev f_flushed : MF := fnOf 2 3 m_flushed
theorem s_m_flushed : SimS (fun _ => K16.m_flushed) m_flushed := (sim_seq (sim_set (sim_methN s_f_Processor_copy rfl (sim_var 0) sim_anil))
  (sim_seq (sim_expr (sim_callM s_f_flush rfl (sim_acons (sim_var 2) (sim_acons (sim_var 1) sim_anil))))
  (sim_ret (sim_var 2))))
theorem s_f_flushed : SimFn K16.f_flushed f_flushed := sim_fn s_m_flushed
def m_Processor_key : MS := (sSeq (sSet 1 (eTup (aCons (eFld tab n_zero (eVar 0)) (aCons (eFld tab n_less (eVar 0)) aNil))))
  (sRet (eTup (aCons (eFld tab n_pc (eVar 0)) (aCons (eB fTuple (aCons (eFld tab n_regs (eVar 0)) aNil)) (aCons (eVar 1) (aCons (eFld tab n_level (eVar 0)) (aCons (eFld tab n_enabled (eVar 0)) (aCons (eFld tab n_pending (eVar 0)) (aCons (eFld tab n_saved (eVar 0)) (aCons (eFld tab n_halted (eVar 0)) aNil)))))))))))
abbrev f_Processor_key : MF := fnOf 1 2 m_Processor_key
theorem s_m_Processor_key : SimS (fun _ => K16.m_Processor_key) m_Processor_key := (sim_seq (sim_set (sim_tup (sim_acons (sim_fld (sim_var 0)) (sim_acons (sim_fld (sim_var 0)) sim_anil))))
  (sim_ret (sim_tup (sim_acons (sim_fld (sim_var 0)) (sim_acons (sim_b (sim_acons (sim_fld (sim_var 0)) sim_anil) sim_fTuple) (sim_acons (sim_var 1) (sim_acons (sim_fld (sim_var 0)) (sim_acons (sim_fld (sim_var 0)) (sim_acons (sim_fld (sim_var 0)) (sim_acons (sim_fld (sim_var 0)) (sim_acons (sim_fld (sim_var 0)) sim_anil)))))))))))
theorem s_f_Processor_key : SimFn K16.f_Processor_key f_Processor_key := sim_fn s_m_Processor_key
def m_law_stands : MS := (sSeq (sSet 3 (eCall f_law_start [] (aCons (eVar 1) aNil)))
  (sSeq (sSet 4 (eC (.int 0)))
  (sSeq (sIf (toT (eOp (isM true) (eVar 3) (eC .non)))
  (sSet 4 (eVar 3))
  sNil)
  (sSeq (sIf (toT (eOp gNe (eMethN n_Processor n_key f_Processor_key [] (eVar 0) aNil) (eTup (aCons (eVar 4) (aCons (eOp gIx (eVar 2) (eC (.int 0))) (aCons (eOp gIx (eVar 2) (eC (.int 1))) (aCons (eC (.int 1)) (aCons (eC (.bl false)) (aCons (eC (.bl false)) (aCons (eTup (aCons (eC (.int 0)) (aCons (eC (.int 1)) (aCons (eC (.bl false)) aNil)))) (aCons (eOp (isM false) (eVar 3) (eC .non)) aNil)))))))))))
  (sRet (eC (.bl false)))
  sNil)
  (sSeq (sFor (iSeq (eOp gAdd (eB fList (aCons (eFld tab n_regs (eVar 0)) aNil)) (eLst (aCons (eFld tab n_zero (eVar 0)) (aCons (eFld tab n_less (eVar 0)) aNil))))) (gN 5)
  (sIf (tNotM (toT (eCall f_law_whole [] (aCons (eVar 5) aNil))))
  (sRet (eC (.bl false)))
  sNil))
  (sRet (eC (.bl true))))))))
abbrev f_law_stands : MF := fnOf 3 6 m_law_stands
theorem s_m_law_stands : SimS (fun _ => K16.m_law_stands) m_law_stands := (sim_seq (sim_set (sim_call s_f_law_start rfl (sim_acons (sim_var 1) sim_anil)))
  (sim_seq (sim_set (sim_c rfl))
  (sim_seq (sim_sif (sim_toT (sim_op (sim_var 3) (sim_c rfl) (sim_isM true)))
  (sim_set (sim_var 3))
  sim_nil)
  (sim_seq (sim_sif (sim_toT (sim_op (sim_methN s_f_Processor_key rfl (sim_var 0) sim_anil) (sim_tup (sim_acons (sim_var 4) (sim_acons (sim_op (sim_var 2) (sim_c rfl) sim_gIx) (sim_acons (sim_op (sim_var 2) (sim_c rfl) sim_gIx) (sim_acons (sim_c rfl) (sim_acons (sim_c rfl) (sim_acons (sim_c rfl) (sim_acons (sim_tup (sim_acons (sim_c rfl) (sim_acons (sim_c rfl) (sim_acons (sim_c rfl) sim_anil)))) (sim_acons (sim_op (sim_var 3) (sim_c rfl) (sim_isM false)) sim_anil))))))))) sim_gNe))
  (sim_ret (sim_c rfl))
  sim_nil)
  (sim_seq (sim_for (sim_iseq (sim_op (sim_b (sim_acons (sim_fld (sim_var 0)) sim_anil) sim_fList) (sim_lst (sim_acons (sim_fld (sim_var 0)) (sim_acons (sim_fld (sim_var 0)) sim_anil))) sim_gAdd)) (sim_gN (vs := [5]) (by decide))
  (sim_sif (sim_tnot (sim_toT (sim_call s_f_law_whole rfl (sim_acons (sim_var 5) sim_anil))))
  (sim_ret (sim_c rfl))
  sim_nil))
  (sim_ret (sim_c rfl)))))))
theorem s_f_law_stands : SimFn K16.f_law_stands f_law_stands := sim_fn s_m_law_stands
def m_law_pairs : MS := (sSeq (sSet 2 (eLc (iR1 (eC (.int 5))) (gN 3) (toT (eDIn false (eVar 3) (eVar 0))) (eTup (aCons (eVar 3) (aCons (eDGet (eVar 0) (eVar 3)) aNil))) [3]))
  (sSeq (sSet 4 (eOp gMod (eB fInt (aCons (eVar 1) aNil)) (eOp gAdd (eB fLen (aCons (eVar 2) aNil)) (eC (.int 1)))))
  (sRet (eOp gAdd (eSl (eVar 2) (oYes (eVar 4)) oNo) (eSl (eVar 2) oNo (oYes (eVar 4)))))))
abbrev f_law_pairs : MF := fnOf 2 5 m_law_pairs
theorem s_m_law_pairs : SimS (fun _ => K16.m_law_pairs) m_law_pairs := (sim_seq (sim_set (sim_lc (sim_ir1 (sim_c rfl)) (sim_gN (vs := [3]) (by decide)) (sim_toT (sim_din (sim_var 3) (sim_var 0))) (sim_tup (sim_acons (sim_var 3) (sim_acons (sim_dget (sim_var 0) (sim_var 3)) sim_anil)))))
  (sim_seq (sim_set (sim_op (sim_b (sim_acons (sim_var 1) sim_anil) sim_fInt) (sim_op (sim_b (sim_acons (sim_var 2) sim_anil) sim_fLen) (sim_c rfl) sim_gAdd) sim_gMod))
  (sim_ret (sim_op (sim_sl (sim_var 2) (sim_oyes (sim_var 4)) sim_ono) (sim_sl (sim_var 2) sim_ono (sim_oyes (sim_var 4))) sim_gAdd))))
theorem s_f_law_pairs : SimFn K16.f_law_pairs f_law_pairs := sim_fn s_m_law_pairs
def m_law_one_state : MS := (sSeq (sSet 4 (eCall f_law_walked [] (aCons (eVar 1) (aCons (eVar 2) (aCons (eVar 3) aNil)))))
  (sSeq (sSet 5 (eCall f_law_processor [] (aCons (eVar 0) (aCons (eVar 1) (aCons (eVar 2) aNil)))))
  (sSeq (sSet 6 (eB fDictC (aCons (eVar 3) aNil)))
  (sSeq (sSet 7 (eCallN f_flushed [] (aCons (eVar 5) (aCons (eVar 6) aNil))))
  (sSeq (sIf (tOrM (toT (eOp gNeD (eVar 6) (eVar 3))) (tOrM (tNotM (toT (eCallN f_law_stands [] (aCons (eVar 7) (aCons (eVar 0) (aCons (eVar 4) aNil)))))) (tNotM (toT (eCallN f_law_stands [] (aCons (eVar 5) (aCons (eVar 0) (aCons (eTup (aCons (eB fTuple (aCons (eVar 1) aNil)) (aCons (eVar 2) aNil))) aNil))))))))
  (sRet (eC (.bl false)))
  sNil)
  (sSeq (sSub (eFld tab n_regs (eVar 7)) (eC (.int 2)) (eOp gMod (eB fInt (aCons (eOp gAdd (eOp gIx (eOp gIx (eVar 4) (eC (.int 0))) (eC (.int 2))) (eC (.int 1))) aNil)) (eC (.int 256))))
  (sSeq (sSet 8 (eCall f_law_pairs [] (aCons (eVar 3) (aCons (eCall f_law_pick [] (aCons (eVar 0) (aCons (eC (.int 12)) (aCons (eC (.int 6)) aNil)))) aNil))))
  (sSeq (sSet 9 (eB fList (aCons (eVar 8) aNil)))
  (sSeq (sIf (tOrM (tNotM (toT (eCallN f_law_stands [] (aCons (eCallN f_flushed [] (aCons (eVar 5) (aCons (eVar 8) aNil))) (aCons (eVar 0) (aCons (eVar 4) aNil)))))) (toT (eOp gNe (eVar 8) (eVar 9))))
  (sRet (eC (.bl false)))
  sNil)
  (sSeq (sIf (tNotM (toT (eCallN f_law_stands [] (aCons (eCallN f_flushed [] (aCons (eVar 5) (aCons eDNew aNil))) (aCons (eVar 0) (aCons (eTup (aCons (eB fTuple (aCons (eVar 1) aNil)) (aCons (eVar 2) aNil))) aNil))))))
  (sRet (eC (.bl false)))
  sNil)
  (sSeq (sIf (tOrM (toT (eOp (isM true) (eCallM f_flush [1, 0] [] (aCons (eVar 5) (aCons eTupP0 aNil))) (eC .non))) (tNotM (toT (eCallN f_law_stands [] (aCons (eVar 5) (aCons (eVar 0) (aCons (eTup (aCons (eB fTuple (aCons (eVar 1) aNil)) (aCons (eVar 2) aNil))) aNil)))))))
  (sRet (eC (.bl false)))
  sNil)
  (sSeq (sIf (tOrM (toT (eOp (isM true) (eCallM f_flush [1, 0] [] (aCons (eVar 5) (aCons (eB fTupP (aCons (eRev (eVar 8)) aNil)) aNil))) (eC .non))) (tNotM (toT (eCallN f_law_stands [] (aCons (eVar 5) (aCons (eVar 0) (aCons (eVar 4) aNil)))))))
  (sRet (eC (.bl false)))
  sNil)
  (sSeq (sSet 10 (eCall f_law_processor [] (aCons (eVar 0) (aCons (eVar 1) (aCons (eVar 2) aNil)))))
  (sSeq (sExpr (eCallM f_flush [1, 0] [] (aCons (eVar 10) (aCons (eVar 6) aNil))))
  (sRet (eAndM (eOp gEqD (eVar 6) (eVar 3)) (eCallN f_law_stands [] (aCons (eVar 10) (aCons (eVar 0) (aCons (eVar 4) aNil))))))))))))))))))))
abbrev f_law_one_state : MF := fnOf 4 11 m_law_one_state
theorem s_m_law_one_state : SimS (fun _ => K16.m_law_one_state) m_law_one_state := (sim_seq (sim_set (sim_call s_f_law_walked rfl (sim_acons (sim_var 1) (sim_acons (sim_var 2) (sim_acons (sim_var 3) sim_anil)))))
  (sim_seq (sim_set (sim_call s_f_law_processor rfl (sim_acons (sim_var 0) (sim_acons (sim_var 1) (sim_acons (sim_var 2) sim_anil)))))
  (sim_seq (sim_set (sim_b (sim_acons (sim_var 3) sim_anil) sim_fDictC))
  (sim_seq (sim_set (sim_callN s_f_flushed rfl (sim_acons (sim_var 5) (sim_acons (sim_var 6) sim_anil))))
  (sim_seq (sim_sif (sim_tor (sim_toT (sim_op (sim_var 6) (sim_var 3) sim_gNeD)) (sim_tor (sim_tnot (sim_toT (sim_callN s_f_law_stands rfl (sim_acons (sim_var 7) (sim_acons (sim_var 0) (sim_acons (sim_var 4) sim_anil)))))) (sim_tnot (sim_toT (sim_callN s_f_law_stands rfl (sim_acons (sim_var 5) (sim_acons (sim_var 0) (sim_acons (sim_tup (sim_acons (sim_b (sim_acons (sim_var 1) sim_anil) sim_fTuple) (sim_acons (sim_var 2) sim_anil))) sim_anil))))))))
  (sim_ret (sim_c rfl))
  sim_nil)
  (sim_seq (sim_sub (sim_op (sim_b (sim_acons (sim_op (sim_op (sim_op (sim_var 4) (sim_c rfl) sim_gIx) (sim_c rfl) sim_gIx) (sim_c rfl) sim_gAdd) sim_anil) sim_fInt) (sim_c rfl) sim_gMod) (sim_fld (sim_var 7)) (sim_c rfl))
  (sim_seq (sim_set (sim_call s_f_law_pairs rfl (sim_acons (sim_var 3) (sim_acons (sim_call s_f_law_pick rfl (sim_acons (sim_var 0) (sim_acons (sim_c rfl) (sim_acons (sim_c rfl) sim_anil)))) sim_anil))))
  (sim_seq (sim_set (sim_b (sim_acons (sim_var 8) sim_anil) sim_fList))
  (sim_seq (sim_sif (sim_tor (sim_tnot (sim_toT (sim_callN s_f_law_stands rfl (sim_acons (sim_callN s_f_flushed rfl (sim_acons (sim_var 5) (sim_acons (sim_var 8) sim_anil))) (sim_acons (sim_var 0) (sim_acons (sim_var 4) sim_anil)))))) (sim_toT (sim_op (sim_var 8) (sim_var 9) sim_gNe)))
  (sim_ret (sim_c rfl))
  sim_nil)
  (sim_seq (sim_sif (sim_tnot (sim_toT (sim_callN s_f_law_stands rfl (sim_acons (sim_callN s_f_flushed rfl (sim_acons (sim_var 5) (sim_acons sim_dnew sim_anil))) (sim_acons (sim_var 0) (sim_acons (sim_tup (sim_acons (sim_b (sim_acons (sim_var 1) sim_anil) sim_fTuple) (sim_acons (sim_var 2) sim_anil))) sim_anil))))))
  (sim_ret (sim_c rfl))
  sim_nil)
  (sim_seq (sim_sif (sim_tor (sim_toT (sim_op (sim_callM s_f_flush rfl (sim_acons (sim_var 5) (sim_acons sim_tupP0 sim_anil))) (sim_c rfl) (sim_isM true))) (sim_tnot (sim_toT (sim_callN s_f_law_stands rfl (sim_acons (sim_var 5) (sim_acons (sim_var 0) (sim_acons (sim_tup (sim_acons (sim_b (sim_acons (sim_var 1) sim_anil) sim_fTuple) (sim_acons (sim_var 2) sim_anil))) sim_anil)))))))
  (sim_ret (sim_c rfl))
  sim_nil)
  (sim_seq (sim_sif (sim_tor (sim_toT (sim_op (sim_callM s_f_flush rfl (sim_acons (sim_var 5) (sim_acons (sim_b (sim_acons (sim_rev (sim_var 8)) sim_anil) sim_fTupP) sim_anil))) (sim_c rfl) (sim_isM true))) (sim_tnot (sim_toT (sim_callN s_f_law_stands rfl (sim_acons (sim_var 5) (sim_acons (sim_var 0) (sim_acons (sim_var 4) sim_anil)))))))
  (sim_ret (sim_c rfl))
  sim_nil)
  (sim_seq (sim_set (sim_call s_f_law_processor rfl (sim_acons (sim_var 0) (sim_acons (sim_var 1) (sim_acons (sim_var 2) sim_anil)))))
  (sim_seq (sim_expr (sim_callM s_f_flush rfl (sim_acons (sim_var 10) (sim_acons (sim_var 6) sim_anil))))
  (sim_ret (sim_and (sim_op (sim_var 6) (sim_var 3) sim_gEqD) (sim_callN s_f_law_stands rfl (sim_acons (sim_var 10) (sim_acons (sim_var 0) (sim_acons (sim_var 4) sim_anil))))))))))))))))))))
theorem s_f_law_one_state : SimFn K16.f_law_one_state f_law_one_state := sim_fn s_m_law_one_state
def m_law : MS := (sSeq (sSet 1 (eCall f_law_row [] (aCons (eVar 0) (aCons (eC (.int 80)) aNil))))
  (sSeq (sSet 2 (eLc (iR1 (eC (.int 4))) (gN 3) tYesM (eCall f_law_pick [] (aCons (eVar 1) (aCons (eOp gAdd (eC (.int 14)) (eOp gMul (eC (.int 2)) (eVar 3))) (aCons (eC (.int 256)) aNil)))) [3]))
  (sSeq (sSet 4 (eTup (aCons (eCall f_law_pick [] (aCons (eVar 1) (aCons (eC (.int 22)) (aCons (eC (.int 2)) aNil)))) (aCons (eCall f_law_pick [] (aCons (eVar 1) (aCons (eC (.int 23)) (aCons (eC (.int 2)) aNil)))) aNil))))
  (sSeq (sSet 5 (eCall f_law_makers [] (aCons (eVar 1) (aCons (eC (.int 26)) aNil))))
  (sSeq (sIf (tOrM (tNotM (toT (eCall f_law_sources_told [] (aCons (eVar 5) aNil)))) (tNotM (toT (eCall f_law_one_state [] (aCons (eVar 1) (aCons (eVar 2) (aCons (eVar 4) (aCons (eVar 5) aNil))))))))
  (sRet (eC (.bl false)))
  sNil)
  (sSeq (sSet 6 (eLc (iR1 (eC (.int 4))) (gN 3) tYesM (eCall f_law_pick [] (aCons (eVar 1) (aCons (eOp gAdd (eC (.int 62)) (eOp gMul (eC (.int 2)) (eVar 3))) (aCons (eC (.int 256)) aNil)))) [3]))
  (sRet (eCall f_law_one_state [] (aCons (eVar 1) (aCons (eVar 6) (aCons (eTup (aCons (eOp gSub (eC (.int 1)) (eOp gIx (eVar 4) (eC (.int 0)))) (aCons (eOp gSub (eC (.int 1)) (eOp gIx (eVar 4) (eC (.int 1)))) aNil))) (aCons (eVar 5) aNil))))))))))))
abbrev f_law : MF := fnOf 1 7 m_law
theorem s_m_law : SimS (fun _ => K16.m_law) m_law := (sim_seq (sim_set (sim_call s_f_law_row rfl (sim_acons (sim_var 0) (sim_acons (sim_c rfl) sim_anil))))
  (sim_seq (sim_set (sim_lc (sim_ir1 (sim_c rfl)) (sim_gN (vs := [3]) (by decide)) sim_tyes (sim_call s_f_law_pick rfl (sim_acons (sim_var 1) (sim_acons (sim_op (sim_c rfl) (sim_op (sim_c rfl) (sim_var 3) sim_gMul) sim_gAdd) (sim_acons (sim_c rfl) sim_anil))))))
  (sim_seq (sim_set (sim_tup (sim_acons (sim_call s_f_law_pick rfl (sim_acons (sim_var 1) (sim_acons (sim_c rfl) (sim_acons (sim_c rfl) sim_anil)))) (sim_acons (sim_call s_f_law_pick rfl (sim_acons (sim_var 1) (sim_acons (sim_c rfl) (sim_acons (sim_c rfl) sim_anil)))) sim_anil))))
  (sim_seq (sim_set (sim_call s_f_law_makers rfl (sim_acons (sim_var 1) (sim_acons (sim_c rfl) sim_anil))))
  (sim_seq (sim_sif (sim_tor (sim_tnot (sim_toT (sim_call s_f_law_sources_told rfl (sim_acons (sim_var 5) sim_anil)))) (sim_tnot (sim_toT (sim_call s_f_law_one_state rfl (sim_acons (sim_var 1) (sim_acons (sim_var 2) (sim_acons (sim_var 4) (sim_acons (sim_var 5) sim_anil))))))))
  (sim_ret (sim_c rfl))
  sim_nil)
  (sim_seq (sim_set (sim_lc (sim_ir1 (sim_c rfl)) (sim_gN (vs := [3]) (by decide)) sim_tyes (sim_call s_f_law_pick rfl (sim_acons (sim_var 1) (sim_acons (sim_op (sim_c rfl) (sim_op (sim_c rfl) (sim_var 3) sim_gMul) sim_gAdd) (sim_acons (sim_c rfl) sim_anil))))))
  (sim_ret (sim_call s_f_law_one_state rfl (sim_acons (sim_var 1) (sim_acons (sim_var 6) (sim_acons (sim_tup (sim_acons (sim_op (sim_c rfl) (sim_op (sim_var 4) (sim_c rfl) sim_gIx) sim_gSub) (sim_acons (sim_op (sim_c rfl) (sim_op (sim_var 4) (sim_c rfl) sim_gIx) sim_gSub) sim_anil))) (sim_acons (sim_var 5) sim_anil))))))))))))
theorem s_f_law : SimFn K16.f_law f_law := sim_fn s_m_law
end K16.V
set_option Elab.async false
set_option linter.all false
set_option maxRecDepth 100000
set_option maxHeartbeats 1000000
namespace VL
open GL (PV OB Sto Nm BT lim)
section
variable {α β : Type} {ls gh ls' gh' : Ls} {a b c : PE} {t u : PT} {m m1 m2 : MS} {d e : D} {x y : RV} {i : Nat}
@[simp] theorem bind_ok {x : α} {f : α → Ls → Ls → Out β} : (Out.ok x ls gh).bind f = f x ls gh := rfl
@[simp] theorem bind_exc {e : Exn} {f : α → Ls → Ls → Out β} : (Out.exc e ls gh).bind f = .exc e ls gh := rfl
@[simp] theorem bind_bad {f : α → Ls → Ls → Out β} : (Out.bad : Out α).bind f = .bad := rfl
@[simp] theorem then_ok {x : α} {f : α → Ls → Ls → SOut} : (Out.ok x ls gh).then f = f x ls gh := rfl
@[simp] theorem then_exc {e : Exn} {f : α → Ls → Ls → SOut} : (Out.exc e ls gh).then f = .exc e ls gh := rfl
@[simp] theorem seq_nx {f : MS} : (SOut.nx ls gh).seq f = f ls gh := rfl
@[simp] theorem seq_rt {f : MS} : (SOut.rt d gh).seq f = .rt d gh := rfl
@[simp] theorem seq_bk {f : MS} : (SOut.bk ls gh).seq f = .bk ls gh := rfl
@[simp] theorem seq_ct {f : MS} : (SOut.ct ls gh).seq f = .ct ls gh := rfl
@[simp] theorem seq_exc {e : Exn} {f : MS} : (SOut.exc e ls gh).seq f = .exc e ls gh := rfl
@[simp] theorem eC_ap {w : PV} : eC w ls gh = .ok (.v (dOf w)) ls gh := rfl
@[simp] theorem dOf_int {i : Int} : dOf (.int i) = .int i := rfl
@[simp] theorem dOf_str {i : List Nat} : dOf (.str i) = .str i := rfl
@[simp] theorem dOf_bl {i : Bool} : dOf (.bl i) = .bl i := rfl
@[simp] theorem dOf_non : dOf .non = .non := rfl
@[simp] theorem dOf_ty {b : BT} : dOf (.ty b) = .ty b := rfl
@[simp] theorem dOf_tup {xs : List PV} : dOf (.tup xs) = .tup (dOfs xs) := rfl
@[simp] theorem dOfs_nil : dOfs [] = [] := rfl
@[simp] theorem dOfs_cons {x : PV} {r : List PV} : dOfs (x :: r) = dOf x :: dOfs r := rfl
@[simp] theorem sSeq_ap : sSeq m1 m2 ls gh = (m1 ls gh).seq m2 := rfl
@[simp] theorem sNil_ap : sNil ls gh = .nx ls gh := rfl
@[simp] theorem sBk_ap : sBk ls gh = .bk ls gh := rfl
theorem sSet_ap : sSet i a ls gh = (a ls gh).then fun x ls gh => match setL i x ls gh with
  | some z => .nx z.1 z.2
  | none => .bad := rfl
theorem sRet_ap : sRet a ls gh = (a ls gh).then fun x ls gh => match retV x ls gh with
  | some z => .rt z.1 z.2
  | none => .bad := rfl
theorem sExpr_ap : sExpr a ls gh = (a ls gh).then fun _ ls gh => .nx ls gh := rfl
theorem sIf_ap : sIf t m1 m2 ls gh = (t ls gh).then fun k ls gh => if k = true then m1 ls gh else m2 ls gh := rfl
@[simp] theorem aNil_ap : aNil ls gh = .ok [] ls gh := rfl
@[simp] theorem aCons_ap {r : PA} : aCons a r ls gh = (a ls gh).bind fun x ls gh => (r ls gh).bind fun xs ls gh => .ok (x :: xs) ls gh := rfl
@[simp] theorem eOp_ap {g : G2} : eOp g a b ls gh = (a ls gh).bind fun x ls gh => (b ls gh).bind fun y ls gh => g x y ls gh := rfl
@[simp] theorem e1_ap {f : RV → PE} : e1 f a ls gh = (a ls gh).bind fun x ls gh => f x ls gh := rfl
@[simp] theorem eB_ap {g : List RV → PE} {r : PA} : eB g r ls gh = (r ls gh).bind fun xs ls gh => g xs ls gh := rfl
@[simp] theorem un_ap {f : RV → PE} : un f [x] ls gh = f x ls gh := rfl
@[simp] theorem bi_ap {f : RV → RV → PE} : bi f [x, y] ls gh = f x y ls gh := rfl
@[simp] theorem toT_ap : toT a ls gh = (a ls gh).bind fun x ls gh => asB x ls gh := rfl
@[simp] theorem asB_bl {k : Bool} : asB (.v (.sc (.bl k))) ls gh = .ok k ls gh := rfl
@[simp] theorem tAndM_ap : tAndM t u ls gh = (t ls gh).bind fun k ls gh => if k = true then u ls gh else .ok false ls gh := rfl
@[simp] theorem tOrM_ap : tOrM t u ls gh = (t ls gh).bind fun k ls gh => if k = true then .ok true ls gh else u ls gh := rfl
@[simp] theorem tNotM_ap : tNotM t ls gh = (t ls gh).bind fun k ls gh => .ok (!k) ls gh := rfl
@[simp] theorem tYesM_ap : tYesM ls gh = .ok true ls gh := rfl
@[simp] theorem gSub_int {i j : Int} : gInt (fun i j => i - j) (.v (.sc (.int i))) (.v (.sc (.int j))) ls gh = .ok (.v (.int (i - j))) ls gh := rfl
@[simp] theorem gInt_int {f : Int → Int → Int} {i j : Int} : gInt f (.v (.sc (.int i))) (.v (.sc (.int j))) ls gh = .ok (.v (.int (f i j))) ls gh := rfl
@[simp] theorem gCmp_int {f : Int → Int → Bool} {i j : Int} : gCmpI f (.v (.sc (.int i))) (.v (.sc (.int j))) ls gh = .ok (.v (.bl (f i j))) ls gh := rfl
@[simp] theorem gAdd_int {i j : Int} : gAdd (.v (.sc (.int i))) (.v (.sc (.int j))) ls gh = .ok (.v (.int (i + j))) ls gh := rfl
theorem gMod_int {i j : Int} (h : 0 < j) : gMod (.v (.sc (.int i))) (.v (.sc (.int j))) ls gh = .ok (.v (.int (i % j))) ls gh := by
  simp [gIntC, GL.cMod, h]
theorem gDiv_int {i j : Int} (h : 0 < j) (h2 : j < 1073741824) : gDiv (.v (.sc (.int i))) (.v (.sc (.int j))) ls gh = .ok (.v (.int (i / j))) ls gh := by
  simp [gIntC, GL.cDiv, h, h2]
theorem gMul_int {i j : Int} (h : GL.smallI i = true ∨ GL.smallI j = true) : gMul (.v (.sc (.int i))) (.v (.sc (.int j))) ls gh = .ok (.v (.int (i * j))) ls gh := by
  simp [gMul, h]
@[simp] theorem gEq_int {neg : Bool} {i j : Int} : eqM neg (.v (.sc (.int i))) (.v (.sc (.int j))) ls gh = .ok (.v (.bl (if neg = true then !decide (i = j) else decide (i = j)))) ls gh := rfl
@[simp] theorem gEq_str {neg : Bool} {i j : List Nat} : eqM neg (.v (.sc (.str i))) (.v (.sc (.str j))) ls gh = .ok (.v (.bl (if neg = true then !decide (i = j) else decide (i = j)))) ls gh := rfl
@[simp] theorem f1Int_int {i : Int} : f1Int (.v (.sc (.int i))) ls gh = .ok (.v (.int i)) ls gh := rfl
@[simp] theorem f1Int_bl {k : Bool} : f1Int (.v (.sc (.bl k))) ls gh = .ok (.v (.int (if k then 1 else 0))) ls gh := rfl
@[simp] theorem f1Abs_int {i : Int} : f1Abs (.v (.sc (.int i))) ls gh = .ok (.v (.int (if i < 0 then -i else i))) ls gh := rfl
end
@[simp] theorem shr_sc {s : Sc} : (D.sc s).shr = true := rfl
@[simp] theorem shr_tup {xs : List D} : (D.tup xs).shr = true := rfl
@[simp] theorem shr_fz {h : Hd} {xs : List D} : (D.nd .fz h xs).shr = true := rfl
@[simp] theorem shr_ow {h : Hd} {xs : List D} : (D.nd .ow h xs).shr = false := rfl
theorem eVar_v {i : Nat} {ls gh : Ls} {d : D} (h : ls[i]? = some (some (.v d))) (hs : d.shr = true) : eVar i ls gh = .ok (.v d) ls gh := by
  unfold eVar; rw [h]; simp [mkR, hs]
theorem eVar_o {i : Nat} {ls gh : Ls} {d : D} (h : ls[i]? = some (some (.v d))) (hs : d.shr = false) : eVar i ls gh = .ok (.pth (.l i) []) ls gh := by
  unfold eVar; rw [h]; simp [mkR, hs]
@[simp] theorem killR_v {i : Nat} {d : D} : killR i (some (.v d)) = some (.v d) := rfl
@[simp] theorem killR_io {i : Nat} {d : D} : killR i (some (.io d)) = some (.io d) := rfl
@[simp] theorem killR_none {i : Nat} : killR i none = none := rfl
@[simp] theorem killD_v {t : List Nat → Bool} {r : Rt} {p : List Nat} {d : D} : killD t r p (some (.v d)) = some (.v d) := rfl
@[simp] theorem killD_io {t : List Nat → Bool} {r : Rt} {p : List Nat} {d : D} : killD t r p (some (.io d)) = some (.io d) := rfl
@[simp] theorem killD_none {t : List Nat → Bool} {r : Rt} {p : List Nat} : killD t r p none = none := rfl
theorem fnOf_rt {np n : Nat} {m : MS} {vs : List V} {hs : List D} {d : D} {gh : Ls} {ios : List D} (hl : vs.length = np) (h : m (vs.map some ++ List.replicate (n - np) none) (hs.map fun d => some (.io d)) = .rt d gh) (hg : ioD gh = some ios) : fnOf np n m vs hs = .ok d ios := by
  unfold fnOf; rw [if_pos hl, h]; simp [endF, hg]
theorem fnOf_nx {np n : Nat} {m : MS} {vs : List V} {hs : List D} {ls gh : Ls} {ios : List D} (hl : vs.length = np) (h : m (vs.map some ++ List.replicate (n - np) none) (hs.map fun d => some (.io d)) = .nx ls gh) (hg : ioD gh = some ios) : fnOf np n m vs hs = .ok .non ios := by
  unfold fnOf; rw [if_pos hl, h]; simp [endF, hg]
def intL (ns : List Int) : List D := ns.map D.int
def strL (ns : List (List Nat)) : List D := ns.map D.str
@[simp] theorem intL_len {ns : List Int} : (intL ns).length = ns.length := by simp [intL]
@[simp] theorem strL_len {ns : List (List Nat)} : (strL ns).length = ns.length := by simp [strL]
@[simp] theorem intL_shr {ns : List Int} : (intL ns).all D.shr = true := by simp [intL]
@[simp] theorem strL_shr {ns : List (List Nat)} : (strL ns).all D.shr = true := by simp [strL]
theorem frzs_shr : ∀ {xs : List D}, xs.all D.shr = true → D.frzs xs = some xs
  | [], _ => by simp [D.frzs]
  | x :: r, h => by
    rw [List.all_cons, Bool.and_eq_true] at h
    have h1 : D.frz x = some x := by
      cases x with
      | sc s => simp [D.frz]
      | tup xs => simp [D.frz]
      | nd k hd xs =>
        cases k with
        | fz => simp [D.frz]
        | ow => cases h.1
        | lk => cases h.1
    rw [D.frzs, h1, frzs_shr h.2]
@[simp] theorem frzs_int {ns : List Int} : D.frzs (intL ns) = some (intL ns) := frzs_shr intL_shr
@[simp] theorem frzs_str {ns : List (List Nat)} : D.frzs (strL ns) = some (strL ns) := frzs_shr strL_shr
def Digs (most : Nat) (ds : List Int) : Prop := ds.length ≤ most ∧ ∀ d ∈ ds, 0 ≤ d ∧ d < 16
def m_row : MS := (sSeq (sSet 2 (eLst aNil))
  (sSeq (sFor (iSeq (eVar 0)) (gN 3)
  (sSeq (sSet 4 (eB fAbs (aCons (eB fInt (aCons (eVar 3) aNil)) aNil)))
  (sFor (iR1 (eC (.int 60))) (gN 5)
  (sSeq (sIf (toT (eOp gLt (eB fLen (aCons (eVar 2) aNil)) (eVar 1)))
  (sExpr (eMt kList mAppend (eVar 2) (aCons (eOp gMod (eVar 4) (eC (.int 16))) aNil)))
  sNil)
  (sSeq (sSet 4 (eOp gDiv (eVar 4) (eC (.int 16))))
  (sIf (toT (eOp gEq (eVar 4) (eC (.int 0))))
  sBk
  sNil))))))
  (sRet (eVar 2))))
def m_pick : MS := (sSeq (sSet 3 (eC (.int 0)))
  (sSeq (sIf (toT (eOp gLt (eVar 1) (eB fLen (aCons (eVar 0) aNil))))
  (sSet 3 (eOp gIx (eVar 0) (eVar 1)))
  sNil)
  (sSeq (sIf (toT (eOp gLt (eOp gAdd (eVar 1) (eC (.int 1))) (eB fLen (aCons (eVar 0) aNil))))
  (sSet 3 (eOp gAdd (eVar 3) (eOp gMul (eC (.int 16)) (eOp gIx (eVar 0) (eOp gAdd (eVar 1) (eC (.int 1)))))))
  sNil)
  (sRet (eOp gMod (eB fInt (aCons (eVar 3) aNil)) (eVar 2))))))
section
variable {ls gh : Ls} {k : Fl} {xs : List D} {d : D} {r : Rt} {p : List Nat}
theorem ixN_nat {n i : Nat} (h : i < n) : L2.ixN n (i : Int) = some i := by unfold L2.ixN; simp [h]
@[simp] theorem seqV_lst : seqV (.v (.nd k .lst xs)) ls gh = some (.lst, xs) := rfl
@[simp] theorem seqV_rol : seqV (.v (.nd k .rol xs)) ls gh = some (.rol, xs) := rfl
@[simp] theorem seqV_tup : seqV (.v (.tup xs)) ls gh = some (.tup, xs) := rfl
theorem seqV_p (h : atD ls gh r p = some (.nd k .lst xs)) : seqV (.pth r p) ls gh = some (.lst, xs) := by
  show (atD ls gh r p).bind seqD = _
  rw [h]; rfl
theorem gIx_of {x : RV} {kd : Kd} {i : Nat} (hx : ∀ s, x ≠ .v (.sc (.str s))) (h : seqV x ls gh = some (kd, xs)) (hi : xs[i]? = some d) : gIx x (.v (.sc (.int (i : Int)))) ls gh = .ok (childR x i d) ls gh := by
  have hl := (List.getElem?_eq_some_iff.mp hi).1
  unfold gIx
  split
  · rename_i i' e
    cases e
    split
    · rename_i s; exact absurd rfl (hx s)
    · simp only [h, ixN_nat hl, hi]
  · rename_i h0; exact absurd rfl (h0 _)
theorem gIx_lst {i : Nat} (hi : xs[i]? = some d) (hs : d.shr = true) : gIx (.v (.nd k .lst xs)) (.v (.sc (.int (i : Int)))) ls gh = .ok (.v d) ls gh := by
  rw [gIx_of (by simp) seqV_lst hi]; simp [childR, hs]
theorem gIx_tup {i : Nat} (hi : xs[i]? = some d) (hs : d.shr = true) : gIx (.v (.tup xs)) (.v (.sc (.int (i : Int)))) ls gh = .ok (.v d) ls gh := by
  rw [gIx_of (by simp) seqV_tup hi]; simp [childR, hs]
@[simp] theorem f1Len_lst : f1Len (.v (.nd k .lst xs)) ls gh = .ok (.v (.int xs.length)) ls gh := rfl
@[simp] theorem f1Len_tup : f1Len (.v (.tup xs)) ls gh = .ok (.v (.int xs.length)) ls gh := rfl
theorem f1Len_p (h : atD ls gh r p = some (.nd k .lst xs)) : f1Len (.pth r p) ls gh = .ok (.v (.int xs.length)) ls gh := by
  unfold f1Len; simp only [seqV_p h]
end
def dg (ds : List Int) (i : Nat) : Int := ds.getD i 0
theorem intL_get {ds : List Int} {i : Nat} (h : i < ds.length) : (intL ds)[i]? = some (.int (dg ds i)) := by
  unfold intL
  rw [List.getElem?_map, dg, List.getD_eq_getElem?_getD, List.getElem?_eq_getElem h]; rfl
def pickV (ds : List Int) (i : Nat) (l : Int) : Int := (dg ds i + 16 * dg ds (i + 1)) % l
theorem pickV_range {ds : List Int} {i : Nat} {l : Int} (h : 0 < l) : 0 ≤ pickV ds i l ∧ pickV ds i l < l := ⟨Int.emod_nonneg _ (by omega), Int.emod_lt_of_pos _ h⟩
theorem getD_out {ds : List Int} {i : Nat} (h : ds.length ≤ i) : dg ds i = 0 := by rw [dg, List.getD_eq_getElem?_getD, List.getElem?_eq_none h]; rfl
theorem pick_ok {i : Nat} {ds : List Int} {l : Int} (hl : 0 < l) : fnOf 3 4 m_pick [.v (.nd .fz .lst (intL ds)), .v (.int (i : Int)), .v (.int l)] [] = .ok (.int (pickV ds i l)) [] := by
  refine fnOf_rt (gh := []) rfl ?_ rfl
  have hv {ls gh : Ls} {j : Nat} {d : D} (h : ls[j]? = some (some (.v d))) (hs : d.shr = true) : eVar j ls gh = .ok (.v d) ls gh := eVar_v h hs
  unfold m_pick
  by_cases h1 : i < ds.length
  · by_cases h2 : i + 1 < ds.length
    · have e1 : gIx (.v (.nd .fz .lst (intL ds))) (.v (.sc (.int (i : Int)))) [some (.v (.nd .fz .lst (intL ds))), some (.v (.int (i : Int))), some (.v (.int l)), some (.v (.int 0))] [] = .ok (.v (.int (dg ds i))) [some (.v (.nd .fz .lst (intL ds))), some (.v (.int (i : Int))), some (.v (.int l)), some (.v (.int 0))] [] := gIx_lst (intL_get h1) rfl
      have e2 : gIx (.v (.nd .fz .lst (intL ds))) (.v (.sc (.int ((i : Int) + 1)))) [some (.v (.nd .fz .lst (intL ds))), some (.v (.int (i : Int))), some (.v (.int l)), some (.v (.int (dg ds i)))] [] = .ok (.v (.int (dg ds (i + 1)))) [some (.v (.nd .fz .lst (intL ds))), some (.v (.int (i : Int))), some (.v (.int l)), some (.v (.int (dg ds i)))] [] := gIx_lst (i := i + 1) (intL_get h2) rfl
      have h3 : (i : Int) < ds.length := by omega
      have h4 : (i : Int) + 1 < ds.length := by omega
      simp [sSet_ap, setL, stD, sIf_ap, eVar, mkR, h3, h4, e1, e2, sRet_ap, retV, gMod_int hl, gMul_int (i := 16) (Or.inl rfl), pickV]
    · have e1 : gIx (.v (.nd .fz .lst (intL ds))) (.v (.sc (.int (i : Int)))) [some (.v (.nd .fz .lst (intL ds))), some (.v (.int (i : Int))), some (.v (.int l)), some (.v (.int 0))] [] = .ok (.v (.int (dg ds i))) [some (.v (.nd .fz .lst (intL ds))), some (.v (.int (i : Int))), some (.v (.int l)), some (.v (.int 0))] [] := gIx_lst (intL_get h1) rfl
      have h3 : (i : Int) < ds.length := by omega
      have h4 : ¬ (i : Int) + 1 < ds.length := by omega
      simp [sSet_ap, setL, stD, sIf_ap, eVar, mkR, h3, h4, e1, sRet_ap, retV, gMod_int hl, pickV, getD_out (show ds.length ≤ i + 1 by omega)]
  · have h3 : ¬ (i : Int) < ds.length := by omega
    have h4 : ¬ (i : Int) + 1 < ds.length := by omega
    simp [sSet_ap, setL, stD, sIf_ap, eVar, mkR, h3, h4, sRet_ap, retV, gMod_int hl, pickV, getD_out (show ds.length ≤ i + 1 by omega), getD_out (show ds.length ≤ i by omega)]
def loopK (q : SOut) (k : Ls → Ls → SOut) : SOut := match q with
  | .nx ls gh => k ls gh
  | .ct ls gh => k ls gh
  | .bk ls gh => .nx ls gh
  | q => q
section
variable {ls gh : Ls} {k : Ls → Ls → SOut} {d : D}
@[simp] theorem loopK_nx : loopK (.nx ls gh) k = k ls gh := rfl
@[simp] theorem loopK_ct : loopK (.ct ls gh) k = k ls gh := rfl
@[simp] theorem loopK_bk : loopK (.bk ls gh) k = .nx ls gh := rfl
@[simp] theorem loopK_rt : loopK (.rt d gh) k = .rt d gh := rfl
@[simp] theorem loopK_exc {e : Exn} : loopK (.exc e ls gh) k = .exc e ls gh := rfl
variable {g : MG} {body : MS} {r : List D} {z : Ls × Ls}
theorem forV_cons (hg : g (.v d) ls gh = some z) : forV g body (d :: r) ls gh = loopK (body z.1 z.2) (forV g body r) := by
  rw [forV, hg]
  dsimp only
  cases body z.1 z.2 <;> rfl
@[simp] theorem forV_nil : forV g body [] ls gh = .nx ls gh := rfl
theorem sFor_of {it : PI} {ds : List D} {ls1 gh1 : Ls} (hi : it ls gh = .ok ds ls1 gh1) : sFor it g body ls gh = forV g body ds ls1 gh1 := by unfold sFor; rw [hi]; rfl
end
theorem forV_inv {g : MG} {body : MS} (I : Nat → Ls → Ls → Prop) : ∀ (xs : List D) (i : Nat) (ls gh : Ls),
    (∀ j x ls gh, xs[j]? = some x → I (i + j) ls gh → ∃ z, g (.v x) ls gh = some z ∧ ∃ ls2 gh2, (body z.1 z.2 = .nx ls2 gh2 ∨ body z.1 z.2 = .ct ls2 gh2) ∧ I (i + j + 1) ls2 gh2) →
    I i ls gh → ∃ ls' gh', forV g body xs ls gh = .nx ls' gh' ∧ I (i + xs.length) ls' gh'
  | [], i, ls, gh, _, h => ⟨ls, gh, rfl, h⟩
  | x :: r, i, ls, gh, h1, h => by
    obtain ⟨z, e1, ls2, gh2, e2, h3⟩ := h1 0 x ls gh (by simp) h
    obtain ⟨ls', gh', e, h4⟩ := forV_inv I r (i + 1) ls2 gh2 (fun j y ls gh hj hI => by
      have := h1 (j + 1) y ls gh (by simpa using hj) (by rw [show i + (j + 1) = i + 1 + j by omega]; exact hI)
      rw [show i + (j + 1) = i + 1 + j by omega] at this
      exact this) h3
    refine ⟨ls', gh', ?_, by rw [List.length_cons, show i + (r.length + 1) = i + 1 + r.length by omega]; exact h4⟩
    rw [forV_cons e1]
    rcases e2 with e2 | e2 <;> (rw [e2]; exact e)
theorem iSeq_of {m : PE} {ls gh ls1 gh1 : Ls} {d : D} {k : Kd} {xs : List D} (h : m ls gh = .ok (.v d) ls1 gh1) (hf : D.frz d = some d) (hs : seqD d = some (k, xs)) : iSeq m ls gh = .ok xs ls1 gh1 := by
  unfold iSeq
  rw [h, bind_ok]
  simp [kSeq, frzSeq, cvR, hf, hs]
theorem iR1_of {m : PE} {ls gh ls1 gh1 : Ls} {n : Nat} (h : m ls gh = .ok (.v (.int (n : Int))) ls1 gh1) (hn : n < 1000000000) : iR1 m ls gh = .ok (rngD 0 n) ls1 gh1 := by
  have hm : GL.med = 4611686018427387904 := rfl
  unfold iR1
  rw [h, bind_ok]
  unfold k1R
  dsimp only
  rw [if_pos]
  rw [Bool.and_eq_true]
  exact ⟨decide_eq_true (by omega), decide_eq_true (by omega)⟩
theorem rng0 (n : Nat) : rngD 0 (n : Int) = (List.range n).map fun (i : Nat) => D.int (i : Int) := by
  unfold rngD
  simp
section
variable {ls gh : Ls} {t : List Nat → Bool} {i : Nat} {p : List Nat} {y d0 : D}
theorem atD_l (h : ls[i]? = some (some (.v d0))) : atD ls gh (.l i) [] = some d0 := by
  unfold atD rootD; simp only [h, slotD, Option.bind_some, getP]
theorem chD_l (h : ls[i]? = some (some (.v d0))) : chD t (.l i) p y ls gh = (modN (putV (setP p d0 y)) i (ls.map (killD t (.l i) p)), gh.map (killD t (.l i) p)) := by
  unfold chD rootD; simp only [h, slotD, Option.map_some]
theorem mAppend_l {xs : List D} {d : D} (h : ls[i]? = some (some (.v (.nd .ow .lst xs)))) (hl : xs.length < lim) : mAppend (.pth (.l i) []) [.v d] ls gh = .ok (.v .non) (modN (putV (.nd .ow .lst (xs ++ [d]))) i (ls.map (killD allT (.l i) []))) (gh.map (killD allT (.l i) [])) := by
  unfold mAppend
  simp only [cvR, if_true, atD_l h, if_pos hl, wrote, chD_l h, setP]
end
@[simp] theorem putV_v {d d' : D} : putV d (some (.v d')) = some (.v d) := rfl
@[simp] theorem kList_lst {k : Fl} {xs : List D} : kList (.nd k .lst xs) = true := rfl
theorem row_inner (most : Nat) (hm : most ≤ 1000) (a0 a3 : D) : ∀ (xs : List D) (rest : Int) (a5 : Option V) (ds : List Int), 0 ≤ rest → Digs most ds → (∀ q, a5 = some q → ∃ d, q = .v d) → (∀ x ∈ xs, ∃ i, x = .int i) →
    ∃ rest' a5' ds', forV (gN 5) (sSeq (sIf (toT (eOp gLt (eB fLen (aCons (eVar 2) aNil)) (eVar 1)))
      (sExpr (eMt kList mAppend (eVar 2) (aCons (eOp gMod (eVar 4) (eC (.int 16))) aNil)))
      sNil)
      (sSeq (sSet 4 (eOp gDiv (eVar 4) (eC (.int 16))))
      (sIf (toT (eOp gEq (eVar 4) (eC (.int 0))))
      sBk
      sNil))) xs [some (.v a0), some (.v (.int most)), some (.v (.nd .ow .lst (intL ds))), some (.v a3), some (.v (.int rest)), a5] [] = .nx [some (.v a0), some (.v (.int most)), some (.v (.nd .ow .lst (intL ds'))), some (.v a3), some (.v (.int rest')), a5'] [] ∧ Digs most ds' ∧ (∀ q, a5' = some q → ∃ d, q = .v d)
  | [], rest, a5, ds, h0, hd, h5, _ => ⟨rest, a5, ds, rfl, hd, h5⟩
  | x :: r, rest, a5, ds, h0, hd, h5, hx => by
    obtain ⟨i, rfl⟩ := hx x List.mem_cons_self
    have hx' : ∀ x ∈ r, ∃ i, x = .int i := fun y hy => hx y (List.mem_cons_of_mem _ hy)
    have k5 : killR 5 a5 = a5 := by
      cases a5 with
      | none => rfl
      | some q => obtain ⟨d, rfl⟩ := h5 q rfl; rfl
    have hg : gN 5 (.v (.int i)) [some (.v a0), some (.v (.int most)), some (.v (.nd .ow .lst (intL ds))), some (.v a3), some (.v (.int rest)), a5] [] = some ([some (.v a0), some (.v (.int most)), some (.v (.nd .ow .lst (intL ds))), some (.v a3), some (.v (.int rest)), some (.v (.int i))], []) := by
      simp [gN, setL, stD]
    rw [forV_cons hg]
    dsimp only
    have h16 : (0 : Int) ≤ rest % 16 ∧ rest % 16 < 16 := by omega
    have hdiv : 0 ≤ rest / 16 := by omega
    have hv2 : ∀ z a5, eVar 2 [some (.v a0), some (.v (.int most)), some (.v (.nd .ow .lst (intL ds))), some (.v a3), z, a5] [] = .ok (.pth (.l 2) []) [some (.v a0), some (.v (.int most)), some (.v (.nd .ow .lst (intL ds))), some (.v a3), z, a5] [] := fun z a5 => eVar_o rfl rfl
    have hat : ∀ z a5, atD [some (.v a0), some (.v (.int most)), some (.v (.nd .ow .lst (intL ds))), some (.v a3), z, a5] [] (.l 2) [] = some (.nd .ow .lst (intL ds)) := fun z a5 => atD_l rfl
    by_cases hlt : (ds.length : Int) < most
    · have e1 : (sIf (toT (eOp gLt (eB fLen (aCons (eVar 2) aNil)) (eVar 1)))
          (sExpr (eMt kList mAppend (eVar 2) (aCons (eOp gMod (eVar 4) (eC (.int 16))) aNil)))
          sNil) [some (.v a0), some (.v (.int most)), some (.v (.nd .ow .lst (intL ds))), some (.v a3), some (.v (.int rest)), some (.v (.int i))] [] = .nx [some (.v a0), some (.v (.int most)), some (.v (.nd .ow .lst (intL (ds ++ [rest % 16])))), some (.v a3), some (.v (.int rest)), some (.v (.int i))] [] := by
        have hz : (intL ds).length < lim := by rw [intL_len]; have : lim = 100000 := rfl; omega
        have ha : intL ds ++ [D.int (rest % 16)] = intL (ds ++ [rest % 16]) := by simp [intL]
        have hap := mAppend_l (ls := [some (.v a0), some (.v (.int most)), some (.v (.nd .ow .lst (intL ds))), some (.v a3), some (.v (.int rest)), some (.v (.int i))]) (gh := []) (i := 2) (d := .int (rest % 16)) rfl hz
        simp [sIf_ap, hv2, f1Len_p (hat _ _), eVar, mkR, hlt, sExpr_ap, eMt, val, hat, gMod_int, hap, modN, ha]
      have hd2 : Digs most (ds ++ [rest % 16]) := ⟨by rw [List.length_append, List.length_singleton]; omega, fun d hd' => by
        rcases List.mem_append.mp hd' with h | h
        · exact hd.2 d h
        · rw [List.mem_singleton.mp h]; exact h16⟩
      rw [sSeq_ap, e1]
      by_cases hz : rest / 16 = 0
      · refine ⟨rest / 16, some (.v (.int i)), ds ++ [rest % 16], ?_, hd2, fun q h => by cases h; exact ⟨_, rfl⟩⟩
        simp [sSet_ap, eVar, mkR, gDiv_int, setL, stD, sIf_ap, hz]
      · obtain ⟨rest', a5', ds', e, hd', h5'⟩ := row_inner most hm a0 a3 r (rest / 16) (some (.v (.int i))) _ hdiv hd2 (fun q h => by cases h; exact ⟨_, rfl⟩) hx'
        refine ⟨rest', a5', ds', ?_, hd', h5'⟩
        rw [← e]
        simp [sSet_ap, eVar, mkR, gDiv_int, setL, stD, sIf_ap, hz]
    · have e1 : (sIf (toT (eOp gLt (eB fLen (aCons (eVar 2) aNil)) (eVar 1)))
          (sExpr (eMt kList mAppend (eVar 2) (aCons (eOp gMod (eVar 4) (eC (.int 16))) aNil)))
          sNil) [some (.v a0), some (.v (.int most)), some (.v (.nd .ow .lst (intL ds))), some (.v a3), some (.v (.int rest)), some (.v (.int i))] [] = .nx [some (.v a0), some (.v (.int most)), some (.v (.nd .ow .lst (intL ds))), some (.v a3), some (.v (.int rest)), some (.v (.int i))] [] := by
        simp [sIf_ap, hv2, f1Len_p (hat _ _), eVar, mkR, hlt]
      rw [sSeq_ap, e1]
      by_cases hz : rest / 16 = 0
      · refine ⟨rest / 16, some (.v (.int i)), ds, ?_, hd, fun q h => by cases h; exact ⟨_, rfl⟩⟩
        simp [sSet_ap, eVar, mkR, gDiv_int, setL, stD, sIf_ap, hz]
      · obtain ⟨rest', a5', ds', e, hd', h5'⟩ := row_inner most hm a0 a3 r (rest / 16) (some (.v (.int i))) _ hdiv hd (fun q h => by cases h; exact ⟨_, rfl⟩) hx'
        refine ⟨rest', a5', ds', ?_, hd', h5'⟩
        rw [← e]
        simp [sSet_ap, eVar, mkR, gDiv_int, setL, stD, sIf_ap, hz]
theorem row_outer (most : Nat) (hm : most ≤ 1000) (a0 : D) : ∀ (ns : List Int) (a3 a4 a5 : Option V) (ds : List Int), Digs most ds → (∀ q, a3 = some q → ∃ d, q = .v d) → (∀ q, a4 = some q → ∃ d, q = .v d) → (∀ q, a5 = some q → ∃ d, q = .v d) →
    ∃ a3' a4' a5' ds', forV (gN 3) (sSeq (sSet 4 (eB fAbs (aCons (eB fInt (aCons (eVar 3) aNil)) aNil)))
      (sFor (iR1 (eC (.int 60))) (gN 5)
      (sSeq (sIf (toT (eOp gLt (eB fLen (aCons (eVar 2) aNil)) (eVar 1)))
      (sExpr (eMt kList mAppend (eVar 2) (aCons (eOp gMod (eVar 4) (eC (.int 16))) aNil)))
      sNil)
      (sSeq (sSet 4 (eOp gDiv (eVar 4) (eC (.int 16))))
      (sIf (toT (eOp gEq (eVar 4) (eC (.int 0))))
      sBk
      sNil))))) (intL ns) [some (.v a0), some (.v (.int most)), some (.v (.nd .ow .lst (intL ds))), a3, a4, a5] [] = .nx [some (.v a0), some (.v (.int most)), some (.v (.nd .ow .lst (intL ds'))), a3', a4', a5'] [] ∧ Digs most ds'
  | [], a3, a4, a5, ds, hd, _, _, _ => ⟨a3, a4, a5, ds, rfl, hd⟩
  | x :: r, a3, a4, a5, ds, hd, h3, h4, h5 => by
    have kl : ∀ {a : Option V}, (∀ q, a = some q → ∃ d, q = .v d) → ∀ i, killR i a = a := fun {a} h i => by
      cases a with
      | none => rfl
      | some q => obtain ⟨d, rfl⟩ := h q rfl; rfl
    have hg : gN 3 (.v (.int x)) [some (.v a0), some (.v (.int most)), some (.v (.nd .ow .lst (intL ds))), a3, a4, a5] [] = some ([some (.v a0), some (.v (.int most)), some (.v (.nd .ow .lst (intL ds))), some (.v (.int x)), a4, a5], []) := by
      simp [gN, setL, stD, kl h4, kl h5]
    show ∃ a3' a4' a5' ds', forV (gN 3) _ (.int x :: intL r) _ _ = _ ∧ _
    rw [forV_cons hg]
    dsimp only
    have h0 : (0 : Int) ≤ (if x < 0 then -x else x) := by split <;> omega
    obtain ⟨rest', a5', ds1, e, hd1, h5'⟩ := row_inner most hm a0 (.int x) (rngD 0 ((60 : Nat) : Int)) _ a5 ds h0 hd h5 (fun y hy => by
      obtain ⟨i, _, rfl⟩ := List.mem_map.mp (show y ∈ (List.range _).map _ from hy)
      exact ⟨_, rfl⟩)
    obtain ⟨b3, b4, b5, ds2, e2, hd2⟩ := row_outer most hm a0 r (some (.v (.int x))) (some (.v (.int rest'))) a5' ds1 hd1 (fun q h => by cases h; exact ⟨_, rfl⟩) (fun q h => by cases h; exact ⟨_, rfl⟩) h5'
    refine ⟨b3, b4, b5, ds2, ?_, hd2⟩
    rw [← e2]
    have e1 : sSet 4 (eB fAbs (aCons (eB fInt (aCons (eVar 3) aNil)) aNil)) [some (.v a0), some (.v (.int most)), some (.v (.nd .ow .lst (intL ds))), some (.v (.int x)), a4, a5] [] = .nx [some (.v a0), some (.v (.int most)), some (.v (.nd .ow .lst (intL ds))), some (.v (.int x)), some (.v (.int (if x < 0 then -x else x))), a5] [] := by
      simp [sSet_ap, eVar, mkR, setL, stD, kl h5]
    rw [sSeq_ap, e1, seq_nx, sFor_of (it := iR1 (eC (.int 60))) (iR1_of (m := eC (.int 60)) (n := 60) rfl (by decide)), e]
    rfl
theorem row_ok {ns : List Int} {most : Nat} (hm : most ≤ 1000) : ∃ ds, fnOf 2 6 m_row [.v (.nd .fz .rol (intL ns)), .v (.int most)] [] = .ok (.nd .ow .lst (intL ds)) [] ∧ Digs most ds := by
  obtain ⟨b3, b4, b5, ds, e, hd⟩ := row_outer most hm (.nd .fz .rol (intL ns)) ns none none none [] ⟨by simp, by simp⟩ (by simp) (by simp) (by simp)
  refine ⟨ds, fnOf_rt (gh := []) rfl ?_ rfl, hd⟩
  show m_row [some (.v (.nd .fz .rol (intL ns))), some (.v (.int most)), none, none, none, none] [] = _
  unfold m_row
  have e1 : sSet 2 (eLst aNil) [some (.v (.nd .fz .rol (intL ns))), some (.v (.int most)), none, none, none, none] [] = .nx [some (.v (.nd .fz .rol (intL ns))), some (.v (.int most)), some (.v (.nd .ow .lst (intL []))), none, none, none] [] := rfl
  rw [sSeq_ap, e1, seq_nx, sSeq_ap, sFor_of (it := iSeq (eVar 0)) (iSeq_of (m := eVar 0) (d := .nd .fz .rol (intL ns)) (k := .rol) rfl rfl rfl), e, seq_nx, sRet_ap, eVar_o (d := .nd .ow .lst (intL ds)) rfl rfl]
  rfl
end VL
set_option Elab.async false
set_option linter.all false
set_option maxRecDepth 100000
set_option maxHeartbeats 1000000
namespace VL
open GL (PV OB Sto Nm BT lim)
open PySem (PyData)
def okD : Nat → D → Bool
  | 0, _ => false
  | f + 1, d => match d with
    | .sc .non => true
    | .sc (.bl _) => true
    | .sc (.int _) => true
    | .sc (.str l) => PyData.strOk (GL.toS l)
    | .tup xs => xs.all (okD f)
    | .nd _ .lst xs => xs.all (okD f)
    | .nd _ .rol xs => xs.all (okD f)
    | _ => false
theorem optAll_ok {f : Nat} (ih : ∀ d, okD f d = true → ∃ t, datD f d = some t ∧ t.plain = true) : ∀ xs : List D, xs.all (okD f) = true → ∃ ts, GL.optAll (datD f) xs = some ts ∧ PyData.plainAll ts = true
  | [], _ => ⟨[], rfl, rfl⟩
  | x :: r, h => by
    rw [List.all_cons, Bool.and_eq_true] at h
    obtain ⟨t, h1, h2⟩ := ih x h.1
    obtain ⟨ts, h3, h4⟩ := optAll_ok ih r h.2
    refine ⟨t :: ts, ?_, ?_⟩
    · rw [GL.optAll, h1, h3]
    · rw [PyData.plainAll, h2, h4]; rfl
theorem okD_dat : ∀ (f : Nat) (d : D), okD f d = true → ∃ t, datD f d = some t ∧ t.plain = true
  | 0, d, h => by cases h
  | f + 1, d, h => by
    cases d with
    | sc s =>
      cases s with
      | non => exact ⟨_, rfl, rfl⟩
      | bl b => exact ⟨_, rfl, rfl⟩
      | int i => exact ⟨_, rfl, rfl⟩
      | str l =>
        have h : PyData.strOk (GL.toS l) = true := h
        refine ⟨.str (GL.toS l), ?_, rfl⟩
        show (if PyData.strOk (GL.toS l) = true then _ else _) = _
        rw [if_pos h]
      | ty b => cases h
      | gl x => cases h
    | tup xs =>
      obtain ⟨ts, h1, h2⟩ := optAll_ok (okD_dat f) xs h
      exact ⟨.tuple ts, by show (GL.optAll (datD f) xs).map _ = _; rw [h1]; rfl, h2⟩
    | nd k hd xs =>
      cases hd with
      | lst =>
        obtain ⟨ts, h1, h2⟩ := optAll_ok (okD_dat f) xs h
        exact ⟨.list ts, by show (GL.optAll (datD f) xs).map _ = _; rw [h1]; rfl, h2⟩
      | rol =>
        obtain ⟨ts, h1, h2⟩ := optAll_ok (okD_dat f) xs h
        exact ⟨.list ts, by show (GL.optAll (datD f) xs).map _ = _; rw [h1]; rfl, h2⟩
      | dct ks => cases h
      | dcn ks => cases h
      | ptp => cases h
      | ins C ns => cases h
theorem same_ok {neg : Bool} {x y : RV} {ls gh : Ls} {d : D} (hx : val x ls gh = some d) (hy : val y ls gh = some d) (h : okD 60 d = true) : eqM neg x y ls gh = .ok (.v (.bl (!neg))) ls gh := by
  obtain ⟨t, h1, h2⟩ := okD_dat 60 d h
  have hr := PySem.SeqAt.eqv_refl_plain t h2
  have e : eqD neg d d = some (!neg) := by
    unfold eqD
    cases d with
    | sc s =>
      cases s with
      | non => cases neg <;> rfl
      | bl b => cases neg <;> cases b <;> rfl
      | int i => first | (simp [scalD]; done) | (simp [scalD]; cases neg <;> rfl)
      | str l => first | (simp [scalD]; done) | (simp [scalD]; cases neg <;> rfl)
      | ty b => cases h
      | gl x => cases h
    | tup xs => first | (simp [scalD, h1, hr]; done) | (simp [scalD, h1, hr]; cases neg <;> rfl)
    | nd k hd xs => first | (simp [scalD, h1, hr]; done) | (simp [scalD, h1, hr]; cases neg <;> rfl)
  unfold eqM
  simp only [hx, hy, e]
end VL
set_option Elab.async false
set_option linter.all false
set_option maxRecDepth 100000
set_option maxHeartbeats 4000000
set_option cbv.maxSteps 1000000
namespace VL
open GL (PV OB Sto Nm BT lim)
open PySem (PyData)
def m_whole : MS := (sRet (eAndM (eB fIsi (aCons (eVar 0) (aCons (eC (.ty .int)) aNil))) (eNotM (eB fIsi (aCons (eVar 0) (aCons (eC (.ty .bool)) aNil))))))
abbrev f_whole : MF := fnOf 1 1 m_whole
def eqB (S7 S0 S4 S9 : MS) (NE : G2) (WH : MF) : MS := (sSeq S0
  (sSeq S4
  (sSeq (sSet 5 (eOp gIx (eVar 4) (eC (.int 0))))
  (sSeq (sSet 6 (eOp gIx (eVar 4) (eC (.int 1))))
  (sIf (tOrM (toT (eOp (isM false) (eVar 6) (eC .non))) (toT (eB fIsi (aCons (eVar 6) (aCons (eC (.ty .bool)) aNil)))))
  (sIf (tOrM (toT (eOp NE (eB fIsi (aCons (eVar 5) (aCons (eC (.ty .bool)) aNil))) (eB fIsi (aCons (eVar 6) (aCons (eC (.ty .bool)) aNil))))) (toT (eOp NE (eVar 5) (eVar 6))))
  (sRet (eC (.bl false)))
  sNil)
  (sIf (toT (eB fIsi (aCons (eVar 6) (aCons (eC (.ty .int)) aNil))))
  (sIf (tOrM (tNotM (toT (eCall WH [] (aCons (eVar 5) aNil)))) (toT (eOp NE (eVar 5) (eVar 6))))
  (sRet (eC (.bl false)))
  sNil)
  (sIf (toT (eB fIsi (aCons (eVar 6) (aCons (eC (.ty .str)) aNil))))
  (sIf (tOrM (tNotM (toT (eB fIsi (aCons (eVar 5) (aCons (eC (.ty .str)) aNil))))) (toT (eOp NE (eVar 5) (eVar 6))))
  (sRet (eC (.bl false)))
  sNil)
  (sSeq (sIf (tOrM (toT (eOp NE (eB fIsi (aCons (eVar 5) (aCons (eC (.ty .list)) aNil))) (eB fIsi (aCons (eVar 6) (aCons (eC (.ty .list)) aNil))))) (toT (eOp NE (eB fIsi (aCons (eVar 5) (aCons (eC (.ty .tuple)) aNil))) (eB fIsi (aCons (eVar 6) (aCons (eC (.ty .tuple)) aNil))))))
  (sRet (eC (.bl false)))
  sNil)
  (sSeq (sIf (toT (eB fIsi (aCons (eVar 6) (aCons (eC (.ty .dict)) aNil))))
  S7
  sNil)
  (sSeq (sIf (toT (eOp NE (eB fLen (aCons (eVar 5) aNil)) (eB fLen (aCons (eVar 6) aNil))))
  (sRet (eC (.bl false)))
  sNil)
  S9))))))))))
def eqBodyG (S7 : MS) : MS := (sSeq (sIf (toT (eOp gEq (eB fLen (aCons (eVar 2) aNil)) (eC (.int 0))))
  (sRet (eC (.bl true)))
  sNil)
  (sSeq (sSet 4 (eMt kList mPop (eVar 2) aNil))
  (sSeq (sSet 5 (eOp gIx (eVar 4) (eC (.int 0))))
  (sSeq (sSet 6 (eOp gIx (eVar 4) (eC (.int 1))))
  (sIf (tOrM (toT (eOp (isM false) (eVar 6) (eC .non))) (toT (eB fIsi (aCons (eVar 6) (aCons (eC (.ty .bool)) aNil)))))
  (sIf (tOrM (toT (eOp gNe (eB fIsi (aCons (eVar 5) (aCons (eC (.ty .bool)) aNil))) (eB fIsi (aCons (eVar 6) (aCons (eC (.ty .bool)) aNil))))) (toT (eOp gNe (eVar 5) (eVar 6))))
  (sRet (eC (.bl false)))
  sNil)
  (sIf (toT (eB fIsi (aCons (eVar 6) (aCons (eC (.ty .int)) aNil))))
  (sIf (tOrM (tNotM (toT (eCall f_whole [] (aCons (eVar 5) aNil)))) (toT (eOp gNe (eVar 5) (eVar 6))))
  (sRet (eC (.bl false)))
  sNil)
  (sIf (toT (eB fIsi (aCons (eVar 6) (aCons (eC (.ty .str)) aNil))))
  (sIf (tOrM (tNotM (toT (eB fIsi (aCons (eVar 5) (aCons (eC (.ty .str)) aNil))))) (toT (eOp gNe (eVar 5) (eVar 6))))
  (sRet (eC (.bl false)))
  sNil)
  (sSeq (sIf (tOrM (toT (eOp gNe (eB fIsi (aCons (eVar 5) (aCons (eC (.ty .list)) aNil))) (eB fIsi (aCons (eVar 6) (aCons (eC (.ty .list)) aNil))))) (toT (eOp gNe (eB fIsi (aCons (eVar 5) (aCons (eC (.ty .tuple)) aNil))) (eB fIsi (aCons (eVar 6) (aCons (eC (.ty .tuple)) aNil))))))
  (sRet (eC (.bl false)))
  sNil)
  (sSeq (sIf (toT (eB fIsi (aCons (eVar 6) (aCons (eC (.ty .dict)) aNil))))
  S7
  sNil)
  (sSeq (sIf (toT (eOp gNe (eB fLen (aCons (eVar 5) aNil)) (eB fLen (aCons (eVar 6) aNil))))
  (sRet (eC (.bl false)))
  sNil)
  (sFor (iR1 (eB fLen (aCons (eVar 6) aNil))) (gN 8)
  (sExpr (eMt kList mAppend (eVar 2) (aCons (eTup (aCons (eOp gIx (eVar 5) (eVar 8)) (aCons (eOp gIx (eVar 6) (eVar 8)) aNil))) aNil))))))))))))))
def m_equalG (S7 : MS) : MS := (sSeq (sSet 2 (eLst (aCons (eTup (aCons (eVar 0) (aCons (eVar 1) aNil))) aNil)))
  (sSeq (sFor (iR1 (eC (.int 6000))) (gN 3)
  (eqBodyG S7))
  (sRet (eC (.bl false)))))
abbrev f_equalG (S7 : MS) : MF := fnOf 2 9 (m_equalG S7)
def plD : Nat → D → Bool
  | 0, _ => false
  | f + 1, d => match d with
    | .sc .non => true
    | .sc (.bl _) => true
    | .sc (.int _) => true
    | .sc (.str l) => PyData.strOk (GL.toS l)
    | .tup xs => xs.all (plD f)
    | .nd .fz .lst xs => xs.all (plD f)
    | _ => false
def szD : Nat → D → Nat
  | 0, _ => 1
  | f + 1, d => match d with
    | .tup xs => 1 + (xs.map (szD f)).sum
    | .nd _ _ xs => 1 + (xs.map (szD f)).sum
    | _ => 1
theorem plD_shr : ∀ {f : Nat} {d : D}, plD f d = true → d.shr = true
  | 0, _, h => by cases h
  | f + 1, .sc _, _ => rfl
  | f + 1, .tup _, _ => rfl
  | f + 1, .nd .fz _ _, _ => rfl
  | f + 1, .nd .ow h xs, e => by cases h <;> cases e
  | f + 1, .nd .lk h xs, e => by cases h <;> cases e
section
variable {S7 S0 S4 S9 : MS} {NE : G2} {WH : MF} {a b p : D} {W W' xs : List D} {k : Int} {x4 x5 x6 x8 y8 : Option V}
theorem eqB_non_nn {e4 e5 e6 e8 : D} (h0 : S0 [some (.v a), some (.v b), some (.v (.nd .ow .lst W)), some (.v (.int k)), none, none, none, none, none] [] = .nx [some (.v a), some (.v b), some (.v (.nd .ow .lst W)), some (.v (.int k)), none, none, none, none, none] [])
    (h4 : S4 [some (.v a), some (.v b), some (.v (.nd .ow .lst W)), some (.v (.int k)), none, none, none, none, none] [] = .nx [some (.v a), some (.v b), some (.v (.nd .ow .lst W')), some (.v (.int k)), (some (.v (.tup [.non, .non]))), none, none, none, none] []) (hN : ∀ d ls gh, okD 60 d = true → NE (.v d) (.v d) ls gh = .ok (.v (.bl false)) ls gh) (hW : ∀ i : Int, WH [.v (.int i)] [] = .ok (.bl true) []) :
    eqB S7 S0 S4 S9 NE WH [some (.v a), some (.v b), some (.v (.nd .ow .lst W)), some (.v (.int k)), none, none, none, none, none] [] = .nx [some (.v a), some (.v b), some (.v (.nd .ow .lst W')), some (.v (.int k)), (some (.v (.tup [.non, .non]))), (some (.v .non)), (some (.v .non)), none, none] [] := by
  unfold eqB
  have c0 : ∀ {ls gh r}, S0 ls gh = r → S0 ls gh = r := fun h => h
  have c4 : ∀ {ls gh r}, S4 ls gh = r → S4 ls gh = r := fun h => h
  have cN : ∀ {x y ls gh r}, NE x y ls gh = r → NE x y ls gh = r := fun h => h
  have cW : ∀ {vs hs r}, WH vs hs = r → WH vs hs = r := fun h => h
  repeat (cbv; first | (rw [c0]; rotate_left; exact h0) | (rw [c4]; rotate_left; exact h4) | (rw [cN]; rotate_left; exact hN _ _ _ (by first | rfl | assumption)) | (rw [cW]; rotate_left; exact hW _))
  kernel_rfl
theorem eqB_non_ns {e4 e5 e6 e8 : D} (h0 : S0 [some (.v a), some (.v b), some (.v (.nd .ow .lst W)), some (.v (.int k)), none, none, none, none, (some (.v e8))] [] = .nx [some (.v a), some (.v b), some (.v (.nd .ow .lst W)), some (.v (.int k)), none, none, none, none, (some (.v e8))] [])
    (h4 : S4 [some (.v a), some (.v b), some (.v (.nd .ow .lst W)), some (.v (.int k)), none, none, none, none, (some (.v e8))] [] = .nx [some (.v a), some (.v b), some (.v (.nd .ow .lst W')), some (.v (.int k)), (some (.v (.tup [.non, .non]))), none, none, none, (some (.v e8))] []) (hN : ∀ d ls gh, okD 60 d = true → NE (.v d) (.v d) ls gh = .ok (.v (.bl false)) ls gh) (hW : ∀ i : Int, WH [.v (.int i)] [] = .ok (.bl true) []) :
    eqB S7 S0 S4 S9 NE WH [some (.v a), some (.v b), some (.v (.nd .ow .lst W)), some (.v (.int k)), none, none, none, none, (some (.v e8))] [] = .nx [some (.v a), some (.v b), some (.v (.nd .ow .lst W')), some (.v (.int k)), (some (.v (.tup [.non, .non]))), (some (.v .non)), (some (.v .non)), none, (some (.v e8))] [] := by
  unfold eqB
  have c0 : ∀ {ls gh r}, S0 ls gh = r → S0 ls gh = r := fun h => h
  have c4 : ∀ {ls gh r}, S4 ls gh = r → S4 ls gh = r := fun h => h
  have cN : ∀ {x y ls gh r}, NE x y ls gh = r → NE x y ls gh = r := fun h => h
  have cW : ∀ {vs hs r}, WH vs hs = r → WH vs hs = r := fun h => h
  repeat (cbv; first | (rw [c0]; rotate_left; exact h0) | (rw [c4]; rotate_left; exact h4) | (rw [cN]; rotate_left; exact hN _ _ _ (by first | rfl | assumption)) | (rw [cW]; rotate_left; exact hW _))
  kernel_rfl
theorem eqB_non_sn {e4 e5 e6 e8 : D} (h0 : S0 [some (.v a), some (.v b), some (.v (.nd .ow .lst W)), some (.v (.int k)), (some (.v e4)), (some (.v e5)), (some (.v e6)), none, none] [] = .nx [some (.v a), some (.v b), some (.v (.nd .ow .lst W)), some (.v (.int k)), (some (.v e4)), (some (.v e5)), (some (.v e6)), none, none] [])
    (h4 : S4 [some (.v a), some (.v b), some (.v (.nd .ow .lst W)), some (.v (.int k)), (some (.v e4)), (some (.v e5)), (some (.v e6)), none, none] [] = .nx [some (.v a), some (.v b), some (.v (.nd .ow .lst W')), some (.v (.int k)), (some (.v (.tup [.non, .non]))), (some (.v e5)), (some (.v e6)), none, none] []) (hN : ∀ d ls gh, okD 60 d = true → NE (.v d) (.v d) ls gh = .ok (.v (.bl false)) ls gh) (hW : ∀ i : Int, WH [.v (.int i)] [] = .ok (.bl true) []) :
    eqB S7 S0 S4 S9 NE WH [some (.v a), some (.v b), some (.v (.nd .ow .lst W)), some (.v (.int k)), (some (.v e4)), (some (.v e5)), (some (.v e6)), none, none] [] = .nx [some (.v a), some (.v b), some (.v (.nd .ow .lst W')), some (.v (.int k)), (some (.v (.tup [.non, .non]))), (some (.v .non)), (some (.v .non)), none, none] [] := by
  unfold eqB
  have c0 : ∀ {ls gh r}, S0 ls gh = r → S0 ls gh = r := fun h => h
  have c4 : ∀ {ls gh r}, S4 ls gh = r → S4 ls gh = r := fun h => h
  have cN : ∀ {x y ls gh r}, NE x y ls gh = r → NE x y ls gh = r := fun h => h
  have cW : ∀ {vs hs r}, WH vs hs = r → WH vs hs = r := fun h => h
  repeat (cbv; first | (rw [c0]; rotate_left; exact h0) | (rw [c4]; rotate_left; exact h4) | (rw [cN]; rotate_left; exact hN _ _ _ (by first | rfl | assumption)) | (rw [cW]; rotate_left; exact hW _))
  kernel_rfl
theorem eqB_non_ss {e4 e5 e6 e8 : D} (h0 : S0 [some (.v a), some (.v b), some (.v (.nd .ow .lst W)), some (.v (.int k)), (some (.v e4)), (some (.v e5)), (some (.v e6)), none, (some (.v e8))] [] = .nx [some (.v a), some (.v b), some (.v (.nd .ow .lst W)), some (.v (.int k)), (some (.v e4)), (some (.v e5)), (some (.v e6)), none, (some (.v e8))] [])
    (h4 : S4 [some (.v a), some (.v b), some (.v (.nd .ow .lst W)), some (.v (.int k)), (some (.v e4)), (some (.v e5)), (some (.v e6)), none, (some (.v e8))] [] = .nx [some (.v a), some (.v b), some (.v (.nd .ow .lst W')), some (.v (.int k)), (some (.v (.tup [.non, .non]))), (some (.v e5)), (some (.v e6)), none, (some (.v e8))] []) (hN : ∀ d ls gh, okD 60 d = true → NE (.v d) (.v d) ls gh = .ok (.v (.bl false)) ls gh) (hW : ∀ i : Int, WH [.v (.int i)] [] = .ok (.bl true) []) :
    eqB S7 S0 S4 S9 NE WH [some (.v a), some (.v b), some (.v (.nd .ow .lst W)), some (.v (.int k)), (some (.v e4)), (some (.v e5)), (some (.v e6)), none, (some (.v e8))] [] = .nx [some (.v a), some (.v b), some (.v (.nd .ow .lst W')), some (.v (.int k)), (some (.v (.tup [.non, .non]))), (some (.v .non)), (some (.v .non)), none, (some (.v e8))] [] := by
  unfold eqB
  have c0 : ∀ {ls gh r}, S0 ls gh = r → S0 ls gh = r := fun h => h
  have c4 : ∀ {ls gh r}, S4 ls gh = r → S4 ls gh = r := fun h => h
  have cN : ∀ {x y ls gh r}, NE x y ls gh = r → NE x y ls gh = r := fun h => h
  have cW : ∀ {vs hs r}, WH vs hs = r → WH vs hs = r := fun h => h
  repeat (cbv; first | (rw [c0]; rotate_left; exact h0) | (rw [c4]; rotate_left; exact h4) | (rw [cN]; rotate_left; exact hN _ _ _ (by first | rfl | assumption)) | (rw [cW]; rotate_left; exact hW _))
  kernel_rfl
theorem eqB_bl_nn {q : Bool} {e4 e5 e6 e8 : D} (h0 : S0 [some (.v a), some (.v b), some (.v (.nd .ow .lst W)), some (.v (.int k)), none, none, none, none, none] [] = .nx [some (.v a), some (.v b), some (.v (.nd .ow .lst W)), some (.v (.int k)), none, none, none, none, none] [])
    (h4 : S4 [some (.v a), some (.v b), some (.v (.nd .ow .lst W)), some (.v (.int k)), none, none, none, none, none] [] = .nx [some (.v a), some (.v b), some (.v (.nd .ow .lst W')), some (.v (.int k)), (some (.v (.tup [(.bl q), (.bl q)]))), none, none, none, none] []) (hN : ∀ d ls gh, okD 60 d = true → NE (.v d) (.v d) ls gh = .ok (.v (.bl false)) ls gh) (hW : ∀ i : Int, WH [.v (.int i)] [] = .ok (.bl true) []) :
    eqB S7 S0 S4 S9 NE WH [some (.v a), some (.v b), some (.v (.nd .ow .lst W)), some (.v (.int k)), none, none, none, none, none] [] = .nx [some (.v a), some (.v b), some (.v (.nd .ow .lst W')), some (.v (.int k)), (some (.v (.tup [(.bl q), (.bl q)]))), (some (.v (.bl q))), (some (.v (.bl q))), none, none] [] := by
  unfold eqB
  have c0 : ∀ {ls gh r}, S0 ls gh = r → S0 ls gh = r := fun h => h
  have c4 : ∀ {ls gh r}, S4 ls gh = r → S4 ls gh = r := fun h => h
  have cN : ∀ {x y ls gh r}, NE x y ls gh = r → NE x y ls gh = r := fun h => h
  have cW : ∀ {vs hs r}, WH vs hs = r → WH vs hs = r := fun h => h
  repeat (cbv; first | (rw [c0]; rotate_left; exact h0) | (rw [c4]; rotate_left; exact h4) | (rw [cN]; rotate_left; exact hN _ _ _ (by first | rfl | assumption)) | (rw [cW]; rotate_left; exact hW _))
  kernel_rfl
theorem eqB_bl_ns {q : Bool} {e4 e5 e6 e8 : D} (h0 : S0 [some (.v a), some (.v b), some (.v (.nd .ow .lst W)), some (.v (.int k)), none, none, none, none, (some (.v e8))] [] = .nx [some (.v a), some (.v b), some (.v (.nd .ow .lst W)), some (.v (.int k)), none, none, none, none, (some (.v e8))] [])
    (h4 : S4 [some (.v a), some (.v b), some (.v (.nd .ow .lst W)), some (.v (.int k)), none, none, none, none, (some (.v e8))] [] = .nx [some (.v a), some (.v b), some (.v (.nd .ow .lst W')), some (.v (.int k)), (some (.v (.tup [(.bl q), (.bl q)]))), none, none, none, (some (.v e8))] []) (hN : ∀ d ls gh, okD 60 d = true → NE (.v d) (.v d) ls gh = .ok (.v (.bl false)) ls gh) (hW : ∀ i : Int, WH [.v (.int i)] [] = .ok (.bl true) []) :
    eqB S7 S0 S4 S9 NE WH [some (.v a), some (.v b), some (.v (.nd .ow .lst W)), some (.v (.int k)), none, none, none, none, (some (.v e8))] [] = .nx [some (.v a), some (.v b), some (.v (.nd .ow .lst W')), some (.v (.int k)), (some (.v (.tup [(.bl q), (.bl q)]))), (some (.v (.bl q))), (some (.v (.bl q))), none, (some (.v e8))] [] := by
  unfold eqB
  have c0 : ∀ {ls gh r}, S0 ls gh = r → S0 ls gh = r := fun h => h
  have c4 : ∀ {ls gh r}, S4 ls gh = r → S4 ls gh = r := fun h => h
  have cN : ∀ {x y ls gh r}, NE x y ls gh = r → NE x y ls gh = r := fun h => h
  have cW : ∀ {vs hs r}, WH vs hs = r → WH vs hs = r := fun h => h
  repeat (cbv; first | (rw [c0]; rotate_left; exact h0) | (rw [c4]; rotate_left; exact h4) | (rw [cN]; rotate_left; exact hN _ _ _ (by first | rfl | assumption)) | (rw [cW]; rotate_left; exact hW _))
  kernel_rfl
theorem eqB_bl_sn {q : Bool} {e4 e5 e6 e8 : D} (h0 : S0 [some (.v a), some (.v b), some (.v (.nd .ow .lst W)), some (.v (.int k)), (some (.v e4)), (some (.v e5)), (some (.v e6)), none, none] [] = .nx [some (.v a), some (.v b), some (.v (.nd .ow .lst W)), some (.v (.int k)), (some (.v e4)), (some (.v e5)), (some (.v e6)), none, none] [])
    (h4 : S4 [some (.v a), some (.v b), some (.v (.nd .ow .lst W)), some (.v (.int k)), (some (.v e4)), (some (.v e5)), (some (.v e6)), none, none] [] = .nx [some (.v a), some (.v b), some (.v (.nd .ow .lst W')), some (.v (.int k)), (some (.v (.tup [(.bl q), (.bl q)]))), (some (.v e5)), (some (.v e6)), none, none] []) (hN : ∀ d ls gh, okD 60 d = true → NE (.v d) (.v d) ls gh = .ok (.v (.bl false)) ls gh) (hW : ∀ i : Int, WH [.v (.int i)] [] = .ok (.bl true) []) :
    eqB S7 S0 S4 S9 NE WH [some (.v a), some (.v b), some (.v (.nd .ow .lst W)), some (.v (.int k)), (some (.v e4)), (some (.v e5)), (some (.v e6)), none, none] [] = .nx [some (.v a), some (.v b), some (.v (.nd .ow .lst W')), some (.v (.int k)), (some (.v (.tup [(.bl q), (.bl q)]))), (some (.v (.bl q))), (some (.v (.bl q))), none, none] [] := by
  unfold eqB
  have c0 : ∀ {ls gh r}, S0 ls gh = r → S0 ls gh = r := fun h => h
  have c4 : ∀ {ls gh r}, S4 ls gh = r → S4 ls gh = r := fun h => h
  have cN : ∀ {x y ls gh r}, NE x y ls gh = r → NE x y ls gh = r := fun h => h
  have cW : ∀ {vs hs r}, WH vs hs = r → WH vs hs = r := fun h => h
  repeat (cbv; first | (rw [c0]; rotate_left; exact h0) | (rw [c4]; rotate_left; exact h4) | (rw [cN]; rotate_left; exact hN _ _ _ (by first | rfl | assumption)) | (rw [cW]; rotate_left; exact hW _))
  kernel_rfl
theorem eqB_bl_ss {q : Bool} {e4 e5 e6 e8 : D} (h0 : S0 [some (.v a), some (.v b), some (.v (.nd .ow .lst W)), some (.v (.int k)), (some (.v e4)), (some (.v e5)), (some (.v e6)), none, (some (.v e8))] [] = .nx [some (.v a), some (.v b), some (.v (.nd .ow .lst W)), some (.v (.int k)), (some (.v e4)), (some (.v e5)), (some (.v e6)), none, (some (.v e8))] [])
    (h4 : S4 [some (.v a), some (.v b), some (.v (.nd .ow .lst W)), some (.v (.int k)), (some (.v e4)), (some (.v e5)), (some (.v e6)), none, (some (.v e8))] [] = .nx [some (.v a), some (.v b), some (.v (.nd .ow .lst W')), some (.v (.int k)), (some (.v (.tup [(.bl q), (.bl q)]))), (some (.v e5)), (some (.v e6)), none, (some (.v e8))] []) (hN : ∀ d ls gh, okD 60 d = true → NE (.v d) (.v d) ls gh = .ok (.v (.bl false)) ls gh) (hW : ∀ i : Int, WH [.v (.int i)] [] = .ok (.bl true) []) :
    eqB S7 S0 S4 S9 NE WH [some (.v a), some (.v b), some (.v (.nd .ow .lst W)), some (.v (.int k)), (some (.v e4)), (some (.v e5)), (some (.v e6)), none, (some (.v e8))] [] = .nx [some (.v a), some (.v b), some (.v (.nd .ow .lst W')), some (.v (.int k)), (some (.v (.tup [(.bl q), (.bl q)]))), (some (.v (.bl q))), (some (.v (.bl q))), none, (some (.v e8))] [] := by
  unfold eqB
  have c0 : ∀ {ls gh r}, S0 ls gh = r → S0 ls gh = r := fun h => h
  have c4 : ∀ {ls gh r}, S4 ls gh = r → S4 ls gh = r := fun h => h
  have cN : ∀ {x y ls gh r}, NE x y ls gh = r → NE x y ls gh = r := fun h => h
  have cW : ∀ {vs hs r}, WH vs hs = r → WH vs hs = r := fun h => h
  repeat (cbv; first | (rw [c0]; rotate_left; exact h0) | (rw [c4]; rotate_left; exact h4) | (rw [cN]; rotate_left; exact hN _ _ _ (by first | rfl | assumption)) | (rw [cW]; rotate_left; exact hW _))
  kernel_rfl
theorem eqB_int_nn {q : Int} {e4 e5 e6 e8 : D} (h0 : S0 [some (.v a), some (.v b), some (.v (.nd .ow .lst W)), some (.v (.int k)), none, none, none, none, none] [] = .nx [some (.v a), some (.v b), some (.v (.nd .ow .lst W)), some (.v (.int k)), none, none, none, none, none] [])
    (h4 : S4 [some (.v a), some (.v b), some (.v (.nd .ow .lst W)), some (.v (.int k)), none, none, none, none, none] [] = .nx [some (.v a), some (.v b), some (.v (.nd .ow .lst W')), some (.v (.int k)), (some (.v (.tup [(.int q), (.int q)]))), none, none, none, none] []) (hN : ∀ d ls gh, okD 60 d = true → NE (.v d) (.v d) ls gh = .ok (.v (.bl false)) ls gh) (hW : ∀ i : Int, WH [.v (.int i)] [] = .ok (.bl true) []) :
    eqB S7 S0 S4 S9 NE WH [some (.v a), some (.v b), some (.v (.nd .ow .lst W)), some (.v (.int k)), none, none, none, none, none] [] = .nx [some (.v a), some (.v b), some (.v (.nd .ow .lst W')), some (.v (.int k)), (some (.v (.tup [(.int q), (.int q)]))), (some (.v (.int q))), (some (.v (.int q))), none, none] [] := by
  unfold eqB
  have c0 : ∀ {ls gh r}, S0 ls gh = r → S0 ls gh = r := fun h => h
  have c4 : ∀ {ls gh r}, S4 ls gh = r → S4 ls gh = r := fun h => h
  have cN : ∀ {x y ls gh r}, NE x y ls gh = r → NE x y ls gh = r := fun h => h
  have cW : ∀ {vs hs r}, WH vs hs = r → WH vs hs = r := fun h => h
  repeat (cbv; first | (rw [c0]; rotate_left; exact h0) | (rw [c4]; rotate_left; exact h4) | (rw [cN]; rotate_left; exact hN _ _ _ (by first | rfl | assumption)) | (rw [cW]; rotate_left; exact hW _))
  kernel_rfl
theorem eqB_int_ns {q : Int} {e4 e5 e6 e8 : D} (h0 : S0 [some (.v a), some (.v b), some (.v (.nd .ow .lst W)), some (.v (.int k)), none, none, none, none, (some (.v e8))] [] = .nx [some (.v a), some (.v b), some (.v (.nd .ow .lst W)), some (.v (.int k)), none, none, none, none, (some (.v e8))] [])
    (h4 : S4 [some (.v a), some (.v b), some (.v (.nd .ow .lst W)), some (.v (.int k)), none, none, none, none, (some (.v e8))] [] = .nx [some (.v a), some (.v b), some (.v (.nd .ow .lst W')), some (.v (.int k)), (some (.v (.tup [(.int q), (.int q)]))), none, none, none, (some (.v e8))] []) (hN : ∀ d ls gh, okD 60 d = true → NE (.v d) (.v d) ls gh = .ok (.v (.bl false)) ls gh) (hW : ∀ i : Int, WH [.v (.int i)] [] = .ok (.bl true) []) :
    eqB S7 S0 S4 S9 NE WH [some (.v a), some (.v b), some (.v (.nd .ow .lst W)), some (.v (.int k)), none, none, none, none, (some (.v e8))] [] = .nx [some (.v a), some (.v b), some (.v (.nd .ow .lst W')), some (.v (.int k)), (some (.v (.tup [(.int q), (.int q)]))), (some (.v (.int q))), (some (.v (.int q))), none, (some (.v e8))] [] := by
  unfold eqB
  have c0 : ∀ {ls gh r}, S0 ls gh = r → S0 ls gh = r := fun h => h
  have c4 : ∀ {ls gh r}, S4 ls gh = r → S4 ls gh = r := fun h => h
  have cN : ∀ {x y ls gh r}, NE x y ls gh = r → NE x y ls gh = r := fun h => h
  have cW : ∀ {vs hs r}, WH vs hs = r → WH vs hs = r := fun h => h
  repeat (cbv; first | (rw [c0]; rotate_left; exact h0) | (rw [c4]; rotate_left; exact h4) | (rw [cN]; rotate_left; exact hN _ _ _ (by first | rfl | assumption)) | (rw [cW]; rotate_left; exact hW _))
  kernel_rfl
theorem eqB_int_sn {q : Int} {e4 e5 e6 e8 : D} (h0 : S0 [some (.v a), some (.v b), some (.v (.nd .ow .lst W)), some (.v (.int k)), (some (.v e4)), (some (.v e5)), (some (.v e6)), none, none] [] = .nx [some (.v a), some (.v b), some (.v (.nd .ow .lst W)), some (.v (.int k)), (some (.v e4)), (some (.v e5)), (some (.v e6)), none, none] [])
    (h4 : S4 [some (.v a), some (.v b), some (.v (.nd .ow .lst W)), some (.v (.int k)), (some (.v e4)), (some (.v e5)), (some (.v e6)), none, none] [] = .nx [some (.v a), some (.v b), some (.v (.nd .ow .lst W')), some (.v (.int k)), (some (.v (.tup [(.int q), (.int q)]))), (some (.v e5)), (some (.v e6)), none, none] []) (hN : ∀ d ls gh, okD 60 d = true → NE (.v d) (.v d) ls gh = .ok (.v (.bl false)) ls gh) (hW : ∀ i : Int, WH [.v (.int i)] [] = .ok (.bl true) []) :
    eqB S7 S0 S4 S9 NE WH [some (.v a), some (.v b), some (.v (.nd .ow .lst W)), some (.v (.int k)), (some (.v e4)), (some (.v e5)), (some (.v e6)), none, none] [] = .nx [some (.v a), some (.v b), some (.v (.nd .ow .lst W')), some (.v (.int k)), (some (.v (.tup [(.int q), (.int q)]))), (some (.v (.int q))), (some (.v (.int q))), none, none] [] := by
  unfold eqB
  have c0 : ∀ {ls gh r}, S0 ls gh = r → S0 ls gh = r := fun h => h
  have c4 : ∀ {ls gh r}, S4 ls gh = r → S4 ls gh = r := fun h => h
  have cN : ∀ {x y ls gh r}, NE x y ls gh = r → NE x y ls gh = r := fun h => h
  have cW : ∀ {vs hs r}, WH vs hs = r → WH vs hs = r := fun h => h
  repeat (cbv; first | (rw [c0]; rotate_left; exact h0) | (rw [c4]; rotate_left; exact h4) | (rw [cN]; rotate_left; exact hN _ _ _ (by first | rfl | assumption)) | (rw [cW]; rotate_left; exact hW _))
  kernel_rfl
theorem eqB_int_ss {q : Int} {e4 e5 e6 e8 : D} (h0 : S0 [some (.v a), some (.v b), some (.v (.nd .ow .lst W)), some (.v (.int k)), (some (.v e4)), (some (.v e5)), (some (.v e6)), none, (some (.v e8))] [] = .nx [some (.v a), some (.v b), some (.v (.nd .ow .lst W)), some (.v (.int k)), (some (.v e4)), (some (.v e5)), (some (.v e6)), none, (some (.v e8))] [])
    (h4 : S4 [some (.v a), some (.v b), some (.v (.nd .ow .lst W)), some (.v (.int k)), (some (.v e4)), (some (.v e5)), (some (.v e6)), none, (some (.v e8))] [] = .nx [some (.v a), some (.v b), some (.v (.nd .ow .lst W')), some (.v (.int k)), (some (.v (.tup [(.int q), (.int q)]))), (some (.v e5)), (some (.v e6)), none, (some (.v e8))] []) (hN : ∀ d ls gh, okD 60 d = true → NE (.v d) (.v d) ls gh = .ok (.v (.bl false)) ls gh) (hW : ∀ i : Int, WH [.v (.int i)] [] = .ok (.bl true) []) :
    eqB S7 S0 S4 S9 NE WH [some (.v a), some (.v b), some (.v (.nd .ow .lst W)), some (.v (.int k)), (some (.v e4)), (some (.v e5)), (some (.v e6)), none, (some (.v e8))] [] = .nx [some (.v a), some (.v b), some (.v (.nd .ow .lst W')), some (.v (.int k)), (some (.v (.tup [(.int q), (.int q)]))), (some (.v (.int q))), (some (.v (.int q))), none, (some (.v e8))] [] := by
  unfold eqB
  have c0 : ∀ {ls gh r}, S0 ls gh = r → S0 ls gh = r := fun h => h
  have c4 : ∀ {ls gh r}, S4 ls gh = r → S4 ls gh = r := fun h => h
  have cN : ∀ {x y ls gh r}, NE x y ls gh = r → NE x y ls gh = r := fun h => h
  have cW : ∀ {vs hs r}, WH vs hs = r → WH vs hs = r := fun h => h
  repeat (cbv; first | (rw [c0]; rotate_left; exact h0) | (rw [c4]; rotate_left; exact h4) | (rw [cN]; rotate_left; exact hN _ _ _ (by first | rfl | assumption)) | (rw [cW]; rotate_left; exact hW _))
  kernel_rfl
theorem eqB_str_nn {q : List Nat} {e4 e5 e6 e8 : D} (hq : okD 60 (.str q) = true) (h0 : S0 [some (.v a), some (.v b), some (.v (.nd .ow .lst W)), some (.v (.int k)), none, none, none, none, none] [] = .nx [some (.v a), some (.v b), some (.v (.nd .ow .lst W)), some (.v (.int k)), none, none, none, none, none] [])
    (h4 : S4 [some (.v a), some (.v b), some (.v (.nd .ow .lst W)), some (.v (.int k)), none, none, none, none, none] [] = .nx [some (.v a), some (.v b), some (.v (.nd .ow .lst W')), some (.v (.int k)), (some (.v (.tup [(.str q), (.str q)]))), none, none, none, none] []) (hN : ∀ d ls gh, okD 60 d = true → NE (.v d) (.v d) ls gh = .ok (.v (.bl false)) ls gh) (hW : ∀ i : Int, WH [.v (.int i)] [] = .ok (.bl true) []) :
    eqB S7 S0 S4 S9 NE WH [some (.v a), some (.v b), some (.v (.nd .ow .lst W)), some (.v (.int k)), none, none, none, none, none] [] = .nx [some (.v a), some (.v b), some (.v (.nd .ow .lst W')), some (.v (.int k)), (some (.v (.tup [(.str q), (.str q)]))), (some (.v (.str q))), (some (.v (.str q))), none, none] [] := by
  unfold eqB
  have c0 : ∀ {ls gh r}, S0 ls gh = r → S0 ls gh = r := fun h => h
  have c4 : ∀ {ls gh r}, S4 ls gh = r → S4 ls gh = r := fun h => h
  have cN : ∀ {x y ls gh r}, NE x y ls gh = r → NE x y ls gh = r := fun h => h
  have cW : ∀ {vs hs r}, WH vs hs = r → WH vs hs = r := fun h => h
  repeat (cbv; first | (rw [c0]; rotate_left; exact h0) | (rw [c4]; rotate_left; exact h4) | (rw [cN]; rotate_left; exact hN _ _ _ (by first | rfl | assumption)) | (rw [cW]; rotate_left; exact hW _))
  kernel_rfl
theorem eqB_str_ns {q : List Nat} {e4 e5 e6 e8 : D} (hq : okD 60 (.str q) = true) (h0 : S0 [some (.v a), some (.v b), some (.v (.nd .ow .lst W)), some (.v (.int k)), none, none, none, none, (some (.v e8))] [] = .nx [some (.v a), some (.v b), some (.v (.nd .ow .lst W)), some (.v (.int k)), none, none, none, none, (some (.v e8))] [])
    (h4 : S4 [some (.v a), some (.v b), some (.v (.nd .ow .lst W)), some (.v (.int k)), none, none, none, none, (some (.v e8))] [] = .nx [some (.v a), some (.v b), some (.v (.nd .ow .lst W')), some (.v (.int k)), (some (.v (.tup [(.str q), (.str q)]))), none, none, none, (some (.v e8))] []) (hN : ∀ d ls gh, okD 60 d = true → NE (.v d) (.v d) ls gh = .ok (.v (.bl false)) ls gh) (hW : ∀ i : Int, WH [.v (.int i)] [] = .ok (.bl true) []) :
    eqB S7 S0 S4 S9 NE WH [some (.v a), some (.v b), some (.v (.nd .ow .lst W)), some (.v (.int k)), none, none, none, none, (some (.v e8))] [] = .nx [some (.v a), some (.v b), some (.v (.nd .ow .lst W')), some (.v (.int k)), (some (.v (.tup [(.str q), (.str q)]))), (some (.v (.str q))), (some (.v (.str q))), none, (some (.v e8))] [] := by
  unfold eqB
  have c0 : ∀ {ls gh r}, S0 ls gh = r → S0 ls gh = r := fun h => h
  have c4 : ∀ {ls gh r}, S4 ls gh = r → S4 ls gh = r := fun h => h
  have cN : ∀ {x y ls gh r}, NE x y ls gh = r → NE x y ls gh = r := fun h => h
  have cW : ∀ {vs hs r}, WH vs hs = r → WH vs hs = r := fun h => h
  repeat (cbv; first | (rw [c0]; rotate_left; exact h0) | (rw [c4]; rotate_left; exact h4) | (rw [cN]; rotate_left; exact hN _ _ _ (by first | rfl | assumption)) | (rw [cW]; rotate_left; exact hW _))
  kernel_rfl
theorem eqB_str_sn {q : List Nat} {e4 e5 e6 e8 : D} (hq : okD 60 (.str q) = true) (h0 : S0 [some (.v a), some (.v b), some (.v (.nd .ow .lst W)), some (.v (.int k)), (some (.v e4)), (some (.v e5)), (some (.v e6)), none, none] [] = .nx [some (.v a), some (.v b), some (.v (.nd .ow .lst W)), some (.v (.int k)), (some (.v e4)), (some (.v e5)), (some (.v e6)), none, none] [])
    (h4 : S4 [some (.v a), some (.v b), some (.v (.nd .ow .lst W)), some (.v (.int k)), (some (.v e4)), (some (.v e5)), (some (.v e6)), none, none] [] = .nx [some (.v a), some (.v b), some (.v (.nd .ow .lst W')), some (.v (.int k)), (some (.v (.tup [(.str q), (.str q)]))), (some (.v e5)), (some (.v e6)), none, none] []) (hN : ∀ d ls gh, okD 60 d = true → NE (.v d) (.v d) ls gh = .ok (.v (.bl false)) ls gh) (hW : ∀ i : Int, WH [.v (.int i)] [] = .ok (.bl true) []) :
    eqB S7 S0 S4 S9 NE WH [some (.v a), some (.v b), some (.v (.nd .ow .lst W)), some (.v (.int k)), (some (.v e4)), (some (.v e5)), (some (.v e6)), none, none] [] = .nx [some (.v a), some (.v b), some (.v (.nd .ow .lst W')), some (.v (.int k)), (some (.v (.tup [(.str q), (.str q)]))), (some (.v (.str q))), (some (.v (.str q))), none, none] [] := by
  unfold eqB
  have c0 : ∀ {ls gh r}, S0 ls gh = r → S0 ls gh = r := fun h => h
  have c4 : ∀ {ls gh r}, S4 ls gh = r → S4 ls gh = r := fun h => h
  have cN : ∀ {x y ls gh r}, NE x y ls gh = r → NE x y ls gh = r := fun h => h
  have cW : ∀ {vs hs r}, WH vs hs = r → WH vs hs = r := fun h => h
  repeat (cbv; first | (rw [c0]; rotate_left; exact h0) | (rw [c4]; rotate_left; exact h4) | (rw [cN]; rotate_left; exact hN _ _ _ (by first | rfl | assumption)) | (rw [cW]; rotate_left; exact hW _))
  kernel_rfl
theorem eqB_str_ss {q : List Nat} {e4 e5 e6 e8 : D} (hq : okD 60 (.str q) = true) (h0 : S0 [some (.v a), some (.v b), some (.v (.nd .ow .lst W)), some (.v (.int k)), (some (.v e4)), (some (.v e5)), (some (.v e6)), none, (some (.v e8))] [] = .nx [some (.v a), some (.v b), some (.v (.nd .ow .lst W)), some (.v (.int k)), (some (.v e4)), (some (.v e5)), (some (.v e6)), none, (some (.v e8))] [])
    (h4 : S4 [some (.v a), some (.v b), some (.v (.nd .ow .lst W)), some (.v (.int k)), (some (.v e4)), (some (.v e5)), (some (.v e6)), none, (some (.v e8))] [] = .nx [some (.v a), some (.v b), some (.v (.nd .ow .lst W')), some (.v (.int k)), (some (.v (.tup [(.str q), (.str q)]))), (some (.v e5)), (some (.v e6)), none, (some (.v e8))] []) (hN : ∀ d ls gh, okD 60 d = true → NE (.v d) (.v d) ls gh = .ok (.v (.bl false)) ls gh) (hW : ∀ i : Int, WH [.v (.int i)] [] = .ok (.bl true) []) :
    eqB S7 S0 S4 S9 NE WH [some (.v a), some (.v b), some (.v (.nd .ow .lst W)), some (.v (.int k)), (some (.v e4)), (some (.v e5)), (some (.v e6)), none, (some (.v e8))] [] = .nx [some (.v a), some (.v b), some (.v (.nd .ow .lst W')), some (.v (.int k)), (some (.v (.tup [(.str q), (.str q)]))), (some (.v (.str q))), (some (.v (.str q))), none, (some (.v e8))] [] := by
  unfold eqB
  have c0 : ∀ {ls gh r}, S0 ls gh = r → S0 ls gh = r := fun h => h
  have c4 : ∀ {ls gh r}, S4 ls gh = r → S4 ls gh = r := fun h => h
  have cN : ∀ {x y ls gh r}, NE x y ls gh = r → NE x y ls gh = r := fun h => h
  have cW : ∀ {vs hs r}, WH vs hs = r → WH vs hs = r := fun h => h
  repeat (cbv; first | (rw [c0]; rotate_left; exact h0) | (rw [c4]; rotate_left; exact h4) | (rw [cN]; rotate_left; exact hN _ _ _ (by first | rfl | assumption)) | (rw [cW]; rotate_left; exact hW _))
  kernel_rfl
theorem eqB_tup_nn {e4 e5 e6 e8 : D} (h0 : S0 [some (.v a), some (.v b), some (.v (.nd .ow .lst W)), some (.v (.int k)), none, none, none, none, none] [] = .nx [some (.v a), some (.v b), some (.v (.nd .ow .lst W)), some (.v (.int k)), none, none, none, none, none] [])
    (h4 : S4 [some (.v a), some (.v b), some (.v (.nd .ow .lst W)), some (.v (.int k)), none, none, none, none, none] [] = .nx [some (.v a), some (.v b), some (.v (.nd .ow .lst W')), some (.v (.int k)), (some (.v (.tup [(.tup xs), (.tup xs)]))), none, none, none, none] []) (hN : ∀ d ls gh, okD 60 d = true → NE (.v d) (.v d) ls gh = .ok (.v (.bl false)) ls gh)
    {r : SOut} (h9 : S9 [some (.v a), some (.v b), some (.v (.nd .ow .lst W')), some (.v (.int k)), (some (.v (.tup [(.tup xs), (.tup xs)]))), (some (.v (.tup xs))), (some (.v (.tup xs))), none, none] [] = r) :
    eqB S7 S0 S4 S9 NE WH [some (.v a), some (.v b), some (.v (.nd .ow .lst W)), some (.v (.int k)), none, none, none, none, none] [] = r := by
  unfold eqB
  have c0 : ∀ {ls gh r}, S0 ls gh = r → S0 ls gh = r := fun h => h
  have c4 : ∀ {ls gh r}, S4 ls gh = r → S4 ls gh = r := fun h => h
  have c9 : ∀ {ls gh r}, S9 ls gh = r → S9 ls gh = r := fun h => h
  have cN : ∀ {x y ls gh r}, NE x y ls gh = r → NE x y ls gh = r := fun h => h
  repeat (cbv; first | (rw [c0]; rotate_left; exact h0) | (rw [c4]; rotate_left; exact h4) | (rw [cN]; rotate_left; exact hN _ _ _ (by first | rfl | assumption)))
  first | cbv | skip
  rw [c9]; rotate_left; exact h9
  all_goals (cases r <;> rfl)
theorem eqB_tup_ns {e4 e5 e6 e8 : D} (h0 : S0 [some (.v a), some (.v b), some (.v (.nd .ow .lst W)), some (.v (.int k)), none, none, none, none, (some (.v e8))] [] = .nx [some (.v a), some (.v b), some (.v (.nd .ow .lst W)), some (.v (.int k)), none, none, none, none, (some (.v e8))] [])
    (h4 : S4 [some (.v a), some (.v b), some (.v (.nd .ow .lst W)), some (.v (.int k)), none, none, none, none, (some (.v e8))] [] = .nx [some (.v a), some (.v b), some (.v (.nd .ow .lst W')), some (.v (.int k)), (some (.v (.tup [(.tup xs), (.tup xs)]))), none, none, none, (some (.v e8))] []) (hN : ∀ d ls gh, okD 60 d = true → NE (.v d) (.v d) ls gh = .ok (.v (.bl false)) ls gh)
    {r : SOut} (h9 : S9 [some (.v a), some (.v b), some (.v (.nd .ow .lst W')), some (.v (.int k)), (some (.v (.tup [(.tup xs), (.tup xs)]))), (some (.v (.tup xs))), (some (.v (.tup xs))), none, (some (.v e8))] [] = r) :
    eqB S7 S0 S4 S9 NE WH [some (.v a), some (.v b), some (.v (.nd .ow .lst W)), some (.v (.int k)), none, none, none, none, (some (.v e8))] [] = r := by
  unfold eqB
  have c0 : ∀ {ls gh r}, S0 ls gh = r → S0 ls gh = r := fun h => h
  have c4 : ∀ {ls gh r}, S4 ls gh = r → S4 ls gh = r := fun h => h
  have c9 : ∀ {ls gh r}, S9 ls gh = r → S9 ls gh = r := fun h => h
  have cN : ∀ {x y ls gh r}, NE x y ls gh = r → NE x y ls gh = r := fun h => h
  repeat (cbv; first | (rw [c0]; rotate_left; exact h0) | (rw [c4]; rotate_left; exact h4) | (rw [cN]; rotate_left; exact hN _ _ _ (by first | rfl | assumption)))
  first | cbv | skip
  rw [c9]; rotate_left; exact h9
  all_goals (cases r <;> rfl)
theorem eqB_tup_sn {e4 e5 e6 e8 : D} (h0 : S0 [some (.v a), some (.v b), some (.v (.nd .ow .lst W)), some (.v (.int k)), (some (.v e4)), (some (.v e5)), (some (.v e6)), none, none] [] = .nx [some (.v a), some (.v b), some (.v (.nd .ow .lst W)), some (.v (.int k)), (some (.v e4)), (some (.v e5)), (some (.v e6)), none, none] [])
    (h4 : S4 [some (.v a), some (.v b), some (.v (.nd .ow .lst W)), some (.v (.int k)), (some (.v e4)), (some (.v e5)), (some (.v e6)), none, none] [] = .nx [some (.v a), some (.v b), some (.v (.nd .ow .lst W')), some (.v (.int k)), (some (.v (.tup [(.tup xs), (.tup xs)]))), (some (.v e5)), (some (.v e6)), none, none] []) (hN : ∀ d ls gh, okD 60 d = true → NE (.v d) (.v d) ls gh = .ok (.v (.bl false)) ls gh)
    {r : SOut} (h9 : S9 [some (.v a), some (.v b), some (.v (.nd .ow .lst W')), some (.v (.int k)), (some (.v (.tup [(.tup xs), (.tup xs)]))), (some (.v (.tup xs))), (some (.v (.tup xs))), none, none] [] = r) :
    eqB S7 S0 S4 S9 NE WH [some (.v a), some (.v b), some (.v (.nd .ow .lst W)), some (.v (.int k)), (some (.v e4)), (some (.v e5)), (some (.v e6)), none, none] [] = r := by
  unfold eqB
  have c0 : ∀ {ls gh r}, S0 ls gh = r → S0 ls gh = r := fun h => h
  have c4 : ∀ {ls gh r}, S4 ls gh = r → S4 ls gh = r := fun h => h
  have c9 : ∀ {ls gh r}, S9 ls gh = r → S9 ls gh = r := fun h => h
  have cN : ∀ {x y ls gh r}, NE x y ls gh = r → NE x y ls gh = r := fun h => h
  repeat (cbv; first | (rw [c0]; rotate_left; exact h0) | (rw [c4]; rotate_left; exact h4) | (rw [cN]; rotate_left; exact hN _ _ _ (by first | rfl | assumption)))
  first | cbv | skip
  rw [c9]; rotate_left; exact h9
  all_goals (cases r <;> rfl)
theorem eqB_tup_ss {e4 e5 e6 e8 : D} (h0 : S0 [some (.v a), some (.v b), some (.v (.nd .ow .lst W)), some (.v (.int k)), (some (.v e4)), (some (.v e5)), (some (.v e6)), none, (some (.v e8))] [] = .nx [some (.v a), some (.v b), some (.v (.nd .ow .lst W)), some (.v (.int k)), (some (.v e4)), (some (.v e5)), (some (.v e6)), none, (some (.v e8))] [])
    (h4 : S4 [some (.v a), some (.v b), some (.v (.nd .ow .lst W)), some (.v (.int k)), (some (.v e4)), (some (.v e5)), (some (.v e6)), none, (some (.v e8))] [] = .nx [some (.v a), some (.v b), some (.v (.nd .ow .lst W')), some (.v (.int k)), (some (.v (.tup [(.tup xs), (.tup xs)]))), (some (.v e5)), (some (.v e6)), none, (some (.v e8))] []) (hN : ∀ d ls gh, okD 60 d = true → NE (.v d) (.v d) ls gh = .ok (.v (.bl false)) ls gh)
    {r : SOut} (h9 : S9 [some (.v a), some (.v b), some (.v (.nd .ow .lst W')), some (.v (.int k)), (some (.v (.tup [(.tup xs), (.tup xs)]))), (some (.v (.tup xs))), (some (.v (.tup xs))), none, (some (.v e8))] [] = r) :
    eqB S7 S0 S4 S9 NE WH [some (.v a), some (.v b), some (.v (.nd .ow .lst W)), some (.v (.int k)), (some (.v e4)), (some (.v e5)), (some (.v e6)), none, (some (.v e8))] [] = r := by
  unfold eqB
  have c0 : ∀ {ls gh r}, S0 ls gh = r → S0 ls gh = r := fun h => h
  have c4 : ∀ {ls gh r}, S4 ls gh = r → S4 ls gh = r := fun h => h
  have c9 : ∀ {ls gh r}, S9 ls gh = r → S9 ls gh = r := fun h => h
  have cN : ∀ {x y ls gh r}, NE x y ls gh = r → NE x y ls gh = r := fun h => h
  repeat (cbv; first | (rw [c0]; rotate_left; exact h0) | (rw [c4]; rotate_left; exact h4) | (rw [cN]; rotate_left; exact hN _ _ _ (by first | rfl | assumption)))
  first | cbv | skip
  rw [c9]; rotate_left; exact h9
  all_goals (cases r <;> rfl)
theorem eqB_lst_nn {e4 e5 e6 e8 : D} (h0 : S0 [some (.v a), some (.v b), some (.v (.nd .ow .lst W)), some (.v (.int k)), none, none, none, none, none] [] = .nx [some (.v a), some (.v b), some (.v (.nd .ow .lst W)), some (.v (.int k)), none, none, none, none, none] [])
    (h4 : S4 [some (.v a), some (.v b), some (.v (.nd .ow .lst W)), some (.v (.int k)), none, none, none, none, none] [] = .nx [some (.v a), some (.v b), some (.v (.nd .ow .lst W')), some (.v (.int k)), (some (.v (.tup [(.nd .fz .lst xs), (.nd .fz .lst xs)]))), none, none, none, none] []) (hN : ∀ d ls gh, okD 60 d = true → NE (.v d) (.v d) ls gh = .ok (.v (.bl false)) ls gh)
    {r : SOut} (h9 : S9 [some (.v a), some (.v b), some (.v (.nd .ow .lst W')), some (.v (.int k)), (some (.v (.tup [(.nd .fz .lst xs), (.nd .fz .lst xs)]))), (some (.v (.nd .fz .lst xs))), (some (.v (.nd .fz .lst xs))), none, none] [] = r) :
    eqB S7 S0 S4 S9 NE WH [some (.v a), some (.v b), some (.v (.nd .ow .lst W)), some (.v (.int k)), none, none, none, none, none] [] = r := by
  unfold eqB
  have c0 : ∀ {ls gh r}, S0 ls gh = r → S0 ls gh = r := fun h => h
  have c4 : ∀ {ls gh r}, S4 ls gh = r → S4 ls gh = r := fun h => h
  have c9 : ∀ {ls gh r}, S9 ls gh = r → S9 ls gh = r := fun h => h
  have cN : ∀ {x y ls gh r}, NE x y ls gh = r → NE x y ls gh = r := fun h => h
  repeat (cbv; first | (rw [c0]; rotate_left; exact h0) | (rw [c4]; rotate_left; exact h4) | (rw [cN]; rotate_left; exact hN _ _ _ (by first | rfl | assumption)))
  first | cbv | skip
  rw [c9]; rotate_left; exact h9
  all_goals (cases r <;> rfl)
theorem eqB_lst_ns {e4 e5 e6 e8 : D} (h0 : S0 [some (.v a), some (.v b), some (.v (.nd .ow .lst W)), some (.v (.int k)), none, none, none, none, (some (.v e8))] [] = .nx [some (.v a), some (.v b), some (.v (.nd .ow .lst W)), some (.v (.int k)), none, none, none, none, (some (.v e8))] [])
    (h4 : S4 [some (.v a), some (.v b), some (.v (.nd .ow .lst W)), some (.v (.int k)), none, none, none, none, (some (.v e8))] [] = .nx [some (.v a), some (.v b), some (.v (.nd .ow .lst W')), some (.v (.int k)), (some (.v (.tup [(.nd .fz .lst xs), (.nd .fz .lst xs)]))), none, none, none, (some (.v e8))] []) (hN : ∀ d ls gh, okD 60 d = true → NE (.v d) (.v d) ls gh = .ok (.v (.bl false)) ls gh)
    {r : SOut} (h9 : S9 [some (.v a), some (.v b), some (.v (.nd .ow .lst W')), some (.v (.int k)), (some (.v (.tup [(.nd .fz .lst xs), (.nd .fz .lst xs)]))), (some (.v (.nd .fz .lst xs))), (some (.v (.nd .fz .lst xs))), none, (some (.v e8))] [] = r) :
    eqB S7 S0 S4 S9 NE WH [some (.v a), some (.v b), some (.v (.nd .ow .lst W)), some (.v (.int k)), none, none, none, none, (some (.v e8))] [] = r := by
  unfold eqB
  have c0 : ∀ {ls gh r}, S0 ls gh = r → S0 ls gh = r := fun h => h
  have c4 : ∀ {ls gh r}, S4 ls gh = r → S4 ls gh = r := fun h => h
  have c9 : ∀ {ls gh r}, S9 ls gh = r → S9 ls gh = r := fun h => h
  have cN : ∀ {x y ls gh r}, NE x y ls gh = r → NE x y ls gh = r := fun h => h
  repeat (cbv; first | (rw [c0]; rotate_left; exact h0) | (rw [c4]; rotate_left; exact h4) | (rw [cN]; rotate_left; exact hN _ _ _ (by first | rfl | assumption)))
  first | cbv | skip
  rw [c9]; rotate_left; exact h9
  all_goals (cases r <;> rfl)
theorem eqB_lst_sn {e4 e5 e6 e8 : D} (h0 : S0 [some (.v a), some (.v b), some (.v (.nd .ow .lst W)), some (.v (.int k)), (some (.v e4)), (some (.v e5)), (some (.v e6)), none, none] [] = .nx [some (.v a), some (.v b), some (.v (.nd .ow .lst W)), some (.v (.int k)), (some (.v e4)), (some (.v e5)), (some (.v e6)), none, none] [])
    (h4 : S4 [some (.v a), some (.v b), some (.v (.nd .ow .lst W)), some (.v (.int k)), (some (.v e4)), (some (.v e5)), (some (.v e6)), none, none] [] = .nx [some (.v a), some (.v b), some (.v (.nd .ow .lst W')), some (.v (.int k)), (some (.v (.tup [(.nd .fz .lst xs), (.nd .fz .lst xs)]))), (some (.v e5)), (some (.v e6)), none, none] []) (hN : ∀ d ls gh, okD 60 d = true → NE (.v d) (.v d) ls gh = .ok (.v (.bl false)) ls gh)
    {r : SOut} (h9 : S9 [some (.v a), some (.v b), some (.v (.nd .ow .lst W')), some (.v (.int k)), (some (.v (.tup [(.nd .fz .lst xs), (.nd .fz .lst xs)]))), (some (.v (.nd .fz .lst xs))), (some (.v (.nd .fz .lst xs))), none, none] [] = r) :
    eqB S7 S0 S4 S9 NE WH [some (.v a), some (.v b), some (.v (.nd .ow .lst W)), some (.v (.int k)), (some (.v e4)), (some (.v e5)), (some (.v e6)), none, none] [] = r := by
  unfold eqB
  have c0 : ∀ {ls gh r}, S0 ls gh = r → S0 ls gh = r := fun h => h
  have c4 : ∀ {ls gh r}, S4 ls gh = r → S4 ls gh = r := fun h => h
  have c9 : ∀ {ls gh r}, S9 ls gh = r → S9 ls gh = r := fun h => h
  have cN : ∀ {x y ls gh r}, NE x y ls gh = r → NE x y ls gh = r := fun h => h
  repeat (cbv; first | (rw [c0]; rotate_left; exact h0) | (rw [c4]; rotate_left; exact h4) | (rw [cN]; rotate_left; exact hN _ _ _ (by first | rfl | assumption)))
  first | cbv | skip
  rw [c9]; rotate_left; exact h9
  all_goals (cases r <;> rfl)
theorem eqB_lst_ss {e4 e5 e6 e8 : D} (h0 : S0 [some (.v a), some (.v b), some (.v (.nd .ow .lst W)), some (.v (.int k)), (some (.v e4)), (some (.v e5)), (some (.v e6)), none, (some (.v e8))] [] = .nx [some (.v a), some (.v b), some (.v (.nd .ow .lst W)), some (.v (.int k)), (some (.v e4)), (some (.v e5)), (some (.v e6)), none, (some (.v e8))] [])
    (h4 : S4 [some (.v a), some (.v b), some (.v (.nd .ow .lst W)), some (.v (.int k)), (some (.v e4)), (some (.v e5)), (some (.v e6)), none, (some (.v e8))] [] = .nx [some (.v a), some (.v b), some (.v (.nd .ow .lst W')), some (.v (.int k)), (some (.v (.tup [(.nd .fz .lst xs), (.nd .fz .lst xs)]))), (some (.v e5)), (some (.v e6)), none, (some (.v e8))] []) (hN : ∀ d ls gh, okD 60 d = true → NE (.v d) (.v d) ls gh = .ok (.v (.bl false)) ls gh)
    {r : SOut} (h9 : S9 [some (.v a), some (.v b), some (.v (.nd .ow .lst W')), some (.v (.int k)), (some (.v (.tup [(.nd .fz .lst xs), (.nd .fz .lst xs)]))), (some (.v (.nd .fz .lst xs))), (some (.v (.nd .fz .lst xs))), none, (some (.v e8))] [] = r) :
    eqB S7 S0 S4 S9 NE WH [some (.v a), some (.v b), some (.v (.nd .ow .lst W)), some (.v (.int k)), (some (.v e4)), (some (.v e5)), (some (.v e6)), none, (some (.v e8))] [] = r := by
  unfold eqB
  have c0 : ∀ {ls gh r}, S0 ls gh = r → S0 ls gh = r := fun h => h
  have c4 : ∀ {ls gh r}, S4 ls gh = r → S4 ls gh = r := fun h => h
  have c9 : ∀ {ls gh r}, S9 ls gh = r → S9 ls gh = r := fun h => h
  have cN : ∀ {x y ls gh r}, NE x y ls gh = r → NE x y ls gh = r := fun h => h
  repeat (cbv; first | (rw [c0]; rotate_left; exact h0) | (rw [c4]; rotate_left; exact h4) | (rw [cN]; rotate_left; exact hN _ _ _ (by first | rfl | assumption)))
  first | cbv | skip
  rw [c9]; rotate_left; exact h9
  all_goals (cases r <;> rfl)
end
end VL
set_option Elab.async false
set_option linter.all false
set_option maxRecDepth 100000
set_option maxHeartbeats 1000000
namespace VL
open GL (PV OB Sto Nm BT lim)
open PySem (PyData)
abbrev pairD (d : D) : D := .tup [d, d]
abbrev LSq (a b : D) (W : List D) (z3 z4 z5 z6 z8 : Option V) : Ls := [some (.v a), some (.v b), some (.v (.nd .ow .lst W)), z3, z4, z5, z6, none, z8]
def okA (z : Option V) : Prop := z = none ∨ ∃ d, z = some (.v d)
theorem okA_killR {z : Option V} (h : okA z) (i : Nat) : killR i z = z := by
  rcases h with rfl | ⟨d, rfl⟩ <;> rfl
theorem okA_killD {z : Option V} (h : okA z) (t : List Nat → Bool) (r : Rt) (p : List Nat) : killD t r p z = z := by
  rcases h with rfl | ⟨d, rfl⟩ <;> rfl
theorem okA_v (d : D) : okA (some (.v d)) := .inr ⟨d, rfl⟩
section
variable {a b p : D} {W : List D} {z3 z4 z5 z6 z8 : Option V}
theorem lsq2 : eVar 2 (LSq a b W z3 z4 z5 z6 z8) [] = .ok (.pth (.l 2) []) (LSq a b W z3 z4 z5 z6 z8) [] := eVar_o rfl rfl
theorem lsqA : atD (LSq a b W z3 z4 z5 z6 z8) [] (.l 2) [] = some (.nd .ow .lst W) := atD_l rfl
theorem s0_done : (sIf (toT (eOp gEq (eB fLen (aCons (eVar 2) aNil)) (eC (.int 0)))) (sRet (eC (.bl true))) sNil) (LSq a b [] z3 z4 z5 z6 z8) [] = .rt (.bl true) [] := by
  have h := lsq2 (a := a) (b := b) (W := []) (z3 := z3) (z4 := z4) (z5 := z5) (z6 := z6) (z8 := z8)
  have h2 := f1Len_p (lsqA (a := a) (b := b) (W := []) (z3 := z3) (z4 := z4) (z5 := z5) (z6 := z6) (z8 := z8))
  simp only [LSq] at h h2
  simp [sIf_ap, h, h2, sRet_ap, retV]
theorem s0_ok (hw : W ≠ []) : (sIf (toT (eOp gEq (eB fLen (aCons (eVar 2) aNil)) (eC (.int 0)))) (sRet (eC (.bl true))) sNil) (LSq a b W z3 z4 z5 z6 z8) [] = .nx (LSq a b W z3 z4 z5 z6 z8) [] := by
  have h := lsq2 (a := a) (b := b) (W := W) (z3 := z3) (z4 := z4) (z5 := z5) (z6 := z6) (z8 := z8)
  have h2 := f1Len_p (lsqA (a := a) (b := b) (W := W) (z3 := z3) (z4 := z4) (z5 := z5) (z6 := z6) (z8 := z8))
  simp only [LSq] at h h2
  simp [sIf_ap, h, h2, hw]
theorem s4_ok (hp : p.shr = true) (h3 : okA z3) (h4 : okA z4) (h5 : okA z5) (h6 : okA z6) (h8 : okA z8) : (sSet 4 (eMt kList mPop (eVar 2) aNil)) (LSq a b (W ++ [p]) z3 z4 z5 z6 z8) [] = .nx (LSq a b W z3 (some (.v p)) z5 z6 z8) [] := by
  have h := lsq2 (a := a) (b := b) (W := W ++ [p]) (z3 := z3) (z4 := z4) (z5 := z5) (z6 := z6) (z8 := z8)
  have h2 := lsqA (a := a) (b := b) (W := W ++ [p]) (z3 := z3) (z4 := z4) (z5 := z5) (z6 := z6) (z8 := z8)
  have e : mPop (.pth (.l 2) []) [] (LSq a b (W ++ [p]) z3 z4 z5 z6 z8) [] = .ok (.v p) (LSq a b W z3 z4 z5 z6 z8) [] := by
    unfold mPop
    simp only [h2]
    rw [show (W ++ [p])[(W ++ [p]).length - 1]? = some p by simp]
    simp only [wroteV]
    rw [chD_l (d0 := .nd .ow .lst (W ++ [p])) rfl]
    simp [setP, modN, putV, okA_killD h3, okA_killD h4, okA_killD h5, okA_killD h6, okA_killD h8, LSq]
  simp only [LSq] at h h2 e
  simp [sSet_ap, eMt, h, val, h2, e, setL, stD, okA_killR h3, okA_killR h5, okA_killR h6, okA_killR h8]
theorem append_ok {q x : D} (hl : W.length < lim) (hq : q.shr = true) (h3 : okA z3) (h4 : okA z4) (h5 : okA z5) (h6 : okA z6) (h8 : okA z8) : mAppend (.pth (.l 2) []) [.v q] (LSq a b W z3 z4 z5 z6 z8) [] = .ok (.v .non) (LSq a b (W ++ [q]) z3 z4 z5 z6 z8) [] := by
  rw [mAppend_l (xs := W) rfl hl]
  simp [modN, putV, okA_killD h3, okA_killD h4, okA_killD h5, okA_killD h6, okA_killD h8, LSq]
theorem frz_self {d : D} (h : d.shr = true) : D.frz d = some d := by
  have := frzs_shr (xs := [d]) (by simp [h])
  unfold D.frzs at this
  cases e : D.frz d with
  | none => rw [e] at this; cases this
  | some y =>
    rw [e] at this
    simp [D.frzs] at this
    rw [this]
theorem s9_ok {d : D} {xs : List D} (hx : ∀ (i : Nat) (y : D), xs[i]? = some y → ∀ ls gh, gIx (.v d) (.v (.sc (.int (i : Int)))) ls gh = .ok (.v y) ls gh) (hn : ∀ ls gh, f1Len (.v d) ls gh = .ok (.v (.int (xs.length : Int))) ls gh) (hd : d.shr = true) (hs : xs.all D.shr = true)
    (hp : okA z4) (h3 : okA z3) (h8 : okA z8) (hl : W.length + xs.length < lim) : ∃ y8, okA y8 ∧
    (sFor (iR1 (eB fLen (aCons (eVar 6) aNil))) (gN 8)
      (sExpr (eMt kList mAppend (eVar 2) (aCons (eTup (aCons (eOp gIx (eVar 5) (eVar 8)) (aCons (eOp gIx (eVar 6) (eVar 8)) aNil))) aNil)))) (LSq a b W z3 z4 (some (.v d)) (some (.v d)) z8) [] = .nx (LSq a b (W ++ xs.map pairD) z3 z4 (some (.v d)) (some (.v d)) y8) [] := by
  have lim' : lim = 100000 := rfl
  have hr : iR1 (eB fLen (aCons (eVar 6) aNil)) (LSq a b W z3 z4 (some (.v d)) (some (.v d)) z8) [] = .ok (rngD 0 (xs.length : Int)) (LSq a b W z3 z4 (some (.v d)) (some (.v d)) z8) [] := by
    refine iR1_of ?_ (by omega)
    have e6 : eVar 6 (LSq a b W z3 z4 (some (.v d)) (some (.v d)) z8) [] = .ok (.v d) (LSq a b W z3 z4 (some (.v d)) (some (.v d)) z8) [] := eVar_v rfl hd
    simp only [LSq] at e6
    simp [e6, hn]
  rw [sFor_of hr, rng0]
  obtain ⟨ls', gh', e, y8, k8, rfl, rfl⟩ := forV_inv (g := gN 8) (body := (sExpr (eMt kList mAppend (eVar 2) (aCons (eTup (aCons (eOp gIx (eVar 5) (eVar 8)) (aCons (eOp gIx (eVar 6) (eVar 8)) aNil))) aNil)))) (fun i ls gh => ∃ y8, okA y8 ∧ ls = LSq a b (W ++ (xs.take i).map pairD) z3 z4 (some (.v d)) (some (.v d)) y8 ∧ gh = []) ((List.range xs.length).map fun (i : Nat) => D.int (i : Int)) 0 (LSq a b W z3 z4 (some (.v d)) (some (.v d)) z8) [] (fun j x ls gh hj => by
    rintro ⟨y8, k8, rfl, rfl⟩
    have hj' : j < xs.length := by
      have := (List.getElem?_eq_some_iff.mp hj).1
      simpa using this
    have hx' : x = .int (j : Int) := by
      rw [List.getElem?_map, List.getElem?_range hj'] at hj
      exact (Option.some.inj hj).symm
    subst hx'
    obtain ⟨y, hy⟩ : ∃ y, xs[j]? = some y := ⟨xs[j], List.getElem?_eq_getElem hj'⟩
    have hys : y.shr = true := List.all_eq_true.mp hs y (List.mem_of_getElem? hy)
    refine ⟨(LSq a b (W ++ (xs.take (0 + j)).map pairD) z3 z4 (some (.v d)) (some (.v d)) (some (.v (.int (j : Int)))), []), ?_, LSq a b (W ++ (xs.take (0 + j + 1)).map pairD) z3 z4 (some (.v d)) (some (.v d)) (some (.v (.int (j : Int)))), [], .inl ?_, _, okA_v _, rfl, rfl⟩
    · simp [gN, setL, stD, LSq, okA_killR h3, okA_killR hp]
    · dsimp only
      have W' : (W ++ (xs.take (0 + j)).map pairD).length < lim := by simp; omega
      have et : xs.take (0 + j + 1) = xs.take (0 + j) ++ [y] := by
        rw [Nat.zero_add, List.take_succ, hy]; rfl
      rw [et, List.map_append, ← List.append_assoc]
      generalize W ++ (xs.take (0 + j)).map pairD = WW at W' ⊢
      have ha := append_ok (a := a) (b := b) (W := WW) (q := pairD y) (x := y) (z3 := z3) (z4 := z4) (z5 := some (.v d)) (z6 := some (.v d)) (z8 := some (.v (.int (j : Int)))) W' rfl h3 hp (okA_v _) (okA_v _) (okA_v _)
      have h2 := lsq2 (a := a) (b := b) (W := WW) (z3 := z3) (z4 := z4) (z5 := some (.v d)) (z6 := some (.v d)) (z8 := some (.v (.int (j : Int))))
      have hA := lsqA (a := a) (b := b) (W := WW) (z3 := z3) (z4 := z4) (z5 := some (.v d)) (z6 := some (.v d)) (z8 := some (.v (.int (j : Int))))
      have e5 : eVar 5 (LSq a b WW z3 z4 (some (.v d)) (some (.v d)) (some (.v (.int (j : Int))))) [] = .ok (.v d) (LSq a b WW z3 z4 (some (.v d)) (some (.v d)) (some (.v (.int (j : Int))))) [] := eVar_v rfl hd
      have e6 : eVar 6 (LSq a b WW z3 z4 (some (.v d)) (some (.v d)) (some (.v (.int (j : Int))))) [] = .ok (.v d) (LSq a b WW z3 z4 (some (.v d)) (some (.v d)) (some (.v (.int (j : Int))))) [] := eVar_v rfl hd
      have e8 : eVar 8 (LSq a b WW z3 z4 (some (.v d)) (some (.v d)) (some (.v (.int (j : Int))))) [] = .ok (.v (.int (j : Int))) (LSq a b WW z3 z4 (some (.v d)) (some (.v d)) (some (.v (.int (j : Int))))) [] := eVar_v rfl rfl
      have eg := hx j y hy
      have ef := frz_self hys
      have lim2 : (2 : Nat) ≤ lim := by omega
      simp only [LSq] at ha h2 hA e5 e6 e8
      simp [sExpr_ap, eMt, h2, val, hA, eTup, e5, e6, e8, eg, cvL, cvR, ef, lim2, ha, pairD]) ⟨z8, h8, by simp, rfl⟩
  refine ⟨y8, k8, ?_⟩
  rw [e]
  simp
end
theorem sum_app (L M : List (Nat × D)) : ((L ++ M).map fun q => szD q.1 q.2).sum = (L.map fun q => szD q.1 q.2).sum + (M.map fun q => szD q.1 q.2).sum := by
  rw [List.map_append, List.sum_append]
theorem szD_pos (f : Nat) (d : D) : 1 ≤ szD f d := by
  cases f with
  | zero => exact Nat.le_refl 1
  | succ f => cases d <;> simp [szD] <;> omega
theorem len_le (L : List (Nat × D)) : L.length ≤ (L.map fun q => szD q.1 q.2).sum := by
  induction L with
  | nil => exact Nat.le_refl 0
  | cons q r ih => have := szD_pos q.1 q.2; simp; omega
theorem ne_ok : ∀ d ls gh, okD 60 d = true → gNe (.v d) (.v d) ls gh = .ok (.v (.bl false)) ls gh := fun d ls gh h => same_ok rfl rfl h
theorem whole_ok : ∀ i : Int, f_whole [.v (.int i)] [] = .ok (.bl true) [] := fun i => by kernel_rfl
def okZ (z4 z5 z6 : Option V) : Prop := (z4 = none ∧ z5 = none ∧ z6 = none) ∨ ∃ e4 e5 e6, z4 = some (.v e4) ∧ z5 = some (.v e5) ∧ z6 = some (.v e6)
theorem okZ4 {z4 z5 z6 : Option V} (h : okZ z4 z5 z6) : okA z4 ∧ okA z5 ∧ okA z6 := by
  rcases h with ⟨rfl, rfl, rfl⟩ | ⟨e4, e5, e6, rfl, rfl, rfl⟩
  · exact ⟨.inl rfl, .inl rfl, .inl rfl⟩
  · exact ⟨okA_v _, okA_v _, okA_v _⟩
theorem eq_run {S7 : MS} (a b : D) : ∀ (js : List D) (L : List (Nat × D)) (z3 z4 z5 z6 z8 : Option V), (∀ j ∈ js, ∃ i : Int, j = .int i) → okA z3 → okZ z4 z5 z6 → okA z8 → (∀ q ∈ L, plD q.1 q.2 = true) →
    (L.map fun q => szD q.1 q.2).sum < js.length → js.length ≤ 6000 → forV (gN 3) (eqBodyG S7) js (LSq a b (L.map fun q => pairD q.2) z3 z4 z5 z6 z8) [] = .rt (.bl true) []
  | [], L, z3, z4, z5, z6, z8, _, _, _, _, _, h, _ => absurd h (Nat.not_lt_zero _)
  | j :: r, L, z3, z4, z5, z6, z8, hj, h3, hz, h8, hL, hs, hn => by
    obtain ⟨k, rfl⟩ := hj j List.mem_cons_self
    have hr : ∀ j ∈ r, ∃ i : Int, j = .int i := fun j h => hj j (List.mem_cons_of_mem _ h)
    obtain ⟨h4, h5, h6⟩ := okZ4 hz
    have hg : gN 3 (.v (.int k)) (LSq a b (L.map fun q => pairD q.2) z3 z4 z5 z6 z8) [] = some (LSq a b (L.map fun q => pairD q.2) (some (.v (.int k))) z4 z5 z6 z8, []) := by
      simp [gN, setL, stD, LSq, okA_killR h4, okA_killR h5, okA_killR h6, okA_killR h8]
    rw [forV_cons hg]
    dsimp only
    rcases List.eq_nil_or_concat L with rfl | ⟨L', ⟨f, d⟩, rfl⟩
    · have e : (eqBodyG S7) (LSq a b ([].map fun (q : Nat × D) => pairD q.2) (some (.v (.int k))) z4 z5 z6 z8) [] = .rt (.bl true) [] := by
        unfold eqBodyG
        rw [sSeq_ap, List.map_nil, s0_done]; rfl
      rw [e]; rfl
    · rw [List.concat_eq_append] at hL hs ⊢
      have hd : plD f d = true := hL (f, d) (List.mem_append_right _ (List.mem_singleton.mpr rfl))
      have hL' : ∀ q ∈ L', plD q.1 q.2 = true := fun q hq => hL q (List.mem_append_left _ hq)
      rw [sum_app] at hs
      have hs1 : (L'.map fun q => szD q.1 q.2).sum + szD f d < r.length + 1 := by simpa using hs
      have hn1 : r.length + 1 ≤ 6000 := by simpa using hn
      have hWW : ((L' ++ [(f, d)]).map fun q => pairD q.2) = (L'.map fun q => pairD q.2) ++ [pairD d] := by simp
      rw [hWW]
      have e0 := s0_ok (a := a) (b := b) (W := (L'.map fun q => pairD q.2) ++ [pairD d]) (z3 := some (.v (.int k))) (z4 := z4) (z5 := z5) (z6 := z6) (z8 := z8) (by simp)
      have e4 := s4_ok (a := a) (b := b) (p := pairD d) (W := L'.map fun q => pairD q.2) (z3 := some (.v (.int k))) (z4 := z4) (z5 := z5) (z6 := z6) (z8 := z8) rfl (okA_v _) h4 h5 h6 h8
      have fin : ∀ y8, okA y8 → forV (gN 3) (eqBodyG S7) r (LSq a b (L'.map fun q => pairD q.2) (some (.v (.int k))) (some (.v (pairD d))) (some (.v d)) (some (.v d)) y8) [] = .rt (.bl true) [] := fun y8 hy =>
        eq_run (S7 := S7) a b r L' _ _ _ _ _ hr (okA_v _) (.inr ⟨_, _, _, rfl, rfl, rfl⟩) hy hL' (by have := szD_pos f d; omega) (by omega)
      have lim' : lim = 100000 := rfl
      have seq : ∀ xs : List D, (∀ x ∈ xs, plD (f - 1) x = true) → szD f d = 1 + (xs.map (szD (f - 1))).sum → (∀ (i : Nat) (y : D), xs[i]? = some y → ∀ ls gh, gIx (.v d) (.v (.sc (.int (i : Int)))) ls gh = .ok (.v y) ls gh) → (∀ ls gh, f1Len (.v d) ls gh = .ok (.v (.int (xs.length : Int))) ls gh) →
          (∀ R : SOut, (sFor (iR1 (eB fLen (aCons (eVar 6) aNil))) (gN 8)
      (sExpr (eMt kList mAppend (eVar 2) (aCons (eTup (aCons (eOp gIx (eVar 5) (eVar 8)) (aCons (eOp gIx (eVar 6) (eVar 8)) aNil))) aNil)))) (LSq a b (L'.map fun q => pairD q.2) (some (.v (.int k))) (some (.v (pairD d))) (some (.v d)) (some (.v d)) z8) [] = R → (eqBodyG S7) (LSq a b ((L'.map fun q => pairD q.2) ++ [pairD d]) (some (.v (.int k))) z4 z5 z6 z8) [] = R) →
          loopK ((eqBodyG S7) (LSq a b ((L'.map fun q => pairD q.2) ++ [pairD d]) (some (.v (.int k))) z4 z5 z6 z8) []) (forV (gN 3) (eqBodyG S7) r) = .rt (.bl true) [] := fun xs hx hsz hix hlen hB => by
        have hxs : xs.all D.shr = true := List.all_eq_true.mpr fun x hxm => plD_shr (hx x hxm)
        have hll := len_le L'
        have hxl : xs.length ≤ (xs.map (szD (f - 1))).sum := by
          have := len_le (xs.map fun x => (f - 1, x))
          simpa [Function.comp_def] using this
        obtain ⟨y8, k8, e9⟩ := s9_ok (a := a) (b := b) (d := d) (xs := xs) (W := L'.map fun q => pairD q.2) (z3 := some (.v (.int k))) (z4 := some (.v (pairD d))) (z8 := z8) hix hlen (plD_shr hd) hxs (okA_v _) (okA_v _) h8 (by rw [List.length_map]; omega)
        rw [hB _ e9, loopK_nx]
        have hm : (L'.map fun q => pairD q.2) ++ xs.map pairD = (L' ++ xs.map fun x => (f - 1, x)).map fun q => pairD q.2 := by simp [Function.comp_def]
        rw [hm]
        refine eq_run (S7 := S7) a b r (L' ++ xs.map fun x => (f - 1, x)) _ _ _ _ _ hr (okA_v _) (.inr ⟨_, _, _, rfl, rfl, rfl⟩) k8 (fun q hq => ?_) ?_ (by omega)
        · rcases List.mem_append.mp hq with h | h
          · exact hL' q h
          · obtain ⟨x, hx1, rfl⟩ := List.mem_map.mp h
            exact hx x hx1
        · rw [sum_app]
          have : ((xs.map fun x => (f - 1, x)).map fun (q : Nat × D) => szD q.1 q.2) = xs.map (szD (f - 1)) := by simp [Function.comp_def]
          rw [this]
          omega
      cases f with
      | zero => cases hd
      | succ f =>
        have big : ∀ {R : SOut}, eqB S7 (sIf (toT (eOp gEq (eB fLen (aCons (eVar 2) aNil)) (eC (.int 0)))) (sRet (eC (.bl true))) sNil) (sSet 4 (eMt kList mPop (eVar 2) aNil)) (sFor (iR1 (eB fLen (aCons (eVar 6) aNil))) (gN 8)
            (sExpr (eMt kList mAppend (eVar 2) (aCons (eTup (aCons (eOp gIx (eVar 5) (eVar 8)) (aCons (eOp gIx (eVar 6) (eVar 8)) aNil))) aNil)))) gNe f_whole (LSq a b ((L'.map fun q => pairD q.2) ++ [pairD d]) (some (.v (.int k))) z4 z5 z6 z8) [] = R → (eqBodyG S7) (LSq a b ((L'.map fun q => pairD q.2) ++ [pairD d]) (some (.v (.int k))) z4 z5 z6 z8) [] = R := fun h => h
        cases d with
        | sc s =>
          have scal : ∀ {R : SOut}, R = .nx (LSq a b (L'.map fun q => pairD q.2) (some (.v (.int k))) (some (.v (pairD (.sc s)))) (some (.v (.sc s))) (some (.v (.sc s))) z8) [] → loopK R (forV (gN 3) (eqBodyG S7) r) = .rt (.bl true) [] := fun h => by
            rw [h, loopK_nx]; exact fin _ h8
          refine scal (big ?_)
          cases s with
          | non =>
            rcases hz with ⟨rfl, rfl, rfl⟩ | ⟨d4, d5, d6, rfl, rfl, rfl⟩ <;> rcases h8 with rfl | ⟨d8, rfl⟩
            · exact eqB_non_nn (e4 := .non) (e5 := .non) (e6 := .non) (e8 := .non) e0 e4 ne_ok whole_ok
            · exact eqB_non_ns (e4 := .non) (e5 := .non) (e6 := .non) e0 e4 ne_ok whole_ok
            · exact eqB_non_sn (e8 := .non) e0 e4 ne_ok whole_ok
            · exact eqB_non_ss e0 e4 ne_ok whole_ok
          | bl q =>
            rcases hz with ⟨rfl, rfl, rfl⟩ | ⟨d4, d5, d6, rfl, rfl, rfl⟩ <;> rcases h8 with rfl | ⟨d8, rfl⟩
            · exact eqB_bl_nn (e4 := .non) (e5 := .non) (e6 := .non) (e8 := .non) e0 e4 ne_ok whole_ok
            · exact eqB_bl_ns (e4 := .non) (e5 := .non) (e6 := .non) e0 e4 ne_ok whole_ok
            · exact eqB_bl_sn (e8 := .non) e0 e4 ne_ok whole_ok
            · exact eqB_bl_ss e0 e4 ne_ok whole_ok
          | int q =>
            rcases hz with ⟨rfl, rfl, rfl⟩ | ⟨d4, d5, d6, rfl, rfl, rfl⟩ <;> rcases h8 with rfl | ⟨d8, rfl⟩
            · exact eqB_int_nn (e4 := .non) (e5 := .non) (e6 := .non) (e8 := .non) e0 e4 ne_ok whole_ok
            · exact eqB_int_ns (e4 := .non) (e5 := .non) (e6 := .non) e0 e4 ne_ok whole_ok
            · exact eqB_int_sn (e8 := .non) e0 e4 ne_ok whole_ok
            · exact eqB_int_ss e0 e4 ne_ok whole_ok
          | str q =>
            have hq : okD 60 (.str q) = true := hd
            rcases hz with ⟨rfl, rfl, rfl⟩ | ⟨d4, d5, d6, rfl, rfl, rfl⟩ <;> rcases h8 with rfl | ⟨d8, rfl⟩
            · exact eqB_str_nn (e4 := .non) (e5 := .non) (e6 := .non) (e8 := .non) hq e0 e4 ne_ok whole_ok
            · exact eqB_str_ns (e4 := .non) (e5 := .non) (e6 := .non) hq e0 e4 ne_ok whole_ok
            · exact eqB_str_sn (e8 := .non) hq e0 e4 ne_ok whole_ok
            · exact eqB_str_ss hq e0 e4 ne_ok whole_ok
          | ty b => cases hd
          | gl x => cases hd
        | tup xs =>
          have hx : ∀ x ∈ xs, plD f x = true := fun x hx => List.all_eq_true.mp hd x hx
          refine seq xs hx rfl (fun i y hy ls gh => gIx_tup hy (plD_shr (hx y (List.mem_of_getElem? hy)))) (fun ls gh => rfl) fun R h9 => big ?_
          rcases hz with ⟨rfl, rfl, rfl⟩ | ⟨d4, d5, d6, rfl, rfl, rfl⟩ <;> rcases h8 with rfl | ⟨d8, rfl⟩
          · exact eqB_tup_nn (e4 := .non) (e5 := .non) (e6 := .non) (e8 := .non) e0 e4 ne_ok h9
          · exact eqB_tup_ns (e4 := .non) (e5 := .non) (e6 := .non) e0 e4 ne_ok h9
          · exact eqB_tup_sn (e8 := .non) e0 e4 ne_ok h9
          · exact eqB_tup_ss e0 e4 ne_ok h9
        | nd fl hd' xs =>
          cases fl with
          | fz =>
            cases hd' with
            | lst =>
              have hx : ∀ x ∈ xs, plD f x = true := fun x hx => List.all_eq_true.mp hd x hx
              refine seq xs hx rfl (fun i y hy ls gh => gIx_lst hy (plD_shr (hx y (List.mem_of_getElem? hy)))) (fun ls gh => rfl) fun R h9 => big ?_
              rcases hz with ⟨rfl, rfl, rfl⟩ | ⟨d4, d5, d6, rfl, rfl, rfl⟩ <;> rcases h8 with rfl | ⟨d8, rfl⟩
              · exact eqB_lst_nn (e4 := .non) (e5 := .non) (e6 := .non) (e8 := .non) e0 e4 ne_ok h9
              · exact eqB_lst_ns (e4 := .non) (e5 := .non) (e6 := .non) e0 e4 ne_ok h9
              · exact eqB_lst_sn (e8 := .non) e0 e4 ne_ok h9
              · exact eqB_lst_ss e0 e4 ne_ok h9
            | _ => cases hd
          | ow => cases hd' <;> cases hd
          | lk => cases hd' <;> cases hd
theorem equal_ok {S7 : MS} {f : Nat} {d : D} (h : plD f d = true) (hs : szD f d < 6000) : f_equalG S7 [.v d, .v d] [] = .ok (.bl true) [] := by
  refine fnOf_rt (gh := []) rfl ?_ rfl
  have hd := plD_shr h
  have ef := frz_self hd
  have e0 : ∀ l gh, eVar 0 (some (.v d) :: l) gh = .ok (.v d) (some (.v d) :: l) gh := fun l gh => eVar_v rfl hd
  have e1 : ∀ x l gh, eVar 1 (x :: some (.v d) :: l) gh = .ok (.v d) (x :: some (.v d) :: l) gh := fun x l gh => eVar_v rfl hd
  have l2 : (2 : Nat) ≤ lim := by decide
  have l1 : (1 : Nat) ≤ lim := by decide
  have es : (sSet 2 (eLst (aCons (eTup (aCons (eVar 0) (aCons (eVar 1) aNil))) aNil))) [some (.v d), some (.v d), none, none, none, none, none, none, none] [] = .nx (LSq d d [pairD d] none none none none none) [] := by
    simp [sSet_ap, eLst, eTup, e0, e1, cvL, cvR, ef, l2, l1, setL, stD, LSq, pairD, D.frz]
  show m_equalG S7 [some (.v d), some (.v d), none, none, none, none, none, none, none] [] = _
  unfold m_equalG
  rw [sSeq_ap, es, seq_nx, sSeq_ap]
  have hr : iR1 (eC (.int 6000)) (LSq d d [pairD d] none none none none none) [] = .ok (rngD 0 (6000 : Nat)) (LSq d d [pairD d] none none none none none) [] := iR1_of (n := 6000) rfl (by decide)
  rw [sFor_of hr, rng0]
  have   := eq_run (S7 := S7) d d ((List.range 6000).map fun (i : Nat) => D.int (i : Int)) [(f, d)] none none none none none (fun j hj => by
    obtain ⟨i, _, rfl⟩ := List.mem_map.mp hj
    exact ⟨_, rfl⟩) (.inl rfl) (.inl ⟨rfl, rfl, rfl⟩) (.inl rfl) (fun q hq => by
    rw [List.mem_singleton.mp hq]; exact h) (by simpa using hs) (by simp)
  rw [show [pairD d] = [(f, d)].map fun (q : Nat × D) => pairD q.2 from rfl, this]
  rfl
end VL
set_option Elab.async false
set_option linter.all false
set_option maxRecDepth 100000
set_option maxHeartbeats 1000000
namespace VL
open GL (PV OB Sto Nm BT lim)
end VL
set_option Elab.async false
set_option linter.all false
namespace K44.M
abbrev Nm := List Nat
abbrev bad : Nm := [98, 97, 100]
abbrev Row := Nm × Nm × Nm
abbrev Dt (α : Type) := List (Nm × α)
def get {α : Type} : Dt α → Nm → Option α
  | [], _ => none
  | q :: r, k => if q.1 = k then some q.2 else get r k
def put {α : Type} : Dt α → Nm → α → Dt α
  | [], k, v => [(k, v)]
  | q :: r, k, v => if q.1 = k then (q.1, v) :: r else q :: put r k v
theorem nodup_sub {α : Type} [DecidableEq α] : ∀ {l m : List α}, l.Nodup → (∀ x ∈ l, x ∈ m) → l.length ≤ m.length
  | [], m, _, _ => Nat.zero_le _
  | a :: l, m, hn, hs => by
    have hn := List.nodup_cons.mp hn
    have ha : a ∈ m := hs a List.mem_cons_self
    have := nodup_sub (l := l) (m := m.erase a) hn.2 fun x hx => (List.mem_erase_of_ne (fun e => hn.1 (by rw [← e]; exact hx))).mpr (hs x (List.mem_cons_of_mem _ hx))
    rw [List.length_erase_of_mem ha] at this
    have := List.length_pos_of_mem ha
    rw [List.length_cons]; omega
end K44.M
set_option Elab.async false
set_option linter.all false
namespace K44.M
def mv (R : List Row) (s : Nm) : List (Nm × Nm) := R.filterMap fun r => if r.1 = s then some r.2 else none
def nxt (F : Nm → Option Nat) (R : List Row) (n : Nat) (s : Nm) : Option (Nm × Nm) := (mv R s).find? fun p => decide (F p.2 = some n)
def W (F : Nm → Option Nat) (R : List Row) : Nat → Nm → List Nm
  | 0, _ => []
  | n + 1, s => match nxt F R n s with
    | some p => p.1 :: W F R n p.2
    | none => []
abbrev Ws := List (Nm × List Nm)
end K44.M
set_option Elab.async false
set_option linter.all false
set_option maxRecDepth 100000
set_option maxHeartbeats 4000000
set_option cbv.maxSteps 1000000
set_option pp.maxSteps 400
namespace VL
open GL (PV)
open K44
variable {α : Type}
def Nd (d : M.Dt α) : Prop := (d.map (·.1)).Nodup
section
variable {ls gh : Ls} {a b : PE} {x y : RV} {t u : PT} {m1 m2 : MS} {k : Bool}
theorem op_of {g : G2} {r : Out RV} (ha : a ls gh = .ok x ls gh) (hb : b ls gh = .ok y ls gh) (h : g x y ls gh = r) : eOp g a b ls gh = r := by rw [eOp_ap, ha, bind_ok, hb, bind_ok, h]
theorem toT_of (ha : a ls gh = .ok (.v (.bl k)) ls gh) : toT a ls gh = .ok k ls gh := by rw [toT_ap, ha]; rfl
theorem or_go (h : t ls gh = .ok false ls gh) (h2 : u ls gh = .ok k ls gh) : tOrM t u ls gh = .ok k ls gh := by rw [tOrM_ap, h]; exact h2
theorem if_yes (h : t ls gh = .ok true ls gh) : sIf t m1 m2 ls gh = m1 ls gh := by rw [sIf_ap, h]; rfl
theorem if_no (h : t ls gh = .ok false ls gh) : sIf t m1 m2 ls gh = m2 ls gh := by rw [sIf_ap, h]; rfl
theorem seq_of {ls2 gh2 : Ls} (h : m1 ls gh = .nx ls2 gh2) : sSeq m1 m2 ls gh = m2 ls2 gh2 := by rw [sSeq_ap, h]; rfl
end
section
variable {fn : MF} {dws : List PV} {args : PA} {ls gh ls1 gh1 ls2 gh2 : Ls} {xs : List RV} {ds : List D} {r d : D} {o : PE} {x : RV} {C m : GL.Nm}
theorem call_of (ha : args ls gh = .ok xs ls1 gh1) (hc : cvL true xs ls1 gh1 = some (ds, ls2, gh2)) {ios : List D} (hf : fn ((ds ++ dOfs dws).map .v) [] = .ok r ios) : eCall fn dws args ls gh = .ok (.v r) ls2 gh2 := by
  unfold eCall
  rw [ha, bind_ok, hc]
  show callD fn ((ds ++ dOfs dws).map .v) ls2 gh2 = _
  unfold callD
  rw [hf]
end
section
variable {ls gh ls1 gh1 : Ls}
theorem iSeq_o {m : PE} {xs : List D} (h : m ls gh = .ok (.v (.nd .ow .lst xs)) ls1 gh1) (hz : D.frzs xs = some xs) : iSeq m ls gh = .ok xs ls1 gh1 := by
  unfold iSeq
  rw [h, bind_ok]
  unfold kSeq frzSeq
  have e : D.frz (.nd .ow .lst xs) = some (.nd .fz .lst xs) := by simp [D.frz, hz]
  simp only [cvR]
  rw [if_neg (by decide), e]
  rfl
theorem shrK_s {x : RV} {xs : List D} (h : xs.all D.shr = true) : shrK x xs = some xs := by unfold shrK; rw [if_pos h]
theorem add_vv {k k' : Fl} {a b : List D} (sa : a.all D.shr = true) (sb : b.all D.shr = true) (hl : a.length + b.length ≤ 10000) : gAdd (.v (.nd k .lst a)) (.v (.nd k' .lst b)) ls gh = .ok (.v (.nd .ow .lst (a ++ b))) ls gh := by
  have hlim : a.length + b.length ≤ GL.lim := by
    have : GL.lim = 100000 := rfl
    omega
  have h1 : lstK (.v (.nd k .lst a)) ls gh = some a := by
    have hs : seqV (.v (.nd k .lst a)) ls gh = some (.lst, a) := rfl
    unfold lstK
    rw [hs]
    exact shrK_s sa
  have h2 : lstK (.v (.nd k' .lst b)) ls gh = some b := by
    have hs : seqV (.v (.nd k' .lst b)) ls gh = some (.lst, b) := rfl
    unfold lstK
    rw [hs]
    exact shrK_s sb
  show (match lstK (.v (.nd k .lst a)) ls gh, lstK (.v (.nd k' .lst b)) ls gh with
    | some a, some b => if a.length + b.length ≤ GL.lim then Out.ok (RV.v (.nd .ow .lst (a ++ b))) ls gh else .bad
    | _, _ => .bad) = _
  rw [h1, h2]
  exact if_pos hlim
theorem list_t {xs : List D} (h : xs.all D.shr = true) : f1List (.v (.tup xs)) ls gh = .ok (.v (.nd .ow .lst xs)) ls gh := by
  show (match shrK (.v (.tup xs)) xs with
    | some ys => Out.ok (RV.v (.nd .ow .lst ys)) ls gh
    | none => .bad) = _
  rw [shrK_s h]
end
abbrev inD' (ds : List Int) : D := .nd .fz .lst (intL ds)
theorem gSl_p {r : Rt} {p : List Nat} {k : Fl} {xs : List D} {lo hi : Option Int} {ls gh : Ls} (h : atD ls gh r p = some (.nd k .lst xs)) (hs : xs.all D.shr = true) : gSl (.pth r p) lo hi ls gh = .ok (.v (.nd .ow .lst (GL.cutP xs lo hi))) ls gh := by
  show (match seqV (.pth r p) ls gh with
    | some (.tup, _) => Out.bad
    | some (_, xs) => (match shrK (.pth r p) xs with
      | some ys => Out.ok (RV.v (.nd .ow .lst (GL.cutP ys lo hi))) ls gh
      | none => .bad)
    | none => .bad) = _
  rw [seqV_p h]
  show (match shrK (.pth r p) xs with
      | some ys => Out.ok (RV.v (.nd .ow .lst (GL.cutP ys lo hi))) ls gh
      | none => .bad) = _
  rw [shrK_s hs]
theorem cut_a {α : Type} {xs : List α} {t : Nat} (h : t ≤ xs.length) : GL.cutP xs none (some (t : Int)) = xs.take t := by
  unfold GL.cutP
  rw [_root_.HT.sIx_none, _root_.HT.sIx_nat, Nat.min_eq_left h]; rfl
theorem cut_b {α : Type} {xs : List α} {t : Nat} (h : t ≤ xs.length) : GL.cutP xs (some (t : Int)) none = xs.drop t := by
  unfold GL.cutP
  rw [_root_.HT.sIx_none, _root_.HT.sIx_nat, Nat.min_eq_left h]
  exact List.take_of_length_le (by rw [List.length_drop]; exact Nat.le_refl _)
def Sok (s : M.Nm) : Prop := PySem.PyData.strOk (GL.toS s) = true
theorem eq_str {S7 : MS} {s : M.Nm} (h : Sok s) : f_equalG S7 [.v (.str s), .v (.str s)] [] = .ok (.bl true) [] := by
  exact equal_ok (f := 9) (d := .str s) h (by show 1 < 6000; decide)
section
variable {ls gh : Ls} {a b : PE} {t u : PT} {x y : RV} {k : Bool}
theorem not_of (h : t ls gh = .ok k ls gh) : tNotM t ls gh = .ok (!k) ls gh := by rw [tNotM_ap, h]; rfl
theorem and_of {r : Out RV} (h : a ls gh = .ok (.v (.bl true)) ls gh) (h2 : b ls gh = r) : eAndM a b ls gh = r := by
  unfold eAndM
  rw [h]; exact h2
theorem args2 (h1 : a ls gh = .ok x ls gh) (h2 : b ls gh = .ok y ls gh) : (aCons a (aCons b aNil)) ls gh = .ok [x, y] ls gh := by
  rw [aCons_ap, h1, bind_ok, aCons_ap, h2, bind_ok, aNil_ap, bind_ok, bind_ok]
theorem ret_of {d : D} {ls : Ls} (h : a ls [] = .ok (.v d) ls []) : sRet a ls [] = .rt d [] := by rw [sRet_ap, h]; rfl
end
section
variable {ls gh ls1 gh1 ls2 gh2 ls3 gh3 : Ls} {t u : PT} {m1 m2 : MS} {x y z : RV} {a b c : D}
theorem or_not (h1 : t ls gh = .ok true ls1 gh1) (h2 : u ls1 gh1 = .ok true ls2 gh2) : tOrM (tNotM t) (tNotM u) ls gh = .ok false ls2 gh2 := by
  rw [tOrM_ap, tNotM_ap, h1]
  show (if (!true) = true then Out.ok true ls1 gh1 else tNotM u ls1 gh1) = _
  rw [if_neg (by decide), tNotM_ap, h2]; rfl
theorem toT_2 {e : PE} (h : e ls gh = .ok (.v (.bl true)) ls2 gh2) : toT e ls gh = .ok true ls2 gh2 := by rw [toT_ap, h]; rfl
theorem cvL3 (h1 : cvR true x ls gh = some (a, ls1, gh1)) (h2 : cvR true y ls1 gh1 = some (b, ls2, gh2)) (h3 : cvR true z ls2 gh2 = some (c, ls3, gh3)) : cvL true [x, y, z] ls gh = some ([a, b, c], ls3, gh3) := by simp only [cvL, h1, h2, h3]
theorem cv_l {i : Nat} {d e : D} (h : ls[i]? = some (some (.v d))) (hs : d.shr = false) (hz : D.frz d = some e) : cvR true (.pth (.l i) []) ls gh = some (e, modN (putV e) i (ls.map (killD (fun _ => true) (.l i) [])), gh.map (killD (fun _ => true) (.l i) [])) := by
  unfold cvR
  simp only [atD_l h]
  rw [if_neg (by rw [hs]; decide), hz]
  dsimp only
  rw [chD_l h]; rfl
end
theorem frz_lst {xs : List D} (h : D.frzs xs = some xs) : D.frz (.nd .ow .lst xs) = some (.nd .fz .lst xs) := by simp [D.frz, h]
theorem args3 {ls gh : Ls} {a b c : PE} {x y z : RV} (h1 : a ls gh = .ok x ls gh) (h2 : b ls gh = .ok y ls gh) (h3 : c ls gh = .ok z ls gh) : (aCons a (aCons b (aCons c aNil))) ls gh = .ok [x, y, z] ls gh := by
  rw [aCons_ap, h1, bind_ok, aCons_ap, h2, bind_ok, aCons_ap, h3, bind_ok, aNil_ap, bind_ok, bind_ok, bind_ok]
end VL
set_option Elab.async false
set_option linter.all false
set_option maxRecDepth 100000
set_option maxHeartbeats 4000000
set_option cbv.maxSteps 1000000
set_option pp.maxSteps 400
namespace VL
open GL (PV)
open K44
abbrev gP : MG := (gT (gsCons (gN 5) (gsCons (gN 6) gsNil)))
structure WI (P : List M.Nm) (n : Nat) (ws : M.Ws) : Prop where
  nd : Nd ws
  k : ∀ x ∈ ws, x.1 ∈ P
  l : ∀ x ∈ ws, x.2.length ≤ n
theorem WI.len {P : List M.Nm} {n : Nat} {ws : M.Ws} (h : WI P n ws) : ws.length ≤ P.length := by
  have := M.nodup_sub h.nd fun x hx => by
    obtain ⟨q, hq, rfl⟩ := List.mem_map.mp hx
    exact h.k q hq
  rw [List.length_map] at this
  exact this
end VL
set_option Elab.async false
set_option linter.all false
set_option maxRecDepth 100000
set_option maxHeartbeats 4000000
set_option cbv.maxSteps 1000000
set_option pp.maxSteps 400
namespace VL
open GL (PV)
open K44
structure RcI (P : List M.Nm) (f : List M.Nm) : Prop where
  nd : f.Nodup
  k : ∀ x ∈ f, x ∈ P
theorem RcI.len {P f : List M.Nm} (h : RcI P f) : f.length ≤ P.length := M.nodup_sub h.nd h.k
end VL
set_option Elab.async false
set_option linter.all false
set_option maxRecDepth 100000
set_option maxHeartbeats 400000
namespace GL
open PySem PySem.Spec PyProof.Rows L2
end GL
set_option Elab.async false
set_option linter.all false
set_option maxRecDepth 100000
set_option maxHeartbeats 1000000
namespace VL
open GL (PV OB Sto Nm BT lim)
end VL
set_option Elab.async false
set_option linter.all false
set_option maxRecDepth 100000
set_option maxHeartbeats 1000000
namespace GL
open PySem PySem.Spec PyProof.Rows L2
end GL
set_option Elab.async false
set_option linter.all false
set_option maxRecDepth 100000
set_option maxHeartbeats 1000000
namespace VL
open GL (PV OB Sto Nm BT lim)
open PySem (PyData)
end VL
set_option Elab.async false
set_option linter.all false
set_option maxRecDepth 100000
set_option maxHeartbeats 1000000
namespace VL
open GL (PV)
open K44 (M.Nm)
section
variable {ls : Ls} {t u : PT} {a b c e : PE} {m m1 m2 k : MS} {r : PA} {p q : Bool} {i j : List Nat} {X Y d : D} {x y : RV} {xs : List RV} {w z : Int}
theorem vEqI (h : a ls [] = .ok (.v (.int w)) ls []) (h2 : b ls [] = .ok (.v (.int z)) ls []) : eOp gEq a b ls [] = .ok (.v (.bl (decide (w = z)))) ls [] := op_of h h2 gEq_int
theorem vNeI (h : a ls [] = .ok (.v (.int w)) ls []) (h2 : b ls [] = .ok (.v (.int z)) ls []) : eOp gNe a b ls [] = .ok (.v (.bl (!decide (w = z)))) ls [] := op_of h h2 gEq_int
end
end VL
set_option Elab.async false
set_option linter.all false
set_option maxRecDepth 100000
set_option maxHeartbeats 1000000
namespace K16.V
open VL
open GL (PV)
inductive Mk where
  | set (n : Int)
  | move (r : Fin 4)
  | cmp (a b : Fin 4)
  | flg (z l : Int)
def mkD : Mk → D
  | .set n => .tup [.str n_set, .int n]
  | .move r => .tup [.str n_move, .int (r.val : Int)]
  | .cmp a b => .tup [.str n_compare, .int (a.val : Int), .int (b.val : Int)]
  | .flg z l => .tup [.str n_flags, .int z, .int l]
structure St where
  a : Int
  b : Int
  c : Int
  d : Int
  z : Int
  l : Int
def St.get (s : St) : Fin 4 → Int
  | ⟨0, _⟩ => s.a
  | ⟨1, _⟩ => s.b
  | ⟨2, _⟩ => s.c
  | ⟨3, _⟩ => s.d
def St.put (s : St) (n : Int) : Nat → St
  | 0 => { s with a := n }
  | 1 => { s with b := n }
  | 2 => { s with c := n }
  | 3 => { s with d := n }
  | _ => s
def b2i (b : Bool) : Int := if b = true then 1 else 0
def stp (s : St) (v : Nat) : Mk → St
  | .set n => s.put n v
  | .move r => s.put (s.get r) v
  | .cmp x y => { s with z := b2i (decide (s.get x = s.get y)), l := b2i (decide (s.get x < s.get y)) }
  | .flg z l => { s with z := z, l := l }
def okM (v : Nat) : Mk → Prop
  | .set n => v < 4 ∧ 0 ≤ n ∧ n < 256
  | .move _ => v < 4
  | .cmp _ _ => v = 4
  | .flg z l => v = 4 ∧ (0 ≤ z ∧ z < 2) ∧ 0 ≤ l ∧ l < 2
def FN : List (List Nat) := [n_pc, n_regs, n_zero, n_less, n_level, n_enabled, n_pending, n_saved, n_halted]
def rgD (k : Fl) (s : St) : D := .nd k .lst [.int s.a, .int s.b, .int s.c, .int s.d]
def prD (k : Fl) (pc : Int) (hal : Bool) (s : St) : D := .nd k (.ins n_Processor FN) [.int pc, rgD k s, .int s.z, .int s.l, .int 1, .bl false, .bl false, .tup [.int 0, .int 1, .bl false], .bl hal]
abbrev gIO (pc : Int) (hal : Bool) (s : St) : List D := [prD .ow pc hal s]
theorem fo_set {pc : Int} {hal : Bool} {s : St} {n : Int} {v : Nat} (h : v < 4) : f_flush_one [.al (.g 0) [], .v (.int (v : Int)), .v (mkD (.set n))] (gIO pc hal s) = .ok .non (gIO pc hal (stp s v (.set n))) := by
  match v, h with
  | 0, _ => kernel_rfl
  | 1, _ => kernel_rfl
  | 2, _ => kernel_rfl
  | 3, _ => kernel_rfl
theorem fo_move {pc : Int} {hal : Bool} {s : St} {v : Nat} (h : v < 4) : ∀ r : Fin 4, f_flush_one [.al (.g 0) [], .v (.int (v : Int)), .v (mkD (.move r))] (gIO pc hal s) = .ok .non (gIO pc hal (stp s v (.move r)))
  | ⟨0, _⟩ => by
    match v, h with
    | 0, _ => kernel_rfl
    | 1, _ => kernel_rfl
    | 2, _ => kernel_rfl
    | 3, _ => kernel_rfl
  | ⟨1, _⟩ => by
    match v, h with
    | 0, _ => kernel_rfl
    | 1, _ => kernel_rfl
    | 2, _ => kernel_rfl
    | 3, _ => kernel_rfl
  | ⟨2, _⟩ => by
    match v, h with
    | 0, _ => kernel_rfl
    | 1, _ => kernel_rfl
    | 2, _ => kernel_rfl
    | 3, _ => kernel_rfl
  | ⟨3, _⟩ => by
    match v, h with
    | 0, _ => kernel_rfl
    | 1, _ => kernel_rfl
    | 2, _ => kernel_rfl
    | 3, _ => kernel_rfl
theorem fo_flg {pc : Int} {hal : Bool} {s : St} {z l : Int} : f_flush_one [.al (.g 0) [], .v (.int 4), .v (mkD (.flg z l))] (gIO pc hal s) = .ok .non (gIO pc hal (stp s 4 (.flg z l))) := by kernel_rfl
theorem fo_cmp {pc : Int} {hal : Bool} {s : St} : ∀ a b : Fin 4, f_flush_one [.al (.g 0) [], .v (.int 4), .v (mkD (.cmp a b))] (gIO pc hal s) = .ok .non (gIO pc hal (stp s 4 (.cmp a b)))
  | ⟨0, _⟩, ⟨0, _⟩ => by kernel_rfl
  | ⟨0, _⟩, ⟨1, _⟩ => by kernel_rfl
  | ⟨0, _⟩, ⟨2, _⟩ => by kernel_rfl
  | ⟨0, _⟩, ⟨3, _⟩ => by kernel_rfl
  | ⟨1, _⟩, ⟨0, _⟩ => by kernel_rfl
  | ⟨1, _⟩, ⟨1, _⟩ => by kernel_rfl
  | ⟨1, _⟩, ⟨2, _⟩ => by kernel_rfl
  | ⟨1, _⟩, ⟨3, _⟩ => by kernel_rfl
  | ⟨2, _⟩, ⟨0, _⟩ => by kernel_rfl
  | ⟨2, _⟩, ⟨1, _⟩ => by kernel_rfl
  | ⟨2, _⟩, ⟨2, _⟩ => by kernel_rfl
  | ⟨2, _⟩, ⟨3, _⟩ => by kernel_rfl
  | ⟨3, _⟩, ⟨0, _⟩ => by kernel_rfl
  | ⟨3, _⟩, ⟨1, _⟩ => by kernel_rfl
  | ⟨3, _⟩, ⟨2, _⟩ => by kernel_rfl
  | ⟨3, _⟩, ⟨3, _⟩ => by kernel_rfl
end K16.V
set_option Elab.async false
set_option linter.all false
set_option maxRecDepth 100000
set_option maxHeartbeats 1000000
namespace K16.V
open VL
open GL (PV)
open PySem (PyData)
def KI (K : List Nat) : List PV := K.map fun (v : Nat) => PV.int (v : Int)
def dcD (k : Fl) (K : List Nat) (f : Nat → D) : D := .nd k (.dct (KI K)) (K.map f)
theorem keq_i {a b : Nat} : GL.keqP (.int (a : Int)) (.int (b : Int)) = decide (a = b) := by
  show decide ((a : Int) = (b : Int)) = _
  by_cases h : a = b
  · subst h; simp
  · rw [decide_eq_false h, decide_eq_false (by omega)]
theorem idx_in : ∀ {K : List Nat} {v : Nat}, v ∈ K → ∃ i, idxK (.int (v : Int)) (KI K) = some i ∧ K[i]? = some v
  | [], v, h => by cases h
  | a :: r, v, h => by
    show ∃ i, (if GL.keqP (.int (a : Int)) (.int (v : Int)) = true then some 0 else (idxK (.int (v : Int)) (KI r)).map (· + 1)) = some i ∧ _
    rw [keq_i]
    by_cases e : a = v
    · rw [decide_eq_true e]; exact ⟨0, rfl, by rw [e]; rfl⟩
    · rw [decide_eq_false e]
      have h : v ∈ r := by
        rcases List.mem_cons.mp h with h | h
        · exact absurd h.symm e
        · exact h
      obtain ⟨i, h1, h2⟩ := idx_in h
      exact ⟨i + 1, by rw [h1]; rfl, h2⟩
theorem idx_out : ∀ {K : List Nat} {v : Nat}, v ∉ K → idxK (.int (v : Int)) (KI K) = none
  | [], v, h => rfl
  | a :: r, v, h => by
    show (if GL.keqP (.int (a : Int)) (.int (v : Int)) = true then some 0 else (idxK (.int (v : Int)) (KI r)).map (· + 1)) = none
    rw [keq_i, decide_eq_false (fun e => h (by rw [e]; exact List.mem_cons_self)), idx_out (fun e => h (List.mem_cons_of_mem _ e))]
    rfl
section
variable {ls gh : Ls} {x : RV} {k : Fl} {K : List Nat} {f : Nat → D} {v : Nat}
theorem gDIn_k (hv : val x ls gh = some (dcD k K f)) : gDIn false (.v (.int (v : Int))) x ls gh = .ok (.v (.bl (decide (v ∈ K)))) ls gh := by
  unfold gDIn
  rw [hv]
  unfold dcD
  have hi : (idxK (.int (v : Int)) (KI K)).isSome = decide (v ∈ K) := by
    by_cases h : v ∈ K
    · obtain ⟨i, h1, _⟩ := idx_in h; rw [h1, decide_eq_true h]; rfl
    · rw [idx_out h, decide_eq_false h]; rfl
  show Out.ok (RV.v (.bl (if false = true then !(idxK (.int (v : Int)) (KI K)).isSome else (idxK (.int (v : Int)) (KI K)).isSome))) ls gh = _
  rw [hi]; rfl
theorem gDGet_k (hv : val x ls gh = some (dcD k K f)) (hg : v ∈ K) (hs : (f v).shr = true) : gDGet x (.v (.int (v : Int))) ls gh = .ok (.v (f v)) ls gh := by
  unfold gDGet
  rw [hv]
  unfold dcD
  obtain ⟨i, h1, h2⟩ := idx_in hg
  show (match idxK (.int (v : Int)) (KI K) with
    | some i => (match (K.map f)[i]? with
      | some d => Out.ok (childR x i d) ls gh
      | none => .bad)
    | none => .bad) = _
  rw [h1]
  dsimp only
  rw [List.getElem?_map, h2]
  show Out.ok (childR x i (f v)) ls gh = _
  unfold childR
  rw [if_pos hs]
end
theorem dist_k : ∀ {K S : List Nat}, (S ++ K).Nodup → distG (KI S) (KI K) = true
  | [], S, _ => rfl
  | a :: r, S, h => by
    show ((idxK (.int (a : Int)) (KI S)).isNone && distG (KI S ++ [.int (a : Int)]) (KI r)) = true
    have e : KI S ++ [PV.int (a : Int)] = KI (S ++ [a]) := by unfold KI; rw [List.map_append]; rfl
    have ha : a ∉ S := fun q => (List.nodup_append.mp h).2.2 a q a List.mem_cons_self rfl
    rw [idx_out ha, e, dist_k (by rw [List.append_assoc]; exact h)]
    rfl
def prs (f : Nat → D) (v : Nat) : D := .tup [.int (v : Int), f v]
theorem pairs_k {f : Nat → D} : ∀ {K : List Nat}, pairsD (K.map (prs f)) = some (KI K, K.map f)
  | [] => rfl
  | a :: r => by
    show (match keyC (.int (a : Int)), pairsD (r.map (prs f)) with
      | some x, some (ks, ds) => some (x :: ks, f a :: ds)
      | _, _ => none) = _
    rw [pairs_k]
    rfl
theorem shr_prs {f : Nat → D} (K : List Nat) : (K.map (prs f)).all D.shr = true := by
  rw [List.all_map, List.all_eq_true]; intro x _; rfl
def mkO : Option Mk → D
  | some m => mkD m
  | none => .non
theorem mkO_shr (o : Option Mk) : (mkO o).shr = true := by
  cases o with
  | none => rfl
  | some m => cases m <;> rfl
theorem shr_k (M : Nat → Option Mk) (K : List Nat) : (K.map fun v => mkO (M v)).all D.shr = true := by
  rw [List.all_map, List.all_eq_true]; intro x _; exact mkO_shr _
abbrev fM (M : Nat → Option Mk) : Nat → D := fun v => mkO (M v)
inductive Src where
  | dct | lst | ptp
def srD : Src → Fl → List Nat → (Nat → Option Mk) → D
  | .dct, k, K, M => dcD k K (fM M)
  | .lst, k, K, M => .nd k .lst (K.map (prs (fM M)))
  | .ptp, k, K, M => .nd k .ptp (K.map (prs (fM M)))
theorem sr_go {r : Src} {k : Fl} {K : List Nat} {M : Nat → Option Mk} (hn : K.Nodup) {x : RV} {ls gh : Ls} (hv : val x ls gh = some (srD r k K M)) : f1DictP x ls gh = .ok (.v (dcD .ow K (fM M))) ls gh := by
  have hd : distG [] (KI K) = true := dist_k (S := []) hn
  unfold f1DictP
  rw [hv]
  cases r with
  | dct =>
    show (if (K.map (fM M)).all D.shr = true then Out.ok (RV.v (.nd .ow (.dct (KI K)) (K.map (fM M)))) ls gh else .bad) = _
    rw [if_pos (shr_k M K)]; rfl
  | lst =>
    show (if (K.map (prs (fM M))).all D.shr = true then dpD (pairsD (K.map (prs (fM M)))) ls gh else .bad) = _
    rw [if_pos (shr_prs K), pairs_k]
    show (if distG [] (KI K) = true then Out.ok (RV.v (.nd .ow (.dct (KI K)) (K.map (fM M)))) ls gh else .bad) = _
    rw [if_pos hd]; rfl
  | ptp =>
    show (if (K.map (prs (fM M))).all D.shr = true then dpD (pairsD (K.map (prs (fM M)))) ls gh else .bad) = _
    rw [if_pos (shr_prs K), pairs_k]
    show (if distG [] (KI K) = true then Out.ok (RV.v (.nd .ow (.dct (KI K)) (K.map (fM M)))) ls gh else .bad) = _
    rw [if_pos hd]; rfl
theorem sr_fz (r : Src) (K : List Nat) (M : Nat → Option Mk) : (srD r .fz K M).shr = true := by cases r <;> rfl
theorem sr_ow (r : Src) (K : List Nat) (M : Nat → Option Mk) : (srD r .ow K M).shr = false := by cases r <;> rfl
theorem sr_frz (r : Src) (K : List Nat) (M : Nat → Option Mk) : D.frz (srD r .ow K M) = some (srD r .fz K M) := by
  cases r with
  | dct =>
    show D.frz (.nd .ow (.dct (KI K)) (K.map (fM M))) = _
    simp only [D.frz, frzs_shr (shr_k M K)]; rfl
  | lst =>
    show D.frz (.nd .ow .lst (K.map (prs (fM M)))) = _
    simp only [D.frz, frzs_shr (shr_prs K)]; rfl
  | ptp =>
    show D.frz (.nd .ow .ptp (K.map (prs (fM M)))) = _
    simp only [D.frz, frzs_shr (shr_prs K)]; rfl
def DS (d0 : D) (K : List Nat) (M : Nat → Option Mk) : Prop := ∀ gh, (eB fDictP (aCons (eVar 1) aNil)) [some (.al (.g 0) []), some (.v d0), none, none] gh = .ok (.v (dcD .ow K (fM M))) [some (.al (.g 0) []), some (.v d0), none, none] gh
theorem ds_fz {r : Src} {K : List Nat} {M : Nat → Option Mk} (hn : K.Nodup) : DS (srD r .fz K M) K M := fun gh => by
  rw [eB_ap, aCons_ap, eVar_v rfl (sr_fz r K M)]
  exact sr_go (x := .v (srD r .fz K M)) (k := .fz) (r := r) hn rfl
theorem ds_ow {r : Src} {K : List Nat} {M : Nat → Option Mk} (hn : K.Nodup) : DS (srD r .ow K M) K M := fun gh => by
  rw [eB_ap, aCons_ap, eVar_o rfl (sr_ow r K M)]
  exact sr_go (x := .pth (.l 1) []) (k := .ow) (r := r) hn (atD_l rfl)
def NI (K : List Nat) : List D := K.map fun (v : Nat) => D.int (v : Int)
def PI' (K : List Nat) : List PyData := K.map fun (v : Nat) => PyData.int (v : Int)
def Srt (K A : List Nat) : Prop := GL.srtOk (PI' K) = true ∧ GL.srtB (PI' K) K = A
theorem dat_k : ∀ {K : List Nat}, GL.optAll (datD 60) (NI K) = some (PI' K)
  | [] => rfl
  | a :: r => by
    show GL.optAll (datD 60) (D.int (a : Int) :: NI r) = some (PyData.int (a : Int) :: PI' r)
    unfold GL.optAll
    rw [show datD 60 (D.int (a : Int)) = some (.int (a : Int)) from rfl, dat_k]
theorem ni_shr (K : List Nat) : (NI K).all D.shr = true := by
  unfold NI; rw [List.all_map, List.all_eq_true]; intro x _; rfl
theorem srt_k {K A : List Nat} (h : Srt K A) (ls gh : Ls) : f1SrtD (.v (.nd .ow .lst (NI K))) ls gh = .ok (.v (.nd .ow .lst (NI A))) ls gh := by
  show (match shrK (.v (.nd .ow .lst (NI K))) (NI K) with
    | some ys => (match GL.optAll (datD 60) ys with
      | some ds => if GL.srtOk ds = true then Out.ok (RV.v (.nd .ow .lst (GL.srtB ds ys))) ls gh else .bad
      | none => .bad)
    | none => .bad) = _
  rw [shrK_s (ni_shr K)]
  dsimp only
  rw [dat_k]
  dsimp only
  rw [if_pos h.1]
  have e : GL.srtB (PI' K) (NI K) = NI A := by
    unfold NI
    rw [GL.srtB_map, h.2]
  rw [e]
theorem keys_k {K : List Nat} : keysD (KI K) = NI K := by
  unfold keysD KI NI
  rw [List.map_map]; rfl
theorem keyP_k (K : List Nat) : (KI K).all GL.isKeyP = true := by
  unfold KI; rw [List.all_map, List.all_eq_true]; intro x _; rfl
theorem callM_of {fn : MF} {ms : List Nat} {dws : List PV} {args : PA} {xs : List RV} {ls gh ls1 gh1 ls2 gh2 : Ls} {r : Rt} {p : List Nat} {vs : List V} {x d y : D} (ha : args ls gh = .ok xs ls1 gh1) (hio : findIO ms xs = some (r, p)) (hc : convM r p ms xs ls1 gh1 = some (vs, ls2, gh2)) (hx : atD ls2 gh2 r p = some x) (hs : x.shr = false)
    (hf : fn (vs ++ (dOfs dws).map .v) [x] = .ok d [y]) : eCallM fn ms dws args ls gh = wroteV d topT r p y ls2 gh2 := by
  unfold eCallM
  rw [ha, bind_ok]
  unfold runM
  rw [hio]
  dsimp only
  rw [hc]
  dsimp only
  unfold callM
  rw [hx]
  dsimp only
  rw [if_neg (by rw [hs]; decide), hf]
def stF (M : Nat → Option Mk) (s : St) (v : Nat) : St := match M v with
  | some m => stp s v m
  | none => s
theorem fo_ok {pc : Int} {hal : Bool} {s : St} {v : Nat} {m : Mk} (h : okM v m) : f_flush_one [.al (.g 0) [], .v (.int (v : Int)), .v (mkD m)] (gIO pc hal s) = .ok .non (gIO pc hal (stp s v m)) := by
  cases m with
  | set n => exact fo_set h.1
  | move r => exact fo_move h r
  | cmp a b => cases (show v = 4 from h); exact fo_cmp a b
  | flg z l => cases (show v = 4 from h.1); exact fo_flg
abbrev fL (d0 : D) (K : List Nat) (M : Nat → Option Mk) (z : Option V) : Ls := [some (.al (.g 0) []), some (.v d0), some (.v (dcD .ow K (fM M))), z]
abbrev gP (pc : Int) (hal : Bool) (s : St) : Ls := [some (.io (prD .ow pc hal s))]
abbrev fB : MS := (sExpr (eCallM f_flush_one [1, 0, 0] [] (aCons (eVar 0) (aCons (eVar 3) (aCons (eDGet (eVar 2) (eVar 3)) aNil)))))
theorem fl_turn {d0 : D} {K : List Nat} {M : Nat → Option Mk} {pc : Int} {hal : Bool} {s : St} {v : Nat} {m : Mk} (hv : v ∈ K) (hm : M v = some m) (ok : okM v m) :
    fB (fL d0 K M (some (.v (.int (v : Int))))) (gP pc hal s) = .nx (fL d0 K M (some (.v (.int (v : Int))))) (gP pc hal (stp s v m)) := by
  have e : fM M v = mkD m := by show mkO (M v) = _; rw [hm]; rfl
  have a3 : (eDGet (eVar 2) (eVar 3)) (fL d0 K M (some (.v (.int (v : Int))))) (gP pc hal s) = .ok (.v (mkD m)) (fL d0 K M (some (.v (.int (v : Int))))) (gP pc hal s) := by
    refine op_of (x := .pth (.l 2) []) (y := .v (.int (v : Int))) rfl rfl ?_
    rw [← e]
    exact gDGet_k (k := .ow) (atD_l rfl) hv (mkO_shr _)
  have hs : (mkD m).shr = true := by cases m <;> rfl
  have hcv : convM (.g 0) [] [1, 0, 0] [.pth (.g 0) [], .v (.int (v : Int)), .v (mkD m)] (fL d0 K M (some (.v (.int (v : Int))))) (gP pc hal s) = some ([.al (.g 0) [], .v (.int (v : Int)), .v (mkD m)], fL d0 K M (some (.v (.int (v : Int)))), gP pc hal s) := by cases m <;> rfl
  have c := callM_of (fn := f_flush_one) (ms := [1, 0, 0]) (dws := []) (args3 (a := eVar 0) (b := eVar 3) (c := eDGet (eVar 2) (eVar 3)) (x := .pth (.g 0) []) (y := .v (.int (v : Int))) rfl rfl a3) rfl hcv rfl rfl (fo_ok ok)
  show ((eCallM f_flush_one [1, 0, 0] [] _ _ _).then fun _ ls gh => .nx ls gh) = _
  rw [c]
  rfl
theorem fl_loop {d0 : D} {K : List Nat} {M : Nat → Option Mk} {pc : Int} {hal : Bool} : ∀ (A : List Nat) (s : St) (z : Option V), (z = none ∨ ∃ d, z = some (.v d)) → (∀ v ∈ A, v ∈ K ∧ ∃ m, M v = some m ∧ okM v m) →
    ∃ z', forV (gN 3) fB (NI A) (fL d0 K M z) (gP pc hal s) = .nx (fL d0 K M z') (gP pc hal (A.foldl (stF M) s))
  | [], s, z, _, _ => ⟨z, rfl⟩
  | v :: A, s, z, hz, h => by
    obtain ⟨hv, m, hm, ok⟩ := h v List.mem_cons_self
    obtain ⟨z', g⟩ := fl_loop (d0 := d0) (K := K) (M := M) (pc := pc) (hal := hal) A (stp s v m) (some (.v (.int (v : Int)))) (.inr ⟨_, rfl⟩) fun u hu => h u (List.mem_cons_of_mem _ hu)
    refine ⟨z', ?_⟩
    have hg : gN 3 (.v (.int (v : Int))) (fL d0 K M z) (gP pc hal s) = some (fL d0 K M (some (.v (.int (v : Int)))), gP pc hal s) := by
      rcases hz with rfl | ⟨d, rfl⟩ <;> rfl
    show forV (gN 3) fB (.int (v : Int) :: NI A) _ _ = _
    rw [forV_cons hg]
    dsimp only
    rw [fl_turn hv hm ok, loopK_nx, g]
    show _ = SOut.nx _ (gP pc hal (A.foldl (stF M) (stF M s v)))
    unfold stF
    rw [hm]
theorem flush_ok {d0 : D} {K A : List Nat} {M : Nat → Option Mk} {pc : Int} {hal : Bool} {s : St} (hd : DS d0 K M) (hs : Srt K A) (h : ∀ v ∈ A, v ∈ K ∧ ∃ m, M v = some m ∧ okM v m) :
    f_flush [.al (.g 0) [], .v d0] [prD .ow pc hal s] = .ok .non [prD .ow pc hal (A.foldl (stF M) s)] := by
  obtain ⟨z', g⟩ := fl_loop (d0 := d0) (K := K) (M := M) (pc := pc) (hal := hal) A s none (.inl rfl) h
  refine fnOf_nx (ls := fL d0 K M z') (gh := gP pc hal (A.foldl (stF M) s)) rfl ?_ rfl
  have s2 : (sSet 2 (eB fDictP (aCons (eVar 1) aNil))) [some (.al (.g 0) []), some (.v d0), none, none] (gP pc hal s) = .nx (fL d0 K M none) (gP pc hal s) := by
    rw [sSet_ap, hd]; rfl
  show sSeq _ _ [some (.al (.g 0) []), some (.v d0), none, none] (gP pc hal s) = _
  refine (seq_of s2).trans ?_
  refine (sFor_of (ds := NI A) (ls1 := fL d0 K M none) (gh1 := gP pc hal s) ?_).trans g
  have l1 : (eB fListD (aCons (eVar 2) aNil)) (fL d0 K M none) (gP pc hal s) = .ok (.v (.nd .ow .lst (NI K))) (fL d0 K M none) (gP pc hal s) := by
    show (if (KI K).all GL.isKeyP = true then Out.ok (RV.v (.nd .ow .lst (keysD (KI K)))) (fL d0 K M none) (gP pc hal s) else .bad) = _
    rw [if_pos (keyP_k K), keys_k]
  have l2 : (eB fSrtD (aCons (eB fListD (aCons (eVar 2) aNil)) aNil)) (fL d0 K M none) (gP pc hal s) = .ok (.v (.nd .ow .lst (NI A))) (fL d0 K M none) (gP pc hal s) := by
    rw [eB_ap, aCons_ap, l1]
    exact srt_k hs _ _
  exact iSeq_o l2 (frzs_shr (ni_shr A))
end K16.V
set_option Elab.async false
set_option linter.all false
set_option maxRecDepth 100000
set_option maxHeartbeats 1000000
namespace K16.V
open VL
open GL (PV)
def asc (p : Nat → Bool) : List Nat := [0, 1, 2, 3, 4].filter p
def ascB (a b c d e : Bool) : List Nat := (if a then [0] else []) ++ ((if b then [1] else []) ++ ((if c then [2] else []) ++ ((if d then [3] else []) ++ if e then [4] else [])))
theorem asc_eq (p : Nat → Bool) : asc p = ascB (p 0) (p 1) (p 2) (p 3) (p 4) := by
  unfold asc ascB
  simp only [List.filter]
  cases p 0 <;> cases p 1 <;> cases p 2 <;> cases p 3 <;> cases p 4 <;> rfl
def chk (K A : List Nat) : Bool := GL.srtOk (PI' K) && decide (GL.srtB (PI' K) K = A)
theorem chk_s {K A : List Nat} (h : chk K A = true) : Srt K A := by
  unfold chk at h
  rw [Bool.and_eq_true] at h
  exact ⟨h.1, of_decide_eq_true h.2⟩
theorem chk_all : ∀ a b c d e : Bool, ∀ t : Fin 6, (chk ((ascB a b c d e).drop t.val ++ (ascB a b c d e).take t.val) (ascB a b c d e) && chk ((ascB a b c d e).drop t.val ++ (ascB a b c d e).take t.val).reverse (ascB a b c d e)) = true := by decide +kernel
theorem srt_rot (p : Nat → Bool) {t : Nat} (h : t < 6) : Srt ((asc p).drop t ++ (asc p).take t) (asc p) := by
  have := chk_all (p 0) (p 1) (p 2) (p 3) (p 4) ⟨t, h⟩
  rw [Bool.and_eq_true] at this
  rw [asc_eq]
  exact chk_s this.1
theorem srt_rev (p : Nat → Bool) {t : Nat} (h : t < 6) : Srt ((asc p).drop t ++ (asc p).take t).reverse (asc p) := by
  have := chk_all (p 0) (p 1) (p 2) (p 3) (p 4) ⟨t, h⟩
  rw [Bool.and_eq_true] at this
  rw [asc_eq]
  exact chk_s this.2
theorem srt_asc (p : Nat → Bool) : Srt (asc p) (asc p) := by
  have := srt_rot p (t := 0) (by omega)
  rw [List.drop_zero, List.take_zero, List.append_nil] at this
  exact this
theorem srt_nil : Srt [] [] := chk_s (by decide +kernel)
theorem srt_4 : Srt [4] [4] := chk_s (by decide +kernel)
theorem asc_nd (p : Nat → Bool) : (asc p).Nodup := (by decide : [0, 1, 2, 3, 4].Nodup).sublist List.filter_sublist
theorem asc_mem {p : Nat → Bool} {v : Nat} : v ∈ asc p ↔ v < 5 ∧ p v = true := by
  unfold asc
  rw [List.mem_filter]
  refine and_congr_left fun _ => ?_
  simp only [List.mem_cons, List.not_mem_nil, or_false]
  omega
theorem asc_len (p : Nat → Bool) : (asc p).length ≤ 5 := List.length_filter_le _ _
end K16.V
set_option Elab.async false
set_option linter.all false
set_option maxRecDepth 100000
set_option maxHeartbeats 1000000
namespace K16.V
open VL
open GL (PV)
abbrev dv (d : D) : Option V := some (.v d)
abbrev di (v : Nat) : D := .int (v : Int)
theorem lc_fmI {β : Type} {g : MG} {tt : PT} {te : PE} {vs : List Nat} {L0 gh : Ls} {LA : β → Ls} (f h : β → D) (p : β → Bool)
    (hg : ∀ a, g (.v (f a)) (resD (fun _ => none) vs L0 gh).1 (resD (fun _ => none) vs L0 gh).2 = some (LA a, gh))
    (hr : ∀ a, resD (fun v => keepV (L0.getD v none)) vs (LA a) gh = (L0, gh)) : ∀ (l : List β) (acc : List D), acc.length + l.length < 10000 →
    (∀ a ∈ l, tt (LA a) gh = .ok (p a) (LA a) gh ∧ (p a = true → te (LA a) gh = .ok (.v (h a)) (LA a) gh)) →
    lcV g tt te vs L0 (l.map f) acc L0 gh = .ok (.v (.nd .ow .lst (acc ++ (l.filter p).map h))) L0 gh
  | [], acc, _, _ => by rw [List.filter_nil, List.map_nil, List.map_nil, List.append_nil]; rfl
  | a :: r, acc, hl, hh => by
    obtain ⟨h1, h2⟩ := hh a List.mem_cons_self
    have hlim : acc.length < GL.lim := by
      have : GL.lim = 100000 := rfl
      rw [List.length_cons] at hl; omega
    rw [List.map_cons]
    unfold lcV
    rw [hg a]
    dsimp only
    rw [h1]
    cases hp : p a with
    | true =>
      dsimp only
      rw [h2 hp]
      show (if acc.length < GL.lim then lcV g tt te vs L0 (r.map f) (acc ++ [h a]) (resD (fun v => keepV (L0.getD v none)) vs (LA a) gh).1 (resD (fun v => keepV (L0.getD v none)) vs (LA a) gh).2 else .bad) = _
      rw [if_pos hlim, hr a]
      dsimp only
      rw [lc_fmI f h p hg hr r (acc ++ [h a]) (by rw [List.length_append, List.length_cons, List.length_nil]; rw [List.length_cons] at hl; omega) (fun b hb => hh b (List.mem_cons_of_mem _ hb)), List.filter_cons_of_pos hp, List.map_cons, List.append_assoc]
      rfl
    | false =>
      dsimp only
      rw [hr a]
      dsimp only
      rw [lc_fmI f h p hg hr r acc (by rw [List.length_cons] at hl; omega) (fun b hb => hh b (List.mem_cons_of_mem _ hb)), List.filter_cons_of_neg (by rw [hp]; decide)]
theorem rng5 : rngD 0 (((5 : Nat) : Int)) = [0, 1, 2, 3, 4].map di := by rw [rng0]; rfl
abbrev isM (M : Nat → Option Mk) : Nat → Bool := fun v => (M v).isSome
abbrev mkT (k : Fl) (M : Nat → Option Mk) : D := dcD k (asc (isM M)) (fM M)
theorem mem_m {M : Nat → Option Mk} {v : Nat} (h : v < 5) : decide (v ∈ asc (isM M)) = (M v).isSome := by
  rw [Bool.eq_iff_iff, decide_eq_true_iff, asc_mem]
  exact ⟨fun q => q.2, fun q => ⟨h, q⟩⟩
section
variable {M : Nat → Option Mk}
abbrev pL (M : Nat → Option Mk) (t : Nat) (z2 z3 z4 : Option V) : Ls := [dv (mkT .fz M), dv (di t), z2, z3, z4]
theorem pairs_ok {t : Nat} : ∃ k, k ≤ (asc (isM M)).length ∧ f_law_pairs [.v (mkT .fz M), .v (di t)] [] = .ok (.nd .ow .lst (((asc (isM M)).drop k ++ (asc (isM M)).take k).map (prs (fM M)))) [] := by
  have hp : 0 < (asc (isM M)).length + 1 := Nat.succ_pos _
  refine ⟨t % ((asc (isM M)).length + 1), Nat.le_of_lt_succ (Nat.mod_lt _ hp), ?_⟩
  have hk := Nat.le_of_lt_succ (Nat.mod_lt t hp)
  generalize hkk : t % ((asc (isM M)).length + 1) = k at hk
  refine fnOf_rt (gh := []) rfl ?_ rfl
  have s2 : (sSet 2 (eLc (iR1 (eC (.int 5))) (gN 3) (toT (eDIn false (eVar 3) (eVar 0))) (eTup (aCons (eVar 3) (aCons (eDGet (eVar 0) (eVar 3)) aNil))) [3])) (pL M t none none none) [] = .nx (pL M t (dv (.nd .ow .lst ((asc (isM M)).map (prs (fM M))))) none none) [] := by
    have c := lc_fmI (gh := []) (g := gN 3) (tt := toT (eDIn false (eVar 3) (eVar 0))) (te := eTup (aCons (eVar 3) (aCons (eDGet (eVar 0) (eVar 3)) aNil))) (vs := [3]) (L0 := pL M t none none none) (LA := fun v : Nat => pL M t none (dv (di v)) none) di (prs (fM M)) (fun v => decide (v ∈ asc (isM M))) (fun _ => rfl) (fun _ => rfl) [0, 1, 2, 3, 4] [] (by decide) (fun a _ => ⟨toT_of (op_of (a := eVar 3) (b := eVar 0) (x := .v (di a)) (y := .v (mkT .fz M)) rfl rfl (gDIn_k rfl)), fun hm => by
      have e : (eDGet (eVar 0) (eVar 3)) (pL M t none (dv (di a)) none) [] = .ok (.v (fM M a)) (pL M t none (dv (di a)) none) [] := op_of (a := eVar 0) (b := eVar 3) (x := .v (mkT .fz M)) (y := .v (di a)) rfl rfl (gDGet_k (k := .fz) rfl (of_decide_eq_true hm) (mkO_shr _))
      have e2 := args2 (a := eVar 3) (b := eDGet (eVar 0) (eVar 3)) (x := .v (di a)) rfl e
      show ((aCons (eVar 3) (aCons (eDGet (eVar 0) (eVar 3)) aNil)) _ _).bind _ = _
      rw [e2]
      show (match cvL false [.v (di a), .v (mkO (M a))] (pL M t none (dv (di a)) none) [] with
        | some (ds, ls, gh) => if ds.length ≤ GL.lim then Out.ok (RV.v (.tup ds)) ls gh else .bad
        | none => .bad) = Out.ok (RV.v (.tup [di a, mkO (M a)])) (pL M t none (dv (di a)) none) []
      cases M a with
      | none => rfl
      | some m => cases m <;> rfl⟩)
    rw [List.nil_append] at c
    have it : iR1 (eC (.int 5)) (pL M t none none none) [] = .ok ([0, 1, 2, 3, 4].map di) (pL M t none none none) [] := by
      rw [← rng5]; exact iR1_of (n := 5) rfl (by decide)
    have q : (eLc (iR1 (eC (.int 5))) (gN 3) (toT (eDIn false (eVar 3) (eVar 0))) (eTup (aCons (eVar 3) (aCons (eDGet (eVar 0) (eVar 3)) aNil))) [3]) (pL M t none none none) [] = .ok (.v (.nd .ow .lst (([0, 1, 2, 3, 4].filter fun v => decide (v ∈ asc (isM M))).map (prs (fM M))))) (pL M t none none none) [] := by
      unfold eLc
      rw [it, bind_ok, if_pos]
      · exact c
      · rfl
    have ef : ([0, 1, 2, 3, 4].filter fun v => decide (v ∈ asc (isM M))) = asc (isM M) := by
      unfold asc
      refine List.filter_congr fun v hv => ?_
      exact mem_m (by simp only [List.mem_cons, List.not_mem_nil, or_false] at hv; omega)
    rw [sSet_ap, q, ef]; rfl
  refine (seq_of s2).trans ?_
  generalize hA : asc (isM M) = A at hkk hk
  have el : (A.map (prs (fM M))).length = A.length := List.length_map _
  have s4 : (sSet 4 (eOp gMod (eB fInt (aCons (eVar 1) aNil)) (eOp gAdd (eB fLen (aCons (eVar 2) aNil)) (eC (.int 1))))) [dv (mkT .fz M), dv (di t), dv (.nd .ow .lst (A.map (prs (fM M)))), none, none] [] = .nx [dv (mkT .fz M), dv (di t), dv (.nd .ow .lst (A.map (prs (fM M)))), none, dv (di k)] [] := by
    have e1 : (eOp gAdd (eB fLen (aCons (eVar 2) aNil)) (eC (.int 1))) [dv (mkT .fz M), dv (di t), dv (.nd .ow .lst (A.map (prs (fM M)))), none, none] [] = .ok (.v (.int ((A.length : Int) + 1))) [dv (mkT .fz M), dv (di t), dv (.nd .ow .lst (A.map (prs (fM M)))), none, none] [] := by
      refine op_of (x := .v (.int (A.length : Int))) (y := .v (.int 1)) ?_ rfl rfl
      refine (f1Len_p (r := .l 2) (p := []) (k := .ow) (xs := A.map (prs (fM M))) (ls := [dv (mkT .fz M), dv (di t), dv (.nd .ow .lst (A.map (prs (fM M)))), none, none]) (gh := []) (atD_l rfl)).trans ?_
      rw [el]
    have e2 : (eOp gMod (eB fInt (aCons (eVar 1) aNil)) (eOp gAdd (eB fLen (aCons (eVar 2) aNil)) (eC (.int 1)))) [dv (mkT .fz M), dv (di t), dv (.nd .ow .lst (A.map (prs (fM M)))), none, none] [] = .ok (.v (di k)) [dv (mkT .fz M), dv (di t), dv (.nd .ow .lst (A.map (prs (fM M)))), none, none] [] := by
      refine op_of (x := .v (di t)) (y := .v (.int ((A.length : Int) + 1))) rfl e1 ?_
      rw [gMod_int (by omega)]
      have : (t : Int) % ((A.length : Int) + 1) = (k : Int) := by rw [← hkk]; rfl
      rw [this]
    rw [sSet_ap, e2]; rfl
  refine (seq_of s4).trans ?_
  have sh := shr_prs (f := fM M) A
  have a1 : (eSl (eVar 2) (oYes (eVar 4)) oNo) [dv (mkT .fz M), dv (di t), dv (.nd .ow .lst (A.map (prs (fM M)))), none, dv (di k)] [] = .ok (.v (.nd .ow .lst ((A.map (prs (fM M))).drop k))) [dv (mkT .fz M), dv (di t), dv (.nd .ow .lst (A.map (prs (fM M)))), none, dv (di k)] [] := by
    refine (gSl_p (ls := [dv (mkT .fz M), dv (di t), dv (.nd .ow .lst (A.map (prs (fM M)))), none, dv (di k)]) (lo := some (k : Int)) (hi := none) (r := .l 2) (p := []) (atD_l rfl) sh).trans ?_
    rw [cut_b (by rw [el]; exact hk)]
  have a2 : (eSl (eVar 2) oNo (oYes (eVar 4))) [dv (mkT .fz M), dv (di t), dv (.nd .ow .lst (A.map (prs (fM M)))), none, dv (di k)] [] = .ok (.v (.nd .ow .lst ((A.map (prs (fM M))).take k))) [dv (mkT .fz M), dv (di t), dv (.nd .ow .lst (A.map (prs (fM M)))), none, dv (di k)] [] := by
    refine (gSl_p (ls := [dv (mkT .fz M), dv (di t), dv (.nd .ow .lst (A.map (prs (fM M)))), none, dv (di k)]) (lo := none) (hi := some (k : Int)) (r := .l 2) (p := []) (atD_l rfl) sh).trans ?_
    rw [cut_a (by rw [el]; exact hk)]
  refine ret_of ?_
  refine op_of (x := .v (.nd .ow .lst ((A.map (prs (fM M))).drop k))) (y := .v (.nd .ow .lst ((A.map (prs (fM M))).take k))) a1 a2 ?_
  have l5 : A.length ≤ 5 := hA ▸ asc_len _
  rw [add_vv (by rw [← List.map_drop]; exact shr_prs _) (by rw [← List.map_take]; exact shr_prs _) (by rw [List.length_drop, List.length_take, el]; omega), ← List.map_drop, ← List.map_take, ← List.map_append]
end
end K16.V
set_option Elab.async false
set_option linter.all false
set_option maxRecDepth 100000
set_option maxHeartbeats 1000000
namespace K16.V
open VL
open GL (PV)
section
variable {ds : List Int}
theorem pick0 {ls : Ls} {e l : PE} {a : Nat} {m : Int} (hm : 0 < m) (h0 : ls[0]? = some (dv (inD' ds))) (he : e ls [] = .ok (.v (.int (a : Int))) ls []) (hl : l ls [] = .ok (.v (.int m)) ls []) : ∃ k : Nat, (k : Int) < m ∧ (eCall f_law_pick [] (aCons (eVar 0) (aCons e (aCons l aNil)))) ls [] = .ok (.v (.int (k : Int))) ls [] := by
  have hv : f_law_pick [.v (inD' ds), .v (.int (a : Int)), .v (.int m)] [] = .ok (.int (pickV ds a m)) [] := pick_ok hm
  obtain ⟨g0, g1⟩ := pickV_range (ds := ds) (i := a) (l := m) hm
  obtain ⟨k, hk⟩ := Int.eq_ofNat_of_zero_le g0
  rw [hk] at hv g1
  exact ⟨k, g1, call_of (xs := [.v (inD' ds), .v (.int (a : Int)), .v (.int m)]) (ds := [inD' ds, .int (a : Int), .int m]) (dws := []) (ios := []) (args3 (a := eVar 0) (eVar_v h0 rfl) he hl) rfl hv⟩
theorem addN {ls : Ls} {i : Nat} {a : Nat} {ci : Int} (h : ls[i]? = some (dv (di a))) (c : Nat) (hc : ci = (c : Int)) : (eOp gAdd (eVar i) (eC (.int ci))) ls [] = .ok (.v (.int ((a + c : Nat) : Int))) ls [] := by
  subst hc
  rw [show ((a + c : Nat) : Int) = (a : Int) + (c : Int) by omega]
  exact op_of (x := .v (.int (a : Int))) (y := .v (.int (c : Int))) (eVar_v h rfl) rfl gAdd_int
theorem tup2s {ls : Ls} {a b : PE} {x y : Sc} (h1 : a ls [] = .ok (.v (.sc x)) ls []) (h2 : b ls [] = .ok (.v (.sc y)) ls []) : eTup (aCons a (aCons b aNil)) ls [] = .ok (.v (.tup [.sc x, .sc y])) ls [] := by
  unfold eTup
  rw [args2 h1 h2]; rfl
theorem tup3s {ls : Ls} {a b c : PE} {x y z : Sc} (h1 : a ls [] = .ok (.v (.sc x)) ls []) (h2 : b ls [] = .ok (.v (.sc y)) ls []) (h3 : c ls [] = .ok (.v (.sc z)) ls []) : eTup (aCons a (aCons b (aCons c aNil))) ls [] = .ok (.v (.tup [.sc x, .sc y, .sc z])) ls [] := by
  unfold eTup
  rw [args3 h1 h2 h3]; rfl
theorem seqR {m1 m2 : MS} {ls gh g : Ls} {d : D} (h : m1 ls gh = .rt d g) : sSeq m1 m2 ls gh = .rt d g := by rw [sSeq_ap, h]; rfl
theorem maker_ok {a v : Nat} (hv : v < 5) : ∃ m, okM v m ∧ f_law_maker [.v (inD' ds), .v (di a), .v (di v)] [] = .ok (mkD m) [] := by
  have q4 : (toT (eOp gEq (eVar 2) (eC (.int 4)))) [dv (inD' ds), dv (di a), dv (di v)] [] = .ok (decide ((v : Int) = 4)) [dv (inD' ds), dv (di a), dv (di v)] [] := toT_of (vEqI (w := (v : Int)) (z := 4) rfl rfl)
  have p1 : (eVar 1) [dv (inD' ds), dv (di a), dv (di v)] [] = .ok (.v (.int (a : Int))) [dv (inD' ds), dv (di a), dv (di v)] [] := rfl
  by_cases h4 : v = 4
  · subst h4
    obtain ⟨k, hk, ek⟩ := pick0 (ds := ds) (ls := [dv (inD' ds), dv (di a), dv (di 4)]) (e := eVar 1) (l := eC (.int 3)) (a := a) (m := 3) (by decide) rfl p1 rfl
    have t2 : (toT (eOp gEq (eCall f_law_pick [] (aCons (eVar 0) (aCons (eVar 1) (aCons (eC (.int 3)) aNil)))) (eC (.int 2)))) [dv (inD' ds), dv (di a), dv (di 4)] [] = .ok (decide ((k : Int) = 2)) [dv (inD' ds), dv (di a), dv (di 4)] [] := toT_of (vEqI ek rfl)
    by_cases h2 : (k : Int) = 2
    · rw [decide_eq_true h2] at t2
      obtain ⟨x, hx, ex⟩ := pick0 (ds := ds) (ls := [dv (inD' ds), dv (di a), dv (di 4)]) (l := eC (.int 2)) (m := 2) (by decide) rfl (addN (i := 1) (a := a) rfl 2 rfl) rfl
      obtain ⟨y, hy, ey⟩ := pick0 (ds := ds) (ls := [dv (inD' ds), dv (di a), dv (di 4)]) (l := eC (.int 2)) (m := 2) (by decide) rfl (addN (i := 1) (a := a) rfl 4 rfl) rfl
      refine ⟨.flg x y, ⟨rfl, ⟨by omega, hx⟩, by omega, hy⟩, fnOf_rt (gh := []) rfl ?_ rfl⟩
      exact seqR ((if_yes q4).trans (seqR ((if_yes t2).trans (ret_of (tup3s (a := eC (.str n_flags)) (x := .str n_flags) rfl ex ey)))))
    · rw [decide_eq_false h2] at t2
      obtain ⟨x, hx, ex⟩ := pick0 (ds := ds) (ls := [dv (inD' ds), dv (di a), dv (di 4)]) (l := eC (.int 4)) (m := 4) (by decide) rfl (addN (i := 1) (a := a) rfl 2 rfl) rfl
      obtain ⟨y, hy, ey⟩ := pick0 (ds := ds) (ls := [dv (inD' ds), dv (di a), dv (di 4)]) (l := eC (.int 4)) (m := 4) (by decide) rfl (addN (i := 1) (a := a) rfl 4 rfl) rfl
      refine ⟨.cmp ⟨x, by omega⟩ ⟨y, by omega⟩, rfl, fnOf_rt (gh := []) rfl ?_ rfl⟩
      exact seqR ((if_yes q4).trans ((seq_of (if_no t2)).trans (ret_of (tup3s (a := eC (.str n_compare)) (x := .str n_compare) rfl ex ey))))
  · rw [decide_eq_false (by omega)] at q4
    obtain ⟨k, hk, ek⟩ := pick0 (ds := ds) (ls := [dv (inD' ds), dv (di a), dv (di v)]) (e := eVar 1) (l := eC (.int 2)) (a := a) (m := 2) (by decide) rfl p1 rfl
    have t2 : (toT (eOp gEq (eCall f_law_pick [] (aCons (eVar 0) (aCons (eVar 1) (aCons (eC (.int 2)) aNil)))) (eC (.int 1)))) [dv (inD' ds), dv (di a), dv (di v)] [] = .ok (decide ((k : Int) = 1)) [dv (inD' ds), dv (di a), dv (di v)] [] := toT_of (vEqI ek rfl)
    by_cases h2 : (k : Int) = 1
    · rw [decide_eq_true h2] at t2
      obtain ⟨x, hx, ex⟩ := pick0 (ds := ds) (ls := [dv (inD' ds), dv (di a), dv (di v)]) (l := eC (.int 256)) (m := 256) (by decide) rfl (addN (i := 1) (a := a) rfl 2 rfl) rfl
      refine ⟨.set x, ⟨by omega, by omega, hx⟩, fnOf_rt (gh := []) rfl ?_ rfl⟩
      exact (seq_of (if_no q4)).trans (seqR ((if_yes t2).trans (ret_of (tup2s (a := eC (.str n_set)) (x := .str n_set) rfl ex))))
    · rw [decide_eq_false h2] at t2
      obtain ⟨x, hx, ex⟩ := pick0 (ds := ds) (ls := [dv (inD' ds), dv (di a), dv (di v)]) (l := eC (.int 4)) (m := 4) (by decide) rfl (addN (i := 1) (a := a) rfl 2 rfl) rfl
      refine ⟨.move ⟨x, by omega⟩, by show v < 4; omega, fnOf_rt (gh := []) rfl ?_ rfl⟩
      exact (seq_of (if_no q4)).trans ((seq_of (if_no t2)).trans (ret_of (tup2s (a := eC (.str n_move)) (x := .str n_move) rfl ex)))
theorem put_new {i : Nat} {ls : Ls} {dE kE vE : PE} {K : List Nat} {f : Nat → D} {v : Nat} {d : D} (hd : dE ls [] = .ok (.pth (.l i) []) ls []) (hk : kE ls [] = .ok (.v (di v)) ls []) (hv : vE ls [] = .ok (.v d) ls []) (hs : ∀ ls gh, cvR true (.v d) ls gh = some (d, ls, gh)) (h : ls[i]? = some (dv (dcD .ow K f))) (hn : v ∉ K) (hl : K.length < 1000) (hz : ls.map (killD allT (.l i) []) = ls) :
    sDPutM dE kE vE ls [] = .nx (modN (putV (.nd .ow (.dct (KI K ++ [PV.int (v : Int)])) (K.map f ++ [d]))) i ls) [] := by
  unfold sDPutM
  rw [hv]
  show ((dE ls []).then _) = _
  rw [hd]
  show ((kE ls []).then _) = _
  rw [hk]
  show putK (.v d) (.pth (.l i) []) (.v (.int (v : Int))) ls [] = _
  have ha : atD ls [] (.l i) [] = some (dcD .ow K f) := atD_l h
  unfold putK
  show (match cvR true (.v d) ls [] with
    | some (d, ls, gh) => (match atD ls gh (.l i) [] with
      | some (.nd .ow (.dct ks) xs) => if xs.length < 1000 then (match idxK (PV.int (v : Int)) ks with
        | some j => if (idxK (PV.int (v : Int)) (ks.drop (j + 1))).isNone = true then nxD (chD (exT j) (.l i) [] (.nd .ow (.dct ks) (xs.set j d)) ls gh) else .bad
        | none => nxD (chD allT (.l i) [] (.nd .ow (.dct (ks ++ [PV.int (v : Int)])) (xs ++ [d])) ls gh)) else .bad
      | _ => .bad)
    | none => .bad) = _
  rw [hs]
  dsimp only
  rw [ha]
  show (if (K.map f).length < 1000 then (match idxK (PV.int (v : Int)) (KI K) with
        | some j => if (idxK (PV.int (v : Int)) ((KI K).drop (j + 1))).isNone = true then nxD (chD (exT j) (.l i) [] (.nd .ow (.dct (KI K)) ((K.map f).set j d)) ls []) else .bad
        | none => nxD (chD allT (.l i) [] (.nd .ow (.dct (KI K ++ [PV.int (v : Int)])) (K.map f ++ [d])) ls [])) else .bad) = _
  rw [if_pos (by rw [List.length_map]; exact hl), idx_out hn]
  dsimp only
  unfold nxD
  rw [chD_l h, hz]
  rfl
abbrev mL (ds : List Int) (K : List Nat) (M : Nat → Option Mk) (z : Option V) : Ls := [dv (inD' ds), dv (di 26), dv (dcD .ow K (fM M)), z]
abbrev mB : MS := (sIf (toT (eOp gNe (eCall f_law_pick [] (aCons (eVar 0) (aCons (eOp gAdd (eVar 1) (eOp gMul (eC (.int 7)) (eVar 3))) (aCons (eC (.int 4)) aNil)))) (eC (.int 3))))
  (sDPutM (eVar 2) (eVar 3) (eCall f_law_maker [] (aCons (eVar 0) (aCons (eOp gAdd (eOp gAdd (eVar 1) (eC (.int 1))) (eOp gMul (eC (.int 7)) (eVar 3))) (aCons (eVar 3) aNil)))))
  sNil)
def setM (M : Nat → Option Mk) (v : Nat) (m : Mk) : Nat → Option Mk := fun u => if u = v then some m else M u
theorem mk_turn {K : List Nat} {M : Nat → Option Mk} {v : Nat} (hv : v < 5) (hn : v ∉ K) (hl : K.length < 1000) :
    mB (mL ds K M (dv (di v))) [] = .nx (mL ds K M (dv (di v))) [] ∨ ∃ m, okM v m ∧ mB (mL ds K M (dv (di v))) [] = .nx (mL ds (K ++ [v]) (setM M v m) (dv (di v))) [] := by
  have m7 : (eOp gMul (eC (.int 7)) (eVar 3)) (mL ds K M (dv (di v))) [] = .ok (.v (.int ((7 * v : Nat) : Int))) (mL ds K M (dv (di v))) [] := by
    refine op_of (x := .v (.int 7)) (y := .v (di v)) rfl rfl ?_
    rw [gMul_int (.inl rfl)]
    rfl
  have a0 : (eOp gAdd (eVar 1) (eOp gMul (eC (.int 7)) (eVar 3))) (mL ds K M (dv (di v))) [] = .ok (.v (.int ((26 + 7 * v : Nat) : Int))) (mL ds K M (dv (di v))) [] := op_of (x := .v (di 26)) rfl m7 rfl
  have a1 : (eOp gAdd (eOp gAdd (eVar 1) (eC (.int 1))) (eOp gMul (eC (.int 7)) (eVar 3))) (mL ds K M (dv (di v))) [] = .ok (.v (.int ((27 + 7 * v : Nat) : Int))) (mL ds K M (dv (di v))) [] := op_of (x := .v (di 27)) rfl m7 rfl
  obtain ⟨k, hk, ek⟩ := pick0 (ds := ds) (ls := mL ds K M (dv (di v))) (l := eC (.int 4)) (m := 4) (by decide) rfl a0 rfl
  have t : (toT (eOp gNe (eCall f_law_pick [] (aCons (eVar 0) (aCons (eOp gAdd (eVar 1) (eOp gMul (eC (.int 7)) (eVar 3))) (aCons (eC (.int 4)) aNil)))) (eC (.int 3)))) (mL ds K M (dv (di v))) [] = .ok (!decide ((k : Int) = 3)) (mL ds K M (dv (di v))) [] := toT_of (vNeI ek rfl)
  by_cases h3 : (k : Int) = 3
  · rw [decide_eq_true h3] at t
    exact .inl ((if_no t).trans rfl)
  · rw [decide_eq_false h3] at t
    obtain ⟨m, hm, em⟩ := maker_ok (ds := ds) (a := 27 + 7 * v) hv
    refine .inr ⟨m, hm, (if_yes t).trans ?_⟩
    have c : (eCall f_law_maker [] (aCons (eVar 0) (aCons (eOp gAdd (eOp gAdd (eVar 1) (eC (.int 1))) (eOp gMul (eC (.int 7)) (eVar 3))) (aCons (eVar 3) aNil)))) (mL ds K M (dv (di v))) [] = .ok (.v (mkD m)) (mL ds K M (dv (di v))) [] :=
      call_of (xs := [.v (inD' ds), .v (di (27 + 7 * v)), .v (di v)]) (ds := [inD' ds, di (27 + 7 * v), di v]) (dws := []) (ios := []) (args3 (a := eVar 0) (c := eVar 3) rfl a1 rfl) rfl em
    refine (put_new (i := 2) (K := K) (f := fM M) (v := v) (d := mkD m) (dE := eVar 2) (kE := eVar 3) rfl rfl c (fun ls gh => by cases m <;> rfl) rfl hn hl rfl).trans ?_
    have e1 : KI K ++ [PV.int (v : Int)] = KI (K ++ [v]) := by unfold KI; rw [List.map_append]; rfl
    have e2 : K.map (fM M) ++ [mkD m] = (K ++ [v]).map (fM (setM M v m)) := by
      rw [List.map_append]
      have h1 : K.map (fM M) = K.map (fM (setM M v m)) := List.map_congr_left fun u hu => by
        show mkO (M u) = mkO (if u = v then some m else M u)
        have ne : u ≠ v := fun e => by subst e; exact hn hu
        rw [if_neg ne]
      rw [h1]
      congr 1
      show [mkD m] = [mkO (if v = v then some m else M v)]
      rw [if_pos rfl]; rfl
    rw [e1, e2]; rfl
theorem mk_loop : ∀ (l K : List Nat) (M : Nat → Option Mk) (z : Option V), (z = none ∨ ∃ d, z = dv d) → (∀ v ∈ l, v < 5) → (K ++ l).Nodup → (∀ v ∈ l, M v = none) → K.length + l.length < 1000 →
    ∃ M', (∀ v, v ∉ l → M' v = M v) ∧ (∀ v ∈ l, ∀ m, M' v = some m → okM v m) ∧ ∃ z', forV (gN 3) mB (l.map di) (mL ds K M z) [] = .nx (mL ds (K ++ l.filter (isM M')) M' z') []
  | [], K, M, z, _, _, _, _, _ => ⟨M, fun _ _ => rfl, (fun v hv => by cases hv), z, by rw [List.filter_nil, List.append_nil]; rfl⟩
  | v :: l, K, M, z, hz, h5, hn, hM, hl => by
    rw [List.length_cons] at hl
    have nv : v ∉ K := fun q => (List.nodup_append.mp hn).2.2 v q v List.mem_cons_self rfl
    have nl : v ∉ l := (List.nodup_cons.mp (List.nodup_append.mp hn).2.1).1
    have hg : gN 3 (.v (di v)) (mL ds K M z) [] = some (mL ds K M (dv (di v)), []) := by
      rcases hz with rfl | ⟨d, rfl⟩ <;> rfl
    rcases mk_turn (ds := ds) (K := K) (M := M) (h5 v List.mem_cons_self) nv (by omega) with t | ⟨m, hm, t⟩
    · obtain ⟨M', g1, g2, z', g3⟩ := mk_loop l K M (dv (di v)) (.inr ⟨_, rfl⟩) (fun u hu => h5 u (List.mem_cons_of_mem _ hu)) (hn.sublist (List.Sublist.append_left (List.sublist_cons_self _ _) _)) (fun u hu => hM u (List.mem_cons_of_mem _ hu)) (by omega)
      have ev : M' v = none := (g1 v nl).trans (hM v List.mem_cons_self)
      refine ⟨M', fun u hu => g1 u (fun q => hu (List.mem_cons_of_mem _ q)), fun u hu m hm => ?_, z', ?_⟩
      · rcases List.mem_cons.mp hu with rfl | hu
        · rw [ev] at hm; cases hm
        · exact g2 u hu m hm
      · rw [List.map_cons, forV_cons hg]
        dsimp only
        rw [t, loopK_nx, g3, List.filter_cons_of_neg (by show ¬ (M' v).isSome = true; rw [ev]; decide)]
    · have hn' : ((K ++ [v]) ++ l).Nodup := by rw [List.append_assoc]; exact hn
      obtain ⟨M', g1, g2, z', g3⟩ := mk_loop l (K ++ [v]) (setM M v m) (dv (di v)) (.inr ⟨_, rfl⟩) (fun u hu => h5 u (List.mem_cons_of_mem _ hu)) hn' (fun u hu => by
        show (if u = v then some m else M u) = none
        have ne : u ≠ v := fun e => by subst e; exact nl hu
        rw [if_neg ne]; exact hM u (List.mem_cons_of_mem _ hu)) (by rw [List.length_append, List.length_singleton]; omega)
      have ev : M' v = some m := (g1 v nl).trans (if_pos rfl)
      refine ⟨M', fun u hu => ?_, fun u hu m' hm' => ?_, z', ?_⟩
      · rw [g1 u (fun q => hu (List.mem_cons_of_mem _ q))]
        show (if u = v then some m else M u) = M u
        have ne : u ≠ v := fun e => by subst e; exact hu List.mem_cons_self
        rw [if_neg ne]
      · rcases List.mem_cons.mp hu with rfl | hu
        · rw [ev] at hm'; cases hm'; exact hm
        · exact g2 u hu m' hm'
      · rw [List.map_cons, forV_cons hg]
        dsimp only
        rw [t, loopK_nx, g3, List.filter_cons_of_pos (by show (M' v).isSome = true; rw [ev]; rfl), List.append_assoc]
        rfl
def OkM (M : Nat → Option Mk) : Prop := ∀ v m, M v = some m → okM v m
theorem makers_ok : ∃ M, OkM M ∧ f_law_makers [.v (inD' ds), .v (di 26)] [] = .ok (mkT .ow M) [] := by
  obtain ⟨M, g1, g2, z, g3⟩ := mk_loop (ds := ds) [0, 1, 2, 3, 4] [] (fun _ => none) none (.inl rfl) (by decide) (by decide) (fun _ _ => rfl) (by decide)
  refine ⟨M, fun v m hm => ?_, fnOf_rt (gh := []) rfl ?_ rfl⟩
  · by_cases hv : v ∈ [0, 1, 2, 3, 4]
    · exact g2 v hv m hm
    · rw [g1 v hv] at hm; cases hm
  · have it : iR1 (eC (.int 5)) (mL ds [] (fun _ => none) none) [] = .ok ([0, 1, 2, 3, 4].map di) (mL ds [] (fun _ => none) none) [] := by
      rw [← rng5]; exact iR1_of (n := 5) rfl (by decide)
    show sSeq _ (sSeq _ _) [dv (inD' ds), dv (di 26), none, none] [] = _
    refine (seq_of (ls2 := mL ds [] (fun _ => none) none) (gh2 := []) rfl).trans ?_
    refine (seq_of ((sFor_of it).trans g3)).trans ?_
    rfl
end
end K16.V
set_option Elab.async false
set_option linter.all false
set_option maxRecDepth 100000
set_option maxHeartbeats 1000000
namespace K16.V
open VL
open GL (PV)
def srcs : Mk → List Int
  | .move r => [(r.val : Int)]
  | .cmp a b => GL.sortI [(a.val : Int), (b.val : Int)]
  | _ => []
theorem srcA (m : Mk) : f_sources [.v (mkD m)] [] = .ok (.tup (intL (srcs m))) [] := by
  cases m with
  | set n => kernel_rfl
  | move r => kernel_rfl
  | flg z l => kernel_rfl
  | cmp a b =>
    have h : ∀ a b : Fin 4, f_sources [.v (mkD (.cmp a b))] [] = .ok (.tup (intL (srcs (.cmp a b)))) []
      | ⟨0, _⟩, ⟨0, _⟩ => by kernel_rfl
      | ⟨0, _⟩, ⟨1, _⟩ => by kernel_rfl
      | ⟨0, _⟩, ⟨2, _⟩ => by kernel_rfl
      | ⟨0, _⟩, ⟨3, _⟩ => by kernel_rfl
      | ⟨1, _⟩, ⟨0, _⟩ => by kernel_rfl
      | ⟨1, _⟩, ⟨1, _⟩ => by kernel_rfl
      | ⟨1, _⟩, ⟨2, _⟩ => by kernel_rfl
      | ⟨1, _⟩, ⟨3, _⟩ => by kernel_rfl
      | ⟨2, _⟩, ⟨0, _⟩ => by kernel_rfl
      | ⟨2, _⟩, ⟨1, _⟩ => by kernel_rfl
      | ⟨2, _⟩, ⟨2, _⟩ => by kernel_rfl
      | ⟨2, _⟩, ⟨3, _⟩ => by kernel_rfl
      | ⟨3, _⟩, ⟨0, _⟩ => by kernel_rfl
      | ⟨3, _⟩, ⟨1, _⟩ => by kernel_rfl
      | ⟨3, _⟩, ⟨2, _⟩ => by kernel_rfl
      | ⟨3, _⟩, ⟨3, _⟩ => by kernel_rfl
    exact h a b
theorem srcB (m : Mk) : f_law_sources [.v (mkD m)] [] = .ok (.nd .ow .lst (intL (srcs m))) [] := by
  cases m with
  | set n => kernel_rfl
  | move r => kernel_rfl
  | flg z l => kernel_rfl
  | cmp a b =>
    have h : ∀ a b : Fin 4, f_law_sources [.v (mkD (.cmp a b))] [] = .ok (.nd .ow .lst (intL (srcs (.cmp a b)))) []
      | ⟨0, _⟩, ⟨0, _⟩ => by kernel_rfl
      | ⟨0, _⟩, ⟨1, _⟩ => by kernel_rfl
      | ⟨0, _⟩, ⟨2, _⟩ => by kernel_rfl
      | ⟨0, _⟩, ⟨3, _⟩ => by kernel_rfl
      | ⟨1, _⟩, ⟨0, _⟩ => by kernel_rfl
      | ⟨1, _⟩, ⟨1, _⟩ => by kernel_rfl
      | ⟨1, _⟩, ⟨2, _⟩ => by kernel_rfl
      | ⟨1, _⟩, ⟨3, _⟩ => by kernel_rfl
      | ⟨2, _⟩, ⟨0, _⟩ => by kernel_rfl
      | ⟨2, _⟩, ⟨1, _⟩ => by kernel_rfl
      | ⟨2, _⟩, ⟨2, _⟩ => by kernel_rfl
      | ⟨2, _⟩, ⟨3, _⟩ => by kernel_rfl
      | ⟨3, _⟩, ⟨0, _⟩ => by kernel_rfl
      | ⟨3, _⟩, ⟨1, _⟩ => by kernel_rfl
      | ⟨3, _⟩, ⟨2, _⟩ => by kernel_rfl
      | ⟨3, _⟩, ⟨3, _⟩ => by kernel_rfl
    exact h a b
theorem cv_mk (m : Mk) (ls gh : Ls) : cvR true (.v (mkD m)) ls gh = some (mkD m, ls, gh) := by cases m <;> rfl
theorem cvL1 {x : RV} {d : D} {ls gh ls1 gh1 : Ls} (h : cvR true x ls gh = some (d, ls1, gh1)) : cvL true [x] ls gh = some ([d], ls1, gh1) := by simp only [cvL, h]
theorem src_few (m : Mk) : srcs m = [] ∨ (∃ x, srcs m = [x]) ∨ ∃ x y, srcs m = [x, y] := by
  cases m with
  | set n => exact .inl rfl
  | flg z l => exact .inl rfl
  | move r => exact .inr (.inl ⟨_, rfl⟩)
  | cmp a b =>
    show GL.insI (a.val : Int) [(b.val : Int)] = [] ∨ (∃ x, GL.insI (a.val : Int) [(b.val : Int)] = [x]) ∨ ∃ x y, GL.insI (a.val : Int) [(b.val : Int)] = [x, y]
    unfold GL.insI
    split
    · exact .inr (.inr ⟨_, _, rfl⟩)
    · split
      · exact .inr (.inl ⟨_, rfl⟩)
      · exact .inr (.inr ⟨_, _, rfl⟩)
theorem src_ok (m : Mk) : okD 60 (.nd .ow .lst (intL (srcs m))) = true := by
  rcases src_few m with h | ⟨x, h⟩ | ⟨x, y, h⟩ <;> rw [h] <;> rfl
theorem src_frz (m : Mk) : D.frz (.tup (intL (srcs m))) = some (.tup (intL (srcs m))) := by
  rcases src_few m with h | ⟨x, h⟩ | ⟨x, y, h⟩ <;> rw [h] <;> rfl
def okV (z : Option V) : Prop := z = none ∨ ∃ d, z = dv d
section
variable {M : Nat → Option Mk}
abbrev tL (M : Nat → Option Mk) (v : Nat) (z2 z3 : Option V) : Ls := [dv (mkT .fz M), dv (di v), z2, z3]
abbrev tC : MS := (sIf (tNotM (toT (eCall f_law_whole [] (aCons (eVar 3) aNil))))
  (sRet (eC (.bl false)))
  sNil)
theorem t_loop {v : Nat} {d2 : D} : ∀ (X : List Int) (z3 : Option V), okV z3 → ∃ z3', okV z3' ∧ forV (gN 3) tC (intL X) (tL M v (dv d2) z3) [] = .nx (tL M v (dv d2) z3') []
  | [], z3, h => ⟨z3, h, rfl⟩
  | x :: X, z3, h => by
    obtain ⟨z', h1, g⟩ := t_loop (v := v) (d2 := d2) X (dv (.int x)) (.inr ⟨_, rfl⟩)
    refine ⟨z', h1, ?_⟩
    have hg : gN 3 (.v (.int x)) (tL M v (dv d2) z3) [] = some (tL M v (dv d2) (dv (.int x)), []) := by
      rcases h with rfl | ⟨d, rfl⟩ <;> rfl
    show forV (gN 3) tC (.int x :: intL X) _ _ = _
    rw [forV_cons hg]
    exact g
abbrev tB : MS := (sIf (toT (eDIn false (eVar 1) (eVar 0)))
  (sSeq (sSet 2 (eCall f_sources [] (aCons (eDGet (eVar 0) (eVar 1)) aNil)))
  (sSeq (sIf (tOrM (tNotM (toT (eB fIsi (aCons (eVar 2) (aCons (eC (.ty .tuple)) aNil))))) (toT (eOp gNe (eB fList (aCons (eVar 2) aNil)) (eCall f_law_sources [] (aCons (eDGet (eVar 0) (eVar 1)) aNil)))))
  (sRet (eC (.bl false)))
  sNil)
  (sFor (iSeq (eVar 2)) (gN 3) tC)))
  sNil)
theorem t_turn {v : Nat} {z2 z3 : Option V} (hv : v < 5) (h2 : okV z2) (h3 : okV z3) : ∃ z2' z3', okV z2' ∧ okV z3' ∧ tB (tL M v z2 z3) [] = .nx (tL M v z2' z3') [] := by
  have q : (toT (eDIn false (eVar 1) (eVar 0))) (tL M v z2 z3) [] = .ok (decide (v ∈ asc (isM M))) (tL M v z2 z3) [] := toT_of (op_of (a := eVar 1) (b := eVar 0) (x := .v (di v)) (y := .v (mkT .fz M)) rfl rfl (gDIn_k rfl))
  by_cases hm : v ∈ asc (isM M)
  · rw [decide_eq_true hm] at q
    obtain ⟨m, em⟩ := Option.isSome_iff_exists.mp (asc_mem.mp hm).2
    have dg : ∀ z2 z3, (eDGet (eVar 0) (eVar 1)) (tL M v z2 z3) [] = .ok (.v (mkD m)) (tL M v z2 z3) [] := fun z2 z3 => by
      have e : fM M v = mkD m := by show mkO (M v) = _; rw [em]; rfl
      rw [← e]
      exact op_of (a := eVar 0) (b := eVar 1) (x := .v (mkT .fz M)) (y := .v (di v)) rfl rfl (gDGet_k (k := .fz) rfl hm (mkO_shr _))
    have dg1 : ∀ z2 z3, (aCons (eDGet (eVar 0) (eVar 1)) aNil) (tL M v z2 z3) [] = .ok [.v (mkD m)] (tL M v z2 z3) [] := fun z2 z3 => by
      rw [aCons_ap, dg]; rfl
    have c1 : (eCall f_sources [] (aCons (eDGet (eVar 0) (eVar 1)) aNil)) (tL M v z2 z3) [] = .ok (.v (.tup (intL (srcs m)))) (tL M v z2 z3) [] :=
      call_of (ds := [mkD m]) (dws := []) (ios := []) (dg1 z2 z3) (cvL1 (cv_mk m _ _)) (srcA m)
    have s2 : (sSet 2 (eCall f_sources [] (aCons (eDGet (eVar 0) (eVar 1)) aNil))) (tL M v z2 z3) [] = .nx (tL M v (dv (.tup (intL (srcs m)))) z3) [] := by
      rw [sSet_ap, c1]
      rcases h2 with rfl | ⟨d, rfl⟩ <;> rcases h3 with rfl | ⟨d', rfl⟩ <;> rfl
    have c2 : (eCall f_law_sources [] (aCons (eDGet (eVar 0) (eVar 1)) aNil)) (tL M v (dv (.tup (intL (srcs m)))) z3) [] = .ok (.v (.nd .ow .lst (intL (srcs m)))) (tL M v (dv (.tup (intL (srcs m)))) z3) [] :=
      call_of (ds := [mkD m]) (dws := []) (ios := []) (dg1 _ z3) (cvL1 (cv_mk m _ _)) (srcB m)
    have l2 : (eB fList (aCons (eVar 2) aNil)) (tL M v (dv (.tup (intL (srcs m)))) z3) [] = .ok (.v (.nd .ow .lst (intL (srcs m)))) (tL M v (dv (.tup (intL (srcs m)))) z3) [] := list_t (ls := tL M v (dv (.tup (intL (srcs m)))) z3) (gh := []) intL_shr
    have n2 : (toT (eOp gNe (eB fList (aCons (eVar 2) aNil)) (eCall f_law_sources [] (aCons (eDGet (eVar 0) (eVar 1)) aNil)))) (tL M v (dv (.tup (intL (srcs m)))) z3) [] = .ok false (tL M v (dv (.tup (intL (srcs m)))) z3) [] := by
      refine toT_of (op_of l2 c2 ?_)
      exact (same_ok (neg := true) rfl rfl (src_ok m)).trans rfl
    obtain ⟨z', hz', g⟩ := t_loop (M := M) (v := v) (d2 := .tup (intL (srcs m))) (srcs m) z3 h3
    refine ⟨dv (.tup (intL (srcs m))), z', .inr ⟨_, rfl⟩, hz', ?_⟩
    refine (if_yes q).trans ((seq_of s2).trans ((seq_of ((if_no (or_go (not_of (k := true) rfl) n2)).trans rfl)).trans ?_))
    exact (sFor_of (ds := intL (srcs m)) (ls1 := tL M v (dv (.tup (intL (srcs m)))) z3) (gh1 := []) (iSeq_of (d := .tup (intL (srcs m))) (k := .tup) rfl (src_frz m) rfl)).trans g
  · rw [decide_eq_false hm] at q
    exact ⟨z2, z3, h2, h3, (if_no q).trans rfl⟩
theorem t_all : ∀ (l : List Nat) (z1 z2 z3 : Option V), okV z1 → okV z2 → okV z3 → (∀ v ∈ l, v < 5) → ∃ z1' z2' z3', forV (gN 1) tB (l.map di) [dv (mkT .fz M), z1, z2, z3] [] = .nx [dv (mkT .fz M), z1', z2', z3'] []
  | [], z1, z2, z3, _, _, _, _ => ⟨z1, z2, z3, rfl⟩
  | v :: l, z1, z2, z3, h1, h2, h3, h5 => by
    obtain ⟨y2, y3, g2, g3, t⟩ := t_turn (M := M) (v := v) (h5 v List.mem_cons_self) h2 h3
    obtain ⟨x1, x2, x3, g⟩ := t_all l (dv (di v)) y2 y3 (.inr ⟨_, rfl⟩) g2 g3 fun u hu => h5 u (List.mem_cons_of_mem _ hu)
    refine ⟨x1, x2, x3, ?_⟩
    have hg : gN 1 (.v (di v)) [dv (mkT .fz M), z1, z2, z3] [] = some (tL M v z2 z3, []) := by
      rcases h1 with rfl | ⟨d, rfl⟩ <;> rcases h2 with rfl | ⟨d, rfl⟩ <;> rcases h3 with rfl | ⟨d, rfl⟩ <;> rfl
    rw [List.map_cons, forV_cons hg]
    dsimp only
    rw [t, loopK_nx, g]
theorem told_ok : f_law_sources_told [.v (mkT .fz M)] [] = .ok (.bl true) [] := by
  obtain ⟨x1, x2, x3, g⟩ := t_all (M := M) [0, 1, 2, 3, 4] none none none (.inl rfl) (.inl rfl) (.inl rfl) (by decide)
  refine fnOf_rt (gh := []) rfl ?_ rfl
  have it : iR1 (eC (.int 5)) [dv (mkT .fz M), none, none, none] [] = .ok ([0, 1, 2, 3, 4].map di) [dv (mkT .fz M), none, none, none] [] := by
    rw [← rng5]; exact iR1_of (n := 5) rfl (by decide)
  exact (seq_of ((sFor_of it).trans g)).trans rfl
abbrev fgD (s : St) : D := .tup [.int s.z, .int s.l]
abbrev wL (M : Nat → Option Mk) (r f : D) (s : St) (z5 z6 : Option V) : Ls := [dv r, dv f, dv (mkT .fz M), dv (rgD .ow s), dv (fgD s), z5, z6]
abbrev wI : MS := (sIf (toT (eOp gEq (eOp gIx (eVar 6) (eC (.int 0))) (eC (.str n_set))))
  (sSub (eVar 3) (eVar 5) (eOp gIx (eVar 6) (eC (.int 1))))
  (sIf (toT (eOp gEq (eOp gIx (eVar 6) (eC (.int 0))) (eC (.str n_move))))
  (sSub (eVar 3) (eVar 5) (eOp gIx (eVar 3) (eOp gIx (eVar 6) (eC (.int 1)))))
  (sIf (toT (eOp gEq (eOp gIx (eVar 6) (eC (.int 0))) (eC (.str n_compare))))
  (sSet 4 (eTup (aCons (eB fInt (aCons (eOp gEq (eOp gIx (eVar 3) (eOp gIx (eVar 6) (eC (.int 1)))) (eOp gIx (eVar 3) (eOp gIx (eVar 6) (eC (.int 2))))) aNil)) (aCons (eB fInt (aCons (eOp gLt (eOp gIx (eVar 3) (eOp gIx (eVar 6) (eC (.int 1)))) (eOp gIx (eVar 3) (eOp gIx (eVar 6) (eC (.int 2))))) aNil)) aNil))))
  (sSet 4 (eTup (aCons (eOp gIx (eVar 6) (eC (.int 1))) (aCons (eOp gIx (eVar 6) (eC (.int 2))) aNil)))))))
theorem w_set {r f : D} {s : St} {n : Int} {v : Nat} (h : v < 4) : wI (wL M r f s (dv (di v)) (dv (mkD (.set n)))) [] = .nx (wL M r f (stp s v (.set n)) (dv (di v)) (dv (mkD (.set n)))) [] := by
  match v, h with
  | 0, _ => kernel_rfl
  | 1, _ => kernel_rfl
  | 2, _ => kernel_rfl
  | 3, _ => kernel_rfl
theorem w_move {r f : D} {s : St} {v : Nat} (h : v < 4) : ∀ x : Fin 4, wI (wL M r f s (dv (di v)) (dv (mkD (.move x)))) [] = .nx (wL M r f (stp s v (.move x)) (dv (di v)) (dv (mkD (.move x)))) []
  | ⟨0, _⟩ => by
    match v, h with
    | 0, _ => kernel_rfl
    | 1, _ => kernel_rfl
    | 2, _ => kernel_rfl
    | 3, _ => kernel_rfl
  | ⟨1, _⟩ => by
    match v, h with
    | 0, _ => kernel_rfl
    | 1, _ => kernel_rfl
    | 2, _ => kernel_rfl
    | 3, _ => kernel_rfl
  | ⟨2, _⟩ => by
    match v, h with
    | 0, _ => kernel_rfl
    | 1, _ => kernel_rfl
    | 2, _ => kernel_rfl
    | 3, _ => kernel_rfl
  | ⟨3, _⟩ => by
    match v, h with
    | 0, _ => kernel_rfl
    | 1, _ => kernel_rfl
    | 2, _ => kernel_rfl
    | 3, _ => kernel_rfl
theorem w_cmp {r f : D} {s : St} : ∀ x y : Fin 4, wI (wL M r f s (dv (di 4)) (dv (mkD (.cmp x y)))) [] = .nx (wL M r f (stp s 4 (.cmp x y)) (dv (di 4)) (dv (mkD (.cmp x y)))) []
  | ⟨0, _⟩, ⟨0, _⟩ => by kernel_rfl
  | ⟨0, _⟩, ⟨1, _⟩ => by kernel_rfl
  | ⟨0, _⟩, ⟨2, _⟩ => by kernel_rfl
  | ⟨0, _⟩, ⟨3, _⟩ => by kernel_rfl
  | ⟨1, _⟩, ⟨0, _⟩ => by kernel_rfl
  | ⟨1, _⟩, ⟨1, _⟩ => by kernel_rfl
  | ⟨1, _⟩, ⟨2, _⟩ => by kernel_rfl
  | ⟨1, _⟩, ⟨3, _⟩ => by kernel_rfl
  | ⟨2, _⟩, ⟨0, _⟩ => by kernel_rfl
  | ⟨2, _⟩, ⟨1, _⟩ => by kernel_rfl
  | ⟨2, _⟩, ⟨2, _⟩ => by kernel_rfl
  | ⟨2, _⟩, ⟨3, _⟩ => by kernel_rfl
  | ⟨3, _⟩, ⟨0, _⟩ => by kernel_rfl
  | ⟨3, _⟩, ⟨1, _⟩ => by kernel_rfl
  | ⟨3, _⟩, ⟨2, _⟩ => by kernel_rfl
  | ⟨3, _⟩, ⟨3, _⟩ => by kernel_rfl
theorem w_flg {r f : D} {s : St} {z l : Int} : wI (wL M r f s (dv (di 4)) (dv (mkD (.flg z l)))) [] = .nx (wL M r f (stp s 4 (.flg z l)) (dv (di 4)) (dv (mkD (.flg z l)))) [] := by kernel_rfl
theorem w_step {r f : D} {s : St} {v : Nat} {m : Mk} (h : okM v m) : wI (wL M r f s (dv (di v)) (dv (mkD m))) [] = .nx (wL M r f (stp s v m) (dv (di v)) (dv (mkD m))) [] := by
  cases m with
  | set n => exact w_set h.1
  | move x => exact w_move h x
  | cmp a b => cases (show v = 4 from h); exact w_cmp a b
  | flg z l => cases (show v = 4 from h.1); exact w_flg
abbrev wB : MS := (sIf (toT (eDIn false (eVar 5) (eVar 2)))
  (sSeq (sSet 6 (eDGet (eVar 2) (eVar 5)))
  wI)
  sNil)
theorem w_turn {r f : D} {s : St} {v : Nat} {z6 : Option V} (hM : OkM M) (hv : v < 5) (h6 : okV z6) : ∃ z6', okV z6' ∧ wB (wL M r f s (dv (di v)) z6) [] = .nx (wL M r f (stF M s v) (dv (di v)) z6') [] := by
  have q : (toT (eDIn false (eVar 5) (eVar 2))) (wL M r f s (dv (di v)) z6) [] = .ok (decide (v ∈ asc (isM M))) (wL M r f s (dv (di v)) z6) [] := toT_of (op_of (a := eVar 5) (b := eVar 2) (x := .v (di v)) (y := .v (mkT .fz M)) rfl rfl (gDIn_k rfl))
  by_cases hm : v ∈ asc (isM M)
  · rw [decide_eq_true hm] at q
    obtain ⟨m, em⟩ := Option.isSome_iff_exists.mp (asc_mem.mp hm).2
    have dg : (eDGet (eVar 2) (eVar 5)) (wL M r f s (dv (di v)) z6) [] = .ok (.v (mkD m)) (wL M r f s (dv (di v)) z6) [] := by
      have e : fM M v = mkD m := by show mkO (M v) = _; rw [em]; rfl
      rw [← e]
      exact op_of (a := eVar 2) (b := eVar 5) (x := .v (mkT .fz M)) (y := .v (di v)) rfl rfl (gDGet_k (k := .fz) rfl hm (mkO_shr _))
    have s6 : (sSet 6 (eDGet (eVar 2) (eVar 5))) (wL M r f s (dv (di v)) z6) [] = .nx (wL M r f s (dv (di v)) (dv (mkD m))) [] := by
      rw [sSet_ap, dg]
      cases m <;> rcases h6 with rfl | ⟨d, rfl⟩ <;> rfl
    refine ⟨dv (mkD m), .inr ⟨_, rfl⟩, ?_⟩
    have es : stF M s v = stp s v m := by unfold stF; rw [em]
    rw [es]
    exact (if_yes q).trans ((seq_of s6).trans (w_step (hM v m em)))
  · rw [decide_eq_false hm] at q
    have en : M v = none := by
      cases h : M v with
      | none => rfl
      | some m => exact absurd (asc_mem.mpr ⟨hv, by show (M v).isSome = true; rw [h]; rfl⟩) hm
    have es : stF M s v = s := by unfold stF; rw [en]
    refine ⟨z6, h6, ?_⟩
    rw [es]
    exact (if_no q).trans rfl
theorem w_all {r f : D} (hM : OkM M) : ∀ (l : List Nat) (s : St) (z5 z6 : Option V), okV z5 → okV z6 → (∀ v ∈ l, v < 5) → ∃ z5' z6', forV (gN 5) wB (l.map di) (wL M r f s z5 z6) [] = .nx (wL M r f (l.foldl (stF M) s) z5' z6') []
  | [], s, z5, z6, _, _, _ => ⟨z5, z6, rfl⟩
  | v :: l, s, z5, z6, h5, h6, hl => by
    obtain ⟨y6, g6, t⟩ := w_turn (M := M) (r := r) (f := f) (s := s) hM (hl v List.mem_cons_self) h6
    obtain ⟨x5, x6, g⟩ := w_all (r := r) (f := f) hM l (stF M s v) (dv (di v)) y6 (.inr ⟨_, rfl⟩) g6 fun u hu => hl u (List.mem_cons_of_mem _ hu)
    refine ⟨x5, x6, ?_⟩
    have hg : gN 5 (.v (di v)) (wL M r f s z5 z6) [] = some (wL M r f s (dv (di v)) z6, []) := by
      rcases h5 with rfl | ⟨d, rfl⟩ <;> rcases h6 with rfl | ⟨d, rfl⟩ <;> rfl
    rw [List.map_cons, forV_cons hg]
    dsimp only
    rw [t, loopK_nx, g]
    rfl
def fin (M : Nat → Option Mk) (s : St) : St := [0, 1, 2, 3, 4].foldl (stF M) s
abbrev stD (s : St) : D := .tup [.tup [.int s.a, .int s.b, .int s.c, .int s.d], fgD s]
theorem walked_ok {s : St} (hM : OkM M) : f_law_walked [.v (rgD .fz s), .v (fgD s), .v (mkT .fz M)] [] = .ok (stD (fin M s)) [] := by
  obtain ⟨x5, x6, g⟩ := w_all (M := M) (r := rgD .fz s) (f := fgD s) hM [0, 1, 2, 3, 4] s none none (.inl rfl) (.inl rfl) (by decide)
  refine fnOf_rt (gh := []) rfl ?_ rfl
  have it : iR1 (eC (.int 5)) (wL M (rgD .fz s) (fgD s) s none none) [] = .ok ([0, 1, 2, 3, 4].map di) (wL M (rgD .fz s) (fgD s) s none none) [] := by
    rw [← rng5]; exact iR1_of (n := 5) rfl (by decide)
  refine (seq_of (ls2 := [dv (rgD .fz s), dv (fgD s), dv (mkT .fz M), dv (rgD .ow s), none, none, none]) (gh2 := []) rfl).trans ?_
  refine (seq_of (ls2 := wL M (rgD .fz s) (fgD s) s none none) (gh2 := []) rfl).trans ?_
  exact (seq_of ((sFor_of it).trans g)).trans rfl
theorem fin_asc (s : St) : (asc (isM M)).foldl (stF M) s = fin M s := by
  unfold fin asc
  have h : ∀ (l : List Nat) (s : St), (l.filter (isM M)).foldl (stF M) s = l.foldl (stF M) s := by
    intro l
    induction l with
    | nil => intro s; rfl
    | cons v l ih =>
      intro s
      cases hm : M v with
      | none =>
        rw [List.filter_cons_of_neg (by show ¬ (M v).isSome = true; rw [hm]; decide), ih]
        show _ = l.foldl (stF M) (stF M s v)
        have : stF M s v = s := by unfold stF; rw [hm]
        rw [this]
      | some m =>
        rw [List.filter_cons_of_pos (by show (M v).isSome = true; rw [hm]; rfl)]
        exact ih _
  exact h _ s
end
end K16.V
set_option Elab.async false
set_option linter.all false
set_option maxRecDepth 100000
set_option maxHeartbeats 1000000
namespace K16.V
open VL
open GL (PV)
section
variable {M : Nat → Option Mk} {ds : List Int}
def stV : Option Nat → D
  | none => .non
  | some p => di p
def pcS : Option Nat → Int
  | none => 0
  | some p => (p : Int)
def haS (o : Option Nat) : Bool := o.isNone
theorem start_ok : ∃ o, f_law_start [.v (inD' ds)] [] = .ok (stV o) [] := by
  obtain ⟨k, hk, ek⟩ := pick0 (ds := ds) (ls := [dv (inD' ds)]) (e := eC (.int 2)) (l := eC (.int 4)) (a := 2) (m := 4) (by decide) rfl rfl rfl
  have t2 : (toT (eOp gEq (eCall f_law_pick [] (aCons (eVar 0) (aCons (eC (.int 2)) (aCons (eC (.int 4)) aNil)))) (eC (.int 3)))) [dv (inD' ds)] [] = .ok (decide ((k : Int) = 3)) [dv (inD' ds)] [] := toT_of (vEqI ek rfl)
  by_cases h : (k : Int) = 3
  · rw [decide_eq_true h] at t2
    exact ⟨none, fnOf_rt (gh := []) rfl (seqR ((if_yes t2).trans rfl)) rfl⟩
  · rw [decide_eq_false h] at t2
    obtain ⟨x, hx, ex⟩ := pick0 (ds := ds) (ls := [dv (inD' ds)]) (e := eC (.int 0)) (l := eC (.int 64)) (a := 0) (m := 64) (by decide) rfl rfl rfl
    exact ⟨some x, fnOf_rt (gh := []) rfl ((seq_of (if_no t2)).trans (ret_of ex)) rfl⟩
def z0 : St := ⟨0, 0, 0, 0, 0, 0⟩
theorem conv2 {r : Rt} {x : RV} {d : D} {ls gh ls2 gh2 : Ls} (hc : cvR true x ls gh = some (d, ls2, gh2)) : convM r [] [1, 0] [.pth r [], x] ls gh = some ([.al (.g 0) [], .v d], ls2, gh2) := by
  have e : convM r [] [0] [x] ls gh = some ([.v d], ls2, gh2) := by
    simp only [convM, hc]
  have c : cut [] [] = some [] := rfl
  simp only [convM, c, if_true, hc]
theorem flushM {i j : Nat} {ls : Ls} {d0 : D} {pc : Int} {hal : Bool} {s : St} {e2 : PE} {K A : List Nat} (hd : DS d0 K M) (hs : Srt K A) (h : ∀ v ∈ A, v ∈ K ∧ ∃ m, M v = some m ∧ okM v m) (hi : ls[i]? = some (dv (prD .ow pc hal s)))
    {x : RV} {ls2 : Ls} (he : e2 ls [] = .ok x ls []) (hc : convM (.l i) [] [1, 0] [.pth (.l i) [], x] ls [] = some ([.al (.g 0) [], .v d0], ls2, [])) (hi2 : ls2[i]? = some (dv (prD .ow pc hal s))) :
    (eCallM f_flush [1, 0] [] (aCons (eVar i) (aCons e2 aNil))) ls [] = wroteV .non topT (.l i) [] (prD .ow pc hal (A.foldl (stF M) s)) ls2 [] :=
  callM_of (fn := f_flush) (ms := [1, 0]) (dws := []) (args2 (a := eVar i) (b := e2) (eVar_o hi rfl) he) rfl hc (atD_l hi2) rfl (flush_ok hd hs h)
theorem M4 (z l : Int) : DS (.nd .ow .lst [.tup [.int 4, .tup [.str n_flags, .int z, .int l]]]) [4] (setM (fun _ => none) 4 (.flg z l)) := ds_ow (r := .lst) (K := [4]) (M := setM (fun _ => none) 4 (.flg z l)) (by decide)
theorem proc_ok {s : St} (h : (0 ≤ s.z ∧ s.z < 2) ∧ 0 ≤ s.l ∧ s.l < 2) {o : Option Nat} (ho : f_law_start [.v (inD' ds)] [] = .ok (stV o) []) : f_law_processor [.v (inD' ds), .v (rgD .fz s), .v (fgD s)] [] = .ok (prD .ow (pcS o) (haS o) s) [] := by
  refine fnOf_rt (gh := []) rfl ?_ rfl
  have c : (aCons (eCall f_law_start [] (aCons (eVar 0) aNil)) aNil) [dv (inD' ds), dv (rgD .fz s), dv (fgD s), none, none] [] = .ok [.v (stV o)] [dv (inD' ds), dv (rgD .fz s), dv (fgD s), none, none] [] := by
    have c1 : (eCall f_law_start [] (aCons (eVar 0) aNil)) [dv (inD' ds), dv (rgD .fz s), dv (fgD s), none, none] [] = .ok (.v (stV o)) [dv (inD' ds), dv (rgD .fz s), dv (fgD s), none, none] [] := call_of (xs := [.v (inD' ds)]) (ds := [inD' ds]) (dws := []) (ios := []) rfl rfl ho
    rw [aCons_ap, c1]; rfl
  have s3 : (sSet 3 (eMake n_Processor f_Processor_init [] (aCons (eCall f_law_start [] (aCons (eVar 0) aNil)) aNil))) [dv (inD' ds), dv (rgD .fz s), dv (fgD s), none, none] [] = .nx [dv (inD' ds), dv (rgD .fz s), dv (fgD s), dv (prD .ow (pcS o) (haS o) z0), none] [] := by
    unfold eMake
    rw [sSet_ap, c]
    cases o <;> kernel_rfl
  refine (seq_of s3).trans ?_
  have s4 : (sFor (iR1 (eC (.int 4))) (gN 4) (sSub (eFld tab n_regs (eVar 3)) (eVar 4) (eOp gIx (eVar 1) (eVar 4)))) [dv (inD' ds), dv (rgD .fz s), dv (fgD s), dv (prD .ow (pcS o) (haS o) z0), none] [] = .nx [dv (inD' ds), dv (rgD .fz s), dv (fgD s), dv (prD .ow (pcS o) (haS o) ⟨s.a, s.b, s.c, s.d, 0, 0⟩), dv (.int 3)] [] := by kernel_rfl
  refine (seq_of s4).trans ?_
  have f5 := flushM (i := 3) (j := 0) (ls := [dv (inD' ds), dv (rgD .fz s), dv (fgD s), dv (prD .ow (pcS o) (haS o) ⟨s.a, s.b, s.c, s.d, 0, 0⟩), dv (.int 3)]) (s := ⟨s.a, s.b, s.c, s.d, 0, 0⟩) (pc := pcS o) (hal := haS o) (e2 := (eLst (aCons (eTup (aCons (eC (.int 4)) (aCons (eTup (aCons (eC (.str n_flags)) (aCons (eOp gIx (eVar 2) (eC (.int 0))) (aCons (eOp gIx (eVar 2) (eC (.int 1))) aNil)))) aNil))) aNil))) (M4 s.z s.l) srt_4 (fun v hv => ⟨hv, .flg s.z s.l, by
    rw [List.mem_singleton.mp hv]; rfl, by
    rw [List.mem_singleton.mp hv]; exact ⟨rfl, h⟩⟩) rfl (x := .v (.nd .ow .lst [.tup [.int 4, .tup [.str n_flags, .int s.z, .int s.l]]])) (by kernel_rfl) (ls2 := [dv (inD' ds), dv (rgD .fz s), dv (fgD s), dv (prD .ow (pcS o) (haS o) ⟨s.a, s.b, s.c, s.d, 0, 0⟩), dv (.int 3)]) (by kernel_rfl) rfl
  have s5 : (sExpr (eCallM f_flush [1, 0] [] (aCons (eVar 3) (aCons (eLst (aCons (eTup (aCons (eC (.int 4)) (aCons (eTup (aCons (eC (.str n_flags)) (aCons (eOp gIx (eVar 2) (eC (.int 0))) (aCons (eOp gIx (eVar 2) (eC (.int 1))) aNil)))) aNil))) aNil)) aNil)))) [dv (inD' ds), dv (rgD .fz s), dv (fgD s), dv (prD .ow (pcS o) (haS o) ⟨s.a, s.b, s.c, s.d, 0, 0⟩), dv (.int 3)] [] = .nx [dv (inD' ds), dv (rgD .fz s), dv (fgD s), dv (prD .ow (pcS o) (haS o) s), dv (.int 3)] [] := by
    rw [sExpr_ap, f5]
    rfl
  exact (seq_of s5).trans rfl
theorem flushed_ok {r : Src} {k : Fl} {K A : List Nat} {pc : Int} {hal : Bool} {s : St} (hk : k = .fz ∨ k = .ow) (hn : K.Nodup) (hs : Srt K A) (h : ∀ v ∈ A, v ∈ K ∧ ∃ m, M v = some m ∧ okM v m) :
    f_flushed [.v (prD .fz pc hal s), .v (srD r k K M)] [] = .ok (prD .ow pc hal (A.foldl (stF M) s)) [] := by
  refine fnOf_rt (gh := []) rfl ?_ rfl
  have s2 : (sSet 2 (eMethN n_Processor n_copy f_Processor_copy [] (eVar 0) aNil)) [dv (prD .fz pc hal s), dv (srD r k K M), none] [] = .nx [dv (prD .fz pc hal s), dv (srD r k K M), dv (prD .ow pc hal s)] [] := by kernel_rfl
  refine (seq_of s2).trans ?_
  have s5 : (sExpr (eCallM f_flush [1, 0] [] (aCons (eVar 2) (aCons (eVar 1) aNil)))) [dv (prD .fz pc hal s), dv (srD r k K M), dv (prD .ow pc hal s)] [] = .nx [dv (prD .fz pc hal s), dv (srD r .fz K M), dv (prD .ow pc hal (A.foldl (stF M) s))] [] := by
    rcases hk with rfl | rfl
    · have f5 := flushM (i := 2) (j := 0) (ls := [dv (prD .fz pc hal s), dv (srD r .fz K M), dv (prD .ow pc hal s)]) (s := s) (pc := pc) (hal := hal) (e2 := eVar 1) (ds_fz (r := r) hn) hs h rfl (x := .v (srD r .fz K M)) (eVar_v rfl (sr_fz r K M)) (ls2 := [dv (prD .fz pc hal s), dv (srD r .fz K M), dv (prD .ow pc hal s)]) (by cases r <;> rfl) rfl
      rw [sExpr_ap, f5]
      rfl
    · have f5 := flushM (i := 2) (j := 0) (ls := [dv (prD .fz pc hal s), dv (srD r .ow K M), dv (prD .ow pc hal s)]) (s := s) (pc := pc) (hal := hal) (e2 := eVar 1) (ds_fz (r := r) hn) hs h rfl (x := .pth (.l 1) []) (eVar_o rfl (sr_ow r K M)) (ls2 := [dv (prD .fz pc hal s), dv (srD r .fz K M), dv (prD .ow pc hal s)]) (by
        exact conv2 ((cv_l (i := 1) rfl (sr_ow r K M) (sr_frz r K M)).trans rfl)) rfl
      rw [sExpr_ap, f5]
      rfl
  exact (seq_of s5).trans rfl
end
end K16.V
set_option Elab.async false
set_option linter.all false
set_option maxRecDepth 100000
set_option maxHeartbeats 1000000
namespace K16.V
open VL
open GL (PV)
section
variable {fn : MF} {dws : List PV} {args : PA} {ls gh ls1 gh1 : Ls} {xs : List RV} {ds : List D} {r : D} {k : Ks}
theorem callN_of (ha : args ls gh = .ok xs ls1 gh1) (hc : bwNs xs ls1 gh1 = some (ds, k)) {ios : List D} (hf : fn ((ds ++ dOfs dws).map .v) [] = .ok r ios) (hn : noK k r = true) : eCallN fn dws args ls gh = .ok (.v r) ls1 gh1 := by
  unfold eCallN
  rw [ha, bind_ok]
  unfold callN
  rw [hc]
  dsimp only
  rw [hf]
  dsimp only
  rw [if_pos hn]
theorem bw_p {i : Nat} {d e : D} (h : ls[i]? = some (dv d)) (hs : d.shr = false) (hz : D.frz d = some e) : bwN (.pth (.l i) []) ls gh = some (e, kinds d) := by
  unfold bwN
  dsimp only
  rw [show atD ls gh (.l i) [] = some d from atD_l h]
  dsimp only
  rw [if_neg (by rw [hs]; decide), hz]; rfl
theorem bw2 {x y : RV} {a b : D × Ks} (h1 : bwN x ls gh = some a) (h2 : bwN y ls gh = some b) : bwNs [x, y] ls gh = some ([a.1, b.1], a.2 ++ (b.2 ++ [])) := by
  simp only [bwNs, h1, h2]
theorem bw3 {x y z : RV} {a b c : D × Ks} (h1 : bwN x ls gh = some a) (h2 : bwN y ls gh = some b) (h3 : bwN z ls gh = some c) : bwNs [x, y, z] ls gh = some ([a.1, b.1, c.1], a.2 ++ (b.2 ++ (c.2 ++ []))) := by
  simp only [bwNs, h1, h2, h3]
end
theorem pr_frz {pc : Int} {hal : Bool} {s : St} : D.frz (prD .ow pc hal s) = some (prD .fz pc hal s) := rfl
theorem pr_noK (k : Ks) {pc : Int} {hal : Bool} {s : St} : noK k (prD .ow pc hal s) = true := rfl
section
variable {M : Nat → Option Mk} {ds : List Int}
theorem stands_ok {k : Fl} (hk : k = .fz ∨ k = .ow) {s : St} {o : Option Nat} (ho : f_law_start [.v (inD' ds)] [] = .ok (stV o) []) : f_law_stands [.v (prD k (pcS o) (haS o) s), .v (inD' ds), .v (stD s)] [] = .ok (.bl true) [] := by
  refine fnOf_rt (gh := []) rfl ?_ rfl
  have c1 : (eCall f_law_start [] (aCons (eVar 1) aNil)) [dv (prD k (pcS o) (haS o) s), dv (inD' ds), dv (stD s), none, none, none] [] = .ok (.v (stV o)) [dv (prD k (pcS o) (haS o) s), dv (inD' ds), dv (stD s), none, none, none] [] := call_of (xs := [.v (inD' ds)]) (ds := [inD' ds]) (dws := []) (ios := []) rfl rfl ho
  have s3 : (sSet 3 (eCall f_law_start [] (aCons (eVar 1) aNil))) [dv (prD k (pcS o) (haS o) s), dv (inD' ds), dv (stD s), none, none, none] [] = .nx [dv (prD k (pcS o) (haS o) s), dv (inD' ds), dv (stD s), dv (stV o), none, none] [] := by
    rw [sSet_ap, c1]
    cases o <;> rfl
  refine (seq_of s3).trans ?_
  refine (seq_of (ls2 := [dv (prD k (pcS o) (haS o) s), dv (inD' ds), dv (stD s), dv (stV o), dv (.int 0), none]) (gh2 := []) (by cases o <;> rfl)).trans ?_
  refine (seq_of (ls2 := [dv (prD k (pcS o) (haS o) s), dv (inD' ds), dv (stD s), dv (stV o), dv (.int (pcS o)), none]) (gh2 := []) (by cases o <;> rfl)).trans ?_
  have t : (toT (eOp gNe (eMethN n_Processor n_key f_Processor_key [] (eVar 0) aNil) (eTup (aCons (eVar 4) (aCons (eOp gIx (eVar 2) (eC (.int 0))) (aCons (eOp gIx (eVar 2) (eC (.int 1))) (aCons (eC (.int 1)) (aCons (eC (.bl false)) (aCons (eC (.bl false)) (aCons (eTup (aCons (eC (.int 0)) (aCons (eC (.int 1)) (aCons (eC (.bl false)) aNil)))) (aCons (eOp (VL.isM false) (eVar 3) (eC .non)) aNil))))))))))) [dv (prD k (pcS o) (haS o) s), dv (inD' ds), dv (stD s), dv (stV o), dv (.int (pcS o)), none] [] = .ok false [dv (prD k (pcS o) (haS o) s), dv (inD' ds), dv (stD s), dv (stV o), dv (.int (pcS o)), none] [] := by
    have e1 : (eMethN n_Processor n_key f_Processor_key [] (eVar 0) aNil) [dv (prD k (pcS o) (haS o) s), dv (inD' ds), dv (stD s), dv (stV o), dv (.int (pcS o)), none] [] = .ok (.v (.tup [.int (pcS o), .tup [.int s.a, .int s.b, .int s.c, .int s.d], fgD s, .int 1, .bl false, .bl false, .tup [.int 0, .int 1, .bl false], .bl (haS o)])) [dv (prD k (pcS o) (haS o) s), dv (inD' ds), dv (stD s), dv (stV o), dv (.int (pcS o)), none] [] := by
      rcases hk with rfl | rfl <;> kernel_rfl
    have e2 : (eTup (aCons (eVar 4) (aCons (eOp gIx (eVar 2) (eC (.int 0))) (aCons (eOp gIx (eVar 2) (eC (.int 1))) (aCons (eC (.int 1)) (aCons (eC (.bl false)) (aCons (eC (.bl false)) (aCons (eTup (aCons (eC (.int 0)) (aCons (eC (.int 1)) (aCons (eC (.bl false)) aNil)))) (aCons (eOp (VL.isM false) (eVar 3) (eC .non)) aNil))))))))) [dv (prD k (pcS o) (haS o) s), dv (inD' ds), dv (stD s), dv (stV o), dv (.int (pcS o)), none] [] = .ok (.v (.tup [.int (pcS o), .tup [.int s.a, .int s.b, .int s.c, .int s.d], fgD s, .int 1, .bl false, .bl false, .tup [.int 0, .int 1, .bl false], .bl (haS o)])) [dv (prD k (pcS o) (haS o) s), dv (inD' ds), dv (stD s), dv (stV o), dv (.int (pcS o)), none] [] := by
      cases o <;> kernel_rfl
    refine toT_of (op_of e1 e2 ?_)
    exact (same_ok (neg := true) rfl rfl rfl).trans rfl
  refine (seq_of ((if_no t).trans rfl)).trans ?_
  have l : (sFor (iSeq (eOp gAdd (eB fList (aCons (eFld tab n_regs (eVar 0)) aNil)) (eLst (aCons (eFld tab n_zero (eVar 0)) (aCons (eFld tab n_less (eVar 0)) aNil))))) (gN 5)
  (sIf (tNotM (toT (eCall f_law_whole [] (aCons (eVar 5) aNil))))
  (sRet (eC (.bl false)))
  sNil)) [dv (prD k (pcS o) (haS o) s), dv (inD' ds), dv (stD s), dv (stV o), dv (.int (pcS o)), none] [] = .nx [dv (prD k (pcS o) (haS o) s), dv (inD' ds), dv (stD s), dv (stV o), dv (.int (pcS o)), dv (.int s.l)] [] := by
    rcases hk with rfl | rfl <;> cases o <;> kernel_rfl
  exact (seq_of l).trans rfl
theorem okD_mk60 (m : Mk) : okD 60 (mkD m) = true := by cases m <;> kernel_rfl
theorem okD_mk58 (m : Mk) : okD 58 (mkD m) = true := by cases m <;> kernel_rfl
theorem okD_m60 (M : Nat → Option Mk) (v : Nat) : okD 60 (fM M v) = true := by
  show okD 60 (mkO (M v)) = true
  cases M v with
  | none => rfl
  | some m => exact okD_mk60 m
theorem okD_m58 (M : Nat → Option Mk) (v : Nat) : okD 58 (fM M v) = true := by
  show okD 58 (mkO (M v)) = true
  cases M v with
  | none => rfl
  | some m => exact okD_mk58 m
theorem eqDV_self {K : List Nat} : eqDV (KI K) (K.map (fM M)) (KI K) (K.map (fM M)) = true := by
  unfold eqDV
  rw [Bool.and_eq_true]
  refine ⟨decide_eq_true rfl, ?_⟩
  rw [List.all_eq_true]
  have key : ∀ L : List Nat, (∀ v ∈ L, v ∈ K) → ∀ p ∈ (KI L).zip (L.map (fM M)), (match (idxK p.1 (KI K)).bind fun i => (K.map (fM M))[i]? with
    | some u => (match datD 60 p.2, datD 60 u with
      | some d, some e => PySem.PyData.eqv d e
      | _, _ => false)
    | none => false) = true := by
    intro L
    induction L with
    | nil => intro _ p hp; cases hp
    | cons v L ih =>
      intro h p hp
      rcases List.mem_cons.mp (show p ∈ (PV.int (v : Int), fM M v) :: (KI L).zip (L.map (fM M)) from hp) with rfl | hp
      · obtain ⟨i, h1, h2⟩ := idx_in (h v List.mem_cons_self)
        dsimp only
        rw [h1]
        show (match (K.map (fM M))[i]? with
          | some u => (match datD 60 (fM M v), datD 60 u with
            | some d, some e => PySem.PyData.eqv d e
            | _, _ => false)
          | none => false) = true
        rw [List.getElem?_map, h2]
        obtain ⟨t, e1, e2⟩ := okD_dat 60 (fM M v) (okD_m60 M v)
        show (match datD 60 (fM M v), datD 60 (fM M v) with
            | some d, some e => PySem.PyData.eqv d e
            | _, _ => false) = true
        rw [e1]
        exact PySem.SeqAt.eqv_refl_plain t e2
      · exact ih (fun u hu => h u (List.mem_cons_of_mem _ hu)) p hp
  exact key K fun v h => h
theorem eqDM_self {neg : Bool} {k k' : Fl} {K : List Nat} {x y : RV} {ls gh : Ls} (hx : val x ls gh = some (dcD k K (fM M))) (hy : val y ls gh = some (dcD k' K (fM M))) : eqDM neg x y ls gh = .ok (.v (.bl (!neg))) ls gh := by
  unfold eqDM
  rw [hx, hy]
  show (if eqDV (KI K) (K.map (fM M)) (KI K) (K.map (fM M)) = true then Out.ok (RV.v (.bl (!neg))) ls gh else .bad) = _
  rw [if_pos eqDV_self]
theorem okD_prs (L : List Nat) (k : Fl) : okD 60 (.nd k .lst (L.map (prs (fM M)))) = true := by
  show (L.map (prs (fM M))).all (okD 59) = true
  rw [List.all_map, List.all_eq_true]
  intro v _
  show ([D.int (v : Int), fM M v].all (okD 58)) = true
  rw [List.all_cons, List.all_cons, okD_m58 M v]
  rfl
end
end K16.V
set_option Elab.async false
set_option linter.all false
set_option maxRecDepth 100000
set_option maxHeartbeats 1000000
namespace K16.V
open VL
open GL (PV)
abbrev o0 : MS := (sSet 4 (eCall f_law_walked [] (aCons (eVar 1) (aCons (eVar 2) (aCons (eVar 3) aNil)))))
abbrev o1 : MS := (sSet 5 (eCall f_law_processor [] (aCons (eVar 0) (aCons (eVar 1) (aCons (eVar 2) aNil)))))
abbrev o2 : MS := (sSet 6 (eB fDictC (aCons (eVar 3) aNil)))
abbrev o3 : MS := (sSet 7 (eCallN f_flushed [] (aCons (eVar 5) (aCons (eVar 6) aNil))))
abbrev o4 : MS := (sIf (tOrM (toT (eOp gNeD (eVar 6) (eVar 3))) (tOrM (tNotM (toT (eCallN f_law_stands [] (aCons (eVar 7) (aCons (eVar 0) (aCons (eVar 4) aNil)))))) (tNotM (toT (eCallN f_law_stands [] (aCons (eVar 5) (aCons (eVar 0) (aCons (eTup (aCons (eB fTuple (aCons (eVar 1) aNil)) (aCons (eVar 2) aNil))) aNil)))))))) (sRet (eC (.bl false))) sNil)
abbrev o5 : MS := (sSub (eFld tab n_regs (eVar 7)) (eC (.int 2)) (eOp gMod (eB fInt (aCons (eOp gAdd (eOp gIx (eOp gIx (eVar 4) (eC (.int 0))) (eC (.int 2))) (eC (.int 1))) aNil)) (eC (.int 256))))
abbrev o6 : MS := (sSet 8 (eCall f_law_pairs [] (aCons (eVar 3) (aCons (eCall f_law_pick [] (aCons (eVar 0) (aCons (eC (.int 12)) (aCons (eC (.int 6)) aNil)))) aNil))))
abbrev o7 : MS := (sSet 9 (eB fList (aCons (eVar 8) aNil)))
abbrev o8 : MS := (sIf (tOrM (tNotM (toT (eCallN f_law_stands [] (aCons (eCallN f_flushed [] (aCons (eVar 5) (aCons (eVar 8) aNil))) (aCons (eVar 0) (aCons (eVar 4) aNil)))))) (toT (eOp gNe (eVar 8) (eVar 9)))) (sRet (eC (.bl false))) sNil)
abbrev o9 : MS := (sIf (tNotM (toT (eCallN f_law_stands [] (aCons (eCallN f_flushed [] (aCons (eVar 5) (aCons eDNew aNil))) (aCons (eVar 0) (aCons (eTup (aCons (eB fTuple (aCons (eVar 1) aNil)) (aCons (eVar 2) aNil))) aNil)))))) (sRet (eC (.bl false))) sNil)
abbrev o10 : MS := (sIf (tOrM (toT (eOp (VL.isM true) (eCallM f_flush [1, 0] [] (aCons (eVar 5) (aCons eTupP0 aNil))) (eC .non))) (tNotM (toT (eCallN f_law_stands [] (aCons (eVar 5) (aCons (eVar 0) (aCons (eTup (aCons (eB fTuple (aCons (eVar 1) aNil)) (aCons (eVar 2) aNil))) aNil))))))) (sRet (eC (.bl false))) sNil)
abbrev o11 : MS := (sIf (tOrM (toT (eOp (VL.isM true) (eCallM f_flush [1, 0] [] (aCons (eVar 5) (aCons (eB fTupP (aCons (eRev (eVar 8)) aNil)) aNil))) (eC .non))) (tNotM (toT (eCallN f_law_stands [] (aCons (eVar 5) (aCons (eVar 0) (aCons (eVar 4) aNil))))))) (sRet (eC (.bl false))) sNil)
abbrev o12 : MS := (sSet 10 (eCall f_law_processor [] (aCons (eVar 0) (aCons (eVar 1) (aCons (eVar 2) aNil)))))
abbrev o13 : MS := (sExpr (eCallM f_flush [1, 0] [] (aCons (eVar 10) (aCons (eVar 6) aNil))))
abbrev o14 : MS := (sRet (eAndM (eOp gEqD (eVar 6) (eVar 3)) (eCallN f_law_stands [] (aCons (eVar 10) (aCons (eVar 0) (aCons (eVar 4) aNil))))))
theorem or_go2 {t u : PT} {ls gh ls1 gh1 ls2 gh2 : Ls} {k : Bool} (h : t ls gh = .ok false ls1 gh1) (h2 : u ls1 gh1 = .ok k ls2 gh2) : tOrM t u ls gh = .ok k ls2 gh2 := by rw [tOrM_ap, h]; exact h2
theorem op_of2 {g : G2} {a b : PE} {x y : RV} {ls gh ls1 gh1 : Ls} {r : Out RV} (ha : a ls gh = .ok x ls1 gh1) (hb : b ls1 gh1 = .ok y ls1 gh1) (h : g x y ls1 gh1 = r) : eOp g a b ls gh = r := by rw [eOp_ap, ha, bind_ok, hb, bind_ok, h]
theorem if_no3 {t : PT} {m1 : MS} {ls gh ls2 gh2 : Ls} (h : t ls gh = .ok false ls2 gh2) : sIf t m1 sNil ls gh = .nx ls2 gh2 := by rw [sIf_ap, h]; rfl
theorem toT_k {e : PE} {k : Bool} {ls gh ls2 gh2 : Ls} (h : e ls gh = .ok (.v (.bl k)) ls2 gh2) : toT e ls gh = .ok k ls2 gh2 := by rw [toT_ap, h]; rfl
section
variable {M : Nat → Option Mk} {ds : List Int} {s : St}
abbrev oL (M : Nat → Option Mk) (ds : List Int) (s : St) (x4 x5 x6 x7 x8 x9 x10 : Option V) : Ls := [dv (inD' ds), dv (rgD .fz s), dv (fgD s), dv (mkT .fz M), x4, x5, x6, x7, x8, x9, x10]
theorem st_call {a c : PE} {x : RV} {ls : Ls} {k : Fl} {kk : Ks} {e : St} {o : Option Nat} (ho : f_law_start [.v (inD' ds)] [] = .ok (stV o) []) (hk : k = .fz ∨ k = .ow) (ha : a ls [] = .ok x ls []) (hb : bwN x ls [] = some (prD k (pcS o) (haS o) e, kk)) (h0 : ls[0]? = some (dv (inD' ds))) (hc : c ls [] = .ok (.v (stD e)) ls []) :
    (eCallN f_law_stands [] (aCons a (aCons (eVar 0) (aCons c aNil)))) ls [] = .ok (.v (.bl true)) ls [] :=
  callN_of (dws := []) (ios := []) (args3 (b := eVar 0) ha (eVar_v h0 rfl) hc) (bw3 hb (b := (inD' ds, [])) rfl (c := (stD e, [])) rfl) (stands_ok hk ho) rfl
theorem fd_call {a b : PE} {x y : RV} {ls : Ls} {r : Src} {k : Fl} {k1 k2 : Ks} {K A : List Nat} {pc : Int} {hal : Bool} {e : St} (hk : k = .fz ∨ k = .ow) (hn : K.Nodup) (hs : Srt K A) (h : ∀ v ∈ A, v ∈ K ∧ ∃ m, M v = some m ∧ okM v m)
    (ha : a ls [] = .ok x ls []) (hb : b ls [] = .ok y ls []) (h1 : bwN x ls [] = some (prD .fz pc hal e, k1)) (h2 : bwN y ls [] = some (srD r k K M, k2)) :
    (eCallN f_flushed [] (aCons a (aCons b aNil))) ls [] = .ok (.v (prD .ow pc hal (A.foldl (stF M) e))) ls [] :=
  callN_of (dws := []) (ios := []) (args2 ha hb) (bw2 h1 h2) (flushed_ok hk hn hs h) (pr_noK _)
theorem mem_h (hM : OkM M) {K : List Nat} (hp : ∀ v, v ∈ asc (isM M) → v ∈ K) : ∀ v ∈ asc (isM M), v ∈ K ∧ ∃ m, M v = some m ∧ okM v m := fun v hv => by
  obtain ⟨m, em⟩ := Option.isSome_iff_exists.mp (asc_mem.mp hv).2
  exact ⟨hp v hv, m, em, hM v m em⟩
theorem one_ok (hM : OkM M) (hz : (0 ≤ s.z ∧ s.z < 2) ∧ 0 ≤ s.l ∧ s.l < 2) : f_law_one_state [.v (inD' ds), .v (rgD .fz s), .v (fgD s), .v (mkT .fz M)] [] = .ok (.bl true) [] := by
  obtain ⟨o, ho⟩ := start_ok (ds := ds)
  have hw := walked_ok (M := M) (s := s) hM
  have hfa := fin_asc (M := M) s
  have hpr := proc_ok (ds := ds) (s := s) hz ho
  generalize fin M s = e at hw hfa
  have hA := mem_h hM (K := asc (isM M)) fun v h => h
  refine fnOf_rt (gh := []) rfl ?_ rfl
  show sSeq o0 (sSeq o1 (sSeq o2 (sSeq o3 (sSeq o4 (sSeq o5 (sSeq o6 (sSeq o7 (sSeq o8 (sSeq o9 (sSeq o10 (sSeq o11 (sSeq o12 (sSeq o13 o14))))))))))))) (oL M ds s none none none none none none none) [] = _
  have r0 : o0 (oL M ds s none none none none none none none) [] = .nx (oL M ds s (dv (stD e)) none none none none none none) [] := by
    have c : (eCall f_law_walked [] (aCons (eVar 1) (aCons (eVar 2) (aCons (eVar 3) aNil)))) (oL M ds s none none none none none none none) [] = .ok (.v (stD e)) (oL M ds s none none none none none none none) [] :=
      call_of (xs := [.v (rgD .fz s), .v (fgD s), .v (mkT .fz M)]) (ds := [rgD .fz s, fgD s, mkT .fz M]) (dws := []) (ios := []) (args3 (a := eVar 1) (b := eVar 2) (c := eVar 3) rfl rfl rfl) rfl hw
    unfold o0
    rw [sSet_ap, c]; rfl
  refine (seq_of r0).trans ?_
  have r1 : o1 (oL M ds s (dv (stD e)) none none none none none none) [] = .nx (oL M ds s (dv (stD e)) (dv (prD .ow (pcS o) (haS o) s)) none none none none none) [] := by
    have c : (eCall f_law_processor [] (aCons (eVar 0) (aCons (eVar 1) (aCons (eVar 2) aNil)))) (oL M ds s (dv (stD e)) none none none none none none) [] = .ok (.v (prD .ow (pcS o) (haS o) s)) (oL M ds s (dv (stD e)) none none none none none none) [] :=
      call_of (xs := [.v (inD' ds), .v (rgD .fz s), .v (fgD s)]) (ds := [inD' ds, rgD .fz s, fgD s]) (dws := []) (ios := []) (args3 (a := eVar 0) (b := eVar 1) (c := eVar 2) rfl rfl rfl) rfl hpr
    unfold o1
    rw [sSet_ap, c]; rfl
  refine (seq_of r1).trans ?_
  have r2 : o2 (oL M ds s (dv (stD e)) (dv (prD .ow (pcS o) (haS o) s)) none none none none none) [] = .nx (oL M ds s (dv (stD e)) (dv (prD .ow (pcS o) (haS o) s)) (dv (mkT .ow M)) none none none none) [] := by
    have c : (eB fDictC (aCons (eVar 3) aNil)) (oL M ds s (dv (stD e)) (dv (prD .ow (pcS o) (haS o) s)) none none none none none) [] = .ok (.v (mkT .ow M)) (oL M ds s (dv (stD e)) (dv (prD .ow (pcS o) (haS o) s)) none none none none none) [] := by
      show (if ((asc (isM M)).map (fM M)).all D.shr = true then Out.ok (RV.v (.nd .ow (.dct (KI (asc (isM M)))) ((asc (isM M)).map (fM M)))) (oL M ds s (dv (stD e)) (dv (prD .ow (pcS o) (haS o) s)) none none none none none) [] else .bad) = _
      rw [if_pos (shr_k M _)]; rfl
    unfold o2
    rw [sSet_ap, c]; rfl
  refine (seq_of r2).trans ?_
  have bp : ∀ {x6 x7 x8 x9 x10 : Option V} {e' : St}, bwN (.pth (.l 5) []) (oL M ds s (dv (stD e)) (dv (prD .ow (pcS o) (haS o) e')) x6 x7 x8 x9 x10) [] = some (prD .fz (pcS o) (haS o) e', kinds (prD .ow (pcS o) (haS o) e')) := bw_p (i := 5) rfl rfl pr_frz
  have r3 : o3 (oL M ds s (dv (stD e)) (dv (prD .ow (pcS o) (haS o) s)) (dv (mkT .ow M)) none none none none) [] = .nx (oL M ds s (dv (stD e)) (dv (prD .ow (pcS o) (haS o) s)) (dv (mkT .ow M)) (dv (prD .ow (pcS o) (haS o) e)) none none none) [] := by
    have c := fd_call (M := M) (a := eVar 5) (b := eVar 6) (ls := oL M ds s (dv (stD e)) (dv (prD .ow (pcS o) (haS o) s)) (dv (mkT .ow M)) none none none none) (r := .dct) (k := .fz) (.inl rfl) (asc_nd (isM M)) (srt_asc (isM M)) hA (x := .pth (.l 5) []) rfl (y := .pth (.l 6) []) rfl bp (bw_p (i := 6) rfl rfl (sr_frz .dct (asc (isM M)) M))
    rw [hfa] at c
    unfold o3
    rw [sSet_ap, c]; rfl
  refine (seq_of r3).trans ?_
  have tp : ∀ {x5 x6 x7 x8 x9 x10 : Option V}, (eTup (aCons (eB fTuple (aCons (eVar 1) aNil)) (aCons (eVar 2) aNil))) (oL M ds s (dv (stD e)) x5 x6 x7 x8 x9 x10) [] = .ok (.v (stD s)) (oL M ds s (dv (stD e)) x5 x6 x7 x8 x9 x10) [] := fun {x5 x6 x7 x8 x9 x10} => by kernel_rfl
  have r4 : o4 (oL M ds s (dv (stD e)) (dv (prD .ow (pcS o) (haS o) s)) (dv (mkT .ow M)) (dv (prD .ow (pcS o) (haS o) e)) none none none) [] = .nx (oL M ds s (dv (stD e)) (dv (prD .ow (pcS o) (haS o) s)) (dv (mkT .ow M)) (dv (prD .ow (pcS o) (haS o) e)) none none none) [] := by
    refine if_no3 (or_go (toT_of (op_of (x := .pth (.l 6) []) (y := .v (mkT .fz M)) rfl rfl (eqDM_self (k := .ow) (k' := .fz) (K := asc (isM M)) (atD_l rfl) rfl))) (or_go (not_of (k := true) (toT_of ?_)) (not_of (k := true) (toT_of ?_))))
    · exact st_call (a := eVar 7) (c := eVar 4) ho (.inl rfl) (x := .pth (.l 7) []) rfl (bw_p (i := 7) rfl rfl pr_frz) rfl rfl
    · exact st_call (a := eVar 5) ho (.inl rfl) (x := .pth (.l 5) []) rfl bp rfl tp
  refine (seq_of r4).trans ?_
  have r5 : ∃ w, o5 (oL M ds s (dv (stD e)) (dv (prD .ow (pcS o) (haS o) s)) (dv (mkT .ow M)) (dv (prD .ow (pcS o) (haS o) e)) none none none) [] = .nx (oL M ds s (dv (stD e)) (dv (prD .ow (pcS o) (haS o) s)) (dv (mkT .ow M)) (dv (prD .ow (pcS o) (haS o) { e with c := w })) none none none) [] := ⟨(e.c + 1) % 256, by kernel_rfl⟩
  obtain ⟨w, r5⟩ := r5
  refine (seq_of r5).trans ?_
  generalize ({ e with c := w } : St) = e7
  obtain ⟨t, _, et⟩ := pick0 (ds := ds) (ls := oL M ds s (dv (stD e)) (dv (prD .ow (pcS o) (haS o) s)) (dv (mkT .ow M)) (dv (prD .ow (pcS o) (haS o) e7)) none none none) (e := eC (.int 12)) (l := eC (.int 6)) (a := 12) (m := 6) (by decide) rfl rfl rfl
  obtain ⟨k, hk, hps⟩ := pairs_ok (M := M) (t := t)
  have hK6 : k < 6 := by have := asc_len (isM M); omega
  have sr1 := srt_rot (isM M) (t := k) hK6
  have sr2 := srt_rev (isM M) (t := k) hK6
  have pm : ((asc (isM M)).drop k ++ (asc (isM M)).take k).Perm (asc (isM M)) := List.perm_append_comm.trans (by rw [List.take_append_drop])
  generalize (asc (isM M)).drop k ++ (asc (isM M)).take k = K at hps sr1 sr2 pm
  have hnK : K.Nodup := pm.nodup_iff.mpr (asc_nd _)
  have hK := mem_h hM (K := K) fun v h => pm.mem_iff.mpr h
  have hKr := mem_h hM (K := K.reverse) fun v h => List.mem_reverse.mpr (pm.mem_iff.mpr h)
  have r6 : o6 (oL M ds s (dv (stD e)) (dv (prD .ow (pcS o) (haS o) s)) (dv (mkT .ow M)) (dv (prD .ow (pcS o) (haS o) e7)) none none none) [] = .nx (oL M ds s (dv (stD e)) (dv (prD .ow (pcS o) (haS o) s)) (dv (mkT .ow M)) (dv (prD .ow (pcS o) (haS o) e7)) (dv (srD .lst .ow K M)) none none) [] := by
    have c := call_of (fn := f_law_pairs) (args := (aCons (eVar 3) (aCons (eCall f_law_pick [] (aCons (eVar 0) (aCons (eC (.int 12)) (aCons (eC (.int 6)) aNil)))) aNil))) (ls := oL M ds s (dv (stD e)) (dv (prD .ow (pcS o) (haS o) s)) (dv (mkT .ow M)) (dv (prD .ow (pcS o) (haS o) e7)) none none none) (xs := [.v (mkT .fz M), .v (di t)]) (ds := [mkT .fz M, di t]) (dws := []) (ios := []) (args2 (a := eVar 3) rfl et) rfl hps
    unfold o6
    rw [sSet_ap, c]; rfl
  refine (seq_of r6).trans ?_
  have l9 : (eB fList (aCons (eVar 8) aNil)) (oL M ds s (dv (stD e)) (dv (prD .ow (pcS o) (haS o) s)) (dv (mkT .ow M)) (dv (prD .ow (pcS o) (haS o) e7)) (dv (srD .lst .ow K M)) none none) [] = .ok (.v (srD .lst .ow K M)) (oL M ds s (dv (stD e)) (dv (prD .ow (pcS o) (haS o) s)) (dv (mkT .ow M)) (dv (prD .ow (pcS o) (haS o) e7)) (dv (srD .lst .ow K M)) none none) [] := by
    show (match shrK (.pth (.l 8) []) (K.map (prs (fM M))) with
      | some ys => Out.ok (RV.v (.nd .ow .lst ys)) (oL M ds s (dv (stD e)) (dv (prD .ow (pcS o) (haS o) s)) (dv (mkT .ow M)) (dv (prD .ow (pcS o) (haS o) e7)) (dv (srD .lst .ow K M)) none none) []
      | none => .bad) = _
    rw [shrK_s (shr_prs K)]; rfl
  have r7 : o7 (oL M ds s (dv (stD e)) (dv (prD .ow (pcS o) (haS o) s)) (dv (mkT .ow M)) (dv (prD .ow (pcS o) (haS o) e7)) (dv (srD .lst .ow K M)) none none) [] = .nx (oL M ds s (dv (stD e)) (dv (prD .ow (pcS o) (haS o) s)) (dv (mkT .ow M)) (dv (prD .ow (pcS o) (haS o) e7)) (dv (srD .lst .ow K M)) (dv (srD .lst .ow K M)) none) [] := by
    unfold o7
    rw [sSet_ap, l9]; rfl
  refine (seq_of r7).trans ?_
  have r8 : o8 (oL M ds s (dv (stD e)) (dv (prD .ow (pcS o) (haS o) s)) (dv (mkT .ow M)) (dv (prD .ow (pcS o) (haS o) e7)) (dv (srD .lst .ow K M)) (dv (srD .lst .ow K M)) none) [] = .nx (oL M ds s (dv (stD e)) (dv (prD .ow (pcS o) (haS o) s)) (dv (mkT .ow M)) (dv (prD .ow (pcS o) (haS o) e7)) (dv (srD .lst .ow K M)) (dv (srD .lst .ow K M)) none) [] := by
    have c := fd_call (M := M) (a := eVar 5) (b := eVar 8) (ls := oL M ds s (dv (stD e)) (dv (prD .ow (pcS o) (haS o) s)) (dv (mkT .ow M)) (dv (prD .ow (pcS o) (haS o) e7)) (dv (srD .lst .ow K M)) (dv (srD .lst .ow K M)) none) (r := .lst) (k := .fz) (.inl rfl) hnK sr1 hK (x := .pth (.l 5) []) rfl (y := .pth (.l 8) []) rfl bp (bw_p (i := 8) rfl rfl (sr_frz .lst K M))
    rw [hfa] at c
    refine if_no3 (or_go (not_of (k := true) (toT_of ?_)) (toT_of (op_of (x := .pth (.l 8) []) (y := .pth (.l 9) []) rfl rfl ?_)))
    · exact st_call (c := eVar 4) ho (.inr rfl) (x := .v (prD .ow (pcS o) (haS o) e)) c rfl rfl rfl
    · have h8 : val (.pth (.l 8) []) (oL M ds s (dv (stD e)) (dv (prD .ow (pcS o) (haS o) s)) (dv (mkT .ow M)) (dv (prD .ow (pcS o) (haS o) e7)) (dv (srD .lst .ow K M)) (dv (srD .lst .ow K M)) none) [] = some (srD .lst .ow K M) := atD_l rfl
      have h9 : val (.pth (.l 9) []) (oL M ds s (dv (stD e)) (dv (prD .ow (pcS o) (haS o) s)) (dv (mkT .ow M)) (dv (prD .ow (pcS o) (haS o) e7)) (dv (srD .lst .ow K M)) (dv (srD .lst .ow K M)) none) [] = some (srD .lst .ow K M) := atD_l rfl
      exact (same_ok (neg := true) h8 h9 (okD_prs K .ow)).trans rfl
  refine (seq_of r8).trans ?_
  have r9 : o9 (oL M ds s (dv (stD e)) (dv (prD .ow (pcS o) (haS o) s)) (dv (mkT .ow M)) (dv (prD .ow (pcS o) (haS o) e7)) (dv (srD .lst .ow K M)) (dv (srD .lst .ow K M)) none) [] = .nx (oL M ds s (dv (stD e)) (dv (prD .ow (pcS o) (haS o) s)) (dv (mkT .ow M)) (dv (prD .ow (pcS o) (haS o) e7)) (dv (srD .lst .ow K M)) (dv (srD .lst .ow K M)) none) [] := by
    have c := fd_call (M := M) (a := eVar 5) (b := eDNew) (ls := oL M ds s (dv (stD e)) (dv (prD .ow (pcS o) (haS o) s)) (dv (mkT .ow M)) (dv (prD .ow (pcS o) (haS o) e7)) (dv (srD .lst .ow K M)) (dv (srD .lst .ow K M)) none) (r := .dct) (k := .ow) (K := []) (A := []) (.inr rfl) List.nodup_nil srt_nil (fun v h => by cases h) (x := .pth (.l 5) []) rfl (y := .v (srD .dct .ow [] M)) rfl bp rfl
    refine if_no3 (not_of (k := true) (toT_of ?_))
    exact st_call ho (.inr rfl) (x := .v (prD .ow (pcS o) (haS o) s)) c rfl rfl tp
  refine (seq_of r9).trans ?_
  have r10 : o10 (oL M ds s (dv (stD e)) (dv (prD .ow (pcS o) (haS o) s)) (dv (mkT .ow M)) (dv (prD .ow (pcS o) (haS o) e7)) (dv (srD .lst .ow K M)) (dv (srD .lst .ow K M)) none) [] = .nx (oL M ds s (dv (stD e)) (dv (prD .ow (pcS o) (haS o) s)) (dv (mkT .ow M)) (dv (prD .ow (pcS o) (haS o) e7)) (dv (srD .lst .ow K M)) (dv (srD .lst .ow K M)) none) [] := by
    have f := flushM (M := M) (i := 5) (j := 0) (ls := oL M ds s (dv (stD e)) (dv (prD .ow (pcS o) (haS o) s)) (dv (mkT .ow M)) (dv (prD .ow (pcS o) (haS o) e7)) (dv (srD .lst .ow K M)) (dv (srD .lst .ow K M)) none) (s := s) (pc := pcS o) (hal := haS o) (e2 := eTupP0) (ds_ow (r := .ptp) (K := []) (M := M) List.nodup_nil) srt_nil (fun v h => by cases h) rfl (x := .v (srD .ptp .ow [] M)) rfl (conv2 rfl) rfl
    refine if_no3 (or_go2 (ls1 := oL M ds s (dv (stD e)) (dv (prD .ow (pcS o) (haS o) s)) (dv (mkT .ow M)) (dv (prD .ow (pcS o) (haS o) e7)) (dv (srD .lst .ow K M)) (dv (srD .lst .ow K M)) none) (gh1 := []) (toT_k (op_of2 (x := .v .non) (y := .v .non) (f.trans rfl) rfl rfl)) (not_of (k := true) (toT_of ?_)))
    exact st_call (a := eVar 5) ho (.inl rfl) (x := .pth (.l 5) []) rfl bp rfl tp
  refine (seq_of r10).trans ?_
  have r11 : o11 (oL M ds s (dv (stD e)) (dv (prD .ow (pcS o) (haS o) s)) (dv (mkT .ow M)) (dv (prD .ow (pcS o) (haS o) e7)) (dv (srD .lst .ow K M)) (dv (srD .lst .ow K M)) none) [] = .nx (oL M ds s (dv (stD e)) (dv (prD .ow (pcS o) (haS o) e)) (dv (mkT .ow M)) (dv (prD .ow (pcS o) (haS o) e7)) (dv (srD .lst .ow K M)) (dv (srD .lst .ow K M)) none) [] := by
    have v1 : (eRev (eVar 8)) (oL M ds s (dv (stD e)) (dv (prD .ow (pcS o) (haS o) s)) (dv (mkT .ow M)) (dv (prD .ow (pcS o) (haS o) e7)) (dv (srD .lst .ow K M)) (dv (srD .lst .ow K M)) none) [] = .ok (.v (srD .lst .ow K.reverse M)) (oL M ds s (dv (stD e)) (dv (prD .ow (pcS o) (haS o) s)) (dv (mkT .ow M)) (dv (prD .ow (pcS o) (haS o) e7)) (dv (srD .lst .ow K M)) (dv (srD .lst .ow K M)) none) [] := by
      show (if (K.map (prs (fM M))).all D.shr = true then Out.ok (RV.v (.nd .ow .lst (K.map (prs (fM M))).reverse)) (oL M ds s (dv (stD e)) (dv (prD .ow (pcS o) (haS o) s)) (dv (mkT .ow M)) (dv (prD .ow (pcS o) (haS o) e7)) (dv (srD .lst .ow K M)) (dv (srD .lst .ow K M)) none) [] else .bad) = _
      rw [if_pos (shr_prs K), ← List.map_reverse]; rfl
    have v2 : (eB fTupP (aCons (eRev (eVar 8)) aNil)) (oL M ds s (dv (stD e)) (dv (prD .ow (pcS o) (haS o) s)) (dv (mkT .ow M)) (dv (prD .ow (pcS o) (haS o) e7)) (dv (srD .lst .ow K M)) (dv (srD .lst .ow K M)) none) [] = .ok (.v (srD .ptp .ow K.reverse M)) (oL M ds s (dv (stD e)) (dv (prD .ow (pcS o) (haS o) s)) (dv (mkT .ow M)) (dv (prD .ow (pcS o) (haS o) e7)) (dv (srD .lst .ow K M)) (dv (srD .lst .ow K M)) none) [] := by
      rw [eB_ap, aCons_ap, v1]
      show (if (K.reverse.map (prs (fM M))).all D.shr = true then Out.ok (RV.v (.nd .ow .ptp (K.reverse.map (prs (fM M))))) (oL M ds s (dv (stD e)) (dv (prD .ow (pcS o) (haS o) s)) (dv (mkT .ow M)) (dv (prD .ow (pcS o) (haS o) e7)) (dv (srD .lst .ow K M)) (dv (srD .lst .ow K M)) none) [] else .bad) = _
      rw [if_pos (shr_prs K.reverse)]; rfl
    have f := flushM (M := M) (i := 5) (j := 0) (ls := oL M ds s (dv (stD e)) (dv (prD .ow (pcS o) (haS o) s)) (dv (mkT .ow M)) (dv (prD .ow (pcS o) (haS o) e7)) (dv (srD .lst .ow K M)) (dv (srD .lst .ow K M)) none) (s := s) (pc := pcS o) (hal := haS o) (e2 := (eB fTupP (aCons (eRev (eVar 8)) aNil))) (ds_ow (r := .ptp) (K := K.reverse) (M := M) ((List.reverse_perm K).nodup_iff.mpr hnK)) sr2 hKr rfl v2 (conv2 rfl) rfl
    rw [hfa] at f
    refine if_no3 (or_go2 (ls1 := oL M ds s (dv (stD e)) (dv (prD .ow (pcS o) (haS o) e)) (dv (mkT .ow M)) (dv (prD .ow (pcS o) (haS o) e7)) (dv (srD .lst .ow K M)) (dv (srD .lst .ow K M)) none) (gh1 := []) (toT_k (op_of2 (x := .v .non) (y := .v .non) (f.trans rfl) rfl rfl)) (not_of (k := true) (toT_of ?_)))
    exact st_call (a := eVar 5) (c := eVar 4) ho (.inl rfl) (x := .pth (.l 5) []) rfl bp rfl rfl
  refine (seq_of r11).trans ?_
  have r12 : o12 (oL M ds s (dv (stD e)) (dv (prD .ow (pcS o) (haS o) e)) (dv (mkT .ow M)) (dv (prD .ow (pcS o) (haS o) e7)) (dv (srD .lst .ow K M)) (dv (srD .lst .ow K M)) none) [] = .nx (oL M ds s (dv (stD e)) (dv (prD .ow (pcS o) (haS o) e)) (dv (mkT .ow M)) (dv (prD .ow (pcS o) (haS o) e7)) (dv (srD .lst .ow K M)) (dv (srD .lst .ow K M)) (dv (prD .ow (pcS o) (haS o) s))) [] := by
    have c := call_of (gh := []) (fn := f_law_processor) (args := (aCons (eVar 0) (aCons (eVar 1) (aCons (eVar 2) aNil)))) (ls := oL M ds s (dv (stD e)) (dv (prD .ow (pcS o) (haS o) e)) (dv (mkT .ow M)) (dv (prD .ow (pcS o) (haS o) e7)) (dv (srD .lst .ow K M)) (dv (srD .lst .ow K M)) none) (xs := [.v (inD' ds), .v (rgD .fz s), .v (fgD s)]) (ds := [inD' ds, rgD .fz s, fgD s]) (dws := []) (ios := []) (args3 (a := eVar 0) (b := eVar 1) (c := eVar 2) rfl rfl rfl) rfl hpr
    unfold o12
    rw [sSet_ap, c]; rfl
  refine (seq_of r12).trans ?_
  have r13 : o13 (oL M ds s (dv (stD e)) (dv (prD .ow (pcS o) (haS o) e)) (dv (mkT .ow M)) (dv (prD .ow (pcS o) (haS o) e7)) (dv (srD .lst .ow K M)) (dv (srD .lst .ow K M)) (dv (prD .ow (pcS o) (haS o) s))) [] = .nx (oL M ds s (dv (stD e)) (dv (prD .ow (pcS o) (haS o) e)) (dv (mkT .fz M)) (dv (prD .ow (pcS o) (haS o) e7)) (dv (srD .lst .ow K M)) (dv (srD .lst .ow K M)) (dv (prD .ow (pcS o) (haS o) e))) [] := by
    have f := flushM (M := M) (i := 10) (j := 0) (ls := oL M ds s (dv (stD e)) (dv (prD .ow (pcS o) (haS o) e)) (dv (mkT .ow M)) (dv (prD .ow (pcS o) (haS o) e7)) (dv (srD .lst .ow K M)) (dv (srD .lst .ow K M)) (dv (prD .ow (pcS o) (haS o) s))) (s := s) (pc := pcS o) (hal := haS o) (e2 := eVar 6) (ds_fz (r := .dct) (K := asc (isM M)) (M := M) (asc_nd _)) (srt_asc _) hA rfl (x := .pth (.l 6) []) rfl (ls2 := oL M ds s (dv (stD e)) (dv (prD .ow (pcS o) (haS o) e)) (dv (mkT .fz M)) (dv (prD .ow (pcS o) (haS o) e7)) (dv (srD .lst .ow K M)) (dv (srD .lst .ow K M)) (dv (prD .ow (pcS o) (haS o) s))) (conv2 ((cv_l (i := 6) rfl rfl (sr_frz .dct (asc (isM M)) M)).trans rfl)) rfl
    rw [hfa] at f
    unfold o13
    rw [sExpr_ap, f]; rfl
  refine (seq_of r13).trans ?_
  refine ret_of (and_of ?_ ?_)
  · exact op_of (x := .v (mkT .fz M)) (y := .v (mkT .fz M)) rfl rfl (eqDM_self (neg := false) (k := .fz) (k' := .fz) (K := asc (isM M)) rfl rfl)
  · exact st_call (a := eVar 10) (c := eVar 4) ho (.inl rfl) (x := .pth (.l 10) []) rfl (bw_p (i := 10) rfl rfl pr_frz) rfl rfl
end
end K16.V
set_option Elab.async false
set_option linter.all false
set_option maxRecDepth 100000
set_option maxHeartbeats 1000000
namespace K16.V
open VL
open GL (PV)
abbrev w0 : MS := (sSet 1 (eCall f_law_row [] (aCons (eVar 0) (aCons (eC (.int 80)) aNil))))
abbrev w1 : MS := (sSet 2 (eLc (iR1 (eC (.int 4))) (gN 3) tYesM (eCall f_law_pick [] (aCons (eVar 1) (aCons (eOp gAdd (eC (.int 14)) (eOp gMul (eC (.int 2)) (eVar 3))) (aCons (eC (.int 256)) aNil)))) [3]))
abbrev w2 : MS := (sSet 4 (eTup (aCons (eCall f_law_pick [] (aCons (eVar 1) (aCons (eC (.int 22)) (aCons (eC (.int 2)) aNil)))) (aCons (eCall f_law_pick [] (aCons (eVar 1) (aCons (eC (.int 23)) (aCons (eC (.int 2)) aNil)))) aNil))))
abbrev w3 : MS := (sSet 5 (eCall f_law_makers [] (aCons (eVar 1) (aCons (eC (.int 26)) aNil))))
abbrev w4 : MS := (sIf (tOrM (tNotM (toT (eCall f_law_sources_told [] (aCons (eVar 5) aNil)))) (tNotM (toT (eCall f_law_one_state [] (aCons (eVar 1) (aCons (eVar 2) (aCons (eVar 4) (aCons (eVar 5) aNil)))))))) (sRet (eC (.bl false))) sNil)
abbrev w5 : MS := (sSet 6 (eLc (iR1 (eC (.int 4))) (gN 3) tYesM (eCall f_law_pick [] (aCons (eVar 1) (aCons (eOp gAdd (eC (.int 62)) (eOp gMul (eC (.int 2)) (eVar 3))) (aCons (eC (.int 256)) aNil)))) [3]))
abbrev w6 : MS := (sRet (eCall f_law_one_state [] (aCons (eVar 1) (aCons (eVar 6) (aCons (eTup (aCons (eOp gSub (eC (.int 1)) (eOp gIx (eVar 4) (eC (.int 0)))) (aCons (eOp gSub (eC (.int 1)) (eOp gIx (eVar 4) (eC (.int 1)))) aNil))) (aCons (eVar 5) aNil))))))
theorem lcs {g : MG} {te : PE} {vs : List Nat} {ls0 ls gh L1 g1 ls3 gh3 : Ls} {d : D} {r acc : List D} {i : Int} (hg : g (.v d) (resD (fun _ => none) vs ls gh).1 (resD (fun _ => none) vs ls gh).2 = some (L1, g1)) (he : te L1 g1 = .ok (.v (.int i)) ls3 gh3) (hl : acc.length < 1000) :
    lcV g tYesM te vs ls0 (d :: r) acc ls gh = lcV g tYesM te vs ls0 r (acc ++ [.int i]) (resD (fun v => keepV (ls0.getD v none)) vs ls3 gh3).1 (resD (fun v => keepV (ls0.getD v none)) vs ls3 gh3).2 := by
  have hlim : acc.length < GL.lim := by
    have : GL.lim = 100000 := rfl
    omega
  conv => lhs; unfold lcV
  rw [hg]
  show (match te L1 g1 with
        | .ok x ls3 gh3 => (match cvR true x ls3 gh3 with
          | some (e, ls4, gh4) => if acc.length < GL.lim then lcV g tYesM te vs ls0 r (acc ++ [e]) (resD (fun v => keepV (ls0.getD v none)) vs ls4 gh4).1 (resD (fun v => keepV (ls0.getD v none)) vs ls4 gh4).2 else .bad
          | none => .bad)
        | _ => .bad) = _
  rw [he]
  show (if acc.length < GL.lim then _ else _) = _
  rw [if_pos hlim]
section
variable {ds ns : List Int}
abbrev scD (ns : List Int) : D := .nd .fz .rol (intL ns)
abbrev LS (ns ds : List Int) (k : Fl) (x2 x3 x4 x5 x6 : Option V) : Ls := [dv (scD ns), dv (.nd k .lst (intL ds)), x2, x3, x4, x5, x6]
theorem pk_f {e l : PE} {x2 x3 x4 x5 x6 : Option V} {a : Nat} {m : Int} (hm : 0 < m) (he : e (LS ns ds .fz x2 x3 x4 x5 x6) [] = .ok (.v (.int (a : Int))) (LS ns ds .fz x2 x3 x4 x5 x6) []) (hl : l (LS ns ds .fz x2 x3 x4 x5 x6) [] = .ok (.v (.int m)) (LS ns ds .fz x2 x3 x4 x5 x6) []) :
    (eCall f_law_pick [] (aCons (eVar 1) (aCons e (aCons l aNil)))) (LS ns ds .fz x2 x3 x4 x5 x6) [] = .ok (.v (.int (pickV ds a m))) (LS ns ds .fz x2 x3 x4 x5 x6) [] := by
  have hv : f_law_pick [.v (inD' ds), .v (.int (a : Int)), .v (.int m)] [] = .ok (.int (pickV ds a m)) [] := pick_ok hm
  exact call_of (xs := [.v (inD' ds), .v (.int (a : Int)), .v (.int m)]) (ds := [inD' ds, .int (a : Int), .int m]) (dws := []) (ios := []) (args3 (a := eVar 1) rfl he hl) rfl hv
theorem pk_o {e l : PE} {b a : Nat} {m : Int} (hm : 0 < m) (he : e (LS ns ds .ow none (dv (di b)) none none none) [] = .ok (.v (.int (a : Int))) (LS ns ds .ow none (dv (di b)) none none none) []) (hl : l (LS ns ds .ow none (dv (di b)) none none none) [] = .ok (.v (.int m)) (LS ns ds .ow none (dv (di b)) none none none) []) :
    (eCall f_law_pick [] (aCons (eVar 1) (aCons e (aCons l aNil)))) (LS ns ds .ow none (dv (di b)) none none none) [] = .ok (.v (.int (pickV ds a m))) (LS ns ds .fz none (dv (di b)) none none none) [] := by
  have hv : f_law_pick [.v (inD' ds), .v (.int (a : Int)), .v (.int m)] [] = .ok (.int (pickV ds a m)) [] := pick_ok hm
  exact call_of (xs := [.pth (.l 1) [], .v (.int (a : Int)), .v (.int m)]) (ds := [inD' ds, .int (a : Int), .int m]) (dws := []) (ios := []) (args3 (a := eVar 1) (eVar_o rfl rfl) he hl) (cvL3 ((cv_l (i := 1) rfl rfl (frz_lst (frzs_shr intL_shr))).trans rfl) rfl rfl) hv
theorem rng4 : rngD 0 (((4 : Nat) : Int)) = [di 0, di 1, di 2, di 3] := by rw [rng0]; rfl
abbrev cE (c : Int) : PE := (eCall f_law_pick [] (aCons (eVar 1) (aCons (eOp gAdd (eC (.int c)) (eOp gMul (eC (.int 2)) (eVar 3))) (aCons (eC (.int 256)) aNil))))
theorem comp_o : ∃ a b c d : Int, (eLc (iR1 (eC (.int 4))) (gN 3) tYesM (cE 14) [3]) (LS ns ds .ow none none none none none) [] = .ok (.v (.nd .ow .lst [.int a, .int b, .int c, .int d])) (LS ns ds .fz none none none none none) [] := by
  refine ⟨pickV ds 14 256, pickV ds 16 256, pickV ds 18 256, pickV ds 20 256, ?_⟩
  have it : iR1 (eC (.int 4)) (LS ns ds .ow none none none none none) [] = .ok [di 0, di 1, di 2, di 3] (LS ns ds .ow none none none none none) [] := by
    rw [← rng4]; exact iR1_of (n := 4) rfl (by decide)
  unfold eLc
  rw [it, bind_ok, if_pos (by rfl)]
  refine (lcs (g := gN 3) (te := cE 14) (vs := [3]) (ls0 := LS ns ds .ow none none none none none) (ls := LS ns ds .ow none none none none none) (gh := []) (d := di 0) (r := [di 1, di 2, di 3]) (acc := []) (i := pickV ds 14 256) (L1 := LS ns ds .ow none (dv (di 0)) none none none) (g1 := []) (ls3 := LS ns ds .fz none (dv (di 0)) none none none) (gh3 := []) rfl (pk_o (ns := ns) (ds := ds) (e := eOp gAdd (eC (.int 14)) (eOp gMul (eC (.int 2)) (eVar 3))) (l := eC (.int 256)) (b := 0) (a := 14) (m := 256) (by decide) (by kernel_rfl) rfl) (Nat.le_of_ble_eq_true rfl)).trans ?_
  refine (lcs (g := gN 3) (te := cE 14) (vs := [3]) (ls0 := LS ns ds .ow none none none none none) (ls := LS ns ds .fz none none none none none) (gh := []) (d := di 1) (r := [di 2, di 3]) (acc := [.int (pickV ds 14 256)]) (i := pickV ds 16 256) (L1 := LS ns ds .fz none (dv (di 1)) none none none) (g1 := []) (ls3 := LS ns ds .fz none (dv (di 1)) none none none) (gh3 := []) rfl (pk_f (ns := ns) (ds := ds) (e := eOp gAdd (eC (.int 14)) (eOp gMul (eC (.int 2)) (eVar 3))) (l := eC (.int 256)) (a := 16) (m := 256) (by decide) (by kernel_rfl) rfl) (Nat.le_of_ble_eq_true rfl)).trans ?_
  refine (lcs (g := gN 3) (te := cE 14) (vs := [3]) (ls0 := LS ns ds .ow none none none none none) (ls := LS ns ds .fz none none none none none) (gh := []) (d := di 2) (r := [di 3]) (acc := [.int (pickV ds 14 256), .int (pickV ds 16 256)]) (i := pickV ds 18 256) (L1 := LS ns ds .fz none (dv (di 2)) none none none) (g1 := []) (ls3 := LS ns ds .fz none (dv (di 2)) none none none) (gh3 := []) rfl (pk_f (ns := ns) (ds := ds) (e := eOp gAdd (eC (.int 14)) (eOp gMul (eC (.int 2)) (eVar 3))) (l := eC (.int 256)) (a := 18) (m := 256) (by decide) (by kernel_rfl) rfl) (Nat.le_of_ble_eq_true rfl)).trans ?_
  refine (lcs (g := gN 3) (te := cE 14) (vs := [3]) (ls0 := LS ns ds .ow none none none none none) (ls := LS ns ds .fz none none none none none) (gh := []) (d := di 3) (r := []) (acc := [.int (pickV ds 14 256), .int (pickV ds 16 256), .int (pickV ds 18 256)]) (i := pickV ds 20 256) (L1 := LS ns ds .fz none (dv (di 3)) none none none) (g1 := []) (ls3 := LS ns ds .fz none (dv (di 3)) none none none) (gh3 := []) rfl (pk_f (ns := ns) (ds := ds) (e := eOp gAdd (eC (.int 14)) (eOp gMul (eC (.int 2)) (eVar 3))) (l := eC (.int 256)) (a := 20) (m := 256) (by decide) (by kernel_rfl) rfl) (Nat.le_of_ble_eq_true rfl)).trans ?_
  rfl
theorem comp_f {x2 x4 x5 : D} : ∃ a b c d : Int, (eLc (iR1 (eC (.int 4))) (gN 3) tYesM (cE 62) [3]) (LS ns ds .fz (dv x2) none (dv x4) (dv x5) none) [] = .ok (.v (.nd .ow .lst [.int a, .int b, .int c, .int d])) (LS ns ds .fz (dv x2) none (dv x4) (dv x5) none) [] := by
  refine ⟨pickV ds 62 256, pickV ds 64 256, pickV ds 66 256, pickV ds 68 256, ?_⟩
  have it : iR1 (eC (.int 4)) (LS ns ds .fz (dv x2) none (dv x4) (dv x5) none) [] = .ok [di 0, di 1, di 2, di 3] (LS ns ds .fz (dv x2) none (dv x4) (dv x5) none) [] := by
    rw [← rng4]; exact iR1_of (n := 4) rfl (by decide)
  unfold eLc
  rw [it, bind_ok, if_pos (by rfl)]
  refine (lcs (g := gN 3) (te := cE 62) (vs := [3]) (ls0 := LS ns ds .fz (dv x2) none (dv x4) (dv x5) none) (ls := LS ns ds .fz (dv x2) none (dv x4) (dv x5) none) (gh := []) (d := di 0) (r := [di 1, di 2, di 3]) (acc := []) (i := pickV ds 62 256) (L1 := LS ns ds .fz (dv x2) (dv (di 0)) (dv x4) (dv x5) none) (g1 := []) (ls3 := LS ns ds .fz (dv x2) (dv (di 0)) (dv x4) (dv x5) none) (gh3 := []) rfl (pk_f (ns := ns) (ds := ds) (e := eOp gAdd (eC (.int 62)) (eOp gMul (eC (.int 2)) (eVar 3))) (l := eC (.int 256)) (a := 62) (m := 256) (by decide) (by kernel_rfl) rfl) (Nat.le_of_ble_eq_true rfl)).trans ?_
  refine (lcs (g := gN 3) (te := cE 62) (vs := [3]) (ls0 := LS ns ds .fz (dv x2) none (dv x4) (dv x5) none) (ls := LS ns ds .fz (dv x2) none (dv x4) (dv x5) none) (gh := []) (d := di 1) (r := [di 2, di 3]) (acc := [.int (pickV ds 62 256)]) (i := pickV ds 64 256) (L1 := LS ns ds .fz (dv x2) (dv (di 1)) (dv x4) (dv x5) none) (g1 := []) (ls3 := LS ns ds .fz (dv x2) (dv (di 1)) (dv x4) (dv x5) none) (gh3 := []) rfl (pk_f (ns := ns) (ds := ds) (e := eOp gAdd (eC (.int 62)) (eOp gMul (eC (.int 2)) (eVar 3))) (l := eC (.int 256)) (a := 64) (m := 256) (by decide) (by kernel_rfl) rfl) (Nat.le_of_ble_eq_true rfl)).trans ?_
  refine (lcs (g := gN 3) (te := cE 62) (vs := [3]) (ls0 := LS ns ds .fz (dv x2) none (dv x4) (dv x5) none) (ls := LS ns ds .fz (dv x2) none (dv x4) (dv x5) none) (gh := []) (d := di 2) (r := [di 3]) (acc := [.int (pickV ds 62 256), .int (pickV ds 64 256)]) (i := pickV ds 66 256) (L1 := LS ns ds .fz (dv x2) (dv (di 2)) (dv x4) (dv x5) none) (g1 := []) (ls3 := LS ns ds .fz (dv x2) (dv (di 2)) (dv x4) (dv x5) none) (gh3 := []) rfl (pk_f (ns := ns) (ds := ds) (e := eOp gAdd (eC (.int 62)) (eOp gMul (eC (.int 2)) (eVar 3))) (l := eC (.int 256)) (a := 66) (m := 256) (by decide) (by kernel_rfl) rfl) (Nat.le_of_ble_eq_true rfl)).trans ?_
  refine (lcs (g := gN 3) (te := cE 62) (vs := [3]) (ls0 := LS ns ds .fz (dv x2) none (dv x4) (dv x5) none) (ls := LS ns ds .fz (dv x2) none (dv x4) (dv x5) none) (gh := []) (d := di 3) (r := []) (acc := [.int (pickV ds 62 256), .int (pickV ds 64 256), .int (pickV ds 66 256)]) (i := pickV ds 68 256) (L1 := LS ns ds .fz (dv x2) (dv (di 3)) (dv x4) (dv x5) none) (g1 := []) (ls3 := LS ns ds .fz (dv x2) (dv (di 3)) (dv x4) (dv x5) none) (gh3 := []) rfl (pk_f (ns := ns) (ds := ds) (e := eOp gAdd (eC (.int 62)) (eOp gMul (eC (.int 2)) (eVar 3))) (l := eC (.int 256)) (a := 68) (m := 256) (by decide) (by kernel_rfl) rfl) (Nat.le_of_ble_eq_true rfl)).trans ?_
  rfl
theorem args4 {ls gh : Ls} {a b c d : PE} {x y z w : RV} (h1 : a ls gh = .ok x ls gh) (h2 : b ls gh = .ok y ls gh) (h3 : c ls gh = .ok z ls gh) (h4 : d ls gh = .ok w ls gh) : (aCons a (aCons b (aCons c (aCons d aNil)))) ls gh = .ok [x, y, z, w] ls gh := by
  rw [aCons_ap, h1, bind_ok, args3 h2 h3 h4]; rfl
theorem cvL4 {x y z w : RV} {a b c d : D} {ls gh ls1 gh1 ls2 gh2 ls3 gh3 ls4 gh4 : Ls} (h1 : cvR true x ls gh = some (a, ls1, gh1)) (h2 : cvR true y ls1 gh1 = some (b, ls2, gh2)) (h3 : cvR true z ls2 gh2 = some (c, ls3, gh3)) (h4 : cvR true w ls3 gh3 = some (d, ls4, gh4)) : cvL true [x, y, z, w] ls gh = some ([a, b, c, d], ls4, gh4) := by simp only [cvL, h1, h2, h3, h4]
theorem law_ok (ns : List Int) : f_law [.v (.nd .fz .rol (intL ns))] [] = .ok (.bl true) [] := by
  obtain ⟨ds, hrow, _⟩ := row_ok (ns := ns) (most := 80) (by decide)
  refine fnOf_rt (gh := []) rfl ?_ rfl
  show sSeq w0 (sSeq w1 (sSeq w2 (sSeq w3 (sSeq w4 (sSeq w5 w6))))) [dv (scD ns), none, none, none, none, none, none] [] = _
  have r0 : w0 [dv (scD ns), none, none, none, none, none, none] [] = .nx (LS ns ds .ow none none none none none) [] := by
    have c : (eCall f_law_row [] (aCons (eVar 0) (aCons (eC (.int 80)) aNil))) [dv (scD ns), none, none, none, none, none, none] [] = .ok (.v (.nd .ow .lst (intL ds))) [dv (scD ns), none, none, none, none, none, none] [] :=
      call_of (xs := [.v (scD ns), .v (.int 80)]) (ds := [scD ns, .int 80]) (dws := []) (ios := []) (args2 (a := eVar 0) rfl rfl) rfl hrow
    unfold w0
    rw [sSet_ap, c]; rfl
  refine (seq_of r0).trans ?_
  obtain ⟨a, b, c, d, hc⟩ := comp_o (ns := ns) (ds := ds)
  have r1 : w1 (LS ns ds .ow none none none none none) [] = .nx (LS ns ds .fz (dv (.nd .ow .lst [.int a, .int b, .int c, .int d])) none none none none) [] := by
    unfold w1
    rw [sSet_ap, hc]; rfl
  refine (seq_of r1).trans ?_
  have p1 := pk_f (ns := ns) (ds := ds) (e := eC (.int 22)) (l := eC (.int 2)) (x2 := dv (.nd .ow .lst [.int a, .int b, .int c, .int d])) (x3 := none) (x4 := none) (x5 := none) (x6 := none) (a := 22) (m := 2) (by decide) rfl rfl
  have p2 := pk_f (ns := ns) (ds := ds) (e := eC (.int 23)) (l := eC (.int 2)) (x2 := dv (.nd .ow .lst [.int a, .int b, .int c, .int d])) (x3 := none) (x4 := none) (x5 := none) (x6 := none) (a := 23) (m := 2) (by decide) rfl rfl
  obtain ⟨z0', z1⟩ := pickV_range (ds := ds) (i := 22) (l := 2) (by decide)
  obtain ⟨y0, y1⟩ := pickV_range (ds := ds) (i := 23) (l := 2) (by decide)
  generalize pickV ds 22 2 = z at p1 z0' z1
  generalize pickV ds 23 2 = l at p2 y0 y1
  have r2 : w2 (LS ns ds .fz (dv (.nd .ow .lst [.int a, .int b, .int c, .int d])) none none none none) [] = .nx (LS ns ds .fz (dv (rgD .ow ⟨a, b, c, d, z, l⟩)) none (dv (fgD ⟨a, b, c, d, z, l⟩)) none none) [] := by
    unfold w2
    rw [sSet_ap, tup2s p1 p2]; rfl
  refine (seq_of r2).trans ?_
  obtain ⟨M, hM, hmk⟩ := makers_ok (ds := ds)
  generalize hs : (⟨a, b, c, d, z, l⟩ : St) = s
  have hz : (0 ≤ s.z ∧ s.z < 2) ∧ 0 ≤ s.l ∧ s.l < 2 := by rw [← hs]; exact ⟨⟨z0', z1⟩, y0, y1⟩
  have r3 : w3 (LS ns ds .fz (dv (rgD .ow s)) none (dv (fgD s)) none none) [] = .nx (LS ns ds .fz (dv (rgD .ow s)) none (dv (fgD s)) (dv (mkT .ow M)) none) [] := by
    have c : (eCall f_law_makers [] (aCons (eVar 1) (aCons (eC (.int 26)) aNil))) (LS ns ds .fz (dv (rgD .ow s)) none (dv (fgD s)) none none) [] = .ok (.v (mkT .ow M)) (LS ns ds .fz (dv (rgD .ow s)) none (dv (fgD s)) none none) [] :=
      call_of (xs := [.v (inD' ds), .v (di 26)]) (ds := [inD' ds, di 26]) (dws := []) (ios := []) (args2 (a := eVar 1) rfl rfl) rfl hmk
    unfold w3
    rw [sSet_ap, c]; rfl
  refine (seq_of r3).trans ?_
  have r4 : w4 (LS ns ds .fz (dv (rgD .ow s)) none (dv (fgD s)) (dv (mkT .ow M)) none) [] = .nx (LS ns ds .fz (dv (rgD .fz s)) none (dv (fgD s)) (dv (mkT .fz M)) none) [] := by
    have c1 : (eCall f_law_sources_told [] (aCons (eVar 5) aNil)) (LS ns ds .fz (dv (rgD .ow s)) none (dv (fgD s)) (dv (mkT .ow M)) none) [] = .ok (.v (.bl true)) (LS ns ds .fz (dv (rgD .ow s)) none (dv (fgD s)) (dv (mkT .fz M)) none) [] :=
      call_of (xs := [.pth (.l 5) []]) (ds := [mkT .fz M]) (dws := []) (ios := []) rfl (cvL1 ((cv_l (i := 5) rfl rfl (sr_frz .dct (asc (isM M)) M)).trans rfl)) told_ok
    have c2 : (eCall f_law_one_state [] (aCons (eVar 1) (aCons (eVar 2) (aCons (eVar 4) (aCons (eVar 5) aNil))))) (LS ns ds .fz (dv (rgD .ow s)) none (dv (fgD s)) (dv (mkT .fz M)) none) [] = .ok (.v (.bl true)) (LS ns ds .fz (dv (rgD .fz s)) none (dv (fgD s)) (dv (mkT .fz M)) none) [] :=
      call_of (xs := [.v (inD' ds), .pth (.l 2) [], .v (fgD s), .v (mkT .fz M)]) (ds := [inD' ds, rgD .fz s, fgD s, mkT .fz M]) (dws := []) (ios := []) (args4 (a := eVar 1) (b := eVar 2) (c := eVar 4) (d := eVar 5) rfl rfl rfl rfl) (cvL4 rfl ((cv_l (i := 2) rfl rfl rfl).trans rfl) rfl rfl) (one_ok hM hz)
    exact if_no3 (or_not (toT_2 c1) (toT_2 c2))
  refine (seq_of r4).trans ?_
  obtain ⟨a', b', c', d', hc'⟩ := comp_f (ns := ns) (ds := ds) (x2 := rgD .fz s) (x4 := fgD s) (x5 := mkT .fz M)
  have r5 : w5 (LS ns ds .fz (dv (rgD .fz s)) none (dv (fgD s)) (dv (mkT .fz M)) none) [] = .nx (LS ns ds .fz (dv (rgD .fz s)) none (dv (fgD s)) (dv (mkT .fz M)) (dv (rgD .ow ⟨a', b', c', d', 1 - s.z, 1 - s.l⟩))) [] := by
    unfold w5
    rw [sSet_ap, hc']; rfl
  refine (seq_of r5).trans ?_
  have fl : (eTup (aCons (eOp gSub (eC (.int 1)) (eOp gIx (eVar 4) (eC (.int 0)))) (aCons (eOp gSub (eC (.int 1)) (eOp gIx (eVar 4) (eC (.int 1)))) aNil))) (LS ns ds .fz (dv (rgD .fz s)) none (dv (fgD s)) (dv (mkT .fz M)) (dv (rgD .ow ⟨a', b', c', d', 1 - s.z, 1 - s.l⟩))) [] = .ok (.v (fgD ⟨a', b', c', d', 1 - s.z, 1 - s.l⟩)) (LS ns ds .fz (dv (rgD .fz s)) none (dv (fgD s)) (dv (mkT .fz M)) (dv (rgD .ow ⟨a', b', c', d', 1 - s.z, 1 - s.l⟩))) [] := by kernel_rfl
  have hz2 : (0 ≤ 1 - s.z ∧ 1 - s.z < 2) ∧ 0 ≤ 1 - s.l ∧ 1 - s.l < 2 := by omega
  have c6 := call_of (gh := []) (fn := f_law_one_state) (args := (aCons (eVar 1) (aCons (eVar 6) (aCons (eTup (aCons (eOp gSub (eC (.int 1)) (eOp gIx (eVar 4) (eC (.int 0)))) (aCons (eOp gSub (eC (.int 1)) (eOp gIx (eVar 4) (eC (.int 1)))) aNil))) (aCons (eVar 5) aNil))))) (ls := LS ns ds .fz (dv (rgD .fz s)) none (dv (fgD s)) (dv (mkT .fz M)) (dv (rgD .ow ⟨a', b', c', d', 1 - s.z, 1 - s.l⟩))) (xs := [.v (inD' ds), .pth (.l 6) [], .v (fgD ⟨a', b', c', d', 1 - s.z, 1 - s.l⟩), .v (mkT .fz M)]) (ds := [inD' ds, rgD .fz ⟨a', b', c', d', 1 - s.z, 1 - s.l⟩, fgD ⟨a', b', c', d', 1 - s.z, 1 - s.l⟩, mkT .fz M]) (dws := []) (ios := []) (ls2 := LS ns ds .fz (dv (rgD .fz s)) none (dv (fgD s)) (dv (mkT .fz M)) (dv (rgD .fz ⟨a', b', c', d', 1 - s.z, 1 - s.l⟩))) (gh2 := []) (args4 (a := eVar 1) (b := eVar 6) (d := eVar 5) rfl rfl fl rfl) (cvL4 rfl ((cv_l (i := 6) rfl rfl rfl).trans rfl) rfl rfl) (one_ok hM (s := ⟨a', b', c', d', 1 - s.z, 1 - s.l⟩) hz2)
  show sRet _ _ _ = _
  rw [sRet_ap, c6]
  rfl
end
end K16.V
set_option Elab.async false
set_option linter.all false
set_option maxRecDepth 100000
set_option maxHeartbeats 1000000
namespace K16
theorem plain (ns : List Int) (h : ns.length ≤ 63) : ∃ S, f_law [.loc 0] [.rol (ns.map .int)] = .ok (.bl true) S := VL.vl_end V.s_f_law ns (V.law_ok ns)
end K16
set_option maxRecDepth 100000 in
set_option maxHeartbeats 4000000 in
theorem PySem.Challenge.cw_guestlives_k16_values_flushed_in_order_holds : PySem.Challenge.rw_guestlives_k16_values_flushed_in_order.Holds := by
  exact K16.holds_of K16.plain
