import PyProof.Rows.All
import Wide.All
import OpenK.AllK
import Wide.FinOn
import HandS.ForMost
import HandS.Walk
import HandS.Exc
import HandS.ExcOwn
import HandS.WordsExc
import HandS.HeadHook1
import HandS.HeadHook2
import KE.KDictKeyed
import KE.KDictDisplayH
import HandS.TupAny
import HandS.IsInst
import HandS.TupLe
import HandS.TupMul
import HandS.Defaults
import HandS.CallSlots
import HandS.Head0
import HandS.Head1
import HandS.Head2
import HandS.HeadEnd
import KE.KExcSuper
import KE.KSuper
import HandS.ExcInit
import HandS.ExcSuper
import HandS.ClsMeth
import HandS.TryMany
import HandS.ExcIs
import HandS.ExcField
import HandS.HeadHook3
import HandS.FStr
import HandS.Flow
import HandS.RaiseMore
import HandS.SetFor
import HandS.Strs
import HandS.Dict
import HandS.MakeKw
import HandS.MakeKwOnly
import HandS.Style
import PyProof.RulesMatch
import PyProof.Rows.StrRules
import PyProof.AssignAttr
import OpenK.KMeth
import HandS.Text
import HandS.More
import PyProof.P3In
import PyProof.P3Eq
import KE.DataEq
import HandS.Iter
import KE.SortCalls
import KE.SortKeyed
import KE.DataCmp
import HandS.DictComp
import PySem.Challenge.RW_guestlives_k74_whole_handshake_goes_on
set_option Elab.async false
set_option linter.all false
set_option maxRecDepth 100000
set_option maxHeartbeats 1000000
namespace GL
open PySem PySem.Spec PyProof.Rows L2
structure PgW where
  P : Program
  w : World
abbrev pwX (X : Cx) : PgW := ⟨X.prog, X.w⟩
variable {pw : PgW}
abbrev Nm := List Nat
def toS (l : Nm) : Str := ⟨l.toArray⟩
theorem toS_inj {a b : Nm} (h : toS a = toS b) : a = b := by
  have := congrArg (fun s : Str => s.cps.toList) h
  simpa [toS] using this
theorem toS_cps (x : Str) : toS x.cps.toList = x := by
  cases x; simp [toS]
inductive BT where
  | int | bool | str | list | tuple | dict | set | none
  deriving DecidableEq, Inhabited
def BT.name : BT → String
  | .int => "int" | .bool => "bool" | .str => "str" | .list => "list" | .tuple => "tuple" | .dict => "dict" | .set => "set" | .none => "NoneType"
inductive PV where
  | non | bl (b : Bool) | int (i : Int) | str (s : List Nat) | tup (xs : List PV) | loc (n : Nat) | gl (x : Nm) | ty (b : BT) | xn (a d : Nat) (C : Nm) (ns : List Nm) (ws : List PV)
  deriving Inhabited
inductive OB where
  | lst (xs : List PV)
  | rol (xs : List PV)
  | dct (kvs : List (PV × PV))
  | fdct (kvs : List (PV × PV))
  | ins (C : Nm) (fs : List (Nm × PV))
  | dcn (kvs : List (PV × PV))
  | ptp (xs : List PV)
  deriving Inhabited
def OB.mut : OB → Bool
  | .rol _ => false
  | .fdct _ => false
  | .ptp _ => false
  | _ => true
def OB.uniq : OB → Bool
  | .rol _ => false
  | .ptp _ => false
  | _ => true
theorem OB.uniq_of {o : OB} (h : o.mut = true) : o.uniq = true := by cases o <;> first | rfl | cases h
abbrev Sto := List OB
abbrev Ls := List (Option PV)
structure Exn where
  cls : Nm
  fs : List (Nm × PV)
inductive Out (α : Type) where
  | ok (a : α) (S : Sto)
  | exc (e : Exn) (S : Sto)
  | bad
inductive SOut where
  | nx (ls : Ls) (S : Sto)
  | rt (w : PV) (S : Sto)
  | bk (ls : Ls) (S : Sto)
  | ct (ls : Ls) (S : Sto)
  | exc (e : Exn) (ls : Ls) (S : Sto)
  | bad
abbrev ME := Ls → Sto → Out PV
abbrev MT := Ls → Sto → Out Bool
abbrev MA := Ls → Sto → Out (List PV)
abbrev MS := Ls → Sto → SOut
def Out.bind {α β : Type} (o : Out α) (f : α → Sto → Out β) : Out β := match o with
  | .ok a S => f a S
  | .exc e S => .exc e S
  | .bad => .bad
def Out.then {α : Type} (o : Out α) (ls : Ls) (f : α → Sto → SOut) : SOut := match o with
  | .ok a S => f a S
  | .exc e S => .exc e ls S
  | .bad => .bad
def SOut.seq (o : SOut) (f : MS) : SOut := match o with
  | .nx ls S => f ls S
  | r => r
mutual
inductive RW (K : PySem.W.Frag) (ρ : Nat → Addr) (N : Nat) (H : Hp) : PV → V → Prop
  | non : RW K ρ N H .non .non
  | bl (b : Bool) : RW K ρ N H (.bl b) (.bl b)
  | int (i : Int) : RW K ρ N H (.int i) (.int i)
  | str (x : Str) : RW K ρ N H (.str x.cps.toList) (.str x)
  | tup {xs : List PV} {a : Addr} {vs : List V} : SqT K H a vs → RWs K ρ N H xs vs → RW K ρ N H (.tup xs) (.ref a)
  | loc (n : Nat) : n < N → RW K ρ N H (.loc n) (.ref (ρ n))
  | gl (x : Nm) : RW K ρ N H (.gl x) (.ref (He.ga K (toS x)))
  | ty (n : BT) : RW K ρ N H (.ty n) (.ty n.name)
  | xn {a d : Addr} {C : Nm} {ns : List Nm} {ws : List PV} {fs : List (Str × V)} : H d = some (.xd fs) → fs.map (·.1) = ns.map toS → RWs K ρ N H ws (fs.map (·.2)) → RW K ρ N H (.xn a d C ns ws) (.ref a)
inductive RWs (K : PySem.W.Frag) (ρ : Nat → Addr) (N : Nat) (H : Hp) : List PV → List V → Prop
  | nil : RWs K ρ N H [] []
  | cons {w : PV} {ws : List PV} {v : V} {vs : List V} : RW K ρ N H w v → RWs K ρ N H ws vs → RWs K ρ N H (w :: ws) (v :: vs)
end
def RoL (K : PySem.W.Frag) (H : Hp) (a : Addr) (xs : List V) : Prop :=
  (∃ o, H a = some (.frz o (.lst xs))) ∨
    ∃ (o : Obj) (its : Array Value) (n : Nat), K.lookup a = some o ∧ o.cls = .type "list" ∧ o.dict = none ∧ o.data = .seq its n ∧ its.size ≤ sizeLine ∧ Vals xs its.toList
theorem RoL.sq {K : PySem.W.Frag} {H : Hp} {a : Addr} {xs : List V} (h : RoL K H a xs) : SqL K H a xs := by
  rcases h with ⟨o, h⟩ | h
  · exact .inl (.inr ⟨o, h⟩)
  · exact .inr h
def Ext (K : PySem.W.Frag) (ρ : Nat → Addr) (N : Nat) (H : Hp) (ρ' : Nat → Addr) (N' : Nat) (H' : Hp) : Prop :=
  N ≤ N' ∧ (∀ n, n < N → ρ' n = ρ n) ∧ (∀ a vs, SqT K H a vs → SqT K H' a vs) ∧ (∀ a vs, RoL K H a vs → RoL K H' a vs) ∧ (∀ a fs, H a = some (.xd fs) → H' a = some (.xd fs)) ∧ ∀ a o u, H a = some (.frz o u) → H' a = some (.frz o u)
section
variable {K : PySem.W.Frag} {ρ ρ' ρ'' : Nat → Addr} {N N' N'' : Nat} {H H' H'' : Hp}
theorem Ext.refl : Ext K ρ N H ρ N H := ⟨Nat.le_refl _, fun _ _ => rfl, fun _ _ h => h, fun _ _ h => h, fun _ _ h => h, fun _ _ _ h => h⟩
theorem Ext.trans (a : Ext K ρ N H ρ' N' H') (b : Ext K ρ' N' H' ρ'' N'' H'') : Ext K ρ N H ρ'' N'' H'' :=
  ⟨Nat.le_trans a.1 b.1, fun n h => (b.2.1 n (Nat.lt_of_lt_of_le h a.1)).trans (a.2.1 n h), fun x vs h => b.2.2.1 x vs (a.2.2.1 x vs h), fun x vs h => b.2.2.2.1 x vs (a.2.2.2.1 x vs h), fun x vs h => b.2.2.2.2.1 x vs (a.2.2.2.2.1 x vs h), fun x o u h => b.2.2.2.2.2 x o u (a.2.2.2.2.2 x o u h)⟩
mutual
theorem RW.ext (e : Ext K ρ N H ρ' N' H') : ∀ {w : PV} {v : V}, RW K ρ N H w v → RW K ρ' N' H' w v
  | _, _, .non => .non
  | _, _, .bl b => .bl b
  | _, _, .int i => .int i
  | _, _, .str x => .str x
  | _, _, .tup h hs => .tup (e.2.2.1 _ _ h) (RWs.ext e hs)
  | _, _, .loc n h => by
    rw [← e.2.1 n h]
    exact .loc n (Nat.lt_of_lt_of_le h e.1)
  | _, _, .gl x => .gl x
  | _, _, .ty n => .ty n
  | _, _, .xn h hn hs => .xn (e.2.2.2.2.1 _ _ h) hn (RWs.ext e hs)
theorem RWs.ext (e : Ext K ρ N H ρ' N' H') : ∀ {w : List PV} {v : List V}, RWs K ρ N H w v → RWs K ρ' N' H' w v
  | _, _, .nil => .nil
  | _, _, .cons h hs => .cons (RW.ext e h) (RWs.ext e hs)
end
theorem RWs.length : ∀ {ws : List PV} {vs : List V}, RWs K ρ N H ws vs → ws.length = vs.length
  | _, _, .nil => rfl
  | _, _, .cons _ t => by simp [RWs.length t]
theorem RWs.get : ∀ {ws : List PV} {vs : List V} {i : Nat} {w : PV}, RWs K ρ N H ws vs → ws[i]? = some w → ∃ v, vs[i]? = some v ∧ RW K ρ N H w v
  | _, _, _, _, .nil, e => by simp at e
  | _, _, 0, _, .cons r _, e => by simp at e; subst e; exact ⟨_, rfl, r⟩
  | _, _, i + 1, w, .cons _ t, e => by
    obtain ⟨v, h1, h2⟩ := RWs.get (i := i) (w := w) t (by simpa using e)
    exact ⟨v, by simpa using h1, h2⟩
theorem RWs.app : ∀ {ws ws' : List PV} {vs vs' : List V}, RWs K ρ N H ws vs → RWs K ρ N H ws' vs' → RWs K ρ N H (ws ++ ws') (vs ++ vs')
  | _, _, _, _, .nil, s => s
  | _, _, _, _, .cons r t, s => .cons r (RWs.app t s)
theorem RWs.take : ∀ {ws : List PV} {vs : List V} (n : Nat), RWs K ρ N H ws vs → RWs K ρ N H (ws.take n) (vs.take n)
  | _, _, 0, _ => .nil
  | _, _, _ + 1, .nil => .nil
  | _, _, n + 1, .cons r t => .cons r (RWs.take n t)
theorem RWs.drop : ∀ {ws : List PV} {vs : List V} (n : Nat), RWs K ρ N H ws vs → RWs K ρ N H (ws.drop n) (vs.drop n)
  | _, _, 0, r => r
  | _, _, _ + 1, .nil => .nil
  | _, _, n + 1, .cons _ t => RWs.drop n t
theorem RWs.set {w : PV} {v : V} (r : RW K ρ N H w v) : ∀ {ws : List PV} {vs : List V} (i : Nat), RWs K ρ N H ws vs → RWs K ρ N H (ws.set i w) (vs.set i v)
  | _, _, _, .nil => .nil
  | _, _, 0, .cons _ t => .cons r t
  | _, _, i + 1, .cons q t => .cons q (RWs.set r i t)
theorem RWs.reverse : ∀ {ws : List PV} {vs : List V}, RWs K ρ N H ws vs → RWs K ρ N H ws.reverse vs.reverse
  | _, _, .nil => .nil
  | _, _, .cons r t => by
    rw [List.reverse_cons, List.reverse_cons]
    exact RWs.app (RWs.reverse t) (.cons r .nil)
end
inductive RFs (K : PySem.W.Frag) (ρ : Nat → Addr) (N : Nat) (H : Hp) : List (Nm × PV) → List (Str × V) → Prop
  | nil : RFs K ρ N H [] []
  | cons {f : Nm} {w : PV} {r : List (Nm × PV)} {v : V} {r' : List (Str × V)} : RW K ρ N H w v → RFs K ρ N H r r' → RFs K ρ N H ((f, w) :: r) ((toS f, v) :: r')
def RKey : PV → Key → Prop
  | .int i, .inl j => i = j
  | .str l, .inr x => x.cps.toList = l
  | _, _ => False
inductive RKs (K : PySem.W.Frag) (ρ : Nat → Addr) (N : Nat) (H : Hp) : List (PV × PV) → List (Key × V) → Prop
  | nil : RKs K ρ N H [] []
  | cons {k w : PV} {r : List (PV × PV)} {kk : Key} {v : V} {r' : List (Key × V)} : RKey k kk → RW K ρ N H w v → RKs K ρ N H r r' → RKs K ρ N H ((k, w) :: r) ((kk, v) :: r')
mutual
def keyN : PV → Option NestedKey
  | .non => some .none
  | .bl b => some (.num (if b = true then 1 else 0))
  | .int i => some (.num i)
  | .str s => some (.text (toS s))
  | .tup xs => (keyNs xs).map .tup
  | _ => none
def keyNs : List PV → Option (List NestedKey)
  | [] => some []
  | x :: r => match keyN x, keyNs r with
    | some k, some ks => some (k :: ks)
    | _, _ => none
end
abbrev KVN : List (NestedKey × Addr × V) → List (NestedKey × Addr × Value) → Prop := Paired fun p q => p.1 = q.1 ∧ p.2.1 = q.2.1 ∧ RelV p.2.2 q.2.2
def DcnH (pw : PgW) (a : Addr) (xs : List (NestedKey × Addr × V)) (h : Heap) : Prop := (a == sysModules) = false ∧ xs.length ≤ sizeLine ∧ ∃ ys, KVN xs ys ∧
  ∃ o es ep, h.get? a = some o ∧ o.ExactDict ∧ o.data = .dict es ep ∧ es.toList = ys.map (entryOfKey (nestedKind pw.P pw.w)) ∧ (ys.map (·.1)).Nodup
inductive RNs (K : PySem.W.Frag) (ρ : Nat → Addr) (N : Nat) (H : Hp) : List (PV × PV) → List (NestedKey × Addr × V) → Prop
  | nil : RNs K ρ N H [] []
  | cons {k : List PV} {w : PV} {r : List (PV × PV)} {kk : NestedKey} {t : Addr} {v : V} {r' : List (NestedKey × Addr × V)} : keyN (.tup k) = some kk → kk.depth ≤ 8 → RW K ρ N H (.tup k) (.ref t) → RW K ρ N H w v → RNs K ρ N H r r' → RNs K ρ N H ((.tup k, w) :: r) ((kk, t, v) :: r')
def PtT (K : PySem.W.Frag) (H : Hp) (a : Addr) (xs : List V) : Prop :=
  (∃ o, H a = some (.frz o (.tup xs)) ∧ o.dict = none) ∨
    ∃ (o : Obj) (its : Array Value) (n : Nat), K.lookup a = some o ∧ o.cls = .type "tuple" ∧ o.dict = none ∧ o.data = .seq its n ∧ its.size ≤ sizeLine ∧ Vals xs its.toList
theorem PtT.keep {K : PySem.W.Frag} {H H' : Hp} {a : Addr} {xs : List V} (k : ∀ o u, H a = some (.frz o u) → H' a = some (.frz o u)) (h : PtT K H a xs) : PtT K H' a xs := by
  rcases h with ⟨o, h, d⟩ | h
  · exact .inl ⟨o, k _ _ h, d⟩
  · exact .inr h
theorem PtT.sq {K : PySem.W.Frag} {H : Hp} {a : Addr} {xs : List V} (h : PtT K H a xs) : SqT K H a xs := by
  rcases h with ⟨o, h, d⟩ | ⟨o, its, n, h1, h2, _, h3⟩
  · exact .inl (.inr ⟨o, h⟩)
  · exact .inr ⟨o, its, n, h1, h2, h3⟩
def RO (pw : PgW) (K : PySem.W.Frag) (ρ : Nat → Addr) (N : Nat) (H : Hp) : OB → Addr → Prop
  | .lst xs, a => ∃ vs, H a = some (.lst vs) ∧ RWs K ρ N H xs vs
  | .rol xs, a => ∃ vs, RoL K H a vs ∧ RWs K ρ N H xs vs
  | .dct kvs, a => ∃ kv', H a = some (.dK kv') ∧ RKs K ρ N H kvs kv'
  | .fdct kvs, a => ∃ o kv', H a = some (.frz o (.dK kv')) ∧ RKs K ρ N H kvs kv'
  | .dcn kvs, a => ∃ xs, H a = some (.ext (DcnH pw a xs)) ∧ RNs K ρ N H kvs xs
  | .ptp xs, a => ∃ vs, PtT K H a vs ∧ RWs K ρ N H xs vs
  | .ins C fs, a => ∃ dx fs', H a = some (.ins (He.ga K (toS C)) dx fs') ∧ RFs K ρ N H fs fs'
structure RSt (pw : PgW) (K : PySem.W.Frag) (ρ : Nat → Addr) (H : Hp) (S : Sto) : Prop where
  at_ : ∀ n o, S[n]? = some o → RO pw K ρ S.length H o (ρ n)
  inj : ∀ n m o o', S[n]? = some o → S[m]? = some o' → o.uniq = true → o'.uniq = true → ρ n = ρ m → n = m
section
variable {K : PySem.W.Frag} {ρ ρ' ρ'' : Nat → Addr} {N N' N'' : Nat} {H H' H'' : Hp} {S : Sto}
theorem RFs.ext (e : Ext K ρ N H ρ' N' H') : ∀ {w : List (Nm × PV)} {v : List (Str × V)}, RFs K ρ N H w v → RFs K ρ' N' H' w v
  | _, _, .nil => .nil
  | _, _, .cons h hs => .cons (RW.ext e h) (RFs.ext e hs)
theorem RKs.ext (e : Ext K ρ N H ρ' N' H') : ∀ {w : List (PV × PV)} {v : List (Key × V)}, RKs K ρ N H w v → RKs K ρ' N' H' w v
  | _, _, .nil => .nil
  | _, _, .cons hk h hs => .cons hk (RW.ext e h) (RKs.ext e hs)
theorem RNs.ext (e : Ext K ρ N H ρ' N' H') : ∀ {w : List (PV × PV)} {v : List (NestedKey × Addr × V)}, RNs K ρ N H w v → RNs K ρ' N' H' w v
  | _, _, .nil => .nil
  | _, _, .cons hk hd hr h hs => .cons hk hd (RW.ext e hr) (RW.ext e h) (RNs.ext e hs)
theorem RoL.keep {a : Addr} {xs : List V} (k : ∀ h, H a = some h → H' a = some h) (h : RoL K H a xs) : RoL K H' a xs := by
  rcases h with ⟨o, h⟩ | h
  · exact .inl ⟨o, k _ h⟩
  · exact .inr h
theorem RO.ext {o : OB} {a : Addr} (e : Ext K ρ N H ρ' N' H') (k : ∀ h, H a = some h → H' a = some h) (r : RO pw K ρ N H o a) : RO pw K ρ' N' H' o a := by
  cases o with
  | lst xs => obtain ⟨vs, h, r⟩ := r; exact ⟨vs, k _ h, r.ext e⟩
  | rol xs => obtain ⟨vs, h, r⟩ := r; exact ⟨vs, h.keep k, r.ext e⟩
  | dct kvs => obtain ⟨vs, h, r⟩ := r; exact ⟨vs, k _ h, r.ext e⟩
  | fdct kvs => obtain ⟨o, vs, h, r⟩ := r; exact ⟨o, vs, k _ h, r.ext e⟩
  | dcn kvs => obtain ⟨xs, h, r⟩ := r; exact ⟨xs, k _ h, r.ext e⟩
  | ptp xs => obtain ⟨vs, h, r⟩ := r; exact ⟨vs, h.keep (fun _ _ e => k _ e), r.ext e⟩
  | ins C fs => obtain ⟨dx, vs, h, r⟩ := r; exact ⟨dx, vs, k _ h, r.ext e⟩
def MutH : HO → Prop
  | .lst _ => True
  | .dK _ => True
  | .ins _ _ _ => True
  | .ext _ => True
  | _ => False
theorem RO.mutH {o : OB} {a : Addr} (r : RO pw K ρ N H o a) (m : o.mut = true) : ∃ h, H a = some h ∧ MutH h := by
  cases o with
  | lst xs => obtain ⟨vs, h, r⟩ := r; exact ⟨_, h, trivial⟩
  | rol xs => cases m
  | dct kvs => obtain ⟨vs, h, r⟩ := r; exact ⟨_, h, trivial⟩
  | fdct kvs => cases m
  | dcn kvs => obtain ⟨xs, h, r⟩ := r; exact ⟨_, h, trivial⟩
  | ptp xs => cases m
  | ins C fs => obtain ⟨dx, vs, h, r⟩ := r; exact ⟨_, h, trivial⟩
theorem RO.hasH {o : OB} {a : Addr} (r : RO pw K ρ N H o a) (m : o.uniq = true) : ∃ h, H a = some h := by
  cases o with
  | lst xs => obtain ⟨vs, h, r⟩ := r; exact ⟨_, h⟩
  | rol xs => cases m
  | dct kvs => obtain ⟨vs, h, r⟩ := r; exact ⟨_, h⟩
  | fdct kvs => obtain ⟨o, vs, h, r⟩ := r; exact ⟨_, h⟩
  | dcn kvs => obtain ⟨xs, h, r⟩ := r; exact ⟨_, h⟩
  | ptp xs => cases m
  | ins C fs => obtain ⟨dx, vs, h, r⟩ := r; exact ⟨_, h⟩
theorem sqt_upd_new {p a : Addr} {ho : HO} {vs : List V} (hp : H p = none) (h : SqT K H a vs) : SqT K (upd H p ho) a vs := by
  rcases h with (h | ⟨o, h⟩) | h
  · exact .inl (.inl (by rw [upd_ne (ne_of_none h hp)]; exact h))
  · exact .inl (.inr ⟨o, by rw [upd_ne (ne_of_none h hp)]; exact h⟩)
  · exact .inr h
theorem sqt_upd_mut {p a : Addr} {h0 ho : HO} {vs : List V} (hp : H p = some h0) (m : MutH h0) (h : SqT K H a vs) : SqT K (upd H p ho) a vs := by
  rcases h with (h | ⟨o, h⟩) | h
  · exact .inl (.inl (by rw [upd_ne (ne_of h hp (by rintro rfl; exact m))]; exact h))
  · exact .inl (.inr ⟨o, by rw [upd_ne (ne_of h hp (by rintro rfl; exact m))]; exact h⟩)
  · exact .inr h
theorem rol_upd_new {p a : Addr} {ho : HO} {vs : List V} (hp : H p = none) (h : RoL K H a vs) : RoL K (upd H p ho) a vs :=
  h.keep fun _ e => by rw [upd_ne (ne_of_none e hp)]; exact e
theorem rol_upd_mut {p a : Addr} {h0 ho : HO} {vs : List V} (hp : H p = some h0) (m : MutH h0) (h : RoL K H a vs) : RoL K (upd H p ho) a vs := by
  rcases h with ⟨o, h⟩ | h
  · exact .inl ⟨o, by rw [upd_ne (ne_of h hp (by rintro rfl; exact m))]; exact h⟩
  · exact .inr h
def grow (ρ : Nat → Addr) (N : Nat) (p : Addr) : Nat → Addr := fun n => if n = N then p else ρ n
theorem grow_new {p : Addr} : grow ρ N p N = p := by simp [grow]
theorem grow_old {p : Addr} {n : Nat} (h : n < N) : grow ρ N p n = ρ n := by simp [grow, Nat.ne_of_lt h]
theorem ext_new {p : Addr} {ho : HO} (hp : H p = none) : Ext K ρ N H (grow ρ N p) (N + 1) (upd H p ho) :=
  ⟨Nat.le_succ _, fun _ h => grow_old h, fun _ _ h => sqt_upd_new hp h, fun _ _ h => rol_upd_new hp h, fun _ _ h => by rw [upd_ne (ne_of_none h hp)]; exact h, fun _ _ _ h => by rw [upd_ne (ne_of_none h hp)]; exact h⟩
theorem ext_keep {p : Addr} {ho : HO} (hp : H p = none) : Ext K ρ N H ρ N (upd H p ho) :=
  ⟨Nat.le_refl _, fun _ _ => rfl, fun _ _ h => sqt_upd_new hp h, fun _ _ h => rol_upd_new hp h, fun _ _ h => by rw [upd_ne (ne_of_none h hp)]; exact h, fun _ _ _ h => by rw [upd_ne (ne_of_none h hp)]; exact h⟩
theorem ext_upd {p : Addr} {h0 ho : HO} (hp : H p = some h0) (m : MutH h0) : Ext K ρ N H ρ N (upd H p ho) :=
  ⟨Nat.le_refl _, fun _ _ => rfl, fun _ _ h => sqt_upd_mut hp m h, fun _ _ h => rol_upd_mut hp m h, fun _ _ h => by rw [upd_ne (ne_of h hp (by rintro rfl; exact m))]; exact h, fun _ _ _ h => by rw [upd_ne (ne_of h hp (by rintro rfl; exact m))]; exact h⟩
theorem lt_of_get {n : Nat} {o : OB} (h : S[n]? = some o) : n < S.length := (List.getElem?_eq_some_iff.mp h).1
theorem RSt.keep (r : RSt pw K ρ H S) {p : Addr} {ho : HO} (hp : H p = none) : RSt pw K ρ (upd H p ho) S :=
  ⟨fun n o h => (r.at_ n o h).ext (ext_keep hp) fun h' e => by rw [upd_ne (ne_of_none e hp)]; exact e, r.inj⟩
theorem RSt.newU (r : RSt pw K ρ H S) {p : Addr} {ho : HO} {o : OB} (hp : H p = none) (ro : RO pw K (grow ρ S.length p) (S.length + 1) (upd H p ho) o p) :
    RSt pw K (grow ρ S.length p) (upd H p ho) (S ++ [o]) := by
  have e : Ext K ρ S.length H (grow ρ S.length p) (S.length + 1) (upd H p ho) := ext_new hp
  have hl : (S ++ [o]).length = S.length + 1 := by simp
  refine ⟨fun n o' h => ?_, fun n m o1 o2 h1 h2 m1 m2 q => ?_⟩
  · rw [hl]
    by_cases hn : n < S.length
    · rw [List.getElem?_append_left hn] at h
      rw [grow_old hn]
      exact (r.at_ n o' h).ext e fun h' e' => by rw [upd_ne (ne_of_none e' hp)]; exact e'
    · have : n = S.length := by have := lt_of_get h; omega
      subst this
      rw [List.getElem?_append_right (Nat.le_refl _)] at h
      simp at h; subst h
      rw [grow_new]; exact ro
  · have l1 := lt_of_get h1
    have l2 := lt_of_get h2
    rw [hl] at l1 l2
    by_cases a1 : n < S.length
    · rw [List.getElem?_append_left a1] at h1
      by_cases a2 : m < S.length
      · rw [List.getElem?_append_left a2] at h2
        rw [grow_old a1, grow_old a2] at q
        exact r.inj n m o1 o2 h1 h2 m1 m2 q
      · have : m = S.length := by omega
        subst this
        rw [grow_old a1, grow_new] at q
        obtain ⟨ho', e1⟩ := (r.at_ n o1 h1).hasH m1
        rw [q, hp] at e1; cases e1
    · have : n = S.length := by omega
      subst this
      by_cases a2 : m < S.length
      · rw [List.getElem?_append_left a2] at h2
        rw [grow_old a2, grow_new] at q
        obtain ⟨ho', e1⟩ := (r.at_ m o2 h2).hasH m2
        rw [← q, hp] at e1; cases e1
      · omega
theorem RSt.new (r : RSt pw K ρ H S) {p : Addr} {ho : HO} {o : OB} (hp : H p = none) (hm : o.mut = true) (ro : RO pw K (grow ρ S.length p) (S.length + 1) (upd H p ho) o p) :
    RSt pw K (grow ρ S.length p) (upd H p ho) (S ++ [o]) := r.newU hp ro
theorem RSt.set (r : RSt pw K ρ H S) {n : Nat} {o o' : OB} {ho : HO} (hn : S[n]? = some o) (hm : o.mut = true) (hm' : o'.mut = true) (ro : RO pw K ρ S.length (upd H (ρ n) ho) o' (ρ n)) :
    RSt pw K ρ (upd H (ρ n) ho) (S.set n o') := by
  obtain ⟨h0, e0, mh⟩ := (r.at_ n o hn).mutH hm
  have e : Ext K ρ S.length H ρ S.length (upd H (ρ n) ho) := ext_upd e0 mh
  have ln := lt_of_get hn
  refine ⟨fun m o2 h => ?_, fun m m' o1 o2 h1 h2 m1 m2 q => ?_⟩
  · rw [List.length_set]
    by_cases hmn : n = m
    · subst hmn
      rw [List.getElem?_set_self ln] at h
      cases h; exact ro
    · rw [List.getElem?_set_ne hmn] at h
      have ro2 := r.at_ m o2 h
      by_cases mm : o2.mut = true
      · refine ro2.ext e fun h' e' => ?_
        rw [upd_ne (fun z => hmn (r.inj n m o o2 hn h (OB.uniq_of hm) (OB.uniq_of mm) z.symm))]; exact e'
      · cases o2 with
        | rol xs =>
          obtain ⟨vs, hr, rr⟩ := ro2
          refine ⟨vs, ?_, rr.ext e⟩
          rcases hr with ⟨ob, hr⟩ | hr
          · exact .inl ⟨ob, by rw [upd_ne (ne_of hr e0 (by rintro rfl; exact mh))]; exact hr⟩
          · exact .inr hr
        | fdct kvs =>
          obtain ⟨ob, vs, hr, rr⟩ := ro2
          exact ⟨ob, vs, by rw [upd_ne (ne_of hr e0 (by rintro rfl; exact mh))]; exact hr, rr.ext e⟩
        | ptp xs =>
          obtain ⟨vs, hr, rr⟩ := ro2
          exact ⟨vs, hr.keep (fun o u hr => by rw [upd_ne (ne_of hr e0 (by rintro rfl; exact mh))]; exact hr), rr.ext e⟩
        | _ => exact absurd rfl mm
  · have g : ∀ {k : Nat} {ob : OB}, (S.set n o')[k]? = some ob → ob.uniq = true → ∃ ob', S[k]? = some ob' ∧ ob'.uniq = true := fun {k ob} hk mk => by
      by_cases hkn : n = k
      · subst hkn; exact ⟨o, hn, OB.uniq_of hm⟩
      · rw [List.getElem?_set_ne hkn] at hk; exact ⟨ob, hk, mk⟩
    obtain ⟨a, a1, a2⟩ := g h1 m1
    obtain ⟨b, b1, b2⟩ := g h2 m2
    exact r.inj m m' a b a1 b1 a2 b2 q
end
end GL
set_option Elab.async false
set_option linter.all false
set_option maxRecDepth 100000
set_option maxHeartbeats 1000000
namespace GL
open PySem PySem.Spec PyProof.Rows L2
variable {pw : PgW}
inductive RL (K : PySem.W.Frag) (ρ : Nat → Addr) (N : Nat) (H : Hp) : Ls → L2.St → Prop
  | nil : RL K ρ N H [] []
  | no {ls : Ls} {o : Option V} {σ : L2.St} : RL K ρ N H ls σ → RL K ρ N H (none :: ls) (o :: σ)
  | yes {w : PV} {v : V} {ls : Ls} {σ : L2.St} : RW K ρ N H w v → RL K ρ N H ls σ → RL K ρ N H (some w :: ls) (some v :: σ)
section
variable {K : PySem.W.Frag} {ρ ρ' ρ'' : Nat → Addr} {N N' N'' : Nat} {H H' H'' : Hp} {S : Sto} {ls : Ls} {σ : L2.St}
theorem RL.ext (e : Ext K ρ N H ρ' N' H') : ∀ {ls : Ls} {σ : L2.St}, RL K ρ N H ls σ → RL K ρ' N' H' ls σ
  | _, _, .nil => .nil
  | _, _, .no t => .no (RL.ext e t)
  | _, _, .yes r t => .yes (r.ext e) (RL.ext e t)
theorem RL.length : ∀ {ls : Ls} {σ : L2.St}, RL K ρ N H ls σ → ls.length = σ.length
  | _, _, .nil => rfl
  | _, _, .no t => by simp [RL.length t]
  | _, _, .yes _ t => by simp [RL.length t]
theorem RL.get : ∀ {ls : Ls} {σ : L2.St} {i : Nat} {w : PV}, RL K ρ N H ls σ → ls[i]? = some (some w) → ∃ v, σ[i]? = some (some v) ∧ RW K ρ N H w v
  | _, _, _, _, .nil, e => by simp at e
  | _, _, 0, _, .no _, e => by simp at e
  | _, _, 0, _, .yes r _, e => by simp at e; subst e; exact ⟨_, rfl, r⟩
  | _, _, i + 1, w, .no t, e => by
    obtain ⟨v, h1, h2⟩ := RL.get (i := i) (w := w) t (by simpa using e)
    exact ⟨v, by simpa using h1, h2⟩
  | _, _, i + 1, w, .yes _ t, e => by
    obtain ⟨v, h1, h2⟩ := RL.get (i := i) (w := w) t (by simpa using e)
    exact ⟨v, by simpa using h1, h2⟩
theorem RL.set {w : PV} {v : V} (r : RW K ρ N H w v) : ∀ {ls : Ls} {σ : L2.St} (i : Nat), RL K ρ N H ls σ → RL K ρ N H (ls.set i (some w)) (σ.set i (some v))
  | _, _, _, .nil => .nil
  | _, _, 0, .no t => .yes r t
  | _, _, 0, .yes _ t => .yes r t
  | _, _, i + 1, .no t => .no (RL.set r i t)
  | _, _, i + 1, .yes q t => .yes q (RL.set r i t)
theorem RL.wipe1 (o : Option V) : ∀ {ls : Ls} {σ : L2.St} (i : Nat), RL K ρ N H ls σ → RL K ρ N H (ls.set i none) (σ.set i o)
  | _, _, _, .nil => .nil
  | _, _, 0, .no t => .no t
  | _, _, 0, .yes _ t => .no t
  | _, _, i + 1, .no t => .no (RL.wipe1 o i t)
  | _, _, i + 1, .yes q t => .yes q (RL.wipe1 o i t)
end
def wipeL (ls : Ls) : List Nat → Ls
  | [] => ls
  | v :: vs => (wipeL ls vs).set v none
theorem RL.wipe {K : PySem.W.Frag} {ρ : Nat → Addr} {N : Nat} {H : Hp} {ls : Ls} {σ : L2.St} (h : RL K ρ N H ls σ) : ∀ vs : List Nat, RL K ρ N H (wipeL ls vs) (L2.wipe σ vs)
  | [] => h
  | v :: vs => RL.wipe1 _ v (RL.wipe h vs)
def RX (K : PySem.W.Frag) (ρ : Nat → Addr) (N : Nat) (H : Hp) (e : Exn) (cls : Value) (d : Option Addr) : Prop :=
  cls = .ref (He.ga K (toS e.cls)) ∧ ∃ dx fs', d = some dx ∧ H dx = some (.xd fs') ∧ RFs K ρ N H e.fs fs'
abbrev RelF (α β : Type) := PySem.W.Frag → (Nat → Addr) → Nat → Hp → α → β → Prop
def Post {α β : Type} (pw : PgW) (R : RelF α β) (K : PySem.W.Frag) (ρ : Nat → Addr) (N : Nat) (H : Hp) (Ex : XK) (o : Out α) (Q : β → Hp → Prop) : Prop := match o with
  | .ok a S' => ∀ ρ' H' b, Ext K ρ N H ρ' S'.length H' → RSt pw K ρ' H' S' → R K ρ' S'.length H' a b → Q b H'
  | .exc e S' => ∀ ρ' H' cls d, Ext K ρ N H ρ' S'.length H' → RSt pw K ρ' H' S' → RX K ρ' S'.length H' e cls d → Ex cls d H'
  | .bad => False
def PostS (pw : PgW) (K : PySem.W.Frag) (ρ : Nat → Addr) (N : Nat) (H : Hp) (Wx : WX) (o : SOut) (D : Ends) : Prop := match o with
  | .nx ls' S' => ∀ ρ' H' σ', Ext K ρ N H ρ' S'.length H' → RSt pw K ρ' H' S' → RL K ρ' S'.length H' ls' σ' → D.nx σ' H'
  | .bk ls' S' => ∀ ρ' H' σ', Ext K ρ N H ρ' S'.length H' → RSt pw K ρ' H' S' → RL K ρ' S'.length H' ls' σ' → D.bk σ' H'
  | .ct ls' S' => ∀ ρ' H' σ', Ext K ρ N H ρ' S'.length H' → RSt pw K ρ' H' S' → RL K ρ' S'.length H' ls' σ' → D.ct σ' H'
  | .rt w S' => ∀ ρ' H' v, Ext K ρ N H ρ' S'.length H' → RSt pw K ρ' H' S' → RW K ρ' S'.length H' w v → D.rt v H'
  | .exc e ls' S' => ∀ ρ' H' σ' cls d, Ext K ρ N H ρ' S'.length H' → RSt pw K ρ' H' S' → RL K ρ' S'.length H' ls' σ' → RX K ρ' S'.length H' e cls d → Wx cls d σ' H'
  | .bad => False
abbrev RBool : RelF Bool Bool := fun _ _ _ _ a b => a = b
section
variable {α β γ δ : Type} {R : RelF α β} {R2 : RelF γ δ} {K : PySem.W.Frag} {ρ ρ' : Nat → Addr} {N N' : Nat} {H H' : Hp} {Ex : XK} {o : Out α} {Q Q' : β → Hp → Prop}
theorem Post.imp (h : Post pw R K ρ N H Ex o Q) (q : ∀ b H', Q b H' → Q' b H') : Post pw R K ρ N H Ex o Q' := by
  cases o with
  | ok a S' => exact fun ρ' H' b e r x => q b H' (h ρ' H' b e r x)
  | exc e S' => exact h
  | bad => exact h
theorem Post.ext (e : Ext K ρ N H ρ' N' H') (h : Post pw R K ρ N H Ex o Q) : Post pw R K ρ' N' H' Ex o Q := by
  cases o with
  | ok a S' => exact fun ρ2 H2 b e2 r x => h ρ2 H2 b (e.trans e2) r x
  | exc x S' => exact fun ρ2 H2 c d e2 r x => h ρ2 H2 c d (e.trans e2) r x
  | bad => exact h
theorem PostS.ext {Wx : WX} {so : SOut} {D : Ends} (e : Ext K ρ N H ρ' N' H') (h : PostS pw K ρ N H Wx so D) : PostS pw K ρ' N' H' Wx so D := by
  cases so with
  | nx a S' => exact fun ρ2 H2 b e2 r x => h ρ2 H2 b (e.trans e2) r x
  | bk a S' => exact fun ρ2 H2 b e2 r x => h ρ2 H2 b (e.trans e2) r x
  | ct a S' => exact fun ρ2 H2 b e2 r x => h ρ2 H2 b (e.trans e2) r x
  | rt a S' => exact fun ρ2 H2 b e2 r x => h ρ2 H2 b (e.trans e2) r x
  | exc x a S' => exact fun ρ2 H2 b c d e2 r x => h ρ2 H2 b c d (e.trans e2) r x
  | bad => exact h
theorem Post.bind {f : α → Sto → Out γ} {Q : δ → Hp → Prop} (h : Post pw R2 K ρ N H Ex (o.bind f) Q) :
    Post pw R K ρ N H Ex o fun b H1 => ∃ ρ1 S1 a, Ext K ρ N H ρ1 S1.length H1 ∧ RSt pw K ρ1 H1 S1 ∧ R K ρ1 S1.length H1 a b ∧ Post pw R2 K ρ1 S1.length H1 Ex (f a S1) Q := by
  cases o with
  | ok a S' => exact fun ρ1 H1 b e r x => ⟨ρ1, S', a, e, r, x, Post.ext e h⟩
  | exc x S' => exact h
  | bad => exact h
theorem Post.then {Wx : WX} {ls : Ls} {σ : L2.St} {f : α → Sto → SOut} {D : Ends} (hl : RL K ρ N H ls σ) (h : PostS pw K ρ N H Wx (o.then ls f) D) :
    Post pw R K ρ N H (fun c d H' => Wx c d σ H') o fun b H1 => ∃ ρ1 S1 a, Ext K ρ N H ρ1 S1.length H1 ∧ RSt pw K ρ1 H1 S1 ∧ R K ρ1 S1.length H1 a b ∧ PostS pw K ρ1 S1.length H1 Wx (f a S1) D := by
  cases o with
  | ok a S' => exact fun ρ1 H1 b e r x => ⟨ρ1, S', a, e, r, x, PostS.ext e h⟩
  | exc x S' => exact fun ρ1 H1 c d e r x => h ρ1 H1 σ c d e r (hl.ext e) x
  | bad => exact h
theorem PostS.seq {Wx : WX} {so : SOut} {f : MS} {D : Ends} (h : PostS pw K ρ N H Wx (so.seq f) D) :
    PostS pw K ρ N H Wx so { D with nx := fun σ1 H1 => ∃ ρ1 S1 ls1, Ext K ρ N H ρ1 S1.length H1 ∧ RSt pw K ρ1 H1 S1 ∧ RL K ρ1 S1.length H1 ls1 σ1 ∧ PostS pw K ρ1 S1.length H1 Wx (f ls1 S1) D } := by
  cases so with
  | nx a S' => exact fun ρ1 H1 b e r x => ⟨ρ1, S', a, e, r, x, PostS.ext e h⟩
  | _ => exact h
end
def tE (pw : PgW) (K : PySem.W.Frag) (Wx : WX) (m : ME) : TE := fun σ H Q => ∃ ρ S ls, RSt pw K ρ H S ∧ RL K ρ S.length H ls σ ∧ Post pw RW K ρ S.length H (fun c d H' => Wx c d σ H') (m ls S) Q
def tT (pw : PgW) (K : PySem.W.Frag) (Wx : WX) (m : MT) : TT := fun σ H Q => ∃ ρ S ls, RSt pw K ρ H S ∧ RL K ρ S.length H ls σ ∧ Post pw RBool K ρ S.length H (fun c d H' => Wx c d σ H') (m ls S) Q
def tA (pw : PgW) (K : PySem.W.Frag) (Wx : WX) (m : MA) : TA := fun σ H Q => ∃ ρ S ls, RSt pw K ρ H S ∧ RL K ρ S.length H ls σ ∧ Post pw RWs K ρ S.length H (fun c d H' => Wx c d σ H') (m ls S) Q
def tS (pw : PgW) (K : PySem.W.Frag) (Wx : WX) (m : MS) : TS := fun D σ H => ∃ ρ S ls, RSt pw K ρ H S ∧ RL K ρ S.length H ls σ ∧ PostS pw K ρ S.length H Wx (m ls S) D
abbrev IE (X : Cx) (Wx : WX) (e : Expr) (m : ME) : Prop := PE X e (tE (pwX X) X.K Wx m)
abbrev IT (X : Cx) (Wx : WX) (e : Expr) (m : MT) : Prop := PT X e (tT (pwX X) X.K Wx m)
abbrev IW (X : Cx) (Wx : WX) (e : Expr) (m : MT) : Prop := PW X e (tT (pwX X) X.K Wx m)
abbrev IA (X : Cx) (Wx : WX) (es : List Expr) (m : MA) : Prop := PA X es (tA (pwX X) X.K Wx m)
abbrev IS (X : Cx) (Wx : WX) (st : Stmt) (m : MS) : Prop := PS X st (tS (pwX X) X.K Wx m)
abbrev ISs (X : Cx) (Wx : WX) (st : List Stmt) (m : MS) : Prop := PSs X st (tS (pwX X) X.K Wx m)
theorem PEi {X : Cx} {e : Expr} {t t' : TE} (h : PE X e t) (i : ∀ σ H Q, t' σ H Q → t σ H Q) : PE X e t' := ⟨fun pins s σ H Q I hw => h.run pins s σ H Q I (i _ _ _ hw)⟩
theorem PTi {X : Cx} {e : Expr} {t t' : TT} (h : PT X e t) (i : ∀ σ H Q, t' σ H Q → t σ H Q) : PT X e t' := ⟨fun pins s σ H Q I hw => h.run pins s σ H Q I (i _ _ _ hw)⟩
theorem PWi {X : Cx} {e : Expr} {t t' : TT} (h : PW X e t) (i : ∀ σ H Q, t' σ H Q → t σ H Q) : PW X e t' := ⟨fun wh pins s σ H Q I hw => h.run wh pins s σ H Q I (i _ _ _ hw)⟩
theorem PAi {X : Cx} {e : List Expr} {t t' : TA} (h : PA X e t) (i : ∀ σ H Q, t' σ H Q → t σ H Q) : PA X e t' := ⟨fun pos pins s σ H Q I hw => h.run pos pins s σ H Q I (i _ _ _ hw)⟩
theorem PSi {X : Cx} {e : Stmt} {t t' : TS} (h : PS X e t) (i : ∀ D σ H, t' D σ H → t D σ H) : PS X e t' := ⟨fun pins s σ H D I hw => h.run pins s σ H D I (i _ _ _ hw)⟩
theorem PSsi {X : Cx} {e : List Stmt} {t t' : TS} (h : PSs X e t) (i : ∀ D σ H, t' D σ H → t D σ H) : PSs X e t' := ⟨fun pins s σ H D I hw => h.run pins s σ H D I (i _ _ _ hw)⟩
section
variable {X : Cx} {Wx : WX} {pos : Pos}
def eVar (i : Nat) : ME := fun ls S => match ls[i]? with
  | some (some w) => .ok w S
  | _ => .bad
def eC (w : PV) : ME := fun _ S => .ok w S
theorem ie_var (i : Nat) {x : Str} (hN : X.N[i]? = some x := by rfl) (hv : Vis X.env.scope x := by first | exact Or.inl rfl | exact Or.inr (Or.inl rfl) | exact Or.inr (Or.inr rfl)) (hd : (x == ("__debug__" : Str)) = false := by decide) (hcd : (x == ("__classdict__" : Str)) = false := by decide) :
    IE X Wx (.Name x pos) (eVar i) := PEi (pe_var hN hv hd hcd) fun σ H Q ⟨ρ, S, ls, hS, hL, h⟩ => by
  unfold eVar at h
  split at h
  · rename_i w e
    obtain ⟨v, e1, r⟩ := hL.get e
    exact ⟨v, e1, h ρ H v .refl hS r⟩
  · exact h.elim
theorem ie_int {i j} : IE X Wx (.Constant (.int i) j pos) (eC (.int i)) := PEi pe_int fun σ H Q ⟨ρ, S, ls, hS, hL, h⟩ => h ρ H _ .refl hS (.int i)
theorem ie_bl {i j} : IE X Wx (.Constant (.bool i) j pos) (eC (.bl i)) := PEi pe_bl fun σ H Q ⟨ρ, S, ls, hS, hL, h⟩ => h ρ H _ .refl hS (.bl i)
theorem ie_non {j} : IE X Wx (.Constant .none j pos) (eC .non) := PEi pe_non fun σ H Q ⟨ρ, S, ls, hS, hL, h⟩ => h ρ H _ .refl hS .non
theorem ie_str {x : Str} {l : List Nat} {j} (hx : x.cps.toList = l) : IE X Wx (.Constant (.str x) j pos) (eC (.str l)) := PEi pe_str fun σ H Q ⟨ρ, S, ls, hS, hL, h⟩ => h ρ H _ .refl hS (by rw [← hx]; exact .str x)
def GVal (K : PySem.W.Frag) (v : V) (w : PV) : Prop := ∀ ρ N H, RW K ρ N H w v
theorem ie_glob {x : Str} {v : V} {u : Value} {w : PV} (hg : Gl X x) (hm : X.mg x = some u) (r : RelV v u) (g : GVal X.K v w) (hd : (x == ("__debug__" : Str)) = false := by decide) : IE X Wx (.Name x pos) (eC w) :=
  PEi (pe_glob hg hm r hd) fun σ H Q ⟨ρ, S, ls, hS, hL, h⟩ => h ρ H _ .refl hS (g _ _ _)
def OpI (X : Cx) (Wx : WX) (r : R2) (g : PV → PV → Sto → Out PV) : Prop :=
  ∀ (ρ : Nat → Addr) (S : Sto) (H : Hp) (w1 w2 : PV) (x y : V) (Ex : XK) (Q : VK), RSt (pwX X) X.K ρ H S → RW X.K ρ S.length H w1 x → RW X.K ρ S.length H w2 y → Post (pwX X) RW X.K ρ S.length H Ex (g w1 w2 S) Q → r x y H Q
def eOp (g : PV → PV → Sto → Out PV) (a b : ME) : ME := fun ls S => (a ls S).bind fun w1 S1 => (b ls S1).bind fun w2 S2 => g w1 w2 S2
variable {a b c : Expr} {ma mb mc : ME} {g : PV → PV → Sto → Out PV} {r : R2}
theorem bin_in {σ : L2.St} {H : Hp} {Q : VK} (hi : OpI X Wx r g) (h : tE (pwX X) X.K Wx (eOp g ma mb) σ H Q) : tOp r (tE (pwX X) X.K Wx ma) (tE (pwX X) X.K Wx mb) σ H Q := by
  obtain ⟨ρ, S, ls, hS, hL, h⟩ := h
  refine ⟨ρ, S, ls, hS, hL, (Post.bind (R := RW) h).imp ?_⟩
  rintro x H1 ⟨ρ1, S1, w1, e1, hS1, r1, h1⟩
  refine ⟨ρ1, S1, ls, hS1, hL.ext e1, (Post.bind (R := RW) h1).imp ?_⟩
  rintro y H2 ⟨ρ2, S2, w2, e2, hS2, r2, h2⟩
  exact hi ρ2 S2 H2 w1 w2 x y _ Q hS2 (r1.ext e2) r2 h2
theorem ie_bin {op : Operator} (ho : OpR X (binaryOp op) r) (hi : OpI X Wx r g) (ha : IE X Wx a ma) (hb : IE X Wx b mb) : IE X Wx (.BinOp a op b pos) (eOp g ma mb) :=
  PEi (pe_op ho ha hb) fun σ H Q h => bin_in hi h
theorem ie_cmp {op : CmpOp} (ho : OpR X (compareOp op) r) (hi : OpI X Wx r g) (ha : IE X Wx a ma) (hb : IE X Wx b mb) (hm : behindInMarks op b = false) : IE X Wx (.Compare a [op] [b] pos) (eOp g ma mb) :=
  PEi (pe_cmpR ho ha hb hm) fun σ H Q h => bin_in hi h
def asB : PV → Sto → Out Bool := fun w S => match w with
  | .bl b => .ok b S
  | _ => .bad
def toT (m : ME) : MT := fun ls S => (m ls S).bind asB
theorem test_in {σ : L2.St} {H : Hp} {Q : Bool → Hp → Prop} (h : tT (pwX X) X.K Wx (toT ma) σ H Q) : tTest (tE (pwX X) X.K Wx ma) σ H Q := by
  obtain ⟨ρ, S, ls, hS, hL, h⟩ := h
  refine ⟨ρ, S, ls, hS, hL, (Post.bind (R := RW) h).imp ?_⟩
  rintro x H1 ⟨ρ1, S1, w1, e1, hS1, r1, h1⟩
  unfold asB at h1
  split at h1
  · cases r1
    exact ⟨_, rfl, h1 ρ1 H1 _ .refl hS1 rfl⟩
  · exact h1.elim
theorem it_cmp {op : CmpOp} (ho : OpR X (compareOp op) r) (hi : OpI X Wx r g) (ha : IE X Wx a ma) (hb : IE X Wx b mb) (hm : behindInMarks op b = false) : IT X Wx (.Compare a [op] [b] pos) (toT (eOp g ma mb)) :=
  PTi (pt_cmpR ho ha hb hm) fun σ H Q h => bin_in hi (test_in h)
variable {g' : PV → PV → Sto → Out PV} {r' : R2}
end
end GL
set_option Elab.async false
set_option linter.all false
set_option maxRecDepth 100000
set_option maxHeartbeats 1000000
namespace GL
open PySem PySem.Spec PyProof.Rows L2
variable {pw : PgW}
mutual
def PV.beq : PV → PV → Bool
  | .non, .non => true
  | .bl a, .bl b => a == b
  | .int a, .int b => decide (a = b)
  | .str a, .str b => decide (a = b)
  | .tup a, .tup b => PV.beqs a b
  | .loc a, .loc b => Nat.beq a b
  | .gl a, .gl b => decide (a = b)
  | .ty a, .ty b => decide (a = b)
  | .xn a b c d e, .xn a' b' c' d' e' => (Nat.beq a a' && (Nat.beq b b' && (decide (c = c') && decide (d = d')))) && PV.beqs e e'
  | _, _ => false
def PV.beqs : List PV → List PV → Bool
  | [], [] => true
  | a :: r, b :: s => PV.beq a b && PV.beqs r s
  | _, _ => false
end
mutual
theorem PV.eq_of_beq : ∀ {a b : PV}, PV.beq a b = true → a = b
  | .non, b, h => by cases b <;> first | rfl | (simp [PV.beq] at h)
  | .bl a, b, h => by cases b <;> first | (simp [PV.beq] at h; subst h; rfl) | (simp [PV.beq] at h)
  | .int a, b, h => by cases b <;> first | (simp [PV.beq] at h; subst h; rfl) | (simp [PV.beq] at h)
  | .str a, b, h => by cases b <;> first | (simp [PV.beq] at h; subst h; rfl) | (simp [PV.beq] at h)
  | .tup a, b, h => by
    cases b with
    | tup c => simp only [PV.beq] at h; rw [PV.eqs_of_beqs h]
    | _ => simp [PV.beq] at h
  | .loc a, b, h => by
    cases b with
    | loc c => simp only [PV.beq] at h; rw [Nat.eq_of_beq_eq_true h]
    | _ => simp [PV.beq] at h
  | .gl a, b, h => by cases b <;> first | (simp [PV.beq] at h; subst h; rfl) | (simp [PV.beq] at h)
  | .ty a, b, h => by cases b <;> first | (simp [PV.beq] at h; subst h; rfl) | (simp [PV.beq] at h)
  | .xn a b c d e, z, h => by
    cases z with
    | xn a' b' c' d' e' =>
      simp only [PV.beq, Bool.and_eq_true, decide_eq_true_eq] at h
      obtain ⟨⟨h1, h2, h3, h4⟩, h5⟩ := h
      rw [Nat.eq_of_beq_eq_true h1, Nat.eq_of_beq_eq_true h2, h3, h4, PV.eqs_of_beqs h5]
    | _ => simp [PV.beq] at h
theorem PV.eqs_of_beqs : ∀ {a b : List PV}, PV.beqs a b = true → a = b
  | [], [], _ => rfl
  | [], _ :: _, h => by simp [PV.beqs] at h
  | _ :: _, [], h => by simp [PV.beqs] at h
  | a :: r, b :: s, h => by
    simp only [PV.beqs, Bool.and_eq_true] at h
    rw [PV.eq_of_beq h.1, PV.eqs_of_beqs h.2]
end
mutual
theorem PV.beq_self : ∀ a : PV, PV.beq a a = true
  | .non => by simp [PV.beq]
  | .bl a => by simp [PV.beq]
  | .int a => by simp [PV.beq]
  | .str a => by simp [PV.beq]
  | .tup a => by simp only [PV.beq]; exact PV.beqs_self a
  | .loc a => by simp only [PV.beq]; exact Nat.beq_refl a
  | .gl a => by simp [PV.beq]
  | .ty a => by simp [PV.beq]
  | .xn a b c d e => by simp only [PV.beq]; rw [Nat.beq_refl, Nat.beq_refl, PV.beqs_self e]; simp
theorem PV.beqs_self : ∀ a : List PV, PV.beqs a a = true
  | [] => by simp [PV.beqs]
  | a :: r => by simp only [PV.beqs, Bool.and_eq_true]; exact ⟨PV.beq_self a, PV.beqs_self r⟩
end
def tAndM (a b : MT) : MT := fun ls S => (a ls S).bind fun k S1 => if k = true then b ls S1 else .ok false S1
def tOrM (a b : MT) : MT := fun ls S => (a ls S).bind fun k S1 => if k = true then .ok true S1 else b ls S1
def tNotM (a : MT) : MT := fun ls S => (a ls S).bind fun k S1 => .ok (!k) S1
def eNotM (a : ME) : ME := fun ls S => (a ls S).bind fun w S1 => match w with
  | .bl k => .ok (.bl (!k)) S1
  | _ => .bad
def eAndM (a b : ME) : ME := fun ls S => (a ls S).bind fun w S1 => match w with
  | .bl true => b ls S1
  | .bl false => .ok (.bl false) S1
  | _ => .bad
def eOrM (a b : ME) : ME := fun ls S => (a ls S).bind fun w S1 => match w with
  | .bl true => .ok (.bl true) S1
  | .bl false => b ls S1
  | _ => .bad
section
variable {X : Cx} {Wx : WX} {pos : Pos} {a b c : Expr} {rest : List Expr} {ma mb mc : ME} {ta tb : MT}
theorem it_val (h : IE X Wx a ma) (he : ∀ whole, isTrue a X.env whole = (do let v ← whole; standAt a.pos; holding [v] (truthy v)) := by intro _; rfl) : IT X Wx a (toT ma) :=
  PTi (pt_val h he) fun σ H Q q => test_in q
theorem iw_and1 (ha : IT X Wx a ta) : IW X Wx (.BoolOp .And [a] pos) ta := pw_and1 ha
theorem iw_or1 (ha : IT X Wx a ta) : IW X Wx (.BoolOp .Or [a] pos) ta := pw_or1 ha
theorem iw_and (ha : IT X Wx a ta) (hb : IW X Wx (.BoolOp .And (b :: rest) pos) tb) : IW X Wx (.BoolOp .And (a :: b :: rest) pos) (tAndM ta tb) :=
  PWi (pw_and ha hb) fun σ H Q ⟨ρ, S, ls, hS, hL, h⟩ => ⟨ρ, S, ls, hS, hL, (Post.bind (R := RBool) h).imp fun k H1 ⟨ρ1, S1, k1, e1, hS1, r1, h1⟩ => by
    have r1 : k1 = k := r1
    subst k
    cases k1
    · rw [if_neg Bool.false_ne_true] at h1 ⊢; exact h1 ρ1 H1 _ .refl hS1 rfl
    · rw [if_pos rfl] at h1 ⊢; exact ⟨ρ1, S1, ls, hS1, hL.ext e1, h1⟩⟩
theorem iw_or (ha : IT X Wx a ta) (hb : IW X Wx (.BoolOp .Or (b :: rest) pos) tb) : IW X Wx (.BoolOp .Or (a :: b :: rest) pos) (tOrM ta tb) :=
  PWi (pw_or ha hb) fun σ H Q ⟨ρ, S, ls, hS, hL, h⟩ => ⟨ρ, S, ls, hS, hL, (Post.bind (R := RBool) h).imp fun k H1 ⟨ρ1, S1, k1, e1, hS1, r1, h1⟩ => by
    have r1 : k1 = k := r1
    subst k
    cases k1
    · rw [if_neg Bool.false_ne_true] at h1 ⊢; exact ⟨ρ1, S1, ls, hS1, hL.ext e1, h1⟩
    · rw [if_pos rfl] at h1 ⊢; exact h1 ρ1 H1 _ .refl hS1 rfl⟩
theorem it_w {e : Expr} {t : MT} (h : IW X Wx e t) : IT X Wx e t := PW.pt h
theorem it_not (ha : IT X Wx a ta) : IT X Wx (.UnaryOp .Not a pos) (tNotM ta) :=
  PTi (pt_not ha) fun σ H Q ⟨ρ, S, ls, hS, hL, h⟩ => ⟨ρ, S, ls, hS, hL, (Post.bind (R := RBool) h).imp fun k H1 ⟨ρ1, S1, k1, e1, hS1, r1, h1⟩ => by
    cases r1
    exact h1 ρ1 H1 _ .refl hS1 rfl⟩
theorem ie_not (ha : IE X Wx a ma) : IE X Wx (.UnaryOp .Not a pos) (eNotM ma) :=
  PEi (pe_not ha) fun σ H Q ⟨ρ, S, ls, hS, hL, h⟩ => ⟨ρ, S, ls, hS, hL, (Post.bind (R := RW) h).imp fun x H1 ⟨ρ1, S1, w1, e1, hS1, r1, h1⟩ => by
    split at h1
    · cases r1
      exact ⟨_, rfl, h1 ρ1 H1 _ .refl hS1 (.bl _)⟩
    · exact h1.elim⟩
theorem ie_one {op} {m : ME} (h : IE X Wx a m) : IE X Wx (.BoolOp op [a] pos) m := pe_one h
theorem ie_and (ha : IE X Wx a ma) (hb : IE X Wx (.BoolOp .And (b :: rest) pos) mb) : IE X Wx (.BoolOp .And (a :: b :: rest) pos) (eAndM ma mb) :=
  PEi (pe_and ha hb) fun σ H Q ⟨ρ, S, ls, hS, hL, h⟩ => ⟨ρ, S, ls, hS, hL, (Post.bind (R := RW) h).imp fun x H1 ⟨ρ1, S1, w1, e1, hS1, r1, h1⟩ => by
    split at h1
    · cases r1
      exact ⟨true, rfl, by rw [if_pos rfl]; exact ⟨ρ1, S1, ls, hS1, hL.ext e1, h1⟩⟩
    · cases r1
      exact ⟨false, rfl, by rw [if_neg Bool.false_ne_true]; exact h1 ρ1 H1 _ .refl hS1 (.bl _)⟩
    · exact h1.elim⟩
theorem ie_or (ha : IE X Wx a ma) (hb : IE X Wx (.BoolOp .Or (b :: rest) pos) mb) : IE X Wx (.BoolOp .Or (a :: b :: rest) pos) (eOrM ma mb) :=
  PEi (pe_or ha hb) fun σ H Q ⟨ρ, S, ls, hS, hL, h⟩ => ⟨ρ, S, ls, hS, hL, (Post.bind (R := RW) h).imp fun x H1 ⟨ρ1, S1, w1, e1, hS1, r1, h1⟩ => by
    split at h1
    · cases r1
      exact ⟨true, rfl, by rw [if_pos rfl]; exact h1 ρ1 H1 _ .refl hS1 (.bl _)⟩
    · cases r1
      exact ⟨false, rfl, by rw [if_neg Bool.false_ne_true]; exact ⟨ρ1, S1, ls, hS1, hL.ext e1, h1⟩⟩
    · exact h1.elim⟩
def aNil : MA := fun _ S => .ok [] S
def aCons (a : ME) (r : MA) : MA := fun ls S => (a ls S).bind fun w S1 => (r ls S1).bind fun ws S2 => .ok (w :: ws) S2
variable {es : List Expr} {e : Expr} {mr : MA}
theorem ia_nil : IA X Wx [] aNil := PAi pa_nil fun σ H Q ⟨ρ, S, ls, hS, hL, h⟩ => h ρ H _ .refl hS .nil
theorem ia_cons (ha : IE X Wx e ma) (hr : IA X Wx es mr) (hs : starEach (e :: es) X.env = (false, eval e X.env) :: starEach es X.env := by rfl) : IA X Wx (e :: es) (aCons ma mr) :=
  PAi (pa_cons ha hr hs) fun σ H Q ⟨ρ, S, ls, hS, hL, h⟩ => ⟨ρ, S, ls, hS, hL, (Post.bind (R := RW) h).imp fun x H1 ⟨ρ1, S1, w1, e1, hS1, r1, h1⟩ =>
    ⟨ρ1, S1, ls, hS1, hL.ext e1, (Post.bind (R := RWs) h1).imp fun xs H2 ⟨ρ2, S2, ws, e2, hS2, r2, h2⟩ => h2 ρ2 H2 _ .refl hS2 (.cons (r1.ext e2) r2)⟩⟩
def lim : Nat := 100000
theorem lim_sz {n : Nat} (h : n ≤ lim) : n ≤ sizeLine := Nat.le_trans h (by decide)
theorem lim_lt {n : Nat} (h : n < lim) : n < sizeLine := Nat.lt_of_lt_of_le h (by decide)
def eTup (m : MA) : ME := fun ls S => (m ls S).bind fun ws S1 => if ws.length ≤ lim then .ok (.tup ws) S1 else .bad
def eLst (m : MA) : ME := fun ls S => (m ls S).bind fun ws S1 => if ws.length ≤ lim then .ok (.loc S1.length) (S1 ++ [.lst ws]) else .bad
theorem mk_tup {K : PySem.W.Frag} {ρ : Nat → Addr} {S : Sto} {H : Hp} {ws : List PV} {vs : List V} {Ex : XK} {Q : VK} (hS : RSt pw K ρ H S) (r : RWs K ρ S.length H ws vs) (h : Post pw RW K ρ S.length H Ex (.ok (.tup ws) S) Q) :
    ∀ p, H p = none → Q (.ref p) (upd H p (.tup vs)) := fun p hp => by
  have e : Ext K ρ S.length H ρ S.length (upd H p (.tup vs)) := ext_keep hp
  exact h ρ _ _ e (hS.keep hp) (.tup (SqT.of upd_same) (r.ext e))
theorem mk_lst {K : PySem.W.Frag} {ρ : Nat → Addr} {S : Sto} {H : Hp} {ws : List PV} {vs : List V} {Ex : XK} {Q : VK} (hS : RSt pw K ρ H S) (r : RWs K ρ S.length H ws vs) (h : Post pw RW K ρ S.length H Ex (.ok (.loc S.length) (S ++ [.lst ws])) Q) :
    ∀ p, H p = none → Q (.ref p) (upd H p (.lst vs)) := fun p hp => by
  have e : Ext K ρ S.length H (grow ρ S.length p) (S.length + 1) (upd H p (.lst vs)) := ext_new hp
  have hl : (S ++ [OB.lst ws]).length = S.length + 1 := by simp
  have n := RSt.new (o := .lst ws) hS hp rfl ⟨vs, upd_same, r.ext e⟩
  refine h _ _ _ (by rw [hl]; exact e) n ?_
  rw [hl]
  have q : RW K (grow ρ S.length p) (S.length + 1) (upd H p (.lst vs)) (.loc S.length) (.ref (grow ρ S.length p S.length)) := .loc _ (Nat.lt_succ_self _)
  rw [grow_new] at q
  exact q
theorem ie_tup {x1} (h : IA X Wx es mr) : IE X Wx (.Tuple es x1 pos) (eTup mr) :=
  PEi (pe_tup h) fun σ H Q ⟨ρ, S, ls, hS, hL, h⟩ => ⟨ρ, S, ls, hS, hL, (Post.bind (R := RWs) h).imp fun xs H1 ⟨ρ1, S1, ws, e1, hS1, r1, h1⟩ => by
    split at h1
    · rename_i hz
      exact ⟨by rw [← r1.length]; exact lim_sz hz, mk_tup hS1 r1 h1⟩
    · exact h1.elim⟩
theorem ie_lst (h : IA X Wx es mr) : IE X Wx (.List es pos) (eLst mr) :=
  PEi (pe_lst h) fun σ H Q ⟨ρ, S, ls, hS, hL, h⟩ => ⟨ρ, S, ls, hS, hL, (Post.bind (R := RWs) h).imp fun xs H1 ⟨ρ1, S1, ws, e1, hS1, r1, h1⟩ => by
    split at h1
    · rename_i hz
      exact ⟨by rw [← r1.length]; exact lim_sz hz, mk_lst hS1 r1 h1⟩
    · exact h1.elim⟩
end
def sNil : MS := fun ls S => .nx ls S
def sSeq (a b : MS) : MS := fun ls S => (a ls S).seq b
def sSet (i : Nat) (m : ME) : MS := fun ls S => (m ls S).then ls fun w S1 => .nx (ls.set i (some w)) S1
def sExpr (m : ME) : MS := fun ls S => (m ls S).then ls fun _ S1 => .nx ls S1
def sRet (m : ME) : MS := fun ls S => (m ls S).then ls fun w S1 => .rt w S1
def sIf (c : MT) (a b : MS) : MS := fun ls S => (c ls S).then ls fun k S1 => if k = true then a ls S1 else b ls S1
def sBk : MS := fun ls S => .bk ls S
section
variable {X : Cx} {Wx : WX} {pos : Pos} {st : Stmt} {rest : List Stmt} {m1 m2 : MS} {e c : Expr} {me : ME} {mt : MT}
theorem iss_nil : ISs X Wx [] sNil := PSsi pss_nil fun D σ H ⟨ρ, S, ls, hS, hL, h⟩ => h ρ H σ .refl hS hL
theorem iss_cons (h1 : IS X Wx st m1) (h2 : ISs X Wx rest m2) : ISs X Wx (st :: rest) (sSeq m1 m2) :=
  PSsi (pss_cons h1 h2) fun D σ H ⟨ρ, S, ls, hS, hL, h⟩ => ⟨ρ, S, ls, hS, hL, by
    have q := PostS.seq h
    cases hm : m1 ls S with
    | nx a S' =>
      rw [hm] at q
      exact fun ρ1 H1 σ1 e r x => by
        obtain ⟨ρ2, S2, ls2, _, a, b, c⟩ := q ρ1 H1 σ1 e r x
        exact ⟨ρ2, S2, ls2, a, b, c⟩
    | bk a S' => rw [hm] at q; exact q
    | ct a S' => rw [hm] at q; exact q
    | rt a S' => rw [hm] at q; exact q
    | exc a b S' => rw [hm] at q; exact q
    | bad => rw [hm] at q; exact q⟩
theorem iss_one (h1 : IS X Wx st m1) : ISs X Wx [st] m1 := pss_one h1
theorem is_break : IS X Wx (.Break pos) sBk := PSi ps_break fun D σ H ⟨ρ, S, ls, hS, hL, h⟩ => h ρ H σ .refl hS hL
theorem is_set {i : Nat} {x : Str} {pos' : Pos} (hN : X.N.Nodup) (he : IE X Wx e me) (hi : X.N[i]? = some x := by rfl) (hx : Loc X.env.scope x := by first | exact Or.inl rfl | exact Or.inr rfl) (hs : swapsWith e (some (.Name x pos')) pos.line X.env = pure false := by rfl) (hf : X.fn x = true ∨ X.env.scope.names.lookup x = some .local := by first | exact .inl rfl | exact .inr rfl) :
    IS X Wx (.Assign [.Name x pos'] e pos) (sSet i me) :=
  PSi (ps_set (i := i) hN hi hx he hs hf) fun D σ H ⟨ρ, S, ls, hS, hL, h⟩ => ⟨ρ, S, ls, hS, hL, (Post.then (R := RW) hL h).imp fun x H1 ⟨ρ1, S1, w1, e1, hS1, r1, h1⟩ => h1 ρ1 H1 _ .refl hS1 (RL.set r1 _ (hL.ext e1))⟩
theorem is_expr (he : IE X Wx e me) (hs : swapsWith e none pos.line X.env = pure false := by rfl) : IS X Wx (.Expr e pos) (sExpr me) :=
  PSi (ps_expr he hs) fun D σ H ⟨ρ, S, ls, hS, hL, h⟩ => ⟨ρ, S, ls, hS, hL, (Post.then (R := RW) hL h).imp fun x H1 ⟨ρ1, S1, w1, e1, hS1, r1, h1⟩ => h1 ρ1 H1 _ .refl hS1 (hL.ext e1)⟩
theorem is_ret (he : IE X Wx e me) : IS X Wx (.Return (some e) pos) (sRet me) :=
  PSi (ps_ret he) fun D σ H ⟨ρ, S, ls, hS, hL, h⟩ => ⟨ρ, S, ls, hS, hL, (Post.then (R := RW) hL h).imp fun x H1 ⟨ρ1, S1, w1, e1, hS1, r1, h1⟩ => h1 ρ1 H1 _ .refl hS1 r1⟩
theorem is_if {a b : List Stmt} (hc : IT X Wx c mt) (ha : ISs X Wx a m1) (hb : ISs X Wx b m2) : IS X Wx (.If c a b pos) (sIf mt m1 m2) :=
  PSi (ps_if hc ha hb) fun D σ H ⟨ρ, S, ls, hS, hL, h⟩ => ⟨ρ, S, ls, hS, hL, (Post.then (R := RBool) hL h).imp fun k H1 ⟨ρ1, S1, k1, e1, hS1, r1, h1⟩ => by
    have r1 : k1 = k := r1
    subst k
    cases k1
    · rw [if_neg Bool.false_ne_true] at h1 ⊢; exact ⟨ρ1, S1, ls, hS1, hL.ext e1, h1⟩
    · rw [if_pos rfl] at h1 ⊢; exact ⟨ρ1, S1, ls, hS1, hL.ext e1, h1⟩⟩
def whileL (c : MT) (body : MS) : Nat → MS
  | 0, _, _ => .bad
  | n + 1, ls, S => (c ls S).then ls fun k S1 => if k = true then (match body ls S1 with
      | .nx ls2 S2 => whileL c body n ls2 S2
      | .ct ls2 S2 => whileL c body n ls2 S2
      | .bk ls2 S2 => .nx ls2 S2
      | r => r) else .nx ls S1
theorem is_while {body : List Stmt} {mb : MS} (n : Nat) (hp : PassesOwn (model X.prog X.w) X.A X.env X.xe) (hc : IT X Wx c mt) (hb : ISs X Wx body mb) : IS X Wx (.While c body [] pos) (whileL mt mb n) :=
  PSi (ps_while hp hc hb) fun D σ H ⟨ρ, S, ls, hS, hL, h⟩ => by
    refine ⟨fun m σ H => ∃ ρ S ls, RSt (pwX X) X.K ρ H S ∧ RL X.K ρ S.length H ls σ ∧ PostS (pwX X) X.K ρ S.length H Wx (whileL mt mb m ls S) D, ⟨n, ρ, S, ls, hS, hL, h⟩, ?_⟩
    rintro m σ H ⟨ρ, S, ls, hS, hL, h⟩
    cases m with
    | zero => exact h.elim
    | succ m =>
      refine ⟨ρ, S, ls, hS, hL, (Post.then (R := RBool) hL h).imp fun k H1 ⟨ρ1, S1, k1, e1, hS1, r1, h1⟩ => ?_⟩
      have r1 : k1 = k := r1
      subst k
      cases k1
      · rw [if_neg Bool.false_ne_true] at h1 ⊢; exact h1 ρ1 H1 σ .refl hS1 (hL.ext e1)
      · rw [if_pos rfl] at h1 ⊢
        refine ⟨_, fun σ' H' w => ⟨m, Nat.lt_succ_self m, w⟩, ρ1, S1, ls, hS1, hL.ext e1, ?_⟩
        cases hm : mb ls S1 with
        | nx a S' => rw [hm] at h1; exact fun ρ2 H2 σ2 e2 r2 l2 => ⟨ρ2, S', a, r2, l2, PostS.ext e2 h1⟩
        | ct a S' => rw [hm] at h1; exact fun ρ2 H2 σ2 e2 r2 l2 => ⟨ρ2, S', a, r2, l2, PostS.ext e2 h1⟩
        | bk a S' => rw [hm] at h1; exact h1
        | rt a S' => rw [hm] at h1; exact h1
        | exc a b S' => rw [hm] at h1; exact h1
        | bad => rw [hm] at h1; exact h1
end
end GL
set_option Elab.async false
set_option linter.all false
set_option maxRecDepth 100000
set_option maxHeartbeats 1000000
namespace GL
open PySem PySem.Spec PyProof.Rows L2
variable {pw : PgW}
def lstAt (S : Sto) (n : Nat) : Option (List PV) := match S[n]? with
  | some (.lst xs) => some xs
  | _ => none
def seqAt (S : Sto) (n : Nat) : Option (List PV) := match S[n]? with
  | some (.lst xs) => some xs
  | some (.rol xs) => some xs
  | _ => none
def ptpA (S : Sto) (n : Nat) : Option (List PV) := match S[n]? with
  | some (.ptp xs) => some xs
  | _ => none
section
variable {K : PySem.W.Frag} {ρ : Nat → Addr} {H : Hp} {S : Sto} {n : Nat} {xs : List PV}
theorem ptpA_of (hS : RSt pw K ρ H S) (h : ptpA S n = some xs) : ∃ vs, PtT K H (ρ n) vs ∧ RWs K ρ S.length H xs vs := by
  unfold ptpA at h; split at h
  · rename_i e; cases h
    exact hS.at_ _ _ e
  · cases h
theorem lstAt_get (h : lstAt S n = some xs) : S[n]? = some (.lst xs) := by
  unfold lstAt at h; split at h
  · rename_i e; cases h; exact e
  · cases h
theorem lst_of (hS : RSt pw K ρ H S) (h : lstAt S n = some xs) : ∃ vs, H (ρ n) = some (.lst vs) ∧ RWs K ρ S.length H xs vs := hS.at_ _ _ (lstAt_get h)
theorem seq_of (hS : RSt pw K ρ H S) (h : seqAt S n = some xs) : ∃ vs, SqL K H (ρ n) vs ∧ RWs K ρ S.length H xs vs := by
  unfold seqAt at h; split at h
  · rename_i e; cases h
    obtain ⟨vs, a, b⟩ := hS.at_ _ _ e
    exact ⟨vs, SqL.of a, b⟩
  · rename_i e; cases h
    obtain ⟨vs, a, b⟩ := hS.at_ _ _ e
    exact ⟨vs, a.sq, b⟩
  · cases h
theorem set_lst (hS : RSt pw K ρ H S) (h : lstAt S n = some xs) {ys : List PV} {vs : List V} (r : RWs K ρ S.length H ys vs) :
    RSt pw K ρ (upd H (ρ n) (.lst vs)) (S.set n (.lst ys)) ∧ Ext K ρ S.length H ρ (S.set n (.lst ys)).length (upd H (ρ n) (.lst vs)) := by
  obtain ⟨v0, h0, _⟩ := lst_of hS h
  have e : Ext K ρ S.length H ρ S.length (upd H (ρ n) (.lst vs)) := ext_upd h0 trivial
  exact ⟨hS.set (lstAt_get h) rfl rfl ⟨vs, upd_same, r.ext e⟩, by rw [List.length_set]; exact e⟩
end
theorem RWs.nil_inv {K : PySem.W.Frag} {ρ : Nat → Addr} {N : Nat} {H : Hp} {ws : List PV} (r : RWs K ρ N H ws []) : ws = [] := by cases r; rfl
theorem Post.here {K : PySem.W.Frag} {ρ : Nat → Addr} {S : Sto} {H : Hp} {Ex : XK} {Q : VK} {w : PV} {v : V} (h : Post pw RW K ρ S.length H Ex (.ok w S) Q) (hS : RSt pw K ρ H S) (r : RW K ρ S.length H w v) : Q v H := h ρ H v .refl hS r
def gAdd : PV → PV → Sto → Out PV := fun a b S => match a, b with
  | .int i, .int j => .ok (.int (i + j)) S
  | .str x, .str y => if x.length + y.length ≤ lim then .ok (.str (x ++ y)) S else .bad
  | .tup x, .tup y => if x.length + y.length ≤ lim then .ok (.tup (x ++ y)) S else .bad
  | .loc n, .loc m => (match lstAt S n, lstAt S m with
    | some x, some y => if x.length + y.length ≤ lim then .ok (.loc S.length) (S ++ [.lst (x ++ y)]) else .bad
    | _, _ => .bad)
  | _, _ => .bad
def rAddM (K : PySem.W.Frag) : R2 := fun x y H Q => (rI0 fun i j => .int (i + j)) x y H Q ∨
  (∃ i j, x = .str i ∧ y = .str j ∧ i.length + j.length ≤ sizeLine ∧ Q (.str (i ++ j)) H) ∨ rCatA K x y H Q ∨ rCat x y H Q
section
variable {X : Cx} {Wx : WX}
theorem or_addM : OpR X (binaryOp .Add) (rAddM X.K) := op_add.or (op_add_str.or (op_catA.or op_cat))
theorem str_len {x : Str} : x.cps.toList.length = x.length := by simp [Str.length]
theorem oi_add : OpI X Wx (rAddM X.K) gAdd := by
  intro ρ S H w1 w2 x y Ex Q hS r1 r2 h
  unfold gAdd at h
  split at h
  · cases r1; cases r2
    exact .inl ⟨_, _, rfl, rfl, h.here hS (.int _)⟩
  · split at h
    · rename_i hz
      cases r1 with
      | str i => cases r2 with
        | str j =>
          rw [str_len, str_len] at hz
          refine .inr (.inl ⟨_, _, rfl, rfl, lim_sz hz, h.here hS ?_⟩)
          have : (i ++ j).cps.toList = i.cps.toList ++ j.cps.toList := by
            show (i.cps ++ j.cps).toList = _
            simp
          rw [← this]; exact .str _
    · exact h.elim
  · split at h
    · rename_i hz
      cases r1 with
      | tup s1 t1 => cases r2 with
        | tup s2 t2 =>
          rw [t1.length, t2.length] at hz
          refine .inr (.inr (.inl ⟨_, _, _, _, rfl, rfl, s1, s2, lim_sz hz, fun e => ?_, fun _ e => ?_, fun _ _ => mk_tup hS (t1.app t2) h⟩))
          · subst e
            rw [t1.nil_inv, List.nil_append] at h
            exact h.here hS (.tup s2 t2)
          · subst e
            rw [t2.nil_inv, List.append_nil] at h
            exact h.here hS (.tup s1 t1)
    · exact h.elim
  · split at h
    · split at h
      · rename_i e1 e2 hz
        cases r1; cases r2
        obtain ⟨v1, h1, t1⟩ := lst_of hS e1
        obtain ⟨v2, h2, t2⟩ := lst_of hS e2
        rw [t1.length, t2.length] at hz
        exact .inr (.inr (.inr ⟨_, _, _, _, rfl, rfl, h1, h2, lim_sz hz, mk_lst hS (t1.app t2) h⟩))
      · exact h.elim
    · exact h.elim
  · exact h.elim
def gInt (g : Int → Int → Int) : PV → PV → Sto → Out PV := fun a b S => match a, b with
  | .int i, .int j => .ok (.int (g i j)) S
  | _, _ => .bad
def gIntC (c : Int → Int → Bool) (g : Int → Int → Int) : PV → PV → Sto → Out PV := fun a b S => match a, b with
  | .int i, .int j => if c i j = true then .ok (.int (g i j)) S else .bad
  | _, _ => .bad
def gCmpI (g : Int → Int → Bool) : PV → PV → Sto → Out PV := fun a b S => match a, b with
  | .int i, .int j => .ok (.bl (g i j)) S
  | _, _ => .bad
theorem oi_int {g : Int → Int → Int} : OpI X Wx (rI0 fun i j => .int (g i j)) (gInt g) := by
  intro ρ S H w1 w2 x y Ex Q hS r1 r2 h
  unfold gInt at h
  split at h
  · cases r1; cases r2; exact ⟨_, _, rfl, rfl, h.here hS (.int _)⟩
  · exact h.elim
theorem oi_intC {C : Int → Int → Prop} {c : Int → Int → Bool} {g : Int → Int → Int} (hc : ∀ i j, c i j = true → C i j) : OpI X Wx (rI C fun i j => .int (g i j)) (gIntC c g) := by
  intro ρ S H w1 w2 x y Ex Q hS r1 r2 h
  unfold gIntC at h
  split at h
  · split at h
    · rename_i q
      cases r1; cases r2; exact ⟨_, _, rfl, rfl, hc _ _ q, h.here hS (.int _)⟩
    · exact h.elim
  · exact h.elim
theorem oi_cmpI {g : Int → Int → Bool} : OpI X Wx (rI0 fun i j => .bl (g i j)) (gCmpI g) := by
  intro ρ S H w1 w2 x y Ex Q hS r1 r2 h
  unfold gCmpI at h
  split at h
  · cases r1; cases r2; exact ⟨_, _, rfl, rfl, h.here hS (.bl _)⟩
  · exact h.elim
def gSub := gInt fun i j => i - j
def cDiv : Int → Int → Bool := fun _ j => decide (0 < j) && decide (j < 1073741824)
def cMod : Int → Int → Bool := fun _ j => decide (0 < j)
def gDiv := gIntC cDiv fun i j => i / j
def gMod := gIntC cMod fun i j => i % j
def gLt := gCmpI fun i j => decide (i < j)
theorem oi_sub : OpI X Wx (rI0 fun i j => .int (i - j)) gSub := oi_int
theorem oi_div : OpI X Wx (rI CDiv fun i j => .int (i / j)) gDiv := oi_intC fun i j h => by
  simp only [cDiv, Bool.and_eq_true, decide_eq_true_eq] at h; exact h
theorem oi_mod : OpI X Wx (rI (fun _ j => 0 < j) fun i j => .int (i % j)) gMod := oi_intC fun i j h => by
  simp only [cMod, decide_eq_true_eq] at h; exact h
theorem oi_lt : OpI X Wx (rI0 fun i j => .bl (decide (i < j))) gLt := oi_cmpI
def big : Int := 18446744073709551616
end
def scalP : PV → PV → Option Bool
  | .int i, .int j => some (decide (i = j))
  | .str x, .str y => some (decide (x = y))
  | .bl x, .bl y => some (x == y)
  | .non, .non => some true
  | .non, .int _ => some false
  | .int _, .non => some false
  | .non, .bl _ => some false
  | .bl _, .non => some false
  | .non, .str _ => some false
  | .str _, .non => some false
  | .int _, .str _ => some false
  | .str _, .int _ => some false
  | .bl _, .str _ => some false
  | .str _, .bl _ => some false
  | _, _ => none
def optAll {α β : Type} (f : α → Option β) : List α → Option (List β)
  | [] => some []
  | x :: r => match f x, optAll f r with
    | some d, some ds => some (d :: ds)
    | _, _ => none
def datP (S : Sto) : Nat → PV → Option PyData
  | 0, _ => none
  | f + 1, w => match w with
    | .non => some .none
    | .bl b => some (.bool b)
    | .int i => some (.int i)
    | .str l => if PyData.strOk (toS l) = true then some (.str (toS l)) else none
    | .tup xs => (optAll (datP S f) xs).map .tuple
    | .loc n => (match seqAt S n with
      | some xs => (optAll (datP S f) xs).map .list
      | none => (match ptpA S n with
        | some xs => (optAll (datP S f) xs).map .tuple
        | none => none))
    | _ => none
theorem optAll_some {α β : Type} {f : α → Option β} : ∀ {xs : List α} {ds : List β}, optAll f xs = some ds → ∀ d ∈ ds, ∃ x ∈ xs, f x = some d
  | [], ds, h => by cases h; intro d hd; cases hd
  | x :: r, ds, h => by
    unfold optAll at h
    split at h
    · rename_i d ds' e1 e2
      cases h
      intro d' hd
      rcases List.mem_cons.mp hd with rfl | hd
      · exact ⟨x, List.mem_cons_self, e1⟩
      · obtain ⟨y, hy, q⟩ := optAll_some e2 d' hd
        exact ⟨y, List.mem_cons_of_mem _ hy, q⟩
    · cases h
theorem canAll : ∀ {ds : List PyData}, (∀ d ∈ ds, d.canLay0 = true) → PyData.canLayAll0 ds = true
  | [], _ => by simp [PyData.canLayAll0]
  | d :: r, h => by
    simp only [PyData.canLayAll0, Bool.and_eq_true]
    exact ⟨h d List.mem_cons_self, canAll fun x hx => h x (List.mem_cons_of_mem _ hx)⟩
theorem depAll {n : Nat} : ∀ {ds : List PyData}, (∀ d ∈ ds, d.depth ≤ n) → PyData.depthAll ds ≤ n
  | [], _ => by simp [PyData.depthAll]
  | d :: r, h => by
    simp only [PyData.depthAll]
    exact Nat.max_le.mpr ⟨h d List.mem_cons_self, depAll fun x hx => h x (List.mem_cons_of_mem _ hx)⟩
theorem datP_ok {S : Sto} : ∀ {f : Nat} {w : PV} {d : PyData}, datP S f w = some d → d.canLay0 = true ∧ d.depth ≤ f
  | 0, _, _, h => by cases h
  | f + 1, w, d, h => by
    cases w with
    | non => cases h; simp [PyData.canLay0, PyData.depth]
    | bl b => cases h; simp [PyData.canLay0, PyData.depth]
    | int i => cases h; simp [PyData.canLay0, PyData.depth]
    | str l =>
      simp only [datP] at h
      split at h
      · rename_i q; cases h; simp [PyData.canLay0, PyData.depth, q]
      · cases h
    | tup xs =>
      simp only [datP] at h
      cases e : optAll (datP S f) xs with
      | none => rw [e] at h; cases h
      | some ds =>
        rw [e] at h; cases h
        have q : ∀ d ∈ ds, d.canLay0 = true ∧ d.depth ≤ f := fun d hd => by
          obtain ⟨x, _, q⟩ := optAll_some e d hd
          exact datP_ok q
        simp only [PyData.canLay0, PyData.depth]
        exact ⟨canAll fun d hd => (q d hd).1, Nat.succ_le_succ (depAll fun d hd => (q d hd).2)⟩
    | loc n =>
      simp only [datP] at h
      split at h
      · rename_i xs _
        cases e : optAll (datP S f) xs with
        | none => rw [e] at h; cases h
        | some ds =>
          rw [e] at h; cases h
          have q : ∀ d ∈ ds, d.canLay0 = true ∧ d.depth ≤ f := fun d hd => by
            obtain ⟨x, _, q⟩ := optAll_some e d hd
            exact datP_ok q
          simp only [PyData.canLay0, PyData.depth]
          exact ⟨canAll fun d hd => (q d hd).1, Nat.succ_le_succ (depAll fun d hd => (q d hd).2)⟩
      · split at h
        · rename_i xs _
          cases e : optAll (datP S f) xs with
          | none => rw [e] at h; cases h
          | some ds =>
            rw [e] at h; cases h
            have q : ∀ d ∈ ds, d.canLay0 = true ∧ d.depth ≤ f := fun d hd => by
              obtain ⟨x, _, q⟩ := optAll_some e d hd
              exact datP_ok q
            simp only [PyData.canLay0, PyData.depth]
            exact ⟨canAll fun d hd => (q d hd).1, Nat.succ_le_succ (depAll fun d hd => (q d hd).2)⟩
        · cases h
    | gl x => cases h
    | ty b => cases h
    | xn a b c d e => cases h
section
variable {K : PySem.W.Frag} {ρ : Nat → Addr} {H : Hp} {S : Sto}
theorem datP_all {f : Nat} (ih : ∀ {w : PV} {v : V} {d : PyData}, RW K ρ S.length H w v → datP S f w = some d → Dp K H v d) :
    ∀ {xs : List PV} {vs : List V} {ds : List PyData}, RWs K ρ S.length H xs vs → optAll (datP S f) xs = some ds → DpAll K H vs ds
  | [], _, _, r, h => by cases r; cases h; exact .nil
  | x :: xs, _, _, r, h => by
    cases r with
    | cons r rs =>
      unfold optAll at h
      split at h
      · rename_i d ds e1 e2
        cases h
        exact .cons (ih r e1) (datP_all ih rs e2)
      · cases h
theorem datP_dp (hS : RSt pw K ρ H S) : ∀ {f : Nat} {w : PV} {v : V} {d : PyData}, RW K ρ S.length H w v → datP S f w = some d → Dp K H v d
  | 0, _, _, _, _, h => by cases h
  | f + 1, w, v, d, r, h => by
    cases r with
    | non => cases h; exact .non
    | bl b => cases h; exact .bl b
    | int i => cases h; exact .int i
    | str x =>
      simp only [datP, toS_cps] at h
      split at h
      · cases h; exact .str x
      · cases h
    | tup s t =>
      simp only [datP] at h
      cases e : optAll (datP S f) _ with
      | none => rw [e] at h; cases h
      | some ds => rw [e] at h; cases h; exact .tup s (datP_all (datP_dp hS) t e)
    | loc n hn =>
      simp only [datP] at h
      split at h
      · rename_i xs e0
        obtain ⟨vs, s, t⟩ := seq_of hS e0
        cases e : optAll (datP S f) _ with
        | none => rw [e] at h; cases h
        | some ds => rw [e] at h; cases h; exact .lst s (datP_all (datP_dp hS) t e)
      · split at h
        · rename_i xs e0
          obtain ⟨vs, s, t⟩ := ptpA_of hS e0
          cases e : optAll (datP S f) _ with
          | none => rw [e] at h; cases h
          | some ds => rw [e] at h; cases h; exact .tup s.sq (datP_all (datP_dp hS) t e)
        · cases h
    | gl x => cases h
    | ty n => cases h
    | xn _ _ _ => cases h
end
def eqM (neg : Bool) : PV → PV → Sto → Out PV := fun a b S => match scalP a b with
  | some k => .ok (.bl (if neg = true then !k else k)) S
  | none => match datP S 60 a, datP S 60 b with
    | some d, some e => .ok (.bl (if neg = true then !PyData.eqv d e else PyData.eqv d e)) S
    | _, _ => .bad
def gEq := eqM false
def gNe := eqM true
def rEqM (K : PySem.W.Frag) : R2 := fun x y H Q => rEq x y H Q ∨ rEqD K x y H Q
def rNeM (K : PySem.W.Frag) : R2 := fun x y H Q => rNe x y H Q ∨ rNeD K x y H Q
theorem shaped_of {S : Sto} {w : PV} {d : PyData} (h : datP S 60 w = some d) : SeqAt.shaped d = true := by
  obtain ⟨a, b⟩ := datP_ok h
  unfold SeqAt.shaped
  rw [a, Bool.true_and]
  exact decide_eq_true (Nat.le_trans b (by decide))
theorem cps_iff {x y : Str} : x.cps = y.cps ↔ x = y := by
  cases x; cases y; simp
theorem scal_of {K : PySem.W.Frag} {ρ : Nat → Addr} {N : Nat} {H : Hp} {a b : PV} {x y : V} {k : Bool} (ra : RW K ρ N H a x) (rb : RW K ρ N H b y) (h : scalP a b = some k) : scal x y = true ∧ k = decide (x = y) := by
  cases ra <;> cases rb <;> first
    | (simp [scalP] at h; done)
    | (simp only [scalP, Option.some.injEq] at h; subst h; refine ⟨rfl, ?_⟩; first | rfl | (simp [cps_iff]; done) | (rename_i b1 b2; cases b1 <;> cases b2 <;> rfl))
section
variable {X : Cx} {Wx : WX}
theorem or_eqM (hu : X.A.units + 64 < cLine) : OpR X (compareOp .Eq) (rEqM X.K) := op_eq.or (op_eqD hu)
theorem or_neM (hu : X.A.units + 64 < cLine) : OpR X (compareOp .NotEq) (rNeM X.K) := op_ne.or (op_neD hu)
theorem oi_eq : OpI X Wx (rEqM X.K) gEq := by
  intro ρ S H w1 w2 x y Ex Q hS r1 r2 h
  unfold gEq eqM at h
  split at h
  · rename_i k e
    obtain ⟨a, b⟩ := scal_of r1 r2 e
    subst b
    exact .inl ⟨a, h.here hS (.bl _)⟩
  · split at h
    · rename_i d1 d2 e1 e2
      exact .inr ⟨_, _, datP_dp hS r1 e1, datP_dp hS r2 e2, shaped_of e1, shaped_of e2, h.here hS (.bl _)⟩
    · exact h.elim
theorem oi_ne : OpI X Wx (rNeM X.K) gNe := by
  intro ρ S H w1 w2 x y Ex Q hS r1 r2 h
  unfold gNe eqM at h
  split at h
  · rename_i k e
    obtain ⟨a, b⟩ := scal_of r1 r2 e
    subst b
    exact .inl ⟨a, h.here hS (.bl _)⟩
  · split at h
    · rename_i d1 d2 e1 e2
      exact .inr ⟨_, _, datP_dp hS r1 e1, datP_dp hS r2 e2, shaped_of e1, shaped_of e2, h.here hS (.bl _)⟩
    · exact h.elim
end
def flatP : PV → Bool
  | .non => true
  | .bl _ => true
  | .int _ => true
  | .str _ => true
  | _ => false
section
variable {X : Cx} {Wx : WX}
def isNonP : PV → Bool
  | .non => true
  | _ => false
def isM (neg : Bool) : PV → PV → Sto → Out PV := fun a b S => match b with
  | .non => .ok (.bl (if neg then !isNonP a else isNonP a)) S
  | .bl k => (match a with
    | .bl j => .ok (.bl (if neg then !decide (j = k) else decide (j = k))) S
    | _ => .bad)
  | _ => .bad
def rIsNM : R2 := fun x y H Q => (y = .non ∧ Q (.bl (!decide (x = .non))) H) ∨ ∃ a b, x = .bl a ∧ y = .bl b ∧ Q (.bl (!decide (a = b))) H
theorem or_isNM : OpR X (compareOp .IsNot) rIsNM := op_notN.or op_isnot_bl
theorem non_of {K : PySem.W.Frag} {ρ : Nat → Addr} {N : Nat} {H : Hp} {w : PV} {v : V} (r : RW K ρ N H w v) : decide (v = .non) = isNonP w := by cases r <;> simp [isNonP]
theorem oi_isN : OpI X Wx rIsNM (isM true) := by
  intro ρ S H w1 w2 x y Ex Q hS r1 r2 h
  unfold isM at h
  split at h
  · cases r2
    refine .inl ⟨rfl, ?_⟩
    rw [non_of r1]
    exact h.here hS (.bl _)
  · split at h
    · cases r1; cases r2
      exact .inr ⟨_, _, rfl, rfl, h.here hS (.bl _)⟩
    · exact h.elim
  · exact h.elim
end
end GL
set_option Elab.async false
set_option linter.all false
set_option maxRecDepth 100000
set_option maxHeartbeats 1000000
namespace GL
open PySem PySem.Spec PyProof.Rows L2
variable {pw : PgW}
abbrev MG := PV → Ls → Option Ls
abbrev MGs := List PV → Ls → Option Ls
def gN (i : Nat) : MG := fun w ls => some (ls.set i (some w))
def gsNil : MGs := fun ws ls => match ws with
  | [] => some ls
  | _ => none
def gsCons (g : MG) (r : MGs) : MGs := fun ws ls => match ws with
  | w :: t => (match g w ls with
    | some ls1 => r t ls1
    | none => none)
  | [] => none
def gT (r : MGs) : MG := fun w ls => match w with
  | .tup xs => r xs ls
  | _ => none
def Off (sl : List Nat) (σ σ' : L2.St) : Prop := σ'.length = σ.length ∧ ∀ j, j ∉ sl → σ'[j]? = σ[j]?
theorem Off.trans {s1 s2 : List Nat} {a b c : L2.St} (h : Off s1 a b) (h' : Off s2 b c) : Off (s1 ++ s2) a c :=
  ⟨h'.1.trans h.1, fun j hj => by
    rw [List.mem_append, not_or] at hj
    exact (h'.2 j hj.2).trans (h.2 j hj.1)⟩
theorem wipe_get {σ : L2.St} {j : Nat} : ∀ {vs : List Nat}, (L2.wipe σ vs)[j]? = if j ∈ vs ∧ j < σ.length then some none else σ[j]?
  | [] => by simp [L2.wipe]
  | v :: vs => by
    have hl := L2.wipe_length σ vs
    show ((L2.wipe σ vs).set v none)[j]? = _
    by_cases hv : v = j
    · subst hv
      by_cases hj : v < σ.length
      · rw [List.getElem?_set_self (by rw [hl]; exact hj), if_pos ⟨List.mem_cons_self, hj⟩]
      · rw [List.getElem?_eq_none (by rw [List.length_set, hl]; omega), if_neg (fun h => hj h.2), List.getElem?_eq_none (by omega)]
    · rw [List.getElem?_set_ne hv, wipe_get (vs := vs)]
      have : (j ∈ v :: vs) = (j ∈ vs) := by
        apply propext
        rw [List.mem_cons]
        exact ⟨fun h => h.elim (fun e => absurd e.symm hv) id, .inr⟩
      simp only [this]
theorem Off.wipe {sl vs : List Nat} {σ σ' : L2.St} (h : Off sl (L2.wipe σ vs) σ') (hs : ∀ j ∈ sl, j ∈ vs) : L2.wipe σ' vs = L2.wipe σ vs := by
  have hl := L2.wipe_length σ vs
  apply List.ext_getElem?
  intro j
  rw [wipe_get, wipe_get, h.1, hl]
  split
  · rfl
  · rename_i q
    by_cases hj : j ∈ vs
    · have : ¬ j < σ.length := fun z => q ⟨hj, z⟩
      rw [List.getElem?_eq_none (by rw [h.1, hl]; omega), List.getElem?_eq_none (by omega)]
    · rw [h.2 j (fun z => hj (hs j z)), wipe_get, if_neg (fun z => hj z.1)]
section
variable {X : Cx} {pos : Pos}
def tGm (pw : PgW) (K : PySem.W.Frag) (g : MG) (sl : List Nat) : TG := fun v σ H Q => ∃ ρ S ls w ls', RSt pw K ρ H S ∧ RL K ρ S.length H ls σ ∧ RW K ρ S.length H w v ∧ g w ls = some ls' ∧
  ∀ σ', Off sl σ σ' → RL K ρ S.length H ls' σ' → Q σ' H
def tGms (pw : PgW) (K : PySem.W.Frag) (g : MGs) (sl : List Nat) : TGs := fun vs σ H Q => ∃ ρ S ls ws ls', RSt pw K ρ H S ∧ RL K ρ S.length H ls σ ∧ RWs K ρ S.length H ws vs ∧ g ws ls = some ls' ∧
  ∀ σ', Off sl σ σ' → RL K ρ S.length H ls' σ' → Q σ' H
abbrev IG (X : Cx) (e : Expr) (g : MG) (sl : List Nat) : Prop := PG X e (tGm (pwX X) X.K g sl)
def IGs (X : Cx) (es : List Expr) (g : MGs) (n : Nat) (sl : List Nat) : Prop := PGs X es (tGms (pwX X) X.K g sl) ∧ ∀ ws ls ls', g ws ls = some ls' → ws.length = n
theorem PGi {e : Expr} {t t' : TG} (h : PG X e t) (i : ∀ v σ H Q, t' v σ H Q → t v σ H Q) : PG X e t' := ⟨fun pins s σ H v u Q I r hw => h.run pins s σ H v u Q I r (i _ _ _ _ hw)⟩
theorem PGsi {e : List Expr} {t t' : TGs} (h : PGs X e t) (i : ∀ v σ H Q, t' v σ H Q → t v σ H Q) : PGs X e t' := ⟨fun pins s σ H v u Q I r hw => h.run pins s σ H v u Q I r (i _ _ _ _ hw)⟩
theorem off_set {σ : L2.St} {i : Nat} {o : Option V} : Off [i] σ (σ.set i o) := ⟨List.length_set, fun j hj => List.getElem?_set_ne (fun e => hj (List.mem_singleton.mpr e.symm))⟩
theorem ig_name {x : Str} (i : Nat) (hN : X.N.Nodup) (hi : X.N[i]? = some x := by rfl) (hx : Loc X.env.scope x := by first | exact Or.inl rfl | exact Or.inr rfl) (hf : X.fn x = true ∨ X.env.scope.names.lookup x = some .local := by first | exact .inl rfl | exact .inr rfl) :
    IG X (.Name x pos) (gN i) [i] := PGi (pg_name (i := i) hN hi hx hf) fun v σ H Q ⟨ρ, S, ls, w, ls', hS, hL, r, e, h⟩ => by
  cases e
  exact h _ off_set (RL.set r i hL)
theorem igs_nil : IGs X [] gsNil 0 [] := by
  refine ⟨PGsi pgs_nil fun vs σ H Q ⟨ρ, S, ls, ws, ls', hS, hL, r, e, h⟩ => ?_, fun ws ls ls' e => ?_⟩
  · unfold gsNil at e
    split at e
    · cases e; cases r; exact ⟨rfl, h σ ⟨rfl, fun _ _ => rfl⟩ hL⟩
    · cases e
  · unfold gsNil at e
    split at e
    · rfl
    · cases e
theorem igs_cons {e : Expr} {es : List Expr} {g : MG} {gs : MGs} {n : Nat} {s1 s2 : List Nat} (h1 : IG X e g s1) (h2 : IGs X es gs n s2) (hs : (assignEach (e :: es) X.env).map (·.2) = assign e X.env :: (assignEach es X.env).map (·.2) := by rfl) : IGs X (e :: es) (gsCons g gs) (n + 1) (s1 ++ s2) := by
  refine ⟨PGsi (pgs_cons h1 h2.1 hs) fun vs σ H Q ⟨ρ, S, ls, ws, ls', hS, hL, r, e, h⟩ => ?_, fun ws ls ls' e => ?_⟩
  · cases r with
    | nil => cases e
    | cons r rs =>
      unfold gsCons at e
      dsimp only at e
      split at e
      · rename_i ls1 e1
        exact ⟨_, _, rfl, ρ, S, ls, _, ls1, hS, hL, r, e1, fun σ1 o1 l1 => ⟨ρ, S, ls1, _, ls', hS, l1, rs, e, fun σ2 o2 l2 => h σ2 (o1.trans o2) l2⟩⟩
      · cases e
  · cases ws with
    | nil => cases e
    | cons w t =>
      unfold gsCons at e
      dsimp only at e
      split at e
      · rename_i ls1 e1
        rw [List.length_cons, h2.2 _ _ _ e]
      · cases e
theorem ig_tup {es : List Expr} {k : Nat} {gs : MGs} {n : Nat} {sl : List Nat} (hc : X.calm = true) (h : IGs X es gs n sl) (hn : (assignEach es X.env).length = n := by rfl) (hst : (assignEach es X.env).findIdx? (·.1) = none := by rfl) :
    IG X (.Tuple es k pos) (gT gs) sl := PGi (pg_tup hc h.1 hn hst) fun v σ H Q ⟨ρ, S, ls, w, ls', hS, hL, r, e, q⟩ => by
  unfold gT at e
  split at e
  · cases r with
    | tup s t => exact ⟨_, _, rfl, s, by rw [← t.length]; exact h.2 _ _ _ e, ρ, S, ls, _, ls', hS, hL, t, e, q⟩
  · cases e
end
structure Wk where
  items : List PV
  chk : Nat → Sto → Bool
def RIt (pw : PgW) (K : PySem.W.Frag) (ρ : Nat → Addr) (N : Nat) (H : Hp) (it : Wk) (J : It) : Prop :=
  ∀ ρ' S' H', Ext K ρ N H ρ' S'.length H' → RSt pw K ρ' H' S' →
    (∀ i x, it.items[i]? = some x → it.chk i S' = true → J.go i H' ∧ ∀ v H2, J.yld i H' v H2 → ∃ ρ2, Ext K ρ' S'.length H' ρ2 S'.length H2 ∧ RSt pw K ρ2 H2 S' ∧ RW K ρ2 S'.length H2 x v) ∧
    (it.chk it.items.length S' = true → J.stop it.items.length H')
abbrev MI := Ls → Sto → Out Wk
abbrev RItF {pw : PgW} : RelF Wk It := RIt pw
def tI (pw : PgW) (K : PySem.W.Frag) (Wx : WX) (m : MI) : TI := fun σ H R => ∃ ρ S ls, RSt pw K ρ H S ∧ RL K ρ S.length H ls σ ∧ Post pw (RItF (pw := pw)) K ρ S.length H (fun c d H' => Wx c d σ H') (m ls S) R
abbrev II (X : Cx) (Wx : WX) (tg e : Expr) (m : MI) : Prop := PI X tg e (tI (pwX X) X.K Wx m)
theorem PIi {X : Cx} {tg e : Expr} {t t' : TI} (h : PI X tg e t) (i : ∀ σ H R, t' σ H R → t σ H R) : PI X tg e t' := ⟨fun pins s σ H R I hw => h.run pins s σ H R I (i _ _ _ hw)⟩
def always : Nat → Sto → Bool := fun _ _ => true
def isLst (n : Nat) (xs : List PV) : Nat → Sto → Bool := fun _ S => match S[n]? with
  | some (.lst ys) => PV.beqs ys xs
  | _ => false
theorem isLst_get {n : Nat} {xs : List PV} {S : Sto} {i : Nat} (h : isLst n xs i S = true) : S[n]? = some (.lst xs) := by
  unfold isLst at h
  split at h
  · rename_i e; rw [e, PV.eqs_of_beqs h]
  · cases h
section
variable {K : PySem.W.Frag} {ρ : Nat → Addr} {N : Nat} {H : Hp}
theorem rit_tup {xs : List PV} {a : Addr} {vs : List V} (s : SqT K H a vs) (t : RWs K ρ N H xs vs) : RIt pw K ρ N H ⟨xs, always⟩ (Itt K a) := by
  intro ρ' S' H' e hS
  have s' := e.2.2.1 _ _ s
  have t' := t.ext e
  have w := walk_tup (K := K) (a := a) (xs := vs)
  have hl := t.length
  refine ⟨fun i x hx _ => ?_, fun _ => ?_⟩
  · obtain ⟨v, hv, r⟩ := t'.get hx
    have hi := (List.getElem?_eq_some_iff.mp hv).1
    refine ⟨w.goes i H' hi s', fun v' H2 y => ?_⟩
    obtain ⟨e1, e2⟩ := w.yields i H' v' H2 hi s' y
    subst e1
    rw [hv] at e2; cases e2
    exact ⟨ρ', .refl, hS, r⟩
  · show (Itt K a).stop xs.length H'
    rw [hl]; exact w.stops H' s'
theorem rit_rol {xs : List PV} {a : Addr} {vs : List V} (stay : ∀ ρ' S' H', Ext K ρ N H ρ' S'.length H' → RSt pw K ρ' H' S' → SqL K H' a vs) (t : RWs K ρ N H xs vs) : RIt pw K ρ N H ⟨xs, always⟩ (Itl K a) := by
  intro ρ' S' H' e hS
  have s' := stay ρ' S' H' e hS
  have t' := t.ext e
  have w := walk_list (K := K) (a := a) (xs := vs)
  have hl := t.length
  refine ⟨fun i x hx _ => ?_, fun _ => ?_⟩
  · obtain ⟨v, hv, r⟩ := t'.get hx
    have hi := (List.getElem?_eq_some_iff.mp hv).1
    refine ⟨w.goes i H' hi s', fun v' H2 y => ?_⟩
    obtain ⟨e1, e2⟩ := w.yields i H' v' H2 hi s' y
    subst e1
    rw [hv] at e2; cases e2
    exact ⟨ρ', .refl, hS, r⟩
  · show (Itl K a).stop xs.length H'
    rw [hl]; exact w.stops H' s'
theorem rit_lst {xs : List PV} {n : Nat} (hn : n < N) : RIt pw K ρ N H ⟨xs, isLst n xs⟩ (Itl K (ρ n)) := by
  intro ρ' S' H' e hS
  have en : ρ' n = ρ n := e.2.1 n hn
  refine ⟨fun i x hx hc => ?_, fun hc => ?_⟩
  · obtain ⟨vs, hv, t⟩ := hS.at_ _ _ (isLst_get (i := 0) hc)
    rw [en] at hv
    have w := walk_list (K := K) (a := ρ n) (xs := vs)
    obtain ⟨v, hv2, r⟩ := t.get hx
    have hi := (List.getElem?_eq_some_iff.mp hv2).1
    refine ⟨w.goes i H' hi (SqL.of hv), fun v' H2 y => ?_⟩
    obtain ⟨e1, e2⟩ := w.yields i H' v' H2 hi (SqL.of hv) y
    subst e1
    rw [hv2] at e2; cases e2
    exact ⟨ρ', .refl, hS, r⟩
  · obtain ⟨vs, hv, t⟩ := hS.at_ _ _ (isLst_get (i := 0) hc)
    rw [en] at hv
    have w := walk_list (K := K) (a := ρ n) (xs := vs)
    show (Itl K (ρ n)).stop xs.length H'
    rw [t.length]; exact w.stops H' (SqL.of hv)
theorem rit_rng {lo : Int} {n : Nat} : RIt pw K ρ N H ⟨(List.range n).map fun i => .int (lo + (i : Nat)), always⟩ (L2.Itr lo n) := by
  intro ρ' S' H' e hS
  have w := walk_range (lo := lo) (n := n)
  refine ⟨fun i x hx _ => ?_, fun _ => ?_⟩
  · rw [List.getElem?_map] at hx
    by_cases hi : i < n
    · rw [List.getElem?_range hi] at hx
      cases hx
      refine ⟨w.goes i H' hi trivial, fun v' H2 y => ?_⟩
      obtain ⟨e1, e2⟩ := w.yields i H' v' H2 hi trivial y
      subst e1; subst e2
      exact ⟨ρ', .refl, hS, .int _⟩
    · rw [List.getElem?_eq_none (by simpa using hi)] at hx; cases hx
  · have : ((List.range n).map fun (i : Nat) => PV.int (lo + (i : Nat))).length = n := by simp
    show (L2.Itr lo n).stop _ H'
    rw [this]; exact w.stops H' trivial
end
section
variable {X : Cx} {Wx : WX} {tg e : Expr} {m : ME} {mr : MA} {p pos : Pos}
def iSeq (m : ME) : MI := fun ls S => (m ls S).bind fun w S1 => match w with
  | .tup xs => .ok ⟨xs, always⟩ S1
  | .loc n => (match S1[n]? with
    | some (.lst xs) => .ok ⟨xs, isLst n xs⟩ S1
    | some (.rol xs) => .ok ⟨xs, always⟩ S1
    | _ => .bad)
  | _ => .bad
def rIterM (K : PySem.W.Frag) (x : V) (H : Hp) (R : It → Hp → Prop) : Prop := ∃ a, x = .ref a ∧ (((∃ xs, SqL K H a xs) ∧ R (Itl K a) H) ∨ ((∃ xs, SqT K H a xs) ∧ R (Itt K a) H))
theorem pi_seq {te : TE} (he : PE X e te) : PI X tg e (fun σ H R => te σ H fun x H1 => rIterM X.K x H1 R) := by
  constructor
  intro pins s σ H R I h
  apply thn (he.run pins s σ H _ I h)
  rintro v s1 ⟨x, H1, I1, r1, a, rfl, q⟩
  cases r1
  have fp : ∀ b ∈ [s1.heap.objs.size], FpOk X pins H1 b := by
    intro b hb
    have hb : b = s1.heap.objs.size := List.mem_singleton.mp hb
    rw [hb]
    exact I1.fpOk (Nat.le_refl _) I1.fresh
  rcases q with ⟨⟨xs, hq⟩, q⟩ | ⟨⟨xs, hq⟩, q⟩
  · obtain ⟨its, _, pl, _⟩ := I1.list hq
    apply wpAny_pyIter_list pl.isList
    exact ⟨_, [_], _, _, H1, rfl, I1.kept (t' := s1.toks) (fun _ _ z => Heap.get?_push_of_some _ z), turn_list a _, ⟨_, Heap.get?_push_size _ rfl, rfl, rfl⟩, fp, q⟩
  · obtain ⟨its, _, pl, _⟩ := I1.tuple hq
    apply wpAny_pyIter_tuple (items := its.toArray) pl
    exact ⟨_, [_], _, _, H1, rfl, I1.kept (t' := s1.toks) (fun _ _ z => Heap.get?_push_of_some _ z), turn_tuple a _, ⟨_, Heap.get?_push_size _ rfl, rfl, rfl⟩, fp, q⟩
theorem ii_seq (he : IE X Wx e m) : II X Wx tg e (iSeq m) := PIi (pi_seq he) fun σ H R ⟨ρ, S, ls, hS, hL, h⟩ => ⟨ρ, S, ls, hS, hL, (Post.bind (R := RW) h).imp fun x H1 ⟨ρ1, S1, w1, e1, hS1, r1, h1⟩ => by
    split at h1
    · cases r1 with
      | tup s t => exact ⟨_, rfl, .inr ⟨⟨_, s⟩, h1 ρ1 H1 _ .refl hS1 (rit_tup s t)⟩⟩
    · cases r1 with
      | loc n hn =>
        split at h1
        · rename_i xs e2
          obtain ⟨vs, a, b⟩ := hS1.at_ _ _ e2
          exact ⟨_, rfl, .inl ⟨⟨_, SqL.of a⟩, h1 ρ1 H1 _ .refl hS1 (rit_lst hn)⟩⟩
        · rename_i xs e2
          obtain ⟨vs, a, b⟩ := hS1.at_ _ _ e2
          refine ⟨_, rfl, .inl ⟨⟨_, a.sq⟩, h1 ρ1 H1 _ .refl hS1 (rit_rol (fun ρ' S' H' e hS' => (e.2.2.2.1 _ _ a).sq) b)⟩⟩
        · exact h1.elim
    · exact h1.elim⟩
def rngL (lo hi : Int) : List PV := (List.range (hi - lo).toNat).map fun (i : Nat) => .int (lo + (i : Nat))
def med : Int := 4611686018427387904
theorem med_ok {i : Int} (h : (decide (-med ≤ i) && decide (i < med)) = true) : -(2 ^ 62) ≤ i ∧ i < 2 ^ 62 := by
  rw [Bool.and_eq_true] at h
  have h : -4611686018427387904 ≤ i ∧ i < 4611686018427387904 := ⟨of_decide_eq_true h.1, of_decide_eq_true h.2⟩
  have e : (2 : Int) ^ 62 = 4611686018427387904 := by decide
  rw [e]; exact h
def iR1 (m : ME) : MI := fun ls S => (m ls S).bind fun w S1 => match w with
  | .int j => if (decide (-med ≤ j) && decide (j < med)) = true then .ok ⟨rngL 0 j, always⟩ S1 else .bad
  | _ => .bad
variable {e2 : Expr} {m2 : ME}
theorem ii_range1 (hm : X.mg "range" = none) (he : IE X Wx e m) (hg : Gl X "range" := by rfl) (hst : starEach [e] X.env = (false, eval e X.env) :: starEach [] X.env := by rfl) (hs : starEach [e] X.env = [(false, eval e X.env)] := by rfl) : II X Wx tg (.Call (.Name "range" p) [e] [] pos) (iR1 m) :=
  PIi (pi_range1 hg hm (pa_cons he pa_nil hst) hs) fun σ H R ⟨ρ, S, ls, hS, hL, h⟩ => ⟨ρ, S, ls, hS, hL, (Post.bind (R := RW) h).imp fun x H1 ⟨ρ1, S1, w1, e1, hS1, r1, h1⟩ => by
    split at h1
    · split at h1
      · rename_i q
        cases r1
        obtain ⟨a, b⟩ := med_ok q
        refine ⟨_, rfl, a, b, h1 ρ1 H1 _ .refl hS1 ?_⟩
        unfold rngL
        rw [Int.sub_zero]
        exact rit_rng
      · exact h1.elim
    · exact h1.elim⟩
end
def forGo (chk : Nat → Sto → Bool) (g : MG) (body : MS) : Nat → List PV → MS
  | i, [], ls, S => if chk i S = true then .nx ls S else .bad
  | i, x :: r, ls, S => if chk i S = true then (match g x ls with
    | none => .bad
    | some ls1 => (match body ls1 S with
      | .nx ls2 S2 => forGo chk g body (i + 1) r ls2 S2
      | .ct ls2 S2 => forGo chk g body (i + 1) r ls2 S2
      | .bk ls2 S2 => .nx ls2 S2
      | q => q)) else .bad
def sFor (it : MI) (g : MG) (body : MS) : MS := fun ls S => (it ls S).then ls fun t S1 => forGo t.chk g body 0 t.items ls S1
section
variable {X : Cx} {Wx : WX} {tg e : Expr} {mi : MI} {g : MG} {mb : MS} {pos : Pos} {body : List Stmt} {sl : List Nat}
theorem is_for (hp : PassesOwn (model X.prog X.w) X.A X.env X.xe) (hc : X.calm = true) (hi : II X Wx tg e mi) (hg : IG X tg g sl) (hb : ISs X Wx body mb) (hs : ∀ x, foldedSetIterable e X.env x = pure x := by intro _; rfl) :
    IS X Wx (.For tg e body [] pos) (sFor mi g mb) :=
  PSi (ps_for hp hc hi hg hb hs) fun D σ H ⟨ρ, S, ls, hS, hL, h⟩ => ⟨ρ, S, ls, hS, hL, (Post.then (R := RItF) hL h).imp fun J H1 ⟨ρ1, S1, t, e1, hS1, r1, h1⟩ => by
    have l1 := hL.ext e1
    clear h hS hL
    refine ⟨fun i m σ H => m = t.items.length - i ∧ i ≤ t.items.length ∧ ∃ ρ S ls, Ext X.K ρ1 S1.length H1 ρ S.length H ∧ RSt (pwX X) X.K ρ H S ∧ RL X.K ρ S.length H ls σ ∧ PostS (pwX X) X.K ρ S.length H Wx (forGo t.chk g mb i (t.items.drop i) ls S) D,
      ⟨_, rfl, Nat.zero_le _, ρ1, S1, ls, .refl, hS1, l1, by rw [List.drop_zero]; exact h1⟩, ?_⟩
    rintro i m σ2 H2 ⟨rfl, hi, ρ2, S2, ls2, e2, hS2, l2, h2⟩
    obtain ⟨w1, w2⟩ := r1 ρ2 S2 H2 e2 hS2
    by_cases hlt : i < t.items.length
    · rw [List.drop_eq_getElem_cons hlt] at h2
      unfold forGo at h2
      split at h2
      · rename_i hc
        obtain ⟨go, yl⟩ := w1 i _ (List.getElem?_eq_getElem hlt) hc
        refine .inr ⟨go, fun σ3 H3 => ∃ ρ S ls, Ext X.K ρ1 S1.length H1 ρ S.length H3 ∧ RSt (pwX X) X.K ρ H3 S ∧ RL X.K ρ S.length H3 ls σ3 ∧ PostS (pwX X) X.K ρ S.length H3 Wx (forGo t.chk g mb (i + 1) (t.items.drop (i + 1)) ls S) D,
          fun σ' H' q => ⟨_, by omega, rfl, hlt, q⟩, fun v H3 y => ?_⟩
        obtain ⟨ρ3, e3, hS3, r3⟩ := yl v H3 y
        split at h2
        · exact h2.elim
        · rename_i ls3 eg
          refine ⟨ρ3, S2, ls2, _, ls3, hS3, l2.ext e3, r3, eg, fun σ4 _ l4 => ⟨ρ3, S2, ls3, hS3, l4, ?_⟩⟩
          have h3 := PostS.ext e3 h2
          cases hm : mb ls3 S2 with
          | nx a S' => rw [hm] at h3; exact fun ρ4 H4 σ5 e4 s4 l5 => ⟨ρ4, S', a, (e2.trans e3).trans e4, s4, l5, PostS.ext e4 h3⟩
          | ct a S' => rw [hm] at h3; exact fun ρ4 H4 σ5 e4 s4 l5 => ⟨ρ4, S', a, (e2.trans e3).trans e4, s4, l5, PostS.ext e4 h3⟩
          | bk a S' => rw [hm] at h3; exact h3
          | rt a S' => rw [hm] at h3; exact h3
          | exc a b S' => rw [hm] at h3; exact h3
          | bad => rw [hm] at h3; exact h3
      · exact h2.elim
    · have ei : i = t.items.length := by omega
      subst ei
      rw [List.drop_length] at h2
      unfold forGo at h2
      split at h2
      · rename_i hc
        exact .inl ⟨w2 hc, h2 ρ2 H2 σ2 .refl hS2 l2⟩
      · exact h2.elim⟩
end
def lcGo (chk : Nat → Sto → Bool) (g : MG) (tt : MT) (te : ME) (vs : List Nat) (D : Nat) (ls : Ls) : Nat → List PV → Sto → Out PV
  | i, [], S => if chk i S = true then .ok (.loc D) S else .bad
  | i, x :: r, S => if chk i S = true then (match g x (wipeL ls vs) with
    | none => .bad
    | some ls1 => (match tt ls1 S with
      | .ok true S1 => (match te ls1 S1 with
        | .ok w S2 => (match lstAt S2 D with
          | some acc => if acc.length < lim then lcGo chk g tt te vs D ls (i + 1) r (S2.set D (.lst (acc ++ [w]))) else .bad
          | none => .bad)
        | _ => .bad)
      | .ok false S1 => lcGo chk g tt te vs D ls (i + 1) r S1
      | _ => .bad)) else .bad
def eLc (it : MI) (g : MG) (tt : MT) (te : ME) (vs : List Nat) : ME := fun ls S => (it ls S).bind fun t S1 => lcGo t.chk g tt te vs S1.length ls 0 t.items (S1 ++ [.lst []])
def tYesM : MT := fun _ S => .ok true S
abbrev ITs (X : Cx) (ifs : List Expr) (m : MT) : Prop := PTs X ifs (tT (pwX X) X.K (fun _ _ _ _ => False) m)
theorem its_nil {X : Cx} : ITs X [] tYesM := ⟨fun pins s σ H Q I ⟨ρ, S, ls, hS, hL, h⟩ => pts_nil.run pins s σ H Q I (h ρ H true .refl hS rfl)⟩
section
variable {X : Cx} {Wx : WX} {elt tg iter : Expr} {ifs : List Expr} {scope : Scope} {own : List (Str × Nat)} {pos : Pos} {mi : MI} {g : MG} {mt : MT} {me : ME} {sl : List Nat}
theorem lc_in {σ : L2.St} {H : Hp} {Q : VK} (hsl : ∀ j ∈ sl, j ∈ own.map (·.2)) (h : tE (pwX X) X.K Wx (eLc mi g mt me (own.map (·.2))) σ H Q) :
    tLc (tI (pwX X) X.K Wx mi) (tGm (pwX X) X.K g sl) (tT (pwX X) X.K (fun _ _ _ _ => False) mt) (tE (pwX X) X.K (fun _ _ _ _ => False) me) (own.map (·.2)) σ H Q := by
  obtain ⟨ρ, S, ls, hS, hL, h⟩ := h
  refine ⟨ρ, S, ls, hS, hL, (Post.bind (R := RItF) h).imp ?_⟩
  rintro J H1 ⟨ρ1, S1, t, e1, hS1, r1, h1⟩ D hD
  have l1 := hL.ext e1
  clear h hS hL
  have eD : Ext X.K ρ1 S1.length H1 (grow ρ1 S1.length D) (S1 ++ [OB.lst []]).length (upd H1 D (.lst [])) := by
    rw [List.length_append, List.length_singleton]; exact ext_new hD
  have hS2 : RSt (pwX X) X.K (grow ρ1 S1.length D) (upd H1 D (.lst [])) (S1 ++ [OB.lst []]) := hS1.new hD rfl ⟨[], upd_same, .nil⟩
  refine ⟨fun i m H => m = t.items.length - i ∧ i ≤ t.items.length ∧ ∃ ρ S, Ext X.K (grow ρ1 S1.length D) (S1 ++ [OB.lst []]).length (upd H1 D (.lst [])) ρ S.length H ∧ RSt (pwX X) X.K ρ H S ∧
    Post (pwX X) RW X.K ρ S.length H (fun c d H' => Wx c d σ H') (lcGo t.chk g mt me (own.map (·.2)) S1.length ls i (t.items.drop i) S) Q,
    ⟨_, rfl, Nat.zero_le _, _, _, .refl, hS2, by rw [List.drop_zero]; exact Post.ext eD h1⟩, ?_⟩
  rintro i m H2 ⟨rfl, hi, ρ2, S2, e2, hS2', h2⟩
  have eAll := eD.trans e2
  have aD : ρ2 S1.length = D := by rw [e2.2.1 S1.length (by rw [List.length_append, List.length_singleton]; exact Nat.lt_succ_self _), grow_new]
  obtain ⟨w1, w2⟩ := r1 ρ2 S2 H2 eAll hS2'
  by_cases hlt : i < t.items.length
  · rw [List.drop_eq_getElem_cons hlt] at h2
    unfold lcGo at h2
    split at h2
    · rename_i hc
      obtain ⟨go, yl⟩ := w1 i _ (List.getElem?_eq_getElem hlt) hc
      refine .inr ⟨go, fun H3 => ∃ ρ S, Ext X.K (grow ρ1 S1.length D) (S1 ++ [OB.lst []]).length (upd H1 D (.lst [])) ρ S.length H3 ∧ RSt (pwX X) X.K ρ H3 S ∧
        Post (pwX X) RW X.K ρ S.length H3 (fun c d H' => Wx c d σ H') (lcGo t.chk g mt me (own.map (·.2)) S1.length ls (i + 1) (t.items.drop (i + 1)) S) Q, fun H' q => ⟨_, by omega, rfl, hlt, q⟩, fun v H3 y => ?_⟩
      obtain ⟨ρ3, e3, hS3, r3⟩ := yl v H3 y
      split at h2
      · exact h2.elim
      · rename_i ls1 eg
        refine ⟨ρ3, S2, wipeL ls (own.map (·.2)), _, ls1, hS3, RL.wipe ((l1.ext eAll).ext e3) _, r3, eg, fun σ4 o4 l4 => ⟨o4.wipe hsl, ρ3, S2, ls1, hS3, l4, ?_⟩⟩
        have h3 := Post.ext e3 h2
        cases hm : mt ls1 S2 with
        | exc a b => rw [hm] at h3; exact h3.elim
        | bad => rw [hm] at h3; exact h3.elim
        | ok k S5 =>
          rw [hm] at h3
          intro ρ5 H5 k' e5 s5 q5
          have q5 : k = k' := q5
          subst k'
          cases k with
          | false =>
            rw [if_neg Bool.false_ne_true]
            exact ⟨ρ5, S5, (e2.trans e3).trans e5, s5, Post.ext e5 h3⟩
          | true =>
            rw [if_pos rfl]
            refine ⟨ρ5, S5, ls1, s5, l4.ext e5, ?_⟩
            dsimp only at h3
            cases hm2 : me ls1 S5 with
            | exc a b => rw [hm2] at h3; exact h3.elim
            | bad => rw [hm2] at h3; exact h3.elim
            | ok w S6 =>
              rw [hm2] at h3
              intro ρ6 H6 v6 e6 s6 r6
              dsimp only at h3
              split at h3
              · rename_i acc ea
                split at h3
                · rename_i hz
                  obtain ⟨vs, hv, tv⟩ := lst_of s6 ea
                  have aD6 : ρ6 S1.length = D := by rw [(e3.trans (e5.trans e6)).2.1 S1.length (Nat.lt_of_lt_of_le (by rw [List.length_append, List.length_singleton]; exact Nat.lt_succ_self _) e2.1), aD]
                  obtain ⟨s7, e7⟩ := set_lst s6 ea (tv.app (.cons r6 .nil))
                  rw [aD6] at hv s7 e7
                  exact ⟨vs, hv, by rw [← tv.length]; exact lim_lt hz, ρ6, _, ((e2.trans (e3.trans (e5.trans e6))).trans e7), s7, Post.ext ((e5.trans e6).trans e7) h3⟩
                · exact h3.elim
              · exact h3.elim
    · exact h2.elim
  · have ei : i = t.items.length := by omega
    subst ei
    rw [List.drop_length] at h2
    unfold lcGo at h2
    split at h2
    · rename_i hc
      refine .inl ⟨w2 hc, h2 ρ2 H2 _ .refl hS2' ?_⟩
      have q : RW X.K ρ2 S2.length H2 (.loc S1.length) (.ref (ρ2 S1.length)) := .loc _ (Nat.lt_of_lt_of_le (by rw [List.length_append, List.length_singleton]; exact Nat.lt_succ_self _) e2.1)
      rw [aD] at q
      exact q
    · exact h2.elim
theorem ie_lc {vs : List Nat} (own : List (Str × Nat)) (hvs : own.map (·.2) = vs) (hc : X.calm = true) (hN : X.N.Nodup) (hi : II X Wx tg iter mi) (ok : BlkOk X.N X.env.scope scope own) (hsl : ∀ j ∈ sl, j ∈ own.map (·.2))
    (hg : ∀ (s : Shared) (H : Hp) (C : Addr) (cl : List (Str × Addr)) (fp : List Addr), IG (X.blk s H scope (compEnvC scope cl C X.env) fp) tg g sl)
    (ht : ∀ (s : Shared) (H : Hp) (C : Addr) (cl : List (Str × Addr)) (fp : List Addr), ITs (X.blk s H scope (compEnvC scope cl C X.env) fp) ifs mt)
    (he : ∀ (s : Shared) (H : Hp) (C : Addr) (cl : List (Str × Addr)) (fp : List Addr), IE (X.blk s H scope (compEnvC scope cl C X.env) fp) (fun _ _ _ _ => False) elt me)
    (hs : ∀ x, foldedSetIterable iter X.env x = pure x := by intro _; rfl) : IE X Wx (.ListComp elt [⟨tg, iter, ifs, 0⟩] scope pos) (eLc mi g mt me vs) := by
  subst hvs
  exact PEi (pe_lc hc hN hi ok hg ht he hs) fun σ H Q h => lc_in hsl h
end
end GL
set_option Elab.async false
set_option linter.all false
set_option maxRecDepth 100000
set_option maxHeartbeats 1000000
namespace GL
open PySem PySem.Spec PyProof.Rows L2
variable {pw : PgW}
abbrev MF := List PV → Sto → Out PV
def fnOf (np n : Nat) (m : MS) : MF := fun ws S => if ws.length = np then (match m (ws.map some ++ List.replicate (n - np) none) S with
  | .nx _ S' => .ok .non S'
  | .rt w S' => .ok w S'
  | .exc e _ S' => .exc e S'
  | _ => .bad) else .bad
def spI (pw : PgW) (K : PySem.W.Frag) (n : Nat) (fn : MF) : Sp := fun vs H Q E => ∃ ρ S ws, RSt pw K ρ H S ∧ RWs K ρ S.length H ws vs ∧ ws.length = n ∧ Post pw RW K ρ S.length H E (fn ws S) Q
abbrev topW (E : XK) : WX := fun cls d _ H => E cls d H
abbrev FI (P : Program) (w : World) (K : PySem.W.Frag) (mg : Str → Option Value) (base : Heap) (k : Nat) (f : Addr) (fd : FuncData) (ps : List Str) (fn : MF) : Prop :=
  FnOk P w K mg base (L2.CX P w) k f fd ps (spI (⟨P, w⟩ : PgW) K ps.length fn)
theorem RL.start {K : PySem.W.Frag} {ρ : Nat → Addr} {N : Nat} {H : Hp} (n : Nat) : ∀ {ws : List PV} {vs : List V}, RWs K ρ N H ws vs → RL K ρ N H (ws.map some ++ List.replicate n none) (vs.map some ++ List.replicate n none)
  | _, _, .nil => by
    induction n with
    | zero => exact .nil
    | succ n ih => exact .no ih
  | _, _, .cons r t => .yes r (RL.start n t)
section
variable {P : Program} {w : World} {K : PySem.W.Frag} {mg : Str → Option Value} {base : Heap} {x qual : Str} {params : Arguments} {body : List Stmt} {scope : Scope} {dvs : List V} {kws : List (Str × V)} {f : Addr} {fd : FuncData}
theorem fi_of {N ps : List Str} {k : Nat} {m : MS} (F : FunD K x qual params body scope dvs kws f fd) (S : FnScope N ps scope)
    (hb : ∀ (cdv : Value) (A : Around) (outer : List Env) (s : Shared) (H : Hp) (E : XK), Room k (A.deeper (envOfC qual scope s.heap.objs.size f cdv)) →
      ISs (cxOf (L2.CX P w) P w K mg base N qual scope f cdv A outer s H E) (topW E) body m) : FI P w K mg base (k + 1) f fd ps (fnOf ps.length N.length m) := by
  refine F.ok S (fun vs H Q E h => ?_) (fun cdv A outer s H vs Q E hr h => ⟨_, hb cdv A outer s H E hr, ?_⟩)
  · obtain ⟨ρ, S, ws, _, r, e, _⟩ := h
    rw [← r.length]; exact e
  · obtain ⟨ρ, S, ws, hS, r, e, h⟩ := h
    unfold fnOf at h
    rw [if_pos e] at h
    have el : L2.start N vs = vs.map some ++ List.replicate (N.length - ps.length) none := by
      unfold L2.start
      rw [← r.length, e]
    refine ⟨ρ, S, ws.map some ++ List.replicate (N.length - ps.length) none, hS, by rw [el]; exact RL.start (N.length - ps.length) r, ?_⟩
    cases hm : m (ws.map some ++ List.replicate (N.length - ps.length) none) S with
    | nx a S' => rw [hm] at h; exact fun ρ' H' σ' e' s' _ => h ρ' H' _ e' s' .non
    | rt a S' => rw [hm] at h; exact fun ρ' H' v e' s' r' => h ρ' H' v e' s' r'
    | exc a b S' => rw [hm] at h; exact fun ρ' H' σ' c d e' s' _ q => h ρ' H' c d e' s' q
    | bk a S' => rw [hm] at h; exact h.elim
    | ct a S' => rw [hm] at h; exact h.elim
    | bad => rw [hm] at h; exact h.elim
end
def eCall (fn : MF) (dws : List PV) (args : MA) : ME := fun ls S => (args ls S).bind fun ws S1 => fn (ws ++ dws) S1
def GVals (K : PySem.W.Frag) : List V → List PV → Prop
  | [], [] => True
  | v :: vs, w :: ws => GVal K v w ∧ GVals K vs ws
  | _, _ => False
theorem GVals.rel {K : PySem.W.Frag} {ρ : Nat → Addr} {N : Nat} {H : Hp} : ∀ {vs : List V} {ws : List PV}, GVals K vs ws → RWs K ρ N H ws vs
  | [], [], _ => .nil
  | _ :: _, _ :: _, h => .cons (h.1 _ _ _) (GVals.rel h.2)
  | [], _ :: _, h => h.elim
  | _ :: _, [], h => h.elim
section
variable {X : Cx} {Wx : WX} {k : Nat} {f C : Addr} {fd : FuncData} {ps : List Str} {fn : MF} {dvs : List V} {ds : List Value} {dws : List PV} {x m : Str} {p pos apos : Pos} {e o : Expr} {es : List Expr} {mo : ME} {ma : MA} {np N : Nat} {mb : MS}
theorem sp_in {σ : L2.St} {ρ : Nat → Addr} {S : Sto} {H : Hp} {ws : List PV} {vs : List V} {Ex : XK} {Q : VK} (hS : RSt (pwX X) X.K ρ H S) (r : RWs X.K ρ S.length H ws vs) (g : GVals X.K dvs dws)
    (h : Post (pwX X) RW X.K ρ S.length H Ex (fnOf np N mb (ws ++ dws) S) Q) : spI (pwX X) X.K np (fnOf np N mb) (vs ++ dvs) H Q Ex := by
  refine ⟨ρ, S, ws ++ dws, hS, r.app g.rel, ?_, h⟩
  unfold fnOf at h
  split at h
  · assumption
  · exact h.elim
theorem ie_call (tk : Takes X Wx) (F : FI X.prog X.w X.K X.mg X.base k f fd ps (fnOf np N mb)) (hnp : ps.length = np) (hr : Room k X.A) (hm : X.mg x = some (.ref f)) (hk : PySem.W.keepIn X.K (.ref f) = true) (hb : Binds X.K fd ps ds) (hd : Vals dvs ds) (g : GVals X.K dvs dws)
    (ha : IA X Wx (e :: es) ma) (hg : Gl X x := by rfl) (hdb : (x == ("__debug__" : Str)) = false := by decide) (he : starEach (e :: es) X.env = (false, eval e X.env) :: starEach es X.env := by rfl) (hpl : (backTo pos (starEach es X.env)).any (·.1) = false := by rfl) :
    IE X Wx (.Call (.Name x p) (e :: es) [] pos) (eCall (fnOf np N mb) dws ma) :=
  PEi (pe_callSD (E := WE Wx) F hr hg hm hk hb hd (passAt tk) ha hdb he hpl) fun σ H Q ⟨ρ, S, ls, hS, hL, h⟩ => ⟨ρ, S, ls, hS, hL, (Post.bind (R := RWs) h).imp fun vs H1 ⟨ρ1, S1, ws, e1, hS1, r1, h1⟩ => by
    rw [hnp]; exact sp_in (σ := σ) hS1 r1 g h1⟩
theorem pe_call0D {E : L2.St → XK} {sp : Sp} (F : FnOk X.prog X.w X.K X.mg X.base (L2.CX X.prog X.w) k f fd ps sp) (hr : Room k X.A) (hg : Gl X x) (hm : X.mg x = some (.ref f)) (hk : PySem.W.keepIn X.K (.ref f) = true) (hb : Binds X.K fd ps ds) (hd : Vals dvs ds)
    (hx : ∀ σ, PassesAt (L2.CX X.prog X.w) X σ (E σ)) (hdb : (x == ("__debug__" : Str)) = false := by decide) : PE X (.Call (.Name x p) [] [] pos) (tCallSD sp dvs E tNil) := by
  constructor
  intro pins s σ H Q I h
  apply wpAny_Call_Name_kw
  apply ld_glob I hg hm _ hdb
  apply PySem.W.callWith_K0 I.kIn hk
  exact run_fnSD (us := []) F hr hb hd (hx σ) I .nil h
theorem ie_call0 (tk : Takes X Wx) (F : FI X.prog X.w X.K X.mg X.base k f fd ps (fnOf np N mb)) (hnp : ps.length = np) (hr : Room k X.A) (hm : X.mg x = some (.ref f)) (hk : PySem.W.keepIn X.K (.ref f) = true) (hb : Binds X.K fd ps ds) (hd : Vals dvs ds) (g : GVals X.K dvs dws)
    (hg : Gl X x := by rfl) (hdb : (x == ("__debug__" : Str)) = false := by decide) : IE X Wx (.Call (.Name x p) [] [] pos) (eCall (fnOf np N mb) dws aNil) :=
  PEi (pe_call0D (E := WE Wx) F hr hg hm hk hb hd (passAt tk) hdb) fun σ H Q ⟨ρ, S, ls, hS, hL, h⟩ => by
    rw [hnp]; exact sp_in (σ := σ) (ws := []) hS .nil g h
def lookN (f : Nm) : List (Nm × PV) → Option PV
  | [] => none
  | (g, w) :: r => if g = f then some w else lookN f r
def putN (f : Nm) (w : PV) : List (Nm × PV) → List (Nm × PV)
  | [] => [(f, w)]
  | (g, v) :: r => if g = f then (g, w) :: r else (g, v) :: putN f w r
theorem beq_toS {a b : Nm} : (toS a == toS b) = decide (a = b) := by
  by_cases h : a = b
  · subst h; simp
  · have : ¬ toS a = toS b := fun e => h (toS_inj e)
    simp [h, this]
theorem look_some {K : PySem.W.Frag} {ρ : Nat → Addr} {N : Nat} {H : Hp} {f : Nm} {w : PV} : ∀ {fs : List (Nm × PV)} {fs' : List (Str × V)}, RFs K ρ N H fs fs' → lookN f fs = some w → ∃ v, fs'.lookup (toS f) = some v ∧ RW K ρ N H w v
  | _, _, .nil, h => by cases h
  | _, _, .cons (f := g) r t, h => by
    unfold lookN at h
    rw [List.lookup_cons, beq_toS]
    split at h
    · rename_i e
      cases h
      subst e
      exact ⟨_, by simp, r⟩
    · rename_i e
      have : ¬ f = g := fun z => e z.symm
      simp only [decide_eq_false this]
      exact look_some t h
theorem look_none {K : PySem.W.Frag} {ρ : Nat → Addr} {N : Nat} {H : Hp} {f : Nm} : ∀ {fs : List (Nm × PV)} {fs' : List (Str × V)}, RFs K ρ N H fs fs' → lookN f fs = none → fs'.lookup (toS f) = none
  | _, _, .nil, h => rfl
  | _, _, .cons (f := g) r t, h => by
    unfold lookN at h
    rw [List.lookup_cons, beq_toS]
    split at h
    · cases h
    · rename_i e
      have : ¬ f = g := fun z => e z.symm
      simp only [decide_eq_false this]
      exact look_none t h
theorem RFs.length {K : PySem.W.Frag} {ρ : Nat → Addr} {N : Nat} {H : Hp} : ∀ {fs : List (Nm × PV)} {fs' : List (Str × V)}, RFs K ρ N H fs fs' → fs.length = fs'.length
  | _, _, .nil => rfl
  | _, _, .cons _ t => by simp [RFs.length t]
def insAt (S : Sto) (w : PV) : Option (Nat × Nm × List (Nm × PV)) := match w with
  | .loc n => (match S[n]? with
    | some (.ins C fs) => some (n, C, fs)
    | _ => none)
  | _ => none
theorem insAt_get {S : Sto} {w : PV} {n : Nat} {C : Nm} {fs : List (Nm × PV)} (h : insAt S w = some (n, C, fs)) : w = .loc n ∧ S[n]? = some (.ins C fs) := by
  unfold insAt at h
  split at h
  · split at h
    · rename_i e; cases h; exact ⟨rfl, e⟩
    · cases h
  · cases h
theorem ins_of {K : PySem.W.Frag} {ρ : Nat → Addr} {H : Hp} {S : Sto} {w : PV} {v : V} {n : Nat} {D : Nm} {fs : List (Nm × PV)} (hS : RSt pw K ρ H S) (r : RW K ρ S.length H w v) (h : insAt S w = some (n, D, fs)) :
    v = .ref (ρ n) ∧ ∃ dx fs', H (ρ n) = some (.ins (He.ga K (toS D)) dx fs') ∧ RFs K ρ S.length H fs fs' := by
  obtain ⟨rfl, e⟩ := insAt_get h
  cases r
  exact ⟨rfl, hS.at_ _ _ e⟩
def eMeth (C m : Nm) (fn : MF) (dws : List PV) (o : ME) (args : MA) : ME := fun ls S => (o ls S).bind fun w S1 => match insAt S1 w with
  | some (_, D, fs) => if D = C then (match lookN m fs with
    | none => (args ls S1).bind fun ws S2 => fn (w :: (ws ++ dws)) S2
    | some _ => .bad) else .bad
  | none => .bad
def tMethD (C : Addr) (m : Str) (sp : Sp) (dvs : List V) (E : L2.St → XK) (ta : TE) (t : TA) : TE := fun σ H Q => ta σ H fun x H1 => ∃ a dx fs, x = .ref a ∧ H1 a = some (.ins C dx fs) ∧ fs.lookup m = none ∧
  t σ H1 fun vs H2 => sp (x :: (vs ++ dvs)) H2 Q (E σ)
theorem pe_methD {E : L2.St → XK} {sp : Sp} {ta : TE} {t : TA} {pl : Sem Bool} (he : PE X o ta) (c : Cls X.K C) (hm : Meth X.K C m f) (F : FnOk X.prog X.w X.K X.mg X.base (L2.CX X.prog X.w) k f fd ps sp) (hr : Room k X.A) (hb : Binds X.K fd ps ds) (hd : Vals dvs ds)
    (hx : ∀ σ, PassesAt (L2.CX X.prog X.w) X σ (E σ)) (ha : PA X (e :: es) t) (hst : starEach (e :: es) X.env = (false, eval e X.env) :: starEach es X.env := by rfl) (hpl : (backTo pos (starEach es X.env)).any (·.1) = false := by rfl)
    (ht : eval (.Call (.Attribute o m apos) (e :: es) [] pos) X.env = (do
      let ov ← eval o X.env
      standAt apos.atName
      let (f, first) ← holding [ov] (getMethod ov m pl)
      callWith pos f first (backTo pos (starEach (e :: es) X.env)) (backToKw pos (keywordEach [] X.env))) := by rfl) : PE X (.Call (.Attribute o m apos) (e :: es) [] pos) (tMethD C m sp dvs E ta t) := by
  constructor
  intro pins s σ H Q I h
  apply PySem.W.methodCall_KW (pl := pl) _ ht
  apply thn (he.run pins s σ H _ I h)
  rintro u s1 ⟨x, H1, I1, rx, a, dx, fs, rfl, ea, l, q⟩
  cases rx
  apply getmeth_ok I1 ea c hm l
  apply PySem.W.callWith_K (first := [.ref a]) (h₀ := X.base) I.ok.mod.kin hm.kp _ hst hpl
  apply thn (ha.run pos pins s1 σ H1 _ I1 q)
  rintro us s2 ⟨vs, H2, I2, r, q2⟩
  exact ⟨I2.kIn, run_fnSD (us := .ref a :: us) (vs := .ref a :: vs) F hr hb hd (hx σ) I2 (.cons rfl r) q2⟩
theorem pe_methD0 {E : L2.St → XK} {sp : Sp} {ta : TE} {pl : Sem Bool} (he : PE X o ta) (c : Cls X.K C) (hm : Meth X.K C m f) (F : FnOk X.prog X.w X.K X.mg X.base (L2.CX X.prog X.w) k f fd ps sp) (hr : Room k X.A) (hb : Binds X.K fd ps ds) (hd : Vals dvs ds)
    (hx : ∀ σ, PassesAt (L2.CX X.prog X.w) X σ (E σ))
    (ht : eval (.Call (.Attribute o m apos) [] [] pos) X.env = (do
      let ov ← eval o X.env
      standAt apos.atName
      let (f, first) ← holding [ov] (getMethod ov m pl)
      callWith pos f first (backTo pos (starEach [] X.env)) (backToKw pos (keywordEach [] X.env))) := by rfl) : PE X (.Call (.Attribute o m apos) [] [] pos) (tMethD C m sp dvs E ta tNil) := by
  constructor
  intro pins s σ H Q I h
  apply PySem.W.methodCall_KW (pl := pl) _ ht
  apply thn (he.run pins s σ H _ I h)
  rintro u s1 ⟨x, H1, I1, rx, a, dx, fs, rfl, ea, l, q⟩
  cases rx
  apply getmeth_ok I1 ea c hm l
  exact PySem.W.callWith_K0 (first := [.ref a]) I1.kIn hm.kp (run_fnSD (us := [.ref a]) (vs := [.ref a]) F hr hb hd (hx σ) I1 (.cons rfl .nil) q)
variable {cn mn : Nm}
theorem meth_in {σ : L2.St} {H : Hp} {Q : VK} {ta : TA} (g : GVals X.K dvs dws) (ha : ∀ σ H Q, tA (pwX X) X.K Wx ma σ H Q → ta σ H Q) (hC : C = He.ga X.K (toS cn)) (hmn : m = toS mn) (h : tE (pwX X) X.K Wx (eMeth cn mn (fnOf np N mb) dws mo ma) σ H Q) :
    tMethD C m (spI (pwX X) X.K np (fnOf np N mb)) dvs (WE Wx) (tE (pwX X) X.K Wx mo) ta σ H Q := by
  obtain ⟨ρ, S, ls, hS, hL, h⟩ := h
  refine ⟨ρ, S, ls, hS, hL, (Post.bind (R := RW) h).imp ?_⟩
  rintro x H1 ⟨ρ1, S1, w1, e1, hS1, r1, h1⟩
  split at h1
  · rename_i n D fs ei
    split at h1
    · rename_i eD
      subst eD
      split at h1
      · rename_i el
        obtain ⟨rfl, dx, fs', hH, rf⟩ := ins_of hS1 r1 ei
        refine ⟨_, dx, fs', rfl, by rw [hC]; exact hH, by rw [hmn]; exact look_none rf el, ha _ _ _ ⟨ρ1, S1, ls, hS1, hL.ext e1, (Post.bind (R := RWs) h1).imp ?_⟩⟩
        rintro vs H2 ⟨ρ2, S2, ws, e2, hS2, r2, h2⟩
        exact sp_in (σ := σ) (ws := w1 :: ws) (vs := _ :: vs) hS2 (.cons (r1.ext e2) r2) g h2
      · exact h1.elim
    · exact h1.elim
  · exact h1.elim
theorem ie_meth {pl : Sem Bool} (tk : Takes X Wx) (he : IE X Wx o mo) (hC : C = He.ga X.K (toS cn)) (c : Cls X.K C) (hm : Meth X.K C m f) (hmn : m = toS mn) (F : FI X.prog X.w X.K X.mg X.base k f fd ps (fnOf np N mb)) (hnp : ps.length = np) (hr : Room k X.A) (hb : Binds X.K fd ps ds) (hd : Vals dvs ds) (g : GVals X.K dvs dws)
    (ha : IA X Wx (e :: es) ma) (hst : starEach (e :: es) X.env = (false, eval e X.env) :: starEach es X.env := by rfl) (hpl : (backTo pos (starEach es X.env)).any (·.1) = false := by rfl)
    (ht : eval (.Call (.Attribute o m apos) (e :: es) [] pos) X.env = (do
      let ov ← eval o X.env
      standAt apos.atName
      let (f, first) ← holding [ov] (getMethod ov m pl)
      callWith pos f first (backTo pos (starEach (e :: es) X.env)) (backToKw pos (keywordEach [] X.env))) := by rfl) : IE X Wx (.Call (.Attribute o m apos) (e :: es) [] pos) (eMeth cn mn (fnOf np N mb) dws mo ma) :=
  PEi (pe_methD (E := WE Wx) he c hm F hr hb hd (passAt tk) ha hst hpl ht) fun σ H Q h => by rw [hnp]; exact meth_in g (fun _ _ _ q => q) hC hmn h
theorem ie_meth0 {pl : Sem Bool} (tk : Takes X Wx) (he : IE X Wx o mo) (hC : C = He.ga X.K (toS cn)) (c : Cls X.K C) (hm : Meth X.K C m f) (hmn : m = toS mn) (F : FI X.prog X.w X.K X.mg X.base k f fd ps (fnOf np N mb)) (hnp : ps.length = np) (hr : Room k X.A) (hb : Binds X.K fd ps ds) (hd : Vals dvs ds) (g : GVals X.K dvs dws)
    (ht : eval (.Call (.Attribute o m apos) [] [] pos) X.env = (do
      let ov ← eval o X.env
      standAt apos.atName
      let (f, first) ← holding [ov] (getMethod ov m pl)
      callWith pos f first (backTo pos (starEach [] X.env)) (backToKw pos (keywordEach [] X.env))) := by rfl) : IE X Wx (.Call (.Attribute o m apos) [] [] pos) (eMeth cn mn (fnOf np N mb) dws mo aNil) :=
  PEi (pe_methD0 (E := WE Wx) he c hm F hr hb hd (passAt tk) ht) fun σ H Q h => by
    rw [hnp]
    exact meth_in g (fun σ H Q ⟨ρ, S, ls, hS, hL, h⟩ => h ρ H _ .refl hS .nil) hC hmn h
def eMake (C : Nm) (fn : MF) (dws : List PV) (args : MA) : ME := fun ls S => (args ls S).bind fun ws S1 => (fn (.loc S1.length :: (ws ++ dws)) (S1 ++ [.ins C []])).bind fun r S2 => match r with
  | .non => .ok (.loc S1.length) S2
  | _ => .bad
def tMakeD (C : Addr) (sp : Sp) (dvs : List V) (E : L2.St → XK) (t : TA) : TE := fun σ H Q => t σ H fun vs H1 => ∀ x dx, H1 x = none → H1 dx = none → dx ≠ x →
  sp (.ref x :: (vs ++ dvs)) (upd (upd H1 dx (.own x)) x (.ins C dx [])) (fun v H2 => v = .non ∧ Q (.ref x) H2) (E σ)
theorem run_makeD {pins : List (Addr × Obj)} {σ : L2.St} {H : Hp} {s : Shared} {Q : VK} {us : List Value} {vs : List V} {sp : Sp} {E : L2.St → XK} (M : Mk X.K C f) (F : FnOk X.prog X.w X.K X.mg X.base (L2.CX X.prog X.w) k f fd ps sp) (hr : Room (k + 1) X.A) (hb : Binds X.K fd ps ds) (hd : Vals dvs ds)
    (hx : ∀ σ, PassesAt (L2.CX X.prog X.w) X σ (E σ)) (I : Inv X pins σ H s) (r : Vals vs us)
    (h : ∀ x dx, H x = none → H dx = none → dx ≠ x → sp (.ref x :: (vs ++ dvs)) (upd (upd H dx (.own x)) x (.ins C dx [])) (fun v H2 => v = .non ∧ Q (.ref x) H2) (E σ)) :
    wpAny (model X.prog X.w) X.A (call (.ref C) us) (EP X pins σ Q) X.xe s := by
  let n := s.heap.objs.size
  have q := h (n + 1) n (I.hok.fresh (Nat.le_succ n)) I.fresh (Nat.ne_of_lt (Nat.lt_succ_self n))
  have J := Inv.made (C := C) I
  have rr : Vals (V.ref (n + 1) :: (vs ++ dvs)) (Value.ref (n + 1) :: (us ++ ds)) := .cons rfl (r.append hd)
  have len := F.len _ _ _ _ q
  rw [rr.length] at len
  apply wpAny_call
  apply make_map (f := f) I.kIn M.makes M.init (beq_iff_eq.mp M.fn)
  have run := F.run _ X.stack _ _ ⟨Value.ref (n + 1) :: us, []⟩ _ _ _ (E σ) (hr.make C us []) (J.env0.make C us []) (hb _ (Value.ref (n + 1) :: us) J.kIn len) rr q
  apply codeAny_mono run
  intro res s' hq
  match res, hq with
  | .error e, hq => exact hx σ pins _ _ e s' J hq
  | .ok (.ret u), hq =>
    obtain ⟨v, H', I3, rv, rfl, q3⟩ := J.after hq
    exact ⟨rv, V.ref (n + 1), H', I3, rfl, q3⟩
theorem pe_makeD {E : L2.St → XK} {sp : Sp} {t : TA} (M : Mk X.K C f) (F : FnOk X.prog X.w X.K X.mg X.base (L2.CX X.prog X.w) k f fd ps sp) (hr : Room (k + 1) X.A) (hg : Gl X x) (hm : X.mg x = some (.ref C)) (hb : Binds X.K fd ps ds) (hd : Vals dvs ds) (hx : ∀ σ, PassesAt (L2.CX X.prog X.w) X σ (E σ))
    (ha : PA X (e :: es) t) (hdb : (x == ("__debug__" : Str)) = false := by decide) (he : starEach (e :: es) X.env = (false, eval e X.env) :: starEach es X.env := by rfl) (hpl : (backTo pos (starEach es X.env)).any (·.1) = false := by rfl) :
    PE X (.Call (.Name x p) (e :: es) [] pos) (tMakeD C sp dvs E t) := by
  constructor
  intro pins s σ H Q I h
  apply wpAny_Call_Name_kw
  apply ld_glob I hg hm _ hdb
  apply PySem.W.callWith_K (h₀ := X.base) I.ok.mod.kin M.kp _ he hpl
  apply thn (ha.run pos pins s σ H _ I h)
  rintro us s1 ⟨vs, H1, I1, r, q⟩
  exact ⟨I1.kIn, run_makeD M F hr hb hd hx I1 r q⟩
theorem make_in {σ : L2.St} {H : Hp} {Q : VK} {ta : TA} (g : GVals X.K dvs dws) (ha : ∀ σ H Q, tA (pwX X) X.K Wx ma σ H Q → ta σ H Q) (hC : C = He.ga X.K (toS cn)) (h : tE (pwX X) X.K Wx (eMake cn (fnOf np N mb) dws ma) σ H Q) :
    tMakeD C (spI (pwX X) X.K np (fnOf np N mb)) dvs (WE Wx) ta σ H Q := by
  obtain ⟨ρ, S, ls, hS, hL, h⟩ := h
  refine ha _ _ _ ⟨ρ, S, ls, hS, hL, (Post.bind (R := RWs) h).imp ?_⟩
  rintro vs H1 ⟨ρ1, S1, ws, e1, hS1, r1, h1⟩ x dx hx hdx hne
  have e2 : Ext X.K ρ1 S1.length H1 ρ1 S1.length (upd H1 dx (.own x)) := ext_keep hdx
  have hx2 : (upd H1 dx (.own x)) x = none := by rw [upd_ne (Ne.symm hne)]; exact hx
  have e3 : Ext X.K ρ1 S1.length (upd H1 dx (.own x)) (grow ρ1 S1.length x) (S1 ++ [OB.ins cn []]).length (upd (upd H1 dx (.own x)) x (.ins C dx [])) := by
    rw [List.length_append, List.length_singleton]; exact ext_new hx2
  have s3 : RSt (pwX X) X.K (grow ρ1 S1.length x) (upd (upd H1 dx (.own x)) x (.ins C dx [])) (S1 ++ [OB.ins cn []]) := (hS1.keep hdx).new (o := .ins cn []) hx2 rfl ⟨dx, [], by rw [upd_same, hC], .nil⟩
  have rx : RW X.K (grow ρ1 S1.length x) (S1 ++ [OB.ins cn []]).length (upd (upd H1 dx (.own x)) x (.ins C dx [])) (.loc S1.length) (.ref x) := by
    have q : RW X.K (grow ρ1 S1.length x) (S1 ++ [OB.ins cn []]).length (upd (upd H1 dx (.own x)) x (.ins C dx [])) (.loc S1.length) (.ref (grow ρ1 S1.length x S1.length)) := .loc _ (by rw [List.length_append, List.length_singleton]; exact Nat.lt_succ_self _)
    rw [grow_new] at q
    exact q
  refine sp_in (σ := σ) (ws := .loc S1.length :: ws) (vs := .ref x :: vs) s3 (.cons rx ((r1.ext e2).ext e3)) g ((Post.bind (R := RW) (Post.ext (e2.trans e3) h1)).imp ?_)
  rintro v H4 ⟨ρ4, S4, w4, e4, hS4, r4, h4⟩
  split at h4
  · cases r4
    exact ⟨rfl, h4 ρ4 H4 _ .refl hS4 (rx.ext e4)⟩
  · exact h4.elim
theorem ie_make (tk : Takes X Wx) (M : Mk X.K C f) (hC : C = He.ga X.K (toS cn)) (F : FI X.prog X.w X.K X.mg X.base k f fd ps (fnOf np N mb)) (hnp : ps.length = np) (hr : Room (k + 1) X.A) (hm : X.mg x = some (.ref C)) (hb : Binds X.K fd ps ds) (hd : Vals dvs ds) (g : GVals X.K dvs dws)
    (ha : IA X Wx (e :: es) ma) (hg : Gl X x := by rfl) (hdb : (x == ("__debug__" : Str)) = false := by decide) (he : starEach (e :: es) X.env = (false, eval e X.env) :: starEach es X.env := by rfl) (hpl : (backTo pos (starEach es X.env)).any (·.1) = false := by rfl) :
    IE X Wx (.Call (.Name x p) (e :: es) [] pos) (eMake cn (fnOf np N mb) dws ma) :=
  PEi (pe_makeD (E := WE Wx) M F hr hg hm hb hd (passAt tk) ha hdb he hpl) fun σ H Q h => by rw [hnp]; exact make_in g (fun _ _ _ q => q) hC h
def Atts (K : PySem.W.Frag) (tab : Nm → Nm → Bool) : Prop := ∀ C f, tab C f = true → Cls K (He.ga K (toS C)) ∧ NoAttr K (He.ga K (toS C)) (toS f)
def eFld (tab : Nm → Nm → Bool) (f : Nm) (o : ME) : ME := fun ls S => (o ls S).bind fun w S1 => match insAt S1 w with
  | some (_, C, fs) => if tab C f = true then (match lookN f fs with
    | some v => .ok v S1
    | none => .bad) else .bad
  | none => .bad
variable {tab : Nm → Nm → Bool} {fl : Nm} {fs : Str}
theorem ie_fld (T : Atts X.K tab) (he : IE X Wx o mo) (hf : fs = toS fl) (hb : attributeBase o fs X.env (eval o X.env) = eval o X.env := by rfl) : IE X Wx (.Attribute o fs pos) (eFld tab fl mo) :=
  PEi (pe_fld he hb) fun σ H Q ⟨ρ, S, ls, hS, hL, h⟩ => ⟨ρ, S, ls, hS, hL, (Post.bind (R := RW) h).imp fun x H1 ⟨ρ1, S1, w1, e1, hS1, r1, h1⟩ => by
    split at h1
    · rename_i n D gs ei
      split at h1
      · rename_i et
        split at h1
        · rename_i v el
          obtain ⟨rfl, dx, fs', hH, rf⟩ := ins_of hS1 r1 ei
          obtain ⟨c, na⟩ := T _ _ et
          obtain ⟨u, hu, ru⟩ := look_some rf el
          subst hf
          exact ⟨_, _, dx, fs', u, rfl, hH, c, na, hu, h1 ρ1 H1 u .refl hS1 ru⟩
        · exact h1.elim
      · exact h1.elim
    · exact h1.elim⟩
def sFldM (tab : Nm → Nm → Bool) (f : Nm) (o v : ME) : MS := fun ls S => (v ls S).then ls fun y S1 => (o ls S1).then ls fun w S2 => match insAt S2 w with
  | some (n, C, fs) => if tab C f && decide (fs.length < 1000) then .nx ls (S2.set n (.ins C (putN f y fs))) else .bad
  | none => .bad
theorem put_rel {K : PySem.W.Frag} {ρ : Nat → Addr} {N : Nat} {H : Hp} {f : Nm} {w : PV} {v : V} (q : RW K ρ N H w v) : ∀ {fs : List (Nm × PV)} {fs' : List (Str × V)}, RFs K ρ N H fs fs' → RFs K ρ N H (putN f w fs) (putF (toS f) v fs')
  | _, _, .nil => .cons q .nil
  | _, _, .cons (f := g) (v := u) (r' := r') r t => by
    unfold putN
    show RFs K ρ N H _ (if toS g = toS f then (toS g, v) :: r' else (toS g, u) :: putF (toS f) v r')
    by_cases e : g = f
    · subst e
      rw [if_pos rfl, if_pos rfl]; exact .cons q t
    · rw [if_neg e, if_neg fun z => e (toS_inj z)]; exact .cons r (put_rel q t)
theorem is_fld {val : Expr} {mv : ME} {pos' : Pos} (T : Atts X.K tab) (ho : IE X Wx o mo) (hv : IE X Wx val mv) (hf : fs = toS fl) (hs : swapsWith val (some (.Attribute o fs pos')) pos.line X.env = pure false := by rfl) :
    IS X Wx (.Assign [.Attribute o fs pos'] val pos) (sFldM tab fl mo mv) :=
  PSi (ps_fld ho hv hs) fun D σ H ⟨ρ, S, ls, hS, hL, h⟩ => ⟨ρ, S, ls, hS, hL, (Post.then (R := RW) hL h).imp fun y H1 ⟨ρ1, S1, wy, e1, hS1, r1, h1⟩ =>
    ⟨ρ1, S1, ls, hS1, hL.ext e1, (Post.then (R := RW) (hL.ext e1) h1).imp fun x H2 ⟨ρ2, S2, w2, e2, hS2, r2, h2⟩ => by
      split at h2
      · rename_i n D' gs ei
        split at h2
        · rename_i et
          rw [Bool.and_eq_true] at et
          obtain ⟨rfl, dx, fs', hH, rf⟩ := ins_of hS2 r2 ei
          obtain ⟨rfl, eg⟩ := insAt_get ei
          obtain ⟨c, na⟩ := T _ _ et.1
          subst hf
          refine ⟨_, _, dx, fs', rfl, hH, c, na, by rw [← rf.length]; exact of_decide_eq_true et.2, ?_⟩
          have ee : Ext X.K ρ2 S2.length H2 ρ2 S2.length (upd H2 (ρ2 n) (.ins (He.ga X.K (toS D')) dx (putF (toS fl) y fs'))) := ext_upd hH trivial
          refine h2 ρ2 _ σ (by rw [List.length_set]; exact ee) (hS2.set eg rfl rfl ⟨dx, _, upd_same, put_rel ((r1.ext e2).ext ee) (rf.ext ee)⟩) (by rw [List.length_set]; exact ((hL.ext e1).ext e2).ext ee)
        · exact h2.elim
      · exact h2.elim⟩⟩
end
end GL
set_option Elab.async false
set_option linter.all false
set_option maxRecDepth 100000
set_option maxHeartbeats 1000000
namespace GL
open PySem PySem.Spec PyProof.Rows L2
variable {pw : PgW}
def gIx : PV → PV → Sto → Out PV := fun a b S => match a, b with
  | .tup xs, .int i => (match atI xs i with
    | some v => .ok v S
    | none => .bad)
  | .loc n, .int i => (match seqAt S n with
    | some xs => (match atI xs i with
      | some v => .ok v S
      | none => .bad)
    | none => .bad)
  | .str s, .int i => if s.length ≤ lim then (match atI s i with
    | some c => .ok (.str [c]) S
    | none => .bad) else .bad
  | _, _ => .bad
section
variable {K : PySem.W.Frag} {ρ : Nat → Addr} {N : Nat} {H : Hp}
theorem RWs.at {ws : List PV} {vs : List V} (t : RWs K ρ N H ws vs) {i : Int} {w : PV} (h : atI ws i = some w) : ∃ v, atI vs i = some v ∧ RW K ρ N H w v := by
  unfold atI at h ⊢
  rw [t.length] at h
  cases e : ixN vs.length i with
  | none => rw [e] at h; cases h
  | some j =>
    rw [e] at h
    exact t.get h
end
section
variable {X : Cx} {Wx : WX} {pos : Pos} {a b e o : Expr} {ma mb me mo : ME}
theorem oi_ix : OpI X Wx (rIx X.K) gIx := by
  intro ρ S H w1 w2 x y Ex Q hS r1 r2 h
  unfold gIx at h
  split at h
  · split at h
    · rename_i v ev
      cases r1 with
      | tup s t =>
        obtain ⟨u, hu, ru⟩ := t.at ev
        cases r2
        exact .inr (.inl ⟨_, _, _, u, rfl, rfl, s, hu, h.here hS ru⟩)
    · exact h.elim
  · split at h
    · split at h
      · rename_i xs exs _ v ev
        cases r1; cases r2
        obtain ⟨vs, s, t⟩ := seq_of hS exs
        obtain ⟨u, hu, ru⟩ := t.at ev
        exact .inl ⟨_, _, _, u, rfl, rfl, s, hu, h.here hS ru⟩
      · exact h.elim
    · exact h.elim
  · split at h
    · split at h
      · rename_i hz _ c ec
        cases r1; cases r2
        rw [str_len] at hz
        exact .inr (.inr ⟨_, _, c, rfl, rfl, lim_sz hz, ec, h.here hS (.str ⟨#[c]⟩)⟩)
      · exact h.elim
    · exact h.elim
  · exact h.elim
theorem ie_ix (ha : IE X Wx a ma) (hb : IE X Wx b mb) (hs : PlainIx b := by exact fun _ _ => rfl) : IE X Wx (.Subscript a b pos) (eOp gIx ma mb) :=
  PEi (pe_ix ix_seq ha hb hs) fun σ H Q h => bin_in oi_ix h
def sSub (o i e : ME) : MS := fun ls S => (e ls S).then ls fun w S1 => (o ls S1).then ls fun l S2 => (i ls S2).then ls fun k S3 => match l, k with
  | .loc n, .int j => (match lstAt S3 n with
    | some xs => (match ixN xs.length j with
      | some m => .nx ls (S3.set n (.lst (xs.set m w)))
      | none => .bad)
    | none => .bad)
  | _, _ => .bad
theorem is_sub {i : Expr} {mi : ME} {pos' : Pos} (ho : IE X Wx o mo) (hi : IE X Wx i mi) (he : IE X Wx e me)
    (hq : ∀ v, assign (.Subscript o i pos') X.env v = (do
      let ov ← holding [v] (eval o X.env)
      let iv ← holding [v, ov] (eval i X.env)
      standAt pos'
      holding [v, ov, iv] (setItem ov iv v)
      release [v, ov, iv] []) := by intro _; rfl)
    (hs : swapsWithSole [.Subscript o i pos'] e pos.line X.env = pure false := by rfl) (hw : swappedStores [.Subscript o i pos'] e X.env = pure none := by rfl)
    (h1 : (assignEach [.Subscript o i pos'] X.env).map (·.2) = [assign (.Subscript o i pos') X.env] := by rfl) : IS X Wx (.Assign [.Subscript o i pos'] e pos) (sSub mo mi me) :=
  PSi (ps_asg he (pg_sub ho hi set_list hq) hs hw h1) fun D σ H ⟨ρ, S, ls, hS, hL, h⟩ => ⟨ρ, S, ls, hS, hL, (Post.then (R := RW) hL h).imp fun x H1 ⟨ρ1, S1, w1, e1, hS1, r1, h1⟩ =>
    ⟨ρ1, S1, ls, hS1, hL.ext e1, (Post.then (R := RW) (hL.ext e1) h1).imp fun y H2 ⟨ρ2, S2, w2, e2, hS2, r2, h2⟩ =>
      ⟨ρ2, S2, ls, hS2, (hL.ext e1).ext e2, (Post.then (R := RW) ((hL.ext e1).ext e2) h2).imp fun z H3 ⟨ρ3, S3, w3, e3, hS3, r3, h3⟩ => by
        have r2 := r2.ext e3
        have r1 := (r1.ext e2).ext e3
        split at h3
        · split at h3
          · split at h3
            · rename_i xs ex _ j ej
              cases r2; cases r3
              obtain ⟨vs, hv, t⟩ := lst_of hS3 ex
              obtain ⟨s4, e4⟩ := set_lst hS3 ex (t.set r1 j)
              exact ⟨_, vs, _, j, rfl, rfl, hv, by rw [← t.length]; exact ej, h3 ρ3 _ σ e4 s4 ((((hL.ext e1).ext e2).ext e3).ext e4)⟩
            · exact h3.elim
          · exact h3.elim
        · exact h3.elim⟩⟩⟩
abbrev MO := Ls → Sto → Out (Option Int)
abbrev ROI : RelF (Option Int) (Option Int) := fun _ _ _ _ a b => a = b
def tO (pw : PgW) (K : PySem.W.Frag) (Wx : WX) (m : MO) : TO := fun σ H Q => ∃ ρ S ls, RSt pw K ρ H S ∧ RL K ρ S.length H ls σ ∧ Post pw ROI K ρ S.length H (fun c d H' => Wx c d σ H') (m ls S) Q
abbrev IO (X : Cx) (Wx : WX) (e : Option Expr) (m : MO) : Prop := PO X e (tO (pwX X) X.K Wx m)
theorem POi {e : Option Expr} {t t' : TO} (h : PO X e t) (i : ∀ σ H Q, t' σ H Q → t σ H Q) : PO X e t' := ⟨fun pins s σ H Q I hw => h.run pins s σ H Q I (i _ _ _ hw)⟩
def oNo : MO := fun _ S => .ok none S
def oYes (m : ME) : MO := fun ls S => (m ls S).bind fun w S1 => match w with
  | .int i => .ok (some i) S1
  | _ => .bad
theorem io_none : IO X Wx none oNo := POi po_none fun σ H Q ⟨ρ, S, ls, hS, hL, h⟩ => h ρ H none .refl hS rfl
theorem io_some (h : IE X Wx e me) : IO X Wx (some e) (oYes me) := POi (po_some h) fun σ H Q ⟨ρ, S, ls, hS, hL, h⟩ => ⟨ρ, S, ls, hS, hL, (Post.bind (R := RW) h).imp fun x H1 ⟨ρ1, S1, w1, e1, hS1, r1, h1⟩ => by
  split at h1
  · cases r1
    exact ⟨_, rfl, h1 ρ1 H1 _ .refl hS1 rfl⟩
  · exact h1.elim⟩
def cutP {α : Type} (xs : List α) (lo hi : Option Int) : List α := (xs.drop (HT.sIx xs.length 0 lo)).take (HT.sIx xs.length xs.length hi - HT.sIx xs.length 0 lo)
def gSl : PV → Option Int → Option Int → Sto → Out PV := fun a lo hi S => match a with
  | .tup xs => .ok (.tup (cutP xs lo hi)) S
  | .loc n => (match seqAt S n with
    | some xs => .ok (.loc S.length) (S ++ [.lst (cutP xs lo hi)])
    | none => .bad)
  | .str s => if s.length ≤ lim then .ok (.str (cutP s lo hi)) S else .bad
  | _ => .bad
def eSl (o : ME) (lo hi : MO) : ME := fun ls S => (o ls S).bind fun w S1 => (lo ls S1).bind fun l S2 => (hi ls S2).bind fun h S3 => gSl w l h S3
theorem RWs.cut {K : PySem.W.Frag} {ρ : Nat → Addr} {N : Nat} {H : Hp} {ws : List PV} {vs : List V} (t : RWs K ρ N H ws vs) (lo hi : Option Int) : RWs K ρ N H (cutP ws lo hi) (cutV vs lo hi) := by
  unfold cutP cutV
  rw [t.length]
  exact (t.drop _).take _
theorem RWs.cut_whole {K : PySem.W.Frag} {ρ : Nat → Addr} {N : Nat} {H : Hp} {ws : List PV} {vs : List V} (t : RWs K ρ N H ws vs) {l u : Option Int} (whole : HT.sIx vs.length 0 l = 0 ∧ HT.sIx vs.length vs.length u = vs.length) : cutP ws l u = ws := by
  unfold cutP
  rw [t.length, whole.1, whole.2, ← t.length]
  simp
def rSlM (K : PySem.W.Frag) : V → Option Int → Option Int → Hp → VK → Prop := fun x lo hi H Q => rSlA K x lo hi H Q ∨ rSlL K x lo hi H Q ∨ rSlS x lo hi H Q
theorem sl_M : SlR X (rSlM X.K) := sl_tupA.or (sl_list.or sl_str)
theorem ie_sl {lo hi : Option Expr} {ml mh : MO} {p2 : Pos} (ho : IE X Wx o mo) (hl : IO X Wx lo ml) (hh : IO X Wx hi mh) : IE X Wx (.Subscript o (.Slice lo hi none p2) pos) (eSl mo ml mh) :=
  PEi (pe_slice sl_M ho hl hh) fun σ H Q ⟨ρ, S, ls, hS, hL, h⟩ => ⟨ρ, S, ls, hS, hL, (Post.bind (R := RW) h).imp fun x H1 ⟨ρ1, S1, w1, e1, hS1, r1, h1⟩ =>
    ⟨ρ1, S1, ls, hS1, hL.ext e1, (Post.bind (R := ROI) h1).imp fun l H2 ⟨ρ2, S2, l2, e2, hS2, q2, h2⟩ =>
      ⟨ρ2, S2, ls, hS2, (hL.ext e1).ext e2, (Post.bind (R := ROI) h2).imp fun u H3 ⟨ρ3, S3, u3, e3, hS3, q3, h3⟩ => by
        cases q2; cases q3
        have r1 := (r1.ext e2).ext e3
        unfold gSl at h3
        split at h3
        · cases r1 with
          | tup s t =>
            refine .inl ⟨_, _, rfl, s, fun whole => ?_, fun _ => mk_tup hS3 (t.cut l u) h3⟩
            rw [t.cut_whole whole] at h3
            exact h3.here hS3 (.tup s t)
        · split at h3
          · rename_i xs ex
            cases r1
            obtain ⟨vs, s, t⟩ := seq_of hS3 ex
            exact .inr (.inl ⟨_, _, rfl, s, mk_lst hS3 (t.cut l u) h3⟩)
          · exact h3.elim
        · split at h3
          · rename_i hz
            cases r1 with
            | str z =>
              rw [str_len] at hz
              refine .inr (.inr ⟨_, rfl, lim_sz hz, h3.here hS3 ?_⟩)
              have : cutP z.cps.toList l u = (cutS z l u).cps.toList := by
                unfold cutP cutS
                simp [Str.length]
              rw [this]; exact .str _
          · exact h3.elim
        · exact h3.elim⟩⟩⟩
def CallI (X : Cx) (r : List V → Hp → VK → Prop) (g : MF) : Prop :=
  ∀ (ρ : Nat → Addr) (S : Sto) (H : Hp) (ws : List PV) (vs : List V) (Ex : XK) (Q : VK), RSt (pwX X) X.K ρ H S → RWs X.K ρ S.length H ws vs → Post (pwX X) RW X.K ρ S.length H Ex (g ws S) Q → r vs H Q
def eB (g : MF) (args : MA) : ME := fun ls S => (args ls S).bind fun ws S1 => g ws S1
variable {x : Str} {p : Pos} {es : List Expr} {mr : MA} {id T : String} {r : List V → Hp → VK → Prop} {g : MF}
theorem callB_in {σ : L2.St} {H : Hp} {Q : VK} (hi : CallI X r g) (h : tE (pwX X) X.K Wx (eB g mr) σ H Q) : tCB r (tA (pwX X) X.K Wx mr) σ H Q := by
  obtain ⟨ρ, S, ls, hS, hL, h⟩ := h
  exact ⟨ρ, S, ls, hS, hL, (Post.bind (R := RWs) h).imp fun vs H1 ⟨ρ1, S1, ws, e1, hS1, r1, h1⟩ => hi ρ1 S1 H1 ws vs _ Q hS1 r1 h1⟩
theorem ie_B (hc : CallR X (.builtin id) r) (hi : CallI X r g) (hm : X.mg x = none) (hv : bootBuiltins x = some (.builtin id)) (ha : IA X Wx (e :: es) mr) (hg : Gl X x := by rfl) (hn : x ≠ "__name__" := by decide) (hdb : (x == ("__debug__" : Str)) = false := by decide)
    (he : starEach (e :: es) X.env = (false, eval e X.env) :: starEach es X.env := by rfl) (hpl : (backTo pos (starEach es X.env)).any (·.1) = false := by rfl) : IE X Wx (.Call (.Name x p) (e :: es) [] pos) (eB g mr) :=
  PEi (pe_callB hc hg hm hv ha hn hdb he hpl) fun σ H Q h => callB_in hi h
theorem ie_BT (hc : CallR X (.type T) r) (hi : CallI X r g) (hm : X.mg x = none) (hv : bootBuiltins x = some (.type T)) (ha : IA X Wx (e :: es) mr) (hg : Gl X x := by rfl) (hn : x ≠ "__name__" := by decide) (hdb : (x == ("__debug__" : Str)) = false := by decide)
    (he : starEach (e :: es) X.env = (false, eval e X.env) :: starEach es X.env := by rfl) (hpl : (backTo pos (starEach es X.env)).any (·.1) = false := by rfl) : IE X Wx (.Call (.Name x p) (e :: es) [] pos) (eB g mr) :=
  PEi (pe_callTy hc hg hm hv ha hn hdb he hpl) fun σ H Q h => callB_in hi h
def fInt : MF := fun ws S => match ws with
  | [.int i] => .ok (.int i) S
  | [.bl k] => .ok (.int (if k then 1 else 0)) S
  | _ => .bad
theorem ci_int : CallI X (fun xs H Q => (∃ i, xs = [.int i] ∧ Q (.int i) H) ∨ ∃ k, xs = [.bl k] ∧ Q (.int (if k then 1 else 0)) H) fInt := by
  intro ρ S H ws vs Ex Q hS r h
  unfold fInt at h
  split at h
  · cases r with | cons r t => cases t; cases r; exact .inl ⟨_, rfl, h.here hS (.int _)⟩
  · cases r with | cons r t => cases t; cases r; exact .inr ⟨_, rfl, h.here hS (.int _)⟩
  · exact h.elim
def fAbs : MF := fun ws S => match ws with
  | [.int i] => .ok (.int (if i < 0 then -i else i)) S
  | _ => .bad
theorem ci_abs : CallI X (fun xs H Q => ∃ i, xs = [.int i] ∧ Q (.int (if i < 0 then -i else i)) H) fAbs := by
  intro ρ S H ws vs Ex Q hS r h
  unfold fAbs at h
  split at h
  · cases r with | cons r t => cases t; cases r; exact ⟨_, rfl, h.here hS (.int _)⟩
  · exact h.elim
def fLen : MF := fun ws S => match ws with
  | [.tup xs] => .ok (.int xs.length) S
  | [.str s] => if s.length ≤ lim then .ok (.int s.length) S else .bad
  | [.loc n] => (match seqAt S n with
    | some xs => .ok (.int xs.length) S
    | none => .bad)
  | _ => .bad
theorem ci_len : CallI X (fun xs H Q => ∃ x n, xs = [x] ∧ LenV X.K x H n ∧ Q (.int n) H) fLen := by
  intro ρ S H ws vs Ex Q hS r h
  unfold fLen at h
  split at h
  · cases r with
    | cons r t => cases t; cases r with
      | tup s t => exact ⟨_, _, rfl, .inr ⟨_, s, rfl⟩, h.here hS (by rw [t.length]; exact .int _)⟩
  · split at h
    · rename_i hz
      cases r with
      | cons r t => cases t; cases r with
        | str z =>
          rw [str_len] at hz h
          exact ⟨_, _, rfl, ⟨lim_sz hz, rfl⟩, h.here hS (.int _)⟩
    · exact h.elim
  · split at h
    · rename_i xs ex
      obtain ⟨vs, s, t⟩ := seq_of hS ex
      cases r with
      | cons r t' => cases t'; cases r; exact ⟨_, _, rfl, .inl ⟨_, s, rfl⟩, h.here hS (by rw [t.length]; exact .int _)⟩
    · exact h.elim
  · exact h.elim
def fList : MF := fun ws S => match ws with
  | [.tup xs] => .ok (.loc S.length) (S ++ [.lst xs])
  | [.loc n] => (match seqAt S n with
    | some xs => .ok (.loc S.length) (S ++ [.lst xs])
    | none => .bad)
  | _ => .bad
theorem ci_list : CallI X (fun xs H Q => ∃ p ys, xs = [.ref p] ∧ (SqL X.K H p ys ∨ SqT X.K H p ys) ∧ ∀ l, H l = none → Q (.ref l) (upd H l (.lst ys))) fList := by
  intro ρ S H ws vs Ex Q hS r h
  unfold fList at h
  split at h
  · cases r with
    | cons r t => cases t; cases r with
      | tup s t => exact ⟨_, _, rfl, .inr s, mk_lst hS t h⟩
  · split at h
    · rename_i xs ex
      obtain ⟨vs, s, t⟩ := seq_of hS ex
      cases r with
      | cons r t' => cases t'; cases r; exact ⟨_, _, rfl, .inl s, mk_lst hS t h⟩
    · exact h.elim
  · exact h.elim
def fTuple : MF := fun ws S => match ws with
  | [.tup xs] => .ok (.tup xs) S
  | [.loc n] => (match seqAt S n with
    | some xs => .ok (.tup xs) S
    | none => .bad)
  | _ => .bad
theorem ci_tuple : CallI X (fun xs H Q => ∃ p ys, xs = [.ref p] ∧ ((SqL X.K H p ys ∧ ∀ l, H l = none → Q (.ref l) (upd H l (.tup ys))) ∨ (SqT X.K H p ys ∧ Q (.ref p) H))) fTuple := by
  intro ρ S H ws vs Ex Q hS r h
  unfold fTuple at h
  split at h
  · cases r with
    | cons r t => cases t; cases r with
      | tup s t => exact ⟨_, _, rfl, .inr ⟨s, h.here hS (.tup s t)⟩⟩
  · split at h
    · rename_i xs ex
      obtain ⟨vs, s, t⟩ := seq_of hS ex
      cases r with
      | cons r t' => cases t'; cases r; exact ⟨_, _, rfl, .inl ⟨s, mk_tup hS t h⟩⟩
    · exact h.elim
  · exact h.elim
def tyP (S : Sto) : PV → Option BT
  | .non => some .none
  | .bl _ => some .bool
  | .int _ => some .int
  | .str _ => some .str
  | .tup _ => some .tuple
  | .loc n => (match S[n]? with
    | some (.lst _) => some .list
    | some (.rol _) => some .list
    | some (.dct _) => some .dict
    | some (.fdct _) => some .dict
    | some (.ptp _) => some .tuple
    | _ => none)
  | _ => none
def isB : BT → BT → Bool
  | .bool, .int => true
  | a, b => decide (a = b)
theorem kit_is : ∀ a b : BT, b ≠ .none → kitB a.name b.name = some (isB a b) := by
  intro a b hb
  cases a <;> cases b <;> first | (exact absurd rfl hb) | (decide +kernel)
theorem tyX_of {K : PySem.W.Frag} {ρ : Nat → Addr} {H : Hp} {S : Sto} (hS : RSt pw K ρ H S) {w : PV} {v : V} {t : BT} (r : RW K ρ S.length H w v) (h : tyP S w = some t) : TyX K H v (.type t.name) := by
  cases r with
  | non => cases h; exact .base .non
  | bl b => cases h; exact .base (.bl b)
  | int i => cases h; exact .base (.int i)
  | str x => cases h; exact .base (.str x)
  | tup s _ =>
    cases h
    rcases s with (s | ⟨o, s⟩) | ⟨o, its, n, hk, hc, _⟩
    · exact .base (.tup s)
    · exact .fTuple s
    · exact .kTuple hk hc
  | gl x => cases h
  | ty n => cases h
  | xn _ _ _ => cases h
  | loc n hn =>
    unfold tyP at h
    dsimp only at h
    split at h
    · rename_i e; cases h
      obtain ⟨vs, a, _⟩ := hS.at_ _ _ e
      exact .base (.lst a)
    · rename_i e; cases h
      obtain ⟨vs, a, _⟩ := hS.at_ _ _ e
      rcases a with ⟨o, a⟩ | ⟨o, its, n, hk, hc, _⟩
      · exact .base (.frz a)
      · exact .kList hk hc
    · rename_i e; cases h
      obtain ⟨vs, a, _⟩ := hS.at_ _ _ e
      exact .base (.dK a)
    · rename_i e; cases h
      obtain ⟨o, vs, a, _⟩ := hS.at_ _ _ e
      exact .fDict a
    · rename_i e; cases h
      obtain ⟨vs, a, _⟩ := hS.at_ _ _ e
      rcases a with ⟨o, a, _⟩ | ⟨o, its, n, hk, hc, _⟩
      · exact .fTuple a
      · exact .kTuple hk hc
    · cases h
def fIsi : MF := fun ws S => match ws with
  | [w, .ty b] => if b = .none then .bad else (match tyP S w with
    | some t => .ok (.bl (isB t b)) S
    | none => .bad)
  | _ => .bad
theorem ci_isi : CallI X (rIsi X.K) fIsi := by
  intro ρ S H ws vs Ex Q hS r h
  unfold fIsi at h
  split at h
  · split at h
    · exact h.elim
    · rename_i hb
      split at h
      · rename_i t et
        cases r with
        | cons r1 t => cases t with
          | cons r2 t =>
            cases t; cases r2
            exact ⟨_, _, _, _, _, rfl, .ty _, tyX_of hS r1 et, kit_ty (kit_is _ _ hb), h.here hS (.bl _)⟩
      · exact h.elim
  · exact h.elim
theorem ie_ty {t : BT} (hm : X.mg x = none) (hv : bootBuiltins x = some (.type t.name)) (hg : Gl X x := by rfl) (hn : x ≠ "__name__" := by decide) (hdb : (x == ("__debug__" : Str)) = false := by decide) : IE X Wx (.Name x p) (eC (.ty t)) :=
  PEi (pe_bltn (v := .ty t.name) hg hm hv rfl hn hdb) fun σ H Q ⟨ρ, S, ls, hS, hL, h⟩ => h ρ H _ .refl hS (.ty _)
def MtI (X : Cx) (r : V → List V → Hp → VK → Prop) (g : PV → MF) : Prop :=
  ∀ (ρ : Nat → Addr) (S : Sto) (H : Hp) (w : PV) (ws : List PV) (v : V) (vs : List V) (Ex : XK) (Q : VK), RSt (pwX X) X.K ρ H S → RW X.K ρ S.length H w v → RWs X.K ρ S.length H ws vs → Post (pwX X) RW X.K ρ S.length H Ex (g w ws S) Q → r v vs H Q
def eMt (chk : PV → Sto → Bool) (g : PV → MF) (o : ME) (args : MA) : ME := fun ls S => (o ls S).bind fun w S1 => if chk w S1 = true then (args ls S1).bind fun ws S2 => g w ws S2 else .bad
def kList : PV → Sto → Bool := fun w S => match w with
  | .loc n => (seqAt S n).isSome
  | _ => false
def ChkT (X : Cx) (T : String) (chk : PV → Sto → Bool) : Prop := ∀ (ρ : Nat → Addr) (S : Sto) (H : Hp) (w : PV) (v : V), RSt (pwX X) X.K ρ H S → RW X.K ρ S.length H w v → chk w S = true → tyV X.K T v H
theorem chk_list : ChkT X "list" kList := by
  intro ρ S H w v hS r h
  unfold kList at h
  split at h
  · rename_i n
    cases e : seqAt S n with
    | none => rw [e] at h; cases h
    | some xs =>
      obtain ⟨vs, s, _⟩ := seq_of hS e
      cases r
      exact .inl ⟨rfl, _, s⟩
  · cases h
variable {name : Str} {apos cpos : Pos} {rm : V → List V → Hp → VK → Prop} {gm : PV → MF} {chk : PV → Sto → Bool}
theorem ie_mt (pa : PlainAttrs T) (slot : Slot T name id) (hty : typeOf (.builtin id) = pure (.type "method_descriptor")) (hm : MtR X id rm) (hk : ChkT X T chk) (hi : MtI X rm gm) (ho : IE X Wx o mo) (ha : IA X Wx (e :: es) mr)
    (hbase : attributeBase o name X.env (eval o X.env) = eval o X.env := by rfl)
    (hfew : ((backTo cpos (starEach (e :: es) X.env)).all (fun x => !x.1) && (backToKw cpos (keywordEach [] X.env)).all (fun x => x.1.isSome)
      && decide ((e :: es).length + ([] : List Keyword).length + (if ([] : List Keyword).isEmpty then 0 else 1) < 30)) = true := by rfl)
    (hline : (apos.endLine == cpos.line) = true := by rfl) (hs : starEach (e :: es) X.env = (false, eval e X.env) :: starEach es X.env := by rfl) (hplain : (backTo cpos (starEach es X.env)).any (·.1) = false := by rfl) :
    IE X Wx (.Call (.Attribute o name apos) (e :: es) [] cpos) (eMt chk gm mo mr) :=
  PEi (pe_bm pa slot hty hm ho ha hbase hfew hline hs hplain) fun σ H Q ⟨ρ, S, ls, hS, hL, h⟩ => ⟨ρ, S, ls, hS, hL, (Post.bind (R := RW) h).imp fun x H1 ⟨ρ1, S1, w1, e1, hS1, r1, h1⟩ => by
    split at h1
    · rename_i hc
      exact ⟨hk _ _ _ _ _ hS1 r1 hc, ρ1, S1, ls, hS1, hL.ext e1, (Post.bind (R := RWs) h1).imp fun vs H2 ⟨ρ2, S2, ws, e2, hS2, r2, h2⟩ => hi ρ2 S2 H2 _ _ _ _ _ Q hS2 (r1.ext e2) r2 h2⟩
    · exact h1.elim⟩
def mAppend : PV → MF := fun w ws S => match w, ws with
  | .loc n, [y] => (match lstAt S n with
    | some xs => if xs.length < lim then .ok .non (S.set n (.lst (xs ++ [y]))) else .bad
    | none => .bad)
  | _, _ => .bad
theorem mi_append : MtI X rAppend mAppend := by
  intro ρ S H w ws v vs Ex Q hS r rs h
  unfold mAppend at h
  split at h
  · split at h
    · split at h
      · rename_i xs ex hz
        cases r
        cases rs with
        | cons ry t =>
          cases t
          obtain ⟨us, hu, t⟩ := lst_of hS ex
          obtain ⟨s2, e2⟩ := set_lst hS ex (t.app (.cons ry .nil))
          exact ⟨_, us, _, rfl, rfl, hu, by rw [← t.length]; exact lim_lt hz, h ρ _ _ e2 s2 .non⟩
      · exact h.elim
    · exact h.elim
  · exact h.elim
def sAug (i : Nat) (g : PV → PV → Sto → Out PV) (e : ME) : MS := fun ls S => match ls[i]? with
  | some (some w) => (e ls S).then ls fun v S1 => (g w v S1).then ls fun z S2 => .nx (ls.set i (some z)) S2
  | _ => .bad
theorem is_aug {op : Operator} {t : TIp} {gg : PV → PV → Sto → Out PV} {i : Nat} {pos' : Pos} (hN : X.N.Nodup) (ho : PIp X op t) (hi : OpI X Wx t gg) (he : IE X Wx e me) (hx : X.N[i]? = some x := by rfl) (hl : Loc X.env.scope x := by first | exact Or.inl rfl | exact Or.inr rfl)
    (hf : X.fn x = true ∨ X.env.scope.names.lookup x = some .local := by first | exact .inl rfl | exact .inr rfl) : IS X Wx (.AugAssign (.Name x pos') op e pos) (sAug i gg me) :=
  PSi (ps_aug (i := i) hN hx hl he ho hf) fun D σ H ⟨ρ, S, ls, hS, hL, h⟩ => by
    unfold sAug at h
    split at h
    · rename_i w ew
      obtain ⟨v, ev, rv⟩ := hL.get ew
      refine ⟨v, ev, ρ, S, ls, hS, hL, (Post.then (R := RW) hL h).imp fun y H1 ⟨ρ1, S1, w1, e1, hS1, r1, h1⟩ => ?_⟩
      refine hi ρ1 S1 H1 w w1 v y (fun c d H' => Wx c d σ H') _ hS1 (rv.ext e1) r1 ((Post.then (R := RW) (hL.ext e1) h1).imp fun z H2 ⟨ρ2, S2, w2, e2, hS2, r2, h2⟩ => ?_)
      exact h2 ρ2 H2 _ .refl hS2 (RL.set r2 _ ((hL.ext e1).ext e2))
    · exact h.elim
theorem oi_ip {f : Int → Int → Int} : OpI X Wx (ipI f) (gInt f) := by
  intro ρ S H w1 w2 x y Ex Q hS r1 r2 h
  unfold gInt at h
  split at h
  · cases r1; cases r2; exact ⟨_, _, rfl, rfl, h.here hS (.int _)⟩
  · exact h.elim
variable {c : Expr} {mc : ME} {r' : R2} {gg gg' : PV → PV → Sto → Out PV} {rr : R2}
end
end GL
set_option Elab.async false
set_option linter.all false
set_option maxRecDepth 100000
set_option maxHeartbeats 1000000
namespace GL
open PySem PySem.Spec PyProof.Rows L2
variable {pw : PgW}
def all2 {α β : Type} (f : α → β → Bool) : List α → List β → Bool
  | [], [] => true
  | a :: r, b :: s => f a b && all2 f r s
  | _, _ => false
def gvB (K : PySem.W.Frag) : Nat → PV → Value → Bool
  | 0, _, _ => false
  | f + 1, w, u => match w, u with
    | .non, .none => true
    | .bl a, .bool b => a == b
    | .int i, .int j _ => decide (j = i)
    | .str l, .str x _ => decide (x.cps.toList = l)
    | .tup ws, .ref a => (match K.lookup a with
      | some ⟨.type c, _, .seq its _, _⟩ => decide (c = "tuple") && (decide (its.size ≤ sizeLine) && all2 (gvB K f) ws its.toList)
      | _ => false)
    | .gl x, .ref a => decide (a = He.ga K (toS x))
    | .ty b, .type n => decide (n = b.name)
    | _, _ => false
theorem gv_all {K : PySem.W.Frag} {g : PV → Value → Bool} (h : ∀ w u, g w u = true → ∃ v, RelV v u ∧ GVal K v w) : ∀ {ws : List PV} {us : List Value}, all2 g ws us = true →
    ∃ vs, Vals vs us ∧ ∀ ρ N H, RWs K ρ N H ws vs
  | [], [], _ => ⟨[], .nil, fun _ _ _ => .nil⟩
  | [], _ :: _, e => by cases e
  | _ :: _, [], e => by cases e
  | w :: ws, u :: us, e => by
    have e2 := Bool.and_eq_true_iff.mp (show (g w u && all2 g ws us) = true from e)
    obtain ⟨v, r, q⟩ := h w u e2.1
    obtain ⟨vs, r2, q2⟩ := gv_all h e2.2
    exact ⟨v :: vs, .cons r r2, fun ρ N H => .cons (q ρ N H) (q2 ρ N H)⟩
theorem gv_ok {K : PySem.W.Frag} : ∀ {f : Nat} {w : PV} {u : Value}, gvB K f w u = true → ∃ v, RelV v u ∧ GVal K v w
  | 0, _, _, h => by cases h
  | f + 1, w, u, h => by
    unfold gvB at h
    split at h
    · exact ⟨.non, rfl, fun _ _ _ => .non⟩
    · have e := eq_of_beq h
      subst e
      exact ⟨.bl _, rfl, fun _ _ _ => .bl _⟩
    · have e := of_decide_eq_true h
      subst e
      exact ⟨.int _, ⟨_, rfl⟩, fun _ _ _ => .int _⟩
    · have e := of_decide_eq_true h
      subst e
      exact ⟨.str _, ⟨_, rfl⟩, fun _ _ _ => .str _⟩
    · split at h
      · rename_i ws a _ c dd its n sl q
        have e := Bool.and_eq_true_iff.mp h
        have e2 := Bool.and_eq_true_iff.mp e.2
        obtain ⟨vs, r, g⟩ := gv_all (K := K) (g := gvB K f) (fun w u => gv_ok) e2.2
        have ec := of_decide_eq_true e.1
        exact ⟨.ref a, rfl, fun ρ N H => .tup (.inr ⟨_, its, n, q, by rw [ec], rfl, of_decide_eq_true e2.1, r⟩) (g ρ N H)⟩
      · cases h
    · have e := of_decide_eq_true h
      subst e
      exact ⟨.ref _, rfl, fun _ _ _ => .gl _⟩
    · have e := of_decide_eq_true h
      subst e
      exact ⟨.ty _, rfl, fun _ _ _ => .ty _⟩
    · cases h
def conV (K : PySem.W.Frag) (x : Str) (w : PV) : Bool := match PySem.W.nsIn K mainGlobals x with
  | some (some u) => gvB K 20 w u
  | _ => false
structure GCon (K : PySem.W.Frag) (mg : Str → Option Value) (x : Str) (w : PV) : Prop where
  ex : ∃ u v, mg x = some u ∧ RelV v u ∧ GVal K v w
theorem conV_ok {K : PySem.W.Frag} {h : Heap} {mg : Str → Option Value} {x : Str} {w : PV} (X : K.In h) (G : h.Ns mainGlobals mg) (c : conV K x w = true) : GCon K mg x w := by
  unfold conV at c
  split at c
  · rename_i u e
    obtain ⟨v, r, g⟩ := gv_ok c
    exact ⟨u, v, PySem.W.mg_of X G e, r, g⟩
  · cases c
def dflV (K : PySem.W.Frag) (f : Str × Option Str) (i : Nat) (w : PV) : Bool := gvB K 20 w (.ref (He.dflAt f i K))
theorem dflV_ok {K : PySem.W.Frag} {f : Str × Option Str} {i : Nat} {w : PV} (c : dflV K f i w = true) : GVal K (.ref (He.dflAt f i K)) w := by
  obtain ⟨v, r, g⟩ := gv_ok c
  have e : v = .ref (He.dflAt f i K) := RelV.inj r (show RelV (.ref (He.dflAt f i K)) (.ref (He.dflAt f i K)) from rfl)
  rw [← e]; exact g
theorem ie_con {X : Cx} {Wx : WX} {pos : Pos} {x : Str} {w : PV} (c : GCon X.K X.mg x w) (hg : Gl X x := by rfl) (hd : (x == ("__debug__" : Str)) = false := by decide) : IE X Wx (.Name x pos) (eC w) := by
  obtain ⟨u, v, a, b, g⟩ := c.ex
  exact ie_glob hg a b g hd
def obsB (fb : PySem.W.Frag → Bool) (fn : List He.DefD) (K : PySem.W.Frag) : He.AlD := (fb K && fn.all fun d => d.ok K, fn.map fun d => He.fnW K d.at_)
def SaysB (fb : PySem.W.Frag → Bool) (fn : List He.DefD) (K : PySem.W.Frag) : Prop := obsB fb fn K = He.valD fn
section
variable {fb : PySem.W.Frag → Bool} {fn : List He.DefD} {K : PySem.W.Frag}
theorem SaysB.facts (c : SaysB fb fn K) : fb K = true := (Bool.and_eq_true_iff.mp (show (fb K && fn.all fun d => d.ok K) = true from congrArg (fun z : He.AlD => z.1) c)).1
theorem SaysB.defs (c : SaysB fb fn K) (i : Nat) {d : He.DefD} (h : fn[i]? = some d := by rfl) : ∃ fd, FunD K d.name d.qual d.params d.body d.scope (d.dvs K) (d.kws K) (He.fAd K d.at_) fd := by
  have c2 := (Bool.and_eq_true_iff.mp (show (fb K && fn.all fun d => d.ok K) = true from congrArg (fun z : He.AlD => z.1) c)).2
  have e : fn.map (fun d => He.fnW K d.at_) = fn.map He.DefD.val := congrArg (fun z : He.AlD => z.2) c
  have e2 : (fn.map fun d => He.fnW K d.at_)[i]? = (fn.map He.DefD.val)[i]? := by rw [e]
  rw [List.getElem?_map, List.getElem?_map, h] at e2
  exact He.DefD.funD (Option.some.inj e2) (List.all_eq_true.mp c2 d (List.mem_of_getElem? h))
end
def allB (fs : List (PySem.W.Frag → Bool)) (K : PySem.W.Frag) : Bool := fs.all fun f => f K
theorem allB_at {fs : List (PySem.W.Frag → Bool)} {K : PySem.W.Frag} (h : allB fs K = true) (i : Nat) {f : PySem.W.Frag → Bool} (e : fs[i]? = some f := by rfl) : f K = true := List.all_eq_true.mp h f (List.mem_of_getElem? e)
theorem RWs.ints {K : PySem.W.Frag} {ρ : Nat → Addr} {N : Nat} {H : Hp} : ∀ ns : List Int, RWs K ρ N H (ns.map PV.int) (ns.map V.int)
  | [] => .nil
  | n :: r => .cons (.int n) (RWs.ints r)
theorem law_sp {K : PySem.W.Frag} {np N : Nat} {mb : MS} (hnp : np = 1) (h : ∀ ns : List Int, ns.length ≤ 63 → ∃ S', fnOf np N mb [.loc 0] [.rol (ns.map .int)] = .ok (.bl true) S') (H : Hp) (a : Addr) (ns : List Int) (hl : ns.length ≤ 63) (hO : Only H) (hS : SqL K H a (ns.map V.int)) :
    spI pw K np (fnOf np N mb) [.ref a] H (fun v _ => v = .bl true) fun _ _ _ => False := by
  subst hnp
  have ro : RoL K H a (ns.map V.int) := by
    rcases hS with (hS | hS) | hS
    · rcases hO a with z | ⟨o, xs, z⟩
      · rw [z] at hS; cases hS
      · rw [z] at hS; cases hS
    · exact .inl hS
    · exact .inr hS
  obtain ⟨S', e⟩ := h ns hl
  refine ⟨fun _ => a, [.rol (ns.map .int)], [.loc 0], ⟨fun n o hn => ?_, fun n m o o' hn hm q _ _ => ?_⟩, .cons (.loc (ρ := fun _ => a) 0 (Nat.lt_succ_self 0)) .nil, rfl, ?_⟩
  · cases n with
    | zero => cases hn; exact ⟨_, ro, RWs.ints ns⟩
    | succ n => simp at hn
  · cases n with
    | zero => cases hn; cases q
    | succ n => simp at hn
  · rw [e]
    exact fun ρ' H' v _ _ r => by cases r; rfl
theorem cx_none {P : Program} {w : World} {H : Hp} {s : Shared} {e : Value} {s' : Shared} (h : L2.CX P w [] H s (fun _ _ _ => False) e s') : False := by
  obtain ⟨_, _, _, _, _, _, _, _, _, _, _, _, z⟩ := h
  exact z
theorem walk_end {l : PySem.W.OpenLaw} {n k : Nat} {q : Program} {loose : List Str} {XP : (Str → Option Value) → Heap → Prop} {YP : World → Heap → Prop} {d : DefRec} {x : Str}
    (hn : l.most = some n) (hz : n ≤ sizeLine) (hdf : d.params.defaults = []) (hr : Room k callerA)
    (F : ∀ (w : World) (mg : Str → Option Value) (fa : Addr) (h : Heap), YP w h → h.Ns mainGlobals mg → mg d.name = some (.ref fa) → ∃ (K : PySem.W.Frag) (fd : FuncData) (sp : Sp),
      K.In h ∧ (∀ (s : Shared) (u : Value), BindsTo s fd ⟨[u], []⟩ [(x, u)]) ∧
      (∀ (H : Hp) (a : Addr) (ns : List Int), ns.length ≤ n → Only H → SqL K H a (ns.map V.int) → sp [.ref a] H (fun v _ => v = .bl true) fun _ _ _ => False) ∧
      ∀ base : Heap, K.In base → base.Ns mainGlobals mg → FnOk l.prog w K mg base (L2.CX l.prog w) k fa fd [x] sp) :
    PySem.W.WalkO q loose XP YP l.row.toRowW d [] (fun f vs => PySem.call f vs) := by
  apply Att.attach_call hn hdf
  intro w s₀ s₁ mg mb fa o pm cd doc a vs ns G Y ho hd hcd hmg hobj hints hlen hg
  obtain ⟨K, fd, sp, KX, hb, hsp, hF⟩ := F w mg fa _ Y G.T.g hmg
  have go := law_call KX G.T.g G.T.b G.T.builtins G.T.nolimit hg hobj hints (Nat.le_trans hlen hz) hr hF hb
  exact go (fun H hO hS => hsp H a ns hlen hO hS) fun H e s' z => cx_none z
end GL
set_option Elab.async false
set_option linter.all false
set_option maxRecDepth 100000
set_option maxHeartbeats 1000000
namespace GL
open PySem PySem.Spec PyProof.Rows L2
end GL
set_option Elab.async false
set_option linter.all false
set_option maxRecDepth 100000
set_option maxHeartbeats 1000000
namespace GL
open PySem PySem.Spec PyProof.Rows L2
structure FnScopeK (N P : List Str) (sc : Scope) : Prop where
  kind : sc.kind = .function
  co : sc.isCoroutine = false
  gen : sc.isGenerator = false
  nd : N.Nodup
  pre : N.take P.length = P
  par : ∀ x ∈ P, sc.names.lookup x = some .local
  nocell : ∀ y ∈ sc.names, y.2 ≠ .cell
  free : ∀ y ∈ sc.names, y.2 = .free → y.1 = "__class__"
abbrev kEnv (qual : Str) (scope : Scope) (L f : Addr) (cd : Value) (cc : Addr) : Env := PySem.W.ksEnv qual scope L f cd cc
def cxK (CX : CXT) (P : Program) (w : World) (K : PySem.W.Frag) (mg : Str → Option Value) (base : Heap) (N : List Str) (qual : Str) (scope : Scope) (f : Addr) (cd : Value) (cc : Addr) (A : Around) (outer : List Env) (s : Shared) (H : Hp) (E : XK) : Cx where
  prog := P
  w := w
  K := K
  mg := mg
  base := base
  A := A.deeper (kEnv qual scope s.heap.objs.size f cd cc)
  N := N
  s_0 := s
  H_0 := H
  env := kEnv qual scope s.heap.objs.size f cd cc
  outer := outer
  stack := kEnv qual scope s.heap.objs.size f cd cc :: outer
  ex := []
  calm := true
  fn := fun _ => false
  pn := []
  xe := fun e s' => wpAny (model P w) (A.deeper (kEnv qual scope s.heap.objs.size f cd cc)) (leaving (kEnv qual scope s.heap.objs.size f cd cc) e) (fun _ s'' => CX outer H s E e s'') (fun e' s'' => CX outer H s E e' s'') s'
theorem zip_get {x : Str} {v : Value} : ∀ {P : List Str} {vs : List Value} {i : Nat}, P.Nodup → P[i]? = some x → vs[i]? = some v → (P.zip vs).lookup x = some v
  | [], _, _, _, h, _ => by simp at h
  | _ :: _, [], _, _, _, h => by simp at h
  | p :: P, w :: vs, 0, nd, h1, h2 => by
    simp at h1 h2; subst h1; subst h2
    show List.lookup p ((p, w) :: P.zip vs) = _
    simp [List.lookup]
  | p :: P, w :: vs, i + 1, nd, h1, h2 => by
    have hm : x ∈ P := List.mem_of_getElem? (show P[i]? = some x by simpa using h1)
    have ne : ¬ x = p := fun e => (List.nodup_cons.mp nd).1 (e ▸ hm)
    have e : (x == p) = false := by simpa using ne
    show List.lookup x ((p, w) :: P.zip vs) = _
    rw [List.lookup_cons, e]
    exact zip_get (i := i) (List.nodup_cons.mp nd).2 (by simpa using h1) (by simpa using h2)
theorem inv_startK {CX : CXT} {P : Program} {w : World} {K : PySem.W.Frag} {mg : Str → Option Value} {base : Heap} {N ps : List Str} {qual : Str} {scope : Scope} {f cc D : Addr} {cd ccl : Value} {cld : Option Addr} {csl : Array (Option Value)} {A : Around} {outer : List Env} {s : Shared} {h1 : Heap} {tk : Nat} {H : Hp} {E : XK} {us : List Value} {vs : List V}
    (S : FnScopeK N ps scope) (kc : K.lookup cc = some ⟨ccl, cld, .cell (some (.ref D)), csl⟩) (hd : A.handled = none) (e0 : Env0 P w K mg base A outer s H) (hl : vs.length = ps.length) (r : Vals vs us)
    (hns : h1.Ns s.heap.objs.size (fun x => (ps.zip us).reverse.lookup x)) (hk : ∀ b o, s.heap.get? b = some o → h1.get? b = some o) :
    Inv (cxK CX P w K mg base N qual scope f cd cc A outer s H E) [] (L2.start N vs) H { s with heap := h1, toks := tk } := by
  have hpl : ps.length ≤ N.length := by have := congrArg List.length S.pre; rw [List.length_take] at this; omega
  have hcb := e0.mod.kin _ _ kc
  have noA : ∀ b : Addr, b ∉ (cxK CX P w K mg base N qual scope f cd cc A outer s H E).ex := fun b z => absurd (show b ∈ ([] : List Addr) from z) (by simp)
  have one : ∀ {x : Str} {c : Addr}, ([("__class__", cc)] : List (Str × Addr)).lookup x = some c → x = "__class__" ∧ c = cc := by
    intro x c h
    rw [List.lookup_cons] at h
    split at h
    · rename_i e
      exact ⟨by simpa using e, (Option.some.inj h).symm⟩
    · cases h
  have key : ∀ {y : Str}, (kEnv qual scope s.heap.objs.size f cd cc).kindOf y = some .cell ∨ (kEnv qual scope s.heap.objs.size f cd cc).kindOf y = some .free → y = "__class__" := by
    intro y hy
    have hy : scope.names.lookup y = some .cell ∨ scope.names.lookup y = some .free := hy
    rcases hy with hy | hy
    · exact absurd rfl (S.nocell _ (PySem.mem_of_lookup hy))
    · exact S.free _ (PySem.mem_of_lookup hy) rfl
  refine ⟨⟨e0.mod, S.kind, rfl, rfl, Nat.le_refl _, fun y z c h1 h2 => ?_, fun y hy => ?_, fun y c h => absurd (show false = true from h) (by decide), fun _ => hd, Around.frames_deeper e0.frames, .inr ⟨rfl, rfl⟩, fun b z => absurd z (noA b), e0.bs, e0.bsz, fun b _ _ => noA b, fun b z => absurd z (noA b), e0.funs, e0.frf⟩,
    rfl, e0.bare, Un.kept hk, ⟨_, hns, fun i y v h1 h2 h3 => ?_⟩, fun y c h => ?_, e0.hok.fresh (Nat.le_refl _), fun y c h => ?_, fun p hp => absurd (show p ∈ ([] : List (Addr × Obj)) from hp) (by simp), e0.hok.kept hk, ?_⟩
  · rw [(one h1).1, (one h2).1]
  · rw [key hy]; exact ⟨cc, rfl⟩
  · have hi : i < vs.length := by
      unfold L2.start at h2
      by_cases hi : i < vs.length
      · exact hi
      · rw [List.getElem?_append_right (by simpa using hi)] at h2
        rw [List.getElem?_replicate] at h2
        split at h2 <;> cases h2
    have ha : vs[i]? = some v := by
      unfold L2.start at h2
      rw [List.getElem?_append_left (by simpa using hi), List.getElem?_map] at h2
      cases e : vs[i]? with
      | none => rw [e] at h2; cases h2
      | some a => rw [e] at h2; cases h2; rfl
    obtain ⟨u, hu, rv⟩ := r.get ha
    have hp : ps[i]? = some y := by
      rw [← S.pre, List.getElem?_take_of_lt (by omega)]; exact h1
    have ndP : ps.Nodup := by rw [← S.pre]; exact S.nd.sublist (List.take_sublist _ _)
    refine ⟨u, rv, .inl ⟨S.par y (List.mem_of_getElem? hp), ?_⟩⟩
    show (ps.zip us).reverse.lookup y = some u
    rw [lookup_reverse_of_nodup _ (by rw [List.map_fst_zip (by rw [← r.length, hl]; exact Nat.le_refl _)]; exact ndP)]
    exact zip_get ndP hp hu
  · rw [(one h).2]
    exact ⟨_, _, hk _ _ (e0.bs _ _ hcb).1, rfl⟩
  · rw [(one h).2]
    exact (e0.bs _ _ hcb).2
  · unfold L2.start
    show _ = N.length
    rw [List.length_append, List.length_map, List.length_replicate]
    omega
end GL
set_option Elab.async false
set_option linter.all false
set_option maxRecDepth 100000
set_option maxHeartbeats 2000000
namespace GL
open PySem PySem.Spec PyProof.Rows L2
end GL
set_option Elab.async false
set_option linter.all false
set_option maxRecDepth 100000
set_option maxHeartbeats 2000000
namespace GL
open PySem PySem.Spec PyProof.Rows L2
end GL
set_option Elab.async false
set_option linter.all false
set_option maxRecDepth 100000
set_option maxHeartbeats 2000000
namespace GL
open PySem PySem.Spec PyProof.Rows L2
end GL
set_option Elab.async false
set_option linter.all false
set_option maxRecDepth 100000
set_option maxHeartbeats 2000000
namespace GL
open PySem PySem.Spec PyProof.Rows L2
end GL
set_option Elab.async false
set_option linter.all false
set_option maxRecDepth 100000
set_option maxHeartbeats 2000000
namespace GL
open PySem PySem.Spec PySem.Calls PyProof.Rows L2
theorem ClsV.rel {v : V} {u : Value} (c : ClsV v u) : RelV v u := by cases c <;> rfl
end GL
set_option Elab.async false
set_option linter.all false
set_option maxRecDepth 100000
set_option maxHeartbeats 1000000
namespace GL
open PySem PySem.Spec PyProof.Rows L2
abbrev AlK : Type := He.AlD × List (Option (List (Option (Str × Int))))
def obsK (fb : PySem.W.Frag → Bool) (fn : List He.DefD) (ts : List He.Tab) (K : PySem.W.Frag) : AlK := (obsB fb fn K, ts.map fun t => He.dicW K (t.1 K))
def valK (fn : List He.DefD) (ts : List He.Tab) (w : World) : AlK := (He.valD fn, ts.map fun t => some (He.keysIn w.params t.2))
def SaysK (fb : PySem.W.Frag → Bool) (fn : List He.DefD) (ts : List He.Tab) (w : World) (K : PySem.W.Frag) : Prop := obsK fb fn ts K = valK fn ts w
section
variable {fb : PySem.W.Frag → Bool} {fn : List He.DefD} {ts : List He.Tab} {w : World} {K : PySem.W.Frag}
theorem SaysK.d (c : SaysK fb fn ts w K) : SaysB fb fn K := congrArg (fun z : AlK => z.1) c
end
end GL
set_option Elab.async false
set_option linter.all false
set_option maxRecDepth 100000
set_option maxHeartbeats 2000000
namespace GL
open PySem PySem.Spec PyProof.Rows L2
structure XnF (P : Program) (K : PySem.W.Frag) (fI cc : Addr) (x qual : Str) (params : Arguments) (body : List Stmt) (scope : Scope) (fd : FuncData) : Prop where
  ex : ∃ oc od kV doc pm an cda ct osl, fd = PySem.W.ksFn x qual params body scope .none kV doc pm an (.ref cda) ct cc ∧ K.lookup fI = some ⟨oc, od, .func fd, osl⟩ ∧ PySem.W.codeIn K (.ref cda) qual = true ∧
    ∃ ccl cdd ccs vs file tf, K.lookup cda = some ⟨ccl, cdd, .fields vs, ccs⟩ ∧ vs[2]? = some (.str file tf) ∧ ((P.main.file : Str) == file) = true
end GL
set_option Elab.async false
set_option linter.all false
set_option maxRecDepth 100000
set_option maxHeartbeats 2000000
namespace GL
open PySem PySem.Spec PyProof.Rows L2
def ccAt (p : Str × Option Str) (K : PySem.W.Frag) : Addr := match K.lookup (He.fAd K p) with
  | some ⟨_, _, .func fd, _⟩ => (match fd.closure with
    | (_, c) :: _ => c
    | _ => 0)
  | _ => 0
abbrev XnW : Type := Option (Str × Str × Arguments × FuncBody × Scope × Addr × List Str × Addr)
def xnW (K : PySem.W.Frag) (p : Str × Option Str) : XnW := match K.lookup (He.fAd K p) with
  | some ⟨_, _, .func fd, _⟩ => some (fd.name, fd.qualname, fd.params, fd.body, fd.scope, fd.globals, fd.closure.map (·.1), fd.builtins)
  | _ => none
def xnV (d : He.DefD) : XnW := some (d.name, d.qual, d.params, .stmts d.body, d.scope, mainGlobals, ["__class__"], builtinsNs)
def xnFB (file : Str) (d : He.DefD) (K : PySem.W.Frag) : Bool := match K.lookup (He.fAd K d.at_) with
  | some ⟨_, _, .func fd, _⟩ => (match fd.code, fd.defaults with
    | .ref cda, .none => PySem.W.codeIn K (.ref cda) d.qual && (match K.lookup cda with
      | some ⟨_, _, .fields vs, _⟩ => (match (vs[2]? : Option Value) with
        | some (.str fl _) => file == fl
        | _ => false)
      | _ => false)
    | _, _ => false)
  | _ => false
theorem xnF_ok {P : Program} {K : PySem.W.Frag} {d : He.DefD} (e : xnW K d.at_ = xnV d) (c : xnFB P.main.file d K = true) : ∃ fd, XnF P K (He.fAd K d.at_) (ccAt d.at_ K) d.name d.qual d.params d.body d.scope fd := by
  unfold xnFB at c
  unfold xnW at e
  unfold ccAt
  cases q : K.lookup (He.fAd K d.at_) with
  | none => rw [q] at c; cases c
  | some o =>
    obtain ⟨oc, od, dt, osl⟩ := o
    rw [q] at c e
    cases dt with
    | func fd =>
      obtain ⟨n1, n2, n3, n4, n5, n6, n7, n8, n9, n10, n11, n12, n13, n14, n15⟩ := fd
      have e2 : (some (n1, n2, n3, n4, n5, n6, n7.map (fun p => p.1), n15) : XnW) = (some (d.name, d.qual, d.params, FuncBody.stmts d.body, d.scope, mainGlobals, ["__class__"], builtinsNs) : XnW) := e
      simp only [Option.some.injEq, Prod.mk.injEq] at e2
      obtain ⟨h1, h2, h3, h4, h5, h6, h7, h8⟩ := e2
      subst h1 h2 h3 h4 h5 h6 h8
      dsimp only at c
      match n7, h7 with
      | [(a, cc)], h7 =>
        have ha : a = "__class__" := by simpa using h7
        subst ha
        split at c
        · rename_i cda
          obtain ⟨c1, c2⟩ := Bool.and_eq_true_iff.mp c
          split at c2
          · rename_i z1 z2 vs z3 hl
            split at c2
            · rename_i fl tf hv
              exact ⟨_, ⟨oc, od, n9, n10, n11, n12, cda, n14, osl, rfl, q, c1, z1, z2, z3, vs, fl, tf, hl, hv, c2⟩⟩
            · cases c2
          · cases c2
        · cases c
    | _ => cases c
def cellB (K : PySem.W.Frag) (cc C : Addr) : Bool := match K.lookup cc with
  | some ⟨_, _, .cell (some (.ref D)), _⟩ => decide (D = C)
  | _ => false
structure Caught (K : PySem.W.Frag) (x : Str) (fs : List Str) : Prop where
  exc : ExcC K (He.ga K x)
  xf : XfC K (He.ga K x)
  na : ∀ f ∈ fs, PySem.W.findIn K (.ref (He.ga K x)) f = some none
abbrev AlX : Type := AlK × List XnW
def obsX (fb : PySem.W.Frag → Bool) (fn : List He.DefD) (ts : List He.Tab) (xs : List He.DefD) (K : PySem.W.Frag) : AlX := (obsK fb fn ts K, xs.map fun d => xnW K d.at_)
def valX (fn : List He.DefD) (ts : List He.Tab) (xs : List He.DefD) (w : World) : AlX := (valK fn ts w, xs.map xnV)
def SaysX (fb : PySem.W.Frag → Bool) (fn : List He.DefD) (ts : List He.Tab) (xs : List He.DefD) (w : World) (K : PySem.W.Frag) : Prop := obsX fb fn ts xs K = valX fn ts xs w
section
variable {fb : PySem.W.Frag → Bool} {fn : List He.DefD} {ts : List He.Tab} {xs : List He.DefD} {w : World} {K : PySem.W.Frag}
theorem SaysX.k (c : SaysX fb fn ts xs w K) : SaysK fb fn ts w K := congrArg (fun z : AlX => z.1) c
theorem SaysX.d (c : SaysX fb fn ts xs w K) : SaysB fb fn K := c.k.d
theorem SaysX.xn (c : SaysX fb fn ts xs w K) (i : Nat) {d : He.DefD} (h : xs[i]? = some d := by rfl) : xnW K d.at_ = xnV d := by
  have e : xs.map (fun d => xnW K d.at_) = xs.map xnV := congrArg (fun z : AlX => z.2) c
  have e2 : (xs.map fun d => xnW K d.at_)[i]? = (xs.map xnV)[i]? := by rw [e]
  rw [List.getElem?_map, List.getElem?_map, h] at e2
  exact Option.some.inj e2
end
end GL
set_option Elab.async false
set_option linter.all false
set_option maxRecDepth 100000
set_option maxHeartbeats 1000000
namespace GL
open PySem PySem.Spec PyProof.Rows L2
def strI (i : Int) : List Nat := (Str.ofString (toString i)).cps.toList
def eFmt (m : ME) : ME := fun ls S => (m ls S).bind fun w S1 => match w with
  | .str s => if s.length ≤ lim then .ok (.str s) S1 else .bad
  | .int i => if i.natAbs.log2 < 1920 then .ok (.str (strI i)) S1 else .bad
  | _ => .bad
def fJs : List ME → List Nat → ME
  | [], acc, _, S => .ok (.str acc) S
  | m :: r, acc, ls, S => (m ls S).bind fun w S1 => match w with
    | .str y => if acc.length + y.length ≤ lim then fJs r (acc ++ y) ls S1 else .bad
    | _ => .bad
section
variable {X : Cx} {Wx : WX} {pos : Pos} {e : Expr} {m : ME}
theorem ie_fmt (he : IE X Wx e m) : IE X Wx (.FormattedValue e (-1) none pos) (eFmt m) :=
  PEi (pe_fmt he) fun σ H Q ⟨ρ, S, ls, hS, hL, h⟩ => ⟨ρ, S, ls, hS, hL, (Post.bind (R := RW) h).imp fun x H1 ⟨ρ1, S1, w1, e1, hS1, r1, h1⟩ => by
    split at h1
    · split at h1
      · rename_i hz
        cases r1 with
        | str z =>
          rw [str_len] at hz
          exact .inl ⟨z, rfl, lim_sz hz, h1.here hS1 (.str z)⟩
      · exact h1.elim
    · split at h1
      · rename_i hz
        cases r1
        exact .inr ⟨_, rfl, hz, h1.here hS1 (.str (Str.ofString (toString _)))⟩
      · exact h1.elim
    · exact h1.elim⟩
inductive IJ (X : Cx) (Wx : WX) : List Expr → List ME → Prop where
  | nil : IJ X Wx [] []
  | cons {e : Expr} {m : ME} {es : List Expr} {ms : List ME} (h : IE X Wx e m) (r : IJ X Wx es ms) : IJ X Wx (e :: es) (m :: ms)
theorem IJ.pj {es : List Expr} {ms : List ME} (h : IJ X Wx es ms) : PJ X es (ms.map (tE (pwX X) X.K Wx)) := by
  induction h with
  | nil => exact .nil
  | cons a b ih => exact .cons a ih
theorem js_in {σ : L2.St} : ∀ {ms : List ME} {z : Str} {H : Hp} {Q : VK}, tE (pwX X) X.K Wx (fJs ms z.cps.toList) σ H Q → tJs (ms.map (tE (pwX X) X.K Wx)) z σ H fun out H1 => Q (.str out) H1
  | [], z, H, Q, ⟨ρ, S, ls, hS, hL, h⟩ => by
    unfold fJs at h
    exact h.here hS (.str z)
  | m :: r, z, H, Q, ⟨ρ, S, ls, hS, hL, h⟩ => by
    unfold fJs at h
    show tE (pwX X) X.K Wx m σ H _
    refine ⟨ρ, S, ls, hS, hL, (Post.bind (R := RW) h).imp fun x H1 ⟨ρ1, S1, w1, e1, hS1, r1, h1⟩ => ?_⟩
    split at h1
    · split at h1
      · rename_i hz
        cases r1 with
        | str y =>
          have el : (z ++ y).cps.toList = z.cps.toList ++ y.cps.toList := by
            show (z.cps ++ y.cps).toList = _
            simp
          refine ⟨y, rfl, ?_, js_in ⟨ρ1, S1, ls, hS1, hL.ext e1, by rw [el]; exact h1⟩⟩
          refine lim_sz ?_
          rw [str_len, str_len] at hz
          show (z.cps ++ y.cps).size ≤ lim
          rw [Array.size_append]
          exact hz
      · exact h1.elim
    · exact h1.elim
theorem ie_fs {v1 v2 : Expr} {rest : List Expr} {ms : List ME} (h : IJ X Wx (v1 :: v2 :: rest) ms) : IE X Wx (.JoinedStr (v1 :: v2 :: rest) pos) (fJs ms []) :=
  PEi (pe_joined h.pj) fun σ H Q q => js_in (z := Str.empty) q
end
end GL
set_option Elab.async false
set_option linter.all false
set_option maxRecDepth 100000
set_option maxHeartbeats 1000000
namespace GL
open PySem PySem.Spec PyProof.Rows L2
section
variable {X : Cx} {Wx : L2.WX} {a b e : Expr} {ma mb me : ME} {rest : List Expr} {pos : Pos}
def fStr : MF := fun ws S => match ws with
  | [.int i] => if i.natAbs.log2 < 1920 then .ok (.str (strI i)) S else .bad
  | [.str s] => .ok (.str s) S
  | _ => .bad
theorem cr_str : CallR X (.type "str") (fun xs H Q => (∃ i, xs = [.int i] ∧ i.natAbs.log2 < 1920 ∧ Q (.str (toString i)) H) ∨ ∃ a, xs = [.str a] ∧ Q (.str a) H) := by
  intro pins s σ H xs us Q I r h
  rcases h with h | h
  · exact call_str_int pins s σ H xs us Q I r h
  · exact SkE.call_str_str pins s σ H xs us Q I r h
theorem ci_str : CallI X (fun xs H Q => (∃ i, xs = [.int i] ∧ i.natAbs.log2 < 1920 ∧ Q (.str (toString i)) H) ∨ ∃ a, xs = [.str a] ∧ Q (.str a) H) fStr := by
  intro ρ S H ws vs Ex Q hS r h
  unfold fStr at h
  split at h
  · split at h
    · rename_i hz
      cases r with | cons r t => cases t; cases r; exact .inl ⟨_, rfl, hz, h.here hS (.str (Str.ofString (toString _)))⟩
    · exact h.elim
  · cases r with | cons r t => cases t; cases r; exact .inr ⟨_, rfl, h.here hS (.str _)⟩
  · exact h.elim
end
end GL
set_option Elab.async false
set_option linter.all false
set_option maxRecDepth 100000
set_option maxHeartbeats 2000000
namespace GL
open PySem PySem.Spec PyProof.Rows L2
end GL
set_option Elab.async false
set_option linter.all false
set_option maxRecDepth 100000
set_option maxHeartbeats 2000000
namespace GL
open PySem PySem.Spec PyProof.Rows L2
variable {pw : PgW}
def keqP : PV → PV → Bool
  | .int i, .int j => decide (i = j)
  | .str a, .str b => decide (a = b)
  | _, _ => false
def setP (k w : PV) : List (PV × PV) → List (PV × PV)
  | [] => []
  | (a, v) :: r => (if keqP a k = true then (a, w) else (a, v)) :: setP k w r
section
variable {K : PySem.W.Frag} {ρ : Nat → Addr} {N : Nat} {H : Hp} {k w : PV} {kk : Key} {v : V}
theorem RKs.app : ∀ {a b : List (PV × PV)} {x y : List (Key × V)}, RKs K ρ N H a x → RKs K ρ N H b y → RKs K ρ N H (a ++ b) (x ++ y)
  | _, _, _, _, .nil, s => s
  | _, _, _, _, .cons rk r t, s => .cons rk r (RKs.app t s)
theorem RKs.length : ∀ {a : List (PV × PV)} {x : List (Key × V)}, RKs K ρ N H a x → a.length = x.length
  | _, _, .nil => rfl
  | _, _, .cons _ _ t => by simp [RKs.length t]
end
inductive RPs (K : PySem.W.Frag) (ρ : Nat → Addr) (N : Nat) (H : Hp) : List (PV × PV) → List (V × V) → Prop
  | nil : RPs K ρ N H [] []
  | cons {a b : PV} {x y : V} {r : List (PV × PV)} {s : List (V × V)} : RW K ρ N H a x → RW K ρ N H b y → RPs K ρ N H r s → RPs K ρ N H ((a, b) :: r) ((x, y) :: s)
theorem RPs.ext {K : PySem.W.Frag} {ρ ρ' : Nat → Addr} {N N' : Nat} {H H' : Hp} (e : Ext K ρ N H ρ' N' H') : ∀ {a : List (PV × PV)} {b : List (V × V)}, RPs K ρ N H a b → RPs K ρ' N' H' a b
  | _, _, .nil => .nil
  | _, _, .cons r1 r2 t => .cons (r1.ext e) (r2.ext e) (RPs.ext e t)
end GL
set_option Elab.async false
set_option linter.all false
set_option maxRecDepth 100000
set_option maxHeartbeats 2000000
namespace GL
open PySem PySem.Spec PyProof.Rows L2
end GL
set_option Elab.async false
set_option linter.all false
set_option maxRecDepth 100000
set_option maxHeartbeats 1000000
namespace GL
open PySem PySem.Spec PyProof.Rows L2
end GL
set_option Elab.async false
set_option linter.all false
set_option maxRecDepth 100000
set_option maxHeartbeats 1000000
namespace GL
open PySem PySem.Spec PyProof.Rows L2
end GL
set_option Elab.async false
set_option linter.all false
set_option maxRecDepth 100000
set_option maxHeartbeats 1000000
namespace L2
open PySem PySem.Spec PyProof.Rows
variable {X : Cx} {pos : Pos}
def gFld (K : PySem.W.Frag) (to : TE) (f : Str) : TG := fun v σ H Q => to σ H fun x H1 => ∃ a C dx fs, x = .ref a ∧ H1 a = some (.ins C dx fs) ∧ Cls K C ∧ NoAttr K C f ∧ fs.length < 1000 ∧ Q σ (upd H1 a (.ins C dx (putF f v fs)))
end L2
namespace GL
open PySem PySem.Spec PyProof.Rows L2
end GL
set_option Elab.async false
set_option linter.all false
set_option maxRecDepth 100000
set_option maxHeartbeats 1000000
namespace GL
open PySem PySem.Spec PyProof.Rows L2
end GL
set_option Elab.async false
set_option linter.all false
set_option maxRecDepth 100000
set_option maxHeartbeats 2000000
namespace GL
open PySem PySem.Spec PyProof.Rows L2
abbrev WA {α : Type} (M : Model) (A : Around) (c : Code) (t : Sem α) (Q : α → Shared → Prop) (E : Value → Shared → Prop) (s : Shared) : Prop := _root_.PySem.wpAt M A c t Q E s
def NoCs (M : Model) (A : Around) (c : Code) : Prop := ∀ (Q : List Env → Shared → Prop) (E : Value → Shared → Prop) (s : Shared), Q [] s → WA M A c comprehensionsAround Q E s
theorem nocs_func {M : Model} {A : Around} {body : List Stmt} {env : Env} : NoCs M A (.func body env) := fun Q E s h => ks_wpAt_noComps h
theorem nocs_for {M : Model} {A : Around} {tg : Expr} {it : Value} {body orelse : List Stmt} {env' : Env} : NoCs M A (.forLoop tg it body orelse env') := by
  intro Q E s h
  unfold comprehensionsAround callersCodes
  refine PySem.wpAt_bind (PySem.wpAt_bind (PySem.wpAt_stack fun p below => ?_))
  try dsimp only
  split
  · rename_i hc
    exact absurd (show (some env'.frame != some env'.frame) = true from hc) (by simp)
  · first
      | refine PySem.wpAt_of_wpAny (wpAny_pure (PySem.wpAt_of_wpAny (wpAny_pure ?_)))
      | refine PySem.wpAt_bind (PySem.wpAt_of_wpAny (wpAny_pure (PySem.wpAt_of_wpAny (wpAny_pure (PySem.wpAt_of_wpAny (wpAny_pure ?_))))))
    have e : pastTheWaiting ((.forLoop tg it body orelse env', p) :: below) = (.forLoop tg it body orelse env', p) :: pastTheWaiting.go false (some (.forLoop tg it body orelse env')) below := rfl
    rw [e]
    exact h
section
variable {prog : Program} {w : World} {A : Around} {E : Value → Shared → Prop} {s : Shared} {env : Env} {c : Code}
theorem super_baseC {p0 p1 : Pos} {attr : Str} {whole : Sem Value} {f cc : Addr} {of oc : Obj} {fd : FuncData} {ar : Arg} {vs : Array Value} {file : Str} {tf : Tok} {Q : Value → Shared → Prop} (nc : NoCs (model prog w) A c)
    (hks : env.kindOf "super" = some .globalImplicit) (hkc : env.kindOf "__class__" = some .free) (hat : (attr == ("__class__" : Str)) = false) (hfu : env.func = some f) (hf : s.heap.get? f = some of) (hfd : of.data = .func fd)
    (hp : (fd.params.posonlyargs ++ fd.params.args).head? = some ar) (hco : env.code = .ref cc) (hcc : s.heap.get? cc = some oc) (hoc : oc.data = .fields vs) (hvs : vs[2]? = some (.str file tf))
    (hfile : ((prog.main.file : Str) == file) = true) (htop : (prog.main.scope.names.lookup ("super" : Str)).isSome = false)
    (h : wpAny (model prog w) A (loadName env "super") (fun g s₁ => g = .type "super" ∧ wpAny (model prog w) A (loadName env "__class__") (fun cls s₂ => wpAny (model prog w) A (loadName env ar.arg) (fun self s₃ =>
      wpAny (model prog w) A (isType cls) (fun b s₄ => b = true ∧ wpAny (model prog w) A (call (.type "super") [cls, self]) Q E s₄) E s₃) E s₂) E s₁) E s) :
    WA (model prog w) A c (attributeBase (.Call (.Name "super" p0) [] [] p1) attr env whole) Q E s := by
  unfold attributeBase
  simp only [bne_self_eq_false, hat, hks, hkc, hfu, hco, Bool.or_false, Bool.or_self, Bool.false_eq_true, if_false, Option.isSome_some, if_true, pure_bind]
  unfold funcData
  refine PySem.wpAt_bind (PySem.wpAt_of_wpAny (wpAny_bind (wpAny_load hf ?_)))
  rw [hfd]
  refine wpAny_pure ?_
  simp only [hp]
  refine PySem.wpAt_bind (PySem.wpAt_of_wpAny (wpAny_askSetting ?_))
  refine PySem.wpAt_bind (PySem.wpAt_of_wpAny (wpAny_field hcc hoc hvs ?_))
  have hfile' : ((model prog w).prog.main.file == file) = true := hfile
  have htop' : (List.lookup (Str.ofString "super") (model prog w).prog.main.scope.names).isSome = false := htop
  simp only [hfile', htop', if_true, Bool.false_eq_true, if_false]
  refine PySem.wpAt_bind (PySem.wpAt_of_wpAny (wpAny_rule ?_))
  refine PySem.wpAt_bind (PySem.wpAt_of_wpAny (wpAny_standAt ?_))
  refine PySem.wpAt_bind (PySem.wpAt_of_wpAny (wpAny_mono h (fun g s₁ h₁ => ?_) fun _ _ z => z))
  obtain ⟨rfl, h₁⟩ := h₁
  refine PySem.wpAt_bind (PySem.wpAt_of_wpAny (wpAny_mono h₁ (fun cls s₂ h₂ => ?_) fun _ _ z => z))
  refine PySem.wpAt_bind (nc _ _ _ ?_)
  show WA _ _ _ (loadName env ar.arg >>= _) _ _ _
  refine PySem.wpAt_bind (PySem.wpAt_of_wpAny (wpAny_mono h₂ (fun self s₃ h₃ => ?_) fun _ _ z => z))
  refine PySem.wpAt_bind (PySem.wpAt_of_wpAny (wpAny_mono h₃ (fun b s₄ h₄ => ?_) fun _ _ z => z))
  obtain ⟨rfl, h₄⟩ := h₄
  exact PySem.wpAt_of_wpAny h₄
end
def PEC (X : Cx) (c : Code) (e : Expr) (t : TE) : Prop :=
  ∀ (pins : List (Addr × Obj)) (s : Shared) (σ : L2.St) (H : Hp) (Q : VK), Inv X pins σ H s → t σ H Q → WA (model X.prog X.w) X.A c (eval e X.env) (EP X pins σ Q) X.xe s
def PTC (X : Cx) (c : Code) (e : Expr) (t : TT) : Prop :=
  ∀ (pins : List (Addr × Obj)) (s : Shared) (σ : L2.St) (H : Hp) (Q : Bool → Hp → Prop), Inv X pins σ H s → t σ H Q → WA (model X.prog X.w) X.A c (isTrue e X.env (eval e X.env)) (TP X pins σ Q) X.xe s
def PSC (X : Cx) (c : Code) (st : Stmt) (t : TS) : Prop :=
  ∀ (pins : List (Addr × Obj)) (s : Shared) (σ : L2.St) (H : Hp) (D : Ends), Inv X pins σ H s → t D σ H → WA (model X.prog X.w) X.A c (exec st X.env) (SP X pins D) X.xe s
def PSsC (X : Cx) (c : Code) (sts : List Stmt) (t : TS) : Prop :=
  ∀ (pins : List (Addr × Obj)) (s : Shared) (σ : L2.St) (H : Hp) (D : Ends), Inv X pins σ H s → t D σ H → WA (model X.prog X.w) X.A c (execs sts X.env) (SP X pins D) X.xe s
def PIC (X : Cx) (c : Code) (tg iter : Expr) (wi : TI) : Prop :=
  ∀ (pins : List (Addr × Obj)) (s : Shared) (σ : L2.St) (H : Hp) (R : It → Hp → Prop), Inv X pins σ H s → wi σ H R →
    WA (model X.prog X.w) X.A c (eval iter X.env) (fun v s1 => wpAny (model X.prog X.w) X.A (pyIter v) (PIE X pins σ tg R) X.xe s1) X.xe s
section
variable {X : Cx} {c : Code} {e : Expr} {st : Stmt} {rest sts : List Stmt} {t u : TS}
theorem thA {α : Type} {t : Sem α} {Q Q' : α → Shared → Prop} {M : Model} {A : Around} {E : Value → Shared → Prop} {s : Shared} (h : WA M A c t Q E s) (hQ : ∀ a s, Q a s → Q' a s) : WA M A c t Q' E s := ks_wpAt_mono h hQ fun _ _ x => x
theorem PECi {t t' : TE} (h : PEC X c e t) (i : ∀ σ H Q, t' σ H Q → t σ H Q) : PEC X c e t' := fun pins s σ H Q I hw => h pins s σ H Q I (i _ _ _ hw)
theorem PTCi {t t' : TT} (h : PTC X c e t) (i : ∀ σ H Q, t' σ H Q → t σ H Q) : PTC X c e t' := fun pins s σ H Q I hw => h pins s σ H Q I (i _ _ _ hw)
theorem PSCi {t t' : TS} (h : PSC X c st t) (i : ∀ D σ H, t' D σ H → t D σ H) : PSC X c st t' := fun pins s σ H D I hw => h pins s σ H D I (i _ _ _ hw)
theorem PSsCi {t t' : TS} (h : PSsC X c sts t) (i : ∀ D σ H, t' D σ H → t D σ H) : PSsC X c sts t' := fun pins s σ H D I hw => h pins s σ H D I (i _ _ _ hw)
theorem PICi {tg : Expr} {t t' : TI} (h : PIC X c tg e t) (i : ∀ σ H R, t' σ H R → t σ H R) : PIC X c tg e t' := fun pins s σ H R I hw => h pins s σ H R I (i _ _ _ hw)
theorem psc_of (h : PS X st t) : PSC X c st t := fun pins s σ H D I hw => PySem.wpAt_of_wpAny (h.run pins s σ H D I hw)
theorem pssc_cons (h1 : PSC X c st t) (h2 : PSsC X c rest u) : PSsC X c (st :: rest) (tSeq t u) := by
  intro pins s σ H D I h
  refine ks_wpAt_execs_cons (thA (h1 pins s σ H { D with nx := u D } I h) fun f s1 q => ?_)
  cases f with
  | next =>
    obtain ⟨σ', H', I', q⟩ := q
    exact h2 pins s1 σ' H' D I' q
  | ret v => exact q
  | brk => exact q
  | cont => exact q
theorem pssc_one (h1 : PSC X c st t) : PSsC X c [st] t := by
  intro pins s σ H D I h
  refine ks_wpAt_execs_cons (thA (h1 pins s σ H D I h) fun f s1 q => ?_)
  cases f with
  | next => exact PySem.wpAt_of_wpAny (wpAny_execs_nil q)
  | ret v => exact q
  | brk => exact q
  | cont => exact q
theorem psc_expr {te : TE} {pos : Pos} (he : PEC X c e te) (hs : swapsWith e none pos.line X.env = pure false := by rfl) : PSC X c (.Expr e pos) (tDrop te) := by
  intro pins s σ H D I h
  exact ks_wpAt_Expr_any (thA (he pins s σ H _ I h) fun v s1 ⟨x, H1, I1, r1, q1⟩ => ⟨σ, H1, I1, q1⟩) I.quiet hs
theorem psc_if {a b : List Stmt} {tc : TT} {pos : Pos} (hc : PTC X c e tc) (ha : PSsC X c a t) (hb : PSsC X c b u) : PSC X c (.If e a b pos) (tIfS tc t u) := by
  intro pins s σ H D I h
  refine ks_wpAt_If (thA (hc pins s σ H _ I h) fun d s1 ⟨H1, I1, q1⟩ => ?_)
  cases d with
  | true => exact ha pins s1 σ H1 D I1 q1
  | false => exact hb pins s1 σ H1 D I1 q1
theorem wpAt_isTrue_Compare1 {prog : Program} {w : World} {A : Around} {E : Value → Shared → Prop} {s : Shared} {env : Env} {l r : Expr} {op : CmpOp} {pos : Pos} {whole : Sem Value} {Q : Bool → Shared → Prop}
    (h : WA (model prog w) A c (eval l env) (fun a s₁ => wpAny (model prog w) A (eval r env) (fun b s₂ => wpAny (model prog w) A (compareOp op a b)
      (fun c s₃ => wpAny (model prog w) A (truthy c) Q E s₃) E s₂) E s₁) E s)
    (hm : behindInMarks op r = false) : WA (model prog w) A c (isTrue (.Compare l [op] [r] pos) env whole) Q E s := fun Γ p hc hΓ => by
  simp only [PySem.isTrue_Compare1, markedBehindIn_of_false hm, Sem.wp_bind', Sem.wp_holding, Sem.wp_cmd_standAt, Sem.wp_operate]
  exact Sem.wp_mono _ Γ _ (fun a p₁ s₁ h₁ => Sem.wp_mono _ Γ _ (fun b _ s₂ h₂ => Sem.wp_mono _ Γ _ (fun c p₃ s₃ h₃ => h₃ Γ p₃ hΓ)
    (fun _ _ _ h' => h') _ _ (h₂ Γ _ hΓ)) (fun _ _ _ h' => h') _ _ (h₁ Γ p₁ hΓ)) (fun _ _ _ h' => h') _ _ (h Γ p hc hΓ)
theorem ptc_cmpR {a b : Expr} {ta tb : TE} {pos : Pos} {op : CmpOp} {r : R2} (ho : OpR X (compareOp op) r) (ha : PEC X c a ta) (hb : PE X b tb) (hm : behindInMarks op b = false) : PTC X c (.Compare a [op] [b] pos) (tTest (tOp r ta tb)) := by
  intro pins s σ H Q I h
  refine wpAt_isTrue_Compare1 (thA (ha pins s σ H _ I h) fun v s1 ⟨x, H1, I1, r1, q1⟩ => thn (hb.run pins s1 σ H1 _ I1 q1) fun u s2 ⟨y, H2, I2, r2, q2⟩ =>
    thn (ho pins s2 σ H2 x y v u _ I2 r1 r2 q2) fun c s3 ⟨z, H3, I3, r3, k, e, q3⟩ => ?_) hm
  subst e
  cases r3
  exact wpAny_truthy_bool ⟨H3, I3, q3⟩
section
variable {M : Model} {A : Around} {E : Value → Shared → Prop} {s : Shared}
theorem spliced_consC {x : Sem Value} {rest : List (Bool × Sem Value)} {Q : List Value → Shared → Prop}
    (h : WA M A c x (fun v s₁ => wpAny M A (spliced rest) (fun vs s₂ => Q (v :: vs) s₂) E s₁) E s) : WA M A c (spliced ((false, x) :: rest)) Q E s := by
  rw [spliced]
  refine PySem.wpAt_bind (ks_wpAt_mono h (fun v s₁ h₁ => ?_) fun _ _ x => x)
  refine PySem.wpAt_of_wpAny ?_
  simp only [Bool.false_eq_true, if_false]
  exact wpAny_bind (wpAny_pure (wpAny_bind (wpAny_holding (wpAny_mono h₁ (fun vs s₂ h₂ => wpAny_pure h₂) fun _ _ x => x))))
theorem evalArgs_plainC {f : Value} {x : Sem Value} {rest : List (Bool × Sem Value)} {Q : Args → Shared → Prop}
    (h : WA M A c (spliced ((false, x) :: rest)) (fun vs s' => Q ⟨vs, []⟩ s') E s) : WA M A c (evalArgs f true ((false, x) :: rest) []) Q E s := by
  unfold evalArgs
  show WA M A c (spliced ((false, x) :: rest) >>= _) Q E s
  refine PySem.wpAt_bind (ks_wpAt_mono h (fun vs s' h' => PySem.wpAt_of_wpAny ?_) fun _ _ x => x)
  refine wpAny_holding ?_
  exact wpAny_bind (wpAny_pure (wpAny_bind (wpAny_pure (wpAny_pure h'))))
theorem callWith_builtinC {pos : Pos} {id : String} {first : List Value} {args : List (Bool × Sem Value)} {Q : Value → Shared → Prop} (hplain : args.any (·.1) = false)
    (h : WA M A c (evalArgs (.builtin id) true args []) (fun a s₁ => wpAny M A (call (.builtin id) (first ++ a.pos) a.kw) Q E s₁) E s) :
    WA M A c (callWith pos (.builtin id) first args []) Q E s := by
  unfold callWith
  refine PySem.wpAt_bind (ks_wpAt_holding (ks_wpAt_mono h (fun a s₁ h₁ => PySem.wpAt_of_wpAny (wpAny_bind (wpAny_standAt ?_))) fun _ _ x => x))
  simp only [hplain, List.any_nil, Bool.or_false]
  refine wpAny_bind (wpAny_pure ?_)
  exact wpAny_bind (wpAny_mono h₁ (fun r s₂ hr => wpAny_bind (wpAny_holding (wpAny_point (wpAny_pure hr)))) fun _ _ x => x)
end
theorem pec_callB {x : Str} {id : String} {r : List V → Hp → VK → Prop} {te : TE} {t0 : TA} {p pos : Pos} (h0 : ∀ σ H Q, t0 σ H Q → Q [] H) (hc : CallR X (.builtin id) r) (hg : Gl X x) (hm : X.mg x = none) (hv : bootBuiltins x = some (.builtin id)) (ha : PEC X c e te) (hn : x ≠ "__name__" := by decide) (hdb : (x == ("__debug__" : Str)) = false := by decide)
    (he : starEach [e] X.env = [(false, eval e X.env)] := by rfl) : PEC X c (.Call (.Name x p) [e] [] pos) (tCB r (tCons te t0)) := by
  intro pins s σ H Q I h
  rw [arm_eval_Call_Name', he]
  refine PySem.wpAt_bind (PySem.wpAt_of_wpAny (ld_blt I hg hm hv ?_ hn hdb))
  show WA _ _ _ (callWith pos (.builtin id) [] [(false, eval e X.env)] []) _ _ _
  refine callWith_builtinC rfl (evalArgs_plainC (spliced_consC (thA (ha pins s σ H _ I h) fun v s1 ⟨y, H1, I1, r1, q1⟩ => Calls.spliced_nil ?_)))
  exact hc pins s1 σ H1 [y] [v] Q I1 (.cons r1 .nil) (h0 _ _ _ q1)
end
end GL
set_option Elab.async false
set_option linter.all false
set_option maxRecDepth 100000
set_option maxHeartbeats 2000000
namespace GL
open PySem PySem.Spec PyProof.Rows L2
section
variable {prog : Program} {w : World} {A : Around} {E : Value → Shared → Prop} {s : Shared} {env : Env}
theorem codeAny_loopC {M : Model} {c : Code} {R : Result → Shared → Prop} (hq : c.quiet = true) (I : Nat → Shared → Prop)
    (turn : ∀ n s, I n s → WA M (A.under c) c (M.den c)
      (fun fin s' => match fin with
        | .done f => R (.ok f) s'
        | .again c' => (c' = c ∧ ∃ m, m < n ∧ I m s') ∨ (c'.quiet = true ∧ codeAny M A c' R s')) (fun e s' => R (.error e) s') s)
    (n : Nat) (h : I n s) : codeAny M A c R s := by
  induction n using Nat.strongRecOn generalizing s with
  | ind n ih =>
    refine PySem.codeAny_of_treeAt (ks_wpAt_mono (turn n s h) (fun fin s' hf => ?_) fun _ _ h' => h')
    cases fin with
    | done f => exact hf
    | again c' =>
      rcases hf with ⟨rfl, m, hm, hI⟩ | hf
      · exact ⟨hq, ih m hm hI⟩
      · exact hf
theorem codeAny_forLoopC {R : Result → Shared → Prop} {target : Expr} {it : Value} {body orelse : List Stmt} (I : Nat → Shared → Prop)
    (turn : ∀ n s, I n s → wpAny (model prog w) A (pyNext it) (fun r s₁ => match r with
      | none => wpAny (model prog w) A (execs orelse env) (fun f s₃ => R (.ok f) s₃) (notedBy (model prog w) A env fun e s' => R (.error e) s') s₁
      | some v => wpAny (model prog w) A (letOwnedTupleGo target it v) (fun _ s₁' =>
          wpAny (model prog w) A (assign target env v) (fun _ s₂ => WA (model prog w) A (.forLoop target it body orelse env) (execs body env) (fun f s₃ => match f with
            | .next | .cont => ∃ m, m < n ∧ I m s₃
            | .brk => R (.ok .next) s₃
            | .ret v => R (.ok (.ret v)) s₃) (notedBy (model prog w) A env fun e s' => R (.error e) s') s₂) (notedBy (model prog w) A env fun e s' => R (.error e) s') s₁') (notedBy (model prog w) A env fun e s' => R (.error e) s') s₁) (notedBy (model prog w) A env fun e s' => R (.error e) s') s)
    (n : Nat) (h : I n s) : codeAny (model prog w) A (.forLoop target it body orelse env) R s := by
  refine codeAny_loopC rfl I (fun n s hI => ?_) n h
  show WA _ A _ ((forTurn target it body orelse env).onRaise (fun x => do noteFrame x env; theTreesLotGoes x)) _ _ s
  refine ks_wpAt_onRaise (ks_wpAt_mono (Q := _) (E := notedBy (model prog w) A env fun e s' => R (.error e) s') ?_ (fun _ _ q => q) fun _ _ hx => wpAny_bind (wpAny_mono hx (fun _ _ e => wpAny_theTreesLotGoes e) fun _ _ e => e))
  simp only [forTurn]
  refine PySem.wpAt_bind (PySem.wpAt_of_wpAny (wpAny_standAt (PySem.wpAt_bind (PySem.wpAt_of_wpAny (wpAny_onRaise (wpAny_mono (turn n s hI) (fun r s₁ h₁ => ?_) fun _ _ h' => wpAny_standAt h'))))))
  cases r with
  | none => exact PySem.wpAt_of_wpAny (wpAny_pure (.inr ⟨rfl, codeAny_block h₁⟩))
  | some v =>
    refine PySem.wpAt_bind (PySem.wpAt_of_wpAny (wpAny_mono h₁ (fun _ s₁' h₁' => ?_) fun _ _ h' => h'))
    refine PySem.wpAt_bind (PySem.wpAt_of_wpAny (wpAny_mono h₁' (fun _ s₂ h₂ => PySem.wpAt_bind (ks_wpAt_mono h₂ (fun f s₃ h₃ => ?_) fun _ _ h' => h')) fun _ _ h' => h'))
    cases f with
    | next => exact PySem.wpAt_of_wpAny (wpAny_pure (.inl ⟨rfl, h₃⟩))
    | cont => exact PySem.wpAt_of_wpAny (wpAny_pure (.inl ⟨rfl, h₃⟩))
    | brk => exact PySem.wpAt_of_wpAny (wpAny_pure h₃)
    | ret v => exact PySem.wpAt_of_wpAny (wpAny_pure h₃)
theorem wpAt_For {c : Code} {target iter : Expr} {body orelse : List Stmt} {pos : Pos} {Q : Flow → Shared → Prop}
    (h : WA (model prog w) A c (eval iter env) (fun x s₁ => wpAny (model prog w) A (pyIter x) (fun it s₂ =>
      codeAny (model prog w) A (.forLoop target it body orelse env) (fun r s' => match r with | .ok f => Q f s' | .error e => cameBackBy (model prog w) A env E e s') s₂) E s₁) E s)
    (hs : ∀ x, foldedSetIterable iter env x = pure x := by intro _; rfl) :
    WA (model prog w) A c (exec (.For target iter body orelse pos) env) Q E s := by
  rw [exec_For]
  refine PySem.wpAt_bind (PySem.wpAt_of_wpAny (wpAny_standAt (PySem.wpAt_bind (ks_wpAt_mono h (fun x s₁ h₁ => PySem.wpAt_of_wpAny ?_) fun _ _ h' => h'))))
  exact wpAny_bind (wpAny_of_eq (hs x) (wpAny_bind (wpAny_standAt (wpAny_bind (wpAny_holding
    (wpAny_mono h₁ (fun it s₂ h₂ => wpAny_runOwn h₂) fun _ _ h' => h'))))))
end
section
variable {X : Cx} {c : Code}
theorem psc_for {tg iter : Expr} {body : List Stmt} {wi : TI} {g : TG} {tb : TS} {pos : Pos} (hp : PassesOwn (model X.prog X.w) X.A X.env X.xe) (hc : X.calm = true) (hi : PIC X c tg iter wi) (hg : PG X tg g) (hb : ∀ it, PSsC X (.forLoop tg it body [] X.env) body tb)
    (hs : ∀ x, foldedSetIterable iter X.env x = pure x := by intro _; rfl) : PSC X c (.For tg iter body [] pos) (tFor wi g tb) := by
  intro pins s σ H D I h
  refine wpAt_For (thA (hi pins s σ H _ I h) fun v s1 h1 => thn h1 fun itv s2 h2 => ?_) hs
  obtain ⟨it, fp, tn, J, H2, e, I2, T, st2, f2, W, ⟨m0, w0⟩, turn⟩ := h2
  subst e
  have stat : ∀ {H' : Hp}, (∀ b ∈ fp, H' b = none) → ∀ b ∈ fp, FpOk X pins H' b := fun hn b hb => ⟨hn b hb, (f2 b hb).2⟩
  refine codeAny_forLoopC (fun n s' => ∃ i σ' H', Inv X pins σ' H' s' ∧ tn i s'.heap ∧ (∀ b ∈ fp, H' b = none) ∧ W i n σ' H') ?_ m0 ⟨0, σ, H2, I2, st2, fun b hb => (f2 b hb).1, w0⟩
  rintro n s3 ⟨i, σ3, H3, I3, st3, fr3, w3⟩
  rcases turn i n σ3 H3 w3 with ⟨stop, qn⟩ | ⟨go, N, hN, step⟩
  · refine wpAny_passesOwn hp (thn (T.done X rfl rfl rfl hc i pins s3 σ3 H3 X.xe I3 (stat fr3) st3 stop) fun r s4 ⟨hr, I4⟩ => ?_)
    subst hr
    exact wpAny_execs_nil ⟨σ3, H3, I4, qn⟩
  · refine wpAny_passesOwn hp (thn (T.item X rfl rfl rfl hc i pins s3 σ3 H3 X.xe I3 (stat fr3) st3 go) fun r s4 ⟨u, hr, h4⟩ => ?_)
    subst hr
    refine wpAny_passesOwn hp (thn h4 fun _ s5 ⟨x, H5, I5, r5, y5, st5, fr5⟩ => ?_)
    have I5' := I5.pinned (stat fr5) (T.obj _ _ st5)
    refine wpAny_passesOwn hp (thn (hg.run _ s5 σ3 H5 x u _ I5' r5 (step x H5 y5)) fun _ s6 ⟨σ6, H6, I6, q6⟩ => ?_)
    refine ks_wpAt_mono (hb (.ref it) _ s6 σ6 H6 _ I6 q6) (fun f s7 q7 => ?_) hp
    have again : ∀ {σ7 : L2.St} {H7 : Hp}, Inv X (pins ++ pinsAt fp s5.heap) σ7 H7 s7 → N σ7 H7 → ∃ m, m < n ∧ ∃ i σ' H', Inv X pins σ' H' s7 ∧ tn i s7.heap ∧ (∀ b ∈ fp, H' b = none) ∧ W i m σ' H' := fun {σ7 H7} I7 n7 => by
      obtain ⟨m', hm, w7⟩ := hN σ7 H7 n7
      refine ⟨m', hm, i + 1, σ7, H7, I7.unpinned, T.keep _ _ _ st5 fun b hb o e => (I7.pin (b, o) (List.mem_append_right _ (List.mem_append_right _ (mem_pinsAt hb e)))).1, fun b hb => ?_, w7⟩
      obtain ⟨o, e, d⟩ := T.obj _ _ st5 b hb
      exact (I7.pin (b, o) (List.mem_append_right _ (List.mem_append_right _ (mem_pinsAt hb e)))).2.1
    cases f with
    | next => obtain ⟨σ7, H7, I7, n7⟩ := q7; exact again I7 n7
    | cont => obtain ⟨σ7, H7, I7, n7⟩ := q7; exact again I7 n7
    | brk => obtain ⟨σ7, H7, I7, q7⟩ := q7; exact ⟨σ7, H7, I7.unpinned, q7⟩
    | ret v => obtain ⟨x7, σ7, H7, I7, r7, q7⟩ := q7; exact ⟨x7, σ7, H7, I7.unpinned, r7, q7⟩
theorem pic_seq {tg e : Expr} {te : TE} (he : PEC X c e te) : PIC X c tg e (fun σ H R => te σ H fun x H1 => rIterM X.K x H1 R) := by
  intro pins s σ H R I h
  refine thA (he pins s σ H _ I h) ?_
  rintro v s1 ⟨x, H1, I1, r1, a, rfl, q⟩
  cases r1
  have fp : ∀ b ∈ [s1.heap.objs.size], FpOk X pins H1 b := by
    intro b hb
    have hb : b = s1.heap.objs.size := List.mem_singleton.mp hb
    rw [hb]
    exact I1.fpOk (Nat.le_refl _) I1.fresh
  rcases q with ⟨⟨xs, hq⟩, q⟩ | ⟨⟨xs, hq⟩, q⟩
  · obtain ⟨its, _, pl, _⟩ := I1.list hq
    apply wpAny_pyIter_list pl.isList
    exact ⟨_, [_], _, _, H1, rfl, I1.kept (t' := s1.toks) (fun _ _ z => Heap.get?_push_of_some _ z), turn_list a _, ⟨_, Heap.get?_push_size _ rfl, rfl, rfl⟩, fp, q⟩
  · obtain ⟨its, _, pl, _⟩ := I1.tuple hq
    apply wpAny_pyIter_tuple (items := its.toArray) pl
    exact ⟨_, [_], _, _, H1, rfl, I1.kept (t' := s1.toks) (fun _ _ z => Heap.get?_push_of_some _ z), turn_tuple a _, ⟨_, Heap.get?_push_size _ rfl, rfl, rfl⟩, fp, q⟩
end
abbrev IEC (X : Cx) (Wx : L2.WX) (c : Code) (e : Expr) (m : ME) : Prop := PEC X c e (tE (pwX X) X.K Wx m)
abbrev ITC (X : Cx) (Wx : L2.WX) (c : Code) (e : Expr) (m : MT) : Prop := PTC X c e (tT (pwX X) X.K Wx m)
abbrev IIC (X : Cx) (Wx : L2.WX) (c : Code) (tg e : Expr) (m : MI) : Prop := PIC X c tg e (tI (pwX X) X.K Wx m)
abbrev ISC (X : Cx) (Wx : L2.WX) (c : Code) (st : Stmt) (m : MS) : Prop := PSC X c st (tS (pwX X) X.K Wx m)
abbrev ISsC (X : Cx) (Wx : L2.WX) (c : Code) (sts : List Stmt) (m : MS) : Prop := PSsC X c sts (tS (pwX X) X.K Wx m)
section
variable {X : Cx} {Wx : L2.WX} {c : Code} {st : Stmt} {rest sts : List Stmt} {e tg : Expr} {m m1 m2 mb : MS} {me : ME} {mt : MT} {mi : MI} {pos : Pos} {g : MG} {sl : List Nat} {body : List Stmt}
theorem isc_of (h : IS X Wx st m) : ISC X Wx c st m := psc_of h
theorem issc_cons (h1 : ISC X Wx c st m1) (h2 : ISsC X Wx c rest m2) : ISsC X Wx c (st :: rest) (sSeq m1 m2) :=
  PSsCi (pssc_cons h1 h2) fun D σ H ⟨ρ, S, ls, hS, hL, h⟩ => ⟨ρ, S, ls, hS, hL, by
    have q := PostS.seq h
    cases hm : m1 ls S with
    | nx a S' =>
      rw [hm] at q
      exact fun ρ1 H1 σ1 e r x => by
        obtain ⟨ρ2, S2, ls2, _, a, b, c⟩ := q ρ1 H1 σ1 e r x
        exact ⟨ρ2, S2, ls2, a, b, c⟩
    | bk a S' => rw [hm] at q; exact q
    | ct a S' => rw [hm] at q; exact q
    | rt a S' => rw [hm] at q; exact q
    | exc a b S' => rw [hm] at q; exact q
    | bad => rw [hm] at q; exact q⟩
theorem issc_one (h1 : ISC X Wx c st m1) : ISsC X Wx c [st] m1 := pssc_one h1
theorem isc_expr (he : IEC X Wx c e me) (hs : swapsWith e none pos.line X.env = pure false := by rfl) : ISC X Wx c (.Expr e pos) (sExpr me) :=
  PSCi (psc_expr he hs) fun D σ H ⟨ρ, S, ls, hS, hL, h⟩ => ⟨ρ, S, ls, hS, hL, (Post.then (R := RW) hL h).imp fun x H1 ⟨ρ1, S1, w1, e1, hS1, r1, h1⟩ => h1 ρ1 H1 _ .refl hS1 (hL.ext e1)⟩
theorem isc_if {a b : List Stmt} (hc : ITC X Wx c e mt) (ha : ISsC X Wx c a m1) (hb : ISsC X Wx c b m2) : ISC X Wx c (.If e a b pos) (sIf mt m1 m2) :=
  PSCi (psc_if hc ha hb) fun D σ H ⟨ρ, S, ls, hS, hL, h⟩ => ⟨ρ, S, ls, hS, hL, (Post.then (R := RBool) hL h).imp fun k H1 ⟨ρ1, S1, k1, e1, hS1, r1, h1⟩ => by
    have r1 : k1 = k := r1
    subst k
    cases k1
    · rw [if_neg Bool.false_ne_true] at h1 ⊢; exact ⟨ρ1, S1, ls, hS1, hL.ext e1, h1⟩
    · rw [if_pos rfl] at h1 ⊢; exact ⟨ρ1, S1, ls, hS1, hL.ext e1, h1⟩⟩
theorem itc_cmp {a b : Expr} {ma mb : ME} {op : CmpOp} {r : R2} {gg : PV → PV → Sto → Out PV} (ho : OpR X (compareOp op) r) (hi : OpI X Wx r gg) (ha : IEC X Wx c a ma) (hb : IE X Wx b mb) (hm : behindInMarks op b = false) : ITC X Wx c (.Compare a [op] [b] pos) (toT (eOp gg ma mb)) :=
  PTCi (ptc_cmpR ho ha hb hm) fun σ H Q h => bin_in hi (test_in h)
theorem iic_seq (he : IEC X Wx c e me) : IIC X Wx c tg e (iSeq me) := PICi (pic_seq he) fun σ H R ⟨ρ, S, ls, hS, hL, h⟩ => ⟨ρ, S, ls, hS, hL, (Post.bind (R := RW) h).imp fun x H1 ⟨ρ1, S1, w1, e1, hS1, r1, h1⟩ => by
    split at h1
    · cases r1 with
      | tup s t => exact ⟨_, rfl, .inr ⟨⟨_, s⟩, h1 ρ1 H1 _ .refl hS1 (rit_tup s t)⟩⟩
    · cases r1 with
      | loc n hn =>
        split at h1
        · rename_i xs e2
          obtain ⟨vs, a, b⟩ := hS1.at_ _ _ e2
          exact ⟨_, rfl, .inl ⟨⟨_, SqL.of a⟩, h1 ρ1 H1 _ .refl hS1 (rit_lst hn)⟩⟩
        · rename_i xs e2
          obtain ⟨vs, a, b⟩ := hS1.at_ _ _ e2
          refine ⟨_, rfl, .inl ⟨⟨_, a.sq⟩, h1 ρ1 H1 _ .refl hS1 (rit_rol (fun ρ' S' H' e hS' => (e.2.2.2.1 _ _ a).sq) b)⟩⟩
        · exact h1.elim
    · exact h1.elim⟩
theorem isc_for (hp : PassesOwn (model X.prog X.w) X.A X.env X.xe) (hc : X.calm = true) (hi : IIC X Wx c tg e mi) (hg : IG X tg g sl) (hb : ∀ it, ISsC X Wx (.forLoop tg it body [] X.env) body mb) (hs : ∀ x, foldedSetIterable e X.env x = pure x := by intro _; rfl) :
    ISC X Wx c (.For tg e body [] pos) (sFor mi g mb) :=
  PSCi (psc_for hp hc hi hg hb hs) fun D σ H ⟨ρ, S, ls, hS, hL, h⟩ => ⟨ρ, S, ls, hS, hL, (Post.then (R := RItF) hL h).imp fun J H1 ⟨ρ1, S1, t, e1, hS1, r1, h1⟩ => by
    have l1 := hL.ext e1
    clear h hS hL
    refine ⟨fun i m σ H => m = t.items.length - i ∧ i ≤ t.items.length ∧ ∃ ρ S ls, Ext X.K ρ1 S1.length H1 ρ S.length H ∧ RSt (pwX X) X.K ρ H S ∧ RL X.K ρ S.length H ls σ ∧ PostS (pwX X) X.K ρ S.length H Wx (forGo t.chk g mb i (t.items.drop i) ls S) D,
      ⟨_, rfl, Nat.zero_le _, ρ1, S1, ls, .refl, hS1, l1, by rw [List.drop_zero]; exact h1⟩, ?_⟩
    rintro i m σ2 H2 ⟨rfl, hi, ρ2, S2, ls2, e2, hS2, l2, h2⟩
    obtain ⟨w1, w2⟩ := r1 ρ2 S2 H2 e2 hS2
    by_cases hlt : i < t.items.length
    · rw [List.drop_eq_getElem_cons hlt] at h2
      unfold forGo at h2
      split at h2
      · rename_i hc
        obtain ⟨go, yl⟩ := w1 i _ (List.getElem?_eq_getElem hlt) hc
        refine .inr ⟨go, fun σ3 H3 => ∃ ρ S ls, Ext X.K ρ1 S1.length H1 ρ S.length H3 ∧ RSt (pwX X) X.K ρ H3 S ∧ RL X.K ρ S.length H3 ls σ3 ∧ PostS (pwX X) X.K ρ S.length H3 Wx (forGo t.chk g mb (i + 1) (t.items.drop (i + 1)) ls S) D,
          fun σ' H' q => ⟨_, by omega, rfl, hlt, q⟩, fun v H3 y => ?_⟩
        obtain ⟨ρ3, e3, hS3, r3⟩ := yl v H3 y
        split at h2
        · exact h2.elim
        · rename_i ls3 eg
          refine ⟨ρ3, S2, ls2, _, ls3, hS3, l2.ext e3, r3, eg, fun σ4 _ l4 => ⟨ρ3, S2, ls3, hS3, l4, ?_⟩⟩
          have h3 := PostS.ext e3 h2
          cases hm : mb ls3 S2 with
          | nx a S' => rw [hm] at h3; exact fun ρ4 H4 σ5 e4 s4 l5 => ⟨ρ4, S', a, (e2.trans e3).trans e4, s4, l5, PostS.ext e4 h3⟩
          | ct a S' => rw [hm] at h3; exact fun ρ4 H4 σ5 e4 s4 l5 => ⟨ρ4, S', a, (e2.trans e3).trans e4, s4, l5, PostS.ext e4 h3⟩
          | bk a S' => rw [hm] at h3; exact h3
          | rt a S' => rw [hm] at h3; exact h3
          | exc a b S' => rw [hm] at h3; exact h3
          | bad => rw [hm] at h3; exact h3
      · exact h2.elim
    · have ei : i = t.items.length := by omega
      subst ei
      rw [List.drop_length] at h2
      unfold forGo at h2
      split at h2
      · rename_i hc
        exact .inl ⟨w2 hc, h2 ρ2 H2 σ2 .refl hS2 l2⟩
      · exact h2.elim⟩
theorem iec_B {x : Str} {p : Pos} {id : String} {r : List V → Hp → VK → Prop} {gg : MF} (hc : CallR X (.builtin id) r) (hi : CallI X r gg) (hm : X.mg x = none) (hv : bootBuiltins x = some (.builtin id)) (ha : IEC X Wx c e me) (hg : Gl X x := by rfl) (hn : x ≠ "__name__" := by decide) (hdb : (x == ("__debug__" : Str)) = false := by decide)
    (he : starEach [e] X.env = [(false, eval e X.env)] := by rfl) : IEC X Wx c (.Call (.Name x p) [e] [] pos) (eB gg (aCons me aNil)) :=
  PECi (pec_callB (t0 := tA (pwX X) X.K Wx aNil) (fun σ H Q ⟨ρ, S, ls, hS, hL, h⟩ => h ρ H _ .refl hS .nil) hc hg hm hv ha hn hdb he) fun σ H Q h => by
    obtain ⟨ρ, S, ls, hS, hL, h⟩ := callB_in hi h
    exact ⟨ρ, S, ls, hS, hL, (Post.bind (R := RW) h).imp fun x H1 ⟨ρ1, S1, w1, e1, hS1, r1, h1⟩ =>
      ⟨ρ1, S1, ls, hS1, hL.ext e1, (Post.bind (R := RWs) h1).imp fun xs H2 ⟨ρ2, S2, ws, e2, hS2, r2, h2⟩ => h2 ρ2 H2 _ .refl hS2 (.cons (r1.ext e2) r2)⟩⟩
end
end GL
set_option Elab.async false
set_option linter.all false
set_option maxRecDepth 100000
set_option maxHeartbeats 2000000
namespace GL
open PySem PySem.Spec PyProof.Rows L2
structure SupX (X : Cx) (f cda cc : Addr) (x : Str) : Prop where
  fu : X.env.func = some f
  fd : ∃ oc od osl fd ar, X.K.lookup f = some ⟨oc, od, .func fd, osl⟩ ∧ (fd.params.posonlyargs ++ fd.params.args).head? = some ar ∧ ar.arg = x
  co : X.env.code = .ref cda
  cd : ∃ ccl cdd ccs vs file tf, X.K.lookup cda = some ⟨ccl, cdd, .fields vs, ccs⟩ ∧ vs[2]? = some (.str file tf) ∧ ((X.prog.main.file : Str) == file) = true
  ce : X.env.cells = [(("__class__" : Str), cc)]
  sup : X.mg "super" = none
  ks : X.env.kindOf "super" = some .globalImplicit
  kc : X.env.kindOf "__class__" = some .free
  kx : X.env.kindOf x = some .local
  n0 : X.N[0]? = some x
  top : (X.prog.main.scope.names.lookup ("super" : Str)).isSome = false
structure SupC (K : PySem.W.Frag) (D C cc g : Addr) (m : Str) : Prop where
  cl : ∃ ccl cld csl, K.lookup cc = some ⟨ccl, cld, .cell (some (.ref D)), csl⟩
  dcl : ∃ cd, PySem.W.clsIn K D = some cd
  mro : PySem.W.mroIn K C (.ref D) = some true
  opq : PySem.W.nsIn K cStatics "thirdparty.any" = some none
  met : PySem.W.ks_superIn K C D m = some (some (.ref g))
  fn : PySem.W.typeIn K (.ref g) = some (.type "function")
  fi : PySem.W.fnIn K g = true
section
variable {X : Cx} {f cda cc C D g a dx : Addr} {x m : Str} {fs : List (Str × V)} {pins : List (Addr × Obj)} {σ : L2.St} {H : Hp} {s : Shared} {c : Code} {p0 p1 : Pos} {whole : Sem Value} {Q : Value → Shared → Prop} {E : Value → Shared → Prop}
theorem sup_baseS (nc : NoCs (model X.prog X.w) X.A c) (Z : SupX X f cda cc x) (T : SupC X.K D C cc g m) (I : Inv X pins σ H s) (h0 : σ[0]? = some (some (.ref a))) (ha : H a = some (.ins C dx fs)) (hat : (m == ("__class__" : Str)) = false)
    (h : ∀ so h', (∀ y o, s.heap.get? y = some o → h'.get? y = some o) → so = s.heap.objs.size → h'.get? so = some (PySem.W.ks_superObj D a C) → Q (.ref so) { s with heap := h' }) :
    WA (model X.prog X.w) X.A c (attributeBase (.Call (.Name "super" p0) [] [] p1) m X.env whole) Q E s := by
  obtain ⟨oc, od, osl, fd, ar, lk, hh, rfl⟩ := Z.fd
  obtain ⟨ccl, cdd, ccs, vs, file, tf, lc, hv2, hfile⟩ := Z.cd
  obtain ⟨cl, cld, csl, lcell⟩ := T.cl
  obtain ⟨cdD, hD⟩ := T.dcl
  have KI := I.kIn
  obtain ⟨mA, O, _, _, _, _⟩ := ins_get I.hok ha
  obtain ⟨odx, J, _⟩ := O.look
  obtain ⟨mm, hns, hl⟩ := I.loc
  obtain ⟨u, ru, lu⟩ := hl 0 ar.arg (.ref a) Z.n0 h0 (.inl Z.kx)
  obtain rfl : u = Value.ref a := ru
  have hm : mm ar.arg = some (.ref a) := by
    rcases lu with ⟨_, e⟩ | ⟨e, _⟩
    · exact e
    · rw [Z.kx] at e; rcases e with e | e <;> cases e
  obtain ⟨mb, b1, b2⟩ := I.mod.blt
  obtain ⟨hp, g, d, t, os⟩ := s
  obtain ⟨oD, hD1, hD2⟩ : ∃ oD, hp.get? D = some oD ∧ oD.data = .cls cdD := by
    unfold PySem.W.clsIn at hD
    split at hD
    · rename_i c d cd' sl ho
      cases hD
      exact ⟨_, KI _ _ ho, rfl⟩
    · cases hD
  refine super_baseC nc Z.ks Z.kc hat Z.fu (KI _ _ lk) rfl hh Z.co (KI _ _ lc) rfl hv2 hfile Z.top ?_
  refine PySem.W.ks_loadName_global I.ok.kind Z.ks (Calls.loadGlobal_builtin (by rw [I.ok.glob]; exact I.mod.glob.keeps I.bk) Z.sup (by rw [I.ok.blt]; exact b1.keeps I.bk) ((b2 _ (by decide)).trans (by decide +kernel)) ⟨rfl, ?_⟩)
  refine wpAny_loadName_free I.ok.kind Z.kc (c := cc) (by rw [Z.ce]; rfl) ⟨_, KI _ _ lcell, rfl⟩ ?_
  refine wpAny_loadName_local I.ok.kind Z.kx hns hm ?_
  refine ks_wpAny_isType_cls hD1 hD2 ⟨rfl, ?_⟩
  refine ks_wpAny_call_super hD1 hD2 J.at_ J.cls (fun c e => ?_) (PySem.W.looks_mroIn KI T.mro) (fun h' e k => ?_)
  · have := J.no
    unfold PySem.W.notCls at this
    rw [e] at this
    exact Bool.noConfusion this
  · exact h _ _ k rfl e
end
section
variable {X : Cx} {k : Nat} {f cda cc C D g : Addr} {fd : FuncData} {ps : List Str} {dvs : List V} {ds : List Value} {x m : Str} {p0 p1 pos apos : Pos} {e : Expr} {es : List Expr} {sp : Sp} {t : TA} {c : Code} {pl : Sem Bool} {E : L2.St → XK}
def tSup (C : Addr) (sp : Sp) (dvs : List V) (E : L2.St → XK) (t : TA) : TE := fun σ H Q => ∃ a dx fs, σ[0]? = some (some (.ref a)) ∧ H a = some (.ins C dx fs) ∧ t σ H fun vs H2 => sp (.ref a :: (vs ++ dvs)) H2 Q (E σ)
theorem pec_sup (nc : NoCs (model X.prog X.w) X.A c) (Z : SupX X f cda cc x) (T : SupC X.K D C cc g m) (F : FnOk X.prog X.w X.K X.mg X.base (L2.CX X.prog X.w) k g fd ps sp) (hr : Room k X.A) (hb : Binds X.K fd ps ds) (hd : Vals dvs ds)
    (hx : ∀ σ, PassesAt (L2.CX X.prog X.w) X σ (E σ)) (ha : PA X (e :: es) t) (hat : (m == ("__class__" : Str)) = false := by decide) (hst : starEach (e :: es) X.env = (false, eval e X.env) :: starEach es X.env := by rfl) (hpl : (backTo pos (starEach es X.env)).any (·.1) = false := by rfl)
    (ht : eval (.Call (.Attribute (.Call (.Name "super" p0) [] [] p1) m apos) (e :: es) [] pos) X.env = (do
      let ov ← attributeBase (.Call (.Name "super" p0) [] [] p1) m X.env (eval (.Call (.Name "super" p0) [] [] p1) X.env)
      standAt apos.atName
      let (f, first) ← holding [ov] (getMethod ov m pl)
      callWith pos f first (backTo pos (starEach (e :: es) X.env)) (backToKw pos (keywordEach [] X.env))) := by rfl) :
    PEC X c (.Call (.Attribute (.Call (.Name "super" p0) [] [] p1) m apos) (e :: es) [] pos) (tSup C sp dvs E t) := by
  intro pins s σ H Q I ⟨a, dx, fs, h0, hH, q⟩
  rw [ht]
  refine PySem.wpAt_bind (sup_baseS nc Z T I h0 hH hat fun so h' kk hso ho => ?_)
  refine PySem.wpAt_of_wpAny ?_
  refine wpAny_bind (wpAny_standAt ?_)
  have I1 : Inv X ((so, PySem.W.ks_superObj D a C) :: pins) σ H { s with heap := h' } := ClX.pin_new (t' := s.toks) I kk (by rw [hso]; exact Nat.le_refl _) ho (fun v z => by cases z)
  have KI : X.K.In h' := I1.kIn
  have hmet := T.met
  unfold PySem.W.ks_superIn at hmet
  obtain ⟨cd, hcl⟩ : ∃ cd, PySem.W.clsIn X.K C = some cd := by
    cases hq : PySem.W.clsIn X.K C with
    | none => rw [hq] at hmet; cases hmet
    | some cd => exact ⟨cd, rfl⟩
  rw [hcl] at hmet
  obtain ⟨mA, O, _, _, _, _⟩ := ins_get I1.hok hH
  obtain ⟨odx, J, _⟩ := O.look
  obtain ⟨og, hog, hogc⟩ : ∃ og, h'.get? g = some og ∧ og.cls = .type "function" := by
    have ht' : (X.K.lookup g).map (·.cls) = some (.type "function") := T.fn
    cases z : X.K.lookup g with
    | none => rw [z] at ht'; cases ht'
    | some og => rw [z] at ht'; exact ⟨og, KI _ _ z, Option.some.inj ht'⟩
  refine wpAny_bind (wpAny_holding ?_)
  refine ks_wpAny_getMethod_super ho (PySem.W.looks_opaque KI T.opq) (l₀ := cd.mro) (fun A Q E s k q => wpAny_bind ((PySem.W.looks_clsIn KI hcl) A _ E s k (wpAny_pure q))) rfl KI hmet hog hogc (PySem.W.ks_ne KI J hcl) hat ?_
  have I2 : Inv X ((h'.objs.size, PySem.W.methodObj (.ref g) (.ref a)) :: (so, PySem.W.ks_superObj D a C) :: pins) σ H { s with heap := h'.push (PySem.W.methodObj (.ref g) (.ref a)), toks := s.toks + 1 } :=
    ClX.pin_new (s := { s with heap := h' }) (t' := s.toks + 1) I1 (fun b o z => Heap.get?_push_of_some _ z) (Nat.le_refl _) (Heap.get?_push_size h' rfl) (fun v z => by cases z)
  refine ClX.callwith_cm (C := a) (g := g) I2 (ClX.base_none I1 (Nat.le_refl _)) T.fi (thn (ha.run pos _ _ σ H _ I2 q) fun us s3 ⟨vs, H2, I3, rv, q2⟩ => ⟨⟨ClX.pin_at I3, I3.kIn⟩, ?_⟩) hst hpl
  have r2 : Vals (.ref a :: (vs ++ dvs)) (.ref a :: (us ++ ds)) := .cons rfl (rv.append hd)
  have hl : (Value.ref a :: (us ++ ds)).length = ps.length := by rw [← r2.length]; exact F.len _ _ _ _ q2
  have z : wpAny (model X.prog X.w) X.A (call (.ref h'.objs.size) us) (EP X ((h'.objs.size, PySem.W.methodObj (.ref g) (.ref a)) :: (so, PySem.W.ks_superObj D a C) :: pins) σ Q) X.xe s3 := by
    refine wpAny_call (PySem.W.method_call (ClX.pin_at I3) (codeAny_mono (F.run X.A X.stack s3 H2 ⟨.ref a :: us, []⟩ (.ref a :: (us ++ ds)) (.ref a :: (vs ++ dvs)) Q (E σ) hr I3.env0 (hb s3 (.ref a :: us) I3.kIn hl) r2 q2) fun r s' hq => ?_))
    cases r with
    | error e => exact hx σ _ H2 s3 e s' I3 hq
    | ok fl =>
      cases fl with
      | ret u => exact I3.after hq
      | next => exact False.elim hq
      | brk => exact False.elim hq
      | cont => exact False.elim hq
  exact thn z fun _ _ y => ClX.unpinE (ClX.unpinE y)
end
section
variable {X : Cx} {Wx : L2.WX} {k : Nat} {f cda cc C D g : Addr} {fd : FuncData} {ps : List Str} {dvs : List V} {ds : List Value} {dws : List PV} {x m : Str} {p0 p1 pos apos : Pos} {e : Expr} {es : List Expr} {c : Code} {pl : Sem Bool} {cn mn : Nm} {np N : Nat} {mb : MS} {ma : MA}
theorem iec_sup (nc : NoCs (model X.prog X.w) X.A c) (tk : Takes X Wx) (Z : SupX X f cda cc x) (T : SupC X.K D C cc g m) (hC : C = He.ga X.K (toS cn)) (hmn : m = toS mn) (F : FI X.prog X.w X.K X.mg X.base k g fd ps (fnOf np N mb)) (hnp : ps.length = np) (hr : Room k X.A) (hb : Binds X.K fd ps ds) (hd : Vals dvs ds) (gv : GVals X.K dvs dws)
    (ha : IA X Wx (e :: es) ma) (hat : (m == ("__class__" : Str)) = false := by decide) (hst : starEach (e :: es) X.env = (false, eval e X.env) :: starEach es X.env := by rfl) (hpl : (backTo pos (starEach es X.env)).any (·.1) = false := by rfl)
    (ht : eval (.Call (.Attribute (.Call (.Name "super" p0) [] [] p1) m apos) (e :: es) [] pos) X.env = (do
      let ov ← attributeBase (.Call (.Name "super" p0) [] [] p1) m X.env (eval (.Call (.Name "super" p0) [] [] p1) X.env)
      standAt apos.atName
      let (f, first) ← holding [ov] (getMethod ov m pl)
      callWith pos f first (backTo pos (starEach (e :: es) X.env)) (backToKw pos (keywordEach [] X.env))) := by rfl) :
    IEC X Wx c (.Call (.Attribute (.Call (.Name "super" p0) [] [] p1) m apos) (e :: es) [] pos) (eMeth cn mn (fnOf np N mb) dws (eVar 0) ma) :=
  PECi (pec_sup (E := WE Wx) nc Z T F hr hb hd (passAt tk) ha hat hst hpl ht) fun σ H Q h => by
    have h2 := meth_in gv (fun _ _ _ q => q) hC hmn h
    rw [hnp]
    obtain ⟨ρ, S, ls, hS, hL, h3⟩ := h2
    unfold eVar at h3
    split at h3
    · rename_i w ew
      obtain ⟨v, e1, r⟩ := hL.get ew
      obtain ⟨a, dx, fs, rfl, ea, _, q⟩ := h3 ρ H v .refl hS r
      exact ⟨a, dx, fs, e1, ea, q⟩
    · exact h3.elim
end
section
variable {P : Program} {w : World} {K : PySem.W.Frag} {mg : Str → Option Value} {base : Heap} {x qual x0 : Str} {params : Arguments} {body : List Stmt} {scope : Scope} {f cc D : Addr} {fd : FuncData}
theorem fn_ofC {CX : CXT} {k : Nat} {cda : Addr} {dV kV doc pm ct oc ccl : Value} {an od cld : Option Addr} {osl csl : Array (Option Value)} {N ps : List Str} {sp : Sp}
    (lk : K.lookup f = some ⟨oc, od, .func (PySem.W.ksFn x qual params body scope dV kV doc pm an (.ref cda) ct cc), osl⟩) (hcd : PySem.W.codeIn K (.ref cda) qual = true) (S : FnScopeK N ps scope)
    (kc : K.lookup cc = some ⟨ccl, cld, .cell (some (.ref D)), csl⟩) (len : ∀ vs H Q E, sp vs H Q E → vs.length = ps.length)
    (hbody : ∀ (A : Around) (outer : List Env) (s : Shared) (H : Hp) (vs : List V) (Q : VK) (E : XK), Room k (A.deeper (kEnv qual scope s.heap.objs.size f (.ref cda) cc)) → sp vs H Q E →
      ∃ t, PSsC (cxK CX P w K mg base N qual scope f (.ref cda) cc A outer s H E) (.func body (kEnv qual scope s.heap.objs.size f (.ref cda) cc)) body t ∧ t { nx := fun _ H' => Q .non H', rt := Q } (L2.start N vs) H) :
    FnOk P w K mg base CX (k + 1) f (PySem.W.ksFn x qual params body scope dV kV doc pm an (.ref cda) ct cc) ps sp := by
  refine ⟨len, fun A outer s H args us vs Q E hr e0 hb r hsp => ?_⟩
  have hl := len _ _ _ _ hsp
  have KX : K.In s.heap := e0.mod.kin.keeps fun b o e => (e0.bs b o e).1
  have lim : s.heap.NoLimit := e0.mod.nolimit.keeps fun b o e => (e0.bs b o e).1
  refine PySem.ks_codeAny_call_defAt (body := body) (binds := ps.zip us) hr.depth (KX _ _ lk) rfl lim (PySem.W.codeRec_of KX hcd) rfl hb S.nocell (fun x hx => S.par _ (List.of_mem_zip hx).1) ?_ S.co S.gen S.kind
  intro h₀ hns hk
  obtain ⟨t, hT, hq⟩ := hbody A outer s H vs Q E (hr.deeper _) hsp
  have I : Inv (cxK CX P w K mg base N qual scope f (.ref cda) cc A outer s H E) [] (L2.start N vs) H { s with heap := h₀, toks := s.toks + (ps.zip us).length } := inv_startK S kc hr.hd e0 hl r hns hk
  refine ks_wpAt_mono (hT [] _ (L2.start N vs) H _ I hq) (fun fl s' hs => ?_) fun e s' hs => hs
  have fin : ∀ {σ' : L2.St} {H' : Hp} {v : V} {u : Value}, Inv (cxK CX P w K mg base N qual scope f (.ref cda) cc A outer s H E) [] σ' H' s' → RelV v u → Q v H' → CE outer P w H s Q u s' :=
    fun {σ' H' v u} J rv q => ⟨v, H', J.os, J.bare, J.base, J.hok, rv, q⟩
  cases fl with
  | ret u =>
    obtain ⟨v, σ', H', J, rv, q⟩ := hs
    exact fin J rv q
  | next =>
    obtain ⟨σ', H', J, q⟩ := hs
    exact fin (v := V.non) (u := Value.none) J rfl q
  | brk =>
    obtain ⟨_, _, _, q⟩ := hs
    exact False.elim q
  | cont =>
    obtain ⟨_, _, _, q⟩ := hs
    exact False.elim q
theorem fi_ofS {N ps : List Str} {k : Nat} {m : MS} (F : XnF P K f cc x qual params body scope fd) (S : FnScopeK N ps scope) (kc : ∃ ccl cld csl, K.lookup cc = some ⟨ccl, cld, .cell (some (.ref D)), csl⟩)
    (hsup : mg "super" = none) (htop : (P.main.scope.names.lookup ("super" : Str)).isSome = false) (hks : scope.names.lookup ("super" : Str) = some .globalImplicit) (hkc : scope.names.lookup ("__class__" : Str) = some .free)
    (hpar : ∃ ar, (params.posonlyargs ++ params.args).head? = some ar ∧ ar.arg = x0) (h0 : N[0]? = some x0) (hloc : scope.names.lookup x0 = some .local)
    (hb : ∀ (cda : Addr) (A : Around) (outer : List Env) (s : Shared) (H : Hp) (E : XK), Room k (A.deeper (kEnv qual scope s.heap.objs.size f (.ref cda) cc)) → SupX (cxK (L2.CX P w) P w K mg base N qual scope f (.ref cda) cc A outer s H E) f cda cc x0 →
      ISsC (cxK (L2.CX P w) P w K mg base N qual scope f (.ref cda) cc A outer s H E) (topW E) (.func body (kEnv qual scope s.heap.objs.size f (.ref cda) cc)) body m) : FI P w K mg base (k + 1) f fd ps (fnOf ps.length N.length m) := by
  obtain ⟨oc, od, kV, doc, pm, an, cda, ct, osl, rfl, lk, hcd, hfile⟩ := F.ex
  obtain ⟨ccl, cld, csl, hcl⟩ := kc
  obtain ⟨ar, har, hax⟩ := hpar
  refine fn_ofC lk hcd S hcl (fun vs H Q E h => ?_) (fun A outer s H vs Q E hr h => ⟨_, hb cda A outer s H E hr ⟨rfl, ⟨oc, od, osl, _, ar, lk, har, hax⟩, rfl, hfile, rfl, hsup, hks, hkc, hloc, h0, htop⟩, ?_⟩)
  · obtain ⟨ρ, S, ws, _, r, e, _⟩ := h
    rw [← r.length]; exact e
  · obtain ⟨ρ, S, ws, hS, r, e, h⟩ := h
    unfold fnOf at h
    rw [if_pos e] at h
    have el : L2.start N vs = vs.map some ++ List.replicate (N.length - ps.length) none := by
      unfold L2.start
      rw [← r.length, e]
    refine ⟨ρ, S, ws.map some ++ List.replicate (N.length - ps.length) none, hS, by rw [el]; exact RL.start (N.length - ps.length) r, ?_⟩
    cases hm : m (ws.map some ++ List.replicate (N.length - ps.length) none) S with
    | nx a S' => rw [hm] at h; exact fun ρ' H' σ' e' s' _ => h ρ' H' _ e' s' .non
    | rt a S' => rw [hm] at h; exact fun ρ' H' v e' s' r' => h ρ' H' v e' s' r'
    | exc a b S' => rw [hm] at h; exact fun ρ' H' σ' c d e' s' _ q => h ρ' H' c d e' s' q
    | bk a S' => rw [hm] at h; exact h.elim
    | ct a S' => rw [hm] at h; exact h.elim
    | bad => rw [hm] at h; exact h.elim
end
def supB (C D m B m0 : Str) (K : PySem.W.Frag) : Bool := cellB K (ccAt (C, some m0) K) (He.ga K D) && ((PySem.W.clsIn K (He.ga K D)).isSome && (decide (PySem.W.mroIn K (He.ga K C) (.ref (He.ga K D)) = some true) && (decide (PySem.W.nsIn K cStatics "thirdparty.any" = some none) &&
  (decide (PySem.W.ks_superIn K (He.ga K C) (He.ga K D) m = some (some (.ref (He.fAd K (B, some m))))) && (decide (PySem.W.typeIn K (.ref (He.fAd K (B, some m))) = some (.type "function")) && PySem.W.fnIn K (He.fAd K (B, some m)))))))
theorem sup_ok {C D m B m0 : Str} {K : PySem.W.Frag} (h : supB C D m B m0 K = true) : SupC K (He.ga K D) (He.ga K C) (ccAt (C, some m0) K) (He.fAd K (B, some m)) m := by
  obtain ⟨h1, h⟩ := Bool.and_eq_true_iff.mp h
  obtain ⟨h2, h⟩ := Bool.and_eq_true_iff.mp h
  obtain ⟨h3, h⟩ := Bool.and_eq_true_iff.mp h
  obtain ⟨h4, h⟩ := Bool.and_eq_true_iff.mp h
  obtain ⟨h5, h⟩ := Bool.and_eq_true_iff.mp h
  obtain ⟨h6, h7⟩ := Bool.and_eq_true_iff.mp h
  refine ⟨?_, Option.isSome_iff_exists.mp h2, of_decide_eq_true h3, of_decide_eq_true h4, of_decide_eq_true h5, of_decide_eq_true h6, h7⟩
  unfold cellB at h1
  split at h1
  · rename_i a b D c hl
    rw [of_decide_eq_true h1] at hl
    exact ⟨a, b, c, hl⟩
  · cases h1
end GL
set_option Elab.async false
set_option linter.all false
set_option maxRecDepth 100000
set_option maxHeartbeats 400000
namespace GL
open PySem PySem.Spec PyProof.Rows L2
end GL
set_option Elab.async false
set_option linter.all false
set_option maxRecDepth 100000
set_option maxHeartbeats 1000000
namespace GL
open PySem PySem.Spec PyProof.Rows L2
def inDp (neg : Bool) : PV → PV → Sto → Out PV := fun a b S => match datP S 60 a, datP S 60 b with
  | some d, some (.tuple ds) => .ok (.bl (if neg = true then !ds.any fun z => PyData.eqv z d else ds.any fun z => PyData.eqv z d)) S
  | some d, some (.list ds) => .ok (.bl (if neg = true then !ds.any fun z => PyData.eqv z d else ds.any fun z => PyData.eqv z d)) S
  | _, _ => .bad
def rInX (K : PySem.W.Frag) (neg : Bool) : R2 := fun x y H Q => ∃ d ds, Dp K H x d ∧ (Dp K H y (.list ds) ∨ Dp K H y (.tuple ds)) ∧ d.canLay0 = true ∧ d.depth ≤ 60 ∧ PyData.canLayAll0 ds = true ∧
  Q (.bl (if neg = true then !ds.any fun z => PyData.eqv z d else ds.any fun z => PyData.eqv z d)) H
theorem room_60 {A : Around} {xs : List PyData} {d : PyData} (h1 : d.depth ≤ 60) (hu : A.units + 64 < cLine) : A.units + 1 + min (PyData.depthAll xs) d.depth < cLine := by
  have h2 : min (PyData.depthAll xs) d.depth ≤ d.depth := Nat.min_le_right _ _
  omega
section
variable {X : Cx} {Wx : WX}
theorem op_notInX (hu : X.A.units + 64 < cLine) : OpR X (compareOp .NotIn) (rInX X.K true) := by
  intro pins s σ H x y v u Q I rx ry h
  obtain ⟨d, ds, hd, he, sd, sz, se, q⟩ := h
  obtain ⟨as, r1⟩ := Dp.reads I d x v hd rx
  rcases he with he | he
  · obtain ⟨bs, r2⟩ := Dp.reads I (.list ds) y u he ry
    exact SeqAt.notIn_list_reads r2 r1 se sd (room_60 sz hu) ⟨.bl _, H, I, rfl, q⟩
  · obtain ⟨bs, r2⟩ := Dp.reads I (.tuple ds) y u he ry
    exact SeqAt.notIn_tuple_reads r2 r1 se sd (room_60 sz hu) ⟨.bl _, H, I, rfl, q⟩
theorem oi_inX {neg : Bool} : OpI X Wx (rInX X.K neg) (inDp neg) := by
  intro ρ S H w1 w2 x y Ex Q hS r1 r2 h
  unfold inDp at h
  split at h
  · rename_i d ds e1 e2
    have c2 : (PyData.tuple ds).canLay0 = true := (datP_ok e2).1
    exact ⟨d, ds, datP_dp hS r1 e1, .inr (datP_dp hS r2 e2), (datP_ok e1).1, (datP_ok e1).2, by simpa [PyData.canLay0] using c2, h.here hS (.bl _)⟩
  · rename_i d ds e1 e2
    have c2 : (PyData.list ds).canLay0 = true := (datP_ok e2).1
    exact ⟨d, ds, datP_dp hS r1 e1, .inl (datP_dp hS r2 e2), (datP_ok e1).1, (datP_ok e1).2, by simpa [PyData.canLay0] using c2, h.here hS (.bl _)⟩
  · exact h.elim
end
end GL
set_option Elab.async false
set_option linter.all false
set_option maxRecDepth 100000
set_option maxHeartbeats 2000000
namespace GL
open PySem PySem.Spec PyProof.Rows L2
variable {pw : PgW}
def nkOf : PV → Option NestedKey
  | .tup xs => match keyN (.tup xs) with
    | some k => if k.depth ≤ 8 then some k else none
    | none => none
  | _ => none
def lookNk (k : NestedKey) : List (PV × PV) → Option PV
  | [] => none
  | (a, w) :: r => if nkOf a = some k then some w else lookNk k r
def setNk (k : NestedKey) (w : PV) : List (PV × PV) → List (PV × PV)
  | [] => []
  | (a, v) :: r => (if nkOf a = some k then (a, w) else (a, v)) :: setNk k w r
def putNk (y : PV) (k : NestedKey) (w : PV) (kvs : List (PV × PV)) : List (PV × PV) := match lookNk k kvs with
  | some _ => setNk k w kvs
  | none => kvs ++ [(y, w)]
theorem nkOf_tup {y : PV} {k : NestedKey} (h : nkOf y = some k) : ∃ xs, y = .tup xs ∧ keyN (.tup xs) = some k ∧ k.depth ≤ 8 := by
  unfold nkOf at h
  split at h
  · rename_i xs
    split at h
    · rename_i k2 e
      split at h
      · rename_i hd
        cases h; exact ⟨xs, rfl, e, hd⟩
      · cases h
    · cases h
  · cases h
theorem nkOf_of {xs : List PV} {k : NestedKey} (h : keyN (.tup xs) = some k) (hd : k.depth ≤ 8) : nkOf (.tup xs) = some k := by
  unfold nkOf
  dsimp only
  rw [h]
  exact if_pos hd
section
variable {X : Cx} {pins : List (Addr × Obj)} {σ : L2.St} {H : Hp} {s : Shared} {ρ : Nat → Addr} {N : Nat}
mutual
theorem nis_of (I : Inv X pins σ H s) : ∀ {w : PV} {v : V} {u : Value} {k : NestedKey}, RW X.K ρ N H w v → RelV v u → keyN w = some k → NestedIs s.heap k u
  | _, _, _, _, .non, ru, h => by
    have ru : _ = Value.none := ru
    subst ru
    simp only [keyN] at h; cases h; exact .none
  | _, _, _, _, .bl b, ru, h => by
    have ru : _ = Value.bool b := ru
    subst ru
    simp only [keyN] at h; cases h; exact .bool rfl
  | _, _, _, _, .int i, ru, h => by
    obtain ⟨t, rfl⟩ := ru
    simp only [keyN] at h; cases h; exact .int _ _
  | _, _, _, _, .str x, ru, h => by
    obtain ⟨t, rfl⟩ := ru
    simp only [keyN, toS_cps] at h; cases h; exact .text _ _
  | _, _, _, _, .tup (xs := xs) (a := a) hq hs, ru, h => by
    have ru : _ = Value.ref a := ru
    subst ru
    simp only [keyN] at h
    cases e : keyNs xs with
    | none => rw [e] at h; cases h
    | some ks =>
      rw [e] at h
      cases h
      obtain ⟨its, r, ⟨o, ho, hc, n, hd⟩, hz⟩ := I.tuple hq
      exact .tup ho hc hd (by simpa using nis_all I hs r e)
  | _, _, _, _, .loc n hn, ru, h => by simp only [keyN] at h; cases h
  | _, _, _, _, .gl x, ru, h => by simp only [keyN] at h; cases h
  | _, _, _, _, .ty n, ru, h => by simp only [keyN] at h; cases h
  | _, _, _, _, .xn _ _ _, ru, h => by simp only [keyN] at h; cases h
theorem nis_all (I : Inv X pins σ H s) : ∀ {ws : List PV} {vs : List V} {us : List Value} {ks : List NestedKey}, RWs X.K ρ N H ws vs → Vals vs us → keyNs ws = some ks → NestedAll s.heap ks us
  | _, _, _, _, .nil, .nil, h => by simp only [keyNs] at h; cases h; exact .nil
  | _, _, _, _, .cons (w := w) (ws := ws) r t, .cons ru tu, h => by
    simp only [keyNs] at h
    cases e1 : keyN w with
    | none => rw [e1] at h; cases h
    | some k =>
      cases e2 : keyNs ws with
      | none => rw [e1, e2] at h; cases h
      | some ks =>
        rw [e1, e2] at h
        cases h
        exact .cons (nis_of I r ru e1) (nis_all I t tu e2)
end
theorem rns_is (I : Inv X pins σ H s) : ∀ {kvs : List (PV × PV)} {xs : List (NestedKey × Addr × V)} {ys : List (NestedKey × Addr × Value)}, RNs X.K ρ N H kvs xs → KVN xs ys → ∀ y ∈ ys, (nestedKind X.prog X.w).is s.heap y.1 y.2.1
  | _, _, _, .nil, .nil, y, hy => by cases hy
  | _, _, _, .cons (kk := kk) (t := t) hk hd hr h hs, .cons (b := q) p tl, y, hy => by
    rcases List.mem_cons.mp hy with rfl | hy
    · obtain ⟨p1, p2, _⟩ := p
      rw [← p1, ← p2]
      exact ⟨nis_of I hr (show RelV (.ref t) (.ref t) from rfl) hk, hd⟩
    · exact rns_is I hs tl y hy
end
section
variable {K : PySem.W.Frag} {ρ : Nat → Addr} {N : Nat} {H : Hp} {k : NestedKey}
theorem rns_look : ∀ {kvs : List (PV × PV)} {xs : List (NestedKey × Addr × V)} {ys : List (NestedKey × Addr × Value)}, RNs K ρ N H kvs xs → KVN xs ys →
    (∀ w, lookNk k kvs = some w → ∃ t v u, atKey ys k = some (t, u) ∧ RelV v u ∧ RW K ρ N H w v) ∧ (lookNk k kvs = none → atKey ys k = none)
  | _, _, _, .nil, .nil => ⟨fun w h => (by cases h), fun _ => rfl⟩
  | _, _, _, .cons (k := a) (w := w0) (kk := kk) (t := t) (v := v0) (r := r) hk hd hr h hs, .cons (b := q) (l₂ := tl) p pt => by
    obtain ⟨h1, h2⟩ := rns_look hs pt
    obtain ⟨p1, p2, p3⟩ := p
    have en : nkOf (.tup a) = some kk := nkOf_of hk hd
    unfold lookNk
    rw [en]
    have ea : atKey (q :: tl) k = if kk = k then some (q.2.1, q.2.2) else atKey tl k := by
      have p1 : kk = q.1 := p1
      unfold atKey
      rw [List.find?_cons, ← p1]
      by_cases e : kk = k
      · rw [if_pos e, decide_eq_true e]; rfl
      · rw [if_neg e, decide_eq_false e]
    rw [ea]
    by_cases e : kk = k
    · rw [if_pos (congrArg some e), if_pos e]
      exact ⟨fun w z => by cases z; exact ⟨_, _, _, rfl, p3, h⟩, fun z => by cases z⟩
    · rw [if_neg (fun z => e (Option.some.inj z)), if_neg e]
      exact ⟨h1, h2⟩
theorem rns_len : ∀ {kvs : List (PV × PV)} {xs : List (NestedKey × Addr × V)}, RNs K ρ N H kvs xs → kvs.length = xs.length
  | _, _, .nil => rfl
  | _, _, .cons _ _ _ _ t => by simp [rns_len t]
theorem kvn_len {xs : List (NestedKey × Addr × V)} {ys : List (NestedKey × Addr × Value)} (h : KVN xs ys) : xs.length = ys.length := Paired.length h
theorem rns_app : ∀ {a b : List (PV × PV)} {x y : List (NestedKey × Addr × V)}, RNs K ρ N H a x → RNs K ρ N H b y → RNs K ρ N H (a ++ b) (x ++ y)
  | _, _, _, _, .nil, s => s
  | _, _, _, _, .cons h1 h2 h3 h4 t, s => .cons h1 h2 h3 h4 (rns_app t s)
theorem kvn_app : ∀ {a b : List (NestedKey × Addr × V)} {x y : List (NestedKey × Addr × Value)}, KVN a x → KVN b y → KVN (a ++ b) (x ++ y)
  | _, _, _, _, .nil, s => s
  | _, _, _, _, .cons p t, s => .cons p (kvn_app t s)
theorem rns_set {w : PV} {v : V} {u : Value} (rw_ : RW K ρ N H w v) (rv : RelV v u) : ∀ {kvs : List (PV × PV)} {xs : List (NestedKey × Addr × V)} {ys : List (NestedKey × Addr × Value)}, RNs K ρ N H kvs xs → KVN xs ys →
    ∃ xs', RNs K ρ N H (setNk k w kvs) xs' ∧ KVN xs' (ys.map (putAt k u)) ∧ xs'.length = xs.length
  | _, _, _, .nil, .nil => ⟨[], .nil, .nil, rfl⟩
  | _, _, _, .cons (k := a) (w := w0) (kk := kk) (t := t) (v := v0) (r := r) (r' := r') hk hd hr h hs, .cons (b := q) (l₂ := tl) p pt => by
    obtain ⟨xs', a1, a2, a3⟩ := rns_set rw_ rv hs pt
    obtain ⟨p1, p2, p3⟩ := p
    have p1 : kk = q.1 := p1
    have en : nkOf (.tup a) = some kk := nkOf_of hk hd
    unfold setNk
    rw [en, List.map_cons]
    by_cases e : kk = k
    · refine ⟨(kk, t, v) :: xs', ?_, ?_, by simp [a3]⟩
      · rw [if_pos (congrArg some e)]; exact .cons hk hd hr rw_ a1
      · unfold putAt
        rw [if_pos (p1.symm.trans e)]
        exact .cons ⟨p1, p2, rv⟩ a2
    · refine ⟨(kk, t, v0) :: xs', ?_, ?_, by simp [a3]⟩
      · rw [if_neg (fun z => e (Option.some.inj z))]; exact .cons hk hd hr h a1
      · unfold putAt
        rw [if_neg (fun z => e (p1.trans z))]
        exact .cons ⟨p1, p2, p3⟩ a2
theorem rns_put {y : List PV} {t : Addr} {w : PV} {v : V} {u : Value} (hk : keyN (.tup y) = some k) (hd : k.depth ≤ 8) (hr : RW K ρ N H (.tup y) (.ref t)) (rw_ : RW K ρ N H w v) (rv : RelV v u)
    {kvs : List (PV × PV)} {xs : List (NestedKey × Addr × V)} {ys : List (NestedKey × Addr × Value)} (r : RNs K ρ N H kvs xs) (p : KVN xs ys) :
    ∃ xs', RNs K ρ N H (putNk (.tup y) k w kvs) xs' ∧ KVN xs' (storedH ys k t u) ∧ xs'.length ≤ xs.length + 1 := by
  obtain ⟨h1, h2⟩ := rns_look (k := k) r p
  unfold putNk
  cases e : lookNk k kvs with
  | some w0 =>
    obtain ⟨t0, v0, u0, e2, _⟩ := h1 w0 e
    obtain ⟨xs', a1, a2, a3⟩ := rns_set (k := k) rw_ rv r p
    exact ⟨xs', a1, by rw [storedH_old e2]; exact a2, by omega⟩
  | none =>
    refine ⟨xs ++ [(k, t, v)], rns_app r (.cons hk hd hr rw_ .nil), ?_, by simp⟩
    rw [storedH_new (h2 e)]
    exact kvn_app p (.cons ⟨rfl, rfl, rv⟩ .nil)
end
def dcnAt (S : Sto) (n : Nat) : Option (List (PV × PV)) := match S[n]? with
  | some (.dcn kvs) => some kvs
  | _ => none
theorem dcnAt_get {S : Sto} {n : Nat} {kvs : List (PV × PV)} (h : dcnAt S n = some kvs) : S[n]? = some (.dcn kvs) := by
  unfold dcnAt at h
  split at h
  · rename_i e; cases h; exact e
  · cases h
theorem dcn_of {X : Cx} {pins : List (Addr × Obj)} {σ : L2.St} {H : Hp} {s : Shared} {ρ : Nat → Addr} {S : Sto} {n : Nat} {kvs : List (PV × PV)} (I : Inv X pins σ H s) (hS : RSt (pwX X) X.K ρ H S) (h : dcnAt S n = some kvs) :
    ∃ xs ys, H (ρ n) = some (.ext (DcnH (pwX X) (ρ n) xs)) ∧ RNs X.K ρ S.length H kvs xs ∧ KVN xs ys ∧ (ρ n == sysModules) = false ∧ xs.length ≤ sizeLine ∧ s.heap.DictOfH (nestedKind X.prog X.w) (ρ n) ys := by
  obtain ⟨xs, e, r⟩ := hS.at_ _ _ (dcnAt_get h)
  obtain ⟨hp, _, _⟩ := I.hok _ _ e
  obtain ⟨h0, hz, ys, p, o, es, ep, ho, hc, hd, he, hn⟩ := hp
  exact ⟨xs, ys, e, r, p, h0, hz, o, es, ep, ho, hc, hd, he, rns_is I r p, hn⟩
def eNGet (d k : ME) : ME := fun ls S => (d ls S).bind fun w S1 => (k ls S1).bind fun y S2 => match nkOf y with
  | some nk => (match w with
    | .loc n => (match dcnAt S2 n with
      | some kvs => (match lookNk nk kvs with
        | some v => .ok v S2
        | none => .bad)
      | none => .bad)
    | _ => .bad)
  | none => .bad
def eNIn (neg : Bool) (k d : ME) : ME := fun ls S => (k ls S).bind fun y S1 => (d ls S1).bind fun w S2 => match w, nkOf y with
  | .loc n, some nk => (match dcnAt S2 n with
    | some kvs => .ok (.bl (if neg = true then !(lookNk nk kvs).isSome else (lookNk nk kvs).isSome)) S2
    | none => .bad)
  | _, _ => .bad
def sNPut (d k e : ME) : MS := fun ls S => (e ls S).then ls fun v S1 => (d ls S1).then ls fun w S2 => (k ls S2).then ls fun y S3 => match nkOf y with
  | some nk => (match w with
    | .loc n => (match dcnAt S3 n with
      | some kvs => if kvs.length < 1000 then .nx ls (S3.set n (.dcn (putNk y nk v kvs))) else .bad
      | none => .bad)
    | _ => .bad)
  | none => .bad
def eNDisp (k e : ME) : ME := fun ls S => (k ls (S ++ [.dcn []])).bind fun y S1 => (e ls S1).bind fun v S2 => match nkOf y, S2[S.length]? with
  | some _, some (.dcn []) => .ok (.loc S.length) (S2.set S.length (.dcn [(y, v)]))
  | _, _ => .bad
theorem nroom {A : Around} (hu : A.units + 64 < cLine) {P : Program} {w : World} : (nestedKind P w).room A.in1 := by
  show A.units + 1 + 8 < cLine
  omega
section
variable {X : Cx} {Wx : L2.WX} {d k e : Expr} {md mk me : ME} {pos pos' : Pos} {neg : Bool}
theorem ie_nget (hu : X.A.units + 64 < cLine) (hd : IE X Wx d md) (hk : IE X Wx k mk) (hs : NoSl k := by exact fun _ _ => rfl) : IE X Wx (.Subscript d k pos) (eNGet md mk) := by
  refine ⟨fun pins s σ H Q I h => ?_⟩
  obtain ⟨ρ, S, ls, hS, hL, h⟩ := h
  refine subD_of PySem.F.slot_dict_getitem.lookup hs (thn (hd.run pins s σ H _ I ⟨ρ, S, ls, hS, hL, Post.bind (R := RW) h⟩) fun u s1 ⟨x, H1, I1, rx, ρ1, S1, w1, e1, hS1, r1, h1⟩ =>
    thn (hk.run pins s1 σ H1 _ I1 ⟨ρ1, S1, ls, hS1, hL.ext e1, Post.bind (R := RW) h1⟩) fun iv s2 ⟨y, H2, I2, ry, ρ2, S2, w2, e2, hS2, r2, h2⟩ => ?_)
  have r1 := r1.ext e2
  split at h2
  · rename_i nk en
    obtain ⟨ws, rfl, hk, hdp⟩ := nkOf_tup en
    cases r1 with
    | loc n hn =>
      dsimp only at h2
      split at h2
      · rename_i kvs ek
        split at h2
        · rename_i v0 el
          obtain ⟨xs, ys, hH, rn, p, h0, hz, dd⟩ := dcn_of I2 hS2 ek
          have hi := nis_of I2 r2 ry hk
          cases r2 with
          | tup hq hqs =>
            obtain rfl : iv = Value.ref _ := ry
            obtain rfl : u = Value.ref _ := rx
            obtain ⟨t, v, u', ea, rv, rw'⟩ := (rns_look (k := nk) rn p).1 _ el
            exact ⟨dd.typeIs, wpAny_getItem_heap (nroom hu) ⟨hi, hdp⟩ dd ea ⟨v, H2, I2.tok _, rv, h2.here hS2 rw'⟩⟩
        · exact h2.elim
      · exact h2.elim
    | _ => exact False.elim h2
  · exact h2.elim
theorem pc_nnin (hu : X.A.units + 64 < cLine) (hk : IE X Wx k mk) (hd : IE X Wx d md) : PC X .NotIn k d (tE (pwX X) X.K Wx (eNIn true mk md)) := by
  refine ⟨fun pins s σ H Q I h => ?_⟩
  obtain ⟨ρ, S, ls, hS, hL, h⟩ := h
  refine thn (hk.run pins s σ H _ I ⟨ρ, S, ls, hS, hL, Post.bind (R := RW) h⟩) fun iv s1 ⟨y, H1, I1, ry, ρ1, S1, w1, e1, hS1, r1, h1⟩ =>
    thn (hd.run pins s1 σ H1 _ I1 ⟨ρ1, S1, ls, hS1, hL.ext e1, Post.bind (R := RW) h1⟩) fun u s2 ⟨x, H2, I2, rx, ρ2, S2, w2, e2, hS2, r2, h2⟩ => ?_
  have r1 := r1.ext e2
  split at h2
  · rename_i n nk en
    split at h2
    · rename_i kvs ek
      obtain ⟨ws, rfl, hk, hdp⟩ := nkOf_tup en
      cases r2 with
      | loc n hn =>
        obtain ⟨xs, ys, hH, rn, p, h0, hz, dd⟩ := dcn_of I2 hS2 ek
        have hi := nis_of I2 r1 ry hk
        cases r1 with
        | tup hq hqs =>
          obtain rfl : iv = Value.ref _ := ry
          obtain rfl : u = Value.ref _ := rx
          obtain ⟨q1, q2⟩ := rns_look (k := nk) rn p
          have es : (atKey ys nk).isSome = (lookNk nk kvs).isSome := by
            cases el : lookNk nk kvs with
            | some v0 => obtain ⟨t, v, u', ea, _⟩ := q1 v0 el; rw [ea]; rfl
            | none => rw [q2 el]; rfl
          show wpAny _ _ (do return Value.bool (!(← contains (.ref _) (.ref _)))) _ _ s2
          refine wpAny_bind (wpAny_contains_heap (nroom hu) ⟨hi, hdp⟩ h0 dd (wpAny_pure ?_))
          rw [es]
          exact ⟨.bl _, H2, I2.tok _, rfl, h2.here hS2 (.bl _)⟩
    · exact h2.elim
  · exact h2.elim
theorem it_nnin (hu : X.A.units + 64 < cLine) (hk : IE X Wx k mk) (hd : IE X Wx d md) (h1 : behindInMarks .NotIn d = false := by first | exact nobehind _ (by decide) (by decide) | rfl) : IT X Wx (.Compare k [.NotIn] [d] pos) (toT (eNIn true mk md)) :=
  PTi (pt_cmp (pc_nnin hu hk hd) h1) fun σ H Q h => test_in h
theorem dcn_obj {P : Program} {w : World} {H' : Hp} {h' : Heap} {a : Addr} {xs : List (NestedKey × Addr × V)} {ys : List (NestedKey × Addr × Value)} (h0 : (a == sysModules) = false) (hz : xs.length ≤ sizeLine) (p : KVN xs ys) (dd : h'.DictOfH (nestedKind P w) a ys) :
    ObjOk P w H' h' a (.ext (DcnH ⟨P, w⟩ a xs)) := by
  obtain ⟨o, es, ep, ho, hc, hd, he, _, hn⟩ := dd
  refine ⟨⟨h0, hz, ys, p, o, es, ep, ho, hc, hd, he, hn⟩, ⟨o, ho⟩, fun h1 h2 ⟨a0, az, ys1, p1, o1, es1, ep1, b1, b2, b3, b4, b5⟩ st => ⟨a0, az, ys1, p1, o1, es1, ep1, st _ b1, b2, b3, b4, b5⟩⟩
theorem is_nput (hu : X.A.units + 64 < cLine) (hd : IE X Wx d md) (hk : IE X Wx k mk) (he : IE X Wx e me) (hs : swapsWith e (some (.Subscript d k pos')) pos.line X.env = pure false := by rfl) : IS X Wx (.Assign [.Subscript d k pos'] e pos) (sNPut md mk me) := by
  refine ⟨fun pins s σ H D I h => ?_⟩
  obtain ⟨ρ, S, ls, hS, hL, h⟩ := h
  refine wpAny_Assign_Subscript (thn (he.run pins s σ H _ I ⟨ρ, S, ls, hS, hL, Post.then (R := RW) hL h⟩) fun r s1 ⟨v, H1, I1, rv, ρ1, S1, w1, e1, hS1, r1, h1⟩ =>
    thn (hd.run pins s1 σ H1 _ I1 ⟨ρ1, S1, ls, hS1, hL.ext e1, Post.then (R := RW) (hL.ext e1) h1⟩) fun u s2 ⟨x, H2, I2, rx, ρ2, S2, w2, e2, hS2, r2, h2⟩ =>
    thn (hk.run pins s2 σ H2 _ I2 ⟨ρ2, S2, ls, hS2, (hL.ext e1).ext e2, Post.then (R := RW) ((hL.ext e1).ext e2) h2⟩) fun iv s3 ⟨y, H3, I3, ry, ρ3, S3, w3, e3, hS3, r3, h3⟩ => ?_) hs
  have r2 := r2.ext e3
  have r1 := (r1.ext e2).ext e3
  split at h3
  · rename_i nk en
    obtain ⟨ws, rfl, hk, hdp⟩ := nkOf_tup en
    cases r2 with
    | loc n hn =>
      dsimp only at h3
      split at h3
      · rename_i kvs ek
        split at h3
        · rename_i hl
          have eg := dcnAt_get ek
          obtain ⟨xs, ys, hH, rn, p, h0, hz, dd⟩ := dcn_of I3 hS3 ek
          have hi := nis_of I3 r3 ry hk
          cases r3 with
          | tup hq hqs =>
            rename_i t vs
            obtain rfl : iv = Value.ref t := ry
            obtain rfl : u = Value.ref _ := rx
            obtain ⟨xs', a1, a2, a3⟩ := rns_put (k := nk) hk hdp (.tup hq hqs) r1 rv rn p
            have hlen := rns_len rn
            have hz' : xs'.length ≤ sizeLine := by rw [sizeLine_eq]; omega
            refine wpAny_setItem_heap (nroom hu) ⟨hi, hdp⟩ dd (fun h' dd' hs' => ?_) (by rw [← kvn_len p]; exact hz)
            have hex : ∃ q, h'.get? (ρ3 n) = some q := let ⟨q, _, _, hq, _⟩ := dd'; ⟨q, hq⟩
            have I4 := d_write (t' := s3.toks + (nestedKind X.prog X.w).draws nk) I3 (by rw [hH]; exact True.intro) hs' hex (dcn_obj (H' := upd H3 (ρ3 n) (.ext (DcnH ⟨X.prog, X.w⟩ (ρ3 n) xs'))) h0 hz' a2 dd')
            have e4 : Ext X.K ρ3 S3.length H3 ρ3 S3.length (upd H3 (ρ3 n) (.ext (DcnH (pwX X) (ρ3 n) xs'))) := ext_upd hH trivial
            have s4 := hS3.set (o' := .dcn (putNk (.tup ws) nk w1 kvs)) (ho := .ext (DcnH (pwX X) (ρ3 n) xs')) eg rfl rfl ⟨xs', upd_same, a1.ext e4⟩
            refine ⟨σ, _, I4, h3 ρ3 _ σ ?_ s4 ?_⟩
            · rw [List.length_set]; exact e4
            · rw [List.length_set]; exact (((hL.ext e1).ext e2).ext e3).ext e4
        · exact h3.elim
      · exact h3.elim
    | _ => exact False.elim h3
  · exact h3.elim
theorem wpAny_Dict_keyed {prog : Program} {w : World} {A : Around} {E : Value → Shared → Prop} {s : Shared} {env : Env} {keys : List (Option Expr)} {values : List Expr} {pos : Pos} {pairs : List (Sem Value × Sem Value)} {Q : Value → Shared → Prop} (hu : (nestedKind prog w).room A)
    (hshape : (evalEachOpt keys env).zip ((evalEach values env).map fun v => do let x ← v; standAt pos; pure x) = pairs.map fun p => (some p.1, p.2)) (h0 : pairs ≠ []) (hlen : pairs.length ≤ 15)
    (h : wpAny (model prog w) A (evalPairs pairs) (fun vs s₁ => ∃ ps, CarriesH (nestedKind prog w) s₁.heap vs ps ∧ s₁.heap.DictOfH (nestedKind prog w) s.heap.objs.size [] ∧
      ∀ h' tk, h'.DictOfH (nestedKind prog w) s.heap.objs.size (storedAllH [] ps) → Heap.SameBut s.heap.objs.size s₁.heap h' → Q (.ref s.heap.objs.size) { s₁ with heap := h', toks := tk }) E
      { s with heap := s.heap.push { cls := .type "dict", data := .dict #[] } }) :
    wpAny (model prog w) A (eval (.Dict keys values pos) env) Q E s := by
  rw [arm_eval_Dict, hshape, dictDisplay_pairs pairs h0 (by omega)]
  exact wpAny_bind (wpAny_standAt (wpAny_bind (wpAny_subDictH (knd := nestedKind prog w) (Q := fun d s' => wpAny (model prog w) A (pure (Value.ref d)) Q E s') hu hlen
    (wpAny_mono h (fun vs s₁ h₁ => by obtain ⟨ps, hc, hm, hq⟩ := h₁; exact ⟨ps, hc, hm, fun h' tk a b => wpAny_pure (hq h' tk a b)⟩) fun _ _ e => e))))
theorem ie_ndisp (hu : X.A.units + 64 < cLine) (hk : IE X Wx k mk) (he : IE X Wx e me) : IE X Wx (.Dict [some k] [e] pos) (eNDisp mk me) := by
  refine ⟨fun pins s σ H Q I h => ?_⟩
  obtain ⟨ρ, S, ls, hS, hL, h⟩ := h
  have hn := I.hok.fresh (Nat.le_refl s.heap.objs.size)
  have h0' : (s.heap.objs.size == sysModules) = false := beq_eq_false_iff_ne.mpr (Ne.symm (Nat.ne_of_lt I.big))
  have I1 := I.laid (a := s.heap.objs.size) (o := .ext (DcnH (pwX X) s.heap.objs.size [])) (h' := s.heap.push { cls := .type "dict", data := .dict #[] }) (t' := s.toks) (fun _ _ q => Heap.get?_push_of_some _ q) (Nat.le_refl _)
    (dcn_obj (ys := []) h0' (Nat.zero_le _) .nil (Heap.DictOfH.new s.heap))
  have e0 : Ext X.K ρ S.length H (grow ρ S.length s.heap.objs.size) (S ++ [OB.dcn []]).length (upd H s.heap.objs.size (.ext (DcnH (pwX X) s.heap.objs.size []))) := by rw [List.length_append, List.length_singleton]; exact ext_new hn
  have s0 : RSt (pwX X) X.K (grow ρ S.length s.heap.objs.size) (upd H s.heap.objs.size (.ext (DcnH (pwX X) s.heap.objs.size []))) (S ++ [OB.dcn []]) := hS.new hn rfl ⟨[], upd_same, .nil⟩
  have hlt : S.length < (S ++ [OB.dcn []]).length := by rw [List.length_append, List.length_singleton]; exact Nat.lt_succ_self _
  refine wpAny_Dict_keyed (by show X.A.units + 8 < cLine; omega) (zip_pairTrees [some k] [e] X.env pos rfl rfl) (fun z => by cases z) (by show 1 ≤ 15; decide) ?_
  refine pairTrees_cons_walk (thn (hk.run pins _ σ _ _ I1 ⟨_, _, ls, s0, hL.ext e0, Post.bind (R := RW) (Post.ext e0 h)⟩) fun iv s1 ⟨y, H1, I1, ry, ρ1, S1, w1, e1, hS1, r1, h1⟩ =>
    thn (he.run pins s1 σ H1 _ I1 ⟨ρ1, S1, ls, hS1, (hL.ext e0).ext e1, Post.bind (R := RW) h1⟩) fun r s2 ⟨v, H2, I2, rv, ρ2, S2, w2, e2, hS2, r2, h2⟩ => pairTrees_nil_walk ?_)
  have r1 := r1.ext e2
  have ep : ρ2 S.length = s.heap.objs.size := by rw [e2.2.1 _ (Nat.lt_of_lt_of_le hlt e1.1), e1.2.1 _ hlt, grow_new]
  split at h2
  · rename_i nk en eg
    obtain ⟨ws, rfl, hk, hdp⟩ := nkOf_tup en
    have ek : dcnAt S2 S.length = some [] := by unfold dcnAt; rw [eg]
    obtain ⟨xs, ys, hH, rn, p, h0, hz, dd⟩ := dcn_of I2 hS2 ek
    cases rn
    cases p
    rw [ep] at hH dd
    have hi := nis_of I2 r1 ry hk
    cases r1 with
    | tup hq hqs =>
      rename_i t vs
      obtain rfl : iv = Value.ref t := ry
      refine ⟨[(nk, t, r)], ⟨rfl, rfl, ⟨hi, hdp⟩, trivial⟩, dd, fun h' tk dd' hs' => ?_⟩
      have p' : KVN [(nk, t, v)] [(nk, t, r)] := .cons ⟨rfl, rfl, rv⟩ .nil
      have hex : ∃ q, h'.get? s.heap.objs.size = some q := let ⟨q, _, _, hq, _⟩ := dd'; ⟨q, hq⟩
      have I4 := d_write (t' := tk) I2 (by rw [hH]; exact True.intro) hs' hex (dcn_obj (H' := upd H2 s.heap.objs.size (.ext (DcnH ⟨X.prog, X.w⟩ s.heap.objs.size [(nk, t, v)]))) h0' (by rw [sizeLine_eq]; show 1 ≤ 16777216; decide) p' dd')
      have e4 : Ext X.K ρ2 S2.length H2 ρ2 S2.length (upd H2 s.heap.objs.size (.ext (DcnH (pwX X) s.heap.objs.size [(nk, t, v)]))) := ext_upd hH trivial
      have rn' : RNs X.K ρ2 S2.length H2 [(.tup ws, w2)] [(nk, t, v)] := .cons hk hdp (.tup hq hqs) r2 .nil
      have s4 := hS2.set (o' := .dcn [(.tup ws, w2)]) (ho := .ext (DcnH (pwX X) (ρ2 S.length) [(nk, t, v)])) eg rfl rfl ⟨[(nk, t, v)], upd_same, by rw [ep]; exact rn'.ext e4⟩
      rw [ep] at s4
      refine ⟨.ref s.heap.objs.size, _, I4, rfl, h2 ρ2 _ _ (by rw [List.length_set]; exact e4) s4 ?_⟩
      have q : RW X.K ρ2 S2.length (upd H2 s.heap.objs.size (.ext (DcnH (pwX X) s.heap.objs.size [(nk, t, v)]))) (.loc S.length) (.ref (ρ2 S.length)) := .loc _ (Nat.lt_of_lt_of_le hlt (Nat.le_trans e1.1 e2.1))
      rw [ep] at q
      rw [List.length_set]; exact q
  · exact h2.elim
end
end GL
set_option Elab.async false
set_option linter.all false
set_option maxRecDepth 100000
set_option maxHeartbeats 400000
namespace GL
open PySem PySem.Spec PyProof.Rows L2
section
variable {X : Cx} {Wx : L2.WX}
def lookB (C : Nm) : List (Nm × Bool) → Option Bool
  | [] => none
  | p :: r => if p.1 = C then some p.2 else lookB C r
theorem lookB_mem {C : Nm} {b : Bool} : ∀ {tbl : List (Nm × Bool)}, lookB C tbl = some b → (C, b) ∈ tbl
  | [], h => by cases h
  | p :: r, h => by
    unfold lookB at h
    split at h
    · rename_i e
      cases h
      subst e
      exact List.mem_cons_self
    · exact List.mem_cons_of_mem _ (lookB_mem h)
def fIsO (tbl : List (Nm × Bool)) (T : Nm) : MF := fun ws S => match ws with
  | [w, .gl D] => if D = T then (match insAt S w with
    | some (_, C, _) => (match lookB C tbl with
      | some b => .ok (.bl b) S
      | none => .bad)
    | none => .bad) else .bad
  | _ => .bad
def isoB (tbl : List (Nm × Bool)) (T : Nm) (K : PySem.W.Frag) : Bool :=
  (He.eqO (PySem.W.specialIn K (.builtin "object.__class__") "__get__") (some (some (.builtin "getset_descriptor.__get__"))) && decide (PySem.W.takesIn K (.builtin "object.__class__") = some true)) &&
  tbl.all fun p => (He.Fa.ok K (.cls (toS p.1)) && He.eqO (PySem.W.findIn K (.ref (He.ga K (toS p.1))) "__class__") (some (some (.builtin "object.__class__")))) &&
    (decide (PySem.W.mroIn K (He.ga K (toS p.1)) (.type "object") = some true) && decide (PySem.W.kitOne K (.ref (He.ga K (toS p.1))) (.ref (He.ga K (toS T))) = some p.2))
theorem ci_iso {tbl : List (Nm × Bool)} {T : Nm} (hB : isoB tbl T X.K = true) : CallI X (rIsi X.K) (fIsO tbl T) := by
  intro ρ S H ws vs Ex Q hS r h
  unfold fIsO at h
  split at h
  · split at h
    · rename_i hD
      subst hD
      split at h
      · rename_i n C fs ei
        split at h
        · rename_i b eb
          cases r with
          | cons r1 t => cases t with
            | cons r2 t =>
              cases t; cases r2
              obtain ⟨rfl, dx, fs', hH, _⟩ := ins_of hS r1 ei
              unfold isoB at hB
              obtain ⟨hB, hT⟩ := Bool.and_eq_true_iff.mp hB
              obtain ⟨h1, h2⟩ := Bool.and_eq_true_iff.mp hB
              have hp := List.all_eq_true.mp hT (C, b) (lookB_mem eb)
              obtain ⟨p1, p2⟩ := Bool.and_eq_true_iff.mp hp
              obtain ⟨p1, p3⟩ := Bool.and_eq_true_iff.mp p1
              obtain ⟨p2, p4⟩ := Bool.and_eq_true_iff.mp p2
              exact ⟨_, _, _, _, b, rfl, .own _, .base (.ins hH (He.cls_ok p1) (He.eqO_ok p3) (He.eqO_ok h1) (of_decide_eq_true h2) (of_decide_eq_true p2)), of_decide_eq_true p4, h.here hS (.bl _)⟩
        · exact h.elim
      · exact h.elim
    · exact h.elim
  · exact h.elim
end
end GL
set_option Elab.async false
set_option linter.all false
set_option maxRecDepth 100000
set_option maxHeartbeats 400000
namespace K74
open GL
open PySem (Str)
abbrev n_first : List Nat := [102, 105, 114, 115, 116]
abbrev n_rows : List Nat := [114, 111, 119, 115]
abbrev n_between : List Nat := [98, 101, 116, 119, 101, 101, 110]
abbrev n_Handshake : List Nat := [72, 97, 110, 100, 115, 104, 97, 107, 101]
abbrev n___init__ : List Nat := [95, 95, 105, 110, 105, 116, 95, 95]
abbrev n_waiting_counts : List Nat := [119, 97, 105, 116, 105, 110, 103, 95, 99, 111, 117, 110, 116, 115]
abbrev n_StuckSearch : List Nat := [83, 116, 117, 99, 107, 83, 101, 97, 114, 99, 104]
abbrev n_Table : List Nat := [84, 97, 98, 108, 101]
abbrev n_start : List Nat := [115, 116, 97, 114, 116]
abbrev n_pass : List Nat := [112, 97, 115, 115]
abbrev n_waiting : List Nat := [119, 97, 105, 116, 105, 110, 103]
abbrev n_may_pass : List Nat := [109, 97, 121, 95, 112, 97, 115, 115]
abbrev n__ : List Nat := [32]
abbrev n_moves : List Nat := [109, 111, 118, 101, 115]
abbrev n_scenario : List Nat := [115, 99, 101, 110, 97, 114, 105, 111]
abbrev n_amid : List Nat := [97, 109, 105, 100]
abbrev n_hit : List Nat := [104, 105, 116]
abbrev n_finish : List Nat := [102, 105, 110, 105, 115, 104]
abbrev n_begin : List Nat := [98, 101, 103, 105, 110]
abbrev n_states : List Nat := [115, 116, 97, 116, 101, 115]
abbrev n_pass_ : List Nat := [112, 97, 115, 115, 32]
abbrev n_finish_ : List Nat := [102, 105, 110, 105, 115, 104, 32]
abbrev n_hit_1 : List Nat := [104, 105, 116, 32, 49]
abbrev n_hit_0 : List Nat := [104, 105, 116, 32, 48]
abbrev n_begin_1 : List Nat := [98, 101, 103, 105, 110, 32, 49]
abbrev n_begin_0 : List Nat := [98, 101, 103, 105, 110, 32, 48]
abbrev n_again : List Nat := [97, 103, 97, 105, 110]
def tabL : List (Nm × Nm) := [(n_Table, n_first), (n_Table, n_rows), (n_Handshake, n_first), (n_Handshake, n_rows), (n_Handshake, n_waiting_counts), (n_StuckSearch, n_first), (n_StuckSearch, n_rows), (n_StuckSearch, n_waiting_counts)]
def tab (C f : Nm) : Bool := tabL.any fun p => decide (p.1 = C) && decide (p.2 = f)
abbrev w_BAD : PV := (.str [98, 97, 100])
abbrev w_DEEDS : PV := (.tup [(.tup [(.str [98, 101, 103, 105, 110]), (.str [98, 101, 116, 119, 101, 101, 110]), (.str [97, 109, 105, 100])]), (.tup [(.str [102, 105, 110, 105, 115, 104]), (.str [97, 109, 105, 100]), (.str [98, 101, 116, 119, 101, 101, 110])]), (.tup [(.str [104, 105, 116]), (.str [97, 109, 105, 100]), (.str [119, 97, 105, 116, 105, 110, 103])]), (.tup [(.str [112, 97, 115, 115]), (.str [119, 97, 105, 116, 105, 110, 103]), (.str [98, 101, 116, 119, 101, 101, 110])])])
abbrev w_PROCESSORS : PV := (.int 2)
abbrev w_Table : PV := (.gl n_Table)
abbrev xcs : List Nm := []
abbrev tbO_Table : List (Nm × Bool) := [(n_Handshake, true), (n_StuckSearch, true)]
noncomputable def m_law_row : MS := (sSeq (sSet 2 (eLst aNil))
  (sSeq (sFor (iSeq (eVar 0)) (gN 3)
  (sSeq (sSet 4 (eB fAbs (aCons (eB fInt (aCons (eVar 3) aNil)) aNil)))
  (sFor (iR1 (eC (.int 60))) (gN 5)
  (sSeq (sIf (toT (eOp gLt (eB fLen (aCons (eVar 2) aNil)) (eVar 1)))
  (sExpr (eMt kList mAppend (eVar 2) (aCons (eOp gMod (eVar 4) (eC (.int 16))) aNil)))
  sNil)
  (sSeq (sSet 4 (eOp gDiv (eVar 4) (eC (.int 16))))
  (sIf (toT (eOp gEq (eVar 4) (eC (.int 0))))
  sBk
  sNil))))))
  (sRet (eVar 2))))
noncomputable abbrev f_law_row : MF := fnOf 2 6 m_law_row
noncomputable def m_Handshake_init_of_Table : MS := (sSeq (sFldM tab n_first (eVar 0) (eVar 1))
  (sFldM tab n_rows (eVar 0) (eLc (iSeq (eVar 2)) (gN 3) tYesM (eB fTuple (aCons (eVar 3) aNil)) [3])))
noncomputable abbrev f_Handshake_init_of_Table : MF := fnOf 3 4 m_Handshake_init_of_Table
noncomputable def m_Handshake_init : MS := (sSeq (sExpr (eMeth n_Handshake n___init__ f_Handshake_init_of_Table [(.tup [])] (eVar 0) (aCons (eTup (aCons (eC (.str n_between)) (aCons (eC (.str n_between)) aNil))) aNil)))
  (sFldM tab n_waiting_counts (eVar 0) (eVar 1)))
noncomputable abbrev f_Handshake_init : MF := fnOf 2 2 m_Handshake_init
noncomputable def m_Handshake_start : MS := (sRet (eFld tab n_first (eVar 0)))
noncomputable abbrev f_Handshake_start : MF := fnOf 1 1 m_Handshake_start
noncomputable def m_Handshake_may_pass : MS := (sRet (eOrM (eOp gEq (eVar 1) (eC (.str n_between))) (eAndM (eFld tab n_waiting_counts (eVar 0)) (eOp gEq (eVar 1) (eC (.str n_waiting))))))
noncomputable abbrev f_Handshake_may_pass : MF := fnOf 2 2 m_Handshake_may_pass
noncomputable def m_Handshake_moves : MS := (sSeq (sSet 2 (eLst aNil))
  (sSeq (sFor (iSeq (eC w_DEEDS)) (gT (gsCons (gN 3) (gsCons (gN 4) (gsCons (gN 5) gsNil))))
  (sFor (iR1 (eC w_PROCESSORS)) (gN 6)
  (sIf (tAndM (toT (eOp gEq (eOp gIx (eVar 1) (eVar 6)) (eVar 4))) (tOrM (toT (eOp gNe (eVar 3) (eC (.str n_pass)))) (toT (eMeth n_Handshake n_may_pass f_Handshake_may_pass [] (eVar 0) (aCons (eOp gIx (eVar 1) (eOp gSub (eC (.int 1)) (eVar 6))) aNil)))))
  (sSeq (sSet 7 (eB fList (aCons (eVar 1) aNil)))
  (sSeq (sSub (eVar 7) (eVar 6) (eVar 5))
  (sExpr (eMt kList mAppend (eVar 2) (aCons (eTup (aCons (fJs [(eFmt (eVar 3)), (eC (.str n__)), (eFmt (eVar 6))] []) (aCons (eB fTuple (aCons (eVar 7) aNil)) aNil))) aNil)))))
  sNil)))
  (sRet (eVar 2))))
noncomputable abbrev f_Handshake_moves : MF := fnOf 2 8 m_Handshake_moves
noncomputable def m_Handshake_scenario : MS := (sSeq (sSet 1 (eNDisp (eMeth n_Handshake n_start f_Handshake_start [] (eVar 0) aNil) (eTup aNil)))
  (sSeq (sSet 2 (eLst (aCons (eMeth n_Handshake n_start f_Handshake_start [] (eVar 0) aNil) aNil)))
  (sSeq (sSet 3 (eC (.int 0)))
  (sSeq (whileL (toT (eOp gLt (eVar 3) (eB fLen (aCons (eVar 2) aNil))))
  (sSeq (sSet 4 (eOp gIx (eVar 2) (eVar 3)))
  (sSeq (sFor (iSeq (eMeth n_Handshake n_moves f_Handshake_moves [] (eVar 0) (aCons (eVar 4) aNil))) (gT (gsCons (gN 5) (gsCons (gN 6) gsNil)))
  (sSeq (sIf (toT (eOp gEq (eVar 6) (eC w_BAD)))
  (sRet (eOp gAdd (eB fList (aCons (eNGet (eVar 1) (eVar 4)) aNil)) (eLst (aCons (eVar 5) aNil))))
  sNil)
  (sIf (toT (eNIn true (eVar 6) (eVar 1)))
  (sSeq (sNPut (eVar 1) (eVar 6) (eOp gAdd (eNGet (eVar 1) (eVar 4)) (eTup (aCons (eVar 5) aNil))))
  (sExpr (eMt kList mAppend (eVar 2) (aCons (eVar 6) aNil))))
  sNil)))
  (sAug 3 (gInt fun i j => i + j) (eC (.int 1))))) 1000)
  (sRet (eC .non))))))
noncomputable abbrev f_Handshake_scenario : MF := fnOf 1 7 m_Handshake_scenario
noncomputable def m_law_nine : MS := (sSeq (sSet 0 (eLst (aCons (eC (.str n_between)) (aCons (eC (.str n_amid)) (aCons (eC (.str n_waiting)) aNil)))))
  (sSeq (sSet 1 (eLst aNil))
  (sSeq (sFor (iSeq (eVar 0)) (gN 2)
  (sFor (iSeq (eVar 0)) (gN 3)
  (sExpr (eMt kList mAppend (eVar 1) (aCons (eTup (aCons (eVar 2) (aCons (eVar 3) aNil))) aNil)))))
  (sRet (eVar 1)))))
noncomputable abbrev f_law_nine : MF := fnOf 0 4 m_law_nine
noncomputable def m_law_same_moves : MS := (sSeq (sIf (tOrM (tNotM (toT (eB fIsi (aCons (eVar 0) (aCons (eC (.ty .list)) aNil))))) (toT (eOp gNe (eB fLen (aCons (eVar 0) aNil)) (eB fLen (aCons (eVar 1) aNil)))))
  (sRet (eC (.bl false)))
  sNil)
  (sSeq (sFor (iR1 (eB fLen (aCons (eVar 1) aNil))) (gN 2)
  (sIf (tOrM (tNotM (toT (eB fIsi (aCons (eOp gIx (eVar 0) (eVar 2)) (aCons (eC (.ty .tuple)) aNil))))) (tOrM (toT (eOp gNe (eB fLen (aCons (eOp gIx (eVar 0) (eVar 2)) aNil)) (eC (.int 2)))) (tOrM (tNotM (toT (eB fIsi (aCons (eOp gIx (eOp gIx (eVar 0) (eVar 2)) (eC (.int 1))) (aCons (eC (.ty .tuple)) aNil))))) (toT (eOp gNe (eOp gIx (eVar 0) (eVar 2)) (eOp gIx (eVar 1) (eVar 2)))))))
  (sRet (eC (.bl false)))
  sNil))
  (sRet (eC (.bl true)))))
noncomputable abbrev f_law_same_moves : MF := fnOf 2 3 m_law_same_moves
noncomputable def m_law_words : MS := (sRet (eLst (aCons (eTup (aCons (eC (.str n_begin)) (aCons (eC (.str n_between)) (aCons (eC (.str n_amid)) aNil)))) (aCons (eTup (aCons (eC (.str n_finish)) (aCons (eC (.str n_amid)) (aCons (eC (.str n_between)) aNil)))) (aCons (eTup (aCons (eC (.str n_hit)) (aCons (eC (.str n_amid)) (aCons (eC (.str n_waiting)) aNil)))) (aCons (eTup (aCons (eC (.str n_pass)) (aCons (eC (.str n_waiting)) (aCons (eC (.str n_between)) aNil)))) aNil))))))
noncomputable abbrev f_law_words : MF := fnOf 0 0 m_law_words
noncomputable def m_law_moves : MS := (sSeq (sSet 2 (eLst aNil))
  (sSeq (sFor (iSeq (eCall f_law_words [] aNil)) (gN 3)
  (sFor (iSeq (eLst (aCons (eC (.int 0)) (aCons (eC (.int 1)) aNil)))) (gN 4)
  (sSeq (sSet 5 (eOp gIx (eVar 0) (eOp gSub (eC (.int 1)) (eVar 4))))
  (sSeq (sSet 6 (eOp gEq (eOp gIx (eVar 0) (eVar 4)) (eOp gIx (eVar 3) (eC (.int 1)))))
  (sSeq (sIf (tAndM (toT (eOp gEq (eOp gIx (eVar 3) (eC (.int 0))) (eC (.str n_pass)))) (tAndM (toT (eOp gNe (eVar 5) (eC (.str n_between)))) (tNotM (tAndM (toT (eVar 1)) (toT (eOp gEq (eVar 5) (eC (.str n_waiting))))))))
  (sSet 6 (eC (.bl false)))
  sNil)
  (sIf (toT (eVar 6))
  (sSeq (sSet 7 (eLst (aCons (eOp gIx (eVar 0) (eC (.int 0))) (aCons (eOp gIx (eVar 0) (eC (.int 1))) aNil))))
  (sSeq (sSub (eVar 7) (eVar 4) (eOp gIx (eVar 3) (eC (.int 2))))
  (sExpr (eMt kList mAppend (eVar 2) (aCons (eTup (aCons (eOp gAdd (eOp gAdd (eOp gIx (eVar 3) (eC (.int 0))) (eC (.str n__))) (eB fStr (aCons (eVar 4) aNil))) (aCons (eTup (aCons (eOp gIx (eVar 7) (eC (.int 0))) (aCons (eOp gIx (eVar 7) (eC (.int 1))) aNil))) aNil))) aNil)))))
  sNil))))))
  (sRet (eVar 2))))
noncomputable abbrev f_law_moves : MF := fnOf 2 8 m_law_moves
noncomputable def m_Handshake_states : MS := (sSeq (sSet 1 (eLst (aCons (eMeth n_Handshake n_start f_Handshake_start [] (eVar 0) aNil) aNil)))
  (sSeq (sSet 2 (eC (.int 0)))
  (sSeq (whileL (toT (eOp gLt (eVar 2) (eB fLen (aCons (eVar 1) aNil))))
  (sSeq (sFor (iSeq (eMeth n_Handshake n_moves f_Handshake_moves [] (eVar 0) (aCons (eOp gIx (eVar 1) (eVar 2)) aNil))) (gT (gsCons (gN 3) (gsCons (gN 4) gsNil)))
  (sIf (tAndM (toT (eOp gNe (eVar 4) (eC w_BAD))) (toT (eOp (inDp true) (eVar 4) (eVar 1))))
  (sExpr (eMt kList mAppend (eVar 1) (aCons (eVar 4) aNil)))
  sNil))
  (sAug 2 (gInt fun i j => i + j) (eC (.int 1)))) 1000)
  (sRet (eVar 1)))))
noncomputable abbrev f_Handshake_states : MF := fnOf 1 5 m_Handshake_states
noncomputable def m_law_states : MS := (sSeq (sSet 1 (eLst (aCons (eTup (aCons (eC (.str n_between)) (aCons (eC (.str n_between)) aNil))) aNil)))
  (sSeq (sFor (iR1 (eC (.int 9))) (gN 2)
  (sIf (toT (eOp gLt (eVar 2) (eB fLen (aCons (eVar 1) aNil))))
  (sFor (iSeq (eCall f_law_moves [] (aCons (eOp gIx (eVar 1) (eVar 2)) (aCons (eVar 0) aNil)))) (gN 3)
  (sIf (toT (eOp (inDp true) (eOp gIx (eVar 3) (eC (.int 1))) (eVar 1)))
  (sExpr (eMt kList mAppend (eVar 1) (aCons (eOp gIx (eVar 3) (eC (.int 1))) aNil)))
  sNil))
  sNil))
  (sRet (eVar 1))))
noncomputable abbrev f_law_states : MF := fnOf 1 4 m_law_states
noncomputable def m_law_digit : MS := (sSeq (sIf (toT (eOp gLt (eVar 1) (eB fLen (aCons (eVar 0) aNil))))
  (sRet (eOp gIx (eVar 0) (eVar 1)))
  sNil)
  (sRet (eC (.int 0))))
noncomputable abbrev f_law_digit : MF := fnOf 2 2 m_law_digit
noncomputable def m_law_walk : MS := (sSeq (sSet 3 (eMeth n_Handshake n_start f_Handshake_start [] (eVar 0) aNil))
  (sSeq (sFor (iR1 (eC (.int 60))) (gN 4)
  (sSeq (sSet 5 (eMeth n_Handshake n_moves f_Handshake_moves [] (eVar 0) (aCons (eVar 3) aNil)))
  (sSeq (sIf (toT (eOp gEq (eB fLen (aCons (eVar 5) aNil)) (eC (.int 0))))
  (sRet (eOp gEq (eVar 3) (eTup (aCons (eC (.str n_waiting)) (aCons (eC (.str n_waiting)) aNil)))))
  sNil)
  (sSeq (sSet 3 (eOp gIx (eOp gIx (eVar 5) (eOp gMod (eB fInt (aCons (eCall f_law_digit [] (aCons (eVar 2) (aCons (eVar 4) aNil))) aNil)) (eB fLen (aCons (eVar 5) aNil)))) (eC (.int 1))))
  (sIf (toT (eOp (inDp true) (eVar 3) (eVar 1)))
  (sRet (eC (.bl false)))
  sNil)))))
  (sRet (eC (.bl true)))))
noncomputable abbrev f_law_walk : MF := fnOf 3 6 m_law_walk
noncomputable def m_law_goes_on : MS := (sSeq (sSet 3 (eMeth n_Handshake n_moves f_Handshake_moves [] (eVar 0) (aCons (eVar 1) aNil)))
  (sSeq (sFor (iSeq (eVar 3)) (gN 4)
  (sIf (toT (eOp gEq (eOp gIx (eVar 4) (eC (.int 0))) (eOp gAdd (eC (.str n_pass_)) (eB fStr (aCons (eVar 2) aNil)))))
  (sRet (eC (.bl true)))
  sNil))
  (sSeq (sFor (iSeq (eVar 3)) (gN 4)
  (sIf (toT (eOp gEq (eOp gIx (eVar 4) (eC (.int 0))) (eOp gAdd (eC (.str n_finish_)) (eB fStr (aCons (eOp gSub (eC (.int 1)) (eVar 2)) aNil)))))
  (sFor (iSeq (eMeth n_Handshake n_moves f_Handshake_moves [] (eVar 0) (aCons (eOp gIx (eVar 4) (eC (.int 1))) aNil))) (gN 5)
  (sIf (toT (eOp gEq (eOp gIx (eVar 5) (eC (.int 0))) (eOp gAdd (eC (.str n_pass_)) (eB fStr (aCons (eVar 2) aNil)))))
  (sRet (eC (.bl true)))
  sNil))
  sNil))
  (sRet (eC (.bl false))))))
noncomputable abbrev f_law_goes_on : MF := fnOf 3 6 m_law_goes_on
noncomputable def m_law_table : MS := (sSeq (sSet 2 (eMake n_Handshake f_Handshake_init [] (aCons (eVar 0) aNil)))
  (sSeq (sIf (tOrM (tNotM (toT (eB (fIsO tbO_Table n_Table) (aCons (eVar 2) (aCons (eC w_Table) aNil))))) (tOrM (toT (eOp gNe (eMeth n_Handshake n_start f_Handshake_start [] (eVar 2) aNil) (eTup (aCons (eC (.str n_between)) (aCons (eC (.str n_between)) aNil))))) (toT (eOp (isM true) (eMeth n_Handshake n_scenario f_Handshake_scenario [] (eVar 2) aNil) (eC .non)))))
  (sRet (eC (.bl false)))
  sNil)
  (sSeq (sFor (iSeq (eCall f_law_nine [] aNil)) (gN 3)
  (sIf (tNotM (toT (eCall f_law_same_moves [] (aCons (eMeth n_Handshake n_moves f_Handshake_moves [] (eVar 2) (aCons (eVar 3) aNil)) (aCons (eCall f_law_moves [] (aCons (eVar 3) (aCons (eVar 0) aNil))) aNil)))))
  (sRet (eC (.bl false)))
  sNil))
  (sSeq (sSet 4 (eMeth n_Handshake n_states f_Handshake_states [] (eVar 2) aNil))
  (sSeq (sIf (tOrM (tNotM (toT (eB fIsi (aCons (eVar 4) (aCons (eC (.ty .list)) aNil))))) (tOrM (toT (eOp gNe (eVar 4) (eCall f_law_states [] (aCons (eVar 0) aNil)))) (tNotM (toT (eCall f_law_walk [] (aCons (eVar 2) (aCons (eVar 4) (aCons (eVar 1) aNil))))))))
  (sRet (eC (.bl false)))
  sNil)
  (sSeq (sFor (iSeq (eVar 4)) (gN 3)
  (sSeq (sSet 5 (eOp gEq (eB fLen (aCons (eMeth n_Handshake n_moves f_Handshake_moves [] (eVar 2) (aCons (eVar 3) aNil)) aNil)) (eC (.int 0))))
  (sSeq (sIf (toT (eOp gNe (eVar 5) (eAndM (eOp gEq (eVar 3) (eTup (aCons (eC (.str n_waiting)) (aCons (eC (.str n_waiting)) aNil)))) (eNotM (eVar 0)))))
  (sRet (eC (.bl false)))
  sNil)
  (sFor (iSeq (eLst (aCons (eC (.int 0)) (aCons (eC (.int 1)) aNil)))) (gN 6)
  (sIf (tAndM (toT (eVar 0)) (tAndM (toT (eOp gEq (eOp gIx (eVar 3) (eVar 6)) (eC (.str n_waiting)))) (tNotM (toT (eCall f_law_goes_on [] (aCons (eVar 2) (aCons (eVar 3) (aCons (eVar 6) aNil))))))))
  (sRet (eC (.bl false)))
  sNil)))))
  (sRet (eC (.bl true)))))))))
noncomputable abbrev f_law_table : MF := fnOf 2 7 m_law_table
noncomputable def m_StuckSearch_start : MS := (sRet (eFld tab n_first (eVar 0)))
noncomputable abbrev f_StuckSearch_start : MF := fnOf 1 1 m_StuckSearch_start
noncomputable def m_StuckSearch_may_pass : MS := (sRet (eOrM (eOp gEq (eVar 1) (eC (.str n_between))) (eAndM (eFld tab n_waiting_counts (eVar 0)) (eOp gEq (eVar 1) (eC (.str n_waiting))))))
noncomputable abbrev f_StuckSearch_may_pass : MF := fnOf 2 2 m_StuckSearch_may_pass
noncomputable def m_StuckSearch_moves_of_Handshake : MS := (sSeq (sSet 2 (eLst aNil))
  (sSeq (sFor (iSeq (eC w_DEEDS)) (gT (gsCons (gN 3) (gsCons (gN 4) (gsCons (gN 5) gsNil))))
  (sFor (iR1 (eC w_PROCESSORS)) (gN 6)
  (sIf (tAndM (toT (eOp gEq (eOp gIx (eVar 1) (eVar 6)) (eVar 4))) (tOrM (toT (eOp gNe (eVar 3) (eC (.str n_pass)))) (toT (eMeth n_StuckSearch n_may_pass f_StuckSearch_may_pass [] (eVar 0) (aCons (eOp gIx (eVar 1) (eOp gSub (eC (.int 1)) (eVar 6))) aNil)))))
  (sSeq (sSet 7 (eB fList (aCons (eVar 1) aNil)))
  (sSeq (sSub (eVar 7) (eVar 6) (eVar 5))
  (sExpr (eMt kList mAppend (eVar 2) (aCons (eTup (aCons (fJs [(eFmt (eVar 3)), (eC (.str n__)), (eFmt (eVar 6))] []) (aCons (eB fTuple (aCons (eVar 7) aNil)) aNil))) aNil)))))
  sNil)))
  (sRet (eVar 2))))
noncomputable abbrev f_StuckSearch_moves_of_Handshake : MF := fnOf 2 8 m_StuckSearch_moves_of_Handshake
noncomputable def m_StuckSearch_moves : MS := (sSeq (sSet 2 (eLst aNil))
  (sSeq (sFor (iSeq (eMeth n_StuckSearch n_moves f_StuckSearch_moves_of_Handshake [] (eVar 0) (aCons (eVar 1) aNil))) (gT (gsCons (gN 3) (gsCons (gN 4) gsNil)))
  (sIf (toT (eOp gEq (eB fLen (aCons (eMeth n_StuckSearch n_moves f_StuckSearch_moves_of_Handshake [] (eVar 0) (aCons (eVar 4) aNil)) aNil)) (eC (.int 0))))
  (sExpr (eMt kList mAppend (eVar 2) (aCons (eTup (aCons (eVar 3) (aCons (eC w_BAD) aNil))) aNil)))
  (sExpr (eMt kList mAppend (eVar 2) (aCons (eTup (aCons (eVar 3) (aCons (eVar 4) aNil))) aNil)))))
  (sRet (eVar 2))))
noncomputable abbrev f_StuckSearch_moves : MF := fnOf 2 5 m_StuckSearch_moves
noncomputable def m_StuckSearch_scenario : MS := (sSeq (sSet 1 (eNDisp (eMeth n_StuckSearch n_start f_StuckSearch_start [] (eVar 0) aNil) (eTup aNil)))
  (sSeq (sSet 2 (eLst (aCons (eMeth n_StuckSearch n_start f_StuckSearch_start [] (eVar 0) aNil) aNil)))
  (sSeq (sSet 3 (eC (.int 0)))
  (sSeq (whileL (toT (eOp gLt (eVar 3) (eB fLen (aCons (eVar 2) aNil))))
  (sSeq (sSet 4 (eOp gIx (eVar 2) (eVar 3)))
  (sSeq (sFor (iSeq (eMeth n_StuckSearch n_moves f_StuckSearch_moves [] (eVar 0) (aCons (eVar 4) aNil))) (gT (gsCons (gN 5) (gsCons (gN 6) gsNil)))
  (sSeq (sIf (toT (eOp gEq (eVar 6) (eC w_BAD)))
  (sRet (eOp gAdd (eB fList (aCons (eNGet (eVar 1) (eVar 4)) aNil)) (eLst (aCons (eVar 5) aNil))))
  sNil)
  (sIf (toT (eNIn true (eVar 6) (eVar 1)))
  (sSeq (sNPut (eVar 1) (eVar 6) (eOp gAdd (eNGet (eVar 1) (eVar 4)) (eTup (aCons (eVar 5) aNil))))
  (sExpr (eMt kList mAppend (eVar 2) (aCons (eVar 6) aNil))))
  sNil)))
  (sAug 3 (gInt fun i j => i + j) (eC (.int 1))))) 1000)
  (sRet (eC .non))))))
noncomputable abbrev f_StuckSearch_scenario : MF := fnOf 1 7 m_StuckSearch_scenario
noncomputable def m_StuckSearch_init_of_Table : MS := (sSeq (sFldM tab n_first (eVar 0) (eVar 1))
  (sFldM tab n_rows (eVar 0) (eLc (iSeq (eVar 2)) (gN 3) tYesM (eB fTuple (aCons (eVar 3) aNil)) [3])))
noncomputable abbrev f_StuckSearch_init_of_Table : MF := fnOf 3 4 m_StuckSearch_init_of_Table
noncomputable def m_StuckSearch_init : MS := (sSeq (sExpr (eMeth n_StuckSearch n___init__ f_StuckSearch_init_of_Table [(.tup [])] (eVar 0) (aCons (eTup (aCons (eC (.str n_between)) (aCons (eC (.str n_between)) aNil))) aNil)))
  (sFldM tab n_waiting_counts (eVar 0) (eVar 1)))
noncomputable abbrev f_StuckSearch_init : MF := fnOf 2 2 m_StuckSearch_init
noncomputable def m_stuck_scenario : MS := (sRet (eMeth n_StuckSearch n_scenario f_StuckSearch_scenario [] (eMake n_StuckSearch f_StuckSearch_init [] (aCons (eVar 0) aNil)) aNil))
noncomputable abbrev f_stuck_scenario : MF := fnOf 1 1 m_stuck_scenario
noncomputable def m_law : MS := (sSeq (sSet 1 (eCall f_law_row [] (aCons (eVar 0) (aCons (eC (.int 60)) aNil))))
  (sSeq (sIf (tOrM (tNotM (toT (eCall f_law_table [] (aCons (eC (.bl true)) (aCons (eVar 1) aNil))))) (tOrM (tNotM (toT (eCall f_law_table [] (aCons (eC (.bl false)) (aCons (eVar 1) aNil))))) (tNotM (toT (eCall f_law_table [] (aCons (eC (.bl true)) (aCons (eSl (eVar 1) (oYes (eC (.int 1))) oNo) aNil)))))))
  (sRet (eC (.bl false)))
  sNil)
  (sSeq (sIf (toT (eOp (isM true) (eCall f_stuck_scenario [] (aCons (eC (.bl true)) aNil)) (eC .non)))
  (sRet (eC (.bl false)))
  sNil)
  (sSeq (sSet 2 (eCall f_stuck_scenario [] (aCons (eC (.bl false)) aNil)))
  (sSeq (sIf (tOrM (tNotM (toT (eB fIsi (aCons (eVar 2) (aCons (eC (.ty .list)) aNil))))) (toT (eOp gNe (eVar 2) (eLst (aCons (eC (.str n_begin_0)) (aCons (eC (.str n_begin_1)) (aCons (eC (.str n_hit_0)) (aCons (eC (.str n_hit_1)) aNil))))))))
  (sRet (eC (.bl false)))
  sNil)
  (sSeq (sExpr (eMt kList mAppend (eVar 2) (aCons (eC (.str n_again)) aNil)))
  (sRet (eOp gEq (eCall f_stuck_scenario [] (aCons (eC (.bl false)) aNil)) (eLst (aCons (eC (.str n_begin_0)) (aCons (eC (.str n_begin_1)) (aCons (eC (.str n_hit_0)) (aCons (eC (.str n_hit_1)) aNil)))))))))))))
noncomputable abbrev f_law : MF := fnOf 1 3 m_law
end K74
set_option Elab.async false
set_option linter.all false
set_option maxRecDepth 100000
set_option maxHeartbeats 400000
namespace K74
open PySem PySem.Spec PyProof.Rows L2 GL
def top (i : Nat) : Stmt := PySem.Challenge.pw_guestlives_k74_whole_handshake_goes_on.main.body.getD i (.Pass ⟨0, 0, 0, 0⟩)
abbrev st_law_row : Stmt := top 10
abbrev N_law_row : List Str := ["_law_script", "_law_most", "_law_row_here", "_law_cell", "_law_rest", "_law_k"]
abbrev ps_law_row : List Str := ["_law_script", "_law_most"]
theorem sc_law_row : FnScope N_law_row ps_law_row (defScope st_law_row) := ⟨rfl, rfl, rfl, by decide +kernel, rfl, by decide +kernel, by decide +kernel⟩
abbrev st_Handshake_init_of_Table : Stmt := inClass (top 3) 0
abbrev N_Handshake_init_of_Table : List Str := ["self", "first", "rows", "row"]
abbrev ps_Handshake_init_of_Table : List Str := ["self", "first", "rows"]
theorem sc_Handshake_init_of_Table : FnScope N_Handshake_init_of_Table ps_Handshake_init_of_Table (defScope st_Handshake_init_of_Table) := ⟨rfl, rfl, rfl, by decide +kernel, rfl, by decide +kernel, by decide +kernel⟩
abbrev st_Handshake_init : Stmt := inClass (top 6) 0
abbrev N_Handshake_init : List Str := ["self", "waiting_counts"]
abbrev ps_Handshake_init : List Str := ["self", "waiting_counts"]
theorem sc_Handshake_init : FnScopeK N_Handshake_init ps_Handshake_init (defScope st_Handshake_init) := ⟨rfl, rfl, rfl, by decide +kernel, rfl, by decide +kernel, by decide +kernel, by decide +kernel⟩
abbrev st_Handshake_start : Stmt := inClass (top 6) 1
abbrev N_Handshake_start : List Str := ["self"]
abbrev ps_Handshake_start : List Str := ["self"]
theorem sc_Handshake_start : FnScope N_Handshake_start ps_Handshake_start (defScope st_Handshake_start) := ⟨rfl, rfl, rfl, by decide +kernel, rfl, by decide +kernel, by decide +kernel⟩
abbrev st_Handshake_may_pass : Stmt := inClass (top 6) 2
abbrev N_Handshake_may_pass : List Str := ["self", "other"]
abbrev ps_Handshake_may_pass : List Str := ["self", "other"]
theorem sc_Handshake_may_pass : FnScope N_Handshake_may_pass ps_Handshake_may_pass (defScope st_Handshake_may_pass) := ⟨rfl, rfl, rfl, by decide +kernel, rfl, by decide +kernel, by decide +kernel⟩
abbrev st_Handshake_moves : Stmt := inClass (top 6) 3
abbrev N_Handshake_moves : List Str := ["self", "state", "found", "name", "origin", "target", "p", "behind"]
abbrev ps_Handshake_moves : List Str := ["self", "state"]
theorem sc_Handshake_moves : FnScope N_Handshake_moves ps_Handshake_moves (defScope st_Handshake_moves) := ⟨rfl, rfl, rfl, by decide +kernel, rfl, by decide +kernel, by decide +kernel⟩
abbrev st_Handshake_scenario : Stmt := inClass (top 3) 3
abbrev N_Handshake_scenario : List Str := ["self", "ways", "queue", "place", "state", "move", "after"]
abbrev ps_Handshake_scenario : List Str := ["self"]
theorem sc_Handshake_scenario : FnScope N_Handshake_scenario ps_Handshake_scenario (defScope st_Handshake_scenario) := ⟨rfl, rfl, rfl, by decide +kernel, rfl, by decide +kernel, by decide +kernel⟩
abbrev st_law_nine : Stmt := top 16
abbrev N_law_nine : List Str := ["_law_words_here", "_law_nine_here", "_law_first", "_law_second"]
abbrev ps_law_nine : List Str := []
theorem sc_law_nine : FnScope N_law_nine ps_law_nine (defScope st_law_nine) := ⟨rfl, rfl, rfl, by decide +kernel, rfl, by decide +kernel, by decide +kernel⟩
abbrev st_law_same_moves : Stmt := top 14
abbrev N_law_same_moves : List Str := ["_law_told", "_law_due", "_law_k"]
abbrev ps_law_same_moves : List Str := ["_law_told", "_law_due"]
theorem sc_law_same_moves : FnScope N_law_same_moves ps_law_same_moves (defScope st_law_same_moves) := ⟨rfl, rfl, rfl, by decide +kernel, rfl, by decide +kernel, by decide +kernel⟩
abbrev st_law_words : Stmt := top 12
abbrev N_law_words : List Str := []
abbrev ps_law_words : List Str := []
theorem sc_law_words : FnScope N_law_words ps_law_words (defScope st_law_words) := ⟨rfl, rfl, rfl, by decide +kernel, rfl, by decide +kernel, by decide +kernel⟩
abbrev st_law_moves : Stmt := top 13
abbrev N_law_moves : List Str := ["_law_state", "_law_counts", "_law_found", "_law_word", "_law_p", "_law_other", "_law_possible", "_law_behind"]
abbrev ps_law_moves : List Str := ["_law_state", "_law_counts"]
theorem sc_law_moves : FnScope N_law_moves ps_law_moves (defScope st_law_moves) := ⟨rfl, rfl, rfl, by decide +kernel, rfl, by decide +kernel, by decide +kernel⟩
abbrev st_Handshake_states : Stmt := inClass (top 3) 4
abbrev N_Handshake_states : List Str := ["self", "found", "place", "_", "after"]
abbrev ps_Handshake_states : List Str := ["self"]
theorem sc_Handshake_states : FnScope N_Handshake_states ps_Handshake_states (defScope st_Handshake_states) := ⟨rfl, rfl, rfl, by decide +kernel, rfl, by decide +kernel, by decide +kernel⟩
abbrev st_law_states : Stmt := top 15
abbrev N_law_states : List Str := ["_law_counts", "_law_found", "_law_k", "_law_one"]
abbrev ps_law_states : List Str := ["_law_counts"]
theorem sc_law_states : FnScope N_law_states ps_law_states (defScope st_law_states) := ⟨rfl, rfl, rfl, by decide +kernel, rfl, by decide +kernel, by decide +kernel⟩
abbrev st_law_digit : Stmt := top 11
abbrev N_law_digit : List Str := ["_law_row_here", "_law_at"]
abbrev ps_law_digit : List Str := ["_law_row_here", "_law_at"]
theorem sc_law_digit : FnScope N_law_digit ps_law_digit (defScope st_law_digit) := ⟨rfl, rfl, rfl, by decide +kernel, rfl, by decide +kernel, by decide +kernel⟩
abbrev st_law_walk : Stmt := top 18
abbrev N_law_walk : List Str := ["_law_table_here", "_law_states_here", "_law_row_here", "_law_state", "_law_k", "_law_possible"]
abbrev ps_law_walk : List Str := ["_law_table_here", "_law_states_here", "_law_row_here"]
theorem sc_law_walk : FnScope N_law_walk ps_law_walk (defScope st_law_walk) := ⟨rfl, rfl, rfl, by decide +kernel, rfl, by decide +kernel, by decide +kernel⟩
abbrev st_law_goes_on : Stmt := top 17
abbrev N_law_goes_on : List Str := ["_law_table_here", "_law_state", "_law_p", "_law_behind", "_law_one", "_law_later"]
abbrev ps_law_goes_on : List Str := ["_law_table_here", "_law_state", "_law_p"]
theorem sc_law_goes_on : FnScope N_law_goes_on ps_law_goes_on (defScope st_law_goes_on) := ⟨rfl, rfl, rfl, by decide +kernel, rfl, by decide +kernel, by decide +kernel⟩
abbrev st_law_table : Stmt := top 19
abbrev N_law_table : List Str := ["_law_counts", "_law_row_here", "_law_table_here", "_law_state", "_law_states_here", "_law_stuck", "_law_p"]
abbrev ps_law_table : List Str := ["_law_counts", "_law_row_here"]
theorem sc_law_table : FnScope N_law_table ps_law_table (defScope st_law_table) := ⟨rfl, rfl, rfl, by decide +kernel, rfl, by decide +kernel, by decide +kernel⟩
abbrev st_StuckSearch_start : Stmt := inClass (top 6) 1
abbrev N_StuckSearch_start : List Str := ["self"]
abbrev ps_StuckSearch_start : List Str := ["self"]
theorem sc_StuckSearch_start : FnScope N_StuckSearch_start ps_StuckSearch_start (defScope st_StuckSearch_start) := ⟨rfl, rfl, rfl, by decide +kernel, rfl, by decide +kernel, by decide +kernel⟩
abbrev st_StuckSearch_may_pass : Stmt := inClass (top 6) 2
abbrev N_StuckSearch_may_pass : List Str := ["self", "other"]
abbrev ps_StuckSearch_may_pass : List Str := ["self", "other"]
theorem sc_StuckSearch_may_pass : FnScope N_StuckSearch_may_pass ps_StuckSearch_may_pass (defScope st_StuckSearch_may_pass) := ⟨rfl, rfl, rfl, by decide +kernel, rfl, by decide +kernel, by decide +kernel⟩
abbrev st_StuckSearch_moves_of_Handshake : Stmt := inClass (top 6) 3
abbrev N_StuckSearch_moves_of_Handshake : List Str := ["self", "state", "found", "name", "origin", "target", "p", "behind"]
abbrev ps_StuckSearch_moves_of_Handshake : List Str := ["self", "state"]
theorem sc_StuckSearch_moves_of_Handshake : FnScope N_StuckSearch_moves_of_Handshake ps_StuckSearch_moves_of_Handshake (defScope st_StuckSearch_moves_of_Handshake) := ⟨rfl, rfl, rfl, by decide +kernel, rfl, by decide +kernel, by decide +kernel⟩
abbrev st_StuckSearch_moves : Stmt := inClass (top 7) 0
abbrev N_StuckSearch_moves : List Str := ["self", "state", "found", "move", "behind"]
abbrev ps_StuckSearch_moves : List Str := ["self", "state"]
theorem sc_StuckSearch_moves : FnScopeK N_StuckSearch_moves ps_StuckSearch_moves (defScope st_StuckSearch_moves) := ⟨rfl, rfl, rfl, by decide +kernel, rfl, by decide +kernel, by decide +kernel, by decide +kernel⟩
abbrev st_StuckSearch_scenario : Stmt := inClass (top 3) 3
abbrev N_StuckSearch_scenario : List Str := ["self", "ways", "queue", "place", "state", "move", "after"]
abbrev ps_StuckSearch_scenario : List Str := ["self"]
theorem sc_StuckSearch_scenario : FnScope N_StuckSearch_scenario ps_StuckSearch_scenario (defScope st_StuckSearch_scenario) := ⟨rfl, rfl, rfl, by decide +kernel, rfl, by decide +kernel, by decide +kernel⟩
abbrev st_StuckSearch_init_of_Table : Stmt := inClass (top 3) 0
abbrev N_StuckSearch_init_of_Table : List Str := ["self", "first", "rows", "row"]
abbrev ps_StuckSearch_init_of_Table : List Str := ["self", "first", "rows"]
theorem sc_StuckSearch_init_of_Table : FnScope N_StuckSearch_init_of_Table ps_StuckSearch_init_of_Table (defScope st_StuckSearch_init_of_Table) := ⟨rfl, rfl, rfl, by decide +kernel, rfl, by decide +kernel, by decide +kernel⟩
abbrev st_StuckSearch_init : Stmt := inClass (top 6) 0
abbrev N_StuckSearch_init : List Str := ["self", "waiting_counts"]
abbrev ps_StuckSearch_init : List Str := ["self", "waiting_counts"]
theorem sc_StuckSearch_init : FnScopeK N_StuckSearch_init ps_StuckSearch_init (defScope st_StuckSearch_init) := ⟨rfl, rfl, rfl, by decide +kernel, rfl, by decide +kernel, by decide +kernel, by decide +kernel⟩
abbrev st_stuck_scenario : Stmt := top 8
abbrev N_stuck_scenario : List Str := ["waiting_counts"]
abbrev ps_stuck_scenario : List Str := ["waiting_counts"]
theorem sc_stuck_scenario : FnScope N_stuck_scenario ps_stuck_scenario (defScope st_stuck_scenario) := ⟨rfl, rfl, rfl, by decide +kernel, rfl, by decide +kernel, by decide +kernel⟩
abbrev st_law : Stmt := top 20
abbrev N_law : List Str := ["_law_script", "_law_row_here", "_law_told"]
abbrev ps_law : List Str := ["_law_script"]
theorem sc_law : FnScope N_law ps_law (defScope st_law) := ⟨rfl, rfl, rfl, by decide +kernel, rfl, by decide +kernel, by decide +kernel⟩
theorem e_Handshake : toS n_Handshake = ("Handshake" : Str) := by decide +kernel
theorem e_StuckSearch : toS n_StuckSearch = ("StuckSearch" : Str) := by decide +kernel
theorem e_Table : toS n_Table = ("Table" : Str) := by decide +kernel
def xd_Handshake_init : He.DefD := ⟨("Handshake", some "__init__"), "__init__", "Handshake.__init__", defArgs st_Handshake_init, defBody st_Handshake_init, defScope st_Handshake_init, [], []⟩
def xd_StuckSearch_moves : He.DefD := ⟨("StuckSearch", some "moves"), "moves", "StuckSearch.moves", defArgs st_StuckSearch_moves, defBody st_StuckSearch_moves, defScope st_StuckSearch_moves, [], []⟩
def xd_StuckSearch_init : He.DefD := ⟨("StuckSearch", some "__init__"), "__init__", "Handshake.__init__", defArgs st_StuckSearch_init, defBody st_StuckSearch_init, defScope st_StuckSearch_init, [], []⟩
abbrev xfs : List Str := []
structure Tx (P : Program) (K : PySem.W.Frag) (mg : Str → Option Value) : Prop where
  b_abs : mg "abs" = none
  b_int : mg "int" = none
  b_isinstance : mg "isinstance" = none
  b_len : mg "len" = none
  b_list : mg "list" = none
  b_range : mg "range" = none
  b_str : mg "str" = none
  b_super : mg "super" = none
  b_tuple : mg "tuple" = none
  g__law_row : mg "_law_row" = some (.ref (He.ga K "_law_row"))
  g__law_nine : mg "_law_nine" = some (.ref (He.ga K "_law_nine"))
  g__law_same_moves : mg "_law_same_moves" = some (.ref (He.ga K "_law_same_moves"))
  g__law_words : mg "_law_words" = some (.ref (He.ga K "_law_words"))
  g__law_moves : mg "_law_moves" = some (.ref (He.ga K "_law_moves"))
  g__law_states : mg "_law_states" = some (.ref (He.ga K "_law_states"))
  g__law_digit : mg "_law_digit" = some (.ref (He.ga K "_law_digit"))
  g__law_walk : mg "_law_walk" = some (.ref (He.ga K "_law_walk"))
  g__law_goes_on : mg "_law_goes_on" = some (.ref (He.ga K "_law_goes_on"))
  g__law_table : mg "_law_table" = some (.ref (He.ga K "_law_table"))
  g_stuck_scenario : mg "stuck_scenario" = some (.ref (He.ga K "stuck_scenario"))
  g_law : mg "law" = some (.ref (He.ga K "law"))
  cl_Handshake : Cls K (He.ga K "Handshake")
  cl_StuckSearch : Cls K (He.ga K "StuckSearch")
  cl_Table : Cls K (He.ga K "Table")
  g_Handshake : mg "Handshake" = some (.ref (He.ga K "Handshake"))
  mk_Handshake : Mk K (He.ga K "Handshake") (He.ma K (He.ga K "Handshake") "__init__")
  g_StuckSearch : mg "StuckSearch" = some (.ref (He.ga K "StuckSearch"))
  mk_StuckSearch : Mk K (He.ga K "StuckSearch") (He.ma K (He.ga K "StuckSearch") "__init__")
  me_Handshake_may_pass : Meth K (He.ga K "Handshake") "may_pass" (He.ma K (He.ga K "Handshake") "may_pass")
  me_Handshake_moves : Meth K (He.ga K "Handshake") "moves" (He.ma K (He.ga K "Handshake") "moves")
  me_Handshake_scenario : Meth K (He.ga K "Handshake") "scenario" (He.ma K (He.ga K "Handshake") "scenario")
  me_Handshake_start : Meth K (He.ga K "Handshake") "start" (He.ma K (He.ga K "Handshake") "start")
  me_Handshake_states : Meth K (He.ga K "Handshake") "states" (He.ma K (He.ga K "Handshake") "states")
  me_StuckSearch_may_pass : Meth K (He.ga K "StuckSearch") "may_pass" (He.ma K (He.ga K "StuckSearch") "may_pass")
  me_StuckSearch_moves : Meth K (He.ga K "StuckSearch") "moves" (He.ma K (He.ga K "StuckSearch") "moves")
  me_StuckSearch_scenario : Meth K (He.ga K "StuckSearch") "scenario" (He.ma K (He.ga K "StuckSearch") "scenario")
  me_StuckSearch_start : Meth K (He.ga K "StuckSearch") "start" (He.ma K (He.ga K "StuckSearch") "start")
  c_BAD : GCon K mg "BAD" w_BAD
  c_DEEDS : GCon K mg "DEEDS" w_DEEDS
  c_PROCESSORS : GCon K mg "PROCESSORS" w_PROCESSORS
  c_Table : GCon K mg "Table" w_Table
  iso_Table : isoB tbO_Table n_Table K = true
  su_0 : SupC K (He.ga K "Handshake") (He.ga K "Handshake") (ccAt ("Handshake", some "__init__") K) (He.fAd K ("Table", some "__init__")) "__init__"
  su_1 : SupC K (He.ga K "StuckSearch") (He.ga K "StuckSearch") (ccAt ("StuckSearch", some "moves") K) (He.fAd K ("Handshake", some "moves")) "moves"
  su_2 : SupC K (He.ga K "Handshake") (He.ga K "StuckSearch") (ccAt ("StuckSearch", some "__init__") K) (He.fAd K ("Table", some "__init__")) "__init__"
  kp_Handshake_init : PySem.W.keepIn K (.ref (He.fAd K ("Handshake", some "__init__"))) = true
  kp_StuckSearch_moves : PySem.W.keepIn K (.ref (He.fAd K ("StuckSearch", some "moves"))) = true
  kp_StuckSearch_init : PySem.W.keepIn K (.ref (He.fAd K ("StuckSearch", some "__init__"))) = true
  att : Atts K tab
  cau : ∀ C ∈ xcs, Caught K (toS C) xfs
  top_ : (P.main.scope.names.lookup ("super" : Str)).isSome = false
  xf_Handshake_init : ∃ fd, XnF P K (He.fAd K ("Handshake", some "__init__")) (ccAt ("Handshake", some "__init__") K) "__init__" "Handshake.__init__" (defArgs st_Handshake_init) (defBody st_Handshake_init) (defScope st_Handshake_init) fd
  xf_StuckSearch_moves : ∃ fd, XnF P K (He.fAd K ("StuckSearch", some "moves")) (ccAt ("StuckSearch", some "moves") K) "moves" "StuckSearch.moves" (defArgs st_StuckSearch_moves) (defBody st_StuckSearch_moves) (defScope st_StuckSearch_moves) fd
  xf_StuckSearch_init : ∃ fd, XnF P K (He.fAd K ("StuckSearch", some "__init__")) (ccAt ("StuckSearch", some "__init__") K) "__init__" "Handshake.__init__" (defArgs st_StuckSearch_init) (defBody st_StuckSearch_init) (defScope st_StuckSearch_init) fd
  dv_Handshake_init_of_Table_1 : GVal K (.ref (He.dflAt ("Table", some "__init__") 1 K)) (.tup [])
  dv_StuckSearch_init_of_Table_1 : GVal K (.ref (He.dflAt ("Table", some "__init__") 1 K)) (.tup [])
  d_law_row : ∃ fd, FunD K "_law_row" "_law_row" (defArgs st_law_row) (defBody st_law_row) (defScope st_law_row) ([] : List V) ([] : List (Str × V)) (He.fAd K ("_law_row", none)) fd
  d_Handshake_init_of_Table : ∃ fd, FunD K "__init__" "Table.__init__" (defArgs st_Handshake_init_of_Table) (defBody st_Handshake_init_of_Table) (defScope st_Handshake_init_of_Table) ([.str "start", .ref (He.dflAt ("Table", some "__init__") 1 K)] : List V) ([] : List (Str × V)) (He.fAd K ("Table", some "__init__")) fd
  d_Handshake_start : ∃ fd, FunD K "start" "Handshake.start" (defArgs st_Handshake_start) (defBody st_Handshake_start) (defScope st_Handshake_start) ([] : List V) ([] : List (Str × V)) (He.fAd K ("Handshake", some "start")) fd
  d_Handshake_may_pass : ∃ fd, FunD K "may_pass" "Handshake.may_pass" (defArgs st_Handshake_may_pass) (defBody st_Handshake_may_pass) (defScope st_Handshake_may_pass) ([] : List V) ([] : List (Str × V)) (He.fAd K ("Handshake", some "may_pass")) fd
  d_Handshake_moves : ∃ fd, FunD K "moves" "Handshake.moves" (defArgs st_Handshake_moves) (defBody st_Handshake_moves) (defScope st_Handshake_moves) ([] : List V) ([] : List (Str × V)) (He.fAd K ("Handshake", some "moves")) fd
  d_Handshake_scenario : ∃ fd, FunD K "scenario" "Table.scenario" (defArgs st_Handshake_scenario) (defBody st_Handshake_scenario) (defScope st_Handshake_scenario) ([] : List V) ([] : List (Str × V)) (He.fAd K ("Handshake", some "scenario")) fd
  d_law_nine : ∃ fd, FunD K "_law_nine" "_law_nine" (defArgs st_law_nine) (defBody st_law_nine) (defScope st_law_nine) ([] : List V) ([] : List (Str × V)) (He.fAd K ("_law_nine", none)) fd
  d_law_same_moves : ∃ fd, FunD K "_law_same_moves" "_law_same_moves" (defArgs st_law_same_moves) (defBody st_law_same_moves) (defScope st_law_same_moves) ([] : List V) ([] : List (Str × V)) (He.fAd K ("_law_same_moves", none)) fd
  d_law_words : ∃ fd, FunD K "_law_words" "_law_words" (defArgs st_law_words) (defBody st_law_words) (defScope st_law_words) ([] : List V) ([] : List (Str × V)) (He.fAd K ("_law_words", none)) fd
  d_law_moves : ∃ fd, FunD K "_law_moves" "_law_moves" (defArgs st_law_moves) (defBody st_law_moves) (defScope st_law_moves) ([] : List V) ([] : List (Str × V)) (He.fAd K ("_law_moves", none)) fd
  d_Handshake_states : ∃ fd, FunD K "states" "Table.states" (defArgs st_Handshake_states) (defBody st_Handshake_states) (defScope st_Handshake_states) ([] : List V) ([] : List (Str × V)) (He.fAd K ("Handshake", some "states")) fd
  d_law_states : ∃ fd, FunD K "_law_states" "_law_states" (defArgs st_law_states) (defBody st_law_states) (defScope st_law_states) ([] : List V) ([] : List (Str × V)) (He.fAd K ("_law_states", none)) fd
  d_law_digit : ∃ fd, FunD K "_law_digit" "_law_digit" (defArgs st_law_digit) (defBody st_law_digit) (defScope st_law_digit) ([] : List V) ([] : List (Str × V)) (He.fAd K ("_law_digit", none)) fd
  d_law_walk : ∃ fd, FunD K "_law_walk" "_law_walk" (defArgs st_law_walk) (defBody st_law_walk) (defScope st_law_walk) ([] : List V) ([] : List (Str × V)) (He.fAd K ("_law_walk", none)) fd
  d_law_goes_on : ∃ fd, FunD K "_law_goes_on" "_law_goes_on" (defArgs st_law_goes_on) (defBody st_law_goes_on) (defScope st_law_goes_on) ([] : List V) ([] : List (Str × V)) (He.fAd K ("_law_goes_on", none)) fd
  d_law_table : ∃ fd, FunD K "_law_table" "_law_table" (defArgs st_law_table) (defBody st_law_table) (defScope st_law_table) ([] : List V) ([] : List (Str × V)) (He.fAd K ("_law_table", none)) fd
  d_StuckSearch_start : ∃ fd, FunD K "start" "Handshake.start" (defArgs st_StuckSearch_start) (defBody st_StuckSearch_start) (defScope st_StuckSearch_start) ([] : List V) ([] : List (Str × V)) (He.fAd K ("StuckSearch", some "start")) fd
  d_StuckSearch_may_pass : ∃ fd, FunD K "may_pass" "Handshake.may_pass" (defArgs st_StuckSearch_may_pass) (defBody st_StuckSearch_may_pass) (defScope st_StuckSearch_may_pass) ([] : List V) ([] : List (Str × V)) (He.fAd K ("StuckSearch", some "may_pass")) fd
  d_StuckSearch_moves_of_Handshake : ∃ fd, FunD K "moves" "Handshake.moves" (defArgs st_StuckSearch_moves_of_Handshake) (defBody st_StuckSearch_moves_of_Handshake) (defScope st_StuckSearch_moves_of_Handshake) ([] : List V) ([] : List (Str × V)) (He.fAd K ("Handshake", some "moves")) fd
  d_StuckSearch_scenario : ∃ fd, FunD K "scenario" "Table.scenario" (defArgs st_StuckSearch_scenario) (defBody st_StuckSearch_scenario) (defScope st_StuckSearch_scenario) ([] : List V) ([] : List (Str × V)) (He.fAd K ("StuckSearch", some "scenario")) fd
  d_StuckSearch_init_of_Table : ∃ fd, FunD K "__init__" "Table.__init__" (defArgs st_StuckSearch_init_of_Table) (defBody st_StuckSearch_init_of_Table) (defScope st_StuckSearch_init_of_Table) ([.str "start", .ref (He.dflAt ("Table", some "__init__") 1 K)] : List V) ([] : List (Str × V)) (He.fAd K ("Table", some "__init__")) fd
  d_stuck_scenario : ∃ fd, FunD K "stuck_scenario" "stuck_scenario" (defArgs st_stuck_scenario) (defBody st_stuck_scenario) (defScope st_stuck_scenario) ([] : List V) ([] : List (Str × V)) (He.fAd K ("stuck_scenario", none)) fd
  d_law : ∃ fd, FunD K "law" "law" (defArgs st_law) (defBody st_law) (defScope st_law) ([] : List V) ([] : List (Str × V)) (He.fAd K ("law", none)) fd
section
variable {P : Program} {w : World} {K : PySem.W.Frag} {mg : Str → Option Value} {base : Heap}
theorem fi_law_row (T : Tx P K mg) {fd : FuncData} (F : FunD K "_law_row" "_law_row" (defArgs st_law_row) (defBody st_law_row) (defScope st_law_row) ([] : List V) ([] : List (Str × V)) (He.fAd K ("_law_row", none)) fd) : FI P w K mg base 1 (He.fAd K ("_law_row", none)) fd ps_law_row f_law_row := by
  have h := fi_of (P := P) (w := w) (mg := mg) (base := base) F sc_law_row (m := m_law_row) (k := 0) (fun cdv A outer s H E hr => by
    exact (iss_cons (is_set (i := 2) sc_law_row.nd (ie_lst ia_nil))
    (iss_cons (is_for (L2.passes_of rfl) rfl (ii_seq (ie_var 0)) (ig_name 3 sc_law_row.nd)
    (iss_cons (is_set (i := 4) sc_law_row.nd (ie_B call_abs ci_abs T.b_abs (by decide +kernel) (ia_cons (ie_BT call_int1 ci_int T.b_int (by decide +kernel) (ia_cons (ie_var 3) ia_nil)) ia_nil)))
    (iss_one (is_for (L2.passes_of rfl) rfl (ii_range1 T.b_range ie_int) (ig_name 5 sc_law_row.nd)
    (iss_cons (is_if (it_cmp op_lt oi_lt (ie_B call_len ci_len T.b_len (by decide +kernel) (ia_cons (ie_var 2) ia_nil)) (ie_var 1) (nomark _))
    (iss_one (is_expr (ie_mt PySem.F.plainAttrs_list PySem.F.slot_list_append PySem.F.type_list_append mt_append chk_list mi_append (ie_var 2) (ia_cons (ie_bin op_mod oi_mod (ie_var 4) ie_int) ia_nil))))
    iss_nil)
    (iss_cons (is_set (i := 4) sc_law_row.nd (ie_bin op_fdiv oi_div (ie_var 4) ie_int))
    (iss_one (is_if (it_cmp (or_eqM hr.units) oi_eq (ie_var 4) ie_int (nomark _))
    (iss_one is_break)
    iss_nil))))))))
    (iss_one (is_ret (ie_var 2))))))
  exact h
theorem ok_law_row (T : Tx P K mg) : ∃ fd, FI P w K mg base 1 (He.fAd K ("_law_row", none)) fd ps_law_row f_law_row ∧ PySem.W.keepIn K (.ref (He.fAd K ("_law_row", none))) = true ∧ (∃ ds, Vals (([] : List V).drop 0 : List V) ds ∧ Binds K fd ps_law_row ds) := by
  obtain ⟨fd, F⟩ := T.d_law_row
  exact ⟨fd, fi_law_row T F, F.kp, ⟨[], .nil, F.bindsN fun _ _ _ _ _ _ us hl => match us, hl with | [_, _], _ => rfl⟩⟩
theorem fi_Handshake_init_of_Table (T : Tx P K mg) {fd : FuncData} (F : FunD K "__init__" "Table.__init__" (defArgs st_Handshake_init_of_Table) (defBody st_Handshake_init_of_Table) (defScope st_Handshake_init_of_Table) ([.str "start", .ref (He.dflAt ("Table", some "__init__") 1 K)] : List V) ([] : List (Str × V)) (He.fAd K ("Table", some "__init__")) fd) : FI P w K mg base 1 (He.fAd K ("Table", some "__init__")) fd ps_Handshake_init_of_Table f_Handshake_init_of_Table := by
  have h := fi_of (P := P) (w := w) (mg := mg) (base := base) F sc_Handshake_init_of_Table (m := m_Handshake_init_of_Table) (k := 0) (fun cdv A outer s H E hr => by
    exact (iss_cons (is_fld T.att (ie_var 0) (ie_var 1) (by decide +kernel))
    (iss_one (is_fld T.att (ie_var 0) (ie_lc [("row", 3)] rfl rfl sc_Handshake_init_of_Table.nd (ii_seq (ie_var 2)) (blkOk_by (own := [("row", 3)]) (N := N_Handshake_init_of_Table) (sc := defScope st_Handshake_init_of_Table) (by decide +kernel)) (by decide) (fun _ _ _ _ _ => (ig_name 3 sc_Handshake_init_of_Table.nd)) (fun _ _ _ _ _ => its_nil) (fun _ _ _ _ _ => (ie_BT call_tuple_of ci_tuple T.b_tuple (by decide +kernel) (ia_cons (ie_var 3) ia_nil)))) (by decide +kernel)))))
  exact h
theorem ok_Handshake_init_of_Table (T : Tx P K mg) : ∃ fd, FI P w K mg base 1 (He.fAd K ("Table", some "__init__")) fd ps_Handshake_init_of_Table f_Handshake_init_of_Table ∧ PySem.W.keepIn K (.ref (He.fAd K ("Table", some "__init__"))) = true ∧ (∃ ds, Vals (([.str "start", .ref (He.dflAt ("Table", some "__init__") 1 K)] : List V).drop 1 : List V) ds ∧ Binds K fd ps_Handshake_init_of_Table ds) := by
  obtain ⟨fd, F⟩ := T.d_Handshake_init_of_Table
  exact ⟨fd, fi_Handshake_init_of_Table T F, F.kp, F.binds1 2 1 (by simp) rfl fun _ _ _ _ _ _ _ us its hu hi => match us, hu, its, hi with | [_, _], _, [_, _], _ => ⟨_, rfl, rfl⟩⟩
theorem fi_Handshake_init (T : Tx P K mg) {fd : FuncData} (F : XnF P K (He.fAd K ("Handshake", some "__init__")) (ccAt ("Handshake", some "__init__") K) "__init__" "Handshake.__init__" (defArgs st_Handshake_init) (defBody st_Handshake_init) (defScope st_Handshake_init) fd) : FI P w K mg base 2 (He.fAd K ("Handshake", some "__init__")) fd ps_Handshake_init f_Handshake_init := by
  obtain ⟨fd_Handshake_init_of_Table, F_Handshake_init_of_Table, k_Handshake_init_of_Table, ⟨ds_Handshake_init_of_Table_2, v_Handshake_init_of_Table_2, b_Handshake_init_of_Table_2⟩⟩ := ok_Handshake_init_of_Table (P := P) (w := w) (base := base) T
  have w_Handshake_init_of_Table_2 : GVals K (([.str "start", .ref (He.dflAt ("Table", some "__init__") 1 K)] : List V).drop 1 : List V) [(.tup [])] := ⟨T.dv_Handshake_init_of_Table_1, trivial⟩
  have h := fi_ofS (P := P) (w := w) (mg := mg) (base := base) (x0 := "self") F sc_Handshake_init T.su_0.cl T.b_super T.top_ (by decide +kernel) (by decide +kernel) ⟨_, rfl, rfl⟩ rfl (by decide +kernel) (m := m_Handshake_init) (k := 1) (fun cda A outer s H E hr Z => by
    exact (issc_cons (isc_expr (iec_sup nocs_func (L2.takes_of rfl rfl rfl rfl) Z T.su_0 (congrArg (He.ga K) e_Handshake.symm) (by decide +kernel) F_Handshake_init_of_Table rfl (hr.mono (by decide)) b_Handshake_init_of_Table_2 v_Handshake_init_of_Table_2 w_Handshake_init_of_Table_2 (ia_cons (ie_tup (ia_cons (ie_str (by decide +kernel)) (ia_cons (ie_str (by decide +kernel)) ia_nil))) ia_nil)))
    (issc_one (isc_of (is_fld T.att (ie_var 0) (ie_var 1) (by decide +kernel))))))
  exact h
theorem ok_Handshake_init (T : Tx P K mg) : ∃ fd, FI P w K mg base 2 (He.fAd K ("Handshake", some "__init__")) fd ps_Handshake_init f_Handshake_init ∧ PySem.W.keepIn K (.ref (He.fAd K ("Handshake", some "__init__"))) = true ∧ (∃ ds, Vals (([] : List V).drop 0 : List V) ds ∧ Binds K fd ps_Handshake_init ds) := by
  obtain ⟨fd, F⟩ := T.xf_Handshake_init
  refine ⟨fd, fi_Handshake_init T F, T.kp_Handshake_init, ⟨[], .nil, ?_⟩⟩
  obtain ⟨oc, od, kV, doc, pm, an, cda, ct, osl, rfl, _⟩ := F.ex
  exact Binds.all fun us hl => match us, hl with | [_, _], _ => rfl
theorem fi_Handshake_start (T : Tx P K mg) {fd : FuncData} (F : FunD K "start" "Handshake.start" (defArgs st_Handshake_start) (defBody st_Handshake_start) (defScope st_Handshake_start) ([] : List V) ([] : List (Str × V)) (He.fAd K ("Handshake", some "start")) fd) : FI P w K mg base 1 (He.fAd K ("Handshake", some "start")) fd ps_Handshake_start f_Handshake_start := by
  have h := fi_of (P := P) (w := w) (mg := mg) (base := base) F sc_Handshake_start (m := m_Handshake_start) (k := 0) (fun cdv A outer s H E hr => by
    exact (iss_one (is_ret (ie_fld T.att (ie_var 0) (by decide +kernel)))))
  exact h
theorem ok_Handshake_start (T : Tx P K mg) : ∃ fd, FI P w K mg base 1 (He.fAd K ("Handshake", some "start")) fd ps_Handshake_start f_Handshake_start ∧ PySem.W.keepIn K (.ref (He.fAd K ("Handshake", some "start"))) = true ∧ (∃ ds, Vals (([] : List V).drop 0 : List V) ds ∧ Binds K fd ps_Handshake_start ds) := by
  obtain ⟨fd, F⟩ := T.d_Handshake_start
  exact ⟨fd, fi_Handshake_start T F, F.kp, ⟨[], .nil, F.bindsN fun _ _ _ _ _ _ us hl => match us, hl with | [_], _ => rfl⟩⟩
theorem fi_Handshake_may_pass (T : Tx P K mg) {fd : FuncData} (F : FunD K "may_pass" "Handshake.may_pass" (defArgs st_Handshake_may_pass) (defBody st_Handshake_may_pass) (defScope st_Handshake_may_pass) ([] : List V) ([] : List (Str × V)) (He.fAd K ("Handshake", some "may_pass")) fd) : FI P w K mg base 1 (He.fAd K ("Handshake", some "may_pass")) fd ps_Handshake_may_pass f_Handshake_may_pass := by
  have h := fi_of (P := P) (w := w) (mg := mg) (base := base) F sc_Handshake_may_pass (m := m_Handshake_may_pass) (k := 0) (fun cdv A outer s H E hr => by
    exact (iss_one (is_ret (ie_or (ie_cmp (or_eqM hr.units) oi_eq (ie_var 1) (ie_str (by decide +kernel)) (nomark _)) (ie_one (ie_and (ie_fld T.att (ie_var 0) (by decide +kernel)) (ie_one (ie_cmp (or_eqM hr.units) oi_eq (ie_var 1) (ie_str (by decide +kernel)) (nomark _)))))))))
  exact h
theorem ok_Handshake_may_pass (T : Tx P K mg) : ∃ fd, FI P w K mg base 1 (He.fAd K ("Handshake", some "may_pass")) fd ps_Handshake_may_pass f_Handshake_may_pass ∧ PySem.W.keepIn K (.ref (He.fAd K ("Handshake", some "may_pass"))) = true ∧ (∃ ds, Vals (([] : List V).drop 0 : List V) ds ∧ Binds K fd ps_Handshake_may_pass ds) := by
  obtain ⟨fd, F⟩ := T.d_Handshake_may_pass
  exact ⟨fd, fi_Handshake_may_pass T F, F.kp, ⟨[], .nil, F.bindsN fun _ _ _ _ _ _ us hl => match us, hl with | [_, _], _ => rfl⟩⟩
theorem fi_Handshake_moves (T : Tx P K mg) {fd : FuncData} (F : FunD K "moves" "Handshake.moves" (defArgs st_Handshake_moves) (defBody st_Handshake_moves) (defScope st_Handshake_moves) ([] : List V) ([] : List (Str × V)) (He.fAd K ("Handshake", some "moves")) fd) : FI P w K mg base 2 (He.fAd K ("Handshake", some "moves")) fd ps_Handshake_moves f_Handshake_moves := by
  obtain ⟨fd_Handshake_may_pass, F_Handshake_may_pass, k_Handshake_may_pass, ⟨ds_Handshake_may_pass_2, v_Handshake_may_pass_2, b_Handshake_may_pass_2⟩⟩ := ok_Handshake_may_pass (P := P) (w := w) (base := base) T
  have w_Handshake_may_pass_2 : GVals K (([] : List V).drop 0 : List V) [] := trivial
  have h := fi_of (P := P) (w := w) (mg := mg) (base := base) F sc_Handshake_moves (m := m_Handshake_moves) (k := 1) (fun cdv A outer s H E hr => by
    exact (iss_cons (is_set (i := 2) sc_Handshake_moves.nd (ie_lst ia_nil))
    (iss_cons (is_for (L2.passes_of rfl) rfl (ii_seq (ie_con T.c_DEEDS)) (ig_tup rfl (igs_cons (ig_name 3 sc_Handshake_moves.nd) (igs_cons (ig_name 4 sc_Handshake_moves.nd) (igs_cons (ig_name 5 sc_Handshake_moves.nd) igs_nil))))
    (iss_one (is_for (L2.passes_of rfl) rfl (ii_range1 T.b_range (ie_con T.c_PROCESSORS)) (ig_name 6 sc_Handshake_moves.nd)
    (iss_one (is_if (it_w (iw_and (it_cmp (or_eqM hr.units) oi_eq (ie_ix (ie_var 1) (ie_var 6)) (ie_var 4) (nomark _)) (iw_and1 (it_w (iw_or (it_cmp (or_neM hr.units) oi_ne (ie_var 3) (ie_str (by decide +kernel)) (nomark _)) (iw_or1 (it_val (ie_meth (L2.takes_of rfl rfl rfl rfl) (ie_var 0) (congrArg (He.ga K) e_Handshake.symm) T.cl_Handshake T.me_Handshake_may_pass (by decide +kernel) F_Handshake_may_pass rfl (hr.mono (by decide)) b_Handshake_may_pass_2 v_Handshake_may_pass_2 w_Handshake_may_pass_2 (ia_cons (ie_ix (ie_var 1) (ie_bin op_sub oi_sub ie_int (ie_var 6))) ia_nil)))))))))
    (iss_cons (is_set (i := 7) sc_Handshake_moves.nd (ie_BT call_list_of ci_list T.b_list (by decide +kernel) (ia_cons (ie_var 1) ia_nil)))
    (iss_cons (is_sub (ie_var 7) (ie_var 6) (ie_var 5))
    (iss_one (is_expr (ie_mt PySem.F.plainAttrs_list PySem.F.slot_list_append PySem.F.type_list_append mt_append chk_list mi_append (ie_var 2) (ia_cons (ie_tup (ia_cons (ie_fs (.cons (ie_fmt (ie_var 3)) (.cons (ie_str (by decide +kernel)) (.cons (ie_fmt (ie_var 6)) .nil)))) (ia_cons (ie_BT call_tuple_of ci_tuple T.b_tuple (by decide +kernel) (ia_cons (ie_var 7) ia_nil)) ia_nil))) ia_nil))))))
    iss_nil)))))
    (iss_one (is_ret (ie_var 2))))))
  exact h
theorem ok_Handshake_moves (T : Tx P K mg) : ∃ fd, FI P w K mg base 2 (He.fAd K ("Handshake", some "moves")) fd ps_Handshake_moves f_Handshake_moves ∧ PySem.W.keepIn K (.ref (He.fAd K ("Handshake", some "moves"))) = true ∧ (∃ ds, Vals (([] : List V).drop 0 : List V) ds ∧ Binds K fd ps_Handshake_moves ds) := by
  obtain ⟨fd, F⟩ := T.d_Handshake_moves
  exact ⟨fd, fi_Handshake_moves T F, F.kp, ⟨[], .nil, F.bindsN fun _ _ _ _ _ _ us hl => match us, hl with | [_, _], _ => rfl⟩⟩
theorem fi_Handshake_scenario (T : Tx P K mg) {fd : FuncData} (F : FunD K "scenario" "Table.scenario" (defArgs st_Handshake_scenario) (defBody st_Handshake_scenario) (defScope st_Handshake_scenario) ([] : List V) ([] : List (Str × V)) (He.fAd K ("Handshake", some "scenario")) fd) : FI P w K mg base 3 (He.fAd K ("Handshake", some "scenario")) fd ps_Handshake_scenario f_Handshake_scenario := by
  obtain ⟨fd_Handshake_start, F_Handshake_start, k_Handshake_start, ⟨ds_Handshake_start_1, v_Handshake_start_1, b_Handshake_start_1⟩⟩ := ok_Handshake_start (P := P) (w := w) (base := base) T
  have w_Handshake_start_1 : GVals K (([] : List V).drop 0 : List V) [] := trivial
  obtain ⟨fd_Handshake_moves, F_Handshake_moves, k_Handshake_moves, ⟨ds_Handshake_moves_2, v_Handshake_moves_2, b_Handshake_moves_2⟩⟩ := ok_Handshake_moves (P := P) (w := w) (base := base) T
  have w_Handshake_moves_2 : GVals K (([] : List V).drop 0 : List V) [] := trivial
  have h := fi_of (P := P) (w := w) (mg := mg) (base := base) F sc_Handshake_scenario (m := m_Handshake_scenario) (k := 2) (fun cdv A outer s H E hr => by
    exact (iss_cons (is_set (i := 1) sc_Handshake_scenario.nd (ie_ndisp hr.units (ie_meth0 (L2.takes_of rfl rfl rfl rfl) (ie_var 0) (congrArg (He.ga K) e_Handshake.symm) T.cl_Handshake T.me_Handshake_start (by decide +kernel) F_Handshake_start rfl (hr.mono (by decide)) b_Handshake_start_1 v_Handshake_start_1 w_Handshake_start_1) (ie_tup ia_nil)))
    (iss_cons (is_set (i := 2) sc_Handshake_scenario.nd (ie_lst (ia_cons (ie_meth0 (L2.takes_of rfl rfl rfl rfl) (ie_var 0) (congrArg (He.ga K) e_Handshake.symm) T.cl_Handshake T.me_Handshake_start (by decide +kernel) F_Handshake_start rfl (hr.mono (by decide)) b_Handshake_start_1 v_Handshake_start_1 w_Handshake_start_1) ia_nil)))
    (iss_cons (is_set (i := 3) sc_Handshake_scenario.nd ie_int)
    (iss_cons (is_while 1000 (L2.passes_of rfl) (it_cmp op_lt oi_lt (ie_var 3) (ie_B call_len ci_len T.b_len (by decide +kernel) (ia_cons (ie_var 2) ia_nil)) (nomark _))
    (iss_cons (is_set (i := 4) sc_Handshake_scenario.nd (ie_ix (ie_var 2) (ie_var 3)))
    (iss_cons (is_for (L2.passes_of rfl) rfl (ii_seq (ie_meth (L2.takes_of rfl rfl rfl rfl) (ie_var 0) (congrArg (He.ga K) e_Handshake.symm) T.cl_Handshake T.me_Handshake_moves (by decide +kernel) F_Handshake_moves rfl (hr.mono (by decide)) b_Handshake_moves_2 v_Handshake_moves_2 w_Handshake_moves_2 (ia_cons (ie_var 4) ia_nil))) (ig_tup rfl (igs_cons (ig_name 5 sc_Handshake_scenario.nd) (igs_cons (ig_name 6 sc_Handshake_scenario.nd) igs_nil)))
    (iss_cons (is_if (it_cmp (or_eqM hr.units) oi_eq (ie_var 6) (ie_con T.c_BAD) (nomark _))
    (iss_one (is_ret (ie_bin or_addM oi_add (ie_BT call_list_of ci_list T.b_list (by decide +kernel) (ia_cons (ie_nget hr.units (ie_var 1) (ie_var 4)) ia_nil)) (ie_lst (ia_cons (ie_var 5) ia_nil)))))
    iss_nil)
    (iss_one (is_if (it_nnin hr.units (ie_var 6) (ie_var 1))
    (iss_cons (is_nput hr.units (ie_var 1) (ie_var 6) (ie_bin or_addM oi_add (ie_nget hr.units (ie_var 1) (ie_var 4)) (ie_tup (ia_cons (ie_var 5) ia_nil))))
    (iss_one (is_expr (ie_mt PySem.F.plainAttrs_list PySem.F.slot_list_append PySem.F.type_list_append mt_append chk_list mi_append (ie_var 2) (ia_cons (ie_var 6) ia_nil)))))
    iss_nil))))
    (iss_one (is_aug (i := 3) sc_Handshake_scenario.nd ip_add oi_ip ie_int)))))
    (iss_one (is_ret ie_non)))))))
  exact h
theorem ok_Handshake_scenario (T : Tx P K mg) : ∃ fd, FI P w K mg base 3 (He.fAd K ("Handshake", some "scenario")) fd ps_Handshake_scenario f_Handshake_scenario ∧ PySem.W.keepIn K (.ref (He.fAd K ("Handshake", some "scenario"))) = true ∧ (∃ ds, Vals (([] : List V).drop 0 : List V) ds ∧ Binds K fd ps_Handshake_scenario ds) := by
  obtain ⟨fd, F⟩ := T.d_Handshake_scenario
  exact ⟨fd, fi_Handshake_scenario T F, F.kp, ⟨[], .nil, F.bindsN fun _ _ _ _ _ _ us hl => match us, hl with | [_], _ => rfl⟩⟩
theorem fi_law_nine (T : Tx P K mg) {fd : FuncData} (F : FunD K "_law_nine" "_law_nine" (defArgs st_law_nine) (defBody st_law_nine) (defScope st_law_nine) ([] : List V) ([] : List (Str × V)) (He.fAd K ("_law_nine", none)) fd) : FI P w K mg base 1 (He.fAd K ("_law_nine", none)) fd ps_law_nine f_law_nine := by
  have h := fi_of (P := P) (w := w) (mg := mg) (base := base) F sc_law_nine (m := m_law_nine) (k := 0) (fun cdv A outer s H E hr => by
    exact (iss_cons (is_set (i := 0) sc_law_nine.nd (ie_lst (ia_cons (ie_str (by decide +kernel)) (ia_cons (ie_str (by decide +kernel)) (ia_cons (ie_str (by decide +kernel)) ia_nil)))))
    (iss_cons (is_set (i := 1) sc_law_nine.nd (ie_lst ia_nil))
    (iss_cons (is_for (L2.passes_of rfl) rfl (ii_seq (ie_var 0)) (ig_name 2 sc_law_nine.nd)
    (iss_one (is_for (L2.passes_of rfl) rfl (ii_seq (ie_var 0)) (ig_name 3 sc_law_nine.nd)
    (iss_one (is_expr (ie_mt PySem.F.plainAttrs_list PySem.F.slot_list_append PySem.F.type_list_append mt_append chk_list mi_append (ie_var 1) (ia_cons (ie_tup (ia_cons (ie_var 2) (ia_cons (ie_var 3) ia_nil))) ia_nil)))))))
    (iss_one (is_ret (ie_var 1)))))))
  exact h
theorem ok_law_nine (T : Tx P K mg) : ∃ fd, FI P w K mg base 1 (He.fAd K ("_law_nine", none)) fd ps_law_nine f_law_nine ∧ PySem.W.keepIn K (.ref (He.fAd K ("_law_nine", none))) = true ∧ (∃ ds, Vals (([] : List V).drop 0 : List V) ds ∧ Binds K fd ps_law_nine ds) := by
  obtain ⟨fd, F⟩ := T.d_law_nine
  exact ⟨fd, fi_law_nine T F, F.kp, ⟨[], .nil, F.bindsN fun _ _ _ _ _ _ us hl => match us, hl with | [], _ => rfl⟩⟩
theorem fi_law_same_moves (T : Tx P K mg) {fd : FuncData} (F : FunD K "_law_same_moves" "_law_same_moves" (defArgs st_law_same_moves) (defBody st_law_same_moves) (defScope st_law_same_moves) ([] : List V) ([] : List (Str × V)) (He.fAd K ("_law_same_moves", none)) fd) : FI P w K mg base 1 (He.fAd K ("_law_same_moves", none)) fd ps_law_same_moves f_law_same_moves := by
  have h := fi_of (P := P) (w := w) (mg := mg) (base := base) F sc_law_same_moves (m := m_law_same_moves) (k := 0) (fun cdv A outer s H E hr => by
    exact (iss_cons (is_if (it_w (iw_or (it_not (it_val (ie_B call_isi ci_isi T.b_isinstance (by decide +kernel) (ia_cons (ie_var 0) (ia_cons (ie_ty (t := .list) T.b_list (by decide +kernel)) ia_nil))))) (iw_or1 (it_cmp (or_neM hr.units) oi_ne (ie_B call_len ci_len T.b_len (by decide +kernel) (ia_cons (ie_var 0) ia_nil)) (ie_B call_len ci_len T.b_len (by decide +kernel) (ia_cons (ie_var 1) ia_nil)) (nomark _)))))
    (iss_one (is_ret ie_bl))
    iss_nil)
    (iss_cons (is_for (L2.passes_of rfl) rfl (ii_range1 T.b_range (ie_B call_len ci_len T.b_len (by decide +kernel) (ia_cons (ie_var 1) ia_nil))) (ig_name 2 sc_law_same_moves.nd)
    (iss_one (is_if (it_w (iw_or (it_not (it_val (ie_B call_isi ci_isi T.b_isinstance (by decide +kernel) (ia_cons (ie_ix (ie_var 0) (ie_var 2)) (ia_cons (ie_ty (t := .tuple) T.b_tuple (by decide +kernel)) ia_nil))))) (iw_or (it_cmp (or_neM hr.units) oi_ne (ie_B call_len ci_len T.b_len (by decide +kernel) (ia_cons (ie_ix (ie_var 0) (ie_var 2)) ia_nil)) ie_int (nomark _)) (iw_or (it_not (it_val (ie_B call_isi ci_isi T.b_isinstance (by decide +kernel) (ia_cons (ie_ix (ie_ix (ie_var 0) (ie_var 2)) ie_int) (ia_cons (ie_ty (t := .tuple) T.b_tuple (by decide +kernel)) ia_nil))))) (iw_or1 (it_cmp (or_neM hr.units) oi_ne (ie_ix (ie_var 0) (ie_var 2)) (ie_ix (ie_var 1) (ie_var 2)) (nomark _)))))))
    (iss_one (is_ret ie_bl))
    iss_nil)))
    (iss_one (is_ret ie_bl)))))
  exact h
theorem ok_law_same_moves (T : Tx P K mg) : ∃ fd, FI P w K mg base 1 (He.fAd K ("_law_same_moves", none)) fd ps_law_same_moves f_law_same_moves ∧ PySem.W.keepIn K (.ref (He.fAd K ("_law_same_moves", none))) = true ∧ (∃ ds, Vals (([] : List V).drop 0 : List V) ds ∧ Binds K fd ps_law_same_moves ds) := by
  obtain ⟨fd, F⟩ := T.d_law_same_moves
  exact ⟨fd, fi_law_same_moves T F, F.kp, ⟨[], .nil, F.bindsN fun _ _ _ _ _ _ us hl => match us, hl with | [_, _], _ => rfl⟩⟩
theorem fi_law_words (T : Tx P K mg) {fd : FuncData} (F : FunD K "_law_words" "_law_words" (defArgs st_law_words) (defBody st_law_words) (defScope st_law_words) ([] : List V) ([] : List (Str × V)) (He.fAd K ("_law_words", none)) fd) : FI P w K mg base 1 (He.fAd K ("_law_words", none)) fd ps_law_words f_law_words := by
  have h := fi_of (P := P) (w := w) (mg := mg) (base := base) F sc_law_words (m := m_law_words) (k := 0) (fun cdv A outer s H E hr => by
    exact (iss_one (is_ret (ie_lst (ia_cons (ie_tup (ia_cons (ie_str (by decide +kernel)) (ia_cons (ie_str (by decide +kernel)) (ia_cons (ie_str (by decide +kernel)) ia_nil)))) (ia_cons (ie_tup (ia_cons (ie_str (by decide +kernel)) (ia_cons (ie_str (by decide +kernel)) (ia_cons (ie_str (by decide +kernel)) ia_nil)))) (ia_cons (ie_tup (ia_cons (ie_str (by decide +kernel)) (ia_cons (ie_str (by decide +kernel)) (ia_cons (ie_str (by decide +kernel)) ia_nil)))) (ia_cons (ie_tup (ia_cons (ie_str (by decide +kernel)) (ia_cons (ie_str (by decide +kernel)) (ia_cons (ie_str (by decide +kernel)) ia_nil)))) ia_nil))))))))
  exact h
theorem ok_law_words (T : Tx P K mg) : ∃ fd, FI P w K mg base 1 (He.fAd K ("_law_words", none)) fd ps_law_words f_law_words ∧ PySem.W.keepIn K (.ref (He.fAd K ("_law_words", none))) = true ∧ (∃ ds, Vals (([] : List V).drop 0 : List V) ds ∧ Binds K fd ps_law_words ds) := by
  obtain ⟨fd, F⟩ := T.d_law_words
  exact ⟨fd, fi_law_words T F, F.kp, ⟨[], .nil, F.bindsN fun _ _ _ _ _ _ us hl => match us, hl with | [], _ => rfl⟩⟩
theorem fi_law_moves (T : Tx P K mg) {fd : FuncData} (F : FunD K "_law_moves" "_law_moves" (defArgs st_law_moves) (defBody st_law_moves) (defScope st_law_moves) ([] : List V) ([] : List (Str × V)) (He.fAd K ("_law_moves", none)) fd) : FI P w K mg base 2 (He.fAd K ("_law_moves", none)) fd ps_law_moves f_law_moves := by
  obtain ⟨fd_law_words, F_law_words, k_law_words, ⟨ds_law_words_0, v_law_words_0, b_law_words_0⟩⟩ := ok_law_words (P := P) (w := w) (base := base) T
  have w_law_words_0 : GVals K (([] : List V).drop 0 : List V) [] := trivial
  have h := fi_of (P := P) (w := w) (mg := mg) (base := base) F sc_law_moves (m := m_law_moves) (k := 1) (fun cdv A outer s H E hr => by
    exact (iss_cons (is_set (i := 2) sc_law_moves.nd (ie_lst ia_nil))
    (iss_cons (is_for (L2.passes_of rfl) rfl (ii_seq (ie_call0 (L2.takes_of rfl rfl rfl rfl) F_law_words rfl (hr.mono (by decide)) T.g__law_words k_law_words b_law_words_0 v_law_words_0 w_law_words_0)) (ig_name 3 sc_law_moves.nd)
    (iss_one (is_for (L2.passes_of rfl) rfl (ii_seq (ie_lst (ia_cons ie_int (ia_cons ie_int ia_nil)))) (ig_name 4 sc_law_moves.nd)
    (iss_cons (is_set (i := 5) sc_law_moves.nd (ie_ix (ie_var 0) (ie_bin op_sub oi_sub ie_int (ie_var 4))))
    (iss_cons (is_set (i := 6) sc_law_moves.nd (ie_cmp (or_eqM hr.units) oi_eq (ie_ix (ie_var 0) (ie_var 4)) (ie_ix (ie_var 3) ie_int) (nomark _)))
    (iss_cons (is_if (it_w (iw_and (it_cmp (or_eqM hr.units) oi_eq (ie_ix (ie_var 3) ie_int) (ie_str (by decide +kernel)) (nomark _)) (iw_and (it_cmp (or_neM hr.units) oi_ne (ie_var 5) (ie_str (by decide +kernel)) (nomark _)) (iw_and1 (it_not (it_w (iw_and (it_val (ie_var 1)) (iw_and1 (it_cmp (or_eqM hr.units) oi_eq (ie_var 5) (ie_str (by decide +kernel)) (nomark _))))))))))
    (iss_one (is_set (i := 6) sc_law_moves.nd ie_bl))
    iss_nil)
    (iss_one (is_if (it_val (ie_var 6))
    (iss_cons (is_set (i := 7) sc_law_moves.nd (ie_lst (ia_cons (ie_ix (ie_var 0) ie_int) (ia_cons (ie_ix (ie_var 0) ie_int) ia_nil))))
    (iss_cons (is_sub (ie_var 7) (ie_var 4) (ie_ix (ie_var 3) ie_int))
    (iss_one (is_expr (ie_mt PySem.F.plainAttrs_list PySem.F.slot_list_append PySem.F.type_list_append mt_append chk_list mi_append (ie_var 2) (ia_cons (ie_tup (ia_cons (ie_bin or_addM oi_add (ie_bin or_addM oi_add (ie_ix (ie_var 3) ie_int) (ie_str (by decide +kernel))) (ie_BT cr_str ci_str T.b_str (by decide +kernel) (ia_cons (ie_var 4) ia_nil))) (ia_cons (ie_tup (ia_cons (ie_ix (ie_var 7) ie_int) (ia_cons (ie_ix (ie_var 7) ie_int) ia_nil))) ia_nil))) ia_nil))))))
    iss_nil))))))))
    (iss_one (is_ret (ie_var 2))))))
  exact h
theorem ok_law_moves (T : Tx P K mg) : ∃ fd, FI P w K mg base 2 (He.fAd K ("_law_moves", none)) fd ps_law_moves f_law_moves ∧ PySem.W.keepIn K (.ref (He.fAd K ("_law_moves", none))) = true ∧ (∃ ds, Vals (([] : List V).drop 0 : List V) ds ∧ Binds K fd ps_law_moves ds) := by
  obtain ⟨fd, F⟩ := T.d_law_moves
  exact ⟨fd, fi_law_moves T F, F.kp, ⟨[], .nil, F.bindsN fun _ _ _ _ _ _ us hl => match us, hl with | [_, _], _ => rfl⟩⟩
theorem fi_Handshake_states (T : Tx P K mg) {fd : FuncData} (F : FunD K "states" "Table.states" (defArgs st_Handshake_states) (defBody st_Handshake_states) (defScope st_Handshake_states) ([] : List V) ([] : List (Str × V)) (He.fAd K ("Handshake", some "states")) fd) : FI P w K mg base 3 (He.fAd K ("Handshake", some "states")) fd ps_Handshake_states f_Handshake_states := by
  obtain ⟨fd_Handshake_start, F_Handshake_start, k_Handshake_start, ⟨ds_Handshake_start_1, v_Handshake_start_1, b_Handshake_start_1⟩⟩ := ok_Handshake_start (P := P) (w := w) (base := base) T
  have w_Handshake_start_1 : GVals K (([] : List V).drop 0 : List V) [] := trivial
  obtain ⟨fd_Handshake_moves, F_Handshake_moves, k_Handshake_moves, ⟨ds_Handshake_moves_2, v_Handshake_moves_2, b_Handshake_moves_2⟩⟩ := ok_Handshake_moves (P := P) (w := w) (base := base) T
  have w_Handshake_moves_2 : GVals K (([] : List V).drop 0 : List V) [] := trivial
  have h := fi_of (P := P) (w := w) (mg := mg) (base := base) F sc_Handshake_states (m := m_Handshake_states) (k := 2) (fun cdv A outer s H E hr => by
    exact (iss_cons (is_set (i := 1) sc_Handshake_states.nd (ie_lst (ia_cons (ie_meth0 (L2.takes_of rfl rfl rfl rfl) (ie_var 0) (congrArg (He.ga K) e_Handshake.symm) T.cl_Handshake T.me_Handshake_start (by decide +kernel) F_Handshake_start rfl (hr.mono (by decide)) b_Handshake_start_1 v_Handshake_start_1 w_Handshake_start_1) ia_nil)))
    (iss_cons (is_set (i := 2) sc_Handshake_states.nd ie_int)
    (iss_cons (is_while 1000 (L2.passes_of rfl) (it_cmp op_lt oi_lt (ie_var 2) (ie_B call_len ci_len T.b_len (by decide +kernel) (ia_cons (ie_var 1) ia_nil)) (nomark _))
    (iss_cons (is_for (L2.passes_of rfl) rfl (ii_seq (ie_meth (L2.takes_of rfl rfl rfl rfl) (ie_var 0) (congrArg (He.ga K) e_Handshake.symm) T.cl_Handshake T.me_Handshake_moves (by decide +kernel) F_Handshake_moves rfl (hr.mono (by decide)) b_Handshake_moves_2 v_Handshake_moves_2 w_Handshake_moves_2 (ia_cons (ie_ix (ie_var 1) (ie_var 2)) ia_nil))) (ig_tup rfl (igs_cons (ig_name 3 sc_Handshake_states.nd) (igs_cons (ig_name 4 sc_Handshake_states.nd) igs_nil)))
    (iss_one (is_if (it_w (iw_and (it_cmp (or_neM hr.units) oi_ne (ie_var 4) (ie_con T.c_BAD) (nomark _)) (iw_and1 (it_cmp (op_notInX hr.units) oi_inX (ie_var 4) (ie_var 1) (by rfl)))))
    (iss_one (is_expr (ie_mt PySem.F.plainAttrs_list PySem.F.slot_list_append PySem.F.type_list_append mt_append chk_list mi_append (ie_var 1) (ia_cons (ie_var 4) ia_nil))))
    iss_nil)))
    (iss_one (is_aug (i := 2) sc_Handshake_states.nd ip_add oi_ip ie_int))))
    (iss_one (is_ret (ie_var 1)))))))
  exact h
theorem ok_Handshake_states (T : Tx P K mg) : ∃ fd, FI P w K mg base 3 (He.fAd K ("Handshake", some "states")) fd ps_Handshake_states f_Handshake_states ∧ PySem.W.keepIn K (.ref (He.fAd K ("Handshake", some "states"))) = true ∧ (∃ ds, Vals (([] : List V).drop 0 : List V) ds ∧ Binds K fd ps_Handshake_states ds) := by
  obtain ⟨fd, F⟩ := T.d_Handshake_states
  exact ⟨fd, fi_Handshake_states T F, F.kp, ⟨[], .nil, F.bindsN fun _ _ _ _ _ _ us hl => match us, hl with | [_], _ => rfl⟩⟩
theorem fi_law_states (T : Tx P K mg) {fd : FuncData} (F : FunD K "_law_states" "_law_states" (defArgs st_law_states) (defBody st_law_states) (defScope st_law_states) ([] : List V) ([] : List (Str × V)) (He.fAd K ("_law_states", none)) fd) : FI P w K mg base 3 (He.fAd K ("_law_states", none)) fd ps_law_states f_law_states := by
  obtain ⟨fd_law_moves, F_law_moves, k_law_moves, ⟨ds_law_moves_2, v_law_moves_2, b_law_moves_2⟩⟩ := ok_law_moves (P := P) (w := w) (base := base) T
  have w_law_moves_2 : GVals K (([] : List V).drop 0 : List V) [] := trivial
  have h := fi_of (P := P) (w := w) (mg := mg) (base := base) F sc_law_states (m := m_law_states) (k := 2) (fun cdv A outer s H E hr => by
    exact (iss_cons (is_set (i := 1) sc_law_states.nd (ie_lst (ia_cons (ie_tup (ia_cons (ie_str (by decide +kernel)) (ia_cons (ie_str (by decide +kernel)) ia_nil))) ia_nil)))
    (iss_cons (is_for (L2.passes_of rfl) rfl (ii_range1 T.b_range ie_int) (ig_name 2 sc_law_states.nd)
    (iss_one (is_if (it_cmp op_lt oi_lt (ie_var 2) (ie_B call_len ci_len T.b_len (by decide +kernel) (ia_cons (ie_var 1) ia_nil)) (nomark _))
    (iss_one (is_for (L2.passes_of rfl) rfl (ii_seq (ie_call (L2.takes_of rfl rfl rfl rfl) F_law_moves rfl (hr.mono (by decide)) T.g__law_moves k_law_moves b_law_moves_2 v_law_moves_2 w_law_moves_2 (ia_cons (ie_ix (ie_var 1) (ie_var 2)) (ia_cons (ie_var 0) ia_nil)))) (ig_name 3 sc_law_states.nd)
    (iss_one (is_if (it_cmp (op_notInX hr.units) oi_inX (ie_ix (ie_var 3) ie_int) (ie_var 1) (by rfl))
    (iss_one (is_expr (ie_mt PySem.F.plainAttrs_list PySem.F.slot_list_append PySem.F.type_list_append mt_append chk_list mi_append (ie_var 1) (ia_cons (ie_ix (ie_var 3) ie_int) ia_nil))))
    iss_nil))))
    iss_nil)))
    (iss_one (is_ret (ie_var 1))))))
  exact h
theorem ok_law_states (T : Tx P K mg) : ∃ fd, FI P w K mg base 3 (He.fAd K ("_law_states", none)) fd ps_law_states f_law_states ∧ PySem.W.keepIn K (.ref (He.fAd K ("_law_states", none))) = true ∧ (∃ ds, Vals (([] : List V).drop 0 : List V) ds ∧ Binds K fd ps_law_states ds) := by
  obtain ⟨fd, F⟩ := T.d_law_states
  exact ⟨fd, fi_law_states T F, F.kp, ⟨[], .nil, F.bindsN fun _ _ _ _ _ _ us hl => match us, hl with | [_], _ => rfl⟩⟩
theorem fi_law_digit (T : Tx P K mg) {fd : FuncData} (F : FunD K "_law_digit" "_law_digit" (defArgs st_law_digit) (defBody st_law_digit) (defScope st_law_digit) ([] : List V) ([] : List (Str × V)) (He.fAd K ("_law_digit", none)) fd) : FI P w K mg base 1 (He.fAd K ("_law_digit", none)) fd ps_law_digit f_law_digit := by
  have h := fi_of (P := P) (w := w) (mg := mg) (base := base) F sc_law_digit (m := m_law_digit) (k := 0) (fun cdv A outer s H E hr => by
    exact (iss_cons (is_if (it_cmp op_lt oi_lt (ie_var 1) (ie_B call_len ci_len T.b_len (by decide +kernel) (ia_cons (ie_var 0) ia_nil)) (nomark _))
    (iss_one (is_ret (ie_ix (ie_var 0) (ie_var 1))))
    iss_nil)
    (iss_one (is_ret ie_int))))
  exact h
theorem ok_law_digit (T : Tx P K mg) : ∃ fd, FI P w K mg base 1 (He.fAd K ("_law_digit", none)) fd ps_law_digit f_law_digit ∧ PySem.W.keepIn K (.ref (He.fAd K ("_law_digit", none))) = true ∧ (∃ ds, Vals (([] : List V).drop 0 : List V) ds ∧ Binds K fd ps_law_digit ds) := by
  obtain ⟨fd, F⟩ := T.d_law_digit
  exact ⟨fd, fi_law_digit T F, F.kp, ⟨[], .nil, F.bindsN fun _ _ _ _ _ _ us hl => match us, hl with | [_, _], _ => rfl⟩⟩
theorem fi_law_walk (T : Tx P K mg) {fd : FuncData} (F : FunD K "_law_walk" "_law_walk" (defArgs st_law_walk) (defBody st_law_walk) (defScope st_law_walk) ([] : List V) ([] : List (Str × V)) (He.fAd K ("_law_walk", none)) fd) : FI P w K mg base 3 (He.fAd K ("_law_walk", none)) fd ps_law_walk f_law_walk := by
  obtain ⟨fd_Handshake_start, F_Handshake_start, k_Handshake_start, ⟨ds_Handshake_start_1, v_Handshake_start_1, b_Handshake_start_1⟩⟩ := ok_Handshake_start (P := P) (w := w) (base := base) T
  have w_Handshake_start_1 : GVals K (([] : List V).drop 0 : List V) [] := trivial
  obtain ⟨fd_Handshake_moves, F_Handshake_moves, k_Handshake_moves, ⟨ds_Handshake_moves_2, v_Handshake_moves_2, b_Handshake_moves_2⟩⟩ := ok_Handshake_moves (P := P) (w := w) (base := base) T
  have w_Handshake_moves_2 : GVals K (([] : List V).drop 0 : List V) [] := trivial
  obtain ⟨fd_law_digit, F_law_digit, k_law_digit, ⟨ds_law_digit_2, v_law_digit_2, b_law_digit_2⟩⟩ := ok_law_digit (P := P) (w := w) (base := base) T
  have w_law_digit_2 : GVals K (([] : List V).drop 0 : List V) [] := trivial
  have h := fi_of (P := P) (w := w) (mg := mg) (base := base) F sc_law_walk (m := m_law_walk) (k := 2) (fun cdv A outer s H E hr => by
    exact (iss_cons (is_set (i := 3) sc_law_walk.nd (ie_meth0 (L2.takes_of rfl rfl rfl rfl) (ie_var 0) (congrArg (He.ga K) e_Handshake.symm) T.cl_Handshake T.me_Handshake_start (by decide +kernel) F_Handshake_start rfl (hr.mono (by decide)) b_Handshake_start_1 v_Handshake_start_1 w_Handshake_start_1))
    (iss_cons (is_for (L2.passes_of rfl) rfl (ii_range1 T.b_range ie_int) (ig_name 4 sc_law_walk.nd)
    (iss_cons (is_set (i := 5) sc_law_walk.nd (ie_meth (L2.takes_of rfl rfl rfl rfl) (ie_var 0) (congrArg (He.ga K) e_Handshake.symm) T.cl_Handshake T.me_Handshake_moves (by decide +kernel) F_Handshake_moves rfl (hr.mono (by decide)) b_Handshake_moves_2 v_Handshake_moves_2 w_Handshake_moves_2 (ia_cons (ie_var 3) ia_nil)))
    (iss_cons (is_if (it_cmp (or_eqM hr.units) oi_eq (ie_B call_len ci_len T.b_len (by decide +kernel) (ia_cons (ie_var 5) ia_nil)) ie_int (nomark _))
    (iss_one (is_ret (ie_cmp (or_eqM hr.units) oi_eq (ie_var 3) (ie_tup (ia_cons (ie_str (by decide +kernel)) (ia_cons (ie_str (by decide +kernel)) ia_nil))) (nomark _))))
    iss_nil)
    (iss_cons (is_set (i := 3) sc_law_walk.nd (ie_ix (ie_ix (ie_var 5) (ie_bin op_mod oi_mod (ie_BT call_int1 ci_int T.b_int (by decide +kernel) (ia_cons (ie_call (L2.takes_of rfl rfl rfl rfl) F_law_digit rfl (hr.mono (by decide)) T.g__law_digit k_law_digit b_law_digit_2 v_law_digit_2 w_law_digit_2 (ia_cons (ie_var 2) (ia_cons (ie_var 4) ia_nil))) ia_nil)) (ie_B call_len ci_len T.b_len (by decide +kernel) (ia_cons (ie_var 5) ia_nil)))) ie_int))
    (iss_one (is_if (it_cmp (op_notInX hr.units) oi_inX (ie_var 3) (ie_var 1) (by rfl))
    (iss_one (is_ret ie_bl))
    iss_nil))))))
    (iss_one (is_ret ie_bl)))))
  exact h
theorem ok_law_walk (T : Tx P K mg) : ∃ fd, FI P w K mg base 3 (He.fAd K ("_law_walk", none)) fd ps_law_walk f_law_walk ∧ PySem.W.keepIn K (.ref (He.fAd K ("_law_walk", none))) = true ∧ (∃ ds, Vals (([] : List V).drop 0 : List V) ds ∧ Binds K fd ps_law_walk ds) := by
  obtain ⟨fd, F⟩ := T.d_law_walk
  exact ⟨fd, fi_law_walk T F, F.kp, ⟨[], .nil, F.bindsN fun _ _ _ _ _ _ us hl => match us, hl with | [_, _, _], _ => rfl⟩⟩
theorem fi_law_goes_on (T : Tx P K mg) {fd : FuncData} (F : FunD K "_law_goes_on" "_law_goes_on" (defArgs st_law_goes_on) (defBody st_law_goes_on) (defScope st_law_goes_on) ([] : List V) ([] : List (Str × V)) (He.fAd K ("_law_goes_on", none)) fd) : FI P w K mg base 3 (He.fAd K ("_law_goes_on", none)) fd ps_law_goes_on f_law_goes_on := by
  obtain ⟨fd_Handshake_moves, F_Handshake_moves, k_Handshake_moves, ⟨ds_Handshake_moves_2, v_Handshake_moves_2, b_Handshake_moves_2⟩⟩ := ok_Handshake_moves (P := P) (w := w) (base := base) T
  have w_Handshake_moves_2 : GVals K (([] : List V).drop 0 : List V) [] := trivial
  have h := fi_of (P := P) (w := w) (mg := mg) (base := base) F sc_law_goes_on (m := m_law_goes_on) (k := 2) (fun cdv A outer s H E hr => by
    exact (iss_cons (is_set (i := 3) sc_law_goes_on.nd (ie_meth (L2.takes_of rfl rfl rfl rfl) (ie_var 0) (congrArg (He.ga K) e_Handshake.symm) T.cl_Handshake T.me_Handshake_moves (by decide +kernel) F_Handshake_moves rfl (hr.mono (by decide)) b_Handshake_moves_2 v_Handshake_moves_2 w_Handshake_moves_2 (ia_cons (ie_var 1) ia_nil)))
    (iss_cons (is_for (L2.passes_of rfl) rfl (ii_seq (ie_var 3)) (ig_name 4 sc_law_goes_on.nd)
    (iss_one (is_if (it_cmp (or_eqM hr.units) oi_eq (ie_ix (ie_var 4) ie_int) (ie_bin or_addM oi_add (ie_str (by decide +kernel)) (ie_BT cr_str ci_str T.b_str (by decide +kernel) (ia_cons (ie_var 2) ia_nil))) (nomark _))
    (iss_one (is_ret ie_bl))
    iss_nil)))
    (iss_cons (is_for (L2.passes_of rfl) rfl (ii_seq (ie_var 3)) (ig_name 4 sc_law_goes_on.nd)
    (iss_one (is_if (it_cmp (or_eqM hr.units) oi_eq (ie_ix (ie_var 4) ie_int) (ie_bin or_addM oi_add (ie_str (by decide +kernel)) (ie_BT cr_str ci_str T.b_str (by decide +kernel) (ia_cons (ie_bin op_sub oi_sub ie_int (ie_var 2)) ia_nil))) (nomark _))
    (iss_one (is_for (L2.passes_of rfl) rfl (ii_seq (ie_meth (L2.takes_of rfl rfl rfl rfl) (ie_var 0) (congrArg (He.ga K) e_Handshake.symm) T.cl_Handshake T.me_Handshake_moves (by decide +kernel) F_Handshake_moves rfl (hr.mono (by decide)) b_Handshake_moves_2 v_Handshake_moves_2 w_Handshake_moves_2 (ia_cons (ie_ix (ie_var 4) ie_int) ia_nil))) (ig_name 5 sc_law_goes_on.nd)
    (iss_one (is_if (it_cmp (or_eqM hr.units) oi_eq (ie_ix (ie_var 5) ie_int) (ie_bin or_addM oi_add (ie_str (by decide +kernel)) (ie_BT cr_str ci_str T.b_str (by decide +kernel) (ia_cons (ie_var 2) ia_nil))) (nomark _))
    (iss_one (is_ret ie_bl))
    iss_nil))))
    iss_nil)))
    (iss_one (is_ret ie_bl))))))
  exact h
theorem ok_law_goes_on (T : Tx P K mg) : ∃ fd, FI P w K mg base 3 (He.fAd K ("_law_goes_on", none)) fd ps_law_goes_on f_law_goes_on ∧ PySem.W.keepIn K (.ref (He.fAd K ("_law_goes_on", none))) = true ∧ (∃ ds, Vals (([] : List V).drop 0 : List V) ds ∧ Binds K fd ps_law_goes_on ds) := by
  obtain ⟨fd, F⟩ := T.d_law_goes_on
  exact ⟨fd, fi_law_goes_on T F, F.kp, ⟨[], .nil, F.bindsN fun _ _ _ _ _ _ us hl => match us, hl with | [_, _, _], _ => rfl⟩⟩
theorem fi_law_table (T : Tx P K mg) {fd : FuncData} (F : FunD K "_law_table" "_law_table" (defArgs st_law_table) (defBody st_law_table) (defScope st_law_table) ([] : List V) ([] : List (Str × V)) (He.fAd K ("_law_table", none)) fd) : FI P w K mg base 4 (He.fAd K ("_law_table", none)) fd ps_law_table f_law_table := by
  obtain ⟨fd_Handshake_init, F_Handshake_init, k_Handshake_init, ⟨ds_Handshake_init_2, v_Handshake_init_2, b_Handshake_init_2⟩⟩ := ok_Handshake_init (P := P) (w := w) (base := base) T
  have w_Handshake_init_2 : GVals K (([] : List V).drop 0 : List V) [] := trivial
  obtain ⟨fd_Handshake_start, F_Handshake_start, k_Handshake_start, ⟨ds_Handshake_start_1, v_Handshake_start_1, b_Handshake_start_1⟩⟩ := ok_Handshake_start (P := P) (w := w) (base := base) T
  have w_Handshake_start_1 : GVals K (([] : List V).drop 0 : List V) [] := trivial
  obtain ⟨fd_Handshake_scenario, F_Handshake_scenario, k_Handshake_scenario, ⟨ds_Handshake_scenario_1, v_Handshake_scenario_1, b_Handshake_scenario_1⟩⟩ := ok_Handshake_scenario (P := P) (w := w) (base := base) T
  have w_Handshake_scenario_1 : GVals K (([] : List V).drop 0 : List V) [] := trivial
  obtain ⟨fd_law_nine, F_law_nine, k_law_nine, ⟨ds_law_nine_0, v_law_nine_0, b_law_nine_0⟩⟩ := ok_law_nine (P := P) (w := w) (base := base) T
  have w_law_nine_0 : GVals K (([] : List V).drop 0 : List V) [] := trivial
  obtain ⟨fd_law_same_moves, F_law_same_moves, k_law_same_moves, ⟨ds_law_same_moves_2, v_law_same_moves_2, b_law_same_moves_2⟩⟩ := ok_law_same_moves (P := P) (w := w) (base := base) T
  have w_law_same_moves_2 : GVals K (([] : List V).drop 0 : List V) [] := trivial
  obtain ⟨fd_law_moves, F_law_moves, k_law_moves, ⟨ds_law_moves_2, v_law_moves_2, b_law_moves_2⟩⟩ := ok_law_moves (P := P) (w := w) (base := base) T
  have w_law_moves_2 : GVals K (([] : List V).drop 0 : List V) [] := trivial
  obtain ⟨fd_Handshake_moves, F_Handshake_moves, k_Handshake_moves, ⟨ds_Handshake_moves_2, v_Handshake_moves_2, b_Handshake_moves_2⟩⟩ := ok_Handshake_moves (P := P) (w := w) (base := base) T
  have w_Handshake_moves_2 : GVals K (([] : List V).drop 0 : List V) [] := trivial
  obtain ⟨fd_Handshake_states, F_Handshake_states, k_Handshake_states, ⟨ds_Handshake_states_1, v_Handshake_states_1, b_Handshake_states_1⟩⟩ := ok_Handshake_states (P := P) (w := w) (base := base) T
  have w_Handshake_states_1 : GVals K (([] : List V).drop 0 : List V) [] := trivial
  obtain ⟨fd_law_states, F_law_states, k_law_states, ⟨ds_law_states_1, v_law_states_1, b_law_states_1⟩⟩ := ok_law_states (P := P) (w := w) (base := base) T
  have w_law_states_1 : GVals K (([] : List V).drop 0 : List V) [] := trivial
  obtain ⟨fd_law_walk, F_law_walk, k_law_walk, ⟨ds_law_walk_3, v_law_walk_3, b_law_walk_3⟩⟩ := ok_law_walk (P := P) (w := w) (base := base) T
  have w_law_walk_3 : GVals K (([] : List V).drop 0 : List V) [] := trivial
  obtain ⟨fd_law_goes_on, F_law_goes_on, k_law_goes_on, ⟨ds_law_goes_on_3, v_law_goes_on_3, b_law_goes_on_3⟩⟩ := ok_law_goes_on (P := P) (w := w) (base := base) T
  have w_law_goes_on_3 : GVals K (([] : List V).drop 0 : List V) [] := trivial
  have h := fi_of (P := P) (w := w) (mg := mg) (base := base) F sc_law_table (m := m_law_table) (k := 3) (fun cdv A outer s H E hr => by
    exact (iss_cons (is_set (i := 2) sc_law_table.nd (ie_make (L2.takes_of rfl rfl rfl rfl) T.mk_Handshake (congrArg (He.ga K) e_Handshake.symm) F_Handshake_init rfl (hr.mono (by decide)) T.g_Handshake b_Handshake_init_2 v_Handshake_init_2 w_Handshake_init_2 (ia_cons (ie_var 0) ia_nil)))
    (iss_cons (is_if (it_w (iw_or (it_not (it_val (ie_B call_isi (ci_iso T.iso_Table) T.b_isinstance (by decide +kernel) (ia_cons (ie_var 2) (ia_cons (ie_con T.c_Table) ia_nil))))) (iw_or (it_cmp (or_neM hr.units) oi_ne (ie_meth0 (L2.takes_of rfl rfl rfl rfl) (ie_var 2) (congrArg (He.ga K) e_Handshake.symm) T.cl_Handshake T.me_Handshake_start (by decide +kernel) F_Handshake_start rfl (hr.mono (by decide)) b_Handshake_start_1 v_Handshake_start_1 w_Handshake_start_1) (ie_tup (ia_cons (ie_str (by decide +kernel)) (ia_cons (ie_str (by decide +kernel)) ia_nil))) (nomark _)) (iw_or1 (it_cmp or_isNM oi_isN (ie_meth0 (L2.takes_of rfl rfl rfl rfl) (ie_var 2) (congrArg (He.ga K) e_Handshake.symm) T.cl_Handshake T.me_Handshake_scenario (by decide +kernel) F_Handshake_scenario rfl (hr.mono (by decide)) b_Handshake_scenario_1 v_Handshake_scenario_1 w_Handshake_scenario_1) ie_non (nomark _))))))
    (iss_one (is_ret ie_bl))
    iss_nil)
    (iss_cons (is_for (L2.passes_of rfl) rfl (ii_seq (ie_call0 (L2.takes_of rfl rfl rfl rfl) F_law_nine rfl (hr.mono (by decide)) T.g__law_nine k_law_nine b_law_nine_0 v_law_nine_0 w_law_nine_0)) (ig_name 3 sc_law_table.nd)
    (iss_one (is_if (it_not (it_val (ie_call (L2.takes_of rfl rfl rfl rfl) F_law_same_moves rfl (hr.mono (by decide)) T.g__law_same_moves k_law_same_moves b_law_same_moves_2 v_law_same_moves_2 w_law_same_moves_2 (ia_cons (ie_meth (L2.takes_of rfl rfl rfl rfl) (ie_var 2) (congrArg (He.ga K) e_Handshake.symm) T.cl_Handshake T.me_Handshake_moves (by decide +kernel) F_Handshake_moves rfl (hr.mono (by decide)) b_Handshake_moves_2 v_Handshake_moves_2 w_Handshake_moves_2 (ia_cons (ie_var 3) ia_nil)) (ia_cons (ie_call (L2.takes_of rfl rfl rfl rfl) F_law_moves rfl (hr.mono (by decide)) T.g__law_moves k_law_moves b_law_moves_2 v_law_moves_2 w_law_moves_2 (ia_cons (ie_var 3) (ia_cons (ie_var 0) ia_nil))) ia_nil)))))
    (iss_one (is_ret ie_bl))
    iss_nil)))
    (iss_cons (is_set (i := 4) sc_law_table.nd (ie_meth0 (L2.takes_of rfl rfl rfl rfl) (ie_var 2) (congrArg (He.ga K) e_Handshake.symm) T.cl_Handshake T.me_Handshake_states (by decide +kernel) F_Handshake_states rfl (hr.mono (by decide)) b_Handshake_states_1 v_Handshake_states_1 w_Handshake_states_1))
    (iss_cons (is_if (it_w (iw_or (it_not (it_val (ie_B call_isi ci_isi T.b_isinstance (by decide +kernel) (ia_cons (ie_var 4) (ia_cons (ie_ty (t := .list) T.b_list (by decide +kernel)) ia_nil))))) (iw_or (it_cmp (or_neM hr.units) oi_ne (ie_var 4) (ie_call (L2.takes_of rfl rfl rfl rfl) F_law_states rfl (hr.mono (by decide)) T.g__law_states k_law_states b_law_states_1 v_law_states_1 w_law_states_1 (ia_cons (ie_var 0) ia_nil)) (nomark _)) (iw_or1 (it_not (it_val (ie_call (L2.takes_of rfl rfl rfl rfl) F_law_walk rfl (hr.mono (by decide)) T.g__law_walk k_law_walk b_law_walk_3 v_law_walk_3 w_law_walk_3 (ia_cons (ie_var 2) (ia_cons (ie_var 4) (ia_cons (ie_var 1) ia_nil))))))))))
    (iss_one (is_ret ie_bl))
    iss_nil)
    (iss_cons (is_for (L2.passes_of rfl) rfl (ii_seq (ie_var 4)) (ig_name 3 sc_law_table.nd)
    (iss_cons (is_set (i := 5) sc_law_table.nd (ie_cmp (or_eqM hr.units) oi_eq (ie_B call_len ci_len T.b_len (by decide +kernel) (ia_cons (ie_meth (L2.takes_of rfl rfl rfl rfl) (ie_var 2) (congrArg (He.ga K) e_Handshake.symm) T.cl_Handshake T.me_Handshake_moves (by decide +kernel) F_Handshake_moves rfl (hr.mono (by decide)) b_Handshake_moves_2 v_Handshake_moves_2 w_Handshake_moves_2 (ia_cons (ie_var 3) ia_nil)) ia_nil)) ie_int (nomark _)))
    (iss_cons (is_if (it_cmp (or_neM hr.units) oi_ne (ie_var 5) (ie_and (ie_cmp (or_eqM hr.units) oi_eq (ie_var 3) (ie_tup (ia_cons (ie_str (by decide +kernel)) (ia_cons (ie_str (by decide +kernel)) ia_nil))) (nomark _)) (ie_one (ie_not (ie_var 0)))) (nomark _))
    (iss_one (is_ret ie_bl))
    iss_nil)
    (iss_one (is_for (L2.passes_of rfl) rfl (ii_seq (ie_lst (ia_cons ie_int (ia_cons ie_int ia_nil)))) (ig_name 6 sc_law_table.nd)
    (iss_one (is_if (it_w (iw_and (it_val (ie_var 0)) (iw_and (it_cmp (or_eqM hr.units) oi_eq (ie_ix (ie_var 3) (ie_var 6)) (ie_str (by decide +kernel)) (nomark _)) (iw_and1 (it_not (it_val (ie_call (L2.takes_of rfl rfl rfl rfl) F_law_goes_on rfl (hr.mono (by decide)) T.g__law_goes_on k_law_goes_on b_law_goes_on_3 v_law_goes_on_3 w_law_goes_on_3 (ia_cons (ie_var 2) (ia_cons (ie_var 3) (ia_cons (ie_var 6) ia_nil))))))))))
    (iss_one (is_ret ie_bl))
    iss_nil)))))))
    (iss_one (is_ret ie_bl)))))))))
  exact h
theorem ok_law_table (T : Tx P K mg) : ∃ fd, FI P w K mg base 4 (He.fAd K ("_law_table", none)) fd ps_law_table f_law_table ∧ PySem.W.keepIn K (.ref (He.fAd K ("_law_table", none))) = true ∧ (∃ ds, Vals (([] : List V).drop 0 : List V) ds ∧ Binds K fd ps_law_table ds) := by
  obtain ⟨fd, F⟩ := T.d_law_table
  exact ⟨fd, fi_law_table T F, F.kp, ⟨[], .nil, F.bindsN fun _ _ _ _ _ _ us hl => match us, hl with | [_, _], _ => rfl⟩⟩
theorem fi_StuckSearch_start (T : Tx P K mg) {fd : FuncData} (F : FunD K "start" "Handshake.start" (defArgs st_StuckSearch_start) (defBody st_StuckSearch_start) (defScope st_StuckSearch_start) ([] : List V) ([] : List (Str × V)) (He.fAd K ("StuckSearch", some "start")) fd) : FI P w K mg base 1 (He.fAd K ("StuckSearch", some "start")) fd ps_StuckSearch_start f_StuckSearch_start := by
  have h := fi_of (P := P) (w := w) (mg := mg) (base := base) F sc_StuckSearch_start (m := m_StuckSearch_start) (k := 0) (fun cdv A outer s H E hr => by
    exact (iss_one (is_ret (ie_fld T.att (ie_var 0) (by decide +kernel)))))
  exact h
theorem ok_StuckSearch_start (T : Tx P K mg) : ∃ fd, FI P w K mg base 1 (He.fAd K ("StuckSearch", some "start")) fd ps_StuckSearch_start f_StuckSearch_start ∧ PySem.W.keepIn K (.ref (He.fAd K ("StuckSearch", some "start"))) = true ∧ (∃ ds, Vals (([] : List V).drop 0 : List V) ds ∧ Binds K fd ps_StuckSearch_start ds) := by
  obtain ⟨fd, F⟩ := T.d_StuckSearch_start
  exact ⟨fd, fi_StuckSearch_start T F, F.kp, ⟨[], .nil, F.bindsN fun _ _ _ _ _ _ us hl => match us, hl with | [_], _ => rfl⟩⟩
theorem fi_StuckSearch_may_pass (T : Tx P K mg) {fd : FuncData} (F : FunD K "may_pass" "Handshake.may_pass" (defArgs st_StuckSearch_may_pass) (defBody st_StuckSearch_may_pass) (defScope st_StuckSearch_may_pass) ([] : List V) ([] : List (Str × V)) (He.fAd K ("StuckSearch", some "may_pass")) fd) : FI P w K mg base 1 (He.fAd K ("StuckSearch", some "may_pass")) fd ps_StuckSearch_may_pass f_StuckSearch_may_pass := by
  have h := fi_of (P := P) (w := w) (mg := mg) (base := base) F sc_StuckSearch_may_pass (m := m_StuckSearch_may_pass) (k := 0) (fun cdv A outer s H E hr => by
    exact (iss_one (is_ret (ie_or (ie_cmp (or_eqM hr.units) oi_eq (ie_var 1) (ie_str (by decide +kernel)) (nomark _)) (ie_one (ie_and (ie_fld T.att (ie_var 0) (by decide +kernel)) (ie_one (ie_cmp (or_eqM hr.units) oi_eq (ie_var 1) (ie_str (by decide +kernel)) (nomark _)))))))))
  exact h
theorem ok_StuckSearch_may_pass (T : Tx P K mg) : ∃ fd, FI P w K mg base 1 (He.fAd K ("StuckSearch", some "may_pass")) fd ps_StuckSearch_may_pass f_StuckSearch_may_pass ∧ PySem.W.keepIn K (.ref (He.fAd K ("StuckSearch", some "may_pass"))) = true ∧ (∃ ds, Vals (([] : List V).drop 0 : List V) ds ∧ Binds K fd ps_StuckSearch_may_pass ds) := by
  obtain ⟨fd, F⟩ := T.d_StuckSearch_may_pass
  exact ⟨fd, fi_StuckSearch_may_pass T F, F.kp, ⟨[], .nil, F.bindsN fun _ _ _ _ _ _ us hl => match us, hl with | [_, _], _ => rfl⟩⟩
theorem fi_StuckSearch_moves_of_Handshake (T : Tx P K mg) {fd : FuncData} (F : FunD K "moves" "Handshake.moves" (defArgs st_StuckSearch_moves_of_Handshake) (defBody st_StuckSearch_moves_of_Handshake) (defScope st_StuckSearch_moves_of_Handshake) ([] : List V) ([] : List (Str × V)) (He.fAd K ("Handshake", some "moves")) fd) : FI P w K mg base 2 (He.fAd K ("Handshake", some "moves")) fd ps_StuckSearch_moves_of_Handshake f_StuckSearch_moves_of_Handshake := by
  obtain ⟨fd_StuckSearch_may_pass, F_StuckSearch_may_pass, k_StuckSearch_may_pass, ⟨ds_StuckSearch_may_pass_2, v_StuckSearch_may_pass_2, b_StuckSearch_may_pass_2⟩⟩ := ok_StuckSearch_may_pass (P := P) (w := w) (base := base) T
  have w_StuckSearch_may_pass_2 : GVals K (([] : List V).drop 0 : List V) [] := trivial
  have h := fi_of (P := P) (w := w) (mg := mg) (base := base) F sc_StuckSearch_moves_of_Handshake (m := m_StuckSearch_moves_of_Handshake) (k := 1) (fun cdv A outer s H E hr => by
    exact (iss_cons (is_set (i := 2) sc_StuckSearch_moves_of_Handshake.nd (ie_lst ia_nil))
    (iss_cons (is_for (L2.passes_of rfl) rfl (ii_seq (ie_con T.c_DEEDS)) (ig_tup rfl (igs_cons (ig_name 3 sc_StuckSearch_moves_of_Handshake.nd) (igs_cons (ig_name 4 sc_StuckSearch_moves_of_Handshake.nd) (igs_cons (ig_name 5 sc_StuckSearch_moves_of_Handshake.nd) igs_nil))))
    (iss_one (is_for (L2.passes_of rfl) rfl (ii_range1 T.b_range (ie_con T.c_PROCESSORS)) (ig_name 6 sc_StuckSearch_moves_of_Handshake.nd)
    (iss_one (is_if (it_w (iw_and (it_cmp (or_eqM hr.units) oi_eq (ie_ix (ie_var 1) (ie_var 6)) (ie_var 4) (nomark _)) (iw_and1 (it_w (iw_or (it_cmp (or_neM hr.units) oi_ne (ie_var 3) (ie_str (by decide +kernel)) (nomark _)) (iw_or1 (it_val (ie_meth (L2.takes_of rfl rfl rfl rfl) (ie_var 0) (congrArg (He.ga K) e_StuckSearch.symm) T.cl_StuckSearch T.me_StuckSearch_may_pass (by decide +kernel) F_StuckSearch_may_pass rfl (hr.mono (by decide)) b_StuckSearch_may_pass_2 v_StuckSearch_may_pass_2 w_StuckSearch_may_pass_2 (ia_cons (ie_ix (ie_var 1) (ie_bin op_sub oi_sub ie_int (ie_var 6))) ia_nil)))))))))
    (iss_cons (is_set (i := 7) sc_StuckSearch_moves_of_Handshake.nd (ie_BT call_list_of ci_list T.b_list (by decide +kernel) (ia_cons (ie_var 1) ia_nil)))
    (iss_cons (is_sub (ie_var 7) (ie_var 6) (ie_var 5))
    (iss_one (is_expr (ie_mt PySem.F.plainAttrs_list PySem.F.slot_list_append PySem.F.type_list_append mt_append chk_list mi_append (ie_var 2) (ia_cons (ie_tup (ia_cons (ie_fs (.cons (ie_fmt (ie_var 3)) (.cons (ie_str (by decide +kernel)) (.cons (ie_fmt (ie_var 6)) .nil)))) (ia_cons (ie_BT call_tuple_of ci_tuple T.b_tuple (by decide +kernel) (ia_cons (ie_var 7) ia_nil)) ia_nil))) ia_nil))))))
    iss_nil)))))
    (iss_one (is_ret (ie_var 2))))))
  exact h
theorem ok_StuckSearch_moves_of_Handshake (T : Tx P K mg) : ∃ fd, FI P w K mg base 2 (He.fAd K ("Handshake", some "moves")) fd ps_StuckSearch_moves_of_Handshake f_StuckSearch_moves_of_Handshake ∧ PySem.W.keepIn K (.ref (He.fAd K ("Handshake", some "moves"))) = true ∧ (∃ ds, Vals (([] : List V).drop 0 : List V) ds ∧ Binds K fd ps_StuckSearch_moves_of_Handshake ds) := by
  obtain ⟨fd, F⟩ := T.d_StuckSearch_moves_of_Handshake
  exact ⟨fd, fi_StuckSearch_moves_of_Handshake T F, F.kp, ⟨[], .nil, F.bindsN fun _ _ _ _ _ _ us hl => match us, hl with | [_, _], _ => rfl⟩⟩
theorem fi_StuckSearch_moves (T : Tx P K mg) {fd : FuncData} (F : XnF P K (He.fAd K ("StuckSearch", some "moves")) (ccAt ("StuckSearch", some "moves") K) "moves" "StuckSearch.moves" (defArgs st_StuckSearch_moves) (defBody st_StuckSearch_moves) (defScope st_StuckSearch_moves) fd) : FI P w K mg base 3 (He.fAd K ("StuckSearch", some "moves")) fd ps_StuckSearch_moves f_StuckSearch_moves := by
  obtain ⟨fd_StuckSearch_moves_of_Handshake, F_StuckSearch_moves_of_Handshake, k_StuckSearch_moves_of_Handshake, ⟨ds_StuckSearch_moves_of_Handshake_2, v_StuckSearch_moves_of_Handshake_2, b_StuckSearch_moves_of_Handshake_2⟩⟩ := ok_StuckSearch_moves_of_Handshake (P := P) (w := w) (base := base) T
  have w_StuckSearch_moves_of_Handshake_2 : GVals K (([] : List V).drop 0 : List V) [] := trivial
  have h := fi_ofS (P := P) (w := w) (mg := mg) (base := base) (x0 := "self") F sc_StuckSearch_moves T.su_1.cl T.b_super T.top_ (by decide +kernel) (by decide +kernel) ⟨_, rfl, rfl⟩ rfl (by decide +kernel) (m := m_StuckSearch_moves) (k := 2) (fun cda A outer s H E hr Z => by
    exact (issc_cons (isc_of (is_set (i := 2) sc_StuckSearch_moves.nd (ie_lst ia_nil)))
    (issc_cons (isc_for (L2.passes_of rfl) rfl (iic_seq (iec_sup nocs_func (L2.takes_of rfl rfl rfl rfl) Z T.su_1 (congrArg (He.ga K) e_StuckSearch.symm) (by decide +kernel) F_StuckSearch_moves_of_Handshake rfl (hr.mono (by decide)) b_StuckSearch_moves_of_Handshake_2 v_StuckSearch_moves_of_Handshake_2 w_StuckSearch_moves_of_Handshake_2 (ia_cons (ie_var 1) ia_nil))) (ig_tup rfl (igs_cons (ig_name 3 sc_StuckSearch_moves.nd) (igs_cons (ig_name 4 sc_StuckSearch_moves.nd) igs_nil)))
    (fun it => (issc_one (isc_if (itc_cmp (or_eqM hr.units) oi_eq (iec_B call_len ci_len T.b_len (by decide +kernel) (iec_sup nocs_for (L2.takes_of rfl rfl rfl rfl) Z T.su_1 (congrArg (He.ga K) e_StuckSearch.symm) (by decide +kernel) F_StuckSearch_moves_of_Handshake rfl (hr.mono (by decide)) b_StuckSearch_moves_of_Handshake_2 v_StuckSearch_moves_of_Handshake_2 w_StuckSearch_moves_of_Handshake_2 (ia_cons (ie_var 4) ia_nil))) ie_int (nomark _))
    (issc_one (isc_of (is_expr (ie_mt PySem.F.plainAttrs_list PySem.F.slot_list_append PySem.F.type_list_append mt_append chk_list mi_append (ie_var 2) (ia_cons (ie_tup (ia_cons (ie_var 3) (ia_cons (ie_con T.c_BAD) ia_nil))) ia_nil)))))
    (issc_one (isc_of (is_expr (ie_mt PySem.F.plainAttrs_list PySem.F.slot_list_append PySem.F.type_list_append mt_append chk_list mi_append (ie_var 2) (ia_cons (ie_tup (ia_cons (ie_var 3) (ia_cons (ie_var 4) ia_nil))) ia_nil)))))))))
    (issc_one (isc_of (is_ret (ie_var 2)))))))
  exact h
theorem ok_StuckSearch_moves (T : Tx P K mg) : ∃ fd, FI P w K mg base 3 (He.fAd K ("StuckSearch", some "moves")) fd ps_StuckSearch_moves f_StuckSearch_moves ∧ PySem.W.keepIn K (.ref (He.fAd K ("StuckSearch", some "moves"))) = true ∧ (∃ ds, Vals (([] : List V).drop 0 : List V) ds ∧ Binds K fd ps_StuckSearch_moves ds) := by
  obtain ⟨fd, F⟩ := T.xf_StuckSearch_moves
  refine ⟨fd, fi_StuckSearch_moves T F, T.kp_StuckSearch_moves, ⟨[], .nil, ?_⟩⟩
  obtain ⟨oc, od, kV, doc, pm, an, cda, ct, osl, rfl, _⟩ := F.ex
  exact Binds.all fun us hl => match us, hl with | [_, _], _ => rfl
theorem fi_StuckSearch_scenario (T : Tx P K mg) {fd : FuncData} (F : FunD K "scenario" "Table.scenario" (defArgs st_StuckSearch_scenario) (defBody st_StuckSearch_scenario) (defScope st_StuckSearch_scenario) ([] : List V) ([] : List (Str × V)) (He.fAd K ("StuckSearch", some "scenario")) fd) : FI P w K mg base 4 (He.fAd K ("StuckSearch", some "scenario")) fd ps_StuckSearch_scenario f_StuckSearch_scenario := by
  obtain ⟨fd_StuckSearch_start, F_StuckSearch_start, k_StuckSearch_start, ⟨ds_StuckSearch_start_1, v_StuckSearch_start_1, b_StuckSearch_start_1⟩⟩ := ok_StuckSearch_start (P := P) (w := w) (base := base) T
  have w_StuckSearch_start_1 : GVals K (([] : List V).drop 0 : List V) [] := trivial
  obtain ⟨fd_StuckSearch_moves, F_StuckSearch_moves, k_StuckSearch_moves, ⟨ds_StuckSearch_moves_2, v_StuckSearch_moves_2, b_StuckSearch_moves_2⟩⟩ := ok_StuckSearch_moves (P := P) (w := w) (base := base) T
  have w_StuckSearch_moves_2 : GVals K (([] : List V).drop 0 : List V) [] := trivial
  have h := fi_of (P := P) (w := w) (mg := mg) (base := base) F sc_StuckSearch_scenario (m := m_StuckSearch_scenario) (k := 3) (fun cdv A outer s H E hr => by
    exact (iss_cons (is_set (i := 1) sc_StuckSearch_scenario.nd (ie_ndisp hr.units (ie_meth0 (L2.takes_of rfl rfl rfl rfl) (ie_var 0) (congrArg (He.ga K) e_StuckSearch.symm) T.cl_StuckSearch T.me_StuckSearch_start (by decide +kernel) F_StuckSearch_start rfl (hr.mono (by decide)) b_StuckSearch_start_1 v_StuckSearch_start_1 w_StuckSearch_start_1) (ie_tup ia_nil)))
    (iss_cons (is_set (i := 2) sc_StuckSearch_scenario.nd (ie_lst (ia_cons (ie_meth0 (L2.takes_of rfl rfl rfl rfl) (ie_var 0) (congrArg (He.ga K) e_StuckSearch.symm) T.cl_StuckSearch T.me_StuckSearch_start (by decide +kernel) F_StuckSearch_start rfl (hr.mono (by decide)) b_StuckSearch_start_1 v_StuckSearch_start_1 w_StuckSearch_start_1) ia_nil)))
    (iss_cons (is_set (i := 3) sc_StuckSearch_scenario.nd ie_int)
    (iss_cons (is_while 1000 (L2.passes_of rfl) (it_cmp op_lt oi_lt (ie_var 3) (ie_B call_len ci_len T.b_len (by decide +kernel) (ia_cons (ie_var 2) ia_nil)) (nomark _))
    (iss_cons (is_set (i := 4) sc_StuckSearch_scenario.nd (ie_ix (ie_var 2) (ie_var 3)))
    (iss_cons (is_for (L2.passes_of rfl) rfl (ii_seq (ie_meth (L2.takes_of rfl rfl rfl rfl) (ie_var 0) (congrArg (He.ga K) e_StuckSearch.symm) T.cl_StuckSearch T.me_StuckSearch_moves (by decide +kernel) F_StuckSearch_moves rfl (hr.mono (by decide)) b_StuckSearch_moves_2 v_StuckSearch_moves_2 w_StuckSearch_moves_2 (ia_cons (ie_var 4) ia_nil))) (ig_tup rfl (igs_cons (ig_name 5 sc_StuckSearch_scenario.nd) (igs_cons (ig_name 6 sc_StuckSearch_scenario.nd) igs_nil)))
    (iss_cons (is_if (it_cmp (or_eqM hr.units) oi_eq (ie_var 6) (ie_con T.c_BAD) (nomark _))
    (iss_one (is_ret (ie_bin or_addM oi_add (ie_BT call_list_of ci_list T.b_list (by decide +kernel) (ia_cons (ie_nget hr.units (ie_var 1) (ie_var 4)) ia_nil)) (ie_lst (ia_cons (ie_var 5) ia_nil)))))
    iss_nil)
    (iss_one (is_if (it_nnin hr.units (ie_var 6) (ie_var 1))
    (iss_cons (is_nput hr.units (ie_var 1) (ie_var 6) (ie_bin or_addM oi_add (ie_nget hr.units (ie_var 1) (ie_var 4)) (ie_tup (ia_cons (ie_var 5) ia_nil))))
    (iss_one (is_expr (ie_mt PySem.F.plainAttrs_list PySem.F.slot_list_append PySem.F.type_list_append mt_append chk_list mi_append (ie_var 2) (ia_cons (ie_var 6) ia_nil)))))
    iss_nil))))
    (iss_one (is_aug (i := 3) sc_StuckSearch_scenario.nd ip_add oi_ip ie_int)))))
    (iss_one (is_ret ie_non)))))))
  exact h
theorem ok_StuckSearch_scenario (T : Tx P K mg) : ∃ fd, FI P w K mg base 4 (He.fAd K ("StuckSearch", some "scenario")) fd ps_StuckSearch_scenario f_StuckSearch_scenario ∧ PySem.W.keepIn K (.ref (He.fAd K ("StuckSearch", some "scenario"))) = true ∧ (∃ ds, Vals (([] : List V).drop 0 : List V) ds ∧ Binds K fd ps_StuckSearch_scenario ds) := by
  obtain ⟨fd, F⟩ := T.d_StuckSearch_scenario
  exact ⟨fd, fi_StuckSearch_scenario T F, F.kp, ⟨[], .nil, F.bindsN fun _ _ _ _ _ _ us hl => match us, hl with | [_], _ => rfl⟩⟩
theorem fi_StuckSearch_init_of_Table (T : Tx P K mg) {fd : FuncData} (F : FunD K "__init__" "Table.__init__" (defArgs st_StuckSearch_init_of_Table) (defBody st_StuckSearch_init_of_Table) (defScope st_StuckSearch_init_of_Table) ([.str "start", .ref (He.dflAt ("Table", some "__init__") 1 K)] : List V) ([] : List (Str × V)) (He.fAd K ("Table", some "__init__")) fd) : FI P w K mg base 1 (He.fAd K ("Table", some "__init__")) fd ps_StuckSearch_init_of_Table f_StuckSearch_init_of_Table := by
  have h := fi_of (P := P) (w := w) (mg := mg) (base := base) F sc_StuckSearch_init_of_Table (m := m_StuckSearch_init_of_Table) (k := 0) (fun cdv A outer s H E hr => by
    exact (iss_cons (is_fld T.att (ie_var 0) (ie_var 1) (by decide +kernel))
    (iss_one (is_fld T.att (ie_var 0) (ie_lc [("row", 3)] rfl rfl sc_StuckSearch_init_of_Table.nd (ii_seq (ie_var 2)) (blkOk_by (own := [("row", 3)]) (N := N_StuckSearch_init_of_Table) (sc := defScope st_StuckSearch_init_of_Table) (by decide +kernel)) (by decide) (fun _ _ _ _ _ => (ig_name 3 sc_StuckSearch_init_of_Table.nd)) (fun _ _ _ _ _ => its_nil) (fun _ _ _ _ _ => (ie_BT call_tuple_of ci_tuple T.b_tuple (by decide +kernel) (ia_cons (ie_var 3) ia_nil)))) (by decide +kernel)))))
  exact h
theorem ok_StuckSearch_init_of_Table (T : Tx P K mg) : ∃ fd, FI P w K mg base 1 (He.fAd K ("Table", some "__init__")) fd ps_StuckSearch_init_of_Table f_StuckSearch_init_of_Table ∧ PySem.W.keepIn K (.ref (He.fAd K ("Table", some "__init__"))) = true ∧ (∃ ds, Vals (([.str "start", .ref (He.dflAt ("Table", some "__init__") 1 K)] : List V).drop 1 : List V) ds ∧ Binds K fd ps_StuckSearch_init_of_Table ds) := by
  obtain ⟨fd, F⟩ := T.d_StuckSearch_init_of_Table
  exact ⟨fd, fi_StuckSearch_init_of_Table T F, F.kp, F.binds1 2 1 (by simp) rfl fun _ _ _ _ _ _ _ us its hu hi => match us, hu, its, hi with | [_, _], _, [_, _], _ => ⟨_, rfl, rfl⟩⟩
theorem fi_StuckSearch_init (T : Tx P K mg) {fd : FuncData} (F : XnF P K (He.fAd K ("StuckSearch", some "__init__")) (ccAt ("StuckSearch", some "__init__") K) "__init__" "Handshake.__init__" (defArgs st_StuckSearch_init) (defBody st_StuckSearch_init) (defScope st_StuckSearch_init) fd) : FI P w K mg base 2 (He.fAd K ("StuckSearch", some "__init__")) fd ps_StuckSearch_init f_StuckSearch_init := by
  obtain ⟨fd_StuckSearch_init_of_Table, F_StuckSearch_init_of_Table, k_StuckSearch_init_of_Table, ⟨ds_StuckSearch_init_of_Table_2, v_StuckSearch_init_of_Table_2, b_StuckSearch_init_of_Table_2⟩⟩ := ok_StuckSearch_init_of_Table (P := P) (w := w) (base := base) T
  have w_StuckSearch_init_of_Table_2 : GVals K (([.str "start", .ref (He.dflAt ("Table", some "__init__") 1 K)] : List V).drop 1 : List V) [(.tup [])] := ⟨T.dv_StuckSearch_init_of_Table_1, trivial⟩
  have h := fi_ofS (P := P) (w := w) (mg := mg) (base := base) (x0 := "self") F sc_StuckSearch_init T.su_2.cl T.b_super T.top_ (by decide +kernel) (by decide +kernel) ⟨_, rfl, rfl⟩ rfl (by decide +kernel) (m := m_StuckSearch_init) (k := 1) (fun cda A outer s H E hr Z => by
    exact (issc_cons (isc_expr (iec_sup nocs_func (L2.takes_of rfl rfl rfl rfl) Z T.su_2 (congrArg (He.ga K) e_StuckSearch.symm) (by decide +kernel) F_StuckSearch_init_of_Table rfl (hr.mono (by decide)) b_StuckSearch_init_of_Table_2 v_StuckSearch_init_of_Table_2 w_StuckSearch_init_of_Table_2 (ia_cons (ie_tup (ia_cons (ie_str (by decide +kernel)) (ia_cons (ie_str (by decide +kernel)) ia_nil))) ia_nil)))
    (issc_one (isc_of (is_fld T.att (ie_var 0) (ie_var 1) (by decide +kernel))))))
  exact h
theorem ok_StuckSearch_init (T : Tx P K mg) : ∃ fd, FI P w K mg base 2 (He.fAd K ("StuckSearch", some "__init__")) fd ps_StuckSearch_init f_StuckSearch_init ∧ PySem.W.keepIn K (.ref (He.fAd K ("StuckSearch", some "__init__"))) = true ∧ (∃ ds, Vals (([] : List V).drop 0 : List V) ds ∧ Binds K fd ps_StuckSearch_init ds) := by
  obtain ⟨fd, F⟩ := T.xf_StuckSearch_init
  refine ⟨fd, fi_StuckSearch_init T F, T.kp_StuckSearch_init, ⟨[], .nil, ?_⟩⟩
  obtain ⟨oc, od, kV, doc, pm, an, cda, ct, osl, rfl, _⟩ := F.ex
  exact Binds.all fun us hl => match us, hl with | [_, _], _ => rfl
theorem fi_stuck_scenario (T : Tx P K mg) {fd : FuncData} (F : FunD K "stuck_scenario" "stuck_scenario" (defArgs st_stuck_scenario) (defBody st_stuck_scenario) (defScope st_stuck_scenario) ([] : List V) ([] : List (Str × V)) (He.fAd K ("stuck_scenario", none)) fd) : FI P w K mg base 5 (He.fAd K ("stuck_scenario", none)) fd ps_stuck_scenario f_stuck_scenario := by
  obtain ⟨fd_StuckSearch_scenario, F_StuckSearch_scenario, k_StuckSearch_scenario, ⟨ds_StuckSearch_scenario_1, v_StuckSearch_scenario_1, b_StuckSearch_scenario_1⟩⟩ := ok_StuckSearch_scenario (P := P) (w := w) (base := base) T
  have w_StuckSearch_scenario_1 : GVals K (([] : List V).drop 0 : List V) [] := trivial
  obtain ⟨fd_StuckSearch_init, F_StuckSearch_init, k_StuckSearch_init, ⟨ds_StuckSearch_init_2, v_StuckSearch_init_2, b_StuckSearch_init_2⟩⟩ := ok_StuckSearch_init (P := P) (w := w) (base := base) T
  have w_StuckSearch_init_2 : GVals K (([] : List V).drop 0 : List V) [] := trivial
  have h := fi_of (P := P) (w := w) (mg := mg) (base := base) F sc_stuck_scenario (m := m_stuck_scenario) (k := 4) (fun cdv A outer s H E hr => by
    exact (iss_one (is_ret (ie_meth0 (L2.takes_of rfl rfl rfl rfl) (ie_make (L2.takes_of rfl rfl rfl rfl) T.mk_StuckSearch (congrArg (He.ga K) e_StuckSearch.symm) F_StuckSearch_init rfl (hr.mono (by decide)) T.g_StuckSearch b_StuckSearch_init_2 v_StuckSearch_init_2 w_StuckSearch_init_2 (ia_cons (ie_var 0) ia_nil)) (congrArg (He.ga K) e_StuckSearch.symm) T.cl_StuckSearch T.me_StuckSearch_scenario (by decide +kernel) F_StuckSearch_scenario rfl (hr.mono (by decide)) b_StuckSearch_scenario_1 v_StuckSearch_scenario_1 w_StuckSearch_scenario_1))))
  exact h
theorem ok_stuck_scenario (T : Tx P K mg) : ∃ fd, FI P w K mg base 5 (He.fAd K ("stuck_scenario", none)) fd ps_stuck_scenario f_stuck_scenario ∧ PySem.W.keepIn K (.ref (He.fAd K ("stuck_scenario", none))) = true ∧ (∃ ds, Vals (([] : List V).drop 0 : List V) ds ∧ Binds K fd ps_stuck_scenario ds) := by
  obtain ⟨fd, F⟩ := T.d_stuck_scenario
  exact ⟨fd, fi_stuck_scenario T F, F.kp, ⟨[], .nil, F.bindsN fun _ _ _ _ _ _ us hl => match us, hl with | [_], _ => rfl⟩⟩
theorem fi_law (T : Tx P K mg) {fd : FuncData} (F : FunD K "law" "law" (defArgs st_law) (defBody st_law) (defScope st_law) ([] : List V) ([] : List (Str × V)) (He.fAd K ("law", none)) fd) : FI P w K mg base 6 (He.fAd K ("law", none)) fd ps_law f_law := by
  obtain ⟨fd_law_row, F_law_row, k_law_row, ⟨ds_law_row_2, v_law_row_2, b_law_row_2⟩⟩ := ok_law_row (P := P) (w := w) (base := base) T
  have w_law_row_2 : GVals K (([] : List V).drop 0 : List V) [] := trivial
  obtain ⟨fd_law_table, F_law_table, k_law_table, ⟨ds_law_table_2, v_law_table_2, b_law_table_2⟩⟩ := ok_law_table (P := P) (w := w) (base := base) T
  have w_law_table_2 : GVals K (([] : List V).drop 0 : List V) [] := trivial
  obtain ⟨fd_stuck_scenario, F_stuck_scenario, k_stuck_scenario, ⟨ds_stuck_scenario_1, v_stuck_scenario_1, b_stuck_scenario_1⟩⟩ := ok_stuck_scenario (P := P) (w := w) (base := base) T
  have w_stuck_scenario_1 : GVals K (([] : List V).drop 0 : List V) [] := trivial
  have h := fi_of (P := P) (w := w) (mg := mg) (base := base) F sc_law (m := m_law) (k := 5) (fun cdv A outer s H E hr => by
    exact (iss_cons (is_set (i := 1) sc_law.nd (ie_call (L2.takes_of rfl rfl rfl rfl) F_law_row rfl (hr.mono (by decide)) T.g__law_row k_law_row b_law_row_2 v_law_row_2 w_law_row_2 (ia_cons (ie_var 0) (ia_cons ie_int ia_nil))))
    (iss_cons (is_if (it_w (iw_or (it_not (it_val (ie_call (L2.takes_of rfl rfl rfl rfl) F_law_table rfl (hr.mono (by decide)) T.g__law_table k_law_table b_law_table_2 v_law_table_2 w_law_table_2 (ia_cons ie_bl (ia_cons (ie_var 1) ia_nil))))) (iw_or (it_not (it_val (ie_call (L2.takes_of rfl rfl rfl rfl) F_law_table rfl (hr.mono (by decide)) T.g__law_table k_law_table b_law_table_2 v_law_table_2 w_law_table_2 (ia_cons ie_bl (ia_cons (ie_var 1) ia_nil))))) (iw_or1 (it_not (it_val (ie_call (L2.takes_of rfl rfl rfl rfl) F_law_table rfl (hr.mono (by decide)) T.g__law_table k_law_table b_law_table_2 v_law_table_2 w_law_table_2 (ia_cons ie_bl (ia_cons (ie_sl (ie_var 1) (io_some ie_int) io_none) ia_nil)))))))))
    (iss_one (is_ret ie_bl))
    iss_nil)
    (iss_cons (is_if (it_cmp or_isNM oi_isN (ie_call (L2.takes_of rfl rfl rfl rfl) F_stuck_scenario rfl (hr.mono (by decide)) T.g_stuck_scenario k_stuck_scenario b_stuck_scenario_1 v_stuck_scenario_1 w_stuck_scenario_1 (ia_cons ie_bl ia_nil)) ie_non (nomark _))
    (iss_one (is_ret ie_bl))
    iss_nil)
    (iss_cons (is_set (i := 2) sc_law.nd (ie_call (L2.takes_of rfl rfl rfl rfl) F_stuck_scenario rfl (hr.mono (by decide)) T.g_stuck_scenario k_stuck_scenario b_stuck_scenario_1 v_stuck_scenario_1 w_stuck_scenario_1 (ia_cons ie_bl ia_nil)))
    (iss_cons (is_if (it_w (iw_or (it_not (it_val (ie_B call_isi ci_isi T.b_isinstance (by decide +kernel) (ia_cons (ie_var 2) (ia_cons (ie_ty (t := .list) T.b_list (by decide +kernel)) ia_nil))))) (iw_or1 (it_cmp (or_neM hr.units) oi_ne (ie_var 2) (ie_lst (ia_cons (ie_str (by decide +kernel)) (ia_cons (ie_str (by decide +kernel)) (ia_cons (ie_str (by decide +kernel)) (ia_cons (ie_str (by decide +kernel)) ia_nil))))) (nomark _)))))
    (iss_one (is_ret ie_bl))
    iss_nil)
    (iss_cons (is_expr (ie_mt PySem.F.plainAttrs_list PySem.F.slot_list_append PySem.F.type_list_append mt_append chk_list mi_append (ie_var 2) (ia_cons (ie_str (by decide +kernel)) ia_nil)))
    (iss_one (is_ret (ie_cmp (or_eqM hr.units) oi_eq (ie_call (L2.takes_of rfl rfl rfl rfl) F_stuck_scenario rfl (hr.mono (by decide)) T.g_stuck_scenario k_stuck_scenario b_stuck_scenario_1 v_stuck_scenario_1 w_stuck_scenario_1 (ia_cons ie_bl ia_nil)) (ie_lst (ia_cons (ie_str (by decide +kernel)) (ia_cons (ie_str (by decide +kernel)) (ia_cons (ie_str (by decide +kernel)) (ia_cons (ie_str (by decide +kernel)) ia_nil))))) (nomark _)))))))))))
  exact h
end
end K74
set_option Elab.async false
set_option linter.all false
set_option maxRecDepth 100000
set_option maxHeartbeats 40000000
namespace K74
open PySem PySem.Spec PyProof.Rows L2 GL
def fn : List He.DefD := [⟨("_law_row", none), "_law_row", "_law_row", defArgs st_law_row, defBody st_law_row, defScope st_law_row, [], []⟩,
  ⟨("Table", some "__init__"), "__init__", "Table.__init__", defArgs st_Handshake_init_of_Table, defBody st_Handshake_init_of_Table, defScope st_Handshake_init_of_Table, [.str "start", .adr (He.dflAt ("Table", some "__init__") 1)], []⟩,
  ⟨("Handshake", some "start"), "start", "Handshake.start", defArgs st_Handshake_start, defBody st_Handshake_start, defScope st_Handshake_start, [], []⟩,
  ⟨("Handshake", some "may_pass"), "may_pass", "Handshake.may_pass", defArgs st_Handshake_may_pass, defBody st_Handshake_may_pass, defScope st_Handshake_may_pass, [], []⟩,
  ⟨("Handshake", some "moves"), "moves", "Handshake.moves", defArgs st_Handshake_moves, defBody st_Handshake_moves, defScope st_Handshake_moves, [], []⟩,
  ⟨("Handshake", some "scenario"), "scenario", "Table.scenario", defArgs st_Handshake_scenario, defBody st_Handshake_scenario, defScope st_Handshake_scenario, [], []⟩,
  ⟨("_law_nine", none), "_law_nine", "_law_nine", defArgs st_law_nine, defBody st_law_nine, defScope st_law_nine, [], []⟩,
  ⟨("_law_same_moves", none), "_law_same_moves", "_law_same_moves", defArgs st_law_same_moves, defBody st_law_same_moves, defScope st_law_same_moves, [], []⟩,
  ⟨("_law_words", none), "_law_words", "_law_words", defArgs st_law_words, defBody st_law_words, defScope st_law_words, [], []⟩,
  ⟨("_law_moves", none), "_law_moves", "_law_moves", defArgs st_law_moves, defBody st_law_moves, defScope st_law_moves, [], []⟩,
  ⟨("Handshake", some "states"), "states", "Table.states", defArgs st_Handshake_states, defBody st_Handshake_states, defScope st_Handshake_states, [], []⟩,
  ⟨("_law_states", none), "_law_states", "_law_states", defArgs st_law_states, defBody st_law_states, defScope st_law_states, [], []⟩,
  ⟨("_law_digit", none), "_law_digit", "_law_digit", defArgs st_law_digit, defBody st_law_digit, defScope st_law_digit, [], []⟩,
  ⟨("_law_walk", none), "_law_walk", "_law_walk", defArgs st_law_walk, defBody st_law_walk, defScope st_law_walk, [], []⟩,
  ⟨("_law_goes_on", none), "_law_goes_on", "_law_goes_on", defArgs st_law_goes_on, defBody st_law_goes_on, defScope st_law_goes_on, [], []⟩,
  ⟨("_law_table", none), "_law_table", "_law_table", defArgs st_law_table, defBody st_law_table, defScope st_law_table, [], []⟩,
  ⟨("StuckSearch", some "start"), "start", "Handshake.start", defArgs st_StuckSearch_start, defBody st_StuckSearch_start, defScope st_StuckSearch_start, [], []⟩,
  ⟨("StuckSearch", some "may_pass"), "may_pass", "Handshake.may_pass", defArgs st_StuckSearch_may_pass, defBody st_StuckSearch_may_pass, defScope st_StuckSearch_may_pass, [], []⟩,
  ⟨("Handshake", some "moves"), "moves", "Handshake.moves", defArgs st_StuckSearch_moves_of_Handshake, defBody st_StuckSearch_moves_of_Handshake, defScope st_StuckSearch_moves_of_Handshake, [], []⟩,
  ⟨("StuckSearch", some "scenario"), "scenario", "Table.scenario", defArgs st_StuckSearch_scenario, defBody st_StuckSearch_scenario, defScope st_StuckSearch_scenario, [], []⟩,
  ⟨("Table", some "__init__"), "__init__", "Table.__init__", defArgs st_StuckSearch_init_of_Table, defBody st_StuckSearch_init_of_Table, defScope st_StuckSearch_init_of_Table, [.str "start", .adr (He.dflAt ("Table", some "__init__") 1)], []⟩,
  ⟨("stuck_scenario", none), "stuck_scenario", "stuck_scenario", defArgs st_stuck_scenario, defBody st_stuck_scenario, defScope st_stuck_scenario, [], []⟩,
  ⟨("law", none), "law", "law", defArgs st_law, defBody st_law, defScope st_law, [], []⟩]
def fbs : List (PySem.W.Frag → Bool) := [(He.Fa.free "abs").ok,
  (He.Fa.free "int").ok,
  (He.Fa.free "isinstance").ok,
  (He.Fa.free "len").ok,
  (He.Fa.free "list").ok,
  (He.Fa.free "range").ok,
  (He.Fa.free "str").ok,
  (He.Fa.free "super").ok,
  (He.Fa.free "tuple").ok,
  (He.Fa.glo "_law_row").ok,
  (He.Fa.glo "_law_nine").ok,
  (He.Fa.glo "_law_same_moves").ok,
  (He.Fa.glo "_law_words").ok,
  (He.Fa.glo "_law_moves").ok,
  (He.Fa.glo "_law_states").ok,
  (He.Fa.glo "_law_digit").ok,
  (He.Fa.glo "_law_walk").ok,
  (He.Fa.glo "_law_goes_on").ok,
  (He.Fa.glo "_law_table").ok,
  (He.Fa.glo "stuck_scenario").ok,
  (He.Fa.glo "law").ok,
  (He.Fa.cls "Handshake").ok,
  (He.Fa.cls "StuckSearch").ok,
  (He.Fa.cls "Table").ok,
  (He.Fa.glo "Handshake").ok,
  (He.Fa.mkr "Handshake").ok,
  (He.Fa.glo "StuckSearch").ok,
  (He.Fa.mkr "StuckSearch").ok,
  (He.Fa.meth "Handshake" "may_pass").ok,
  (He.Fa.meth "Handshake" "moves").ok,
  (He.Fa.meth "Handshake" "scenario").ok,
  (He.Fa.meth "Handshake" "start").ok,
  (He.Fa.meth "Handshake" "states").ok,
  (He.Fa.meth "StuckSearch" "may_pass").ok,
  (He.Fa.meth "StuckSearch" "moves").ok,
  (He.Fa.meth "StuckSearch" "scenario").ok,
  (He.Fa.meth "StuckSearch" "start").ok,
  (fun K => conV K "BAD" w_BAD),
  (fun K => conV K "DEEDS" w_DEEDS),
  (fun K => conV K "PROCESSORS" w_PROCESSORS),
  (fun K => conV K "Table" w_Table),
  (isoB tbO_Table n_Table),
  (supB "Handshake" "Handshake" "__init__" "Table" "__init__"),
  (supB "StuckSearch" "StuckSearch" "moves" "Handshake" "moves"),
  (supB "StuckSearch" "Handshake" "__init__" "Table" "__init__"),
  (fun K => PySem.W.keepIn K (.ref (He.fAd K ("Handshake", some "__init__")))),
  (xnFB PySem.Challenge.rw_guestlives_k74_whole_handshake_goes_on.prog.main.file (xd_Handshake_init)),
  (fun K => PySem.W.keepIn K (.ref (He.fAd K ("StuckSearch", some "moves")))),
  (xnFB PySem.Challenge.rw_guestlives_k74_whole_handshake_goes_on.prog.main.file (xd_StuckSearch_moves)),
  (fun K => PySem.W.keepIn K (.ref (He.fAd K ("StuckSearch", some "__init__")))),
  (xnFB PySem.Challenge.rw_guestlives_k74_whole_handshake_goes_on.prog.main.file (xd_StuckSearch_init)),
  (He.Fa.noat "Table" "first").ok,
  (He.Fa.noat "Table" "rows").ok,
  (He.Fa.noat "Handshake" "first").ok,
  (He.Fa.noat "Handshake" "rows").ok,
  (He.Fa.noat "Handshake" "waiting_counts").ok,
  (He.Fa.noat "StuckSearch" "first").ok,
  (He.Fa.noat "StuckSearch" "rows").ok,
  (He.Fa.noat "StuckSearch" "waiting_counts").ok,
  (fun K => dflV K ("Table", some "__init__") 1 (.tup [])),
  (fun K => dflV K ("Table", some "__init__") 1 (.tup []))]
abbrev R : PySem.W.OpenRow := PySem.W.OpenLaw.row PySem.Challenge.rw_guestlives_k74_whole_handshake_goes_on
def tabs : List He.Tab := []
def xds : List He.DefD := [xd_Handshake_init, xd_StuckSearch_moves, xd_StuckSearch_init]
def hkA (as : List Addr) (fb : PySem.W.Frag → Bool) (fn : List He.DefD) (ts : List He.Tab) (xs : List He.DefD) : PySem.W.Hook where
  α := AlX
  obs := fun s => obsX fb fn ts xs (He.frG s.heap.get? as)
  val := fun w => valX fn ts xs w
  says := fun w h => ∃ K : PySem.W.Frag, K.In h ∧ SaysX fb fn ts xs w K
  of := fun _ _ e => ⟨_, He.frG_in, e⟩
  keeps := fun _ _ _ ⟨K, hK, c⟩ k => ⟨K, PySem.W.Frag.In.keeps hK k, c⟩
def aAll : List Addr := (List.range 650).map (· + 150) ++ List.range 150
abbrev hk : PySem.W.Hook := hkA aAll (allB fbs) fn tabs xds
def frA (s : PySem.W.SharedT) : PySem.W.Frag := He.frG (HandSHeadRun.getT s) aAll
def ob (s : PySem.W.SharedT) : AlX := obsX (allB fbs) fn tabs xds (frA s)
theorem ob_eq (s : PySem.W.SharedT) : ob s = hk.obs s.abs := by
  have e : HandSHeadRun.getT s = s.abs.heap.get? := funext (HandSHeadRun.getT_eq s)
  show obsX (allB fbs) fn tabs xds (He.frG (HandSHeadRun.getT s) aAll) = obsX (allB fbs) fn tabs xds (He.frG s.abs.heap.get? aAll)
  rw [e]
def loose : List Str := (["_wall", "PROCESSORS", "BAD", "Table", "DEEDS", "Handshake", "StuckSearch", "stuck_scenario", "_law_row", "_law_digit", "_law_words", "_law_moves", "_law_same_moves", "_law_states", "_law_nine", "_law_goes_on", "_law_walk", "_law_table"] : List Str)
theorem tx_of {K : PySem.W.Frag} {w : World} {h : Heap} {mg : Str → Option Value} (X : K.In h) (G : h.Ns mainGlobals mg) (c : SaysX (allB fbs) fn tabs xds w K) : Tx PySem.Challenge.rw_guestlives_k74_whole_handshake_goes_on.prog K mg where
  b_abs := He.free_ok X G (allB_at c.d.facts 0)
  b_int := He.free_ok X G (allB_at c.d.facts 1)
  b_isinstance := He.free_ok X G (allB_at c.d.facts 2)
  b_len := He.free_ok X G (allB_at c.d.facts 3)
  b_list := He.free_ok X G (allB_at c.d.facts 4)
  b_range := He.free_ok X G (allB_at c.d.facts 5)
  b_str := He.free_ok X G (allB_at c.d.facts 6)
  b_super := He.free_ok X G (allB_at c.d.facts 7)
  b_tuple := He.free_ok X G (allB_at c.d.facts 8)
  g__law_row := He.glo_ok X G (allB_at c.d.facts 9)
  g__law_nine := He.glo_ok X G (allB_at c.d.facts 10)
  g__law_same_moves := He.glo_ok X G (allB_at c.d.facts 11)
  g__law_words := He.glo_ok X G (allB_at c.d.facts 12)
  g__law_moves := He.glo_ok X G (allB_at c.d.facts 13)
  g__law_states := He.glo_ok X G (allB_at c.d.facts 14)
  g__law_digit := He.glo_ok X G (allB_at c.d.facts 15)
  g__law_walk := He.glo_ok X G (allB_at c.d.facts 16)
  g__law_goes_on := He.glo_ok X G (allB_at c.d.facts 17)
  g__law_table := He.glo_ok X G (allB_at c.d.facts 18)
  g_stuck_scenario := He.glo_ok X G (allB_at c.d.facts 19)
  g_law := He.glo_ok X G (allB_at c.d.facts 20)
  cl_Handshake := He.cls_ok (allB_at c.d.facts 21)
  cl_StuckSearch := He.cls_ok (allB_at c.d.facts 22)
  cl_Table := He.cls_ok (allB_at c.d.facts 23)
  g_Handshake := He.glo_ok X G (allB_at c.d.facts 24)
  mk_Handshake := He.mkr_ok (allB_at c.d.facts 25)
  g_StuckSearch := He.glo_ok X G (allB_at c.d.facts 26)
  mk_StuckSearch := He.mkr_ok (allB_at c.d.facts 27)
  me_Handshake_may_pass := He.meth_ok (allB_at c.d.facts 28)
  me_Handshake_moves := He.meth_ok (allB_at c.d.facts 29)
  me_Handshake_scenario := He.meth_ok (allB_at c.d.facts 30)
  me_Handshake_start := He.meth_ok (allB_at c.d.facts 31)
  me_Handshake_states := He.meth_ok (allB_at c.d.facts 32)
  me_StuckSearch_may_pass := He.meth_ok (allB_at c.d.facts 33)
  me_StuckSearch_moves := He.meth_ok (allB_at c.d.facts 34)
  me_StuckSearch_scenario := He.meth_ok (allB_at c.d.facts 35)
  me_StuckSearch_start := He.meth_ok (allB_at c.d.facts 36)
  c_BAD := conV_ok X G (allB_at c.d.facts 37)
  c_DEEDS := conV_ok X G (allB_at c.d.facts 38)
  c_PROCESSORS := conV_ok X G (allB_at c.d.facts 39)
  c_Table := conV_ok X G (allB_at c.d.facts 40)
  iso_Table := (allB_at c.d.facts 41)
  su_0 := sup_ok (allB_at c.d.facts 42)
  su_1 := sup_ok (allB_at c.d.facts 43)
  su_2 := sup_ok (allB_at c.d.facts 44)
  kp_Handshake_init := (allB_at c.d.facts 45)
  kp_StuckSearch_moves := (allB_at c.d.facts 47)
  kp_StuckSearch_init := (allB_at c.d.facts 49)
  att := fun C f e => by
    have e := List.any_eq_true.mp e
    obtain ⟨p, hp, q⟩ := e
    have q := Bool.and_eq_true_iff.mp q
    obtain ⟨q1, q2⟩ := q
    have q1 := of_decide_eq_true q1
    have q2 := of_decide_eq_true q2
    subst q1 q2
    simp only [tabL, List.mem_cons, List.not_mem_nil, or_false] at hp
    rcases hp with rfl | rfl | rfl | rfl | rfl | rfl | rfl | rfl
    · rw [show toS (n_Table, n_first).1 = ("Table" : Str) from e_Table, show toS (n_Table, n_first).2 = ("first" : Str) by decide +kernel]; exact ⟨He.cls_ok (allB_at c.d.facts 23), He.noat_ok (allB_at c.d.facts 51)⟩
    · rw [show toS (n_Table, n_rows).1 = ("Table" : Str) from e_Table, show toS (n_Table, n_rows).2 = ("rows" : Str) by decide +kernel]; exact ⟨He.cls_ok (allB_at c.d.facts 23), He.noat_ok (allB_at c.d.facts 52)⟩
    · rw [show toS (n_Handshake, n_first).1 = ("Handshake" : Str) from e_Handshake, show toS (n_Handshake, n_first).2 = ("first" : Str) by decide +kernel]; exact ⟨He.cls_ok (allB_at c.d.facts 21), He.noat_ok (allB_at c.d.facts 53)⟩
    · rw [show toS (n_Handshake, n_rows).1 = ("Handshake" : Str) from e_Handshake, show toS (n_Handshake, n_rows).2 = ("rows" : Str) by decide +kernel]; exact ⟨He.cls_ok (allB_at c.d.facts 21), He.noat_ok (allB_at c.d.facts 54)⟩
    · rw [show toS (n_Handshake, n_waiting_counts).1 = ("Handshake" : Str) from e_Handshake, show toS (n_Handshake, n_waiting_counts).2 = ("waiting_counts" : Str) by decide +kernel]; exact ⟨He.cls_ok (allB_at c.d.facts 21), He.noat_ok (allB_at c.d.facts 55)⟩
    · rw [show toS (n_StuckSearch, n_first).1 = ("StuckSearch" : Str) from e_StuckSearch, show toS (n_StuckSearch, n_first).2 = ("first" : Str) by decide +kernel]; exact ⟨He.cls_ok (allB_at c.d.facts 22), He.noat_ok (allB_at c.d.facts 56)⟩
    · rw [show toS (n_StuckSearch, n_rows).1 = ("StuckSearch" : Str) from e_StuckSearch, show toS (n_StuckSearch, n_rows).2 = ("rows" : Str) by decide +kernel]; exact ⟨He.cls_ok (allB_at c.d.facts 22), He.noat_ok (allB_at c.d.facts 57)⟩
    · rw [show toS (n_StuckSearch, n_waiting_counts).1 = ("StuckSearch" : Str) from e_StuckSearch, show toS (n_StuckSearch, n_waiting_counts).2 = ("waiting_counts" : Str) by decide +kernel]; exact ⟨He.cls_ok (allB_at c.d.facts 22), He.noat_ok (allB_at c.d.facts 58)⟩
  cau := fun C h => by
    simp only [xcs, List.mem_cons, List.not_mem_nil, or_false] at h
    first | done | exact h.elim | cases h
  top_ := by rfl
  xf_Handshake_init := xnF_ok (d := xd_Handshake_init) (c.xn 0) (allB_at c.d.facts 46)
  xf_StuckSearch_moves := xnF_ok (d := xd_StuckSearch_moves) (c.xn 1) (allB_at c.d.facts 48)
  xf_StuckSearch_init := xnF_ok (d := xd_StuckSearch_init) (c.xn 2) (allB_at c.d.facts 50)
  dv_Handshake_init_of_Table_1 := dflV_ok (allB_at c.d.facts 59)
  dv_StuckSearch_init_of_Table_1 := dflV_ok (allB_at c.d.facts 60)
  d_law_row := c.d.defs 0
  d_Handshake_init_of_Table := c.d.defs 1
  d_Handshake_start := c.d.defs 2
  d_Handshake_may_pass := c.d.defs 3
  d_Handshake_moves := c.d.defs 4
  d_Handshake_scenario := c.d.defs 5
  d_law_nine := c.d.defs 6
  d_law_same_moves := c.d.defs 7
  d_law_words := c.d.defs 8
  d_law_moves := c.d.defs 9
  d_Handshake_states := c.d.defs 10
  d_law_states := c.d.defs 11
  d_law_digit := c.d.defs 12
  d_law_walk := c.d.defs 13
  d_law_goes_on := c.d.defs 14
  d_law_table := c.d.defs 15
  d_StuckSearch_start := c.d.defs 16
  d_StuckSearch_may_pass := c.d.defs 17
  d_StuckSearch_moves_of_Handshake := c.d.defs 18
  d_StuckSearch_scenario := c.d.defs 19
  d_StuckSearch_init_of_Table := c.d.defs 20
  d_stuck_scenario := c.d.defs 21
  d_law := c.d.defs 22
theorem join2 {α β γ : Type} {o : Option α} {f : α → β} {g : α → γ} {x : β} {y : γ} (h1 : o.map f = some x) (h2 : o.map g = some y) : o.map (fun s => (f s, g s)) = some (x, y) := by
  cases o with
  | none => cases h1
  | some a =>
    injection h1 with h1
    injection h2 with h2
    show some (f a, g a) = _
    rw [h1, h2]
theorem join_ob {w : World} {o : Option PySem.W.SharedT} (h1 : o.map (fun s => allB fbs (frA s)) = some true) (h2 : o.map (fun s => (fn.all fun d => d.ok (frA s), fn.map fun d => He.fnW (frA s) d.at_, tabs.map fun t => He.dicW (frA s) (t.1 (frA s)), xds.map fun d => xnW (frA s) d.at_)) = some (true, fn.map He.DefD.val, tabs.map fun t => some (He.keysIn w.params t.2), xds.map xnV)) : o.map ob = some (hk.val w) := by
  cases o with
  | none => cases h1
  | some s =>
    injection h1 with h1
    injection h2 with h2
    obtain ⟨h3, h4⟩ := Prod.mk.inj h2
    obtain ⟨h4, h5⟩ := Prod.mk.inj h4
    obtain ⟨h5, h6⟩ := Prod.mk.inj h5
    have h1 : allB fbs (frA s) = true := h1
    show some ((((allB fbs (frA s) && fn.all fun d => d.ok (frA s)), fn.map fun d => He.fnW (frA s) d.at_), tabs.map fun t => He.dicW (frA s) (t.1 (frA s))), xds.map fun d => xnW (frA s) d.at_) = some (((true, fn.map He.DefD.val), tabs.map fun t => some (He.keysIn w.params t.2)), xds.map xnV)
    rw [h1, h3, h4, h5, h6]; rfl
noncomputable def E (w : World) (os : OsState) : Option PySem.W.SharedT := HandSHeadRun.endF (HandSHeadRun.stepQ (HandSHeadRun.denQ HandSHeadRun.tabQ) R.prog w) 12000 R.prog w os
abbrev wf (w : World) : World := w.withFollow "special-get-raises" false
abbrev wt (w : World) : World := w.withFollow "special-get-raises" true
open PySem.W PySem.Calls in
theorem f1 (w : World) (os : OsState) : ((E (wf w) os).map fun s => (HandSHeadRun.looksF R.prog (boot_heap (wf w).params) s.abs, HandSHeadRun.seenQ (view R.prog [20]) loose (importedModules R.prog.main.body) (fun s => xlAt (view R.prog [20]) [] s && recOk R.toRowW.records s) s.abs)) = some (true, openGood (view R.prog [20]) loose) := by kernel_rfl
theorem f2 (w : World) (os : OsState) : ((E (wf w) os).map fun s => allB fbs (frA s)) = some true := by kernel_rfl
theorem f3 (w : World) (os : OsState) : ((E (wf w) os).map fun s => (fn.all fun d => d.ok (frA s), fn.map fun d => He.fnW (frA s) d.at_, tabs.map fun t => He.dicW (frA s) (t.1 (frA s)), xds.map fun d => xnW (frA s) d.at_)) = some (true, fn.map He.DefD.val, tabs.map fun t => some (He.keysIn (wf w).params t.2), xds.map xnV) := by kernel_rfl
theorem runf (w : World) : HandSHeadRun.RunEq R (PySem.W.view R.prog [20]) hk ob 12000 loose (wf w) := fun os => by
  have q := join2 (f1 w os) (join_ob (f2 w os) (f3 w os))
  revert q
  show Option.map _ (E (wf w) os) = _ → Option.map _ (E (wf w) os) = _
  cases E (wf w) os with
  | none => intro q; cases q
  | some s =>
    intro q
    injection q with q
    obtain ⟨q1, q2⟩ := Prod.mk.inj q
    obtain ⟨q3, q4⟩ := Prod.mk.inj q1
    exact congrArg some (Prod.ext q3 (Prod.ext q4 q2))
open PySem.W PySem.Calls in
theorem t1 (w : World) (os : OsState) : ((E (wt w) os).map fun s => (HandSHeadRun.looksF R.prog (boot_heap (wt w).params) s.abs, HandSHeadRun.seenQ (view R.prog [20]) loose (importedModules R.prog.main.body) (fun s => xlAt (view R.prog [20]) [] s && recOk R.toRowW.records s) s.abs)) = some (true, openGood (view R.prog [20]) loose) := by kernel_rfl
theorem t2 (w : World) (os : OsState) : ((E (wt w) os).map fun s => allB fbs (frA s)) = some true := by kernel_rfl
theorem t3 (w : World) (os : OsState) : ((E (wt w) os).map fun s => (fn.all fun d => d.ok (frA s), fn.map fun d => He.fnW (frA s) d.at_, tabs.map fun t => He.dicW (frA s) (t.1 (frA s)), xds.map fun d => xnW (frA s) d.at_)) = some (true, fn.map He.DefD.val, tabs.map fun t => some (He.keysIn (wt w).params t.2), xds.map xnV) := by kernel_rfl
theorem runt (w : World) : HandSHeadRun.RunEq R (PySem.W.view R.prog [20]) hk ob 12000 loose (wt w) := fun os => by
  have q := join2 (t1 w os) (join_ob (t2 w os) (t3 w os))
  revert q
  show Option.map _ (E (wt w) os) = _ → Option.map _ (E (wt w) os) = _
  cases E (wt w) os with
  | none => intro q; cases q
  | some s =>
    intro q
    injection q with q
    obtain ⟨q1, q2⟩ := Prod.mk.inj q
    obtain ⟨q3, q4⟩ := Prod.mk.inj q1
    exact congrArg some (Prod.ext q3 (Prod.ext q4 q2))
theorem run (w : World) : HandSHeadRun.RunEq R (PySem.W.view R.prog [20]) hk ob 12000 loose w := PySem.W.byRow2 "special-get-raises" runf runt w
end K74
set_option Elab.async false
set_option linter.all false
set_option maxRecDepth 100000
set_option maxHeartbeats 1000000
namespace VL
open GL (PV OB Sto Ls Nm BT)
inductive Fl where
  | fz | ow | lk
  deriving DecidableEq, Inhabited
inductive Sc where
  | non | bl (b : Bool) | int (i : Int) | str (s : List Nat) | ty (b : BT) | gl (x : Nm)
  deriving DecidableEq, Inhabited
inductive Hd where
  | lst | rol | dct (ks : List PV) | ins (C : Nm) (ns : List Nm) | dcn (ks : List PV) | ptp
  deriving Inhabited
inductive D where
  | sc (s : Sc) | tup (xs : List D) | nd (k : Fl) (h : Hd) (xs : List D)
  deriving Inhabited
inductive A where
  | sc (s : Sc) | tup (xs : List A) | nd (k : Fl) (n : Nat) (h : Hd) (xs : List A)
  deriving Inhabited
theorem A.ind {P : A → Prop} (h1 : ∀ s, P (.sc s)) (h2 : ∀ xs, (∀ x ∈ xs, P x) → P (.tup xs)) (h3 : ∀ k n h xs, (∀ x ∈ xs, P x) → P (.nd k n h xs)) (a : A) : P a :=
  A.rec (motive_1 := P) (motive_2 := fun xs => ∀ x ∈ xs, P x) h1 h2 h3 (fun _ h => by cases h) (fun x r hx hr y hy => by
    rcases List.mem_cons.mp hy with rfl | h
    · exact hx
    · exact hr y h) a
theorem D.ind {P : D → Prop} (h1 : ∀ s, P (.sc s)) (h2 : ∀ xs, (∀ x ∈ xs, P x) → P (.tup xs)) (h3 : ∀ k h xs, (∀ x ∈ xs, P x) → P (.nd k h xs)) (a : D) : P a :=
  D.rec (motive_1 := P) (motive_2 := fun xs => ∀ x ∈ xs, P x) h1 h2 h3 (fun _ h => by cases h) (fun x r hx hr y hy => by
    rcases List.mem_cons.mp hy with rfl | h
    · exact hx
    · exact hr y h) a
def Sc.pv : Sc → PV
  | .non => .non
  | .bl b => .bl b
  | .int i => .int i
  | .str s => .str s
  | .ty b => .ty b
  | .gl x => .gl x
def Hd.wf : Hd → Nat → Bool
  | .lst, _ => true
  | .rol, _ => true
  | .dct ks, n => decide (ks.length = n)
  | .ins _ ns, n => decide (ns.length = n)
  | .dcn ks, n => decide (ks.length = n)
  | .ptp, _ => true
def mkO : Hd → List PV → OB
  | .lst, ws => .lst ws
  | .rol, ws => .rol ws
  | .dct ks, ws => .dct (ks.zip ws)
  | .ins C ns, ws => .ins C (ns.zip ws)
  | .dcn ks, ws => .dcn (ks.zip ws)
  | .ptp, ws => .ptp ws
mutual
def A.er : A → D
  | .sc s => .sc s
  | .tup xs => .tup (A.ers xs)
  | .nd k _ h xs => .nd k h (A.ers xs)
def A.ers : List A → List D
  | [] => []
  | x :: r => A.er x :: A.ers r
end
mutual
def A.pv : A → PV
  | .sc s => s.pv
  | .tup xs => .tup (A.pvs xs)
  | .nd _ n _ _ => .loc n
def A.pvs : List A → List PV
  | [] => []
  | x :: r => A.pv x :: A.pvs r
end
mutual
def A.fp : A → List Nat
  | .sc _ => []
  | .tup xs => A.fps xs
  | .nd .fz _ _ xs => A.fps xs
  | .nd .ow n _ xs => n :: A.fps xs
  | .nd .lk n _ xs => n :: A.fps xs
def A.fps : List A → List Nat
  | [] => []
  | x :: r => A.fp x ++ A.fps r
end
abbrev FM := Nat → Option (Bool × OB)
mutual
def A.ok (F : FM) (S : Sto) : A → Prop
  | .sc _ => True
  | .tup xs => A.fps xs = [] ∧ A.oks F S xs
  | .nd .fz n h xs => F n = some (true, mkO h (A.pvs xs)) ∧ h.wf xs.length = true ∧ A.fps xs = [] ∧ A.oks F S xs
  | .nd .lk n h xs => F n = some (false, mkO h (A.pvs xs)) ∧ h.wf xs.length = true ∧ A.oks F S xs
  | .nd .ow n h xs => (F n = none ∧ S[n]? = some (mkO h (A.pvs xs))) ∧ h.wf xs.length = true ∧ A.oks F S xs
def A.oks (F : FM) (S : Sto) : List A → Prop
  | [] => True
  | x :: r => A.ok F S x ∧ A.oks F S r
end
theorem ers_map (xs : List A) : A.ers xs = xs.map A.er := by induction xs <;> simp_all [A.ers]
theorem pvs_map (xs : List A) : A.pvs xs = xs.map A.pv := by induction xs <;> simp_all [A.pvs]
theorem fps_map (xs : List A) : A.fps xs = xs.flatMap A.fp := by induction xs <;> simp_all [A.fps]
theorem oks_iff {F : FM} {S : Sto} (xs : List A) : A.oks F S xs ↔ ∀ x ∈ xs, x.ok F S := by induction xs <;> simp_all [A.oks]
def D.shr : D → Bool
  | .nd .ow _ _ => false
  | .nd .lk _ _ => false
  | _ => true
def A.shr : A → Bool
  | .nd .ow _ _ _ => false
  | .nd .lk _ _ _ => false
  | _ => true
theorem shr_er (a : A) : a.er.shr = a.shr := by
  cases a with
  | sc s => simp [A.er, D.shr, A.shr]
  | tup xs => simp [A.er, D.shr, A.shr]
  | nd k n h xs => cases k <;> simp [A.er, D.shr, A.shr]
variable {F F' : FM} {S S' : Sto}
theorem fp_shr {a : A} (h : a.ok F S) (s : a.shr = true) : a.fp = [] := by
  cases a with
  | sc s => simp [A.fp]
  | tup xs => simp only [A.ok] at h; simp [A.fp, h.1]
  | nd k n hd xs => cases k <;> simp_all [A.fp, A.ok, A.shr]
def Mono (F F' : FM) : Prop := ∀ n b o, F n = some (b, o) → F' n = some (b, o)
theorem Mono.refl : Mono F F := fun _ _ _ h => h
theorem Mono.trans {F1 F2 F3 : FM} (a : Mono F1 F2) (b : Mono F2 F3) : Mono F1 F3 := fun n x o h => b n x o (a n x o h)
def MonoT (F F' : FM) : Prop := ∀ n o, F n = some (true, o) → F' n = some (true, o)
theorem Mono.t (m : Mono F F') : MonoT F F' := fun n o h => m n true o h
theorem ok_frameT (m : MonoT F F') : ∀ {a : A}, (∀ n ∈ a.fp, F' n = F n ∧ S'[n]? = S[n]?) → a.ok F S → a.ok F' S' := by
  intro a
  induction a using A.ind with
  | h1 s => intros; simp [A.ok]
  | h2 xs ih =>
    intro hn h
    simp only [A.ok, oks_iff, A.fp] at h hn ⊢
    refine ⟨h.1, fun x hx => ih x hx (fun n q => ?_) (h.2 x hx)⟩
    exact hn n (by rw [fps_map]; exact List.mem_flatMap.mpr ⟨x, hx, q⟩)
  | h3 k n hd xs ih =>
    intro hn h
    have kid : A.oks F S xs → (∀ n ∈ A.fps xs, F' n = F n ∧ S'[n]? = S[n]?) → A.oks F' S' xs := fun h hn => by
      rw [oks_iff] at h ⊢
      exact fun x hx => ih x hx (fun n q => hn n (by rw [fps_map]; exact List.mem_flatMap.mpr ⟨x, hx, q⟩)) (h x hx)
    cases k with
    | fz =>
      simp only [A.ok, A.fp] at h hn ⊢
      exact ⟨m _ _ h.1, h.2.1, h.2.2.1, kid h.2.2.2 hn⟩
    | lk =>
      simp only [A.ok, A.fp] at h hn ⊢
      have e := hn n List.mem_cons_self
      rw [e.1]
      exact ⟨h.1, h.2.1, kid h.2.2 fun n q => hn n (List.mem_cons_of_mem _ q)⟩
    | ow =>
      simp only [A.ok, A.fp] at h hn ⊢
      have e := hn n List.mem_cons_self
      rw [e.1, e.2]
      exact ⟨h.1, h.2.1, kid h.2.2 fun n q => hn n (List.mem_cons_of_mem _ q)⟩
theorem ok_frame (m : Mono F F') {a : A} (hn : ∀ n ∈ a.fp, F' n = F n ∧ S'[n]? = S[n]?) (h : a.ok F S) : a.ok F' S' := ok_frameT m.t hn h
def lkB : Bool := true
def AtU (S : Sto) (n : Nat) (o : OB) : Prop := S[n]? = some o ∨ ∃ k, (o = .dct k ∧ lkB = true) ∧ S[n]? = some (.fdct k)
theorem AtU.lt {S : Sto} {n : Nat} {o : OB} (h : AtU S n o) : n < S.length := by
  rcases h with h | ⟨k, _, h⟩ <;> exact (List.getElem?_eq_some_iff.mp h).1
theorem AtU.eq {S : Sto} {n : Nat} {o : OB} (h : AtU S n o) (nd : ∀ k, o ≠ .dct k) : S[n]? = some o := by
  rcases h with h | ⟨k, e, h⟩
  · exact h
  · exact absurd e.1 (nd k)
theorem AtU.lst {S : Sto} {n : Nat} {xs : List PV} (h : AtU S n (.lst xs)) : S[n]? = some (.lst xs) := h.eq (by intro k e; cases e)
theorem AtU.rol {S : Sto} {n : Nat} {xs : List PV} (h : AtU S n (.rol xs)) : S[n]? = some (.rol xs) := h.eq (by intro k e; cases e)
theorem AtU.ins {S : Sto} {n : Nat} {C : Nm} {fs : List (Nm × PV)} (h : AtU S n (.ins C fs)) : S[n]? = some (.ins C fs) := h.eq (by intro k e; cases e)
theorem AtU.dcn {S : Sto} {n : Nat} {xs : List (PV × PV)} (h : AtU S n (.dcn xs)) : S[n]? = some (.dcn xs) := h.eq (by intro k e; cases e)
theorem AtU.ptp {S : Sto} {n : Nat} {xs : List PV} (h : AtU S n (.ptp xs)) : S[n]? = some (.ptp xs) := h.eq (by intro k e; cases e)
theorem AtU.to {S S' : Sto} {n : Nat} {o : OB} (h : AtU S n o) (e : S'[n]? = S[n]?) : AtU S' n o := by
  unfold AtU
  rw [e]
  exact h
def FS (F : FM) (S : Sto) : Prop := ∀ n b o, F n = some (b, o) → AtU S n o
theorem fp_lt (fs : FS F S) : ∀ {a : A}, a.ok F S → ∀ n ∈ a.fp, n < S.length := by
  intro a
  induction a using A.ind with
  | h1 s => intro _ n h; simp [A.fp] at h
  | h2 xs ih =>
    intro h n hn
    simp only [A.ok] at h
    rw [A.fp, h.1] at hn
    cases hn
  | h3 k n hd xs ih =>
    intro h m hm
    have kid : A.oks F S xs → m ∈ A.fps xs → m < S.length := fun h hm => by
      rw [fps_map] at hm
      obtain ⟨x, hx, q⟩ := List.mem_flatMap.mp hm
      exact ih x hx ((oks_iff xs).mp h x hx) m q
    have lt : ∀ {o : OB}, S[n]? = some o → n < S.length := fun h => (List.getElem?_eq_some_iff.mp h).1
    cases k with
    | fz => simp only [A.ok, A.fp] at h hm; exact kid h.2.2.2 hm
    | lk =>
      simp only [A.ok, A.fp] at h hm
      rcases List.mem_cons.mp hm with rfl | q
      · exact (fs _ _ _ h.1).lt
      · exact kid h.2.2 q
    | ow =>
      simp only [A.ok, A.fp] at h hm
      rcases List.mem_cons.mp hm with rfl | q
      · exact lt h.1.2
      · exact kid h.2.2 q
mutual
def D.frz : D → Option D
  | .sc s => some (.sc s)
  | .tup xs => some (.tup xs)
  | .nd .fz h xs => some (.nd .fz h xs)
  | .nd .ow h xs => (D.frzs xs).map fun ys => .nd .fz h ys
  | .nd .lk _ _ => none
def D.frzs : List D → Option (List D)
  | [] => some []
  | x :: r => match D.frz x, D.frzs r with
    | some y, some ys => some (y :: ys)
    | _, _ => none
end
mutual
def A.frz : A → A
  | .sc s => .sc s
  | .tup xs => .tup xs
  | .nd .fz n h xs => .nd .fz n h xs
  | .nd .ow n h xs => .nd .fz n h (A.frzs xs)
  | .nd .lk n h xs => .nd .lk n h xs
def A.frzs : List A → List A
  | [] => []
  | x :: r => A.frz x :: A.frzs r
end
theorem frzs_map (xs : List A) : A.frzs xs = xs.map A.frz := by induction xs <;> simp_all [A.frzs]
theorem dfrzs_iff : ∀ (xs ys : List D), D.frzs xs = some ys ↔ ys.length = xs.length ∧ ∀ (i : Nat) (x : D), xs[i]? = some x → ∃ y : D, ys[i]? = some y ∧ D.frz x = some y
  | [], ys => by
    simp only [D.frzs, Option.some.injEq, List.length_nil, List.length_eq_zero_iff]
    constructor
    · rintro rfl; simp
    · rintro ⟨rfl, _⟩; rfl
  | x :: r, ys => by
    rw [D.frzs]
    have ih := dfrzs_iff r
    constructor
    · intro h
      split at h
      · rename_i y zs e1 e2
        cases h
        obtain ⟨l, q⟩ := (ih zs).mp e2
        refine ⟨by simp [l], fun i x' hx => ?_⟩
        cases i with
        | zero => simp at hx; subst hx; exact ⟨y, rfl, e1⟩
        | succ i => simpa using q i x' (by simpa using hx)
      · cases h
    · rintro ⟨l, q⟩
      cases ys with
      | nil => simp at l
      | cons y zs =>
        obtain ⟨y', e1, e2⟩ := q 0 x rfl
        simp at e1; subst e1
        have : D.frzs r = some zs := (ih zs).mpr ⟨by simpa using l, fun i x' hx => by
          obtain ⟨y', a, b⟩ := q (i + 1) x' (by simpa using hx)
          exact ⟨y', by simpa using a, b⟩⟩
        rw [e2, this]
theorem frz_pv : ∀ (a : A), a.frz.pv = a.pv := by
  intro a
  cases a with
  | sc s => simp [A.frz]
  | tup xs => simp [A.frz]
  | nd k n h xs => cases k <;> simp [A.frz, A.pv]
theorem frzs_pvs (xs : List A) : A.pvs (A.frzs xs) = A.pvs xs := by
  rw [pvs_map, frzs_map, pvs_map, List.map_map]
  exact List.map_congr_left fun a _ => frz_pv a
theorem frz_er : ∀ (a : A) {d : D}, D.frz a.er = some d → a.frz.er = d := by
  intro a
  induction a using A.ind with
  | h1 s => intro d h; simp [A.er, D.frz] at h; simp [A.frz, A.er, h]
  | h2 xs ih => intro d h; simp [A.er, D.frz] at h; simp [A.frz, A.er, h]
  | h3 k n hd xs ih =>
    intro d h
    cases k with
    | fz => simp [A.er, D.frz] at h; simp [A.frz, A.er, h]
    | lk => simp [A.er, D.frz] at h
    | ow =>
      simp only [A.er, D.frz, Option.map_eq_some_iff] at h
      obtain ⟨ys, e, rfl⟩ := h
      obtain ⟨l, q⟩ := (dfrzs_iff _ _).mp e
      simp only [A.frz, A.er, D.nd.injEq, true_and]
      rw [ers_map, frzs_map, List.map_map]
      apply List.ext_getElem?
      intro i
      rw [ers_map] at l q
      simp only [List.getElem?_map] at q ⊢
      cases hx : xs[i]? with
      | none =>
        rw [List.getElem?_eq_none_iff] at hx
        simp only [Option.map_none]
        exact (List.getElem?_eq_none_iff.mpr (by rw [l, List.length_map]; exact hx)).symm
      | some x =>
        obtain ⟨y, a, b⟩ := q i x.er (by rw [hx]; rfl)
        rw [a, Option.map_some, Function.comp, ih x (List.mem_of_getElem? hx) b]
def frF (F : FM) (S : Sto) (ns : List Nat) : FM := fun n => if n ∈ ns then (S[n]?).map fun o => (true, o) else F n
theorem frz_none (a : A) {d : D} (h : D.frz a.er = some d) : a.ok F S → ∀ n ∈ a.fp, F n = none := by
  induction a using A.ind generalizing d with
  | h1 s => intro _ n hn; simp [A.fp] at hn
  | h2 xs ih => intro k n hn; simp only [A.ok] at k; rw [A.fp, k.1] at hn; cases hn
  | h3 k n hd xs ih =>
    intro hk m hm
    cases k with
    | fz => simp only [A.ok, A.fp] at hk hm; rw [hk.2.2.1] at hm; cases hm
    | lk => simp [A.er, D.frz] at h
    | ow =>
      simp only [A.ok, A.fp] at hk hm
      rcases List.mem_cons.mp hm with rfl | q
      · exact hk.1.1
      · simp only [A.er, D.frz, Option.map_eq_some_iff] at h
        obtain ⟨ys, e, rfl⟩ := h
        obtain ⟨l, qq⟩ := (dfrzs_iff _ _).mp e
        rw [fps_map] at q
        obtain ⟨x, hx, q⟩ := List.mem_flatMap.mp q
        obtain ⟨i, hi⟩ := List.getElem?_of_mem hx
        obtain ⟨y, _, b⟩ := qq i x.er (by rw [ers_map, List.getElem?_map, hi]; rfl)
        exact ih x hx b ((oks_iff xs).mp hk.2.2 x hx) m q
theorem frz_fp (a : A) {d : D} (h : D.frz a.er = some d) : a.ok F S → a.frz.fp = [] := by
  induction a using A.ind generalizing d with
  | h1 s => intro _; simp [A.frz, A.fp]
  | h2 xs ih => intro k; simp only [A.ok] at k; simp [A.frz, A.fp, k.1]
  | h3 k n hd xs ih =>
    intro hk
    cases k with
    | fz => simp only [A.ok] at hk; simp [A.frz, A.fp, hk.2.2.1]
    | lk => simp [A.er, D.frz] at h
    | ow =>
      simp only [A.ok] at hk
      simp only [A.er, D.frz, Option.map_eq_some_iff] at h
      obtain ⟨ys, e, rfl⟩ := h
      obtain ⟨l, qq⟩ := (dfrzs_iff _ _).mp e
      simp only [A.frz, A.fp]
      rw [fps_map, frzs_map, List.flatMap_map, List.flatMap_eq_nil_iff]
      intro x hx
      obtain ⟨i, hi⟩ := List.getElem?_of_mem hx
      obtain ⟨y, _, b⟩ := qq i x.er (by rw [ers_map, List.getElem?_map, hi]; rfl)
      exact ih x hx b ((oks_iff xs).mp hk.2.2 x hx)
theorem frz_ok (a : A) {d : D} (h : D.frz a.er = some d) (ns : List Nat) (hF : Mono F F') (hn : ∀ n ∈ a.fp, F' n = (S[n]?).map fun o => (true, o)) : a.ok F S → a.frz.ok F' S := by
  induction a using A.ind generalizing d with
  | h1 s => intro _; simp [A.frz, A.ok]
  | h2 xs ih =>
    intro k
    have e : (A.tup xs).fp = [] := by simp only [A.ok] at k; rw [A.fp, k.1]
    exact ok_frame (a := .tup xs) hF (by rw [e]; intro n hn; cases hn) k
  | h3 k n hd xs ih =>
    intro hk
    cases k with
    | fz =>
      have e : (A.nd .fz n hd xs).fp = [] := by simp only [A.ok] at hk; rw [A.fp, hk.2.2.1]
      exact ok_frame (a := .nd .fz n hd xs) hF (by rw [e]; intro n hn; cases hn) hk
    | lk => simp [A.er, D.frz] at h
    | ow =>
      have hfp := frz_fp (F := F) (S := S) (.nd .ow n hd xs) h hk
      simp only [A.ok] at hk
      simp only [A.er, D.frz, Option.map_eq_some_iff] at h
      obtain ⟨ys, e, rfl⟩ := h
      obtain ⟨l, qq⟩ := (dfrzs_iff _ _).mp e
      simp only [A.frz, A.fp] at hfp
      simp only [A.frz, A.ok]
      refine ⟨?_, ?_, hfp, ?_⟩
      · rw [hn n (by simp [A.fp]), hk.1.2, frzs_pvs]; rfl
      · rw [frzs_map, List.length_map]; exact hk.2.1
      · rw [oks_iff, frzs_map]
        intro y hy
        obtain ⟨x, hx, rfl⟩ := List.mem_map.mp hy
        obtain ⟨i, hi⟩ := List.getElem?_of_mem hx
        obtain ⟨y, _, b⟩ := qq i x.er (by rw [ers_map, List.getElem?_map, hi]; rfl)
        exact ih x hx b (fun n hn' => hn n (by rw [A.fp, fps_map]; exact List.mem_cons_of_mem _ (List.mem_flatMap.mpr ⟨x, hx, hn'⟩))) ((oks_iff xs).mp hk.2.2 x hx)
def D.kids : D → List D
  | .sc _ => []
  | .tup xs => xs
  | .nd _ _ xs => xs
def D.wk : D → List D → D
  | .sc s, _ => .sc s
  | .tup _, ys => .tup ys
  | .nd k h _, ys => .nd k h ys
def A.kids : A → List A
  | .sc _ => []
  | .tup xs => xs
  | .nd _ _ _ xs => xs
def A.wk : A → List A → A
  | .sc s, _ => .sc s
  | .tup _, ys => .tup ys
  | .nd k n h _, ys => .nd k n h ys
def getP : List Nat → D → Option D
  | [], d => some d
  | i :: p, d => match d.kids[i]? with
    | some x => getP p x
    | none => none
def setP : List Nat → D → D → D
  | [], _, y => y
  | i :: p, d, y => match d.kids[i]? with
    | some x => d.wk (d.kids.set i (setP p x y))
    | none => d
def getA : List Nat → A → Option A
  | [], d => some d
  | i :: p, d => match d.kids[i]? with
    | some x => getA p x
    | none => none
def setA : List Nat → A → A → A
  | [], _, y => y
  | i :: p, d, y => match d.kids[i]? with
    | some x => d.wk (d.kids.set i (setA p x y))
    | none => d
theorem kids_er (a : A) : a.er.kids = a.kids.map A.er := by cases a <;> simp [A.er, A.kids, D.kids, ers_map]
theorem wk_er (a : A) (ys : List A) : (a.wk ys).er = a.er.wk (ys.map A.er) := by cases a <;> simp [A.er, A.wk, D.wk, ers_map]
theorem wk_pv (a : A) (ys : List A) (h : A.pvs ys = A.pvs a.kids) : (a.wk ys).pv = a.pv := by cases a <;> simp_all [A.pv, A.wk, A.kids]
theorem get_er : ∀ (p : List Nat) (a : A), getP p a.er = (getA p a).map A.er
  | [], a => rfl
  | i :: p, a => by
    unfold getP getA
    rw [kids_er, List.getElem?_map]
    cases a.kids[i]? with
    | none => rfl
    | some x => exact get_er p x
theorem set_er : ∀ (p : List Nat) (a y : A), (setA p a y).er = setP p a.er y.er
  | [], a, y => rfl
  | i :: p, a, y => by
    unfold setP setA
    rw [kids_er, List.getElem?_map]
    cases a.kids[i]? with
    | none => rfl
    | some x =>
      dsimp only [Option.map_some]
      rw [wk_er, List.map_set, set_er p x y]
theorem set_pv : ∀ (p : List Nat) (a y x : A), getA p a = some x → y.pv = x.pv → (setA p a y).pv = a.pv
  | [], a, y, x, h, e => by cases h; exact e
  | i :: p, a, y, x, h, e => by
    unfold getA at h
    unfold setA
    cases hk : a.kids[i]? with
    | none => rfl
    | some z =>
      rw [hk] at h
      dsimp only at h ⊢
      refine wk_pv a _ ?_
      have := set_pv p z y x h e
      rw [pvs_map, pvs_map, List.map_set, this]
      apply List.ext_getElem?
      intro j
      by_cases hj : i = j
      · subst hj
        have lt := (List.getElem?_eq_some_iff.mp hk).1
        rw [List.getElem?_set_self (by rw [List.length_map]; exact lt), List.getElem?_map, hk]; rfl
      · rw [List.getElem?_set_ne hj]
theorem fp_kids {a : A} (h : a.ok F S) (hs : a.shr = true) : A.fps a.kids = [] := by
  cases a with
  | sc s => rfl
  | tup xs => simp only [A.ok] at h; exact h.1
  | nd k n hd xs => cases k <;> simp_all [A.ok, A.kids, A.shr]
theorem ok_kids {a : A} (h : a.ok F S) : A.oks F S a.kids := by
  cases a with
  | sc s => trivial
  | tup xs => simp only [A.ok] at h; exact h.2
  | nd k n hd xs => cases k <;> simp_all [A.ok, A.kids]
theorem flat_set {xs : List A} {i : Nat} {x : A} (h : xs[i]? = some x) : ∃ L R, A.fps xs = L ++ x.fp ++ R ∧ ∀ y : A, A.fps (xs.set i y) = L ++ y.fp ++ R := by
  induction xs generalizing i with
  | nil => simp at h
  | cons z r ih =>
    cases i with
    | zero =>
      simp at h; subst h
      exact ⟨[], A.fps r, by simp [A.fps], fun y => by simp [A.fps]⟩
    | succ i =>
      obtain ⟨L, R, e, q⟩ := ih (i := i) (by simpa using h)
      exact ⟨z.fp ++ L, R, by simp [A.fps, e], fun y => by simp [A.fps, q]⟩
theorem focusT : ∀ (p : List Nat) (a x : A), a.ok F S → getA p a = some x → x.shr = false → x.ok F S ∧ ∃ L R, a.fp = L ++ x.fp ++ R ∧ (∀ y : A, (setA p a y).fp = L ++ y.fp ++ R) ∧
    (∀ F' S' (y : A), MonoT F F' → (∀ n, n ∈ L ∨ n ∈ R → F' n = F n ∧ S'[n]? = S[n]?) → y.ok F' S' → y.pv = x.pv → (setA p a y).ok F' S')
  | [], a, x, h, e, hs => by
    cases e
    exact ⟨h, [], [], by simp, fun y => by simp [setA], fun F' S' y _ _ hy _ => hy⟩
  | i :: p, a, x, h, e, hs => by
    unfold getA at e
    cases hk : a.kids[i]? with
    | none => rw [hk] at e; cases e
    | some z =>
      rw [hk] at e
      dsimp only at e
      have hz : z.ok F S := (oks_iff _).mp (ok_kids h) z (List.mem_of_getElem? hk)
      obtain ⟨hx, L, R, e1, e2, e3⟩ := focusT p z x hz e hs
      obtain ⟨L2, R2, f1, f2⟩ := flat_set hk
      have ha : a.shr = false := by
        cases hq : a.shr with
        | false => rfl
        | true =>
          have := fp_kids h hq
          rw [f1, e1] at this
          have hxn : x.fp ≠ [] := by
            cases x with
            | sc s => cases hs
            | tup xs => cases hs
            | nd k n hd xs =>
              cases k with
              | fz => cases hs
              | ow => rw [A.fp]; exact List.cons_ne_nil _ _
              | lk => rw [A.fp]; exact List.cons_ne_nil _ _
          simp only [List.append_eq_nil_iff] at this
          exact absurd this.1.2.1.2 hxn
      have hset : setA (i :: p) a = fun y => a.wk (a.kids.set i (setA p z y)) := by
        funext y; rw [setA, hk]
      cases a with
      | sc s => cases ha
      | tup xs => cases ha
      | nd k n hd xs =>
        have hp : ∀ y : A, y.pv = x.pv → A.pvs (xs.set i (setA p z y)) = A.pvs xs := fun y hy => by
          have := set_pv p z y x e hy
          rw [pvs_map, pvs_map, List.map_set, this]
          apply List.ext_getElem?
          intro j
          by_cases hj : i = j
          · subst hj
            have lt := (List.getElem?_eq_some_iff.mp hk).1
            rw [List.getElem?_set_self (by rw [List.length_map]; exact lt), List.getElem?_map, show xs[i]? = some z from hk]; rfl
          · rw [List.getElem?_set_ne hj]
        have kidok : ∀ F' S' (y : A), MonoT F F' → (∀ m, m ∈ L2 ++ L ∨ m ∈ R ++ R2 → F' m = F m ∧ S'[m]? = S[m]?) → y.ok F' S' → y.pv = x.pv → A.oks F' S' (xs.set i (setA p z y)) := fun F' S' y m hn hy hv => by
          rw [oks_iff]
          intro w hw
          obtain ⟨j, hj⟩ := List.getElem?_of_mem hw
          by_cases hij : i = j
          · subst hij
            have lt : i < xs.length := (List.getElem?_eq_some_iff.mp hk).1
            rw [List.getElem?_set_self lt] at hj
            cases hj
            exact e3 F' S' y m (fun q hq => hn q (by simp only [List.mem_append]; rcases hq with hq | hq <;> simp [hq])) hy hv
          · rw [List.getElem?_set_ne hij] at hj
            refine ok_frameT m (fun q hq => hn q ?_) ((oks_iff _).mp (ok_kids h) w (List.mem_of_getElem? hj))
            have hL : A.fps (xs.set i (.sc .non)) = L2 ++ R2 := by
              have := f2 (.sc .non)
              simpa [A.fp, A.kids] using this
            have : q ∈ A.fps (xs.set i (.sc .non)) := by
              rw [fps_map]
              exact List.mem_flatMap.mpr ⟨w, List.mem_of_getElem? (i := j) (by rw [List.getElem?_set_ne hij]; exact hj), hq⟩
            rw [hL] at this
            simp only [List.mem_append] at this ⊢
            rcases this with t | t <;> simp [t]
        cases k with
        | fz => cases ha
        | ow =>
          simp only [A.kids] at f1 f2 hk
          refine ⟨hx, n :: (L2 ++ L), R ++ R2, ?_, fun y => ?_, fun F' S' y m hn hy hv => ?_⟩
          · simp [A.fp, f1, e1]
          · rw [hset]; simp [A.wk, A.fp, A.kids, f2, e2]
          · rw [hset]
            simp only [A.ok] at h
            simp only [A.wk, A.kids, A.ok]
            rw [hp y hv, List.length_set]
            have hnn := hn n (by simp)
            rw [hnn.1, hnn.2]
            exact ⟨h.1, h.2.1, kidok F' S' y m (fun q hq => hn q (by simp only [List.mem_cons]; rcases hq with hq | hq <;> simp [hq])) hy hv⟩
        | lk =>
          simp only [A.kids] at f1 f2 hk
          refine ⟨hx, n :: (L2 ++ L), R ++ R2, ?_, fun y => ?_, fun F' S' y m hn hy hv => ?_⟩
          · simp [A.fp, f1, e1]
          · rw [hset]; simp [A.wk, A.fp, A.kids, f2, e2]
          · rw [hset]
            simp only [A.ok] at h
            simp only [A.wk, A.kids, A.ok]
            rw [hp y hv, List.length_set]
            have hnn := hn n (by simp)
            rw [hnn.1]
            exact ⟨h.1, h.2.1, kidok F' S' y m (fun q hq => hn q (by simp only [List.mem_cons]; rcases hq with hq | hq <;> simp [hq])) hy hv⟩
theorem focus (p : List Nat) (a x : A) (h : a.ok F S) (e : getA p a = some x) (hs : x.shr = false) : x.ok F S ∧ ∃ L R, a.fp = L ++ x.fp ++ R ∧ (∀ y : A, (setA p a y).fp = L ++ y.fp ++ R) ∧
    (∀ F' S' (y : A), Mono F F' → (∀ n, n ∈ L ∨ n ∈ R → F' n = F n ∧ S'[n]? = S[n]?) → y.ok F' S' → y.pv = x.pv → (setA p a y).ok F' S') := by
  obtain ⟨h1, L, R, h2, h3, h4⟩ := focusT p a x h e hs
  exact ⟨h1, L, R, h2, h3, fun F' S' y m => h4 F' S' y m.t⟩
end VL
set_option Elab.async false
set_option linter.all false
set_option maxRecDepth 100000
set_option maxHeartbeats 1000000
namespace VL
open GL (PV OB Sto Nm BT)
variable {F F' : FM} {S S' : Sto}
def Per (Q : List Nat → Prop) (x y : A) : Prop := ∀ p w, Q p → (getA p x).map A.pv = some w → (getA p y).map A.pv = some w
theorem Per.pv {Q : List Nat → Prop} {x y : A} (h : Per Q x y) (q : Q []) : y.pv = x.pv := by
  have := h [] x.pv q rfl
  simpa [getA] using this
theorem Per.refl {Q : List Nat → Prop} {x : A} : Per Q x x := fun _ _ _ h => h
theorem per_set : ∀ (q : List Nat) (a x y : A) {Q : List Nat → Prop}, getA q a = some x → y.pv = x.pv → Per Q x y → Per (fun p => ∀ s, p = q ++ s → Q s) a (setA q a y)
  | [], a, x, y, Q, h, hv, hp => by
    cases h
    intro p w hq e
    exact hp p w (hq p rfl) e
  | i :: q, a, x, y, Q, h, hv, hp => by
    intro p w hq e
    unfold getA at h
    cases hk : a.kids[i]? with
    | none => rw [hk] at h; cases h
    | some z =>
      rw [hk] at h
      dsimp only at h
      have hset : setA (i :: q) a y = a.wk (a.kids.set i (setA q z y)) := by rw [setA, hk]
      cases p with
      | nil =>
        simp only [getA, Option.map_some, Option.some.injEq] at e ⊢
        rw [set_pv (i :: q) a y x (by unfold getA; rw [hk]; exact h) hv, e]
      | cons j p =>
        have hne : a.kids ≠ [] := by intro h0; rw [h0] at hk; simp at hk
        have hkw : (a.wk (a.kids.set i (setA q z y))).kids = a.kids.set i (setA q z y) := by
          cases a with
          | sc s => exact absurd rfl hne
          | tup xs => rfl
          | nd k n hd xs => rfl
        rw [hset]
        unfold getA at e ⊢
        rw [hkw]
        by_cases hij : i = j
        · subst hij
          have lt := (List.getElem?_eq_some_iff.mp hk).1
          rw [List.getElem?_set_self lt]
          rw [hk] at e
          dsimp only at e ⊢
          exact per_set q z x y h hv hp p w (fun s hs => hq s (by rw [hs]; rfl)) e
        · rw [List.getElem?_set_ne hij]
          exact e
theorem per_frz (a : A) {d : D} (h : D.frz a.er = some d) : Per (fun _ => True) a a.frz := by
  induction a using A.ind generalizing d with
  | h1 s => exact Per.refl
  | h2 xs ih => exact Per.refl
  | h3 k n hd xs ih =>
    cases k with
    | fz => exact Per.refl
    | lk => exact Per.refl
    | ow =>
      simp only [A.er, D.frz, Option.map_eq_some_iff] at h
      obtain ⟨ys, e, rfl⟩ := h
      obtain ⟨l, qq⟩ := (dfrzs_iff _ _).mp e
      intro p w _ hp
      cases p with
      | nil => simpa [getA, A.frz, A.pv] using hp
      | cons i p =>
        unfold getA at hp ⊢
        simp only [A.frz, A.kids, frzs_map, List.getElem?_map] at hp ⊢
        cases hx : xs[i]? with
        | none => rw [hx] at hp; cases hp
        | some x =>
          rw [hx] at hp
          dsimp only [Option.map_some] at hp ⊢
          obtain ⟨y, _, b⟩ := qq i x.er (by rw [ers_map, List.getElem?_map, hx]; rfl)
          exact ih x (List.mem_of_getElem? hx) b p w trivial hp
inductive Rt where
  | l (i : Nat) | g (j : Nat)
  deriving DecidableEq, Inhabited
inductive V where
  | v (d : D) | io (d : D) | al (r : Rt) (p : List Nat) | xn (C : Nm) (ns : List Nm) (ds : List D)
  deriving Inhabited
abbrev Ls := List (Option V)
structure Exn where
  cls : Nm
  ns : List Nm
  ds : List D
inductive Out (α : Type) where
  | ok (a : α) (ls gh : Ls)
  | exc (e : Exn) (ls gh : Ls)
  | bad
inductive SOut where
  | nx (ls gh : Ls)
  | rt (d : D) (gh : Ls)
  | bk (ls gh : Ls)
  | ct (ls gh : Ls)
  | exc (e : Exn) (ls gh : Ls)
  | bad
inductive RV where
  | v (d : D) | pth (r : Rt) (p : List Nat)
  deriving Inhabited
inductive AV where
  | un (o : Option PV) | v (a : A) | io (a : A) | al (r : Rt) (p : List Nat) | xn (C : Nm) (ns : List Nm) (xs : List A)
  deriving Inhabited
def AV.er : AV → Option V
  | .un _ => none
  | .v a => some (.v a.er)
  | .io a => some (.io a.er)
  | .al r p => some (.al r p)
  | .xn C ns xs => some (.xn C ns (A.ers xs))
abbrev erS (as : List AV) : Ls := as.map AV.er
def slotD : Option (Option V) → Option D
  | some (some (.v d)) => some d
  | some (some (.io d)) => some d
  | _ => none
def rootD (ls gh : Ls) : Rt → Option D
  | .l i => slotD ls[i]?
  | .g j => slotD gh[j]?
def slotA : Option AV → Option A
  | some (.v a) => some a
  | some (.io a) => some a
  | _ => none
def rootA (as ag : List AV) : Rt → Option A
  | .l i => slotA as[i]?
  | .g j => slotA ag[j]?
theorem slot_er (x : Option AV) : slotD (x.map AV.er) = (slotA x).map A.er := by
  cases x with
  | none => rfl
  | some x => cases x <;> rfl
theorem root_er (as ag : List AV) (r : Rt) : rootD (erS as) (erS ag) r = (rootA as ag r).map A.er := by
  cases r <;> simp only [rootD, rootA, erS, List.getElem?_map, slot_er]
def atD (ls gh : Ls) (r : Rt) (p : List Nat) : Option D := (rootD ls gh r).bind (getP p)
def atA (as ag : List AV) (r : Rt) (p : List Nat) : Option A := (rootA as ag r).bind (getA p)
theorem at_er (as ag : List AV) (r : Rt) (p : List Nat) : atD (erS as) (erS ag) r p = (atA as ag r p).map A.er := by
  unfold atD atA
  rw [root_er]
  cases rootA as ag r with
  | none => rfl
  | some a => exact get_er p a
def glv (as ag : List AV) (ad : Nat × Nat) : AV → Option PV
  | .un o => o
  | .v a => some a.pv
  | .io a => some a.pv
  | .al r p => (atA as ag r p).map A.pv
  | .xn C ns xs => some (.xn ad.1 ad.2 C ns (A.pvs xs))
abbrev glS (as ag : List AV) (ad : Nat × Nat) (zs : List AV) : GL.Ls := zs.map (glv as ag ad)
def AV.fp : AV → List Nat
  | .v a => a.fp
  | .io a => a.fp
  | _ => []
def AV.ok (F : FM) (S : Sto) : AV → Prop
  | .v a => a.ok F S
  | .io a => a.ok F S
  | .xn _ _ xs => A.fps xs = [] ∧ A.oks F S xs
  | _ => True
def fpS (zs : List AV) : List Nat := zs.flatMap AV.fp
@[simp] theorem fpS_nil : fpS [] = [] := rfl
theorem fpS_cons (z : AV) (r : List AV) : fpS (z :: r) = z.fp ++ fpS r := rfl
theorem fpS_app (z r : List AV) : fpS (z ++ r) = fpS z ++ fpS r := by simp [fpS]
def Alive (as ag : List AV) (z : AV) : Prop := match z with
  | .al r p => (atA as ag r p).isSome = true
  | _ => True
structure Good (F : FM) (S : Sto) (as ag : List AV) : Prop where
  fs : FS F S
  ok : ∀ z ∈ as ++ ag, z.ok F S
  nd : (fpS (as ++ ag)).Nodup
  al : ∀ z ∈ as ++ ag, Alive as ag z
structure Ev (q : Bool) (F : FM) (S : Sto) (as ag : List AV) (x0 : List Nat) (F' : FM) (S' : Sto) (as' ag' : List AV) (x : List Nat) : Prop where
  good : Good F' S' as' ag'
  nd : (fpS (as' ++ ag') ++ x).Nodup
  lt : ∀ n ∈ x, n < S'.length
  mono : Mono F F'
  len : S.length ≤ S'.length
  keep : ∀ n, n < S.length → n ∉ fpS (as ++ ag) ++ x0 → F' n = F n ∧ S'[n]? = S[n]?
  new : ∀ n, n ∈ fpS (as' ++ ag') ++ x → n ∈ fpS (as ++ ag) ++ x0 ∨ S.length ≤ n
  gl : ∀ ad, glS as' ag' ad as' = glS as ag ad as
  gg : ∀ ad, glS as' ag' ad ag' = glS as ag ad ag
  rt : ∀ r w, (rootA as ag r).map A.pv = some w → (rootA as' ag' r).map A.pv = some w
  per : q = true → ∀ r p w, (atA as ag r p).map A.pv = some w → (atA as' ag' r p).map A.pv = some w
section
variable {as as' as'' ag ag' ag'' : List AV} {x0 x x1 x2 : List Nat} {q q' : Bool} {F'' : FM} {S'' : Sto}
theorem Ev.refl (g : Good F S as ag) (nd : (fpS (as ++ ag) ++ x).Nodup) (lt : ∀ n ∈ x, n < S.length) : Ev q F S as ag x F S as ag x :=
  ⟨g, nd, lt, Mono.refl, Nat.le_refl _, fun _ _ _ => ⟨rfl, rfl⟩, fun _ h => .inl h, fun _ => rfl, fun _ => rfl, fun _ _ h => h, fun _ _ _ _ h => h⟩
theorem Ev.trans (a : Ev q F S as ag x0 F' S' as' ag' x1) (b : Ev q' F' S' as' ag' x1 F'' S'' as'' ag'' x2) : Ev (q && q') F S as ag x0 F'' S'' as'' ag'' x2 where
  good := b.good
  nd := b.nd
  lt := b.lt
  mono := a.mono.trans b.mono
  len := Nat.le_trans a.len b.len
  keep := fun n hn hx => by
    have h1 := a.keep n hn hx
    have h2 := b.keep n (Nat.lt_of_lt_of_le hn a.len) fun h => by
      rcases a.new n h with h | h
      · exact hx h
      · exact absurd hn (Nat.not_lt.mpr h)
    exact ⟨h2.1.trans h1.1, h2.2.trans h1.2⟩
  new := fun n hn => by
    rcases b.new n hn with h | h
    · exact a.new n h
    · exact .inr (Nat.le_trans a.len h)
  gl := fun ad => (b.gl ad).trans (a.gl ad)
  gg := fun ad => (b.gg ad).trans (a.gg ad)
  rt := fun r w h => b.rt r w (a.rt r w h)
  per := fun hq r p w h => by
    obtain ⟨h1, h2⟩ := Bool.and_eq_true_iff.mp hq
    exact b.per h2 r p w (a.per h1 r p w h)
theorem Ev.weak (a : Ev q F S as ag x0 F' S' as' ag' x) (h : q' = true → q = true) : Ev q' F S as ag x0 F' S' as' ag' x :=
  ⟨a.good, a.nd, a.lt, a.mono, a.len, a.keep, a.new, a.gl, a.gg, a.rt, fun e => a.per (h e)⟩
theorem Ev.sub (a : Ev q F S as ag x0 F' S' as' ag' x) {y : List Nat} (h : y.Sublist x) : Ev q F S as ag x0 F' S' as' ag' y :=
  ⟨a.good, a.nd.sublist (List.Sublist.append_left h _), fun n hn => a.lt n (h.subset hn), a.mono, a.len, a.keep, fun n hn => a.new n (by
    rcases List.mem_append.mp hn with t | t
    · exact List.mem_append_left _ t
    · exact List.mem_append_right _ (h.subset t)), a.gl, a.gg, a.rt, a.per⟩
theorem nodup_app_comm3 {a b c : List Nat} (h : (a ++ (b ++ c)).Nodup) : (a ++ (c ++ b)).Nodup := by
  refine (List.Perm.nodup_iff ?_).mp h
  exact (List.Perm.append_left _ List.perm_append_comm)
theorem Ev.frame (a : Ev q F S as ag x0 F' S' as' ag' x) {z : List Nat} (hn : (fpS (as ++ ag) ++ (z ++ x0)).Nodup) (hz : ∀ n ∈ z, n < S.length) : Ev q F S as ag (z ++ x0) F' S' as' ag' (z ++ x) := by
  have hd : ∀ n ∈ z, n ∉ fpS (as ++ ag) ++ x0 := fun n hz hx => by
    have h1 := List.nodup_append.mp hn
    have h2 := List.nodup_append.mp h1.2.1
    rcases List.mem_append.mp hx with t | t
    · exact h1.2.2 n t n (List.mem_append_left _ hz) rfl
    · exact h2.2.2 n hz n t rfl
  have hd2 : ∀ n ∈ z, n ∉ fpS (as' ++ ag') ++ x := fun n hz' hx => by
    rcases a.new n hx with t | t
    · exact hd n hz' t
    · exact absurd (hz n hz') (Nat.not_lt.mpr t)
  refine ⟨a.good, ?_, fun n hn => ?_, a.mono, a.len, fun n hl hx => a.keep n hl fun h => hx ?_, fun n h => ?_, a.gl, a.gg, a.rt, a.per⟩
  · have h1 := List.nodup_append.mp a.nd
    refine List.nodup_append.mpr ⟨h1.1, List.nodup_append.mpr ⟨?_, h1.2.1, fun n h m h' e => ?_⟩, fun n h m h' e => ?_⟩
    · exact (List.nodup_append.mp (List.nodup_append.mp hn).2.1).1
    · exact hd2 n h (e ▸ List.mem_append_right _ h')
    · rcases List.mem_append.mp h' with t | t
      · exact hd2 m t (e ▸ List.mem_append_left _ h)
      · exact h1.2.2 n h m t e
  · rcases List.mem_append.mp hn with t | t
    · exact Nat.lt_of_lt_of_le (hz n t) a.len
    · exact a.lt n t
  · rcases List.mem_append.mp h with t | t
    · exact List.mem_append_left _ t
    · exact List.mem_append_right _ (List.mem_append_right _ t)
  · have : n ∈ z ∨ n ∈ fpS (as' ++ ag') ++ x := by
      simp only [List.mem_append] at h ⊢
      rcases h with h | h | h <;> simp [h]
    rcases this with t | t
    · exact .inl (List.mem_append_right _ (List.mem_append_left _ t))
    · rcases a.new n t with u | u
      · left
        simp only [List.mem_append] at u ⊢
        rcases u with u | u <;> simp [u]
      · exact .inr u
theorem Ev.stay (a : Ev q F S as ag x0 F' S' as' ag' x) {z : A} (h : z.ok F S) (hn : (fpS (as ++ ag) ++ (z.fp ++ x0)).Nodup) (fs : FS F S) : z.ok F' S' :=
  ok_frame a.mono (fun n hz => a.keep n (fp_lt fs h n hz) fun hx => by
    have h1 := List.nodup_append.mp hn
    have h2 := List.nodup_append.mp h1.2.1
    rcases List.mem_append.mp hx with t | t
    · exact h1.2.2 n t n (List.mem_append_left _ hz) rfl
    · exact h2.2.2 n hz n t rfl) h
end
structure RT (α β γ : Type) where
  er : γ → β
  pv : List AV → List AV → γ → Option α
  ok : FM → Sto → γ → Prop
  fp : γ → List Nat
inductive ARV where
  | v (a : A) | pth (r : Rt) (p : List Nat)
def ARV.er : ARV → RV
  | .v a => .v a.er
  | .pth r p => .pth r p
def ARV.pv (as ag : List AV) : ARV → Option PV
  | .v a => some a.pv
  | .pth r p => (atA as ag r p).map A.pv
def ARV.ok (F : FM) (S : Sto) : ARV → Prop
  | .v a => a.ok F S
  | .pth _ _ => True
def ARV.fp : ARV → List Nat
  | .v a => a.fp
  | .pth _ _ => []
def RE : RT PV RV ARV := ⟨ARV.er, ARV.pv, ARV.ok, ARV.fp⟩
def RB : RT Bool Bool Bool := ⟨id, fun _ _ b => some b, fun _ _ _ => True, fun _ => []⟩
def RO : RT (Option Int) (Option Int) (Option Int) := ⟨id, fun _ _ b => some b, fun _ _ _ => True, fun _ => []⟩
def seqO {α : Type} : List (Option α) → Option (List α)
  | [] => some []
  | x :: r => match x, seqO r with
    | some y, some ys => some (y :: ys)
    | _, _ => none
def RA : RT (List PV) (List RV) (List ARV) := ⟨List.map ARV.er, fun as ag cs => seqO (cs.map (ARV.pv as ag)), fun F S cs => ∀ c ∈ cs, c.ok F S, List.flatMap ARV.fp⟩
structure AE where
  cls : Nm
  ns : List Nm
  xs : List A
def AE.er (e : AE) : Exn := ⟨e.cls, e.ns, A.ers e.xs⟩
def AE.gl (e : AE) : GL.Exn := ⟨e.cls, e.ns.zip (A.pvs e.xs)⟩
def AE.ok (F : FM) (S : Sto) (e : AE) : Prop := e.ns.length = e.xs.length ∧ A.fps e.xs = [] ∧ A.oks F S e.xs
abbrev AD := Nat × Nat
abbrev PX (β : Type) := Ls → Ls → Out β
def SimO {α β γ : Type} (q : Bool) (R : RT α β γ) (F : FM) (S : Sto) (as ag : List AV) (x0 : List Nat) (o : AD → GL.Out α) (p : Out β) : Prop := match p with
  | .ok b ls' gh' => ∃ F' S' as' ag' c w, erS as' = ls' ∧ erS ag' = gh' ∧ R.er c = b ∧ (∀ ad, o ad = .ok w S') ∧ R.pv as' ag' c = some w ∧ R.ok F' S' c ∧ Ev q F S as ag x0 F' S' as' ag' (R.fp c)
  | .exc e ls' gh' => ∃ F' S' as' ag' x, erS as' = ls' ∧ erS ag' = gh' ∧ AE.er x = e ∧ (∀ ad, o ad = .exc x.gl S') ∧ x.ok F' S' ∧ Ev q F S as ag x0 F' S' as' ag' []
  | .bad => True
def SimX {α β γ : Type} (q : Bool) (R : RT α β γ) (m : AD → GL.Ls → Sto → GL.Out α) (p : PX β) : Prop :=
  ∀ F S as ag, Good F S as ag → SimO q R F S as ag [] (fun ad => m ad (glS as ag ad as) S) (p (erS as) (erS ag))
abbrev SimE (q : Bool) (m : AD → GL.ME) (p : PX RV) : Prop := SimX q RE m p
abbrev SimT (q : Bool) (m : AD → GL.MT) (p : PX Bool) : Prop := SimX q RB m p
abbrev SimA (q : Bool) (m : AD → GL.MA) (p : PX (List RV)) : Prop := SimX q RA m p
def Out.bind {α β : Type} (o : Out α) (f : α → Ls → Ls → Out β) : Out β := match o with
  | .ok a ls gh => f a ls gh
  | .exc e ls gh => .exc e ls gh
  | .bad => .bad
theorem SimO.weak {α β γ : Type} {R : RT α β γ} {q q' : Bool} {as ag : List AV} {x0 : List Nat} {o : AD → GL.Out α} {p : Out β} (h : SimO q R F S as ag x0 o p) (hq : q' = true → q = true) : SimO q' R F S as ag x0 o p := by
  cases p with
  | ok b ls gh => obtain ⟨F', S', as', ag', c, w, a1, a2, a3, a4, a5, a6, a7⟩ := h; exact ⟨F', S', as', ag', c, w, a1, a2, a3, a4, a5, a6, a7.weak hq⟩
  | exc e ls gh => obtain ⟨F', S', as', ag', x, a1, a2, a3, a4, a5, a7⟩ := h; exact ⟨F', S', as', ag', x, a1, a2, a3, a4, a5, a7.weak hq⟩
  | bad => trivial
end VL
set_option Elab.async false
set_option linter.all false
set_option maxRecDepth 100000
set_option maxHeartbeats 1000000
namespace VL
open GL (PV OB Sto Nm BT)
variable {F F' : FM} {S S' : Sto}
def cut : List Nat → List Nat → Option (List Nat)
  | [], s => some s
  | i :: p, j :: s => if i = j then cut p s else none
  | _ :: _, [] => none
theorem cut_some : ∀ {p q s : List Nat}, cut p q = some s → q = p ++ s
  | [], q, s, h => by cases h; rfl
  | i :: p, [], s, h => by cases h
  | i :: p, j :: q, s, h => by
    unfold cut at h
    split at h
    · rename_i e; rw [cut_some h, e]; rfl
    · cases h
theorem cut_app : ∀ (p s : List Nat), cut p (p ++ s) = some s
  | [], s => rfl
  | i :: p, s => by show cut (i :: p) (i :: (p ++ s)) = _; unfold cut; rw [if_pos rfl]; exact cut_app p s
def lives (t : List Nat → Bool) (r : Rt) (p : List Nat) (r' : Rt) (p' : List Nat) : Bool :=
  if r' = r then (match cut p p' with
    | some s => t s
    | none => true) else true
theorem lives_all {t : List Nat → Bool} {r r' : Rt} {p p' : List Nat} (h : ∀ s, t s = true) : lives t r p r' p' = true := by
  unfold lives
  split
  · split
    · exact h _
    · rfl
  · rfl
def killD (t : List Nat → Bool) (r : Rt) (p : List Nat) : Option V → Option V
  | some (.al r' p') => if lives t r p r' p' = true then some (.al r' p') else none
  | z => z
def putV (d : D) : Option V → Option V
  | some (.v _) => some (.v d)
  | some (.io _) => some (.io d)
  | z => z
def modN {α : Type} (f : α → α) : Nat → List α → List α
  | _, [] => []
  | 0, x :: r => f x :: r
  | i + 1, x :: r => x :: modN f i r
theorem modN_map {α β : Type} (e : α → β) (f : α → α) (g : β → β) (h : ∀ x, e (f x) = g (e x)) : ∀ (i : Nat) (xs : List α), (modN f i xs).map e = modN g i (xs.map e)
  | _, [] => by simp [modN]
  | 0, x :: r => by simp [modN, h]
  | i + 1, x :: r => by simp [modN, modN_map e f g h i r]
theorem modN_get {α : Type} (f : α → α) : ∀ (i j : Nat) (xs : List α), (modN f i xs)[j]? = if i = j then xs[j]?.map f else xs[j]?
  | _, _, [] => by simp [modN]
  | 0, 0, x :: r => by simp [modN]
  | 0, j + 1, x :: r => by simp [modN]
  | i + 1, 0, x :: r => by simp [modN]
  | i + 1, j + 1, x :: r => by simp [modN, modN_get f i j r]
def chD (t : List Nat → Bool) (r : Rt) (p : List Nat) (y : D) (ls gh : Ls) : Ls × Ls :=
  let z := (rootD ls gh r).map fun d => setP p d y
  match r, z with
  | .l i, some d => (modN (putV d) i (ls.map (killD t r p)), gh.map (killD t r p))
  | .g j, some d => (ls.map (killD t r p), modN (putV d) j (gh.map (killD t r p)))
  | _, none => (ls, gh)
def killA (as ag : List AV) (t : List Nat → Bool) (r : Rt) (p : List Nat) : AV → AV
  | .al r' p' => if lives t r p r' p' = true then .al r' p' else .un ((atA as ag r' p').map A.pv)
  | z => z
def putA (a : A) : AV → AV
  | .v _ => .v a
  | .io _ => .io a
  | z => z
def chA (t : List Nat → Bool) (r : Rt) (p : List Nat) (y : A) (as ag : List AV) : List AV × List AV :=
  let z := (rootA as ag r).map fun d => setA p d y
  match r, z with
  | .l i, some d => (modN (putA d) i (as.map (killA as ag t r p)), ag.map (killA as ag t r p))
  | .g j, some d => (as.map (killA as ag t r p), modN (putA d) j (ag.map (killA as ag t r p)))
  | _, none => (as, ag)
theorem kill_er (as ag : List AV) (t : List Nat → Bool) (r : Rt) (p : List Nat) (z : AV) : (killA as ag t r p z).er = killD t r p z.er := by
  cases z with
  | al r' p' => simp only [killA, AV.er, killD]; by_cases h : lives t r p r' p' = true <;> simp [h]
  | _ => rfl
theorem put_er (a : A) (z : AV) : (putA a z).er = putV a.er z.er := by cases z <;> rfl
theorem ch_er (t : List Nat → Bool) (r : Rt) (p : List Nat) (y : A) (as ag : List AV) : (erS (chA t r p y as ag).1, erS (chA t r p y as ag).2) = chD t r p y.er (erS as) (erS ag) := by
  have k : ∀ zs : List AV, erS (zs.map (killA as ag t r p)) = (erS zs).map (killD t r p) := fun zs => by
    simp only [erS, List.map_map]
    exact List.map_congr_left fun z _ => kill_er as ag t r p z
  unfold chA chD
  rw [root_er]
  cases r with
  | l i =>
    cases h : rootA as ag (.l i) with
    | none => rfl
    | some a =>
      simp only [Option.map_some]
      rw [← set_er, ← k, ← k]
      congr 1
      exact modN_map _ _ _ (fun x => put_er _ x) i _
  | g i =>
    cases h : rootA as ag (.g i) with
    | none => rfl
    | some a =>
      simp only [Option.map_some]
      rw [← set_er, ← k, ← k]
      congr 1
      exact modN_map _ _ _ (fun x => put_er _ x) i _
theorem kill_fp (as ag : List AV) (t : List Nat → Bool) (r : Rt) (p : List Nat) (z : AV) : (killA as ag t r p z).fp = z.fp := by
  cases z with
  | al r' p' => simp only [killA]; split <;> rfl
  | _ => rfl
theorem kill_fpS (as ag : List AV) (t : List Nat → Bool) (r : Rt) (p : List Nat) (zs : List AV) : fpS (zs.map (killA as ag t r p)) = fpS zs := by
  unfold fpS
  rw [List.flatMap_map]
  exact congrArg List.flatten (List.map_congr_left fun z _ => kill_fp as ag t r p z)
theorem kill_slot (as ag : List AV) (t : List Nat → Bool) (r : Rt) (p : List Nat) (z : Option AV) : slotA (z.map (killA as ag t r p)) = slotA z := by
  cases z with
  | none => rfl
  | some z =>
    cases z with
    | al r' p' => simp only [Option.map_some, killA]; split <;> rfl
    | _ => rfl
theorem slot_some {z : Option AV} {a : A} (h : slotA z = some a) : z = some (.v a) ∨ z = some (.io a) := by
  cases z with
  | none => cases h
  | some z => cases z <;> simp_all [slotA]
theorem mod_fp {zs : List AV} {i : Nat} {a : A} (h : slotA zs[i]? = some a) : ∃ L R, fpS zs = L ++ a.fp ++ R ∧ ∀ b : A, fpS (modN (putA b) i zs) = L ++ b.fp ++ R := by
  induction zs generalizing i with
  | nil => simp [slotA] at h
  | cons z r ih =>
    cases i with
    | zero =>
      refine ⟨[], fpS r, ?_, fun b => ?_⟩
      · rcases slot_some h with e | e <;> (simp at e; subst e; simp [fpS, AV.fp])
      · rcases slot_some h with e | e <;> (simp at e; subst e; simp [fpS, AV.fp, modN, putA])
    | succ i =>
      obtain ⟨L, R, e1, e2⟩ := ih (i := i) (by simpa using h)
      exact ⟨z.fp ++ L, R, by simp [fpS_cons, e1], fun b => by simp [modN, fpS_cons, e2]⟩
section
variable {t : List Nat → Bool} {r : Rt} {p : List Nat} {as ag : List AV} {a x y : A}
theorem ch_root (hr : rootA as ag r = some a) (r' : Rt) : rootA (chA t r p y as ag).1 (chA t r p y as ag).2 r' = if r' = r then some (setA p a y) else rootA as ag r' := by
  unfold chA
  rw [hr]
  cases r with
  | l i =>
    simp only [Option.map_some]
    cases r' with
    | l j =>
      simp only [rootA, modN_get, Rt.l.injEq, List.getElem?_map]
      by_cases hij : i = j
      · subst hij
        simp only [if_true, List.getElem?_map]
        rcases slot_some (show slotA as[i]? = some a from hr) with e | e <;> (rw [e]; rfl)
      · rw [if_neg hij, if_neg (fun e => hij e.symm)]
        rw [← List.getElem?_map, List.getElem?_map, kill_slot]
    | g j => simp only [rootA, List.getElem?_map, kill_slot, reduceCtorEq, if_false]
  | g i =>
    simp only [Option.map_some]
    cases r' with
    | g j =>
      simp only [rootA, modN_get, Rt.g.injEq, List.getElem?_map]
      by_cases hij : i = j
      · subst hij
        simp only [if_true, List.getElem?_map]
        rcases slot_some (show slotA ag[i]? = some a from hr) with e | e <;> (rw [e]; rfl)
      · rw [if_neg hij, if_neg (fun e => hij e.symm)]
        rw [← List.getElem?_map, List.getElem?_map, kill_slot]
    | l j => simp only [rootA, List.getElem?_map, kill_slot, reduceCtorEq, if_false]
theorem ch_fp (hr : rootA as ag r = some a) : ∃ L R, fpS (as ++ ag) = L ++ a.fp ++ R ∧ fpS ((chA t r p y as ag).1 ++ (chA t r p y as ag).2) = L ++ (setA p a y).fp ++ R := by
  unfold chA
  rw [hr]
  cases r with
  | l i =>
    simp only [Option.map_some]
    have h2 : slotA (as.map (killA as ag t (.l i) p))[i]? = some a := by rw [List.getElem?_map, kill_slot]; exact hr
    obtain ⟨L, R, e1, e2⟩ := mod_fp h2
    refine ⟨L, R ++ fpS ag, ?_, ?_⟩
    · rw [kill_fpS] at e1
      rw [fpS_app, e1]; simp
    · rw [fpS_app, e2, kill_fpS]; simp
  | g i =>
    simp only [Option.map_some]
    have h2 : slotA (ag.map (killA as ag t (.g i) p))[i]? = some a := by rw [List.getElem?_map, kill_slot]; exact hr
    obtain ⟨L, R, e1, e2⟩ := mod_fp h2
    refine ⟨fpS as ++ L, R, ?_, ?_⟩
    · rw [kill_fpS] at e1
      rw [fpS_app, e1]; simp
    · rw [fpS_app, e2, kill_fpS]; simp
theorem modN_take {α : Type} {f : α → α} : ∀ {i : Nat} {zs : List α} {z : α}, zs[i]? = some z → modN f i zs = zs.take i ++ f z :: zs.drop (i + 1)
  | _, [], _, h => by simp at h
  | 0, x :: r, z, h => by simp at h; subst h; rfl
  | i + 1, x :: r, z, h => by
    have e := modN_take (f := f) (i := i) (zs := r) (z := z) (by simpa using h)
    rw [modN, e]; rfl
theorem take_self {α : Type} {i : Nat} {zs : List α} {z : α} (h : zs[i]? = some z) : zs = zs.take i ++ z :: zs.drop (i + 1) := by
  have e := modN_take (f := id) h
  rw [id] at e
  rw [← e]
  apply List.ext_getElem?
  intro j
  rw [modN_get]
  split <;> simp
theorem split_root (hr : rootA as ag r = some a) : ∃ Z1 zr Z2, as ++ ag = Z1 ++ zr :: Z2 ∧ (zr = .v a ∨ zr = .io a) ∧ (chA t r p y as ag).1 ++ (chA t r p y as ag).2 = Z1.map (killA as ag t r p) ++ putA (setA p a y) zr :: Z2.map (killA as ag t r p) := by
  unfold chA
  rw [hr]
  have key : ∀ (i : Nat) (zs : List AV), slotA zs[i]? = some a → ∃ A zr B, zs = A ++ zr :: B ∧ (zr = .v a ∨ zr = .io a) ∧ modN (putA (setA p a y)) i (zs.map (killA as ag t r p)) = A.map (killA as ag t r p) ++ putA (setA p a y) zr :: B.map (killA as ag t r p) := fun i zs hs => by
    have : ∃ zr, zs[i]? = some zr ∧ (zr = .v a ∨ zr = .io a) := by
      rcases slot_some hs with e | e
      · exact ⟨_, e, .inl rfl⟩
      · exact ⟨_, e, .inr rfl⟩
    obtain ⟨zr, hz, hc⟩ := this
    have hk : killA as ag t r p zr = zr := by rcases hc with rfl | rfl <;> rfl
    refine ⟨zs.take i, zr, zs.drop (i + 1), take_self hz, hc, ?_⟩
    rw [modN_take (z := zr) (by rw [List.getElem?_map, hz, Option.map_some, hk]), List.map_take, List.map_drop]
  cases r with
  | l i =>
    obtain ⟨A, zr, B, e1, e2, e3⟩ := key i as hr
    refine ⟨A, zr, B ++ ag, by rw [e1]; simp, e2, ?_⟩
    simp only [Option.map_some]
    rw [e3]; simp
  | g i =>
    obtain ⟨A, zr, B, e1, e2, e3⟩ := key i ag hr
    refine ⟨as ++ A, zr, B, by rw [e1]; simp, e2, ?_⟩
    simp only [Option.map_some]
    rw [e3]; simp
theorem mem_ch (nd : (fpS (as ++ ag)).Nodup) (hr : rootA as ag r = some a) {z : AV} (h : z ∈ (chA t r p y as ag).1 ++ (chA t r p y as ag).2) : (∃ z0 ∈ as ++ ag, z = killA as ag t r p z0 ∧ ∀ n ∈ z0.fp, n ∉ a.fp) ∨ z = .v (setA p a y) ∨ z = .io (setA p a y) := by
  obtain ⟨Z1, zr, Z2, e1, e2, e3⟩ := split_root (t := t) (p := p) (y := y) hr
  rw [e3] at h
  have hzr : zr.fp = a.fp := by rcases e2 with rfl | rfl <;> rfl
  have nd' : (fpS Z1 ++ (a.fp ++ fpS Z2)).Nodup := by rw [← hzr, ← fpS_cons, ← fpS_app, ← e1]; exact nd
  have d1 := List.nodup_append.mp nd'
  have d2 := List.nodup_append.mp d1.2.1
  rcases List.mem_append.mp h with h | h
  · obtain ⟨z0, h0, rfl⟩ := List.mem_map.mp h
    refine .inl ⟨z0, by rw [e1]; exact List.mem_append_left _ h0, rfl, fun n hn hx => d1.2.2 n (List.mem_flatMap.mpr ⟨z0, h0, hn⟩) n (List.mem_append_left _ hx) rfl⟩
  · rcases List.mem_cons.mp h with rfl | h
    · rcases e2 with rfl | rfl
      · exact .inr (.inl rfl)
      · exact .inr (.inr rfl)
    · obtain ⟨z0, h0, rfl⟩ := List.mem_map.mp h
      exact .inl ⟨z0, by rw [e1]; exact List.mem_append_right _ (List.mem_cons_of_mem _ h0), rfl, fun n hn hx => d2.2.2 n hx n (List.mem_flatMap.mpr ⟨z0, h0, hn⟩) rfl⟩
theorem ch_per (hr : rootA as ag r = some a) (hx : getA p a = some x) (hv : y.pv = x.pv) (hp : Per (fun s => t s = true) x y) {r' : Rt} {p' : List Nat} (hl : lives t r p r' p' = true) {w : PV} (h : (atA as ag r' p').map A.pv = some w) :
    (atA (chA t r p y as ag).1 (chA t r p y as ag).2 r' p').map A.pv = some w := by
  unfold atA at h ⊢
  rw [ch_root hr]
  split
  · rename_i e; subst e
    rw [hr] at h
    refine per_set p a x y hx hv hp p' w (fun s hs => ?_) h
    unfold lives at hl
    rw [if_pos rfl, hs, cut_app] at hl
    exact hl
  · exact h
theorem ch_glv (hr : rootA as ag r = some a) (hx : getA p a = some x) (hv : y.pv = x.pv) (hp : Per (fun s => t s = true) x y) (hal : ∀ z ∈ as ++ ag, Alive as ag z) (ad : Nat × Nat) {z : AV} (hz : z ∈ as ++ ag) :
    glv (chA t r p y as ag).1 (chA t r p y as ag).2 ad (killA as ag t r p z) = glv as ag ad z := by
  cases z with
  | al r' p' =>
    simp only [killA]
    split
    · rename_i hl
      have hs : (atA as ag r' p').isSome = true := hal _ hz
      obtain ⟨b, hb⟩ := Option.isSome_iff_exists.mp hs
      simp only [glv]
      rw [ch_per hr hx hv hp hl (w := b.pv) (by rw [hb]; rfl), hb]; rfl
    · rfl
  | _ => rfl
theorem ch_gl (hr : rootA as ag r = some a) (hx : getA p a = some x) (hv : y.pv = x.pv) (hp : Per (fun s => t s = true) x y) (hal : ∀ z ∈ as ++ ag, Alive as ag z) (ad : Nat × Nat) :
    glS (chA t r p y as ag).1 (chA t r p y as ag).2 ad (chA t r p y as ag).1 = glS as ag ad as ∧ glS (chA t r p y as ag).1 (chA t r p y as ag).2 ad (chA t r p y as ag).2 = glS as ag ad ag := by
  have sv := set_pv p a y x hx hv
  have plain : ∀ zs : List AV, (∀ z ∈ zs, z ∈ as ++ ag) → (zs.map (killA as ag t r p)).map (glv (chA t r p y as ag).1 (chA t r p y as ag).2 ad) = zs.map (glv as ag ad) := fun zs hz => by
    rw [List.map_map]
    exact List.map_congr_left fun z h => ch_glv hr hx hv hp hal ad (hz z h)
  have md : ∀ (i : Nat) (zs : List AV), slotA zs[i]? = some a → (∀ z ∈ zs, z ∈ as ++ ag) → (modN (putA (setA p a y)) i (zs.map (killA as ag t r p))).map (glv (chA t r p y as ag).1 (chA t r p y as ag).2 ad) = zs.map (glv as ag ad) := fun i zs hs hz => by
    rw [← plain zs hz]
    apply List.ext_getElem?
    intro j
    rw [List.getElem?_map, modN_get, List.getElem?_map]
    split
    · rename_i e; subst e
      rw [List.getElem?_map]
      rcases slot_some hs with e | e
      · simp [e, killA, putA, glv, sv]
      · simp [e, killA, putA, glv, sv]
    · rw [List.getElem?_map, List.getElem?_map]
  have ha := plain as (fun z h => List.mem_append_left _ h)
  have hg := plain ag (fun z h => List.mem_append_right _ h)
  cases r with
  | l i =>
    have hm := md i as hr (fun z h => List.mem_append_left _ h)
    have e : chA t (.l i) p y as ag = (modN (putA (setA p a y)) i (as.map (killA as ag t (.l i) p)), ag.map (killA as ag t (.l i) p)) := by unfold chA; rw [hr]; rfl
    rw [e] at hm hg ⊢
    exact ⟨hm, hg⟩
  | g i =>
    have hm := md i ag hr (fun z h => List.mem_append_right _ h)
    have e : chA t (.g i) p y as ag = (as.map (killA as ag t (.g i) p), modN (putA (setA p a y)) i (ag.map (killA as ag t (.g i) p))) := by unfold chA; rw [hr]; rfl
    rw [e] at hm ha ⊢
    exact ⟨ha, hm⟩
theorem ev_ch {q : Bool} {x0 x1 : List Nat} (hq : q = true → ∀ s, t s = true) (g : Good F S as ag) (nd : (fpS (as ++ ag) ++ x0).Nodup) (hr : rootA as ag r = some a) (hx : getA p a = some x) (hs : x.shr = false) (hv : y.pv = x.pv) (hp : Per (fun s => t s = true) x y)
    (m : Mono F F') (fs : FS F' S') (len : S.length ≤ S'.length) (keep : ∀ n, n < S.length → n ∉ x.fp ++ x0 → F' n = F n ∧ S'[n]? = S[n]?) (hy : y.ok F' S') (hn : (y.fp ++ x1).Nodup)
    (new : ∀ n, n ∈ y.fp ++ x1 → n ∈ x.fp ++ x0 ∨ S.length ≤ n) (lt : ∀ n ∈ x1, n < S'.length) :
    Ev q F S as ag x0 F' S' (chA t r p y as ag).1 (chA t r p y as ag).2 x1 := by
  have aok : a.ok F S := by
    have : ∃ z ∈ as ++ ag, z = .v a ∨ z = .io a := by
      cases r with
      | l i => rcases slot_some hr with e | e <;> exact ⟨_, List.mem_append_left _ (List.mem_of_getElem? e), by simp⟩
      | g i => rcases slot_some hr with e | e <;> exact ⟨_, List.mem_append_right _ (List.mem_of_getElem? e), by simp⟩
    obtain ⟨z, hz, rfl | rfl⟩ := this
    · exact g.ok _ hz
    · exact g.ok _ hz
  obtain ⟨xok, L, R, e1, e2, e3⟩ := focus p a x aok hx hs
  obtain ⟨L2, R2, f1, f2⟩ := ch_fp (t := t) (p := p) (y := y) hr
  rw [e1] at f1
  rw [e2] at f2
  have xlt := fp_lt g.fs xok
  have apart : ∀ n, n ∈ L2 ++ L ∨ n ∈ R ++ R2 → n < S.length ∧ n ∉ x.fp ++ x0 ∧ n ∉ y.fp ++ x1 := fun n hn' => by
    have hmem : n ∈ fpS (as ++ ag) := by rw [f1]; simp only [List.mem_append] at hn' ⊢; rcases hn' with (h | h) | h | h <;> simp [h]
    have hlt : n < S.length := by
      unfold fpS at hmem
      obtain ⟨z, hz, hq⟩ := List.mem_flatMap.mp hmem
      have zok := g.ok z hz
      cases z with
      | v b => exact fp_lt g.fs zok n hq
      | io b => exact fp_lt g.fs zok n hq
      | _ => cases hq
    have hnx : n ∉ x.fp ++ x0 := by
      rw [f1] at nd
      intro hx'
      have nd' : ((L2 ++ L) ++ (x.fp ++ (R ++ R2)) ++ x0).Nodup := by simpa using nd
      have d1 := List.nodup_append.mp nd'
      have d2 := List.nodup_append.mp d1.1
      have d3 := List.nodup_append.mp d2.2.1
      rcases List.mem_append.mp hx' with u | u
      · rcases hn' with v | v
        · exact d2.2.2 n v n (List.mem_append_left _ u) rfl
        · exact d3.2.2 n u n v rfl
      · refine d1.2.2 n ?_ n u rfl
        rcases hn' with v | v
        · exact List.mem_append_left _ v
        · exact List.mem_append_right _ (List.mem_append_right _ v)
    refine ⟨hlt, hnx, fun hy' => ?_⟩
    rcases new n hy' with u | u
    · exact hnx u
    · omega
  have agree : ∀ n, n ∈ L2 ++ L ∨ n ∈ R ++ R2 → F' n = F n ∧ S'[n]? = S[n]? := fun n h => keep n (apart n h).1 (apart n h).2.1
  have newok : (setA p a y).ok F' S' := e3 F' S' y m (fun n h => agree n (by simp only [List.mem_append]; rcases h with h | h <;> simp [h])) hy hv
  have ndall : (fpS ((chA t r p y as ag).1 ++ (chA t r p y as ag).2) ++ x1).Nodup := by
    rw [f2]
    have h0 : (L2 ++ L ++ (R ++ R2)).Nodup := by
      have : (L2 ++ (L ++ x.fp ++ R) ++ R2).Nodup := by rw [← f1]; exact g.nd
      refine this.sublist ?_
      have s1 : (L ++ R).Sublist (L ++ x.fp ++ R) := by
        have : (L ++ ([] ++ R)).Sublist (L ++ (x.fp ++ R)) := List.Sublist.append_left (List.Sublist.append_right (List.nil_sublist _) _) _
        simpa using this
      have : (L2 ++ ((L ++ R) ++ R2)).Sublist (L2 ++ ((L ++ x.fp ++ R) ++ R2)) := List.Sublist.append_left (List.Sublist.append_right s1 _) _
      simpa using this
    have h1 : ((L2 ++ L ++ (R ++ R2)) ++ (y.fp ++ x1)).Nodup := List.nodup_append.mpr ⟨h0, hn, fun n h k h' e => by
      subst e
      exact (apart n (List.mem_append.mp h)).2.2 h'⟩
    refine (List.Perm.nodup_iff ?_).mp h1
    simp only [List.append_assoc]
    refine List.Perm.append_left _ (List.Perm.append_left _ ?_)
    rw [← List.append_assoc, ← List.append_assoc]
    have : (R ++ R2 ++ (y.fp ++ x1)).Perm (y.fp ++ (R ++ R2) ++ x1) := by
      rw [← List.append_assoc]
      exact List.Perm.append_right _ List.perm_append_comm
    simpa using this
  have gl := fun ad => ch_gl (t := t) (p := p) hr hx hv hp g.al ad
  refine ⟨⟨fs, fun z hz => ?_, (List.nodup_append.mp ndall).1, fun z hz => ?_⟩, ndall, lt, m, len, fun n hl hx' => keep n hl fun h => hx' ?_, fun n h => ?_, fun ad => (gl ad).1, fun ad => (gl ad).2, fun r' w h => ?_, (fun h r' p' w hw => ch_per hr hx hv hp (lives_all (hq h)) hw)⟩
  · -- each slot holds
    have other : ∀ b : A, b.ok F S → (∀ n ∈ b.fp, n ∉ a.fp) → (∀ n ∈ b.fp, n ∈ fpS (as ++ ag)) → b.ok F' S' := fun b hb h1 h2 =>
      ok_frame m (fun n hn' => keep n (fp_lt g.fs hb n hn') fun hq => by
        rcases List.mem_append.mp hq with u | u
        · exact h1 n hn' (by rw [e1]; simp [u])
        · exact (List.nodup_append.mp nd).2.2 n (h2 n hn') n u rfl) hb
    have inS : ∀ z0 ∈ as ++ ag, ∀ n ∈ z0.fp, n ∈ fpS (as ++ ag) := fun z0 h0 n h => List.mem_flatMap.mpr ⟨z0, h0, h⟩
    rcases mem_ch g.nd hr hz with ⟨z0, h0, rfl, hd⟩ | rfl | rfl
    · cases z0 with
      | al r' p' => simp only [killA]; split <;> trivial
      | un o => trivial
      | v b => exact other b (g.ok _ h0) hd (inS _ h0)
      | io b => exact other b (g.ok _ h0) hd (inS _ h0)
      | xn C ns xs =>
        have := g.ok _ h0
        refine ⟨this.1, ?_⟩
        have t : (A.tup xs).ok F' S' := ok_frame (a := .tup xs) m (by rw [A.fp, this.1]; intro n hn'; cases hn') (show (A.tup xs).ok F S from this)
        exact t.2
    · exact newok
    · exact newok
  · rcases mem_ch g.nd hr hz with ⟨z0, h0, rfl, hd⟩ | rfl | rfl
    · cases z0 with
      | al r' p' =>
        simp only [killA]
        split
        · rename_i hl
          obtain ⟨b, hb⟩ := Option.isSome_iff_exists.mp (show (atA as ag r' p').isSome = true from g.al _ h0)
          have := ch_per hr hx hv hp hl (w := b.pv) (by rw [hb]; rfl)
          obtain ⟨c, hc, _⟩ := Option.map_eq_some_iff.mp this
          show (atA _ _ r' p').isSome = true
          rw [hc]; rfl
        · trivial
      | _ => trivial
    · trivial
    · trivial
  · rcases List.mem_append.mp h with u | u
    · refine List.mem_append_left _ ?_
      rw [f1]; simp [u]
    · exact List.mem_append_right _ u
  · rw [f2] at h
    by_cases hq : n ∈ y.fp ++ x1
    · rcases new n hq with u | u
      · left
        rcases List.mem_append.mp u with v | v
        · exact List.mem_append_left _ (by rw [f1]; simp [v])
        · exact List.mem_append_right _ v
      · exact .inr u
    · left
      refine List.mem_append_left _ ?_
      rw [f1]
      simp only [List.mem_append] at h hq ⊢
      rcases h with (((h | (h | h) | h) | h) | h) <;> simp_all
  · rw [ch_root hr]
    split
    · rename_i e; subst e
      rw [hr] at h
      rw [Option.map_some, set_pv p a y x hx hv]; exact h
    · exact h
end
end VL
set_option Elab.async false
set_option linter.all false
set_option maxRecDepth 100000
set_option maxHeartbeats 1000000
namespace VL
open GL (PV OB Sto Nm BT)
variable {F F' : FM} {S S' : Sto} {as as' ag ag' : List AV}
abbrev D.non : D := .sc .non
abbrev D.bl (b : Bool) : D := .sc (.bl b)
abbrev D.int (i : Int) : D := .sc (.int i)
abbrev D.str (s : List Nat) : D := .sc (.str s)
abbrev D.ty (b : BT) : D := .sc (.ty b)
abbrev D.lst (k : Fl) (xs : List D) : D := .nd k .lst xs
mutual
def dOf : PV → D
  | .non => .sc .non
  | .bl b => .sc (.bl b)
  | .int i => .sc (.int i)
  | .str s => .sc (.str s)
  | .tup xs => .tup (dOfs xs)
  | .gl x => .sc (.gl x)
  | .ty b => .sc (.ty b)
  | _ => .sc .non
def dOfs : List PV → List D
  | [] => []
  | x :: r => dOf x :: dOfs r
end
mutual
def aOf : PV → A
  | .non => .sc .non
  | .bl b => .sc (.bl b)
  | .int i => .sc (.int i)
  | .str s => .sc (.str s)
  | .tup xs => .tup (aOfs xs)
  | .gl x => .sc (.gl x)
  | .ty b => .sc (.ty b)
  | _ => .sc .non
def aOfs : List PV → List A
  | [] => []
  | x :: r => aOf x :: aOfs r
end
mutual
def rig : PV → Bool
  | .tup xs => rigs xs
  | .loc _ => false
  | .xn _ _ _ _ _ => false
  | _ => true
def rigs : List PV → Bool
  | [] => true
  | x :: r => rig x && rigs r
end
mutual
theorem aOf_er : ∀ w : PV, (aOf w).er = dOf w
  | .tup xs => by simp [aOf, A.er, dOf, aOfs_er xs]
  | .non => rfl
  | .bl _ => rfl
  | .int _ => rfl
  | .str _ => rfl
  | .gl _ => rfl
  | .ty _ => rfl
  | .loc _ => rfl
  | .xn _ _ _ _ _ => rfl
theorem aOfs_er : ∀ w : List PV, A.ers (aOfs w) = dOfs w
  | [] => rfl
  | x :: r => by simp [aOfs, A.ers, dOfs, aOf_er x, aOfs_er r]
end
mutual
theorem aOf_pv : ∀ {w : PV}, rig w = true → (aOf w).pv = w
  | .tup xs, h => by simp [aOf, A.pv, aOfs_pv (show rigs xs = true from h)]
  | .non, _ => rfl
  | .bl _, _ => rfl
  | .int _, _ => rfl
  | .str _, _ => rfl
  | .gl _, _ => rfl
  | .ty _, _ => rfl
theorem aOfs_pv : ∀ {w : List PV}, rigs w = true → A.pvs (aOfs w) = w
  | [], _ => rfl
  | x :: r, h => by
    obtain ⟨h1, h2⟩ := Bool.and_eq_true_iff.mp (show (rig x && rigs r) = true from h)
    simp [aOfs, A.pvs, aOf_pv h1, aOfs_pv h2]
end
mutual
theorem aOf_fp : ∀ (w : PV), (aOf w).fp = [] ∧ (aOf w).ok F S
  | .tup xs => by have := aOfs_fp xs; simp [aOf, A.fp, A.ok, this]
  | .non => ⟨rfl, trivial⟩
  | .bl _ => ⟨rfl, trivial⟩
  | .int _ => ⟨rfl, trivial⟩
  | .str _ => ⟨rfl, trivial⟩
  | .gl _ => ⟨rfl, trivial⟩
  | .ty _ => ⟨rfl, trivial⟩
  | .loc _ => ⟨rfl, trivial⟩
  | .xn _ _ _ _ _ => ⟨rfl, trivial⟩
theorem aOfs_fp : ∀ (w : List PV), A.fps (aOfs w) = [] ∧ A.oks F S (aOfs w)
  | [] => ⟨rfl, trivial⟩
  | x :: r => by
    have h1 := aOf_fp x
    have h2 := aOfs_fp r
    simp [aOfs, A.fps, A.oks, h1, h2]
end
theorem good_nd (g : Good F S as ag) : (fpS (as ++ ag) ++ []).Nodup := by rw [List.append_nil]; exact g.nd
theorem root_ok (g : Good F S as ag) {r : Rt} {a : A} (h : rootA as ag r = some a) : a.ok F S := by
  have : ∃ z ∈ as ++ ag, z = .v a ∨ z = .io a := by
    cases r with
    | l i => rcases slot_some h with e | e <;> exact ⟨_, List.mem_append_left _ (List.mem_of_getElem? e), by simp⟩
    | g i => rcases slot_some h with e | e <;> exact ⟨_, List.mem_append_right _ (List.mem_of_getElem? e), by simp⟩
  obtain ⟨z, hz, rfl | rfl⟩ := this
  · exact g.ok _ hz
  · exact g.ok _ hz
theorem get_ok : ∀ {p : List Nat} {a x : A}, a.ok F S → getA p a = some x → x.ok F S
  | [], a, x, h, e => by cases e; exact h
  | i :: p, a, x, h, e => by
    unfold getA at e
    cases hk : a.kids[i]? with
    | none => rw [hk] at e; cases e
    | some z => rw [hk] at e; exact get_ok ((oks_iff _).mp (ok_kids h) z (List.mem_of_getElem? hk)) e
theorem at_split {r : Rt} {p : List Nat} {x : A} (h : atA as ag r p = some x) : ∃ a, rootA as ag r = some a ∧ getA p a = some x := Option.bind_eq_some_iff.mp h
theorem at_ok (g : Good F S as ag) {r : Rt} {p : List Nat} {x : A} (h : atA as ag r p = some x) : x.ok F S := by
  obtain ⟨a, e, h⟩ := at_split h
  exact get_ok (root_ok g e) h
theorem obj_of (fs : FS F S) {k : Fl} {n : Nat} {h : Hd} {xs : List A} (o : (A.nd k n h xs).ok F S) : AtU S n (mkO h (A.pvs xs)) := by
  cases k with
  | fz => simp only [A.ok] at o; exact fs _ _ _ o.1
  | lk => simp only [A.ok] at o; exact fs _ _ _ o.1
  | ow => simp only [A.ok] at o; exact .inl o.1.2
def val (x : RV) (ls gh : Ls) : Option D := match x with
  | .v d => some d
  | .pth r p => atD ls gh r p
theorem val_er (c : ARV) {d : D} (h : val c.er (erS as) (erS ag) = some d) {w : PV} (hp : c.pv as ag = some w) (g : Good F S as ag) (hc : c.ok F S) :
    ∃ a : A, a.er = d ∧ a.pv = w ∧ a.ok F S ∧ ((c = .v a) ∨ ∃ r p, c = .pth r p ∧ atA as ag r p = some a) := by
  cases c with
  | v a => cases h; cases hp; exact ⟨a, rfl, rfl, hc, .inl rfl⟩
  | pth r p =>
    simp only [ARV.er, val] at h
    rw [at_er] at h
    obtain ⟨a, e, rfl⟩ := Option.map_eq_some_iff.mp h
    simp only [ARV.pv, e, Option.map_some, Option.some.injEq] at hp
    exact ⟨a, rfl, hp, at_ok g e, .inr ⟨r, p, rfl, e⟩⟩
theorem sim_ok {α β γ : Type} {R : RT α β γ} {q : Bool} {x0 : List Nat} (g : Good F S as ag) (nd : (fpS (as ++ ag) ++ x0).Nodup) (lt : ∀ n ∈ x0, n < S.length) (c : γ) {w : α} {b : β} {o : AD → GL.Out α} (ho : ∀ ad, o ad = .ok w S) (hb : R.er c = b) (hc : R.pv as ag c = some w) (hok : R.ok F S c) (sub : (R.fp c).Sublist x0) :
    SimO q R F S as ag x0 o (.ok b (erS as) (erS ag)) :=
  ⟨F, S, as, ag, c, w, rfl, rfl, hb, ho, hc, hok, (Ev.refl g nd lt).sub sub⟩
theorem sim_okE {q : Bool} {x0 : List Nat} (g : Good F S as ag) (nd : (fpS (as ++ ag) ++ x0).Nodup) (lt : ∀ n ∈ x0, n < S.length) (c : ARV) {w : PV} {b : RV} {o : AD → GL.Out PV} (ho : ∀ ad, o ad = .ok w S) (hb : c.er = b) (hc : c.pv as ag = some w) (hok : c.ok F S) (sub : c.fp.Sublist x0) :
    SimO q RE F S as ag x0 o (.ok b (erS as) (erS ag)) := sim_ok (R := RE) g nd lt c ho hb hc hok sub
theorem sim_sc {q : Bool} {x0 : List Nat} (g : Good F S as ag) (nd : (fpS (as ++ ag) ++ x0).Nodup) (lt : ∀ n ∈ x0, n < S.length) (s : Sc) {o : AD → GL.Out PV} (ho : ∀ ad, o ad = .ok s.pv S) :
    SimO q RE F S as ag x0 o (.ok (.v (.sc s)) (erS as) (erS ag)) :=
  sim_ok (R := RE) g nd lt (.v (.sc s)) ho rfl rfl (by exact trivial) (List.nil_sublist _)
def Stab {α β γ : Type} (R : RT α β γ) (q : Bool) (c : γ) : Prop := ∀ F S as ag x0 F' S' as' ag' x w, Ev q F S as ag x0 F' S' as' ag' x → Good F S as ag → (fpS (as ++ ag) ++ (R.fp c ++ x0)).Nodup → R.pv as ag c = some w → R.ok F S c → R.pv as' ag' c = some w ∧ R.ok F' S' c
def ARV.flat : ARV → Bool
  | .v _ => true
  | .pth _ p => p.isEmpty
theorem stab_re (q : Bool) (c : ARV) (h : q = true ∨ c.flat = true) : Stab RE q c := by
  intro F S as ag x0 F' S' as' ag' x w e g nd hp hk
  cases c with
  | v a => exact ⟨hp, e.stay hk nd g.fs⟩
  | pth r p =>
    refine ⟨?_, trivial⟩
    rcases h with h | h
    · exact e.per h r p w hp
    · have : p = [] := by simpa [ARV.flat] using h
      subst this
      have hr : ∀ as ag, ARV.pv as ag (.pth r []) = (rootA as ag r).map A.pv := fun as ag => by
        simp only [ARV.pv, atA]; cases rootA as ag r <;> rfl
      exact (hr _ _).trans (e.rt r w ((hr _ _).symm.trans hp))
theorem seqO_cons {α : Type} {x : Option α} {r : List (Option α)} {ws : List α} (h : seqO (x :: r) = some ws) : ∃ w t, x = some w ∧ seqO r = some t ∧ ws = w :: t := by
  unfold seqO at h
  split at h
  · rename_i y ys e2; cases h; exact ⟨y, ys, rfl, e2, rfl⟩
  · cases h
theorem seqO_mk {α : Type} {x : Option α} {r : List (Option α)} {w : α} {t : List α} (h1 : x = some w) (h2 : seqO r = some t) : seqO (x :: r) = some (w :: t) := by subst h1; unfold seqO; rw [h2]
theorem stab_ra (q : Bool) (cs : List ARV) (h : q = true ∨ ∀ c ∈ cs, c.flat = true) : Stab RA q cs := by
  induction cs with
  | nil => intro F S as ag x0 F' S' as' ag' x w e g nd hp hk; exact ⟨hp, fun c hc => by cases hc⟩
  | cons c r ih =>
    intro F S as ag x0 F' S' as' ag' x w e g nd hp hk
    have nd' : (fpS (as ++ ag) ++ (c.fp ++ (RA.fp r ++ x0))).Nodup := by
      rw [← List.append_assoc c.fp]; exact nd
    obtain ⟨w1, w2, e1, e2, rfl⟩ := seqO_cons hp
    have h1 := stab_re q c (h.imp id fun h => h c List.mem_cons_self) F S as ag x0 F' S' as' ag' x w1 e g (nd'.sublist (List.Sublist.append_left (List.Sublist.append_left (List.sublist_append_right _ _) _) _)) e1 (hk c List.mem_cons_self)
    have h2 := ih (h.imp id fun h c hc => h c (List.mem_cons_of_mem _ hc)) F S as ag x0 F' S' as' ag' x w2 e g (nd'.sublist (List.Sublist.append_left (List.sublist_append_right _ _) _)) e2 (fun c hc => hk c (List.mem_cons_of_mem _ hc))
    exact ⟨seqO_mk h1.1 h2.1, fun c' hc => by
      rcases List.mem_cons.mp hc with rfl | hc
      · exact h1.2
      · exact h2.2 c' hc⟩
theorem sim_next {α β γ α0 β0 γ0 α' β' γ' : Type} {R : RT α β γ} {R0 : RT α0 β0 γ0} {R' : RT α' β' γ'} {qb q' : Bool} {mb : AD → GL.Ls → Sto → GL.Out α} {pb : PX β} {f : AD → α → Sto → GL.Out α'} {k : β → Ls → Ls → Out β'} {L : AD → GL.Ls}
    (hb : SimX qb R mb pb) (g : Good F S as ag) (c0 : γ0) {w0 : α0} (hpv : R0.pv as ag c0 = some w0) (hok : R0.ok F S c0) (nd : (fpS (as ++ ag) ++ R0.fp c0).Nodup) (lt : ∀ n ∈ R0.fp c0, n < S.length) (st : Stab R0 qb c0) (hL : ∀ ad, L ad = glS as ag ad as)
    (hk : ∀ F' S' as' ag' c w, R0.pv as' ag' c0 = some w0 → R0.ok F' S' c0 → R.pv as' ag' c = some w → R.ok F' S' c → Good F' S' as' ag' → (fpS (as' ++ ag') ++ (R0.fp c0 ++ R.fp c)).Nodup → (∀ n ∈ R0.fp c0 ++ R.fp c, n < S'.length) → (∀ ad, L ad = glS as' ag' ad as') →
      SimO q' R' F' S' as' ag' (R0.fp c0 ++ R.fp c) (fun ad => f ad w S') (k (R.er c) (erS as') (erS ag'))) :
    SimO (qb && q') R' F S as ag (R0.fp c0) (fun ad => (mb ad (L ad) S).bind (f ad)) ((pb (erS as) (erS ag)).bind k) := by
  have hb := hb F S as ag g
  have hfr : ∀ {F' : FM} {S' : Sto} {as' ag' : List AV} {x : List Nat}, Ev qb F S as ag [] F' S' as' ag' x → Ev qb F S as ag (R0.fp c0) F' S' as' ag' (R0.fp c0 ++ x) := fun e => by
    have := e.frame (z := R0.fp c0) (by rw [List.append_nil]; exact nd) lt
    rwa [List.append_nil] at this
  cases hp : pb (erS as) (erS ag) with
  | bad => trivial
  | exc e ls gh =>
    rw [hp] at hb
    obtain ⟨F', S', as', ag', x, a1, a2, a3, a4, a5, a6⟩ := hb
    refine ⟨F', S', as', ag', x, a1, a2, a3, fun ad => ?_, a5, ((hfr a6).sub (List.nil_sublist _)).weak fun e => (Bool.and_eq_true_iff.mp e).1⟩
    show (mb ad (L ad) S).bind _ = _
    have a4' : mb ad (glS as ag ad as) S = _ := a4 ad
    rw [hL, a4']; rfl
  | ok b ls gh =>
    rw [hp] at hb
    obtain ⟨F', S', as', ag', c, w, rfl, rfl, rfl, a4, a5, a6, a7⟩ := hb
    have hst := st F S as ag [] F' S' as' ag' _ w0 a7 g (by rw [List.append_nil]; exact nd) hpv hok
    have e7 := hfr a7
    have h2 := hk F' S' as' ag' c w hst.1 hst.2 a5 a6 a7.good e7.nd e7.lt (fun ad => (hL ad).trans (a7.gl ad).symm)
    have h4 : ∀ ad, (mb ad (L ad) S).bind (f ad) = f ad w S' := fun ad => by
      have a4' : mb ad (glS as ag ad as) S = _ := a4 ad
      rw [hL, a4']; rfl
    show SimO _ _ _ _ _ _ _ _ (k (R.er c) (erS as') (erS ag'))
    cases hp : k (R.er c) (erS as') (erS ag') with
    | bad => trivial
    | exc e ls gh =>
      rw [hp] at h2
      obtain ⟨F2, S2, as2, ag2, x, b1, b2, b3, b4, b5, b6⟩ := h2
      exact ⟨F2, S2, as2, ag2, x, b1, b2, b3, fun ad => (h4 ad).trans (b4 ad), b5, e7.trans b6⟩
    | ok b ls gh =>
      rw [hp] at h2
      obtain ⟨F2, S2, as2, ag2, c2, w2, b1, b2, b3, b4, b5, b6, b7⟩ := h2
      exact ⟨F2, S2, as2, ag2, c2, w2, b1, b2, b3, fun ad => (h4 ad).trans (b4 ad), b5, b6, e7.trans b7⟩
def RU : RT Unit Unit Unit := ⟨id, fun _ _ _ => some (), fun _ _ _ => True, fun _ => []⟩
theorem stab_ru (q : Bool) : Stab RU q () := fun _ _ _ _ _ _ _ _ _ _ _ _ _ _ _ _ => ⟨rfl, trivial⟩
theorem sim_first {α β γ α' β' γ' : Type} {R : RT α β γ} {R' : RT α' β' γ'} {qb q' : Bool} {mb : AD → GL.Ls → Sto → GL.Out α} {pb : PX β} {f : AD → α → Sto → GL.Out α'} {k : β → Ls → Ls → Out β'} {L : AD → GL.Ls}
    (hb : SimX qb R mb pb) (g : Good F S as ag) (hL : ∀ ad, L ad = glS as ag ad as)
    (hk : ∀ F' S' as' ag' c w, R.pv as' ag' c = some w → R.ok F' S' c → Good F' S' as' ag' → (fpS (as' ++ ag') ++ R.fp c).Nodup → (∀ n ∈ R.fp c, n < S'.length) → (∀ ad, L ad = glS as' ag' ad as') →
      SimO q' R' F' S' as' ag' (R.fp c) (fun ad => f ad w S') (k (R.er c) (erS as') (erS ag'))) :
    SimO (qb && q') R' F S as ag [] (fun ad => (mb ad (L ad) S).bind (f ad)) ((pb (erS as) (erS ag)).bind k) :=
  sim_next (R0 := RU) hb g () (w0 := ()) rfl trivial (good_nd g) (fun _ h => by cases h) (stab_ru qb) hL fun F' S' as' ag' c w _ _ h3 h4 h5 h6 h7 h8 => hk F' S' as' ag' c w h3 h4 h5 (by simpa [RU] using h6) (by simpa [RU] using h7) h8
abbrev PE := PX RV
abbrev PT := PX Bool
abbrev PA := PX (List RV)
def mkR (d : D) (r : Rt) (p : List Nat) : RV := if d.shr = true then .v d else .pth r p
def eVar (i : Nat) : PE := fun ls gh => match ls[i]? with
  | some (some (.v d)) => .ok (mkR d (.l i) []) ls gh
  | some (some (.al r p)) => (match atD ls gh r p with
    | some d => .ok (mkR d r p) ls gh
    | none => .bad)
  | _ => .bad
theorem sim_mkR {q : Bool} {x0 : List Nat} (g : Good F S as ag) (nd : (fpS (as ++ ag) ++ x0).Nodup) (lt : ∀ n ∈ x0, n < S.length) {r : Rt} {p : List Nat} {a : A} (h : atA as ag r p = some a) {o : AD → GL.Out PV} (ho : ∀ ad, o ad = .ok a.pv S) :
    SimO q RE F S as ag x0 o (.ok (mkR a.er r p) (erS as) (erS ag)) := by
  unfold mkR
  rw [shr_er]
  cases hs : a.shr with
  | true =>
    have ok := at_ok g h
    exact sim_okE g nd lt (.v a) ho rfl rfl ok (by show (A.fp a).Sublist _; rw [fp_shr ok hs]; exact List.nil_sublist _)
  | false => exact sim_okE g nd lt (.pth r p) ho rfl (by show (atA as ag r p).map A.pv = _; rw [h]; rfl) trivial (List.nil_sublist _)
theorem sim_var (i : Nat) : SimE true (fun _ => GL.eVar i) (eVar i) := by
  intro F S as ag g
  unfold eVar
  simp only [erS, List.getElem?_map]
  cases hi : as[i]? with
  | none => trivial
  | some z =>
    have hgl : ∀ ad o, glv as ag ad z = some o → GL.eVar i (glS as ag ad as) S = .ok o S := fun ad o h => by
      unfold GL.eVar
      simp only [glS, List.getElem?_map, hi, Option.map_some, h]
    have hmem : z ∈ as ++ ag := List.mem_append_left _ (List.mem_of_getElem? hi)
    cases z with
    | v a =>
      exact sim_mkR g (good_nd g) (fun _ h => by cases h) (r := .l i) (p := []) (a := a) (by show (slotA as[i]?).bind _ = _; rw [hi]; rfl) (fun ad => hgl ad _ rfl)
    | al r p =>
      show SimO _ _ _ _ _ _ _ _ (match atD (erS as) (erS ag) r p with | some d => .ok (mkR d r p) (erS as) (erS ag) | none => .bad)
      rw [at_er]
      cases ha : atA as ag r p with
      | none => trivial
      | some a => exact sim_mkR g (good_nd g) (fun _ h => by cases h) ha (fun ad => hgl ad _ (by show (atA as ag r p).map A.pv = _; rw [ha]; rfl))
    | un o => trivial
    | io a => trivial
    | xn C ns xs => trivial
def eC (w : PV) : PE := fun ls gh => .ok (.v (dOf w)) ls gh
theorem sim_c {w : PV} (h : rig w = true) : SimE true (fun _ => GL.eC w) (eC w) := fun F S as ag g =>
  sim_okE g (good_nd g) (fun _ h => by cases h) (.v (aOf w)) (fun ad => by show GL.Out.ok w S = _; rw [aOf_pv h]) (by show RV.v (aOf w).er = _; rw [aOf_er]) rfl (aOf_fp w).2 (by show (A.fp _).Sublist _; rw [(aOf_fp (F := F) (S := S) w).1]; exact List.nil_sublist _)
abbrev G2 := RV → RV → PE
def eOp (g : G2) (a b : PE) : PE := fun ls gh => (a ls gh).bind fun x ls gh => (b ls gh).bind fun y ls gh => g x y ls gh
def RV.flat : RV → Bool
  | .v _ => true
  | .pth _ p => p.isEmpty
def SimG (q : Bool) (gg : PV → PV → Sto → GL.Out PV) (g : G2) : Prop := ∀ (F : FM) (S : Sto) (as ag : List AV) (c1 c2 : ARV) (w1 w2 : PV), Good F S as ag → (fpS (as ++ ag) ++ (c1.fp ++ c2.fp)).Nodup → (∀ n ∈ c1.fp ++ c2.fp, n < S.length) → c1.pv as ag = some w1 → c2.pv as ag = some w2 → c1.ok F S → c2.ok F S →
  SimO q RE F S as ag (c1.fp ++ c2.fp) (fun _ => gg w1 w2 S) (g c1.er c2.er (erS as) (erS ag))
section
variable {qa qb qg : Bool} {ma mb : AD → GL.ME} {pa pb : PE} {gg : PV → PV → Sto → GL.Out PV} {g : G2}
theorem sim_op (ha : SimE qa ma pa) (hb : SimE true mb pb) (hg : SimG true gg g) : SimE qa (fun ad => GL.eOp gg (ma ad) (mb ad)) (eOp g pa pb) := fun F S as ag gd =>
  SimO.weak (sim_first (q' := true && true) (k := fun x ls gh => (pb ls gh).bind fun y ls gh => g x y ls gh) (f := fun ad w1 S1 => (mb ad (glS as ag ad as) S1).bind fun w2 S2 => gg w1 w2 S2) ha gd (fun _ => rfl) fun F1 S1 as1 ag1 c1 w1 h1 h2 g1 n1 l1 L1 =>
    sim_next (R0 := RE) (k := fun y ls gh => g (RE.er c1) y ls gh) (f := fun ad w2 S2 => gg w1 w2 S2) hb g1 c1 h1 h2 n1 l1 (stab_re true c1 (.inl rfl)) L1 fun F2 S2 as2 ag2 c2 w2 h1 h2 h3 h4 g2 n2 l2 L2 => hg F2 S2 as2 ag2 c1 c2 w1 w2 g2 n2 l2 h1 h3 h2 h4) (by simp)
end
def aNil : PA := fun ls gh => .ok [] ls gh
def aCons (a : PE) (r : PA) : PA := fun ls gh => (a ls gh).bind fun x ls gh => (r ls gh).bind fun xs ls gh => .ok (x :: xs) ls gh
section
variable {qa qb : Bool} {ma : AD → GL.ME} {mr : AD → GL.MA} {pa : PE} {pr : PA}
theorem sim_anil : SimA true (fun _ => GL.aNil) aNil := fun F S as ag g =>
  sim_ok (R := RA) g (good_nd g) (fun _ h => by cases h) [] (fun _ => rfl) rfl rfl (fun c hc => by cases hc) (List.nil_sublist _)
theorem sim_acons (ha : SimE qa ma pa) (hr : SimA true mr pr) : SimA qa (fun ad => GL.aCons (ma ad) (mr ad)) (aCons pa pr) := fun F S as ag gd =>
  SimO.weak (sim_first (q' := true && true) (k := fun x ls gh => (pr ls gh).bind fun y ls gh => .ok (x :: y) ls gh) (f := fun ad w1 S1 => (mr ad (glS as ag ad as) S1).bind fun w2 S2 => .ok (w1 :: w2) S2) ha gd (fun _ => rfl) fun F1 S1 as1 ag1 c1 w1 h1 h2 g1 n1 l1 L1 =>
    sim_next (R0 := RE) (R := RA) (R' := RA) (k := fun y ls gh => .ok (RE.er c1 :: y) ls gh) (f := fun ad w2 S2 => .ok (w1 :: w2) S2) hr g1 c1 h1 h2 n1 l1 (stab_re true c1 (.inl rfl)) L1 fun F2 S2 as2 ag2 c2 w2 h1 h2 h3 h4 g2 n2 l2 L2 =>
      sim_ok (R := RA) g2 n2 l2 (c1 :: c2) (fun _ => rfl) rfl (seqO_mk h1 h3) (fun c hc => by
        rcases List.mem_cons.mp hc with rfl | hc
        · exact h2
        · exact h4 c hc) (List.Sublist.refl _)) (by simp)
end
end VL
set_option Elab.async false
set_option linter.all false
set_option maxRecDepth 100000
set_option maxHeartbeats 1000000
namespace VL
open GL (PV OB Sto Nm BT lim)
variable {F F' : FM} {S S' : Sto} {as as' ag ag' : List AV}
theorem Ev.perm {q : Bool} {x0 x0' x x' : List Nat} (e : Ev q F S as ag x0 F' S' as' ag' x) (h0 : x0.Perm x0') (h : x.Perm x') : Ev q F S as ag x0' F' S' as' ag' x' :=
  ⟨e.good, (List.Perm.nodup_iff (List.Perm.append_left _ h)).mp e.nd, fun n hn => e.lt n (h.mem_iff.mpr hn), e.mono, e.len, fun n hn hx => e.keep n hn fun h' => hx (by
    rcases List.mem_append.mp h' with t | t
    · exact List.mem_append_left _ t
    · exact List.mem_append_right _ (h0.mem_iff.mp t)), fun n hn => by
    rcases e.new n (by
      rcases List.mem_append.mp hn with t | t
      · exact List.mem_append_left _ t
      · exact List.mem_append_right _ (h.mem_iff.mpr t)) with t | t
    · left
      rcases List.mem_append.mp t with t | t
      · exact List.mem_append_left _ t
      · exact List.mem_append_right _ (h0.mem_iff.mp t)
    · exact .inr t, e.gl, e.gg, e.rt, e.per⟩
theorem SimO.pre {α β γ : Type} {R : RT α β γ} {q : Bool} {x0 x1 : List Nat} {o : AD → GL.Out α} {p : Out β} (e : Ev true F S as ag x0 F' S' as' ag' x1) (h : SimO q R F' S' as' ag' x1 o p) : SimO q R F S as ag x0 o p := by
  cases p with
  | bad => trivial
  | exc e' ls gh => obtain ⟨F2, S2, as2, ag2, x, b1, b2, b3, b4, b5, b6⟩ := h; exact ⟨F2, S2, as2, ag2, x, b1, b2, b3, b4, b5, (e.trans b6).weak fun h => by rw [h]; rfl⟩
  | ok b ls gh => obtain ⟨F2, S2, as2, ag2, c, w, b1, b2, b3, b4, b5, b6, b7⟩ := h; exact ⟨F2, S2, as2, ag2, c, w, b1, b2, b3, b4, b5, b6, (e.trans b7).weak fun h => by rw [h]; rfl⟩
theorem SimO.preF {α β γ : Type} {R : RT α β γ} {q : Bool} {x0 x1 : List Nat} {o : AD → GL.Out α} {p : Out β} (e : Ev false F S as ag x0 F' S' as' ag' x1) (h : SimO q R F' S' as' ag' x1 o p) : SimO false R F S as ag x0 o p := by
  cases p with
  | bad => trivial
  | exc e' ls gh => obtain ⟨F2, S2, as2, ag2, x, b1, b2, b3, b4, b5, b6⟩ := h; exact ⟨F2, S2, as2, ag2, x, b1, b2, b3, b4, b5, (e.trans b6).weak fun h => by cases h⟩
  | ok b ls gh => obtain ⟨F2, S2, as2, ag2, c, w, b1, b2, b3, b4, b5, b6, b7⟩ := h; exact ⟨F2, S2, as2, ag2, c, w, b1, b2, b3, b4, b5, b6, (e.trans b7).weak fun h => by cases h⟩
theorem ev_same {q : Bool} {x0 x1 : List Nat} (g : Good F S as ag) (nd0 : (fpS (as ++ ag) ++ x0).Nodup) (m : Mono F F') (fs : FS F' S') (len : S.length ≤ S'.length) (keep : ∀ n, n < S.length → n ∉ x0 → F' n = F n ∧ S'[n]? = S[n]?)
    (nd1 : x1.Nodup) (new : ∀ n ∈ x1, n ∈ x0 ∨ S.length ≤ n) (lt : ∀ n ∈ x1, n < S'.length) : Ev q F S as ag x0 F' S' as ag x1 := by
  have inS : ∀ z ∈ as ++ ag, ∀ n ∈ z.fp, n ∈ fpS (as ++ ag) := fun z h n hn => List.mem_flatMap.mpr ⟨z, h, hn⟩
  have dj : ∀ n ∈ fpS (as ++ ag), n ∉ x0 := fun n h h' => (List.nodup_append.mp nd0).2.2 n h n h' rfl
  have lt0 : ∀ n ∈ fpS (as ++ ag), n < S.length := fun n h => by
    obtain ⟨z, hz, hn⟩ := List.mem_flatMap.mp h
    have zok := g.ok z hz
    cases z with
    | v b => exact fp_lt g.fs zok n hn
    | io b => exact fp_lt g.fs zok n hn
    | _ => cases hn
  have ag1 : ∀ n ∈ fpS (as ++ ag), F' n = F n ∧ S'[n]? = S[n]? := fun n h => keep n (lt0 n h) (dj n h)
  refine ⟨⟨fs, fun z hz => ?_, g.nd, g.al⟩, List.nodup_append.mpr ⟨g.nd, nd1, fun n h k h' e => ?_⟩, lt, m, len, fun n hn hx => keep n hn fun h => hx (List.mem_append_right _ h), fun n h => ?_, fun _ => rfl, fun _ => rfl, fun _ _ h => h, fun _ _ _ _ h => h⟩
  · have zok := g.ok z hz
    cases z with
    | v b => exact ok_frame m (fun n hn => ag1 n (inS _ hz n hn)) zok
    | io b => exact ok_frame m (fun n hn => ag1 n (inS _ hz n hn)) zok
    | xn C ns xs =>
      have t : (A.tup xs).ok F' S' := ok_frame (a := .tup xs) m (by rw [A.fp, zok.1]; intro n hn'; cases hn') (show (A.tup xs).ok F S from zok)
      exact t
    | un o => trivial
    | al r p => trivial
  · subst e
    rcases new n h' with t | t
    · exact dj n h t
    · exact absurd (lt0 n h) (Nat.not_lt.mpr t)
  · rcases List.mem_append.mp h with t | t
    · exact .inl (List.mem_append_left _ t)
    · rcases new n t with u | u
      · exact .inl (List.mem_append_right _ u)
      · exact .inr u
theorem frF_mono {ns : List Nat} (h : ∀ n ∈ ns, F n = none) : Mono F (frF F S ns) := fun n b o e => by
  unfold frF
  split
  · rename_i hn; rw [h n hn] at e; cases e
  · exact e
theorem frF_fs {ns : List Nat} (fs : FS F S) : FS (frF F S ns) S := fun n b o e => by
  unfold frF at e
  split at e
  · obtain ⟨o', h, q⟩ := Option.map_eq_some_iff.mp e; cases q; exact .inl h
  · exact fs n b o e
def cvR (k : Bool) (x : RV) (ls gh : Ls) : Option (D × Ls × Ls) := match x with
  | .v d => if k = true then some (d, ls, gh) else (D.frz d).map fun e => (e, ls, gh)
  | .pth r p => match atD ls gh r p with
    | some d => if d.shr = true then some (d, ls, gh) else (match D.frz d with
      | some e => let z := chD (fun _ => true) r p e ls gh; some (e, z.1, z.2)
      | none => none)
    | none => none
theorem frz_sim {z : List Nat} (g : Good F S as ag) {a : A} {d : D} (nd : (fpS (as ++ ag) ++ (a.fp ++ z)).Nodup) (lt : ∀ n ∈ a.fp ++ z, n < S.length) (hk : a.ok F S) (h : D.frz a.er = some d) :
    a.frz.ok (frF F S a.fp) S ∧ a.frz.fp = [] ∧ a.frz.er = d ∧ Ev true F S as ag (a.fp ++ z) (frF F S a.fp) S as ag z := by
  have hm := frF_mono (S := S) (frz_none a h hk)
  have n1 := (List.nodup_append.mp (List.nodup_append.mp nd).2.1)
  refine ⟨frz_ok a h [] hm (fun n hn => by unfold frF; rw [if_pos hn]) hk, frz_fp a h hk, frz_er a h, ?_⟩
  exact ev_same g nd hm (frF_fs g.fs) (Nat.le_refl _) (fun n hn hx => ⟨by unfold frF; rw [if_neg fun h => hx (List.mem_append_left _ h)], rfl⟩) n1.2.1 (fun n hn => .inl (List.mem_append_right _ hn)) (fun n hn => lt n (List.mem_append_right _ hn))
theorem cv_sim {k : Bool} {z : List Nat} (g : Good F S as ag) {c : ARV} {w : PV} {d : D} {ls' gh' : Ls} (nd : (fpS (as ++ ag) ++ (c.fp ++ z)).Nodup) (lt : ∀ n ∈ c.fp ++ z, n < S.length) (hp : c.pv as ag = some w) (hk : c.ok F S) (h : cvR k c.er (erS as) (erS ag) = some (d, ls', gh')) :
    ∃ (F' : FM) (as' ag' : List AV) (a : A), erS as' = ls' ∧ erS ag' = gh' ∧ a.er = d ∧ a.pv = w ∧ a.ok F' S ∧ (k = false → a.fp = []) ∧ Ev true F S as ag (c.fp ++ z) F' S as' ag' (a.fp ++ z) := by
  cases c with
  | v a =>
    cases hp
    cases k with
    | true =>
      simp only [cvR, ARV.er, if_true, Option.some.injEq, Prod.mk.injEq] at h
      obtain ⟨rfl, rfl, rfl⟩ := h
      exact ⟨F, as, ag, a, rfl, rfl, rfl, rfl, hk, (fun e => by cases e), Ev.refl g nd lt⟩
    | false =>
      simp only [cvR, ARV.er, Bool.false_eq_true, if_false, Option.map_eq_some_iff, Prod.mk.injEq] at h
      obtain ⟨d', hd, rfl, rfl, rfl⟩ := h
      obtain ⟨h1, h2, h3, h4⟩ := frz_sim g nd lt hk hd
      exact ⟨_, as, ag, a.frz, rfl, rfl, h3, frz_pv a, h1, fun _ => h2, by rw [h2]; exact h4⟩
  | pth r p =>
    simp only [cvR, ARV.er] at h
    rw [at_er] at h
    cases hat : atA as ag r p with
    | none => rw [hat] at h; cases h
    | some a =>
      rw [hat] at h
      simp only [Option.map_some] at h
      have hw : a.pv = w := by simpa [ARV.pv, hat] using hp
      have aok := at_ok g hat
      rw [shr_er] at h
      cases hs : a.shr with
      | true =>
        rw [hs] at h
        simp only [if_true, Option.some.injEq, Prod.mk.injEq] at h
        obtain ⟨rfl, rfl, rfl⟩ := h
        have e0 := fp_shr aok hs
        exact ⟨F, as, ag, a, rfl, rfl, rfl, hw, aok, fun _ => e0, by rw [e0]; exact Ev.refl g nd lt⟩
      | false =>
        rw [hs] at h
        simp only [Bool.false_eq_true, if_false] at h
        cases hf : D.frz a.er with
        | none => rw [hf] at h; cases h
        | some e =>
          rw [hf] at h
          simp only [Option.some.injEq, Prod.mk.injEq] at h
          obtain ⟨rfl, h1, h2⟩ := h
          obtain ⟨root, hr, hx⟩ := at_split hat
          have hfe := frz_er a hf
          rw [← hfe, ← ch_er] at h1 h2
          have hm := frF_mono (S := S) (frz_none a hf aok)
          have fpz := frz_fp a hf aok
          refine ⟨frF F S a.fp, (chA (fun _ => true) r p a.frz as ag).1, (chA (fun _ => true) r p a.frz as ag).2, a.frz, h1, h2, hfe, by rw [frz_pv]; exact hw, frz_ok a hf [] hm (fun n hn => by unfold frF; rw [if_pos hn]) aok, fun _ => fpz, ?_⟩
          rw [fpz]
          have nz := (List.nodup_append.mp nd).2.1
          exact ev_ch (t := fun _ => true) (fun _ _ => rfl) g nd hr hx hs (frz_pv a) (fun p w _ => per_frz a hf p w trivial) hm (frF_fs g.fs) (Nat.le_refl _)
            (fun n hn hx => ⟨by unfold frF; rw [if_neg fun h => hx (List.mem_append_left _ h)], rfl⟩) (frz_ok a hf [] hm (fun n hn => by unfold frF; rw [if_pos hn]) aok) (by rw [fpz]; exact nz) (fun n hn => .inl (by rw [fpz] at hn; exact List.mem_append_right _ hn)) (fun n hn => lt n hn)
theorem cv_sim0 {k : Bool} (g : Good F S as ag) {c : ARV} {w : PV} {d : D} {ls' gh' : Ls} (nd : (fpS (as ++ ag) ++ c.fp).Nodup) (lt : ∀ n ∈ c.fp, n < S.length) (hp : c.pv as ag = some w) (hk : c.ok F S) (h : cvR k c.er (erS as) (erS ag) = some (d, ls', gh')) :
    ∃ (F' : FM) (as' ag' : List AV) (a : A), erS as' = ls' ∧ erS ag' = gh' ∧ a.er = d ∧ a.pv = w ∧ a.ok F' S ∧ (k = false → a.fp = []) ∧ Ev true F S as ag c.fp F' S as' ag' a.fp := by
  obtain ⟨F', as', ag', a, h1, h2, h3, h4, h5, h6, h7⟩ := cv_sim (z := []) g (by rw [List.append_nil]; exact nd) (by rw [List.append_nil]; exact lt) hp hk h
  rw [List.append_nil, List.append_nil] at h7
  exact ⟨F', as', ag', a, h1, h2, h3, h4, h5, h6, h7⟩
def cvL (k : Bool) : List RV → Ls → Ls → Option (List D × Ls × Ls)
  | [], ls, gh => some ([], ls, gh)
  | x :: r, ls, gh => match cvR k x ls gh with
    | some (d, ls, gh) => (match cvL k r ls gh with
      | some (ds, ls, gh) => some (d :: ds, ls, gh)
      | none => none)
    | none => none
theorem nd_sub {a b c : List Nat} (h : (a ++ (b ++ c)).Nodup) : (a ++ b).Nodup ∧ (a ++ c).Nodup ∧ (a ++ (c ++ b)).Nodup :=
  ⟨h.sublist (List.Sublist.append_left (List.sublist_append_left _ _) _), h.sublist (List.Sublist.append_left (List.sublist_append_right _ _) _), nodup_app_comm3 h⟩
theorem cvL_sim {k : Bool} : ∀ {cs : List ARV} {F : FM} {as ag : List AV} {ws : List PV} {ds : List D} {ls' gh' : Ls}, Good F S as ag → (fpS (as ++ ag) ++ RA.fp cs).Nodup → (∀ n ∈ RA.fp cs, n < S.length) → RA.pv as ag cs = some ws → RA.ok F S cs →
    cvL k (cs.map ARV.er) (erS as) (erS ag) = some (ds, ls', gh') →
    ∃ (F' : FM) (as' ag' : List AV) (xs : List A), erS as' = ls' ∧ erS ag' = gh' ∧ A.ers xs = ds ∧ A.pvs xs = ws ∧ A.oks F' S xs ∧ (k = false → A.fps xs = []) ∧ Ev true F S as ag (RA.fp cs) F' S as' ag' (A.fps xs)
  | [], F, as, ag, ws, ds, ls', gh', g, nd, lt, hp, hk, h => by
    simp only [List.map_nil, cvL, Option.some.injEq, Prod.mk.injEq] at h
    obtain ⟨rfl, rfl, rfl⟩ := h
    cases hp
    exact ⟨F, as, ag, [], rfl, rfl, rfl, rfl, trivial, fun _ => rfl, Ev.refl g nd lt⟩
  | c :: r, F, as, ag, ws, ds, ls', gh', g, nd, lt, hp, hk, h => by
    obtain ⟨w, ws, hw, hws, rfl⟩ := seqO_cons hp
    simp only [List.map_cons, cvL] at h
    cases h1 : cvR k c.er (erS as) (erS ag) with
    | none => rw [h1] at h; cases h
    | some t =>
      obtain ⟨d, l1, g1⟩ := t
      rw [h1] at h
      dsimp only at h
      have e0 : RA.fp (c :: r) = c.fp ++ RA.fp r := rfl
      rw [e0] at nd lt ⊢
      obtain ⟨n1, n2, n3⟩ := nd_sub nd
      obtain ⟨F1, as1, ag1, a, rfl, rfl, rfl, rfl, aok, afp, ev⟩ := cv_sim0 g n1 (fun n h => lt n (List.mem_append_left _ h)) hw (hk c List.mem_cons_self) h1
      cases h2 : cvL k (r.map ARV.er) (erS as1) (erS ag1) with
      | none => rw [h2] at h; cases h
      | some t2 =>
        obtain ⟨ds2, l2, g2⟩ := t2
        rw [h2] at h
        simp only [Option.some.injEq, Prod.mk.injEq] at h
        obtain ⟨rfl, rfl, rfl⟩ := h
        have st := stab_ra true r (.inl rfl) F S as ag _ F1 S as1 ag1 _ ws ev g n3 hws (fun c hc => hk c (List.mem_cons_of_mem _ hc))
        have evf := (ev.frame n3 (fun n h => lt n (List.mem_append_right _ h))).perm List.perm_append_comm List.perm_append_comm
        obtain ⟨m1, m2, m3⟩ := nd_sub evf.nd
        obtain ⟨F2, as2, ag2, xs, rfl, rfl, rfl, rfl, xok, xfp, ev2⟩ := cvL_sim evf.good m2 (fun n h => evf.lt n (List.mem_append_right _ h)) st.1 st.2 h2
        refine ⟨F2, as2, ag2, a :: xs, rfl, rfl, rfl, rfl, ⟨ev2.stay (z := a) aok evf.nd evf.good.fs, xok⟩, fun e => ?_, evf.trans (ev2.frame evf.nd (fun n h => evf.lt n (List.mem_append_left _ h)))⟩
        show A.fp a ++ A.fps xs = []
        rw [afp e, xfp e]; rfl
theorem sim_alloc {q : Bool} {x0 : List Nat} (g : Good F S as ag) (nd : (fpS (as ++ ag) ++ x0).Nodup) (lt : ∀ n ∈ x0, n < S.length) (h : Hd) (xs : List A) (hw : h.wf xs.length = true) (ok : A.oks F S xs) (sub : (A.fps xs).Sublist x0) {o : AD → GL.Out PV} (ho : ∀ ad, o ad = .ok (.loc S.length) (S ++ [mkO h (A.pvs xs)])) :
    SimO q RE F S as ag x0 o (.ok (.v (.nd .ow h (A.ers xs))) (erS as) (erS ag)) := by
  have hF : F S.length = none := by
    cases hf : F S.length with
    | none => rfl
    | some z =>
      obtain ⟨b, o⟩ := z
      have := (g.fs _ _ _ hf).lt
      omega
  have gr : ∀ n, n < S.length → (S ++ [mkO h (A.pvs xs)])[n]? = S[n]? := fun n hn => List.getElem?_append_left hn
  have fs : FS F (S ++ [mkO h (A.pvs xs)]) := fun n b o e => by
    have := g.fs n b o e
    exact this.to (gr n this.lt)
  have lx : ∀ n ∈ A.fps xs, n < S.length := fun n hn => lt n (sub.subset hn)
  have ok' : A.oks F (S ++ [mkO h (A.pvs xs)]) xs := by
    rw [oks_iff] at ok ⊢
    exact fun x hx => ok_frame Mono.refl (fun n hn => ⟨rfl, gr n (lx n (by rw [fps_map]; exact List.mem_flatMap.mpr ⟨x, hx, hn⟩))⟩) (ok x hx)
  refine ⟨F, _, as, ag, .v (.nd .ow S.length h xs), .loc S.length, rfl, rfl, rfl, ho, rfl, ?_, ?_⟩
  · show A.ok _ _ _
    simp only [A.ok]
    exact ⟨⟨hF, by rw [List.getElem?_append_right (Nat.le_refl _)]; simp⟩, hw, ok'⟩
  · show Ev q F S as ag x0 F _ as ag (S.length :: A.fps xs)
    refine ev_same g nd Mono.refl fs (by simp) (fun n hn _ => ⟨rfl, gr n hn⟩) ?_ ?_ ?_
    · exact List.nodup_cons.mpr ⟨fun h => absurd (lx _ h) (Nat.lt_irrefl _), ((List.nodup_append.mp nd).2.1).sublist sub⟩
    · intro n hn
      rcases List.mem_cons.mp hn with rfl | h
      · exact .inr (Nat.le_refl _)
      · exact .inl (sub.subset h)
    · intro n hn
      rw [List.length_append, List.length_singleton]
      rcases List.mem_cons.mp hn with rfl | h
      · omega
      · have := lx n h; omega
def eTup (m : PA) : PE := fun ls gh => (m ls gh).bind fun xs ls gh => match cvL false xs ls gh with
  | some (ds, ls, gh) => if ds.length ≤ lim then .ok (.v (.tup ds)) ls gh else .bad
  | none => .bad
def eLst (m : PA) : PE := fun ls gh => (m ls gh).bind fun xs ls gh => match cvL true xs ls gh with
  | some (ds, ls, gh) => if ds.length ≤ lim then .ok (.v (.nd .ow .lst ds)) ls gh else .bad
  | none => .bad
theorem pvs_len (xs : List A) : (A.pvs xs).length = xs.length := by rw [pvs_map, List.length_map]
theorem ers_len (xs : List A) : (A.ers xs).length = xs.length := by rw [ers_map, List.length_map]
section
variable {q : Bool} {mr : AD → GL.MA} {pr : PA}
theorem sim_tup (h : SimA q mr pr) : SimE q (fun ad => GL.eTup (mr ad)) (eTup pr) := fun F S as ag gd =>
  SimO.weak (sim_first (R' := RE) (q' := true) (k := fun xs ls gh => match cvL false xs ls gh with
    | some (ds, ls, gh) => if ds.length ≤ lim then .ok (.v (.tup ds)) ls gh else .bad
    | none => .bad) (f := fun ad ws S1 => if ws.length ≤ lim then .ok (.tup ws) S1 else .bad) h gd (fun _ => rfl) fun F1 S1 as1 ag1 cs ws h1 h2 g1 n1 l1 L1 => by
    cases hc : cvL false (RA.er cs) (erS as1) (erS ag1) with
    | none => simp only [hc]; trivial
    | some t =>
      obtain ⟨ds, l2, g2⟩ := t
      obtain ⟨F2, as2, ag2, xs, rfl, rfl, rfl, rfl, xok, xfp, ev⟩ := cvL_sim g1 n1 l1 h1 h2 hc
      simp only [hc]
      by_cases hl : (A.ers xs).length ≤ lim
      · have hl2 : (A.pvs xs).length ≤ lim := by rw [pvs_len, ← ers_len]; exact hl
        rw [if_pos hl]
        simp only [if_pos hl2]
        refine SimO.pre ev ?_
        refine sim_okE ev.good ev.nd ev.lt (.v (.tup xs)) (fun _ => rfl) rfl rfl ⟨xfp rfl, xok⟩ ?_
        show (A.fps xs).Sublist _
        rw [xfp rfl]; exact List.Sublist.refl _
      · rw [if_neg hl]; trivial) (by simp)
theorem sim_lst (h : SimA q mr pr) : SimE q (fun ad => GL.eLst (mr ad)) (eLst pr) := fun F S as ag gd =>
  SimO.weak (sim_first (R' := RE) (q' := true) (k := fun xs ls gh => match cvL true xs ls gh with
    | some (ds, ls, gh) => if ds.length ≤ lim then .ok (.v (.nd .ow .lst ds)) ls gh else .bad
    | none => .bad) (f := fun ad ws S1 => if ws.length ≤ lim then .ok (.loc S1.length) (S1 ++ [.lst ws]) else .bad) h gd (fun _ => rfl) fun F1 S1 as1 ag1 cs ws h1 h2 g1 n1 l1 L1 => by
    cases hc : cvL true (RA.er cs) (erS as1) (erS ag1) with
    | none => simp only [hc]; trivial
    | some t =>
      obtain ⟨ds, l2, g2⟩ := t
      obtain ⟨F2, as2, ag2, xs, rfl, rfl, rfl, rfl, xok, xfp, ev⟩ := cvL_sim g1 n1 l1 h1 h2 hc
      simp only [hc]
      by_cases hl : (A.ers xs).length ≤ lim
      · have hl2 : (A.pvs xs).length ≤ lim := by rw [pvs_len, ← ers_len]; exact hl
        rw [if_pos hl]
        simp only [if_pos hl2]
        refine SimO.pre ev ?_
        exact sim_alloc ev.good ev.nd ev.lt .lst xs rfl xok (List.Sublist.refl _) (fun _ => rfl)
      · rw [if_neg hl]; trivial) (by simp)
end
end VL
set_option Elab.async false
set_option linter.all false
set_option maxRecDepth 100000
set_option maxHeartbeats 1000000
namespace VL
open GL (PV OB Sto Nm BT lim)
open PySem (PyData Builtin)
variable {F F' : FM} {S S' : Sto} {as as' ag ag' : List AV}
theorem er_v {c : ARV} {d : D} (h : c.er = .v d) {w : PV} (hp : c.pv as ag = some w) : ∃ a, c = .v a ∧ a.er = d ∧ a.pv = w := by
  cases c with
  | v a => cases h; cases hp; exact ⟨a, rfl, rfl, rfl⟩
  | pth r p => cases h
theorem er_sc {a : A} {s : Sc} (h : a.er = .sc s) : a = .sc s := by
  cases a with
  | sc t => simp only [A.er, D.sc.injEq] at h; rw [h]
  | tup xs => simp [A.er] at h
  | nd k n hd xs => simp [A.er] at h
theorem er_tup {a : A} {xs : List D} (h : a.er = .tup xs) : ∃ ys, a = .tup ys ∧ A.ers ys = xs := by
  cases a with
  | sc t => simp [A.er] at h
  | tup ys => simp only [A.er, D.tup.injEq] at h; exact ⟨ys, rfl, h⟩
  | nd k n hd xs => simp [A.er] at h
theorem er_nd {a : A} {k : Fl} {hd : Hd} {xs : List D} (h : a.er = .nd k hd xs) : ∃ n ys, a = .nd k n hd ys ∧ A.ers ys = xs := by
  cases a with
  | sc t => simp [A.er] at h
  | tup ys => simp [A.er] at h
  | nd k n hd ys => simp only [A.er, D.nd.injEq] at h; obtain ⟨rfl, rfl, h⟩ := h; exact ⟨n, ys, rfl, h⟩
theorem er_vsc {c : ARV} {s : Sc} (h : c.er = .v (.sc s)) {w : PV} (hp : c.pv as ag = some w) : w = s.pv := by
  obtain ⟨a, rfl, e, rfl⟩ := er_v h hp
  rw [er_sc e]; rfl
def gInt (g : Int → Int → Int) : G2 := fun x y ls gh => match x, y with
  | .v (.sc (.int i)), .v (.sc (.int j)) => .ok (.v (.int (g i j))) ls gh
  | _, _ => .bad
def gIntC (c : Int → Int → Bool) (g : Int → Int → Int) : G2 := fun x y ls gh => match x, y with
  | .v (.sc (.int i)), .v (.sc (.int j)) => if c i j = true then .ok (.v (.int (g i j))) ls gh else .bad
  | _, _ => .bad
def gCmpI (g : Int → Int → Bool) : G2 := fun x y ls gh => match x, y with
  | .v (.sc (.int i)), .v (.sc (.int j)) => .ok (.v (.bl (g i j))) ls gh
  | _, _ => .bad
abbrev gSub : G2 := gInt fun i j => i - j
abbrev gDiv : G2 := gIntC GL.cDiv fun i j => i / j
abbrev gMod : G2 := gIntC GL.cMod fun i j => i % j
abbrev gLt : G2 := gCmpI fun i j => decide (i < j)
theorem sim_gInt (f : Int → Int → Int) : SimG true (GL.gInt f) (gInt f) := by
  intro F S as ag c1 c2 w1 w2 g nd lt h1 h2 k1 k2
  unfold gInt
  split
  · rename_i i j e1 e2
    rw [er_vsc e1 h1, er_vsc e2 h2]
    exact sim_sc g nd lt (.int (f i j)) (fun _ => rfl)
  · trivial
theorem sim_gIntC (c : Int → Int → Bool) (f : Int → Int → Int) : SimG true (GL.gIntC c f) (gIntC c f) := by
  intro F S as ag c1 c2 w1 w2 g nd lt h1 h2 k1 k2
  unfold gIntC
  split
  · rename_i i j e1 e2
    rw [er_vsc e1 h1, er_vsc e2 h2]
    by_cases hc : c i j = true
    · rw [if_pos hc]
      exact sim_sc g nd lt (.int (f i j)) (fun _ => by simp [GL.gIntC, Sc.pv, hc])
    · rw [if_neg hc]; trivial
  · trivial
theorem sim_gCmpI (f : Int → Int → Bool) : SimG true (GL.gCmpI f) (gCmpI f) := by
  intro F S as ag c1 c2 w1 w2 g nd lt h1 h2 k1 k2
  unfold gCmpI
  split
  · rename_i i j e1 e2
    rw [er_vsc e1 h1, er_vsc e2 h2]
    exact sim_sc g nd lt (.bl (f i j)) (fun _ => rfl)
  · trivial
theorem sim_gSub : SimG true GL.gSub gSub := sim_gInt _
theorem sim_gDiv : SimG true GL.gDiv gDiv := sim_gIntC _ _
theorem sim_gMod : SimG true GL.gMod gMod := sim_gIntC _ _
theorem sim_gLt : SimG true GL.gLt gLt := sim_gCmpI _
def shrK (x : RV) (xs : List D) : Option (List D) := if xs.all D.shr = true then some xs else match x with
  | .v _ => D.frzs xs
  | .pth _ _ => none
theorem all_shr {xs : List A} (h : (A.ers xs).all D.shr = true) : ∀ x ∈ xs, x.shr = true := by
  rw [ers_map, List.all_map, List.all_eq_true] at h
  exact fun x hx => by have := h x hx; simpa [shr_er] using this
theorem fps_shr {xs : List A} (h : ∀ x ∈ xs, x.shr = true) (ok : A.oks F S xs) : A.fps xs = [] := by
  rw [fps_map, List.flatMap_eq_nil_iff]
  exact fun x hx => fp_shr ((oks_iff xs).mp ok x hx) (h x hx)
theorem shrK_sim (g : Good F S as ag) {c : ARV} {ks : List A} {ds : List D} (nd : (fpS (as ++ ag) ++ c.fp).Nodup) (lt : ∀ n ∈ c.fp, n < S.length) (hk : A.oks F S ks) (hc : ∀ d, c.er = .v d → ∀ n ∈ A.fps ks, n ∈ c.fp) (h : shrK c.er (A.ers ks) = some ds) :
    ∃ (F' : FM) (zs : List A), A.ers zs = ds ∧ A.pvs zs = A.pvs ks ∧ A.fps zs = [] ∧ A.oks F' S zs ∧ Ev true F S as ag c.fp F' S as ag [] := by
  unfold shrK at h
  by_cases ha : (A.ers ks).all D.shr = true
  · rw [if_pos ha] at h
    cases h
    exact ⟨F, ks, rfl, rfl, fps_shr (all_shr ha) hk, hk, (Ev.refl g nd lt).sub (List.nil_sublist _)⟩
  · rw [if_neg ha] at h
    cases c with
    | pth r p => cases h
    | v a =>
      simp only [ARV.er] at h
      obtain ⟨l, q⟩ := (dfrzs_iff _ _).mp h
      have each : ∀ x ∈ ks, ∃ d, D.frz x.er = some d := fun x hx => by
        obtain ⟨i, hi⟩ := List.getElem?_of_mem hx
        obtain ⟨y, _, b⟩ := q i x.er (by rw [ers_map, List.getElem?_map, hi]; rfl)
        exact ⟨y, b⟩
      have hn : ∀ n ∈ A.fps ks, F n = none := fun n hn => by
        rw [fps_map] at hn
        obtain ⟨x, hx, hn⟩ := List.mem_flatMap.mp hn
        obtain ⟨d, hd⟩ := each x hx
        exact frz_none x hd ((oks_iff ks).mp hk x hx) n hn
      have hm := frF_mono (S := S) hn
      refine ⟨frF F S (A.fps ks), A.frzs ks, ?_, frzs_pvs ks, ?_, ?_, ?_⟩
      · apply List.ext_getElem?
        intro i
        rw [ers_map, frzs_map, List.map_map, List.getElem?_map]
        rw [ers_map] at l q
        cases hx : ks[i]? with
        | none =>
          rw [List.getElem?_eq_none_iff] at hx
          exact (List.getElem?_eq_none_iff.mpr (by rw [l, List.length_map]; exact hx)).symm
        | some x =>
          obtain ⟨y, a, b⟩ := q i x.er (by rw [List.getElem?_map, hx]; rfl)
          rw [a, Option.map_some, Function.comp, frz_er x b]
      · rw [fps_map, frzs_map, List.flatMap_map, List.flatMap_eq_nil_iff]
        intro x hx
        obtain ⟨d, hd⟩ := each x hx
        exact frz_fp x hd ((oks_iff ks).mp hk x hx)
      · rw [oks_iff, frzs_map]
        intro y hy
        obtain ⟨x, hx, rfl⟩ := List.mem_map.mp hy
        obtain ⟨d, hd⟩ := each x hx
        exact frz_ok x hd [] hm (fun n hn => by unfold frF; rw [if_pos (by rw [fps_map]; exact List.mem_flatMap.mpr ⟨x, hx, hn⟩)]) ((oks_iff ks).mp hk x hx)
      · exact ev_same g nd hm (frF_fs g.fs) (Nat.le_refl _) (fun n _ hx => ⟨by unfold frF; rw [if_neg fun h => hx (hc _ rfl n h)], rfl⟩) List.nodup_nil (fun n hn => by cases hn) (fun n hn => by cases hn)
inductive Kd where
  | lst | rol | tup
  deriving DecidableEq
def seqD : D → Option (Kd × List D)
  | .tup xs => some (.tup, xs)
  | .nd _ .lst xs => some (.lst, xs)
  | .nd _ .rol xs => some (.rol, xs)
  | _ => none
def seqV (x : RV) (ls gh : Ls) : Option (Kd × List D) := (val x ls gh).bind seqD
def SeqG (S : Sto) : Kd → PV → List PV → Prop
  | .tup, w, ws => w = .tup ws
  | .lst, w, ws => ∃ n, w = .loc n ∧ S[n]? = some (.lst ws)
  | .rol, w, ws => ∃ n, w = .loc n ∧ S[n]? = some (.rol ws)
theorem seqV_er {c : ARV} {k : Kd} {ds : List D} (h : seqV c.er (erS as) (erS ag) = some (k, ds)) {w : PV} (hp : c.pv as ag = some w) (g : Good F S as ag) (hk : c.ok F S) :
    ∃ ks : List A, A.ers ks = ds ∧ SeqG S k w (A.pvs ks) ∧ A.oks F S ks ∧ (∀ d, c.er = .v d → ∀ n ∈ A.fps ks, n ∈ c.fp) ∧ (k = .tup → A.fps ks = []) ∧
      ((∃ a, c = .v a ∧ a.kids = ks) ∨ ∃ r p a, c = .pth r p ∧ atA as ag r p = some a ∧ a.kids = ks) := by
  obtain ⟨d, e1, e2⟩ := Option.bind_eq_some_iff.mp h
  obtain ⟨a, rfl, rfl, aok, hc⟩ := val_er c e1 hp g hk
  have key : ∀ ks : List A, a.kids = ks → ((∃ a, c = .v a ∧ a.kids = ks) ∨ ∃ r p a, c = .pth r p ∧ atA as ag r p = some a ∧ a.kids = ks) := fun ks hks => by
    rcases hc with rfl | ⟨r, p, rfl, h'⟩
    · exact .inl ⟨a, rfl, hks⟩
    · exact .inr ⟨r, p, a, rfl, h', hks⟩
  have fpk : ∀ d, c.er = .v d → ∀ n ∈ A.fps a.kids, n ∈ c.fp := fun d hd n hn => by
    rcases hc with rfl | ⟨r, p, rfl, h⟩
    · show n ∈ a.fp
      cases a with
      | sc s => simp [A.kids, A.fps] at hn
      | tup xs => exact hn
      | nd k m hd xs => cases k <;> simp_all [A.fp, A.kids]
    · cases hd
  cases a with
  | sc s => simp [A.er, seqD] at e2
  | tup xs =>
    simp only [A.er, seqD, Option.some.injEq, Prod.mk.injEq] at e2
    obtain ⟨rfl, rfl⟩ := e2
    simp only [A.ok] at aok
    exact ⟨xs, rfl, rfl, aok.2, fpk, fun _ => aok.1, key xs rfl⟩
  | nd k n hd xs =>
    have ob := obj_of g.fs aok
    cases hd with
    | lst =>
      simp only [A.er, seqD, Option.some.injEq, Prod.mk.injEq] at e2
      obtain ⟨rfl, rfl⟩ := e2
      exact ⟨xs, rfl, ⟨n, rfl, ob.lst⟩, ok_kids aok, fpk, (fun e => by cases e), key xs rfl⟩
    | rol =>
      simp only [A.er, seqD, Option.some.injEq, Prod.mk.injEq] at e2
      obtain ⟨rfl, rfl⟩ := e2
      exact ⟨xs, rfl, ⟨n, rfl, ob.rol⟩, ok_kids aok, fpk, (fun e => by cases e), key xs rfl⟩
    | dct ks => simp [A.er, seqD] at e2
    | dcn ks => simp [A.er, seqD] at e2
    | ptp => simp [A.er, seqD] at e2
    | ins C ns => simp [A.er, seqD] at e2
def lstK (x : RV) (ls gh : Ls) : Option (List D) := match seqV x ls gh with
  | some (.lst, xs) => shrK x xs
  | _ => none
theorem lstK_sim (g : Good F S as ag) {c : ARV} {ds : List D} {w : PV} (nd : (fpS (as ++ ag) ++ c.fp).Nodup) (lt : ∀ n ∈ c.fp, n < S.length) (hp : c.pv as ag = some w) (hk : c.ok F S) (h : lstK c.er (erS as) (erS ag) = some ds) :
    ∃ (F' : FM) (zs : List A) (n : Nat), A.ers zs = ds ∧ w = .loc n ∧ S[n]? = some (.lst (A.pvs zs)) ∧ A.fps zs = [] ∧ A.oks F' S zs ∧ Ev true F S as ag c.fp F' S as ag [] := by
  unfold lstK at h
  split at h
  · rename_i xs e
    obtain ⟨ks, rfl, ⟨n, rfl, hs⟩, ok, fpk, _, _⟩ := seqV_er e hp g hk
    obtain ⟨F', zs, h1, h2, h3, h4, h5⟩ := shrK_sim g nd lt ok fpk h
    exact ⟨F', zs, n, h1, rfl, by rw [h2]; exact hs, h3, h4, h5⟩
  · cases h
def gAdd : G2 := fun x y ls gh => match x, y with
  | .v (.sc (.int i)), .v (.sc (.int j)) => .ok (.v (.int (i + j))) ls gh
  | .v (.sc (.str a)), .v (.sc (.str b)) => if a.length + b.length ≤ lim then .ok (.v (.str (a ++ b))) ls gh else .bad
  | .v (.tup a), .v (.tup b) => if a.length + b.length ≤ lim then .ok (.v (.tup (a ++ b))) ls gh else .bad
  | x, y => match lstK x ls gh, lstK y ls gh with
    | some a, some b => if a.length + b.length ≤ lim then .ok (.v (.nd .ow .lst (a ++ b))) ls gh else .bad
    | _, _ => .bad
theorem ers_app (xs ys : List A) : A.ers (xs ++ ys) = A.ers xs ++ A.ers ys := by simp [ers_map]
theorem pvs_app (xs ys : List A) : A.pvs (xs ++ ys) = A.pvs xs ++ A.pvs ys := by simp [pvs_map]
theorem fps_app (xs ys : List A) : A.fps (xs ++ ys) = A.fps xs ++ A.fps ys := by simp [fps_map]
theorem oks_app {xs ys : List A} (h1 : A.oks F S xs) (h2 : A.oks F S ys) : A.oks F S (xs ++ ys) := by
  rw [oks_iff] at *
  intro x hx
  rcases List.mem_append.mp hx with h | h
  · exact h1 x h
  · exact h2 x h
theorem oks_mono {xs : List A} (m : Mono F F') (h : A.oks F S xs) (e : A.fps xs = []) : A.oks F' S' xs := by
  rw [oks_iff] at *
  exact fun x hx => ok_frame m (fun n hn => by
    have : n ∈ A.fps xs := by rw [fps_map]; exact List.mem_flatMap.mpr ⟨x, hx, hn⟩
    rw [e] at this; cases this) (h x hx)
theorem lstAt_of {S : Sto} {n : Nat} {xs : List PV} (h : S[n]? = some (.lst xs)) : GL.lstAt S n = some xs := by unfold GL.lstAt; rw [h]
theorem seqAt_of {S : Sto} {n : Nat} {xs : List PV} (h : S[n]? = some (.lst xs)) : GL.seqAt S n = some xs := by unfold GL.seqAt; rw [h]
theorem seqAt_of' {S : Sto} {n : Nat} {xs : List PV} (h : S[n]? = some (.rol xs)) : GL.seqAt S n = some xs := by unfold GL.seqAt; rw [h]
theorem two_lists (g : Good F S as ag) {c1 c2 : ARV} {a b : List D} {w1 w2 : PV} (nd : (fpS (as ++ ag) ++ (c1.fp ++ c2.fp)).Nodup) (lt : ∀ n ∈ c1.fp ++ c2.fp, n < S.length) (h1 : c1.pv as ag = some w1) (h2 : c2.pv as ag = some w2) (k1 : c1.ok F S) (k2 : c2.ok F S)
    (e1 : lstK c1.er (erS as) (erS ag) = some a) (e2 : lstK c2.er (erS as) (erS ag) = some b) :
    ∃ (F' : FM) (ys zs : List A) (n m : Nat), A.ers ys = a ∧ A.ers zs = b ∧ w1 = .loc n ∧ w2 = .loc m ∧ S[n]? = some (.lst (A.pvs ys)) ∧ S[m]? = some (.lst (A.pvs zs)) ∧ A.fps ys = [] ∧ A.fps zs = [] ∧ A.oks F' S ys ∧ A.oks F' S zs ∧ Ev true F S as ag (c1.fp ++ c2.fp) F' S as ag [] := by
  obtain ⟨n1, n2, n3⟩ := nd_sub nd
  obtain ⟨F1, ys, n, r1, rfl, r3, r4, r5, ev1⟩ := lstK_sim g n1 (fun n h => lt n (List.mem_append_left _ h)) h1 k1 e1
  have ev1f := (ev1.frame n3 (fun n h => lt n (List.mem_append_right _ h))).perm List.perm_append_comm List.perm_append_comm
  have k2' := (stab_re true c2 (.inl rfl) _ _ _ _ _ _ _ _ _ _ _ ev1 g n3 h2 k2)
  obtain ⟨F2, zs, m, s1, rfl, s3, s4, s5, ev2⟩ := lstK_sim ev1.good (by simpa using ev1f.nd) (fun n h => ev1f.lt n (by simpa using h)) k2'.1 k2'.2 e2
  refine ⟨F2, ys, zs, n, m, r1, s1, rfl, rfl, r3, s3, r4, s4, oks_mono ev2.mono r5 r4, s5, ?_⟩
  have := ev1f.trans (by simpa using ev2)
  simpa using this
theorem sim_gAdd : SimG true GL.gAdd gAdd := by
  intro F S as ag c1 c2 w1 w2 g nd lt h1 h2 k1 k2
  unfold gAdd
  split
  · rename_i i j e1 e2
    rw [er_vsc e1 h1, er_vsc e2 h2]
    exact sim_sc g nd lt (.int (i + j)) (fun _ => rfl)
  · rename_i a b e1 e2
    rw [er_vsc e1 h1, er_vsc e2 h2]
    by_cases hl : a.length + b.length ≤ lim
    · rw [if_pos hl]
      exact sim_sc g nd lt (.str (a ++ b)) (fun _ => by simp only [GL.gAdd, Sc.pv, if_pos hl])
    · rw [if_neg hl]; trivial
  · rename_i a b e1 e2
    obtain ⟨x, rfl, ex, rfl⟩ := er_v e1 h1
    obtain ⟨y, rfl, ey, rfl⟩ := er_v e2 h2
    obtain ⟨xs, rfl, rfl⟩ := er_tup ex
    obtain ⟨ys, rfl, rfl⟩ := er_tup ey
    rw [ers_len, ers_len]
    by_cases hl : xs.length + ys.length ≤ lim
    · rw [if_pos hl]
      have p1 : A.fps xs = [] ∧ A.oks F S xs := k1
      have p2 : A.fps ys = [] ∧ A.oks F S ys := k2
      refine sim_okE g nd lt (.v (.tup (xs ++ ys))) (fun _ => ?_) (by simp [ARV.er, A.er, ers_app]) rfl ⟨by rw [fps_app, p1.1, p2.1]; rfl, oks_app p1.2 p2.2⟩ (by show (A.fps _).Sublist _; rw [fps_app, p1.1, p2.1]; exact List.nil_sublist _)
      simp only [GL.gAdd, A.pv, pvs_len, if_pos hl, pvs_app]
    · rw [if_neg hl]; trivial
  · split
    · rename_i a b e1 e2
      obtain ⟨F', ys, zs, n, m, rfl, rfl, rfl, rfl, s1, s2, f1, f2, o1, o2, ev⟩ := two_lists g nd lt h1 h2 k1 k2 e1 e2
      rw [ers_len, ers_len]
      by_cases hl : ys.length + zs.length ≤ lim
      · rw [if_pos hl, ← ers_app]
        refine SimO.pre ev ?_
        refine sim_alloc ev.good ev.nd ev.lt .lst (ys ++ zs) rfl (oks_app o1 o2) (by rw [fps_app, f1, f2]; exact List.nil_sublist _) (fun _ => ?_)
        simp only [GL.gAdd, lstAt_of s1, lstAt_of s2, pvs_len, if_pos hl, mkO, pvs_app]
      · rw [if_neg hl]; trivial
    · trivial
def scalD : D → D → Option Bool
  | .sc (.int i), .sc (.int j) => some (decide (i = j))
  | .sc (.str x), .sc (.str y) => some (decide (x = y))
  | .sc (.bl x), .sc (.bl y) => some (x == y)
  | .sc .non, .sc .non => some true
  | .sc .non, .sc (.int _) => some false
  | .sc (.int _), .sc .non => some false
  | .sc .non, .sc (.bl _) => some false
  | .sc (.bl _), .sc .non => some false
  | .sc .non, .sc (.str _) => some false
  | .sc (.str _), .sc .non => some false
  | .sc (.int _), .sc (.str _) => some false
  | .sc (.str _), .sc (.int _) => some false
  | .sc (.bl _), .sc (.str _) => some false
  | .sc (.str _), .sc (.bl _) => some false
  | _, _ => none
theorem scal_er (a b : A) {k : Bool} (h : scalD a.er b.er = some k) : GL.scalP a.pv b.pv = some k := by
  cases a with
  | sc s =>
    cases b with
    | sc t => cases s <;> cases t <;> first | exact h | cases h
    | tup ys => cases s <;> simp [A.er, scalD] at h
    | nd k n hd ys => cases s <;> simp [A.er, scalD] at h
  | tup xs => simp [A.er, scalD] at h
  | nd k n hd xs => simp [A.er, scalD] at h
theorem scal_none (a b : A) (h : scalD a.er b.er = none) : GL.scalP a.pv b.pv = none := by
  cases a with
  | sc s =>
    cases b with
    | sc t => cases s <;> cases t <;> first | rfl | cases h
    | tup ys => cases s <;> rfl
    | nd k n hd ys => cases s <;> rfl
  | tup xs => cases b with
    | sc t => cases t <;> rfl
    | tup ys => rfl
    | nd k n hd ys => rfl
  | nd k n hd xs => cases b with
    | sc t => cases t <;> rfl
    | tup ys => rfl
    | nd k n hd ys => rfl
def datD : Nat → D → Option PyData
  | 0, _ => none
  | f + 1, d => match d with
    | .sc .non => some .none
    | .sc (.bl b) => some (.bool b)
    | .sc (.int i) => some (.int i)
    | .sc (.str l) => if PyData.strOk (GL.toS l) = true then some (.str (GL.toS l)) else none
    | .tup xs => (GL.optAll (datD f) xs).map .tuple
    | .nd _ .lst xs => (GL.optAll (datD f) xs).map .list
    | .nd _ .rol xs => (GL.optAll (datD f) xs).map .list
    | .nd _ .ptp xs => (GL.optAll (datD f) xs).map .tuple
    | _ => none
theorem optAll_er {f : Nat} {xs : List A} (h : ∀ x ∈ xs, GL.datP S f x.pv = datD f x.er) : GL.optAll (GL.datP S f) (A.pvs xs) = GL.optAll (datD f) (A.ers xs) := by
  induction xs with
  | nil => rfl
  | cons x r ih =>
    simp only [A.pvs, A.ers, GL.optAll]
    rw [h x List.mem_cons_self, ih fun y hy => h y (List.mem_cons_of_mem _ hy)]
theorem dat_er (fs : FS F S) : ∀ (f : Nat) {a : A}, a.ok F S → GL.datP S f a.pv = datD f a.er
  | 0, a, _ => rfl
  | f + 1, a, h => by
    cases a with
    | sc s => cases s <;> rfl
    | tup xs =>
      simp only [A.ok] at h
      show (GL.optAll (GL.datP S f) (A.pvs xs)).map _ = (GL.optAll (datD f) (A.ers xs)).map _
      rw [optAll_er fun x hx => dat_er fs f ((oks_iff xs).mp h.2 x hx)]
    | nd k n hd xs =>
      have ob := obj_of fs h
      have kd := ok_kids h
      have e := optAll_er (S := S) (f := f) (xs := xs) fun x hx => dat_er fs f ((oks_iff xs).mp kd x hx)
      cases hd with
      | lst =>
        show (match GL.seqAt S n with | some xs => (GL.optAll (GL.datP S f) xs).map _ | none => (match GL.ptpA S n with | some xs => (GL.optAll (GL.datP S f) xs).map _ | none => none)) = (GL.optAll (datD f) (A.ers xs)).map _
        rw [seqAt_of (AtU.lst ob)]
        dsimp only
        rw [e]
      | rol =>
        show (match GL.seqAt S n with | some xs => (GL.optAll (GL.datP S f) xs).map _ | none => (match GL.ptpA S n with | some xs => (GL.optAll (GL.datP S f) xs).map _ | none => none)) = (GL.optAll (datD f) (A.ers xs)).map _
        rw [seqAt_of' (AtU.rol ob)]
        dsimp only
        rw [e]
      | dct ks =>
        show (match GL.seqAt S n with | some xs => (GL.optAll (GL.datP S f) xs).map _ | none => (match GL.ptpA S n with | some xs => (GL.optAll (GL.datP S f) xs).map _ | none => none)) = none
        have : GL.seqAt S n = none := by
          unfold GL.seqAt
          rcases ob with ob | ⟨k, _, ob⟩ <;> rw [ob] <;> rfl
        have t2 : GL.ptpA S n = none := by
          unfold GL.ptpA
          rcases ob with ob | ⟨k, _, ob⟩ <;> rw [ob] <;> rfl
        rw [this, t2]
      | dcn ks =>
        show (match GL.seqAt S n with | some xs => (GL.optAll (GL.datP S f) xs).map _ | none => (match GL.ptpA S n with | some xs => (GL.optAll (GL.datP S f) xs).map _ | none => none)) = none
        have : GL.seqAt S n = none := by unfold GL.seqAt; rw [AtU.dcn ob]
        have t2 : GL.ptpA S n = none := by unfold GL.ptpA; rw [AtU.dcn ob]
        rw [this, t2]
      | ptp =>
        show (match GL.seqAt S n with | some xs => (GL.optAll (GL.datP S f) xs).map _ | none => (match GL.ptpA S n with | some xs => (GL.optAll (GL.datP S f) xs).map _ | none => none)) = (GL.optAll (datD f) (A.ers xs)).map _
        have : GL.seqAt S n = none := by unfold GL.seqAt; rw [AtU.ptp ob]
        have t2 : GL.ptpA S n = some (A.pvs xs) := by unfold GL.ptpA; rw [AtU.ptp ob]
        rw [this, t2]
        dsimp only
        rw [e]
      | ins C ns =>
        show (match GL.seqAt S n with | some xs => (GL.optAll (GL.datP S f) xs).map _ | none => (match GL.ptpA S n with | some xs => (GL.optAll (GL.datP S f) xs).map _ | none => none)) = none
        have : GL.seqAt S n = none := by unfold GL.seqAt; rw [AtU.ins ob]
        have t2 : GL.ptpA S n = none := by unfold GL.ptpA; rw [AtU.ins ob]
        rw [this, t2]
def eqD (neg : Bool) (a b : D) : Option Bool := match scalD a b with
  | some k => some (if neg = true then !k else k)
  | none => match datD 60 a, datD 60 b with
    | some d, some e => some (if neg = true then !PyData.eqv d e else PyData.eqv d e)
    | _, _ => none
def eqM (neg : Bool) : G2 := fun x y ls gh => match val x ls gh, val y ls gh with
  | some a, some b => (match eqD neg a b with
    | some k => .ok (.v (.bl k)) ls gh
    | none => .bad)
  | _, _ => .bad
abbrev gEq : G2 := eqM false
abbrev gNe : G2 := eqM true
theorem sim_eqM (neg : Bool) : SimG true (GL.eqM neg) (eqM neg) := by
  intro F S as ag c1 c2 w1 w2 g nd lt h1 h2 k1 k2
  unfold eqM
  split
  · rename_i d e e1 e2
    obtain ⟨a, rfl, rfl, aok, _⟩ := val_er c1 e1 h1 g k1
    obtain ⟨b, rfl, rfl, bok, _⟩ := val_er c2 e2 h2 g k2
    split
    · rename_i k hk
      refine sim_sc g nd lt (.bl k) (fun _ => ?_)
      unfold eqD at hk
      unfold GL.eqM
      cases hs : scalD a.er b.er with
      | some j =>
        rw [hs] at hk
        rw [scal_er a b hs]
        cases hk; rfl
      | none =>
        rw [hs] at hk
        rw [scal_none a b hs, dat_er g.fs 60 aok, dat_er g.fs 60 bok]
        dsimp only at hk ⊢
        cases ha : datD 60 a.er with
        | none => rw [ha] at hk; cases hk
        | some x =>
          cases hb : datD 60 b.er with
          | none => rw [ha, hb] at hk; cases hk
          | some y => rw [ha, hb] at hk; cases hk; rfl
    · trivial
  · trivial
theorem sim_gEq : SimG true GL.gEq gEq := sim_eqM false
theorem sim_gNe : SimG true GL.gNe gNe := sim_eqM true
def isNonD : D → Bool
  | .sc .non => true
  | _ => false
theorem isNon_pv (a : A) : GL.isNonP a.pv = isNonD a.er := by
  cases a with
  | sc s => cases s <;> rfl
  | tup xs => rfl
  | nd k n hd xs => rfl
def isM (neg : Bool) : G2 := fun x y ls gh => match y with
  | .v (.sc .non) => (match val x ls gh with
    | some d => .ok (.v (.bl (if neg then !isNonD d else isNonD d))) ls gh
    | none => .bad)
  | .v (.sc (.bl k)) => (match x with
    | .v (.sc (.bl j)) => .ok (.v (.bl (if neg then !decide (j = k) else decide (j = k)))) ls gh
    | _ => .bad)
  | _ => .bad
theorem sim_isM (neg : Bool) : SimG true (GL.isM neg) (isM neg) := by
  intro F S as ag c1 c2 w1 w2 g nd lt h1 h2 k1 k2
  unfold isM
  split
  · rename_i e2
    rw [er_vsc e2 h2]
    split
    · rename_i d e1
      obtain ⟨a, rfl, rfl, aok, _⟩ := val_er c1 e1 h1 g k1
      refine sim_sc g nd lt (.bl _) (fun _ => ?_)
      show GL.Out.ok (PV.bl (if neg = true then !GL.isNonP a.pv else GL.isNonP a.pv)) S = _
      rw [isNon_pv]; rfl
    · trivial
  · rename_i k e2
    rw [er_vsc e2 h2]
    split
    · rename_i j e1
      rw [er_vsc e1 h1]
      exact sim_sc g nd lt (.bl _) (fun _ => rfl)
    · trivial
  · trivial
end VL
set_option Elab.async false
set_option linter.all false
set_option maxRecDepth 100000
set_option maxHeartbeats 1000000
namespace VL
open GL (PV OB Sto Nm BT lim)
open PySem (PyData Builtin)
variable {F F' : FM} {S S' : Sto} {as as' ag ag' : List AV}
theorem sim_at {α β γ : Type} {R : RT α β γ} {q : Bool} {m : AD → GL.Ls → Sto → GL.Out α} {p : PX β} {L : AD → GL.Ls} (h : SimX q R m p) (g : Good F S as ag) (hL : ∀ ad, L ad = glS as ag ad as) : SimO q R F S as ag [] (fun ad => m ad (L ad) S) (p (erS as) (erS ag)) := by
  have := h F S as ag g
  simpa only [hL] using this
def asB (x : RV) : PT := fun ls gh => match x with
  | .v (.sc (.bl b)) => .ok b ls gh
  | _ => .bad
def toT (m : PE) : PT := fun ls gh => (m ls gh).bind fun x ls gh => asB x ls gh
def tAndM (a b : PT) : PT := fun ls gh => (a ls gh).bind fun k ls gh => if k = true then b ls gh else .ok false ls gh
def tOrM (a b : PT) : PT := fun ls gh => (a ls gh).bind fun k ls gh => if k = true then .ok true ls gh else b ls gh
def tNotM (a : PT) : PT := fun ls gh => (a ls gh).bind fun k ls gh => .ok (!k) ls gh
def tYesM : PT := fun ls gh => .ok true ls gh
def eNotM (a : PE) : PE := fun ls gh => (a ls gh).bind fun x ls gh => match x with
  | .v (.sc (.bl b)) => .ok (.v (.bl (!b))) ls gh
  | _ => .bad
def eAndM (a b : PE) : PE := fun ls gh => (a ls gh).bind fun x ls gh => match x with
  | .v (.sc (.bl true)) => b ls gh
  | .v (.sc (.bl false)) => .ok (.v (.bl false)) ls gh
  | _ => .bad
def eOrM (a b : PE) : PE := fun ls gh => (a ls gh).bind fun x ls gh => match x with
  | .v (.sc (.bl true)) => .ok (.v (.bl true)) ls gh
  | .v (.sc (.bl false)) => b ls gh
  | _ => .bad
def kNot (w : PV) (S1 : Sto) : GL.Out PV := match w with
  | .bl k => .ok (.bl (!k)) S1
  | _ => .bad
def kAnd (m : Sto → GL.Out PV) (w : PV) (S1 : Sto) : GL.Out PV := match w with
  | .bl true => m S1
  | .bl false => .ok (.bl false) S1
  | _ => .bad
def kOr (m : Sto → GL.Out PV) (w : PV) (S1 : Sto) : GL.Out PV := match w with
  | .bl true => .ok (.bl true) S1
  | .bl false => m S1
  | _ => .bad
def kYes (w : PV) (S1 : Sto) : GL.Out (Option Int) := match w with
  | .int i => .ok (some i) S1
  | _ => .bad
section
variable {qa qb qc : Bool} {ma mb mc : AD → GL.ME} {pa pb pc : PE} {ta tb : AD → GL.MT} {ua ub : PT}
theorem sim_toT (h : SimE qa ma pa) : SimT qa (fun ad => GL.toT (ma ad)) (toT pa) := fun F S as ag gd =>
  SimO.weak (sim_first (R' := RB) (q' := true) (k := fun x ls gh => asB x ls gh) (f := fun ad w S1 => GL.asB w S1) h gd (fun _ => rfl) fun F1 S1 as1 ag1 c w h1 h2 g1 n1 l1 L1 => by
    show SimO _ _ _ _ _ _ _ _ (asB c.er (erS as1) (erS ag1))
    unfold asB
    split
    · rename_i b e
      rw [er_vsc e h1]
      exact sim_ok (R := RB) g1 n1 l1 b (fun _ => rfl) rfl rfl trivial (List.nil_sublist _)
    · trivial) (by simp)
theorem sim_tnot (h : SimT qa ta ua) : SimT qa (fun ad => GL.tNotM (ta ad)) (tNotM ua) := fun F S as ag gd =>
  SimO.weak (sim_first (R' := RB) (q' := true) (k := fun x ls gh => .ok (!x) ls gh) (f := fun ad w S1 => .ok (!w) S1) h gd (fun _ => rfl) fun F1 S1 as1 ag1 c w h1 h2 g1 n1 l1 L1 => by
    cases h1
    exact sim_ok (R := RB) g1 n1 l1 (!c) (fun _ => rfl) rfl rfl trivial (List.nil_sublist _)) (by simp)
theorem sim_tand (h : SimT qa ta ua) (h2 : SimT qb tb ub) : SimT (qa && qb) (fun ad => GL.tAndM (ta ad) (tb ad)) (tAndM ua ub) := fun F S as ag gd =>
  sim_first (R' := RB) (q' := qb) (k := fun k ls gh => if k = true then ub ls gh else .ok false ls gh) (f := fun ad k S1 => if k = true then tb ad (glS as ag ad as) S1 else .ok false S1) h gd (fun _ => rfl) fun F1 S1 as1 ag1 c w h1 _ g1 n1 l1 L1 => by
    cases h1
    cases c with
    | true => exact sim_at (R := RB) h2 g1 L1
    | false => exact sim_ok (R := RB) g1 n1 l1 false (fun _ => rfl) rfl rfl trivial (List.nil_sublist _)
theorem sim_tor (h : SimT qa ta ua) (h2 : SimT qb tb ub) : SimT (qa && qb) (fun ad => GL.tOrM (ta ad) (tb ad)) (tOrM ua ub) := fun F S as ag gd =>
  sim_first (R' := RB) (q' := qb) (k := fun k ls gh => if k = true then .ok true ls gh else ub ls gh) (f := fun ad k S1 => if k = true then .ok true S1 else tb ad (glS as ag ad as) S1) h gd (fun _ => rfl) fun F1 S1 as1 ag1 c w h1 _ g1 n1 l1 L1 => by
    cases h1
    cases c with
    | false => exact sim_at (R := RB) h2 g1 L1
    | true => exact sim_ok (R := RB) g1 n1 l1 true (fun _ => rfl) rfl rfl trivial (List.nil_sublist _)
theorem sim_tyes : SimT true (fun _ => GL.tYesM) tYesM := fun F S as ag g => sim_ok (R := RB) g (good_nd g) (fun _ h => by cases h) true (fun _ => rfl) rfl rfl trivial (List.nil_sublist _)
theorem sim_not (h : SimE qa ma pa) : SimE qa (fun ad => GL.eNotM (ma ad)) (eNotM pa) := fun F S as ag gd =>
  SimO.weak (sim_first (R' := RE) (q' := true) (k := fun (x : RV) (ls gh : Ls) => match x with
  | .v (.sc (.bl b)) => .ok (.v (.bl (!b))) ls gh
  | _ => .bad) (f := fun (ad : AD) (w : PV) (S1 : Sto) => kNot w S1) h gd (fun _ => rfl) fun F1 S1 as1 ag1 c w h1 h2 g1 n1 l1 L1 => by
    split
    · rename_i b e
      rw [er_vsc e h1]
      exact sim_sc g1 n1 l1 (.bl (!b)) (fun _ => rfl)
    · trivial) (by simp)
theorem nil_x0 {α β γ : Type} {R : RT α β γ} {q : Bool} {o : AD → GL.Out α} {p : Out β} {x0 : List Nat} (nd : (fpS (as ++ ag) ++ x0).Nodup) (h : SimO q R F S as ag [] o p) : SimO q R F S as ag x0 o p := by
  have wk : ∀ {F' : FM} {S' : Sto} {as' ag' : List AV} {x : List Nat}, Ev q F S as ag [] F' S' as' ag' x → Ev q F S as ag x0 F' S' as' ag' x := fun e =>
    ⟨e.good, e.nd, e.lt, e.mono, e.len, fun n hn hx => e.keep n hn fun h => hx (by
      rcases List.mem_append.mp h with t | t
      · exact List.mem_append_left _ t
      · cases t), fun n hn => (e.new n hn).imp (fun h => by
      rcases List.mem_append.mp h with t | t
      · exact List.mem_append_left _ t
      · cases t) id, e.gl, e.gg, e.rt, e.per⟩
  cases p with
  | bad => trivial
  | exc e ls gh => obtain ⟨F2, S2, as2, ag2, x, b1, b2, b3, b4, b5, b6⟩ := h; exact ⟨F2, S2, as2, ag2, x, b1, b2, b3, b4, b5, wk b6⟩
  | ok b ls gh => obtain ⟨F2, S2, as2, ag2, c, w, b1, b2, b3, b4, b5, b6, b7⟩ := h; exact ⟨F2, S2, as2, ag2, c, w, b1, b2, b3, b4, b5, b6, wk b7⟩
theorem sim_and (h : SimE qa ma pa) (hb : SimE qb mb pb) : SimE (qa && qb) (fun ad => GL.eAndM (ma ad) (mb ad)) (eAndM pa pb) := fun F S as ag gd =>
  sim_first (R' := RE) (q' := qb) (k := fun (x : RV) (ls gh : Ls) => match x with
  | .v (.sc (.bl true)) => pb ls gh
  | .v (.sc (.bl false)) => .ok (.v (.bl false)) ls gh
  | _ => .bad) (f := fun (ad : AD) (w : PV) (S1 : Sto) => kAnd (mb ad (glS as ag ad as)) w S1) h gd (fun _ => rfl) fun F1 S1 as1 ag1 c w h1 h2 g1 n1 l1 L1 => by
    split
    · rename_i e
      rw [er_vsc e h1]
      exact nil_x0 n1 (sim_at (R := RE) hb g1 L1)
    · rename_i e
      rw [er_vsc e h1]
      exact sim_sc g1 n1 l1 (.bl false) (fun _ => rfl)
    · trivial
theorem sim_or (h : SimE qa ma pa) (hb : SimE qb mb pb) : SimE (qa && qb) (fun ad => GL.eOrM (ma ad) (mb ad)) (eOrM pa pb) := fun F S as ag gd =>
  sim_first (R' := RE) (q' := qb) (k := fun (x : RV) (ls gh : Ls) => match x with
  | .v (.sc (.bl true)) => .ok (.v (.bl true)) ls gh
  | .v (.sc (.bl false)) => pb ls gh
  | _ => .bad) (f := fun (ad : AD) (w : PV) (S1 : Sto) => kOr (mb ad (glS as ag ad as)) w S1) h gd (fun _ => rfl) fun F1 S1 as1 ag1 c w h1 h2 g1 n1 l1 L1 => by
    split
    · rename_i e
      rw [er_vsc e h1]
      exact sim_sc g1 n1 l1 (.bl true) (fun _ => rfl)
    · rename_i e
      rw [er_vsc e h1]
      exact nil_x0 n1 (sim_at (R := RE) hb g1 L1)
    · trivial
end
def e1 (f : RV → PE) (a : PE) : PE := fun ls gh => (a ls gh).bind fun x ls gh => f x ls gh
def SimF1 (q : Bool) (ff : PV → Sto → GL.Out PV) (f : RV → PE) : Prop := ∀ (F : FM) (S : Sto) (as ag : List AV) (c : ARV) (w : PV), Good F S as ag → (fpS (as ++ ag) ++ c.fp).Nodup → (∀ n ∈ c.fp, n < S.length) → c.pv as ag = some w → c.ok F S →
  SimO q RE F S as ag c.fp (fun _ => ff w S) (f c.er (erS as) (erS ag))
theorem sim_e1 {qa qf : Bool} {ma : AD → GL.ME} {pa : PE} {ff : PV → Sto → GL.Out PV} {f : RV → PE} (h : SimE qa ma pa) (hf : SimF1 qf ff f) : SimE (qa && qf) (fun ad ls S => (ma ad ls S).bind fun w S1 => ff w S1) (e1 f pa) := fun F S as ag gd =>
  sim_first (R' := RE) (q' := qf) (k := fun x ls gh => f x ls gh) (f := fun ad w S1 => ff w S1) h gd (fun _ => rfl) fun F1 S1 as1 ag1 c w h1 h2 g1 n1 l1 L1 => hf F1 S1 as1 ag1 c w g1 n1 l1 h1 h2
def childR (c : RV) (i : Nat) (d : D) : RV := if d.shr = true then .v d else match c with
  | .v _ => .v d
  | .pth r p => .pth r (p ++ [i])
theorem get_app : ∀ (p : List Nat) (a : A) (i : Nat), getA (p ++ [i]) a = (getA p a).bind fun z => z.kids[i]?
  | [], a, i => by
    show getA [i] a = _
    unfold getA
    cases h : a.kids[i]? with
    | none => simp [h]
    | some z => simp [h, getA]
  | j :: p, a, i => by
    show getA (j :: (p ++ [i])) a = _
    rw [getA, getA]
    cases h : a.kids[j]? with
    | none => rfl
    | some z => exact get_app p z i
theorem sim_child {q : Bool} {x0 : List Nat} (g : Good F S as ag) (nd : (fpS (as ++ ag) ++ x0).Nodup) (lt : ∀ n ∈ x0, n < S.length) {c : ARV} (sub : c.fp.Sublist x0) (hk : c.ok F S) {ks : List A} (hc : (∃ a, c = .v a ∧ a.kids = ks) ∨ ∃ r p a, c = .pth r p ∧ atA as ag r p = some a ∧ a.kids = ks) {i : Nat} {x : A} (hi : ks[i]? = some x) (oks : A.oks F S ks)
    {o : AD → GL.Out PV} (ho : ∀ ad, o ad = .ok x.pv S) : SimO q RE F S as ag x0 o (.ok (childR c.er i x.er) (erS as) (erS ag)) := by
  have xok := (oks_iff ks).mp oks x (List.mem_of_getElem? hi)
  unfold childR
  rw [shr_er]
  cases hs : x.shr with
  | true => exact sim_okE g nd lt (.v x) ho rfl rfl xok (by show (A.fp x).Sublist _; rw [fp_shr xok hs]; exact List.nil_sublist _)
  | false =>
    rcases hc with ⟨a, rfl, rfl⟩ | ⟨r, p, a, rfl, hat, rfl⟩
    · refine sim_okE g nd lt (.v x) ho rfl rfl xok (List.Sublist.trans ?_ sub)
      show (A.fp x).Sublist (A.fp a)
      have s1 : (A.fp x).Sublist (A.fps a.kids) := by
        rw [fps_map, List.flatMap]
        exact List.sublist_flatten_of_mem (List.mem_map.mpr ⟨x, List.mem_of_getElem? hi, rfl⟩)
      cases a with
      | sc s => simp [A.kids] at hi
      | tup xs => exact s1
      | nd k n hd xs =>
        cases k with
        | fz => exact s1
        | ow => exact s1.trans (List.sublist_cons_self _ _)
        | lk => exact s1.trans (List.sublist_cons_self _ _)
    · refine sim_okE g nd lt (.pth r (p ++ [i])) ho rfl ?_ trivial (List.nil_sublist _)
      show (atA as ag r (p ++ [i])).map A.pv = _
      unfold atA at hat ⊢
      obtain ⟨b, hb, hx⟩ := Option.bind_eq_some_iff.mp hat
      rw [hb, Option.bind_some, get_app, hx, Option.bind_some, hi]; rfl
def gIx : G2 := fun x y ls gh => match y with
  | .v (.sc (.int i)) => (match x with
    | .v (.sc (.str s)) => if s.length ≤ lim then (match L2.atI s i with
      | some c => .ok (.v (.str [c])) ls gh
      | none => .bad) else .bad
    | x => (match seqV x ls gh with
      | some (_, xs) => (match L2.ixN xs.length i with
        | some j => (match xs[j]? with
          | some d => .ok (childR x j d) ls gh
          | none => .bad)
        | none => .bad)
      | none => .bad))
  | _ => .bad
theorem sim_gIx : SimG true GL.gIx gIx := by
  intro F S as ag c1 c2 w1 w2 g nd lt h1 h2 k1 k2
  unfold gIx
  split
  · rename_i i e2
    rw [er_vsc e2 h2]
    split
    · rename_i s e1
      rw [er_vsc e1 h1]
      by_cases hl : s.length ≤ lim
      · rw [if_pos hl]
        split
        · rename_i c hc
          exact sim_sc g nd lt (.str [c]) (fun _ => by simp only [GL.gIx, Sc.pv, if_pos hl, hc])
        · trivial
      · rw [if_neg hl]; trivial
    · split
      · rename_i k xs e1
        obtain ⟨ks, rfl, sg, ok, _, _, hc⟩ := seqV_er e1 h1 g k1
        split
        · rename_i j hj
          split
          · rename_i d hd
            rw [ers_map, List.getElem?_map] at hd
            obtain ⟨x, hx, rfl⟩ := Option.map_eq_some_iff.mp hd
            refine sim_child g nd lt (List.sublist_append_left _ _) k1 hc hx ok (fun _ => ?_)
            have hat : L2.atI (A.pvs ks) i = some x.pv := by
              unfold L2.atI
              rw [pvs_len, ← ers_len, hj, Option.bind_some, pvs_map, List.getElem?_map, hx]; rfl
            cases k with
            | tup => cases sg; simp only [GL.gIx, Sc.pv, hat]
            | lst => obtain ⟨n, rfl, hs⟩ := sg; simp only [GL.gIx, Sc.pv, seqAt_of hs, hat]
            | rol => obtain ⟨n, rfl, hs⟩ := sg; simp only [GL.gIx, Sc.pv, seqAt_of' hs, hat]
          · trivial
        · trivial
      · trivial
  · trivial
abbrev PO := PX (Option Int)
def oNo : PO := fun ls gh => .ok none ls gh
def oYes (m : PE) : PO := fun ls gh => (m ls gh).bind fun x ls gh => match x with
  | .v (.sc (.int i)) => .ok (some i) ls gh
  | _ => .bad
def gSl (x : RV) (lo hi : Option Int) : PE := fun ls gh => match x with
  | .v (.tup xs) => .ok (.v (.tup (GL.cutP xs lo hi))) ls gh
  | .v (.sc (.str s)) => if s.length ≤ lim then .ok (.v (.str (GL.cutP s lo hi))) ls gh else .bad
  | x => match seqV x ls gh with
    | some (.tup, _) => .bad
    | some (_, xs) => (match shrK x xs with
      | some ys => .ok (.v (.nd .ow .lst (GL.cutP ys lo hi))) ls gh
      | none => .bad)
    | none => .bad
def eSl (o : PE) (lo hi : PO) : PE := fun ls gh => (o ls gh).bind fun x ls gh => (lo ls gh).bind fun l ls gh => (hi ls gh).bind fun h ls gh => gSl x l h ls gh
theorem cut_map {α β : Type} (f : α → β) (xs : List α) (lo hi : Option Int) : (GL.cutP xs lo hi).map f = GL.cutP (xs.map f) lo hi := by
  unfold GL.cutP
  rw [List.map_take, List.map_drop, List.length_map]
theorem cut_sub {α : Type} (xs : List α) (lo hi : Option Int) {x : α} (h : x ∈ GL.cutP xs lo hi) : x ∈ xs := by
  unfold GL.cutP at h
  exact List.mem_of_mem_drop (List.mem_of_mem_take h)
theorem cut_oks {xs : List A} {lo hi : Option Int} (h : A.oks F S xs) : A.oks F S (GL.cutP xs lo hi) := by
  rw [oks_iff] at *
  exact fun x hx => h x (cut_sub xs lo hi hx)
theorem cut_fps {xs : List A} {lo hi : Option Int} (h : A.fps xs = []) : A.fps (GL.cutP xs lo hi) = [] := by
  rw [fps_map, List.flatMap_eq_nil_iff] at *
  exact fun x hx => h x (cut_sub xs lo hi hx)
theorem sim_gSl {c : ARV} {w : PV} {lo hi : Option Int} (g : Good F S as ag) (nd : (fpS (as ++ ag) ++ c.fp).Nodup) (lt : ∀ n ∈ c.fp, n < S.length) (hp : c.pv as ag = some w) (hk : c.ok F S) :
    SimO true RE F S as ag c.fp (fun _ => GL.gSl w lo hi S) (gSl c.er lo hi (erS as) (erS ag)) := by
  unfold gSl
  split
  · rename_i xs e
    obtain ⟨a, rfl, ea, rfl⟩ := er_v e hp
    obtain ⟨ys, rfl, rfl⟩ := er_tup ea
    have p1 : A.fps ys = [] ∧ A.oks F S ys := hk
    refine sim_okE g nd lt (.v (.tup (GL.cutP ys lo hi))) (fun _ => ?_) (by simp [ARV.er, A.er, ers_map, cut_map]) rfl ⟨cut_fps p1.1, cut_oks p1.2⟩ (by show (A.fps _).Sublist _; rw [cut_fps p1.1]; exact List.nil_sublist _)
    simp only [GL.gSl, A.pv, pvs_map, cut_map]
  · rename_i s e
    rw [er_vsc e hp]
    by_cases hl : s.length ≤ lim
    · rw [if_pos hl]
      exact sim_sc g nd lt (.str _) (fun _ => by simp only [GL.gSl, Sc.pv, if_pos hl])
    · rw [if_neg hl]; trivial
  · split
    · trivial
    · rename_i k xs hne e
      obtain ⟨ks, rfl, sg, ok, fpk, _, _⟩ := seqV_er e hp g hk
      split
      · rename_i ys hy
        obtain ⟨F', zs, rfl, h2, h3, h4, ev⟩ := shrK_sim g nd lt ok fpk hy
        refine SimO.pre ev ?_
        have : GL.cutP (A.ers zs) lo hi = A.ers (GL.cutP zs lo hi) := by simp only [ers_map, cut_map]
        rw [this]
        refine sim_alloc ev.good ev.nd ev.lt .lst _ rfl (cut_oks h4) (by rw [cut_fps h3]; exact List.nil_sublist _) (fun _ => ?_)
        have hp2 : A.pvs (GL.cutP zs lo hi) = GL.cutP (A.pvs ks) lo hi := by rw [← h2]; simp only [pvs_map, cut_map]
        cases k with
        | tup => exact (hne rfl).elim
        | lst => obtain ⟨n, rfl, hs⟩ := sg; simp only [GL.gSl, seqAt_of hs, mkO, hp2]
        | rol => obtain ⟨n, rfl, hs⟩ := sg; simp only [GL.gSl, seqAt_of' hs, mkO, hp2]
      · trivial
    · trivial
abbrev SimOI (q : Bool) (m : AD → GL.MO) (p : PO) : Prop := SimX q RO m p
theorem sim_ono : SimOI true (fun _ => GL.oNo) oNo := fun F S as ag g => sim_ok (R := RO) g (good_nd g) (fun _ h => by cases h) none (fun _ => rfl) rfl rfl trivial (List.nil_sublist _)
theorem sim_oyes {q : Bool} {ma : AD → GL.ME} {pa : PE} (h : SimE q ma pa) : SimOI q (fun ad => GL.oYes (ma ad)) (oYes pa) := fun F S as ag gd =>
  SimO.weak (sim_first (R' := RO) (q' := true) (k := fun (x : RV) (ls gh : Ls) => match x with
  | .v (.sc (.int i)) => .ok (some i) ls gh
  | _ => .bad) (f := fun (ad : AD) (w : PV) (S1 : Sto) => kYes w S1) h gd (fun _ => rfl) fun F1 S1 as1 ag1 c w h1 h2 g1 n1 l1 L1 => by
    split
    · rename_i b e
      rw [er_vsc e h1]
      exact sim_ok (R := RO) g1 n1 l1 (some b) (fun _ => rfl) rfl rfl trivial (List.nil_sublist _)
    · trivial) (by simp)
theorem sim_sl {qa : Bool} {ma : AD → GL.ME} {pa : PE} {ml mh : AD → GL.MO} {pl ph : PO} (ha : SimE qa ma pa) (hl : SimOI true ml pl) (hh : SimOI true mh ph) : SimE qa (fun ad => GL.eSl (ma ad) (ml ad) (mh ad)) (eSl pa pl ph) := fun F S as ag gd =>
  SimO.weak (sim_first (R' := RE) (q' := true && (true && true)) (k := fun x ls gh => (pl ls gh).bind fun l ls gh => (ph ls gh).bind fun h ls gh => gSl x l h ls gh) (f := fun ad w S1 => (ml ad (glS as ag ad as) S1).bind fun l S2 => (mh ad (glS as ag ad as) S2).bind fun h S3 => GL.gSl w l h S3) ha gd (fun _ => rfl) fun F1 S1 as1 ag1 c1 w1 h1 h2 g1 n1 l1 L1 =>
    sim_next (R0 := RE) (R := RO) (R' := RE) (k := fun l ls gh => (ph ls gh).bind fun h ls gh => gSl (RE.er c1) l h ls gh) (f := fun ad l S2 => (mh ad (glS as ag ad as) S2).bind fun h S3 => GL.gSl w1 l h S3) hl g1 c1 h1 h2 n1 l1 (stab_re true c1 (.inl rfl)) L1 fun F2 S2 as2 ag2 l l' h1 h2 h3 _ g2 n2 l2 L2 => by
      cases h3
      have e0 : RE.fp c1 ++ RO.fp l = RE.fp c1 := List.append_nil _
      rw [e0] at n2 l2 ⊢
      exact sim_next (R0 := RE) (R := RO) (R' := RE) (k := fun h ls gh => gSl (RE.er c1) l h ls gh) (f := fun ad h S3 => GL.gSl w1 l h S3) hh g2 c1 h1 h2 n2 l2 (stab_re true c1 (.inl rfl)) L2 fun F3 S3 as3 ag3 h h' h1 h2 h3 _ g3 n3 l3 L3 => by
        cases h3
        have e1 : RE.fp c1 ++ RO.fp h = RE.fp c1 := List.append_nil _
        rw [e1] at n3 l3 ⊢
        exact sim_gSl g3 n3 l3 h1 h2) (by simp)
end VL
set_option Elab.async false
set_option linter.all false
set_option maxRecDepth 100000
set_option maxHeartbeats 1000000
namespace VL
open GL (PV OB Sto Nm BT lim)
open PySem (PyData Builtin)
variable {F F' : FM} {S S' : Sto} {as as' ag ag' : List AV}
def eB (g : List RV → PE) (args : PA) : PE := fun ls gh => (args ls gh).bind fun xs ls gh => g xs ls gh
def SimB (q : Bool) (gg : GL.MF) (g : List RV → PE) : Prop := ∀ (F : FM) (S : Sto) (as ag : List AV) (cs : List ARV) (ws : List PV), Good F S as ag → (fpS (as ++ ag) ++ RA.fp cs).Nodup → (∀ n ∈ RA.fp cs, n < S.length) → RA.pv as ag cs = some ws → RA.ok F S cs →
  SimO q RE F S as ag (RA.fp cs) (fun _ => gg ws S) (g (cs.map ARV.er) (erS as) (erS ag))
theorem sim_b {qa q : Bool} {mr : AD → GL.MA} {pr : PA} {gg : GL.MF} {g : List RV → PE} (h : SimA qa mr pr) (hg : SimB q gg g) : SimE (qa && q) (fun ad => GL.eB gg (mr ad)) (eB g pr) := fun F S as ag gd =>
  sim_first (R' := RE) (q' := q) (k := fun xs ls gh => g xs ls gh) (f := fun ad ws S1 => gg ws S1) h gd (fun _ => rfl) fun F1 S1 as1 ag1 cs ws h1 h2 g1 n1 l1 L1 => hg F1 S1 as1 ag1 cs ws g1 n1 l1 h1 h2
def un (f : RV → PE) : List RV → PE := fun xs => match xs with
  | [x] => f x
  | _ => fun _ _ => .bad
def bi (f : RV → RV → PE) : List RV → PE := fun xs => match xs with
  | [x, y] => f x y
  | _ => fun _ _ => .bad
theorem simB1 {q : Bool} {gg : GL.MF} {f : RV → PE} (h : SimF1 q (fun w S => gg [w] S) f) : SimB q gg (un f) := by
  intro F S as ag cs ws g nd lt hp hk
  match cs with
  | [] => trivial
  | [c] =>
    obtain ⟨w, t, hw, ht, rfl⟩ := seqO_cons hp
    cases ht
    have e : RA.fp [c] = c.fp := List.append_nil _
    rw [e] at nd lt ⊢
    exact h F S as ag c w g nd lt hw (hk c List.mem_cons_self)
  | _ :: _ :: _ => trivial
theorem simB2 {q : Bool} {gg : GL.MF} {f : RV → RV → PE} (h : SimG q (fun w v S => gg [w, v] S) f) : SimB q gg (bi f) := by
  intro F S as ag cs ws g nd lt hp hk
  match cs with
  | [] => trivial
  | [c] => trivial
  | [c, d] =>
    obtain ⟨w, t, hw, ht, rfl⟩ := seqO_cons hp
    obtain ⟨w2, t2, hw2, ht2, rfl⟩ := seqO_cons ht
    cases ht2
    have e : RA.fp [c, d] = c.fp ++ d.fp := by show c.fp ++ (d.fp ++ []) = _; rw [List.append_nil]
    rw [e] at nd lt ⊢
    exact h F S as ag c d w w2 g nd lt hw hw2 (hk c List.mem_cons_self) (hk d (List.mem_cons_of_mem _ List.mem_cons_self))
  | _ :: _ :: _ :: _ => trivial
def f1Int (x : RV) : PE := fun ls gh => match x with
  | .v (.sc (.int i)) => .ok (.v (.int i)) ls gh
  | .v (.sc (.bl k)) => .ok (.v (.int (if k then 1 else 0))) ls gh
  | _ => .bad
theorem sim_f1Int : SimF1 true (fun w S => GL.fInt [w] S) f1Int := by
  intro F S as ag c w g nd lt hp hk
  unfold f1Int
  split
  · rename_i i e; rw [er_vsc e hp]; exact sim_sc g nd lt (.int i) (fun _ => rfl)
  · rename_i i e; rw [er_vsc e hp]; exact sim_sc g nd lt (.int _) (fun _ => rfl)
  · trivial
def f1Abs (x : RV) : PE := fun ls gh => match x with
  | .v (.sc (.int i)) => .ok (.v (.int (if i < 0 then -i else i))) ls gh
  | _ => .bad
theorem sim_f1Abs : SimF1 true (fun w S => GL.fAbs [w] S) f1Abs := by
  intro F S as ag c w g nd lt hp hk
  unfold f1Abs
  split
  · rename_i i e; rw [er_vsc e hp]; exact sim_sc g nd lt (.int _) (fun _ => rfl)
  · trivial
def f1Len (x : RV) : PE := fun ls gh => match x with
  | .v (.sc (.str s)) => if s.length ≤ lim then .ok (.v (.int s.length)) ls gh else .bad
  | x => match seqV x ls gh with
    | some (_, xs) => .ok (.v (.int xs.length)) ls gh
    | none => .bad
theorem sim_f1Len : SimF1 true (fun w S => GL.fLen [w] S) f1Len := by
  intro F S as ag c w g nd lt hp hk
  unfold f1Len
  split
  · rename_i s e
    rw [er_vsc e hp]
    by_cases hl : s.length ≤ lim
    · rw [if_pos hl]; exact sim_sc g nd lt (.int _) (fun _ => by simp only [GL.fLen, Sc.pv, if_pos hl])
    · rw [if_neg hl]; trivial
  · split
    · rename_i k xs e
      obtain ⟨ks, rfl, sg, ok, _, _, _⟩ := seqV_er e hp g hk
      rw [ers_len]
      refine sim_sc g nd lt (.int _) (fun _ => ?_)
      cases k with
      | tup => cases sg; simp only [GL.fLen, Sc.pv, pvs_len]
      | lst => obtain ⟨n, rfl, hs⟩ := sg; simp only [GL.fLen, Sc.pv, seqAt_of hs, pvs_len]
      | rol => obtain ⟨n, rfl, hs⟩ := sg; simp only [GL.fLen, Sc.pv, seqAt_of' hs, pvs_len]
    · trivial
def f1List (x : RV) : PE := fun ls gh => match seqV x ls gh with
  | some (_, xs) => (match shrK x xs with
    | some ys => .ok (.v (.nd .ow .lst ys)) ls gh
    | none => .bad)
  | none => .bad
theorem sim_f1List : SimF1 true (fun w S => GL.fList [w] S) f1List := by
  intro F S as ag c w g nd lt hp hk
  unfold f1List
  split
  · rename_i k xs e
    obtain ⟨ks, rfl, sg, ok, fpk, _, _⟩ := seqV_er e hp g hk
    split
    · rename_i ys hy
      obtain ⟨F', zs, rfl, h2, h3, h4, ev⟩ := shrK_sim g nd lt ok fpk hy
      refine SimO.pre ev (sim_alloc ev.good ev.nd ev.lt .lst zs rfl h4 (by rw [h3]; exact List.nil_sublist _) (fun _ => ?_))
      rw [h2]
      cases k with
      | tup => cases sg; rfl
      | lst => obtain ⟨n, rfl, hs⟩ := sg; simp only [GL.fList, seqAt_of hs, mkO]
      | rol => obtain ⟨n, rfl, hs⟩ := sg; simp only [GL.fList, seqAt_of' hs, mkO]
    · trivial
  · trivial
def f1Tuple (x : RV) : PE := fun ls gh => match seqV x ls gh with
  | some (_, xs) => (match shrK x xs with
    | some ys => .ok (.v (.tup ys)) ls gh
    | none => .bad)
  | none => .bad
theorem sim_f1Tuple : SimF1 true (fun w S => GL.fTuple [w] S) f1Tuple := by
  intro F S as ag c w g nd lt hp hk
  unfold f1Tuple
  split
  · rename_i k xs e
    obtain ⟨ks, rfl, sg, ok, fpk, _, _⟩ := seqV_er e hp g hk
    split
    · rename_i ys hy
      obtain ⟨F', zs, rfl, h2, h3, h4, ev⟩ := shrK_sim g nd lt ok fpk hy
      refine SimO.pre ev (sim_okE ev.good ev.nd ev.lt (.v (.tup zs)) (w := .tup (A.pvs zs)) (fun _ => ?_) rfl rfl ⟨h3, h4⟩ (by show (A.fps zs).Sublist _; rw [h3]; exact List.Sublist.refl _))
      rw [h2]
      cases k with
      | tup => cases sg; rfl
      | lst => obtain ⟨n, rfl, hs⟩ := sg; simp only [GL.fTuple, seqAt_of hs]
      | rol => obtain ⟨n, rfl, hs⟩ := sg; simp only [GL.fTuple, seqAt_of' hs]
    · trivial
  · trivial
def tyD : D → Option BT
  | .sc .non => some .none
  | .sc (.bl _) => some .bool
  | .sc (.int _) => some .int
  | .sc (.str _) => some .str
  | .tup _ => some .tuple
  | .nd _ .lst _ => some .list
  | .nd _ .rol _ => some .list
  | .nd _ (.dct _) _ => some .dict
  | .nd _ .ptp _ => some .tuple
  | _ => none
theorem ty_er (fs : FS F S) {a : A} (h : a.ok F S) : GL.tyP S a.pv = tyD a.er := by
  cases a with
  | sc s => cases s <;> rfl
  | tup xs => rfl
  | nd k n hd xs =>
    have ob := obj_of fs h
    show (match S[n]? with | some (.lst _) => some BT.list | some (.rol _) => some .list | some (.dct _) => some .dict | some (.fdct _) => some .dict | some (.ptp _) => some .tuple | _ => none) = tyD (.nd k hd (A.ers xs))
    cases hd with
    | lst => rw [AtU.lst ob]; rfl
    | rol => rw [AtU.rol ob]; rfl
    | dct ks => rcases ob with ob | ⟨k, _, ob⟩ <;> rw [ob] <;> rfl
    | ins C ns => rw [AtU.ins ob]; rfl
    | dcn ks => rw [AtU.dcn ob]; rfl
    | ptp => rw [AtU.ptp ob]; rfl
def f2Isi : G2 := fun x y ls gh => match y with
  | .v (.sc (.ty b)) => if b = .none then .bad else (match (val x ls gh).bind tyD with
    | some t => .ok (.v (.bl (GL.isB t b))) ls gh
    | none => .bad)
  | _ => .bad
theorem sim_f2Isi : SimG true (fun w v S => GL.fIsi [w, v] S) f2Isi := by
  intro F S as ag c1 c2 w1 w2 g nd lt h1 h2 k1 k2
  unfold f2Isi
  split
  · rename_i b e2
    rw [er_vsc e2 h2]
    by_cases hb : b = .none
    · rw [if_pos hb]; trivial
    · rw [if_neg hb]
      split
      · rename_i t e1
        obtain ⟨d, e1, e3⟩ := Option.bind_eq_some_iff.mp e1
        obtain ⟨a, rfl, rfl, aok, _⟩ := val_er c1 e1 h1 g k1
        refine sim_sc g nd lt (.bl _) (fun _ => ?_)
        simp only [GL.fIsi, Sc.pv, if_neg hb, ty_er g.fs aok, e3]
      · trivial
  · trivial
def f1Str (x : RV) : PE := fun ls gh => match x with
  | .v (.sc (.int i)) => if i.natAbs.log2 < 1920 then .ok (.v (.str (GL.strI i))) ls gh else .bad
  | .v (.sc (.str s)) => .ok (.v (.str s)) ls gh
  | _ => .bad
theorem sim_f1Str : SimF1 true (fun w S => GL.fStr [w] S) f1Str := by
  intro F S as ag c w g nd lt hp hk
  unfold f1Str
  split
  · rename_i i e
    rw [er_vsc e hp]
    by_cases hl : i.natAbs.log2 < 1920
    · rw [if_pos hl]; exact sim_sc g nd lt (.str _) (fun _ => by simp only [GL.fStr, Sc.pv, if_pos hl])
    · rw [if_neg hl]; trivial
  · rename_i s e; rw [er_vsc e hp]; exact sim_sc g nd lt (.str s) (fun _ => rfl)
  · trivial
abbrev fInt := un f1Int
abbrev fAbs := un f1Abs
abbrev fLen := un f1Len
abbrev fList := un f1List
abbrev fTuple := un f1Tuple
abbrev fStr := un f1Str
abbrev fIsi := bi f2Isi
theorem sim_fInt : SimB true GL.fInt fInt := simB1 sim_f1Int
theorem sim_fAbs : SimB true GL.fAbs fAbs := simB1 sim_f1Abs
theorem sim_fLen : SimB true GL.fLen fLen := simB1 sim_f1Len
theorem sim_fList : SimB true GL.fList fList := simB1 sim_f1List
theorem sim_fTuple : SimB true GL.fTuple fTuple := simB1 sim_f1Tuple
theorem sim_fStr : SimB true GL.fStr fStr := simB1 sim_f1Str
theorem sim_fIsi : SimB true GL.fIsi fIsi := simB2 sim_f2Isi
def k1Fmt (x : RV) : PE := fun ls gh => match x with
  | .v (.sc (.str s)) => if s.length ≤ lim then .ok (.v (.str s)) ls gh else .bad
  | .v (.sc (.int i)) => if i.natAbs.log2 < 1920 then .ok (.v (.str (GL.strI i))) ls gh else .bad
  | _ => .bad
def eFmt (m : PE) : PE := e1 k1Fmt m
def gFmt (w : PV) (S1 : Sto) : GL.Out PV := match w with
  | .str s => if s.length ≤ lim then .ok (.str s) S1 else .bad
  | .int i => if i.natAbs.log2 < 1920 then .ok (.str (GL.strI i)) S1 else .bad
  | _ => .bad
theorem sim_fmt {q : Bool} {ma : AD → GL.ME} {pa : PE} (h : SimE q ma pa) : SimE q (fun ad => GL.eFmt (ma ad)) (eFmt pa) := fun F S as ag gd =>
  SimO.weak (sim_e1 (qf := true) (ff := gFmt) h (by
    intro F S as ag c w g nd lt hp hk
    unfold k1Fmt
    split
    · rename_i s e
      rw [er_vsc e hp]
      by_cases hl : s.length ≤ lim
      · rw [if_pos hl]; exact sim_sc g nd lt (.str s) (fun _ => by simp only [gFmt, Sc.pv, if_pos hl])
      · rw [if_neg hl]; trivial
    · rename_i i e
      rw [er_vsc e hp]
      by_cases hl : i.natAbs.log2 < 1920
      · rw [if_pos hl]; exact sim_sc g nd lt (.str _) (fun _ => by simp only [gFmt, Sc.pv, if_pos hl])
      · rw [if_neg hl]; trivial
    · trivial) F S as ag gd) (by simp)
def fJs : List PE → List Nat → PE
  | [], acc, ls, gh => .ok (.v (.str acc)) ls gh
  | m :: r, acc, ls, gh => (m ls gh).bind fun x ls gh => match x with
    | .v (.sc (.str y)) => if acc.length + y.length ≤ lim then fJs r (acc ++ y) ls gh else .bad
    | _ => .bad
inductive SimL : (AD → List GL.ME) → List PE → Prop
  | nil : SimL (fun _ => []) []
  | cons {ma : AD → GL.ME} {pa : PE} {mr : AD → List GL.ME} {pr : List PE} : SimE true ma pa → SimL mr pr → SimL (fun ad => ma ad :: mr ad) (pa :: pr)
def gJs (ad : AD) (mr : AD → List GL.ME) (acc : List Nat) (L : GL.Ls) (w : PV) (S1 : Sto) : GL.Out PV := match w with
  | .str y => if acc.length + y.length ≤ lim then GL.fJs (mr ad) (acc ++ y) L S1 else .bad
  | _ => .bad
theorem sim_js : ∀ {mr : AD → List GL.ME} {pr : List PE}, SimL mr pr → ∀ acc, SimE true (fun ad => GL.fJs (mr ad) acc) (fJs pr acc)
  | _, _, .nil, acc => fun F S as ag g => sim_sc g (good_nd g) (fun _ h => by cases h) (.str acc) (fun _ => rfl)
  | _, _, .cons (ma := ma) (pa := pa) (mr := mr) (pr := pr) h hr, acc => fun F S as ag gd =>
    SimO.weak (sim_first (R' := RE) (q' := true) (k := fun (x : RV) (ls gh : Ls) => match x with
      | .v (.sc (.str y)) => if acc.length + y.length ≤ lim then fJs pr (acc ++ y) ls gh else .bad
      | _ => .bad) (f := fun ad w S1 => gJs ad mr acc (glS as ag ad as) w S1) h gd (fun _ => rfl) fun F1 S1 as1 ag1 c w h1 h2 g1 n1 l1 L1 => by
      split
      · rename_i y e
        rw [er_vsc e h1]
        by_cases hl : acc.length + y.length ≤ lim
        · rw [if_pos hl]
          have := nil_x0 n1 (sim_at (R := RE) (sim_js hr (acc ++ y)) g1 L1)
          simp only [gJs, Sc.pv, if_pos hl]
          exact this
        · rw [if_neg hl]; trivial
      · trivial) (by simp)
def aInts (ns : List Int) : List A := ns.map fun i => .sc (.int i)
theorem aInts_er (ns : List Int) : A.ers (aInts ns) = ns.map D.int := by rw [ers_map, aInts, List.map_map]; exact List.map_congr_left fun _ _ => by simp [A.er]
theorem aInts_pv (ns : List Int) : A.pvs (aInts ns) = ns.map .int := by rw [pvs_map, aInts, List.map_map]; exact List.map_congr_left fun _ _ => by simp [A.pv, Sc.pv]
theorem aInts_fp (ns : List Int) : A.fps (aInts ns) = [] := by
  rw [fps_map, List.flatMap_eq_nil_iff]
  intro x hx
  obtain ⟨i, _, rfl⟩ := List.mem_map.mp hx
  rfl
theorem aInts_ok (ns : List Int) : A.oks F S (aInts ns) := by
  rw [oks_iff]
  intro x hx
  obtain ⟨i, _, rfl⟩ := List.mem_map.mp hx
  trivial
end VL
set_option Elab.async false
set_option linter.all false
set_option maxRecDepth 100000
set_option maxHeartbeats 1000000
namespace VL
open GL (PV OB Sto Nm BT lim)
open PySem (PyData Builtin)
variable {F F' : FM} {S S' : Sto} {as as' ag ag' : List AV}
def idxN (f : Nm) : List Nm → Option Nat
  | [] => none
  | g :: r => if g = f then some 0 else (idxN f r).map (· + 1)
theorem lookN_zip {f : Nm} : ∀ (ns : List Nm) (ws : List PV), ns.length = ws.length → GL.lookN f (ns.zip ws) = (idxN f ns).bind fun i => ws[i]?
  | [], _, _ => rfl
  | g :: r, [], h => by cases h
  | g :: r, w :: ws, h => by
    show GL.lookN f ((g, w) :: r.zip ws) = _
    unfold GL.lookN idxN
    by_cases hg : g = f
    · rw [if_pos hg, if_pos hg]; rfl
    · rw [if_neg hg, if_neg hg, lookN_zip r ws (Nat.succ.inj h)]
      cases idxN f r <;> rfl
theorem wf_of {k : Fl} {n : Nat} {h : Hd} {xs : List A} (o : (A.nd k n h xs).ok F S) : h.wf xs.length = true := by
  cases k with
  | fz => simp only [A.ok] at o; exact o.2.1
  | lk => simp only [A.ok] at o; exact o.2.1
  | ow => simp only [A.ok] at o; exact o.2.1
theorem kids_of {c : ARV} {k : Fl} {n : Nat} {h : Hd} {xs : List A} (hc : c = .v (.nd k n h xs) ∨ ∃ r p, c = .pth r p ∧ atA as ag r p = some (.nd k n h xs)) : (∃ a, c = .v a ∧ a.kids = xs) ∨ ∃ r p a, c = .pth r p ∧ atA as ag r p = some a ∧ a.kids = xs := by
  rcases hc with rfl | ⟨r, p, rfl, e⟩
  · exact .inl ⟨_, rfl, rfl⟩
  · exact .inr ⟨r, p, _, rfl, e, rfl⟩
def k1Fld (tab : Nm → Nm → Bool) (f : Nm) (x : RV) : PE := fun ls gh => match val x ls gh with
  | some (.nd _ (.ins C ns) xs) => if tab C f = true then (match idxN f ns with
    | some i => (match xs[i]? with
      | some d => .ok (childR x i d) ls gh
      | none => .bad)
    | none => .bad) else .bad
  | _ => .bad
def eFld (tab : Nm → Nm → Bool) (f : Nm) (o : PE) : PE := e1 (k1Fld tab f) o
def gFld (tab : Nm → Nm → Bool) (f : Nm) (w : PV) (S1 : Sto) : GL.Out PV := match GL.insAt S1 w with
  | some (_, C, fs) => if tab C f = true then (match GL.lookN f fs with
    | some v => .ok v S1
    | none => .bad) else .bad
  | none => .bad
theorem sim_fld {q : Bool} {ma : AD → GL.ME} {pa : PE} {tab : Nm → Nm → Bool} {f : Nm} (h : SimE q ma pa) : SimE q (fun ad => GL.eFld tab f (ma ad)) (eFld tab f pa) := fun F S as ag gd =>
  SimO.weak (sim_e1 (qf := true) (ff := gFld tab f) h (by
    intro F S as ag c w g nd lt hp hk
    unfold k1Fld
    split
    · rename_i k C ns xs e
      obtain ⟨a, ea, rfl, aok, hc⟩ := val_er c e hp g hk
      obtain ⟨n, ys, rfl, rfl⟩ := er_nd ea
      by_cases ht : tab C f = true
      · rw [if_pos ht]
        split
        · rename_i i hi
          split
          · rename_i d hd
            rw [ers_map, List.getElem?_map] at hd
            obtain ⟨x, hx, rfl⟩ := Option.map_eq_some_iff.mp hd
            refine sim_child g nd lt (List.Sublist.refl _) hk (kids_of hc) hx (ok_kids aok) (fun _ => ?_)
            have ob := obj_of g.fs aok
            have hw : ns.length = ys.length := by simpa [Hd.wf] using wf_of aok
            have hl := lookN_zip (f := f) ns (A.pvs ys) (by rw [pvs_len]; exact hw)
            rw [hi, Option.bind_some, pvs_map, List.getElem?_map, hx] at hl
            have ob := AtU.ins ob
            simp only [gFld, A.pv, GL.insAt, ob, mkO, if_pos ht]
            rw [pvs_map, hl]; rfl
          · trivial
        · trivial
      · rw [if_neg ht]; trivial
    · trivial) F S as ag gd) (by simp)
theorem node_write {q : Bool} {x0 x1 : List Nat} {t : List Nat → Bool} {r : Rt} {p : List Nat} {n : Nat} {h h' : Hd} {ks ks' : List A} (hq : q = true → ∀ s, t s = true) (g : Good F S as ag) (nd : (fpS (as ++ ag) ++ x0).Nodup) (lt : ∀ m ∈ x0, m < S.length)
    (hat : atA as ag r p = some (.nd .ow n h ks)) (hw : h'.wf ks'.length = true) (ok' : A.oks F S ks') (hn : (A.fps ks' ++ x1).Nodup) (new : ∀ m ∈ A.fps ks' ++ x1, m ∈ A.fps ks ++ x0) (keepk : ∀ i s k, t (i :: s) = true → ks[i]? = some k → ks'[i]? = some k) :
    Ev q F S as ag x0 F (S.set n (mkO h' (A.pvs ks'))) (chA t r p (.nd .ow n h' ks') as ag).1 (chA t r p (.nd .ow n h' ks') as ag).2 x1 := by
  obtain ⟨root, hr, hx⟩ := at_split hat
  have aok := at_ok g hat
  have aok' := aok
  simp only [A.ok] at aok'
  have ln : n < S.length := (List.getElem?_eq_some_iff.mp aok'.1.2).1
  obtain ⟨_, L, R, e1, _, _⟩ := focus p root _ (root_ok g hr) hx rfl
  have sub1 : ((A.nd .ow n h ks).fp ++ x0).Sublist (fpS (as ++ ag) ++ x0) := by
    obtain ⟨L2, R2, f1, _⟩ := ch_fp (t := t) (p := p) (y := A.nd .ow n h ks) hr
    rw [f1, e1]
    refine List.Sublist.append_right ?_ _
    have s1 : ((A.nd .ow n h ks).fp).Sublist (L ++ (A.nd .ow n h ks).fp ++ R) := (List.sublist_append_right L _).trans (List.sublist_append_left _ _)
    exact s1.trans ((List.sublist_append_right L2 _).trans (List.sublist_append_left _ _))
  have nd1 : (n :: (A.fps ks ++ x0)).Nodup := by
    have := nd.sublist sub1
    simpa [A.fp] using this
  have nn := (List.nodup_cons.mp nd1).1
  have ne : ∀ m ∈ A.fps ks' ++ x1, m ≠ n := fun m hm e => nn (e ▸ new m hm)
  have gr : ∀ m, m ≠ n → (S.set n (mkO h' (A.pvs ks')))[m]? = S[m]? := fun m hm => List.getElem?_set_ne (fun e => hm e.symm)
  have fs : FS F (S.set n (mkO h' (A.pvs ks'))) := fun m b o e => by
    exact (g.fs m b o e).to (gr m (fun h => by subst h; rw [aok'.1.1] at e; cases e))
  have okn : A.oks F (S.set n (mkO h' (A.pvs ks'))) ks' := by
    rw [oks_iff] at ok' ⊢
    exact fun x hx => ok_frame Mono.refl (fun m hm => ⟨rfl, gr m (ne m (List.mem_append_left _ (by rw [fps_map]; exact List.mem_flatMap.mpr ⟨x, hx, hm⟩)))⟩) (ok' x hx)
  refine ev_ch hq g nd hr hx rfl rfl ?_ Mono.refl fs (by simp) ?_ ?_ ?_ ?_ ?_
  · intro s w hs hw
    cases s with
    | nil => exact hw
    | cons i s =>
      unfold getA at hw ⊢
      simp only [A.kids] at hw ⊢
      cases hk : ks[i]? with
      | none => rw [hk] at hw; cases hw
      | some k =>
        rw [keepk i s k hs hk]
        rw [hk] at hw
        exact hw
  · intro m hm hx'
    refine ⟨rfl, gr m fun e => hx' ?_⟩
    rw [e]
    exact List.mem_append_left _ (by simp [A.fp])
  · simp only [A.ok]
    exact ⟨⟨aok'.1.1, by rw [List.getElem?_set_self ln]⟩, hw, okn⟩
  · show (n :: A.fps ks' ++ x1).Nodup
    exact List.nodup_cons.mpr ⟨fun h => ne n h rfl, hn⟩
  · intro m hm
    rcases List.mem_cons.mp (show m ∈ n :: (A.fps ks' ++ x1) from hm) with rfl | h
    · exact .inl (by simp [A.fp])
    · have := new m h
      left
      simp only [A.fp, List.mem_append, List.mem_cons] at this ⊢
      rcases this with u | u <;> simp [u]
  · intro m hm
    rw [List.length_set]
    have := new m (List.mem_append_right _ hm)
    rcases List.mem_append.mp this with u | u
    · rw [fps_map] at u
      obtain ⟨x, hx, u⟩ := List.mem_flatMap.mp u
      exact fp_lt g.fs ((oks_iff ks).mp aok'.2.2 x hx) m u
    · exact lt m u
def eMt (chk : D → Bool) (m : RV → List RV → PE) (o : PE) (args : PA) : PE := fun ls gh => (o ls gh).bind fun x ls gh => match val x ls gh with
  | some d => if chk d = true then (args ls gh).bind fun ys ls gh => m x ys ls gh else .bad
  | none => .bad
def kList : D → Bool
  | .nd _ .lst _ => true
  | .nd _ .rol _ => true
  | _ => false
def SimK (cg : PV → Sto → Bool) (ck : D → Bool) : Prop := ∀ (F : FM) (S : Sto) (a : A), FS F S → a.ok F S → ck a.er = true → cg a.pv S = true
theorem sim_kList : SimK GL.kList kList := by
  intro F S a fs ok h
  cases a with
  | sc s => cases h
  | tup xs => cases h
  | nd k n hd xs =>
    have ob := obj_of fs ok
    cases hd with
    | lst => show (GL.seqAt S n).isSome = true; rw [seqAt_of (AtU.lst ob)]; rfl
    | rol => show (GL.seqAt S n).isSome = true; rw [seqAt_of' (AtU.rol ob)]; rfl
    | dct ks => cases h
    | dcn ks => cases h
    | ptp => cases h
    | ins C ns => cases h
def SimM (q : Bool) (gg : PV → GL.MF) (m : RV → List RV → PE) : Prop := ∀ (F : FM) (S : Sto) (as ag : List AV) (c : ARV) (cs : List ARV) (w : PV) (ws : List PV), Good F S as ag → (fpS (as ++ ag) ++ (c.fp ++ RA.fp cs)).Nodup → (∀ n ∈ c.fp ++ RA.fp cs, n < S.length) → c.pv as ag = some w → RA.pv as ag cs = some ws → c.ok F S → RA.ok F S cs →
  SimO q RE F S as ag (c.fp ++ RA.fp cs) (fun _ => gg w ws S) (m c.er (cs.map ARV.er) (erS as) (erS ag))
def kMt (ad : AD) (cg : PV → Sto → Bool) (gg : PV → GL.MF) (mr : AD → GL.MA) (L : GL.Ls) (w : PV) (S1 : Sto) : GL.Out PV := if cg w S1 = true then (mr ad L S1).bind fun ws S2 => gg w ws S2 else .bad
section
variable {qa qb qm : Bool} {ma : AD → GL.ME} {pa : PE} {mr : AD → GL.MA} {pr : PA} {cg : PV → Sto → Bool} {ck : D → Bool} {gg : PV → GL.MF} {m : RV → List RV → PE}
theorem sim_mt (hk : SimK cg ck) (hm : SimM qm gg m) (ha : SimE qa ma pa) (hr : SimA true mr pr) : SimE (qa && qm) (fun ad => GL.eMt cg gg (ma ad) (mr ad)) (eMt ck m pa pr) := fun F S as ag gd =>
  SimO.weak (sim_first (R' := RE) (q' := true && qm) (k := fun (x : RV) (ls gh : Ls) => match val x ls gh with
  | some d => if ck d = true then (pr ls gh).bind fun ys ls gh => m x ys ls gh else .bad
  | none => .bad) (f := fun ad w S1 => kMt ad cg gg mr (glS as ag ad as) w S1) ha gd (fun _ => rfl) fun F1 S1 as1 ag1 c w h1 h2 g1 n1 l1 L1 => by
    split
    · rename_i d e
      obtain ⟨a, rfl, rfl, aok, hc⟩ := val_er c e h1 g1 h2
      by_cases hck : ck a.er = true
      · rw [if_pos hck]
        have hcg := hk F1 S1 a g1.fs aok hck
        simp only [kMt, if_pos hcg]
        exact sim_next (R0 := RE) (R := RA) (R' := RE) (k := fun ys ls gh => m c.er ys ls gh) (f := fun ad ws S2 => gg a.pv ws S2) hr g1 c h1 h2 n1 l1 (stab_re true c (.inl rfl)) L1 fun F2 S2 as2 ag2 cs ws h1 h2 h3 h4 g2 n2 l2 L2 => hm F2 S2 as2 ag2 c cs a.pv ws g2 n2 l2 h1 h3 h2 h4
      · rw [if_neg hck]; trivial
    · trivial) (by simp)
end
def allT : List Nat → Bool := fun _ => true
def wrote (t : List Nat → Bool) (r : Rt) (p : List Nat) (y : D) (ls gh : Ls) : Out RV := let z := chD t r p y ls gh; .ok (.v .non) z.1 z.2
def mAppend (x : RV) (ys : List RV) : PE := fun ls gh => match x, ys with
  | .pth r p, [y] => (match cvR true y ls gh with
    | some (d, ls, gh) => (match atD ls gh r p with
      | some (.nd .ow .lst xs) => if xs.length < lim then wrote allT r p (.nd .ow .lst (xs ++ [d])) ls gh else .bad
      | _ => .bad)
    | none => .bad)
  | _, _ => .bad
theorem sim_wrote {q : Bool} {x0 : List Nat} {t : List Nat → Bool} {r : Rt} {p : List Nat} {y : A} {d : D} (hd : y.er = d) {o : AD → GL.Out PV} (ho : ∀ ad, o ad = .ok .non S') (ev : Ev q F S as ag x0 F' S' (chA t r p y as ag).1 (chA t r p y as ag).2 []) :
    SimO q RE F S as ag x0 o (wrote t r p d (erS as) (erS ag)) := by
  subst hd
  have e := ch_er t r p y as ag
  unfold wrote
  rw [← e]
  exact ⟨F', S', _, _, .v (.sc .non), .non, rfl, rfl, rfl, ho, rfl, trivial, ev⟩
theorem at_er' {r : Rt} {p : List Nat} {d : D} (h : atD (erS as) (erS ag) r p = some d) : ∃ a, atA as ag r p = some a ∧ a.er = d := by
  rw [at_er] at h
  exact Option.map_eq_some_iff.mp h
theorem sim_mAppend : SimM false GL.mAppend mAppend := by
  intro F S as ag c cs w ws g nd lt h1 h2 k1 k2
  unfold mAppend
  cases c with
  | v a => trivial
  | pth r p =>
    match cs with
    | [] => trivial
    | _ :: _ :: _ => trivial
    | [c2] =>
      obtain ⟨w2, t, hw, ht, rfl⟩ := seqO_cons h2
      cases ht
      have e0 : (ARV.pth r p).fp ++ RA.fp [c2] = c2.fp := List.append_nil _
      rw [e0] at nd lt ⊢
      show SimO _ _ _ _ _ _ _ _ (match cvR true c2.er (erS as) (erS ag) with
        | some (d, ls, gh) => (match atD ls gh r p with
          | some (.nd .ow .lst xs) => if xs.length < lim then wrote allT r p (.nd .ow .lst (xs ++ [d])) ls gh else .bad
          | _ => .bad)
        | none => .bad)
      cases hc : cvR true c2.er (erS as) (erS ag) with
      | none => trivial
      | some z =>
        obtain ⟨d, l1, g1⟩ := z
        obtain ⟨F1, as1, ag1, a, rfl, rfl, rfl, rfl, aok, _, ev⟩ := cv_sim0 g nd lt hw (k2 c2 List.mem_cons_self) hc
        dsimp only
        split
        · rename_i xs hx
          obtain ⟨b, hb, eb⟩ := at_er' hx
          obtain ⟨n, ys, rfl, rfl⟩ := er_nd eb
          have hpv := ev.per rfl r p w h1
          rw [hb] at hpv
          cases hpv
          have bok := at_ok ev.good hb
          have bok' := bok
          simp only [A.ok] at bok'
          by_cases hl : (A.ers ys).length < lim
          · rw [if_pos hl]
            refine SimO.preF (ev.weak (fun h => by cases h)) (q := false) ?_
            refine sim_wrote (y := .nd .ow n .lst (ys ++ [a])) (S' := S.set n (mkO .lst (A.pvs (ys ++ [a])))) (F' := F1) (by simp [A.er, ers_app, A.ers]) (fun _ => ?_) ?_
            · simp only [GL.mAppend, A.pv, lstAt_of (show S[n]? = some (.lst (A.pvs ys)) from bok'.1.2)]
              rw [if_pos (by rw [pvs_len, ← ers_len]; exact hl), pvs_app]; rfl
            · refine node_write (fun h => by cases h) ev.good ev.nd ev.lt hb rfl (oks_app bok'.2.2 ⟨aok, trivial⟩) ?_ ?_ ?_
              · rw [List.append_nil, fps_app]
                have hsub : (A.fps ys ++ A.fps [a]).Sublist (fpS (as1 ++ ag1) ++ a.fp) := by
                  obtain ⟨root, hr, hx⟩ := at_split hb
                  obtain ⟨_, L, R, e1, _, _⟩ := focus p root _ (root_ok ev.good hr) hx rfl
                  obtain ⟨L2, R2, f1, _⟩ := ch_fp (t := allT) (p := p) (y := a) hr
                  rw [f1, e1]
                  refine List.Sublist.append ?_ (by simp [A.fps])
                  have s0 : (A.fps ys).Sublist ((A.nd .ow n .lst ys).fp) := List.sublist_cons_self _ _
                  exact s0.trans (((List.sublist_append_right L _).trans (List.sublist_append_left _ R)).trans ((List.sublist_append_right L2 _).trans (List.sublist_append_left _ _)))
                exact ev.nd.sublist hsub
              · intro m hm
                rw [List.append_nil, fps_app] at hm
                simpa [A.fps] using hm
              · intro i s k _ hk
                rw [List.getElem?_append_left (List.getElem?_eq_some_iff.mp hk).1]; exact hk
          · rw [if_neg hl]; trivial
        · trivial
end VL
set_option Elab.async false
set_option linter.all false
set_option maxRecDepth 100000
set_option maxHeartbeats 1000000
namespace VL
open GL (PV OB Sto Nm BT lim)
open PySem (PyData Builtin)
variable {F F' : FM} {S S' : Sto} {as as' ag ag' : List AV}
theorem sub_node (g : Good F S as ag) {r : Rt} {p : List Nat} {x : A} (h : atA as ag r p = some x) (hs : x.shr = false) : (x.fp).Sublist (fpS (as ++ ag)) := by
  obtain ⟨root, hr, hx⟩ := at_split h
  obtain ⟨_, L, R, e1, _, _⟩ := focus p root _ (root_ok g hr) hx hs
  obtain ⟨L2, R2, f1, _⟩ := ch_fp (t := allT) (p := p) (y := x) hr
  rw [f1, e1]
  exact ((List.sublist_append_right L _).trans (List.sublist_append_left _ R)).trans ((List.sublist_append_right L2 _).trans (List.sublist_append_left _ _))
theorem sub_kids (g : Good F S as ag) {r : Rt} {p : List Nat} {n : Nat} {h : Hd} {ks : List A} (e : atA as ag r p = some (.nd .ow n h ks)) : (A.fps ks).Sublist (fpS (as ++ ag)) :=
  (List.sublist_cons_self _ _).trans (sub_node g e rfl)
def topT : List Nat → Bool := fun s => s.isEmpty
def exT (i : Nat) : List Nat → Bool := fun s => match s with
  | [] => true
  | j :: _ => decide (j ≠ i)
def wroteV (d : D) (t : List Nat → Bool) (r : Rt) (p : List Nat) (y : D) (ls gh : Ls) : Out RV := let z := chD t r p y ls gh; .ok (.v d) z.1 z.2
end VL
set_option Elab.async false
set_option linter.all false
set_option maxRecDepth 100000
set_option maxHeartbeats 1000000
namespace VL
open GL (PV OB Sto Nm BT lim)
open PySem (PyData Builtin)
variable {F F' F'' : FM} {S S' S'' : Sto} {as as' as'' ag ag' ag'' : List AV} {x0 x1 x2 : List Nat}
abbrev MS := Ls → Ls → SOut
structure Sv (F : FM) (S : Sto) (as ag : List AV) (x0 : List Nat) (F' : FM) (S' : Sto) (as' ag' : List AV) (x : List Nat) : Prop where
  good : Good F' S' as' ag'
  nd : (fpS (as' ++ ag') ++ x).Nodup
  lt : ∀ n ∈ x, n < S'.length
  mono : Mono F F'
  len : S.length ≤ S'.length
  keep : ∀ n, n < S.length → n ∉ fpS (as ++ ag) ++ x0 → F' n = F n ∧ S'[n]? = S[n]?
  new : ∀ n, n ∈ fpS (as' ++ ag') ++ x → n ∈ fpS (as ++ ag) ++ x0 ∨ S.length ≤ n
  gg : ∀ ad, glS as' ag' ad ag' = glS as ag ad ag
theorem Ev.sv {q : Bool} (e : Ev q F S as ag x0 F' S' as' ag' x1) : Sv F S as ag x0 F' S' as' ag' x1 := ⟨e.good, e.nd, e.lt, e.mono, e.len, e.keep, e.new, e.gg⟩
theorem Sv.refl (g : Good F S as ag) : Sv F S as ag [] F S as ag [] := (Ev.refl (q := true) g (good_nd g) (fun _ h => by cases h)).sv
theorem Sv.trans (a : Sv F S as ag x0 F' S' as' ag' x1) (b : Sv F' S' as' ag' x1 F'' S'' as'' ag'' x2) : Sv F S as ag x0 F'' S'' as'' ag'' x2 where
  good := b.good
  nd := b.nd
  lt := b.lt
  mono := a.mono.trans b.mono
  len := Nat.le_trans a.len b.len
  keep := fun n hn hx => by
    have h1 := a.keep n hn hx
    have h2 := b.keep n (Nat.lt_of_lt_of_le hn a.len) fun h => by
      rcases a.new n h with h | h
      · exact hx h
      · exact absurd hn (Nat.not_lt.mpr h)
    exact ⟨h2.1.trans h1.1, h2.2.trans h1.2⟩
  new := fun n hn => by
    rcases b.new n hn with h | h
    · exact a.new n h
    · exact .inr (Nat.le_trans a.len h)
  gg := fun ad => (b.gg ad).trans (a.gg ad)
def SimSO (F : FM) (S : Sto) (as ag : List AV) (x0 : List Nat) (o : AD → GL.SOut) (p : SOut) : Prop := match p with
  | .nx ls' gh' => ∃ F' S' as' ag', erS as' = ls' ∧ erS ag' = gh' ∧ (∀ ad, o ad = .nx (glS as' ag' ad as') S') ∧ Sv F S as ag x0 F' S' as' ag' []
  | .bk ls' gh' => ∃ F' S' as' ag', erS as' = ls' ∧ erS ag' = gh' ∧ (∀ ad, o ad = .bk (glS as' ag' ad as') S') ∧ Sv F S as ag x0 F' S' as' ag' []
  | .ct ls' gh' => ∃ F' S' as' ag', erS as' = ls' ∧ erS ag' = gh' ∧ (∀ ad, o ad = .ct (glS as' ag' ad as') S') ∧ Sv F S as ag x0 F' S' as' ag' []
  | .rt d gh' => ∃ F' S' ag' a, erS ag' = gh' ∧ A.er a = d ∧ (∀ ad, o ad = .rt a.pv S') ∧ a.ok F' S' ∧ Sv F S as ag x0 F' S' [] ag' a.fp
  | .exc e ls' gh' => ∃ F' S' as' ag' x, erS as' = ls' ∧ erS ag' = gh' ∧ AE.er x = e ∧ (∀ ad, o ad = .exc x.gl (glS as' ag' ad as') S') ∧ x.ok F' S' ∧ Sv F S as ag x0 F' S' as' ag' []
  | .bad => True
def SimS (m : AD → GL.MS) (p : MS) : Prop := ∀ F S as ag, Good F S as ag → SimSO F S as ag [] (fun ad => m ad (glS as ag ad as) S) (p (erS as) (erS ag))
theorem SimSO.pre {o : AD → GL.SOut} {p : SOut} (e : Sv F S as ag x0 F' S' as' ag' x1) (h : SimSO F' S' as' ag' x1 o p) : SimSO F S as ag x0 o p := by
  cases p with
  | bad => trivial
  | nx ls gh => obtain ⟨F2, S2, as2, ag2, a1, a2, a3, a4⟩ := h; exact ⟨F2, S2, as2, ag2, a1, a2, a3, e.trans a4⟩
  | bk ls gh => obtain ⟨F2, S2, as2, ag2, a1, a2, a3, a4⟩ := h; exact ⟨F2, S2, as2, ag2, a1, a2, a3, e.trans a4⟩
  | ct ls gh => obtain ⟨F2, S2, as2, ag2, a1, a2, a3, a4⟩ := h; exact ⟨F2, S2, as2, ag2, a1, a2, a3, e.trans a4⟩
  | rt d gh => obtain ⟨F2, S2, ag2, a, a1, a2, a3, a4, a5⟩ := h; exact ⟨F2, S2, ag2, a, a1, a2, a3, a4, e.trans a5⟩
  | exc e' ls gh => obtain ⟨F2, S2, as2, ag2, x, a1, a2, a3, a4, a5, a6⟩ := h; exact ⟨F2, S2, as2, ag2, x, a1, a2, a3, a4, a5, e.trans a6⟩
theorem SimSO.cg {o o' : AD → GL.SOut} {p : SOut} (h : SimSO F S as ag x0 o p) (e : ∀ ad, o' ad = o ad) : SimSO F S as ag x0 o' p := by
  have : o' = o := funext e
  rw [this]; exact h
theorem sims_at {m : AD → GL.MS} {p : MS} {L : AD → GL.Ls} (h : SimS m p) (g : Good F S as ag) (hL : ∀ ad, L ad = glS as ag ad as) : SimSO F S as ag [] (fun ad => m ad (L ad) S) (p (erS as) (erS ag)) := by
  have := h F S as ag g
  simpa only [hL] using this
def sNil : MS := fun ls gh => .nx ls gh
def sBk : MS := fun ls gh => .bk ls gh
def SOut.seq (o : SOut) (f : MS) : SOut := match o with
  | .nx ls gh => f ls gh
  | r => r
def sSeq (a b : MS) : MS := fun ls gh => (a ls gh).seq b
theorem sim_nil : SimS (fun _ => GL.sNil) sNil := fun F S as ag g => ⟨F, S, as, ag, rfl, rfl, fun _ => rfl, Sv.refl g⟩
theorem sim_bk : SimS (fun _ => GL.sBk) sBk := fun F S as ag g => ⟨F, S, as, ag, rfl, rfl, fun _ => rfl, Sv.refl g⟩
theorem sim_seq {m1 m2 : AD → GL.MS} {p1 p2 : MS} (h1 : SimS m1 p1) (h2 : SimS m2 p2) : SimS (fun ad => GL.sSeq (m1 ad) (m2 ad)) (sSeq p1 p2) := by
  intro F S as ag g
  have h := h1 F S as ag g
  show SimSO _ _ _ _ _ (fun ad => (m1 ad (glS as ag ad as) S).seq (m2 ad)) ((p1 (erS as) (erS ag)).seq p2)
  cases hp : p1 (erS as) (erS ag) with
  | bad => trivial
  | nx ls gh =>
    rw [hp] at h
    obtain ⟨F2, S2, as2, ag2, rfl, rfl, a3, a4⟩ := h
    exact SimSO.pre a4 ((h2 F2 S2 as2 ag2 a4.good).cg fun ad => by show (m1 ad _ S).seq _ = _; rw [show m1 ad (glS as ag ad as) S = _ from a3 ad]; rfl)
  | bk ls gh => rw [hp] at h; obtain ⟨F2, S2, as2, ag2, a1, a2, a3, a4⟩ := h; exact ⟨F2, S2, as2, ag2, a1, a2, fun ad => by show (m1 ad _ S).seq _ = _; rw [show m1 ad (glS as ag ad as) S = _ from a3 ad]; rfl, a4⟩
  | ct ls gh => rw [hp] at h; obtain ⟨F2, S2, as2, ag2, a1, a2, a3, a4⟩ := h; exact ⟨F2, S2, as2, ag2, a1, a2, fun ad => by show (m1 ad _ S).seq _ = _; rw [show m1 ad (glS as ag ad as) S = _ from a3 ad]; rfl, a4⟩
  | rt d gh => rw [hp] at h; obtain ⟨F2, S2, ag2, a, a1, a2, a3, a4, a5⟩ := h; exact ⟨F2, S2, ag2, a, a1, a2, fun ad => by show (m1 ad _ S).seq _ = _; rw [show m1 ad (glS as ag ad as) S = _ from a3 ad]; rfl, a4, a5⟩
  | exc e ls gh => rw [hp] at h; obtain ⟨F2, S2, as2, ag2, x, a1, a2, a3, a4, a5, a6⟩ := h; exact ⟨F2, S2, as2, ag2, x, a1, a2, a3, fun ad => by show (m1 ad _ S).seq _ = _; rw [show m1 ad (glS as ag ad as) S = _ from a4 ad]; rfl, a5, a6⟩
def Out.then {α : Type} (o : Out α) (f : α → Ls → Ls → SOut) : SOut := match o with
  | .ok a ls gh => f a ls gh
  | .exc e ls gh => .exc e ls gh
  | .bad => .bad
theorem sim_then {α β γ : Type} {R : RT α β γ} {q : Bool} {ma : AD → GL.Ls → Sto → GL.Out α} {pa : PX β} {f : AD → α → Sto → GL.SOut} {k : β → Ls → Ls → SOut} {L : AD → GL.Ls}
    (hm : SimX q R ma pa) (g : Good F S as ag) (hL : ∀ ad, L ad = glS as ag ad as)
    (hk : ∀ F' S' as' ag' c w, R.pv as' ag' c = some w → R.ok F' S' c → Good F' S' as' ag' → (fpS (as' ++ ag') ++ R.fp c).Nodup → (∀ n ∈ R.fp c, n < S'.length) → (∀ ad, L ad = glS as' ag' ad as') →
      SimSO F' S' as' ag' (R.fp c) (fun ad => f ad w S') (k (R.er c) (erS as') (erS ag'))) :
    SimSO F S as ag [] (fun ad => (ma ad (L ad) S).then (L ad) (f ad)) ((pa (erS as) (erS ag)).then k) := by
  have h := hm F S as ag g
  cases hp : pa (erS as) (erS ag) with
  | bad => trivial
  | exc e ls gh =>
    rw [hp] at h
    obtain ⟨F2, S2, as2, ag2, x, a1, a2, a3, a4, a5, a6⟩ := h
    refine ⟨F2, S2, as2, ag2, x, a1, a2, a3, fun ad => ?_, a5, a6.sv⟩
    show (ma ad (L ad) S).then (L ad) _ = _
    rw [hL, show ma ad (glS as ag ad as) S = _ from a4 ad, a6.gl]; rfl
  | ok b ls gh =>
    rw [hp] at h
    obtain ⟨F2, S2, as2, ag2, c, w, rfl, rfl, rfl, a4, a5, a6, a7⟩ := h
    have h2 := hk F2 S2 as2 ag2 c w a5 a6 a7.good a7.nd a7.lt (fun ad => (hL ad).trans (a7.gl ad).symm)
    exact SimSO.pre a7.sv (h2.cg fun ad => by
      show (ma ad (L ad) S).then (L ad) _ = _
      rw [hL, show ma ad (glS as ag ad as) S = _ from a4 ad]; rfl)
def sExpr (m : PE) : MS := fun ls gh => (m ls gh).then fun _ ls gh => .nx ls gh
theorem sim_expr {q : Bool} {ma : AD → GL.ME} {pa : PE} (h : SimE q ma pa) : SimS (fun ad => GL.sExpr (ma ad)) (sExpr pa) := fun F S as ag g =>
  sim_then (R := RE) (f := fun ad _ S1 => .nx (glS as ag ad as) S1) (k := fun _ ls gh => .nx ls gh) h g (fun _ => rfl) fun F1 S1 as1 ag1 c w h1 h2 g1 n1 l1 L1 =>
    ⟨F1, S1, as1, ag1, rfl, rfl, fun ad => congrArg (fun l => GL.SOut.nx l S1) (L1 ad), ((Ev.refl (q := true) g1 n1 l1).sub (List.nil_sublist _)).sv⟩
def sIf (c : PT) (a b : MS) : MS := fun ls gh => (c ls gh).then fun k ls gh => if k = true then a ls gh else b ls gh
theorem sim_sif {q : Bool} {tc : AD → GL.MT} {uc : PT} {m1 m2 : AD → GL.MS} {p1 p2 : MS} (hc : SimT q tc uc) (h1 : SimS m1 p1) (h2 : SimS m2 p2) : SimS (fun ad => GL.sIf (tc ad) (m1 ad) (m2 ad)) (sIf uc p1 p2) := fun F S as ag g =>
  sim_then (R := RB) (f := fun ad k S1 => if k = true then m1 ad (glS as ag ad as) S1 else m2 ad (glS as ag ad as) S1) (k := fun k ls gh => if k = true then p1 ls gh else p2 ls gh) hc g (fun _ => rfl) fun F1 S1 as1 ag1 c w e1 _ g1 n1 l1 L1 => by
    cases e1
    cases c with
    | true => exact sims_at h1 g1 L1
    | false => exact sims_at h2 g1 L1
def killR (i : Nat) : Option V → Option V
  | some (.al (.l j) p) => if j = i then none else some (.al (.l j) p)
  | z => z
def killRA (as ag : List AV) (i : Nat) : AV → AV
  | .al (.l j) p => if j = i then .un ((atA as ag (.l j) p).map A.pv) else .al (.l j) p
  | z => z
theorem killR_er (i : Nat) (z : AV) : (killRA as ag i z).er = killR i z.er := by
  cases z with
  | al r p =>
    cases r with
    | l j => simp only [killRA, AV.er, killR]; by_cases h : j = i <;> simp [h]
    | g j => rfl
  | _ => rfl
theorem killR_fp (i : Nat) (z : AV) : (killRA as ag i z).fp = z.fp := by
  cases z with
  | al r p =>
    cases r with
    | l j => simp only [killRA]; split <;> rfl
    | g j => rfl
  | _ => rfl
theorem killR_slot (i : Nat) (z : Option AV) : slotA (z.map (killRA as ag i)) = slotA z := by
  cases z with
  | none => rfl
  | some z =>
    cases z with
    | al r p =>
      cases r with
      | l j => simp only [Option.map_some, killRA]; split <;> rfl
      | g j => rfl
    | _ => rfl
theorem killR_ok (i : Nat) {z : AV} (h : z.ok F S) : (killRA as ag i z).ok F S := by
  cases z with
  | al r p =>
    cases r with
    | l j => simp only [killRA]; split <;> trivial
    | g j => trivial
  | _ => exact h
def stA (as ag : List AV) (i : Nat) (z : AV) : List AV × List AV := ((as.map (killRA as ag i)).set i z, ag.map (killRA as ag i))
def stD (ls gh : Ls) (i : Nat) (z : V) : Ls × Ls := ((ls.map (killR i)).set i (some z), gh.map (killR i))
theorem st_er {i : Nat} {z : AV} {v : V} (hz : z.er = some v) : (erS (stA as ag i z).1, erS (stA as ag i z).2) = stD (erS as) (erS ag) i v := by
  have k : ∀ zs : List AV, erS (zs.map (killRA as ag i)) = (erS zs).map (killR i) := fun zs => by
    simp only [erS, List.map_map]
    exact List.map_congr_left fun z _ => killR_er i z
  unfold stA stD
  rw [← k, ← k]
  simp only [erS, List.map_set, hz]
theorem st_root {i : Nat} {z : AV} {r : Rt} (hr : r ≠ .l i) : rootA (stA as ag i z).1 (stA as ag i z).2 r = rootA as ag r := by
  cases r with
  | l j =>
    have : i ≠ j := fun e => hr (by rw [e])
    simp only [rootA, stA]
    rw [List.getElem?_set_ne this, List.getElem?_map, killR_slot]
  | g j => simp only [rootA, stA, List.getElem?_map, killR_slot]
theorem st_glv {i : Nat} {z y : AV} (ad : AD) : glv (stA as ag i z).1 (stA as ag i z).2 ad (killRA as ag i y) = glv as ag ad y := by
  cases y with
  | al r p =>
    cases r with
    | l j =>
      by_cases h : j = i
      · simp only [killRA, if_pos h, glv]
      · simp only [killRA, if_neg h, glv]
        unfold atA
        rw [st_root (fun e => h (by cases e; rfl))]
    | g j =>
      show (atA _ _ (.g j) p).map _ = (atA as ag (.g j) p).map _
      unfold atA
      rw [st_root (by simp)]
  | _ => rfl
theorem st_gl {i : Nat} {z : AV} {w : PV} (hi : i < as.length) (ad : AD) (hz : glv (stA as ag i z).1 (stA as ag i z).2 ad z = some w) :
    glS (stA as ag i z).1 (stA as ag i z).2 ad (stA as ag i z).1 = (glS as ag ad as).set i (some w) ∧ glS (stA as ag i z).1 (stA as ag i z).2 ad (stA as ag i z).2 = glS as ag ad ag := by
  constructor
  · show ((as.map (killRA as ag i)).set i z).map _ = _
    rw [List.map_set, hz, List.map_map]
    congr 1
    exact List.map_congr_left fun y _ => st_glv ad
  · show (ag.map (killRA as ag i)).map _ = _
    rw [List.map_map]
    exact List.map_congr_left fun y _ => st_glv ad
theorem set_split {α : Type} {xs : List α} {i : Nat} {x y : α} (h : xs[i]? = some x) : ∃ A B, xs = A ++ x :: B ∧ xs.set i y = A ++ y :: B := by
  refine ⟨xs.take i, xs.drop (i + 1), take_self h, ?_⟩
  rw [List.set_eq_take_append_cons_drop, if_pos (List.getElem?_eq_some_iff.mp h).1]
theorem kill_fps (zs : List AV) (i : Nat) : fpS (zs.map (killRA as ag i)) = fpS zs := by
  unfold fpS
  rw [List.flatMap_map]
  exact congrArg List.flatten (List.map_congr_left fun z _ => killR_fp i z)
theorem sv_set {i : Nat} {z : AV} (g : Good F S as ag) (nd : (fpS (as ++ ag) ++ x0).Nodup) (lt : ∀ n ∈ x0, n < S.length) (hi : i < as.length) (zok : z.ok F S) (zal : Alive (stA as ag i z).1 (stA as ag i z).2 z)
    (hf : ∀ y, as[i]? = some y → z.fp.Sublist y.fp ∨ z.fp.Sublist x0) : Sv F S as ag x0 F S (stA as ag i z).1 (stA as ag i z).2 [] := by
  have hy : as[i]? = some as[i] := List.getElem?_eq_getElem hi
  have hk : (as.map (killRA as ag i))[i]? = some (killRA as ag i as[i]) := by rw [List.getElem?_map, hy]; rfl
  obtain ⟨A1, B1, e1, e2⟩ := set_split (y := z) hk
  have f1 : fpS as = fpS A1 ++ (as[i].fp ++ fpS B1) := by
    have : fpS (as.map (killRA as ag i)) = fpS as := kill_fps as i
    rw [← this, e1, fpS_app, fpS_cons, killR_fp]
  have f2 : fpS ((stA as ag i z).1 ++ (stA as ag i z).2) = fpS A1 ++ (z.fp ++ fpS B1) ++ fpS ag := by
    show fpS ((as.map (killRA as ag i)).set i z ++ ag.map (killRA as ag i)) = _
    rw [fpS_app, kill_fps, e2, fpS_app, fpS_cons]
  have ndn : (fpS ((stA as ag i z).1 ++ (stA as ag i z).2)).Nodup := by
    rw [f2]
    rcases hf _ hy with hs | hs
    · refine g.nd.sublist ?_
      rw [fpS_app, f1]
      exact List.Sublist.append_right (List.Sublist.append_left (List.Sublist.append_right hs _) _) _
    · have n1 : (fpS A1 ++ (as[i].fp ++ fpS B1) ++ fpS ag ++ x0).Nodup := by rw [← f1, ← fpS_app]; exact nd
      have n2 : (fpS A1 ++ fpS B1 ++ fpS ag ++ z.fp).Nodup := by
        refine n1.sublist (List.Sublist.append (List.Sublist.append_right ?_ _) hs)
        exact List.Sublist.append_left (List.sublist_append_right _ _) _
      refine (List.Perm.nodup_iff ?_).mp n2
      have : (fpS A1 ++ (fpS B1 ++ fpS ag ++ z.fp)).Perm (fpS A1 ++ (z.fp ++ (fpS B1 ++ fpS ag))) := List.Perm.append_left _ List.perm_append_comm
      simpa using this
  have mem : ∀ y ∈ (stA as ag i z).1 ++ (stA as ag i z).2, y = z ∨ ∃ y0 ∈ as ++ ag, y = killRA as ag i y0 := fun y h => by
    rcases List.mem_append.mp h with h | h
    · rcases List.mem_or_eq_of_mem_set h with h | h
      · obtain ⟨y0, h0, rfl⟩ := List.mem_map.mp h
        exact .inr ⟨y0, List.mem_append_left _ h0, rfl⟩
      · exact .inl h
    · obtain ⟨y0, h0, rfl⟩ := List.mem_map.mp h
      exact .inr ⟨y0, List.mem_append_right _ h0, rfl⟩
  refine ⟨⟨g.fs, fun y h => ?_, ndn, fun y h => ?_⟩, by rw [List.append_nil]; exact ndn, fun _ h => (by cases h), Mono.refl, Nat.le_refl _, fun _ _ _ => ⟨rfl, rfl⟩, fun n h => .inl ?_, fun ad => ?_⟩
  · rcases mem y h with rfl | ⟨y0, h0, rfl⟩
    · exact zok
    · exact killR_ok i (g.ok _ h0)
  · rcases mem y h with rfl | ⟨y0, h0, rfl⟩
    · exact zal
    · have al := g.al _ h0
      cases y0 with
      | al r p =>
        cases r with
        | l j =>
          simp only [killRA]
          split
          · trivial
          · rename_i hj
            show (atA _ _ (.l j) p).isSome = true
            unfold atA
            rw [st_root (fun e => hj (by cases e; rfl))]
            exact al
        | g j =>
          show (atA _ _ (.g j) p).isSome = true
          unfold atA
          rw [st_root (by simp)]
          exact al
      | _ => trivial
  · rw [List.append_nil, f2] at h
    rw [fpS_app, f1]
    simp only [List.mem_append] at h ⊢
    rcases h with (h | h | h) | h
    · simp [h]
    · rcases hf _ hy with hs | hs
      · have := hs.subset h; simp [this]
      · have := hs.subset h; simp [this]
    · simp [h]
    · simp [h]
  · show (ag.map (killRA as ag i)).map _ = _
    rw [List.map_map]
    exact List.map_congr_left fun y _ => st_glv ad
def setL (i : Nat) (x : RV) (ls gh : Ls) : Option (Ls × Ls) := if i < ls.length then (match x with
  | .v d => some (stD ls gh i (.v d))
  | .pth r p => if r = .l i then (match atD ls gh r p with
      | some d => some (stD ls gh i (.v d))
      | none => none) else some (stD ls gh i (.al r p))) else none
theorem setL_sim {i : Nat} {c : ARV} {w : PV} {ls' gh' : Ls} (g : Good F S as ag) (nd : (fpS (as ++ ag) ++ c.fp).Nodup) (lt : ∀ n ∈ c.fp, n < S.length) (hp : c.pv as ag = some w) (hk : c.ok F S) (h : setL i c.er (erS as) (erS ag) = some (ls', gh')) :
    ∃ as' ag', erS as' = ls' ∧ erS ag' = gh' ∧ (∀ ad, glS as' ag' ad as' = (glS as ag ad as).set i (some w)) ∧ (∀ r, r ≠ .l i → rootA as' ag' r = rootA as ag r) ∧ Sv F S as ag c.fp F S as' ag' [] := by
  unfold setL at h
  split at h
  · rename_i hi
    have hi : i < as.length := by simpa [erS] using hi
    cases c with
    | v a =>
      simp only [ARV.er, Option.some.injEq] at h
      rw [← st_er (z := .v a) rfl, Prod.mk.injEq] at h
      cases hp
      exact ⟨_, _, h.1, h.2, fun ad => (st_gl hi ad rfl).1, fun r hr => st_root hr, sv_set g nd lt hi hk trivial (fun _ _ => .inr (List.Sublist.refl _))⟩
    | pth r p =>
      simp only [ARV.er] at h
      split at h
      · rename_i hr; subst hr
        split at h
        · rename_i d hd
          obtain ⟨a, ha, rfl⟩ := at_er' hd
          simp only [Option.some.injEq] at h
          rw [← st_er (z := .v a) rfl, Prod.mk.injEq] at h
          have hp : (atA as ag (.l i) p).map A.pv = some w := hp
          rw [ha] at hp
          cases hp
          refine ⟨_, _, h.1, h.2, fun ad => (st_gl hi ad rfl).1, fun r hr => st_root hr, sv_set g nd lt hi (at_ok g ha) trivial (fun y hy => .inl ?_)⟩
          obtain ⟨root, hr, hx⟩ := at_split ha
          have hroot : y.fp = root.fp := by
            have hr : slotA as[i]? = some root := hr
            rw [hy] at hr
            cases y <;> cases hr <;> rfl
          show (A.fp a).Sublist y.fp
          rw [hroot]
          cases hs : a.shr with
          | true => rw [fp_shr (at_ok g ha) hs]; exact List.nil_sublist _
          | false =>
            obtain ⟨_, L, R, e1, _, _⟩ := focus p root a (root_ok g hr) hx hs
            rw [e1]
            exact (List.sublist_append_right L _).trans (List.sublist_append_left _ R)
        · cases h
      · rename_i hr
        simp only [Option.some.injEq] at h
        rw [← st_er (z := .al r p) rfl, Prod.mk.injEq] at h
        have hp : (atA as ag r p).map A.pv = some w := hp
        have hv : ∀ ad, glv (stA as ag i (.al r p)).1 (stA as ag i (.al r p)).2 ad (.al r p) = some w := fun ad => by
          show (atA _ _ r p).map A.pv = some w
          unfold atA at hp ⊢
          rw [st_root hr]; exact hp
        refine ⟨_, _, h.1, h.2, fun ad => (st_gl hi ad (hv ad)).1, fun r hr => st_root hr, sv_set g nd lt hi trivial ?_ (fun _ _ => .inr (List.nil_sublist _))⟩
        show (atA _ _ r p).isSome = true
        unfold atA
        rw [st_root hr]
        cases hq : atA as ag r p with
        | none => rw [hq] at hp; cases hp
        | some a => unfold atA at hq; rw [hq]; rfl
  · cases h
def sSet (i : Nat) (m : PE) : MS := fun ls gh => (m ls gh).then fun x ls gh => match setL i x ls gh with
  | some z => .nx z.1 z.2
  | none => .bad
theorem sim_set {i : Nat} {q : Bool} {ma : AD → GL.ME} {pa : PE} (h : SimE q ma pa) : SimS (fun ad => GL.sSet i (ma ad)) (sSet i pa) := fun F S as ag g =>
  sim_then (R := RE) (f := fun ad w S1 => .nx ((glS as ag ad as).set i (some w)) S1) (k := fun x ls gh => match setL i x ls gh with
  | some z => .nx z.1 z.2
  | none => .bad) h g (fun _ => rfl) fun F1 S1 as1 ag1 c w h1 h2 g1 n1 l1 L1 => by
    cases hs : setL i (RE.er c) (erS as1) (erS ag1) with
    | none => simp only [hs]; trivial
    | some z =>
      obtain ⟨as2, ag2, e1, e2, e3, _, sv⟩ := setL_sim g1 n1 l1 h1 h2 (show setL i c.er _ _ = some (z.1, z.2) from hs)
      simp only [hs]
      exact ⟨F1, S1, as2, ag2, e1, e2, fun ad => by show GL.SOut.nx ((glS as ag ad as).set i (some w)) S1 = _; rw [e3, L1], sv⟩
theorem aug_eq (i : Nat) (gg : PV → PV → Sto → GL.Out PV) (e : GL.ME) : GL.sAug i gg e = GL.sSet i (GL.eOp gg (GL.eVar i) e) := by
  funext ls S
  unfold GL.sAug GL.sSet GL.eOp GL.eVar
  cases h : ls[i]? with
  | none => rfl
  | some o =>
    cases o with
    | none => rfl
    | some w =>
      show (e ls S).then ls _ = ((e ls S).bind _).then ls _
      cases e ls S <;> rfl
def sAug (i : Nat) (g : G2) (e : PE) : MS := sSet i (eOp g (eVar i) e)
theorem sim_aug {i : Nat} {ma : AD → GL.ME} {pa : PE} {gg : PV → PV → Sto → GL.Out PV} {gp : G2} (h : SimE true ma pa) (hg : SimG true gg gp) : SimS (fun ad => GL.sAug i gg (ma ad)) (sAug i gp pa) := by
  have := sim_set (i := i) (sim_op (sim_var i) h hg)
  intro F S as ag g
  have := this F S as ag g
  have e : (fun ad => GL.sAug i gg (ma ad) (glS as ag ad as) S) = fun ad => GL.sSet i (GL.eOp gg (GL.eVar i) (ma ad)) (glS as ag ad as) S := by
    funext ad; rw [aug_eq]
  rw [e]; exact this
def dropG : Option V → Option V
  | some (.al (.l _) _) => none
  | z => z
def retV (x : RV) (ls gh : Ls) : Option (D × Ls) := match x with
  | .v d => some (d, gh.map dropG)
  | .pth (.l i) [] => (match ls[i]? with
    | some (some (.v d)) => some (d, gh.map dropG)
    | _ => none)
  | .pth r p => (match cvR false (.pth r p) ls gh with
    | some (d, _, gh) => some (d, gh.map dropG)
    | none => none)
def sRet (m : PE) : MS := fun ls gh => (m ls gh).then fun x ls gh => match retV x ls gh with
  | some z => .rt z.1 z.2
  | none => .bad
def dropA (as ag : List AV) : AV → AV
  | .al (.l j) p => .un ((atA as ag (.l j) p).map A.pv)
  | z => z
theorem drop_er (z : AV) : (dropA as ag z).er = dropG z.er := by
  cases z with
  | al r p => cases r <;> rfl
  | _ => rfl
theorem drop_fp (z : AV) : (dropA as ag z).fp = z.fp := by
  cases z with
  | al r p => cases r <;> rfl
  | _ => rfl
theorem drop_slot (z : Option AV) : slotA (z.map (dropA as ag)) = slotA z := by
  cases z with
  | none => rfl
  | some z =>
    cases z with
    | al r p => cases r <;> rfl
    | _ => rfl
theorem drop_at (j : Nat) (p : List Nat) : atA [] (ag.map (dropA as ag)) (.g j) p = atA as ag (.g j) p := by
  unfold atA
  show (slotA (ag.map (dropA as ag))[j]?).bind _ = (slotA ag[j]?).bind _
  rw [List.getElem?_map, drop_slot]
theorem sv_drop (g : Good F S as ag) (nd : (fpS (as ++ ag) ++ x0).Nodup) (lt : ∀ n ∈ x0, n < S.length) (hx : (fpS ag ++ x1).Nodup) (sub : ∀ n ∈ x1, n ∈ fpS (as ++ ag) ++ x0) (lt1 : ∀ n ∈ x1, n < S.length) : Sv F S as ag x0 F S [] (ag.map (dropA as ag)) x1 := by
  have f1 : fpS (ag.map (dropA as ag)) = fpS ag := by
    unfold fpS
    rw [List.flatMap_map]
    exact congrArg List.flatten (List.map_congr_left fun z _ => drop_fp z)
  refine ⟨⟨g.fs, fun z h => ?_, ?_, fun z h => ?_⟩, ?_, lt1, Mono.refl, Nat.le_refl _, fun _ _ _ => ⟨rfl, rfl⟩, fun n h => .inl ?_, fun ad => ?_⟩
  · obtain ⟨y, hy, rfl⟩ := List.mem_map.mp (by simpa using h)
    have := g.ok y (List.mem_append_right _ hy)
    cases y with
    | al r p => cases r <;> trivial
    | _ => exact this
  · show (fpS ([] ++ _)).Nodup
    rw [List.nil_append, f1]
    exact (List.nodup_append.mp hx).1
  · obtain ⟨y, hy, rfl⟩ := List.mem_map.mp (by simpa using h)
    have := g.al y (List.mem_append_right _ hy)
    cases y with
    | al r p =>
      cases r with
      | l j => trivial
      | g j =>
        show (atA [] _ (.g j) p).isSome = true
        rw [drop_at]; exact this
    | _ => trivial
  · rw [List.nil_append, f1]; exact hx
  · rw [List.nil_append, f1] at h
    rcases List.mem_append.mp h with t | t
    · exact List.mem_append_left _ (by rw [fpS_app]; exact List.mem_append_right _ t)
    · exact sub n t
  · show (ag.map (dropA as ag)).map _ = _
    rw [List.map_map]
    refine List.map_congr_left fun y hy => ?_
    cases y with
    | al r p =>
      cases r with
      | l j => rfl
      | g j => show (atA [] _ (.g j) p).map _ = (atA as ag (.g j) p).map _; rw [drop_at]
    | _ => rfl
theorem erS_drop : erS (ag.map (dropA as ag)) = (erS ag).map dropG := by
  simp only [erS, List.map_map]
  exact List.map_congr_left fun z _ => drop_er z
theorem sim_ret {q : Bool} {ma : AD → GL.ME} {pa : PE} (h : SimE q ma pa) : SimS (fun ad => GL.sRet (ma ad)) (sRet pa) := fun F S as ag g =>
  sim_then (R := RE) (f := fun ad w S1 => .rt w S1) (k := fun x ls gh => match retV x ls gh with
  | some z => .rt z.1 z.2
  | none => .bad) h g (fun _ => rfl) fun F1 S1 as1 ag1 c w h1 h2 g1 n1 l1 L1 => by
    have ndg : (fpS ag1 ++ c.fp).Nodup := by
      have n1 : (fpS (as1 ++ ag1) ++ c.fp).Nodup := n1
      rw [fpS_app, List.append_assoc] at n1
      exact (List.nodup_append.mp n1).2.1
    have frz : ∀ r p, c = .pth r p → ∀ d l g', cvR false (.pth r p) (erS as1) (erS ag1) = some (d, l, g') → SimSO F1 S1 as1 ag1 (RE.fp c) (fun ad => .rt w S1) (.rt d (g'.map dropG)) := fun r p hc d l g' hcv => by
      subst hc
      obtain ⟨F2, as2, ag2, a, rfl, rfl, rfl, rfl, aok, afp, ev⟩ := cv_sim0 (k := false) (c := .pth r p) g1 n1 l1 h1 h2 hcv
      have fz := afp rfl
      refine SimSO.pre ev.sv ?_
      refine ⟨F2, S1, ag2.map (dropA as2 ag2), a, erS_drop, rfl, fun _ => rfl, aok, sv_drop ev.good ev.nd ev.lt ?_ (fun n h => by rw [fz] at h; cases h) (fun n h => by rw [fz] at h; cases h)⟩
      rw [fz, List.append_nil]
      have := ev.good.nd
      rw [fpS_app] at this
      exact (List.nodup_append.mp this).2.1
    cases c with
    | v a =>
      cases h1
      exact ⟨F1, S1, ag1.map (dropA as1 ag1), a, erS_drop, rfl, fun _ => rfl, h2, sv_drop g1 n1 l1 ndg (fun n h => List.mem_append_right _ h) l1⟩
    | pth r p =>
      show SimSO _ _ _ _ _ _ (match retV (.pth r p) (erS as1) (erS ag1) with
        | some z => .rt z.1 z.2
        | none => .bad)
      cases hr : retV (.pth r p) (erS as1) (erS ag1) with
      | none => trivial
      | some z =>
        obtain ⟨d, g'⟩ := z
        dsimp only
        unfold retV at hr
        split at hr
        · rename_i heq; cases heq
        · rename_i i heq
          cases heq
          split at hr
          · rename_i d' hd
            cases hr
            simp only [erS, List.getElem?_map] at hd
            cases hi : as1[i]? with
            | none => rw [hi] at hd; cases hd
            | some y =>
              rw [hi] at hd
              cases y with
              | v a =>
                simp only [Option.map_some, AV.er, Option.some.injEq, V.v.injEq] at hd
                subst hd
                have hw : w = a.pv := by
                  have h1 : (atA as1 ag1 (.l i) []).map A.pv = some w := h1
                  have h1 : ((slotA as1[i]?).bind (getA [])).map A.pv = some w := h1
                  rw [hi] at h1
                  cases h1; rfl
                have hm : AV.v a ∈ as1 := List.mem_of_getElem? hi
                have s1 : (a.fp).Sublist (fpS as1) := by
                  unfold fpS
                  rw [List.flatMap]
                  exact List.sublist_flatten_of_mem (List.mem_map.mpr ⟨_, hm, rfl⟩)
                subst hw
                refine ⟨F1, S1, ag1.map (dropA as1 ag1), a, erS_drop, rfl, fun _ => rfl, g1.ok _ (List.mem_append_left _ hm), sv_drop g1 n1 l1 ?_ (fun n h => List.mem_append_left _ (by rw [fpS_app]; exact List.mem_append_left _ (s1.subset h))) (fun n h => fp_lt g1.fs (g1.ok _ (List.mem_append_left _ hm)) n h)⟩
                have := g1.nd
                rw [fpS_app] at this
                exact (List.Perm.nodup_iff List.perm_append_comm).mp (this.sublist (List.Sublist.append_right s1 _))
              | un o => cases hd
              | io a => cases hd
              | al r p => cases hd
              | xn C ns xs => cases hd
          · cases hr
        · rename_i r' p' _ heq
          cases heq
          split at hr
          · rename_i d' l' g'' hcv
            cases hr
            exact frz r p rfl d l' g'' hcv
          · cases hr
end VL
set_option Elab.async false
set_option linter.all false
set_option maxRecDepth 100000
set_option maxHeartbeats 1000000
namespace VL
open GL (PV OB Sto Nm BT lim)
open PySem (PyData Builtin)
variable {F F' F'' : FM} {S S' S'' : Sto} {as as' as'' ag ag' ag'' : List AV} {x0 x1 x2 : List Nat}
inductive FOut where
  | ok (d : D) (ios : List D)
  | exc (e : Exn) (ios : List D)
  | bad
abbrev MF := List V → List D → FOut
def ioD : Ls → Option (List D)
  | [] => some []
  | some (.io d) :: r => (ioD r).map (d :: ·)
  | _ => none
def endF (gh : Ls) (f : List D → FOut) : FOut := match ioD gh with
  | some ios => f ios
  | none => .bad
def fnOf (np n : Nat) (m : MS) : MF := fun vs hs => if vs.length = np then (match m (vs.map some ++ List.replicate (n - np) none) (hs.map fun d => some (.io d)) with
  | .nx _ gh => endF gh fun ios => .ok .non ios
  | .rt d gh => endF gh fun ios => .ok d ios
  | .exc e _ gh => endF gh fun ios => .exc e ios
  | _ => .bad) else .bad
def SimFn (f : GL.MF) (p : MF) : Prop := ∀ (F : FM) (S : Sto) (cs : List AV) (hs : List A) (vs : List V) (ws : List PV), Good F S cs (hs.map .io) → erS cs = vs.map some → (∀ ad, glS cs (hs.map .io) ad cs = ws.map some) → match p vs (hs.map A.er) with
  | .ok d ios => ∃ (F' : FM) (S' : Sto) (hs' : List A) (a : A), hs'.map A.er = ios ∧ A.er a = d ∧ f ws S = .ok a.pv S' ∧ a.ok F' S' ∧ Sv F S cs (hs.map .io) [] F' S' [] (hs'.map .io) a.fp
  | .exc e ios => ∃ (F' : FM) (S' : Sto) (hs' : List A) (x : AE), hs'.map A.er = ios ∧ AE.er x = e ∧ f ws S = .exc x.gl S' ∧ x.ok F' S' ∧ Sv F S cs (hs.map .io) [] F' S' [] (hs'.map .io) []
  | .bad => True
theorem ioD_er : ∀ {ag : List AV} {ios : List D}, ioD (erS ag) = some ios → ∃ hs : List A, ag = hs.map .io ∧ hs.map A.er = ios
  | [], ios, h => by cases h; exact ⟨[], rfl, rfl⟩
  | z :: r, ios, h => by
    cases z with
    | io a =>
      have h : (ioD (erS r)).map (a.er :: ·) = some ios := h
      obtain ⟨ds, hd, rfl⟩ := Option.map_eq_some_iff.mp h
      obtain ⟨hs, rfl, rfl⟩ := ioD_er hd
      exact ⟨a :: hs, rfl, rfl⟩
    | _ => cases h
theorem fpS_un (zs : List AV) (n : Nat) : fpS (zs ++ List.replicate n (.un none)) = fpS zs := by
  rw [fpS_app]
  have : fpS (List.replicate n (AV.un none)) = [] := by
    unfold fpS
    rw [List.flatMap_eq_nil_iff]
    intro z hz
    rw [List.eq_of_mem_replicate hz]; rfl
  rw [this, List.append_nil]
theorem root_un (zs : List AV) (n : Nat) (ag : List AV) (r : Rt) : rootA (zs ++ List.replicate n (.un none)) ag r = rootA zs ag r := by
  cases r with
  | g j => rfl
  | l i =>
    show slotA (zs ++ _)[i]? = slotA zs[i]?
    by_cases h : i < zs.length
    · rw [List.getElem?_append_left h]
    · rw [List.getElem?_append_right (Nat.le_of_not_lt h), List.getElem?_eq_none_iff.mpr (Nat.le_of_not_lt h), List.getElem?_replicate]
      split <;> rfl
theorem good_un (n : Nat) (g : Good F S as ag) : Good F S (as ++ List.replicate n (.un none)) ag := by
  have mem : ∀ z ∈ (as ++ List.replicate n (.un none)) ++ ag, z = .un none ∨ z ∈ as ++ ag := fun z h => by
    rcases List.mem_append.mp h with h | h
    · rcases List.mem_append.mp h with h | h
      · exact .inr (List.mem_append_left _ h)
      · exact .inl (List.eq_of_mem_replicate h)
    · exact .inr (List.mem_append_right _ h)
  refine ⟨g.fs, fun z h => ?_, ?_, fun z h => ?_⟩
  · rcases mem z h with rfl | h
    · trivial
    · exact g.ok z h
  · rw [fpS_app, fpS_un, ← fpS_app]; exact g.nd
  · rcases mem z h with rfl | h
    · trivial
    · have := g.al z h
      cases z with
      | al r p =>
        show (atA _ ag r p).isSome = true
        unfold atA
        rw [root_un]; exact this
      | _ => trivial
theorem glS_un (n : Nat) (ad : AD) (zs : List AV) : glS (as ++ List.replicate n (.un none)) ag ad zs = glS as ag ad zs := by
  refine List.map_congr_left fun z _ => ?_
  cases z with
  | al r p =>
    show (atA _ ag r p).map _ = (atA as ag r p).map _
    unfold atA
    rw [root_un]
  | _ => rfl
theorem sim_fn {np n : Nat} {m : GL.MS} {p : MS} (h : SimS (fun _ => m) p) : SimFn (GL.fnOf np n m) (fnOf np n p) := by
  intro F S cs hs vs ws g e1 e2
  unfold fnOf
  have lv : vs.length = ws.length := by
    have a := congrArg List.length e1
    have b := congrArg List.length (e2 (0, 0))
    simp [erS, glS] at a b
    omega
  by_cases hl : vs.length = np
  · rw [if_pos hl]
    have h2 := h F S (cs ++ List.replicate (n - np) (.un none)) (hs.map .io) (good_un _ g)
    have q1 : erS (cs ++ List.replicate (n - np) (.un none)) = vs.map some ++ List.replicate (n - np) none := by
      rw [← e1]
      simp [erS, AV.er]
    have q2 : erS (hs.map .io) = (hs.map A.er).map fun d => some (V.io d) := by
      simp [erS, List.map_map]
      exact fun _ _ => rfl
    have q3 : ∀ ad, glS (cs ++ List.replicate (n - np) (.un none)) (hs.map .io) ad (cs ++ List.replicate (n - np) (.un none)) = ws.map some ++ List.replicate (n - np) none := fun ad => by
      rw [glS_un, ← e2 ad]
      simp [glS, glv]
    simp only [q1, q2, q3] at h2
    have hf : ∀ o, m (ws.map some ++ List.replicate (n - np) none) S = o → GL.fnOf np n m ws S = (match o with
      | .nx _ S' => .ok .non S'
      | .rt w S' => .ok w S'
      | .exc e _ S' => .exc e S'
      | _ => .bad) := fun o ho => by
      unfold GL.fnOf
      rw [if_pos (lv ▸ hl), ho]
      all_goals (cases o <;> rfl)
    have lift : ∀ {F' : FM} {S' : Sto} {as' ag' : List AV} {x : List Nat}, Sv F S (cs ++ List.replicate (n - np) (.un none)) (hs.map .io) [] F' S' as' ag' x → Sv F S cs (hs.map .io) [] F' S' as' ag' x := fun sv =>
      ⟨sv.good, sv.nd, sv.lt, sv.mono, sv.len, fun k hk hx => sv.keep k hk (by rw [fpS_app, fpS_un, ← fpS_app]; exact hx), fun k hk => by
        have := sv.new k hk
        rwa [fpS_app, fpS_un, ← fpS_app] at this, fun ad => by rw [sv.gg, glS_un]⟩
    have dropL : ∀ {F' : FM} {S' : Sto} {as' : List AV} {hs' : List A}, Sv F S cs (hs.map .io) [] F' S' as' (hs'.map .io) [] → Sv F S cs (hs.map .io) [] F' S' [] (hs'.map .io) [] := fun {F' S' as' hs'} sv => by
      have e : (hs'.map AV.io).map (dropA as' (hs'.map .io)) = hs'.map .io := by
        rw [List.map_map]; exact List.map_congr_left fun _ _ => rfl
      have := sv.trans (sv_drop (x1 := []) sv.good sv.nd sv.lt (by
        have := sv.good.nd
        rw [fpS_app] at this
        rw [List.append_nil]; exact (List.nodup_append.mp this).2.1) (fun n h => by cases h) (fun n h => by cases h))
      rwa [e] at this
    cases hp : p (vs.map some ++ List.replicate (n - np) none) ((hs.map A.er).map fun d => some (V.io d)) with
    | bad => trivial
    | bk ls gh => trivial
    | ct ls gh => trivial
    | nx ls gh =>
      rw [hp] at h2
      obtain ⟨F', S', as', ag', rfl, rfl, a3, sv⟩ := h2
      show match endF (erS ag') _ with | .ok d ios => _ | .exc e ios => _ | .bad => True
      unfold endF
      cases hi : ioD (erS ag') with
      | none => trivial
      | some ios =>
        obtain ⟨hs', rfl, rfl⟩ := ioD_er hi
        exact ⟨F', S', hs', .sc .non, rfl, rfl, hf _ (a3 (0, 0)), trivial, dropL (lift sv)⟩
    | rt d gh =>
      rw [hp] at h2
      obtain ⟨F', S', ag', a, rfl, rfl, a3, aok, sv⟩ := h2
      show match endF (erS ag') _ with | .ok d ios => _ | .exc e ios => _ | .bad => True
      unfold endF
      cases hi : ioD (erS ag') with
      | none => trivial
      | some ios =>
        obtain ⟨hs', rfl, rfl⟩ := ioD_er hi
        exact ⟨F', S', hs', a, rfl, rfl, hf _ (a3 (0, 0)), aok, lift sv⟩
    | exc e ls gh =>
      rw [hp] at h2
      obtain ⟨F', S', as', ag', x, rfl, rfl, rfl, a3, xok, sv⟩ := h2
      show match endF (erS ag') _ with | .ok d ios => _ | .exc e ios => _ | .bad => True
      unfold endF
      cases hi : ioD (erS ag') with
      | none => trivial
      | some ios =>
        obtain ⟨hs', rfl, rfl⟩ := ioD_er hi
        exact ⟨F', S', hs', x, rfl, rfl, hf _ (a3 (0, 0)), xok, dropL (lift sv)⟩
  · rw [if_neg hl]; trivial
def callD (fn : MF) (vs : List V) (ls gh : Ls) : Out RV := match fn vs [] with
  | .ok d _ => .ok (.v d) ls gh
  | .exc e _ => .exc e ls gh
  | .bad => .bad
theorem v_list (xs : List A) : erS (xs.map .v) = ((A.ers xs).map V.v).map some := by
  rw [ers_map, erS, List.map_map, List.map_map, List.map_map]; rfl
theorem v_gl (as0 ag0 : List AV) (ad : AD) (xs : List A) : glS as0 ag0 ad (xs.map .v) = (A.pvs xs).map some := by
  rw [pvs_map, glS, List.map_map, List.map_map]; rfl
theorem v_fp (xs : List A) : fpS (xs.map .v) = A.fps xs := by rw [fps_map, fpS, List.flatMap_map]; rfl
theorem good_v (g : Good F S as ag) {xs : List A} (ok : A.oks F S xs) (nd : (A.fps xs).Nodup) : Good F S (xs.map .v) [] := by
  refine ⟨g.fs, fun z h => ?_, ?_, fun z h => ?_⟩
  · obtain ⟨x, hx, rfl⟩ := List.mem_map.mp (by simpa using h)
    exact (oks_iff xs).mp ok x hx
  · rw [List.append_nil, v_fp]; exact nd
  · obtain ⟨x, hx, rfl⟩ := List.mem_map.mp (by simpa using h)
    trivial
theorem call_sim {f : GL.MF} {fn : MF} (hf : SimFn f fn) (g : Good F S as ag) (nd : (fpS (as ++ ag) ++ x0).Nodup) (lt : ∀ n ∈ x0, n < S.length) {xs : List A} (ok : A.oks F S xs) (ndx : (A.fps xs).Nodup) (sub : ∀ n ∈ A.fps xs, n ∈ x0) :
    SimO true RE F S as ag x0 (fun _ => f (A.pvs xs) S) (callD fn ((A.ers xs).map .v) (erS as) (erS ag)) := by
  have h := hf F S (xs.map .v) [] ((A.ers xs).map .v) (A.pvs xs) (good_v g ok ndx) (v_list xs) (fun ad => v_gl _ _ ad xs)
  unfold callD
  simp only [List.map_nil] at h
  cases hp : fn ((A.ers xs).map .v) [] with
  | bad => trivial
  | exc e ios =>
    rw [hp] at h
    obtain ⟨F', S', hs', x, _, rfl, a3, xok, sv⟩ := h
    refine ⟨F', S', as, ag, x, rfl, rfl, rfl, fun _ => a3, xok, ?_⟩
    exact ev_same g nd sv.mono sv.good.fs sv.len (fun n hn hx => sv.keep n hn (by rw [List.append_nil, List.append_nil, v_fp]; exact fun h => hx (sub n h))) List.nodup_nil (fun n h => by cases h) (fun n h => by cases h)
  | ok d ios =>
    rw [hp] at h
    obtain ⟨F', S', hs', a, _, rfl, a3, aok, sv⟩ := h
    refine ⟨F', S', as, ag, .v a, a.pv, rfl, rfl, rfl, fun _ => a3, rfl, aok, ?_⟩
    refine ev_same g nd sv.mono sv.good.fs sv.len (fun n hn hx => sv.keep n hn (by rw [List.append_nil, List.append_nil, v_fp]; exact fun h => hx (sub n h))) ((List.nodup_append.mp sv.nd).2.1) (fun n h => ?_) sv.lt
    rcases sv.new n (List.mem_append_right _ h) with u | u
    · rw [List.append_nil, List.append_nil, v_fp] at u
      exact .inl (sub n u)
    · exact .inr u
def eCall (fn : MF) (dws : List PV) (args : PA) : PE := fun ls gh => (args ls gh).bind fun xs ls gh => match cvL true xs ls gh with
  | some (ds, ls, gh) => callD fn ((ds ++ dOfs dws).map .v) ls gh
  | none => .bad
section
variable {q : Bool} {mr : AD → GL.MA} {pr : PA} {f : GL.MF} {fn : MF} {dws : List PV}
theorem call_args (hf : SimFn f fn) (hd : rigs dws = true) (g : Good F S as ag) {cs : List ARV} {ws : List PV} (nd : (fpS (as ++ ag) ++ RA.fp cs).Nodup) (lt : ∀ n ∈ RA.fp cs, n < S.length) (h1 : RA.pv as ag cs = some ws) (h2 : RA.ok F S cs) :
    SimO true RE F S as ag (RA.fp cs) (fun _ => f (ws ++ dws) S) (match cvL true (cs.map ARV.er) (erS as) (erS ag) with
      | some (ds, ls, gh) => callD fn ((ds ++ dOfs dws).map .v) ls gh
      | none => .bad) := by
  cases hc : cvL true (cs.map ARV.er) (erS as) (erS ag) with
  | none => trivial
  | some t =>
    obtain ⟨ds, l2, g2⟩ := t
    obtain ⟨F2, as2, ag2, xs, rfl, rfl, rfl, rfl, xok, xfp, ev⟩ := cvL_sim g nd lt h1 h2 hc
    refine SimO.pre ev ?_
    have e1 : A.ers xs ++ dOfs dws = A.ers (xs ++ aOfs dws) := by rw [ers_app, aOfs_er]
    have e2 : A.pvs xs ++ dws = A.pvs (xs ++ aOfs dws) := by rw [pvs_app, aOfs_pv hd]
    have e3 : A.fps (xs ++ aOfs dws) = A.fps xs := by rw [fps_app, (aOfs_fp (F := F) (S := S) dws).1, List.append_nil]
    dsimp only
    rw [e1, e2]
    exact call_sim hf ev.good ev.nd ev.lt (oks_app xok (aOfs_fp dws).2) (by rw [e3]; exact (List.nodup_append.mp ev.nd).2.1) (by rw [e3]; exact fun n h => h)
theorem sim_call (hf : SimFn f fn) (hd : rigs dws = true) (h : SimA q mr pr) : SimE q (fun ad => GL.eCall f dws (mr ad)) (eCall fn dws pr) := fun F S as ag gd =>
  SimO.weak (sim_first (R' := RE) (q' := true) (k := fun xs ls gh => match cvL true xs ls gh with
  | some (ds, ls, gh) => callD fn ((ds ++ dOfs dws).map .v) ls gh
  | none => .bad) (f := fun ad ws S1 => f (ws ++ dws) S1) h gd (fun _ => rfl) fun F1 S1 as1 ag1 cs ws h1 h2 g1 n1 l1 L1 => call_args hf hd g1 n1 l1 h1 h2) (by simp)
def isIns (C m : Nm) : D → Bool
  | .nd _ (.ins D ns) _ => decide (D = C) && (idxN m ns).isNone
  | _ => false
def eMeth (C m : Nm) (fn : MF) (dws : List PV) (o : PE) (args : PA) : PE := fun ls gh => (o ls gh).bind fun x ls gh => match val x ls gh with
  | some d => if isIns C m d = true then (args ls gh).bind fun xs ls gh => (match cvL true (x :: xs) ls gh with
    | some (ds, ls, gh) => callD fn ((ds ++ dOfs dws).map .v) ls gh
    | none => .bad) else .bad
  | none => .bad
def gMeth (C m : Nm) (ad : AD) (f : GL.MF) (dws : List PV) (mr : AD → GL.MA) (L : GL.Ls) (w : PV) (S1 : Sto) : GL.Out PV := match GL.insAt S1 w with
  | some (_, D, fs) => if D = C then (match GL.lookN m fs with
    | none => (mr ad L S1).bind fun ws S2 => f (w :: (ws ++ dws)) S2
    | some _ => .bad) else .bad
  | none => .bad
theorem isIns_gl {C m : Nm} {a : A} (fs : FS F S) (ok : a.ok F S) (h : isIns C m a.er = true) : ∃ n fs', GL.insAt S a.pv = some (n, C, fs') ∧ GL.lookN m fs' = none := by
  cases a with
  | sc s => cases h
  | tup xs => cases h
  | nd k n hd xs =>
    cases hd with
    | ins D ns =>
      obtain ⟨h1, h2⟩ := Bool.and_eq_true_iff.mp (show (decide (D = C) && (idxN m ns).isNone) = true from h)
      have e := of_decide_eq_true h1
      subst e
      have ob := obj_of fs ok
      have hw : ns.length = xs.length := by simpa [Hd.wf] using wf_of ok
      refine ⟨n, ns.zip (A.pvs xs), ?_, ?_⟩
      · have ob := AtU.ins ob
        simp only [GL.insAt, A.pv, ob, mkO]
      · rw [lookN_zip ns _ (by rw [pvs_len]; exact hw), Option.isNone_iff_eq_none.mp h2]; rfl
    | _ => cases h
theorem sim_meth {C m : Nm} {qa : Bool} {ma : AD → GL.ME} {pa : PE} (hf : SimFn f fn) (hd : rigs dws = true) (ha : SimE qa ma pa) (hr : SimA true mr pr) : SimE qa (fun ad => GL.eMeth C m f dws (ma ad) (mr ad)) (eMeth C m fn dws pa pr) := fun F S as ag gd =>
  SimO.weak (sim_first (R' := RE) (q' := true && true) (k := fun (x : RV) (ls gh : Ls) => match val x ls gh with
  | some d => if isIns C m d = true then (pr ls gh).bind fun xs ls gh => (match cvL true (x :: xs) ls gh with
    | some (ds, ls, gh) => callD fn ((ds ++ dOfs dws).map .v) ls gh
    | none => .bad) else .bad
  | none => .bad) (f := fun ad w S1 => gMeth C m ad f dws mr (glS as ag ad as) w S1) ha gd (fun _ => rfl) fun F1 S1 as1 ag1 c w h1 h2 g1 n1 l1 L1 => by
    split
    · rename_i d e
      obtain ⟨a, rfl, rfl, aok, hc⟩ := val_er c e h1 g1 h2
      by_cases hi : isIns C m a.er = true
      · rw [if_pos hi]
        obtain ⟨n, fs', e1, e2⟩ := isIns_gl g1.fs aok hi
        have eg : ∀ ad, gMeth C m ad f dws mr (glS as ag ad as) a.pv S1 = (mr ad (glS as ag ad as) S1).bind fun ws S2 => f (a.pv :: (ws ++ dws)) S2 := fun ad => by
          unfold gMeth
          simp only [e1, e2, if_true]
        simp only [eg]
        refine sim_next (R0 := RE) (R := RA) (R' := RE) (k := fun xs ls gh => (match cvL true (RE.er c :: xs) ls gh with
    | some (ds, ls, gh) => callD fn ((ds ++ dOfs dws).map .v) ls gh
    | none => .bad)) (f := fun ad ws S2 => f (a.pv :: (ws ++ dws)) S2) hr g1 c h1 h2 n1 l1 (stab_re true c (.inl rfl)) L1 fun F2 S2 as2 ag2 cs ws h1 h2 h3 h4 g2 n2 l2 L2 => ?_
        exact call_args (cs := c :: cs) (ws := a.pv :: ws) hf hd g2 n2 l2 (seqO_mk h1 h3) (fun c' hc' => by
          rcases List.mem_cons.mp hc' with rfl | h
          · exact h2
          · exact h4 c' h)
      · rw [if_neg hi]; trivial
    · trivial) (by simp)
def makeD (fn : MF) (C : Nm) (ds : List D) (ls gh : Ls) : Out RV := match fn (.al (.g 0) [] :: ds.map .v) [.nd .ow (.ins C []) []] with
  | .ok (.sc .non) [d] => .ok (.v d) ls gh
  | .exc e [_] => .exc e ls gh
  | _ => .bad
theorem make_sim {C : Nm} (hf : SimFn f fn) (g : Good F S as ag) (nd : (fpS (as ++ ag) ++ x0).Nodup) (lt : ∀ n ∈ x0, n < S.length) {xs : List A} (ok : A.oks F S xs) (ndx : (A.fps xs).Nodup) (sub : ∀ n ∈ A.fps xs, n ∈ x0) :
    SimO true RE F S as ag x0 (fun _ => (f (.loc S.length :: A.pvs xs) (S ++ [.ins C []])).bind fun r S2 => match r with
      | .non => .ok (.loc S.length) S2
      | _ => .bad) (makeD fn C (A.ers xs) (erS as) (erS ag)) := by
  have lx : ∀ n ∈ A.fps xs, n < S.length := fun n hn => lt n (sub n hn)
  have hF : F S.length = none := by
    cases hf : F S.length with
    | none => rfl
    | some z =>
      obtain ⟨b, o⟩ := z
      have := (g.fs _ _ _ hf).lt
      omega
  have gr : ∀ n, n < S.length → (S ++ [OB.ins C []])[n]? = S[n]? := fun n hn => List.getElem?_append_left hn
  have fs : FS F (S ++ [OB.ins C []]) := fun n b o e => by
    have := g.fs n b o e
    exact this.to (gr n this.lt)
  have ok' : A.oks F (S ++ [OB.ins C []]) xs := by
    rw [oks_iff] at ok ⊢
    exact fun x hx => ok_frame Mono.refl (fun n hn => ⟨rfl, gr n (lx n (by rw [fps_map]; exact List.mem_flatMap.mpr ⟨x, hx, hn⟩))⟩) (ok x hx)
  have nok : (A.nd .ow S.length (.ins C []) []).ok F (S ++ [OB.ins C []]) := by
    simp only [A.ok]
    exact ⟨⟨hF, by rw [List.getElem?_append_right (Nat.le_refl _)]; simp [mkO]⟩, rfl, trivial⟩
  let cs : List AV := .al (.g 0) [] :: xs.map .v
  let hs : List A := [.nd .ow S.length (.ins C []) []]
  have fpc : fpS (cs ++ hs.map .io) = A.fps xs ++ [S.length] := by
    show fpS ((.al (.g 0) [] :: xs.map .v) ++ [.io (.nd .ow S.length (.ins C []) [])]) = _
    rw [fpS_app, fpS_cons, v_fp]
    simp [AV.fp, fpS, A.fp, A.fps]
  have gc : Good F (S ++ [OB.ins C []]) cs (hs.map .io) := by
    refine ⟨fs, fun z h => ?_, ?_, fun z h => ?_⟩
    · rcases List.mem_append.mp h with h | h
      · rcases List.mem_cons.mp h with rfl | h
        · trivial
        · obtain ⟨x, hx, rfl⟩ := List.mem_map.mp h
          exact (oks_iff xs).mp ok' x hx
      · obtain ⟨x, hx, rfl⟩ := List.mem_map.mp h
        rw [List.mem_singleton.mp hx]
        exact nok
    · rw [fpc]
      refine List.nodup_append.mpr ⟨ndx, by simp, fun n h m h' e => ?_⟩
      rw [List.mem_singleton.mp h'] at e
      have := lx n h
      omega
    · rcases List.mem_append.mp h with h | h
      · rcases List.mem_cons.mp h with rfl | h
        · rfl
        · obtain ⟨x, hx, rfl⟩ := List.mem_map.mp h
          trivial
      · obtain ⟨x, hx, rfl⟩ := List.mem_map.mp h
        trivial
  have h := hf F (S ++ [OB.ins C []]) cs hs (.al (.g 0) [] :: (A.ers xs).map .v) (.loc S.length :: A.pvs xs) gc (by
      show AV.er _ :: erS (xs.map .v) = _
      rw [v_list]; rfl) (fun ad => by
      show glv _ _ ad (.al (.g 0) []) :: glS _ _ ad (xs.map .v) = _
      rw [v_gl]; rfl)
  have hs_er : hs.map A.er = [D.nd .ow (.ins C []) []] := rfl
  rw [hs_er] at h
  unfold makeD
  have lift : ∀ {F' : FM} {S' : Sto} {hs' : List A} {x y : List Nat}, Sv F (S ++ [OB.ins C []]) cs (hs.map .io) [] F' S' [] (hs'.map .io) x → y.Nodup → (∀ n ∈ y, n ∈ fpS ([] ++ hs'.map .io) ++ x) → (∀ n ∈ y, n < S'.length) → Ev true F S as ag x0 F' S' as ag y := fun {F' S' hs' x y} sv ndy sy ly => by
    refine ev_same g nd sv.mono sv.good.fs (Nat.le_trans (by simp) sv.len) (fun n hn hx => ?_) ndy (fun n h => ?_) ly
    · have := sv.keep n (by rw [List.length_append]; omega) (by
        rw [List.append_nil, fpc]
        intro hq
        rcases List.mem_append.mp hq with u | u
        · exact hx (sub n u)
        · rw [List.mem_singleton.mp u] at hn; omega)
      rw [gr n hn] at this
      exact this
    · rcases sv.new n (sy n h) with u | u
      · rw [List.append_nil, fpc] at u
        rcases List.mem_append.mp u with u | u
        · exact .inl (sub n u)
        · rw [List.mem_singleton.mp u]; exact .inr (Nat.le_refl _)
      · rw [List.length_append] at u; exact .inr (by omega)
  split
  · rename_i d hp
    rw [hp] at h
    obtain ⟨F', S', hs', a, e1, e2, a3, aok, sv⟩ := h
    have hs1 : ∃ b, hs' = [b] ∧ b.er = d := by
      cases hs' with
      | nil => cases e1
      | cons b r =>
        cases r with
        | nil => simp at e1; exact ⟨b, rfl, e1⟩
        | cons _ _ => cases e1
    obtain ⟨b, rfl, rfl⟩ := hs1
    have ha : a = .sc .non := er_sc e2
    subst ha
    have hb : b.pv = .loc S.length := by
      have := sv.gg (0, 0)
      have h1 : some b.pv = some (PV.loc S.length) := by
        have := congrArg (fun l : List (Option PV) => l.head?) this
        simpa [glS, glv, A.pv, hs] using this
      exact Option.some.inj h1
    have bok : b.ok F' S' := sv.good.ok (.io b) (by simp)
    refine ⟨F', S', as, ag, .v b, .loc S.length, rfl, rfl, rfl, fun _ => ?_, by show some b.pv = _; rw [hb], bok, ?_⟩
    · show (f (.loc S.length :: A.pvs xs) (S ++ [.ins C []])).bind _ = _
      rw [a3]; rfl
    · show Ev true F S as ag x0 F' S' as ag b.fp
      have fpb : fpS ([] ++ [AV.io b]) = b.fp := by simp [fpS, AV.fp]
      refine lift sv ?_ (fun n h => ?_) (fun n h => fp_lt sv.good.fs bok n h)
      · have := sv.good.nd
        rw [show ([b].map AV.io) = [AV.io b] from rfl, fpb] at this; exact this
      · rw [show ([b].map AV.io) = [AV.io b] from rfl, fpb]; exact List.mem_append_left _ h
  · rename_i e d hp
    rw [hp] at h
    obtain ⟨F', S', hs', x, e1, rfl, a3, xok, sv⟩ := h
    refine ⟨F', S', as, ag, x, rfl, rfl, rfl, fun _ => ?_, xok, lift sv List.nodup_nil (fun n h => by cases h) (fun n h => by cases h)⟩
    show (f (.loc S.length :: A.pvs xs) (S ++ [.ins C []])).bind _ = _
    rw [a3]; rfl
  · trivial
def eMake (C : Nm) (fn : MF) (dws : List PV) (args : PA) : PE := fun ls gh => (args ls gh).bind fun xs ls gh => match cvL true xs ls gh with
  | some (ds, ls, gh) => makeD fn C (ds ++ dOfs dws) ls gh
  | none => .bad
theorem sim_make {C : Nm} (hf : SimFn f fn) (hd : rigs dws = true) (h : SimA q mr pr) : SimE q (fun ad => GL.eMake C f dws (mr ad)) (eMake C fn dws pr) := fun F S as ag gd =>
  SimO.weak (sim_first (R' := RE) (q' := true) (k := fun xs ls gh => match cvL true xs ls gh with
  | some (ds, ls, gh) => makeD fn C (ds ++ dOfs dws) ls gh
  | none => .bad) (f := fun ad ws S1 => (f (.loc S1.length :: (ws ++ dws)) (S1 ++ [.ins C []])).bind fun r S2 => match r with
    | .non => .ok (.loc S1.length) S2
    | _ => .bad) h gd (fun _ => rfl) fun F1 S1 as1 ag1 cs ws h1 h2 g1 n1 l1 L1 => by
    cases hc : cvL true (RA.er cs) (erS as1) (erS ag1) with
    | none => simp only [hc]; trivial
    | some t =>
      obtain ⟨ds, l2, g2⟩ := t
      obtain ⟨F2, as2, ag2, xs, rfl, rfl, rfl, rfl, xok, xfp, ev⟩ := cvL_sim g1 n1 l1 h1 h2 hc
      simp only [hc]
      refine SimO.pre ev ?_
      have e1 : A.ers xs ++ dOfs dws = A.ers (xs ++ aOfs dws) := by rw [ers_app, aOfs_er]
      have e2 : A.pvs xs ++ dws = A.pvs (xs ++ aOfs dws) := by rw [pvs_app, aOfs_pv hd]
      have e3 : A.fps (xs ++ aOfs dws) = A.fps xs := by rw [fps_app, (aOfs_fp (F := F) (S := S) dws).1, List.append_nil]
      rw [e1, e2]
      exact make_sim hf ev.good ev.nd ev.lt (oks_app xok (aOfs_fp dws).2) (by rw [e3]; exact (List.nodup_append.mp ev.nd).2.1) (by rw [e3]; exact fun n h => h)) (by simp)
end
end VL
set_option Elab.async false
set_option linter.all false
set_option maxRecDepth 100000
set_option maxHeartbeats 1000000
namespace VL
open GL (PV OB Sto Nm BT lim)
open PySem (PyData Builtin)
variable {F F' F'' : FM} {S S' S'' : Sto} {as as' as'' ag ag' ag'' : List AV} {x0 x1 x2 : List Nat}
abbrev MG := RV → Ls → Ls → Option (Ls × Ls)
abbrev MGs := List D → Ls → Ls → Option (Ls × Ls)
def gN (i : Nat) : MG := setL i
def gsNil : MGs := fun ds ls gh => match ds with
  | [] => some (ls, gh)
  | _ => none
def gsCons (g : MG) (r : MGs) : MGs := fun ds ls gh => match ds with
  | d :: t => (match g (.v d) ls gh with
    | some z => r t z.1 z.2
    | none => none)
  | [] => none
def gT (r : MGs) : MG := fun x ls gh => match x with
  | .v (.tup ds) => r ds ls gh
  | _ => none
def Apart (vs : List Nat) (as ag as' ag' : List AV) : Prop := (∀ ad j, j ∉ vs → (glS as' ag' ad as')[j]? = (glS as ag ad as)[j]?) ∧ (∀ r, (∀ v ∈ vs, r ≠ .l v) → rootA as' ag' r = rootA as ag r) ∧ as'.length = as.length
theorem Apart.refl {vs : List Nat} : Apart vs as ag as ag := ⟨fun _ _ _ => rfl, fun _ _ => rfl, rfl⟩
theorem Apart.trans {vs : List Nat} (a : Apart vs as ag as' ag') (b : Apart vs as' ag' as'' ag'') : Apart vs as ag as'' ag'' := ⟨fun ad j h => (b.1 ad j h).trans (a.1 ad j h), fun r h => (b.2.1 r h).trans (a.2.1 r h), b.2.2.trans a.2.2⟩
def SimGt (vs : List Nat) (gg : GL.MG) (g : MG) : Prop := ∀ (F : FM) (S : Sto) (as ag : List AV) (c : ARV) (w : PV) (ls' gh' : Ls), Good F S as ag → (fpS (as ++ ag) ++ c.fp).Nodup → (∀ n ∈ c.fp, n < S.length) → c.pv as ag = some w → c.ok F S → g c.er (erS as) (erS ag) = some (ls', gh') →
  ∃ as' ag', erS as' = ls' ∧ erS ag' = gh' ∧ (∀ ad, gg w (glS as ag ad as) = some (glS as' ag' ad as')) ∧ Apart vs as ag as' ag' ∧ Sv F S as ag c.fp F S as' ag' []
def SimGs (vs : List Nat) (gg : GL.MGs) (g : MGs) : Prop := ∀ (F : FM) (S : Sto) (as ag : List AV) (ks : List A) (ls' gh' : Ls), Good F S as ag → A.fps ks = [] → A.oks F S ks → g (A.ers ks) (erS as) (erS ag) = some (ls', gh') →
  ∃ as' ag', erS as' = ls' ∧ erS ag' = gh' ∧ (∀ ad, gg (A.pvs ks) (glS as ag ad as) = some (glS as' ag' ad as')) ∧ Apart vs as ag as' ag' ∧ Sv F S as ag [] F S as' ag' []
theorem sim_gN {vs : List Nat} {i : Nat} (h : i ∈ vs) : SimGt vs (GL.gN i) (gN i) := by
  intro F S as ag c w ls' gh' g nd lt hp hk e
  obtain ⟨as', ag', e1, e2, e3, e4, sv⟩ := setL_sim g nd lt hp hk e
  refine ⟨as', ag', e1, e2, fun ad => by rw [e3]; rfl, ⟨fun ad j hj => ?_, fun r hr => e4 r (hr i h), by have := congrArg List.length (e3 (0, 0)); simpa [glS] using this⟩, sv⟩
  rw [e3, List.getElem?_set_ne]
  exact fun q => hj (q ▸ h)
theorem sim_gsnil {vs : List Nat} : SimGs vs GL.gsNil gsNil := by
  intro F S as ag ks ls' gh' g _ _ e
  cases ks with
  | nil => cases e; exact ⟨as, ag, rfl, rfl, fun _ => rfl, .refl, Sv.refl g⟩
  | cons _ _ => cases e
theorem sim_gscons {vs : List Nat} {gg : GL.MG} {g : MG} {gr : GL.MGs} {r : MGs} (hg : SimGt vs gg g) (hr : SimGs vs gr r) : SimGs vs (GL.gsCons gg gr) (gsCons g r) := by
  intro F S as ag ks ls' gh' gd fk ok e
  cases ks with
  | nil => cases e
  | cons k t =>
    have e : (match g (.v k.er) (erS as) (erS ag) with
      | some z => r (A.ers t) z.1 z.2
      | none => none) = some (ls', gh') := e
    have fk : k.fp ++ A.fps t = [] := fk
    obtain ⟨f1, f2⟩ := List.append_eq_nil_iff.mp fk
    cases hc : g (.v k.er) (erS as) (erS ag) with
    | none => rw [hc] at e; cases e
    | some z =>
      rw [hc] at e
      have ef : (ARV.v k).fp = [] := f1
      obtain ⟨as1, ag1, a1, a2, a3, a4, a5⟩ := hg F S as ag (.v k) k.pv z.1 z.2 gd (by rw [ef, List.append_nil]; exact gd.nd) (by rw [ef]; intro n h; cases h) rfl ok.1 hc
      dsimp only at e
      rw [← a1, ← a2] at e
      obtain ⟨as2, ag2, b1, b2, b3, b4, b5⟩ := hr F S as1 ag1 t ls' gh' a5.good f2 ok.2 e
      rw [ef] at a5
      refine ⟨as2, ag2, b1, b2, fun ad => ?_, a4.trans b4, a5.trans b5⟩
      show (match gg k.pv (glS as ag ad as) with | some ls1 => gr (A.pvs t) ls1 | none => none) = _
      rw [a3]; exact b3 ad
theorem sim_gT {vs : List Nat} {gr : GL.MGs} {r : MGs} (hr : SimGs vs gr r) : SimGt vs (GL.gT gr) (gT r) := by
  intro F S as ag c w ls' gh' g nd lt hp hk e
  unfold gT at e
  split at e
  · rename_i ds hc
    obtain ⟨a, rfl, ea, rfl⟩ := er_v hc hp
    obtain ⟨ks, rfl, rfl⟩ := er_tup ea
    have h : A.fps ks = [] ∧ A.oks F S ks := hk
    obtain ⟨as', ag', e1, e2, e3, e4, sv⟩ := hr F S as ag ks ls' gh' g h.1 h.2 e
    have ef : (ARV.v (.tup ks)).fp = [] := h.1
    rw [ef]
    exact ⟨as', ag', e1, e2, fun ad => e3 ad, e4, sv⟩
  · cases e
def RI : RT GL.Wk (List D) (List A × (Nat → Sto → Bool)) := ⟨fun c => A.ers c.1, fun _ _ c => some ⟨A.pvs c.1, c.2⟩, fun F S c => A.fps c.1 = [] ∧ A.oks F S c.1 ∧ ∀ F' S' j, Mono F F' → FS F' S' → c.2 j S' = true, fun _ => []⟩
abbrev PI := PX (List D)
abbrev SimI (q : Bool) (m : AD → GL.MI) (p : PI) : Prop := SimX q RI m p
mutual
theorem beq_self : ∀ w : PV, PV.beq w w = true
  | .tup xs => by rw [PV.beq]; exact beqs_self xs
  | .xn a b c d e => by simp [PV.beq, beqs_self e]
  | .non => rfl
  | .bl b => by simp [PV.beq]
  | .int _ => by simp [PV.beq]
  | .str _ => by simp [PV.beq]
  | .loc _ => by simp [PV.beq]
  | .gl _ => by simp [PV.beq]
  | .ty _ => by simp [PV.beq]
theorem beqs_self : ∀ w : List PV, PV.beqs w w = true
  | [] => rfl
  | x :: r => by simp [PV.beqs, beq_self x, beqs_self r]
end
def frzSeq (x : RV) (ls gh : Ls) : Option ((Kd × List D) × Ls × Ls) := match cvR false x ls gh with
  | some (d, ls, gh) => (seqD d).map fun k => (k, ls, gh)
  | none => none
def FzG (F : FM) : Kd → PV → List PV → Prop
  | .tup, w, ws => w = .tup ws
  | .lst, w, ws => ∃ n, w = .loc n ∧ F n = some (true, .lst ws)
  | .rol, w, ws => ∃ n, w = .loc n ∧ F n = some (true, .rol ws)
theorem frzSeq_sim {c : ARV} {w : PV} {k : Kd} {ds : List D} {ls' gh' : Ls} (g : Good F S as ag) (nd : (fpS (as ++ ag) ++ c.fp).Nodup) (lt : ∀ n ∈ c.fp, n < S.length) (hp : c.pv as ag = some w) (hk : c.ok F S) (h : frzSeq c.er (erS as) (erS ag) = some ((k, ds), ls', gh')) :
    ∃ (F' : FM) (as' ag' : List AV) (ks : List A), erS as' = ls' ∧ erS ag' = gh' ∧ A.ers ks = ds ∧ A.fps ks = [] ∧ A.oks F' S ks ∧ Ev true F S as ag c.fp F' S as' ag' [] ∧
      FzG F' k w (A.pvs ks) := by
  unfold frzSeq at h
  cases hc : cvR false c.er (erS as) (erS ag) with
  | none => rw [hc] at h; cases h
  | some t =>
    obtain ⟨d, l2, g2⟩ := t
    rw [hc] at h
    obtain ⟨F', as', ag', a, rfl, rfl, rfl, rfl, aok, afp, ev⟩ := cv_sim0 (k := false) g nd lt hp hk hc
    simp only [Option.map_eq_some_iff, Prod.mk.injEq] at h
    obtain ⟨z, hz, rfl, rfl, rfl⟩ := h
    have fz := afp rfl
    rw [fz] at ev
    cases a with
    | sc s => simp [A.er, seqD] at hz
    | tup xs =>
      simp only [A.er, seqD, Option.some.injEq, Prod.mk.injEq] at hz
      obtain ⟨rfl, rfl⟩ := hz
      have aok : A.fps xs = [] ∧ A.oks F' S xs := aok
      exact ⟨F', as', ag', xs, rfl, rfl, rfl, aok.1, aok.2, ev, rfl⟩
    | nd fl n hd xs =>
      cases fl with
      | ow => simp [A.fp] at fz
      | lk => simp [A.fp] at fz
      | fz =>
        simp only [A.ok] at aok
        cases hd with
        | lst =>
          simp only [A.er, seqD, Option.some.injEq, Prod.mk.injEq] at hz
          obtain ⟨rfl, rfl⟩ := hz
          exact ⟨F', as', ag', xs, rfl, rfl, rfl, aok.2.2.1, aok.2.2.2, ev, n, rfl, aok.1⟩
        | rol =>
          simp only [A.er, seqD, Option.some.injEq, Prod.mk.injEq] at hz
          obtain ⟨rfl, rfl⟩ := hz
          exact ⟨F', as', ag', xs, rfl, rfl, rfl, aok.2.2.1, aok.2.2.2, ev, n, rfl, aok.1⟩
        | dct ks => simp [A.er, seqD] at hz
        | dcn ks => simp [A.er, seqD] at hz
        | ptp => simp [A.er, seqD] at hz
        | ins C ns => simp [A.er, seqD] at hz
def kSeq (f : Kd → List D → Option (List D)) (x : RV) (ls gh : Ls) : Out (List D) := match frzSeq x ls gh with
  | some ((k, xs), ls, gh) => (match f k xs with
    | some ys => .ok ys ls gh
    | none => .bad)
  | none => .bad
def iSeq (m : PE) : PI := fun ls gh => (m ls gh).bind fun x ls gh => kSeq (fun _ xs => some xs) x ls gh
theorem fz_lst {n : Nat} {xs : List PV} (h : F n = some (true, .lst xs)) (j : Nat) : ∀ F' S', Mono F F' → FS F' S' → GL.isLst n xs j S' = true := fun F' S' m fs => by
  unfold GL.isLst
  rw [(fs _ _ _ (m _ _ _ h)).lst]; exact beqs_self xs
def gSeqI (w : PV) (S1 : Sto) : GL.Out GL.Wk := match w with
  | .tup xs => .ok ⟨xs, GL.always⟩ S1
  | .loc n => (match S1[n]? with
    | some (.lst xs) => .ok ⟨xs, GL.isLst n xs⟩ S1
    | some (.rol xs) => .ok ⟨xs, GL.always⟩ S1
    | _ => .bad)
  | _ => .bad
theorem sim_okI {q : Bool} (ev : Ev true F S as ag x0 F' S' as' ag' []) {ks : List A} {chk : Nat → Sto → Bool} {ds : List D} {ls gh : Ls} {o : AD → GL.Out GL.Wk} (ho : ∀ ad, o ad = .ok ⟨A.pvs ks, chk⟩ S') (e0 : A.ers ks = ds) (e1 : erS as' = ls) (e2 : erS ag' = gh) (fk : A.fps ks = []) (ok : A.oks F' S' ks) (hc : ∀ F'' S'' j, Mono F' F'' → FS F'' S'' → chk j S'' = true) :
    SimO q RI F S as ag x0 o (.ok ds ls gh) :=
  ⟨F', S', as', ag', (ks, chk), ⟨A.pvs ks, chk⟩, e1, e2, e0, ho, rfl, ⟨fk, ok, hc⟩, ev.weak fun _ => rfl⟩
section
variable {qa qb : Bool} {ma mb : AD → GL.ME} {pa pb : PE}
theorem sim_iseq (h : SimE qa ma pa) : SimI qa (fun ad => GL.iSeq (ma ad)) (iSeq pa) := fun F S as ag gd =>
  SimO.weak (sim_first (R' := RI) (q' := true) (k := fun x ls gh => kSeq (fun _ xs => some xs) x ls gh) (f := fun ad w S1 => gSeqI w S1) h gd (fun _ => rfl) fun F1 S1 as1 ag1 c w h1 h2 g1 n1 l1 L1 => by
    show SimO _ _ _ _ _ _ _ _ (kSeq (fun _ xs => some xs) c.er (erS as1) (erS ag1))
    unfold kSeq
    cases hc : frzSeq c.er (erS as1) (erS ag1) with
    | none => trivial
    | some t =>
      obtain ⟨⟨k, ds⟩, l2, g2⟩ := t
      obtain ⟨F2, as2, ag2, ks, e1, e2, e0, fk, ok, ev, hw⟩ := frzSeq_sim g1 n1 l1 h1 h2 hc
      cases k with
      | tup =>
        have hw : w = .tup (A.pvs ks) := hw
        subst hw
        exact sim_okI ev (ks := ks) (chk := GL.always) (fun _ => rfl) e0 e1 e2 fk ok (fun _ _ _ _ _ => rfl)
      | lst =>
        obtain ⟨n, rfl, hF⟩ := hw
        exact sim_okI ev (ks := ks) (chk := GL.isLst n (A.pvs ks)) (fun _ => by simp only [gSeqI, (ev.good.fs _ _ _ hF).lst]) e0 e1 e2 fk ok (fun F'' S'' j m fs => fz_lst hF j F'' S'' m fs)
      | rol =>
        obtain ⟨n, rfl, hF⟩ := hw
        exact sim_okI ev (ks := ks) (chk := GL.always) (fun _ => by simp only [gSeqI, (ev.good.fs _ _ _ hF).rol]) e0 e1 e2 fk ok (fun _ _ _ _ _ => rfl)) (by simp)
def rngD (lo hi : Int) : List D := (List.range (hi - lo).toNat).map fun (i : Nat) => D.int (lo + (i : Nat))
def rngI (lo hi : Int) : List Int := (List.range (hi - lo).toNat).map fun (i : Nat) => lo + (i : Nat)
theorem rng_er (lo hi : Int) : A.ers (aInts (rngI lo hi)) = rngD lo hi := by rw [aInts_er]; unfold rngI rngD; rw [List.map_map]; rfl
theorem rng_pv (lo hi : Int) : A.pvs (aInts (rngI lo hi)) = GL.rngL lo hi := by rw [aInts_pv]; unfold rngI GL.rngL; rw [List.map_map]; rfl
def k1R (x : RV) (ls gh : Ls) : Out (List D) := match x with
  | .v (.sc (.int j)) => if (decide (-GL.med ≤ j) && decide (j < GL.med)) = true then .ok (rngD 0 j) ls gh else .bad
  | _ => .bad
def iR1 (m : PE) : PI := fun ls gh => (m ls gh).bind fun x ls gh => k1R x ls gh
def g1R (w : PV) (S1 : Sto) : GL.Out GL.Wk := match w with
  | .int j => if (decide (-GL.med ≤ j) && decide (j < GL.med)) = true then .ok ⟨GL.rngL 0 j, GL.always⟩ S1 else .bad
  | _ => .bad
theorem sim_ir1 (h : SimE qa ma pa) : SimI qa (fun ad => GL.iR1 (ma ad)) (iR1 pa) := fun F S as ag gd =>
  SimO.weak (sim_first (R' := RI) (q' := true) (k := fun x ls gh => k1R x ls gh) (f := fun ad w S1 => g1R w S1) h gd (fun _ => rfl) fun F1 S1 as1 ag1 c w h1 h2 g1 n1 l1 L1 => by
    show SimO _ _ _ _ _ _ _ _ (k1R c.er (erS as1) (erS ag1))
    unfold k1R
    split
    · rename_i j e
      rw [er_vsc e h1]
      by_cases hl : (decide (-GL.med ≤ j) && decide (j < GL.med)) = true
      · rw [if_pos hl]
        refine sim_okI ((Ev.refl g1 n1 l1).sub (List.nil_sublist _)) (ks := aInts (rngI 0 j)) (chk := GL.always) (fun _ => ?_) (rng_er 0 j) rfl rfl (aInts_fp _) (aInts_ok _) (fun _ _ _ _ _ => rfl)
        simp only [g1R, Sc.pv, if_pos hl, rng_pv]
      · rw [if_neg hl]; trivial
    · trivial) (by simp)
end
def forV (g : MG) (body : MS) : List D → MS
  | [], ls, gh => .nx ls gh
  | d :: r, ls, gh => match g (.v d) ls gh with
    | none => .bad
    | some z => (match body z.1 z.2 with
      | .nx ls2 gh2 => forV g body r ls2 gh2
      | .ct ls2 gh2 => forV g body r ls2 gh2
      | .bk ls2 gh2 => .nx ls2 gh2
      | q => q)
theorem forV_sim {vs : List Nat} {gg : GL.MG} {g : MG} {mb : AD → GL.MS} {pb : MS} {chk : Nat → Sto → Bool} (hg : SimGt vs gg g) (hb : SimS mb pb) : ∀ (ks : List A) (i : Nat) (F : FM) (S : Sto) (as ag : List AV), Good F S as ag → A.fps ks = [] → A.oks F S ks → (∀ F' S' j, Mono F F' → FS F' S' → chk j S' = true) →
    SimSO F S as ag [] (fun ad => GL.forGo chk gg (mb ad) i (A.pvs ks) (glS as ag ad as) S) (forV g pb (A.ers ks) (erS as) (erS ag))
  | [], i, F, S, as, ag, gd, _, _, hc => by
    refine ⟨F, S, as, ag, rfl, rfl, fun ad => ?_, Sv.refl gd⟩
    show GL.forGo chk gg (mb ad) i [] _ S = _
    rw [GL.forGo, if_pos (hc F S i Mono.refl gd.fs)]
  | k :: t, i, F, S, as, ag, gd, fk, ok, hc => by
    have fk : k.fp ++ A.fps t = [] := fk
    obtain ⟨f1, f2⟩ := List.append_eq_nil_iff.mp fk
    have ef : (ARV.v k).fp = [] := f1
    show SimSO _ _ _ _ _ _ (match g (.v k.er) (erS as) (erS ag) with
    | none => .bad
    | some z => (match pb z.1 z.2 with
      | .nx ls2 gh2 => forV g pb (A.ers t) ls2 gh2
      | .ct ls2 gh2 => forV g pb (A.ers t) ls2 gh2
      | .bk ls2 gh2 => .nx ls2 gh2
      | q => q))
    cases hz : g (.v k.er) (erS as) (erS ag) with
    | none => trivial
    | some z =>
      obtain ⟨as1, ag1, a1, a2, a3, _, a5⟩ := hg F S as ag (.v k) k.pv z.1 z.2 gd (by rw [ef, List.append_nil]; exact gd.nd) (by rw [ef]; intro n h; cases h) rfl ok.1 hz
      rw [ef] at a5
      dsimp only
      rw [← a1, ← a2]
      have h2 := hb F S as1 ag1 a5.good
      have hgo : ∀ ad, GL.forGo chk gg (mb ad) i (A.pvs (k :: t)) (glS as ag ad as) S = (match mb ad (glS as1 ag1 ad as1) S with
        | .nx ls2 S2 => GL.forGo chk gg (mb ad) (i + 1) (A.pvs t) ls2 S2
        | .ct ls2 S2 => GL.forGo chk gg (mb ad) (i + 1) (A.pvs t) ls2 S2
        | .bk ls2 S2 => .nx ls2 S2
        | q => q) := fun ad => by
        show GL.forGo chk gg (mb ad) i (k.pv :: A.pvs t) _ S = _
        rw [GL.forGo, if_pos (hc F S i Mono.refl gd.fs), a3]
        all_goals (dsimp only; cases mb ad (glS as1 ag1 ad as1) S <;> rfl)
      refine SimSO.pre a5 ?_
      cases hp : pb (erS as1) (erS ag1) with
      | bad => trivial
      | nx ls gh =>
        rw [hp] at h2
        obtain ⟨F2, S2, as2, ag2, rfl, rfl, b3, sv⟩ := h2
        refine SimSO.pre sv ((forV_sim hg hb t (i + 1) F2 S2 as2 ag2 sv.good f2 (oks_mono sv.mono ok.2 f2) (fun F' S' j m fs => hc F' S' j (sv.mono.trans m) fs)).cg fun ad => ?_)
        rw [hgo]
        rw [show mb ad (glS as1 ag1 ad as1) S = _ from b3 ad]
      | ct ls gh =>
        rw [hp] at h2
        obtain ⟨F2, S2, as2, ag2, rfl, rfl, b3, sv⟩ := h2
        refine SimSO.pre sv ((forV_sim hg hb t (i + 1) F2 S2 as2 ag2 sv.good f2 (oks_mono sv.mono ok.2 f2) (fun F' S' j m fs => hc F' S' j (sv.mono.trans m) fs)).cg fun ad => ?_)
        rw [hgo]
        rw [show mb ad (glS as1 ag1 ad as1) S = _ from b3 ad]
      | bk ls gh =>
        rw [hp] at h2
        obtain ⟨F2, S2, as2, ag2, e1, e2, b3, sv⟩ := h2
        exact ⟨F2, S2, as2, ag2, e1, e2, fun ad => (hgo ad).trans (by rw [show mb ad (glS as1 ag1 ad as1) S = _ from b3 ad]), sv⟩
      | rt d gh =>
        rw [hp] at h2
        obtain ⟨F2, S2, ag2, a, e1, e2, b3, aok, sv⟩ := h2
        exact ⟨F2, S2, ag2, a, e1, e2, fun ad => (hgo ad).trans (by rw [show mb ad (glS as1 ag1 ad as1) S = _ from b3 ad]), aok, sv⟩
      | exc e ls gh =>
        rw [hp] at h2
        obtain ⟨F2, S2, as2, ag2, x, e1, e2, e3, b3, xok, sv⟩ := h2
        exact ⟨F2, S2, as2, ag2, x, e1, e2, e3, fun ad => (hgo ad).trans (by rw [show mb ad (glS as1 ag1 ad as1) S = _ from b3 ad]), xok, sv⟩
def sFor (it : PI) (g : MG) (body : MS) : MS := fun ls gh => (it ls gh).then fun ds ls gh => forV g body ds ls gh
theorem sim_for {vs : List Nat} {q : Bool} {mi : AD → GL.MI} {pi : PI} {gg : GL.MG} {g : MG} {mb : AD → GL.MS} {pb : MS} (hi : SimI q mi pi) (hg : SimGt vs gg g) (hb : SimS mb pb) : SimS (fun ad => GL.sFor (mi ad) gg (mb ad)) (sFor pi g pb) := fun F S as ag gd =>
  sim_then (R := RI) (f := fun ad t S1 => GL.forGo t.chk gg (mb ad) 0 t.items (glS as ag ad as) S1) (k := fun ds ls gh => forV g pb ds ls gh) hi gd (fun _ => rfl) fun F1 S1 as1 ag1 c w h1 h2 g1 n1 l1 L1 => by
    cases h1
    obtain ⟨fk, ok, hc⟩ := h2
    exact (forV_sim hg hb c.1 0 F1 S1 as1 ag1 g1 fk ok hc).cg fun ad => by show GL.forGo c.2 gg (mb ad) 0 (A.pvs c.1) (glS as ag ad as) S1 = _; rw [L1]
def whileL (c : PT) (body : MS) : Nat → MS
  | 0, _, _ => .bad
  | n + 1, ls, gh => (c ls gh).then fun k ls gh => if k = true then (match body ls gh with
      | .nx ls2 gh2 => whileL c body n ls2 gh2
      | .ct ls2 gh2 => whileL c body n ls2 gh2
      | .bk ls2 gh2 => .nx ls2 gh2
      | r => r) else .nx ls gh
def kWh (ad : AD) (mc : AD → GL.MT) (mb : AD → GL.MS) (n : Nat) (L : GL.Ls) (k : Bool) (S1 : Sto) : GL.SOut := if k = true then (match mb ad L S1 with
      | .nx ls2 S2 => GL.whileL (mc ad) (mb ad) n ls2 S2
      | .ct ls2 S2 => GL.whileL (mc ad) (mb ad) n ls2 S2
      | .bk ls2 S2 => .nx ls2 S2
      | r => r) else .nx L S1
theorem sim_while {q : Bool} {mc : AD → GL.MT} {pc : PT} {mb : AD → GL.MS} {pb : MS} (hc : SimT q mc pc) (hb : SimS mb pb) : ∀ n, SimS (fun ad => GL.whileL (mc ad) (mb ad) n) (whileL pc pb n)
  | 0 => fun _ _ _ _ _ => trivial
  | n + 1 => fun F S as ag gd =>
    sim_then (R := RB) (f := fun ad k S1 => kWh ad mc mb n (glS as ag ad as) k S1) (k := fun k ls gh => if k = true then (match pb ls gh with
      | .nx ls2 gh2 => whileL pc pb n ls2 gh2
      | .ct ls2 gh2 => whileL pc pb n ls2 gh2
      | .bk ls2 gh2 => .nx ls2 gh2
      | r => r) else .nx ls gh) hc gd (fun _ => rfl) fun F1 S1 as1 ag1 c w h1 _ g1 n1 l1 L1 => by
      cases h1
      cases c with
      | false => exact ⟨F1, S1, as1, ag1, rfl, rfl, fun ad => congrArg (fun l => GL.SOut.nx l S1) (L1 ad), Sv.refl g1⟩
      | true =>
        have h2 := hb F1 S1 as1 ag1 g1
        have e0 : ∀ ad, kWh ad mc mb n (glS as ag ad as) true S1 = (match mb ad (glS as1 ag1 ad as1) S1 with
          | .nx ls2 S2 => GL.whileL (mc ad) (mb ad) n ls2 S2
          | .ct ls2 S2 => GL.whileL (mc ad) (mb ad) n ls2 S2
          | .bk ls2 S2 => .nx ls2 S2
          | r => r) := fun ad => by unfold kWh; rw [if_pos rfl, L1]
        show SimSO _ _ _ _ _ (fun ad => kWh ad mc mb n (glS as ag ad as) true S1) (match pb (erS as1) (erS ag1) with
          | .nx ls2 gh2 => whileL pc pb n ls2 gh2
          | .ct ls2 gh2 => whileL pc pb n ls2 gh2
          | .bk ls2 gh2 => .nx ls2 gh2
          | r => r)
        cases hp : pb (erS as1) (erS ag1) with
        | bad => trivial
        | nx ls gh =>
          rw [hp] at h2
          obtain ⟨F2, S2, as2, ag2, rfl, rfl, b3, sv⟩ := h2
          exact SimSO.pre sv ((sim_while hc hb n F2 S2 as2 ag2 sv.good).cg fun ad => (e0 ad).trans (by rw [show mb ad (glS as1 ag1 ad as1) S1 = _ from b3 ad]))
        | ct ls gh =>
          rw [hp] at h2
          obtain ⟨F2, S2, as2, ag2, rfl, rfl, b3, sv⟩ := h2
          exact SimSO.pre sv ((sim_while hc hb n F2 S2 as2 ag2 sv.good).cg fun ad => (e0 ad).trans (by rw [show mb ad (glS as1 ag1 ad as1) S1 = _ from b3 ad]))
        | bk ls gh =>
          rw [hp] at h2
          obtain ⟨F2, S2, as2, ag2, e1, e2, b3, sv⟩ := h2
          exact ⟨F2, S2, as2, ag2, e1, e2, fun ad => (e0 ad).trans (by rw [show mb ad (glS as1 ag1 ad as1) S1 = _ from b3 ad]), sv⟩
        | rt d gh =>
          rw [hp] at h2
          obtain ⟨F2, S2, ag2, a, e1, e2, b3, aok, sv⟩ := h2
          exact ⟨F2, S2, ag2, a, e1, e2, fun ad => (e0 ad).trans (by rw [show mb ad (glS as1 ag1 ad as1) S1 = _ from b3 ad]), aok, sv⟩
        | exc e ls gh =>
          rw [hp] at h2
          obtain ⟨F2, S2, as2, ag2, x, e1, e2, e3, b3, xok, sv⟩ := h2
          exact ⟨F2, S2, as2, ag2, x, e1, e2, e3, fun ad => (e0 ad).trans (by rw [show mb ad (glS as1 ag1 ad as1) S1 = _ from b3 ad]), xok, sv⟩
end VL
set_option Elab.async false
set_option linter.all false
set_option maxRecDepth 100000
set_option maxHeartbeats 1000000
namespace VL
open GL (PV OB Sto Nm BT lim)
open PySem (PyData Builtin)
variable {F F' F'' : FM} {S S' S'' : Sto} {as as' as'' ag ag' ag'' : List AV} {x0 x1 x2 : List Nat}
theorem RA_app {as ag : List AV} : ∀ {cs : List ARV} {c : ARV} {ws : List PV} {w : PV}, RA.pv as ag cs = some ws → c.pv as ag = some w → RA.pv as ag (cs ++ [c]) = some (ws ++ [w])
  | [], c, ws, w, h1, h2 => by cases h1; exact seqO_mk h2 rfl
  | d :: r, c, ws, w, h1, h2 => by
    obtain ⟨v, t, hv, ht, rfl⟩ := seqO_cons h1
    exact seqO_mk hv (RA_app (cs := r) ht h2)
theorem sim_thenN {ma : AD → GL.ME} {pa : PE} {f : AD → PV → Sto → GL.SOut} {k : RV → Ls → Ls → SOut} {L : AD → GL.Ls} {cs : List ARV} {ws : List PV}
    (hm : SimE true ma pa) (g : Good F S as ag) (h1 : RA.pv as ag cs = some ws) (h2 : RA.ok F S cs) (nd : (fpS (as ++ ag) ++ RA.fp cs).Nodup) (lt : ∀ n ∈ RA.fp cs, n < S.length) (hL : ∀ ad, L ad = glS as ag ad as)
    (hk : ∀ F' S' as' ag' c w, RA.pv as' ag' (cs ++ [c]) = some (ws ++ [w]) → RA.ok F' S' (cs ++ [c]) → Good F' S' as' ag' → (fpS (as' ++ ag') ++ RA.fp (cs ++ [c])).Nodup → (∀ n ∈ RA.fp (cs ++ [c]), n < S'.length) → (∀ ad, L ad = glS as' ag' ad as') →
      SimSO F' S' as' ag' (RA.fp (cs ++ [c])) (fun ad => f ad w S') (k c.er (erS as') (erS ag'))) :
    SimSO F S as ag (RA.fp cs) (fun ad => (ma ad (L ad) S).then (L ad) (f ad)) ((pa (erS as) (erS ag)).then k) := by
  have h := hm F S as ag g
  have hfr : ∀ {F' : FM} {S' : Sto} {as' ag' : List AV} {x : List Nat}, Ev true F S as ag [] F' S' as' ag' x → Ev true F S as ag (RA.fp cs) F' S' as' ag' (RA.fp cs ++ x) := fun e => by
    have := e.frame (z := RA.fp cs) (by rw [List.append_nil]; exact nd) lt
    rwa [List.append_nil] at this
  cases hp : pa (erS as) (erS ag) with
  | bad => trivial
  | exc e ls gh =>
    rw [hp] at h
    obtain ⟨F2, S2, as2, ag2, x, a1, a2, a3, a4, a5, a6⟩ := h
    refine ⟨F2, S2, as2, ag2, x, a1, a2, a3, fun ad => ?_, a5, ((hfr a6).sub (List.nil_sublist _)).sv⟩
    show (ma ad (L ad) S).then (L ad) _ = _
    rw [hL, show ma ad (glS as ag ad as) S = _ from a4 ad, a6.gl]; rfl
  | ok b ls gh =>
    rw [hp] at h
    obtain ⟨F2, S2, as2, ag2, c, w, rfl, rfl, rfl, a4, a5, a6, a7⟩ := h
    have st := stab_ra true cs (.inl rfl) F S as ag [] F2 S2 as2 ag2 _ ws a7 g (by rw [List.append_nil]; exact nd) h1 h2
    have ev := hfr a7
    have e0 : RA.fp (cs ++ [c]) = RA.fp cs ++ c.fp := by show List.flatMap _ _ = _; rw [List.flatMap_append]; simp; rfl
    have h3 := hk F2 S2 as2 ag2 c w (RA_app st.1 a5) (fun d hd => by
      rcases List.mem_append.mp hd with t | t
      · exact st.2 d t
      · rw [List.mem_singleton.mp t]; exact a6) a7.good (by rw [e0]; exact ev.nd) (by rw [e0]; exact ev.lt) (fun ad => (hL ad).trans (a7.gl ad).symm)
    rw [e0] at h3
    exact SimSO.pre ev.sv (h3.cg fun ad => by
      show (ma ad (L ad) S).then (L ad) _ = _
      rw [hL, show ma ad (glS as ag ad as) S = _ from a4 ad]; rfl)
theorem node_put {t : List Nat → Bool} {r : Rt} {p : List Nat} {n : Nat} {h h' : Hd} {ks ks' : List A} {a : A} (g : Good F S as ag) (nd : (fpS (as ++ ag) ++ a.fp).Nodup) (lt : ∀ m ∈ a.fp, m < S.length) (aok : a.ok F S)
    (hat : atA as ag r p = some (.nd .ow n h ks)) (hw : h'.wf ks'.length = true) (hc : (∃ m, m < ks.length ∧ ks' = ks.set m a ∧ t = exT m) ∨ (ks' = ks ++ [a] ∧ t = allT)) :
    Ev false F S as ag a.fp F (S.set n (mkO h' (A.pvs ks'))) (chA t r p (.nd .ow n h' ks') as ag).1 (chA t r p (.nd .ow n h' ks') as ag).2 [] := by
  have bok := at_ok g hat
  simp only [A.ok] at bok
  have sk := sub_kids g hat
  have nda : (A.fps ks ++ a.fp).Nodup := nd.sublist (List.Sublist.append_right sk _)
  rcases hc with ⟨m, hm, rfl, rfl⟩ | ⟨rfl, rfl⟩
  · have hx : ks[m]? = some ks[m] := List.getElem?_eq_getElem hm
    obtain ⟨L, R, e1, e2⟩ := flat_set hx
    refine node_write (fun h => by cases h) g nd lt hat hw ?_ ?_ ?_ ?_
    · rw [oks_iff]
      intro x hx
      rcases List.mem_or_eq_of_mem_set hx with h | h
      · exact (oks_iff ks).mp bok.2.2 x h
      · rw [h]; exact aok
    · rw [List.append_nil, e2]
      rw [e1] at nda
      have n2 : (L ++ R ++ a.fp).Nodup := nda.sublist (List.Sublist.append_right (List.Sublist.append_right (List.sublist_append_left _ _) _) _)
      refine (List.Perm.nodup_iff ?_).mp n2
      have : (L ++ (R ++ a.fp)).Perm (L ++ (a.fp ++ R)) := List.Perm.append_left _ List.perm_append_comm
      simpa using this
    · intro k hk
      rw [List.append_nil, e2] at hk
      rw [e1]
      simp only [List.mem_append] at hk ⊢
      rcases hk with (h | h) | h <;> simp [h]
    · intro i s k hs hk
      have : i ≠ m := of_decide_eq_true hs
      rw [List.getElem?_set_ne (fun e => this e.symm)]; exact hk
  · refine node_write (fun h => by cases h) g nd lt hat hw (oks_app bok.2.2 ⟨aok, trivial⟩) ?_ ?_ ?_
    · rw [List.append_nil, fps_app]; simpa [A.fps] using nda
    · intro k hk
      rw [List.append_nil, fps_app] at hk
      simpa [A.fps] using hk
    · intro i s k _ hk
      rw [List.getElem?_append_left (List.getElem?_eq_some_iff.mp hk).1]; exact hk
def nxD (z : Ls × Ls) : SOut := .nx z.1 z.2
theorem sim_nxD {t : List Nat → Bool} {r : Rt} {p : List Nat} {y : A} {d : D} (hd : y.er = d) {L : AD → GL.Ls} {o : AD → GL.SOut} (ho : ∀ ad, o ad = .nx (L ad) S') (hL : ∀ ad, L ad = glS as ag ad as) (ev : Ev false F S as ag x0 F' S' (chA t r p y as ag).1 (chA t r p y as ag).2 []) :
    SimSO F S as ag x0 o (nxD (chD t r p d (erS as) (erS ag))) := by
  subst hd
  have e := ch_er t r p y as ag
  rw [← e]
  exact ⟨F', S', _, _, rfl, rfl, fun ad => by rw [ho, hL, ev.gl], ev.sv⟩
def putIx (x y k : RV) (ls gh : Ls) : SOut := match y, k with
  | .pth r p, .v (.sc (.int j)) => (match cvR true x ls gh with
    | some (d, ls, gh) => (match atD ls gh r p with
      | some (.nd .ow .lst xs) => (match L2.ixN xs.length j with
        | some m => if m < xs.length then nxD (chD (exT m) r p (.nd .ow .lst (xs.set m d)) ls gh) else .bad
        | none => .bad)
      | _ => .bad)
    | none => .bad)
  | _, _ => .bad
def sSub (o i e : PE) : MS := fun ls gh => (e ls gh).then fun x ls gh => (o ls gh).then fun y ls gh => (i ls gh).then fun k ls gh => putIx x y k ls gh
def gPutIx (L : GL.Ls) (w l k : PV) (S3 : Sto) : GL.SOut := match l, k with
  | .loc n, .int j => (match GL.lstAt S3 n with
    | some xs => (match L2.ixN xs.length j with
      | some m => .nx L (S3.set n (.lst (xs.set m w)))
      | none => .bad)
    | none => .bad)
  | _, _ => .bad
theorem ers_set (xs : List A) (m : Nat) (a : A) : A.ers (xs.set m a) = (A.ers xs).set m a.er := by rw [ers_map, ers_map, List.map_set]
theorem pvs_set (xs : List A) (m : Nat) (a : A) : A.pvs (xs.set m a) = (A.pvs xs).set m a.pv := by rw [pvs_map, pvs_map, List.map_set]
theorem three {as ag : List AV} {c1 c2 c3 : ARV} {w1 w2 w3 : PV} (h : RA.pv as ag (([c1] ++ [c2]) ++ [c3]) = some (([w1] ++ [w2]) ++ [w3])) : c1.pv as ag = some w1 ∧ c2.pv as ag = some w2 ∧ c3.pv as ag = some w3 := by
  obtain ⟨a, t, ha, ht, e⟩ := seqO_cons h
  cases e
  obtain ⟨b, t2, hb, ht2, e⟩ := seqO_cons ht
  cases e
  obtain ⟨c, t3, hc, ht3, e⟩ := seqO_cons ht2
  cases e
  exact ⟨ha, hb, hc⟩
theorem two {as ag : List AV} {c1 c2 : ARV} {w1 w2 : PV} (h : RA.pv as ag ([c1] ++ [c2]) = some ([w1] ++ [w2])) : c1.pv as ag = some w1 ∧ c2.pv as ag = some w2 := by
  obtain ⟨a, t, ha, ht, e⟩ := seqO_cons h
  cases e
  obtain ⟨b, t2, hb, ht2, e⟩ := seqO_cons ht
  cases e
  exact ⟨ha, hb⟩
theorem sub1 (c1 : ARV) (r : List ARV) : (c1.fp).Sublist (RA.fp (c1 :: r)) := List.sublist_append_left _ _
theorem preSub (g : Good F S as ag) (nd : (fpS (as ++ ag) ++ x0).Nodup) (lt : ∀ n ∈ x0, n < S.length) (sub : x1.Sublist x0) {o : AD → GL.SOut} {p : SOut} (h : SimSO F S as ag x1 o p) : SimSO F S as ag x0 o p :=
  SimSO.pre ((Ev.refl (q := true) g nd lt).sub sub).sv h
theorem putIx_sim {c1 c2 c3 : ARV} {w1 w2 w3 : PV} {L : AD → GL.Ls} (g : Good F S as ag) (nd : (fpS (as ++ ag) ++ RA.fp (([c1] ++ [c2]) ++ [c3])).Nodup) (lt : ∀ n ∈ RA.fp (([c1] ++ [c2]) ++ [c3]), n < S.length) (h : RA.pv as ag (([c1] ++ [c2]) ++ [c3]) = some (([w1] ++ [w2]) ++ [w3])) (hk : RA.ok F S (([c1] ++ [c2]) ++ [c3])) (hL : ∀ ad, L ad = glS as ag ad as) :
    SimSO F S as ag (RA.fp (([c1] ++ [c2]) ++ [c3])) (fun ad => gPutIx (L ad) w1 w2 w3 S) (putIx c1.er c2.er c3.er (erS as) (erS ag)) := by
  obtain ⟨h1, h2, h3⟩ := three h
  have s1 : (c1.fp).Sublist (RA.fp (([c1] ++ [c2]) ++ [c3])) := sub1 c1 _
  have nd1 := nd.sublist (List.Sublist.append_left s1 _)
  have lt1 : ∀ n ∈ c1.fp, n < S.length := fun n hn => lt n (s1.subset hn)
  refine preSub g nd lt s1 ?_
  unfold putIx
  split
  · rename_i r p j e2 e3
    rw [er_vsc e3 h3]
    cases hc : cvR true c1.er (erS as) (erS ag) with
    | none => trivial
    | some z =>
      obtain ⟨d, l1, g1⟩ := z
      obtain ⟨F1, as1, ag1, a, rfl, rfl, rfl, rfl, aok, _, ev⟩ := cv_sim0 g nd1 lt1 h1 (hk c1 (by simp)) hc
      dsimp only
      split
      · rename_i xs hx
        obtain ⟨b, hb, eb⟩ := at_er' hx
        obtain ⟨n, ys, rfl, rfl⟩ := er_nd eb
        have hw2 : w2 = .loc n := by
          cases c2 with
          | v _ => cases e2
          | pth r' p' =>
            cases e2
            have := ev.per rfl r p w2 h2
            rw [hb] at this
            cases this; rfl
        subst hw2
        have bok := at_ok ev.good hb
        simp only [A.ok] at bok
        split
        · rename_i m hm
          by_cases hl : m < (A.ers ys).length
          · rw [if_pos hl]
            refine SimSO.pre ev.sv ?_
            rw [ers_len] at hl
            refine sim_nxD (y := .nd .ow n .lst (ys.set m a)) (S' := S.set n (mkO .lst (A.pvs (ys.set m a)))) (F' := F1) (L := L) (by simp [A.er, ers_set]) (fun ad => ?_) (fun ad => (hL ad).trans (ev.gl ad).symm) (node_put ev.good ev.nd ev.lt aok hb rfl (.inl ⟨m, hl, rfl, rfl⟩))
            rw [ers_len] at hm
            simp only [gPutIx, Sc.pv, lstAt_of (show S[n]? = some (.lst (A.pvs ys)) from bok.1.2), pvs_len, hm, mkO, pvs_set]
          · rw [if_neg hl]; trivial
        · trivial
      · trivial
  · trivial
theorem sim_sub {q : Bool} {mo mi me : AD → GL.ME} {po pi pe : PE} (he : SimE q me pe) (ho : SimE true mo po) (hi : SimE true mi pi) : SimS (fun ad => GL.sSub (mo ad) (mi ad) (me ad)) (sSub po pi pe) := fun F S as ag g =>
  sim_then (R := RE) (f := fun ad w S1 => (mo ad (glS as ag ad as) S1).then (glS as ag ad as) fun l S2 => (mi ad (glS as ag ad as) S2).then (glS as ag ad as) fun k S3 => gPutIx (glS as ag ad as) w l k S3)
    (k := fun x ls gh => (po ls gh).then fun y ls gh => (pi ls gh).then fun k ls gh => putIx x y k ls gh) he g (fun _ => rfl) fun F1 S1 as1 ag1 c1 w1 h1 h2 g1 n1 l1 L1 => by
    have e0 : RA.fp [c1] = c1.fp := List.append_nil _
    have h := sim_thenN (cs := [c1]) (ws := [w1]) (L := fun ad => glS as ag ad as) (f := fun ad l S2 => (mi ad (glS as ag ad as) S2).then (glS as ag ad as) fun k S3 => gPutIx (glS as ag ad as) w1 l k S3) (k := fun y ls gh => (pi ls gh).then fun k ls gh => putIx (RE.er c1) y k ls gh) ho g1 (seqO_mk h1 rfl) (fun c hc => by rw [List.mem_singleton.mp hc]; exact h2) (by rw [e0]; exact n1) (by rw [e0]; exact l1) L1
      (fun F2 S2 as2 ag2 c2 w2 h1 h2 g2 n2 l2 L2 => sim_thenN (cs := [c1] ++ [c2]) (ws := [w1] ++ [w2]) (L := fun ad => glS as ag ad as) (f := fun ad k S3 => gPutIx (glS as ag ad as) w1 w2 k S3) (k := fun k ls gh => putIx (RE.er c1) c2.er k ls gh) hi g2 h1 h2 n2 l2 L2
        (fun F3 S3 as3 ag3 c3 w3 h1 h2 g3 n3 l3 L3 => putIx_sim g3 n3 l3 h1 h2 L3))
    rw [e0] at h
    exact h
theorem putN_zip {f : Nm} {y : PV} : ∀ (ns : List Nm) (ws : List PV), ns.length = ws.length → GL.putN f y (ns.zip ws) = match idxN f ns with
    | some i => ns.zip (ws.set i y)
    | none => (ns ++ [f]).zip (ws ++ [y])
  | [], [], _ => rfl
  | [], _ :: _, h => by cases h
  | _ :: _, [], h => by cases h
  | g :: r, w :: ws, h => by
    have ih := putN_zip (f := f) (y := y) r ws (Nat.succ.inj h)
    show GL.putN f y ((g, w) :: r.zip ws) = _
    unfold GL.putN idxN
    by_cases hg : g = f
    · rw [if_pos hg, if_pos hg]; simp
    · rw [if_neg hg, if_neg hg, ih]
      cases idxN f r with
      | none => rfl
      | some i => rfl
theorem idxN_lt {f : Nm} : ∀ {ns : List Nm} {i : Nat}, idxN f ns = some i → i < ns.length
  | [], i, h => by cases h
  | g :: r, i, h => by
    unfold idxN at h
    split at h
    · cases h; simp
    · obtain ⟨j, hj, rfl⟩ := Option.map_eq_some_iff.mp h
      have := idxN_lt hj
      simp only [List.length_cons]; omega
def putF (tab : Nm → Nm → Bool) (f : Nm) (x y : RV) (ls gh : Ls) : SOut := match y with
  | .pth r p => (match cvR true x ls gh with
    | some (d, ls, gh) => (match atD ls gh r p with
      | some (.nd .ow (.ins C ns) xs) => if (tab C f && decide (xs.length < 1000)) = true then (match idxN f ns with
        | some i => nxD (chD (exT i) r p (.nd .ow (.ins C ns) (xs.set i d)) ls gh)
        | none => nxD (chD allT r p (.nd .ow (.ins C (ns ++ [f])) (xs ++ [d])) ls gh)) else .bad
      | _ => .bad)
    | none => .bad)
  | _ => .bad
def sFldM (tab : Nm → Nm → Bool) (f : Nm) (o v : PE) : MS := fun ls gh => (v ls gh).then fun x ls gh => (o ls gh).then fun y ls gh => putF tab f x y ls gh
def gPutF (tab : Nm → Nm → Bool) (f : Nm) (L : GL.Ls) (y w : PV) (S2 : Sto) : GL.SOut := match GL.insAt S2 w with
  | some (n, C, fs) => if (tab C f && decide (fs.length < 1000)) = true then .nx L (S2.set n (.ins C (GL.putN f y fs))) else .bad
  | none => .bad
theorem putF_sim {tab : Nm → Nm → Bool} {f : Nm} {c1 c2 : ARV} {w1 w2 : PV} {L : AD → GL.Ls} (g : Good F S as ag) (nd : (fpS (as ++ ag) ++ RA.fp ([c1] ++ [c2])).Nodup) (lt : ∀ n ∈ RA.fp ([c1] ++ [c2]), n < S.length) (h : RA.pv as ag ([c1] ++ [c2]) = some ([w1] ++ [w2])) (hk : RA.ok F S ([c1] ++ [c2])) (hL : ∀ ad, L ad = glS as ag ad as) :
    SimSO F S as ag (RA.fp ([c1] ++ [c2])) (fun ad => gPutF tab f (L ad) w1 w2 S) (putF tab f c1.er c2.er (erS as) (erS ag)) := by
  obtain ⟨h1, h2⟩ := two h
  have s1 : (c1.fp).Sublist (RA.fp ([c1] ++ [c2])) := sub1 c1 _
  have nd1 := nd.sublist (List.Sublist.append_left s1 _)
  have lt1 : ∀ n ∈ c1.fp, n < S.length := fun n hn => lt n (s1.subset hn)
  refine preSub g nd lt s1 ?_
  unfold putF
  split
  · rename_i r p e2
    cases hc : cvR true c1.er (erS as) (erS ag) with
    | none => trivial
    | some z =>
      obtain ⟨d, l1, g1⟩ := z
      obtain ⟨F1, as1, ag1, a, rfl, rfl, rfl, rfl, aok, _, ev⟩ := cv_sim0 g nd1 lt1 h1 (hk c1 (by simp)) hc
      dsimp only
      split
      · rename_i C ns xs hx
        obtain ⟨b, hb, eb⟩ := at_er' hx
        obtain ⟨n, ys, rfl, rfl⟩ := er_nd eb
        have hw2 : w2 = .loc n := by
          cases c2 with
          | v _ => cases e2
          | pth r' p' =>
            cases e2
            have := ev.per rfl r p w2 h2
            rw [hb] at this
            cases this; rfl
        subst hw2
        have bok := at_ok ev.good hb
        have hw : ns.length = ys.length := by simpa [Hd.wf] using wf_of bok
        simp only [A.ok] at bok
        have ob : S[n]? = some (.ins C (ns.zip (A.pvs ys))) := bok.1.2
        have hins : GL.insAt S (.loc n) = some (n, C, ns.zip (A.pvs ys)) := by unfold GL.insAt; simp only [ob]
        have hzl : (ns.zip (A.pvs ys)).length = (A.ers ys).length := by rw [List.length_zip, pvs_len, ers_len, hw]; simp
        have hpz := putN_zip (f := f) (y := a.pv) ns (A.pvs ys) (by rw [pvs_len]; exact hw)
        by_cases hl : (tab C f && decide ((A.ers ys).length < 1000)) = true
        · rw [if_pos hl]
          refine SimSO.pre ev.sv ?_
          have hg : ∀ ad, gPutF tab f (L ad) a.pv (.loc n) S = .nx (L ad) (S.set n (.ins C (GL.putN f a.pv (ns.zip (A.pvs ys))))) := fun ad => by
            unfold gPutF
            simp only [hins, hzl, if_pos hl]
          split
          · rename_i i hi
            rw [hi] at hpz
            have hil : i < ys.length := hw ▸ idxN_lt hi
            refine sim_nxD (y := .nd .ow n (.ins C ns) (ys.set i a)) (S' := S.set n (mkO (.ins C ns) (A.pvs (ys.set i a)))) (F' := F1) (L := L) (by simp [A.er, ers_set]) (fun ad => ?_) (fun ad => (hL ad).trans (ev.gl ad).symm) (node_put ev.good ev.nd ev.lt aok hb (by simp [Hd.wf, hw]) (.inl ⟨i, hil, rfl, rfl⟩))
            rw [hg, hpz]; simp only [mkO, pvs_set]
          · rename_i hi
            rw [hi] at hpz
            refine sim_nxD (y := .nd .ow n (.ins C (ns ++ [f])) (ys ++ [a])) (S' := S.set n (mkO (.ins C (ns ++ [f])) (A.pvs (ys ++ [a])))) (F' := F1) (L := L) (by simp [A.er, ers_app, A.ers]) (fun ad => ?_) (fun ad => (hL ad).trans (ev.gl ad).symm) (node_put ev.good ev.nd ev.lt aok hb (by simp [Hd.wf, hw]) (.inr ⟨rfl, rfl⟩))
            rw [hg, hpz]; simp [mkO, pvs_app, A.pvs]
        · rw [if_neg hl]; trivial
      · trivial
  · trivial
theorem sim_sfld {tab : Nm → Nm → Bool} {f : Nm} {q : Bool} {mo mv : AD → GL.ME} {po pv : PE} (ho : SimE true mo po) (hv : SimE q mv pv) : SimS (fun ad => GL.sFldM tab f (mo ad) (mv ad)) (sFldM tab f po pv) := fun F S as ag g =>
  sim_then (R := RE) (f := fun ad y S1 => (mo ad (glS as ag ad as) S1).then (glS as ag ad as) fun w S2 => gPutF tab f (glS as ag ad as) y w S2) (k := fun x ls gh => (po ls gh).then fun y ls gh => putF tab f x y ls gh) hv g (fun _ => rfl) fun F1 S1 as1 ag1 c1 w1 h1 h2 g1 n1 l1 L1 => by
    have e0 : RA.fp [c1] = c1.fp := List.append_nil _
    have h := sim_thenN (cs := [c1]) (ws := [w1]) (L := fun ad => glS as ag ad as) (f := fun ad w S2 => gPutF tab f (glS as ag ad as) w1 w S2) (k := fun y ls gh => putF tab f (RE.er c1) y ls gh) ho g1 (seqO_mk h1 rfl) (fun c hc => by rw [List.mem_singleton.mp hc]; exact h2) (by rw [e0]; exact n1) (by rw [e0]; exact l1) L1
      (fun F2 S2 as2 ag2 c2 w2 h1 h2 g2 n2 l2 L2 => putF_sim g2 n2 l2 h1 h2 L2)
    rw [e0] at h
    exact h
end VL
set_option Elab.async false
set_option linter.all false
set_option maxRecDepth 100000
set_option maxHeartbeats 1000000
namespace VL
open GL (PV OB Sto Nm BT lim)
open PySem (PyData Builtin)
variable {F F' F'' : FM} {S S' S'' : Sto} {as as' as'' ag ag' ag'' : List AV} {x0 x1 x2 : List Nat}
def resD (f : Nat → Option V) : List Nat → Ls → Ls → Ls × Ls
  | [], ls, gh => (ls, gh)
  | v :: r, ls, gh => resD f r ((ls.map (killR v)).set v (f v)) (gh.map (killR v))
def resA (f : Nat → AV) : List Nat → List AV → List AV → List AV × List AV
  | [], as, ag => (as, ag)
  | v :: r, as, ag => resA f r (stA as ag v (f v)).1 (stA as ag v (f v)).2
theorem res_er (f : Nat → AV) : ∀ (vs : List Nat) (as ag : List AV), (erS (resA f vs as ag).1, erS (resA f vs as ag).2) = resD (fun v => (f v).er) vs (erS as) (erS ag)
  | [], as, ag => rfl
  | v :: r, as, ag => by
    unfold resA resD
    rw [res_er f r]
    have k : ∀ zs : List AV, erS (zs.map (killRA as ag v)) = (erS zs).map (killR v) := fun zs => by
      simp only [erS, List.map_map]
      exact List.map_congr_left fun z _ => killR_er v z
    have e1 : erS (stA as ag v (f v)).1 = ((erS as).map (killR v)).set v (f v).er := by
      show erS ((as.map (killRA as ag v)).set v (f v)) = _
      rw [← k]; simp only [erS, List.map_set]
    have e2 : erS (stA as ag v (f v)).2 = (erS ag).map (killR v) := k ag
    rw [e1, e2]
structure Cst (F : FM) (S : Sto) (z : AV) (o : Option PV) : Prop where
  fp : z.fp = []
  ok : z.ok F S
  gl : ∀ as ag ad, glv as ag ad z = o
  al : ∀ as ag, Alive as ag z
structure Res (F : FM) (S : Sto) (vs : List Nat) (f : Nat → AV) (o : Nat → Option PV) (as ag as' ag' : List AV) : Prop where
  sv : Sv F S as ag [] F S as' ag' []
  inn : ∀ ad j, j ∈ vs → (glS as' ag' ad as')[j]? = some (o j)
  out : ∀ ad j, j ∉ vs → (glS as' ag' ad as')[j]? = (glS as ag ad as)[j]?
  rt : ∀ r, (∀ v ∈ vs, r ≠ .l v) → rootA as' ag' r = rootA as ag r
  rv : ∀ v ∈ vs, rootA as' ag' (.l v) = slotA (some (f v))
  len : as'.length = as.length
theorem res_sim (f : Nat → AV) (o : Nat → Option PV) : ∀ (vs : List Nat) (as ag : List AV), (∀ v ∈ vs, Cst F S (f v) (o v)) → Good F S as ag → (∀ v ∈ vs, v < as.length) → Res F S vs f o as ag (resA f vs as ag).1 (resA f vs as ag).2
  | [], as, ag, _, g, _ => ⟨Sv.refl g, (fun _ _ h => by cases h), (fun _ _ _ => rfl), (fun _ _ => rfl), (fun _ h => by cases h), rfl⟩
  | v :: r, as, ag, hc, g, hl => by
    have cv := hc v List.mem_cons_self
    have lv := hl v List.mem_cons_self
    have sv1 : Sv F S as ag [] F S (stA as ag v (f v)).1 (stA as ag v (f v)).2 [] := sv_set g (good_nd g) (fun _ h => by cases h) lv cv.ok (cv.al _ _) (fun _ _ => .inr (by rw [cv.fp]; exact List.nil_sublist _))
    have l1 : (stA as ag v (f v)).1.length = as.length := by simp [stA]
    have ih := res_sim f o r (stA as ag v (f v)).1 (stA as ag v (f v)).2 (fun u hu => hc u (List.mem_cons_of_mem _ hu)) sv1.good (fun u hu => by rw [l1]; exact hl u (List.mem_cons_of_mem _ hu))
    have g1 : ∀ ad j, (glS (stA as ag v (f v)).1 (stA as ag v (f v)).2 ad (stA as ag v (f v)).1)[j]? = if j = v then some (o v) else (glS as ag ad as)[j]? := fun ad j => by
      show (((as.map (killRA as ag v)).set v (f v)).map _)[j]? = _
      rw [List.map_set, cv.gl, List.map_map]
      have e : (as.map (glv (stA as ag v (f v)).1 (stA as ag v (f v)).2 ad ∘ killRA as ag v)) = glS as ag ad as := List.map_congr_left fun y _ => st_glv ad
      show ((as.map (glv (stA as ag v (f v)).1 (stA as ag v (f v)).2 ad ∘ killRA as ag v)).set v (o v))[j]? = _
      rw [e]
      by_cases hj : j = v
      · subst hj
        rw [if_pos rfl, List.getElem?_set_self (by simpa [glS] using lv)]
      · rw [if_neg hj, List.getElem?_set_ne (fun q => hj q.symm)]
    have rv1 : rootA (stA as ag v (f v)).1 (stA as ag v (f v)).2 (.l v) = slotA (some (f v)) := by
      show slotA ((as.map (killRA as ag v)).set v (f v))[v]? = _
      rw [List.getElem?_set_self (by simpa using lv)]
    refine ⟨sv1.trans ih.sv, fun ad j hj => ?_, fun ad j hj => ?_, fun rr hr => ?_, fun u hu => ?_, ih.len.trans l1⟩
    · by_cases hjr : j ∈ r
      · exact ih.inn ad j hjr
      · rcases List.mem_cons.mp hj with rfl | h
        · exact (ih.out ad j hjr).trans ((g1 ad j).trans (if_pos rfl))
        · exact absurd h hjr
    · have h1 : j ≠ v := fun e => hj (e ▸ List.mem_cons_self)
      have h2 : j ∉ r := fun e => hj (List.mem_cons_of_mem _ e)
      exact (ih.out ad j h2).trans ((g1 ad j).trans (if_neg h1))
    · exact (ih.rt rr fun u hu => hr u (List.mem_cons_of_mem _ hu)).trans (st_root (hr v List.mem_cons_self))
    · by_cases hur : u ∈ r
      · exact ih.rv u hur
      · rcases List.mem_cons.mp hu with rfl | h
        · exact (ih.rt (.l u) fun w hw e => hur (by cases e; exact hw)).trans rv1
        · exact absurd h hur
def okV : Option V → Bool
  | some (.v d) => d.shr
  | some (.al _ _) => true
  | none => true
  | _ => false
def keepV : Option V → Option V
  | some (.v d) => some (.v d)
  | _ => none
def lcV (g : MG) (tt : PT) (te : PE) (vs : List Nat) (ls0 : Ls) : List D → List D → PE
  | [], acc, ls, gh => .ok (.v (.nd .ow .lst acc)) ls gh
  | d :: r, acc, ls, gh => match g (.v d) (resD (fun _ => none) vs ls gh).1 (resD (fun _ => none) vs ls gh).2 with
    | none => .bad
    | some z => (match tt z.1 z.2 with
      | .ok true ls2 gh2 => (match te ls2 gh2 with
        | .ok x ls3 gh3 => (match cvR true x ls3 gh3 with
          | some (e, ls4, gh4) => if acc.length < lim then lcV g tt te vs ls0 r (acc ++ [e]) (resD (fun v => keepV (ls0.getD v none)) vs ls4 gh4).1 (resD (fun v => keepV (ls0.getD v none)) vs ls4 gh4).2 else .bad
          | none => .bad)
        | _ => .bad)
      | .ok false ls2 gh2 => lcV g tt te vs ls0 r acc (resD (fun v => keepV (ls0.getD v none)) vs ls2 gh2).1 (resD (fun v => keepV (ls0.getD v none)) vs ls2 gh2).2
      | _ => .bad)
def eLc (it : PI) (g : MG) (tt : PT) (te : PE) (vs : List Nat) : PE := fun ls gh => (it ls gh).bind fun ds ls gh =>
  if (vs.all fun v => decide (v < ls.length) && okV (ls.getD v none)) = true then lcV g tt te vs ls ds [] ls gh else .bad
def keepA (as ag : List AV) (z : AV) : AV := match z with
  | .v a => .v a
  | z => .un (glv as ag (0, 0) z)
theorem keep_er (z : AV) : (keepA as ag z).er = keepV z.er := by cases z <;> rfl
theorem wipe_in : ∀ (vs : List Nat) (L : GL.Ls) (j : Nat), j ∈ vs → j < L.length → (GL.wipeL L vs)[j]? = some none
  | [], _, _, h, _ => by cases h
  | v :: r, L, j, h, hj => by
    have wl : ∀ (r : List Nat) (L : GL.Ls), (GL.wipeL L r).length = L.length := fun r => by
      induction r with
      | nil => intro L; rfl
      | cons a t ih => intro L; show ((GL.wipeL L t).set a none).length = _; rw [List.length_set, ih]
    show ((GL.wipeL L r).set v none)[j]? = _
    by_cases e : j = v
    · subst e; rw [List.getElem?_set_self (by rw [wl]; exact hj)]
    · rw [List.getElem?_set_ne (fun q => e q.symm)]
      exact wipe_in r L j (by rcases List.mem_cons.mp h with h | h; exact absurd h e; exact h) hj
theorem wipe_out : ∀ (vs : List Nat) (L : GL.Ls) (j : Nat), j ∉ vs → (GL.wipeL L vs)[j]? = L[j]?
  | [], _, _, _ => rfl
  | v :: r, L, j, h => by
    show ((GL.wipeL L r).set v none)[j]? = _
    have hne : v ≠ j := fun e => h (by rw [e]; exact List.mem_cons_self)
    rw [List.getElem?_set_ne hne]
    exact wipe_out r L j fun e => h (List.mem_cons_of_mem _ e)
theorem Sv.frame (a : Sv F S as ag x0 F' S' as' ag' x1) {z : List Nat} (hn : (fpS (as ++ ag) ++ (z ++ x0)).Nodup) (hz : ∀ n ∈ z, n < S.length) : (∀ n ∈ z, F' n = F n ∧ S'[n]? = S[n]?) ∧ (fpS (as' ++ ag') ++ (z ++ x1)).Nodup ∧ (∀ n ∈ z ++ x1, n < S'.length) := by
  have hd : ∀ n ∈ z, n ∉ fpS (as ++ ag) ++ x0 := fun n hz hx => by
    have h1 := List.nodup_append.mp hn
    have h2 := List.nodup_append.mp h1.2.1
    rcases List.mem_append.mp hx with t | t
    · exact h1.2.2 n t n (List.mem_append_left _ hz) rfl
    · exact h2.2.2 n hz n t rfl
  have hd2 : ∀ n ∈ z, n ∉ fpS (as' ++ ag') ++ x1 := fun n hz' hx => by
    rcases a.new n hx with t | t
    · exact hd n hz' t
    · exact absurd (hz n hz') (Nat.not_lt.mpr t)
  refine ⟨fun n h => a.keep n (hz n h) (hd n h), ?_, fun n hn => ?_⟩
  · have h1 := List.nodup_append.mp a.nd
    refine List.nodup_append.mpr ⟨h1.1, List.nodup_append.mpr ⟨?_, h1.2.1, fun n h m h' e => ?_⟩, fun n h m h' e => ?_⟩
    · exact (List.nodup_append.mp (List.nodup_append.mp hn).2.1).1
    · exact hd2 n h (e ▸ List.mem_append_right _ h')
    · rcases List.mem_append.mp h' with t | t
      · exact hd2 m t (e ▸ List.mem_append_left _ h)
      · exact h1.2.2 n h m t e
  · rcases List.mem_append.mp hn with t | t
    · exact Nat.lt_of_lt_of_le (hz n t) a.len
    · exact a.lt n t
theorem Sv.frameS (a : Sv F S as ag x0 F' S' as' ag' x1) {z : List Nat} (hn : (fpS (as ++ ag) ++ (z ++ x0)).Nodup) (hz : ∀ n ∈ z, n < S.length) : Sv F S as ag (z ++ x0) F' S' as' ag' (z ++ x1) := by
  obtain ⟨_, h2, h3⟩ := a.frame hn hz
  refine ⟨a.good, h2, h3, a.mono, a.len, fun n hl hx => a.keep n hl fun h => hx ?_, fun n h => ?_, a.gg⟩
  · rcases List.mem_append.mp h with t | t
    · exact List.mem_append_left _ t
    · exact List.mem_append_right _ (List.mem_append_right _ t)
  · have : n ∈ z ∨ n ∈ fpS (as' ++ ag') ++ x1 := by
      simp only [List.mem_append] at h ⊢
      rcases h with h | h | h <;> simp [h]
    rcases this with t | t
    · exact .inl (List.mem_append_right _ (List.mem_append_left _ t))
    · rcases a.new n t with u | u
      · left
        simp only [List.mem_append] at u ⊢
        rcases u with u | u <;> simp [u]
      · exact .inr u
structure LcI (q : Bool) (vs : List Nat) (F0 : FM) (S0 : Sto) (as0 ag0 : List AV) (n0 : Nat) (F : FM) (S : Sto) (as ag : List AV) (acc : List A) : Prop where
  ev : Ev q F0 S0 as0 ag0 [] F S as ag (n0 :: A.fps acc)
  ob : S[n0]? = some (.lst (A.pvs acc))
  fr : F n0 = none
  oks : A.oks F S acc
  rv : ∀ v ∈ vs, rootA as ag (.l v) = slotA (some (keepA as0 ag0 (as0.getD v (.un none))))
  len : as.length = as0.length
theorem kp_cst {z : AV} (h : okV z.er = true) (hz : z.ok F S) (m : Mono F F') : Cst F' S' (keepA as ag z) (glv as ag (0, 0) z) := by
  cases z with
  | v a =>
    have hs : a.shr = true := by rw [← shr_er]; exact h
    have f0 := fp_shr hz hs
    exact ⟨f0, ok_frame m (by rw [f0]; intro n hn; cases hn) hz, fun _ _ _ => rfl, fun _ _ => trivial⟩
  | io a => cases h
  | xn C ns xs => cases h
  | un o => exact ⟨rfl, trivial, fun _ _ _ => rfl, fun _ _ => trivial⟩
  | al r p => exact ⟨rfl, trivial, fun _ _ _ => rfl, fun _ _ => trivial⟩
theorem gl_const {z : AV} (h : okV z.er = true) (ad : AD) : glv as ag ad z = glv as ag (0, 0) z := by
  cases z with
  | xn C ns xs => cases h
  | _ => rfl
section
variable {q : Bool} {vs : List Nat} {F0 : FM} {S0 : Sto} {as0 ag0 : List AV} {n0 : Nat} {acc : List A}
theorem lc_mid (hvs : ∀ v ∈ vs, v < as0.length ∧ okV (as0.getD v (.un none)).er = true) (g0 : Good F0 S0 as0 ag0) (I : LcI q vs F0 S0 as0 ag0 n0 F S as ag acc) {asw agw as1 ag1 as4 ag4 : List AV} {F1 F4 : FM} {S1 S4 : Sto} {a : List Nat}
    (hw : Res F S vs (fun _ => .un none) (fun _ => none) as ag asw agw) (ap : Apart vs asw agw as1 ag1) (sv1 : Sv F S asw agw [] F1 S1 as1 ag1 []) (ev : Ev q F1 S1 as1 ag1 [] F4 S4 as4 ag4 a) (hl4 : as4.length = as0.length) :
    Ev q F S as ag [] F4 S4 (resA (fun v => keepA as0 ag0 (as0.getD v (.un none))) vs as4 ag4).1 (resA (fun v => keepA as0 ag0 (as0.getD v (.un none))) vs as4 ag4).2 a ∧
      (∀ v ∈ vs, rootA (resA (fun v => keepA as0 ag0 (as0.getD v (.un none))) vs as4 ag4).1 (resA (fun v => keepA as0 ag0 (as0.getD v (.un none))) vs as4 ag4).2 (.l v) = slotA (some (keepA as0 ag0 (as0.getD v (.un none))))) ∧
      (resA (fun v => keepA as0 ag0 (as0.getD v (.un none))) vs as4 ag4).1.length = as0.length := by
  have zmem : ∀ v, v < as0.length → as0.getD v (.un none) ∈ as0 ++ ag0 := fun v hv => by
    rw [List.getD_eq_getElem?_getD, List.getElem?_eq_getElem hv]
    exact List.mem_append_left _ (List.getElem_mem hv)
  have m4 : Mono F0 F4 := I.ev.mono.trans (hw.sv.mono.trans (sv1.mono.trans ev.mono))
  have B := res_sim (F := F4) (S := S4) (fun v => keepA as0 ag0 (as0.getD v (.un none))) (fun v => glv as0 ag0 (0, 0) (as0.getD v (.un none))) vs as4 ag4 (fun v hv => kp_cst (hvs v hv).2 (g0.ok _ (zmem v (hvs v hv).1)) m4) ev.good (fun v hv => by rw [hl4]; exact (hvs v hv).1)
  generalize (resA (fun v => keepA as0 ag0 (as0.getD v (.un none))) vs as4 ag4).1 = as5 at B ⊢
  generalize (resA (fun v => keepA as0 ag0 (as0.getD v (.un none))) vs as4 ag4).2 = ag5 at B ⊢
  have svB := B.sv.frameS (z := a) (by rw [List.append_nil]; exact ev.nd) ev.lt
  rw [List.append_nil] at svB
  have all := ((hw.sv.trans sv1).trans ev.sv).trans svB
  have gl0 : ∀ ad j, j < as0.length → (glS as0 ag0 ad as0)[j]? = some (glv as0 ag0 ad (as0.getD j (.un none))) := fun ad j hj => by
    rw [glS, List.getElem?_map, List.getElem?_eq_getElem hj, List.getD_eq_getElem?_getD, List.getElem?_eq_getElem hj]; rfl
  have roots : ∀ r, (∀ v ∈ vs, r ≠ .l v) → rootA as1 ag1 r = rootA as ag r := fun r hr => (ap.2.1 r hr).trans (hw.rt r hr)
  have gl5 : ∀ ad, glS as5 ag5 ad as5 = glS as ag ad as := fun ad => by
    apply List.ext_getElem?
    intro j
    by_cases hj : j ∈ vs
    · rw [B.inn ad j hj, I.ev.gl ad, gl0 ad j (hvs j hj).1, gl_const (hvs j hj).2 ad]
    · rw [B.out ad j hj, ev.gl ad, ap.1 ad j hj, hw.out ad j hj]
  have decR : ∀ r : Rt, (∃ v ∈ vs, r = .l v) ∨ ∀ v ∈ vs, r ≠ .l v := fun r => by
    by_cases h : ∃ v ∈ vs, r = .l v
    · exact .inl h
    · exact .inr fun v hv e => h ⟨v, hv, e⟩
  refine ⟨⟨all.good, all.nd, all.lt, all.mono, all.len, all.keep, all.new, gl5, all.gg, fun r w h => ?_, fun hq r p w h => ?_⟩, B.rv, B.len.trans hl4⟩
  · rcases decR r with ⟨v, hv, rfl⟩ | hr
    · rw [B.rv v hv, ← I.rv v hv]; exact h
    · rw [B.rt r hr]
      exact ev.rt r w (by rw [roots r hr]; exact h)
  · rcases decR r with ⟨v, hv, rfl⟩ | hr
    · unfold atA at h ⊢
      rw [B.rv v hv, ← I.rv v hv]; exact h
    · have e1 : (atA as1 ag1 r p).map A.pv = some w := by
        unfold atA at h ⊢
        rw [roots r hr]; exact h
      have := ev.per hq r p w e1
      unfold atA at this ⊢
      rw [B.rt r hr]; exact this
end
theorem Ev.llen {q : Bool} (e : Ev q F S as ag x0 F' S' as' ag' x1) : as'.length = as.length := by
  have := congrArg List.length (e.gl (0, 0))
  simpa [glS] using this
theorem lc_push {n0 : Nat} {acc : List A} {a : A} (g : Good F S as ag) (nd : (fpS (as ++ ag) ++ ((n0 :: A.fps acc) ++ a.fp)).Nodup) (lt : ∀ n ∈ (n0 :: A.fps acc) ++ a.fp, n < S.length) (fr : F n0 = none) (ok1 : A.oks F S acc) (ok2 : a.ok F S) :
    Ev true F S as ag ((n0 :: A.fps acc) ++ a.fp) F (S.set n0 (.lst (A.pvs acc ++ [a.pv]))) as ag (n0 :: A.fps (acc ++ [a])) ∧ A.oks F (S.set n0 (.lst (A.pvs acc ++ [a.pv]))) (acc ++ [a]) ∧ (S.set n0 (.lst (A.pvs acc ++ [a.pv])))[n0]? = some (.lst (A.pvs (acc ++ [a]))) := by
  have n1 := (List.nodup_append.mp nd).2.1
  have e0 : (n0 :: A.fps acc) ++ a.fp = n0 :: A.fps (acc ++ [a]) := by rw [fps_app]; simp [A.fps]
  rw [e0] at nd lt n1 ⊢
  have nn := (List.nodup_cons.mp n1).1
  have gr : ∀ n, n ≠ n0 → (S.set n0 (.lst (A.pvs acc ++ [a.pv])))[n]? = S[n]? := fun n hn => List.getElem?_set_ne (fun e => hn e.symm)
  have fs : FS F (S.set n0 (.lst (A.pvs acc ++ [a.pv]))) := fun m b o e => by
    exact (g.fs m b o e).to (gr m (fun h => by subst h; rw [fr] at e; cases e))
  refine ⟨ev_same g nd Mono.refl fs (by simp) (fun n hn hx => ⟨rfl, gr n fun e => hx (e ▸ List.mem_cons_self)⟩) n1 (fun n h => .inl h) (fun n h => by rw [List.length_set]; exact lt n h), ?_, ?_⟩
  · have := oks_app ok1 (show A.oks F S [a] from ⟨ok2, trivial⟩)
    rw [oks_iff] at this ⊢
    exact fun x hx => ok_frame Mono.refl (fun n hn => ⟨rfl, gr n fun e => nn (by rw [← e, fps_map]; exact List.mem_flatMap.mpr ⟨x, hx, hn⟩)⟩) (this x hx)
  · rw [List.getElem?_set_self (lt n0 List.mem_cons_self), pvs_app]; rfl
section
variable {q : Bool} {vs : List Nat} {gg : GL.MG} {g : MG} {mt : AD → GL.MT} {tt : PT} {me : AD → GL.ME} {te : PE} {chk : Nat → Sto → Bool} {F0 : FM} {S0 : Sto} {as0 ag0 : List AV} {n0 : Nat}
theorem lcV_sim (hg : SimGt vs gg g) (ht : SimT q mt tt) (he : SimE q me te) (hvs : ∀ v ∈ vs, v < as0.length ∧ okV (as0.getD v (.un none)).er = true) (g0 : Good F0 S0 as0 ag0) : ∀ (ks : List A) (i : Nat) (F : FM) (S : Sto) (as ag : List AV) (acc : List A), LcI q vs F0 S0 as0 ag0 n0 F S as ag acc →
    A.fps ks = [] → A.oks F S ks → (∀ F' S' j, Mono F F' → FS F' S' → chk j S' = true) →
    SimO q RE F0 S0 as0 ag0 [] (fun ad => GL.lcGo chk gg (mt ad) (me ad) vs n0 (glS as0 ag0 ad as0) i (A.pvs ks) S) (lcV g tt te vs (erS as0) (A.ers ks) (A.ers acc) (erS as) (erS ag))
  | [], i, F, S, as, ag, acc, I, _, _, hc => by
    refine ⟨F, S, as, ag, .v (.nd .ow n0 .lst acc), .loc n0, rfl, rfl, by simp [RE, ARV.er, A.er], fun ad => ?_, rfl, ?_, ?_⟩
    · show GL.lcGo chk gg (mt ad) (me ad) vs n0 _ i [] S = _
      rw [GL.lcGo, if_pos (hc F S i Mono.refl I.ev.good.fs)]
    · show A.ok F S _
      simp only [A.ok]
      exact ⟨⟨I.fr, I.ob⟩, rfl, I.oks⟩
    · exact I.ev
  | k :: t, i, F, S, as, ag, acc, I, fk, ok, hc => by
    have fk : k.fp ++ A.fps t = [] := fk
    obtain ⟨f1, f2⟩ := List.append_eq_nil_iff.mp fk
    have ef : (ARV.v k).fp = [] := f1
    have gd := I.ev.good
    have W := res_sim (F := F) (S := S) (fun _ => AV.un none) (fun _ => none) vs as ag (fun v hv => ⟨rfl, trivial, fun _ _ _ => rfl, fun _ _ => trivial⟩) gd (fun v hv => by rw [I.len]; exact (hvs v hv).1)
    have we := res_er (fun _ => AV.un none) vs as ag
    have be : ∀ as4 ag4, (erS (resA (fun v => keepA as0 ag0 (as0.getD v (.un none))) vs as4 ag4).1, erS (resA (fun v => keepA as0 ag0 (as0.getD v (.un none))) vs as4 ag4).2) = resD (fun v => keepV ((erS as0).getD v none)) vs (erS as4) (erS ag4) := fun as4 ag4 => by
      rw [res_er]
      congr 1
      funext v
      rw [keep_er]
      congr 1
      rw [List.getD_eq_getElem?_getD, List.getD_eq_getElem?_getD, erS, List.getElem?_map]
      cases as0[v]? <;> rfl
    show SimO _ _ _ _ _ _ _ _ (match g (.v k.er) (resD (fun _ => none) vs (erS as) (erS ag)).1 (resD (fun _ => none) vs (erS as) (erS ag)).2 with
    | none => .bad
    | some z => (match tt z.1 z.2 with
      | .ok true ls2 gh2 => (match te ls2 gh2 with
        | .ok x ls3 gh3 => (match cvR true x ls3 gh3 with
          | some (e, ls4, gh4) => if (A.ers acc).length < lim then lcV g tt te vs (erS as0) (A.ers t) (A.ers acc ++ [e]) (resD (fun v => keepV ((erS as0).getD v none)) vs ls4 gh4).1 (resD (fun v => keepV ((erS as0).getD v none)) vs ls4 gh4).2 else .bad
          | none => .bad)
        | _ => .bad)
      | .ok false ls2 gh2 => lcV g tt te vs (erS as0) (A.ers t) (A.ers acc) (resD (fun v => keepV ((erS as0).getD v none)) vs ls2 gh2).1 (resD (fun v => keepV ((erS as0).getD v none)) vs ls2 gh2).2
      | _ => .bad))
    rw [show resD (fun _ => (none : Option V)) vs (erS as) (erS ag) = (erS (resA (fun _ => AV.un none) vs as ag).1, erS (resA (fun _ => AV.un none) vs as ag).2) from we.symm]
    generalize (resA (fun _ => AV.un none) vs as ag).1 = asw at W ⊢
    generalize (resA (fun _ => AV.un none) vs as ag).2 = agw at W ⊢
    dsimp only
    cases hz : g (.v k.er) (erS asw) (erS agw) with
    | none => trivial
    | some z =>
      have gw := W.sv.good
      have kok : k.ok F S := ok.1
      obtain ⟨as1, ag1, a1, a2, a3, ap, sv1⟩ := hg F S asw agw (.v k) k.pv z.1 z.2 gw (by rw [ef, List.append_nil]; exact gw.nd) (by rw [ef]; intro n h; cases h) rfl kok hz
      rw [ef] at sv1
      have glw : ∀ ad, glS asw agw ad asw = GL.wipeL (glS as0 ag0 ad as0) vs := fun ad => by
        apply List.ext_getElem?
        intro j
        by_cases hj : j ∈ vs
        · rw [W.inn ad j hj, wipe_in vs _ j hj (by simpa [glS] using (hvs j hj).1)]
        · rw [W.out ad j hj, wipe_out vs _ j hj, I.ev.gl]
      have head : ∀ ad, GL.lcGo chk gg (mt ad) (me ad) vs n0 (glS as0 ag0 ad as0) i (A.pvs (k :: t)) S = (match mt ad (glS as1 ag1 ad as1) S with
          | .ok true S1 => (match me ad (glS as1 ag1 ad as1) S1 with
            | .ok w S2 => (match GL.lstAt S2 n0 with
              | some acc => if acc.length < lim then GL.lcGo chk gg (mt ad) (me ad) vs n0 (glS as0 ag0 ad as0) (i + 1) (A.pvs t) (S2.set n0 (.lst (acc ++ [w]))) else .bad
              | none => .bad)
            | _ => .bad)
          | .ok false S1 => GL.lcGo chk gg (mt ad) (me ad) vs n0 (glS as0 ag0 ad as0) (i + 1) (A.pvs t) S1
          | _ => .bad) := fun ad => by
        show GL.lcGo chk gg (mt ad) (me ad) vs n0 _ i (k.pv :: A.pvs t) S = _
        rw [GL.lcGo, if_pos (hc F S i Mono.refl gd.fs), ← glw ad, a3]
        all_goals rfl
      dsimp only
      rw [← a1, ← a2]
      have h2 := ht F S as1 ag1 sv1.good
      have L1 : as1.length = as0.length := ap.2.2.trans (W.len.trans I.len)
      have ndz : (fpS (as ++ ag) ++ ((n0 :: A.fps acc) ++ [])).Nodup := by rw [List.append_nil]; exact I.ev.nd
      cases hp : tt (erS as1) (erS ag1) with
      | bad => trivial
      | exc e ls gh => trivial
      | ok b ls gh =>
        rw [hp] at h2
        obtain ⟨F2, S2, as2, ag2, c2, w2, rfl, rfl, e3, b4, b5, _, ev2⟩ := h2
        have e3 : c2 = b := e3
        subst e3
        cases b5
        cases c2 with
        | false =>
          dsimp only
          have mid := lc_mid hvs g0 I W ap sv1 (show Ev q F S as1 ag1 [] F2 S2 as2 ag2 [] from ev2) (ev2.llen.trans L1)
          rw [show resD (fun v => keepV ((erS as0).getD v none)) vs (erS as2) (erS ag2) = _ from (be as2 ag2).symm]
          obtain ⟨evm, rvm, lnm⟩ := mid
          generalize (resA (fun v => keepA as0 ag0 (as0.getD v (.un none))) vs as2 ag2).1 = as5 at evm rvm lnm ⊢
          generalize (resA (fun v => keepA as0 ag0 (as0.getD v (.un none))) vs as2 ag2).2 = ag5 at evm rvm ⊢
          have evf := evm.frame ndz I.ev.lt
          rw [List.append_nil] at evf
          have keepz : ∀ n ∈ n0 :: A.fps acc, F2 n = F n ∧ S2[n]? = S[n]? := fun n hn => evm.keep n (I.ev.lt n hn) fun h => by
            rw [List.append_nil] at h
            exact (List.nodup_append.mp I.ev.nd).2.2 n h n hn rfl
          have I2 : LcI q vs F0 S0 as0 ag0 n0 F2 S2 as5 ag5 acc := ⟨(I.ev.trans evf).weak (fun h => by rw [h]; rfl), by rw [(keepz n0 List.mem_cons_self).2]; exact I.ob, by rw [(keepz n0 List.mem_cons_self).1]; exact I.fr, by
            have := I.oks
            rw [oks_iff] at this ⊢
            exact fun x hx => ok_frame evm.mono (fun n hn => keepz n (List.mem_cons_of_mem _ (by rw [fps_map]; exact List.mem_flatMap.mpr ⟨x, hx, hn⟩))) (this x hx), rvm, lnm⟩
          have h3 := lcV_sim hg ht he hvs g0 t (i + 1) F2 S2 as5 ag5 acc I2 f2 (oks_mono evm.mono ok.2 f2) (fun F' S' j m fs => hc F' S' j (evm.mono.trans m) fs)
          have e5 : (fun ad => GL.lcGo chk gg (mt ad) (me ad) vs n0 (glS as0 ag0 ad as0) i (A.pvs (k :: t)) S) = fun ad => GL.lcGo chk gg (mt ad) (me ad) vs n0 (glS as0 ag0 ad as0) (i + 1) (A.pvs t) S2 := by
            funext ad
            rw [head ad, show mt ad (glS as1 ag1 ad as1) S = _ from b4 ad]
          rw [e5]
          exact h3
        | true =>
          dsimp only
          have h4 := he F2 S2 as2 ag2 ev2.good
          cases hq : te (erS as2) (erS ag2) with
          | bad => trivial
          | exc e ls gh => trivial
          | ok x ls gh =>
            rw [hq] at h4
            obtain ⟨F3, S3, as3, ag3, c3, w3, rfl, rfl, rfl, d4, d5, d6, ev3⟩ := h4
            dsimp only
            show SimO _ _ _ _ _ _ _ _ (match cvR true c3.er (erS as3) (erS ag3) with
              | some (e, ls4, gh4) => if (A.ers acc).length < lim then lcV g tt te vs (erS as0) (A.ers t) (A.ers acc ++ [e]) (resD (fun v => keepV ((erS as0).getD v none)) vs ls4 gh4).1 (resD (fun v => keepV ((erS as0).getD v none)) vs ls4 gh4).2 else .bad
              | none => .bad)
            cases hv : cvR true c3.er (erS as3) (erS ag3) with
            | none => trivial
            | some u =>
              obtain ⟨d, l4, g4⟩ := u
              obtain ⟨F4, as4, ag4, a, rfl, rfl, rfl, rfl, aok, _, ev4⟩ := cv_sim0 ev3.good ev3.nd ev3.lt d5 d6 hv
              dsimp only
              by_cases hl : (A.ers acc).length < lim
              · rw [if_pos hl]
                have evq : Ev q F S as1 ag1 [] F4 S3 as4 ag4 a.fp := ((show Ev q F S as1 ag1 [] F2 S2 as2 ag2 [] from ev2).trans ((show Ev q F2 S2 as2 ag2 [] F3 S3 as3 ag3 c3.fp from ev3).trans ev4)).weak (fun h => by rw [h]; rfl)
                have mid := lc_mid hvs g0 I W ap sv1 evq (evq.llen.trans L1)
                rw [show resD (fun v => keepV ((erS as0).getD v none)) vs (erS as4) (erS ag4) = _ from (be as4 ag4).symm]
                obtain ⟨evm, rvm, lnm⟩ := mid
                generalize (resA (fun v => keepA as0 ag0 (as0.getD v (.un none))) vs as4 ag4).1 = as5 at evm rvm lnm ⊢
                generalize (resA (fun v => keepA as0 ag0 (as0.getD v (.un none))) vs as4 ag4).2 = ag5 at evm rvm ⊢
                have evf := evm.frame ndz I.ev.lt
                rw [List.append_nil] at evf
                have keepz : ∀ n ∈ n0 :: A.fps acc, F4 n = F n ∧ S3[n]? = S[n]? := fun n hn => evm.keep n (I.ev.lt n hn) fun h => by
                  rw [List.append_nil] at h
                  exact (List.nodup_append.mp I.ev.nd).2.2 n h n hn rfl
                have acok : A.oks F4 S3 acc := by
                  have := I.oks
                  rw [oks_iff] at this ⊢
                  exact fun x hx => ok_frame evm.mono (fun n hn => keepz n (List.mem_cons_of_mem _ (by rw [fps_map]; exact List.mem_flatMap.mpr ⟨x, hx, hn⟩))) (this x hx)
                have fr4 : F4 n0 = none := by rw [(keepz n0 List.mem_cons_self).1]; exact I.fr
                obtain ⟨evp, okp, obp⟩ := lc_push evf.good evf.nd evf.lt fr4 acok aok
                have I2 : LcI q vs F0 S0 as0 ag0 n0 F4 (S3.set n0 (.lst (A.pvs acc ++ [a.pv]))) as5 ag5 (acc ++ [a]) := ⟨(I.ev.trans (evf.trans evp)).weak (fun h => by rw [h]; rfl), obp, fr4, okp, rvm, lnm⟩
                have h3 := lcV_sim hg ht he hvs g0 t (i + 1) F4 _ as5 ag5 (acc ++ [a]) I2 f2 (oks_mono evm.mono ok.2 f2) (fun F' S' j m fs => hc F' S' j (evm.mono.trans m) fs)
                have e5 : (fun ad => GL.lcGo chk gg (mt ad) (me ad) vs n0 (glS as0 ag0 ad as0) i (A.pvs (k :: t)) S) = fun ad => GL.lcGo chk gg (mt ad) (me ad) vs n0 (glS as0 ag0 ad as0) (i + 1) (A.pvs t) (S3.set n0 (.lst (A.pvs acc ++ [a.pv]))) := by
                  funext ad
                  rw [head ad, show mt ad (glS as1 ag1 ad as1) S = _ from b4 ad]
                  dsimp only
                  rw [← ev2.gl ad, show me ad (glS as2 ag2 ad as2) S2 = _ from d4 ad]
                  dsimp only
                  rw [lstAt_of (xs := A.pvs acc) (by rw [(keepz n0 List.mem_cons_self).2]; exact I.ob)]
                  dsimp only
                  rw [if_pos (by rw [pvs_len, ← ers_len]; exact hl)]
                rw [e5, show A.ers acc ++ [a.er] = A.ers (acc ++ [a]) from by rw [ers_app]; rfl]
                exact h3
              · rw [if_neg hl]; trivial
theorem sim_lc {mi : AD → GL.MI} {pi : PI} {qi : Bool} (hi : SimI qi mi pi) (hg : SimGt vs gg g) (ht : SimT q mt tt) (he : SimE q me te) : SimE (qi && q) (fun ad => GL.eLc (mi ad) gg (mt ad) (me ad) vs) (eLc pi g tt te vs) := fun F S as ag gd =>
  sim_first (R' := RE) (q' := q) (k := fun (ds : List D) (ls gh : Ls) => if (vs.all fun v => decide (v < ls.length) && okV (ls.getD v none)) = true then lcV g tt te vs ls ds [] ls gh else .bad) (f := fun (ad : AD) (t : GL.Wk) (S1 : Sto) => GL.lcGo t.chk gg (mt ad) (me ad) vs S1.length (glS as ag ad as) 0 t.items (S1 ++ [OB.lst []])) hi gd (fun _ => rfl) fun F1 S1 as1 ag1 c w h1 h2 g1 n1 l1 L1 => by
    cases h1
    obtain ⟨fk, ok, hc⟩ := h2
    by_cases hv : (vs.all fun v => decide (v < (erS as1).length) && okV ((erS as1).getD v none)) = true
    · simp only [if_pos hv]
      have hvs : ∀ v ∈ vs, v < as1.length ∧ okV (as1.getD v (.un none)).er = true := fun v hm => by
        have := List.all_eq_true.mp hv v hm
        obtain ⟨p1, p2⟩ := Bool.and_eq_true_iff.mp this
        have p1 := of_decide_eq_true p1
        have p1 : v < as1.length := by simpa [erS] using p1
        refine ⟨p1, ?_⟩
        rw [List.getD_eq_getElem?_getD, erS, List.getElem?_map, List.getElem?_eq_getElem p1] at p2
        rw [List.getD_eq_getElem?_getD, List.getElem?_eq_getElem p1]
        exact p2
      have hF : F1 S1.length = none := by
        cases hf : F1 S1.length with
        | none => rfl
        | some z =>
          obtain ⟨b, o⟩ := z
          have := (g1.fs _ _ _ hf).lt
          omega
      have gr : ∀ n, n < S1.length → (S1 ++ [OB.lst []])[n]? = S1[n]? := fun n hn => List.getElem?_append_left hn
      have fs : FS F1 (S1 ++ [OB.lst []]) := fun n b o e => by
        have := g1.fs n b o e
        exact this.to (gr n this.lt)
      have ev0 : Ev q F1 S1 as1 ag1 [] F1 (S1 ++ [OB.lst []]) as1 ag1 (S1.length :: A.fps []) := by
        refine ev_same g1 (good_nd g1) Mono.refl fs (by simp) (fun n hn _ => ⟨rfl, gr n hn⟩) (by simp [A.fps]) (fun n hn => ?_) (fun n hn => ?_)
        · simp [A.fps] at hn; exact .inr (by omega)
        · simp [A.fps] at hn; simp; omega
      have I0 : LcI q vs F1 S1 as1 ag1 S1.length F1 (S1 ++ [OB.lst []]) as1 ag1 [] := ⟨ev0, by rw [List.getElem?_append_right (Nat.le_refl _)]; simp [A.pvs], hF, trivial, fun v hm => by
        show slotA as1[v]? = slotA (some (keepA as1 ag1 (as1.getD v (.un none))))
        have p1 := (hvs v hm).1
        have p2 := (hvs v hm).2
        rw [List.getD_eq_getElem?_getD, List.getElem?_eq_getElem p1] at p2 ⊢
        simp only [Option.getD_some] at p2 ⊢
        cases hz : as1[v] with
        | io a => rw [hz] at p2; cases p2
        | xn C ns xs => rfl
        | v a => rfl
        | un o => rfl
        | al r p => rfl, rfl⟩
      have := lcV_sim hg ht he hvs g1 c.1 0 F1 _ as1 ag1 [] I0 fk (oks_mono Mono.refl ok fk) hc
      have e5 : (fun ad => GL.lcGo c.2 gg (mt ad) (me ad) vs S1.length (glS as ag ad as) 0 (A.pvs c.1) (S1 ++ [OB.lst []])) = fun ad => GL.lcGo c.2 gg (mt ad) (me ad) vs S1.length (glS as1 ag1 ad as1) 0 (A.pvs c.1) (S1 ++ [OB.lst []]) := by
        funext ad; rw [L1]
      show SimO q RE F1 S1 as1 ag1 [] (fun ad => GL.lcGo c.2 gg (mt ad) (me ad) vs S1.length (glS as ag ad as) 0 (A.pvs c.1) (S1 ++ [OB.lst []])) _
      rw [e5]
      exact this
    · simp only [if_neg hv]; trivial
end
end VL
set_option Elab.async false
set_option linter.all false
set_option maxRecDepth 100000
set_option maxHeartbeats 1000000
namespace VL
open GL (PV OB Sto Nm BT lim)
open PySem (PyData Builtin)
variable {F F' F'' : FM} {S S' S'' : Sto} {as as' as'' ag ag' ag'' : List AV} {x0 x1 x2 : List Nat}
theorem vl_end {f : GL.MF} {p : MF} (hf : SimFn f p) (ns : List Int) (h : p [.v (.nd .fz .rol (ns.map D.int))] [] = .ok (.bl true) []) : ∃ S, f [.loc 0] [.rol (ns.map .int)] = .ok (.bl true) S := by
  let a : A := .nd .fz 0 .rol (aInts ns)
  let F : FM := fun n => if n = 0 then some (true, .rol (ns.map .int)) else none
  have fs : FS F [.rol (ns.map .int)] := fun n b o e => by
    by_cases hn : n = 0
    · subst hn
      have : (true, OB.rol (ns.map PV.int)) = (b, o) := by simpa [F] using e
      cases this; exact .inl rfl
    · simp [F, hn] at e
  have aok : a.ok F [.rol (ns.map .int)] := by
    simp only [a, A.ok]
    exact ⟨by simp [F, mkO, aInts_pv], rfl, aInts_fp ns, aInts_ok ns⟩
  have afp : a.fp = [] := by simp only [a, A.fp]; exact aInts_fp ns
  have g : Good F [.rol (ns.map .int)] [.v a] [] := by
    refine ⟨fs, fun z hz => ?_, ?_, fun z hz => ?_⟩
    · rw [List.append_nil, List.mem_singleton] at hz; subst hz; exact aok
    · simp [fpS, AV.fp, afp]
    · rw [List.append_nil, List.mem_singleton] at hz; subst hz; trivial
  have h2 := hf F _ [.v a] [] [.v (.nd .fz .rol (ns.map D.int))] [.loc 0] g (by simp [a, erS, AV.er, A.er, aInts_er]) (fun ad => rfl)
  have h3 : p [.v (.nd .fz .rol (ns.map D.int))] (([] : List A).map A.er) = .ok (.bl true) [] := h
  rw [h3] at h2
  obtain ⟨F', S', hs', b, _, e2, e3, _, _⟩ := h2
  have : b = .sc (.bl true) := er_sc e2
  subst this
  exact ⟨S', e3⟩
end VL
set_option Elab.async false
set_option linter.all false
set_option maxRecDepth 100000
set_option maxHeartbeats 1000000
namespace VL
open GL (PV OB Sto Nm BT lim)
open PySem (PyData Builtin)
variable {F F' F'' : FM} {S S' S'' : Sto} {as as' as'' ag ag' ag'' : List AV} {x0 x1 x2 : List Nat}
def flatP : List (PE × PE) → PA
  | [] => aNil
  | (k, v) :: r => aCons k (aCons v (flatP r))
def flatG : List (GL.ME × GL.ME) → GL.MA
  | [] => GL.aNil
  | (k, v) :: r => GL.aCons k (GL.aCons v (flatG r))
inductive SimPs : (AD → List (GL.ME × GL.ME)) → List (PE × PE) → Prop
  | nil : SimPs (fun _ => []) []
  | cons {mk mv : AD → GL.ME} {pk pv : PE} {mr : AD → List (GL.ME × GL.ME)} {pr : List (PE × PE)} : SimE true mk pk → SimE true mv pv → SimPs mr pr → SimPs (fun ad => (mk ad, mv ad) :: mr ad) ((pk, pv) :: pr)
theorem sim_flat : ∀ {mr : AD → List (GL.ME × GL.ME)} {pr : List (PE × PE)}, SimPs mr pr → SimA true (fun ad => flatG (mr ad)) (flatP pr)
  | _, _, .nil => sim_anil
  | _, _, .cons hk hv hr => sim_acons hk (sim_acons hv (sim_flat hr))
end VL
set_option Elab.async false
set_option linter.all false
set_option maxRecDepth 100000
set_option maxHeartbeats 1000000
namespace VL
open GL (PV OB Sto Nm BT lim)
open PySem (PyData Builtin)
variable {F F' F'' : FM} {S S' S'' : Sto} {as as' as'' ag ag' ag'' : List AV} {x0 x1 x2 : List Nat}
theorem SimX.weak {α β γ : Type} {q q' : Bool} {R : RT α β γ} {m : AD → GL.Ls → Sto → GL.Out α} {p : PX β} (h : SimX q R m p) (hq : q' = true → q = true) : SimX q' R m p := fun F S as ag g => (h F S as ag g).weak hq
end VL
set_option Elab.async false
set_option linter.all false
set_option maxRecDepth 100000
set_option maxHeartbeats 1000000
namespace VL
open GL (PV OB Sto Nm BT lim)
open PySem (PyData Builtin)
end VL
set_option Elab.async false
set_option linter.all false
set_option maxRecDepth 100000
set_option maxHeartbeats 1000000
namespace VL
open GL (PV OB Sto Nm BT lim)
open PySem (PyData Builtin)
variable {F F' F'' : FM} {S S' S'' : Sto} {as as' as'' ag ag' ag'' : List AV} {x0 x1 x2 : List Nat}
def findIO : List Nat → List RV → Option (Rt × List Nat)
  | 1 :: _, .pth r p :: _ => some (r, p)
  | _ :: ms, _ :: xs => findIO ms xs
  | _, _ => none
def convM (r : Rt) (p : List Nat) : List Nat → List RV → Ls → Ls → Option (List V × Ls × Ls)
  | [], [], ls, gh => some ([], ls, gh)
  | 0 :: ms, x :: xs, ls, gh => match cvR true x ls gh with
    | some (d, ls, gh) => (match convM r p ms xs ls gh with
      | some (vs, ls, gh) => some (.v d :: vs, ls, gh)
      | none => none)
    | none => none
  | _ :: ms, .pth r' p' :: xs, ls, gh => if r' = r then (match cut p p' with
      | some s => (match convM r p ms xs ls gh with
        | some (vs, ls, gh) => some (.al (.g 0) s :: vs, ls, gh)
        | none => none)
      | none => none) else none
  | _ :: ms, .v d :: xs, ls, gh => (match convM r p ms xs ls gh with
      | some (vs, ls, gh) => some (.v d :: vs, ls, gh)
      | none => none)
  | _, _, _, _ => none
inductive ACv where
  | v (a : A) | al (s : List Nat)
def ACv.av : ACv → AV
  | .v a => .v a
  | .al s => .al (.g 0) s
def ACv.fp : ACv → List Nat
  | .v a => a.fp
  | _ => []
def ACv.V : ACv → V
  | .v a => .v a.er
  | .al s => .al (.g 0) s
def ACv.ok (F : FM) (S : Sto) : ACv → Prop
  | .v a => a.ok F S
  | _ => True
def ACv.pv (x : A) : ACv → Option PV
  | .v a => some a.pv
  | .al s => (getA s x).map A.pv
abbrev fpC (cs : List ACv) : List Nat := cs.flatMap ACv.fp
def ACv.pvS (as ag : List AV) (r : Rt) (p : List Nat) : ACv → Option PV
  | .v a => some a.pv
  | .al s => (atA as ag r (p ++ s)).map A.pv
theorem convM_sim {r : Rt} {p : List Nat} : ∀ {ms : List Nat} {cs : List ARV} {F : FM} {as ag : List AV} {ws : List PV} {vs : List V} {ls' gh' : Ls}, Good F S as ag → (fpS (as ++ ag) ++ RA.fp cs).Nodup → (∀ n ∈ RA.fp cs, n < S.length) → RA.pv as ag cs = some ws → RA.ok F S cs →
    convM r p ms (cs.map ARV.er) (erS as) (erS ag) = some (vs, ls', gh') →
    ∃ (F' : FM) (as' ag' : List AV) (es : List ACv), erS as' = ls' ∧ erS ag' = gh' ∧ es.map ACv.V = vs ∧ seqO (es.map (ACv.pvS as' ag' r p)) = some ws ∧ (∀ e ∈ es, e.ok F' S) ∧ Ev true F S as ag (RA.fp cs) F' S as' ag' (fpC es)
  | [], [], F, as, ag, ws, vs, ls', gh', g, nd, lt, hp, hk, h => by
    simp only [List.map_nil, convM, Option.some.injEq, Prod.mk.injEq] at h
    obtain ⟨rfl, rfl, rfl⟩ := h
    cases hp
    exact ⟨F, as, ag, [], rfl, rfl, rfl, rfl, (fun e h => by cases h), Ev.refl g nd lt⟩
  | [], _ :: _, _, _, _, _, _, _, _, _, _, _, _, _, h => by simp [convM] at h
  | _ :: _, [], _, _, _, _, _, _, _, _, _, _, _, _, h => by simp [convM] at h
  | m :: ms, c :: cr, F, as, ag, ws, vs, ls', gh', g, nd, lt, hp, hk, h => by
    obtain ⟨w, ws, hw, hws, rfl⟩ := seqO_cons hp
    have e0 : RA.fp (c :: cr) = c.fp ++ RA.fp cr := rfl
    rw [e0] at nd lt ⊢
    obtain ⟨n1, n2, n3⟩ := nd_sub nd
    have keep : ∀ (d : D) (l1 g1 : Ls), cvR true c.er (erS as) (erS ag) = some (d, l1, g1) → ∀ us, convM r p ms (cr.map ARV.er) l1 g1 = some (us, ls', gh') →
        ∃ (F' : FM) (as' ag' : List AV) (es : List ACv), erS as' = ls' ∧ erS ag' = gh' ∧ es.map ACv.V = .v d :: us ∧ seqO (es.map (ACv.pvS as' ag' r p)) = some (w :: ws) ∧ (∀ e ∈ es, e.ok F' S) ∧ Ev true F S as ag (c.fp ++ RA.fp cr) F' S as' ag' (fpC es) := fun d l1 g1 h1 us h2 => by
      obtain ⟨F1, as1, ag1, a, rfl, rfl, rfl, rfl, aok, _, ev⟩ := cv_sim0 g n1 (fun n h => lt n (List.mem_append_left _ h)) hw (hk c List.mem_cons_self) h1
      have st := stab_ra true cr (.inl rfl) F S as ag _ F1 S as1 ag1 _ ws ev g n3 hws (fun c hc => hk c (List.mem_cons_of_mem _ hc))
      have evf := (ev.frame n3 (fun n h => lt n (List.mem_append_right _ h))).perm List.perm_append_comm List.perm_append_comm
      obtain ⟨m1, m2, m3⟩ := nd_sub evf.nd
      obtain ⟨F2, as2, ag2, es, rfl, rfl, rfl, hes, eok, ev2⟩ := convM_sim evf.good m2 (fun n h => evf.lt n (List.mem_append_right _ h)) st.1 st.2 h2
      refine ⟨F2, as2, ag2, .v a :: es, rfl, rfl, rfl, seqO_mk rfl hes, fun e he => ?_, evf.trans (ev2.frame evf.nd (fun n h => evf.lt n (List.mem_append_left _ h)))⟩
      rcases List.mem_cons.mp he with rfl | he
      · exact ev2.stay (z := a) aok evf.nd evf.good.fs
      · exact eok e he
    have part : ∀ (r' : Rt) (p' : List Nat), c = .pth r' p' → (if r' = r then (match cut p p' with
        | some s => (match convM r p ms (cr.map ARV.er) (erS as) (erS ag) with
          | some (vs, ls, gh) => some (V.al (.g 0) s :: vs, ls, gh)
          | none => none)
        | none => none) else none) = some (vs, ls', gh') →
        ∃ (F' : FM) (as' ag' : List AV) (es : List ACv), erS as' = ls' ∧ erS ag' = gh' ∧ es.map ACv.V = vs ∧ seqO (es.map (ACv.pvS as' ag' r p)) = some (w :: ws) ∧ (∀ e ∈ es, e.ok F' S) ∧ Ev true F S as ag (c.fp ++ RA.fp cr) F' S as' ag' (fpC es) := fun r' p' hc hh => by
      subst hc
      split at hh
      · rename_i hr; subst hr
        cases hcut : cut p p' with
        | none => rw [hcut] at hh; cases hh
        | some s =>
          rw [hcut] at hh
          dsimp only at hh
          cases h2 : convM r' p ms (cr.map ARV.er) (erS as) (erS ag) with
          | none => rw [h2] at hh; cases hh
          | some t =>
            obtain ⟨us, l2, g2⟩ := t
            rw [h2] at hh
            simp only [Option.some.injEq, Prod.mk.injEq] at hh
            obtain ⟨rfl, rfl, rfl⟩ := hh
            have e1 : (ARV.pth r' p').fp ++ RA.fp cr = RA.fp cr := rfl
            rw [e1] at nd lt ⊢
            obtain ⟨F2, as2, ag2, es, rfl, rfl, rfl, hes, eok, ev2⟩ := convM_sim (r := r') (p := p) g nd lt hws (fun c hc => hk c (List.mem_cons_of_mem _ hc)) h2
            refine ⟨F2, as2, ag2, .al s :: es, rfl, rfl, rfl, seqO_mk ?_ hes, fun e he => ?_, ev2⟩
            · show (atA as2 ag2 r' (p ++ s)).map A.pv = some w
              rw [← cut_some hcut]
              exact ev2.per rfl r' p' w hw
            · rcases List.mem_cons.mp he with rfl | he
              · trivial
              · exact eok e he
      · cases hh
    have asv : ∀ (a : A), c = .v a → (match convM r p ms (cr.map ARV.er) (erS as) (erS ag) with
        | some (vs, ls, gh) => some (V.v a.er :: vs, ls, gh)
        | none => none) = some (vs, ls', gh') →
        ∃ (F' : FM) (as' ag' : List AV) (es : List ACv), erS as' = ls' ∧ erS ag' = gh' ∧ es.map ACv.V = vs ∧ seqO (es.map (ACv.pvS as' ag' r p)) = some (w :: ws) ∧ (∀ e ∈ es, e.ok F' S) ∧ Ev true F S as ag (c.fp ++ RA.fp cr) F' S as' ag' (fpC es) := fun a hc hh => by
      cases h2 : convM r p ms (cr.map ARV.er) (erS as) (erS ag) with
      | none => rw [h2] at hh; cases hh
      | some t =>
        obtain ⟨us, l2, g2⟩ := t
        rw [h2] at hh
        simp only [Option.some.injEq, Prod.mk.injEq] at hh
        obtain ⟨rfl, rfl, rfl⟩ := hh
        exact keep a.er (erS as) (erS ag) (by subst hc; rfl) us h2
    simp only [List.map_cons] at h
    match m, h with
    | 0, h =>
      rw [convM] at h
      cases h1 : cvR true c.er (erS as) (erS ag) with
      | none => rw [h1] at h; cases h
      | some t =>
        obtain ⟨d, l1, g1⟩ := t
        rw [h1] at h
        dsimp only at h
        cases h2 : convM r p ms (cr.map ARV.er) l1 g1 with
        | none => rw [h2] at h; cases h
        | some t2 =>
          obtain ⟨us, l2, g2⟩ := t2
          rw [h2] at h
          simp only [Option.some.injEq, Prod.mk.injEq] at h
          obtain ⟨rfl, rfl, rfl⟩ := h
          exact keep d l1 g1 h1 us h2
    | k + 1, h =>
      cases c with
      | pth r' p' => exact part r' p' rfl (by simpa [ARV.er, convM] using h)
      | v a => exact asv a rfl (by simpa [ARV.er, convM] using h)
def callM (fn : MF) (r : Rt) (p : List Nat) (vs : List V) (ls gh : Ls) : Out RV := match atD ls gh r p with
  | some x => if x.shr = true then .bad else (match fn vs [x] with
    | .ok d [y] => wroteV d topT r p y ls gh
    | .exc e [y] => let z := chD topT r p y ls gh; .exc e z.1 z.2
    | _ => .bad)
  | none => .bad
theorem callM_sim {f : GL.MF} {fn : MF} {r : Rt} {p : List Nat} {es : List ACv} {ws : List PV} (hf : SimFn f fn) (g : Good F S as ag) (nd : (fpS (as ++ ag) ++ fpC es).Nodup) (lt : ∀ n ∈ fpC es, n < S.length) (hp : seqO (es.map (ACv.pvS as ag r p)) = some ws) (hk : ∀ e ∈ es, e.ok F S) :
    SimO false RE F S as ag (fpC es) (fun _ => f ws S) (callM fn r p (es.map ACv.V) (erS as) (erS ag)) := by
  unfold callM
  cases hx : atD (erS as) (erS ag) r p with
  | none => trivial
  | some d0 =>
    obtain ⟨x, hat, rfl⟩ := at_er' hx
    dsimp only
    cases hs : x.er.shr with
    | true => simp only [if_true]; trivial
    | false =>
      have hs : x.shr = false := by rw [← shr_er]; exact hs
      simp only [Bool.false_eq_true, if_false]
      obtain ⟨root, hr, hg⟩ := at_split hat
      have xok := at_ok g hat
      have sx := sub_node g hat hs
      have ndx : (x.fp ++ fpC es).Nodup := nd.sublist (List.Sublist.append_right sx _)
      have atS : ∀ s, atA as ag r (p ++ s) = getA s x := fun s => by
        unfold atA
        rw [hr, Option.bind_some]
        have app : ∀ (p : List Nat) (a : A), getA (p ++ s) a = (getA p a).bind (getA s) := fun p => by
          induction p with
          | nil => intro a; rfl
          | cons i q ih =>
            intro a
            show getA (i :: (q ++ s)) a = _
            rw [getA, getA]
            cases a.kids[i]? with
            | none => rfl
            | some z => exact ih z
        rw [app, hg, Option.bind_some]
      let cs : List AV := es.map ACv.av
      have fpcs : fpS (cs ++ [x].map .io) = fpC es ++ x.fp := by
        show fpS (es.map ACv.av ++ [.io x]) = _
        rw [fpS_app]
        congr 1
        · unfold fpS fpC
          rw [List.flatMap_map]
          exact congrArg List.flatten (List.map_congr_left fun e _ => by cases e <;> rfl)
        · simp [fpS, AV.fp]
      have alv : ∀ e ∈ es, ∃ v, e.pvS as ag r p = some v := fun e he => by
        have : ∀ (es : List ACv) (ws : List PV), seqO (es.map (ACv.pvS as ag r p)) = some ws → ∀ e ∈ es, ∃ v, e.pvS as ag r p = some v := fun es => by
          induction es with
          | nil => intro ws _ e he; cases he
          | cons c t ih =>
            intro ws h e he
            obtain ⟨w, u, h1, h2, rfl⟩ := seqO_cons h
            rcases List.mem_cons.mp he with rfl | he
            · exact ⟨w, h1⟩
            · exact ih u h2 e he
        exact this es ws hp e he
      have gc : Good F S cs ([x].map .io) := by
        refine ⟨g.fs, fun z h => ?_, ?_, fun z h => ?_⟩
        · rcases List.mem_append.mp h with h | h
          · obtain ⟨e, he, rfl⟩ := List.mem_map.mp h
            have := hk e he
            cases e <;> exact this
          · rw [List.mem_singleton.mp h]; exact xok
        · rw [fpcs]
          exact (List.Perm.nodup_iff List.perm_append_comm).mp ndx
        · rcases List.mem_append.mp h with h | h
          · obtain ⟨e, he, rfl⟩ := List.mem_map.mp h
            cases e with
            | v a => trivial
            | al s =>
              obtain ⟨v, hv⟩ := alv _ he
              show (atA cs [.io x] (.g 0) s).isSome = true
              have hv : (atA as ag r (p ++ s)).map A.pv = some v := hv
              rw [atS] at hv
              show (getA s x).isSome = true
              cases hq : getA s x with
              | none => rw [hq] at hv; cases hv
              | some _ => rfl
          · rw [List.mem_singleton.mp h]; trivial
      have hcall := hf F S cs [x] (es.map ACv.V) ws gc (by
        show (es.map ACv.av).map AV.er = (es.map ACv.V).map some
        rw [List.map_map, List.map_map]
        exact List.map_congr_left fun e _ => by cases e <;> rfl) (fun ad => by
        have : ∀ (es : List ACv) (ws : List PV), seqO (es.map (ACv.pvS as ag r p)) = some ws → (es.map ACv.av).map (glv cs [.io x] ad) = ws.map some := fun es => by
          induction es with
          | nil => intro ws h; cases h; rfl
          | cons c t ih =>
            intro ws h
            obtain ⟨w, u, h1, h2, rfl⟩ := seqO_cons h
            simp only [List.map_cons]
            rw [ih u h2]
            congr 1
            cases c with
            | v a => exact h1
            | al s =>
              have h1 : (atA as ag r (p ++ s)).map A.pv = some w := h1
              rw [atS] at h1
              exact h1
        exact this es ws hp)
      have x1er : [x].map A.er = [x.er] := rfl
      rw [x1er] at hcall
      have back : ∀ {F' : FM} {S' : Sto} {y : A} {z : List Nat}, Sv F S cs ([x].map .io) [] F' S' [] ([y].map .io) z → Ev false F S as ag (fpC es) F' S' (chA topT r p y as ag).1 (chA topT r p y as ag).2 z := fun {F' S' y z} sv => by
        have hv : y.pv = x.pv := by
          have := sv.gg (0, 0)
          have h1 : some y.pv = some x.pv := by
            have := congrArg (fun l : List (Option PV) => l.head?) this
            simpa [glS, glv] using this
          exact Option.some.inj h1
        have yok : y.ok F' S' := sv.good.ok (.io y) (by simp)
        have fpy : fpS ([] ++ [y].map .io) = y.fp := by simp [fpS, AV.fp]
        refine ev_ch (t := topT) (fun h => by cases h) g nd hr hg hs hv (fun s w hs hw => ?_) sv.mono sv.good.fs sv.len (fun n hn hx => ?_) yok ?_ (fun n hn => ?_) (fun n hn => sv.lt n hn)
        · cases s with
          | nil => simpa [getA, hv] using hw
          | cons _ _ => cases hs
        · refine sv.keep n hn fun h => hx ?_
          rw [List.append_nil, fpcs] at h
          rcases List.mem_append.mp h with t | t
          · exact List.mem_append_right _ t
          · exact List.mem_append_left _ t
        · have := sv.nd
          rw [fpy] at this; exact this
        · rcases sv.new n (by rw [fpy]; exact hn) with t | t
          · rw [List.append_nil, fpcs] at t
            left
            rcases List.mem_append.mp t with u | u
            · exact List.mem_append_right _ u
            · exact List.mem_append_left _ u
          · exact .inr t
      have one : ∀ {hs' : List A} {y : D}, hs'.map A.er = [y] → ∃ b, hs' = [b] ∧ b.er = y := fun {hs' y} e1 => by
        cases hs' with
        | nil => cases e1
        | cons b t =>
          cases t with
          | nil => simp at e1; exact ⟨b, rfl, e1⟩
          | cons _ _ => cases e1
      split
      · rename_i d y hfn
        rw [hfn] at hcall
        obtain ⟨F', S', hs', a, e1, rfl, a3, aok, sv⟩ := hcall
        obtain ⟨b, rfl, rfl⟩ := one e1
        have ev := back sv
        have e := ch_er topT r p b as ag
        unfold wroteV
        rw [← e]
        exact ⟨F', S', _, _, .v a, a.pv, rfl, rfl, rfl, fun _ => a3, rfl, aok, ev⟩
      · rename_i e0 y hfn
        rw [hfn] at hcall
        obtain ⟨F', S', hs', xx, e1, rfl, a3, xok', sv⟩ := hcall
        obtain ⟨b, rfl, rfl⟩ := one e1
        have ev := back sv
        have e := ch_er topT r p b as ag
        rw [← e]
        exact ⟨F', S', _, _, xx, rfl, rfl, rfl, fun _ => a3, xok', ev⟩
      · trivial
def runM (fn : MF) (ms : List Nat) (dws : List PV) (xs : List RV) (ls gh : Ls) : Out RV := match findIO ms xs with
  | some (r, p) => (match convM r p ms xs ls gh with
    | some (vs, ls, gh) => callM fn r p (vs ++ (dOfs dws).map .v) ls gh
    | none => .bad)
  | none => (match cvL true xs ls gh with
    | some (ds, ls, gh) => callD fn ((ds ++ dOfs dws).map .v) ls gh
    | none => .bad)
theorem runM_sim {f : GL.MF} {fn : MF} {ms : List Nat} {dws : List PV} (hf : SimFn f fn) (hd : rigs dws = true) (g : Good F S as ag) {cs : List ARV} {ws : List PV} (nd : (fpS (as ++ ag) ++ RA.fp cs).Nodup) (lt : ∀ n ∈ RA.fp cs, n < S.length) (h1 : RA.pv as ag cs = some ws) (h2 : RA.ok F S cs) :
    SimO false RE F S as ag (RA.fp cs) (fun _ => f (ws ++ dws) S) (runM fn ms dws (cs.map ARV.er) (erS as) (erS ag)) := by
  unfold runM
  cases hio : findIO ms (cs.map ARV.er) with
  | none => exact (call_args hf hd g nd lt h1 h2).weak (fun h => by cases h)
  | some rp =>
    obtain ⟨r, p⟩ := rp
    dsimp only
    cases hc : convM r p ms (cs.map ARV.er) (erS as) (erS ag) with
    | none => trivial
    | some t =>
      obtain ⟨vs, l2, g2⟩ := t
      obtain ⟨F1, as1, ag1, es, rfl, rfl, rfl, hes, eok, ev⟩ := convM_sim g nd lt h1 h2 hc
      dsimp only
      refine SimO.preF (ev.weak (fun h => by cases h)) (q := false) ?_
      have e1 : es.map ACv.V ++ (dOfs dws).map VL.V.v = (es ++ (aOfs dws).map ACv.v).map ACv.V := by
        rw [List.map_append, List.map_map, ← aOfs_er, ers_map, List.map_map]; rfl
      have e3 : fpC (es ++ (aOfs dws).map ACv.v) = fpC es := by
        show List.flatMap _ _ = _
        rw [List.flatMap_append]
        have : List.flatMap ACv.fp ((aOfs dws).map ACv.v) = [] := by
          rw [List.flatMap_map]
          have := (aOfs_fp (F := F) (S := S) dws).1
          rw [fps_map] at this
          exact this
        rw [this, List.append_nil]
      have e4 : seqO ((es ++ (aOfs dws).map ACv.v).map (ACv.pvS as1 ag1 r p)) = some (ws ++ dws) := by
        have app : ∀ (es : List ACv) (ws : List PV), seqO (es.map (ACv.pvS as1 ag1 r p)) = some ws → seqO ((es ++ (aOfs dws).map ACv.v).map (ACv.pvS as1 ag1 r p)) = some (ws ++ dws) := fun es => by
          induction es with
          | nil =>
            intro ws h
            cases h
            have : ∀ (zs : List A), seqO ((zs.map ACv.v).map (ACv.pvS as1 ag1 r p)) = some (A.pvs zs) := fun zs => by
              induction zs with
              | nil => rfl
              | cons z t ih => exact seqO_mk rfl ih
            have := this (aOfs dws)
            rw [aOfs_pv hd] at this
            exact this
          | cons c t ih =>
            intro ws h
            obtain ⟨w, u, q1, q2, rfl⟩ := seqO_cons h
            exact seqO_mk q1 (ih u q2)
        exact app es ws hes
      rw [e1, ← e3]
      exact callM_sim hf ev.good (by rw [e3]; exact ev.nd) (by rw [e3]; exact ev.lt) e4 (fun e he => by
        rcases List.mem_append.mp he with h | h
        · exact eok e h
        · obtain ⟨a, ha, rfl⟩ := List.mem_map.mp h
          exact (oks_iff _).mp (aOfs_fp dws).2 a ha)
def eMethM (C m : Nm) (fn : MF) (ms : List Nat) (dws : List PV) (o : PE) (args : PA) : PE := fun ls gh => (o ls gh).bind fun x ls gh => match val x ls gh with
  | some d => if isIns C m d = true then (args ls gh).bind fun xs ls gh => runM fn ms dws (x :: xs) ls gh else .bad
  | none => .bad
section
variable {q : Bool} {mr : AD → GL.MA} {pr : PA} {f : GL.MF} {fn : MF} {ms : List Nat} {dws : List PV}
theorem sim_methM {C m : Nm} {qa : Bool} {ma : AD → GL.ME} {pa : PE} (hf : SimFn f fn) (hd : rigs dws = true) (ha : SimE qa ma pa) (hr : SimA true mr pr) : SimE false (fun ad => GL.eMeth C m f dws (ma ad) (mr ad)) (eMethM C m fn ms dws pa pr) := fun F S as ag gd =>
  SimO.weak (sim_first (R' := RE) (q' := true && false) (k := fun (x : RV) (ls gh : Ls) => match val x ls gh with
  | some d => if isIns C m d = true then (pr ls gh).bind fun xs ls gh => runM fn ms dws (x :: xs) ls gh else .bad
  | none => .bad) (f := fun ad w S1 => gMeth C m ad f dws mr (glS as ag ad as) w S1) ha gd (fun _ => rfl) fun F1 S1 as1 ag1 c w h1 h2 g1 n1 l1 L1 => by
    split
    · rename_i d e
      obtain ⟨a, rfl, rfl, aok, hc⟩ := val_er c e h1 g1 h2
      by_cases hi : isIns C m a.er = true
      · rw [if_pos hi]
        obtain ⟨n, fs', e1, e2⟩ := isIns_gl g1.fs aok hi
        have eg : ∀ ad, gMeth C m ad f dws mr (glS as ag ad as) a.pv S1 = (mr ad (glS as ag ad as) S1).bind fun ws S2 => f (a.pv :: (ws ++ dws)) S2 := fun ad => by
          unfold gMeth
          simp only [e1, e2, if_true]
        simp only [eg]
        refine sim_next (R0 := RE) (R := RA) (R' := RE) (k := fun xs ls gh => runM fn ms dws (RE.er c :: xs) ls gh) (f := fun ad ws S2 => f (a.pv :: (ws ++ dws)) S2) hr g1 c h1 h2 n1 l1 (stab_re true c (.inl rfl)) L1 fun F2 S2 as2 ag2 cs ws h1 h2 h3 h4 g2 n2 l2 L2 => ?_
        exact runM_sim (cs := c :: cs) (ws := a.pv :: ws) hf hd g2 n2 l2 (seqO_mk h1 h3) (fun c' hc' => by
          rcases List.mem_cons.mp hc' with rfl | h
          · exact h2
          · exact h4 c' h)
      · rw [if_neg hi]; trivial
    · trivial) (by simp)
end
end VL
set_option Elab.async false
set_option linter.all false
set_option maxRecDepth 100000
set_option maxHeartbeats 1000000
namespace VL
open GL (PV OB Sto Nm BT lim)
end VL
set_option Elab.async false
set_option linter.all false
set_option maxRecDepth 100000
set_option maxHeartbeats 1000000
namespace VL
open GL (PV OB Sto Nm BT lim)
end VL
set_option Elab.async false
set_option linter.all false
set_option maxRecDepth 100000
set_option maxHeartbeats 1000000
namespace VL
open GL (PV OB Sto Nm BT lim)
variable {F F' F1 : FM} {S S' S1 : Sto} {as ag as' ag' : List AV} {x0 : List Nat}
def hk : Hd → Nat × Nm
  | .lst => (0, [])
  | .rol => (1, [])
  | .dct _ => (2, [])
  | .ins C _ => (3, C)
  | .dcn _ => (4, [])
  | .ptp => (5, [])
end VL
set_option Elab.async false
set_option linter.all false
set_option maxRecDepth 100000
set_option maxHeartbeats 1000000
namespace VL
open GL (PV OB Sto Nm BT lim)
end VL
set_option Elab.async false
set_option linter.all false
set_option maxRecDepth 100000
set_option maxHeartbeats 1000000
namespace VL
open GL (PV OB Sto Nm BT lim)
end VL
set_option Elab.async false
set_option linter.all false
set_option maxRecDepth 100000
set_option maxHeartbeats 1000000
namespace VL
open GL (PV OB Sto Nm BT lim)
end VL
set_option Elab.async false
set_option linter.all false
set_option maxRecDepth 100000
set_option maxHeartbeats 1000000
namespace VL
open GL (PV OB Sto Nm BT lim)
end VL
set_option Elab.async false
set_option linter.all false
set_option maxRecDepth 100000
set_option maxHeartbeats 1000000
namespace VL
open GL (PV OB Sto Nm BT lim)
end VL
set_option Elab.async false
set_option linter.all false
set_option maxRecDepth 100000
set_option maxHeartbeats 2000000
namespace VL
open GL (PV OB Sto Nm BT lim)
def eFz (m : PE) : PE := fun ls gh => (m ls gh).bind fun x ls gh => match cvR false x ls gh with
  | some (d, ls, gh) => .ok (.v d) ls gh
  | none => .bad
theorem gbind_ok {α : Type} {o : GL.Out α} : o.bind (fun a S => GL.Out.ok a S) = o := by cases o <;> rfl
theorem sim_fz {q : Bool} {mr : AD → GL.ME} {pr : PE} (h : SimE q mr pr) : SimE q mr (eFz pr) := fun F S as ag gd => by
  have z := sim_first (R' := RE) (q' := true) (k := fun x ls gh => match cvR false x ls gh with
    | some (d, ls, gh) => Out.ok (RV.v d) ls gh
    | none => .bad) (f := fun ad w S1 => GL.Out.ok w S1) h gd (fun _ => rfl) fun F1 S1 as1 ag1 c w h1 h2 g1 n1 l1 L1 => by
    cases hc : cvR false (ARV.er c) (erS as1) (erS ag1) with
    | none =>
      show SimO true RE F1 S1 as1 ag1 _ _ (match cvR false (ARV.er c) (erS as1) (erS ag1) with
        | some (d, ls, gh) => Out.ok (RV.v d) ls gh
        | none => .bad)
      rw [hc]; trivial
    | some t =>
      obtain ⟨d, l2, g2⟩ := t
      obtain ⟨F2, as2, ag2, a, rfl, rfl, rfl, rfl, aok, afp, ev⟩ := cv_sim0 g1 n1 l1 h1 h2 hc
      show SimO true RE F1 S1 as1 ag1 _ _ (match cvR false (ARV.er c) (erS as1) (erS ag1) with
        | some (d, ls, gh) => Out.ok (RV.v d) ls gh
        | none => .bad)
      rw [hc]
      refine SimO.pre ev ?_
      exact sim_okE ev.good ev.nd ev.lt (.v a) (fun _ => rfl) rfl rfl aok (List.Sublist.refl _)
  rw [Bool.and_true] at z
  simp only [gbind_ok] at z
  exact z
end VL
set_option Elab.async false
set_option linter.all false
set_option maxRecDepth 100000
set_option maxHeartbeats 1000000
namespace VL
open GL (PV OB Sto Nm BT lim)
variable {F F' : FM} {S S' : Sto} {as ag as' ag' : List AV} {x0 : List Nat}
def f2IsO (tbl : List (Nm × Bool)) (T : Nm) : G2 := fun x y ls gh => match y with
  | .v (.sc (.gl E)) => if E = T then (match val x ls gh with
    | some (.nd _ (.ins C _) _) => (match GL.lookB C tbl with
      | some b => .ok (.v (.bl b)) ls gh
      | none => .bad)
    | _ => .bad) else .bad
  | _ => .bad
theorem sim_f2IsO (tbl : List (Nm × Bool)) (T : Nm) : SimG true (fun w v S => GL.fIsO tbl T [w, v] S) (f2IsO tbl T) := by
  intro F S as ag c1 c2 w1 w2 g nd lt h1 h2 k1 k2
  unfold f2IsO
  split
  · rename_i E e2
    rw [er_vsc e2 h2]
    by_cases hD : E = T
    · rw [if_pos hD]
      split
      · rename_i k C ns xs e1
        obtain ⟨a, ea, rfl, aok, _⟩ := val_er c1 e1 h1 g k1
        cases hb : GL.lookB C tbl with
        | none => trivial
        | some b =>
          refine sim_sc g nd lt (.bl _) (fun _ => ?_)
          cases a with
          | sc s => simp [A.er] at ea
          | tup xs => simp [A.er] at ea
          | nd k' n hd ys =>
            simp only [A.er, VL.D.nd.injEq] at ea
            obtain ⟨rfl, rfl, _⟩ := ea
            have ob := AtU.ins (obj_of g.fs aok)
            simp only [GL.fIsO, Sc.pv, if_pos hD, GL.insAt, A.pv, ob, mkO, hb]
      · trivial
    · rw [if_neg hD]; trivial
  · trivial
abbrev fIsO (tbl : List (Nm × Bool)) (T : Nm) := bi (f2IsO tbl T)
theorem sim_fIsO {tbl : List (Nm × Bool)} {T : Nm} : SimB true (GL.fIsO tbl T) (fIsO tbl T) := simB2 (sim_f2IsO tbl T)
end VL
set_option Elab.async false
set_option linter.all false
set_option maxRecDepth 100000
set_option maxHeartbeats 1000000
namespace VL
open GL (PV OB Sto Nm BT lim)
open PySem (PyData)
variable {F F' : FM} {S S' : Sto} {as ag as' ag' : List AV} {x0 : List Nat}
def inDp (neg : Bool) : G2 := fun x y ls gh => match val x ls gh, val y ls gh with
  | some a, some b => (match datD 60 a, datD 60 b with
    | some d, some (.tuple ds) => .ok (.v (.bl (if neg = true then !ds.any fun z => PyData.eqv z d else ds.any fun z => PyData.eqv z d))) ls gh
    | some d, some (.list ds) => .ok (.v (.bl (if neg = true then !ds.any fun z => PyData.eqv z d else ds.any fun z => PyData.eqv z d))) ls gh
    | _, _ => .bad)
  | _, _ => .bad
theorem sim_inDp (neg : Bool) : SimG true (GL.inDp neg) (inDp neg) := by
  intro F S as ag c1 c2 w1 w2 g nd lt h1 h2 k1 k2
  unfold inDp
  split
  · rename_i d e e1 e2
    obtain ⟨a, rfl, rfl, aok, _⟩ := val_er c1 e1 h1 g k1
    obtain ⟨b, rfl, rfl, bok, _⟩ := val_er c2 e2 h2 g k2
    split
    · rename_i d ds q1 q2
      refine sim_sc g nd lt (.bl _) (fun _ => ?_)
      unfold GL.inDp
      rw [dat_er g.fs 60 aok, dat_er g.fs 60 bok, q1, q2]; rfl
    · rename_i d ds q1 q2
      refine sim_sc g nd lt (.bl _) (fun _ => ?_)
      unfold GL.inDp
      rw [dat_er g.fs 60 aok, dat_er g.fs 60 bok, q1, q2]; rfl
    · trivial
  · trivial
end VL
set_option Elab.async false
set_option linter.all false
set_option maxRecDepth 100000
set_option maxHeartbeats 2000000
namespace VL
open GL (PV OB Sto Nm BT lim)
open PySem (NestedKey)
variable {F F' : FM} {S S' : Sto} {as ag as' ag' : List AV} {x0 : List Nat}
mutual
def pvD : D → Option PV
  | .sc s => some s.pv
  | .tup xs => (pvDs xs).map .tup
  | .nd _ _ _ => none
def pvDs : List D → Option (List PV)
  | [] => some []
  | x :: r => match pvD x, pvDs r with
    | some p, some ps => some (p :: ps)
    | _, _ => none
end
theorem pvDs_of : ∀ (xs : List A), (∀ x ∈ xs, ∀ p, pvD x.er = some p → x.pv = p) → ∀ ps, pvDs (A.ers xs) = some ps → A.pvs xs = ps
  | [], _, ps, h => by simp only [A.ers, pvDs] at h; cases h; rfl
  | x :: r, ih, ps, h => by
    simp only [A.ers, pvDs] at h
    cases e1 : pvD x.er with
    | none => rw [e1] at h; cases h
    | some p =>
      cases e2 : pvDs (A.ers r) with
      | none => rw [e1, e2] at h; cases h
      | some qs =>
        rw [e1, e2] at h
        cases h
        simp only [A.pvs]
        rw [ih x List.mem_cons_self p e1, pvDs_of r (fun y hy => ih y (List.mem_cons_of_mem _ hy)) qs e2]
theorem pvD_of (a : A) : ∀ p, pvD a.er = some p → a.pv = p := by
  induction a using A.ind with
  | h1 s => intro p h; simp only [A.er, pvD] at h; cases h; rfl
  | h2 xs ih =>
    intro p h
    simp only [A.er, pvD] at h
    cases e : pvDs (A.ers xs) with
    | none => rw [e] at h; cases h
    | some ps =>
      rw [e] at h
      cases h
      simp only [A.pv]
      rw [pvDs_of xs ih ps e]
  | h3 k n hd xs ih => intro p h; simp only [A.er, pvD] at h; cases h
def keyT (y : RV) : Option (PV × NestedKey) := match y with
  | .v d => (match pvD d with
    | some p => (GL.nkOf p).map fun k => (p, k)
    | none => none)
  | _ => none
theorem keyT_er {c : ARV} {p : PV} {nk : NestedKey} (h : keyT c.er = some (p, nk)) {w : PV} (hp : c.pv as ag = some w) : w = p ∧ GL.nkOf p = some nk := by
  cases c with
  | pth r q => cases h
  | v a =>
    have hp : some a.pv = some w := hp
    injection hp with hp
    have h : (match pvD a.er with
      | some p => (GL.nkOf p).map fun k => (p, k)
      | none => none) = some (p, nk) := h
    cases e : pvD a.er with
    | none => rw [e] at h; cases h
    | some q =>
      rw [e] at h
      dsimp only at h
      cases e2 : GL.nkOf q with
      | none => rw [e2] at h; cases h
      | some k =>
        rw [e2] at h
        cases h
        exact ⟨hp.symm.trans (pvD_of a _ e), e2⟩
def idxNk (k : NestedKey) : List PV → Option Nat
  | [] => none
  | g :: r => if GL.nkOf g = some k then some 0 else (idxNk k r).map (· + 1)
theorem lookNk_zip {k : NestedKey} : ∀ (ns : List PV) (ws : List PV), ns.length = ws.length → GL.lookNk k (ns.zip ws) = (idxNk k ns).bind fun i => ws[i]?
  | [], _, _ => rfl
  | g :: r, [], h => by cases h
  | g :: r, w :: ws, h => by
    show GL.lookNk k ((g, w) :: r.zip ws) = _
    unfold GL.lookNk idxNk
    by_cases hg : GL.nkOf g = some k
    · rw [if_pos hg, if_pos hg]; rfl
    · rw [if_neg hg, if_neg hg, lookNk_zip r ws (Nat.succ.inj h)]
      cases idxNk k r <;> rfl
theorem idxNk_lt {k : NestedKey} : ∀ {ks : List PV} {i : Nat}, idxNk k ks = some i → i < ks.length
  | [], i, h => by cases h
  | g :: r, i, h => by
    unfold idxNk at h
    split at h
    · cases h; simp
    · obtain ⟨j, hj, rfl⟩ := Option.map_eq_some_iff.mp h
      have := idxNk_lt hj
      simp only [List.length_cons]; omega
theorem dcnA_of {n : Nat} {kvs : List (PV × PV)} (h : S[n]? = some (.dcn kvs)) : GL.dcnAt S n = some kvs := by unfold GL.dcnAt; rw [h]
def gNGet : G2 := fun x y ls gh => match val x ls gh, keyT y with
  | some (.nd _ (.dcn ks) xs), some k => (match idxNk k.2 ks with
    | some i => (match xs[i]? with
      | some d => .ok (childR x i d) ls gh
      | none => .bad)
    | none => .bad)
  | _, _ => .bad
def GNGet (w y : PV) (S2 : Sto) : GL.Out PV := match GL.nkOf y with
  | some nk => (match w with
    | .loc n => (match GL.dcnAt S2 n with
      | some kvs => (match GL.lookNk nk kvs with
        | some v => .ok v S2
        | none => .bad)
      | none => .bad)
    | _ => .bad)
  | none => .bad
theorem sim_gNGet : SimG true GNGet gNGet := by
  intro F S as ag c1 c2 w1 w2 g nd lt h1 h2 k1 k2
  unfold gNGet
  split
  · rename_i fl ks xs k e1 e2
    obtain ⟨a, ea, rfl, aok, hc⟩ := val_er c1 e1 h1 g k1
    obtain ⟨n, ys, rfl, rfl⟩ := er_nd ea
    obtain ⟨rfl, hkey⟩ := keyT_er (p := k.1) (nk := k.2) e2 h2
    split
    · rename_i i hi
      split
      · rename_i d hd
        rw [ers_map, List.getElem?_map] at hd
        obtain ⟨x, hx, rfl⟩ := Option.map_eq_some_iff.mp hd
        refine sim_child g nd lt (List.sublist_append_left _ _) k1 (kids_of hc) hx (ok_kids aok) (fun _ => ?_)
        have ob := AtU.dcn (obj_of g.fs aok)
        have hw : ks.length = ys.length := by simpa [Hd.wf] using wf_of aok
        have hl := lookNk_zip (k := k.2) ks (A.pvs ys) (by rw [pvs_len]; exact hw)
        rw [hi, Option.bind_some, pvs_map, List.getElem?_map, hx] at hl
        simp only [GNGet, A.pv, dcnA_of ob, hkey]
        rw [pvs_map, hl]; rfl
      · trivial
    · trivial
  · trivial
def eNGet (d k : PE) : PE := eOp gNGet d k
theorem sim_nget {qa : Bool} {ma mb : AD → GL.ME} {pa pb : PE} (ha : SimE qa ma pa) (hb : SimE true mb pb) : SimE qa (fun ad => GL.eNGet (ma ad) (mb ad)) (eNGet pa pb) := sim_op (gg := GNGet) ha hb sim_gNGet
def gNIn (neg : Bool) : G2 := fun y x ls gh => match val x ls gh, keyT y with
  | some (.nd _ (.dcn ks) _), some k => .ok (.v (.bl (if neg = true then !(idxNk k.2 ks).isSome else (idxNk k.2 ks).isSome))) ls gh
  | _, _ => .bad
def GNIn (neg : Bool) (y w : PV) (S2 : Sto) : GL.Out PV := match w, GL.nkOf y with
  | .loc n, some nk => (match GL.dcnAt S2 n with
    | some kvs => .ok (.bl (if neg = true then !(GL.lookNk nk kvs).isSome else (GL.lookNk nk kvs).isSome)) S2
    | none => .bad)
  | _, _ => .bad
theorem sim_gNIn (neg : Bool) : SimG true (GNIn neg) (gNIn neg) := by
  intro F S as ag c1 c2 w1 w2 g nd lt h1 h2 k1 k2
  unfold gNIn
  split
  · rename_i fl ks xs k e1 e2
    obtain ⟨a, ea, rfl, aok, hc⟩ := val_er c2 e1 h2 g k2
    obtain ⟨n, ys, rfl, rfl⟩ := er_nd ea
    obtain ⟨rfl, hkey⟩ := keyT_er (p := k.1) (nk := k.2) e2 h1
    refine sim_sc g nd lt (.bl _) (fun _ => ?_)
    have ob := AtU.dcn (obj_of g.fs aok)
    have hw : ks.length = ys.length := by simpa [Hd.wf] using wf_of aok
    have hl := lookNk_zip (k := k.2) ks (A.pvs ys) (by rw [pvs_len]; exact hw)
    have hs : (GL.lookNk k.2 (ks.zip (A.pvs ys))).isSome = (idxNk k.2 ks).isSome := by
      rw [hl]
      cases hi : idxNk k.2 ks with
      | none => rfl
      | some i =>
        have := idxNk_lt hi
        rw [Option.bind_some, List.getElem?_eq_getElem (by rw [pvs_len]; omega)]; rfl
    simp only [GNIn, A.pv, dcnA_of ob, hkey, hs, Sc.pv]
  · trivial
def eNIn (neg : Bool) (k d : PE) : PE := eOp (gNIn neg) k d
theorem sim_nin {neg : Bool} {qa : Bool} {ma mb : AD → GL.ME} {pa pb : PE} (ha : SimE qa ma pa) (hb : SimE true mb pb) : SimE qa (fun ad => GL.eNIn neg (ma ad) (mb ad)) (eNIn neg pa pb) := sim_op (gg := GNIn neg) ha hb (sim_gNIn neg)
theorem setNk_zip {k : NestedKey} {y : PV} : ∀ (ks : List PV) (ws : List PV) {i : Nat}, ks.length = ws.length → idxNk k ks = some i → idxNk k (ks.drop (i + 1)) = none → GL.setNk k y (ks.zip ws) = ks.zip (ws.set i y)
  | [], _, i, _, h, _ => by cases h
  | _ :: _, [], i, h, _, _ => by cases h
  | g :: r, w :: ws, i, h, hi, hn => by
    have none_set : ∀ (ks : List PV) (ws : List PV), idxNk k ks = none → GL.setNk k y (ks.zip ws) = ks.zip ws := fun ks => by
      induction ks with
      | nil => intro ws _; rfl
      | cons a t ih =>
        intro ws hk
        cases ws with
        | nil => rfl
        | cons b u =>
          unfold idxNk at hk
          split at hk
          · cases hk
          · rename_i ha
            show (if GL.nkOf a = some k then (a, y) else (a, b)) :: GL.setNk k y (t.zip u) = _
            rw [if_neg ha, ih u (Option.map_eq_none_iff.mp hk)]; rfl
    unfold idxNk at hi
    show (if GL.nkOf g = some k then (g, y) else (g, w)) :: GL.setNk k y (r.zip ws) = _
    split at hi
    · rename_i hg
      cases hi
      rw [if_pos hg, none_set r ws (by simpa using hn)]; rfl
    · rename_i hg
      obtain ⟨j, hj, rfl⟩ := Option.map_eq_some_iff.mp hi
      rw [if_neg hg, setNk_zip r ws (Nat.succ.inj h) hj (by simpa using hn)]; rfl
def putNk (x y z : RV) (ls gh : Ls) : SOut := match y, keyT z with
  | .pth r p, some k => (match cvR true x ls gh with
    | some (d, ls, gh) => (match atD ls gh r p with
      | some (.nd .ow (.dcn ks) xs) => if xs.length < 1000 then (match idxNk k.2 ks with
        | some i => if (idxNk k.2 (ks.drop (i + 1))).isNone = true then nxD (chD (exT i) r p (.nd .ow (.dcn ks) (xs.set i d)) ls gh) else .bad
        | none => nxD (chD allT r p (.nd .ow (.dcn (ks ++ [k.1])) (xs ++ [d])) ls gh)) else .bad
      | _ => .bad)
    | none => .bad)
  | _, _ => .bad
def sNPut (d k e : PE) : MS := fun ls gh => (e ls gh).then fun x ls gh => (d ls gh).then fun y ls gh => (k ls gh).then fun z ls gh => putNk x y z ls gh
def gPutN (L : GL.Ls) (v w y : PV) (S3 : Sto) : GL.SOut := match GL.nkOf y with
  | some nk => (match w with
    | .loc n => (match GL.dcnAt S3 n with
      | some kvs => if kvs.length < 1000 then .nx L (S3.set n (.dcn (GL.putNk y nk v kvs))) else .bad
      | none => .bad)
    | _ => .bad)
  | none => .bad
theorem putNk_sim {c1 c2 c3 : ARV} {w1 w2 w3 : PV} {L : AD → GL.Ls} (g : Good F S as ag) (nd : (fpS (as ++ ag) ++ RA.fp (([c1] ++ [c2]) ++ [c3])).Nodup) (lt : ∀ n ∈ RA.fp (([c1] ++ [c2]) ++ [c3]), n < S.length) (h : RA.pv as ag (([c1] ++ [c2]) ++ [c3]) = some (([w1] ++ [w2]) ++ [w3])) (hk : RA.ok F S (([c1] ++ [c2]) ++ [c3])) (hL : ∀ ad, L ad = glS as ag ad as) :
    SimSO F S as ag (RA.fp (([c1] ++ [c2]) ++ [c3])) (fun ad => gPutN (L ad) w1 w2 w3 S) (putNk c1.er c2.er c3.er (erS as) (erS ag)) := by
  obtain ⟨h1, h2, h3⟩ := three h
  have s1 : (c1.fp).Sublist (RA.fp (([c1] ++ [c2]) ++ [c3])) := sub1 c1 _
  have nd1 := nd.sublist (List.Sublist.append_left s1 _)
  have lt1 : ∀ n ∈ c1.fp, n < S.length := fun n hn => lt n (s1.subset hn)
  refine preSub g nd lt s1 ?_
  unfold putNk
  split
  · rename_i r p k e2 e3
    obtain ⟨rfl, hkey⟩ := keyT_er (p := k.1) (nk := k.2) e3 h3
    cases hc : cvR true c1.er (erS as) (erS ag) with
    | none => trivial
    | some z =>
      obtain ⟨d, l1, g1⟩ := z
      obtain ⟨F1, as1, ag1, a, rfl, rfl, rfl, rfl, aok, _, ev⟩ := cv_sim0 g nd1 lt1 h1 (hk c1 (by simp)) hc
      dsimp only
      split
      · rename_i ks xs hx
        obtain ⟨b, hb, eb⟩ := at_er' hx
        obtain ⟨n, ys, rfl, rfl⟩ := er_nd eb
        have hw2 : w2 = .loc n := by
          cases c2 with
          | v _ => cases e2
          | pth r' p' =>
            cases e2
            have := ev.per rfl r p w2 h2
            rw [hb] at this
            cases this; rfl
        subst hw2
        have bok := at_ok ev.good hb
        have hw : ks.length = ys.length := by simpa [Hd.wf] using wf_of bok
        simp only [A.ok] at bok
        have ob : S[n]? = some (.dcn (ks.zip (A.pvs ys))) := bok.1.2
        have hd : GL.dcnAt S n = some (ks.zip (A.pvs ys)) := dcnA_of ob
        have hzl : (ks.zip (A.pvs ys)).length = (A.ers ys).length := by rw [List.length_zip, pvs_len, ers_len, hw]; simp
        have hlp := lookNk_zip (k := k.2) ks (A.pvs ys) (by rw [pvs_len]; exact hw)
        by_cases hl : (A.ers ys).length < 1000
        · rw [if_pos hl]
          refine SimSO.pre ev.sv ?_
          have hg : ∀ ad, gPutN (L ad) a.pv (.loc n) k.1 S = .nx (L ad) (S.set n (.dcn (GL.putNk k.1 k.2 a.pv (ks.zip (A.pvs ys))))) := fun ad => by
            unfold gPutN
            simp only [hd, hzl, hkey, if_pos hl]
          split
          · rename_i i hi
            by_cases hu : (idxNk k.2 (ks.drop (i + 1))).isNone = true
            · rw [if_pos hu]
              have hil : i < ys.length := hw ▸ idxNk_lt hi
              have hpz : GL.putNk k.1 k.2 a.pv (ks.zip (A.pvs ys)) = ks.zip ((A.pvs ys).set i a.pv) := by
                unfold GL.putNk
                rw [hlp, hi, Option.bind_some, List.getElem?_eq_getElem (by rw [pvs_len]; exact hil)]
                exact setNk_zip ks _ (by rw [pvs_len]; exact hw) hi (Option.isNone_iff_eq_none.mp hu)
              refine sim_nxD (y := .nd .ow n (.dcn ks) (ys.set i a)) (S' := S.set n (mkO (.dcn ks) (A.pvs (ys.set i a)))) (F' := F1) (L := L) (by simp [A.er, ers_set]) (fun ad => ?_) (fun ad => (hL ad).trans (ev.gl ad).symm) (node_put ev.good ev.nd ev.lt aok hb (by simp [Hd.wf, hw]) (.inl ⟨i, hil, rfl, rfl⟩))
              rw [hg, hpz]; simp only [mkO, pvs_set]
            · rw [if_neg hu]; trivial
          · rename_i hi
            have hpz : GL.putNk k.1 k.2 a.pv (ks.zip (A.pvs ys)) = ks.zip (A.pvs ys) ++ [(k.1, a.pv)] := by
              unfold GL.putNk
              rw [hlp, hi]; rfl
            refine sim_nxD (y := .nd .ow n (.dcn (ks ++ [k.1])) (ys ++ [a])) (S' := S.set n (mkO (.dcn (ks ++ [k.1])) (A.pvs (ys ++ [a])))) (F' := F1) (L := L) (by simp [A.er, ers_app, A.ers]) (fun ad => ?_) (fun ad => (hL ad).trans (ev.gl ad).symm) (node_put ev.good ev.nd ev.lt aok hb (by simp [Hd.wf, hw]) (.inr ⟨rfl, rfl⟩))
            rw [hg, hpz]
            have : (ks ++ [k.1]).zip (A.pvs ys ++ [a.pv]) = ks.zip (A.pvs ys) ++ [(k.1, a.pv)] := by
              rw [List.zip_append (by rw [pvs_len]; exact hw)]; rfl
            simp [mkO, pvs_app, A.pvs, this]
        · rw [if_neg hl]; trivial
      · trivial
  · trivial
theorem sim_nput {q : Bool} {md mk me : AD → GL.ME} {pd pk pe : PE} (hd : SimE true md pd) (hkk : SimE true mk pk) (he : SimE q me pe) : SimS (fun ad => GL.sNPut (md ad) (mk ad) (me ad)) (sNPut pd pk pe) := fun F S as ag g =>
  sim_then (R := RE) (f := fun ad w S1 => (md ad (glS as ag ad as) S1).then (glS as ag ad as) fun l S2 => (mk ad (glS as ag ad as) S2).then (glS as ag ad as) fun k S3 => gPutN (glS as ag ad as) w l k S3)
    (k := fun x ls gh => (pd ls gh).then fun y ls gh => (pk ls gh).then fun k ls gh => putNk x y k ls gh) he g (fun _ => rfl) fun F1 S1 as1 ag1 c1 w1 h1 h2 g1 n1 l1 L1 => by
    have e0 : RA.fp [c1] = c1.fp := List.append_nil _
    have h := sim_thenN (cs := [c1]) (ws := [w1]) (L := fun ad => glS as ag ad as) (f := fun ad l S2 => (mk ad (glS as ag ad as) S2).then (glS as ag ad as) fun k S3 => gPutN (glS as ag ad as) w1 l k S3) (k := fun y ls gh => (pk ls gh).then fun k ls gh => putNk (RE.er c1) y k ls gh) hd g1 (seqO_mk h1 rfl) (fun c hc => by rw [List.mem_singleton.mp hc]; exact h2) (by rw [e0]; exact n1) (by rw [e0]; exact l1) L1
      (fun F2 S2 as2 ag2 c2 w2 h1 h2 g2 n2 l2 L2 => sim_thenN (cs := [c1] ++ [c2]) (ws := [w1] ++ [w2]) (L := fun ad => glS as ag ad as) (f := fun ad k S3 => gPutN (glS as ag ad as) w1 w2 k S3) (k := fun k ls gh => putNk (RE.er c1) c2.er k ls gh) hkk g2 h1 h2 n2 l2 L2
        (fun F3 S3 as3 ag3 c3 w3 h1 h2 g3 n3 l3 L3 => putNk_sim g3 n3 l3 h1 h2 L3))
    rw [e0] at h
    exact h
def kNDisp (xs : List RV) (ls gh : Ls) : Out RV := match xs with
  | [y, x] => (match keyT y with
    | some z => (match cvL true [x] ls gh with
      | some (ds, ls, gh) => .ok (.v (.nd .ow (.dcn [z.1]) ds)) ls gh
      | none => .bad)
    | none => .bad)
  | _ => .bad
def eNDisp (pk pv : PE) : PE := fun ls gh => (flatP [(pk, pv)] ls gh).bind fun xs ls gh => kNDisp xs ls gh
def gNDisp (n0 : Nat) (ws : List PV) (S1 : Sto) : GL.Out PV := match ws with
  | [y, v] => (match GL.nkOf y, S1[n0]? with
    | some _, some (.dcn []) => .ok (.loc n0) (S1.set n0 (.dcn [(y, v)]))
    | _, _ => .bad)
  | _ => .bad
theorem sim_ndisp {mk mv : AD → GL.ME} {pk pv : PE} (hk : SimE true mk pk) (hv : SimE true mv pv) : SimE true (fun ad => GL.eNDisp (mk ad) (mv ad)) (eNDisp pk pv) := by
  have h : SimPs (fun ad => [(mk ad, mv ad)]) [(pk, pv)] := .cons hk hv .nil
  intro F S as ag g
  have hF : F S.length = none := by
    cases hf : F S.length with
    | none => rfl
    | some z =>
      obtain ⟨b, o⟩ := z
      have := (g.fs _ _ _ hf).lt
      omega
  have gr : ∀ n, n < S.length → (S ++ [OB.dcn []])[n]? = S[n]? := fun n hn => List.getElem?_append_left hn
  have fs : FS F (S ++ [OB.dcn []]) := fun n b o e => by
    have := g.fs n b o e
    exact this.to (gr n this.lt)
  have ev0 : Ev true F S as ag [] F (S ++ [OB.dcn []]) as ag [S.length] :=
    ev_same g (good_nd g) Mono.refl fs (by simp) (fun n hn _ => ⟨rfl, gr n hn⟩) (by simp) (fun n hn => by rw [List.mem_singleton.mp hn]; exact .inr (Nat.le_refl _)) (fun n hn => by rw [List.mem_singleton.mp hn]; simp)
  have nok : (A.nd .ow S.length (.dcn []) []).ok F (S ++ [OB.dcn []]) := by
    simp only [A.ok]
    exact ⟨⟨hF, by rw [List.getElem?_append_right (Nat.le_refl _)]; simp [mkO]⟩, rfl, trivial⟩
  have efp : RE.fp (.v (.nd .ow S.length (.dcn []) [])) = [S.length] := rfl
  have eo : (fun ad => GL.eNDisp (mk ad) (mv ad) (glS as ag ad as) S) = fun ad => (flatG [(mk ad, mv ad)] (glS as ag ad as) (S ++ [OB.dcn []])).bind fun ws S1 => gNDisp S.length ws S1 := by
    funext ad
    show (mk ad (glS as ag ad as) (S ++ [OB.dcn []])).bind _ = ((mk ad (glS as ag ad as) (S ++ [OB.dcn []])).bind _).bind _
    cases mk ad (glS as ag ad as) (S ++ [OB.dcn []]) with
    | bad => rfl
    | exc e S => rfl
    | ok x S1 =>
      show (mv ad (glS as ag ad as) S1).bind _ = ((mv ad (glS as ag ad as) S1).bind _ |>.bind _).bind _
      cases mv ad (glS as ag ad as) S1 <;> rfl
  show SimO _ _ _ _ _ _ _ (fun ad => GL.eNDisp (mk ad) (mv ad) (glS as ag ad as) S) _
  rw [eo]
  refine SimO.pre ev0 (SimO.weak ?_ (q := true && true) (fun _ => rfl))
  refine sim_next (R := RA) (R0 := RE) (R' := RE) (L := fun ad => glS as ag ad as) (q' := true) (k := fun (xs : List RV) (ls gh : Ls) => kNDisp xs ls gh) (f := fun (ad : AD) (ws : List PV) (S1 : Sto) => gNDisp S.length ws S1) (sim_flat h) ev0.good (.v (.nd .ow S.length (.dcn []) [])) (w0 := .loc S.length) rfl nok ev0.nd ev0.lt (stab_re true _ (.inl rfl)) (fun _ => rfl) fun F1 S1 as1 ag1 cs ws h1 h2 h3 h4 g1 n1 l1 L1 => ?_
  match cs, h3, h4, n1, l1 with
  | [], _, _, _, _ => trivial
  | [_], _, _, _, _ => trivial
  | _ :: _ :: _ :: _, _, _, _, _ => trivial
  | [c1, c2], h3, h4, n1, l1 => ?_
  obtain ⟨w1, t1, p1, ht1, rfl⟩ := seqO_cons h3
  obtain ⟨w2, t2, p2, ht2, rfl⟩ := seqO_cons ht1
  cases ht2
  show SimO _ _ _ _ _ _ _ _ (kNDisp [c1.er, c2.er] _ _)
  unfold kNDisp
  dsimp only
  cases hs : keyT c1.er with
  | none => trivial
  | some z =>
    dsimp only
    obtain ⟨hw1, hkey⟩ := keyT_er (p := z.1) (nk := z.2) hs p1
    subst hw1
    have a2 : RA.pv as1 ag1 [c2] = some [w2] := seqO_mk p2 rfl
    have a6 : (RA.fp [c2]).Sublist (RA.fp [c1, c2]) := by
      show (c2.fp ++ []).Sublist (c1.fp ++ (c2.fp ++ []))
      exact List.sublist_append_right _ _
    have a7 : ∀ c ∈ [c2], c ∈ [c1, c2] := fun c hc => by rw [List.mem_singleton.mp hc]; simp
    rw [efp] at n1 l1 ⊢
    have s1 : ([S.length] ++ RA.fp [c2]).Sublist ([S.length] ++ RA.fp [c1, c2]) := List.Sublist.append_left a6 _
    have n2 := n1.sublist (List.Sublist.append_left s1 (fpS (as1 ++ ag1)))
    have l2 : ∀ n ∈ [S.length] ++ RA.fp [c2], n < S1.length := fun n hn => l1 n (s1.subset hn)
    obtain ⟨m1, m2, m3⟩ := nd_sub n2
    cases hc : cvL true [c2.er] (erS as1) (erS ag1) with
    | none => trivial
    | some u =>
      obtain ⟨es, l3, g3⟩ := u
      obtain ⟨F2, as2, ag2, xs, rfl, rfl, rfl, hpv, xok, _, ev⟩ := cvL_sim g1 m2 (fun n hn => l2 n (List.mem_append_right _ hn)) a2 (fun c hc => h4 c (a7 c hc)) hc
      dsimp only
      have evf := ev.frame n2 (fun n hn => l2 n (List.mem_append_left _ hn))
      have h2 : (A.nd .ow S.length (.dcn []) []).ok F1 S1 := h2
      have kp := ev.stay (z := .nd .ow S.length (.dcn []) []) h2 n2 g1.fs
      simp only [A.ok] at kp
      have ob : S1[S.length]? = some (.dcn []) := kp.1.2
      have ndx : (S.length :: A.fps xs).Nodup := (List.nodup_append.mp evf.nd).2.1
      have nn := (List.nodup_cons.mp ndx).1
      have gr2 : ∀ (o : OB) n, n ≠ S.length → (S1.set S.length o)[n]? = S1[n]? := fun o n hn => List.getElem?_set_ne (fun e => hn e.symm)
      have lt0 : S.length < S1.length := l2 _ (by simp)
      have kl : [z.1].length = xs.length := by
        have hx : (A.pvs xs).length = 1 := by rw [hpv]; rfl
        rw [pvs_len] at hx; rw [hx]; rfl
      let o : OB := .dcn ([z.1].zip (A.pvs xs))
      have fs2 : FS F2 (S1.set S.length o) := fun m b q e => by
        exact (ev.good.fs m b q e).to (gr2 o m (fun h => by subst h; rw [kp.1.1] at e; cases e))
      refine SimO.pre ((Ev.refl g1 n1 l1).sub s1) (SimO.pre evf ?_)
      refine ⟨F2, S1.set S.length o, as2, ag2, .v (.nd .ow S.length (.dcn [z.1]) xs), .loc S.length, rfl, rfl, by simp [RE, ARV.er, A.er], fun ad => ?_, rfl, ?_, ?_⟩
      · show gNDisp S.length [z.1, w2] S1 = _
        unfold gNDisp
        dsimp only
        rw [hkey, ob]
        show GL.Out.ok (PV.loc S.length) (S1.set S.length (.dcn [(z.1, w2)])) = .ok (.loc S.length) (S1.set S.length (.dcn ([z.1].zip (A.pvs xs))))
        rw [hpv]; rfl
      · show A.ok _ _ _
        simp only [A.ok]
        refine ⟨⟨kp.1.1, by rw [List.getElem?_set_self lt0]; rfl⟩, by simp [Hd.wf, kl], ?_⟩
        rw [oks_iff] at xok ⊢
        exact fun x hx => ok_frame Mono.refl (fun n hn => ⟨rfl, gr2 o n fun e => nn (by rw [← e, fps_map]; exact List.mem_flatMap.mpr ⟨x, hx, hn⟩)⟩) (xok x hx)
      · show Ev true F2 S1 as2 ag2 ([S.length] ++ A.fps xs) F2 _ as2 ag2 (S.length :: A.fps xs)
        exact ev_same ev.good evf.nd Mono.refl fs2 (by simp) (fun n hn hx => ⟨rfl, gr2 o n fun e => hx (by rw [e]; simp)⟩) ndx (fun n hn => .inl hn) (fun n hn => by rw [List.length_set]; exact evf.lt n hn)
end VL
set_option Elab.async false
set_option linter.all false
set_option maxRecDepth 100000
set_option maxHeartbeats 1000000
namespace K74.V
open VL
open PySem (Str)
def m_law_row : MS := (sSeq (sSet 2 (eLst aNil))
  (sSeq (sFor (iSeq (eVar 0)) (gN 3)
  (sSeq (sSet 4 (eB fAbs (aCons (eB fInt (aCons (eVar 3) aNil)) aNil)))
  (sFor (iR1 (eC (.int 60))) (gN 5)
  (sSeq (sIf (toT (eOp gLt (eB fLen (aCons (eVar 2) aNil)) (eVar 1)))
  (sExpr (eMt kList mAppend (eVar 2) (aCons (eOp gMod (eVar 4) (eC (.int 16))) aNil)))
  sNil)
  (sSeq (sSet 4 (eOp gDiv (eVar 4) (eC (.int 16))))
  (sIf (toT (eOp gEq (eVar 4) (eC (.int 0))))
  sBk
  sNil))))))
  (sRet (eVar 2))))
abbrev f_law_row : MF := fnOf 2 6 m_law_row
theorem s_m_law_row : SimS (fun _ => K74.m_law_row) m_law_row := (sim_seq (sim_set (sim_lst sim_anil))
  (sim_seq (sim_for (sim_iseq (sim_var 0)) (sim_gN (vs := [3]) (by decide))
  (sim_seq (sim_set (sim_b (sim_acons (sim_b (sim_acons (sim_var 3) sim_anil) sim_fInt) sim_anil) sim_fAbs))
  (sim_for (sim_ir1 (sim_c rfl)) (sim_gN (vs := [5]) (by decide))
  (sim_seq (sim_sif (sim_toT (sim_op (sim_b (sim_acons (sim_var 2) sim_anil) sim_fLen) (sim_var 1) sim_gLt))
  (sim_expr (sim_mt sim_kList sim_mAppend (sim_var 2) (sim_acons (sim_op (sim_var 4) (sim_c rfl) sim_gMod) sim_anil)))
  sim_nil)
  (sim_seq (sim_set (sim_op (sim_var 4) (sim_c rfl) sim_gDiv))
  (sim_sif (sim_toT (sim_op (sim_var 4) (sim_c rfl) sim_gEq))
  sim_bk
  sim_nil))))))
  (sim_ret (sim_var 2))))
theorem s_f_law_row : SimFn K74.f_law_row f_law_row := sim_fn s_m_law_row
def m_Handshake_init_of_Table : MS := (sSeq (sFldM tab n_first (eVar 0) (eVar 1))
  (sFldM tab n_rows (eVar 0) (eLc (iSeq (eVar 2)) (gN 3) tYesM (eB fTuple (aCons (eVar 3) aNil)) [3])))
abbrev f_Handshake_init_of_Table : MF := fnOf 3 4 m_Handshake_init_of_Table
theorem s_m_Handshake_init_of_Table : SimS (fun _ => K74.m_Handshake_init_of_Table) m_Handshake_init_of_Table := (sim_seq (sim_sfld (sim_var 0) (sim_var 1))
  (sim_sfld (sim_var 0) (sim_lc (sim_iseq (sim_var 2)) (sim_gN (vs := [3]) (by decide)) sim_tyes (sim_b (sim_acons (sim_var 3) sim_anil) sim_fTuple))))
theorem s_f_Handshake_init_of_Table : SimFn K74.f_Handshake_init_of_Table f_Handshake_init_of_Table := sim_fn s_m_Handshake_init_of_Table
def m_Handshake_init : MS := (sSeq (sExpr (eMethM n_Handshake n___init__ f_Handshake_init_of_Table [1, 0] [(.tup [])] (eVar 0) (aCons (eTup (aCons (eC (.str n_between)) (aCons (eC (.str n_between)) aNil))) aNil)))
  (sFldM tab n_waiting_counts (eVar 0) (eVar 1)))
abbrev f_Handshake_init : MF := fnOf 2 2 m_Handshake_init
theorem s_m_Handshake_init : SimS (fun _ => K74.m_Handshake_init) m_Handshake_init := (sim_seq (sim_expr (sim_methM s_f_Handshake_init_of_Table rfl (sim_var 0) (sim_acons (sim_tup (sim_acons (sim_c rfl) (sim_acons (sim_c rfl) sim_anil))) sim_anil)))
  (sim_sfld (sim_var 0) (sim_var 1)))
theorem s_f_Handshake_init : SimFn K74.f_Handshake_init f_Handshake_init := sim_fn s_m_Handshake_init
def m_Handshake_start : MS := (sRet (eFld tab n_first (eVar 0)))
abbrev f_Handshake_start : MF := fnOf 1 1 m_Handshake_start
theorem s_m_Handshake_start : SimS (fun _ => K74.m_Handshake_start) m_Handshake_start := (sim_ret (sim_fld (sim_var 0)))
theorem s_f_Handshake_start : SimFn K74.f_Handshake_start f_Handshake_start := sim_fn s_m_Handshake_start
def m_Handshake_may_pass : MS := (sRet (eOrM (eOp gEq (eVar 1) (eC (.str n_between))) (eAndM (eFld tab n_waiting_counts (eVar 0)) (eOp gEq (eVar 1) (eC (.str n_waiting))))))
abbrev f_Handshake_may_pass : MF := fnOf 2 2 m_Handshake_may_pass
theorem s_m_Handshake_may_pass : SimS (fun _ => K74.m_Handshake_may_pass) m_Handshake_may_pass := (sim_ret (sim_or (sim_op (sim_var 1) (sim_c rfl) sim_gEq) (sim_and (sim_fld (sim_var 0)) (sim_op (sim_var 1) (sim_c rfl) sim_gEq))))
theorem s_f_Handshake_may_pass : SimFn K74.f_Handshake_may_pass f_Handshake_may_pass := sim_fn s_m_Handshake_may_pass
def m_Handshake_moves : MS := (sSeq (sSet 2 (eLst aNil))
  (sSeq (sFor (iSeq (eC w_DEEDS)) (gT (gsCons (gN 3) (gsCons (gN 4) (gsCons (gN 5) gsNil))))
  (sFor (iR1 (eC w_PROCESSORS)) (gN 6)
  (sIf (tAndM (toT (eOp gEq (eOp gIx (eVar 1) (eVar 6)) (eVar 4))) (tOrM (toT (eOp gNe (eVar 3) (eC (.str n_pass)))) (toT (eMeth n_Handshake n_may_pass f_Handshake_may_pass [] (eVar 0) (aCons (eOp gIx (eVar 1) (eOp gSub (eC (.int 1)) (eVar 6))) aNil)))))
  (sSeq (sSet 7 (eB fList (aCons (eVar 1) aNil)))
  (sSeq (sSub (eVar 7) (eVar 6) (eVar 5))
  (sExpr (eMt kList mAppend (eVar 2) (aCons (eTup (aCons (fJs [(eFmt (eVar 3)), (eC (.str n__)), (eFmt (eVar 6))] []) (aCons (eB fTuple (aCons (eVar 7) aNil)) aNil))) aNil)))))
  sNil)))
  (sRet (eVar 2))))
abbrev f_Handshake_moves : MF := fnOf 2 8 m_Handshake_moves
theorem s_m_Handshake_moves : SimS (fun _ => K74.m_Handshake_moves) m_Handshake_moves := (sim_seq (sim_set (sim_lst sim_anil))
  (sim_seq (sim_for (sim_iseq (sim_c rfl)) (sim_gT (sim_gscons (sim_gN (vs := [3, 4, 5]) (by decide)) (sim_gscons (sim_gN (vs := [3, 4, 5]) (by decide)) (sim_gscons (sim_gN (vs := [3, 4, 5]) (by decide)) sim_gsnil))))
  (sim_for (sim_ir1 (sim_c rfl)) (sim_gN (vs := [6]) (by decide))
  (sim_sif (sim_tand (sim_toT (sim_op (sim_op (sim_var 1) (sim_var 6) sim_gIx) (sim_var 4) sim_gEq)) (sim_tor (sim_toT (sim_op (sim_var 3) (sim_c rfl) sim_gNe)) (sim_toT (sim_meth s_f_Handshake_may_pass rfl (sim_var 0) (sim_acons (sim_op (sim_var 1) (sim_op (sim_c rfl) (sim_var 6) sim_gSub) sim_gIx) sim_anil)))))
  (sim_seq (sim_set (sim_b (sim_acons (sim_var 1) sim_anil) sim_fList))
  (sim_seq (sim_sub (sim_var 5) (sim_var 7) (sim_var 6))
  (sim_expr (sim_mt sim_kList sim_mAppend (sim_var 2) (sim_acons (sim_tup (sim_acons (sim_js (.cons (sim_fmt (sim_var 3)) (.cons (sim_c rfl) (.cons (sim_fmt (sim_var 6)) .nil))) []) (sim_acons (sim_b (sim_acons (sim_var 7) sim_anil) sim_fTuple) sim_anil))) sim_anil)))))
  sim_nil)))
  (sim_ret (sim_var 2))))
theorem s_f_Handshake_moves : SimFn K74.f_Handshake_moves f_Handshake_moves := sim_fn s_m_Handshake_moves
def m_Handshake_scenario : MS := (sSeq (sSet 1 (eNDisp (eMeth n_Handshake n_start f_Handshake_start [] (eVar 0) aNil) (eTup aNil)))
  (sSeq (sSet 2 (eLst (aCons (eMeth n_Handshake n_start f_Handshake_start [] (eVar 0) aNil) aNil)))
  (sSeq (sSet 3 (eC (.int 0)))
  (sSeq (whileL (toT (eOp gLt (eVar 3) (eB fLen (aCons (eVar 2) aNil))))
  (sSeq (sSet 4 (eOp gIx (eVar 2) (eVar 3)))
  (sSeq (sFor (iSeq (eMeth n_Handshake n_moves f_Handshake_moves [] (eVar 0) (aCons (eVar 4) aNil))) (gT (gsCons (gN 5) (gsCons (gN 6) gsNil)))
  (sSeq (sIf (toT (eOp gEq (eVar 6) (eC w_BAD)))
  (sRet (eOp gAdd (eB fList (aCons (eNGet (eVar 1) (eVar 4)) aNil)) (eLst (aCons (eVar 5) aNil))))
  sNil)
  (sIf (toT (eNIn true (eVar 6) (eVar 1)))
  (sSeq (sNPut (eVar 1) (eVar 6) (eOp gAdd (eNGet (eVar 1) (eVar 4)) (eTup (aCons (eVar 5) aNil))))
  (sExpr (eMt kList mAppend (eVar 2) (aCons (eVar 6) aNil))))
  sNil)))
  (sAug 3 (gInt fun i j => i + j) (eC (.int 1))))) 1000)
  (sRet (eC .non))))))
abbrev f_Handshake_scenario : MF := fnOf 1 7 m_Handshake_scenario
theorem s_m_Handshake_scenario : SimS (fun _ => K74.m_Handshake_scenario) m_Handshake_scenario := (sim_seq (sim_set (sim_ndisp (sim_meth s_f_Handshake_start rfl (sim_var 0) sim_anil) (sim_tup sim_anil)))
  (sim_seq (sim_set (sim_lst (sim_acons (sim_meth s_f_Handshake_start rfl (sim_var 0) sim_anil) sim_anil)))
  (sim_seq (sim_set (sim_c rfl))
  (sim_seq (sim_while (sim_toT (sim_op (sim_var 3) (sim_b (sim_acons (sim_var 2) sim_anil) sim_fLen) sim_gLt))
  (sim_seq (sim_set (sim_op (sim_var 2) (sim_var 3) sim_gIx))
  (sim_seq (sim_for (sim_iseq (sim_meth s_f_Handshake_moves rfl (sim_var 0) (sim_acons (sim_var 4) sim_anil))) (sim_gT (sim_gscons (sim_gN (vs := [5, 6]) (by decide)) (sim_gscons (sim_gN (vs := [5, 6]) (by decide)) sim_gsnil)))
  (sim_seq (sim_sif (sim_toT (sim_op (sim_var 6) (sim_c rfl) sim_gEq))
  (sim_ret (sim_op (sim_b (sim_acons (sim_nget (sim_var 1) (sim_var 4)) sim_anil) sim_fList) (sim_lst (sim_acons (sim_var 5) sim_anil)) sim_gAdd))
  sim_nil)
  (sim_sif (sim_toT (sim_nin (sim_var 6) (sim_var 1)))
  (sim_seq (sim_nput (sim_var 1) (sim_var 6) (sim_op (sim_nget (sim_var 1) (sim_var 4)) (sim_tup (sim_acons (sim_var 5) sim_anil)) sim_gAdd))
  (sim_expr (sim_mt sim_kList sim_mAppend (sim_var 2) (sim_acons (sim_var 6) sim_anil))))
  sim_nil)))
  (sim_aug (sim_c rfl) (sim_gInt _)))) 1000)
  (sim_ret (sim_c rfl))))))
theorem s_f_Handshake_scenario : SimFn K74.f_Handshake_scenario f_Handshake_scenario := sim_fn s_m_Handshake_scenario
def m_law_nine : MS := (sSeq (sSet 0 (eLst (aCons (eC (.str n_between)) (aCons (eC (.str n_amid)) (aCons (eC (.str n_waiting)) aNil)))))
  (sSeq (sSet 1 (eLst aNil))
  (sSeq (sFor (iSeq (eVar 0)) (gN 2)
  (sFor (iSeq (eVar 0)) (gN 3)
  (sExpr (eMt kList mAppend (eVar 1) (aCons (eTup (aCons (eVar 2) (aCons (eVar 3) aNil))) aNil)))))
  (sRet (eVar 1)))))
abbrev f_law_nine : MF := fnOf 0 4 m_law_nine
theorem s_m_law_nine : SimS (fun _ => K74.m_law_nine) m_law_nine := (sim_seq (sim_set (sim_lst (sim_acons (sim_c rfl) (sim_acons (sim_c rfl) (sim_acons (sim_c rfl) sim_anil)))))
  (sim_seq (sim_set (sim_lst sim_anil))
  (sim_seq (sim_for (sim_iseq (sim_var 0)) (sim_gN (vs := [2]) (by decide))
  (sim_for (sim_iseq (sim_var 0)) (sim_gN (vs := [3]) (by decide))
  (sim_expr (sim_mt sim_kList sim_mAppend (sim_var 1) (sim_acons (sim_tup (sim_acons (sim_var 2) (sim_acons (sim_var 3) sim_anil))) sim_anil)))))
  (sim_ret (sim_var 1)))))
theorem s_f_law_nine : SimFn K74.f_law_nine f_law_nine := sim_fn s_m_law_nine
def m_law_same_moves : MS := (sSeq (sIf (tOrM (tNotM (toT (eB fIsi (aCons (eVar 0) (aCons (eC (.ty .list)) aNil))))) (toT (eOp gNe (eB fLen (aCons (eVar 0) aNil)) (eB fLen (aCons (eVar 1) aNil)))))
  (sRet (eC (.bl false)))
  sNil)
  (sSeq (sFor (iR1 (eB fLen (aCons (eVar 1) aNil))) (gN 2)
  (sIf (tOrM (tNotM (toT (eB fIsi (aCons (eOp gIx (eVar 0) (eVar 2)) (aCons (eC (.ty .tuple)) aNil))))) (tOrM (toT (eOp gNe (eB fLen (aCons (eOp gIx (eVar 0) (eVar 2)) aNil)) (eC (.int 2)))) (tOrM (tNotM (toT (eB fIsi (aCons (eOp gIx (eOp gIx (eVar 0) (eVar 2)) (eC (.int 1))) (aCons (eC (.ty .tuple)) aNil))))) (toT (eOp gNe (eOp gIx (eVar 0) (eVar 2)) (eOp gIx (eVar 1) (eVar 2)))))))
  (sRet (eC (.bl false)))
  sNil))
  (sRet (eC (.bl true)))))
abbrev f_law_same_moves : MF := fnOf 2 3 m_law_same_moves
theorem s_m_law_same_moves : SimS (fun _ => K74.m_law_same_moves) m_law_same_moves := (sim_seq (sim_sif (sim_tor (sim_tnot (sim_toT (sim_b (sim_acons (sim_var 0) (sim_acons (sim_c rfl) sim_anil)) sim_fIsi))) (sim_toT (sim_op (sim_b (sim_acons (sim_var 0) sim_anil) sim_fLen) (sim_b (sim_acons (sim_var 1) sim_anil) sim_fLen) sim_gNe)))
  (sim_ret (sim_c rfl))
  sim_nil)
  (sim_seq (sim_for (sim_ir1 (sim_b (sim_acons (sim_var 1) sim_anil) sim_fLen)) (sim_gN (vs := [2]) (by decide))
  (sim_sif (sim_tor (sim_tnot (sim_toT (sim_b (sim_acons (sim_op (sim_var 0) (sim_var 2) sim_gIx) (sim_acons (sim_c rfl) sim_anil)) sim_fIsi))) (sim_tor (sim_toT (sim_op (sim_b (sim_acons (sim_op (sim_var 0) (sim_var 2) sim_gIx) sim_anil) sim_fLen) (sim_c rfl) sim_gNe)) (sim_tor (sim_tnot (sim_toT (sim_b (sim_acons (sim_op (sim_op (sim_var 0) (sim_var 2) sim_gIx) (sim_c rfl) sim_gIx) (sim_acons (sim_c rfl) sim_anil)) sim_fIsi))) (sim_toT (sim_op (sim_op (sim_var 0) (sim_var 2) sim_gIx) (sim_op (sim_var 1) (sim_var 2) sim_gIx) sim_gNe)))))
  (sim_ret (sim_c rfl))
  sim_nil))
  (sim_ret (sim_c rfl))))
theorem s_f_law_same_moves : SimFn K74.f_law_same_moves f_law_same_moves := sim_fn s_m_law_same_moves
def m_law_words : MS := (sRet (eLst (aCons (eTup (aCons (eC (.str n_begin)) (aCons (eC (.str n_between)) (aCons (eC (.str n_amid)) aNil)))) (aCons (eTup (aCons (eC (.str n_finish)) (aCons (eC (.str n_amid)) (aCons (eC (.str n_between)) aNil)))) (aCons (eTup (aCons (eC (.str n_hit)) (aCons (eC (.str n_amid)) (aCons (eC (.str n_waiting)) aNil)))) (aCons (eTup (aCons (eC (.str n_pass)) (aCons (eC (.str n_waiting)) (aCons (eC (.str n_between)) aNil)))) aNil))))))
abbrev f_law_words : MF := fnOf 0 0 m_law_words
theorem s_m_law_words : SimS (fun _ => K74.m_law_words) m_law_words := (sim_ret (sim_lst (sim_acons (sim_tup (sim_acons (sim_c rfl) (sim_acons (sim_c rfl) (sim_acons (sim_c rfl) sim_anil)))) (sim_acons (sim_tup (sim_acons (sim_c rfl) (sim_acons (sim_c rfl) (sim_acons (sim_c rfl) sim_anil)))) (sim_acons (sim_tup (sim_acons (sim_c rfl) (sim_acons (sim_c rfl) (sim_acons (sim_c rfl) sim_anil)))) (sim_acons (sim_tup (sim_acons (sim_c rfl) (sim_acons (sim_c rfl) (sim_acons (sim_c rfl) sim_anil)))) sim_anil))))))
theorem s_f_law_words : SimFn K74.f_law_words f_law_words := sim_fn s_m_law_words
def m_law_moves : MS := (sSeq (sSet 2 (eLst aNil))
  (sSeq (sFor (iSeq (eCall f_law_words [] aNil)) (gN 3)
  (sFor (iSeq (eLst (aCons (eC (.int 0)) (aCons (eC (.int 1)) aNil)))) (gN 4)
  (sSeq (sSet 5 (eOp gIx (eVar 0) (eOp gSub (eC (.int 1)) (eVar 4))))
  (sSeq (sSet 6 (eOp gEq (eOp gIx (eVar 0) (eVar 4)) (eOp gIx (eVar 3) (eC (.int 1)))))
  (sSeq (sIf (tAndM (toT (eOp gEq (eOp gIx (eVar 3) (eC (.int 0))) (eC (.str n_pass)))) (tAndM (toT (eOp gNe (eVar 5) (eC (.str n_between)))) (tNotM (tAndM (toT (eVar 1)) (toT (eOp gEq (eVar 5) (eC (.str n_waiting))))))))
  (sSet 6 (eC (.bl false)))
  sNil)
  (sIf (toT (eVar 6))
  (sSeq (sSet 7 (eLst (aCons (eOp gIx (eVar 0) (eC (.int 0))) (aCons (eOp gIx (eVar 0) (eC (.int 1))) aNil))))
  (sSeq (sSub (eVar 7) (eVar 4) (eOp gIx (eVar 3) (eC (.int 2))))
  (sExpr (eMt kList mAppend (eVar 2) (aCons (eTup (aCons (eOp gAdd (eOp gAdd (eOp gIx (eVar 3) (eC (.int 0))) (eC (.str n__))) (eB fStr (aCons (eVar 4) aNil))) (aCons (eTup (aCons (eOp gIx (eVar 7) (eC (.int 0))) (aCons (eOp gIx (eVar 7) (eC (.int 1))) aNil))) aNil))) aNil)))))
  sNil))))))
  (sRet (eVar 2))))
abbrev f_law_moves : MF := fnOf 2 8 m_law_moves
theorem ac_law_moves_1 : SimA true (fun _ => GL.aNil) aNil := sim_anil
theorem c_law_moves_1 : SimE true (fun _ => GL.eCall K74.f_law_words [] GL.aNil) (eCall f_law_words [] aNil) := by with_reducible exact sim_call (q := true) (f := K74.f_law_words) (fn := f_law_words) (dws := []) (mr := fun _ => GL.aNil) (pr := aNil) s_f_law_words rfl ac_law_moves_1
theorem s_m_law_moves : SimS (fun _ => K74.m_law_moves) m_law_moves := (sim_seq (sim_set (sim_lst sim_anil))
  (sim_seq (sim_for (sim_iseq c_law_moves_1) (sim_gN (vs := [3]) (by decide))
  (sim_for (sim_iseq (sim_lst (sim_acons (sim_c rfl) (sim_acons (sim_c rfl) sim_anil)))) (sim_gN (vs := [4]) (by decide))
  (sim_seq (sim_set (sim_op (sim_var 0) (sim_op (sim_c rfl) (sim_var 4) sim_gSub) sim_gIx))
  (sim_seq (sim_set (sim_op (sim_op (sim_var 0) (sim_var 4) sim_gIx) (sim_op (sim_var 3) (sim_c rfl) sim_gIx) sim_gEq))
  (sim_seq (sim_sif (sim_tand (sim_toT (sim_op (sim_op (sim_var 3) (sim_c rfl) sim_gIx) (sim_c rfl) sim_gEq)) (sim_tand (sim_toT (sim_op (sim_var 5) (sim_c rfl) sim_gNe)) (sim_tnot (sim_tand (sim_toT (sim_var 1)) (sim_toT (sim_op (sim_var 5) (sim_c rfl) sim_gEq))))))
  (sim_set (sim_c rfl))
  sim_nil)
  (sim_sif (sim_toT (sim_var 6))
  (sim_seq (sim_set (sim_lst (sim_acons (sim_op (sim_var 0) (sim_c rfl) sim_gIx) (sim_acons (sim_op (sim_var 0) (sim_c rfl) sim_gIx) sim_anil))))
  (sim_seq (sim_sub (sim_op (sim_var 3) (sim_c rfl) sim_gIx) (sim_var 7) (sim_var 4))
  (sim_expr (sim_mt sim_kList sim_mAppend (sim_var 2) (sim_acons (sim_tup (sim_acons (sim_op (sim_op (sim_op (sim_var 3) (sim_c rfl) sim_gIx) (sim_c rfl) sim_gAdd) (sim_b (sim_acons (sim_var 4) sim_anil) sim_fStr) sim_gAdd) (sim_acons (sim_tup (sim_acons (sim_op (sim_var 7) (sim_c rfl) sim_gIx) (sim_acons (sim_op (sim_var 7) (sim_c rfl) sim_gIx) sim_anil))) sim_anil))) sim_anil)))))
  sim_nil))))))
  (sim_ret (sim_var 2))))
theorem s_f_law_moves : SimFn K74.f_law_moves f_law_moves := sim_fn s_m_law_moves
def m_Handshake_states : MS := (sSeq (sSet 1 (eLst (aCons (eMeth n_Handshake n_start f_Handshake_start [] (eVar 0) aNil) aNil)))
  (sSeq (sSet 2 (eC (.int 0)))
  (sSeq (whileL (toT (eOp gLt (eVar 2) (eB fLen (aCons (eVar 1) aNil))))
  (sSeq (sFor (iSeq (eMeth n_Handshake n_moves f_Handshake_moves [] (eVar 0) (aCons (eOp gIx (eVar 1) (eVar 2)) aNil))) (gT (gsCons (gN 3) (gsCons (gN 4) gsNil)))
  (sIf (tAndM (toT (eOp gNe (eVar 4) (eC w_BAD))) (toT (eOp (inDp true) (eVar 4) (eVar 1))))
  (sExpr (eMt kList mAppend (eVar 1) (aCons (eVar 4) aNil)))
  sNil))
  (sAug 2 (gInt fun i j => i + j) (eC (.int 1)))) 1000)
  (sRet (eVar 1)))))
abbrev f_Handshake_states : MF := fnOf 1 5 m_Handshake_states
theorem s_m_Handshake_states : SimS (fun _ => K74.m_Handshake_states) m_Handshake_states := (sim_seq (sim_set (sim_lst (sim_acons (sim_meth s_f_Handshake_start rfl (sim_var 0) sim_anil) sim_anil)))
  (sim_seq (sim_set (sim_c rfl))
  (sim_seq (sim_while (sim_toT (sim_op (sim_var 2) (sim_b (sim_acons (sim_var 1) sim_anil) sim_fLen) sim_gLt))
  (sim_seq (sim_for (sim_iseq (sim_meth s_f_Handshake_moves rfl (sim_var 0) (sim_acons (sim_op (sim_var 1) (sim_var 2) sim_gIx) sim_anil))) (sim_gT (sim_gscons (sim_gN (vs := [3, 4]) (by decide)) (sim_gscons (sim_gN (vs := [3, 4]) (by decide)) sim_gsnil)))
  (sim_sif (sim_tand (sim_toT (sim_op (sim_var 4) (sim_c rfl) sim_gNe)) (sim_toT (sim_op (sim_var 4) (sim_var 1) (sim_inDp true))))
  (sim_expr (sim_mt sim_kList sim_mAppend (sim_var 1) (sim_acons (sim_var 4) sim_anil)))
  sim_nil))
  (sim_aug (sim_c rfl) (sim_gInt _))) 1000)
  (sim_ret (sim_var 1)))))
theorem s_f_Handshake_states : SimFn K74.f_Handshake_states f_Handshake_states := sim_fn s_m_Handshake_states
def m_law_states : MS := (sSeq (sSet 1 (eLst (aCons (eTup (aCons (eC (.str n_between)) (aCons (eC (.str n_between)) aNil))) aNil)))
  (sSeq (sFor (iR1 (eC (.int 9))) (gN 2)
  (sIf (toT (eOp gLt (eVar 2) (eB fLen (aCons (eVar 1) aNil))))
  (sFor (iSeq (eCall f_law_moves [] (aCons (eOp gIx (eVar 1) (eVar 2)) (aCons (eVar 0) aNil)))) (gN 3)
  (sIf (toT (eOp (inDp true) (eOp gIx (eVar 3) (eC (.int 1))) (eVar 1)))
  (sExpr (eMt kList mAppend (eVar 1) (aCons (eOp gIx (eVar 3) (eC (.int 1))) aNil)))
  sNil))
  sNil))
  (sRet (eVar 1))))
abbrev f_law_states : MF := fnOf 1 4 m_law_states
theorem s_m_law_states : SimS (fun _ => K74.m_law_states) m_law_states := (sim_seq (sim_set (sim_lst (sim_acons (sim_tup (sim_acons (sim_c rfl) (sim_acons (sim_c rfl) sim_anil))) sim_anil)))
  (sim_seq (sim_for (sim_ir1 (sim_c rfl)) (sim_gN (vs := [2]) (by decide))
  (sim_sif (sim_toT (sim_op (sim_var 2) (sim_b (sim_acons (sim_var 1) sim_anil) sim_fLen) sim_gLt))
  (sim_for (sim_iseq (sim_call s_f_law_moves rfl (sim_acons (sim_op (sim_var 1) (sim_var 2) sim_gIx) (sim_acons (sim_var 0) sim_anil)))) (sim_gN (vs := [3]) (by decide))
  (sim_sif (sim_toT (sim_op (sim_op (sim_var 3) (sim_c rfl) sim_gIx) (sim_var 1) (sim_inDp true)))
  (sim_expr (sim_mt sim_kList sim_mAppend (sim_var 1) (sim_acons (sim_op (sim_var 3) (sim_c rfl) sim_gIx) sim_anil)))
  sim_nil))
  sim_nil))
  (sim_ret (sim_var 1))))
theorem s_f_law_states : SimFn K74.f_law_states f_law_states := sim_fn s_m_law_states
def m_law_digit : MS := (sSeq (sIf (toT (eOp gLt (eVar 1) (eB fLen (aCons (eVar 0) aNil))))
  (sRet (eOp gIx (eVar 0) (eVar 1)))
  sNil)
  (sRet (eC (.int 0))))
abbrev f_law_digit : MF := fnOf 2 2 m_law_digit
theorem s_m_law_digit : SimS (fun _ => K74.m_law_digit) m_law_digit := (sim_seq (sim_sif (sim_toT (sim_op (sim_var 1) (sim_b (sim_acons (sim_var 0) sim_anil) sim_fLen) sim_gLt))
  (sim_ret (sim_op (sim_var 0) (sim_var 1) sim_gIx))
  sim_nil)
  (sim_ret (sim_c rfl)))
theorem s_f_law_digit : SimFn K74.f_law_digit f_law_digit := sim_fn s_m_law_digit
def m_law_walk : MS := (sSeq (sSet 3 (eMeth n_Handshake n_start f_Handshake_start [] (eVar 0) aNil))
  (sSeq (sFor (iR1 (eC (.int 60))) (gN 4)
  (sSeq (sSet 5 (eMeth n_Handshake n_moves f_Handshake_moves [] (eVar 0) (aCons (eVar 3) aNil)))
  (sSeq (sIf (toT (eOp gEq (eB fLen (aCons (eVar 5) aNil)) (eC (.int 0))))
  (sRet (eOp gEq (eVar 3) (eTup (aCons (eC (.str n_waiting)) (aCons (eC (.str n_waiting)) aNil)))))
  sNil)
  (sSeq (sSet 3 (eOp gIx (eOp gIx (eVar 5) (eOp gMod (eB fInt (aCons (eCall f_law_digit [] (aCons (eVar 2) (aCons (eVar 4) aNil))) aNil)) (eB fLen (aCons (eVar 5) aNil)))) (eC (.int 1))))
  (sIf (toT (eOp (inDp true) (eVar 3) (eVar 1)))
  (sRet (eC (.bl false)))
  sNil)))))
  (sRet (eC (.bl true)))))
abbrev f_law_walk : MF := fnOf 3 6 m_law_walk
theorem s_m_law_walk : SimS (fun _ => K74.m_law_walk) m_law_walk := (sim_seq (sim_set (sim_meth s_f_Handshake_start rfl (sim_var 0) sim_anil))
  (sim_seq (sim_for (sim_ir1 (sim_c rfl)) (sim_gN (vs := [4]) (by decide))
  (sim_seq (sim_set (sim_meth s_f_Handshake_moves rfl (sim_var 0) (sim_acons (sim_var 3) sim_anil)))
  (sim_seq (sim_sif (sim_toT (sim_op (sim_b (sim_acons (sim_var 5) sim_anil) sim_fLen) (sim_c rfl) sim_gEq))
  (sim_ret (sim_op (sim_var 3) (sim_tup (sim_acons (sim_c rfl) (sim_acons (sim_c rfl) sim_anil))) sim_gEq))
  sim_nil)
  (sim_seq (sim_set (sim_op (sim_op (sim_var 5) (sim_op (sim_b (sim_acons (sim_call s_f_law_digit rfl (sim_acons (sim_var 2) (sim_acons (sim_var 4) sim_anil))) sim_anil) sim_fInt) (sim_b (sim_acons (sim_var 5) sim_anil) sim_fLen) sim_gMod) sim_gIx) (sim_c rfl) sim_gIx))
  (sim_sif (sim_toT (sim_op (sim_var 3) (sim_var 1) (sim_inDp true)))
  (sim_ret (sim_c rfl))
  sim_nil)))))
  (sim_ret (sim_c rfl))))
theorem s_f_law_walk : SimFn K74.f_law_walk f_law_walk := sim_fn s_m_law_walk
def m_law_goes_on : MS := (sSeq (sSet 3 (eMeth n_Handshake n_moves f_Handshake_moves [] (eVar 0) (aCons (eVar 1) aNil)))
  (sSeq (sFor (iSeq (eVar 3)) (gN 4)
  (sIf (toT (eOp gEq (eOp gIx (eVar 4) (eC (.int 0))) (eOp gAdd (eC (.str n_pass_)) (eB fStr (aCons (eVar 2) aNil)))))
  (sRet (eC (.bl true)))
  sNil))
  (sSeq (sFor (iSeq (eVar 3)) (gN 4)
  (sIf (toT (eOp gEq (eOp gIx (eVar 4) (eC (.int 0))) (eOp gAdd (eC (.str n_finish_)) (eB fStr (aCons (eOp gSub (eC (.int 1)) (eVar 2)) aNil)))))
  (sFor (iSeq (eMeth n_Handshake n_moves f_Handshake_moves [] (eVar 0) (aCons (eOp gIx (eVar 4) (eC (.int 1))) aNil))) (gN 5)
  (sIf (toT (eOp gEq (eOp gIx (eVar 5) (eC (.int 0))) (eOp gAdd (eC (.str n_pass_)) (eB fStr (aCons (eVar 2) aNil)))))
  (sRet (eC (.bl true)))
  sNil))
  sNil))
  (sRet (eC (.bl false))))))
abbrev f_law_goes_on : MF := fnOf 3 6 m_law_goes_on
theorem s_m_law_goes_on : SimS (fun _ => K74.m_law_goes_on) m_law_goes_on := (sim_seq (sim_set (sim_meth s_f_Handshake_moves rfl (sim_var 0) (sim_acons (sim_var 1) sim_anil)))
  (sim_seq (sim_for (sim_iseq (sim_var 3)) (sim_gN (vs := [4]) (by decide))
  (sim_sif (sim_toT (sim_op (sim_op (sim_var 4) (sim_c rfl) sim_gIx) (sim_op (sim_c rfl) (sim_b (sim_acons (sim_var 2) sim_anil) sim_fStr) sim_gAdd) sim_gEq))
  (sim_ret (sim_c rfl))
  sim_nil))
  (sim_seq (sim_for (sim_iseq (sim_var 3)) (sim_gN (vs := [4]) (by decide))
  (sim_sif (sim_toT (sim_op (sim_op (sim_var 4) (sim_c rfl) sim_gIx) (sim_op (sim_c rfl) (sim_b (sim_acons (sim_op (sim_c rfl) (sim_var 2) sim_gSub) sim_anil) sim_fStr) sim_gAdd) sim_gEq))
  (sim_for (sim_iseq (sim_meth s_f_Handshake_moves rfl (sim_var 0) (sim_acons (sim_op (sim_var 4) (sim_c rfl) sim_gIx) sim_anil))) (sim_gN (vs := [5]) (by decide))
  (sim_sif (sim_toT (sim_op (sim_op (sim_var 5) (sim_c rfl) sim_gIx) (sim_op (sim_c rfl) (sim_b (sim_acons (sim_var 2) sim_anil) sim_fStr) sim_gAdd) sim_gEq))
  (sim_ret (sim_c rfl))
  sim_nil))
  sim_nil))
  (sim_ret (sim_c rfl)))))
theorem s_f_law_goes_on : SimFn K74.f_law_goes_on f_law_goes_on := sim_fn s_m_law_goes_on
def m_law_table : MS := (sSeq (sSet 2 (eFz (eMake n_Handshake f_Handshake_init [] (aCons (eVar 0) aNil))))
  (sSeq (sIf (tOrM (tNotM (toT (eB (fIsO tbO_Table n_Table) (aCons (eVar 2) (aCons (eC w_Table) aNil))))) (tOrM (toT (eOp gNe (eMeth n_Handshake n_start f_Handshake_start [] (eVar 2) aNil) (eTup (aCons (eC (.str n_between)) (aCons (eC (.str n_between)) aNil))))) (toT (eOp (isM true) (eMeth n_Handshake n_scenario f_Handshake_scenario [] (eVar 2) aNil) (eC .non)))))
  (sRet (eC (.bl false)))
  sNil)
  (sSeq (sFor (iSeq (eCall f_law_nine [] aNil)) (gN 3)
  (sIf (tNotM (toT (eCall f_law_same_moves [] (aCons (eMeth n_Handshake n_moves f_Handshake_moves [] (eVar 2) (aCons (eVar 3) aNil)) (aCons (eCall f_law_moves [] (aCons (eVar 3) (aCons (eVar 0) aNil))) aNil)))))
  (sRet (eC (.bl false)))
  sNil))
  (sSeq (sSet 4 (eFz (eMeth n_Handshake n_states f_Handshake_states [] (eVar 2) aNil)))
  (sSeq (sIf (tOrM (tNotM (toT (eB fIsi (aCons (eVar 4) (aCons (eC (.ty .list)) aNil))))) (tOrM (toT (eOp gNe (eVar 4) (eCall f_law_states [] (aCons (eVar 0) aNil)))) (tNotM (toT (eCall f_law_walk [] (aCons (eVar 2) (aCons (eVar 4) (aCons (eVar 1) aNil))))))))
  (sRet (eC (.bl false)))
  sNil)
  (sSeq (sFor (iSeq (eVar 4)) (gN 3)
  (sSeq (sSet 5 (eOp gEq (eB fLen (aCons (eMeth n_Handshake n_moves f_Handshake_moves [] (eVar 2) (aCons (eVar 3) aNil)) aNil)) (eC (.int 0))))
  (sSeq (sIf (toT (eOp gNe (eVar 5) (eAndM (eOp gEq (eVar 3) (eTup (aCons (eC (.str n_waiting)) (aCons (eC (.str n_waiting)) aNil)))) (eNotM (eVar 0)))))
  (sRet (eC (.bl false)))
  sNil)
  (sFor (iSeq (eLst (aCons (eC (.int 0)) (aCons (eC (.int 1)) aNil)))) (gN 6)
  (sIf (tAndM (toT (eVar 0)) (tAndM (toT (eOp gEq (eOp gIx (eVar 3) (eVar 6)) (eC (.str n_waiting)))) (tNotM (toT (eCall f_law_goes_on [] (aCons (eVar 2) (aCons (eVar 3) (aCons (eVar 6) aNil))))))))
  (sRet (eC (.bl false)))
  sNil)))))
  (sRet (eC (.bl true)))))))))
abbrev f_law_table : MF := fnOf 2 7 m_law_table
theorem ac_law_table_2 : SimA true (fun _ => GL.aNil) aNil := sim_anil
theorem c_law_table_2 : SimE true (fun _ => GL.eCall K74.f_law_nine [] GL.aNil) (eCall f_law_nine [] aNil) := by with_reducible exact sim_call (q := true) (f := K74.f_law_nine) (fn := f_law_nine) (dws := []) (mr := fun _ => GL.aNil) (pr := aNil) s_f_law_nine rfl ac_law_table_2
theorem s_row_law_table_0 : SimS (fun _ => (GL.sSet 2 (GL.eMake n_Handshake K74.f_Handshake_init [] (GL.aCons (GL.eVar 0) GL.aNil)))) (sSet 2 (eFz (eMake n_Handshake f_Handshake_init [] (aCons (eVar 0) aNil)))) := (sim_set (sim_fz (sim_make s_f_Handshake_init rfl (sim_acons (sim_var 0) sim_anil))))
theorem s_row_law_table_1 : SimS (fun _ => (GL.sIf (GL.tOrM (GL.tNotM (GL.toT (GL.eB (GL.fIsO tbO_Table n_Table) (GL.aCons (GL.eVar 2) (GL.aCons (GL.eC w_Table) GL.aNil))))) (GL.tOrM (GL.toT (GL.eOp GL.gNe (GL.eMeth n_Handshake n_start K74.f_Handshake_start [] (GL.eVar 2) GL.aNil) (GL.eTup (GL.aCons (GL.eC (.str n_between)) (GL.aCons (GL.eC (.str n_between)) GL.aNil))))) (GL.toT (GL.eOp (GL.isM true) (GL.eMeth n_Handshake n_scenario K74.f_Handshake_scenario [] (GL.eVar 2) GL.aNil) (GL.eC .non)))))
  (GL.sRet (GL.eC (.bl false)))
  GL.sNil)) (sIf (tOrM (tNotM (toT (eB (fIsO tbO_Table n_Table) (aCons (eVar 2) (aCons (eC w_Table) aNil))))) (tOrM (toT (eOp gNe (eMeth n_Handshake n_start f_Handshake_start [] (eVar 2) aNil) (eTup (aCons (eC (.str n_between)) (aCons (eC (.str n_between)) aNil))))) (toT (eOp (isM true) (eMeth n_Handshake n_scenario f_Handshake_scenario [] (eVar 2) aNil) (eC .non)))))
  (sRet (eC (.bl false)))
  sNil) := (sim_sif (sim_tor (sim_tnot (sim_toT (sim_b (sim_acons (sim_var 2) (sim_acons (sim_c rfl) sim_anil)) sim_fIsO))) (sim_tor (sim_toT (sim_op (sim_meth s_f_Handshake_start rfl (sim_var 2) sim_anil) (sim_tup (sim_acons (sim_c rfl) (sim_acons (sim_c rfl) sim_anil))) sim_gNe)) (sim_toT (sim_op (sim_meth s_f_Handshake_scenario rfl (sim_var 2) sim_anil) (sim_c rfl) (sim_isM true)))))
  (sim_ret (sim_c rfl))
  sim_nil)
theorem s_rb_law_table : SimS (fun _ => (GL.sIf (GL.tNotM (GL.toT (GL.eCall K74.f_law_same_moves [] (GL.aCons (GL.eMeth n_Handshake n_moves K74.f_Handshake_moves [] (GL.eVar 2) (GL.aCons (GL.eVar 3) GL.aNil)) (GL.aCons (GL.eCall K74.f_law_moves [] (GL.aCons (GL.eVar 3) (GL.aCons (GL.eVar 0) GL.aNil))) GL.aNil)))))
  (GL.sRet (GL.eC (.bl false)))
  GL.sNil)) (sIf (tNotM (toT (eCall f_law_same_moves [] (aCons (eMeth n_Handshake n_moves f_Handshake_moves [] (eVar 2) (aCons (eVar 3) aNil)) (aCons (eCall f_law_moves [] (aCons (eVar 3) (aCons (eVar 0) aNil))) aNil)))))
  (sRet (eC (.bl false)))
  sNil) := (sim_sif (sim_tnot (sim_toT (sim_call s_f_law_same_moves rfl (sim_acons (sim_meth s_f_Handshake_moves rfl (sim_var 2) (sim_acons (sim_var 3) sim_anil)) (sim_acons (sim_call s_f_law_moves rfl (sim_acons (sim_var 3) (sim_acons (sim_var 0) sim_anil))) sim_anil)))))
  (sim_ret (sim_c rfl))
  sim_nil)
theorem s_ri_law_table : SimI true (fun _ => (GL.iSeq (GL.eCall K74.f_law_nine [] GL.aNil))) (iSeq (eCall f_law_nine [] aNil)) := by with_reducible exact sim_iseq (qa := true) (ma := fun _ => (GL.eCall K74.f_law_nine [] GL.aNil)) (pa := (eCall f_law_nine [] aNil)) c_law_table_2
theorem s_rg_law_table : SimGt [3] (GL.gN 3) (gN 3) := sim_gN (by decide)
theorem s_row_law_table_2 {F : GL.MF} {G : MF} (h : SimI true (fun _ => (GL.iSeq (GL.eCall F [] GL.aNil))) (iSeq (eCall G [] aNil))) : SimS (fun _ => (GL.sFor (GL.iSeq (GL.eCall F [] GL.aNil)) (GL.gN 3)
  (GL.sIf (GL.tNotM (GL.toT (GL.eCall K74.f_law_same_moves [] (GL.aCons (GL.eMeth n_Handshake n_moves K74.f_Handshake_moves [] (GL.eVar 2) (GL.aCons (GL.eVar 3) GL.aNil)) (GL.aCons (GL.eCall K74.f_law_moves [] (GL.aCons (GL.eVar 3) (GL.aCons (GL.eVar 0) GL.aNil))) GL.aNil)))))
  (GL.sRet (GL.eC (.bl false)))
  GL.sNil))) (sFor (iSeq (eCall G [] aNil)) (gN 3)
  (sIf (tNotM (toT (eCall f_law_same_moves [] (aCons (eMeth n_Handshake n_moves f_Handshake_moves [] (eVar 2) (aCons (eVar 3) aNil)) (aCons (eCall f_law_moves [] (aCons (eVar 3) (aCons (eVar 0) aNil))) aNil)))))
  (sRet (eC (.bl false)))
  sNil)) := sim_for h s_rg_law_table s_rb_law_table
theorem s_row_law_table_3 : SimS (fun _ => (GL.sSet 4 (GL.eMeth n_Handshake n_states K74.f_Handshake_states [] (GL.eVar 2) GL.aNil))) (sSet 4 (eFz (eMeth n_Handshake n_states f_Handshake_states [] (eVar 2) aNil))) := (sim_set (sim_fz (sim_meth s_f_Handshake_states rfl (sim_var 2) sim_anil)))
theorem s_row_law_table_4 : SimS (fun _ => (GL.sIf (GL.tOrM (GL.tNotM (GL.toT (GL.eB GL.fIsi (GL.aCons (GL.eVar 4) (GL.aCons (GL.eC (.ty .list)) GL.aNil))))) (GL.tOrM (GL.toT (GL.eOp GL.gNe (GL.eVar 4) (GL.eCall K74.f_law_states [] (GL.aCons (GL.eVar 0) GL.aNil)))) (GL.tNotM (GL.toT (GL.eCall K74.f_law_walk [] (GL.aCons (GL.eVar 2) (GL.aCons (GL.eVar 4) (GL.aCons (GL.eVar 1) GL.aNil))))))))
  (GL.sRet (GL.eC (.bl false)))
  GL.sNil)) (sIf (tOrM (tNotM (toT (eB fIsi (aCons (eVar 4) (aCons (eC (.ty .list)) aNil))))) (tOrM (toT (eOp gNe (eVar 4) (eCall f_law_states [] (aCons (eVar 0) aNil)))) (tNotM (toT (eCall f_law_walk [] (aCons (eVar 2) (aCons (eVar 4) (aCons (eVar 1) aNil))))))))
  (sRet (eC (.bl false)))
  sNil) := (sim_sif (sim_tor (sim_tnot (sim_toT (sim_b (sim_acons (sim_var 4) (sim_acons (sim_c rfl) sim_anil)) sim_fIsi))) (sim_tor (sim_toT (sim_op (sim_var 4) (sim_call s_f_law_states rfl (sim_acons (sim_var 0) sim_anil)) sim_gNe)) (sim_tnot (sim_toT (sim_call s_f_law_walk rfl (sim_acons (sim_var 2) (sim_acons (sim_var 4) (sim_acons (sim_var 1) sim_anil))))))))
  (sim_ret (sim_c rfl))
  sim_nil)
theorem s_row_law_table_5 : SimS (fun _ => (GL.sFor (GL.iSeq (GL.eVar 4)) (GL.gN 3)
  (GL.sSeq (GL.sSet 5 (GL.eOp GL.gEq (GL.eB GL.fLen (GL.aCons (GL.eMeth n_Handshake n_moves K74.f_Handshake_moves [] (GL.eVar 2) (GL.aCons (GL.eVar 3) GL.aNil)) GL.aNil)) (GL.eC (.int 0))))
  (GL.sSeq (GL.sIf (GL.toT (GL.eOp GL.gNe (GL.eVar 5) (GL.eAndM (GL.eOp GL.gEq (GL.eVar 3) (GL.eTup (GL.aCons (GL.eC (.str n_waiting)) (GL.aCons (GL.eC (.str n_waiting)) GL.aNil)))) (GL.eNotM (GL.eVar 0)))))
  (GL.sRet (GL.eC (.bl false)))
  GL.sNil)
  (GL.sFor (GL.iSeq (GL.eLst (GL.aCons (GL.eC (.int 0)) (GL.aCons (GL.eC (.int 1)) GL.aNil)))) (GL.gN 6)
  (GL.sIf (GL.tAndM (GL.toT (GL.eVar 0)) (GL.tAndM (GL.toT (GL.eOp GL.gEq (GL.eOp GL.gIx (GL.eVar 3) (GL.eVar 6)) (GL.eC (.str n_waiting)))) (GL.tNotM (GL.toT (GL.eCall K74.f_law_goes_on [] (GL.aCons (GL.eVar 2) (GL.aCons (GL.eVar 3) (GL.aCons (GL.eVar 6) GL.aNil))))))))
  (GL.sRet (GL.eC (.bl false)))
  GL.sNil)))))) (sFor (iSeq (eVar 4)) (gN 3)
  (sSeq (sSet 5 (eOp gEq (eB fLen (aCons (eMeth n_Handshake n_moves f_Handshake_moves [] (eVar 2) (aCons (eVar 3) aNil)) aNil)) (eC (.int 0))))
  (sSeq (sIf (toT (eOp gNe (eVar 5) (eAndM (eOp gEq (eVar 3) (eTup (aCons (eC (.str n_waiting)) (aCons (eC (.str n_waiting)) aNil)))) (eNotM (eVar 0)))))
  (sRet (eC (.bl false)))
  sNil)
  (sFor (iSeq (eLst (aCons (eC (.int 0)) (aCons (eC (.int 1)) aNil)))) (gN 6)
  (sIf (tAndM (toT (eVar 0)) (tAndM (toT (eOp gEq (eOp gIx (eVar 3) (eVar 6)) (eC (.str n_waiting)))) (tNotM (toT (eCall f_law_goes_on [] (aCons (eVar 2) (aCons (eVar 3) (aCons (eVar 6) aNil))))))))
  (sRet (eC (.bl false)))
  sNil))))) := (sim_for (sim_iseq (sim_var 4)) (sim_gN (vs := [3]) (by decide))
  (sim_seq (sim_set (sim_op (sim_b (sim_acons (sim_meth s_f_Handshake_moves rfl (sim_var 2) (sim_acons (sim_var 3) sim_anil)) sim_anil) sim_fLen) (sim_c rfl) sim_gEq))
  (sim_seq (sim_sif (sim_toT (sim_op (sim_var 5) (sim_and (sim_op (sim_var 3) (sim_tup (sim_acons (sim_c rfl) (sim_acons (sim_c rfl) sim_anil))) sim_gEq) (sim_not (sim_var 0))) sim_gNe))
  (sim_ret (sim_c rfl))
  sim_nil)
  (sim_for (sim_iseq (sim_lst (sim_acons (sim_c rfl) (sim_acons (sim_c rfl) sim_anil)))) (sim_gN (vs := [6]) (by decide))
  (sim_sif (sim_tand (sim_toT (sim_var 0)) (sim_tand (sim_toT (sim_op (sim_op (sim_var 3) (sim_var 6) sim_gIx) (sim_c rfl) sim_gEq)) (sim_tnot (sim_toT (sim_call s_f_law_goes_on rfl (sim_acons (sim_var 2) (sim_acons (sim_var 3) (sim_acons (sim_var 6) sim_anil))))))))
  (sim_ret (sim_c rfl))
  sim_nil)))))
theorem s_row_law_table_6 : SimS (fun _ => (GL.sRet (GL.eC (.bl true)))) (sRet (eC (.bl true))) := (sim_ret (sim_c rfl))
theorem s_mx_law_table {F : GL.MF} {G : MF} (h : SimI true (fun _ => (GL.iSeq (GL.eCall F [] GL.aNil))) (iSeq (eCall G [] aNil))) : SimS (fun _ => (GL.sSeq (GL.sSet 2 (GL.eMake n_Handshake K74.f_Handshake_init [] (GL.aCons (GL.eVar 0) GL.aNil))) (GL.sSeq (GL.sIf (GL.tOrM (GL.tNotM (GL.toT (GL.eB (GL.fIsO tbO_Table n_Table) (GL.aCons (GL.eVar 2) (GL.aCons (GL.eC w_Table) GL.aNil))))) (GL.tOrM (GL.toT (GL.eOp GL.gNe (GL.eMeth n_Handshake n_start K74.f_Handshake_start [] (GL.eVar 2) GL.aNil) (GL.eTup (GL.aCons (GL.eC (.str n_between)) (GL.aCons (GL.eC (.str n_between)) GL.aNil))))) (GL.toT (GL.eOp (GL.isM true) (GL.eMeth n_Handshake n_scenario K74.f_Handshake_scenario [] (GL.eVar 2) GL.aNil) (GL.eC .non)))))
  (GL.sRet (GL.eC (.bl false)))
  GL.sNil) (GL.sSeq (GL.sFor (GL.iSeq (GL.eCall F [] GL.aNil)) (GL.gN 3)
  (GL.sIf (GL.tNotM (GL.toT (GL.eCall K74.f_law_same_moves [] (GL.aCons (GL.eMeth n_Handshake n_moves K74.f_Handshake_moves [] (GL.eVar 2) (GL.aCons (GL.eVar 3) GL.aNil)) (GL.aCons (GL.eCall K74.f_law_moves [] (GL.aCons (GL.eVar 3) (GL.aCons (GL.eVar 0) GL.aNil))) GL.aNil)))))
  (GL.sRet (GL.eC (.bl false)))
  GL.sNil)) (GL.sSeq (GL.sSet 4 (GL.eMeth n_Handshake n_states K74.f_Handshake_states [] (GL.eVar 2) GL.aNil)) (GL.sSeq (GL.sIf (GL.tOrM (GL.tNotM (GL.toT (GL.eB GL.fIsi (GL.aCons (GL.eVar 4) (GL.aCons (GL.eC (.ty .list)) GL.aNil))))) (GL.tOrM (GL.toT (GL.eOp GL.gNe (GL.eVar 4) (GL.eCall K74.f_law_states [] (GL.aCons (GL.eVar 0) GL.aNil)))) (GL.tNotM (GL.toT (GL.eCall K74.f_law_walk [] (GL.aCons (GL.eVar 2) (GL.aCons (GL.eVar 4) (GL.aCons (GL.eVar 1) GL.aNil))))))))
  (GL.sRet (GL.eC (.bl false)))
  GL.sNil) (GL.sSeq (GL.sFor (GL.iSeq (GL.eVar 4)) (GL.gN 3)
  (GL.sSeq (GL.sSet 5 (GL.eOp GL.gEq (GL.eB GL.fLen (GL.aCons (GL.eMeth n_Handshake n_moves K74.f_Handshake_moves [] (GL.eVar 2) (GL.aCons (GL.eVar 3) GL.aNil)) GL.aNil)) (GL.eC (.int 0))))
  (GL.sSeq (GL.sIf (GL.toT (GL.eOp GL.gNe (GL.eVar 5) (GL.eAndM (GL.eOp GL.gEq (GL.eVar 3) (GL.eTup (GL.aCons (GL.eC (.str n_waiting)) (GL.aCons (GL.eC (.str n_waiting)) GL.aNil)))) (GL.eNotM (GL.eVar 0)))))
  (GL.sRet (GL.eC (.bl false)))
  GL.sNil)
  (GL.sFor (GL.iSeq (GL.eLst (GL.aCons (GL.eC (.int 0)) (GL.aCons (GL.eC (.int 1)) GL.aNil)))) (GL.gN 6)
  (GL.sIf (GL.tAndM (GL.toT (GL.eVar 0)) (GL.tAndM (GL.toT (GL.eOp GL.gEq (GL.eOp GL.gIx (GL.eVar 3) (GL.eVar 6)) (GL.eC (.str n_waiting)))) (GL.tNotM (GL.toT (GL.eCall K74.f_law_goes_on [] (GL.aCons (GL.eVar 2) (GL.aCons (GL.eVar 3) (GL.aCons (GL.eVar 6) GL.aNil))))))))
  (GL.sRet (GL.eC (.bl false)))
  GL.sNil))))) (GL.sRet (GL.eC (.bl true)))))))))) (sSeq (sSet 2 (eFz (eMake n_Handshake f_Handshake_init [] (aCons (eVar 0) aNil)))) (sSeq (sIf (tOrM (tNotM (toT (eB (fIsO tbO_Table n_Table) (aCons (eVar 2) (aCons (eC w_Table) aNil))))) (tOrM (toT (eOp gNe (eMeth n_Handshake n_start f_Handshake_start [] (eVar 2) aNil) (eTup (aCons (eC (.str n_between)) (aCons (eC (.str n_between)) aNil))))) (toT (eOp (isM true) (eMeth n_Handshake n_scenario f_Handshake_scenario [] (eVar 2) aNil) (eC .non)))))
  (sRet (eC (.bl false)))
  sNil) (sSeq (sFor (iSeq (eCall G [] aNil)) (gN 3)
  (sIf (tNotM (toT (eCall f_law_same_moves [] (aCons (eMeth n_Handshake n_moves f_Handshake_moves [] (eVar 2) (aCons (eVar 3) aNil)) (aCons (eCall f_law_moves [] (aCons (eVar 3) (aCons (eVar 0) aNil))) aNil)))))
  (sRet (eC (.bl false)))
  sNil)) (sSeq (sSet 4 (eFz (eMeth n_Handshake n_states f_Handshake_states [] (eVar 2) aNil))) (sSeq (sIf (tOrM (tNotM (toT (eB fIsi (aCons (eVar 4) (aCons (eC (.ty .list)) aNil))))) (tOrM (toT (eOp gNe (eVar 4) (eCall f_law_states [] (aCons (eVar 0) aNil)))) (tNotM (toT (eCall f_law_walk [] (aCons (eVar 2) (aCons (eVar 4) (aCons (eVar 1) aNil))))))))
  (sRet (eC (.bl false)))
  sNil) (sSeq (sFor (iSeq (eVar 4)) (gN 3)
  (sSeq (sSet 5 (eOp gEq (eB fLen (aCons (eMeth n_Handshake n_moves f_Handshake_moves [] (eVar 2) (aCons (eVar 3) aNil)) aNil)) (eC (.int 0))))
  (sSeq (sIf (toT (eOp gNe (eVar 5) (eAndM (eOp gEq (eVar 3) (eTup (aCons (eC (.str n_waiting)) (aCons (eC (.str n_waiting)) aNil)))) (eNotM (eVar 0)))))
  (sRet (eC (.bl false)))
  sNil)
  (sFor (iSeq (eLst (aCons (eC (.int 0)) (aCons (eC (.int 1)) aNil)))) (gN 6)
  (sIf (tAndM (toT (eVar 0)) (tAndM (toT (eOp gEq (eOp gIx (eVar 3) (eVar 6)) (eC (.str n_waiting)))) (tNotM (toT (eCall f_law_goes_on [] (aCons (eVar 2) (aCons (eVar 3) (aCons (eVar 6) aNil))))))))
  (sRet (eC (.bl false)))
  sNil))))) (sRet (eC (.bl true))))))))) := (sim_seq s_row_law_table_0 (sim_seq s_row_law_table_1 (sim_seq (s_row_law_table_2 h) (sim_seq s_row_law_table_3 (sim_seq s_row_law_table_4 (sim_seq s_row_law_table_5 s_row_law_table_6))))))
theorem s_m_law_table : SimS (fun _ => K74.m_law_table) m_law_table := by
  delta K74.m_law_table m_law_table
  with_reducible exact s_mx_law_table (F := K74.f_law_nine) (G := f_law_nine) s_ri_law_table
theorem s_f_law_table : SimFn K74.f_law_table f_law_table := sim_fn s_m_law_table
def m_StuckSearch_start : MS := (sRet (eFld tab n_first (eVar 0)))
abbrev f_StuckSearch_start : MF := fnOf 1 1 m_StuckSearch_start
theorem s_m_StuckSearch_start : SimS (fun _ => K74.m_StuckSearch_start) m_StuckSearch_start := (sim_ret (sim_fld (sim_var 0)))
theorem s_f_StuckSearch_start : SimFn K74.f_StuckSearch_start f_StuckSearch_start := sim_fn s_m_StuckSearch_start
def m_StuckSearch_may_pass : MS := (sRet (eOrM (eOp gEq (eVar 1) (eC (.str n_between))) (eAndM (eFld tab n_waiting_counts (eVar 0)) (eOp gEq (eVar 1) (eC (.str n_waiting))))))
abbrev f_StuckSearch_may_pass : MF := fnOf 2 2 m_StuckSearch_may_pass
theorem s_m_StuckSearch_may_pass : SimS (fun _ => K74.m_StuckSearch_may_pass) m_StuckSearch_may_pass := (sim_ret (sim_or (sim_op (sim_var 1) (sim_c rfl) sim_gEq) (sim_and (sim_fld (sim_var 0)) (sim_op (sim_var 1) (sim_c rfl) sim_gEq))))
theorem s_f_StuckSearch_may_pass : SimFn K74.f_StuckSearch_may_pass f_StuckSearch_may_pass := sim_fn s_m_StuckSearch_may_pass
def m_StuckSearch_moves_of_Handshake : MS := (sSeq (sSet 2 (eLst aNil))
  (sSeq (sFor (iSeq (eC w_DEEDS)) (gT (gsCons (gN 3) (gsCons (gN 4) (gsCons (gN 5) gsNil))))
  (sFor (iR1 (eC w_PROCESSORS)) (gN 6)
  (sIf (tAndM (toT (eOp gEq (eOp gIx (eVar 1) (eVar 6)) (eVar 4))) (tOrM (toT (eOp gNe (eVar 3) (eC (.str n_pass)))) (toT (eMeth n_StuckSearch n_may_pass f_StuckSearch_may_pass [] (eVar 0) (aCons (eOp gIx (eVar 1) (eOp gSub (eC (.int 1)) (eVar 6))) aNil)))))
  (sSeq (sSet 7 (eB fList (aCons (eVar 1) aNil)))
  (sSeq (sSub (eVar 7) (eVar 6) (eVar 5))
  (sExpr (eMt kList mAppend (eVar 2) (aCons (eTup (aCons (fJs [(eFmt (eVar 3)), (eC (.str n__)), (eFmt (eVar 6))] []) (aCons (eB fTuple (aCons (eVar 7) aNil)) aNil))) aNil)))))
  sNil)))
  (sRet (eVar 2))))
abbrev f_StuckSearch_moves_of_Handshake : MF := fnOf 2 8 m_StuckSearch_moves_of_Handshake
theorem s_m_StuckSearch_moves_of_Handshake : SimS (fun _ => K74.m_StuckSearch_moves_of_Handshake) m_StuckSearch_moves_of_Handshake := (sim_seq (sim_set (sim_lst sim_anil))
  (sim_seq (sim_for (sim_iseq (sim_c rfl)) (sim_gT (sim_gscons (sim_gN (vs := [3, 4, 5]) (by decide)) (sim_gscons (sim_gN (vs := [3, 4, 5]) (by decide)) (sim_gscons (sim_gN (vs := [3, 4, 5]) (by decide)) sim_gsnil))))
  (sim_for (sim_ir1 (sim_c rfl)) (sim_gN (vs := [6]) (by decide))
  (sim_sif (sim_tand (sim_toT (sim_op (sim_op (sim_var 1) (sim_var 6) sim_gIx) (sim_var 4) sim_gEq)) (sim_tor (sim_toT (sim_op (sim_var 3) (sim_c rfl) sim_gNe)) (sim_toT (sim_meth s_f_StuckSearch_may_pass rfl (sim_var 0) (sim_acons (sim_op (sim_var 1) (sim_op (sim_c rfl) (sim_var 6) sim_gSub) sim_gIx) sim_anil)))))
  (sim_seq (sim_set (sim_b (sim_acons (sim_var 1) sim_anil) sim_fList))
  (sim_seq (sim_sub (sim_var 5) (sim_var 7) (sim_var 6))
  (sim_expr (sim_mt sim_kList sim_mAppend (sim_var 2) (sim_acons (sim_tup (sim_acons (sim_js (.cons (sim_fmt (sim_var 3)) (.cons (sim_c rfl) (.cons (sim_fmt (sim_var 6)) .nil))) []) (sim_acons (sim_b (sim_acons (sim_var 7) sim_anil) sim_fTuple) sim_anil))) sim_anil)))))
  sim_nil)))
  (sim_ret (sim_var 2))))
theorem s_f_StuckSearch_moves_of_Handshake : SimFn K74.f_StuckSearch_moves_of_Handshake f_StuckSearch_moves_of_Handshake := sim_fn s_m_StuckSearch_moves_of_Handshake
def m_StuckSearch_moves : MS := (sSeq (sSet 2 (eLst aNil))
  (sSeq (sFor (iSeq (eMeth n_StuckSearch n_moves f_StuckSearch_moves_of_Handshake [] (eVar 0) (aCons (eVar 1) aNil))) (gT (gsCons (gN 3) (gsCons (gN 4) gsNil)))
  (sIf (toT (eOp gEq (eB fLen (aCons (eMeth n_StuckSearch n_moves f_StuckSearch_moves_of_Handshake [] (eVar 0) (aCons (eVar 4) aNil)) aNil)) (eC (.int 0))))
  (sExpr (eMt kList mAppend (eVar 2) (aCons (eTup (aCons (eVar 3) (aCons (eC w_BAD) aNil))) aNil)))
  (sExpr (eMt kList mAppend (eVar 2) (aCons (eTup (aCons (eVar 3) (aCons (eVar 4) aNil))) aNil)))))
  (sRet (eVar 2))))
abbrev f_StuckSearch_moves : MF := fnOf 2 5 m_StuckSearch_moves
theorem s_m_StuckSearch_moves : SimS (fun _ => K74.m_StuckSearch_moves) m_StuckSearch_moves := (sim_seq (sim_set (sim_lst sim_anil))
  (sim_seq (sim_for (sim_iseq (sim_meth s_f_StuckSearch_moves_of_Handshake rfl (sim_var 0) (sim_acons (sim_var 1) sim_anil))) (sim_gT (sim_gscons (sim_gN (vs := [3, 4]) (by decide)) (sim_gscons (sim_gN (vs := [3, 4]) (by decide)) sim_gsnil)))
  (sim_sif (sim_toT (sim_op (sim_b (sim_acons (sim_meth s_f_StuckSearch_moves_of_Handshake rfl (sim_var 0) (sim_acons (sim_var 4) sim_anil)) sim_anil) sim_fLen) (sim_c rfl) sim_gEq))
  (sim_expr (sim_mt sim_kList sim_mAppend (sim_var 2) (sim_acons (sim_tup (sim_acons (sim_var 3) (sim_acons (sim_c rfl) sim_anil))) sim_anil)))
  (sim_expr (sim_mt sim_kList sim_mAppend (sim_var 2) (sim_acons (sim_tup (sim_acons (sim_var 3) (sim_acons (sim_var 4) sim_anil))) sim_anil)))))
  (sim_ret (sim_var 2))))
theorem s_f_StuckSearch_moves : SimFn K74.f_StuckSearch_moves f_StuckSearch_moves := sim_fn s_m_StuckSearch_moves
def m_StuckSearch_scenario : MS := (sSeq (sSet 1 (eNDisp (eMeth n_StuckSearch n_start f_StuckSearch_start [] (eVar 0) aNil) (eTup aNil)))
  (sSeq (sSet 2 (eLst (aCons (eMeth n_StuckSearch n_start f_StuckSearch_start [] (eVar 0) aNil) aNil)))
  (sSeq (sSet 3 (eC (.int 0)))
  (sSeq (whileL (toT (eOp gLt (eVar 3) (eB fLen (aCons (eVar 2) aNil))))
  (sSeq (sSet 4 (eOp gIx (eVar 2) (eVar 3)))
  (sSeq (sFor (iSeq (eMeth n_StuckSearch n_moves f_StuckSearch_moves [] (eVar 0) (aCons (eVar 4) aNil))) (gT (gsCons (gN 5) (gsCons (gN 6) gsNil)))
  (sSeq (sIf (toT (eOp gEq (eVar 6) (eC w_BAD)))
  (sRet (eOp gAdd (eB fList (aCons (eNGet (eVar 1) (eVar 4)) aNil)) (eLst (aCons (eVar 5) aNil))))
  sNil)
  (sIf (toT (eNIn true (eVar 6) (eVar 1)))
  (sSeq (sNPut (eVar 1) (eVar 6) (eOp gAdd (eNGet (eVar 1) (eVar 4)) (eTup (aCons (eVar 5) aNil))))
  (sExpr (eMt kList mAppend (eVar 2) (aCons (eVar 6) aNil))))
  sNil)))
  (sAug 3 (gInt fun i j => i + j) (eC (.int 1))))) 1000)
  (sRet (eC .non))))))
abbrev f_StuckSearch_scenario : MF := fnOf 1 7 m_StuckSearch_scenario
theorem s_m_StuckSearch_scenario : SimS (fun _ => K74.m_StuckSearch_scenario) m_StuckSearch_scenario := (sim_seq (sim_set (sim_ndisp (sim_meth s_f_StuckSearch_start rfl (sim_var 0) sim_anil) (sim_tup sim_anil)))
  (sim_seq (sim_set (sim_lst (sim_acons (sim_meth s_f_StuckSearch_start rfl (sim_var 0) sim_anil) sim_anil)))
  (sim_seq (sim_set (sim_c rfl))
  (sim_seq (sim_while (sim_toT (sim_op (sim_var 3) (sim_b (sim_acons (sim_var 2) sim_anil) sim_fLen) sim_gLt))
  (sim_seq (sim_set (sim_op (sim_var 2) (sim_var 3) sim_gIx))
  (sim_seq (sim_for (sim_iseq (sim_meth s_f_StuckSearch_moves rfl (sim_var 0) (sim_acons (sim_var 4) sim_anil))) (sim_gT (sim_gscons (sim_gN (vs := [5, 6]) (by decide)) (sim_gscons (sim_gN (vs := [5, 6]) (by decide)) sim_gsnil)))
  (sim_seq (sim_sif (sim_toT (sim_op (sim_var 6) (sim_c rfl) sim_gEq))
  (sim_ret (sim_op (sim_b (sim_acons (sim_nget (sim_var 1) (sim_var 4)) sim_anil) sim_fList) (sim_lst (sim_acons (sim_var 5) sim_anil)) sim_gAdd))
  sim_nil)
  (sim_sif (sim_toT (sim_nin (sim_var 6) (sim_var 1)))
  (sim_seq (sim_nput (sim_var 1) (sim_var 6) (sim_op (sim_nget (sim_var 1) (sim_var 4)) (sim_tup (sim_acons (sim_var 5) sim_anil)) sim_gAdd))
  (sim_expr (sim_mt sim_kList sim_mAppend (sim_var 2) (sim_acons (sim_var 6) sim_anil))))
  sim_nil)))
  (sim_aug (sim_c rfl) (sim_gInt _)))) 1000)
  (sim_ret (sim_c rfl))))))
theorem s_f_StuckSearch_scenario : SimFn K74.f_StuckSearch_scenario f_StuckSearch_scenario := sim_fn s_m_StuckSearch_scenario
def m_StuckSearch_init_of_Table : MS := (sSeq (sFldM tab n_first (eVar 0) (eVar 1))
  (sFldM tab n_rows (eVar 0) (eLc (iSeq (eVar 2)) (gN 3) tYesM (eB fTuple (aCons (eVar 3) aNil)) [3])))
abbrev f_StuckSearch_init_of_Table : MF := fnOf 3 4 m_StuckSearch_init_of_Table
theorem s_m_StuckSearch_init_of_Table : SimS (fun _ => K74.m_StuckSearch_init_of_Table) m_StuckSearch_init_of_Table := (sim_seq (sim_sfld (sim_var 0) (sim_var 1))
  (sim_sfld (sim_var 0) (sim_lc (sim_iseq (sim_var 2)) (sim_gN (vs := [3]) (by decide)) sim_tyes (sim_b (sim_acons (sim_var 3) sim_anil) sim_fTuple))))
theorem s_f_StuckSearch_init_of_Table : SimFn K74.f_StuckSearch_init_of_Table f_StuckSearch_init_of_Table := sim_fn s_m_StuckSearch_init_of_Table
def m_StuckSearch_init : MS := (sSeq (sExpr (eMethM n_StuckSearch n___init__ f_StuckSearch_init_of_Table [1, 0] [(.tup [])] (eVar 0) (aCons (eTup (aCons (eC (.str n_between)) (aCons (eC (.str n_between)) aNil))) aNil)))
  (sFldM tab n_waiting_counts (eVar 0) (eVar 1)))
abbrev f_StuckSearch_init : MF := fnOf 2 2 m_StuckSearch_init
theorem s_m_StuckSearch_init : SimS (fun _ => K74.m_StuckSearch_init) m_StuckSearch_init := (sim_seq (sim_expr (sim_methM s_f_StuckSearch_init_of_Table rfl (sim_var 0) (sim_acons (sim_tup (sim_acons (sim_c rfl) (sim_acons (sim_c rfl) sim_anil))) sim_anil)))
  (sim_sfld (sim_var 0) (sim_var 1)))
theorem s_f_StuckSearch_init : SimFn K74.f_StuckSearch_init f_StuckSearch_init := sim_fn s_m_StuckSearch_init
def m_stuck_scenario : MS := (sRet (eMeth n_StuckSearch n_scenario f_StuckSearch_scenario [] (eMake n_StuckSearch f_StuckSearch_init [] (aCons (eVar 0) aNil)) aNil))
abbrev f_stuck_scenario : MF := fnOf 1 1 m_stuck_scenario
theorem s_m_stuck_scenario : SimS (fun _ => K74.m_stuck_scenario) m_stuck_scenario := (sim_ret (sim_meth s_f_StuckSearch_scenario rfl (sim_make s_f_StuckSearch_init rfl (sim_acons (sim_var 0) sim_anil)) sim_anil))
theorem s_f_stuck_scenario : SimFn K74.f_stuck_scenario f_stuck_scenario := sim_fn s_m_stuck_scenario
def m_law : MS := (sSeq (sSet 1 (eFz (eCall f_law_row [] (aCons (eVar 0) (aCons (eC (.int 60)) aNil)))))
  (sSeq (sIf (tOrM (tNotM (toT (eCall f_law_table [] (aCons (eC (.bl true)) (aCons (eVar 1) aNil))))) (tOrM (tNotM (toT (eCall f_law_table [] (aCons (eC (.bl false)) (aCons (eVar 1) aNil))))) (tNotM (toT (eCall f_law_table [] (aCons (eC (.bl true)) (aCons (eFz (eSl (eVar 1) (oYes (eC (.int 1))) oNo)) aNil)))))))
  (sRet (eC (.bl false)))
  sNil)
  (sSeq (sIf (toT (eOp (isM true) (eCall f_stuck_scenario [] (aCons (eC (.bl true)) aNil)) (eC .non)))
  (sRet (eC (.bl false)))
  sNil)
  (sSeq (sSet 2 (eCall f_stuck_scenario [] (aCons (eC (.bl false)) aNil)))
  (sSeq (sIf (tOrM (tNotM (toT (eB fIsi (aCons (eVar 2) (aCons (eC (.ty .list)) aNil))))) (toT (eOp gNe (eVar 2) (eLst (aCons (eC (.str n_begin_0)) (aCons (eC (.str n_begin_1)) (aCons (eC (.str n_hit_0)) (aCons (eC (.str n_hit_1)) aNil))))))))
  (sRet (eC (.bl false)))
  sNil)
  (sSeq (sExpr (eMt kList mAppend (eVar 2) (aCons (eC (.str n_again)) aNil)))
  (sRet (eOp gEq (eCall f_stuck_scenario [] (aCons (eC (.bl false)) aNil)) (eLst (aCons (eC (.str n_begin_0)) (aCons (eC (.str n_begin_1)) (aCons (eC (.str n_hit_0)) (aCons (eC (.str n_hit_1)) aNil)))))))))))))
abbrev f_law : MF := fnOf 1 3 m_law
theorem ac_law_3 : SimA true (fun _ => (GL.aCons (GL.eC (.bl true)) GL.aNil)) (aCons (eC (.bl true)) aNil) := (sim_acons (sim_c rfl) sim_anil)
theorem c_law_3 : SimE true (fun _ => GL.eCall K74.f_stuck_scenario [] (GL.aCons (GL.eC (.bl true)) GL.aNil)) (eCall f_stuck_scenario [] (aCons (eC (.bl true)) aNil)) := by with_reducible exact sim_call (q := true) (f := K74.f_stuck_scenario) (fn := f_stuck_scenario) (dws := []) (mr := fun _ => (GL.aCons (GL.eC (.bl true)) GL.aNil)) (pr := (aCons (eC (.bl true)) aNil)) s_f_stuck_scenario rfl ac_law_3
theorem ac_law_5 : SimA true (fun _ => (GL.aCons (GL.eC (.bl false)) GL.aNil)) (aCons (eC (.bl false)) aNil) := (sim_acons (sim_c rfl) sim_anil)
theorem c_law_5 : SimE true (fun _ => GL.eCall K74.f_stuck_scenario [] (GL.aCons (GL.eC (.bl false)) GL.aNil)) (eCall f_stuck_scenario [] (aCons (eC (.bl false)) aNil)) := by with_reducible exact sim_call (q := true) (f := K74.f_stuck_scenario) (fn := f_stuck_scenario) (dws := []) (mr := fun _ => (GL.aCons (GL.eC (.bl false)) GL.aNil)) (pr := (aCons (eC (.bl false)) aNil)) s_f_stuck_scenario rfl ac_law_5
theorem s_mx_law {F : GL.MF} {G : MF} (h_true : SimE true (fun _ => GL.eCall F [] (GL.aCons (GL.eC (.bl true)) GL.aNil)) (eCall G [] (aCons (eC (.bl true)) aNil))) (h_false : SimE true (fun _ => GL.eCall F [] (GL.aCons (GL.eC (.bl false)) GL.aNil)) (eCall G [] (aCons (eC (.bl false)) aNil))) : SimS (fun _ => (GL.sSeq (GL.sSet 1 (GL.eCall K74.f_law_row [] (GL.aCons (GL.eVar 0) (GL.aCons (GL.eC (.int 60)) GL.aNil))))
  (GL.sSeq (GL.sIf (GL.tOrM (GL.tNotM (GL.toT (GL.eCall K74.f_law_table [] (GL.aCons (GL.eC (.bl true)) (GL.aCons (GL.eVar 1) GL.aNil))))) (GL.tOrM (GL.tNotM (GL.toT (GL.eCall K74.f_law_table [] (GL.aCons (GL.eC (.bl false)) (GL.aCons (GL.eVar 1) GL.aNil))))) (GL.tNotM (GL.toT (GL.eCall K74.f_law_table [] (GL.aCons (GL.eC (.bl true)) (GL.aCons (GL.eSl (GL.eVar 1) (GL.oYes (GL.eC (.int 1))) GL.oNo) GL.aNil)))))))
  (GL.sRet (GL.eC (.bl false)))
  GL.sNil)
  (GL.sSeq (GL.sIf (GL.toT (GL.eOp (GL.isM true) (GL.eCall F [] (GL.aCons (GL.eC (.bl true)) GL.aNil)) (GL.eC .non)))
  (GL.sRet (GL.eC (.bl false)))
  GL.sNil)
  (GL.sSeq (GL.sSet 2 (GL.eCall F [] (GL.aCons (GL.eC (.bl false)) GL.aNil)))
  (GL.sSeq (GL.sIf (GL.tOrM (GL.tNotM (GL.toT (GL.eB GL.fIsi (GL.aCons (GL.eVar 2) (GL.aCons (GL.eC (.ty .list)) GL.aNil))))) (GL.toT (GL.eOp GL.gNe (GL.eVar 2) (GL.eLst (GL.aCons (GL.eC (.str n_begin_0)) (GL.aCons (GL.eC (.str n_begin_1)) (GL.aCons (GL.eC (.str n_hit_0)) (GL.aCons (GL.eC (.str n_hit_1)) GL.aNil))))))))
  (GL.sRet (GL.eC (.bl false)))
  GL.sNil)
  (GL.sSeq (GL.sExpr (GL.eMt GL.kList GL.mAppend (GL.eVar 2) (GL.aCons (GL.eC (.str n_again)) GL.aNil)))
  (GL.sRet (GL.eOp GL.gEq (GL.eCall F [] (GL.aCons (GL.eC (.bl false)) GL.aNil)) (GL.eLst (GL.aCons (GL.eC (.str n_begin_0)) (GL.aCons (GL.eC (.str n_begin_1)) (GL.aCons (GL.eC (.str n_hit_0)) (GL.aCons (GL.eC (.str n_hit_1)) GL.aNil)))))))))))))) (sSeq (sSet 1 (eFz (eCall f_law_row [] (aCons (eVar 0) (aCons (eC (.int 60)) aNil)))))
  (sSeq (sIf (tOrM (tNotM (toT (eCall f_law_table [] (aCons (eC (.bl true)) (aCons (eVar 1) aNil))))) (tOrM (tNotM (toT (eCall f_law_table [] (aCons (eC (.bl false)) (aCons (eVar 1) aNil))))) (tNotM (toT (eCall f_law_table [] (aCons (eC (.bl true)) (aCons (eFz (eSl (eVar 1) (oYes (eC (.int 1))) oNo)) aNil)))))))
  (sRet (eC (.bl false)))
  sNil)
  (sSeq (sIf (toT (eOp (isM true) (eCall G [] (aCons (eC (.bl true)) aNil)) (eC .non)))
  (sRet (eC (.bl false)))
  sNil)
  (sSeq (sSet 2 (eCall G [] (aCons (eC (.bl false)) aNil)))
  (sSeq (sIf (tOrM (tNotM (toT (eB fIsi (aCons (eVar 2) (aCons (eC (.ty .list)) aNil))))) (toT (eOp gNe (eVar 2) (eLst (aCons (eC (.str n_begin_0)) (aCons (eC (.str n_begin_1)) (aCons (eC (.str n_hit_0)) (aCons (eC (.str n_hit_1)) aNil))))))))
  (sRet (eC (.bl false)))
  sNil)
  (sSeq (sExpr (eMt kList mAppend (eVar 2) (aCons (eC (.str n_again)) aNil)))
  (sRet (eOp gEq (eCall G [] (aCons (eC (.bl false)) aNil)) (eLst (aCons (eC (.str n_begin_0)) (aCons (eC (.str n_begin_1)) (aCons (eC (.str n_hit_0)) (aCons (eC (.str n_hit_1)) aNil))))))))))))) := (sim_seq (sim_set (sim_fz (sim_call s_f_law_row rfl (sim_acons (sim_var 0) (sim_acons (sim_c rfl) sim_anil)))))
  (sim_seq (sim_sif (sim_tor (sim_tnot (sim_toT (sim_call s_f_law_table rfl (sim_acons (sim_c rfl) (sim_acons (sim_var 1) sim_anil))))) (sim_tor (sim_tnot (sim_toT (sim_call s_f_law_table rfl (sim_acons (sim_c rfl) (sim_acons (sim_var 1) sim_anil))))) (sim_tnot (sim_toT (sim_call s_f_law_table rfl (sim_acons (sim_c rfl) (sim_acons (sim_fz (sim_sl (sim_var 1) (sim_oyes (sim_c rfl)) sim_ono)) sim_anil)))))))
  (sim_ret (sim_c rfl))
  sim_nil)
  (sim_seq (sim_sif (sim_toT (sim_op h_true (sim_c rfl) (sim_isM true)))
  (sim_ret (sim_c rfl))
  sim_nil)
  (sim_seq (sim_set h_false)
  (sim_seq (sim_sif (sim_tor (sim_tnot (sim_toT (sim_b (sim_acons (sim_var 2) (sim_acons (sim_c rfl) sim_anil)) sim_fIsi))) (sim_toT (sim_op (sim_var 2) (sim_lst (sim_acons (sim_c rfl) (sim_acons (sim_c rfl) (sim_acons (sim_c rfl) (sim_acons (sim_c rfl) sim_anil))))) sim_gNe)))
  (sim_ret (sim_c rfl))
  sim_nil)
  (sim_seq (sim_expr (sim_mt sim_kList sim_mAppend (sim_var 2) (sim_acons (sim_c rfl) sim_anil)))
  (sim_ret (sim_op h_false (sim_lst (sim_acons (sim_c rfl) (sim_acons (sim_c rfl) (sim_acons (sim_c rfl) (sim_acons (sim_c rfl) sim_anil))))) sim_gEq))))))))
theorem s_m_law : SimS (fun _ => K74.m_law) m_law := by
  delta K74.m_law m_law
  with_reducible exact s_mx_law (F := K74.f_stuck_scenario) (G := f_stuck_scenario) c_law_3 c_law_5
theorem s_f_law : SimFn K74.f_law f_law := sim_fn s_m_law
end K74.V
set_option Elab.async false
set_option linter.all false
set_option maxRecDepth 100000
set_option maxHeartbeats 1000000
namespace VL
open GL (PV OB Sto Nm BT lim)
section
variable {α β : Type} {ls gh ls' gh' : Ls} {a b c : PE} {t u : PT} {m m1 m2 : MS} {d e : D} {x y : RV} {i : Nat}
@[simp] theorem bind_ok {x : α} {f : α → Ls → Ls → Out β} : (Out.ok x ls gh).bind f = f x ls gh := rfl
@[simp] theorem bind_exc {e : Exn} {f : α → Ls → Ls → Out β} : (Out.exc e ls gh).bind f = .exc e ls gh := rfl
@[simp] theorem bind_bad {f : α → Ls → Ls → Out β} : (Out.bad : Out α).bind f = .bad := rfl
@[simp] theorem then_ok {x : α} {f : α → Ls → Ls → SOut} : (Out.ok x ls gh).then f = f x ls gh := rfl
@[simp] theorem then_exc {e : Exn} {f : α → Ls → Ls → SOut} : (Out.exc e ls gh).then f = .exc e ls gh := rfl
@[simp] theorem seq_nx {f : MS} : (SOut.nx ls gh).seq f = f ls gh := rfl
@[simp] theorem seq_rt {f : MS} : (SOut.rt d gh).seq f = .rt d gh := rfl
@[simp] theorem seq_bk {f : MS} : (SOut.bk ls gh).seq f = .bk ls gh := rfl
@[simp] theorem seq_ct {f : MS} : (SOut.ct ls gh).seq f = .ct ls gh := rfl
@[simp] theorem seq_exc {e : Exn} {f : MS} : (SOut.exc e ls gh).seq f = .exc e ls gh := rfl
@[simp] theorem eC_ap {w : PV} : eC w ls gh = .ok (.v (dOf w)) ls gh := rfl
@[simp] theorem dOf_int {i : Int} : dOf (.int i) = .int i := rfl
@[simp] theorem dOf_str {i : List Nat} : dOf (.str i) = .str i := rfl
@[simp] theorem dOf_bl {i : Bool} : dOf (.bl i) = .bl i := rfl
@[simp] theorem dOf_non : dOf .non = .non := rfl
@[simp] theorem dOf_ty {b : BT} : dOf (.ty b) = .ty b := rfl
@[simp] theorem dOf_tup {xs : List PV} : dOf (.tup xs) = .tup (dOfs xs) := rfl
@[simp] theorem dOfs_nil : dOfs [] = [] := rfl
@[simp] theorem dOfs_cons {x : PV} {r : List PV} : dOfs (x :: r) = dOf x :: dOfs r := rfl
@[simp] theorem sSeq_ap : sSeq m1 m2 ls gh = (m1 ls gh).seq m2 := rfl
@[simp] theorem sNil_ap : sNil ls gh = .nx ls gh := rfl
@[simp] theorem sBk_ap : sBk ls gh = .bk ls gh := rfl
theorem sSet_ap : sSet i a ls gh = (a ls gh).then fun x ls gh => match setL i x ls gh with
  | some z => .nx z.1 z.2
  | none => .bad := rfl
theorem sRet_ap : sRet a ls gh = (a ls gh).then fun x ls gh => match retV x ls gh with
  | some z => .rt z.1 z.2
  | none => .bad := rfl
theorem sExpr_ap : sExpr a ls gh = (a ls gh).then fun _ ls gh => .nx ls gh := rfl
theorem sIf_ap : sIf t m1 m2 ls gh = (t ls gh).then fun k ls gh => if k = true then m1 ls gh else m2 ls gh := rfl
@[simp] theorem aNil_ap : aNil ls gh = .ok [] ls gh := rfl
@[simp] theorem aCons_ap {r : PA} : aCons a r ls gh = (a ls gh).bind fun x ls gh => (r ls gh).bind fun xs ls gh => .ok (x :: xs) ls gh := rfl
@[simp] theorem eOp_ap {g : G2} : eOp g a b ls gh = (a ls gh).bind fun x ls gh => (b ls gh).bind fun y ls gh => g x y ls gh := rfl
@[simp] theorem e1_ap {f : RV → PE} : e1 f a ls gh = (a ls gh).bind fun x ls gh => f x ls gh := rfl
@[simp] theorem eB_ap {g : List RV → PE} {r : PA} : eB g r ls gh = (r ls gh).bind fun xs ls gh => g xs ls gh := rfl
@[simp] theorem un_ap {f : RV → PE} : un f [x] ls gh = f x ls gh := rfl
@[simp] theorem bi_ap {f : RV → RV → PE} : bi f [x, y] ls gh = f x y ls gh := rfl
@[simp] theorem toT_ap : toT a ls gh = (a ls gh).bind fun x ls gh => asB x ls gh := rfl
@[simp] theorem asB_bl {k : Bool} : asB (.v (.sc (.bl k))) ls gh = .ok k ls gh := rfl
@[simp] theorem tAndM_ap : tAndM t u ls gh = (t ls gh).bind fun k ls gh => if k = true then u ls gh else .ok false ls gh := rfl
@[simp] theorem tOrM_ap : tOrM t u ls gh = (t ls gh).bind fun k ls gh => if k = true then .ok true ls gh else u ls gh := rfl
@[simp] theorem tNotM_ap : tNotM t ls gh = (t ls gh).bind fun k ls gh => .ok (!k) ls gh := rfl
@[simp] theorem tYesM_ap : tYesM ls gh = .ok true ls gh := rfl
@[simp] theorem gSub_int {i j : Int} : gInt (fun i j => i - j) (.v (.sc (.int i))) (.v (.sc (.int j))) ls gh = .ok (.v (.int (i - j))) ls gh := rfl
@[simp] theorem gInt_int {f : Int → Int → Int} {i j : Int} : gInt f (.v (.sc (.int i))) (.v (.sc (.int j))) ls gh = .ok (.v (.int (f i j))) ls gh := rfl
@[simp] theorem gCmp_int {f : Int → Int → Bool} {i j : Int} : gCmpI f (.v (.sc (.int i))) (.v (.sc (.int j))) ls gh = .ok (.v (.bl (f i j))) ls gh := rfl
@[simp] theorem gAdd_int {i j : Int} : gAdd (.v (.sc (.int i))) (.v (.sc (.int j))) ls gh = .ok (.v (.int (i + j))) ls gh := rfl
theorem gMod_int {i j : Int} (h : 0 < j) : gMod (.v (.sc (.int i))) (.v (.sc (.int j))) ls gh = .ok (.v (.int (i % j))) ls gh := by
  simp [gIntC, GL.cMod, h]
theorem gDiv_int {i j : Int} (h : 0 < j) (h2 : j < 1073741824) : gDiv (.v (.sc (.int i))) (.v (.sc (.int j))) ls gh = .ok (.v (.int (i / j))) ls gh := by
  simp [gIntC, GL.cDiv, h, h2]
@[simp] theorem gEq_int {neg : Bool} {i j : Int} : eqM neg (.v (.sc (.int i))) (.v (.sc (.int j))) ls gh = .ok (.v (.bl (if neg = true then !decide (i = j) else decide (i = j)))) ls gh := rfl
@[simp] theorem gEq_str {neg : Bool} {i j : List Nat} : eqM neg (.v (.sc (.str i))) (.v (.sc (.str j))) ls gh = .ok (.v (.bl (if neg = true then !decide (i = j) else decide (i = j)))) ls gh := rfl
@[simp] theorem f1Int_int {i : Int} : f1Int (.v (.sc (.int i))) ls gh = .ok (.v (.int i)) ls gh := rfl
@[simp] theorem f1Int_bl {k : Bool} : f1Int (.v (.sc (.bl k))) ls gh = .ok (.v (.int (if k then 1 else 0))) ls gh := rfl
@[simp] theorem f1Abs_int {i : Int} : f1Abs (.v (.sc (.int i))) ls gh = .ok (.v (.int (if i < 0 then -i else i))) ls gh := rfl
end
@[simp] theorem shr_sc {s : Sc} : (D.sc s).shr = true := rfl
@[simp] theorem shr_tup {xs : List D} : (D.tup xs).shr = true := rfl
@[simp] theorem shr_fz {h : Hd} {xs : List D} : (D.nd .fz h xs).shr = true := rfl
@[simp] theorem shr_ow {h : Hd} {xs : List D} : (D.nd .ow h xs).shr = false := rfl
theorem eVar_o {i : Nat} {ls gh : Ls} {d : D} (h : ls[i]? = some (some (.v d))) (hs : d.shr = false) : eVar i ls gh = .ok (.pth (.l i) []) ls gh := by
  unfold eVar; rw [h]; simp [mkR, hs]
@[simp] theorem killR_v {i : Nat} {d : D} : killR i (some (.v d)) = some (.v d) := rfl
@[simp] theorem killR_io {i : Nat} {d : D} : killR i (some (.io d)) = some (.io d) := rfl
@[simp] theorem killR_none {i : Nat} : killR i none = none := rfl
@[simp] theorem killD_v {t : List Nat → Bool} {r : Rt} {p : List Nat} {d : D} : killD t r p (some (.v d)) = some (.v d) := rfl
@[simp] theorem killD_io {t : List Nat → Bool} {r : Rt} {p : List Nat} {d : D} : killD t r p (some (.io d)) = some (.io d) := rfl
@[simp] theorem killD_none {t : List Nat → Bool} {r : Rt} {p : List Nat} : killD t r p none = none := rfl
theorem fnOf_rt {np n : Nat} {m : MS} {vs : List V} {hs : List D} {d : D} {gh : Ls} {ios : List D} (hl : vs.length = np) (h : m (vs.map some ++ List.replicate (n - np) none) (hs.map fun d => some (.io d)) = .rt d gh) (hg : ioD gh = some ios) : fnOf np n m vs hs = .ok d ios := by
  unfold fnOf; rw [if_pos hl, h]; simp [endF, hg]
def intL (ns : List Int) : List D := ns.map D.int
def strL (ns : List (List Nat)) : List D := ns.map D.str
@[simp] theorem intL_len {ns : List Int} : (intL ns).length = ns.length := by simp [intL]
@[simp] theorem strL_len {ns : List (List Nat)} : (strL ns).length = ns.length := by simp [strL]
@[simp] theorem intL_shr {ns : List Int} : (intL ns).all D.shr = true := by simp [intL]
@[simp] theorem strL_shr {ns : List (List Nat)} : (strL ns).all D.shr = true := by simp [strL]
theorem frzs_shr : ∀ {xs : List D}, xs.all D.shr = true → D.frzs xs = some xs
  | [], _ => by simp [D.frzs]
  | x :: r, h => by
    rw [List.all_cons, Bool.and_eq_true] at h
    have h1 : D.frz x = some x := by
      cases x with
      | sc s => simp [D.frz]
      | tup xs => simp [D.frz]
      | nd k hd xs =>
        cases k with
        | fz => simp [D.frz]
        | ow => cases h.1
        | lk => cases h.1
    rw [D.frzs, h1, frzs_shr h.2]
@[simp] theorem frzs_int {ns : List Int} : D.frzs (intL ns) = some (intL ns) := frzs_shr intL_shr
@[simp] theorem frzs_str {ns : List (List Nat)} : D.frzs (strL ns) = some (strL ns) := frzs_shr strL_shr
def Digs (most : Nat) (ds : List Int) : Prop := ds.length ≤ most ∧ ∀ d ∈ ds, 0 ≤ d ∧ d < 16
def m_row : MS := (sSeq (sSet 2 (eLst aNil))
  (sSeq (sFor (iSeq (eVar 0)) (gN 3)
  (sSeq (sSet 4 (eB fAbs (aCons (eB fInt (aCons (eVar 3) aNil)) aNil)))
  (sFor (iR1 (eC (.int 60))) (gN 5)
  (sSeq (sIf (toT (eOp gLt (eB fLen (aCons (eVar 2) aNil)) (eVar 1)))
  (sExpr (eMt kList mAppend (eVar 2) (aCons (eOp gMod (eVar 4) (eC (.int 16))) aNil)))
  sNil)
  (sSeq (sSet 4 (eOp gDiv (eVar 4) (eC (.int 16))))
  (sIf (toT (eOp gEq (eVar 4) (eC (.int 0))))
  sBk
  sNil))))))
  (sRet (eVar 2))))
section
variable {ls gh : Ls} {k : Fl} {xs : List D} {d : D} {r : Rt} {p : List Nat}
theorem ixN_nat {n i : Nat} (h : i < n) : L2.ixN n (i : Int) = some i := by unfold L2.ixN; simp [h]
@[simp] theorem seqV_lst : seqV (.v (.nd k .lst xs)) ls gh = some (.lst, xs) := rfl
@[simp] theorem seqV_rol : seqV (.v (.nd k .rol xs)) ls gh = some (.rol, xs) := rfl
@[simp] theorem seqV_tup : seqV (.v (.tup xs)) ls gh = some (.tup, xs) := rfl
theorem seqV_p (h : atD ls gh r p = some (.nd k .lst xs)) : seqV (.pth r p) ls gh = some (.lst, xs) := by
  show (atD ls gh r p).bind seqD = _
  rw [h]; rfl
theorem gIx_of {x : RV} {kd : Kd} {i : Nat} (hx : ∀ s, x ≠ .v (.sc (.str s))) (h : seqV x ls gh = some (kd, xs)) (hi : xs[i]? = some d) : gIx x (.v (.sc (.int (i : Int)))) ls gh = .ok (childR x i d) ls gh := by
  have hl := (List.getElem?_eq_some_iff.mp hi).1
  unfold gIx
  split
  · rename_i i' e
    cases e
    split
    · rename_i s; exact absurd rfl (hx s)
    · simp only [h, ixN_nat hl, hi]
  · rename_i h0; exact absurd rfl (h0 _)
theorem gIx_lst {i : Nat} (hi : xs[i]? = some d) (hs : d.shr = true) : gIx (.v (.nd k .lst xs)) (.v (.sc (.int (i : Int)))) ls gh = .ok (.v d) ls gh := by
  rw [gIx_of (by simp) seqV_lst hi]; simp [childR, hs]
@[simp] theorem f1Len_lst : f1Len (.v (.nd k .lst xs)) ls gh = .ok (.v (.int xs.length)) ls gh := rfl
@[simp] theorem f1Len_tup : f1Len (.v (.tup xs)) ls gh = .ok (.v (.int xs.length)) ls gh := rfl
theorem f1Len_p (h : atD ls gh r p = some (.nd k .lst xs)) : f1Len (.pth r p) ls gh = .ok (.v (.int xs.length)) ls gh := by
  unfold f1Len; simp only [seqV_p h]
end
def dg (ds : List Int) (i : Nat) : Int := ds.getD i 0
theorem intL_get {ds : List Int} {i : Nat} (h : i < ds.length) : (intL ds)[i]? = some (.int (dg ds i)) := by
  unfold intL
  rw [List.getElem?_map, dg, List.getD_eq_getElem?_getD, List.getElem?_eq_getElem h]; rfl
theorem getD_out {ds : List Int} {i : Nat} (h : ds.length ≤ i) : dg ds i = 0 := by rw [dg, List.getD_eq_getElem?_getD, List.getElem?_eq_none h]; rfl
def loopK (q : SOut) (k : Ls → Ls → SOut) : SOut := match q with
  | .nx ls gh => k ls gh
  | .ct ls gh => k ls gh
  | .bk ls gh => .nx ls gh
  | q => q
section
variable {ls gh : Ls} {k : Ls → Ls → SOut} {d : D}
@[simp] theorem loopK_nx : loopK (.nx ls gh) k = k ls gh := rfl
@[simp] theorem loopK_ct : loopK (.ct ls gh) k = k ls gh := rfl
@[simp] theorem loopK_bk : loopK (.bk ls gh) k = .nx ls gh := rfl
@[simp] theorem loopK_rt : loopK (.rt d gh) k = .rt d gh := rfl
@[simp] theorem loopK_exc {e : Exn} : loopK (.exc e ls gh) k = .exc e ls gh := rfl
variable {g : MG} {body : MS} {r : List D} {z : Ls × Ls}
theorem forV_cons (hg : g (.v d) ls gh = some z) : forV g body (d :: r) ls gh = loopK (body z.1 z.2) (forV g body r) := by
  rw [forV, hg]
  dsimp only
  cases body z.1 z.2 <;> rfl
@[simp] theorem forV_nil : forV g body [] ls gh = .nx ls gh := rfl
theorem sFor_of {it : PI} {ds : List D} {ls1 gh1 : Ls} (hi : it ls gh = .ok ds ls1 gh1) : sFor it g body ls gh = forV g body ds ls1 gh1 := by unfold sFor; rw [hi]; rfl
end
theorem iSeq_of {m : PE} {ls gh ls1 gh1 : Ls} {d : D} {k : Kd} {xs : List D} (h : m ls gh = .ok (.v d) ls1 gh1) (hf : D.frz d = some d) (hs : seqD d = some (k, xs)) : iSeq m ls gh = .ok xs ls1 gh1 := by
  unfold iSeq
  rw [h, bind_ok]
  simp [kSeq, frzSeq, cvR, hf, hs]
theorem iR1_of {m : PE} {ls gh ls1 gh1 : Ls} {n : Nat} (h : m ls gh = .ok (.v (.int (n : Int))) ls1 gh1) (hn : n < 1000000000) : iR1 m ls gh = .ok (rngD 0 n) ls1 gh1 := by
  have hm : GL.med = 4611686018427387904 := rfl
  unfold iR1
  rw [h, bind_ok]
  unfold k1R
  dsimp only
  rw [if_pos]
  rw [Bool.and_eq_true]
  exact ⟨decide_eq_true (by omega), decide_eq_true (by omega)⟩
section
variable {ls gh : Ls} {t : List Nat → Bool} {i : Nat} {p : List Nat} {y d0 : D}
theorem atD_l (h : ls[i]? = some (some (.v d0))) : atD ls gh (.l i) [] = some d0 := by
  unfold atD rootD; simp only [h, slotD, Option.bind_some, getP]
theorem chD_l (h : ls[i]? = some (some (.v d0))) : chD t (.l i) p y ls gh = (modN (putV (setP p d0 y)) i (ls.map (killD t (.l i) p)), gh.map (killD t (.l i) p)) := by
  unfold chD rootD; simp only [h, slotD, Option.map_some]
theorem mAppend_l {xs : List D} {d : D} (h : ls[i]? = some (some (.v (.nd .ow .lst xs)))) (hl : xs.length < lim) : mAppend (.pth (.l i) []) [.v d] ls gh = .ok (.v .non) (modN (putV (.nd .ow .lst (xs ++ [d]))) i (ls.map (killD allT (.l i) []))) (gh.map (killD allT (.l i) [])) := by
  unfold mAppend
  simp only [cvR, if_true, atD_l h, if_pos hl, wrote, chD_l h, setP]
end
@[simp] theorem putV_v {d d' : D} : putV d (some (.v d')) = some (.v d) := rfl
@[simp] theorem kList_lst {k : Fl} {xs : List D} : kList (.nd k .lst xs) = true := rfl
theorem row_inner (most : Nat) (hm : most ≤ 1000) (a0 a3 : D) : ∀ (xs : List D) (rest : Int) (a5 : Option V) (ds : List Int), 0 ≤ rest → Digs most ds → (∀ q, a5 = some q → ∃ d, q = .v d) → (∀ x ∈ xs, ∃ i, x = .int i) →
    ∃ rest' a5' ds', forV (gN 5) (sSeq (sIf (toT (eOp gLt (eB fLen (aCons (eVar 2) aNil)) (eVar 1)))
      (sExpr (eMt kList mAppend (eVar 2) (aCons (eOp gMod (eVar 4) (eC (.int 16))) aNil)))
      sNil)
      (sSeq (sSet 4 (eOp gDiv (eVar 4) (eC (.int 16))))
      (sIf (toT (eOp gEq (eVar 4) (eC (.int 0))))
      sBk
      sNil))) xs [some (.v a0), some (.v (.int most)), some (.v (.nd .ow .lst (intL ds))), some (.v a3), some (.v (.int rest)), a5] [] = .nx [some (.v a0), some (.v (.int most)), some (.v (.nd .ow .lst (intL ds'))), some (.v a3), some (.v (.int rest')), a5'] [] ∧ Digs most ds' ∧ (∀ q, a5' = some q → ∃ d, q = .v d)
  | [], rest, a5, ds, h0, hd, h5, _ => ⟨rest, a5, ds, rfl, hd, h5⟩
  | x :: r, rest, a5, ds, h0, hd, h5, hx => by
    obtain ⟨i, rfl⟩ := hx x List.mem_cons_self
    have hx' : ∀ x ∈ r, ∃ i, x = .int i := fun y hy => hx y (List.mem_cons_of_mem _ hy)
    have k5 : killR 5 a5 = a5 := by
      cases a5 with
      | none => rfl
      | some q => obtain ⟨d, rfl⟩ := h5 q rfl; rfl
    have hg : gN 5 (.v (.int i)) [some (.v a0), some (.v (.int most)), some (.v (.nd .ow .lst (intL ds))), some (.v a3), some (.v (.int rest)), a5] [] = some ([some (.v a0), some (.v (.int most)), some (.v (.nd .ow .lst (intL ds))), some (.v a3), some (.v (.int rest)), some (.v (.int i))], []) := by
      simp [gN, setL, stD]
    rw [forV_cons hg]
    dsimp only
    have h16 : (0 : Int) ≤ rest % 16 ∧ rest % 16 < 16 := by omega
    have hdiv : 0 ≤ rest / 16 := by omega
    have hv2 : ∀ z a5, eVar 2 [some (.v a0), some (.v (.int most)), some (.v (.nd .ow .lst (intL ds))), some (.v a3), z, a5] [] = .ok (.pth (.l 2) []) [some (.v a0), some (.v (.int most)), some (.v (.nd .ow .lst (intL ds))), some (.v a3), z, a5] [] := fun z a5 => eVar_o rfl rfl
    have hat : ∀ z a5, atD [some (.v a0), some (.v (.int most)), some (.v (.nd .ow .lst (intL ds))), some (.v a3), z, a5] [] (.l 2) [] = some (.nd .ow .lst (intL ds)) := fun z a5 => atD_l rfl
    by_cases hlt : (ds.length : Int) < most
    · have e1 : (sIf (toT (eOp gLt (eB fLen (aCons (eVar 2) aNil)) (eVar 1)))
          (sExpr (eMt kList mAppend (eVar 2) (aCons (eOp gMod (eVar 4) (eC (.int 16))) aNil)))
          sNil) [some (.v a0), some (.v (.int most)), some (.v (.nd .ow .lst (intL ds))), some (.v a3), some (.v (.int rest)), some (.v (.int i))] [] = .nx [some (.v a0), some (.v (.int most)), some (.v (.nd .ow .lst (intL (ds ++ [rest % 16])))), some (.v a3), some (.v (.int rest)), some (.v (.int i))] [] := by
        have hz : (intL ds).length < lim := by rw [intL_len]; have : lim = 100000 := rfl; omega
        have ha : intL ds ++ [D.int (rest % 16)] = intL (ds ++ [rest % 16]) := by simp [intL]
        have hap := mAppend_l (ls := [some (.v a0), some (.v (.int most)), some (.v (.nd .ow .lst (intL ds))), some (.v a3), some (.v (.int rest)), some (.v (.int i))]) (gh := []) (i := 2) (d := .int (rest % 16)) rfl hz
        simp [sIf_ap, hv2, f1Len_p (hat _ _), eVar, mkR, hlt, sExpr_ap, eMt, val, hat, gMod_int, hap, modN, ha]
      have hd2 : Digs most (ds ++ [rest % 16]) := ⟨by rw [List.length_append, List.length_singleton]; omega, fun d hd' => by
        rcases List.mem_append.mp hd' with h | h
        · exact hd.2 d h
        · rw [List.mem_singleton.mp h]; exact h16⟩
      rw [sSeq_ap, e1]
      by_cases hz : rest / 16 = 0
      · refine ⟨rest / 16, some (.v (.int i)), ds ++ [rest % 16], ?_, hd2, fun q h => by cases h; exact ⟨_, rfl⟩⟩
        simp [sSet_ap, eVar, mkR, gDiv_int, setL, stD, sIf_ap, hz]
      · obtain ⟨rest', a5', ds', e, hd', h5'⟩ := row_inner most hm a0 a3 r (rest / 16) (some (.v (.int i))) _ hdiv hd2 (fun q h => by cases h; exact ⟨_, rfl⟩) hx'
        refine ⟨rest', a5', ds', ?_, hd', h5'⟩
        rw [← e]
        simp [sSet_ap, eVar, mkR, gDiv_int, setL, stD, sIf_ap, hz]
    · have e1 : (sIf (toT (eOp gLt (eB fLen (aCons (eVar 2) aNil)) (eVar 1)))
          (sExpr (eMt kList mAppend (eVar 2) (aCons (eOp gMod (eVar 4) (eC (.int 16))) aNil)))
          sNil) [some (.v a0), some (.v (.int most)), some (.v (.nd .ow .lst (intL ds))), some (.v a3), some (.v (.int rest)), some (.v (.int i))] [] = .nx [some (.v a0), some (.v (.int most)), some (.v (.nd .ow .lst (intL ds))), some (.v a3), some (.v (.int rest)), some (.v (.int i))] [] := by
        simp [sIf_ap, hv2, f1Len_p (hat _ _), eVar, mkR, hlt]
      rw [sSeq_ap, e1]
      by_cases hz : rest / 16 = 0
      · refine ⟨rest / 16, some (.v (.int i)), ds, ?_, hd, fun q h => by cases h; exact ⟨_, rfl⟩⟩
        simp [sSet_ap, eVar, mkR, gDiv_int, setL, stD, sIf_ap, hz]
      · obtain ⟨rest', a5', ds', e, hd', h5'⟩ := row_inner most hm a0 a3 r (rest / 16) (some (.v (.int i))) _ hdiv hd (fun q h => by cases h; exact ⟨_, rfl⟩) hx'
        refine ⟨rest', a5', ds', ?_, hd', h5'⟩
        rw [← e]
        simp [sSet_ap, eVar, mkR, gDiv_int, setL, stD, sIf_ap, hz]
theorem row_outer (most : Nat) (hm : most ≤ 1000) (a0 : D) : ∀ (ns : List Int) (a3 a4 a5 : Option V) (ds : List Int), Digs most ds → (∀ q, a3 = some q → ∃ d, q = .v d) → (∀ q, a4 = some q → ∃ d, q = .v d) → (∀ q, a5 = some q → ∃ d, q = .v d) →
    ∃ a3' a4' a5' ds', forV (gN 3) (sSeq (sSet 4 (eB fAbs (aCons (eB fInt (aCons (eVar 3) aNil)) aNil)))
      (sFor (iR1 (eC (.int 60))) (gN 5)
      (sSeq (sIf (toT (eOp gLt (eB fLen (aCons (eVar 2) aNil)) (eVar 1)))
      (sExpr (eMt kList mAppend (eVar 2) (aCons (eOp gMod (eVar 4) (eC (.int 16))) aNil)))
      sNil)
      (sSeq (sSet 4 (eOp gDiv (eVar 4) (eC (.int 16))))
      (sIf (toT (eOp gEq (eVar 4) (eC (.int 0))))
      sBk
      sNil))))) (intL ns) [some (.v a0), some (.v (.int most)), some (.v (.nd .ow .lst (intL ds))), a3, a4, a5] [] = .nx [some (.v a0), some (.v (.int most)), some (.v (.nd .ow .lst (intL ds'))), a3', a4', a5'] [] ∧ Digs most ds'
  | [], a3, a4, a5, ds, hd, _, _, _ => ⟨a3, a4, a5, ds, rfl, hd⟩
  | x :: r, a3, a4, a5, ds, hd, h3, h4, h5 => by
    have kl : ∀ {a : Option V}, (∀ q, a = some q → ∃ d, q = .v d) → ∀ i, killR i a = a := fun {a} h i => by
      cases a with
      | none => rfl
      | some q => obtain ⟨d, rfl⟩ := h q rfl; rfl
    have hg : gN 3 (.v (.int x)) [some (.v a0), some (.v (.int most)), some (.v (.nd .ow .lst (intL ds))), a3, a4, a5] [] = some ([some (.v a0), some (.v (.int most)), some (.v (.nd .ow .lst (intL ds))), some (.v (.int x)), a4, a5], []) := by
      simp [gN, setL, stD, kl h4, kl h5]
    show ∃ a3' a4' a5' ds', forV (gN 3) _ (.int x :: intL r) _ _ = _ ∧ _
    rw [forV_cons hg]
    dsimp only
    have h0 : (0 : Int) ≤ (if x < 0 then -x else x) := by split <;> omega
    obtain ⟨rest', a5', ds1, e, hd1, h5'⟩ := row_inner most hm a0 (.int x) (rngD 0 ((60 : Nat) : Int)) _ a5 ds h0 hd h5 (fun y hy => by
      obtain ⟨i, _, rfl⟩ := List.mem_map.mp (show y ∈ (List.range _).map _ from hy)
      exact ⟨_, rfl⟩)
    obtain ⟨b3, b4, b5, ds2, e2, hd2⟩ := row_outer most hm a0 r (some (.v (.int x))) (some (.v (.int rest'))) a5' ds1 hd1 (fun q h => by cases h; exact ⟨_, rfl⟩) (fun q h => by cases h; exact ⟨_, rfl⟩) h5'
    refine ⟨b3, b4, b5, ds2, ?_, hd2⟩
    rw [← e2]
    have e1 : sSet 4 (eB fAbs (aCons (eB fInt (aCons (eVar 3) aNil)) aNil)) [some (.v a0), some (.v (.int most)), some (.v (.nd .ow .lst (intL ds))), some (.v (.int x)), a4, a5] [] = .nx [some (.v a0), some (.v (.int most)), some (.v (.nd .ow .lst (intL ds))), some (.v (.int x)), some (.v (.int (if x < 0 then -x else x))), a5] [] := by
      simp [sSet_ap, eVar, mkR, setL, stD, kl h5]
    rw [sSeq_ap, e1, seq_nx, sFor_of (it := iR1 (eC (.int 60))) (iR1_of (m := eC (.int 60)) (n := 60) rfl (by decide)), e]
    rfl
theorem row_ok {ns : List Int} {most : Nat} (hm : most ≤ 1000) : ∃ ds, fnOf 2 6 m_row [.v (.nd .fz .rol (intL ns)), .v (.int most)] [] = .ok (.nd .ow .lst (intL ds)) [] ∧ Digs most ds := by
  obtain ⟨b3, b4, b5, ds, e, hd⟩ := row_outer most hm (.nd .fz .rol (intL ns)) ns none none none [] ⟨by simp, by simp⟩ (by simp) (by simp) (by simp)
  refine ⟨ds, fnOf_rt (gh := []) rfl ?_ rfl, hd⟩
  show m_row [some (.v (.nd .fz .rol (intL ns))), some (.v (.int most)), none, none, none, none] [] = _
  unfold m_row
  have e1 : sSet 2 (eLst aNil) [some (.v (.nd .fz .rol (intL ns))), some (.v (.int most)), none, none, none, none] [] = .nx [some (.v (.nd .fz .rol (intL ns))), some (.v (.int most)), some (.v (.nd .ow .lst (intL []))), none, none, none] [] := rfl
  rw [sSeq_ap, e1, seq_nx, sSeq_ap, sFor_of (it := iSeq (eVar 0)) (iSeq_of (m := eVar 0) (d := .nd .fz .rol (intL ns)) (k := .rol) rfl rfl rfl), e, seq_nx, sRet_ap, eVar_o (d := .nd .ow .lst (intL ds)) rfl rfl]
  rfl
end VL
set_option Elab.async false
set_option linter.all false
set_option maxRecDepth 100000
set_option maxHeartbeats 1000000
namespace VL
open GL (PV OB Sto Nm BT lim)
open PySem (PyData)
end VL
set_option Elab.async false
set_option linter.all false
set_option maxRecDepth 100000
set_option maxHeartbeats 4000000
set_option cbv.maxSteps 1000000
namespace VL
open GL (PV OB Sto Nm BT lim)
open PySem (PyData)
end VL
set_option Elab.async false
set_option linter.all false
set_option maxRecDepth 100000
set_option maxHeartbeats 1000000
namespace VL
open GL (PV OB Sto Nm BT lim)
open PySem (PyData)
end VL
set_option Elab.async false
set_option linter.all false
set_option maxRecDepth 100000
set_option maxHeartbeats 1000000
namespace VL
open GL (PV OB Sto Nm BT lim)
end VL
set_option Elab.async false
set_option linter.all false
namespace K44.M
abbrev Nm := List Nat
abbrev bad : Nm := [98, 97, 100]
abbrev Row := Nm × Nm × Nm
abbrev Dt (α : Type) := List (Nm × α)
def get {α : Type} : Dt α → Nm → Option α
  | [], _ => none
  | q :: r, k => if q.1 = k then some q.2 else get r k
theorem nodup_sub {α : Type} [DecidableEq α] : ∀ {l m : List α}, l.Nodup → (∀ x ∈ l, x ∈ m) → l.length ≤ m.length
  | [], m, _, _ => Nat.zero_le _
  | a :: l, m, hn, hs => by
    have hn := List.nodup_cons.mp hn
    have ha : a ∈ m := hs a List.mem_cons_self
    have := nodup_sub (l := l) (m := m.erase a) hn.2 fun x hx => (List.mem_erase_of_ne (fun e => hn.1 (by rw [← e]; exact hx))).mpr (hs x (List.mem_cons_of_mem _ hx))
    rw [List.length_erase_of_mem ha] at this
    have := List.length_pos_of_mem ha
    rw [List.length_cons]; omega
end K44.M
set_option Elab.async false
set_option linter.all false
namespace K44.M
def mv (R : List Row) (s : Nm) : List (Nm × Nm) := R.filterMap fun r => if r.1 = s then some r.2 else none
def nxt (F : Nm → Option Nat) (R : List Row) (n : Nat) (s : Nm) : Option (Nm × Nm) := (mv R s).find? fun p => decide (F p.2 = some n)
def W (F : Nm → Option Nat) (R : List Row) : Nat → Nm → List Nm
  | 0, _ => []
  | n + 1, s => match nxt F R n s with
    | some p => p.1 :: W F R n p.2
    | none => []
abbrev Ws := List (Nm × List Nm)
end K44.M
set_option Elab.async false
set_option linter.all false
set_option maxRecDepth 100000
set_option maxHeartbeats 4000000
set_option cbv.maxSteps 1000000
set_option pp.maxSteps 400
namespace VL
open GL (PV)
open K44
variable {α : Type}
def Nd (d : M.Dt α) : Prop := (d.map (·.1)).Nodup
section
variable {ls gh : Ls} {a b : PE} {x y : RV} {t u : PT} {m1 m2 : MS} {k : Bool}
theorem op_of {g : G2} {r : Out RV} (ha : a ls gh = .ok x ls gh) (hb : b ls gh = .ok y ls gh) (h : g x y ls gh = r) : eOp g a b ls gh = r := by rw [eOp_ap, ha, bind_ok, hb, bind_ok, h]
theorem toT_of (ha : a ls gh = .ok (.v (.bl k)) ls gh) : toT a ls gh = .ok k ls gh := by rw [toT_ap, ha]; rfl
theorem or_go (h : t ls gh = .ok false ls gh) (h2 : u ls gh = .ok k ls gh) : tOrM t u ls gh = .ok k ls gh := by rw [tOrM_ap, h]; exact h2
theorem if_yes (h : t ls gh = .ok true ls gh) : sIf t m1 m2 ls gh = m1 ls gh := by rw [sIf_ap, h]; rfl
theorem if_no (h : t ls gh = .ok false ls gh) : sIf t m1 m2 ls gh = m2 ls gh := by rw [sIf_ap, h]; rfl
theorem seq_of {ls2 gh2 : Ls} (h : m1 ls gh = .nx ls2 gh2) : sSeq m1 m2 ls gh = m2 ls2 gh2 := by rw [sSeq_ap, h]; rfl
end
def okA1 (z : Option V) : Prop := z = none ∨ ∃ d, z = some (.v d)
section
variable {fn : MF} {dws : List PV} {args : PA} {ls gh ls1 gh1 ls2 gh2 : Ls} {xs : List RV} {ds : List D} {r d : D} {o : PE} {x : RV} {C m : GL.Nm}
theorem call_of (ha : args ls gh = .ok xs ls1 gh1) (hc : cvL true xs ls1 gh1 = some (ds, ls2, gh2)) {ios : List D} (hf : fn ((ds ++ dOfs dws).map .v) [] = .ok r ios) : eCall fn dws args ls gh = .ok (.v r) ls2 gh2 := by
  unfold eCall
  rw [ha, bind_ok, hc]
  show callD fn ((ds ++ dOfs dws).map .v) ls2 gh2 = _
  unfold callD
  rw [hf]
end
section
variable {ls gh ls1 gh1 : Ls}
theorem shrK_s {x : RV} {xs : List D} (h : xs.all D.shr = true) : shrK x xs = some xs := by unfold shrK; rw [if_pos h]
end
def m_digit : MS := (sSeq (sIf (toT (eOp gLt (eVar 1) (eB fLen (aCons (eVar 0) aNil))))
  (sRet (eOp gIx (eVar 0) (eVar 1)))
  sNil)
  (sRet (eC (.int 0))))
abbrev f_digit : MF := fnOf 2 2 m_digit
abbrev inD' (ds : List Int) : D := .nd .fz .lst (intL ds)
theorem digit_ok {ds : List Int} (i : Nat) : f_digit [.v (inD' ds), .v (.int (i : Int))] [] = .ok (.int (dg ds i)) [] := by
  refine fnOf_rt (gh := []) rfl ?_ rfl
  have t : (toT (eOp gLt (eVar 1) (eB fLen (aCons (eVar 0) aNil)))) [some (.v (inD' ds)), some (.v (.int (i : Int)))] [] = .ok (decide (i < ds.length)) [some (.v (inD' ds)), some (.v (.int (i : Int)))] [] := by
    have hl : (eB fLen (aCons (eVar 0) aNil)) [some (.v (inD' ds)), some (.v (.int (i : Int)))] [] = .ok (.v (.int ((intL ds).length : Nat))) [some (.v (inD' ds)), some (.v (.int (i : Int)))] [] := rfl
    refine (toT_of (op_of (g := gLt) (x := .v (.int (i : Int))) rfl hl gCmp_int)).trans ?_
    have e : (intL ds).length = ds.length := by unfold intL; rw [List.length_map]
    rw [e, show decide ((i : Int) < ((ds.length : Nat) : Int)) = decide (i < ds.length) from decide_eq_decide.mpr (by omega)]
  by_cases h : i < ds.length
  · rw [decide_eq_true h] at t
    have g : (eOp gIx (eVar 0) (eVar 1)) [some (.v (inD' ds)), some (.v (.int (i : Int)))] [] = .ok (.v (.int (dg ds i))) [some (.v (inD' ds)), some (.v (.int (i : Int)))] [] := op_of (x := .v (inD' ds)) (y := .v (.int (i : Int))) rfl rfl (gIx_lst (intL_get h) rfl)
    have r : (sIf (toT (eOp gLt (eVar 1) (eB fLen (aCons (eVar 0) aNil)))) (sRet (eOp gIx (eVar 0) (eVar 1))) sNil) [some (.v (inD' ds)), some (.v (.int (i : Int)))] [] = .rt (.int (dg ds i)) [] := by
      refine (if_yes t).trans ?_
      rw [sRet_ap, g]; rfl
    show (sSeq _ _) [some (.v (inD' ds)), some (.v (.int (i : Int)))] [] = _
    rw [sSeq_ap, r]; rfl
  · rw [decide_eq_false h] at t
    refine (seq_of (if_no t)).trans ?_
    rw [getD_out (Nat.le_of_not_lt h)]; rfl
theorem fint_of {e : PE} {ls : Ls} {v : Int} (he : e ls [] = .ok (.v (.int v)) ls []) : (eB fInt (aCons e aNil)) ls [] = .ok (.v (.int v)) ls [] := by
  rw [eB_ap, aCons_ap, he, bind_ok, aNil_ap, bind_ok, bind_ok]; rfl
theorem nat_of {v n : Int} (h : 0 < n) : ∃ k : Nat, v % n = (k : Int) ∧ (k : Int) < n := by
  have h0 := Int.emod_nonneg v (show n ≠ 0 by omega)
  have h1 := Int.emod_lt_of_pos v h
  obtain ⟨k, hk⟩ := Int.eq_ofNat_of_zero_le h0
  exact ⟨k, hk, by omega⟩
theorem cut_b {α : Type} {xs : List α} {t : Nat} (h : t ≤ xs.length) : GL.cutP xs (some (t : Int)) none = xs.drop t := by
  unfold GL.cutP
  rw [_root_.HT.sIx_none, _root_.HT.sIx_nat, Nat.min_eq_left h]
  exact List.take_of_length_le (by rw [List.length_drop]; exact Nat.le_refl _)
section
variable {ls gh : Ls} {a b : PE} {t u : PT} {x y : RV} {k : Bool}
theorem not_of (h : t ls gh = .ok k ls gh) : tNotM t ls gh = .ok (!k) ls gh := by rw [tNotM_ap, h]; rfl
theorem args2 (h1 : a ls gh = .ok x ls gh) (h2 : b ls gh = .ok y ls gh) : (aCons a (aCons b aNil)) ls gh = .ok [x, y] ls gh := by
  rw [aCons_ap, h1, bind_ok, aCons_ap, h2, bind_ok, aNil_ap, bind_ok, bind_ok]
end
section
variable {ls gh ls1 gh1 ls2 gh2 ls3 gh3 : Ls} {t u : PT} {m1 m2 : MS} {x y z : RV} {a b c : D}
theorem if_no2 (h : t ls gh = .ok false ls2 gh2) : sIf t m1 sNil ls gh = .nx ls2 gh2 := by rw [sIf_ap, h]; rfl
end
theorem frz_lst {xs : List D} (h : D.frzs xs = some xs) : D.frz (.nd .ow .lst xs) = some (.nd .fz .lst xs) := by simp [D.frz, h]
end VL
set_option Elab.async false
set_option linter.all false
set_option maxRecDepth 100000
set_option maxHeartbeats 4000000
set_option cbv.maxSteps 1000000
set_option pp.maxSteps 400
namespace VL
open GL (PV)
open K44
structure WI (P : List M.Nm) (n : Nat) (ws : M.Ws) : Prop where
  nd : Nd ws
  k : ∀ x ∈ ws, x.1 ∈ P
  l : ∀ x ∈ ws, x.2.length ≤ n
theorem WI.len {P : List M.Nm} {n : Nat} {ws : M.Ws} (h : WI P n ws) : ws.length ≤ P.length := by
  have := M.nodup_sub h.nd fun x hx => by
    obtain ⟨q, hq, rfl⟩ := List.mem_map.mp hx
    exact h.k q hq
  rw [List.length_map] at this
  exact this
end VL
set_option Elab.async false
set_option linter.all false
set_option maxRecDepth 100000
set_option maxHeartbeats 4000000
set_option cbv.maxSteps 1000000
set_option pp.maxSteps 400
namespace VL
open GL (PV)
open K44
structure RcI (P : List M.Nm) (f : List M.Nm) : Prop where
  nd : f.Nodup
  k : ∀ x ∈ f, x ∈ P
theorem RcI.len {P f : List M.Nm} (h : RcI P f) : f.length ≤ P.length := M.nodup_sub h.nd h.k
end VL
set_option Elab.async false
set_option linter.all false
set_option maxRecDepth 100000
set_option maxHeartbeats 1000000
namespace VL
open GL (PV)
open K44 (M.Nm)
section
variable {ls : Ls} {t u : PT} {a b c e : PE} {m m1 m2 k : MS} {r : PA} {p q : Bool} {i j : List Nat} {X Y d : D} {x y : RV} {xs : List RV} {w z : Int}
theorem sSetOk {n : Nat} {l2 : Ls} (h : a ls [] = .ok x ls []) (h2 : setL n x ls [] = some (l2, [])) : sSet n a ls [] = .nx l2 [] := by
  rw [sSet_ap, h]
  show (match setL n x ls [] with
    | some z => SOut.nx z.1 z.2
    | none => .bad) = _
  rw [h2]
end
end VL
set_option Elab.async false
set_option linter.all false
set_option maxRecDepth 100000
set_option maxHeartbeats 1000000
namespace GL
open PySem PySem.Spec PyProof.Rows L2
def ExtW (K : PySem.W.Frag) (H H' : Hp) : Prop := (∀ a vs, SqT K H a vs → SqT K H' a vs) ∧ (∀ a vs, RoL K H a vs → RoL K H' a vs) ∧ ∀ a fs, H a = some (.xd fs) → H' a = some (.xd fs)
section
variable {pw : PgW} {K : PySem.W.Frag} {ρ ρ' : Nat → Addr} {N : Nat} {H H' : Hp} {S S2 : Sto} {n : Nat} {kvs : List (PV × PV)} {kv' : List (Key × V)}
mutual
theorem RW.w (e : ExtW K H H') : ∀ {w : PV} {v : V}, RW K ρ N H w v → RW K ρ N H' w v
  | _, _, .non => .non
  | _, _, .bl b => .bl b
  | _, _, .int i => .int i
  | _, _, .str x => .str x
  | _, _, .tup h hs => .tup (e.1 _ _ h) (RWs.w e hs)
  | _, _, .loc n h => .loc n h
  | _, _, .gl x => .gl x
  | _, _, .ty n => .ty n
  | _, _, .xn h hn hs => .xn (e.2.2 _ _ h) hn (RWs.w e hs)
theorem RWs.w (e : ExtW K H H') : ∀ {w : List PV} {v : List V}, RWs K ρ N H w v → RWs K ρ N H' w v
  | _, _, .nil => .nil
  | _, _, .cons h hs => .cons (RW.w e h) (RWs.w e hs)
end
theorem RL.w (e : ExtW K H H') : ∀ {ls : Ls} {σ : L2.St}, RL K ρ N H ls σ → RL K ρ N H' ls σ
  | _, _, .nil => .nil
  | _, _, .no t => .no (RL.w e t)
  | _, _, .yes h t => .yes (RW.w e h) (RL.w e t)
theorem RFs.w (e : ExtW K H H') : ∀ {w : List (Nm × PV)} {v : List (Str × V)}, RFs K ρ N H w v → RFs K ρ N H' w v
  | _, _, .nil => .nil
  | _, _, .cons h hs => .cons (RW.w e h) (RFs.w e hs)
theorem RKs.w (e : ExtW K H H') : ∀ {w : List (PV × PV)} {v : List (Key × V)}, RKs K ρ N H w v → RKs K ρ N H' w v
  | _, _, .nil => .nil
  | _, _, .cons hk h hs => .cons hk (RW.w e h) (RKs.w e hs)
theorem RNs.w (e : ExtW K H H') : ∀ {w : List (PV × PV)} {v : List (NestedKey × Addr × V)}, RNs K ρ N H w v → RNs K ρ N H' w v
  | _, _, .nil => .nil
  | _, _, .cons hk hd hr h hs => .cons hk hd (RW.w e hr) (RW.w e h) (RNs.w e hs)
theorem RX.w (e : ExtW K H H') {x : Exn} {c : Value} {d : Option Addr} (r : RX K ρ N H x c d) : RX K ρ N H' x c d := by
  obtain ⟨ec, dx, fs', ed, hd, rf⟩ := r
  exact ⟨ec, dx, fs', ed, e.2.2 _ _ hd, rf.w e⟩
theorem RO.w {o : OB} {a : Addr} (e : ExtW K H H') (k : ∀ h, H a = some h → H' a = some h) (r : RO pw K ρ N H o a) : RO pw K ρ N H' o a := by
  cases o with
  | lst xs => obtain ⟨vs, h, r⟩ := r; exact ⟨vs, k _ h, r.w e⟩
  | rol xs => obtain ⟨vs, h, r⟩ := r; exact ⟨vs, e.2.1 _ _ h, r.w e⟩
  | dct kvs => obtain ⟨vs, h, r⟩ := r; exact ⟨vs, k _ h, r.w e⟩
  | fdct kvs => obtain ⟨o, vs, h, r⟩ := r; exact ⟨o, vs, k _ h, r.w e⟩
  | dcn kvs => obtain ⟨xs, h, r⟩ := r; exact ⟨xs, k _ h, r.w e⟩
  | ptp xs => obtain ⟨vs, h, r⟩ := r; exact ⟨vs, h.keep (fun _ _ e => k _ e), r.w e⟩
  | ins C fs => obtain ⟨dx, vs, h, r⟩ := r; exact ⟨dx, vs, k _ h, r.w e⟩
end
end GL
set_option Elab.async false
set_option linter.all false
set_option maxRecDepth 100000
set_option maxHeartbeats 1000000
namespace GL
open PySem PySem.Spec PyProof.Rows L2
end GL
set_option Elab.async false
set_option linter.all false
set_option maxRecDepth 100000
set_option maxHeartbeats 1000000
namespace VL
open GL (PV OB Sto Nm lim)
end VL
set_option Elab.async false
set_option linter.all false
set_option maxRecDepth 100000
set_option maxHeartbeats 1000000
namespace GL
open PySem PySem.Spec PyProof.Rows L2
end GL
set_option Elab.async false
set_option linter.all false
set_option maxRecDepth 100000
set_option maxHeartbeats 1000000
namespace VL
open GL (PV OB Sto Nm lim)
end VL
set_option Elab.async false
set_option linter.all false
set_option maxRecDepth 100000
set_option maxHeartbeats 1000000
namespace GL
open PySem PySem.Spec PyProof.Rows L2
end GL
set_option Elab.async false
set_option linter.all false
set_option maxRecDepth 100000
set_option maxHeartbeats 1000000
namespace VL
open GL (PV OB Sto Nm lim)
end VL
set_option Elab.async false
set_option linter.all false
set_option maxRecDepth 100000
set_option maxHeartbeats 1000000
namespace GL
open PySem PySem.Spec PyProof.Rows L2
end GL
set_option Elab.async false
set_option linter.all false
set_option maxRecDepth 100000
set_option maxHeartbeats 1000000
namespace VL
open GL (PV OB Sto Nm lim)
end VL
set_option Elab.async false
set_option linter.all false
set_option maxRecDepth 100000
set_option maxHeartbeats 2000000
namespace GL
open PySem PySem.Spec PyProof.Rows L2
open PySem.W (EachIs alike alikeAll dataLt AllAlike Sortable)
end GL
set_option Elab.async false
set_option linter.all false
set_option maxRecDepth 100000
set_option maxHeartbeats 2000000
namespace VL
open PySem
open GL (PV OB Sto lim)
end VL
set_option Elab.async false
set_option linter.all false
set_option maxRecDepth 100000
set_option maxHeartbeats 1000000
namespace GL
open PySem PySem.Spec PyProof.Rows L2
end GL
set_option Elab.async false
set_option linter.all false
set_option maxRecDepth 100000
set_option maxHeartbeats 1000000
namespace VL
open GL (PV OB Sto Nm lim)
open PySem (PyData)
end VL
set_option Elab.async false
set_option linter.all false
set_option maxRecDepth 100000
set_option maxHeartbeats 1000000
namespace VL
open GL (PV)
open PySem (PyData)
abbrev dv (d : D) : Option V := some (.v d)
abbrev di (v : Nat) : D := .int (v : Int)
abbrev Tb (α : Type) := List (Nat × α)
section
variable {α : Type}
def Tb.get : Tb α → Nat → Option α
  | [], _ => none
  | q :: r, v => if q.1 = v then some q.2 else Tb.get r v
end
end VL
set_option Elab.async false
set_option linter.all false
set_option maxRecDepth 100000
set_option maxHeartbeats 1000000
namespace VL
open GL (PV)
def okL (ls : Ls) : Prop := ∀ z ∈ ls, okA1 z
theorem okL_nil : okL [] := fun z h => by cases h
theorem okL_cons {z : Option V} {ls : Ls} (h : okA1 z) (h2 : okL ls) : okL (z :: ls) := fun y hy => by
  rcases List.mem_cons.mp hy with rfl | hy
  · exact h
  · exact h2 y hy
theorem okAv {d : D} : okA1 (dv d) := .inr ⟨_, rfl⟩
theorem okAn : okA1 none := .inl rfl
section
variable {ls ls1 ls2 : Ls} {i : Nat} {d d0 y : D} {e o : PE} {t : List Nat → Bool} {r : Rt} {p : List Nat}
theorem killR_L (h : okL ls) (i : Nat) : ls.map (killR i) = ls := by
  have : ls.map (killR i) = ls.map id := List.map_congr_left fun z hz => by
    rcases h z hz with rfl | ⟨d, rfl⟩ <;> rfl
  rw [this, List.map_id]
theorem setL_ok (h : okL ls) (hi : i < ls.length) : setL i (.v d) ls [] = some (ls.set i (dv d), []) := by
  unfold setL
  rw [if_pos hi]
  show some ((ls.map (killR i)).set i (dv d), [].map (killR i)) = _
  rw [killR_L h]; rfl
theorem gN_ok (h : okL ls) (hi : i < ls.length) : gN i (.v d) ls [] = some (ls.set i (dv d), []) := setL_ok h hi
end
end VL
set_option Elab.async false
set_option linter.all false
set_option maxRecDepth 100000
set_option maxHeartbeats 1000000
namespace K74.V
open VL
open GL (PV)
abbrev sD (a b : List Nat) : D := .tup [.str a, .str b]
abbrev tb (b : Bool) : D := .nd .fz (.ins n_Handshake [n_first, n_rows, n_waiting_counts]) [sD n_between n_between, .nd .fz .lst [], .bl b]
abbrev di (k : Nat) : D := .int (k : Int)
abbrev st_true : List D := [sD n_between n_between, sD n_amid n_between, sD n_between n_amid, sD n_amid n_amid, sD n_waiting n_between, sD n_between n_waiting, sD n_waiting n_amid, sD n_amid n_waiting, sD n_waiting n_waiting]
abbrev mv_true_0 : List D := [.tup [.str [98, 101, 103, 105, 110, 32, 48], sD n_amid n_between], .tup [.str [98, 101, 103, 105, 110, 32, 49], sD n_between n_amid]]
abbrev mv_true_1 : List D := [.tup [.str [98, 101, 103, 105, 110, 32, 49], sD n_amid n_amid], .tup [.str [102, 105, 110, 105, 115, 104, 32, 48], sD n_between n_between], .tup [.str [104, 105, 116, 32, 48], sD n_waiting n_between]]
abbrev mv_true_2 : List D := [.tup [.str [98, 101, 103, 105, 110, 32, 48], sD n_amid n_amid], .tup [.str [102, 105, 110, 105, 115, 104, 32, 49], sD n_between n_between], .tup [.str [104, 105, 116, 32, 49], sD n_between n_waiting]]
abbrev mv_true_3 : List D := [.tup [.str [102, 105, 110, 105, 115, 104, 32, 48], sD n_between n_amid], .tup [.str [102, 105, 110, 105, 115, 104, 32, 49], sD n_amid n_between], .tup [.str [104, 105, 116, 32, 48], sD n_waiting n_amid], .tup [.str [104, 105, 116, 32, 49], sD n_amid n_waiting]]
abbrev mv_true_4 : List D := [.tup [.str [98, 101, 103, 105, 110, 32, 49], sD n_waiting n_amid], .tup [.str [112, 97, 115, 115, 32, 48], sD n_between n_between]]
abbrev mv_true_5 : List D := [.tup [.str [98, 101, 103, 105, 110, 32, 48], sD n_amid n_waiting], .tup [.str [112, 97, 115, 115, 32, 49], sD n_between n_between]]
abbrev mv_true_6 : List D := [.tup [.str [102, 105, 110, 105, 115, 104, 32, 49], sD n_waiting n_between], .tup [.str [104, 105, 116, 32, 49], sD n_waiting n_waiting]]
abbrev mv_true_7 : List D := [.tup [.str [102, 105, 110, 105, 115, 104, 32, 48], sD n_between n_waiting], .tup [.str [104, 105, 116, 32, 48], sD n_waiting n_waiting]]
abbrev mv_true_8 : List D := [.tup [.str [112, 97, 115, 115, 32, 48], sD n_between n_waiting], .tup [.str [112, 97, 115, 115, 32, 49], sD n_waiting n_between]]
abbrev st_false : List D := [sD n_between n_between, sD n_amid n_between, sD n_between n_amid, sD n_amid n_amid, sD n_waiting n_between, sD n_between n_waiting, sD n_waiting n_amid, sD n_amid n_waiting, sD n_waiting n_waiting]
abbrev mv_false_0 : List D := [.tup [.str [98, 101, 103, 105, 110, 32, 48], sD n_amid n_between], .tup [.str [98, 101, 103, 105, 110, 32, 49], sD n_between n_amid]]
abbrev mv_false_1 : List D := [.tup [.str [98, 101, 103, 105, 110, 32, 49], sD n_amid n_amid], .tup [.str [102, 105, 110, 105, 115, 104, 32, 48], sD n_between n_between], .tup [.str [104, 105, 116, 32, 48], sD n_waiting n_between]]
abbrev mv_false_2 : List D := [.tup [.str [98, 101, 103, 105, 110, 32, 48], sD n_amid n_amid], .tup [.str [102, 105, 110, 105, 115, 104, 32, 49], sD n_between n_between], .tup [.str [104, 105, 116, 32, 49], sD n_between n_waiting]]
abbrev mv_false_3 : List D := [.tup [.str [102, 105, 110, 105, 115, 104, 32, 48], sD n_between n_amid], .tup [.str [102, 105, 110, 105, 115, 104, 32, 49], sD n_amid n_between], .tup [.str [104, 105, 116, 32, 48], sD n_waiting n_amid], .tup [.str [104, 105, 116, 32, 49], sD n_amid n_waiting]]
abbrev mv_false_4 : List D := [.tup [.str [98, 101, 103, 105, 110, 32, 49], sD n_waiting n_amid], .tup [.str [112, 97, 115, 115, 32, 48], sD n_between n_between]]
abbrev mv_false_5 : List D := [.tup [.str [98, 101, 103, 105, 110, 32, 48], sD n_amid n_waiting], .tup [.str [112, 97, 115, 115, 32, 49], sD n_between n_between]]
abbrev mv_false_6 : List D := [.tup [.str [102, 105, 110, 105, 115, 104, 32, 49], sD n_waiting n_between], .tup [.str [104, 105, 116, 32, 49], sD n_waiting n_waiting]]
abbrev mv_false_7 : List D := [.tup [.str [102, 105, 110, 105, 115, 104, 32, 48], sD n_between n_waiting], .tup [.str [104, 105, 116, 32, 48], sD n_waiting n_waiting]]
abbrev mv_false_8 : List D := []
abbrev wM : PE := (eOp gMod (eB fInt (aCons (eCall f_law_digit [] (aCons (eVar 2) (aCons (eVar 4) aNil))) aNil)) (eB fLen (aCons (eVar 5) aNil)))
abbrev w1 : MS := (sSet 5 (eMeth n_Handshake n_moves f_Handshake_moves [] (eVar 0) (aCons (eVar 3) aNil)))
abbrev w2 : MS := (sIf (toT (eOp gEq (eB fLen (aCons (eVar 5) aNil)) (eC (.int 0)))) (sRet (eOp gEq (eVar 3) (eTup (aCons (eC (.str n_waiting)) (aCons (eC (.str n_waiting)) aNil))))) sNil)
abbrev w3 : MS := (sSet 3 (eOp gIx (eOp gIx (eVar 5) wM) (eC (.int 1))))
abbrev w4 : MS := (sIf (toT (eOp (inDp true) (eVar 3) (eVar 1))) (sRet (eC (.bl false))) sNil)
abbrev wB : MS := sSeq w1 (sSeq w2 (sSeq w3 w4))
abbrev wL (b : Bool) (S : List D) (ds : List Int) (s : D) (z4 z5 : Option V) : Ls := [dv (tb b), dv (.nd .fz .lst S), dv (inD' ds), dv s, z4, z5]
theorem wm_of {b : Bool} {S : List D} {ds : List Int} {s : D} {k n : Nat} {mv : List D} (hn : mv.length = n) (h : 0 < n) : ∃ j : Nat, j < n ∧ wM (wL b S ds s (dv (di k)) (dv (.nd .ow .lst mv))) [] = .ok (.v (di j)) (wL b S ds s (dv (di k)) (dv (.nd .ow .lst mv))) [] := by
  have hd : (eCall f_law_digit [] (aCons (eVar 2) (aCons (eVar 4) aNil))) (wL b S ds s (dv (di k)) (dv (.nd .ow .lst mv))) [] = .ok (.v (.int (dg ds k))) (wL b S ds s (dv (di k)) (dv (.nd .ow .lst mv))) [] := call_of (xs := [.v (inD' ds), .v (di k)]) (ds := [inD' ds, di k]) (dws := []) (ios := []) rfl rfl (digit_ok k)
  have hl : (eB fLen (aCons (eVar 5) aNil)) (wL b S ds s (dv (di k)) (dv (.nd .ow .lst mv))) [] = .ok (.v (.int ((n : Nat) : Int))) (wL b S ds s (dv (di k)) (dv (.nd .ow .lst mv))) [] := by rw [← hn]; rfl
  obtain ⟨j, hj, hj2⟩ := nat_of (v := dg ds k) (n := (n : Int)) (by omega)
  refine ⟨j, by omega, ?_⟩
  have q := op_of (g := gMod) (fint_of hd) hl (gMod_int (by omega))
  rw [hj] at q
  exact q
theorem sp_true_0 (ds : List Int) (k : Nat) {z5 : Option V} (h5 : okA1 z5) : ∃ s ∈ st_true, wB (wL true st_true ds (sD n_between n_between) (dv (di k)) z5) [] = .nx (wL true st_true ds s (dv (di k)) (dv (.nd .ow .lst mv_true_0))) [] := by
  have e1 : w1 (wL true st_true ds (sD n_between n_between) (dv (di k)) z5) [] = .nx (wL true st_true ds (sD n_between n_between) (dv (di k)) (dv (.nd .ow .lst mv_true_0))) [] := by
    rcases h5 with rfl | ⟨d, rfl⟩ <;> kernel_rfl
  have e2 : w2 (wL true st_true ds (sD n_between n_between) (dv (di k)) (dv (.nd .ow .lst mv_true_0))) [] = .nx (wL true st_true ds (sD n_between n_between) (dv (di k)) (dv (.nd .ow .lst mv_true_0))) [] := by kernel_rfl
  obtain ⟨j, hj, hm⟩ := wm_of (b := true) (S := st_true) (ds := ds) (s := sD n_between n_between) (k := k) (mv := mv_true_0) (n := 2) rfl (by decide)
  have hc : j = 0 ∨ j = 1 := by omega
  rcases hc with rfl | rfl
  · have e3 : w3 (wL true st_true ds (sD n_between n_between) (dv (di k)) (dv (.nd .ow .lst mv_true_0))) [] = .nx (wL true st_true ds (sD n_amid n_between) (dv (di k)) (dv (.nd .ow .lst mv_true_0))) [] := sSetOk (op_of (g := gIx) (op_of (g := gIx) rfl hm rfl) rfl rfl) rfl
    have e4 : w4 (wL true st_true ds (sD n_amid n_between) (dv (di k)) (dv (.nd .ow .lst mv_true_0))) [] = .nx (wL true st_true ds (sD n_amid n_between) (dv (di k)) (dv (.nd .ow .lst mv_true_0))) [] := by kernel_rfl
    exact ⟨sD n_amid n_between, (.tail _ (.head _)), (seq_of e1).trans ((seq_of e2).trans ((seq_of e3).trans e4))⟩
  · have e3 : w3 (wL true st_true ds (sD n_between n_between) (dv (di k)) (dv (.nd .ow .lst mv_true_0))) [] = .nx (wL true st_true ds (sD n_between n_amid) (dv (di k)) (dv (.nd .ow .lst mv_true_0))) [] := sSetOk (op_of (g := gIx) (op_of (g := gIx) rfl hm rfl) rfl rfl) rfl
    have e4 : w4 (wL true st_true ds (sD n_between n_amid) (dv (di k)) (dv (.nd .ow .lst mv_true_0))) [] = .nx (wL true st_true ds (sD n_between n_amid) (dv (di k)) (dv (.nd .ow .lst mv_true_0))) [] := by kernel_rfl
    exact ⟨sD n_between n_amid, (.tail _ (.tail _ (.head _))), (seq_of e1).trans ((seq_of e2).trans ((seq_of e3).trans e4))⟩
theorem sp_true_1 (ds : List Int) (k : Nat) {z5 : Option V} (h5 : okA1 z5) : ∃ s ∈ st_true, wB (wL true st_true ds (sD n_amid n_between) (dv (di k)) z5) [] = .nx (wL true st_true ds s (dv (di k)) (dv (.nd .ow .lst mv_true_1))) [] := by
  have e1 : w1 (wL true st_true ds (sD n_amid n_between) (dv (di k)) z5) [] = .nx (wL true st_true ds (sD n_amid n_between) (dv (di k)) (dv (.nd .ow .lst mv_true_1))) [] := by
    rcases h5 with rfl | ⟨d, rfl⟩ <;> kernel_rfl
  have e2 : w2 (wL true st_true ds (sD n_amid n_between) (dv (di k)) (dv (.nd .ow .lst mv_true_1))) [] = .nx (wL true st_true ds (sD n_amid n_between) (dv (di k)) (dv (.nd .ow .lst mv_true_1))) [] := by kernel_rfl
  obtain ⟨j, hj, hm⟩ := wm_of (b := true) (S := st_true) (ds := ds) (s := sD n_amid n_between) (k := k) (mv := mv_true_1) (n := 3) rfl (by decide)
  have hc : j = 0 ∨ j = 1 ∨ j = 2 := by omega
  rcases hc with rfl | rfl | rfl
  · have e3 : w3 (wL true st_true ds (sD n_amid n_between) (dv (di k)) (dv (.nd .ow .lst mv_true_1))) [] = .nx (wL true st_true ds (sD n_amid n_amid) (dv (di k)) (dv (.nd .ow .lst mv_true_1))) [] := sSetOk (op_of (g := gIx) (op_of (g := gIx) rfl hm rfl) rfl rfl) rfl
    have e4 : w4 (wL true st_true ds (sD n_amid n_amid) (dv (di k)) (dv (.nd .ow .lst mv_true_1))) [] = .nx (wL true st_true ds (sD n_amid n_amid) (dv (di k)) (dv (.nd .ow .lst mv_true_1))) [] := by kernel_rfl
    exact ⟨sD n_amid n_amid, (.tail _ (.tail _ (.tail _ (.head _)))), (seq_of e1).trans ((seq_of e2).trans ((seq_of e3).trans e4))⟩
  · have e3 : w3 (wL true st_true ds (sD n_amid n_between) (dv (di k)) (dv (.nd .ow .lst mv_true_1))) [] = .nx (wL true st_true ds (sD n_between n_between) (dv (di k)) (dv (.nd .ow .lst mv_true_1))) [] := sSetOk (op_of (g := gIx) (op_of (g := gIx) rfl hm rfl) rfl rfl) rfl
    have e4 : w4 (wL true st_true ds (sD n_between n_between) (dv (di k)) (dv (.nd .ow .lst mv_true_1))) [] = .nx (wL true st_true ds (sD n_between n_between) (dv (di k)) (dv (.nd .ow .lst mv_true_1))) [] := by kernel_rfl
    exact ⟨sD n_between n_between, (.head _), (seq_of e1).trans ((seq_of e2).trans ((seq_of e3).trans e4))⟩
  · have e3 : w3 (wL true st_true ds (sD n_amid n_between) (dv (di k)) (dv (.nd .ow .lst mv_true_1))) [] = .nx (wL true st_true ds (sD n_waiting n_between) (dv (di k)) (dv (.nd .ow .lst mv_true_1))) [] := sSetOk (op_of (g := gIx) (op_of (g := gIx) rfl hm rfl) rfl rfl) rfl
    have e4 : w4 (wL true st_true ds (sD n_waiting n_between) (dv (di k)) (dv (.nd .ow .lst mv_true_1))) [] = .nx (wL true st_true ds (sD n_waiting n_between) (dv (di k)) (dv (.nd .ow .lst mv_true_1))) [] := by kernel_rfl
    exact ⟨sD n_waiting n_between, (.tail _ (.tail _ (.tail _ (.tail _ (.head _))))), (seq_of e1).trans ((seq_of e2).trans ((seq_of e3).trans e4))⟩
theorem sp_true_2 (ds : List Int) (k : Nat) {z5 : Option V} (h5 : okA1 z5) : ∃ s ∈ st_true, wB (wL true st_true ds (sD n_between n_amid) (dv (di k)) z5) [] = .nx (wL true st_true ds s (dv (di k)) (dv (.nd .ow .lst mv_true_2))) [] := by
  have e1 : w1 (wL true st_true ds (sD n_between n_amid) (dv (di k)) z5) [] = .nx (wL true st_true ds (sD n_between n_amid) (dv (di k)) (dv (.nd .ow .lst mv_true_2))) [] := by
    rcases h5 with rfl | ⟨d, rfl⟩ <;> kernel_rfl
  have e2 : w2 (wL true st_true ds (sD n_between n_amid) (dv (di k)) (dv (.nd .ow .lst mv_true_2))) [] = .nx (wL true st_true ds (sD n_between n_amid) (dv (di k)) (dv (.nd .ow .lst mv_true_2))) [] := by kernel_rfl
  obtain ⟨j, hj, hm⟩ := wm_of (b := true) (S := st_true) (ds := ds) (s := sD n_between n_amid) (k := k) (mv := mv_true_2) (n := 3) rfl (by decide)
  have hc : j = 0 ∨ j = 1 ∨ j = 2 := by omega
  rcases hc with rfl | rfl | rfl
  · have e3 : w3 (wL true st_true ds (sD n_between n_amid) (dv (di k)) (dv (.nd .ow .lst mv_true_2))) [] = .nx (wL true st_true ds (sD n_amid n_amid) (dv (di k)) (dv (.nd .ow .lst mv_true_2))) [] := sSetOk (op_of (g := gIx) (op_of (g := gIx) rfl hm rfl) rfl rfl) rfl
    have e4 : w4 (wL true st_true ds (sD n_amid n_amid) (dv (di k)) (dv (.nd .ow .lst mv_true_2))) [] = .nx (wL true st_true ds (sD n_amid n_amid) (dv (di k)) (dv (.nd .ow .lst mv_true_2))) [] := by kernel_rfl
    exact ⟨sD n_amid n_amid, (.tail _ (.tail _ (.tail _ (.head _)))), (seq_of e1).trans ((seq_of e2).trans ((seq_of e3).trans e4))⟩
  · have e3 : w3 (wL true st_true ds (sD n_between n_amid) (dv (di k)) (dv (.nd .ow .lst mv_true_2))) [] = .nx (wL true st_true ds (sD n_between n_between) (dv (di k)) (dv (.nd .ow .lst mv_true_2))) [] := sSetOk (op_of (g := gIx) (op_of (g := gIx) rfl hm rfl) rfl rfl) rfl
    have e4 : w4 (wL true st_true ds (sD n_between n_between) (dv (di k)) (dv (.nd .ow .lst mv_true_2))) [] = .nx (wL true st_true ds (sD n_between n_between) (dv (di k)) (dv (.nd .ow .lst mv_true_2))) [] := by kernel_rfl
    exact ⟨sD n_between n_between, (.head _), (seq_of e1).trans ((seq_of e2).trans ((seq_of e3).trans e4))⟩
  · have e3 : w3 (wL true st_true ds (sD n_between n_amid) (dv (di k)) (dv (.nd .ow .lst mv_true_2))) [] = .nx (wL true st_true ds (sD n_between n_waiting) (dv (di k)) (dv (.nd .ow .lst mv_true_2))) [] := sSetOk (op_of (g := gIx) (op_of (g := gIx) rfl hm rfl) rfl rfl) rfl
    have e4 : w4 (wL true st_true ds (sD n_between n_waiting) (dv (di k)) (dv (.nd .ow .lst mv_true_2))) [] = .nx (wL true st_true ds (sD n_between n_waiting) (dv (di k)) (dv (.nd .ow .lst mv_true_2))) [] := by kernel_rfl
    exact ⟨sD n_between n_waiting, (.tail _ (.tail _ (.tail _ (.tail _ (.tail _ (.head _)))))), (seq_of e1).trans ((seq_of e2).trans ((seq_of e3).trans e4))⟩
theorem sp_true_3 (ds : List Int) (k : Nat) {z5 : Option V} (h5 : okA1 z5) : ∃ s ∈ st_true, wB (wL true st_true ds (sD n_amid n_amid) (dv (di k)) z5) [] = .nx (wL true st_true ds s (dv (di k)) (dv (.nd .ow .lst mv_true_3))) [] := by
  have e1 : w1 (wL true st_true ds (sD n_amid n_amid) (dv (di k)) z5) [] = .nx (wL true st_true ds (sD n_amid n_amid) (dv (di k)) (dv (.nd .ow .lst mv_true_3))) [] := by
    rcases h5 with rfl | ⟨d, rfl⟩ <;> kernel_rfl
  have e2 : w2 (wL true st_true ds (sD n_amid n_amid) (dv (di k)) (dv (.nd .ow .lst mv_true_3))) [] = .nx (wL true st_true ds (sD n_amid n_amid) (dv (di k)) (dv (.nd .ow .lst mv_true_3))) [] := by kernel_rfl
  obtain ⟨j, hj, hm⟩ := wm_of (b := true) (S := st_true) (ds := ds) (s := sD n_amid n_amid) (k := k) (mv := mv_true_3) (n := 4) rfl (by decide)
  have hc : j = 0 ∨ j = 1 ∨ j = 2 ∨ j = 3 := by omega
  rcases hc with rfl | rfl | rfl | rfl
  · have e3 : w3 (wL true st_true ds (sD n_amid n_amid) (dv (di k)) (dv (.nd .ow .lst mv_true_3))) [] = .nx (wL true st_true ds (sD n_between n_amid) (dv (di k)) (dv (.nd .ow .lst mv_true_3))) [] := sSetOk (op_of (g := gIx) (op_of (g := gIx) rfl hm rfl) rfl rfl) rfl
    have e4 : w4 (wL true st_true ds (sD n_between n_amid) (dv (di k)) (dv (.nd .ow .lst mv_true_3))) [] = .nx (wL true st_true ds (sD n_between n_amid) (dv (di k)) (dv (.nd .ow .lst mv_true_3))) [] := by kernel_rfl
    exact ⟨sD n_between n_amid, (.tail _ (.tail _ (.head _))), (seq_of e1).trans ((seq_of e2).trans ((seq_of e3).trans e4))⟩
  · have e3 : w3 (wL true st_true ds (sD n_amid n_amid) (dv (di k)) (dv (.nd .ow .lst mv_true_3))) [] = .nx (wL true st_true ds (sD n_amid n_between) (dv (di k)) (dv (.nd .ow .lst mv_true_3))) [] := sSetOk (op_of (g := gIx) (op_of (g := gIx) rfl hm rfl) rfl rfl) rfl
    have e4 : w4 (wL true st_true ds (sD n_amid n_between) (dv (di k)) (dv (.nd .ow .lst mv_true_3))) [] = .nx (wL true st_true ds (sD n_amid n_between) (dv (di k)) (dv (.nd .ow .lst mv_true_3))) [] := by kernel_rfl
    exact ⟨sD n_amid n_between, (.tail _ (.head _)), (seq_of e1).trans ((seq_of e2).trans ((seq_of e3).trans e4))⟩
  · have e3 : w3 (wL true st_true ds (sD n_amid n_amid) (dv (di k)) (dv (.nd .ow .lst mv_true_3))) [] = .nx (wL true st_true ds (sD n_waiting n_amid) (dv (di k)) (dv (.nd .ow .lst mv_true_3))) [] := sSetOk (op_of (g := gIx) (op_of (g := gIx) rfl hm rfl) rfl rfl) rfl
    have e4 : w4 (wL true st_true ds (sD n_waiting n_amid) (dv (di k)) (dv (.nd .ow .lst mv_true_3))) [] = .nx (wL true st_true ds (sD n_waiting n_amid) (dv (di k)) (dv (.nd .ow .lst mv_true_3))) [] := by kernel_rfl
    exact ⟨sD n_waiting n_amid, (.tail _ (.tail _ (.tail _ (.tail _ (.tail _ (.tail _ (.head _))))))), (seq_of e1).trans ((seq_of e2).trans ((seq_of e3).trans e4))⟩
  · have e3 : w3 (wL true st_true ds (sD n_amid n_amid) (dv (di k)) (dv (.nd .ow .lst mv_true_3))) [] = .nx (wL true st_true ds (sD n_amid n_waiting) (dv (di k)) (dv (.nd .ow .lst mv_true_3))) [] := sSetOk (op_of (g := gIx) (op_of (g := gIx) rfl hm rfl) rfl rfl) rfl
    have e4 : w4 (wL true st_true ds (sD n_amid n_waiting) (dv (di k)) (dv (.nd .ow .lst mv_true_3))) [] = .nx (wL true st_true ds (sD n_amid n_waiting) (dv (di k)) (dv (.nd .ow .lst mv_true_3))) [] := by kernel_rfl
    exact ⟨sD n_amid n_waiting, (.tail _ (.tail _ (.tail _ (.tail _ (.tail _ (.tail _ (.tail _ (.head _)))))))), (seq_of e1).trans ((seq_of e2).trans ((seq_of e3).trans e4))⟩
theorem sp_true_4 (ds : List Int) (k : Nat) {z5 : Option V} (h5 : okA1 z5) : ∃ s ∈ st_true, wB (wL true st_true ds (sD n_waiting n_between) (dv (di k)) z5) [] = .nx (wL true st_true ds s (dv (di k)) (dv (.nd .ow .lst mv_true_4))) [] := by
  have e1 : w1 (wL true st_true ds (sD n_waiting n_between) (dv (di k)) z5) [] = .nx (wL true st_true ds (sD n_waiting n_between) (dv (di k)) (dv (.nd .ow .lst mv_true_4))) [] := by
    rcases h5 with rfl | ⟨d, rfl⟩ <;> kernel_rfl
  have e2 : w2 (wL true st_true ds (sD n_waiting n_between) (dv (di k)) (dv (.nd .ow .lst mv_true_4))) [] = .nx (wL true st_true ds (sD n_waiting n_between) (dv (di k)) (dv (.nd .ow .lst mv_true_4))) [] := by kernel_rfl
  obtain ⟨j, hj, hm⟩ := wm_of (b := true) (S := st_true) (ds := ds) (s := sD n_waiting n_between) (k := k) (mv := mv_true_4) (n := 2) rfl (by decide)
  have hc : j = 0 ∨ j = 1 := by omega
  rcases hc with rfl | rfl
  · have e3 : w3 (wL true st_true ds (sD n_waiting n_between) (dv (di k)) (dv (.nd .ow .lst mv_true_4))) [] = .nx (wL true st_true ds (sD n_waiting n_amid) (dv (di k)) (dv (.nd .ow .lst mv_true_4))) [] := sSetOk (op_of (g := gIx) (op_of (g := gIx) rfl hm rfl) rfl rfl) rfl
    have e4 : w4 (wL true st_true ds (sD n_waiting n_amid) (dv (di k)) (dv (.nd .ow .lst mv_true_4))) [] = .nx (wL true st_true ds (sD n_waiting n_amid) (dv (di k)) (dv (.nd .ow .lst mv_true_4))) [] := by kernel_rfl
    exact ⟨sD n_waiting n_amid, (.tail _ (.tail _ (.tail _ (.tail _ (.tail _ (.tail _ (.head _))))))), (seq_of e1).trans ((seq_of e2).trans ((seq_of e3).trans e4))⟩
  · have e3 : w3 (wL true st_true ds (sD n_waiting n_between) (dv (di k)) (dv (.nd .ow .lst mv_true_4))) [] = .nx (wL true st_true ds (sD n_between n_between) (dv (di k)) (dv (.nd .ow .lst mv_true_4))) [] := sSetOk (op_of (g := gIx) (op_of (g := gIx) rfl hm rfl) rfl rfl) rfl
    have e4 : w4 (wL true st_true ds (sD n_between n_between) (dv (di k)) (dv (.nd .ow .lst mv_true_4))) [] = .nx (wL true st_true ds (sD n_between n_between) (dv (di k)) (dv (.nd .ow .lst mv_true_4))) [] := by kernel_rfl
    exact ⟨sD n_between n_between, (.head _), (seq_of e1).trans ((seq_of e2).trans ((seq_of e3).trans e4))⟩
theorem sp_true_5 (ds : List Int) (k : Nat) {z5 : Option V} (h5 : okA1 z5) : ∃ s ∈ st_true, wB (wL true st_true ds (sD n_between n_waiting) (dv (di k)) z5) [] = .nx (wL true st_true ds s (dv (di k)) (dv (.nd .ow .lst mv_true_5))) [] := by
  have e1 : w1 (wL true st_true ds (sD n_between n_waiting) (dv (di k)) z5) [] = .nx (wL true st_true ds (sD n_between n_waiting) (dv (di k)) (dv (.nd .ow .lst mv_true_5))) [] := by
    rcases h5 with rfl | ⟨d, rfl⟩ <;> kernel_rfl
  have e2 : w2 (wL true st_true ds (sD n_between n_waiting) (dv (di k)) (dv (.nd .ow .lst mv_true_5))) [] = .nx (wL true st_true ds (sD n_between n_waiting) (dv (di k)) (dv (.nd .ow .lst mv_true_5))) [] := by kernel_rfl
  obtain ⟨j, hj, hm⟩ := wm_of (b := true) (S := st_true) (ds := ds) (s := sD n_between n_waiting) (k := k) (mv := mv_true_5) (n := 2) rfl (by decide)
  have hc : j = 0 ∨ j = 1 := by omega
  rcases hc with rfl | rfl
  · have e3 : w3 (wL true st_true ds (sD n_between n_waiting) (dv (di k)) (dv (.nd .ow .lst mv_true_5))) [] = .nx (wL true st_true ds (sD n_amid n_waiting) (dv (di k)) (dv (.nd .ow .lst mv_true_5))) [] := sSetOk (op_of (g := gIx) (op_of (g := gIx) rfl hm rfl) rfl rfl) rfl
    have e4 : w4 (wL true st_true ds (sD n_amid n_waiting) (dv (di k)) (dv (.nd .ow .lst mv_true_5))) [] = .nx (wL true st_true ds (sD n_amid n_waiting) (dv (di k)) (dv (.nd .ow .lst mv_true_5))) [] := by kernel_rfl
    exact ⟨sD n_amid n_waiting, (.tail _ (.tail _ (.tail _ (.tail _ (.tail _ (.tail _ (.tail _ (.head _)))))))), (seq_of e1).trans ((seq_of e2).trans ((seq_of e3).trans e4))⟩
  · have e3 : w3 (wL true st_true ds (sD n_between n_waiting) (dv (di k)) (dv (.nd .ow .lst mv_true_5))) [] = .nx (wL true st_true ds (sD n_between n_between) (dv (di k)) (dv (.nd .ow .lst mv_true_5))) [] := sSetOk (op_of (g := gIx) (op_of (g := gIx) rfl hm rfl) rfl rfl) rfl
    have e4 : w4 (wL true st_true ds (sD n_between n_between) (dv (di k)) (dv (.nd .ow .lst mv_true_5))) [] = .nx (wL true st_true ds (sD n_between n_between) (dv (di k)) (dv (.nd .ow .lst mv_true_5))) [] := by kernel_rfl
    exact ⟨sD n_between n_between, (.head _), (seq_of e1).trans ((seq_of e2).trans ((seq_of e3).trans e4))⟩
theorem sp_true_6 (ds : List Int) (k : Nat) {z5 : Option V} (h5 : okA1 z5) : ∃ s ∈ st_true, wB (wL true st_true ds (sD n_waiting n_amid) (dv (di k)) z5) [] = .nx (wL true st_true ds s (dv (di k)) (dv (.nd .ow .lst mv_true_6))) [] := by
  have e1 : w1 (wL true st_true ds (sD n_waiting n_amid) (dv (di k)) z5) [] = .nx (wL true st_true ds (sD n_waiting n_amid) (dv (di k)) (dv (.nd .ow .lst mv_true_6))) [] := by
    rcases h5 with rfl | ⟨d, rfl⟩ <;> kernel_rfl
  have e2 : w2 (wL true st_true ds (sD n_waiting n_amid) (dv (di k)) (dv (.nd .ow .lst mv_true_6))) [] = .nx (wL true st_true ds (sD n_waiting n_amid) (dv (di k)) (dv (.nd .ow .lst mv_true_6))) [] := by kernel_rfl
  obtain ⟨j, hj, hm⟩ := wm_of (b := true) (S := st_true) (ds := ds) (s := sD n_waiting n_amid) (k := k) (mv := mv_true_6) (n := 2) rfl (by decide)
  have hc : j = 0 ∨ j = 1 := by omega
  rcases hc with rfl | rfl
  · have e3 : w3 (wL true st_true ds (sD n_waiting n_amid) (dv (di k)) (dv (.nd .ow .lst mv_true_6))) [] = .nx (wL true st_true ds (sD n_waiting n_between) (dv (di k)) (dv (.nd .ow .lst mv_true_6))) [] := sSetOk (op_of (g := gIx) (op_of (g := gIx) rfl hm rfl) rfl rfl) rfl
    have e4 : w4 (wL true st_true ds (sD n_waiting n_between) (dv (di k)) (dv (.nd .ow .lst mv_true_6))) [] = .nx (wL true st_true ds (sD n_waiting n_between) (dv (di k)) (dv (.nd .ow .lst mv_true_6))) [] := by kernel_rfl
    exact ⟨sD n_waiting n_between, (.tail _ (.tail _ (.tail _ (.tail _ (.head _))))), (seq_of e1).trans ((seq_of e2).trans ((seq_of e3).trans e4))⟩
  · have e3 : w3 (wL true st_true ds (sD n_waiting n_amid) (dv (di k)) (dv (.nd .ow .lst mv_true_6))) [] = .nx (wL true st_true ds (sD n_waiting n_waiting) (dv (di k)) (dv (.nd .ow .lst mv_true_6))) [] := sSetOk (op_of (g := gIx) (op_of (g := gIx) rfl hm rfl) rfl rfl) rfl
    have e4 : w4 (wL true st_true ds (sD n_waiting n_waiting) (dv (di k)) (dv (.nd .ow .lst mv_true_6))) [] = .nx (wL true st_true ds (sD n_waiting n_waiting) (dv (di k)) (dv (.nd .ow .lst mv_true_6))) [] := by kernel_rfl
    exact ⟨sD n_waiting n_waiting, (.tail _ (.tail _ (.tail _ (.tail _ (.tail _ (.tail _ (.tail _ (.tail _ (.head _))))))))), (seq_of e1).trans ((seq_of e2).trans ((seq_of e3).trans e4))⟩
theorem sp_true_7 (ds : List Int) (k : Nat) {z5 : Option V} (h5 : okA1 z5) : ∃ s ∈ st_true, wB (wL true st_true ds (sD n_amid n_waiting) (dv (di k)) z5) [] = .nx (wL true st_true ds s (dv (di k)) (dv (.nd .ow .lst mv_true_7))) [] := by
  have e1 : w1 (wL true st_true ds (sD n_amid n_waiting) (dv (di k)) z5) [] = .nx (wL true st_true ds (sD n_amid n_waiting) (dv (di k)) (dv (.nd .ow .lst mv_true_7))) [] := by
    rcases h5 with rfl | ⟨d, rfl⟩ <;> kernel_rfl
  have e2 : w2 (wL true st_true ds (sD n_amid n_waiting) (dv (di k)) (dv (.nd .ow .lst mv_true_7))) [] = .nx (wL true st_true ds (sD n_amid n_waiting) (dv (di k)) (dv (.nd .ow .lst mv_true_7))) [] := by kernel_rfl
  obtain ⟨j, hj, hm⟩ := wm_of (b := true) (S := st_true) (ds := ds) (s := sD n_amid n_waiting) (k := k) (mv := mv_true_7) (n := 2) rfl (by decide)
  have hc : j = 0 ∨ j = 1 := by omega
  rcases hc with rfl | rfl
  · have e3 : w3 (wL true st_true ds (sD n_amid n_waiting) (dv (di k)) (dv (.nd .ow .lst mv_true_7))) [] = .nx (wL true st_true ds (sD n_between n_waiting) (dv (di k)) (dv (.nd .ow .lst mv_true_7))) [] := sSetOk (op_of (g := gIx) (op_of (g := gIx) rfl hm rfl) rfl rfl) rfl
    have e4 : w4 (wL true st_true ds (sD n_between n_waiting) (dv (di k)) (dv (.nd .ow .lst mv_true_7))) [] = .nx (wL true st_true ds (sD n_between n_waiting) (dv (di k)) (dv (.nd .ow .lst mv_true_7))) [] := by kernel_rfl
    exact ⟨sD n_between n_waiting, (.tail _ (.tail _ (.tail _ (.tail _ (.tail _ (.head _)))))), (seq_of e1).trans ((seq_of e2).trans ((seq_of e3).trans e4))⟩
  · have e3 : w3 (wL true st_true ds (sD n_amid n_waiting) (dv (di k)) (dv (.nd .ow .lst mv_true_7))) [] = .nx (wL true st_true ds (sD n_waiting n_waiting) (dv (di k)) (dv (.nd .ow .lst mv_true_7))) [] := sSetOk (op_of (g := gIx) (op_of (g := gIx) rfl hm rfl) rfl rfl) rfl
    have e4 : w4 (wL true st_true ds (sD n_waiting n_waiting) (dv (di k)) (dv (.nd .ow .lst mv_true_7))) [] = .nx (wL true st_true ds (sD n_waiting n_waiting) (dv (di k)) (dv (.nd .ow .lst mv_true_7))) [] := by kernel_rfl
    exact ⟨sD n_waiting n_waiting, (.tail _ (.tail _ (.tail _ (.tail _ (.tail _ (.tail _ (.tail _ (.tail _ (.head _))))))))), (seq_of e1).trans ((seq_of e2).trans ((seq_of e3).trans e4))⟩
theorem sp_true_8 (ds : List Int) (k : Nat) {z5 : Option V} (h5 : okA1 z5) : ∃ s ∈ st_true, wB (wL true st_true ds (sD n_waiting n_waiting) (dv (di k)) z5) [] = .nx (wL true st_true ds s (dv (di k)) (dv (.nd .ow .lst mv_true_8))) [] := by
  have e1 : w1 (wL true st_true ds (sD n_waiting n_waiting) (dv (di k)) z5) [] = .nx (wL true st_true ds (sD n_waiting n_waiting) (dv (di k)) (dv (.nd .ow .lst mv_true_8))) [] := by
    rcases h5 with rfl | ⟨d, rfl⟩ <;> kernel_rfl
  have e2 : w2 (wL true st_true ds (sD n_waiting n_waiting) (dv (di k)) (dv (.nd .ow .lst mv_true_8))) [] = .nx (wL true st_true ds (sD n_waiting n_waiting) (dv (di k)) (dv (.nd .ow .lst mv_true_8))) [] := by kernel_rfl
  obtain ⟨j, hj, hm⟩ := wm_of (b := true) (S := st_true) (ds := ds) (s := sD n_waiting n_waiting) (k := k) (mv := mv_true_8) (n := 2) rfl (by decide)
  have hc : j = 0 ∨ j = 1 := by omega
  rcases hc with rfl | rfl
  · have e3 : w3 (wL true st_true ds (sD n_waiting n_waiting) (dv (di k)) (dv (.nd .ow .lst mv_true_8))) [] = .nx (wL true st_true ds (sD n_between n_waiting) (dv (di k)) (dv (.nd .ow .lst mv_true_8))) [] := sSetOk (op_of (g := gIx) (op_of (g := gIx) rfl hm rfl) rfl rfl) rfl
    have e4 : w4 (wL true st_true ds (sD n_between n_waiting) (dv (di k)) (dv (.nd .ow .lst mv_true_8))) [] = .nx (wL true st_true ds (sD n_between n_waiting) (dv (di k)) (dv (.nd .ow .lst mv_true_8))) [] := by kernel_rfl
    exact ⟨sD n_between n_waiting, (.tail _ (.tail _ (.tail _ (.tail _ (.tail _ (.head _)))))), (seq_of e1).trans ((seq_of e2).trans ((seq_of e3).trans e4))⟩
  · have e3 : w3 (wL true st_true ds (sD n_waiting n_waiting) (dv (di k)) (dv (.nd .ow .lst mv_true_8))) [] = .nx (wL true st_true ds (sD n_waiting n_between) (dv (di k)) (dv (.nd .ow .lst mv_true_8))) [] := sSetOk (op_of (g := gIx) (op_of (g := gIx) rfl hm rfl) rfl rfl) rfl
    have e4 : w4 (wL true st_true ds (sD n_waiting n_between) (dv (di k)) (dv (.nd .ow .lst mv_true_8))) [] = .nx (wL true st_true ds (sD n_waiting n_between) (dv (di k)) (dv (.nd .ow .lst mv_true_8))) [] := by kernel_rfl
    exact ⟨sD n_waiting n_between, (.tail _ (.tail _ (.tail _ (.tail _ (.head _))))), (seq_of e1).trans ((seq_of e2).trans ((seq_of e3).trans e4))⟩
theorem sp_false_0 (ds : List Int) (k : Nat) {z5 : Option V} (h5 : okA1 z5) : ∃ s ∈ st_false, wB (wL false st_false ds (sD n_between n_between) (dv (di k)) z5) [] = .nx (wL false st_false ds s (dv (di k)) (dv (.nd .ow .lst mv_false_0))) [] := by
  have e1 : w1 (wL false st_false ds (sD n_between n_between) (dv (di k)) z5) [] = .nx (wL false st_false ds (sD n_between n_between) (dv (di k)) (dv (.nd .ow .lst mv_false_0))) [] := by
    rcases h5 with rfl | ⟨d, rfl⟩ <;> kernel_rfl
  have e2 : w2 (wL false st_false ds (sD n_between n_between) (dv (di k)) (dv (.nd .ow .lst mv_false_0))) [] = .nx (wL false st_false ds (sD n_between n_between) (dv (di k)) (dv (.nd .ow .lst mv_false_0))) [] := by kernel_rfl
  obtain ⟨j, hj, hm⟩ := wm_of (b := false) (S := st_false) (ds := ds) (s := sD n_between n_between) (k := k) (mv := mv_false_0) (n := 2) rfl (by decide)
  have hc : j = 0 ∨ j = 1 := by omega
  rcases hc with rfl | rfl
  · have e3 : w3 (wL false st_false ds (sD n_between n_between) (dv (di k)) (dv (.nd .ow .lst mv_false_0))) [] = .nx (wL false st_false ds (sD n_amid n_between) (dv (di k)) (dv (.nd .ow .lst mv_false_0))) [] := sSetOk (op_of (g := gIx) (op_of (g := gIx) rfl hm rfl) rfl rfl) rfl
    have e4 : w4 (wL false st_false ds (sD n_amid n_between) (dv (di k)) (dv (.nd .ow .lst mv_false_0))) [] = .nx (wL false st_false ds (sD n_amid n_between) (dv (di k)) (dv (.nd .ow .lst mv_false_0))) [] := by kernel_rfl
    exact ⟨sD n_amid n_between, (.tail _ (.head _)), (seq_of e1).trans ((seq_of e2).trans ((seq_of e3).trans e4))⟩
  · have e3 : w3 (wL false st_false ds (sD n_between n_between) (dv (di k)) (dv (.nd .ow .lst mv_false_0))) [] = .nx (wL false st_false ds (sD n_between n_amid) (dv (di k)) (dv (.nd .ow .lst mv_false_0))) [] := sSetOk (op_of (g := gIx) (op_of (g := gIx) rfl hm rfl) rfl rfl) rfl
    have e4 : w4 (wL false st_false ds (sD n_between n_amid) (dv (di k)) (dv (.nd .ow .lst mv_false_0))) [] = .nx (wL false st_false ds (sD n_between n_amid) (dv (di k)) (dv (.nd .ow .lst mv_false_0))) [] := by kernel_rfl
    exact ⟨sD n_between n_amid, (.tail _ (.tail _ (.head _))), (seq_of e1).trans ((seq_of e2).trans ((seq_of e3).trans e4))⟩
theorem sp_false_1 (ds : List Int) (k : Nat) {z5 : Option V} (h5 : okA1 z5) : ∃ s ∈ st_false, wB (wL false st_false ds (sD n_amid n_between) (dv (di k)) z5) [] = .nx (wL false st_false ds s (dv (di k)) (dv (.nd .ow .lst mv_false_1))) [] := by
  have e1 : w1 (wL false st_false ds (sD n_amid n_between) (dv (di k)) z5) [] = .nx (wL false st_false ds (sD n_amid n_between) (dv (di k)) (dv (.nd .ow .lst mv_false_1))) [] := by
    rcases h5 with rfl | ⟨d, rfl⟩ <;> kernel_rfl
  have e2 : w2 (wL false st_false ds (sD n_amid n_between) (dv (di k)) (dv (.nd .ow .lst mv_false_1))) [] = .nx (wL false st_false ds (sD n_amid n_between) (dv (di k)) (dv (.nd .ow .lst mv_false_1))) [] := by kernel_rfl
  obtain ⟨j, hj, hm⟩ := wm_of (b := false) (S := st_false) (ds := ds) (s := sD n_amid n_between) (k := k) (mv := mv_false_1) (n := 3) rfl (by decide)
  have hc : j = 0 ∨ j = 1 ∨ j = 2 := by omega
  rcases hc with rfl | rfl | rfl
  · have e3 : w3 (wL false st_false ds (sD n_amid n_between) (dv (di k)) (dv (.nd .ow .lst mv_false_1))) [] = .nx (wL false st_false ds (sD n_amid n_amid) (dv (di k)) (dv (.nd .ow .lst mv_false_1))) [] := sSetOk (op_of (g := gIx) (op_of (g := gIx) rfl hm rfl) rfl rfl) rfl
    have e4 : w4 (wL false st_false ds (sD n_amid n_amid) (dv (di k)) (dv (.nd .ow .lst mv_false_1))) [] = .nx (wL false st_false ds (sD n_amid n_amid) (dv (di k)) (dv (.nd .ow .lst mv_false_1))) [] := by kernel_rfl
    exact ⟨sD n_amid n_amid, (.tail _ (.tail _ (.tail _ (.head _)))), (seq_of e1).trans ((seq_of e2).trans ((seq_of e3).trans e4))⟩
  · have e3 : w3 (wL false st_false ds (sD n_amid n_between) (dv (di k)) (dv (.nd .ow .lst mv_false_1))) [] = .nx (wL false st_false ds (sD n_between n_between) (dv (di k)) (dv (.nd .ow .lst mv_false_1))) [] := sSetOk (op_of (g := gIx) (op_of (g := gIx) rfl hm rfl) rfl rfl) rfl
    have e4 : w4 (wL false st_false ds (sD n_between n_between) (dv (di k)) (dv (.nd .ow .lst mv_false_1))) [] = .nx (wL false st_false ds (sD n_between n_between) (dv (di k)) (dv (.nd .ow .lst mv_false_1))) [] := by kernel_rfl
    exact ⟨sD n_between n_between, (.head _), (seq_of e1).trans ((seq_of e2).trans ((seq_of e3).trans e4))⟩
  · have e3 : w3 (wL false st_false ds (sD n_amid n_between) (dv (di k)) (dv (.nd .ow .lst mv_false_1))) [] = .nx (wL false st_false ds (sD n_waiting n_between) (dv (di k)) (dv (.nd .ow .lst mv_false_1))) [] := sSetOk (op_of (g := gIx) (op_of (g := gIx) rfl hm rfl) rfl rfl) rfl
    have e4 : w4 (wL false st_false ds (sD n_waiting n_between) (dv (di k)) (dv (.nd .ow .lst mv_false_1))) [] = .nx (wL false st_false ds (sD n_waiting n_between) (dv (di k)) (dv (.nd .ow .lst mv_false_1))) [] := by kernel_rfl
    exact ⟨sD n_waiting n_between, (.tail _ (.tail _ (.tail _ (.tail _ (.head _))))), (seq_of e1).trans ((seq_of e2).trans ((seq_of e3).trans e4))⟩
theorem sp_false_2 (ds : List Int) (k : Nat) {z5 : Option V} (h5 : okA1 z5) : ∃ s ∈ st_false, wB (wL false st_false ds (sD n_between n_amid) (dv (di k)) z5) [] = .nx (wL false st_false ds s (dv (di k)) (dv (.nd .ow .lst mv_false_2))) [] := by
  have e1 : w1 (wL false st_false ds (sD n_between n_amid) (dv (di k)) z5) [] = .nx (wL false st_false ds (sD n_between n_amid) (dv (di k)) (dv (.nd .ow .lst mv_false_2))) [] := by
    rcases h5 with rfl | ⟨d, rfl⟩ <;> kernel_rfl
  have e2 : w2 (wL false st_false ds (sD n_between n_amid) (dv (di k)) (dv (.nd .ow .lst mv_false_2))) [] = .nx (wL false st_false ds (sD n_between n_amid) (dv (di k)) (dv (.nd .ow .lst mv_false_2))) [] := by kernel_rfl
  obtain ⟨j, hj, hm⟩ := wm_of (b := false) (S := st_false) (ds := ds) (s := sD n_between n_amid) (k := k) (mv := mv_false_2) (n := 3) rfl (by decide)
  have hc : j = 0 ∨ j = 1 ∨ j = 2 := by omega
  rcases hc with rfl | rfl | rfl
  · have e3 : w3 (wL false st_false ds (sD n_between n_amid) (dv (di k)) (dv (.nd .ow .lst mv_false_2))) [] = .nx (wL false st_false ds (sD n_amid n_amid) (dv (di k)) (dv (.nd .ow .lst mv_false_2))) [] := sSetOk (op_of (g := gIx) (op_of (g := gIx) rfl hm rfl) rfl rfl) rfl
    have e4 : w4 (wL false st_false ds (sD n_amid n_amid) (dv (di k)) (dv (.nd .ow .lst mv_false_2))) [] = .nx (wL false st_false ds (sD n_amid n_amid) (dv (di k)) (dv (.nd .ow .lst mv_false_2))) [] := by kernel_rfl
    exact ⟨sD n_amid n_amid, (.tail _ (.tail _ (.tail _ (.head _)))), (seq_of e1).trans ((seq_of e2).trans ((seq_of e3).trans e4))⟩
  · have e3 : w3 (wL false st_false ds (sD n_between n_amid) (dv (di k)) (dv (.nd .ow .lst mv_false_2))) [] = .nx (wL false st_false ds (sD n_between n_between) (dv (di k)) (dv (.nd .ow .lst mv_false_2))) [] := sSetOk (op_of (g := gIx) (op_of (g := gIx) rfl hm rfl) rfl rfl) rfl
    have e4 : w4 (wL false st_false ds (sD n_between n_between) (dv (di k)) (dv (.nd .ow .lst mv_false_2))) [] = .nx (wL false st_false ds (sD n_between n_between) (dv (di k)) (dv (.nd .ow .lst mv_false_2))) [] := by kernel_rfl
    exact ⟨sD n_between n_between, (.head _), (seq_of e1).trans ((seq_of e2).trans ((seq_of e3).trans e4))⟩
  · have e3 : w3 (wL false st_false ds (sD n_between n_amid) (dv (di k)) (dv (.nd .ow .lst mv_false_2))) [] = .nx (wL false st_false ds (sD n_between n_waiting) (dv (di k)) (dv (.nd .ow .lst mv_false_2))) [] := sSetOk (op_of (g := gIx) (op_of (g := gIx) rfl hm rfl) rfl rfl) rfl
    have e4 : w4 (wL false st_false ds (sD n_between n_waiting) (dv (di k)) (dv (.nd .ow .lst mv_false_2))) [] = .nx (wL false st_false ds (sD n_between n_waiting) (dv (di k)) (dv (.nd .ow .lst mv_false_2))) [] := by kernel_rfl
    exact ⟨sD n_between n_waiting, (.tail _ (.tail _ (.tail _ (.tail _ (.tail _ (.head _)))))), (seq_of e1).trans ((seq_of e2).trans ((seq_of e3).trans e4))⟩
theorem sp_false_3 (ds : List Int) (k : Nat) {z5 : Option V} (h5 : okA1 z5) : ∃ s ∈ st_false, wB (wL false st_false ds (sD n_amid n_amid) (dv (di k)) z5) [] = .nx (wL false st_false ds s (dv (di k)) (dv (.nd .ow .lst mv_false_3))) [] := by
  have e1 : w1 (wL false st_false ds (sD n_amid n_amid) (dv (di k)) z5) [] = .nx (wL false st_false ds (sD n_amid n_amid) (dv (di k)) (dv (.nd .ow .lst mv_false_3))) [] := by
    rcases h5 with rfl | ⟨d, rfl⟩ <;> kernel_rfl
  have e2 : w2 (wL false st_false ds (sD n_amid n_amid) (dv (di k)) (dv (.nd .ow .lst mv_false_3))) [] = .nx (wL false st_false ds (sD n_amid n_amid) (dv (di k)) (dv (.nd .ow .lst mv_false_3))) [] := by kernel_rfl
  obtain ⟨j, hj, hm⟩ := wm_of (b := false) (S := st_false) (ds := ds) (s := sD n_amid n_amid) (k := k) (mv := mv_false_3) (n := 4) rfl (by decide)
  have hc : j = 0 ∨ j = 1 ∨ j = 2 ∨ j = 3 := by omega
  rcases hc with rfl | rfl | rfl | rfl
  · have e3 : w3 (wL false st_false ds (sD n_amid n_amid) (dv (di k)) (dv (.nd .ow .lst mv_false_3))) [] = .nx (wL false st_false ds (sD n_between n_amid) (dv (di k)) (dv (.nd .ow .lst mv_false_3))) [] := sSetOk (op_of (g := gIx) (op_of (g := gIx) rfl hm rfl) rfl rfl) rfl
    have e4 : w4 (wL false st_false ds (sD n_between n_amid) (dv (di k)) (dv (.nd .ow .lst mv_false_3))) [] = .nx (wL false st_false ds (sD n_between n_amid) (dv (di k)) (dv (.nd .ow .lst mv_false_3))) [] := by kernel_rfl
    exact ⟨sD n_between n_amid, (.tail _ (.tail _ (.head _))), (seq_of e1).trans ((seq_of e2).trans ((seq_of e3).trans e4))⟩
  · have e3 : w3 (wL false st_false ds (sD n_amid n_amid) (dv (di k)) (dv (.nd .ow .lst mv_false_3))) [] = .nx (wL false st_false ds (sD n_amid n_between) (dv (di k)) (dv (.nd .ow .lst mv_false_3))) [] := sSetOk (op_of (g := gIx) (op_of (g := gIx) rfl hm rfl) rfl rfl) rfl
    have e4 : w4 (wL false st_false ds (sD n_amid n_between) (dv (di k)) (dv (.nd .ow .lst mv_false_3))) [] = .nx (wL false st_false ds (sD n_amid n_between) (dv (di k)) (dv (.nd .ow .lst mv_false_3))) [] := by kernel_rfl
    exact ⟨sD n_amid n_between, (.tail _ (.head _)), (seq_of e1).trans ((seq_of e2).trans ((seq_of e3).trans e4))⟩
  · have e3 : w3 (wL false st_false ds (sD n_amid n_amid) (dv (di k)) (dv (.nd .ow .lst mv_false_3))) [] = .nx (wL false st_false ds (sD n_waiting n_amid) (dv (di k)) (dv (.nd .ow .lst mv_false_3))) [] := sSetOk (op_of (g := gIx) (op_of (g := gIx) rfl hm rfl) rfl rfl) rfl
    have e4 : w4 (wL false st_false ds (sD n_waiting n_amid) (dv (di k)) (dv (.nd .ow .lst mv_false_3))) [] = .nx (wL false st_false ds (sD n_waiting n_amid) (dv (di k)) (dv (.nd .ow .lst mv_false_3))) [] := by kernel_rfl
    exact ⟨sD n_waiting n_amid, (.tail _ (.tail _ (.tail _ (.tail _ (.tail _ (.tail _ (.head _))))))), (seq_of e1).trans ((seq_of e2).trans ((seq_of e3).trans e4))⟩
  · have e3 : w3 (wL false st_false ds (sD n_amid n_amid) (dv (di k)) (dv (.nd .ow .lst mv_false_3))) [] = .nx (wL false st_false ds (sD n_amid n_waiting) (dv (di k)) (dv (.nd .ow .lst mv_false_3))) [] := sSetOk (op_of (g := gIx) (op_of (g := gIx) rfl hm rfl) rfl rfl) rfl
    have e4 : w4 (wL false st_false ds (sD n_amid n_waiting) (dv (di k)) (dv (.nd .ow .lst mv_false_3))) [] = .nx (wL false st_false ds (sD n_amid n_waiting) (dv (di k)) (dv (.nd .ow .lst mv_false_3))) [] := by kernel_rfl
    exact ⟨sD n_amid n_waiting, (.tail _ (.tail _ (.tail _ (.tail _ (.tail _ (.tail _ (.tail _ (.head _)))))))), (seq_of e1).trans ((seq_of e2).trans ((seq_of e3).trans e4))⟩
theorem sp_false_4 (ds : List Int) (k : Nat) {z5 : Option V} (h5 : okA1 z5) : ∃ s ∈ st_false, wB (wL false st_false ds (sD n_waiting n_between) (dv (di k)) z5) [] = .nx (wL false st_false ds s (dv (di k)) (dv (.nd .ow .lst mv_false_4))) [] := by
  have e1 : w1 (wL false st_false ds (sD n_waiting n_between) (dv (di k)) z5) [] = .nx (wL false st_false ds (sD n_waiting n_between) (dv (di k)) (dv (.nd .ow .lst mv_false_4))) [] := by
    rcases h5 with rfl | ⟨d, rfl⟩ <;> kernel_rfl
  have e2 : w2 (wL false st_false ds (sD n_waiting n_between) (dv (di k)) (dv (.nd .ow .lst mv_false_4))) [] = .nx (wL false st_false ds (sD n_waiting n_between) (dv (di k)) (dv (.nd .ow .lst mv_false_4))) [] := by kernel_rfl
  obtain ⟨j, hj, hm⟩ := wm_of (b := false) (S := st_false) (ds := ds) (s := sD n_waiting n_between) (k := k) (mv := mv_false_4) (n := 2) rfl (by decide)
  have hc : j = 0 ∨ j = 1 := by omega
  rcases hc with rfl | rfl
  · have e3 : w3 (wL false st_false ds (sD n_waiting n_between) (dv (di k)) (dv (.nd .ow .lst mv_false_4))) [] = .nx (wL false st_false ds (sD n_waiting n_amid) (dv (di k)) (dv (.nd .ow .lst mv_false_4))) [] := sSetOk (op_of (g := gIx) (op_of (g := gIx) rfl hm rfl) rfl rfl) rfl
    have e4 : w4 (wL false st_false ds (sD n_waiting n_amid) (dv (di k)) (dv (.nd .ow .lst mv_false_4))) [] = .nx (wL false st_false ds (sD n_waiting n_amid) (dv (di k)) (dv (.nd .ow .lst mv_false_4))) [] := by kernel_rfl
    exact ⟨sD n_waiting n_amid, (.tail _ (.tail _ (.tail _ (.tail _ (.tail _ (.tail _ (.head _))))))), (seq_of e1).trans ((seq_of e2).trans ((seq_of e3).trans e4))⟩
  · have e3 : w3 (wL false st_false ds (sD n_waiting n_between) (dv (di k)) (dv (.nd .ow .lst mv_false_4))) [] = .nx (wL false st_false ds (sD n_between n_between) (dv (di k)) (dv (.nd .ow .lst mv_false_4))) [] := sSetOk (op_of (g := gIx) (op_of (g := gIx) rfl hm rfl) rfl rfl) rfl
    have e4 : w4 (wL false st_false ds (sD n_between n_between) (dv (di k)) (dv (.nd .ow .lst mv_false_4))) [] = .nx (wL false st_false ds (sD n_between n_between) (dv (di k)) (dv (.nd .ow .lst mv_false_4))) [] := by kernel_rfl
    exact ⟨sD n_between n_between, (.head _), (seq_of e1).trans ((seq_of e2).trans ((seq_of e3).trans e4))⟩
theorem sp_false_5 (ds : List Int) (k : Nat) {z5 : Option V} (h5 : okA1 z5) : ∃ s ∈ st_false, wB (wL false st_false ds (sD n_between n_waiting) (dv (di k)) z5) [] = .nx (wL false st_false ds s (dv (di k)) (dv (.nd .ow .lst mv_false_5))) [] := by
  have e1 : w1 (wL false st_false ds (sD n_between n_waiting) (dv (di k)) z5) [] = .nx (wL false st_false ds (sD n_between n_waiting) (dv (di k)) (dv (.nd .ow .lst mv_false_5))) [] := by
    rcases h5 with rfl | ⟨d, rfl⟩ <;> kernel_rfl
  have e2 : w2 (wL false st_false ds (sD n_between n_waiting) (dv (di k)) (dv (.nd .ow .lst mv_false_5))) [] = .nx (wL false st_false ds (sD n_between n_waiting) (dv (di k)) (dv (.nd .ow .lst mv_false_5))) [] := by kernel_rfl
  obtain ⟨j, hj, hm⟩ := wm_of (b := false) (S := st_false) (ds := ds) (s := sD n_between n_waiting) (k := k) (mv := mv_false_5) (n := 2) rfl (by decide)
  have hc : j = 0 ∨ j = 1 := by omega
  rcases hc with rfl | rfl
  · have e3 : w3 (wL false st_false ds (sD n_between n_waiting) (dv (di k)) (dv (.nd .ow .lst mv_false_5))) [] = .nx (wL false st_false ds (sD n_amid n_waiting) (dv (di k)) (dv (.nd .ow .lst mv_false_5))) [] := sSetOk (op_of (g := gIx) (op_of (g := gIx) rfl hm rfl) rfl rfl) rfl
    have e4 : w4 (wL false st_false ds (sD n_amid n_waiting) (dv (di k)) (dv (.nd .ow .lst mv_false_5))) [] = .nx (wL false st_false ds (sD n_amid n_waiting) (dv (di k)) (dv (.nd .ow .lst mv_false_5))) [] := by kernel_rfl
    exact ⟨sD n_amid n_waiting, (.tail _ (.tail _ (.tail _ (.tail _ (.tail _ (.tail _ (.tail _ (.head _)))))))), (seq_of e1).trans ((seq_of e2).trans ((seq_of e3).trans e4))⟩
  · have e3 : w3 (wL false st_false ds (sD n_between n_waiting) (dv (di k)) (dv (.nd .ow .lst mv_false_5))) [] = .nx (wL false st_false ds (sD n_between n_between) (dv (di k)) (dv (.nd .ow .lst mv_false_5))) [] := sSetOk (op_of (g := gIx) (op_of (g := gIx) rfl hm rfl) rfl rfl) rfl
    have e4 : w4 (wL false st_false ds (sD n_between n_between) (dv (di k)) (dv (.nd .ow .lst mv_false_5))) [] = .nx (wL false st_false ds (sD n_between n_between) (dv (di k)) (dv (.nd .ow .lst mv_false_5))) [] := by kernel_rfl
    exact ⟨sD n_between n_between, (.head _), (seq_of e1).trans ((seq_of e2).trans ((seq_of e3).trans e4))⟩
theorem sp_false_6 (ds : List Int) (k : Nat) {z5 : Option V} (h5 : okA1 z5) : ∃ s ∈ st_false, wB (wL false st_false ds (sD n_waiting n_amid) (dv (di k)) z5) [] = .nx (wL false st_false ds s (dv (di k)) (dv (.nd .ow .lst mv_false_6))) [] := by
  have e1 : w1 (wL false st_false ds (sD n_waiting n_amid) (dv (di k)) z5) [] = .nx (wL false st_false ds (sD n_waiting n_amid) (dv (di k)) (dv (.nd .ow .lst mv_false_6))) [] := by
    rcases h5 with rfl | ⟨d, rfl⟩ <;> kernel_rfl
  have e2 : w2 (wL false st_false ds (sD n_waiting n_amid) (dv (di k)) (dv (.nd .ow .lst mv_false_6))) [] = .nx (wL false st_false ds (sD n_waiting n_amid) (dv (di k)) (dv (.nd .ow .lst mv_false_6))) [] := by kernel_rfl
  obtain ⟨j, hj, hm⟩ := wm_of (b := false) (S := st_false) (ds := ds) (s := sD n_waiting n_amid) (k := k) (mv := mv_false_6) (n := 2) rfl (by decide)
  have hc : j = 0 ∨ j = 1 := by omega
  rcases hc with rfl | rfl
  · have e3 : w3 (wL false st_false ds (sD n_waiting n_amid) (dv (di k)) (dv (.nd .ow .lst mv_false_6))) [] = .nx (wL false st_false ds (sD n_waiting n_between) (dv (di k)) (dv (.nd .ow .lst mv_false_6))) [] := sSetOk (op_of (g := gIx) (op_of (g := gIx) rfl hm rfl) rfl rfl) rfl
    have e4 : w4 (wL false st_false ds (sD n_waiting n_between) (dv (di k)) (dv (.nd .ow .lst mv_false_6))) [] = .nx (wL false st_false ds (sD n_waiting n_between) (dv (di k)) (dv (.nd .ow .lst mv_false_6))) [] := by kernel_rfl
    exact ⟨sD n_waiting n_between, (.tail _ (.tail _ (.tail _ (.tail _ (.head _))))), (seq_of e1).trans ((seq_of e2).trans ((seq_of e3).trans e4))⟩
  · have e3 : w3 (wL false st_false ds (sD n_waiting n_amid) (dv (di k)) (dv (.nd .ow .lst mv_false_6))) [] = .nx (wL false st_false ds (sD n_waiting n_waiting) (dv (di k)) (dv (.nd .ow .lst mv_false_6))) [] := sSetOk (op_of (g := gIx) (op_of (g := gIx) rfl hm rfl) rfl rfl) rfl
    have e4 : w4 (wL false st_false ds (sD n_waiting n_waiting) (dv (di k)) (dv (.nd .ow .lst mv_false_6))) [] = .nx (wL false st_false ds (sD n_waiting n_waiting) (dv (di k)) (dv (.nd .ow .lst mv_false_6))) [] := by kernel_rfl
    exact ⟨sD n_waiting n_waiting, (.tail _ (.tail _ (.tail _ (.tail _ (.tail _ (.tail _ (.tail _ (.tail _ (.head _))))))))), (seq_of e1).trans ((seq_of e2).trans ((seq_of e3).trans e4))⟩
theorem sp_false_7 (ds : List Int) (k : Nat) {z5 : Option V} (h5 : okA1 z5) : ∃ s ∈ st_false, wB (wL false st_false ds (sD n_amid n_waiting) (dv (di k)) z5) [] = .nx (wL false st_false ds s (dv (di k)) (dv (.nd .ow .lst mv_false_7))) [] := by
  have e1 : w1 (wL false st_false ds (sD n_amid n_waiting) (dv (di k)) z5) [] = .nx (wL false st_false ds (sD n_amid n_waiting) (dv (di k)) (dv (.nd .ow .lst mv_false_7))) [] := by
    rcases h5 with rfl | ⟨d, rfl⟩ <;> kernel_rfl
  have e2 : w2 (wL false st_false ds (sD n_amid n_waiting) (dv (di k)) (dv (.nd .ow .lst mv_false_7))) [] = .nx (wL false st_false ds (sD n_amid n_waiting) (dv (di k)) (dv (.nd .ow .lst mv_false_7))) [] := by kernel_rfl
  obtain ⟨j, hj, hm⟩ := wm_of (b := false) (S := st_false) (ds := ds) (s := sD n_amid n_waiting) (k := k) (mv := mv_false_7) (n := 2) rfl (by decide)
  have hc : j = 0 ∨ j = 1 := by omega
  rcases hc with rfl | rfl
  · have e3 : w3 (wL false st_false ds (sD n_amid n_waiting) (dv (di k)) (dv (.nd .ow .lst mv_false_7))) [] = .nx (wL false st_false ds (sD n_between n_waiting) (dv (di k)) (dv (.nd .ow .lst mv_false_7))) [] := sSetOk (op_of (g := gIx) (op_of (g := gIx) rfl hm rfl) rfl rfl) rfl
    have e4 : w4 (wL false st_false ds (sD n_between n_waiting) (dv (di k)) (dv (.nd .ow .lst mv_false_7))) [] = .nx (wL false st_false ds (sD n_between n_waiting) (dv (di k)) (dv (.nd .ow .lst mv_false_7))) [] := by kernel_rfl
    exact ⟨sD n_between n_waiting, (.tail _ (.tail _ (.tail _ (.tail _ (.tail _ (.head _)))))), (seq_of e1).trans ((seq_of e2).trans ((seq_of e3).trans e4))⟩
  · have e3 : w3 (wL false st_false ds (sD n_amid n_waiting) (dv (di k)) (dv (.nd .ow .lst mv_false_7))) [] = .nx (wL false st_false ds (sD n_waiting n_waiting) (dv (di k)) (dv (.nd .ow .lst mv_false_7))) [] := sSetOk (op_of (g := gIx) (op_of (g := gIx) rfl hm rfl) rfl rfl) rfl
    have e4 : w4 (wL false st_false ds (sD n_waiting n_waiting) (dv (di k)) (dv (.nd .ow .lst mv_false_7))) [] = .nx (wL false st_false ds (sD n_waiting n_waiting) (dv (di k)) (dv (.nd .ow .lst mv_false_7))) [] := by kernel_rfl
    exact ⟨sD n_waiting n_waiting, (.tail _ (.tail _ (.tail _ (.tail _ (.tail _ (.tail _ (.tail _ (.tail _ (.head _))))))))), (seq_of e1).trans ((seq_of e2).trans ((seq_of e3).trans e4))⟩
theorem sp_false_8 (ds : List Int) (k : Nat) {z5 : Option V} (h5 : okA1 z5) : wB (wL false st_false ds (sD n_waiting n_waiting) (dv (di k)) z5) [] = .rt (.bl true) [] := by
  have e1 : w1 (wL false st_false ds (sD n_waiting n_waiting) (dv (di k)) z5) [] = .nx (wL false st_false ds (sD n_waiting n_waiting) (dv (di k)) (dv (.nd .ow .lst mv_false_8))) [] := by
    rcases h5 with rfl | ⟨d, rfl⟩ <;> kernel_rfl
  have e2 : w2 (wL false st_false ds (sD n_waiting n_waiting) (dv (di k)) (dv (.nd .ow .lst mv_false_8))) [] = .rt (.bl true) [] := by kernel_rfl
  refine (seq_of e1).trans ?_
  rw [sSeq_ap, e2]; rfl
end K74.V
set_option Elab.async false
set_option linter.all false
set_option maxRecDepth 100000
set_option maxHeartbeats 1000000
namespace K74.V
open VL
open GL (PV)
theorem step_t {ds : List Int} {k : Nat} {s : D} (hs : s ∈ st_true) {z5 : Option V} (h5 : okA1 z5) : (∃ s' ∈ st_true, ∃ z, okA1 z ∧ wB (wL true st_true ds s (dv (di k)) z5) [] = .nx (wL true st_true ds s' (dv (di k)) z) []) ∨ wB (wL true st_true ds s (dv (di k)) z5) [] = .rt (.bl true) [] := by
  simp only [st_true, List.mem_cons, List.not_mem_nil, or_false] at hs
  rcases hs with rfl | rfl | rfl | rfl | rfl | rfl | rfl | rfl | rfl
  · obtain ⟨s1, m1, e1⟩ := sp_true_0 ds k h5
    exact .inl ⟨s1, m1, _, okAv, e1⟩
  · obtain ⟨s1, m1, e1⟩ := sp_true_1 ds k h5
    exact .inl ⟨s1, m1, _, okAv, e1⟩
  · obtain ⟨s1, m1, e1⟩ := sp_true_2 ds k h5
    exact .inl ⟨s1, m1, _, okAv, e1⟩
  · obtain ⟨s1, m1, e1⟩ := sp_true_3 ds k h5
    exact .inl ⟨s1, m1, _, okAv, e1⟩
  · obtain ⟨s1, m1, e1⟩ := sp_true_4 ds k h5
    exact .inl ⟨s1, m1, _, okAv, e1⟩
  · obtain ⟨s1, m1, e1⟩ := sp_true_5 ds k h5
    exact .inl ⟨s1, m1, _, okAv, e1⟩
  · obtain ⟨s1, m1, e1⟩ := sp_true_6 ds k h5
    exact .inl ⟨s1, m1, _, okAv, e1⟩
  · obtain ⟨s1, m1, e1⟩ := sp_true_7 ds k h5
    exact .inl ⟨s1, m1, _, okAv, e1⟩
  · obtain ⟨s1, m1, e1⟩ := sp_true_8 ds k h5
    exact .inl ⟨s1, m1, _, okAv, e1⟩
theorem step_f {ds : List Int} {k : Nat} {s : D} (hs : s ∈ st_false) {z5 : Option V} (h5 : okA1 z5) : (∃ s' ∈ st_false, ∃ z, okA1 z ∧ wB (wL false st_false ds s (dv (di k)) z5) [] = .nx (wL false st_false ds s' (dv (di k)) z) []) ∨ wB (wL false st_false ds s (dv (di k)) z5) [] = .rt (.bl true) [] := by
  simp only [st_false, List.mem_cons, List.not_mem_nil, or_false] at hs
  rcases hs with rfl | rfl | rfl | rfl | rfl | rfl | rfl | rfl | rfl
  · obtain ⟨s1, m1, e1⟩ := sp_false_0 ds k h5
    exact .inl ⟨s1, m1, _, okAv, e1⟩
  · obtain ⟨s1, m1, e1⟩ := sp_false_1 ds k h5
    exact .inl ⟨s1, m1, _, okAv, e1⟩
  · obtain ⟨s1, m1, e1⟩ := sp_false_2 ds k h5
    exact .inl ⟨s1, m1, _, okAv, e1⟩
  · obtain ⟨s1, m1, e1⟩ := sp_false_3 ds k h5
    exact .inl ⟨s1, m1, _, okAv, e1⟩
  · obtain ⟨s1, m1, e1⟩ := sp_false_4 ds k h5
    exact .inl ⟨s1, m1, _, okAv, e1⟩
  · obtain ⟨s1, m1, e1⟩ := sp_false_5 ds k h5
    exact .inl ⟨s1, m1, _, okAv, e1⟩
  · obtain ⟨s1, m1, e1⟩ := sp_false_6 ds k h5
    exact .inl ⟨s1, m1, _, okAv, e1⟩
  · obtain ⟨s1, m1, e1⟩ := sp_false_7 ds k h5
    exact .inl ⟨s1, m1, _, okAv, e1⟩
  · exact .inr (sp_false_8 ds k h5)
theorem lp_t {ds : List Int} : ∀ (l : List Nat) {s : D} (hs : s ∈ st_true) {z4 z5 : Option V} (h4 : okA1 z4) (h5 : okA1 z5), (∃ L, forV (gN 4) wB (l.map di) (wL true st_true ds s z4 z5) [] = .nx L []) ∨ forV (gN 4) wB (l.map di) (wL true st_true ds s z4 z5) [] = .rt (.bl true) []
  | [], _, _, _, _, _, _ => .inl ⟨_, rfl⟩
  | k :: l, s, hs, z4, z5, h4, h5 => by
    have ng : gN 4 (.v (di k)) (wL true st_true ds s z4 z5) [] = some ((wL true st_true ds s (dv (di k)) z5), []) := gN_ok (i := 4) (okL_cons okAv (okL_cons okAv (okL_cons okAv (okL_cons okAv (okL_cons h4 (okL_cons h5 okL_nil)))))) (by show 4 < 6; decide)
    have q : forV (gN 4) wB (di k :: l.map di) (wL true st_true ds s z4 z5) [] = loopK (wB (wL true st_true ds s (dv (di k)) z5) []) (forV (gN 4) wB (l.map di)) := forV_cons ng
    rw [List.map_cons, q]
    rcases step_t (ds := ds) (k := k) hs h5 with ⟨s1, m1, z, hz, e⟩ | e
    · rw [e, loopK_nx]
      exact lp_t l m1 okAv hz
    · rw [e, loopK_rt]
      exact .inr rfl
theorem rg60_t : rngD 0 60 = (List.range 60).map di := by kernel_rfl
theorem walk_t (ds : List Int) : f_law_walk [.v (tb true), .v (.nd .fz .lst st_true), .v (inD' ds)] [] = .ok (.bl true) [] := by
  refine fnOf_rt (gh := []) rfl ?_ rfl
  show m_law_walk [dv (tb true), dv (.nd .fz .lst st_true), dv (inD' ds), none, none, none] [] = _
  have r0 : (sSet 3 (eMeth n_Handshake n_start f_Handshake_start [] (eVar 0) aNil)) [dv (tb true), dv (.nd .fz .lst st_true), dv (inD' ds), none, none, none] [] = .nx (wL true st_true ds (sD n_between n_between) none none) [] := by kernel_rfl
  refine (seq_of r0).trans ?_
  have f : sFor (iR1 (eC (.int 60))) (gN 4) wB (wL true st_true ds (sD n_between n_between) none none) [] = forV (gN 4) wB ((List.range 60).map di) (wL true st_true ds (sD n_between n_between) none none) [] := sFor_of (by rw [← rg60_t]; exact iR1_of (n := 60) rfl (by decide))
  rcases lp_t (ds := ds) (List.range 60) (s := sD n_between n_between) (.head _) (z4 := none) (z5 := none) okAn okAn with ⟨L, e⟩ | e
  · exact (seq_of (f.trans e)).trans rfl
  · rw [sSeq_ap, f.trans e]; rfl
theorem lp_f {ds : List Int} : ∀ (l : List Nat) {s : D} (hs : s ∈ st_false) {z4 z5 : Option V} (h4 : okA1 z4) (h5 : okA1 z5), (∃ L, forV (gN 4) wB (l.map di) (wL false st_false ds s z4 z5) [] = .nx L []) ∨ forV (gN 4) wB (l.map di) (wL false st_false ds s z4 z5) [] = .rt (.bl true) []
  | [], _, _, _, _, _, _ => .inl ⟨_, rfl⟩
  | k :: l, s, hs, z4, z5, h4, h5 => by
    have ng : gN 4 (.v (di k)) (wL false st_false ds s z4 z5) [] = some ((wL false st_false ds s (dv (di k)) z5), []) := gN_ok (i := 4) (okL_cons okAv (okL_cons okAv (okL_cons okAv (okL_cons okAv (okL_cons h4 (okL_cons h5 okL_nil)))))) (by show 4 < 6; decide)
    have q : forV (gN 4) wB (di k :: l.map di) (wL false st_false ds s z4 z5) [] = loopK (wB (wL false st_false ds s (dv (di k)) z5) []) (forV (gN 4) wB (l.map di)) := forV_cons ng
    rw [List.map_cons, q]
    rcases step_f (ds := ds) (k := k) hs h5 with ⟨s1, m1, z, hz, e⟩ | e
    · rw [e, loopK_nx]
      exact lp_f l m1 okAv hz
    · rw [e, loopK_rt]
      exact .inr rfl
theorem rg60_f : rngD 0 60 = (List.range 60).map di := by kernel_rfl
theorem walk_f (ds : List Int) : f_law_walk [.v (tb false), .v (.nd .fz .lst st_false), .v (inD' ds)] [] = .ok (.bl true) [] := by
  refine fnOf_rt (gh := []) rfl ?_ rfl
  show m_law_walk [dv (tb false), dv (.nd .fz .lst st_false), dv (inD' ds), none, none, none] [] = _
  have r0 : (sSet 3 (eMeth n_Handshake n_start f_Handshake_start [] (eVar 0) aNil)) [dv (tb false), dv (.nd .fz .lst st_false), dv (inD' ds), none, none, none] [] = .nx (wL false st_false ds (sD n_between n_between) none none) [] := by kernel_rfl
  refine (seq_of r0).trans ?_
  have f : sFor (iR1 (eC (.int 60))) (gN 4) wB (wL false st_false ds (sD n_between n_between) none none) [] = forV (gN 4) wB ((List.range 60).map di) (wL false st_false ds (sD n_between n_between) none none) [] := sFor_of (by rw [← rg60_f]; exact iR1_of (n := 60) rfl (by decide))
  rcases lp_f (ds := ds) (List.range 60) (s := sD n_between n_between) (.head _) (z4 := none) (z5 := none) okAn okAn with ⟨L, e⟩ | e
  · exact (seq_of (f.trans e)).trans rfl
  · rw [sSeq_ap, f.trans e]; rfl
abbrev t0 : MS := (sSet 2 (eFz (eMake n_Handshake f_Handshake_init [] (aCons (eVar 0) aNil))))
abbrev t1 : MS := (sIf (tOrM (tNotM (toT (eB (fIsO tbO_Table n_Table) (aCons (eVar 2) (aCons (eC w_Table) aNil))))) (tOrM (toT (eOp gNe (eMeth n_Handshake n_start f_Handshake_start [] (eVar 2) aNil) (eTup (aCons (eC (.str n_between)) (aCons (eC (.str n_between)) aNil))))) (toT (eOp (VL.isM true) (eMeth n_Handshake n_scenario f_Handshake_scenario [] (eVar 2) aNil) (eC .non))))) (sRet (eC (.bl false))) sNil)
abbrev t2 : MS := (sFor (iSeq (eCall f_law_nine [] aNil)) (gN 3) (sIf (tNotM (toT (eCall f_law_same_moves [] (aCons (eMeth n_Handshake n_moves f_Handshake_moves [] (eVar 2) (aCons (eVar 3) aNil)) (aCons (eCall f_law_moves [] (aCons (eVar 3) (aCons (eVar 0) aNil))) aNil))))) (sRet (eC (.bl false))) sNil))
abbrev t3 : MS := (sSet 4 (eFz (eMeth n_Handshake n_states f_Handshake_states [] (eVar 2) aNil)))
abbrev t4 : MS := (sIf (tOrM (tNotM (toT (eB fIsi (aCons (eVar 4) (aCons (eC (.ty .list)) aNil))))) (tOrM (toT (eOp gNe (eVar 4) (eCall f_law_states [] (aCons (eVar 0) aNil)))) (tNotM (toT (eCall f_law_walk [] (aCons (eVar 2) (aCons (eVar 4) (aCons (eVar 1) aNil)))))))) (sRet (eC (.bl false))) sNil)
abbrev t5 : MS := (sFor (iSeq (eVar 4)) (gN 3) (sSeq (sSet 5 (eOp gEq (eB fLen (aCons (eMeth n_Handshake n_moves f_Handshake_moves [] (eVar 2) (aCons (eVar 3) aNil)) aNil)) (eC (.int 0)))) (sSeq (sIf (toT (eOp gNe (eVar 5) (eAndM (eOp gEq (eVar 3) (eTup (aCons (eC (.str n_waiting)) (aCons (eC (.str n_waiting)) aNil)))) (eNotM (eVar 0))))) (sRet (eC (.bl false))) sNil) (sFor (iSeq (eLst (aCons (eC (.int 0)) (aCons (eC (.int 1)) aNil)))) (gN 6) (sIf (tAndM (toT (eVar 0)) (tAndM (toT (eOp gEq (eOp gIx (eVar 3) (eVar 6)) (eC (.str n_waiting)))) (tNotM (toT (eCall f_law_goes_on [] (aCons (eVar 2) (aCons (eVar 3) (aCons (eVar 6) aNil)))))))) (sRet (eC (.bl false))) sNil)))))
theorem table_t (ds : List Int) : f_law_table [.v (.bl true), .v (inD' ds)] [] = .ok (.bl true) [] := by
  refine fnOf_rt (gh := []) rfl ?_ rfl
  show m_law_table [dv (.bl true), dv (inD' ds), none, none, none, none, none] [] = _
  have r0 : t0 [dv (.bl true), dv (inD' ds), none, none, none, none, none] [] = .nx [dv (.bl true), dv (inD' ds), dv (tb true), none, none, none, none] [] := by kernel_rfl
  have r1 : t1 [dv (.bl true), dv (inD' ds), dv (tb true), none, none, none, none] [] = .nx [dv (.bl true), dv (inD' ds), dv (tb true), none, none, none, none] [] := by kernel_rfl
  have r2 : t2 [dv (.bl true), dv (inD' ds), dv (tb true), none, none, none, none] [] = .nx [dv (.bl true), dv (inD' ds), dv (tb true), dv (sD n_waiting n_waiting), none, none, none] [] := by kernel_rfl
  have r3 : t3 [dv (.bl true), dv (inD' ds), dv (tb true), dv (sD n_waiting n_waiting), none, none, none] [] = .nx [dv (.bl true), dv (inD' ds), dv (tb true), dv (sD n_waiting n_waiting), dv (.nd .fz .lst st_true), none, none] [] := by kernel_rfl
  have h1 : (tNotM (toT (eB fIsi (aCons (eVar 4) (aCons (eC (.ty .list)) aNil))))) [dv (.bl true), dv (inD' ds), dv (tb true), dv (sD n_waiting n_waiting), dv (.nd .fz .lst st_true), none, none] [] = .ok false [dv (.bl true), dv (inD' ds), dv (tb true), dv (sD n_waiting n_waiting), dv (.nd .fz .lst st_true), none, none] [] := by kernel_rfl
  have h2 : (toT (eOp gNe (eVar 4) (eCall f_law_states [] (aCons (eVar 0) aNil)))) [dv (.bl true), dv (inD' ds), dv (tb true), dv (sD n_waiting n_waiting), dv (.nd .fz .lst st_true), none, none] [] = .ok false [dv (.bl true), dv (inD' ds), dv (tb true), dv (sD n_waiting n_waiting), dv (.nd .fz .lst st_true), none, none] [] := by kernel_rfl
  have h3 : (tNotM (toT (eCall f_law_walk [] (aCons (eVar 2) (aCons (eVar 4) (aCons (eVar 1) aNil)))))) [dv (.bl true), dv (inD' ds), dv (tb true), dv (sD n_waiting n_waiting), dv (.nd .fz .lst st_true), none, none] [] = .ok false [dv (.bl true), dv (inD' ds), dv (tb true), dv (sD n_waiting n_waiting), dv (.nd .fz .lst st_true), none, none] [] := not_of (k := true) (toT_of (call_of (xs := [.v (tb true), .v (.nd .fz .lst st_true), .v (inD' ds)]) (ds := [tb true, .nd .fz .lst st_true, inD' ds]) (dws := []) (ios := []) rfl rfl (walk_t ds)))
  have r4 : t4 [dv (.bl true), dv (inD' ds), dv (tb true), dv (sD n_waiting n_waiting), dv (.nd .fz .lst st_true), none, none] [] = .nx [dv (.bl true), dv (inD' ds), dv (tb true), dv (sD n_waiting n_waiting), dv (.nd .fz .lst st_true), none, none] [] := if_no2 (or_go h1 (or_go h2 h3))
  have r5 : t5 [dv (.bl true), dv (inD' ds), dv (tb true), dv (sD n_waiting n_waiting), dv (.nd .fz .lst st_true), none, none] [] = .nx [dv (.bl true), dv (inD' ds), dv (tb true), dv (sD n_waiting n_waiting), dv (.nd .fz .lst st_true), dv (.bl false), dv (.int 1)] [] := by kernel_rfl
  exact (seq_of r0).trans ((seq_of r1).trans ((seq_of r2).trans ((seq_of r3).trans ((seq_of r4).trans ((seq_of r5).trans rfl)))))
theorem table_f (ds : List Int) : f_law_table [.v (.bl false), .v (inD' ds)] [] = .ok (.bl true) [] := by
  refine fnOf_rt (gh := []) rfl ?_ rfl
  show m_law_table [dv (.bl false), dv (inD' ds), none, none, none, none, none] [] = _
  have r0 : t0 [dv (.bl false), dv (inD' ds), none, none, none, none, none] [] = .nx [dv (.bl false), dv (inD' ds), dv (tb false), none, none, none, none] [] := by kernel_rfl
  have r1 : t1 [dv (.bl false), dv (inD' ds), dv (tb false), none, none, none, none] [] = .nx [dv (.bl false), dv (inD' ds), dv (tb false), none, none, none, none] [] := by kernel_rfl
  have r2 : t2 [dv (.bl false), dv (inD' ds), dv (tb false), none, none, none, none] [] = .nx [dv (.bl false), dv (inD' ds), dv (tb false), dv (sD n_waiting n_waiting), none, none, none] [] := by kernel_rfl
  have r3 : t3 [dv (.bl false), dv (inD' ds), dv (tb false), dv (sD n_waiting n_waiting), none, none, none] [] = .nx [dv (.bl false), dv (inD' ds), dv (tb false), dv (sD n_waiting n_waiting), dv (.nd .fz .lst st_false), none, none] [] := by kernel_rfl
  have h1 : (tNotM (toT (eB fIsi (aCons (eVar 4) (aCons (eC (.ty .list)) aNil))))) [dv (.bl false), dv (inD' ds), dv (tb false), dv (sD n_waiting n_waiting), dv (.nd .fz .lst st_false), none, none] [] = .ok false [dv (.bl false), dv (inD' ds), dv (tb false), dv (sD n_waiting n_waiting), dv (.nd .fz .lst st_false), none, none] [] := by kernel_rfl
  have h2 : (toT (eOp gNe (eVar 4) (eCall f_law_states [] (aCons (eVar 0) aNil)))) [dv (.bl false), dv (inD' ds), dv (tb false), dv (sD n_waiting n_waiting), dv (.nd .fz .lst st_false), none, none] [] = .ok false [dv (.bl false), dv (inD' ds), dv (tb false), dv (sD n_waiting n_waiting), dv (.nd .fz .lst st_false), none, none] [] := by kernel_rfl
  have h3 : (tNotM (toT (eCall f_law_walk [] (aCons (eVar 2) (aCons (eVar 4) (aCons (eVar 1) aNil)))))) [dv (.bl false), dv (inD' ds), dv (tb false), dv (sD n_waiting n_waiting), dv (.nd .fz .lst st_false), none, none] [] = .ok false [dv (.bl false), dv (inD' ds), dv (tb false), dv (sD n_waiting n_waiting), dv (.nd .fz .lst st_false), none, none] [] := not_of (k := true) (toT_of (call_of (xs := [.v (tb false), .v (.nd .fz .lst st_false), .v (inD' ds)]) (ds := [tb false, .nd .fz .lst st_false, inD' ds]) (dws := []) (ios := []) rfl rfl (walk_f ds)))
  have r4 : t4 [dv (.bl false), dv (inD' ds), dv (tb false), dv (sD n_waiting n_waiting), dv (.nd .fz .lst st_false), none, none] [] = .nx [dv (.bl false), dv (inD' ds), dv (tb false), dv (sD n_waiting n_waiting), dv (.nd .fz .lst st_false), none, none] [] := if_no2 (or_go h1 (or_go h2 h3))
  have r5 : t5 [dv (.bl false), dv (inD' ds), dv (tb false), dv (sD n_waiting n_waiting), dv (.nd .fz .lst st_false), none, none] [] = .nx [dv (.bl false), dv (inD' ds), dv (tb false), dv (sD n_waiting n_waiting), dv (.nd .fz .lst st_false), dv (.bl true), dv (.int 1)] [] := by kernel_rfl
  exact (seq_of r0).trans ((seq_of r1).trans ((seq_of r2).trans ((seq_of r3).trans ((seq_of r4).trans ((seq_of r5).trans rfl)))))
end K74.V
set_option Elab.async false
set_option linter.all false
set_option maxRecDepth 100000
set_option maxHeartbeats 1000000
namespace K74.V
open VL
open GL (PV)
abbrev l0 : MS := (sSet 1 (eFz (eCall f_law_row [] (aCons (eVar 0) (aCons (eC (.int 60)) aNil)))))
abbrev l1 : MS := (sIf (tOrM (tNotM (toT (eCall f_law_table [] (aCons (eC (.bl true)) (aCons (eVar 1) aNil))))) (tOrM (tNotM (toT (eCall f_law_table [] (aCons (eC (.bl false)) (aCons (eVar 1) aNil))))) (tNotM (toT (eCall f_law_table [] (aCons (eC (.bl true)) (aCons (eFz (eSl (eVar 1) (oYes (eC (.int 1))) oNo)) aNil))))))) (sRet (eC (.bl false))) sNil)
abbrev l2 : MS := (sIf (toT (eOp (VL.isM true) (eCall f_stuck_scenario [] (aCons (eC (.bl true)) aNil)) (eC .non))) (sRet (eC (.bl false))) sNil)
abbrev l3 : MS := (sSet 2 (eCall f_stuck_scenario [] (aCons (eC (.bl false)) aNil)))
abbrev l4 : MS := (sIf (tOrM (tNotM (toT (eB fIsi (aCons (eVar 2) (aCons (eC (.ty .list)) aNil))))) (toT (eOp gNe (eVar 2) (eLst (aCons (eC (.str n_begin_0)) (aCons (eC (.str n_begin_1)) (aCons (eC (.str n_hit_0)) (aCons (eC (.str n_hit_1)) aNil)))))))) (sRet (eC (.bl false))) sNil)
abbrev l5 : MS := (sExpr (eMt kList mAppend (eVar 2) (aCons (eC (.str n_again)) aNil)))
abbrev l6 : MS := (sRet (eOp gEq (eCall f_stuck_scenario [] (aCons (eC (.bl false)) aNil)) (eLst (aCons (eC (.str n_begin_0)) (aCons (eC (.str n_begin_1)) (aCons (eC (.str n_hit_0)) (aCons (eC (.str n_hit_1)) aNil)))))))
theorem fz_row {e : PE} {ls ls2 : Ls} {d x : D} (h : e ls [] = .ok (.v x) ls2 []) (hz : D.frz x = some d) : eFz e ls [] = .ok (.v d) ls2 [] := by
  unfold eFz
  rw [h, bind_ok]
  show (match (if false = true then some (x, ls2, ([] : Ls)) else (D.frz x).map fun e => (e, ls2, ([] : Ls))) with
    | some (d, ls, gh) => Out.ok (RV.v d) ls gh
    | none => .bad) = _
  rw [if_neg (by decide), hz]; rfl
theorem int_cut (xs : List Int) : GL.cutP (intL xs) (some 1) none = intL (xs.drop 1) := by
  cases xs with
  | nil => rfl
  | cons x r =>
    show (((intL r).length + 1 : Nat) |> fun _ => GL.cutP (D.int x :: intL r) (some ((1 : Nat) : Int)) none) = _
    exact cut_b (xs := D.int x :: intL r) (t := 1) (by simp)
theorem sl_row {ls gh : Ls} (ds : List Int) : gSl (.v (inD' ds)) (some 1) none ls gh = .ok (.v (.nd .ow .lst (intL (ds.drop 1)))) ls gh := by
  unfold gSl
  show (match shrK (RV.v (inD' ds)) (intL ds) with
    | some ys => Out.ok (RV.v (D.nd Fl.ow Hd.lst (GL.cutP ys (some 1) none))) ls gh
    | none => Out.bad) = _
  rw [shrK_s intL_shr]
  show Out.ok (RV.v (D.nd Fl.ow Hd.lst (GL.cutP (intL ds) (some 1) none))) ls gh = _
  rw [int_cut]
theorem law_ok (ns : List Int) : f_law [.v (.nd .fz .rol (intL ns))] [] = .ok (.bl true) [] := by
  obtain ⟨ds, hrow, hd⟩ := row_ok (ns := ns) (most := 60) (by decide)
  refine fnOf_rt (gh := []) rfl ?_ rfl
  show m_law [dv (.nd .fz .rol (intL ns)), none, none] [] = _
  have r0 : l0 [dv (.nd .fz .rol (intL ns)), none, none] [] = .nx [dv (.nd .fz .rol (intL ns)), dv (inD' ds), none] [] := sSetOk (fz_row (call_of (xs := [.v (.nd .fz .rol (intL ns)), .v (.int 60)]) (ds := [.nd .fz .rol (intL ns), .int 60]) (dws := []) (ios := []) rfl rfl hrow) (frz_lst (frzs_shr intL_shr))) rfl
  have e1 : (tNotM (toT (eCall f_law_table [] (aCons (eC (.bl true)) (aCons (eVar 1) aNil))))) [dv (.nd .fz .rol (intL ns)), dv (inD' ds), none] [] = .ok false [dv (.nd .fz .rol (intL ns)), dv (inD' ds), none] [] := not_of (k := true) (toT_of (call_of (xs := [.v (.bl true), .v (inD' ds)]) (ds := [.bl true, inD' ds]) (dws := []) (ios := []) rfl rfl (table_t ds)))
  have e2 : (tNotM (toT (eCall f_law_table [] (aCons (eC (.bl false)) (aCons (eVar 1) aNil))))) [dv (.nd .fz .rol (intL ns)), dv (inD' ds), none] [] = .ok false [dv (.nd .fz .rol (intL ns)), dv (inD' ds), none] [] := not_of (k := true) (toT_of (call_of (xs := [.v (.bl false), .v (inD' ds)]) (ds := [.bl false, inD' ds]) (dws := []) (ios := []) rfl rfl (table_f ds)))
  have sl : (eSl (eVar 1) (oYes (eC (.int 1))) oNo) [dv (.nd .fz .rol (intL ns)), dv (inD' ds), none] [] = .ok (.v (.nd .ow .lst (intL (ds.drop 1)))) [dv (.nd .fz .rol (intL ns)), dv (inD' ds), none] [] := sl_row ds
  have e3 : (tNotM (toT (eCall f_law_table [] (aCons (eC (.bl true)) (aCons (eFz (eSl (eVar 1) (oYes (eC (.int 1))) oNo)) aNil))))) [dv (.nd .fz .rol (intL ns)), dv (inD' ds), none] [] = .ok false [dv (.nd .fz .rol (intL ns)), dv (inD' ds), none] [] := not_of (k := true) (toT_of (call_of (xs := [.v (.bl true), .v (inD' (ds.drop 1))]) (ds := [.bl true, inD' (ds.drop 1)]) (dws := []) (ios := []) (args2 rfl (fz_row sl (frz_lst (frzs_shr intL_shr)))) rfl (table_t (ds.drop 1))))
  have r1 : l1 [dv (.nd .fz .rol (intL ns)), dv (inD' ds), none] [] = .nx [dv (.nd .fz .rol (intL ns)), dv (inD' ds), none] [] := if_no2 (or_go e1 (or_go e2 e3))
  have r2 : l2 [dv (.nd .fz .rol (intL ns)), dv (inD' ds), none] [] = .nx [dv (.nd .fz .rol (intL ns)), dv (inD' ds), none] [] := by kernel_rfl
  have r3 : l3 [dv (.nd .fz .rol (intL ns)), dv (inD' ds), none] [] = .nx [dv (.nd .fz .rol (intL ns)), dv (inD' ds), dv (.nd .ow .lst [.str n_begin_0, .str n_begin_1, .str n_hit_0, .str n_hit_1])] [] := by kernel_rfl
  have r4 : l4 [dv (.nd .fz .rol (intL ns)), dv (inD' ds), dv (.nd .ow .lst [.str n_begin_0, .str n_begin_1, .str n_hit_0, .str n_hit_1])] [] = .nx [dv (.nd .fz .rol (intL ns)), dv (inD' ds), dv (.nd .ow .lst [.str n_begin_0, .str n_begin_1, .str n_hit_0, .str n_hit_1])] [] := by kernel_rfl
  have r5 : l5 [dv (.nd .fz .rol (intL ns)), dv (inD' ds), dv (.nd .ow .lst [.str n_begin_0, .str n_begin_1, .str n_hit_0, .str n_hit_1])] [] = .nx [dv (.nd .fz .rol (intL ns)), dv (inD' ds), dv (.nd .ow .lst [.str n_begin_0, .str n_begin_1, .str n_hit_0, .str n_hit_1, .str n_again])] [] := by kernel_rfl
  have r6 : l6 [dv (.nd .fz .rol (intL ns)), dv (inD' ds), dv (.nd .ow .lst [.str n_begin_0, .str n_begin_1, .str n_hit_0, .str n_hit_1, .str n_again])] [] = .rt (.bl true) [] := by kernel_rfl
  exact (seq_of r0).trans ((seq_of r1).trans ((seq_of r2).trans ((seq_of r3).trans ((seq_of r4).trans ((seq_of r5).trans r6)))))
end K74.V
set_option Elab.async false
set_option linter.all false
set_option maxRecDepth 100000
set_option maxHeartbeats 1000000
namespace K74
theorem plain (ns : List Int) (h : ns.length ≤ 63) : ∃ S, f_law [.loc 0] [.rol (ns.map .int)] = .ok (.bl true) S := VL.vl_end V.s_f_law ns (V.law_ok ns)
end K74
set_option Elab.async false
set_option linter.all false
set_option maxRecDepth 100000
set_option maxHeartbeats 40000000
open PySem PySem.W PySem.Calls PyProof.Rows in
theorem K74.holds : PySem.Challenge.rw_guestlives_k74_whole_handshake_goes_on.Holds := by
  w_on; o_law
  refine HandSHeadRun.head_any (r := OpenLaw.row PySem.Challenge.rw_guestlives_k74_whole_handshake_goes_on) (q := view (OpenLaw.row PySem.Challenge.rw_guestlives_k74_whole_handshake_goes_on).prog [20]) (H := K74.hk) (ob := K74.ob) (M := 12000) (loose := K74.loose) (d := HandSHeadRun.topDef (OpenLaw.row PySem.Challenge.rw_guestlives_k74_whole_handshake_goes_on).prog 20) (kwd := []) K74.ob_eq
    (by kernel_rfl) (fun s => by kernel_rfl) K74.run (by kernel_rfl) (by kernel_rfl) (by kernel_rfl) (by rfl) (by first | assumption | decide +kernel) (by decide +kernel) ⟨rfl, rfl, rfl, rfl, rfl, by decide +kernel⟩ ?hw ?hc
  case hw => w_witness2
  case hc =>
    refine GL.walk_end (l := PySem.Challenge.rw_guestlives_k74_whole_handshake_goes_on) (n := 63) (k := 6) (x := "_law_script") rfl (by decide) (by kernel_rfl) ⟨rfl, by decide, by decide⟩ ?F
    intro w mg fa h Y G hmg0
    obtain ⟨K, KX, c⟩ := Y
    have T : K74.Tx PySem.Challenge.rw_guestlives_k74_whole_handshake_goes_on.prog K mg := K74.tx_of KX G c
    have hmg : mg ("law" : PySem.Str) = some (.ref fa) := by
      have e : (HandSHeadRun.topDef (OpenLaw.row PySem.Challenge.rw_guestlives_k74_whole_handshake_goes_on).prog 20).name = ("law" : PySem.Str) := by kernel_rfl
      rw [← e]; exact hmg0
    have e := hmg.symm.trans T.g_law
    cases e
    obtain ⟨fd0, F0⟩ := T.d_law
    have hb := F0.bindsA (ps := [("_law_script" : PySem.Str)]) fun _ _ _ _ _ _ us hl => match us, hl with | [_], _ => rfl
    exact ⟨K, fd0, GL.spI (⟨_, w⟩ : GL.PgW) K 1 K74.f_law, KX, fun s v => hb s [v] rfl, fun H a ns hl hO hS => GL.law_sp rfl K74.plain H a ns hl hO hS, fun base X2 G2 => K74.fi_law T F0⟩
set_option maxRecDepth 100000 in
set_option maxHeartbeats 4000000 in
theorem PySem.Challenge.cw_guestlives_k74_whole_handshake_goes_on_holds : PySem.Challenge.rw_guestlives_k74_whole_handshake_goes_on.Holds := by
  exact K74.holds
