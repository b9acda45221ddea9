import PyProof.Rows.All
import Wide.All
import OpenK.AllK
import Wide.FinOn
import PySem.Challenge.RW_swaprings_k41_spares_judged_and_walked
import HandS.ForMost
import HandS.ForExc
import HandS.CallSlots
import KE.KDictKeyed
import HandS.TupAny
import HandS.Wide
import HandS.TupMul
import HandS.TupLe
import HandS.IsInst
import KE.DataCmp
import HandS.Text
import HandS.RaiseMore
import HandS.Conv
import HandS.DictTup
import KE.SortData
import PyProof.ReprRoads
import PyProof.TupleOfSeq
import HandS.Exc
import HandS.List
import HandS.Style
import HandS.StrMore
import PyProof.FactsAll.list_0
import PyProof.FactsAll.list_3
import HandS.Dict
import HandS.Ends
import HandS.HeadEnd
import HandS.HeadHook2
import HandS.Deep
import PyProof.P3Eq
import PyProof.ReprLoop
import KE.DataMinMax
import KE.KTupSum
import HandS.DictComp
import HandS.Zip
import KE.GoesEnum
import KE.GoesMore
import HandS.SetFor
import HandS.Strs
import HandS.TupSets
import HandS.HeadHook1
import HandS.ExcInit
import HandS.ExcField
import HandS.WordsExc
import HandS.TryOnly
import KE.DataEq
import PyProof.NeKinds
import HandS.ExcIs
import KE.KExcInit
import PyProof.MinMaxWalk
import PyProof.WalkInts
import PyProof.Rows.CallKwBuiltin
import HandS.SortKw
import KE.GoesZip
import HandS.DictSubView0
import HandS.RevTup
import HandS.Flt
import HandS.SetKeys
import PyProof.DictMoreH
import KE.KDictDisplayH
import HandS.Defaults
import HandS.Head2
set_option Elab.async false
set_option linter.all false
set_option maxRecDepth 100000
set_option maxHeartbeats 0
namespace PD
open PySem PySem.Spec PyProof.Rows L2

abbrev St := L2.St
abbrev Fs := Addr → Prop
def keyD : Key → PyData
  | .inl i => .int i
  | .inr s => .str s
def keysD (k : List Key) : PyData := .tuple (k.map keyD)

inductive T where
  | v (d : PyData)
  | lst (l : List T)
  | dK (ks : List Key) (vs : List T)
  | dT (ks : List (List Key)) (vs : List T)
  | obj (c : Nat) (ns : List Str) (vs : List T)
  | scr (ns : List Int)
  | dN (kvs : List (PyData × PyData))

structure Ctx where
  K : PySem.W.Frag
  cl : Nat → Addr

mutual
inductive FR (K : PySem.W.Frag) (H : Hp) (F : Fs) : PyData → V → Prop
  | non : FR K H F .none .non
  | bl (b : Bool) : FR K H F (.bool b) (.bl b)
  | int (i : Int) : FR K H F (.int i) (.int i)
  | str (x : Str) : FR K H F (.str x) (.str x)
  | tup {a : Addr} {vs : List V} {ds : List PyData} : F a → H a = some (.tup vs) → FRs K H F ds vs → FR K H F (.tuple ds) (.ref a)
  | lst {a : Addr} {vs : List V} {ds : List PyData} : F a → H a = some (.lst vs) → FRs K H F ds vs → FR K H F (.list ds) (.ref a)
  | dK {a : Addr} {kvs : List (Key × V)} {ds : List PyData} : F a → H a = some (.dK kvs) → FRs K H F ds (kvs.map Prod.snd) → FR K H F (.dict ((kvs.map fun p => keyD p.1).zip ds)) (.ref a)
  | dT {a : Addr} {kvs : List (List Key × V)} {ds : List PyData} : F a → H a = some (.dT kvs) → FRs K H F ds (kvs.map Prod.snd) → FR K H F (.dict ((kvs.map fun p => keysD p.1).zip ds)) (.ref a)
inductive FRs (K : PySem.W.Frag) (H : Hp) (F : Fs) : List PyData → List V → Prop
  | nil : FRs K H F [] []
  | cons {d : PyData} {ds : List PyData} {v : V} {vs : List V} : FR K H F d v → FRs K H F ds vs → FRs K H F (d :: ds) (v :: vs)
end
mutual
def nkOf : PyData → Option NestedKey
  | .int i => some (.num i)
  | .tuple ds => (nkAll ds).map NestedKey.tup
  | _ => none
def nkAll : List PyData → Option (List NestedKey)
  | [] => some []
  | d :: ds => (nkOf d).bind fun k => (nkAll ds).map fun ks => k :: ks
end
inductive NR (K : PySem.W.Frag) (H : Hp) (F : Fs) : List (PyData × PyData) → List (NestedKey × Addr × Value) → Prop
  | nil : NR K H F [] []
  | cons {k d : PyData} {kk : NestedKey} {b : Addr} {v : V} {u : Value} {kvs : List (PyData × PyData)} {xs : List (NestedKey × Addr × Value)} : nkOf k = some kk → kk.depth ≤ 8 → FR K H F k (.ref b) → FR K H F d v → RelV v u → NR K H F kvs xs → NR K H F ((k, d) :: kvs) ((kk, b, u) :: xs)
def entN (w : World) (x : NestedKey × Addr × Value) : DictEntry := { hash := NestedKey.hash w x.1, key := .ref x.2.1, val := x.2.2 }
def DNp (w : World) (a : Addr) (xs : List (NestedKey × Addr × Value)) : Heap → Prop := fun h => (a == sysModules) = false ∧ ∃ o es ep, h.get? a = some o ∧ o.ExactDict ∧ o.data = .dict es ep ∧ es.toList = xs.map (entN w) ∧ (xs.map (·.1)).Nodup

mutual
inductive RT (Γ : Ctx) (H : Hp) (F : Fs) : T → V → Fs → Prop
  | v {d : PyData} {u : V} : FR Γ.K H F d u → RT Γ H F (.v d) u (fun _ => False)
  | lst {a : Addr} {vs : List V} {ts : List T} {P : Fs} : H a = some (.lst vs) → RTs Γ H F ts vs P → ¬ P a → RT Γ H F (.lst ts) (.ref a) (fun b => b = a ∨ P b)
  | dK {a : Addr} {ks : List Key} {vs : List V} {ts : List T} {P : Fs} : ks.length = ts.length → H a = some (.dK (ks.zip vs)) → RTs Γ H F ts vs P → ¬ P a → RT Γ H F (.dK ks ts) (.ref a) (fun b => b = a ∨ P b)
  | dT {a : Addr} {ks : List (List Key)} {vs : List V} {ts : List T} {P : Fs} : ks.length = ts.length → H a = some (.dT (ks.zip vs)) → RTs Γ H F ts vs P → ¬ P a → RT Γ H F (.dT ks ts) (.ref a) (fun b => b = a ∨ P b)
  | obj {a dx : Addr} {c : Nat} {ns : List Str} {vs : List V} {ts : List T} {P : Fs} : ns.length = ts.length → H a = some (.ins (Γ.cl c) dx (ns.zip vs)) → RTs Γ H F ts vs P → ¬ P a → RT Γ H F (.obj c ns ts) (.ref a) (fun b => b = a ∨ P b)
  | scr {a : Addr} {ns : List Int} : ((F a ∧ Rd H a (.lst (ns.map V.int))) ∨ SqL Γ.K (fun _ => none) a (ns.map V.int)) → RT Γ H F (.scr ns) (.ref a) (fun _ => False)
  | dN {a : Addr} {w : World} {xs : List (NestedKey × Addr × Value)} {kvs : List (PyData × PyData)} : H a = some (.ext (DNp w a xs)) → NR Γ.K H F kvs xs → RT Γ H F (.dN kvs) (.ref a) (fun b => b = a)
inductive RTs (Γ : Ctx) (H : Hp) (F : Fs) : List T → List V → Fs → Prop
  | nil : RTs Γ H F [] [] (fun _ => False)
  | cons {t : T} {ts : List T} {v : V} {vs : List V} {P Q : Fs} : RT Γ H F t v P → RTs Γ H F ts vs Q → (∀ a, P a → ¬ Q a) → RTs Γ H F (t :: ts) (v :: vs) (fun b => P b ∨ Q b)
end
def Tup (H : Hp) (a : Addr) : Prop := ∃ vs, H a = some (.tup vs)
structure Ext (H : Hp) (F O : Fs) (H' : Hp) (F' O' : Fs) : Prop where
  keep : ∀ a o, H a = some o → ¬ O a → H' a = some o
  mono : ∀ a, F a → F' a
  own : ∀ a, O' a → O a ∨ H a = none
  frz : ∀ a, F' a → F a ∨ O a ∨ H a = none ∨ Tup H a
  dom : (∀ a, F a → ∃ o, H a = some o) → ∀ a, F' a → ∃ o, H' a = some o

theorem Ext.refl (H : Hp) (F O : Fs) : Ext H F O H F O := ⟨fun _ _ h _ => h, fun _ h => h, fun _ h => .inl h, fun _ h => .inl h, fun h => h⟩
theorem Ext.trans {H H1 H2 : Hp} {F F1 F2 O O1 O2 : Fs} (a : Ext H F O H1 F1 O1) (b : Ext H1 F1 O1 H2 F2 O2) : Ext H F O H2 F2 O2 := by
  have back : ∀ x, H1 x = none → O x ∨ H x = none := fun x h => by
    cases e : H x with
    | none => exact .inr rfl
    | some o =>
      by_cases ho : O x
      · exact .inl ho
      · rw [a.keep x o e ho] at h; cases h
  refine ⟨fun x o h ho => ?_, fun x h => b.mono x (a.mono x h), fun x h => ?_, fun x h => ?_, fun h => b.dom (a.dom h)⟩
  · refine b.keep x o (a.keep x o h ho) fun h1 => ?_
    rcases a.own x h1 with q | q
    · exact ho q
    · rw [h] at q; cases q
  · rcases b.own x h with q | q
    · exact a.own x q
    · exact back x q
  · rcases b.frz x h with q | q | q | ⟨vs, q⟩
    · exact a.frz x q
    · rcases a.own x q with q | q
      · exact .inr (.inl q)
      · exact .inr (.inr (.inl q))
    · rcases back x q with q | q
      · exact .inr (.inl q)
      · exact .inr (.inr (.inl q))
    · cases e : H x with
      | none => exact .inr (.inr (.inl rfl))
      | some o =>
        by_cases ho : O x
        · exact .inr (.inl ho)
        · rw [a.keep x o e ho] at q
          cases q
          exact .inr (.inr (.inr ⟨vs, e⟩))

section
variable {K : PySem.W.Frag} {Γ : Ctx} {H H' : Hp} {F F' O O' : Fs}
mutual
theorem FR.keep (k : ∀ a o, F a → H a = some o → H' a = some o) (m : ∀ a, F a → F' a) : ∀ {d : PyData} {v : V}, FR K H F d v → FR K H' F' d v
  | _, _, .non => .non
  | _, _, .bl b => .bl b
  | _, _, .int i => .int i
  | _, _, .str s => .str s
  | _, _, .tup f h r => .tup (m _ f) (k _ _ f h) (FRs.keep k m r)
  | _, _, .lst f h r => .lst (m _ f) (k _ _ f h) (FRs.keep k m r)
  | _, _, .dK f h r => .dK (m _ f) (k _ _ f h) (FRs.keep k m r)
  | _, _, .dT f h r => .dT (m _ f) (k _ _ f h) (FRs.keep k m r)
theorem FRs.keep (k : ∀ a o, F a → H a = some o → H' a = some o) (m : ∀ a, F a → F' a) : ∀ {ds : List PyData} {vs : List V}, FRs K H F ds vs → FRs K H' F' ds vs
  | _, _, .nil => .nil
  | _, _, .cons h t => .cons (FR.keep k m h) (FRs.keep k m t)
end
theorem NR.keep (k : ∀ a o, F a → H a = some o → H' a = some o) (m : ∀ a, F a → F' a) {kvs : List (PyData × PyData)} {xs : List (NestedKey × Addr × Value)} (h : NR K H F kvs xs) : NR K H' F' kvs xs := by
  induction h with
  | nil => exact .nil
  | cons a b c d e _ ih => exact .cons a b (c.keep k m) (d.keep k m) e ih
mutual
theorem RT.keep (k : ∀ a o, F a → H a = some o → H' a = some o) (m : ∀ a, F a → F' a) : ∀ {t : T} {v : V} {P : Fs}, RT Γ H F t v P → (∀ a o, P a → H a = some o → H' a = some o) → RT Γ H' F' t v P
  | _, _, _, .v h, _ => .v (FR.keep k m h)
  | _, _, _, .lst h r n, q => .lst (q _ _ (.inl rfl) h) (RTs.keep k m r fun a o ha => q a o (.inr ha)) n
  | _, _, _, .dK e h r n, q => .dK e (q _ _ (.inl rfl) h) (RTs.keep k m r fun a o ha => q a o (.inr ha)) n
  | _, _, _, .dT e h r n, q => .dT e (q _ _ (.inl rfl) h) (RTs.keep k m r fun a o ha => q a o (.inr ha)) n
  | _, _, _, .obj e h r n, q => .obj e (q _ _ (.inl rfl) h) (RTs.keep k m r fun a o ha => q a o (.inr ha)) n
  | _, _, _, .scr h, _ => .scr (by
    rcases h with ⟨f, h⟩ | h
    · refine .inl ⟨m _ f, ?_⟩
      rcases h with h | ⟨o, h⟩
      · exact .inl (k _ _ f h)
      · exact .inr ⟨o, k _ _ f h⟩
    · exact .inr h)
  | _, _, _, .dN h r, q => .dN (q _ _ rfl h) (r.keep k m)
theorem RTs.keep (k : ∀ a o, F a → H a = some o → H' a = some o) (m : ∀ a, F a → F' a) : ∀ {ts : List T} {vs : List V} {P : Fs}, RTs Γ H F ts vs P → (∀ a o, P a → H a = some o → H' a = some o) → RTs Γ H' F' ts vs P
  | _, _, _, .nil, _ => .nil
  | _, _, _, .cons h t d, q => .cons (RT.keep k m h fun a o ha => q a o (.inl ha)) (RTs.keep k m t fun a o ha => q a o (.inr ha)) d
end
theorem FR.ext (x : Ext H F O H' F' O') (n : ∀ a, F a → ¬ O a) {d : PyData} {v : V} (h : FR K H F d v) : FR K H' F' d v := h.keep (fun a o f e => x.keep a o e (n a f)) x.mono
theorem FRs.ext (x : Ext H F O H' F' O') (n : ∀ a, F a → ¬ O a) {d : List PyData} {v : List V} (h : FRs K H F d v) : FRs K H' F' d v := h.keep (fun a o f e => x.keep a o e (n a f)) x.mono
theorem RT.ext (x : Ext H F O H' F' O') (n : ∀ a, F a → ¬ O a) {t : T} {v : V} {P : Fs} (h : RT Γ H F t v P) (q : ∀ a, P a → ¬ O a) : RT Γ H' F' t v P := h.keep (fun a o f e => x.keep a o e (n a f)) x.mono fun a o p e => x.keep a o e (q a p)
mutual
theorem RT.dom : ∀ {t : T} {v : V} {P : Fs}, RT Γ H F t v P → ∀ a, P a → ∃ o, H a = some o
  | _, _, _, .v _, _, h => h.elim
  | _, _, _, .lst h r m, b, q => by
    rcases q with q | q
    · rw [q]; exact ⟨_, h⟩
    · exact RTs.dom r b q
  | _, _, _, .dK e h r m, b, q => by
    rcases q with q | q
    · rw [q]; exact ⟨_, h⟩
    · exact RTs.dom r b q
  | _, _, _, .dT e h r m, b, q => by
    rcases q with q | q
    · rw [q]; exact ⟨_, h⟩
    · exact RTs.dom r b q
  | _, _, _, .obj e h r m, b, q => by
    rcases q with q | q
    · rw [q]; exact ⟨_, h⟩
    · exact RTs.dom r b q
  | _, _, _, .scr _, _, h => h.elim
  | _, _, _, .dN h r, b, q => by rw [q]; exact ⟨_, h⟩
theorem RTs.dom : ∀ {ts : List T} {vs : List V} {P : Fs}, RTs Γ H F ts vs P → ∀ a, P a → ∃ o, H a = some o
  | _, _, _, .nil, _, h => h.elim
  | _, _, _, .cons h t d, b, q => by
    rcases q with q | q
    · exact RT.dom h b q
    · exact RTs.dom t b q
end
mutual
theorem RT.nt : ∀ {t : T} {v : V} {P : Fs}, RT Γ H F t v P → ∀ a, P a → ¬ Tup H a
  | _, _, _, .v _, _, h => h.elim
  | _, _, _, .lst h r m, b, q => fun ⟨vs, z⟩ => by
    rcases q with q | q
    · rw [q, h] at z; cases z
    · exact RTs.nt r b q ⟨vs, z⟩
  | _, _, _, .dK e h r m, b, q => fun ⟨vs, z⟩ => by
    rcases q with q | q
    · rw [q, h] at z; cases z
    · exact RTs.nt r b q ⟨vs, z⟩
  | _, _, _, .dT e h r m, b, q => fun ⟨vs, z⟩ => by
    rcases q with q | q
    · rw [q, h] at z; cases z
    · exact RTs.nt r b q ⟨vs, z⟩
  | _, _, _, .obj e h r m, b, q => fun ⟨vs, z⟩ => by
    rcases q with q | q
    · rw [q, h] at z; cases z
    · exact RTs.nt r b q ⟨vs, z⟩
  | _, _, _, .scr _, _, h => h.elim
  | _, _, _, .dN h r, b, q => fun ⟨vs, z⟩ => by rw [q, h] at z; cases z
theorem RTs.nt : ∀ {ts : List T} {vs : List V} {P : Fs}, RTs Γ H F ts vs P → ∀ a, P a → ¬ Tup H a
  | _, _, _, .nil, _, h => h.elim
  | _, _, _, .cons h t d, b, q => by
    rcases q with q | q
    · exact RT.nt h b q
    · exact RTs.nt t b q
end
theorem FRs.length : ∀ {ds : List PyData} {vs : List V}, FRs K H F ds vs → ds.length = vs.length
  | _, _, .nil => rfl
  | _, _, .cons _ t => by rw [List.length_cons, List.length_cons, FRs.length t]
theorem RTs.length : ∀ {ts : List T} {vs : List V} {P : Fs}, RTs Γ H F ts vs P → ts.length = vs.length
  | _, _, _, .nil => rfl
  | _, _, _, .cons _ t _ => by rw [List.length_cons, List.length_cons, RTs.length t]
theorem FRs.get : ∀ {ds : List PyData} {vs : List V}, FRs K H F ds vs → ∀ (i : Nat) (d : PyData), ds[i]? = some d → ∃ v, vs[i]? = some v ∧ FR K H F d v
  | _, _, .nil, i, d, h => by simp at h
  | _, _, .cons h t, 0, d, e => by simp at e; subst e; exact ⟨_, rfl, h⟩
  | _, _, .cons h t, i + 1, d, e => by
    obtain ⟨v, a, b⟩ := FRs.get t i d (by simpa using e)
    exact ⟨v, by simpa using a, b⟩
theorem FRs.append : ∀ {ds es : List PyData} {vs us : List V}, FRs K H F ds vs → FRs K H F es us → FRs K H F (ds ++ es) (vs ++ us)
  | _, _, _, _, .nil, s => s
  | _, _, _, _, .cons h t, s => .cons h (FRs.append t s)
theorem FRs.drop : ∀ {ds : List PyData} {vs : List V} (n : Nat), FRs K H F ds vs → FRs K H F (ds.drop n) (vs.drop n)
  | _, _, 0, h => h
  | _, _, _ + 1, .nil => .nil
  | _, _, n + 1, .cons _ t => FRs.drop n t
theorem FRs.take : ∀ {ds : List PyData} {vs : List V} (n : Nat), FRs K H F ds vs → FRs K H F (ds.take n) (vs.take n)
  | _, _, 0, _ => .nil
  | _, _, _ + 1, .nil => .nil
  | _, _, n + 1, .cons h t => .cons h (FRs.take n t)
end

abbrev Env := Nat → Option T
def ow (fp : Nat → Fs) : Fs := fun a => ∃ i, fp i a
structure REnv (Γ : Ctx) (H : Hp) (F : Fs) (env : Env) (σ : St) (fp : Nat → Fs) : Prop where
  rep : ∀ i t, env i = some t → ∃ v, σ[i]? = some (some v) ∧ RT Γ H F t v (fp i)
  emp : ∀ i a, env i = none → ¬ fp i a
  dis : ∀ i j a, fp i a → fp j a → i = j
  nf : ∀ i a, fp i a → ¬ F a
  fd : ∀ a, F a → ∃ o, H a = some o
section
variable {Γ : Ctx} {H H' : Hp} {F F' O O' : Fs} {env : Env} {σ : St} {fp : Nat → Fs}
theorem REnv.fo (r : REnv Γ H F env σ fp) : ∀ a, F a → ¬ ow fp a := fun a h ⟨i, q⟩ => r.nf i a q h
theorem REnv.dom (r : REnv Γ H F env σ fp) {a : Addr} (h : ow fp a) : ∃ o, H a = some o := by
  obtain ⟨i, q⟩ := h
  cases e : env i with
  | none => exact (r.emp i a e q).elim
  | some t =>
    obtain ⟨v, _, t⟩ := r.rep i t e
    exact t.dom a q
theorem REnv.nt (r : REnv Γ H F env σ fp) {a : Addr} (h : ow fp a) : ¬ Tup H a := by
  obtain ⟨i, q⟩ := h
  cases e : env i with
  | none => exact (r.emp i a e q).elim
  | some t =>
    obtain ⟨v, _, t⟩ := r.rep i t e
    exact t.nt a q
theorem REnv.ext (r : REnv Γ H F env σ fp) (x : Ext H F O H' F' O') (n : ∀ a, F a → ¬ O a) (m : ∀ a, ow fp a → ¬ O a) (k : ∀ a, ow fp a → ¬ F' a) : REnv Γ H' F' env σ fp :=
  ⟨fun i t e => let ⟨v, a, b⟩ := r.rep i t e; ⟨v, a, b.ext x n fun a ha => m a ⟨i, ha⟩⟩, r.emp, r.dis, fun i a h => k a ⟨i, h⟩, x.dom r.fd⟩
end

structure Exn where
  cls : Nat
  ns : List Str
  ds : List PyData
inductive Res (α : Type) where
  | ok (a : α) (e : Env)
  | exc (x : Exn) (e : Env)
  | bad
def M (α : Type) := Env → Res α
def M.pure {α : Type} (a : α) : M α := fun e => .ok a e
def M.bind {α β : Type} (m : M α) (f : α → M β) : M β := fun e => match m e with
  | .ok a e' => f a e'
  | .exc x e' => .exc x e'
  | .bad => .bad
def M.bad {α : Type} : M α := fun _ => .bad
instance : Monad M where
  pure := M.pure
  bind := M.bind

def RX (Γ : Ctx) (H : Hp) (F : Fs) (x : Exn) (cls : Value) (d : Option Addr) : Prop :=
  cls = .ref (Γ.cl x.cls) ∧ ((x.ns = [] ∧ d = none) ∨ ∃ a vs, d = some a ∧ F a ∧ H a = some (.xd (x.ns.zip vs)) ∧ x.ns.length = vs.length ∧ FRs Γ.K H F x.ds vs)

abbrev Rel (α β : Type) := Hp → Fs → α → β → Fs → Prop
def Post (Γ : Ctx) (W : WX) {α β : Type} (rel : Rel α β) (σ : St) (H : Hp) (F : Fs) (fp : Nat → Fs) (Q : β → Hp → Prop) : Res α → Prop
  | .ok a env' => ∀ b H' F' fp' P, REnv Γ H' F' env' σ fp' → rel H' F' a b P → (∀ x, P x → ¬ ow fp' x ∧ ¬ F' x ∧ ∃ o, H' x = some o) → Ext H F (ow fp) H' F' (fun x => P x ∨ ow fp' x) → Q b H'
  | .exc x env' => ∀ cls d H' F' fp', REnv Γ H' F' env' σ fp' → RX Γ H' F' x cls d → Ext H F (ow fp) H' F' (ow fp') → W cls d σ H'
  | .bad => False
def G (Γ : Ctx) (W : WX) {α β : Type} (rel : Rel α β) (m : M α) : St → Hp → (β → Hp → Prop) → Prop := fun σ H Q =>
  ∃ F env fp, REnv Γ H F env σ fp ∧ Post Γ W rel σ H F fp Q (m env)

abbrev relE (Γ : Ctx) : Rel PyData V := fun H F d v P => FR Γ.K H F d v ∧ P = fun _ => False
abbrev relT (Γ : Ctx) : Rel T V := fun H F t v P => RT Γ H F t v P
abbrev relB : Rel Bool Bool := fun _ _ a b P => a = b ∧ P = fun _ => False
abbrev tE (Γ : Ctx) (W : WX) (m : M PyData) : TE := G Γ W (relE Γ) m
abbrev tO (Γ : Ctx) (W : WX) (m : M T) : TE := G Γ W (relT Γ) m
abbrev tB' (Γ : Ctx) (W : WX) (m : M Bool) : TT := G Γ W relB m
end PD

namespace PD
open PySem PySem.Spec PyProof.Rows L2

theorem PE.imp {X : Cx} {e : Expr} {t t' : TE} (h : PE X e t) (i : ∀ σ H Q, t' σ H Q → t σ H Q) : PE X e t' := ⟨fun pins s σ H Q I q => h.run pins s σ H Q I (i σ H Q q)⟩
theorem PT.imp {X : Cx} {e : Expr} {t t' : TT} (h : PT X e t) (i : ∀ σ H Q, t' σ H Q → t σ H Q) : PT X e t' := ⟨fun pins s σ H Q I q => h.run pins s σ H Q I (i σ H Q q)⟩
theorem PA.imp {X : Cx} {e : List Expr} {t t' : TA} (h : PA X e t) (i : ∀ σ H Q, t' σ H Q → t σ H Q) : PA X e t' := ⟨fun p pins s σ H Q I q => h.run p pins s σ H Q I (i σ H Q q)⟩
theorem PS.imp {X : Cx} {e : Stmt} {t t' : TS} (h : PS X e t) (i : ∀ D σ H, t' D σ H → t D σ H) : PS X e t' := ⟨fun pins s σ H D I q => h.run pins s σ H D I (i D σ H q)⟩
theorem PSs.imp {X : Cx} {e : List Stmt} {t t' : TS} (h : PSs X e t) (i : ∀ D σ H, t' D σ H → t D σ H) : PSs X e t' := ⟨fun pins s σ H D I q => h.run pins s σ H D I (i D σ H q)⟩

section
variable {Γ : Ctx} {W : WX} {α β γ δ : Type} {rel : Rel α β} {σ : St} {H H' : Hp} {F F' : Fs} {fp fp' : Nat → Fs} {env env' : Env} {Q : β → Hp → Prop}
theorem Post.rebase {r : Res α} (h : Post Γ W rel σ H F fp Q r) (x : Ext H F (ow fp) H' F' (ow fp')) : Post Γ W rel σ H' F' fp' Q r := by
  cases r with
  | ok a e => exact fun b H2 F2 fp2 P r1 r2 r3 r4 => h b H2 F2 fp2 P r1 r2 r3 (x.trans r4)
  | exc y e => exact fun c d H2 F2 fp2 r1 r2 r4 => h c d H2 F2 fp2 r1 r2 (x.trans r4)
  | bad => exact h
theorem ext_of {O O' : Fs} {P : Fs} (x : Ext H F O H' F' O') (e : ∀ a, P a → O' a) : Ext H F O H' F' P :=
  ⟨x.keep, x.mono, fun a h => x.own a (e a h), x.frz, x.dom⟩
theorem Ext.emp {O O' : Fs} (x : Ext H F O H' F' (fun a => (fun _ => False) a ∨ O' a)) : Ext H F O H' F' O' := ext_of x fun a h => .inr h
theorem Ext.emp' {O O' : Fs} (x : Ext H F O H' F' O') : Ext H F O H' F' (fun a => (fun _ => False) a ∨ O' a) := ext_of x fun a h => h.elim False.elim id
theorem ext_new {O : Fs} {p : Addr} {o : HO} (hp : H p = none) (r : ∀ a, O a → ∃ o, H a = some o) : Ext H F O (upd H p o) (fun a => F a ∨ a = p) O :=
  ⟨fun a u h _ => by rw [upd_ne (ne_of_none h hp)]; exact h, fun a h => .inl h, fun a h => .inl h, fun a h => by
    rcases h with h | h
    · exact .inl h
    · rw [h]; exact .inr (.inr (.inl hp)), fun fd a h => by
      rcases h with h | h
      · obtain ⟨u, e⟩ := fd a h
        exact ⟨u, by rw [upd_ne (ne_of_none e hp)]; exact e⟩
      · exact ⟨o, by rw [h]; exact upd_same⟩⟩
theorem REnv.new (r : REnv Γ H F env σ fp) {p : Addr} {o : HO} (hp : H p = none) : REnv Γ (upd H p o) (fun a => F a ∨ a = p) env σ fp := by
  have no : ∀ a, ow fp a → a ≠ p := fun a h e => by
    obtain ⟨u, q⟩ := r.dom h
    rw [e, hp] at q; cases q
  refine r.ext (O := fun _ => False) (O' := fun _ => False) ⟨fun a u h _ => by rw [upd_ne (ne_of_none h hp)]; exact h, fun a h => .inl h, fun a h => .inl h, fun a h => ?_, fun fd a h => by
      rcases h with h | h
      · obtain ⟨u, e⟩ := fd a h
        exact ⟨u, by rw [upd_ne (ne_of_none e hp)]; exact e⟩
      · exact ⟨o, by rw [h]; exact upd_same⟩⟩ (fun _ _ h => h) (fun _ _ h => h) fun a h q => ?_
  · rcases h with h | h
    · exact .inl h
    · rw [h]; exact .inr (.inr (.inl hp))
  · rcases q with q | q
    · exact r.fo a q h
    · exact no a h q
theorem FRs.new {K : PySem.W.Frag} {d : List PyData} {v : List V} {p : Addr} {o : HO} (h : FRs K H F d v) (hp : H p = none) : FRs K (upd H p o) (fun a => F a ∨ a = p) d v :=
  FRs.ext (O := fun _ => False) (O' := fun _ => False) ⟨fun a u h _ => by rw [upd_ne (ne_of_none h hp)]; exact h, fun a h => .inl h, fun a h => .inl h, fun a h => by
    rcases h with h | h
    · exact .inl h
    · rw [h]; exact .inr (.inr (.inl hp)), fun fd a h => by
      rcases h with h | h
      · obtain ⟨u, e⟩ := fd a h
        exact ⟨u, by rw [upd_ne (ne_of_none e hp)]; exact e⟩
      · exact ⟨o, by rw [h]; exact upd_same⟩⟩ (fun _ _ h => h) h
end

section
variable {Γ : Ctx} {W : WX} {σ : St} {H H' : Hp} {F F' : Fs} {fp fp' : Nat → Fs} {env env' : Env} {Q : VK} {d : PyData} {v : V}
abbrev PostE (Γ : Ctx) (W : WX) := Post Γ W (relE Γ)
theorem fin_same (hm : PostE Γ W σ H F fp Q (.ok d env)) (r : REnv Γ H F env σ fp) (h : FR Γ.K H F d v) : Q v H :=
  hm v H F fp (fun _ => False) r ⟨h, rfl⟩ (fun _ z => z.elim) (Ext.emp' (Ext.refl _ _ _))
theorem fin_new {o : HO} {p : Addr} (hm : PostE Γ W σ H F fp Q (.ok d env)) (r : REnv Γ H F env σ fp) (hp : H p = none) (h : FR Γ.K (upd H p o) (fun a => F a ∨ a = p) d (.ref p)) : Q (.ref p) (upd H p o) :=
  hm (.ref p) _ _ fp (fun _ => False) (r.new hp) ⟨h, rfl⟩ (fun _ z => z.elim) (Ext.emp' (ext_new hp fun a h => r.dom h))
theorem fr_tup {K : PySem.W.Frag} {p : Addr} {ds : List PyData} {vs : List V} (h : FRs K H F ds vs) (hp : H p = none) : FR K (upd H p (.tup vs)) (fun a => F a ∨ a = p) (.tuple ds) (.ref p) :=
  .tup (.inr rfl) upd_same (h.new hp)
theorem fr_lst {K : PySem.W.Frag} {p : Addr} {ds : List PyData} {vs : List V} (h : FRs K H F ds vs) (hp : H p = none) : FR K (upd H p (.lst vs)) (fun a => F a ∨ a = p) (.list ds) (.ref p) :=
  .lst (.inr rfl) upd_same (h.new hp)
theorem fin_tup {p : Addr} {ds : List PyData} {vs : List V} (hm : PostE Γ W σ H F fp Q (.ok (.tuple ds) env)) (r : REnv Γ H F env σ fp) (hp : H p = none) (h : FRs Γ.K H F ds vs) : Q (.ref p) (upd H p (.tup vs)) := fin_new hm r hp (fr_tup h hp)
theorem fin_lst {p : Addr} {ds : List PyData} {vs : List V} (hm : PostE Γ W σ H F fp Q (.ok (.list ds) env)) (r : REnv Γ H F env σ fp) (hp : H p = none) (h : FRs Γ.K H F ds vs) : Q (.ref p) (upd H p (.lst vs)) := fin_new hm r hp (fr_lst h hp)
end

section
variable {Γ : Ctx} {W : WX} {α β γ : Type} {rel : Rel γ β} {σ : St} {H : Hp} {Q : β → Hp → Prop}
def At1 (Γ : Ctx) (W : WX) (rel : Rel γ β) (k : PyData → M γ) (x : V) (σ : St) (H : Hp) (Q : β → Hp → Prop) : Prop :=
  ∃ F env fp a, REnv Γ H F env σ fp ∧ FR Γ.K H F a x ∧ Post Γ W rel σ H F fp Q (k a env)
def At2 (Γ : Ctx) (W : WX) (rel : Rel γ β) (k : PyData → PyData → M γ) (x y : V) (σ : St) (H : Hp) (Q : β → Hp → Prop) : Prop :=
  ∃ F env fp a b, REnv Γ H F env σ fp ∧ FR Γ.K H F a x ∧ FR Γ.K H F b y ∧ Post Γ W rel σ H F fp Q (k a b env)
def AtL (Γ : Ctx) (W : WX) (rel : Rel γ β) (k : List PyData → M γ) (xs : List V) (σ : St) (H : Hp) (Q : β → Hp → Prop) : Prop :=
  ∃ F env fp a, REnv Γ H F env σ fp ∧ FRs Γ.K H F a xs ∧ Post Γ W rel σ H F fp Q (k a env)
abbrev relA (Γ : Ctx) : Rel (List PyData) (List V) := fun H F ds vs P => FRs Γ.K H F ds vs ∧ P = fun _ => False
abbrev tA (Γ : Ctx) (W : WX) (m : M (List PyData)) : TA := G Γ W (relA Γ) m
theorem bind_ok {m : M α} {k : α → M γ} {env env' : Env} {a : α} (e : m env = .ok a env') : (m >>= k) env = k a env' := by
  show M.bind m k env = _
  unfold M.bind
  rw [e]
theorem bind_exc {m : M α} {k : α → M γ} {env env' : Env} {x : Exn} (e : m env = .exc x env') : (m >>= k) env = .exc x env' := by
  show M.bind m k env = _
  unfold M.bind
  rw [e]
theorem bind_bad {m : M α} {k : α → M γ} {env : Env} (e : m env = .bad) : (m >>= k) env = .bad := by
  show M.bind m k env = _
  unfold M.bind
  rw [e]
theorem G_bind {α β' : Type} {rel1 : Rel α β'} {m : M α} {k : α → M γ} {R : β' → Hp → Prop} (hP : ∀ H F a b P, rel1 H F a b P → P = fun _ => False) (h : G Γ W rel (m >>= k) σ H Q)
    (hR : ∀ b H' F' env' fp' a, REnv Γ H' F' env' σ fp' → rel1 H' F' a b (fun _ => False) → Post Γ W rel σ H' F' fp' Q (k a env') → R b H') : G Γ W rel1 m σ H R := by
  obtain ⟨F, env, fp, r, hm⟩ := h
  refine ⟨F, env, fp, r, ?_⟩
  cases e : m env with
  | ok a e1 =>
    rw [bind_ok e] at hm
    intro b H1 F1 fp1 P r1 h1 hd x
    have hp := hP _ _ _ _ _ h1
    subst hp
    exact hR b H1 F1 e1 fp1 a r1 h1 (hm.rebase x.emp)
  | exc y e1 =>
    rw [bind_exc e] at hm
    exact fun c d H1 F1 fp1 r1 r2 r3 => hm c d H1 F1 fp1 r1 r2 r3
  | bad =>
    rw [bind_bad e] at hm
    exact hm
theorem G_one {ma : M PyData} {k : PyData → M γ} (h : G Γ W rel (ma >>= k) σ H Q) : tE Γ W ma σ H fun x H1 => At1 Γ W rel k x σ H1 Q :=
  G_bind (rel1 := relE Γ) (fun _ _ _ _ _ h => h.2) h fun b H1 F1 e1 fp1 a r h hm => ⟨F1, e1, fp1, a, r, h.1, hm⟩
theorem G_two {ma mb : M PyData} {k : PyData → PyData → M γ} (h : G Γ W rel (do let a ← ma; let b ← mb; k a b) σ H Q) :
    tE Γ W ma σ H fun x H1 => tE Γ W mb σ H1 fun y H2 => At2 Γ W rel k x y σ H2 Q := by
  refine G_bind (rel1 := relE Γ) (fun _ _ _ _ _ h => h.2) h fun x H1 F1 e1 fp1 a r h1 hm => ?_
  refine ⟨F1, e1, fp1, r, ?_⟩
  cases e : mb e1 with
  | ok b e2 =>
    rw [bind_ok e] at hm
    intro y H2 F2 fp2 P r2 h2 hd x2
    obtain ⟨h2, rfl⟩ := h2
    exact ⟨F2, e2, fp2, a, b, r2, h1.1.ext x2.emp r.fo, h2, hm.rebase x2.emp⟩
  | exc y e2 =>
    rw [bind_exc e] at hm
    exact fun c d H2 F2 fp2 r1 r2 r3 => hm c d H2 F2 fp2 r1 r2 r3
  | bad =>
    rw [bind_bad e] at hm
    exact hm
theorem G_list {ma : M (List PyData)} {k : List PyData → M γ} (h : G Γ W rel (ma >>= k) σ H Q) : tA Γ W ma σ H fun x H1 => AtL Γ W rel k x σ H1 Q :=
  G_bind (rel1 := relA Γ) (fun _ _ _ _ _ h => h.2) h fun b H1 F1 e1 fp1 a r h hm => ⟨F1, e1, fp1, a, r, h.1, hm⟩
theorem Post.mono {α : Type} {rel : Rel α β} {F : Fs} {fp : Nat → Fs} {r : Res α} {Q Q' : β → Hp → Prop} (h : Post Γ W rel σ H F fp Q r) (i : ∀ b H', Q b H' → Q' b H') : Post Γ W rel σ H F fp Q' r := by
  cases r with
  | ok a e => exact fun b H2 F2 fp2 P r1 r2 r3 r4 => i _ _ (h b H2 F2 fp2 P r1 r2 r3 r4)
  | exc y e => exact h
  | bad => exact h
theorem G_mono {α : Type} {rel : Rel α β} {m : M α} {Q Q' : β → Hp → Prop} (h : G Γ W rel m σ H Q) (i : ∀ b H', Q b H' → Q' b H') : G Γ W rel m σ H Q' := by
  obtain ⟨F, env, fp, r, hm⟩ := h
  exact ⟨F, env, fp, r, hm.mono i⟩
end

section
variable {X : Cx} {cl : Nat → Addr} {W : WX}
abbrev DE (X : Cx) (cl : Nat → Addr) (W : WX) (e : Expr) (m : M PyData) : Prop := PE X e (tE ⟨X.K, cl⟩ W m)
abbrev DO (X : Cx) (cl : Nat → Addr) (W : WX) (e : Expr) (m : M T) : Prop := PE X e (tO ⟨X.K, cl⟩ W m)
abbrev DT (X : Cx) (cl : Nat → Addr) (W : WX) (e : Expr) (m : M Bool) : Prop := PT X e (tB' ⟨X.K, cl⟩ W m)
abbrev DA (X : Cx) (cl : Nat → Addr) (W : WX) (es : List Expr) (m : M (List PyData)) : Prop := PA X es (tA ⟨X.K, cl⟩ W m)

variable {a b e : Expr} {ma mb : M PyData} {pos : Pos}
def mC (d : PyData) : M PyData := pure d
theorem tC_of {Γ : Ctx} {v : V} {d : PyData} (h : ∀ H F, FR Γ.K H F d v) (σ : St) (H : Hp) (Q : VK) (q : tE Γ W (mC d) σ H Q) : tC v σ H Q := by
  obtain ⟨F, env, fp, r, hm⟩ := q
  exact fin_same hm r (h H F)
theorem de_int {i j pos} : DE X cl W (.Constant (.int i) j pos) (mC (.int i)) := PE.imp pe_int (tC_of fun _ _ => .int i)
theorem de_bl {b j pos} : DE X cl W (.Constant (.bool b) j pos) (mC (.bool b)) := PE.imp pe_bl (tC_of fun _ _ => .bl b)
theorem de_non {j pos} : DE X cl W (.Constant .none j pos) (mC .none) := PE.imp pe_non (tC_of fun _ _ => .non)
end

section
variable {X : Cx} {cl : Nat → Addr} {W : WX} {a b e : Expr} {ma mb : M PyData} {pos : Pos}
def lift {α : Type} (o : Option α) : M α := fun env => match o with
  | some d => .ok d env
  | none => .bad
def mBin (f : PyData → PyData → Option PyData) (ma mb : M PyData) : M PyData := do
  let a ← ma
  let b ← mb
  lift (f a b)
def mUn (f : PyData → Option PyData) (ma : M PyData) : M PyData := do
  let a ← ma
  lift (f a)
def mArgs (f : List PyData → Option PyData) (ma : M (List PyData)) : M PyData := do
  let a ← ma
  lift (f a)
theorem post_lift {Γ : Ctx} {σ : St} {H : Hp} {F : Fs} {fp : Nat → Fs} {Q : VK} {o : Option PyData} {env : Env} (h : PostE Γ W σ H F fp Q (lift o env)) : ∃ c, o = some c ∧ PostE Γ W σ H F fp Q (.ok c env) := by
  cases o with
  | none => exact h.elim
  | some c => exact ⟨c, rfl, h⟩
structure BinOk (Γ : Ctx) (f : PyData → PyData → Option PyData) (r : R2) : Prop where
  ok : ∀ (W : WX) (σ : St) (x y : V) (H : Hp) (Q : VK) (F : Fs) (env : Env) (fp : Nat → Fs) (d d' c : PyData), REnv Γ H F env σ fp → FR Γ.K H F d x → FR Γ.K H F d' y → f d d' = some c → PostE Γ W σ H F fp Q (.ok c env) → r x y H Q
theorem BinOk.use {Γ : Ctx} {f : PyData → PyData → Option PyData} {r : R2} (h : BinOk Γ f r) (σ : St) (H : Hp) (Q : VK) (q : tE Γ W (mBin f ma mb) σ H Q) : tOp r (tE Γ W ma) (tE Γ W mb) σ H Q := by
  refine G_mono (G_two (k := fun a b => lift (f a b)) q) fun x H1 z => G_mono z fun y H2 z2 => ?_
  obtain ⟨F, env, fp, d, d', r1, h1, h2, hm⟩ := z2
  obtain ⟨c, e, hm⟩ := post_lift hm
  exact h.ok W σ x y H2 Q F env fp d d' c r1 h1 h2 e hm
theorem de_bin {op : Operator} {f : PyData → PyData → Option PyData} {r : R2} (ho : OpR X (binaryOp op) r) (hb : BinOk ⟨X.K, cl⟩ f r) (h1 : DE X cl W a ma) (h2 : DE X cl W b mb) : DE X cl W (.BinOp a op b pos) (mBin f ma mb) :=
  PE.imp (pe_op ho h1 h2) hb.use
theorem BinOk.or {Γ : Ctx} {f g : PyData → PyData → Option PyData} {r r' : R2} (h : BinOk Γ f r) (h' : BinOk Γ g r') : BinOk Γ (fun a b => (f a b).orElse fun _ => g a b) (fun x y H Q => r x y H Q ∨ r' x y H Q) := by
  refine ⟨fun W σ x y H Q F env fp d d' c r1 h1 h2 e hm => ?_⟩
  cases q : f d d' with
  | some c' =>
    rw [q] at e
    exact .inl (h.ok W σ x y H Q F env fp d d' c r1 h1 h2 (q.trans e) hm)
  | none =>
    rw [q] at e
    exact .inr (h'.ok W σ x y H Q F env fp d d' c r1 h1 h2 e hm)
def intOp (C : Int → Int → Bool) (g : Int → Int → Int) : PyData → PyData → Option PyData
  | .int i, .int j => if C i j = true then some (.int (g i j)) else none
  | _, _ => none
theorem intOp_ok {Γ : Ctx} {C : Int → Int → Bool} {C' : Int → Int → Prop} {g : Int → Int → Int} (hC : ∀ i j, C i j = true → C' i j) : BinOk Γ (intOp C g) (rI C' fun i j => .int (g i j)) := by
  refine ⟨fun W σ x y H Q F env fp d d' c r1 h1 h2 e hm => ?_⟩
  cases h1 with
  | int i =>
    cases h2 with
    | int j =>
      replace e : (if C i j = true then some (PyData.int (g i j)) else none) = some c := e
      by_cases hc : C i j = true
      · rw [if_pos hc] at e
        cases e
        exact ⟨i, j, rfl, rfl, hC i j hc, fin_same hm r1 (.int _)⟩
      · rw [if_neg hc] at e; cases e
    | _ => cases e
  | _ => cases e
theorem intOp0_ok {Γ : Ctx} {g : Int → Int → Int} : BinOk Γ (intOp (fun _ _ => true) g) (rI0 fun i j => .int (g i j)) := by
  refine ⟨fun W σ x y H Q F env fp d d' c r1 h1 h2 e hm => ?_⟩
  obtain ⟨i, j, e1, e2, _, q⟩ := (intOp_ok (C' := fun _ _ => True) fun _ _ _ => trivial).ok W σ x y H Q F env fp d d' c r1 h1 h2 e hm
  exact ⟨i, j, e1, e2, q⟩
end
end PD

namespace PD
open PySem PySem.Spec PyProof.Rows L2
section
variable {Γ : Ctx}
def strAdd : PyData → PyData → Option PyData
  | .str a, .str b => if a.length + b.length ≤ sizeLine then some (.str (a ++ b)) else none
  | _, _ => none
def tupAdd : PyData → PyData → Option PyData
  | .tuple a, .tuple b => if a.length + b.length ≤ sizeLine then some (.tuple (a ++ b)) else none
  | _, _ => none
def lstAdd : PyData → PyData → Option PyData
  | .list a, .list b => if a.length + b.length ≤ sizeLine then some (.list (a ++ b)) else none
  | _, _ => none
theorem strAdd_ok : BinOk Γ strAdd (fun x y H Q => ∃ i j, x = .str i ∧ y = .str j ∧ i.length + j.length ≤ sizeLine ∧ Q (.str (i ++ j)) H) := by
  refine ⟨fun W σ x y H Q F env fp d d' c r1 h1 h2 e hm => ?_⟩
  cases h1 with
  | str i =>
    cases h2 with
    | str j =>
      replace e : (if i.length + j.length ≤ sizeLine then some (PyData.str (i ++ j)) else none) = some c := e
      by_cases hc : i.length + j.length ≤ sizeLine
      · rw [if_pos hc] at e
        cases e
        exact ⟨i, j, rfl, rfl, hc, fin_same hm r1 (.str _)⟩
      · rw [if_neg hc] at e; cases e
    | _ => cases e
  | _ => cases e
theorem tupAdd_ok : BinOk Γ tupAdd (rCatA Γ.K) := by
  refine ⟨fun W σ x y H Q F env fp d d' c r1 h1 h2 e hm => ?_⟩
  cases h1 with
  | @tup a vs ds fa sa ra =>
    cases h2 with
    | @tup b us es fb sb rb =>
      replace e : (if ds.length + es.length ≤ sizeLine then some (PyData.tuple (ds ++ es)) else none) = some c := e
      by_cases hc : ds.length + es.length ≤ sizeLine
      · rw [if_pos hc] at e
        cases e
        refine ⟨a, b, vs, us, rfl, rfl, SqT.of sa, SqT.of sb, by rw [← ra.length, ← rb.length]; exact hc, fun z => ?_, fun _ z => ?_, fun _ _ p hp => ?_⟩
        · subst z
          cases ra
          exact fin_same hm r1 (.tup fb sb rb)
        · subst z
          cases rb
          rw [List.append_nil] at hm
          exact fin_same hm r1 (.tup fa sa ra)
        · exact fin_tup hm r1 hp (ra.append rb)
      · rw [if_neg hc] at e; cases e
    | _ => cases e
  | _ => cases e
theorem lstAdd_ok : BinOk Γ lstAdd rCat := by
  refine ⟨fun W σ x y H Q F env fp d d' c r1 h1 h2 e hm => ?_⟩
  cases h1 with
  | @lst a vs ds fa sa ra =>
    cases h2 with
    | @lst b us es fb sb rb =>
      replace e : (if ds.length + es.length ≤ sizeLine then some (PyData.list (ds ++ es)) else none) = some c := e
      by_cases hc : ds.length + es.length ≤ sizeLine
      · rw [if_pos hc] at e
        cases e
        exact ⟨a, b, vs, us, rfl, rfl, sa, sb, by rw [← ra.length, ← rb.length]; exact hc, fun p hp => fin_lst hm r1 hp (ra.append rb)⟩
      · rw [if_neg hc] at e; cases e
    | _ => cases e
  | _ => cases e
def addI : PyData → PyData → Option PyData := intOp (fun _ _ => true) fun i j => i + j
def subI : PyData → PyData → Option PyData := intOp (fun _ _ => true) fun i j => i - j
def mulC (i j : Int) : Bool := (decide (-(2 ^ 64) < i) && decide (i < 2 ^ 64)) || (decide (-(2 ^ 64) < j) && decide (j < 2 ^ 64)) || decide (i.natAbs < 2 ^ 4000 ∧ j.natAbs < 2 ^ 4000)
theorem mulC_ok (i j : Int) (h : mulC i j = true) : CMul i j ∨ CMulW i j := by
  unfold mulC at h
  simp only [Bool.or_eq_true, Bool.and_eq_true, decide_eq_true_eq] at h
  rcases h with (h | h) | h
  · exact .inl (.inl h)
  · exact .inl (.inr h)
  · exact .inr (wide_mul h.1 h.2 (by decide) (by decide) (by decide))
def mulI : PyData → PyData → Option PyData := intOp mulC fun i j => i * j
def fdivI : PyData → PyData → Option PyData := intOp (fun _ j => decide (0 < j) && decide (j.natAbs < 2 ^ 4000)) fun i j => i / j
def modI : PyData → PyData → Option PyData := intOp (fun _ j => decide (0 < j)) fun i j => i % j
def powI : PyData → PyData → Option PyData := intOp (fun i j => decide (0 ≤ j) && decide (j ≤ 1000000) && decide (i.natAbs < 2 ^ 64)) fun i j => i ^ j.toNat
def addD : PyData → PyData → Option PyData := fun a b => (addI a b).orElse fun _ => (tupAdd a b).orElse fun _ => (lstAdd a b).orElse fun _ => strAdd a b
theorem add_ok {X : Cx} {cl : Nat → Addr} {W : WX} {a b : Expr} {ma mb : M PyData} {pos : Pos} (h1 : DE X cl W a ma) (h2 : DE X cl W b mb) : DE X cl W (.BinOp a .Add b pos) (mBin addD ma mb) :=
  de_bin (op_add.or (op_catA.or (op_cat.or op_add_str))) (intOp0_ok.or (tupAdd_ok.or (lstAdd_ok.or strAdd_ok))) h1 h2
theorem sub_ok {X : Cx} {cl : Nat → Addr} {W : WX} {a b : Expr} {ma mb : M PyData} {pos : Pos} (h1 : DE X cl W a ma) (h2 : DE X cl W b mb) : DE X cl W (.BinOp a .Sub b pos) (mBin subI ma mb) :=
  de_bin op_sub intOp0_ok h1 h2
theorem fdiv_ok {X : Cx} {cl : Nat → Addr} {W : WX} {a b : Expr} {ma mb : M PyData} {pos : Pos} (h1 : DE X cl W a ma) (h2 : DE X cl W b mb) : DE X cl W (.BinOp a .FloorDiv b pos) (mBin fdivI ma mb) :=
  de_bin op_fdivW (intOp_ok fun i j h => by
    simp only [Bool.and_eq_true, decide_eq_true_eq] at h
    exact wide_div h.1 h.2 (by decide) (by decide)) h1 h2
theorem mod_ok {X : Cx} {cl : Nat → Addr} {W : WX} {a b : Expr} {ma mb : M PyData} {pos : Pos} (h1 : DE X cl W a ma) (h2 : DE X cl W b mb) : DE X cl W (.BinOp a .Mod b pos) (mBin modI ma mb) :=
  de_bin op_mod (intOp_ok fun i j h => by simpa using h) h1 h2
theorem pow_ok {X : Cx} {cl : Nat → Addr} {W : WX} {a b : Expr} {ma mb : M PyData} {pos : Pos} (h1 : DE X cl W a ma) (h2 : DE X cl W b mb) : DE X cl W (.BinOp a .Pow b pos) (mBin powI ma mb) :=
  de_bin op_pow (intOp_ok fun i j h => by
    simp only [Bool.and_eq_true, decide_eq_true_eq] at h
    exact ⟨h.1.1, h.1.2, h.2⟩) h1 h2
def lstMul : PyData → PyData → Option PyData
  | .list a, .int k => if -(2 ^ 63) ≤ k ∧ k < 2 ^ 63 ∧ a.length * k.toNat ≤ sizeLine then some (.list (List.replicate k.toNat a).flatten) else none
  | _, _ => none
def tupMul : PyData → PyData → Option PyData
  | .tuple a, .int k => if a ≠ [] ∧ 2 ≤ k ∧ k ≤ 1000 ∧ a.length ≤ 1000 then some (.tuple (List.replicate k.toNat a).flatten) else none
  | _, _ => none
theorem FRs.rep {K : PySem.W.Frag} {H : Hp} {F : Fs} {ds : List PyData} {vs : List V} (h : FRs K H F ds vs) : ∀ k : Nat, FRs K H F (List.replicate k ds).flatten (List.replicate k vs).flatten
  | 0 => .nil
  | k + 1 => by
    rw [List.replicate_succ, List.replicate_succ, List.flatten_cons, List.flatten_cons]
    exact h.append (FRs.rep h k)
theorem lstMul_ok : BinOk Γ lstMul rRep := by
  refine ⟨fun W σ x y H Q F env fp d d' c r1 h1 h2 e hm => ?_⟩
  cases h1 with
  | @lst a vs ds fa sa ra =>
    cases h2 with
    | int k =>
      replace e : (if -(2 ^ 63) ≤ k ∧ k < 2 ^ 63 ∧ ds.length * k.toNat ≤ sizeLine then some (PyData.list (List.replicate k.toNat ds).flatten) else none) = some c := e
      by_cases hc : -(2 ^ 63) ≤ k ∧ k < 2 ^ 63 ∧ ds.length * k.toNat ≤ sizeLine
      · rw [if_pos hc] at e
        cases e
        exact ⟨a, k, vs, rfl, rfl, sa, hc.1, hc.2.1, by rw [← ra.length]; exact hc.2.2, fun p hp => fin_lst hm r1 hp (ra.rep k.toNat)⟩
      · rw [if_neg hc] at e; cases e
    | _ => cases e
  | _ => cases e
theorem tupMul_ok : BinOk Γ tupMul (rRepT Γ.K) := by
  refine ⟨fun W σ x y H Q F env fp d d' c r1 h1 h2 e hm => ?_⟩
  cases h1 with
  | @tup a vs ds fa sa ra =>
    cases h2 with
    | int k =>
      replace e : (if ds ≠ [] ∧ 2 ≤ k ∧ k ≤ 1000 ∧ ds.length ≤ 1000 then some (PyData.tuple (List.replicate k.toNat ds).flatten) else none) = some c := e
      by_cases hc : ds ≠ [] ∧ 2 ≤ k ∧ k ≤ 1000 ∧ ds.length ≤ 1000
      · rw [if_pos hc] at e
        cases e
        refine ⟨a, k, vs, rfl, rfl, SqT.of sa, fun z => ?_, hc.2.1, hc.2.2.1, by rw [← ra.length]; exact hc.2.2.2, fun p hp => fin_tup hm r1 hp (ra.rep k.toNat)⟩
        subst z
        cases ra
        exact hc.1 rfl
      · rw [if_neg hc] at e; cases e
    | _ => cases e
  | _ => cases e
def mulD : PyData → PyData → Option PyData := fun a b => (mulI a b).orElse fun _ => (lstMul a b).orElse fun _ => tupMul a b
theorem mul_ok {X : Cx} {cl : Nat → Addr} {W : WX} {a b : Expr} {ma mb : M PyData} {pos : Pos} (h1 : DE X cl W a ma) (h2 : DE X cl W b mb) : DE X cl W (.BinOp a .Mult b pos) (mBin mulD ma mb) := by
  have hI : BinOk ⟨X.K, cl⟩ mulI (fun x y H Q => rI CMul (fun i j => .int (i * j)) x y H Q ∨ rI CMulW (fun i j => .int (i * j)) x y H Q) := by
    refine ⟨fun W σ x y H Q F env fp d d' c r1 h1 h2 e hm => ?_⟩
    obtain ⟨i, j, e1, e2, hc, q⟩ := (intOp_ok (C := mulC) (C' := fun i j => CMul i j ∨ CMulW i j) mulC_ok).ok W σ x y H Q F env fp d d' c r1 h1 h2 e hm
    rcases hc with hc | hc
    · exact .inl ⟨i, j, e1, e2, hc, q⟩
    · exact .inr ⟨i, j, e1, e2, hc, q⟩
  exact de_bin ((op_mul.or op_mulW).or (op_rep.or op_repT)) (hI.or (lstMul_ok.or tupMul_ok)) h1 h2
def negI : PyData → Option PyData
  | .int i => some (.int (-i))
  | _ => none
structure UnOk (Γ : Ctx) (f : PyData → Option PyData) (r : V → Hp → VK → Prop) : Prop where
  ok : ∀ (W : WX) (σ : St) (x : V) (H : Hp) (Q : VK) (F : Fs) (env : Env) (fp : Nat → Fs) (d c : PyData), REnv Γ H F env σ fp → FR Γ.K H F d x → f d = some c → PostE Γ W σ H F fp Q (.ok c env) → r x H Q
theorem UnOk.use {Γ : Ctx} {W : WX} {ma : M PyData} {f : PyData → Option PyData} {r : V → Hp → VK → Prop} (h : UnOk Γ f r) (σ : St) (H : Hp) (Q : VK) (q : tE Γ W (mUn f ma) σ H Q) : tE Γ W ma σ H (fun x H1 => r x H1 Q) := by
  refine G_mono (G_one (k := fun a => lift (f a)) q) fun x H1 z => ?_
  obtain ⟨F, env, fp, d, r1, h1, hm⟩ := z
  obtain ⟨c, e, hm⟩ := post_lift hm
  exact h.ok W σ x H1 Q F env fp d c r1 h1 e hm
theorem neg_ok {X : Cx} {cl : Nat → Addr} {W : WX} {a : Expr} {ma : M PyData} {pos : Pos} (h1 : DE X cl W a ma) : DE X cl W (.UnaryOp .USub a pos) (mUn negI ma) := by
  refine PE.imp (pe_un un_neg h1) (UnOk.use ⟨fun W σ x H Q F env fp d c r1 h e hm => ?_⟩)
  cases h with
  | int i => cases e; exact ⟨i, rfl, fin_same hm r1 (.int _)⟩
  | _ => cases e
end

section
variable {X : Cx} {cl : Nat → Addr} {W : WX} {es : List Expr} {e : Expr} {ma : M (List PyData)} {me : M PyData} {pos : Pos}
def aNil : M (List PyData) := pure []
def aCons (m : M PyData) (r : M (List PyData)) : M (List PyData) := do
  let a ← m
  let b ← r
  pure (a :: b)
theorem da_nil : DA X cl W [] aNil := PA.imp pa_nil fun σ H Q q => by
  obtain ⟨F, env, fp, r, hm⟩ := q
  exact hm [] H F fp (fun _ => False) r ⟨.nil, rfl⟩ (fun _ z => z.elim) (Ext.emp' (Ext.refl _ _ _))
theorem da_cons (h1 : DE X cl W e me) (h2 : DA X cl W es ma) (hs : starEach (e :: es) X.env = (false, eval e X.env) :: starEach es X.env := by rfl) : DA X cl W (e :: es) (aCons me ma) := by
  refine PA.imp (pa_cons h1 h2 hs) fun σ H Q q => ?_
  have q' : G ⟨X.K, cl⟩ W (relA ⟨X.K, cl⟩) (me >>= fun a => ma >>= fun b => (pure (a :: b) : M (List PyData))) σ H Q := q
  refine G_bind (rel1 := relE ⟨X.K, cl⟩) (fun _ _ _ _ _ h => h.2) q' fun x H1 F1 e1 fp1 a r1 h1 hm => ?_
  refine ⟨F1, e1, fp1, r1, ?_⟩
  cases ea : ma e1 with
  | ok b e2 =>
    rw [bind_ok ea] at hm
    intro ys H2 F2 fp2 P r2 h2 hd x2
    obtain ⟨h2, rfl⟩ := h2
    exact hm (x :: ys) H2 F2 fp2 (fun _ => False) r2 ⟨.cons (h1.1.ext x2.emp r1.fo) h2, rfl⟩ (fun _ z => z.elim) x2
  | exc y e2 =>
    rw [bind_exc ea] at hm
    exact fun c d H2 F2 fp2 r1 r2 r3 => hm c d H2 F2 fp2 r1 r2 r3
  | bad =>
    rw [bind_bad ea] at hm
    exact hm
def tupF (ds : List PyData) : Option PyData := if ds.length ≤ sizeLine then some (.tuple ds) else none
def lstF (ds : List PyData) : Option PyData := if ds.length ≤ sizeLine then some (.list ds) else none
theorem de_tup {x1} (h : DA X cl W es ma) : DE X cl W (.Tuple es x1 pos) (mArgs tupF ma) := by
  refine PE.imp (pe_tup h) fun σ H Q q => G_mono (G_list (k := fun a => lift (tupF a)) q) fun xs H1 z => ?_
  obtain ⟨F, env, fp, d, r1, h1, hm⟩ := z
  obtain ⟨c, e, hm⟩ := post_lift hm
  unfold tupF at e
  by_cases hc : d.length ≤ sizeLine
  · rw [if_pos hc] at e
    cases e
    exact ⟨by rw [← h1.length]; exact hc, fun p hp => fin_tup hm r1 hp h1⟩
  · rw [if_neg hc] at e; cases e
theorem de_lst (h : DA X cl W es ma) : DE X cl W (.List es pos) (mArgs lstF ma) := by
  refine PE.imp (pe_lst h) fun σ H Q q => G_mono (G_list (k := fun a => lift (lstF a)) q) fun xs H1 z => ?_
  obtain ⟨F, env, fp, d, r1, h1, hm⟩ := z
  obtain ⟨c, e, hm⟩ := post_lift hm
  unfold lstF at e
  by_cases hc : d.length ≤ sizeLine
  · rw [if_pos hc] at e
    cases e
    exact ⟨by rw [← h1.length]; exact hc, fun p hp => fin_lst hm r1 hp h1⟩
  · rw [if_neg hc] at e; cases e
end
end PD

namespace PD
open PySem PySem.Spec PyProof.Rows L2

mutual
def T.fz : T → Option PyData
  | .v d => some d
  | .lst l => (T.fzs l).map .list
  | .dK ks vs => (T.fzs vs).map fun ds => .dict ((ks.map keyD).zip ds)
  | .dT ks vs => (T.fzs vs).map fun ds => .dict ((ks.map keysD).zip ds)
  | .obj _ _ _ => none
  | .scr _ => none
  | .dN _ => none
def T.fzs : List T → Option (List PyData)
  | [] => some []
  | t :: ts => (T.fz t).bind fun d => (T.fzs ts).map fun ds => d :: ds
end
section
variable {Γ : Ctx} {H : Hp} {F F' : Fs}
theorem zip_map_key {α β γ : Type} (g : α → γ) : ∀ (ks : List α) (vs : List β), ks.length = vs.length → (ks.zip vs).map (fun p => g p.1) = ks.map g
  | [], [], _ => rfl
  | k :: ks, v :: vs, h => by
    rw [List.zip_cons_cons, List.map_cons, List.map_cons, zip_map_key g ks vs (by simpa using h)]
  | [], _ :: _, h => by simp at h
  | _ :: _, [], h => by simp at h
theorem zip_map_snd {α β : Type} : ∀ (ks : List α) (vs : List β), ks.length = vs.length → (ks.zip vs).map Prod.snd = vs
  | [], [], _ => rfl
  | k :: ks, v :: vs, h => by
    rw [List.zip_cons_cons, List.map_cons, zip_map_snd ks vs (by simpa using h)]
  | [], _ :: _, h => by simp at h
  | _ :: _, [], h => by simp at h
mutual
theorem RT.fz (m : ∀ a, F a → F' a) : ∀ {t : T} {v : V} {P : Fs}, RT Γ H F t v P → (∀ a, P a → F' a) → ∀ d, t.fz = some d → FR Γ.K H F' d v
  | _, _, _, .v h, _, d, e => by
    unfold T.fz at e
    cases e
    exact h.keep (fun a o _ q => q) m
  | _, _, _, .lst h r n, q, d, e => by
    unfold T.fz at e
    obtain ⟨ds, e1, e2⟩ := Option.map_eq_some_iff.mp e
    subst e2
    exact .lst (q _ (.inl rfl)) h (RTs.fz m r (fun a z => q a (.inr z)) ds e1)
  | _, _, _, .dK (ks := ks) (vs := vs) hl h r n, q, d, e => by
    unfold T.fz at e
    obtain ⟨ds, e1, e2⟩ := Option.map_eq_some_iff.mp e
    subst e2
    have hr := RTs.fz m r (fun a z => q a (.inr z)) ds e1
    have hl2 : ks.length = vs.length := by rw [hl, r.length]
    have x := FR.dK (K := Γ.K) (q _ (.inl rfl)) h (by rw [zip_map_snd _ _ hl2]; exact hr)
    rw [zip_map_key _ _ _ hl2] at x
    exact x
  | _, _, _, .dT (ks := ks) (vs := vs) hl h r n, q, d, e => by
    unfold T.fz at e
    obtain ⟨ds, e1, e2⟩ := Option.map_eq_some_iff.mp e
    subst e2
    have hr := RTs.fz m r (fun a z => q a (.inr z)) ds e1
    have hl2 : ks.length = vs.length := by rw [hl, r.length]
    have x := FR.dT (K := Γ.K) (q _ (.inl rfl)) h (by rw [zip_map_snd _ _ hl2]; exact hr)
    rw [zip_map_key _ _ _ hl2] at x
    exact x
  | _, _, _, .obj _ _ _ _, _, _, e => by unfold T.fz at e; cases e
  | _, _, _, .scr _, _, _, e => by unfold T.fz at e; cases e
  | _, _, _, .dN _ _, _, _, e => by unfold T.fz at e; cases e
theorem RTs.fz (m : ∀ a, F a → F' a) : ∀ {ts : List T} {vs : List V} {P : Fs}, RTs Γ H F ts vs P → (∀ a, P a → F' a) → ∀ ds, T.fzs ts = some ds → FRs Γ.K H F' ds vs
  | _, _, _, .nil, _, ds, e => by
    unfold T.fzs at e
    cases e
    exact .nil
  | _, _, _, .cons h t n, q, ds, e => by
    unfold T.fzs at e
    obtain ⟨d, e1, e2⟩ := Option.bind_eq_some_iff.mp e
    obtain ⟨ds', e3, e4⟩ := Option.map_eq_some_iff.mp e2
    subst e4
    exact .cons (RT.fz m h (fun a z => q a (.inl z)) d e1) (RTs.fz m t (fun a z => q a (.inr z)) ds' e3)
end
end

def setE (env : Env) (i : Nat) (t : Option T) : Env := fun j => if j = i then t else env j
def setF (fp : Nat → Fs) (i : Nat) (P : Fs) : Nat → Fs := fun j => if j = i then P else fp j
theorem setE_same {env : Env} {i : Nat} {t : Option T} : setE env i t i = t := if_pos rfl
theorem setE_ne {env : Env} {i j : Nat} {t : Option T} (h : j ≠ i) : setE env i t j = env j := if_neg h
theorem setF_same {fp : Nat → Fs} {i : Nat} {P : Fs} : setF fp i P i = P := if_pos rfl
theorem setF_ne {fp : Nat → Fs} {i j : Nat} {P : Fs} (h : j ≠ i) : setF fp i P j = fp j := if_neg h
theorem ow_setF {fp : Nat → Fs} {i : Nat} {P : Fs} {a : Addr} (h : ow (setF fp i P) a) : P a ∨ ow fp a := by
  obtain ⟨j, h⟩ := h
  by_cases e : j = i
  · subst e; rw [setF_same] at h; exact .inl h
  · rw [setF_ne e] at h; exact .inr ⟨j, h⟩
section
variable {Γ : Ctx} {H H' : Hp} {F F' : Fs} {env : Env} {σ : St} {fp : Nat → Fs}
theorem REnv.frozen {i : Nat} {t : T} {d : PyData} (r : REnv Γ H F env σ fp) (h : env i = some t) (e : t.fz = some d) :
    ∃ v, σ[i]? = some (some v) ∧ FR Γ.K H (fun a => F a ∨ fp i a) d v ∧ REnv Γ H (fun a => F a ∨ fp i a) (setE env i (some (.v d))) σ (setF fp i fun _ => False) ∧
      Ext H F (ow fp) H (fun a => F a ∨ fp i a) (ow (setF fp i fun _ => False)) := by
  obtain ⟨v, hv, ht⟩ := r.rep i t h
  have dm : ∀ a, (F a ∨ fp i a) → ∃ o, H a = some o := fun a q => q.elim (r.fd a) fun q => r.dom ⟨i, q⟩
  have fr : FR Γ.K H (fun a => F a ∨ fp i a) d v := ht.fz (fun a q => .inl q) (fun a q => .inr q) d e
  refine ⟨v, hv, fr, ⟨fun j u q => ?_, fun j a q => ?_, fun j k a h1 h2 => ?_, fun j a q => ?_, dm⟩, ⟨fun _ _ q _ => q, fun _ q => .inl q, fun a q => ?_, fun a q => ?_, fun _ => dm⟩⟩
  · by_cases ej : j = i
    · subst ej
      rw [setE_same] at q
      cases q
      rw [setF_same]
      exact ⟨v, hv, .v fr⟩
    · rw [setE_ne ej] at q
      obtain ⟨w, hw, hu⟩ := r.rep j u q
      rw [setF_ne ej]
      exact ⟨w, hw, hu.keep (fun _ _ _ z => z) (fun _ z => .inl z) fun _ _ _ z => z⟩
  · by_cases ej : j = i
    · subst ej; rw [setF_same]; exact id
    · rw [setE_ne ej] at q; rw [setF_ne ej]; exact r.emp j a q
  · by_cases ej : j = i
    · subst ej; rw [setF_same] at h1; exact h1.elim
    · by_cases ek : k = i
      · subst ek; rw [setF_same] at h2; exact h2.elim
      · rw [setF_ne ej] at h1; rw [setF_ne ek] at h2; exact r.dis j k a h1 h2
  · by_cases ej : j = i
    · subst ej; rw [setF_same] at q; exact q.elim
    · rw [setF_ne ej] at q
      rintro (z | z)
      · exact r.nf j a q z
      · exact ej (r.dis j i a q z)
  · rcases ow_setF q with z | z
    · exact z.elim
    · exact .inl z
  · rcases q with q | q
    · exact .inl q
    · exact .inr (.inl ⟨i, q⟩)
theorem REnv.set {i : Nat} {t : T} {v : V} {P : Fs} (r : REnv Γ H F env σ fp) (hi : i < σ.length) (h : RT Γ H F t v P) (hP : ∀ a, P a → ¬ ow fp a ∧ ¬ F a) : REnv Γ H F (setE env i (some t)) (σ.set i (some v)) (setF fp i P) := by
  refine ⟨fun j u q => ?_, fun j a q => ?_, fun j k a h1 h2 => ?_, fun j a q => ?_, r.fd⟩
  · by_cases ej : j = i
    · subst ej
      rw [setE_same] at q
      cases q
      rw [setF_same]
      exact ⟨v, by rw [List.getElem?_set_self hi], h⟩
    · rw [setE_ne ej] at q
      obtain ⟨w, hw, hu⟩ := r.rep j u q
      rw [setF_ne ej]
      exact ⟨w, by rw [List.getElem?_set_ne (Ne.symm ej)]; exact hw, hu⟩
  · by_cases ej : j = i
    · subst ej; rw [setE_same] at q; cases q
    · rw [setE_ne ej] at q; rw [setF_ne ej]; exact r.emp j a q
  · by_cases ej : j = i
    · by_cases ek : k = i
      · rw [ej, ek]
      · subst ej
        rw [setF_same] at h1; rw [setF_ne ek] at h2
        exact ((hP a h1).1 ⟨k, h2⟩).elim
    · by_cases ek : k = i
      · subst ek
        rw [setF_ne ej] at h1; rw [setF_same] at h2
        exact ((hP a h2).1 ⟨j, h1⟩).elim
      · rw [setF_ne ej] at h1; rw [setF_ne ek] at h2; exact r.dis j k a h1 h2
  · by_cases ej : j = i
    · subst ej; rw [setF_same] at q; exact (hP a q).2
    · rw [setF_ne ej] at q; exact r.nf j a q
end

theorem RT.inv_v {Γ : Ctx} {H : Hp} {F P : Fs} {d : PyData} {v : V} (h : RT Γ H F (.v d) v P) : FR Γ.K H F d v ∧ P = fun _ => False := by
  cases h with
  | v h => exact ⟨h, rfl⟩
def mVar (i : Nat) : M PyData := fun env => match env i with
  | none => .bad
  | some (.v d) => .ok d env
  | some t => match t.fz with
    | none => .bad
    | some d => .ok d (setE env i (some (.v d)))
section
variable {X : Cx} {cl : Nat → Addr} {W : WX}
theorem tVar_of {Γ : Ctx} {i : Nat} (σ : St) (H : Hp) (Q : VK) (q : tE Γ W (mVar i) σ H Q) : tVar i σ H Q := by
  obtain ⟨F, env, fp, r, hm⟩ := q
  have hm : Post Γ W (relE Γ) σ H F fp Q (mVar i env) := hm
  unfold mVar at hm
  cases e : env i with
  | none => rw [e] at hm; exact hm.elim
  | some t =>
    rw [e] at hm
    have go : ∀ d, t.fz = some d → PostE Γ W σ H F fp Q (.ok d (setE env i (some (.v d)))) → tVar i σ H Q := fun d ed hm => by
      obtain ⟨v, hv, hf, r2, x⟩ := r.frozen e ed
      exact ⟨v, hv, hm v H _ _ (fun _ => False) r2 ⟨hf, rfl⟩ (fun _ z => z.elim) (Ext.emp' x)⟩
    cases t with
    | v d =>
      obtain ⟨v, hv, ht⟩ := r.rep i _ e
      exact ⟨v, hv, fin_same hm r ht.inv_v.1⟩
    | lst l =>
      cases ed : T.fz (.lst l) with
      | none => simp only [ed] at hm; exact hm.elim
      | some d => simp only [ed] at hm; exact go d ed hm
    | dK ks l =>
      cases ed : T.fz (.dK ks l) with
      | none => simp only [ed] at hm; exact hm.elim
      | some d => simp only [ed] at hm; exact go d ed hm
    | dT ks l =>
      cases ed : T.fz (.dT ks l) with
      | none => simp only [ed] at hm; exact hm.elim
      | some d => simp only [ed] at hm; exact go d ed hm
    | obj c ns l =>
      cases ed : T.fz (.obj c ns l) with
      | none => simp only [ed] at hm; exact hm.elim
      | some d => simp only [ed] at hm; exact go d ed hm
    | scr l =>
      cases ed : T.fz (.scr l) with
      | none => simp only [ed] at hm; exact hm.elim
      | some d => simp only [ed] at hm; exact go d ed hm
    | dN l =>
      cases ed : T.fz (.dN l) with
      | none => simp only [ed] at hm; exact hm.elim
      | some d => simp only [ed] at hm; exact go d ed hm
theorem de_var (i : Nat) {x : Str} {pos : Pos} (hN : X.N[i]? = some x := by rfl) (hv : Vis X.env.scope x := by first | exact Or.inl rfl | exact Or.inr (Or.inl rfl) | exact Or.inr (Or.inr rfl)) (hd : (x == ("__debug__" : Str)) = false := by decide)
    (hcd : (x == ("__classdict__" : Str)) = false := by decide) : DE X cl W (.Name x pos) (mVar i) := PE.imp (pe_var hN hv hd hcd) tVar_of
end

inductive Fl where
  | nx | bk | ct
  | rt (t : T)
structure Arr (Γ : Ctx) (B : Nat → Bool) (σ : St) (H : Hp) (F : Fs) (fp : Nat → Fs) (env' : Env) (σ' : St) (H' : Hp) (F' : Fs) (fp' : Nat → Fs) (P : Fs) : Prop where
  re : REnv Γ H' F' env' σ' fp'
  di : ∀ x, P x → ¬ ow fp' x ∧ ¬ F' x ∧ ∃ o, H' x = some o
  len : σ'.length = σ.length
  bor : ∀ i, B i = true → σ'[i]? = σ[i]?
  ext : Ext H F (ow fp) H' F' (fun x => P x ∨ ow fp' x)
abbrev noF : Fs := fun _ => False
def PostS (Γ : Ctx) (W : WX) (B : Nat → Bool) (σ : St) (H : Hp) (F : Fs) (fp : Nat → Fs) (D : Ends) : Res Fl → Prop
  | .ok .nx env' => ∀ σ' H' F' fp', Arr Γ B σ H F fp env' σ' H' F' fp' noF → D.nx σ' H'
  | .ok .bk env' => ∀ σ' H' F' fp', Arr Γ B σ H F fp env' σ' H' F' fp' noF → D.bk σ' H'
  | .ok .ct env' => ∀ σ' H' F' fp', Arr Γ B σ H F fp env' σ' H' F' fp' noF → D.ct σ' H'
  | .ok (.rt t) env' => ∀ σ' v H' F' fp' P, Arr Γ B σ H F fp env' σ' H' F' fp' P → RT Γ H' F' t v P → D.rt v H'
  | .exc x env' => ∀ σ' cls d H' F' fp', Arr Γ B σ H F fp env' σ' H' F' fp' noF → RX Γ H' F' x cls d → W cls d σ' H'
  | .bad => False
def tS (Γ : Ctx) (W : WX) (B : Nat → Bool) (m : M Fl) : TS := fun D σ H => ∃ F env fp, REnv Γ H F env σ fp ∧ PostS Γ W B σ H F fp D (m env)
abbrev DS (X : Cx) (cl : Nat → Addr) (W : WX) (B : Nat → Bool) (st : Stmt) (m : M Fl) : Prop := PS X st (tS ⟨X.K, cl⟩ W B m)
abbrev DSs (X : Cx) (cl : Nat → Addr) (W : WX) (B : Nat → Bool) (st : List Stmt) (m : M Fl) : Prop := PSs X st (tS ⟨X.K, cl⟩ W B m)
section
variable {Γ : Ctx} {W : WX} {B : Nat → Bool} {σ σ' σ1 : St} {H H' H1 : Hp} {F F' F1 : Fs} {fp fp' fp1 : Nat → Fs} {env' env1 : Env} {D : Ends} {P P1 : Fs}
theorem Arr.trans (a : Arr Γ B σ H F fp env1 σ1 H1 F1 fp1 noF) (b : Arr Γ B σ1 H1 F1 fp1 env' σ' H' F' fp' P) : Arr Γ B σ H F fp env' σ' H' F' fp' P :=
  ⟨b.re, b.di, b.len.trans a.len, fun i h => (b.bor i h).trans (a.bor i h), a.ext.emp.trans b.ext⟩
theorem PostS.rebase {r : Res Fl} (h : PostS Γ W B σ H F fp D r) (a : Arr Γ B σ H F fp env1 σ1 H1 F1 fp1 noF) : PostS Γ W B σ1 H1 F1 fp1 D r := by
  cases r with
  | ok f e =>
    cases f with
    | nx => exact fun s h1 f1 p1 q => h s h1 f1 p1 (a.trans q)
    | bk => exact fun s h1 f1 p1 q => h s h1 f1 p1 (a.trans q)
    | ct => exact fun s h1 f1 p1 q => h s h1 f1 p1 (a.trans q)
    | rt t => exact fun s v h1 f1 p1 P q r => h s v h1 f1 p1 P (a.trans q) r
  | exc x e => exact fun s c d h1 f1 p1 q r => h s c d h1 f1 p1 (a.trans q) r
  | bad => exact h
theorem Arr.of_ext (r : REnv Γ H' F' env' σ fp') (x : Ext H F (ow fp) H' F' (ow fp')) : Arr Γ B σ H F fp env' σ H' F' fp' noF :=
  ⟨r, fun _ z => z.elim, rfl, fun _ _ => rfl, Ext.emp' x⟩
theorem Arr.same (r : REnv Γ H F env' σ fp) : Arr Γ B σ H F fp env' σ H F fp noF := Arr.of_ext r (Ext.refl _ _ _)
theorem G_stm {α β : Type} {rel : Rel α β} {m : M α} {k : α → M Fl} {R : β → Hp → Prop} (h : tS Γ W B (m >>= k) D σ H)
    (hR : ∀ F fp b H' F' env' fp' a P, REnv Γ H' F' env' σ fp' → rel H' F' a b P → (∀ x, P x → ¬ ow fp' x ∧ ¬ F' x ∧ ∃ o, H' x = some o) → Ext H F (ow fp) H' F' (fun x => P x ∨ ow fp' x) → PostS Γ W B σ H F fp D (k a env') → R b H') : G Γ W rel m σ H R := by
  obtain ⟨F, env, fp, r, hm⟩ := h
  refine ⟨F, env, fp, r, ?_⟩
  cases e : m env with
  | ok a e1 =>
    rw [bind_ok e] at hm
    exact fun b H1 F1 fp1 P r1 h1 hd x => hR F fp b H1 F1 e1 fp1 a P r1 h1 hd x hm
  | exc y e1 =>
    rw [bind_exc e] at hm
    exact fun c d H1 F1 fp1 r1 r2 r3 => hm σ c d H1 F1 fp1 (Arr.of_ext r1 r3) r2
  | bad =>
    rw [bind_bad e] at hm
    exact hm
theorem G_stmE {m : M PyData} {k : PyData → M Fl} {R : V → Hp → Prop} (h : tS Γ W B (m >>= k) D σ H)
    (hR : ∀ b H' F' env' fp' a, REnv Γ H' F' env' σ fp' → FR Γ.K H' F' a b → PostS Γ W B σ H' F' fp' D (k a env') → R b H') : tE Γ W m σ H R :=
  G_stm h fun F fp b H' F' env' fp' a P r1 h1 hd x hm => by
    obtain ⟨h1, rfl⟩ := h1
    exact hR b H' F' env' fp' a r1 h1 (hm.rebase (Arr.of_ext r1 x.emp))
theorem G_stmB {m : M Bool} {k : Bool → M Fl} {R : Bool → Hp → Prop} (h : tS Γ W B (m >>= k) D σ H)
    (hR : ∀ b H' F' env' fp', REnv Γ H' F' env' σ fp' → PostS Γ W B σ H' F' fp' D (k b env') → R b H') : tB' Γ W m σ H R :=
  G_stm h fun F fp b H' F' env' fp' a P r1 h1 hd x hm => by
    obtain ⟨rfl, rfl⟩ := h1
    exact hR a H' F' env' fp' r1 (hm.rebase (Arr.of_ext r1 x.emp))
end

section
variable {X : Cx} {cl : Nat → Addr} {W : WX} {B : Nat → Bool} {st : Stmt} {rest sa sb : List Stmt} {m m' : M Fl} {e : Expr} {me : M PyData} {mt : M T} {pos : Pos}
theorem PS.impL {t t' : TS} (h : PS X st t) (i : ∀ D σ H, σ.length = X.N.length → t' D σ H → t D σ H) : PS X st t' := ⟨fun pins s σ H D I q => h.run pins s σ H D I (i D σ H I.len q)⟩
def sNil : M Fl := pure .nx
def sSeq (m m' : M Fl) : M Fl := m >>= fun f => match f with
  | .nx => m'
  | .bk => pure .bk
  | .ct => pure .ct
  | .rt t => pure (.rt t)
theorem ds_nil : DSs X cl W B [] sNil := PSs.imp pss_nil fun D σ H q => by
  obtain ⟨F, env, fp, r, hm⟩ := q
  exact hm σ H F fp (Arr.same r)
theorem tSeq_of {Γ : Ctx} (D : Ends) (σ : St) (H : Hp) (q : tS Γ W B (sSeq m m') D σ H) : tSeq (tS Γ W B m) (tS Γ W B m') D σ H := by
  obtain ⟨F, env, fp, r, hm⟩ := q
  refine ⟨F, env, fp, r, ?_⟩
  unfold sSeq at hm
  cases em : m env with
  | ok f e1 =>
    rw [bind_ok em] at hm
    cases f with
    | nx => exact fun s h1 f1 p1 a => ⟨f1, e1, p1, a.re, PostS.rebase hm a⟩
    | bk => exact hm
    | ct => exact hm
    | rt t => exact hm
  | exc x e1 =>
    rw [bind_exc em] at hm
    exact hm
  | bad =>
    rw [bind_bad em] at hm
    exact hm
theorem ds_cons (h1 : DS X cl W B st m) (h2 : DSs X cl W B rest m') : DSs X cl W B (st :: rest) (sSeq m m') := PSs.imp (pss_cons h1 h2) tSeq_of
theorem ds_one (h1 : DS X cl W B st m) : DSs X cl W B [st] m := pss_one h1
def sRet (m : M PyData) : M Fl := m >>= fun d => pure (.rt (.v d))
theorem ds_ret (h : DE X cl W e me) : DS X cl W B (.Return (some e) pos) (sRet me) := PS.imp (ps_ret h) fun D σ H q =>
  G_stmE (k := fun d => (pure (.rt (.v d)) : M Fl)) q fun b H' F' env' fp' a r h1 hm => hm σ b H' F' fp' noF (Arr.same r) (.v h1)
def sRetO (m : M T) : M Fl := m >>= fun d => pure (.rt d)
theorem ds_retO (h : DO X cl W e mt) : DS X cl W B (.Return (some e) pos) (sRetO mt) := PS.imp (ps_ret h) fun D σ H q =>
  G_stm (rel := relT ⟨X.K, cl⟩) (k := fun d => (pure (.rt d) : M Fl)) q fun F fp b H' F' env' fp' a P r1 h1 hd x hm => hm σ b H' F' fp' P ⟨r1, hd, rfl, fun _ _ => rfl, x⟩ h1
def sRetN : M Fl := pure (.rt (.v .none))
def sExpr (m : M PyData) : M Fl := m >>= fun _ => pure .nx
theorem ds_expr (h : DE X cl W e me) (hs : swapsWith e none pos.line X.env = pure false := by rfl) : DS X cl W B (.Expr e pos) (sExpr me) := PS.imp (ps_expr h hs) fun D σ H q =>
  G_stmE (k := fun _ => (pure .nx : M Fl)) q fun b H' F' env' fp' a r h1 hm => hm σ H' F' fp' (Arr.same r)
def sBrk : M Fl := pure .bk
def sCont : M Fl := pure .ct
def setV (i : Nat) (d : T) : M Fl := fun env => .ok .nx (setE env i (some d))
def sSet (i : Nat) (m : M PyData) : M Fl := m >>= fun d => setV i (.v d)
def sSetO (i : Nat) (m : M T) : M Fl := m >>= fun d => setV i d
theorem Arr.set {Γ : Ctx} {σ : St} {H : Hp} {F : Fs} {fp : Nat → Fs} {env : Env} {i : Nat} {t : T} {v : V} {P : Fs} (r : REnv Γ H F env σ fp) (hi : i < σ.length) (hB : B i = false) (h : RT Γ H F t v P) (hP : ∀ a, P a → ¬ ow fp a ∧ ¬ F a ∧ ∃ o, H a = some o) :
    REnv Γ H F (setE env i (some t)) (σ.set i (some v)) (setF fp i P) ∧ (σ.set i (some v)).length = σ.length ∧ ∀ j, B j = true → (σ.set i (some v))[j]? = σ[j]? :=
  ⟨r.set hi h fun a q => ⟨(hP a q).1, (hP a q).2.1⟩, List.length_set, fun j hj => by
    rw [List.getElem?_set_ne]
    intro e
    subst e
    rw [hB] at hj
    cases hj⟩
theorem tAsg_of {Γ : Ctx} {i : Nat} (hi : i < X.N.length) (hB : B i = false) (D : Ends) (σ : St) (H : Hp) (hl : σ.length = X.N.length) (q : tS Γ W B (sSet i me) D σ H) : tAsg (tE Γ W me) (gName i) D σ H :=
  G_stmE (k := fun d => setV i (.v d)) q fun b H' F' env' fp' a r h1 hm => by
    obtain ⟨r2, h2, h3⟩ := Arr.set (B := B) r (by rw [hl]; exact hi) hB (.v h1) (fun _ z => z.elim)
    exact hm _ H' F' _ ⟨r2, fun _ z => z.elim, h2, h3, ⟨fun _ _ z _ => z, fun _ z => z, fun y z => by
      rcases z with z | z
      · exact z.elim
      · rcases ow_setF z with z | z
        · exact z.elim
        · exact .inl z, fun _ z => .inl z, fun h => h⟩⟩
theorem tAsgO_of {Γ : Ctx} {i : Nat} (hi : i < X.N.length) (hB : B i = false) (D : Ends) (σ : St) (H : Hp) (hl : σ.length = X.N.length) (q : tS Γ W B (sSetO i mt) D σ H) : tAsg (tO Γ W mt) (gName i) D σ H :=
  G_stm (rel := relT Γ) (k := fun d => setV i d) q fun F fp b H' F' env' fp' a P r h1 hd x hm => by
    obtain ⟨r2, h2, h3⟩ := Arr.set (B := B) r (by rw [hl]; exact hi) hB h1 hd
    exact hm _ H' F' _ ⟨r2, fun _ z => z.elim, h2, h3, Ext.emp' (ext_of x fun y z => ow_setF z)⟩
theorem ds_set {i : Nat} {x : Str} {pos' : Pos} (hN : X.N.Nodup) (hi : X.N[i]? = some x) (hB : B i = false) (hx : Loc X.env.scope x) (he : DE X cl W e me) (hs : swapsWith e (some (.Name x pos')) pos.line X.env = pure false := by rfl)
    (hf : X.fn x = true ∨ X.env.scope.names.lookup x = some .local := by first | exact .inl rfl | exact .inr rfl | assumption) : DS X cl W B (.Assign [.Name x pos'] e pos) (sSet i me) :=
  PS.impL (ps_set hN hi hx he hs hf) (tAsg_of (List.getElem?_eq_some_iff.mp hi).1 hB)
theorem ds_setO {i : Nat} {x : Str} {pos' : Pos} (hN : X.N.Nodup) (hi : X.N[i]? = some x) (hB : B i = false) (hx : Loc X.env.scope x) (he : DO X cl W e mt) (hs : swapsWith e (some (.Name x pos')) pos.line X.env = pure false := by rfl)
    (hf : X.fn x = true ∨ X.env.scope.names.lookup x = some .local := by first | exact .inl rfl | exact .inr rfl | assumption) : DS X cl W B (.Assign [.Name x pos'] e pos) (sSetO i mt) :=
  PS.impL (ps_set hN hi hx he hs hf) (tAsgO_of (List.getElem?_eq_some_iff.mp hi).1 hB)
def sIf (c : M Bool) (m m' : M Fl) : M Fl := c >>= fun b => if b = true then m else m'
theorem ds_if {c : Expr} {mc : M Bool} (hc : DT X cl W c mc) (h1 : DSs X cl W B sa m) (h2 : DSs X cl W B sb m') : DS X cl W B (.If c sa sb pos) (sIf mc m m') := PS.imp (ps_if hc h1 h2) fun D σ H q =>
  G_stmB (k := fun b => if b = true then m else m') q fun b H' F' env' fp' r hm => by
    cases b with
    | true => exact iteT ⟨F', env', fp', r, hm⟩
    | false => exact iteF ⟨F', env', fp', r, hm⟩
end
end PD

namespace PD
open PySem PySem.Spec PyProof.Rows L2

abbrev Tgt := PyData → Env → Option Env
abbrev Tgts := List PyData → Env → Option Env
def PostU (Γ : Ctx) (B : Nat → Bool) (σ : St) (H : Hp) (F : Fs) (fp : Nat → Fs) (Q : St → Hp → Prop) : Option Env → Prop
  | some env' => ∀ σ' H' F' fp', Arr Γ B σ H F fp env' σ' H' F' fp' noF → Q σ' H'
  | none => False
def tG1 (Γ : Ctx) (B : Nat → Bool) (m : Tgt) : TG := fun v σ H Q => ∃ F env fp d, REnv Γ H F env σ fp ∧ FR Γ.K H F d v ∧ PostU Γ B σ H F fp Q (m d env)
def tGs (Γ : Ctx) (B : Nat → Bool) (m : Tgts) : TGs := fun vs σ H Q => ∃ F env fp ds, REnv Γ H F env σ fp ∧ FRs Γ.K H F ds vs ∧ PostU Γ B σ H F fp Q (m ds env)
abbrev DG (X : Cx) (cl : Nat → Addr) (B : Nat → Bool) (tg : Expr) (m : Tgt) : Prop := PG X tg (tG1 ⟨X.K, cl⟩ B m)
abbrev DGs (X : Cx) (cl : Nat → Addr) (B : Nat → Bool) (tgs : List Expr) (m : Tgts) : Prop := PGs X tgs (tGs ⟨X.K, cl⟩ B m)
theorem PG.impL {X : Cx} {tg : Expr} {t t' : TG} (h : PG X tg t) (i : ∀ v σ H Q, σ.length = X.N.length → t' v σ H Q → t v σ H Q) : PG X tg t' := ⟨fun pins s σ H v u Q I r q => h.run pins s σ H v u Q I r (i v σ H Q I.len q)⟩
theorem PGs.impL {X : Cx} {tg : List Expr} {t t' : TGs} (h : PGs X tg t) (i : ∀ v σ H Q, σ.length = X.N.length → t' v σ H Q → t v σ H Q) : PGs X tg t' := ⟨fun pins s σ H v u Q I r q => h.run pins s σ H v u Q I r (i v σ H Q I.len q)⟩
theorem PI.imp {X : Cx} {tg it : Expr} {t t' : TI} (h : PI X tg it t) (i : ∀ σ H R, t' σ H R → t σ H R) : PI X tg it t' := ⟨fun pins s σ H R I q => h.run pins s σ H R I (i σ H R q)⟩
def gNm (i : Nat) : Tgt := fun d env => some (setE env i (some (.v d)))
def gNo : Tgts := fun ds env => match ds with
  | [] => some env
  | _ :: _ => none
def gCo (m : Tgt) (r : Tgts) : Tgts := fun ds env => match ds with
  | [] => none
  | d :: ds => (m d env).bind (r ds)
def gTp (n : Nat) (m : Tgts) : Tgt := fun d env => match d with
  | .tuple ds => if ds.length = n then m ds env else none
  | _ => none
section
variable {X : Cx} {cl : Nat → Addr} {B : Nat → Bool} {pos : Pos}
theorem PostU.rebase {Γ : Ctx} {σ σ1 : St} {H H1 : Hp} {F F1 : Fs} {fp fp1 : Nat → Fs} {env1 : Env} {Q : St → Hp → Prop} {r : Option Env} (h : PostU Γ B σ H F fp Q r) (a : Arr Γ B σ H F fp env1 σ1 H1 F1 fp1 noF) : PostU Γ B σ1 H1 F1 fp1 Q r := by
  cases r with
  | some e => exact fun s h1 f1 p1 q => h s h1 f1 p1 (a.trans q)
  | none => exact h
theorem Arr.setD {Γ : Ctx} {σ : St} {H : Hp} {F : Fs} {fp : Nat → Fs} {env : Env} {i : Nat} {d : PyData} {v : V} (r : REnv Γ H F env σ fp) (hi : i < σ.length) (hB : B i = false) (h : FR Γ.K H F d v) :
    Arr Γ B σ H F fp (setE env i (some (.v d))) (σ.set i (some v)) H F (setF fp i noF) noF := by
  obtain ⟨r2, h2, h3⟩ := Arr.set (B := B) r hi hB (.v h) (fun _ z => z.elim)
  exact ⟨r2, fun _ z => z.elim, h2, h3, ⟨fun _ _ z _ => z, fun _ z => z, fun y z => by
      rcases z with z | z
      · exact z.elim
      · rcases ow_setF z with z | z
        · exact z.elim
        · exact .inl z, fun _ z => .inl z, fun h => h⟩⟩
theorem dg_name {i : Nat} {x : Str} (hN : X.N.Nodup) (hi : X.N[i]? = some x) (hB : B i = false) (hx : Loc X.env.scope x) (hf : X.fn x = true ∨ X.env.scope.names.lookup x = some .local := by first | exact .inl rfl | exact .inr rfl | assumption) : DG X cl B (.Name x pos) (gNm i) := by
  refine PG.impL (pg_name hN hi hx hf) fun v σ H Q hl q => ?_
  obtain ⟨F, env, fp, d, r, h, hm⟩ := q
  exact hm _ _ _ _ (Arr.setD r (by rw [hl]; exact (List.getElem?_eq_some_iff.mp hi).1) hB h)
theorem dgs_nil : DGs X cl B [] gNo := by
  refine PGs.impL pgs_nil fun v σ H Q hl q => ?_
  obtain ⟨F, env, fp, d, r, h, hm⟩ := q
  cases h with
  | nil => exact ⟨rfl, hm σ H F fp (Arr.same r)⟩
  | cons h t => exact hm.elim
theorem dgs_cons {e : Expr} {es : List Expr} {m : Tgt} {mr : Tgts} (h1 : DG X cl B e m) (h2 : DGs X cl B es mr)
    (hs : (assignEach (e :: es) X.env).map (·.2) = assign e X.env :: (assignEach es X.env).map (·.2) := by rfl) : DGs X cl B (e :: es) (gCo m mr) := by
  refine PGs.impL (pgs_cons h1 h2 hs) fun v σ H Q hl q => ?_
  obtain ⟨F, env, fp, d, r, h, hm⟩ := q
  cases h with
  | nil => exact hm.elim
  | @cons d ds v vs h t' =>
    refine ⟨v, vs, rfl, F, env, fp, d, r, h, ?_⟩
    have hm : PostU ⟨X.K, cl⟩ B σ H F fp Q ((m d env).bind (mr ds)) := hm
    cases e1 : m d env with
    | some env1 =>
      rw [e1] at hm
      exact fun s h1 f1 p1 a => ⟨f1, env1, p1, ds, a.re, t'.ext a.ext.emp r.fo, hm.rebase a⟩
    | none =>
      rw [e1] at hm
      exact hm
theorem dg_tup {es : List Expr} {k : Nat} {m : Tgts} {n : Nat} (hc : X.calm = true) (h : DGs X cl B es m)
    (hn : (assignEach es X.env).length = n := by rfl) (hst : (assignEach es X.env).findIdx? (·.1) = none := by rfl) : DG X cl B (.Tuple es k pos) (gTp n m) := by
  refine PG.impL (pg_tup hc h hn hst) fun v σ H Q hl q => ?_
  obtain ⟨F, env, fp, d, r, h, hm⟩ := q
  cases h with
  | @tup a vs ds fa sa ra =>
    have hm : PostU ⟨X.K, cl⟩ B σ H F fp Q (if ds.length = n then m ds env else none) := hm
    by_cases e : ds.length = n
    · rw [if_pos e] at hm
      exact ⟨a, vs, rfl, SqT.of sa, by rw [← ra.length]; exact e, F, env, fp, ds, r, ra, hm⟩
    · rw [if_neg e] at hm
      exact hm.elim
  | _ => exact hm.elim
end

structure Walk (K : PySem.W.Frag) (J : It) (ds : List PyData) (H : Hp) (F : Fs) : Prop where
  all : ∀ H2 F2, (∀ a o, F a → H a = some o → H2 a = some o) → (∀ a, F a → F2 a) →
    (∀ i d, ds[i]? = some d → J.go i H2 ∧ ∀ x H3, J.yld i H2 x H3 → ∃ F3, FR K H3 F3 d x ∧ Ext H2 F2 noF H3 F3 noF) ∧ J.stop ds.length H2
def PostI (Γ : Ctx) (W : WX) (σ : St) (H : Hp) (F : Fs) (fp : Nat → Fs) (R : It → Hp → Prop) : Res (List PyData) → Prop
  | .ok ds env' => ∀ J H' F' fp', REnv Γ H' F' env' σ fp' → Walk Γ.K J ds H' F' → Ext H F (ow fp) H' F' (ow fp') → R J H'
  | .exc x env' => ∀ cls d H' F' fp', REnv Γ H' F' env' σ fp' → RX Γ H' F' x cls d → Ext H F (ow fp) H' F' (ow fp') → W cls d σ H'
  | .bad => False
def tI (Γ : Ctx) (W : WX) (m : M (List PyData)) : TI := fun σ H R => ∃ F env fp, REnv Γ H F env σ fp ∧ PostI Γ W σ H F fp R (m env)
abbrev DI (X : Cx) (cl : Nat → Addr) (W : WX) (tg it : Expr) (m : M (List PyData)) : Prop := PI X tg it (tI ⟨X.K, cl⟩ W m)
theorem ext_noF {H H' : Hp} {F F' O : Fs} (x : Ext H F noF H' F' noF) : Ext H F O H' F' O :=
  ⟨fun a o h _ => x.keep a o h id, x.mono, fun a h => .inl h, fun a h => by
    rcases x.frz a h with q | q | q
    · exact .inl q
    · exact q.elim
    · exact .inr (.inr q), x.dom⟩
theorem REnv.extN {Γ : Ctx} {H H' : Hp} {F F' : Fs} {env : Env} {σ : St} {fp : Nat → Fs} (r : REnv Γ H F env σ fp) (x : Ext H F noF H' F' noF) : REnv Γ H' F' env σ fp :=
  r.ext x (fun _ _ z => z) (fun _ _ z => z) fun a h z => by
    rcases x.frz a z with q | q | q | q
    · exact r.fo a q h
    · exact q
    · obtain ⟨o, e⟩ := r.dom h
      rw [q] at e; cases e
    · exact r.nt h q
theorem Walk.ext {K : PySem.W.Frag} {J : It} {ds : List PyData} {H H' : Hp} {F F' O O' : Fs} (w : Walk K J ds H F) (x : Ext H F O H' F' O') (n : ∀ a, F a → ¬ O a) : Walk K J ds H' F' :=
  ⟨fun H2 F2 k m => w.all H2 F2 (fun a o f e => k a o (x.mono a f) (x.keep a o e (n a f))) fun a f => m a (x.mono a f)⟩
def mI (f : PyData → Option (List PyData)) (m : M PyData) : M (List PyData) := m >>= fun d => lift (f d)
section
variable {X : Cx} {cl : Nat → Addr} {W : WX} {tg l : Expr} {m : M PyData}
def lstOf : PyData → Option (List PyData)
  | .list ds => some ds
  | _ => none
theorem walk_list {K : PySem.W.Frag} {a : Addr} {vs : List V} {ds : List PyData} {H : Hp} {F : Fs} (fa : F a) (h : H a = some (.lst vs)) (r : FRs K H F ds vs) : Walk K (Itl K a) ds H F := by
  refine ⟨fun H2 F2 k mo => ⟨fun i d e => ?_, ?_⟩⟩
  · obtain ⟨v, hv, hf⟩ := r.get i d e
    refine ⟨⟨vs, v, SqL.of (k a _ fa h), hv⟩, fun x H3 y => ?_⟩
    obtain ⟨rfl, y⟩ := y
    have ex := y vs (SqL.of (k a _ fa h))
    rw [hv] at ex
    cases ex
    exact ⟨F2, hf.keep k mo, Ext.refl _ _ _⟩
  · exact ⟨vs, SqL.of (k a _ fa h), by rw [r.length]; exact Nat.le_refl _⟩
theorem walk_tup {K : PySem.W.Frag} {a : Addr} {vs : List V} {ds : List PyData} {H : Hp} {F : Fs} (fa : F a) (h : H a = some (.tup vs)) (r : FRs K H F ds vs) : Walk K (Itt K a) ds H F := by
  refine ⟨fun H2 F2 k mo => ⟨fun i d e => ?_, ?_⟩⟩
  · obtain ⟨v, hv, hf⟩ := r.get i d e
    have h2 : SqT K H2 a vs := SqT.of (k a _ fa h)
    refine ⟨⟨vs, v, h2, hv⟩, fun x H3 y => ?_⟩
    obtain ⟨rfl, y⟩ := y
    have ex := y vs h2
    rw [hv] at ex
    cases ex
    exact ⟨F2, hf.keep k mo, Ext.refl _ _ _⟩
  · exact ⟨vs, SqT.of (k a _ fa h), by rw [r.length]; exact Nat.le_refl _⟩
theorem PI.or {it : Expr} {w w' : TI} (h : PI X tg it w) (h' : PI X tg it w') : PI X tg it fun σ H R => w σ H R ∨ w' σ H R := ⟨fun pins s σ H R I q => by
  rcases q with q | q
  · exact h.run pins s σ H R I q
  · exact h'.run pins s σ H R I q⟩
def seqOf : PyData → Option (List PyData)
  | .list ds => some ds
  | .tuple ds => some ds
  | _ => none
theorem post_liftI {Γ : Ctx} {σ : St} {H : Hp} {F : Fs} {fp : Nat → Fs} {R : It → Hp → Prop} {o : Option (List PyData)} {env : Env} (h : PostI Γ W σ H F fp R (lift o env)) : ∃ c, o = some c ∧ PostI Γ W σ H F fp R (.ok c env) := by
  cases o with
  | none => exact h.elim
  | some c => exact ⟨c, rfl, h⟩
theorem tI_cases {Γ : Ctx} {f : PyData → Option (List PyData)} {σ : St} {H : Hp} {R : It → Hp → Prop} {p : PyData → Bool} {A B : V → Hp → Prop} (q : tI Γ W (mI f m) σ H R)
    (h1 : ∀ v H' F' ds d env' fp', p d = true → REnv Γ H' F' env' σ fp' → f d = some ds → FR Γ.K H' F' d v → (∀ J, Walk Γ.K J ds H' F' → R J H') → A v H')
    (h2 : ∀ v H' F' ds d env' fp', p d = false → REnv Γ H' F' env' σ fp' → f d = some ds → FR Γ.K H' F' d v → (∀ J, Walk Γ.K J ds H' F' → R J H') → B v H') : tE Γ W m σ H A ∨ tE Γ W m σ H B := by
  obtain ⟨F, env, fp, r, hm⟩ := q
  unfold mI at hm
  cases e : m env with
  | bad => rw [bind_bad e] at hm; exact hm.elim
  | exc y e1 =>
    rw [bind_exc e] at hm
    refine .inl ⟨F, env, fp, r, ?_⟩
    rw [e]
    exact hm
  | ok d e1 =>
    rw [bind_ok e] at hm
    obtain ⟨ds, ef, hm⟩ := post_liftI hm
    cases ep : p d with
    | true =>
      refine .inl ⟨F, env, fp, r, ?_⟩
      rw [e]
      intro v H1 F1 fp1 P r1 hf hd x
      obtain ⟨hf, rfl⟩ := hf
      exact h1 v H1 F1 ds d e1 fp1 ep r1 ef hf fun J w => hm J H1 F1 fp1 r1 w x.emp
    | false =>
      refine .inr ⟨F, env, fp, r, ?_⟩
      rw [e]
      intro v H1 F1 fp1 P r1 hf hd x
      obtain ⟨hf, rfl⟩ := hf
      exact h2 v H1 F1 ds d e1 fp1 ep r1 ef hf fun J w => hm J H1 F1 fp1 r1 w x.emp
def isLst : PyData → Bool
  | .list _ => true
  | _ => false
theorem di_seq (h : DE X cl W l m) : DI X cl W tg l (mI seqOf m) := by
  refine PI.imp (PI.or (pi_list h) (pi_tup h)) fun σ H R q => tI_cases (p := isLst) q (fun v H' F' ds d env' fp' hp r ef hf k => ?_) fun v H' F' ds d env' fp' hp r ef hf k => ?_
  · cases hf with
    | @lst a vs es fa ha ra =>
      cases ef
      exact ⟨a, rfl, ⟨vs, SqL.of ha⟩, k _ (walk_list fa ha ra)⟩
    | _ => cases hp
  · cases hf with
    | @tup a vs es fa ha ra =>
      cases ef
      exact ⟨a, rfl, ⟨vs, SqT.of ha⟩, k _ (walk_tup fa ha ra)⟩
    | lst => cases hp
    | _ => cases ef
def intsD (lo : Int) (n : Nat) : List PyData := (List.range n).map fun i => .int (lo + (i : Nat))
theorem walk_range {K : PySem.W.Frag} {lo : Int} {n : Nat} {H : Hp} {F : Fs} : Walk K (Itr lo n) (intsD lo n) H F := by
  refine ⟨fun H2 F2 k mo => ⟨fun i d e => ?_, ?_⟩⟩
  · unfold intsD at e
    rw [List.getElem?_map] at e
    obtain ⟨j, e1, e2⟩ := Option.map_eq_some_iff.mp e
    have hi : i < n := by
      have := (List.getElem?_eq_some_iff.mp e1).1
      simpa using this
    rw [List.getElem?_range hi] at e1
    cases e1
    refine ⟨hi, fun x H3 y => ?_⟩
    obtain ⟨rfl, rfl⟩ := y
    subst e2
    exact ⟨F2, .int _, Ext.refl _ _ _⟩
  · unfold intsD
    rw [List.length_map, List.length_range]
    exact Nat.le_refl _
def rng1 : List PyData → Option (List PyData)
  | [.int j] => if -(2 ^ 62) ≤ j ∧ j < 2 ^ 62 then some (intsD 0 j.toNat) else none
  | _ => none
def rng2 : List PyData → Option (List PyData)
  | [.int i, .int j] => if -(2 ^ 62) ≤ i ∧ i < 2 ^ 62 ∧ -(2 ^ 62) ≤ j ∧ j < 2 ^ 62 then some (intsD i (j - i).toNat) else none
  | _ => none
def mIA (f : List PyData → Option (List PyData)) (m : M (List PyData)) : M (List PyData) := m >>= fun d => lift (f d)
theorem tI_ofA {Γ : Ctx} {ma : M (List PyData)} {f : List PyData → Option (List PyData)} {σ : St} {H : Hp} {R : It → Hp → Prop} {R' : List V → Hp → Prop} (q : tI Γ W (mIA f ma) σ H R)
    (h : ∀ v H' F' ds d env' fp', REnv Γ H' F' env' σ fp' → f d = some ds → FRs Γ.K H' F' d v → (∀ J, Walk Γ.K J ds H' F' → R J H') → R' v H') : tA Γ W ma σ H R' := by
  obtain ⟨F, env, fp, r, hm⟩ := q
  refine ⟨F, env, fp, r, ?_⟩
  unfold mIA at hm
  cases e : ma env with
  | ok d e1 =>
    rw [bind_ok e] at hm
    intro v H1 F1 fp1 P r1 h1 hd x
    obtain ⟨h1, rfl⟩ := h1
    obtain ⟨ds, ef, hm⟩ := post_liftI hm
    exact h v H1 F1 ds d e1 fp1 r1 ef h1 fun J w => hm J H1 F1 fp1 r1 w x.emp
  | exc y e1 =>
    rw [bind_exc e] at hm
    exact hm
  | bad =>
    rw [bind_bad e] at hm
    exact hm
theorem di_range1 {a : Expr} {ma : M (List PyData)} {p pos : Pos} (hg : Gl X "range") (hm : X.mg "range" = none) (ha : DA X cl W [a] ma) (hs : starEach [a] X.env = [(false, eval a X.env)] := by rfl) : DI X cl W tg (.Call (.Name "range" p) [a] [] pos) (mIA rng1 ma) := by
  refine PI.imp (pi_range1 hg hm ha hs) fun σ H R q => tI_ofA q fun v H' F' ds d env' fp' r ef hf k => ?_
  cases hf with
  | nil => cases ef
  | cons h t =>
    cases t with
    | cons _ _ => cases h <;> cases ef
    | nil =>
      cases h with
      | int j =>
        replace ef : (if -(2 ^ 62) ≤ j ∧ j < 2 ^ 62 then some (intsD 0 j.toNat) else none) = some ds := ef
        by_cases hc : -(2 ^ 62) ≤ j ∧ j < 2 ^ 62
        · rw [if_pos hc] at ef
          cases ef
          exact ⟨j, rfl, hc.1, hc.2, k _ walk_range⟩
        · rw [if_neg hc] at ef; cases ef
      | _ => cases ef
theorem di_range2 {a b : Expr} {ma : M (List PyData)} {p pos : Pos} (hg : Gl X "range") (hm : X.mg "range" = none) (ha : DA X cl W [a, b] ma) (hs : starEach [a, b] X.env = [(false, eval a X.env), (false, eval b X.env)] := by rfl) (hs2 : starEach [b] X.env = [(false, eval b X.env)] := by rfl) :
    DI X cl W tg (.Call (.Name "range" p) [a, b] [] pos) (mIA rng2 ma) := by
  refine PI.imp (pi_range2 hg hm ha hs hs2) fun σ H R q => tI_ofA q fun v H' F' ds d env' fp' r ef hf k => ?_
  cases hf with
  | nil => cases ef
  | cons h t =>
    cases t with
    | nil => cases h <;> cases ef
    | cons h2 t2 =>
      cases t2 with
      | cons _ _ => cases h <;> cases h2 <;> cases ef
      | nil =>
        cases h with
        | int i =>
          cases h2 with
          | int j =>
            replace ef : (if -(2 ^ 62) ≤ i ∧ i < 2 ^ 62 ∧ -(2 ^ 62) ≤ j ∧ j < 2 ^ 62 then some (intsD i (j - i).toNat) else none) = some ds := ef
            by_cases hc : -(2 ^ 62) ≤ i ∧ i < 2 ^ 62 ∧ -(2 ^ 62) ≤ j ∧ j < 2 ^ 62
            · rw [if_pos hc] at ef
              cases ef
              exact ⟨i, j, rfl, hc, k _ walk_range⟩
            · rw [if_neg hc] at ef; cases ef
          | _ => cases ef
        | _ => cases h2 <;> cases ef
end

def forL (tg : Tgt) (body : M Fl) : List PyData → M Fl
  | [] => pure .nx
  | x :: xs => fun env => match tg x env with
    | none => .bad
    | some e1 => match body e1 with
      | .ok .nx e2 => forL tg body xs e2
      | .ok .ct e2 => forL tg body xs e2
      | .ok .bk e2 => .ok .nx e2
      | .ok (.rt t) e2 => .ok (.rt t) e2
      | .exc y e2 => .exc y e2
      | .bad => .bad
def sFor (it : M (List PyData)) (tg : Tgt) (body : M Fl) : M Fl := it >>= fun xs => forL tg body xs
section
variable {X : Cx} {cl : Nat → Addr} {W : WX} {B : Nat → Bool} {tg it : Expr} {body : List Stmt} {mi : M (List PyData)} {mt : Tgt} {mb : M Fl} {pos : Pos}
theorem ds_for (hp : PassesOwn (model X.prog X.w) X.A X.env X.xe) (hc : X.calm = true) (hi : DI X cl W tg it mi) (hg : DG X cl B tg mt) (hb : DSs X cl W B body mb)
    (hs : ∀ x, foldedSetIterable it X.env x = pure x := by intro _; rfl) : DS X cl W B (.For tg it body [] pos) (sFor mi mt mb) := by
  refine PS.impL (ps_for hp hc hi hg hb hs) fun D σ H hl q => ?_
  obtain ⟨F, env, fp, r, hm⟩ := q
  refine ⟨F, env, fp, r, ?_⟩
  unfold sFor at hm
  cases e : mi env with
  | bad => rw [bind_bad e] at hm; exact hm.elim
  | exc y e1 =>
    rw [bind_exc e] at hm
    exact fun c d H1 F1 fp1 r1 r2 x => hm σ c d H1 F1 fp1 (Arr.of_ext r1 x) r2
  | ok ds e1 =>
    rw [bind_ok e] at hm
    intro J H1 F1 fp1 r1 w x
    have hm1 := hm.rebase (Arr.of_ext r1 x)
    refine ⟨fun i n σ' H' => ∃ F' env' fp', REnv ⟨X.K, cl⟩ H' F' env' σ' fp' ∧ σ'.length = σ.length ∧ n = ds.length - i ∧ i ≤ ds.length ∧ Walk X.K J ds H' F' ∧ PostS ⟨X.K, cl⟩ W B σ' H' F' fp' D (forL mt mb (ds.drop i) env'),
      ⟨ds.length, F1, e1, fp1, r1, rfl, rfl, Nat.zero_le _, w, hm1⟩, ?_⟩
    rintro i n σ' H' ⟨F', env', fp', r', hl', rfl, hi, w', hm'⟩
    by_cases hlt : i < ds.length
    · obtain ⟨hgo, hy⟩ := (w'.all H' F' (fun _ _ _ z => z) (fun _ z => z)).1 i ds[i] (List.getElem?_eq_getElem hlt)
      refine .inr ⟨hgo, fun σ2 H2 => ∃ F2 env2 fp2, REnv ⟨X.K, cl⟩ H2 F2 env2 σ2 fp2 ∧ σ2.length = σ.length ∧ Walk X.K J ds H2 F2 ∧ PostS ⟨X.K, cl⟩ W B σ2 H2 F2 fp2 D (forL mt mb (ds.drop (i + 1)) env2),
        fun σ2 H2 ⟨F2, env2, fp2, a, b, c, d⟩ => ⟨ds.length - (i + 1), by omega, F2, env2, fp2, a, b, rfl, hlt, c, d⟩, fun v H3 yl => ?_⟩
      obtain ⟨F3, hf, x3⟩ := hy v H3 yl
      have r3 := r'.extN x3
      have w3 := w'.ext x3 (fun _ _ z => z)
      have hm3 := hm'.rebase (Arr.of_ext r3 (ext_noF x3))
      rw [List.drop_eq_getElem_cons hlt] at hm3
      refine ⟨F3, env', fp', ds[i], r3, hf, ?_⟩
      unfold forL at hm3
      cases et : mt ds[i] env' with
      | none => simp only [et] at hm3; exact hm3
      | some e4 =>
        simp only [et] at hm3
        intro σ4 H4 F4 fp4 a4
        refine ⟨F4, e4, fp4, a4.re, ?_⟩
        have hm4 := hm3.rebase a4
        have w4 := w3.ext a4.ext.emp r3.fo
        cases eb : mb e4 with
        | bad => simp only [eb] at hm4; exact hm4
        | exc y e5 => simp only [eb] at hm4; exact hm4
        | ok f e5 =>
          cases f with
          | nx =>
            simp only [eb] at hm4
            exact fun σ5 H5 F5 fp5 a5 => ⟨F5, e5, fp5, a5.re, a5.len.trans (a4.len.trans hl'), w4.ext a5.ext.emp a4.re.fo, PostS.rebase hm4 a5⟩
          | ct =>
            simp only [eb] at hm4
            exact fun σ5 H5 F5 fp5 a5 => ⟨F5, e5, fp5, a5.re, a5.len.trans (a4.len.trans hl'), w4.ext a5.ext.emp a4.re.fo, PostS.rebase hm4 a5⟩
          | bk => simp only [eb] at hm4; exact hm4
          | rt t => simp only [eb] at hm4; exact hm4
    · have ei : i = ds.length := by omega
      subst ei
      refine .inl ⟨(w'.all H' F' (fun _ _ _ z => z) (fun _ z => z)).2, ?_⟩
      rw [List.drop_length] at hm'
      exact hm' σ' H' F' fp' (Arr.same r')
end
end PD

namespace PD
open PySem PySem.Spec PyProof.Rows L2

def whileN (c : M Bool) (b : M Fl) : Nat → Env → Option (Res Fl)
  | 0, _ => none
  | n + 1, env => match c env with
    | .bad => some .bad
    | .exc y e1 => some (.exc y e1)
    | .ok false e1 => some (.ok .nx e1)
    | .ok true e1 => match b e1 with
      | .ok .nx e2 => whileN c b n e2
      | .ok .ct e2 => whileN c b n e2
      | .ok .bk e2 => some (.ok .nx e2)
      | .ok (.rt t) e2 => some (.ok (.rt t) e2)
      | .exc y e2 => some (.exc y e2)
      | .bad => some .bad
theorem whileN_mono {c : M Bool} {b : M Fl} : ∀ (n m : Nat) (env : Env) (r : Res Fl), whileN c b n env = some r → n ≤ m → whileN c b m env = some r
  | 0, _, _, _, h, _ => by cases h
  | n + 1, 0, _, _, _, h => by omega
  | n + 1, m + 1, env, r, h, hm => by
    unfold whileN at h ⊢
    cases hc : c env with
    | bad => simp only [hc] at h ⊢; exact h
    | exc y e1 => simp only [hc] at h ⊢; exact h
    | ok t e1 =>
      cases t with
      | false => simp only [hc] at h ⊢; exact h
      | true =>
        simp only [hc] at h ⊢
        cases hb : b e1 with
        | bad => simp only [hb] at h ⊢; exact h
        | exc y e2 => simp only [hb] at h ⊢; exact h
        | ok f e2 =>
          cases f with
          | nx => simp only [hb] at h ⊢; exact whileN_mono n m e2 r h (by omega)
          | ct => simp only [hb] at h ⊢; exact whileN_mono n m e2 r h (by omega)
          | bk => simp only [hb] at h ⊢; exact h
          | rt t => simp only [hb] at h ⊢; exact h
open Classical in
noncomputable def sWhile (c : M Bool) (b : M Fl) : M Fl := fun env =>
  if h : ∃ p : Nat × Res Fl, whileN c b p.1 env = some p.2 then (choose h).2 else .bad
theorem sWhile_of {c : M Bool} {b : M Fl} {env : Env} {n : Nat} {r : Res Fl} (h : whileN c b n env = some r) : sWhile c b env = r := by
  have hx : ∃ p : Nat × Res Fl, whileN c b p.1 env = some p.2 := ⟨(n, r), h⟩
  unfold sWhile
  rw [dif_pos hx]
  have hs := Classical.choose_spec hx
  generalize Classical.choose hx = p at hs
  have h1 := whileN_mono _ (max n p.1) env r h (Nat.le_max_left _ _)
  have h2 := whileN_mono _ (max n p.1) env p.2 hs (Nat.le_max_right _ _)
  rw [h1] at h2
  exact (Option.some.inj h2).symm
section
variable {X : Cx} {cl : Nat → Addr} {W : WX} {B : Nat → Bool} {c : Expr} {body : List Stmt} {mc : M Bool} {mb : M Fl} {pos : Pos}
theorem ds_while (hp : PassesOwn (model X.prog X.w) X.A X.env X.xe) (hc : DT X cl W c mc) (hb : DSs X cl W B body mb) : DS X cl W B (.While c body [] pos) (sWhile mc mb) := by
  refine PS.imp (ps_while hp hc hb) fun D σ H q => ?_
  obtain ⟨F, env, fp, r, hm⟩ := q
  have hx : ∃ n res, whileN mc mb n env = some res ∧ PostS ⟨X.K, cl⟩ W B σ H F fp D res := by
    unfold sWhile at hm
    by_cases hx : ∃ p : Nat × Res Fl, whileN mc mb p.1 env = some p.2
    · rw [dif_pos hx] at hm
      exact ⟨_, _, Classical.choose_spec hx, hm⟩
    · rw [dif_neg hx] at hm
      exact hm.elim
  obtain ⟨n0, res, hn, hm⟩ := hx
  refine ⟨fun n σ' H' => ∃ F' env' fp' res, REnv ⟨X.K, cl⟩ H' F' env' σ' fp' ∧ whileN mc mb n env' = some res ∧ PostS ⟨X.K, cl⟩ W B σ' H' F' fp' D res, ⟨n0, F, env, fp, res, r, hn, hm⟩, ?_⟩
  rintro n σ' H' ⟨F', env', fp', res', r', hn', hm'⟩
  cases n with
  | zero => cases hn'
  | succ n =>
    refine ⟨F', env', fp', r', ?_⟩
    unfold whileN at hn'
    cases ec : mc env' with
    | bad => simp only [ec] at hn'; cases hn'; exact hm'
    | exc y e1 =>
      simp only [ec] at hn'
      cases hn'
      exact fun cc d H1 F1 fp1 r1 r2 x => hm' σ' cc d H1 F1 fp1 (Arr.of_ext r1 x) r2
    | ok t e1 =>
      intro b H1 F1 fp1 P r1 hb' hd x
      obtain ⟨rfl, rfl⟩ := hb'
      have hm1 := hm'.rebase (Arr.of_ext r1 x.emp)
      cases t with
      | false =>
        simp only [ec] at hn'
        cases hn'
        exact iteF (hm1 σ' H1 F1 fp1 (Arr.same r1))
      | true =>
        simp only [ec] at hn'
        refine iteT ⟨fun σ2 H2 => ∃ F2 env2 fp2, REnv ⟨X.K, cl⟩ H2 F2 env2 σ2 fp2 ∧ ∃ res, whileN mc mb n env2 = some res ∧ PostS ⟨X.K, cl⟩ W B σ2 H2 F2 fp2 D res, fun σ2 H2 ⟨F2, env2, fp2, a, res, b, d⟩ => ⟨n, Nat.lt_succ_self n, F2, env2, fp2, res, a, b, d⟩, ?_⟩
        refine ⟨F1, e1, fp1, r1, ?_⟩
        cases eb : mb e1 with
        | bad => simp only [eb] at hn'; cases hn'; exact hm1
        | exc y e2 => simp only [eb] at hn'; cases hn'; exact hm1
        | ok f e2 =>
          cases f with
          | nx => simp only [eb] at hn'; exact fun σ5 H5 F5 fp5 a5 => ⟨F5, e2, fp5, a5.re, res', hn', hm1.rebase a5⟩
          | ct => simp only [eb] at hn'; exact fun σ5 H5 F5 fp5 a5 => ⟨F5, e2, fp5, a5.re, res', hn', hm1.rebase a5⟩
          | bk => simp only [eb] at hn'; cases hn'; exact hm1
          | rt t => simp only [eb] at hn'; cases hn'; exact hm1
end

def wipeE (env : Env) (vs : List Nat) : Env := fun i => if i ∈ vs then none else env i
def backE (env env' : Env) (vs : List Nat) : Env := fun i => if i ∈ vs then env i else env' i
def compL {α : Type} (tg : Tgt) (tt : M Bool) (elt : M α) (vs : List Nat) : List PyData → Env → Option (List α × Env)
  | [], env => some ([], env)
  | x :: xs, env => match tg x env with
    | none => none
    | some e1 => match tt e1 with
      | .ok true e2 => match elt e2 with
        | .ok y e3 => (compL tg tt elt vs xs (wipeE e3 vs)).map fun p => (y :: p.1, p.2)
        | _ => none
      | .ok false e2 => compL tg tt elt vs xs (wipeE e2 vs)
      | _ => none
def lcEnd (tg : Tgt) (tt : M Bool) (elt : M PyData) (vs : List Nat) (xs : List PyData) : M PyData := fun env =>
  match compL tg tt elt vs xs (wipeE env vs) with
  | some (ys, e2) => if ys.length ≤ sizeLine then .ok (.list ys) (backE env e2 vs) else .bad
  | none => .bad
def mLc (it : M (List PyData)) (tg : Tgt) (tt : M Bool) (elt : M PyData) (vs : List Nat) : M PyData := it >>= lcEnd tg tt elt vs
abbrev W0 : WX := fun _ _ _ _ => False
theorem wipe_get {σ : St} {vs : List Nat} {i : Nat} (h : i ∉ vs) : (wipe σ vs)[i]? = σ[i]? := wipe_out h
theorem wipe_in {σ : St} : ∀ {vs : List Nat} {i : Nat}, i ∈ vs → i < σ.length → (wipe σ vs)[i]? = some none
  | [], _, h, _ => by cases h
  | v :: vs, i, h, hl => by
    unfold wipe
    by_cases e : v = i
    · subst e
      rw [List.getElem?_set_self (by rw [wipe_length]; exact hl)]
    · rw [List.getElem?_set_ne e]
      exact wipe_in ((List.mem_cons.mp h).resolve_left (Ne.symm e)) hl
theorem wipe_eq {σ σ' : St} {vs : List Nat} (hl : σ'.length = σ.length) (h : ∀ i, i ∉ vs → σ'[i]? = σ[i]?) : wipe σ' vs = wipe σ vs := by
  apply List.ext_getElem?
  intro i
  by_cases hi : i ∈ vs
  · by_cases hlt : i < σ.length
    · rw [wipe_in hi hlt, wipe_in hi (by rw [hl]; exact hlt)]
    · rw [List.getElem?_eq_none (by rw [wipe_length, hl]; omega), List.getElem?_eq_none (by rw [wipe_length]; omega)]
  · rw [wipe_get hi, wipe_get hi, h i hi]
def wipeF (fp : Nat → Fs) (vs : List Nat) : Nat → Fs := fun i => if i ∈ vs then noF else fp i
def backF (fp fp' : Nat → Fs) (vs : List Nat) : Nat → Fs := fun i => if i ∈ vs then fp i else fp' i
theorem ow_wipe {fp : Nat → Fs} {vs : List Nat} {a : Addr} (h : ow (wipeF fp vs) a) : ow fp a := by
  obtain ⟨i, h⟩ := h
  unfold wipeF at h
  by_cases e : i ∈ vs
  · rw [if_pos e] at h; exact h.elim
  · rw [if_neg e] at h; exact ⟨i, h⟩
section
variable {Γ : Ctx} {H H' : Hp} {F F' : Fs} {env env' : Env} {σ : St} {fp fp' : Nat → Fs} {vs : List Nat}
theorem REnv.wipe (r : REnv Γ H F env σ fp) : REnv Γ H F (wipeE env vs) (L2.wipe σ vs) (wipeF fp vs) := by
  refine ⟨fun i t e => ?_, fun i a e => ?_, fun i j a h1 h2 => ?_, fun i a h => ?_, r.fd⟩
  · unfold wipeE at e
    by_cases hi : i ∈ vs
    · rw [if_pos hi] at e; cases e
    · rw [if_neg hi] at e
      obtain ⟨v, hv, ht⟩ := r.rep i t e
      unfold wipeF
      rw [if_neg hi, wipe_get hi]
      exact ⟨v, hv, ht⟩
  · unfold wipeE at e
    unfold wipeF
    by_cases hi : i ∈ vs
    · rw [if_pos hi]; exact id
    · rw [if_neg hi] at e ⊢; exact r.emp i a e
  · unfold wipeF at h1 h2
    by_cases hi : i ∈ vs
    · rw [if_pos hi] at h1; exact h1.elim
    · by_cases hj : j ∈ vs
      · rw [if_pos hj] at h2; exact h2.elim
      · rw [if_neg hi] at h1; rw [if_neg hj] at h2; exact r.dis i j a h1 h2
  · unfold wipeF at h
    by_cases hi : i ∈ vs
    · rw [if_pos hi] at h; exact h.elim
    · rw [if_neg hi] at h; exact r.nf i a h
theorem REnv.back (r : REnv Γ H F env σ fp) (r' : REnv Γ H' F' env' (L2.wipe σ vs) fp') (n : ∀ i, i ∈ vs → env' i = none) (x : Ext H F (ow (wipeF fp vs)) H' F' (ow fp')) : REnv Γ H' F' (backE env env' vs) σ (backF fp fp' vs) := by
  have out : ∀ i, i ∈ vs → ∀ a, fp i a → ¬ ow (wipeF fp vs) a := fun i hi a h ⟨j, q⟩ => by
    unfold wipeF at q
    by_cases hj : j ∈ vs
    · rw [if_pos hj] at q; exact q
    · rw [if_neg hj] at q
      have := r.dis i j a h q
      subst this
      exact hj hi
  have sep : ∀ i, i ∈ vs → ∀ a, fp i a → ¬ ow fp' a := fun i hi a h q => by
    rcases x.own a q with z | z
    · exact out i hi a h z
    · obtain ⟨o, e⟩ := r.dom ⟨i, h⟩
      rw [z] at e; cases e
  refine ⟨fun i t e => ?_, fun i a e => ?_, fun i j a h1 h2 => ?_, fun i a h => ?_, r'.fd⟩
  · unfold backE at e
    unfold backF
    by_cases hi : i ∈ vs
    · rw [if_pos hi] at e ⊢
      obtain ⟨v, hv, ht⟩ := r.rep i t e
      exact ⟨v, hv, ht.ext x (fun a f q => r.fo a f (ow_wipe q)) fun a q => out i hi a q⟩
    · rw [if_neg hi] at e ⊢
      obtain ⟨v, hv, ht⟩ := r'.rep i t e
      rw [wipe_get hi] at hv
      exact ⟨v, hv, ht⟩
  · unfold backE at e
    unfold backF
    by_cases hi : i ∈ vs
    · rw [if_pos hi] at e ⊢; exact r.emp i a e
    · rw [if_neg hi] at e ⊢; exact r'.emp i a e
  · unfold backF at h1 h2
    by_cases hi : i ∈ vs
    · rw [if_pos hi] at h1
      by_cases hj : j ∈ vs
      · rw [if_pos hj] at h2; exact r.dis i j a h1 h2
      · rw [if_neg hj] at h2; exact (sep i hi a h1 ⟨j, h2⟩).elim
    · rw [if_neg hi] at h1
      by_cases hj : j ∈ vs
      · rw [if_pos hj] at h2; exact (sep j hj a h2 ⟨i, h1⟩).elim
      · rw [if_neg hj] at h2; exact r'.dis i j a h1 h2
  · unfold backF at h
    by_cases hi : i ∈ vs
    · rw [if_pos hi] at h
      intro q
      rcases x.frz a q with z | z | z | z
      · exact r.nf i a h z
      · exact out i hi a h z
      · obtain ⟨o, e⟩ := r.dom ⟨i, h⟩
        rw [z] at e; cases e
      · exact r.nt ⟨i, h⟩ z
    · rw [if_neg hi] at h; exact r'.nf i a h
theorem ext_back (x : Ext H F (ow (wipeF fp vs)) H' F' (ow fp')) : Ext H F (ow fp) H' F' (ow (backF fp fp' vs)) := by
  refine ⟨fun a o h n => x.keep a o h fun q => n (ow_wipe q), x.mono, fun a h => ?_, fun a h => ?_, x.dom⟩
  · obtain ⟨i, h⟩ := h
    unfold backF at h
    by_cases hi : i ∈ vs
    · rw [if_pos hi] at h; exact .inl ⟨i, h⟩
    · rw [if_neg hi] at h
      rcases x.own a ⟨i, h⟩ with q | q
      · exact .inl (ow_wipe q)
      · exact .inr q
  · rcases x.frz a h with q | q | q
    · exact .inl q
    · exact .inr (.inl (ow_wipe q))
    · exact .inr (.inr q)
theorem Ext.apart {D : Addr} {o : HO} (r : REnv Γ H F env σ fp) (x : Ext H F (ow fp) H' F' (ow fp')) (hD : H D = some o) (n : ¬ ow fp D) (nf : ¬ F D) (nt : ¬ Tup H D := by rintro ⟨vs, z⟩; simp_all) : H' D = some o ∧ ¬ ow fp' D ∧ ¬ F' D := by
  refine ⟨x.keep D o hD n, fun q => ?_, fun q => ?_⟩
  · rcases x.own D q with z | z
    · exact n z
    · rw [hD] at z; cases z
  · rcases x.frz D q with z | z | z | z
    · exact nf z
    · exact n z
    · rw [hD] at z; cases z
    · exact nt z
end
section
variable {X : Cx} {cl : Nat → Addr} {W : WX} {tg iter elt : Expr} {ifs : List Expr} {scope : Scope} {own : List (Str × Nat)} {pos : Pos} {mi : M (List PyData)} {mg : Tgt} {mt : M Bool} {me : M PyData}
structure DTs (X : Cx) (cl : Nat → Addr) (W : WX) (ifs : List Expr) (m : M Bool) : Prop where
  run : PTs X ifs (tB' ⟨X.K, cl⟩ W m)
theorem dts_nil : DTs X cl W [] (pure true) := ⟨⟨fun pins s σ H Q I h => pts_nil.run pins s σ H Q I (by
  obtain ⟨F, env, fp, r, hm⟩ := h
  exact hm true H F fp noF r ⟨rfl, rfl⟩ (fun _ z => z.elim) (Ext.emp' (Ext.refl _ _ _)))⟩⟩
theorem dts_one {c : Expr} {m : M Bool} (h : DT X cl W c m) : DTs X cl W [c] m := ⟨pts_one h⟩
def notIn (vs : List Nat) : Nat → Bool := fun i => !vs.contains i
theorem add_ext {Γ : Ctx} {H : Hp} {F : Fs} {env : Env} {σ : St} {fp : Nat → Fs} {D : Addr} {acc' : List V} (r : REnv Γ H F env σ fp) (n : ¬ ow fp D) (nf : ¬ F D) :
    REnv Γ (upd H D (.lst acc')) F env σ fp := by
  refine ⟨fun i t e => ?_, r.emp, r.dis, r.nf, fun a f => (let ⟨o, q⟩ := r.fd a f; ⟨o, by rw [upd_ne (fun z => nf (by rw [← z]; exact f))]; exact q⟩)⟩
  obtain ⟨v, hv, ht⟩ := r.rep i t e
  refine ⟨v, hv, ht.keep (fun a o f q => ?_) (fun _ z => z) fun a o p q => ?_⟩
  · have ne : a ≠ D := fun z => by rw [z] at f; exact nf f
    rw [upd_ne ne]; exact q
  · have ne : a ≠ D := fun z => by rw [z] at p; exact n ⟨i, p⟩
    rw [upd_ne ne]; exact q
theorem add_frs {K : PySem.W.Frag} {H : Hp} {F : Fs} {D : Addr} {o : HO} {ds : List PyData} {vs : List V} (h : FRs K H F ds vs) (nf : ¬ F D) : FRs K (upd H D o) F ds vs :=
  h.keep (fun a o f q => by
    have ne : a ≠ D := fun z => by rw [z] at f; exact nf f
    rw [upd_ne ne]; exact q) fun _ z => z
theorem REnv.addF {Γ : Ctx} {H : Hp} {F P : Fs} {env : Env} {σ : St} {fp : Nat → Fs} (r : REnv Γ H F env σ fp) (n : ∀ a, P a → ¬ ow fp a) (d : ∀ a, P a → ∃ o, H a = some o) : REnv Γ H (fun a => F a ∨ P a) env σ fp :=
  ⟨fun i t e => let ⟨v, a, b⟩ := r.rep i t e; ⟨v, a, b.keep (fun _ _ _ z => z) (fun _ z => .inl z) fun _ _ _ z => z⟩, r.emp, r.dis, fun i a h z => z.elim (r.nf i a h) fun q => n a q ⟨i, h⟩, fun a z => z.elim (r.fd a) (d a)⟩
theorem lc_use {σ : St} {H : Hp} {Q : VK} {vs : List Nat} (q : tE ⟨X.K, cl⟩ W (mLc mi mg mt me vs) σ H Q) :
    tLc (tI ⟨X.K, cl⟩ W mi) (tG1 ⟨X.K, cl⟩ (notIn vs) mg) (tB' ⟨X.K, cl⟩ W0 mt) (tE ⟨X.K, cl⟩ W0 me) vs σ H Q := by
  obtain ⟨F, env, fp, r, hm⟩ := q
  refine ⟨F, env, fp, r, ?_⟩
  unfold mLc at hm
  cases e : mi env with
  | bad => rw [bind_bad e] at hm; exact hm.elim
  | exc y e1 => rw [bind_exc e] at hm; exact hm
  | ok xs e1 =>
    rw [bind_ok e] at hm
    intro J H1 F1 fp1 r1 w x
    have hm1 := hm.rebase x
    clear hm
    unfold lcEnd at hm1
    cases hcl : compL mg mt me vs xs (wipeE e1 vs) with
    | none => simp only [hcl] at hm1; exact hm1.elim
    | some p =>
      obtain ⟨ys, e2⟩ := p
      simp only [hcl] at hm1
      by_cases hz : ys.length ≤ sizeLine
      · rw [if_pos hz] at hm1
        intro D hD
        have rw1 := r1.wipe (vs := vs)
        have nO1 : ¬ ow fp1 D := fun z => by
          obtain ⟨o, z⟩ := r1.dom z
          rw [hD] at z; cases z
        have nO : ¬ ow (wipeF fp1 vs) D := fun z => nO1 (ow_wipe z)
        have nF1 : Ext H1 F1 noF (upd H1 D (.lst [])) F1 noF := ⟨fun a o h _ => by rw [upd_ne (ne_of_none h hD)]; exact h, fun _ z => z, fun _ z => z.elim, fun _ z => .inl z, fun h a z => (let ⟨o, q⟩ := h a z; ⟨o, by rw [upd_ne (ne_of_none q hD)]; exact q⟩)⟩
        -- nothing that was frozen lies at D
        have hFD : ¬ F1 D := fun z => by
          obtain ⟨o, z⟩ := r1.fd D z
          rw [hD] at z; cases z
        refine ⟨fun i n H' => ∃ F' e' fp' acc ds ys', REnv ⟨X.K, cl⟩ H' F' e' (L2.wipe σ vs) fp' ∧ (∀ j, j ∈ vs → e' j = none) ∧ H' D = some (.lst acc) ∧ FRs X.K H' F' ds acc ∧ ¬ ow fp' D ∧ ¬ F' D ∧ Walk X.K J xs H' F' ∧
          Ext H1 F1 (ow (wipeF fp1 vs)) H' F' (ow fp') ∧ n = xs.length - i ∧ i ≤ xs.length ∧ compL mg mt me vs (xs.drop i) e' = some (ys', e2) ∧ ds ++ ys' = ys,
          ⟨xs.length, F1, wipeE e1 vs, wipeF fp1 vs, [], [], ys, add_ext rw1 nO hFD, fun j hj => by unfold wipeE; rw [if_pos hj], upd_same, .nil, nO, hFD, w.ext nF1 (fun _ _ z => z), ?_, rfl, Nat.zero_le _, hcl, rfl⟩, ?_⟩
        · exact ⟨fun a o h _ => by rw [upd_ne (ne_of_none h hD)]; exact h, fun _ z => z, fun _ z => .inl z, fun _ z => .inl z, nF1.dom⟩
        rintro i n H' ⟨F', e', fp', acc, ds, ys', r', hn', hD', hds, nO', nF', w', x', rfl, hi, hcl', hys⟩
        by_cases hlt : i < xs.length
        · obtain ⟨hgo, hy⟩ := (w'.all H' F' (fun _ _ _ z => z) (fun _ z => z)).1 i xs[i] (List.getElem?_eq_getElem hlt)
          refine .inr ⟨hgo, fun H'' => ∃ F' e' fp' acc ds ys', REnv ⟨X.K, cl⟩ H'' F' e' (L2.wipe σ vs) fp' ∧ (∀ j, j ∈ vs → e' j = none) ∧ H'' D = some (.lst acc) ∧ FRs X.K H'' F' ds acc ∧ ¬ ow fp' D ∧ ¬ F' D ∧ Walk X.K J xs H'' F' ∧
            Ext H1 F1 (ow (wipeF fp1 vs)) H'' F' (ow fp') ∧ compL mg mt me vs (xs.drop (i + 1)) e' = some (ys', e2) ∧ ds ++ ys' = ys,
            fun H'' ⟨F', e', fp', acc, ds, ys', a1, a2, a3, a4, a5, a6, a7, a8, a9, a10⟩ => ⟨xs.length - (i + 1), by omega, F', e', fp', acc, ds, ys', a1, a2, a3, a4, a5, a6, a7, a8, rfl, hlt, a9, a10⟩, fun v H3 yl => ?_⟩
          obtain ⟨F3, hf, x3⟩ := hy v H3 yl
          have r3 := r'.extN x3
          have w3 := w'.ext x3 (fun _ _ z => z)
          have d3 := hds.ext x3 (fun _ _ z => z)
          have hD3 : H3 D = some (.lst acc) := x3.keep _ _ hD' id
          have nF3 : ¬ F3 D := fun z => by
            rcases x3.frz D z with q | q | q | ⟨vs, q⟩
            · exact nF' q
            · exact q
            · rw [hD'] at q; cases q
            · rw [hD'] at q; cases q
          have xx3 := x'.trans (ext_noF x3)
          rw [List.drop_eq_getElem_cons hlt] at hcl'
          unfold compL at hcl'
          refine ⟨F3, e', fp', xs[i], r3, hf, ?_⟩
          cases et : mg xs[i] e' with
          | none => simp only [et] at hcl'; cases hcl'
          | some e4 =>
            simp only [et] at hcl'
            intro σ2 H2 F2 fp2 a2
            have hw : L2.wipe σ2 vs = L2.wipe σ vs := wipe_eq (by rw [a2.len, wipe_length]) fun j hj => by
              rw [a2.bor j (by unfold notIn; simpa using hj), wipe_get hj]
            refine ⟨hw, F2, e4, fp2, a2.re, ?_⟩
            have w2 := w3.ext a2.ext.emp r3.fo
            have d2 := d3.ext a2.ext.emp r3.fo
            obtain ⟨hD2, nO2, nF2⟩ := Ext.apart r3 a2.ext.emp hD3 nO' nF3
            have xx2 := xx3.trans a2.ext.emp
            cases em : mt e4 with
            | bad => simp only [em] at hcl'; cases hcl'
            | exc y e5 => simp only [em] at hcl'; cases hcl'
            | ok b e5 =>
              intro b' H5 F5 fp5 P5 r5 hb hd5 x5
              obtain ⟨rfl, rfl⟩ := hb
              have w5 := w2.ext x5.emp a2.re.fo
              have d5 := d2.ext x5.emp a2.re.fo
              obtain ⟨hD5, nO5, nF5⟩ := Ext.apart a2.re x5.emp hD2 nO2 nF2
              have xx5 := xx2.trans x5.emp
              cases b with
              | false =>
                simp only [em] at hcl'
                have rr := r5.wipe (vs := vs)
                rw [hw] at rr
                exact iteF ⟨F5, wipeE e5 vs, wipeF fp5 vs, acc, ds, ys', rr, fun j hj => by unfold wipeE; rw [if_pos hj], hD5, d5, fun z => nO5 (ow_wipe z), nF5, w5, ext_of xx5 fun a z => ow_wipe z, hcl', hys⟩
              | true =>
                simp only [em] at hcl'
                refine iteT ⟨F5, e5, fp5, r5, ?_⟩
                cases ee : me e5 with
                | bad => simp only [ee] at hcl'; cases hcl'
                | exc y e6 => simp only [ee] at hcl'; cases hcl'
                | ok y e6 =>
                  simp only [ee] at hcl'
                  obtain ⟨⟨ys'', e7⟩, h7, h8⟩ := Option.map_eq_some_iff.mp hcl'
                  cases h8
                  intro vy H6 F6 fp6 P6 r6 hy6 hd6 x6
                  obtain ⟨hy6, rfl⟩ := hy6
                  have w6 := w5.ext x6.emp r5.fo
                  have d6 := d5.ext x6.emp r5.fo
                  obtain ⟨hD6, nO6, nF6⟩ := Ext.apart r5 x6.emp hD5 nO5 nF5
                  have xx6 := xx5.trans x6.emp
                  have rr := r6.wipe (vs := vs)
                  rw [hw] at rr
                  have nO7 : ¬ ow (wipeF fp6 vs) D := fun z => nO6 (ow_wipe z)
                  have hlen := d6.length
                  refine ⟨acc, hD6, ?_, F6, wipeE e6 vs, wipeF fp6 vs, acc ++ [vy], ds ++ [y], ys'', add_ext rr nO7 nF6, fun j hj => by unfold wipeE; rw [if_pos hj], upd_same, add_frs (d6.append (.cons hy6 .nil)) nF6, nO7, nF6, ?_, ?_, h7, ?_⟩
                  · rw [← hys, List.length_append, List.length_cons] at hz
                    omega
                  · exact ⟨fun H8 F8 k m => w6.all H8 F8 (fun a o f q => k a o f (by
                      have ne : a ≠ D := fun z => by rw [z] at f; exact nF6 f
                      rw [upd_ne ne]; exact q)) m⟩
                  · exact ⟨fun a o h n => by
                      rw [upd_ne (ne_of_none h hD)]
                      exact xx6.keep a o h n, xx6.mono, fun a z => xx6.own a (ow_wipe z), xx6.frz, fun _ => (add_ext (acc' := acc ++ [vy]) rr nO7 nF6).fd⟩
                  · rw [← hys, List.append_assoc]; rfl
        · have ei : i = xs.length := by omega
          subst ei
          refine .inl ⟨(w'.all H' F' (fun _ _ _ z => z) (fun _ z => z)).2, ?_⟩
          rw [List.drop_length] at hcl'
          unfold compL at hcl'
          cases hcl'
          rw [List.append_nil] at hys
          subst hys
          have nb : ¬ ow (backF fp1 fp' vs) D := fun ⟨j, z⟩ => by
            unfold backF at z
            by_cases hj : j ∈ vs
            · rw [if_pos hj] at z; exact nO1 ⟨j, z⟩
            · rw [if_neg hj] at z; exact nO' ⟨j, z⟩
          have xb := ext_back x'
          have rb := (r1.back r' hn' x').addF (P := fun a => a = D) (fun a z => by rw [z]; exact nb) (fun a z => by rw [z]; exact ⟨_, hD'⟩)
          refine hm1 (.ref D) H' (fun a => F' a ∨ a = D) (backF fp1 fp' vs) noF rb ⟨.lst (.inr rfl) hD' (hds.keep (fun _ _ _ z => z) fun _ z => .inl z), rfl⟩ (fun _ z => z.elim) (Ext.emp' ⟨xb.keep, fun a z => .inl (xb.mono a z), xb.own, fun a z => ?_, fun _ => rb.fd⟩)
          rcases z with z | z
          · exact xb.frz a z
          · rw [z]; exact .inr (.inr (.inl hD))
      · rw [if_neg hz] at hm1; exact hm1.elim
theorem de_lc (hc : X.calm = true) (hN : X.N.Nodup) (hi : DI X cl W tg iter mi) (ok : BlkOk X.N X.env.scope scope own)
    (hg : ∀ (s : Shared) (H : Hp) (C : Addr) (ce : List (Str × Addr)) (fp : List Addr), DG (X.blk s H scope (compEnvC scope ce C X.env) fp) cl (notIn (own.map (·.2))) tg mg)
    (ht : ∀ (s : Shared) (H : Hp) (C : Addr) (ce : List (Str × Addr)) (fp : List Addr), DTs (X.blk s H scope (compEnvC scope ce C X.env) fp) cl W0 ifs mt)
    (he : ∀ (s : Shared) (H : Hp) (C : Addr) (ce : List (Str × Addr)) (fp : List Addr), DE (X.blk s H scope (compEnvC scope ce C X.env) fp) cl W0 elt me)
    (hs : ∀ x, foldedSetIterable iter X.env x = pure x := by intro _; rfl) :
    DE X cl W (.ListComp elt [⟨tg, iter, ifs, 0⟩] scope pos) (mLc mi mg mt me (own.map (·.2))) :=
  PE.imp (pe_lc hc hN hi ok (fun s H C ce fp => hg s H C ce fp) (fun s H C ce fp => (ht s H C ce fp).run) (fun s H C ce fp => he s H C ce fp) hs) fun σ H Q q => lc_use q
theorem ds_setLc {i : Nat} {y : Str} {py spos : Pos} {B : Nat → Bool} (hy : X.N[i]? = some y) (hB : B i = false) (hyl : X.env.scope.names.lookup y = some .local)
    (hsw : swapsWith (.ListComp elt [⟨tg, iter, ifs, 0⟩] scope pos) (some (.Name y py)) spos.line X.env = pure true) (hc : X.calm = true) (hN : X.N.Nodup) (hi : DI X cl W tg iter mi) (ok : BlkOk X.N X.env.scope scope own)
    (hg : ∀ (s : Shared) (H : Hp) (C : Addr) (ce : List (Str × Addr)) (fp : List Addr), DG (X.blk s H scope (compEnvC scope ce C X.env) fp) cl (notIn (own.map (·.2))) tg mg)
    (ht : ∀ (s : Shared) (H : Hp) (C : Addr) (ce : List (Str × Addr)) (fp : List Addr), DTs (X.blk s H scope (compEnvC scope ce C X.env) fp) cl W0 ifs mt)
    (he : ∀ (s : Shared) (H : Hp) (C : Addr) (ce : List (Str × Addr)) (fp : List Addr), DE (X.blk s H scope (compEnvC scope ce C X.env) fp) cl W0 elt me)
    (hs : ∀ x, foldedSetIterable iter X.env x = pure x := by intro _; rfl) :
    DS X cl W B (.Assign [.Name y py] (.ListComp elt [⟨tg, iter, ifs, 0⟩] scope pos) spos) (sSet i (mLc mi mg mt me (own.map (·.2)))) :=
  PS.impL (ps_setLc hc hN hy hyl hsw hi ok (fun s H C ce fp => hg s H C ce fp) (fun s H C ce fp => (ht s H C ce fp).run) (fun s H C ce fp => he s H C ce fp) hs) fun D σ H hl q => lc_use (tAsg_of (List.getElem?_eq_some_iff.mp hy).1 hB D σ H hl q)
end
end PD

namespace PD
open PySem PySem.Spec PyProof.Rows L2

inductive Opn where
  | fr (d : PyData)
  | pk (i : Nat)
def Opn.read (env : Env) : Opn → Option PyData
  | .fr d => some d
  | .pk i => (env i).bind T.fz
def relL (Γ : Ctx) (σ : St) : Rel Opn V := fun H F a b P => (P = fun _ => False) ∧ match a with
  | .fr d => FR Γ.K H F d b
  | .pk i => σ[i]? = some (some b)
def tL (Γ : Ctx) (W : WX) (m : M Opn) : TE := fun σ H Q => G Γ W (relL Γ σ) m σ H Q
abbrev DL (X : Cx) (cl : Nat → Addr) (W : WX) (e : Expr) (m : M Opn) : Prop := PE X e (tL ⟨X.K, cl⟩ W m)
section
variable {Γ : Ctx} {W : WX} {σ : St} {H H' : Hp} {F F' O O' : Fs} {env : Env} {fp : Nat → Fs} {Q : VK}
theorem relL.ext {a : Opn} {b : V} {P : Fs} (h : relL Γ σ H F a b P) (x : Ext H F O H' F' O') (n : ∀ a, F a → ¬ O a) : relL Γ σ H' F' a b P := by
  refine ⟨h.1, ?_⟩
  cases a with
  | fr d => exact FR.ext x n h.2
  | pk i => exact h.2
theorem relL.read {a : Opn} {b : V} {P : Fs} (h : relL Γ σ H F a b P) (r : REnv Γ H F env σ fp) {d : PyData} (e : a.read env = some d) : FR Γ.K H (fun x => F x ∨ ow fp x) d b := by
  cases a with
  | fr d' =>
    cases e
    exact FR.keep (fun _ _ _ q => q) (fun _ q => .inl q) h.2
  | pk i =>
    unfold Opn.read at e
    obtain ⟨t, e1, e2⟩ := Option.bind_eq_some_iff.mp e
    obtain ⟨v, hv, ht⟩ := r.rep i t e1
    have hb : σ[i]? = some (some b) := h.2
    rw [hb] at hv
    cases hv
    exact RT.fz (fun _ q => .inl q) ht (fun _ q => .inr ⟨i, q⟩) d e2
end
def mFr (m : M PyData) : M Opn := m >>= fun d => pure (.fr d)
def mPk (i : Nat) : M Opn := fun env => match env i with
  | some _ => .ok (.pk i) env
  | none => .bad
section
variable {X : Cx} {cl : Nat → Addr} {W : WX} {a b c e : Expr} {m ma mb mc : M PyData} {la lb : M Opn} {pos : Pos}
theorem dl_fr (h : DE X cl W e m) : DL X cl W e (mFr m) := PE.imp h fun σ H Q q => by
  have q : G ⟨X.K, cl⟩ W (relL ⟨X.K, cl⟩ σ) (m >>= fun d => (pure (.fr d) : M Opn)) σ H Q := q
  exact G_bind (rel1 := relE ⟨X.K, cl⟩) (fun _ _ _ _ _ h => h.2) q fun b H1 F1 e1 fp1 a r h hm =>
    hm b H1 F1 fp1 noF r ⟨rfl, h.1⟩ (fun _ z => z.elim) (Ext.emp' (Ext.refl _ _ _))
theorem dl_pkV (i : Nat) {x : Str} {pos : Pos} (hN : X.N[i]? = some x := by rfl) (hv : Vis X.env.scope x := by first | exact Or.inl rfl | exact Or.inr (Or.inl rfl) | exact Or.inr (Or.inr rfl)) (hd : (x == ("__debug__" : Str)) = false := by decide)
    (hcd : (x == ("__classdict__" : Str)) = false := by decide) : DL X cl W (.Name x pos) (mPk i) := PE.imp (pe_var hN hv hd hcd) fun σ H Q q => by
  obtain ⟨F, env, fp, r, hm⟩ := q
  have hm : Post ⟨X.K, cl⟩ W (relL ⟨X.K, cl⟩ σ) σ H F fp Q (mPk i env) := hm
  unfold mPk at hm
  cases e : env i with
  | none => simp only [e] at hm; exact hm.elim
  | some t =>
    simp only [e] at hm
    obtain ⟨v, hv, ht⟩ := r.rep i t e
    exact ⟨v, hv, hm v H F fp noF r ⟨rfl, hv⟩ (fun _ z => z.elim) (Ext.emp' (Ext.refl _ _ _))⟩
theorem G_oneL {α β : Type} {Γ : Ctx} {rel : Rel α β} {k : Opn → M α} {σ : St} {H : Hp} {Q R : β → Hp → Prop} {Q' : VK} (h : G Γ W rel (la >>= k) σ H Q)
    (hR : ∀ v H' F' env' fp' a, REnv Γ H' F' env' σ fp' → relL Γ σ H' F' a v noF → Post Γ W rel σ H' F' fp' Q (k a env') → Q' v H') : tL Γ W la σ H Q' :=
  G_bind (rel1 := relL Γ σ) (fun _ _ _ _ _ h => h.1) h fun b H1 F1 e1 fp1 a r h hm => hR b H1 F1 e1 fp1 a r h hm
theorem G_twoL {α β : Type} {Γ : Ctx} {rel : Rel α β} {k : Opn → Opn → M α} {σ : St} {H : Hp} {Q : β → Hp → Prop} {R : V → V → Hp → Prop} (h : G Γ W rel (do let a ← la; let b ← lb; k a b) σ H Q)
    (hR : ∀ x y H' F' env' fp' a b, REnv Γ H' F' env' σ fp' → relL Γ σ H' F' a x noF → relL Γ σ H' F' b y noF → Post Γ W rel σ H' F' fp' Q (k a b env') → R x y H') :
    tL Γ W la σ H fun x H1 => tL Γ W lb σ H1 fun y H2 => R x y H2 := by
  refine G_bind (rel1 := relL Γ σ) (fun _ _ _ _ _ h => h.1) h fun x H1 F1 e1 fp1 a r h1 hm => ?_
  refine ⟨F1, e1, fp1, r, ?_⟩
  cases e : lb e1 with
  | ok b e2 =>
    rw [bind_ok e] at hm
    intro y H2 F2 fp2 P r2 h2 hd x2
    obtain rfl := h2.1
    exact hR x y H2 F2 e2 fp2 a b r2 (h1.ext x2.emp r.fo) h2 (hm.rebase x2.emp)
  | exc y e2 =>
    rw [bind_exc e] at hm
    exact fun c d H2 F2 fp2 r1 r2 r3 => hm c d H2 F2 fp2 r1 r2 r3
  | bad =>
    rw [bind_bad e] at hm
    exact hm

def rd1 {α : Type} (f : PyData → Option α) (a : Opn) : M α := fun env => match (a.read env).bind f with
  | some k => .ok k env
  | none => .bad
def rd2 {α : Type} (f : PyData → PyData → Option α) (a b : Opn) : M α := fun env => match (a.read env).bind fun x => (b.read env).bind fun y => f x y with
  | some k => .ok k env
  | none => .bad
structure CmpOk (K : PySem.W.Frag) (f : PyData → PyData → Option Bool) (r : R2) : Prop where
  ok : ∀ (F : Fs) (x y : V) (H : Hp) (Q : VK) (d d' : PyData) (k : Bool), FR K H F d x → FR K H F d' y → f d d' = some k → Q (.bl k) H → r x y H Q
def mCmp (f : PyData → PyData → Option Bool) (la lb : M Opn) : M Bool := do
  let a ← la
  let b ← lb
  rd2 f a b
def mB (m : M Bool) : M PyData := m >>= fun k => pure (.bool k)
theorem rd2_some {α : Type} {f : PyData → PyData → Option α} {a b : Opn} {env : Env} {r : Res α} (h : rd2 f a b env = r) (n : r ≠ .bad) : ∃ x y k, a.read env = some x ∧ b.read env = some y ∧ f x y = some k ∧ r = .ok k env := by
  unfold rd2 at h
  cases e : (a.read env).bind fun x => (b.read env).bind fun y => f x y with
  | none => rw [e] at h; exact absurd h.symm n
  | some k =>
    rw [e] at h
    obtain ⟨x, e1, e2⟩ := Option.bind_eq_some_iff.mp e
    obtain ⟨y, e3, e4⟩ := Option.bind_eq_some_iff.mp e2
    exact ⟨x, y, k, e1, e3, e4, h.symm⟩
theorem rd1_some {α : Type} {f : PyData → Option α} {a : Opn} {env : Env} {r : Res α} (h : rd1 f a env = r) (n : r ≠ .bad) : ∃ x k, a.read env = some x ∧ f x = some k ∧ r = .ok k env := by
  unfold rd1 at h
  cases e : (a.read env).bind f with
  | none => rw [e] at h; exact absurd h.symm n
  | some k =>
    rw [e] at h
    obtain ⟨x, e1, e2⟩ := Option.bind_eq_some_iff.mp e
    exact ⟨x, k, e1, e2, h.symm⟩
theorem post_nb {α β : Type} {Γ : Ctx} {rel : Rel α β} {σ : St} {H : Hp} {F : Fs} {fp : Nat → Fs} {Q : β → Hp → Prop} {r : Res α} (h : Post Γ W rel σ H F fp Q r) : r ≠ .bad := fun e => by
  subst e
  exact h
theorem CmpOk.useB {f : PyData → PyData → Option Bool} {r : R2} (h : CmpOk X.K f r) (σ : St) (H : Hp) (Q : Bool → Hp → Prop) (q : tB' ⟨X.K, cl⟩ W (mCmp f la lb) σ H Q) :
    tTest (tOp r (tL ⟨X.K, cl⟩ W la) (tL ⟨X.K, cl⟩ W lb)) σ H Q :=
  G_twoL (k := fun a b => rd2 f a b) q fun x y H' F' env' fp' a b r1 h1 h2 hm => by
    obtain ⟨d, d', k, e1, e2, e3, e4⟩ := rd2_some rfl (post_nb hm)
    rw [e4] at hm
    exact h.ok _ x y H' _ d d' k (h1.read r1 e1) (h2.read r1 e2) e3 ⟨k, rfl, hm k H' F' fp' noF r1 ⟨rfl, rfl⟩ (fun _ z => z.elim) (Ext.emp' (Ext.refl _ _ _))⟩
theorem tB_of {Γ : Ctx} {m : M Bool} {σ : St} {H : Hp} {Q : VK} (q : tE Γ W (mB m) σ H Q) : tB' Γ W m σ H fun k H1 => Q (.bl k) H1 :=
  G_bind (rel1 := relB) (fun _ _ _ _ _ h => h.2) q fun b H1 F1 e1 fp1 a r h hm => by
    obtain ⟨rfl, _⟩ := h
    exact fin_same hm r (.bl _)
theorem CmpOk.useV {f : PyData → PyData → Option Bool} {r : R2} (h : CmpOk X.K f r) (σ : St) (H : Hp) (Q : VK) (q : tE ⟨X.K, cl⟩ W (mB (mCmp f la lb)) σ H Q) :
    tOp r (tL ⟨X.K, cl⟩ W la) (tL ⟨X.K, cl⟩ W lb) σ H Q := by
  have q := tB_of q
  refine G_twoL (k := fun a b => rd2 f a b) q fun x y H' F' env' fp' a b r1 h1 h2 hm => ?_
  obtain ⟨d, d', k, e1, e2, e3, e4⟩ := rd2_some rfl (post_nb hm)
  rw [e4] at hm
  exact h.ok _ x y H' _ d d' k (h1.read r1 e1) (h2.read r1 e2) e3 (hm k H' F' fp' noF r1 ⟨rfl, rfl⟩ (fun _ z => z.elim) (Ext.emp' (Ext.refl _ _ _)))
structure Cmp (X : Cx) (op : CmpOp) (f : PyData → PyData → Option Bool) : Prop where
  run : ∃ r, OpR X (compareOp op) r ∧ CmpOk X.K f r
theorem dt_cmp {op : CmpOp} {f : PyData → PyData → Option Bool} (h : Cmp X op f) (h1 : DL X cl W a la) (h2 : DL X cl W b lb) (hm : behindInMarks op b = false := by first | exact nomark _ | rfl) : DT X cl W (.Compare a [op] [b] pos) (mCmp f la lb) := by
  obtain ⟨r, ho, hc⟩ := h.run
  exact PT.imp (pt_cmpR ho h1 h2 hm) hc.useB
theorem de_cmp {op : CmpOp} {f : PyData → PyData → Option Bool} (h : Cmp X op f) (h1 : DL X cl W a la) (h2 : DL X cl W b lb) (hm : behindInMarks op b = false := by first | exact nomark _ | rfl) : DE X cl W (.Compare a [op] [b] pos) (mB (mCmp f la lb)) := by
  obtain ⟨r, ho, hc⟩ := h.run
  exact PE.imp (pe_cmpR ho h1 h2 hm) hc.useV
end

theorem CmpOk.or {K : PySem.W.Frag} {f g : PyData → PyData → Option Bool} {r r' : R2} (h : CmpOk K f r) (h' : CmpOk K g r') : CmpOk K (fun a b => (f a b).orElse fun _ => g a b) (fun x y H Q => r x y H Q ∨ r' x y H Q) :=
  ⟨fun F x y H Q d d' k h1 h2 e q => by
    cases ef : f d d' with
    | some k' =>
      rw [ef] at e
      exact .inl (h.ok F x y H Q d d' k h1 h2 (ef.trans e) q)
    | none =>
      rw [ef] at e
      exact .inr (h'.ok F x y H Q d d' k h1 h2 e q)⟩
theorem Cmp.or {X : Cx} {op : CmpOp} {f g : PyData → PyData → Option Bool} (h : Cmp X op f) (h' : Cmp X op g) : Cmp X op (fun a b => (f a b).orElse fun _ => g a b) := by
  obtain ⟨r, h1, h2⟩ := h.run
  obtain ⟨r', h3, h4⟩ := h'.run
  exact ⟨_, OpR.or h1 h3, h2.or h4⟩
section
variable {K : PySem.W.Frag} {H : Hp} {F : Fs}
mutual
theorem FR.dp : ∀ {d : PyData} {v : V}, FR K H F d v → d.canLay0 = true → Dp K H v d
  | _, _, .non, _ => .non
  | _, _, .bl b, _ => .bl b
  | _, _, .int i, _ => .int i
  | _, _, .str x, _ => .str x
  | _, _, .tup f h r, e => .tup (SqT.of h) (FRs.dp r (by simpa [PyData.canLay0] using e))
  | _, _, .lst f h r, e => .lst (SqL.of h) (FRs.dp r (by simpa [PyData.canLay0] using e))
  | _, _, .dK f h r, e => by simp [PyData.canLay0] at e
  | _, _, .dT f h r, e => by simp [PyData.canLay0] at e
theorem FRs.dp : ∀ {ds : List PyData} {vs : List V}, FRs K H F ds vs → PyData.canLayAll0 ds = true → DpAll K H vs ds
  | _, _, .nil, _ => .nil
  | _, _, .cons h t, e => by
    rw [PyData.canLayAll0, Bool.and_eq_true] at e
    exact .cons (FR.dp h e.1) (FRs.dp t e.2)
end
mutual
def ndD : PyData → Bool
  | .dict _ => false
  | .list l => ndDs l
  | .tuple l => ndDs l
  | _ => true
def ndDs : List PyData → Bool
  | [] => true
  | d :: ds => ndD d && ndDs ds
end
mutual
theorem FR.dpN : ∀ {d : PyData} {v : V}, FR K H F d v → ndD d = true → Dp K H v d
  | _, _, .non, _ => .non
  | _, _, .bl b, _ => .bl b
  | _, _, .int i, _ => .int i
  | _, _, .str x, _ => .str x
  | _, _, .tup f h r, e => .tup (SqT.of h) (FRs.dpN r (by simpa [ndD] using e))
  | _, _, .lst f h r, e => .lst (SqL.of h) (FRs.dpN r (by simpa [ndD] using e))
  | _, _, .dK f h r, e => by simp [ndD] at e
  | _, _, .dT f h r, e => by simp [ndD] at e
theorem FRs.dpN : ∀ {ds : List PyData} {vs : List V}, FRs K H F ds vs → ndDs ds = true → DpAll K H vs ds
  | _, _, .nil, _ => .nil
  | _, _, .cons h t, e => by
    rw [ndDs, Bool.and_eq_true] at e
    exact .cons (FR.dpN h e.1) (FRs.dpN t e.2)
end
end
def eqS : PyData → PyData → Option Bool
  | .str x, .str y => some (decide (x = y))
  | _, _ => none
def eqSh (a b : PyData) : Option Bool := if SeqAt.shaped a && SeqAt.shaped b then some (PyData.eqv a b) else none
def eqD (a b : PyData) : Option Bool := (eqS a b).orElse fun _ => eqSh a b
def neD (a b : PyData) : Option Bool := (eqD a b).map not
section
variable {X : Cx}
theorem eqSh_ok {K : PySem.W.Frag} : CmpOk K eqSh (rEqD K) := ⟨fun F x y H Q d d' k h1 h2 e q => by
  unfold eqSh at e
  by_cases c : (SeqAt.shaped d && SeqAt.shaped d') = true
  · rw [if_pos c] at e
    rw [Bool.and_eq_true] at c
    cases e
    exact ⟨d, d', h1.dp (SeqAt.canLay_of_shaped c.1), h2.dp (SeqAt.canLay_of_shaped c.2), c.1, c.2, q⟩
  · rw [if_neg c] at e; cases e⟩
theorem neSh_ok {K : PySem.W.Frag} : CmpOk K (fun a b => (eqSh a b).map not) (rNeD K) := ⟨fun F x y H Q d d' k h1 h2 e q => by
  obtain ⟨k', e1, rfl⟩ := Option.map_eq_some_iff.mp e
  obtain ⟨d1, d2, a1, a2, a3, a4, a5⟩ := eqSh_ok.ok F x y H (fun z H' => ∃ k, z = .bl k ∧ Q (.bl (!k)) H') d d' k' h1 h2 e1 ⟨k', rfl, q⟩
  obtain ⟨k2, h5, h6⟩ := a5
  cases h5
  exact ⟨d1, d2, a1, a2, a3, a4, h6⟩⟩
theorem eqS_ok {K : PySem.W.Frag} : CmpOk K eqS rEq := ⟨fun F x y H Q d d' k h1 h2 e q => by
  cases h1 with
  | str a =>
    cases h2 with
    | str b =>
      replace e : some (decide (a = b)) = some k := e
      cases e
      refine ⟨rfl, ?_⟩
      have : decide (V.str a = V.str b) = decide (a = b) := by
        rw [decide_eq_decide]
        exact ⟨fun h => by cases h; rfl, fun h => by rw [h]⟩
      rw [this]
      exact q
    | _ => cases e
  | _ => cases e⟩
theorem neS_ok {K : PySem.W.Frag} : CmpOk K (fun a b => (eqS a b).map not) rNe := ⟨fun F x y H Q d d' k h1 h2 e q => by
  obtain ⟨k', e1, rfl⟩ := Option.map_eq_some_iff.mp e
  obtain ⟨a1, k2, h5, h6⟩ := eqS_ok.ok F x y H (fun z H' => ∃ k, z = .bl k ∧ Q (.bl (!k)) H') d d' k' h1 h2 e1 ⟨k', rfl, q⟩
  refine ⟨a1, ?_⟩
  cases h5
  exact h6⟩
theorem CmpOk.congr {K : PySem.W.Frag} {f g : PyData → PyData → Option Bool} {r : R2} (h : CmpOk K f r) (e : ∀ a b, g a b = f a b) : CmpOk K g r := ⟨fun F x y H Q d d' k h1 h2 q z => h.ok F x y H Q d d' k h1 h2 ((e d d').symm.trans q) z⟩
theorem Cmp.congr {op : CmpOp} {f g : PyData → PyData → Option Bool} (h : Cmp X op f) (e : ∀ a b, g a b = f a b) : Cmp X op g := (let ⟨r, a, b⟩ := h.run; ⟨r, a, b.congr e⟩)
theorem c_eq (hu : X.A.units + 64 < cLine) : Cmp X .Eq eqD := Cmp.or ⟨_, op_eq, eqS_ok⟩ ⟨_, op_eqD hu, eqSh_ok⟩
theorem c_ne (hu : X.A.units + 64 < cLine) : Cmp X .NotEq neD := (Cmp.or ⟨_, op_ne, neS_ok⟩ ⟨_, op_neD hu, neSh_ok⟩).congr fun a b => by
  unfold neD eqD
  cases eqS a b <;> rfl
def isNo : PyData → PyData → Option Bool
  | .none, .none => some true
  | _, .none => some false
  | _, _ => none
theorem isNo_ok {K : PySem.W.Frag} : CmpOk K isNo (fun x y H Q => y = .non ∧ Q (.bl (decide (x = .non))) H) := ⟨fun F x y H Q d d' k h1 h2 e q => by
  cases h2 with
  | non => cases h1 <;> (cases e; exact ⟨rfl, q⟩)
  | _ => cases h1 <;> cases e⟩
theorem notNo_ok {K : PySem.W.Frag} : CmpOk K (fun a b => (isNo a b).map not) (fun x y H Q => y = .non ∧ Q (.bl (!decide (x = .non))) H) := ⟨fun F x y H Q d d' k h1 h2 e q => by
  obtain ⟨k', e1, rfl⟩ := Option.map_eq_some_iff.mp e
  clear e
  cases h2 with
  | non => cases h1 <;> (cases e1; exact ⟨rfl, q⟩)
  | _ => cases h1 <;> cases e1⟩
theorem c_is : Cmp X .Is isNo := ⟨_, op_isN, isNo_ok⟩
def isNot (a b : PyData) : Option Bool := (isNo a b).map not
theorem c_isnot : Cmp X .IsNot isNot := ⟨_, op_notN, notNo_ok⟩
def ordC (a b : PyData) : Bool := PySem.W.alike a b && ndD a && ndD b && decide (a.depth ≤ 64) && !(match a with | .none => true | _ => false)
def ltD (a b : PyData) : Option Bool := if ordC a b then some (PySem.W.dataLt a b) else none
def gtD (a b : PyData) : Option Bool := if ordC a b then some (PySem.W.dataLt b a) else none
def geD (a b : PyData) : Option Bool := if ordC a b then some (!PySem.W.dataLt a b) else none
def rOrd (K : PySem.W.Frag) (g : PyData → PyData → Bool) : R2 := fun x y H Q => ∃ d d', Dp K H x d ∧ Dp K H y d' ∧ ordC d d' = true ∧ Q (.bl (g d d')) H
theorem rOrd_ok {K : PySem.W.Frag} {g : PyData → PyData → Bool} : CmpOk K (fun a b => if ordC a b then some (g a b) else none) (rOrd K g) := ⟨fun F x y H Q d d' k h1 h2 e q => by
  by_cases c : ordC d d' = true
  · rw [if_pos c] at e
    cases e
    have c' := c
    unfold ordC at c'
    simp only [Bool.and_eq_true] at c'
    exact ⟨d, d', h1.dpN c'.1.1.1.2, h2.dpN c'.1.1.2, c, q⟩
  · rw [if_neg c] at e; cases e⟩
theorem ord_run {op : CmpOp} {g : PyData → PyData → Bool} (hu : X.A.units + 64 < cLine) (hop : ∀ v u, compareOp op v u = richCompare op v u)
    (hrc : ∀ (da db : PyData) (A : Around) (s : Shared) (a b : Value) (as bs : List Addr), Reads s.heap a da as → Reads s.heap b db bs → PySem.W.alike da db = true → da ≠ .none → A.units + min da.depth db.depth < cLine → PySem.SeqAt.RcOp op A s a b (g da db)) : OpR X (compareOp op) (rOrd X.K g) := by
  intro pins s σ H x y v u Q I rx ry h
  obtain ⟨d, e, hd, he, hc, q⟩ := h
  obtain ⟨as, r1⟩ := Dp.reads I d x v hd rx
  obtain ⟨bs, r2⟩ := Dp.reads I e y u he ry
  unfold ordC at hc
  simp only [Bool.and_eq_true, decide_eq_true_eq] at hc
  rw [hop]
  refine hrc d e X.A s v u as bs r1 r2 hc.1.1.1.1 (fun z => ?_) (by have := hc.1.2; have : min d.depth e.depth ≤ d.depth := Nat.min_le_left _ _; omega) X.prog X.w X.xe _ ⟨.bl _, H, I, rfl, q⟩
  have := hc.2
  rw [z] at this
  exact Bool.noConfusion this
theorem c_lt (hu : X.A.units + 64 < cLine) : Cmp X .Lt ltD := ⟨_, ord_run hu (fun _ _ => rfl) (fun da db A s a b as bs h1 h2 h3 h4 h5 => PySem.W.rcLt_alike da db A s a b as bs h1 h2 h3 h4 h5), rOrd_ok⟩
theorem c_gt (hu : X.A.units + 64 < cLine) : Cmp X .Gt gtD := ⟨_, ord_run (g := fun a b => PySem.W.dataLt b a) hu (fun _ _ => rfl) (fun da db A s a b as bs h1 h2 h3 h4 h5 => PySem.W.rcGt_alike da db A s a b as bs h1 h2 h3 h4 h5), rOrd_ok⟩
theorem c_ge (hu : X.A.units + 64 < cLine) : Cmp X .GtE geD := ⟨_, ord_run (g := fun a b => !PySem.W.dataLt a b) hu (fun _ _ => rfl) (fun da db A s a b as bs h1 h2 h3 h4 h5 => PySem.W.rcGe_alike da db A s a b as bs h1 h2 h3 h4 h5), rOrd_ok⟩
end
end PD

namespace PD
open PySem PySem.Spec PyProof.Rows L2

section
variable {X : Cx} {cl : Nat → Addr} {W : WX} {a b c e : Expr} {m m' mc : M Bool} {ma mb : M PyData} {la : M Opn} {rest : List Expr} {pos : Pos}
def truD : PyData → Option Bool
  | .none => some false
  | .bool b => some b
  | .int i => some (i != 0)
  | .str y => if y.length ≤ sizeLine then some ((y.length : Int) != 0) else none
  | .list l => some (!l.isEmpty)
  | .tuple l => some (!l.isEmpty)
  | .dict _ => none
theorem FRs.emp {K : PySem.W.Frag} {H : Hp} {F : Fs} {ds : List PyData} {vs : List V} (h : FRs K H F ds vs) : ds.isEmpty = vs.isEmpty := by cases h <;> rfl
theorem truD_ok {K : PySem.W.Frag} {H : Hp} {F : Fs} {d : PyData} {v : V} {k : Bool} (h : FR K H F d v) (e : truD d = some k) : TruV K v H k := by
  cases h with
  | non => cases e; rfl
  | bl b => cases e; rfl
  | int i => cases e; rfl
  | str x =>
    replace e : (if x.length ≤ sizeLine then some ((x.length : Int) != 0) else none) = some k := e
    by_cases c : x.length ≤ sizeLine
    · rw [if_pos c] at e; cases e; exact ⟨c, rfl⟩
    · rw [if_neg c] at e; cases e
  | lst f h r => cases e; exact .inl ⟨_, SqL.of h, by rw [r.emp]⟩
  | tup f h r => cases e; exact .inr (.inl ⟨_, SqT.of h, by rw [r.emp]⟩)
  | dK f h r => cases e
  | dT f h r => cases e
def mTru (la : M Opn) : M Bool := la >>= rd1 truD
theorem dt_tru (h : DL X cl W a la) (he : ∀ whole, isTrue a X.env whole = (do let v ← whole; standAt a.pos; holding [v] (truthy v)) := by intro _; rfl) : DT X cl W a (mTru la) :=
  PT.imp (pt_truth h he) fun σ H Q q => G_oneL (k := rd1 truD) (R := Q) q fun v H' F' env' fp' a r h1 hm => by
    obtain ⟨x, k, e1, e2, e3⟩ := rd1_some rfl (post_nb hm)
    rw [e3] at hm
    exact ⟨k, truD_ok (h1.read r e1) e2, hm k H' F' fp' noF r ⟨rfl, rfl⟩ (fun _ z => z.elim) (Ext.emp' (Ext.refl _ _ _))⟩
def mOfB (ma : M PyData) : M Bool := ma >>= fun x => match x with
  | .bool k => pure k
  | _ => .bad
abbrev DW (X : Cx) (cl : Nat → Addr) (W : WX) (e : Expr) (m : M Bool) : Prop := PW X e (tB' ⟨X.K, cl⟩ W m)
theorem PW.imp {t t' : TT} (h : PW X e t) (i : ∀ σ H Q, t' σ H Q → t σ H Q) : PW X e t' := ⟨fun wh pins s σ H Q I q => h.run wh pins s σ H Q I (i σ H Q q)⟩
theorem dt_w (h : DW X cl W e m) : DT X cl W e m := h.pt
theorem dw_and1 (h : DT X cl W a m) : DW X cl W (.BoolOp .And [a] pos) m := pw_and1 h
theorem dw_or1 (h : DT X cl W a m) : DW X cl W (.BoolOp .Or [a] pos) m := pw_or1 h
def mAnd (m m' : M Bool) : M Bool := m >>= fun k => if k = true then m' else pure false
def mOr (m m' : M Bool) : M Bool := m >>= fun k => if k = true then pure true else m'
def mNot (m : M Bool) : M Bool := m >>= fun k => pure (!k)
theorem G_bB {α β : Type} {Γ : Ctx} {rel : Rel α β} {k : Bool → M α} {σ : St} {H : Hp} {Q : β → Hp → Prop} {R : Bool → Hp → Prop} (q : G Γ W rel (m >>= k) σ H Q)
    (hR : ∀ b H' F' env' fp', REnv Γ H' F' env' σ fp' → Post Γ W rel σ H' F' fp' Q (k b env') → R b H') : tB' Γ W m σ H R :=
  G_bind (rel1 := relB) (fun _ _ _ _ _ h => h.2) q fun b H1 F1 e1 fp1 a r h hm => by
    obtain ⟨rfl, _⟩ := h
    exact hR a H1 F1 e1 fp1 r hm
theorem fin_b {Γ : Ctx} {σ : St} {H : Hp} {F : Fs} {env : Env} {fp : Nat → Fs} {Q : Bool → Hp → Prop} {b : Bool} (hm : Post Γ W relB σ H F fp Q (.ok b env)) (r : REnv Γ H F env σ fp) : Q b H :=
  hm b H F fp noF r ⟨rfl, rfl⟩ (fun _ z => z.elim) (Ext.emp' (Ext.refl _ _ _))
theorem dw_and (h : DT X cl W a m) (h2 : DW X cl W (.BoolOp .And (b :: rest) pos) m') : DW X cl W (.BoolOp .And (a :: b :: rest) pos) (mAnd m m') :=
  PW.imp (pw_and h h2) fun σ H Q q => G_bB (R := fun c H1 => if c = true then tB' ⟨X.K, cl⟩ W m' σ H1 Q else Q false H1) (k := fun k => if k = true then m' else pure false) q fun k H' F' env' fp' r hm => by
    cases k with
    | true => exact iteT ⟨F', env', fp', r, hm⟩
    | false => exact iteF (fin_b hm r)
theorem dw_or (h : DT X cl W a m) (h2 : DW X cl W (.BoolOp .Or (b :: rest) pos) m') : DW X cl W (.BoolOp .Or (a :: b :: rest) pos) (mOr m m') :=
  PW.imp (pw_or h h2) fun σ H Q q => G_bB (R := fun c H1 => if c = true then Q true H1 else tB' ⟨X.K, cl⟩ W m' σ H1 Q) (k := fun k => if k = true then pure true else m') q fun k H' F' env' fp' r hm => by
    cases k with
    | true => exact iteT (fin_b hm r)
    | false => exact iteF ⟨F', env', fp', r, hm⟩
theorem dt_not (h : DT X cl W a m) : DT X cl W (.UnaryOp .Not a pos) (mNot m) :=
  PT.imp (pt_not h) fun σ H Q q => G_bB (k := fun k => pure (!k)) q fun k H' F' env' fp' r hm => fin_b hm r
def mAndV (ma mb : M PyData) : M PyData := ma >>= fun x => match x with
  | .bool true => mb
  | .bool false => pure (.bool false)
  | _ => .bad
theorem G_bE {α β : Type} {Γ : Ctx} {rel : Rel α β} {k : PyData → M α} {σ : St} {H : Hp} {Q : β → Hp → Prop} {R : V → Hp → Prop} (q : G Γ W rel (ma >>= k) σ H Q)
    (hR : ∀ v H' F' env' fp' d, REnv Γ H' F' env' σ fp' → FR Γ.K H' F' d v → Post Γ W rel σ H' F' fp' Q (k d env') → R v H') : tE Γ W ma σ H R :=
  G_bind (rel1 := relE Γ) (fun _ _ _ _ _ h => h.2) q fun b H1 F1 e1 fp1 a r h hm => hR b H1 F1 e1 fp1 a r h.1 hm
theorem de_one {op : BoolOp} (h : DE X cl W a ma) : DE X cl W (.BoolOp op [a] pos) ma := pe_one h
theorem de_and (h : DE X cl W a ma) (h2 : DE X cl W (.BoolOp .And (b :: rest) pos) mb) : DE X cl W (.BoolOp .And (a :: b :: rest) pos) (mAndV ma mb) :=
  PE.imp (pe_and h h2) fun σ H Q q => G_bE (k := fun x => match x with
  | .bool true => mb
  | .bool false => pure (.bool false)
  | _ => .bad) q fun v H' F' env' fp' d r hd hm => by
    cases hd with
    | bl k =>
      refine ⟨k, rfl, ?_⟩
      cases k with
      | true => exact iteT ⟨F', env', fp', r, hm⟩
      | false => exact iteF (fin_same hm r (.bl _))
    | _ => exact hm.elim
def mIf (c : M Bool) (ma mb : M PyData) : M PyData := c >>= fun k => if k = true then ma else mb
theorem de_if (hc : DT X cl W c mc) (h1 : DE X cl W a ma) (h2 : DE X cl W b mb) : DE X cl W (.IfExp c a b pos) (mIf mc ma mb) :=
  PE.imp (pe_ifExp hc h1 h2) fun σ H Q q => G_bB (k := fun k => if k = true then ma else mb) q fun k H' F' env' fp' r hm => by
    cases k with
    | true => exact iteT ⟨F', env', fp', r, hm⟩
    | false => exact iteF ⟨F', env', fp', r, hm⟩
end

section
variable {X : Cx} {cl : Nat → Addr} {W : WX} {a b c e : Expr} {ma mb : M PyData} {pos : Pos}
theorem FRs.atI {K : PySem.W.Frag} {H : Hp} {F : Fs} {ds : List PyData} {vs : List V} (h : FRs K H F ds vs) {i : Int} {d : PyData} (e : L2.atI ds i = some d) : ∃ v, L2.atI vs i = some v ∧ FR K H F d v := by
  unfold L2.atI at e ⊢
  obtain ⟨j, e1, e2⟩ := Option.bind_eq_some_iff.mp e
  obtain ⟨v, h1, h2⟩ := h.get j d e2
  rw [h.length] at e1
  exact ⟨v, by rw [e1]; exact h1, h2⟩
def ixD : PyData → PyData → Option PyData
  | .list l, .int i => L2.atI l i
  | .tuple l, .int i => L2.atI l i
  | .str z, .int i => if z.length ≤ sizeLine then (L2.atI z.cps.toList i).map fun c => .str ⟨#[c]⟩ else none
  | _, _ => none
theorem ixD_rel {K : PySem.W.Frag} {x y : V} {H : Hp} {F : Fs} {d d' c : PyData} (h1 : FR K H F d x) (h2 : FR K H F d' y) (e : ixD d d' = some c) : ∃ v, FR K H F c v ∧ ∀ Q : VK, Q v H → rIx K x y H Q := by
  cases h2 with
  | int i =>
    cases h1 with
    | lst f h r =>
      obtain ⟨v, a, b⟩ := r.atI (show L2.atI _ i = some c from e)
      exact ⟨v, b, fun Q q => .inl ⟨_, _, i, v, rfl, rfl, SqL.of h, a, q⟩⟩
    | tup f h r =>
      obtain ⟨v, a, b⟩ := r.atI (show L2.atI _ i = some c from e)
      exact ⟨v, b, fun Q q => .inr (.inl ⟨_, _, i, v, rfl, rfl, SqT.of h, a, q⟩)⟩
    | str z =>
      replace e : (if z.length ≤ sizeLine then (L2.atI z.cps.toList i).map fun c => PyData.str ⟨#[c]⟩ else none) = some c := e
      by_cases hc : z.length ≤ sizeLine
      · rw [if_pos hc] at e
        obtain ⟨k, e1, e2⟩ := Option.map_eq_some_iff.mp e
        subst e2
        exact ⟨_, .str _, fun Q q => .inr (.inr ⟨z, i, k, rfl, rfl, hc, e1, q⟩)⟩
      · rw [if_neg hc] at e; cases e
    | _ => cases e
  | _ => cases h1 <;> cases e
theorem ixD_ok {Γ : Ctx} : BinOk Γ ixD (rIx Γ.K) := ⟨fun W σ x y H Q F env fp d d' c r1 h1 h2 e hm => by
  obtain ⟨v, h, q⟩ := ixD_rel h1 h2 e
  exact q Q (fin_same hm r1 h)⟩
theorem de_ix (h1 : DE X cl W a ma) (h2 : DE X cl W b mb) (hs : PlainIx b := by intro _ _; rfl) : DE X cl W (.Subscript a b pos) (mBin ixD ma mb) :=
  PE.imp (pe_ix ix_seq h1 h2 hs) ixD_ok.use
def atT (t : T) (k : PyData) : Option PyData := match t with
  | .v d => ixD d k
  | .lst ts => match k with
    | .int j => (L2.atI ts j).bind fun u => match u with
      | .v d => some d
      | _ => none
    | _ => none
  | _ => none
def mThere (i : Nat) : M Unit := fun env => match env i with
  | some _ => .ok () env
  | none => .bad
def ixEnd (i : Nat) (k : PyData) : M PyData := fun env => match (env i).bind fun t => atT t k with
  | some d => .ok d env
  | none => .bad
def mIxP (i : Nat) (mb : M PyData) : M PyData := do
  let _ ← mThere i
  let k ← mb
  ixEnd i k
theorem there_ok {i : Nat} {env : Env} {t : T} (e : env i = some t) : mThere i env = .ok () env := by unfold mThere; simp only [e]
theorem there_bad {i : Nat} {env : Env} (e : env i = none) : mThere i env = .bad := by unfold mThere; simp only [e]
theorem RTs.get {Γ : Ctx} {H : Hp} {F : Fs} : ∀ {ts : List T} {vs : List V} {P : Fs}, RTs Γ H F ts vs P → ∀ (i : Nat) (t : T), ts[i]? = some t → ∃ v P', vs[i]? = some v ∧ RT Γ H F t v P' ∧ ∀ a, P' a → P a
  | _, _, _, .nil, i, d, h => by simp at h
  | _, _, _, .cons h t _, 0, d, e => by simp at e; subst e; exact ⟨_, _, rfl, h, fun _ q => .inl q⟩
  | _, _, _, .cons h t _, i + 1, d, e => by
    obtain ⟨v, P', a, b, c⟩ := RTs.get t i d (by simpa using e)
    exact ⟨v, P', by simpa using a, b, fun x q => .inr (c x q)⟩
theorem atT_rel {Γ : Ctx} {x y : V} {H : Hp} {F P : Fs} {t : T} {k c : PyData} (h1 : RT Γ H F t x P) (h2 : FR Γ.K H F k y) (e : atT t k = some c) : ∃ v, FR Γ.K H F c v ∧ ∀ Q : VK, Q v H → rIx Γ.K x y H Q := by
  cases h1 with
  | v h => exact ixD_rel h h2 e
  | lst h r n =>
    cases h2 with
    | int j =>
      obtain ⟨u, e1, e2⟩ := Option.bind_eq_some_iff.mp (show (L2.atI _ j).bind _ = some c from e)
      cases u with
      | v d =>
        cases e2
        unfold L2.atI at e1
        obtain ⟨jj, e3, e4⟩ := Option.bind_eq_some_iff.mp e1
        obtain ⟨v, P', g1, g2, _⟩ := r.get jj _ e4
        rw [r.length] at e3
        exact ⟨v, g2.inv_v.1, fun Q q => .inl ⟨_, _, j, v, rfl, rfl, SqL.of h, by unfold L2.atI; rw [e3]; exact g1, q⟩⟩
      | _ => cases e2
    | _ => cases e
  | _ => cases e
theorem de_ixP (i : Nat) {x : Str} {p pos : Pos} (h2 : DE X cl W b mb) (hN : X.N[i]? = some x := by rfl) (hv : Vis X.env.scope x := by first | exact Or.inl rfl | exact Or.inr (Or.inl rfl) | exact Or.inr (Or.inr rfl)) (hd : (x == ("__debug__" : Str)) = false := by decide)
    (hcd : (x == ("__classdict__" : Str)) = false := by decide) (hs : PlainIx b := by intro _ _; rfl) : DE X cl W (.Subscript (.Name x p) b pos) (mIxP i mb) := by
  refine PE.imp (pe_ix ix_seq (pe_var hN hv hd hcd) h2 hs) fun σ H Q q => ?_
  obtain ⟨F, env, fp, r, hm⟩ := q
  cases e : env i with
  | none =>
    unfold mIxP at hm
    rw [bind_bad (there_bad e)] at hm
    exact hm.elim
  | some t =>
    unfold mIxP at hm
    rw [bind_ok (there_ok e)] at hm
    obtain ⟨v, hv, ht⟩ := r.rep i t e
    refine ⟨v, hv, G_bE (k := ixEnd i) ⟨F, env, fp, r, hm⟩ fun y H' F' env' fp' k r' hk hm' => ?_⟩
    unfold ixEnd at hm'
    cases e2 : (env' i).bind fun t => atT t k with
    | none => rw [e2] at hm'; exact hm'.elim
    | some d =>
      rw [e2] at hm'
      obtain ⟨t', e3, e4⟩ := Option.bind_eq_some_iff.mp e2
      obtain ⟨v', hv', ht'⟩ := r'.rep i t' e3
      rw [hv] at hv'
      cases hv'
      obtain ⟨u, hu, q⟩ := atT_rel ht' hk e4
      exact q Q (fin_same hm' r' hu)
end
end PD

namespace PD
open PySem PySem.Calls PyProof.Rows PySem.W PySem.SeqAt
section
variable {prog : Program} {w : World} {A : Around} {E : Value → Shared → Prop} {s : Shared}
theorem call_tuple_lt {Q : Value → Shared → Prop} {l b : Addr} {items items2 : Array Value} {e r : Nat → Bool} (hl : s.heap.IsTuple l items) (hb : s.heap.IsTuple b items2)
    (he : ∀ j (h1 : j < items.size) (h2 : j < items2.size), EqAt A.in1 s items[j] items2[j] (e j)) (hr : ∀ j (h1 : j < items.size) (h2 : j < items2.size), e j = false → RcLt A.in1 s items[j] items2[j] (r j))
    (h : Q (.bool (firstLt e r (decide (items.size < items2.size)) (List.range (min items.size items2.size)))) s) : wpAny (model prog w) A (call (.builtin "tuple.__lt__") [.ref l, .ref b]) Q E s := by
  obtain ⟨⟨cls, dd, data, sl⟩, ho, hc, n, hd⟩ := id hl
  obtain ⟨⟨cls2, dd2, data2, sl2⟩, ho2, hc2, n2, hd2⟩ := id hb
  simp only at hc hd hc2 hd2
  subst hc hd hc2 hd2
  exact call_meets F.slot_tuple_lt ⟨_, ho, rfl⟩ F.entry_tuple_lt (F.args_tuple_lt_2 _ _) (tuple_ltAt l b items items2 n n2 dd dd2 sl sl2 e r) ⟨ho, ho2, he, hr, h⟩
theorem oneLt_tuple {xs ys : List PyData} {a b : Value} {as bs : List Addr} {Q : Bool → Shared → Prop} (ra : Reads s.heap a (.tuple xs) as) (rb : Reads s.heap b (.tuple ys) bs) (h : alike (.tuple xs) (.tuple ys) = true)
    (hu : A.units + min (PyData.tuple xs).depth (PyData.tuple ys).depth < cLine) (hq : Q (dataLt (.tuple xs) (.tuple ys)) s) : wpAny (model prog w) A (oneLt' true a b) Q E s := by
  have hal : alikeAll xs ys = true := by simpa [alike] using h
  cases ra with
  | @tuple l o vs n _ as₁ h1 h2 h3 h4 =>
    cases rb with
    | @tuple l' o' vs' n' _ bs₁ k1 k2 k3 k4 =>
      have n1 : vs.size = xs.length := by simpa using ReadsAll.length _ _ _ h4
      have n2 : vs'.size = ys.length := by simpa using ReadsAll.length _ _ _ k4
      rw [dataLt_tuple, ← firstLt_toks xs ys hal, ← n1, ← n2] at hq
      rw [oneLt'_eq]
      simp only [if_true]
      refine wpAny_bind (wpAny_cRoomFor (room_here hu) ?_)
      refine wpAny_bind (wpAny_callSpecialIfBound?_slot (T := "tuple") ⟨_, h1, h2⟩ F.slot_tuple_lt (call_tuple_lt (e := pairEq xs ys) (r := fun j => dataLt (xs.getD j .none) (ys.getD j .none)) ⟨_, h1, h2, _, h3⟩ ⟨_, k1, k2, _, k3⟩ (fun j j1 j2 => ?_) (fun j j1 j2 hj => ?_) ?_))
      · have := eqAt_alikeAll xs ys A.in1 s vs.toList vs'.toList _ _ h4 k4 hal (room_in hu) j (by simpa using j1) (by simpa using j2)
        simpa using this
      · have := rcLt_alikeAll xs ys A.in1 s vs.toList vs'.toList _ _ h4 k4 hal (room_in hu) j (by simpa using j1) (by simpa using j2) hj
        simpa using this
      · exact wpAny_truthy_bool hq
theorem mapM_all {M : Model} {α β : Type} {f : α → Sem β} : ∀ (l : List α) {Q : List β → Shared → Prop}, (∀ v ∈ l, ∃ r, ∀ (Q' : β → Shared → Prop), Q' r s → wpAny M A (f v) Q' E s) → (∀ rs, EachIs (fun v r => ∀ (Q' : β → Shared → Prop), Q' r s → wpAny M A (f v) Q' E s) l rs → Q rs s) → wpAny M A (l.mapM f) Q E s
  | [], _, _, h => by rw [List.mapM_nil]; exact wpAny_pure (h [] .nil)
  | x :: l, Q, hf, h => by
    rw [List.mapM_cons]
    obtain ⟨r, hr⟩ := hf x List.mem_cons_self
    exact wpAny_bind (hr _ (wpAny_bind (mapM_all l (Q := fun bs s' => wpAny M A (pure (r :: bs)) Q E s') (fun v hv => hf v (.tail _ hv)) fun rs hrs => wpAny_pure (h (r :: rs) (.cons hr hrs)))))
theorem mapM_head {M : Model} {α β : Type} {f : α → Sem β} {x : α} {l : List α} {r : β} {Q : List β → Shared → Prop} (h0 : ∀ (Q' : β → Shared → Prop), Q' r s → wpAny M A (f x) Q' E s) (hf : ∀ v ∈ l, ∃ r, ∀ (Q' : β → Shared → Prop), Q' r s → wpAny M A (f v) Q' E s) (h : ∀ rs, Q (r :: rs) s) : wpAny M A ((x :: l).mapM f) Q E s := by
  rw [List.mapM_cons]
  exact wpAny_bind (h0 _ (wpAny_bind (mapM_all l (Q := fun bs s' => wpAny M A (pure (r :: bs)) Q E s') hf fun rs _ => wpAny_pure (h rs))))
theorem first_tup {M : Model} {a : Addr} {o : Obj} {xs : Array Value} {n : Nat} {Q : Option Value → Shared → Prop} (ho : s.heap.get? a = some o) (hc : o.cls = .type "tuple") (hd : o.data = .seq xs n) (h : Q xs[0]? s) : wpAny M A (firstOfTuple' (.ref a)) Q E s := by
  rw [kas_first_eq]
  refine wpAny_bind (Looks.here (show Looks M s.heap (typeOf (.ref a)) o.cls from (Looks.ld ho).andThen .now) ?_)
  rw [hc, if_neg (by first | decide | simp)]
  exact wpAny_bind (listItems_at ho hd (wpAny_pure h))
theorem kind_tup0 {M : Model} {v₁ : Value} {rest : List Value} {as : List Addr} {Q : SortKind → Shared → Prop} (r1 : Reads s.heap v₁ (.tuple []) as) (hr : ∀ v, v ∈ rest → ∃ xs as, Reads s.heap v (.tuple xs) as) (h : Q oneType' s) : wpAny M A (keyKind' (v₁ :: rest).toArray) Q E s := by
  have hT : ∀ v, v ∈ v₁ :: rest → Looks M s.heap (typeOf v) (.type "tuple") := fun v hv => by
    rcases List.mem_cons.mp hv with z | z
    · rw [z]; exact looks_reads r1
    · obtain ⟨xs, as, r⟩ := hr v z
      exact looks_reads r
  rw [kat_kind_eq, List.mapM_toArray, map_eq_pure_bind]
  refine wpAny_bind (wpAny_bind (mapM_head (r := none) (fun Q' hq => ?_) (fun v hv => ?_) fun rs => wpAny_pure ?_))
  · cases r1 with
    | @tuple a o xs n _ _ h1 h2 h3 h4 =>
      refine first_tup h1 h2 h3 ?_
      have : xs.toList = [] := by
        cases q : xs.toList with
        | nil => rfl
        | cons _ _ => rw [q] at h4; cases h4
      have e : xs[0]? = none := by rw [← Array.getElem?_toList, this]; rfl
      rw [e]
      exact hq
  · obtain ⟨ys, as, r⟩ := hr v hv
    cases r with
    | @tuple a o xs n _ _ h1 h2 h3 h4 => exact ⟨xs[0]?, fun Q' hq => first_tup h1 h2 h3 hq⟩
  · rw [if_neg (by simp), if_neg (by simp)]
    rw [oneTypeOnly'_eq, List.mapM_toArray, map_eq_pure_bind]
    refine wpAny_bind (wpAny_bind (wpAny_bind (kas_mapM (r := Value.type "tuple") _ (fun v hv Q' hq => (hT v hv).here hq) (wpAny_pure ?_))))
    have hall : ((List.map (fun _ => Value.type "tuple") (v₁ :: rest)).toArray.all fun x => x == Value.type "tuple") = true := by
      simp only [List.all_toArray, List.all_map, List.all_eq_true]
      intro _ _
      exact beq_self_eq_true _
    have h0 : (List.map (fun _ => Value.type "tuple") (v₁ :: rest)).toArray[0]? = some (Value.type "tuple") := by simp
    rw [h0]
    simp only [hall, if_true]
    exact wpAny_pure (wpAny_pure h)
theorem sortsAt_tup0 {vs : List Value} {ds : List PyData} (e : EachIs (fun v d => ∃ as, Reads s.heap v d as) vs ds) (hal : AllAlike ds) (ht : ∀ d, d ∈ ds → ∃ xs, d = .tuple xs) (h0 : ∃ r, ds = .tuple [] :: r) (hu : ∀ d, d ∈ ds → A.units + d.depth < cLine) : SortsAt prog w A s (dataKind s.heap ds) vs := by
  have room : ∀ {d d' : PyData}, d ∈ ds → A.units + min d.depth d'.depth < cLine := fun {d d'} hd => Nat.lt_of_le_of_lt (Nat.add_le_add_left (Nat.min_le_left _ _) _) (hu d hd)
  refine ⟨fun v hv => ?_, oneType', ?_, fun h2 E Q hq => ?_⟩
  · obtain ⟨d, hd, as, r⟩ := e.left v hv
    exact ⟨_, dataKind_some hal hd r⟩
  · intro E x y a b Q ha hb hq
    obtain ⟨d, as, hd, ra, rfl⟩ := dataKind_inv ha
    obtain ⟨d', as', hd', rb, rfl⟩ := dataKind_inv hb
    rw [keyLt'_oneType]
    obtain ⟨xs, rfl⟩ := ht d hd
    obtain ⟨ys, rfl⟩ := ht d' hd'
    exact oneLt_tuple ra rb (hal _ hd _ hd') (room hd) hq
  · obtain ⟨r, rfl⟩ := h0
    cases e with
    | @cons v d vs ds hv t =>
      obtain ⟨as, r1⟩ := hv
      refine kind_tup0 r1 (fun v hv => ?_) hq
      obtain ⟨d, hd, as, q⟩ := t.left v hv
      obtain ⟨xs, rfl⟩ := ht d (List.mem_cons_of_mem _ hd)
      exact ⟨xs, as, q⟩
theorem sorted_tup0 {β : Type} {vs : List Value} {bs : List β} {enc : β → PyData} {R : Value → β → Prop} {l : Addr} {Q : Value → Shared → Prop} (hl : s.heap.IsList l vs.toArray) (e : EachIs R vs bs) (er : EachIs (fun v b => ∃ as, Reads s.heap v (enc b) as) vs bs) (hal : AllAlike (bs.map enc))
    (ht : ∀ d, d ∈ bs.map enc → ∃ xs, d = .tuple xs) (h0 : ∃ r, bs.map enc = .tuple [] :: r) (hL : bs.length ≤ sizeLine)
    (hu : ∀ b, b ∈ bs → A.units + 2 + (enc b).depth < cLine) (h : ∀ out, out.length = bs.length → EachIs R out (bs.mergeSort (dataLe false enc)) → Q (.ref (s.heap.objs.size + 1)) { s with heap := sortedAll s.heap vs (List.toArray out) }) :
    wpAny (model prog w) A (call (.builtin "sorted") [.ref l]) Q E s := by
  have er' : EachIs (fun v b => ∃ as, Reads (sortingHeap (copyHeap s.heap vs) (s.heap.objs.size + 1) vs) v (enc b) as) vs bs := er.mono fun _ _ ⟨as, r⟩ => ⟨as, PyProof.Rows.Reads.keeps (fun _ _ => sorting_copy_old) r⟩
  exact sorted_vals hl (sortsAt_tup0 (s := { s with heap := sortingHeap (copyHeap s.heap vs) (s.heap.objs.size + 1) vs }) (each_map (R := fun v d => ∃ as, Reads (sortingHeap (copyHeap s.heap vs) (s.heap.objs.size + 1) vs) v d as) enc er') hal ht h0 (bound_map hu)) (by rw [e.length]; exact hL)
    (h _ (by rw [sortVals_length false rfl]; exact e.length) (sortVals_data false e er' hal))
end
end PD

namespace PD
open PySem PySem.Spec PyProof.Rows L2

section
variable {prog : Program} {w : World} {A : Around} {E : Value → Shared → Prop} {s : Shared} {β : Type} {vs : List Value} {bs : List β} {enc : β → PyData} {R : Value → β → Prop}
theorem collect_tup {l : Addr} {o : Obj} {n : Nat} {Q : List Value → Shared → Prop} (ho : s.heap.get? l = some o) (hc : o.cls = .type "tuple") (hd : o.data = .seq vs.toArray n)
    (h : Q vs { s with heap := (s.heap.push { cls := .type "list", data := .seq ([] : List Value).toArray }).update s.heap.objs.size (Obj.mapSeq (· ++ vs.toArray)) }) (hsz : vs.length ≤ sizeLine) :
    wpAny (model prog w) A (collect (.ref l)) Q E s := by
  unfold collect
  refine wpAny_bind (wpAny_runValue (codeAny_builtin F.entry_proto_collect ?_))
  rw [Around.under_plainId F.plain_proto_collect _]
  show wpAny _ A.in1 (newList [] >>= fun l0 => again (.builtin "list.__iadd__" ⟨[l0, .ref l], []⟩)) _ _ s
  refine wpAny_bind (wpAny_newObj_type ?_)
  refine wpAny_pure ⟨plainId_quiet F.plain_list_iadd _, codeAny_builtin F.entry_list_iadd ?_⟩
  rw [Around.under_plainId F.plain_list_iadd _]
  show wpAny _ A.in1 (Builtin.List.listExtendWith (.ref s.heap.objs.size) (.ref l) (.ref s.heap.objs.size)) _ _ _
  have hS : (s.heap.push { cls := .type "list", data := .seq ([] : List Value).toArray }).get? s.heap.objs.size = some { cls := .type "list", data := .seq #[] 0 } := Heap.get?_push_size _ rfl
  have hS2 := Heap.get?_update_self (Obj.mapSeq (· ++ vs.toArray)) hS rfl
  generalize hT : ({ s with heap := (s.heap.push { cls := .type "list", data := .seq ([] : List Value).toArray }).update s.heap.objs.size (Obj.mapSeq (· ++ vs.toArray)) } : Shared) = T at h
  have last : wpAny (model prog w) A (match Value.ref s.heap.objs.size with
      | Value.ref a => do
        match (← load a).data with
          | Data.seq xs _ => pure xs.toList
          | _ => unsupported "internal:collect"
      | _ => unsupported "internal:collect") Q E T := by
    show wpAny _ A (load s.heap.objs.size >>= _) _ _ _
    refine wpAny_bind (wpAny_load (by rw [← hT]; exact hS2) (wpAny_pure ?_))
    have e : ((#[] : Array Value) ++ vs.toArray).toList = vs := by simp
    show Q ((#[] : Array Value) ++ vs.toArray).toList _
    rw [e]
    exact h
  refine wpAny_mono (wpAny_extend_seq (hsz := by simpa using hsz) (A := A) (R := fun r s' => r = .ok (.ret (.ref s.heap.objs.size)) ∧ s' = T)
    (s := { s with heap := s.heap.push { cls := .type "list", data := .seq ([] : List Value).toArray } }) _ l _ 0 (.inr rfl) hS (Heap.get?_push_of_some _ ho) hc hd ⟨rfl, hT⟩) (fun fin s' h => ?_) fun e s' h => absurd h.1 (by simp)
  cases fin with
  | done f =>
    obtain ⟨e, rfl⟩ := h
    cases e
    exact last
  | again c' => exact ⟨h.1, codeAny_mono h.2 fun r s'' hr => by obtain ⟨rfl, rfl⟩ := hr; exact last⟩
theorem sorted_tup {l : Addr} {o : Obj} {n : Nat} {Q : Value → Shared → Prop} (ho : s.heap.get? l = some o) (hc : o.cls = .type "tuple") (hd : o.data = .seq vs.toArray n) (e : PySem.W.EachIs R vs bs) (er : PySem.W.EachIs (fun v b => ∃ as, Reads s.heap v (enc b) as) vs bs)
    (hal : PySem.W.AllAlike (bs.map enc)) (hk : PySem.W.Sortable (bs.map enc)) (hL : bs.length ≤ sizeLine) (hu : ∀ b, b ∈ bs → A.units + 2 + (enc b).depth < cLine)
    (h : ∀ out D h' c, out.length = bs.length → PySem.W.EachIs R out (bs.mergeSort (PySem.W.dataLe false enc)) → s.heap.objs.size ≤ D → (∀ b o, s.heap.get? b = some o → h'.get? b = some o) → h'.get? D = some (seqObj "list" (List.toArray out) c) → Q (.ref D) { s with heap := h' }) :
    wpAny (model prog w) A (call (.builtin "sorted") [.ref l]) Q E s := by
  have hlen : vs.length ≤ sizeLine := by rw [e.length]; exact hL
  refine PyProof.Rows.call_function_entry_kw kind_sorted plain_sorted PyProof.Rows.entry_sorted (args_sorted1 _) ?_
  unfold Builtin.«sorted»
  refine wpAny_bind (m := checkCount "sorted" 1 1 _) (wpAny_pure ?_)
  refine wpAny_bind (collect_tup ho hc hd ?_ hlen)
  have hsz : s.heap.objs.size ≤ ((s.heap.push { cls := .type "list", data := .seq ([] : List Value).toArray }).update s.heap.objs.size (Obj.mapSeq (· ++ vs.toArray))).objs.size := by
    rw [Heap.size_update, Heap.size_push]
    exact Nat.le_succ _
  have k1 : ∀ b o', s.heap.get? b = some o' → ((s.heap.push { cls := .type "list", data := .seq ([] : List Value).toArray }).update s.heap.objs.size (Obj.mapSeq (· ++ vs.toArray))).get? b = some o' := fun b o' hb =>
    (Heap.get?_update_other _ _ (Nat.ne_of_gt (Heap.lt_size hb))).trans (Heap.get?_push_of_some _ hb)
  generalize (s.heap.push { cls := .type "list", data := .seq ([] : List Value).toArray }).update s.heap.objs.size (Obj.mapSeq (· ++ vs.toArray)) = h1 at hsz k1 ⊢
  refine wpAny_bind (wpAny_newList ?_ (by simpa using hlen))
  have at2 : (h1.push (seqObj "list" vs.toArray 0)).get? h1.objs.size = some (seqObj "list" vs.toArray 0) := Heap.get?_push_size _ rfl
  have k2 : ∀ b o, s.heap.get? b = some o → (h1.push (seqObj "list" vs.toArray 0)).get? b = some o := fun b o q => Heap.get?_push_of_some _ (k1 b o q)
  have ne : ∀ b o, s.heap.get? b = some o → b ≠ h1.objs.size := fun b o q => Nat.ne_of_lt (Heap.lt_size (k1 b o q))
  have er' : PySem.W.EachIs (fun v b => ∃ as, Reads (PySem.W.sortingHeap (h1.push (seqObj "list" vs.toArray 0)) h1.objs.size vs) v (enc b) as) vs bs :=
    er.mono fun _ _ ⟨as, r⟩ => ⟨as, PyProof.Rows.Reads.keeps (fun b o q => PySem.W.sortingHeap_old (ne b o q) (k2 b o q)) r⟩
  refine wpAny_bind (wpAny_holding (wpAny_call_entry_kw PyProof.Rows.slot_list_sort ⟨_, at2, rfl⟩ PyProof.Rows.entry_list_sort ?body (args_list_sort _)))
  refine wpAny_mono (PySem.W.list_sort_vals (s := { s with heap := h1.push (seqObj "list" vs.toArray 0) }) (P := fun f s' => f = .done (.ret .none) ∧ Q (.ref h1.objs.size) s') at2 (PySem.W.SortsAt.data (s := { s with heap := PySem.W.sortingHeap (h1.push (seqObj "list" vs.toArray 0)) h1.objs.size vs }) (PySem.W.each_map (R := fun v d => ∃ as, Reads (PySem.W.sortingHeap (h1.push (seqObj "list" vs.toArray 0)) h1.objs.size vs) v d as) enc er') hal hk (PySem.W.bound_map hu)) hlen ⟨rfl, ?_⟩) (fun f s' hf => ?_) fun _ _ e => e
  · obtain ⟨c, hc⟩ := sortedHeap_at (out := (PySem.W.sortVals (PySem.W.dataKind (PySem.W.sortingHeap (h1.push (seqObj "list" vs.toArray 0)) h1.objs.size vs) (bs.map enc)) false vs vs).toArray) at2
    refine h _ h1.objs.size _ c (by rw [PySem.W.sortVals_length false rfl]; exact e.length) (PySem.W.sortVals_data false e er' hal) hsz (fun b o q => ?_) hc
    rw [sortedHeap_old (ne b o q) (Heap.lt_size (k2 b o q))]
    exact k2 b o q
  · obtain ⟨rfl, hq⟩ := hf
    exact ⟨_, rfl, wpAny_pure ⟨_, rfl, hq⟩⟩
end
section
variable {Γ : Ctx}
structure CallOk (Γ : Ctx) (f : List PyData → Option PyData) (r : List V → Hp → VK → Prop) : Prop where
  ok : ∀ (W : WX) (σ : St) (xs : List V) (H : Hp) (Q : VK) (F : Fs) (env : Env) (fp : Nat → Fs) (ds : List PyData) (c : PyData), REnv Γ H F env σ fp → FRs Γ.K H F ds xs → f ds = some c → PostE Γ W σ H F fp Q (.ok c env) → r xs H Q
theorem CallOk.use {W : WX} {ma : M (List PyData)} {f : List PyData → Option PyData} {r : List V → Hp → VK → Prop} (h : CallOk Γ f r) (σ : St) (H : Hp) (Q : VK) (q : tE Γ W (mArgs f ma) σ H Q) : tCB r (tA Γ W ma) σ H Q :=
  G_mono (G_list (k := fun a => lift (f a)) q) fun xs H1 z => by
    obtain ⟨F, env, fp, d, r1, h1, hm⟩ := z
    obtain ⟨c, e, hm⟩ := post_lift hm
    exact h.ok W σ xs H1 Q F env fp d c r1 h1 e hm
end
section
variable {X : Cx} {cl : Nat → Addr} {W : WX} {x : Str} {e : Expr} {es : List Expr} {ma : M (List PyData)} {id T : String} {f : List PyData → Option PyData} {p pos : Pos}
structure Bi (X : Cx) (cl : Nat → Addr) (u : Value) (f : List PyData → Option PyData) : Prop where
  run : ∃ r, CallR X u r ∧ CallOk ⟨X.K, cl⟩ f r
theorem de_callB (h : Bi X cl (.builtin id) f) (hg : Gl X x) (hm : X.mg x = none) (hv : bootBuiltins x = some (.builtin id)) (ha : DA X cl W (e :: es) ma) (hn : x ≠ "__name__" := by decide) (hdb : (x == ("__debug__" : Str)) = false := by decide)
    (he : starEach (e :: es) X.env = (false, eval e X.env) :: starEach es X.env := by rfl) (hpl : (backTo pos (starEach es X.env)).any (·.1) = false := by rfl) : DE X cl W (.Call (.Name x p) (e :: es) [] pos) (mArgs f ma) := by
  obtain ⟨r, h1, h2⟩ := h.run
  exact PE.imp (pe_callB h1 hg hm hv ha hn hdb he hpl) h2.use
theorem de_callTy (h : Bi X cl (.type T) f) (hg : Gl X x) (hm : X.mg x = none) (hv : bootBuiltins x = some (.type T)) (ha : DA X cl W (e :: es) ma) (hn : x ≠ "__name__" := by decide) (hdb : (x == ("__debug__" : Str)) = false := by decide)
    (he : starEach (e :: es) X.env = (false, eval e X.env) :: starEach es X.env := by rfl) (hpl : (backTo pos (starEach es X.env)).any (·.1) = false := by rfl) : DE X cl W (.Call (.Name x p) (e :: es) [] pos) (mArgs f ma) := by
  obtain ⟨r, h1, h2⟩ := h.run
  exact PE.imp (pe_callTy h1 hg hm hv ha hn hdb he hpl) h2.use
def intF : List PyData → Option PyData
  | [.int i] => some (.int i)
  | [.bool b] => some (.int (if b then 1 else 0))
  | _ => none
theorem FRs.one {K : PySem.W.Frag} {H : Hp} {F : Fs} {d : PyData} {xs : List V} (h : FRs K H F [d] xs) : ∃ v, xs = [v] ∧ FR K H F d v := by
  cases h with
  | cons a b => cases b; exact ⟨_, rfl, a⟩
theorem FRs.two {K : PySem.W.Frag} {H : Hp} {F : Fs} {d e : PyData} {xs : List V} (h : FRs K H F [d, e] xs) : ∃ v u, xs = [v, u] ∧ FR K H F d v ∧ FR K H F e u := by
  cases h with
  | cons a b => cases b with
    | cons b c => cases c; exact ⟨_, _, rfl, a, b⟩
theorem bi_int : Bi X cl (.type "int") intF := ⟨_, call_int1, ⟨fun W σ xs H Q F env fp ds c r1 h e hm => by
  match ds, h, e with
  | [.int i], h, e =>
    obtain ⟨v, rfl, h0⟩ := h.one
    cases h0; cases e
    exact .inl ⟨i, rfl, fin_same hm r1 (.int _)⟩
  | [.bool b], h, e =>
    obtain ⟨v, rfl, h0⟩ := h.one
    cases h0; cases e
    exact .inr ⟨b, rfl, fin_same hm r1 (.int _)⟩⟩⟩
def tupleF : List PyData → Option PyData
  | [.list l] => some (.tuple l)
  | [.tuple l] => some (.tuple l)
  | _ => none
theorem bi_tuple : Bi X cl (.type "tuple") tupleF := ⟨_, call_tuple_of, ⟨fun W σ xs H Q F env fp ds c r1 h e hm => by
  match ds, h, e with
  | [.list l], h, e =>
    obtain ⟨v, rfl, h0⟩ := h.one
    cases e
    cases h0 with
    | lst fa hh rr => exact ⟨_, _, rfl, .inl ⟨SqL.of hh, fun p hp => fin_tup hm r1 hp rr⟩⟩
  | [.tuple l], h, e =>
    obtain ⟨v, rfl, h0⟩ := h.one
    cases e
    cases h0 with
    | tup fa hh rr => exact ⟨_, _, rfl, .inr ⟨SqT.of hh, fin_same hm r1 (.tup fa hh rr)⟩⟩⟩⟩
def listF : List PyData → Option PyData
  | [.list l] => some (.list l)
  | [.tuple l] => some (.list l)
  | _ => none
theorem FR.fr_keys {K : PySem.W.Frag} {H : Hp} {F : Fs} (ks : List Key) : ∃ ds, ds = ks.map keyD ∧ FRs K H F ds (ks.map kV) := by
  induction ks with
  | nil => exact ⟨[], rfl, .nil⟩
  | cons k ks ih =>
    obtain ⟨ds, e, h⟩ := ih
    refine ⟨keyD k :: ds, by rw [e]; rfl, ?_⟩
    cases k with
    | inl i => exact .cons (.int i) h
    | inr x => exact .cons (.str x) h
theorem isKeys_frs {K : PySem.W.Frag} {H : Hp} {F : Fs} : ∀ {kvs : List (List Key × V)} {bs : List Addr}, IsKeys H kvs bs → (∀ b, b ∈ bs → F b) → FRs K H F (kvs.map fun p => keysD p.1) (bs.map V.ref)
  | _, _, .nil, _ => .nil
  | _, _, .cons h t, f => by
    obtain ⟨ds, e, hk⟩ := FR.fr_keys (K := K) (H := H) (F := F) _
    refine .cons ?_ (isKeys_frs t fun b hb => f b (List.mem_cons_of_mem _ hb))
    have := FR.tup (K := K) (f _ List.mem_cons_self) h hk
    rw [e] at this
    exact this
theorem isKeys_tup {H : Hp} : ∀ {kvs : List (List Key × V)} {bs : List Addr}, IsKeys H kvs bs → ∀ b, b ∈ bs → Tup H b
  | _, _, .nil, b, h => by cases h
  | _, _, .cons h t, b, q => by
    rcases List.mem_cons.mp q with rfl | q
    · exact ⟨_, h⟩
    · exact isKeys_tup t b q
theorem map_fst_zip {α β : Type} : ∀ (ks : List α) (vs : List β), ks.length = vs.length → (ks.zip vs).map Prod.fst = ks
  | [], [], _ => rfl
  | k :: ks, v :: vs, h => by rw [List.zip_cons_cons, List.map_cons, map_fst_zip ks vs (by simpa using h)]
  | [], _ :: _, h => by simp at h
  | _ :: _, [], h => by simp at h
def keysF : List PyData → Option PyData
  | [.dict kvs] => some (.list (kvs.map (·.1)))
  | _ => none
theorem bi_list_dict (hc : X.calm = true) : Bi X cl (.type "list") keysF := ⟨_, CallR.or (call_list_dK hc) (call_list_dT hc), ⟨fun W σ xs H Q F env fp ds c r1 h e hm => by
  match ds, h, e with
  | [.dict l], h, e =>
    obtain ⟨v, rfl, h0⟩ := h.one
    cases e
    cases h0 with
    | @dK a kvs ds fa hh rr =>
      refine .inl ⟨_, _, rfl, hh, fun p hp => ?_⟩
      obtain ⟨ds', e, hk⟩ := FR.fr_keys (K := X.K) (H := H) (F := F) (kvs.map (·.1))
      rw [List.map_map] at hk
      have e2 : ((kvs.map fun p => keyD p.1).zip ds).map (·.1) = ds' := by
        have hl := rr.length
        rw [List.length_map] at hl
        rw [show ((kvs.map fun p => keyD p.1).zip ds).map (·.1) = kvs.map fun p => keyD p.1 from map_fst_zip _ _ (by rw [List.length_map]; exact hl.symm), e, List.map_map]
        rfl
      rw [e2] at hm
      exact fin_lst hm r1 hp hk
    | @dT a kvs ds fa hh rr =>
      refine .inr ⟨_, _, rfl, .inl hh, fun p bs hp hk => ?_⟩
      have e2 : ((kvs.map fun p => keysD p.1).zip ds).map (·.1) = kvs.map fun p => keysD p.1 := by
        have hl := rr.length
        rw [List.length_map] at hl
        exact map_fst_zip _ _ (by rw [List.length_map]; exact hl.symm)
      rw [e2] at hm
      have r2 := r1.addF (P := fun b => b ∈ bs) (fun b hb hq => r1.nt hq (isKeys_tup hk b hb)) (fun b hb => (let ⟨vs, q⟩ := isKeys_tup hk b hb; ⟨_, q⟩))
      have hf := isKeys_frs (K := X.K) (F := fun b => F b ∨ b ∈ bs) hk (fun b hb => .inr hb)
      have x : Ext H F (ow fp) H (fun b => F b ∨ b ∈ bs) (ow fp) := ⟨fun _ _ q _ => q, fun _ q => .inl q, fun _ q => .inl q, fun b q => q.elim .inl fun q => .inr (.inr (.inr (isKeys_tup hk b q))), fun fd b q => q.elim (fd b) fun q => (let ⟨vs, z⟩ := isKeys_tup hk b q; ⟨_, z⟩)⟩
      exact fin_lst (Post.rebase hm x) r2 hp hf⟩⟩
def sortC (ds : List PyData) : Bool := ds.all (fun d => ds.all fun d' => PySem.W.alike d d') && (ds.all (fun d => match d with | .tuple (_ :: _) => true | _ => false) || ds.all (fun d => match d with | .none => false | .tuple _ => false | _ => true)) &&
  ndDs ds && decide (ds.length ≤ sizeLine) && ds.all fun d => decide (d.depth ≤ 60)
def sortL (ds : List PyData) : List PyData := ds.mergeSort (PySem.W.dataLe false fun d => d)
def tup0C (ds : List PyData) : Bool := ds.all (fun d => ds.all fun d' => PySem.W.alike d d') && (match ds with | .tuple [] :: _ => true | _ => false) && ds.all (fun d => match d with | .tuple _ => true | _ => false) &&
  ndDs ds && decide (ds.length ≤ sizeLine) && ds.all fun d => decide (d.depth ≤ 60)
def sortedF : List PyData → Option PyData
  | [.list l] => if sortC l then some (.list (sortL l)) else if tup0C l then some (.list (sortL l)) else none
  | [.tuple l] => if sortC l then some (.list (sortL l)) else none
  | _ => none
theorem sortC_alike {ds : List PyData} (h : sortC ds = true) : PySem.W.AllAlike ds := by
  unfold sortC at h
  simp only [Bool.and_eq_true] at h
  intro d hd d' hd'
  exact List.all_eq_true.mp (List.all_eq_true.mp h.1.1.1.1 d hd) d' hd'
theorem sortC_sort {ds : List PyData} (h : sortC ds = true) : PySem.W.Sortable ds := by
  unfold sortC at h
  simp only [Bool.and_eq_true, Bool.or_eq_true] at h
  rcases h.1.1.1.2 with q | q
  · refine .inl fun d hd => ?_
    have z := List.all_eq_true.mp q d hd
    cases d with
    | tuple xs =>
      cases xs with
      | nil => exact Bool.noConfusion z
      | cons x r => exact ⟨x, r, rfl⟩
    | _ => exact Bool.noConfusion z
  · refine .inr fun d hd => ?_
    have z := List.all_eq_true.mp q d hd
    exact ⟨fun e => by rw [e] at z; exact Bool.noConfusion z, fun xs e => by rw [e] at z; exact Bool.noConfusion z⟩
def Prs (K : PySem.W.Frag) (H : Hp) (F : Fs) (ps : List (PyData × V)) : Prop := ∀ p, p ∈ ps → FR K H F p.1 p.2
theorem prs_of {K : PySem.W.Frag} {H : Hp} {F : Fs} : ∀ {ds : List PyData} {vs : List V}, FRs K H F ds vs → Prs K H F (ds.zip vs) ∧ (ds.zip vs).map (·.1) = ds ∧ (ds.zip vs).map (·.2) = vs
  | _, _, .nil => ⟨fun p h => (by cases h), rfl, rfl⟩
  | _, _, .cons h t => by
    obtain ⟨a, b, c⟩ := prs_of t
    refine ⟨fun p hp => ?_, by rw [List.zip_cons_cons, List.map_cons, b], by rw [List.zip_cons_cons, List.map_cons, c]⟩
    rcases List.mem_cons.mp hp with rfl | hp
    · exact h
    · exact a p hp
theorem frs_prs {K : PySem.W.Frag} {H : Hp} {F : Fs} : ∀ {ps : List (PyData × V)}, Prs K H F ps → FRs K H F (ps.map (·.1)) (ps.map (·.2))
  | [], _ => .nil
  | p :: ps, h => .cons (h p List.mem_cons_self) (frs_prs fun q hq => h q (List.mem_cons_of_mem _ hq))
def rSortD (K : PySem.W.Frag) : List V → Hp → VK → Prop := fun xs H Q => ∃ (a : Addr) (ps : List (PyData × V)), xs = [V.ref a] ∧ (SqL K H a (ps.map (·.2)) ∨ SqT K H a (ps.map (·.2))) ∧ (∀ p, p ∈ ps → Dp K H p.2 p.1) ∧ sortC (ps.map (·.1)) = true ∧
  ∀ p, H p = none → Q (.ref p) (upd H p (.lst ((ps.mergeSort (PySem.W.dataLe false (·.1))).map (·.2))))
theorem each_of {s : Shared} {pins : List (Addr × Obj)} {σ : St} {H : Hp} (I : Inv X pins σ H s) : ∀ {ps : List (PyData × V)} {us : List Value}, Vals (ps.map (·.2)) us → (∀ p, p ∈ ps → Dp X.K H p.2 p.1) →
    PySem.W.EachIs (fun u p => RelV p.2 u) us ps ∧ PySem.W.EachIs (fun u p => ∃ as, Reads s.heap u p.1 as) us ps
  | [], _, r, _ => by
    cases r
    exact ⟨.nil, .nil⟩
  | p :: ps, _, r, h => by
    rw [List.map_cons] at r
    cases r with
    | cons a b =>
      obtain ⟨c, d⟩ := each_of I b fun q hq => h q (List.mem_cons_of_mem _ hq)
      exact ⟨.cons a c, .cons (Dp.reads I _ _ _ (h p List.mem_cons_self) a) d⟩
theorem vals_each : ∀ {ps : List (PyData × V)} {us : List Value}, PySem.W.EachIs (fun u p => RelV p.2 u) us ps → Vals (ps.map (·.2)) us
  | _, _, .nil => .nil
  | _, _, .cons h t => .cons h (vals_each t)
theorem cr_sortD (hu : X.A.units + 64 < cLine) : CallR X (.builtin "sorted") (rSortD X.K) := by
  intro pins s σ H vs us Q I r h
  obtain ⟨a, ps, rfl, hs, hd, hc, q⟩ := h
  have hc' := hc
  unfold sortC at hc'
  simp only [Bool.and_eq_true, decide_eq_true_eq] at hc'
  have hL : ps.length ≤ sizeLine := by have := hc'.1.2; rw [List.length_map] at this; exact this
  have hdep : ∀ b, b ∈ ps → X.A.units + 2 + b.1.depth < cLine := fun b hb => by
    have := List.all_eq_true.mp hc'.2 b.1 (List.mem_map.mpr ⟨b, hb, rfl⟩)
    have := of_decide_eq_true this
    omega
  have hlen : ((ps.mergeSort (PySem.W.dataLe false (·.1))).map (·.2)).length ≤ sizeLine := by rw [List.length_map, List.length_mergeSort]; exact hL
  rw [Vals.ref1 r]
  rcases hs with hs | hs
  · obtain ⟨its, rv, hl, _⟩ := I.list hs
    obtain ⟨e1, e2⟩ := each_of I rv hd
    refine PySem.W.sorted_data (enc := (·.1)) hl.isList e1 e2 (sortC_alike hc) (sortC_sort hc) hL hdep fun out h1 h2 => ?_
    obtain ⟨ep, he'⟩ := PyProof.Rows.sortedAll_at s.heap its (List.toArray out)
    exact ⟨.ref _, upd H (s.heap.objs.size + 1) (.lst _), I.laid (t' := s.toks) (fun _ _ => PyProof.Rows.sortedAll_old) (Nat.le_succ _) ⟨hlen, out, ep, vals_each h2, he'⟩, rfl, q _ (I.hok.fresh (Nat.le_succ _))⟩
  · obtain ⟨its, rv, ⟨o, g1, g2, n, g3⟩, _⟩ := I.tuple hs
    obtain ⟨e1, e2⟩ := each_of I rv hd
    refine sorted_tup (enc := (·.1)) g1 g2 g3 e1 e2 (sortC_alike hc) (sortC_sort hc) hL hdep fun out D h' ep h1 h2 hD hk he' => ?_
    exact ⟨.ref _, upd H D (.lst _), I.laid (t' := s.toks) hk hD ⟨hlen, out, ep, vals_each h2, he'⟩, rfl, q _ (I.hok.fresh hD)⟩
def rSort0 (K : PySem.W.Frag) : List V → Hp → VK → Prop := fun xs H Q => ∃ (a : Addr) (ps : List (PyData × V)), xs = [V.ref a] ∧ SqL K H a (ps.map (·.2)) ∧ (∀ p, p ∈ ps → Dp K H p.2 p.1) ∧ tup0C (ps.map (·.1)) = true ∧
  ∀ p, H p = none → Q (.ref p) (upd H p (.lst ((ps.mergeSort (PySem.W.dataLe false (·.1))).map (·.2))))
theorem cr_sort0 (hu : X.A.units + 64 < cLine) : CallR X (.builtin "sorted") (rSort0 X.K) := by
  intro pins s σ H vs us Q I r h
  obtain ⟨a, ps, rfl, hs, hd, hc, q⟩ := h
  have hc' := hc
  unfold tup0C at hc'
  simp only [Bool.and_eq_true, decide_eq_true_eq] at hc'
  have hL : ps.length ≤ sizeLine := by have := hc'.1.2; rw [List.length_map] at this; exact this
  have hdep : ∀ b, b ∈ ps → X.A.units + 2 + b.1.depth < cLine := fun b hb => by
    have := List.all_eq_true.mp hc'.2 b.1 (List.mem_map.mpr ⟨b, hb, rfl⟩)
    have := of_decide_eq_true this
    omega
  have hlen : ((ps.mergeSort (PySem.W.dataLe false (·.1))).map (·.2)).length ≤ sizeLine := by rw [List.length_map, List.length_mergeSort]; exact hL
  rw [Vals.ref1 r]
  obtain ⟨its, rv, hl, _⟩ := I.list hs
  obtain ⟨e1, e2⟩ := each_of I rv hd
  have hal : PySem.W.AllAlike (ps.map (·.1)) := fun d hd d' hd' => List.all_eq_true.mp (List.all_eq_true.mp hc'.1.1.1.1.1 d hd) d' hd'
  have ht : ∀ d, d ∈ ps.map (·.1) → ∃ xs, d = .tuple xs := fun d hd => by
    have z := List.all_eq_true.mp hc'.1.1.1.2 d hd
    cases d with
    | tuple xs => exact ⟨xs, rfl⟩
    | _ => exact Bool.noConfusion z
  have h0 : ∃ r, ps.map (·.1) = .tuple [] :: r := by
    have z := hc'.1.1.1.1.2
    generalize ps.map (·.1) = l at z
    match l, z with
    | .tuple [] :: r, _ => exact ⟨r, rfl⟩
  refine sorted_tup0 (enc := (·.1)) hl.isList e1 e2 hal ht h0 hL hdep fun out h1 h2 => ?_
  obtain ⟨ep, he'⟩ := PyProof.Rows.sortedAll_at s.heap its (List.toArray out)
  exact ⟨.ref _, upd H (s.heap.objs.size + 1) (.lst _), I.laid (t' := s.toks) (fun _ _ => PyProof.Rows.sortedAll_old) (Nat.le_succ _) ⟨hlen, out, ep, vals_each h2, he'⟩, rfl, q _ (I.hok.fresh (Nat.le_succ _))⟩
theorem nd_all : ∀ (ds : List PyData), ndDs ds = true → ∀ d, d ∈ ds → ndD d = true := fun ds => by
  induction ds with
  | nil => intro _ d h; cases h
  | cons y ys ih =>
    intro h d hd
    rw [ndDs, Bool.and_eq_true] at h
    rcases List.mem_cons.mp hd with rfl | hd
    · exact h.1
    · exact ih h.2 d hd
theorem sort_use {K : PySem.W.Frag} {W : WX} {cl : Nat → Addr} {σ : St} {H : Hp} {F : Fs} {fp : Nat → Fs} {env : Env} {Q : VK} {a : Addr} {l : List PyData} {vs : List V} (r1 : REnv ⟨K, cl⟩ H F env σ fp) (rr : FRs K H F l vs) (hc : sortC l = true) (hm : PostE ⟨K, cl⟩ W σ H F fp Q (.ok (.list (sortL l)) env)) (hs : SqL K H a vs ∨ SqT K H a vs) : rSortD K [.ref a] H Q := by
  obtain ⟨p1, p2, p3⟩ := prs_of rr
  have hn : ndDs l = true := by
    have hc' := hc
    unfold sortC at hc'
    simp only [Bool.and_eq_true] at hc'
    exact hc'.1.1.2
  refine ⟨a, l.zip vs, rfl, by rw [p3]; exact hs, fun p hp => (p1 p hp).dpN ?_, by rw [p2]; exact hc, fun p hp => ?_⟩
  · have hm : p.1 ∈ l := by rw [← p2]; exact List.mem_map.mpr ⟨p, hp, rfl⟩
    have all : ∀ (ds : List PyData), ndDs ds = true → ∀ d, d ∈ ds → ndD d = true := fun ds => by
      induction ds with
      | nil => intro _ d h; cases h
      | cons y ys ih =>
        intro h d hd
        rw [ndDs, Bool.and_eq_true] at h
        rcases List.mem_cons.mp hd with rfl | hd
        · exact h.1
        · exact ih h.2 d hd
    exact all l hn _ hm
  · have hp2 : Prs K H F ((l.zip vs).mergeSort (PySem.W.dataLe false (·.1))) := fun q hq => p1 q (List.mem_mergeSort.mp hq)
    have e2 : ((l.zip vs).mergeSort (PySem.W.dataLe false (·.1))).map (·.1) = sortL l := by
      unfold sortL
      rw [← p2, ← List.map_mergeSort (s := PySem.W.dataLe false fun d => d)]
      · rw [p2]
      · intro a _ b _; rfl
    have hf := frs_prs hp2
    rw [e2] at hf
    exact fin_lst hm r1 hp hf
theorem sort_use0 {K : PySem.W.Frag} {W : WX} {cl : Nat → Addr} {σ : St} {H : Hp} {F : Fs} {fp : Nat → Fs} {env : Env} {Q : VK} {a : Addr} {l : List PyData} {vs : List V} (r1 : REnv ⟨K, cl⟩ H F env σ fp) (rr : FRs K H F l vs) (hc : tup0C l = true) (hm : PostE ⟨K, cl⟩ W σ H F fp Q (.ok (.list (sortL l)) env)) (hs : SqL K H a vs) : rSort0 K [.ref a] H Q := by
  obtain ⟨p1, p2, p3⟩ := prs_of rr
  have hn : ndDs l = true := by
    have hc' := hc
    unfold tup0C at hc'
    simp only [Bool.and_eq_true] at hc'
    exact hc'.1.1.2
  refine ⟨a, l.zip vs, rfl, by rw [p3]; exact hs, fun p hp => (p1 p hp).dpN ?_, by rw [p2]; exact hc, fun p hp => ?_⟩
  · have hm : p.1 ∈ l := by rw [← p2]; exact List.mem_map.mpr ⟨p, hp, rfl⟩
    have all : ∀ (ds : List PyData), ndDs ds = true → ∀ d, d ∈ ds → ndD d = true := fun ds => by
      induction ds with
      | nil => intro _ d h; cases h
      | cons y ys ih =>
        intro h d hd
        rw [ndDs, Bool.and_eq_true] at h
        rcases List.mem_cons.mp hd with rfl | hd
        · exact h.1
        · exact ih h.2 d hd
    exact all l hn _ hm
  · have hp2 : Prs K H F ((l.zip vs).mergeSort (PySem.W.dataLe false (·.1))) := fun q hq => p1 q (List.mem_mergeSort.mp hq)
    have e2 : ((l.zip vs).mergeSort (PySem.W.dataLe false (·.1))).map (·.1) = sortL l := by
      unfold sortL
      rw [← p2, ← List.map_mergeSort (s := PySem.W.dataLe false fun d => d)]
      · rw [p2]
      · intro a _ b _; rfl
    have hf := frs_prs hp2
    rw [e2] at hf
    exact fin_lst hm r1 hp hf
theorem bi_sorted (hu : X.A.units + 64 < cLine) : Bi X cl (.builtin "sorted") sortedF := ⟨_, CallR.or (cr_sortD hu) (cr_sort0 hu), ⟨fun W σ xs H Q F env fp ds c r1 h e hm => by
  match ds, h, e with
  | [.list l], h, e =>
    obtain ⟨v, rfl, h0⟩ := h.one
    replace e : (if sortC l = true then some (PyData.list (sortL l)) else if tup0C l = true then some (PyData.list (sortL l)) else none) = some c := e
    by_cases hc : sortC l = true
    · rw [if_pos hc] at e
      cases e
      cases h0 with
      | @lst a vs _ fa hh rr => exact .inl (sort_use r1 rr hc hm (.inl (SqL.of hh)))
    · rw [if_neg hc] at e
      by_cases hc0 : tup0C l = true
      · rw [if_pos hc0] at e
        cases e
        cases h0 with
        | @lst a vs _ fa hh rr => exact .inr (sort_use0 r1 rr hc0 hm (SqL.of hh))
      · rw [if_neg hc0] at e; cases e
  | [.tuple l], h, e =>
    obtain ⟨v, rfl, h0⟩ := h.one
    replace e : (if sortC l = true then some (PyData.list (sortL l)) else none) = some c := e
    by_cases hc : sortC l = true
    · rw [if_pos hc] at e
      cases e
      cases h0 with
      | @tup a vs _ fa hh rr => exact .inl (sort_use r1 rr hc hm (.inr (SqT.of hh)))
    · rw [if_neg hc] at e; cases e⟩⟩
def flE : PyData → Bool
  | .int _ => true
  | .dict [] => true
  | _ => false
def noE : PyData → Bool
  | .dict [] => true
  | .tuple xs => xs.all flE && (PyData.tuple xs).showable && decide ((PyData.tuple xs).depth ≤ 60) && decide ((PyData.tuple xs).shown.length ≤ sizeLine)
  | _ => false
def reprC (d : PyData) : Bool := noE d || (ndD d && d.showable && decide (d.depth ≤ 60) && decide (d.shown.length ≤ sizeLine))
def reprF : List PyData → Option PyData
  | [d] => if reprC d then some (.str d.shown) else none
  | _ => none
def rRepr (K : PySem.W.Frag) : List V → Hp → VK → Prop := fun xs H Q => (∃ v d, xs = [v] ∧ Dp K H v d ∧ (ndD d && d.showable && decide (d.depth ≤ 60) && decide (d.shown.length ≤ sizeLine)) = true ∧ Q (.str d.shown) H) ∨
  ∃ v d F, xs = [v] ∧ FR K H F d v ∧ noE d = true ∧ Q (.str d.shown) H
theorem reads_noE {X : Cx} {pins : List (Addr × Obj)} {σ : St} {H : Hp} {s : Shared} {a : Addr} (I : Inv X pins σ H s) (h : H a = some (.dK []) ∨ H a = some (.dT [])) : ∃ as, Reads s.heap (.ref a) (.dict []) as ∧ sysModules ∉ as := by
  have fin : ∀ (o : Obj) (es : Array DictEntry) (ep : Nat), s.heap.get? a = some o → o.ExactDict → o.data = .dict es ep → es.toList = [] → (a == sysModules) = false → ∃ as, Reads s.heap (.ref a) (.dict []) as ∧ sysModules ∉ as := fun o es ep h1 h2 h3 h4 h5 => by
    refine ⟨a :: [] ++ [], .dict h1 h2.1 h3 (by rw [h4]; exact .nil) (by rw [h4]; exact .nil), ?_⟩
    simp only [List.cons_append, List.nil_append, List.mem_singleton]
    intro z
    rw [z] at h5
    simp at h5
  rcases h with h | h
  · obtain ⟨_, hn, vs, hk, o, es, ep, h1, h2, h3, _, h4, _⟩ := I.hok a _ h
    cases hk
    refine fin o es ep h1 h2 h3 ?_ hn
    cases e : es.toList with
    | nil => rfl
    | cons _ _ => rw [e] at h4; cases h4
  · obtain ⟨_, hn, xs, hp, o, es, ep, h1, h2, h3, h4, _⟩ := I.hok a _ h
    cases hp
    exact fin o es ep h1 h2 h3 h4 hn
theorem fr_noE {K : PySem.W.Frag} {H : Hp} {F : Fs} {v : V} (h0 : FR K H F (.dict []) v) : ∃ a, v = .ref a ∧ (H a = some (.dK []) ∨ H a = some (.dT [])) := by
  generalize hz : PyData.dict [] = d0 at h0
  cases h0 with
  | @dK a kvs ds f hh r =>
    have : kvs = [] := by
      cases kvs with
      | nil => rfl
      | cons k ks =>
        have := r.length
        cases ds with
        | nil => simp at this
        | cons _ _ => simp at hz
    subst this
    exact ⟨a, rfl, .inl hh⟩
  | @dT a kvs ds f hh r =>
    have : kvs = [] := by
      cases kvs with
      | nil => rfl
      | cons k ks =>
        have := r.length
        cases ds with
        | nil => simp at this
        | cons _ _ => simp at hz
    subst this
    exact ⟨a, rfl, .inr hh⟩
  | _ => cases hz
theorem reads_flE {X : Cx} {pins : List (Addr × Obj)} {σ : St} {H : Hp} {s : Shared} {F : Fs} (I : Inv X pins σ H s) : ∀ {ds : List PyData} {vs : List V} {its : List Value}, FRs X.K H F ds vs → ds.all flE = true → Vals vs its → ∃ as, ReadsAll s.heap its ds as ∧ sysModules ∉ as
  | _, _, _, .nil, _, r => by cases r; exact ⟨[], .nil, by simp⟩
  | d :: ds, _, _, .cons h t, ha, r => by
    rw [List.all_cons, Bool.and_eq_true] at ha
    cases r with
    | cons r1 rr =>
      obtain ⟨bs, g1, g2⟩ := reads_flE I t ha.2 rr
      match d, ha.1, h with
      | .int i, _, h =>
        cases h
        obtain ⟨tk, rfl⟩ := r1
        exact ⟨[] ++ bs, .cons (.int i tk) g1, g2⟩
      | .dict [], _, h =>
        obtain ⟨a, rfl, ha⟩ := fr_noE h
        cases r1
        obtain ⟨as, k1, k2⟩ := reads_noE I ha
        refine ⟨as ++ bs, .cons k1 g1, fun z => ?_⟩
        rcases List.mem_append.mp z with z | z
        · exact k2 z
        · exact g2 z
theorem nd_hasDict : ∀ d : PyData, ndD d = true → d.hasDict = false
  | .none, _ => rfl
  | .bool _, _ => rfl
  | .int _, _ => rfl
  | .str _, _ => rfl
  | .list xs, h => by
    rw [ndD] at h
    rw [PyData.hasDict]
    exact go xs h
  | .tuple xs, h => by
    rw [ndD] at h
    rw [PyData.hasDict]
    exact go xs h
  | .dict _, h => by rw [ndD] at h; exact Bool.noConfusion h
where go : ∀ xs : List PyData, ndDs xs = true → PyData.hasDictAll xs = false
  | [], _ => rfl
  | x :: xs, h => by
    rw [ndDs, Bool.and_eq_true] at h
    rw [PyData.hasDictAll, nd_hasDict x h.1, go xs h.2]
    rfl
theorem cr_repr (hu : X.A.units + 64 < cLine) (hgd : X.A.guards = some []) : CallR X (.builtin "repr") (rRepr X.K) := by
  intro pins s σ H vs us Q I r h
  rcases h with ⟨v, d, rfl, hd, hc, q⟩ | ⟨v, d, F, rfl, hf, hc, q⟩
  case inr =>
    obtain ⟨u, rfl, ru⟩ := vals1 r
    match d, hc, hf, q with
    | .dict [], _, hf, q =>
      obtain ⟨a, rfl, ha⟩ := fr_noE hf
      cases ru
      obtain ⟨as, hr, hs⟩ := reads_noE I ha
      have hd1 : (PyData.dict []).depth ≤ 60 := by decide +kernel
      exact repr_of_reads' hr (by decide +kernel) (fun _ => hs) hgd (by omega) (fun _ _ q => q) (fun h' u tk k => ⟨.str _, H, I.kept k, ⟨_, rfl⟩, q⟩) (by decide +kernel)
    | .tuple xs, hc, hf, q =>
      have hc2 : (xs.all flE && (PyData.tuple xs).showable && decide ((PyData.tuple xs).depth ≤ 60) && decide ((PyData.tuple xs).shown.length ≤ sizeLine)) = true := hc
      simp only [Bool.and_eq_true, decide_eq_true_eq] at hc2
      cases hf with
      | @tup a vs ds f hh rr =>
        cases ru
        obtain ⟨its, rv, ⟨o, g1, g2, n, g3⟩, _⟩ := I.tuple (SqT.of hh)
        obtain ⟨as, k1, k2⟩ := reads_flE I rr hc2.1.1.1 rv
        have hr : Reads s.heap (.ref a) (.tuple xs) as := .tuple g1 g2 g3 (by simpa using k1)
        exact repr_of_reads' hr hc2.1.1.2 (fun _ => k2) hgd (by omega) (fun _ _ q => q) (fun h' u tk k => ⟨.str _, H, I.kept k, ⟨_, rfl⟩, q⟩) hc2.2
  obtain ⟨u, rfl, ru⟩ := vals1 r
  simp only [Bool.and_eq_true, decide_eq_true_eq] at hc
  obtain ⟨as, hr⟩ := Dp.reads I d v u hd ru
  cases hd with
  | non => cases ru; exact PySem.P.repr_of_none ⟨.str _, H, I.tok _, ⟨_, rfl⟩, q⟩
  | bl b => cases ru; exact PySem.P.repr_of_bool ⟨.str _, H, I.tok _, ⟨_, rfl⟩, q⟩
  | int i =>
    obtain ⟨t, rfl⟩ := ru
    exact PySem.P.repr_of_int (by have := hc.1.1.2; simpa [PyData.showable] using this) ⟨.str _, H, I.tok _, ⟨_, rfl⟩, q⟩
  | str x =>
    obtain ⟨t, rfl⟩ := ru
    exact PySem.P.repr_of_str ⟨.str _, H, I.tok _, ⟨_, rfl⟩, q⟩ hc.2
  | lst h1 h2 =>
    cases ru
    exact repr_of_reads' hr hc.1.1.2 (fun z => by rw [nd_hasDict _ hc.1.1.1] at z; cases z) hgd (by omega) (fun _ _ q => q) (fun h' u tk k => ⟨.str _, H, I.kept k, ⟨_, rfl⟩, q⟩) hc.2
  | tup h1 h2 =>
    cases ru
    exact repr_of_reads' hr hc.1.1.2 (fun z => by rw [nd_hasDict _ hc.1.1.1] at z; cases z) hgd (by omega) (fun _ _ q => q) (fun h' u tk k => ⟨.str _, H, I.kept k, ⟨_, rfl⟩, q⟩) hc.2
theorem bi_repr (hu : X.A.units + 64 < cLine) (hgd : X.A.guards = some []) : Bi X cl (.builtin "repr") reprF := ⟨_, cr_repr hu hgd, ⟨fun W σ xs H Q F env fp ds c r1 h e hm => by
  match ds, h, e with
  | [d], h, e =>
    obtain ⟨v, rfl, h0⟩ := h.one
    replace e : (if reprC d = true then some (PyData.str d.shown) else none) = some c := e
    by_cases hc : reprC d = true
    · rw [if_pos hc] at e
      cases e
      unfold reprC at hc
      rw [Bool.or_eq_true] at hc
      rcases hc with hc | hc
      · exact .inr ⟨v, d, _, rfl, h0, hc, fin_same hm r1 (.str _)⟩
      · have hn := hc
        simp only [Bool.and_eq_true] at hn
        exact .inl ⟨v, d, rfl, h0.dpN hn.1.1.1, hc, fin_same hm r1 (.str _)⟩
    · rw [if_neg hc] at e; cases e⟩⟩
def lenD : PyData → Option PyData
  | .str y => if y.length ≤ sizeLine then some (.int y.length) else none
  | .list l => some (.int l.length)
  | .tuple l => some (.int l.length)
  | _ => none
def mLen (la : M Opn) : M PyData := la >>= rd1 lenD
theorem de_len {a : Expr} {la : M Opn} {p pos : Pos} (h : DL X cl W a la) (hg : Gl X "len") (hm : X.mg "len" = none) (he : starEach [a] X.env = (false, eval a X.env) :: starEach [] X.env := by rfl) (hpl : (backTo pos (starEach [] X.env)).any (·.1) = false := by rfl) :
    DE X cl W (.Call (.Name "len" p) [a] [] pos) (mLen la) :=
  PE.imp (pe_callB call_len hg hm (by decide +kernel) (pa_cons h pa_nil he) (by decide) (by decide) he hpl) fun σ H Q q => G_oneL (k := rd1 lenD) (R := Q) (Q' := fun x H1 => ∃ x' n, [x] = [x'] ∧ LenV X.K x' H1 n ∧ Q (.int n) H1) q fun v H' F' env' fp' a r h1 hm => by
    obtain ⟨x, k, e1, e2, e3⟩ := rd1_some rfl (post_nb hm)
    rw [e3] at hm
    refine ⟨v, ?_⟩
    have hf := h1.read r e1
    cases hf with
    | str y =>
      replace e2 : (if y.length ≤ sizeLine then some (PyData.int y.length) else none) = some k := e2
      by_cases c : y.length ≤ sizeLine
      · rw [if_pos c] at e2
        cases e2
        exact ⟨y.length, rfl, ⟨c, rfl⟩, fin_same hm r (.int _)⟩
      · rw [if_neg c] at e2; cases e2
    | lst f h rr =>
      cases e2
      refine ⟨_, rfl, .inl ⟨_, SqL.of h, rfl⟩, ?_⟩
      rw [← rr.length]
      exact fin_same hm r (.int _)
    | tup f h rr =>
      cases e2
      refine ⟨_, rfl, .inr ⟨_, SqT.of h, rfl⟩, ?_⟩
      rw [← rr.length]
      exact fin_same hm r (.int _)
    | _ => cases e2
def rgL (a b : Int) : Option PyData := if -(2 ^ 62) ≤ a ∧ a < 2 ^ 62 ∧ -(2 ^ 62) ≤ b ∧ b < 2 ^ 62 ∧ (b - a).toNat ≤ 2 ^ 24 then some (.list (intsD a (b - a).toNat)) else none
def lrg1 : PyData → Option PyData
  | .int b => rgL 0 b
  | _ => none
theorem frs_ints {K : PySem.W.Frag} {H : Hp} {F : Fs} {a : Int} (n : Nat) : FRs K H F (intsD a n) ((List.range n).map fun i => V.int (a + (i : Nat))) := by
  unfold intsD
  generalize List.range n = l
  induction l with
  | nil => exact .nil
  | cons x xs ih => exact .cons (.int _) ih
theorem rgL_some {a b : Int} {c : PyData} (e : rgL a b = some c) : RgOk a b ∧ c = .list (intsD a (b - a).toNat) := by
  unfold rgL at e
  by_cases h : -(2 ^ 62) ≤ a ∧ a < 2 ^ 62 ∧ -(2 ^ 62) ≤ b ∧ b < 2 ^ 62 ∧ (b - a).toNat ≤ 2 ^ 24
  · rw [if_pos h] at e
    cases e
    exact ⟨h, rfl⟩
  · rw [if_neg h] at e; cases e
end
end PD

namespace PD
open PySem PySem.Spec PyProof.Rows L2

structure DFn (P : Program) (w : World) (K : PySem.W.Frag) (mg : Str → Option Value) (base : Heap) (k : Nat) (f : Addr) (fd : FuncData) (ps : List Str) (sp : Sp) : Prop where
  len : ∀ vs H Q E, sp vs H Q E → vs.length = ps.length
  go : ∀ (A : Around) (out : List PySem.Env) (s : Shared) (H : Hp) (ar : Args) (us : List Value) (vs : List V) (Q : VK) (E : XK), Room k A → A.guards = some [] → Env0 P w K mg base A out s H → BindsTo s fd ar (ps.zip us) →
    Vals vs us → sp vs H Q E → codeAny (model P w) A (.call (.ref f) ar) (CR (L2.CX P w) out P w H s Q E) s
abbrev wOf (E : XK) : WX := fun cls d _ H => E cls d H
abbrev Bx (P : Program) (w : World) (K : PySem.W.Frag) (mg : Str → Option Value) (base : Heap) (N : List Str) (q : Str) (sc : Scope) (f : Addr) (cd : Value) (A : Around) (out : List PySem.Env) (s : Shared) (H : Hp) (E : XK) : Cx :=
  cxOf (L2.CX P w) P w K mg base N q sc f cd A out s H E
theorem dfn_of {P : Program} {w : World} {K : PySem.W.Frag} {mg : Str → Option Value} {base : Heap} {k : Nat} {f : Addr} {nm q : Str} {ar : Arguments} {body : List Stmt} {sc : Scope} {dV kV doc pm cd ct oc : Value} {an od : Option Addr}
    {osl : Array (Option Value)} {N ps : List Str} {sp : Sp} (lk : K.lookup f = some ⟨oc, od, .func (PySem.W.fnOf nm q ar body sc dV kV doc pm an cd ct), osl⟩) (hcd : PySem.W.codeIn K cd q = true) (S : FnScope N ps sc)
    (len : ∀ vs H Q E, sp vs H Q E → vs.length = ps.length)
    (hb : ∀ (A : Around) (out : List PySem.Env) (s : Shared) (H : Hp) (vs : List V) (Q : VK) (E : XK), Room k (Bx P w K mg base N q sc f cd A out s H E).A → (Bx P w K mg base N q sc f cd A out s H E).A.guards = some [] → sp vs H Q E →
      ∃ t, PSs (Bx P w K mg base N q sc f cd A out s H E) body t ∧ t { nx := fun _ H' => Q .non H', rt := Q } (L2.start N vs) H) :
    DFn P w K mg base (k + 1) f (PySem.W.fnOf nm q ar body sc dV kV doc pm an cd ct) ps sp where
  len := len
  go := by
    intro A out s H args us vs Q E hr hg e0 hbi r hsp
    have hl := len _ _ _ _ hsp
    have kx : K.In s.heap := e0.mod.kin.keeps (by intro b o e; exact (e0.bs b o e).1)
    have nl : s.heap.NoLimit := e0.mod.nolimit.keeps (by intro b o e; exact (e0.bs b o e).1)
    refine codeAny_call_function hr.depth (kx _ _ lk) rfl S.co S.gen rfl (PySem.W.codeRec_of kx hcd) (hbi _ _ _ _ ?_)
    refine wpAny_newFunctionEnv_cells S.kind (by
      rintro ⟨n, v⟩ hy
      have hp := S.par n (List.of_mem_zip hy).1
      rcases hp with hp | hp
      · exact .inl hp
      · exact .inr ⟨hp, PySem.W.cellsFrom_some _ _ _ (.inl hp)⟩) fun env he s1 x => ?_
    subst he
    refine ⟨nl.keeps x.toInCall.keep, codeAny_func ?_⟩
    obtain ⟨t, ht, hq⟩ := hb A out s H vs Q E (hr.deeper _) hg hsp
    have I := inv_start (CX := L2.CX P w) (E := E) S hr.hd e0 hl r x
    refine wpAny_mono (ht.run [] s1 (L2.start N vs) H _ I hq) ?_ (by intro e s' hs; exact hs)
    intro fl s' hs
    match fl, hs with
    | .ret u, ⟨v, σ', H', J, rv, z⟩ => exact ⟨v, H', J.os, J.bare, J.base, J.hok, rv, z⟩
    | .next, ⟨σ', H', J, z⟩ => exact ⟨.non, H', J.os, J.bare, J.base, J.hok, rfl, z⟩
    | .brk, ⟨_, _, _, z⟩ => exact z.elim
    | .cont, ⟨_, _, _, z⟩ => exact z.elim
section
variable {X : Cx} {k : Nat} {f : Addr} {fd : FuncData} {ps : List Str} {sp : Sp} {ds : List Value} {dvs : List V} {x : Str} {e : Expr} {es : List Expr} {t : TA} {p pos : Pos} {E : St → XK}
theorem dfn_run {pins : List (Addr × Obj)} {σ : St} {H : Hp} {s : Shared} {Q : VK} {us : List Value} {vs : List V} (F : DFn X.prog X.w X.K X.mg X.base k f fd ps sp) (hr : Room k X.A) (hgd : X.A.guards = some []) (hb : Binds X.K fd ps ds) (hd : Vals dvs ds)
    (hx : PassesAt (L2.CX X.prog X.w) X σ (E σ)) (I : Inv X pins σ H s) (r : Vals vs us) (h : sp (vs ++ dvs) H Q (E σ)) : wpAny (model X.prog X.w) X.A (call (.ref f) us) (EP X pins σ Q) X.xe s := by
  have rv : Vals (vs ++ dvs) (us ++ ds) := r.append hd
  refine wpAny_call (codeAny_mono (F.go X.A X.stack s H ⟨us, []⟩ (us ++ ds) (vs ++ dvs) Q (E σ) hr hgd I.env0 (hb s us I.kIn (by rw [← rv.length]; exact F.len _ _ _ _ h)) rv h) ?_)
  intro r s' hq
  match r, hq with
  | .error e, hq => exact hx pins H s e s' I hq
  | .ok (.ret u), hq => exact I.after hq
  | .ok .next, hq => exact False.elim hq
  | .ok .brk, hq => exact False.elim hq
  | .ok .cont, hq => exact False.elim hq
theorem pe_dfn (F : DFn X.prog X.w X.K X.mg X.base k f fd ps sp) (hr : Room k X.A) (hgd : X.A.guards = some []) (hg : Gl X x) (hm : X.mg x = some (.ref f)) (hk : PySem.W.keepIn X.K (.ref f) = true) (hb : Binds X.K fd ps ds) (hd : Vals dvs ds)
    (hx : ∀ σ, PassesAt (L2.CX X.prog X.w) X σ (E σ)) (ha : PA X (e :: es) t) (hdb : (x == ("__debug__" : Str)) = false := by decide) (he : starEach (e :: es) X.env = (false, eval e X.env) :: starEach es X.env := by rfl)
    (hpl : (backTo pos (starEach es X.env)).any (·.1) = false := by rfl) : PE X (.Call (.Name x p) (e :: es) [] pos) (fun σ H Q => t σ H fun vs H1 => sp (vs ++ dvs) H1 Q (E σ)) := by
  refine ⟨fun pins s σ H Q I h => wpAny_Call_Name_kw (ld_glob I hg hm ?_ hdb)⟩
  refine PySem.W.callWith_K (h₀ := X.base) I.ok.mod.kin hk (thn (ha.run pos pins s σ H _ I h) ?_) he hpl
  rintro us s1 ⟨vs, H1, J, r, q⟩
  exact ⟨J.kIn, dfn_run F hr hgd hb hd (hx σ) J r q⟩
end

def resT : Fl → Option T
  | .nx => some (.v .none)
  | .rt t => some t
  | _ => none
def keepE (B : Nat → Bool) (e : Env) : Env := fun i => if B i = true then e i else none
def keepF (B : Nat → Bool) (f : Nat → Fs) : Nat → Fs := fun i a => B i = true ∧ f i a
def PostC (Γ : Ctx) (B : Nat → Bool) (σ : St) (H : Hp) (F : Fs) (fp : Nat → Fs) (Q : VK) (E : XK) : Res Fl → Prop
  | .ok fl env' => match resT fl with
    | none => False
    | some t => ∀ v H' F' fp' P, REnv Γ H' F' (keepE B env') σ (keepF B fp') → RT Γ H' F' t v P → (∀ x, P x → ¬ ow (keepF B fp') x ∧ ¬ F' x ∧ ∃ o, H' x = some o) → Ext H F (ow fp) H' F' (fun x => P x ∨ ow (keepF B fp') x) → Q v H'
  | .exc x env' => ∀ cls d H' F' fp', REnv Γ H' F' (keepE B env') σ (keepF B fp') → RX Γ H' F' x cls d → Ext H F (ow fp) H' F' (ow (keepF B fp')) → E cls d H'
  | .bad => False
def spD (Γ : Ctx) (B : Nat → Bool) (n : Nat) (m : M Fl) : Sp := fun vs H Q E => vs.length = n ∧ ∃ F env fp, REnv Γ H F env (vs.map some) fp ∧ PostC Γ B (vs.map some) H F fp Q E (m env)
theorem ow_keepF {B : Nat → Bool} {f : Nat → Fs} {a : Addr} (h : ow (keepF B f) a) : ow f a := (let ⟨i, _, q⟩ := h; ⟨i, q⟩)
theorem REnv.keepB {Γ : Ctx} {H : Hp} {F : Fs} {env : Env} {σ σ0 : St} {fp : Nat → Fs} {B : Nat → Bool} (r : REnv Γ H F env σ fp) (h : ∀ i t v, B i = true → env i = some t → σ[i]? = some (some v) → σ0[i]? = some (some v)) : REnv Γ H F (keepE B env) σ0 (keepF B fp) := by
  refine ⟨fun i t e => ?_, fun i a e q => ?_, fun i j a h1 h2 => r.dis i j a h1.2 h2.2, fun i a q => r.nf i a q.2, r.fd⟩
  · unfold keepE at e
    by_cases hb : B i = true
    · rw [if_pos hb] at e
      obtain ⟨v, hv, ht⟩ := r.rep i t e
      have : keepF B fp i = fp i := by funext a; unfold keepF; simp [hb]
      rw [this]
      exact ⟨v, h i t v hb e hv, ht⟩
    · rw [if_neg hb] at e; cases e
  · unfold keepE at e
    rw [if_pos q.1] at e
    exact r.emp i a e q.2
theorem start_get {N : List Str} {vs : List V} {i : Nat} (h : i < vs.length) : (L2.start N vs)[i]? = (vs.map some)[i]? := by
  unfold L2.start
  rw [List.getElem?_append_left (by rw [List.length_map]; exact h)]
theorem ext_keep {H H' : Hp} {F F' O P : Fs} {fp : Nat → Fs} {B : Nat → Bool} (x : Ext H F O H' F' (fun x => P x ∨ ow fp x)) : Ext H F O H' F' (fun x => P x ∨ ow (keepF B fp) x) := ext_of x fun a h => h.elim .inl fun q => .inr (ow_keepF q)
theorem dfn_sp {P : Program} {w : World} {K : PySem.W.Frag} {mg : Str → Option Value} {base : Heap} {k : Nat} {f : Addr} {nm q : Str} {ar : Arguments} {body : List Stmt} {sc : Scope} {dV kV doc pm cd ct oc : Value} {an od : Option Addr}
    {osl : Array (Option Value)} {N ps : List Str} {cl : Nat → Addr} {B : Nat → Bool} {m : M Fl} (lk : K.lookup f = some ⟨oc, od, .func (PySem.W.fnOf nm q ar body sc dV kV doc pm an cd ct), osl⟩) (hcd : PySem.W.codeIn K cd q = true) (S : FnScope N ps sc)
    (hB : ∀ i, B i = true → i < ps.length)
    (hb : ∀ (A : Around) (out : List PySem.Env) (s : Shared) (H : Hp) (E : XK), Room k (Bx P w K mg base N q sc f cd A out s H E).A → (Bx P w K mg base N q sc f cd A out s H E).A.guards = some [] →
      DSs (Bx P w K mg base N q sc f cd A out s H E) cl (wOf E) B body m) :
    DFn P w K mg base (k + 1) f (PySem.W.fnOf nm q ar body sc dV kV doc pm an cd ct) ps (spD ⟨K, cl⟩ B ps.length m) := by
  refine dfn_of lk hcd S (fun vs H Q E h => h.1) fun A out s H vs Q E hr hg hsp => ⟨_, hb A out s H E hr hg, ?_⟩
  obtain ⟨hl, F, env, fp, r, hm⟩ := hsp
  have r0 : REnv ⟨K, cl⟩ H F env (L2.start N vs) fp := ⟨fun i t e => by
    obtain ⟨v, hv, ht⟩ := r.rep i t e
    refine ⟨v, ?_, ht⟩
    have hi := (List.getElem?_eq_some_iff.mp hv).1
    rw [List.length_map] at hi
    rw [start_get hi]
    exact hv, r.emp, r.dis, r.nf, r.fd⟩
  refine ⟨F, env, fp, r0, ?_⟩
  have kb : ∀ {σ' : St} {H' F' fp' P} {env' : Env}, Arr ⟨K, cl⟩ B (L2.start N vs) H F fp env' σ' H' F' fp' P → REnv ⟨K, cl⟩ H' F' (keepE B env') (vs.map some) (keepF B fp') := fun {σ' H' F' fp' P env'} a =>
    a.re.keepB fun i t v hi _ hv => by
      rw [a.bor i hi, start_get (by rw [hl]; exact hB i hi)] at hv
      exact hv
  cases e : m env with
  | bad => rw [e] at hm; exact hm
  | exc x env' =>
    rw [e] at hm
    exact fun σ' cls d H' F' fp' a hx => hm cls d H' F' fp' (kb a) hx (ext_of a.ext fun y z => .inr (ow_keepF z))
  | ok fl env' =>
    rw [e] at hm
    cases fl with
    | nx => exact fun σ' H' F' fp' a => hm .non H' F' fp' noF (kb a) (.v .non) (fun _ z => z.elim) (ext_keep a.ext)
    | rt t => exact fun σ' v H' F' fp' P a ht => hm v H' F' fp' P (kb a) ht (fun x hx => ⟨fun z => (a.di x hx).1 (ow_keepF z), (a.di x hx).2⟩) (ext_keep a.ext)
    | bk => exact hm.elim
    | ct => exact hm.elim

abbrev relLs (Γ : Ctx) (σ : St) : Rel (List Opn) (List V) := fun H F (as : List Opn) (vs : List V) P => (P = fun _ => False) ∧ as.length = vs.length ∧ ∀ (i : Nat) (a : Opn) (v : V), as[i]? = some a → vs[i]? = some v → relL Γ σ H F a v noF
def tLs (Γ : Ctx) (W : WX) (m : M (List Opn)) : TA := fun σ H Q => G Γ W (relLs Γ σ) m σ H Q
abbrev DLs (X : Cx) (cl : Nat → Addr) (W : WX) (es : List Expr) (m : M (List Opn)) : Prop := PA X es (tLs ⟨X.K, cl⟩ W m)
def oNil : M (List Opn) := pure []
def oCons (m : M Opn) (r : M (List Opn)) : M (List Opn) := do
  let a ← m
  let b ← r
  pure (a :: b)
section
variable {X : Cx} {cl : Nat → Addr} {W : WX} {e : Expr} {es : List Expr} {me : M Opn} {mr : M (List Opn)}
theorem dls_nil : DLs X cl W [] oNil := PA.imp pa_nil fun σ H Q q => by
  obtain ⟨F, env, fp, r, hm⟩ := q
  exact hm [] H F fp noF r ⟨rfl, rfl, fun i a v h => by simp at h⟩ (fun _ z => z.elim) (Ext.emp' (Ext.refl _ _ _))
theorem dls_cons (h1 : DL X cl W e me) (h2 : DLs X cl W es mr) (hs : starEach (e :: es) X.env = (false, eval e X.env) :: starEach es X.env := by rfl) : DLs X cl W (e :: es) (oCons me mr) := by
  refine PA.imp (pa_cons h1 h2 hs) fun σ H Q q => ?_
  have q' : G ⟨X.K, cl⟩ W (relLs ⟨X.K, cl⟩ σ) (me >>= fun a => mr >>= fun b => (pure (a :: b) : M (List Opn))) σ H Q := q
  refine G_bind (rel1 := relL ⟨X.K, cl⟩ σ) (fun _ _ _ _ _ h => h.1) q' fun x H1 F1 e1 fp1 a r1 h1 hm => ?_
  refine ⟨F1, e1, fp1, r1, ?_⟩
  cases ea : mr e1 with
  | ok b e2 =>
    rw [bind_ok ea] at hm
    intro ys H2 F2 fp2 P r2 h2 hd x2
    obtain ⟨rfl, hl, hh⟩ := h2
    refine hm (x :: ys) H2 F2 fp2 noF r2 ⟨rfl, by rw [List.length_cons, List.length_cons, hl], fun i a' v' q1 q2 => ?_⟩ (fun _ z => z.elim) x2
    cases i with
    | zero =>
      rw [List.getElem?_cons_zero] at q1 q2
      cases q1; cases q2
      exact h1.ext x2.emp r1.fo
    | succ i =>
      rw [List.getElem?_cons_succ] at q1 q2
      exact hh i a' v' q1 q2
  | exc y e2 =>
    rw [bind_exc ea] at hm
    exact fun c d H2 F2 fp2 r1 r2 r3 => hm c d H2 F2 fp2 r1 r2 r3
  | bad =>
    rw [bind_bad ea] at hm
    exact hm
end
def inE (as : List Opn) (env : Env) : Env := fun j => match as[j]? with
  | some (.fr d) => some (.v d)
  | some (.pk i) => env i
  | none => none
def placeOf : List Opn → Nat → Option Nat
  | [], _ => none
  | .pk k :: r, i => if k = i then some 0 else (placeOf r i).map (· + 1)
  | .fr _ :: r, i => (placeOf r i).map (· + 1)
def lentOk (B : Nat → Bool) : Nat → List Opn → Bool
  | _, [] => true
  | j, .fr _ :: r => lentOk B (j + 1) r
  | j, .pk i :: r => B j && (placeOf r i).isNone && lentOk B (j + 1) r
def outE (as : List Opn) (env env' : Env) : Env := fun i => match placeOf as i with
  | some j => env' j
  | none => env i
def callEnd (B : Nat → Bool) (n : Nat) (f : M Fl) (as : List Opn) : M T := fun env =>
  if as.length = n ∧ lentOk B 0 as = true then match f (inE as env) with
    | .ok fl env' => match resT fl with
      | some t => .ok t (outE as env env')
      | none => .bad
    | .exc x env' => .exc x (outE as env env')
    | .bad => .bad
  else .bad
def mCall (B : Nat → Bool) (n : Nat) (f : M Fl) (ma : M (List Opn)) : M T := ma >>= callEnd B n f
section
variable {Γ : Ctx} {H H' : Hp} {F F' : Fs} {env env' : Env} {σ : St} {fp fp' : Nat → Fs} {as : List Opn} {vs : List V} {B : Nat → Bool}
theorem place_get : ∀ {as : List Opn} {i j : Nat}, placeOf as i = some j → as[j]? = some (.pk i)
  | [], _, _, h => by cases h
  | .pk k :: r, i, j, h => by
    unfold placeOf at h
    by_cases e : k = i
    · rw [if_pos e] at h; cases h; rw [e]; rfl
    · rw [if_neg e] at h
      obtain ⟨j', h1, rfl⟩ := Option.map_eq_some_iff.mp h
      rw [List.getElem?_cons_succ]
      exact place_get h1
  | .fr _ :: r, i, j, h => by
    unfold placeOf at h
    obtain ⟨j', h1, rfl⟩ := Option.map_eq_some_iff.mp h
    rw [List.getElem?_cons_succ]
    exact place_get h1
theorem lent_B : ∀ {as : List Opn} {k j i : Nat}, lentOk B k as = true → as[j]? = some (.pk i) → B (k + j) = true
  | [], _, _, _, _, h => by simp at h
  | .pk k0 :: r, k, 0, i, h, q => by
    unfold lentOk at h
    simp only [Bool.and_eq_true] at h
    exact h.1.1
  | .fr _ :: r, k, 0, i, h, q => by simp at q
  | .pk k0 :: r, k, j + 1, i, h, q => by
    unfold lentOk at h
    simp only [Bool.and_eq_true] at h
    rw [List.getElem?_cons_succ] at q
    have := lent_B h.2 q
    rw [show k + (j + 1) = k + 1 + j by omega]
    exact this
  | .fr _ :: r, k, j + 1, i, h, q => by
    unfold lentOk at h
    rw [List.getElem?_cons_succ] at q
    have := lent_B h q
    rw [show k + (j + 1) = k + 1 + j by omega]
    exact this
theorem lent_place : ∀ {as : List Opn} {k j i : Nat}, lentOk B k as = true → as[j]? = some (.pk i) → placeOf as i = some j
  | [], _, _, _, _, h => by simp at h
  | .pk k0 :: r, k, 0, i, h, q => by
    simp at q
    unfold placeOf
    rw [if_pos q]
  | .fr _ :: r, k, 0, i, h, q => by simp at q
  | .pk k0 :: r, k, j + 1, i, h, q => by
    unfold lentOk at h
    simp only [Bool.and_eq_true] at h
    rw [List.getElem?_cons_succ] at q
    have := lent_place h.2 q
    unfold placeOf
    by_cases e : k0 = i
    · rw [e, this] at h
      exact Bool.noConfusion h.1.2
    · rw [if_neg e, this]; rfl
  | .fr _ :: r, k, j + 1, i, h, q => by
    unfold lentOk at h
    rw [List.getElem?_cons_succ] at q
    unfold placeOf
    rw [lent_place h q]
    rfl
def inF (as : List Opn) (fp : Nat → Fs) : Nat → Fs := fun j a => ∃ i, as[j]? = some (.pk i) ∧ fp i a
def outF (as : List Opn) (fp fp' : Nat → Fs) : Nat → Fs := fun i => match placeOf as i with
  | some j => fp' j
  | none => fp i
theorem REnv.inE (r : REnv Γ H F env σ fp) (hl : lentOk B 0 as = true) (h : relLs Γ σ H F as vs noF) : REnv Γ H F (inE as env) (vs.map some) (inF as fp) := by
  obtain ⟨_, hlen, hh⟩ := h
  refine ⟨fun j t e => ?_, fun j a e ⟨i, q1, q2⟩ => ?_, fun j k a ⟨i, q1, q2⟩ ⟨i', q3, q4⟩ => ?_, fun j a ⟨i, _, q⟩ => r.nf i a q, r.fd⟩
  · unfold PD.inE at e
    cases ea : as[j]? with
    | none => simp only [ea] at e; cases e
    | some o =>
      have hj := (List.getElem?_eq_some_iff.mp ea).1
      have hv : vs[j]? = some vs[j] := List.getElem?_eq_getElem (by omega)
      have hr := hh j o _ ea hv
      refine ⟨vs[j], by rw [List.getElem?_map, hv]; rfl, ?_⟩
      cases o with
      | fr d =>
        simp only [ea] at e
        cases e
        have : inF as fp j = noF := by
          funext a
          unfold inF
          simp [ea]
        rw [this]
        exact .v hr.2
      | pk i =>
        simp only [ea] at e
        obtain ⟨v, h1, h2⟩ := r.rep i t e
        have hs : σ[i]? = some (some vs[j]) := hr.2
        rw [hs] at h1
        cases h1
        have : inF as fp j = fp i := by
          funext a
          unfold inF
          simp [ea]
        rw [this]
        exact h2
  · unfold PD.inE at e
    simp only [q1] at e
    exact r.emp i a e q2
  · have hi := r.dis i i' a q2 q4
    subst hi
    have a1 := lent_place hl q1
    have a2 := lent_place hl q3
    rw [a1] at a2
    cases a2
    rfl
theorem ow_inF {a : Addr} (h : ow (inF as fp) a) : ow fp a := (let ⟨_, i, _, q⟩ := h; ⟨i, q⟩)
theorem REnv.outE (r : REnv Γ H F env σ fp) (hl : lentOk B 0 as = true) (h : relLs Γ σ H F as vs noF) (r' : REnv Γ H' F' (keepE B env') (vs.map some) (keepF B fp')) (x : Ext H F (ow (inF as fp)) H' F' (ow (keepF B fp'))) :
    REnv Γ H' F' (outE as env env') σ (outF as fp fp') ∧ Ext H F (ow fp) H' F' (ow (outF as fp fp')) ∧ ∀ a, ow (outF as fp fp') a → ow (keepF B fp') a ∨ (ow fp a ∧ ¬ ow (inF as fp) a) := by
  obtain ⟨_, hlen, hh⟩ := h
  have pB : ∀ i j, placeOf as i = some j → B j = true := fun i j e => by have := lent_B hl (place_get e); simpa using this
  have kF : ∀ i j, placeOf as i = some j → keepF B fp' j = fp' j := fun i j e => by funext a; unfold keepF; simp [pB i j e]
  have nIn : ∀ i a, placeOf as i = none → fp i a → ¬ ow (inF as fp) a := fun i a e q ⟨j, i', q1, q2⟩ => by
    have := r.dis i i' a q q2
    subst this
    rw [lent_place hl q1] at e
    cases e
  have sep : ∀ i a, placeOf as i = none → fp i a → ¬ ow (keepF B fp') a := fun i a e q z => by
    rcases x.own a z with z | z
    · exact nIn i a e q z
    · obtain ⟨o, w⟩ := r.dom ⟨i, q⟩
      rw [z] at w; cases w
  have wh : ∀ a, ow (outF as fp fp') a → ow (keepF B fp') a ∨ (ow fp a ∧ ¬ ow (inF as fp) a) := fun a ⟨i, q⟩ => by
    unfold outF at q
    cases e : placeOf as i with
    | some j => rw [e] at q; exact .inl ⟨j, by rw [kF i j e]; exact q⟩
    | none => rw [e] at q; exact .inr ⟨⟨i, q⟩, nIn i a e q⟩
  refine ⟨⟨fun i t e => ?_, fun i a e => ?_, fun i j a h1 h2 => ?_, fun i a h => ?_, r'.fd⟩, ⟨fun a o q n => x.keep a o q fun z => n (ow_inF z), x.mono, fun a h => ?_, fun a h => ?_, x.dom⟩, wh⟩
  · unfold PD.outE at e
    unfold outF
    cases ep : placeOf as i with
    | some j =>
      rw [ep] at e
      have e1 : keepE B env' j = some t := by unfold keepE; rw [if_pos (pB i j ep)]; exact e
      obtain ⟨v, hv, ht⟩ := r'.rep j t e1
      rw [kF i j ep] at ht
      have ea := place_get ep
      have hj := (List.getElem?_eq_some_iff.mp ea).1
      have hvj : vs[j]? = some vs[j] := List.getElem?_eq_getElem (by omega)
      have hs : σ[i]? = some (some vs[j]) := (hh j _ _ ea hvj).2
      rw [List.getElem?_map, hvj] at hv
      cases hv
      exact ⟨_, hs, ht⟩
    | none =>
      rw [ep] at e
      obtain ⟨v, hv, ht⟩ := r.rep i t e
      exact ⟨v, hv, ht.ext x (fun a f q => r.fo a f (ow_inF q)) fun a q => nIn i a ep q⟩
  · unfold PD.outE at e
    unfold outF
    cases ep : placeOf as i with
    | some j =>
      rw [ep] at e
      have e1 : keepE B env' j = none := by unfold keepE; rw [if_pos (pB i j ep)]; exact e
      have := r'.emp j a e1
      rw [kF i j ep] at this
      exact this
    | none => rw [ep] at e; exact r.emp i a e
  · unfold outF at h1 h2
    cases ep : placeOf as i with
    | some ji =>
      rw [ep] at h1
      cases eq : placeOf as j with
      | some jj =>
        rw [eq] at h2
        have := r'.dis ji jj a (by rw [kF i ji ep]; exact h1) (by rw [kF j jj eq]; exact h2)
        subst this
        have a1 := place_get ep
        have a2 := place_get eq
        rw [a1] at a2
        cases a2
        rfl
      | none =>
        rw [eq] at h2
        exact (sep j a eq h2 ⟨ji, by rw [kF i ji ep]; exact h1⟩).elim
    | none =>
      rw [ep] at h1
      cases eq : placeOf as j with
      | some jj =>
        rw [eq] at h2
        exact (sep i a ep h1 ⟨jj, by rw [kF j jj eq]; exact h2⟩).elim
      | none =>
        rw [eq] at h2
        exact r.dis i j a h1 h2
  · intro z
    rcases wh a ⟨i, h⟩ with ⟨j, q⟩ | ⟨q1, q2⟩
    · exact r'.nf j a q z
    · rcases x.frz a z with w | w | w | w
      · exact r.fo a w q1
      · exact q2 w
      · obtain ⟨o, e⟩ := r.dom q1
        rw [w] at e; cases e
      · exact r.nt q1 w
  · rcases wh a h with q | q
    · rcases x.own a q with z | z
      · exact .inl (ow_inF z)
      · exact .inr z
    · exact .inl q.1
  · rcases x.frz a h with q | q
    · exact .inl q
    · exact .inr (q.imp (fun z => ow_inF z) id)
end
section
variable {X : Cx} {cl : Nat → Addr} {W : WX} {k n : Nat} {f : Addr} {fd : FuncData} {ps : List Str} {x : Str} {e : Expr} {es : List Expr} {p pos : Pos} {B : Nat → Bool} {m : M Fl} {ma : M (List Opn)}
theorem do_call (F : DFn X.prog X.w X.K X.mg X.base k f fd ps (spD ⟨X.K, cl⟩ B n m)) (hr : Room k X.A) (hgd : X.A.guards = some []) (hg : Gl X x) (hm : X.mg x = some (.ref f)) (hk : PySem.W.keepIn X.K (.ref f) = true) (hb : Binds X.K fd ps [])
    (tk : Takes X W) (ha : DLs X cl W (e :: es) ma) (hdb : (x == ("__debug__" : Str)) = false := by decide) (he : starEach (e :: es) X.env = (false, eval e X.env) :: starEach es X.env := by rfl)
    (hpl : (backTo pos (starEach es X.env)).any (·.1) = false := by rfl) : DO X cl W (.Call (.Name x p) (e :: es) [] pos) (mCall B n m ma) := by
  refine PE.imp (pe_dfn (E := WE W) F hr hgd hg hm hk hb .nil (passAt tk) ha hdb he hpl) fun σ H Q q => ?_
  have q : G ⟨X.K, cl⟩ W (relT ⟨X.K, cl⟩) (mCall B n m ma) σ H Q := q
  unfold mCall at q
  refine G_bind (rel1 := relLs ⟨X.K, cl⟩ σ) (fun _ _ _ _ _ h => h.1) q fun vs H1 F1 e1 fp1 as r hrel hm => ?_
  unfold callEnd at hm
  by_cases hc : as.length = n ∧ lentOk B 0 as = true
  · rw [if_pos hc] at hm
    have rin := r.inE (vs := vs) hc.2 hrel
    rw [List.append_nil]
    refine ⟨by rw [← hrel.2.1]; exact hc.1, F1, inE as e1, inF as fp1, rin, ?_⟩
    cases em : m (inE as e1) with
    | bad => simp only [em] at hm; exact hm
    | exc y e2 =>
      simp only [em] at hm
      show PostC _ _ _ _ _ _ _ _ _
      intro cls d H' F' fp' r' hx x
      obtain ⟨r2, x2, _⟩ := r.outE (vs := vs) hc.2 hrel r' x
      exact hm cls d H' F' _ r2 hx x2
    | ok fl e2 =>
      simp only [em] at hm
      cases et : resT fl with
      | none => simp only [et] at hm; exact hm.elim
      | some t =>
        simp only [et] at hm
        unfold PostC
        simp only [et]
        intro v H' F' fp' P r' ht hd x
        obtain ⟨r2, x2, wh⟩ := r.outE (vs := vs) hc.2 hrel r' (ext_of x fun _ z => .inr z)
        refine hm v H' F' _ P r2 ht (fun y hy => ⟨fun z => ?_, (hd y hy).2⟩) ⟨x2.keep, x2.mono, fun a z => ?_, x2.frz, x2.dom⟩
        · rcases wh y z with z | ⟨z1, z2⟩
          · exact (hd y hy).1 z
          · rcases x.own y (.inl hy) with w | w
            · exact z2 w
            · obtain ⟨o, e⟩ := r.dom z1
              rw [w] at e; cases e
        · rcases z with z | z
          · rcases x.own a (.inl z) with w | w
            · exact .inl (ow_inF w)
            · exact .inr w
          · exact x2.own a z
  · rw [if_neg hc] at hm
    exact hm.elim
def mFz (m : M T) : M PyData := m >>= fun t => lift t.fz
theorem de_ofO {mt : M T} (h : DO X cl W e mt) : DE X cl W e (mFz mt) := PE.imp h fun σ H Q q => by
  obtain ⟨F, env, fp, r, hm⟩ := q
  refine ⟨F, env, fp, r, ?_⟩
  unfold mFz at hm
  cases e : mt env with
  | bad => rw [bind_bad e] at hm; exact hm
  | exc y e1 => rw [bind_exc e] at hm; exact hm
  | ok t e1 =>
    rw [bind_ok e] at hm
    cases et : t.fz with
    | none => rw [et] at hm; exact hm.elim
    | some d =>
      rw [et] at hm
      intro v H1 F1 fp1 P r1 ht hd x
      have r2 := r1.addF (P := P) (fun a h => (hd a h).1) fun a h => (hd a h).2.2
      refine hm v H1 (fun a => F1 a ∨ P a) fp1 noF r2 ⟨RT.fz (fun _ z => .inl z) ht (fun _ z => .inr z) d et, rfl⟩ (fun _ z => z.elim) (Ext.emp' ⟨x.keep, fun a z => .inl (x.mono a z), fun a z => x.own a (.inr z), fun a z => ?_, fun _ => r2.fd⟩)
      rcases z with z | z
      · exact x.frz a z
      · rcases x.own a (.inl z) with q | q
        · exact .inr (.inl q)
        · exact .inr (.inr (.inl q))
end
end PD

namespace PD
open PySem PySem.Spec PyProof.Rows L2

section
variable {X : Cx} {cl : Nat → Addr} {W : WX} {e : Expr} {es : List Expr} {me : M PyData} {mt : M T} {ms : M (List T)} {pos : Pos} {B : Nat → Bool}
def mV (m : M PyData) : M T := m >>= fun d => pure (.v d)
theorem do_ofE (h : DE X cl W e me) : DO X cl W e (mV me) := PE.imp h fun σ H Q q => by
  have q : G ⟨X.K, cl⟩ W (relT ⟨X.K, cl⟩) (me >>= fun d => (pure (.v d) : M T)) σ H Q := q
  exact G_bind (rel1 := relE ⟨X.K, cl⟩) (fun _ _ _ _ _ h => h.2) q fun b H1 F1 e1 fp1 a r h hm =>
    hm b H1 F1 fp1 noF r (.v h.1) (fun _ z => z.elim) (Ext.emp' (Ext.refl _ _ _))
abbrev relTs (Γ : Ctx) : Rel (List T) (List V) := fun H F ts vs P => RTs Γ H F ts vs P
abbrev DTL (X : Cx) (cl : Nat → Addr) (W : WX) (es : List Expr) (m : M (List T)) : Prop := PA X es (fun σ H Q => G ⟨X.K, cl⟩ W (relTs ⟨X.K, cl⟩) m σ H Q)
def tNl : M (List T) := pure []
def tCn (m : M T) (r : M (List T)) : M (List T) := do
  let a ← m
  let b ← r
  pure (a :: b)
theorem dtl_nil : DTL X cl W [] tNl := PA.imp pa_nil fun σ H Q q => by
  obtain ⟨F, env, fp, r, hm⟩ := q
  exact hm [] H F fp noF r .nil (fun _ z => z.elim) (Ext.emp' (Ext.refl _ _ _))
theorem held {Γ : Ctx} {H H' : Hp} {F F' P P' : Fs} {env : Env} {σ : St} {fp fp' : Nat → Fs} {t : T} {v : V} (r : REnv Γ H F env σ fp) (h : RT Γ H F t v P) (hd : ∀ x, P x → ¬ ow fp x ∧ ¬ F x ∧ ∃ o, H x = some o)
    (x : Ext H F (ow fp) H' F' (fun a => P' a ∨ ow fp' a)) : RT Γ H' F' t v P ∧ ∀ a, P a → ¬ P' a ∧ ¬ ow fp' a ∧ ¬ F' a ∧ ∃ o, H' a = some o := by
  refine ⟨h.ext x (fun a f => r.fo a f) fun a p => (hd a p).1, fun a p => ?_⟩
  obtain ⟨h1, h2, o, h3⟩ := hd a p
  have no : ¬ (P' a ∨ ow fp' a) := fun z => by
    rcases x.own a z with z | z
    · exact h1 z
    · rw [h3] at z; cases z
  refine ⟨fun z => no (.inl z), fun z => no (.inr z), fun z => ?_, o, x.keep a o h3 h1⟩
  rcases x.frz a z with q | q | q | q
  · exact h2 q
  · exact h1 q
  · rw [h3] at q; cases q
  · exact h.nt a p q
theorem dtl_cons (h1 : DO X cl W e mt) (h2 : DTL X cl W es ms) (hs : starEach (e :: es) X.env = (false, eval e X.env) :: starEach es X.env := by rfl) : DTL X cl W (e :: es) (tCn mt ms) := by
  refine PA.imp (pa_cons h1 h2 hs) fun σ H Q q => ?_
  obtain ⟨F, env, fp, r, hm⟩ := q
  refine ⟨F, env, fp, r, ?_⟩
  unfold tCn at hm
  cases em : mt env with
  | bad => rw [bind_bad em] at hm; exact hm
  | exc y e1 => rw [bind_exc em] at hm; exact hm
  | ok t e1 =>
    rw [bind_ok em] at hm
    intro v H1 F1 fp1 P1 r1 ht hd x1
    refine ⟨F1, e1, fp1, r1, ?_⟩
    cases ea : ms e1 with
    | bad => rw [bind_bad ea] at hm; exact hm
    | exc y e2 =>
      rw [bind_exc ea] at hm
      exact fun c d H2 F2 fp2 r1 r2 r3 => hm c d H2 F2 fp2 r1 r2 ((ext_of x1 fun _ z => .inr z).trans r3)
    | ok b e2 =>
      rw [bind_ok ea] at hm
      intro ys H2 F2 fp2 P2 r2 h2 hd2 x2
      obtain ⟨ht2, hk⟩ := held r1 ht hd x2
      have y := (ext_of x1 fun _ z => .inr z).trans x2
      refine hm (v :: ys) H2 F2 fp2 (fun a => P1 a ∨ P2 a) r2 (.cons ht2 h2 fun a p => (hk a p).1) (fun a p => ?_) ⟨y.keep, y.mono, fun a z => ?_, y.frz, y.dom⟩
      · rcases p with p | p
        · exact (hk a p).2
        · exact hd2 a p
      · rcases z with (z | z) | z
        · exact x1.own a (.inl z)
        · exact y.own a (.inl z)
        · exact y.own a (.inr z)
def mLstO (ms : M (List T)) : M T := ms >>= fun ts => lift (if ts.length ≤ sizeLine then some (.lst ts) else none)
theorem do_lst (h : DTL X cl W es ms) : DO X cl W (.List es pos) (mLstO ms) := PE.imp (pe_lst h) fun σ H Q q => by
  obtain ⟨F, env, fp, r, hm⟩ := q
  refine ⟨F, env, fp, r, ?_⟩
  unfold mLstO at hm
  cases em : ms env with
  | bad => rw [bind_bad em] at hm; exact hm
  | exc y e1 => rw [bind_exc em] at hm; exact hm
  | ok ts e1 =>
    rw [bind_ok em] at hm
    by_cases hc : ts.length ≤ sizeLine
    · rw [if_pos hc] at hm
      intro vs H1 F1 fp1 P r1 ht hd x
      refine ⟨by rw [← ht.length]; exact hc, fun p hp => ?_⟩
      have k : ∀ a o, H1 a = some o → upd H1 p (.lst vs) a = some o := fun a o e => by rw [upd_ne (ne_of_none e hp)]; exact e
      have nP : ¬ P p := fun z => by obtain ⟨_, _, o, e⟩ := hd p z; rw [hp] at e; cases e
      have nF : ¬ F1 p := fun z => by obtain ⟨o, e⟩ := r1.fd p z; rw [hp] at e; cases e
      have nO : ¬ ow fp1 p := fun z => by obtain ⟨o, e⟩ := r1.dom z; rw [hp] at e; cases e
      have ht2 : RTs ⟨X.K, cl⟩ (upd H1 p (.lst vs)) F1 ts vs P := ht.keep (fun a o _ e => k a o e) (fun _ z => z) fun a o _ e => k a o e
      have r2 : REnv ⟨X.K, cl⟩ (upd H1 p (.lst vs)) F1 e1 σ fp1 := ⟨fun i t e => (let ⟨v, h1, h2⟩ := r1.rep i t e; ⟨v, h1, h2.keep (fun a o _ e => k a o e) (fun _ z => z) fun a o _ e => k a o e⟩), r1.emp, r1.dis, r1.nf, fun a f => (let ⟨o, e⟩ := r1.fd a f; ⟨o, k a o e⟩)⟩
      refine hm (.ref p) _ F1 fp1 (fun b => b = p ∨ P b) r2 (.lst upd_same ht2 nP) (fun a z => ?_) ⟨fun a o e n => k a o (x.keep a o e n), x.mono, fun a z => ?_, x.frz, fun fd a z => (let ⟨o, e⟩ := x.dom fd a z; ⟨o, k a o e⟩)⟩
      · rcases z with z | z
        · rw [z]; exact ⟨nO, nF, _, upd_same⟩
        · obtain ⟨a1, a2, o, a3⟩ := hd a z
          exact ⟨a1, a2, o, k a o a3⟩
      · rcases z with (z | z) | z
        · rw [z]
          cases e : H p with
          | none => exact .inr rfl
          | some o =>
            by_cases ho : ow fp p
            · exact .inl ho
            · have := x.keep p o e ho
              rw [hp] at this; cases this
        · exact x.own a (.inl z)
        · exact x.own a (.inr z)
    · rw [if_neg hc] at hm; exact hm.elim
theorem fin_own {Γ : Ctx} {σ : St} {H : Hp} {F : Fs} {env : Env} {fp : Nat → Fs} {Q : VK} {p : Addr} {o : HO} {t : T} (hm : Post Γ W (relT Γ) σ H F fp Q (.ok t env)) (r : REnv Γ H F env σ fp) (hp : H p = none) (h : RT Γ (upd H p o) F t (.ref p) (fun a => a = p)) : Q (.ref p) (upd H p o) := by
  have k : ∀ a u, H a = some u → upd H p o a = some u := fun a u e => by rw [upd_ne (ne_of_none e hp)]; exact e
  have nF : ¬ F p := fun z => by obtain ⟨o, e⟩ := r.fd p z; rw [hp] at e; cases e
  have nO : ¬ ow fp p := fun z => by obtain ⟨o, e⟩ := r.dom z; rw [hp] at e; cases e
  exact hm (.ref p) _ F fp (fun a => a = p) ⟨fun i t e => (let ⟨v, h1, h2⟩ := r.rep i t e; ⟨v, h1, h2.keep (fun a o _ e => k a o e) (fun _ z => z) fun a o _ e => k a o e⟩), r.emp, r.dis, r.nf, fun a f => (let ⟨o, e⟩ := r.fd a f; ⟨o, k a o e⟩)⟩ h
    (fun a z => by rw [z]; exact ⟨nO, nF, _, upd_same⟩) ⟨fun a u e _ => k a u e, fun _ z => z, fun a z => z.elim (fun z => by rw [z]; exact .inr hp) .inl, fun _ z => .inl z, fun fd a z => (let ⟨o, e⟩ := fd a z; ⟨o, k a o e⟩)⟩
theorem rts_v {Γ : Ctx} {H : Hp} {F : Fs} : ∀ {ds : List PyData} {vs : List V}, FRs Γ.K H F ds vs → RTs Γ H F (ds.map T.v) vs noF
  | _, _, .nil => .nil
  | _, _, .cons h t => by
    have := RTs.cons (RT.v h) (rts_v t) (fun _ z => z.elim)
    have e : (fun b : Addr => False ∨ noF b) = noF := by funext b; simp
    rw [e] at this
    exact this
theorem rt_lstv {Γ : Ctx} {H : Hp} {F : Fs} {ds : List PyData} {vs : List V} {p : Addr} (h : FRs Γ.K H F ds vs) (hp : H p = some (.lst vs)) : RT Γ H F (.lst (ds.map T.v)) (.ref p) (fun a => a = p) := by
  have := RT.lst hp (rts_v h) (fun z => z)
  have e : (fun b : Addr => b = p ∨ noF b) = fun a => a = p := by funext b; simp
  rw [e] at this
  exact this
theorem FRs.newP {K : PySem.W.Frag} {H : Hp} {F : Fs} {ds : List PyData} {vs : List V} {p : Addr} {o : HO} (h : FRs K H F ds vs) (hp : H p = none) : FRs K (upd H p o) F ds vs :=
  h.keep (fun a u _ e => by rw [upd_ne (ne_of_none e hp)]; exact e) fun _ z => z
def mDT0 : M T := pure (.dT [] [])
def mDK0 : M T := pure (.dK [] [])
theorem do_dT0 : DO X cl W (.Dict [] [] pos) mDT0 := PE.imp pe_dnewT fun σ H Q q => by
  obtain ⟨F, env, fp, r, hm⟩ := q
  intro p hp
  refine fin_own hm r hp ?_
  have := RT.dT (Γ := ⟨X.K, cl⟩) (F := F) (H := upd H p (.dT [])) (a := p) (ks := []) (vs := []) (ts := []) rfl upd_same .nil (fun z => z)
  have e : (fun b : Addr => b = p ∨ False) = fun a => a = p := by funext b; simp
  rw [e] at this
  exact this
theorem post_liftG {α β : Type} {Γ : Ctx} {rel : Rel α β} {σ : St} {H : Hp} {F : Fs} {fp : Nat → Fs} {Q : β → Hp → Prop} {o : Option α} {env : Env} (h : Post Γ W rel σ H F fp Q (lift o env)) : ∃ c, o = some c ∧ Post Γ W rel σ H F fp Q (.ok c env) := by
  cases o with
  | none => exact h.elim
  | some c => exact ⟨c, rfl, h⟩
def ownL : PyData → Option T
  | .list l => some (.lst (l.map T.v))
  | _ => none
def mUnO (f : PyData → Option PyData) (m : M PyData) : M T := m >>= fun d => lift ((f d).bind ownL)
theorem do_listRg1 {a : Expr} {m : M PyData} {p p2 pos pos2 : Pos} (hc : X.calm = true) (h : DE X cl W a m) (hg : Gl X "list") (hm : X.mg "list" = none) (hg2 : Gl X "range") (hm2 : X.mg "range" = none)
    (na : starEach [a] X.env = (false, eval a X.env) :: starEach [] X.env := by rfl)
    (na2 : starEach [.Call (.Name "range" p2) [a] [] pos2] X.env = (false, eval (.Call (.Name "range" p2) [a] [] pos2) X.env) :: starEach [] X.env := by rfl) :
    DO X cl W (.Call (.Name "list" p) [.Call (.Name "range" p2) [a] [] pos2] [] pos) (mUnO lrg1 m) := by
  refine PE.imp (pe_listRg hc hg hm (prg_1 hg2 hm2 h na) na2) fun σ H Q q => G_mono (G_one (rel := relT ⟨X.K, cl⟩) (k := fun a => lift ((lrg1 a).bind ownL)) q) fun x H1 z => ?_
  obtain ⟨F, env, fp, d, r1, h1, hm⟩ := z
  obtain ⟨t, e, hm⟩ := post_liftG hm
  · obtain ⟨c, e1, e2⟩ := Option.bind_eq_some_iff.mp e
    cases h1 with
    | int b =>
      obtain ⟨g1, rfl⟩ := rgL_some e1
      cases e2
      exact ⟨b, rfl, g1, fun q hq => fin_own hm r1 hq (rt_lstv ((frs_ints _).newP hq) upd_same)⟩
    | _ => cases e1
theorem do_listOf {a : Expr} {m : M PyData} {p pos : Pos} (h : DE X cl W a m) (hg : Gl X "list") (hm : X.mg "list" = none) (he : starEach [a] X.env = (false, eval a X.env) :: starEach [] X.env := by rfl) (hpl : (backTo pos (starEach [] X.env)).any (·.1) = false := by rfl) :
    DO X cl W (.Call (.Name "list" p) [a] [] pos) (mUnO (fun d => listF [d]) m) := by
  refine PE.imp (pe_callTy call_list_of hg hm (by decide +kernel) (pa_cons h pa_nil he) (by decide) (by decide) he hpl) fun σ H Q q => G_mono (G_one (rel := relT ⟨X.K, cl⟩) (k := fun a => lift ((listF [a]).bind ownL)) q) fun x H1 z => ?_
  obtain ⟨F, env, fp, d, r1, h1, hm⟩ := z
  obtain ⟨t, e, hm⟩ := post_liftG hm
  · obtain ⟨c, e1, e2⟩ := Option.bind_eq_some_iff.mp e
    cases h1 with
    | lst fa hh rr =>
      cases e1; cases e2
      exact ⟨_, _, rfl, .inl (SqL.of hh), fun q hq => fin_own hm r1 hq (rt_lstv (rr.newP hq) upd_same)⟩
    | tup fa hh rr =>
      cases e1; cases e2
      exact ⟨_, _, rfl, .inr (SqT.of hh), fun q hq => fin_own hm r1 hq (rt_lstv (rr.newP hq) upd_same)⟩
    | _ => cases e1
end

def setAll : List Nat → List T → Env → Option Env
  | [], [], e => some e
  | i :: is, t :: ts, e => setAll is ts (setE e i (some t))
  | _, _, _ => none
def stAll : List Nat → List V → St → St
  | i :: is, v :: vs, σ => stAll is vs (σ.set i (some v))
  | _, _, σ => σ
def parEnd (is : List Nat) (ts : List T) : M Fl := fun env => match setAll is ts env with
  | some e => .ok .nx e
  | none => .bad
def sPar (is : List Nat) (ms : M (List T)) : M Fl := ms >>= parEnd is
theorem setAll_ok {Γ : Ctx} {H : Hp} {F : Fs} {B : Nat → Bool} : ∀ (is : List Nat) {ts : List T} {vs : List V} {P : Fs} {env env' : Env} {σ : St} {fp : Nat → Fs}, REnv Γ H F env σ fp → RTs Γ H F ts vs P → (∀ a, P a → ¬ ow fp a ∧ ¬ F a ∧ ∃ o, H a = some o) →
    (∀ i, i ∈ is → i < σ.length ∧ B i = false) → setAll is ts env = some env' → ∃ fp', REnv Γ H F env' (stAll is vs σ) fp' ∧ (stAll is vs σ).length = σ.length ∧ (∀ j, B j = true → (stAll is vs σ)[j]? = σ[j]?) ∧ ∀ a, ow fp' a → P a ∨ ow fp a
  | [], _, _, _, _, _, σ, fp, r, h, hd, hi, e => by
    cases h with
    | nil =>
      cases e
      exact ⟨fp, r, rfl, fun _ _ => rfl, fun a z => .inr z⟩
    | cons _ _ _ => cases e
  | i :: is, _, _, _, env, env', σ, fp, r, h, hd, hi, e => by
    cases h with
    | nil => cases e
    | @cons t ts v vs P Q ht hts dis =>
      obtain ⟨r2, l2, b2⟩ := Arr.set (B := B) r (hi i List.mem_cons_self).1 (hi i List.mem_cons_self).2 ht fun a p => hd a (.inl p)
      have hd2 : ∀ a, Q a → ¬ ow (setF fp i P) a ∧ ¬ F a ∧ ∃ o, H a = some o := fun a q => ⟨fun z => by
        rcases ow_setF z with z | z
        · exact dis a z q
        · exact (hd a (.inr q)).1 z, (hd a (.inr q)).2⟩
      obtain ⟨fp', g1, g2, g3, g4⟩ := setAll_ok is r2 hts hd2 (fun j hj => by rw [l2]; exact hi j (List.mem_cons_of_mem _ hj)) e
      refine ⟨fp', g1, g2.trans l2, fun j hj => (g3 j hj).trans (b2 j hj), fun a z => ?_⟩
      rcases g4 a z with z | z
      · exact .inl (.inr z)
      · rcases ow_setF z with z | z
        · exact .inl (.inl z)
        · exact .inr z
section
variable {X : Cx} {cl : Nat → Addr} {W : WX} {ms : M (List T)} {pos : Pos} {B : Nat → Bool}
theorem par_use {Γ : Ctx} {is : List Nat} {σ : St} {H : Hp} {D : Ends} (hi : ∀ i, i ∈ is → i < σ.length ∧ B i = false) (q : tS Γ W B (sPar is ms) D σ H) :
    G Γ W (relTs Γ) ms σ H fun vs H1 => vs.length = is.length ∧ D.nx (stAll is vs σ) H1 := by
  refine G_stm (rel := relTs Γ) (k := parEnd is) q fun F fp vs H' F' env' fp' ts P r1 h1 hd x hm => ?_
  unfold parEnd at hm
  cases e : setAll is ts env' with
  | none => simp only [e] at hm; exact hm.elim
  | some e2 =>
    simp only [e] at hm
    obtain ⟨fp2, g1, g2, g3, g4⟩ := setAll_ok is r1 h1 hd hi e
    refine ⟨?_, hm _ H' F' fp2 ⟨g1, fun _ z => z.elim, g2, g3, Ext.emp' (ext_of x g4)⟩⟩
    rw [← h1.length]
    clear hm g1 g2 g3 g4 hd hi q x
    have : ∀ (is : List Nat) (ts : List T) (e1 e2 : Env), setAll is ts e1 = some e2 → ts.length = is.length := fun is => by
      induction is with
      | nil => intro ts e1 e2 h; cases ts <;> first | rfl | cases h
      | cons i is ih =>
        intro ts e1 e2 h
        cases ts with
        | nil => cases h
        | cons t ts => rw [List.length_cons, List.length_cons, ih ts _ _ h]
    exact this _ _ _ _ e
theorem ds_par {i j : Nat} {x y : Str} {a b : Expr} {px py pt : Pos} {kt k2 pt2} (hc : X.calm = true) (hN : X.N.Nodup) (hi : X.N[i]? = some x) (hj : X.N[j]? = some y) (hBi : B i = false) (hBj : B j = false) (hij : i ≠ j)
    (hx : X.env.scope.names.lookup x = some .local) (hy : X.env.scope.names.lookup y = some .local) (ha : DTL X cl W [a, b] ms)
    (hw : swappedStores [.Tuple [.Name x px, .Name y py] kt pt] (.Tuple [a, b] k2 pt2) X.env = pure (some [x, y]))
    (hs : swapsWithSole [.Tuple [.Name x px, .Name y py] kt pt] (.Tuple [a, b] k2 pt2) pos.line X.env = pure false := by rfl) :
    DS X cl W B (.Assign [.Tuple [.Name x px, .Name y py] kt pt] (.Tuple [a, b] k2 pt2) pos) (sPar [i, j] ms) :=
  PS.impL (ps_par hc hN hi hj hij hx hy ha hw hs) fun D σ H hl q => G_mono (par_use (fun l h => by
    simp only [List.mem_cons, List.not_mem_nil, or_false] at h
    rcases h with h | h
    · subst h; exact ⟨by rw [hl]; exact (List.getElem?_eq_some_iff.mp hi).1, hBi⟩
    · subst h; exact ⟨by rw [hl]; exact (List.getElem?_eq_some_iff.mp hj).1, hBj⟩) q) fun vs H1 z => by
    match vs, z with
    | [v, w], ⟨_, z⟩ => exact ⟨v, w, rfl, z⟩
theorem ds_par3 {i j l : Nat} {x y z : Str} {a b c : Expr} {px py pz pt pos : Pos} {kt k2 pt2} (hc : X.calm = true) (hN : X.N.Nodup) (hi : X.N[i]? = some x) (hj : X.N[j]? = some y) (hl : X.N[l]? = some z) (hBi : B i = false) (hBj : B j = false) (hBl : B l = false) (hij : i ≠ j) (hil : i ≠ l) (hjl : j ≠ l)
    (hx : X.env.scope.names.lookup x = some .local) (hy : X.env.scope.names.lookup y = some .local) (hz : X.env.scope.names.lookup z = some .local) (ha : DTL X cl W [a, b, c] ms)
    (hw : swappedStores [.Tuple [.Name x px, .Name y py, .Name z pz] kt pt] (.Tuple [a, b, c] k2 pt2) X.env = pure (some [x, y, z]))
    (hs : swapsWithSole [.Tuple [.Name x px, .Name y py, .Name z pz] kt pt] (.Tuple [a, b, c] k2 pt2) pos.line X.env = pure false := by rfl) :
    DS X cl W B (.Assign [.Tuple [.Name x px, .Name y py, .Name z pz] kt pt] (.Tuple [a, b, c] k2 pt2) pos) (sPar [i, j, l] ms) :=
  PS.impL (ps_par3 hc hN hi hj hl hij hil hjl hx hy hz ha hw hs) fun D σ H hlen q => G_mono (par_use (fun l' h => by
    simp only [List.mem_cons, List.not_mem_nil, or_false] at h
    rcases h with h | h | h
    · subst h; exact ⟨by rw [hlen]; exact (List.getElem?_eq_some_iff.mp hi).1, hBi⟩
    · subst h; exact ⟨by rw [hlen]; exact (List.getElem?_eq_some_iff.mp hj).1, hBj⟩
    · subst h; exact ⟨by rw [hlen]; exact (List.getElem?_eq_some_iff.mp hl).1, hBl⟩) q) fun vs H1 z => by
    match vs, z with
    | [u, v, w], ⟨_, z⟩ => exact ⟨u, v, w, rfl, z⟩
end

section
variable {Γ : Ctx} {H : Hp} {F : Fs} {env : Env} {σ : St} {fp : Nat → Fs} {i : Nat} {a : Addr} {o : HO} {t t' : T} {v : V} {P P' : Fs}
theorem REnv.upd (r : REnv Γ H F env σ fp) (hv : σ[i]? = some (some v)) (ha : fp i a) (ht : RT Γ (upd H a o) F t' v P') (hP : ∀ x, P' x → fp i x ∨ (P x ∧ ¬ ow fp x ∧ ¬ F x)) : REnv Γ (L2.upd H a o) F (setE env i (some t')) σ (setF fp i P') := by
  have nF : ¬ F a := r.nf i a ha
  have kF : ∀ x u, F x → H x = some u → L2.upd H a o x = some u := fun x u f e => by rw [upd_ne (fun z => nF (by rw [← z]; exact f))]; exact e
  refine ⟨fun j u e => ?_, fun j x e => ?_, fun j k x h1 h2 => ?_, fun j x h => ?_, fun x f => (let ⟨u, e⟩ := r.fd x f; ⟨u, kF x u f e⟩)⟩
  · by_cases ej : j = i
    · subst ej
      rw [setE_same] at e
      cases e
      rw [setF_same]
      exact ⟨v, hv, ht⟩
    · rw [setE_ne ej] at e
      rw [setF_ne ej]
      obtain ⟨w, hw, hu⟩ := r.rep j u e
      exact ⟨w, hw, hu.keep kF (fun _ z => z) fun x u q e => by rw [upd_ne (fun z => ej (r.dis j i a (by rw [← z]; exact q) ha))]; exact e⟩
  · by_cases ej : j = i
    · subst ej; rw [setE_same] at e; cases e
    · rw [setE_ne ej] at e; rw [setF_ne ej]; exact r.emp j x e
  · by_cases ej : j = i
    · by_cases ek : k = i
      · rw [ej, ek]
      · subst ej
        rw [setF_same] at h1; rw [setF_ne ek] at h2
        rcases hP x h1 with z | ⟨_, z, _⟩
        · exact r.dis j k x z h2
        · exact (z ⟨k, h2⟩).elim
    · by_cases ek : k = i
      · subst ek
        rw [setF_ne ej] at h1; rw [setF_same] at h2
        rcases hP x h2 with z | ⟨_, z, _⟩
        · exact r.dis j k x h1 z
        · exact (z ⟨j, h1⟩).elim
      · rw [setF_ne ej] at h1; rw [setF_ne ek] at h2; exact r.dis j k x h1 h2
  · by_cases ej : j = i
    · subst ej
      rw [setF_same] at h
      rcases hP x h with z | ⟨_, _, z⟩
      · exact r.nf j x z
      · exact z
    · rw [setF_ne ej] at h; exact r.nf j x h
theorem ext_upd {H0 : Hp} {F0 O0 : Fs} (r : REnv Γ H F env σ fp) (x : Ext H0 F0 O0 H F (fun x => P x ∨ ow fp x)) (ha : fp i a) (hP : ∀ x, P' x → fp i x ∨ (P x ∧ ¬ ow fp x ∧ ¬ F x)) : Ext H0 F0 O0 (L2.upd H a o) F (ow (setF fp i P')) := by
  refine ⟨fun b u e n => ?_, x.mono, fun b h => ?_, x.frz, fun fd b f => ?_⟩
  · have ne : b ≠ a := fun z => by
      rw [z] at e n
      rcases x.own a (.inr ⟨i, ha⟩) with q | q
      · exact n q
      · rw [e] at q; cases q
    rw [upd_ne ne]
    exact x.keep b u e n
  · rcases ow_setF h with z | z
    · rcases hP b z with z | ⟨z, _, _⟩
      · exact x.own b (.inr ⟨i, z⟩)
      · exact x.own b (.inl z)
    · exact x.own b (.inr z)
  · obtain ⟨u, e⟩ := x.dom fd b f
    exact ⟨u, by rw [upd_ne (fun z => r.nf i a ha (by rw [← z]; exact f))]; exact e⟩
theorem RTs.rootw {ts : List T} {vs : List V} (h : RTs Γ H F ts vs P) (nP : ¬ P a) (nF : ¬ F a) : RTs Γ (L2.upd H a o) F ts vs P :=
  h.keep (fun b u f e => by rw [upd_ne (fun z => nF (by rw [← z]; exact f))]; exact e) (fun _ z => z) fun b u q e => by rw [upd_ne (fun z => nP (by rw [← z]; exact q))]; exact e
theorem RT.rootw {t : T} {v : V} (h : RT Γ H F t v P) (nP : ¬ P a) (nF : ¬ F a) : RT Γ (L2.upd H a o) F t v P :=
  h.keep (fun b u f e => by rw [upd_ne (fun z => nF (by rw [← z]; exact f))]; exact e) (fun _ z => z) fun b u q e => by rw [upd_ne (fun z => nP (by rw [← z]; exact q))]; exact e
theorem RTs.app : ∀ {ts us : List T} {vs ws : List V} {P Q : Fs}, RTs Γ H F ts vs P → RTs Γ H F us ws Q → (∀ x, P x → ¬ Q x) → RTs Γ H F (ts ++ us) (vs ++ ws) (fun b => P b ∨ Q b)
  | _, _, _, _, _, Q, .nil, h, _ => by
    have e : (fun b : Addr => False ∨ Q b) = Q := by funext b; simp
    rw [e]; exact h
  | _, _, _, _, _, Q, .cons (P := P1) (Q := P2) a b c, h, d => by
    have := RTs.cons a (RTs.app b h fun x q => d x (.inr q)) (fun x p z => z.elim (c x p) (d x (.inl p)))
    have e : (fun x : Addr => P1 x ∨ P2 x ∨ Q x) = fun x => (P1 x ∨ P2 x) ∨ Q x := by funext x; simp [or_assoc]
    rw [e] at this
    exact this
theorem RTs.one (h : RT Γ H F t v P) : RTs Γ H F [t] [v] P := by
  have := RTs.cons h .nil (fun _ _ z => z)
  have e : (fun b : Addr => P b ∨ False) = P := by funext b; simp
  rw [e] at this
  exact this
theorem RTs.take1 : ∀ {ts : List T} {vs : List V} {P : Fs}, RTs Γ H F ts vs P → ∀ (k : Nat) (t : T), ts[k]? = some t → ∃ v P1 P2, vs[k]? = some v ∧ RT Γ H F t v P1 ∧ RTs Γ H F (ts.eraseIdx k) (vs.eraseIdx k) P2 ∧ (∀ x, P1 x → ¬ P2 x) ∧ ∀ x, P1 x ∨ P2 x → P x
  | _, _, _, .nil, k, t, e => by simp at e
  | _, _, _, .cons h r d, 0, t, e => by
    simp at e
    subst e
    exact ⟨_, _, _, rfl, h, r, d, fun x z => z⟩
  | _, _, _, .cons (P := P0) (Q := Q0) h r d, k + 1, t, e => by
    obtain ⟨v, P1, P2, a1, a2, a3, a4, a5⟩ := RTs.take1 r k t (by simpa using e)
    refine ⟨v, P1, fun x => P0 x ∨ P2 x, by simpa using a1, a2, .cons h a3 fun x p z => d x p (a5 x (.inr z)), fun x p z => ?_, fun x z => ?_⟩
    · rcases z with z | z
      · exact d x z (a5 x (.inl p))
      · exact a4 x p z
    · rcases z with z | z | z
      · exact .inr (a5 x (.inl z))
      · exact .inl z
      · exact .inr (a5 x (.inr z))
theorem RTs.put : ∀ {ts : List T} {vs : List V} {P Pt : Fs} {t : T} {v : V}, RTs Γ H F ts vs P → RT Γ H F t v Pt → (∀ x, Pt x → ¬ P x) → ∀ k : Nat, ∃ P', RTs Γ H F (ts.set k t) (vs.set k v) P' ∧ ∀ x, P' x → P x ∨ Pt x
  | _, _, _, Pt, t, v, .nil, _, _, k => ⟨noF, by simpa using RTs.nil, fun _ z => z.elim⟩
  | _, _, _, Pt, t, v, .cons (P := P0) (Q := Q0) h r d, ht, dt, 0 => ⟨fun x => Pt x ∨ Q0 x, .cons ht r fun x p z => dt x p (.inr z), fun x z => z.elim .inr fun z => .inl (.inr z)⟩
  | _, _, _, Pt, t, v, .cons (P := P0) (Q := Q0) h r d, ht, dt, k + 1 => by
    obtain ⟨P', a, b⟩ := RTs.put r ht (fun x p z => dt x p (.inr z)) k
    refine ⟨fun x => P0 x ∨ P' x, .cons h a fun x p z => ?_, fun x z => ?_⟩
    · rcases b x z with z | z
      · exact d x p z
      · exact dt x z (.inl p)
    · rcases z with z | z
      · exact .inl (.inl z)
      · rcases b x z with z | z
        · exact .inl (.inr z)
        · exact .inr z
end
end PD

namespace PD
open PySem PySem.Spec PyProof.Rows L2

section
variable {Γ : Ctx} {H : Hp} {F P : Fs} {v : V}
theorem RT.inv_lst {ts : List T} (h : RT Γ H F (.lst ts) v P) : ∃ a vs P0, v = .ref a ∧ H a = some (.lst vs) ∧ RTs Γ H F ts vs P0 ∧ ¬ P0 a ∧ P = fun b => b = a ∨ P0 b := by
  cases h with
  | lst a b c => exact ⟨_, _, _, rfl, a, b, c, rfl⟩
theorem RT.inv_dT {ks : List (List Key)} {ts : List T} (h : RT Γ H F (.dT ks ts) v P) : ∃ a vs P0, v = .ref a ∧ ks.length = ts.length ∧ H a = some (.dT (ks.zip vs)) ∧ RTs Γ H F ts vs P0 ∧ ¬ P0 a ∧ P = fun b => b = a ∨ P0 b := by
  cases h with
  | dT l a b c => exact ⟨_, _, _, rfl, l, a, b, c, rfl⟩
theorem RT.inv_dK {ks : List Key} {ts : List T} (h : RT Γ H F (.dK ks ts) v P) : ∃ a vs P0, v = .ref a ∧ ks.length = ts.length ∧ H a = some (.dK (ks.zip vs)) ∧ RTs Γ H F ts vs P0 ∧ ¬ P0 a ∧ P = fun b => b = a ∨ P0 b := by
  cases h with
  | dK l a b c => exact ⟨_, _, _, rfl, l, a, b, c, rfl⟩
end
def mLstAt (i : Nat) : M Unit := fun env => match env i with
  | some (.lst _) => .ok () env
  | _ => .bad
theorem lstAt_inv {i : Nat} {env : Env} {r : Res Unit} (h : mLstAt i env = r) (n : r ≠ .bad) : ∃ ts, env i = some (.lst ts) ∧ r = .ok () env := by
  unfold mLstAt at h
  cases e : env i with
  | none => simp only [e] at h; exact absurd h.symm n
  | some t =>
    cases t with
    | lst ts => simp only [e] at h; exact ⟨ts, rfl, h.symm⟩
    | _ => simp only [e] at h; exact absurd h.symm n
theorem bind_nb {α β : Type} {m : M α} {k : α → M β} {env : Env} (n : (m >>= k) env ≠ .bad) : m env ≠ .bad := fun e => n (bind_bad e)
section
variable {X : Cx} {cl : Nat → Addr} {W : WX} {e : Expr} {mt : M T} {mk : M PyData} {pos : Pos} {B : Nat → Bool}
def pushT (i : Nat) (t : T) : M PyData := fun env => match env i with
  | some (.lst ts) => if ts.length < sizeLine then .ok .none (setE env i (some (.lst (ts ++ [t])))) else .bad
  | _ => .bad
def mAppend (i : Nat) (mt : M T) : M PyData := do
  let _ ← mLstAt i
  let t ← mt
  pushT i t
theorem de_append (i : Nat) {x : Str} {p ap cp : Pos} (h : DO X cl W e mt) (hN : X.N[i]? = some x := by rfl) (hv : Vis X.env.scope x := by first | exact Or.inl rfl | exact Or.inr (Or.inl rfl) | exact Or.inr (Or.inr rfl)) (hd : (x == ("__debug__" : Str)) = false := by decide)
    (hcd : (x == ("__classdict__" : Str)) = false := by decide)
    (hbase : attributeBase (.Name x p) "append" X.env (eval (.Name x p) X.env) = eval (.Name x p) X.env := by rfl)
    (hfew : ((backTo cp (starEach [e] X.env)).all (fun x => !x.1) && (backToKw cp (keywordEach [] X.env)).all (fun x => x.1.isSome) && decide ([e].length + ([] : List Keyword).length + (if ([] : List Keyword).isEmpty then 0 else 1) < 30)) = true := by rfl)
    (hline : (ap.endLine == cp.line) = true := by rfl) (hs : starEach [e] X.env = (false, eval e X.env) :: starEach [] X.env := by rfl) (hpl : (backTo cp (starEach [] X.env)).any (·.1) = false := by rfl) :
    DE X cl W (.Call (.Attribute (.Name x p) "append" ap) [e] [] cp) (mAppend i mt) := by
  refine PE.imp (pe_bm PySem.F.plainAttrs_list PySem.F.slot_list_append (by rfl) mt_append (pe_var hN hv hd hcd) (pa_cons h pa_nil hs) hbase hfew hline hs hpl) fun σ H Q q => ?_
  obtain ⟨F, env, fp, r, hm⟩ := q
  have nb : mLstAt i env ≠ .bad := bind_nb (post_nb hm)
  obtain ⟨ts, ei, el⟩ := lstAt_inv rfl nb
  unfold mAppend at hm
  rw [bind_ok el] at hm
  obtain ⟨v, hv, ht⟩ := r.rep i _ ei
  obtain ⟨a, vs, P0, rfl, ha, hts, nP, eP⟩ := ht.inv_lst
  refine ⟨_, hv, .inl ⟨rfl, vs, SqL.of ha⟩, F, env, fp, r, ?_⟩
  cases em : mt env with
  | bad => rw [bind_bad em] at hm; exact hm
  | exc y e1 => rw [bind_exc em] at hm; exact hm
  | ok t e1 =>
    rw [bind_ok em] at hm
    intro w H1 F1 fp1 P1 r1 h1 hd x
    unfold pushT at hm
    cases e1i : e1 i with
    | none => simp only [e1i] at hm; exact hm.elim
    | some u =>
      cases u with
      | lst ts1 =>
        simp only [e1i] at hm
        by_cases hc : ts1.length < sizeLine
        · rw [if_pos hc] at hm
          obtain ⟨v2, hv2, ht2⟩ := r1.rep i _ e1i
          rw [hv] at hv2
          cases hv2
          obtain ⟨a', vs1, P2, ea, ha1, hts1, nP1, eP1⟩ := ht2.inv_lst
          cases ea
          have fa : fp1 i a := by rw [eP1]; exact .inl rfl
          have nP2 : ¬ P1 a := fun z => (hd a z).1 ⟨i, fa⟩
          have nF : ¬ F1 a := r1.nf i a fa
          have dis : ∀ y, P2 y → ¬ P1 y := fun y h z => (hd y z).1 ⟨i, by rw [eP1]; exact .inr h⟩
          have nt : RT ⟨X.K, cl⟩ (upd H1 a (.lst (vs1 ++ [w]))) F1 (.lst (ts1 ++ [t])) (.ref a) (fun b => b = a ∨ (P2 b ∨ P1 b)) :=
            .lst upd_same ((hts1.rootw nP1 nF).app (.one (h1.rootw nP2 nF)) dis) (fun z => z.elim nP1 nP2)
          have hP : ∀ y, (y = a ∨ (P2 y ∨ P1 y)) → fp1 i y ∨ (P1 y ∧ ¬ ow fp1 y ∧ ¬ F1 y) := fun y z => by
            rcases z with z | z | z
            · rw [z]; exact .inl fa
            · exact .inl (by rw [eP1]; exact .inr z)
            · exact .inr ⟨z, (hd y z).1, (hd y z).2.1⟩
          exact ⟨a, vs1, w, rfl, rfl, ha1, by rw [← hts1.length]; exact hc, hm .non _ F1 _ noF (r1.upd hv fa nt hP) ⟨.non, rfl⟩ (fun _ z => z.elim) (Ext.emp' (ext_upd r1 x fa hP))⟩
        · rw [if_neg hc] at hm; exact hm.elim
      | _ => simp only [e1i] at hm; exact hm.elim
def takeT (i : Nat) (j : Int) : M T := fun env => match env i with
  | some (.lst ts) => match L2.ixN ts.length j with
    | some n => match ts[n]? with
      | some t => .ok t (setE env i (some (.lst (ts.eraseIdx n))))
      | none => .bad
    | none => .bad
  | _ => .bad
def mPopAt (i : Nat) (mk : M PyData) : M T := do
  let _ ← mLstAt i
  let k ← mk
  match k with
  | .int j => if -(2 ^ 63) ≤ j ∧ j < 2 ^ 63 then takeT i j else .bad
  | _ => .bad
theorem takeT_inv {i : Nat} {j : Int} {env : Env} {r : Res T} (h : takeT i j env = r) (n : r ≠ .bad) : ∃ ts k t, env i = some (.lst ts) ∧ L2.ixN ts.length j = some k ∧ ts[k]? = some t ∧ r = .ok t (setE env i (some (.lst (ts.eraseIdx k)))) := by
  unfold takeT at h
  cases e : env i with
  | none => simp only [e] at h; exact absurd h.symm n
  | some t =>
    cases t with
    | lst ts =>
      simp only [e] at h
      cases e2 : L2.ixN ts.length j with
      | none => simp only [e2] at h; exact absurd h.symm n
      | some k =>
        simp only [e2] at h
        cases e3 : ts[k]? with
        | none => simp only [e3] at h; exact absurd h.symm n
        | some t => simp only [e3] at h; exact ⟨ts, k, t, rfl, e2, e3, h.symm⟩
    | _ => simp only [e] at h; exact absurd h.symm n
theorem take_use {Γ : Ctx} {σ : St} {H : Hp} {F : Fs} {env : Env} {fp : Nat → Fs} {Q : VK} {i : Nat} {j : Int} (hm : Post Γ W (relT Γ) σ H F fp Q (takeT i j env)) (r : REnv Γ H F env σ fp) :
    ∃ a vs k y, σ[i]? = some (some (.ref a)) ∧ H a = some (.lst vs) ∧ L2.ixN vs.length j = some k ∧ vs[k]? = some y ∧ Q y (upd H a (.lst (vs.eraseIdx k))) := by
  obtain ⟨ts, k, t, e1, e2, e3, e4⟩ := takeT_inv rfl (post_nb hm)
  rw [e4] at hm
  obtain ⟨v, hv, ht⟩ := r.rep i _ e1
  obtain ⟨a, vs, P0, rfl, ha, hts, nP, eP⟩ := ht.inv_lst
  obtain ⟨y, P1, P2, g1, g2, g3, g4, g5⟩ := hts.take1 k t e3
  have fa : fp i a := by rw [eP]; exact .inl rfl
  have nF : ¬ F a := r.nf i a fa
  have nP1 : ¬ P1 a := fun z => nP (g5 a (.inl z))
  have nP2 : ¬ P2 a := fun z => nP (g5 a (.inr z))
  have nt : RT Γ (upd H a (.lst (vs.eraseIdx k))) F (.lst (ts.eraseIdx k)) (.ref a) (fun b => b = a ∨ P2 b) := .lst upd_same (g3.rootw nP2 nF) nP2
  have hP : ∀ y, (y = a ∨ P2 y) → fp i y ∨ (noF y ∧ ¬ ow fp y ∧ ¬ F y) := fun y z => by
    rcases z with z | z
    · rw [z]; exact .inl fa
    · exact .inl (by rw [eP]; exact .inr (g5 y (.inr z)))
  have x : Ext H F (ow fp) H F (fun x => noF x ∨ ow fp x) := Ext.emp' (Ext.refl _ _ _)
  have r2 := r.upd hv fa nt hP
  have x2 := ext_upd (o := .lst (vs.eraseIdx k)) r x fa hP
  refine ⟨a, vs, k, y, hv, ha, by rw [← hts.length]; exact e2, g1, hm y _ F _ P1 r2 (g2.rootw nP1 nF) (fun b hb => ⟨fun z => ?_, ?_, ?_⟩) ⟨x2.keep, x2.mono, fun b z => ?_, x2.frz, x2.dom⟩⟩
  · obtain ⟨l, z⟩ := z
    by_cases el : l = i
    · subst el
      rw [setF_same] at z
      rcases z with z | z
      · rw [z] at hb; exact nP1 hb
      · exact g4 b hb z
    · rw [setF_ne el] at z
      exact el (r.dis l i b z (by rw [eP]; exact .inr (g5 b (.inl hb))))
  · exact r.nf i b (by rw [eP]; exact .inr (g5 b (.inl hb)))
  · obtain ⟨o, e⟩ := g2.dom b hb
    exact ⟨o, by rw [upd_ne (fun z => nP1 (by rw [← z]; exact hb))]; exact e⟩
  · rcases z with z | z
    · exact .inl ⟨i, by rw [eP]; exact .inr (g5 b (.inl z))⟩
    · exact x2.own b z
theorem do_popAt (i : Nat) {x : Str} {p ap cp : Pos} (h : DE X cl W e mk) (hN : X.N[i]? = some x := by rfl) (hv : Vis X.env.scope x := by first | exact Or.inl rfl | exact Or.inr (Or.inl rfl) | exact Or.inr (Or.inr rfl)) (hd : (x == ("__debug__" : Str)) = false := by decide)
    (hcd : (x == ("__classdict__" : Str)) = false := by decide)
    (hbase : attributeBase (.Name x p) "pop" X.env (eval (.Name x p) X.env) = eval (.Name x p) X.env := by rfl)
    (hfew : ((backTo cp (starEach [e] X.env)).all (fun x => !x.1) && (backToKw cp (keywordEach [] X.env)).all (fun x => x.1.isSome) && decide ([e].length + ([] : List Keyword).length + (if ([] : List Keyword).isEmpty then 0 else 1) < 30)) = true := by rfl)
    (hline : (ap.endLine == cp.line) = true := by rfl) (hs : starEach [e] X.env = (false, eval e X.env) :: starEach [] X.env := by rfl) (hpl : (backTo cp (starEach [] X.env)).any (·.1) = false := by rfl) :
    DO X cl W (.Call (.Attribute (.Name x p) "pop" ap) [e] [] cp) (mPopAt i mk) := by
  refine PE.imp (pe_bm PySem.F.plainAttrs_list PySem.F.slot_list_pop (by rfl) mt_popAt (pe_var hN hv hd hcd) (pa_cons h pa_nil hs) hbase hfew hline hs hpl) fun σ H Q q => ?_
  obtain ⟨F, env, fp, r, hm⟩ := q
  have nb : mLstAt i env ≠ .bad := bind_nb (post_nb hm)
  obtain ⟨ts, ei, el⟩ := lstAt_inv rfl nb
  unfold mPopAt at hm
  rw [bind_ok el] at hm
  obtain ⟨v, hv, ht⟩ := r.rep i _ ei
  obtain ⟨a, vs, P0, rfl, ha, hts, nP, eP⟩ := ht.inv_lst
  refine ⟨_, hv, .inl ⟨rfl, vs, SqL.of ha⟩, F, env, fp, r, ?_⟩
  cases em : mk env with
  | bad => rw [bind_bad em] at hm; exact hm
  | exc y e1 => rw [bind_exc em] at hm; exact hm
  | ok k e1 =>
    rw [bind_ok em] at hm
    intro w H1 F1 fp1 P1 r1 h1 hd x
    obtain ⟨h1, rfl⟩ := h1
    cases h1 with
    | int j =>
      by_cases hc : -(2 ^ 63) ≤ j ∧ j < 2 ^ 63
      · simp only [if_pos hc] at hm
        obtain ⟨a', vs', k, y, g1, g2, g3, g4, g5⟩ := take_use (j := j) (hm.rebase x.emp) r1
        rw [hv] at g1
        cases g1
        exact ⟨a, vs', j, k, y, rfl, rfl, g2, hc.1, hc.2, (ixN_seq g3).1, g4, g5⟩
      · simp only [if_neg hc] at hm; exact hm.elim
    | _ => exact hm.elim
def putIx (i : Nat) (t : T) (k : PyData) : M Fl := fun env => match env i with
  | some (.lst ts) => match k with
    | .int j => match L2.ixN ts.length j with
      | some n => .ok .nx (setE env i (some (.lst (ts.set n t))))
      | none => .bad
    | _ => .bad
  | _ => .bad
def sSetIx (i : Nat) (mt : M T) (mk : M PyData) : M Fl := do
  let t ← mt
  let _ ← mThere i
  let k ← mk
  putIx i t k
theorem ds_setIx (i : Nat) {x : Str} {b : Expr} {p tp : Pos} (h : DO X cl W e mt) (h2 : DE X cl W b mk) (hN : X.N[i]? = some x := by rfl) (hv : Vis X.env.scope x := by first | exact Or.inl rfl | exact Or.inr (Or.inl rfl) | exact Or.inr (Or.inr rfl)) (hd : (x == ("__debug__" : Str)) = false := by decide)
    (hcd : (x == ("__classdict__" : Str)) = false := by decide)
    (ha : ∀ v, assign (.Subscript (.Name x p) b tp) X.env v = (do
      let ov ← holding [v] (eval (.Name x p) X.env)
      let iv ← holding [v, ov] (eval b X.env)
      standAt tp
      holding [v, ov, iv] (setItem ov iv v)
      release [v, ov, iv] []) := by intro _; rfl)
    (hs : swapsWithSole [.Subscript (.Name x p) b tp] e pos.line X.env = pure false := by rfl) (hw : swappedStores [.Subscript (.Name x p) b tp] e X.env = pure none := by rfl)
    (h1 : (assignEach [.Subscript (.Name x p) b tp] X.env).map (·.2) = [assign (.Subscript (.Name x p) b tp) X.env] := by rfl) : DS X cl W B (.Assign [.Subscript (.Name x p) b tp] e pos) (sSetIx i mt mk) := by
  refine PS.imp (ps_asg h (pg_sub (pe_var hN hv hd hcd) h2 set_list ha) hs hw h1) fun D σ H q => ?_
  obtain ⟨F, env, fp, r, hm⟩ := q
  refine ⟨F, env, fp, r, ?_⟩
  unfold sSetIx at hm
  cases em : mt env with
  | bad => rw [bind_bad em] at hm; exact hm
  | exc y e1 =>
    rw [bind_exc em] at hm
    exact fun c d H1 F1 fp1 r1 r2 r3 => hm σ c d H1 F1 fp1 (Arr.of_ext r1 r3) r2
  | ok t e1 =>
    rw [bind_ok em] at hm
    intro w H1 F1 fp1 P1 r1 h1 hd x
    cases e1i : e1 i with
    | none => rw [bind_bad (there_bad e1i)] at hm; exact hm.elim
    | some u =>
      rw [bind_ok (there_ok e1i)] at hm
      obtain ⟨v, hv, ht⟩ := r1.rep i _ e1i
      refine ⟨v, hv, F1, e1, fp1, r1, ?_⟩
      have x1 := ext_of (P := ow fp1) x fun _ z => .inr z
      cases ek : mk e1 with
      | bad => rw [bind_bad ek] at hm; exact hm
      | exc y e2 =>
        rw [bind_exc ek] at hm
        exact fun c d H2 F2 fp2 r2 r3 r4 => hm σ c d H2 F2 fp2 (Arr.of_ext r2 (x1.trans r4)) r3
      | ok k e2 =>
        rw [bind_ok ek] at hm
        intro z H2 F2 fp2 P2 r2 h2 hd2 x2
        obtain ⟨h2, rfl⟩ := h2
        obtain ⟨ht2, hk⟩ := held r1 h1 hd x2
        unfold putIx at hm
        cases e2i : e2 i with
        | none => simp only [e2i] at hm; exact hm.elim
        | some u2 =>
          cases u2 with
          | lst ts =>
            simp only [e2i] at hm
            cases h2 with
            | int j =>
              simp only [] at hm
              cases en : L2.ixN ts.length j with
              | none => simp only [en] at hm; exact hm.elim
              | some n =>
                simp only [en] at hm
                obtain ⟨v2, hv2, hl⟩ := r2.rep i _ e2i
                rw [hv] at hv2
                cases hv2
                obtain ⟨a, vs, P0, rfl, ha2, hts, nP, eP⟩ := hl.inv_lst
                have fa : fp2 i a := by rw [eP]; exact .inl rfl
                have nF : ¬ F2 a := r2.nf i a fa
                have nP1 : ¬ P1 a := fun z => (hk a z).2.1 ⟨i, fa⟩
                obtain ⟨P', g1, g2⟩ := RTs.put (hts.rootw (o := .lst (vs.set n w)) nP nF) (ht2.rootw nP1 nF) (fun y q z => (hk y q).2.1 ⟨i, by rw [eP]; exact .inr z⟩) n
                have nP' : ¬ P' a := fun z => (g2 a z).elim nP nP1
                have hP : ∀ y, (y = a ∨ P' y) → fp2 i y ∨ (P1 y ∧ ¬ ow fp2 y ∧ ¬ F2 y) := fun y z => by
                  rcases z with z | z
                  · rw [z]; exact .inl fa
                  · rcases g2 y z with z | z
                    · exact .inl (by rw [eP]; exact .inr z)
                    · exact .inr ⟨z, (hk y z).2.1, (hk y z).2.2.1⟩
                have xx := x1.trans x2.emp
                refine ⟨a, vs, j, n, rfl, rfl, ha2, by rw [← hts.length]; exact en, hm σ _ F2 _ ⟨r2.upd hv fa (.lst upd_same g1 nP') hP, fun _ z => z.elim, rfl, fun _ _ => rfl, Ext.emp' (ext_upd (P := P1) r2 ⟨xx.keep, xx.mono, fun b z => ?_, xx.frz, xx.dom⟩ fa hP)⟩⟩
                rcases z with z | z
                · exact x.own b (.inl z)
                · exact xx.own b z
            | _ => exact hm.elim
          | _ => simp only [e2i] at hm; exact hm.elim
end
end PD

namespace PD
open PySem PySem.Spec PyProof.Rows L2

def keyOf : PyData → Option Key
  | .int i => some (.inl i)
  | .str x => some (.inr x)
  | _ => none
def keyAll : List PyData → Option (List Key)
  | [] => some []
  | d :: ds => (keyOf d).bind fun k => (keyAll ds).map fun ks => k :: ks
def keysOf : PyData → Option (List Key)
  | .tuple ds => keyAll ds
  | _ => none
theorem keyOf_keyD (k : Key) : keyOf (keyD k) = some k := by cases k <;> rfl
theorem keyAll_map : ∀ ks : List Key, keyAll (ks.map keyD) = some ks
  | [] => rfl
  | k :: ks => by rw [List.map_cons, keyAll, keyOf_keyD, keyAll_map ks]; rfl
theorem keysOf_keysD (ks : List Key) : keysOf (keysD ks) = some ks := keyAll_map ks
theorem FR.key {K : PySem.W.Frag} {H : Hp} {F : Fs} {d : PyData} {v : V} {k : Key} (h : FR K H F d v) (e : keyOf d = some k) : v = kV k := by
  cases h <;> first | (cases e; rfl) | cases e
theorem FRs.keys {K : PySem.W.Frag} {H : Hp} {F : Fs} : ∀ {ds : List PyData} {vs : List V} {ks : List Key}, FRs K H F ds vs → keyAll ds = some ks → vs = ks.map kV
  | _, _, _, .nil, e => by cases e; rfl
  | _, _, _, .cons h t, e => by
    rw [keyAll] at e
    obtain ⟨k, e1, e2⟩ := Option.bind_eq_some_iff.mp e
    obtain ⟨ks, e3, rfl⟩ := Option.map_eq_some_iff.mp e2
    rw [List.map_cons, h.key e1, FRs.keys t e3]
theorem FR.keys {K : PySem.W.Frag} {H : Hp} {F : Fs} {d : PyData} {v : V} {ks : List Key} (h : FR K H F d v) (e : keysOf d = some ks) : ∃ b, v = .ref b ∧ H b = some (.tup (ks.map kV)) := by
  cases h with
  | @tup a vs ds f hh r => exact ⟨a, rfl, by rw [hh, r.keys e]⟩
  | _ => cases e
def findD {κ : Type} [DecidableEq κ] (ko : PyData → Option κ) (kvs : List (PyData × PyData)) (k : κ) : Option PyData := (kvs.find? fun p => decide (ko p.1 = some k)).map (·.2)
def dgetE (kvs : List (PyData × PyData)) (k : PyData) : Option (Option PyData) := if kvs.isEmpty = true then none else match keyOf k with
  | some a => if (kvs.all fun p => (keyOf p.1).isSome) = true then some (findD keyOf kvs a) else none
  | none => match keysOf k with
    | some a => if (kvs.all fun p => (keysOf p.1).isSome) = true then some (findD keysOf kvs a) else none
    | none => none
def dgetD (d k : PyData) : Option (Option PyData) := match d with
  | .dict kvs => dgetE kvs k
  | _ => none
theorem dgetE_inv {kvs : List (PyData × PyData)} {k : PyData} {o : Option PyData} (h : dgetE kvs k = some o) : kvs ≠ [] ∧
    ((∃ a, keyOf k = some a ∧ (kvs.all fun p => (keyOf p.1).isSome) = true ∧ o = findD keyOf kvs a) ∨ (∃ a, keysOf k = some a ∧ (kvs.all fun p => (keysOf p.1).isSome) = true ∧ o = findD keysOf kvs a)) := by
  unfold dgetE at h
  by_cases c : kvs.isEmpty = true
  · rw [if_pos c] at h; cases h
  · rw [if_neg c] at h
    refine ⟨fun z => c (by rw [z]; rfl), ?_⟩
    cases e : keyOf k with
    | some a =>
      rw [e] at h
      by_cases c2 : (kvs.all fun p => (keyOf p.1).isSome) = true
      · simp only [if_pos c2] at h; cases h; exact .inl ⟨a, rfl, c2, rfl⟩
      · simp only [if_neg c2] at h; cases h
    | none =>
      rw [e] at h
      cases e2 : keysOf k with
      | some a =>
        simp only [e2] at h
        by_cases c2 : (kvs.all fun p => (keysOf p.1).isSome) = true
        · simp only [if_pos c2] at h; cases h; exact .inr ⟨a, rfl, c2, rfl⟩
        · simp only [if_neg c2] at h; cases h
      | none => simp only [e2] at h; cases h
theorem find_rel {κ : Type} [DecidableEq κ] {K : PySem.W.Frag} {H : Hp} {F : Fs} {kd : κ → PyData} {ko : PyData → Option κ} (hk : ∀ k, ko (kd k) = some k) : ∀ (kvs : List (κ × V)) {ds : List PyData}, FRs K H F ds (kvs.map Prod.snd) → ∀ k : κ,
    (∀ d, findD ko ((kvs.map fun p => kd p.1).zip ds) k = some d → ∃ v, valV kvs k = some v ∧ FR K H F d v) ∧ (findD ko ((kvs.map fun p => kd p.1).zip ds) k = none → valV kvs k = none)
  | [], _, h, k => by
    cases h
    exact ⟨fun d e => by simp [findD] at e, fun _ => rfl⟩
  | (q, u) :: kvs, _, h, k => by
    rw [List.map_cons] at h
    cases h with
    | @cons d ds v vs h t =>
      have ih := find_rel (kd := kd) hk kvs t k
      unfold findD valV at ih ⊢
      rw [List.map_cons, List.zip_cons_cons, List.find?_cons, List.find?_cons]
      simp only [hk, Option.some.injEq]
      by_cases c : q = k
      · simp only [c, decide_true, Option.map_some]
        exact ⟨fun d' e => by cases e; exact ⟨_, rfl, h⟩, fun e => by cases e⟩
      · simp only [c, decide_false]
        exact ih
def DHit (K : PySem.W.Frag) (H : Hp) (F : Fs) (o : Option PyData) (r : Option V) : Prop := (∀ c, o = some c → ∃ v, r = some v ∧ FR K H F c v) ∧ (o = none → r = none)
theorem dget_rel {K : PySem.W.Frag} {x y : V} {H : Hp} {F : Fs} {d k : PyData} {o : Option PyData} (h1 : FR K H F d x) (h2 : FR K H F k y) (e : dgetD d k = some o) :
    ∃ a r, x = .ref a ∧ DGet H a y r ∧ DHit K H F o r := by
  cases h1 with
  | @dK a kvs ds f hh r =>
    obtain ⟨hne, ⟨kk, ek, hall, rfl⟩ | ⟨kk, ek, hall, rfl⟩⟩ := dgetE_inv (show dgetE _ k = some o from e)
    · have g := find_rel (kd := keyD) (ko := keyOf) keyOf_keyD kvs r kk
      refine ⟨a, valV kvs kk, rfl, by rw [h2.key ek]; exact DGet.k hh, ?_⟩
      exact g
    · exfalso
      cases kvs with
      | nil => exact hne rfl
      | cons p kvs =>
        cases ds with
        | nil => exact hne rfl
        | cons d ds =>
          rw [List.map_cons, List.zip_cons_cons, List.all_cons, Bool.and_eq_true] at hall
          have := hall.1
          cases hp : p.1 <;> (rw [hp] at this; exact Bool.noConfusion this)
  | @dT a kvs ds f hh r =>
    obtain ⟨hne, ⟨kk, ek, hall, rfl⟩ | ⟨kk, ek, hall, rfl⟩⟩ := dgetE_inv (show dgetE _ k = some o from e)
    · exfalso
      cases kvs with
      | nil => exact hne rfl
      | cons p kvs =>
        cases ds with
        | nil => exact hne rfl
        | cons d ds =>
          rw [List.map_cons, List.zip_cons_cons, List.all_cons, Bool.and_eq_true] at hall
          exact Bool.noConfusion hall.1
    · have g := find_rel (kd := keysD) (ko := keysOf) keysOf_keysD kvs r kk
      obtain ⟨b, rfl, hb⟩ := h2.keys ek
      refine ⟨a, valV kvs kk, rfl, DGet.t hh hb, ?_⟩
      exact g
  | _ => cases e
section
variable {X : Cx} {cl : Nat → Addr} {W : WX} {a b e : Expr} {ma mb mk me : M PyData} {pos : Pos} {B : Nat → Bool}
def dixD (d k : PyData) : Option PyData := (dgetD d k).bind fun o => o
theorem de_dget (hu : X.A.units + 64 < cLine) (h1 : DE X cl W a ma) (h2 : DE X cl W b mb) (hs : NoSl b := by intro _ _; rfl) : DE X cl W (.Subscript a b pos) (mBin dixD ma mb) :=
  PE.imp (pe_dget (by omega) h1 h2 hs) fun σ H Q q => G_mono (G_two (k := fun a b => lift (dixD a b)) q) fun x H1 z => G_mono z fun y H2 z2 => by
    obtain ⟨F, env, fp, d, k, r1, h1, h2, hm⟩ := z2
    obtain ⟨c, e, hm⟩ := post_lift hm
    obtain ⟨o, e1, e2⟩ := Option.bind_eq_some_iff.mp e
    subst e2
    obtain ⟨a, r, rfl, g1, g0, _⟩ := dget_rel h1 h2 e1
    obtain ⟨v, rfl, g2⟩ := g0 c rfl
    exact ⟨a, v, rfl, g1, fin_same hm r1 g2⟩
def putKs {κ : Type} [DecidableEq κ] (ks : List κ) (ts : List T) (k : κ) (d : PyData) : List κ × List T :=
  if ks.any fun q => decide (q = k) then (ks, (ks.zip ts).map fun p => if p.1 = k then .v d else p.2) else (ks ++ [k], ts ++ [.v d])
theorem putKs_len {κ : Type} [DecidableEq κ] {ks : List κ} {ts : List T} {k : κ} {d : PyData} (h : ks.length = ts.length) : (putKs ks ts k d).1.length = (putKs ks ts k d).2.length := by
  unfold putKs
  split
  · simp [h]
  · simp [h]
theorem putKs_map {κ : Type} [DecidableEq κ] {Γ : Ctx} {H : Hp} {F : Fs} {k : κ} {d : PyData} {v : V} (hv : FR Γ.K H F d v) : ∀ (ks : List κ) {ts : List T} {vs : List V} {P : Fs}, RTs Γ H F ts vs P → ks.length = ts.length →
    ∃ vs' P', RTs Γ H F ((ks.zip ts).map fun p => if p.1 = k then .v d else p.2) vs' P' ∧ (ks.zip vs).map (fun kv => if kv.1 = k then (kv.1, v) else kv) = ks.zip vs' ∧ ∀ x, P' x → P x
  | [], _, _, _, .nil, _ => ⟨[], noF, .nil, rfl, fun _ z => z.elim⟩
  | [], _, _, _, .cons _ _ _, e => by simp at e
  | _ :: _, _, _, _, .nil, e => by simp at e
  | q :: ks, _, _, _, .cons (P := P1) (Q := Q1) h t dj, e => by
    obtain ⟨vs', P', g1, g2, g3⟩ := putKs_map hv ks t (by simpa using e)
    rw [List.zip_cons_cons, List.zip_cons_cons, List.map_cons, List.map_cons, g2]
    by_cases c : q = k
    · simp only [c, if_true]
      exact ⟨v :: vs', _, .cons (.v hv) g1 (fun _ z => z.elim), rfl, fun x z => z.elim False.elim fun z => .inr (g3 x z)⟩
    · simp only [c, if_false]
      exact ⟨_ :: vs', _, .cons h g1 (fun x p z => dj x p (g3 x z)), rfl, fun x z => z.elim .inl fun z => .inr (g3 x z)⟩
theorem putKs_rel {κ : Type} [DecidableEq κ] {Γ : Ctx} {H : Hp} {F : Fs} {k : κ} {d : PyData} {v : V} (hv : FR Γ.K H F d v) (ks : List κ) {ts : List T} {vs : List V} {P : Fs} (h : RTs Γ H F ts vs P) (hl : ks.length = ts.length) :
    ∃ vs' P', RTs Γ H F (putKs ks ts k d).2 vs' P' ∧ putK (ks.zip vs) k v = (putKs ks ts k d).1.zip vs' ∧ ∀ x, P' x → P x := by
  have hl2 : ks.length = vs.length := hl.trans h.length
  have ea : ((ks.zip vs).any fun kv => decide (kv.1 = k)) = ks.any fun q => decide (q = k) := by
    have : ks = (ks.zip vs).map Prod.fst := (map_fst_zip ks vs hl2).symm
    conv => rhs; rw [this, List.any_map]
    rfl
  unfold putKs putK
  rw [ea]
  by_cases c : (ks.any fun q => decide (q = k)) = true
  · rw [if_pos c, if_pos c]
    exact putKs_map hv ks h hl
  · rw [if_neg c, if_neg c]
    have := h.app (RTs.one (RT.v hv)) (fun x _ z => z)
    refine ⟨vs ++ [v], _, this, ?_, fun x z => z.elim id False.elim⟩
    rw [List.zip_append hl2]
    rfl
def putD (i : Nat) (d k : PyData) : M Fl := fun env => match env i with
  | some (.dT ks ts) => match keysOf k with
    | some a => if ks.length < sizeLine ∧ ks.length = ts.length then .ok .nx (setE env i (some (.dT (putKs ks ts a d).1 (putKs ks ts a d).2))) else .bad
    | none => .bad
  | some (.dK ks ts) => match keyOf k with
    | some a => if ks.length < sizeLine ∧ ks.length = ts.length then .ok .nx (setE env i (some (.dK (putKs ks ts a d).1 (putKs ks ts a d).2))) else .bad
    | none => .bad
  | _ => .bad
def sPutD (i : Nat) (me mk : M PyData) : M Fl := do
  let d ← me
  let _ ← mThere i
  let k ← mk
  putD i d k
theorem ds_dput (i : Nat) {x : Str} {p tp : Pos} (hu : X.A.units + 64 < cLine) (h : DE X cl W e me) (h2 : DE X cl W b mk) (hN : X.N[i]? = some x := by rfl) (hv : Vis X.env.scope x := by first | exact Or.inl rfl | exact Or.inr (Or.inl rfl) | exact Or.inr (Or.inr rfl)) (hd : (x == ("__debug__" : Str)) = false := by decide)
    (hcd : (x == ("__classdict__" : Str)) = false := by decide) (hs : swapsWith e (some (.Subscript (.Name x p) b tp)) pos.line X.env = pure false := by rfl) : DS X cl W B (.Assign [.Subscript (.Name x p) b tp] e pos) (sPutD i me mk) := by
  refine PS.imp (ps_dput (by omega) (pe_var hN hv hd hcd) h2 h hs) fun D σ H q => ?_
  refine G_stmE (k := fun d => do
    let _ ← mThere i
    let k ← mk
    putD i d k) q fun w H1 F1 e1 fp1 d r1 h1 hm => ?_
  cases e1i : e1 i with
  | none => rw [bind_bad (there_bad e1i)] at hm; exact hm.elim
  | some u =>
    rw [bind_ok (there_ok e1i)] at hm
    obtain ⟨v, hv, ht⟩ := r1.rep i _ e1i
    refine ⟨v, hv, F1, e1, fp1, r1, ?_⟩
    cases ek : mk e1 with
    | bad => rw [bind_bad ek] at hm; exact hm
    | exc y e2 =>
      rw [bind_exc ek] at hm
      exact fun c d H2 F2 fp2 r2 r3 r4 => hm σ c d H2 F2 fp2 (Arr.of_ext r2 r4) r3
    | ok k e2 =>
      rw [bind_ok ek] at hm
      intro z H2 F2 fp2 P2 r2 h2 hd2 x2
      obtain ⟨h2, rfl⟩ := h2
      have hw : FR X.K H2 F2 d w := h1.ext x2.emp r1.fo
      unfold putD at hm
      cases e2i : e2 i with
      | none => simp only [e2i] at hm; exact hm.elim
      | some u2 =>
        obtain ⟨v2, hv2, hl⟩ := r2.rep i _ e2i
        rw [hv] at hv2
        cases hv2
        cases u2 with
        | dT ks ts =>
          simp only [e2i] at hm
          cases ea : keysOf k with
          | none => simp only [ea] at hm; exact hm.elim
          | some a =>
            simp only [ea] at hm
            by_cases hc : ks.length < sizeLine ∧ ks.length = ts.length
            · rw [if_pos hc] at hm
              obtain ⟨A, vs, P0, rfl, hl1, ha2, hts, nP, eP⟩ := hl.inv_dT
              obtain ⟨b, rfl, hb⟩ := h2.keys ea
              obtain ⟨vs', P', g1, g2, g3⟩ := putKs_rel (k := a) hw ks hts hc.2
              have fa : fp2 i A := by rw [eP]; exact .inl rfl
              have nF : ¬ F2 A := r2.nf i A fa
              have hP : ∀ y, (y = A ∨ P' y) → fp2 i y ∨ (noF y ∧ ¬ ow fp2 y ∧ ¬ F2 y) := fun y z => by
                rcases z with z | z
                · rw [z]; exact .inl fa
                · exact .inl (by rw [eP]; exact .inr (g3 y z))
              refine ⟨A, _, rfl, DPut.t ha2 hb ?_, hm σ _ F2 _ ⟨r2.upd hv fa (.dT (putKs_len hc.2) (by rw [g2]; exact upd_same) (g1.rootw (fun z => nP (g3 _ z)) nF) (fun z => nP (g3 _ z))) hP, fun _ z => z.elim, rfl, fun _ _ => rfl, Ext.emp' (ext_upd (P := noF) r2 x2 fa hP)⟩⟩
              rw [List.length_zip, ← hts.length, ← hc.2, Nat.min_self]
              exact hc.1
            · rw [if_neg hc] at hm; exact hm.elim
        | dK ks ts =>
          simp only [e2i] at hm
          cases ea : keyOf k with
          | none => simp only [ea] at hm; exact hm.elim
          | some a =>
            simp only [ea] at hm
            by_cases hc : ks.length < sizeLine ∧ ks.length = ts.length
            · rw [if_pos hc] at hm
              obtain ⟨A, vs, P0, rfl, hl1, ha2, hts, nP, eP⟩ := hl.inv_dK
              obtain rfl := h2.key ea
              obtain ⟨vs', P', g1, g2, g3⟩ := putKs_rel (k := a) hw ks hts hc.2
              have fa : fp2 i A := by rw [eP]; exact .inl rfl
              have nF : ¬ F2 A := r2.nf i A fa
              have hP : ∀ y, (y = A ∨ P' y) → fp2 i y ∨ (noF y ∧ ¬ ow fp2 y ∧ ¬ F2 y) := fun y z => by
                rcases z with z | z
                · rw [z]; exact .inl fa
                · exact .inl (by rw [eP]; exact .inr (g3 y z))
              refine ⟨A, _, rfl, DPut.k ha2 ?_, hm σ _ F2 _ ⟨r2.upd hv fa (.dK (putKs_len hc.2) (by rw [g2]; exact upd_same) (g1.rootw (fun z => nP (g3 _ z)) nF) (fun z => nP (g3 _ z))) hP, fun _ z => z.elim, rfl, fun _ _ => rfl, Ext.emp' (ext_upd (P := noF) r2 x2 fa hP)⟩⟩
              rw [List.length_zip, ← hts.length, ← hc.2, Nat.min_self]
              exact hc.1
            · rw [if_neg hc] at hm; exact hm.elim
        | _ => simp only [e2i] at hm; exact hm.elim
end
end PD

namespace PD
open PySem PySem.Spec PyProof.Rows L2

section
variable {P : Program} {w : World} {K : PySem.W.Frag} {mg mb : Str → Option Value} {k : Nat} {fa a : Addr} {fd : FuncData} {x : Str} {sp : Sp} {s : Shared} {vs : List Value} {ns : List Int}
theorem end_core (kx : K.In s.heap) (hns : s.heap.Ns mainGlobals mg) (hb : s.heap.Ns builtinsNs mb) (hbb : ∀ x : Str, x ≠ "__name__" → mb x = bootBuiltins x) (hlim : s.heap.NoLimit) (hg : s.gens = #[])
    (ha : s.heap.get? a = some { cls := .type "list", data := .seq vs.toArray }) (hr : Room k callerA) (F : ∀ base : Heap, K.In base → base.Ns mainGlobals mg → DFn P w K mg base k fa fd [x] sp)
    (hbi : ∀ (s : Shared) (u : Value), BindsTo s fd ⟨[u], []⟩ [(x, u)]) (H : Hp) (hO : Only H) (hsp : sp [.ref a] H (fun v _ => v = .bl true) fun _ _ _ => False) (hok : HOk P w H s.heap) (hA : ∀ b, H b ≠ none → b = a) (hK : H a ≠ none → K.lookup a = none) :
    codeAny (model P w) callerA (.call (.ref fa) ⟨[.ref a], []⟩) (fun r s' => r = .ok (.ret (.bool true)) ∧ OldK s.heap s'.heap ∧ s'.os = s.os ∧ AllBare s'.gens) s := by
  have only : ∀ b, H b = none ∨ b = a := fun b => (Classical.em (H b = none)).imp id fun z => hA b z
  have notD : ∀ {b : Addr} {o : Obj} {es : Array DictEntry} {ep : Nat}, s.heap.get? b = some o → o.data = .dict es ep → H b = none := fun {b o es ep} e d => by
    rcases only b with z | rfl
    · exact z
    · rw [ha] at e; cases e; cases (show Data.seq vs.toArray _ = Data.dict es ep from d)
  have ns' : ∀ {b : Addr} {m : Str → Option Value}, s.heap.Ns b m → (hidT s.heap H).Ns b m := by
    rintro b m ⟨o, es, ep, e, d, r⟩
    exact ⟨o, es, ep, hidT_get e (notD e d), d, r⟩
  have hKb : K.In (hidT s.heap H) := by
    intro b o e
    refine hidT_get (kx b o e) ?_
    rcases only b with z | rfl
    · exact z
    · by_cases q : H b = none
      · exact q
      · rw [hK q] at e; cases e
  have hM : Mod K mg (hidT s.heap H) := ⟨hKb, ns' hns, ⟨mb, ns' hb, hbb⟩, (let ⟨mc, h1, h2⟩ := hlim; ⟨mc, ns' h1, h2⟩)⟩
  have e0 : Env0 P w K mg (hidT s.heap H) callerA [] s H := ⟨rfl, hM, by intro b o e; exact of_hidT e, Nat.le_of_eq (hidT_size _ _), trivial, by intro b hb; exact absurd (show b ∈ ([] : List Addr) from hb) (by simp), hok, .of_eq hg⟩
  have out : ∀ {fs : List PySem.Env}, (e : fs = []) → ∀ b, b ∉ frs fs := by intro fs e b z; subst e; exact absurd (show b ∈ ([] : List Addr) from z) (by simp)
  refine codeAny_mono ((F _ hKb (ns' hns)).go callerA [] s H ⟨[.ref a], []⟩ [.ref a] [.ref a] _ _ hr rfl e0 (hbi s (.ref a)) (.cons rfl .nil) hsp) ?_
  intro r s' h
  match r, h with
  | .error e, h =>
    obtain ⟨_, _, _, _, _, _, _, _, _, _, _, _, z⟩ := h
    exact z.elim
  | .ok .next, h => exact h.elim
  | .ok .brk, h => exact h.elim
  | .ok .cont, h => exact h.elim
  | .ok (.ret u), ⟨v, H', os, bare, un, hok', r', q⟩ =>
    cases (show v = .bl true from q)
    obtain rfl : u = Value.bool true := r'
    refine ⟨rfl, OldK.of_keep ?_, os, bare⟩
    intro b o e
    rcases hO b with q | ⟨ob, xs, z⟩
    · exact un.keep b o e q (out rfl b) (by simp)
    · obtain ⟨e1, _⟩ := hok b _ z
      obtain ⟨e2, _⟩ := hok' b _ (un.frzs b ob _ z)
      rw [e] at e1
      cases e1
      exact e2
theorem end_call (kx : K.In s.heap) (hns : s.heap.Ns mainGlobals mg) (hb : s.heap.Ns builtinsNs mb) (hbb : ∀ x : Str, x ≠ "__name__" → mb x = bootBuiltins x) (hlim : s.heap.NoLimit) (hg : s.gens = #[])
    (ha : s.heap.get? a = some { cls := .type "list", data := .seq vs.toArray }) (hi : IntsAre vs ns) (hl : ns.length ≤ sizeLine) (hr : Room k callerA) (F : ∀ base : Heap, K.In base → base.Ns mainGlobals mg → DFn P w K mg base k fa fd [x] sp)
    (hbi : ∀ (s : Shared) (u : Value), BindsTo s fd ⟨[u], []⟩ [(x, u)]) (hsp : ∀ H : Hp, Only H → SqL K H a (ns.map V.int) → sp [.ref a] H (fun v _ => v = .bl true) fun _ _ _ => False) :
    codeAny (model P w) callerA (.call (.ref fa) ⟨[.ref a], []⟩) (fun r s' => r = .ok (.ret (.bool true)) ∧ OldK s.heap s'.heap ∧ s'.os = s.os ∧ AllBare s'.gens) s := by
  have rv : Vals (ns.map V.int) vs := L2.vals_ints hi
  by_cases hk : K.lookup a = none
  · let Z : HO := .frz { cls := .type "list", data := .seq vs.toArray } (.lst (ns.map V.int))
    let S : Hp := fun b => if b = a then some Z else none
    have at_ : S a = some Z := if_pos rfl
    have off : ∀ b, b ≠ a → S b = none := fun b z => if_neg z
    have hO : Only S := fun b => (Classical.em (b = a)).elim (fun z => .inr ⟨{ cls := .type "list", data := .seq vs.toArray }, ns.map V.int, by rw [z]; exact at_⟩) fun z => .inl (off b z)
    refine end_core kx hns hb hbb hlim hg ha hr F hbi S hO (hsp S hO (.inl (.inr ⟨_, at_⟩))) ?_ ?_ fun _ => hk
    · intro b u z
      by_cases e : b = a
      · subst e
        rw [at_] at z
        cases z
        exact ⟨ha, by rw [List.length_map]; exact hl, vs, _, rv, ha⟩
      · rw [off b e] at z; cases z
    · intro b z
      exact Classical.byContradiction fun e => z (off b e)
  · obtain ⟨o, ho⟩ := Option.ne_none_iff_exists'.mp hk
    have e := kx a o ho
    rw [ha] at e
    cases e
    refine end_core kx hns hb hbb hlim hg ha hr F hbi (fun _ => none) (fun _ => .inl rfl) (hsp _ (fun _ => .inl rfl) (.inr ⟨_, vs.toArray, _, ho, rfl, rfl, rfl, ?_, by simpa using rv⟩)) ?_ (by intro b z; exact absurd rfl z) (by intro z; exact absurd rfl z)
    · rw [List.size_toArray, hi.length]; exact hl
    · intro b u z
      cases (show (none : Option HO) = some u from z)
end
def lawEnv (ns : List Int) : Env := fun i => if i = 0 then some (.scr ns) else none
theorem sp_law {K : PySem.W.Frag} {cl : Nat → Addr} {B : Nat → Bool} {m : M Fl} {H : Hp} {a : Addr} {ns : List Int} (hO : Only H) (hS : SqL K H a (ns.map V.int)) (h : ∃ env', m (lawEnv ns) = .ok (.rt (.v (.bool true))) env') :
    spD ⟨K, cl⟩ B 1 m [.ref a] H (fun v _ => v = .bl true) fun _ _ _ => False := by
  obtain ⟨env', e⟩ := h
  refine ⟨rfl, fun b => b = a ∧ H a ≠ none, lawEnv ns, fun _ => noF, ⟨fun i t q => ?_, fun _ _ _ z => z, fun _ _ _ z => z.elim, fun _ _ z => z.elim, fun b z => ?_⟩, ?_⟩
  · unfold lawEnv at q
    by_cases c : i = 0
    · rw [if_pos c] at q
      cases q
      subst c
      refine ⟨.ref a, rfl, .scr ?_⟩
      rcases hS with z | z
      · refine .inl ⟨⟨rfl, fun w => ?_⟩, z⟩
        rcases z with z | ⟨o, z⟩
        · rw [w] at z; cases z
        · rw [w] at z; cases z
      · exact .inr (.inr z)
    · rw [if_neg c] at q; cases q
  · rw [z.1]; exact Option.ne_none_iff_exists'.mp z.2
  · rw [e]
    intro v H' F' fp' P r ht _ _
    obtain ⟨hf, _⟩ := ht.inv_v
    cases hf
    rfl
theorem pd_end {l : PySem.W.OpenLaw} {n k : Nat} {q : Program} {loose : List Str} {XP : (Str → Option Value) → Heap → Prop} {YP : World → Heap → Prop} {d : DefRec} {x : Str} {B : Nat → Bool} {m : M Fl}
    (hn : l.most = some n) (hn2 : n ≤ sizeLine) (hdf : d.params.defaults = []) (hr : Room k callerA) (hm : ∀ ns : List Int, ns.length ≤ n → ∃ env', m (lawEnv ns) = .ok (.rt (.v (.bool true))) env')
    (F : ∀ (w : World) (mg : Str → Option Value) (fa : Addr) (h : Heap), YP w h → h.Ns mainGlobals mg → mg d.name = some (.ref fa) →
      ∃ (K : PySem.W.Frag) (fd : FuncData) (cl : Nat → Addr), K.In h ∧ (∀ (s : Shared) (u : Value), BindsTo s fd ⟨[u], []⟩ [(x, u)]) ∧
        ∀ base : Heap, K.In base → base.Ns mainGlobals mg → DFn l.prog w K mg base k fa fd [x] (spD ⟨K, cl⟩ B 1 m)) :
    PySem.W.WalkO q loose XP YP l.row.toRowW d [] (fun f vs => PySem.call f vs) := by
  refine Att.attach_call hn hdf ?_
  intro w s₀ s₁ mg mb fa o pm cd doc a vs ns G Y ho hd hcd hmg hobj hints hlen hg
  obtain ⟨K, fd, cl, kx, hb, hF⟩ := F w mg fa _ Y G.T.g hmg
  exact end_call kx G.T.g G.T.b G.T.builtins G.T.nolimit hg hobj hints (Nat.le_trans hlen hn2) hr hF hb fun H hO hS => sp_law hO hS (hm ns hlen)

structure Fun (P : Program) (w : World) (K : PySem.W.Frag) (mg : Str → Option Value) (base : Heap) (cl : Nat → Addr) (x : Str) (k n : Nat) (B : Nat → Bool) (m : M Fl) : Prop where
  ex : ∃ (f : Addr) (fd : FuncData) (ps : List Str), DFn P w K mg base k f fd ps (spD ⟨K, cl⟩ B n m) ∧ mg x = some (.ref f) ∧ PySem.W.keepIn K (.ref f) = true ∧ Binds K fd ps []
theorem do_fun {X : Cx} {cl : Nat → Addr} {W : WX} {k j n : Nat} {x : Str} {e : Expr} {es : List Expr} {p pos : Pos} {B : Nat → Bool} {m : M Fl} {ma : M (List Opn)} (F : Fun X.prog X.w X.K X.mg X.base cl x k n B m) (hr : Room j X.A) (hkj : k ≤ j) (hgd : X.A.guards = some []) (hg : Gl X x)
    (tk : Takes X W) (ha : DLs X cl W (e :: es) ma) (hdb : (x == ("__debug__" : Str)) = false := by decide) (he : starEach (e :: es) X.env = (false, eval e X.env) :: starEach es X.env := by rfl)
    (hpl : (backTo pos (starEach es X.env)).any (·.1) = false := by rfl) : DO X cl W (.Call (.Name x p) (e :: es) [] pos) (mCall B n m ma) := by
  obtain ⟨f, fd, ps, h1, h2, h3, h4⟩ := F.ex
  exact do_call h1 (hr.mono hkj) hgd hg h2 h3 h4 tk ha hdb he hpl
theorem takes0 {X : Cx} : Takes X W0 := fun u s' h => by
  obtain ⟨_, _, _, _, _, _, _, _, _, _, _, _, _, _, _, _, z⟩ := h
  exact z.elim
theorem fun_of {P : Program} {w : World} {K : PySem.W.Frag} {mg : Str → Option Value} {base : Heap} {cl : Nat → Addr} {x q : Str} {k : Nat} {ar : Arguments} {body : List Stmt} {sc : Scope} {f : Addr} {fd : FuncData} {N ps : List Str} {B : Nat → Bool} {m : M Fl}
    (D : FunD K x q ar body sc [] [] f fd) (S : FnScope N ps sc) (hB : ∀ i, B i = true → i < ps.length)
    (hb : ∀ (cd : Value) (A : Around) (out : List PySem.Env) (s : Shared) (H : Hp) (E : XK), Room k (Bx P w K mg base N q sc f cd A out s H E).A → (Bx P w K mg base N q sc f cd A out s H E).A.guards = some [] →
      DSs (Bx P w K mg base N q sc f cd A out s H E) cl (wOf E) B body m) : DFn P w K mg base (k + 1) f fd ps (spD ⟨K, cl⟩ B ps.length m) := by
  obtain ⟨oc, od, dV, kV, doc, pm, an, cd, ct, osl, rfl, lk, hcd, _, _⟩ := D.ex
  exact dfn_sp lk hcd S hB fun A out s H E hr hg => hb cd A out s H E hr hg
theorem takesB {P : Program} {w : World} {K : PySem.W.Frag} {mg : Str → Option Value} {base : Heap} {N : List Str} {q : Str} {sc : Scope} {f : Addr} {cd : Value} {A : Around} {out : List PySem.Env} {s : Shared} {H : Hp} {E : XK} :
    Takes (Bx P w K mg base N q sc f cd A out s H E) (wOf E) := takes_of rfl rfl rfl rfl
theorem ownB {P : Program} {w : World} {K : PySem.W.Frag} {mg : Str → Option Value} {base : Heap} {N : List Str} {q : Str} {sc : Scope} {f : Addr} {cd : Value} {A : Around} {out : List PySem.Env} {s : Shared} {H : Hp} {E : XK} :
    PassesOwn (model P w) (Bx P w K mg base N q sc f cd A out s H E).A (Bx P w K mg base N q sc f cd A out s H E).env (Bx P w K mg base N q sc f cd A out s H E).xe := passes_of rfl
end PD

namespace PD
open PySem PySem.Spec PyProof.Rows L2

section
variable {X : Cx} {cl : Nat → Addr} {W : WX} {a b e : Expr} {me ma mb : M PyData} {mt : M T} {pos : Pos} {B : Nat → Bool}
theorem RT.inv_scr {Γ : Ctx} {H : Hp} {F P : Fs} {ns : List Int} {v : V} (h : RT Γ H F (.scr ns) v P) : ∃ a, v = .ref a ∧ SqL Γ.K H a (ns.map V.int) := by
  cases h with
  | @scr a _ hs =>
    refine ⟨a, rfl, ?_⟩
    rcases hs with ⟨_, h⟩ | h
    · exact .inl h
    · rcases h with (h | ⟨o, h⟩) | h
      · cases h
      · cases h
      · exact .inr h
def mScr (i : Nat) (k : Int) : M PyData := fun env => match env i with
  | some (.scr ns) => if 0 ≤ k then .ok (.list ((ns.take k.toNat).map .int)) env else .bad
  | _ => .bad
theorem frs_intl {K : PySem.W.Frag} {H : Hp} {F : Fs} : ∀ ns : List Int, FRs K H F (ns.map .int) (ns.map V.int)
  | [] => .nil
  | n :: ns => .cons (.int n) (frs_intl ns)
theorem de_scr (i : Nat) {k : Int} {x : Str} {p p1 p2 p3 p4 p5 : Pos} {j : Nat} (hg : Gl X "list") (hm : X.mg "list" = none) (hN : X.N[i]? = some x := by rfl) (hv : Vis X.env.scope x := by first | exact Or.inl rfl | exact Or.inr (Or.inl rfl) | exact Or.inr (Or.inr rfl)) (hd : (x == ("__debug__" : Str)) = false := by decide)
    (hcd : (x == ("__classdict__" : Str)) = false := by decide)
    (he : starEach [.Subscript (.Name x p1) (.Slice none (some (.Constant (.int k) j p2)) none p3) p4] X.env = (false, eval (.Subscript (.Name x p1) (.Slice none (some (.Constant (.int k) j p2)) none p3) p4) X.env) :: starEach [] X.env := by rfl)
    (hpl : (backTo p5 (starEach [] X.env)).any (·.1) = false := by rfl) :
    DE X cl W (.Call (.Name "list" p) [.Subscript (.Name x p1) (.Slice none (some (.Constant (.int k) j p2)) none p3) p4] [] p5) (mScr i k) := by
  refine PE.imp (pe_callTy call_list_of hg hm (by decide +kernel) (pa_cons (pe_slice sl_list (pe_var hN hv hd hcd) po_none (po_some pe_int)) pa_nil he) (by decide) (by decide) he hpl) fun σ H Q q => ?_
  obtain ⟨F, env, fp, r, hm⟩ := q
  have hm : Post ⟨X.K, cl⟩ W (relE ⟨X.K, cl⟩) σ H F fp Q (mScr i k env) := hm
  unfold mScr at hm
  cases e : env i with
  | none => simp only [e] at hm; exact hm.elim
  | some t =>
    cases t with
    | scr ns =>
      simp only [e] at hm
      by_cases hk : 0 ≤ k
      · rw [if_pos hk] at hm
        obtain ⟨v, hv, ht⟩ := r.rep i _ e
        obtain ⟨a, rfl, hs2⟩ := ht.inv_scr
        · refine ⟨.ref a, hv, k, rfl, a, ns.map V.int, rfl, hs2, fun p hp => ?_⟩
          have ec : cutV (ns.map V.int) none (some k) = (ns.take k.toNat).map V.int := by
            unfold cutV HT.sIx
            have nk : ¬ k < 0 := by omega
            simp only [if_neg nk]
            simp only [List.drop_zero, Nat.sub_zero, List.length_map]
            rw [← List.map_take]
            congr 1
            rcases Nat.le_total k.toNat ns.length with q | q
            · rw [Nat.min_eq_left q]
            · rw [Nat.min_eq_right q, List.take_of_length_le q, List.take_of_length_le (Nat.le_refl _)]
          refine ⟨p, _, rfl, .inl (SqL.of upd_same), fun l hl => ?_⟩
          rw [ec]
          rw [ec] at hl
          exact fin_lst (Post.rebase hm (ext_new hp fun a h => r.dom h)) (r.new hp) hl (frs_intl _)
      · rw [if_neg hk] at hm; exact hm.elim
    | _ => simp only [e] at hm; exact hm.elim
def asgEnd (tg : Tgt) (d : PyData) : M Fl := fun env => match tg d env with
  | some e => .ok .nx e
  | none => .bad
def sAsg (me : M PyData) (tg : Tgt) : M Fl := me >>= asgEnd tg
theorem ds_asg {tg : Expr} {mg : Tgt} (h : DE X cl W e me) (hg : DG X cl B tg mg) (hs : swapsWithSole [tg] e pos.line X.env = pure false := by rfl) (hw : swappedStores [tg] e X.env = pure none := by rfl)
    (h1 : (assignEach [tg] X.env).map (·.2) = [assign tg X.env] := by rfl) : DS X cl W B (.Assign [tg] e pos) (sAsg me mg) :=
  PS.imp (ps_asg h hg hs hw h1) fun D σ H q => G_stmE (k := asgEnd mg) q fun b H' F' env' fp' d r h1 hm => by
    unfold asgEnd at hm
    refine ⟨F', env', fp', d, r, h1, ?_⟩
    cases e : mg d env' with
    | none => rw [e] at hm; exact hm.elim
    | some e2 => rw [e] at hm; exact hm
abbrev DNs (X : Cx) (es : List Expr) (is : List Nat) : Prop := PGs X es fun vs σ H Q => vs.length = is.length ∧ Q (stAll is vs σ) H
theorem PGs.imp {X : Cx} {tg : List Expr} {t t' : TGs} (h : PGs X tg t) (i : ∀ v σ H Q, t' v σ H Q → t v σ H Q) : PGs X tg t' := PGs.impL h fun v σ H Q _ q => i v σ H Q q
theorem dns_nil : DNs X [] [] := PGs.imp pgs_nil fun v σ H Q ⟨h, q⟩ => by
  cases v with
  | nil => exact ⟨rfl, q⟩
  | cons _ _ => cases h
theorem dns_cons {i : Nat} {is : List Nat} {x : Str} {p : Pos} {es : List Expr} (hN : X.N.Nodup) (hi : X.N[i]? = some x) (hx : Loc X.env.scope x) (h2 : DNs X es is) (hf : X.fn x = true ∨ X.env.scope.names.lookup x = some .local := by first | exact .inl rfl | exact .inr rfl | assumption)
    (hs : (assignEach (.Name x p :: es) X.env).map (·.2) = assign (.Name x p) X.env :: (assignEach es X.env).map (·.2) := by rfl) : DNs X (.Name x p :: es) (i :: is) :=
  PGs.imp (pgs_cons (pg_name hN hi hx hf) h2 hs) fun v σ H Q ⟨h, q⟩ => by
    cases v with
    | nil => cases h
    | cons v vs => exact ⟨v, vs, rfl, by simpa using h, q⟩
theorem ds_parG {tgs es : List Expr} {is : List Nat} {k1 k2 : Nat} {p1 p2 : Pos} {ms : M (List T)} (hc : X.calm = true) (hi0 : (is.all fun i => decide (i < X.N.length) && !(B i)) = true) (hl : is.length ≤ sizeLine) (ha : DTL X cl W es ms) (hg : DNs X tgs is)
    (hn : (assignEach tgs X.env).length = is.length := by rfl) (hst : (assignEach tgs X.env).findIdx? (·.1) = none := by rfl)
    (hs : swapsWithSole [.Tuple tgs k1 p1] (.Tuple es k2 p2) pos.line X.env = pure false := by rfl) (hw : swappedStores [.Tuple tgs k1 p1] (.Tuple es k2 p2) X.env = pure none := by rfl)
    (h1 : (assignEach [.Tuple tgs k1 p1] X.env).map (·.2) = [assign (.Tuple tgs k1 p1) X.env] := by rfl) : DS X cl W B (.Assign [.Tuple tgs k1 p1] (.Tuple es k2 p2) pos) (sPar is ms) := by
  have hi : ∀ i, i ∈ is → i < X.N.length ∧ B i = false := fun i h => by
    have := List.all_eq_true.mp hi0 i h
    simpa using this
  refine PS.impL (ps_asg (pe_tup ha) (pg_tup hc hg hn hst) hs hw h1) fun D σ H hlen q => ?_
  refine G_stm (rel := relTs ⟨X.K, cl⟩) (k := parEnd is) q fun F fp vs H' F' env' fp' ts P r1 h1 hd x hm => ?_
  unfold parEnd at hm
  cases e : setAll is ts env' with
  | none => simp only [e] at hm; exact hm.elim
  | some e2 =>
    simp only [e] at hm
    have hle : vs.length = is.length := by
      rw [← h1.length]
      clear hm hd x r1 h1 q ha hg hn hst hs hw hi hi0 hl
      have : ∀ (is : List Nat) (ts : List T) (e1 e2 : Env), setAll is ts e1 = some e2 → ts.length = is.length := fun is => by
        induction is with
        | nil => intro ts e1 e2 h; cases ts <;> first | rfl | cases h
        | cons i is ih =>
          intro ts e1 e2 h
          cases ts with
          | nil => cases h
          | cons t ts => rw [List.length_cons, List.length_cons, ih ts _ _ h]
      exact this _ _ _ _ e
    refine ⟨by rw [hle]; exact hl, fun p hp => ?_⟩
    have k : ∀ a o, H' a = some o → upd H' p (.tup vs) a = some o := fun a o e => by rw [upd_ne (ne_of_none e hp)]; exact e
    have r2 : REnv ⟨X.K, cl⟩ (upd H' p (.tup vs)) F' env' σ fp' := ⟨fun i t e => (let ⟨v, h1, h2⟩ := r1.rep i t e; ⟨v, h1, h2.keep (fun a o _ e => k a o e) (fun _ z => z) fun a o _ e => k a o e⟩), r1.emp, r1.dis, r1.nf, fun a f => (let ⟨o, e⟩ := r1.fd a f; ⟨o, k a o e⟩)⟩
    have h2 : RTs ⟨X.K, cl⟩ (upd H' p (.tup vs)) F' ts vs P := h1.keep (fun a o _ e => k a o e) (fun _ z => z) fun a o _ e => k a o e
    obtain ⟨fp2, g1, g2, g3, g4⟩ := setAll_ok (B := B) is r2 h2 (fun a z => (let ⟨a1, a2, o, a3⟩ := hd a z; ⟨a1, a2, o, k a o a3⟩)) (fun i h => ⟨by rw [hlen]; exact (hi i h).1, (hi i h).2⟩) e
    refine ⟨p, vs, rfl, SqT.of upd_same, hle, hle, hm _ _ F' fp2 ⟨g1, fun _ z => z.elim, g2, g3, ⟨fun a o e n => k a o (x.keep a o e n), x.mono, fun a z => ?_, x.frz, fun fd a z => (let ⟨o, e⟩ := x.dom fd a z; ⟨o, k a o e⟩)⟩⟩⟩
    rcases z with z | z
    · exact z.elim
    · exact x.own a (g4 a z)
def ownOf (N : List Str) (vs : List Nat) : List (Str × Nat) := vs.map fun i => (N.getD i "", i)
theorem ownOf_snd (N : List Str) (vs : List Nat) : (ownOf N vs).map (·.2) = vs := by
  unfold ownOf
  rw [List.map_map]
  exact List.map_id _
section
variable {tg iter elt : Expr} {ifs : List Expr} {scope : Scope} {mi : M (List PyData)} {mg : Tgt} {mc : M Bool} {vs : List Nat}
theorem de_lcV (hc : X.calm = true) (hN : X.N.Nodup) (hi : DI X cl W tg iter mi) (ok : blkC X.N X.env.scope scope (ownOf X.N vs) = true)
    (hg : ∀ (s : Shared) (H : Hp) (C : Addr) (ce : List (Str × Addr)) (fp : List Addr), DG (X.blk s H scope (compEnvC scope ce C X.env) fp) cl (notIn vs) tg mg)
    (ht : ∀ (s : Shared) (H : Hp) (C : Addr) (ce : List (Str × Addr)) (fp : List Addr), DTs (X.blk s H scope (compEnvC scope ce C X.env) fp) cl W0 ifs mc)
    (he : ∀ (s : Shared) (H : Hp) (C : Addr) (ce : List (Str × Addr)) (fp : List Addr), DE (X.blk s H scope (compEnvC scope ce C X.env) fp) cl W0 elt me)
    (hs : ∀ x, foldedSetIterable iter X.env x = pure x := by intro _; rfl) : DE X cl W (.ListComp elt [⟨tg, iter, ifs, 0⟩] scope pos) (mLc mi mg mc me vs) := by
  have := de_lc (W := W) (pos := pos) hc hN hi (blkOk_by ok) (fun s H C ce fp => by rw [ownOf_snd]; exact hg s H C ce fp) ht he hs
  rw [ownOf_snd] at this
  exact this
theorem ds_setLcV {i : Nat} {y : Str} {py spos : Pos} (hy : X.N[i]? = some y) (hB : B i = false) (hyl : X.env.scope.names.lookup y = some .local) (hsw : swapsWith (.ListComp elt [⟨tg, iter, ifs, 0⟩] scope pos) (some (.Name y py)) spos.line X.env = pure true)
    (hc : X.calm = true) (hN : X.N.Nodup) (hi : DI X cl W tg iter mi) (ok : blkC X.N X.env.scope scope (ownOf X.N vs) = true)
    (hg : ∀ (s : Shared) (H : Hp) (C : Addr) (ce : List (Str × Addr)) (fp : List Addr), DG (X.blk s H scope (compEnvC scope ce C X.env) fp) cl (notIn vs) tg mg)
    (ht : ∀ (s : Shared) (H : Hp) (C : Addr) (ce : List (Str × Addr)) (fp : List Addr), DTs (X.blk s H scope (compEnvC scope ce C X.env) fp) cl W0 ifs mc)
    (he : ∀ (s : Shared) (H : Hp) (C : Addr) (ce : List (Str × Addr)) (fp : List Addr), DE (X.blk s H scope (compEnvC scope ce C X.env) fp) cl W0 elt me)
    (hs : ∀ x, foldedSetIterable iter X.env x = pure x := by intro _; rfl) : DS X cl W B (.Assign [.Name y py] (.ListComp elt [⟨tg, iter, ifs, 0⟩] scope pos) spos) (sSet i (mLc mi mg mc me vs)) := by
  have := ds_setLc (cl := cl) (W := W) (B := B) (pos := pos) (py := py) (spos := spos) hy hB hyl hsw hc hN hi (blkOk_by ok) (fun s H C ce fp => by rw [ownOf_snd]; exact hg s H C ce fp) ht he hs
  rw [ownOf_snd] at this
  exact this
end
def inLs (a : PyData) (ds : List PyData) : Option Bool := if (SeqAt.shaped a && SeqAt.shaped (.list ds)) = true then some (ds.any fun z => PyData.eqv z a) else none
def inTs (a : PyData) (ds : List PyData) : Option Bool := if (SeqAt.shaped a && SeqAt.shaped (.tuple ds)) = true then some (ds.any fun z => PyData.eqv z a) else none
def inL (a b : PyData) : Option Bool := match b with
  | .list ds => inLs a ds
  | .tuple ds => inTs a ds
  | _ => none
def rInT (K : PySem.W.Frag) : R2 := fun x y H Q => ∃ d ds, Dp K H x d ∧ Dp K H y (.tuple ds) ∧ SeqAt.shaped d = true ∧ SeqAt.shaped (.tuple ds) = true ∧ Q (.bl (ds.any fun z => PyData.eqv z d)) H
def rNotInT (K : PySem.W.Frag) : R2 := fun x y H Q => ∃ d ds, Dp K H x d ∧ Dp K H y (.tuple ds) ∧ SeqAt.shaped d = true ∧ SeqAt.shaped (.tuple ds) = true ∧ Q (.bl (!ds.any fun z => PyData.eqv z d)) H
theorem op_inT (hu : X.A.units + 65 < cLine) : OpR X (compareOp .In) (rInT X.K) := by
  intro pins s σ H x y v u Q I rx ry h
  obtain ⟨d, ds, hd, he, sd, se, q⟩ := h
  obtain ⟨as, r1⟩ := Dp.reads I d x v hd rx
  obtain ⟨bs, r2⟩ := Dp.reads I (.tuple ds) y u he ry
  exact SeqAt.in_tuple_reads r2 r1 (SeqAt.canLay_of_shaped se) (SeqAt.canLay_of_shaped sd) (room_in_shaped sd hu) ⟨.bl _, H, I, rfl, q⟩
theorem op_notInT (hu : X.A.units + 65 < cLine) : OpR X (compareOp .NotIn) (rNotInT X.K) := by
  intro pins s σ H x y v u Q I rx ry h
  obtain ⟨d, ds, hd, he, sd, se, q⟩ := h
  obtain ⟨as, r1⟩ := Dp.reads I d x v hd rx
  obtain ⟨bs, r2⟩ := Dp.reads I (.tuple ds) y u he ry
  exact SeqAt.notIn_tuple_reads r2 r1 (SeqAt.canLay_of_shaped se) (SeqAt.canLay_of_shaped sd) (room_in_shaped sd hu) ⟨.bl _, H, I, rfl, q⟩
theorem inL_ok {K : PySem.W.Frag} : CmpOk K inL (fun x y H Q => rInD K x y H Q ∨ rInT K x y H Q) := ⟨fun F x y H Q d d' k h1 h2 e q => by
  cases h2 with
  | @lst a vs ds f hh r =>
    replace e : inLs d ds = some k := e
    unfold inLs at e
    by_cases c : (SeqAt.shaped d && SeqAt.shaped (.list ds)) = true
    · rw [if_pos c] at e
      rw [Bool.and_eq_true] at c
      cases e
      exact .inl ⟨d, ds, h1.dp (SeqAt.canLay_of_shaped c.1), FR.dp (.lst f hh r) (SeqAt.canLay_of_shaped c.2), c.1, c.2, q⟩
    · rw [if_neg c] at e; cases e
  | @tup a vs ds f hh r =>
    replace e : inTs d ds = some k := e
    unfold inTs at e
    by_cases c : (SeqAt.shaped d && SeqAt.shaped (.tuple ds)) = true
    · rw [if_pos c] at e
      rw [Bool.and_eq_true] at c
      cases e
      exact .inr ⟨d, ds, h1.dp (SeqAt.canLay_of_shaped c.1), FR.dp (.tup f hh r) (SeqAt.canLay_of_shaped c.2), c.1, c.2, q⟩
    · rw [if_neg c] at e; cases e
  | _ => cases e⟩
theorem ninL_ok {K : PySem.W.Frag} : CmpOk K (fun a b => (inL a b).map not) (fun x y H Q => rNotInD K x y H Q ∨ rNotInT K x y H Q) := ⟨fun F x y H Q d d' k h1 h2 e q => by
  obtain ⟨k', e1, rfl⟩ := Option.map_eq_some_iff.mp e
  rcases inL_ok.ok F x y H (fun z H' => ∃ k, z = .bl k ∧ Q (.bl (!k)) H') d d' k' h1 h2 e1 ⟨k', rfl, q⟩ with ⟨d1, d2, a1, a2, a3, a4, k2, h5, h6⟩ | ⟨d1, d2, a1, a2, a3, a4, k2, h5, h6⟩
  · cases h5
    exact .inl ⟨d1, d2, a1, a2, a3, a4, h6⟩
  · cases h5
    exact .inr ⟨d1, d2, a1, a2, a3, a4, h6⟩⟩
def ninL (a b : PyData) : Option Bool := (inL a b).map not
theorem c_in (hu : X.A.units + 65 < cLine) : Cmp X .In inL := ⟨_, OpR.or (op_inD hu) (op_inT hu), inL_ok⟩
theorem c_notIn (hu : X.A.units + 65 < cLine) : Cmp X .NotIn ninL := ⟨_, OpR.or (op_notInD hu) (op_notInT hu), ninL_ok⟩
theorem hu_of {k : Nat} {A : Around} (r : Room k A) : A.units + 64 < cLine := by have := r.un; omega
theorem hu5_of {k : Nat} {A : Around} (r : Room k A) : A.units + 65 < cLine := by have := r.un; omega
end
section
variable {X : Cx} {cl : Nat → Addr} {W : WX} {a b : Expr} {m m' : M Bool} {ma mb : M PyData} {pos : Pos}
theorem dw_and2 (h : DT X cl W a m) (h2 : DT X cl W b m') : DW X cl W (.BoolOp .And [a, b] pos) (mAnd m m') := dw_and h (dw_and1 h2)
theorem dw_or2 (h : DT X cl W a m) (h2 : DT X cl W b m') : DW X cl W (.BoolOp .Or [a, b] pos) (mOr m m') := dw_or h (dw_or1 h2)
theorem de_and2 (h : DE X cl W a ma) (h2 : DE X cl W b mb) : DE X cl W (.BoolOp .And [a, b] pos) (mAndV ma mb) := de_and h (de_one h2)
end
def lent (l : List Nat) : Nat → Bool := fun i => l.contains i
theorem lent_lt {l : List Nat} {n : Nat} (h : l.all (fun i => decide (i < n)) = true) : ∀ i, lent l i = true → i < n := fun i q => by
  unfold lent at q
  have := List.all_eq_true.mp h i (by simpa using q)
  exact of_decide_eq_true this
theorem bb_tuple : bootBuiltins "tuple" = some (.type "tuple") := by decide +kernel
theorem bb_list : bootBuiltins "list" = some (.type "list") := by decide +kernel
theorem bb_int : bootBuiltins "int" = some (.type "int") := by decide +kernel
theorem bb_sorted : bootBuiltins "sorted" = some (.builtin "sorted") := by decide +kernel
theorem bb_repr : bootBuiltins "repr" = some (.builtin "repr") := by decide +kernel

end PD

namespace PD
open PySem PySem.Spec PyProof.Rows L2

def Res.on {α : Type} (r : Res α) (Φ : α → Env → Prop) (Ψ : Exn → Env → Prop) : Prop := match r with
  | .ok a e' => Φ a e'
  | .exc x e' => Ψ x e'
  | .bad => False
@[simp] theorem on_ok {α : Type} {a : α} {e : Env} {Φ : α → Env → Prop} {Ψ : Exn → Env → Prop} : Res.on (.ok a e) Φ Ψ = Φ a e := rfl
@[simp] theorem on_exc {α : Type} {x : Exn} {e : Env} {Φ : α → Env → Prop} {Ψ : Exn → Env → Prop} : Res.on (.exc x e : Res α) Φ Ψ = Ψ x e := rfl
@[simp] theorem on_bad {α : Type} {Φ : α → Env → Prop} {Ψ : Exn → Env → Prop} : Res.on (.bad : Res α) Φ Ψ = False := rfl
def wp {α : Type} (m : M α) (e : Env) (Φ : α → Env → Prop) (Ψ : Exn → Env → Prop) : Prop := (m e).on Φ Ψ
section
variable {α β : Type} {m : M α} {e : Env} {Φ Φ' : α → Env → Prop} {Ψ Ψ' : Exn → Env → Prop}
theorem wp_ok (h : wp m e Φ fun _ _ => False) : ∃ a e', m e = .ok a e' ∧ Φ a e' := by
  unfold wp at h
  cases q : m e with
  | ok a e' => rw [q] at h; exact ⟨a, e', rfl, h⟩
  | exc x e' => rw [q] at h; exact h.elim
  | bad => rw [q] at h; exact h.elim
theorem wp_mono (h : wp m e Φ Ψ) (i : ∀ a e', Φ a e' → Φ' a e') (j : ∀ x e', Ψ x e' → Ψ' x e' := by intro _ _ h; exact h) : wp m e Φ' Ψ' := by
  unfold wp at h ⊢
  cases q : m e with
  | ok a e' => rw [q] at h; exact i _ _ h
  | exc x e' => rw [q] at h; exact j _ _ h
  | bad => rw [q] at h; exact h
@[simp] theorem wp_bind {k : α → M β} {Φ : β → Env → Prop} : wp (m >>= k) e Φ Ψ = wp m e (fun a e1 => wp (k a) e1 Φ Ψ) Ψ := by
  unfold wp
  cases q : m e with
  | ok a e' => rw [bind_ok q]; rfl
  | exc x e' => rw [bind_exc q]; rfl
  | bad => rw [bind_bad q]; rfl
@[simp] theorem wp_pure {a : α} : wp (pure a : M α) e Φ Ψ = Φ a e := rfl
@[simp] theorem wp_bad : wp (M.bad : M α) e Φ Ψ = False := rfl
@[simp] theorem wp_lift {o : Option α} : wp (lift o) e Φ Ψ = ∃ k, o = some k ∧ Φ k e := by
  unfold wp lift
  cases o with
  | none => simp
  | some k => simp
@[simp] theorem wp_mC {d : PyData} {Φ : PyData → Env → Prop} : wp (mC d) e Φ Ψ = Φ d e := rfl
def onVar (t : Option T) (A B : PyData → Prop) : Prop := match t with
  | none => False
  | some (.v d) => A d
  | some t => ∃ d, t.fz = some d ∧ B d
@[simp] theorem onVar_v {d : PyData} {A B : PyData → Prop} : onVar (some (.v d)) A B = A d := rfl
@[simp] theorem onVar_lst {l : List T} {A B : PyData → Prop} : onVar (some (.lst l)) A B = ∃ d, T.fz (.lst l) = some d ∧ B d := rfl
@[simp] theorem onVar_dT {ks : List (List Key)} {l : List T} {A B : PyData → Prop} : onVar (some (.dT ks l)) A B = ∃ d, T.fz (.dT ks l) = some d ∧ B d := rfl
@[simp] theorem onVar_dK {ks : List Key} {l : List T} {A B : PyData → Prop} : onVar (some (.dK ks l)) A B = ∃ d, T.fz (.dK ks l) = some d ∧ B d := rfl
@[simp] theorem wp_mVar {i : Nat} {Φ : PyData → Env → Prop} : wp (mVar i) e Φ Ψ = onVar (e i) (fun d => Φ d e) (fun d => Φ d (setE e i (some (.v d)))) := by
  unfold wp mVar onVar
  cases h : e i with
  | none => simp
  | some t =>
    cases t with
    | v d => rfl
    | lst l => cases h2 : T.fz (.lst l) <;> simp [h2]
    | dK a b => cases h2 : T.fz (.dK a b) <;> simp [h2]
    | dT a b => cases h2 : T.fz (.dT a b) <;> simp [h2]
    | obj a b c => cases h2 : T.fz (.obj a b c) <;> simp [h2]
    | scr a => cases h2 : T.fz (.scr a) <;> simp [h2]
    | dN a => cases h2 : T.fz (.dN a) <;> simp [h2]
@[simp] theorem wp_mBin {f : PyData → PyData → Option PyData} {ma mb : M PyData} {Φ : PyData → Env → Prop} : wp (mBin f ma mb) e Φ Ψ = wp ma e (fun a e1 => wp mb e1 (fun b e2 => ∃ c, f a b = some c ∧ Φ c e2) Ψ) Ψ := by
  unfold mBin; simp
@[simp] theorem wp_mUn {f : PyData → Option PyData} {ma : M PyData} {Φ : PyData → Env → Prop} : wp (mUn f ma) e Φ Ψ = wp ma e (fun a e1 => ∃ c, f a = some c ∧ Φ c e1) Ψ := by unfold mUn; simp
@[simp] theorem wp_mArgs {f : List PyData → Option PyData} {ma : M (List PyData)} {Φ : PyData → Env → Prop} : wp (mArgs f ma) e Φ Ψ = wp ma e (fun a e1 => ∃ c, f a = some c ∧ Φ c e1) Ψ := by unfold mArgs; simp
@[simp] theorem wp_aNil {Φ : List PyData → Env → Prop} : wp aNil e Φ Ψ = Φ [] e := rfl
@[simp] theorem wp_aCons {ma : M PyData} {mr : M (List PyData)} {Φ : List PyData → Env → Prop} : wp (aCons ma mr) e Φ Ψ = wp ma e (fun a e1 => wp mr e1 (fun r e2 => Φ (a :: r) e2) Ψ) Ψ := by unfold aCons; simp
@[simp] theorem wp_mFr {ma : M PyData} {Φ : Opn → Env → Prop} : wp (mFr ma) e Φ Ψ = wp ma e (fun a e1 => Φ (.fr a) e1) Ψ := by unfold mFr; simp
@[simp] theorem wp_mPk {i : Nat} {Φ : Opn → Env → Prop} : wp (mPk i) e Φ Ψ = ((∃ t, e i = some t) ∧ Φ (.pk i) e) := by
  unfold wp mPk
  cases h : e i with
  | none => simp
  | some t => simp
@[simp] theorem read_fr {d : PyData} : Opn.read e (.fr d) = some d := rfl
@[simp] theorem read_pk {i : Nat} : Opn.read e (.pk i) = (e i).bind T.fz := rfl
@[simp] theorem wp_rd1 {f : PyData → Option α} {a : Opn} : wp (rd1 f a) e Φ Ψ = ∃ x, a.read e = some x ∧ ∃ k, f x = some k ∧ Φ k e := by
  unfold wp rd1
  cases h : a.read e with
  | none => simp
  | some x =>
    cases h2 : f x with
    | none => simp [h2]
    | some k => simp [h2]
@[simp] theorem wp_rd2 {f : PyData → PyData → Option α} {a b : Opn} : wp (rd2 f a b) e Φ Ψ = ∃ x, a.read e = some x ∧ ∃ y, b.read e = some y ∧ ∃ k, f x y = some k ∧ Φ k e := by
  unfold wp rd2
  cases h : a.read e with
  | none => simp
  | some x =>
    cases h1 : b.read e with
    | none => simp
    | some y =>
      cases h2 : f x y with
      | none => simp [h2]
      | some k => simp [h2]
@[simp] theorem wp_mCmp {f : PyData → PyData → Option Bool} {la lb : M Opn} {Φ : Bool → Env → Prop} : wp (mCmp f la lb) e Φ Ψ = wp la e (fun a e1 => wp lb e1 (fun b e2 => ∃ x, a.read e2 = some x ∧ ∃ y, b.read e2 = some y ∧ ∃ k, f x y = some k ∧ Φ k e2) Ψ) Ψ := by unfold mCmp; simp
@[simp] theorem wp_mB {mb : M Bool} {Φ : PyData → Env → Prop} : wp (mB mb) e Φ Ψ = wp mb e (fun k e1 => Φ (.bool k) e1) Ψ := by unfold mB; simp
@[simp] theorem wp_mTru {la : M Opn} {Φ : Bool → Env → Prop} : wp (mTru la) e Φ Ψ = wp la e (fun a e1 => ∃ x, a.read e1 = some x ∧ ∃ k, truD x = some k ∧ Φ k e1) Ψ := by unfold mTru; simp
@[simp] theorem wp_mLen {la : M Opn} {Φ : PyData → Env → Prop} : wp (mLen la) e Φ Ψ = wp la e (fun a e1 => ∃ x, a.read e1 = some x ∧ ∃ k, lenD x = some k ∧ Φ k e1) Ψ := by unfold mLen; simp
theorem wp_ite {c : Prop} [Decidable c] {m' : M α} : wp (if c then m else m') e Φ Ψ = if c then wp m e Φ Ψ else wp m' e Φ Ψ := by split <;> rfl
@[simp] theorem wp_mAnd {m m' : M Bool} {Φ : Bool → Env → Prop} : wp (mAnd m m') e Φ Ψ = wp m e (fun k e1 => if k = true then wp m' e1 Φ Ψ else Φ false e1) Ψ := by unfold mAnd; simp [wp_ite]
@[simp] theorem wp_mOr {m m' : M Bool} {Φ : Bool → Env → Prop} : wp (mOr m m') e Φ Ψ = wp m e (fun k e1 => if k = true then Φ true e1 else wp m' e1 Φ Ψ) Ψ := by unfold mOr; simp [wp_ite]
@[simp] theorem wp_mNot {m : M Bool} {Φ : Bool → Env → Prop} : wp (mNot m) e Φ Ψ = wp m e (fun k e1 => Φ (!k) e1) Ψ := by unfold mNot; simp
@[simp] theorem wp_mIf {c : M Bool} {ma mb : M PyData} {Φ : PyData → Env → Prop} : wp (mIf c ma mb) e Φ Ψ = wp c e (fun k e1 => if k = true then wp ma e1 Φ Ψ else wp mb e1 Φ Ψ) Ψ := by unfold mIf; simp [wp_ite]
@[simp] theorem wp_mFz {mt : M T} {Φ : PyData → Env → Prop} : wp (mFz mt) e Φ Ψ = wp mt e (fun t e1 => ∃ d, t.fz = some d ∧ Φ d e1) Ψ := by unfold mFz; simp
@[simp] theorem wp_mV {ma : M PyData} {Φ : T → Env → Prop} : wp (mV ma) e Φ Ψ = wp ma e (fun d e1 => Φ (.v d) e1) Ψ := by unfold mV; simp
@[simp] theorem fz_v {d : PyData} : T.fz (.v d) = some d := by rw [T.fz]
@[simp] theorem fz_lst {l : List T} : T.fz (.lst l) = (T.fzs l).map .list := by rw [T.fz]
@[simp] theorem fzs_v : ∀ ds : List PyData, T.fzs (ds.map T.v) = some ds
  | [] => by rw [List.map_nil, T.fzs]
  | d :: ds => by rw [List.map_cons, T.fzs, fzs_v ds]; simp
@[simp] theorem fzs_nil : T.fzs [] = some [] := by rw [T.fzs]
@[simp] theorem wp_mLstO {ms : M (List T)} {Φ : T → Env → Prop} : wp (mLstO ms) e Φ Ψ = wp ms e (fun ts e1 => ts.length ≤ sizeLine ∧ Φ (.lst ts) e1) Ψ := by
  unfold mLstO
  simp only [wp_bind, wp_lift]
  congr 1
  funext ts e1
  by_cases c : ts.length ≤ sizeLine
  · simp [c]
  · simp [c]
@[simp] theorem wp_tNl {Φ : List T → Env → Prop} : wp tNl e Φ Ψ = Φ [] e := rfl
@[simp] theorem wp_tCn {mt : M T} {mr : M (List T)} {Φ : List T → Env → Prop} : wp (tCn mt mr) e Φ Ψ = wp mt e (fun a e1 => wp mr e1 (fun r e2 => Φ (a :: r) e2) Ψ) Ψ := by unfold tCn; simp
@[simp] theorem wp_mDT0 {Φ : T → Env → Prop} : wp mDT0 e Φ Ψ = Φ (.dT [] []) e := rfl
@[simp] theorem wp_mDK0 {Φ : T → Env → Prop} : wp mDK0 e Φ Ψ = Φ (.dK [] []) e := rfl
@[simp] theorem wp_mUnO {f : PyData → Option PyData} {ma : M PyData} {Φ : T → Env → Prop} : wp (mUnO f ma) e Φ Ψ = wp ma e (fun a e1 => ∃ d, f a = some d ∧ ∃ t, ownL d = some t ∧ Φ t e1) Ψ := by
  unfold mUnO
  simp only [wp_bind, wp_lift, Option.bind_eq_some_iff]
  congr 1
  funext a e1
  apply propext
  constructor
  · rintro ⟨t, ⟨d, h1, h2⟩, h3⟩; exact ⟨d, h1, t, h2, h3⟩
  · rintro ⟨d, h1, t, h2, h3⟩; exact ⟨t, ⟨d, h1, h2⟩, h3⟩
@[simp] theorem wp_mThere {i : Nat} {Φ : Unit → Env → Prop} : wp (mThere i) e Φ Ψ = ((∃ t, e i = some t) ∧ Φ () e) := by
  unfold wp mThere
  cases h : e i with
  | none => simp
  | some t => simp
@[simp] theorem wp_mLstAt {i : Nat} {Φ : Unit → Env → Prop} : wp (mLstAt i) e Φ Ψ = ((∃ l, e i = some (.lst l)) ∧ Φ () e) := by
  unfold wp mLstAt
  cases h : e i with
  | none => simp
  | some t => cases t <;> simp
@[simp] theorem wp_mIxP {i : Nat} {mb : M PyData} {Φ : PyData → Env → Prop} : wp (mIxP i mb) e Φ Ψ = ((∃ t, e i = some t) ∧ wp mb e (fun k e1 => ∃ t, e1 i = some t ∧ ∃ d, atT t k = some d ∧ Φ d e1) Ψ) := by
  unfold mIxP
  simp only [wp_bind, wp_mThere]
  congr 2
  funext k e1
  unfold wp ixEnd
  cases h : e1 i with
  | none => simp
  | some t =>
    cases h2 : atT t k with
    | none => simp [h2]
    | some d => simp [h2]
@[simp] theorem wp_mScr {i : Nat} {k : Int} {Φ : PyData → Env → Prop} : wp (mScr i k) e Φ Ψ = ∃ ns, e i = some (.scr ns) ∧ 0 ≤ k ∧ Φ (.list ((ns.take k.toNat).map .int)) e := by
  unfold wp mScr
  cases h : e i with
  | none => simp
  | some t =>
    cases t with
    | scr ns =>
      by_cases c : 0 ≤ k
      · simp [c]
      · simp [c]
    | _ => simp
@[simp] theorem wp_mAppend {i : Nat} {mt : M T} {Φ : PyData → Env → Prop} : wp (mAppend i mt) e Φ Ψ = ((∃ l, e i = some (.lst l)) ∧ wp mt e (fun t e1 => ∃ l, e1 i = some (.lst l) ∧ l.length < sizeLine ∧ Φ .none (setE e1 i (some (.lst (l ++ [t]))))) Ψ) := by
  unfold mAppend
  simp only [wp_bind, wp_mLstAt]
  congr 2
  funext t e1
  unfold wp pushT
  cases h : e1 i with
  | none => simp
  | some u =>
    cases u with
    | lst l =>
      by_cases c : l.length < sizeLine
      · simp [c]
      · simp [c]
    | _ => simp
theorem wp_takeT {i : Nat} {j : Int} {Φ : T → Env → Prop} : wp (takeT i j) e Φ Ψ = ∃ l, e i = some (.lst l) ∧ ∃ n, L2.ixN l.length j = some n ∧ ∃ t, l[n]? = some t ∧ Φ t (setE e i (some (.lst (l.eraseIdx n)))) := by
  unfold wp takeT
  cases h : e i with
  | none => simp
  | some u =>
    cases u with
    | lst l =>
      cases h2 : L2.ixN l.length j with
      | none => simp [h2]
      | some n =>
        cases h3 : l[n]? with
        | none => simp [h2, h3]
        | some t => simp [h2, h3]
    | _ => simp
@[simp] theorem wp_mPopAt {i : Nat} {mk : M PyData} {Φ : T → Env → Prop} : wp (mPopAt i mk) e Φ Ψ = ((∃ l, e i = some (.lst l)) ∧ wp mk e (fun k e1 => ∃ j, k = .int j ∧ (-(2 ^ 63) ≤ j ∧ j < 2 ^ 63) ∧ ∃ l, e1 i = some (.lst l) ∧ ∃ n, L2.ixN l.length j = some n ∧ ∃ t, l[n]? = some t ∧ Φ t (setE e1 i (some (.lst (l.eraseIdx n))))) Ψ) := by
  unfold mPopAt
  simp only [wp_bind, wp_mLstAt]
  congr 2
  funext k e1
  cases k with
  | int j =>
    by_cases c : -(2 ^ 63) ≤ j ∧ j < 2 ^ 63
    · simp [c, wp_ite, wp_takeT]
    · simp only [wp_ite, if_neg c]
      apply propext
      constructor
      · exact fun h => h.elim
      · rintro ⟨j', h1, h2, _⟩; cases h1; exact c h2
  | _ =>
    apply propext
    constructor
    · exact fun h => h.elim
    · rintro ⟨j', h1, _⟩; cases h1
@[simp] theorem wp_sNil {Φ : Fl → Env → Prop} : wp sNil e Φ Ψ = Φ .nx e := rfl
theorem wp_sSeq {m m' : M Fl} {Φ : Fl → Env → Prop} : wp (sSeq m m') e Φ Ψ = wp m e (fun f e1 => match f with | .nx => wp m' e1 Φ Ψ | .bk => Φ .bk e1 | .ct => Φ .ct e1 | .rt t => Φ (.rt t) e1) Ψ := by
  unfold sSeq
  rw [wp_bind]
  congr 1
  funext f e1
  cases f <;> rfl
@[simp] theorem wp_sRet {ma : M PyData} {Φ : Fl → Env → Prop} : wp (sRet ma) e Φ Ψ = wp ma e (fun d e1 => Φ (.rt (.v d)) e1) Ψ := by unfold sRet; simp
@[simp] theorem wp_sRetO {ma : M T} {Φ : Fl → Env → Prop} : wp (sRetO ma) e Φ Ψ = wp ma e (fun d e1 => Φ (.rt d) e1) Ψ := by unfold sRetO; simp
@[simp] theorem wp_sRetN {Φ : Fl → Env → Prop} : wp sRetN e Φ Ψ = Φ (.rt (.v .none)) e := rfl
@[simp] theorem wp_sBrk {Φ : Fl → Env → Prop} : wp sBrk e Φ Ψ = Φ .bk e := rfl
@[simp] theorem wp_sCont {Φ : Fl → Env → Prop} : wp sCont e Φ Ψ = Φ .ct e := rfl
@[simp] theorem wp_sExpr {ma : M PyData} {Φ : Fl → Env → Prop} : wp (sExpr ma) e Φ Ψ = wp ma e (fun d e1 => Φ .nx e1) Ψ := by unfold sExpr; simp
@[simp] theorem wp_sSet {i : Nat} {ma : M PyData} {Φ : Fl → Env → Prop} : wp (sSet i ma) e Φ Ψ = wp ma e (fun d e1 => Φ .nx (setE e1 i (some (.v d)))) Ψ := by unfold sSet; simp; rfl
@[simp] theorem wp_sSetO {i : Nat} {ma : M T} {Φ : Fl → Env → Prop} : wp (sSetO i ma) e Φ Ψ = wp ma e (fun d e1 => Φ .nx (setE e1 i (some d))) Ψ := by unfold sSetO; simp; rfl
theorem wp_sIf {c : M Bool} {m m' : M Fl} {Φ : Fl → Env → Prop} : wp (sIf c m m') e Φ Ψ = wp c e (fun k e1 => if k = true then wp m e1 Φ Ψ else wp m' e1 Φ Ψ) Ψ := by unfold sIf; simp [wp_ite]
@[simp] theorem wp_sPar {is : List Nat} {ms : M (List T)} {Φ : Fl → Env → Prop} : wp (sPar is ms) e Φ Ψ = wp ms e (fun ts e1 => ∃ e2, setAll is ts e1 = some e2 ∧ Φ .nx e2) Ψ := by
  unfold sPar
  rw [wp_bind]
  congr 1
  funext ts e1
  unfold wp parEnd
  cases h : setAll is ts e1 with
  | none => simp
  | some e2 => simp
@[simp] theorem setAll_nil : setAll [] [] e = some e := rfl
@[simp] theorem setAll_cons {i : Nat} {is : List Nat} {t : T} {ts : List T} : setAll (i :: is) (t :: ts) e = setAll is ts (setE e i (some t)) := rfl
@[simp] theorem wp_sAsg {ma : M PyData} {tg : Tgt} {Φ : Fl → Env → Prop} : wp (sAsg ma tg) e Φ Ψ = wp ma e (fun d e1 => ∃ e2, tg d e1 = some e2 ∧ Φ .nx e2) Ψ := by
  unfold sAsg
  rw [wp_bind]
  congr 1
  funext d e1
  unfold wp asgEnd
  cases h : tg d e1 with
  | none => simp
  | some e2 => simp
@[simp] theorem wp_sSetIx {i : Nat} {mt : M T} {mk : M PyData} {Φ : Fl → Env → Prop} : wp (sSetIx i mt mk) e Φ Ψ = wp mt e (fun t e1 => (∃ u, e1 i = some u) ∧ wp mk e1 (fun k e2 => ∃ l, e2 i = some (.lst l) ∧ ∃ j, k = .int j ∧ ∃ n, L2.ixN l.length j = some n ∧ Φ .nx (setE e2 i (some (.lst (l.set n t))))) Ψ) Ψ := by
  unfold sSetIx
  simp only [wp_bind, wp_mThere]
  congr 1
  funext t e1
  congr 2
  funext k e2
  unfold wp putIx
  cases h : e2 i with
  | none => simp
  | some u =>
    cases u with
    | lst l =>
      cases k with
      | int j =>
        cases h2 : L2.ixN l.length j with
        | none => simp [h2]
        | some n => simp [h2]
      | _ => simp
    | _ => simp
@[simp] theorem wp_sPutD {i : Nat} {me mk : M PyData} {Φ : Fl → Env → Prop} : wp (sPutD i me mk) e Φ Ψ = wp me e (fun d e1 => (∃ u, e1 i = some u) ∧ wp mk e1 (fun k e2 => wp (putD i d k) e2 Φ Ψ) Ψ) Ψ := by
  unfold sPutD
  simp only [wp_bind, wp_mThere]
theorem wp_putDT {i : Nat} {d k : PyData} {ks : List (List Key)} {ts : List T} {a : List Key} {Φ : Fl → Env → Prop} (h : e i = some (.dT ks ts)) (hk : keysOf k = some a) (h1 : ks.length < sizeLine) (h2 : ks.length = ts.length)
    (q : Φ .nx (setE e i (some (.dT (putKs ks ts a d).1 (putKs ks ts a d).2)))) : wp (putD i d k) e Φ Ψ := by
  unfold wp putD
  simp only [h, hk]
  rw [if_pos ⟨h1, h2⟩]
  exact q
@[simp] theorem setE_at {i j : Nat} {t : Option T} : setE e i t j = if j = i then t else e j := rfl
@[simp] theorem wp_oNil {Φ : List Opn → Env → Prop} : wp oNil e Φ Ψ = Φ [] e := rfl
@[simp] theorem wp_oCons {ma : M Opn} {mr : M (List Opn)} {Φ : List Opn → Env → Prop} : wp (oCons ma mr) e Φ Ψ = wp ma e (fun a e1 => wp mr e1 (fun r e2 => Φ (a :: r) e2) Ψ) Ψ := by unfold oCons; simp
theorem wp_mCall {B : Nat → Bool} {n : Nat} {f : M Fl} {ma : M (List Opn)} {Φ : T → Env → Prop} : wp (mCall B n f ma) e Φ Ψ = wp ma e (fun as e1 => (as.length = n ∧ lentOk B 0 as = true) ∧ wp f (inE as e1) (fun fl e2 => ∃ t, resT fl = some t ∧ Φ t (outE as e1 e2)) (fun x e2 => Ψ x (outE as e1 e2))) Ψ := by
  unfold mCall
  rw [wp_bind]
  congr 1
  funext as e1
  unfold wp callEnd
  by_cases c : as.length = n ∧ lentOk B 0 as = true
  · rw [if_pos c]
    cases h : f (inE as e1) with
    | bad => simp
    | exc x e2 => simp [c.1, c.2]
    | ok fl e2 =>
      cases h2 : resT fl with
      | none => simp [h2]
      | some t => simp [h2, c.1, c.2]
  · rw [if_neg c]
    apply propext
    exact ⟨fun h => h.elim, fun h => c h.1⟩
@[simp] theorem resT_rt {t : T} : resT (.rt t) = some t := rfl
@[simp] theorem resT_nx : resT .nx = some (.v .none) := rfl
theorem wp_sFor {it : M (List PyData)} {tg : Tgt} {b : M Fl} {Φ : Fl → Env → Prop} : wp (sFor it tg b) e Φ Ψ = wp it e (fun xs e1 => wp (forL tg b xs) e1 Φ Ψ) Ψ := by unfold sFor; simp
theorem wp_forL {tg : Tgt} {b : M Fl} {Φ : Fl → Env → Prop} (I : List PyData → Env → Prop) : ∀ (xs : List PyData) {e : Env}, I xs e → (∀ e, I [] e → Φ .nx e) →
    (∀ x xs e, I (x :: xs) e → ∃ e1, tg x e = some e1 ∧ wp b e1 (fun f e2 => match f with | .nx => I xs e2 | .ct => I xs e2 | .bk => Φ .nx e2 | .rt t => Φ (.rt t) e2) Ψ) → wp (forL tg b xs) e Φ Ψ
  | [], e, h, h0, _ => h0 e h
  | x :: xs, e, h, h0, h1 => by
    obtain ⟨e1, ht, hb⟩ := h1 x xs e h
    unfold wp at hb ⊢
    unfold forL
    simp only [ht]
    cases q : b e1 with
    | bad => rw [q] at hb; exact hb
    | exc y e2 => rw [q] at hb; exact hb
    | ok f e2 =>
      rw [q] at hb
      cases f with
      | nx => exact wp_forL I xs hb h0 h1
      | ct => exact wp_forL I xs hb h0 h1
      | bk => exact hb
      | rt t => exact hb
@[simp] theorem wp_mI {f : PyData → Option (List PyData)} {ma : M PyData} {Φ : List PyData → Env → Prop} : wp (mI f ma) e Φ Ψ = wp ma e (fun a e1 => ∃ l, f a = some l ∧ Φ l e1) Ψ := by unfold mI; simp
@[simp] theorem wp_mIA {f : List PyData → Option (List PyData)} {ma : M (List PyData)} {Φ : List PyData → Env → Prop} : wp (mIA f ma) e Φ Ψ = wp ma e (fun a e1 => ∃ l, f a = some l ∧ Φ l e1) Ψ := by unfold mIA; simp
theorem wp_sWhile {c : M Bool} {b : M Fl} {Φ : Fl → Env → Prop} (I : Nat → Env → Prop) (h1 : ∀ n e, I n e → wp c e (fun k e1 => if k = true then wp b e1 (fun f e2 => match f with | .nx => ∃ n', n' < n ∧ I n' e2 | .ct => ∃ n', n' < n ∧ I n' e2 | .bk => Φ .nx e2 | .rt t => Φ (.rt t) e2) Ψ else Φ .nx e1) Ψ) :
    ∀ {n : Nat} {e : Env}, I n e → wp (sWhile c b) e Φ Ψ := by
  have core : ∀ (N n : Nat) (e : Env), n < N → I n e → ∃ r, whileN c b N e = some r ∧ Res.on r Φ Ψ := by
    intro N
    induction N with
    | zero => intro n e h; omega
    | succ N ih =>
      intro n e hn hi
      have q := h1 n e hi
      unfold wp at q
      unfold whileN
      cases hc : c e with
      | bad => rw [hc] at q; exact q.elim
      | exc y e1 => rw [hc] at q; exact ⟨_, rfl, q⟩
      | ok k e1 =>
        rw [hc] at q
        cases k with
        | false => exact ⟨_, rfl, q⟩
        | true =>
          simp only [on_ok, if_true] at q
          cases hb : b e1 with
          | bad => rw [hb] at q; exact q.elim
          | exc y e2 => rw [hb] at q; exact ⟨.exc y e2, by simp only [hb], (show Ψ y e2 from q)⟩
          | ok f e2 =>
            rw [hb] at q
            simp only [on_ok] at q
            simp only [hb]
            cases f with
            | nx => obtain ⟨n', a, i⟩ := q; exact ih n' e2 (by omega) i
            | ct => obtain ⟨n', a, i⟩ := q; exact ih n' e2 (by omega) i
            | bk => exact ⟨.ok .nx e2, rfl, q⟩
            | rt t => exact ⟨.ok (.rt t) e2, rfl, q⟩
  intro n e hi
  obtain ⟨r, hr, q⟩ := core (n + 1) n e (Nat.lt_succ_self n) hi
  unfold wp
  rw [sWhile_of hr]
  exact q
theorem wp_mLc {it : M (List PyData)} {tg : Tgt} {tt : M Bool} {me : M PyData} {vs : List Nat} {Φ : PyData → Env → Prop} : wp (mLc it tg tt me vs) e Φ Ψ = wp it e (fun xs e1 => wp (lcEnd tg tt me vs xs) e1 Φ Ψ) Ψ := by unfold mLc; simp
theorem wp_lcI {tg : Tgt} {tt : M Bool} {me : M PyData} {vs : List Nat} {Φ : PyData → Env → Prop} (I : List PyData → List PyData → Env → Prop)
    (h1 : ∀ x xs ys e, I (x :: xs) ys e → ∃ e1, tg x e = some e1 ∧ wp tt e1 (fun k e2 => if k = true then wp me e2 (fun y e3 => I xs (ys ++ [y]) (wipeE e3 vs)) (fun _ _ => False) else I xs ys (wipeE e2 vs)) fun _ _ => False) :
    ∀ (xs : List PyData) {e : Env}, I xs [] (wipeE e vs) → (∀ ys e2, I [] ys e2 → ys.length ≤ sizeLine ∧ Φ (.list ys) (backE e e2 vs)) → wp (lcEnd tg tt me vs xs) e Φ Ψ := by
  intro xs e hi hΦ
  have core : ∀ (xs ys : List PyData) (e : Env), I xs ys e → ∃ zs e2, compL tg tt me vs xs e = some (zs, e2) ∧ I [] (ys ++ zs) e2 := by
    intro xs
    induction xs with
    | nil => intro ys e h; exact ⟨[], e, rfl, by rw [List.append_nil]; exact h⟩
    | cons x xs ih =>
      intro ys e h
      obtain ⟨e1, ht, hw⟩ := h1 x xs ys e h
      unfold compL
      simp only [ht]
      unfold wp at hw
      cases hb : tt e1 with
      | bad => rw [hb] at hw; exact hw.elim
      | exc y e2 => rw [hb] at hw; exact hw.elim
      | ok k e2 =>
        rw [hb] at hw
        cases k with
        | false =>
          simp only [on_ok, Bool.false_eq_true, if_false] at hw
          exact ih ys _ hw
        | true =>
          simp only [on_ok, if_true] at hw
          cases hm : me e2 with
          | bad => rw [hm] at hw; exact hw.elim
          | exc y e3 => rw [hm] at hw; exact hw.elim
          | ok y e3 =>
            rw [hm] at hw
            obtain ⟨zs, e4, h5, h6⟩ := ih _ _ hw
            refine ⟨y :: zs, e4, ?_, by rw [List.append_assoc] at h6; exact h6⟩
            simp only [hm, h5]
            rfl
  obtain ⟨zs, e2, h5, h6⟩ := core xs [] _ hi
  obtain ⟨h7, h8⟩ := hΦ _ _ h6
  rw [List.nil_append] at h7 h8
  unfold wp lcEnd
  simp only [h5]
  rw [if_pos h7]
  exact h8
theorem wp_lcP {tg : Tgt} {tt : M Bool} {me : M PyData} {vs : List Nat} {Φ : PyData → Env → Prop} {e : Env} (p : PyData → Bool) (g : PyData → PyData) (xs : List PyData)
    (h1 : ∀ x, x ∈ xs → ∃ e1, tg x (wipeE e vs) = some e1 ∧ wp tt e1 (fun k e2 => k = p x ∧ (p x = true → wp me e2 (fun y e3 => y = g x ∧ wipeE e3 vs = wipeE e vs) fun _ _ => False) ∧ (p x = false → wipeE e2 vs = wipeE e vs)) fun _ _ => False)
    (hl : xs.length ≤ sizeLine) (hΦ : Φ (.list ((xs.filter p).map g)) e) : wp (lcEnd tg tt me vs xs) e Φ Ψ := by
  have hbk : backE e (wipeE e vs) vs = e := by
    funext i
    unfold backE wipeE
    by_cases c : i ∈ vs <;> simp [c]
  refine wp_lcI (fun zs ys e' => e' = wipeE e vs ∧ (∀ x, x ∈ zs → x ∈ xs) ∧ ys ++ (zs.filter p).map g = (xs.filter p).map g) ?_ xs ⟨rfl, fun _ h => h, rfl⟩ ?_
  · rintro x zs ys e' ⟨rfl, hm, hy⟩
    obtain ⟨e1, h2, h3⟩ := h1 x (hm x List.mem_cons_self)
    refine ⟨e1, h2, wp_mono h3 fun k e2 ⟨hk, h4, h5⟩ => ?_⟩
    subst hk
    have hm2 : ∀ z, z ∈ zs → z ∈ xs := fun z hz => hm z (List.mem_cons_of_mem _ hz)
    cases hp : p x with
    | true =>
      simp only [if_true]
      refine wp_mono (h4 hp) fun y e3 ⟨hy2, hw⟩ => ⟨hw, hm2, ?_⟩
      rw [List.filter_cons, if_pos hp, List.map_cons] at hy
      rw [hy2, List.append_assoc]
      exact hy
    | false =>
      simp only [Bool.false_eq_true, if_false]
      rw [List.filter_cons, if_neg (by rw [hp]; exact Bool.false_ne_true)] at hy
      exact ⟨h5 hp, hm2, hy⟩
  · rintro ys e2 ⟨rfl, _, hy⟩
    rw [List.filter_nil, List.map_nil, List.append_nil] at hy
    subst hy
    refine ⟨?_, by rw [hbk]; exact hΦ⟩
    rw [List.length_map]
    exact Nat.le_trans (List.length_filter_le _ _) hl
end
@[simp] theorem gNm_at {i : Nat} {d : PyData} {e : Env} : gNm i d e = some (setE e i (some (.v d))) := rfl
@[simp] theorem gNo_at {e : Env} : gNo [] e = some e := rfl
@[simp] theorem gCo_at {m : Tgt} {r : Tgts} {d : PyData} {ds : List PyData} {e : Env} : gCo m r (d :: ds) e = (m d e).bind (r ds) := rfl
@[simp] theorem gTp_at {n : Nat} {m : Tgts} {ds : List PyData} {e : Env} : gTp n m (.tuple ds) e = if ds.length = n then m ds e else none := rfl
end PD

namespace PD
open PySem PySem.Spec PyProof.Rows L2

@[simp] theorem ex_and_eq {α : Type} {p : Prop} {x : α} {P : α → Prop} : (∃ c, (p ∧ x = c) ∧ P c) ↔ p ∧ P x :=
  ⟨fun ⟨c, ⟨h1, h2⟩, h3⟩ => ⟨h1, by rw [h2]; exact h3⟩, fun ⟨h1, h2⟩ => ⟨x, ⟨h1, rfl⟩, h2⟩⟩
section
variable {a b : Int} {P : PyData → Prop}
@[simp] theorem addD_int : addD (.int a) (.int b) = some (.int (a + b)) := rfl
@[simp] theorem subI_int : subI (.int a) (.int b) = some (.int (a - b)) := rfl
@[simp] theorem mulD_int : mulD (.int a) (.int b) = if mulC a b = true then some (.int (a * b)) else none := by
  unfold mulD mulI intOp
  by_cases c : mulC a b = true
  · simp [c]
  · simp [c, lstMul, tupMul]
@[simp] theorem modI_int : modI (.int a) (.int b) = if 0 < b then some (.int (a % b)) else none := by
  unfold modI intOp
  by_cases c : 0 < b <;> simp [c]
@[simp] theorem fdivI_int : fdivI (.int a) (.int b) = if 0 < b ∧ b.natAbs < 2 ^ 4000 then some (.int (a / b)) else none := by
  unfold fdivI intOp
  simp only [Bool.and_eq_true, decide_eq_true_eq]
@[simp] theorem negI_int : negI (.int a) = some (.int (-a)) := rfl
theorem ordC_int : ordC (.int a) (.int b) = true := rfl
@[simp] theorem ltD_int : ltD (.int a) (.int b) = some (decide (a < b)) := by unfold ltD; rw [if_pos ordC_int, PySem.W.dataLt_int]
@[simp] theorem gtD_int : gtD (.int a) (.int b) = some (decide (b < a)) := by unfold gtD; rw [if_pos ordC_int, PySem.W.dataLt_int]
@[simp] theorem geD_int : geD (.int a) (.int b) = some (decide (b ≤ a)) := by
  unfold geD
  rw [if_pos ordC_int, PySem.W.dataLt_int]
  by_cases c : b ≤ a
  · simp [c, Int.not_lt.mpr c]
  · simp [c, Int.not_le.mp c]
@[simp] theorem eqD_int : eqD (.int a) (.int b) = some (a == b) := rfl
@[simp] theorem neD_int : neD (.int a) (.int b) = some (!(a == b)) := rfl
@[simp] theorem intF_int : intF [.int a] = some (.int a) := rfl
@[simp] theorem lenD_list {l : List PyData} : lenD (.list l) = some (.int l.length) := rfl
@[simp] theorem lenD_tup {l : List PyData} : lenD (.tuple l) = some (.int l.length) := rfl
@[simp] theorem ixD_list {l : List PyData} {i : Int} : ixD (.list l) (.int i) = L2.atI l i := rfl
@[simp] theorem ixD_tup {l : List PyData} {i : Int} : ixD (.tuple l) (.int i) = L2.atI l i := rfl
theorem mulC_l (h1 : -(2 ^ 64) < a) (h2 : a < 2 ^ 64) : mulC a b = true := by
  unfold mulC
  simp only [Bool.or_eq_true, Bool.and_eq_true, decide_eq_true_eq]
  exact .inl (.inl ⟨h1, h2⟩)
theorem mulC_r (h1 : -(2 ^ 64) < b) (h2 : b < 2 ^ 64) : mulC a b = true := by
  unfold mulC
  simp only [Bool.or_eq_true, Bool.and_eq_true, decide_eq_true_eq]
  exact .inl (.inr ⟨h1, h2⟩)
end
theorem ixN_in {n : Nat} {i : Int} (h0 : 0 ≤ i) (h1 : i < n) : L2.ixN n i = some i.toNat := by
  unfold L2.ixN
  rw [if_pos h0, if_pos h1]
theorem atI_in {α : Type} {l : List α} {i : Int} (h0 : 0 ≤ i) (h1 : i < l.length) : ∃ d, L2.atI l i = some d ∧ d ∈ l := by
  unfold L2.atI
  rw [ixN_in h0 h1]
  have hl : i.toNat < l.length := by omega
  exact ⟨l[i.toNat], List.getElem?_eq_getElem hl, List.getElem_mem hl⟩
theorem lay_ints : ∀ cs : List Int, PyData.canLayAll0 (cs.map .int) = true
  | [] => rfl
  | c :: cs => by rw [List.map_cons, PyData.canLayAll0, lay_ints cs]; rfl
theorem depth_ints : ∀ cs : List Int, PyData.depthAll (cs.map .int) ≤ 1
  | [] => by simp [PyData.depthAll]
  | c :: cs => by
    have := depth_ints cs
    simp only [List.map_cons, PyData.depthAll, PyData.depth]
    omega
theorem shaped_ints (cs : List Int) : SeqAt.shaped (.list (cs.map .int)) = true := by
  unfold SeqAt.shaped
  have := depth_ints cs
  rw [PyData.canLay0, lay_ints, PyData.depth]
  simp
  omega
theorem shaped_nil : SeqAt.shaped (.list []) = true := rfl
theorem neD_ints_nil (cs : List Int) : neD (.list (cs.map .int)) (.list []) = some (!cs.isEmpty) := by
  unfold neD eqD
  have : eqSh (.list (cs.map .int)) (.list []) = some cs.isEmpty := by
    unfold eqSh
    rw [shaped_ints, shaped_nil]
    cases cs <;> simp [PyData.eqv, PyData.eqvAll]
  rw [this]
  rfl

def PenT (t : Option T) : Prop := ∃ (cs : List Int) (seat left : Int), t = some (.lst [.v (.list (cs.map .int)), .v (.int seat), .v (.int left)]) ∧ 0 ≤ seat ∧ 0 ≤ left ∧ cs.length ≤ 63
section
variable {a b c : PyData} {x y z : T} {R : List T → Prop}
@[simp] theorem pen_at0 : atT (.lst [.v a, .v b, .v c]) (.int 0) = some a := rfl
@[simp] theorem pen_at1 : atT (.lst [.v a, .v b, .v c]) (.int 1) = some b := rfl
@[simp] theorem pen_at2 : atT (.lst [.v a, .v b, .v c]) (.int 2) = some c := rfl
@[simp] theorem ixN_30 : L2.ixN 3 0 = some 0 := rfl
@[simp] theorem ixN_31 : L2.ixN 3 1 = some 1 := rfl
@[simp] theorem ixN_32 : L2.ixN 3 2 = some 2 := rfl
end
theorem PenT.there {t : Option T} (h : PenT t) : ∃ u, t = some u := (let ⟨_, _, _, e, _⟩ := h; ⟨_, e⟩)
@[simp] theorem tupF_small {ds : List PyData} : tupF ds = if ds.length ≤ sizeLine then some (.tuple ds) else none := rfl
@[simp] theorem lstF_small {ds : List PyData} : lstF ds = if ds.length ≤ sizeLine then some (.list ds) else none := rfl
@[simp] theorem pow18 : powI (.int 10) (.int 18) = some (.int 1000000000000000000) := by
  unfold powI intOp
  simp
theorem wp_seqK {m m' : M Fl} {e : Env} {Φ : Fl → Env → Prop} {Ψ : Exn → Env → Prop} (K : Env → Prop) (h1 : wp m e (fun f e1 => match f with | .nx => K e1 | .bk => Φ .bk e1 | .ct => Φ .ct e1 | .rt t => Φ (.rt t) e1) Ψ) (h2 : ∀ e1, K e1 → wp m' e1 Φ Ψ) : wp (sSeq m m') e Φ Ψ := by
  rw [wp_sSeq]
  refine wp_mono h1 fun f e1 h => ?_
  cases f with
  | nx => exact h2 e1 h
  | bk => exact h
  | ct => exact h
  | rt t => exact h
theorem size_le {n : Nat} (h : n ≤ 1000) : n ≤ sizeLine := Nat.le_trans h (by decide)
noncomputable def m__law_pen : M Fl :=
  (sRetO (mLstO (tCn (mV (mScr 0 63)) (tCn (mV (mC (.int 0))) (tCn (mV (mC (.int 0))) tNl)))))
noncomputable def m__law_fresh : M Fl :=
  (sSeq (sPar [1, 2] (tCn (mV (mIxP 0 (mC (.int 1)))) (tCn (mV (mIxP 0 (mC (.int 0)))) tNl)))
    (sSeq (sSetIx 0 (mV (mBin addD (mVar 1) (mC (.int 1)))) (mC (.int 1)))
    (sSeq (sSet 3 (mIf (mCmp neD (mFr (mVar 2)) (mFr (mArgs lstF aNil))) (mBin ixD (mVar 2) (mBin modI (mArgs intF (aCons (mVar 1) aNil)) (mLen (mFr (mVar 2))))) (mC (.int 0))))
    (sSeq (sIf (mAnd (mCmp ltD (mFr (mVar 1)) (mFr (mLen (mFr (mVar 2))))) (mCmp geD (mFr (mVar 3)) (mFr (mBin powI (mC (.int 10)) (mC (.int 18))))))
    (sRet (mBin subI (mVar 3) (mBin powI (mC (.int 10)) (mC (.int 18)))))
    sNil)
    (sSeq (sSet 4 (mC (.int 2305843009213693951)))
    (sSeq (sSet 5 (mBin modI (mArgs intF (aCons (mBin addD (mBin addD (mBin mulD (mVar 3) (mC (.int 39373))) (mBin mulD (mC (.int 52013)) (mVar 1))) (mC (.int 29))) aNil)) (mVar 4)))
    (sSeq (sSet 6 (mVar 5))
    (sSeq (sFor (mIA rng1 (aCons (mC (.int 6)) aNil)) (gNm 7)
    (sSeq (sSet 5 (mBin modI (mArgs intF (aCons (mBin addD (mBin addD (mBin mulD (mVar 5) (mVar 5)) (mBin mulD (mBin mulD (mC (.int 62089)) (mBin addD (mVar 7) (mC (.int 3)))) (mBin addD (mVar 1) (mC (.int 1))))) (mVar 3)) aNil)) (mVar 4)))
    (sSet 6 (mBin addD (mBin mulD (mVar 6) (mVar 4)) (mVar 5)))))
    (sRet (mVar 6))))))))))
noncomputable def m__law_draw : M Fl :=
  (sSeq (sIf (mCmp ltD (mFr (mIxP 0 (mC (.int 2)))) (mFr (mVar 1)))
    (sSetIx 0 (mV (mFz (mCall (lent [0]) 1 m__law_fresh (oCons (mPk 0) oNil)))) (mC (.int 2)))
    sNil)
    (sSeq (sSet 2 (mBin modI (mArgs intF (aCons (mIxP 0 (mC (.int 2))) aNil)) (mVar 1)))
    (sSeq (sSetIx 0 (mV (mBin fdivI (mArgs intF (aCons (mIxP 0 (mC (.int 2))) aNil)) (mVar 1))) (mC (.int 2)))
    (sRet (mVar 2)))))
noncomputable def m__law_one_of : M Fl :=
  (sRet (mBin ixD (mVar 1) (mFz (mCall (lent [0]) 2 m__law_draw (oCons (mPk 0) (oCons (mFr (mLen (mFr (mVar 1)))) oNil))))))
noncomputable def m__law_rule_of : M Fl :=
  (sRet (mArgs tupF (aCons (mVar 0) (aCons (mArgs tupleF (aCons (mLc (mI seqOf (mArgs sortedF (aCons (mArgs keysF (aCons (mVar 1) aNil)) aNil))) (gTp 2 (gCo (gNm 2) (gCo (gNm 3) gNo))) (pure true) (mArgs tupF (aCons (mVar 2) (aCons (mVar 3) (aCons (mBin dixD (mVar 1) (mArgs tupF (aCons (mVar 2) (aCons (mVar 3) aNil)))) aNil)))) [2, 3]) aNil)) aNil))))
noncomputable def m__law_price : M Fl :=
  (sRet (mBin subI (mFz (mCall (lent [0]) 2 m__law_draw (oCons (mPk 0) (oCons (mFr (mBin addD (mBin mulD (mC (.int 2)) (mVar 1)) (mC (.int 1)))) oNil)))) (mVar 1)))
noncomputable def m__law_any_rule : M Fl :=
  (sSeq (sSet 2 (mFz (mCall (lent [0]) 2 m__law_one_of (oCons (mPk 0) (oCons (mFr (mArgs lstF (aCons (mC (.int 0)) (aCons (mC (.int 0)) (aCons (mC (.int 1)) (aCons (mC (.int 3)) (aCons (mC (.int 99)) aNil))))))) oNil)))))
    (sSeq (sPar [3, 4] (tCn (mV (mFz (mCall (lent [0]) 2 m__law_one_of (oCons (mPk 0) (oCons (mFr (mArgs lstF (aCons (mC (.int 1)) (aCons (mC (.int 2)) (aCons (mC (.int 3)) (aCons (mC (.int 4)) (aCons (mC (.int 4)) aNil))))))) oNil))))) (tCn mDT0 tNl)))
    (sSeq (sFor (mIA rng1 (aCons (mVar 1) aNil)) (gNm 5)
    (sFor (mIA rng1 (aCons (mVar 1) aNil)) (gNm 6)
    (sIf (mCmp ltD (mFr (mFz (mCall (lent [0]) 2 m__law_draw (oCons (mPk 0) (oCons (mFr (mC (.int 5))) oNil))))) (mFr (mVar 3)))
    (sPutD 4 (mFz (mCall (lent [0]) 2 m__law_price (oCons (mPk 0) (oCons (mFr (mVar 2)) oNil)))) (mArgs tupF (aCons (mVar 5) (aCons (mVar 6) aNil))))
    sNil)))
    (sRet (mFz (mCall (lent []) 2 m__law_rule_of (oCons (mFr (mVar 1)) (oCons (mFr (mVar 4)) oNil))))))))
noncomputable def m__law_line : M Fl :=
  (sSeq (sPar [2, 3] (tCn (mUnO lrg1 (mVar 1)) (tCn (mLstO tNl) tNl)))
    (sSeq (sWhile (mCmp neD (mPk 2) (mFr (mArgs lstF aNil)))
    (sExpr (mAppend 3 (mPopAt 2 (mFz (mCall (lent [0]) 2 m__law_draw (oCons (mPk 0) (oCons (mFr (mLen (mPk 2))) oNil))))))))
    (sRet (mVar 3))))
noncomputable def m__law_ring_rule : M Fl :=
  (sSeq (sSet 2 (mBin addD (mC (.int 2)) (mFz (mCall (lent [0]) 2 m__law_draw (oCons (mPk 0) (oCons (mFr (mBin subI (mVar 1) (mC (.int 1)))) oNil))))))
    (sSeq (sPar [3, 4] (tCn (mV (mFz (mCall (lent [0]) 2 m__law_line (oCons (mPk 0) (oCons (mFr (mVar 1)) oNil))))) (tCn (mV (mFz (mCall (lent [0]) 2 m__law_line (oCons (mPk 0) (oCons (mFr (mVar 1)) oNil))))) tNl)))
    (sSeq (sPar [5, 6] (tCn (mV (mFz (mCall (lent [0]) 2 m__law_one_of (oCons (mPk 0) (oCons (mFr (mArgs lstF (aCons (mC (.int 0)) (aCons (mC (.int 0)) (aCons (mC (.int 2)) aNil))))) oNil))))) (tCn mDT0 tNl)))
    (sSeq (sFor (mIA rng1 (aCons (mVar 2) aNil)) (gNm 7)
    (sSeq (sPutD 6 (mFz (mCall (lent [0]) 2 m__law_price (oCons (mPk 0) (oCons (mFr (mVar 5)) oNil)))) (mArgs tupF (aCons (mBin ixD (mVar 3) (mVar 7)) (aCons (mBin ixD (mVar 4) (mVar 7)) aNil))))
    (sPutD 6 (mFz (mCall (lent [0]) 2 m__law_price (oCons (mPk 0) (oCons (mFr (mVar 5)) oNil)))) (mArgs tupF (aCons (mBin ixD (mVar 3) (mVar 7)) (aCons (mBin ixD (mVar 4) (mBin modI (mBin addD (mVar 7) (mC (.int 1))) (mVar 2))) aNil))))))
    (sSeq (sFor (mIA rng1 (aCons (mFz (mCall (lent [0]) 2 m__law_draw (oCons (mPk 0) (oCons (mFr (mC (.int 5))) oNil)))) aNil)) (gNm 8)
    (sPutD 6 (mFz (mCall (lent [0]) 2 m__law_price (oCons (mPk 0) (oCons (mFr (mVar 5)) oNil)))) (mArgs tupF (aCons (mFz (mCall (lent [0]) 2 m__law_draw (oCons (mPk 0) (oCons (mFr (mVar 1)) oNil)))) (aCons (mFz (mCall (lent [0]) 2 m__law_draw (oCons (mPk 0) (oCons (mFr (mVar 1)) oNil)))) aNil)))))
    (sRet (mFz (mCall (lent []) 2 m__law_rule_of (oCons (mFr (mVar 1)) (oCons (mFr (mVar 6)) oNil))))))))))
noncomputable def m__law_calm_rule : M Fl :=
  (sSeq (sPar [2, 3] (tCn (mV (mFz (mCall (lent [0]) 2 m__law_line (oCons (mPk 0) (oCons (mFr (mVar 1)) oNil))))) (tCn (mV (mFz (mCall (lent [0]) 2 m__law_line (oCons (mPk 0) (oCons (mFr (mVar 1)) oNil))))) tNl)))
    (sSeq (sSet 4 (mArgs sortedF (aCons (mLc (mIA rng1 (aCons (mVar 1) aNil)) (gNm 13) (pure true) (mFz (mCall (lent [0]) 2 m__law_draw (oCons (mPk 0) (oCons (mFr (mBin addD (mVar 1) (mC (.int 1)))) oNil)))) [13]) aNil)))
    (sSeq (sPar [5, 6, 7] (tCn (mV (mFz (mCall (lent [0]) 2 m__law_one_of (oCons (mPk 0) (oCons (mFr (mArgs lstF (aCons (mC (.int 0)) (aCons (mC (.int 1)) (aCons (mC (.int 9)) aNil))))) oNil))))) (tCn (mV (mFz (mCall (lent [0]) 2 m__law_one_of (oCons (mPk 0) (oCons (mFr (mArgs lstF (aCons (mC (.int 0)) (aCons (mC (.int 0)) (aCons (mC (.int 1)) (aCons (mC (.int 3)) aNil)))))) oNil))))) (tCn mDT0 tNl))))
    (sSeq (sSet 8 (mLc (mIA rng1 (aCons (mVar 1) aNil)) (gNm 13) (pure true) (mFz (mCall (lent [0]) 2 m__law_price (oCons (mPk 0) (oCons (mFr (mVar 5)) oNil)))) [13]))
    (sSeq (sSet 9 (mLc (mIA rng1 (aCons (mVar 1) aNil)) (gNm 13) (pure true) (mFz (mCall (lent [0]) 2 m__law_price (oCons (mPk 0) (oCons (mFr (mVar 5)) oNil)))) [13]))
    (sSeq (sFor (mIA rng1 (aCons (mVar 1) aNil)) (gNm 10)
    (sFor (mIA rng1 (aCons (mBin ixD (mVar 4) (mVar 10)) aNil)) (gNm 11)
    (sSeq (sSet 12 (mBin subI (mBin addD (mBin ixD (mVar 8) (mVar 10)) (mBin ixD (mVar 9) (mVar 11))) (mBin mulD (mBin mulD (mVar 6) (mVar 10)) (mVar 11))))
    (sPutD 7 (mVar 12) (mArgs tupF (aCons (mBin ixD (mVar 2) (mVar 10)) (aCons (mBin ixD (mVar 3) (mVar 11)) aNil)))))))
    (sRet (mFz (mCall (lent []) 2 m__law_rule_of (oCons (mFr (mVar 1)) (oCons (mFr (mVar 7)) oNil)))))))))))
noncomputable def m__law_rule : M Fl :=
  (sSeq (sSet 2 (mFz (mCall (lent [0]) 2 m__law_draw (oCons (mPk 0) (oCons (mFr (mC (.int 3))) oNil)))))
    (sSeq (sIf (mCmp eqD (mFr (mVar 2)) (mFr (mC (.int 0))))
    (sRet (mFz (mCall (lent [0]) 2 m__law_any_rule (oCons (mPk 0) (oCons (mFr (mVar 1)) oNil)))))
    sNil)
    (sRet (mIf (mCmp eqD (mFr (mVar 2)) (mFr (mC (.int 1)))) (mFz (mCall (lent [0]) 2 m__law_ring_rule (oCons (mPk 0) (oCons (mFr (mVar 1)) oNil)))) (mFz (mCall (lent [0]) 2 m__law_calm_rule (oCons (mPk 0) (oCons (mFr (mVar 1)) oNil))))))))
theorem pen_spec {e : Env} {ns : List Int} {Ψ : Exn → Env → Prop} (h : e 0 = some (.scr ns)) : wp m__law_pen e (fun f e' => ∃ t, f = .rt t ∧ PenT (some t) ∧ e' 0 = some (.scr ns)) Ψ := by
  unfold m__law_pen
  simp [h]
  exact ⟨by decide, ns.take 63, 0, 0, by simp, by omega, by omega, by simp; omega⟩
theorem fresh_spec {e : Env} {Ψ : Exn → Env → Prop} (h : PenT (e 0)) : wp m__law_fresh e (fun f e' => ∃ n : Int, f = .rt (.v (.int n)) ∧ 0 ≤ n ∧ PenT (e' 0)) Ψ := by
  obtain ⟨cs, seat, left, h0, hs, hl, hc⟩ := h
  have pen1 : PenT (some (.lst [.v (.list (cs.map .int)), .v (.int (seat + 1)), .v (.int left)])) := ⟨cs, seat + 1, left, rfl, by omega, hl, hc⟩
  unfold m__law_fresh
  refine wp_seqK (fun e' => e' 0 = e 0 ∧ e' 1 = some (.v (.int seat)) ∧ e' 2 = some (.v (.list (cs.map .int)))) ?_ fun e1 ⟨a0, a1, a2⟩ => ?_
  · simp [h0]
  rw [h0] at a0
  refine wp_seqK (fun e' => PenT (e' 0) ∧ e' 1 = some (.v (.int seat)) ∧ e' 2 = some (.v (.list (cs.map .int)))) ?_ fun e2 ⟨b0, b1, b2⟩ => ?_
  · simp [a0, a1, a2, pen1]
  refine wp_seqK (fun e' => PenT (e' 0) ∧ e' 1 = some (.v (.int seat)) ∧ e' 2 = some (.v (.list (cs.map .int))) ∧ ∃ c : Int, e' 3 = some (.v (.int c))) ?_ fun e3 ⟨c0, c1, c2, c, c3⟩ => ?_
  · simp [b1, b2, neD_ints_nil, b0]
    cases cs with
    | nil => simp
    | cons x0 xs =>
      simp
      have hpos : (0 : Int) < (xs.length : Int) + 1 := by omega
      obtain ⟨d, h1, h2⟩ := atI_in (l := PyData.int x0 :: xs.map .int) (i := seat % ((xs.length : Int) + 1)) (Int.emod_nonneg _ (by omega)) (by simp; exact Int.emod_lt_of_pos _ hpos)
      refine ⟨d, h1, ?_⟩
      rcases List.mem_cons.mp h2 with h | h
      · exact ⟨x0, h⟩
      · obtain ⟨c, _, h⟩ := List.mem_map.mp h; exact ⟨c, h.symm⟩
  refine wp_seqK (fun e' => PenT (e' 0) ∧ e' 1 = some (.v (.int seat)) ∧ e' 3 = some (.v (.int c))) ?_ fun e4 ⟨d0, d1, d3⟩ => ?_
  · rw [wp_sIf]
    simp [c1, c2, c3]
    by_cases q1 : seat < cs.length
    · by_cases q2 : 1000000000000000000 ≤ c
      · simp [q1, q2, c0]
        try omega
      · simp [q1, q2, c0]
        try omega
    · simp [q1, c0]
      try omega
  refine wp_seqK (fun e' => PenT (e' 0) ∧ e' 1 = some (.v (.int seat)) ∧ e' 3 = some (.v (.int c)) ∧ e' 4 = some (.v (.int 2305843009213693951))) ?_ fun e5 ⟨f0, f1, f3, f4⟩ => ?_
  · simp [d0, d1, d3]
  refine wp_seqK (fun e' => PenT (e' 0) ∧ e' 1 = some (.v (.int seat)) ∧ e' 3 = some (.v (.int c)) ∧ e' 4 = some (.v (.int 2305843009213693951)) ∧ ∃ st : Int, e' 5 = some (.v (.int st)) ∧ 0 ≤ st ∧ st < 2305843009213693951) ?_ fun e6 ⟨g0, g1, g3, g4, st, g5, g6, g7⟩ => ?_
  · simp [f0, f1, f3, f4]
    exact ⟨mulC_r (by omega) (by omega), mulC_l (by omega) (by omega), Int.emod_nonneg _ (by omega), Int.emod_lt_of_pos _ (by omega)⟩
  refine wp_seqK (fun e' => PenT (e' 0) ∧ e' 1 = some (.v (.int seat)) ∧ e' 3 = some (.v (.int c)) ∧ e' 4 = some (.v (.int 2305843009213693951)) ∧ (∃ st : Int, e' 5 = some (.v (.int st)) ∧ 0 ≤ st ∧ st < 2305843009213693951) ∧ ∃ fo : Int, e' 6 = some (.v (.int fo)) ∧ 0 ≤ fo) ?_ fun e7 k => ?_
  · simp [g0, g1, g3, g4, g5, g6, g7]
  refine wp_seqK (fun e' => PenT (e' 0) ∧ ∃ fo : Int, e' 6 = some (.v (.int fo)) ∧ 0 ≤ fo) ?_ fun e8 ⟨p0, fo, p1, p2⟩ => ?_
  · rw [wp_sFor]
    simp [rng1]
    refine wp_forL (fun xs e' => (∀ x, x ∈ xs → ∃ n : Int, x = .int n ∧ 0 ≤ n ∧ n < 6) ∧ PenT (e' 0) ∧ e' 1 = some (.v (.int seat)) ∧ e' 3 = some (.v (.int c)) ∧ e' 4 = some (.v (.int 2305843009213693951)) ∧ (∃ st : Int, e' 5 = some (.v (.int st)) ∧ 0 ≤ st ∧ st < 2305843009213693951) ∧ ∃ fo : Int, e' 6 = some (.v (.int fo)) ∧ 0 ≤ fo) _ ⟨?_, k⟩ ?_ ?_
    · intro x hx
      unfold intsD at hx
      obtain ⟨n, hn, rfl⟩ := List.mem_map.mp hx
      exact ⟨_, rfl, by omega, by have := List.mem_range.mp hn; omega⟩
    · rintro e' ⟨_, h1, _, _, _, _, h2⟩
      exact ⟨h1, h2⟩
    · rintro x xs e' ⟨hx, h0, h1, h3, h4, ⟨st, h5, h6, h7⟩, fo, h8, h9⟩
      obtain ⟨n, rfl, n0, n6⟩ := hx x List.mem_cons_self
      refine ⟨_, rfl, ?_⟩
      rw [wp_sSeq]
      simp [h0, h1, h3, h4, h5, h8]
      have s0 := Int.emod_nonneg (st * st + 62089 * (n + 3) * (seat + 1) + c) (show (2305843009213693951 : Int) ≠ 0 by omega)
      refine ⟨mulC_l (by omega) (by omega), mulC_l (by omega) (by omega), mulC_l (by omega) (by omega), mulC_r (by omega) (by omega), fun x hx' => hx x (List.mem_cons_of_mem _ hx'), ⟨s0, Int.emod_lt_of_pos _ (by omega)⟩, ?_⟩
      have := Int.mul_nonneg h9 (show (0 : Int) ≤ 2305843009213693951 by omega)
      omega
  simp [p0, p1, p2]

theorem outE1 {e e' : Env} {i : Nat} : outE [.pk i] e e' = setE e i (e' 0) := by
  funext j
  unfold outE setE placeOf
  by_cases h : i = j
  · simp [h]
  · have : j ≠ i := fun z => h z.symm
    simp [h, this, placeOf]
theorem outE2 {e e' : Env} {i : Nat} {d : PyData} : outE [.pk i, .fr d] e e' = setE e i (e' 0) := by
  funext j
  unfold outE setE placeOf
  by_cases h : i = j
  · simp [h]
  · have : j ≠ i := fun z => h z.symm
    simp [h, this, placeOf]
theorem placeOf_fr : ∀ (ds : List PyData) (j : Nat), placeOf (ds.map .fr) j = none
  | [], _ => rfl
  | d :: ds, j => by rw [List.map_cons, placeOf, placeOf_fr ds j]; rfl
theorem outE0 {e e' : Env} (ds : List PyData) : outE (ds.map .fr) e e' = e := by
  funext j
  unfold outE
  rw [placeOf_fr]
@[simp] theorem inE_0 {a : Opn} {as : List Opn} {e : Env} {i : Nat} : inE (.pk i :: as) e 0 = e i := rfl
@[simp] theorem inE_1 {a : Opn} {as : List Opn} {e : Env} {d : PyData} : inE (a :: .fr d :: as) e 1 = some (.v d) := rfl
theorem wp_pen1 {f : M Fl} {i : Nat} {e : Env} {Φ : T → Env → Prop} {Ψ : Exn → Env → Prop} {K : T → Prop} (hp : PenT (e i)) (h : ∀ e, PenT (e 0) → wp f e (fun r e' => ∃ t, r = .rt t ∧ K t ∧ PenT (e' 0)) fun _ _ => False)
    (q : ∀ t p, K t → PenT p → Φ t (setE e i p)) : wp (mCall (lent [0]) 1 f (oCons (mPk i) oNil)) e Φ Ψ := by
  rw [wp_mCall]
  simp
  refine ⟨hp.there, rfl, wp_mono (h _ (by simpa using hp)) ?_ fun _ _ z => z.elim⟩
  rintro r e' ⟨t, rfl, hk, hp'⟩
  refine ⟨t, rfl, ?_⟩
  rw [outE1]
  exact q t _ hk hp'
theorem wp_pen2 {f : M Fl} {i : Nat} {md : M PyData} {e : Env} {Φ : T → Env → Prop} {Ψ : Exn → Env → Prop} {D : PyData → Env → Prop} (ht : ∃ t, e i = some t) (hd : wp md e D Ψ)
    (h : ∀ d e1, D d e1 → ∃ K : T → Prop, PenT (e1 i) ∧ (∀ e, PenT (e 0) → e 1 = some (.v d) → wp f e (fun r e' => ∃ t, r = .rt t ∧ K t ∧ PenT (e' 0)) fun _ _ => False) ∧ ∀ t p, K t → PenT p → Φ t (setE e1 i p)) : wp (mCall (lent [0]) 2 f (oCons (mPk i) (oCons (mFr md) oNil))) e Φ Ψ := by
  rw [wp_mCall]
  simp
  refine ⟨ht, wp_mono hd fun d e1 hD => ?_⟩
  obtain ⟨K, hp, hf, q⟩ := h d e1 hD
  refine ⟨rfl, wp_mono (hf _ (by simpa using hp) rfl) ?_ fun _ _ z => z.elim⟩
  rintro r e' ⟨t, rfl, hk, hp'⟩
  refine ⟨t, rfl, ?_⟩
  rw [outE2]
  exact q t _ hk hp'
def DrawT (b : Int) (t : T) : Prop := ∃ d : Int, t = .v (.int d) ∧ 0 ≤ d ∧ d < b
theorem draw_spec {e : Env} {b : Int} (h : PenT (e 0)) (hb : e 1 = some (.v (.int b))) (b0 : 0 < b) (b1 : b.natAbs < 2 ^ 4000) : wp m__law_draw e (fun r e' => ∃ t, r = .rt t ∧ DrawT b t ∧ PenT (e' 0)) fun _ _ => False := by
  unfold m__law_draw
  refine wp_seqK (fun e' => PenT (e' 0) ∧ e' 1 = some (.v (.int b))) ?_ fun e1 ⟨⟨cs, seat, left, h0, hs, hl, hc⟩, h1⟩ => ?_
  · rw [wp_sIf]
    obtain ⟨cs, seat, left, h0, hs, hl, hc⟩ := h
    have hp : PenT (e 0) := ⟨cs, seat, left, h0, hs, hl, hc⟩
    have hp' : PenT (some (.lst [.v (.list (cs.map .int)), .v (.int seat), .v (.int left)])) := ⟨cs, seat, left, rfl, hs, hl, hc⟩
    by_cases q : left < b
    · simp [h0, hb, q]
      refine wp_pen1 (K := fun t => ∃ n : Int, t = .v (.int n) ∧ 0 ≤ n) hp (fun e he => wp_mono (fresh_spec he) fun r e' ⟨n, h1, h2, h3⟩ => ⟨_, h1, ⟨n, rfl, h2⟩, h3⟩) ?_
      rintro t p ⟨n, rfl, hn⟩ ⟨cs', seat', left', rfl, hs', hl', hc'⟩
      simp [hb]
      exact ⟨cs', seat', n, rfl, hs', hn, hc'⟩
    · simp [h0, hb, q, hp']
      try omega
  · rw [wp_sSeq]
    simp [h0, h1]
    refine ⟨b0, ?_⟩
    rw [wp_sSeq]
    simp [h0, h1]
    exact ⟨⟨b0, b1⟩, ⟨_, rfl, Int.emod_nonneg _ (by omega), Int.emod_lt_of_pos _ b0⟩, cs, seat, left / b, rfl, hs, Int.ediv_nonneg hl (by omega), hc⟩

theorem small4000 {n : Nat} (h : n ≤ 10 ^ 31) : n < 2 ^ 4000 := Nat.lt_of_le_of_lt h (Nat.lt_of_lt_of_le (show 10 ^ 31 < 2 ^ 128 by decide) (Nat.pow_le_pow_right (by omega) (by omega)))
abbrev Gives {α : Type} (m : M α) (e : Env) (d : α) (Ψ : Exn → Env → Prop) : Prop := wp m e (fun x e1 => x = d ∧ e1 = e) Ψ
theorem wp_draw {i : Nat} {md : M PyData} {e : Env} {Φ : T → Env → Prop} {Ψ : Exn → Env → Prop} (b : Int) (hp : PenT (e i)) (hd : Gives md e (.int b) Ψ) (b0 : 0 < b) (b1 : b ≤ 10 ^ 31)
    (q : ∀ d p, 0 ≤ d → d < b → PenT p → Φ (.v (.int d)) (setE e i p)) : wp (mCall (lent [0]) 2 m__law_draw (oCons (mPk i) (oCons (mFr md) oNil))) e Φ Ψ := by
  refine wp_pen2 hp.there hd fun d e1 ⟨h1, h2⟩ => ?_
  subst h1 h2
  refine ⟨DrawT b, hp, fun e h0 h1 => draw_spec h0 h1 b0 (small4000 (by omega)), ?_⟩
  rintro t p ⟨d, rfl, d0, d1⟩ hp'
  exact q d p d0 d1 hp'
theorem one_spec {e : Env} {ds : List PyData} (h : PenT (e 0)) (hb : e 1 = some (.v (.list ds))) (b0 : ds ≠ []) (b1 : ds.length ≤ 1000) : wp m__law_one_of e (fun r e' => ∃ t, r = .rt t ∧ (∃ d, t = .v d ∧ d ∈ ds) ∧ PenT (e' 0)) fun _ _ => False := by
  unfold m__law_one_of
  simp [hb]
  refine wp_draw (ds.length : Int) h (by simp [Gives, hb]) (by have := List.length_pos_iff.mpr b0; omega) (by omega) fun d p d0 d1 hp => ?_
  simp
  obtain ⟨c, h1, h2⟩ := atI_in d0 d1
  exact ⟨c, h1, h2, hp⟩
theorem wp_one {i : Nat} {md : M PyData} {e : Env} {Φ : T → Env → Prop} {Ψ : Exn → Env → Prop} (ds : List PyData) (hp : PenT (e i)) (hd : Gives md e (.list ds) Ψ) (b0 : ds ≠ []) (b1 : ds.length ≤ 1000)
    (q : ∀ d p, d ∈ ds → PenT p → Φ (.v d) (setE e i p)) : wp (mCall (lent [0]) 2 m__law_one_of (oCons (mPk i) (oCons (mFr md) oNil))) e Φ Ψ := by
  refine wp_pen2 hp.there hd fun d e1 ⟨h1, h2⟩ => ?_
  subst h1 h2
  refine ⟨fun t => ∃ d, t = .v d ∧ d ∈ ds, hp, fun e h0 h1 => one_spec h0 h1 b0 b1, ?_⟩
  rintro t p ⟨d, rfl, d0⟩ hp'
  exact q d p d0 hp'
theorem price_spec {e : Env} {w : Int} (h : PenT (e 0)) (hb : e 1 = some (.v (.int w))) (b0 : 0 ≤ w) (b1 : w ≤ 1000) : wp m__law_price e (fun r e' => ∃ t, r = .rt t ∧ (∃ d : Int, t = .v (.int d) ∧ -w ≤ d ∧ d ≤ w) ∧ PenT (e' 0)) fun _ _ => False := by
  unfold m__law_price
  simp
  refine wp_draw (2 * w + 1) h (by simp [Gives, hb]; exact mulC_l (by omega) (by omega)) (by omega) (by omega) fun d p d0 d1 hp => ?_
  simp [hb]
  exact ⟨⟨by omega, by omega⟩, hp⟩
theorem wp_price {i : Nat} {md : M PyData} {e : Env} {Φ : T → Env → Prop} {Ψ : Exn → Env → Prop} (w : Int) (hp : PenT (e i)) (hd : Gives md e (.int w) Ψ) (b0 : 0 ≤ w) (b1 : w ≤ 1000)
    (q : ∀ d p, -w ≤ d → d ≤ w → PenT p → Φ (.v (.int d)) (setE e i p)) : wp (mCall (lent [0]) 2 m__law_price (oCons (mPk i) (oCons (mFr md) oNil))) e Φ Ψ := by
  refine wp_pen2 hp.there hd fun d e1 ⟨h1, h2⟩ => ?_
  subst h1 h2
  refine ⟨fun t => ∃ d : Int, t = .v (.int d) ∧ -w ≤ d ∧ d ≤ w, hp, fun e h0 h1 => price_spec h0 h1 b0 b1, ?_⟩
  rintro t p ⟨d, rfl, d0, d1⟩ hp'
  exact q d p d0 d1 hp'
def rgI (n : Nat) : List Int := (List.range n).map fun (i : Nat) => (i : Int)
theorem intsD_rg (n : Nat) : intsD 0 n = (rgI n).map .int := by
  unfold intsD rgI
  rw [List.map_map]
  congr 1
  funext i
  simp
theorem fzs_cons {t : T} {ts : List T} : T.fzs (t :: ts) = (T.fz t).bind fun d => (T.fzs ts).map fun ds => d :: ds := by rw [T.fzs]
theorem fz_ints : ∀ l : List Int, T.fzs (l.map fun i => T.v (.int i)) = some (l.map .int)
  | [] => by simp
  | i :: l => by rw [List.map_cons, T.fzs, fz_ints l]; simp
theorem perm_take {l : List Int} {n : Nat} {x : Int} (h : l[n]? = some x) : (x :: l.eraseIdx n).Perm l := by
  induction l generalizing n with
  | nil => simp at h
  | cons a l ih =>
    cases n with
    | zero => simp at h; subst h; exact List.Perm.refl _
    | succ n =>
      simp at h
      rw [List.eraseIdx_cons_succ]
      exact (List.Perm.swap _ _ _).trans ((ih h).cons a)
theorem line_spec {e : Env} {n : Nat} (h : PenT (e 0)) (hb : e 1 = some (.v (.int n))) (b1 : n ≤ 1000) :
    wp m__law_line e (fun r e' => ∃ t, r = .rt t ∧ (∃ l : List Int, t = .v (.list (l.map .int)) ∧ l.Perm (rgI n)) ∧ PenT (e' 0)) fun _ _ => False := by
  unfold m__law_line
  refine wp_seqK (fun e' => PenT (e' 0) ∧ e' 2 = some (.lst ((rgI n).map fun i => T.v (.int i))) ∧ e' 3 = some (.lst [])) ?_ fun e1 ⟨h0, h2, h3⟩ => ?_
  · simp [hb, lrg1, rgL]
    refine ⟨⟨by omega, by omega⟩, ?_, h⟩
    rw [intsD_rg]
    simp [ownL]
  rw [wp_sSeq]
  refine wp_sWhile (fun k e => PenT (e 0) ∧ ∃ l f : List Int, e 2 = some (.lst (l.map fun i => T.v (.int i))) ∧ e 3 = some (.lst (f.map fun i => T.v (.int i))) ∧ (l ++ f).Perm (rgI n) ∧ k = l.length) ?_ (n := n) ⟨h0, rgI n, [], h2, h3, by simp, by simp [rgI]⟩
  rintro k e ⟨hp, l, f, h2, h3, hperm, rfl⟩
  have hlen := hperm.length_eq
  simp [rgI] at hlen
  simp [h2, fz_ints, neD_ints_nil]
  cases l with
  | nil =>
    simp [h3, fz_ints]
    exact ⟨⟨f, rfl, by simpa using hperm⟩, hp⟩
  | cons x l =>
    have hl2 : l.length + 1 + f.length = n := by simpa using hlen
    simp [h2]
    refine ⟨⟨_, h3⟩, wp_draw ((l.length : Int) + 1) hp ?_ (by omega) (by omega) fun d p d0 d1 hp' => ?_⟩
    · simp [Gives, h2, fz_ints, fzs_cons]
    have hk : d.toNat < (x :: l).length := by simp; omega
    have hg : (x :: l)[d.toNat]? = some (x :: l)[d.toNat] := List.getElem?_eq_getElem hk
    have hg2 : ((x :: l).map fun i => T.v (.int i))[d.toNat]? = some (T.v (.int (x :: l)[d.toNat])) := by rw [List.getElem?_map, hg]; rfl
    refine ⟨_, rfl, d, rfl, ⟨by omega, by omega⟩, (x :: l).map fun i => T.v (.int i), by simp [h2], d.toNat, ixN_in d0 (by simp; omega), _, hg2, f.map fun i => T.v (.int i), by simp [h3], ?_, l.length, by omega, by simpa using hp', (x :: l).eraseIdx d.toNat, ?_, f ++ [(x :: l)[d.toNat]], by simp, ?_, ?_⟩
    · rw [List.length_map]
      exact Nat.lt_of_lt_of_le (show f.length < 1001 by omega) (by decide)
    · have me : ∀ (l : List Int) (k : Nat), (l.map fun i => T.v (.int i)).eraseIdx k = (l.eraseIdx k).map fun i => T.v (.int i) := fun l => by
        induction l with
        | nil => intro k; rfl
        | cons a l ih =>
          intro k
          cases k with
          | zero => rfl
          | succ k => rw [List.map_cons, List.eraseIdx_cons_succ, List.eraseIdx_cons_succ, List.map_cons, ih]
      exact me _ _
    · have := perm_take hg
      refine List.Perm.trans ?_ hperm
      refine List.Perm.trans ?_ (this.append_right f)
      rw [← List.append_assoc]
      exact List.perm_append_comm
    · rw [List.length_eraseIdx_of_lt hk]
      simp

theorem wp_line {i : Nat} {md : M PyData} {e : Env} {Φ : T → Env → Prop} {Ψ : Exn → Env → Prop} (n : Nat) (hp : PenT (e i)) (hd : Gives md e (.int n) Ψ) (b1 : n ≤ 1000)
    (q : ∀ (l : List Int) p, l.Perm (rgI n) → PenT p → Φ (.v (.list (l.map .int))) (setE e i p)) : wp (mCall (lent [0]) 2 m__law_line (oCons (mPk i) (oCons (mFr md) oNil))) e Φ Ψ := by
  refine wp_pen2 hp.there hd fun d e1 ⟨h1, h2⟩ => ?_
  subst h1 h2
  refine ⟨fun t => ∃ l : List Int, t = .v (.list (l.map .int)) ∧ l.Perm (rgI n), hp, fun e h0 h1 => line_spec h0 h1 b1, ?_⟩
  rintro t p ⟨l, rfl, hl⟩ hp'
  exact q l p hl hp'
def kD (k : Int × Int) : List Key := [.inl k.1, .inl k.2]
def pairD (k : Int × Int) : PyData := .tuple [.int k.1, .int k.2]
theorem kD_inj {a b : Int × Int} (h : kD a = kD b) : a = b := by
  unfold kD at h
  simp at h
  exact Prod.ext h.1 h.2
theorem keysOf_pair (a b : Int) : keysOf (.tuple [.int a, .int b]) = some (kD (a, b)) := rfl
abbrev Cl := List ((Int × Int) × Int)
def clT (m : Cl) : T := .dT (m.map fun p => kD p.1) (m.map fun p => .v (.int p.2))
structure ClOk (n : Nat) (c : Nat) (w : Int) (m : Cl) : Prop where
  nd : (m.map (·.1)).Nodup
  rng : ∀ p, p ∈ m → 0 ≤ p.1.1 ∧ p.1.1 < n ∧ 0 ≤ p.1.2 ∧ p.1.2 < n
  pr : ∀ p, p ∈ m → -w ≤ p.2 ∧ p.2 ≤ w
  len : m.length ≤ c
def putC (m : Cl) (k : Int × Int) (v : Int) : Cl := if m.any fun p => decide (p.1 = k) then m.map fun p => if p.1 = k then (p.1, v) else p else m ++ [(k, v)]
theorem putC_ok {n c : Nat} {w v : Int} {m : Cl} {k : Int × Int} (h : ClOk n c w m) (h1 : 0 ≤ k.1) (h2 : k.1 < n) (h3 : 0 ≤ k.2) (h4 : k.2 < n) (h5 : -w ≤ v) (h6 : v ≤ w) : ClOk n (c + 1) w (putC m k v) := by
  unfold putC
  by_cases q : (m.any fun p => decide (p.1 = k)) = true
  · rw [if_pos q]
    have e : (m.map fun p => if p.1 = k then (p.1, v) else p).map (·.1) = m.map (·.1) := by
      rw [List.map_map]
      apply List.map_congr_left
      intro p _
      simp only [Function.comp]
      split <;> rfl
    refine ⟨by rw [e]; exact h.nd, fun p hp => ?_, fun p hp => ?_, by rw [List.length_map]; have := h.len; omega⟩
    · obtain ⟨p0, hp0, rfl⟩ := List.mem_map.mp hp
      have := h.rng p0 hp0
      split <;> exact this
    · obtain ⟨p0, hp0, rfl⟩ := List.mem_map.mp hp
      have := h.pr p0 hp0
      split
      · exact ⟨h5, h6⟩
      · exact this
  · rw [if_neg q]
    refine ⟨?_, fun p hp => ?_, fun p hp => ?_, by have := h.len; simp; omega⟩
    · rw [List.map_append, List.nodup_append]
      refine ⟨h.nd, by simp, fun a ha b hb => ?_⟩
      simp at hb
      subst hb
      rintro rfl
      obtain ⟨p, hp, e⟩ := List.mem_map.mp ha
      exact q (List.any_eq_true.mpr ⟨p, hp, by simpa using e⟩)
    · rcases List.mem_append.mp hp with hp | hp
      · exact h.rng p hp
      · simp at hp; subst hp; exact ⟨h1, h2, h3, h4⟩
    · rcases List.mem_append.mp hp with hp | hp
      · exact h.pr p hp
      · simp at hp; subst hp; exact ⟨h5, h6⟩
theorem putKs_cl (m : Cl) (k : Int × Int) (v : Int) : putKs (m.map fun p => kD p.1) (m.map fun p => T.v (.int p.2)) (kD k) (.int v) = ((putC m k v).map (fun p => kD p.1), (putC m k v).map fun p => T.v (.int p.2)) := by
  have ea : ((m.map fun p => kD p.1).any fun q => decide (q = kD k)) = m.any fun p => decide (p.1 = k) := by
    rw [List.any_map]
    congr 1
    funext p
    simp only [Function.comp]
    rw [decide_eq_decide]
    exact ⟨kD_inj, fun h => by rw [h]⟩
  unfold putKs putC
  rw [ea]
  by_cases q : (m.any fun p => decide (p.1 = k)) = true
  · rw [if_pos q, if_pos q, List.map_map, List.map_map]
    congr 1
    · apply List.map_congr_left
      intro p _
      simp only [Function.comp]
      split <;> rfl
    · clear ea q
      induction m with
      | nil => rfl
      | cons p m ih =>
        simp only [List.map_cons, List.zip_cons_cons, ih]
        congr 1
        simp only [Function.comp]
        by_cases c : p.1 = k
        · rw [if_pos (by rw [c]), if_pos c]
        · rw [if_neg (fun z => c (kD_inj z)), if_neg c]
  · rw [if_neg q, if_neg q]
    simp
theorem wp_putC {i : Nat} {n c : Nat} {w a b v : Int} {m : Cl} {e : Env} {Φ : Fl → Env → Prop} {Ψ : Exn → Env → Prop} (h : e i = some (clT m)) (hm : ClOk n c w m) (hc : c ≤ 1000) (q : Φ .nx (setE e i (some (clT (putC m (a, b) v))))) :
    wp (putD i (.int v) (.tuple [.int a, .int b])) e Φ Ψ := by
  refine wp_putDT h (keysOf_pair a b) ?_ (by simp) ?_
  · rw [List.length_map]
    exact Nat.lt_of_le_of_lt (Nat.le_trans hm.len hc) (by decide)
  · rw [putKs_cl]
    exact q
theorem ClOk.nil (n : Nat) (w : Int) : ClOk n 0 w [] := ⟨by simp, fun p h => (by cases h), fun p h => (by cases h), by simp⟩
theorem ClOk.mono {n c c' : Nat} {w w' : Int} {m : Cl} (h : ClOk n c w m) (h1 : c ≤ c') (h2 : w ≤ w') : ClOk n c' w' m := ⟨h.nd, h.rng, fun p hp => by have := h.pr p hp; omega, Nat.le_trans h.len h1⟩

theorem wipe_setE {e : Env} {i : Nat} {t : Option T} {vs : List Nat} (h : i ∈ vs) : wipeE (setE e i t) vs = wipeE e vs := by
  funext j
  unfold wipeE setE
  by_cases c : j ∈ vs
  · simp [c]
  · have : j ≠ i := fun z => c (by rw [z]; exact h)
    simp [c, this]
theorem wipe_wipe {e : Env} {vs : List Nat} : wipeE (wipeE e vs) vs = wipeE e vs := by
  funext j
  unfold wipeE
  by_cases c : j ∈ vs <;> simp [c]
def triD (p : (Int × Int) × Int) : PyData := .tuple [.int p.1.1, .int p.1.2, .int p.2]
def ruleD (n : Nat) (m : Cl) : PyData := .tuple [.int n, .tuple (m.map triD)]
def leP (a b : Int × Int) : Bool := decide (a.1 < b.1 ∨ (a.1 = b.1 ∧ a.2 ≤ b.2))
def ltP (a b : Int × Int) : Prop := a.1 < b.1 ∨ (a.1 = b.1 ∧ a.2 < b.2)
structure RowOk (n : Nat) (c : Nat) (w : Int) (m : Cl) : Prop where
  asc : (m.map (·.1)).Pairwise ltP
  rng : ∀ p, p ∈ m → 0 ≤ p.1.1 ∧ p.1.1 < n ∧ 0 ≤ p.1.2 ∧ p.1.2 < n
  pr : ∀ p, p ∈ m → -w ≤ p.2 ∧ p.2 ≤ w
  len : m.length ≤ c
def clD (m : Cl) : PyData := .dict (m.map fun p => (pairD p.1, .int p.2))
theorem fz_clT (m : Cl) : T.fz (clT m) = some (clD m) := by
  unfold clT clD
  rw [T.fz]
  have : ∀ m : Cl, T.fzs (m.map fun p => T.v (.int p.2)) = some (m.map fun p => .int p.2) := fun m => by
    induction m with
    | nil => simp
    | cons p m ih => rw [List.map_cons, fzs_cons, ih]; simp
  rw [this]
  simp only [Option.map_some, Option.some.injEq, PyData.dict.injEq]
  induction m with
  | nil => rfl
  | cons p m ih =>
    simp only [List.map_cons, List.zip_cons_cons, ih]
    rfl
def prC (m : Cl) (k : Int × Int) : Int := ((m.find? fun p => decide (p.1 = k)).map (·.2)).getD 0
theorem prC_mem {m : Cl} {k : Int × Int} (h : k ∈ m.map (·.1)) : ∃ p, p ∈ m ∧ p.1 = k ∧ p.2 = prC m k := by
  unfold prC
  cases e : m.find? fun p => decide (p.1 = k) with
  | none =>
    obtain ⟨p, hp, hk⟩ := List.mem_map.mp h
    have := List.find?_eq_none.mp e p hp
    simp [hk] at this
  | some p =>
    exact ⟨p, List.mem_of_find?_eq_some e, by simpa using List.find?_some e, rfl⟩
theorem dix_clD {m : Cl} {k : Int × Int} (h : k ∈ m.map (·.1)) : dixD (clD m) (.tuple [.int k.1, .int k.2]) = some (.int (prC m k)) := by
  unfold dixD dgetD clD
  have hne : (m.map fun p => (pairD p.1, PyData.int p.2)) ≠ [] := by
    intro z
    rw [List.map_eq_nil_iff] at z
    subst z
    cases h
  have hall : ((m.map fun p => (pairD p.1, PyData.int p.2)).all fun p => (keysOf p.1).isSome) = true := by
    rw [List.all_eq_true]
    intro q hq
    obtain ⟨p, _, rfl⟩ := List.mem_map.mp hq
    rfl
  have ef : findD keysOf (m.map fun p => (pairD p.1, PyData.int p.2)) (kD k) = some (.int (prC m k)) := by
    obtain ⟨p, hp, h1, h2⟩ := prC_mem h
    unfold findD prC
    rw [List.find?_map]
    have hf : (m.find? ((fun q => decide (keysOf q.1 = some (kD k))) ∘ fun p => (pairD p.1, PyData.int p.2))) = m.find? fun p => decide (p.1 = k) := by
      congr 1
      funext p
      simp only [Function.comp]
      rw [decide_eq_decide]
      show (some (kD p.1) = some (kD k)) ↔ _
      simp only [Option.some.injEq]
      exact ⟨kD_inj, fun h => by rw [h]⟩
    rw [hf]
    cases e : m.find? fun p => decide (p.1 = k) with
    | none =>
      have := List.find?_eq_none.mp e p hp
      simp [h1] at this
    | some q => rfl
  show ((dgetE _ _).bind fun o => o) = _
  unfold dgetE
  rw [if_neg (by simpa using hne)]
  show ((if _ then some (findD keysOf _ (kD k)) else none).bind fun o => o) = _
  rw [if_pos hall, ef]
  rfl
theorem all_alike_pairs (ks : List (Int × Int)) : ((ks.map pairD).all fun d => (ks.map pairD).all fun d' => PySem.W.alike d d') = true := by
  rw [List.all_eq_true]
  intro d hd
  rw [List.all_eq_true]
  intro d' hd'
  obtain ⟨k, _, rfl⟩ := List.mem_map.mp hd
  obtain ⟨k', _, rfl⟩ := List.mem_map.mp hd'
  rfl
theorem nd_of_all : ∀ {ds : List PyData}, (∀ d, d ∈ ds → ndD d = true) → ndDs ds = true
  | [], _ => rfl
  | d :: ds, h => by rw [ndDs, h d List.mem_cons_self, nd_of_all fun d hd => h d (List.mem_cons_of_mem _ hd)]; rfl
theorem sortC_pairs {ks : List (Int × Int)} (h : ks.length ≤ 1000) : sortC (ks.map pairD) = true := by
  unfold sortC
  rw [all_alike_pairs]
  simp only [Bool.true_and, Bool.and_eq_true, Bool.or_eq_true]
  refine ⟨⟨⟨.inl ?_, ?_⟩, ?_⟩, ?_⟩
  · rw [List.all_eq_true]
    intro d hd
    obtain ⟨k, _, rfl⟩ := List.mem_map.mp hd
    rfl
  · exact nd_of_all fun d hd => by
      obtain ⟨k, _, rfl⟩ := List.mem_map.mp hd
      rfl
  · simp only [decide_eq_true_eq, List.length_map]
    exact size_le h
  · rw [List.all_eq_true]
    intro d hd
    obtain ⟨k, _, rfl⟩ := List.mem_map.mp hd
    rfl
theorem sortL_pairs (ks : List (Int × Int)) : sortL (ks.map pairD) = (ks.mergeSort leP).map pairD := by
  unfold sortL
  rw [List.map_mergeSort (s := PySem.W.dataLe false fun d => d)]
  intro a _ b _
  have := congrFun (congrFun (PySem.W.dataLe_ii (β := Int × Int) (fun p => p.1) (fun p => p.2)) a) b
  exact this.symm
theorem sort_asc {ks : List (Int × Int)} (h : ks.Nodup) : (ks.mergeSort leP).Pairwise ltP := by
  have h1 := List.pairwise_mergeSort (le := leP) (fun a b c h1 h2 => by unfold leP at *; simp only [decide_eq_true_eq] at *; omega) (fun a b => by unfold leP; simp only [Bool.or_eq_true, decide_eq_true_eq]; omega) ks
  have h2 : (ks.mergeSort leP).Nodup := (List.mergeSort_perm ks leP).nodup_iff.mpr h
  have := h1.and h2
  refine this.imp fun {a b} ⟨x, y⟩ => ?_
  unfold leP at x
  simp only [decide_eq_true_eq] at x
  unfold ltP
  rcases x with x | ⟨x1, x2⟩
  · exact .inl x
  · refine .inr ⟨x1, ?_⟩
    have : a.2 ≠ b.2 := fun z => y (Prod.ext x1 z)
    omega
def rowsOf (m : Cl) : Cl := ((m.map (·.1)).mergeSort leP).map fun k => (k, prC m k)
theorem rowsOf_ok {n c : Nat} {w : Int} {m : Cl} (h : ClOk n c w m) : RowOk n c w (rowsOf m) := by
  have hk : ∀ k, k ∈ (m.map (·.1)).mergeSort leP → k ∈ m.map (·.1) := fun k hk => List.mem_mergeSort.mp hk
  refine ⟨?_, fun p hp => ?_, fun p hp => ?_, ?_⟩
  · unfold rowsOf
    rw [List.map_map]
    have : ((fun x : (Int × Int) × Int => x.1) ∘ fun k => (k, prC m k)) = id := by funext k; rfl
    rw [this, List.map_id]
    exact sort_asc h.nd
  · obtain ⟨k, hk', rfl⟩ := List.mem_map.mp hp
    obtain ⟨q, hq, h1, h2⟩ := prC_mem (hk k hk')
    have := h.rng q hq
    rw [h1] at this
    exact this
  · obtain ⟨k, hk', rfl⟩ := List.mem_map.mp hp
    obtain ⟨q, hq, h1, h2⟩ := prC_mem (hk k hk')
    have := h.pr q hq
    rw [h2] at this
    exact this
  · unfold rowsOf
    rw [List.length_map, List.length_mergeSort, List.length_map]
    exact h.len
theorem rule_of_spec {e : Env} {n c : Nat} {w : Int} {m : Cl} {Ψ : Exn → Env → Prop} (h0 : e 0 = some (.v (.int n))) (h1 : e 1 = some (.v (clD m))) (hm : ClOk n c w m) (hc : c ≤ 1000) :
    wp m__law_rule_of e (fun r e' => r = .rt (.v (ruleD n (rowsOf m))) ∧ e' = e) Ψ := by
  have hl : m.length ≤ 1000 := Nat.le_trans hm.len hc
  unfold m__law_rule_of
  simp [h0, wp_mLc, h1]
  have ek : keysF [clD m] = some (.list ((m.map (·.1)).map pairD)) := by
    unfold clD keysF
    simp only [List.map_map]
    rfl
  have es : sortedF [.list ((m.map (·.1)).map pairD)] = some (.list (((m.map (·.1)).mergeSort leP).map pairD)) := by
    unfold sortedF
    simp only []
    rw [if_pos (sortC_pairs (by rw [List.length_map]; exact hl)), sortL_pairs]
  refine ⟨_, ek, _, es, _, rfl, ?_⟩
  have hlen : (((m.map (·.1)).mergeSort leP).map pairD).length ≤ sizeLine := by
    rw [List.length_map, List.length_mergeSort, List.length_map]
    exact size_le hl
  refine wp_lcP (fun _ => true) (fun d => match d with | .tuple [.int a, .int b] => triD ((a, b), prC m (a, b)) | d => d) _ ?_ hlen ?_
  · intro x hx
    obtain ⟨k, hk, rfl⟩ := List.mem_map.mp hx
    have hk2 := List.mem_mergeSort.mp hk
    refine ⟨_, rfl, ?_⟩
    simp [h1, wipeE]
    have hdix := dix_clD hk2
    refine ⟨by decide, _, hdix, by decide, rfl, ?_⟩
    rw [wipe_setE (by simp), wipe_setE (by simp), wipe_wipe]
  · simp
    refine ⟨_, rfl, by decide, ?_⟩
    unfold ruleD rowsOf
    rw [List.filter_eq_self.mpr (by simp), List.map_map, List.map_map]
    rfl

theorem wp_rule_of {i j : Nat} {n c : Nat} {w : Int} {m : Cl} {e : Env} {Φ : T → Env → Prop} {Ψ : Exn → Env → Prop} (h0 : e i = some (.v (.int n))) (h1 : e j = some (clT m)) (hm : ClOk n c w m) (hc : c ≤ 1000)
    (q : Φ (.v (ruleD n (rowsOf m))) (setE e j (some (.v (clD m))))) : wp (mCall (lent []) 2 m__law_rule_of (oCons (mFr (mVar i)) (oCons (mFr (mVar j)) oNil))) e Φ Ψ := by
  rw [wp_mCall]
  have hf : T.fz (clT m) = some (clD m) := fz_clT m
  simp [h0, h1]
  unfold clT at hf ⊢
  simp only [onVar_dT]
  refine ⟨_, hf, rfl, wp_mono (rule_of_spec (Ψ := fun _ _ => False) (n := n) (m := m) rfl rfl hm hc) ?_ ?_⟩
  · rintro r e' ⟨rfl, rfl⟩
    refine ⟨_, rfl, ?_⟩
    have := outE0 (e := setE e j (some (.v (clD m)))) (e' := inE [.fr (.int n), .fr (clD m)] (setE e j (some (.v (clD m))))) [.int n, clD m]
    simp only [List.map_cons, List.map_nil] at this
    rw [this]
    exact q
  · intro x e' h
    exact h.elim
theorem nodup_lt : ∀ (N : Nat) (l : List Nat), l.Nodup → (∀ x, x ∈ l → x < N) → l.length ≤ N
  | 0, [], _, _ => Nat.le_refl _
  | 0, x :: l, _, h => absurd (h x List.mem_cons_self) (Nat.not_lt_zero _)
  | N + 1, l, hn, h => by
    have h1 := nodup_lt N (l.erase N) (hn.erase N) fun x hx => by
      have h2 := (List.Nodup.mem_erase_iff hn).mp hx
      have := h x h2.2
      have := h2.1
      omega
    have := List.length_erase (a := N) (l := l)
    split at this <;> omega
theorem ClOk.sq {n c : Nat} {w : Int} {m : Cl} (h : ClOk n c w m) : ClOk n (n * n) w m := by
  refine ⟨h.nd, h.rng, h.pr, ?_⟩
  have := nodup_lt (n * n) ((m.map (·.1)).map fun k => k.1.toNat * n + k.2.toNat) ?_ ?_
  · simpa using this
  · rw [List.Nodup, List.pairwise_map]
    refine h.nd.imp_of_mem fun {a b} ha hb hab z => hab ?_
    obtain ⟨p, hp, rfl⟩ := List.mem_map.mp ha
    obtain ⟨q, hq, rfl⟩ := List.mem_map.mp hb
    obtain ⟨a1, a2, a3, a4⟩ := h.rng p hp
    obtain ⟨b1, b2, b3, b4⟩ := h.rng q hq
    have e1 : p.1.2.toNat < n := by omega
    have e2 : q.1.2.toNat < n := by omega
    have d1 : p.1.1.toNat = q.1.1.toNat := by
      have x1 : (p.1.1.toNat * n + p.1.2.toNat) / n = p.1.1.toNat := by rw [Nat.mul_comm, Nat.mul_add_div (by omega), Nat.div_eq_of_lt e1, Nat.add_zero]
      have x2 : (q.1.1.toNat * n + q.1.2.toNat) / n = q.1.1.toNat := by rw [Nat.mul_comm, Nat.mul_add_div (by omega), Nat.div_eq_of_lt e2, Nat.add_zero]
      rw [← x1, ← x2, z]
    rw [d1] at z
    have d2 : p.1.2.toNat = q.1.2.toNat := by omega
    exact Prod.ext (by omega) (by omega)
  · intro x hx
    obtain ⟨k, hk, rfl⟩ := List.mem_map.mp hx
    obtain ⟨p, hp, rfl⟩ := List.mem_map.mp hk
    obtain ⟨a1, a2, a3, a4⟩ := h.rng p hp
    have e0 : p.1.1.toNat + 1 ≤ n := by omega
    have e1 : p.1.2.toNat < n := by omega
    have := Nat.mul_le_mul_right n e0
    rw [Nat.add_mul, Nat.one_mul] at this
    omega
def InR (n : Nat) (xs : List PyData) : Prop := ∀ x, x ∈ xs → ∃ i : Int, x = .int i ∧ 0 ≤ i ∧ i < n
theorem inR_rg (n : Nat) : InR n (intsD 0 n) := fun x hx => by
  unfold intsD at hx
  obtain ⟨k, hk, rfl⟩ := List.mem_map.mp hx
  have := List.mem_range.mp hk
  exact ⟨_, rfl, by omega, by omega⟩
theorem InR.tail {n : Nat} {x : PyData} {xs : List PyData} (h : InR n (x :: xs)) : InR n xs := fun y hy => h y (List.mem_cons_of_mem _ hy)
theorem InR.head {n : Nat} {x : PyData} {xs : List PyData} (h : InR n (x :: xs)) : ∃ i : Int, x = .int i ∧ 0 ≤ i ∧ i < n := h x List.mem_cons_self
theorem rng1_n {n : Nat} (h : n ≤ 1000) : rng1 [.int (n : Int)] = some (intsD 0 n) := by
  unfold rng1
  simp only []
  rw [if_pos ⟨by omega, by omega⟩]
  simp
def RuleT (n : Nat) (t : T) : Prop := ∃ m, t = .v (ruleD n m) ∧ RowOk n 100 200 m
theorem any_spec {e : Env} {n : Nat} (h : PenT (e 0)) (hn : e 1 = some (.v (.int n))) (n0 : n ≤ 5) : wp m__law_any_rule e (fun r e' => ∃ t, r = .rt t ∧ RuleT n t ∧ PenT (e' 0)) fun _ _ => False := by
  unfold m__law_any_rule
  refine wp_seqK (fun e' => PenT (e' 0) ∧ e' 1 = some (.v (.int n)) ∧ ∃ w : Int, e' 2 = some (.v (.int w)) ∧ 0 ≤ w ∧ w ≤ 99) ?_ fun e1 ⟨a0, a1, w, a2, w0, w1⟩ => ?_
  · simp
    refine wp_one [.int 0, .int 0, .int 1, .int 3, .int 99] h (by simp [Gives]; decide) (by simp) (by simp) fun d p hd hp => ?_
    simp [hn, hp]
    simp at hd
    rcases hd with rfl | rfl | rfl | rfl <;> simp
  refine wp_seqK (fun e' => PenT (e' 0) ∧ e' 1 = some (.v (.int n)) ∧ e' 2 = some (.v (.int w)) ∧ (∃ s : Int, e' 3 = some (.v (.int s))) ∧ e' 4 = some (clT [])) ?_ fun e2 ⟨b0, b1, b2, ⟨s, b3⟩, b4⟩ => ?_
  · simp
    refine wp_one [.int 1, .int 2, .int 3, .int 4, .int 4] a0 (by simp [Gives]; decide) (by simp) (by simp) fun d p hd hp => ?_
    simp [a1, a2, hp]
    refine ⟨?_, rfl⟩
    simp at hd
    rcases hd with rfl | rfl | rfl | rfl <;> simp
  refine wp_seqK (fun e' => PenT (e' 0) ∧ e' 1 = some (.v (.int n)) ∧ ∃ m, e' 4 = some (clT m) ∧ ClOk n (n * n) w m) ?_ fun e3 ⟨c0, c1, m, c4, c5⟩ => ?_
  · rw [wp_sFor]
    simp [b1, rng1_n (show n ≤ 1000 by omega)]
    refine wp_forL (fun xs e => InR n xs ∧ PenT (e 0) ∧ e 1 = some (.v (.int n)) ∧ e 2 = some (.v (.int w)) ∧ e 3 = some (.v (.int s)) ∧ ∃ m, e 4 = some (clT m) ∧ ClOk n (n * n) w m) _ ⟨inR_rg n, b0, b1, b2, b3, [], b4, (ClOk.nil n w).sq⟩ ?_ ?_
    · rintro e ⟨_, h0, h1, _, _, h4⟩
      exact ⟨h0, h1, h4⟩
    · rintro x xs e ⟨hx, h0, h1, h2, h3, m, h4, h5⟩
      obtain ⟨i, rfl, i0, i1⟩ := hx.head
      refine ⟨_, rfl, ?_⟩
      rw [wp_sFor]
      simp [h1, rng1_n (show n ≤ 1000 by omega)]
      refine wp_forL (fun ys e => InR n ys ∧ PenT (e 0) ∧ e 1 = some (.v (.int n)) ∧ e 2 = some (.v (.int w)) ∧ e 3 = some (.v (.int s)) ∧ e 5 = some (.v (.int i)) ∧ ∃ m, e 4 = some (clT m) ∧ ClOk n (n * n) w m) _ ⟨inR_rg n, by simpa using h0, by simpa using h1, by simpa using h2, by simpa using h3, by simp, m, by simpa using h4, h5⟩ ?_ ?_
      · rintro e ⟨_, h0, h1, h2, h3, _, h4⟩
        exact ⟨hx.tail, h0, h1, h2, h3, h4⟩
      · rintro y ys e ⟨hy, h0, h1, h2, h3, h6, m, h4, h5⟩
        obtain ⟨j, rfl, j0, j1⟩ := hy.head
        refine ⟨_, rfl, ?_⟩
        rw [wp_sIf]
        simp
        refine wp_draw 5 (by simpa using h0) (by simp [Gives]) (by omega) (by omega) fun d p d0 d1 hp => ?_
        by_cases q : d < s
        · simp [h3, q, h4]
          refine wp_price w (by simpa using hp) (by simp [Gives, h2]) w0 (by omega) fun v p v0 v1 hp => ?_
          simp [h4, h6]
          refine ⟨by decide, wp_putC (m := m) (n := n) (c := n * n) (w := w) (by simp [h4]) h5 (by have := Nat.mul_le_mul n0 n0; omega) ?_⟩
          simp
          exact ⟨hy.tail, hp, h1, h2, h3, h6, _, rfl, (putC_ok h5 i0 i1 j0 j1 v0 v1).sq⟩
        · simp [q, h1, h2, h3, h4, h6]
          exact ⟨hy.tail, hp, m, rfl, h5⟩
  simp
  have : n * n ≤ 25 := Nat.mul_le_mul n0 n0
  refine wp_rule_of c1 c4 c5 (by omega) ?_
  simp
  refine ⟨⟨_, rfl, rowsOf_ok (c5.mono (by omega) (by omega))⟩, c0⟩

theorem wp_lcPen {tg : Tgt} {me : M PyData} {vs : List Nat} {e : Env} {Φ : PyData → Env → Prop} {Ψ : Exn → Env → Prop} (xs : List PyData) (P : PyData → Prop) (h0 : PenT (e 0)) (hv : 0 ∉ vs)
    (hx : ∀ x, x ∈ xs → ∀ p, PenT p → ∃ e1, tg x (setE (wipeE e vs) 0 p) = some e1 ∧ wp me e1 (fun y e3 => P y ∧ ∃ p', PenT p' ∧ wipeE e3 vs = setE (wipeE e vs) 0 p') fun _ _ => False) (hl : xs.length ≤ sizeLine)
    (q : ∀ (ys : List PyData) p, ys.length = xs.length → (∀ y, y ∈ ys → P y) → PenT p → Φ (.list ys) (setE e 0 p)) : wp (lcEnd tg (pure true) me vs xs) e Φ Ψ := by
  refine wp_lcI (fun zs ys e' => (∃ p, PenT p ∧ e' = setE (wipeE e vs) 0 p) ∧ (∀ x, x ∈ zs → x ∈ xs) ∧ (∀ y, y ∈ ys → P y) ∧ ys.length + zs.length = xs.length) ?_ xs ⟨⟨e 0, h0, ?_⟩, fun _ h => h, fun y hy => (by cases hy), by simp⟩ ?_
  · rintro x zs ys e' ⟨⟨p, hp, rfl⟩, hm, hy, hlen⟩
    obtain ⟨e1, h1, h2⟩ := hx x (hm x List.mem_cons_self) p hp
    refine ⟨e1, h1, ?_⟩
    simp
    refine wp_mono h2 fun y e3 ⟨h3, p', h4, h5⟩ => ⟨⟨p', h4, h5⟩, fun z hz => hm z (List.mem_cons_of_mem _ hz), fun z hz => ?_, by simp at hlen ⊢; omega⟩
    rcases hz with hz | hz
    · exact hy z hz
    · rw [hz]; exact h3
  · funext j
    unfold setE wipeE
    by_cases c : j = 0
    · subst c; simp [hv]
    · simp [c]
  · rintro ys e2 ⟨⟨p, hp, rfl⟩, _, hy, hlen⟩
    have e3 : backE e (setE (wipeE e vs) 0 p) vs = setE e 0 p := by
      funext j
      unfold backE setE wipeE
      by_cases c : j ∈ vs
      · have : j ≠ 0 := fun z => hv (by rw [← z]; exact c)
        simp [c, this]
      · simp [c]
    rw [e3]
    simp at hlen
    exact ⟨by omega, q ys p hlen hy hp⟩
theorem rowAt {n : Nat} {l : List Int} (h : l.Perm (rgI n)) {i : Int} (h0 : 0 ≤ i) (h1 : i < n) : ∃ c : Int, L2.atI (l.map PyData.int) i = some (.int c) ∧ 0 ≤ c ∧ c < n := by
  have hl : l.length = n := by rw [h.length_eq]; simp [rgI]
  obtain ⟨d, e1, e2⟩ := atI_in (l := l.map PyData.int) h0 (by simpa [hl] using h1)
  obtain ⟨c, hc, rfl⟩ := List.mem_map.mp e2
  refine ⟨c, e1, ?_⟩
  have := h.mem_iff.mp hc
  unfold rgI at this
  obtain ⟨k, hk, rfl⟩ := List.mem_map.mp this
  have := List.mem_range.mp hk
  omega
theorem ring_spec {e : Env} {n : Nat} (h : PenT (e 0)) (hn : e 1 = some (.v (.int n))) (n0 : n ≤ 5) (n2 : 2 ≤ n) : wp m__law_ring_rule e (fun r e' => ∃ t, r = .rt t ∧ RuleT n t ∧ PenT (e' 0)) fun _ _ => False := by
  have nn : n * n ≤ 25 := Nat.mul_le_mul n0 n0
  unfold m__law_ring_rule
  refine wp_seqK (fun e' => PenT (e' 0) ∧ e' 1 = some (.v (.int n)) ∧ ∃ k : Nat, e' 2 = some (.v (.int k)) ∧ 2 ≤ k ∧ k ≤ n) ?_ fun e1 ⟨a0, a1, k, a2, k0, k1⟩ => ?_
  · simp
    refine wp_draw ((n : Int) - 1) h (by simp [Gives, hn]) (by omega) (by omega) fun d p d0 d1 hp => ?_
    simp [hn, hp]
    exact ⟨(2 + d).toNat, by omega, by omega, by omega⟩
  refine wp_seqK (fun e' => PenT (e' 0) ∧ e' 1 = some (.v (.int n)) ∧ e' 2 = some (.v (.int k)) ∧ ∃ R C : List Int, e' 3 = some (.v (.list (R.map .int))) ∧ e' 4 = some (.v (.list (C.map .int))) ∧ R.Perm (rgI n) ∧ C.Perm (rgI n)) ?_ fun e2 ⟨b0, b1, b2, R, C, b3, b4, hR, hC⟩ => ?_
  · simp
    refine wp_line n a0 (by simp [Gives, a1]) (by omega) fun R p hR hp => ?_
    simp
    refine wp_line n (by simpa using hp) (by simp [Gives, a1]) (by omega) fun C p hC hp => ?_
    simp [hp, a1, a2]
    exact ⟨R, rfl, C, rfl, hR, hC⟩
  refine wp_seqK (fun e' => PenT (e' 0) ∧ e' 1 = some (.v (.int n)) ∧ e' 2 = some (.v (.int k)) ∧ e' 3 = some (.v (.list (R.map .int))) ∧ e' 4 = some (.v (.list (C.map .int))) ∧ (∃ w : Int, e' 5 = some (.v (.int w)) ∧ 0 ≤ w ∧ w ≤ 2) ∧ e' 6 = some (clT [])) ?_ fun e3 ⟨c0, c1, c2, c3, c4, ⟨w, c5, w0, w1⟩, c6⟩ => ?_
  · simp
    refine wp_one [.int 0, .int 0, .int 2] b0 (by simp [Gives]; decide) (by simp) (by simp) fun d p hd hp => ?_
    simp [b1, b2, b3, b4, hp]
    refine ⟨?_, rfl⟩
    simp at hd
    rcases hd with rfl | rfl <;> simp
  have ph : ∀ (e : Env), e 1 = some (.v (.int n)) ∧ e 2 = some (.v (.int k)) ∧ e 3 = some (.v (.list (R.map .int))) ∧ e 4 = some (.v (.list (C.map .int))) ∧ e 5 = some (.v (.int w)) → True := fun _ _ => trivial
  refine wp_seqK (fun e' => PenT (e' 0) ∧ e' 1 = some (.v (.int n)) ∧ e' 5 = some (.v (.int w)) ∧ ∃ m, e' 6 = some (clT m) ∧ ClOk n (n * n) w m) ?_ fun e4 ⟨d0, d1, d5, m4, d6, d7⟩ => ?_
  · rw [wp_sFor]
    simp [c2, rng1_n (show k ≤ 1000 by omega)]
    refine wp_forL (fun xs e => InR k xs ∧ PenT (e 0) ∧ e 1 = some (.v (.int n)) ∧ e 2 = some (.v (.int k)) ∧ e 3 = some (.v (.list (R.map .int))) ∧ e 4 = some (.v (.list (C.map .int))) ∧ e 5 = some (.v (.int w)) ∧ ∃ m, e 6 = some (clT m) ∧ ClOk n (n * n) w m) _ ⟨inR_rg k, c0, c1, c2, c3, c4, c5, [], c6, (ClOk.nil n w).sq⟩ ?_ ?_
    · rintro e ⟨_, h0, h1, _, _, _, h5, h6⟩
      exact ⟨h0, h1, h5, h6⟩
    · rintro x xs e ⟨hx, h0, h1, h2, h3, h4, h5, m, h6, h7⟩
      obtain ⟨i, rfl, i0, i1⟩ := hx.head
      obtain ⟨r, r1, r2, r3⟩ := rowAt hR i0 (show i < n by omega)
      obtain ⟨c, q1, q2, q3⟩ := rowAt hC i0 (show i < n by omega)
      have s0 := Int.emod_nonneg (i + 1) (show (k : Int) ≠ 0 by omega)
      have s1 := Int.emod_lt_of_pos (i + 1) (show (0 : Int) < k by omega)
      obtain ⟨c', q4, q5, q6⟩ := rowAt hC s0 (show (i + 1) % k < n by omega)
      refine ⟨_, rfl, ?_⟩
      rw [wp_sSeq]
      simp
      refine wp_price w (by simpa using h0) (by simp [Gives, h5]) w0 (by omega) fun v p v0 v1 hp => ?_
      simp [h3, h4, h6, r1, q1]
      refine ⟨by decide, wp_putC (m := m) (n := n) (c := n * n) (w := w) (by simp [h6]) h7 (by omega) ?_⟩
      simp
      refine wp_price w (by simpa using hp) (by simp [Gives, h5]) w0 (by omega) fun v' p v0' v1' hp => ?_
      simp [h2, h3, h4, r1, q4]
      refine ⟨by omega, by decide, wp_putC (m := putC m (r, c) v) (n := n) (c := n * n) (w := w) (by simp) (putC_ok h7 r2 r3 q2 q3 v0 v1).sq (by omega) ?_⟩
      simp
      exact ⟨hx.tail, hp, h1, h2, h3, h4, h5, _, rfl, (putC_ok (putC_ok h7 r2 r3 q2 q3 v0 v1).sq r2 r3 q5 q6 v0' v1').sq⟩
  refine wp_seqK (fun e' => PenT (e' 0) ∧ e' 1 = some (.v (.int n)) ∧ ∃ m, e' 6 = some (clT m) ∧ ClOk n (n * n) w m) ?_ fun e5 ⟨f0, f1, m, f6, f7⟩ => ?_
  · rw [wp_sFor]
    simp
    refine wp_draw 5 d0 (by simp [Gives]) (by omega) (by omega) fun d p g0 g1 hp => ?_
    obtain ⟨d', rfl⟩ : ∃ d' : Nat, d = (d' : Int) := ⟨d.toNat, by omega⟩
    simp [rng1_n (show d' ≤ 1000 by omega)]
    refine wp_forL (fun xs e => PenT (e 0) ∧ e 1 = some (.v (.int n)) ∧ e 5 = some (.v (.int w)) ∧ ∃ m, e 6 = some (clT m) ∧ ClOk n (n * n) w m) _ ⟨by simpa using hp, by simpa using d1, by simpa using d5, m4, by simpa using d6, d7⟩ ?_ ?_
    · rintro e ⟨h0, h1, _, h6⟩
      exact ⟨h0, h1, h6⟩
    · rintro x xs e ⟨h0, h1, h5, m, h6, h7⟩
      refine ⟨_, rfl, ?_⟩
      simp
      refine wp_price w (by simpa using h0) (by simp [Gives, h5]) w0 (by omega) fun v p v0 v1 hp => ?_
      simp [h6]
      refine wp_draw n (by simpa using hp) (by simp [Gives, h1]) (by omega) (by omega) fun a p a0 a1 hp => ?_
      simp
      refine wp_draw n (by simpa using hp) (by simp [Gives, h1]) (by omega) (by omega) fun b p b0 b1 hp => ?_
      simp
      refine ⟨by decide, wp_putC (m := m) (n := n) (c := n * n) (w := w) (by simp [h6]) h7 (by omega) ?_⟩
      simp
      exact ⟨hp, h1, h5, _, rfl, (putC_ok h7 a0 a1 b0 b1 v0 v1).sq⟩
  simp
  refine wp_rule_of f1 f6 f7 (by omega) ?_
  simp
  exact ⟨⟨_, rfl, rowsOf_ok (f7.mono (by omega) (by omega))⟩, f0⟩

theorem ints_of {Q : Int → Prop} : ∀ {ys : List PyData}, (∀ y, y ∈ ys → ∃ i : Int, y = .int i ∧ Q i) → ∃ l : List Int, ys = l.map .int ∧ ∀ i, i ∈ l → Q i
  | [], _ => ⟨[], rfl, fun i h => by cases h⟩
  | y :: ys, h => by
    obtain ⟨i, rfl, hi⟩ := h y List.mem_cons_self
    obtain ⟨l, rfl, hl⟩ := ints_of fun y hy => h y (List.mem_cons_of_mem _ hy)
    refine ⟨i :: l, rfl, fun j hj => ?_⟩
    rcases List.mem_cons.mp hj with rfl | hj
    · exact hi
    · exact hl j hj
theorem sortC_ints {l : List Int} (h : l.length ≤ 1000) : sortC (l.map .int) = true := by
  unfold sortC
  have e1 : ((l.map PyData.int).all fun d => (l.map PyData.int).all fun d' => PySem.W.alike d d') = true := by
    rw [List.all_eq_true]
    intro d hd
    rw [List.all_eq_true]
    intro d' hd'
    obtain ⟨k, _, rfl⟩ := List.mem_map.mp hd
    obtain ⟨k', _, rfl⟩ := List.mem_map.mp hd'
    rfl
  rw [e1]
  simp only [Bool.true_and, Bool.and_eq_true, Bool.or_eq_true]
  refine ⟨⟨⟨.inr ?_, ?_⟩, ?_⟩, ?_⟩
  · rw [List.all_eq_true]
    intro d hd
    obtain ⟨k, _, rfl⟩ := List.mem_map.mp hd
    rfl
  · exact nd_of_all fun d hd => by
      obtain ⟨k, _, rfl⟩ := List.mem_map.mp hd
      rfl
  · simp only [decide_eq_true_eq, List.length_map]
    exact size_le h
  · rw [List.all_eq_true]
    intro d hd
    obtain ⟨k, _, rfl⟩ := List.mem_map.mp hd
    rfl
def leI (a b : Int) : Bool := decide (a ≤ b)
theorem sortF_ints {l : List Int} (h : l.length ≤ 1000) : sortedF [.list (l.map .int)] = some (.list ((l.mergeSort leI).map .int)) := by
  unfold sortedF
  simp only []
  rw [if_pos (sortC_ints h)]
  unfold sortL
  rw [List.map_mergeSort (s := PySem.W.dataLe false fun d => d)]
  intro a _ b _
  have := congrFun (congrFun (PySem.W.dataLe_int (β := Int) fun p => p) a) b
  exact this.symm
theorem atL {l : List Int} {i : Int} (h0 : 0 ≤ i) (h1 : i < l.length) : ∃ c : Int, L2.atI (l.map PyData.int) i = some (.int c) ∧ c ∈ l := by
  obtain ⟨d, e1, e2⟩ := atI_in (l := l.map PyData.int) h0 (by simpa using h1)
  obtain ⟨c, hc, rfl⟩ := List.mem_map.mp e2
  exact ⟨c, e1, hc⟩
theorem setE_swap {e : Env} {i j : Nat} {t u : Option T} (h : i ≠ j) : setE (setE e i t) j u = setE (setE e j u) i t := by
  funext k
  unfold setE
  by_cases c : k = i
  · subst c; simp [h]
  · simp [c]
theorem setE_twice {e : Env} {i : Nat} {t u : Option T} : setE (setE e i t) i u = setE e i u := by
  funext k
  unfold setE
  by_cases c : k = i <;> simp [c]
theorem wp_prices {i n : Nat} {w : Int} {e : Env} {x vs : Nat} {md : M PyData} {Φ : PyData → Env → Prop} {Ψ : Exn → Env → Prop} (h0 : PenT (e 0)) (hn : e i = some (.v (.int n))) (n0 : n ≤ 1000) (hx : x ≠ 0) (w0 : 0 ≤ w) (w1 : w ≤ 1000)
    (hd : ∀ e' : Env, (∀ j, j ≠ 0 → j ≠ x → e' j = e j) → Gives md e' (.int w) fun _ _ => False) (q : ∀ (l : List Int) p, l.length = n → (∀ c, c ∈ l → -w ≤ c ∧ c ≤ w) → PenT p → Φ (.list (l.map .int)) (setE e 0 p)) :
    wp (mLc (mIA rng1 (aCons (mVar i) aNil)) (gNm x) (pure true) (mFz (mCall (lent [0]) 2 m__law_price (oCons (mPk 0) (oCons (mFr md) oNil)))) [x]) e Φ Ψ := by
  have hx' : ¬ (0 = x) := fun z => hx z.symm
  rw [wp_mLc]
  simp [hn, rng1_n n0]
  refine wp_lcPen _ (fun y => ∃ c : Int, y = .int c ∧ (-w ≤ c ∧ c ≤ w)) h0 (by simpa using fun h => hx h.symm) ?_ (by simp [intsD]; exact size_le n0) ?_
  · intro y _ p hp
    refine ⟨_, rfl, ?_⟩
    simp
    refine wp_price w (by simpa [hx'] using hp) ?_ w0 w1 fun v p' v0 v1 hp' => ?_
    · refine hd _ fun j j0 jx => ?_
      simp [j0, jx, wipeE]
    · simp
      refine ⟨⟨v0, v1⟩, p', hp', ?_⟩
      rw [setE_swap hx, setE_twice]
      funext j
      unfold wipeE setE
      by_cases c : j = x
      · subst c; simp [hx]
      · by_cases c0 : j = 0 <;> simp [c, c0, wipeE, hx']
  · intro ys p hl hy hp
    obtain ⟨l, rfl, hl2⟩ := ints_of hy
    exact q l p (by simpa [intsD] using hl) hl2 hp
theorem wp_draws {i n : Nat} {b : Int} {e : Env} {x : Nat} {md : M PyData} {Φ : PyData → Env → Prop} {Ψ : Exn → Env → Prop} (h0 : PenT (e 0)) (hn : e i = some (.v (.int n))) (n0 : n ≤ 1000) (hx : x ≠ 0) (b0 : 0 < b) (b1 : b ≤ 1000)
    (hd : ∀ e' : Env, (∀ j, j ≠ 0 → j ≠ x → e' j = e j) → Gives md e' (.int b) fun _ _ => False) (q : ∀ (l : List Int) p, l.length = n → (∀ c, c ∈ l → 0 ≤ c ∧ c < b) → PenT p → Φ (.list (l.map .int)) (setE e 0 p)) :
    wp (mLc (mIA rng1 (aCons (mVar i) aNil)) (gNm x) (pure true) (mFz (mCall (lent [0]) 2 m__law_draw (oCons (mPk 0) (oCons (mFr md) oNil)))) [x]) e Φ Ψ := by
  have hx' : ¬ (0 = x) := fun z => hx z.symm
  rw [wp_mLc]
  simp [hn, rng1_n n0]
  refine wp_lcPen _ (fun y => ∃ c : Int, y = .int c ∧ (0 ≤ c ∧ c < b)) h0 (by simpa using fun h => hx h.symm) ?_ (by simp [intsD]; exact size_le n0) ?_
  · intro y _ p hp
    refine ⟨_, rfl, ?_⟩
    simp
    refine wp_draw b (by simpa [hx'] using hp) ?_ b0 (by omega) fun v p' v0 v1 hp' => ?_
    · refine hd _ fun j j0 jx => ?_
      simp [j0, jx, wipeE]
    · simp
      refine ⟨⟨v0, v1⟩, p', hp', ?_⟩
      rw [setE_swap hx, setE_twice]
      funext j
      unfold wipeE setE
      by_cases c : j = x
      · subst c; simp [hx]
      · by_cases c0 : j = 0 <;> simp [c, c0, wipeE, hx']
  · intro ys p hl hy hp
    obtain ⟨l, rfl, hl2⟩ := ints_of hy
    exact q l p (by simpa [intsD] using hl) hl2 hp

theorem calm_spec {e : Env} {n : Nat} (h : PenT (e 0)) (hn : e 1 = some (.v (.int n))) (n0 : n ≤ 5) : wp m__law_calm_rule e (fun r e' => ∃ t, r = .rt t ∧ RuleT n t ∧ PenT (e' 0)) fun _ _ => False := by
  have nn : n * n ≤ 25 := Nat.mul_le_mul n0 n0
  unfold m__law_calm_rule
  refine wp_seqK (fun e' => PenT (e' 0) ∧ e' 1 = some (.v (.int n)) ∧ ∃ R C : List Int, e' 2 = some (.v (.list (R.map .int))) ∧ e' 3 = some (.v (.list (C.map .int))) ∧ R.Perm (rgI n) ∧ C.Perm (rgI n)) ?_ fun e2 ⟨b0, b1, R, C, b2, b3, hR, hC⟩ => ?_
  · simp
    refine wp_line n h (by simp [Gives, hn]) (by omega) fun R p hR hp => ?_
    simp
    refine wp_line n (by simpa using hp) (by simp [Gives, hn]) (by omega) fun C p hC hp => ?_
    simp [hp, hn]
    exact ⟨R, rfl, C, rfl, hR, hC⟩
  refine wp_seqK (fun e' => PenT (e' 0) ∧ e' 1 = some (.v (.int n)) ∧ e' 2 = some (.v (.list (R.map .int))) ∧ e' 3 = some (.v (.list (C.map .int))) ∧ ∃ L : List Int, e' 4 = some (.v (.list (L.map .int))) ∧ L.length = n ∧ ∀ c, c ∈ L → 0 ≤ c ∧ c ≤ n) ?_ fun e3 ⟨c0, c1, c2, c3, L, c4, hL, hL2⟩ => ?_
  · simp only [wp_sSet, wp_mArgs, wp_aCons, wp_aNil]
    refine wp_draws (b := (n : Int) + 1) b0 b1 (by omega) (by omega) (by omega) (by omega) (fun e' k => ?_) fun l p hl hl2 hp => ?_
    · simp [Gives, k 1 (by omega) (by omega), b1]
    · rw [sortF_ints (by omega)]
      simp [b1, b2, b3, hp]
      refine ⟨_, rfl, by simp [hl], fun c hc => ?_⟩
      have := hl2 c (List.mem_mergeSort.mp hc)
      omega
  refine wp_seqK (fun e' => PenT (e' 0) ∧ e' 1 = some (.v (.int n)) ∧ e' 2 = some (.v (.list (R.map .int))) ∧ e' 3 = some (.v (.list (C.map .int))) ∧ e' 4 = some (.v (.list (L.map .int))) ∧ (∃ w : Int, e' 5 = some (.v (.int w)) ∧ 0 ≤ w ∧ w ≤ 9) ∧ (∃ s : Int, e' 6 = some (.v (.int s)) ∧ 0 ≤ s ∧ s ≤ 3) ∧ e' 7 = some (clT [])) ?_ fun e4 ⟨d0, d1, d2, d3, d4, ⟨w, d5, w0, w1⟩, ⟨s, d6, s0, s1⟩, d7⟩ => ?_
  · simp
    refine wp_one [.int 0, .int 1, .int 9] c0 (by simp [Gives]; decide) (by simp) (by simp) fun d p hd hp => ?_
    simp
    refine wp_one [.int 0, .int 0, .int 1, .int 3] (by simpa using hp) (by simp [Gives]; decide) (by simp) (by simp) fun d' p hd' hp => ?_
    simp [c1, c2, c3, c4, hp]
    refine ⟨?_, ?_, rfl⟩
    · simp at hd
      rcases hd with rfl | rfl | rfl <;> simp
    · simp at hd'
      rcases hd' with rfl | rfl | rfl <;> simp
  have pl : ∀ (i x : Nat), True := fun _ _ => trivial
  refine wp_seqK (fun e' => PenT (e' 0) ∧ e' 1 = some (.v (.int n)) ∧ e' 2 = some (.v (.list (R.map .int))) ∧ e' 3 = some (.v (.list (C.map .int))) ∧ e' 4 = some (.v (.list (L.map .int))) ∧ e' 5 = some (.v (.int w)) ∧ e' 6 = some (.v (.int s)) ∧ e' 7 = some (clT []) ∧ ∃ A : List Int, e' 8 = some (.v (.list (A.map .int))) ∧ A.length = n ∧ ∀ c, c ∈ A → -9 ≤ c ∧ c ≤ 9) ?_ fun e5 ⟨f0, f1, f2, f3, f4, f5, f6, f7, A, f8, hA, hA2⟩ => ?_
  · simp only [wp_sSet]
    refine wp_prices (vs := 0) (w := w) d0 d1 (by omega) (by omega) w0 (by omega) (fun e' k => ?_) fun l p hl hl2 hp => ?_
    · simp [Gives, k 5 (by omega) (by omega), d5]
    · simp [d1, d2, d3, d4, d5, d6, d7, hp]
      exact ⟨l, rfl, hl, fun c hc => by have := hl2 c hc; omega⟩
  refine wp_seqK (fun e' => PenT (e' 0) ∧ e' 1 = some (.v (.int n)) ∧ e' 2 = some (.v (.list (R.map .int))) ∧ e' 3 = some (.v (.list (C.map .int))) ∧ e' 4 = some (.v (.list (L.map .int))) ∧ e' 6 = some (.v (.int s)) ∧ e' 7 = some (clT []) ∧ e' 8 = some (.v (.list (A.map .int))) ∧ ∃ A : List Int, e' 9 = some (.v (.list (A.map .int))) ∧ A.length = n ∧ ∀ c, c ∈ A → -9 ≤ c ∧ c ≤ 9) ?_ fun e6 ⟨g0, g1, g2, g3, g4, g6, g7, g8, D, g9, hD, hD2⟩ => ?_
  · simp only [wp_sSet]
    refine wp_prices (vs := 0) (w := w) f0 f1 (by omega) (by omega) w0 (by omega) (fun e' k => ?_) fun l p hl hl2 hp => ?_
    · simp [Gives, k 5 (by omega) (by omega), f5]
    · simp [f1, f2, f3, f4, f5, f6, f7, f8, hp]
      exact ⟨l, rfl, hl, fun c hc => by have := hl2 c hc; omega⟩
  refine wp_seqK (fun e' => PenT (e' 0) ∧ e' 1 = some (.v (.int n)) ∧ ∃ m, e' 7 = some (clT m) ∧ ClOk n (n * n) 200 m) ?_ fun e7 ⟨p0, p1, m, p6, p7⟩ => ?_
  · rw [wp_sFor]
    simp [g1, rng1_n (show n ≤ 1000 by omega)]
    refine wp_forL (fun xs e => InR n xs ∧ PenT (e 0) ∧ e 1 = some (.v (.int n)) ∧ e 2 = some (.v (.list (R.map .int))) ∧ e 3 = some (.v (.list (C.map .int))) ∧ e 4 = some (.v (.list (L.map .int))) ∧ e 6 = some (.v (.int s)) ∧ e 8 = some (.v (.list (A.map .int))) ∧ e 9 = some (.v (.list (D.map .int))) ∧ ∃ m, e 7 = some (clT m) ∧ ClOk n (n * n) 200 m) _ ⟨inR_rg n, g0, g1, g2, g3, g4, g6, g8, g9, [], g7, (ClOk.nil n 200).sq⟩ ?_ ?_
    · rintro e ⟨_, h0, h1, _, _, _, _, _, _, h6⟩
      exact ⟨h0, h1, h6⟩
    · rintro x xs e ⟨hx, h0, h1, h2, h3, h4, h6, h8, h9, m, h7, hm⟩
      obtain ⟨i, rfl, i0, i1⟩ := hx.head
      obtain ⟨l, l1, l2⟩ := atL (l := L) i0 (by omega)
      have l3 := hL2 l l2
      obtain ⟨l', rfl⟩ : ∃ l' : Nat, l = (l' : Int) := ⟨l.toNat, by omega⟩
      refine ⟨_, rfl, ?_⟩
      rw [wp_sFor]
      simp [h4, l1, rng1_n (show l' ≤ 1000 by omega)]
      refine wp_forL (fun ys e => InR l' ys ∧ PenT (e 0) ∧ e 1 = some (.v (.int n)) ∧ e 2 = some (.v (.list (R.map .int))) ∧ e 3 = some (.v (.list (C.map .int))) ∧ e 4 = some (.v (.list (L.map .int))) ∧ e 6 = some (.v (.int s)) ∧ e 8 = some (.v (.list (A.map .int))) ∧ e 9 = some (.v (.list (D.map .int))) ∧ e 10 = some (.v (.int i)) ∧ ∃ m, e 7 = some (clT m) ∧ ClOk n (n * n) 200 m) _ ⟨inR_rg l', by simpa using h0, by simpa using h1, by simpa using h2, by simpa using h3, by simpa using h4, by simpa using h6, by simpa using h8, by simpa using h9, by simp, m, by simpa using h7, hm⟩ ?_ ?_
      · rintro e ⟨_, h0, h1, h2, h3, h4, h6, h8, h9, _, h7⟩
        exact ⟨hx.tail, h0, h1, h2, h3, h4, h6, h8, h9, h7⟩
      · rintro y ys e ⟨hy, h0, h1, h2, h3, h4, h6, h8, h9, h10, m, h7, hm⟩
        obtain ⟨j, rfl, j0, j1⟩ := hy.head
        have j2 : j < n := by omega
        obtain ⟨u, u1, u2⟩ := atL (l := A) i0 (by omega)
        obtain ⟨v, v1, v2⟩ := atL (l := D) j0 (by omega)
        have u3 := hA2 u u2
        have v3 := hD2 v v2
        obtain ⟨r, r1, r2, r3⟩ := rowAt hR i0 i1
        obtain ⟨c, q1, q2, q3⟩ := rowAt hC j0 j2
        have pr : 0 ≤ s * i * j ∧ s * i * j ≤ 3 * 4 * 4 := by
          have a1 : 0 ≤ s * i := Int.mul_nonneg s0 i0
          have a2 : s * i ≤ 3 * 4 := Int.mul_le_mul s1 (show i ≤ 4 by omega) i0 (by omega)
          exact ⟨Int.mul_nonneg a1 j0, Int.mul_le_mul a2 (show j ≤ 4 by omega) j0 (by omega)⟩
        refine ⟨_, rfl, ?_⟩
        refine wp_seqK (fun e' => e' = setE (setE e 11 (some (.v (.int j)))) 12 (some (.v (.int (u + v - s * i * j))))) ?_ fun e' he => ?_
        · simp [h6, h8, h9, h10, u1, v1]
          exact ⟨mulC_l (by omega) (by omega), mulC_r (by omega) (by omega)⟩
        subst he
        simp [h2, h3, h7, h10, r1, q1]
        refine ⟨by decide, ?_⟩
        refine wp_putC (m := m) (n := n) (c := n * n) (w := 200) (by simp [h7]) hm (by omega) ?_
        simp
        exact ⟨hy.tail, h0, h1, h2, h3, h4, h6, h8, h9, h10, _, rfl, (putC_ok hm r2 r3 q2 q3 (by omega) (by omega)).sq⟩
  simp
  refine wp_rule_of p1 p6 p7 (by omega) ?_
  simp
  exact ⟨⟨_, rfl, rowsOf_ok (p7.mono (by omega) (by omega))⟩, p0⟩
theorem rule_spec {e : Env} {n : Nat} (h : PenT (e 0)) (hn : e 1 = some (.v (.int n))) (n0 : n ≤ 5) (n2 : 2 ≤ n) : wp m__law_rule e (fun r e' => ∃ t, r = .rt t ∧ RuleT n t ∧ PenT (e' 0)) fun _ _ => False := by
  unfold m__law_rule
  refine wp_seqK (fun e' => PenT (e' 0) ∧ e' 1 = some (.v (.int n)) ∧ ∃ d : Int, e' 2 = some (.v (.int d))) ?_ fun e1 ⟨a0, a1, d, a2⟩ => ?_
  · simp
    refine wp_draw 3 h (by simp [Gives]) (by omega) (by omega) fun d p d0 d1 hp => ?_
    simp [hn, hp]
  have nFz : ∀ {t : T}, RuleT n t → ∃ d, t.fz = some d ∧ t = .v d := fun ⟨m, e, _⟩ => ⟨_, by rw [e]; exact fz_v, e⟩
  have cl : ∀ (f : M Fl) (e : Env), PenT (e 0) → e 1 = some (.v (.int n)) → (∀ e : Env, PenT (e 0) → e 1 = some (.v (.int n)) → wp f e (fun r e' => ∃ t, r = .rt t ∧ RuleT n t ∧ PenT (e' 0)) fun _ _ => False) →
      wp (mCall (lent [0]) 2 f (oCons (mPk 0) (oCons (mFr (mVar 1)) oNil))) e (fun t e' => ∃ d, t.fz = some d ∧ RuleT n (.v d) ∧ PenT (e' 0)) fun _ _ => False := fun f e h0 h1 hf => by
    refine wp_pen2 h0.there (D := fun d e1 => d = .int n ∧ e1 = e) (by simp [h1]) fun d e1 ⟨h2, h3⟩ => ?_
    subst h2 h3
    refine ⟨RuleT n, h0, hf, fun t p ht hp => ?_⟩
    obtain ⟨d, hd, rfl⟩ := nFz ht
    exact ⟨d, hd, ht, by simpa using hp⟩
  refine wp_seqK (fun e' => PenT (e' 0) ∧ e' 1 = some (.v (.int n)) ∧ ∃ d : Int, e' 2 = some (.v (.int d))) ?_ fun e2 ⟨b0, b1, d', b2⟩ => ?_
  · rw [wp_sIf]
    by_cases q : d = 0
    · simp only [wp_mCmp, wp_mFr, wp_mVar, a2, onVar_v, wp_mC, read_fr]
      subst q
      simp
      exact cl _ _ a0 a1 fun e h0 h1 => any_spec h0 h1 n0
    · simp [a2, q, a0, a1]
  simp [b2]
  by_cases q : d' = 1
  · subst q
    simp
    exact cl _ _ b0 b1 fun e h0 h1 => ring_spec h0 h1 n0 n2
  · simp [q]
    exact cl _ _ b0 b1 fun e h0 h1 => calm_spec h0 h1 n0
end PD

namespace PD
open PySem PySem.Spec PyProof.Rows L2

structure RC (d : PyData) (k l : Nat) : Prop where
  lay : d.canLay0 = true
  show_ : d.showable = true
  dep : d.depth ≤ k
  len : d.shown.length ≤ l
structure RCs (ds : List PyData) (k l : Nat) : Prop where
  all : ∀ d, d ∈ ds → RC d k l
theorem nd_lay : ∀ d : PyData, d.canLay0 = true → ndD d = true
  | .none, _ => rfl
  | .bool _, _ => rfl
  | .int _, _ => rfl
  | .str _, _ => rfl
  | .list xs, h => by
    rw [PyData.canLay0] at h
    rw [ndD]
    exact go xs h
  | .tuple xs, h => by
    rw [PyData.canLay0] at h
    rw [ndD]
    exact go xs h
  | .dict _, h => by rw [PyData.canLay0] at h; exact Bool.noConfusion h
where go : ∀ xs : List PyData, PyData.canLayAll0 xs = true → ndDs xs = true
  | [], _ => rfl
  | x :: xs, h => by
    rw [PyData.canLayAll0, Bool.and_eq_true] at h
    rw [ndDs, nd_lay x h.1, go xs h.2]
    rfl
theorem RC.rep {d : PyData} {k l : Nat} (h : RC d k l) (hk : k ≤ 60) (hl : l ≤ 16000000) : reprC d = true := by
  unfold reprC
  simp only [Bool.or_eq_true, Bool.and_eq_true, decide_eq_true_eq]
  exact .inr ⟨⟨⟨nd_lay d h.lay, h.show_⟩, Nat.le_trans h.dep hk⟩, Nat.le_trans h.len (Nat.le_trans hl (by decide))⟩
theorem RC.mono {d : PyData} {k l k' l' : Nat} (h : RC d k l) (h1 : k ≤ k') (h2 : l ≤ l') : RC d k' l' := ⟨h.lay, h.show_, Nat.le_trans h.dep h1, Nat.le_trans h.len h2⟩
theorem small_shown : (List.range 401).all (fun k => decide ((PyData.int ((k : Int) - 200)).shown.length ≤ 4)) = true := by decide +kernel
theorem rc_int {i : Int} (h0 : -200 ≤ i) (h1 : i ≤ 200) : RC (.int i) 0 4 := by
  refine ⟨rfl, ?_, by simp [PyData.depth], ?_⟩
  · rw [PyData.showable]
    have : i.natAbs < 2 ^ 1920 := Nat.lt_of_le_of_lt (show i.natAbs ≤ 200 by omega) (Nat.lt_of_lt_of_le (show 200 < 2 ^ 8 by decide) (Nat.pow_le_pow_right (by omega) (by omega)))
    have h2 : i.natAbs.log2 ≤ 7 := by
      rcases Nat.eq_zero_or_pos i.natAbs with z | z
      · rw [z]; decide
      · have := (Nat.log2_lt (by omega)).mpr (show i.natAbs < 2 ^ 8 by omega)
        omega
    exact decide_eq_true (by omega)
  · have := List.all_eq_true.mp small_shown (i + 200).toNat (List.mem_range.mpr (by omega))
    have e : (((i + 200).toNat : Nat) : Int) - 200 = i := by omega
    rw [e] at this
    exact of_decide_eq_true this
theorem len_app (a b : Str) : (a ++ b).length = a.length + b.length := strLen_append a b
theorem join_le {l : Nat} : ∀ ts : List Str, (∀ t, t ∈ ts → t.length ≤ l) → (Str.join ", " ts).length ≤ ts.length * (l + 2)
  | [], _ => by
    have : (Str.join ", " []).length = 0 := by decide +kernel
    rw [this]
    exact Nat.zero_le _
  | [x], h => by
    show x.length ≤ _
    have := h x List.mem_cons_self
    simp
    omega
  | x :: y :: r, h => by
    have ih := join_le (y :: r) fun t ht => h t (List.mem_cons_of_mem _ ht)
    have hx := h x List.mem_cons_self
    show (x ++ ", " ++ Str.join ", " (y :: r)).length ≤ _
    rw [len_app, len_app]
    have e2 : ((", " : String) : Str).length = 2 := rfl
    rw [e2]
    rw [List.length_cons, Nat.add_mul] 
    omega
theorem shownAll_map : ∀ ds : List PyData, PyData.shownAll ds = ds.map PyData.shown
  | [] => by rw [PyData.shownAll]; rfl
  | d :: ds => by rw [PyData.shownAll, shownAll_map ds]; rfl
theorem rc_all {ds : List PyData} {k l : Nat} (h0 : RCs ds k l) : PyData.canLayAll0 ds = true ∧ PyData.showableAll ds = true ∧ PyData.depthAll ds ≤ k + 1 := by
  have h := h0.all
  clear h0
  induction ds with
  | nil => exact ⟨rfl, rfl, by simp [PyData.depthAll]⟩
  | cons d ds ih =>
    obtain ⟨a, b, c⟩ := ih fun x hx => h x (List.mem_cons_of_mem _ hx)
    have hd := h d List.mem_cons_self
    refine ⟨by rw [PyData.canLayAll0, hd.lay, a]; rfl, by rw [PyData.showableAll, hd.show_, b]; rfl, ?_⟩
    rw [PyData.depthAll]
    have := hd.dep
    omega
theorem rc_tup {ds : List PyData} {k l : Nat} (h : RCs ds k l) : RC (.tuple ds) (k + 2) (ds.length * (l + 2) + 4) := by
  obtain ⟨a, b, c⟩ := rc_all h
  refine ⟨by rw [PyData.canLay0]; exact a, by rw [PyData.showable]; exact b, by rw [PyData.depth]; omega, ?_⟩
  rw [PyData.shown, shownAll_map]
  unfold tupleText
  rw [len_app, len_app]
  have := join_le (l := l) (ds.map PyData.shown) fun t ht => by
    obtain ⟨d, hd, rfl⟩ := List.mem_map.mp ht
    exact (h.all d hd).len
  rw [List.length_map] at this
  have e1 : (("(" : String) : Str).length = 1 := rfl
  have e2 : ((if (ds.map PyData.shown).length == 1 then ",)" else ")" : String) : Str).length ≤ 2 := by
    split
    · exact Nat.le_refl 2
    · exact Nat.le_succ 1
  rw [e1]
  omega
theorem rcs_nil {k l : Nat} : RCs [] k l := ⟨fun d h => by cases h⟩
theorem rcs_cons {d : PyData} {ds : List PyData} {k l : Nat} (h : RC d k l) (t : RCs ds k l) : RCs (d :: ds) k l := ⟨fun x hx => by
  rcases List.mem_cons.mp hx with rfl | hx
  · exact h
  · exact t.all x hx⟩
theorem rcs_map {α : Type} {f : α → PyData} {xs : List α} {k l : Nat} (h : ∀ x, x ∈ xs → RC (f x) k l) : RCs (xs.map f) k l := ⟨fun d hd => by
  obtain ⟨x, hx, rfl⟩ := List.mem_map.mp hd
  exact h x hx⟩
section
variable {e : Env} {Ψ : Exn → Env → Prop}
theorem Gives.wp {α : Type} {m : M α} {d : α} {Φ : α → Env → Prop} (h : Gives m e d Ψ) (q : Φ d e) : PD.wp m e Φ Ψ := wp_mono h fun x e1 ⟨h1, h2⟩ => by subst h1 h2; exact q
theorem wp_c1 {f : M Fl} {a : M PyData} {x r : PyData} {Φ : T → Env → Prop} (ha : Gives a e x Ψ) (hf : ∀ e, e 0 = some (.v x) → wp f e (fun z _ => z = .rt (.v r)) fun _ _ => False) (q : Φ (.v r) e) : wp (mCall (lent []) 1 f (oCons (mFr a) oNil)) e Φ Ψ := by
  rw [wp_mCall]
  simp only [wp_oCons, wp_mFr, wp_oNil]
  refine ha.wp ⟨⟨rfl, rfl⟩, wp_mono (hf _ rfl) ?_ fun _ _ z => z.elim⟩
  rintro z e' rfl
  refine ⟨_, rfl, ?_⟩
  have := outE0 (e := e) (e' := e') [x]
  simp only [List.map_cons, List.map_nil] at this
  rw [this]
  exact q
theorem wp_c2 {f : M Fl} {a b : M PyData} {x y r : PyData} {Φ : T → Env → Prop} (ha : Gives a e x Ψ) (hb : Gives b e y Ψ) (hf : ∀ e, e 0 = some (.v x) → e 1 = some (.v y) → wp f e (fun z _ => z = .rt (.v r)) fun _ _ => False) (q : Φ (.v r) e) :
    wp (mCall (lent []) 2 f (oCons (mFr a) (oCons (mFr b) oNil))) e Φ Ψ := by
  rw [wp_mCall]
  simp only [wp_oCons, wp_mFr, wp_oNil]
  refine ha.wp (hb.wp ⟨⟨rfl, rfl⟩, wp_mono (hf _ rfl rfl) ?_ fun _ _ z => z.elim⟩)
  rintro z e' rfl
  refine ⟨_, rfl, ?_⟩
  have := outE0 (e := e) (e' := e') [x, y]
  simp only [List.map_cons, List.map_nil] at this
  rw [this]
  exact q
theorem wp_c3 {f : M Fl} {a b c : M PyData} {x y z r : PyData} {Φ : T → Env → Prop} (ha : Gives a e x Ψ) (hb : Gives b e y Ψ) (hc : Gives c e z Ψ) (hf : ∀ e, e 0 = some (.v x) → e 1 = some (.v y) → e 2 = some (.v z) → wp f e (fun u _ => u = .rt (.v r)) fun _ _ => False) (q : Φ (.v r) e) :
    wp (mCall (lent []) 3 f (oCons (mFr a) (oCons (mFr b) (oCons (mFr c) oNil)))) e Φ Ψ := by
  rw [wp_mCall]
  simp only [wp_oCons, wp_mFr, wp_oNil]
  refine ha.wp (hb.wp (hc.wp ⟨⟨rfl, rfl⟩, wp_mono (hf _ rfl rfl rfl) ?_ fun _ _ z => z.elim⟩))
  rintro u e' rfl
  refine ⟨_, rfl, ?_⟩
  have := outE0 (e := e) (e' := e') [x, y, z]
  simp only [List.map_cons, List.map_nil] at this
  rw [this]
  exact q
theorem g_c1 {f : M Fl} {a : M PyData} {x r : PyData} (ha : Gives a e x Ψ) (hf : ∀ e, e 0 = some (.v x) → wp f e (fun z _ => z = .rt (.v r)) fun _ _ => False) : Gives (mFz (mCall (lent []) 1 f (oCons (mFr a) oNil))) e r Ψ := by
  unfold Gives
  rw [wp_mFz]
  exact wp_c1 ha hf ⟨r, fz_v, rfl, rfl⟩
theorem g_c2 {f : M Fl} {a b : M PyData} {x y r : PyData} (ha : Gives a e x Ψ) (hb : Gives b e y Ψ) (hf : ∀ e, e 0 = some (.v x) → e 1 = some (.v y) → wp f e (fun z _ => z = .rt (.v r)) fun _ _ => False) : Gives (mFz (mCall (lent []) 2 f (oCons (mFr a) (oCons (mFr b) oNil)))) e r Ψ := by
  unfold Gives
  rw [wp_mFz]
  exact wp_c2 ha hb hf ⟨r, fz_v, rfl, rfl⟩
theorem g_c3 {f : M Fl} {a b c : M PyData} {x y z r : PyData} (ha : Gives a e x Ψ) (hb : Gives b e y Ψ) (hc : Gives c e z Ψ) (hf : ∀ e, e 0 = some (.v x) → e 1 = some (.v y) → e 2 = some (.v z) → wp f e (fun u _ => u = .rt (.v r)) fun _ _ => False) :
    Gives (mFz (mCall (lent []) 3 f (oCons (mFr a) (oCons (mFr b) (oCons (mFr c) oNil))))) e r Ψ := by
  unfold Gives
  rw [wp_mFz]
  exact wp_c3 ha hb hc hf ⟨r, fz_v, rfl, rfl⟩
theorem g_var {i : Nat} {d : PyData} (h : e i = some (.v d)) : Gives (mVar i) e d Ψ := by simp [Gives, h]
theorem g_repr {a : M PyData} {d : PyData} (h : Gives a e d Ψ) (hr : reprC d = true) : Gives (mArgs reprF (aCons a aNil)) e (.str d.shown) Ψ := by
  unfold Gives
  simp only [wp_mArgs, wp_aCons, wp_aNil]
  refine h.wp ⟨_, ?_, rfl, rfl⟩
  unfold reprF
  simp only []
  rw [if_pos hr]
def unT : PyData → (Int × Int) × Int
  | .tuple [.int a, .int b, .int c] => ((a, b), c)
  | _ => ((0, 0), 0)
@[simp] theorem unT_tri (p : (Int × Int) × Int) : unT (triD p) = p := rfl
theorem ix1 {n : Nat} {m : Cl} : ixD (ruleD n m) (.int 1) = some (.tuple (m.map triD)) := rfl
theorem ix0 {n : Nat} {m : Cl} : ixD (ruleD n m) (.int 0) = some (.int n) := rfl
theorem filter_un (p : (Int × Int) × Int → Bool) (g : (Int × Int) × Int → PyData) (m : Cl) : ((m.map triD).filter fun d => p (unT d)).map (fun d => g (unT d)) = (m.filter p).map g := by
  induction m with
  | nil => rfl
  | cons q m ih =>
    rw [List.map_cons, List.filter_cons, List.filter_cons]
    by_cases c : p q = true
    · rw [if_pos (by simpa using c), if_pos c, List.map_cons, List.map_cons, ih]; rfl
    · rw [if_neg (by simpa using c), if_neg c, ih]
structure Row (e e' : Env) (a b c : Nat) (q : (Int × Int) × Int) : Prop where
  fa : e' a = some (.v (.int q.1.1))
  fb : e' b = some (.v (.int q.1.2))
  fc : e' c = some (.v (.int q.2))
  o : ∀ j, j ≠ a → j ≠ b → j ≠ c → e' j = e j
theorem g_rows {i a b c n : Nat} {m : Cl} {tt : M Bool} {me : M PyData} (p : (Int × Int) × Int → Bool) (g : (Int × Int) × Int → PyData) (h : e i = some (.v (ruleD n m))) (hl : m.length ≤ 1000) (hab : a ≠ b) (hac : a ≠ c) (hbc : b ≠ c)
    (hx : ∀ q e', q ∈ m → Row e e' a b c q → Gives tt e' (p q) (fun _ _ => False) ∧ (p q = true → Gives me e' (g q) fun _ _ => False)) :
    Gives (mLc (mI seqOf (mBin ixD (mVar i) (mC (.int 1)))) (gTp 3 (gCo (gNm a) (gCo (gNm b) (gCo (gNm c) gNo)))) tt me [a, b, c]) e (.list ((m.filter p).map g)) Ψ := by
  unfold Gives
  rw [wp_mLc]
  simp only [wp_mI, wp_mBin, wp_mVar, h, onVar_v, wp_mC, ix1]
  refine ⟨_, rfl, _, rfl, wp_lcP (fun d => p (unT d)) (fun d => g (unT d)) _ ?_ (by rw [List.length_map]; exact size_le hl) ⟨by rw [filter_un], rfl⟩⟩
  intro x hx'
  obtain ⟨q, hq, rfl⟩ := List.mem_map.mp hx'
  refine ⟨setE (setE (setE (wipeE e [a, b, c]) a (some (.v (.int q.1.1)))) b (some (.v (.int q.1.2)))) c (some (.v (.int q.2))), rfl, ?_⟩
  have hrow : Row e (setE (setE (setE (wipeE e [a, b, c]) a (some (.v (.int q.1.1)))) b (some (.v (.int q.1.2)))) c (some (.v (.int q.2)))) a b c q := by
    refine ⟨by simp [hab, hac], by simp [hbc], by simp, fun j h1 h2 h3 => ?_⟩
    simp [h1, h2, h3, wipeE]
  obtain ⟨h1, h2⟩ := hx q _ hq hrow
  have hw : wipeE (setE (setE (setE (wipeE e [a, b, c]) a (some (.v (.int q.1.1)))) b (some (.v (.int q.1.2)))) c (some (.v (.int q.2)))) [a, b, c] = wipeE e [a, b, c] := by
    rw [wipe_setE (by simp), wipe_setE (by simp), wipe_setE (by simp), wipe_wipe]
  refine h1.wp ⟨by simp, fun hp => ?_, fun _ => hw⟩
  refine (h2 (by simpa using hp)).wp ⟨by simp, hw⟩
end
end PD

namespace PD
open PySem PySem.Spec PyProof.Rows L2

section
variable {X : Cx} {cl : Nat → Addr} {W : WX} {pos : Pos}
def intsOf : List PyData → Option (List Int)
  | [] => some []
  | .int i :: r => (intsOf r).map fun l => i :: l
  | _ :: _ => none
def boolsOf : List PyData → Option (List Bool)
  | [] => some []
  | .bool i :: r => (boolsOf r).map fun l => i :: l
  | _ :: _ => none
theorem intsOf_rel {K : PySem.W.Frag} {H : Hp} {F : Fs} : ∀ {ds : List PyData} {vs : List V} {l : List Int}, FRs K H F ds vs → intsOf ds = some l → vs = l.map V.int
  | _, _, _, .nil, e => by cases e; rfl
  | _, _, _, .cons h t, e => by
    cases h with
    | int i =>
      obtain ⟨r, e1, rfl⟩ := Option.map_eq_some_iff.mp (show ((intsOf _).map fun l => i :: l) = some _ from e)
      rw [intsOf_rel t e1]; rfl
    | _ => cases e
theorem boolsOf_rel {K : PySem.W.Frag} {H : Hp} {F : Fs} : ∀ {ds : List PyData} {vs : List V} {l : List Bool}, FRs K H F ds vs → boolsOf ds = some l → vs = l.map V.bl
  | _, _, _, .nil, e => by cases e; rfl
  | _, _, _, .cons h t, e => by
    cases h with
    | bl i =>
      obtain ⟨r, e1, rfl⟩ := Option.map_eq_some_iff.mp (show ((boolsOf _).map fun l => i :: l) = some _ from e)
      rw [boolsOf_rel t e1]; rfl
    | _ => cases e
theorem foldMin : ∀ (r : List Int) (n : Int), (r.foldl (fun a b => if b < a then b else a) n ∈ n :: r) ∧ ∀ y, y ∈ n :: r → r.foldl (fun a b => if b < a then b else a) n ≤ y
  | [], n => ⟨by simp, fun y h => by rw [List.mem_singleton.mp h]; exact Int.le_refl _⟩
  | k :: r, n => by
    obtain ⟨h1, h2⟩ := foldMin r (if k < n then k else n)
    rw [List.foldl_cons]
    refine ⟨?_, fun y hy => ?_⟩
    · rcases List.mem_cons.mp h1 with q | q
      · rw [q]; split <;> simp
      · exact List.mem_cons_of_mem _ (List.mem_cons_of_mem _ q)
    · have h3 := h2 _ List.mem_cons_self
      rcases List.mem_cons.mp hy with q | q
      · rw [q]; exact Int.le_trans h3 (by split <;> omega)
      · rcases List.mem_cons.mp q with q | q
        · rw [q]; exact Int.le_trans h3 (by split <;> omega)
        · exact h2 y (List.mem_cons_of_mem _ q)
theorem foldMax : ∀ (r : List Int) (n : Int), (r.foldl (fun a b => if b > a then b else a) n ∈ n :: r) ∧ ∀ y, y ∈ n :: r → y ≤ r.foldl (fun a b => if b > a then b else a) n
  | [], n => ⟨by simp, fun y h => by rw [List.mem_singleton.mp h]; exact Int.le_refl _⟩
  | k :: r, n => by
    obtain ⟨h1, h2⟩ := foldMax r (if k > n then k else n)
    rw [List.foldl_cons]
    refine ⟨?_, fun y hy => ?_⟩
    · rcases List.mem_cons.mp h1 with q | q
      · rw [q]; split <;> simp
      · exact List.mem_cons_of_mem _ (List.mem_cons_of_mem _ q)
    · have h3 := h2 _ List.mem_cons_self
      rcases List.mem_cons.mp hy with q | q
      · rw [q]; exact Int.le_trans (by split <;> omega) h3
      · rcases List.mem_cons.mp q with q | q
        · rw [q]; exact Int.le_trans (by split <;> omega) h3
        · exact h2 y (List.mem_cons_of_mem _ q)
def maxL : List Int → Option Int
  | [] => none
  | n :: r => some (r.foldl (fun a b => if b > a then b else a) n)
def minL : List Int → Option Int
  | [] => none
  | n :: r => some (r.foldl (fun a b => if b < a then b else a) n)
def maxF : List PyData → Option PyData
  | [.int i, .int j] => some (.int (if j > i then j else i))
  | [.list l] => (intsOf l).bind fun ns => (maxL ns).map .int
  | _ => none
def minC (ds : List PyData) : Bool := ds.all (fun d => ds.all fun d' => PySem.W.alike d d') && ds.all (fun d => match d with | .tuple _ => true | _ => false) && ndDs ds && decide (PyData.depthAll ds ≤ 60)
def minDs : List PyData → Option PyData
  | [] => none
  | x :: xs => some (PySem.W.minD x xs)
def rMinD (K : PySem.W.Frag) : List V → Hp → VK → Prop := fun xs H Q => ∃ (a : Addr) (ps : List (PyData × V)), xs = [V.ref a] ∧ SqL K H a (ps.map (·.2)) ∧ (∀ p, p ∈ ps → Dp K H p.2 p.1) ∧ minC (ps.map (·.1)) = true ∧ ps ≠ [] ∧
  ∀ p, p ∈ ps → minDs (ps.map (·.1)) = some p.1 → Q p.2 H
theorem readsAll_of {X : Cx} {s : Shared} : ∀ {ps : List (PyData × V)} {us : List Value}, PySem.W.EachIs (fun u p => ∃ as, Reads s.heap u p.1 as) us ps → ∃ as, ReadsAll s.heap us (ps.map (·.1)) as
  | _, _, .nil => ⟨[], .nil⟩
  | _, _, .cons ⟨as, h⟩ t => (let ⟨bs, q⟩ := readsAll_of (X := X) t; ⟨as ++ bs, .cons h q⟩)
theorem each_at {α β : Type} {R : α → β → Prop} : ∀ {us : List α} {ps : List β}, PySem.W.EachIs R us ps → ∀ (i : Nat) (u : α), us[i]? = some u → ∃ p, ps[i]? = some p ∧ R u p
  | _, _, .nil, i, u, h => by simp at h
  | _, _, .cons h t, 0, u, e => by simp at e; subst e; exact ⟨_, rfl, h⟩
  | _, _, .cons h t, i + 1, u, e => by simpa using each_at t i u (by simpa using e)
theorem cr_minD (hc : X.calm = true) (hu : X.A.units + 65 < cLine) : CallR X (.builtin "min") (rMinD X.K) := by
  intro pins s σ H vs us Q I r h
  obtain ⟨a, ps, rfl, hs, hd, hm, hne, q⟩ := h
  rw [Vals.ref1 r]
  obtain ⟨its, rv, hl, _⟩ := I.list hs
  obtain ⟨e1, e2⟩ := each_of I rv hd
  obtain ⟨as, ra⟩ := readsAll_of (X := X) e2
  unfold minC at hm
  simp only [Bool.and_eq_true, decide_eq_true_eq] at hm
  have hal : ∀ d, d ∈ ps.map (·.1) → ∀ d', d' ∈ ps.map (·.1) → PySem.W.alike d d' = true := fun d hd d' hd' => List.all_eq_true.mp (List.all_eq_true.mp hm.1.1.1 d hd) d' hd'
  have hnn : ∀ d, d ∈ ps.map (·.1) → d ≠ .none := fun d hd z => by
    have := List.all_eq_true.mp hm.1.1.2 d hd
    rw [z] at this
    cases this
  cases hp : ps with
  | nil => exact absurd hp hne
  | cons p0 ps0 =>
    rw [hp, List.map_cons] at ra
    refine PySem.W.min_list_data (I.ok.hd hc) hl.isList (by simpa using ra) ⟨by rw [← List.map_cons, ← hp]; exact fun x hx y hy => hal x hx y hy, by rw [← List.map_cons, ← hp]; exact hnn⟩ (by have h60 := hm.2; rw [hp, List.map_cons] at h60; omega) fun i v h' tk bs hv rm hk => ?_
    obtain ⟨p, hpi, rp⟩ := each_at e1 i v (by simpa using hv)
    have hpm : p ∈ ps := List.mem_of_getElem? hpi
    obtain ⟨p', hpi', cs, rd⟩ := each_at e2 i v (by simpa using hv)
    have : p' = p := by rw [hpi] at hpi'; cases hpi'; rfl
    subst this
    have hmin : PySem.W.minD p0.1 (ps0.map (·.1)) ∈ ps.map (·.1) := by
      rw [hp, List.map_cons]
      unfold PySem.W.minD
      have fold : ∀ (l : List PyData) (x : PyData), l.foldl (fun a y => if PySem.W.dataLt y a then y else a) x ∈ x :: l := by
        intro l
        induction l with
        | nil => intro x; exact List.mem_cons_self
        | cons y l ih =>
          intro x
          rw [List.foldl_cons]
          have := ih (if PySem.W.dataLt y x then y else x)
          rcases List.mem_cons.mp this with z | z
          · rw [z]
            split
            · exact List.mem_cons_of_mem _ List.mem_cons_self
            · exact List.mem_cons_self
          · exact List.mem_cons_of_mem _ (List.mem_cons_of_mem _ z)
      exact fold _ _
    have eq : p'.1 = PySem.W.minD p0.1 (ps0.map (·.1)) := PySem.W.alike_unique _ _ v cs bs (hal _ (List.mem_map.mpr ⟨p', hpm, rfl⟩) _ hmin) (PyProof.Rows.Reads.keeps hk rd) rm
    exact ⟨p'.2, H, I.kept hk, rp, q p' hpm (by rw [hp, List.map_cons, minDs, eq])⟩
def minF : List PyData → Option PyData
  | [.int i, .int j] => some (.int (if j < i then j else i))
  | [.list l] => match intsOf l with
    | some ns => (minL ns).map .int
    | none => if minC l then minDs l else none
  | _ => none
theorem bi_max (hc : X.calm = true) : Bi X cl (.builtin "max") maxF := ⟨_, CallR.or (call_max2 hc) (cr_max hc), ⟨fun W σ xs H Q F env fp ds c r1 h e hm => by
  match ds, h, e with
  | [.int i, .int j], h, e =>
    obtain ⟨v, u, rfl, h0, h1⟩ := h.two
    cases h0; cases h1; cases e
    exact .inl ⟨i, j, rfl, fin_same hm r1 (.int _)⟩
  | [.list l], h, e =>
    obtain ⟨v, rfl, h0⟩ := h.one
    obtain ⟨ns, e1, e2⟩ := Option.bind_eq_some_iff.mp (show ((intsOf l).bind fun ns => (maxL ns).map PyData.int) = some c from e)
    cases ns with
    | nil => cases e2
    | cons n r =>
      cases e2
      cases h0 with
      | @lst a vs _ fa hh rr =>
        refine .inr ⟨a, n :: r, rfl, by rw [← intsOf_rel rr e1]; exact SqL.of hh, by simp, fun m h1 h2 => ?_⟩
        obtain ⟨g1, g2⟩ := foldMax r n
        have : m = r.foldl (fun a b => if b > a then b else a) n := Int.le_antisymm (g2 m h1) (h2 _ g1)
        rw [this]
        exact fin_same hm r1 (.int _)⟩⟩
theorem bi_min (hc : X.calm = true) (hu : X.A.units + 65 < cLine) : Bi X cl (.builtin "min") minF := ⟨_, CallR.or (CallR.or (call_min2 hc) (cr_min hc)) (cr_minD hc hu), ⟨fun W σ xs H Q F env fp ds c r1 h e hm => by
  match ds, h, e with
  | [.int i, .int j], h, e =>
    obtain ⟨v, u, rfl, h0, h1⟩ := h.two
    cases h0; cases h1; cases e
    exact .inl (.inl ⟨i, j, rfl, fin_same hm r1 (.int _)⟩)
  | [.list l], h, e =>
    obtain ⟨v, rfl, h0⟩ := h.one
    cases e1 : intsOf l with
    | some ns =>
      have e2 : (minL ns).map PyData.int = some c := by
        unfold minF at e
        simp only [e1] at e
        exact e
      cases ns with
      | nil => cases e2
      | cons n r =>
        cases e2
        cases h0 with
        | @lst a vs _ fa hh rr =>
          refine .inl (.inr ⟨a, n :: r, rfl, by rw [← intsOf_rel rr e1]; exact SqL.of hh, by simp, fun m h1 h2 => ?_⟩)
          obtain ⟨g1, g2⟩ := foldMin r n
          have : m = r.foldl (fun a b => if b < a then b else a) n := Int.le_antisymm (h2 _ g1) (g2 m h1)
          rw [this]
          exact fin_same hm r1 (.int _)
    | none =>
      have e2 : (if minC l = true then minDs l else none) = some c := by
        unfold minF at e
        simp only [e1] at e
        exact e
      by_cases hC : minC l = true
      · rw [if_pos hC] at e2
        cases h0 with
        | @lst a vs _ fa hh rr =>
          obtain ⟨p1, p2, p3⟩ := prs_of rr
          have hn : ndDs l = true := by
            have h := hC
            unfold minC at h
            simp only [Bool.and_eq_true] at h
            exact h.1.2
          refine .inr ⟨a, l.zip vs, rfl, by rw [p3]; exact SqL.of hh, fun p hp => (p1 p hp).dpN (nd_all l hn _ (by rw [← p2]; exact List.mem_map.mpr ⟨p, hp, rfl⟩)), by rw [p2]; exact hC, fun z => ?_, fun p hp hz => ?_⟩
          · rw [z] at p2
            rw [← p2] at e2
            cases e2
          · rw [p2, e2] at hz
            cases hz
            exact fin_same hm r1 (p1 p hp)
      · rw [if_neg hC] at e2; cases e2⟩⟩
def sumF : List PyData → Option PyData
  | [.list l] => (intsOf l).map fun ns => .int ns.sum
  | [.tuple l] => (intsOf l).map fun ns => .int ns.sum
  | _ => none
def anyF : List PyData → Option PyData
  | [.list l] => (boolsOf l).map fun bs => .bool (bs.any id)
  | _ => none
def allF : List PyData → Option PyData
  | [.list l] => (boolsOf l).map fun bs => .bool (bs.all id)
  | _ => none
theorem bi_all (hc : X.calm = true) : Bi X cl (.builtin "all") allF := ⟨_, cr_all hc, ⟨fun W σ xs H Q F env fp ds c r1 h e hm => by
  match ds, h, e with
  | [.list l], h, e =>
    obtain ⟨v, rfl, h0⟩ := h.one
    obtain ⟨ns, e1, rfl⟩ := Option.map_eq_some_iff.mp (show ((boolsOf l).map fun bs => PyData.bool (bs.all id)) = some c from e)
    cases h0 with
    | @lst a vs _ fa hh rr => exact ⟨a, ns, rfl, by rw [← boolsOf_rel rr e1]; exact SqL.of hh, fin_same hm r1 (.bl _)⟩⟩⟩
theorem bb_max : bootBuiltins "max" = some (.builtin "max") := by decide +kernel
theorem bb_min : bootBuiltins "min" = some (.builtin "min") := by decide +kernel
theorem bb_all : bootBuiltins "all" = some (.builtin "all") := by decide +kernel
def mLenS (i : Nat) : M PyData := fun env => match env i with
  | some (.scr ns) => .ok (.int ns.length) env
  | _ => .bad
theorem de_lenS (i : Nat) {x : Str} {p q pos : Pos} (hg : Gl X "len") (hm : X.mg "len" = none) (hN : X.N[i]? = some x := by rfl) (hv : Vis X.env.scope x := by first | exact Or.inl rfl | exact Or.inr (Or.inl rfl) | exact Or.inr (Or.inr rfl)) (hd : (x == ("__debug__" : Str)) = false := by decide)
    (hcd : (x == ("__classdict__" : Str)) = false := by decide) (he : starEach [.Name x q] X.env = (false, eval (.Name x q) X.env) :: starEach [] X.env := by rfl) (hpl : (backTo pos (starEach [] X.env)).any (·.1) = false := by rfl) :
    DE X cl W (.Call (.Name "len" p) [.Name x q] [] pos) (mLenS i) :=
  PE.imp (pe_callB call_len hg hm (by decide +kernel) (pa_cons (pe_var hN hv hd hcd) pa_nil he) (by decide) (by decide) he hpl) fun σ H Q q => by
    obtain ⟨F, env, fp, r, hm⟩ := q
    have hm : Post ⟨X.K, cl⟩ W (relE ⟨X.K, cl⟩) σ H F fp Q (mLenS i env) := hm
    unfold mLenS at hm
    cases e : env i with
    | none => simp only [e] at hm; exact hm.elim
    | some t =>
      cases t with
      | scr ns =>
        simp only [e] at hm
        obtain ⟨v, hv, ht⟩ := r.rep i _ e
        obtain ⟨a, rfl, hs⟩ := ht.inv_scr
        exact ⟨_, hv, .ref a, (ns.map V.int).length, rfl, .inl ⟨_, hs, rfl⟩, by rw [List.length_map]; exact fin_same hm r (.int _)⟩
      | _ => simp only [e] at hm; exact hm.elim
def cutD {α : Type} (xs : List α) (lo hi : Option Int) : List α := (xs.drop (HT.sIx xs.length 0 lo)).take (HT.sIx xs.length xs.length hi - HT.sIx xs.length 0 lo)
def sliceD (d : PyData) (lo hi : Option Int) : Option PyData := match d with
  | .list l => some (.list (cutD l lo hi))
  | .tuple l => some (.tuple (cutD l lo hi))
  | _ => none
def mNo : M (Option Int) := pure none
def mPart (m : M PyData) : M (Option Int) := m >>= fun d => match d with
  | .int i => pure (some i)
  | _ => .bad
abbrev relO : Rel (Option Int) (Option Int) := fun _ _ a b P => a = b ∧ P = fun _ => False
structure DP (X : Cx) (cl : Nat → Addr) (W : WX) (e : Option Expr) (m : M (Option Int)) : Prop where
  run : PO X e (fun σ H Q => G ⟨X.K, cl⟩ W relO m σ H Q)
theorem PO.imp {e : Option Expr} {t t' : TO} (h : PO X e t) (i : ∀ σ H Q, t' σ H Q → t σ H Q) : PO X e t' := ⟨fun pins s σ H Q I q => h.run pins s σ H Q I (i σ H Q q)⟩
theorem dp_no : DP X cl W none mNo := ⟨PO.imp po_none fun σ H Q q => by
  obtain ⟨F, env, fp, r, hm⟩ := q
  exact hm none H F fp noF r ⟨rfl, rfl⟩ (fun _ z => z.elim) (Ext.emp' (Ext.refl _ _ _))⟩
theorem dp_some {e : Expr} {m : M PyData} (h : DE X cl W e m) : DP X cl W (some e) (mPart m) := ⟨PO.imp (po_some h) fun σ H Q q =>
  G_bE (rel := relO) (Q := Q) (k := fun d => match d with
  | .int i => pure (some i)
  | _ => .bad) q fun v H1 F1 e1 fp1 d r hd hm => by
    cases hd with
    | int i => exact ⟨i, rfl, hm (some i) H1 F1 fp1 noF r ⟨rfl, rfl⟩ (fun _ z => z.elim) (Ext.emp' (Ext.refl _ _ _))⟩
    | _ => exact hm.elim⟩
def mSl (ma : M PyData) (ml mh : M (Option Int)) : M PyData := do
  let a ← ma
  let l ← ml
  let h ← mh
  lift (sliceD a l h)
theorem FRs.cut {K : PySem.W.Frag} {H : Hp} {F : Fs} {ds : List PyData} {vs : List V} (h : FRs K H F ds vs) (lo hi : Option Int) : FRs K H F (cutD ds lo hi) (cutV vs lo hi) := by
  unfold cutD cutV
  rw [h.length]
  exact (h.drop _).take _
theorem cut_whole {α : Type} {xs : List α} {lo hi : Option Int} (h1 : HT.sIx xs.length 0 lo = 0) (h2 : HT.sIx xs.length xs.length hi = xs.length) : cutD xs lo hi = xs := by
  unfold cutD
  rw [h1, h2]
  simp
theorem de_slice {a : Expr} {lo hi : Option Expr} {ma : M PyData} {ml mh : M (Option Int)} {p2 : Pos} (h : DE X cl W a ma) (hl : DP X cl W lo ml) (hh : DP X cl W hi mh) : DE X cl W (.Subscript a (.Slice lo hi none p2) pos) (mSl ma ml mh) := by
  refine PE.imp (pe_slice (SlR.or sl_list sl_tupA) h hl.run hh.run) fun σ H Q q => ?_
  refine G_bE (rel := relE ⟨X.K, cl⟩) (Q := Q) (k := fun a => do
    let l ← ml
    let h ← mh
    lift (sliceD a l h)) q fun v H1 F1 e1 fp1 d r hd hm => ?_
  refine ⟨F1, e1, fp1, r, ?_⟩
  cases el : ml e1 with
  | bad => rw [bind_bad el] at hm; exact hm
  | exc y e2 => rw [bind_exc el] at hm; exact hm
  | ok l e2 =>
    rw [bind_ok el] at hm
    intro l' H2 F2 fp2 P2 r2 hl2 _ x2
    obtain ⟨rfl, rfl⟩ := hl2
    have hm2 := hm.rebase x2.emp
    have hd2 := hd.ext x2.emp r.fo
    refine ⟨F2, e2, fp2, r2, ?_⟩
    cases eh : mh e2 with
    | bad => rw [bind_bad eh] at hm2; exact hm2
    | exc y e3 => rw [bind_exc eh] at hm2; exact hm2
    | ok u e3 =>
      rw [bind_ok eh] at hm2
      intro u' H3 F3 fp3 P3 r3 hu3 _ x3
      obtain ⟨rfl, rfl⟩ := hu3
      have hm3 := hm2.rebase x3.emp
      have hd3 := hd2.ext x3.emp r2.fo
      obtain ⟨c, e, hm4⟩ := post_lift hm3
      cases hd3 with
      | @lst a vs ds fa ha ra =>
        cases e
        exact .inl ⟨a, vs, rfl, SqL.of ha, fun p hp => fin_lst hm4 r3 hp (ra.cut _ _)⟩
      | @tup a vs ds fa ha ra =>
        cases e
        refine .inr ⟨a, vs, rfl, SqT.of ha, fun hw => ?_, fun _ p hp => fin_tup hm4 r3 hp (ra.cut _ _)⟩
        rw [← ra.length] at hw
        rw [cut_whole hw.1 hw.2] at hm4
        exact fin_same hm4 r3 (.tup fa ha ra)
      | _ => cases e
end
end PD

namespace PD
open PySem PySem.Spec PyProof.Rows L2

section
variable {X : Cx}
end
section
variable {K : PySem.W.Frag} {H H' : Hp} {F F' O O' : Fs} {kvs : List (List Key × PyData)} {us : List (List Key × V)}
end
section
variable {X : Cx} {cl : Nat → Addr} {W : WX} {tg iter kx vx : Expr} {ifs : List Expr} {scope : Scope} {own : List (Str × Nat)} {pos : Pos} {mi : M (List PyData)} {mg : Tgt} {mt : M Bool} {mk me : M PyData}
end
end PD

namespace PD
open PySem PySem.Spec PyProof.Rows L2
noncomputable def m__law_steps : M Fl :=
  (sRet (mLc (mI seqOf (mBin ixD (mVar 0) (mC (.int 1)))) (gTp 3 (gCo (gNm 1) (gCo (gNm 2) (gCo (gNm 3) gNo)))) (pure true) (mArgs tupF (aCons (mVar 1) (aCons (mVar 2) aNil))) [1, 2, 3]))
section
variable {α : Type} {e : Env} {Ψ : Exn → Env → Prop}
@[simp] theorem wp_mNo {Φ : Option Int → Env → Prop} : wp mNo e Φ Ψ = Φ none e := rfl
@[simp] theorem wp_mPart {m : M PyData} {Φ : Option Int → Env → Prop} : wp (mPart m) e Φ Ψ = wp m e (fun d e1 => ∃ i, d = .int i ∧ Φ (some i) e1) Ψ := by
  unfold mPart
  rw [wp_bind]
  congr 1
  funext d e1
  cases d with
  | int i => simp
  | _ => exact propext ⟨fun h => h.elim, fun ⟨i, h, _⟩ => by cases h⟩
@[simp] theorem wp_mSl {ma : M PyData} {ml mh : M (Option Int)} {Φ : PyData → Env → Prop} : wp (mSl ma ml mh) e Φ Ψ = wp ma e (fun a e1 => wp ml e1 (fun l e2 => wp mh e2 (fun h e3 => ∃ c, sliceD a l h = some c ∧ Φ c e3) Ψ) Ψ) Ψ := by
  unfold mSl
  simp
@[simp] theorem wp_mLenS {i : Nat} {Φ : PyData → Env → Prop} : wp (mLenS i) e Φ Ψ = ∃ ns : List Int, e i = some (.scr ns) ∧ Φ (.int ns.length) e := by
  unfold wp mLenS
  cases h : e i with
  | none => simp
  | some t => cases t <;> simp
end
theorem sorted_uniq {α : Type} {le : α → α → Bool} (anti : ∀ a b, le a b = true → le b a = true → a = b) : ∀ {a b : List α}, a.Perm b → a.Pairwise (fun x y => le x y = true) → b.Pairwise (fun x y => le x y = true) → a = b
  | [], b, h, _, _ => h.nil_eq
  | x :: a, [], h, _, _ => by have := h.length_eq; simp at this
  | x :: a, y :: b, h, ha, hb => by
    rw [List.pairwise_cons] at ha hb
    have hxy : x = y := by
      have h1 : x ∈ y :: b := h.mem_iff.mp List.mem_cons_self
      have h2 : y ∈ x :: a := h.mem_iff.mpr List.mem_cons_self
      rcases List.mem_cons.mp h1 with h1 | h1
      · exact h1
      · rcases List.mem_cons.mp h2 with h2 | h2
        · exact h2.symm
        · exact anti _ _ (ha.1 y h2) (hb.1 x h1)
    subst hxy
    rw [sorted_uniq anti (List.Perm.cons_inv h) ha.2 hb.2]
theorem leP_anti (a b : Int × Int) (h1 : leP a b = true) (h2 : leP b a = true) : a = b := by
  unfold leP at *
  simp only [decide_eq_true_eq] at *
  exact Prod.ext (by omega) (by omega)
theorem leP_trans (a b c : Int × Int) (h1 : leP a b = true) (h2 : leP b c = true) : leP a c = true := by unfold leP at *; simp only [decide_eq_true_eq] at *; omega
theorem leP_total (a b : Int × Int) : (leP a b || leP b a) = true := by unfold leP; simp only [Bool.or_eq_true, decide_eq_true_eq]; omega
theorem leI_anti (a b : Int) (h1 : leI a b = true) (h2 : leI b a = true) : a = b := by unfold leI at *; simp only [decide_eq_true_eq] at *; omega
def unP : PyData → Int × Int
  | .tuple [.int a, .int b] => (a, b)
  | _ => (0, 0)
@[simp] theorem unP_pair (p : Int × Int) : unP (pairD p) = p := rfl
theorem filter_unP (p : Int × Int → Bool) (g : Int × Int → PyData) (m : List (Int × Int)) : ((m.map pairD).filter fun d => p (unP d)).map (fun d => g (unP d)) = (m.filter p).map g := by
  induction m with
  | nil => rfl
  | cons q m ih =>
    rw [List.map_cons, List.filter_cons, List.filter_cons]
    by_cases c : p q = true
    · rw [if_pos (by simpa using c), if_pos c, List.map_cons, List.map_cons, ih]; rfl
    · rw [if_neg (by simpa using c), if_neg c, ih]
structure Prw (e e' : Env) (a b : Nat) (q : Int × Int) : Prop where
  fa : e' a = some (.v (.int q.1))
  fb : e' b = some (.v (.int q.2))
  o : ∀ j, j ≠ a → j ≠ b → e' j = e j
section
variable {e : Env} {Ψ : Exn → Env → Prop}
theorem g_prs {a b : Nat} {S : List (Int × Int)} {d : PyData} {mi : M PyData} {tt : M Bool} {me : M PyData} (p : Int × Int → Bool) (g : Int × Int → PyData) (h : Gives mi e d Ψ) (hd : seqOf d = some (S.map pairD)) (hl : S.length ≤ 1000) (hab : a ≠ b)
    (hx : ∀ q e', q ∈ S → Prw e e' a b q → Gives tt e' (p q) (fun _ _ => False) ∧ (p q = true → Gives me e' (g q) fun _ _ => False)) :
    Gives (mLc (mI seqOf mi) (gTp 2 (gCo (gNm a) (gCo (gNm b) gNo))) tt me [a, b]) e (.list ((S.filter p).map g)) Ψ := by
  unfold Gives
  rw [wp_mLc]
  simp only [wp_mI]
  refine h.wp ⟨_, hd, wp_lcP (fun d => p (unP d)) (fun d => g (unP d)) _ ?_ (by rw [List.length_map]; exact size_le hl) ⟨by rw [filter_unP], rfl⟩⟩
  intro x hx'
  obtain ⟨q, hq, rfl⟩ := List.mem_map.mp hx'
  refine ⟨setE (setE (wipeE e [a, b]) a (some (.v (.int q.1)))) b (some (.v (.int q.2))), rfl, ?_⟩
  have hrow : Prw e (setE (setE (wipeE e [a, b]) a (some (.v (.int q.1)))) b (some (.v (.int q.2)))) a b q := by
    refine ⟨by simp [hab], by simp, fun j h1 h2 => ?_⟩
    simp [h1, h2, wipeE]
  obtain ⟨h1, h2⟩ := hx q _ hq hrow
  have hw : wipeE (setE (setE (wipeE e [a, b]) a (some (.v (.int q.1)))) b (some (.v (.int q.2)))) [a, b] = wipeE e [a, b] := by
    rw [wipe_setE (by simp), wipe_setE (by simp), wipe_wipe]
  refine h1.wp ⟨by simp, fun hp => ?_, fun _ => hw⟩
  exact (h2 (by simpa using hp)).wp ⟨by simp, hw⟩
end
def pairOf (k : Int × Int) (m : Cl) : Option PyData := (m.find? fun p => decide (p.1 = k)).map fun p => .int p.2
def hasK (m : Cl) (k : Int × Int) : Bool := m.any fun p => decide (p.1 = k)
theorem pairOf_some (m : Cl) (k : Int × Int) : (pairOf k m).isSome = hasK m k := by
  unfold pairOf hasK
  rw [Option.isSome_map, Bool.eq_iff_iff, List.find?_isSome, List.any_eq_true]
theorem hasK_iff {m : Cl} {k : Int × Int} : hasK m k = true ↔ k ∈ m.map (·.1) := by
  unfold hasK
  rw [List.any_eq_true, List.mem_map]
  exact ⟨fun ⟨p, h, q⟩ => ⟨p, h, by simpa using q⟩, fun ⟨p, h, q⟩ => ⟨p, h, by simpa using q⟩⟩
section
variable {e : Env} {Ψ : Exn → Env → Prop}
theorem g_tup2 {ma mb : M PyData} {a b : Int} (ha : Gives ma e (.int a) Ψ) (hb : Gives mb e (.int b) Ψ) : Gives (mArgs tupF (aCons ma (aCons mb aNil))) e (pairD (a, b)) Ψ := by
  unfold Gives
  simp only [wp_mArgs, wp_aCons, wp_aNil]
  exact ha.wp (hb.wp ⟨_, rfl, rfl, rfl⟩)
theorem g_ix {ma : M PyData} {d c : PyData} {i : Int} (ha : Gives ma e d Ψ) (h : ixD d (.int i) = some c) : Gives (mBin ixD ma (mC (.int i))) e c Ψ := by
  unfold Gives
  simp only [wp_mBin, wp_mC]
  exact ha.wp ⟨_, h, rfl, rfl⟩
theorem ix_p0 (k : Int × Int) : ixD (pairD k) (.int 0) = some (.int k.1) := rfl
theorem ix_p1 (k : Int × Int) : ixD (pairD k) (.int 1) = some (.int k.2) := rfl
theorem g_add {ma mb : M PyData} {a b : Int} (ha : Gives ma e (.int a) Ψ) (hb : Gives mb e (.int b) Ψ) : Gives (mBin addD ma mb) e (.int (a + b)) Ψ := by
  unfold Gives
  simp only [wp_mBin]
  exact ha.wp (hb.wp ⟨_, rfl, rfl, rfl⟩)
theorem g_int {i : Int} : Gives (mC (.int i)) e (.int i) Ψ := by unfold Gives; rw [wp_mC]; exact ⟨rfl, rfl⟩
theorem g_cmpI {f : PyData → PyData → Option Bool} {ma mb : M PyData} {a b : PyData} {c : Bool} (ha : Gives ma e a Ψ) (hb : Gives mb e b Ψ) (h : f a b = some c) : Gives (mCmp f (mFr ma) (mFr mb)) e c Ψ := by
  unfold Gives
  simp only [wp_mCmp, wp_mFr]
  exact ha.wp (hb.wp ⟨_, rfl, _, rfl, c, h, rfl, rfl⟩)
end
theorem mapK (m : Cl) : (m.map fun p => pairD p.1) = (m.map (·.1)).map pairD := by rw [List.map_map]; rfl
theorem steps_list {n : Nat} {m : Cl} (hl : m.length ≤ 1000) (e : Env) (h : e 0 = some (.v (ruleD n m))) : wp m__law_steps e (fun x _ => x = .rt (.v (.list ((m.map (·.1)).map pairD)))) fun _ _ => False := by
  unfold m__law_steps
  simp only [wp_sRet]
  refine (g_rows (fun _ => true) (fun p => pairD p.1) h hl (by decide) (by decide) (by decide) fun q e' hq hr => ⟨by simp [Gives], fun _ => ?_⟩).wp ?_
  · simp [Gives, hr.fa, hr.fb]
    exact ⟨by decide, rfl⟩
  · rw [List.filter_eq_self.mpr (by simp), mapK]
theorem RowOk.nd {n c : Nat} {w : Int} {m : Cl} (h : RowOk n c w m) : (m.map (·.1)).Nodup := h.asc.imp fun {a b} q z => by
  subst z
  unfold ltP at q
  omega
theorem Gives.eq {α : Type} {m : M α} {e : Env} {d : α} (h : Gives m e d fun _ _ => False) : m e = .ok d e := by
  obtain ⟨a, e', h1, rfl, rfl⟩ := wp_ok h
  exact h1
section
variable {e : Env} {Ψ : Exn → Env → Prop}
end
theorem truD_bool {b : Bool} : truD (.bool b) = some b := rfl
theorem nodup_map_on {α β : Type} {f : α → β} : ∀ {l : List α}, (∀ a b, a ∈ l → b ∈ l → f a = f b → a = b) → l.Nodup → (l.map f).Nodup
  | [], _, _ => List.Pairwise.nil
  | x :: l, h, n => by
    rw [List.nodup_cons] at n
    rw [List.map_cons, List.nodup_cons]
    refine ⟨fun z => ?_, nodup_map_on (fun a b ha hb => h a b (List.mem_cons_of_mem _ ha) (List.mem_cons_of_mem _ hb)) n.2⟩
    obtain ⟨y, hy, e⟩ := List.mem_map.mp z
    have := h y x (List.mem_cons_of_mem _ hy) List.mem_cons_self e
    exact n.1 (this ▸ hy)
def sortP (l : List (Int × Int)) : List (Int × Int) := l.mergeSort leP
theorem g_none {e : Env} {Ψ : Exn → Env → Prop} : Gives (mC .none) e .none Ψ := by unfold Gives; rw [wp_mC]; exact ⟨rfl, rfl⟩
theorem shaped_rcs {ds : List PyData} {k l : Nat} (h : RCs ds k l) (hk : k ≤ 50) : SeqAt.shaped (.list ds) = true := by
  obtain ⟨a, b, c⟩ := rc_all h
  unfold SeqAt.shaped
  rw [PyData.canLay0, a, PyData.depth]
  simp
  omega
theorem eqD_nil {ds : List PyData} {k l : Nat} (h : RCs ds k l) (hk : k ≤ 50) : eqD (.list ds) (.list []) = some ds.isEmpty := by
  unfold eqD
  have : eqSh (.list ds) (.list []) = some ds.isEmpty := by
    unfold eqSh
    rw [shaped_rcs h hk, shaped_nil]
    cases ds <;> simp [PyData.eqv, PyData.eqvAll]
  rw [this]
  rfl
theorem neD_nil {ds : List PyData} {k l : Nat} (h : RCs ds k l) (hk : k ≤ 50) : neD (.list ds) (.list []) = some (!ds.isEmpty) := by
  unfold neD
  rw [eqD_nil h hk]
  rfl
def Sm (S : List (Int × Int)) : Prop := ∀ q, q ∈ S → -200 ≤ q.1 ∧ q.1 ≤ 200 ∧ -200 ≤ q.2 ∧ q.2 ≤ 200
theorem rc_pair {q : Int × Int} (h : -200 ≤ q.1 ∧ q.1 ≤ 200 ∧ -200 ≤ q.2 ∧ q.2 ≤ 200) : RC (pairD q) 2 16 := rc_tup (k := 0) (l := 4) (rcs_cons (rc_int h.1 h.2.1) (rcs_cons (rc_int h.2.2.1 h.2.2.2) rcs_nil))
theorem rcs_pairs {S : List (Int × Int)} (h : Sm S) : RCs (S.map pairD) 2 16 := rcs_map fun q hq => rc_pair (h q hq)
theorem g_nilL {e : Env} {Ψ : Exn → Env → Prop} : Gives (mArgs lstF aNil) e (.list []) Ψ := by unfold Gives; simp only [wp_mArgs, wp_aNil]; refine ⟨_, rfl, ?_⟩; simp
end PD

namespace PD
open PySem PySem.Spec PyProof.Rows L2
section
variable {X : Cx} {cl : Nat → Addr} {W : WX} {e : Expr} {ma : M PyData} {pos p p2 : Pos} {n : Str} {N : String}
end
end PD

namespace PD
open PySem PySem.Spec PyProof.Rows L2
section
variable {prog : Program} {w : World} {A : Around} {E : Value → Shared → Prop} {s : Shared}
end
def Src (K : PySem.W.Frag) (H : Hp) : Bool → Addr → List V → Prop
  | true, a, xs => SqT K H a xs
  | false, a, xs => SqL K H a xs
def SrcH (h : Heap) : Bool → Addr → Array Value → Prop
  | true, a, its => h.IsTuple a its
  | false, a, its => h.IsList a its
def ItrH (h : Heap) : Bool → Addr → Addr → Nat → Prop
  | true, it, a, i => h.IsTupleIter it a i
  | false, it, a, i => h.IsListIter it a i
theorem draws_src {prog : Program} {w : World} {A : Around} (hh : A.handled = none) (k : Bool) (it l : Addr) (hne : l ≠ it) (items : Array Value) :
    Draws prog w A it [it, l] items.size (fun i v => items[i]? = some v) (fun i h => ItrH h k it l i ∧ SrcH h k l items) := by
  cases k
  · exact Draws.list hh it l hne items
  · exact Draws.tuple hh it l hne items
theorem begins_src (k : Bool) (l : Addr) (items : Array Value) : ∃ o, PySem.Begins (.ref l) o (fun h => SrcH h k l items) ∧ ∀ h it, h.get? it = some o → ItrH h k it l 0 := by
  cases k
  · exact ⟨_, begins_list l items, fun h it e => ⟨_, e, rfl, rfl⟩⟩
  · exact ⟨_, begins_tuple l items, fun h it e => ⟨_, e, rfl, rfl⟩⟩
section
variable {X : Cx} {pins : List (Addr × Obj)} {σ : St} {H : Hp} {s : Shared}
theorem src_get {k : Bool} {a : Addr} {xs : List V} (I : Inv X pins σ H s) (h : Src X.K H k a xs) : ∃ its, Vals xs its ∧ SrcH s.heap k a its.toArray ∧ a < s.heap.objs.size := by
  cases k
  · obtain ⟨its, rv, p, _⟩ := I.list h
    exact ⟨its, rv, p.isList, p.lt⟩
  · obtain ⟨its, rv, p, _⟩ := I.tuple h
    have q : s.heap.IsTuple a its.toArray := p
    obtain ⟨o, e, _⟩ := id q
    exact ⟨its, rv, q, Heap.lt_size e⟩
theorem src_inj {k : Bool} {a : Addr} {xs ys : List V} (I : Inv X pins σ H s) (h : Src X.K H k a xs) (g : Src X.K H k a ys) : xs = ys := by
  cases k
  · exact I.list_inj h g
  · exact I.tuple_inj h g
theorem itr_obj {h : Heap} {k : Bool} {it l : Addr} {i : Nat} (x : ItrH h k it l i) : ∃ o, h.get? it = some o ∧ ∀ v, o.data ≠ .cell v := by
  cases k <;> · obtain ⟨o, e, _, d⟩ := x
                exact ⟨o, e, fun v q => by rw [d] at q; cases q⟩
theorem itr_at {h h' : Heap} {k : Bool} {it l : Addr} {i : Nat} (x : ItrH h k it l i) (e : ∀ o, h.get? it = some o → h'.get? it = some o) : ItrH h' k it l i := by
  cases k
  · exact Heap.IsListIter.at x e
  · exact Heap.IsTupleIter.at x e
end
section
variable {α : Type}
def ItG (rd : Hp → α → Prop) (row : α → Nat → List V) (len : α → Nat) : It :=
  ⟨fun i H => ∃ a, rd H a ∧ i < len a, fun i H v H' => ∃ T vs, v = .ref T ∧ H T = none ∧ H' = upd H T (.tup vs) ∧ ∀ a, rd H a → vs = row a i, fun i H => ∃ a, rd H a ∧ i = len a⟩
theorem turn_gen {P : Program} {w : World} {K : PySem.W.Frag} {elts : List Expr} {kk : Nat} {tpos : Pos} {rd : Hp → α → Prop} {row : α → Nat → List V} {len : α → Nat} {fp wr : List Addr} {I0 : Addr} {St : Nat → Heap → Prop}
    (mem : I0 ∈ fp) (sub : ∀ b ∈ wr, b ∈ fp) (obj : ∀ i h, St i h → ∀ b ∈ fp, ∃ o, h.get? b = some o ∧ ∀ v, o.data ≠ .cell v)
    (keep : ∀ i h h', St i h → (∀ b ∈ fp, ∀ o, h.get? b = some o → h'.get? b = some o) → St i h')
    (self : ∀ (A : Around) (i : Nat) (s : Shared) (Q : Value → Shared → Prop) (E : Value → Shared → Prop), St i s.heap → Q (.ref I0) s → wpAny (model P w) A (pyIter (.ref I0)) Q E s)
    (inj : ∀ (X : Cx), X.K = K → ∀ pins σ H s, Inv X pins σ H s → ∀ a b, rd H a → rd H b → a = b)
    (walk : ∀ (X : Cx), X.prog = P → X.w = w → X.K = K → X.calm = true → ∀ pins σ H s a, Inv X pins σ H s → rd H a → ∃ fpF Pt St2 Mid, WalksT P w X.A I0 fpF wr (len a) Pt St2 Mid ∧ (∀ i, St i s.heap → St2 i s.heap) ∧ (∀ i h, St2 i h → St i h) ∧
      ∀ i vals, Pt i vals → Vals (row a i) vals.toList ∧ (row a i).length ≤ sizeLine) :
    Turn P w K (.Tuple elts kk tpos) (ItG rd row len) fp I0 St where
  mem := mem
  obj := obj
  keep := keep
  self := self
  item := by
    intro X hP hw hK hc i pins s σ H E I hf st hg
    obtain ⟨a, ha, hi⟩ := hg
    obtain ⟨fpF, Pt, St2, Mid, W, s1, s2, hrow⟩ := walk X hP hw hK hc pins σ H s a I ha
    refine W.item i s _ _ hi (s1 i st) fun T vals h' tk hv hT hIT hM hk => ⟨_, rfl, W.go elts kk tpos i T { s with heap := h', toks := tk } _ _ hM fun h'' st2 hk2 => ?_⟩
    obtain ⟨rv, rl⟩ := hrow i vals hv
    obtain ⟨o, ho, hcl, n, hd⟩ := hIT
    have hT2 : h''.get? T = some o := hk2 T o (W.apart i T h' hM) ho
    have new : ObjOk X.prog X.w (upd H T (.tup (row a i))) h'' T (.tup (row a i)) := ⟨rl, vals.toList, rv, ⟨_, hT2, hcl, n, by simpa using hd⟩⟩
    have I1 : Inv X pins σ (upd H T (.tup (row a i))) { s with heap := h'', toks := tk } := I.turnedNew (t' := tk) (ch := wr) (fun b o hb q => hk2 b o hb (hk b o hb q)) (fun b hb => hf b (sub b hb)) hT new
    refine ⟨.ref T, _, I1, rfl, ⟨T, row a i, rfl, I.hok.fresh hT, rfl, fun b hb => by rw [inj X hK pins σ H s I b a hb ha]⟩, s2 _ _ st2, fun b hb => ?_⟩
    obtain ⟨ob, eb, _⟩ := obj i s.heap st b hb
    rw [upd_ne (Nat.ne_of_lt (Nat.lt_of_lt_of_le (Heap.lt_size eb) hT))]
    exact (hf b hb).1
  done := by
    intro X hP hw hK hc i pins s σ H E I hf st hg
    obtain ⟨a, ha, rfl⟩ := hg
    obtain ⟨fpF, Pt, St2, Mid, W, s1, s2, hrow⟩ := walk X hP hw hK hc pins σ H s a I ha
    exact W.done s _ _ (s1 _ st) fun h' tk hk => ⟨rfl, I.turnedL (t' := tk) (ch := wr) hk fun b hb => hf b (sub b hb)⟩
theorem walk_gen {K : PySem.W.Frag} {H : Hp} {F : Fs} {rd : Hp → α → Prop} {row : α → Nat → List V} {len : α → Nat} {a0 : α} {ds : List PyData} (hrd : ∀ H2, (∀ a o, F a → H a = some o → H2 a = some o) → rd H2 a0) (hlen : len a0 = ds.length)
    (hrow : ∀ i d, ds[i]? = some d → ∃ es, d = .tuple es ∧ FRs K H F es (row a0 i)) : Walk K (ItG rd row len) ds H F := by
  refine ⟨fun H2 F2 k m => ⟨fun i d e => ⟨⟨a0, hrd H2 k, by rw [hlen]; exact (List.getElem?_eq_some_iff.mp e).1⟩, fun x H3 y => ?_⟩, a0, hrd H2 k, hlen.symm⟩⟩
  obtain ⟨T, vs, rfl, hT, rfl, hv⟩ := y
  obtain ⟨es, rfl, hf⟩ := hrow i d e
  rw [hv a0 (hrd H2 k)]
  exact ⟨fun a => F2 a ∨ a = T, .tup (.inr rfl) upd_same ((hf.keep k m).new hT), ext_new hT fun a z => z.elim⟩
end
theorem getD_vals {xs : List V} {its : List Value} {i : Nat} {x : Value} (r : Vals xs its) (h : its.toArray[i]? = some x) : RelV (xs.getD i .non) x := by
  have h' : its[i]? = some x := by simpa using h
  have hl := r.length
  have hi : i < xs.length := by rw [hl]; exact (List.getElem?_eq_some_iff.mp h').1
  obtain ⟨u, hu, ru⟩ := r.get (List.getElem?_eq_getElem hi)
  rw [h'] at hu
  cases hu
  rw [List.getD_eq_getElem?_getD, List.getElem?_eq_getElem hi]
  exact ru
section
variable {X : Cx} {e e2 e3 : Expr} {ta : TA} {p pos tpos : Pos} {elts : List Expr} {kk : Nat}
end
end PD

namespace PD
open PySem PySem.Spec PyProof.Rows L2
def rowZ2 (p : List V × List V) (i : Nat) : List V := [p.1.getD i .non, p.2.getD i .non]
def lenZ2 (p : List V × List V) : Nat := min p.1.length p.2.length
def rdZ2 (K : PySem.W.Frag) (k1 k2 : Bool) (a b : Addr) (H : Hp) (p : List V × List V) : Prop := Src K H k1 a p.1 ∧ Src K H k2 b p.2
def iZip2 (K : PySem.W.Frag) (ta : TA) : TI := fun σ H R => ta σ H fun vs H1 => ∃ k1 k2 a b p, vs = [.ref a, .ref b] ∧ rdZ2 K k1 k2 a b H1 p ∧ R (ItG (rdZ2 K k1 k2 a b) rowZ2 lenZ2) H1
section
variable {X : Cx} {e e2 e3 : Expr} {ta : TA} {p pos tpos : Pos} {elts : List Expr} {kk : Nat}
theorem vals_len {xs : List V} {its : List Value} (r : Vals xs its) : its.toArray.size = xs.length := by rw [r.length]; simp
theorem pi_zip2 (hg : Gl X "zip") (hm : X.mg "zip" = none) (ha : PA X [e, e2] ta)
    (hs : starEach [e, e2] X.env = (false, eval e X.env) :: starEach [e2] X.env := by rfl) (hpl : (backTo pos (starEach [e2] X.env)).any (·.1) = false := by rfl) :
    PI X (.Tuple elts kk tpos) (.Call (.Name "zip" p) [e, e2] [] pos) (iZip2 X.K ta) := by
  refine ⟨fun pins s σ H R I h => ?_⟩
  refine Call_ (ld_blt I hg hm PyProof.Rows.boot_zip (PyProof.Rows.callWith_type1 (thn (ha.run pos pins s σ H _ I h) fun us s1 ⟨vs, H1, I1, r1, q1⟩ => ?_) hs hpl))
  obtain ⟨k1, k2, a, b, pr, ex, ⟨hqa, hqb⟩, q⟩ := q1
  subst ex
  cases r1 with
  | cons r rr =>
    cases rr with
    | cons r' rr =>
      cases rr
      cases r
      cases r'
      obtain ⟨its, rv, hsrc, hlt⟩ := src_get I1 hqa
      obtain ⟨its2, rv2, hsrc2, hlt2⟩ := src_get I1 hqb
      obtain ⟨o1, B1, hB1⟩ := begins_src k1 a its.toArray
      obtain ⟨o2, B2, hB2⟩ := begins_src k2 b its2.toArray
      obtain ⟨N, hN⟩ : ∃ N, s1.heap.objs.size = N := ⟨_, rfl⟩
      rw [hN] at hlt hlt2
      refine zip_begins2 B1 B2 hsrc hsrc2 fun h' hz hTI hTO h1 h2 hsz hk => wpAny_pyIter_zip hz ?_
      have I2 : Inv X pins σ H1 { s1 with heap := h' } := I1.kept (t' := s1.toks) hk
      rw [hN] at hz hTI hTO h1 h2 ⊢
      refine ⟨N + 4, [N + 4, N + 2, N + 3, N, N + 1], fun i h => IsZip h (N + 4) (N + 2) (N + 3) .none ∧ IsTupOf2 h (N + 2) (.ref N) (.ref (N + 1)) ∧ (∃ a1 a2, IsTupOf2 h (N + 3) a1 a2) ∧ ItrH h k1 N a i ∧ ItrH h k2 (N + 1) b i,
        _, H1, rfl, I2, turn_gen (wr := [N + 4, N + 3, N, N + 1]) (by simp) (fun b hb => ?_) ?_ ?_ ?_ ?_ ?_, ⟨hz, hTI, ⟨_, _, hTO⟩, hB1 _ _ h1, hB2 _ _ h2⟩, fun b hb => ?_, q⟩
      · have e' : b = N + 4 ∨ b = N + 3 ∨ b = N ∨ b = N + 1 := by simpa using hb
        rcases e' with z | z | z | z <;> simp [z]
      · rintro i h ⟨g1, g2, ⟨_, _, g3⟩, g4, g5⟩ c hc
        have e' : c = N + 4 ∨ c = N + 2 ∨ c = N + 3 ∨ c = N ∨ c = N + 1 := by simpa using hc
        rcases e' with z | z | z | z | z
        · rw [z]; exact ⟨_, g1, fun v q => nomatch q⟩
        · rw [z]; exact ⟨_, g2, fun v q => nomatch q⟩
        · rw [z]; exact ⟨_, g3, fun v q => nomatch q⟩
        · rw [z]; exact itr_obj g4
        · rw [z]; exact itr_obj g5
      · rintro i h h' ⟨g1, g2, ⟨_, _, g3⟩, g4, g5⟩ k'
        exact ⟨k' _ (by simp) _ g1, k' _ (by simp) _ g2, ⟨_, _, k' _ (by simp) _ g3⟩, itr_at g4 fun o e => k' _ (by simp) o e, itr_at g5 fun o e => k' _ (by simp) o e⟩
      · rintro A i s Q E ⟨g1, _⟩ h
        exact wpAny_pyIter_zip g1 h
      · rintro X' hK' pins' σ' H' s' I' ⟨x1, x2⟩ ⟨y1, y2⟩ ⟨u1, u2⟩ ⟨v1, v2⟩
        rw [← hK'] at u1 u2 v1 v2
        exact Prod.ext (src_inj I' u1 v1) (src_inj I' u2 v2)
      · rintro X' hP hw hK' hc' pins' σ' H' s' ⟨x1, x2⟩ I' ⟨u1, u2⟩
        rw [← hK'] at u1 u2
        obtain ⟨w1, rw1, hw1, _⟩ := src_get I' u1
        obtain ⟨w2, rw2, hw2, _⟩ := src_get I' u2
        have hh : X'.A.in1.handled = none := by simpa using I'.ok.hd hc'
        have D1 := draws_src (prog := X.prog) (w := X.w) hh k1 N a (Nat.ne_of_lt hlt) w1.toArray
        have D2 := draws_src (prog := X.prog) (w := X.w) hh k2 (N + 1) b (Nat.ne_of_lt (Nat.lt_succ_of_lt hlt2)) w2.toArray
        have W := WalksT.zipD2 (zip_sep2 (N := N) (fp1 := [a]) (fp2 := [b]) (by simpa using hlt) (by simpa using hlt2)) D1 D2
        rw [vals_len rw1, vals_len rw2] at W
        refine ⟨_, _, _, _, W, fun i g => ?_, fun i h g => ?_, ?_⟩
        · obtain ⟨g1, g2, g3, g4, g5⟩ := g
          exact ⟨g1, g2, g3, ⟨g4, hw1⟩, g5, hw2⟩
        · obtain ⟨g1, g2, g3, ⟨g4, _⟩, g5, _⟩ := g
          exact ⟨g1, g2, g3, g4, g5⟩
        · rintro i vals ⟨x, y, hx, hy, rfl⟩
          exact ⟨.cons (getD_vals rw1 hx) (.cons (getD_vals rw2 hy) .nil), by show 2 ≤ sizeLine; decide⟩
      · have e' : b = N + 4 ∨ b = N + 2 ∨ b = N + 3 ∨ b = N ∨ b = N + 1 := by simpa using hb
        have hle : s1.heap.objs.size ≤ b := by
          rw [hN]
          rcases e' with z | z | z | z | z
          · rw [z]; exact Nat.le_add_right _ _
          · rw [z]; exact Nat.le_add_right _ _
          · rw [z]; exact Nat.le_add_right _ _
          · rw [z]; exact Nat.le_refl _
          · rw [z]; exact Nat.le_add_right _ _
        exact I1.fpOk hle (I1.hok.fresh hle)
end
def enumD (ds : List PyData) : List PyData := ds.mapIdx fun i d => .tuple [.int (i : Nat), d]
def enumF : List PyData → Option (List PyData)
  | [d] => (seqOf d).map enumD
  | _ => none
def zip2D (xs ys : List PyData) : List PyData := List.zipWith (fun x y => PyData.tuple [x, y]) xs ys
def zip2F : List PyData → Option (List PyData)
  | [a, b] => (seqOf a).bind fun xs => (seqOf b).map fun ys => zip2D xs ys
  | _ => none
section
variable {K : PySem.W.Frag} {H : Hp} {F : Fs}
theorem fr_src {d : PyData} {v : V} {ds : List PyData} (h : FR K H F d v) (e : seqOf d = some ds) : ∃ k a xs, v = .ref a ∧ FRs K H F ds xs ∧ ∀ H2, (∀ a o, F a → H a = some o → H2 a = some o) → Src K H2 k a xs := by
  cases h with
  | @tup a vs es fa ha ra =>
    cases e
    exact ⟨true, a, vs, rfl, ra, fun H2 k => SqT.of (k a _ fa ha)⟩
  | @lst a vs es fa ha ra =>
    cases e
    exact ⟨false, a, vs, rfl, ra, fun H2 k => SqL.of (k a _ fa ha)⟩
  | _ => cases e
theorem FRs.getD {ds : List PyData} {xs : List V} (h : FRs K H F ds xs) {i : Nat} {d : PyData} (e : ds[i]? = some d) : FR K H F d (xs.getD i .non) := by
  obtain ⟨v, hv, hf⟩ := h.get i d e
  rw [List.getD_eq_getElem?_getD, hv]
  exact hf
end
section
variable {X : Cx} {cl : Nat → Addr} {W : WX} {e e2 e3 : Expr} {ma : M (List PyData)} {p pos tpos : Pos} {elts : List Expr} {kk : Nat}
theorem di_zip2 (hg : Gl X "zip") (hm : X.mg "zip" = none) (ha : DA X cl W [e, e2] ma)
    (hs : starEach [e, e2] X.env = (false, eval e X.env) :: starEach [e2] X.env := by rfl) (hpl : (backTo pos (starEach [e2] X.env)).any (·.1) = false := by rfl) :
    DI X cl W (.Tuple elts kk tpos) (.Call (.Name "zip" p) [e, e2] [] pos) (mIA zip2F ma) := by
  refine PI.imp (pi_zip2 hg hm ha hs hpl) fun σ H R q => tI_ofA q fun v H' F' ds d env' fp' r ef hf k => ?_
  cases hf with
  | nil => cases ef
  | @cons d ds' v vs h t =>
    cases t with
    | nil => cases ef
    | @cons d2 ds2 v2 vs2 h2 t2 =>
      cases t2 with
      | cons _ _ => cases ef
      | nil =>
        obtain ⟨xs, e1, ef⟩ := Option.bind_eq_some_iff.mp (show ((seqOf d).bind fun xs => (seqOf d2).map fun ys => zip2D xs ys) = some ds from ef)
        obtain ⟨ys, e2, rfl⟩ := Option.map_eq_some_iff.mp ef
        obtain ⟨k1, a, vs, rfl, rs, hs1⟩ := fr_src h e1
        obtain ⟨k2, b, us, rfl, ru, hs2⟩ := fr_src h2 e2
        refine ⟨k1, k2, a, b, (vs, us), rfl, ⟨hs1 H' fun _ _ _ z => z, hs2 H' fun _ _ _ z => z⟩, k _ (walk_gen (a0 := (vs, us)) (fun H2 k' => ⟨hs1 H2 k', hs2 H2 k'⟩) (by unfold zip2D lenZ2; rw [List.length_zipWith, rs.length, ru.length]) fun i d ed => ?_)⟩
        unfold zip2D at ed
        rw [List.getElem?_zipWith] at ed
        cases ex : xs[i]? with
        | none => rw [ex] at ed; cases ed
        | some x =>
          cases ey : ys[i]? with
          | none => rw [ex, ey] at ed; cases ed
          | some y =>
            rw [ex, ey] at ed
            cases ed
            exact ⟨_, rfl, .cons (rs.getD ex) (.cons (ru.getD ey) .nil)⟩
end
end PD

namespace PD
open PySem PySem.Spec PyProof.Rows L2
section
variable {X : Cx} {cl : Nat → Addr} {W : WX} {e : Expr} {pos : Pos} {B : Nat → Bool}
def pushTs (i : Nat) (d : PyData) : M PyData := fun env => match env i with
  | some (.lst ts) => match d with
    | .list ds => if ts.length + ds.length ≤ sizeLine then .ok .none (setE env i (some (.lst (ts ++ ds.map T.v)))) else .bad
    | _ => .bad
  | _ => .bad
def atTT (t : T) (j1 j2 : Int) : Option PyData := match t with
  | .lst ts => (L2.atI ts j1).bind fun u => match u with
    | .lst us => (L2.atI us j2).bind fun w => match w with
      | .v d => some d
      | _ => none
    | _ => none
  | _ => none
def intAt (env : Env) (n : Nat) : Option Int := match env n with
  | some (.v (.int j)) => some j
  | _ => none
theorem intAt_some {env : Env} {n : Nat} {j : Int} (h : intAt env n = some j) : env n = some (.v (.int j)) := by
  unfold intAt at h
  split at h
  · rename_i e; cases h; exact e
  · cases h
def mIxPP (i n1 n2 : Nat) : M PyData := fun env => match env i, intAt env n1, intAt env n2 with
  | some t, some j1, some j2 => match atTT t j1 j2 with
    | some d => .ok d env
    | none => .bad
  | _, _, _ => .bad
theorem mIxPP_inv {i n1 n2 : Nat} {env : Env} (h : mIxPP i n1 n2 env ≠ .bad) : ∃ ts j1 us j2 d, env i = some (.lst ts) ∧ env n1 = some (.v (.int j1)) ∧ env n2 = some (.v (.int j2)) ∧ L2.atI ts j1 = some (.lst us) ∧ L2.atI us j2 = some (.v d) ∧ mIxPP i n1 n2 env = .ok d env := by
  unfold mIxPP at h ⊢
  cases ei : env i with
  | none => simp only [ei] at h; exact absurd rfl h
  | some t =>
    cases e1 : intAt env n1 with
    | none => simp only [ei, e1] at h; exact absurd rfl h
    | some j1 =>
      cases e2 : intAt env n2 with
      | none => simp only [ei, e1, e2] at h; exact absurd rfl h
      | some j2 =>
        simp only [ei, e1, e2] at h ⊢
        cases e3 : atTT t j1 j2 with
        | none => rw [e3] at h; exact absurd rfl h
        | some d =>
          cases t with
          | lst ts =>
            obtain ⟨u, g1, g2⟩ := Option.bind_eq_some_iff.mp (show (L2.atI ts j1).bind _ = some d from e3)
            cases u with
            | lst us =>
              obtain ⟨w, g3, g4⟩ := Option.bind_eq_some_iff.mp (show (L2.atI us j2).bind _ = some d from g2)
              cases w with
              | v d' => cases g4; exact ⟨ts, j1, us, j2, d, rfl, intAt_some e1, intAt_some e2, g1, g3, rfl⟩
              | _ => cases g4
            | _ => cases g2
          | _ => cases e3
theorem RTs.atI {Γ : Ctx} {H : Hp} {F : Fs} {ts : List T} {vs : List V} {P : Fs} (h : RTs Γ H F ts vs P) {j : Int} {t : T} (e : L2.atI ts j = some t) : ∃ v k P', L2.atI vs j = some v ∧ L2.ixN ts.length j = some k ∧ ts[k]? = some t ∧ vs[k]? = some v ∧ RT Γ H F t v P' ∧ ∀ a, P' a → P a := by
  unfold L2.atI at e
  obtain ⟨jj, e3, e4⟩ := Option.bind_eq_some_iff.mp e
  obtain ⟨v, P', g1, g2, g3⟩ := h.get jj _ e4
  exact ⟨v, jj, P', by unfold L2.atI; rw [← h.length, e3]; exact g1, e3, e4, g1, g2, g3⟩
theorem de_ixPP (i n1 n2 : Nat) {x y z : Str} {p p1 p2 pp : Pos} (hN : X.N[i]? = some x := by rfl) (hN1 : X.N[n1]? = some y := by rfl) (hN2 : X.N[n2]? = some z := by rfl)
    (hv : Vis X.env.scope x := by first | exact Or.inl rfl | exact Or.inr (Or.inl rfl) | exact Or.inr (Or.inr rfl)) (hv1 : Vis X.env.scope y := by first | exact Or.inl rfl | exact Or.inr (Or.inl rfl) | exact Or.inr (Or.inr rfl)) (hv2 : Vis X.env.scope z := by first | exact Or.inl rfl | exact Or.inr (Or.inl rfl) | exact Or.inr (Or.inr rfl))
    (hd : (x == ("__debug__" : Str)) = false := by decide) (hcd : (x == ("__classdict__" : Str)) = false := by decide) (hd1 : (y == ("__debug__" : Str)) = false := by decide) (hcd1 : (y == ("__classdict__" : Str)) = false := by decide)
    (hd2 : (z == ("__debug__" : Str)) = false := by decide) (hcd2 : (z == ("__classdict__" : Str)) = false := by decide)
    (hs1 : PlainIx (.Name y p1) := by intro _ _; rfl) (hs2 : PlainIx (.Name z p2) := by intro _ _; rfl) :
    DE X cl W (.Subscript (.Subscript (.Name x p) (.Name y p1) pp) (.Name z p2) pos) (mIxPP i n1 n2) := by
  refine PE.imp (pe_ix ix_seq (pe_ix ix_seq (pe_var hN hv hd hcd) (pe_var hN1 hv1 hd1 hcd1) hs1) (pe_var hN2 hv2 hd2 hcd2) hs2) fun σ H Q q => ?_
  obtain ⟨F, env, fp, r, hm⟩ := q
  obtain ⟨ts, j1, us, j2, d, ei, e1, e2, g1, g2, em⟩ := mIxPP_inv (post_nb hm)
  rw [em] at hm
  obtain ⟨v, hv, ht⟩ := r.rep i _ ei
  obtain ⟨v1, hv1, ht1⟩ := r.rep n1 _ e1
  obtain ⟨v2, hv2, ht2⟩ := r.rep n2 _ e2
  cases ht1.inv_v.1 with
  | int j1 =>
    cases ht2.inv_v.1 with
    | int j2 =>
      obtain ⟨a, vs, P0, rfl, ha, hts, nP, eP⟩ := ht.inv_lst
      obtain ⟨u, k, P', q1, q2, q3, q4, q5, q6⟩ := hts.atI g1
      obtain ⟨b, ws, P1, rfl, hb, hus, nP1, eP1⟩ := q5.inv_lst
      obtain ⟨w, k2, P2, s1, s2, s3, s4, s5, s6⟩ := hus.atI g2
      exact ⟨_, hv, _, hv1, .inl ⟨_, _, j1, _, rfl, rfl, SqL.of ha, q1, _, hv2, .inl ⟨_, _, j2, _, rfl, rfl, SqL.of hb, s1, fin_same hm r s5.inv_v.1⟩⟩⟩
def putTT (t : T) (j1 j2 : Int) (d : PyData) : Option T := match t with
  | .lst ts => (L2.ixN ts.length j1).bind fun k1 => match ts[k1]? with
    | some (.lst us) => (L2.ixN us.length j2).map fun k2 => .lst (ts.set k1 (.lst (us.set k2 (.v d))))
    | _ => none
  | _ => none
def putPP (i n1 n2 : Nat) (d : PyData) : M Fl := fun env => match env i, intAt env n1, intAt env n2 with
  | some t, some j1, some j2 => match putTT t j1 j2 d with
    | some t' => .ok .nx (setE env i (some t'))
    | none => .bad
  | _, _, _ => .bad
def sSetPP (i n1 n2 : Nat) (me : M PyData) : M Fl := me >>= putPP i n1 n2
theorem putPP_inv {i n1 n2 : Nat} {env : Env} {d : PyData} (h : putPP i n1 n2 d env ≠ .bad) : ∃ ts j1 us j2 k1 k2, env i = some (.lst ts) ∧ env n1 = some (.v (.int j1)) ∧ env n2 = some (.v (.int j2)) ∧ L2.ixN ts.length j1 = some k1 ∧ ts[k1]? = some (.lst us) ∧ L2.ixN us.length j2 = some k2 ∧
    putPP i n1 n2 d env = .ok .nx (setE env i (some (.lst (ts.set k1 (.lst (us.set k2 (.v d))))))) := by
  unfold putPP at h ⊢
  cases ei : env i with
  | none => simp only [ei] at h; exact absurd rfl h
  | some t =>
    cases e1 : intAt env n1 with
    | none => simp only [ei, e1] at h; exact absurd rfl h
    | some j1 =>
      cases e2 : intAt env n2 with
      | none => simp only [ei, e1, e2] at h; exact absurd rfl h
      | some j2 =>
        simp only [ei, e1, e2] at h ⊢
        cases e3 : putTT t j1 j2 d with
        | none => rw [e3] at h; exact absurd rfl h
        | some t' =>
          cases t with
          | lst ts =>
            obtain ⟨k1, g1, g2⟩ := Option.bind_eq_some_iff.mp (show (L2.ixN ts.length j1).bind _ = some t' from e3)
            cases e4 : ts[k1]? with
            | none => simp only [e4] at g2; cases g2
            | some w =>
              simp only [e4] at g2
              cases w with
              | lst us =>
                obtain ⟨k2, g3, g4⟩ := Option.map_eq_some_iff.mp g2
                cases g4
                exact ⟨ts, j1, us, j2, k1, k2, rfl, intAt_some e1, intAt_some e2, g1, e4, g3, rfl⟩
              | _ => cases g2
          | _ => cases e3
theorem atI_of {α : Type} {xs : List α} {j : Int} {k : Nat} {x : α} (h : L2.ixN xs.length j = some k) (g : xs[k]? = some x) : L2.atI xs j = some x := by
  unfold L2.atI
  rw [h]
  exact g
theorem RTs.putAt {Γ : Ctx} {H H' : Hp} {F : Fs} : ∀ {ts : List T} {vs : List V} {P : Fs}, RTs Γ H F ts vs P → ∀ (k : Nat) (t t' : T) (v : V) (O : Fs), ts[k]? = some t → vs[k]? = some v →
    (∀ P', RT Γ H F t v P' → (∀ a, P' a → P a) → ∃ P2, RT Γ H' F t' v P2 ∧ (∀ a, P2 a → P' a) ∧ ∀ a, O a → P' a) → (∀ a o, F a → H a = some o → H' a = some o) → (∀ a o, ¬ O a → H a = some o → H' a = some o) →
    ∃ P2, RTs Γ H' F (ts.set k t') vs P2 ∧ ∀ a, P2 a → P a
  | _, _, _, .nil, k, _, _, _, _, h, _, _, _, _ => by simp at h
  | _, _, _, .cons (P := P0) (Q := Q0) h r d, 0, t, t', v, O, e1, e2, f, kF, kO => by
    simp at e1 e2
    subst e1; subst e2
    obtain ⟨P2, g1, g3, g2⟩ := f P0 h fun a z => .inl z
    exact ⟨_, .cons g1 (r.keep kF (fun _ z => z) fun a o q e => kO a o (fun z => d a (g2 a z) q) e) fun a p => d a (g3 a p), fun a z => z.elim (fun z => .inl (g3 a z)) .inr⟩
  | _, _, _, .cons (P := P0) (Q := Q0) h r d, k + 1, t, t', v, O, e1, e2, f, kF, kO => by
    obtain ⟨Q2, q, q2⟩ := RTs.putAt r k t t' v O (by simpa using e1) (by simpa using e2) (fun P' a b => f P' a fun x z => .inr (b x z)) kF kO
    refine ⟨_, .cons (h.keep kF (fun _ z => z) fun a o p e => kO a o (fun z => ?_) e) q fun a p z => d a p (q2 a z), fun a z => z.elim .inl fun z => .inr (q2 a z)⟩
    obtain ⟨v', P', g1, g2, g3⟩ := r.get k t (by simpa using e1)
    have e3 : v' = v := by
      have q2 := g1.symm.trans (show _ = some v by simpa using e2)
      injection q2
    subst e3
    obtain ⟨_, _, _, g4⟩ := f P' g2 fun x y => .inr (g3 x y)
    exact d a p (g3 a (g4 a z))
theorem ds_setPP (i n1 n2 : Nat) {me : M PyData} {x y z : Str} {p p1 p2 pp tp : Pos} (h : DE X cl W e me) (hN : X.N[i]? = some x := by rfl) (hN1 : X.N[n1]? = some y := by rfl) (hN2 : X.N[n2]? = some z := by rfl)
    (hv : Vis X.env.scope x := by first | exact Or.inl rfl | exact Or.inr (Or.inl rfl) | exact Or.inr (Or.inr rfl)) (hv1 : Vis X.env.scope y := by first | exact Or.inl rfl | exact Or.inr (Or.inl rfl) | exact Or.inr (Or.inr rfl)) (hv2 : Vis X.env.scope z := by first | exact Or.inl rfl | exact Or.inr (Or.inl rfl) | exact Or.inr (Or.inr rfl))
    (hd : (x == ("__debug__" : Str)) = false := by decide) (hcd : (x == ("__classdict__" : Str)) = false := by decide) (hd1 : (y == ("__debug__" : Str)) = false := by decide) (hcd1 : (y == ("__classdict__" : Str)) = false := by decide)
    (hd2 : (z == ("__debug__" : Str)) = false := by decide) (hcd2 : (z == ("__classdict__" : Str)) = false := by decide) (hs1 : PlainIx (.Name y p1) := by intro _ _; rfl)
    (ha : ∀ v, assign (.Subscript (.Subscript (.Name x p) (.Name y p1) pp) (.Name z p2) tp) X.env v = (do
      let ov ← holding [v] (eval (.Subscript (.Name x p) (.Name y p1) pp) X.env)
      let iv ← holding [v, ov] (eval (.Name z p2) X.env)
      standAt tp
      holding [v, ov, iv] (setItem ov iv v)
      release [v, ov, iv] []) := by intro _; rfl)
    (hs : swapsWithSole [.Subscript (.Subscript (.Name x p) (.Name y p1) pp) (.Name z p2) tp] e pos.line X.env = pure false := by rfl) (hw : swappedStores [.Subscript (.Subscript (.Name x p) (.Name y p1) pp) (.Name z p2) tp] e X.env = pure none := by rfl)
    (h1 : (assignEach [.Subscript (.Subscript (.Name x p) (.Name y p1) pp) (.Name z p2) tp] X.env).map (·.2) = [assign (.Subscript (.Subscript (.Name x p) (.Name y p1) pp) (.Name z p2) tp) X.env] := by rfl) :
    DS X cl W B (.Assign [.Subscript (.Subscript (.Name x p) (.Name y p1) pp) (.Name z p2) tp] e pos) (sSetPP i n1 n2 me) := by
  refine PS.imp (ps_asg h (pg_sub (pe_ix ix_seq (pe_var hN hv hd hcd) (pe_var hN1 hv1 hd1 hcd1) hs1) (pe_var hN2 hv2 hd2 hcd2) set_list ha) hs hw h1) fun D σ H q => ?_
  obtain ⟨F, env, fp, r, hm⟩ := q
  refine ⟨F, env, fp, r, ?_⟩
  unfold sSetPP at hm
  cases em : me env with
  | bad => rw [bind_bad em] at hm; exact hm
  | exc y e1 =>
    rw [bind_exc em] at hm
    exact fun c d H1 F1 fp1 r1 r2 r3 => hm σ c d H1 F1 fp1 (Arr.of_ext r1 r3) r2
  | ok d e1 =>
    rw [bind_ok em] at hm
    intro w H1 F1 fp1 P1 r1 h1 hd x
    obtain ⟨h1, rfl⟩ := h1
    have nb : putPP i n1 n2 d e1 ≠ .bad := fun z => by rw [z] at hm; exact hm
    obtain ⟨ts, j1, us, j2, k1, k2, ei, g1, g2, q1, q2, q3, ep⟩ := putPP_inv nb
    rw [ep] at hm
    obtain ⟨v, hv, ht⟩ := r1.rep i _ ei
    obtain ⟨v1, hv1, ht1⟩ := r1.rep n1 _ g1
    obtain ⟨v2, hv2, ht2⟩ := r1.rep n2 _ g2
    cases ht1.inv_v.1 with
    | int j1 =>
      cases ht2.inv_v.1 with
      | int j2 =>
        obtain ⟨a, vs, P0, rfl, ha, hts, nP, eP⟩ := ht.inv_lst
        obtain ⟨u, P', s1, s2, s3⟩ := hts.get k1 _ q2
        obtain ⟨b, ws, P1, rfl, hb, hus, nP1, eP1⟩ := s2.inv_lst
        have fb : fp1 i b := by rw [eP]; exact .inr (s3 b (by rw [eP1]; exact .inl rfl))
        have nF : ¬ F1 b := r1.nf i b fb
        have nab : a ≠ b := fun z => nP (by rw [z]; exact s3 b (by rw [eP1]; exact .inl rfl))
        refine ⟨_, hv, _, hv1, .inl ⟨_, _, j1, _, rfl, rfl, SqL.of ha, atI_of (by rw [← hts.length]; exact q1) s1, _, hv2, b, ws, j2, k2, rfl, rfl, hb, by rw [← hus.length]; exact q3, ?_⟩⟩
        have kF : ∀ c o, F1 c → H1 c = some o → L2.upd H1 b (.lst (ws.set k2 w)) c = some o := fun c o f e => by rw [upd_ne (fun z => nF (by rw [← z]; exact f))]; exact e
        obtain ⟨P2, big, sub⟩ : ∃ P2, RTs ⟨X.K, cl⟩ (L2.upd H1 b (.lst (ws.set k2 w))) F1 (ts.set k1 (.lst (us.set k2 (.v d)))) vs P2 ∧ ∀ c, P2 c → P0 c := by
          refine RTs.putAt hts k1 _ _ _ (fun c => c = b) q2 s1 (fun P'' hP _ => ?_) kF fun c o n e => by rw [upd_ne n]; exact e
          obtain ⟨b', ws', P3, eb, hb', hus', nP3, eP3⟩ := hP.inv_lst
          cases eb
          rw [hb] at hb'
          cases hb'
          obtain ⟨P4, t1, t2⟩ := RTs.put (hus'.rootw (o := .lst (ws.set k2 w)) nP3 nF) (RT.v (h1.keep kF fun _ z => z)) (fun _ z => z.elim) k2
          have sb : ∀ c, P4 c → P3 c := fun c z => (t2 c z).elim id fun z => z.elim
          exact ⟨_, .lst upd_same t1 fun z => nP3 (sb b z), fun c z => by rw [eP3]; exact z.elim .inl fun z => .inr (sb c z), fun c z => by rw [eP3]; exact .inl z⟩
        have hP : ∀ y, (y = a ∨ P2 y) → fp1 i y ∨ (noF y ∧ ¬ ow fp1 y ∧ ¬ F1 y) := fun y z => .inl (by rw [eP]; exact z.elim .inl fun z => .inr (sub y z))
        have nt : RT ⟨X.K, cl⟩ (L2.upd H1 b (.lst (ws.set k2 w))) F1 (.lst (ts.set k1 (.lst (us.set k2 (.v d))))) (.ref a) (fun y => y = a ∨ P2 y) := .lst (by rw [upd_ne nab]; exact ha) big fun z => nP (sub a z)
        exact hm σ _ F1 _ ⟨r1.upd (P := noF) hv fb nt hP, fun _ z => z.elim, rfl, fun _ _ => rfl, Ext.emp' (ext_upd (P := noF) r1 x fb hP)⟩
end
end PD

namespace PD
open PySem PySem.Spec PyProof.Rows L2
def lcEndO (tg : Tgt) (tt : M Bool) (elt : M T) (vs : List Nat) (xs : List PyData) : M T := fun env =>
  match compL tg tt elt vs xs (wipeE env vs) with
  | some (ys, e2) => if ys.length ≤ sizeLine then .ok (.lst ys) (backE env e2 vs) else .bad
  | none => .bad
def mLcO (it : M (List PyData)) (tg : Tgt) (tt : M Bool) (elt : M T) (vs : List Nat) : M T := it >>= lcEndO tg tt elt vs
section
variable {X : Cx} {cl : Nat → Addr} {W : WX} {tg iter elt : Expr} {ifs : List Expr} {scope : Scope} {own : List (Str × Nat)} {pos : Pos} {mi : M (List PyData)} {mg : Tgt} {mt : M Bool} {me : M T}
abbrev Free (F : Fs) (fp : Nat → Fs) (H : Hp) (P : Fs) : Prop := ∀ a, P a → ¬ ow fp a ∧ ¬ F a ∧ ∃ o, H a = some o
theorem heldN {Γ : Ctx} {H H' : Hp} {F F' P : Fs} {env : Env} {σ : St} {fp fp' : Nat → Fs} {t : T} {v : V} (r : REnv Γ H F env σ fp) (h : RT Γ H F t v P) (hd : Free F fp H P) (x : Ext H F (ow fp) H' F' (ow fp')) : RT Γ H' F' t v P ∧ Free F' fp' H' P := by
  obtain ⟨a, b⟩ := held (P' := noF) r h hd (Ext.emp' x)
  exact ⟨a, fun y p => ⟨(b y p).2.1, (b y p).2.2.1, (b y p).2.2.2⟩⟩
theorem lcO_use {σ : St} {H : Hp} {Q : VK} {vs : List Nat} (q : tO ⟨X.K, cl⟩ W (mLcO mi mg mt me vs) σ H Q) :
    tLc (tI ⟨X.K, cl⟩ W mi) (tG1 ⟨X.K, cl⟩ (notIn vs) mg) (tB' ⟨X.K, cl⟩ W0 mt) (tO ⟨X.K, cl⟩ W0 me) vs σ H Q := by
  obtain ⟨F, env, fp, r, hm⟩ := q
  refine ⟨F, env, fp, r, ?_⟩
  unfold mLcO at hm
  cases e : mi env with
  | bad => rw [bind_bad e] at hm; exact hm.elim
  | exc y e1 => rw [bind_exc e] at hm; exact hm
  | ok xs e1 =>
    rw [bind_ok e] at hm
    intro J H1 F1 fp1 r1 w x
    have hm1 := hm.rebase x
    clear hm
    unfold lcEndO at hm1
    cases hcl : compL mg mt me vs xs (wipeE e1 vs) with
    | none => simp only [hcl] at hm1; exact hm1.elim
    | some p =>
      obtain ⟨ys, e2⟩ := p
      simp only [hcl] at hm1
      by_cases hz : ys.length ≤ sizeLine
      · rw [if_pos hz] at hm1
        intro D hD
        have rw1 := r1.wipe (vs := vs)
        have nO1 : ¬ ow fp1 D := fun z => by
          obtain ⟨o, z⟩ := r1.dom z
          rw [hD] at z; cases z
        have nO : ¬ ow (wipeF fp1 vs) D := fun z => nO1 (ow_wipe z)
        have hFD : ¬ F1 D := fun z => by
          obtain ⟨o, z⟩ := r1.fd D z
          rw [hD] at z; cases z
        have nF1 : Ext H1 F1 noF (upd H1 D (.lst [])) F1 noF := ⟨fun a o h _ => by rw [upd_ne (ne_of_none h hD)]; exact h, fun _ z => z, fun _ z => z.elim, fun _ z => .inl z, fun h a z => (let ⟨o, q⟩ := h a z; ⟨o, by rw [upd_ne (ne_of_none q hD)]; exact q⟩)⟩
        -- what the list holds is new
        refine ⟨fun i n H' => ∃ F' e' fp' P ts ys', REnv ⟨X.K, cl⟩ H' F' e' (L2.wipe σ vs) fp' ∧ (∀ j, j ∈ vs → e' j = none) ∧ RT ⟨X.K, cl⟩ H' F' (.lst ts) (.ref D) P ∧ Free F' fp' H' P ∧ (∀ a, P a → ow (wipeF fp1 vs) a ∨ H1 a = none) ∧ Walk X.K J xs H' F' ∧
          Ext H1 F1 (ow (wipeF fp1 vs)) H' F' (ow fp') ∧ n = xs.length - i ∧ i ≤ xs.length ∧ compL mg mt me vs (xs.drop i) e' = some (ys', e2) ∧ ts ++ ys' = ys,
          ⟨xs.length, F1, wipeE e1 vs, wipeF fp1 vs, _, [], ys, add_ext rw1 nO hFD, fun j hj => by unfold wipeE; rw [if_pos hj], .lst upd_same .nil (fun z => z), fun a z => ?_, fun a z => ?_, w.ext nF1 (fun _ _ z => z), ?_, rfl, Nat.zero_le _, hcl, rfl⟩, ?_⟩
        · rcases z with z | z
          · rw [z]; exact ⟨nO, hFD, _, upd_same⟩
          · exact z.elim
        · rcases z with z | z
          · rw [z]; exact .inr hD
          · exact z.elim
        · exact ⟨fun a o h _ => by rw [upd_ne (ne_of_none h hD)]; exact h, fun _ z => z, fun _ z => .inl z, fun _ z => .inl z, nF1.dom⟩
        rintro i n H' ⟨F', e', fp', P, ts, ys', r', hn', hrt, hfr, hnew, w', x', rfl, hi, hcl', hys⟩
        by_cases hlt : i < xs.length
        · obtain ⟨hgo, hy⟩ := (w'.all H' F' (fun _ _ _ z => z) (fun _ z => z)).1 i xs[i] (List.getElem?_eq_getElem hlt)
          refine .inr ⟨hgo, fun H'' => ∃ F' e' fp' P ts ys', REnv ⟨X.K, cl⟩ H'' F' e' (L2.wipe σ vs) fp' ∧ (∀ j, j ∈ vs → e' j = none) ∧ RT ⟨X.K, cl⟩ H'' F' (.lst ts) (.ref D) P ∧ Free F' fp' H'' P ∧ (∀ a, P a → ow (wipeF fp1 vs) a ∨ H1 a = none) ∧ Walk X.K J xs H'' F' ∧
            Ext H1 F1 (ow (wipeF fp1 vs)) H'' F' (ow fp') ∧ compL mg mt me vs (xs.drop (i + 1)) e' = some (ys', e2) ∧ ts ++ ys' = ys,
            fun H'' ⟨F', e', fp', P, ts, ys', a1, a2, a3, a4, a5, a6, a7, a8, a9⟩ => ⟨xs.length - (i + 1), by omega, F', e', fp', P, ts, ys', a1, a2, a3, a4, a5, a6, a7, rfl, hlt, a8, a9⟩, fun v H3 yl => ?_⟩
          obtain ⟨F3, hf, x3⟩ := hy v H3 yl
          have r3 := r'.extN x3
          have w3 := w'.ext x3 (fun _ _ z => z)
          obtain ⟨t3, f3⟩ := heldN r' hrt hfr (ext_noF x3)
          have xx3 := x'.trans (ext_noF x3)
          rw [List.drop_eq_getElem_cons hlt] at hcl'
          unfold compL at hcl'
          refine ⟨F3, e', fp', xs[i], r3, hf, ?_⟩
          cases et : mg xs[i] e' with
          | none => simp only [et] at hcl'; cases hcl'
          | some e4 =>
            simp only [et] at hcl'
            intro σ2 H2 F2 fp2 a2
            have hw : L2.wipe σ2 vs = L2.wipe σ vs := wipe_eq (by rw [a2.len, wipe_length]) fun j hj => by
              rw [a2.bor j (by unfold notIn; simpa using hj), wipe_get hj]
            refine ⟨hw, F2, e4, fp2, a2.re, ?_⟩
            have w2 := w3.ext a2.ext.emp r3.fo
            obtain ⟨t2, f2⟩ := heldN r3 t3 f3 a2.ext.emp
            have xx2 := xx3.trans a2.ext.emp
            cases em : mt e4 with
            | bad => simp only [em] at hcl'; cases hcl'
            | exc y e5 => simp only [em] at hcl'; cases hcl'
            | ok b e5 =>
              intro b' H5 F5 fp5 P5 r5 hb hd5 x5
              obtain ⟨rfl, rfl⟩ := hb
              have w5 := w2.ext x5.emp a2.re.fo
              obtain ⟨t5, f5⟩ := heldN a2.re t2 f2 x5.emp
              have xx5 := xx2.trans x5.emp
              cases b with
              | false =>
                simp only [em] at hcl'
                have rr := r5.wipe (vs := vs)
                rw [hw] at rr
                exact iteF ⟨F5, wipeE e5 vs, wipeF fp5 vs, P, ts, ys', rr, fun j hj => by unfold wipeE; rw [if_pos hj], t5, fun a p => ⟨fun z => (f5 a p).1 (ow_wipe z), (f5 a p).2⟩, hnew, w5, ext_of xx5 fun a z => ow_wipe z, hcl', hys⟩
              | true =>
                simp only [em] at hcl'
                refine iteT ⟨F5, e5, fp5, r5, ?_⟩
                cases ee : me e5 with
                | bad => simp only [ee] at hcl'; cases hcl'
                | exc y e6 => simp only [ee] at hcl'; cases hcl'
                | ok y e6 =>
                  simp only [ee] at hcl'
                  obtain ⟨⟨ys'', e7⟩, h7, h8⟩ := Option.map_eq_some_iff.mp hcl'
                  cases h8
                  intro vy H6 F6 fp6 P6 r6 hy6 hd6 x6
                  obtain ⟨t6, f6⟩ := held r5 t5 f5 x6
                  have w6 := w5.ext x6 r5.fo
                  have xx6 := xx5.trans x6
                  have rr := r6.wipe (vs := vs)
                  rw [hw] at rr
                  obtain ⟨D', acc, P0, eD, hD6, hts, nP0, eP⟩ := t6.inv_lst
                  cases eD
                  have pD : P D := by rw [eP]; exact .inl rfl
                  obtain ⟨n6, nO6, nF6, o6, ho6⟩ := f6 D pD
                  have nO7 : ¬ ow (wipeF fp6 vs) D := fun z => nO6 (ow_wipe z)
                  have dis : ∀ a, P0 a → ¬ P6 a := fun a p => (f6 a (by rw [eP]; exact .inr p)).1
                  have hlen := hts.length
                  refine ⟨acc, hD6, ?_, F6, wipeE e6 vs, wipeF fp6 vs, fun b => b = D ∨ (P0 b ∨ P6 b), ts ++ [y], ys'', add_ext rr nO7 nF6, fun j hj => by unfold wipeE; rw [if_pos hj], .lst upd_same ((hts.rootw nP0 nF6).app (.one (hy6.rootw n6 nF6)) dis) (fun z => z.elim nP0 n6), fun a z => ?_, fun a z => ?_, ?_, ?_, h7, ?_⟩
                  · rw [← hys, List.length_append, List.length_cons] at hz
                    omega
                  · have ex : ∀ {c : Addr}, (∃ o, H6 c = some o) → ∃ o, upd H6 D (.lst (acc ++ [vy])) c = some o := fun {c} ⟨o, q⟩ => by
                      by_cases ec : c = D
                      · exact ⟨_, by rw [ec]; exact upd_same⟩
                      · exact ⟨o, by rw [upd_ne ec]; exact q⟩
                    rcases z with z | z | z
                    · rw [z]; exact ⟨nO7, nF6, _, upd_same⟩
                    · obtain ⟨g1, g2, g3, g4⟩ := f6 a (by rw [eP]; exact .inr z)
                      exact ⟨fun z => g2 (ow_wipe z), g3, ex g4⟩
                    · obtain ⟨g1, g2, g3⟩ := hd6 a z
                      exact ⟨fun z => g1 (ow_wipe z), g2, ex g3⟩
                  · rcases z with z | z | z
                    · rw [z]; exact .inr hD
                    · exact hnew a (by rw [eP]; exact .inr z)
                    · exact xx6.own a (.inl z)
                  · exact ⟨fun H8 F8 k m => w6.all H8 F8 (fun a o f q => k a o f (by
                      have ne : a ≠ D := fun z => by rw [z] at f; exact nF6 f
                      rw [upd_ne ne]; exact q)) m⟩
                  · exact ⟨fun a o h n => by
                      rw [upd_ne (ne_of_none h hD)]
                      exact xx6.keep a o h n, xx6.mono, fun a z => xx6.own a (.inr (ow_wipe z)), xx6.frz, fun _ => (add_ext (acc' := acc ++ [vy]) rr nO7 nF6).fd⟩
                  · rw [← hys, List.append_assoc]; rfl
        · have ei : i = xs.length := by omega
          subst ei
          refine .inl ⟨(w'.all H' F' (fun _ _ _ z => z) (fun _ z => z)).2, ?_⟩
          rw [List.drop_length] at hcl'
          unfold compL at hcl'
          cases hcl'
          rw [List.append_nil] at hys
          subst hys
          have nb : ∀ a, P a → ¬ ow (backF fp1 fp' vs) a := fun a p ⟨j, z⟩ => by
            unfold backF at z
            by_cases hj : j ∈ vs
            · rw [if_pos hj] at z
              rcases hnew a p with ⟨k, q⟩ | q
              · unfold wipeF at q
                by_cases hk : k ∈ vs
                · rw [if_pos hk] at q; exact q
                · rw [if_neg hk] at q
                  have := r1.dis j k a z q
                  subst this
                  exact hk hj
              · obtain ⟨o, e⟩ := r1.dom ⟨j, z⟩
                rw [q] at e; cases e
            · rw [if_neg hj] at z; exact (hfr a p).1 ⟨j, z⟩
          have xb := ext_back x'
          have rb := r1.back r' hn' x'
          refine hm1 (.ref D) H' F' (backF fp1 fp' vs) P rb hrt (fun a p => ⟨nb a p, (hfr a p).2⟩) ⟨xb.keep, xb.mono, fun a z => ?_, xb.frz, fun _ => rb.fd⟩
          rcases z with z | z
          · exact (hnew a z).imp ow_wipe id
          · exact xb.own a z
      · rw [if_neg hz] at hm1; exact hm1.elim
theorem do_lcO {vs : List Nat} (hc : X.calm = true) (hN : X.N.Nodup) (hi : DI X cl W tg iter mi) (ok : blkC X.N X.env.scope scope (ownOf X.N vs) = true)
    (hg : ∀ (s : Shared) (H : Hp) (C : Addr) (ce : List (Str × Addr)) (fp : List Addr), DG (X.blk s H scope (compEnvC scope ce C X.env) fp) cl (notIn vs) tg mg)
    (ht : ∀ (s : Shared) (H : Hp) (C : Addr) (ce : List (Str × Addr)) (fp : List Addr), DTs (X.blk s H scope (compEnvC scope ce C X.env) fp) cl W0 ifs mt)
    (he : ∀ (s : Shared) (H : Hp) (C : Addr) (ce : List (Str × Addr)) (fp : List Addr), DO (X.blk s H scope (compEnvC scope ce C X.env) fp) cl W0 elt me)
    (hs : ∀ x, foldedSetIterable iter X.env x = pure x := by intro _; rfl) : DO X cl W (.ListComp elt [⟨tg, iter, ifs, 0⟩] scope pos) (mLcO mi mg mt me vs) :=
  PE.imp (pe_lc hc hN hi (blkOk_by ok) (g := tG1 ⟨X.K, cl⟩ (notIn vs) mg) (fun s H C ce fp => hg s H C ce fp) (fun s H C ce fp => (ht s H C ce fp).run) (fun s H C ce fp => he s H C ce fp) hs) fun σ H Q q => by
    rw [ownOf_snd]
    exact lcO_use q
theorem ds_setLcO {vs : List Nat} {i : Nat} {y : Str} {py spos : Pos} {B : Nat → Bool} (hy : X.N[i]? = some y) (hB : B i = false) (hyl : X.env.scope.names.lookup y = some .local) (hsw : swapsWith (.ListComp elt [⟨tg, iter, ifs, 0⟩] scope pos) (some (.Name y py)) spos.line X.env = pure true)
    (hc : X.calm = true) (hN : X.N.Nodup) (hi : DI X cl W tg iter mi) (ok : blkC X.N X.env.scope scope (ownOf X.N vs) = true)
    (hg : ∀ (s : Shared) (H : Hp) (C : Addr) (ce : List (Str × Addr)) (fp : List Addr), DG (X.blk s H scope (compEnvC scope ce C X.env) fp) cl (notIn vs) tg mg)
    (ht : ∀ (s : Shared) (H : Hp) (C : Addr) (ce : List (Str × Addr)) (fp : List Addr), DTs (X.blk s H scope (compEnvC scope ce C X.env) fp) cl W0 ifs mt)
    (he : ∀ (s : Shared) (H : Hp) (C : Addr) (ce : List (Str × Addr)) (fp : List Addr), DO (X.blk s H scope (compEnvC scope ce C X.env) fp) cl W0 elt me)
    (hs : ∀ x, foldedSetIterable iter X.env x = pure x := by intro _; rfl) : DS X cl W B (.Assign [.Name y py] (.ListComp elt [⟨tg, iter, ifs, 0⟩] scope pos) spos) (sSetO i (mLcO mi mg mt me vs)) :=
  PS.impL (ps_setLc hc hN hy hyl hsw hi (blkOk_by ok) (g := tG1 ⟨X.K, cl⟩ (notIn vs) mg) (fun s H C ce fp => hg s H C ce fp) (fun s H C ce fp => (ht s H C ce fp).run) (fun s H C ce fp => he s H C ce fp) hs) fun D σ H hl q => by
    rw [ownOf_snd]
    exact lcO_use (tAsgO_of (List.getElem?_eq_some_iff.mp hy).1 hB D σ H hl q)
end
def mBinO (f : PyData → PyData → Option PyData) (ma mb : M PyData) : M T := do
  let a ← ma
  let b ← mb
  lift ((f a b).bind ownL)
section
variable {X : Cx} {cl : Nat → Addr} {W : WX} {a b : Expr} {ma mb : M PyData} {pos : Pos}
theorem do_mulL (h1 : DE X cl W a ma) (h2 : DE X cl W b mb) : DO X cl W (.BinOp a .Mult b pos) (mBinO lstMul ma mb) :=
  PE.imp (pe_op op_rep h1 h2) fun σ H Q q => G_mono (G_two (rel := relT ⟨X.K, cl⟩) (k := fun a b => lift ((lstMul a b).bind ownL)) q) fun x H1 z => G_mono z fun y H2 z2 => by
    obtain ⟨F, env, fp, d, d', r1, h1, h2, hm⟩ := z2
    obtain ⟨t, e, hm⟩ := post_liftG hm
    obtain ⟨c, e1, e2⟩ := Option.bind_eq_some_iff.mp e
    cases h1 with
    | @lst a vs ds fa sa ra =>
      cases h2 with
      | int k =>
        replace e1 : (if -(2 ^ 63) ≤ k ∧ k < 2 ^ 63 ∧ ds.length * k.toNat ≤ sizeLine then some (PyData.list (List.replicate k.toNat ds).flatten) else none) = some c := e1
        by_cases hc : -(2 ^ 63) ≤ k ∧ k < 2 ^ 63 ∧ ds.length * k.toNat ≤ sizeLine
        · rw [if_pos hc] at e1
          cases e1
          cases e2
          exact ⟨_, k, vs, rfl, rfl, sa, hc.1, hc.2.1, by rw [← ra.length]; exact hc.2.2, fun p hp => fin_own hm r1 hp (rt_lstv ((ra.rep k.toNat).newP hp) upd_same)⟩
        · rw [if_neg hc] at e1; cases e1
      | _ => cases e1
    | _ => cases e1
end
end PD

namespace PD
open PySem PySem.Spec PyProof.Rows L2
section
variable {P : Program} {w : World} {A : Around} {E : Value → Shared → Prop} {s : Shared}
end
section
variable {X : Cx}
end
section
variable {X : Cx} {cl : Nat → Addr} {W : WX} {a : Expr} {ma : M PyData} {p p2 pos q : Pos}
end
end PD

namespace PD
open PySem PySem.Spec PyProof.Rows L2
section
variable {X : Cx} {cl : Nat → Addr} {W : WX} {o e f : Expr} {mo me mf : M PyData} {ap cp : Pos}
end
section
variable {X : Cx}
def SlR3 (X : Cx) (r : V → Option Int → Option Int → Option Int → Hp → VK → Prop) : Prop :=
  ∀ (pins : List (Addr × Obj)) (s : Shared) (σ : St) (H : Hp) (x : V) (v vl vu vk : Value) (lo hi st : Option Int) (sl : Addr) (Q : VK), Inv X pins σ H s → RelV x v → s.heap.IsSliceOf sl vl vu vk → IsPart vl lo → IsPart vu hi → IsPart vk st → r x lo hi st H Q →
    ∃ T id, typeLookup (.type T) "__getitem__" = pure (some (.builtin id)) ∧ s.TypeIs v T ∧ wpAny (model X.prog X.w) X.A (getItem v (.ref sl)) (EP X pins σ Q) X.xe s
def tSl3 (r : V → Option Int → Option Int → Option Int → Hp → VK → Prop) (te : TE) (tl th tk : TO) : TE := fun σ H Q => te σ H fun x H1 => tl σ H1 fun l H2 => th σ H2 fun u H3 => tk σ H3 fun k H4 => r x l u k H4 Q
theorem pe_slice3 {r : V → Option Int → Option Int → Option Int → Hp → VK → Prop} {e : Expr} {lo hi st : Option Expr} {te : TE} {tl th tk : TO} {p2 pos : Pos} (hr : SlR3 X r) (he : PE X e te) (hl : PO X lo tl) (hu : PO X hi th) (hk : PO X st tk) (hsb : ∀ v r, subscripted (.Slice lo hi st p2) false v r = operate [v, r] (getItem v r)) : PE X (.Subscript e (.Slice lo hi st p2) pos) (tSl3 r te tl th tk) := by
  refine ⟨fun pins s σ H Q I h => ?_⟩
  refine Subscript_ (thn (he.run pins s σ H _ I h) fun v s1 ⟨x, H1, I1, r1, q1⟩ => wpAny_Slice (thn (hl.run pins s1 σ H1 _ I1 q1) fun vl s2 ⟨l, H2, I2, pl, q2⟩ => thn (hu.run pins s2 σ H2 _ I2 q2) fun vu s3 ⟨u, H3, I3, pu, q3⟩ => thn (hk.run pins s3 σ H3 _ I3 q3) fun vk s4 ⟨k, H4, I4, pk, q4⟩ => ?_))
  have I5 : Inv X pins σ H4 { s4 with heap := s4.heap.push { cls := .type "slice", data := .fields #[vl, vu, vk] } } := I4.kept (t' := s4.toks) fun b ob q => Heap.get?_push_of_some _ q
  obtain ⟨T, id, hT, ht, hg⟩ := hr pins _ σ H4 x v vl vu vk l u k s4.heap.objs.size Q I5 r1 (Heap.IsSliceOf.new ..) pl pu pk q4
  exact tail_any (ops := [v, .ref s4.heap.objs.size]) ht hT hg (hsb _ _)
end
open Builtin.Slice in
def stepT {α : Type} (xs : List α) (lo hi : Option Int) (k : Int) : List α :=
  (List.range (slicePlaces (sliceAdjust lo hi k xs.length).1 (sliceAdjust lo hi k xs.length).2 k)).filterMap fun (m : Nat) => xs[((sliceAdjust lo hi k xs.length).1 + (m : Int) * k).toNat]?
section
variable {prog : Program} {w : World} {A : Around} {E : Value → Shared → Prop} {s : Shared}
theorem sliceApplied_k {sl : Addr} {vl vu : Value} {tk : Tok} {lo hi : Option Int} {k : Int} {n : Nat} {Q : Int × Int × Nat → Shared → Prop} (hk : k ≠ 0) (hs : s.heap.IsSliceOf sl vl vu (.int k tk)) (pl : IsPart vl lo) (pu : IsPart vu hi)
    (h : Q ((Builtin.Slice.sliceAdjust lo hi k n).1, k, Builtin.Slice.slicePlaces (Builtin.Slice.sliceAdjust lo hi k n).1 (Builtin.Slice.sliceAdjust lo hi k n).2 k) s) : wpAny (model prog w) A (Builtin.Slice.sliceApplied (.ref sl) (pure (n : Int))) Q E s := by
  obtain ⟨os, e1, e2, e3⟩ := id hs
  unfold Builtin.Slice.sliceApplied Builtin.Slice.sliceFields
  refine wpAny_bind (wpAny_bind (wpAny_field e1 e3 (x := vl) rfl (wpAny_bind (wpAny_field e1 e3 (x := vu) rfl (wpAny_bind (wpAny_field e1 e3 (x := .int k tk) rfl (wpAny_pure ?_)))))))
  refine wpAny_bind (slicePart_int ?_)
  show wpAny _ _ (if (k == 0) = true then _ else _) _ _ s
  rw [if_neg (by simpa using hk)]
  refine wpAny_bind (HT.slicePart_ pl (wpAny_bind (HT.slicePart_ pu (wpAny_bind (wpAny_pure ?_)))))
  exact wpAny_pure h
theorem getItem_tuple_k {t sl : Addr} {items : Array Value} {vl vu : Value} {tk : Tok} {lo hi : Option Int} {k : Int} {Q : Value → Shared → Prop} (hk : k ≠ 0) (hk1 : k ≠ 1) (ht : s.heap.IsTuple t items) (hs : s.heap.IsSliceOf sl vl vu (.int k tk)) (pl : IsPart vl lo) (pu : IsPart vu hi)
    (h : Q (.ref s.heap.objs.size) { s with heap := s.heap.push { cls := .type "tuple", data := .seq (stepT items.toList lo hi k).toArray } }) (hsz : (stepT items.toList lo hi k).length ≤ sizeLine) : wpAny (model prog w) A (getItem (.ref t) (.ref sl)) Q E s := by
  obtain ⟨os, e1, e2, e3⟩ := id hs
  have hT : s.TypeIs (.ref sl) "slice" := ⟨os, e1, e2⟩
  have hfit : sizeOk (.seq (stepT items.toList lo hi k).toArray) := by
    show (stepT items.toList lo hi k).toArray.size ≤ sizeLine
    rw [List.size_toArray]; exact hsz
  unfold getItem
  try with_reducible refine wpAny_holding ?_
  first | refine wpAny_bind (wpAny_pure ?_) | skip
  refine wpAny_bind (wpAny_sequenceKey ht.typeIs (by decide) ?_)
  refine wpAny_bind (wpAny_callSpecial?_slot (name := Str.ofString "__getitem__") ht.typeIs PyProof.Rows.slot_tuple_getitem (wpAny_call_entry PyProof.Rows.slot_tuple_getitem ht.typeIs entry_tuple_getitem ?_ (args_tuple_getitem _ _)))
  show wpAny _ _ (Builtin.Tuple.tupleItemsOf (.ref t) >>= _) _ _ s
  refine wpAny_bind (PyProof.Rows.tupleItemsOf_ ht ?_)
  refine wpAny_bind (wpAny_typeOf hT ?_)
  rw [if_pos (by decide)]
  refine wpAny_bind (sliceApplied_k hk hs pl pu ?_)
  obtain ⟨p, hp⟩ : ∃ p, Builtin.Slice.sliceAdjust lo hi k (items.size : Int) = p := ⟨_, rfl⟩
  have e : ((List.range (Builtin.Slice.slicePlaces p.1 p.2 k)).filterMap fun (m : Nat) => items[(p.1 + (m : Int) * k).toNat]?).toArray = (stepT items.toList lo hi k).toArray := by
    unfold stepT
    rw [Array.length_toList, hp]
    simp only [Array.getElem?_toList]
  rw [hp]
  show wpAny _ _ (if (p.1 == 0 && k == 1 && Builtin.Slice.slicePlaces p.1 p.2 k == items.size) = true then _ else _) _ _ s
  rw [if_neg (by simp [hk1]), e]
  first
    | exact wpAny_bind (m := Builtin.Tuple.tupleExact _) (wpAny_newObj_type (wpAny_pure ⟨_, rfl, wpAny_pure h⟩) hfit)
    | exact wpAny_bind (m := Builtin.Tuple.tupleExact _) (wpAny_newObj_type (wpAny_bind (wpAny_pure (wpAny_pure ⟨_, rfl, wpAny_pure h⟩))) hfit)
    | exact wpAny_bind (wpAny_bind (m := Builtin.Tuple.tupleExact _) (wpAny_newObj_type (wpAny_pure (wpAny_pure ⟨_, rfl, wpAny_pure h⟩)) hfit))
    | exact wpAny_bind (wpAny_bind (m := Builtin.Tuple.tupleExact _) (wpAny_newObj_type (wpAny_pure ⟨_, rfl, wpAny_pure h⟩) hfit))
end
section
variable {X : Cx} {cl : Nat → Addr} {W : WX} {e : Expr} {lo hi : Option Expr} {ma : M PyData} {ml mh : M (Option Int)} {p2 pos : Pos}
theorem Vals.step {xs : List V} {its : List Value} (r : Vals xs its) (lo hi : Option Int) (k : Int) : Vals (stepT xs lo hi k) (stepT its lo hi k) := by
  unfold stepT
  rw [r.length]
  generalize (Builtin.Slice.sliceAdjust lo hi k its.length).1 = a
  generalize List.range (Builtin.Slice.slicePlaces a (Builtin.Slice.sliceAdjust lo hi k its.length).2 k) = ms
  induction ms with
  | nil => exact .nil
  | cons m ms ih =>
    rw [List.filterMap_cons, List.filterMap_cons]
    cases h : xs[(a + (m : Int) * k).toNat]? with
    | none =>
      have h2 : its[(a + (m : Int) * k).toNat]? = none := by
        rw [List.getElem?_eq_none_iff] at h ⊢
        rw [← r.length]; exact h
      rw [h2]
      exact ih
    | some x =>
      obtain ⟨u, hu, ru⟩ := r.get h
      rw [hu]
      exact .cons ru ih
theorem FRs.step {K : PySem.W.Frag} {H : Hp} {F : Fs} {ds : List PyData} {vs : List V} (r : FRs K H F ds vs) (lo hi : Option Int) (k : Int) : FRs K H F (stepT ds lo hi k) (stepT vs lo hi k) := by
  unfold stepT
  rw [r.length]
  generalize (Builtin.Slice.sliceAdjust lo hi k vs.length).1 = a
  generalize List.range (Builtin.Slice.slicePlaces a (Builtin.Slice.sliceAdjust lo hi k vs.length).2 k) = ms
  induction ms with
  | nil => exact .nil
  | cons m ms ih =>
    rw [List.filterMap_cons, List.filterMap_cons]
    cases h : ds[(a + (m : Int) * k).toNat]? with
    | none =>
      have h2 : vs[(a + (m : Int) * k).toNat]? = none := by
        rw [List.getElem?_eq_none_iff] at h ⊢
        rw [← r.length]; exact h
      rw [h2]
      exact ih
    | some x =>
      obtain ⟨u, hu, ru⟩ := r.get _ _ h
      rw [hu]
      exact .cons ru ih
def rSlK (K : PySem.W.Frag) : V → Option Int → Option Int → Option Int → Hp → VK → Prop := fun x lo hi st H Q => ∃ a xs k, x = V.ref a ∧ st = some k ∧ k ≠ 0 ∧ k ≠ 1 ∧ SqT K H a xs ∧ (stepT xs lo hi k).length ≤ sizeLine ∧ ∀ p, H p = none → Q (.ref p) (upd H p (.tup (stepT xs lo hi k)))
theorem sl_tupK : SlR3 X (rSlK X.K) := by
  intro pins s σ H x v vl vu vk lo hi st sl Q I rx hs pl pu pk h
  obtain ⟨a, xs, k, rfl, rfl, h0, h1, hx, hz, q⟩ := h
  cases rx
  cases pk with
  | int _ tk =>
    obtain ⟨its, r, p, _⟩ := I.tuple hx
    have ht : s.heap.IsTuple a its.toArray := p
    have rs := Vals.step r lo hi k
    refine ⟨"tuple", _, PyProof.Rows.slot_tuple_getitem.lookup, ht.typeIs, getItem_tuple_k h0 h1 ht hs pl pu ?_ (by rw [← rs.length]; exact hz)⟩
    exact ⟨.ref s.heap.objs.size, _, I.laid (t' := s.toks) (o := .tup (stepT xs lo hi k)) (fun b ob q => Heap.get?_push_of_some _ q) (Nat.le_refl _) ⟨hz, _, rs, ⟨_, Heap.get?_push_size _ rfl, rfl, _, rfl⟩⟩, rfl, q _ (I.hok.fresh (Nat.le_refl _))⟩
def stepD (d : PyData) (lo hi : Option Int) (k : Int) : Option PyData := match d with
  | .tuple l => if (stepT l lo hi k).length ≤ sizeLine then some (.tuple (stepT l lo hi k)) else none
  | _ => none
def mSlK (ma : M PyData) (ml mh : M (Option Int)) (k : Int) : M PyData := do
  let a ← ma
  let l ← ml
  let h ← mh
  lift (stepD a l h k)
theorem de_sliceK {st : Expr} {k : Int} {mk : M PyData} (hk0 : k ≠ 0) (hk1 : k ≠ 1) (h : DE X cl W e ma) (hl : DP X cl W lo ml) (hh : DP X cl W hi mh) (hs : DE X cl W st mk) (hm' : ∀ env, mk env = .ok (.int k) env)
    (hsb : ∀ v r, subscripted (.Slice lo hi (some st) p2) false v r = operate [v, r] (getItem v r) := by intros; with_unfolding_all rfl) : DE X cl W (.Subscript e (.Slice lo hi (some st) p2) pos) (mSlK ma ml mh k) := by
  refine PE.imp (pe_slice3 sl_tupK h hl.run hh.run (dp_some hs).run hsb) fun σ H Q q => ?_
  refine G_bE (rel := relE ⟨X.K, cl⟩) (Q := Q) (k := fun a => do
    let l ← ml
    let h ← mh
    lift (stepD a l h k)) q fun v H1 F1 e1 fp1 d r hd hm => ?_
  refine ⟨F1, e1, fp1, r, ?_⟩
  cases el : ml e1 with
  | bad => rw [bind_bad el] at hm; exact hm
  | exc y e2 => rw [bind_exc el] at hm; exact hm
  | ok l e2 =>
    rw [bind_ok el] at hm
    intro l' H2 F2 fp2 P2 r2 hl2 _ x2
    obtain ⟨rfl, rfl⟩ := hl2
    have hm2 := hm.rebase x2.emp
    have hd2 := hd.ext x2.emp r.fo
    refine ⟨F2, e2, fp2, r2, ?_⟩
    cases eh : mh e2 with
    | bad => rw [bind_bad eh] at hm2; exact hm2
    | exc y e3 => rw [bind_exc eh] at hm2; exact hm2
    | ok u e3 =>
      rw [bind_ok eh] at hm2
      intro u' H3 F3 fp3 P3 r3 hu3 _ x3
      obtain ⟨rfl, rfl⟩ := hu3
      have hm3 := hm2.rebase x3.emp
      have hd3 := hd2.ext x3.emp r2.fo
      refine ⟨F3, e3, fp3, r3, ?_⟩
      have ek : mPart mk e3 = .ok (some k) e3 := by
        unfold mPart
        rw [bind_ok (hm' e3)]
        rfl
      rw [ek]
      intro k' H4 F4 fp4 P4 r4 hk4 _ x4
      obtain ⟨rfl, rfl⟩ := hk4
      have hm4 := hm3.rebase x4.emp
      have hd4 := hd3.ext x4.emp r3.fo
      obtain ⟨c, e, hm5⟩ := post_lift hm4
      cases hd4 with
      | @tup a vs ds fa ha ra =>
        replace e : (if (stepT ds l u k).length ≤ sizeLine then some (PyData.tuple (stepT ds l u k)) else none) = some c := e
        by_cases hz : (stepT ds l u k).length ≤ sizeLine
        · rw [if_pos hz] at e
          cases e
          have rs := FRs.step ra l u k
          exact ⟨a, vs, k, rfl, rfl, hk0, hk1, SqT.of ha, by rw [← rs.length]; exact hz, fun p hp => fin_tup hm5 r4 hp rs⟩
        · rw [if_neg hz] at e; cases e
      | _ => cases e
theorem de_sliceN {st : Nat} {j : Nat} {p3 p4 : Pos} (hk0 : -(st : Int) ≠ 0) (hk1 : -(st : Int) ≠ 1) (h : DE X cl W e ma) (hl : DP X cl W lo ml) (hh : DP X cl W hi mh)
    (hsb : ∀ v r, subscripted (.Slice lo hi (some (.UnaryOp .USub (.Constant (.int st) j p3) p4)) p2) false v r = operate [v, r] (getItem v r) := by intros; with_unfolding_all rfl) : DE X cl W (.Subscript e (.Slice lo hi (some (.UnaryOp .USub (.Constant (.int st) j p3) p4)) p2) pos) (mSlK ma ml mh (-(st : Int))) :=
  de_sliceK hk0 hk1 h hl hh (neg_ok de_int) (fun _ => rfl) hsb
end
abbrev st2 : Int := ((2 : Nat) : Int)
abbrev stN1 : Int := -((1 : Nat) : Int)
end PD

namespace PD
open PySem PySem.Spec PyProof.Rows L2
section
variable {X : Cx} {cl : Nat → Addr} {W : WX} {tg elt : Expr} {scope : Scope} {pos : Pos} {mg : Tgt} {me : M T}
end
end PD

namespace PD
open PySem PySem.Spec PyProof.Rows L2
section
variable {α : Type} {e : Env} {Ψ : Exn → Env → Prop}
@[simp] theorem wp_mLcO {it : M (List PyData)} {tg : Tgt} {tt : M Bool} {me : M T} {vs : List Nat} {Φ : T → Env → Prop} : wp (mLcO it tg tt me vs) e Φ Ψ = wp it e (fun xs e1 => wp (lcEndO tg tt me vs xs) e1 Φ Ψ) Ψ := by unfold mLcO; simp
@[simp] theorem wp_mBinO {f : PyData → PyData → Option PyData} {ma mb : M PyData} {Φ : T → Env → Prop} : wp (mBinO f ma mb) e Φ Ψ = wp ma e (fun a e1 => wp mb e1 (fun b e2 => ∃ d, f a b = some d ∧ ∃ t, ownL d = some t ∧ Φ t e2) Ψ) Ψ := by
  unfold mBinO
  simp only [wp_bind, wp_lift, Option.bind_eq_some_iff]
  congr 1
  funext a e1
  congr 1
  funext b e2
  apply propext
  constructor
  · rintro ⟨t, ⟨d, h1, h2⟩, h3⟩; exact ⟨d, h1, t, h2, h3⟩
  · rintro ⟨d, h1, t, h2, h3⟩; exact ⟨t, ⟨d, h1, h2⟩, h3⟩
theorem wp_lcOP {tg : Tgt} {me : M T} {vs : List Nat} {Φ : T → Env → Prop} (g : PyData → T) (xs : List PyData)
    (h1 : ∀ x, x ∈ xs → ∃ e1, tg x (wipeE e vs) = some e1 ∧ wp me e1 (fun y e3 => y = g x ∧ wipeE e3 vs = wipeE e vs) fun _ _ => False) (hl : xs.length ≤ sizeLine) (hΦ : Φ (.lst (xs.map g)) e) : wp (lcEndO tg (pure true) me vs xs) e Φ Ψ := by
  have hbk : backE e (wipeE e vs) vs = e := by
    funext i
    unfold backE wipeE
    by_cases c : i ∈ vs <;> simp [c]
  have core : ∀ xs : List PyData, (∀ x, x ∈ xs → ∃ e1, tg x (wipeE e vs) = some e1 ∧ wp me e1 (fun y e3 => y = g x ∧ wipeE e3 vs = wipeE e vs) fun _ _ => False) → compL tg (pure true) me vs xs (wipeE e vs) = some (xs.map g, wipeE e vs) := by
    intro xs
    induction xs with
    | nil => intro _; rfl
    | cons x xs ih =>
      intro h
      obtain ⟨e1, h2, h3⟩ := h x List.mem_cons_self
      obtain ⟨y, e3, h4, rfl, h5⟩ := wp_ok h3
      unfold compL
      simp only [h2]
      rw [show (pure true : M Bool) e1 = Res.ok true e1 from rfl]
      simp only [h4, h5, ih fun x hx => h x (List.mem_cons_of_mem _ hx)]
      rfl
  unfold wp lcEndO
  rw [core xs h1]
  show Res.on (if (xs.map g).length ≤ sizeLine then Res.ok (.lst (xs.map g)) (backE e (wipeE e vs) vs) else .bad) Φ Ψ
  rw [if_pos (by rw [List.length_map]; exact hl), hbk]
  exact hΦ
end
def cellsT (tab : List (List Int)) : T := .lst (tab.map fun r => .lst (r.map fun k => T.v (.int k)))
def tabD (tab : List (List Int)) : PyData := .tuple (tab.map fun r => .tuple (r.map .int))
def cell (tab : List (List Int)) (i j : Int) : Int := (tab.getD i.toNat []).getD j.toNat 0
def putT (tab : List (List Int)) (i j k : Int) : List (List Int) := tab.set i.toNat ((tab.getD i.toNat []).set j.toNat k)
structure Sq (n : Nat) (tab : List (List Int)) : Prop where
  len : tab.length = n
  row : ∀ r, r ∈ tab → r.length = n
def zeroT (n : Nat) : List (List Int) := List.replicate n (List.replicate n 0)
theorem zero_sq (n : Nat) : Sq n (zeroT n) := ⟨by simp [zeroT], fun r h => by unfold zeroT at h; rw [List.eq_of_mem_replicate h]; simp⟩
theorem getD_rep {α : Type} {n i : Nat} {x d : α} (h : i < n) : (List.replicate n x).getD i d = x := by
  rw [List.getD_eq_getElem?_getD, List.getElem?_replicate, if_pos h]; rfl
theorem zero_cell {n : Nat} {i j : Int} (h0 : 0 ≤ i) (h1 : i < n) (h2 : 0 ≤ j) (h3 : j < n) : cell (zeroT n) i j = 0 := by
  unfold cell zeroT
  rw [getD_rep (by omega), getD_rep (by omega)]
section
variable {n : Nat} {tab : List (List Int)} {i j k : Int}
theorem Sq.rowAt (h : Sq n tab) (h0 : 0 ≤ i) (h1 : i < n) : ∃ r, tab[i.toNat]? = some r ∧ tab.getD i.toNat [] = r ∧ r ∈ tab ∧ r.length = n := by
  have hl : i.toNat < tab.length := by rw [h.len]; omega
  refine ⟨tab[i.toNat], List.getElem?_eq_getElem hl, ?_, List.getElem_mem hl, h.row _ (List.getElem_mem hl)⟩
  rw [List.getD_eq_getElem?_getD, List.getElem?_eq_getElem hl]; rfl
theorem ixN_nn {n : Nat} {i : Int} (h0 : 0 ≤ i) (h1 : i < n) : L2.ixN n i = some i.toNat := ixN_in h0 h1
theorem at_cells (h : Sq n tab) (h0 : 0 ≤ i) (h1 : i < n) (h2 : 0 ≤ j) (h3 : j < n) : atTT (cellsT tab) i j = some (.int (cell tab i j)) := by
  obtain ⟨r, e1, e2, e3, e4⟩ := h.rowAt h0 h1
  have hj : j.toNat < r.length := by omega
  unfold atTT cellsT L2.atI
  simp only []
  rw [List.length_map, h.len, ixN_nn h0 h1]
  simp only [Option.bind_some, List.getElem?_map, e1, Option.map_some, List.length_map, e4, ixN_nn h2 h3]
  unfold cell
  rw [e2, List.getD_eq_getElem?_getD, List.getElem?_eq_getElem hj]
  rfl
theorem put_cells (h : Sq n tab) (h0 : 0 ≤ i) (h1 : i < n) (h2 : 0 ≤ j) (h3 : j < n) : putTT (cellsT tab) i j (.int k) = some (cellsT (putT tab i j k)) := by
  obtain ⟨r, e1, e2, e3, e4⟩ := h.rowAt h0 h1
  unfold putTT cellsT
  simp only []
  rw [List.length_map, h.len, ixN_nn h0 h1]
  simp only [Option.bind_some, List.getElem?_map, e1, Option.map_some, List.length_map, e4, ixN_nn h2 h3]
  unfold putT
  rw [e2, List.map_set, List.map_set]
theorem Sq.put (h : Sq n tab) (h0 : 0 ≤ i) (h1 : i < n) : Sq n (putT tab i j k) := by
  obtain ⟨r, e1, e2, e3, e4⟩ := h.rowAt h0 h1
  unfold putT
  refine ⟨by rw [List.length_set]; exact h.len, fun q hq => ?_⟩
  rw [e2] at hq
  rcases List.mem_or_eq_of_mem_set hq with hq | hq
  · exact h.row q hq
  · rw [hq, List.length_set]; exact e4
theorem cell_put (h : Sq n tab) (h0 : 0 ≤ i) (h1 : i < n) (h2 : 0 ≤ j) (h3 : j < n) {a b : Int} (g0 : 0 ≤ a) (g1 : a < n) (g2 : 0 ≤ b) (g3 : b < n) : cell (putT tab i j k) a b = if a = i ∧ b = j then k else cell tab a b := by
  obtain ⟨r, e1, e2, e3, e4⟩ := h.rowAt h0 h1
  unfold cell putT
  rw [e2]
  by_cases c : a = i
  · subst c
    have : (tab.set a.toNat (r.set j.toNat k)).getD a.toNat [] = r.set j.toNat k := by
      rw [List.getD_eq_getElem?_getD, List.getElem?_set_self (by rw [h.len]; omega)]; rfl
    rw [this, e2]
    by_cases d : b = j
    · subst d
      rw [if_pos ⟨rfl, rfl⟩, List.getD_eq_getElem?_getD, List.getElem?_set_self (by omega)]; rfl
    · rw [if_neg fun z => d z.2, List.getD_eq_getElem?_getD, List.getElem?_set_ne (by omega), List.getD_eq_getElem?_getD]
  · rw [if_neg fun z => c z.1]
    have : (tab.set i.toNat (r.set j.toNat k)).getD a.toNat [] = tab.getD a.toNat [] := by
      rw [List.getD_eq_getElem?_getD, List.getElem?_set_ne (by omega), List.getD_eq_getElem?_getD]
    rw [this]
end
theorem wp_ixPP {i n1 n2 n : Nat} {e : Env} {tab : List (List Int)} {a b : Int} {Φ : PyData → Env → Prop} {Ψ : Exn → Env → Prop} (h : e i = some (cellsT tab)) (g1 : e n1 = some (.v (.int a))) (g2 : e n2 = some (.v (.int b))) (s : Sq n tab) (h0 : 0 ≤ a) (h1 : a < n) (h2 : 0 ≤ b) (h3 : b < n)
    (q : Φ (.int (cell tab a b)) e) : wp (mIxPP i n1 n2) e Φ Ψ := by
  unfold wp mIxPP intAt
  simp only [h, g1, g2]
  show Res.on (match atTT (cellsT tab) a b with
    | some d => .ok d e
    | none => .bad) Φ Ψ
  rw [at_cells s h0 h1 h2 h3]
  exact q
theorem wp_setPP {i n1 n2 n : Nat} {e : Env} {me : M PyData} {tab : List (List Int)} {a b : Int} {Φ : Fl → Env → Prop} {Ψ : Exn → Env → Prop} (q : wp me e (fun d e1 => ∃ k : Int, d = .int k ∧ e1 i = some (cellsT tab) ∧ e1 n1 = some (.v (.int a)) ∧ e1 n2 = some (.v (.int b)) ∧ Φ .nx (setE e1 i (some (cellsT (putT tab a b k))))) Ψ)
    (s : Sq n tab) (h0 : 0 ≤ a) (h1 : a < n) (h2 : 0 ≤ b) (h3 : b < n) : wp (sSetPP i n1 n2 me) e Φ Ψ := by
  unfold sSetPP
  rw [wp_bind]
  refine wp_mono q ?_
  rintro d e1 ⟨k, rfl, h, g1, g2, q⟩
  unfold wp putPP intAt
  simp only [h, g1, g2]
  show Res.on (match putTT (cellsT tab) a b (.int k) with
    | some t' => .ok .nx (setE e1 i (some t'))
    | none => .bad) Φ Ψ
  rw [put_cells s h0 h1 h2 h3]
  exact q
theorem fz_cells (tab : List (List Int)) : T.fz (cellsT tab) = some (.list (tab.map fun r => .list (r.map .int))) := by
  have h : ∀ r : List Int, T.fz (.lst (r.map fun k => T.v (.int k))) = some (.list (r.map .int)) := fun r => by
    rw [fz_lst]
    have := fzs_v (r.map PyData.int)
    rw [List.map_map] at this
    rw [show (r.map fun k => T.v (.int k)) = r.map (T.v ∘ PyData.int) from rfl, this]
    rfl
  have h2 : ∀ tab : List (List Int), T.fzs (tab.map fun r => .lst (r.map fun k => T.v (.int k))) = some (tab.map fun r => .list (r.map .int)) := fun tab => by
    induction tab with
    | nil => rw [List.map_nil, T.fzs]; rfl
    | cons r tab ih => rw [List.map_cons, T.fzs, h, ih]; rfl
  unfold cellsT
  rw [fz_lst, h2]
  rfl
theorem tupleF_list {ds : List PyData} : tupleF [.list ds] = some (.tuple ds) := rfl
theorem wp_rowsOut {c x : Nat} {e : Env} {tab : List (List Int)} {Φ : PyData → Env → Prop} {Ψ : Exn → Env → Prop} (hcx : c ≠ x) (h : e c = some (cellsT tab)) (hl : tab.length ≤ 1000) (q : Φ (tabD tab) (setE e c (some (.v (.list (tab.map fun r => .list (r.map .int))))))) :
    wp (mArgs tupleF (aCons (mLc (mI seqOf (mVar c)) (gNm x) (pure true) (mArgs tupleF (aCons (mVar x) aNil)) [x]) aNil)) e Φ Ψ := by
  have e0 : e c = some (.lst (tab.map fun r => .lst (r.map fun k => T.v (.int k)))) := h
  have fz := fz_cells tab
  simp only [wp_mArgs, wp_aCons, wp_aNil, wp_mLc, wp_mI, wp_mVar, e0, onVar_lst]
  refine ⟨_, fz, _, rfl, ?_⟩
  refine wp_lcP (fun _ => true) (fun d => match d with
    | .list l => .tuple l
    | d => d) _ (fun y hy => ?_) (by rw [List.length_map]; exact size_le hl) ?_
  · obtain ⟨r, _, rfl⟩ := List.mem_map.mp hy
    refine ⟨_, rfl, ?_⟩
    simp only [wp_pure]
    refine ⟨trivial, fun _ => ?_, fun z => nomatch z⟩
    simp only [wp_mArgs, wp_aCons, wp_aNil, wp_mVar, setE_at, if_true, onVar_v]
    refine ⟨_, tupleF_list, rfl, ?_⟩
    funext k
    unfold wipeE setE
    by_cases c : k = x <;> simp [c]
  · refine ⟨_, tupleF_list, ?_⟩
    have : List.map (fun d => match d with
      | PyData.list l => PyData.tuple l
      | d => d) (List.filter (fun _ => true) (tab.map fun r => PyData.list (r.map .int))) = tab.map fun r => .tuple (r.map .int) := by
      rw [List.filter_eq_self.mpr (fun _ _ => rfl), List.map_map]
      rfl
    rw [this]
    exact q
theorem wp_zeros {x i : Nat} {n : Nat} {e : Env} {m : Cl} {Φ : T → Env → Prop} {Ψ : Exn → Env → Prop} (hx : x ≠ i) (h : e i = some (.v (ruleD n m))) (n0 : n ≤ 1000) (q : Φ (cellsT (zeroT n)) e) :
    wp (mLcO (mIA rng1 (aCons (mBin ixD (mVar i) (mC (.int 0))) aNil)) (gNm x) (pure true) (mBinO lstMul (mArgs lstF (aCons (mC (.int 0)) aNil)) (mBin ixD (mVar i) (mC (.int 0)))) [x]) e Φ Ψ := by
  simp only [wp_mLcO, wp_mIA, wp_aCons, wp_aNil, wp_mBin, wp_mVar, h, onVar_v, wp_mC]
  refine ⟨_, rfl, _, rng1_n n0, ?_⟩
  refine wp_lcOP (fun _ => .lst ((List.replicate n 0).map fun k => T.v (.int k))) _ (fun y hy => ?_) (by simp [intsD]; exact size_le n0) ?_
  · refine ⟨_, rfl, ?_⟩
    have h' : ¬ (i = x) := fun z => hx z.symm
    simp only [wp_mBinO, wp_mArgs, wp_aCons, wp_aNil, wp_mC, wp_mBin, wp_mVar, setE_at]
    rw [if_neg h']
    have hw : wipeE e [x] i = some (.v (ruleD n m)) := by unfold wipeE; rw [if_neg (by simpa using h')]; exact h
    rw [hw]
    simp only [onVar_v]
    refine ⟨_, rfl, _, rfl, ?_⟩
    have e1 : lstMul (.list [.int 0]) (.int (n : Int)) = some (.list ((List.replicate n 0).map .int)) := by
      unfold lstMul
      simp only []
      rw [if_pos ⟨by omega, by omega, by simp; exact size_le n0⟩]
      simp
    refine ⟨_, e1, _, rfl, ?_, ?_⟩
    · first | rfl | (rw [List.map_map]; rfl)
    · funext k
      unfold wipeE setE
      by_cases c : k = x <;> simp [c]
  · have : (intsD 0 n).map (fun _ => T.lst ((List.replicate n 0).map fun k => T.v (.int k))) = (zeroT n).map fun r => T.lst (r.map fun k => T.v (.int k)) := by
      unfold intsD zeroT
      rw [List.map_map, List.map_replicate (n := n) (a := List.replicate n (0 : Int))]
      have : ∀ (l : List Nat) (t : T), l.map (fun _ => t) = List.replicate l.length t := fun l t => by
        induction l with
        | nil => rfl
        | cons a l ih => rw [List.map_cons, ih]; rfl
      have h2 := this (List.range n) (T.lst ((List.replicate n (0 : Int)).map fun k => T.v (.int k)))
      rw [List.length_range] at h2
      exact h2
    rw [this]
    exact q
theorem mem_rng {n : Nat} {m : Cl} {k : Int × Int} (hm : RowOk n 100 200 m) (h : k ∈ m.map (·.1)) : 0 ≤ k.1 ∧ k.1 < n ∧ 0 ≤ k.2 ∧ k.2 < n := by
  obtain ⟨p, hp, rfl⟩ := List.mem_map.mp h
  exact hm.rng p hp
theorem comp_all {β : Type} {α : Type} {tg : Tgt} {tt : M Bool} {me : M α} {vs : List Nat} {f : β → PyData} {E : Env} (p : β → Bool) (g : β → α) : ∀ (S : List β), (∀ q, q ∈ S → ∃ e', tg (f q) E = some e' ∧ wipeE e' vs = E ∧ Gives tt e' (p q) (fun _ _ => False) ∧ (p q = true → Gives me e' (g q) fun _ _ => False)) →
    compL tg tt me vs (S.map f) E = some ((S.filter p).map g, E)
  | [], _ => rfl
  | q :: S, h => by
    obtain ⟨e', h1, h2, h3, h4⟩ := h q List.mem_cons_self
    have ih := comp_all p g S fun x hx => h x (List.mem_cons_of_mem _ hx)
    rw [List.map_cons]
    unfold compL
    simp only [h1]
    rw [h3.eq]
    cases c : p q with
    | false =>
      rw [List.filter_cons, if_neg (by rw [c]; exact Bool.false_ne_true)]
      simp only [h2]
      exact ih
    | true =>
      rw [List.filter_cons, if_pos c, List.map_cons]
      simp only []
      rw [(h4 c).eq]
      simp only [h2, ih]
      rfl
section
variable {β : Type} {e : Env} {Ψ : Exn → Env → Prop}
theorem back_wipe {vs : List Nat} : backE e (wipeE e vs) vs = e := by
  funext i
  unfold backE wipeE
  by_cases c : i ∈ vs <;> simp [c]
theorem g_itG {tg : Tgt} {tt : M Bool} {me : M PyData} {vs : List Nat} {it : M (List PyData)} {f : β → PyData} {S : List β} (p : β → Bool) (g : β → PyData) (h : Gives it e (S.map f) Ψ) (hl : S.length ≤ 1000)
    (hx : ∀ q, q ∈ S → ∃ e', tg (f q) (wipeE e vs) = some e' ∧ wipeE e' vs = wipeE e vs ∧ Gives tt e' (p q) (fun _ _ => False) ∧ (p q = true → Gives me e' (g q) fun _ _ => False)) : Gives (mLc it tg tt me vs) e (.list ((S.filter p).map g)) Ψ := by
  unfold Gives
  rw [wp_mLc]
  refine h.wp ?_
  unfold wp lcEnd
  rw [comp_all p g S hx]
  show Res.on (if ((S.filter p).map g).length ≤ sizeLine then Res.ok (PyData.list ((S.filter p).map g)) (backE e (wipeE e vs) vs) else .bad) _ Ψ
  rw [if_pos (by rw [List.length_map]; exact size_le (Nat.le_trans (List.length_filter_le _ _) hl)), back_wipe]
  exact ⟨rfl, rfl⟩
theorem g_it1 {a : Nat} {me : M PyData} {it : M (List PyData)} {f : β → PyData} {S : List β} (g : β → PyData) (h : Gives it e (S.map f) Ψ) (hl : S.length ≤ 1000)
    (hx : ∀ q e', q ∈ S → e' a = some (.v (f q)) → (∀ j, j ≠ a → e' j = e j) → Gives me e' (g q) fun _ _ => False) : Gives (mLc it (gNm a) (pure true) me [a]) e (.list (S.map g)) Ψ := by
  have := g_itG (tg := gNm a) (tt := pure true) (me := me) (vs := [a]) (f := f) (fun _ => true) g h hl fun q hq => ⟨_, rfl, by rw [wipe_setE (by simp), wipe_wipe], ⟨rfl, rfl⟩, fun _ => hx q _ hq (by simp) fun j hj => by simp [hj, wipeE]⟩
  rw [List.filter_eq_self.mpr (fun _ _ => rfl)] at this
  exact this
theorem g_it1t {a : Nat} {tt : M Bool} {me : M PyData} {it : M (List PyData)} {f : β → PyData} {S : List β} (p : β → Bool) (g : β → PyData) (h : Gives it e (S.map f) Ψ) (hl : S.length ≤ 1000)
    (hx : ∀ q e', q ∈ S → e' a = some (.v (f q)) → (∀ j, j ≠ a → e' j = e j) → Gives tt e' (p q) (fun _ _ => False) ∧ (p q = true → Gives me e' (g q) fun _ _ => False)) : Gives (mLc it (gNm a) tt me [a]) e (.list ((S.filter p).map g)) Ψ :=
  g_itG p g h hl fun q hq => (let ⟨h1, h2⟩ := hx q (setE (wipeE e [a]) a (some (.v (f q)))) hq (by simp) (fun j hj => by simp [hj, wipeE]); ⟨_, rfl, by rw [wipe_setE (by simp), wipe_wipe], h1, h2⟩)
theorem g_it2 {a b : Nat} {me : M PyData} {it : M (List PyData)} {f1 f2 : β → PyData} {S : List β} (g : β → PyData) (hab : a ≠ b) (h : Gives it e (S.map fun q => .tuple [f1 q, f2 q]) Ψ) (hl : S.length ≤ 1000)
    (hx : ∀ q e', q ∈ S → e' a = some (.v (f1 q)) → e' b = some (.v (f2 q)) → (∀ j, j ≠ a → j ≠ b → e' j = e j) → Gives me e' (g q) fun _ _ => False) : Gives (mLc it (gTp 2 (gCo (gNm a) (gCo (gNm b) gNo))) (pure true) me [a, b]) e (.list (S.map g)) Ψ := by
  have := g_itG (tg := gTp 2 (gCo (gNm a) (gCo (gNm b) gNo))) (tt := pure true) (me := me) (vs := [a, b]) (f := fun q => .tuple [f1 q, f2 q]) (fun _ => true) g h hl fun q hq =>
    ⟨setE (setE (wipeE e [a, b]) a (some (.v (f1 q)))) b (some (.v (f2 q))), rfl, by rw [wipe_setE (by simp), wipe_setE (by simp), wipe_wipe], ⟨rfl, rfl⟩, fun _ => hx q _ hq (by simp [hab]) (by simp) fun j hj hj2 => by simp [hj, hj2, wipeE]⟩
  rw [List.filter_eq_self.mpr (fun _ _ => rfl)] at this
  exact this
theorem g_mI {ma : M PyData} {d : PyData} {xs : List PyData} (h : Gives ma e d Ψ) (hd : seqOf d = some xs) : Gives (mI seqOf ma) e xs Ψ := by
  unfold Gives
  rw [wp_mI]
  exact h.wp ⟨xs, hd, rfl, rfl⟩
theorem g_rng {ma : M PyData} {n : Nat} (h : Gives ma e (.int n) Ψ) (n0 : n ≤ 1000) : Gives (mIA rng1 (aCons ma aNil)) e ((rgI n).map .int) Ψ := by
  unfold Gives
  simp only [wp_mIA, wp_aCons, wp_aNil]
  exact h.wp ⟨_, rng1_n n0, intsD_rg n, rfl⟩
theorem g_tupleF {ma : M PyData} {xs : List PyData} (h : Gives ma e (.list xs) Ψ) : Gives (mArgs tupleF (aCons ma aNil)) e (.tuple xs) Ψ := by
  unfold Gives
  simp only [wp_mArgs, wp_aCons, wp_aNil]
  exact h.wp ⟨_, rfl, rfl, rfl⟩
theorem g_len {ma : M PyData} {d : PyData} {n : Nat} (h : Gives ma e d Ψ) (hl : lenD d = some (.int n)) : Gives (mLen (mFr ma)) e (.int n) Ψ := by
  unfold Gives
  simp only [wp_mLen, wp_mFr]
  exact h.wp ⟨d, rfl, _, hl, rfl, rfl⟩
theorem g_ixV {ma mb : M PyData} {d c : PyData} {i : Int} (ha : Gives ma e d Ψ) (hb : Gives mb e (.int i) Ψ) (h : ixD d (.int i) = some c) : Gives (mBin ixD ma mb) e c Ψ := by
  unfold Gives
  rw [wp_mBin]
  exact ha.wp (hb.wp ⟨c, h, rfl, rfl⟩)
theorem g_tupF2 {ma mb : M PyData} {a b : PyData} (ha : Gives ma e a Ψ) (hb : Gives mb e b Ψ) : Gives (mArgs tupF (aCons ma (aCons mb aNil))) e (.tuple [a, b]) Ψ := by
  unfold Gives
  simp only [wp_mArgs, wp_aCons, wp_aNil]
  exact ha.wp (hb.wp ⟨_, tupF_small.trans (if_pos (by show 2 ≤ sizeLine; decide)), rfl, rfl⟩)
end
theorem ix_row {r : List Int} {j : Int} (h0 : 0 ≤ j) (h1 : j < r.length) : ixD (.tuple (r.map .int)) (.int j) = some (.int (r.getD j.toNat 0)) := by
  rw [ixD_tup]
  unfold L2.atI
  rw [List.length_map, ixN_in h0 h1]
  simp only [Option.bind_some, List.getElem?_map]
  rw [List.getElem?_eq_getElem (by omega), List.getD_eq_getElem?_getD, List.getElem?_eq_getElem (by omega)]
  rfl
end PD

namespace PD
open PySem PySem.Spec PyProof.Rows L2
noncomputable def m_price_of : M Fl :=
  (sSeq (sFor (mI seqOf (mBin ixD (mVar 0) (mC (.int 1)))) (gTp 3 (gCo (gNm 3) (gCo (gNm 4) (gCo (gNm 5) gNo))))
    (sIf (mCmp eqD (mFr (mArgs tupF (aCons (mVar 3) (aCons (mVar 4) aNil)))) (mFr (mArgs tupF (aCons (mVar 1) (aCons (mVar 2) aNil)))))
    (sRet (mVar 5))
    sNil))
    (sRet (mC .none)))
noncomputable def m_is_allowed : M Fl :=
  (sRet (mB (mCmp isNot (mFr (mFz (mCall (lent []) 3 m_price_of (oCons (mFr (mVar 0)) (oCons (mFr (mVar 1)) (oCons (mFr (mVar 2)) oNil)))))) (mFr (mC .none)))))
section
variable {e : Env} {Ψ : Exn → Env → Prop}
theorem g_andV {ma mb : M PyData} {a : Bool} {b : PyData} (ha : Gives ma e (.bool a) Ψ) (hb : a = true → Gives mb e b Ψ) : Gives (mAndV ma mb) e (if a = true then b else .bool false) Ψ := by
  unfold Gives mAndV
  rw [wp_bind]
  refine ha.wp ?_
  cases a with
  | true => rw [if_pos rfl]; exact hb rfl
  | false => exact ⟨rfl, rfl⟩
theorem g_andB {ma mb : M PyData} {a b : Bool} (ha : Gives ma e (.bool a) Ψ) (hb : a = true → Gives mb e (.bool b) Ψ) : Gives (mAndV ma mb) e (.bool (a && b)) Ψ := by
  have := g_andV ha hb
  cases a <;> exact this
theorem g_mB {mb : M Bool} {b : Bool} (h : Gives mb e b Ψ) : Gives (mB mb) e (.bool b) Ψ := by
  unfold Gives
  rw [wp_mB]
  exact h.wp ⟨rfl, rfl⟩
theorem g_notT {mb : M Bool} {b : Bool} (h : Gives mb e b Ψ) : Gives (mNot mb) e (!b) Ψ := by
  unfold Gives
  rw [wp_mNot]
  exact h.wp ⟨rfl, rfl⟩
theorem g_tru {ma : M PyData} {b : Bool} (h : Gives ma e (.bool b) Ψ) : Gives (mTru (mFr ma)) e b Ψ := by
  unfold Gives
  simp only [wp_mTru, wp_mFr]
  exact h.wp ⟨_, rfl, _, truD_bool, rfl, rfl⟩
theorem g_orT {ma mb : M Bool} {a b : Bool} (ha : Gives ma e a Ψ) (hb : a = false → Gives mb e b Ψ) : Gives (mOr ma mb) e (a || b) Ψ := by
  unfold Gives
  rw [wp_mOr]
  refine ha.wp ?_
  cases a with
  | true => exact ⟨rfl, rfl⟩
  | false => rw [if_neg Bool.false_ne_true]; exact hb rfl
end
theorem eqv_pair (a b : Int × Int) : PyData.eqv (pairD a) (pairD b) = decide (a = b) := by
  unfold pairD
  simp only [PyData.eqv, PyData.eqvAll, Bool.and_true]
  by_cases c : a = b
  · subst c; simp
  · have : ¬ (a.1 = b.1 ∧ a.2 = b.2) := fun z => c (Prod.ext z.1 z.2)
    simp [c]
    intro h
    exact fun z => this ⟨h, z⟩
theorem shaped_pair (a : Int × Int) : SeqAt.shaped (pairD a) = true := rfl
theorem lay_pairs : ∀ S : List (Int × Int), PyData.canLayAll0 (S.map pairD) = true
  | [] => rfl
  | q :: S => by rw [List.map_cons, PyData.canLayAll0, lay_pairs S]; rfl
theorem depth_pairs : ∀ S : List (Int × Int), PyData.depthAll (S.map pairD) ≤ 2
  | [] => by simp [PyData.depthAll]
  | q :: S => by
    have h := depth_pairs S
    have : (pairD q).depth ≤ 2 := by unfold pairD; simp [PyData.depth, PyData.depthAll]
    rw [List.map_cons, PyData.depthAll]
    omega
theorem shaped_pairsT (S : List (Int × Int)) : SeqAt.shaped (.tuple (S.map pairD)) = true := by
  unfold SeqAt.shaped
  have := depth_pairs S
  rw [PyData.canLay0, lay_pairs, PyData.depth]
  simp
  omega
theorem shaped_pairsL (S : List (Int × Int)) : SeqAt.shaped (.list (S.map pairD)) = true := by
  unfold SeqAt.shaped
  have := depth_pairs S
  rw [PyData.canLay0, lay_pairs, PyData.depth]
  simp
  omega
theorem eqD_of {a b : PyData} (ha : SeqAt.shaped a = true) (hb : SeqAt.shaped b = true) (h : eqS a b = none) : eqD a b = some (PyData.eqv a b) := by
  unfold eqD eqSh
  rw [h, ha, hb]
  rfl
theorem eqD_pair (a b : Int × Int) : eqD (pairD a) (pairD b) = some (decide (a = b)) := by rw [eqD_of (shaped_pair a) (shaped_pair b) rfl, eqv_pair]
def priceD (m : Cl) (k : Int × Int) : PyData := (pairOf k m).getD .none
theorem price_of_spec {n : Nat} {m : Cl} {i j : Int} (e : Env) (h : e 0 = some (.v (ruleD n m))) (h1 : e 1 = some (.v (.int i))) (h2 : e 2 = some (.v (.int j))) : wp m_price_of e (fun x _ => x = .rt (.v (priceD m (i, j)))) fun _ _ => False := by
  unfold m_price_of
  refine wp_seqK (fun _ => pairOf (i, j) m = none) ?_ fun e1 hn => ?_
  · rw [wp_sFor, wp_mI]
    refine (g_ix (g_var h) (c := .tuple (m.map triD)) rfl).wp ⟨_, rfl, ?_⟩
    refine wp_forL (fun xs e => ∃ R : Cl, xs = R.map triD ∧ e 1 = some (.v (.int i)) ∧ e 2 = some (.v (.int j)) ∧ pairOf (i, j) R = pairOf (i, j) m) _ ⟨m, rfl, h1, h2, rfl⟩ ?_ ?_
    · rintro e ⟨R, hx, _, _, hp⟩
      have : R = [] := by simpa using hx.symm
      subst this
      exact hp.symm
    · rintro x xs e ⟨R, hx, k1, k2, hp⟩
      cases R with
      | nil => simp at hx
      | cons p R =>
        rw [List.map_cons] at hx
        injection hx with hx hxs
        subst hx hxs
        refine ⟨setE (setE (setE e 3 (some (.v (.int p.1.1)))) 4 (some (.v (.int p.1.2)))) 5 (some (.v (.int p.2))), rfl, ?_⟩
        rw [wp_sIf]
        refine (g_cmpI (c := decide (p.1 = (i, j))) (g_tup2 (a := p.1.1) (b := p.1.2) (g_var (by simp)) (g_var (by simp))) (g_tup2 (a := i) (b := j) (g_var (by simpa using k1)) (g_var (by simpa using k2))) (eqD_pair p.1 (i, j))).wp ?_
        by_cases c : p.1 = (i, j)
        · rw [if_pos (by simpa using c)]
          simp only [wp_sRet, wp_mVar, setE_at]
          show Fl.rt (.v (.int p.2)) = _
          unfold priceD
          rw [← hp]
          unfold pairOf
          rw [List.find?_cons, show decide (p.1 = (i, j)) = true by simpa using c]
          rfl
        · rw [if_neg (by simpa using c), wp_sNil]
          refine ⟨R, rfl, by simpa using k1, by simpa using k2, ?_⟩
          rw [← hp]
          unfold pairOf
          rw [List.find?_cons, show decide (p.1 = (i, j)) = false by simpa using c]
  · simp only [wp_sRet, wp_mC]
    unfold priceD
    rw [hn]
    rfl
theorem is_allowed_spec {n : Nat} {m : Cl} {i j : Int} (e : Env) (h : e 0 = some (.v (ruleD n m))) (h1 : e 1 = some (.v (.int i))) (h2 : e 2 = some (.v (.int j))) : wp m_is_allowed e (fun x _ => x = .rt (.v (.bool (hasK m (i, j))))) fun _ _ => False := by
  unfold m_is_allowed
  simp only [wp_sRet]
  refine (g_mB (g_cmpI (f := isNot) (c := hasK m (i, j)) (g_c3 (g_var h) (g_var h1) (g_var h2) fun e a b c => price_of_spec e a b c) g_none ?_)).wp rfl
  rw [← pairOf_some]
  unfold priceD isNot pairOf
  cases m.find? fun p => decide (p.1 = (i, j)) with
  | none => rfl
  | some p => rfl
theorem boolsOf_map (l : List Bool) : boolsOf (l.map .bool) = some l := by
  induction l with
  | nil => rfl
  | cons i l ih =>
    show (boolsOf (l.map .bool)).map _ = _
    rw [ih]; rfl
theorem g_allF {e : Env} {Ψ : Exn → Env → Prop} {ma : M PyData} {l : List Bool} (h : Gives ma e (.list (l.map .bool)) Ψ) : Gives (mArgs allF (aCons ma aNil)) e (.bool (l.all id)) Ψ := by
  unfold Gives
  simp only [wp_mArgs, wp_aCons, wp_aNil]
  refine h.wp ⟨.bool (l.all id), ?_, rfl, rfl⟩
  show (boolsOf (l.map .bool)).map _ = _
  rw [boolsOf_map]; rfl
def rm (f : Int × Int) (S : List (Int × Int)) : List (Int × Int) := S.filter fun q => !decide (q = f)
def keysC (m : Cl) : List (Int × Int) := m.map (·.1)
theorem cut_drop (S : List (Int × Int)) (i : Nat) : cutD (S.map pairD) (some (i : Int)) none = (S.drop i).map pairD := by
  unfold cutD
  rw [HT.sIx_nat, HT.sIx_none, List.length_map, List.take_of_length_le, List.map_drop]
  · rcases Nat.le_total i S.length with c | c
    · rw [Nat.min_eq_left c]
    · rw [Nat.min_eq_right c, List.drop_eq_nil_of_le (by rw [List.length_map]; exact Nat.le_refl _), List.drop_eq_nil_of_le (by rw [List.length_map]; exact c)]
  · rw [List.length_drop, List.length_map]; exact Nat.le_refl _
end PD

namespace PD
open PySem PySem.Spec PyProof.Rows L2
section
variable {X : Cx} {cl : Nat → Addr} {B : Nat → Bool}
end
end PD

namespace PD
open PySem PySem.Spec PyProof.Rows L2
def minI (a b : Int) : Int := if b < a then b else a
def intsT (l : List Int) : T := .lst (l.map fun k => T.v (.int k))
def InN (n : Nat) (q : Int × Int) : Prop := 0 ≤ q.1 ∧ q.1 < n ∧ 0 ≤ q.2 ∧ q.2 < n
theorem listF_tup {l : List PyData} : listF [.tuple l] = some (.list l) := rfl
theorem own_ints (l : List Int) : ownL (.list (l.map .int)) = some (intsT l) := by
  show some (T.lst (List.map T.v (l.map PyData.int))) = _
  rw [List.map_map]; rfl
end PD

namespace PD
open PySem PySem.Spec PyProof.Rows L2
theorem neD_same (s : PySem.Str) : neD (.str s) (.str s) = some false := by
  show (eqD _ _).map not = _
  unfold eqD eqS
  simp
end PD

namespace PD
open PySem PySem.Spec PyProof.Rows L2
section
variable {n : Nat} {tab : List (List Int)}
end
section
variable {n : Nat} {m : Cl} {tab : List (List Int)} {s : Int × Int} {X : List Int}
variable {most L : Int}
end
theorem addD_tup {a b : List PyData} (h : a.length + b.length ≤ 1000) : addD (.tuple a) (.tuple b) = some (.tuple (a ++ b)) := by
  have ht : tupAdd (.tuple a) (.tuple b) = some (.tuple (a ++ b)) := by
    show (if a.length + b.length ≤ sizeLine then some (PyData.tuple (a ++ b)) else none) = _
    rw [if_pos (size_le h)]
  unfold addD
  rw [ht]
  rfl
theorem addD_lst {a b : List PyData} (h : a.length + b.length ≤ 1000) : addD (.list a) (.list b) = some (.list (a ++ b)) := by
  have ht : lstAdd (.list a) (.list b) = some (.list (a ++ b)) := by
    show (if a.length + b.length ≤ sizeLine then some (PyData.list (a ++ b)) else none) = _
    rw [if_pos (size_le h)]
  unfold addD
  rw [ht]
  rfl
theorem g_addT {e : Env} {Ψ : Exn → Env → Prop} {ma mb : M PyData} {a b : List PyData} (ha : Gives ma e (.tuple a) Ψ) (hb : Gives mb e (.tuple b) Ψ) (h : a.length + b.length ≤ 1000) : Gives (mBin addD ma mb) e (.tuple (a ++ b)) Ψ := by
  unfold Gives
  rw [wp_mBin]
  exact ha.wp (hb.wp ⟨_, addD_tup h, rfl, rfl⟩)
theorem g_sub {e : Env} {Ψ : Exn → Env → Prop} {ma mb : M PyData} {a b : Int} (ha : Gives ma e (.int a) Ψ) (hb : Gives mb e (.int b) Ψ) : Gives (mBin subI ma mb) e (.int (a - b)) Ψ := by
  unfold Gives
  rw [wp_mBin]
  exact ha.wp (hb.wp ⟨_, rfl, rfl, rfl⟩)
section
variable {n : Nat} {m : Cl} {R C X : List Int} {s : Int × Int}
end
section
variable {e : Env} {Ψ : Exn → Env → Prop}
def GivesP (m : M (Option Int)) (e : Env) (l : Option Int) (Ψ : Exn → Env → Prop) : Prop := wp m e (fun x e' => x = l ∧ e' = e) Ψ
theorem gp_no : GivesP mNo e none Ψ := by unfold GivesP; rw [wp_mNo]; exact ⟨rfl, rfl⟩
theorem gp_part {ma : M PyData} {i : Int} (h : Gives ma e (.int i) Ψ) : GivesP (mPart ma) e (some i) Ψ := by
  unfold GivesP
  rw [wp_mPart]
  exact h.wp ⟨i, rfl, rfl, rfl⟩
theorem g_sl {ma : M PyData} {ml mh : M (Option Int)} {xs : List PyData} {l h : Option Int} (ha : Gives ma e (.tuple xs) Ψ) (hl : GivesP ml e l Ψ) (hh : GivesP mh e h Ψ) : Gives (mSl ma ml mh) e (.tuple (cutD xs l h)) Ψ := by
  unfold Gives
  rw [wp_mSl]
  refine ha.wp (wp_mono hl ?_)
  rintro _ _ ⟨rfl, rfl⟩
  refine wp_mono hh ?_
  rintro _ _ ⟨rfl, rfl⟩
  exact ⟨_, rfl, rfl, rfl⟩
inductive GsA (e : Env) (Ψ : Exn → Env → Prop) : M (List PyData) → List PyData → Prop
  | nil : GsA e Ψ aNil []
  | cons {ma : M PyData} {mr : M (List PyData)} {d : PyData} {ds : List PyData} : Gives ma e d Ψ → GsA e Ψ mr ds → GsA e Ψ (aCons ma mr) (d :: ds)
theorem GsA.wp {mr : M (List PyData)} {ds : List PyData} (h : GsA e Ψ mr ds) : ∀ {Φ : List PyData → Env → Prop}, Φ ds e → PD.wp mr e Φ Ψ := by
  induction h with
  | nil => intro Φ q; rw [wp_aNil]; exact q
  | cons ha _ ih =>
    intro Φ q
    rw [wp_aCons]
    exact ha.wp (ih q)
theorem g_tupA {mr : M (List PyData)} {ds : List PyData} (h : GsA e Ψ mr ds) (hl : ds.length ≤ 1000) : Gives (mArgs tupF mr) e (.tuple ds) Ψ := by
  unfold Gives
  rw [wp_mArgs]
  exact h.wp ⟨_, tupF_small.trans (if_pos (size_le hl)), rfl, rfl⟩
theorem g_lstA {mr : M (List PyData)} {ds : List PyData} (h : GsA e Ψ mr ds) (hl : ds.length ≤ 1000) : Gives (mArgs lstF mr) e (.list ds) Ψ := by
  unfold Gives
  rw [wp_mArgs]
  exact h.wp ⟨_, lstF_small.trans (if_pos (size_le hl)), rfl, rfl⟩
end
end PD

namespace PD
open PySem PySem.Spec PyProof.Rows L2
end PD
namespace PD
open PySem PySem.Spec PyProof.Rows L2
end PD

namespace PD
open PySem PySem.Spec PyProof.Rows L2
end PD

namespace PD
open PySem PySem.Spec PyProof.Rows L2
noncomputable def m__law_goes_on : M Fl :=
  (sRet (mLc (mIA zip2F (aCons (mVar 0) (aCons (mBin addD (mSl (mVar 0) (mPart (mC (.int 1))) mNo) (mSl (mVar 0) mNo (mPart (mC (.int 1))))) aNil))) (gTp 2 (gCo (gNm 1) (gCo (gNm 2) gNo))) (pure true) (mArgs tupF (aCons (mBin ixD (mVar 1) (mC (.int 0))) (aCons (mBin ixD (mVar 2) (mC (.int 1))) aNil))) [1, 2]))
noncomputable def m__law_turned : M Fl :=
  (sSeq (sIf (mCmp neD (mFr (mLc (mI seqOf (mVar 1)) (gTp 2 (gCo (gNm 4) (gCo (gNm 5) gNo))) (mCmp ltD (mFr (mBin ixD (mBin ixD (mVar 0) (mVar 4)) (mVar 5))) (mFr (mVar 2))) (mC (.int 1)) [4, 5])) (mFr (mArgs lstF aNil)))
    (sRet (mC .none))
    sNil)
    (sSeq (sSetO 3 (mLcO (mI seqOf (mVar 0)) (gNm 6) (pure true) (mUnO (fun d => listF [d]) (mVar 6)) [6]))
    (sSeq (sFor (mI seqOf (mVar 1)) (gTp 2 (gCo (gNm 4) (gCo (gNm 5) gNo)))
    (sSetPP 3 4 5 (mBin subI (mIxPP 3 4 5) (mVar 2))))
    (sSeq (sFor (mI seqOf (mFz (mCall (lent []) 1 m__law_goes_on (oCons (mFr (mVar 1)) oNil)))) (gTp 2 (gCo (gNm 4) (gCo (gNm 5) gNo)))
    (sSetPP 3 4 5 (mBin addD (mIxPP 3 4 5) (mVar 2))))
    (sRet (mArgs tupleF (aCons (mLc (mI seqOf (mVar 3)) (gNm 6) (pure true) (mArgs tupleF (aCons (mVar 6) aNil)) [6]) aNil)))))))
def mnF : List (Int × Int) → Int
  | [] => 0
  | q :: S => (S.map (·.1)).foldl (fun a b => if b < a then b else a) q.1
theorem foldMn : ∀ (l : List Int) (x : Int), (l.foldl (fun a b => if b < a then b else a) x) ∈ x :: l ∧ ∀ y, y ∈ x :: l → (l.foldl (fun a b => if b < a then b else a) x) ≤ y
  | [], x => ⟨List.mem_cons_self, fun y hy => by rw [List.mem_singleton] at hy; rw [hy]; exact Int.le_refl _⟩
  | b :: l, x => by
    rw [List.foldl_cons]
    obtain ⟨h1, h2⟩ := foldMn l (if b < x then b else x)
    refine ⟨?_, fun y hy => ?_⟩
    · rcases List.mem_cons.mp h1 with q | q
      · rw [q]; split <;> simp
      · exact List.mem_cons_of_mem _ (List.mem_cons_of_mem _ q)
    · have h3 := h2 _ List.mem_cons_self
      rcases List.mem_cons.mp hy with q | q
      · rw [q]; exact Int.le_trans h3 (by split <;> omega)
      · rcases List.mem_cons.mp q with q | q
        · rw [q]; exact Int.le_trans h3 (by split <;> omega)
        · exact h2 y (List.mem_cons_of_mem _ q)
theorem mnF_ok {S : List (Int × Int)} (h : S ≠ []) : mnF S ∈ S.map (·.1) ∧ ∀ q, q ∈ S → mnF S ≤ q.1 := by
  cases S with
  | nil => exact absurd rfl h
  | cons q S =>
    obtain ⟨h1, h2⟩ := foldMn (S.map (·.1)) q.1
    exact ⟨h1, fun r hr => h2 _ (by
      rw [← List.map_cons (f := fun q : Int × Int => q.1)]
      exact List.mem_map.mpr ⟨r, hr, rfl⟩)⟩
theorem mod_two {a L : Nat} (h : a < L + L) : a % L = if a < L then a else a - L := by
  split
  · rename_i c; exact Nat.mod_eq_of_lt c
  · rename_i c; rw [Nat.mod_eq_sub_mod (by omega), Nat.mod_eq_of_lt (by omega)]
section
variable {R : List (Int × Int)} {t u : Nat} {q : Int × Int}
end
theorem shaped_intsL (l : List Int) : SeqAt.shaped (.list (l.map .int)) = true := shaped_ints l
theorem cutL (S : List (Int × Int)) (j : Nat) : cutD (S.map pairD) none (some (j : Int)) = (S.take j).map pairD := by
  unfold cutD
  rw [HT.sIx_nat, HT.sIx_none, List.length_map, List.drop_zero, List.map_take]
  rcases Nat.le_total j S.length with c | c
  · rw [Nat.min_eq_left c]; rfl
  · rw [Nat.min_eq_right c, List.take_of_length_le (by rw [List.length_map]; exact Nat.le_refl _), List.take_of_length_le (by rw [List.length_map]; exact c)]
section
variable {n : Nat} {m : Cl} {R : List (Int × Int)} {q : Int × Int} {t u : Nat}
end
section
variable {n : Nat} {m : Cl} {R : List (Int × Int)} {q : Int × Int} {t u : Nat}
end
def goL (R : List (Int × Int)) : List (Int × Int) := (List.zip R (R.drop 1 ++ R.take 1)).map fun p => (p.1.1, p.2.2)
theorem zip2_prs : ∀ A B : List (Int × Int), zip2D (A.map pairD) (B.map pairD) = (List.zip A B).map fun q => .tuple [pairD q.1, pairD q.2]
  | [], _ => rfl
  | _ :: _, [] => rfl
  | a :: A, b :: B => by
    have ih := zip2_prs A B
    unfold zip2D at ih ⊢
    rw [List.map_cons, List.map_cons, List.zipWith_cons_cons, ih, List.zip_cons_cons, List.map_cons]
theorem goes_on_spec {R : List (Int × Int)} (hl : R.length ≤ 400) (e : Env) (h : e 0 = some (.v (.tuple (R.map pairD)))) : wp m__law_goes_on e (fun x _ => x = .rt (.v (.list ((goL R).map pairD)))) fun _ _ => False := by
  unfold m__law_goes_on
  simp only [wp_sRet]
  have hc1 : cutD (R.map pairD) (some 1) none = (R.drop 1).map pairD := cut_drop R 1
  have hc2 : cutD (R.map pairD) none (some 1) = (R.take 1).map pairD := cutL R 1
  have gb : Gives (mBin addD (mSl (mVar 0) (mPart (mC (.int 1))) mNo) (mSl (mVar 0) mNo (mPart (mC (.int 1))))) e (.tuple ((R.drop 1 ++ R.take 1).map pairD)) fun _ _ => False := by
    have := g_addT (g_sl (g_var (Ψ := fun _ _ => False) h) (gp_part (g_int (i := 1))) gp_no) (g_sl (g_var h) gp_no (gp_part (g_int (i := 1)))) (by
      rw [hc1, hc2, List.length_map, List.length_map, List.length_drop, List.length_take]; omega)
    rw [hc1, hc2, ← List.map_append] at this
    exact this
  have gz : Gives (mIA zip2F (aCons (mVar 0) (aCons (mBin addD (mSl (mVar 0) (mPart (mC (.int 1))) mNo) (mSl (mVar 0) mNo (mPart (mC (.int 1))))) aNil))) e ((List.zip R (R.drop 1 ++ R.take 1)).map fun q => .tuple [pairD q.1, pairD q.2]) fun _ _ => False := by
    unfold Gives
    rw [wp_mIA, wp_aCons]
    refine (g_var h).wp ?_
    rw [wp_aCons]
    refine gb.wp ?_
    rw [wp_aNil]
    exact ⟨_, rfl, zip2_prs _ _, rfl⟩
  have := g_it2 (a := 1) (b := 2) (me := mArgs tupF (aCons (mBin ixD (mVar 1) (mC (.int 0))) (aCons (mBin ixD (mVar 2) (mC (.int 1))) aNil))) (fun q : (Int × Int) × (Int × Int) => pairD (q.1.1, q.2.2)) (by decide) gz (by
    rw [List.length_zip]; omega) fun q e' hq h1 h2 ho => g_tup2 (g_ix (g_var h1) (ix_p0 _)) (g_ix (g_var h2) (ix_p1 _))
  refine this.wp ?_
  unfold goL
  rw [List.map_map]
  rfl
theorem in_intsL (i : Int) (X : List Int) : inL (.int i) (.list (X.map .int)) = some (decide (i ∈ X)) := by
  show inLs _ _ = _
  unfold inLs
  rw [if_pos (by rw [shaped_intsL]; rfl)]
  congr 1
  rw [List.any_map, Bool.eq_iff_iff, List.any_eq_true, decide_eq_true_eq]
  constructor
  · rintro ⟨x, hx, h⟩
    have : x = i := by simpa [PyData.eqv] using h
    rw [← this]
    exact hx
  · exact fun h => ⟨i, h, by simp [PyData.eqv]⟩
theorem in_prsL (q : Int × Int) (X : List (Int × Int)) : inL (pairD q) (.list (X.map pairD)) = some (decide (q ∈ X)) := by
  show inLs _ _ = _
  unfold inLs
  rw [if_pos (by rw [shaped_pairsL, shaped_pair]; rfl)]
  congr 1
  rw [List.any_map, Bool.eq_iff_iff, List.any_eq_true, decide_eq_true_eq]
  constructor
  · rintro ⟨x, hx, h⟩
    have : x = q := by simpa [eqv_pair] using h
    rw [← this]
    exact hx
  · exact fun h => ⟨q, h, by simp [eqv_pair]⟩
def gc : List (Int × Int) → List (Int × Int)
  | [] => []
  | [_] => []
  | x :: y :: l => (x.1, y.2) :: gc (y :: l)
def rgD (l : List (Int × Int)) : PyData := .tuple (l.map pairD)
theorem g_neg1 {e : Env} {Ψ : Exn → Env → Prop} : Gives (mUn negI (mC (.int 1))) e (.int (-1)) Ψ := by
  unfold Gives
  rw [wp_mUn, wp_mC]
  exact ⟨_, rfl, rfl, rfl⟩
theorem rc_prs {S : List (Int × Int)} (h : Sm S) (hl : S.length ≤ 12) : RC (.tuple (S.map pairD)) 4 300 := (rc_tup (rcs_pairs h)).mono (by omega) (by rw [List.length_map]; omega)
end PD

namespace PD
open PySem PySem.Spec PyProof.Rows L2
abbrev at2 (R : List (Int × Int)) (x : Nat) : Int × Int := R.getD x (0, 0)
theorem goL_gc : ∀ (X : List (Int × Int)) (a c : Int × Int), ((List.zip (a :: X) (X ++ [c])).map fun p => (p.1.1, p.2.2)) = gc (a :: X ++ [c])
  | [], a, c => rfl
  | b :: X, a, c => by
    have ih := goL_gc X b c
    show (a.1, b.2) :: ((List.zip (b :: X) (X ++ [c])).map fun p => (p.1.1, p.2.2)) = _
    rw [ih]
    rfl
theorem goL_cons (a : Int × Int) (X : List (Int × Int)) : goL (a :: X) = gc (a :: X ++ [a]) := by
  unfold goL
  rw [← goL_gc X a a]
  rfl
theorem gc_len : ∀ l : List (Int × Int), (gc l).length = l.length - 1
  | [] => rfl
  | [_] => rfl
  | x :: y :: l => by
    have ih := gc_len (y :: l)
    show (gc (y :: l)).length + 1 = _
    rw [ih]
    simp
theorem goL_length (R : List (Int × Int)) : (goL R).length = R.length := by
  cases R with
  | nil => rfl
  | cons a X => rw [goL_cons, gc_len]; simp
theorem gc_at : ∀ (l : List (Int × Int)) (x : Nat), x + 1 < l.length → at2 (gc l) x = ((at2 l x).1, (at2 l (x + 1)).2)
  | [], x, h => by simp at h
  | [_], x, h => by simp at h
  | a :: b :: l, 0, _ => rfl
  | a :: b :: l, x + 1, h => by
    have ih := gc_at (b :: l) x (by simpa using h)
    show at2 (gc (b :: l)) x = _
    rw [ih]
    rfl
theorem goL_at {R : List (Int × Int)} {x : Nat} (h : x < R.length) : at2 (goL R) x = ((at2 R x).1, (at2 R ((x + 1) % R.length)).2) := by
  cases R with
  | nil => simp at h
  | cons a X =>
    rw [goL_cons, gc_at _ _ (by simp at h ⊢; omega)]
    have e1 : at2 (a :: X ++ [a]) x = at2 (a :: X) x := by
      unfold at2
      rw [List.getD_eq_getElem?_getD, List.getD_eq_getElem?_getD, List.getElem?_append_left h]
    rw [e1]
    congr 1
    rcases Nat.lt_or_ge (x + 1) (a :: X).length with c | c
    · rw [Nat.mod_eq_of_lt c]
      unfold at2
      rw [List.getD_eq_getElem?_getD, List.getD_eq_getElem?_getD, List.getElem?_append_left c]
    · have e : x + 1 = (a :: X).length := by omega
      rw [e, Nat.mod_self]
      unfold at2
      rw [List.getD_eq_getElem?_getD, List.getElem?_append_right (Nat.le_refl _), Nat.sub_self]
      rfl
section
variable {R : List (Int × Int)} {t u : Nat} {q : Int × Int}
end
end PD

namespace PD
open PySem PySem.Spec PyProof.Rows L2
def addN (tab : List (List Int)) (P : List (Int × Int)) (k : Int) : List (List Int) := P.foldl (fun t q => putT t q.1 q.2 (cell t q.1 q.2 + k)) tab
theorem addN_sq {n : Nat} {k : Int} : ∀ {P : List (Int × Int)} {tab : List (List Int)}, Sq n tab → (∀ q, q ∈ P → InN n q) → Sq n (addN tab P k)
  | [], _, h, _ => h
  | q :: P, _, h, hP => addN_sq (P := P) (h.put (hP q List.mem_cons_self).1 (hP q List.mem_cons_self).2.1) fun x hx => hP x (List.mem_cons_of_mem _ hx)
theorem cell_addN {n : Nat} {k : Int} {p : Int × Int} (hp : InN n p) : ∀ {P : List (Int × Int)} {tab : List (List Int)}, Sq n tab → (∀ q, q ∈ P → InN n q) → cell (addN tab P k) p.1 p.2 = cell tab p.1 p.2 + k * (P.count p : Nat)
  | [], _, _, _ => by simp [addN]
  | q :: P, tab, h, hP => by
    obtain ⟨a1, a2, a3, a4⟩ := hP q List.mem_cons_self
    have ih := cell_addN (k := k) hp (P := P) (h.put (k := cell tab q.1 q.2 + k) (j := q.2) a1 a2) fun x hx => hP x (List.mem_cons_of_mem _ hx)
    show cell (addN (putT tab q.1 q.2 (cell tab q.1 q.2 + k)) P k) p.1 p.2 = _
    rw [ih, cell_put h a1 a2 a3 a4 hp.1 hp.2.1 hp.2.2.1 hp.2.2.2, List.count_cons]
    by_cases c : q = p
    · subst c
      rw [if_pos ⟨rfl, rfl⟩, if_pos (by simp), Int.natCast_add, Int.mul_add]
      omega
    · have : ¬ (p.1 = q.1 ∧ p.2 = q.2) := fun z => c (Prod.ext z.1.symm z.2.symm)
      rw [if_neg this, if_neg (by simpa using c)]
      simp
theorem tab_ext {n : Nat} {A B : List (List Int)} (hA : Sq n A) (hB : Sq n B) (h : ∀ p : Int × Int, InN n p → cell A p.1 p.2 = cell B p.1 p.2) : A = B := by
  apply List.ext_getElem (by rw [hA.len, hB.len])
  intro i h1 h2
  have l1 := hA.row A[i] (List.getElem_mem h1)
  have l2 := hB.row B[i] (List.getElem_mem h2)
  have hn := hA.len
  apply List.ext_getElem (by rw [l1, l2])
  intro j g1 g2
  have := h ((i : Int), (j : Int)) ⟨by simp, by simp; omega, by simp, by simp; omega⟩
  unfold cell at this
  simp only [Int.toNat_natCast, List.getD_eq_getElem?_getD, List.getElem?_eq_getElem h1, List.getElem?_eq_getElem h2, Option.getD_some, List.getElem?_eq_getElem g1, List.getElem?_eq_getElem g2] at this
  exact this
structure Okr (m : Cl) (l : List (Int × Int)) : Prop where
  two : 2 ≤ l.length
  len : l.length ≤ 20
  nd : (l.map (·.1)).Nodup
  ndS : (l.map (·.2)).Nodup
  mem : ∀ q, q ∈ l → q ∈ keysC m
  go : ∀ q, q ∈ goL l → q ∈ keysC m
  mn : (l.headD (0, 0)).1 = mnF l
section
variable {n : Nat} {m : Cl} {l : List (Int × Int)}
theorem key_in (hm : RowOk n 100 200 m) {q : Int × Int} (h : q ∈ keysC m) : InN n q := mem_rng hm h
def rowL (d : PyData) : T := match d with
  | .tuple ds => .lst (ds.map T.v)
  | _ => .lst []
theorem wp_copyRows {i x : Nat} {e : Env} {tab : List (List Int)} {Φ : T → Env → Prop} {Ψ : Exn → Env → Prop} (h : e i = some (.v (tabD tab))) (hl : tab.length ≤ 1000) (q : Φ (cellsT tab) e) :
    wp (mLcO (mI seqOf (mVar i)) (gNm x) (pure true) (mUnO (fun d => listF [d]) (mVar x)) [x]) e Φ Ψ := by
  rw [wp_mLcO, wp_mI]
  refine (g_var h).wp ⟨tab.map fun r => .tuple (r.map .int), rfl, ?_⟩
  refine wp_lcOP rowL _ (fun y hy => ?_) (by rw [List.length_map]; exact size_le hl) ?_
  · obtain ⟨r, _, rfl⟩ := List.mem_map.mp hy
    refine ⟨_, rfl, ?_⟩
    rw [wp_mUnO]
    refine (g_var (d := .tuple (r.map .int)) (by simp)).wp ⟨_, listF_tup, _, own_ints r, ?_, ?_⟩
    · show T.lst (r.map fun k => T.v (.int k)) = T.lst ((r.map PyData.int).map T.v)
      rw [List.map_map]
      rfl
    · rw [wipe_setE (by simp), wipe_wipe]
  · rw [List.map_map]
    have : (tab.map (rowL ∘ fun r => PyData.tuple (r.map .int))) = tab.map fun r => T.lst (r.map fun k => T.v (.int k)) := List.map_congr_left fun r _ => by
      show T.lst ((r.map PyData.int).map T.v) = _
      rw [List.map_map]
      rfl
    rw [this]
    exact q
theorem wp_addLoop {op : PyData → PyData → Option PyData} {n : Nat} {mi : M (List PyData)} {sg : Int → Int} (hop : ∀ a b : Int, op (.int a) (.int b) = some (.int (a + sg b))) {e : Env} {P : List (Int × Int)} {tab : List (List Int)} {k : Int} {Φ : Fl → Env → Prop} {c : Nat} (hc : c < 3) (hi : Gives mi e (P.map pairD) fun _ _ => False) (hP : ∀ q, q ∈ P → InN n q) (s : Sq n tab) (h3 : e 3 = some (cellsT tab)) (h2 : e c = some (.v (.int k)))
    (q : ∀ e', e' 3 = some (cellsT (addN tab P (sg k))) → (∀ j, j < 3 → e' j = e j) → Φ .nx e') :
    wp (sFor mi (gTp 2 (gCo (gNm 4) (gCo (gNm 5) gNo))) (sSetPP 3 4 5 (mBin op (mIxPP 3 4 5) (mVar c)))) e Φ fun _ _ => False := by
  rw [wp_sFor]
  refine hi.wp ?_
  refine wp_forL (fun xs e' => (∀ j, j < 3 → e' j = e j) ∧ ∃ (Q : List (Int × Int)) (t : List (List Int)), xs = Q.map pairD ∧ (∀ q, q ∈ Q → InN n q) ∧ Sq n t ∧ e' 3 = some (cellsT t) ∧ addN t Q (sg k) = addN tab P (sg k)) _ ⟨fun _ _ => rfl, P, tab, rfl, hP, s, h3, rfl⟩ ?_ ?_
  · rintro e' ⟨ho, Q, t, hx, _, _, k3, ht⟩
    have : Q = [] := by simpa using hx.symm
    subst this
    exact q e' (by rw [k3, ← ht]; rfl) ho
  · rintro x xs e' ⟨ho, Q, t, hx, hQ, s, k3, ht⟩
    cases Q with
    | nil => cases hx
    | cons p Q =>
    rw [List.map_cons] at hx
    injection hx with hx1 hx2
    subst hx1
    obtain ⟨a1, a2, a3, a4⟩ := hQ p List.mem_cons_self
    refine ⟨setE (setE e' 4 (some (.v (.int p.1)))) 5 (some (.v (.int p.2))), rfl, ?_⟩
    have f3 : setE (setE e' 4 (some (.v (.int p.1)))) 5 (some (.v (.int p.2))) 3 = some (cellsT t) := by simpa using k3
    have f4 : setE (setE e' 4 (some (.v (.int p.1)))) 5 (some (.v (.int p.2))) 4 = some (.v (.int p.1)) := by simp
    have f5 : setE (setE e' 4 (some (.v (.int p.1)))) 5 (some (.v (.int p.2))) 5 = some (.v (.int p.2)) := by simp
    have fo : ∀ j, j < 3 → setE (setE e' 4 (some (.v (.int p.1)))) 5 (some (.v (.int p.2))) j = e j := fun j hj => by rw [setE_ne (by omega), setE_ne (by omega)]; exact ho j hj
    generalize setE (setE e' 4 (some (T.v (.int p.1)))) 5 (some (.v (.int p.2))) = e2 at f3 f4 f5 fo
    refine wp_setPP ?_ s a1 a2 a3 a4
    rw [wp_mBin]
    refine wp_ixPP f3 f4 f5 s a1 a2 a3 a4 ?_
    refine (g_var ((fo c hc).trans h2)).wp ⟨_, hop _ _, _, rfl, f3, f4, f5, fun j hj => by rw [setE_ne (by omega)]; exact fo j hj, Q, _, hx2, fun x hx => hQ x (List.mem_cons_of_mem _ hx), s.put a1 a2, by rw [setE_same], ht⟩
theorem ix_tab {tab : List (List Int)} (s : Sq n tab) {i : Int} (h0 : 0 ≤ i) (h1 : i < n) : ∃ r : List Int, ixD (tabD tab) (.int i) = some (.tuple (r.map .int)) ∧ r.length = n ∧ ∀ j : Int, cell tab i j = r.getD j.toNat 0 := by
  obtain ⟨r, e1, e2, e3, e4⟩ := s.rowAt h0 h1
  refine ⟨r, ?_, e4, fun j => by unfold cell; rw [e2]⟩
  show L2.atI (tab.map fun r => PyData.tuple (r.map .int)) i = _
  unfold L2.atI
  rw [List.length_map, s.len, ixN_nn h0 h1]
  simp only [Option.bind_some, List.getElem?_map, e1, Option.map_some]
theorem g_cell {e : Env} {Ψ : Exn → Env → Prop} {tab : List (List Int)} {ma mb mc : M PyData} {i j : Int} (s : Sq n tab) (ha : Gives ma e (tabD tab) Ψ) (hb : Gives mb e (.int i) Ψ) (hc : Gives mc e (.int j) Ψ) (h0 : 0 ≤ i) (h1 : i < n) (h2 : 0 ≤ j) (h3 : j < n) : Gives (mBin ixD (mBin ixD ma mb) mc) e (.int (cell tab i j)) Ψ := by
  obtain ⟨r, e1, e2, e3⟩ := ix_tab s h0 h1
  rw [e3 j]
  exact g_ixV (g_ixV ha hb e1) hc (ix_row h2 (by omega))
def turnT (tab : List (List Int)) (l : List (Int × Int)) (k : Int) : List (List Int) := addN (addN tab l (-k)) (goL l) k
theorem turn_sq {tab : List (List Int)} {k : Int} (s : Sq n tab) (hl : ∀ q, q ∈ l → InN n q) (hg : ∀ q, q ∈ goL l → InN n q) : Sq n (turnT tab l k) := addN_sq (addN_sq s hl) hg
theorem law_turned_spec {tab : List (List Int)} {k : Int} (hm : RowOk n 100 200 m) (n0 : n ≤ 5) (hl : l.length ≤ 20) (hi : ∀ q, q ∈ l → InN n q) (hg : ∀ q, q ∈ goL l → InN n q) (s : Sq n tab) (hc : ∀ q, q ∈ l → k ≤ cell tab q.1 q.2) (e : Env) (h0 : e 0 = some (.v (tabD tab))) (h1 : e 1 = some (.v (rgD l))) (h2 : e 2 = some (.v (.int k))) :
    wp m__law_turned e (fun x _ => x = .rt (.v (tabD (turnT tab l k)))) fun _ _ => False := by
  unfold m__law_turned
  rw [wp_sSeq, wp_sIf]
  have g := g_prs (a := 4) (b := 5) (mi := mVar 1) (tt := mCmp ltD (mFr (mBin ixD (mBin ixD (mVar 0) (mVar 4)) (mVar 5))) (mFr (mVar 2))) (me := mC (.int 1)) (fun _ => false) (fun _ => .int 1) (g_var (Ψ := fun _ _ => False) h1) rfl (by omega) (by decide) fun q e' hq hr =>
    ⟨g_cmpI (g_cell s (g_var ((hr.o 0 (by decide) (by decide)).trans h0)) (g_var hr.fa) (g_var hr.fb) (hi q hq).1 (hi q hq).2.1 (hi q hq).2.2.1 (hi q hq).2.2.2) (g_var ((hr.o 2 (by decide) (by decide)).trans h2)) (by rw [ltD_int]; congr 1; exact decide_eq_false (by have := hc q hq; omega)), fun z => nomatch z⟩
  have e0 : (l.filter fun _ => false) = [] := by simp
  rw [e0] at g
  refine (g_cmpI g g_nilL (neD_ints_nil [])).wp ?_
  rw [if_neg (by decide), wp_sNil]
  simp only []
  rw [wp_sSeq, wp_sSetO]
  refine wp_copyRows h0 (by rw [s.len]; omega) ?_
  rw [wp_sSeq]
  refine wp_addLoop (sg := fun b => -b) (fun a b => by rw [subI_int, Int.sub_eq_add_neg]) (by omega) (g_mI (g_var (by simpa using h1)) rfl) hi s (by simp) (by simpa using h2) fun e1 k3 ho => ?_
  rw [wp_sSeq]
  refine wp_addLoop (sg := fun b => b) (fun a b => addD_int) (by omega) (g_mI (g_c1 (g_var (d := rgD l) (by rw [ho 1 (by omega)]; simpa using h1)) fun e h => goes_on_spec (by omega) e h) rfl) hg (addN_sq s hi) k3 (by rw [ho 2 (by omega)]; simpa using h2) fun e2 k3 ho => ?_
  simp only [wp_sRet]
  exact wp_rowsOut (by omega) k3 (by rw [(addN_sq (k := k) (addN_sq (k := -k) s hi) hg).len]; omega) rfl
end
end PD

namespace PD
open PySem PySem.Spec PyProof.Rows L2
end PD

namespace PD
open PySem PySem.Spec PyProof.Rows L2
section
variable {X : Cx} {cl : Nat → Addr} {W : WX} {B : Nat → Bool} {c : Nat} {x f : Str} {e : Expr} {me : M PyData} {p pos pos2 : Pos}
end
section
variable {Γ : Ctx} {H : Hp} {F : Fs} {env : Env} {σ : St} {fp : Nat → Fs} {i : Nat} {v : V}
end
section
variable {X : Cx} {cl : Nat → Addr} {W : WX} {B : Nat → Bool} {c i : Nat} {x n : Str} {e : Expr} {mb : M Fl} {h : Exn → Option PyData} {body : List Stmt} {np rp pos pos' : Pos}
def hC (d : PyData) : Exn → Option PyData := fun _ => some d
end
end PD

namespace PD
open PySem PySem.Spec PyProof.Rows L2
section
variable {X : Cx} {pins : List (Addr × Obj)} {σ : St} {H : Hp}
variable {cl : Nat → Addr} {c : Nat} {x : Str} {p pos pos2 : Pos} {W : WX} {B : Nat → Bool}
end
end PD

namespace PD
open PySem PySem.Spec PyProof.Rows L2
section
variable {X : Cx} {cl : Nat → Addr} {pins : List (Addr × Obj)} {σ : St} {H : Hp} {s : Shared} {F : Fs}
end
end PD

namespace PD
open PySem PySem.Spec PyProof.Rows L2
section
variable {X : Cx}
end
end PD

namespace PD
open PySem PySem.Spec PyProof.Rows L2
section
variable {X : Cx} {cl : Nat → Addr} {W : WX} {tg elt : Expr} {scope : Scope} {pos : Pos} {mg : Tgt} {mt : M Bool} {me : M T} {ifs : List Expr}
end
end PD

namespace PD
open PySem PySem.Spec PyProof.Rows L2
mutual
def nn : PyData → Nat
  | .tuple xs => 1 + nns xs
  | .list xs => 1 + nns xs
  | _ => 1
def nns : List PyData → Nat
  | [] => 0
  | x :: xs => nn x + nns xs
end
mutual
def lf : PyData → Bool
  | .tuple xs => lfs xs
  | .list xs => lfs xs
  | .int i => decide (i.natAbs < 10 ^ 42)
  | .str s => decide ((PyData.str s).shown.length ≤ 40)
  | .dict kvs => kvs.isEmpty
  | _ => true
def lfs : List PyData → Bool
  | [] => true
  | x :: xs => lf x && lfs xs
end
structure V (K N : Nat) (d : PyData) : Prop where
  lf : lf d = true
  dp : d.depth ≤ K
  nn : nn d ≤ N
section
variable {K N K' N' : Nat} {d : PyData} {ds es : List PyData}
end
end PD

namespace PD
open PySem PySem.Spec PyProof.Rows L2
section
variable {C : Env → Prop} {i : Nat} {m ma mb : M PyData} {mr : M (List PyData)} {P Q : PyData → Prop} {k : Nat}
end
theorem cut_hi (xs : List PyData) (k : Nat) : cutD xs none (some (k : Int)) = xs.take k := by
  unfold cutD
  rw [HT.sIx_nat, HT.sIx_none, List.drop_zero]
  rcases Nat.le_total k xs.length with c | c
  · rw [Nat.min_eq_left c]; rfl
  · rw [Nat.min_eq_right c, List.take_of_length_le c, List.take_of_length_le (by show _ ≤ xs.length - 0; omega)]
section
variable {e : Env} {Ψ : Exn → Env → Prop} {ma mk : M PyData} {xs : List PyData} {k : Nat}
end
end PD

namespace PD
open PySem PySem.Spec PyProof.Rows L2
end PD

namespace PD
open PySem PySem.Spec PyProof.Rows L2
section
variable {X : Cx}
end
end PD

namespace PD
open PySem PySem.Spec PyProof.Rows L2
inductive BK where | ve | re | le
deriving DecidableEq
namespace BK
end BK
section
variable {b : BK} {X : Cx} {pins : List (Addr × Obj)} {σ : St} {H : Hp} {s : Shared} {a C : Addr} {f : Str} {y : L2.V} {u : Value} {A : Around} {E : Value → Shared → Prop}
end
section
variable {X : Cx} {o e : Expr} {es : List Expr} {to te : TE} {ta : TA} {f n : Str} {p p' p1 p2 pos : Pos}
end
end PD

namespace PD
open PySem PySem.Spec PyProof.Rows L2
section
variable {b : BK} {X : Cx} {cl : Nat → Addr} {W : WX} {B : Nat → Bool} {c : Nat} {x f : Str} {e : Expr} {es : List Expr} {ta : TA} {me : M PyData} {p pos pos2 : Pos}
end
end PD

namespace PySem.W
open PySem PySem.Spec PySem.Calls PyProof.Rows
section
variable {prog : Program} {w : World} {A : Around} {E : Value → Shared → Prop} {s : Shared} {K : Frag} {x D : Addr} {ox : Obj} {od : Option Obj}
end
end PySem.W
namespace PD
open PySem PySem.Spec PyProof.Rows L2
section
variable {X : Cx} {cl : Nat → Addr} {c i : Nat} {n n2 : Str} {e1 e2 : Expr} {h : Exn → Option PyData} {p p3 p4 p5 p6 : Pos}
end
end PD

namespace PD
open PySem PySem.Spec PyProof.Rows L2
end PD

namespace PD
open PySem PySem.Spec PyProof.Rows L2
section
variable {n M : Nat} {m : Cl} {R l : List (Int × Int)}
end
end PD

namespace PD
open PySem PySem.Spec PyProof.Rows L2
end PD

namespace PD
open PySem PySem.Spec PyProof.Rows L2
section
variable {X : Cx}
end
end PD

namespace PD
open PySem PySem.Spec PyProof.Rows L2
section
variable {X : Cx} {cl : Nat → Addr} {W : WX} {o e f : Expr} {mo me mf : M PyData} {ap cp : Pos}
end
section
variable {X : Cx} {cl : Nat → Addr} {W : WX}
end
end PD

namespace PD
open PySem PySem.Spec PyProof.Rows L2
section
variable {X : Cx} {cl : Nat → Addr} {W : WX} {pos : Pos}
end
end PD

namespace PD
open PySem PySem.Spec PyProof.Rows L2
section
variable {X : Cx} {cl : Nat → Addr} {W : WX} {tg iter tg1 iter1 elt : Expr} {ifs ifs1 : List Expr} {scope : Scope} {own : List (Str × Nat)} {pos : Pos} {mi mi1 : M (List PyData)} {mg mg1 : Tgt} {mt mt1 : M Bool} {me : M PyData}
variable {vs vs1 : List Nat} {B : Nat → Bool}
end
section
variable {e : Env} {Ψ : Exn → Env → Prop}
end
end PD

namespace PD
open PySem PySem.Spec PyProof.Rows L2
theorem eqv_intsA : ∀ A B : List Int, PyData.eqvAll (A.map .int) (B.map .int) = decide (A = B)
  | [], [] => by simp [PyData.eqvAll]
  | [], b :: B => by simp [PyData.eqvAll]
  | a :: A, [] => by simp [PyData.eqvAll]
  | a :: A, b :: B => by
    rw [List.map_cons, List.map_cons, PyData.eqvAll, eqv_intsA A B]
    by_cases c : a = b
    · by_cases d : A = B <;> simp [c, d, PyData.eqv]
    · simp [c, PyData.eqv]
section
variable {β : Type}
def ownF (f : β → PyData) (L : List β) : T := .lst (L.map fun x => T.v (f x))
theorem fz_own (f : β → PyData) (L : List β) : T.fz (ownF f L) = some (.list (L.map f)) := by
  unfold ownF
  rw [fz_lst, show (L.map fun x => T.v (f x)) = (L.map f).map T.v by rw [List.map_map]; rfl, fzs_v]
  rfl
theorem atI_lastM {f : β → T} {L : List β} (h : L ≠ []) : L2.atI (L.map f) (-1) = some (f (L.getLast h)) := by
  obtain ⟨I, x, rfl⟩ : ∃ I x, L = I ++ [x] := ⟨L.dropLast, L.getLast h, (List.dropLast_concat_getLast h).symm⟩
  unfold L2.atI
  have e : L2.ixN ((I ++ [x]).map f).length (-1) = some I.length := by
    unfold L2.ixN
    rw [if_neg (by omega), List.length_map, List.length_append, List.length_singleton, if_pos (by omega)]
    congr 1
    omega
  rw [e]
  simp
end
theorem atI_lastG {α β : Type} {f : β → α} {L : List β} (h : L ≠ []) : L2.atI (L.map f) (-1) = some (f (L.getLast h)) := by
  obtain ⟨I, x, rfl⟩ : ∃ I x, L = I ++ [x] := ⟨L.dropLast, L.getLast h, (List.dropLast_concat_getLast h).symm⟩
  unfold L2.atI
  have e : L2.ixN ((I ++ [x]).map f).length (-1) = some I.length := by
    unfold L2.ixN
    rw [if_neg (by omega), List.length_map, List.length_append, List.length_singleton, if_pos (by omega)]
    congr 1
    omega
  rw [e]
  simp
theorem g_addL {e : Env} {ma mb : M PyData} {A B : List PyData} (ha : Gives ma e (.list A) fun _ _ => False) (hb : Gives mb e (.list B) fun _ _ => False) (hl : A.length + B.length ≤ 1000) : Gives (mBin addD ma mb) e (.list (A ++ B)) fun _ _ => False := by
  unfold Gives
  rw [wp_mBin]
  exact ha.wp (hb.wp ⟨_, addD_lst hl, rfl, rfl⟩)
end PD

namespace PD
open PySem PySem.Spec PyProof.Rows L2
def mrL (m : Cl) (B : List Int) (i : Int) : List Int := B.filter fun c => hasK m (i, c)
def mcL (m : Cl) (A : List Int) (j : Int) : List Int := A.filter fun r => hasK m (r, j)
def nextW (m : Cl) (A B : List Int) (x : Int × Int) : Int × Int :=
  let j := ((mrL m B x.1).filter fun c => !(c == x.2)).headD 0
  (((mcL m A j).filter fun r => !(r == x.1)).headD 0, j)
structure Deg2 (m : Cl) (A B : List Int) : Prop where
  na : A.Nodup
  nb : B.Nodup
  ra : ∀ i, i ∈ A → (mrL m B i).length = 2
  cb : ∀ j, j ∈ B → (mcL m A j).length = 2
structure InW (m : Cl) (A B : List Int) (x : Int × Int) : Prop where
  a : x.1 ∈ A
  b : x.2 ∈ B
  k : hasK m x = true
theorem two_other {L : List Int} (nd : L.Nodup) (h2 : L.length = 2) {a : Int} (ha : a ∈ L) : ∃ b, b ∈ L ∧ b ≠ a ∧ (L.filter fun c => !(c == a)) = [b] ∧ ∀ c, c ∈ L → c = a ∨ c = b := by
  match L, nd, h2 with
  | [u, v], nd, _ =>
    have uv : u ≠ v := by simpa using nd
    simp only [List.mem_cons, List.not_mem_nil, or_false] at ha
    rcases ha with rfl | rfl
    · refine ⟨v, by simp, Ne.symm uv, ?_, by simp⟩
      have : (v == a) = false := by simpa using Ne.symm uv
      simp [this]
    · refine ⟨u, by simp, uv, ?_, fun c hc => by simpa [or_comm] using hc⟩
      have : (u == a) = false := by simpa using uv
      simp [this]
section
variable {m : Cl} {A B : List Int}
structure NextP (m : Cl) (A B : List Int) (x y : Int × Int) : Prop where
  inw : InW m A B y
  k1 : hasK m (x.1, y.2) = true
  ne2 : y.2 ≠ x.2
  ne1 : y.1 ≠ x.1
  row : ∀ c, c ∈ B → hasK m (x.1, c) = true → c = x.2 ∨ c = y.2
  col : ∀ r, r ∈ A → hasK m (r, y.2) = true → r = x.1 ∨ r = y.1
theorem next_p (D : Deg2 m A B) {x : Int × Int} (h : InW m A B x) : NextP m A B x (nextW m A B x) ∧ ((mrL m B x.1).filter fun c => !(c == x.2)) = [(nextW m A B x).2] ∧ ((mcL m A (nextW m A B x).2).filter fun r => !(r == x.1)) = [(nextW m A B x).1] := by
  have m1 : x.2 ∈ mrL m B x.1 := List.mem_filter.mpr ⟨h.b, h.k⟩
  obtain ⟨j, j1, j2, j3, j4⟩ := two_other (D.nb.filter _) (D.ra _ h.a) m1
  obtain ⟨jb, jk⟩ := List.mem_filter.mp j1
  have m2 : x.1 ∈ mcL m A j := List.mem_filter.mpr ⟨h.a, jk⟩
  obtain ⟨i, i1, i2, i3, i4⟩ := two_other (D.na.filter _) (D.cb _ jb) m2
  obtain ⟨ia, ik⟩ := List.mem_filter.mp i1
  have e : nextW m A B x = (i, j) := by
    have ej : ((mrL m B x.1).filter fun c => !(c == x.2)).headD 0 = j := by
      unfold mrL
      rw [j3]
      rfl
    unfold nextW
    rw [ej]
    have ei : ((mcL m A j).filter fun r => !(r == x.1)).headD 0 = i := by
      unfold mcL
      rw [i3]
      rfl
    simp only [ei]
  rw [e]
  exact ⟨⟨⟨ia, jb, ik⟩, jk, j2, i2, fun c hc hk => j4 c (List.mem_filter.mpr ⟨hc, hk⟩), fun r hr hk => i4 r (List.mem_filter.mpr ⟨hr, hk⟩)⟩, j3, i3⟩
structure WalkP (m : Cl) (A B : List Int) (x0 : Int × Int) (r : List (Int × Int)) (h : Int × Int) : Prop where
  hd : ∀ x, r[0]? = some x → x = x0
  e0 : r = [] → h = x0
  inr : ∀ x, x ∈ r → InW m A B x
  inh : InW m A B h
  ch : ∀ k x y, r[k]? = some x → r[k + 1]? = some y → y = nextW m A B x
  la : ∀ k x, k + 1 = r.length → r[k]? = some x → h = nextW m A B x
  nf : (r.map (·.1)).Nodup
  ns : (r.map (·.2)).Nodup
theorem nd_at {α β : Type} {f : α → β} {r : List α} (nd : (r.map f).Nodup) {a b : Nat} {x y : α} (ha : r[a]? = some x) (hb : r[b]? = some y) (e : f x = f y) : a = b := by
  have h1 : (r.map f)[a]? = some (f x) := by rw [List.getElem?_map, ha]; rfl
  have h2 : (r.map f)[b]? = some (f y) := by rw [List.getElem?_map, hb]; rfl
  obtain ⟨la, ea⟩ := List.getElem?_eq_some_iff.mp h1
  obtain ⟨lb, eb⟩ := List.getElem?_eq_some_iff.mp h2
  exact (List.getElem_inj nd).mp (by rw [ea, eb, e])
theorem walk_back (D : Deg2 m A B) {x0 h : Int × Int} {r : List (Int × Int)} (W : WalkP m A B x0 r h) :
    (h.1 ∈ r.map (·.1) → h = x0 ∧ h ∈ r) ∧ (h.1 ∉ r.map (·.1) → h.2 ∉ r.map (·.2)) := by
  cases hr : r with
  | nil => simp
  | cons q0 q =>
    rw [← hr]
    have hlen : 0 < r.length := by rw [hr]; simp
    obtain ⟨k, hk⟩ : ∃ k, k + 1 = r.length := ⟨r.length - 1, by omega⟩
    have hkl : k < r.length := by omega
    have xk : r[k]? = some r[k] := List.getElem?_eq_getElem hkl
    have eh := W.la k _ hk xk
    have ik := W.inr _ (List.getElem_mem hkl)
    have P := (next_p D ik).1
    rw [← eh] at P
    refine ⟨fun hm => ?_, fun hm h2 => ?_⟩
    · obtain ⟨x, hx, e1⟩ := List.mem_map.mp hm
      obtain ⟨a, ha⟩ := List.mem_iff_getElem?.mp hx
      have la : a < r.length := (List.getElem?_eq_some_iff.mp ha).1
      have ia := W.inr x hx
      have ak : a ≠ k := fun z => by
        subst z
        rw [xk] at ha
        cases ha
        exact P.ne1 e1.symm
      have la1 : a + 1 < r.length := by omega
      have xa1 : r[a + 1]? = some r[a + 1] := List.getElem?_eq_getElem la1
      have ea := W.ch a _ _ ha xa1
      have Pa := (next_p D ia).1
      rw [← ea] at Pa
      have hmate : hasK m (x.1, h.2) = true := by rw [e1]; exact P.inw.k
      rcases Pa.row h.2 P.inw.b hmate with z | z
      · -- the column of x itself
        have hx' : h = x := Prod.ext e1.symm z
        have a0 : a = 0 := by
          cases a with
          | zero => rfl
          | succ b =>
            have lb : b < r.length := by omega
            have xb : r[b]? = some r[b] := List.getElem?_eq_getElem lb
            have eb := W.ch b _ _ xb ha
            have Pb := (next_p D (W.inr _ (List.getElem_mem lb))).1
            rw [← eb] at Pb
            have hkk : hasK m ((r[k]).1, x.2) = true := by rw [← z]; exact P.k1
            rcases Pb.col _ ik.a hkk with w | w
            · have := nd_at W.nf xk xb w
              omega
            · have := nd_at W.nf xk ha w
              omega
        subst a0
        exact ⟨by rw [hx']; exact W.hd x ha, by rw [hx']; exact hx⟩
      · -- the next column
        have hkk : hasK m ((r[k]).1, (r[a + 1]).2) = true := by rw [← z]; exact P.k1
        rcases Pa.col _ ik.a hkk with w | w
        · have := nd_at W.nf xk ha w
          omega
        · have := nd_at W.nf xk xa1 w
          have hke : k = a + 1 := this
          subst hke
          exact absurd z P.ne2
    · obtain ⟨y, hy, e2⟩ := List.mem_map.mp h2
      obtain ⟨b, hb⟩ := List.mem_iff_getElem?.mp hy
      have nin : ∀ z, z ∈ r → h.1 ≠ z.1 := fun z hz e => hm (List.mem_map.mpr ⟨z, hz, e.symm⟩)
      cases b with
      | zero =>
        have iy := W.inr y hy
        have hyk : hasK m (y.1, h.2) = true := by
          have : (y.1, h.2) = y := Prod.ext rfl e2.symm
          rw [this]
          exact iy.k
        rcases P.col _ iy.a hyk with w | w
        · have k0 := nd_at W.nf hb xk w
          subst k0
          rw [xk] at hb
          cases hb
          exact P.ne2 e2.symm
        · exact nin y hy w.symm
      | succ b =>
        have lb : b < r.length := by
          have := (List.getElem?_eq_some_iff.mp hb).1
          omega
        have xb : r[b]? = some r[b] := List.getElem?_eq_getElem lb
        have eb := W.ch b _ _ xb hb
        have Pb := (next_p D (W.inr _ (List.getElem_mem lb))).1
        rw [← eb] at Pb
        have hkk : hasK m (h.1, y.2) = true := by
          have : (h.1, y.2) = h := Prod.ext rfl e2
          rw [this]
          exact P.inw.k
        rcases Pb.col _ P.inw.a hkk with w | w
        · exact nin _ (List.getElem_mem lb) w
        · exact nin y hy w
theorem walk_go (D : Deg2 m A B) {x0 h : Int × Int} {r : List (Int × Int)} (W : WalkP m A B x0 r h) (hn : h ∉ r) : WalkP m A B x0 (r ++ [h]) (nextW m A B h) := by
  obtain ⟨b1, b2⟩ := walk_back D W
  have f1 : h.1 ∉ r.map (·.1) := fun z => hn (b1 z).2
  have f2 := b2 f1
  refine ⟨fun x hx => ?_, fun z => by simp at z, fun x hx => ?_, (next_p D W.inh).1.inw, fun k x y hx hy => ?_, fun k x hk hx => ?_, ?_, ?_⟩
  · cases hr : r with
    | nil =>
      rw [hr] at hx
      simp at hx
      rw [← hx]
      exact W.e0 hr
    | cons q0 q =>
      rw [hr] at hx
      refine W.hd x ?_
      rw [hr]
      simpa using hx
  · rcases List.mem_append.mp hx with z | z
    · exact W.inr x z
    · rw [List.mem_singleton.mp z]; exact W.inh
  · have hy' := hy
    rcases Nat.lt_or_ge (k + 1) r.length with z | z
    · rw [List.getElem?_append_left (by omega)] at hx
      rw [List.getElem?_append_left z] at hy
      exact W.ch k x y hx hy
    · have l2 := (List.getElem?_eq_some_iff.mp hy).1
      rw [List.length_append, List.length_singleton] at l2
      have ek : k + 1 = r.length := by omega
      rw [List.getElem?_append_left (by omega)] at hx
      rw [ek] at hy
      simp at hy
      rw [← hy]
      exact W.la k x ek hx
  · rw [List.length_append, List.length_singleton] at hk
    have : k = r.length := by omega
    rw [this] at hx
    simp at hx
    rw [← hx]
  · rw [List.map_append, List.nodup_append]
    refine ⟨W.nf, by simp, fun a ha b hb z => ?_⟩
    simp at hb
    exact f1 (by rw [← hb, ← z]; exact ha)
  · rw [List.map_append, List.nodup_append]
    refine ⟨W.ns, by simp, fun a ha b hb z => ?_⟩
    simp at hb
    exact f2 (by rw [← hb, ← z]; exact ha)
theorem walk_0 {x0 : Int × Int} (h : InW m A B x0) : WalkP m A B x0 [] x0 := ⟨fun x hx => by simp at hx, fun _ => rfl, fun x hx => by simp at hx, h, fun k x y hx _ => by simp at hx, fun k x _ hx => by simp at hx, by simp, by simp⟩
def walkN (m : Cl) (A B : List Int) : Nat → List (Int × Int) → (Int × Int) → List (Int × Int)
  | 0, r, _ => r
  | k + 1, r, h => if h ∈ r then r else walkN m A B k (r ++ [h]) (nextW m A B h)
def walkF (m : Cl) (A B : List Int) (x : Int × Int) : List (Int × Int) := walkN m A B 6 [] x
theorem nd_sub_len {α : Type} [DecidableEq α] : ∀ {l s : List α}, l.Nodup → (∀ x, x ∈ l → x ∈ s) → l.length ≤ s.length
  | [], s, _, _ => Nat.zero_le _
  | x :: l, s, hn, hs => by
    obtain ⟨h1, h2⟩ := List.nodup_cons.mp hn
    have hx := hs x List.mem_cons_self
    have := nd_sub_len (s := s.erase x) h2 fun y hy => (List.mem_erase_of_ne (fun z => h1 (by rw [← z]; exact hy))).mpr (hs y (List.mem_cons_of_mem _ hy))
    rw [List.length_erase_of_mem hx] at this
    have : 0 < s.length := List.length_pos_of_mem hx
    rw [List.length_cons]
    omega
theorem walk_len {x0 h : Int × Int} {r : List (Int × Int)} (W : WalkP m A B x0 r h) : r.length ≤ A.length := by
  have := nd_sub_len W.nf (fun x hx => by
    obtain ⟨y, hy, rfl⟩ := List.mem_map.mp hx
    exact (W.inr y hy).a)
  rwa [List.length_map] at this
structure WalkD (m : Cl) (A B : List Int) (x0 : Int × Int) (r : List (Int × Int)) : Prop where
  ne : r ≠ []
  w : WalkP m A B x0 r x0
theorem walkN_ok (D : Deg2 m A B) : ∀ (k : Nat) {x0 h : Int × Int} {r : List (Int × Int)}, WalkP m A B x0 r h → A.length < r.length + k → WalkD m A B x0 (walkN m A B k r h)
  | 0, x0, h, r, W, hl => by
    have := walk_len W
    omega
  | k + 1, x0, h, r, W, hl => by
    unfold walkN
    by_cases c : h ∈ r
    · rw [if_pos c]
      have e := ((walk_back D W).1 (List.mem_map.mpr ⟨h, c, rfl⟩)).1
      subst e
      exact ⟨fun z => by rw [z] at c; simp at c, W⟩
    · rw [if_neg c]
      exact walkN_ok D k (walk_go D W c) (by rw [List.length_append, List.length_singleton]; omega)
theorem walkF_ok (D : Deg2 m A B) (hA : A.length ≤ 5) {x0 : Int × Int} (h : InW m A B x0) : WalkD m A B x0 (walkF m A B x0) := walkN_ok D 6 (walk_0 h) (by simp; omega)
end
end PD

namespace PD
open PySem PySem.Spec PyProof.Rows L2
structure IsBare (n : Nat) (m : Cl) (r : List (Int × Int)) : Prop where
  l3 : 3 ≤ r.length
  rng : ∀ x, x ∈ r → 0 ≤ x.1 ∧ x.1 < (n : Nat) ∧ 0 ≤ x.2 ∧ x.2 < (n : Nat)
  nf : (r.map (·.1)).Nodup
  ns : (r.map (·.2)).Nodup
  hd : ∀ k x y, r[0]? = some x → r[k + 1]? = some y → x.1 < y.1
  iff : ∀ (a b : Nat) x y, r[a]? = some x → r[b]? = some y → (hasK m (x.1, y.2) = true ↔ b = a ∨ b = (a + 1) % r.length)
def partsL (L : List Int) : List (List Int) := L.foldl (fun f x => f ++ f.map (· ++ [x])) [[]]
theorem parts_fold : ∀ (L : List Int) (F : List (List Int)) (A : List Int), A ∈ L.foldl (fun f x => f ++ f.map (· ++ [x])) F ↔ ∃ P S, P ∈ F ∧ S.Sublist L ∧ A = P ++ S
  | [], F, A => by
    constructor
    · exact fun h => ⟨A, [], h, List.Sublist.refl _, by simp⟩
    · rintro ⟨P, S, hP, hS, rfl⟩
      rw [List.sublist_nil.mp hS]
      simpa using hP
  | x :: L, F, A => by
    rw [List.foldl_cons, parts_fold L]
    constructor
    · rintro ⟨P, S, hP, hS, rfl⟩
      rcases List.mem_append.mp hP with z | z
      · exact ⟨P, S, z, hS.cons _, rfl⟩
      · obtain ⟨Q, hQ, rfl⟩ := List.mem_map.mp z
        exact ⟨Q, x :: S, hQ, hS.cons_cons _, by simp⟩
    · rintro ⟨P, S, hP, hS, rfl⟩
      cases hS with
      | cons _ h => exact ⟨P, S, List.mem_append_left _ hP, h, rfl⟩
      | cons_cons _ h => exact ⟨P ++ [x], _, List.mem_append_right _ (List.mem_map.mpr ⟨P, hP, rfl⟩), h, by simp⟩
theorem mem_parts {L A : List Int} : A ∈ partsL L ↔ A.Sublist L := by
  unfold partsL
  rw [parts_fold]
  constructor
  · rintro ⟨P, S, hP, hS, rfl⟩
    rw [List.mem_singleton.mp hP]
    simpa using hS
  · exact fun h => ⟨[], A, by simp, h, by simp⟩
def partsC (n c : Nat) : List (List Int) := (partsL (rgI n)).filter fun A => decide (A.length = c)
theorem mem_partsC {n c : Nat} {A : List Int} : A ∈ partsC n c ↔ A.Sublist (rgI n) ∧ A.length = c := by
  unfold partsC
  rw [List.mem_filter, mem_parts, decide_eq_true_eq]
theorem rgI_lt (n : Nat) : (rgI n).Pairwise (· < ·) := by
  unfold rgI
  rw [List.pairwise_map]
  exact List.pairwise_lt_range.imp fun h => by omega
theorem mem_rgI2 {n : Nat} {x : Int} : x ∈ rgI n ↔ 0 ≤ x ∧ x < (n : Nat) := by
  unfold rgI
  rw [List.mem_map]
  constructor
  · rintro ⟨i, hi, rfl⟩
    have := List.mem_range.mp hi
    omega
  · exact fun h => ⟨x.toNat, List.mem_range.mpr (by omega), by omega⟩
theorem nd_lt {A : List Int} (h : A.Pairwise (· < ·)) : A.Nodup := h.imp fun h => by omega
theorem lt_ext {A B : List Int} (hA : A.Pairwise (· < ·)) (hB : B.Pairwise (· < ·)) (h : ∀ x, x ∈ A ↔ x ∈ B) : A = B := by
  have p := (List.perm_ext_iff_of_nodup (nd_lt hA) (nd_lt hB)).mpr h
  exact sorted_uniq (le := leI) leI_anti p (hA.imp fun h => by unfold leI; simp; omega) (hB.imp fun h => by unfold leI; simp; omega)
def deg2B (m : Cl) (A B : List Int) : Bool := (A.all fun i => decide ((mrL m B i).length = 2)) && B.all fun j => decide ((mcL m A j).length = 2)
def cycAB (m : Cl) (c : Nat) (A B : List Int) : List (List (Int × Int)) := if deg2B m A B = true then ((mrL m B (A.headD 0)).map fun j => walkF m A B (A.headD 0, j)).filter fun r => decide (r.length = c) else []
def cycF (m : Cl) (n : Nat) : List (List (Int × Int)) := (List.range (n - 2)).flatMap fun k => (partsC n (3 + k)).flatMap fun A => (partsC n (3 + k)).flatMap fun B => cycAB m (3 + k) A B
section
variable {m : Cl} {n : Nat} {A B : List Int}
theorem deg2_of (hA : A.Sublist (rgI n)) (hB : B.Sublist (rgI n)) (h : deg2B m A B = true) : Deg2 m A B := by
  unfold deg2B at h
  rw [Bool.and_eq_true, List.all_eq_true, List.all_eq_true] at h
  exact ⟨(nd_lt (rgI_lt n)).sublist hA, (nd_lt (rgI_lt n)).sublist hB, fun i hi => by simpa using h.1 i hi, fun j hj => by simpa using h.2 j hj⟩
theorem full_of {L : List Int} (hn : L.Nodup) (hs : ∀ x, x ∈ L → x ∈ A) (hA : A.Nodup) (hl : A.length ≤ L.length) : ∀ x, x ∈ A → x ∈ L := by
  intro x hx
  by_cases c : x ∈ L
  · exact c
  · have := nd_sub_len (l := x :: L) (s := A) (List.nodup_cons.mpr ⟨c, hn⟩) fun y hy => (List.mem_cons.mp hy).elim (fun z => by rw [z]; exact hx) (hs y)
    rw [List.length_cons] at this
    omega
theorem mod_next {a l : Nat} (h : a < l) : (a + 1) % l = if a + 1 = l then 0 else a + 1 := by
  by_cases c : a + 1 = l
  · rw [if_pos c, c, Nat.mod_self]
  · rw [if_neg c, Nat.mod_eq_of_lt (by omega)]
theorem walk_round {x0 : Int × Int} {r : List (Int × Int)} (W : WalkD m A B x0 r) {a : Nat} {x : Int × Int} (ha : r[a]? = some x) : r[(a + 1) % r.length]? = some (nextW m A B x) := by
  have la := (List.getElem?_eq_some_iff.mp ha).1
  rw [mod_next la]
  split
  · rename_i c
    have l0 : 0 < r.length := by omega
    have e0 : r[0]? = some r[0] := List.getElem?_eq_getElem l0
    have := W.w.hd _ e0
    rw [e0, this, W.w.la a x c ha]
  · have l1 : a + 1 < r.length := by omega
    have e1 : r[a + 1]? = some r[a + 1] := List.getElem?_eq_getElem l1
    rw [e1, W.w.ch a _ _ ha e1]
theorem bare_of_walk (D : Deg2 m A B) (hA : A.Sublist (rgI n)) (hB : B.Sublist (rgI n)) {x0 : Int × Int} {r : List (Int × Int)} (W : WalkD m A B x0 r) (h3 : 3 ≤ A.length) (hl : r.length = A.length) (h0 : x0.1 = A.headD 0) : IsBare n m r ∧ (∀ x, x ∈ A ↔ x ∈ r.map (·.1)) := by
  have f1 : ∀ x, x ∈ r.map (·.1) → x ∈ A := fun x hx => by
    obtain ⟨y, hy, rfl⟩ := List.mem_map.mp hx
    exact (W.w.inr y hy).a
  have hAlt := (rgI_lt n).sublist hA
  refine ⟨⟨by omega, fun x hx => ?_, W.w.nf, W.w.ns, fun k x y hx hy => ?_, fun a b x y hx hy => ?_⟩, fun x => ⟨full_of W.w.nf f1 D.na (by rw [List.length_map]; omega) x, f1 x⟩⟩
  · have i := W.w.inr x hx
    have a1 := mem_rgI2.mp (hA.subset i.a)
    have b1 := mem_rgI2.mp (hB.subset i.b)
    exact ⟨a1.1, a1.2, b1.1, b1.2⟩
  · have ex := W.w.hd x hx
    have hx1 : x.1 = A.headD 0 := by rw [ex]; exact h0
    have ya : y.1 ∈ A := (W.w.inr y (List.mem_of_getElem? hy)).a
    have ne : x.1 ≠ y.1 := fun z => by
      have := nd_at W.w.nf hx hy z
      omega
    cases hAA : A with
    | nil => rw [hAA] at h3; simp at h3
    | cons a A' =>
      rw [hAA] at hx1 ya hAlt
      have hx2 : x.1 = a := hx1
      rcases List.mem_cons.mp ya with z | z
      · rw [z, hx2] at ne
        exact absurd rfl ne
      · rw [hx2]
        exact (List.pairwise_cons.mp hAlt).1 _ z
  · have ix := W.w.inr x (List.mem_of_getElem? hx)
    have iy := W.w.inr y (List.mem_of_getElem? hy)
    have P := (next_p D ix).1
    have hr := walk_round W hx
    constructor
    · intro hk
      rcases P.row _ iy.b hk with z | z
      · exact .inl (nd_at W.w.ns hy hx z)
      · exact .inr (nd_at W.w.ns hy hr z)
    · rintro (z | z)
      · rw [z, hx] at hy
        cases hy
        exact ix.k
      · rw [z, hr] at hy
        cases hy
        exact P.k1
theorem walk_uniq {x0 : Int × Int} {r r' : List (Int × Int)} (W : WalkD m A B x0 r) (W' : WalkD m A B x0 r') : r = r' := by
  have core : ∀ {r r' : List (Int × Int)}, WalkD m A B x0 r → WalkD m A B x0 r' → ∀ k, k < r.length → k < r'.length → r[k]? = r'[k]? := by
    intro r r' W W' k
    induction k with
    | zero =>
      intro h h'
      have e := List.getElem?_eq_getElem h
      have e' := List.getElem?_eq_getElem h'
      rw [e, e', W.w.hd _ e, W'.w.hd _ e']
    | succ k ih =>
      intro h h'
      have hk := ih (by omega) (by omega)
      have e0 := List.getElem?_eq_getElem (l := r) (i := k) (by omega)
      have e0' : r'[k]? = some r[k] := by rw [← hk]; exact e0
      have e := List.getElem?_eq_getElem h
      have e' := List.getElem?_eq_getElem h'
      rw [e, e', W.w.ch k _ _ e0 e, W'.w.ch k _ _ e0' e']
  have nlt : ∀ {r r' : List (Int × Int)}, WalkD m A B x0 r → WalkD m A B x0 r' → ¬ r.length < r'.length := by
    intro r r' W W' hlt
    have hpos := List.length_pos_iff.mpr W.ne
    obtain ⟨k, hk⟩ : ∃ k, k + 1 = r.length := ⟨r.length - 1, by omega⟩
    have e0 := List.getElem?_eq_getElem (l := r) (i := k) (by omega)
    have e0' : r'[k]? = some r[k] := by rw [← core W W' k (by omega) (by omega)]; exact e0
    have e1 := List.getElem?_eq_getElem (l := r') (i := k + 1) (by omega)
    have h1 := W'.w.ch k _ _ e0' e1
    have h2 := W.w.la k _ hk e0
    have ez := List.getElem?_eq_getElem (l := r') (i := 0) (by omega)
    have h3 := W'.w.hd _ ez
    have := nd_at (f := Prod.fst) W'.w.nf e1 ez (by rw [h1, ← h2, h3])
    omega
  have hl : r.length = r'.length := by
    have := nlt W W'
    have := nlt W' W
    omega
  apply List.ext_getElem? 
  intro k
  by_cases h : k < r.length
  · exact core W W' k h (by omega)
  · rw [List.getElem?_eq_none (by omega), List.getElem?_eq_none (by omega)]
end
end PD

namespace PD
open PySem PySem.Spec PyProof.Rows L2
section
variable {m : Cl} {n : Nat} {A B : List Int}
theorem next_uniq (D : Deg2 m A B) {x y : Int × Int} (hx : InW m A B x) (hy : InW m A B y) (h1 : hasK m (x.1, y.2) = true) (h2 : y.2 ≠ x.2) (h3 : y.1 ≠ x.1) : y = nextW m A B x := by
  have P := (next_p D hx).1
  have e2 : y.2 = (nextW m A B x).2 := (P.row _ hy.b h1).resolve_left h2
  have hk : hasK m (y.1, (nextW m A B x).2) = true := by
    rw [← e2]
    exact hy.k
  exact Prod.ext ((P.col _ hy.a hk).resolve_left h3) e2
theorem two_len {L : List Int} (nd : L.Nodup) {a b : Int} (hab : a ≠ b) (h : ∀ x, x ∈ L ↔ x = a ∨ x = b) : L.length = 2 := by
  have p := (List.perm_ext_iff_of_nodup nd (show [a, b].Nodup by simpa using hab)).mpr fun x => by rw [h]; simp
  rw [p.length_eq]
  rfl
theorem next_ne {a l : Nat} (h3 : 3 ≤ l) (h : a < l) : a ≠ (a + 1) % l ∧ (a + 1) % l < l := by
  rw [mod_next h]
  split <;> omega
def shL (n : Nat) (L : List Int) : List Int := (rgI n).filter fun x => decide (x ∈ L)
theorem shL_mem {L : List Int} (h : ∀ x, x ∈ L → 0 ≤ x ∧ x < (n : Nat)) (x : Int) : x ∈ shL n L ↔ x ∈ L := by
  unfold shL
  rw [List.mem_filter, decide_eq_true_eq, mem_rgI2]
  exact ⟨fun z => z.2, fun z => ⟨h x z, z⟩⟩
theorem bare_in (n5 : n ≤ 5) {r : List (Int × Int)} (h : IsBare n m r) : ∃ A B, A.Sublist (rgI n) ∧ B.Sublist (rgI n) ∧ A.length = r.length ∧ B.length = r.length ∧ r ∈ cycAB m r.length A B := by
  have hf : ∀ x : Int, x ∈ r.map (·.1) → 0 ≤ x ∧ x < (n : Nat) := fun x hx => by
    obtain ⟨y, hy, rfl⟩ := List.mem_map.mp hx
    have := h.rng y hy
    omega
  have hs : ∀ x : Int, x ∈ r.map (·.2) → 0 ≤ x ∧ x < (n : Nat) := fun x hx => by
    obtain ⟨y, hy, rfl⟩ := List.mem_map.mp hx
    have := h.rng y hy
    omega
  have mA := shL_mem hf
  have mB := shL_mem hs
  have sA : (shL n (r.map (·.1))).Sublist (rgI n) := List.filter_sublist
  have sB : (shL n (r.map (·.2))).Sublist (rgI n) := List.filter_sublist
  have aA := (rgI_lt n).sublist sA
  have aB := (rgI_lt n).sublist sB
  have lA : (shL n (r.map (·.1))).length = r.length := by
    rw [((List.perm_ext_iff_of_nodup (nd_lt aA) h.nf).mpr mA).length_eq, List.length_map]
  have lB : (shL n (r.map (·.2))).length = r.length := by
    rw [((List.perm_ext_iff_of_nodup (nd_lt aB) h.ns).mpr mB).length_eq, List.length_map]
  generalize shL n (r.map (·.1)) = A at mA sA aA lA
  generalize shL n (r.map (·.2)) = B at mB sB aB lB
  have l3 := h.l3
  have at1 : ∀ {a : Nat} {x : Int × Int}, r[a]? = some x → x.1 ∈ A ∧ x.2 ∈ B := fun {a x} hx => ⟨(mA _).mpr (List.mem_map.mpr ⟨x, List.mem_of_getElem? hx, rfl⟩), (mB _).mpr (List.mem_map.mpr ⟨x, List.mem_of_getElem? hx, rfl⟩)⟩
  have get : ∀ {a : Nat}, a < r.length → ∃ x, r[a]? = some x := fun {a} ha => ⟨_, List.getElem?_eq_getElem ha⟩
  have D : Deg2 m A B := by
    refine ⟨nd_lt aA, nd_lt aB, fun i hi => ?_, fun j hj => ?_⟩
    · obtain ⟨x, hx, rfl⟩ := List.mem_map.mp ((mA i).mp hi)
      obtain ⟨a, ha⟩ := List.mem_iff_getElem?.mp hx
      have la := (List.getElem?_eq_some_iff.mp ha).1
      obtain ⟨ne, lt⟩ := next_ne l3 la
      obtain ⟨y, hy⟩ := get lt
      refine two_len ((nd_lt aB).filter _) (a := x.2) (b := y.2) (fun z => ne (nd_at h.ns ha hy z)) fun c => ?_
      unfold mrL
      rw [List.mem_filter]
      constructor
      · rintro ⟨hc, hk⟩
        obtain ⟨z, hz, rfl⟩ := List.mem_map.mp ((mB c).mp hc)
        obtain ⟨b, hb⟩ := List.mem_iff_getElem?.mp hz
        rcases (h.iff a b x z ha hb).mp hk with e | e
        · rw [e, ha] at hb
          cases hb
          exact .inl rfl
        · rw [e, hy] at hb
          cases hb
          exact .inr rfl
      · rintro (e | e)
        · rw [e]
          exact ⟨(at1 ha).2, (h.iff a a x x ha ha).mpr (.inl rfl)⟩
        · rw [e]
          exact ⟨(at1 hy).2, (h.iff a _ x y ha hy).mpr (.inr rfl)⟩
    · obtain ⟨y, hy, rfl⟩ := List.mem_map.mp ((mB j).mp hj)
      obtain ⟨b, hb⟩ := List.mem_iff_getElem?.mp hy
      have lb := (List.getElem?_eq_some_iff.mp hb).1
      obtain ⟨p, lp, ep⟩ : ∃ p, p < r.length ∧ (p + 1) % r.length = b := by
        by_cases c : b = 0
        · exact ⟨r.length - 1, by omega, by rw [mod_next (by omega), if_pos (by omega), c]⟩
        · exact ⟨b - 1, by omega, by rw [mod_next (by omega), if_neg (by omega)]; omega⟩
      obtain ⟨x, hx⟩ := get lp
      have pb : p ≠ b := fun z => (next_ne l3 lp).1 (by rw [ep, z])
      refine two_len ((nd_lt aA).filter _) (a := y.1) (b := x.1) (fun z => pb (nd_at h.nf hx hb z.symm)) fun c => ?_
      unfold mcL
      rw [List.mem_filter]
      constructor
      · rintro ⟨hc, hk⟩
        obtain ⟨z, hz, rfl⟩ := List.mem_map.mp ((mA c).mp hc)
        obtain ⟨a, ha⟩ := List.mem_iff_getElem?.mp hz
        have la := (List.getElem?_eq_some_iff.mp ha).1
        rcases (h.iff a b z y ha hb).mp hk with e | e
        · rw [← e, hb] at ha
          cases ha
          exact .inl rfl
        · have : a = p := by
            rw [← ep, mod_next la, mod_next lp] at e
            split at e <;> split at e <;> omega
          rw [this, hx] at ha
          cases ha
          exact .inr rfl
      · rintro (e | e)
        · rw [e]
          exact ⟨(at1 hb).1, (h.iff b b y y hb hb).mpr (.inl rfl)⟩
        · rw [e]
          exact ⟨(at1 hx).1, (h.iff p b x y hx hb).mpr (.inr ep.symm)⟩
  obtain ⟨x0, h0⟩ := get (show 0 < r.length by omega)
  have inw : ∀ x, x ∈ r → InW m A B x := fun x hx => by
    obtain ⟨a, ha⟩ := List.mem_iff_getElem?.mp hx
    exact ⟨(at1 ha).1, (at1 ha).2, (h.iff a a x x ha ha).mpr (.inl rfl)⟩
  have nx : ∀ {a : Nat} {x y : Int × Int}, r[a]? = some x → r[(a + 1) % r.length]? = some y → y = nextW m A B x := fun {a x y} ha hy => by
    have la := (List.getElem?_eq_some_iff.mp ha).1
    have ne := (next_ne l3 la).1
    exact next_uniq D (inw x (List.mem_of_getElem? ha)) (inw y (List.mem_of_getElem? hy)) ((h.iff a _ x y ha hy).mpr (.inr rfl)) (fun z => ne (nd_at h.ns ha hy z.symm)) fun z => ne (nd_at h.nf ha hy z.symm)
  have W : WalkD m A B x0 r := by
    have rne : r ≠ [] := fun z => by rw [z] at l3; exact absurd l3 (by decide)
    refine ⟨rne, ⟨fun x hx => (Option.some.inj (h0.symm.trans hx)).symm, fun z => absurd z rne, inw, inw _ (List.mem_of_getElem? h0), fun k x y hx hy => nx hx ?_, fun k x hk hx => nx hx ?_, h.nf, h.ns⟩⟩
    · have := (List.getElem?_eq_some_iff.mp hy).1
      rw [mod_next (by omega), if_neg (by omega)]
      exact hy
    · rw [mod_next (by omega), if_pos hk]
      exact h0
  have hhead : A.headD 0 = x0.1 := by
    cases hAA : A with
    | nil => rw [hAA] at lA; simp at lA; omega
    | cons a A' =>
      show a = x0.1
      have ha : a ∈ A := by rw [hAA]; exact List.mem_cons_self
      obtain ⟨y, hy, e⟩ := List.mem_map.mp ((mA a).mp ha)
      obtain ⟨k, hk⟩ := List.mem_iff_getElem?.mp hy
      cases k with
      | zero =>
        rw [h0] at hk
        cases hk
        exact e.symm
      | succ k =>
        have lt := h.hd k x0 y h0 hk
        have hx0 := (at1 h0).1
        rw [hAA] at hx0 aA
        rcases List.mem_cons.mp hx0 with z | z
        · exact z.symm
        · have := (List.pairwise_cons.mp aA).1 _ z
          have e' : y.1 = a := e
          omega
  refine ⟨A, B, sA, sB, lA, lB, ?_⟩
  unfold cycAB
  have hd2 : deg2B m A B = true := by
    unfold deg2B
    rw [Bool.and_eq_true, List.all_eq_true, List.all_eq_true]
    exact ⟨fun i hi => by simpa using D.ra i hi, fun j hj => by simpa using D.cb j hj⟩
  rw [if_pos hd2, List.mem_filter, List.mem_map, decide_eq_true_eq]
  have ix0 := inw _ (List.mem_of_getElem? h0)
  refine ⟨⟨x0.2, List.mem_filter.mpr ⟨ix0.b, by rw [hhead]; exact ix0.k⟩, ?_⟩, rfl⟩
  rw [hhead]
  refine walk_uniq (walkF_ok D ?_ ix0) W
  have := sA.length_le
  have : (rgI n).length = n := by simp [rgI]
  omega
theorem cycAB_ok (n5 : n ≤ 5) {c : Nat} (c3 : 3 ≤ c) (hA : A ∈ partsC n c) (hB : B ∈ partsC n c) {r : List (Int × Int)} (h : r ∈ cycAB m c A B) : IsBare n m r ∧ r.length = c ∧ (∀ x, x ∈ A ↔ x ∈ r.map (·.1)) ∧ (∀ x, x ∈ B ↔ x ∈ r.map (·.2)) ∧ ∃ j, r = walkF m A B (A.headD 0, j) ∧ r[0]? = some (A.headD 0, j) := by
  obtain ⟨sA, lA⟩ := mem_partsC.mp hA
  obtain ⟨sB, lB⟩ := mem_partsC.mp hB
  unfold cycAB at h
  split at h
  rotate_left
  · simp at h
  rename_i hd
  have D := deg2_of sA sB hd
  rw [List.mem_filter, decide_eq_true_eq] at h
  obtain ⟨h, hl⟩ := h
  obtain ⟨j, hj, rfl⟩ := List.mem_map.mp h
  obtain ⟨jb, jk⟩ := List.mem_filter.mp hj
  have ha : A.headD 0 ∈ A := by
    cases A with
    | nil => simp at lA; omega
    | cons a A => exact List.mem_cons_self
  have n5' : A.length ≤ 5 := by
    have := sA.length_le
    have : (rgI n).length = n := by simp [rgI]
    omega
  have W := walkF_ok D n5' (show InW m A B (A.headD 0, j) from ⟨ha, jb, jk⟩)
  obtain ⟨b1, b2⟩ := bare_of_walk (n := n) D sA sB W (by omega) (by omega) rfl
  have s1 : ∀ x, x ∈ (walkF m A B (A.headD 0, j)).map (·.2) → x ∈ B := fun x hx => by
    obtain ⟨y, hy, rfl⟩ := List.mem_map.mp hx
    exact (W.w.inr y hy).b
  refine ⟨b1, hl, b2, fun x => ⟨full_of W.w.ns s1 D.nb (by rw [List.length_map]; omega) x, s1 x⟩, j, rfl, ?_⟩
  have l0 : 0 < (walkF m A B (A.headD 0, j)).length := by omega
  have e0 := List.getElem?_eq_getElem l0
  rw [e0, W.w.hd _ e0]
theorem mem_cycF (n5 : n ≤ 5) {r : List (Int × Int)} : r ∈ cycF m n ↔ IsBare n m r := by
  unfold cycF
  simp only [List.mem_flatMap, List.mem_range]
  constructor
  · rintro ⟨k, hk, A, hA, B, hB, h⟩
    exact (cycAB_ok n5 (by omega) hA hB h).1
  · intro h
    obtain ⟨A, B, sA, sB, lA, lB, hr⟩ := bare_in n5 h
    have l3 := h.l3
    have ln : r.length ≤ n := by
      have := sA.length_le
      have : (rgI n).length = n := by simp [rgI]
      omega
    refine ⟨r.length - 3, by omega, A, mem_partsC.mpr ⟨sA, by omega⟩, B, mem_partsC.mpr ⟨sB, by omega⟩, ?_⟩
    rw [show 3 + (r.length - 3) = r.length by omega]
    exact hr
theorem parts_nd (n5 : n ≤ 5) : (partsL (rgI n)).Nodup := by
  have : n = 0 ∨ n = 1 ∨ n = 2 ∨ n = 3 ∨ n = 4 ∨ n = 5 := by omega
  rcases this with rfl | rfl | rfl | rfl | rfl | rfl <;> decide +kernel
theorem cycF_nd (n5 : n ≤ 5) : (cycF m n).Nodup := by
  have pn : ∀ c, (partsC n c).Nodup := fun c => (parts_nd n5).filter _
  have lt : ∀ {c : Nat} {A : List Int}, A ∈ partsC n c → A.Pairwise (· < ·) := fun h => (rgI_lt n).sublist (mem_partsC.mp h).1
  unfold cycF List.Nodup
  rw [List.pairwise_flatMap]
  refine ⟨fun k hk => ?_, (List.nodup_range).imp fun {a b} ne x hx y hy e => ?_⟩
  · rw [List.pairwise_flatMap]
    refine ⟨fun A hA => ?_, (pn (3 + k)).imp_of_mem fun {A A'} hA hA' ne x hx y hy e => ?_⟩
    · rw [List.pairwise_flatMap]
      refine ⟨fun B hB => ?_, (pn (3 + k)).imp_of_mem fun {B B'} hB hB' ne x hx y hy e => ?_⟩
      · show (cycAB m (3 + k) A B).Nodup
        unfold cycAB
        split
        rotate_left
        · exact List.Pairwise.nil
        rename_i hd
        have D := deg2_of (mem_partsC.mp hA).1 (mem_partsC.mp hB).1 hd
        refine List.Pairwise.filter _ (nodup_map_on (fun a b ha hb e => ?_) (D.nb.filter _))
        have w : ∀ j, j ∈ mrL m B (A.headD 0) → WalkD m A B (A.headD 0, j) (walkF m A B (A.headD 0, j)) := fun j hj => by
          obtain ⟨jb, jk⟩ := List.mem_filter.mp hj
          have ha : A.headD 0 ∈ A := by
            have lA := (mem_partsC.mp hA).2
            cases A with
            | nil => simp at lA; omega
            | cons a A => exact List.mem_cons_self
          refine walkF_ok D ?_ ⟨ha, jb, jk⟩
          have := (mem_partsC.mp hA).1.length_le
          have : (rgI n).length = n := by simp [rgI]
          omega
        have wa := w a ha
        have wb := w b hb
        obtain ⟨z, e0⟩ : ∃ z, (walkF m A B (A.headD 0, a))[0]? = some z := ⟨_, List.getElem?_eq_getElem (List.length_pos_iff.mpr wa.ne)⟩
        have h1 := wa.w.hd _ e0
        rw [e] at e0
        have h2 := wb.w.hd _ e0
        rw [h1] at h2
        exact (Prod.mk.inj h2).2
      · obtain ⟨_, _, _, h1, _⟩ := cycAB_ok n5 (by omega) hA hB hx
        obtain ⟨_, _, _, h2, _⟩ := cycAB_ok n5 (by omega) hA hB' hy
        rw [e] at h1
        exact ne (lt_ext (lt hB) (lt hB') fun z => (h1 z).trans (h2 z).symm)
    · obtain ⟨B, hB, hx⟩ := List.mem_flatMap.mp hx
      obtain ⟨B', hB', hy⟩ := List.mem_flatMap.mp hy
      obtain ⟨_, _, h1, _⟩ := cycAB_ok n5 (by omega) hA hB hx
      obtain ⟨_, _, h2, _⟩ := cycAB_ok n5 (by omega) hA' hB' hy
      rw [e] at h1
      exact ne (lt_ext (lt hA) (lt hA') fun z => (h1 z).trans (h2 z).symm)
  · obtain ⟨A, hA, hx⟩ := List.mem_flatMap.mp hx
    obtain ⟨B, hB, hx⟩ := List.mem_flatMap.mp hx
    obtain ⟨A', hA', hy⟩ := List.mem_flatMap.mp hy
    obtain ⟨B', hB', hy⟩ := List.mem_flatMap.mp hy
    have h1 := (cycAB_ok n5 (by omega) hA hB hx).2.1
    have h2 := (cycAB_ok n5 (by omega) hA' hB' hy).2.1
    rw [e] at h1
    omega
end
end PD

namespace PD
open PySem PySem.Spec PyProof.Rows L2
theorem parts_len {n c : Nat} (n5 : n ≤ 5) : (partsC n c).length ≤ 10 := by
  by_cases h : c ≤ 5
  · have hn : n = 0 ∨ n = 1 ∨ n = 2 ∨ n = 3 ∨ n = 4 ∨ n = 5 := by omega
    have hc : c = 0 ∨ c = 1 ∨ c = 2 ∨ c = 3 ∨ c = 4 ∨ c = 5 := by omega
    rcases hn with rfl | rfl | rfl | rfl | rfl | rfl <;> rcases hc with rfl | rfl | rfl | rfl | rfl | rfl <;> decide +kernel
  · have : partsC n c = [] := by
      rw [List.eq_nil_iff_forall_not_mem]
      intro A hA
      obtain ⟨h1, h2⟩ := mem_partsC.mp hA
      have := h1.length_le
      have : (rgI n).length = n := by simp [rgI]
      omega
    rw [this]
    simp
theorem flat_len {α β : Type} {f : α → List β} {M : Nat} : ∀ {l : List α}, (∀ x, x ∈ l → (f x).length ≤ M) → (l.flatMap f).length ≤ l.length * M
  | [], _ => by simp
  | x :: l, h => by
    rw [List.flatMap_cons, List.length_append, List.length_cons, Nat.succ_mul]
    have := flat_len fun y hy => h y (List.mem_cons_of_mem _ hy)
    have := h x List.mem_cons_self
    omega
theorem cycAB_len {m : Cl} {c : Nat} {A B : List Int} (hA : A ≠ []) : (cycAB m c A B).length ≤ 2 := by
  unfold cycAB
  split
  · rename_i hd
    unfold deg2B at hd
    rw [Bool.and_eq_true, List.all_eq_true] at hd
    have h2 := hd.1 (A.headD 0) (by cases A with
      | nil => exact absurd rfl hA
      | cons a A => exact List.mem_cons_self)
    have h2 : (mrL m B (A.headD 0)).length = 2 := by simpa using h2
    have := List.length_filter_le (fun r : List (Int × Int) => decide (r.length = c)) ((mrL m B (A.headD 0)).map fun j => walkF m A B (A.headD 0, j))
    rw [List.length_map] at this
    omega
  · simp
theorem cycF_len {m : Cl} {n : Nat} (n5 : n ≤ 5) : (cycF m n).length ≤ 600 := by
  unfold cycF
  refine Nat.le_trans (flat_len (M := 10 * (10 * 2)) fun k _ => Nat.le_trans (flat_len (M := 10 * 2) fun A hA => Nat.le_trans (flat_len (M := 2) fun B _ => cycAB_len ?_) (Nat.mul_le_mul (parts_len n5) (Nat.le_refl _))) (Nat.mul_le_mul (parts_len n5) (Nat.le_refl _))) ?_
  · have := (mem_partsC.mp hA).2
    intro z
    rw [z] at this
    simp at this
    omega
  · rw [List.length_range]
    omega
theorem alike_pairs : ∀ (a b : List (Int × Int)), PySem.W.alikeAll (a.map pairD) (b.map pairD) = true
  | [], b => by rw [List.map_nil, PySem.W.alikeAll]
  | _ :: _, [] => by rw [List.map_cons, List.map_nil, PySem.W.alikeAll]
  | x :: a, y :: b => by
    rw [List.map_cons, List.map_cons, PySem.W.alikeAll, alike_pairs a b]
    rfl
theorem nd_pairs (a : List (Int × Int)) : ndDs (a.map pairD) = true := nd_of_all fun d hd => by
  obtain ⟨k, _, rfl⟩ := List.mem_map.mp hd
  rfl
theorem sortC_rgs {S : List (List (Int × Int))} (hl : S.length ≤ 1000) (hne : ∀ r, r ∈ S → r ≠ []) : sortC (S.map rgD) = true := by
  unfold sortC
  simp only [Bool.and_eq_true, Bool.or_eq_true]
  refine ⟨⟨⟨⟨?_, .inl ?_⟩, ?_⟩, ?_⟩, ?_⟩
  · rw [List.all_eq_true]
    intro d hd
    rw [List.all_eq_true]
    intro d' hd'
    obtain ⟨k, _, rfl⟩ := List.mem_map.mp hd
    obtain ⟨k', _, rfl⟩ := List.mem_map.mp hd'
    show PySem.W.alike (.tuple _) (.tuple _) = true
    rw [PySem.W.alike]
    exact alike_pairs k k'
  · rw [List.all_eq_true]
    intro d hd
    obtain ⟨k, hk, rfl⟩ := List.mem_map.mp hd
    cases k with
    | nil => exact absurd rfl (hne _ hk)
    | cons x k => rfl
  · exact nd_of_all fun d hd => by
      obtain ⟨k, _, rfl⟩ := List.mem_map.mp hd
      show ndD (.tuple _) = true
      rw [ndD]
      exact nd_pairs k
  · simp only [decide_eq_true_eq, List.length_map]
    exact size_le hl
  · rw [List.all_eq_true]
    intro d hd
    obtain ⟨k, _, rfl⟩ := List.mem_map.mp hd
    have := depth_pairs k
    simp only [decide_eq_true_eq]
    show (PyData.tuple _).depth ≤ 60
    rw [PyData.depth]
    omega
def leR (a b : List (Int × Int)) : Bool := PySem.W.dataLe false (fun d => d) (rgD a) (rgD b)
def sortR (S : List (List (Int × Int))) : List (List (Int × Int)) := S.mergeSort leR
theorem sortL_rgs (S : List (List (Int × Int))) : sortL (S.map rgD) = (sortR S).map rgD := by
  unfold sortL sortR
  rw [List.map_mergeSort (s := PySem.W.dataLe false fun d => d) (r := leR)]
  intro a _ b _
  rfl
theorem eqD_intsL (A B : List Int) : eqD (.list (A.map .int)) (.list (B.map .int)) = some (decide (A = B)) := by
  unfold eqD
  have : eqSh (.list (A.map .int)) (.list (B.map .int)) = some (decide (A = B)) := by
    unfold eqSh
    rw [shaped_ints, shaped_ints]
    simp only [Bool.and_self, if_true]
    rw [PyData.eqv, eqv_intsA]
  rw [this]
  rfl
end PD

namespace PD
open PySem PySem.Spec PyProof.Rows L2
section
variable {prog : Program} {w : World} {A : Around} {R : Result → Shared → Prop} {I S : Addr} {fp wr : List Addr} {n : Nat} {P : Nat → Value → Prop} {St : Nat → Heap → Prop} {dv : Value} {bt : Nat → Nat → Bool}
end
section
variable {prog : Program} {w : World} {A : Around} {E : Value → Shared → Prop} {s : Shared} {l : Addr} {xs : Array (Int × Tok)} {dv : Value}
end
section
variable {prog : Program} {w : World} {A : Around} {R : Result → Shared → Prop} {I S : Addr} {fp wr : List Addr} {n : Nat} {P : Nat → Value → Prop} {St : Nat → Heap → Prop} {dv : Value} {bt : Nat → Nat → Bool}
end
section
variable {prog : Program} {w : World} {A : Around} {E : Value → Shared → Prop} {s : Shared} {l : Addr} {xs : Array (Int × Tok)} {dv : Value}
end
section
variable {prog : Program} {w : World} {A : Around} {E : Value → Shared → Prop} {s : Shared} {l : Addr} {its : List Value} {ns : List Int} {dv : Value}
end
section
variable {X : Cx}
end
section
variable {prog : Program} {w : World} {A : Around} {E : Value → Shared → Prop} {s : Shared} {l : Addr} {its : List Value} {ns : List Int} {dv : Value}
end
section
variable {X : Cx}
end
end PD

namespace PD
open PySem PySem.Spec PyProof.Rows L2
section
variable {prog : Program} {w : World} {A : Around} {E : Value → Shared → Prop} {s : Shared}
end
end PD

namespace PD
open PySem PySem.Spec PyProof.Rows L2
def ZsF (own : Value) : Prop := own = .none ∨ ∃ a : Nat, own = rawInt a
section
variable {prog : Program} {w : World} {A : Around} {E : Value → Shared → Prop} {s : Shared} {zz ti tou j1 j2 : Addr} {c1 c2 : List Addr} {m i : Nat} {U1 U2 : Nat → Value → Prop} {W1 W2 : Nat → Heap → Prop} {own flag b1 b2 : Value}
end
end PD

namespace PD
open PySem PySem.Spec PyProof.Rows L2
section
variable {zz ti tou j1 j2 : Addr} {c1 c2 : List Addr} {m i : Nat} {U1 U2 : Nat → Value → Prop} {W1 W2 : Nat → Heap → Prop} {lo : Addr} {h h' : Heap} {as : List Addr}
variable {prog : Program} {w : World} {A : Around}
end
section
variable {prog : Program} {w : World} {A : Around} {s : Shared} {R : Result → Shared → Prop} {zz ti tou j1 j2 : Addr} {c1 c2 : List Addr} {m : Nat} {U1 U2 : Nat → Value → Prop} {W1 W2 : Nat → Heap → Prop}
end
section
variable {prog : Program} {w : World} {A : Around} {E : Value → Shared → Prop} {s : Shared} {zz ti tou j1 j2 : Addr} {c1 c2 : List Addr} {m : Nat} {U1 U2 : Nat → Value → Prop} {W1 W2 : Nat → Heap → Prop}
end
end PD

namespace PD
open PySem PySem.Spec PyProof.Rows L2
section
variable {M : Model} {A : Around} {E : Value → Shared → Prop} {s : Shared} {env : Env}
end
section
variable {X : Cx}
end
section
variable {X : Cx} {cl : Nat → Addr} {W : WX} {e1 e2 : Expr} {ma mb : M PyData} {p1 p2 p3 p4 q1 q2 : Pos} {jj : Nat}
end
end PD

namespace PD
open PySem PySem.Spec PyProof.Rows L2
abbrev Tr := Int × List (Int × Int)
def rowsT (t : Tr) : List Int := t.1 :: t.2.map (·.2)
def colsT (t : Tr) : List Int := t.2.map (·.1)
def lastT (t : Tr) : Int := (t.2.map (·.2)).getLastD t.1
def extT (t : Tr) (p : Int × Int) : Tr := (t.1, t.2 ++ [p])
def rgF (a : Int) (n : Nat) : List Int := (rgI n).filter fun i => decide (a + 1 ≤ i)
def goJ (m : Cl) (t : Tr) (j : Int) : Bool := !decide (j ∈ colsT t) && (hasK m (lastT t, j) && (rowsT t).dropLast.all fun i => !hasK m (i, j))
def goI (m : Cl) (t : Tr) (j i : Int) : Bool := !decide (i ∈ rowsT t) && (hasK m (i, j) && (colsT t).all fun c => !hasK m (i, c))
def goP (n : Nat) (m : Cl) (t : Tr) : List (Int × Int) := (rgI n).flatMap fun j => if goJ m t j = true then ((rgF t.1 n).filter (goI m t j)).map fun i => (j, i) else []
def clJ (m : Cl) (t : Tr) (j : Int) : Bool := decide (2 < (rowsT t).length) && (!decide (j ∈ colsT t) && ((hasK m (t.1, j) && hasK m (lastT t, j)) && (t.2.map (·.2)).dropLast.all fun i => !hasK m (i, j)))
def clP (n : Nat) (m : Cl) (t : Tr) : List Int := (rgI n).filter (clJ m t)
def ringT (t : Tr) (j : Int) : List (Int × Int) := (t.1, j) :: t.2.map fun p => (p.2, p.1)
theorem rows_ext (t : Tr) (p : Int × Int) : rowsT (extT t p) = rowsT t ++ [p.2] := by simp [rowsT, extT]
theorem cols_ext (t : Tr) (p : Int × Int) : colsT (extT t p) = colsT t ++ [p.1] := by simp [colsT, extT]
theorem rows_len (t : Tr) : (rowsT t).length = (colsT t).length + 1 := by simp [rowsT, colsT]
theorem last_at (t : Tr) : (rowsT t)[(colsT t).length]? = some (lastT t) := by
  obtain ⟨r, ps⟩ := t
  show (r :: ps.map (·.2))[(ps.map (·.1)).length]? = some ((ps.map (·.2)).getLastD r)
  rw [List.length_map]
  rcases List.eq_nil_or_concat ps with h | ⟨q, p, h⟩
  · subst h; rfl
  · subst h
    simp [List.getLastD_eq_getLast?]
theorem dropLast_at {L : List Int} {x : Int} : x ∈ L.dropLast ↔ ∃ a, a + 1 < L.length ∧ L[a]? = some x := by
  constructor
  · intro h
    obtain ⟨a, ha⟩ := List.mem_iff_getElem?.mp h
    obtain ⟨la, ea⟩ := List.getElem?_eq_some_iff.mp ha
    rw [List.length_dropLast] at la
    refine ⟨a, by omega, ?_⟩
    rw [List.getElem_dropLast] at ea
    rw [← ea]
    exact List.getElem?_eq_getElem _
  · rintro ⟨a, la, ha⟩
    refine List.mem_iff_getElem?.mpr ⟨a, ?_⟩
    obtain ⟨l2, e2⟩ := List.getElem?_eq_some_iff.mp ha
    have : a < L.dropLast.length := by rw [List.length_dropLast]; omega
    rw [List.getElem?_eq_getElem this, List.getElem_dropLast, e2]
theorem mem_goP {n : Nat} {m : Cl} {t : Tr} {p : Int × Int} : p ∈ goP n m t ↔ p.1 ∈ rgI n ∧ p.1 ∉ colsT t ∧ hasK m (lastT t, p.1) = true ∧ (∀ x, x ∈ (rowsT t).dropLast → hasK m (x, p.1) = false) ∧ p.2 ∈ rgI n ∧ t.1 < p.2 ∧ p.2 ∉ rowsT t ∧ hasK m (p.2, p.1) = true ∧ ∀ c, c ∈ colsT t → hasK m (p.2, c) = false := by
  unfold goP
  rw [List.mem_flatMap]
  constructor
  · rintro ⟨j, hj, h⟩
    split at h
    · rename_i g
      obtain ⟨i, hi, rfl⟩ := List.mem_map.mp h
      obtain ⟨h1, h2⟩ := List.mem_filter.mp hi
      obtain ⟨h3, h4⟩ := List.mem_filter.mp h1
      unfold goJ at g
      unfold goI at h2
      simp only [Bool.and_eq_true, Bool.not_eq_true', decide_eq_false_iff_not, List.all_eq_true, decide_eq_true_eq] at g h2 h4
      exact ⟨hj, g.1, g.2.1, g.2.2, h3, by show t.1 < i; omega, h2.1, h2.2.1, h2.2.2⟩
    · cases h
  · rintro ⟨h1, h2, h3, h4, h5, h6, h7, h8, h9⟩
    refine ⟨p.1, h1, ?_⟩
    have g : goJ m t p.1 = true := by
      unfold goJ
      simp only [Bool.and_eq_true, Bool.not_eq_true', decide_eq_false_iff_not, List.all_eq_true]
      exact ⟨h2, h3, h4⟩
    rw [if_pos g]
    refine List.mem_map.mpr ⟨p.2, List.mem_filter.mpr ⟨List.mem_filter.mpr ⟨h5, by simp only [decide_eq_true_eq]; omega⟩, ?_⟩, rfl⟩
    unfold goI
    simp only [Bool.and_eq_true, Bool.not_eq_true', decide_eq_false_iff_not, List.all_eq_true]
    exact ⟨h7, h8, h9⟩
theorem mem_clP {n : Nat} {m : Cl} {t : Tr} {j : Int} : j ∈ clP n m t ↔ j ∈ rgI n ∧ 2 < (rowsT t).length ∧ j ∉ colsT t ∧ hasK m (t.1, j) = true ∧ hasK m (lastT t, j) = true ∧ ∀ x, x ∈ (t.2.map (·.2)).dropLast → hasK m (x, j) = false := by
  unfold clP clJ
  rw [List.mem_filter]
  simp only [Bool.and_eq_true, Bool.not_eq_true', decide_eq_false_iff_not, List.all_eq_true, decide_eq_true_eq, and_assoc]
structure IsTr (n : Nat) (m : Cl) (t : Tr) : Prop where
  rr : ∀ x, x ∈ rowsT t → x ∈ rgI n
  rc : ∀ x, x ∈ colsT t → x ∈ rgI n
  nr : (rowsT t).Nodup
  nc : (colsT t).Nodup
  lt : ∀ p, p ∈ t.2 → t.1 < p.2
  iff : ∀ (a b : Nat) x y, (rowsT t)[a]? = some x → (colsT t)[b]? = some y → (hasK m (x, y) = true ↔ a = b ∨ a = b + 1)
theorem isTr_one {n : Nat} {m : Cl} {i : Int} : IsTr n m (i, []) ↔ i ∈ rgI n := by
  constructor
  · intro h; exact h.rr i (by simp [rowsT])
  · intro h
    exact ⟨fun x hx => by simp [rowsT] at hx; rw [hx]; exact h, fun x hx => by simp [colsT] at hx, by simp [rowsT], by simp [colsT], fun p hp => (by cases hp), fun a b x y _ hb => (by simp [colsT] at hb)⟩
theorem snoc_at {α : Type} {L : List α} {x z : α} {a : Nat} (h : (L ++ [z])[a]? = some x) : (a < L.length ∧ L[a]? = some x) ∨ (a = L.length ∧ x = z) := by
  rcases Nat.lt_or_ge a L.length with g | g
  · rw [List.getElem?_append_left g] at h
    exact .inl ⟨g, h⟩
  · rw [List.getElem?_append_right g] at h
    cases q : a - L.length with
    | zero =>
      rw [q] at h
      exact .inr ⟨by omega, by simpa using h.symm⟩
    | succ k => rw [q] at h; simp at h
theorem isTr_ext {n : Nat} {m : Cl} {t : Tr} {p : Int × Int} : IsTr n m (extT t p) ↔ IsTr n m t ∧ p ∈ goP n m t := by
  have len := rows_len t
  have la := last_at t
  constructor
  · intro h
    have rx := rows_ext t p
    have cx := cols_ext t p
    have rr := h.rr
    have rc := h.rc
    have nr := h.nr
    have nc := h.nc
    have hi := h.iff
    rw [rx] at rr nr hi
    rw [cx] at rc nc hi
    obtain ⟨nr1, _, nr2⟩ := List.nodup_append.mp nr
    obtain ⟨nc1, _, nc2⟩ := List.nodup_append.mp nc
    have atR : ∀ {a x}, (rowsT t)[a]? = some x → (rowsT t ++ [p.2])[a]? = some x := fun {a x} e => by
      rw [List.getElem?_append_left (List.getElem?_eq_some_iff.mp e).1]; exact e
    have atC : ∀ {a x}, (colsT t)[a]? = some x → (colsT t ++ [p.1])[a]? = some x := fun {a x} e => by
      rw [List.getElem?_append_left (List.getElem?_eq_some_iff.mp e).1]; exact e
    have newR : (rowsT t ++ [p.2])[(colsT t).length + 1]? = some p.2 := by rw [← len]; simp
    have newC : (colsT t ++ [p.1])[(colsT t).length]? = some p.1 := by simp
    refine ⟨⟨fun x hx => rr x (List.mem_append_left _ hx), fun x hx => rc x (List.mem_append_left _ hx), nr1, nc1, fun q hq => h.lt q (List.mem_append_left _ hq), fun a b x y ha hb => hi a b x y (atR ha) (atC hb)⟩, mem_goP.mpr ⟨rc _ (by simp), fun z => nc2 _ z p.1 (by simp) rfl, (hi _ _ _ _ (atR la) newC).mpr (.inl rfl), fun x hx => ?_, rr _ (by simp), h.lt p (List.mem_append_right _ (by simp)), fun z => nr2 _ z p.2 (by simp) rfl, (hi _ _ _ _ newR newC).mpr (.inr rfl), fun c hc => ?_⟩⟩
    · obtain ⟨a, l, ha⟩ := dropLast_at.mp hx
      cases q : hasK m (x, p.1) with
      | false => rfl
      | true =>
        rcases (hi _ _ _ _ (atR ha) newC).mp q with z | z <;> omega
    · obtain ⟨b, hb⟩ := List.mem_iff_getElem?.mp hc
      have lb := (List.getElem?_eq_some_iff.mp hb).1
      cases q : hasK m (p.2, c) with
      | false => rfl
      | true =>
        rcases (hi _ _ _ _ newR (atC hb)).mp q with z | z <;> omega
  · rintro ⟨h, g⟩
    obtain ⟨g1, g2, g3, g4, g5, g6, g7, g8, g9⟩ := mem_goP.mp g
    refine ⟨fun x hx => ?_, fun x hx => ?_, ?_, ?_, fun q hq => ?_, fun a b x y ha hb => ?_⟩
    · rw [rows_ext] at hx
      exact (List.mem_append.mp hx).elim (h.rr x) fun z => by rw [List.mem_singleton.mp z]; exact g5
    · rw [cols_ext] at hx
      exact (List.mem_append.mp hx).elim (h.rc x) fun z => by rw [List.mem_singleton.mp z]; exact g1
    · rw [rows_ext]
      exact List.nodup_append.mpr ⟨h.nr, List.pairwise_singleton _ _, fun x hx y hy e => g7 (by rw [← List.mem_singleton.mp hy, ← e]; exact hx)⟩
    · rw [cols_ext]
      exact List.nodup_append.mpr ⟨h.nc, List.pairwise_singleton _ _, fun x hx y hy e => g2 (by rw [← List.mem_singleton.mp hy, ← e]; exact hx)⟩
    · exact (List.mem_append.mp hq).elim (h.lt q) fun z => by rw [List.mem_singleton.mp z]; exact g6
    · rw [rows_ext] at ha
      rw [cols_ext] at hb
      rcases snoc_at ha with ⟨la1, ha1⟩ | ⟨la1, rfl⟩
      · rcases snoc_at hb with ⟨lb1, hb1⟩ | ⟨lb1, rfl⟩
        · exact h.iff a b x y ha1 hb1
        · rcases Nat.lt_or_ge (a + 1) (rowsT t).length with z | z
          · have := g4 x (dropLast_at.mpr ⟨a, z, ha1⟩)
            rw [this]
            constructor
            · intro q; cases q
            · omega
          · have e : a = (colsT t).length := by omega
            rw [e] at ha1
            rw [la] at ha1
            cases ha1
            exact ⟨fun _ => .inl (by omega), fun _ => g3⟩
      · rcases snoc_at hb with ⟨lb1, hb1⟩ | ⟨lb1, rfl⟩
        · rw [g9 y (List.mem_of_getElem? hb1)]
          constructor
          · intro q; cases q
          · omega
        · exact ⟨fun _ => .inr (by omega), fun _ => g8⟩
end PD

namespace PD
open PySem PySem.Spec PyProof.Rows L2
def extM (n : Nat) (m : Cl) (k : Nat) (t : Tr) : List Tr := if (rowsT t).length < k then (goP n m t).map (extT t) else []
def trS (n : Nat) : List Tr := (rgI n).map fun i => (i, [])
def trV (n : Nat) (m : Cl) (k : Nat) : Nat → List Tr
  | 0 => trS n
  | l + 1 => (trV n m k l).flatMap (extM n m k)
def trA (n : Nat) (m : Cl) (k : Nat) : List Tr := (List.range n).flatMap (trV n m k)
section
variable {n : Nat} {m : Cl} {k : Nat}
theorem extM_len {t u : Tr} (h : u ∈ extM n m k t) : u.2.length = t.2.length + 1 := by
  unfold extM at h
  split at h
  · obtain ⟨p, _, rfl⟩ := List.mem_map.mp h
    simp [extT]
  · cases h
theorem rgI_len (n : Nat) : (rgI n).length = n := by simp [rgI]
theorem rgI_nd (n : Nat) : (rgI n).Nodup := nd_lt (rgI_lt n)
theorem isTr_len {t : Tr} (h : IsTr n m t) : t.2.length + 1 ≤ n := by
  have := nd_sub_len h.nr h.rr
  rw [rgI_len, rows_len] at this
  simpa [colsT] using this
theorem mem_trV : ∀ {l : Nat} {t : Tr}, t ∈ trV n m k l ↔ IsTr n m t ∧ t.2.length = l ∧ (l = 0 ∨ l + 1 ≤ k)
  | 0, t => by
    show t ∈ (rgI n).map (fun i => ((i, []) : Tr)) ↔ _
    rw [List.mem_map]
    constructor
    · rintro ⟨i, hi, rfl⟩
      exact ⟨isTr_one.mpr hi, rfl, .inl rfl⟩
    · rintro ⟨h, h2, _⟩
      obtain ⟨r, ps⟩ := t
      have : ps = [] := List.length_eq_zero_iff.mp h2
      subst this
      exact ⟨r, isTr_one.mp h, rfl⟩
  | l + 1, t => by
    show t ∈ (trV n m k l).flatMap (extM n m k) ↔ _
    rw [List.mem_flatMap]
    constructor
    · rintro ⟨u, hu, h⟩
      obtain ⟨u1, u2, u3⟩ := mem_trV.mp hu
      have hl := extM_len h
      unfold extM at h
      split at h
      · rename_i g
        obtain ⟨p, hp, rfl⟩ := List.mem_map.mp h
        rw [rows_len] at g
        have : (colsT u).length = u.2.length := by simp [colsT]
        exact ⟨isTr_ext.mpr ⟨u1, hp⟩, by omega, .inr (by omega)⟩
      · cases h
    · rintro ⟨h, h2, h3⟩
      obtain ⟨r, ps⟩ := t
      rcases List.eq_nil_or_concat ps with e | ⟨q, p, e⟩
      · subst e; simp at h2
      · subst e
        obtain ⟨g1, g2⟩ := isTr_ext.mp (show IsTr n m (extT (r, q) p) by simpa [extT] using h)
        have hq : q.length = l := by simpa using h2
        refine ⟨(r, q), mem_trV.mpr ⟨g1, hq, ?_⟩, ?_⟩
        · rcases Nat.eq_zero_or_pos l with z | z
          · exact .inl z
          · exact .inr (by omega)
        · unfold extM
          rw [if_pos (by rw [rows_len]; simp only [colsT, List.length_map]; omega)]
          exact List.mem_map.mpr ⟨p, g2, by simp [extT]⟩
theorem mem_trA {t : Tr} : t ∈ trA n m k ↔ IsTr n m t ∧ (t.2.length = 0 ∨ t.2.length + 1 ≤ k) := by
  unfold trA
  rw [List.mem_flatMap]
  constructor
  · rintro ⟨l, _, h⟩
    obtain ⟨h1, h2, h3⟩ := mem_trV.mp h
    subst h2
    exact ⟨h1, h3⟩
  · rintro ⟨h1, h2⟩
    have := isTr_len h1
    exact ⟨t.2.length, List.mem_range.mpr (by omega), mem_trV.mpr ⟨h1, rfl, h2⟩⟩
theorem goP_nd (t : Tr) : (goP n m t).Nodup := by
  unfold goP List.Nodup
  rw [List.pairwise_flatMap]
  refine ⟨fun j _ => ?_, (rgI_nd n).imp fun {a b} ne x hx y hy e => ?_⟩
  · split
    · exact nodup_map_on (fun a b _ _ e => (Prod.mk.inj e).2) (((rgI_nd n).filter _).filter _)
    · exact List.Pairwise.nil
  · have h1 : x.1 = a := by
      split at hx
      · obtain ⟨i, _, rfl⟩ := List.mem_map.mp hx; rfl
      · cases hx
    have h2 : y.1 = b := by
      split at hy
      · obtain ⟨i, _, rfl⟩ := List.mem_map.mp hy; rfl
      · cases hy
    exact ne (by rw [← h1, ← h2, e])
theorem extT_inj {t u : Tr} {p q : Int × Int} (e : extT t p = extT u q) : t = u ∧ p = q := by
  obtain ⟨r, a⟩ := t
  obtain ⟨r', b⟩ := u
  have h1 : r = r' := (Prod.mk.inj e).1
  have h2 : a ++ [p] = b ++ [q] := (Prod.mk.inj e).2
  obtain ⟨h3, h4⟩ := List.append_inj' h2 rfl
  subst h1
  subst h3
  exact ⟨rfl, by simpa using h4⟩
theorem trV_nd : ∀ l, (trV n m k l).Nodup
  | 0 => nodup_map_on (fun a b _ _ e => (Prod.mk.inj e).1) (rgI_nd n)
  | l + 1 => by
    show ((trV n m k l).flatMap (extM n m k)).Nodup
    unfold List.Nodup
    rw [List.pairwise_flatMap]
    refine ⟨fun t _ => ?_, (trV_nd l).imp fun {a b} ne x hx y hy e => ?_⟩
    · unfold extM
      split
      · exact nodup_map_on (fun a b _ _ e => (extT_inj e).2) (goP_nd t)
      · exact List.Pairwise.nil
    · unfold extM at hx hy
      split at hx
      · split at hy
        · obtain ⟨p, _, rfl⟩ := List.mem_map.mp hx
          obtain ⟨q, _, rfl⟩ := List.mem_map.mp hy
          exact ne (extT_inj e).1
        · cases hy
      · cases hx
theorem trA_nd : (trA n m k).Nodup := by
  unfold trA List.Nodup
  rw [List.pairwise_flatMap]
  refine ⟨fun l _ => trV_nd l, List.nodup_range.imp fun {a b} ne x hx y hy e => ?_⟩
  have h1 := (mem_trV.mp hx).2.1
  have h2 := (mem_trV.mp hy).2.1
  rw [e] at h1
  exact ne (h1.symm.trans h2)
theorem out_len {C : List Int} (hc : C.Nodup) (hs : ∀ x, x ∈ C → x ∈ rgI n) (p : Int → Bool) : ((rgI n).filter fun j => !decide (j ∈ C) && p j).length + C.length ≤ n := by
  have h : (((rgI n).filter fun j => !decide (j ∈ C) && p j) ++ C).Nodup := List.nodup_append.mpr ⟨(rgI_nd n).filter _, hc, fun x hx y hy e => by
    have := (List.mem_filter.mp hx).2
    simp only [Bool.and_eq_true, Bool.not_eq_true', decide_eq_false_iff_not] at this
    exact this.1 (by rw [e]; exact hy)⟩
  have := nd_sub_len h (s := rgI n) fun x hx => (List.mem_append.mp hx).elim (fun z => (List.mem_filter.mp z).1) (hs x)
  rw [rgI_len, List.length_append] at this
  exact this
end
section
variable {ext : Tr → List Tr} {S F L : List Tr} {a : Nat}
end
end PD

namespace PD
open PySem PySem.Spec PyProof.Rows L2
theorem ring_rows (t : Tr) (j : Int) : (ringT t j).map (·.1) = rowsT t := by simp [ringT, rowsT]
theorem ring_cols (t : Tr) (j : Int) : (ringT t j).map (·.2) = j :: colsT t := by simp [ringT, colsT]
theorem swap_swap : ∀ l : List (Int × Int), ((l.map fun p => (p.2, p.1)).map fun p => (p.2, p.1)) = l
  | [] => rfl
  | p :: l => by rw [List.map_cons, List.map_cons, swap_swap l]
theorem ring_inj {t u : Tr} {i j : Int} (e : ringT t i = ringT u j) : t = u ∧ i = j := by
  obtain ⟨r, a⟩ := t
  obtain ⟨r', b⟩ := u
  unfold ringT at e
  obtain ⟨h1, h2⟩ := List.cons.inj e
  obtain ⟨h3, h4⟩ := Prod.mk.inj h1
  simp only at h3 h4 h2
  have : a = b := by
    have := congrArg (List.map fun p : Int × Int => (p.2, p.1)) h2
    rw [swap_swap, swap_swap] at this
    exact this
  rw [h3, this]
  exact ⟨rfl, h4⟩
theorem ring_at {t : Tr} {j : Int} {a : Nat} {x : Int × Int} (h : (ringT t j)[a]? = some x) : (rowsT t)[a]? = some x.1 ∧ (j :: colsT t)[a]? = some x.2 := by
  rw [← ring_rows t j, ← ring_cols t j, List.getElem?_map, List.getElem?_map, h]
  exact ⟨rfl, rfl⟩
section
variable {n : Nat} {m : Cl}
theorem ring_len (t : Tr) (j : Int) : (ringT t j).length = t.2.length + 1 := by simp [ringT]
theorem bare_of_tr {t : Tr} {j : Int} (h : IsTr n m t) (c : j ∈ clP n m t) : IsBare n m (ringT t j) := by
  obtain ⟨c1, c2, c3, c4, c5, c6⟩ := mem_clP.mp c
  have rl := rows_len t
  have cl : (colsT t).length = t.2.length := by simp [colsT]
  have la := last_at t
  have len := ring_len t j
  have r0 : (rowsT t)[0]? = some t.1 := rfl
  refine ⟨by rw [len]; omega, fun x hx => ?_, by rw [ring_rows]; exact h.nr, by rw [ring_cols]; exact List.nodup_cons.mpr ⟨c3, h.nc⟩, fun k x y hx hy => ?_, fun a b x y ha hb => ?_⟩
  · have h1 := h.rr x.1 (by rw [← ring_rows t j]; exact List.mem_map.mpr ⟨x, hx, rfl⟩)
    have h2 : x.2 ∈ rgI n := by
      have : x.2 ∈ j :: colsT t := by rw [← ring_cols t j]; exact List.mem_map.mpr ⟨x, hx, rfl⟩
      rcases List.mem_cons.mp this with z | z
      · rw [z]; exact c1
      · exact h.rc _ z
    have h1' := mem_rgI2.mp h1
    have h2' := mem_rgI2.mp h2
    exact ⟨h1'.1, h1'.2, h2'.1, h2'.2⟩
  · have e0 : x = (t.1, j) := by simpa [ringT] using hx.symm
    have hy' : (t.2.map fun p => (p.2, p.1))[k]? = some y := by simpa [ringT] using hy
    rw [List.getElem?_map] at hy'
    obtain ⟨p, hp, rfl⟩ := Option.map_eq_some_iff.mp hy'
    rw [e0]
    exact h.lt p (List.mem_of_getElem? hp)
  · obtain ⟨a1, _⟩ := ring_at ha
    obtain ⟨_, b2⟩ := ring_at hb
    have al : a < (rowsT t).length := (List.getElem?_eq_some_iff.mp a1).1
    have mn := mod_next (a := a) (l := t.2.length + 1) (by omega)
    rw [len, mn]
    cases b with
    | zero =>
      have ej : j = y.2 := by simpa using b2
      rw [← ej]
      by_cases a0 : a = 0
      · subst a0
        rw [r0] at a1
        have : t.1 = x.1 := by simpa using a1
        rw [← this]
        exact ⟨fun _ => .inl rfl, fun _ => c4⟩
      · by_cases aL : a = (colsT t).length
        · rw [aL, la] at a1
          have : lastT t = x.1 := by simpa using a1
          rw [← this]
          refine ⟨fun _ => .inr ?_, fun _ => c5⟩
          rw [if_pos (by omega)]
        · obtain ⟨a', rfl⟩ := Nat.exists_eq_succ_of_ne_zero a0
          have m1 : x.1 ∈ (t.2.map (·.2)).dropLast := dropLast_at.mpr ⟨a', by rw [List.length_map]; omega, by simpa [rowsT] using a1⟩
          rw [c6 _ m1]
          refine ⟨fun z => (by cases z), fun z => ?_⟩
          rcases z with z | z
          · omega
          · rw [if_neg (by omega)] at z
            omega
    | succ b =>
      have b3 : (colsT t)[b]? = some y.2 := by simpa using b2
      have bl : b < (colsT t).length := (List.getElem?_eq_some_iff.mp b3).1
      rw [h.iff a b _ _ a1 b3]
      constructor
      · rintro (z | z)
        · refine .inr ?_
          rw [if_neg (by omega)]
          omega
        · exact .inl z.symm
      · rintro (z | z)
        · exact .inr z.symm
        · split at z <;> omega
theorem tr_of_bare {r : List (Int × Int)} (h : IsBare n m r) : ∃ t j, IsTr n m t ∧ j ∈ clP n m t ∧ r = ringT t j := by
  have l3 := h.l3
  obtain ⟨⟨i, j⟩, R, rfl⟩ : ∃ x R, r = x :: R := by
    cases r with
    | nil => simp at l3
    | cons x R => exact ⟨x, R, rfl⟩
  obtain ⟨t, ht⟩ : ∃ t : Tr, t = (i, R.map fun p => (p.2, p.1)) := ⟨_, rfl⟩
  have e : (i, j) :: R = ringT t j := by
    rw [ht]
    show (i, j) :: R = (i, j) :: ((R.map fun p => (p.2, p.1)).map fun p => (p.2, p.1))
    rw [swap_swap]
  have len := ring_len t j
  have rl := rows_len t
  have cl : (colsT t).length = t.2.length := by simp [colsT]
  have la := last_at t
  rw [e] at h l3
  have r0 : (ringT t j)[0]? = some (t.1, j) := rfl
  have rowAt : ∀ {a : Nat} {x : Int}, (rowsT t)[a]? = some x → ∃ y, (ringT t j)[a]? = some (x, y) := fun {a x} g => by
    rw [← ring_rows t j, List.getElem?_map] at g
    obtain ⟨z, hz, rfl⟩ := Option.map_eq_some_iff.mp g
    exact ⟨z.2, hz⟩
  have colAt : ∀ {b : Nat} {y : Int}, (colsT t)[b]? = some y → ∃ x, (ringT t j)[b + 1]? = some (x, y) := fun {b y} g => by
    have g2 : (j :: colsT t)[b + 1]? = some y := by simpa using g
    rw [← ring_cols t j, List.getElem?_map] at g2
    obtain ⟨z, hz, rfl⟩ := Option.map_eq_some_iff.mp g2
    exact ⟨z.1, hz⟩
  have ns := h.ns
  rw [ring_cols] at ns
  obtain ⟨nj, nc⟩ := List.nodup_cons.mp ns
  have nr := h.nf
  rw [ring_rows] at nr
  refine ⟨t, j, ⟨fun x hx => ?_, fun y hy => ?_, nr, nc, fun p hp => ?_, fun a b x y ha hb => ?_⟩, mem_clP.mpr ⟨?_, by omega, nj, ?_, ?_, fun x hx => ?_⟩, e⟩
  · obtain ⟨a, ha⟩ := List.mem_iff_getElem?.mp hx
    obtain ⟨y, hy⟩ := rowAt ha
    have := h.rng _ (List.mem_of_getElem? hy)
    exact mem_rgI2.mpr ⟨this.1, this.2.1⟩
  · obtain ⟨b, hb⟩ := List.mem_iff_getElem?.mp hy
    obtain ⟨x, hx⟩ := colAt hb
    have := h.rng _ (List.mem_of_getElem? hx)
    exact mem_rgI2.mpr ⟨this.2.2.1, this.2.2.2⟩
  · obtain ⟨k, hk⟩ := List.mem_iff_getElem?.mp hp
    refine h.hd k _ (p.2, p.1) r0 ?_
    show ((t.1, j) :: t.2.map fun p => (p.2, p.1))[k + 1]? = _
    rw [List.getElem?_cons_succ, List.getElem?_map, hk]
    rfl
  · obtain ⟨y', ha'⟩ := rowAt ha
    obtain ⟨x', hb'⟩ := colAt hb
    have al : a < (rowsT t).length := (List.getElem?_eq_some_iff.mp ha).1
    have bl : b < (colsT t).length := (List.getElem?_eq_some_iff.mp hb).1
    have := h.iff a (b + 1) _ _ ha' hb'
    rw [this, len, mod_next (a := a) (l := t.2.length + 1) (by omega)]
    constructor
    · rintro (z | z)
      · exact .inr z.symm
      · split at z
        · omega
        · exact .inl (by omega)
    · rintro (z | z)
      · refine .inr ?_
        rw [if_neg (by omega)]
        omega
      · exact .inl z.symm
  · have := h.rng _ (List.mem_of_getElem? r0)
    exact mem_rgI2.mpr ⟨this.2.2.1, this.2.2.2⟩
  · exact (h.iff 0 0 _ _ r0 r0).mpr (.inl rfl)
  · obtain ⟨y, hy⟩ := rowAt la
    refine (h.iff _ 0 _ _ hy r0).mpr (.inr ?_)
    rw [len, mod_next (a := (colsT t).length) (l := t.2.length + 1) (by omega), if_pos (by omega)]
  · obtain ⟨a, al, ha⟩ := dropLast_at.mp hx
    rw [List.length_map] at al
    have ha' : (rowsT t)[a + 1]? = some x := by simpa [rowsT] using ha
    obtain ⟨y, hy⟩ := rowAt ha'
    cases q : hasK m (x, j) with
    | false => rfl
    | true =>
      have := (h.iff _ 0 _ _ hy r0).mp q
      rw [len, mod_next (a := a + 1) (l := t.2.length + 1) (by omega), if_neg (by omega)] at this
      omega
def bareL (n : Nat) (m : Cl) : List (List (Int × Int)) := (trA n m n).flatMap fun t => (clP n m t).map (ringT t)
theorem mem_bareL {r : List (Int × Int)} : r ∈ bareL n m ↔ IsBare n m r := by
  unfold bareL
  rw [List.mem_flatMap]
  constructor
  · rintro ⟨t, ht, h⟩
    obtain ⟨j, hj, rfl⟩ := List.mem_map.mp h
    exact bare_of_tr (mem_trA.mp ht).1 hj
  · intro h
    obtain ⟨t, j, h1, h2, rfl⟩ := tr_of_bare h
    exact ⟨t, mem_trA.mpr ⟨h1, .inr (isTr_len h1)⟩, List.mem_map.mpr ⟨j, h2, rfl⟩⟩
theorem clP_nd {t : Tr} : (clP n m t).Nodup := (rgI_nd n).filter _
theorem bareL_nd : (bareL n m).Nodup := by
  unfold bareL List.Nodup
  rw [List.pairwise_flatMap]
  refine ⟨fun t _ => nodup_map_on (fun a b _ _ e => (ring_inj e).2) clP_nd, trA_nd.imp fun {a b} ne x hx y hy e => ?_⟩
  obtain ⟨i, _, rfl⟩ := List.mem_map.mp hx
  obtain ⟨j, _, rfl⟩ := List.mem_map.mp hy
  exact ne (ring_inj e).1
theorem bare_perm (n5 : n ≤ 5) : (bareL n m).Perm (cycF m n) := (List.perm_ext_iff_of_nodup bareL_nd (cycF_nd n5)).mpr fun r => mem_bareL.trans (mem_cycF n5).symm
theorem bareL_len (n5 : n ≤ 5) : (bareL n m).length ≤ 600 := by rw [(bare_perm n5).length_eq]; exact cycF_len n5
end
def leF {β : Type} (f : β → PyData) (a b : β) : Bool := PySem.W.dataLe false (fun d => d) (f a) (f b)
def sortF {β : Type} (f : β → PyData) (L : List β) : List β := L.mergeSort (leF f)
theorem dataLe_anti {x y : PyData} (h1 : PySem.W.dataLe false (fun d => d) x y = true) (h2 : PySem.W.dataLe false (fun d => d) y x = true) : PySem.W.keyToks x = PySem.W.keyToks y := by
  have a1 : (!PyProof.Rows.lexLt itemOrd (PySem.W.keyToks y) (PySem.W.keyToks x)) = true := h1
  have a2 : (!PyProof.Rows.lexLt itemOrd (PySem.W.keyToks x) (PySem.W.keyToks y)) = true := h2
  exact lex_total _ _ (by simpa using a2) (by simpa using a1)
theorem sortF_uniq {β : Type} {f : β → PyData} (inj : ∀ a b, PySem.W.keyToks (f a) = PySem.W.keyToks (f b) → a = b) {a b : List β} (p : a.Perm b) : sortF f a = sortF f b := by
  have T := PySem.W.sortLe_total (listOrd itemOrd) false fun b : β => PySem.W.keyToks (f b)
  have q : (sortF f a).Perm (sortF f b) := (List.mergeSort_perm a (leF f)).trans (p.trans (List.mergeSort_perm b (leF f)).symm)
  have tt : ∀ x y, (leF f x y || leF f y x) = true := fun x y => by
    rw [Bool.or_eq_true]
    exact T.total x y
  exact sorted_uniq (fun x y h1 h2 => inj x y (dataLe_anti h1 h2)) q (List.pairwise_mergeSort (fun x y z => T.trans x y z) tt a) (List.pairwise_mergeSort (fun x y z => T.trans x y z) tt b)
theorem toks_cons (x : PyData) (xs : List PyData) : PySem.W.keyToksAll (x :: xs) = Sum.inl 1 :: (PySem.W.keyToks x ++ PySem.W.keyToksAll xs) := by rw [PySem.W.keyToksAll]
theorem toks_nil : PySem.W.keyToksAll [] = [Sum.inl 0] := by rw [PySem.W.keyToksAll]
theorem toks_int (i : Int) : PySem.W.keyToks (.int i) = [Sum.inl i] := by rw [PySem.W.keyToks]
theorem toks_ints : ∀ {a b : List Int} {u v : List (Int ⊕ List Nat)}, PySem.W.keyToksAll (a.map .int) ++ u = PySem.W.keyToksAll (b.map .int) ++ v → a = b ∧ u = v
  | [], [], u, v, h => by
    rw [List.map_nil, toks_nil] at h
    exact ⟨rfl, (List.cons.inj h).2⟩
  | [], y :: b, u, v, h => by
    rw [List.map_nil, List.map_cons, toks_nil, toks_cons] at h
    have := (List.cons.inj h).1
    cases this
  | x :: a, [], u, v, h => by
    rw [List.map_nil, List.map_cons, toks_nil, toks_cons] at h
    have := (List.cons.inj h).1
    cases this
  | x :: a, y :: b, u, v, h => by
    rw [List.map_cons, List.map_cons, toks_cons, toks_cons, toks_int, toks_int] at h
    obtain ⟨_, h2⟩ := List.cons.inj h
    obtain ⟨h3, h4⟩ := List.cons.inj h2
    obtain ⟨h5, h6⟩ := toks_ints (a := a) (b := b) h4
    have e : x = y := by injection h3
    rw [e, h5]
    exact ⟨rfl, h6⟩
theorem toks_pairs : ∀ {a b : List (Int × Int)}, PySem.W.keyToksAll (a.map pairD) = PySem.W.keyToksAll (b.map pairD) → a = b
  | [], [], _ => rfl
  | [], y :: b, h => by
    rw [List.map_nil, List.map_cons, toks_nil, toks_cons] at h
    have := (List.cons.inj h).1
    cases this
  | x :: a, [], h => by
    rw [List.map_nil, List.map_cons, toks_nil, toks_cons] at h
    have := (List.cons.inj h).1
    cases this
  | x :: a, y :: b, h => by
    rw [List.map_cons, List.map_cons, toks_cons, toks_cons] at h
    obtain ⟨_, h2⟩ := List.cons.inj h
    have kx : ∀ q : Int × Int, PySem.W.keyToks (pairD q) = PySem.W.keyToksAll ([q.1, q.2].map .int) := fun q => by
      show PySem.W.keyToks (.tuple _) = _
      rw [PySem.W.keyToks]
      rfl
    rw [kx, kx] at h2
    obtain ⟨h3, h4⟩ := toks_ints h2
    have e : x = y := Prod.ext (by simpa using (List.cons.inj h3).1) (by simpa using (List.cons.inj (List.cons.inj h3).2).1)
    rw [e, toks_pairs h4]
theorem rgD_inj (a b : List (Int × Int)) (h : PySem.W.keyToks (rgD a) = PySem.W.keyToks (rgD b)) : a = b := by
  have h' : PySem.W.keyToks (.tuple (a.map pairD)) = PySem.W.keyToks (.tuple (b.map pairD)) := h
  rw [PySem.W.keyToks, PySem.W.keyToks] at h'
  exact toks_pairs h'
theorem sortR_perm {a b : List (List (Int × Int))} (p : a.Perm b) : sortR a = sortR b := sortF_uniq (f := rgD) rgD_inj p
end PD

namespace PD
open PySem PySem.Spec PyProof.Rows L2
section
variable {e : Env} {Ψ : Exn → Env → Prop} {ma : M PyData} {t : Tr}
end
end PD

namespace PD
open PySem PySem.Spec PyProof.Rows L2
theorem cut_dl (xs : List PyData) : cutD xs none (some (-1)) = xs.dropLast := by
  unfold cutD
  rw [HT.sIx_none, List.drop_zero, List.dropLast_eq_take]
  show xs.take ((if (-1 : Int) < 0 then ((-1 : Int) + (xs.length : Int)).toNat else min (-1 : Int).toNat xs.length) - 0) = _
  rw [if_pos (by decide)]
  congr 1
  omega
section
variable {n : Nat} {m : Cl} {t : Tr} {j : Int}
theorem g_both {e : Env} {Ψ : Exn → Env → Prop} {c1 c2 : M Bool} {a b : Bool} (h1 : Gives c1 e a Ψ) (h2 : a = true → Gives c2 e b Ψ) : Gives (mAnd c1 c2) e (a && b) Ψ := by
  unfold Gives
  rw [wp_mAnd]
  refine h1.wp ?_
  cases a with
  | false => exact ⟨rfl, rfl⟩
  | true => exact h2 rfl
theorem range_from (r : Int) (h0 : 0 ≤ r) (hr : r < (n : Nat)) : intsD (r + 1) ((n : Int) - (r + 1)).toNat = (rgF r n).map .int := by
  obtain ⟨a, rfl⟩ := Int.eq_ofNat_of_zero_le h0
  have hr' : a < n := by omega
  obtain ⟨b, rfl⟩ : ∃ b, n = a + 1 + b := ⟨n - (a + 1), by omega⟩
  have e1 : (((a + 1 + b : Nat) : Int) - ((a : Int) + 1)).toNat = b := by omega
  rw [e1]
  have e2 : rgF (a : Int) (a + 1 + b) = (List.range b).map fun k => ((a + 1 + k : Nat) : Int) := by
    unfold rgF rgI
    rw [List.range_add, List.map_append, List.filter_append]
    have f1 : List.filter (fun i : Int => decide ((a : Int) + 1 ≤ i)) (List.map (fun k : Nat => (k : Int)) (List.range (a + 1))) = [] := by
      rw [List.filter_eq_nil_iff]
      intro x hx
      obtain ⟨k, hk, rfl⟩ := List.mem_map.mp hx
      have := List.mem_range.mp hk
      simp only [decide_eq_true_eq]
      omega
    have f2 : List.filter (fun i : Int => decide ((a : Int) + 1 ≤ i)) (List.map (fun k : Nat => (k : Int)) (List.map (fun x => a + 1 + x) (List.range b))) = List.map (fun k : Nat => (k : Int)) (List.map (fun x => a + 1 + x) (List.range b)) := by
      rw [List.filter_eq_self]
      intro x hx
      obtain ⟨k, hk, rfl⟩ := List.mem_map.mp hx
      obtain ⟨k', _, rfl⟩ := List.mem_map.mp hk
      simp only [decide_eq_true_eq]
      omega
    first
    | (rw [f1, f2, List.nil_append, List.map_map]; rfl)
    | (simp only [f1, f2, List.nil_append, List.map_map]; rfl)
  rw [e2, List.map_map]
  unfold intsD
  refine List.map_congr_left fun k _ => ?_
  show PyData.int _ = PyData.int _
  congr 1
end
end PD

namespace PD
open PySem PySem.Spec PyProof.Rows L2
section
variable {n : Nat} {m : Cl} {t : Tr} {j : Int}
end
end PD

namespace PD
open PySem PySem.Spec PyProof.Rows L2
section
variable {n : Nat} {m : Cl} {t : Tr} {j : Int}
end
end PD

namespace PD
open PySem PySem.Spec PyProof.Rows L2
section
variable {n n' : Nat} {m m' : Cl} {L : Nat} {f g : Nat → Int}
end
end PD

namespace PD
open PySem PySem.Spec PyProof.Rows L2
end PD

namespace PD
open PySem PySem.Spec PyProof.Rows L2
section
variable {prog : Program} {w : World} {A : Around} {E : Value → Shared → Prop} {s : Shared} {tt : Addr} {xs : Array (Int × Tok)}
end
section
variable {X : Cx}
end
end PD

namespace PD
open PySem PySem.Spec PyProof.Rows L2
section
variable {n : Nat} {m m' : Cl} {π σ : Int → Int} {L : Nat} {f g : Nat → Int}
end
theorem has_rows (m : Cl) (x : Int × Int) : hasK (rowsOf m) x = hasK m x := by
  rw [Bool.eq_iff_iff, hasK_iff, hasK_iff]
  unfold rowsOf
  rw [List.map_map]
  have : (((m.map (·.1)).mergeSort leP).map ((·.1) ∘ fun k => (k, prC m k))) = (m.map (·.1)).mergeSort leP := List.map_id' _
  first
  | rw [this, (List.mergeSort_perm _ leP).mem_iff]
  | (simp [Function.comp])
def nm (L : List Int) (i : Int) : Int := L.getD i.toNat 0
def mn (L : List Int) (x : Int) : Int := ((L.idxOf x : Nat) : Int)
section
variable {n : Nat} {L : List Int}
end
end PD

namespace PD
open PySem PySem.Spec PyProof.Rows L2
section
variable {X : Cx} {cl : Nat → Addr} {W : WX} {a b : Expr} {ma mb : M PyData} {pos : Pos}
end
theorem wp_forS {β : Type} {tg : Tgt} {b : M Fl} {S : List β} {g : β → PyData} (J : List β → Env → Prop) {e : Env} {Φ : Fl → Env → Prop} (h0 : J [] e)
    (body : ∀ S1 q S2 e, S = S1 ++ q :: S2 → J S1 e → ∃ e1, tg (g q) e = some e1 ∧ wp b e1 (fun fl e2 => fl = .nx ∧ J (S1 ++ [q]) e2) fun _ _ => False)
    (q : ∀ e', J S e' → Φ .nx e') : wp (forL tg b (S.map g)) e Φ fun _ _ => False := by
  refine wp_forL (fun xs e => ∃ S1 S2, S = S1 ++ S2 ∧ xs = S2.map g ∧ J S1 e) _ ⟨[], S, rfl, rfl, h0⟩ ?_ ?_
  · rintro e' ⟨S1, S2, hS, hx, hJ⟩
    have : S2 = [] := by simpa using hx.symm
    subst this
    rw [List.append_nil] at hS
    subst hS
    exact q e' hJ
  · rintro x xs e' ⟨S1, S2, hS, hx, hJ⟩
    cases S2 with
    | nil => simp at hx
    | cons s S2 =>
      rw [List.map_cons] at hx
      injection hx with h1 h2
      subst h1 h2
      obtain ⟨e1, ht, hb⟩ := body S1 s S2 e' hS hJ
      refine ⟨e1, ht, wp_mono hb ?_ fun _ _ z => z⟩
      rintro fl e2 ⟨rfl, hJ2⟩
      exact ⟨S1 ++ [s], S2, by rw [hS]; simp, rfl, hJ2⟩
theorem row_in {n c : Nat} {w : Int} {m : Cl} (h : RowOk n c w m) (k : Int × Int) (hk : hasK m k = true) : k.1 ∈ rgI n ∧ k.2 ∈ rgI n := by
  obtain ⟨p, hp, rfl⟩ := List.mem_map.mp (hasK_iff.mp hk)
  have := h.rng p hp
  exact ⟨mem_rgI2.mpr ⟨this.1, this.2.1⟩, mem_rgI2.mpr ⟨this.2.2.1, this.2.2.2⟩⟩
end PD

namespace PD
open PySem PySem.Spec PyProof.Rows L2
section
variable {X : Cx} {cl : Nat → Addr} {W : WX} {k : Nat} {f : Addr} {fd : FuncData} {ps : List Str} {x : Str} {p pos : Pos} {B : Nat → Bool} {m : M Fl}
end
end PD

namespace PD
open PySem PySem.Spec PyProof.Rows L2
abbrev Lin := List (Int × Int)
def fsL (L : Lin) : List Int := L.map (·.1)
def snL (L : Lin) : List Int := L.map (·.2)
def lstR (L : Lin) : Int := (fsL L).getLastD 0
def hdR (L : Lin) : Int := (fsL L).headD 0
def jL1 (n : Nat) (m : Cl) (L : Lin) : List Int := (rgI n).filter fun j => hasK m (lstR L, j) && !decide (j ∈ snL L)
def jL (n : Nat) (m : Cl) (L : Lin) : List Int := (jL1 n m L).filter fun j => ((fsL L).dropLast.filter fun i => hasK m (i, j)).isEmpty
def iL (n : Nat) (m : Cl) (L : Lin) (j : Int) : List Int := (rgF (hdR L) n).filter fun i => hasK m (i, j) && !decide (i ∈ fsL L)
def neL (m : Cl) (L : Lin) (i : Int) : List Int := (snL L).filter fun c => hasK m (i, c)
def goX (n : Nat) (m : Cl) (L : Lin) : Lin := (jL n m L).flatMap fun j => (iL n m L j).map fun i => (i, j)
def isLo (m : Cl) (L : Lin) (p : Int × Int) : Bool := (neL m L p.1).isEmpty
def isRi (m : Cl) (L : Lin) (p : Int × Int) : Bool := decide (neL m L p.1 = (snL L).take 1) && decide (1 < L.length)
def isR2 (m : Cl) (L : Lin) (p : Int × Int) : Bool := !isLo m L p && isRi m L p
def loX (n : Nat) (m : Cl) (L : Lin) : List Lin := ((goX n m L).filter (isLo m L)).map fun p => L ++ [p]
def riX (n : Nat) (m : Cl) (L : Lin) : List Lin := ((goX n m L).filter (isR2 m L)).map fun p => L ++ [p]
section
variable {n : Nat} {m : Cl} {L : Lin} {p : Int × Int}
theorem fs_at {a : Nat} {x : Int × Int} (h : L[a]? = some x) : (fsL L)[a]? = some x.1 := by unfold fsL; rw [List.getElem?_map, h]; rfl
theorem sn_at {a : Nat} {x : Int × Int} (h : L[a]? = some x) : (snL L)[a]? = some x.2 := by unfold snL; rw [List.getElem?_map, h]; rfl
theorem at_fs {a : Nat} {i : Int} (h : (fsL L)[a]? = some i) : ∃ x, L[a]? = some x ∧ x.1 = i := by
  unfold fsL at h
  rw [List.getElem?_map] at h
  obtain ⟨x, h1, h2⟩ := Option.map_eq_some_iff.mp h
  exact ⟨x, h1, h2⟩
theorem at_sn {a : Nat} {i : Int} (h : (snL L)[a]? = some i) : ∃ x, L[a]? = some x ∧ x.2 = i := by
  unfold snL at h
  rw [List.getElem?_map] at h
  obtain ⟨x, h1, h2⟩ := Option.map_eq_some_iff.mp h
  exact ⟨x, h1, h2⟩
theorem lst_at (h : L ≠ []) : ∃ x, L[L.length - 1]? = some x ∧ lstR L = x.1 := by
  have l : 0 < L.length := List.length_pos_iff.mpr h
  obtain ⟨x, hx⟩ : ∃ x, L[L.length - 1]? = some x := ⟨_, List.getElem?_eq_getElem (by omega)⟩
  refine ⟨x, hx, ?_⟩
  unfold lstR
  rw [List.getLastD_eq_getLast?, List.getLast?_eq_getElem?]
  have := fs_at hx
  have e : (fsL L).length = L.length := by simp [fsL]
  rw [e, this]
  rfl
theorem hd_at (h : L ≠ []) : ∃ x, L[0]? = some x ∧ hdR L = x.1 := by
  cases L with
  | nil => exact absurd rfl h
  | cons a t => exact ⟨a, rfl, rfl⟩
structure Nxt (n : Nat) (m : Cl) (L : Lin) (p : Int × Int) : Prop where
  r1 : p.1 ∈ rgI n
  r2 : p.2 ∈ rgI n
  lt : hdR L < p.1
  n1 : p.1 ∉ fsL L
  n2 : p.2 ∉ snL L
  own : hasK m p = true
  col : ∀ a x, L[a]? = some x → (hasK m (x.1, p.2) = true ↔ a + 1 = L.length)
theorem mem_goX (hne : L ≠ []) : p ∈ goX n m L ↔ Nxt n m L p := by
  have l0 : 0 < L.length := List.length_pos_iff.mpr hne
  obtain ⟨z, hz, ez⟩ := lst_at hne
  have dl : ∀ i, i ∈ (fsL L).dropLast ↔ ∃ a x, a + 1 < L.length ∧ L[a]? = some x ∧ x.1 = i := fun i => by
    rw [dropLast_at]
    have e : (fsL L).length = L.length := by simp [fsL]
    rw [e]
    constructor
    · rintro ⟨a, h1, h2⟩
      obtain ⟨x, h3, h4⟩ := at_fs h2
      exact ⟨a, x, h1, h3, h4⟩
    · rintro ⟨a, x, h1, h2, rfl⟩
      exact ⟨a, h1, fs_at h2⟩
  have col : (hasK m (lstR L, p.2) = true ∧ ∀ i, i ∈ (fsL L).dropLast → ¬ hasK m (i, p.2) = true) ↔ ∀ a x, L[a]? = some x → (hasK m (x.1, p.2) = true ↔ a + 1 = L.length) := by
    constructor
    · rintro ⟨h1, h2⟩ a x hx
      have la := (List.getElem?_eq_some_iff.mp hx).1
      constructor
      · intro h
        rcases Nat.lt_or_ge (a + 1) L.length with q | q
        · exact absurd h (h2 x.1 ((dl _).mpr ⟨a, x, q, hx, rfl⟩))
        · omega
      · intro h
        have e : a = L.length - 1 := by omega
        rw [e, hz] at hx
        cases hx
        rw [← ez]
        exact h1
    · intro h
      refine ⟨?_, fun i hi => ?_⟩
      · rw [ez]
        exact (h _ z hz).mpr (by omega)
      · obtain ⟨a, x, h1, h2, rfl⟩ := (dl i).mp hi
        intro q
        have := (h a x h2).mp q
        omega
  unfold goX jL jL1 iL rgF
  simp only [List.mem_flatMap, List.mem_map, List.mem_filter, Bool.and_eq_true, Bool.not_eq_true', decide_eq_false_iff_not, decide_eq_true_eq, List.isEmpty_iff, List.filter_eq_nil_iff]
  constructor
  · rintro ⟨j, ⟨⟨h1, h2, h3⟩, h4⟩, i, ⟨⟨h5, h6⟩, h7, h8⟩, rfl⟩
    exact ⟨h5, h1, by show hdR L < i; omega, h8, h3, h7, col.mp ⟨h2, h4⟩⟩
  · intro h
    obtain ⟨c1, c2⟩ := col.mpr h.col
    have lt := h.lt
    exact ⟨p.2, ⟨⟨h.r2, c1, h.n2⟩, c2⟩, p.1, ⟨⟨h.r1, by omega⟩, h.own, h.n1⟩, rfl⟩
theorem lo_iff : isLo m L p = true ↔ ∀ (b : Nat) (y : Int × Int), L[b]? = some y → ¬ hasK m (p.1, y.2) = true := by
  unfold isLo neL
  rw [List.isEmpty_iff, List.filter_eq_nil_iff]
  constructor
  · exact fun h b y hy => h y.2 (List.mem_of_getElem? (sn_at hy))
  · intro h c hc
    obtain ⟨b, hb⟩ := List.mem_iff_getElem?.mp hc
    obtain ⟨y, hy, rfl⟩ := at_sn hb
    exact h b y hy
theorem ri_iff (hne : L ≠ []) (ns : (snL L).Nodup) : isR2 m L p = true ↔ (∀ b y, L[b]? = some y → (hasK m (p.1, y.2) = true ↔ b = 0)) ∧ 1 < L.length := by
  cases L with
  | nil => exact absurd rfl hne
  | cons a t =>
    have sc : snL (a :: t) = a.2 :: snL t := rfl
    have key : neL m (a :: t) p.1 = (snL (a :: t)).take 1 ↔ hasK m (p.1, a.2) = true ∧ ∀ c, c ∈ snL t → ¬ hasK m (p.1, c) = true := by
      unfold neL
      rw [sc, List.take_succ_cons, List.take_zero, List.filter_cons]
      rw [sc] at ns
      constructor
      · intro h
        split at h
        · rename_i q
          exact ⟨q, List.filter_eq_nil_iff.mp (List.cons.inj h).2⟩
        · have : a.2 ∈ (snL t).filter fun c => hasK m (p.1, c) := by rw [h]; exact List.mem_singleton.mpr rfl
          exact absurd (List.mem_filter.mp this).1 (List.nodup_cons.mp ns).1
      · rintro ⟨h1, h2⟩
        rw [if_pos h1, List.filter_eq_nil_iff.mpr h2]
    have lo : neL m (a :: t) p.1 = (snL (a :: t)).take 1 → isLo m (a :: t) p = false := fun h => by
      unfold isLo
      rw [h, sc]
      rfl
    have idx : (hasK m (p.1, a.2) = true ∧ ∀ c, c ∈ snL t → ¬ hasK m (p.1, c) = true) ↔ ∀ b y, (a :: t)[b]? = some y → (hasK m (p.1, y.2) = true ↔ b = 0) := by
      constructor
      · rintro ⟨h1, h2⟩ b y hy
        cases b with
        | zero =>
          cases hy
          exact ⟨fun _ => rfl, fun _ => h1⟩
        | succ b =>
          have hy : t[b]? = some y := hy
          exact ⟨fun q => absurd q (h2 y.2 (List.mem_of_getElem? (sn_at hy))), fun q => by omega⟩
      · intro h
        refine ⟨(h 0 a rfl).mpr rfl, fun c hc q => ?_⟩
        obtain ⟨b, hb⟩ := List.mem_iff_getElem?.mp hc
        obtain ⟨y, hy, rfl⟩ := at_sn hb
        have := (h (b + 1) y hy).mp q
        omega
    unfold isR2 isRi
    simp only [Bool.and_eq_true, Bool.not_eq_true', decide_eq_true_eq]
    rw [← idx]
    constructor
    · rintro ⟨_, h2, h3⟩
      exact ⟨key.mp h2, h3⟩
    · rintro ⟨h1, h2⟩
      have k := key.mpr h1
      exact ⟨lo k, k, h2⟩
structure IsLn (n : Nat) (m : Cl) (L : Lin) : Prop where
  ne : L ≠ []
  rng : ∀ x, x ∈ L → x.1 ∈ rgI n ∧ x.2 ∈ rgI n
  nf : (fsL L).Nodup
  ns : (snL L).Nodup
  hd : ∀ k x y, L[0]? = some x → L[k + 1]? = some y → x.1 < y.1
  iff : ∀ (a b : Nat) x y, L[a]? = some x → L[b]? = some y → (hasK m (x.1, y.2) = true ↔ b = a ∨ b = a + 1)
theorem fs_app : fsL (L ++ [p]) = fsL L ++ [p.1] := by simp [fsL]
theorem sn_app : snL (L ++ [p]) = snL L ++ [p.2] := by simp [snL]
theorem in_app {a : Nat} {x : Int × Int} (h : L[a]? = some x) : (L ++ [p])[a]? = some x := by
  rw [List.getElem?_append_left (List.getElem?_eq_some_iff.mp h).1]
  exact h
theorem new_app : (L ++ [p])[L.length]? = some p := by simp
theorem snoc_nd {A : List Int} {x : Int} : (A ++ [x]).Nodup ↔ A.Nodup ∧ x ∉ A := by
  rw [List.nodup_append]
  constructor
  · rintro ⟨h1, _, h2⟩
    exact ⟨h1, fun z => h2 x z x (by simp) rfl⟩
  · rintro ⟨h1, h2⟩
    exact ⟨h1, List.pairwise_singleton _ _, fun y hy z hz e => h2 (by rw [← List.mem_singleton.mp hz, ← e]; exact hy)⟩
theorem ln_ext (hne : L ≠ []) : IsLn n m (L ++ [p]) ↔ IsLn n m L ∧ p ∈ goX n m L ∧ isLo m L p = true := by
  rw [mem_goX hne, lo_iff]
  have l0 : 0 < L.length := List.length_pos_iff.mpr hne
  obtain ⟨z, hz, ez⟩ := hd_at hne
  constructor
  · intro h
    have nf := h.nf
    have ns := h.ns
    rw [fs_app, snoc_nd] at nf
    rw [sn_app, snoc_nd] at ns
    refine ⟨⟨hne, fun x hx => h.rng x (List.mem_append_left _ hx), nf.1, ns.1, fun k x y hx hy => h.hd k x y (in_app hx) (in_app hy), fun a b x y hx hy => h.iff a b x y (in_app hx) (in_app hy)⟩, ⟨(h.rng p (by simp)).1, (h.rng p (by simp)).2, ?_, nf.2, ns.2, (h.iff _ _ _ _ new_app new_app).mpr (.inl rfl), fun a x hx => ?_⟩, fun b y hy q => ?_⟩
    · rw [ez]
      exact h.hd (L.length - 1) z p (in_app hz) (by rw [show L.length - 1 + 1 = L.length by omega]; exact new_app)
    · have la := (List.getElem?_eq_some_iff.mp hx).1
      rw [h.iff a _ x p (in_app hx) new_app]
      omega
    · have lb := (List.getElem?_eq_some_iff.mp hy).1
      have := (h.iff _ b p y new_app (in_app hy)).mp q
      omega
  · rintro ⟨h, g, lo⟩
    refine ⟨by simp, fun x hx => ?_, by rw [fs_app, snoc_nd]; exact ⟨h.nf, g.n1⟩, by rw [sn_app, snoc_nd]; exact ⟨h.ns, g.n2⟩, fun k x y hx hy => ?_, fun a b x y hx hy => ?_⟩
    · rcases List.mem_append.mp hx with q | q
      · exact h.rng x q
      · rw [List.mem_singleton.mp q]; exact ⟨g.r1, g.r2⟩
    · have hx' : L[0]? = some x := by rwa [List.getElem?_append_left l0] at hx
      rcases snoc_at hy with ⟨l, q⟩ | ⟨l, rfl⟩
      · exact h.hd k x y hx' q
      · rw [hz] at hx'
        cases hx'
        rw [← ez]
        exact g.lt
    · rcases snoc_at hx with ⟨la, qa⟩ | ⟨la, rfl⟩
      · rcases snoc_at hy with ⟨lb, qb⟩ | ⟨lb, rfl⟩
        · exact h.iff a b x y qa qb
        · rw [g.col a x qa]
          omega
      · rcases snoc_at hy with ⟨lb, qb⟩ | ⟨lb, rfl⟩
        · exact ⟨fun q => absurd q (lo b y qb), fun q => by omega⟩
        · exact ⟨fun _ => .inl (by omega), fun _ => g.own⟩
theorem ring_ext (hne : L ≠ []) : IsBare n m (L ++ [p]) ↔ IsLn n m L ∧ p ∈ goX n m L ∧ isR2 m L p = true := by
  rw [mem_goX hne]
  have l0 : 0 < L.length := List.length_pos_iff.mpr hne
  obtain ⟨z, hz, ez⟩ := hd_at hne
  have len : (L ++ [p]).length = L.length + 1 := by simp
  have md : ∀ a, a < L.length → (a + 1) % (L.length + 1) = a + 1 := fun a h => Nat.mod_eq_of_lt (by omega)
  constructor
  · intro h
    have l3 := h.l3
    rw [len] at l3
    have nf : (fsL (L ++ [p])).Nodup := h.nf
    have ns : (snL (L ++ [p])).Nodup := h.ns
    have iff := h.iff
    rw [len] at iff
    rw [fs_app, snoc_nd] at nf
    rw [sn_app, snoc_nd] at ns
    have rg : ∀ x, x ∈ L ++ [p] → x.1 ∈ rgI n ∧ x.2 ∈ rgI n := fun x hx => (let q := h.rng x hx; ⟨mem_rgI2.mpr ⟨q.1, q.2.1⟩, mem_rgI2.mpr ⟨q.2.2.1, q.2.2.2⟩⟩)
    refine ⟨⟨hne, fun x hx => rg x (List.mem_append_left _ hx), nf.1, ns.1, fun k x y hx hy => h.hd k x y (in_app hx) (in_app hy), fun a b x y hx hy => ?_⟩, ⟨(rg p (by simp)).1, (rg p (by simp)).2, ?_, nf.2, ns.2, (iff _ _ _ _ new_app new_app).mpr (.inl rfl), fun a x hx => ?_⟩, (ri_iff hne ns.1).mpr ⟨fun b y hy => ?_, by omega⟩⟩
    · rw [iff a b x y (in_app hx) (in_app hy), md a (List.getElem?_eq_some_iff.mp hx).1]
    · rw [ez]
      exact h.hd (L.length - 1) z p (in_app hz) (by rw [show L.length - 1 + 1 = L.length by omega]; exact new_app)
    · have la := (List.getElem?_eq_some_iff.mp hx).1
      rw [iff a _ x p (in_app hx) new_app, md a la]
      omega
    · have lb := (List.getElem?_eq_some_iff.mp hy).1
      rw [iff _ b p y new_app (in_app hy), Nat.mod_self]
      omega
  · rintro ⟨h, g, ri⟩
    obtain ⟨ri, l1⟩ := (ri_iff hne h.ns).mp ri
    refine ⟨by rw [len]; omega, fun x hx => ?_, ?_, ?_, fun k x y hx hy => ?_, fun a b x y hx hy => ?_⟩
    · have : x.1 ∈ rgI n ∧ x.2 ∈ rgI n := by
        rcases List.mem_append.mp hx with q | q
        · exact h.rng x q
        · rw [List.mem_singleton.mp q]; exact ⟨g.r1, g.r2⟩
      have h1 := mem_rgI2.mp this.1
      have h2 := mem_rgI2.mp this.2
      exact ⟨h1.1, h1.2, h2.1, h2.2⟩
    · show (fsL (L ++ [p])).Nodup
      rw [fs_app, snoc_nd]; exact ⟨h.nf, g.n1⟩
    · show (snL (L ++ [p])).Nodup
      rw [sn_app, snoc_nd]; exact ⟨h.ns, g.n2⟩
    · have hx' : L[0]? = some x := by rwa [List.getElem?_append_left l0] at hx
      rcases snoc_at hy with ⟨l, q⟩ | ⟨l, rfl⟩
      · exact h.hd k x y hx' q
      · rw [hz] at hx'
        cases hx'
        rw [← ez]
        exact g.lt
    · rw [len]
      rcases snoc_at hx with ⟨la, qa⟩ | ⟨la, rfl⟩
      · rw [md a la]
        rcases snoc_at hy with ⟨lb, qb⟩ | ⟨lb, rfl⟩
        · exact h.iff a b x y qa qb
        · rw [g.col a x qa]
          omega
      · rw [la, Nat.mod_self]
        rcases snoc_at hy with ⟨lb, qb⟩ | ⟨lb, rfl⟩
        · rw [ri b y qb]
          omega
        · exact ⟨fun _ => .inl (by omega), fun _ => g.own⟩
end
end PD

namespace PD
open PySem PySem.Spec PyProof.Rows L2
abbrev ZnR (hp : Heap) (zz ti tou : Addr) (own flag : Value) : Prop :=
  hp.get? zz = some { cls := .type "zip", dict := none, data := .fields #[own, flag, .bool false, .ref ti, .ref tou], slots := #[] }
section
variable {prog : Program} {w : World} {A : Around} {E : Value → Shared → Prop} {s : Shared} {zz ti tou j1 j2 : Addr} {c1 c2 : List Addr} {n1 n2 i : Nat} {U1 U2 : Nat → Value → Prop} {W1 W2 : Nat → Heap → Prop} {own flag b1 b2 : Value}
theorem zn_free {Q : Bool → Shared → Prop} (hz : ZnR s.heap zz ti tou own flag) (hf : ZsF own)
    (q : ∀ b h' flag', ZnR h' zz ti tou own flag' → Heap.SameBut zz s.heap h' → Q b { s with heap := h' }) : wpAny (model prog w) A (Builtin.SmallTypes.ownedTupleIsFree (.ref zz)) Q E s := by
  obtain ⟨hp, g, d, tk, os⟩ := s
  unfold Builtin.SmallTypes.ownedTupleIsFree
  rcases hf with rfl | ⟨a, rfl⟩
  · exact wpAny_bind (wpAny_field hz rfl (x := .none) rfl (wpAny_pure (q _ hp _ hz (Heap.SameBut.refl _ _))))
  · refine wpAny_bind (wpAny_field hz rfl (x := rawInt a) rfl ?_)
    show wpAny _ _ (loadIfAlive ((a : Int).toNat) >>= _) _ _ _
    rw [Int.toNat_natCast]
    have key : ∀ {Q' : Option Obj → Shared → Prop}, Q' (hp.get? a) ⟨hp, g, d, tk, os⟩ → wpAny (model prog w) A (loadIfAlive a) Q' E ⟨hp, g, d, tk, os⟩ := fun h Γ p hΓ => by
      unfold loadIfAlive
      rw [Sem.wp_loadIfAlive]
      exact h
    refine wpAny_bind (key ?_)
    cases hp.get? a with
    | none => exact wpAny_pure (q _ hp _ hz (Heap.SameBut.refl _ _))
    | some o =>
      simp only [Option.isNone_some, Bool.false_eq_true, if_false]
      refine wpAny_bind (wpAny_field hz rfl (x := flag) rfl ?_)
      refine wpAny_ite_split (fun _ => ?_) (fun _ => ?_)
      · refine wpAny_bind (wpAny_setField_rec hz (by simp) fun h' hz' hs' => wpAny_pure (q _ h' _ hz' hs'))
      · exact wpAny_pure (q _ hp _ hz (Heap.SameBut.refl _ _))
theorem zn_next_item {Q : Value → Shared → Prop} (S : ZipSep2 zz ti tou j1 j2 c1 c2) (D1 : Draws prog w A j1 c1 n1 U1 W1) (D2 : Draws prog w A j2 c2 n2 U2 W2)
    (hz : ZnR s.heap zz ti tou own flag) (hf : ZsF own) (hTI : IsTupOf2 s.heap ti (.ref j1) (.ref j2)) (hTO : IsTupOf2 s.heap tou b1 b2) (st1 : W1 i s.heap) (st2 : W2 i s.heap) (hi1 : i < n1) (hi2 : i < n2)
    (hQ : ∀ x1 x2 h' tk own' flag', U1 i x1 → U2 i x2 → ZnR h' zz ti tou own' flag' → ZsF own' → (∃ b1 b2, IsTupOf2 h' tou b1 b2) → W1 (i + 1) h' → W2 (i + 1) h' → IsTupOf2 h' s.heap.objs.size x1 x2 →
      (∀ c o, c ≠ zz → c ≠ tou → c ≠ j1 → c ≠ j2 → s.heap.get? c = some o → h'.get? c = some o) → Q (.ref s.heap.objs.size) { s with heap := h', toks := tk }) :
    wpAny (model prog w) A (Builtin.«zip.__next__» ⟨[.ref zz], []⟩) (fun fin s' => ∃ v, fin = .done (.ret v) ∧ Q v s') E s := by
  obtain ⟨hp, g, d, tk0, os⟩ := s
  show wpAny _ _ (field (.ref zz) 2 >>= _) _ _ _
  refine wpAny_bind (wpAny_field hz rfl (x := .bool false) rfl ?_)
  show wpAny _ _ (field (.ref zz) 3 >>= _) _ _ _
  refine wpAny_bind (wpAny_field hz rfl (x := .ref ti) rfl ?_)
  refine wpAny_bind (wpAny_seqItems hTI rfl ?_)
  show wpAny _ _ (Builtin.SmallTypes.ownedTupleIsFree (.ref zz) >>= _) _ _ _
  refine wpAny_bind (zn_free hz hf fun b hb flag1 hzb hsb => ?_)
  replace hsb : Heap.SameBut zz hp hb := hsb
  have hTIb : IsTupOf2 hb ti (.ref j1) (.ref j2) := hsb.extBut _ _ S.TIz hTI
  have hTOb : IsTupOf2 hb tou b1 b2 := hsb.extBut _ _ S.TOz hTO
  have st1b : W1 i hb := D1.over st1 hsb S.zf1
  have st2b : W2 i hb := D2.over st2 hsb S.zf2
  have szb : hb.objs.size = hp.objs.size := hsb.1
  cases b with
  | true =>
    simp only [if_true]
    refine wpAny_bind (wpAny_rule ?_)
    refine wpAny_bind (wpAny_field hzb rfl (x := .ref tou) rfl ?_)
    refine wpAny_bind (wpAny_setField_rec hzb (by simp) fun g0 hz0 hs0 => ?_)
    replace hz0 : ZnR g0 zz ti tou .ellipsis flag1 := hz0
    replace hs0 : Heap.SameBut zz hb g0 := hs0
    refine wpAny_bind ?_
    simp only [List.zipIdx_cons, List.zipIdx_nil, List.forIn_cons, List.forIn_nil]
    refine wpAny_bind (wpAny_bind (wpAny_onRaise ?_))
    show wpAny _ _ (Builtin.SmallTypes.nextOf (.ref j1) >>= _) _ _ ⟨g0, g, d, tk0, os⟩
    refine wpAny_bind (D1.item i _ _ _ hi1 (D1.over st1b hs0 S.zf1) fun x1 p1 tk1 hx1 sn1 hp1 => wpAny_pure ?_)
    replace hp1 : Heap.SameBut j1 g0 p1 := hp1
    have hU1 : IsTupOf2 p1 tou b1 b2 := hp1.extBut _ _ S.Ti1 (hs0.extBut _ _ S.TOz hTOb)
    refine wpAny_bind (wpAny_seqItems (s := ⟨p1, g, d, tk1, os⟩) hU1 rfl ?_)
    refine wpAny_bind (updateSeq_IsTupOf2 (s := ⟨p1, g, d, tk1, os⟩) hU1 fun g1 hT1 hs1 => ?_)
    replace hT1 : IsTupOf2 g1 tou x1 b2 := hT1
    replace hs1 : Heap.SameBut tou p1 g1 := hs1
    refine wpAny_bind (wpAny_letGo (wpAny_pure ?_))
    refine wpAny_bind (wpAny_bind (wpAny_onRaise ?_))
    show wpAny _ _ (Builtin.SmallTypes.nextOf (.ref j2) >>= _) _ _ ⟨g1, g, d, tk1, os⟩
    refine wpAny_bind (D2.item i _ _ _ hi2 (D2.over (D2.over (D2.over st2b hs0 S.zf2) hp1 S.sep1_2) hs1 S.Tf2) fun x2 p2 tk2 hx2 sn2 hp2 => wpAny_pure ?_)
    replace hp2 : Heap.SameBut j2 g1 p2 := hp2
    have hU2 : IsTupOf2 p2 tou x1 b2 := hp2.extBut _ _ S.Ti2 hT1
    refine wpAny_bind (wpAny_seqItems (s := ⟨p2, g, d, tk2, os⟩) hU2 rfl ?_)
    refine wpAny_bind (updateSeq_IsTupOf2 (s := ⟨p2, g, d, tk2, os⟩) hU2 fun g2 hT2 hs2 => ?_)
    replace hT2 : IsTupOf2 g2 tou x1 x2 := hT2
    replace hs2 : Heap.SameBut tou p2 g2 := hs2
    refine wpAny_bind (wpAny_letGo (wpAny_pure (wpAny_pure ?_)))
    refine wpAny_bind (wpAny_seqItems (s := ⟨g2, g, d, tk2, os⟩) hT2 rfl ?_)
    refine wpAny_bind (wpAny_newTuple ?_)
    have hsz : g2.objs.size = hp.objs.size := by rw [hs2.1, hp2.1, hs1.1, hp1.1, hs0.1, szb]
    have hzz : ZnR g2 zz ti tou .ellipsis flag1 := (hs2.extBut _ _ S.TOz.symm (hp2.extBut _ _ S.zi2 (hs1.extBut _ _ S.TOz.symm (hp1.extBut _ _ S.zi1 hz0))))
    have hkk : ∀ c o, c ≠ zz → c ≠ tou → c ≠ j1 → c ≠ j2 → hp.get? c = some o → g2.get? c = some o := fun c o cz cT k1 k2 e =>
      (hs2.extBut _ _ cT (hp2.extBut _ _ k2 (hs1.extBut _ _ cT (hp1.extBut _ _ k1 (hs0.extBut _ _ cz (hsb.extBut _ _ cz e))))))
    have hj1 : W1 (i + 1) g2 := (D1.over (D1.over (D1.over sn1 hs1 S.Tf1) hp2 S.sep2_1) hs2 S.Tf1)
    have hj2 : W2 (i + 1) g2 := (D2.over sn2 hs2 S.Tf2)
    have hzlt : zz < g2.objs.size := Heap.lt_size hzz
    show wpAny _ _ (Builtin.SmallTypes.ownedTupleHandOut (.ref zz) (.ref g2.objs.size) >>= _) _ _ ⟨g2.push { cls := .type "tuple", data := .seq #[x1, x2] }, g, d, tk2, os⟩
    refine wpAny_bind ?_
    unfold Builtin.SmallTypes.ownedTupleHandOut
    have hz₆ : ZnR (g2.push { cls := .type "tuple", data := .seq #[x1, x2] }) zz ti tou .ellipsis flag1 := Heap.get?_push_of_some _ hzz
    refine wpAny_bind (wpAny_setField_rec hz₆ (by simp) fun h₇ hz₇ hs₇ => ?_)
    replace hz₇ : ZnR h₇ zz ti tou (rawInt g2.objs.size) flag1 := hz₇
    refine wpAny_setField_rec hz₇ (by simp) fun h₈ hz₈ hs₈ => ?_
    replace hz₈ : ZnR h₈ zz ti tou (rawInt g2.objs.size) (.bool false) := hz₈
    replace hs₇ : Heap.SameBut zz (g2.push { cls := .type "tuple", data := .seq #[x1, x2] }) h₇ := hs₇
    replace hs₈ : Heap.SameBut zz h₇ h₈ := hs₈
    have up : ∀ c o, c ≠ zz → g2.get? c = some o → h₈.get? c = some o := fun c o k1 e => hs₈.extBut _ _ k1 (hs₇.extBut _ _ k1 (Heap.get?_push_of_some _ e))
    have hT₈ : IsTupOf2 h₈ g2.objs.size x1 x2 := hs₈.extBut _ _ (Nat.ne_of_gt hzlt) (hs₇.extBut _ _ (Nat.ne_of_gt hzlt) (Heap.get?_push_size _ rfl))
    refine wpAny_pure ⟨_, rfl, ?_⟩
    show Q (.ref g2.objs.size) ⟨h₈, g, d, tk2, os⟩
    rw [hsz] at hT₈
    rw [hsz]
    exact hQ x1 x2 h₈ tk2 _ _ hx1 hx2 hz₈ (.inr ⟨_, rfl⟩) ⟨_, _, up _ _ S.TOz hT2⟩ (D1.frame _ _ _ hj1 fun b hb o e => up b o (fun q => S.zf1 (q ▸ hb)) e) (D2.frame _ _ _ hj2 fun b hb o e => up b o (fun q => S.zf2 (q ▸ hb)) e) hT₈
      fun c o cz cT k1 k2 e => up c o cz (hkk c o cz cT k1 k2 e)
  | false =>
    simp only [Bool.false_eq_true, if_false]
    refine wpAny_bind ?_
    first
    | rw [List.forIn_toArray]
    | (rw [← Array.forIn_toList]; simp only [List.toList_toArray])
    | rw [← Array.forIn_toList]
    simp only [List.forIn_cons, List.forIn_nil]
    refine wpAny_bind (wpAny_bind (wpAny_holding ?_))
    show wpAny _ _ (Builtin.SmallTypes.nextOf (.ref j1) >>= _) _ _ ⟨hb, g, d, tk0, os⟩
    refine wpAny_bind (D1.item i _ _ _ hi1 st1b fun x1 p1 tk1 hx1 sn1 hp1 => wpAny_pure ?_)
    replace hp1 : Heap.SameBut j1 hb p1 := hp1
    refine wpAny_pure ?_
    refine wpAny_bind (wpAny_bind (wpAny_holding ?_))
    show wpAny _ _ (Builtin.SmallTypes.nextOf (.ref j2) >>= _) _ _ ⟨p1, g, d, tk1, os⟩
    refine wpAny_bind (D2.item i _ _ _ hi2 (D2.over st2b hp1 S.sep1_2) fun x2 p2 tk2 hx2 sn2 hp2 => wpAny_pure ?_)
    replace hp2 : Heap.SameBut j2 p1 p2 := hp2
    refine wpAny_pure (wpAny_pure ?_)
    show wpAny _ _ (newTuple [x1, x2] >>= _) _ _ _
    refine wpAny_bind (wpAny_newTuple ?_)
    have hsz : p2.objs.size = hp.objs.size := by rw [hp2.1, hp1.1, szb]
    have hzz : ZnR p2 zz ti tou own flag1 := hp2.extBut _ _ S.zi2 (hp1.extBut _ _ S.zi1 hzb)
    have hT2 : IsTupOf2 p2 tou b1 b2 := hp2.extBut _ _ S.Ti2 (hp1.extBut _ _ S.Ti1 hTOb)
    have up : ∀ c o, p2.get? c = some o → (p2.push { cls := .type "tuple", data := .seq #[x1, x2] }).get? c = some o := fun c o e => Heap.get?_push_of_some _ e
    have hT8 : IsTupOf2 (p2.push { cls := .type "tuple", data := .seq #[x1, x2] }) p2.objs.size x1 x2 := Heap.get?_push_size _ rfl
    refine wpAny_pure ⟨_, rfl, ?_⟩
    show Q (.ref p2.objs.size) ⟨p2.push { cls := .type "tuple", data := .seq #[x1, x2] }, g, d, tk2, os⟩
    rw [hsz] at hT8
    rw [hsz]
    exact hQ x1 x2 _ tk2 _ _ hx1 hx2 (up _ _ hzz) hf ⟨_, _, up _ _ hT2⟩ (D1.frame _ _ _ (D1.over sn1 hp2 S.sep2_1) fun b _ o e => up b o e) (D2.frame _ _ _ sn2 fun b _ o e => up b o e) hT8
      fun c o cz cT k1 k2 e => up c o (hp2.extBut _ _ k2 (hp1.extBut _ _ k1 (hsb.extBut _ _ cz e)))
theorem zn_next_end {Q : Fin → Shared → Prop} (S : ZipSep2 zz ti tou j1 j2 c1 c2) (D1 : Draws prog w A j1 c1 n1 U1 W1) (D2 : Draws prog w A j2 c2 n2 U2 W2)
    (hz : ZnR s.heap zz ti tou own flag) (hf : ZsF own) (hTI : IsTupOf2 s.heap ti (.ref j1) (.ref j2)) (hTO : IsTupOf2 s.heap tou b1 b2) (st1 : W1 i s.heap) (st2 : W2 i s.heap) (hle1 : i ≤ n1) (hle2 : i ≤ n2) (hend : i = n1 ∨ i = n2)
    (hE : ∀ h' tk e, (∀ c o, c ≠ zz → c ≠ tou → c ≠ j1 → c ≠ j2 → s.heap.get? c = some o → h'.get? c = some o) → (∃ o, h'.get? e = some o ∧ o.cls = .type "StopIteration") → E (.ref e) { s with heap := h', toks := tk }) :
    wpAny (model prog w) A (Builtin.«zip.__next__» ⟨[.ref zz], []⟩) Q E s := by
  obtain ⟨hp, g, d, tk0, os⟩ := s
  show wpAny _ _ (field (.ref zz) 2 >>= _) _ _ _
  refine wpAny_bind (wpAny_field hz rfl (x := .bool false) rfl ?_)
  show wpAny _ _ (field (.ref zz) 3 >>= _) _ _ _
  refine wpAny_bind (wpAny_field hz rfl (x := .ref ti) rfl ?_)
  refine wpAny_bind (wpAny_seqItems hTI rfl ?_)
  show wpAny _ _ (Builtin.SmallTypes.ownedTupleIsFree (.ref zz) >>= _) _ _ _
  refine wpAny_bind (zn_free hz hf fun b hb flag1 hzb hsb => ?_)
  replace hsb : Heap.SameBut zz hp hb := hsb
  have hTIb : IsTupOf2 hb ti (.ref j1) (.ref j2) := hsb.extBut _ _ S.TIz hTI
  have hTOb : IsTupOf2 hb tou b1 b2 := hsb.extBut _ _ S.TOz hTO
  have st1b : W1 i hb := D1.over st1 hsb S.zf1
  have st2b : W2 i hb := D2.over st2 hsb S.zf2
  cases b with
  | true =>
    simp only [if_true]
    refine wpAny_bind (wpAny_rule ?_)
    refine wpAny_bind (wpAny_field hzb rfl (x := .ref tou) rfl ?_)
    refine wpAny_bind (wpAny_setField_rec hzb (by simp) fun g0 hz0 hs0 => ?_)
    replace hz0 : ZnR g0 zz ti tou .ellipsis flag1 := hz0
    replace hs0 : Heap.SameBut zz hb g0 := hs0
    refine wpAny_bind ?_
    simp only [List.zipIdx_cons, List.zipIdx_nil, List.forIn_cons, List.forIn_nil]
    refine wpAny_bind (wpAny_bind (wpAny_onRaise ?_))
    show wpAny _ _ (Builtin.SmallTypes.nextOf (.ref j1) >>= _) _ _ ⟨g0, g, d, tk0, os⟩
    by_cases hlt1 : i < n1
    · refine wpAny_bind (D1.item i _ _ _ hlt1 (D1.over st1b hs0 S.zf1) fun x1 p1 tk1 hx1 sn1 hp1 => wpAny_pure ?_)
      replace hp1 : Heap.SameBut j1 g0 p1 := hp1
      have hU1 : IsTupOf2 p1 tou b1 b2 := hp1.extBut _ _ S.Ti1 (hs0.extBut _ _ S.TOz hTOb)
      refine wpAny_bind (wpAny_seqItems (s := ⟨p1, g, d, tk1, os⟩) hU1 rfl ?_)
      refine wpAny_bind (updateSeq_IsTupOf2 (s := ⟨p1, g, d, tk1, os⟩) hU1 fun g1 hT1 hs1 => ?_)
      replace hT1 : IsTupOf2 g1 tou x1 b2 := hT1
      replace hs1 : Heap.SameBut tou p1 g1 := hs1
      refine wpAny_bind (wpAny_letGo (wpAny_pure ?_))
      have hi2 : i = n2 := by omega
      refine wpAny_bind (wpAny_bind (wpAny_onRaise ?_))
      show wpAny _ _ (Builtin.SmallTypes.nextOf (.ref j2) >>= _) _ _ ⟨g1, g, d, tk1, os⟩
      refine wpAny_bind (D2.done ⟨g1, g, d, tk1, os⟩ _ _ (by rw [← hi2]; exact (D2.over (D2.over (D2.over st2b hs0 S.zf2) hp1 S.sep1_2) hs1 S.Tf2)) fun q e hq he => ?_)
      replace hq : Heap.ExtBut j2 g1 q := hq
      obtain ⟨oe, hoe, hce⟩ := he
      replace hoe : q.get? e = some oe := hoe
      have hzq : ZnR q zz ti tou .ellipsis flag1 := hq _ _ S.zi2 (hs1.extBut _ _ S.TOz.symm (hp1.extBut _ _ S.zi1 hz0))
      have hez : e ≠ zz := fun x => by subst x; rw [hzq] at hoe; cases hoe; simp at hce
      refine wpAny_setField_rec (s := ⟨q, g, d, tk1, os⟩) hzq (by simp) fun q' _ hq' => ?_
      replace hq' : Heap.SameBut zz q q' := hq'
      exact hE q' tk1 e (fun c o cz cT k1 k2 x => hq'.extBut _ _ cz (hq _ _ k2 (hs1.extBut _ _ cT (hp1.extBut _ _ k1 (hs0.extBut _ _ cz (hsb.extBut _ _ cz x)))))) ⟨oe, hq'.extBut _ _ hez hoe, hce⟩
    · have hi1 : i = n1 := by omega
      refine wpAny_bind (D1.done ⟨g0, g, d, tk0, os⟩ _ _ (by rw [← hi1]; exact (D1.over st1b hs0 S.zf1)) fun q e hq he => ?_)
      replace hq : Heap.ExtBut j1 g0 q := hq
      obtain ⟨oe, hoe, hce⟩ := he
      replace hoe : q.get? e = some oe := hoe
      have hzq : ZnR q zz ti tou .ellipsis flag1 := hq _ _ S.zi1 hz0
      have hez : e ≠ zz := fun x => by subst x; rw [hzq] at hoe; cases hoe; simp at hce
      refine wpAny_setField_rec (s := ⟨q, g, d, tk0, os⟩) hzq (by simp) fun q' _ hq' => ?_
      replace hq' : Heap.SameBut zz q q' := hq'
      exact hE q' tk0 e (fun c o cz cT k1 k2 x => hq'.extBut _ _ cz (hq _ _ k1 (hs0.extBut _ _ cz (hsb.extBut _ _ cz x)))) ⟨oe, hq'.extBut _ _ hez hoe, hce⟩
  | false =>
    simp only [Bool.false_eq_true, if_false]
    refine wpAny_bind ?_
    first
    | rw [List.forIn_toArray]
    | (rw [← Array.forIn_toList]; simp only [List.toList_toArray])
    | rw [← Array.forIn_toList]
    simp only [List.forIn_cons, List.forIn_nil]
    refine wpAny_bind (wpAny_bind (wpAny_holding ?_))
    show wpAny _ _ (Builtin.SmallTypes.nextOf (.ref j1) >>= _) _ _ ⟨hb, g, d, tk0, os⟩
    by_cases hlt1 : i < n1
    · refine wpAny_bind (D1.item i _ _ _ hlt1 st1b fun x1 p1 tk1 hx1 sn1 hp1 => wpAny_pure ?_)
      replace hp1 : Heap.SameBut j1 hb p1 := hp1
      have hi2 : i = n2 := by omega
      refine wpAny_pure ?_
      refine wpAny_bind (wpAny_bind (wpAny_holding ?_))
      show wpAny _ _ (Builtin.SmallTypes.nextOf (.ref j2) >>= _) _ _ ⟨p1, g, d, tk1, os⟩
      refine wpAny_bind (D2.done ⟨p1, g, d, tk1, os⟩ _ _ (by rw [← hi2]; exact D2.over st2b hp1 S.sep1_2) fun q e hq he => ?_)
      replace hq : Heap.ExtBut j2 p1 q := hq
      exact hE q tk1 e (fun c o cz cT k1 k2 x => hq _ _ k2 (hp1.extBut _ _ k1 (hsb.extBut _ _ cz x))) he
    · have hi1 : i = n1 := by omega
      refine wpAny_bind (D1.done ⟨hb, g, d, tk0, os⟩ _ _ (by rw [← hi1]; exact st1b) fun q e hq he => ?_)
      replace hq : Heap.ExtBut j1 hb q := hq
      exact hE q tk0 e (fun c o cz cT k1 k2 x => hq _ _ k1 (hsb.extBut _ _ cz x)) he
theorem zn_pyNext_item {Q : Option Value → Shared → Prop} (S : ZipSep2 zz ti tou j1 j2 c1 c2) (D1 : Draws prog w A.in1 j1 c1 n1 U1 W1) (D2 : Draws prog w A.in1 j2 c2 n2 U2 W2)
    (hz : ZnR s.heap zz ti tou own flag) (hf : ZsF own) (hTI : IsTupOf2 s.heap ti (.ref j1) (.ref j2)) (hTO : IsTupOf2 s.heap tou b1 b2) (st1 : W1 i s.heap) (st2 : W2 i s.heap) (hi1 : i < n1) (hi2 : i < n2)
    (hQ : ∀ x1 x2 h' tk own' flag', U1 i x1 → U2 i x2 → ZnR h' zz ti tou own' flag' → ZsF own' → (∃ b1 b2, IsTupOf2 h' tou b1 b2) → W1 (i + 1) h' → W2 (i + 1) h' → IsTupOf2 h' s.heap.objs.size x1 x2 →
      (∀ c o, c ≠ zz → c ≠ tou → c ≠ j1 → c ≠ j2 → s.heap.get? c = some o → h'.get? c = some o) → Q (some (.ref s.heap.objs.size)) { s with heap := h', toks := tk }) :
    wpAny (model prog w) A (pyNext (.ref zz)) Q E s := by
  have hT : s.TypeIs (.ref zz) "zip" := ⟨_, hz, rfl⟩
  unfold pyNext
  exact wpAny_bind (wpAny_attempt (wpAny_callSpecial?_slot (name := Str.ofString "__next__") hT F.slot_zip_next
    (wpAny_call_entry F.slot_zip_next hT F.entry_zip_next
      (zn_next_item S D1 D2 hz hf hTI hTO st1 st2 hi1 hi2 fun x1 x2 h' tk o' f' y1 y2 q1 q2 q3 q4 q5 q6 q7 => wpAny_pure (hQ x1 x2 h' tk o' f' y1 y2 q1 q2 q3 q4 q5 q6 q7)) (F.args_zip_next_1 _))))
theorem zn_pyNext_end {Q : Option Value → Shared → Prop} (S : ZipSep2 zz ti tou j1 j2 c1 c2) (D1 : Draws prog w A.in1 j1 c1 n1 U1 W1) (D2 : Draws prog w A.in1 j2 c2 n2 U2 W2)
    (hz : ZnR s.heap zz ti tou own flag) (hf : ZsF own) (hTI : IsTupOf2 s.heap ti (.ref j1) (.ref j2)) (hTO : IsTupOf2 s.heap tou b1 b2) (st1 : W1 i s.heap) (st2 : W2 i s.heap) (hle1 : i ≤ n1) (hle2 : i ≤ n2) (hend : i = n1 ∨ i = n2)
    (hQ : ∀ h' tk, (∀ c o, c ≠ zz → c ≠ tou → c ≠ j1 → c ≠ j2 → s.heap.get? c = some o → h'.get? c = some o) → Q none { s with heap := h', toks := tk }) : wpAny (model prog w) A (pyNext (.ref zz)) Q E s := by
  have hT : s.TypeIs (.ref zz) "zip" := ⟨_, hz, rfl⟩
  unfold pyNext
  refine wpAny_bind (wpAny_attempt (wpAny_callSpecial?_slot (name := Str.ofString "__next__") hT F.slot_zip_next
    (wpAny_call_entry F.slot_zip_next hT F.entry_zip_next (zn_next_end S D1 D2 hz hf hTI hTO st1 st2 hle1 hle2 hend fun h' tk e hk he => ?_) (F.args_zip_next_1 _))))
  obtain ⟨o, ho, hc⟩ := he
  refine wpAny_bind (wpAny_isInstance (T := "StopIteration") (b := true) ⟨o, ho, hc⟩ isSubtype_stop ?_)
  exact wpAny_pure (hQ _ _ hk)
theorem zn_pyIter {Q : Value → Shared → Prop} (hz : ZnR s.heap zz ti tou own flag) (h : Q (.ref zz) s) : wpAny (model prog w) A (pyIter (.ref zz)) Q E s := by
  have hT : s.TypeIs (.ref zz) "zip" := ⟨_, hz, rfl⟩
  refine wpAny_pyIter_slot hT F.slot_zip_iter (wpAny_call_entry F.slot_zip_iter hT F.entry_zip_iter ?_ (F.args_zip_iter_1 _))
  show wpAny _ _ (ret (.ref zz)) _ _ s
  exact wpAny_pure ⟨_, rfl, "zip", _, hT, F.slot_zip_next.lookup, h⟩
end

section
variable {α : Type}
theorem go_name {P : Program} {w : World} {A : Around} {y : Str} {yp : Pos} {it v : Value} {Q : Unit → Shared → Prop} {E : Value → Shared → Prop} {s : Shared} (h : Q () s) : wpAny (model P w) A (letOwnedTupleGo (.Name y yp) it v) Q E s := by
  unfold letOwnedTupleGo
  exact wpAny_pure h
theorem turn_nam {P : Program} {w : World} {K : PySem.W.Frag} {y : Str} {yp : Pos} {rd : Hp → α → Prop} {row : α → Nat → List L2.V} {len : α → Nat} {fp wr : List Addr} {I0 : Addr} {St : Nat → Heap → Prop}
    (mem : I0 ∈ fp) (sub : ∀ b ∈ wr, b ∈ fp) (obj : ∀ i h, St i h → ∀ b ∈ fp, ∃ o, h.get? b = some o ∧ ∀ v, o.data ≠ .cell v)
    (keep : ∀ i h h', St i h → (∀ b ∈ fp, ∀ o, h.get? b = some o → h'.get? b = some o) → St i h')
    (self : ∀ (A : Around) (i : Nat) (s : Shared) (Q : Value → Shared → Prop) (E : Value → Shared → Prop), St i s.heap → Q (.ref I0) s → wpAny (model P w) A (pyIter (.ref I0)) Q E s)
    (inj : ∀ (X : Cx), X.K = K → ∀ pins σ H s, Inv X pins σ H s → ∀ a b, rd H a → rd H b → a = b)
    (walk : ∀ (X : Cx), X.prog = P → X.w = w → X.K = K → X.calm = true → ∀ pins σ H s a, Inv X pins σ H s → rd H a → ∃ Pt : Nat → Array Value → Prop,
      (∀ i (Q : Option Value → Shared → Prop) (E : Value → Shared → Prop), i < len a → St i s.heap → (∀ T vals h' tk, Pt i vals → s.heap.objs.size ≤ T → h'.IsTuple T vals → St (i + 1) h' → (∀ b o, b ∉ wr → s.heap.get? b = some o → h'.get? b = some o) → Q (some (.ref T)) { s with heap := h', toks := tk }) → wpAny (model P w) X.A (pyNext (.ref I0)) Q E s) ∧
      (∀ (Q : Option Value → Shared → Prop) (E : Value → Shared → Prop), St (len a) s.heap → (∀ h' tk, (∀ b o, b ∉ wr → s.heap.get? b = some o → h'.get? b = some o) → Q none { s with heap := h', toks := tk }) → wpAny (model P w) X.A (pyNext (.ref I0)) Q E s) ∧
      ∀ i vals, Pt i vals → Vals (row a i) vals.toList ∧ (row a i).length ≤ sizeLine) :
    Turn P w K (.Name y yp) (ItG rd row len) fp I0 St where
  mem := mem
  obj := obj
  keep := keep
  self := self
  item := by
    intro X hP hw hK hc i pins s σ H E I hf st hg
    obtain ⟨a, ha, hi⟩ := hg
    obtain ⟨Pt, hit, hend, hrow⟩ := walk X hP hw hK hc pins σ H s a I ha
    refine hit i _ _ hi st fun T vals h' tk hv hT hIT hM hk => ⟨_, rfl, go_name ?_⟩
    obtain ⟨rv, rl⟩ := hrow i vals hv
    obtain ⟨o, ho, hcl, n, hd⟩ := hIT
    have new : ObjOk X.prog X.w (upd H T (.tup (row a i))) h' T (.tup (row a i)) := ⟨rl, vals.toList, rv, ⟨_, ho, hcl, n, by simpa using hd⟩⟩
    have I1 : Inv X pins σ (upd H T (.tup (row a i))) { s with heap := h', toks := tk } := I.turnedNew (t' := tk) (ch := wr) hk (fun b hb => hf b (sub b hb)) hT new
    refine ⟨.ref T, _, I1, rfl, ⟨T, row a i, rfl, I.hok.fresh hT, rfl, fun b hb => by rw [inj X hK pins σ H s I b a hb ha]⟩, hM, fun b hb => ?_⟩
    obtain ⟨ob, eb, _⟩ := obj i s.heap st b hb
    rw [upd_ne (Nat.ne_of_lt (Nat.lt_of_lt_of_le (Heap.lt_size eb) hT))]
    exact (hf b hb).1
  done := by
    intro X hP hw hK hc i pins s σ H E I hf st hg
    obtain ⟨a, ha, rfl⟩ := hg
    obtain ⟨Pt, hit, hend, hrow⟩ := walk X hP hw hK hc pins σ H s a I ha
    exact hend _ _ st fun h' tk hk => ⟨rfl, I.turnedL (t' := tk) (ch := wr) hk fun b hb => hf b (sub b hb)⟩
end
section
variable {X : Cx} {e e2 : Expr} {ta : TA} {p pos yp : Pos} {y : Str}
theorem pi_zipN (hg : Gl X "zip") (hm : X.mg "zip" = none) (ha : PA X [e, e2] ta)
    (hs : starEach [e, e2] X.env = (false, eval e X.env) :: starEach [e2] X.env := by rfl) (hpl : (backTo pos (starEach [e2] X.env)).any (·.1) = false := by rfl) :
    PI X (.Name y yp) (.Call (.Name "zip" p) [e, e2] [] pos) (iZip2 X.K ta) := by
  refine ⟨fun pins s σ H R I h => ?_⟩
  refine Call_ (ld_blt I hg hm PyProof.Rows.boot_zip (PyProof.Rows.callWith_type1 (thn (ha.run pos pins s σ H _ I h) fun us s1 ⟨vs, H1, I1, r1, q1⟩ => ?_) hs hpl))
  obtain ⟨k1, k2, a, b, pr, ex, ⟨hqa, hqb⟩, q⟩ := q1
  subst ex
  cases r1 with
  | cons r rr =>
    cases rr with
    | cons r' rr =>
      cases rr
      cases r
      cases r'
      obtain ⟨its, rv, hsrc, hlt⟩ := src_get I1 hqa
      obtain ⟨its2, rv2, hsrc2, hlt2⟩ := src_get I1 hqb
      obtain ⟨o1, B1, hB1⟩ := begins_src k1 a its.toArray
      obtain ⟨o2, B2, hB2⟩ := begins_src k2 b its2.toArray
      obtain ⟨N, hN⟩ : ∃ N, s1.heap.objs.size = N := ⟨_, rfl⟩
      rw [hN] at hlt hlt2
      refine zip_begins2 B1 B2 hsrc hsrc2 fun h' hz hTI hTO h1 h2 hsz hk => wpAny_pyIter_zip hz ?_
      have I2 : Inv X pins σ H1 { s1 with heap := h' } := I1.kept (t' := s1.toks) hk
      rw [hN] at hz hTI hTO h1 h2 ⊢
      refine ⟨N + 4, [N + 4, N + 2, N + 3, N, N + 1], fun i h => (∃ own flag, ZnR h (N + 4) (N + 2) (N + 3) own flag ∧ ZsF own) ∧ IsTupOf2 h (N + 2) (.ref N) (.ref (N + 1)) ∧ (∃ a1 a2, IsTupOf2 h (N + 3) a1 a2) ∧ ItrH h k1 N a i ∧ ItrH h k2 (N + 1) b i,
        _, H1, rfl, I2, turn_nam (wr := [N + 4, N + 3, N, N + 1]) (by simp) (fun b hb => ?_) ?_ ?_ ?_ ?_ ?_, ⟨⟨.none, .bool false, hz, .inl rfl⟩, hTI, ⟨_, _, hTO⟩, hB1 _ _ h1, hB2 _ _ h2⟩, fun b hb => ?_, q⟩
      · have e' : b = N + 4 ∨ b = N + 3 ∨ b = N ∨ b = N + 1 := by simpa using hb
        rcases e' with z | z | z | z <;> simp [z]
      · rintro i h ⟨⟨_, _, g1, _⟩, g2, ⟨_, _, g3⟩, g4, g5⟩ c hc
        have e' : c = N + 4 ∨ c = N + 2 ∨ c = N + 3 ∨ c = N ∨ c = N + 1 := by simpa using hc
        rcases e' with z | z | z | z | z
        · rw [z]; exact ⟨_, g1, fun v q => nomatch q⟩
        · rw [z]; exact ⟨_, g2, fun v q => nomatch q⟩
        · rw [z]; exact ⟨_, g3, fun v q => nomatch q⟩
        · rw [z]; exact itr_obj g4
        · rw [z]; exact itr_obj g5
      · rintro i h h' ⟨⟨own, flag, g1, gf⟩, g2, ⟨_, _, g3⟩, g4, g5⟩ k'
        exact ⟨⟨own, flag, k' _ (by simp) _ g1, gf⟩, k' _ (by simp) _ g2, ⟨_, _, k' _ (by simp) _ g3⟩, itr_at g4 fun o e => k' _ (by simp) o e, itr_at g5 fun o e => k' _ (by simp) o e⟩
      · rintro A i s Q E ⟨⟨_, _, g1, _⟩, _⟩ h
        exact zn_pyIter g1 h
      · rintro X' hK' pins' σ' H' s' I' ⟨x1, x2⟩ ⟨y1, y2⟩ ⟨u1, u2⟩ ⟨v1, v2⟩
        rw [← hK'] at u1 u2 v1 v2
        exact Prod.ext (src_inj I' u1 v1) (src_inj I' u2 v2)
      · rintro X' hP hw hK' hc' pins' σ' H' s' ⟨x1, x2⟩ I' ⟨u1, u2⟩
        rw [← hK'] at u1 u2
        obtain ⟨w1, rw1, hw1, _⟩ := src_get I' u1
        obtain ⟨w2, rw2, hw2, _⟩ := src_get I' u2
        have hh : X'.A.in1.handled = none := by simpa using I'.ok.hd hc'
        have D1 := draws_src (prog := X.prog) (w := X.w) hh k1 N a (Nat.ne_of_lt hlt) w1.toArray
        have D2 := draws_src (prog := X.prog) (w := X.w) hh k2 (N + 1) b (Nat.ne_of_lt (Nat.lt_succ_of_lt hlt2)) w2.toArray
        have S := zip_sep2 (N := N) (fp1 := [a]) (fp2 := [b]) (by simpa using hlt) (by simpa using hlt2)
        have l1 : w1.toArray.size = x1.length := vals_len rw1
        have l2 : w2.toArray.size = x2.length := vals_len rw2
        refine ⟨fun i vals => ∃ x y, w1.toArray[i]? = some x ∧ w2.toArray[i]? = some y ∧ vals = #[x, y], ?_, ?_, ?_⟩
        · rintro i Q E hi ⟨⟨own, flag, g1, gf⟩, g2, ⟨_, _, g3⟩, g4, g5⟩ hQ
          have hi1 : i < w1.toArray.size := by rw [l1]; unfold lenZ2 at hi; simp only at hi; omega
          have hi2 : i < w2.toArray.size := by rw [l2]; unfold lenZ2 at hi; simp only at hi; omega
          refine zn_pyNext_item S D1 D2 g1 gf g2 g3 ⟨g4, hw1⟩ ⟨g5, hw2⟩ hi1 hi2 fun x y h' tk own' flag' e1 e2 z1 z2 z3 z4 z5 z6 z7 => ?_
          exact hQ _ _ h' tk ⟨x, y, e1, e2, rfl⟩ (Nat.le_refl _) ⟨_, z6, rfl, _, rfl⟩ ⟨⟨own', flag', z1, z2⟩, z7 _ _ S.TIz S.TITO S.TIi1 S.TIi2 g2, z3, z4.1, z5.1⟩
            fun c o hc e => z7 c o (fun x => hc (by simp [x])) (fun x => hc (by simp [x])) (fun x => hc (by simp [x])) (fun x => hc (by simp [x])) e
        · rintro Q E ⟨⟨own, flag, g1, gf⟩, g2, ⟨_, _, g3⟩, g4, g5⟩ hQ
          have hl : lenZ2 (x1, x2) = min x1.length x2.length := rfl
          refine zn_pyNext_end (i := lenZ2 (x1, x2)) (n1 := w1.toArray.size) (n2 := w2.toArray.size) S D1 D2 g1 gf g2 g3 ⟨g4, hw1⟩ ⟨g5, hw2⟩ (by rw [l1]; omega) (by rw [l2]; omega) (by rw [l1, l2]; omega) fun h' tk kk => hQ h' tk fun c o hc e => kk c o (fun x => hc (by simp [x])) (fun x => hc (by simp [x])) (fun x => hc (by simp [x])) (fun x => hc (by simp [x])) e
        · rintro i vals ⟨x, y, hx, hy, rfl⟩
          exact ⟨.cons (getD_vals rw1 hx) (.cons (getD_vals rw2 hy) .nil), by show 2 ≤ sizeLine; decide⟩
      · have e' : b = N + 4 ∨ b = N + 2 ∨ b = N + 3 ∨ b = N ∨ b = N + 1 := by simpa using hb
        have hle : s1.heap.objs.size ≤ b := by
          rw [hN]
          rcases e' with z | z | z | z | z
          · rw [z]; exact Nat.le_add_right _ _
          · rw [z]; exact Nat.le_add_right _ _
          · rw [z]; exact Nat.le_add_right _ _
          · rw [z]; exact Nat.le_refl _
          · rw [z]; exact Nat.le_add_right _ _
        exact I1.fpOk hle (I1.hok.fresh hle)
end
section
variable {X : Cx} {cl : Nat → Addr} {W : WX} {e e2 : Expr} {ma : M (List PyData)} {p pos yp : Pos} {y : Str}
theorem di_zipN (hg : Gl X "zip") (hm : X.mg "zip" = none) (ha : DA X cl W [e, e2] ma)
    (hs : starEach [e, e2] X.env = (false, eval e X.env) :: starEach [e2] X.env := by rfl) (hpl : (backTo pos (starEach [e2] X.env)).any (·.1) = false := by rfl) :
    DI X cl W (.Name y yp) (.Call (.Name "zip" p) [e, e2] [] pos) (mIA zip2F ma) := by
  refine PI.imp (pi_zipN hg hm ha hs hpl) fun σ H R q => tI_ofA q fun v H' F' ds d env' fp' r ef hf k => ?_
  cases hf with
  | nil => cases ef
  | @cons d ds' v vs h t =>
    cases t with
    | nil => cases ef
    | @cons d2 ds2 v2 vs2 h2 t2 =>
      cases t2 with
      | cons _ _ => cases ef
      | nil =>
        obtain ⟨xs, e1, ef⟩ := Option.bind_eq_some_iff.mp (show ((seqOf d).bind fun xs => (seqOf d2).map fun ys => zip2D xs ys) = some ds from ef)
        obtain ⟨ys, e2, rfl⟩ := Option.map_eq_some_iff.mp ef
        obtain ⟨k1, a, vs, rfl, rs, hs1⟩ := fr_src h e1
        obtain ⟨k2, b, us, rfl, ru, hs2⟩ := fr_src h2 e2
        refine ⟨k1, k2, a, b, (vs, us), rfl, ⟨hs1 H' fun _ _ _ z => z, hs2 H' fun _ _ _ z => z⟩, k _ (walk_gen (a0 := (vs, us)) (fun H2 k' => ⟨hs1 H2 k', hs2 H2 k'⟩) (by unfold zip2D lenZ2; rw [List.length_zipWith, rs.length, ru.length]) fun i d ed => ?_)⟩
        unfold zip2D at ed
        rw [List.getElem?_zipWith] at ed
        cases ex : xs[i]? with
        | none => rw [ex] at ed; cases ed
        | some x =>
          cases ey : ys[i]? with
          | none => rw [ex, ey] at ed; cases ed
          | some y =>
            rw [ex, ey] at ed
            cases ed
            exact ⟨_, rfl, .cons (rs.getD ex) (.cons (ru.getD ey) .nil)⟩
end
end PD

namespace PD
open PySem PySem.Spec PyProof.Rows L2
def lev (n : Nat) (m : Cl) : Nat → List Lin
  | 0 => m.map fun p => [p.1]
  | k + 1 => (lev n m k).flatMap (loX n m)
def fndK (n : Nat) (m : Cl) (K : Nat) : List Lin := (List.range K).flatMap fun k => (lev n m k).flatMap (riX n m)
section
variable {n : Nat} {m : Cl} {L : Lin} {p : Int × Int}
theorem ln_one (hm : ∀ k, hasK m k = true → k.1 ∈ rgI n ∧ k.2 ∈ rgI n) : IsLn n m [p] ↔ hasK m p = true := by
  constructor
  · intro h
    exact (h.iff 0 0 p p rfl rfl).mpr (.inl rfl)
  · intro h
    refine ⟨by simp, fun x hx => by rw [List.mem_singleton.mp hx]; exact hm p h, by simp [fsL], by simp [snL], fun k x y _ hy => by simp at hy, fun a b x y hx hy => ?_⟩
    have ha : a = 0 := by have := (List.getElem?_eq_some_iff.mp hx).1; simp at this; exact this
    have hb : b = 0 := by have := (List.getElem?_eq_some_iff.mp hy).1; simp at this; exact this
    subst ha hb
    cases hx
    cases hy
    exact ⟨fun _ => .inl rfl, fun _ => h⟩
theorem snoc_of (h : 2 ≤ L.length) : ∃ L' p, L = L' ++ [p] ∧ L' ≠ [] := by
  have hne : L ≠ [] := fun z => by rw [z] at h; simp at h
  refine ⟨L.dropLast, L.getLast hne, (List.dropLast_concat_getLast hne).symm, fun z => ?_⟩
  have := congrArg List.length z
  rw [List.length_dropLast] at this
  simp at this
  omega
theorem mem_lev (hm : ∀ k, hasK m k = true → k.1 ∈ rgI n ∧ k.2 ∈ rgI n) : ∀ {k : Nat} {L : Lin}, L ∈ lev n m k ↔ IsLn n m L ∧ L.length = k + 1
  | 0, L => by
    show L ∈ m.map (fun p => [p.1]) ↔ _
    rw [List.mem_map]
    constructor
    · rintro ⟨p, hp, rfl⟩
      exact ⟨(ln_one hm).mpr (hasK_iff.mpr (List.mem_map.mpr ⟨p, hp, rfl⟩)), rfl⟩
    · rintro ⟨h, l⟩
      match L, l with
      | [q], _ =>
        obtain ⟨p, hp, e⟩ := List.mem_map.mp (hasK_iff.mp ((ln_one hm).mp h))
        exact ⟨p, hp, by rw [e]⟩
  | k + 1, L => by
    show L ∈ (lev n m k).flatMap (loX n m) ↔ _
    rw [List.mem_flatMap]
    constructor
    · rintro ⟨L', h1, h2⟩
      obtain ⟨i1, i2⟩ := (mem_lev hm).mp h1
      unfold loX at h2
      obtain ⟨p, hp, rfl⟩ := List.mem_map.mp h2
      obtain ⟨g1, g2⟩ := List.mem_filter.mp hp
      exact ⟨(ln_ext i1.ne).mpr ⟨i1, g1, g2⟩, by simp [i2]⟩
    · rintro ⟨h, l⟩
      obtain ⟨L', p, rfl, hne⟩ := snoc_of (L := L) (by omega)
      obtain ⟨i1, g1, g2⟩ := (ln_ext hne).mp h
      refine ⟨L', (mem_lev hm).mpr ⟨i1, by simpa using l⟩, ?_⟩
      unfold loX
      exact List.mem_map.mpr ⟨p, List.mem_filter.mpr ⟨g1, g2⟩, rfl⟩
theorem ln_len (h : IsLn n m L) : L.length ≤ n := by
  have := nd_sub_len h.nf (s := rgI n) fun x hx => by
    unfold fsL at hx
    obtain ⟨q, hq, rfl⟩ := List.mem_map.mp hx
    exact (h.rng q hq).1
  rw [rgI_len] at this
  unfold fsL at this
  rw [List.length_map] at this
  exact this
theorem lev_end (hm : ∀ k, hasK m k = true → k.1 ∈ rgI n ∧ k.2 ∈ rgI n) {k : Nat} (h : lev n m k ≠ []) : k < n := by
  obtain ⟨L, hL⟩ := List.exists_mem_of_ne_nil _ h
  obtain ⟨h1, h2⟩ := (mem_lev hm).mp hL
  have := ln_len h1
  omega
theorem mem_riX (hL : IsLn n m L) {r : Lin} : r ∈ riX n m L ↔ ∃ p, r = L ++ [p] ∧ IsBare n m r := by
  unfold riX
  rw [List.mem_map]
  constructor
  · rintro ⟨p, hp, rfl⟩
    obtain ⟨g1, g2⟩ := List.mem_filter.mp hp
    exact ⟨p, rfl, (ring_ext hL.ne).mpr ⟨hL, g1, g2⟩⟩
  · rintro ⟨p, rfl, h⟩
    obtain ⟨_, g1, g2⟩ := (ring_ext hL.ne).mp h
    exact ⟨p, List.mem_filter.mpr ⟨g1, g2⟩, rfl⟩
theorem mem_fndK (hm : ∀ k, hasK m k = true → k.1 ∈ rgI n ∧ k.2 ∈ rgI n) {K : Nat} {r : Lin} : r ∈ fndK n m K ↔ IsBare n m r ∧ r.length ≤ K + 1 := by
  unfold fndK
  rw [List.mem_flatMap]
  constructor
  · rintro ⟨k, hk, h⟩
    obtain ⟨L, hL, hr⟩ := List.mem_flatMap.mp h
    obtain ⟨h1, h2⟩ := (mem_lev hm).mp hL
    obtain ⟨p, rfl, hb⟩ := (mem_riX h1).mp hr
    have := List.mem_range.mp hk
    exact ⟨hb, by simp; omega⟩
  · rintro ⟨hb, l⟩
    have l3 := hb.l3
    obtain ⟨L, p, rfl, hne⟩ := snoc_of (L := r) (by omega)
    obtain ⟨h1, _⟩ := (ring_ext hne).mp hb
    have hl : (L ++ [p]).length = L.length + 1 := by simp
    have l0 : 0 < L.length := List.length_pos_iff.mpr hne
    refine ⟨L.length - 1, List.mem_range.mpr (by omega), List.mem_flatMap.mpr ⟨L, (mem_lev hm).mpr ⟨h1, by omega⟩, (mem_riX h1).mpr ⟨p, rfl, hb⟩⟩⟩
theorem goX_nd : (goX n m L).Nodup := by
  unfold goX List.Nodup
  rw [List.pairwise_flatMap]
  refine ⟨fun j _ => nodup_map_on (fun a b _ _ e => (Prod.mk.inj e).1) (((rgI_nd n).filter _).filter _), (((rgI_nd n).filter _).filter _).imp fun {a b} ne x hx y hy e => ?_⟩
  obtain ⟨i, _, rfl⟩ := List.mem_map.mp hx
  obtain ⟨i', _, rfl⟩ := List.mem_map.mp hy
  exact ne (Prod.mk.inj e).2
theorem snoc_inj {A B : Lin} {p q : Int × Int} (e : A ++ [p] = B ++ [q]) : A = B ∧ p = q := by
  have h1 := congrArg List.dropLast e
  have h2 := congrArg List.getLast? e
  simp at h1 h2
  exact ⟨h1, h2⟩
theorem flat_nd {α β : Type} {S : List α} {f : α → List β} (hS : S.Nodup) (h1 : ∀ x, x ∈ S → (f x).Nodup) (h2 : ∀ x y z, x ∈ S → y ∈ S → z ∈ f x → z ∈ f y → x = y) : (S.flatMap f).Nodup := by
  unfold List.Nodup
  rw [List.pairwise_flatMap]
  refine ⟨h1, ?_⟩
  refine List.Pairwise.imp_of_mem ?_ hS
  intro a b ha hb ne x hx y hy e
  subst e
  exact ne (h2 a b x ha hb hx hy)
theorem lev_nd (nd : (m.map (·.1)).Nodup) : ∀ k, (lev n m k).Nodup
  | 0 => by
    show (m.map fun p => [p.1]).Nodup
    rw [show (fun p : (Int × Int) × Int => [p.1]) = (fun q => [q]) ∘ (·.1) from rfl, ← List.map_map]
    exact nodup_map_on (fun a b _ _ e => (List.cons.inj e).1) nd
  | k + 1 => flat_nd (lev_nd nd k) (fun L _ => nodup_map_on (fun a b _ _ e => (snoc_inj e).2) (goX_nd.filter _)) fun A B x _ _ hx hy => by
    unfold loX at hx hy
    obtain ⟨p, _, rfl⟩ := List.mem_map.mp hx
    obtain ⟨q, _, e⟩ := List.mem_map.mp hy
    exact (snoc_inj e).1.symm
theorem fndK_nd (hm : ∀ k, hasK m k = true → k.1 ∈ rgI n ∧ k.2 ∈ rgI n) (nd : (m.map (·.1)).Nodup) (K : Nat) : (fndK n m K).Nodup := by
  refine flat_nd List.nodup_range (fun k _ => flat_nd (lev_nd nd k) (fun L _ => nodup_map_on (fun a b _ _ e => (snoc_inj e).2) (goX_nd.filter _)) fun A B x _ _ hx hy => ?_) fun a b r _ _ ha hb => ?_
  · unfold riX at hx hy
    obtain ⟨p, _, rfl⟩ := List.mem_map.mp hx
    obtain ⟨q, _, e⟩ := List.mem_map.mp hy
    exact (snoc_inj e).1.symm
  · have key : ∀ {k}, r ∈ (lev n m k).flatMap (riX n m) → r.length = k + 2 := fun {k} h => by
      obtain ⟨L, hL, hr⟩ := List.mem_flatMap.mp h
      obtain ⟨h1, h2⟩ := (mem_lev hm).mp hL
      obtain ⟨p, rfl, _⟩ := (mem_riX h1).mp hr
      simp [h2]
    have := key ha
    have := key hb
    omega
theorem lev_stop {K : Nat} (h : lev n m K = []) : ∀ d, lev n m (K + d) = []
  | 0 => h
  | d + 1 => by
    show (lev n m (K + d)).flatMap (loX n m) = []
    rw [lev_stop h d]
    rfl
theorem fndK_perm (hm : ∀ k, hasK m k = true → k.1 ∈ rgI n ∧ k.2 ∈ rgI n) (nd : (m.map (·.1)).Nodup) {K : Nat} (h : lev n m K = []) : (fndK n m K).Perm (bareL n m) := by
  refine (List.perm_ext_iff_of_nodup (fndK_nd hm nd K) bareL_nd).mpr fun r => ?_
  rw [mem_fndK hm, mem_bareL]
  refine ⟨And.left, fun hb => ⟨hb, ?_⟩⟩
  have l3 := hb.l3
  obtain ⟨L, p, rfl, hne⟩ := snoc_of (L := r) (by omega)
  obtain ⟨h1, _⟩ := (ring_ext hne).mp hb
  have hl : (L ++ [p]).length = L.length + 1 := by simp
  rcases Nat.lt_or_ge K L.length with q | q
  · have l0 : 0 < L.length := List.length_pos_iff.mpr hne
    have hL := (mem_lev hm (k := L.length - 1)).mpr ⟨h1, by omega⟩
    rw [show L.length - 1 = K + (L.length - 1 - K) by omega, lev_stop h] at hL
    cases hL
  · omega
theorem fndK_len (hm : ∀ k, hasK m k = true → k.1 ∈ rgI n ∧ k.2 ∈ rgI n) (nd : (m.map (·.1)).Nodup) (n5 : n ≤ 5) (K : Nat) : (fndK n m K).length ≤ 600 :=
  Nat.le_trans (nd_sub_len (fndK_nd hm nd K) fun r hr => mem_bareL.mpr ((mem_fndK hm).mp hr).1) (bareL_len n5)
theorem goX_len (h : IsLn n m L) : (goX n m L).length ≤ (n - L.length) * (n - L.length) := by
  have fl : (fsL L).length = L.length := by simp [fsL]
  have sl : (snL L).length = L.length := by simp [snL]
  have rf : ∀ x, x ∈ fsL L → x ∈ rgI n := fun x hx => by
    unfold fsL at hx
    obtain ⟨q, hq, rfl⟩ := List.mem_map.mp hx
    exact (h.rng q hq).1
  have rs : ∀ x, x ∈ snL L → x ∈ rgI n := fun x hx => by
    unfold snL at hx
    obtain ⟨q, hq, rfl⟩ := List.mem_map.mp hx
    exact (h.rng q hq).2
  unfold goX
  have a : (jL n m L).length ≤ n - L.length := by
    have h1 : (jL n m L).length ≤ (jL1 n m L).length := by
      unfold jL
      exact (List.filter_sublist (l := jL1 n m L)).length_le
    have h2 := out_len h.ns rs fun j => hasK m (lstR L, j)
    have e : jL1 n m L = (rgI n).filter fun j => !decide (j ∈ snL L) && hasK m (lstR L, j) := by
      unfold jL1
      exact List.filter_congr fun j _ => Bool.and_comm _ _
    rw [e] at h1
    omega
  refine Nat.le_trans (flat_len (M := n - L.length) fun j _ => ?_) (Nat.mul_le_mul_right _ a)
  rw [List.length_map]
  have h2 := out_len h.nf rf fun i => hasK m (i, j)
  have e : iL n m L j = (rgF (hdR L) n).filter fun i => !decide (i ∈ fsL L) && hasK m (i, j) := by
    unfold iL
    exact List.filter_congr fun i _ => Bool.and_comm _ _
  have h3 : (iL n m L j).length ≤ ((rgI n).filter fun i => !decide (i ∈ fsL L) && hasK m (i, j)).length := by
    rw [e]
    unfold rgF
    exact ((List.filter_sublist (l := rgI n)).filter _).length_le
  omega
def lvN (n c : Nat) : Nat → Nat
  | 0 => c
  | k + 1 => lvN n c k * ((n - (k + 1)) * (n - (k + 1)))
theorem lev_len (hm : ∀ k, hasK m k = true → k.1 ∈ rgI n ∧ k.2 ∈ rgI n) {c : Nat} (hc : m.length ≤ c) : ∀ k, (lev n m k).length ≤ lvN n c k
  | 0 => by show (m.map _).length ≤ c; rw [List.length_map]; exact hc
  | k + 1 => by
    refine Nat.le_trans (flat_len (M := (n - (k + 1)) * (n - (k + 1))) fun L hL => ?_) (Nat.mul_le_mul_right _ (lev_len hm hc k))
    obtain ⟨h1, h2⟩ := (mem_lev hm).mp hL
    unfold loX
    rw [List.length_map, ← h2]
    exact Nat.le_trans (List.filter_sublist (l := goX n m L)).length_le (goX_len h1)
theorem lev_big (hm : ∀ k, hasK m k = true → k.1 ∈ rgI n ∧ k.2 ∈ rgI n) (hc : m.length ≤ 100) (n5 : n ≤ 5) (k : Nat) : (lev n m k).length ≤ 1000000 := by
  rcases Nat.lt_or_ge k n with q | q
  · refine Nat.le_trans (lev_len hm hc k) ?_
    have : ∀ n, n < 6 → ∀ k, k < 6 → lvN n 100 k ≤ 1000000 := by decide +kernel
    exact this n (by omega) k (by omega)
  · have : lev n m k = [] := Classical.byContradiction fun z => by
      have := lev_end hm z
      omega
    rw [this]
    exact Nat.zero_le _
end
end PD

namespace PD
open PySem PySem.Spec PyProof.Rows L2
noncomputable def m_is_spare : M Fl :=
  (sSeq (sAsg (mVar 2) (gTp 2 (gCo (gNm 3) (gCo (gNm 4) gNo))))
    (sRet (mArgs allF (aCons (mLc (mI seqOf (mVar 1)) (gTp 2 (gCo (gNm 5) (gCo (gNm 6) gNo))) (pure true) (mAndV (mFz (mCall (lent []) 3 m_is_allowed (oCons (mFr (mVar 0)) (oCons (mFr (mVar 3)) (oCons (mFr (mVar 6)) oNil))))) (mFz (mCall (lent []) 3 m_is_allowed (oCons (mFr (mVar 0)) (oCons (mFr (mVar 5)) (oCons (mFr (mVar 4)) oNil)))))) [5, 6]) aNil))))
noncomputable def m__law_bare_rings : M Fl :=
  (sSeq (sPar [1, 2] (tCn (mV (mFz (mCall (lent []) 1 m__law_steps (oCons (mFr (mVar 0)) oNil)))) (tCn (mLstO tNl) tNl)))
    (sSeq (sSet 3 (mLc (mI seqOf (mVar 1)) (gTp 2 (gCo (gNm 9) (gCo (gNm 8) gNo))) (pure true) (mArgs tupF (aCons (mArgs lstF (aCons (mVar 9) aNil)) (aCons (mArgs lstF (aCons (mVar 8) aNil)) aNil))) [9, 8]))
    (sSeq (sWhile (mCmp neD (mFr (mVar 3)) (mFr (mArgs lstF aNil)))
    (sSeq (sSetO 4 (mLstO tNl))
    (sSeq (sFor (mI seqOf (mVar 3)) (gTp 2 (gCo (gNm 5) (gCo (gNm 6) gNo)))
    (sSeq (sSet 7 (mLc (mIA rng1 (aCons (mBin ixD (mVar 0) (mC (.int 0))) aNil)) (gNm 8) (mAnd (mCmp inL (mFr (mArgs tupF (aCons (mBin ixD (mVar 5) (mUn negI (mC (.int 1)))) (aCons (mVar 8) aNil)))) (mFr (mVar 1))) (mCmp ninL (mFr (mVar 8)) (mFr (mVar 6)))) (mVar 8) [8]))
    (sFor (mI seqOf (mLc (mI seqOf (mVar 7)) (gNm 8) (mCmp eqD (mFr (mLc (mI seqOf (mSl (mVar 5) mNo (mPart (mUn negI (mC (.int 1)))))) (gNm 9) (mCmp inL (mFr (mArgs tupF (aCons (mVar 9) (aCons (mVar 8) aNil)))) (mFr (mVar 1))) (mVar 9) [9])) (mFr (mArgs lstF aNil))) (mVar 8) [8])) (gNm 8)
    (sFor (mI seqOf (mLc (mIA rng2 (aCons (mBin addD (mBin ixD (mVar 5) (mC (.int 0))) (mC (.int 1))) (aCons (mBin ixD (mVar 0) (mC (.int 0))) aNil))) (gNm 9) (mAnd (mCmp inL (mFr (mArgs tupF (aCons (mVar 9) (aCons (mVar 8) aNil)))) (mFr (mVar 1))) (mCmp ninL (mFr (mVar 9)) (mFr (mVar 5)))) (mVar 9) [9])) (gNm 9)
    (sSeq (sSet 10 (mLc (mI seqOf (mVar 6)) (gNm 11) (mCmp inL (mFr (mArgs tupF (aCons (mVar 9) (aCons (mVar 11) aNil)))) (mFr (mVar 1))) (mVar 11) [11]))
    (sIf (mCmp eqD (mFr (mVar 10)) (mFr (mArgs lstF aNil)))
    (sExpr (mAppend 4 (mV (mArgs tupF (aCons (mBin addD (mVar 5) (mArgs lstF (aCons (mVar 9) aNil))) (aCons (mBin addD (mVar 6) (mArgs lstF (aCons (mVar 8) aNil))) aNil))))))
    (sIf (mAnd (mCmp eqD (mFr (mVar 10)) (mFr (mSl (mVar 6) mNo (mPart (mC (.int 1)))))) (mCmp gtD (mFr (mLen (mFr (mVar 5)))) (mFr (mC (.int 1)))))
    (sExpr (mAppend 2 (mV (mArgs tupleF (aCons (mLc (mIA zip2F (aCons (mBin addD (mVar 5) (mArgs lstF (aCons (mVar 9) aNil))) (aCons (mBin addD (mVar 6) (mArgs lstF (aCons (mVar 8) aNil))) aNil))) (gNm 12) (pure true) (mVar 12) [12]) aNil)))))
    sNil)))))))
    (sSet 3 (mVar 4)))))
    (sRet (mArgs sortedF (aCons (mVar 2) aNil))))))
noncomputable def m__law_is_spare : M Fl :=
  (sSeq (sSet 3 (mFz (mCall (lent []) 1 m__law_steps (oCons (mFr (mVar 0)) oNil))))
    (sRet (mB (mCmp eqD (mFr (mLc (mI seqOf (mVar 1)) (gTp 2 (gCo (gNm 4) (gCo (gNm 5) gNo))) (mOr (mCmp ninL (mFr (mArgs tupF (aCons (mBin ixD (mVar 2) (mC (.int 0))) (aCons (mVar 5) aNil)))) (mFr (mVar 3))) (mCmp ninL (mFr (mArgs tupF (aCons (mVar 4) (aCons (mBin ixD (mVar 2) (mC (.int 1))) aNil)))) (mFr (mVar 3)))) (mC (.int 1)) [4, 5])) (mFr (mArgs lstF aNil))))))
def liD (L : List Int) : PyData := .list (L.map .int)
def lineD (L : Lin) : PyData := .tuple [liD (fsL L), liD (snL L)]
theorem lay_lines : ∀ S : List Lin, PyData.canLayAll0 (S.map lineD) = true
  | [] => rfl
  | L :: S => by
    rw [List.map_cons, PyData.canLayAll0, lay_lines S]
    simp [lineD, liD, PyData.canLay0, PyData.canLayAll0, lay_ints]
theorem depth_lines : ∀ S : List Lin, PyData.depthAll (S.map lineD) ≤ 5
  | [] => by simp [PyData.depthAll]
  | L :: S => by
    have := depth_lines S
    have h1 := depth_ints (fsL L)
    have h2 := depth_ints (snL L)
    simp only [List.map_cons, PyData.depthAll, PyData.depth, lineD, liD]
    omega
theorem neD_lines (S : List Lin) : neD (.list (S.map lineD)) (.list []) = some (!S.isEmpty) := by
  unfold neD eqD
  have : eqSh (.list (S.map lineD)) (.list []) = some S.isEmpty := by
    unfold eqSh
    have h1 : SeqAt.shaped (.list (S.map lineD)) = true := by
      unfold SeqAt.shaped
      have := depth_lines S
      rw [PyData.canLay0, lay_lines, PyData.depth]
      simp
      omega
    rw [h1]
    cases S with
    | nil => rfl
    | cons x S => simp [PyData.eqv, PyData.eqvAll, SeqAt.shaped, PyData.canLay0, PyData.canLayAll0, PyData.depth, PyData.depthAll]
  rw [this]
  rfl
theorem eqD_liNil (A : List Int) : eqD (liD A) (.list []) = some A.isEmpty := by
  have := eqD_intsL A []
  unfold liD
  rw [List.map_nil] at this
  rw [this]
  cases A <;> simp
theorem inK (m : Cl) (q : Int × Int) : inL (pairD q) (.list ((keysC m).map pairD)) = some (hasK m q) := by
  rw [in_prsL]
  congr 1
  rw [Bool.eq_iff_iff, decide_eq_true_eq, hasK_iff]
  rfl
theorem ninK (m : Cl) (q : Int × Int) : ninL (pairD q) (.list ((keysC m).map pairD)) = some (!hasK m q) := by
  show (inL (pairD q) (.list ((keysC m).map pairD))).map not = _
  rw [inK]
  rfl
theorem ninL_li (i : Int) (L : List Int) : ninL (.int i) (liD L) = some (!decide (i ∈ L)) := by
  show (inL (.int i) (.list (L.map .int))).map not = _
  rw [in_intsL]
  rfl
theorem ix_lastLi {L : List Int} (h : L ≠ []) : ixD (liD L) (.int (-1)) = some (.int (L.getLastD 0)) := by
  have := atI_lastG (f := PyData.int) h
  show L2.atI (L.map PyData.int) (-1) = _
  rw [this, List.getLastD_eq_getLast?, List.getLast?_eq_some_getLast h]
  rfl
theorem ix_headLi {L : List Int} (h : L ≠ []) : ixD (liD L) (.int 0) = some (.int (L.headD 0)) := by
  cases L with
  | nil => exact absurd rfl h
  | cons a t => exact L2.atI_nat (j := 0) rfl
section
variable {e : Env} {Ψ : Exn → Env → Prop}
theorem g_slL {ma : M PyData} {ml mh : M (Option Int)} {xs : List PyData} {l h : Option Int} (ha : Gives ma e (.list xs) Ψ) (hl : GivesP ml e l Ψ) (hh : GivesP mh e h Ψ) : Gives (mSl ma ml mh) e (.list (cutD xs l h)) Ψ := by
  unfold Gives
  rw [wp_mSl]
  refine ha.wp (wp_mono hl ?_)
  rintro _ _ ⟨rfl, rfl⟩
  refine wp_mono hh ?_
  rintro _ _ ⟨rfl, rfl⟩
  exact ⟨_, rfl, rfl, rfl⟩
theorem g_dlastL {ma : M PyData} {L : List Int} (h : Gives ma e (liD L) Ψ) : Gives (mSl ma mNo (mPart (mUn negI (mC (.int 1))))) e (liD L.dropLast) Ψ := by
  have := g_slL h gp_no (gp_part g_neg1)
  rw [cut_dl] at this
  have e2 : (L.map PyData.int).dropLast = L.dropLast.map .int := by rw [List.map_dropLast]
  rw [e2] at this
  exact this
theorem g_take1L {ma : M PyData} {L : List Int} (h : Gives ma e (liD L) Ψ) : Gives (mSl ma mNo (mPart (mC (.int 1)))) e (liD (L.take 1)) Ψ := by
  have := g_slL h gp_no (gp_part (g_int (i := ((1 : Nat) : Int))))
  rw [cut_hi] at this
  have e2 : (L.map PyData.int).take 1 = (L.take 1).map .int := by rw [List.map_take]
  rw [e2] at this
  exact this
theorem g_rgL {n : Nat} {L : List Int} {mr ms : M PyData} (hne : L ≠ []) (h0 : 0 ≤ L.headD 0) (h1 : L.headD 0 < (n : Nat)) (n6 : n ≤ 6) (g2 : Gives mr e (liD L) Ψ) (gs : Gives ms e (.int (n : Nat)) Ψ) :
    Gives (mIA rng2 (aCons (mBin addD (mBin ixD mr (mC (.int 0))) (mC (.int 1))) (aCons ms aNil))) e ((rgF (L.headD 0) n).map .int) Ψ := by
  unfold Gives
  rw [wp_mIA, wp_aCons, wp_mBin]
  refine (g_ix g2 (ix_headLi hne)).wp ?_
  rw [wp_mC]
  refine ⟨.int (L.headD 0 + 1), rfl, ?_⟩
  rw [wp_aCons]
  refine gs.wp ?_
  rw [wp_aNil]
  refine ⟨(rgF (L.headD 0) n).map .int, ?_, rfl, rfl⟩
  rw [← range_from (L.headD 0) h0 h1]
  show (if _ then _ else _) = _
  rw [if_pos (by omega)]
theorem g_snocL {ma mb : M PyData} {A : List Int} {i : Int} (ha : Gives ma e (liD A) fun _ _ => False) (hb : Gives mb e (.int i) fun _ _ => False) (hl : A.length ≤ 900) : Gives (mBin addD ma (mArgs lstF (aCons mb aNil))) e (liD (A ++ [i])) fun _ _ => False := by
  have := g_addL ha (g_lstA (.cons hb .nil) (by simp)) (by rw [List.length_map]; simp only [List.length_cons, List.length_nil]; omega)
  unfold liD
  rw [List.map_append]
  exact this
end
theorem wp_appB {β : Type} {i : Nat} {e : Env} {f : β → PyData} {L : List β} {mt : M T} {x : β} {Φ : PyData → Env → Prop} (h : e i = some (ownF f L)) (hl : L.length ≤ 10000000)
    (ht : Gives mt e (.v (f x)) fun _ _ => False) (q : Φ .none (setE e i (some (ownF f (L ++ [x]))))) : wp (mAppend i mt) e Φ fun _ _ => False := by
  rw [wp_mAppend]
  refine ⟨⟨_, h⟩, ht.wp ⟨_, h, by rw [List.length_map]; exact Nat.lt_of_le_of_lt hl (by decide), ?_⟩⟩
  unfold ownF at q
  rw [List.map_append] at q
  exact q
theorem zip_line : ∀ (L : Lin), zip2D ((fsL L).map .int) ((snL L).map .int) = L.map pairD
  | [] => rfl
  | p :: L => by
    have := zip_line L
    unfold zip2D fsL snL at this ⊢
    rw [List.map_cons, List.map_cons, List.map_cons, List.map_cons, List.zipWith_cons_cons, this, List.map_cons]
    rfl
section
variable {n : Nat} {m : Cl}
theorem near_spec {e : Env} {L : Lin} {i : Int} (l5 : L.length ≤ 100) (h1 : e 1 = some (.v (.list ((keysC m).map pairD)))) (h6 : e 6 = some (.v (liD (snL L)))) (h9 : e 9 = some (.v (.int i))) :
    Gives (mLc (mI seqOf (mVar 6)) (gNm 11) (mCmp inL (mFr (mArgs tupF (aCons (mVar 9) (aCons (mVar 11) aNil)))) (mFr (mVar 1))) (mVar 11) [11]) e (liD (neL m L i)) fun _ _ => False := by
  have sl : (snL L).length ≤ 1000 := by unfold snL; rw [List.length_map]; omega
  exact g_it1t (Ψ := fun _ _ => False) (e := e) (a := 11) (f := PyData.int) (S := snL L) (tt := mCmp inL (mFr (mArgs tupF (aCons (mVar 9) (aCons (mVar 11) aNil)))) (mFr (mVar 1))) (me := mVar 11) (fun c => hasK m (i, c)) PyData.int (g_mI (g_var h6) rfl) sl fun q e' hq h2 ho =>
    ⟨g_cmpI (g_tupF2 (g_var ((ho 9 (by decide)).trans h9)) (g_var h2)) (g_var ((ho 1 (by decide)).trans h1)) (inK m (i, q)), fun _ => g_var h2⟩
theorem later_spec {e : Env} {L : Lin} (hne : L ≠ []) (n5 : n ≤ 5) (h0 : e 0 = some (.v (ruleD n m))) (h1 : e 1 = some (.v (.list ((keysC m).map pairD)))) (h5 : e 5 = some (.v (liD (fsL L)))) (h6 : e 6 = some (.v (liD (snL L)))) :
    Gives (mLc (mIA rng1 (aCons (mBin ixD (mVar 0) (mC (.int 0))) aNil)) (gNm 8) (mAnd (mCmp inL (mFr (mArgs tupF (aCons (mBin ixD (mVar 5) (mUn negI (mC (.int 1)))) (aCons (mVar 8) aNil)))) (mFr (mVar 1))) (mCmp ninL (mFr (mVar 8)) (mFr (mVar 6)))) (mVar 8) [8]) e (liD (jL1 n m L)) fun _ _ => False := by
  have fne : fsL L ≠ [] := fun z => hne (List.map_eq_nil_iff.mp z)
  exact g_it1t (Ψ := fun _ _ => False) (e := e) (a := 8) (f := PyData.int) (S := rgI n) (tt := mAnd (mCmp inL (mFr (mArgs tupF (aCons (mBin ixD (mVar 5) (mUn negI (mC (.int 1)))) (aCons (mVar 8) aNil)))) (mFr (mVar 1))) (mCmp ninL (mFr (mVar 8)) (mFr (mVar 6)))) (me := mVar 8) (fun j => hasK m (lstR L, j) && !decide (j ∈ snL L)) PyData.int
    (g_rng (g_ix (g_var h0) ix0) (by omega)) (by rw [rgI_len]; omega) fun q e' hq h2 ho => by
      have d5 : e' 5 = some (.v (liD (fsL L))) := (ho 5 (by decide)).trans h5
      have gl : Gives (mBin ixD (mVar 5) (mUn negI (mC (.int 1)))) e' (.int (lstR L)) fun _ _ => False := by
        unfold Gives
        rw [wp_mBin]
        exact (g_var d5).wp (g_neg1.wp ⟨_, ix_lastLi fne, rfl, rfl⟩)
      exact ⟨g_both (g_cmpI (g_tupF2 gl (g_var h2)) (g_var ((ho 1 (by decide)).trans h1)) (inK m (lstR L, q))) fun _ => g_cmpI (g_var h2) (g_var ((ho 6 (by decide)).trans h6)) (ninL_li _ _), fun _ => g_var h2⟩
theorem then_spec {e : Env} {L : Lin} (l5 : L.length ≤ 100) (n5 : n ≤ 5) (h1 : e 1 = some (.v (.list ((keysC m).map pairD)))) (h5 : e 5 = some (.v (liD (fsL L)))) (h7 : e 7 = some (.v (liD (jL1 n m L)))) :
    Gives (mLc (mI seqOf (mVar 7)) (gNm 8) (mCmp eqD (mFr (mLc (mI seqOf (mSl (mVar 5) mNo (mPart (mUn negI (mC (.int 1)))))) (gNm 9) (mCmp inL (mFr (mArgs tupF (aCons (mVar 9) (aCons (mVar 8) aNil)))) (mFr (mVar 1))) (mVar 9) [9])) (mFr (mArgs lstF aNil))) (mVar 8) [8]) e (liD (jL n m L)) fun _ _ => False := by
  have fl : (fsL L).length ≤ 100 := by unfold fsL; rw [List.length_map]; omega
  have jl : (jL1 n m L).length ≤ 1000 := by
    have h : (jL1 n m L).length ≤ (rgI n).length := by unfold jL1; exact (List.filter_sublist (l := rgI n)).length_le
    rw [rgI_len] at h
    omega
  exact g_it1t (Ψ := fun _ _ => False) (e := e) (a := 8) (f := PyData.int) (S := jL1 n m L) (tt := mCmp eqD (mFr (mLc (mI seqOf (mSl (mVar 5) mNo (mPart (mUn negI (mC (.int 1)))))) (gNm 9) (mCmp inL (mFr (mArgs tupF (aCons (mVar 9) (aCons (mVar 8) aNil)))) (mFr (mVar 1))) (mVar 9) [9])) (mFr (mArgs lstF aNil))) (me := mVar 8) (fun j => ((fsL L).dropLast.filter fun i => hasK m (i, j)).isEmpty) PyData.int (g_mI (g_var h7) rfl) jl fun j e' hj h2 ho => by
      have d5 : e' 5 = some (.v (liD (fsL L))) := (ho 5 (by decide)).trans h5
      have d1 : e' 1 = some (.v (.list ((keysC m).map pairD))) := (ho 1 (by decide)).trans h1
      have gx := g_it1t (Ψ := fun _ _ => False) (e := e') (a := 9) (f := PyData.int) (S := (fsL L).dropLast) (tt := mCmp inL (mFr (mArgs tupF (aCons (mVar 9) (aCons (mVar 8) aNil)))) (mFr (mVar 1))) (me := mVar 9) (fun i => hasK m (i, j)) PyData.int (g_mI (g_dlastL (g_var d5)) rfl) (by rw [List.length_dropLast]; omega) fun i e2 hi h3 ho2 =>
        ⟨g_cmpI (g_tupF2 (g_var h3) (g_var ((ho2 8 (by decide)).trans h2))) (g_var ((ho2 1 (by decide)).trans d1)) (inK m (i, j)), fun _ => g_var h3⟩
      exact ⟨g_cmpI gx (g_lstA .nil (by simp)) (eqD_liNil _), fun _ => g_var h2⟩
theorem those_spec {e : Env} {L : Lin} {j : Int} (hL : IsLn n m L) (n5 : n ≤ 5) (h0 : e 0 = some (.v (ruleD n m))) (h1 : e 1 = some (.v (.list ((keysC m).map pairD)))) (h5 : e 5 = some (.v (liD (fsL L)))) (h8 : e 8 = some (.v (.int j))) :
    Gives (mLc (mIA rng2 (aCons (mBin addD (mBin ixD (mVar 5) (mC (.int 0))) (mC (.int 1))) (aCons (mBin ixD (mVar 0) (mC (.int 0))) aNil))) (gNm 9) (mAnd (mCmp inL (mFr (mArgs tupF (aCons (mVar 9) (aCons (mVar 8) aNil)))) (mFr (mVar 1))) (mCmp ninL (mFr (mVar 9)) (mFr (mVar 5)))) (mVar 9) [9]) e (liD (iL n m L j)) fun _ _ => False := by
  have fne : fsL L ≠ [] := fun z => hL.ne (List.map_eq_nil_iff.mp z)
  obtain ⟨z, hz, ez⟩ := hd_at hL.ne
  have zr := mem_rgI2.mp (hL.rng z (List.mem_of_getElem? hz)).1
  have hr0 : 0 ≤ (fsL L).headD 0 := by show 0 ≤ hdR L; rw [ez]; exact zr.1
  have hr1 : (fsL L).headD 0 < (n : Nat) := by show hdR L < _; rw [ez]; exact zr.2
  have rl : (rgF (hdR L) n).length ≤ 1000 := by
    have h : (rgF (hdR L) n).length ≤ (rgI n).length := by unfold rgF; exact (List.filter_sublist (l := rgI n)).length_le
    rw [rgI_len] at h
    omega
  exact g_it1t (Ψ := fun _ _ => False) (e := e) (a := 9) (f := PyData.int) (S := rgF (hdR L) n) (tt := mAnd (mCmp inL (mFr (mArgs tupF (aCons (mVar 9) (aCons (mVar 8) aNil)))) (mFr (mVar 1))) (mCmp ninL (mFr (mVar 9)) (mFr (mVar 5)))) (me := mVar 9) (fun i => hasK m (i, j) && !decide (i ∈ fsL L)) PyData.int
    (g_rgL fne hr0 hr1 (by omega) (g_var h5) (g_ix (g_var h0) ix0)) rl fun q e' hq h2 ho =>
      ⟨g_both (g_cmpI (g_tupF2 (g_var h2) (g_var ((ho 8 (by decide)).trans h8))) (g_var ((ho 1 (by decide)).trans h1)) (inK m (q, j))) fun _ => g_cmpI (g_var h2) (g_var ((ho 5 (by decide)).trans h5)) (ninL_li _ _), fun _ => g_var h2⟩
structure StL (n : Nat) (m : Cl) (e : Env) : Prop where
  h0 : e 0 = some (.v (ruleD n m))
  h1 : e 1 = some (.v (.list ((keysC m).map pairD)))
theorem StL.set {e : Env} {i : Nat} {t : Option T} (h : StL n m e) (hi : 2 ≤ i) : StL n m (setE e i t) := ⟨by rw [setE_at, if_neg (by omega)]; exact h.h0, by rw [setE_at, if_neg (by omega)]; exact h.h1⟩
theorem part_len {α β : Type} {S S1 S2 : List α} {q : α} {f : α → List β} (h : S = S1 ++ q :: S2) : (S1.flatMap f).length + (f q).length ≤ (S.flatMap f).length := by
  rw [h, List.flatMap_append, List.flatMap_cons, List.length_append, List.length_append]
  omega
theorem lbares_spec (hm : RowOk n 100 200 m) (n5 : n ≤ 5) (e : Env) (h : e 0 = some (.v (ruleD n m))) : wp m__law_bare_rings e (fun x _ => x = .rt (.v (.list ((sortR (bareL n m)).map rgD)))) fun _ _ => False := by
  have rin := row_in hm
  have ml := hm.len
  have nd : (m.map (·.1)).Nodup := hm.nd
  unfold m__law_bare_rings
  refine wp_seqK (fun e' => StL n m e' ∧ e' 2 = some (ownF rgD [])) ?_ fun e1 ⟨a0, a2⟩ => ?_
  · rw [wp_sPar, wp_tCn, wp_mV]
    refine (g_c1 (Ψ := fun _ _ => False) (f := m__law_steps) (g_var h) fun e h => steps_list (by omega) e h).wp ?_
    rw [wp_tCn, wp_mLstO, wp_tNl]
    refine ⟨by show 0 ≤ sizeLine; decide, ?_⟩
    rw [wp_tNl]
    exact ⟨_, rfl, ⟨by simp [h], by simp [keysC]⟩, by simp [ownF]⟩
  refine wp_seqK (fun e' => StL n m e' ∧ e' 2 = some (ownF rgD []) ∧ e' 3 = some (.v (.list ((lev n m 0).map lineD)))) ?_ fun e2 ⟨b0, b2, b3⟩ => ?_
  · rw [wp_sSet]
    have gx := g_prs (a := 9) (b := 8) (e := e1) (Ψ := fun _ _ => False) (mi := mVar 1) (tt := pure true) (me := mArgs tupF (aCons (mArgs lstF (aCons (mVar 9) aNil)) (aCons (mArgs lstF (aCons (mVar 8) aNil)) aNil))) (fun _ => true) (fun q => lineD [q]) (g_var a0.h1) rfl (by unfold keysC; rw [List.length_map]; omega) (by decide) fun q e' hq hr =>
      ⟨⟨rfl, rfl⟩, fun _ => g_tupF2 (g_lstA (ds := [.int q.1]) (.cons (g_var hr.fa) .nil) (by simp)) (g_lstA (ds := [.int q.2]) (.cons (g_var hr.fb) .nil) (by simp))⟩
    rw [List.filter_eq_self.mpr (fun _ _ => rfl)] at gx
    refine gx.wp ⟨a0.set (by omega), by simpa using a2, ?_⟩
    rw [setE_same]
    show some (T.v (.list ((keysC m).map fun q => lineD [q]))) = some (.v (.list ((m.map fun p => [p.1]).map lineD)))
    unfold keysC
    rw [List.map_map, List.map_map]
    rfl
  refine wp_seqK (fun e' => ∃ K, lev n m K = [] ∧ e' 2 = some (ownF rgD (fndK n m K))) ?_ fun e3 ⟨K, hK, c2⟩ => ?_
  · refine wp_sWhile (fun M e' => ∃ K, M = n + 1 - K ∧ StL n m e' ∧ e' 2 = some (ownF rgD (fndK n m K)) ∧ e' 3 = some (.v (.list ((lev n m K).map lineD)))) ?_ ⟨0, rfl, b0, b2, b3⟩
    rintro M e' ⟨K, rfl, d0, d2, d3⟩
    refine (g_cmpI (g_var d3) (g_lstA .nil (by simp)) (neD_lines _)).wp ?_
    by_cases em : lev n m K = []
    · rw [if_neg (by rw [em]; simp)]
      exact ⟨K, em, d2⟩
    have kn := lev_end rin em
    rw [if_pos (by rw [Bool.not_eq_true', List.isEmpty_eq_false_iff]; exact em)]
    have lb := lev_big rin ml n5 (K + 1)
    have fb := fndK_len rin nd n5 (K + 1)
    have fe : fndK n m (K + 1) = fndK n m K ++ (lev n m K).flatMap (riX n m) := by
      unfold fndK
      rw [List.range_succ, List.flatMap_append]
      simp
    rw [wp_sSeq, wp_sSetO, wp_mLstO, wp_tNl]
    refine ⟨by show 0 ≤ sizeLine; decide, ?_⟩
    have q0 : StL n m (setE e' 4 (some (T.lst []))) := d0.set (by omega)
    have q2 : setE e' 4 (some (T.lst [])) 2 = some (ownF rgD (fndK n m K)) := by simpa using d2
    have q3 : setE e' 4 (some (T.lst [])) 3 = some (.v (.list ((lev n m K).map lineD))) := by simpa using d3
    have q4 : setE e' 4 (some (T.lst [])) 4 = some (ownF lineD []) := setE_same
    generalize setE e' 4 (some (T.lst [])) = e5 at q0 q2 q3 q4
    refine wp_seqK (fun e => StL n m e ∧ e 2 = some (ownF rgD (fndK n m (K + 1))) ∧ e 4 = some (ownF lineD (lev n m (K + 1)))) ?_ fun e6 ⟨r0, r2, r4⟩ => ?_
    · rw [wp_sFor]
      refine (g_mI (g_var q3) rfl).wp ?_
      refine wp_forS (S := lev n m K) (g := lineD) (fun S1 e => StL n m e ∧ e 4 = some (ownF lineD (S1.flatMap (loX n m))) ∧ e 2 = some (ownF rgD (fndK n m K ++ S1.flatMap (riX n m)))) ⟨q0, q4, by simpa using q2⟩ ?_ fun e h => ⟨h.1, by rw [fe]; exact h.2.2, h.2.1⟩
      rintro S1 L S2 e7 hS ⟨s0, s4, s2⟩
      obtain ⟨hL, ll⟩ := (mem_lev rin).mp (show L ∈ lev n m K by rw [hS]; simp)
      have l5 := ln_len hL
      have fl : (fsL L).length ≤ 900 := by unfold fsL; rw [List.length_map]; omega
      have sl : (snL L).length ≤ 900 := by unfold snL; rw [List.length_map]; omega
      have bl4 : (S1.flatMap (loX n m)).length + (loX n m L).length ≤ 1000000 := Nat.le_trans (part_len hS) lb
      have bl2 : (fndK n m K).length + ((S1.flatMap (riX n m)).length + (riX n m L).length) ≤ 600 := by
        have h1 := part_len (f := riX n m) hS
        rw [fe, List.length_append] at fb
        omega
      refine ⟨setE (setE e7 5 (some (.v (liD (fsL L))))) 6 (some (.v (liD (snL L)))), rfl, ?_⟩
      have u0 : StL n m (setE (setE e7 5 (some (T.v (liD (fsL L))))) 6 (some (T.v (liD (snL L))))) := (s0.set (by omega)).set (by omega)
      have u2 : setE (setE e7 5 (some (T.v (liD (fsL L))))) 6 (some (T.v (liD (snL L)))) 2 = some (ownF rgD (fndK n m K ++ S1.flatMap (riX n m))) := by simpa using s2
      have u4 : setE (setE e7 5 (some (T.v (liD (fsL L))))) 6 (some (T.v (liD (snL L)))) 4 = some (ownF lineD (S1.flatMap (loX n m))) := by simpa using s4
      have u5 : setE (setE e7 5 (some (T.v (liD (fsL L))))) 6 (some (T.v (liD (snL L)))) 5 = some (.v (liD (fsL L))) := by simp
      have u6 : setE (setE e7 5 (some (T.v (liD (fsL L))))) 6 (some (T.v (liD (snL L)))) 6 = some (.v (liD (snL L))) := by simp
      generalize setE (setE e7 5 (some (T.v (liD (fsL L))))) 6 (some (T.v (liD (snL L)))) = e8 at u0 u2 u4 u5 u6
      rw [wp_sSeq, wp_sSet]
      refine (later_spec hL.ne n5 u0.h0 u0.h1 u5 u6).wp ?_
      have v0 : StL n m (setE e8 7 (some (T.v (liD (jL1 n m L))))) := u0.set (by omega)
      have v2 : setE e8 7 (some (T.v (liD (jL1 n m L)))) 2 = some (ownF rgD (fndK n m K ++ S1.flatMap (riX n m))) := by simpa using u2
      have v4 : setE e8 7 (some (T.v (liD (jL1 n m L)))) 4 = some (ownF lineD (S1.flatMap (loX n m))) := by simpa using u4
      have v5 : setE e8 7 (some (T.v (liD (jL1 n m L)))) 5 = some (.v (liD (fsL L))) := by simpa using u5
      have v6 : setE e8 7 (some (T.v (liD (jL1 n m L)))) 6 = some (.v (liD (snL L))) := by simpa using u6
      have v7 : setE e8 7 (some (T.v (liD (jL1 n m L)))) 7 = some (.v (liD (jL1 n m L))) := setE_same
      simp only []
      generalize setE e8 7 (some (T.v (liD (jL1 n m L)))) = e9 at v0 v2 v4 v5 v6 v7
      let lo : Lin → List Lin := fun P => (P.filter (isLo m L)).map fun p => L ++ [p]
      let ri : Lin → List Lin := fun P => (P.filter (isR2 m L)).map fun p => L ++ [p]
      have loA : ∀ P p, lo (P ++ [p]) = lo P ++ (if isLo m L p = true then [L ++ [p]] else []) := fun P p => by
        show ((P ++ [p]).filter _).map _ = _
        rw [List.filter_append, List.map_append, List.filter_cons, List.filter_nil]
        split <;> simp [lo]
      have riA : ∀ P p, ri (P ++ [p]) = ri P ++ (if isR2 m L p = true then [L ++ [p]] else []) := fun P p => by
        show ((P ++ [p]).filter _).map _ = _
        rw [List.filter_append, List.map_append, List.filter_cons, List.filter_nil]
        split <;> simp [ri]
      let J : Lin → Env → Prop := fun P e => StL n m e ∧ e 5 = some (.v (liD (fsL L))) ∧ e 6 = some (.v (liD (snL L))) ∧ e 4 = some (ownF lineD (S1.flatMap (loX n m) ++ lo P)) ∧ e 2 = some (ownF rgD (fndK n m K ++ S1.flatMap (riX n m) ++ ri P))
      have fin : ∀ e, J (goX n m L) e → StL n m e ∧ e 4 = some (ownF lineD ((S1 ++ [L]).flatMap (loX n m))) ∧ e 2 = some (ownF rgD (fndK n m K ++ (S1 ++ [L]).flatMap (riX n m))) := fun e ⟨w0, _, _, w4, w2⟩ => by
        refine ⟨w0, ?_, ?_⟩
        · rw [w4, List.flatMap_append]
          simp [lo, loX]
        · rw [w2, List.flatMap_append]
          simp [ri, riX]
      have sub : ∀ P Q : Lin, goX n m L = P ++ Q → (lo P).length ≤ (loX n m L).length ∧ (ri P).length ≤ (riX n m L).length := fun P Q hg => by
        show ((P.filter _).map _).length ≤ (((goX n m L).filter _).map _).length ∧ ((P.filter _).map _).length ≤ (((goX n m L).filter _).map _).length
        rw [hg, List.filter_append, List.filter_append, List.map_append, List.map_append, List.length_append, List.length_append]
        omega
      rw [wp_sFor]
      refine (g_mI (then_spec (by omega) n5 v0.h1 v5 v7) rfl).wp ?_
      refine wp_forS (S := jL n m L) (g := PyData.int) (fun T1 e => J (T1.flatMap fun j => (iL n m L j).map fun i => (i, j)) e) ⟨v0, v5, v6, by simpa [lo] using v4, by simpa [ri] using v2⟩ ?_ fun e h => ⟨rfl, fin e h⟩
      rintro T1 j T2 e10 hT ⟨w0, w5, w6, w4, w2⟩
      refine ⟨setE e10 8 (some (.v (.int j))), rfl, ?_⟩
      have x0 : StL n m (setE e10 8 (some (T.v (.int j)))) := w0.set (by omega)
      have x2 : setE e10 8 (some (T.v (.int j))) 2 = e10 2 := by simp
      have x4 : setE e10 8 (some (T.v (.int j))) 4 = e10 4 := by simp
      have x5 : setE e10 8 (some (T.v (.int j))) 5 = some (.v (liD (fsL L))) := by simpa using w5
      have x6 : setE e10 8 (some (T.v (.int j))) 6 = some (.v (liD (snL L))) := by simpa using w6
      have x8 : setE e10 8 (some (T.v (.int j))) 8 = some (.v (.int j)) := setE_same
      rw [w2] at x2
      rw [w4] at x4
      generalize setE e10 8 (some (T.v (.int j))) = e11 at x0 x2 x4 x5 x6 x8
      rw [wp_sFor]
      refine (g_mI (those_spec hL n5 x0.h0 x0.h1 x5 x8) rfl).wp ?_
      refine wp_forS (S := iL n m L j) (g := PyData.int) (fun U1 e => J ((T1.flatMap fun j => (iL n m L j).map fun i => (i, j)) ++ U1.map fun i => (i, j)) e ∧ e 8 = some (.v (.int j))) ⟨⟨x0, x5, x6, by simpa using x4, by simpa using x2⟩, x8⟩ ?_ fun e h => ⟨rfl, by rw [List.flatMap_append]; simpa using h.1⟩
      rintro U1 i U2 e12 hU ⟨⟨y0, y5, y6, y4, y2⟩, y8⟩
      obtain ⟨P, hP⟩ : ∃ P, (T1.flatMap fun j => (iL n m L j).map fun i => (i, j)) ++ U1.map (fun i => (i, j)) = P := ⟨_, rfl⟩
      have hPi : ((T1.flatMap fun j => (iL n m L j).map fun i => (i, j)) ++ (U1 ++ [i]).map fun i => (i, j)) = P ++ [(i, j)] := by rw [← hP]; simp
      obtain ⟨b1, b2⟩ := sub (P ++ [(i, j)]) (U2.map (fun i => (i, j)) ++ T2.flatMap fun j => (iL n m L j).map fun i => (i, j)) (by
        unfold goX
        rw [hT, List.flatMap_append, List.flatMap_cons, hU, ← hPi]
        simp)
      rw [hP] at y4 y2
      rw [hPi]
      have lA := loA P (i, j)
      have rA := riA P (i, j)
      rw [lA, List.length_append] at b1
      rw [rA, List.length_append] at b2
      refine ⟨setE e12 9 (some (.v (.int i))), rfl, ?_⟩
      have z0 : StL n m (setE e12 9 (some (T.v (.int i)))) := y0.set (by omega)
      have z2 : setE e12 9 (some (T.v (.int i))) 2 = e12 2 := by simp
      have z4 : setE e12 9 (some (T.v (.int i))) 4 = e12 4 := by simp
      have z5 : setE e12 9 (some (T.v (.int i))) 5 = some (.v (liD (fsL L))) := by simpa using y5
      have z6 : setE e12 9 (some (T.v (.int i))) 6 = some (.v (liD (snL L))) := by simpa using y6
      have z8 : setE e12 9 (some (T.v (.int i))) 8 = some (.v (.int j)) := by simpa using y8
      have z9 : setE e12 9 (some (T.v (.int i))) 9 = some (.v (.int i)) := setE_same
      rw [y2] at z2
      rw [y4] at z4
      generalize setE e12 9 (some (T.v (.int i))) = e13 at z0 z2 z4 z5 z6 z8 z9
      rw [wp_sSeq, wp_sSet]
      refine (near_spec (by omega) z0.h1 z6 z9).wp ?_
      have k0 : StL n m (setE e13 10 (some (T.v (liD (neL m L i))))) := z0.set (by omega)
      have k2 : setE e13 10 (some (T.v (liD (neL m L i)))) 2 = e13 2 := by simp
      have k4 : setE e13 10 (some (T.v (liD (neL m L i)))) 4 = e13 4 := by simp
      have k5 : setE e13 10 (some (T.v (liD (neL m L i)))) 5 = some (.v (liD (fsL L))) := by simpa using z5
      have k6 : setE e13 10 (some (T.v (liD (neL m L i)))) 6 = some (.v (liD (snL L))) := by simpa using z6
      have k8 : setE e13 10 (some (T.v (liD (neL m L i)))) 8 = some (.v (.int j)) := by simpa using z8
      have k9 : setE e13 10 (some (T.v (liD (neL m L i)))) 9 = some (.v (.int i)) := by simpa using z9
      have k10 : setE e13 10 (some (T.v (liD (neL m L i)))) 10 = some (.v (liD (neL m L i))) := setE_same
      rw [z2] at k2
      rw [z4] at k4
      simp only []
      generalize setE e13 10 (some (T.v (liD (neL m L i)))) = e14 at k0 k2 k4 k5 k6 k8 k9 k10
      rw [wp_sIf]
      refine (g_cmpI (g_var k10) (g_lstA .nil (by simp)) (eqD_liNil _)).wp ?_
      have gR : Gives (mBin addD (mVar 5) (mArgs lstF (aCons (mVar 9) aNil))) e14 (liD (fsL (L ++ [(i, j)]))) fun _ _ => False := by
        rw [fs_app]
        exact g_snocL (g_var k5) (g_var k9) fl
      have gC : Gives (mBin addD (mVar 6) (mArgs lstF (aCons (mVar 8) aNil))) e14 (liD (snL (L ++ [(i, j)]))) fun _ _ => False := by
        rw [sn_app]
        exact g_snocL (g_var k6) (g_var k8) sl
      have hlo : isLo m L (i, j) = (neL m L i).isEmpty := rfl
      by_cases c1 : (neL m L i).isEmpty = true
      · have n2 : isR2 m L (i, j) = false := by unfold isR2; rw [hlo, c1]; rfl
        rw [if_pos c1, wp_sExpr]
        rw [hlo, if_pos c1] at lA b1
        rw [n2, if_neg (by decide), List.append_nil] at rA
        simp only [List.length_cons, List.length_nil] at b1
        refine wp_appB (f := lineD) (x := L ++ [(i, j)]) k4 (by rw [List.length_append]; omega) ?_ ⟨rfl, ⟨k0.set (by omega), by simpa using k5, by simpa using k6, ?_, ?_⟩, by simpa using k8⟩
        · unfold Gives
          rw [wp_mV]
          exact (g_tupF2 gR gC).wp ⟨rfl, rfl⟩
        · rw [setE_same, lA, List.append_assoc]
        · rw [setE_at, if_neg (by decide), k2, rA]
      · have c1f : (neL m L i).isEmpty = false := by simpa using c1
        rw [if_neg c1, wp_sIf]
        rw [hlo, if_neg c1, List.append_nil] at lA
        have hr : isR2 m L (i, j) = (decide (neL m L i = (snL L).take 1) && decide (((1 : Nat) : Int) < ((fsL L).length : Nat))) := by
          unfold isR2 isRi
          rw [hlo, c1f]
          have : (fsL L).length = L.length := by simp [fsL]
          rw [this]
          by_cases q : 1 < L.length
          · rw [decide_eq_true q, decide_eq_true (by omega : ((1 : Nat) : Int) < (L.length : Nat))]
            rfl
          · rw [decide_eq_false q, decide_eq_false (by omega : ¬ ((1 : Nat) : Int) < (L.length : Nat))]
            rfl
        have cond : Gives (mAnd (mCmp eqD (mFr (mVar 10)) (mFr (mSl (mVar 6) mNo (mPart (mC (.int 1)))))) (mCmp gtD (mFr (mLen (mFr (mVar 5)))) (mFr (mC (.int 1))))) e14 (isR2 m L (i, j)) fun _ _ => False := by
          rw [hr]
          exact g_both (g_cmpI (g_var k10) (g_take1L (g_var k6)) (eqD_intsL _ _)) fun _ => g_cmpI (g_len (n := (fsL L).length) (g_var k5) (by show lenD (.list _) = _; rw [lenD_list, List.length_map])) (g_int (i := ((1 : Nat) : Int))) gtD_int
        refine cond.wp ?_
        by_cases c2 : isR2 m L (i, j) = true
        · rw [if_pos c2, wp_sExpr]
          rw [if_pos c2] at rA b2
          simp only [List.length_cons, List.length_nil] at b2
          have gz : Gives (mIA zip2F (aCons (mBin addD (mVar 5) (mArgs lstF (aCons (mVar 9) aNil))) (aCons (mBin addD (mVar 6) (mArgs lstF (aCons (mVar 8) aNil))) aNil))) e14 ((L ++ [(i, j)]).map pairD) fun _ _ => False := by
            unfold Gives
            rw [wp_mIA, wp_aCons]
            refine gR.wp ?_
            rw [wp_aCons]
            refine gC.wp ?_
            rw [wp_aNil]
            refine ⟨_, ?_, rfl, rfl⟩
            rw [← zip_line]
            rfl
          have gy := g_it1 (Ψ := fun _ _ => False) (e := e14) (a := 12) (f := pairD) (S := L ++ [(i, j)]) (me := mVar 12) pairD gz (by rw [List.length_append]; simp only [List.length_cons, List.length_nil]; omega) fun q e' hq h1 ho => g_var h1
          refine wp_appB (f := rgD) (x := L ++ [(i, j)]) k2 (by rw [List.length_append, List.length_append]; omega) ?_ ⟨rfl, ⟨k0.set (by omega), by simpa using k5, by simpa using k6, ?_, ?_⟩, by simpa using k8⟩
          · unfold Gives
            rw [wp_mV]
            exact (g_tupleF gy).wp ⟨rfl, rfl⟩
          · rw [setE_at, if_neg (by decide), k4, lA]
          · rw [setE_same, rA, List.append_assoc]
        · rw [if_neg c2, wp_sNil]
          rw [if_neg c2, List.append_nil] at rA
          exact ⟨rfl, ⟨k0, k5, k6, by rw [k4, lA], by rw [k2, rA]⟩, k8⟩
    · rw [wp_sSet, wp_mVar, r4]
      show ∃ d, _ ∧ _
      refine ⟨_, fz_own lineD _, n + 1 - (K + 1), by omega, K + 1, rfl, (r0.set (by omega)).set (by omega), by simpa using r2, by simp⟩
  · have pm := fndK_perm rin nd hK
    have hs := sortC_rgs (S := fndK n m K) (by have := fndK_len rin nd n5 K; omega) fun r hr z => by
      have := ((mem_fndK rin).mp hr).1.l3
      rw [z] at this
      simp at this
    rw [wp_sRet, wp_mArgs, wp_aCons, wp_mVar, c2]
    show ∃ d, _ ∧ _
    refine ⟨_, fz_own rgD _, ?_⟩
    rw [wp_aNil]
    refine ⟨.list ((sortR (fndK n m K)).map rgD), ?_, by rw [sortR_perm pm]⟩
    show (if sortC _ = true then _ else _) = _
    rw [if_pos hs, sortL_rgs]
end
end PD

namespace PD
open PySem PySem.Spec PyProof.Rows L2
def spB (m : Cl) (r : List (Int × Int)) (s : Int × Int) : Bool := r.all fun p => hasK m (s.1, p.2) && hasK m (p.1, s.2)
theorem g_either {e : Env} {Ψ : Exn → Env → Prop} {c1 c2 : M Bool} {a b : Bool} (h1 : Gives c1 e a Ψ) (h2 : a = false → Gives c2 e b Ψ) : Gives (mOr c1 c2) e (a || b) Ψ := by
  unfold Gives
  rw [wp_mOr]
  refine h1.wp ?_
  cases a with
  | true => exact ⟨rfl, rfl⟩
  | false => exact h2 rfl
section
variable {n : Nat} {m : Cl}
theorem is_spare_spec {r : List (Int × Int)} {s : Int × Int} (rl : r.length ≤ 1000) (e : Env) (h0 : e 0 = some (.v (ruleD n m))) (h1 : e 1 = some (.v (rgD r))) (h2 : e 2 = some (.v (pairD s))) :
    wp m_is_spare e (fun x _ => x = .rt (.v (.bool (spB m r s)))) fun _ _ => False := by
  unfold m_is_spare
  refine wp_seqK (fun e' => e' 0 = some (.v (ruleD n m)) ∧ e' 1 = some (.v (rgD r)) ∧ e' 3 = some (.v (.int s.1)) ∧ e' 4 = some (.v (.int s.2))) ?_ fun e1 ⟨a0, a1, a3, a4⟩ => ?_
  · rw [wp_sAsg]
    exact (g_var h2).wp ⟨_, rfl, by simpa using h0, by simpa using h1, by simp, by simp⟩
  · rw [wp_sRet]
    have gx := g_prs (a := 5) (b := 6) (e := e1) (Ψ := fun _ _ => False) (mi := mVar 1) (tt := pure true) (me := mAndV (mFz (mCall (lent []) 3 m_is_allowed (oCons (mFr (mVar 0)) (oCons (mFr (mVar 3)) (oCons (mFr (mVar 6)) oNil))))) (mFz (mCall (lent []) 3 m_is_allowed (oCons (mFr (mVar 0)) (oCons (mFr (mVar 5)) (oCons (mFr (mVar 4)) oNil)))))) (fun _ => true) (fun q => PyData.bool (hasK m (s.1, q.2) && hasK m (q.1, s.2))) (g_var (d := rgD r) a1) rfl rl (by decide) fun q e' hq hr => by
      have d0 := (hr.o 0 (by decide) (by decide)).trans a0
      have d3 := (hr.o 3 (by decide) (by decide)).trans a3
      have d4 := (hr.o 4 (by decide) (by decide)).trans a4
      exact ⟨⟨rfl, rfl⟩, fun _ => g_andB (g_c3 (g_var d0) (g_var d3) (g_var hr.fb) fun e a b c => is_allowed_spec e a b c) fun _ => g_c3 (g_var d0) (g_var hr.fa) (g_var d4) fun e a b c => is_allowed_spec e a b c⟩
    rw [List.filter_eq_self.mpr (fun _ _ => rfl), show (r.map fun q => PyData.bool (hasK m (s.1, q.2) && hasK m (q.1, s.2))) = (r.map fun q => hasK m (s.1, q.2) && hasK m (q.1, s.2)).map .bool by rw [List.map_map]; rfl] at gx
    refine (g_allF gx).wp ?_
    rw [List.all_map]
    rfl
theorem lspare_spec {r : List (Int × Int)} {s : Int × Int} (ml : m.length ≤ 1000) (rl : r.length ≤ 1000) (e : Env) (h0 : e 0 = some (.v (ruleD n m))) (h1 : e 1 = some (.v (rgD r))) (h2 : e 2 = some (.v (pairD s))) :
    wp m__law_is_spare e (fun x _ => x = .rt (.v (.bool (spB m r s)))) fun _ _ => False := by
  unfold m__law_is_spare
  refine wp_seqK (fun e' => e' 1 = some (.v (rgD r)) ∧ e' 2 = some (.v (pairD s)) ∧ e' 3 = some (.v (.list ((keysC m).map pairD)))) ?_ fun e1 ⟨a1, a2, a3⟩ => ?_
  · rw [wp_sSet]
    exact (g_c1 (Ψ := fun _ _ => False) (f := m__law_steps) (g_var h0) fun e h => steps_list ml e h).wp ⟨by simpa using h1, by simpa using h2, by simp [keysC]⟩
  · rw [wp_sRet]
    have gx := g_prs (a := 4) (b := 5) (e := e1) (Ψ := fun _ _ => False) (mi := mVar 1) (tt := mOr (mCmp ninL (mFr (mArgs tupF (aCons (mBin ixD (mVar 2) (mC (.int 0))) (aCons (mVar 5) aNil)))) (mFr (mVar 3))) (mCmp ninL (mFr (mArgs tupF (aCons (mVar 4) (aCons (mBin ixD (mVar 2) (mC (.int 1))) aNil)))) (mFr (mVar 3)))) (me := mC (.int 1)) (fun q => !hasK m (s.1, q.2) || !hasK m (q.1, s.2)) (fun _ => PyData.int 1) (g_var (d := rgD r) a1) rfl rl (by decide) fun q e' hq hr => by
      have d2 := (hr.o 2 (by decide) (by decide)).trans a2
      have d3 := (hr.o 3 (by decide) (by decide)).trans a3
      exact ⟨g_either (g_cmpI (g_tupF2 (g_ix (g_var d2) (ix_p0 s)) (g_var hr.fb)) (g_var d3) (ninK m (s.1, q.2))) fun _ => g_cmpI (g_tupF2 (g_var hr.fa) (g_ix (g_var d2) (ix_p1 s))) (g_var d3) (ninK m (q.1, s.2)), fun _ => g_int⟩
    rw [show ((r.filter fun q => !hasK m (s.1, q.2) || !hasK m (q.1, s.2)).map fun _ => PyData.int 1) = ((r.filter fun q => !hasK m (s.1, q.2) || !hasK m (q.1, s.2)).map fun _ => (1 : Int)).map .int by rw [List.map_map]; rfl] at gx
    refine (g_mB (g_cmpI gx (g_lstA .nil (by simp)) (eqD_liNil _))).wp ?_
    congr 3
    rw [Bool.eq_iff_iff, List.isEmpty_iff, List.map_eq_nil_iff, List.filter_eq_nil_iff]
    unfold spB
    rw [List.all_eq_true]
    refine forall_congr' fun q => imp_congr_right fun _ => ?_
    cases hasK m (s.1, q.2) <;> cases hasK m (q.1, s.2) <;> decide
theorem bare_len5 (n5 : n ≤ 5) {r : List (Int × Int)} (h : r ∈ sortR (bareL n m)) : r.length ≤ 5 := by
  have ib := mem_bareL.mp ((show (sortR (bareL n m)).Perm (bareL n m) from List.mergeSort_perm _ _).mem_iff.mp h)
  have := nd_sub_len ib.nf (s := rgI n) fun x hx => by
    obtain ⟨p, hp, rfl⟩ := List.mem_map.mp hx
    have := ib.rng p hp
    exact mem_rgI2.mpr ⟨this.1, this.2.1⟩
  rw [rgI_len, List.length_map] at this
  omega
end
end PD

namespace PD
open PySem PySem.Spec PyProof.Rows L2
section
variable {m m' : Cl} {S T L : List (Int × Int)} {s : Int × Int}
end
end PD

namespace PD
open PySem PySem.Spec PyProof.Rows L2
end PD

namespace PD
open PySem PySem.Spec PyProof.Rows L2
abbrev Tf := Int × Int → Int
def adT (x : Tf) (q : Int × Int) (d : Int) : Tf := fun p => if p = q then x p + d else x p
section
variable {n : Nat} {m : Cl} {S T L : List (Int × Int)} {r c : Int → Int} {x y : Tf}
def lessF (r : Int → Int) (i k : Int) : Int → Int := fun a => if a = i then r a - k else r a
def gz : List (Int × Int) → (Int → Int) → (Int → Int) → Tf
  | [], _, _ => fun _ => 0
  | f :: T, r, c => adT (gz T (lessF r f.1 (minI (r f.1) (c f.2))) (lessF c f.2 (minI (r f.1) (c f.2)))) f (minI (r f.1) (c f.2))
end
end PD

namespace PD
open PySem PySem.Spec PyProof.Rows L2
section
variable {n : Nat} {m : Cl} {R C : List Int}
end
end PD

namespace PD
open PySem PySem.Spec PyProof.Rows L2
def rowT (r : List Int) : PyData := .tuple (r.map .int)
theorem tabD_rows (tab : List (List Int)) : tabD tab = .tuple (tab.map rowT) := rfl
theorem lay_rowT : ∀ tab : List (List Int), PyData.canLayAll0 (tab.map rowT) = true
  | [] => rfl
  | r :: tab => by
    rw [List.map_cons, PyData.canLayAll0, lay_rowT tab]
    simp [rowT, PyData.canLay0, lay_ints]
theorem depth_rowT : ∀ tab : List (List Int), PyData.depthAll (tab.map rowT) ≤ 3
  | [] => by simp [PyData.depthAll]
  | r :: tab => by
    have h1 := depth_rowT tab
    have h2 := depth_ints r
    simp only [List.map_cons, PyData.depthAll, PyData.depth, rowT]
    omega
theorem shaped_tab (tab : List (List Int)) : SeqAt.shaped (tabD tab) = true := by
  unfold SeqAt.shaped
  have := depth_rowT tab
  rw [tabD_rows, PyData.canLay0, lay_rowT, PyData.depth]
  simp
  omega
theorem eqv_rows : ∀ A B : List (List Int), PyData.eqvAll (A.map rowT) (B.map rowT) = decide (A = B)
  | [], [] => by simp [PyData.eqvAll]
  | [], b :: B => by simp [PyData.eqvAll]
  | a :: A, [] => by simp [PyData.eqvAll]
  | a :: A, b :: B => by
    rw [List.map_cons, List.map_cons, PyData.eqvAll, eqv_rows A B]
    have : PyData.eqv (rowT a) (rowT b) = decide (a = b) := by
      unfold rowT
      rw [PyData.eqv, eqv_intsA]
    rw [this]
    by_cases c : a = b <;> by_cases d : A = B <;> simp [c, d]
theorem eqv_tab (a b : List (List Int)) : PyData.eqv (tabD a) (tabD b) = decide (a = b) := by rw [tabD_rows, tabD_rows, PyData.eqv, eqv_rows]
section
variable {e : Env} {Ψ : Exn → Env → Prop} {β : Type}
end
section
variable {n : Nat} {m : Cl} {R C : List Int}
end
end PD

namespace PD
open PySem PySem.Spec PyProof.Rows L2
section
variable {n : Nat} {m : Cl}
end
end PD

namespace PD
open PySem PySem.Spec PyProof.Rows L2
section
variable {n : Nat} {m : Cl} {S : List (Int × Int)} {r c : Int → Int} {x : Tf}
theorem ex_ne {f : Int × Int} {i j : Int} (iN : i ≠ f.1) (jn : j ≠ f.2) : f ≠ (i, j) ∧ f ≠ (f.1, j) ∧ f ≠ (i, f.2) ∧ ((f.1, j) : Int × Int) ≠ (i, f.2) ∧ ((i, j) : Int × Int) ≠ (f.1, j) ∧ ((i, j) : Int × Int) ≠ (i, f.2) :=
  ⟨fun z => iN (by rw [z]), fun z => jn (by conv => rhs; rw [z]), fun z => iN (by conv => rhs; rw [z]), fun z => iN (Prod.mk.inj z).1.symm, fun z => iN (Prod.mk.inj z).1, fun z => jn (Prod.mk.inj z).2⟩
theorem sort_two (p q : Int × Int) (h : p.1 ≠ q.1) : sortP [p, q] = if p.1 < q.1 then [p, q] else [q, p] := by
  refine sorted_uniq leP_anti ((List.mergeSort_perm _ _).trans ?_) (List.pairwise_mergeSort leP_trans leP_total _) ?_
  · split
    · exact List.Perm.refl _
    · exact List.Perm.swap _ _ _
  · split
    · rename_i z
      refine List.pairwise_cons.mpr ⟨fun y hy => ?_, List.pairwise_singleton _ _⟩
      rw [List.mem_singleton.mp hy]
      unfold leP
      simp
      omega
    · rename_i z
      refine List.pairwise_cons.mpr ⟨fun y hy => ?_, List.pairwise_singleton _ _⟩
      rw [List.mem_singleton.mp hy]
      unfold leP
      simp
      omega
def ex2 (f : Int × Int) (i j : Int) : List (Int × Int) := sortP [(f.1, j), (i, f.2)]
theorem ex2_two {f : Int × Int} {i j : Int} (iN : i ≠ f.1) : ex2 f i j = [(f.1, j), (i, f.2)] ∨ ex2 f i j = [(i, f.2), (f.1, j)] := by
  unfold ex2
  rw [sort_two _ _ (fun z => iN z.symm)]
  split
  · exact .inl rfl
  · exact .inr rfl
theorem ex2_ok {f : Int × Int} {i j : Int} (iN : i ≠ f.1) (jn : j ≠ f.2) (fk : f ∈ keysC m) (pK : (i, j) ∈ keysC m) (sj : (f.1, j) ∈ keysC m) (si : (i, f.2) ∈ keysC m) : Okr m (ex2 f i j) := by
  have e : ex2 f i j = if f.1 < i then [(f.1, j), (i, f.2)] else [(i, f.2), (f.1, j)] := sort_two _ _ (fun z => iN z.symm)
  rw [e]
  split
  · rename_i z
    refine ⟨by simp, by simp, by simp [Ne.symm iN], by simp [jn], fun q hq => ?_, fun q hq => ?_, ?_⟩
    · simp only [List.mem_cons, List.not_mem_nil, or_false] at hq
      rcases hq with rfl | rfl
      · exact sj
      · exact si
    · have hq : q ∈ [((f.1, f.2) : Int × Int), (i, j)] := hq
      simp only [List.mem_cons, List.not_mem_nil, or_false] at hq
      rcases hq with rfl | rfl
      · exact fk
      · exact pK
    · show f.1 = if i < f.1 then i else f.1
      rw [if_neg (by omega)]
  · rename_i z
    refine ⟨by simp, by simp, by simp [iN], by simp [Ne.symm jn], fun q hq => ?_, fun q hq => ?_, ?_⟩
    · simp only [List.mem_cons, List.not_mem_nil, or_false] at hq
      rcases hq with rfl | rfl
      · exact si
      · exact sj
    · have hq : q ∈ [((i, j) : Int × Int), (f.1, f.2)] := hq
      simp only [List.mem_cons, List.not_mem_nil, or_false] at hq
      rcases hq with rfl | rfl
      · exact pK
      · exact fk
    · show i = if f.1 < i then f.1 else i
      rw [if_neg z]
theorem count_two {a b p : Int × Int} (h : a ≠ b) : (([a, b] : List (Int × Int)).count p : Nat) = (if p = a then 1 else 0) + (if p = b then 1 else 0) := by
  rw [List.count_cons, List.count_cons, List.count_nil]
  by_cases z : p = a
  · have : p ≠ b := fun w => h (z.symm.trans w)
    rw [if_pos z, if_neg this, if_neg (by simpa using Ne.symm this), if_pos (by simpa using z.symm)]
  · rw [if_neg z, if_neg (c := (a == p) = true) (by simpa using Ne.symm z)]
    by_cases w : p = b
    · rw [if_pos w, if_pos (by simpa using w.symm)]
    · rw [if_neg w, if_neg (by simpa using Ne.symm w)]
theorem turn_cell {tab : List (List Int)} {f : Int × Int} {i j t : Int} (hm : RowOk n 100 200 m) (s : Sq n tab) (iN : i ≠ f.1) (jn : j ≠ f.2) (ok : Okr m (ex2 f i j)) {p : Int × Int} (hp : InN n p) :
    cell (turnT tab (ex2 f i j) t) p.1 p.2 = cell tab p.1 p.2 + (if p = f then t else 0) + (if p = (i, j) then t else 0) + (if p = (f.1, j) then -t else 0) + (if p = (i, f.2) then -t else 0) := by
  have inl : ∀ x, x ∈ ex2 f i j → InN n x := fun x hx => key_in hm (ok.mem x hx)
  have ing : ∀ x, x ∈ goL (ex2 f i j) → InN n x := fun x hx => key_in hm (ok.go x hx)
  obtain ⟨n1, n2, n3, n4, n5, n6⟩ := ex_ne iN jn
  unfold turnT
  rw [cell_addN hp (addN_sq s inl) ing, cell_addN hp s inl]
  have c1 : ((ex2 f i j).count p : Nat) = (if p = (f.1, j) then 1 else 0) + (if p = (i, f.2) then 1 else 0) := by
    rcases ex2_two (f := f) (j := j) iN with e | e
    · rw [e]; exact count_two n4
    · rw [e, count_two (Ne.symm n4)]; omega
  have c2 : ((goL (ex2 f i j)).count p : Nat) = (if p = f then 1 else 0) + (if p = (i, j) then 1 else 0) := by
    rcases ex2_two (f := f) (j := j) iN with e | e
    · rw [e]; exact count_two (a := (f.1, f.2)) n1
    · rw [e]
      have : (([(i, j), (f.1, f.2)] : List (Int × Int)).count p : Nat) = _ := count_two (a := (i, j)) (b := (f.1, f.2)) (Ne.symm n1)
      refine this.trans ?_
      show _ + (if p = f then 1 else 0) = _
      omega
  rw [c1, c2]
  by_cases z1 : p = f
  · rw [if_pos z1, if_pos z1, if_neg (fun w => n1 (z1.symm.trans w)), if_neg (fun w => n1 (z1.symm.trans w)), if_neg (fun w => n2 (z1.symm.trans w)), if_neg (fun w => n2 (z1.symm.trans w)), if_neg (fun w => n3 (z1.symm.trans w)), if_neg (fun w => n3 (z1.symm.trans w))]
    simp
  · by_cases z2 : p = (i, j)
    · rw [if_neg z1, if_neg z1, if_pos z2, if_pos z2, if_neg (fun w => n5 (z2.symm.trans w)), if_neg (fun w => n5 (z2.symm.trans w)), if_neg (fun w => n6 (z2.symm.trans w)), if_neg (fun w => n6 (z2.symm.trans w))]
      simp
    · by_cases z3 : p = (f.1, j)
      · rw [if_neg z1, if_neg z1, if_neg z2, if_neg z2, if_pos z3, if_pos z3, if_neg (fun w => n4 (z3.symm.trans w)), if_neg (fun w => n4 (z3.symm.trans w))]
        simp
      · by_cases z4 : p = (i, f.2)
        · rw [if_neg z1, if_neg z1, if_neg z2, if_neg z2, if_neg z3, if_neg z3, if_pos z4, if_pos z4]
          simp
        · rw [if_neg z1, if_neg z1, if_neg z2, if_neg z2, if_neg z3, if_neg z3, if_neg z4, if_neg z4]
          simp
section
variable {f : Int × Int} {S' : List (Int × Int)} {tab : List (List Int)} {many : Int}
end
end
end PD

namespace PD
open PySem PySem.Spec PyProof.Rows L2
section
variable {X : Cx}
end
section
variable {K : PySem.W.Frag} {H : Hp} {F : Fs}
end
section
variable {X : Cx} {cl : Nat → Addr} {W : WX} {a : Expr} {ma : M PyData} {p p2 pos q : Pos}
end
end PD

namespace PD
open PySem PySem.Spec PyProof.Rows L2
section
variable {n : Nat} {m : Cl} {tab : List (List Int)}
end
abbrev Tn : Type := List (Int × Int) × Int
def tnD (t : Tn) : PyData := .tuple [rgD t.1, .int t.2]
section
variable {n : Nat} {m : Cl} {t : Tn}
end
section
variable {n : Nat} {m : Cl}
end
section
variable {n : Nat} {m : Cl}
end
end PD

namespace PD
open PySem PySem.Spec PyProof.Rows L2
section
variable {n : Nat} {m : Cl} {R : List (Int × Int)} {q : Int × Int} {t u : Nat}
theorem cell_turn {l : List (Int × Int)} {tab : List (List Int)} {k : Int} {p : Int × Int} (hm : RowOk n 100 200 m) (s : Sq n tab) (hp : InN n p) (hl : ∀ x, x ∈ l → x ∈ keysC m) (hg : ∀ x, x ∈ goL l → x ∈ keysC m) : cell (turnT tab l k) p.1 p.2 = cell tab p.1 p.2 - k * (l.count p : Nat) + k * ((goL l).count p : Nat) := by
  unfold turnT
  rw [cell_addN hp (addN_sq s fun x hx => key_in hm (hl x hx)) fun x hx => key_in hm (hg x hx), cell_addN hp s fun x hx => key_in hm (hl x hx), Int.neg_mul]
  omega
end
end PD

namespace PD
open PySem PySem.Spec PyProof.Rows L2
def rI (D : Tf) (n : Nat) (j : Int) : Int := ((rgI n).filter fun i => decide (D (i, j) < 0)).headD 0
section
variable {n : Nat} {D : Tf}
end
end PD

namespace PD
open PySem PySem.Spec PyProof.Rows L2
section
variable {n : Nat} {m : Cl} {l : List (Int × Int)}
end
end PD

namespace PD
open PySem PySem.Spec PyProof.Rows L2
def dl (q p : Int × Int) : Int := if p = q then 1 else 0
theorem dl_nn (q p : Int × Int) : 0 ≤ dl q p := by unfold dl; split <;> omega
theorem dl_self (q : Int × Int) : dl q q = 1 := if_pos rfl
section
variable {n : Nat} {m : Cl} {l : List (Int × Int)}
theorem count_dl (q p : Int × Int) (P : List (Int × Int)) : (((q :: P).count p : Nat) : Int) = dl q p + ((P.count p : Nat) : Int) := by
  rw [List.count_cons]
  unfold dl
  by_cases z : p = q
  · rw [if_pos z, if_pos (by simpa using z.symm)]; omega
  · rw [if_neg z, if_neg (by simpa using Ne.symm z)]; omega
theorem turn_dl {tab : List (List Int)} {f : Int × Int} {i j : Int} (hm : RowOk n 100 200 m) (s : Sq n tab) (iN : i ≠ f.1) (jn : j ≠ f.2) (ok : Okr m (ex2 f i j)) {p : Int × Int} (hp : InN n p) :
    cell (turnT tab (ex2 f i j) 1) p.1 p.2 = cell tab p.1 p.2 + dl f p + dl (i, j) p - dl (f.1, j) p - dl (i, f.2) p := by
  rw [turn_cell hm s iN jn ok hp]
  unfold dl
  split <;> split <;> split <;> split <;> omega
theorem spare_out (hb : IsBare n m l) {s : Int × Int} (hs : spB m l s = true) : s.1 ∉ l.map (·.1) ∧ s.2 ∉ l.map (·.2) := by
  have l3 := hb.l3
  have at' : ∀ k, k < l.length → ∃ x, l[k]? = some x := fun k hk => ⟨_, List.getElem?_eq_getElem hk⟩
  unfold spB at hs
  rw [List.all_eq_true] at hs
  have two : ∀ a, a < l.length → (a + 2) % l.length < l.length ∧ (a + 2) % l.length ≠ a ∧ (a + 2) % l.length ≠ (a + 1) % l.length := fun a ha => by
    rw [mod_two (a := a + 2) (L := l.length) (by omega), mod_two (a := a + 1) (L := l.length) (by omega)]
    split <;> split <;> omega
  constructor
  · intro h
    obtain ⟨r, hr, e⟩ := List.mem_map.mp h
    obtain ⟨a, ha⟩ := List.mem_iff_getElem?.mp hr
    obtain ⟨al, _⟩ := List.getElem?_eq_some_iff.mp ha
    obtain ⟨t1, t2, t3⟩ := two a al
    obtain ⟨y, hy⟩ := at' _ t1
    have := hs y (List.mem_of_getElem? hy)
    simp only [Bool.and_eq_true] at this
    have h1 := this.1
    rw [← e] at h1
    rcases (hb.iff a _ r y ha hy).mp h1 with z | z
    · exact t2 z
    · exact t3 z
  · intro h
    obtain ⟨r, hr, e⟩ := List.mem_map.mp h
    obtain ⟨b, hb'⟩ := List.mem_iff_getElem?.mp hr
    obtain ⟨bl, _⟩ := List.getElem?_eq_some_iff.mp hb'
    obtain ⟨t1, t2, t3⟩ := two b bl
    have ml : (b + 1) % l.length < l.length := Nat.mod_lt _ (by omega)
    obtain ⟨x, hx⟩ := at' _ ml
    have := hs x (List.mem_of_getElem? hx)
    simp only [Bool.and_eq_true] at this
    have h1 := this.2
    rw [← e] at h1
    rcases (hb.iff _ b x r hx hb').mp h1 with z | z
    · rw [mod_two (a := b + 1) (L := l.length) (by omega)] at z
      split at z <;> omega
    · have e2 : ((b + 1) % l.length + 1) % l.length = (b + 2) % l.length := by rw [Nat.mod_add_mod]
      rw [e2] at z
      exact t2 z.symm
end
end PD

namespace PD
open PySem PySem.Spec PyProof.Rows L2
end PD

namespace PD
open PySem PySem.Spec PyProof.Rows L2
section
variable {n : Nat} {tab : List (List Int)}
end
end PD

namespace PD
open PySem PySem.Spec PyProof.Rows L2
section
variable {n : Nat} {tab : List (List Int)} {w : Tn}
end
end PD

namespace PD
open PySem PySem.Spec PyProof.Rows L2
section
variable {n : Nat} {m : Cl} {R C : List Int}
end
end PD

namespace PD
open PySem PySem.Spec PyProof.Rows L2
section
variable {X : Cx} {cl : Nat → Addr} {W : WX} {tg elt : Expr} {scope : Scope} {pos : Pos} {mg : Tgt} {mt : M Bool} {me : M T} {ifs : List Expr}
end
end PD

namespace PD
open PySem PySem.Spec PyProof.Rows L2
section
variable {X : Cx} {pins : List (Addr × Obj)} {σ : St} {H : Hp} {s : Shared} {a b : Addr} {r : Value} {d : L2.V} {k : List Key} {A : Around} {E Q : Value → Shared → Prop} {kvs : List (List Key × L2.V)}
end
section
variable {X : Cx} {cl : Nat → Addr} {W : WX} {e f : Expr} {me mf : M PyData} {ap cp : Pos}
end
end PD

namespace PD
open PySem PySem.Spec PyProof.Rows L2
section
variable {X : Cx} {H H' : Hp} {F F' : Fs} {h : Heap} {P : Program} {w : World} {K : PySem.W.Frag}
end
end PD

namespace PD
open PySem PySem.Spec PyProof.Rows L2
section
variable {X : Cx} {cl : Nat → Addr} {W : WX} {b e f : Expr} {me mk mv : M PyData} {pos : Pos} {B : Nat → Bool}
end
section
variable {X : Cx} {cl : Nat → Addr} {W : WX} {a b c : Expr} {mc : M Bool} {ma mb : M T} {pos : Pos}
end
section
variable {e : Env} {Ψ : Exn → Env → Prop}
end
end PD

namespace PD
open PySem PySem.Spec PyProof.Rows L2
section
variable {n : Nat} {m : Cl} {r l : List (Int × Int)} {R C : List Int}
theorem at2_get {l : List (Int × Int)} {k : Nat} (h : k < l.length) : l[k]? = some (at2 l k) := by
  unfold at2
  rw [List.getD_eq_getElem?_getD, List.getElem?_eq_getElem h]
  rfl
end
end PD

namespace PD
open PySem PySem.Spec PyProof.Rows L2
section
variable {n : Nat} {m : Cl}
end
end PD

namespace PD
open PySem PySem.Spec PyProof.Rows L2
section
variable {n : Nat} {m : Cl} {l : List (Int × Int)}
end

section
variable {n : Nat} {m : Cl} {r : List (Int × Int)} {k : Nat} {p : Int}
theorem bare_okr' {r : List (Int × Int)} (n5 : n ≤ 5) (h : IsBare n m r) : Okr m r := by
  have l3 := h.l3
  have gl := goL_length r
  have l5 := bare_len5 n5 (List.mem_mergeSort.mpr (mem_bareL.mpr h))
  refine ⟨by omega, by omega, h.nf, h.ns, fun q hq => ?_, fun q hq => ?_, ?_⟩
  · obtain ⟨a, ha⟩ := List.mem_iff_getElem?.mp hq
    exact hasK_iff.mp ((h.iff a a q q ha ha).mpr (.inl rfl))
  · obtain ⟨a, ha⟩ := List.mem_iff_getElem?.mp hq
    obtain ⟨al, _⟩ := List.getElem?_eq_some_iff.mp ha
    have al' : a < r.length := by omega
    have e := goL_at al'
    have e3 : at2 (goL r) a = q := by unfold at2; rw [List.getD_eq_getElem?_getD, ha]; rfl
    rw [e3] at e
    have ml : (a + 1) % r.length < r.length := Nat.mod_lt _ (by omega)
    rw [e]
    exact hasK_iff.mp ((h.iff a _ _ _ (at2_get al') (at2_get ml)).mpr (.inr rfl))
  · obtain ⟨x, X, rfl⟩ : ∃ x X, r = x :: X := by
      cases r with
      | nil => simp at l3
      | cons x X => exact ⟨x, X, rfl⟩
    obtain ⟨h1, h2⟩ := mnF_ok (S := x :: X) (by simp)
    obtain ⟨q, hq, e⟩ := List.mem_map.mp h1
    have le := h2 x List.mem_cons_self
    show x.1 = _
    rcases List.mem_cons.mp hq with z | z
    · rw [← e, z]
    · obtain ⟨k, hk⟩ := List.mem_iff_getElem?.mp z
      have := h.hd k x q rfl (by rw [List.getElem?_cons_succ]; exact hk)
      omega
end
end PD

namespace PD
open PySem PySem.Spec PyProof.Rows L2
section
variable {n : Nat} {m : Cl}
end
end PD

namespace PD
open PySem PySem.Spec PyProof.Rows L2
section
variable {X : Cx} {cl : Nat → Addr} {W : WX} {e : Expr} {pos : Pos} {B : Nat → Bool}
end
end PD

namespace PD
open PySem PySem.Spec PyProof.Rows L2
section
variable {X : Cx} {H H' : Hp} {F F' : Fs} {h : Heap} {P : Program} {w : World} {K : PySem.W.Frag}
end
section
variable {X : Cx} {cl : Nat → Addr} {W : WX} {a b : Expr} {mk : M PyData} {mo : M T} {p pos : Pos}
end
section
variable {e : Env} {Ψ : Exn → Env → Prop}
end
end PD

namespace PD
open PySem PySem.Spec PyProof.Rows L2
def downD (lo : Int) (n : Nat) : List PyData := (List.range n).map fun i => .int (lo + (i : Nat) * (-1))
def rng3 : List PyData → Option (List PyData)
  | [.int i, .int j, .int c] => if c = -1 ∧ -(2 ^ 62) ≤ i ∧ i < 2 ^ 62 ∧ -(2 ^ 62) ≤ j ∧ j < 2 ^ 62 then some (downD i (i - j).toNat) else none
  | _ => none
theorem walk_down {K : PySem.W.Frag} {lo : Int} {n : Nat} {H : Hp} {F : Fs} : Walk K (Itc lo (-1) n) (downD lo n) H F := by
  refine ⟨fun H2 F2 k mo => ⟨fun i d e => ?_, ?_⟩⟩
  · unfold downD at e
    rw [List.getElem?_map] at e
    obtain ⟨j, e1, e2⟩ := Option.map_eq_some_iff.mp e
    have hi : i < n := by
      have := (List.getElem?_eq_some_iff.mp e1).1
      simpa using this
    rw [List.getElem?_range hi] at e1
    cases e1
    refine ⟨hi, fun x H3 y => ?_⟩
    obtain ⟨rfl, rfl⟩ := y
    subst e2
    exact ⟨F2, .int _, Ext.refl _ _ _⟩
  · unfold downD
    rw [List.length_map, List.length_range]
    exact Nat.le_refl _
section
variable {X : Cx} {cl : Nat → Addr} {W : WX} {tg : Expr}
theorem di_range3 {a b c : Expr} {ma : M (List PyData)} {p pos : Pos} (hg : Gl X "range") (hm : X.mg "range" = none) (ha : DA X cl W [a, b, c] ma) (hs : starEach [a, b, c] X.env = (false, eval a X.env) :: starEach [b, c] X.env := by rfl) (hpl : (backTo pos (starEach [b, c] X.env)).any (·.1) = false := by rfl) :
    DI X cl W tg (.Call (.Name "range" p) [a, b, c] [] pos) (mIA rng3 ma) := by
  refine PI.imp (pi_range3 hg hm ha hs hpl) fun σ H R q => tI_ofA q fun v H' F' ds d env' fp' r ef hf k => ?_
  unfold rng3 at ef
  split at ef
  · rename_i i j c
    by_cases hc : c = -1 ∧ -(2 ^ 62) ≤ i ∧ i < 2 ^ 62 ∧ -(2 ^ 62) ≤ j ∧ j < 2 ^ 62
    · rw [if_pos hc] at ef
      cases ef
      obtain ⟨rfl, h1, h2, h3, h4⟩ := hc
      cases hf with
      | cons f1 t =>
        cases f1
        cases t with
        | cons f2 t =>
          cases f2
          cases t with
          | cons f3 t =>
            cases f3
            cases t
            exact ⟨i, j, -1, (i - j).toNat, rfl, RgC.neg h1 h2 h3 h4, k _ walk_down⟩
    · rw [if_neg hc] at ef; cases ef
  · cases ef
theorem call_dict0T (hc : X.calm = true) : CallR X (.type "dict") (fun xs H Q => ∃ a, xs = [V.ref a] ∧ SqL X.K H a [] ∧ ∀ p, H p = none → Q (.ref p) (upd H p (.dT []))) := by
  intro pins s σ H xs us Q I r h
  obtain ⟨a, rfl, hq, q⟩ := h
  obtain ⟨u, rfl, rx⟩ := r.one
  cases rx
  obtain ⟨its, rv, pl, hz⟩ := I.list hq
  cases rv
  obtain ⟨o, n, ho, hcl, hd, hdat⟩ := pl
  refine L2.call_dict_pairs (prs := []) (I.ok.hd hc) ho hcl hd hdat (by simp) (by simp) (fun j q' e => by simp at e) fun h' tk hd' k => ?_
  have hm : (s.heap.objs.size == sysModules) = false := beq_eq_false_iff_ne.mpr (Nat.ne_of_gt I.big)
  obtain ⟨o', es, ep, g1, g2, g3, g4, g5, g6⟩ := hd'
  have e0 : es.toList = [] := by
    have g5 : Pairs (mixKind X.prog X.w) es.toList [] := g5
    cases h : es.toList with
    | nil => rfl
    | cons x r => rw [h] at g5; cases g5
  exact ⟨.ref s.heap.objs.size, _, I.laid (t' := tk) (o := .dT []) k (Nat.le_refl _) (show ObjOk X.prog X.w _ _ _ (.dT []) from ⟨Nat.zero_le _, hm, [], .nil, o', es, ep, g1, g2, g3, e0, List.nodup_nil⟩), rfl, q _ (I.hok.fresh (Nat.le_refl _))⟩
theorem do_dict0 {p lp pos : Pos} (hc : X.calm = true) (hg : Gl X "dict") (hm : X.mg "dict" = none) (he : starEach [.List [] lp] X.env = (false, eval (.List [] lp) X.env) :: starEach [] X.env := by rfl) (hpl : (backTo pos (starEach [] X.env)).any (·.1) = false := by rfl) :
    DO X cl W (.Call (.Name "dict" p) [.List [] lp] [] pos) mDT0 := by
  refine PE.imp (pe_callTy (call_dict0T hc) hg hm (by decide +kernel) (pa_cons (pe_lst pa_nil) pa_nil he) (by decide) (by decide) he hpl) fun σ H Q q => ?_
  obtain ⟨F, env, fp, r, hm⟩ := q
  refine ⟨by simp, fun l hl => ?_⟩
  obtain ⟨H1, eH⟩ : ∃ H1, upd H l (.lst []) = H1 := ⟨_, rfl⟩
  have x : Ext H F (ow fp) H1 F (ow fp) := by
    rw [← eH]
    exact ⟨fun a o h _ => by rw [upd_ne (ne_of_none h hl)]; exact h, fun _ z => z, fun _ z => .inl z, fun _ z => .inl z, fun h a z => (let ⟨o, q⟩ := h a z; ⟨o, by rw [upd_ne (ne_of_none q hl)]; exact q⟩)⟩
  have x0 : Ext H F noF H1 F noF := by
    rw [← eH]
    exact ⟨fun a o h _ => by rw [upd_ne (ne_of_none h hl)]; exact h, fun _ z => z, fun _ z => z.elim, fun _ z => .inl z, fun h a z => (let ⟨o, q⟩ := h a z; ⟨o, by rw [upd_ne (ne_of_none q hl)]; exact q⟩)⟩
  have r1 : REnv ⟨X.K, cl⟩ H1 F env σ fp := r.ext x0 (fun _ _ z => z) (fun _ _ z => z) fun a z f => r.fo a f z
  rw [eH]
  refine ⟨l, rfl, SqL.of (by rw [← eH]; exact upd_same), fun p hp => ?_⟩
  refine fin_own (Post.rebase hm x) r1 hp ?_
  have := RT.dT (Γ := ⟨X.K, cl⟩) (F := F) (H := upd H1 p (.dT [])) (a := p) (ks := []) (vs := []) (ts := []) rfl upd_same .nil (fun z => z)
  have e : (fun b : Addr => b = p ∨ False) = fun a => a = p := by funext b; simp
  rw [e] at this
  exact this
end
end PD

namespace PD.Lk41
open PySem PySem.Spec PyProof.Rows L2 PD
noncomputable def m_pair_ring : M Fl :=
  (sRet (mIf (mCmp ltD (mFr (mBin ixD (mVar 0) (mC (.int 0)))) (mFr (mBin ixD (mVar 1) (mC (.int 0))))) (mArgs tupF (aCons (mVar 0) (aCons (mVar 1) aNil))) (mArgs tupF (aCons (mVar 1) (aCons (mVar 0) aNil)))))
noncomputable def m_spare_way : M Fl :=
  (sSeq (sAsg (mVar 2) (gTp 2 (gCo (gNm 3) (gCo (gNm 4) gNo))))
    (sSeq (sSetO 5 (mLstO (tCn (mV (mArgs tupF (aCons (mFz (mCall (lent []) 2 m_pair_ring (oCons (mFr (mBin ixD (mVar 1) (mC (.int 0)))) (oCons (mFr (mVar 2)) oNil)))) (aCons (mC (.int 1)) aNil)))) tNl)))
    (sSeq (sFor (mIA rng3 (aCons (mBin subI (mLen (mFr (mVar 1))) (mC (.int 1))) (aCons (mC (.int 0)) (aCons (mUn negI (mC (.int 1))) aNil)))) (gNm 6)
    (sSeq (sSet 7 (mBin ixD (mVar 1) (mBin subI (mBin addD (mVar 6) (mC (.int 1))) (mLen (mFr (mVar 1))))))
    (sExpr (mAppend 5 (mV (mArgs tupF (aCons (mFz (mCall (lent []) 2 m_pair_ring (oCons (mFr (mBin ixD (mVar 1) (mVar 6))) (oCons (mFr (mArgs tupF (aCons (mVar 3) (aCons (mBin ixD (mVar 7) (mC (.int 1))) aNil)))) oNil)))) (aCons (mC (.int 1)) aNil))))))))
    (sSeq (sExpr (mAppend 5 (mV (mArgs tupF (aCons (mFz (mCall (lent []) 2 m_pair_ring (oCons (mFr (mArgs tupF (aCons (mBin ixD (mBin ixD (mVar 1) (mC (.int 0))) (mC (.int 0))) (aCons (mVar 4) aNil)))) (oCons (mFr (mArgs tupF (aCons (mVar 3) (aCons (mBin ixD (mBin ixD (mVar 1) (mC (.int 1))) (mC (.int 1))) aNil)))) oNil)))) (aCons (mC (.int 1)) aNil))))))
    (sRet (mArgs tupleF (aCons (mVar 5) aNil)))))))
noncomputable def m__law_walks : M Fl :=
  (sSeq (sSetO 3 (mLcO (mIA rng1 (aCons (mBin ixD (mVar 0) (mC (.int 0))) aNil)) (gNm 4) (pure true) (mBinO lstMul (mArgs lstF (aCons (mC (.int 0)) aNil)) (mBin ixD (mVar 0) (mC (.int 0)))) [4]))
    (sSeq (sFor (mI seqOf (mBin addD (mVar 1) (mArgs tupF (aCons (mVar 2) aNil)))) (gTp 2 (gCo (gNm 4) (gCo (gNm 5) gNo)))
    (sSetPP 3 4 5 (mBin addD (mIxPP 3 4 5) (mC (.int 1)))))
    (sSeq (sSet 6 (mArgs tupleF (aCons (mLc (mI seqOf (mVar 3)) (gNm 10) (pure true) (mArgs tupleF (aCons (mVar 10) aNil)) [10]) aNil)))
    (sSeq (sSet 7 (mVar 6))
    (sSeq (sFor (mI seqOf (mFz (mCall (lent []) 3 m_spare_way (oCons (mFr (mVar 0)) (oCons (mFr (mVar 1)) (oCons (mFr (mVar 2)) oNil)))))) (gTp 2 (gCo (gNm 8) (gCo (gNm 9) gNo)))
    (sSeq (sSet 7 (mFz (mCall (lent []) 3 m__law_turned (oCons (mFr (mVar 7)) (oCons (mFr (mVar 8)) (oCons (mFr (mVar 9)) oNil))))))
    (sIf (mOr (mCmp isNo (mFr (mVar 7)) (mFr (mC .none))) (mCmp neD (mFr (mLc (mI seqOf (mFz (mCall (lent []) 1 m__law_goes_on (oCons (mFr (mVar 8)) oNil)))) (gNm 11) (mCmp ninL (mFr (mVar 11)) (mFr (mFz (mCall (lent []) 1 m__law_steps (oCons (mFr (mVar 0)) oNil))))) (mC (.int 1)) [11])) (mFr (mArgs lstF aNil))))
    (sRet (mC (.bool false)))
    sNil)))
    (sRet (mB (mCmp eqD (mFr (mVar 7)) (mFr (mFz (mCall (lent []) 3 m__law_turned (oCons (mFr (mVar 6)) (oCons (mFr (mVar 1)) (oCons (mFr (mC (.int 1))) oNil))))))))))))))
noncomputable def m__law_pair_ring : M Fl :=
  (sRet (mIf (mCmp ltD (mFr (mBin ixD (mVar 0) (mC (.int 0)))) (mFr (mBin ixD (mVar 1) (mC (.int 0))))) (mArgs tupF (aCons (mVar 0) (aCons (mVar 1) aNil))) (mArgs tupF (aCons (mVar 1) (aCons (mVar 0) aNil)))))
noncomputable def m__law_way : M Fl :=
  (sSeq (sAsg (mVar 1) (gTp 2 (gCo (gNm 2) (gCo (gNm 3) gNo))))
    (sSeq (sPar [4, 5] (tCn (mLstO (tCn (mV (mArgs tupF (aCons (mFz (mCall (lent []) 2 m__law_pair_ring (oCons (mFr (mBin ixD (mVar 0) (mC (.int 0)))) (oCons (mFr (mVar 1)) oNil)))) (aCons (mC (.int 1)) aNil)))) tNl)) (tCn (mV (mBin ixD (mBin ixD (mVar 0) (mC (.int 0))) (mC (.int 1)))) tNl)))
    (sSeq (sFor (mI seqOf (mSlK (mVar 0) mNo (mPart (mC (.int 0))) stN1)) (gTp 2 (gCo (gNm 6) (gCo (gNm 7) gNo)))
    (sSeq (sExpr (mAppend 4 (mV (mArgs tupF (aCons (mFz (mCall (lent []) 2 m__law_pair_ring (oCons (mFr (mArgs tupF (aCons (mVar 6) (aCons (mVar 7) aNil)))) (oCons (mFr (mArgs tupF (aCons (mVar 2) (aCons (mVar 5) aNil)))) oNil)))) (aCons (mC (.int 1)) aNil))))))
    (sSet 5 (mVar 7))))
    (sSeq (sExpr (mAppend 4 (mV (mArgs tupF (aCons (mFz (mCall (lent []) 2 m__law_pair_ring (oCons (mFr (mArgs tupF (aCons (mBin ixD (mBin ixD (mVar 0) (mC (.int 0))) (mC (.int 0))) (aCons (mVar 3) aNil)))) (oCons (mFr (mArgs tupF (aCons (mVar 2) (aCons (mVar 5) aNil)))) oNil)))) (aCons (mC (.int 1)) aNil))))))
    (sRet (mArgs tupleF (aCons (mVar 4) aNil)))))))
noncomputable def m_law : M Fl :=
  (sSeq (sSetO 1 (mCall (lent [0]) 1 m__law_pen (oCons (mPk 0) oNil)))
    (sSeq (sFor (mIA rng1 (aCons (mArgs maxF (aCons (mC (.int 2)) (aCons (mArgs minF (aCons (mC (.int 6)) (aCons (mLenS 0) aNil))) aNil))) aNil)) (gNm 2)
    (sSeq (sSet 3 (mFz (mCall (lent [0]) 2 m__law_rule (oCons (mPk 1) (oCons (mFr (mBin addD (mC (.int 3)) (mFz (mCall (lent [0]) 2 m__law_draw (oCons (mPk 1) (oCons (mFr (mC (.int 3))) oNil)))))) oNil)))))
    (sFor (mI seqOf (mSl (mFz (mCall (lent []) 1 m__law_bare_rings (oCons (mFr (mVar 3)) oNil))) mNo (mPart (mC (.int 6))))) (gNm 4)
    (sFor (mI seqOf (mFz (mCall (lent []) 1 m__law_steps (oCons (mFr (mVar 3)) oNil)))) (gNm 5)
    (sSeq (sSet 6 (mFz (mCall (lent []) 3 m__law_is_spare (oCons (mFr (mVar 3)) (oCons (mFr (mVar 4)) (oCons (mFr (mVar 5)) oNil))))))
    (sSeq (sIf (mCmp neD (mFr (mArgs reprF (aCons (mFz (mCall (lent []) 3 m_is_spare (oCons (mFr (mVar 3)) (oCons (mFr (mVar 4)) (oCons (mFr (mVar 5)) oNil))))) aNil))) (mFr (mArgs reprF (aCons (mVar 6) aNil))))
    (sRet (mC (.bool false)))
    sNil)
    (sSeq (sIf (mAnd (mTru (mFr (mVar 6))) (mNot (mTru (mFr (mFz (mCall (lent []) 3 m__law_walks (oCons (mFr (mVar 3)) (oCons (mFr (mVar 4)) (oCons (mFr (mVar 5)) oNil)))))))))
    (sRet (mC (.bool false)))
    sNil)
    (sSeq (sSet 7 (mIf (mTru (mFr (mVar 6))) (mFz (mCall (lent []) 3 m_spare_way (oCons (mFr (mVar 3)) (oCons (mFr (mVar 4)) (oCons (mFr (mVar 5)) oNil))))) (mArgs tupF aNil)))
    (sIf (mAnd (mTru (mFr (mVar 6))) (mCmp neD (mFr (mArgs reprF (aCons (mVar 7) aNil))) (mFr (mArgs reprF (aCons (mFz (mCall (lent []) 2 m__law_way (oCons (mFr (mVar 4)) (oCons (mFr (mVar 5)) oNil)))) aNil)))))
    (sRet (mC (.bool false)))
    sNil)))))))))
    (sSeq (sSetO 8 mDT0)
    (sSeq (sFor (mIA rng1 (aCons (mC (.int 4)) aNil)) (gNm 9)
    (sSeq (sPutD 8 (mC (.int 0)) (mArgs tupF (aCons (mVar 9) (aCons (mC (.int 3)) aNil))))
    (sPutD 8 (mC (.int 0)) (mArgs tupF (aCons (mC (.int 3)) (aCons (mVar 9) aNil))))))
    (sSeq (sFor (mIA rng1 (aCons (mC (.int 3)) aNil)) (gNm 9)
    (sSeq (sPutD 8 (mC (.int 0)) (mArgs tupF (aCons (mVar 9) (aCons (mVar 9) aNil))))
    (sPutD 8 (mC (.int 0)) (mArgs tupF (aCons (mVar 9) (aCons (mBin modI (mArgs intF (aCons (mBin addD (mVar 9) (mC (.int 1))) aNil)) (mC (.int 3))) aNil))))))
    (sSeq (sPar [10, 4] (tCn (mV (mFz (mCall (lent []) 2 m__law_rule_of (oCons (mFr (mC (.int 4))) (oCons (mFr (mVar 8)) oNil))))) (tCn (mV (mArgs tupF (aCons (mArgs tupF (aCons (mC (.int 0)) (aCons (mC (.int 0)) aNil))) (aCons (mArgs tupF (aCons (mC (.int 1)) (aCons (mC (.int 1)) aNil))) (aCons (mArgs tupF (aCons (mC (.int 2)) (aCons (mC (.int 2)) aNil))) aNil))))) tNl)))
    (sSeq (sIf (mOr (mNot (mTru (mFr (mFz (mCall (lent []) 3 m_is_spare (oCons (mFr (mVar 10)) (oCons (mFr (mVar 4)) (oCons (mFr (mArgs tupF (aCons (mC (.int 3)) (aCons (mC (.int 3)) aNil)))) oNil)))))))) (mTru (mFr (mFz (mCall (lent []) 3 m_is_spare (oCons (mFr (mVar 10)) (oCons (mFr (mVar 4)) (oCons (mFr (mArgs tupF (aCons (mC (.int 0)) (aCons (mC (.int 3)) aNil)))) oNil))))))))
    (sRet (mC (.bool false)))
    sNil)
    (sSeq (sSet 11 (mArgs tupF (aCons (mArgs tupF (aCons (mArgs tupF (aCons (mC (.int 0)) (aCons (mC (.int 0)) aNil))) (aCons (mArgs tupF (aCons (mC (.int 3)) (aCons (mC (.int 3)) aNil))) aNil))) (aCons (mArgs tupF (aCons (mArgs tupF (aCons (mC (.int 2)) (aCons (mC (.int 2)) aNil))) (aCons (mArgs tupF (aCons (mC (.int 3)) (aCons (mC (.int 0)) aNil))) aNil))) (aCons (mArgs tupF (aCons (mArgs tupF (aCons (mC (.int 1)) (aCons (mC (.int 1)) aNil))) (aCons (mArgs tupF (aCons (mC (.int 3)) (aCons (mC (.int 2)) aNil))) aNil))) (aCons (mArgs tupF (aCons (mArgs tupF (aCons (mC (.int 0)) (aCons (mC (.int 3)) aNil))) (aCons (mArgs tupF (aCons (mC (.int 3)) (aCons (mC (.int 1)) aNil))) aNil))) aNil))))))
    (sRet (mB (mCmp eqD (mFr (mFz (mCall (lent []) 3 m_spare_way (oCons (mFr (mVar 10)) (oCons (mFr (mVar 4)) (oCons (mFr (mArgs tupF (aCons (mC (.int 3)) (aCons (mC (.int 3)) aNil)))) oNil)))))) (mFr (mArgs tupleF (aCons (mLc (mI seqOf (mVar 11)) (gNm 12) (pure true) (mArgs tupF (aCons (mVar 12) (aCons (mC (.int 1)) aNil))) [12]) aNil))))))))))))))
end PD.Lk41

namespace PD.Lk41
open PySem PySem.Spec PyProof.Rows L2 PD
abbrev body : List Stmt := PySem.Challenge.pw_swaprings_k41_spares_judged_and_walked.main.body
def top (i : Nat) : Stmt := body.getD i (.Pass ⟨0, 0, 0, 0⟩)
def vb__law_pen : { l : List Stmt // defBody (top 8) = l } := ⟨_, by conv => lhs; whnf⟩
def b__law_pen : List Stmt := vb__law_pen.1
def vc__law_pen : { l : Scope // defScope (top 8) = l } := ⟨_, by conv => lhs; whnf⟩
def c__law_pen : Scope := vc__law_pen.1
def a__law_pen : Arguments := defArgs (top 8)
theorem sc__law_pen : FnScope ["script"] ["script"] c__law_pen := ⟨rfl, rfl, rfl, by decide +kernel, rfl, by decide +kernel, by decide +kernel⟩
def vb__law_fresh : { l : List Stmt // defBody (top 9) = l } := ⟨_, by conv => lhs; whnf⟩
def b__law_fresh : List Stmt := vb__law_fresh.1
def vc__law_fresh : { l : Scope // defScope (top 9) = l } := ⟨_, by conv => lhs; whnf⟩
def c__law_fresh : Scope := vc__law_fresh.1
def a__law_fresh : Arguments := defArgs (top 9)
theorem sc__law_fresh : FnScope ["pen", "seat", "given", "cell", "prime", "state", "found", "lap"] ["pen"] c__law_fresh := ⟨rfl, rfl, rfl, by decide +kernel, rfl, by decide +kernel, by decide +kernel⟩
def vb__law_draw : { l : List Stmt // defBody (top 10) = l } := ⟨_, by conv => lhs; whnf⟩
def b__law_draw : List Stmt := vb__law_draw.1
def vc__law_draw : { l : Scope // defScope (top 10) = l } := ⟨_, by conv => lhs; whnf⟩
def c__law_draw : Scope := vc__law_draw.1
def a__law_draw : Arguments := defArgs (top 10)
theorem sc__law_draw : FnScope ["pen", "bound", "digit"] ["pen", "bound"] c__law_draw := ⟨rfl, rfl, rfl, by decide +kernel, rfl, by decide +kernel, by decide +kernel⟩
def vb__law_one_of : { l : List Stmt // defBody (top 11) = l } := ⟨_, by conv => lhs; whnf⟩
def b__law_one_of : List Stmt := vb__law_one_of.1
def vc__law_one_of : { l : Scope // defScope (top 11) = l } := ⟨_, by conv => lhs; whnf⟩
def c__law_one_of : Scope := vc__law_one_of.1
def a__law_one_of : Arguments := defArgs (top 11)
theorem sc__law_one_of : FnScope ["pen", "rows"] ["pen", "rows"] c__law_one_of := ⟨rfl, rfl, rfl, by decide +kernel, rfl, by decide +kernel, by decide +kernel⟩
def vb__law_rule_of : { l : List Stmt // defBody (top 13) = l } := ⟨_, by conv => lhs; whnf⟩
def b__law_rule_of : List Stmt := vb__law_rule_of.1
def vc__law_rule_of : { l : Scope // defScope (top 13) = l } := ⟨_, by conv => lhs; whnf⟩
def c__law_rule_of : Scope := vc__law_rule_of.1
def a__law_rule_of : Arguments := defArgs (top 13)
theorem sc__law_rule_of : FnScope ["size", "cells", "i", "j"] ["size", "cells"] c__law_rule_of := ⟨rfl, rfl, rfl, by decide +kernel, rfl, by decide +kernel, by decide +kernel⟩
def vb__law_price : { l : List Stmt // defBody (top 14) = l } := ⟨_, by conv => lhs; whnf⟩
def b__law_price : List Stmt := vb__law_price.1
def vc__law_price : { l : Scope // defScope (top 14) = l } := ⟨_, by conv => lhs; whnf⟩
def c__law_price : Scope := vc__law_price.1
def a__law_price : Arguments := defArgs (top 14)
theorem sc__law_price : FnScope ["pen", "width"] ["pen", "width"] c__law_price := ⟨rfl, rfl, rfl, by decide +kernel, rfl, by decide +kernel, by decide +kernel⟩
def vb__law_any_rule : { l : List Stmt // defBody (top 15) = l } := ⟨_, by conv => lhs; whnf⟩
def b__law_any_rule : List Stmt := vb__law_any_rule.1
def vc__law_any_rule : { l : Scope // defScope (top 15) = l } := ⟨_, by conv => lhs; whnf⟩
def c__law_any_rule : Scope := vc__law_any_rule.1
def a__law_any_rule : Arguments := defArgs (top 15)
theorem sc__law_any_rule : FnScope ["pen", "size", "width", "share", "cells", "i", "j"] ["pen", "size"] c__law_any_rule := ⟨rfl, rfl, rfl, by decide +kernel, rfl, by decide +kernel, by decide +kernel⟩
def vb__law_line : { l : List Stmt // defBody (top 12) = l } := ⟨_, by conv => lhs; whnf⟩
def b__law_line : List Stmt := vb__law_line.1
def vc__law_line : { l : Scope // defScope (top 12) = l } := ⟨_, by conv => lhs; whnf⟩
def c__law_line : Scope := vc__law_line.1
def a__law_line : Arguments := defArgs (top 12)
theorem sc__law_line : FnScope ["pen", "size", "left", "found"] ["pen", "size"] c__law_line := ⟨rfl, rfl, rfl, by decide +kernel, rfl, by decide +kernel, by decide +kernel⟩
def vb__law_ring_rule : { l : List Stmt // defBody (top 16) = l } := ⟨_, by conv => lhs; whnf⟩
def b__law_ring_rule : List Stmt := vb__law_ring_rule.1
def vc__law_ring_rule : { l : Scope // defScope (top 16) = l } := ⟨_, by conv => lhs; whnf⟩
def c__law_ring_rule : Scope := vc__law_ring_rule.1
def a__law_ring_rule : Arguments := defArgs (top 16)
theorem sc__law_ring_rule : FnScope ["pen", "size", "many", "rows", "columns", "width", "cells", "at", "lap"] ["pen", "size"] c__law_ring_rule := ⟨rfl, rfl, rfl, by decide +kernel, rfl, by decide +kernel, by decide +kernel⟩
def vb__law_calm_rule : { l : List Stmt // defBody (top 17) = l } := ⟨_, by conv => lhs; whnf⟩
def b__law_calm_rule : List Stmt := vb__law_calm_rule.1
def vc__law_calm_rule : { l : Scope // defScope (top 17) = l } := ⟨_, by conv => lhs; whnf⟩
def c__law_calm_rule : Scope := vc__law_calm_rule.1
def a__law_calm_rule : Arguments := defArgs (top 17)
theorem sc__law_calm_rule : FnScope ["pen", "size", "rows", "columns", "ends", "width", "slope", "cells", "one", "two", "x", "y", "price", "lap"] ["pen", "size"] c__law_calm_rule := ⟨rfl, rfl, rfl, by decide +kernel, rfl, by decide +kernel, by decide +kernel⟩
def vb__law_rule : { l : List Stmt // defBody (top 18) = l } := ⟨_, by conv => lhs; whnf⟩
def b__law_rule : List Stmt := vb__law_rule.1
def vc__law_rule : { l : Scope // defScope (top 18) = l } := ⟨_, by conv => lhs; whnf⟩
def c__law_rule : Scope := vc__law_rule.1
def a__law_rule : Arguments := defArgs (top 18)
theorem sc__law_rule : FnScope ["pen", "size", "sort"] ["pen", "size"] c__law_rule := ⟨rfl, rfl, rfl, by decide +kernel, rfl, by decide +kernel, by decide +kernel⟩
def vb_price_of : { l : List Stmt // defBody (top 1) = l } := ⟨_, by conv => lhs; whnf⟩
def b_price_of : List Stmt := vb_price_of.1
def vc_price_of : { l : Scope // defScope (top 1) = l } := ⟨_, by conv => lhs; whnf⟩
def c_price_of : Scope := vc_price_of.1
def a_price_of : Arguments := defArgs (top 1)
theorem sc_price_of : FnScope ["rule", "i", "j", "first", "second", "price"] ["rule", "i", "j"] c_price_of := ⟨rfl, rfl, rfl, by decide +kernel, rfl, by decide +kernel, by decide +kernel⟩
def vb_is_allowed : { l : List Stmt // defBody (top 2) = l } := ⟨_, by conv => lhs; whnf⟩
def b_is_allowed : List Stmt := vb_is_allowed.1
def vc_is_allowed : { l : Scope // defScope (top 2) = l } := ⟨_, by conv => lhs; whnf⟩
def c_is_allowed : Scope := vc_is_allowed.1
def a_is_allowed : Arguments := defArgs (top 2)
theorem sc_is_allowed : FnScope ["rule", "i", "j"] ["rule", "i", "j"] c_is_allowed := ⟨rfl, rfl, rfl, by decide +kernel, rfl, by decide +kernel, by decide +kernel⟩
def vb_is_spare : { l : List Stmt // defBody (top 4) = l } := ⟨_, by conv => lhs; whnf⟩
def b_is_spare : List Stmt := vb_is_spare.1
def vc_is_spare : { l : Scope // defScope (top 4) = l } := ⟨_, by conv => lhs; whnf⟩
def c_is_spare : Scope := vc_is_spare.1
def a_is_spare : Arguments := defArgs (top 4)
theorem sc_is_spare : FnScope ["rule", "ring", "step", "x", "y", "i", "j"] ["rule", "ring", "step"] c_is_spare := ⟨rfl, rfl, rfl, by decide +kernel, rfl, by decide +kernel, by decide +kernel⟩
def vb_pair_ring : { l : List Stmt // defBody (top 5) = l } := ⟨_, by conv => lhs; whnf⟩
def b_pair_ring : List Stmt := vb_pair_ring.1
def vc_pair_ring : { l : Scope // defScope (top 5) = l } := ⟨_, by conv => lhs; whnf⟩
def c_pair_ring : Scope := vc_pair_ring.1
def a_pair_ring : Arguments := defArgs (top 5)
theorem sc_pair_ring : FnScope ["one", "two"] ["one", "two"] c_pair_ring := ⟨rfl, rfl, rfl, by decide +kernel, rfl, by decide +kernel, by decide +kernel⟩
def vb_spare_way : { l : List Stmt // defBody (top 6) = l } := ⟨_, by conv => lhs; whnf⟩
def b_spare_way : List Stmt := vb_spare_way.1
def vc_spare_way : { l : Scope // defScope (top 6) = l } := ⟨_, by conv => lhs; whnf⟩
def c_spare_way : Scope := vc_spare_way.1
def a_spare_way : Arguments := defArgs (top 6)
theorem sc_spare_way : FnScope ["rule", "ring", "step", "x", "y", "turns", "at", "later"] ["rule", "ring", "step"] c_spare_way := ⟨rfl, rfl, rfl, by decide +kernel, rfl, by decide +kernel, by decide +kernel⟩
def vb__law_steps : { l : List Stmt // defBody (top 19) = l } := ⟨_, by conv => lhs; whnf⟩
def b__law_steps : List Stmt := vb__law_steps.1
def vc__law_steps : { l : Scope // defScope (top 19) = l } := ⟨_, by conv => lhs; whnf⟩
def c__law_steps : Scope := vc__law_steps.1
def a__law_steps : Arguments := defArgs (top 19)
theorem sc__law_steps : FnScope ["rule", "i", "j", "price"] ["rule"] c__law_steps := ⟨rfl, rfl, rfl, by decide +kernel, rfl, by decide +kernel, by decide +kernel⟩
def vb__law_bare_rings : { l : List Stmt // defBody (top 21) = l } := ⟨_, by conv => lhs; whnf⟩
def b__law_bare_rings : List Stmt := vb__law_bare_rings.1
def vc__law_bare_rings : { l : Scope // defScope (top 21) = l } := ⟨_, by conv => lhs; whnf⟩
def c__law_bare_rings : Scope := vc__law_bare_rings.1
def a__law_bare_rings : Arguments := defArgs (top 21)
theorem sc__law_bare_rings : FnScope ["rule", "steps", "found", "lines", "longer", "rows", "columns", "later", "j", "i", "near", "column", "step"] ["rule"] c__law_bare_rings := ⟨rfl, rfl, rfl, by decide +kernel, rfl, by decide +kernel, by decide +kernel⟩
def vb__law_is_spare : { l : List Stmt // defBody (top 25) = l } := ⟨_, by conv => lhs; whnf⟩
def b__law_is_spare : List Stmt := vb__law_is_spare.1
def vc__law_is_spare : { l : Scope // defScope (top 25) = l } := ⟨_, by conv => lhs; whnf⟩
def c__law_is_spare : Scope := vc__law_is_spare.1
def a__law_is_spare : Arguments := defArgs (top 25)
theorem sc__law_is_spare : FnScope ["rule", "ring", "step", "steps", "i", "j"] ["rule", "ring", "step"] c__law_is_spare := ⟨rfl, rfl, rfl, by decide +kernel, rfl, by decide +kernel, by decide +kernel⟩
def vb__law_goes_on : { l : List Stmt // defBody (top 20) = l } := ⟨_, by conv => lhs; whnf⟩
def b__law_goes_on : List Stmt := vb__law_goes_on.1
def vc__law_goes_on : { l : Scope // defScope (top 20) = l } := ⟨_, by conv => lhs; whnf⟩
def c__law_goes_on : Scope := vc__law_goes_on.1
def a__law_goes_on : Arguments := defArgs (top 20)
theorem sc__law_goes_on : FnScope ["ring", "step", "later"] ["ring"] c__law_goes_on := ⟨rfl, rfl, rfl, by decide +kernel, rfl, by decide +kernel, by decide +kernel⟩
def vb__law_turned : { l : List Stmt // defBody (top 22) = l } := ⟨_, by conv => lhs; whnf⟩
def b__law_turned : List Stmt := vb__law_turned.1
def vc__law_turned : { l : Scope // defScope (top 22) = l } := ⟨_, by conv => lhs; whnf⟩
def c__law_turned : Scope := vc__law_turned.1
def a__law_turned : Arguments := defArgs (top 22)
theorem sc__law_turned : FnScope ["table", "ring", "often", "cells", "i", "j", "row"] ["table", "ring", "often"] c__law_turned := ⟨rfl, rfl, rfl, by decide +kernel, rfl, by decide +kernel, by decide +kernel⟩
def vb__law_walks : { l : List Stmt // defBody (top 26) = l } := ⟨_, by conv => lhs; whnf⟩
def b__law_walks : List Stmt := vb__law_walks.1
def vc__law_walks : { l : Scope // defScope (top 26) = l } := ⟨_, by conv => lhs; whnf⟩
def c__law_walks : Scope := vc__law_walks.1
def a__law_walks : Arguments := defArgs (top 26)
theorem sc__law_walks : FnScope ["rule", "ring", "step", "cells", "i", "j", "start", "table", "pair", "often", "row", "place"] ["rule", "ring", "step"] c__law_walks := ⟨rfl, rfl, rfl, by decide +kernel, rfl, by decide +kernel, by decide +kernel⟩
def vb__law_pair_ring : { l : List Stmt // defBody (top 23) = l } := ⟨_, by conv => lhs; whnf⟩
def b__law_pair_ring : List Stmt := vb__law_pair_ring.1
def vc__law_pair_ring : { l : Scope // defScope (top 23) = l } := ⟨_, by conv => lhs; whnf⟩
def c__law_pair_ring : Scope := vc__law_pair_ring.1
def a__law_pair_ring : Arguments := defArgs (top 23)
theorem sc__law_pair_ring : FnScope ["one", "two"] ["one", "two"] c__law_pair_ring := ⟨rfl, rfl, rfl, by decide +kernel, rfl, by decide +kernel, by decide +kernel⟩
def vb__law_way : { l : List Stmt // defBody (top 24) = l } := ⟨_, by conv => lhs; whnf⟩
def b__law_way : List Stmt := vb__law_way.1
def vc__law_way : { l : Scope // defScope (top 24) = l } := ⟨_, by conv => lhs; whnf⟩
def c__law_way : Scope := vc__law_way.1
def a__law_way : Arguments := defArgs (top 24)
theorem sc__law_way : FnScope ["ring", "step", "x", "y", "found", "later", "i", "j"] ["ring", "step"] c__law_way := ⟨rfl, rfl, rfl, by decide +kernel, rfl, by decide +kernel, by decide +kernel⟩
def vb_law : { l : List Stmt // defBody (top 27) = l } := ⟨_, by conv => lhs; whnf⟩
def b_law : List Stmt := vb_law.1
def vc_law : { l : Scope // defScope (top 27) = l } := ⟨_, by conv => lhs; whnf⟩
def c_law : Scope := vc_law.1
def a_law : Arguments := defArgs (top 27)
theorem sc_law : FnScope ["script", "pen", "turn", "rule", "ring", "step", "owed", "way", "cells", "shift", "free", "told", "pair"] ["script"] c_law := ⟨rfl, rfl, rfl, by decide +kernel, rfl, by decide +kernel, by decide +kernel⟩
section
variable {P : Program} {w : World} {K : PySem.W.Frag} {mg : Str → Option Value} {base : Heap} {cl : Nat → Addr}
theorem ok__law_pen {f : Addr} {fd : FuncData} (D : FunD K "_law_pen" "_law_pen" a__law_pen b__law_pen c__law_pen [] [] f fd) (h_list : mg "list" = none) : DFn P w K mg base 1 f fd ["script"] (spD ⟨K, cl⟩ (lent [0]) 1 m__law_pen) :=
  fun_of D sc__law_pen (lent_lt (by decide)) fun cd A out s H E hr hgd => by
    have hN := sc__law_pen.nd
    unfold m__law_pen
    show DSs _ _ _ _ vb__law_pen.1 _
    refine ds_one ?_
    refine ds_retO ?_
    refine do_lst ?_
    refine dtl_cons ?_ ?_
    refine do_ofE ?_
    exact de_scr _ rfl (by assumption)
    refine dtl_cons ?_ ?_
    refine do_ofE ?_
    exact de_int
    refine dtl_cons ?_ ?_
    refine do_ofE ?_
    exact de_int
    exact dtl_nil
theorem fun__law_pen {f : Addr} {fd : FuncData} (D : FunD K "_law_pen" "_law_pen" a__law_pen b__law_pen c__law_pen [] [] f fd) (hg : mg "_law_pen" = some (.ref f)) (h_list : mg "list" = none) : Fun P w K mg base cl "_law_pen" 1 1 (lent [0]) m__law_pen :=
  ⟨f, fd, _, ok__law_pen D h_list, hg, D.kp, D.bindsN fun _ _ _ _ _ _ us hl => match us, hl with | [_], _ => rfl⟩
theorem ok__law_fresh {f : Addr} {fd : FuncData} (D : FunD K "_law_fresh" "_law_fresh" a__law_fresh b__law_fresh c__law_fresh [] [] f fd) (h_range : mg "range" = none) (h_int : mg "int" = none) (h_len : mg "len" = none) : DFn P w K mg base 1 f fd ["pen"] (spD ⟨K, cl⟩ (lent [0]) 1 m__law_fresh) :=
  fun_of D sc__law_fresh (lent_lt (by decide)) fun cd A out s H E hr hgd => by
    have hN := sc__law_fresh.nd
    unfold m__law_fresh
    show DSs _ _ _ _ vb__law_fresh.1 _
    refine ds_cons ?_ ?_
    first | refine ds_par rfl (by assumption) rfl rfl rfl rfl (by decide) rfl rfl ?_ (by rfl) | refine ds_parG rfl (by rfl) (by decide) ?_ (dns_cons (by assumption) rfl (by first | exact Or.inl rfl | exact Or.inr rfl) (dns_cons (by assumption) rfl (by first | exact Or.inl rfl | exact Or.inr rfl) dns_nil))
    refine dtl_cons ?_ ?_
    refine do_ofE ?_
    refine de_ixP _ ?_
    exact de_int
    refine dtl_cons ?_ ?_
    refine do_ofE ?_
    refine de_ixP _ ?_
    exact de_int
    exact dtl_nil
    refine ds_cons ?_ ?_
    refine ds_setIx _ ?_ ?_
    refine do_ofE ?_
    refine add_ok ?_ ?_
    exact de_var _
    exact de_int
    exact de_int
    refine ds_cons ?_ ?_
    refine ds_set (by assumption) rfl rfl (by first | exact Or.inl rfl | exact Or.inr rfl) ?_
    refine de_if ?_ ?_ ?_
    refine dt_cmp ?_ ?_ ?_
    exact c_ne (hu_of (by assumption))
    refine dl_fr ?_
    exact de_var _
    refine dl_fr ?_
    refine de_lst ?_
    exact da_nil
    refine de_ix ?_ ?_
    exact de_var _
    refine mod_ok ?_ ?_
    refine de_callTy bi_int rfl (by assumption) bb_int ?_
    refine da_cons ?_ ?_
    exact de_var _
    exact da_nil
    refine de_len ?_ rfl (by assumption)
    refine dl_fr ?_
    exact de_var _
    exact de_int
    refine ds_cons ?_ ?_
    refine ds_if ?_ ?_ ?_
    refine dt_w ?_
    refine dw_and2 ?_ ?_
    refine dt_cmp ?_ ?_ ?_
    exact c_lt (hu_of (by assumption))
    refine dl_fr ?_
    exact de_var _
    refine dl_fr ?_
    refine de_len ?_ rfl (by assumption)
    refine dl_fr ?_
    exact de_var _
    refine dt_cmp ?_ ?_ ?_
    exact c_ge (hu_of (by assumption))
    refine dl_fr ?_
    exact de_var _
    refine dl_fr ?_
    refine pow_ok ?_ ?_
    exact de_int
    exact de_int
    refine ds_one ?_
    refine ds_ret ?_
    refine sub_ok ?_ ?_
    exact de_var _
    refine pow_ok ?_ ?_
    exact de_int
    exact de_int
    exact ds_nil
    refine ds_cons ?_ ?_
    refine ds_set (by assumption) rfl rfl (by first | exact Or.inl rfl | exact Or.inr rfl) ?_
    exact de_int
    refine ds_cons ?_ ?_
    refine ds_set (by assumption) rfl rfl (by first | exact Or.inl rfl | exact Or.inr rfl) ?_
    refine mod_ok ?_ ?_
    refine de_callTy bi_int rfl (by assumption) bb_int ?_
    refine da_cons ?_ ?_
    refine add_ok ?_ ?_
    refine add_ok ?_ ?_
    refine mul_ok ?_ ?_
    exact de_var _
    exact de_int
    refine mul_ok ?_ ?_
    exact de_int
    exact de_var _
    exact de_int
    exact da_nil
    exact de_var _
    refine ds_cons ?_ ?_
    refine ds_set (by assumption) rfl rfl (by first | exact Or.inl rfl | exact Or.inr rfl) ?_
    exact de_var _
    refine ds_cons ?_ ?_
    refine ds_for (by first | assumption | exact ownB) rfl ?_ ?_ ?_
    refine di_range1 rfl (by assumption) ?_
    refine da_cons ?_ ?_
    exact de_int
    exact da_nil
    exact dg_name (by assumption) rfl rfl (by first | exact Or.inl rfl | exact Or.inr rfl)
    refine ds_cons ?_ ?_
    refine ds_set (by assumption) rfl rfl (by first | exact Or.inl rfl | exact Or.inr rfl) ?_
    refine mod_ok ?_ ?_
    refine de_callTy bi_int rfl (by assumption) bb_int ?_
    refine da_cons ?_ ?_
    refine add_ok ?_ ?_
    refine add_ok ?_ ?_
    refine mul_ok ?_ ?_
    exact de_var _
    exact de_var _
    refine mul_ok ?_ ?_
    refine mul_ok ?_ ?_
    exact de_int
    refine add_ok ?_ ?_
    exact de_var _
    exact de_int
    refine add_ok ?_ ?_
    exact de_var _
    exact de_int
    exact de_var _
    exact da_nil
    exact de_var _
    refine ds_one ?_
    refine ds_set (by assumption) rfl rfl (by first | exact Or.inl rfl | exact Or.inr rfl) ?_
    refine add_ok ?_ ?_
    refine mul_ok ?_ ?_
    exact de_var _
    exact de_var _
    exact de_var _
    refine ds_one ?_
    refine ds_ret ?_
    exact de_var _
theorem fun__law_fresh {f : Addr} {fd : FuncData} (D : FunD K "_law_fresh" "_law_fresh" a__law_fresh b__law_fresh c__law_fresh [] [] f fd) (hg : mg "_law_fresh" = some (.ref f)) (h_range : mg "range" = none) (h_int : mg "int" = none) (h_len : mg "len" = none) : Fun P w K mg base cl "_law_fresh" 1 1 (lent [0]) m__law_fresh :=
  ⟨f, fd, _, ok__law_fresh D h_range h_int h_len, hg, D.kp, D.bindsN fun _ _ _ _ _ _ us hl => match us, hl with | [_], _ => rfl⟩
theorem ok__law_draw {f : Addr} {fd : FuncData} (D : FunD K "_law_draw" "_law_draw" a__law_draw b__law_draw c__law_draw [] [] f fd) (h_int : mg "int" = none) (F__law_fresh : Fun P w K mg base cl "_law_fresh" 1 1 (lent [0]) m__law_fresh) : DFn P w K mg base 2 f fd ["pen", "bound"] (spD ⟨K, cl⟩ (lent [0]) 2 m__law_draw) :=
  fun_of D sc__law_draw (lent_lt (by decide)) fun cd A out s H E hr hgd => by
    have hN := sc__law_draw.nd
    unfold m__law_draw
    show DSs _ _ _ _ vb__law_draw.1 _
    refine ds_cons ?_ ?_
    refine ds_if ?_ ?_ ?_
    refine dt_cmp ?_ ?_ ?_
    exact c_lt (hu_of (by assumption))
    refine dl_fr ?_
    refine de_ixP _ ?_
    exact de_int
    refine dl_fr ?_
    exact de_var _
    refine ds_one ?_
    refine ds_setIx _ ?_ ?_
    refine do_ofE ?_
    refine de_ofO ?_
    refine do_fun (by assumption) (by assumption) (by decide) (by assumption) rfl (by first | exact takes0 | exact takesB | assumption) ?_
    refine dls_cons ?_ ?_
    exact dl_pkV _
    exact dls_nil
    exact de_int
    exact ds_nil
    refine ds_cons ?_ ?_
    refine ds_set (by assumption) rfl rfl (by first | exact Or.inl rfl | exact Or.inr rfl) ?_
    refine mod_ok ?_ ?_
    refine de_callTy bi_int rfl (by assumption) bb_int ?_
    refine da_cons ?_ ?_
    refine de_ixP _ ?_
    exact de_int
    exact da_nil
    exact de_var _
    refine ds_cons ?_ ?_
    refine ds_setIx _ ?_ ?_
    refine do_ofE ?_
    refine fdiv_ok ?_ ?_
    refine de_callTy bi_int rfl (by assumption) bb_int ?_
    refine da_cons ?_ ?_
    refine de_ixP _ ?_
    exact de_int
    exact da_nil
    exact de_var _
    exact de_int
    refine ds_one ?_
    refine ds_ret ?_
    exact de_var _
theorem fun__law_draw {f : Addr} {fd : FuncData} (D : FunD K "_law_draw" "_law_draw" a__law_draw b__law_draw c__law_draw [] [] f fd) (hg : mg "_law_draw" = some (.ref f)) (h_int : mg "int" = none) (F__law_fresh : Fun P w K mg base cl "_law_fresh" 1 1 (lent [0]) m__law_fresh) : Fun P w K mg base cl "_law_draw" 2 2 (lent [0]) m__law_draw :=
  ⟨f, fd, _, ok__law_draw D h_int F__law_fresh, hg, D.kp, D.bindsN fun _ _ _ _ _ _ us hl => match us, hl with | [_, _], _ => rfl⟩
theorem ok__law_one_of {f : Addr} {fd : FuncData} (D : FunD K "_law_one_of" "_law_one_of" a__law_one_of b__law_one_of c__law_one_of [] [] f fd) (h_len : mg "len" = none) (F__law_draw : Fun P w K mg base cl "_law_draw" 2 2 (lent [0]) m__law_draw) : DFn P w K mg base 3 f fd ["pen", "rows"] (spD ⟨K, cl⟩ (lent [0]) 2 m__law_one_of) :=
  fun_of D sc__law_one_of (lent_lt (by decide)) fun cd A out s H E hr hgd => by
    have hN := sc__law_one_of.nd
    unfold m__law_one_of
    show DSs _ _ _ _ vb__law_one_of.1 _
    refine ds_one ?_
    refine ds_ret ?_
    refine de_ix ?_ ?_
    exact de_var _
    refine de_ofO ?_
    refine do_fun (by assumption) (by assumption) (by decide) (by assumption) rfl (by first | exact takes0 | exact takesB | assumption) ?_
    refine dls_cons ?_ ?_
    exact dl_pkV _
    refine dls_cons ?_ ?_
    refine dl_fr ?_
    refine de_len ?_ rfl (by assumption)
    refine dl_fr ?_
    exact de_var _
    exact dls_nil
theorem fun__law_one_of {f : Addr} {fd : FuncData} (D : FunD K "_law_one_of" "_law_one_of" a__law_one_of b__law_one_of c__law_one_of [] [] f fd) (hg : mg "_law_one_of" = some (.ref f)) (h_len : mg "len" = none) (F__law_draw : Fun P w K mg base cl "_law_draw" 2 2 (lent [0]) m__law_draw) : Fun P w K mg base cl "_law_one_of" 3 2 (lent [0]) m__law_one_of :=
  ⟨f, fd, _, ok__law_one_of D h_len F__law_draw, hg, D.kp, D.bindsN fun _ _ _ _ _ _ us hl => match us, hl with | [_, _], _ => rfl⟩
theorem ok__law_rule_of {f : Addr} {fd : FuncData} (D : FunD K "_law_rule_of" "_law_rule_of" a__law_rule_of b__law_rule_of c__law_rule_of [] [] f fd) (h_tuple : mg "tuple" = none) (h_sorted : mg "sorted" = none) (h_list : mg "list" = none) : DFn P w K mg base 1 f fd ["size", "cells"] (spD ⟨K, cl⟩ (lent []) 2 m__law_rule_of) :=
  fun_of D sc__law_rule_of (lent_lt (by decide)) fun cd A out s H E hr hgd => by
    have hN := sc__law_rule_of.nd
    unfold m__law_rule_of
    show DSs _ _ _ _ vb__law_rule_of.1 _
    refine ds_one ?_
    refine ds_ret ?_
    refine de_tup ?_
    refine da_cons ?_ ?_
    exact de_var _
    refine da_cons ?_ ?_
    refine de_callTy bi_tuple rfl (by assumption) bb_tuple ?_
    refine da_cons ?_ ?_
    refine de_lcV rfl (by assumption) ?_ (by rfl) ?_ ?_ ?_
    refine di_seq ?_
    refine de_callB (bi_sorted (hu_of (by assumption))) rfl (by assumption) bb_sorted ?_
    refine da_cons ?_ ?_
    refine de_callTy (bi_list_dict rfl) rfl (by assumption) bb_list ?_
    refine da_cons ?_ ?_
    exact de_var _
    exact da_nil
    exact da_nil
    intros
    refine dg_tup rfl ?_
    refine dgs_cons ?_ ?_
    exact dg_name (by assumption) rfl rfl (by first | exact Or.inl rfl | exact Or.inr rfl)
    refine dgs_cons ?_ ?_
    exact dg_name (by assumption) rfl rfl (by first | exact Or.inl rfl | exact Or.inr rfl)
    exact dgs_nil
    intros
    exact dts_nil
    intros
    refine de_tup ?_
    refine da_cons ?_ ?_
    exact de_var _
    refine da_cons ?_ ?_
    exact de_var _
    refine da_cons ?_ ?_
    refine de_dget (hu_of (by assumption)) ?_ ?_
    exact de_var _
    refine de_tup ?_
    refine da_cons ?_ ?_
    exact de_var _
    refine da_cons ?_ ?_
    exact de_var _
    exact da_nil
    exact da_nil
    exact da_nil
    exact da_nil
theorem fun__law_rule_of {f : Addr} {fd : FuncData} (D : FunD K "_law_rule_of" "_law_rule_of" a__law_rule_of b__law_rule_of c__law_rule_of [] [] f fd) (hg : mg "_law_rule_of" = some (.ref f)) (h_tuple : mg "tuple" = none) (h_sorted : mg "sorted" = none) (h_list : mg "list" = none) : Fun P w K mg base cl "_law_rule_of" 1 2 (lent []) m__law_rule_of :=
  ⟨f, fd, _, ok__law_rule_of D h_tuple h_sorted h_list, hg, D.kp, D.bindsN fun _ _ _ _ _ _ us hl => match us, hl with | [_, _], _ => rfl⟩
theorem ok__law_price {f : Addr} {fd : FuncData} (D : FunD K "_law_price" "_law_price" a__law_price b__law_price c__law_price [] [] f fd) (F__law_draw : Fun P w K mg base cl "_law_draw" 2 2 (lent [0]) m__law_draw) : DFn P w K mg base 3 f fd ["pen", "width"] (spD ⟨K, cl⟩ (lent [0]) 2 m__law_price) :=
  fun_of D sc__law_price (lent_lt (by decide)) fun cd A out s H E hr hgd => by
    have hN := sc__law_price.nd
    unfold m__law_price
    show DSs _ _ _ _ vb__law_price.1 _
    refine ds_one ?_
    refine ds_ret ?_
    refine sub_ok ?_ ?_
    refine de_ofO ?_
    refine do_fun (by assumption) (by assumption) (by decide) (by assumption) rfl (by first | exact takes0 | exact takesB | assumption) ?_
    refine dls_cons ?_ ?_
    exact dl_pkV _
    refine dls_cons ?_ ?_
    refine dl_fr ?_
    refine add_ok ?_ ?_
    refine mul_ok ?_ ?_
    exact de_int
    exact de_var _
    exact de_int
    exact dls_nil
    exact de_var _
theorem fun__law_price {f : Addr} {fd : FuncData} (D : FunD K "_law_price" "_law_price" a__law_price b__law_price c__law_price [] [] f fd) (hg : mg "_law_price" = some (.ref f)) (F__law_draw : Fun P w K mg base cl "_law_draw" 2 2 (lent [0]) m__law_draw) : Fun P w K mg base cl "_law_price" 3 2 (lent [0]) m__law_price :=
  ⟨f, fd, _, ok__law_price D F__law_draw, hg, D.kp, D.bindsN fun _ _ _ _ _ _ us hl => match us, hl with | [_, _], _ => rfl⟩
theorem ok__law_any_rule {f : Addr} {fd : FuncData} (D : FunD K "_law_any_rule" "_law_any_rule" a__law_any_rule b__law_any_rule c__law_any_rule [] [] f fd) (h_range : mg "range" = none) (F__law_one_of : Fun P w K mg base cl "_law_one_of" 3 2 (lent [0]) m__law_one_of) (F__law_rule_of : Fun P w K mg base cl "_law_rule_of" 1 2 (lent []) m__law_rule_of) (F__law_draw : Fun P w K mg base cl "_law_draw" 2 2 (lent [0]) m__law_draw) (F__law_price : Fun P w K mg base cl "_law_price" 3 2 (lent [0]) m__law_price) : DFn P w K mg base 4 f fd ["pen", "size"] (spD ⟨K, cl⟩ (lent [0]) 2 m__law_any_rule) :=
  fun_of D sc__law_any_rule (lent_lt (by decide)) fun cd A out s H E hr hgd => by
    have hN := sc__law_any_rule.nd
    unfold m__law_any_rule
    show DSs _ _ _ _ vb__law_any_rule.1 _
    refine ds_cons ?_ ?_
    refine ds_set (by assumption) rfl rfl (by first | exact Or.inl rfl | exact Or.inr rfl) ?_
    refine de_ofO ?_
    refine do_fun (by assumption) (by assumption) (by decide) (by assumption) rfl (by first | exact takes0 | exact takesB | assumption) ?_
    refine dls_cons ?_ ?_
    exact dl_pkV _
    refine dls_cons ?_ ?_
    refine dl_fr ?_
    refine de_lst ?_
    refine da_cons ?_ ?_
    exact de_int
    refine da_cons ?_ ?_
    exact de_int
    refine da_cons ?_ ?_
    exact de_int
    refine da_cons ?_ ?_
    exact de_int
    refine da_cons ?_ ?_
    exact de_int
    exact da_nil
    exact dls_nil
    refine ds_cons ?_ ?_
    first | refine ds_par rfl (by assumption) rfl rfl rfl rfl (by decide) rfl rfl ?_ (by rfl) | refine ds_parG rfl (by rfl) (by decide) ?_ (dns_cons (by assumption) rfl (by first | exact Or.inl rfl | exact Or.inr rfl) (dns_cons (by assumption) rfl (by first | exact Or.inl rfl | exact Or.inr rfl) dns_nil))
    refine dtl_cons ?_ ?_
    refine do_ofE ?_
    refine de_ofO ?_
    refine do_fun (by assumption) (by assumption) (by decide) (by assumption) rfl (by first | exact takes0 | exact takesB | assumption) ?_
    refine dls_cons ?_ ?_
    exact dl_pkV _
    refine dls_cons ?_ ?_
    refine dl_fr ?_
    refine de_lst ?_
    refine da_cons ?_ ?_
    exact de_int
    refine da_cons ?_ ?_
    exact de_int
    refine da_cons ?_ ?_
    exact de_int
    refine da_cons ?_ ?_
    exact de_int
    refine da_cons ?_ ?_
    exact de_int
    exact da_nil
    exact dls_nil
    refine dtl_cons ?_ ?_
    first | exact do_dT0 | exact do_dict0 rfl rfl (by assumption)
    exact dtl_nil
    refine ds_cons ?_ ?_
    refine ds_for (by first | assumption | exact ownB) rfl ?_ ?_ ?_
    refine di_range1 rfl (by assumption) ?_
    refine da_cons ?_ ?_
    exact de_var _
    exact da_nil
    exact dg_name (by assumption) rfl rfl (by first | exact Or.inl rfl | exact Or.inr rfl)
    refine ds_one ?_
    refine ds_for (by first | assumption | exact ownB) rfl ?_ ?_ ?_
    refine di_range1 rfl (by assumption) ?_
    refine da_cons ?_ ?_
    exact de_var _
    exact da_nil
    exact dg_name (by assumption) rfl rfl (by first | exact Or.inl rfl | exact Or.inr rfl)
    refine ds_one ?_
    refine ds_if ?_ ?_ ?_
    refine dt_cmp ?_ ?_ ?_
    exact c_lt (hu_of (by assumption))
    refine dl_fr ?_
    refine de_ofO ?_
    refine do_fun (by assumption) (by assumption) (by decide) (by assumption) rfl (by first | exact takes0 | exact takesB | assumption) ?_
    refine dls_cons ?_ ?_
    exact dl_pkV _
    refine dls_cons ?_ ?_
    refine dl_fr ?_
    exact de_int
    exact dls_nil
    refine dl_fr ?_
    exact de_var _
    refine ds_one ?_
    refine ds_dput _ (hu_of (by assumption)) ?_ ?_
    refine de_ofO ?_
    refine do_fun (by assumption) (by assumption) (by decide) (by assumption) rfl (by first | exact takes0 | exact takesB | assumption) ?_
    refine dls_cons ?_ ?_
    exact dl_pkV _
    refine dls_cons ?_ ?_
    refine dl_fr ?_
    exact de_var _
    exact dls_nil
    refine de_tup ?_
    refine da_cons ?_ ?_
    exact de_var _
    refine da_cons ?_ ?_
    exact de_var _
    exact da_nil
    exact ds_nil
    refine ds_one ?_
    refine ds_ret ?_
    refine de_ofO ?_
    refine do_fun (by assumption) (by assumption) (by decide) (by assumption) rfl (by first | exact takes0 | exact takesB | assumption) ?_
    refine dls_cons ?_ ?_
    refine dl_fr ?_
    exact de_var _
    refine dls_cons ?_ ?_
    refine dl_fr ?_
    exact de_var _
    exact dls_nil
theorem fun__law_any_rule {f : Addr} {fd : FuncData} (D : FunD K "_law_any_rule" "_law_any_rule" a__law_any_rule b__law_any_rule c__law_any_rule [] [] f fd) (hg : mg "_law_any_rule" = some (.ref f)) (h_range : mg "range" = none) (F__law_one_of : Fun P w K mg base cl "_law_one_of" 3 2 (lent [0]) m__law_one_of) (F__law_rule_of : Fun P w K mg base cl "_law_rule_of" 1 2 (lent []) m__law_rule_of) (F__law_draw : Fun P w K mg base cl "_law_draw" 2 2 (lent [0]) m__law_draw) (F__law_price : Fun P w K mg base cl "_law_price" 3 2 (lent [0]) m__law_price) : Fun P w K mg base cl "_law_any_rule" 4 2 (lent [0]) m__law_any_rule :=
  ⟨f, fd, _, ok__law_any_rule D h_range F__law_one_of F__law_rule_of F__law_draw F__law_price, hg, D.kp, D.bindsN fun _ _ _ _ _ _ us hl => match us, hl with | [_, _], _ => rfl⟩
theorem ok__law_line {f : Addr} {fd : FuncData} (D : FunD K "_law_line" "_law_line" a__law_line b__law_line c__law_line [] [] f fd) (h_list : mg "list" = none) (h_range : mg "range" = none) (h_len : mg "len" = none) (F__law_draw : Fun P w K mg base cl "_law_draw" 2 2 (lent [0]) m__law_draw) : DFn P w K mg base 3 f fd ["pen", "size"] (spD ⟨K, cl⟩ (lent [0]) 2 m__law_line) :=
  fun_of D sc__law_line (lent_lt (by decide)) fun cd A out s H E hr hgd => by
    have hN := sc__law_line.nd
    unfold m__law_line
    show DSs _ _ _ _ vb__law_line.1 _
    refine ds_cons ?_ ?_
    first | refine ds_par rfl (by assumption) rfl rfl rfl rfl (by decide) rfl rfl ?_ (by rfl) | refine ds_parG rfl (by rfl) (by decide) ?_ (dns_cons (by assumption) rfl (by first | exact Or.inl rfl | exact Or.inr rfl) (dns_cons (by assumption) rfl (by first | exact Or.inl rfl | exact Or.inr rfl) dns_nil))
    refine dtl_cons ?_ ?_
    refine do_listRg1 rfl ?_ rfl (by assumption) rfl (by assumption)
    exact de_var _
    refine dtl_cons ?_ ?_
    refine do_lst ?_
    exact dtl_nil
    exact dtl_nil
    refine ds_cons ?_ ?_
    refine ds_while (by first | assumption | exact ownB) ?_ ?_
    refine dt_cmp ?_ ?_ ?_
    exact c_ne (hu_of (by assumption))
    exact dl_pkV _
    refine dl_fr ?_
    refine de_lst ?_
    exact da_nil
    refine ds_one ?_
    refine ds_expr ?_
    refine de_append _ ?_
    refine do_popAt _ ?_
    refine de_ofO ?_
    refine do_fun (by assumption) (by assumption) (by decide) (by assumption) rfl (by first | exact takes0 | exact takesB | assumption) ?_
    refine dls_cons ?_ ?_
    exact dl_pkV _
    refine dls_cons ?_ ?_
    refine dl_fr ?_
    refine de_len ?_ rfl (by assumption)
    exact dl_pkV _
    exact dls_nil
    refine ds_one ?_
    refine ds_ret ?_
    exact de_var _
theorem fun__law_line {f : Addr} {fd : FuncData} (D : FunD K "_law_line" "_law_line" a__law_line b__law_line c__law_line [] [] f fd) (hg : mg "_law_line" = some (.ref f)) (h_list : mg "list" = none) (h_range : mg "range" = none) (h_len : mg "len" = none) (F__law_draw : Fun P w K mg base cl "_law_draw" 2 2 (lent [0]) m__law_draw) : Fun P w K mg base cl "_law_line" 3 2 (lent [0]) m__law_line :=
  ⟨f, fd, _, ok__law_line D h_list h_range h_len F__law_draw, hg, D.kp, D.bindsN fun _ _ _ _ _ _ us hl => match us, hl with | [_, _], _ => rfl⟩
theorem ok__law_ring_rule {f : Addr} {fd : FuncData} (D : FunD K "_law_ring_rule" "_law_ring_rule" a__law_ring_rule b__law_ring_rule c__law_ring_rule [] [] f fd) (h_range : mg "range" = none) (F__law_rule_of : Fun P w K mg base cl "_law_rule_of" 1 2 (lent []) m__law_rule_of) (F__law_draw : Fun P w K mg base cl "_law_draw" 2 2 (lent [0]) m__law_draw) (F__law_line : Fun P w K mg base cl "_law_line" 3 2 (lent [0]) m__law_line) (F__law_one_of : Fun P w K mg base cl "_law_one_of" 3 2 (lent [0]) m__law_one_of) (F__law_price : Fun P w K mg base cl "_law_price" 3 2 (lent [0]) m__law_price) : DFn P w K mg base 4 f fd ["pen", "size"] (spD ⟨K, cl⟩ (lent [0]) 2 m__law_ring_rule) :=
  fun_of D sc__law_ring_rule (lent_lt (by decide)) fun cd A out s H E hr hgd => by
    have hN := sc__law_ring_rule.nd
    unfold m__law_ring_rule
    show DSs _ _ _ _ vb__law_ring_rule.1 _
    refine ds_cons ?_ ?_
    refine ds_set (by assumption) rfl rfl (by first | exact Or.inl rfl | exact Or.inr rfl) ?_
    refine add_ok ?_ ?_
    exact de_int
    refine de_ofO ?_
    refine do_fun (by assumption) (by assumption) (by decide) (by assumption) rfl (by first | exact takes0 | exact takesB | assumption) ?_
    refine dls_cons ?_ ?_
    exact dl_pkV _
    refine dls_cons ?_ ?_
    refine dl_fr ?_
    refine sub_ok ?_ ?_
    exact de_var _
    exact de_int
    exact dls_nil
    refine ds_cons ?_ ?_
    first | refine ds_par rfl (by assumption) rfl rfl rfl rfl (by decide) rfl rfl ?_ (by rfl) | refine ds_parG rfl (by rfl) (by decide) ?_ (dns_cons (by assumption) rfl (by first | exact Or.inl rfl | exact Or.inr rfl) (dns_cons (by assumption) rfl (by first | exact Or.inl rfl | exact Or.inr rfl) dns_nil))
    refine dtl_cons ?_ ?_
    refine do_ofE ?_
    refine de_ofO ?_
    refine do_fun (by assumption) (by assumption) (by decide) (by assumption) rfl (by first | exact takes0 | exact takesB | assumption) ?_
    refine dls_cons ?_ ?_
    exact dl_pkV _
    refine dls_cons ?_ ?_
    refine dl_fr ?_
    exact de_var _
    exact dls_nil
    refine dtl_cons ?_ ?_
    refine do_ofE ?_
    refine de_ofO ?_
    refine do_fun (by assumption) (by assumption) (by decide) (by assumption) rfl (by first | exact takes0 | exact takesB | assumption) ?_
    refine dls_cons ?_ ?_
    exact dl_pkV _
    refine dls_cons ?_ ?_
    refine dl_fr ?_
    exact de_var _
    exact dls_nil
    exact dtl_nil
    refine ds_cons ?_ ?_
    first | refine ds_par rfl (by assumption) rfl rfl rfl rfl (by decide) rfl rfl ?_ (by rfl) | refine ds_parG rfl (by rfl) (by decide) ?_ (dns_cons (by assumption) rfl (by first | exact Or.inl rfl | exact Or.inr rfl) (dns_cons (by assumption) rfl (by first | exact Or.inl rfl | exact Or.inr rfl) dns_nil))
    refine dtl_cons ?_ ?_
    refine do_ofE ?_
    refine de_ofO ?_
    refine do_fun (by assumption) (by assumption) (by decide) (by assumption) rfl (by first | exact takes0 | exact takesB | assumption) ?_
    refine dls_cons ?_ ?_
    exact dl_pkV _
    refine dls_cons ?_ ?_
    refine dl_fr ?_
    refine de_lst ?_
    refine da_cons ?_ ?_
    exact de_int
    refine da_cons ?_ ?_
    exact de_int
    refine da_cons ?_ ?_
    exact de_int
    exact da_nil
    exact dls_nil
    refine dtl_cons ?_ ?_
    first | exact do_dT0 | exact do_dict0 rfl rfl (by assumption)
    exact dtl_nil
    refine ds_cons ?_ ?_
    refine ds_for (by first | assumption | exact ownB) rfl ?_ ?_ ?_
    refine di_range1 rfl (by assumption) ?_
    refine da_cons ?_ ?_
    exact de_var _
    exact da_nil
    exact dg_name (by assumption) rfl rfl (by first | exact Or.inl rfl | exact Or.inr rfl)
    refine ds_cons ?_ ?_
    refine ds_dput _ (hu_of (by assumption)) ?_ ?_
    refine de_ofO ?_
    refine do_fun (by assumption) (by assumption) (by decide) (by assumption) rfl (by first | exact takes0 | exact takesB | assumption) ?_
    refine dls_cons ?_ ?_
    exact dl_pkV _
    refine dls_cons ?_ ?_
    refine dl_fr ?_
    exact de_var _
    exact dls_nil
    refine de_tup ?_
    refine da_cons ?_ ?_
    refine de_ix ?_ ?_
    exact de_var _
    exact de_var _
    refine da_cons ?_ ?_
    refine de_ix ?_ ?_
    exact de_var _
    exact de_var _
    exact da_nil
    refine ds_one ?_
    refine ds_dput _ (hu_of (by assumption)) ?_ ?_
    refine de_ofO ?_
    refine do_fun (by assumption) (by assumption) (by decide) (by assumption) rfl (by first | exact takes0 | exact takesB | assumption) ?_
    refine dls_cons ?_ ?_
    exact dl_pkV _
    refine dls_cons ?_ ?_
    refine dl_fr ?_
    exact de_var _
    exact dls_nil
    refine de_tup ?_
    refine da_cons ?_ ?_
    refine de_ix ?_ ?_
    exact de_var _
    exact de_var _
    refine da_cons ?_ ?_
    refine de_ix ?_ ?_
    exact de_var _
    refine mod_ok ?_ ?_
    refine add_ok ?_ ?_
    exact de_var _
    exact de_int
    exact de_var _
    exact da_nil
    refine ds_cons ?_ ?_
    refine ds_for (by first | assumption | exact ownB) rfl ?_ ?_ ?_
    refine di_range1 rfl (by assumption) ?_
    refine da_cons ?_ ?_
    refine de_ofO ?_
    refine do_fun (by assumption) (by assumption) (by decide) (by assumption) rfl (by first | exact takes0 | exact takesB | assumption) ?_
    refine dls_cons ?_ ?_
    exact dl_pkV _
    refine dls_cons ?_ ?_
    refine dl_fr ?_
    exact de_int
    exact dls_nil
    exact da_nil
    exact dg_name (by assumption) rfl rfl (by first | exact Or.inl rfl | exact Or.inr rfl)
    refine ds_one ?_
    refine ds_dput _ (hu_of (by assumption)) ?_ ?_
    refine de_ofO ?_
    refine do_fun (by assumption) (by assumption) (by decide) (by assumption) rfl (by first | exact takes0 | exact takesB | assumption) ?_
    refine dls_cons ?_ ?_
    exact dl_pkV _
    refine dls_cons ?_ ?_
    refine dl_fr ?_
    exact de_var _
    exact dls_nil
    refine de_tup ?_
    refine da_cons ?_ ?_
    refine de_ofO ?_
    refine do_fun (by assumption) (by assumption) (by decide) (by assumption) rfl (by first | exact takes0 | exact takesB | assumption) ?_
    refine dls_cons ?_ ?_
    exact dl_pkV _
    refine dls_cons ?_ ?_
    refine dl_fr ?_
    exact de_var _
    exact dls_nil
    refine da_cons ?_ ?_
    refine de_ofO ?_
    refine do_fun (by assumption) (by assumption) (by decide) (by assumption) rfl (by first | exact takes0 | exact takesB | assumption) ?_
    refine dls_cons ?_ ?_
    exact dl_pkV _
    refine dls_cons ?_ ?_
    refine dl_fr ?_
    exact de_var _
    exact dls_nil
    exact da_nil
    refine ds_one ?_
    refine ds_ret ?_
    refine de_ofO ?_
    refine do_fun (by assumption) (by assumption) (by decide) (by assumption) rfl (by first | exact takes0 | exact takesB | assumption) ?_
    refine dls_cons ?_ ?_
    refine dl_fr ?_
    exact de_var _
    refine dls_cons ?_ ?_
    refine dl_fr ?_
    exact de_var _
    exact dls_nil
theorem fun__law_ring_rule {f : Addr} {fd : FuncData} (D : FunD K "_law_ring_rule" "_law_ring_rule" a__law_ring_rule b__law_ring_rule c__law_ring_rule [] [] f fd) (hg : mg "_law_ring_rule" = some (.ref f)) (h_range : mg "range" = none) (F__law_rule_of : Fun P w K mg base cl "_law_rule_of" 1 2 (lent []) m__law_rule_of) (F__law_draw : Fun P w K mg base cl "_law_draw" 2 2 (lent [0]) m__law_draw) (F__law_line : Fun P w K mg base cl "_law_line" 3 2 (lent [0]) m__law_line) (F__law_one_of : Fun P w K mg base cl "_law_one_of" 3 2 (lent [0]) m__law_one_of) (F__law_price : Fun P w K mg base cl "_law_price" 3 2 (lent [0]) m__law_price) : Fun P w K mg base cl "_law_ring_rule" 4 2 (lent [0]) m__law_ring_rule :=
  ⟨f, fd, _, ok__law_ring_rule D h_range F__law_rule_of F__law_draw F__law_line F__law_one_of F__law_price, hg, D.kp, D.bindsN fun _ _ _ _ _ _ us hl => match us, hl with | [_, _], _ => rfl⟩
theorem ok__law_calm_rule {f : Addr} {fd : FuncData} (D : FunD K "_law_calm_rule" "_law_calm_rule" a__law_calm_rule b__law_calm_rule c__law_calm_rule [] [] f fd) (h_sorted : mg "sorted" = none) (h_range : mg "range" = none) (F__law_rule_of : Fun P w K mg base cl "_law_rule_of" 1 2 (lent []) m__law_rule_of) (F__law_line : Fun P w K mg base cl "_law_line" 3 2 (lent [0]) m__law_line) (F__law_one_of : Fun P w K mg base cl "_law_one_of" 3 2 (lent [0]) m__law_one_of) (F__law_price : Fun P w K mg base cl "_law_price" 3 2 (lent [0]) m__law_price) (F__law_draw : Fun P w K mg base cl "_law_draw" 2 2 (lent [0]) m__law_draw) : DFn P w K mg base 4 f fd ["pen", "size"] (spD ⟨K, cl⟩ (lent [0]) 2 m__law_calm_rule) :=
  fun_of D sc__law_calm_rule (lent_lt (by decide)) fun cd A out s H E hr hgd => by
    have hN := sc__law_calm_rule.nd
    unfold m__law_calm_rule
    show DSs _ _ _ _ vb__law_calm_rule.1 _
    refine ds_cons ?_ ?_
    first | refine ds_par rfl (by assumption) rfl rfl rfl rfl (by decide) rfl rfl ?_ (by rfl) | refine ds_parG rfl (by rfl) (by decide) ?_ (dns_cons (by assumption) rfl (by first | exact Or.inl rfl | exact Or.inr rfl) (dns_cons (by assumption) rfl (by first | exact Or.inl rfl | exact Or.inr rfl) dns_nil))
    refine dtl_cons ?_ ?_
    refine do_ofE ?_
    refine de_ofO ?_
    refine do_fun (by assumption) (by assumption) (by decide) (by assumption) rfl (by first | exact takes0 | exact takesB | assumption) ?_
    refine dls_cons ?_ ?_
    exact dl_pkV _
    refine dls_cons ?_ ?_
    refine dl_fr ?_
    exact de_var _
    exact dls_nil
    refine dtl_cons ?_ ?_
    refine do_ofE ?_
    refine de_ofO ?_
    refine do_fun (by assumption) (by assumption) (by decide) (by assumption) rfl (by first | exact takes0 | exact takesB | assumption) ?_
    refine dls_cons ?_ ?_
    exact dl_pkV _
    refine dls_cons ?_ ?_
    refine dl_fr ?_
    exact de_var _
    exact dls_nil
    exact dtl_nil
    refine ds_cons ?_ ?_
    refine ds_set (by assumption) rfl rfl (by first | exact Or.inl rfl | exact Or.inr rfl) ?_
    refine de_callB (bi_sorted (hu_of (by assumption))) rfl (by assumption) bb_sorted ?_
    refine da_cons ?_ ?_
    refine de_lcV rfl (by assumption) ?_ (by rfl) ?_ ?_ ?_
    refine di_range1 rfl (by assumption) ?_
    refine da_cons ?_ ?_
    exact de_var _
    exact da_nil
    intros
    exact dg_name (by assumption) rfl rfl (by first | exact Or.inl rfl | exact Or.inr rfl)
    intros
    exact dts_nil
    intros
    refine de_ofO ?_
    refine do_fun (by assumption) (by assumption) (by decide) (by assumption) rfl (by first | exact takes0 | exact takesB | assumption) ?_
    refine dls_cons ?_ ?_
    exact dl_pkV _
    refine dls_cons ?_ ?_
    refine dl_fr ?_
    refine add_ok ?_ ?_
    exact de_var _
    exact de_int
    exact dls_nil
    exact da_nil
    refine ds_cons ?_ ?_
    first | refine ds_par3 rfl (by assumption) rfl rfl rfl rfl rfl rfl (by decide) (by decide) (by decide) rfl rfl rfl ?_ (by rfl) | refine ds_parG rfl (by rfl) (by decide) ?_ (dns_cons (by assumption) rfl (by first | exact Or.inl rfl | exact Or.inr rfl) (dns_cons (by assumption) rfl (by first | exact Or.inl rfl | exact Or.inr rfl) (dns_cons (by assumption) rfl (by first | exact Or.inl rfl | exact Or.inr rfl) dns_nil)))
    refine dtl_cons ?_ ?_
    refine do_ofE ?_
    refine de_ofO ?_
    refine do_fun (by assumption) (by assumption) (by decide) (by assumption) rfl (by first | exact takes0 | exact takesB | assumption) ?_
    refine dls_cons ?_ ?_
    exact dl_pkV _
    refine dls_cons ?_ ?_
    refine dl_fr ?_
    refine de_lst ?_
    refine da_cons ?_ ?_
    exact de_int
    refine da_cons ?_ ?_
    exact de_int
    refine da_cons ?_ ?_
    exact de_int
    exact da_nil
    exact dls_nil
    refine dtl_cons ?_ ?_
    refine do_ofE ?_
    refine de_ofO ?_
    refine do_fun (by assumption) (by assumption) (by decide) (by assumption) rfl (by first | exact takes0 | exact takesB | assumption) ?_
    refine dls_cons ?_ ?_
    exact dl_pkV _
    refine dls_cons ?_ ?_
    refine dl_fr ?_
    refine de_lst ?_
    refine da_cons ?_ ?_
    exact de_int
    refine da_cons ?_ ?_
    exact de_int
    refine da_cons ?_ ?_
    exact de_int
    refine da_cons ?_ ?_
    exact de_int
    exact da_nil
    exact dls_nil
    refine dtl_cons ?_ ?_
    first | exact do_dT0 | exact do_dict0 rfl rfl (by assumption)
    exact dtl_nil
    refine ds_cons ?_ ?_
    first | refine ds_setLcV rfl rfl rfl (by rfl) rfl (by assumption) ?_ (by rfl) ?_ ?_ ?_ | refine ds_set (by assumption) rfl rfl (by first | exact Or.inl rfl | exact Or.inr rfl) (de_lcV rfl (by assumption) ?_ (by rfl) ?_ ?_ ?_)
    refine di_range1 rfl (by assumption) ?_
    refine da_cons ?_ ?_
    exact de_var _
    exact da_nil
    intros
    exact dg_name (by assumption) rfl rfl (by first | exact Or.inl rfl | exact Or.inr rfl)
    intros
    exact dts_nil
    intros
    refine de_ofO ?_
    refine do_fun (by assumption) (by assumption) (by decide) (by assumption) rfl (by first | exact takes0 | exact takesB | assumption) ?_
    refine dls_cons ?_ ?_
    exact dl_pkV _
    refine dls_cons ?_ ?_
    refine dl_fr ?_
    exact de_var _
    exact dls_nil
    refine ds_cons ?_ ?_
    first | refine ds_setLcV rfl rfl rfl (by rfl) rfl (by assumption) ?_ (by rfl) ?_ ?_ ?_ | refine ds_set (by assumption) rfl rfl (by first | exact Or.inl rfl | exact Or.inr rfl) (de_lcV rfl (by assumption) ?_ (by rfl) ?_ ?_ ?_)
    refine di_range1 rfl (by assumption) ?_
    refine da_cons ?_ ?_
    exact de_var _
    exact da_nil
    intros
    exact dg_name (by assumption) rfl rfl (by first | exact Or.inl rfl | exact Or.inr rfl)
    intros
    exact dts_nil
    intros
    refine de_ofO ?_
    refine do_fun (by assumption) (by assumption) (by decide) (by assumption) rfl (by first | exact takes0 | exact takesB | assumption) ?_
    refine dls_cons ?_ ?_
    exact dl_pkV _
    refine dls_cons ?_ ?_
    refine dl_fr ?_
    exact de_var _
    exact dls_nil
    refine ds_cons ?_ ?_
    refine ds_for (by first | assumption | exact ownB) rfl ?_ ?_ ?_
    refine di_range1 rfl (by assumption) ?_
    refine da_cons ?_ ?_
    exact de_var _
    exact da_nil
    exact dg_name (by assumption) rfl rfl (by first | exact Or.inl rfl | exact Or.inr rfl)
    refine ds_one ?_
    refine ds_for (by first | assumption | exact ownB) rfl ?_ ?_ ?_
    refine di_range1 rfl (by assumption) ?_
    refine da_cons ?_ ?_
    refine de_ix ?_ ?_
    exact de_var _
    exact de_var _
    exact da_nil
    exact dg_name (by assumption) rfl rfl (by first | exact Or.inl rfl | exact Or.inr rfl)
    refine ds_cons ?_ ?_
    refine ds_set (by assumption) rfl rfl (by first | exact Or.inl rfl | exact Or.inr rfl) ?_
    refine sub_ok ?_ ?_
    refine add_ok ?_ ?_
    refine de_ix ?_ ?_
    exact de_var _
    exact de_var _
    refine de_ix ?_ ?_
    exact de_var _
    exact de_var _
    refine mul_ok ?_ ?_
    refine mul_ok ?_ ?_
    exact de_var _
    exact de_var _
    exact de_var _
    refine ds_one ?_
    refine ds_dput _ (hu_of (by assumption)) ?_ ?_
    exact de_var _
    refine de_tup ?_
    refine da_cons ?_ ?_
    refine de_ix ?_ ?_
    exact de_var _
    exact de_var _
    refine da_cons ?_ ?_
    refine de_ix ?_ ?_
    exact de_var _
    exact de_var _
    exact da_nil
    refine ds_one ?_
    refine ds_ret ?_
    refine de_ofO ?_
    refine do_fun (by assumption) (by assumption) (by decide) (by assumption) rfl (by first | exact takes0 | exact takesB | assumption) ?_
    refine dls_cons ?_ ?_
    refine dl_fr ?_
    exact de_var _
    refine dls_cons ?_ ?_
    refine dl_fr ?_
    exact de_var _
    exact dls_nil
theorem fun__law_calm_rule {f : Addr} {fd : FuncData} (D : FunD K "_law_calm_rule" "_law_calm_rule" a__law_calm_rule b__law_calm_rule c__law_calm_rule [] [] f fd) (hg : mg "_law_calm_rule" = some (.ref f)) (h_sorted : mg "sorted" = none) (h_range : mg "range" = none) (F__law_rule_of : Fun P w K mg base cl "_law_rule_of" 1 2 (lent []) m__law_rule_of) (F__law_line : Fun P w K mg base cl "_law_line" 3 2 (lent [0]) m__law_line) (F__law_one_of : Fun P w K mg base cl "_law_one_of" 3 2 (lent [0]) m__law_one_of) (F__law_price : Fun P w K mg base cl "_law_price" 3 2 (lent [0]) m__law_price) (F__law_draw : Fun P w K mg base cl "_law_draw" 2 2 (lent [0]) m__law_draw) : Fun P w K mg base cl "_law_calm_rule" 4 2 (lent [0]) m__law_calm_rule :=
  ⟨f, fd, _, ok__law_calm_rule D h_sorted h_range F__law_rule_of F__law_line F__law_one_of F__law_price F__law_draw, hg, D.kp, D.bindsN fun _ _ _ _ _ _ us hl => match us, hl with | [_, _], _ => rfl⟩
theorem ok__law_rule {f : Addr} {fd : FuncData} (D : FunD K "_law_rule" "_law_rule" a__law_rule b__law_rule c__law_rule [] [] f fd) (F__law_draw : Fun P w K mg base cl "_law_draw" 2 2 (lent [0]) m__law_draw) (F__law_any_rule : Fun P w K mg base cl "_law_any_rule" 4 2 (lent [0]) m__law_any_rule) (F__law_ring_rule : Fun P w K mg base cl "_law_ring_rule" 4 2 (lent [0]) m__law_ring_rule) (F__law_calm_rule : Fun P w K mg base cl "_law_calm_rule" 4 2 (lent [0]) m__law_calm_rule) : DFn P w K mg base 5 f fd ["pen", "size"] (spD ⟨K, cl⟩ (lent [0]) 2 m__law_rule) :=
  fun_of D sc__law_rule (lent_lt (by decide)) fun cd A out s H E hr hgd => by
    have hN := sc__law_rule.nd
    unfold m__law_rule
    show DSs _ _ _ _ vb__law_rule.1 _
    refine ds_cons ?_ ?_
    refine ds_set (by assumption) rfl rfl (by first | exact Or.inl rfl | exact Or.inr rfl) ?_
    refine de_ofO ?_
    refine do_fun (by assumption) (by assumption) (by decide) (by assumption) rfl (by first | exact takes0 | exact takesB | assumption) ?_
    refine dls_cons ?_ ?_
    exact dl_pkV _
    refine dls_cons ?_ ?_
    refine dl_fr ?_
    exact de_int
    exact dls_nil
    refine ds_cons ?_ ?_
    refine ds_if ?_ ?_ ?_
    refine dt_cmp ?_ ?_ ?_
    exact c_eq (hu_of (by assumption))
    refine dl_fr ?_
    exact de_var _
    refine dl_fr ?_
    exact de_int
    refine ds_one ?_
    refine ds_ret ?_
    refine de_ofO ?_
    refine do_fun (by assumption) (by assumption) (by decide) (by assumption) rfl (by first | exact takes0 | exact takesB | assumption) ?_
    refine dls_cons ?_ ?_
    exact dl_pkV _
    refine dls_cons ?_ ?_
    refine dl_fr ?_
    exact de_var _
    exact dls_nil
    exact ds_nil
    refine ds_one ?_
    refine ds_ret ?_
    refine de_if ?_ ?_ ?_
    refine dt_cmp ?_ ?_ ?_
    exact c_eq (hu_of (by assumption))
    refine dl_fr ?_
    exact de_var _
    refine dl_fr ?_
    exact de_int
    refine de_ofO ?_
    refine do_fun (by assumption) (by assumption) (by decide) (by assumption) rfl (by first | exact takes0 | exact takesB | assumption) ?_
    refine dls_cons ?_ ?_
    exact dl_pkV _
    refine dls_cons ?_ ?_
    refine dl_fr ?_
    exact de_var _
    exact dls_nil
    refine de_ofO ?_
    refine do_fun (by assumption) (by assumption) (by decide) (by assumption) rfl (by first | exact takes0 | exact takesB | assumption) ?_
    refine dls_cons ?_ ?_
    exact dl_pkV _
    refine dls_cons ?_ ?_
    refine dl_fr ?_
    exact de_var _
    exact dls_nil
theorem fun__law_rule {f : Addr} {fd : FuncData} (D : FunD K "_law_rule" "_law_rule" a__law_rule b__law_rule c__law_rule [] [] f fd) (hg : mg "_law_rule" = some (.ref f)) (F__law_draw : Fun P w K mg base cl "_law_draw" 2 2 (lent [0]) m__law_draw) (F__law_any_rule : Fun P w K mg base cl "_law_any_rule" 4 2 (lent [0]) m__law_any_rule) (F__law_ring_rule : Fun P w K mg base cl "_law_ring_rule" 4 2 (lent [0]) m__law_ring_rule) (F__law_calm_rule : Fun P w K mg base cl "_law_calm_rule" 4 2 (lent [0]) m__law_calm_rule) : Fun P w K mg base cl "_law_rule" 5 2 (lent [0]) m__law_rule :=
  ⟨f, fd, _, ok__law_rule D F__law_draw F__law_any_rule F__law_ring_rule F__law_calm_rule, hg, D.kp, D.bindsN fun _ _ _ _ _ _ us hl => match us, hl with | [_, _], _ => rfl⟩
theorem ok_price_of {f : Addr} {fd : FuncData} (D : FunD K "price_of" "price_of" a_price_of b_price_of c_price_of [] [] f fd)  : DFn P w K mg base 1 f fd ["rule", "i", "j"] (spD ⟨K, cl⟩ (lent []) 3 m_price_of) :=
  fun_of D sc_price_of (lent_lt (by decide)) fun cd A out s H E hr hgd => by
    have hN := sc_price_of.nd
    unfold m_price_of
    show DSs _ _ _ _ vb_price_of.1 _
    refine ds_cons ?_ ?_
    refine ds_for (by first | assumption | exact ownB) rfl ?_ ?_ ?_
    refine di_seq ?_
    refine de_ix ?_ ?_
    exact de_var _
    exact de_int
    refine dg_tup rfl ?_
    refine dgs_cons ?_ ?_
    exact dg_name (by assumption) rfl rfl (by first | exact Or.inl rfl | exact Or.inr rfl)
    refine dgs_cons ?_ ?_
    exact dg_name (by assumption) rfl rfl (by first | exact Or.inl rfl | exact Or.inr rfl)
    refine dgs_cons ?_ ?_
    exact dg_name (by assumption) rfl rfl (by first | exact Or.inl rfl | exact Or.inr rfl)
    exact dgs_nil
    refine ds_one ?_
    refine ds_if ?_ ?_ ?_
    refine dt_cmp ?_ ?_ ?_
    exact c_eq (hu_of (by assumption))
    refine dl_fr ?_
    refine de_tup ?_
    refine da_cons ?_ ?_
    exact de_var _
    refine da_cons ?_ ?_
    exact de_var _
    exact da_nil
    refine dl_fr ?_
    refine de_tup ?_
    refine da_cons ?_ ?_
    exact de_var _
    refine da_cons ?_ ?_
    exact de_var _
    exact da_nil
    refine ds_one ?_
    refine ds_ret ?_
    exact de_var _
    exact ds_nil
    refine ds_one ?_
    refine ds_ret ?_
    exact de_non
theorem fun_price_of {f : Addr} {fd : FuncData} (D : FunD K "price_of" "price_of" a_price_of b_price_of c_price_of [] [] f fd) (hg : mg "price_of" = some (.ref f))  : Fun P w K mg base cl "price_of" 1 3 (lent []) m_price_of :=
  ⟨f, fd, _, ok_price_of D , hg, D.kp, D.bindsN fun _ _ _ _ _ _ us hl => match us, hl with | [_, _, _], _ => rfl⟩
theorem ok_is_allowed {f : Addr} {fd : FuncData} (D : FunD K "is_allowed" "is_allowed" a_is_allowed b_is_allowed c_is_allowed [] [] f fd) (F_price_of : Fun P w K mg base cl "price_of" 1 3 (lent []) m_price_of) : DFn P w K mg base 2 f fd ["rule", "i", "j"] (spD ⟨K, cl⟩ (lent []) 3 m_is_allowed) :=
  fun_of D sc_is_allowed (lent_lt (by decide)) fun cd A out s H E hr hgd => by
    have hN := sc_is_allowed.nd
    unfold m_is_allowed
    show DSs _ _ _ _ vb_is_allowed.1 _
    refine ds_one ?_
    refine ds_ret ?_
    refine de_cmp ?_ ?_ ?_
    exact c_isnot
    refine dl_fr ?_
    refine de_ofO ?_
    refine do_fun (by assumption) (by assumption) (by decide) (by assumption) rfl (by first | exact takes0 | exact takesB | assumption) ?_
    refine dls_cons ?_ ?_
    refine dl_fr ?_
    exact de_var _
    refine dls_cons ?_ ?_
    refine dl_fr ?_
    exact de_var _
    refine dls_cons ?_ ?_
    refine dl_fr ?_
    exact de_var _
    exact dls_nil
    refine dl_fr ?_
    exact de_non
theorem fun_is_allowed {f : Addr} {fd : FuncData} (D : FunD K "is_allowed" "is_allowed" a_is_allowed b_is_allowed c_is_allowed [] [] f fd) (hg : mg "is_allowed" = some (.ref f)) (F_price_of : Fun P w K mg base cl "price_of" 1 3 (lent []) m_price_of) : Fun P w K mg base cl "is_allowed" 2 3 (lent []) m_is_allowed :=
  ⟨f, fd, _, ok_is_allowed D F_price_of, hg, D.kp, D.bindsN fun _ _ _ _ _ _ us hl => match us, hl with | [_, _, _], _ => rfl⟩
theorem ok_is_spare {f : Addr} {fd : FuncData} (D : FunD K "is_spare" "is_spare" a_is_spare b_is_spare c_is_spare [] [] f fd) (h_all : mg "all" = none) (F_is_allowed : Fun P w K mg base cl "is_allowed" 2 3 (lent []) m_is_allowed) : DFn P w K mg base 3 f fd ["rule", "ring", "step"] (spD ⟨K, cl⟩ (lent []) 3 m_is_spare) :=
  fun_of D sc_is_spare (lent_lt (by decide)) fun cd A out s H E hr hgd => by
    have hN := sc_is_spare.nd
    unfold m_is_spare
    show DSs _ _ _ _ vb_is_spare.1 _
    refine ds_cons ?_ ?_
    refine ds_asg ?_ ?_
    exact de_var _
    refine dg_tup rfl ?_
    refine dgs_cons ?_ ?_
    exact dg_name (by assumption) rfl rfl (by first | exact Or.inl rfl | exact Or.inr rfl)
    refine dgs_cons ?_ ?_
    exact dg_name (by assumption) rfl rfl (by first | exact Or.inl rfl | exact Or.inr rfl)
    exact dgs_nil
    refine ds_one ?_
    refine ds_ret ?_
    refine de_callB (bi_all rfl) rfl (by assumption) bb_all ?_
    refine da_cons ?_ ?_
    refine de_lcV rfl (by assumption) ?_ (by rfl) ?_ ?_ ?_
    refine di_seq ?_
    exact de_var _
    intros
    refine dg_tup rfl ?_
    refine dgs_cons ?_ ?_
    exact dg_name (by assumption) rfl rfl (by first | exact Or.inl rfl | exact Or.inr rfl)
    refine dgs_cons ?_ ?_
    exact dg_name (by assumption) rfl rfl (by first | exact Or.inl rfl | exact Or.inr rfl)
    exact dgs_nil
    intros
    exact dts_nil
    intros
    first | refine de_and2 ?_ ?_ | refine de_and ?_ ?_
    refine de_ofO ?_
    refine do_fun (by assumption) (by assumption) (by decide) (by assumption) rfl (by first | exact takes0 | exact takesB | assumption) ?_
    refine dls_cons ?_ ?_
    refine dl_fr ?_
    exact de_var _
    refine dls_cons ?_ ?_
    refine dl_fr ?_
    exact de_var _
    refine dls_cons ?_ ?_
    refine dl_fr ?_
    exact de_var _
    exact dls_nil
    refine de_ofO ?_
    refine do_fun (by assumption) (by assumption) (by decide) (by assumption) rfl (by first | exact takes0 | exact takesB | assumption) ?_
    refine dls_cons ?_ ?_
    refine dl_fr ?_
    exact de_var _
    refine dls_cons ?_ ?_
    refine dl_fr ?_
    exact de_var _
    refine dls_cons ?_ ?_
    refine dl_fr ?_
    exact de_var _
    exact dls_nil
    exact da_nil
theorem fun_is_spare {f : Addr} {fd : FuncData} (D : FunD K "is_spare" "is_spare" a_is_spare b_is_spare c_is_spare [] [] f fd) (hg : mg "is_spare" = some (.ref f)) (h_all : mg "all" = none) (F_is_allowed : Fun P w K mg base cl "is_allowed" 2 3 (lent []) m_is_allowed) : Fun P w K mg base cl "is_spare" 3 3 (lent []) m_is_spare :=
  ⟨f, fd, _, ok_is_spare D h_all F_is_allowed, hg, D.kp, D.bindsN fun _ _ _ _ _ _ us hl => match us, hl with | [_, _, _], _ => rfl⟩
theorem ok_pair_ring {f : Addr} {fd : FuncData} (D : FunD K "pair_ring" "pair_ring" a_pair_ring b_pair_ring c_pair_ring [] [] f fd)  : DFn P w K mg base 1 f fd ["one", "two"] (spD ⟨K, cl⟩ (lent []) 2 m_pair_ring) :=
  fun_of D sc_pair_ring (lent_lt (by decide)) fun cd A out s H E hr hgd => by
    have hN := sc_pair_ring.nd
    unfold m_pair_ring
    show DSs _ _ _ _ vb_pair_ring.1 _
    refine ds_one ?_
    refine ds_ret ?_
    refine de_if ?_ ?_ ?_
    refine dt_cmp ?_ ?_ ?_
    exact c_lt (hu_of (by assumption))
    refine dl_fr ?_
    refine de_ix ?_ ?_
    exact de_var _
    exact de_int
    refine dl_fr ?_
    refine de_ix ?_ ?_
    exact de_var _
    exact de_int
    refine de_tup ?_
    refine da_cons ?_ ?_
    exact de_var _
    refine da_cons ?_ ?_
    exact de_var _
    exact da_nil
    refine de_tup ?_
    refine da_cons ?_ ?_
    exact de_var _
    refine da_cons ?_ ?_
    exact de_var _
    exact da_nil
theorem fun_pair_ring {f : Addr} {fd : FuncData} (D : FunD K "pair_ring" "pair_ring" a_pair_ring b_pair_ring c_pair_ring [] [] f fd) (hg : mg "pair_ring" = some (.ref f))  : Fun P w K mg base cl "pair_ring" 1 2 (lent []) m_pair_ring :=
  ⟨f, fd, _, ok_pair_ring D , hg, D.kp, D.bindsN fun _ _ _ _ _ _ us hl => match us, hl with | [_, _], _ => rfl⟩
theorem ok_spare_way {f : Addr} {fd : FuncData} (D : FunD K "spare_way" "spare_way" a_spare_way b_spare_way c_spare_way [] [] f fd) (h_range : mg "range" = none) (h_tuple : mg "tuple" = none) (h_len : mg "len" = none) (F_pair_ring : Fun P w K mg base cl "pair_ring" 1 2 (lent []) m_pair_ring) : DFn P w K mg base 2 f fd ["rule", "ring", "step"] (spD ⟨K, cl⟩ (lent []) 3 m_spare_way) :=
  fun_of D sc_spare_way (lent_lt (by decide)) fun cd A out s H E hr hgd => by
    have hN := sc_spare_way.nd
    unfold m_spare_way
    show DSs _ _ _ _ vb_spare_way.1 _
    refine ds_cons ?_ ?_
    refine ds_asg ?_ ?_
    exact de_var _
    refine dg_tup rfl ?_
    refine dgs_cons ?_ ?_
    exact dg_name (by assumption) rfl rfl (by first | exact Or.inl rfl | exact Or.inr rfl)
    refine dgs_cons ?_ ?_
    exact dg_name (by assumption) rfl rfl (by first | exact Or.inl rfl | exact Or.inr rfl)
    exact dgs_nil
    refine ds_cons ?_ ?_
    refine ds_setO (by assumption) rfl rfl (by first | exact Or.inl rfl | exact Or.inr rfl) ?_
    refine do_lst ?_
    refine dtl_cons ?_ ?_
    refine do_ofE ?_
    refine de_tup ?_
    refine da_cons ?_ ?_
    refine de_ofO ?_
    refine do_fun (by assumption) (by assumption) (by decide) (by assumption) rfl (by first | exact takes0 | exact takesB | assumption) ?_
    refine dls_cons ?_ ?_
    refine dl_fr ?_
    refine de_ix ?_ ?_
    exact de_var _
    exact de_int
    refine dls_cons ?_ ?_
    refine dl_fr ?_
    exact de_var _
    exact dls_nil
    refine da_cons ?_ ?_
    exact de_int
    exact da_nil
    exact dtl_nil
    refine ds_cons ?_ ?_
    refine ds_for (by first | assumption | exact ownB) rfl ?_ ?_ ?_
    refine di_range3 rfl (by assumption) ?_
    refine da_cons ?_ ?_
    refine sub_ok ?_ ?_
    refine de_len ?_ rfl (by assumption)
    refine dl_fr ?_
    exact de_var _
    exact de_int
    refine da_cons ?_ ?_
    exact de_int
    refine da_cons ?_ ?_
    refine neg_ok ?_
    exact de_int
    exact da_nil
    exact dg_name (by assumption) rfl rfl (by first | exact Or.inl rfl | exact Or.inr rfl)
    refine ds_cons ?_ ?_
    refine ds_set (by assumption) rfl rfl (by first | exact Or.inl rfl | exact Or.inr rfl) ?_
    refine de_ix ?_ ?_
    exact de_var _
    refine sub_ok ?_ ?_
    refine add_ok ?_ ?_
    exact de_var _
    exact de_int
    refine de_len ?_ rfl (by assumption)
    refine dl_fr ?_
    exact de_var _
    refine ds_one ?_
    refine ds_expr ?_
    refine de_append _ ?_
    refine do_ofE ?_
    refine de_tup ?_
    refine da_cons ?_ ?_
    refine de_ofO ?_
    refine do_fun (by assumption) (by assumption) (by decide) (by assumption) rfl (by first | exact takes0 | exact takesB | assumption) ?_
    refine dls_cons ?_ ?_
    refine dl_fr ?_
    refine de_ix ?_ ?_
    exact de_var _
    exact de_var _
    refine dls_cons ?_ ?_
    refine dl_fr ?_
    refine de_tup ?_
    refine da_cons ?_ ?_
    exact de_var _
    refine da_cons ?_ ?_
    refine de_ix ?_ ?_
    exact de_var _
    exact de_int
    exact da_nil
    exact dls_nil
    refine da_cons ?_ ?_
    exact de_int
    exact da_nil
    refine ds_cons ?_ ?_
    refine ds_expr ?_
    refine de_append _ ?_
    refine do_ofE ?_
    refine de_tup ?_
    refine da_cons ?_ ?_
    refine de_ofO ?_
    refine do_fun (by assumption) (by assumption) (by decide) (by assumption) rfl (by first | exact takes0 | exact takesB | assumption) ?_
    refine dls_cons ?_ ?_
    refine dl_fr ?_
    refine de_tup ?_
    refine da_cons ?_ ?_
    refine de_ix ?_ ?_
    refine de_ix ?_ ?_
    exact de_var _
    exact de_int
    exact de_int
    refine da_cons ?_ ?_
    exact de_var _
    exact da_nil
    refine dls_cons ?_ ?_
    refine dl_fr ?_
    refine de_tup ?_
    refine da_cons ?_ ?_
    exact de_var _
    refine da_cons ?_ ?_
    refine de_ix ?_ ?_
    refine de_ix ?_ ?_
    exact de_var _
    exact de_int
    exact de_int
    exact da_nil
    exact dls_nil
    refine da_cons ?_ ?_
    exact de_int
    exact da_nil
    refine ds_one ?_
    refine ds_ret ?_
    refine de_callTy bi_tuple rfl (by assumption) bb_tuple ?_
    refine da_cons ?_ ?_
    exact de_var _
    exact da_nil
theorem fun_spare_way {f : Addr} {fd : FuncData} (D : FunD K "spare_way" "spare_way" a_spare_way b_spare_way c_spare_way [] [] f fd) (hg : mg "spare_way" = some (.ref f)) (h_range : mg "range" = none) (h_tuple : mg "tuple" = none) (h_len : mg "len" = none) (F_pair_ring : Fun P w K mg base cl "pair_ring" 1 2 (lent []) m_pair_ring) : Fun P w K mg base cl "spare_way" 2 3 (lent []) m_spare_way :=
  ⟨f, fd, _, ok_spare_way D h_range h_tuple h_len F_pair_ring, hg, D.kp, D.bindsN fun _ _ _ _ _ _ us hl => match us, hl with | [_, _, _], _ => rfl⟩
theorem ok__law_steps {f : Addr} {fd : FuncData} (D : FunD K "_law_steps" "_law_steps" a__law_steps b__law_steps c__law_steps [] [] f fd)  : DFn P w K mg base 1 f fd ["rule"] (spD ⟨K, cl⟩ (lent []) 1 m__law_steps) :=
  fun_of D sc__law_steps (lent_lt (by decide)) fun cd A out s H E hr hgd => by
    have hN := sc__law_steps.nd
    unfold m__law_steps
    show DSs _ _ _ _ vb__law_steps.1 _
    refine ds_one ?_
    refine ds_ret ?_
    refine de_lcV rfl (by assumption) ?_ (by rfl) ?_ ?_ ?_
    refine di_seq ?_
    refine de_ix ?_ ?_
    exact de_var _
    exact de_int
    intros
    refine dg_tup rfl ?_
    refine dgs_cons ?_ ?_
    exact dg_name (by assumption) rfl rfl (by first | exact Or.inl rfl | exact Or.inr rfl)
    refine dgs_cons ?_ ?_
    exact dg_name (by assumption) rfl rfl (by first | exact Or.inl rfl | exact Or.inr rfl)
    refine dgs_cons ?_ ?_
    exact dg_name (by assumption) rfl rfl (by first | exact Or.inl rfl | exact Or.inr rfl)
    exact dgs_nil
    intros
    exact dts_nil
    intros
    refine de_tup ?_
    refine da_cons ?_ ?_
    exact de_var _
    refine da_cons ?_ ?_
    exact de_var _
    exact da_nil
theorem fun__law_steps {f : Addr} {fd : FuncData} (D : FunD K "_law_steps" "_law_steps" a__law_steps b__law_steps c__law_steps [] [] f fd) (hg : mg "_law_steps" = some (.ref f))  : Fun P w K mg base cl "_law_steps" 1 1 (lent []) m__law_steps :=
  ⟨f, fd, _, ok__law_steps D , hg, D.kp, D.bindsN fun _ _ _ _ _ _ us hl => match us, hl with | [_], _ => rfl⟩
theorem ok__law_bare_rings {f : Addr} {fd : FuncData} (D : FunD K "_law_bare_rings" "_law_bare_rings" a__law_bare_rings b__law_bare_rings c__law_bare_rings [] [] f fd) (h_sorted : mg "sorted" = none) (h_range : mg "range" = none) (h_len : mg "len" = none) (h_tuple : mg "tuple" = none) (h_zip : mg "zip" = none) (F__law_steps : Fun P w K mg base cl "_law_steps" 1 1 (lent []) m__law_steps) : DFn P w K mg base 2 f fd ["rule"] (spD ⟨K, cl⟩ (lent []) 1 m__law_bare_rings) :=
  fun_of D sc__law_bare_rings (lent_lt (by decide)) fun cd A out s H E hr hgd => by
    have hN := sc__law_bare_rings.nd
    unfold m__law_bare_rings
    show DSs _ _ _ _ vb__law_bare_rings.1 _
    refine ds_cons ?_ ?_
    first | refine ds_par rfl (by assumption) rfl rfl rfl rfl (by decide) rfl rfl ?_ (by rfl) | refine ds_parG rfl (by rfl) (by decide) ?_ (dns_cons (by assumption) rfl (by first | exact Or.inl rfl | exact Or.inr rfl) (dns_cons (by assumption) rfl (by first | exact Or.inl rfl | exact Or.inr rfl) dns_nil))
    refine dtl_cons ?_ ?_
    refine do_ofE ?_
    refine de_ofO ?_
    refine do_fun (by assumption) (by assumption) (by decide) (by assumption) rfl (by first | exact takes0 | exact takesB | assumption) ?_
    refine dls_cons ?_ ?_
    refine dl_fr ?_
    exact de_var _
    exact dls_nil
    refine dtl_cons ?_ ?_
    refine do_lst ?_
    exact dtl_nil
    exact dtl_nil
    refine ds_cons ?_ ?_
    first | refine ds_setLcV rfl rfl rfl (by rfl) rfl (by assumption) ?_ (by rfl) ?_ ?_ ?_ | refine ds_set (by assumption) rfl rfl (by first | exact Or.inl rfl | exact Or.inr rfl) (de_lcV rfl (by assumption) ?_ (by rfl) ?_ ?_ ?_)
    refine di_seq ?_
    exact de_var _
    intros
    refine dg_tup rfl ?_
    refine dgs_cons ?_ ?_
    exact dg_name (by assumption) rfl rfl (by first | exact Or.inl rfl | exact Or.inr rfl)
    refine dgs_cons ?_ ?_
    exact dg_name (by assumption) rfl rfl (by first | exact Or.inl rfl | exact Or.inr rfl)
    exact dgs_nil
    intros
    exact dts_nil
    intros
    refine de_tup ?_
    refine da_cons ?_ ?_
    refine de_lst ?_
    refine da_cons ?_ ?_
    exact de_var _
    exact da_nil
    refine da_cons ?_ ?_
    refine de_lst ?_
    refine da_cons ?_ ?_
    exact de_var _
    exact da_nil
    exact da_nil
    refine ds_cons ?_ ?_
    refine ds_while (by first | assumption | exact ownB) ?_ ?_
    refine dt_cmp ?_ ?_ ?_
    exact c_ne (hu_of (by assumption))
    refine dl_fr ?_
    exact de_var _
    refine dl_fr ?_
    refine de_lst ?_
    exact da_nil
    refine ds_cons ?_ ?_
    refine ds_setO (by assumption) rfl rfl (by first | exact Or.inl rfl | exact Or.inr rfl) ?_
    refine do_lst ?_
    exact dtl_nil
    refine ds_cons ?_ ?_
    refine ds_for (by first | assumption | exact ownB) rfl ?_ ?_ ?_
    refine di_seq ?_
    exact de_var _
    refine dg_tup rfl ?_
    refine dgs_cons ?_ ?_
    exact dg_name (by assumption) rfl rfl (by first | exact Or.inl rfl | exact Or.inr rfl)
    refine dgs_cons ?_ ?_
    exact dg_name (by assumption) rfl rfl (by first | exact Or.inl rfl | exact Or.inr rfl)
    exact dgs_nil
    refine ds_cons ?_ ?_
    first | refine ds_setLcV rfl rfl rfl (by rfl) rfl (by assumption) ?_ (by rfl) ?_ ?_ ?_ | refine ds_set (by assumption) rfl rfl (by first | exact Or.inl rfl | exact Or.inr rfl) (de_lcV rfl (by assumption) ?_ (by rfl) ?_ ?_ ?_)
    refine di_range1 rfl (by assumption) ?_
    refine da_cons ?_ ?_
    refine de_ix ?_ ?_
    exact de_var _
    exact de_int
    exact da_nil
    intros
    exact dg_name (by assumption) rfl rfl (by first | exact Or.inl rfl | exact Or.inr rfl)
    intros
    refine dts_one ?_
    refine dt_w ?_
    refine dw_and2 ?_ ?_
    refine dt_cmp ?_ ?_ ?_
    exact c_in (hu5_of (by assumption))
    refine dl_fr ?_
    refine de_tup ?_
    refine da_cons ?_ ?_
    refine de_ix ?_ ?_
    exact de_var _
    refine neg_ok ?_
    exact de_int
    refine da_cons ?_ ?_
    exact de_var _
    exact da_nil
    refine dl_fr ?_
    exact de_var _
    refine dt_cmp ?_ ?_ ?_
    exact c_notIn (hu5_of (by assumption))
    refine dl_fr ?_
    exact de_var _
    refine dl_fr ?_
    exact de_var _
    intros
    exact de_var _
    refine ds_one ?_
    refine ds_for (by first | assumption | exact ownB) rfl ?_ ?_ ?_
    refine di_seq ?_
    refine de_lcV rfl (by assumption) ?_ (by rfl) ?_ ?_ ?_
    refine di_seq ?_
    exact de_var _
    intros
    exact dg_name (by assumption) rfl rfl (by first | exact Or.inl rfl | exact Or.inr rfl)
    intros
    refine dts_one ?_
    refine dt_cmp ?_ ?_ ?_
    exact c_eq (hu_of (by assumption))
    refine dl_fr ?_
    refine de_lcV rfl (by assumption) ?_ (by rfl) ?_ ?_ ?_
    refine di_seq ?_
    refine de_slice ?_ ?_ ?_
    exact de_var _
    exact dp_no
    refine dp_some ?_
    refine neg_ok ?_
    exact de_int
    intros
    exact dg_name (by assumption) rfl rfl (by first | exact Or.inl rfl | exact Or.inr rfl)
    intros
    refine dts_one ?_
    refine dt_cmp ?_ ?_ ?_
    exact c_in (hu5_of (by assumption))
    refine dl_fr ?_
    refine de_tup ?_
    refine da_cons ?_ ?_
    exact de_var _
    refine da_cons ?_ ?_
    exact de_var _
    exact da_nil
    refine dl_fr ?_
    exact de_var _
    intros
    exact de_var _
    refine dl_fr ?_
    refine de_lst ?_
    exact da_nil
    intros
    exact de_var _
    exact dg_name (by assumption) rfl rfl (by first | exact Or.inl rfl | exact Or.inr rfl)
    refine ds_one ?_
    refine ds_for (by first | assumption | exact ownB) rfl ?_ ?_ ?_
    refine di_seq ?_
    refine de_lcV rfl (by assumption) ?_ (by rfl) ?_ ?_ ?_
    refine di_range2 rfl (by assumption) ?_
    refine da_cons ?_ ?_
    refine add_ok ?_ ?_
    refine de_ix ?_ ?_
    exact de_var _
    exact de_int
    exact de_int
    refine da_cons ?_ ?_
    refine de_ix ?_ ?_
    exact de_var _
    exact de_int
    exact da_nil
    intros
    exact dg_name (by assumption) rfl rfl (by first | exact Or.inl rfl | exact Or.inr rfl)
    intros
    refine dts_one ?_
    refine dt_w ?_
    refine dw_and2 ?_ ?_
    refine dt_cmp ?_ ?_ ?_
    exact c_in (hu5_of (by assumption))
    refine dl_fr ?_
    refine de_tup ?_
    refine da_cons ?_ ?_
    exact de_var _
    refine da_cons ?_ ?_
    exact de_var _
    exact da_nil
    refine dl_fr ?_
    exact de_var _
    refine dt_cmp ?_ ?_ ?_
    exact c_notIn (hu5_of (by assumption))
    refine dl_fr ?_
    exact de_var _
    refine dl_fr ?_
    exact de_var _
    intros
    exact de_var _
    exact dg_name (by assumption) rfl rfl (by first | exact Or.inl rfl | exact Or.inr rfl)
    refine ds_cons ?_ ?_
    first | refine ds_setLcV rfl rfl rfl (by rfl) rfl (by assumption) ?_ (by rfl) ?_ ?_ ?_ | refine ds_set (by assumption) rfl rfl (by first | exact Or.inl rfl | exact Or.inr rfl) (de_lcV rfl (by assumption) ?_ (by rfl) ?_ ?_ ?_)
    refine di_seq ?_
    exact de_var _
    intros
    exact dg_name (by assumption) rfl rfl (by first | exact Or.inl rfl | exact Or.inr rfl)
    intros
    refine dts_one ?_
    refine dt_cmp ?_ ?_ ?_
    exact c_in (hu5_of (by assumption))
    refine dl_fr ?_
    refine de_tup ?_
    refine da_cons ?_ ?_
    exact de_var _
    refine da_cons ?_ ?_
    exact de_var _
    exact da_nil
    refine dl_fr ?_
    exact de_var _
    intros
    exact de_var _
    refine ds_one ?_
    refine ds_if ?_ ?_ ?_
    refine dt_cmp ?_ ?_ ?_
    exact c_eq (hu_of (by assumption))
    refine dl_fr ?_
    exact de_var _
    refine dl_fr ?_
    refine de_lst ?_
    exact da_nil
    refine ds_one ?_
    refine ds_expr ?_
    refine de_append _ ?_
    refine do_ofE ?_
    refine de_tup ?_
    refine da_cons ?_ ?_
    refine add_ok ?_ ?_
    exact de_var _
    refine de_lst ?_
    refine da_cons ?_ ?_
    exact de_var _
    exact da_nil
    refine da_cons ?_ ?_
    refine add_ok ?_ ?_
    exact de_var _
    refine de_lst ?_
    refine da_cons ?_ ?_
    exact de_var _
    exact da_nil
    exact da_nil
    refine ds_one ?_
    refine ds_if ?_ ?_ ?_
    refine dt_w ?_
    refine dw_and2 ?_ ?_
    refine dt_cmp ?_ ?_ ?_
    exact c_eq (hu_of (by assumption))
    refine dl_fr ?_
    exact de_var _
    refine dl_fr ?_
    refine de_slice ?_ ?_ ?_
    exact de_var _
    exact dp_no
    refine dp_some ?_
    exact de_int
    refine dt_cmp ?_ ?_ ?_
    exact c_gt (hu_of (by assumption))
    refine dl_fr ?_
    refine de_len ?_ rfl (by assumption)
    refine dl_fr ?_
    exact de_var _
    refine dl_fr ?_
    exact de_int
    refine ds_one ?_
    refine ds_expr ?_
    refine de_append _ ?_
    refine do_ofE ?_
    refine de_callTy bi_tuple rfl (by assumption) bb_tuple ?_
    refine da_cons ?_ ?_
    refine de_lcV rfl (by assumption) ?_ (by rfl) ?_ ?_ ?_
    first | refine di_zip2 rfl (by assumption) ?_ | refine di_zipN rfl (by assumption) ?_
    refine da_cons ?_ ?_
    refine add_ok ?_ ?_
    exact de_var _
    refine de_lst ?_
    refine da_cons ?_ ?_
    exact de_var _
    exact da_nil
    refine da_cons ?_ ?_
    refine add_ok ?_ ?_
    exact de_var _
    refine de_lst ?_
    refine da_cons ?_ ?_
    exact de_var _
    exact da_nil
    exact da_nil
    intros
    exact dg_name (by assumption) rfl rfl (by first | exact Or.inl rfl | exact Or.inr rfl)
    intros
    exact dts_nil
    intros
    exact de_var _
    exact da_nil
    exact ds_nil
    refine ds_one ?_
    refine ds_set (by assumption) rfl rfl (by first | exact Or.inl rfl | exact Or.inr rfl) ?_
    exact de_var _
    refine ds_one ?_
    refine ds_ret ?_
    refine de_callB (bi_sorted (hu_of (by assumption))) rfl (by assumption) bb_sorted ?_
    refine da_cons ?_ ?_
    exact de_var _
    exact da_nil
theorem fun__law_bare_rings {f : Addr} {fd : FuncData} (D : FunD K "_law_bare_rings" "_law_bare_rings" a__law_bare_rings b__law_bare_rings c__law_bare_rings [] [] f fd) (hg : mg "_law_bare_rings" = some (.ref f)) (h_sorted : mg "sorted" = none) (h_range : mg "range" = none) (h_len : mg "len" = none) (h_tuple : mg "tuple" = none) (h_zip : mg "zip" = none) (F__law_steps : Fun P w K mg base cl "_law_steps" 1 1 (lent []) m__law_steps) : Fun P w K mg base cl "_law_bare_rings" 2 1 (lent []) m__law_bare_rings :=
  ⟨f, fd, _, ok__law_bare_rings D h_sorted h_range h_len h_tuple h_zip F__law_steps, hg, D.kp, D.bindsN fun _ _ _ _ _ _ us hl => match us, hl with | [_], _ => rfl⟩
theorem ok__law_is_spare {f : Addr} {fd : FuncData} (D : FunD K "_law_is_spare" "_law_is_spare" a__law_is_spare b__law_is_spare c__law_is_spare [] [] f fd) (F__law_steps : Fun P w K mg base cl "_law_steps" 1 1 (lent []) m__law_steps) : DFn P w K mg base 2 f fd ["rule", "ring", "step"] (spD ⟨K, cl⟩ (lent []) 3 m__law_is_spare) :=
  fun_of D sc__law_is_spare (lent_lt (by decide)) fun cd A out s H E hr hgd => by
    have hN := sc__law_is_spare.nd
    unfold m__law_is_spare
    show DSs _ _ _ _ vb__law_is_spare.1 _
    refine ds_cons ?_ ?_
    refine ds_set (by assumption) rfl rfl (by first | exact Or.inl rfl | exact Or.inr rfl) ?_
    refine de_ofO ?_
    refine do_fun (by assumption) (by assumption) (by decide) (by assumption) rfl (by first | exact takes0 | exact takesB | assumption) ?_
    refine dls_cons ?_ ?_
    refine dl_fr ?_
    exact de_var _
    exact dls_nil
    refine ds_one ?_
    refine ds_ret ?_
    refine de_cmp ?_ ?_ ?_
    exact c_eq (hu_of (by assumption))
    refine dl_fr ?_
    refine de_lcV rfl (by assumption) ?_ (by rfl) ?_ ?_ ?_
    refine di_seq ?_
    exact de_var _
    intros
    refine dg_tup rfl ?_
    refine dgs_cons ?_ ?_
    exact dg_name (by assumption) rfl rfl (by first | exact Or.inl rfl | exact Or.inr rfl)
    refine dgs_cons ?_ ?_
    exact dg_name (by assumption) rfl rfl (by first | exact Or.inl rfl | exact Or.inr rfl)
    exact dgs_nil
    intros
    refine dts_one ?_
    refine dt_w ?_
    refine dw_or2 ?_ ?_
    refine dt_cmp ?_ ?_ ?_
    exact c_notIn (hu5_of (by assumption))
    refine dl_fr ?_
    refine de_tup ?_
    refine da_cons ?_ ?_
    refine de_ix ?_ ?_
    exact de_var _
    exact de_int
    refine da_cons ?_ ?_
    exact de_var _
    exact da_nil
    refine dl_fr ?_
    exact de_var _
    refine dt_cmp ?_ ?_ ?_
    exact c_notIn (hu5_of (by assumption))
    refine dl_fr ?_
    refine de_tup ?_
    refine da_cons ?_ ?_
    exact de_var _
    refine da_cons ?_ ?_
    refine de_ix ?_ ?_
    exact de_var _
    exact de_int
    exact da_nil
    refine dl_fr ?_
    exact de_var _
    intros
    exact de_int
    refine dl_fr ?_
    refine de_lst ?_
    exact da_nil
theorem fun__law_is_spare {f : Addr} {fd : FuncData} (D : FunD K "_law_is_spare" "_law_is_spare" a__law_is_spare b__law_is_spare c__law_is_spare [] [] f fd) (hg : mg "_law_is_spare" = some (.ref f)) (F__law_steps : Fun P w K mg base cl "_law_steps" 1 1 (lent []) m__law_steps) : Fun P w K mg base cl "_law_is_spare" 2 3 (lent []) m__law_is_spare :=
  ⟨f, fd, _, ok__law_is_spare D F__law_steps, hg, D.kp, D.bindsN fun _ _ _ _ _ _ us hl => match us, hl with | [_, _, _], _ => rfl⟩
theorem ok__law_goes_on {f : Addr} {fd : FuncData} (D : FunD K "_law_goes_on" "_law_goes_on" a__law_goes_on b__law_goes_on c__law_goes_on [] [] f fd) (h_zip : mg "zip" = none) : DFn P w K mg base 1 f fd ["ring"] (spD ⟨K, cl⟩ (lent []) 1 m__law_goes_on) :=
  fun_of D sc__law_goes_on (lent_lt (by decide)) fun cd A out s H E hr hgd => by
    have hN := sc__law_goes_on.nd
    unfold m__law_goes_on
    show DSs _ _ _ _ vb__law_goes_on.1 _
    refine ds_one ?_
    refine ds_ret ?_
    refine de_lcV rfl (by assumption) ?_ (by rfl) ?_ ?_ ?_
    first | refine di_zip2 rfl (by assumption) ?_ | refine di_zipN rfl (by assumption) ?_
    refine da_cons ?_ ?_
    exact de_var _
    refine da_cons ?_ ?_
    refine add_ok ?_ ?_
    refine de_slice ?_ ?_ ?_
    exact de_var _
    refine dp_some ?_
    exact de_int
    exact dp_no
    refine de_slice ?_ ?_ ?_
    exact de_var _
    exact dp_no
    refine dp_some ?_
    exact de_int
    exact da_nil
    intros
    refine dg_tup rfl ?_
    refine dgs_cons ?_ ?_
    exact dg_name (by assumption) rfl rfl (by first | exact Or.inl rfl | exact Or.inr rfl)
    refine dgs_cons ?_ ?_
    exact dg_name (by assumption) rfl rfl (by first | exact Or.inl rfl | exact Or.inr rfl)
    exact dgs_nil
    intros
    exact dts_nil
    intros
    refine de_tup ?_
    refine da_cons ?_ ?_
    refine de_ix ?_ ?_
    exact de_var _
    exact de_int
    refine da_cons ?_ ?_
    refine de_ix ?_ ?_
    exact de_var _
    exact de_int
    exact da_nil
theorem fun__law_goes_on {f : Addr} {fd : FuncData} (D : FunD K "_law_goes_on" "_law_goes_on" a__law_goes_on b__law_goes_on c__law_goes_on [] [] f fd) (hg : mg "_law_goes_on" = some (.ref f)) (h_zip : mg "zip" = none) : Fun P w K mg base cl "_law_goes_on" 1 1 (lent []) m__law_goes_on :=
  ⟨f, fd, _, ok__law_goes_on D h_zip, hg, D.kp, D.bindsN fun _ _ _ _ _ _ us hl => match us, hl with | [_], _ => rfl⟩
theorem ok__law_turned {f : Addr} {fd : FuncData} (D : FunD K "_law_turned" "_law_turned" a__law_turned b__law_turned c__law_turned [] [] f fd) (h_tuple : mg "tuple" = none) (h_list : mg "list" = none) (F__law_goes_on : Fun P w K mg base cl "_law_goes_on" 1 1 (lent []) m__law_goes_on) : DFn P w K mg base 2 f fd ["table", "ring", "often"] (spD ⟨K, cl⟩ (lent []) 3 m__law_turned) :=
  fun_of D sc__law_turned (lent_lt (by decide)) fun cd A out s H E hr hgd => by
    have hN := sc__law_turned.nd
    unfold m__law_turned
    show DSs _ _ _ _ vb__law_turned.1 _
    refine ds_cons ?_ ?_
    refine ds_if ?_ ?_ ?_
    refine dt_cmp ?_ ?_ ?_
    exact c_ne (hu_of (by assumption))
    refine dl_fr ?_
    refine de_lcV rfl (by assumption) ?_ (by rfl) ?_ ?_ ?_
    refine di_seq ?_
    exact de_var _
    intros
    refine dg_tup rfl ?_
    refine dgs_cons ?_ ?_
    exact dg_name (by assumption) rfl rfl (by first | exact Or.inl rfl | exact Or.inr rfl)
    refine dgs_cons ?_ ?_
    exact dg_name (by assumption) rfl rfl (by first | exact Or.inl rfl | exact Or.inr rfl)
    exact dgs_nil
    intros
    refine dts_one ?_
    refine dt_cmp ?_ ?_ ?_
    exact c_lt (hu_of (by assumption))
    refine dl_fr ?_
    refine de_ix ?_ ?_
    refine de_ix ?_ ?_
    exact de_var _
    exact de_var _
    exact de_var _
    refine dl_fr ?_
    exact de_var _
    intros
    exact de_int
    refine dl_fr ?_
    refine de_lst ?_
    exact da_nil
    refine ds_one ?_
    refine ds_ret ?_
    exact de_non
    exact ds_nil
    refine ds_cons ?_ ?_
    first | refine ds_setLcO rfl rfl rfl (by rfl) rfl (by assumption) ?_ (by rfl) ?_ ?_ ?_ | refine ds_setO (by assumption) rfl rfl (by first | exact Or.inl rfl | exact Or.inr rfl) (do_lcO rfl (by assumption) ?_ (by rfl) ?_ ?_ ?_)
    refine di_seq ?_
    exact de_var _
    intros
    exact dg_name (by assumption) rfl rfl (by first | exact Or.inl rfl | exact Or.inr rfl)
    intros
    exact dts_nil
    intros
    refine do_listOf ?_ rfl (by assumption)
    exact de_var _
    refine ds_cons ?_ ?_
    refine ds_for (by first | assumption | exact ownB) rfl ?_ ?_ ?_
    refine di_seq ?_
    exact de_var _
    refine dg_tup rfl ?_
    refine dgs_cons ?_ ?_
    exact dg_name (by assumption) rfl rfl (by first | exact Or.inl rfl | exact Or.inr rfl)
    refine dgs_cons ?_ ?_
    exact dg_name (by assumption) rfl rfl (by first | exact Or.inl rfl | exact Or.inr rfl)
    exact dgs_nil
    refine ds_one ?_
    refine ds_setPP _ _ _ ?_
    refine sub_ok ?_ ?_
    exact de_ixPP _ _ _
    exact de_var _
    refine ds_cons ?_ ?_
    refine ds_for (by first | assumption | exact ownB) rfl ?_ ?_ ?_
    refine di_seq ?_
    refine de_ofO ?_
    refine do_fun (by assumption) (by assumption) (by decide) (by assumption) rfl (by first | exact takes0 | exact takesB | assumption) ?_
    refine dls_cons ?_ ?_
    refine dl_fr ?_
    exact de_var _
    exact dls_nil
    refine dg_tup rfl ?_
    refine dgs_cons ?_ ?_
    exact dg_name (by assumption) rfl rfl (by first | exact Or.inl rfl | exact Or.inr rfl)
    refine dgs_cons ?_ ?_
    exact dg_name (by assumption) rfl rfl (by first | exact Or.inl rfl | exact Or.inr rfl)
    exact dgs_nil
    refine ds_one ?_
    refine ds_setPP _ _ _ ?_
    refine add_ok ?_ ?_
    exact de_ixPP _ _ _
    exact de_var _
    refine ds_one ?_
    refine ds_ret ?_
    refine de_callTy bi_tuple rfl (by assumption) bb_tuple ?_
    refine da_cons ?_ ?_
    refine de_lcV rfl (by assumption) ?_ (by rfl) ?_ ?_ ?_
    refine di_seq ?_
    exact de_var _
    intros
    exact dg_name (by assumption) rfl rfl (by first | exact Or.inl rfl | exact Or.inr rfl)
    intros
    exact dts_nil
    intros
    refine de_callTy bi_tuple rfl (by assumption) bb_tuple ?_
    refine da_cons ?_ ?_
    exact de_var _
    exact da_nil
    exact da_nil
theorem fun__law_turned {f : Addr} {fd : FuncData} (D : FunD K "_law_turned" "_law_turned" a__law_turned b__law_turned c__law_turned [] [] f fd) (hg : mg "_law_turned" = some (.ref f)) (h_tuple : mg "tuple" = none) (h_list : mg "list" = none) (F__law_goes_on : Fun P w K mg base cl "_law_goes_on" 1 1 (lent []) m__law_goes_on) : Fun P w K mg base cl "_law_turned" 2 3 (lent []) m__law_turned :=
  ⟨f, fd, _, ok__law_turned D h_tuple h_list F__law_goes_on, hg, D.kp, D.bindsN fun _ _ _ _ _ _ us hl => match us, hl with | [_, _, _], _ => rfl⟩
theorem ok__law_walks {f : Addr} {fd : FuncData} (D : FunD K "_law_walks" "_law_walks" a__law_walks b__law_walks c__law_walks [] [] f fd) (h_tuple : mg "tuple" = none) (h_range : mg "range" = none) (F_spare_way : Fun P w K mg base cl "spare_way" 2 3 (lent []) m_spare_way) (F__law_turned : Fun P w K mg base cl "_law_turned" 2 3 (lent []) m__law_turned) (F__law_goes_on : Fun P w K mg base cl "_law_goes_on" 1 1 (lent []) m__law_goes_on) (F__law_steps : Fun P w K mg base cl "_law_steps" 1 1 (lent []) m__law_steps) : DFn P w K mg base 3 f fd ["rule", "ring", "step"] (spD ⟨K, cl⟩ (lent []) 3 m__law_walks) :=
  fun_of D sc__law_walks (lent_lt (by decide)) fun cd A out s H E hr hgd => by
    have hN := sc__law_walks.nd
    unfold m__law_walks
    show DSs _ _ _ _ vb__law_walks.1 _
    refine ds_cons ?_ ?_
    first | refine ds_setLcO rfl rfl rfl (by rfl) rfl (by assumption) ?_ (by rfl) ?_ ?_ ?_ | refine ds_setO (by assumption) rfl rfl (by first | exact Or.inl rfl | exact Or.inr rfl) (do_lcO rfl (by assumption) ?_ (by rfl) ?_ ?_ ?_)
    refine di_range1 rfl (by assumption) ?_
    refine da_cons ?_ ?_
    refine de_ix ?_ ?_
    exact de_var _
    exact de_int
    exact da_nil
    intros
    exact dg_name (by assumption) rfl rfl (by first | exact Or.inl rfl | exact Or.inr rfl)
    intros
    exact dts_nil
    intros
    refine do_mulL ?_ ?_
    refine de_lst ?_
    refine da_cons ?_ ?_
    exact de_int
    exact da_nil
    refine de_ix ?_ ?_
    exact de_var _
    exact de_int
    refine ds_cons ?_ ?_
    refine ds_for (by first | assumption | exact ownB) rfl ?_ ?_ ?_
    refine di_seq ?_
    refine add_ok ?_ ?_
    exact de_var _
    refine de_tup ?_
    refine da_cons ?_ ?_
    exact de_var _
    exact da_nil
    refine dg_tup rfl ?_
    refine dgs_cons ?_ ?_
    exact dg_name (by assumption) rfl rfl (by first | exact Or.inl rfl | exact Or.inr rfl)
    refine dgs_cons ?_ ?_
    exact dg_name (by assumption) rfl rfl (by first | exact Or.inl rfl | exact Or.inr rfl)
    exact dgs_nil
    refine ds_one ?_
    refine ds_setPP _ _ _ ?_
    refine add_ok ?_ ?_
    exact de_ixPP _ _ _
    exact de_int
    refine ds_cons ?_ ?_
    refine ds_set (by assumption) rfl rfl (by first | exact Or.inl rfl | exact Or.inr rfl) ?_
    refine de_callTy bi_tuple rfl (by assumption) bb_tuple ?_
    refine da_cons ?_ ?_
    refine de_lcV rfl (by assumption) ?_ (by rfl) ?_ ?_ ?_
    refine di_seq ?_
    exact de_var _
    intros
    exact dg_name (by assumption) rfl rfl (by first | exact Or.inl rfl | exact Or.inr rfl)
    intros
    exact dts_nil
    intros
    refine de_callTy bi_tuple rfl (by assumption) bb_tuple ?_
    refine da_cons ?_ ?_
    exact de_var _
    exact da_nil
    exact da_nil
    refine ds_cons ?_ ?_
    refine ds_set (by assumption) rfl rfl (by first | exact Or.inl rfl | exact Or.inr rfl) ?_
    exact de_var _
    refine ds_cons ?_ ?_
    refine ds_for (by first | assumption | exact ownB) rfl ?_ ?_ ?_
    refine di_seq ?_
    refine de_ofO ?_
    refine do_fun (by assumption) (by assumption) (by decide) (by assumption) rfl (by first | exact takes0 | exact takesB | assumption) ?_
    refine dls_cons ?_ ?_
    refine dl_fr ?_
    exact de_var _
    refine dls_cons ?_ ?_
    refine dl_fr ?_
    exact de_var _
    refine dls_cons ?_ ?_
    refine dl_fr ?_
    exact de_var _
    exact dls_nil
    refine dg_tup rfl ?_
    refine dgs_cons ?_ ?_
    exact dg_name (by assumption) rfl rfl (by first | exact Or.inl rfl | exact Or.inr rfl)
    refine dgs_cons ?_ ?_
    exact dg_name (by assumption) rfl rfl (by first | exact Or.inl rfl | exact Or.inr rfl)
    exact dgs_nil
    refine ds_cons ?_ ?_
    refine ds_set (by assumption) rfl rfl (by first | exact Or.inl rfl | exact Or.inr rfl) ?_
    refine de_ofO ?_
    refine do_fun (by assumption) (by assumption) (by decide) (by assumption) rfl (by first | exact takes0 | exact takesB | assumption) ?_
    refine dls_cons ?_ ?_
    refine dl_fr ?_
    exact de_var _
    refine dls_cons ?_ ?_
    refine dl_fr ?_
    exact de_var _
    refine dls_cons ?_ ?_
    refine dl_fr ?_
    exact de_var _
    exact dls_nil
    refine ds_one ?_
    refine ds_if ?_ ?_ ?_
    refine dt_w ?_
    refine dw_or2 ?_ ?_
    refine dt_cmp ?_ ?_ ?_
    exact c_is
    refine dl_fr ?_
    exact de_var _
    refine dl_fr ?_
    exact de_non
    refine dt_cmp ?_ ?_ ?_
    exact c_ne (hu_of (by assumption))
    refine dl_fr ?_
    refine de_lcV rfl (by assumption) ?_ (by rfl) ?_ ?_ ?_
    refine di_seq ?_
    refine de_ofO ?_
    refine do_fun (by assumption) (by assumption) (by decide) (by assumption) rfl (by first | exact takes0 | exact takesB | assumption) ?_
    refine dls_cons ?_ ?_
    refine dl_fr ?_
    exact de_var _
    exact dls_nil
    intros
    exact dg_name (by assumption) rfl rfl (by first | exact Or.inl rfl | exact Or.inr rfl)
    intros
    refine dts_one ?_
    refine dt_cmp ?_ ?_ ?_
    exact c_notIn (hu5_of (by assumption))
    refine dl_fr ?_
    exact de_var _
    refine dl_fr ?_
    refine de_ofO ?_
    refine do_fun (by assumption) (by assumption) (by decide) (by assumption) rfl (by first | exact takes0 | exact takesB | assumption) ?_
    refine dls_cons ?_ ?_
    refine dl_fr ?_
    exact de_var _
    exact dls_nil
    intros
    exact de_int
    refine dl_fr ?_
    refine de_lst ?_
    exact da_nil
    refine ds_one ?_
    refine ds_ret ?_
    exact de_bl
    exact ds_nil
    refine ds_one ?_
    refine ds_ret ?_
    refine de_cmp ?_ ?_ ?_
    exact c_eq (hu_of (by assumption))
    refine dl_fr ?_
    exact de_var _
    refine dl_fr ?_
    refine de_ofO ?_
    refine do_fun (by assumption) (by assumption) (by decide) (by assumption) rfl (by first | exact takes0 | exact takesB | assumption) ?_
    refine dls_cons ?_ ?_
    refine dl_fr ?_
    exact de_var _
    refine dls_cons ?_ ?_
    refine dl_fr ?_
    exact de_var _
    refine dls_cons ?_ ?_
    refine dl_fr ?_
    exact de_int
    exact dls_nil
theorem fun__law_walks {f : Addr} {fd : FuncData} (D : FunD K "_law_walks" "_law_walks" a__law_walks b__law_walks c__law_walks [] [] f fd) (hg : mg "_law_walks" = some (.ref f)) (h_tuple : mg "tuple" = none) (h_range : mg "range" = none) (F_spare_way : Fun P w K mg base cl "spare_way" 2 3 (lent []) m_spare_way) (F__law_turned : Fun P w K mg base cl "_law_turned" 2 3 (lent []) m__law_turned) (F__law_goes_on : Fun P w K mg base cl "_law_goes_on" 1 1 (lent []) m__law_goes_on) (F__law_steps : Fun P w K mg base cl "_law_steps" 1 1 (lent []) m__law_steps) : Fun P w K mg base cl "_law_walks" 3 3 (lent []) m__law_walks :=
  ⟨f, fd, _, ok__law_walks D h_tuple h_range F_spare_way F__law_turned F__law_goes_on F__law_steps, hg, D.kp, D.bindsN fun _ _ _ _ _ _ us hl => match us, hl with | [_, _, _], _ => rfl⟩
theorem ok__law_pair_ring {f : Addr} {fd : FuncData} (D : FunD K "_law_pair_ring" "_law_pair_ring" a__law_pair_ring b__law_pair_ring c__law_pair_ring [] [] f fd)  : DFn P w K mg base 1 f fd ["one", "two"] (spD ⟨K, cl⟩ (lent []) 2 m__law_pair_ring) :=
  fun_of D sc__law_pair_ring (lent_lt (by decide)) fun cd A out s H E hr hgd => by
    have hN := sc__law_pair_ring.nd
    unfold m__law_pair_ring
    show DSs _ _ _ _ vb__law_pair_ring.1 _
    refine ds_one ?_
    refine ds_ret ?_
    refine de_if ?_ ?_ ?_
    refine dt_cmp ?_ ?_ ?_
    exact c_lt (hu_of (by assumption))
    refine dl_fr ?_
    refine de_ix ?_ ?_
    exact de_var _
    exact de_int
    refine dl_fr ?_
    refine de_ix ?_ ?_
    exact de_var _
    exact de_int
    refine de_tup ?_
    refine da_cons ?_ ?_
    exact de_var _
    refine da_cons ?_ ?_
    exact de_var _
    exact da_nil
    refine de_tup ?_
    refine da_cons ?_ ?_
    exact de_var _
    refine da_cons ?_ ?_
    exact de_var _
    exact da_nil
theorem fun__law_pair_ring {f : Addr} {fd : FuncData} (D : FunD K "_law_pair_ring" "_law_pair_ring" a__law_pair_ring b__law_pair_ring c__law_pair_ring [] [] f fd) (hg : mg "_law_pair_ring" = some (.ref f))  : Fun P w K mg base cl "_law_pair_ring" 1 2 (lent []) m__law_pair_ring :=
  ⟨f, fd, _, ok__law_pair_ring D , hg, D.kp, D.bindsN fun _ _ _ _ _ _ us hl => match us, hl with | [_, _], _ => rfl⟩
theorem ok__law_way {f : Addr} {fd : FuncData} (D : FunD K "_law_way" "_law_way" a__law_way b__law_way c__law_way [] [] f fd) (h_tuple : mg "tuple" = none) (F__law_pair_ring : Fun P w K mg base cl "_law_pair_ring" 1 2 (lent []) m__law_pair_ring) : DFn P w K mg base 2 f fd ["ring", "step"] (spD ⟨K, cl⟩ (lent []) 2 m__law_way) :=
  fun_of D sc__law_way (lent_lt (by decide)) fun cd A out s H E hr hgd => by
    have hN := sc__law_way.nd
    unfold m__law_way
    show DSs _ _ _ _ vb__law_way.1 _
    refine ds_cons ?_ ?_
    refine ds_asg ?_ ?_
    exact de_var _
    refine dg_tup rfl ?_
    refine dgs_cons ?_ ?_
    exact dg_name (by assumption) rfl rfl (by first | exact Or.inl rfl | exact Or.inr rfl)
    refine dgs_cons ?_ ?_
    exact dg_name (by assumption) rfl rfl (by first | exact Or.inl rfl | exact Or.inr rfl)
    exact dgs_nil
    refine ds_cons ?_ ?_
    first | refine ds_par rfl (by assumption) rfl rfl rfl rfl (by decide) rfl rfl ?_ (by rfl) | refine ds_parG rfl (by rfl) (by decide) ?_ (dns_cons (by assumption) rfl (by first | exact Or.inl rfl | exact Or.inr rfl) (dns_cons (by assumption) rfl (by first | exact Or.inl rfl | exact Or.inr rfl) dns_nil))
    refine dtl_cons ?_ ?_
    refine do_lst ?_
    refine dtl_cons ?_ ?_
    refine do_ofE ?_
    refine de_tup ?_
    refine da_cons ?_ ?_
    refine de_ofO ?_
    refine do_fun (by assumption) (by assumption) (by decide) (by assumption) rfl (by first | exact takes0 | exact takesB | assumption) ?_
    refine dls_cons ?_ ?_
    refine dl_fr ?_
    refine de_ix ?_ ?_
    exact de_var _
    exact de_int
    refine dls_cons ?_ ?_
    refine dl_fr ?_
    exact de_var _
    exact dls_nil
    refine da_cons ?_ ?_
    exact de_int
    exact da_nil
    exact dtl_nil
    refine dtl_cons ?_ ?_
    refine do_ofE ?_
    refine de_ix ?_ ?_
    refine de_ix ?_ ?_
    exact de_var _
    exact de_int
    exact de_int
    exact dtl_nil
    refine ds_cons ?_ ?_
    refine ds_for (by first | assumption | exact ownB) rfl ?_ ?_ ?_
    refine di_seq ?_
    refine de_sliceN (by decide) (by decide) ?_ ?_ ?_
    exact de_var _
    exact dp_no
    refine dp_some ?_
    exact de_int
    refine dg_tup rfl ?_
    refine dgs_cons ?_ ?_
    exact dg_name (by assumption) rfl rfl (by first | exact Or.inl rfl | exact Or.inr rfl)
    refine dgs_cons ?_ ?_
    exact dg_name (by assumption) rfl rfl (by first | exact Or.inl rfl | exact Or.inr rfl)
    exact dgs_nil
    refine ds_cons ?_ ?_
    refine ds_expr ?_
    refine de_append _ ?_
    refine do_ofE ?_
    refine de_tup ?_
    refine da_cons ?_ ?_
    refine de_ofO ?_
    refine do_fun (by assumption) (by assumption) (by decide) (by assumption) rfl (by first | exact takes0 | exact takesB | assumption) ?_
    refine dls_cons ?_ ?_
    refine dl_fr ?_
    refine de_tup ?_
    refine da_cons ?_ ?_
    exact de_var _
    refine da_cons ?_ ?_
    exact de_var _
    exact da_nil
    refine dls_cons ?_ ?_
    refine dl_fr ?_
    refine de_tup ?_
    refine da_cons ?_ ?_
    exact de_var _
    refine da_cons ?_ ?_
    exact de_var _
    exact da_nil
    exact dls_nil
    refine da_cons ?_ ?_
    exact de_int
    exact da_nil
    refine ds_one ?_
    refine ds_set (by assumption) rfl rfl (by first | exact Or.inl rfl | exact Or.inr rfl) ?_
    exact de_var _
    refine ds_cons ?_ ?_
    refine ds_expr ?_
    refine de_append _ ?_
    refine do_ofE ?_
    refine de_tup ?_
    refine da_cons ?_ ?_
    refine de_ofO ?_
    refine do_fun (by assumption) (by assumption) (by decide) (by assumption) rfl (by first | exact takes0 | exact takesB | assumption) ?_
    refine dls_cons ?_ ?_
    refine dl_fr ?_
    refine de_tup ?_
    refine da_cons ?_ ?_
    refine de_ix ?_ ?_
    refine de_ix ?_ ?_
    exact de_var _
    exact de_int
    exact de_int
    refine da_cons ?_ ?_
    exact de_var _
    exact da_nil
    refine dls_cons ?_ ?_
    refine dl_fr ?_
    refine de_tup ?_
    refine da_cons ?_ ?_
    exact de_var _
    refine da_cons ?_ ?_
    exact de_var _
    exact da_nil
    exact dls_nil
    refine da_cons ?_ ?_
    exact de_int
    exact da_nil
    refine ds_one ?_
    refine ds_ret ?_
    refine de_callTy bi_tuple rfl (by assumption) bb_tuple ?_
    refine da_cons ?_ ?_
    exact de_var _
    exact da_nil
theorem fun__law_way {f : Addr} {fd : FuncData} (D : FunD K "_law_way" "_law_way" a__law_way b__law_way c__law_way [] [] f fd) (hg : mg "_law_way" = some (.ref f)) (h_tuple : mg "tuple" = none) (F__law_pair_ring : Fun P w K mg base cl "_law_pair_ring" 1 2 (lent []) m__law_pair_ring) : Fun P w K mg base cl "_law_way" 2 2 (lent []) m__law_way :=
  ⟨f, fd, _, ok__law_way D h_tuple F__law_pair_ring, hg, D.kp, D.bindsN fun _ _ _ _ _ _ us hl => match us, hl with | [_, _], _ => rfl⟩
theorem ok_law {f : Addr} {fd : FuncData} (D : FunD K "law" "law" a_law b_law c_law [] [] f fd) (h_range : mg "range" = none) (h_dict : mg "dict" = none) (h_max : mg "max" = none) (h_tuple : mg "tuple" = none) (h_min : mg "min" = none) (h_len : mg "len" = none) (h_repr : mg "repr" = none) (h_int : mg "int" = none) (F__law_pen : Fun P w K mg base cl "_law_pen" 1 1 (lent [0]) m__law_pen) (F__law_rule : Fun P w K mg base cl "_law_rule" 5 2 (lent [0]) m__law_rule) (F__law_rule_of : Fun P w K mg base cl "_law_rule_of" 1 2 (lent []) m__law_rule_of) (F_is_spare : Fun P w K mg base cl "is_spare" 3 3 (lent []) m_is_spare) (F_spare_way : Fun P w K mg base cl "spare_way" 2 3 (lent []) m_spare_way) (F__law_bare_rings : Fun P w K mg base cl "_law_bare_rings" 2 1 (lent []) m__law_bare_rings) (F__law_steps : Fun P w K mg base cl "_law_steps" 1 1 (lent []) m__law_steps) (F__law_draw : Fun P w K mg base cl "_law_draw" 2 2 (lent [0]) m__law_draw) (F__law_is_spare : Fun P w K mg base cl "_law_is_spare" 2 3 (lent []) m__law_is_spare) (F__law_walks : Fun P w K mg base cl "_law_walks" 3 3 (lent []) m__law_walks) (F__law_way : Fun P w K mg base cl "_law_way" 2 2 (lent []) m__law_way) : DFn P w K mg base 6 f fd ["script"] (spD ⟨K, cl⟩ (lent [0]) 1 m_law) :=
  fun_of D sc_law (lent_lt (by decide)) fun cd A out s H E hr hgd => by
    have hN := sc_law.nd
    unfold m_law
    show DSs _ _ _ _ vb_law.1 _
    refine ds_cons ?_ ?_
    refine ds_setO (by assumption) rfl rfl (by first | exact Or.inl rfl | exact Or.inr rfl) ?_
    refine do_fun (by assumption) (by assumption) (by decide) (by assumption) rfl (by first | exact takes0 | exact takesB | assumption) ?_
    refine dls_cons ?_ ?_
    exact dl_pkV _
    exact dls_nil
    refine ds_cons ?_ ?_
    refine ds_for (by first | assumption | exact ownB) rfl ?_ ?_ ?_
    refine di_range1 rfl (by assumption) ?_
    refine da_cons ?_ ?_
    refine de_callB (bi_max rfl) rfl (by assumption) bb_max ?_
    refine da_cons ?_ ?_
    exact de_int
    refine da_cons ?_ ?_
    refine de_callB (bi_min rfl (hu5_of (by assumption))) rfl (by assumption) bb_min ?_
    refine da_cons ?_ ?_
    exact de_int
    refine da_cons ?_ ?_
    exact de_lenS _ rfl (by assumption)
    exact da_nil
    exact da_nil
    exact da_nil
    exact dg_name (by assumption) rfl rfl (by first | exact Or.inl rfl | exact Or.inr rfl)
    refine ds_cons ?_ ?_
    refine ds_set (by assumption) rfl rfl (by first | exact Or.inl rfl | exact Or.inr rfl) ?_
    refine de_ofO ?_
    refine do_fun (by assumption) (by assumption) (by decide) (by assumption) rfl (by first | exact takes0 | exact takesB | assumption) ?_
    refine dls_cons ?_ ?_
    exact dl_pkV _
    refine dls_cons ?_ ?_
    refine dl_fr ?_
    refine add_ok ?_ ?_
    exact de_int
    refine de_ofO ?_
    refine do_fun (by assumption) (by assumption) (by decide) (by assumption) rfl (by first | exact takes0 | exact takesB | assumption) ?_
    refine dls_cons ?_ ?_
    exact dl_pkV _
    refine dls_cons ?_ ?_
    refine dl_fr ?_
    exact de_int
    exact dls_nil
    exact dls_nil
    refine ds_one ?_
    refine ds_for (by first | assumption | exact ownB) rfl ?_ ?_ ?_
    refine di_seq ?_
    refine de_slice ?_ ?_ ?_
    refine de_ofO ?_
    refine do_fun (by assumption) (by assumption) (by decide) (by assumption) rfl (by first | exact takes0 | exact takesB | assumption) ?_
    refine dls_cons ?_ ?_
    refine dl_fr ?_
    exact de_var _
    exact dls_nil
    exact dp_no
    refine dp_some ?_
    exact de_int
    exact dg_name (by assumption) rfl rfl (by first | exact Or.inl rfl | exact Or.inr rfl)
    refine ds_one ?_
    refine ds_for (by first | assumption | exact ownB) rfl ?_ ?_ ?_
    refine di_seq ?_
    refine de_ofO ?_
    refine do_fun (by assumption) (by assumption) (by decide) (by assumption) rfl (by first | exact takes0 | exact takesB | assumption) ?_
    refine dls_cons ?_ ?_
    refine dl_fr ?_
    exact de_var _
    exact dls_nil
    exact dg_name (by assumption) rfl rfl (by first | exact Or.inl rfl | exact Or.inr rfl)
    refine ds_cons ?_ ?_
    refine ds_set (by assumption) rfl rfl (by first | exact Or.inl rfl | exact Or.inr rfl) ?_
    refine de_ofO ?_
    refine do_fun (by assumption) (by assumption) (by decide) (by assumption) rfl (by first | exact takes0 | exact takesB | assumption) ?_
    refine dls_cons ?_ ?_
    refine dl_fr ?_
    exact de_var _
    refine dls_cons ?_ ?_
    refine dl_fr ?_
    exact de_var _
    refine dls_cons ?_ ?_
    refine dl_fr ?_
    exact de_var _
    exact dls_nil
    refine ds_cons ?_ ?_
    refine ds_if ?_ ?_ ?_
    refine dt_cmp ?_ ?_ ?_
    exact c_ne (hu_of (by assumption))
    refine dl_fr ?_
    refine de_callB (bi_repr (hu_of (by assumption)) (by assumption)) rfl (by assumption) bb_repr ?_
    refine da_cons ?_ ?_
    refine de_ofO ?_
    refine do_fun (by assumption) (by assumption) (by decide) (by assumption) rfl (by first | exact takes0 | exact takesB | assumption) ?_
    refine dls_cons ?_ ?_
    refine dl_fr ?_
    exact de_var _
    refine dls_cons ?_ ?_
    refine dl_fr ?_
    exact de_var _
    refine dls_cons ?_ ?_
    refine dl_fr ?_
    exact de_var _
    exact dls_nil
    exact da_nil
    refine dl_fr ?_
    refine de_callB (bi_repr (hu_of (by assumption)) (by assumption)) rfl (by assumption) bb_repr ?_
    refine da_cons ?_ ?_
    exact de_var _
    exact da_nil
    refine ds_one ?_
    refine ds_ret ?_
    exact de_bl
    exact ds_nil
    refine ds_cons ?_ ?_
    refine ds_if ?_ ?_ ?_
    refine dt_w ?_
    refine dw_and2 ?_ ?_
    refine dt_tru ?_
    refine dl_fr ?_
    exact de_var _
    refine dt_not ?_
    refine dt_tru ?_
    refine dl_fr ?_
    refine de_ofO ?_
    refine do_fun (by assumption) (by assumption) (by decide) (by assumption) rfl (by first | exact takes0 | exact takesB | assumption) ?_
    refine dls_cons ?_ ?_
    refine dl_fr ?_
    exact de_var _
    refine dls_cons ?_ ?_
    refine dl_fr ?_
    exact de_var _
    refine dls_cons ?_ ?_
    refine dl_fr ?_
    exact de_var _
    exact dls_nil
    refine ds_one ?_
    refine ds_ret ?_
    exact de_bl
    exact ds_nil
    refine ds_cons ?_ ?_
    refine ds_set (by assumption) rfl rfl (by first | exact Or.inl rfl | exact Or.inr rfl) ?_
    refine de_if ?_ ?_ ?_
    refine dt_tru ?_
    refine dl_fr ?_
    exact de_var _
    refine de_ofO ?_
    refine do_fun (by assumption) (by assumption) (by decide) (by assumption) rfl (by first | exact takes0 | exact takesB | assumption) ?_
    refine dls_cons ?_ ?_
    refine dl_fr ?_
    exact de_var _
    refine dls_cons ?_ ?_
    refine dl_fr ?_
    exact de_var _
    refine dls_cons ?_ ?_
    refine dl_fr ?_
    exact de_var _
    exact dls_nil
    refine de_tup ?_
    exact da_nil
    refine ds_one ?_
    refine ds_if ?_ ?_ ?_
    refine dt_w ?_
    refine dw_and2 ?_ ?_
    refine dt_tru ?_
    refine dl_fr ?_
    exact de_var _
    refine dt_cmp ?_ ?_ ?_
    exact c_ne (hu_of (by assumption))
    refine dl_fr ?_
    refine de_callB (bi_repr (hu_of (by assumption)) (by assumption)) rfl (by assumption) bb_repr ?_
    refine da_cons ?_ ?_
    exact de_var _
    exact da_nil
    refine dl_fr ?_
    refine de_callB (bi_repr (hu_of (by assumption)) (by assumption)) rfl (by assumption) bb_repr ?_
    refine da_cons ?_ ?_
    refine de_ofO ?_
    refine do_fun (by assumption) (by assumption) (by decide) (by assumption) rfl (by first | exact takes0 | exact takesB | assumption) ?_
    refine dls_cons ?_ ?_
    refine dl_fr ?_
    exact de_var _
    refine dls_cons ?_ ?_
    refine dl_fr ?_
    exact de_var _
    exact dls_nil
    exact da_nil
    refine ds_one ?_
    refine ds_ret ?_
    exact de_bl
    exact ds_nil
    refine ds_cons ?_ ?_
    refine ds_setO (by assumption) rfl rfl (by first | exact Or.inl rfl | exact Or.inr rfl) ?_
    first | exact do_dT0 | exact do_dict0 rfl rfl (by assumption)
    refine ds_cons ?_ ?_
    refine ds_for (by first | assumption | exact ownB) rfl ?_ ?_ ?_
    refine di_range1 rfl (by assumption) ?_
    refine da_cons ?_ ?_
    exact de_int
    exact da_nil
    exact dg_name (by assumption) rfl rfl (by first | exact Or.inl rfl | exact Or.inr rfl)
    refine ds_cons ?_ ?_
    refine ds_dput _ (hu_of (by assumption)) ?_ ?_
    exact de_int
    refine de_tup ?_
    refine da_cons ?_ ?_
    exact de_var _
    refine da_cons ?_ ?_
    exact de_int
    exact da_nil
    refine ds_one ?_
    refine ds_dput _ (hu_of (by assumption)) ?_ ?_
    exact de_int
    refine de_tup ?_
    refine da_cons ?_ ?_
    exact de_int
    refine da_cons ?_ ?_
    exact de_var _
    exact da_nil
    refine ds_cons ?_ ?_
    refine ds_for (by first | assumption | exact ownB) rfl ?_ ?_ ?_
    refine di_range1 rfl (by assumption) ?_
    refine da_cons ?_ ?_
    exact de_int
    exact da_nil
    exact dg_name (by assumption) rfl rfl (by first | exact Or.inl rfl | exact Or.inr rfl)
    refine ds_cons ?_ ?_
    refine ds_dput _ (hu_of (by assumption)) ?_ ?_
    exact de_int
    refine de_tup ?_
    refine da_cons ?_ ?_
    exact de_var _
    refine da_cons ?_ ?_
    exact de_var _
    exact da_nil
    refine ds_one ?_
    refine ds_dput _ (hu_of (by assumption)) ?_ ?_
    exact de_int
    refine de_tup ?_
    refine da_cons ?_ ?_
    exact de_var _
    refine da_cons ?_ ?_
    refine mod_ok ?_ ?_
    refine de_callTy bi_int rfl (by assumption) bb_int ?_
    refine da_cons ?_ ?_
    refine add_ok ?_ ?_
    exact de_var _
    exact de_int
    exact da_nil
    exact de_int
    exact da_nil
    refine ds_cons ?_ ?_
    first | refine ds_par rfl (by assumption) rfl rfl rfl rfl (by decide) rfl rfl ?_ (by rfl) | refine ds_parG rfl (by rfl) (by decide) ?_ (dns_cons (by assumption) rfl (by first | exact Or.inl rfl | exact Or.inr rfl) (dns_cons (by assumption) rfl (by first | exact Or.inl rfl | exact Or.inr rfl) dns_nil))
    refine dtl_cons ?_ ?_
    refine do_ofE ?_
    refine de_ofO ?_
    refine do_fun (by assumption) (by assumption) (by decide) (by assumption) rfl (by first | exact takes0 | exact takesB | assumption) ?_
    refine dls_cons ?_ ?_
    refine dl_fr ?_
    exact de_int
    refine dls_cons ?_ ?_
    refine dl_fr ?_
    exact de_var _
    exact dls_nil
    refine dtl_cons ?_ ?_
    refine do_ofE ?_
    refine de_tup ?_
    refine da_cons ?_ ?_
    refine de_tup ?_
    refine da_cons ?_ ?_
    exact de_int
    refine da_cons ?_ ?_
    exact de_int
    exact da_nil
    refine da_cons ?_ ?_
    refine de_tup ?_
    refine da_cons ?_ ?_
    exact de_int
    refine da_cons ?_ ?_
    exact de_int
    exact da_nil
    refine da_cons ?_ ?_
    refine de_tup ?_
    refine da_cons ?_ ?_
    exact de_int
    refine da_cons ?_ ?_
    exact de_int
    exact da_nil
    exact da_nil
    exact dtl_nil
    refine ds_cons ?_ ?_
    refine ds_if ?_ ?_ ?_
    refine dt_w ?_
    refine dw_or2 ?_ ?_
    refine dt_not ?_
    refine dt_tru ?_
    refine dl_fr ?_
    refine de_ofO ?_
    refine do_fun (by assumption) (by assumption) (by decide) (by assumption) rfl (by first | exact takes0 | exact takesB | assumption) ?_
    refine dls_cons ?_ ?_
    refine dl_fr ?_
    exact de_var _
    refine dls_cons ?_ ?_
    refine dl_fr ?_
    exact de_var _
    refine dls_cons ?_ ?_
    refine dl_fr ?_
    refine de_tup ?_
    refine da_cons ?_ ?_
    exact de_int
    refine da_cons ?_ ?_
    exact de_int
    exact da_nil
    exact dls_nil
    refine dt_tru ?_
    refine dl_fr ?_
    refine de_ofO ?_
    refine do_fun (by assumption) (by assumption) (by decide) (by assumption) rfl (by first | exact takes0 | exact takesB | assumption) ?_
    refine dls_cons ?_ ?_
    refine dl_fr ?_
    exact de_var _
    refine dls_cons ?_ ?_
    refine dl_fr ?_
    exact de_var _
    refine dls_cons ?_ ?_
    refine dl_fr ?_
    refine de_tup ?_
    refine da_cons ?_ ?_
    exact de_int
    refine da_cons ?_ ?_
    exact de_int
    exact da_nil
    exact dls_nil
    refine ds_one ?_
    refine ds_ret ?_
    exact de_bl
    exact ds_nil
    refine ds_cons ?_ ?_
    refine ds_set (by assumption) rfl rfl (by first | exact Or.inl rfl | exact Or.inr rfl) ?_
    refine de_tup ?_
    refine da_cons ?_ ?_
    refine de_tup ?_
    refine da_cons ?_ ?_
    refine de_tup ?_
    refine da_cons ?_ ?_
    exact de_int
    refine da_cons ?_ ?_
    exact de_int
    exact da_nil
    refine da_cons ?_ ?_
    refine de_tup ?_
    refine da_cons ?_ ?_
    exact de_int
    refine da_cons ?_ ?_
    exact de_int
    exact da_nil
    exact da_nil
    refine da_cons ?_ ?_
    refine de_tup ?_
    refine da_cons ?_ ?_
    refine de_tup ?_
    refine da_cons ?_ ?_
    exact de_int
    refine da_cons ?_ ?_
    exact de_int
    exact da_nil
    refine da_cons ?_ ?_
    refine de_tup ?_
    refine da_cons ?_ ?_
    exact de_int
    refine da_cons ?_ ?_
    exact de_int
    exact da_nil
    exact da_nil
    refine da_cons ?_ ?_
    refine de_tup ?_
    refine da_cons ?_ ?_
    refine de_tup ?_
    refine da_cons ?_ ?_
    exact de_int
    refine da_cons ?_ ?_
    exact de_int
    exact da_nil
    refine da_cons ?_ ?_
    refine de_tup ?_
    refine da_cons ?_ ?_
    exact de_int
    refine da_cons ?_ ?_
    exact de_int
    exact da_nil
    exact da_nil
    refine da_cons ?_ ?_
    refine de_tup ?_
    refine da_cons ?_ ?_
    refine de_tup ?_
    refine da_cons ?_ ?_
    exact de_int
    refine da_cons ?_ ?_
    exact de_int
    exact da_nil
    refine da_cons ?_ ?_
    refine de_tup ?_
    refine da_cons ?_ ?_
    exact de_int
    refine da_cons ?_ ?_
    exact de_int
    exact da_nil
    exact da_nil
    exact da_nil
    refine ds_one ?_
    refine ds_ret ?_
    refine de_cmp ?_ ?_ ?_
    exact c_eq (hu_of (by assumption))
    refine dl_fr ?_
    refine de_ofO ?_
    refine do_fun (by assumption) (by assumption) (by decide) (by assumption) rfl (by first | exact takes0 | exact takesB | assumption) ?_
    refine dls_cons ?_ ?_
    refine dl_fr ?_
    exact de_var _
    refine dls_cons ?_ ?_
    refine dl_fr ?_
    exact de_var _
    refine dls_cons ?_ ?_
    refine dl_fr ?_
    refine de_tup ?_
    refine da_cons ?_ ?_
    exact de_int
    refine da_cons ?_ ?_
    exact de_int
    exact da_nil
    exact dls_nil
    refine dl_fr ?_
    refine de_callTy bi_tuple rfl (by assumption) bb_tuple ?_
    refine da_cons ?_ ?_
    refine de_lcV rfl (by assumption) ?_ (by rfl) ?_ ?_ ?_
    refine di_seq ?_
    exact de_var _
    intros
    exact dg_name (by assumption) rfl rfl (by first | exact Or.inl rfl | exact Or.inr rfl)
    intros
    exact dts_nil
    intros
    refine de_tup ?_
    refine da_cons ?_ ?_
    exact de_var _
    refine da_cons ?_ ?_
    exact de_int
    exact da_nil
    exact da_nil
end
def fn : List He.DefD := [(⟨("_law_pen", none), "_law_pen", "_law_pen", a__law_pen, b__law_pen, c__law_pen, [], []⟩ : He.DefD), (⟨("_law_fresh", none), "_law_fresh", "_law_fresh", a__law_fresh, b__law_fresh, c__law_fresh, [], []⟩ : He.DefD), (⟨("_law_draw", none), "_law_draw", "_law_draw", a__law_draw, b__law_draw, c__law_draw, [], []⟩ : He.DefD), (⟨("_law_one_of", none), "_law_one_of", "_law_one_of", a__law_one_of, b__law_one_of, c__law_one_of, [], []⟩ : He.DefD), (⟨("_law_rule_of", none), "_law_rule_of", "_law_rule_of", a__law_rule_of, b__law_rule_of, c__law_rule_of, [], []⟩ : He.DefD), (⟨("_law_price", none), "_law_price", "_law_price", a__law_price, b__law_price, c__law_price, [], []⟩ : He.DefD), (⟨("_law_any_rule", none), "_law_any_rule", "_law_any_rule", a__law_any_rule, b__law_any_rule, c__law_any_rule, [], []⟩ : He.DefD), (⟨("_law_line", none), "_law_line", "_law_line", a__law_line, b__law_line, c__law_line, [], []⟩ : He.DefD), (⟨("_law_ring_rule", none), "_law_ring_rule", "_law_ring_rule", a__law_ring_rule, b__law_ring_rule, c__law_ring_rule, [], []⟩ : He.DefD), (⟨("_law_calm_rule", none), "_law_calm_rule", "_law_calm_rule", a__law_calm_rule, b__law_calm_rule, c__law_calm_rule, [], []⟩ : He.DefD), (⟨("_law_rule", none), "_law_rule", "_law_rule", a__law_rule, b__law_rule, c__law_rule, [], []⟩ : He.DefD), (⟨("price_of", none), "price_of", "price_of", a_price_of, b_price_of, c_price_of, [], []⟩ : He.DefD), (⟨("is_allowed", none), "is_allowed", "is_allowed", a_is_allowed, b_is_allowed, c_is_allowed, [], []⟩ : He.DefD), (⟨("is_spare", none), "is_spare", "is_spare", a_is_spare, b_is_spare, c_is_spare, [], []⟩ : He.DefD), (⟨("pair_ring", none), "pair_ring", "pair_ring", a_pair_ring, b_pair_ring, c_pair_ring, [], []⟩ : He.DefD), (⟨("spare_way", none), "spare_way", "spare_way", a_spare_way, b_spare_way, c_spare_way, [], []⟩ : He.DefD), (⟨("_law_steps", none), "_law_steps", "_law_steps", a__law_steps, b__law_steps, c__law_steps, [], []⟩ : He.DefD), (⟨("_law_bare_rings", none), "_law_bare_rings", "_law_bare_rings", a__law_bare_rings, b__law_bare_rings, c__law_bare_rings, [], []⟩ : He.DefD), (⟨("_law_is_spare", none), "_law_is_spare", "_law_is_spare", a__law_is_spare, b__law_is_spare, c__law_is_spare, [], []⟩ : He.DefD), (⟨("_law_goes_on", none), "_law_goes_on", "_law_goes_on", a__law_goes_on, b__law_goes_on, c__law_goes_on, [], []⟩ : He.DefD), (⟨("_law_turned", none), "_law_turned", "_law_turned", a__law_turned, b__law_turned, c__law_turned, [], []⟩ : He.DefD), (⟨("_law_walks", none), "_law_walks", "_law_walks", a__law_walks, b__law_walks, c__law_walks, [], []⟩ : He.DefD), (⟨("_law_pair_ring", none), "_law_pair_ring", "_law_pair_ring", a__law_pair_ring, b__law_pair_ring, c__law_pair_ring, [], []⟩ : He.DefD), (⟨("_law_way", none), "_law_way", "_law_way", a__law_way, b__law_way, c__law_way, [], []⟩ : He.DefD), (⟨("law", none), "law", "law", a_law, b_law, c_law, [], []⟩ : He.DefD)]
def fa : List He.Fa := (He.Fa.glo "_law_pen" :: He.Fa.glo "_law_fresh" :: He.Fa.glo "_law_draw" :: He.Fa.glo "_law_one_of" :: He.Fa.glo "_law_rule_of" :: He.Fa.glo "_law_price" :: He.Fa.glo "_law_any_rule" :: He.Fa.glo "_law_line" :: He.Fa.glo "_law_ring_rule" :: He.Fa.glo "_law_calm_rule" :: He.Fa.glo "_law_rule" :: He.Fa.glo "price_of" :: He.Fa.glo "is_allowed" :: He.Fa.glo "is_spare" :: He.Fa.glo "pair_ring" :: He.Fa.glo "spare_way" :: He.Fa.glo "_law_steps" :: He.Fa.glo "_law_bare_rings" :: He.Fa.glo "_law_is_spare" :: He.Fa.glo "_law_goes_on" :: He.Fa.glo "_law_turned" :: He.Fa.glo "_law_walks" :: He.Fa.glo "_law_pair_ring" :: He.Fa.glo "_law_way" :: He.Fa.glo "law" :: He.Fa.free "list" :: He.Fa.free "range" :: He.Fa.free "int" :: He.Fa.free "len" :: He.Fa.free "tuple" :: He.Fa.free "sorted" :: He.Fa.free "all" :: He.Fa.free "zip" :: He.Fa.free "dict" :: He.Fa.free "max" :: He.Fa.free "min" :: He.Fa.free "repr" :: [])
abbrev R : PySem.W.OpenRow := PySem.W.OpenLaw.row PySem.Challenge.rw_swaprings_k41_spares_judged_and_walked
abbrev hk : PySem.W.Hook := He.hookD 4 fa fn
def ob (s : PySem.W.SharedT) : He.AlD := He.obsDG 4 fa fn (HandSHeadRun.getT s)
theorem ob_eq (s : PySem.W.SharedT) : ob s = hk.obs s.abs := He.obsDG_eq (HandSHeadRun.getT_eq s)
abbrev loose : List Str := [("price_of" : Str), ("is_allowed" : Str), ("is_spare" : Str), ("pair_ring" : Str), ("spare_way" : Str), ("_law_pen" : Str), ("_law_fresh" : Str), ("_law_draw" : Str), ("_law_one_of" : Str), ("_law_line" : Str), ("_law_rule_of" : Str), ("_law_price" : Str), ("_law_any_rule" : Str), ("_law_ring_rule" : Str), ("_law_calm_rule" : Str), ("_law_rule" : Str), ("_law_steps" : Str), ("_law_goes_on" : Str), ("_law_bare_rings" : Str), ("_law_turned" : Str), ("_law_pair_ring" : Str), ("_law_way" : Str), ("_law_is_spare" : Str), ("_law_walks" : Str)]
theorem run (w : World) : HandSHeadRun.RunEq R (PySem.W.view R.prog [27]) hk ob 2000 loose w := by
  intro os
  kernel_rfl
theorem facts {P : Program} {w : World} {K : PySem.W.Frag} {h : Heap} {mg : Str → Option Value} {f : Addr} {cl : Nat → Addr} (X : K.In h) (G : h.Ns mainGlobals mg) (hfa : mg ("law" : Str) = some (.ref f)) (c : He.SaysD fa fn K) :
    ∃ fd : FuncData, (∀ (s : Shared) (v : Value), BindsTo s fd ⟨[v], []⟩ [("script", v)]) ∧ ∀ base : Heap, K.In base → base.Ns mainGlobals mg → DFn P w K mg base 6 f fd ["script"] (spD ⟨K, cl⟩ (lent [0]) 1 m_law) := by
  obtain ⟨d__law_pen, D__law_pen⟩ := c.def_ 0 rfl
  obtain ⟨d__law_fresh, D__law_fresh⟩ := c.def_ 1 rfl
  obtain ⟨d__law_draw, D__law_draw⟩ := c.def_ 2 rfl
  obtain ⟨d__law_one_of, D__law_one_of⟩ := c.def_ 3 rfl
  obtain ⟨d__law_rule_of, D__law_rule_of⟩ := c.def_ 4 rfl
  obtain ⟨d__law_price, D__law_price⟩ := c.def_ 5 rfl
  obtain ⟨d__law_any_rule, D__law_any_rule⟩ := c.def_ 6 rfl
  obtain ⟨d__law_line, D__law_line⟩ := c.def_ 7 rfl
  obtain ⟨d__law_ring_rule, D__law_ring_rule⟩ := c.def_ 8 rfl
  obtain ⟨d__law_calm_rule, D__law_calm_rule⟩ := c.def_ 9 rfl
  obtain ⟨d__law_rule, D__law_rule⟩ := c.def_ 10 rfl
  obtain ⟨d_price_of, D_price_of⟩ := c.def_ 11 rfl
  obtain ⟨d_is_allowed, D_is_allowed⟩ := c.def_ 12 rfl
  obtain ⟨d_is_spare, D_is_spare⟩ := c.def_ 13 rfl
  obtain ⟨d_pair_ring, D_pair_ring⟩ := c.def_ 14 rfl
  obtain ⟨d_spare_way, D_spare_way⟩ := c.def_ 15 rfl
  obtain ⟨d__law_steps, D__law_steps⟩ := c.def_ 16 rfl
  obtain ⟨d__law_bare_rings, D__law_bare_rings⟩ := c.def_ 17 rfl
  obtain ⟨d__law_is_spare, D__law_is_spare⟩ := c.def_ 18 rfl
  obtain ⟨d__law_goes_on, D__law_goes_on⟩ := c.def_ 19 rfl
  obtain ⟨d__law_turned, D__law_turned⟩ := c.def_ 20 rfl
  obtain ⟨d__law_walks, D__law_walks⟩ := c.def_ 21 rfl
  obtain ⟨d__law_pair_ring, D__law_pair_ring⟩ := c.def_ 22 rfl
  obtain ⟨d__law_way, D__law_way⟩ := c.def_ 23 rfl
  obtain ⟨d_law, D_law⟩ := c.def_ 24 rfl
  have g__law_pen := He.glo_ok X G (c.fact 0 (f := .glo "_law_pen") rfl)
  have g__law_fresh := He.glo_ok X G (c.fact 1 (f := .glo "_law_fresh") rfl)
  have g__law_draw := He.glo_ok X G (c.fact 2 (f := .glo "_law_draw") rfl)
  have g__law_one_of := He.glo_ok X G (c.fact 3 (f := .glo "_law_one_of") rfl)
  have g__law_rule_of := He.glo_ok X G (c.fact 4 (f := .glo "_law_rule_of") rfl)
  have g__law_price := He.glo_ok X G (c.fact 5 (f := .glo "_law_price") rfl)
  have g__law_any_rule := He.glo_ok X G (c.fact 6 (f := .glo "_law_any_rule") rfl)
  have g__law_line := He.glo_ok X G (c.fact 7 (f := .glo "_law_line") rfl)
  have g__law_ring_rule := He.glo_ok X G (c.fact 8 (f := .glo "_law_ring_rule") rfl)
  have g__law_calm_rule := He.glo_ok X G (c.fact 9 (f := .glo "_law_calm_rule") rfl)
  have g__law_rule := He.glo_ok X G (c.fact 10 (f := .glo "_law_rule") rfl)
  have g_price_of := He.glo_ok X G (c.fact 11 (f := .glo "price_of") rfl)
  have g_is_allowed := He.glo_ok X G (c.fact 12 (f := .glo "is_allowed") rfl)
  have g_is_spare := He.glo_ok X G (c.fact 13 (f := .glo "is_spare") rfl)
  have g_pair_ring := He.glo_ok X G (c.fact 14 (f := .glo "pair_ring") rfl)
  have g_spare_way := He.glo_ok X G (c.fact 15 (f := .glo "spare_way") rfl)
  have g__law_steps := He.glo_ok X G (c.fact 16 (f := .glo "_law_steps") rfl)
  have g__law_bare_rings := He.glo_ok X G (c.fact 17 (f := .glo "_law_bare_rings") rfl)
  have g__law_is_spare := He.glo_ok X G (c.fact 18 (f := .glo "_law_is_spare") rfl)
  have g__law_goes_on := He.glo_ok X G (c.fact 19 (f := .glo "_law_goes_on") rfl)
  have g__law_turned := He.glo_ok X G (c.fact 20 (f := .glo "_law_turned") rfl)
  have g__law_walks := He.glo_ok X G (c.fact 21 (f := .glo "_law_walks") rfl)
  have g__law_pair_ring := He.glo_ok X G (c.fact 22 (f := .glo "_law_pair_ring") rfl)
  have g__law_way := He.glo_ok X G (c.fact 23 (f := .glo "_law_way") rfl)
  have e := hfa.symm.trans (He.glo_ok X G (c.fact 24 (f := .glo "law") rfl))
  cases e
  have h_list := He.free_ok X G (c.fact 25 (f := .free "list") rfl)
  have h_range := He.free_ok X G (c.fact 26 (f := .free "range") rfl)
  have h_int := He.free_ok X G (c.fact 27 (f := .free "int") rfl)
  have h_len := He.free_ok X G (c.fact 28 (f := .free "len") rfl)
  have h_tuple := He.free_ok X G (c.fact 29 (f := .free "tuple") rfl)
  have h_sorted := He.free_ok X G (c.fact 30 (f := .free "sorted") rfl)
  have h_all := He.free_ok X G (c.fact 31 (f := .free "all") rfl)
  have h_zip := He.free_ok X G (c.fact 32 (f := .free "zip") rfl)
  have h_dict := He.free_ok X G (c.fact 33 (f := .free "dict") rfl)
  have h_max := He.free_ok X G (c.fact 34 (f := .free "max") rfl)
  have h_min := He.free_ok X G (c.fact 35 (f := .free "min") rfl)
  have h_repr := He.free_ok X G (c.fact 36 (f := .free "repr") rfl)
  have b := FunD.bindsA (ps := ["script"]) D_law fun _ _ _ _ _ _ us hl => match us, hl with | [_], _ => rfl
  refine ⟨d_law, fun s v => b s [v] rfl, fun base _ _ => ?_⟩
  have F__law_pen := fun__law_pen (P := P) (w := w) (base := base) (cl := cl) D__law_pen g__law_pen h_list
  have F__law_fresh := fun__law_fresh (P := P) (w := w) (base := base) (cl := cl) D__law_fresh g__law_fresh h_range h_int h_len
  have F__law_draw := fun__law_draw (P := P) (w := w) (base := base) (cl := cl) D__law_draw g__law_draw h_int F__law_fresh
  have F__law_one_of := fun__law_one_of (P := P) (w := w) (base := base) (cl := cl) D__law_one_of g__law_one_of h_len F__law_draw
  have F__law_rule_of := fun__law_rule_of (P := P) (w := w) (base := base) (cl := cl) D__law_rule_of g__law_rule_of h_tuple h_sorted h_list
  have F__law_price := fun__law_price (P := P) (w := w) (base := base) (cl := cl) D__law_price g__law_price F__law_draw
  have F__law_any_rule := fun__law_any_rule (P := P) (w := w) (base := base) (cl := cl) D__law_any_rule g__law_any_rule h_range F__law_one_of F__law_rule_of F__law_draw F__law_price
  have F__law_line := fun__law_line (P := P) (w := w) (base := base) (cl := cl) D__law_line g__law_line h_list h_range h_len F__law_draw
  have F__law_ring_rule := fun__law_ring_rule (P := P) (w := w) (base := base) (cl := cl) D__law_ring_rule g__law_ring_rule h_range F__law_rule_of F__law_draw F__law_line F__law_one_of F__law_price
  have F__law_calm_rule := fun__law_calm_rule (P := P) (w := w) (base := base) (cl := cl) D__law_calm_rule g__law_calm_rule h_sorted h_range F__law_rule_of F__law_line F__law_one_of F__law_price F__law_draw
  have F__law_rule := fun__law_rule (P := P) (w := w) (base := base) (cl := cl) D__law_rule g__law_rule F__law_draw F__law_any_rule F__law_ring_rule F__law_calm_rule
  have F_price_of := fun_price_of (P := P) (w := w) (base := base) (cl := cl) D_price_of g_price_of 
  have F_is_allowed := fun_is_allowed (P := P) (w := w) (base := base) (cl := cl) D_is_allowed g_is_allowed F_price_of
  have F_is_spare := fun_is_spare (P := P) (w := w) (base := base) (cl := cl) D_is_spare g_is_spare h_all F_is_allowed
  have F_pair_ring := fun_pair_ring (P := P) (w := w) (base := base) (cl := cl) D_pair_ring g_pair_ring 
  have F_spare_way := fun_spare_way (P := P) (w := w) (base := base) (cl := cl) D_spare_way g_spare_way h_range h_tuple h_len F_pair_ring
  have F__law_steps := fun__law_steps (P := P) (w := w) (base := base) (cl := cl) D__law_steps g__law_steps 
  have F__law_bare_rings := fun__law_bare_rings (P := P) (w := w) (base := base) (cl := cl) D__law_bare_rings g__law_bare_rings h_sorted h_range h_len h_tuple h_zip F__law_steps
  have F__law_is_spare := fun__law_is_spare (P := P) (w := w) (base := base) (cl := cl) D__law_is_spare g__law_is_spare F__law_steps
  have F__law_goes_on := fun__law_goes_on (P := P) (w := w) (base := base) (cl := cl) D__law_goes_on g__law_goes_on h_zip
  have F__law_turned := fun__law_turned (P := P) (w := w) (base := base) (cl := cl) D__law_turned g__law_turned h_tuple h_list F__law_goes_on
  have F__law_walks := fun__law_walks (P := P) (w := w) (base := base) (cl := cl) D__law_walks g__law_walks h_tuple h_range F_spare_way F__law_turned F__law_goes_on F__law_steps
  have F__law_pair_ring := fun__law_pair_ring (P := P) (w := w) (base := base) (cl := cl) D__law_pair_ring g__law_pair_ring 
  have F__law_way := fun__law_way (P := P) (w := w) (base := base) (cl := cl) D__law_way g__law_way h_tuple F__law_pair_ring
  exact ok_law D_law h_range h_dict h_max h_tuple h_min h_len h_repr h_int F__law_pen F__law_rule F__law_rule_of F_is_spare F_spare_way F__law_bare_rings F__law_steps F__law_draw F__law_is_spare F__law_walks F__law_way
end PD.Lk41

namespace PD.Lk41
open PySem PySem.Spec PyProof.Rows L2 PD
abbrev PP : Type := Int × Int
def pairL (u v : PP) : List PP := if u.1 < v.1 then [u, v] else [v, u]
def wF (x : Int) : Int → List PP → List (List PP)
  | _, [] => []
  | lt, q :: Y => pairL q (x, lt) :: wF x q.2 Y
def wL : Int → List PP → Int
  | lt, [] => lt
  | _, q :: Y => wL q.2 Y
def gF : Int → List PP → List PP
  | _, [] => []
  | lt, q :: Y => (q.1, lt) :: gF q.2 Y
theorem wF_snoc (x : Int) : ∀ (Y : List PP) (lt : Int) (q : PP), wF x lt (Y ++ [q]) = wF x lt Y ++ [pairL q (x, wL lt Y)]
  | [], lt, q => rfl
  | p :: Y, lt, q => by
    show pairL p (x, lt) :: wF x p.2 (Y ++ [q]) = _
    rw [wF_snoc x Y p.2 q]
    rfl
theorem wL_snoc : ∀ (Y : List PP) (lt : Int) (q : PP), wL lt (Y ++ [q]) = q.2
  | [], _, _ => rfl
  | p :: Y, lt, q => wL_snoc Y p.2 q
def wayL (r0 : PP) (X : List PP) (s : PP) : List (List PP) := pairL r0 s :: (wF s.1 r0.2 X.reverse ++ [pairL (r0.1, s.2) (s.1, wL r0.2 X.reverse)])
section
variable {n : Nat} {m : Cl}
structure Cnt (n : Nat) (T : List (List Int)) (P : List PP) : Prop where
  sq : Sq n T
  ct : ∀ p : PP, InN n p → cell T p.1 p.2 = ((P.count p : Nat) : Int)
theorem Cnt.perm {T : List (List Int)} {P Q : List PP} (h : Cnt n T P) (p : P.Perm Q) : Cnt n T Q := ⟨h.sq, fun q hq => by rw [h.ct q hq, p.count_eq]⟩
theorem Cnt.turn {T : List (List Int)} {Q : List PP} {u v : PP} (hm : RowOk n 100 200 m) (h : Cnt n T (u :: v :: Q)) (h1 : u.1 ≠ v.1) (h2 : u.2 ≠ v.2) (ku : u ∈ keysC m) (kv : v ∈ keysC m) (kuv : (u.1, v.2) ∈ keysC m) (kvu : (v.1, u.2) ∈ keysC m) :
    Okr m (pairL u v) ∧ (∀ q, q ∈ pairL u v → 1 ≤ cell T q.1 q.2) ∧ Cnt n (turnT T (pairL u v) 1) ((u.1, v.2) :: (v.1, u.2) :: Q) := by
  obtain ⟨u1, u2⟩ := u
  obtain ⟨v1, v2⟩ := v
  simp only at h1 h2 kuv kvu
  have e : pairL (u1, u2) (v1, v2) = ex2 (u1, v2) v1 u2 := by
    unfold pairL ex2
    rw [sort_two _ _ h1]
  have ok : Okr m (ex2 (u1, v2) v1 u2) := ex2_ok (f := (u1, v2)) (Ne.symm h1) h2 kuv kvu ku kv
  have iu := key_in hm ku
  have iv := key_in hm kv
  have mem : ∀ q, q ∈ pairL (u1, u2) (v1, v2) → q = (u1, u2) ∨ q = (v1, v2) := fun q hq => by
    unfold pairL at hq
    split at hq <;> simp at hq <;> rcases hq with z | z <;> simp [z]
  rw [e] at mem ⊢
  refine ⟨ok, fun q hq => ?_, turn_sq h.sq (fun q hq => key_in hm (ok.mem q hq)) (fun q hq => key_in hm (ok.go q hq)), fun p hp => ?_⟩
  · rcases mem q hq with rfl | rfl
    · rw [h.ct _ iu, count_dl, dl_self]; omega
    · rw [h.ct _ iv, count_dl, count_dl, dl_self]
      have := dl_nn (u1, u2) (v1, v2)
      omega
  · rw [turn_dl hm h.sq (f := (u1, v2)) (Ne.symm h1) h2 ok hp, h.ct p hp]
    simp only [count_dl]
    omega
def Wk (n : Nat) (m : Cl) : List (List Int) → List (List PP) → Prop
  | _, [] => True
  | T, r :: W => Okr m r ∧ Sq n T ∧ (∀ q, q ∈ r → 1 ≤ cell T q.1 q.2) ∧ Wk n m (turnT T r 1) W
def tns (T : List (List Int)) (W : List (List PP)) : List (List Int) := W.foldl (fun T r => turnT T r 1) T
theorem Wk_at : ∀ {W S1 S2 : List (List PP)} {T : List (List Int)} {r : List PP}, Wk n m T W → W = S1 ++ r :: S2 → Okr m r ∧ Sq n (tns T S1) ∧ ∀ q, q ∈ r → 1 ≤ cell (tns T S1) q.1 q.2
  | W, [], S2, T, r, h, e => by
    subst e
    exact ⟨h.1, h.2.1, h.2.2.1⟩
  | W, a :: S1, S2, T, r, h, e => by
    subst e
    exact Wk_at (S1 := S1) h.2.2.2 rfl
theorem Wk_app : ∀ {W V : List (List PP)} {T : List (List Int)}, Wk n m T W → Wk n m (tns T W) V → Wk n m T (W ++ V)
  | [], V, T, _, h => h
  | r :: W, V, T, h, h2 => ⟨h.1, h.2.1, h.2.2.1, Wk_app h.2.2.2 h2⟩
theorem walk (hm : RowOk n 100 200 m) {x : Int} : ∀ (Y : List PP) (lt : Int) (Q : List PP) (T : List (List Int)), Cnt n T ((x, lt) :: (Y ++ Q)) → (x, lt) ∈ keysC m → (∀ g, g ∈ gF lt Y → g ∈ keysC m) → (∀ q, q ∈ Y → q.1 ≠ x ∧ q ∈ keysC m ∧ (x, q.2) ∈ keysC m) → (lt :: Y.map (·.2)).Nodup →
    Wk n m T (wF x lt Y) ∧ Cnt n (tns T (wF x lt Y)) ((x, wL lt Y) :: (gF lt Y ++ Q)) ∧ (x, wL lt Y) ∈ keysC m
  | [], lt, Q, T, h, hk, _, _, _ => ⟨trivial, h, hk⟩
  | q :: Y, lt, Q, T, h, hk, hg, hq, nd => by
    obtain ⟨q1, q2, q3⟩ := hq q List.mem_cons_self
    have nd2 := List.nodup_cons.mp nd
    have ne : q.2 ≠ lt := fun z => nd2.1 (by rw [List.map_cons, z]; exact List.mem_cons_self)
    have h' : Cnt n T (q :: (x, lt) :: (Y ++ Q)) := h.perm (List.Perm.swap _ _ _)
    obtain ⟨o1, o2, o3⟩ := h'.turn hm (v := (x, lt)) q1 ne q2 hk (hg _ List.mem_cons_self) q3
    have o4 : Cnt n (turnT T (pairL q (x, lt)) 1) ((x, q.2) :: (Y ++ ((q.1, lt) :: Q))) := o3.perm ((List.Perm.swap _ _ _).trans ((List.perm_middle).symm.cons _))
    obtain ⟨w1, w2, w3⟩ := walk hm Y q.2 ((q.1, lt) :: Q) _ o4 q3 (fun g hg' => hg g (List.mem_cons_of_mem _ hg')) (fun p hp => hq p (List.mem_cons_of_mem _ hp)) nd2.2
    exact ⟨⟨o1, h.sq, o2, w1⟩, w2.perm ((List.perm_middle).cons _), w3⟩
theorem gF_rev : ∀ (r0 : PP) (X : List PP), 2 ≤ X.length → X.length ≤ 4 → gF r0.2 X.reverse ++ [(r0.1, wL r0.2 X.reverse)] = (goL (r0 :: X)).reverse
  | r0, [b, c], _, _ => rfl
  | r0, [b, c, d], _, _ => rfl
  | r0, [b, c, d, f], _, _ => rfl
  | r0, [], h, _ => by simp at h
  | r0, [b], h, _ => by simp at h
  | r0, b :: c :: d :: f :: g :: Y, _, h => by simp at h
theorem way_ok {r0 : PP} {X : List PP} {s : PP} {T : List (List Int)} (hm : RowOk n 100 200 m) (n5 : n ≤ 5) (hb : IsBare n m (r0 :: X)) (hs : spB m (r0 :: X) s = true) (sk : s ∈ keysC m) (h : Cnt n T ((r0 :: X) ++ [s])) :
    Wk n m T (wayL r0 X s) ∧ tns T (wayL r0 X s) = turnT T (r0 :: X) 1 := by
  have ok := bare_okr' n5 hb
  have l5 := bare_len5 n5 (List.mem_mergeSort.mpr (mem_bareL.mpr hb))
  have l3 := hb.l3
  rw [List.length_cons] at l3 l5
  obtain ⟨o1, o2⟩ := spare_out hb hs
  obtain ⟨x, y⟩ := s
  simp only at o1 o2
  unfold spB at hs
  rw [List.all_eq_true] at hs
  have sp : ∀ q, q ∈ r0 :: X → (x, q.2) ∈ keysC m ∧ (q.1, y) ∈ keysC m := fun q hq => by
    have := hs q hq
    rw [Bool.and_eq_true] at this
    exact ⟨hasK_iff.mp this.1, hasK_iff.mp this.2⟩
  have r0m : r0 ∈ r0 :: X := List.mem_cons_self
  have nx : ∀ q, q ∈ r0 :: X → q.1 ≠ x := fun q hq z => o1 (List.mem_map.mpr ⟨q, hq, z⟩)
  have ny : ∀ q, q ∈ r0 :: X → q.2 ≠ y := fun q hq z => o2 (List.mem_map.mpr ⟨q, hq, z⟩)
  have grev := gF_rev r0 X (by omega) (by omega)
  have gm : ∀ g, g ∈ gF r0.2 X.reverse ++ [(r0.1, wL r0.2 X.reverse)] → g ∈ keysC m := fun g hg => by
    rw [grev] at hg
    exact ok.go g (List.mem_reverse.mp hg)
  -- first
  have h0 : Cnt n T (r0 :: (x, y) :: X) := h.perm (by
    have : ((r0 :: X) ++ [(x, y)]).Perm (r0 :: ((x, y) :: X)) := (List.perm_append_singleton _ _).cons _
    exact this)
  obtain ⟨a1, a2, a3⟩ := h0.turn hm (v := (x, y)) (nx r0 r0m) (ny r0 r0m) (ok.mem r0 r0m) sk (sp r0 r0m).2 (sp r0 r0m).1
  -- the middle
  have a4 : Cnt n (turnT T (pairL r0 (x, y)) 1) ((x, r0.2) :: (X.reverse ++ [(r0.1, y)])) := a3.perm ((List.Perm.swap _ _ _).trans (List.Perm.cons _ ((List.perm_append_singleton _ _).symm.trans ((List.reverse_perm X).symm.append_right _))))
  have nd : (r0.2 :: (X.reverse).map (·.2)).Nodup := by
    have := ok.ndS
    rw [List.map_cons] at this
    rw [List.map_reverse]
    exact ((List.reverse_perm _).cons _).nodup_iff.mpr this
  obtain ⟨w1, w2, w3⟩ := walk hm X.reverse r0.2 [(r0.1, y)] _ a4 (sp r0 r0m).1 (fun g hg => gm g (List.mem_append_left _ hg)) (fun q hq => (let hq' : q ∈ r0 :: X := List.mem_cons_of_mem _ (List.mem_reverse.mp hq); ⟨nx q hq', ok.mem q hq', (sp q hq').1⟩)) nd
  -- the last
  obtain ⟨L, hL⟩ : ∃ L, wL r0.2 X.reverse = L := ⟨_, rfl⟩
  have eW : wayL r0 X (x, y) = (pairL r0 (x, y) :: wF x r0.2 X.reverse) ++ [pairL (r0.1, y) (x, L)] := by unfold wayL; rw [hL]; rfl
  rw [hL] at w2 w3
  have b0 : Cnt n (tns (turnT T (pairL r0 (x, y)) 1) (wF x r0.2 X.reverse)) ((r0.1, y) :: (x, L) :: gF r0.2 X.reverse) := w2.perm (by
    have : ((x, L) :: (gF r0.2 X.reverse ++ [(r0.1, y)])).Perm ((x, L) :: ((r0.1, y) :: gF r0.2 X.reverse)) := (List.perm_append_singleton _ _).cons _
    exact this.trans (List.Perm.swap _ _ _))
  have Ly : L ≠ y := by
    obtain ⟨q, Y, eq⟩ : ∃ q Y, X = q :: Y := by
      cases X with
      | nil => simp at l3
      | cons q Y => exact ⟨q, Y, rfl⟩
    rw [← hL, eq, List.reverse_cons, wL_snoc]
    exact ny q (by rw [eq]; simp)
  obtain ⟨b1, b2, b3⟩ := b0.turn hm (u := (r0.1, y)) (v := (x, L)) (nx r0 r0m) (Ne.symm Ly) (sp r0 r0m).2 w3 (gm _ (List.mem_append_right _ (by rw [hL]; simp))) sk
  refine ⟨by rw [eW]; exact Wk_app ⟨a1, h.sq, a2, w1⟩ ⟨b1, b0.sq, b2, trivial⟩, ?_⟩
  have eT : tns T (wayL r0 X (x, y)) = turnT (tns (turnT T (pairL r0 (x, y)) 1) (wF x r0.2 X.reverse)) (pairL (r0.1, y) (x, L)) 1 := by
    rw [eW]
    unfold tns
    rw [List.foldl_append]
    rfl
  rw [eT]
  refine tab_ext b3.sq (turn_sq h.sq (fun q hq => key_in hm (ok.mem q hq)) fun q hq => key_in hm (ok.go q hq)) fun p hp => ?_
  rw [b3.ct p hp, cell_turn hm h.sq hp ok.mem ok.go, h.ct p hp]
  have c1 : (((r0.1, L) :: (x, y) :: gF r0.2 X.reverse).count p) = (goL (r0 :: X)).count p + [(x, y)].count p := by
    have : ((r0.1, L) :: (x, y) :: gF r0.2 X.reverse).Perm (goL (r0 :: X) ++ [(x, y)]) := by
      have e1 : ((gF r0.2 X.reverse ++ [(r0.1, L)]) ++ [(x, y)]).Perm (goL (r0 :: X) ++ [(x, y)]) := by
        rw [← hL, grev]
        exact (List.reverse_perm _).append_right _
      refine List.Perm.trans ?_ e1
      rw [List.append_assoc]
      exact (List.perm_append_comm (l₁ := [(r0.1, L), (x, y)]) (l₂ := gF r0.2 X.reverse))
    rw [this.count_eq, List.count_append]
  rw [c1, List.count_append]
  omega
end
def tw (r : List PP) : PyData := tnD (r, 1)
theorem pair_spec {u v : PP} (e : Env) (h0 : e 0 = some (.v (pairD u))) (h1 : e 1 = some (.v (pairD v))) : wp m_pair_ring e (fun x _ => x = .rt (.v (rgD (pairL u v)))) fun _ _ => False := by
  unfold m_pair_ring
  rw [wp_sRet, wp_mIf]
  refine (g_cmpI (g_ix (g_var h0) (ix_p0 _)) (g_ix (g_var h1) (ix_p0 _)) ltD_int).wp ?_
  unfold pairL
  by_cases c : u.1 < v.1
  · rw [if_pos (decide_eq_true c), if_pos c]
    exact (g_tupA (.cons (g_var h0) (.cons (g_var h1) .nil)) (by simp)).wp rfl
  · rw [if_neg (by rw [decide_eq_true_eq]; exact c), if_neg c]
    exact (g_tupA (.cons (g_var h1) (.cons (g_var h0) .nil)) (by simp)).wp rfl
theorem lpair_spec {u v : PP} (e : Env) (h0 : e 0 = some (.v (pairD u))) (h1 : e 1 = some (.v (pairD v))) : wp m__law_pair_ring e (fun x _ => x = .rt (.v (rgD (pairL u v)))) fun _ _ => False := pair_spec e h0 h1
theorem rng3_down {i j : Int} (h1 : -(2 ^ 62) ≤ i) (h2 : i < 2 ^ 62) (h3 : -(2 ^ 62) ≤ j) (h4 : j < 2 ^ 62) : rng3 [.int i, .int j, .int (-1)] = some (downD i (i - j).toNat) := if_pos ⟨rfl, h1, h2, h3, h4⟩
theorem stN {α : Type} (xs : List α) (n : Nat) (h : xs.length = n) (a : Int) (k : Nat) (h1 : PySem.Builtin.Slice.sliceAdjust none (some 0) stN1 n = (a, 0)) (h2 : PySem.Builtin.Slice.slicePlaces a 0 stN1 = k) : stepT xs none (some 0) stN1 = (List.range k).filterMap fun (m : Nat) => xs[(a + (m : Int) * stN1).toNat]? := by
  unfold stepT
  rw [h, h1, h2]
theorem stD {xs ys : List PyData} (h : stepT xs none (some 0) stN1 = ys) (hl : ys.length ≤ 1000) : stepD (.tuple xs) none (some 0) stN1 = some (.tuple ys) := by
  unfold stepD
  simp only []
  rw [h, if_pos (size_le hl)]
theorem sl_rev : ∀ (r0 : PP) (X : List PP), 2 ≤ X.length → X.length ≤ 4 → stepD (rgD (r0 :: X)) none (some 0) stN1 = some (.tuple (X.reverse.map pairD))
  | r0, [b, c], _, _ => stD (by rw [stN _ 3 rfl 2 2 (by decide) (by decide)]; rfl) (by simp)
  | r0, [b, c, d], _, _ => stD (by rw [stN _ 4 rfl 3 3 (by decide) (by decide)]; rfl) (by simp)
  | r0, [b, c, d, f], _, _ => stD (by rw [stN _ 5 rfl 4 4 (by decide) (by decide)]; rfl) (by simp)
  | r0, [], h, _ => by simp at h
  | r0, [b], h, _ => by simp at h
  | r0, b :: c :: d :: f :: g :: Y, _, h => by simp at h
theorem gOne {e : Env} {f : M Fl} {a b : M PyData} {u v : PP} (hf : ∀ e : Env, e 0 = some (.v (pairD u)) → e 1 = some (.v (pairD v)) → wp f e (fun x _ => x = .rt (.v (rgD (pairL u v)))) fun _ _ => False) (ha : Gives a e (pairD u) fun _ _ => False) (hb : Gives b e (pairD v) fun _ _ => False) :
    Gives (mV (mArgs tupF (aCons (mFz (mCall (lent []) 2 f (oCons (mFr a) (oCons (mFr b) oNil)))) (aCons (mC (.int 1)) aNil)))) e (.v (tw (pairL u v))) fun _ _ => False := by
  unfold Gives
  rw [wp_mV]
  exact (g_tupA (.cons (g_c2 ha hb hf) (.cons g_int .nil)) (by simp)).wp ⟨rfl, rfl⟩
theorem lawWay_spec {r0 : PP} {X : List PP} {s : PP} (x2 : 2 ≤ X.length) (x4 : X.length ≤ 4) (e : Env) (h0 : e 0 = some (.v (rgD (r0 :: X)))) (h1 : e 1 = some (.v (pairD s))) :
    wp m__law_way e (fun x _ => x = .rt (.v (.tuple ((wayL r0 X s).map tw)))) fun _ _ => False := by
  have ix0' : ixD (rgD (r0 :: X)) (.int 0) = some (pairD r0) := L2.atI_nat (j := 0) rfl
  unfold m__law_way
  refine wp_seqK (fun e' => e' 0 = some (.v (rgD (r0 :: X))) ∧ e' 1 = some (.v (pairD s)) ∧ e' 2 = some (.v (.int s.1)) ∧ e' 3 = some (.v (.int s.2))) ?_ fun e1 ⟨a0, a1, a2, a3⟩ => ?_
  · rw [wp_sAsg]
    exact (g_var h1).wp ⟨_, rfl, by simpa using h0, by simpa using h1, by simp, by simp⟩
  refine wp_seqK (fun e' => e' 0 = some (.v (rgD (r0 :: X))) ∧ e' 2 = some (.v (.int s.1)) ∧ e' 3 = some (.v (.int s.2)) ∧ e' 4 = some (ownF tw [pairL r0 s]) ∧ e' 5 = some (.v (.int r0.2))) ?_ fun e2 ⟨b0, b2, b3, b4, b5⟩ => ?_
  · rw [wp_sPar, wp_tCn, wp_mLstO, wp_tCn]
    refine (gOne lpair_spec (g_ix (g_var a0) ix0') (g_var a1)).wp ?_
    rw [wp_tNl]
    refine ⟨by show 1 ≤ sizeLine; decide, ?_⟩
    rw [wp_tCn, wp_mV]
    refine (g_ix (g_ix (g_var a0) ix0') (ix_p1 _)).wp ?_
    rw [wp_tNl]
    exact ⟨_, rfl, by simpa using a0, by simpa using a2, by simpa using a3, by simp [ownF], by simp⟩
  refine wp_seqK (fun e' => e' 0 = some (.v (rgD (r0 :: X))) ∧ e' 2 = some (.v (.int s.1)) ∧ e' 3 = some (.v (.int s.2)) ∧ e' 4 = some (ownF tw (pairL r0 s :: wF s.1 r0.2 X.reverse)) ∧ e' 5 = some (.v (.int (wL r0.2 X.reverse)))) ?_ fun e3 ⟨c0, c2, c3, c4, c5⟩ => ?_
  · rw [wp_sFor, wp_mI]
    have gs : Gives (mSlK (mVar 0) mNo (mPart (mC (.int 0))) stN1) e2 (.tuple (X.reverse.map pairD)) fun _ _ => False := by
      unfold Gives mSlK
      rw [wp_bind]
      refine (g_var b0).wp ?_
      rw [wp_bind, wp_mNo, wp_bind, wp_mPart, wp_mC]
      refine ⟨0, rfl, ?_⟩
      rw [wp_lift]
      exact ⟨_, sl_rev r0 X x2 x4, rfl, rfl⟩
    refine gs.wp ⟨_, rfl, ?_⟩
    refine wp_forS (S := X.reverse) (g := pairD) (fun U e' => e' 0 = some (.v (rgD (r0 :: X))) ∧ e' 2 = some (.v (.int s.1)) ∧ e' 3 = some (.v (.int s.2)) ∧ e' 4 = some (ownF tw (pairL r0 s :: wF s.1 r0.2 U)) ∧ e' 5 = some (.v (.int (wL r0.2 U)))) ⟨b0, b2, b3, b4, b5⟩ ?_ fun e' h => h
    rintro S1 q S2 e' hS ⟨y0, y2, y3, y4, y5⟩
    have sl : S1.length ≤ 4 := by
      have := congrArg List.length hS
      simp at this
      omega
    refine ⟨setE (setE e' 6 (some (.v (.int q.1)))) 7 (some (.v (.int q.2))), rfl, ?_⟩
    have z0 : setE (setE e' 6 (some (T.v (.int q.1)))) 7 (some (.v (.int q.2))) 0 = some (.v (rgD (r0 :: X))) := by simpa using y0
    have z2 : setE (setE e' 6 (some (T.v (.int q.1)))) 7 (some (.v (.int q.2))) 2 = some (.v (.int s.1)) := by simpa using y2
    have z3 : setE (setE e' 6 (some (T.v (.int q.1)))) 7 (some (.v (.int q.2))) 3 = some (.v (.int s.2)) := by simpa using y3
    have z4 : setE (setE e' 6 (some (T.v (.int q.1)))) 7 (some (.v (.int q.2))) 4 = some (ownF tw (pairL r0 s :: wF s.1 r0.2 S1)) := by simpa using y4
    have z5 : setE (setE e' 6 (some (T.v (.int q.1)))) 7 (some (.v (.int q.2))) 5 = some (.v (.int (wL r0.2 S1))) := by simpa using y5
    have z6 : setE (setE e' 6 (some (T.v (.int q.1)))) 7 (some (.v (.int q.2))) 6 = some (.v (.int q.1)) := by simp
    have z7 : setE (setE e' 6 (some (T.v (.int q.1)))) 7 (some (.v (.int q.2))) 7 = some (.v (.int q.2)) := by simp
    generalize setE (setE e' 6 (some (T.v (.int q.1)))) 7 (some (.v (.int q.2))) = e4 at z0 z2 z3 z4 z5 z6 z7
    rw [wp_sSeq, wp_sExpr]
    have wl : ∀ (Y : List PP) (lt : Int), (wF s.1 lt Y).length = Y.length := fun Y => by
      induction Y with
      | nil => intro _; rfl
      | cons a Y ih => intro lt; show (wF s.1 a.2 Y).length + 1 = _; rw [ih, List.length_cons]
    refine wp_appB (f := tw) (L := pairL r0 s :: wF s.1 r0.2 S1) (x := pairL q (s.1, wL r0.2 S1)) z4 (by rw [List.length_cons, wl]; omega) (gOne lpair_spec (g_tup2 (g_var z6) (g_var z7)) (g_tup2 (g_var z2) (g_var z5))) ?_
    simp only []
    rw [wp_sSet]
    refine (g_var (d := .int q.2) (by simpa using z7)).wp ⟨rfl, by simpa using z0, by simpa using z2, by simpa using z3, ?_, ?_⟩
    · rw [wF_snoc]; simp
    · rw [wL_snoc]; simp
  have wl : ∀ (Y : List PP) (lt : Int), (wF s.1 lt Y).length = Y.length := fun Y => by
    induction Y with
    | nil => intro _; rfl
    | cons a Y ih => intro lt; show (wF s.1 a.2 Y).length + 1 = _; rw [ih, List.length_cons]
  rw [wp_sSeq, wp_sExpr]
  refine wp_appB (f := tw) (L := pairL r0 s :: wF s.1 r0.2 X.reverse) (x := pairL (r0.1, s.2) (s.1, wL r0.2 X.reverse)) c4 (by rw [List.length_cons, wl, List.length_reverse]; omega) (gOne lpair_spec (g_tup2 (g_ix (g_ix (g_var c0) ix0') (ix_p0 _)) (g_var c3)) (g_tup2 (g_var c2) (g_var c5))) ?_
  simp only []
  rw [wp_sRet, wp_mArgs, wp_aCons, wp_mVar, setE_same]
  rw [show ownF tw ((pairL r0 s :: wF s.1 r0.2 X.reverse) ++ [pairL (r0.1, s.2) (s.1, wL r0.2 X.reverse)]) = .lst ((wayL r0 X s).map fun x => T.v (tw x)) from rfl, onVar_lst]
  refine ⟨_, fz_own tw (wayL r0 X s), ?_⟩
  rw [wp_aNil]
  exact ⟨_, tupleF_list, rfl⟩
theorem range_at {N k : Nat} {S1 S2 : List Nat} (h : List.range N = S1 ++ k :: S2) : k = S1.length ∧ k < N := by
  have h1 : (List.range N)[S1.length]? = some k := by rw [h, List.getElem?_append_right (Nat.le_refl _)]; simp
  obtain ⟨h2, h3⟩ := List.getElem?_eq_some_iff.mp h1
  rw [List.getElem_range] at h3
  rw [List.length_range] at h2
  exact ⟨h3.symm, by omega⟩
theorem spareWay_spec {R : PyData} {r0 : PP} {X : List PP} {s : PP} (x2 : 2 ≤ X.length) (x4 : X.length ≤ 4) (e : Env) (h1 : e 1 = some (.v (rgD (r0 :: X)))) (h2 : e 2 = some (.v (pairD s))) :
    wp m_spare_way e (fun x _ => x = .rt (.v (.tuple ((wayL r0 X s).map tw)))) fun _ _ => False := by
  have ix0' : ixD (rgD (r0 :: X)) (.int 0) = some (pairD r0) := L2.atI_nat (j := 0) rfl
  have wl : ∀ (Y : List PP) (lt : Int), (wF s.1 lt Y).length = Y.length := fun Y => by
    induction Y with
    | nil => intro _; rfl
    | cons a Y ih => intro lt; show (wF s.1 a.2 Y).length + 1 = _; rw [ih, List.length_cons]
  unfold m_spare_way
  refine wp_seqK (fun e' => e' 1 = some (.v (rgD (r0 :: X))) ∧ e' 2 = some (.v (pairD s)) ∧ e' 3 = some (.v (.int s.1)) ∧ e' 4 = some (.v (.int s.2))) ?_ fun e1 ⟨a1, a2, a3, a4⟩ => ?_
  · rw [wp_sAsg]
    exact (g_var h2).wp ⟨_, rfl, by simpa using h1, by simpa using h2, by simp, by simp⟩
  refine wp_seqK (fun e' => e' 1 = some (.v (rgD (r0 :: X))) ∧ e' 3 = some (.v (.int s.1)) ∧ e' 4 = some (.v (.int s.2)) ∧ e' 5 = some (ownF tw [pairL r0 s])) ?_ fun e2 ⟨b1, b3, b4, b5⟩ => ?_
  · rw [wp_sSetO, wp_mLstO, wp_tCn]
    refine (gOne pair_spec (g_ix (g_var a1) ix0') (g_var a2)).wp ?_
    rw [wp_tNl]
    exact ⟨by show 1 ≤ sizeLine; decide, by simpa using a1, by simpa using a3, by simpa using a4, by simp [ownF]⟩
  have gl : ∀ e' : Env, e' 1 = some (.v (rgD (r0 :: X))) → Gives (mLen (mFr (mVar 1))) e' (.int ((r0 :: X).length : Nat)) fun _ _ => False := fun e' h => g_len (g_var h) (by show lenD (.tuple _) = _; rw [lenD_tup, List.length_map])
  refine wp_seqK (fun e' => e' 1 = some (.v (rgD (r0 :: X))) ∧ e' 3 = some (.v (.int s.1)) ∧ e' 4 = some (.v (.int s.2)) ∧ e' 5 = some (ownF tw (pairL r0 s :: wF s.1 r0.2 X.reverse))) ?_ fun e3 ⟨c1, c3, c4, c5⟩ => ?_
  · rw [wp_sFor, wp_mIA, wp_aCons]
    refine (g_sub (gl e2 b1) g_int).wp ?_
    rw [wp_aCons, wp_mC, wp_aCons]
    refine (g_neg1 (Ψ := fun _ _ => False)).wp ?_
    rw [wp_aNil]
    have er : rng3 [.int (((r0 :: X).length : Nat) - 1), .int 0, .int (-1)] = some ((List.range X.length).map fun k : Nat => PyData.int ((X.length : Int) + (k : Nat) * (-1))) := by
      have e1 : (((r0 :: X).length : Nat) : Int) - 1 = (X.length : Int) := by rw [List.length_cons]; omega
      rw [e1]
      rw [rng3_down (by omega) (by omega) (by omega) (by omega)]
      unfold downD
      rw [show ((X.length : Int) - 0).toNat = X.length by omega]
    refine ⟨_, er, ?_⟩
    refine wp_forS (S := List.range X.length) (g := fun k : Nat => PyData.int ((X.length : Int) + (k : Nat) * (-1))) (fun U e' => e' 1 = some (.v (rgD (r0 :: X))) ∧ e' 3 = some (.v (.int s.1)) ∧ e' 4 = some (.v (.int s.2)) ∧ e' 5 = some (ownF tw (pairL r0 s :: wF s.1 r0.2 (X.reverse.take U.length)))) ⟨b1, b3, b4, b5⟩ ?_ fun e' ⟨h1, h3, h4, h5⟩ => ⟨h1, h3, h4, by rw [h5, List.length_range, List.take_of_length_le (by rw [List.length_reverse]; exact Nat.le_refl _)]⟩
    rintro S1 k S2 e' hS ⟨y1, y3, y4, y5⟩
    obtain ⟨hk, kl⟩ := range_at hS
    refine ⟨setE e' 6 (some (.v (.int ((X.length : Int) + (k : Nat) * (-1))))), rfl, ?_⟩
    have z1 : setE e' 6 (some (T.v (.int ((X.length : Int) + (k : Nat) * (-1))))) 1 = some (.v (rgD (r0 :: X))) := by simpa using y1
    have z3 : setE e' 6 (some (T.v (.int ((X.length : Int) + (k : Nat) * (-1))))) 3 = some (.v (.int s.1)) := by simpa using y3
    have z4 : setE e' 6 (some (T.v (.int ((X.length : Int) + (k : Nat) * (-1))))) 4 = some (.v (.int s.2)) := by simpa using y4
    have z5 : setE e' 6 (some (T.v (.int ((X.length : Int) + (k : Nat) * (-1))))) 5 = some (ownF tw (pairL r0 s :: wF s.1 r0.2 (X.reverse.take S1.length))) := by simpa using y5
    have z6 : setE e' 6 (some (T.v (.int ((X.length : Int) + (k : Nat) * (-1))))) 6 = some (.v (.int ((X.length : Int) + (k : Nat) * (-1)))) := setE_same
    generalize setE e' 6 (some (T.v (.int ((X.length : Int) + (k : Nat) * (-1))))) = e4 at z1 z3 z4 z5 z6
    rw [← hk] at z5
    have kr : k < X.reverse.length := by rw [List.length_reverse]; exact kl
    obtain ⟨q, hq⟩ : ∃ q, X.reverse[k]? = some q := ⟨_, List.getElem?_eq_getElem kr⟩
    have tk : X.reverse.take (k + 1) = X.reverse.take k ++ [q] := by rw [List.take_add_one, hq]; rfl
    -- the step before
    obtain ⟨p, hp, hp2⟩ : ∃ p : PP, ixD (rgD (r0 :: X)) (.int (-(k : Nat))) = some (pairD p) ∧ p.2 = wL r0.2 (X.reverse.take k) := by
      rcases Nat.eq_zero_or_pos k with z | z
      · subst z
        exact ⟨r0, ix0', rfl⟩
      · have kr' : k - 1 < X.reverse.length := by omega
        obtain ⟨p, hp⟩ : ∃ p, X.reverse[k - 1]? = some p := ⟨_, List.getElem?_eq_getElem kr'⟩
        refine ⟨p, ?_, ?_⟩
        · rw [List.getElem?_reverse (by rw [List.length_reverse] at kr'; exact kr')] at hp
          show L2.atI ((r0 :: X).map pairD) (-(k : Nat)) = _
          unfold L2.atI
          have hi : L2.ixN ((r0 :: X).map pairD).length (-(k : Nat)) = some (X.length + 1 - k) := by
            unfold L2.ixN
            rw [List.length_map, List.length_cons, if_neg (by omega), if_pos (by omega)]
            congr 1
            omega
          rw [hi]
          show ((r0 :: X).map pairD)[X.length + 1 - k]? = _
          rw [List.getElem?_map, show X.length + 1 - k = (X.length - 1 - (k - 1)) + 1 by omega, List.getElem?_cons_succ, hp]
          rfl
        · have : X.reverse.take k = X.reverse.take (k - 1) ++ [p] := by
            have := List.take_add_one (l := X.reverse) (i := k - 1)
            rw [show k - 1 + 1 = k by omega, hp] at this
            exact this
          rw [this, wL_snoc]
    have hat : ixD (rgD (r0 :: X)) (.int ((X.length : Int) + (k : Nat) * (-1))) = some (pairD q) := by
      rw [List.getElem?_reverse kl] at hq
      rw [show (X.length : Int) + (k : Nat) * (-1) = ((X.length - k : Nat) : Int) by omega]
      refine L2.atI_nat ?_
      rw [List.getElem?_map, show X.length - k = (X.length - 1 - k) + 1 by omega, List.getElem?_cons_succ, hq]
      rfl
    refine wp_seqK (fun e' => e' 1 = some (.v (rgD (r0 :: X))) ∧ e' 3 = some (.v (.int s.1)) ∧ e' 4 = some (.v (.int s.2)) ∧ e' 5 = some (ownF tw (pairL r0 s :: wF s.1 r0.2 (X.reverse.take k))) ∧ e' 6 = some (.v (.int ((X.length : Int) + (k : Nat) * (-1)))) ∧ e' 7 = some (.v (pairD p))) ?_ fun e5 ⟨w1, w3, w4, w5, w6, w7⟩ => ?_
    · rw [wp_sSet]
      have gi := g_sub (g_add (g_var z6) (g_int (i := 1))) (gl e4 z1)
      rw [show (X.length : Int) + (k : Nat) * (-1) + 1 - ((r0 :: X).length : Nat) = -((k : Nat) : Int) by rw [List.length_cons]; omega] at gi
      refine (g_ixV (g_var z1) gi hp).wp ?_
      exact ⟨by simpa using z1, by simpa using z3, by simpa using z4, by simpa using z5, by simpa using z6, by simp⟩
    · rw [wp_sExpr]
      refine wp_appB (f := tw) (L := pairL r0 s :: wF s.1 r0.2 (X.reverse.take k)) (x := pairL q (s.1, wL r0.2 (X.reverse.take k))) w5 (by rw [List.length_cons, wl]; have := List.length_take_le k X.reverse; omega) (gOne pair_spec (g_ixV (g_var w1) (g_var w6) hat) (g_tup2 (g_var w3) (by rw [← hp2]; exact g_ix (g_var w7) (ix_p1 _)))) ?_
      refine ⟨rfl, by simpa using w1, by simpa using w3, by simpa using w4, ?_⟩
      rw [setE_same, List.length_append, List.length_singleton, ← hk, tk, wF_snoc]
      rfl
  obtain ⟨b, Y, eX⟩ : ∃ b Y, X = b :: Y := by
    cases X with
    | nil => simp at x2
    | cons b Y => exact ⟨b, Y, rfl⟩
  have ix1' : ixD (rgD (r0 :: X)) (.int 1) = some (pairD b) := by rw [eX]; exact L2.atI_nat (j := 1) rfl
  have eb : wL r0.2 X.reverse = b.2 := by rw [eX, List.reverse_cons, wL_snoc]
  rw [wp_sSeq, wp_sExpr]
  refine wp_appB (f := tw) (L := pairL r0 s :: wF s.1 r0.2 X.reverse) (x := pairL (r0.1, s.2) (s.1, wL r0.2 X.reverse)) c5 (by rw [List.length_cons, wl, List.length_reverse]; omega) (gOne pair_spec (g_tup2 (g_ix (g_ix (g_var c1) ix0') (ix_p0 _)) (g_var c4)) (g_tup2 (g_var c3) (by rw [eb]; exact g_ix (g_ix (g_var c1) ix1') (ix_p1 _)))) ?_
  simp only []
  rw [wp_sRet, wp_mArgs, wp_aCons, wp_mVar, setE_same]
  rw [show ownF tw ((pairL r0 s :: wF s.1 r0.2 X.reverse) ++ [pairL (r0.1, s.2) (s.1, wL r0.2 X.reverse)]) = .lst ((wayL r0 X s).map fun x => T.v (tw x)) from rfl, onVar_lst]
  refine ⟨_, fz_own tw (wayL r0 X s), ?_⟩
  rw [wp_aNil]
  exact ⟨_, tupleF_list, rfl⟩
section
variable {n : Nat} {m : Cl}
theorem walks_spec {r0 : PP} {X : List PP} {s : PP} (hm : RowOk n 100 200 m) (n5 : n ≤ 5) (hb : IsBare n m (r0 :: X)) (hs : spB m (r0 :: X) s = true) (sk : s ∈ keysC m) (e : Env) (h0 : e 0 = some (.v (ruleD n m))) (h1 : e 1 = some (.v (rgD (r0 :: X)))) (h2 : e 2 = some (.v (pairD s))) :
    wp m__law_walks e (fun x _ => x = .rt (.v (.bool true))) fun _ _ => False := by
  have ok := bare_okr' n5 hb
  have l5 := bare_len5 n5 (List.mem_mergeSort.mpr (mem_bareL.mpr hb))
  have l3 := hb.l3
  rw [List.length_cons] at l3 l5
  have inP : ∀ q, q ∈ (r0 :: X) ++ [s] → InN n q := fun q hq => by
    rcases List.mem_append.mp hq with z | z
    · exact hb.rng q z
    · rw [List.mem_singleton.mp z]; exact key_in hm sk
  unfold m__law_walks
  refine wp_seqK (fun e' => e' 0 = some (.v (ruleD n m)) ∧ e' 1 = some (.v (rgD (r0 :: X))) ∧ e' 2 = some (.v (pairD s)) ∧ e' 3 = some (cellsT (zeroT n))) ?_ fun e1 ⟨a0, a1, a2, a3⟩ => ?_
  · rw [wp_sSetO]
    exact wp_zeros (by decide) h0 (by omega) ⟨by simpa using h0, by simpa using h1, by simpa using h2, by simp⟩
  refine wp_seqK (fun e' => e' 0 = some (.v (ruleD n m)) ∧ e' 1 = some (.v (rgD (r0 :: X))) ∧ e' 2 = some (.v (pairD s)) ∧ ∃ B0, e' 3 = some (cellsT B0) ∧ Cnt n B0 ((r0 :: X) ++ [s])) ?_ fun e2 ⟨b0, b1, b2, B0, b3, cT⟩ => ?_
  · rw [wp_sFor, wp_mI]
    have gx : Gives (mBin addD (mVar 1) (mArgs tupF (aCons (mVar 2) aNil))) e1 (.tuple (((r0 :: X) ++ [s]).map pairD)) fun _ _ => False := by
      have := g_addT (g_var (Ψ := fun _ _ => False) (d := .tuple ((r0 :: X).map pairD)) a1) (g_tupA (.cons (g_var a2) .nil) (by simp)) (by rw [List.length_map, List.length_cons]; simp; omega)
      rw [List.map_append]
      exact this
    refine gx.wp ⟨_, rfl, ?_⟩
    refine wp_forS (S := (r0 :: X) ++ [s]) (g := pairD) (fun U e' => e' 0 = some (.v (ruleD n m)) ∧ e' 1 = some (.v (rgD (r0 :: X))) ∧ e' 2 = some (.v (pairD s)) ∧ ∃ B0, e' 3 = some (cellsT B0) ∧ Cnt n B0 U) ⟨a0, a1, a2, zeroT n, a3, zero_sq n, fun p hp => by rw [zero_cell hp.1 hp.2.1 hp.2.2.1 hp.2.2.2]; rfl⟩ ?_ fun e' h => h
    rintro S1 q S2 e' hS ⟨y0, y1, y2, B0, y3, cT⟩
    have iq := inP q (by rw [hS]; simp)
    refine ⟨setE (setE e' 4 (some (.v (.int q.1)))) 5 (some (.v (.int q.2))), rfl, ?_⟩
    have f3 : setE (setE e' 4 (some (T.v (.int q.1)))) 5 (some (T.v (.int q.2))) 3 = some (cellsT B0) := by simpa using y3
    have f4 : setE (setE e' 4 (some (T.v (.int q.1)))) 5 (some (T.v (.int q.2))) 4 = some (.v (.int q.1)) := by simp
    have f5 : setE (setE e' 4 (some (T.v (.int q.1)))) 5 (some (T.v (.int q.2))) 5 = some (.v (.int q.2)) := by simp
    have f0 : setE (setE e' 4 (some (T.v (.int q.1)))) 5 (some (T.v (.int q.2))) 0 = some (.v (ruleD n m)) := by simpa using y0
    have f1 : setE (setE e' 4 (some (T.v (.int q.1)))) 5 (some (T.v (.int q.2))) 1 = some (.v (rgD (r0 :: X))) := by simpa using y1
    have f2 : setE (setE e' 4 (some (T.v (.int q.1)))) 5 (some (T.v (.int q.2))) 2 = some (.v (pairD s)) := by simpa using y2
    generalize setE (setE e' 4 (some (T.v (.int q.1)))) 5 (some (T.v (.int q.2))) = e7 at f0 f1 f2 f3 f4 f5
    refine wp_setPP ?_ cT.sq iq.1 iq.2.1 iq.2.2.1 iq.2.2.2
    rw [wp_mBin]
    refine wp_ixPP f3 f4 f5 cT.sq iq.1 iq.2.1 iq.2.2.1 iq.2.2.2 ?_
    rw [wp_mC]
    refine ⟨_, addD_int, _, rfl, f3, f4, f5, rfl, by simpa using f0, by simpa using f1, by simpa using f2, putT B0 q.1 q.2 (cell B0 q.1 q.2 + 1), by simp, cT.sq.put iq.1 iq.2.1, fun p hp => ?_⟩
    rw [cell_put cT.sq iq.1 iq.2.1 iq.2.2.1 iq.2.2.2 hp.1 hp.2.1 hp.2.2.1 hp.2.2.2, List.count_append]
    by_cases c : p = q
    · subst c
      rw [if_pos ⟨rfl, rfl⟩, cT.ct p hp, List.count_singleton_self]
      omega
    · rw [if_neg (fun z => c (Prod.ext z.1 z.2)), cT.ct p hp, List.count_singleton, if_neg (by simpa using Ne.symm c)]
      omega
  obtain ⟨wk, wT⟩ := way_ok hm n5 hb hs sk cT
  have fitR : ∀ q, q ∈ r0 :: X → 1 ≤ cell B0 q.1 q.2 := fun q hq => by
    rw [cT.ct q (inP q (List.mem_append_left _ hq))]
    have : 0 < ((r0 :: X) ++ [s]).count q := List.count_pos_iff.mpr (List.mem_append_left _ hq)
    omega
  refine wp_seqK (fun e' => e' 0 = some (.v (ruleD n m)) ∧ e' 1 = some (.v (rgD (r0 :: X))) ∧ e' 2 = some (.v (pairD s)) ∧ e' 6 = some (.v (tabD B0))) ?_ fun e3 ⟨c0, c1, c2, c6⟩ => ?_
  · rw [wp_sSet]
    exact wp_rowsOut (by decide) b3 (by rw [cT.sq.len]; omega) ⟨by simpa using b0, by simpa using b1, by simpa using b2, by simp⟩
  refine wp_seqK (fun e' => e' 0 = some (.v (ruleD n m)) ∧ e' 1 = some (.v (rgD (r0 :: X))) ∧ e' 2 = some (.v (pairD s)) ∧ e' 6 = some (.v (tabD B0)) ∧ e' 7 = some (.v (tabD B0))) ?_ fun e4 ⟨d0, d1, d2, d6, d7⟩ => ?_
  · rw [wp_sSet]
    exact (g_var c6).wp ⟨by simpa using c0, by simpa using c1, by simpa using c2, by simpa using c6, by simp⟩
  refine wp_seqK (fun e' => e' 1 = some (.v (rgD (r0 :: X))) ∧ e' 6 = some (.v (tabD B0)) ∧ e' 7 = some (.v (tabD (tns B0 (wayL r0 X s))))) ?_ fun e5 ⟨k1, k6, k7⟩ => ?_
  · rw [wp_sFor, wp_mI]
    refine (g_c3 (g_var d0) (g_var d1) (g_var d2) fun e a b c => spareWay_spec (R := .none) (by omega) (by omega) e b c).wp ⟨_, rfl, ?_⟩
    refine wp_forS (S := wayL r0 X s) (g := tw) (fun U e' => e' 0 = some (.v (ruleD n m)) ∧ e' 1 = some (.v (rgD (r0 :: X))) ∧ e' 6 = some (.v (tabD B0)) ∧ e' 7 = some (.v (tabD (tns B0 U)))) ⟨d0, d1, d6, d7⟩ ?_ fun e' ⟨h0, h1, h6, h7⟩ => ⟨h1, h6, h7⟩
    rintro S1 r S2 e' hS ⟨y0, y1, y6, y7⟩
    obtain ⟨ro, rs, rf⟩ := Wk_at wk hS
    have rl := ro.len
    refine ⟨setE (setE e' 8 (some (.v (rgD r)))) 9 (some (.v (.int 1))), rfl, ?_⟩
    have z0 : setE (setE e' 8 (some (T.v (rgD r)))) 9 (some (T.v (.int 1))) 0 = some (.v (ruleD n m)) := by simpa using y0
    have z1 : setE (setE e' 8 (some (T.v (rgD r)))) 9 (some (T.v (.int 1))) 1 = some (.v (rgD (r0 :: X))) := by simpa using y1
    have z6 : setE (setE e' 8 (some (T.v (rgD r)))) 9 (some (T.v (.int 1))) 6 = some (.v (tabD B0)) := by simpa using y6
    have z7 : setE (setE e' 8 (some (T.v (rgD r)))) 9 (some (T.v (.int 1))) 7 = some (.v (tabD (tns B0 S1))) := by simpa using y7
    have z8 : setE (setE e' 8 (some (T.v (rgD r)))) 9 (some (T.v (.int 1))) 8 = some (.v (rgD r)) := by simp
    have z9 : setE (setE e' 8 (some (T.v (rgD r)))) 9 (some (T.v (.int 1))) 9 = some (.v (.int 1)) := by simp
    generalize setE (setE e' 8 (some (T.v (rgD r)))) 9 (some (T.v (.int 1))) = e7 at z0 z1 z6 z7 z8 z9
    refine wp_seqK (fun e' => e' 0 = some (.v (ruleD n m)) ∧ e' 1 = some (.v (rgD (r0 :: X))) ∧ e' 6 = some (.v (tabD B0)) ∧ e' 7 = some (.v (tabD (turnT (tns B0 S1) r 1))) ∧ e' 8 = some (.v (rgD r))) ?_ fun e8 ⟨w0, w1, w6, w7, w8⟩ => ?_
    · rw [wp_sSet]
      refine (g_c3 (g_var z7) (g_var z8) (g_var z9) fun e a b c => law_turned_spec hm n5 ro.len (fun q hq => key_in hm (ro.mem q hq)) (fun q hq => key_in hm (ro.go q hq)) rs rf e a b c).wp ?_
      exact ⟨by simpa using z0, by simpa using z1, by simpa using z6, by simp, by simpa using z8⟩
    rw [wp_sIf]
    have gY := g_it1t (Ψ := fun _ _ => False) (e := e8) (a := 11) (f := pairD) (S := goL r) (tt := mCmp ninL (mFr (mVar 11)) (mFr (mFz (mCall (lent []) 1 m__law_steps (oCons (mFr (mVar 0)) oNil))))) (me := mC (.int 1)) (fun q => !decide (q ∈ keysC m)) (fun _ => PyData.int 1) (g_mI (g_c1 (g_var w8) fun e x => goes_on_spec (by omega) e x) rfl) (by rw [goL_length]; omega) fun q e' hq h11 ho => ⟨g_cmpI (g_var h11) (g_c1 (g_var ((ho 0 (by decide)).trans w0)) fun e x => steps_list (by have := hm.len; omega) e x) (by
      show (inL _ _).map _ = _
      rw [in_prsL]
      rfl), fun _ => g_int⟩
    have emp : (goL r).filter (fun q => !decide (q ∈ keysC m)) = [] := List.filter_eq_nil_iff.mpr fun q hq z => by
      rw [decide_eq_true (ro.go q hq)] at z
      cases z
    rw [emp] at gY
    refine (g_orT (a := false) (b := false) (g_cmpI (g_var w7) g_none rfl) fun _ => g_cmpI (c := false) gY g_nilL (neD_nil (ds := []) (k := 0) (l := 0) rcs_nil (by omega))).wp ?_
    rw [if_neg (by decide), wp_sNil]
    refine ⟨rfl, w0, w1, w6, ?_⟩
    rw [w7]
    unfold tns
    rw [List.foldl_append]
    rfl
  · rw [wp_sRet]
    rw [wT] at k7
    refine (g_mB (g_cmpI (c := true) (g_var k7) (g_c3 (g_var k6) (g_var k1) g_int fun e a b c => law_turned_spec hm n5 ok.len (fun q hq => key_in hm (ok.mem q hq)) (fun q hq => key_in hm (ok.go q hq)) cT.sq fitR e a b c) ?_)).wp rfl
    rw [eqD_of (shaped_tab _) (shaped_tab _) rfl, eqv_tab]
    simp
end
theorem shaped_tup {ds : List PyData} {k l : Nat} (h : RCs ds k l) (hk : k ≤ 50) : SeqAt.shaped (.tuple ds) = true := by
  have := shaped_rcs h hk
  unfold SeqAt.shaped at this ⊢
  simp only [PyData.canLay0, PyData.depth] at this ⊢
  exact this
theorem eqD_tup {ds : List PyData} {k l : Nat} (h : RCs ds k l) (hk : k ≤ 50) : eqD (.tuple ds) (.tuple ds) = some true := by
  have s := shaped_tup h hk
  rw [eqD_of s s rfl, SeqAt.eqv_refl _ (SeqAt.canLay_of_shaped s)]
section
variable {n : Nat} {m : Cl}
theorem cnt_add {P : List PP} (h : ∀ q, q ∈ P → InN n q) : Cnt n (addN (zeroT n) P 1) P := ⟨addN_sq (zero_sq n) h, fun p hp => by rw [cell_addN hp (zero_sq n) h, zero_cell hp.1 hp.2.1 hp.2.2.1 hp.2.2.2]; omega⟩
theorem wk_ok : ∀ {W : List (List PP)} {T : List (List Int)}, Wk n m T W → ∀ r, r ∈ W → Okr m r
  | [], _, _, r, hr => nomatch hr
  | a :: W, T, h, r, hr => by
    rcases List.mem_cons.mp hr with z | z
    · rw [z]; exact h.1
    · exact wk_ok h.2.2.2 r z
theorem pairL_len (u v : PP) : (pairL u v).length = 2 := by unfold pairL; split <;> rfl
theorem way_two {r0 : PP} {X : List PP} {s : PP} : ∀ r, r ∈ wayL r0 X s → r.length = 2 := fun r hr => by
  have wf : ∀ (Y : List PP) (lt : Int), ∀ r, r ∈ wF s.1 lt Y → r.length = 2 := fun Y => by
    induction Y with
    | nil => intro lt r hr; cases hr
    | cons a Y ih =>
      intro lt r hr
      rcases List.mem_cons.mp hr with z | z
      · rw [z]; exact pairL_len _ _
      · exact ih a.2 r z
  unfold wayL at hr
  rcases List.mem_cons.mp hr with z | z
  · rw [z]; exact pairL_len _ _
  · rcases List.mem_append.mp z with w | w
    · exact wf _ _ r w
    · rw [List.mem_singleton.mp w]; exact pairL_len _ _
theorem way_len {r0 : PP} {X : List PP} {s : PP} : (wayL r0 X s).length = X.length + 2 := by
  have wl : ∀ (Y : List PP) (lt : Int), (wF s.1 lt Y).length = Y.length := fun Y => by
    induction Y with
    | nil => intro _; rfl
    | cons a Y ih => intro lt; show (wF s.1 a.2 Y).length + 1 = _; rw [ih, List.length_cons]
  unfold wayL
  rw [List.length_cons, List.length_append, wl, List.length_reverse, List.length_singleton]
theorem rc_tw {r : List PP} (h : Sm r) (hl : r.length = 2) : RC (tw r) 6 1000 := (rc_tup (rcs_cons (rc_prs h (by omega)) (rcs_cons ((rc_int (i := 1) (by omega) (by omega)).mono (by omega) (by omega : 4 ≤ 300)) rcs_nil))).mono (by omega) (by simp)
theorem rc_way {r0 : PP} {X : List PP} {s : PP} (hm : RowOk n 100 200 m) (n5 : n ≤ 5) (hb : IsBare n m (r0 :: X)) (hs : spB m (r0 :: X) s = true) (sk : s ∈ keysC m) : RCs ((wayL r0 X s).map tw) 6 1000 := rcs_map fun r hr => by
  have inP : ∀ q, q ∈ (r0 :: X) ++ [s] → InN n q := fun q hq => by
    rcases List.mem_append.mp hq with z | z
    · exact hb.rng q z
    · rw [List.mem_singleton.mp z]; exact key_in hm sk
  have ok := wk_ok (way_ok hm n5 hb hs sk (cnt_add inP)).1 r hr
  exact rc_tw (fun q hq => by have := mem_rng hm (ok.mem q hq); omega) (way_two r hr)
end
def st1 (m : Cl) (k : Nat) : Cl := putC (putC m ((k : Int), 3) 0) (3, (k : Int)) 0
def st2 (m : Cl) (k : Nat) : Cl := putC (putC m ((k : Int), (k : Int)) 0) ((k : Int), ((k : Int) + 1) % 3) 0
def m4 : Cl := (List.range 4).foldl st1 []
def m7 : Cl := (List.range 3).foldl st2 m4
theorem wp_ruleC {j : Nat} {n c : Nat} {w : Int} {m : Cl} {e : Env} {Φ : T → Env → Prop} {Ψ : Exn → Env → Prop} {k : Int} (hk : k = (n : Nat)) (h1 : e j = some (clT m)) (hm : ClOk n c w m) (hc : c ≤ 1000)
    (q : Φ (.v (ruleD n (rowsOf m))) (setE e j (some (.v (clD m))))) : wp (mCall (lent []) 2 m__law_rule_of (oCons (mFr (mC (.int k))) (oCons (mFr (mVar j)) oNil))) e Φ Ψ := by
  subst hk
  rw [wp_mCall]
  have hf : T.fz (clT m) = some (clD m) := fz_clT m
  simp [h1]
  unfold clT at hf ⊢
  simp only [onVar_dT]
  refine ⟨_, hf, rfl, wp_mono (rule_of_spec (Ψ := fun _ _ => False) (n := n) (m := m) rfl rfl hm hc) ?_ ?_⟩
  · rintro r e' ⟨rfl, rfl⟩
    refine ⟨_, rfl, ?_⟩
    have := outE0 (e := setE e j (some (.v (clD m)))) (e' := inE [.fr (.int n), .fr (clD m)] (setE e j (some (.v (clD m))))) [.int n, clD m]
    simp only [List.map_cons, List.map_nil] at this
    rw [this]
    exact q
  · intro _ _ z
    exact z.elim
theorem ints_rg (n : Nat) : intsD 0 n = (List.range n).map fun k : Nat => PyData.int (k : Int) := by
  unfold intsD
  refine List.map_congr_left fun k _ => ?_
  rw [Int.zero_add]
theorem says : ∀ ns : List Int, ns.length ≤ 63 → ∃ env', m_law (lawEnv ns) = .ok (.rt (.v (.bool true))) env' := by
  intro ns hns
  have key : wp m_law (lawEnv ns) (fun f _ => f = .rt (.v (.bool true))) fun _ _ => False := by
    unfold m_law
    refine wp_seqK (fun e => PenT (e 1) ∧ e 0 = some (.scr ns)) ?_ fun e0 ⟨hp0, hs0⟩ => ?_
    · rw [wp_sSetO, wp_mCall]
      simp only [wp_oCons, wp_mPk, wp_oNil]
      refine ⟨⟨_, rfl⟩, ⟨rfl, rfl⟩, wp_mono (pen_spec (Ψ := fun _ _ => False) (ns := ns) rfl) ?_ fun _ _ z => z.elim⟩
      rintro f e' ⟨t, rfl, ht, h0⟩
      exact ⟨t, rfl, by rw [outE1]; simpa using ht, by rw [outE1]; simpa using h0⟩
    refine wp_seqK (fun e => True) ?_ fun e1 _ => ?_
    · rw [wp_sFor]
      simp only [wp_mIA, wp_mArgs, wp_aCons, wp_mC, wp_aNil, wp_mLenS]
      obtain ⟨N, hN, hN2⟩ : ∃ N : Nat, N ≤ 1000 ∧ (if (if (ns.length : Int) < 6 then (ns.length : Int) else 6) > 2 then (if (ns.length : Int) < 6 then (ns.length : Int) else 6) else 2) = (N : Int) := by
        refine ⟨(if (if (ns.length : Int) < 6 then (ns.length : Int) else 6) > 2 then (if (ns.length : Int) < 6 then (ns.length : Int) else 6) else 2).toNat, ?_, ?_⟩
        · split <;> split <;> omega
        · split <;> split <;> omega
      refine ⟨ns, hs0, _, rfl, _, rfl, _, (by rw [hN2]; exact rng1_n hN), wp_forL (fun _ e => PenT (e 1)) _ hp0 (fun e h => trivial) ?_⟩
      intro x xs e hp
      refine ⟨_, rfl, ?_⟩
      have hp : PenT (setE e 2 (some (T.v x)) 1) := by simpa using hp
      generalize setE e 2 (some (T.v x)) = e at hp
      refine wp_seqK (fun e => PenT (e 1) ∧ ∃ (n : Nat) (m : Cl), 2 ≤ n ∧ n ≤ 5 ∧ RowOk n 100 200 m ∧ e 3 = some (.v (ruleD n m))) ?_ fun e3 ⟨hp3, n, m, n2, n5, hm, k3⟩ => ?_
      · rw [wp_sSet, wp_mFz]
        refine wp_pen2 (D := fun d e' => ∃ n : Nat, d = .int n ∧ 2 ≤ n ∧ n ≤ 5 ∧ PenT (e' 1)) hp.there ?_ ?_
        · simp only [wp_mBin, wp_mC, wp_mFz]
          refine wp_draw 3 hp (by simp [Gives]) (by omega) (by omega) fun d p d0 d1 hp' => ?_
          exact ⟨_, fz_v, _, rfl, (3 + d).toNat, by rw [Int.toNat_of_nonneg (by omega)], by omega, by omega, by simpa using hp'⟩
        · rintro d e' ⟨n, rfl, n2, n5, hp'⟩
          refine ⟨fun t => RuleT n t, hp', fun e h0 h1 => rule_spec h0 h1 n5 (by omega), ?_⟩
          rintro t p ⟨m, rfl, hm⟩ hp''
          exact ⟨_, fz_v, by simpa using hp'', n, m, n2, n5, hm, by simp⟩
      have rcb : ∀ b : Bool, reprC (.bool b) = true := fun b => by cases b <;> decide +kernel
      have Sl : (sortR (bareL n m)).length ≤ 600 := by unfold sortR; rw [List.length_mergeSort]; exact bareL_len n5
      rw [wp_sFor, wp_mI]
      have gS : Gives (mSl (mFz (mCall (lent []) 1 m__law_bare_rings (oCons (mFr (mVar 3)) oNil))) mNo (mPart (mC (.int 6)))) e3 (.list (((sortR (bareL n m)).take 6).map rgD)) fun _ _ => False := by
        have := g_slL (Ψ := fun _ _ => False) (g_c1 (g_var k3) fun e x => lbares_spec hm n5 e x) gp_no (gp_part (ma := mC (.int 6)) (i := ((6 : Nat) : Int)) g_int)
        rw [cut_hi, ← List.map_take] at this
        exact this
      refine gS.wp ⟨_, rfl, ?_⟩
      refine wp_forS (S := (sortR (bareL n m)).take 6) (g := rgD) (fun U e => PenT (e 1) ∧ e 3 = some (.v (ruleD n m))) ⟨hp3, k3⟩ ?_ fun e h => h.1
      rintro S1 l S2 e4 hS ⟨q1, q3⟩
      have hl : l ∈ sortR (bareL n m) := List.mem_of_mem_take (show l ∈ (sortR (bareL n m)).take 6 by rw [hS]; simp)
      have hb : IsBare n m l := mem_bareL.mp (List.mem_mergeSort.mp hl)
      have l5 := bare_len5 n5 hl
      have l3 := hb.l3
      obtain ⟨r0, X, rfl⟩ : ∃ r0 X, l = r0 :: X := by
        cases l with
        | nil => simp at l3
        | cons r0 X => exact ⟨r0, X, rfl⟩
      rw [List.length_cons] at l3 l5
      refine ⟨setE e4 4 (some (.v (rgD (r0 :: X)))), rfl, ?_⟩
      have t1 : PenT (setE e4 4 (some (T.v (rgD (r0 :: X)))) 1) := by simpa using q1
      have t3 : setE e4 4 (some (T.v (rgD (r0 :: X)))) 3 = some (.v (ruleD n m)) := by simpa using q3
      have t4 : setE e4 4 (some (T.v (rgD (r0 :: X)))) 4 = some (.v (rgD (r0 :: X))) := setE_same
      generalize setE e4 4 (some (T.v (rgD (r0 :: X)))) = e5 at t1 t3 t4
      have ml : m.length ≤ 100 := hm.len
      rw [wp_sFor, wp_mI]
      refine (g_c1 (g_var t3) fun e x => steps_list (by omega) e x).wp ⟨_, rfl, ?_⟩
      refine wp_forS (S := keysC m) (g := pairD) (fun U e => PenT (e 1) ∧ e 3 = some (.v (ruleD n m)) ∧ e 4 = some (.v (rgD (r0 :: X)))) ⟨t1, t3, t4⟩ ?_ fun e h => ⟨rfl, h.1, h.2.1⟩
      rintro T1 s T2 e6 hT ⟨u1, u3, u4⟩
      have sk : s ∈ keysC m := by rw [hT]; simp
      refine ⟨setE e6 5 (some (.v (pairD s))), rfl, ?_⟩
      have v1 : PenT (setE e6 5 (some (T.v (pairD s))) 1) := by simpa using u1
      have v3 : setE e6 5 (some (T.v (pairD s))) 3 = some (.v (ruleD n m)) := by simpa using u3
      have v4 : setE e6 5 (some (T.v (pairD s))) 4 = some (.v (rgD (r0 :: X))) := by simpa using u4
      have v5 : setE e6 5 (some (T.v (pairD s))) 5 = some (.v (pairD s)) := setE_same
      generalize setE e6 5 (some (T.v (pairD s))) = e7 at v1 v3 v4 v5
      refine wp_seqK (fun e => PenT (e 1) ∧ e 3 = some (.v (ruleD n m)) ∧ e 4 = some (.v (rgD (r0 :: X))) ∧ e 5 = some (.v (pairD s)) ∧ e 6 = some (.v (.bool (spB m (r0 :: X) s)))) ?_ fun e8 ⟨w1, w3, w4, w5, w6⟩ => ?_
      · rw [wp_sSet]
        refine (g_c3 (g_var v3) (g_var v4) (g_var v5) fun e a b c => lspare_spec (by omega) (by rw [List.length_cons]; omega) e a b c).wp ?_
        exact ⟨by simpa using v1, by simpa using v3, by simpa using v4, by simpa using v5, by simp⟩
      rw [wp_sSeq, wp_sIf]
      refine (g_cmpI (c := false) (g_repr (g_c3 (g_var w3) (g_var w4) (g_var w5) fun e a b c => is_spare_spec (by rw [List.length_cons]; omega) e a b c) (rcb _)) (g_repr (g_var w6) (rcb _)) (neD_same _)).wp ?_
      rw [if_neg (by decide), wp_sNil]
      simp only []
      rw [wp_sSeq, wp_sIf]
      cases hsp : spB m (r0 :: X) s with
      | false =>
        rw [hsp] at w6
        refine (g_both (a := false) (b := false) (g_tru (g_var w6)) fun z => nomatch z).wp ?_
        rw [if_neg (by decide), wp_sNil]
        simp only []
        refine wp_seqK (fun e => PenT (e 1) ∧ e 3 = some (.v (ruleD n m)) ∧ e 4 = some (.v (rgD (r0 :: X))) ∧ e 6 = some (.v (.bool false))) ?_ fun e9 ⟨x1, x3, x4, x6⟩ => ?_
        · rw [wp_sSet, wp_mIf]
          refine (g_tru (g_var w6)).wp ?_
          rw [if_neg (by decide)]
          refine (g_tupA (Ψ := fun _ _ => False) .nil (by simp)).wp ?_
          exact ⟨by simpa using w1, by simpa using w3, by simpa using w4, by simpa using w6⟩
        rw [wp_sIf]
        refine (g_both (a := false) (b := false) (g_tru (g_var x6)) fun z => nomatch z).wp ?_
        rw [if_neg (by decide), wp_sNil]
        exact ⟨rfl, x1, x3, x4⟩
      | true =>
        rw [hsp] at w6
        refine (g_both (a := true) (b := false) (g_tru (g_var w6)) fun _ => g_notT (b := true) (g_tru (g_c3 (g_var w3) (g_var w4) (g_var w5) fun e a b c => walks_spec hm n5 hb hsp sk e a b c))).wp ?_
        rw [if_neg (by decide), wp_sNil]
        simp only []
        have rw' := rc_way hm n5 hb hsp sk
        have rcW : reprC (.tuple ((wayL r0 X s).map tw)) = true := ((rc_tup rw').mono (k' := 8) (l' := 10000) (by omega) (by rw [List.length_map, way_len]; omega)).rep (by omega) (by omega)
        refine wp_seqK (fun e => PenT (e 1) ∧ e 3 = some (.v (ruleD n m)) ∧ e 4 = some (.v (rgD (r0 :: X))) ∧ e 5 = some (.v (pairD s)) ∧ e 6 = some (.v (.bool true)) ∧ e 7 = some (.v (.tuple ((wayL r0 X s).map tw)))) ?_ fun e9 ⟨x1, x3, x4, x5, x6, x7⟩ => ?_
        · rw [wp_sSet, wp_mIf]
          refine (g_tru (g_var w6)).wp ?_
          rw [if_pos rfl]
          refine (g_c3 (g_var w3) (g_var w4) (g_var w5) fun e a b c => spareWay_spec (R := .none) (by omega) (by omega) e b c).wp ?_
          exact ⟨by simpa using w1, by simpa using w3, by simpa using w4, by simpa using w5, by simpa using w6, by simp⟩
        rw [wp_sIf]
        refine (g_both (a := true) (b := false) (g_tru (g_var x6)) fun _ => g_cmpI (g_repr (g_var x7) rcW) (g_repr (g_c2 (g_var x4) (g_var x5) fun e a b => lawWay_spec (by omega) (by omega) e a b) rcW) (neD_same _)).wp ?_
        rw [if_neg (by decide), wp_sNil]
        exact ⟨rfl, x1, x3, x4⟩
    -- by hand
    rw [wp_sSeq, wp_sSetO, wp_mDT0]
    refine wp_seqK (fun e => e 8 = some (clT m4)) ?_ fun e2 h8 => ?_
    · rw [wp_sFor, wp_mIA, wp_aCons, wp_mC, wp_aNil]
      refine ⟨_, rng1_n (n := 4) (by omega), ?_⟩
      rw [ints_rg]
      refine wp_forS (S := List.range 4) (g := fun k : Nat => PyData.int (k : Int)) (fun U e => e 8 = some (clT (U.foldl st1 [])) ∧ ClOk 4 (2 * U.length) 0 (U.foldl st1 [])) ⟨by simp; rfl, ⟨by simp, by simp, by simp, by simp⟩⟩ ?_ fun e h => h.1
      rintro S1 k S2 e hS ⟨y8, ok⟩
      obtain ⟨_, kl⟩ := range_at hS
      have sl : S1.length ≤ 4 := by have := congrArg List.length hS; simp at this; omega
      refine ⟨setE e 9 (some (.v (.int (k : Int)))), rfl, ?_⟩
      have z8 : setE e 9 (some (T.v (.int (k : Int)))) 8 = some (clT (S1.foldl st1 [])) := by simpa using y8
      have z9 : setE e 9 (some (T.v (.int (k : Int)))) 9 = some (.v (.int (k : Int))) := setE_same
      generalize setE e 9 (some (T.v (.int (k : Int)))) = e3 at z8 z9
      have ok1 := putC_ok (k := ((k : Int), 3)) (v := 0) ok (by show 0 ≤ (k : Int); omega) (by show (k : Int) < (4 : Nat); omega) (by show (0 : Int) ≤ 3; omega) (by show (3 : Int) < (4 : Nat); omega) (by omega) (by omega)
      have ok2 := putC_ok (k := (3, (k : Int))) (v := 0) ok1 (by show (0 : Int) ≤ 3; omega) (by show (3 : Int) < (4 : Nat); omega) (by show 0 ≤ (k : Int); omega) (by show (k : Int) < (4 : Nat); omega) (by omega) (by omega)
      rw [wp_sSeq, wp_sPutD, wp_mC]
      refine ⟨⟨_, z8⟩, (g_tup2 (g_var z9) (g_int (i := 3))).wp ?_⟩
      refine wp_putC z8 ok (by omega) ?_
      simp only []
      rw [wp_sPutD, wp_mC]
      refine ⟨⟨_, setE_same⟩, (g_tup2 (g_int (i := 3)) (g_var (d := .int (k : Int)) (by simpa using z9))).wp ?_⟩
      refine wp_putC setE_same ok1 (by omega) ⟨rfl, ?_, ?_⟩
      · rw [setE_same, List.foldl_append]
        rfl
      · rw [List.foldl_append, List.length_append, List.length_singleton]
        exact ok2.mono (by omega) (by omega)
    have ok4 : ClOk 4 8 0 m4 := ⟨by decide, by decide, by decide, by decide⟩
    refine wp_seqK (fun e => e 8 = some (clT m7)) ?_ fun e3 h8 => ?_
    · rw [wp_sFor, wp_mIA, wp_aCons, wp_mC, wp_aNil]
      refine ⟨_, rng1_n (n := 3) (by omega), ?_⟩
      rw [ints_rg]
      refine wp_forS (S := List.range 3) (g := fun k : Nat => PyData.int (k : Int)) (fun U e => e 8 = some (clT (U.foldl st2 m4)) ∧ ClOk 4 (8 + 2 * U.length) 0 (U.foldl st2 m4)) ⟨h8, ok4⟩ ?_ fun e h => h.1
      rintro S1 k S2 e hS ⟨y8, ok⟩
      obtain ⟨_, kl⟩ := range_at hS
      have sl : S1.length ≤ 4 := by have := congrArg List.length hS; simp at this; omega
      refine ⟨setE e 9 (some (.v (.int (k : Int)))), rfl, ?_⟩
      have z8 : setE e 9 (some (T.v (.int (k : Int)))) 8 = some (clT (S1.foldl st2 m4)) := by simpa using y8
      have z9 : setE e 9 (some (T.v (.int (k : Int)))) 9 = some (.v (.int (k : Int))) := setE_same
      generalize setE e 9 (some (T.v (.int (k : Int)))) = e3 at z8 z9
      have ok1 := putC_ok (k := ((k : Int), (k : Int))) (v := 0) ok (by show 0 ≤ (k : Int); omega) (by show (k : Int) < (4 : Nat); omega) (by show 0 ≤ (k : Int); omega) (by show (k : Int) < (4 : Nat); omega) (by omega) (by omega)
      have ok2 := putC_ok (k := ((k : Int), ((k : Int) + 1) % 3)) (v := 0) ok1 (by show 0 ≤ (k : Int); omega) (by show (k : Int) < (4 : Nat); omega) (by show 0 ≤ ((k : Int) + 1) % 3; omega) (by show ((k : Int) + 1) % 3 < (4 : Nat); omega) (by omega) (by omega)
      rw [wp_sSeq, wp_sPutD, wp_mC]
      refine ⟨⟨_, z8⟩, (g_tup2 (g_var z9) (g_var z9)).wp ?_⟩
      refine wp_putC z8 ok (by omega) ?_
      simp only []
      rw [wp_sPutD, wp_mC]
      have z9' : setE e3 8 (some (clT (putC (S1.foldl st2 m4) ((k : Int), (k : Int)) 0))) 9 = some (.v (.int (k : Int))) := by simpa using z9
      have gm : Gives (mBin modI (mArgs intF (aCons (mBin addD (mVar 9) (mC (.int 1))) aNil)) (mC (.int 3))) (setE e3 8 (some (clT (putC (S1.foldl st2 m4) ((k : Int), (k : Int)) 0)))) (.int (((k : Int) + 1) % 3)) fun _ _ => False := by
        unfold Gives
        rw [wp_mBin, wp_mArgs, wp_aCons]
        refine (g_add (g_var z9') (g_int (i := 1))).wp ?_
        rw [wp_aNil]
        refine ⟨_, rfl, ?_⟩
        rw [wp_mC]
        exact ⟨_, by rw [modI_int, if_pos (by omega)], rfl, rfl⟩
      refine ⟨⟨_, setE_same⟩, (g_tup2 (g_var z9') gm).wp ?_⟩
      refine wp_putC setE_same ok1 (by omega) ⟨rfl, ?_, ?_⟩
      · rw [setE_same, List.foldl_append]
        rfl
      · rw [List.foldl_append, List.length_append, List.length_singleton]
        exact ok2.mono (by omega) (by omega)
    have ok7 : ClOk 4 14 0 m7 := ⟨by decide, by decide, by decide, by decide⟩
    refine wp_seqK (fun e => e 10 = some (.v (ruleD 4 (rowsOf m7))) ∧ e 4 = some (.v (rgD [(0, 0), (1, 1), (2, 2)]))) ?_ fun e4 ⟨h10, h4⟩ => ?_
    · rw [wp_sPar, wp_tCn, wp_mV, wp_mFz]
      refine wp_ruleC (n := 4) (k := 4) rfl h8 ok7 (by omega) ?_
      refine ⟨_, fz_v, ?_⟩
      rw [wp_tCn, wp_mV]
      refine (g_tupA (Ψ := fun _ _ => False) (.cons (g_tup2 (g_int (i := 0)) (g_int (i := 0))) (.cons (g_tup2 (g_int (i := 1)) (g_int (i := 1))) (.cons (g_tup2 (g_int (i := 2)) (g_int (i := 2))) .nil))) (by simp)).wp ?_
      rw [wp_tNl]
      exact ⟨_, rfl, by simp, by simp; rfl⟩
    have sp1 : spB (rowsOf m7) [(0, 0), (1, 1), (2, 2)] (3, 3) = true := by
      unfold spB
      simp only [has_rows]
      decide
    have sp2 : spB (rowsOf m7) [(0, 0), (1, 1), (2, 2)] (0, 3) = false := by
      unfold spB
      simp only [has_rows]
      decide
    have g33 : ∀ e : Env, Gives (mArgs tupF (aCons (mC (.int 3)) (aCons (mC (.int 3)) aNil))) e (pairD (3, 3)) fun _ _ => False := fun e => g_tup2 g_int g_int
    have g03 : ∀ e : Env, Gives (mArgs tupF (aCons (mC (.int 0)) (aCons (mC (.int 3)) aNil))) e (pairD (0, 3)) fun _ _ => False := fun e => g_tup2 g_int g_int
    rw [wp_sSeq, wp_sIf]
    refine (g_orT (a := false) (b := false) (g_notT (b := true) (g_tru (g_c3 (g_var h10) (g_var h4) (g33 _) fun e a b c => by rw [← sp1]; exact is_spare_spec (by simp) e a b c))) fun _ => g_tru (g_c3 (g_var h10) (g_var h4) (g03 _) fun e a b c => by rw [← sp2]; exact is_spare_spec (by simp) e a b c)).wp ?_
    rw [if_neg (by decide), wp_sNil]
    simp only []
    have gp : ∀ (e : Env) (a b c d : Int), Gives (mArgs tupF (aCons (mArgs tupF (aCons (mC (.int a)) (aCons (mC (.int b)) aNil))) (aCons (mArgs tupF (aCons (mC (.int c)) (aCons (mC (.int d)) aNil))) aNil))) e (rgD [(a, b), (c, d)]) fun _ _ => False := fun e a b c d => g_tupA (.cons (show Gives _ e (pairD (a, b)) _ from g_tup2 g_int g_int) (.cons (show Gives _ e (pairD (c, d)) _ from g_tup2 g_int g_int) .nil)) (by simp)
    refine wp_seqK (fun e => e 10 = some (.v (ruleD 4 (rowsOf m7))) ∧ e 4 = some (.v (rgD [(0, 0), (1, 1), (2, 2)])) ∧ e 11 = some (.v (.tuple ((wayL (0, 0) [(1, 1), (2, 2)] (3, 3)).map rgD)))) ?_ fun e5 ⟨i10, i4, i11⟩ => ?_
    · rw [wp_sSet]
      refine (g_tupA (.cons (gp _ _ _ _ _) (.cons (gp _ _ _ _ _) (.cons (gp _ _ _ _ _) (.cons (gp _ _ _ _ _) .nil)))) (by simp)).wp ?_
      exact ⟨by simpa using h10, by simpa using h4, by rw [setE_same]; rfl⟩
    rw [wp_sRet]
    have gw := g_c3 (r := .tuple ((wayL (0, 0) [(1, 1), (2, 2)] (3, 3)).map tw)) (Ψ := fun _ _ => False) (g_var i10) (g_var i4) (g33 e5) fun e a b c => spareWay_spec (R := .none) (by simp) (by simp) e b c
    have gt : Gives (mArgs tupleF (aCons (mLc (mI seqOf (mVar 11)) (gNm 12) (pure true) (mArgs tupF (aCons (mVar 12) (aCons (mC (.int 1)) aNil))) [12]) aNil)) e5 (.tuple ((wayL (0, 0) [(1, 1), (2, 2)] (3, 3)).map tw)) fun _ _ => False := by
      unfold Gives
      rw [wp_mArgs, wp_aCons]
      refine (g_it1 (Ψ := fun _ _ => False) (e := e5) (a := 12) (f := rgD) (S := wayL (0, 0) [(1, 1), (2, 2)] (3, 3)) (me := mArgs tupF (aCons (mVar 12) (aCons (mC (.int 1)) aNil))) tw (g_mI (g_var i11) rfl) (by rw [way_len]; simp) fun r e' hr h12 ho => g_tupA (.cons (g_var h12) (.cons g_int .nil)) (by simp)).wp ?_
      rw [wp_aNil]
      exact ⟨_, tupleF_list, rfl, rfl⟩
    have rcT : RCs ((wayL (0, 0) [(1, 1), (2, 2)] (3, 3)).map tw) 6 1000 := rcs_map fun r hr => rc_tw (fun q hq => by
      have : ∀ r, r ∈ wayL (0, 0) [(1, 1), (2, 2)] (3, 3) → ∀ q, q ∈ r → -200 ≤ q.1 ∧ q.1 ≤ 200 ∧ -200 ≤ q.2 ∧ q.2 ≤ 200 := by decide
      exact this r hr q hq) (way_two r hr)
    exact (g_mB (g_cmpI (c := true) gw gt (eqD_tup rcT (by omega)))).wp rfl
  obtain ⟨a, e', h1, h2⟩ := wp_ok key
  exact ⟨e', by rw [h1, h2]⟩
end PD.Lk41

open PySem PySem.W PySem.Calls PyProof.Rows
theorem PySem.Challenge.cw_swaprings_k41_spares_judged_and_walked_holds : PySem.Challenge.rw_swaprings_k41_spares_judged_and_walked.Holds := by
  w_on; o_law
  refine HandSHeadRun.head_any (r := OpenLaw.row PySem.Challenge.rw_swaprings_k41_spares_judged_and_walked) (q := view (OpenLaw.row PySem.Challenge.rw_swaprings_k41_spares_judged_and_walked).prog [27]) (H := PD.Lk41.hk) (ob := PD.Lk41.ob) (M := 2000) (loose := PD.Lk41.loose)
    (d := HandSHeadRun.topDef (OpenLaw.row PySem.Challenge.rw_swaprings_k41_spares_judged_and_walked).prog 27) (kwd := []) PD.Lk41.ob_eq
    (by kernel_rfl) (fun s => by kernel_rfl) PD.Lk41.run (by kernel_rfl) (by kernel_rfl) (by kernel_rfl) (by rfl) (by first | assumption | decide +kernel) (by decide +kernel) ⟨rfl, rfl, rfl, rfl, rfl, by decide +kernel⟩ ?hw ?hc
  case hw => w_witness2
  case hc =>
    refine PD.pd_end (l := PySem.Challenge.rw_swaprings_k41_spares_judged_and_walked) (n := 63) (k := 6) (x := "script") (B := PD.lent [0]) (m := PD.Lk41.m_law) rfl (by decide) (by kernel_rfl) ⟨rfl, by decide, by decide⟩ PD.Lk41.says ?F
    intro w mg fa h Y G hmg0
    obtain ⟨K, KX, c⟩ := Y
    have hmg : mg ("law" : PySem.Str) = some (.ref fa) := by
      have e : (HandSHeadRun.topDef (OpenLaw.row PySem.Challenge.rw_swaprings_k41_spares_judged_and_walked).prog 27).name = ("law" : PySem.Str) := by kernel_rfl
      rw [← e]
      exact hmg0
    obtain ⟨fd, hb, hF⟩ := PD.Lk41.facts (P := (PySem.Challenge.rw_swaprings_k41_spares_judged_and_walked).prog) (w := w) (cl := fun _ => 0) KX G hmg c
    exact ⟨K, fd, fun _ => 0, KX, hb, hF⟩


